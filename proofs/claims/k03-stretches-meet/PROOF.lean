import PyProof.Rows.All
import Wide.All
import OpenK.AllK
import Wide.FinOn
import HandS.ForMost
import HandS.ForExc
import HandS.CallSlots
import HandS.More
import HandS.Star
import HandS.IsInst
import KE.Datum
import HandS.Nested
import HandS.ExcInit
import HandS.ExcSuper
import KE.KExcSuper
import HandS.TryOnly
import HandS.ExcField
import HandS.ExcOwn
import KE.KExcIs
import KE.KOpsOwn
import HandS.SortInts
import HandS.ExcIs
import PySem.Challenge.RW_gaugemiss_k03_stretches_meet
set_option Elab.async false
set_option linter.all false
set_option maxRecDepth 100000
set_option maxHeartbeats 4000000
namespace G
open PySem L2

/-! ## Plain data -/
inductive Cl where
  | Stretch | Levels | Gauge | CoarseGauge | LateGauge | LateCoarseGauge | Rack | Rule | Leaf | Rank | Trim | Weigh | Miss | Case | Twins | Keeper | Desk | SteadyDesk | Finder
  deriving DecidableEq
inductive Ec where
  | GaugeError | BadStretch | NoLevel | Apart | BadNeed | BadLiars | BadGauge | DuplicateGauge | UnknownGauge | MissingReading | BadRule | BadText | BadLine | SharedFault | BadPaper | NoBound | BadLimit | NoCase | NoTruth | NoTick
  | NotPossible | NothingToUndo | NothingToRedo | NotRanked | NoRule
  deriving DecidableEq
inductive Fd where
  | low | high | pieces | name | radius | step | late | pace | gauges | groups | written | parts | ranked | place | cut | weights | above | below | level | readings | lot | reply
  | low_level | low_lot | high_level | high_lot | bound | order | gone | rack | start | rows | many | lines | past | future | rules | places | first | second | number | kind | text | line | row | tick
  deriving DecidableEq
def Fd.str : Fd → Str
  | .low => "low" | .high => "high" | .pieces => "pieces" | .name => "name" | .radius => "radius" | .step => "step" | .late => "late" | .pace => "pace" | .gauges => "gauges" | .groups => "groups"
  | .written => "written" | .parts => "parts" | .ranked => "ranked" | .place => "place" | .cut => "cut" | .weights => "weights" | .above => "above" | .below => "below" | .level => "level" | .readings => "readings"
  | .lot => "lot" | .reply => "reply" | .low_level => "low_level" | .low_lot => "low_lot" | .high_level => "high_level" | .high_lot => "high_lot" | .bound => "bound" | .order => "order" | .gone => "gone"
  | .rack => "rack" | .start => "start" | .rows => "rows" | .many => "many" | .lines => "lines" | .past => "past" | .future => "future" | .rules => "rules" | .places => "places" | .first => "first" | .second => "second"
  | .number => "number" | .kind => "kind" | .text => "text" | .line => "line" | .row => "row" | .tick => "tick"
def Fd.all : List Fd := [.low, .high, .pieces, .name, .radius, .step, .late, .pace, .gauges, .groups, .written, .parts, .ranked, .place, .cut, .weights, .above, .below, .level, .readings, .lot, .reply,
  .low_level, .low_lot, .high_level, .high_lot, .bound, .order, .gone, .rack, .start, .rows, .many, .lines, .past, .future, .rules, .places, .first, .second, .number, .kind, .text, .line, .row, .tick]
def Fd.of (x : Str) : Option Fd := Fd.all.find? fun f => decide (f.str = x)
theorem Fd.of_str (f : Fd) : Fd.of f.str = some f := by
  cases f <;> decide +kernel
theorem Fd.inj {f g : Fd} (h : f.str = g.str) : f = g := by
  have e := Fd.of_str f
  rw [h, Fd.of_str g] at e
  exact (Option.some.inj e).symm

inductive D where
  | non | bl (b : Bool) | int (i : Int) | str (x : Str)
  | lst (l : List D) | tup (l : List D) | obj (c : Cl) (fs : List Fd) (ds : List D) | dic (ks : List Key) (ds : List D)
  | ptr (a : Addr) | scr (ns : List Int) | xcp (a : Addr) (d : Option Addr) (fs : List Fd) (ds : List D)

/-- an error that flies: its class, its fields -/
structure Exn where
  c : Ec
  fs : List Fd
  ds : List D

/-- where the classes stand -/
structure Gm where
  K : PySem.W.Frag
  ca : Cl → Addr
  ea : Ec → Addr

def zipF (fs : List Fd) (vs : List V) : List (Str × V) := (fs.map Fd.str).zip vs
def zipK (ks : List Key) (vs : List V) : List (Key × V) := ks.zip vs
/-- the fields of an error stand in its dict -/
def XFs (F : Hp) (d : Option Addr) (fs : List Fd) (vs : List V) : Prop := (∀ dd, d = some dd → ∃ vfs, F dd = some (.xd vfs)) ∧ ∀ (f : Fd) (w : V), (zipF fs vs).lookup f.str = some w → ∃ a vfs, d = some a ∧ F a = some (.xd vfs) ∧ vfs.lookup f.str = some w
theorem XFs.mono {F F' : Hp} {d : Option Addr} {fs : List Fd} {vs : List V} (h : XFs F d fs vs) (e : Same F F') : XFs F' d fs vs := ⟨fun dd q => by
  obtain ⟨vfs, h1⟩ := h.1 dd q
  exact ⟨vfs, e _ _ h1⟩, fun f w q => by
  obtain ⟨a, vfs, h1, h2, h3⟩ := h.2 f w q
  exact ⟨a, vfs, h1, e _ _ h2, h3⟩⟩

mutual
def Rep (g : Gm) (F : Hp) : D → V → Prop
  | .non, v => v = .non
  | .bl b, v => v = .bl b
  | .int i, v => v = .int i
  | .str x, v => v = .str x
  | .ptr a, v => v = .ref a
  | .scr ns, v => ∃ p, v = .ref p ∧ SqL g.K F p (ns.map V.int)
  | .lst ds, v => ∃ p vs, v = .ref p ∧ F p = some (.lst vs) ∧ Reps g F ds vs
  | .tup ds, v => ∃ p vs, v = .ref p ∧ F p = some (.tup vs) ∧ Reps g F ds vs
  | .obj c fs ds, v => ∃ p dx vs, v = .ref p ∧ F p = some (.ins (g.ca c) dx (zipF fs vs)) ∧ fs.length = ds.length ∧ Reps g F ds vs
  | .dic ks ds, v => ∃ p vs, v = .ref p ∧ F p = some (.dK (zipK ks vs)) ∧ ks.length = ds.length ∧ Reps g F ds vs
  | .xcp a d fs ds, v => v = .ref a ∧ ∃ vs, XFs F d fs vs ∧ Reps g F ds vs
def Reps (g : Gm) (F : Hp) : List D → List V → Prop
  | [], [] => True
  | d :: ds, v :: vs => Rep g F d v ∧ Reps g F ds vs
  | _, _ => False
end

theorem sqt_same {K : PySem.W.Frag} {H H' : Hp} {a : Addr} {xs : List V} (e : Same H H') (h : SqT K H a xs) : SqT K H' a xs := by
  rcases h with (h | ⟨o, h⟩) | h
  · exact .inl (.inl (e _ _ h))
  · exact .inl (.inr ⟨o, e _ _ h⟩)
  · exact .inr h

mutual
theorem Rep.mono {g : Gm} {F F' : Hp} (e : Same F F') : ∀ {d : D} {v : V}, Rep g F d v → Rep g F' d v
  | .non, _, h => by simpa only [Rep] using h
  | .bl _, _, h => by simpa only [Rep] using h
  | .int _, _, h => by simpa only [Rep] using h
  | .str _, _, h => by simpa only [Rep] using h
  | .ptr _, _, h => by simpa only [Rep] using h
  | .lst ds, v, h => by
    simp only [Rep] at h ⊢
    obtain ⟨p, vs, h1, h2, h3⟩ := h
    exact ⟨p, vs, h1, e _ _ h2, Reps.mono e h3⟩
  | .scr ns, v, h => by
    simp only [Rep] at h ⊢
    obtain ⟨p, h1, h2⟩ := h
    exact ⟨p, h1, e.seq h2⟩
  | .tup ds, v, h => by
    simp only [Rep] at h ⊢
    obtain ⟨p, vs, h1, h2, h3⟩ := h
    exact ⟨p, vs, h1, e _ _ h2, Reps.mono e h3⟩
  | .obj c fs ds, v, h => by
    simp only [Rep] at h ⊢
    obtain ⟨p, dx, vs, h1, h2, h3, h4⟩ := h
    exact ⟨p, dx, vs, h1, e _ _ h2, h3, Reps.mono e h4⟩
  | .dic ks ds, v, h => by
    simp only [Rep] at h ⊢
    obtain ⟨p, vs, h1, h2, h3, h4⟩ := h
    exact ⟨p, vs, h1, e _ _ h2, h3, Reps.mono e h4⟩
  | .xcp a d fs ds, v, h => by
    simp only [Rep] at h ⊢
    obtain ⟨h1, vs, h2, h3⟩ := h
    exact ⟨h1, vs, h2.mono e, Reps.mono e h3⟩
theorem Reps.mono {g : Gm} {F F' : Hp} (e : Same F F') : ∀ {ds : List D} {vs : List V}, Reps g F ds vs → Reps g F' ds vs
  | [], [], h => by simp only [Reps]
  | d :: ds, v :: vs, h => by
    simp only [Reps] at h ⊢
    exact ⟨Rep.mono e h.1, Reps.mono e h.2⟩
  | [], _ :: _, h => by simp only [Reps] at h
  | _ :: _, [], h => by simp only [Reps] at h
end

section
variable {g : Gm} {F : Hp}
theorem Rep.non_iff {v : V} : Rep g F .non v ↔ v = .non := by simp only [Rep]
theorem Rep.bl_iff {b : Bool} {v : V} : Rep g F (.bl b) v ↔ v = .bl b := by simp only [Rep]
theorem Rep.int_iff {i : Int} {v : V} : Rep g F (.int i) v ↔ v = .int i := by simp only [Rep]
theorem Rep.str_iff {x : Str} {v : V} : Rep g F (.str x) v ↔ v = .str x := by simp only [Rep]
theorem Rep.ptr_iff {a : Addr} {v : V} : Rep g F (.ptr a) v ↔ v = .ref a := by simp only [Rep]
theorem Rep.scr_iff {ns : List Int} {v : V} : Rep g F (.scr ns) v ↔ ∃ p, v = .ref p ∧ SqL g.K F p (ns.map V.int) := by simp only [Rep]
theorem Rep.lst_iff {ds : List D} {v : V} : Rep g F (.lst ds) v ↔ ∃ p vs, v = .ref p ∧ F p = some (.lst vs) ∧ Reps g F ds vs := by simp only [Rep]
theorem Rep.tup_iff {ds : List D} {v : V} : Rep g F (.tup ds) v ↔ ∃ p vs, v = .ref p ∧ F p = some (.tup vs) ∧ Reps g F ds vs := by simp only [Rep]
theorem Rep.tup_sq {ds : List D} {v : V} (h : Rep g F (.tup ds) v) : ∃ p vs, v = .ref p ∧ SqT g.K F p vs ∧ Reps g F ds vs := by
  obtain ⟨p, vs, h1, h2, h3⟩ := Rep.tup_iff.mp h
  exact ⟨p, vs, h1, SqT.of h2, h3⟩
theorem Rep.obj_iff {c : Cl} {fs : List Fd} {ds : List D} {v : V} : Rep g F (.obj c fs ds) v ↔ ∃ p dx vs, v = .ref p ∧ F p = some (.ins (g.ca c) dx (zipF fs vs)) ∧ fs.length = ds.length ∧ Reps g F ds vs := by simp only [Rep]
theorem Rep.dic_iff {ks : List Key} {ds : List D} {v : V} : Rep g F (.dic ks ds) v ↔ ∃ p vs, v = .ref p ∧ F p = some (.dK (zipK ks vs)) ∧ ks.length = ds.length ∧ Reps g F ds vs := by simp only [Rep]
theorem Rep.xcp_iff {a : Addr} {d : Option Addr} {fs : List Fd} {ds : List D} {v : V} : Rep g F (.xcp a d fs ds) v ↔ v = .ref a ∧ ∃ vs, XFs F d fs vs ∧ Reps g F ds vs := by simp only [Rep]
theorem Reps.nil : Reps g F [] [] := by simp only [Reps]
theorem Reps.cons {d : D} {v : V} {ds : List D} {vs : List V} (h : Rep g F d v) (r : Reps g F ds vs) : Reps g F (d :: ds) (v :: vs) := by
  simp only [Reps]
  exact ⟨h, r⟩
theorem Reps.nil_iff {vs : List V} : Reps g F [] vs ↔ vs = [] := by
  cases vs <;> simp only [Reps, reduceCtorEq]
theorem Reps.cons_iff {d : D} {ds : List D} {vs : List V} : Reps g F (d :: ds) vs ↔ ∃ v r, vs = v :: r ∧ Rep g F d v ∧ Reps g F ds r := by
  cases vs with
  | nil => simp [Reps]
  | cons v r =>
    simp only [Reps]
    constructor
    · intro h
      exact ⟨v, r, rfl, h.1, h.2⟩
    · rintro ⟨v1, r1, e, h1, h2⟩
      cases e
      exact ⟨h1, h2⟩
theorem Reps.length {ds : List D} : ∀ {vs : List V}, Reps g F ds vs → ds.length = vs.length := by
  induction ds with
  | nil =>
    intro vs h
    rw [Reps.nil_iff] at h
    rw [h]
    rfl
  | cons d ds ih =>
    intro vs h
    obtain ⟨v, r, rfl, _, h2⟩ := Reps.cons_iff.mp h
    rw [List.length_cons, List.length_cons, ih h2]
theorem Reps.get {ds : List D} : ∀ {vs : List V} {i : Nat} {d : D}, Reps g F ds vs → ds[i]? = some d → ∃ v, vs[i]? = some v ∧ Rep g F d v := by
  induction ds with
  | nil =>
    intro vs i d h e
    simp at e
  | cons d0 ds ih =>
    intro vs i d h e
    obtain ⟨v, r, rfl, h1, h2⟩ := Reps.cons_iff.mp h
    cases i with
    | zero =>
      simp at e
      subst e
      exact ⟨v, rfl, h1⟩
    | succ i =>
      simp at e
      obtain ⟨w, q1, q2⟩ := ih h2 e
      exact ⟨w, by simpa using q1, q2⟩
theorem Reps.get' {ds : List D} : ∀ {vs : List V} {i : Nat} {v : V}, Reps g F ds vs → vs[i]? = some v → ∃ d, ds[i]? = some d ∧ Rep g F d v := by
  intro vs i v h e
  have hl := h.length
  have hi : i < vs.length := (List.getElem?_eq_some_iff.mp e).1
  have hi' : i < ds.length := by omega
  obtain ⟨w, q1, q2⟩ := h.get (List.getElem?_eq_getElem hi')
  rw [e] at q1
  cases q1
  exact ⟨_, List.getElem?_eq_getElem hi', q2⟩
theorem Reps.append {ds es : List D} : ∀ {vs ws : List V}, Reps g F ds vs → Reps g F es ws → Reps g F (ds ++ es) (vs ++ ws) := by
  induction ds with
  | nil =>
    intro vs ws h h'
    rw [Reps.nil_iff] at h
    subst h
    exact h'
  | cons d ds ih =>
    intro vs ws h h'
    obtain ⟨v, r, rfl, h1, h2⟩ := Reps.cons_iff.mp h
    exact Reps.cons h1 (ih h2 h')
theorem Reps.take {ds : List D} : ∀ {vs : List V} (n : Nat), Reps g F ds vs → Reps g F (ds.take n) (vs.take n) := by
  induction ds with
  | nil =>
    intro vs n h
    rw [Reps.nil_iff] at h
    subst h
    simpa using Reps.nil
  | cons d ds ih =>
    intro vs n h
    obtain ⟨v, r, rfl, h1, h2⟩ := Reps.cons_iff.mp h
    cases n with
    | zero => exact Reps.nil
    | succ n => exact Reps.cons h1 (ih n h2)
theorem Reps.drop {ds : List D} : ∀ {vs : List V} (n : Nat), Reps g F ds vs → Reps g F (ds.drop n) (vs.drop n) := by
  induction ds with
  | nil =>
    intro vs n h
    rw [Reps.nil_iff] at h
    subst h
    simpa using Reps.nil
  | cons d ds ih =>
    intro vs n h
    obtain ⟨v, r, rfl, h1, h2⟩ := Reps.cons_iff.mp h
    cases n with
    | zero => exact Reps.cons h1 h2
    | succ n => exact ih n h2
theorem Reps.set {ds : List D} {d : D} {v : V} (hv : Rep g F d v) : ∀ {vs : List V} (n : Nat), Reps g F ds vs → Reps g F (ds.set n d) (vs.set n v) := by
  induction ds with
  | nil =>
    intro vs n h
    rw [Reps.nil_iff] at h
    subst h
    exact Reps.nil
  | cons d0 ds ih =>
    intro vs n h
    obtain ⟨w, r, rfl, h1, h2⟩ := Reps.cons_iff.mp h
    cases n with
    | zero => exact Reps.cons hv h2
    | succ n => exact Reps.cons h1 (ih n h2)
theorem Reps.reverse {ds : List D} : ∀ {vs : List V}, Reps g F ds vs → Reps g F ds.reverse vs.reverse := by
  induction ds with
  | nil =>
    intro vs h
    rw [Reps.nil_iff] at h
    subst h
    exact Reps.nil
  | cons d ds ih =>
    intro vs h
    obtain ⟨v, r, rfl, h1, h2⟩ := Reps.cons_iff.mp h
    rw [List.reverse_cons, List.reverse_cons]
    exact (ih h2).append (Reps.cons h1 Reps.nil)
theorem Reps.one {d : D} {v : V} (h : Rep g F d v) : Reps g F [d] [v] := Reps.cons h Reps.nil
theorem Reps.split {ds es : List D} : ∀ {vs : List V}, Reps g F (ds ++ es) vs → ∃ v1 v2, vs = v1 ++ v2 ∧ Reps g F ds v1 ∧ Reps g F es v2 := by
  induction ds with
  | nil =>
    intro vs h
    exact ⟨[], vs, rfl, Reps.nil, h⟩
  | cons d ds ih =>
    intro vs h
    obtain ⟨v, r, rfl, h1, h2⟩ := Reps.cons_iff.mp h
    obtain ⟨v1, v2, rfl, q1, q2⟩ := ih h2
    exact ⟨v :: v1, v2, rfl, Reps.cons h1 q1, q2⟩
theorem Reps.ints {ns : List Int} : ∀ {vs : List V}, Reps g F (ns.map D.int) vs ↔ vs = ns.map V.int := by
  induction ns with
  | nil => intro vs; exact Reps.nil_iff
  | cons n ns ih =>
    intro vs
    rw [List.map_cons, Reps.cons_iff]
    constructor
    · rintro ⟨v, r, rfl, h1, h2⟩
      rw [Rep.int_iff] at h1
      rw [ih] at h2
      rw [h1, h2]
      rfl
    · intro e
      subst e
      exact ⟨_, _, rfl, Rep.int_iff.mpr rfl, ih.mpr rfl⟩
theorem Reps.strs {ns : List Str} : ∀ {vs : List V}, Reps g F (ns.map D.str) vs ↔ vs = ns.map V.str := by
  induction ns with
  | nil => intro vs; exact Reps.nil_iff
  | cons n ns ih =>
    intro vs
    rw [List.map_cons, Reps.cons_iff]
    constructor
    · rintro ⟨v, r, rfl, h1, h2⟩
      rw [Rep.str_iff] at h1
      rw [ih] at h2
      rw [h1, h2]
      rfl
    · intro e
      subst e
      exact ⟨_, _, rfl, Rep.str_iff.mpr rfl, ih.mpr rfl⟩
theorem Reps.bls {ns : List Bool} : ∀ {vs : List V}, Reps g F (ns.map D.bl) vs ↔ vs = ns.map V.bl := by
  induction ns with
  | nil => intro vs; exact Reps.nil_iff
  | cons n ns ih =>
    intro vs
    rw [List.map_cons, Reps.cons_iff]
    constructor
    · rintro ⟨v, r, rfl, h1, h2⟩
      rw [Rep.bl_iff] at h1
      rw [ih] at h2
      rw [h1, h2]
      rfl
    · intro e
      subst e
      exact ⟨_, _, rfl, Rep.bl_iff.mpr rfl, ih.mpr rfl⟩
end

/-! ## fields -/
def getF (f : Fd) : List Fd → List D → Option D
  | h :: hs, d :: ds => if f = h then some d else getF f hs ds
  | _, _ => none
/-- a store into a field: the names, the values -/
def putFs (f : Fd) : List Fd → List Fd
  | [] => [f]
  | h :: hs => if f = h then h :: hs else h :: putFs f hs
def putDs (f : Fd) (d : D) : List Fd → List D → List D
  | h :: hs, e :: es => if f = h then d :: es else e :: putDs f d hs es
  | _, _ => [d]
theorem zipF_cons {h : Fd} {hs : List Fd} {v : V} {vs : List V} : zipF (h :: hs) (v :: vs) = (h.str, v) :: zipF hs vs := rfl
theorem getF_look {g : Gm} {F : Hp} {f : Fd} : ∀ {fs : List Fd} {ds : List D} {vs : List V} {d : D}, Reps g F ds vs → getF f fs ds = some d → ∃ v, (zipF fs vs).lookup f.str = some v ∧ Rep g F d v := by
  intro fs
  induction fs with
  | nil =>
    intro ds vs d h e
    cases ds <;> simp [getF] at e
  | cons h0 hs ih =>
    intro ds vs d h e
    cases ds with
    | nil => simp [getF] at e
    | cons d0 ds =>
      obtain ⟨v, r, rfl, h1, h2⟩ := Reps.cons_iff.mp h
      rw [zipF_cons, List.lookup_cons]
      by_cases q : f = h0
      · subst q
        simp [getF] at e
        subst e
        exact ⟨v, by simp, h1⟩
      · have q' : (f.str == h0.str) = false := by
          rw [beq_eq_false_iff_ne]
          exact fun z => q (Fd.inj z)
        rw [q']
        simp [getF, q] at e
        exact ih h2 e
theorem getF_none {f : Str} : ∀ {fs : List Fd} {vs : List V}, (∀ h ∈ fs, ¬ f = h.str) → (zipF fs vs).lookup f = none := by
  intro fs
  induction fs with
  | nil => intro vs _; rfl
  | cons h0 hs ih =>
    intro vs hn
    cases vs with
    | nil => rfl
    | cons v vs =>
      rw [zipF_cons, List.lookup_cons]
      have q' : (f == h0.str) = false := by
        rw [beq_eq_false_iff_ne]
        exact hn h0 List.mem_cons_self
      rw [q']
      exact ih fun h hh => hn h (List.mem_cons_of_mem _ hh)
theorem putF_zip {g : Gm} {F : Hp} {f : Fd} {d : D} {v : V} (hv : Rep g F d v) : ∀ {fs : List Fd} {ds : List D} {vs : List V}, fs.length = ds.length → Reps g F ds vs →
    ∃ ws, L2.putF f.str v (zipF fs vs) = zipF (putFs f fs) ws ∧ Reps g F (putDs f d fs ds) ws ∧ (putFs f fs).length = (putDs f d fs ds).length := by
  intro fs
  induction fs with
  | nil =>
    intro ds vs hl h
    cases ds with
    | nil =>
      rw [Reps.nil_iff] at h
      subst h
      exact ⟨[v], rfl, Reps.one hv, rfl⟩
    | cons d0 ds => simp at hl
  | cons h0 hs ih =>
    intro ds vs hl h
    cases ds with
    | nil => simp at hl
    | cons d0 ds =>
      obtain ⟨v0, r, rfl, h1, h2⟩ := Reps.cons_iff.mp h
      rw [zipF_cons]
      by_cases q : f = h0
      · subst q
        refine ⟨v :: r, ?_, ?_, ?_⟩
        · show (if f.str = f.str then _ else _) = _
          rw [if_pos rfl]
          simp [putFs, zipF_cons]
        · simp [putDs]
          exact Reps.cons hv h2
        · simp [putFs, putDs]
          simpa using hl
      · have hl' : hs.length = ds.length := by simpa using hl
        obtain ⟨ws, e1, e2, e3⟩ := ih hl' h2
        refine ⟨v0 :: ws, ?_, ?_, ?_⟩
        · show (if h0.str = f.str then _ else _) = _
          rw [if_neg (fun z => q (Fd.inj z).symm), e1]
          simp [putFs, q, zipF_cons]
        · simp [putDs, q]
          exact Reps.cons h1 e2
        · simp [putFs, putDs, q]
          exact e3

/-! ## owned cells -/
inductive Cell where
  | lst (ds : List D) | ins (c : Cl) (fs : List Fd) (ds : List D) | dic (ks : List Key) (ds : List D) | box
abbrev Sto := List (Addr × Cell)
def CRep (g : Gm) (F : Hp) : Cell → HO → Prop
  | .lst ds, .lst vs => Reps g F ds vs
  | .ins c fs ds, .ins C _ vfs => C = g.ca c ∧ fs.length = ds.length ∧ ∃ vs, vfs = zipF fs vs ∧ Reps g F ds vs
  | .dic ks ds, .dK kvs => ks.length = ds.length ∧ ∃ vs, kvs = zipK ks vs ∧ Reps g F ds vs
  | .box, .lst vs => ∃ (cs : List Int) (i a s : Int), Reps g F [.lst (cs.map D.int), .int i, .int a, .int s] vs ∧ cs.length ≤ 63 ∧ 0 ≤ i ∧ 0 ≤ a
  | _, _ => False
theorem CRep.mono {g : Gm} {F F' : Hp} (e : Same F F') : ∀ {c : Cell} {o : HO}, CRep g F c o → CRep g F' c o := by
  intro c o h
  cases c with
  | lst ds => cases o <;> first | exact Reps.mono e h | exact h.elim
  | ins c fs ds =>
    cases o with
    | ins C dx vfs =>
      obtain ⟨h1, h2, vs, h3, h4⟩ := h
      exact ⟨h1, h2, vs, h3, Reps.mono e h4⟩
    | _ => exact h.elim
  | dic ks ds =>
    cases o with
    | dK kvs =>
      obtain ⟨h2, vs, h3, h4⟩ := h
      exact ⟨h2, vs, h3, Reps.mono e h4⟩
    | _ => exact h.elim
  | box =>
    cases o with
    | lst vs =>
      obtain ⟨cs, i, a, s, h1, h2⟩ := h
      exact ⟨cs, i, a, s, Reps.mono e h1, h2⟩
    | _ => exact h.elim

def getC : Sto → Addr → Option Cell
  | [], _ => none
  | (b, c) :: r, a => if a = b then some c else getC r a
def setC : Sto → Addr → Cell → Sto
  | [], _, _ => []
  | (b, c0) :: r, a, c => if a = b then (b, c) :: r else (b, c0) :: setC r a c
def delC : Sto → Addr → Sto
  | [], _ => []
  | (b, c0) :: r, a => if a = b then r else (b, c0) :: delC r a
def freshC (O : Sto) (p : Addr) : Prop := ∀ q ∈ O, q.1 ≠ p

structure Wd (g : Gm) (F : Hp) (O : Sto) (H : Hp) : Prop where
  same : Same F H
  nd : (O.map (·.1)).Nodup
  cel : ∀ q ∈ O, F q.1 = none ∧ ∃ o, H q.1 = some o ∧ CRep g F q.2 o

theorem getC_mem {O : Sto} {a : Addr} {c : Cell} (h : getC O a = some c) : (a, c) ∈ O := by
  induction O with
  | nil => simp [getC] at h
  | cons q r ih =>
    obtain ⟨b, c0⟩ := q
    simp only [getC] at h
    by_cases e : a = b
    · subst e
      simp at h
      subst h
      exact List.mem_cons_self
    · rw [if_neg e] at h
      exact List.mem_cons_of_mem _ (ih h)
theorem same_upd {H : Hp} {p : Addr} {o : HO} (h : H p = none) : Same H (upd H p o) := fun a u e => by
  rw [upd_ne (ne_of_none e h)]
  exact e
theorem same_upd2 {F H : Hp} {p : Addr} {o : HO} (s : Same F H) (h : H p = none) : Same (upd F p o) (upd H p o) := fun a u e => by
  by_cases q : a = p
  · subst q
    rw [upd_same] at e ⊢
    exact e
  · rw [upd_ne q] at e ⊢
    exact s _ _ e
section
variable {g : Gm} {F : Hp} {O : Sto} {H : Hp}
theorem Wd.get (w : Wd g F O H) {a : Addr} {c : Cell} (h : getC O a = some c) : F a = none ∧ ∃ o, H a = some o ∧ CRep g F c o := w.cel _ (getC_mem h)
theorem Wd.fresh (w : Wd g F O H) {p : Addr} (h : H p = none) : freshC O p := fun q hq e => by
  obtain ⟨_, o, ho, _⟩ := w.cel q hq
  rw [e, h] at ho
  cases ho
/-- a new thing that stays as it is -/
theorem Wd.frozen (w : Wd g F O H) {p : Addr} {o : HO} (h : H p = none) : Wd g (upd F p o) O (upd H p o) := by
  have fp : F p = none := w.same.free h
  refine ⟨same_upd2 w.same h, w.nd, fun q hq => ?_⟩
  obtain ⟨h1, u, h2, h3⟩ := w.cel q hq
  have ne : q.1 ≠ p := ne_of_none h2 h
  exact ⟨by rw [upd_ne ne]; exact h1, u, by rw [upd_ne ne]; exact h2, h3.mono (same_upd fp)⟩
theorem Wd.fsame (w : Wd g F O H) {p : Addr} {o : HO} (h : H p = none) : Same F (upd F p o) := same_upd (w.same.free h)
/-- a new thing that is owned -/
theorem Wd.own (w : Wd g F O H) {p : Addr} {o : HO} {c : Cell} (h : H p = none) (hc : CRep g F c o) : Wd g F ((p, c) :: O) (upd H p o) := by
  refine ⟨w.same.trans (same_upd h), ?_, fun q hq => ?_⟩
  · rw [List.map_cons, List.nodup_cons]
    refine ⟨fun hm => ?_, w.nd⟩
    obtain ⟨q, hq, e⟩ := List.mem_map.mp hm
    exact w.fresh h q hq e
  · rcases List.mem_cons.mp hq with e | hq
    · subst e
      exact ⟨w.same.free h, o, upd_same, hc⟩
    · obtain ⟨h1, u, h2, h3⟩ := w.cel q hq
      exact ⟨h1, u, by rw [upd_ne (ne_of_none h2 h)]; exact h2, h3⟩
theorem setC_keys (O : Sto) (a : Addr) (c : Cell) : (setC O a c).map (·.1) = O.map (·.1) := by
  induction O with
  | nil => rfl
  | cons q r ih =>
    obtain ⟨b, c0⟩ := q
    simp only [setC]
    by_cases e : a = b
    · rw [if_pos e]
      rfl
    · rw [if_neg e]
      simp [ih]
theorem setC_mem : ∀ {O : Sto} {a : Addr} {c : Cell} {q : Addr × Cell}, (O.map (·.1)).Nodup → q ∈ setC O a c → q = (a, c) ∨ (q ∈ O ∧ q.1 ≠ a) := by
  intro O
  induction O with
  | nil => intro a c q _ h; simp [setC] at h
  | cons p r ih =>
    obtain ⟨b, c0⟩ := p
    intro a c q nd h
    rw [List.map_cons, List.nodup_cons] at nd
    simp only [setC] at h
    by_cases e : a = b
    · rw [if_pos e] at h
      rcases List.mem_cons.mp h with z | z
      · rw [e]
        exact .inl z
      · refine .inr ⟨List.mem_cons_of_mem _ z, fun y => nd.1 ?_⟩
        show b ∈ _
        rw [← e, ← y]
        exact List.mem_map_of_mem z
    · rw [if_neg e] at h
      rcases List.mem_cons.mp h with z | z
      · refine .inr ⟨by rw [z]; exact List.mem_cons_self, ?_⟩
        rw [z]
        exact fun y => e y.symm
      · rcases ih nd.2 z with y | ⟨y1, y2⟩
        · exact .inl y
        · exact .inr ⟨List.mem_cons_of_mem _ y1, y2⟩
/-- an owned thing changes -/
theorem Wd.set (w : Wd g F O H) {a : Addr} {c c' : Cell} {o : HO} (h : getC O a = some c) (hc : CRep g F c' o) : Wd g F (setC O a c') (upd H a o) := by
  obtain ⟨fa, _⟩ := w.get h
  refine ⟨fun b u e => ?_, by rw [setC_keys]; exact w.nd, fun q hq => ?_⟩
  · rw [upd_ne (ne_of_none e fa)]
    exact w.same _ _ e
  · rcases setC_mem w.nd hq with e | ⟨e1, e2⟩
    · subst e
      exact ⟨fa, o, upd_same, hc⟩
    · obtain ⟨h1, u, h2, h3⟩ := w.cel q e1
      exact ⟨h1, u, by rw [upd_ne e2]; exact h2, h3⟩
theorem Wd.sub (w : Wd g F O H) {O' : Sto} (s : O'.Sublist O) : Wd g F O' H :=
  ⟨w.same, (s.map _).nodup w.nd, fun q hq => w.cel q (s.subset hq)⟩
theorem delC_sub (O : Sto) (a : Addr) : (delC O a).Sublist O := by
  induction O with
  | nil => exact .slnil
  | cons p r ih =>
    obtain ⟨b, c0⟩ := p
    simp only [delC]
    by_cases e : a = b
    · rw [if_pos e]
      exact List.sublist_cons_self _ _
    · rw [if_neg e]
      exact ih.cons_cons _
theorem delC_ne : ∀ {O : Sto} {a : Addr} {q : Addr × Cell}, (O.map (·.1)).Nodup → q ∈ delC O a → q.1 ≠ a := by
  intro O
  induction O with
  | nil => intro a q _ h; simp [delC] at h
  | cons p r ih =>
    obtain ⟨b, c0⟩ := p
    intro a q nd h
    rw [List.map_cons, List.nodup_cons] at nd
    simp only [delC] at h
    by_cases e : a = b
    · rw [if_pos e] at h
      intro y
      refine nd.1 ?_
      show b ∈ _
      rw [← e, ← y]
      exact List.mem_map_of_mem h
    · rw [if_neg e] at h
      rcases List.mem_cons.mp h with z | z
      · rw [z]
        exact fun y => e y.symm
      · exact ih nd.2 z
/-- an owned thing is let go: from now on it stays as it is -/
theorem Wd.freeze (w : Wd g F O H) {a : Addr} {c : Cell} (h : getC O a = some c) : ∃ o, H a = some o ∧ CRep g F c o ∧ Same F (upd F a o) ∧ Wd g (upd F a o) (delC O a) H := by
  obtain ⟨fa, o, ho, hc⟩ := w.get h
  refine ⟨o, ho, hc, same_upd fa, fun b u e => ?_, (w.sub (delC_sub O a)).nd, fun q hq => ?_⟩
  · by_cases z : b = a
    · subst z
      rw [upd_same] at e
      cases e
      exact ho
    · rw [upd_ne z] at e
      exact w.same _ _ e
  · obtain ⟨h1, u, h2, h3⟩ := w.cel q ((delC_sub O a).subset hq)
    have ne : q.1 ≠ a := delC_ne w.nd hq
    exact ⟨by rw [upd_ne ne]; exact h1, u, h2, h3.mono (same_upd fa)⟩
end
end G

set_option Elab.async false
set_option linter.all false
set_option maxRecDepth 100000
set_option maxHeartbeats 4000000
namespace G
open PySem L2

/-! ## transformers over plain data -/
abbrev Sl := List (Option D)
abbrev KD := D → Sto → Prop
abbrev KX := Exn → Sto → Prop
abbrev DE := Sl → Sto → KD → KX → Prop
abbrev DT := Sl → Sto → (Bool → Sto → Prop) → KX → Prop
abbrev DA := Sl → Sto → (List D → Sto → Prop) → KX → Prop
structure DEnds where
  nx : Sl → Sto → Prop
  rt : KD
  bk : Sl → Sto → Prop := fun _ _ => False
  ct : Sl → Sto → Prop := fun _ _ => False
  xc : Exn → Sl → Sto → Prop := fun _ _ _ => False
abbrev DS := DEnds → Sl → Sto → Prop

def SRel (g : Gm) (F : Hp) (σ : St) (Δ : Sl) : Prop := σ.length = Δ.length ∧ ∀ (i : Nat) (d : D), Δ[i]? = some (some d) → ∃ v, σ[i]? = some (some v) ∧ Rep g F d v
theorem SRel.mono {g : Gm} {F F' : Hp} {σ : St} {Δ : Sl} (h : SRel g F σ Δ) (e : Same F F') : SRel g F' σ Δ := ⟨h.1, fun i d q => by
  obtain ⟨v, h1, h2⟩ := h.2 i d q
  exact ⟨v, h1, h2.mono e⟩⟩
theorem SRel.set {g : Gm} {F : Hp} {σ : St} {Δ : Sl} (h : SRel g F σ Δ) {d : D} {v : V} (hv : Rep g F d v) (i : Nat) : SRel g F (σ.set i (some v)) (Δ.set i (some d)) := by
  refine ⟨by rw [List.length_set, List.length_set, h.1], fun j e q => ?_⟩
  rw [List.getElem?_set] at q ⊢
  by_cases z : i = j
  · subst z
    rw [if_pos rfl] at q ⊢
    by_cases y : i < Δ.length
    · rw [if_pos y] at q
      rw [if_pos (by rw [h.1]; exact y)]
      cases q
      exact ⟨v, rfl, hv⟩
    · rw [if_neg y] at q
      cases q
  · rw [if_neg z] at q ⊢
    exact h.2 j e q

def RelX (g : Gm) (F : Hp) (cls : Value) (dd : Option Addr) (x : Exn) : Prop := cls = .ref (g.ea x.c) ∧ ∃ vs, XFs F dd x.fs vs ∧ Reps g F x.ds vs
theorem RelX.mono {g : Gm} {F F' : Hp} {cls : Value} {dd : Option Addr} {x : Exn} (h : RelX g F cls dd x) (e : Same F F') : RelX g F' cls dd x := by
  obtain ⟨h1, vs, h2, h3⟩ := h
  exact ⟨h1, vs, h2.mono e, h3.mono e⟩

/-- what is wanted of an error, over plain data and over the heap -/
def XOk (g : Gm) (F : Hp) (W : WX) (σ : St) (E : KX) : Prop := ∀ x O cls dd F' H, E x O → Same F F' → Wd g F' O H → RelX g F' cls dd x → W cls dd σ H
theorem XOk.mono {g : Gm} {F F' : Hp} {W : WX} {σ : St} {E : KX} (h : XOk g F W σ E) (e : Same F F') : XOk g F' W σ E := fun x O cls dd F1 H q s w r => h x O cls dd F1 H q (e.trans s) w r
def VOk (g : Gm) (F : Hp) (P : KD) (Q : VK) : Prop := ∀ d O v F' H, P d O → Same F F' → Wd g F' O H → Rep g F' d v → Q v H
theorem VOk.mono {g : Gm} {F F' : Hp} {P : KD} {Q : VK} (h : VOk g F P Q) (e : Same F F') : VOk g F' P Q := fun d O v F1 H q s w r => h d O v F1 H q (e.trans s) w r
def BOk (g : Gm) (F : Hp) (P : Bool → Sto → Prop) (Q : Bool → Hp → Prop) : Prop := ∀ b O F' H, P b O → Same F F' → Wd g F' O H → Q b H
theorem BOk.mono {g : Gm} {F F' : Hp} {P : Bool → Sto → Prop} {Q : Bool → Hp → Prop} (h : BOk g F P Q) (e : Same F F') : BOk g F' P Q := fun d O F1 H q s w => h d O F1 H q (e.trans s) w
def AOk (g : Gm) (F : Hp) (P : List D → Sto → Prop) (Q : List V → Hp → Prop) : Prop := ∀ ds O vs F' H, P ds O → Same F F' → Wd g F' O H → Reps g F' ds vs → Q vs H
theorem AOk.mono {g : Gm} {F F' : Hp} {P : List D → Sto → Prop} {Q : List V → Hp → Prop} (h : AOk g F P Q) (e : Same F F') : AOk g F' P Q := fun d O v F1 H q s w r => h d O v F1 H q (e.trans s) w r

def le (g : Gm) (W : WX) (T : DE) : TE := fun σ H Q => ∃ Δ O P E F, T Δ O P E ∧ SRel g F σ Δ ∧ Wd g F O H ∧ VOk g F P Q ∧ XOk g F W σ E
def lt (g : Gm) (W : WX) (T : DT) : TT := fun σ H Q => ∃ Δ O P E F, T Δ O P E ∧ SRel g F σ Δ ∧ Wd g F O H ∧ BOk g F P Q ∧ XOk g F W σ E
def la (g : Gm) (W : WX) (T : DA) : TA := fun σ H Q => ∃ Δ O P E F, T Δ O P E ∧ SRel g F σ Δ ∧ Wd g F O H ∧ AOk g F P Q ∧ XOk g F W σ E
structure EOk (g : Gm) (F : Hp) (W : WX) (D : DEnds) (E : Ends) : Prop where
  nx : ∀ Δ O F' σ H, D.nx Δ O → Same F F' → SRel g F' σ Δ → Wd g F' O H → E.nx σ H
  rt : VOk g F D.rt E.rt
  bk : ∀ Δ O F' σ H, D.bk Δ O → Same F F' → SRel g F' σ Δ → Wd g F' O H → E.bk σ H
  ct : ∀ Δ O F' σ H, D.ct Δ O → Same F F' → SRel g F' σ Δ → Wd g F' O H → E.ct σ H
  xc : ∀ x Δ O cls dd F' σ H, D.xc x Δ O → Same F F' → SRel g F' σ Δ → Wd g F' O H → RelX g F' cls dd x → W cls dd σ H
theorem EOk.mono {g : Gm} {F F' : Hp} {W : WX} {D : DEnds} {E : Ends} (h : EOk g F W D E) (e : Same F F') : EOk g F' W D E :=
  ⟨fun Δ O F1 σ H q s => h.nx Δ O F1 σ H q (e.trans s), h.rt.mono e, fun Δ O F1 σ H q s => h.bk Δ O F1 σ H q (e.trans s), fun Δ O F1 σ H q s => h.ct Δ O F1 σ H q (e.trans s), fun x Δ O c d F1 σ H q s => h.xc x Δ O c d F1 σ H q (e.trans s)⟩
def ls (g : Gm) (W : WX) (T : DS) : TS := fun E σ H => ∃ D Δ O F, T D Δ O ∧ SRel g F σ Δ ∧ Wd g F O H ∧ EOk g F W D E

theorem pe_imp {X : Cx} {e : Expr} {t t' : TE} (h : PE X e t) (k : ∀ σ H Q, t' σ H Q → t σ H Q) : PE X e t' := ⟨fun pins s σ H Q I q => h.run pins s σ H Q I (k _ _ _ q)⟩
theorem pt_imp {X : Cx} {e : Expr} {t t' : TT} (h : PT X e t) (k : ∀ σ H Q, t' σ H Q → t σ H Q) : PT X e t' := ⟨fun pins s σ H Q I q => h.run pins s σ H Q I (k _ _ _ q)⟩
theorem pw_imp {X : Cx} {e : Expr} {t t' : TT} (h : PW X e t) (k : ∀ σ H Q, t' σ H Q → t σ H Q) : PW X e t' := ⟨fun w pins s σ H Q I q => h.run w pins s σ H Q I (k _ _ _ q)⟩
theorem pa_imp {X : Cx} {e : List Expr} {t t' : TA} (h : PA X e t) (k : ∀ σ H Q, t' σ H Q → t σ H Q) : PA X e t' := ⟨fun pos pins s σ H Q I q => h.run pos pins s σ H Q I (k _ _ _ q)⟩
theorem ps_imp {X : Cx} {e : Stmt} {t t' : TS} (h : PS X e t) (k : ∀ D σ H, t' D σ H → t D σ H) : PS X e t' := ⟨fun pins s σ H D I q => h.run pins s σ H D I (k _ _ _ q)⟩
theorem pss_imp {X : Cx} {e : List Stmt} {t t' : TS} (h : PSs X e t) (k : ∀ D σ H, t' D σ H → t D σ H) : PSs X e t' := ⟨fun pins s σ H D I q => h.run pins s σ H D I (k _ _ _ q)⟩

section
variable {g : Gm} {W : WX} {σ : St} {H : Hp} {Δ : Sl} {O : Sto} {F : Hp}
/-- go on behind an expression -/
theorem le_bind {T : DE} {P : KD} {E : KX} {Q : VK} (hT : T Δ O P E) (sr : SRel g F σ Δ) (w : Wd g F O H) (x : XOk g F W σ E)
    (k : ∀ d O1 v F1 H1, P d O1 → Same F F1 → SRel g F1 σ Δ → Wd g F1 O1 H1 → Rep g F1 d v → XOk g F1 W σ E → Q v H1) : le g W T σ H Q :=
  ⟨Δ, O, P, E, F, hT, sr, w, fun d O1 v F1 H1 hp s w1 r => k d O1 v F1 H1 hp s (sr.mono s) w1 r (x.mono s), x⟩
theorem lt_bind {T : DT} {P : Bool → Sto → Prop} {E : KX} {Q : Bool → Hp → Prop} (hT : T Δ O P E) (sr : SRel g F σ Δ) (w : Wd g F O H) (x : XOk g F W σ E)
    (k : ∀ b O1 F1 H1, P b O1 → Same F F1 → SRel g F1 σ Δ → Wd g F1 O1 H1 → XOk g F1 W σ E → Q b H1) : lt g W T σ H Q :=
  ⟨Δ, O, P, E, F, hT, sr, w, fun d O1 F1 H1 hp s w1 => k d O1 F1 H1 hp s (sr.mono s) w1 (x.mono s), x⟩
theorem la_bind {T : DA} {P : List D → Sto → Prop} {E : KX} {Q : List V → Hp → Prop} (hT : T Δ O P E) (sr : SRel g F σ Δ) (w : Wd g F O H) (x : XOk g F W σ E)
    (k : ∀ ds O1 vs F1 H1, P ds O1 → Same F F1 → SRel g F1 σ Δ → Wd g F1 O1 H1 → Reps g F1 ds vs → XOk g F1 W σ E → Q vs H1) : la g W T σ H Q :=
  ⟨Δ, O, P, E, F, hT, sr, w, fun d O1 v F1 H1 hp s w1 r => k d O1 v F1 H1 hp s (sr.mono s) w1 r (x.mono s), x⟩
theorem VOk.now {P : KD} {Q : VK} (h : VOk g F P Q) {d : D} {v : V} (hp : P d O) (w : Wd g F O H) (r : Rep g F d v) : Q v H := h d O v F H hp (Same.refl F) w r
theorem BOk.now {P : Bool → Sto → Prop} {Q : Bool → Hp → Prop} (h : BOk g F P Q) {b : Bool} (hp : P b O) (w : Wd g F O H) : Q b H := h b O F H hp (Same.refl F) w
theorem AOk.now {P : List D → Sto → Prop} {Q : List V → Hp → Prop} (h : AOk g F P Q) {ds : List D} {vs : List V} (hp : P ds O) (w : Wd g F O H) (r : Reps g F ds vs) : Q vs H := h ds O vs F H hp (Same.refl F) w r
end

section
variable {g : Gm} {X : Cx} {W : WX} {pos : Pos} {a b c : Expr}

/-! ### names, constants -/
def dVar (i : Nat) : DE := fun Δ O P _ => match Δ[i]? with | some (some d) => P d O | _ => False
theorem q_var (i : Nat) {x : Str} (hN : X.N[i]? = some x := by rfl) (hv : Vis X.env.scope x := by first | exact Or.inl rfl | exact Or.inr (Or.inl rfl) | exact Or.inr (Or.inr rfl)) (hd : (x == ("__debug__" : Str)) = false := by decide)
    (hcd : (x == ("__classdict__" : Str)) = false := by decide) : PE X (.Name x pos) (le g W (dVar i)) := by
  refine pe_imp (pe_var (i := i) hN hv hd hcd) fun σ H Q h => ?_
  obtain ⟨Δ, O, P, E, F, hT, sr, w, hv, hx⟩ := h
  unfold dVar at hT
  split at hT
  · rename_i d e
    obtain ⟨v, e1, r⟩ := sr.2 i d e
    exact ⟨v, e1, hv.now hT w r⟩
  · exact hT.elim
def dC (d : D) : DE := fun _ O P _ => P d O
theorem q_int {i : Int} {j : Nat} : PE X (.Constant (.int i) j pos) (le g W (dC (.int i))) := pe_imp pe_int fun σ H Q ⟨Δ, O, P, E, F, hT, sr, w, hv, hx⟩ => hv.now (d := .int i) hT w (Rep.int_iff.mpr rfl)
theorem q_bl {i : Bool} {j : Nat} : PE X (.Constant (.bool i) j pos) (le g W (dC (.bl i))) := pe_imp pe_bl fun σ H Q ⟨Δ, O, P, E, F, hT, sr, w, hv, hx⟩ => hv.now (d := .bl i) hT w (Rep.bl_iff.mpr rfl)
theorem q_non {j : Nat} : PE X (.Constant .none j pos) (le g W (dC .non)) := pe_imp pe_non fun σ H Q ⟨Δ, O, P, E, F, hT, sr, w, hv, hx⟩ => hv.now (d := .non) hT w (Rep.non_iff.mpr rfl)
theorem q_str {x : Str} {j : Nat} : PE X (.Constant (.str x) j pos) (le g W (dC (.str x))) := pe_imp pe_str fun σ H Q ⟨Δ, O, P, E, F, hT, sr, w, hv, hx⟩ => hv.now (d := .str x) hT w (Rep.str_iff.mpr rfl)

/-! ### operators -/
abbrev B2 := D → D → Sto → KD → Prop
def dOp (f : B2) (Ta Tb : DE) : DE := fun Δ O P E => Ta Δ O (fun x O1 => Tb Δ O1 (fun y O2 => f x y O2 P) E) E
def Lk2 (g : Gm) (r : R2) (f : B2) : Prop := ∀ x y O P F H vx vy Q, f x y O P → Rep g F x vx → Rep g F y vy → Wd g F O H → VOk g F P Q → r vx vy H Q
theorem top_of {r : R2} {f : B2} {Ta Tb : DE} (lk : Lk2 g r f) {σ : St} {H : Hp} {Q : VK} (h : le g W (dOp f Ta Tb) σ H Q) : tOp r (le g W Ta) (le g W Tb) σ H Q := by
  obtain ⟨Δ, O, P, E, F, hT, sr, w, hv, hx⟩ := h
  refine le_bind hT sr w hx fun x O1 vx F1 H1 hT1 s1 sr1 w1 rx hx1 => le_bind hT1 sr1 w1 hx1 fun y O2 vy F2 H2 hT2 s2 sr2 w2 ry hx2 => ?_
  exact lk x y O2 P F2 H2 vx vy Q hT2 (rx.mono s2) ry w2 (hv.mono (s1.trans s2))
theorem q_op {op : Operator} {r : R2} {f : B2} {Ta Tb : DE} (ho : OpR X (binaryOp op) r) (lk : Lk2 g r f) (ha : PE X a (le g W Ta)) (hb : PE X b (le g W Tb)) : PE X (.BinOp a op b pos) (le g W (dOp f Ta Tb)) :=
  pe_imp (pe_op ho ha hb) fun σ H Q h => top_of lk h
theorem q_cmp {op : CmpOp} {r : R2} {f : B2} {Ta Tb : DE} (ho : OpR X (compareOp op) r) (lk : Lk2 g r f) (ha : PE X a (le g W Ta)) (hb : PE X b (le g W Tb)) (hm : behindInMarks op b = false) : PE X (.Compare a [op] [b] pos) (le g W (dOp f Ta Tb)) :=
  pe_imp (pe_cmpR ho ha hb hm) fun σ H Q h => top_of lk h
def dTe (T : DE) : DT := fun Δ O P E => T Δ O (fun d O1 => match d with | .bl k => P k O1 | _ => False) E
theorem test_of {T : DE} {σ : St} {H : Hp} {Q : Bool → Hp → Prop} (h : lt g W (dTe T) σ H Q) : le g W T σ H fun x H' => ∃ k, x = .bl k ∧ Q k H' := by
  obtain ⟨Δ, O, P, E, F, hT, sr, w, hv, hx⟩ := h
  refine le_bind hT sr w hx fun x O1 vx F1 H1 hT1 s1 sr1 w1 rx hx1 => ?_
  cases x with
  | bl k => exact ⟨k, Rep.bl_iff.mp rx, (hv.mono s1).now hT1 w1⟩
  | _ => exact hT1.elim
theorem qt_cmp {op : CmpOp} {r : R2} {f : B2} {Ta Tb : DE} (ho : OpR X (compareOp op) r) (lk : Lk2 g r f) (ha : PE X a (le g W Ta)) (hb : PE X b (le g W Tb)) (hm : behindInMarks op b = false) : PT X (.Compare a [op] [b] pos) (lt g W (dTe (dOp f Ta Tb))) :=
  pt_imp (pt_cmpR ho ha hb hm) fun σ H Q h => top_of lk (test_of h)
theorem qt_val {T : DE} (h : PE X a (le g W T)) (he : ∀ whole, isTrue a X.env whole = (do let v ← whole; standAt a.pos; holding [v] (truthy v)) := by intro _; rfl) : PT X a (lt g W (dTe T)) :=
  pt_imp (pt_val h he) fun σ H Q h => test_of h
/-- a < b < c -/
def dChain (f f' : B2) (Ta Tb Tc : DE) : DE := fun Δ O P E => Ta Δ O (fun x O1 => Tb Δ O1 (fun y O2 => f x y O2 (fun z O3 => match z with | .bl k => (if k = true then Tc Δ O3 (fun t O4 => f' y t O4 P) E else P (.bl false) O3) | _ => False)) E) E
theorem tchain_of {r r' : R2} {f f' : B2} {Ta Tb Tc : DE} (lk : Lk2 g r f) (lk' : Lk2 g r' f') {σ : St} {H : Hp} {Q : VK} (h : le g W (dChain f f' Ta Tb Tc) σ H Q) : tChain r r' (le g W Ta) (le g W Tb) (le g W Tc) σ H Q := by
  obtain ⟨Δ, O, P, E, F, hT, sr, w, hv, hx⟩ := h
  refine le_bind hT sr w hx fun x O1 vx F1 H1 hT1 s1 sr1 w1 rx hx1 => le_bind hT1 sr1 w1 hx1 fun y O2 vy F2 H2 hT2 s2 sr2 w2 ry hx2 => ?_
  refine lk x y O2 _ F2 H2 vx vy _ hT2 (rx.mono s2) ry w2 fun z O3 vz F3 H3 hT3 s3 w3 rz => ?_
  cases z with
  | bl k =>
    refine ⟨k, Rep.bl_iff.mp rz, ?_⟩
    cases k with
    | true =>
      rw [if_pos rfl]
      have hT3 : Tc Δ O3 (fun t O4 => f' y t O4 P) E := by simpa using hT3
      refine le_bind hT3 (sr2.mono s3) w3 (hx2.mono s3) fun t O4 vt F4 H4 hT4 s4 sr4 w4 rt hx4 => ?_
      exact lk' y t O4 P F4 H4 vy vt Q hT4 (ry.mono (s3.trans s4)) rt w4 (hv.mono (s1.trans (s2.trans (s3.trans s4))))
    | false =>
      rw [if_neg Bool.false_ne_true]
      have hT3 : P (.bl false) O3 := by simpa using hT3
      exact hv _ _ _ _ _ hT3 (s1.trans (s2.trans s3)) w3 (Rep.bl_iff.mpr rfl)
  | _ => exact hT3.elim
theorem q_chain {op op' : CmpOp} {r r' : R2} {f f' : B2} {Ta Tb Tc : DE} (ho : OpR X (compareOp op) r) (ho' : OpR X (compareOp op') r') (lk : Lk2 g r f) (lk' : Lk2 g r' f') (ha : PE X a (le g W Ta)) (hb : PE X b (le g W Tb)) (hc : PE X c (le g W Tc))
    (hm : lastMarks [op, op'] [b, c] = false := by with_unfolding_all rfl) : PE X (.Compare a [op, op'] [b, c] pos) (le g W (dChain f f' Ta Tb Tc)) :=
  pe_imp (pe_chain ho ho' ha hb hc hm) fun σ H Q h => tchain_of lk lk' h
theorem qt_chain {op op' : CmpOp} {r r' : R2} {f f' : B2} {Ta Tb Tc : DE} (ho : OpR X (compareOp op) r) (ho' : OpR X (compareOp op') r') (lk : Lk2 g r f) (lk' : Lk2 g r' f') (ha : PE X a (le g W Ta)) (hb : PE X b (le g W Tb)) (hc : PE X c (le g W Tc))
    (hm : lastMarks [op, op'] [b, c] = false := by with_unfolding_all rfl) : PT X (.Compare a [op, op'] [b, c] pos) (lt g W (dTe (dChain f f' Ta Tb Tc))) :=
  pt_imp (pt_chain ho ho' ha hb hc hm) fun σ H Q h => tchain_of lk lk' (test_of h)

/-! ### truth, and, or, not -/
def truD (O : Sto) : D → Option Bool
  | .non => some false
  | .bl b => some b
  | .int i => some (i != 0)
  | .str x => if x.length ≤ sizeLine then some ((x.length : Int) != 0) else none
  | .lst ds => some (!ds.isEmpty)
  | .tup ds => some (!ds.isEmpty)
  | .dic ks _ => some (!ks.isEmpty)
  | .ptr a => match getC O a with
    | some (.lst ds) => some (!ds.isEmpty)
    | some (.dic ks _) => some (!ks.isEmpty)
    | _ => none
  | _ => none
theorem empty_of {F : Hp} {ds : List D} {vs : List V} (h : Reps g F ds vs) : ds.isEmpty = vs.isEmpty := by
  have e := h.length
  cases ds <;> cases vs <;> simp_all
theorem empty_zipK {F : Hp} {ks : List Key} {ds : List D} {vs : List V} (h : Reps g F ds vs) (hl : ks.length = ds.length) : ks.isEmpty = (zipK ks vs).isEmpty := by
  have e := h.length
  cases ks <;> cases vs <;> simp_all [zipK]
theorem tru_of {F : Hp} {O : Sto} {H : Hp} {d : D} {v : V} {k : Bool} (h : truD O d = some k) (r : Rep g F d v) (w : Wd g F O H) : TruV g.K v H k := by
  cases d with
  | non => rw [Rep.non_iff.mp r]; exact (Option.some.inj h).symm
  | bl b => rw [Rep.bl_iff.mp r]; exact (Option.some.inj h).symm
  | int b => rw [Rep.int_iff.mp r]; exact (Option.some.inj h).symm
  | str x =>
    rw [Rep.str_iff.mp r]
    simp only [truD] at h
    split at h
    · rename_i hl
      exact ⟨hl, (Option.some.inj h).symm⟩
    · cases h
  | lst ds =>
    obtain ⟨p, vs, rfl, h1, h2⟩ := Rep.lst_iff.mp r
    simp only [truD] at h
    exact .inl ⟨vs, SqL.of (w.same _ _ h1), by rw [← empty_of h2]; exact (Option.some.inj h).symm⟩
  | tup ds =>
    obtain ⟨p, vs, rfl, h1, h2⟩ := Rep.tup_sq r
    simp only [truD] at h
    exact .inr (.inl ⟨vs, sqt_same w.same h1, by rw [← empty_of h2]; exact (Option.some.inj h).symm⟩)
  | dic ks ds =>
    obtain ⟨p, vs, rfl, h1, h3, h2⟩ := Rep.dic_iff.mp r
    simp only [truD] at h
    exact .inr (.inr ⟨_, w.same _ _ h1, by rw [← empty_zipK h2 h3]; exact (Option.some.inj h).symm⟩)
  | ptr a =>
    rw [Rep.ptr_iff] at r
    subst r
    simp only [truD] at h
    split at h
    · rename_i ds e
      obtain ⟨_, o, h1, h2⟩ := w.get e
      cases o with
      | lst vs =>
        exact .inl ⟨vs, SqL.of h1, by rw [← empty_of (show Reps g F ds vs from h2)]; exact (Option.some.inj h).symm⟩
      | _ => exact h2.elim
    · rename_i ks ds e
      obtain ⟨_, o, h1, h2⟩ := w.get e
      cases o with
      | dK kvs =>
        obtain ⟨h3, vs, rfl, h4⟩ := h2
        exact .inr (.inr ⟨_, h1, by rw [← empty_zipK h4 h3]; exact (Option.some.inj h).symm⟩)
      | _ => exact h2.elim
    · cases h
  | _ => simp [truD] at h
end
end G

set_option Elab.async false
set_option linter.all false
set_option maxRecDepth 100000
set_option maxHeartbeats 4000000
namespace G
open PySem L2
section
variable {g : Gm} {X : Cx} {W : WX} {pos : Pos} {a b c : Expr}
/-! ### tests -/
def dTru (T : DE) : DT := fun Δ O P E => T Δ O (fun d O1 => match truD O1 d with | some k => P k O1 | none => False) E
theorem qt_tru {T : DE} (h : PE X a (le g W T)) (hK : X.K = g.K := by rfl) (he : ∀ whole, isTrue a X.env whole = (do let v ← whole; standAt a.pos; holding [v] (truthy v)) := by intro _; rfl) : PT X a (lt g W (dTru T)) := by
  refine pt_imp (pt_truth h he) fun σ H Q h => ?_
  obtain ⟨Δ, O, P, E, F, hT, sr, w, hv, hx⟩ := h
  refine le_bind hT sr w hx fun x O1 vx F1 H1 hT1 s1 sr1 w1 rx hx1 => ?_
  split at hT1
  · rename_i k e
    exact ⟨k, by rw [hK]; exact tru_of e rx w1, (hv.mono s1).now hT1 w1⟩
  · exact hT1.elim
def dAnd (t u : DT) : DT := fun Δ O P E => t Δ O (fun k O1 => if k = true then u Δ O1 P E else P false O1) E
def dOr (t u : DT) : DT := fun Δ O P E => t Δ O (fun k O1 => if k = true then P true O1 else u Δ O1 P E) E
def dNot (t : DT) : DT := fun Δ O P E => t Δ O (fun k O1 => P (!k) O1) E
variable {tA tB : DT} {rest : List Expr} {Ta Tb : DE}
theorem qw_and1 (ha : PT X a (lt g W tA)) : PW X (.BoolOp .And [a] pos) (lt g W tA) := pw_and1 ha
theorem qw_or1 (ha : PT X a (lt g W tA)) : PW X (.BoolOp .Or [a] pos) (lt g W tA) := pw_or1 ha
theorem qw_and (ha : PT X a (lt g W tA)) (hb : PW X (.BoolOp .And (b :: rest) pos) (lt g W tB)) : PW X (.BoolOp .And (a :: b :: rest) pos) (lt g W (dAnd tA tB)) := by
  refine pw_imp (pw_and ha hb) fun σ H Q h => ?_
  obtain ⟨Δ, O, P, E, F, hT, sr, w, hv, hx⟩ := h
  refine lt_bind hT sr w hx fun k O1 F1 H1 hT1 s1 sr1 w1 hx1 => ?_
  cases k with
  | true =>
    rw [if_pos rfl] at hT1 ⊢
    exact ⟨Δ, O1, P, E, F1, hT1, sr1, w1, hv.mono s1, hx1⟩
  | false =>
    rw [if_neg Bool.false_ne_true] at hT1 ⊢
    exact (hv.mono s1).now hT1 w1
theorem qw_or (ha : PT X a (lt g W tA)) (hb : PW X (.BoolOp .Or (b :: rest) pos) (lt g W tB)) : PW X (.BoolOp .Or (a :: b :: rest) pos) (lt g W (dOr tA tB)) := by
  refine pw_imp (pw_or ha hb) fun σ H Q h => ?_
  obtain ⟨Δ, O, P, E, F, hT, sr, w, hv, hx⟩ := h
  refine lt_bind hT sr w hx fun k O1 F1 H1 hT1 s1 sr1 w1 hx1 => ?_
  cases k with
  | true =>
    rw [if_pos rfl] at hT1 ⊢
    exact (hv.mono s1).now hT1 w1
  | false =>
    rw [if_neg Bool.false_ne_true] at hT1 ⊢
    exact ⟨Δ, O1, P, E, F1, hT1, sr1, w1, hv.mono s1, hx1⟩
theorem qt_not (ha : PT X a (lt g W tA)) : PT X (.UnaryOp .Not a pos) (lt g W (dNot tA)) := by
  refine pt_imp (pt_not ha) fun σ H Q h => ?_
  obtain ⟨Δ, O, P, E, F, hT, sr, w, hv, hx⟩ := h
  exact lt_bind hT sr w hx fun k O1 F1 H1 hT1 s1 sr1 w1 hx1 => (hv.mono s1).now hT1 w1
/-- as values -/
def dAndV (Ta Tb : DE) : DE := fun Δ O P E => Ta Δ O (fun d O1 => match d with | .bl k => (if k = true then Tb Δ O1 P E else P (.bl false) O1) | _ => False) E
def dOrV (Ta Tb : DE) : DE := fun Δ O P E => Ta Δ O (fun d O1 => match d with | .bl k => (if k = true then P (.bl true) O1 else Tb Δ O1 P E) | _ => False) E
def dNotV (Ta : DE) : DE := fun Δ O P E => Ta Δ O (fun d O1 => match d with | .bl k => P (.bl (!k)) O1 | _ => False) E
theorem q_one {op} (h : PE X a (le g W Ta)) : PE X (.BoolOp op [a] pos) (le g W Ta) := pe_one h
theorem q_and (ha : PE X a (le g W Ta)) (hb : PE X (.BoolOp .And (b :: rest) pos) (le g W Tb)) : PE X (.BoolOp .And (a :: b :: rest) pos) (le g W (dAndV Ta Tb)) := by
  refine pe_imp (pe_and ha hb) fun σ H Q h => ?_
  obtain ⟨Δ, O, P, E, F, hT, sr, w, hv, hx⟩ := h
  refine le_bind hT sr w hx fun d O1 v F1 H1 hT1 s1 sr1 w1 rx hx1 => ?_
  cases d with
  | bl k =>
    refine ⟨k, Rep.bl_iff.mp rx, ?_⟩
    cases k with
    | true =>
      rw [if_pos rfl]
      exact ⟨Δ, O1, P, E, F1, by simpa using hT1, sr1, w1, hv.mono s1, hx1⟩
    | false =>
      rw [if_neg Bool.false_ne_true]
      have hT1 : P (.bl false) O1 := by simpa using hT1
      exact (hv.mono s1).now hT1 w1 (Rep.bl_iff.mpr rfl)
  | _ => exact hT1.elim
theorem q_or (ha : PE X a (le g W Ta)) (hb : PE X (.BoolOp .Or (b :: rest) pos) (le g W Tb)) : PE X (.BoolOp .Or (a :: b :: rest) pos) (le g W (dOrV Ta Tb)) := by
  refine pe_imp (pe_or ha hb) fun σ H Q h => ?_
  obtain ⟨Δ, O, P, E, F, hT, sr, w, hv, hx⟩ := h
  refine le_bind hT sr w hx fun d O1 v F1 H1 hT1 s1 sr1 w1 rx hx1 => ?_
  cases d with
  | bl k =>
    refine ⟨k, Rep.bl_iff.mp rx, ?_⟩
    cases k with
    | false =>
      rw [if_neg Bool.false_ne_true]
      exact ⟨Δ, O1, P, E, F1, by simpa using hT1, sr1, w1, hv.mono s1, hx1⟩
    | true =>
      rw [if_pos rfl]
      have hT1 : P (.bl true) O1 := by simpa using hT1
      exact (hv.mono s1).now hT1 w1 (Rep.bl_iff.mpr rfl)
  | _ => exact hT1.elim
theorem q_not (ha : PE X a (le g W Ta)) : PE X (.UnaryOp .Not a pos) (le g W (dNotV Ta)) := by
  refine pe_imp (pe_not ha) fun σ H Q h => ?_
  obtain ⟨Δ, O, P, E, F, hT, sr, w, hv, hx⟩ := h
  refine le_bind hT sr w hx fun d O1 v F1 H1 hT1 s1 sr1 w1 rx hx1 => ?_
  cases d with
  | bl k => exact ⟨k, Rep.bl_iff.mp rx, (hv.mono s1).now hT1 w1 (Rep.bl_iff.mpr rfl)⟩
  | _ => exact hT1.elim
def dIf (t : DT) (Ta Tb : DE) : DE := fun Δ O P E => t Δ O (fun k O1 => if k = true then Ta Δ O1 P E else Tb Δ O1 P E) E
theorem q_ifx (hc : PT X c (lt g W tA)) (ha : PE X a (le g W Ta)) (hb : PE X b (le g W Tb)) : PE X (.IfExp c a b pos) (le g W (dIf tA Ta Tb)) := by
  refine pe_imp (pe_ifExp hc ha hb) fun σ H Q h => ?_
  obtain ⟨Δ, O, P, E, F, hT, sr, w, hv, hx⟩ := h
  refine lt_bind hT sr w hx fun k O1 F1 H1 hT1 s1 sr1 w1 hx1 => ?_
  cases k with
  | true =>
    rw [if_pos rfl] at hT1 ⊢
    exact ⟨Δ, O1, P, E, F1, hT1, sr1, w1, hv.mono s1, hx1⟩
  | false =>
    rw [if_neg Bool.false_ne_true] at hT1 ⊢
    exact ⟨Δ, O1, P, E, F1, hT1, sr1, w1, hv.mono s1, hx1⟩

/-! ### ints -/
def fI0 (h : Int → Int → D) : B2 := fun x y O P => match x, y with | .int i, .int j => P (h i j) O | _, _ => False
def fI (C : Int → Int → Prop) (h : Int → Int → D) : B2 := fun x y O P => match x, y with | .int i, .int j => C i j ∧ P (h i j) O | _, _ => False
theorem lkI0 {h : Int → Int → D} {h' : Int → Int → V} (e : ∀ F i j, Rep g F (h i j) (h' i j)) : Lk2 g (rI0 h') (fI0 h) := by
  intro x y O P F H vx vy Q hf rx ry w hv
  cases x <;> cases y <;> first | exact hf.elim | skip
  rename_i i j
  exact ⟨i, j, Rep.int_iff.mp rx, Rep.int_iff.mp ry, hv.now hf w (e F i j)⟩
theorem lkI {C : Int → Int → Prop} {h : Int → Int → D} {h' : Int → Int → V} (e : ∀ F i j, Rep g F (h i j) (h' i j)) : Lk2 g (rI C h') (fI C h) := by
  intro x y O P F H vx vy Q hf rx ry w hv
  cases x <;> cases y <;> first | exact hf.elim | skip
  rename_i i j
  exact ⟨i, j, Rep.int_iff.mp rx, Rep.int_iff.mp ry, hf.1, hv.now hf.2 w (e F i j)⟩
theorem rint {F : Hp} {i : Int} : Rep g F (.int i) (.int i) := Rep.int_iff.mpr rfl
theorem rbl {F : Hp} {i : Bool} : Rep g F (.bl i) (.bl i) := Rep.bl_iff.mpr rfl
def fSub : B2 := fI0 fun i j => .int (i - j)
def fMul : B2 := fI CMul fun i j => .int (i * j)
def fMod : B2 := fI (fun _ j => 0 < j) fun i j => .int (i % j)
def fDiv : B2 := fI CDiv fun i j => .int (i / j)
def fPow : B2 := fI CPow fun i j => .int (i ^ j.toNat)
def fLt : B2 := fI0 fun i j => .bl (decide (i < j))
def fLe : B2 := fI0 fun i j => .bl (decide (i ≤ j))
def fGt : B2 := fI0 fun i j => .bl (decide (j < i))
def fGe : B2 := fI0 fun i j => .bl (decide (j ≤ i))
theorem lk_sub : Lk2 g (rI0 fun i j => .int (i - j)) fSub := lkI0 fun _ _ _ => rint
theorem lk_mul : Lk2 g (rI CMul fun i j => .int (i * j)) fMul := lkI fun _ _ _ => rint
theorem lk_mod : Lk2 g (rI (fun _ j => 0 < j) fun i j => .int (i % j)) fMod := lkI fun _ _ _ => rint
theorem lk_div : Lk2 g (rI CDiv fun i j => .int (i / j)) fDiv := lkI fun _ _ _ => rint
theorem lk_pow : Lk2 g (rI CPow fun i j => .int (i ^ j.toNat)) fPow := lkI fun _ _ _ => rint
theorem lk_lt : Lk2 g (rI0 fun i j => .bl (decide (i < j))) fLt := lkI0 fun _ _ _ => rbl
theorem lk_le : Lk2 g (rI0 fun i j => .bl (decide (i ≤ j))) fLe := lkI0 fun _ _ _ => rbl
theorem lk_gt : Lk2 g (rI0 fun i j => .bl (decide (j < i))) fGt := lkI0 fun _ _ _ => rbl
theorem lk_ge : Lk2 g (rI0 fun i j => .bl (decide (j ≤ i))) fGe := lkI0 fun _ _ _ => rbl
theorem OpR.or {f : Value → Value → Sem Value} {r r' : R2} (h : OpR X f r) (h' : OpR X f r') : OpR X f (fun x y H Q => r x y H Q ∨ r' x y H Q) := by
  intro pins s σ H x y v u Q I rx ry q
  rcases q with q | q
  · exact h pins s σ H x y v u Q I rx ry q
  · exact h' pins s σ H x y v u Q I rx ry q

/-! ### + of ints, texts, lists -/
/-- the list that a datum is, as a list object -/
def lstOf (O : Sto) : D → Option (List D)
  | .lst ds => some ds
  | .ptr a => match getC O a with | some (.lst ds) => some ds | _ => none
  | _ => none
theorem lst_of {F : Hp} {O : Sto} {H : Hp} {d : D} {v : V} {ds : List D} (h : lstOf O d = some ds) (r : Rep g F d v) (w : Wd g F O H) : ∃ p vs, v = .ref p ∧ H p = some (.lst vs) ∧ Reps g F ds vs := by
  cases d with
  | lst l =>
    obtain ⟨p, vs, rfl, h1, h2⟩ := Rep.lst_iff.mp r
    cases h
    exact ⟨p, vs, rfl, w.same _ _ h1, h2⟩
  | ptr a =>
    rw [Rep.ptr_iff] at r
    subst r
    simp only [lstOf] at h
    split at h
    · rename_i l e
      cases h
      obtain ⟨_, o, h1, h2⟩ := w.get e
      cases o with
      | lst vs => exact ⟨a, vs, rfl, h1, h2⟩
      | _ => exact h2.elim
    · cases h
  | _ => simp [lstOf] at h
def fAdd : B2 := fun x y O P => match x, y with
  | .int i, .int j => P (.int (i + j)) O
  | .str i, .str j => i.length + j.length ≤ sizeLine ∧ P (.str (i ++ j)) O
  | _, _ => match lstOf O x, lstOf O y with
    | some l, some m => l.length + m.length ≤ sizeLine ∧ P (.lst (l ++ m)) O
    | _, _ => False
def rAddA : R2 := fun x y H Q => (∃ i j, x = .int i ∧ y = .int j ∧ Q (.int (i + j)) H) ∨ (∃ i j, x = .str i ∧ y = .str j ∧ i.length + j.length ≤ sizeLine ∧ Q (.str (i ++ j)) H) ∨ rCat x y H Q
theorem op_addA : OpR X (binaryOp .Add) rAddA := OpR.or op_add (OpR.or op_add_str op_cat)
theorem Reps.newL {F : Hp} {ds : List D} {vs : List V} {p : Addr} (h : Reps g F ds vs) : F p = none → Rep g (upd F p (.lst vs)) (.lst ds) (.ref p) := fun hp => Rep.lst_iff.mpr ⟨p, vs, rfl, upd_same, h.mono (same_upd hp)⟩
theorem Reps.newT {F : Hp} {ds : List D} {vs : List V} {p : Addr} (h : Reps g F ds vs) : F p = none → Rep g (upd F p (.tup vs)) (.tup ds) (.ref p) := fun hp => Rep.tup_iff.mpr ⟨p, vs, rfl, upd_same, h.mono (same_upd hp)⟩
theorem lk_add : Lk2 g rAddA fAdd := by
  intro x y O P F H vx vy Q hf rx ry w hv
  have key : (match lstOf O x, lstOf O y with
    | some l, some m => l.length + m.length ≤ sizeLine ∧ P (.lst (l ++ m)) O
    | _, _ => False) → rCat vx vy H Q := by
    intro hf
    split at hf
    · rename_i l m e1 e2
      obtain ⟨p, vs, rfl, h1, h2⟩ := lst_of e1 rx w
      obtain ⟨q, us, rfl, h3, h4⟩ := lst_of e2 ry w
      refine ⟨p, q, vs, us, rfl, rfl, h1, h3, by rw [← h2.length, ← h4.length]; exact hf.1, fun t ht => ?_⟩
      exact hv _ _ _ _ _ hf.2 (w.fsame ht) (w.frozen ht) ((h2.append h4).newL (w.same.free ht))
    · exact hf.elim
  cases x <;> cases y <;> first | exact .inr (.inr (key hf)) | skip
  · rename_i i j
    exact .inl ⟨i, j, Rep.int_iff.mp rx, Rep.int_iff.mp ry, hv.now hf w rint⟩
  · rename_i i j
    exact .inr (.inl ⟨i, j, Rep.str_iff.mp rx, Rep.str_iff.mp ry, hf.1, hv.now hf.2 w (Rep.str_iff.mpr rfl)⟩)

/-! ### subscripts -/
def fIx : B2 := fun x y O P => match y with
  | .int i => match x with
    | .tup ds => (match atI ds i with | some d => P d O | none => False)
    | .str z => z.length ≤ sizeLine ∧ (match atI z.cps.toList i with | some c => P (.str ⟨#[c]⟩) O | none => False)
    | _ => (match lstOf O x with | some ds => (match atI ds i with | some d => P d O | none => False) | none => False)
  | _ => False
theorem atI_rep {F : Hp} {ds : List D} {vs : List V} {i : Int} {d : D} (h : Reps g F ds vs) (e : atI ds i = some d) : ∃ v, atI vs i = some v ∧ Rep g F d v := by
  unfold atI at e ⊢
  rw [← h.length]
  cases q : ixN ds.length i with
  | none => rw [q] at e; cases e
  | some j =>
    rw [q] at e
    exact h.get (show ds[j]? = some d from e)
theorem lk_ix : Lk2 g (rIx g.K) fIx := by
  intro x y O P F H vx vy Q hf rx ry w hv
  cases y with
  | int i =>
    have ey := Rep.int_iff.mp ry
    subst ey
    have key : (match lstOf O x with | some ds => (match atI ds i with | some d => P d O | none => False) | none => False) → rIx g.K vx (.int i) H Q := by
      intro hf
      split at hf
      · rename_i l e1
        obtain ⟨p, vs, rfl, h1, h2⟩ := lst_of e1 rx w
        split at hf
        · rename_i d e2
          obtain ⟨v, e3, r3⟩ := atI_rep h2 e2
          exact .inl ⟨p, vs, i, v, rfl, rfl, SqL.of h1, e3, hv.now hf w r3⟩
        · exact hf.elim
      · exact hf.elim
    cases x with
    | tup ds =>
      obtain ⟨p, vs, rfl, h1, h2⟩ := Rep.tup_sq rx
      have hf : (match atI ds i with | some d => P d O | none => False) := hf
      split at hf
      · rename_i d e2
        obtain ⟨v, e3, r3⟩ := atI_rep h2 e2
        exact .inr (.inl ⟨p, vs, i, v, rfl, rfl, sqt_same w.same h1, e3, hv.now hf w r3⟩)
      · exact hf.elim
    | str z =>
      obtain ⟨hl, hf⟩ : z.length ≤ sizeLine ∧ (match atI z.cps.toList i with | some c => P (.str ⟨#[c]⟩) O | none => False) := hf
      split at hf
      · rename_i ch e2
        exact .inr (.inr ⟨z, i, ch, Rep.str_iff.mp rx, rfl, hl, e2, hv.now hf w (Rep.str_iff.mpr rfl)⟩)
      · exact hf.elim
    | _ => exact key hf
  | _ => exact hf.elim
theorem q_ix (ha : PE X a (le g W Ta)) (hb : PE X b (le g W Tb)) (hs : PlainIx b := by exact fun _ _ => rfl) (hK : X.K = g.K := by rfl) : PE X (.Subscript a b pos) (le g W (dOp fIx Ta Tb)) :=
  pe_imp (pe_ix (r := rIx g.K) (by rw [← hK]; exact ix_seq) ha hb hs) fun σ H Q h => top_of lk_ix h

/-! ### argument lists, displays -/
def dNil : DA := fun _ O P _ => P [] O
def dCons (T : DE) (R : DA) : DA := fun Δ O P E => T Δ O (fun d O1 => R Δ O1 (fun ds O2 => P (d :: ds) O2) E) E
theorem qa_nil : PA X [] (la g W dNil) := pa_imp pa_nil fun σ H Q ⟨Δ, O, P, E, F, hT, sr, w, hv, hx⟩ => hv.now hT w Reps.nil
theorem qa_cons {es : List Expr} {R : DA} (ha : PE X a (le g W Ta)) (hr : PA X es (la g W R)) (hs : starEach (a :: es) X.env = (false, eval a X.env) :: starEach es X.env := by rfl) : PA X (a :: es) (la g W (dCons Ta R)) := by
  refine pa_imp (pa_cons ha hr hs) fun σ H Q h => ?_
  obtain ⟨Δ, O, P, E, F, hT, sr, w, hv, hx⟩ := h
  refine le_bind hT sr w hx fun d O1 v F1 H1 hT1 s1 sr1 w1 rx hx1 => la_bind hT1 sr1 w1 hx1 fun ds O2 vs F2 H2 hT2 s2 sr2 w2 rs hx2 => ?_
  exact hv _ _ _ _ _ hT2 (s1.trans s2) w2 (Reps.cons (rx.mono s2) rs)
def dTup (R : DA) : DE := fun Δ O P E => R Δ O (fun ds O1 => ds.length ≤ sizeLine ∧ P (.tup ds) O1) E
def dLst (R : DA) : DE := fun Δ O P E => R Δ O (fun ds O1 => ds.length ≤ sizeLine ∧ P (.lst ds) O1) E
/-- a list that will change -/
def dLstO (R : DA) : DE := fun Δ O P E => R Δ O (fun ds O1 => ds.length ≤ sizeLine ∧ ∀ p, freshC O1 p → P (.ptr p) ((p, .lst ds) :: O1)) E
theorem q_tup {es : List Expr} {R : DA} {x1} (h : PA X es (la g W R)) : PE X (.Tuple es x1 pos) (le g W (dTup R)) := by
  refine pe_imp (pe_tup h) fun σ H Q h => ?_
  obtain ⟨Δ, O, P, E, F, hT, sr, w, hv, hx⟩ := h
  refine la_bind hT sr w hx fun ds O1 vs F1 H1 hT1 s1 sr1 w1 rs hx1 => ⟨by rw [← rs.length]; exact hT1.1, fun p hp => ?_⟩
  exact hv _ _ _ _ _ hT1.2 (s1.trans (w1.fsame hp)) (w1.frozen hp) (rs.newT (w1.same.free hp))
theorem q_lst {es : List Expr} {R : DA} (h : PA X es (la g W R)) : PE X (.List es pos) (le g W (dLst R)) := by
  refine pe_imp (pe_lst h) fun σ H Q h => ?_
  obtain ⟨Δ, O, P, E, F, hT, sr, w, hv, hx⟩ := h
  refine la_bind hT sr w hx fun ds O1 vs F1 H1 hT1 s1 sr1 w1 rs hx1 => ⟨by rw [← rs.length]; exact hT1.1, fun p hp => ?_⟩
  exact hv _ _ _ _ _ hT1.2 (s1.trans (w1.fsame hp)) (w1.frozen hp) (rs.newL (w1.same.free hp))
theorem q_lstO {es : List Expr} {R : DA} (h : PA X es (la g W R)) : PE X (.List es pos) (le g W (dLstO R)) := by
  refine pe_imp (pe_lst h) fun σ H Q h => ?_
  obtain ⟨Δ, O, P, E, F, hT, sr, w, hv, hx⟩ := h
  refine la_bind hT sr w hx fun ds O1 vs F1 H1 hT1 s1 sr1 w1 rs hx1 => ⟨by rw [← rs.length]; exact hT1.1, fun p hp => ?_⟩
  exact hv _ _ _ _ _ (hT1.2 p (w1.fresh hp)) s1 (w1.own (c := .lst ds) (o := .lst vs) hp rs) (Rep.ptr_iff.mpr rfl)

/-- an owned thing is let go -/
def frzD : Cell → Option D
  | .lst ds => some (.lst ds)
  | .ins c fs ds => some (.obj c fs ds)
  | .dic ks ds => some (.dic ks ds)
  | .box => none
def dFrz (T : DE) : DE := fun Δ O P E => T Δ O (fun d O1 => match d with
  | .ptr a => (match getC O1 a with | some c => (match frzD c with | some d' => P d' (delC O1 a) | none => False) | none => False)
  | _ => False) E
theorem frz_rep {F : Hp} {a : Addr} {c : Cell} {o : HO} {d : D} (hf : frzD c = some d) (h : CRep g F c o) (fa : F a = none) : Rep g (upd F a o) d (.ref a) := by
  cases c with
  | lst ds =>
    cases hf
    cases o with
    | lst vs => exact Reps.newL (show Reps g F ds vs from h) fa
    | _ => exact h.elim
  | ins c fs ds =>
    cases hf
    cases o with
    | ins C dx vfs =>
      obtain ⟨rfl, h2, vs, rfl, h4⟩ := h
      exact Rep.obj_iff.mpr ⟨a, dx, vs, rfl, upd_same, h2, h4.mono (same_upd fa)⟩
    | _ => exact h.elim
  | dic ks ds =>
    cases hf
    cases o with
    | dK kvs =>
      obtain ⟨h2, vs, rfl, h4⟩ := h
      exact Rep.dic_iff.mpr ⟨a, vs, rfl, upd_same, h2, h4.mono (same_upd fa)⟩
    | _ => exact h.elim
  | box => cases hf
theorem q_frz (ha : PE X a (le g W Ta)) : PE X a (le g W (dFrz Ta)) := by
  refine pe_imp ha fun σ H Q h => ?_
  obtain ⟨Δ, O, P, E, F, hT, sr, w, hv, hx⟩ := h
  refine le_bind hT sr w hx fun d O1 v F1 H1 hT1 s1 sr1 w1 rx hx1 => ?_
  cases d with
  | ptr p =>
    have ev := Rep.ptr_iff.mp rx
    subst ev
    have hT1 : (match getC O1 p with | some c => (match frzD c with | some d' => P d' (delC O1 p) | none => False) | none => False) := hT1
    split at hT1
    · rename_i c e
      split at hT1
      · rename_i d' e'
        obtain ⟨o, ho, hc, s2, w2⟩ := w1.freeze e
        exact hv _ _ _ _ _ hT1 (s1.trans s2) w2 (frz_rep e' hc (w1.get e).1)
      · exact hT1.elim
    · exact hT1.elim
  | _ => exact hT1.elim

/-! ### fields -/
/-- the fields of a datum: its class, its names, its values -/
def objOf (O : Sto) : D → Option (Cl × List Fd × List D)
  | .obj c fs ds => some (c, fs, ds)
  | .ptr a => match getC O a with | some (.ins c fs ds) => some (c, fs, ds) | _ => none
  | _ => none
theorem obj_of {F : Hp} {O : Sto} {H : Hp} {d : D} {v : V} {t : Cl × List Fd × List D} (h : objOf O d = some t) (r : Rep g F d v) (w : Wd g F O H) : ∃ p dx vs, v = .ref p ∧ H p = some (.ins (g.ca t.1) dx (zipF t.2.1 vs)) ∧ t.2.1.length = t.2.2.length ∧ Reps g F t.2.2 vs := by
  cases d with
  | obj c fs ds =>
    obtain ⟨p, dx, vs, rfl, h1, h2, h3⟩ := Rep.obj_iff.mp r
    cases h
    exact ⟨p, dx, vs, rfl, w.same _ _ h1, h2, h3⟩
  | ptr a =>
    rw [Rep.ptr_iff] at r
    subst r
    simp only [objOf] at h
    split at h
    · rename_i c fs ds e
      cases h
      obtain ⟨_, o, h1, h2⟩ := w.get e
      cases o with
      | ins C dx vfs =>
        obtain ⟨rfl, h3, vs, rfl, h4⟩ := h2
        exact ⟨a, dx, vs, rfl, h1, h3, h4⟩
      | _ => exact h2.elim
    · cases h
  | _ => simp [objOf] at h
/-- what the walk asks of the classes: fields that no class hides -/
structure Flds (g : Gm) (cs : List Cl) (f : Fd) : Prop where
  cl : ∀ c ∈ cs, Cls g.K (g.ca c)
  no : ∀ c ∈ cs, NoAttr g.K (g.ca c) f.str
def dFld (cs : List Cl) (f : Fd) (T : DE) : DE := fun Δ O P E => T Δ O (fun d O1 => match objOf O1 d with
  | some t => t.1 ∈ cs ∧ (match getF f t.2.1 t.2.2 with | some e => P e O1 | none => False)
  | none => False) E
theorem q_fld {cs : List Cl} {f : Fd} {x : Str} (A : Flds g cs f) (ha : PE X a (le g W Ta)) (hx : x = f.str := by rfl) (hK : X.K = g.K := by rfl) (hb : attributeBase a x X.env (eval a X.env) = eval a X.env := by rfl) :
    PE X (.Attribute a x pos) (le g W (dFld cs f Ta)) := by
  subst hx
  refine pe_imp (pe_fld ha hb) fun σ H Q h => ?_
  obtain ⟨Δ, O, P, E, F, hT, sr, w, hv, hx⟩ := h
  refine le_bind hT sr w hx fun d O1 v F1 H1 hT1 s1 sr1 w1 rx hx1 => ?_
  split at hT1
  · rename_i t e
    obtain ⟨p, dx, vs, rfl, h1, h2, h3⟩ := obj_of e rx w1
    obtain ⟨hc, hT1⟩ := hT1
    split at hT1
    · rename_i d' e'
      obtain ⟨u, hu, ru⟩ := getF_look h3 e'
      exact ⟨p, g.ca t.1, dx, _, u, rfl, h1, by rw [hK]; exact A.cl _ hc, by rw [hK]; exact A.no _ hc, hu, (hv.mono s1).now hT1 w1 ru⟩
    · exact hT1.elim
  · exact hT1.elim

/-! ### builtins by values -/
abbrev BC := List D → Sto → KD → Prop
def LkC (g : Gm) (r : List V → Hp → VK → Prop) (f : BC) : Prop := ∀ ds O P F H vs Q, f ds O P → Reps g F ds vs → Wd g F O H → VOk g F P Q → r vs H Q
def dCB (f : BC) (R : DA) : DE := fun Δ O P E => R Δ O (fun ds O1 => f ds O1 P) E
theorem tcb_of {r : List V → Hp → VK → Prop} {f : BC} {R : DA} (lk : LkC g r f) {σ : St} {H : Hp} {Q : VK} (h : le g W (dCB f R) σ H Q) : tCB r (la g W R) σ H Q := by
  obtain ⟨Δ, O, P, E, F, hT, sr, w, hv, hx⟩ := h
  exact la_bind hT sr w hx fun ds O1 vs F1 H1 hT1 s1 sr1 w1 rs hx1 => lk _ _ _ _ _ _ _ hT1 rs w1 (hv.mono s1)
variable {es : List Expr} {R : DA} {x : Str} {p : Pos}
theorem q_callB {id : String} {r : List V → Hp → VK → Prop} {f : BC} (hc : CallR X (.builtin id) r) (lk : LkC g r f) (hm : X.mg x = none) (ha : PA X (a :: es) (la g W R)) (hv : bootBuiltins x = some (.builtin id) := by decide +kernel) (hg : Gl X x := by rfl) (hn : x ≠ "__name__" := by decide) (hdb : (x == ("__debug__" : Str)) = false := by decide)
    (he : starEach (a :: es) X.env = (false, eval a X.env) :: starEach es X.env := by rfl) (hpl : (backTo pos (starEach es X.env)).any (·.1) = false := by rfl) : PE X (.Call (.Name x p) (a :: es) [] pos) (le g W (dCB f R)) :=
  pe_imp (pe_callB hc hg hm hv ha hn hdb he hpl) fun σ H Q h => tcb_of lk h
theorem q_callTy {T : String} {r : List V → Hp → VK → Prop} {f : BC} (hc : CallR X (.type T) r) (lk : LkC g r f) (hm : X.mg x = none) (ha : PA X (a :: es) (la g W R)) (hv : bootBuiltins x = some (.type T) := by decide +kernel) (hg : Gl X x := by rfl) (hn : x ≠ "__name__" := by decide) (hdb : (x == ("__debug__" : Str)) = false := by decide)
    (he : starEach (a :: es) X.env = (false, eval a X.env) :: starEach es X.env := by rfl) (hpl : (backTo pos (starEach es X.env)).any (·.1) = false := by rfl) : PE X (.Call (.Name x p) (a :: es) [] pos) (le g W (dCB f R)) :=
  pe_imp (pe_callTy hc hg hm hv ha hn hdb he hpl) fun σ H Q h => tcb_of lk h
end
end G

set_option Elab.async false
set_option linter.all false
set_option maxRecDepth 100000
set_option maxHeartbeats 4000000
namespace G
open PySem L2
/-! ## statements -/
theorem EOk.toX {g : Gm} {F : Hp} {W : WX} {D : DEnds} {E : Ends} {σ : St} {Δ : Sl} (h : EOk g F W D E) (sr : SRel g F σ Δ) : XOk g F W σ (fun x O => D.xc x Δ O) :=
  fun x O cls dd F' H q s w r => h.xc x Δ O cls dd F' σ H q s (sr.mono s) w r
section
variable {g : Gm} {X : Cx} {W : WX} {pos pos' : Pos} {a b c : Expr} {Ta Tb : DE} {tA tB : DT} {T U : DS} {st : Stmt} {rest : List Stmt}
def dNext : DS := fun D Δ O => D.nx Δ O
def dSeq (T U : DS) : DS := fun D Δ O => T { D with nx := U D } Δ O
theorem qss_nil : PSs X [] (ls g W dNext) := pss_imp pss_nil fun E σ H ⟨D, Δ, O, F, hT, sr, w, he⟩ => he.nx _ _ _ _ _ hT (Same.refl F) sr w
theorem qss_one (h : PS X st (ls g W T)) : PSs X [st] (ls g W T) := pss_one h
theorem qss_cons (h1 : PS X st (ls g W T)) (h2 : PSs X rest (ls g W U)) : PSs X (st :: rest) (ls g W (dSeq T U)) := by
  refine pss_imp (pss_cons h1 h2) fun E σ H ⟨D, Δ, O, F, hT, sr, w, he⟩ => ?_
  refine ⟨{ D with nx := U D }, Δ, O, F, hT, sr, w, ⟨fun Δ' O' F' σ' H' q s sr' w' => ?_, he.rt, he.bk, he.ct, he.xc⟩⟩
  exact ⟨D, Δ', O', F', q, sr', w', he.mono s⟩
def dAsg (i : Nat) (T : DE) : DS := fun D Δ O => T Δ O (fun d O1 => D.nx (Δ.set i (some d)) O1) (fun x O1 => D.xc x Δ O1)
theorem qs_asg (i : Nat) {x : Str} (hN : X.N.Nodup) (he : PE X a (le g W Ta)) (hi : X.N[i]? = some x := by rfl) (hx : Loc X.env.scope x := by first | exact Or.inl rfl | exact Or.inr rfl) (hs : swapsWith a (some (.Name x pos')) pos.line X.env = pure false := by rfl)
    (hf : X.fn x = true ∨ X.env.scope.names.lookup x = some .local := by first | exact .inl rfl | exact .inr rfl) : PS X (.Assign [.Name x pos'] a pos) (ls g W (dAsg i Ta)) := by
  refine ps_imp (ps_set (i := i) hN hi hx he hs hf) fun E σ H ⟨D, Δ, O, F, hT, sr, w, ho⟩ => ?_
  exact le_bind hT sr w (ho.toX sr) fun d O1 v F1 H1 hT1 s1 sr1 w1 rx hx1 => ho.nx _ _ _ _ _ hT1 s1 (sr1.set rx i) w1
def dExp (T : DE) : DS := fun D Δ O => T Δ O (fun _ O1 => D.nx Δ O1) (fun x O1 => D.xc x Δ O1)
theorem qs_expr (he : PE X a (le g W Ta)) (hs : swapsWith a none pos.line X.env = pure false := by rfl) : PS X (.Expr a pos) (ls g W (dExp Ta)) := by
  refine ps_imp (ps_expr he hs) fun E σ H ⟨D, Δ, O, F, hT, sr, w, ho⟩ => ?_
  exact le_bind hT sr w (ho.toX sr) fun d O1 v F1 H1 hT1 s1 sr1 w1 rx hx1 => ho.nx _ _ _ _ _ hT1 s1 sr1 w1
def dRet (T : DE) : DS := fun D Δ O => T Δ O D.rt (fun x O1 => D.xc x Δ O1)
theorem qs_ret (he : PE X a (le g W Ta)) : PS X (.Return (some a) pos) (ls g W (dRet Ta)) := by
  refine ps_imp (ps_ret he) fun E σ H ⟨D, Δ, O, F, hT, sr, w, ho⟩ => ?_
  exact le_bind hT sr w (ho.toX sr) fun d O1 v F1 H1 hT1 s1 sr1 w1 rx hx1 => ho.rt _ _ _ _ _ hT1 s1 w1 rx
def dRetN : DS := fun D _ O => D.rt .non O
theorem qs_retN : PS X (.Return none pos) (ls g W dRetN) := ps_imp ps_retN fun E σ H ⟨D, Δ, O, F, hT, sr, w, ho⟩ => ho.rt.now hT w (Rep.non_iff.mpr rfl)
def dIfS (t : DT) (T U : DS) : DS := fun D Δ O => t Δ O (fun k O1 => if k = true then T D Δ O1 else U D Δ O1) (fun x O1 => D.xc x Δ O1)
theorem qs_if {xs ys : List Stmt} (hc : PT X c (lt g W tA)) (ha : PSs X xs (ls g W T)) (hb : PSs X ys (ls g W U)) : PS X (.If c xs ys pos) (ls g W (dIfS tA T U)) := by
  refine ps_imp (ps_if hc ha hb) fun E σ H ⟨D, Δ, O, F, hT, sr, w, ho⟩ => ?_
  refine lt_bind hT sr w (ho.toX sr) fun k O1 F1 H1 hT1 s1 sr1 w1 hx1 => ?_
  cases k with
  | true =>
    rw [if_pos rfl] at hT1 ⊢
    exact ⟨D, Δ, O1, F1, hT1, sr1, w1, ho.mono s1⟩
  | false =>
    rw [if_neg Bool.false_ne_true] at hT1 ⊢
    exact ⟨D, Δ, O1, F1, hT1, sr1, w1, ho.mono s1⟩
def dBrk : DS := fun D Δ O => D.bk Δ O
def dCnt : DS := fun D Δ O => D.ct Δ O
def dNev : DS := fun _ _ _ => False
theorem qs_pass : PS X (.Pass pos) (ls g W dNext) := ps_imp ps_pass fun E σ H ⟨D, Δ, O, F, hT, sr, w, he⟩ => he.nx _ _ _ _ _ hT (Same.refl F) sr w
theorem qs_brk : PS X (.Break pos) (ls g W dBrk) := ps_imp ps_break fun E σ H ⟨D, Δ, O, F, hT, sr, w, he⟩ => he.bk _ _ _ _ _ hT (Same.refl F) sr w
theorem qs_cnt : PS X (.Continue pos) (ls g W dCnt) := ps_imp ps_continue fun E σ H ⟨D, Δ, O, F, hT, sr, w, he⟩ => he.ct _ _ _ _ _ hT (Same.refl F) sr w
theorem qs_nev : PS X st (ls g W dNev) := ps_imp ps_never fun E σ H ⟨D, Δ, O, F, hT, sr, w, he⟩ => hT.elim
theorem qss_nev {sts : List Stmt} : PSs X sts (ls g W dNev) := pss_imp pss_never fun E σ H ⟨D, Δ, O, F, hT, sr, w, he⟩ => hT.elim
/-- x += e -/
def dAug (i : Nat) (f : B2) (T : DE) : DS := fun D Δ O => match Δ[i]? with
  | some (some x) => T Δ O (fun y O1 => f x y O1 fun z O2 => D.nx (Δ.set i (some z)) O2) (fun x O1 => D.xc x Δ O1)
  | _ => False
def fAddI : B2 := fI0 fun i j => .int (i + j)
/-- o.f = e -/
def dSetF (cs : List Cl) (f : Fd) (To Tv : DE) : DS := fun D Δ O => Tv Δ O (fun d O1 => To Δ O1 (fun o O2 => match o with
  | .ptr p => (match getC O2 p with
    | some (.ins c fs ds) => c ∈ cs ∧ fs.length < 900 ∧ D.nx Δ (setC O2 p (.ins c (putFs f fs) (putDs f d fs ds)))
    | _ => False)
  | _ => False) (fun x O1 => D.xc x Δ O1)) (fun x O1 => D.xc x Δ O1)
theorem qs_setF {cs : List Cl} {f : Fd} {x : Str} (A : Flds g cs f) (ha : PE X a (le g W Ta)) (hb : PE X b (le g W Tb)) (hx : x = f.str := by rfl) (hK : X.K = g.K := by rfl) (hs : swapsWith b (some (.Attribute a x pos')) pos.line X.env = pure false := by rfl) :
    PS X (.Assign [.Attribute a x pos'] b pos) (ls g W (dSetF cs f Ta Tb)) := by
  subst hx
  refine ps_imp (ps_fld ha hb hs) fun E σ H ⟨D, Δ, O, F, hT, sr, w, ho⟩ => ?_
  refine le_bind hT sr w (ho.toX sr) fun d O1 v F1 H1 hT1 s1 sr1 w1 rx hx1 => le_bind hT1 sr1 w1 hx1 fun o O2 vo F2 H2 hT2 s2 sr2 w2 ro hx2 => ?_
  cases o with
  | ptr p =>
    have ev := Rep.ptr_iff.mp ro
    subst ev
    have hT2 : (match getC O2 p with
      | some (.ins c fs ds) => c ∈ cs ∧ fs.length < 900 ∧ D.nx Δ (setC O2 p (.ins c (putFs f fs) (putDs f d fs ds)))
      | _ => False) := hT2
    split at hT2
    · rename_i c fs ds e
      obtain ⟨hc, hl, hT2⟩ := hT2
      obtain ⟨fa, ob, h1, h2⟩ := w2.get e
      cases ob with
      | ins C dx vfs =>
        obtain ⟨rfl, h3, vs, rfl, h4⟩ := h2
        obtain ⟨ws, e1, e2, e3⟩ := putF_zip (f := f) (rx.mono s2) h3 h4
        refine ⟨p, g.ca c, dx, _, rfl, h1, by rw [hK]; exact A.cl _ hc, by rw [hK]; exact A.no _ hc, ?_, ?_⟩
        · unfold zipF
          rw [List.length_zip, List.length_map]
          omega
        · rw [e1]
          exact ho.nx _ _ _ _ _ hT2 (s1.trans s2) sr2 (w2.set e (c' := .ins c (putFs f fs) (putDs f d fs ds)) (o := .ins (g.ca c) dx (zipF (putFs f fs) ws)) ⟨rfl, e3, ws, rfl, e2⟩)
      | _ => exact h2.elim
    · exact hT2.elim
  | _ => exact hT2.elim
/-- a list with one place written -/
def setI (ds : List D) (k : Int) (d : D) : Option (List D) := match ixN ds.length k with | some j => some (ds.set j d) | none => none
/-- xs[i] = e, xs a list that is owned -/
def dSetIx (To Ti Tv : DE) : DS := fun D Δ O => Tv Δ O (fun d O1 => To Δ O1 (fun o O2 => Ti Δ O2 (fun i O3 => match o, i with
  | .ptr p, .int k => (match getC O3 p with
    | some (.lst ds) => (match setI ds k d with | some es => D.nx Δ (setC O3 p (.lst es)) | none => False)
    | _ => False)
  | _, _ => False) (fun x O1 => D.xc x Δ O1)) (fun x O1 => D.xc x Δ O1)) (fun x O1 => D.xc x Δ O1)
theorem qs_setIx {Tc : DE} (ha : PE X a (le g W Ta)) (hb : PE X b (le g W Tb)) (hc : PE X c (le g W Tc))
    (ha' : ∀ v, assign (.Subscript a b pos') X.env v = (do
      let ov ← holding [v] (eval a X.env)
      let iv ← holding [v, ov] (eval b X.env)
      standAt pos'
      holding [v, ov, iv] (setItem ov iv v)
      release [v, ov, iv] []) := by intro _; rfl) (hs : swapsWithSole [.Subscript a b pos'] c pos.line X.env = pure false := by rfl) (hw : swappedStores [.Subscript a b pos'] c X.env = pure none := by rfl)
    (h1 : (assignEach [.Subscript a b pos'] X.env).map (·.2) = [assign (.Subscript a b pos') X.env] := by rfl) : PS X (.Assign [.Subscript a b pos'] c pos) (ls g W (dSetIx Ta Tb Tc)) := by
  refine ps_imp (ps_asg hc (pg_sub ha hb set_list ha') hs hw h1) fun E σ H ⟨D, Δ, O, F, hT, sr, w, ho⟩ => ?_
  refine le_bind hT sr w (ho.toX sr) fun d O1 v F1 H1 hT1 s1 sr1 w1 rx hx1 => le_bind hT1 sr1 w1 hx1 fun o O2 vo F2 H2 hT2 s2 sr2 w2 ro hx2 => le_bind hT2 sr2 w2 hx2 fun i O3 vi F3 H3 hT3 s3 sr3 w3 ri hx3 => ?_
  cases o <;> cases i <;> first | exact hT3.elim | skip
  rename_i p k
  have ev := Rep.ptr_iff.mp ro
  subst ev
  have hT3 : (match getC O3 p with
    | some (.lst ds) => (match setI ds k d with | some es => D.nx Δ (setC O3 p (.lst es)) | none => False)
    | _ => False) := hT3
  split at hT3
  · rename_i ds e
    split at hT3
    · rename_i es eS
      unfold setI at eS
      split at eS
      rotate_left
      · cases eS
      rename_i j ej
      cases eS
      obtain ⟨fa, ob, h1, h2⟩ := w3.get e
      cases ob with
      | lst vs =>
        have h2 : Reps g F3 ds vs := h2
        refine ⟨p, vs, k, j, rfl, Rep.int_iff.mp ri, h1, by rw [← h2.length]; exact ej, ?_⟩
        exact ho.nx _ _ _ _ _ hT3 (s1.trans (s2.trans s3)) sr3 (w3.set e (c' := .lst (ds.set j d)) (o := .lst (vs.set j v)) (h2.set (rx.mono (s2.trans s3)) j))
      | _ => exact h2.elim
    · exact hT3.elim
  · exact hT3.elim
/-- xs.append(e) -/
def dApp (To Tv : DE) : DE := fun Δ O P E => To Δ O (fun o O1 => match o with
  | .ptr p => (match getC O1 p with
    | some (.lst _) => Tv Δ O1 (fun d O2 => match getC O2 p with
      | some (.lst ds) => ds.length < sizeLine ∧ P .non (setC O2 p (.lst (ds ++ [d])))
      | _ => False) E
    | _ => False)
  | _ => False) E
/-- give: pe_bm PySem.F.plainAttrs_list PySem.F.slot_list_append PySem.F.type_list_append mt_append HA (pa_cons HB pa_nil) -/
theorem q_app (h : PE X c (tBM X.K "list" rAppend (le g W Ta) (tCons (le g W Tb) tNil))) : PE X c (le g W (dApp Ta Tb)) := by
  refine pe_imp h fun σ H Q h => ?_
  obtain ⟨Δ, O, P, E, F, hT, sr, w, hv, hx⟩ := h
  refine le_bind hT sr w hx fun o O1 vo F1 H1 hT1 s1 sr1 w1 ro hx1 => ?_
  cases o with
  | ptr p =>
    have ev := Rep.ptr_iff.mp ro
    subst ev
    have hT1 : (match getC O1 p with
      | some (.lst _) => Tb Δ O1 (fun d O2 => match getC O2 p with
        | some (.lst ds) => ds.length < sizeLine ∧ P .non (setC O2 p (.lst (ds ++ [d])))
        | _ => False) E
      | _ => False) := hT1
    split at hT1
    · rename_i ds0 e0
      obtain ⟨_, ob, h1, h2⟩ := w1.get e0
      cases ob with
      | lst vs0 =>
        refine ⟨.inl ⟨rfl, _, SqL.of h1⟩, ?_⟩
        refine le_bind hT1 sr1 w1 hx1 fun d O2 vd F2 H2 hT2 s2 sr2 w2 rd hx2 => ?_
        split at hT2
        · rename_i ds e
          obtain ⟨_, ob, h3, h4⟩ := w2.get e
          cases ob with
          | lst vs =>
            have h4 : Reps g F2 ds vs := h4
            refine ⟨p, vs, vd, rfl, rfl, h3, by rw [← h4.length]; exact hT2.1, ?_⟩
            exact hv _ _ _ _ _ hT2.2 (s1.trans s2) (w2.set e (c' := .lst (ds ++ [d])) (o := .lst (vs ++ [vd])) (h4.append (Reps.one rd))) (Rep.non_iff.mpr rfl)
          | _ => exact h4.elim
        · exact hT2.elim
      | _ => exact h2.elim
    · exact hT1.elim
  | _ => exact hT1.elim
end

/-! ## loops -/
/-- what a walk gives: the data of its turns -/
structure Gives (g : Gm) (F : Hp) (J : It) (ds : List D) : Prop where
  go : ∀ (i : Nat) (d : D) F' O H, ds[i]? = some d → Same F F' → Wd g F' O H → J.go i H ∧ ∀ x H', J.yld i H x H' → ∃ F2, Same F' F2 ∧ Wd g F2 O H' ∧ Rep g F2 d x
  stop : ∀ (i : Nat) F' O H, ds.length ≤ i → Same F F' → Wd g F' O H → J.stop i H
theorem Gives.mono {g : Gm} {F F1 : Hp} {J : It} {ds : List D} (h : Gives g F J ds) (e : Same F F1) : Gives g F1 J ds := ⟨fun i d F' O H q s => h.go i d F' O H q (e.trans s), fun i F' O H q s => h.stop i F' O H q (e.trans s)⟩
def li (g : Gm) (W : WX) (T : DA) : TI := fun σ H R => ∃ Δ O P E F, T Δ O P E ∧ SRel g F σ Δ ∧ Wd g F O H ∧ (∀ ds O' F' H' J, P ds O' → Same F F' → Wd g F' O' H' → Gives g F' J ds → R J H') ∧ XOk g F W σ E
theorem pi_imp {X : Cx} {tg e : Expr} {t t' : TI} (h : PI X tg e t) (k : ∀ σ H Q, t' σ H Q → t σ H Q) : PI X tg e t' := ⟨fun pins s σ H R I q => h.run pins s σ H R I (k _ _ _ q)⟩
section
variable {g : Gm} {X : Cx} {W : WX} {pos pos' : Pos} {a b c tg : Expr} {Ta Tb : DE} {tA tB : DT} {R : DA}
theorem gives_list {F : Hp} {p : Addr} {vs : List V} {ds : List D} (h : F p = some (.lst vs)) (r : Reps g F ds vs) : Gives g F (Itl g.K p) ds := by
  refine ⟨fun i d F' O H q s w => ?_, fun i F' O H q s w => ⟨vs, SqL.of (w.same _ _ (s _ _ h)), by rw [← r.length]; exact q⟩⟩
  obtain ⟨v, hv, rv⟩ := r.get q
  have hs : SqL g.K H p vs := SqL.of (w.same _ _ (s _ _ h))
  refine ⟨⟨vs, v, hs, hv⟩, fun x H' ⟨e, y⟩ => ⟨F', Same.refl F', by rw [e]; exact w, ?_⟩⟩
  have z := y vs hs
  rw [hv] at z
  cases z
  exact rv.mono s
theorem gives_tup {F : Hp} {p : Addr} {vs : List V} {ds : List D} (h : SqT g.K F p vs) (r : Reps g F ds vs) : Gives g F (Itt g.K p) ds := by
  refine ⟨fun i d F' O H q s w => ?_, fun i F' O H q s w => ⟨vs, sqt_same w.same (sqt_same s h), by rw [← r.length]; exact q⟩⟩
  obtain ⟨v, hv, rv⟩ := r.get q
  have hs : SqT g.K H p vs := sqt_same w.same (sqt_same s h)
  refine ⟨⟨vs, v, hs, hv⟩, fun x H' ⟨e, y⟩ => ⟨F', Same.refl F', by rw [e]; exact w, ?_⟩⟩
  have z := y vs hs
  rw [hv] at z
  cases z
  exact rv.mono s
/-- the items of a list that stands still -/
def dItL (T : DE) : DA := fun Δ O P E => T Δ O (fun d O1 => match d with | .lst ds => P ds O1 | _ => False) E
def dItT (T : DE) : DA := fun Δ O P E => T Δ O (fun d O1 => match d with | .tup ds => P ds O1 | _ => False) E
theorem qi_list (ha : PE X a (le g W Ta)) (hK : X.K = g.K := by rfl) : PI X tg a (li g W (dItL Ta)) := by
  refine pi_imp (pi_list ha) fun σ H R h => ?_
  obtain ⟨Δ, O, P, E, F, hT, sr, w, hR, hx⟩ := h
  refine le_bind hT sr w hx fun d O1 v F1 H1 hT1 s1 sr1 w1 rx hx1 => ?_
  cases d with
  | lst ds =>
    obtain ⟨p, vs, rfl, h1, h2⟩ := Rep.lst_iff.mp rx
    exact ⟨p, rfl, ⟨vs, SqL.of (w1.same _ _ h1)⟩, hR _ _ _ _ _ hT1 s1 w1 (by rw [hK]; exact gives_list h1 h2)⟩
  | _ => exact hT1.elim
theorem qi_tup (ha : PE X a (le g W Ta)) (hK : X.K = g.K := by rfl) : PI X tg a (li g W (dItT Ta)) := by
  refine pi_imp (pi_tup ha) fun σ H R h => ?_
  obtain ⟨Δ, O, P, E, F, hT, sr, w, hR, hx⟩ := h
  refine le_bind hT sr w hx fun d O1 v F1 H1 hT1 s1 sr1 w1 rx hx1 => ?_
  cases d with
  | tup ds =>
    obtain ⟨p, vs, rfl, h1, h2⟩ := Rep.tup_sq rx
    exact ⟨p, rfl, ⟨vs, by rw [hK]; exact sqt_same w1.same h1⟩, hR _ _ _ _ _ hT1 s1 w1 (by rw [hK]; exact gives_tup h1 h2)⟩
  | _ => exact hT1.elim
def rangeD (lo : Int) (n : Nat) : List D := (List.range n).map fun (i : Nat) => .int (lo + (i : Int))
theorem gives_range {F : Hp} (lo : Int) (n : Nat) : Gives g F (Itr lo n) (rangeD lo n) := by
  refine ⟨fun i d F' O H q s w => ?_, fun i F' O H q s w => (show n ≤ i by simpa [rangeD] using q)⟩
  have hi : i < n := by
    have z := (List.getElem?_eq_some_iff.mp q).1
    simpa [rangeD] using z
  refine ⟨hi, fun x H' ⟨e, y⟩ => ⟨F', Same.refl F', by rw [e]; exact w, ?_⟩⟩
  have ed : d = .int (lo + (i : Int)) := by
    unfold rangeD at q
    rw [List.getElem?_map, List.getElem?_range hi] at q
    exact (Option.some.inj q).symm
  rw [ed, y]
  exact rint
def dRng1 (R : DA) : DA := fun Δ O P E => R Δ O (fun ds O1 => match ds with | [.int j] => -(2 ^ 62) ≤ j ∧ j < 2 ^ 62 ∧ P (rangeD 0 j.toNat) O1 | _ => False) E
def dRng2 (R : DA) : DA := fun Δ O P E => R Δ O (fun ds O1 => match ds with | [.int i, .int j] => (-(2 ^ 62) ≤ i ∧ i < 2 ^ 62 ∧ -(2 ^ 62) ≤ j ∧ j < 2 ^ 62) ∧ P (rangeD i (j - i).toNat) O1 | _ => False) E
theorem qi_range1 {p : Pos} (hm : X.mg "range" = none) (ha : PA X [a] (la g W R)) (hg : Gl X "range" := by rfl) (hs : starEach [a] X.env = [(false, eval a X.env)] := by rfl) : PI X tg (.Call (.Name "range" p) [a] [] pos) (li g W (dRng1 R)) := by
  refine pi_imp (pi_range1 hg hm ha hs) fun σ H Rr h => ?_
  obtain ⟨Δ, O, P, E, F, hT, sr, w, hR, hx⟩ := h
  refine la_bind hT sr w hx fun ds O1 vs F1 H1 hT1 s1 sr1 w1 rx hx1 => ?_
  split at hT1
  · rename_i j
    obtain ⟨v, r, rfl, h1, h2⟩ := Reps.cons_iff.mp rx
    rw [Reps.nil_iff] at h2
    subst h2
    exact ⟨j, by rw [Rep.int_iff.mp h1], hT1.1, hT1.2.1, hR _ _ _ _ _ hT1.2.2 s1 w1 (gives_range 0 _)⟩
  · exact hT1.elim
theorem qi_range2 {p : Pos} (hm : X.mg "range" = none) (ha : PA X [a, b] (la g W R)) (hg : Gl X "range" := by rfl) (hs : starEach [a, b] X.env = [(false, eval a X.env), (false, eval b X.env)] := by rfl) (hs2 : starEach [b] X.env = [(false, eval b X.env)] := by rfl) :
    PI X tg (.Call (.Name "range" p) [a, b] [] pos) (li g W (dRng2 R)) := by
  refine pi_imp (pi_range2 hg hm ha hs hs2) fun σ H Rr h => ?_
  obtain ⟨Δ, O, P, E, F, hT, sr, w, hR, hx⟩ := h
  refine la_bind hT sr w hx fun ds O1 vs F1 H1 hT1 s1 sr1 w1 rx hx1 => ?_
  split at hT1
  · rename_i i j
    obtain ⟨v, r, rfl, h1, h2⟩ := Reps.cons_iff.mp rx
    obtain ⟨v', r', rfl, h3, h4⟩ := Reps.cons_iff.mp h2
    rw [Reps.nil_iff] at h4
    subst h4
    exact ⟨i, j, by rw [Rep.int_iff.mp h1, Rep.int_iff.mp h3], hT1.1, hR _ _ _ _ _ hT1.2 s1 w1 (gives_range _ _)⟩
  · exact hT1.elim

/-! ### targets -/
abbrev DG := D → Sl → (Sl → Prop) → Prop
/-- a name; a tuple of names -/
def dgN (i : Nat) : DG := fun d Δ Q => Q (Δ.set i (some d))
def setAll : List Nat → List D → Sl → Option Sl
  | [], [], Δ => some Δ
  | i :: is, d :: ds, Δ => setAll is ds (Δ.set i (some d))
  | _, _, _ => none
def dgT (is : List Nat) : DG := fun d Δ Q => match d with | .tup ds => (match setAll is ds Δ with | some Δ' => Q Δ' | none => False) | _ => False
/-- the heap's target and the data's target belong together, and touch the slots js alone -/
def LkG (g : Gm) (t : TG) (G : DG) (js : List Nat) : Prop := ∀ d v σ Δ F O H (P : Sl → Prop) (Q : St → Hp → Prop), G d Δ P → Rep g F d v → SRel g F σ Δ → Wd g F O H →
  (∀ Δ' σ', P Δ' → SRel g F σ' Δ' → (∀ i : Nat, i ∉ js → σ'[i]? = σ[i]?) → σ'.length = σ.length → Q σ' H) → t v σ H Q
theorem lkg_name (i : Nat) : LkG g (gName i) (dgN i) [i] := fun d v σ Δ F O H P Q hG rv sr w k => k _ _ hG (sr.set rv i) (fun j hj => by
  rw [List.getElem?_set_ne]
  intro e
  exact hj (by simp [e])) (by simp)
def gNames : List Nat → TGs
  | [] => gNil
  | i :: is => gCons (gName i) (gNames is)
theorem lkg_names {F : Hp} {O : Sto} {H : Hp} : ∀ (is : List Nat) (ds : List D) (vs : List V) (σ : St) (Δ Δ' : Sl) (Q : St → Hp → Prop), setAll is ds Δ = some Δ' → Reps g F ds vs → SRel g F σ Δ → Wd g F O H →
    (∀ σ', SRel g F σ' Δ' → (∀ i : Nat, i ∉ is → σ'[i]? = σ[i]?) → σ'.length = σ.length → Q σ' H) → gNames is vs σ H Q ∧ vs.length = is.length := by
  intro is
  induction is with
  | nil =>
    intro ds vs σ Δ Δ' Q h r sr w k
    cases ds with
    | nil =>
      rw [Reps.nil_iff] at r
      subst r
      cases h
      exact ⟨⟨rfl, k σ sr (fun _ _ => rfl) rfl⟩, rfl⟩
    | cons d ds => simp [setAll] at h
  | cons i is ih =>
    intro ds vs σ Δ Δ' Q h r sr w k
    cases ds with
    | nil => simp [setAll] at h
    | cons d ds =>
      obtain ⟨v, rr, rfl, h1, h2⟩ := Reps.cons_iff.mp r
      obtain ⟨q1, q2⟩ := ih ds rr (σ.set i (some v)) (Δ.set i (some d)) Δ' Q h h2 (sr.set h1 i) w (fun σ' z1 z2 z3 => k σ' z1 (fun j hj => by
        rw [z2 j (fun z => hj (List.mem_cons_of_mem _ z)), List.getElem?_set_ne]
        intro e
        exact hj (by simp [e])) (by rw [z3]; simp))
      exact ⟨⟨v, rr, rfl, q1⟩, by rw [List.length_cons, List.length_cons, q2]⟩
theorem lkg_tup (is : List Nat) : LkG g (gTup g.K is.length (gNames is)) (dgT is) is := by
  intro d v σ Δ F O H P Q hG rv sr w k
  cases d with
  | tup ds =>
    obtain ⟨p, vs, rfl, h1, h2⟩ := Rep.tup_sq rv
    have hG : (match setAll is ds Δ with | some Δ' => P Δ' | none => False) := hG
    split at hG
    · rename_i Δ' e
      obtain ⟨q1, q2⟩ := lkg_names is ds vs σ Δ Δ' Q e h2 sr w (fun σ' z1 z2 z3 => k _ σ' hG z1 z2 z3)
      exact ⟨p, vs, rfl, sqt_same w.same h1, q2, q1⟩
    · exact hG.elim
  | _ => exact hG.elim

/-! ### for -/
def forD (Gd : DG) (B : DS) (E : DEnds) : List D → Sl → Sto → Prop
  | [], Δ, O => E.nx Δ O
  | d :: r, Δ, O => Gd d Δ fun Δ' => B { E with nx := forD Gd B E r, ct := forD Gd B E r, bk := E.nx } Δ' O
def dFor (R : DA) (G : DG) (B : DS) : DS := fun D Δ O => R Δ O (fun ds O1 => forD G B D ds Δ O1) (fun x O1 => D.xc x Δ O1)
theorem qs_for {iter : Expr} {body : List Stmt} {t : TG} {Gd : DG} {js : List Nat} {B : DS} (hp : PassesOwn (model X.prog X.w) X.A X.env X.xe) (hi : PI X tg iter (li g W R)) (hg : PG X tg t) (lk : LkG g t Gd js) (hb : PSs X body (ls g W B)) (hc : X.calm = true := by rfl)
    (hs : ∀ x, foldedSetIterable iter X.env x = pure x := by intro _; rfl) : PS X (.For tg iter body [] pos) (ls g W (dFor R Gd B)) := by
  refine ps_imp (ps_for hp hc hi hg hb hs) fun E σ H ⟨D, Δ, O, F, hT, sr, w, ho⟩ => ?_
  refine ⟨Δ, O, _, _, F, hT, sr, w, fun ds O1 F1 H1 J hP s1 w1 gv => ?_, ho.toX sr⟩
  refine ⟨fun i m σ H => m = ds.length - i ∧ i ≤ ds.length ∧ ∃ Δ O F', Same F1 F' ∧ SRel g F' σ Δ ∧ Wd g F' O H ∧ forD Gd B D (ds.drop i) Δ O, ⟨ds.length, by simp, Nat.zero_le _, Δ, O1, F1, Same.refl F1, sr.mono s1, w1, by simpa using hP⟩, ?_⟩
  rintro i m σ2 H2 ⟨rfl, hi, Δ2, O2, F2, s2, sr2, w2, hF⟩
  by_cases hlt : i < ds.length
  · obtain ⟨go, yl⟩ := gv.go i ds[i] F2 O2 H2 (List.getElem?_eq_getElem hlt) s2 w2
    refine .inr ⟨go, fun σ' H' => ∃ Δ O F', Same F1 F' ∧ SRel g F' σ' Δ ∧ Wd g F' O H' ∧ forD Gd B D (ds.drop (i + 1)) Δ O, fun σ' H' q => ⟨ds.length - (i + 1), by omega, rfl, hlt, q⟩, fun x H' y => ?_⟩
    obtain ⟨F3, s3, w3, r3⟩ := yl x H' y
    rw [List.drop_eq_getElem_cons hlt] at hF
    refine lk ds[i] x σ2 Δ2 F3 O2 H' _ _ hF r3 (sr2.mono s3) w3 fun Δ' σ' hB sr' _ _ => ?_
    have s03 : Same F F3 := s1.trans (s2.trans s3)
    refine ⟨_, Δ', O2, F3, hB, sr', w3, ?_⟩
    have nx : ∀ Δ O F' σ H, forD Gd B D (ds.drop (i + 1)) Δ O → Same F3 F' → SRel g F' σ Δ → Wd g F' O H → ∃ Δ O F', Same F1 F' ∧ SRel g F' σ Δ ∧ Wd g F' O H ∧ forD Gd B D (ds.drop (i + 1)) Δ O :=
      fun Δ O F' σ H q s sr w => ⟨Δ, O, F', (s2.trans s3).trans s, sr, w, q⟩
    exact ⟨nx, ho.rt.mono s03, fun Δ O F' σ H q s => (ho.mono s03).nx Δ O F' σ H q s, nx, (ho.mono s03).xc⟩
  · have e : i = ds.length := by omega
    subst e
    refine .inl ⟨gv.stop _ F2 O2 H2 (Nat.le_refl _) s2 w2, ?_⟩
    rw [List.drop_length] at hF
    exact ho.nx _ _ _ _ _ hF (s1.trans s2) sr2 w2
end
end G

set_option Elab.async false
set_option linter.all false
set_option maxRecDepth 100000
set_option maxHeartbeats 4000000
namespace G
open PySem L2
/-! ## comprehensions -/
def wipeD (Δ : Sl) : List Nat → Sl
  | [] => Δ
  | v :: vs => (wipeD Δ vs).set v none
theorem SRel.setNone {g : Gm} {F : Hp} {σ : St} {Δ : Sl} (h : SRel g F σ Δ) (i : Nat) : SRel g F (σ.set i none) (Δ.set i none) := by
  refine ⟨by rw [List.length_set, List.length_set, h.1], fun j e q => ?_⟩
  rw [List.getElem?_set] at q ⊢
  by_cases z : i = j
  · subst z
    rw [if_pos rfl] at q
    by_cases y : i < Δ.length
    · rw [if_pos y] at q
      cases q
    · rw [if_neg y] at q
      cases q
  · rw [if_neg z] at q ⊢
    exact h.2 j e q
theorem SRel.wipe {g : Gm} {F : Hp} {σ : St} {Δ : Sl} (h : SRel g F σ Δ) : ∀ vs : List Nat, SRel g F (L2.wipe σ vs) (wipeD Δ vs)
  | [] => h
  | v :: vs => (SRel.wipe h vs).setNone v
theorem wipe_at (σ : St) : ∀ (vs : List Nat) (i : Nat), (L2.wipe σ vs)[i]? = if i ∈ vs then (if i < σ.length then some none else none) else σ[i]?
  | [], i => by simp [L2.wipe]
  | v :: vs, i => by
    show ((L2.wipe σ vs).set v none)[i]? = _
    rw [List.getElem?_set]
    by_cases z : v = i
    · subst z
      rw [if_pos rfl, L2.wipe_length]
      simp
    · rw [if_neg z, wipe_at σ vs i]
      have e : (i ∈ v :: vs) ↔ i ∈ vs := by
        rw [List.mem_cons]
        exact ⟨fun h => h.elim (fun q => absurd q.symm z) id, .inr⟩
      simp only [e]
theorem wipe_wipe {σ τ : St} {vs : List Nat} (hl : τ.length = (L2.wipe σ vs).length) (h : ∀ i : Nat, i ∉ vs → τ[i]? = (L2.wipe σ vs)[i]?) : L2.wipe τ vs = L2.wipe σ vs := by
  apply List.ext_getElem?
  intro i
  rw [wipe_at, wipe_at]
  rw [L2.wipe_length] at hl
  by_cases z : i ∈ vs
  · rw [if_pos z, if_pos z, hl]
  · rw [if_neg z, if_neg z, h i z, wipe_at, if_neg z]

/-- [e for t in .. if c]: what is left to walk, what has been made (it stands at p) -/
def lcD (Gd : DG) (Tt : DT) (Te : DE) (p : Addr) (P : List D → Sto → Prop) : List D → List D → Sl → Sto → Prop
  | [], acc, _, O => P acc O
  | x :: r, acc, Δ, O => Gd x Δ fun Δ' => Tt Δ' ((p, .lst acc) :: O) (fun k O1 => if k = true
      then Te Δ' O1 (fun y O2 => ∃ O3, O2 = (p, .lst acc) :: O3 ∧ lcD Gd Tt Te p P r (acc ++ [y]) Δ O3) (fun _ _ => False)
      else ∃ O3, O1 = (p, .lst acc) :: O3 ∧ lcD Gd Tt Te p P r acc Δ O3) (fun _ _ => False)
def dLc (R : DA) (Gd : DG) (Tt : DT) (Te : DE) (vs : List Nat) : DE := fun Δ O P E => R Δ O (fun ds O1 => ds.length ≤ 1000000 ∧ ∀ p, freshC O1 p → lcD Gd Tt Te p (fun acc O2 => P (.lst acc) O2) ds [] (wipeD Δ vs) O1) E
/-- the list made is owned -/
def dLcO (R : DA) (Gd : DG) (Tt : DT) (Te : DE) (vs : List Nat) : DE := fun Δ O P E => R Δ O (fun ds O1 => ds.length ≤ 1000000 ∧ ∀ p, freshC O1 p → lcD Gd Tt Te p (fun acc O2 => P (.ptr p) ((p, .lst acc) :: O2)) ds [] (wipeD Δ vs) O1) E
abbrev W0 : WX := fun _ _ _ _ => False
section
variable {g : Gm} {X : Cx} {W : WX} {pos pos' : Pos} {a b c tg : Expr} {Ta Tb : DE} {tA tB : DT} {R : DA}
theorem xok0 {F : Hp} {σ : St} : XOk g F W0 σ (fun _ _ => False) := fun x O cls dd F' H q _ _ _ => q
theorem tlc_of {t : TG} {Gd : DG} {js vs : List Nat} {Tt : DT} {Te : DE} (lk : LkG g t Gd js) (hjs : ∀ j ∈ js, j ∈ vs) {PL : Addr → List D → Sto → Prop} {σ : St} {H : Hp} {Q : VK} {Δ : Sl} {O : Sto} {F : Hp} {J : It} {ds : List D}
    (hT : ds.length ≤ 1000000 ∧ ∀ p, freshC O p → lcD Gd Tt Te p (PL p) ds [] (wipeD Δ vs) O) (sr : SRel g F σ Δ) (w : Wd g F O H) (gv : Gives g F J ds)
    (hQ : ∀ p acc O1 F1 H1, PL p acc O1 → Same F F1 → Wd g F1 ((p, .lst acc) :: O1) H1 → Q (.ref p) H1) :
    ∀ Dl, H Dl = none → ∃ W : Nat → Nat → Hp → Prop, (∃ m, W 0 m (upd H Dl (.lst []))) ∧ ∀ i m H, W i m H →
      (J.stop i H ∧ Q (.ref Dl) H) ∨ (J.go i H ∧ ∃ Nx : Hp → Prop, (∀ H', Nx H' → ∃ m', m' < m ∧ W (i + 1) m' H') ∧ ∀ x H', J.yld i H x H' → t x (L2.wipe σ vs) H' fun σ2 H2 => L2.wipe σ2 vs = L2.wipe σ vs ∧ lt g W0 Tt σ2 H2 fun b H3 =>
        if b = true then le g W0 Te σ2 H3 fun y H4 => ∃ acc, H4 Dl = some (.lst acc) ∧ acc.length < sizeLine ∧ Nx (upd H4 Dl (.lst (acc ++ [y]))) else Nx H3) := by
  intro p hp
  obtain ⟨hz, hT⟩ := hT
  have hT := hT p (w.fresh hp)
  refine ⟨fun i m H => m = ds.length - i ∧ i ≤ ds.length ∧ ∃ acc O1 F', acc.length ≤ i ∧ Same F F' ∧ Wd g F' ((p, .lst acc) :: O1) H ∧ lcD Gd Tt Te p (PL p) (ds.drop i) acc (wipeD Δ vs) O1,
    ⟨ds.length, by simp, Nat.zero_le _, [], O, F, Nat.le_refl _, Same.refl F, w.own (c := .lst []) (o := .lst []) hp (Reps.nil (g := g) (F := F)), by simpa using hT⟩, ?_⟩
  rintro i m H2 ⟨rfl, hi, acc, O2, F2, ha, s2, w2, hL⟩
  by_cases hlt : i < ds.length
  · obtain ⟨go, yl⟩ := gv.go i ds[i] F2 _ H2 (List.getElem?_eq_getElem hlt) s2 w2
    refine .inr ⟨go, fun H' => ∃ acc O1 F', acc.length ≤ i + 1 ∧ Same F F' ∧ Wd g F' ((p, .lst acc) :: O1) H' ∧ lcD Gd Tt Te p (PL p) (ds.drop (i + 1)) acc (wipeD Δ vs) O1, fun H' q => ⟨ds.length - (i + 1), by omega, rfl, hlt, q⟩, fun x H' y => ?_⟩
    obtain ⟨F3, s3, w3, r3⟩ := yl x H' y
    rw [List.drop_eq_getElem_cons hlt] at hL
    refine lk ds[i] x (L2.wipe σ vs) (wipeD Δ vs) F3 _ H' _ _ hL r3 ((sr.wipe vs).mono (s2.trans s3)) w3 fun Δ' σ' hB sr' ho hl => ⟨wipe_wipe hl fun j hj => ho j fun q => hj (hjs j q), ?_⟩
    refine lt_bind hB sr' w3 xok0 fun k O4 F4 H4 hT4 s4 sr4 w4 hx4 => ?_
    cases k with
    | true =>
      rw [if_pos rfl] at hT4 ⊢
      refine le_bind hT4 sr4 w4 hx4 fun y O5 vy F5 H5 hT5 s5 sr5 w5 ry hx5 => ?_
      obtain ⟨O6, e6, hT6⟩ := hT5
      subst e6
      obtain ⟨_, ob, h1, h2⟩ := w5.cel (p, .lst acc) List.mem_cons_self
      cases ob with
      | lst vs' =>
        have h2 : Reps g F5 acc vs' := h2
        refine ⟨vs', h1, ?_, acc ++ [y], O6, F5, ?_, s2.trans (s3.trans (s4.trans s5)), ?_, hT6⟩
        · rw [← h2.length, sizeLine_eq]
          omega
        · rw [List.length_append, List.length_singleton]
          omega
        · have z := w5.set (a := p) (c := .lst acc) (c' := .lst (acc ++ [y])) (o := .lst (vs' ++ [vy])) (by simp [getC]) (h2.append (Reps.one ry))
          simpa [setC] using z
      | _ => exact h2.elim
    | false =>
      rw [if_neg Bool.false_ne_true] at hT4 ⊢
      obtain ⟨O6, e6, hT6⟩ := hT4
      subst e6
      exact ⟨acc, O6, F4, by omega, s2.trans (s3.trans s4), w4, hT6⟩
  · have e : i = ds.length := by omega
    subst e
    rw [List.drop_length] at hL
    exact .inl ⟨gv.stop _ F2 _ H2 (Nat.le_refl _) s2 w2, hQ p acc O2 F2 H2 hL s2 w2⟩
theorem q_lc {elt iter : Expr} {ifs : List Expr} {scope : Scope} {own : List (Str × Nat)} {t : TG} {Gd : DG} {js : List Nat} {Tt : DT} {Te : DE} (hN : X.N.Nodup) (hi : PI X tg iter (li g W R)) (ok : BlkOk X.N X.env.scope scope own)
    (hg : ∀ (s : Shared) (H : Hp) (C : Addr) (cl : List (Str × Addr)) (fp : List Addr), PG (X.blk s H scope (compEnvC scope cl C X.env) fp) tg t) (lk : LkG g t Gd js) (ht : ∀ (s : Shared) (H : Hp) (C : Addr) (cl : List (Str × Addr)) (fp : List Addr), PTs (X.blk s H scope (compEnvC scope cl C X.env) fp) ifs (lt g W0 Tt))
    (he : ∀ (s : Shared) (H : Hp) (C : Addr) (cl : List (Str × Addr)) (fp : List Addr), PE (X.blk s H scope (compEnvC scope cl C X.env) fp) elt (le g W0 Te)) (hc : X.calm = true := by rfl) (hjs : ∀ j ∈ js, j ∈ own.map (·.2) := by decide) (hs : ∀ x, foldedSetIterable iter X.env x = pure x := by intro _; rfl) :
    PE X (.ListComp elt [⟨tg, iter, ifs, 0⟩] scope pos) (le g W (dLc R Gd Tt Te (own.map (·.2)))) := by
  refine pe_imp (pe_lc hc hN hi ok hg ht he hs) fun σ H Q h => ?_
  obtain ⟨Δ, O, P, E, F, hT, sr, w, hv, hx⟩ := h
  refine ⟨Δ, O, _, _, F, hT, sr, w, fun ds O1 F1 H1 J hP s1 w1 gv => ?_, hx⟩
  refine tlc_of (PL := fun _ acc O2 => P (.lst acc) O2) lk hjs hP (sr.mono s1) w1 gv fun p acc O2 F2 H2 hp s2 w2 => ?_
  obtain ⟨o, ho, hc, s3, w3⟩ := w2.freeze (a := p) (c := .lst acc) (by simp [getC])
  exact hv _ _ _ _ _ hp (s1.trans (s2.trans s3)) (by simpa [delC] using w3) (frz_rep rfl hc (w2.cel _ List.mem_cons_self).1)
theorem q_lcO {elt iter : Expr} {ifs : List Expr} {scope : Scope} {own : List (Str × Nat)} {t : TG} {Gd : DG} {js : List Nat} {Tt : DT} {Te : DE} (hN : X.N.Nodup) (hi : PI X tg iter (li g W R)) (ok : BlkOk X.N X.env.scope scope own)
    (hg : ∀ (s : Shared) (H : Hp) (C : Addr) (cl : List (Str × Addr)) (fp : List Addr), PG (X.blk s H scope (compEnvC scope cl C X.env) fp) tg t) (lk : LkG g t Gd js) (ht : ∀ (s : Shared) (H : Hp) (C : Addr) (cl : List (Str × Addr)) (fp : List Addr), PTs (X.blk s H scope (compEnvC scope cl C X.env) fp) ifs (lt g W0 Tt))
    (he : ∀ (s : Shared) (H : Hp) (C : Addr) (cl : List (Str × Addr)) (fp : List Addr), PE (X.blk s H scope (compEnvC scope cl C X.env) fp) elt (le g W0 Te)) (hc : X.calm = true := by rfl) (hjs : ∀ j ∈ js, j ∈ own.map (·.2) := by decide) (hs : ∀ x, foldedSetIterable iter X.env x = pure x := by intro _; rfl) :
    PE X (.ListComp elt [⟨tg, iter, ifs, 0⟩] scope pos) (le g W (dLcO R Gd Tt Te (own.map (·.2)))) := by
  refine pe_imp (pe_lc hc hN hi ok hg ht he hs) fun σ H Q h => ?_
  obtain ⟨Δ, O, P, E, F, hT, sr, w, hv, hx⟩ := h
  refine ⟨Δ, O, _, _, F, hT, sr, w, fun ds O1 F1 H1 J hP s1 w1 gv => ?_, hx⟩
  refine tlc_of (PL := fun p acc O2 => P (.ptr p) ((p, .lst acc) :: O2)) lk hjs hP (sr.mono s1) w1 gv fun p acc O2 F2 H2 hp s2 w2 => ?_
  exact hv _ _ _ _ _ hp (s1.trans s2) w2 (Rep.ptr_iff.mpr rfl)
def dYes : DT := fun _ O P _ => P true O
theorem qts_nil : PTs X [] (lt g W dYes) := ⟨fun pins s σ H Q I h => pts_nil.run pins s σ H Q I (by
  obtain ⟨Δ, O, P, E, F, hT, sr, w, hv, hx⟩ := h
  exact hv.now hT w)⟩
theorem qts_one (h : PT X c (lt g W tA)) : PTs X [c] (lt g W tA) := pts_one h
/-- y = [..] on one line -/
theorem qs_asgLc {i : Nat} {y : Str} {py spos : Pos} {elt iter : Expr} {ifs : List Expr} {scope : Scope} {own : List (Str × Nat)} {t : TG} {Gd : DG} {js : List Nat} {Tt : DT} {Te : DE} (hN : X.N.Nodup) (hi : PI X tg iter (li g W R)) (ok : BlkOk X.N X.env.scope scope own)
    (hg : ∀ (s : Shared) (H : Hp) (C : Addr) (cl : List (Str × Addr)) (fp : List Addr), PG (X.blk s H scope (compEnvC scope cl C X.env) fp) tg t) (lk : LkG g t Gd js) (ht : ∀ (s : Shared) (H : Hp) (C : Addr) (cl : List (Str × Addr)) (fp : List Addr), PTs (X.blk s H scope (compEnvC scope cl C X.env) fp) ifs (lt g W0 Tt))
    (he : ∀ (s : Shared) (H : Hp) (C : Addr) (cl : List (Str × Addr)) (fp : List Addr), PE (X.blk s H scope (compEnvC scope cl C X.env) fp) elt (le g W0 Te))
    (h : PS X (.Assign [.Name y py] (.ListComp elt [⟨tg, iter, ifs, 0⟩] scope pos) spos) (tAsg (tLc (li g W R) t (lt g W0 Tt) (le g W0 Te) (own.map (·.2))) (gName i))) (hjs : ∀ j ∈ js, j ∈ own.map (·.2) := by decide) :
    PS X (.Assign [.Name y py] (.ListComp elt [⟨tg, iter, ifs, 0⟩] scope pos) spos) (ls g W (dAsg i (dLc R Gd Tt Te (own.map (·.2))))) := by
  refine ps_imp h fun En σ H ⟨D, Δ, O, F, hT, sr, w, ho⟩ => ?_
  refine ⟨Δ, O, _, _, F, hT, sr, w, fun ds O1 F1 H1 J hP s1 w1 gv => ?_, ho.toX sr⟩
  refine tlc_of (Q := fun x H1 => gName i x σ H1 En.nx) (PL := fun _ acc O2 => D.nx (Δ.set i (some (.lst acc))) O2) lk hjs hP (sr.mono s1) w1 gv fun p acc O2 F2 H2 hp s2 w2 => ?_
  obtain ⟨o, ho', hc, s3, w3⟩ := w2.freeze (a := p) (c := .lst acc) (by simp [getC])
  have s := s1.trans (s2.trans s3)
  exact ho.nx _ _ _ _ _ hp s ((sr.mono s).set (frz_rep rfl hc (w2.cel _ List.mem_cons_self).1) i) (by simpa [delC] using w3)
/-- .. the list made is owned -/
theorem qs_asgLcO {i : Nat} {y : Str} {py spos : Pos} {elt iter : Expr} {ifs : List Expr} {scope : Scope} {own : List (Str × Nat)} {t : TG} {Gd : DG} {js : List Nat} {Tt : DT} {Te : DE} (hN : X.N.Nodup) (hi : PI X tg iter (li g W R)) (ok : BlkOk X.N X.env.scope scope own)
    (hg : ∀ (s : Shared) (H : Hp) (C : Addr) (cl : List (Str × Addr)) (fp : List Addr), PG (X.blk s H scope (compEnvC scope cl C X.env) fp) tg t) (lk : LkG g t Gd js) (ht : ∀ (s : Shared) (H : Hp) (C : Addr) (cl : List (Str × Addr)) (fp : List Addr), PTs (X.blk s H scope (compEnvC scope cl C X.env) fp) ifs (lt g W0 Tt))
    (he : ∀ (s : Shared) (H : Hp) (C : Addr) (cl : List (Str × Addr)) (fp : List Addr), PE (X.blk s H scope (compEnvC scope cl C X.env) fp) elt (le g W0 Te))
    (h : PS X (.Assign [.Name y py] (.ListComp elt [⟨tg, iter, ifs, 0⟩] scope pos) spos) (tAsg (tLc (li g W R) t (lt g W0 Tt) (le g W0 Te) (own.map (·.2))) (gName i))) (hjs : ∀ j ∈ js, j ∈ own.map (·.2) := by decide) :
    PS X (.Assign [.Name y py] (.ListComp elt [⟨tg, iter, ifs, 0⟩] scope pos) spos) (ls g W (dAsg i (dLcO R Gd Tt Te (own.map (·.2))))) := by
  refine ps_imp h fun En σ H ⟨D, Δ, O, F, hT, sr, w, ho⟩ => ?_
  refine ⟨Δ, O, _, _, F, hT, sr, w, fun ds O1 F1 H1 J hP s1 w1 gv => ?_, ho.toX sr⟩
  refine tlc_of (Q := fun x H1 => gName i x σ H1 En.nx) (PL := fun p acc O2 => D.nx (Δ.set i (some (.ptr p))) ((p, .lst acc) :: O2)) lk hjs hP (sr.mono s1) w1 gv fun p acc O2 F2 H2 hp s2 w2 => ?_
  have s := s1.trans s2
  exact ho.nx _ _ _ _ _ hp s ((sr.mono s).set (Rep.ptr_iff.mpr rfl) i) w2
end

/-! ## calls -/
abbrev DSp := List D → Sto → KD → KX → Prop
def toSp (g : Gm) (S : DSp) : Sp := fun vs H Q E => ∃ F O ds P EX, Reps g F ds vs ∧ Wd g F O H ∧ S ds O P EX ∧ VOk g F P Q ∧ ∀ x O' cls dd F' H', EX x O' → Same F F' → Wd g F' O' H' → RelX g F' cls dd x → E cls dd H'
/-- the def at f keeps the promise S, by level k -/
def FN (g : Gm) (P : Program) (w : World) (K : PySem.W.Frag) (mg : Str → Option Value) (base : Heap) (k : Nat) (f : Addr) (S : DSp) : Prop := FnR P w K mg base (L2.CX P w) k f (toSp g S)
theorem FN.mono {g : Gm} {P : Program} {w : World} {K : PySem.W.Frag} {mg : Str → Option Value} {base : Heap} {j k : Nat} {f : Addr} {S : DSp} (h : FN g P w K mg base j f S) (hj : j ≤ k) : FN g P w K mg base k f S :=
  fun A outer s H us vs Q E hr => h A outer s H us vs Q E (hr.mono hj)
theorem FN.imp {g : Gm} {P : Program} {w : World} {K : PySem.W.Frag} {mg : Str → Option Value} {base : Heap} {k : Nat} {f : Addr} {S S' : DSp} (h : FN g P w K mg base k f S) (hS : ∀ ds O P E, S' ds O P E → S ds O P E) : FN g P w K mg base k f S' :=
  fun A outer s H us vs Q E hr e0 hv ⟨F, O, ds, P, EX, h1, h2, h3, h4⟩ => h A outer s H us vs Q E hr e0 hv ⟨F, O, ds, P, EX, h1, h2, hS _ _ _ _ h3, h4⟩
section
variable {g : Gm} {X : Cx} {W : WX} {pos pos' p apos : Pos} {a b c o : Expr} {es : List Expr} {Ta Tb : DE} {R : DA} {k : Nat} {f : Addr} {S : DSp} {x m : Str}
theorem run_FN {pins : List (Addr × Obj)} {σ : St} {H : Hp} {s : Shared} {Q : VK} {us : List Value} {vs : List V} (Fn : FN g X.prog X.w X.K X.mg X.base k f S) (hr : Room k X.A) (tk : Takes X W) (I : Inv X pins σ H s) (r : Vals vs us)
    (h : toSp g S vs H Q (fun cls dd H' => W cls dd σ H')) : codeAny (model X.prog X.w) X.A (.call (.ref f) ⟨us, []⟩) (fun r s' => match r with | .ok (.ret v) => EP X pins σ Q v s' | .ok _ => False | .error e => X.xe e s') s := by
  refine codeAny_mono (Fn X.A X.stack s H us vs Q _ hr I.env0 r h) fun r s' hq => ?_
  cases r with
  | error e => exact passAt tk σ pins H s e s' I hq
  | ok fl =>
    cases fl with
    | ret u => exact I.after hq
    | next => exact False.elim hq
    | brk => exact False.elim hq
    | cont => exact False.elim hq
def dCall (S : DSp) (R : DA) : DE := fun Δ O P E => R Δ O (fun ds O1 => S ds O1 P E) E
theorem sp_of {σ : St} {H1 : Hp} {Q : VK} {P : KD} {E : KX} {F F1 : Hp} {O1 : Sto} {ds : List D} {vs : List V} (h : S ds O1 P E) (rs : Reps g F1 ds vs) (w1 : Wd g F1 O1 H1) (hv : VOk g F P Q) (s1 : Same F F1) (hx : XOk g F1 W σ E) :
    toSp g S vs H1 Q (fun cls dd H' => W cls dd σ H') := ⟨F1, O1, ds, P, E, rs, w1, h, hv.mono s1, hx⟩
theorem q_call (Fn : FN g X.prog X.w X.K X.mg X.base k f S) (hr : Room k X.A) (tk : Takes X W) (hm : X.mg x = some (.ref f)) (hk : PySem.W.keepIn X.K (.ref f) = true) (ha : PA X (a :: es) (la g W R)) (hg : Gl X x := by rfl)
    (hdb : (x == ("__debug__" : Str)) = false := by decide) (he : starEach (a :: es) X.env = (false, eval a X.env) :: starEach es X.env := by rfl) (hpl : (backTo pos (starEach es X.env)).any (·.1) = false := by rfl) :
    PE X (.Call (.Name x p) (a :: es) [] pos) (le g W (dCall S R)) := by
  refine ⟨fun pins s σ H Q I h => ?_⟩
  obtain ⟨Δ, O, P, E, F, hT, sr, w, hv, hx⟩ := h
  refine wpAny_Call_Name_kw (ld_glob I hg hm ?_ hdb)
  refine PySem.W.callWith_K (h₀ := X.base) I.ok.mod.kin hk (thn (ha.run pos pins s σ H _ I (la_bind (Q := fun vs H1 => toSp g S vs H1 Q fun cls dd H' => W cls dd σ H') hT sr w hx fun ds O1 vs F1 H1 hT1 s1 sr1 w1 rs hx1 => sp_of hT1 rs w1 hv s1 hx1)) fun us s1 ⟨vs, H1, I1, r, q⟩ => ⟨I1.kIn, ?_⟩) he hpl
  exact wpAny_call (run_FN Fn hr tk I1 r q)
theorem q_call0 (Fn : FN g X.prog X.w X.K X.mg X.base k f S) (hr : Room k X.A) (tk : Takes X W) (hm : X.mg x = some (.ref f)) (hk : PySem.W.keepIn X.K (.ref f) = true) (hg : Gl X x := by rfl)
    (hdb : (x == ("__debug__" : Str)) = false := by decide) : PE X (.Call (.Name x p) [] [] pos) (le g W (dCall S dNil)) := by
  refine ⟨fun pins s σ H Q I h => ?_⟩
  obtain ⟨Δ, O, P, E, F, hT, sr, w, hv, hx⟩ := h
  refine wpAny_Call_Name_kw (ld_glob I hg hm ?_ hdb)
  exact PySem.W.callWith_K0 I.kIn hk (wpAny_call (run_FN Fn hr tk I .nil (sp_of hT Reps.nil w hv (Same.refl F) hx)))

/-! ### a new object -/
def dMake (cl : Cl) (S : DSp) (R : DA) : DE := fun Δ O P E => R Δ O (fun ds O1 => ∀ q, freshC O1 q → S (.ptr q :: ds) ((q, .ins cl [] []) :: O1)
  (fun r O2 => r = .non ∧ (match getC O2 q with | some (.ins c' fs ds') => P (.obj c' fs ds') (delC O2 q) | _ => False)) (fun x O2 => E x (delC O2 q))) E
/-- .. that will change -/
def dMakeO (cl : Cl) (S : DSp) (R : DA) : DE := fun Δ O P E => R Δ O (fun ds O1 => ∀ q, freshC O1 q → S (.ptr q :: ds) ((q, .ins cl [] []) :: O1)
  (fun r O2 => r = .non ∧ P (.ptr q) O2) (fun x O2 => E x (delC O2 q))) E
theorem wd_made {F : Hp} {O : Sto} {H : Hp} (w : Wd g F O H) {x dx : Addr} (hx : H x = none) (hd : H dx = none) (ne : dx ≠ x) (cl : Cl) :
    Same F (upd F dx (.own x)) ∧ Wd g (upd F dx (.own x)) ((x, .ins cl [] []) :: O) (upd (upd H dx (.own x)) x (.ins (g.ca cl) dx [])) :=
  ⟨w.fsame hd, (w.frozen (o := .own x) hd).own (c := .ins cl [] []) (o := .ins (g.ca cl) dx []) (by rw [upd_ne ne.symm]; exact hx) ⟨rfl, rfl, [], rfl, Reps.nil (g := g)⟩⟩
theorem run_mk {C : Addr} {pins : List (Addr × Obj)} {σ : St} {H : Hp} {s : Shared} {Q : VK} {us : List Value} {vs : List V} (M : Mk X.K C f) (Fn : FN g X.prog X.w X.K X.mg X.base k f S) (hr : Room (k + 1) X.A) (tk : Takes X W) (I : Inv X pins σ H s) (r : Vals vs us)
    (h : ∀ x dx, H x = Option.none → H dx = Option.none → dx ≠ x → toSp g S (V.ref x :: vs) (upd (upd H dx (.own x)) x (.ins C dx [])) (fun v H2 => v = .non ∧ Q (.ref x) H2) (fun cls dd H' => W cls dd σ H')) :
    wpAny (model X.prog X.w) X.A (call (.ref C) us) (EP X pins σ Q) X.xe s := by
  have hq := h (s.heap.objs.size + 1) s.heap.objs.size (I.hok.fresh (Nat.le_succ _)) (I.hok.fresh (Nat.le_refl _)) (Nat.ne_of_lt (Nat.lt_succ_self _))
  have I2 := Inv.made (C := C) I
  have r2 : Vals (V.ref (s.heap.objs.size + 1) :: vs) (Value.ref (s.heap.objs.size + 1) :: us) := .cons rfl r
  refine wpAny_call (make_map (f := f) I.kIn M.makes M.init (beq_iff_eq.mp M.fn) (codeAny_mono (Fn _ X.stack _ _ (Value.ref (s.heap.objs.size + 1) :: us) _ _ _ (hr.make C us []) (I2.env0.make C us []) r2 hq) fun r s' hq' => ?_))
  cases r with
  | error e => exact passAt tk σ pins _ _ e s' I2 hq'
  | ok fl =>
    cases fl with
    | ret u =>
      obtain ⟨v, H', I3, rv, ev, q3⟩ := I2.after hq'
      subst ev
      exact ⟨rv, ⟨V.ref (s.heap.objs.size + 1), H', I3, rfl, q3⟩⟩
    | next => exact False.elim hq'
    | brk => exact False.elim hq'
    | cont => exact False.elim hq'
theorem mk_sp {cl : Cl} {σ : St} {H1 : Hp} {Q : VK} {P : KD} {E : KX} {F F1 : Hp} {O1 : Sto} {ds : List D} {vs : List V}
    (h : ∀ q, freshC O1 q → S (.ptr q :: ds) ((q, .ins cl [] []) :: O1) (fun r O2 => r = .non ∧ (match getC O2 q with | some (.ins c' fs ds') => P (.obj c' fs ds') (delC O2 q) | _ => False)) (fun x O2 => E x (delC O2 q)))
    (rs : Reps g F1 ds vs) (w1 : Wd g F1 O1 H1) (hv : VOk g F P Q) (s1 : Same F F1) (hx : XOk g F1 W σ E) (x dx : Addr) (nx : H1 x = none) (nd : H1 dx = none) (ne : dx ≠ x) :
    toSp g S (V.ref x :: vs) (upd (upd H1 dx (.own x)) x (.ins (g.ca cl) dx [])) (fun v H2 => v = .non ∧ Q (.ref x) H2) (fun cls dd H' => W cls dd σ H') := by
  obtain ⟨s2, w2⟩ := wd_made w1 nx nd ne cl
  refine ⟨_, _, _, _, _, Reps.cons (Rep.ptr_iff.mpr rfl) (rs.mono s2), w2, h x (w1.fresh nx), fun d O3 v F3 H3 hd s3 w3 rd => ?_, fun y O3 cls dd F3 H3 hE s3 w3 rx => ?_⟩
  · obtain ⟨e, hd⟩ := hd
    subst e
    refine ⟨Rep.non_iff.mp rd, ?_⟩
    split at hd
    · rename_i c' fs ds' eg
      obtain ⟨ob, ho, hc, s4, w4⟩ := w3.freeze eg
      exact hv _ _ _ _ _ hd (s1.trans (s2.trans (s3.trans s4))) w4 (frz_rep rfl hc (w3.get eg).1)
    · exact hd.elim
  · exact hx _ _ _ _ _ _ hE (s2.trans s3) (w3.sub (delC_sub _ _)) rx
theorem q_make {cl : Cl} (M : Mk X.K (g.ca cl) f) (Fn : FN g X.prog X.w X.K X.mg X.base k f S) (hr : Room (k + 1) X.A) (tk : Takes X W) (hm : X.mg x = some (.ref (g.ca cl))) (ha : PA X (a :: es) (la g W R)) (hg : Gl X x := by rfl)
    (hdb : (x == ("__debug__" : Str)) = false := by decide) (he : starEach (a :: es) X.env = (false, eval a X.env) :: starEach es X.env := by rfl) (hpl : (backTo pos (starEach es X.env)).any (·.1) = false := by rfl) :
    PE X (.Call (.Name x p) (a :: es) [] pos) (le g W (dMake cl S R)) := by
  refine ⟨fun pins s σ H Q I h => ?_⟩
  obtain ⟨Δ, O, P, E, F, hT, sr, w, hv, hx⟩ := h
  refine wpAny_Call_Name_kw (ld_glob I hg hm ?_ hdb)
  refine PySem.W.callWith_K (h₀ := X.base) I.ok.mod.kin M.kp (thn (ha.run pos pins s σ H _ I (la_bind (Q := fun vs H1 => ∀ x dx, H1 x = none → H1 dx = none → dx ≠ x → toSp g S (V.ref x :: vs) (upd (upd H1 dx (.own x)) x (.ins (g.ca cl) dx [])) (fun v H2 => v = .non ∧ Q (.ref x) H2) fun cls dd H' => W cls dd σ H') hT sr w hx
    fun ds O1 vs F1 H1 hT1 s1 sr1 w1 rs hx1 x dx nx nd ne => mk_sp hT1 rs w1 hv s1 hx1 x dx nx nd ne)) fun us s1 ⟨vs, H1, I1, r, q⟩ => ⟨I1.kIn, ?_⟩) he hpl
  exact run_mk M Fn hr tk I1 r q

/-! ### a method, by the class of its object -/
def clsOf (O : Sto) (d : D) : Option Cl := (objOf O d).map (·.1)
/-- class and method: the def that serves it keeps S -/
structure MOk (g : Gm) (P : Program) (w : World) (K : PySem.W.Frag) (mg : Str → Option Value) (base : Heap) (k : Nat) (cl : Cl) (m : Str) (S : DSp) : Prop where
  cls : Cls K (g.ca cl)
  ex : ∃ f, Meth K (g.ca cl) m f ∧ FN g P w K mg base k f S
def tabAt : List (Cl × DSp) → Cl → Option DSp
  | [], _ => none
  | (c, S) :: r, d => if d = c then some S else tabAt r d
def MTab (g : Gm) (P : Program) (w : World) (K : PySem.W.Frag) (mg : Str → Option Value) (base : Heap) (k : Nat) (m : Str) (tab : List (Cl × DSp)) : Prop := ∀ c S, tabAt tab c = some S → MOk g P w K mg base k c m S
def dMeth (tab : List (Cl × DSp)) (To : DE) (R : DA) : DE := fun Δ O P E => To Δ O (fun o O1 => match clsOf O1 o with
  | some c => (match tabAt tab c with | some S => R Δ O1 (fun ds O2 => S (o :: ds) O2 P E) E | none => False)
  | none => False) E
theorem obj_look {F : Hp} {O : Sto} {H : Hp} {d : D} {v : V} {c : Cl} (h : clsOf O d = some c) (r : Rep g F d v) (w : Wd g F O H) (hm : Fd.of m = none) : ∃ q dx fs, v = .ref q ∧ H q = some (.ins (g.ca c) dx fs) ∧ fs.lookup m = none := by
  unfold clsOf at h
  cases e : objOf O d with
  | none => rw [e] at h; cases h
  | some t =>
    rw [e] at h
    cases h
    obtain ⟨q, dx, vs, rfl, h1, h2, h3⟩ := obj_of e r w
    refine ⟨q, dx, _, rfl, h1, getF_none fun f _ z => ?_⟩
    rw [z, Fd.of_str] at hm
    cases hm
theorem q_meth {pl : Sem Bool} {tab : List (Cl × DSp)} (M : MTab g X.prog X.w X.K X.mg X.base k m tab) (hr : Room k X.A) (tk : Takes X W) (ho : PE X o (le g W Ta)) (ha : PA X (a :: es) (la g W R)) (hmf : Fd.of m = none := by decide +kernel) (hK : X.K = g.K := by rfl)
    (hst : starEach (a :: es) X.env = (false, eval a X.env) :: starEach es X.env := by rfl) (hpl : (backTo pos (starEach es X.env)).any (·.1) = false := by rfl)
    (ht : eval (.Call (.Attribute o m apos) (a :: es) [] pos) X.env = (do
      let ov ← eval o X.env
      standAt apos.atName
      let (f, first) ← holding [ov] (getMethod ov m pl)
      callWith pos f first (backTo pos (starEach (a :: es) X.env)) (backToKw pos (keywordEach [] X.env))) := by rfl) :
    PE X (.Call (.Attribute o m apos) (a :: es) [] pos) (le g W (dMeth tab Ta R)) := by
  refine ⟨fun pins s σ H Q I h => ?_⟩
  obtain ⟨Δ, O, P, E, F, hT, sr, w, hv, hx⟩ := h
  refine PySem.W.methodCall_KW (pl := pl) (thn (ho.run pins s σ H _ I (le_bind (Q := fun v H1 => ∃ c q dx fs S, v = .ref q ∧ H1 q = some (.ins (g.ca c) dx fs) ∧ fs.lookup m = none ∧ tabAt tab c = some S ∧ la g W R σ H1 (fun vs H2 => toSp g S (v :: vs) H2 Q fun cls dd H' => W cls dd σ H')) hT sr w hx
    fun d O1 v F1 H1 hT1 s1 sr1 w1 rx hx1 => ?_)) fun u s1 ⟨v, H1, I1, rv, c, q, dx, fs, S, ev, eq1, l, eS, qa⟩ => ?_) ht
  · split at hT1
    · rename_i c e
      obtain ⟨q, dx, fs, rfl, h1, h2⟩ := obj_look e rx w1 hmf
      split at hT1
      · rename_i S eS
        refine ⟨c, q, dx, fs, S, rfl, h1, h2, eS, ?_⟩
        exact la_bind hT1 sr1 w1 hx1 fun ds O2 vs F2 H2 hT2 s2 sr2 w2 rs hx2 => sp_of hT2 (Reps.cons (rx.mono s2) rs) w2 hv (s1.trans s2) hx2
      · exact hT1.elim
    · exact hT1.elim
  · subst ev
    obtain rfl : u = Value.ref q := rv
    obtain ⟨cls, f, mt, Fn⟩ := M c S eS
    refine getmeth_ok I1 eq1 cls mt l ?_
    refine PySem.W.callWith_K (first := [.ref q]) (h₀ := X.base) I.ok.mod.kin mt.kp (thn (ha.run pos pins s1 σ H1 _ I1 qa) fun us s2 ⟨vs, H2, I2, r, q2⟩ => ⟨I2.kIn, ?_⟩) hst hpl
    exact wpAny_call (run_FN (us := .ref q :: us) (vs := .ref q :: vs) Fn hr tk I2 (.cons rfl r) q2)
end
end G

set_option Elab.async false
set_option linter.all false
set_option maxRecDepth 100000
set_option maxHeartbeats 4000000
namespace G
open PySem L2
/-! ## a def keeps its promise -/
def Weak (O O' : Sto) : Prop := ∀ g F H, Wd g F O H → Wd g F O' H
def Opn (O : Sto) (R : Sto → Prop) : Prop := ∀ g F H, Wd g F O H → ∃ O', Wd g F O' H ∧ R O'
theorem Weak.refl (O : Sto) : Weak O O := fun _ _ _ w => w
theorem Weak.sub {O O' : Sto} (h : O'.Sublist O) : Weak O O' := fun _ _ _ w => w.sub h
theorem Weak.trans {O O1 O2 : Sto} (h : Weak O O1) (h' : Weak O1 O2) : Weak O O2 := fun g F H w => h' g F H (h g F H w)
theorem Weak.cons {O : Sto} {c : Addr × Cell} : Weak (c :: O) O := Weak.sub (List.sublist_cons_self _ _)
theorem Weak.cons2 {O O' : Sto} {c : Addr × Cell} (h : Weak O O') : Weak (c :: O) O' := Weak.cons.trans h
theorem Opn.now {O : Sto} {R : Sto → Prop} (h : R O) : Opn O R := fun _ _ _ w => ⟨O, w, h⟩
def boxC (cs : List Int) (i a s : Int) : Cell := .lst [.lst (cs.map D.int), .int i, .int a, .int s]
theorem setC_same {O : Sto} {a : Addr} {c : Cell} (h : getC O a = some c) : setC O a c = O := by
  induction O with
  | nil => rfl
  | cons q r ih =>
    obtain ⟨b, c0⟩ := q
    simp only [getC] at h
    simp only [setC]
    by_cases e : a = b
    · subst e
      simp at h
      subst h
      simp
    · rw [if_neg e] at h ⊢
      rw [ih h]
theorem setC_setC (O : Sto) (a : Addr) (c c' : Cell) : setC (setC O a c) a c' = setC O a c' := by
  induction O with
  | nil => rfl
  | cons q r ih =>
    obtain ⟨b, c0⟩ := q
    simp only [setC]
    by_cases e : a = b
    · subst e
      simp [setC]
    · rw [if_neg e, if_neg e]
      simp [setC, e, ih]
theorem getC_setC {O : Sto} {a : Addr} {c c' : Cell} (h : getC O a = some c) : getC (setC O a c') a = some c' := by
  induction O with
  | nil => simp [getC] at h
  | cons q r ih =>
    obtain ⟨b, c0⟩ := q
    simp only [getC] at h
    simp only [setC]
    by_cases e : a = b
    · subst e
      simp [getC]
    · rw [if_neg e] at h ⊢
      simp only [getC]
      rw [if_neg e]
      exact ih h
theorem getC_setC_ne {O : Sto} {a b : Addr} {c' : Cell} (h : b ≠ a) : getC (setC O a c') b = getC O b := by
  induction O with
  | nil => rfl
  | cons q r ih =>
    obtain ⟨d, c0⟩ := q
    simp only [setC]
    by_cases e : a = d
    · subst e
      simp [getC, h]
    · rw [if_neg e]
      simp only [getC]
      by_cases e2 : b = d
      · rw [if_pos e2, if_pos e2]
      · rw [if_neg e2, if_neg e2]
        exact ih
theorem fresh_ne {O : Sto} {a p : Addr} {c : Cell} (h : getC O a = some c) (f : freshC O p) : a ≠ p := f _ (getC_mem h)
/-- the box opened: what is in it -/
theorem Opn.box {O : Sto} {b : Addr} {R : Sto → Prop} (h : getC O b = some .box) (k : ∀ cs i a s, cs.length ≤ 63 → 0 ≤ i → 0 ≤ a → R (setC O b (boxC cs i a s))) : Opn O R := fun g F H w => by
  obtain ⟨fa, o, ho, hc⟩ := w.get h
  cases o with
  | lst vs =>
    obtain ⟨cs, i, a, s, h1, h2, h3, h4⟩ := hc
    refine ⟨_, ?_, k cs i a s h2 h3 h4⟩
    have z := w.set h (c' := boxC cs i a s) (o := .lst vs) h1
    have e : upd H b (.lst vs) = H := by
      funext q
      by_cases z : q = b
      · rw [z, upd_same, ho]
      · rw [upd_ne z]
    rw [e] at z
    exact z
  | _ => exact hc.elim
/-- .. and shut again -/
theorem Weak.box {O : Sto} {b : Addr} {cs : List Int} {i a s : Int} (h : getC O b = some (boxC cs i a s)) (h2 : cs.length ≤ 63) (h3 : 0 ≤ i) (h4 : 0 ≤ a) : Weak O (setC O b .box) := fun g F H w => by
  obtain ⟨fa, o, ho, hc⟩ := w.get h
  cases o with
  | lst vs =>
    have z := w.set h (c' := .box) (o := .lst vs) ⟨cs, i, a, s, hc, h2, h3, h4⟩
    have e : upd H b (.lst vs) = H := by
      funext q
      by_cases z : q = b
      · rw [z, upd_same, ho]
      · rw [upd_ne z]
    rw [e] at z
    exact z
  | _ => exact hc.elim
/-- a fresh list becomes the box -/
theorem Weak.toBox {O : Sto} {b : Addr} {cs : List Int} {i a s : Int} (h2 : cs.length ≤ 63) (h3 : 0 ≤ i) (h4 : 0 ≤ a) : Weak ((b, boxC cs i a s) :: O) ((b, .box) :: O) := by
  have z := Weak.box (O := (b, boxC cs i a s) :: O) (b := b) (cs := cs) (i := i) (a := a) (s := s) (by simp [getC]) h2 h3 h4
  simpa [setC] using z

def endsD (P : KD) (E : KX) : DEnds where
  nx := fun _ O' => ∃ O1, Weak O' O1 ∧ P .non O1
  rt := fun d O' => ∃ O1, Weak O' O1 ∧ P d O1
  xc := fun x _ O' => ∃ O1, Weak O' O1 ∧ E x O1
def startD (N : List Str) (ds : List D) : Sl := ds.map some ++ List.replicate (N.length - ds.length) none
theorem srel_start {g : Gm} {F : Hp} {N : List Str} {ds : List D} {vs : List V} (h : Reps g F ds vs) : SRel g F (L2.start N vs) (startD N ds) := by
  have hl := h.length
  refine ⟨by simp [L2.start, startD, hl], fun i d q => ?_⟩
  unfold startD at q
  unfold L2.start
  by_cases hi : i < ds.length
  · rw [List.getElem?_append_left (by simpa using hi), List.getElem?_map] at q
    cases e : ds[i]? with
    | none => rw [e] at q; cases q
    | some d' =>
      rw [e] at q
      cases q
      obtain ⟨v, hv, rv⟩ := h.get e
      refine ⟨v, ?_, rv⟩
      rw [List.getElem?_append_left (by simpa [← hl] using hi), List.getElem?_map, hv]
      rfl
  · rw [List.getElem?_append_right (by simpa using hi)] at q
    have z := List.mem_of_getElem? q
    rw [List.mem_replicate] at z
    exact absurd z.2 (by simp)
section
variable {P : Program} {w : World} {K : PySem.W.Frag} {mg : Str → Option Value} {base : Heap}
abbrev wE (E : XK) : WX := fun cls dd _ H => E cls dd H
theorem fn_okF {g : Gm} {x qual : Str} {st : Stmt} {f : Addr} {fd : FuncData} {N ps : List Str} {k : Nat} {S : DSp} {T : DS} (Fn : Fun K x qual st f fd) (Sc : FnScope N ps (defScope st)) (len : ∀ ds O P E, S ds O P E → ds.length = ps.length)
    (body : ∀ (cdv : Value) (A : Around) (outer : List Env) (s : Shared) (H : Hp) (E : XK), Room k (A.deeper (PyProof.Rows.envOfC qual (defScope st) s.heap.objs.size f cdv)) →
      PSs (cxOf (L2.CX P w) P w K mg base N qual (defScope st) f cdv A outer s H E) (defBody st) (ls g (wE E) T))
    (pure : ∀ ds O P E, S ds O P E → Opn O fun O' => T (endsD P E) (startD N ds) O') : FnOk P w K mg base (L2.CX P w) (k + 1) f fd ps (toSp g S) := by
  refine Fn.okX Sc (fun vs H Q E h => ?_) fun cdv A outer s H vs Q E hr h => ⟨_, body cdv A outer s H E hr, ?_⟩
  · obtain ⟨F, O, ds, P', EX, h1, h2, h3, _⟩ := h
    rw [← h1.length]
    exact len _ _ _ _ h3
  · obtain ⟨F, O, ds, P', EX, h1, h2, h3, h4, h5⟩ := h
    obtain ⟨O', w', hT⟩ := pure ds O P' EX h3 g F H h2
    refine ⟨endsD P' EX, startD N ds, O', F, hT, srel_start h1, w', ⟨fun Δ O1 F1 σ H1 ⟨O2, wk, q⟩ s1 sr1 w1 => ?_, fun d O1 v F1 H1 ⟨O2, wk, q⟩ s1 w1 r1 => ?_, fun _ _ _ _ _ q => q.elim, fun _ _ _ _ _ q => q.elim, fun y Δ O1 cls dd F1 σ H1 ⟨O2, wk, q⟩ s1 sr1 w1 r1 => ?_⟩⟩
    · exact h4 _ _ _ _ _ q s1 (wk _ _ _ w1) (Rep.non_iff.mpr rfl)
    · exact h4 _ _ _ _ _ q s1 (wk _ _ _ w1) r1
    · exact h5 _ _ _ _ _ _ q s1 (wk _ _ _ w1) r1
theorem fn_FN {g : Gm} {f : Addr} {fd : FuncData} {ps : List Str} {k : Nat} {S : DSp} (F : FnOk P w K mg base (L2.CX P w) k f fd ps (toSp g S)) (hb : Binds K fd ps []) : FN g P w K mg base k f S :=
  fun A outer s H us vs Q E hr e0 hv h => F.run A outer s H ⟨us, []⟩ us vs Q E hr e0 (by
    have hl : us.length = ps.length := by rw [← hv.length]; exact F.len _ _ _ _ h
    have z := hb s us (e0.mod.kin.keeps fun b o e => (e0.bs b o e).1) (by rw [List.append_nil]; exact hl)
    rw [List.append_nil] at z
    exact z) hv h
end

/-! ## builtins -/
section
variable {g : Gm} {X : Cx} {W : WX} {pos pos' p : Pos} {a b c : Expr} {Ta Tb : DE}
def seqOf (O : Sto) : D → Option (List D)
  | .tup ds => some ds
  | d => lstOf O d
def lenD (O : Sto) : D → Option Nat
  | .str x => if x.length ≤ sizeLine then some x.length else none
  | .dic ks _ => some ks.length
  | .tup ds => some ds.length
  | .ptr q => match getC O q with
    | some (.lst ds) => some ds.length
    | some (.dic ks _) => some ks.length
    | _ => none
  | .lst ds => some ds.length
  | _ => none
def fLen : BC := fun ds O P => match ds with | [d] => (match lenD O d with | some n => P (.int (n : Int)) O | none => False) | _ => False
def rLenA (K : PySem.W.Frag) : List V → Hp → VK → Prop := fun xs H Q => (∃ p ys, xs = [.ref p] ∧ (SqL K H p ys ∨ SqT K H p ys) ∧ Q (.int ys.length) H) ∨ (∃ z, xs = [.str z] ∧ z.length ≤ sizeLine ∧ Q (.int z.length) H) ∨ ∃ d kvs, xs = [.ref d] ∧ H d = some (.dK kvs) ∧ Q (.int kvs.length) H
theorem call_lenA : CallR X (.builtin "len") (rLenA X.K) := CallR.or call_len_seq (CallR.or call_len_str call_lenD)
theorem zipK_len {F : Hp} {ks : List Key} {ds : List D} {vs : List V} (h : Reps g F ds vs) (hl : ks.length = ds.length) : (zipK ks vs).length = ks.length := by
  unfold zipK
  rw [List.length_zip, ← h.length]
  omega
theorem lk_len : LkC g (rLenA g.K) fLen := by
  intro ds O P F H vs Q hf rs w hv
  unfold fLen at hf
  split at hf
  · rename_i d
    obtain ⟨v, r, rfl, h1, h2⟩ := Reps.cons_iff.mp rs
    rw [Reps.nil_iff] at h2
    subst h2
    split at hf
    · rename_i n e
      cases d with
      | str x =>
        simp only [lenD] at e
        split at e
        · rename_i hl
          cases e
          rw [Rep.str_iff.mp h1]
          exact .inr (.inl ⟨x, rfl, hl, hv.now hf w rint⟩)
        · cases e
      | tup ds =>
        obtain ⟨q, vs, rfl, h3, h4⟩ := Rep.tup_sq h1
        cases e
        exact .inl ⟨q, vs, rfl, .inr (sqt_same w.same h3), by rw [← h4.length]; exact hv.now hf w rint⟩
      | lst ds =>
        obtain ⟨q, vs, rfl, h3, h4⟩ := Rep.lst_iff.mp h1
        cases e
        exact .inl ⟨q, vs, rfl, .inl (SqL.of (w.same _ _ h3)), by rw [← h4.length]; exact hv.now hf w rint⟩
      | dic ks ds =>
        obtain ⟨q, vs, rfl, h3, h5, h4⟩ := Rep.dic_iff.mp h1
        cases e
        exact .inr (.inr ⟨q, _, rfl, w.same _ _ h3, by rw [zipK_len h4 h5]; exact hv.now hf w rint⟩)
      | ptr q =>
        have ev := Rep.ptr_iff.mp h1
        subst ev
        simp only [lenD] at e
        split at e
        · rename_i ds eg
          cases e
          obtain ⟨_, ob, h3, h4⟩ := w.get eg
          cases ob with
          | lst vs =>
            have h4 : Reps g F ds vs := h4
            exact .inl ⟨q, vs, rfl, .inl (SqL.of h3), by rw [← h4.length]; exact hv.now hf w rint⟩
          | _ => exact h4.elim
        · rename_i ks ds eg
          cases e
          obtain ⟨_, ob, h3, h4⟩ := w.get eg
          cases ob with
          | dK kvs =>
            obtain ⟨h5, vs, rfl, h6⟩ := h4
            exact .inr (.inr ⟨q, _, rfl, h3, by rw [zipK_len h6 h5]; exact hv.now hf w rint⟩)
          | _ => exact h4.elim
        · cases e
      | _ => simp [lenD] at e
    · exact hf.elim
  · exact hf.elim
theorem q_len {x : Str} (hm : X.mg "len" = none) (h : PE X (.Call (.Name "len" p) [a] [] pos) (tCB (rLenA X.K) (la g W (dCons Ta dNil)))) (hK : X.K = g.K := by rfl) : PE X (.Call (.Name "len" p) [a] [] pos) (le g W (dCB fLen (dCons Ta dNil))) := by
  rw [hK] at h
  exact pe_imp h fun σ H Q h => tcb_of lk_len h
def fInt : BC := fun ds O P => match ds with | [.int i] => P (.int i) O | [.bl k] => P (.int (if k then 1 else 0)) O | _ => False
theorem lk_int : LkC g (fun xs H Q => (∃ i, xs = [.int i] ∧ Q (.int i) H) ∨ ∃ k, xs = [.bl k] ∧ Q (.int (if k then 1 else 0)) H) fInt := by
  intro ds O P F H vs Q hf rs w hv
  unfold fInt at hf
  split at hf
  · rename_i i
    obtain ⟨v, r, rfl, h1, h2⟩ := Reps.cons_iff.mp rs
    rw [Reps.nil_iff] at h2
    subst h2
    exact .inl ⟨i, by rw [Rep.int_iff.mp h1], hv.now hf w rint⟩
  · rename_i k
    obtain ⟨v, r, rfl, h1, h2⟩ := Reps.cons_iff.mp rs
    rw [Reps.nil_iff] at h2
    subst h2
    exact .inr ⟨k, by rw [Rep.bl_iff.mp h1], hv.now hf w rint⟩
  · exact hf.elim
def fNeg : D → Sto → KD → Prop := fun x O P => match x with | .int i => P (.int (-i)) O | _ => False
def dUn (f : D → Sto → KD → Prop) (T : DE) : DE := fun Δ O P E => T Δ O (fun x O1 => f x O1 P) E
theorem q_neg (ha : PE X a (le g W Ta)) : PE X (.UnaryOp .USub a pos) (le g W (dUn fNeg Ta)) := by
  refine pe_imp (pe_un un_neg ha) fun σ H Q h => ?_
  obtain ⟨Δ, O, P, E, F, hT, sr, w, hv, hx⟩ := h
  refine le_bind hT sr w hx fun d O1 v F1 H1 hT1 s1 sr1 w1 rx hx1 => ?_
  cases d with
  | int i => exact ⟨i, Rep.int_iff.mp rx, (hv.mono s1).now hT1 w1 rint⟩
  | _ => exact hT1.elim
/-- isinstance(x, T), T a built-in class -/
def tyD (O : Sto) : D → Option String
  | .non => some "NoneType"
  | .bl _ => some "bool"
  | .int _ => some "int"
  | .str _ => some "str"
  | .lst _ => some "list"
  | .ptr q => match getC O q with | some (.lst _) => some "list" | some (.dic _ _) => some "dict" | _ => none
  | .dic _ _ => some "dict"
  | _ => none
theorem ty_of {F : Hp} {O : Sto} {H : Hp} {d : D} {v : V} {n : String} (h : tyD O d = some n) (r : Rep g F d v) (w : Wd g F O H) : TyX g.K H v (.type n) := by
  cases d with
  | non => cases h; rw [Rep.non_iff.mp r]; exact .base .non
  | bl b => cases h; rw [Rep.bl_iff.mp r]; exact .base (.bl b)
  | int i => cases h; rw [Rep.int_iff.mp r]; exact .base (.int i)
  | str x => cases h; rw [Rep.str_iff.mp r]; exact .base (.str x)
  | lst ds =>
    cases h
    obtain ⟨q, vs, rfl, h3, h4⟩ := Rep.lst_iff.mp r
    exact .base (.lst (w.same _ _ h3))
  | dic ks ds =>
    cases h
    obtain ⟨q, vs, rfl, h3, h4⟩ := Rep.dic_iff.mp r
    exact .base (.dK (w.same _ _ h3))
  | ptr q =>
    rw [Rep.ptr_iff] at r
    subst r
    simp only [tyD] at h
    split at h
    · rename_i ds eg
      cases h
      obtain ⟨_, ob, h3, h4⟩ := w.get eg
      cases ob with
      | lst vs => exact .base (.lst h3)
      | _ => exact h4.elim
    · rename_i ks ds eg
      cases h
      obtain ⟨_, ob, h3, h4⟩ := w.get eg
      cases ob with
      | dK vs => exact .base (.dK h3)
      | _ => exact h4.elim
    · cases h
  | _ => simp [tyD] at h
def dIsT (n : String) (T : DE) : DE := fun Δ O P E => T Δ O (fun d O1 => match tyD O1 d with
  | some m => (match kitB m n with | some k => P (.bl k) O1 | none => False)
  | none => False) E
theorem q_isT {n : String} {x : Str} {q : Pos} (hm : X.mg "isinstance" = none) (hm' : X.mg x = none) (ha : PE X a (le g W Ta)) (hv : bootBuiltins x = some (.type n) := by decide +kernel) (hg : Gl X "isinstance" := by rfl) (hg' : Gl X x := by rfl)
    (hn : x ≠ "__name__" := by decide) (hd : (x == ("__debug__" : Str)) = false := by decide) (hK : X.K = g.K := by rfl)
    (hs : starEach (a :: [.Name x q]) X.env = (false, eval a X.env) :: starEach [.Name x q] X.env := by rfl) (hs' : starEach [.Name x q] X.env = (false, eval (.Name x q) X.env) :: starEach [] X.env := by rfl) (hpl : (backTo pos (starEach [.Name x q] X.env)).any (·.1) = false := by rfl) :
    PE X (.Call (.Name "isinstance" p) [a, .Name x q] [] pos) (le g W (dIsT n Ta)) := by
  have hb : PE X (.Name x q) (tC (.ty n)) := pe_bltn hg' hm' hv rfl hn hd
  refine pe_imp (pe_callB call_isi hg hm (by decide +kernel) (pa_cons ha (pa_cons hb pa_nil hs') hs) (by decide) (by decide) hs hpl) fun σ H Q h => ?_
  obtain ⟨Δ, O, P, E, F, hT, sr, w, hv, hx⟩ := h
  refine le_bind hT sr w hx fun d O1 v F1 H1 hT1 s1 sr1 w1 rx hx1 => ?_
  split at hT1
  · rename_i m e
    split at hT1
    · rename_i k ek
      refine ⟨v, .ty n, .type m, .type n, k, rfl, .ty n, by rw [hK]; exact ty_of e rx w1, kit_ty ek, (hv.mono s1).now hT1 w1 rbl⟩
    · exact hT1.elim
  · exact hT1.elim

/-! ### slices -/
def cutD (xs : List D) (lo hi : Option Int) : List D := (xs.drop (HT.sIx xs.length 0 lo)).take (HT.sIx xs.length xs.length hi - HT.sIx xs.length 0 lo)
abbrev DO := Sl → Sto → (Option Int → Sto → Prop) → KX → Prop
def dNoP : DO := fun _ O P _ => P none O
def dPart (T : DE) : DO := fun Δ O P E => T Δ O (fun d O1 => match d with | .int i => P (some i) O1 | _ => False) E
def lo' (g : Gm) (W : WX) (T : DO) : TO := fun σ H Q => ∃ Δ O P E F, T Δ O P E ∧ SRel g F σ Δ ∧ Wd g F O H ∧ (∀ i O' F' H', P i O' → Same F F' → Wd g F' O' H' → Q i H') ∧ XOk g F W σ E
theorem po_imp {X : Cx} {e : Option Expr} {t t' : TO} (h : PO X e t) (k : ∀ σ H Q, t' σ H Q → t σ H Q) : PO X e t' := ⟨fun pins s σ H Q I q => h.run pins s σ H Q I (k _ _ _ q)⟩
theorem qo_none : PO X none (lo' g W dNoP) := po_imp po_none fun σ H Q ⟨Δ, O, P, E, F, hT, sr, w, hv, hx⟩ => hv _ _ _ _ hT (Same.refl F) w
theorem qo_some (h : PE X a (le g W Ta)) : PO X (some a) (lo' g W (dPart Ta)) := by
  refine po_imp (po_some h) fun σ H Q h => ?_
  obtain ⟨Δ, O, P, E, F, hT, sr, w, hv, hx⟩ := h
  refine le_bind hT sr w hx fun d O1 v F1 H1 hT1 s1 sr1 w1 rx hx1 => ?_
  cases d with
  | int i => exact ⟨i, Rep.int_iff.mp rx, hv _ _ _ _ hT1 s1 w1⟩
  | _ => exact hT1.elim
def dSlice (T : DE) (L U : DO) : DE := fun Δ O P E => T Δ O (fun d O1 => L Δ O1 (fun l O2 => U Δ O2 (fun u O3 => match d with
  | .scr ns => P (.lst (cutD (ns.map D.int) l u)) O3
  | _ => match lstOf O3 d with | some ds => P (.lst (cutD ds l u)) O3 | none => False) E) E) E
theorem Reps.cut {F : Hp} {ds : List D} {vs : List V} (h : Reps g F ds vs) (lo hi : Option Int) : Reps g F (cutD ds lo hi) (cutV vs lo hi) := by
  unfold cutD cutV
  rw [h.length]
  exact (h.drop _).take _
theorem q_slice {lo hi : Option Expr} {L U : DO} {p2 : Pos} (ha : PE X a (le g W Ta)) (hl : PO X lo (lo' g W L)) (hu : PO X hi (lo' g W U)) (hK : X.K = g.K := by rfl) : PE X (.Subscript a (.Slice lo hi none p2) pos) (le g W (dSlice Ta L U)) := by
  refine pe_imp (pe_slice sl_list ha hl hu) fun σ H Q h => ?_
  obtain ⟨Δ, O, P, E, F, hT, sr, w, hv, hx⟩ := h
  refine le_bind hT sr w hx fun d O1 v F1 H1 hT1 s1 sr1 w1 rx hx1 => ⟨Δ, O1, _, E, F1, hT1, sr1, w1, fun l O2 F2 H2 hT2 s2 w2 => ⟨Δ, O2, _, E, F2, hT2, sr1.mono s2, w2, fun u O3 F3 H3 hT3 s3 w3 => ?_, hx1.mono s2⟩, hx1⟩
  have s13 : Same F F3 := s1.trans (s2.trans s3)
  have r3 := rx.mono (s2.trans s3)
  have key : (match lstOf O3 d with | some ds => P (.lst (cutD ds l u)) O3 | none => False) → rSlL X.K v l u H3 Q := by
    intro hf
    split at hf
    · rename_i ds e
      obtain ⟨q, vs, rfl, h1, h2⟩ := lst_of e r3 w3
      exact ⟨q, vs, rfl, SqL.of h1, fun t ht => hv _ _ _ _ _ hf (s13.trans (w3.fsame ht)) (w3.frozen ht) ((h2.cut l u).newL (w3.same.free ht))⟩
    · exact hf.elim
  cases d with
  | scr ns =>
    obtain ⟨q, rfl, h1⟩ := Rep.scr_iff.mp r3
    refine ⟨q, ns.map V.int, rfl, by rw [hK]; exact w3.same.seq h1, fun t ht => hv _ _ _ _ _ hT3 (s13.trans (w3.fsame ht)) (w3.frozen ht) ?_⟩
    exact ((Reps.ints (g := g) (F := F3)).mpr rfl |>.cut l u).newL (w3.same.free ht)
  | _ => exact key hT3
end
end G

set_option Elab.async false
set_option linter.all false
set_option maxRecDepth 100000
set_option maxHeartbeats 4000000
namespace G
open PySem L2
/-! ## == of plain data -/
mutual
def py : D → Option PyData
  | .non => some .none
  | .bl b => some (.bool b)
  | .int i => some (.int i)
  | .str x => some (.str x)
  | .lst ds => (pys ds).map .list
  | .tup ds => (pys ds).map .tuple
  | _ => none
def pys : List D → Option (List PyData)
  | [] => some []
  | d :: ds => match py d, pys ds with | some x, some xs => some (x :: xs) | _, _ => none
end
section
variable {g : Gm}
mutual
theorem py_dp {F : Hp} {O : Sto} {H : Hp} (w : Wd g F O H) : ∀ {d : D} {v : V} {x : PyData}, py d = some x → Rep g F d v → Dp g.K H v x
  | .non, v, x, h, r => by simp only [py] at h; cases h; rw [Rep.non_iff.mp r]; exact .non
  | .bl b, v, x, h, r => by simp only [py] at h; cases h; rw [Rep.bl_iff.mp r]; exact .bl b
  | .int b, v, x, h, r => by simp only [py] at h; cases h; rw [Rep.int_iff.mp r]; exact .int b
  | .str b, v, x, h, r => by simp only [py] at h; cases h; rw [Rep.str_iff.mp r]; exact .str b
  | .lst ds, v, x, h, r => by
    simp only [py] at h
    obtain ⟨p, vs, rfl, h1, h2⟩ := Rep.lst_iff.mp r
    cases e : pys ds with
    | none => rw [e] at h; cases h
    | some xs =>
      rw [e] at h
      cases h
      exact .lst (SqL.of (w.same _ _ h1)) (pys_dp w e h2)
  | .tup ds, v, x, h, r => by
    simp only [py] at h
    obtain ⟨p, vs, rfl, h1, h2⟩ := Rep.tup_sq r
    cases e : pys ds with
    | none => rw [e] at h; cases h
    | some xs =>
      rw [e] at h
      cases h
      exact .tup (sqt_same w.same h1) (pys_dp w e h2)
  | .obj _ _ _, v, x, h, r => by simp [py] at h
  | .dic _ _, v, x, h, r => by simp [py] at h
  | .ptr _, v, x, h, r => by simp [py] at h
  | .scr _, v, x, h, r => by simp [py] at h
  | .xcp _ _ _ _, v, x, h, r => by simp [py] at h
theorem pys_dp {F : Hp} {O : Sto} {H : Hp} (w : Wd g F O H) : ∀ {ds : List D} {vs : List V} {xs : List PyData}, pys ds = some xs → Reps g F ds vs → DpAll g.K H vs xs
  | [], vs, xs, h, r => by
    simp only [pys] at h
    cases h
    rw [Reps.nil_iff] at r
    subst r
    exact .nil
  | d :: ds, vs, xs, h, r => by
    obtain ⟨v, rr, rfl, h1, h2⟩ := Reps.cons_iff.mp r
    simp only [pys] at h
    cases e1 : py d with
    | none => rw [e1] at h; cases h
    | some x =>
      cases e2 : pys ds with
      | none => rw [e1, e2] at h; cases h
      | some xs' =>
        rw [e1, e2] at h
        cases h
        exact .cons (py_dp w e1 h1) (pys_dp w e2 h2)
end
end
/-- the answer of x == y -/
def eqB (x y : D) : Option Bool := match x, y with
  | .int i, .int j => some (decide (i = j))
  | .bl i, .bl j => some (decide (i = j))
  | .str i, .str j => some (decide (i = j))
  | _, _ => match py x, py y with
    | some a, some b => if SeqAt.shaped a = true ∧ SeqAt.shaped b = true then some (PyData.eqv a b) else none
    | _, _ => none
def fEq : B2 := fun x y O P => match eqB x y with | some k => P (.bl k) O | none => False
def fNe : B2 := fun x y O P => match eqB x y with | some k => P (.bl (!k)) O | none => False
def rEqA (K : PySem.W.Frag) : R2 := fun x y H Q => rEq x y H Q ∨ rEqD K x y H Q
def rNeA (K : PySem.W.Frag) : R2 := fun x y H Q => rNe x y H Q ∨ rNeD K x y H Q
section
variable {g : Gm} {X : Cx} {W : WX} {pos pos' p : Pos} {a b c : Expr} {Ta Tb : DE}
theorem op_eqA (hu : X.A.units + 64 < cLine) (hK : X.K = g.K := by rfl) : OpR X (compareOp .Eq) (rEqA g.K) := by
  rw [← hK]
  exact OpR.or op_eq (op_eqD hu)
theorem op_neA (hu : X.A.units + 64 < cLine) (hK : X.K = g.K := by rfl) : OpR X (compareOp .NotEq) (rNeA g.K) := by
  rw [← hK]
  exact OpR.or op_ne (op_neD hu)
theorem eqB_cases {x y : D} {k : Bool} (h : eqB x y = some k) : (∃ i j, x = .int i ∧ y = .int j ∧ k = decide (i = j)) ∨ (∃ i j, x = .bl i ∧ y = .bl j ∧ k = decide (i = j)) ∨ (∃ i j, x = .str i ∧ y = .str j ∧ k = decide (i = j)) ∨
    ∃ d e, py x = some d ∧ py y = some e ∧ SeqAt.shaped d = true ∧ SeqAt.shaped e = true ∧ k = PyData.eqv d e := by
  unfold eqB at h
  split at h
  · exact .inl ⟨_, _, rfl, rfl, (Option.some.inj h).symm⟩
  · exact .inr (.inl ⟨_, _, rfl, rfl, (Option.some.inj h).symm⟩)
  · exact .inr (.inr (.inl ⟨_, _, rfl, rfl, (Option.some.inj h).symm⟩))
  · split at h
    · rename_i d e h1 h2
      split at h
      · rename_i hs
        exact .inr (.inr (.inr ⟨d, e, h1, h2, hs.1, hs.2, (Option.some.inj h).symm⟩))
      · cases h
    · cases h
theorem lk_eq : Lk2 g (rEqA g.K) fEq := by
  intro x y O P F H vx vy Q hf rx ry w hv
  unfold fEq at hf
  split at hf
  · rename_i k e
    rcases eqB_cases e with ⟨i, j, rfl, rfl, rfl⟩ | ⟨i, j, rfl, rfl, rfl⟩ | ⟨i, j, rfl, rfl, rfl⟩ | ⟨d, e', h1, h2, h3, h4, rfl⟩
    · rw [Rep.int_iff.mp rx, Rep.int_iff.mp ry]
      refine .inl ⟨rfl, ?_⟩
      have z : decide (V.int i = V.int j) = decide (i = j) := by simp
      rw [z]
      exact hv.now hf w rbl
    · rw [Rep.bl_iff.mp rx, Rep.bl_iff.mp ry]
      refine .inl ⟨rfl, ?_⟩
      have z : decide (V.bl i = V.bl j) = decide (i = j) := by simp
      rw [z]
      exact hv.now hf w rbl
    · rw [Rep.str_iff.mp rx, Rep.str_iff.mp ry]
      refine .inl ⟨rfl, ?_⟩
      have z : decide (V.str i = V.str j) = decide (i = j) := by simp
      rw [z]
      exact hv.now hf w rbl
    · exact .inr ⟨d, e', py_dp w h1 rx, py_dp w h2 ry, h3, h4, hv.now hf w rbl⟩
  · exact hf.elim
theorem lk_ne : Lk2 g (rNeA g.K) fNe := by
  intro x y O P F H vx vy Q hf rx ry w hv
  unfold fNe at hf
  split at hf
  · rename_i k e
    rcases eqB_cases e with ⟨i, j, rfl, rfl, rfl⟩ | ⟨i, j, rfl, rfl, rfl⟩ | ⟨i, j, rfl, rfl, rfl⟩ | ⟨d, e', h1, h2, h3, h4, rfl⟩
    · rw [Rep.int_iff.mp rx, Rep.int_iff.mp ry]
      refine .inl ⟨rfl, ?_⟩
      have z : decide (V.int i = V.int j) = decide (i = j) := by simp
      rw [z]
      exact hv.now hf w rbl
    · rw [Rep.bl_iff.mp rx, Rep.bl_iff.mp ry]
      refine .inl ⟨rfl, ?_⟩
      have z : decide (V.bl i = V.bl j) = decide (i = j) := by simp
      rw [z]
      exact hv.now hf w rbl
    · rw [Rep.str_iff.mp rx, Rep.str_iff.mp ry]
      refine .inl ⟨rfl, ?_⟩
      have z : decide (V.str i = V.str j) = decide (i = j) := by simp
      rw [z]
      exact hv.now hf w rbl
    · exact .inr ⟨d, e', py_dp w h1 rx, py_dp w h2 ry, h3, h4, hv.now hf w rbl⟩
  · exact hf.elim
end

/-! ## what the top has written -/
/-- the names of builtins that the program's top leaves alone -/
structure Bt (mg : Str → Option Value) : Prop where
  len : mg "len" = none
  int : mg "int" = none
  bool : mg "bool" = none
  str : mg "str" = none
  isinstance : mg "isinstance" = none
  range : mg "range" = none
  max : mg "max" = none
  min : mg "min" = none
  abs : mg "abs" = none
  sorted : mg "sorted" = none
  sum : mg "sum" = none
  any : mg "any" = none
  all : mg "all" = none
  list : mg "list" = none
  dict : mg "dict" = none
  tuple : mg "tuple" = none
  enumerate : mg "enumerate" = none
  zip : mg "zip" = none
  repr : mg "repr" = none
  iter : mg "iter" = none
  super : mg "super" = none
section
variable (g : Gm) (P : Program) (w : World) (K : PySem.W.Frag) (mg : Str → Option Value) (base : Heap)
/-- the def of that name keeps S -/
def GD (k : Nat) (name : Str) (S : DSp) : Prop := ∃ f, mg name = some (.ref f) ∧ PySem.W.keepIn K (.ref f) = true ∧ FN g P w K mg base k f S
/-- the class of that name can be made, its __init__ keeps S -/
def GC (k : Nat) (cl : Cl) (name : Str) (S : DSp) : Prop := mg name = some (.ref (g.ca cl)) ∧ ∃ f, Mk K (g.ca cl) f ∧ FN g P w K mg base k f S
/-- where a def stands -/
def DefAt (name : Str) (st : Stmt) (ps : List Str) : Prop := ∃ f fd, mg name = some (.ref f) ∧ Fun K name name st f fd ∧ Binds K fd ps []
/-- where a method stands -/
def MetAt (cl : Cl) (name qual : Str) (st : Stmt) (ps : List Str) : Prop := ∃ f fd, Meth K (g.ca cl) name f ∧ Fun K name qual st f fd ∧ Binds K fd ps []
/-- where an __init__ stands -/
def InitAt (cl : Cl) (name qual : Str) (st : Stmt) (ps : List Str) : Prop := mg name = some (.ref (g.ca cl)) ∧ ∃ f fd, Mk K (g.ca cl) f ∧ Fun K "__init__" qual st f fd ∧ Binds K fd ps []
end
section
variable {g : Gm} {P : Program} {w : World} {K : PySem.W.Frag} {mg : Str → Option Value} {base : Heap}
/-- what a def's body needs: its walk, for every place it stands at -/
def BodyOk (g : Gm) (P : Program) (w : World) (K : PySem.W.Frag) (mg : Str → Option Value) (base : Heap) (k : Nat) (N : List Str) (qual : Str) (st : Stmt) (T : DS) : Prop :=
  ∀ (f : Addr) (cdv : Value) (A : Around) (outer : List Env) (s : Shared) (H : Hp) (E : XK), Room k (A.deeper (PyProof.Rows.envOfC qual (defScope st) s.heap.objs.size f cdv)) →
      PSs (cxOf (L2.CX P w) P w K mg base N qual (defScope st) f cdv A outer s H E) (defBody st) (ls g (wE E) T)
/-- the promise follows from the body's reading -/
def Pure (N : List Str) (n : Nat) (S : DSp) (T : DS) : Prop := ∀ ds O P E, S ds O P E → ds.length = n ∧ Opn O fun O' => T (endsD P E) (startD N ds) O'
theorem gd_of {name : Str} {st : Stmt} {N ps : List Str} {k : Nat} {S : DSp} {T : DS} (L : DefAt K mg name st ps) (Sc : FnScope N ps (defScope st)) (body : BodyOk g P w K mg base k N name st T) (pure : Pure N ps.length S T) : GD g P w K mg base (k + 1) name S := by
  obtain ⟨f, fd, hm, Fn, hb⟩ := L
  exact ⟨f, hm, Fn.kp, fn_FN (fn_okF Fn Sc (fun ds O P E h => (pure ds O P E h).1) (body f) fun ds O P E h => (pure ds O P E h).2) hb⟩
theorem gc_of {cl : Cl} {name qual : Str} {st : Stmt} {N ps : List Str} {k : Nat} {S : DSp} {T : DS} (L : InitAt g K mg cl name qual st ps) (Sc : FnScope N ps (defScope st)) (body : BodyOk g P w K mg base k N qual st T) (pure : Pure N ps.length S T) : GC g P w K mg base (k + 1) cl name S := by
  obtain ⟨hm, f, fd, mk, Fn, hb⟩ := L
  exact ⟨hm, f, mk, fn_FN (fn_okF Fn Sc (fun ds O P E h => (pure ds O P E h).1) (body f) fun ds O P E h => (pure ds O P E h).2) hb⟩
theorem mo_of {cl : Cl} {name qual : Str} {st : Stmt} {N ps : List Str} {k : Nat} {S : DSp} {T : DS} (cls : Cls K (g.ca cl)) (L : MetAt g K cl name qual st ps) (Sc : FnScope N ps (defScope st)) (body : BodyOk g P w K mg base k N qual st T) (pure : Pure N ps.length S T) : MOk g P w K mg base (k + 1) cl name S := by
  obtain ⟨f, fd, mt, Fn, hb⟩ := L
  exact ⟨cls, f, mt, fn_FN (fn_okF Fn Sc (fun ds O P E h => (pure ds O P E h).1) (body f) fun ds O P E h => (pure ds O P E h).2) hb⟩
theorem GD.mono {j k : Nat} {name : Str} {S : DSp} (h : GD g P w K mg base j name S) (hj : j ≤ k) : GD g P w K mg base k name S := by
  obtain ⟨f, h1, h2, h3⟩ := h
  exact ⟨f, h1, h2, h3.mono hj⟩
theorem MOk.mono {j k : Nat} {cl : Cl} {name : Str} {S : DSp} (h : MOk g P w K mg base j cl name S) (hj : j ≤ k) : MOk g P w K mg base k cl name S := by
  obtain ⟨h1, f, h2, h3⟩ := h
  exact ⟨h1, f, h2, h3.mono hj⟩
theorem mt_nil {k : Nat} {m : Str} : MTab g P w K mg base k m [] := fun c S h => by simp [tabAt] at h
theorem mt_cons {k : Nat} {m : Str} {cl : Cl} {S : DSp} {r : List (Cl × DSp)} (h : MOk g P w K mg base k cl m S) (t : MTab g P w K mg base k m r) : MTab g P w K mg base k m ((cl, S) :: r) := fun c S' e => by
  simp only [tabAt] at e
  by_cases q : c = cl
  · rw [if_pos q] at e
    cases e
    rw [q]
    exact h
  · rw [if_neg q] at e
    exact t c S' e
end
section
variable {g : Gm} {X : Cx} {W : WX} {pos pos' p : Pos} {a b c : Expr} {es : List Expr} {R : DA} {k j : Nat} {x : Str} {S : DSp} {cl : Cl}
theorem q_gcall (h : GD g X.prog X.w X.K X.mg X.base k x S) (hr : Room j X.A) (tk : Takes X W) (ha : PA X (a :: es) (la g W R)) (hkj : k ≤ j := by decide) (hg : Gl X x := by rfl)
    (hdb : (x == ("__debug__" : Str)) = false := by decide) (he : starEach (a :: es) X.env = (false, eval a X.env) :: starEach es X.env := by rfl) (hpl : (backTo pos (starEach es X.env)).any (·.1) = false := by rfl) :
    PE X (.Call (.Name x p) (a :: es) [] pos) (le g W (dCall S R)) := by
  obtain ⟨f, hm, hk, Fn⟩ := h
  exact q_call Fn (hr.mono hkj) tk hm hk ha hg hdb he hpl
theorem q_gcall0 (h : GD g X.prog X.w X.K X.mg X.base k x S) (hr : Room j X.A) (tk : Takes X W) (hkj : k ≤ j := by decide) (hg : Gl X x := by rfl) (hdb : (x == ("__debug__" : Str)) = false := by decide) : PE X (.Call (.Name x p) [] [] pos) (le g W (dCall S dNil)) := by
  obtain ⟨f, hm, hk, Fn⟩ := h
  exact q_call0 Fn (hr.mono hkj) tk hm hk hg hdb
theorem q_gmake (h : GC g X.prog X.w X.K X.mg X.base k cl x S) (hr : Room j X.A) (tk : Takes X W) (ha : PA X (a :: es) (la g W R)) (hkj : k + 1 ≤ j := by decide) (hg : Gl X x := by rfl)
    (hdb : (x == ("__debug__" : Str)) = false := by decide) (he : starEach (a :: es) X.env = (false, eval a X.env) :: starEach es X.env := by rfl) (hpl : (backTo pos (starEach es X.env)).any (·.1) = false := by rfl) :
    PE X (.Call (.Name x p) (a :: es) [] pos) (le g W (dMake cl S R)) := by
  obtain ⟨hm, f, mk, Fn⟩ := h
  exact q_make mk Fn (hr.mono hkj) tk hm ha hg hdb he hpl
theorem set_self {α : Type} {l : List α} {i : Nat} {x : α} (h : l[i]? = some x) : l.set i x = l := by
  apply List.ext_getElem?
  intro j
  rw [List.getElem?_set]
  by_cases z : i = j
  · subst z
    rw [if_pos rfl, h, if_pos (List.getElem?_eq_some_iff.mp h).1]
  · rw [if_neg z]
/-- a statement's list is frozen ahead of it -/
def dFrzS (i : Nat) (T : DS) : DS := fun D Δ O => match Δ[i]? with
  | some (some (.ptr q)) => (match getC O q with | some c => (match frzD c with | some d => T D (Δ.set i (some d)) (delC O q) | none => False) | none => False)
  | _ => False
theorem qss_frz (i : Nat) {sts : List Stmt} {T : DS} (h : PSs X sts (ls g W T)) : PSs X sts (ls g W (dFrzS i T)) := by
  refine pss_imp h fun E σ H ⟨D, Δ, O, F, hT, sr, w, ho⟩ => ?_
  unfold dFrzS at hT
  split at hT
  · rename_i q e
    split at hT
    · rename_i c ec
      split at hT
      · rename_i d ed
        obtain ⟨o, h1, hc, s2, w2⟩ := w.freeze ec
        obtain ⟨v, hv, rv⟩ := sr.2 i _ e
        have ev := Rep.ptr_iff.mp rv
        subst ev
        refine ⟨D, _, _, _, hT, ?_, w2, ho.mono s2⟩
        have z := (sr.mono s2).set (frz_rep ed hc (w.get ec).1) i
        rw [set_self hv] at z
        exact z
      · exact hT.elim
    · exact hT.elim
  · exact hT.elim
end
end G

set_option Elab.async false
set_option linter.all false
set_option maxRecDepth 100000
set_option maxHeartbeats 4000000
namespace G
open PySem L2
/-! ## reading by rewriting -/
section
variable {Δ : Sl} {O : Sto} {P : KD} {E : KX} {En : DEnds} {Ta Tb Tc : DE} {T U : DS} {R : DA} {t u : DT} {i j : Nat} {d x y : D} {PB : Bool → Sto → Prop} {PA : List D → Sto → Prop}
/-- the value in a slot -/
def sl (Δ : Sl) (i : Nat) : Option D := match Δ[i]? with | some o => o | none => none
theorem e_var : dVar i Δ O P E = (match sl Δ i with | some d => P d O | none => False) := by
  unfold dVar sl
  cases Δ[i]? with
  | none => rfl
  | some o => cases o <;> rfl
theorem sl_zero {o : Option D} {r : Sl} : sl (o :: r) 0 = o := rfl
theorem sl_succ {o : Option D} {r : Sl} {n : Nat} : sl (o :: r) (n + 1) = sl r n := rfl
theorem m_some {A : Prop} {f : D → Prop} : (match (some d : Option D) with | some d => f d | none => A) = f d := rfl
theorem e_v0 {r : Sl} : dVar 0 (some d :: r) O P E = P d O := rfl
theorem e_vS {o : Option D} {r : Sl} : dVar (i + 1) (o :: r) O P E = dVar i r O P E := by
  unfold dVar
  rw [List.getElem?_cons_succ]
theorem e_seq : dSeq T U En Δ O = T { En with nx := U En } Δ O := rfl
theorem e_asg : dAsg i Ta En Δ O = Ta Δ O (fun d O1 => En.nx (Δ.set i (some d)) O1) (fun x O1 => En.xc x Δ O1) := rfl
theorem e_exp : dExp Ta En Δ O = Ta Δ O (fun _ O1 => En.nx Δ O1) (fun x O1 => En.xc x Δ O1) := rfl
theorem e_ret : dRet Ta En Δ O = Ta Δ O En.rt (fun x O1 => En.xc x Δ O1) := rfl
theorem e_retN : dRetN En Δ O = En.rt .non O := rfl
theorem e_ifS : dIfS t T U En Δ O = t Δ O (fun k O1 => if k = true then T En Δ O1 else U En Δ O1) (fun x O1 => En.xc x Δ O1) := rfl
theorem e_next : dNext En Δ O = En.nx Δ O := rfl
theorem e_nev : dNev En Δ O = False := rfl
theorem e_c : dC d Δ O P E = P d O := rfl
theorem e_op {f : B2} : dOp f Ta Tb Δ O P E = Ta Δ O (fun x O1 => Tb Δ O1 (fun y O2 => f x y O2 P) E) E := rfl
theorem e_un {f : D → Sto → KD → Prop} : dUn f Ta Δ O P E = Ta Δ O (fun x O1 => f x O1 P) E := rfl
theorem e_te : dTe Ta Δ O PB E = Ta Δ O (fun d O1 => match d with | .bl k => PB k O1 | _ => False) E := rfl
theorem e_tru : dTru Ta Δ O PB E = Ta Δ O (fun d O1 => match truD O1 d with | some k => PB k O1 | none => False) E := rfl
theorem e_and : dAnd t u Δ O PB E = t Δ O (fun k O1 => if k = true then u Δ O1 PB E else PB false O1) E := rfl
theorem e_or : dOr t u Δ O PB E = t Δ O (fun k O1 => if k = true then PB true O1 else u Δ O1 PB E) E := rfl
theorem e_not : dNot t Δ O PB E = t Δ O (fun k O1 => PB (!k) O1) E := rfl
theorem e_andV : dAndV Ta Tb Δ O P E = Ta Δ O (fun d O1 => match d with | .bl k => (if k = true then Tb Δ O1 P E else P (.bl false) O1) | _ => False) E := rfl
theorem e_orV : dOrV Ta Tb Δ O P E = Ta Δ O (fun d O1 => match d with | .bl k => (if k = true then P (.bl true) O1 else Tb Δ O1 P E) | _ => False) E := rfl
theorem e_notV : dNotV Ta Δ O P E = Ta Δ O (fun d O1 => match d with | .bl k => P (.bl (!k)) O1 | _ => False) E := rfl
theorem e_if : dIf t Ta Tb Δ O P E = t Δ O (fun k O1 => if k = true then Ta Δ O1 P E else Tb Δ O1 P E) E := rfl
theorem e_chain {f f' : B2} : dChain f f' Ta Tb Tc Δ O P E = Ta Δ O (fun x O1 => Tb Δ O1 (fun y O2 => f x y O2 (fun z O3 => match z with | .bl k => (if k = true then Tc Δ O3 (fun t O4 => f' y t O4 P) E else P (.bl false) O3) | _ => False)) E) E := rfl
theorem e_nil : dNil Δ O PA E = PA [] O := rfl
theorem e_cons : dCons Ta R Δ O PA E = Ta Δ O (fun d O1 => R Δ O1 (fun ds O2 => PA (d :: ds) O2) E) E := rfl
theorem e_tup : dTup R Δ O P E = R Δ O (fun ds O1 => ds.length ≤ sizeLine ∧ P (.tup ds) O1) E := rfl
theorem e_lst : dLst R Δ O P E = R Δ O (fun ds O1 => ds.length ≤ sizeLine ∧ P (.lst ds) O1) E := rfl
theorem e_lstO : dLstO R Δ O P E = R Δ O (fun ds O1 => ds.length ≤ sizeLine ∧ ∀ p, freshC O1 p → P (.ptr p) ((p, .lst ds) :: O1)) E := rfl
theorem e_cb {f : BC} : dCB f R Δ O P E = R Δ O (fun ds O1 => f ds O1 P) E := rfl
theorem e_call {S : DSp} : dCall S R Δ O P E = R Δ O (fun ds O1 => S ds O1 P E) E := rfl
theorem e_fld {cs : List Cl} {f : Fd} : dFld cs f Ta Δ O P E = Ta Δ O (fun d O1 => match objOf O1 d with
  | some t => t.1 ∈ cs ∧ (match getF f t.2.1 t.2.2 with | some e => P e O1 | none => False)
  | none => False) E := rfl
theorem e_frz : dFrz Ta Δ O P E = Ta Δ O (fun d O1 => match d with
  | .ptr a => (match getC O1 a with | some c => (match frzD c with | some d' => P d' (delC O1 a) | none => False) | none => False)
  | _ => False) E := rfl
theorem e_app : dApp Ta Tb Δ O P E = Ta Δ O (fun o O1 => match o with
  | .ptr p => (match getC O1 p with
    | some (.lst _) => Tb Δ O1 (fun d O2 => match getC O2 p with
      | some (.lst ds) => ds.length < sizeLine ∧ P .non (setC O2 p (.lst (ds ++ [d])))
      | _ => False) E
    | _ => False)
  | _ => False) E := rfl
theorem e_setIx : dSetIx Ta Tb Tc En Δ O = Tc Δ O (fun d O1 => Ta Δ O1 (fun o O2 => Tb Δ O2 (fun i O3 => match o, i with
  | .ptr p, .int k => (match getC O3 p with
    | some (.lst ds) => (match setI ds k d with | some es => En.nx Δ (setC O3 p (.lst es)) | none => False)
    | _ => False)
  | _, _ => False) (fun x O1 => En.xc x Δ O1)) (fun x O1 => En.xc x Δ O1)) (fun x O1 => En.xc x Δ O1) := rfl
theorem set_0 {a d : D} {r : List D} : setI (a :: r) 0 d = some (d :: r) := by
  have h : ixN (a :: r).length 0 = some 0 := by unfold ixN; rw [if_pos (by omega), if_pos (by simp only [List.length_cons]; omega)]; rfl
  unfold setI
  rw [h]
  rfl
theorem set_1 {a b d : D} {r : List D} : setI (a :: b :: r) 1 d = some (a :: d :: r) := by
  have h : ixN (a :: b :: r).length 1 = some 1 := by unfold ixN; rw [if_pos (by omega), if_pos (by simp only [List.length_cons]; omega)]; rfl
  unfold setI
  rw [h]
  rfl
theorem set_2 {a b c d : D} {r : List D} : setI (a :: b :: c :: r) 2 d = some (a :: b :: d :: r) := by
  have h : ixN (a :: b :: c :: r).length 2 = some 2 := by unfold ixN; rw [if_pos (by omega), if_pos (by simp only [List.length_cons]; omega)]; rfl
  unfold setI
  rw [h]
  rfl
theorem set_3 {a b c e d : D} {r : List D} : setI (a :: b :: c :: e :: r) 3 d = some (a :: b :: c :: d :: r) := by
  have h : ixN (a :: b :: c :: e :: r).length 3 = some 3 := by unfold ixN; rw [if_pos (by omega), if_pos (by simp only [List.length_cons]; omega)]; rfl
  unfold setI
  rw [h]
  rfl
theorem e_setF {cs : List Cl} {f : Fd} : dSetF cs f Ta Tb En Δ O = Tb Δ O (fun d O1 => Ta Δ O1 (fun o O2 => match o with
  | .ptr p => (match getC O2 p with
    | some (.ins c fs ds) => c ∈ cs ∧ fs.length < 900 ∧ En.nx Δ (setC O2 p (.ins c (putFs f fs) (putDs f d fs ds)))
    | _ => False)
  | _ => False) (fun x O1 => En.xc x Δ O1)) (fun x O1 => En.xc x Δ O1) := rfl
theorem e_isT {n : String} : dIsT n Ta Δ O P E = Ta Δ O (fun d O1 => match tyD O1 d with
  | some m => (match kitB m n with | some k => P (.bl k) O1 | none => False)
  | none => False) E := rfl
theorem e_make {cl : Cl} {S : DSp} : dMake cl S R Δ O P E = R Δ O (fun ds O1 => ∀ q, freshC O1 q → S (.ptr q :: ds) ((q, .ins cl [] []) :: O1)
  (fun r O2 => r = .non ∧ (match getC O2 q with | some (.ins c' fs ds') => P (.obj c' fs ds') (delC O2 q) | _ => False)) (fun x O2 => E x (delC O2 q))) E := rfl
/-! ### operations on made data -/
theorem f_ixT {ds : List D} {i : Int} : fIx (.tup ds) (.int i) O P = (match atI ds i with | some d => P d O | none => False) := rfl
theorem f_ixL {ds : List D} {i : Int} : fIx (.lst ds) (.int i) O P = (match atI ds i with | some d => P d O | none => False) := rfl
theorem f_ixP {a : Addr} {i : Int} : fIx (.ptr a) (.int i) O P = (match lstOf O (.ptr a) with | some ds => (match atI ds i with | some d => P d O | none => False) | none => False) := rfl
theorem f_add {i j : Int} : fAdd (.int i) (.int j) O P = P (.int (i + j)) O := rfl
theorem f_sub {i j : Int} : fSub (.int i) (.int j) O P = P (.int (i - j)) O := rfl
theorem f_mul {i j : Int} : fMul (.int i) (.int j) O P = (CMul i j ∧ P (.int (i * j)) O) := rfl
theorem f_mod {i j : Int} : fMod (.int i) (.int j) O P = (0 < j ∧ P (.int (i % j)) O) := rfl
theorem f_div {i j : Int} : fDiv (.int i) (.int j) O P = (CDiv i j ∧ P (.int (i / j)) O) := rfl
theorem f_pow {i j : Int} : fPow (.int i) (.int j) O P = (CPow i j ∧ P (.int (i ^ j.toNat)) O) := rfl
theorem f_lt {i j : Int} : fLt (.int i) (.int j) O P = P (.bl (decide (i < j))) O := rfl
theorem f_le {i j : Int} : fLe (.int i) (.int j) O P = P (.bl (decide (i ≤ j))) O := rfl
theorem f_gt {i j : Int} : fGt (.int i) (.int j) O P = P (.bl (decide (j < i))) O := rfl
theorem f_ge {i j : Int} : fGe (.int i) (.int j) O P = P (.bl (decide (j ≤ i))) O := rfl
theorem f_eq {i j : Int} : fEq (.int i) (.int j) O P = P (.bl (decide (i = j))) O := rfl
theorem f_ne {i j : Int} : fNe (.int i) (.int j) O P = P (.bl (!decide (i = j))) O := rfl
theorem f_int {i : Int} : fInt [.int i] O P = P (.int i) O := rfl
theorem f_neg {i : Int} : fNeg (.int i) O P = P (.int (-i)) O := rfl
theorem f_lenL {ds : List D} : fLen [.lst ds] O P = P (.int (ds.length : Int)) O := rfl
theorem f_lenT {ds : List D} : fLen [.tup ds] O P = P (.int (ds.length : Int)) O := rfl
theorem f_lenP {a : Addr} : fLen [.ptr a] O P = (match lenD O (.ptr a) with | some n => P (.int (n : Int)) O | none => False) := rfl
theorem l_ptr {a : Addr} {ds : List D} (h : getC O a = some (.lst ds)) : lstOf O (.ptr a) = some ds := by simp only [lstOf, h]
theorem n_ptr {a : Addr} {ds : List D} (h : getC O a = some (.lst ds)) : lenD O (.ptr a) = some ds.length := by simp only [lenD, h]
theorem getC_self {a : Addr} {c : Cell} : getC ((a, c) :: O) a = some c := by simp [getC]
theorem getC_other {a b : Addr} {c : Cell} (h : a ≠ b) : getC ((b, c) :: O) a = getC O a := by simp [getC, h]
theorem setC_self {a : Addr} {c c' : Cell} : setC ((a, c) :: O) a c' = (a, c') :: O := by simp [setC]
theorem delC_self {a : Addr} {c : Cell} : delC ((a, c) :: O) a = O := by simp [delC]
theorem setC_other {a b : Addr} {c c' : Cell} (h : a ≠ b) : setC ((b, c) :: O) a c' = (b, c) :: setC O a c' := by simp [setC, h]
theorem delC_other {a b : Addr} {c : Cell} (h : a ≠ b) : delC ((b, c) :: O) a = (b, c) :: delC O a := by simp [delC, h]
theorem at_0 {a : D} {r : List D} : atI (a :: r) 0 = some a := atI_nat (j := 0) rfl
theorem at_1 {a b : D} {r : List D} : atI (a :: b :: r) 1 = some b := atI_nat (j := 1) rfl
theorem at_2 {a b c : D} {r : List D} : atI (a :: b :: c :: r) 2 = some c := atI_nat (j := 2) rfl
theorem at_3 {a b c e : D} {r : List D} : atI (a :: b :: c :: e :: r) 3 = some e := atI_nat (j := 3) rfl
theorem f_ixT0 {a : D} {r : List D} : fIx (.tup (a :: r)) (.int 0) O P = P a O := by rw [f_ixT, at_0]
theorem f_ixT1 {a b : D} {r : List D} : fIx (.tup (a :: b :: r)) (.int 1) O P = P b O := by rw [f_ixT, at_1]
theorem f_ixT2 {a b c : D} {r : List D} : fIx (.tup (a :: b :: c :: r)) (.int 2) O P = P c O := by rw [f_ixT, at_2]
theorem f_ixL0 {a : D} {r : List D} : fIx (.lst (a :: r)) (.int 0) O P = P a O := by rw [f_ixL, at_0]
theorem f_ixL1 {a b : D} {r : List D} : fIx (.lst (a :: b :: r)) (.int 1) O P = P b O := by rw [f_ixL, at_1]
theorem f_ixL2 {a b c : D} {r : List D} : fIx (.lst (a :: b :: c :: r)) (.int 2) O P = P c O := by rw [f_ixL, at_2]
theorem f_ixL3 {a b c e : D} {r : List D} : fIx (.lst (a :: b :: c :: e :: r)) (.int 3) O P = P e O := by rw [f_ixL, at_3]
theorem at_m1 {l : List D} {a : D} : atI (l ++ [a]) (-1) = some a := atI_last l a
theorem ix_lit {n : Nat} {k : Nat} (h : k < n) : ixN n (k : Int) = some k := by
  unfold ixN
  rw [if_pos (by omega), if_pos (by omega)]
  simp
theorem ix_4_1 : ixN 4 1 = some 1 := rfl
theorem ix_4_2 : ixN 4 2 = some 2 := rfl
theorem ix_4_3 : ixN 4 3 = some 3 := rfl
end
end G

set_option Elab.async false
set_option linter.all false
set_option maxRecDepth 100000
set_option maxHeartbeats 4000000
namespace G
open PySem L2
/-! ## loops over plain data -/
inductive All2 {α β : Type} (R : α → β → Prop) : List α → List β → Prop
  | nil : All2 R [] []
  | cons {a : α} {b : β} {as : List α} {bs : List β} : R a b → All2 R as bs → All2 R (a :: as) (b :: bs)
theorem All2.length {α β : Type} {R : α → β → Prop} {as : List α} {bs : List β} (h : All2 R as bs) : as.length = bs.length := by
  induction h with
  | nil => rfl
  | cons _ _ ih => simp [ih]
section
variable {Δ : Sl} {O : Sto} {P : KD} {E : KX} {En : DEnds} {Ta Tb Tc : DE} {T U : DS} {R : DA} {t u : DT} {i j : Nat} {d x y : D} {PB : Bool → Sto → Prop} {PA : List D → Sto → Prop}
  {Gd : DG} {Tt : DT} {Te : DE} {p : Addr} {vs : List Nat}
theorem e_itL : dItL Ta Δ O PA E = Ta Δ O (fun d O1 => match d with | .lst ds => PA ds O1 | _ => False) E := rfl
theorem e_itT : dItT Ta Δ O PA E = Ta Δ O (fun d O1 => match d with | .tup ds => PA ds O1 | _ => False) E := rfl
theorem e_rng1 : dRng1 R Δ O PA E = R Δ O (fun ds O1 => match ds with | [.int j] => -(2 ^ 62) ≤ j ∧ j < 2 ^ 62 ∧ PA (rangeD 0 j.toNat) O1 | _ => False) E := rfl
theorem e_rng2 : dRng2 R Δ O PA E = R Δ O (fun ds O1 => match ds with | [.int i, .int j] => (-(2 ^ 62) ≤ i ∧ i < 2 ^ 62 ∧ -(2 ^ 62) ≤ j ∧ j < 2 ^ 62) ∧ PA (rangeD i (j - i).toNat) O1 | _ => False) E := rfl
theorem e_yes : dYes Δ O PB E = PB true O := rfl
theorem e_gn {Q : Sl → Prop} : dgN i d Δ Q = Q (Δ.set i (some d)) := rfl
theorem e_lc : dLc R Gd Tt Te vs Δ O P E = R Δ O (fun ds O1 => ds.length ≤ 1000000 ∧ ∀ p, freshC O1 p → lcD Gd Tt Te p (fun acc O2 => P (.lst acc) O2) ds [] (wipeD Δ vs) O1) E := rfl
theorem e_lcO : dLcO R Gd Tt Te vs Δ O P E = R Δ O (fun ds O1 => ds.length ≤ 1000000 ∧ ∀ p, freshC O1 p → lcD Gd Tt Te p (fun acc O2 => P (.ptr p) ((p, .lst acc) :: O2)) ds [] (wipeD Δ vs) O1) E := rfl
theorem e_for : dFor R Gd T En Δ O = R Δ O (fun ds O1 => forD Gd T En ds Δ O1) (fun x O1 => En.xc x Δ O1) := rfl
theorem e_brk : dBrk En Δ O = En.bk Δ O := rfl
theorem e_cnt : dCnt En Δ O = En.ct Δ O := rfl
theorem e_wipe0 : wipeD Δ [] = Δ := rfl
theorem e_wipe1 : wipeD Δ (i :: vs) = (wipeD Δ vs).set i none := rfl
theorem ex_c {c : Cell} {C : Sto → Prop} : (∃ O3, (p, c) :: O = (p, c) :: O3 ∧ C O3) = C O := by
  apply propext
  constructor
  · rintro ⟨O3, e, h⟩
    cases e
    exact h
  · intro h
    exact ⟨O, rfl, h⟩
theorem freshC_ne {b : Addr} {c : Cell} (h : getC O b = some c) (hp : freshC O p) : b ≠ p := hp _ (getC_mem h)
theorem getC_fresh {b : Addr} {c c' : Cell} (h : getC O b = some c) (hp : freshC O p) : getC ((p, c') :: O) b = some c := by rw [getC_other (freshC_ne h hp)]; exact h
/-- one pass -/
def lcStep (Gd : DG) (Tt : DT) (Te : DE) (p : Addr) (acc : List D) (Δ : Sl) (O : Sto) (x : D) (C : Option D → Sto → Prop) : Prop :=
  Gd x Δ fun Δ' => Tt Δ' ((p, .lst acc) :: O) (fun k O1 => if k = true
      then Te Δ' O1 (fun y O2 => ∃ O3, O2 = (p, .lst acc) :: O3 ∧ C (some y) O3) (fun _ _ => False)
      else ∃ O3, O1 = (p, .lst acc) :: O3 ∧ C none O3) (fun _ _ => False)
theorem lc_all {α : Type} {emb : α → D} {St : α → Option D → Prop} {Q : List D → Sto → Prop} : ∀ {xs : List α} {acc : List D}, (∀ x ∈ xs, ∀ acc C, (∀ o, St x o → C o O) → lcStep Gd Tt Te p acc Δ O (emb x) C) → (∀ os, All2 St xs os → Q (acc ++ os.filterMap id) O) → lcD Gd Tt Te p Q (xs.map emb) acc Δ O := by
  intro xs
  induction xs with
  | nil =>
    intro acc _ fin
    have z := fin [] .nil
    rw [List.filterMap_nil, List.append_nil] at z
    exact z
  | cons x xs ih =>
    intro acc step fin
    refine step x List.mem_cons_self acc (fun o O3 => match o with | some y => lcD Gd Tt Te p Q (xs.map emb) (acc ++ [y]) Δ O3 | none => lcD Gd Tt Te p Q (xs.map emb) acc Δ O3) fun o ho => ?_
    cases o with
    | some y =>
      refine ih (fun x hx => step x (List.mem_cons_of_mem _ hx)) fun os hos => ?_
      have z := fin (some y :: os) (.cons ho hos)
      rw [List.filterMap_cons_some (f := id) (b := y) rfl] at z
      rw [List.append_assoc]
      exact z
    | none =>
      refine ih (fun x hx => step x (List.mem_cons_of_mem _ hx)) fun os hos => ?_
      have z := fin (none :: os) (.cons ho hos)
      rw [List.filterMap_cons_none (f := id) rfl] at z
      exact z
theorem lc_det {α : Type} {emb : α → D} (f : α → Option D) {Q : List D → Sto → Prop} {xs : List α} {acc : List D} (step : ∀ x ∈ xs, ∀ acc C, C (f x) O → lcStep Gd Tt Te p acc Δ O (emb x) C) (fin : Q (acc ++ xs.filterMap f) O) : lcD Gd Tt Te p Q (xs.map emb) acc Δ O := by
  refine lc_all (St := fun x o => o = f x) (fun x hx acc C h => step x hx acc C (h _ rfl)) fun os h => ?_
  have e : os.filterMap id = xs.filterMap f := by
    clear fin step
    induction h with
    | nil => rfl
    | cons h _ ih => subst h; rw [List.filterMap_cons, List.filterMap_cons, ih]; rfl
  rw [e]
  exact fin
/-- [e(x) for x in xs] -/
theorem lc_map {α : Type} {emb : α → D} (f : α → D) {Q : List D → Sto → Prop} {xs : List α} (step : ∀ x ∈ xs, ∀ acc C, C (some (f x)) O → lcStep Gd Tt Te p acc Δ O (emb x) C) (fin : Q (xs.map f) O) : lcD Gd Tt Te p Q (xs.map emb) [] Δ O := by
  refine lc_det (fun x => some (f x)) step ?_
  rw [List.nil_append, List.filterMap_eq_map']
  exact fin
/-- [e(x) for x in xs if c(x)] -/
theorem lc_filter {α : Type} {emb : α → D} (f : α → D) (c : α → Bool) {Q : List D → Sto → Prop} {xs : List α} (step : ∀ x ∈ xs, ∀ acc C, C (if c x = true then some (f x) else none) O → lcStep Gd Tt Te p acc Δ O (emb x) C) (fin : Q ((xs.filter c).map f) O) : lcD Gd Tt Te p Q (xs.map emb) [] Δ O := by
  refine lc_det (fun x => if c x = true then some (f x) else none) step ?_
  have e : xs.filterMap (fun x => if c x = true then some (f x) else none) = (xs.filter c).map f := by
    clear fin step
    induction xs with
    | nil => rfl
    | cons x xs ih =>
      by_cases h : c x = true
      · rw [List.filterMap_cons_some (b := f x) (by simp [h]), List.filter_cons_of_pos h, List.map_cons, ih]
      · rw [List.filterMap_cons_none (by simp [h]), List.filter_cons_of_neg h, ih]
  rw [List.nil_append, e]
  exact fin
/-- drawn: each element answers R -/
theorem lc_draw {α β : Type} {emb : α → D} {em : β → D} {St : α → β → Prop} {Q : List D → Sto → Prop} {xs : List α} (step : ∀ x ∈ xs, ∀ acc C, (∀ y, St x y → C (some (em y)) O) → lcStep Gd Tt Te p acc Δ O (emb x) C) (fin : ∀ ys, All2 St xs ys → Q (ys.map em) O) : lcD Gd Tt Te p Q (xs.map emb) [] Δ O := by
  refine lc_all (St := fun x o => ∃ y, St x y ∧ o = some (em y)) (fun x hx acc C h => step x hx acc C fun y hy => h _ ⟨y, hy, rfl⟩) fun os h => ?_
  have e : ∃ ys, All2 St xs ys ∧ os.filterMap id = ys.map em := by
    clear fin step
    induction h with
    | nil => exact ⟨[], .nil, rfl⟩
    | cons h _ ih =>
      obtain ⟨y, hy, rfl⟩ := h
      obtain ⟨ys, h1, h2⟩ := ih
      exact ⟨y :: ys, .cons hy h1, by rw [List.filterMap_cons_some (f := id) (b := em y) rfl, h2]; rfl⟩
  obtain ⟨ys, h1, h2⟩ := e
  rw [h2, List.nil_append]
  exact fin ys h1
theorem for_inv {α : Type} {emb : α → D} (I : List α → Sl → Sto → Prop) (hend : ∀ Δ O, I [] Δ O → En.nx Δ O) : ∀ {xs : List α} {Δ : Sl} {O : Sto}, I xs Δ O →
    (∀ x ∈ xs, ∀ r Δ O (K : Sl → Sto → Prop), I (x :: r) Δ O → (∀ Δ' O', I r Δ' O' → K Δ' O') → Gd (emb x) Δ fun Δ' => T { En with nx := K, ct := K, bk := En.nx } Δ' O) → forD Gd T En (xs.map emb) Δ O := by
  intro xs
  induction xs with
  | nil => intro Δ O h _; exact hend Δ O h
  | cons x xs ih => intro Δ O h step; exact step x List.mem_cons_self xs Δ O _ h fun Δ' O' h' => ih h' fun x hx => step x (List.mem_cons_of_mem _ hx)
/-- .. and what has been walked is known -/
theorem for_inv2 {α : Type} {emb : α → D} (I : List α → Sl → Sto → Prop) {xs : List α} {Δ : Sl} {O : Sto} (h0 : I [] Δ O) (hend : ∀ Δ O, I xs Δ O → En.nx Δ O)
    (step : ∀ l x r, xs = l ++ x :: r → ∀ Δ O (K : Sl → Sto → Prop), I l Δ O → (∀ Δ' O', I (l ++ [x]) Δ' O' → K Δ' O') → Gd (emb x) Δ fun Δ' => T { En with nx := K, ct := K, bk := En.nx } Δ' O) : forD Gd T En (xs.map emb) Δ O := by
  have key : ∀ (r l : List α) (Δ : Sl) (O : Sto), xs = l ++ r → I l Δ O → forD Gd T En (r.map emb) Δ O := by
    intro r
    induction r with
    | nil =>
      intro l Δ O e h
      rw [List.append_nil] at e
      subst e
      exact hend _ _ h
    | cons x r ih =>
      intro l Δ O e h
      exact step l x r e Δ O _ h fun Δ' O' h' => ih (l ++ [x]) Δ' O' (by rw [e, List.append_assoc]; rfl) h'
  exact key xs [] Δ O rfl h0
end
/-! ## Lean types as data -/
class Em (α : Type) [DecidableEq α] [PySem.W.Datum α] where
  em : α → D
  py_em : ∀ a, py (em a) = some (PySem.W.Datum.toD a)
  lay : ∀ a : α, (PySem.W.Datum.toD a).canLay0 = true

end G
namespace G
open PySem L2
instance : Em Int := ⟨.int, fun _ => rfl, fun _ => rfl⟩
instance : Em Bool := ⟨.bl, fun _ => rfl, fun _ => rfl⟩
section
variable {α β : Type} [DecidableEq α] [PySem.W.Datum α] [Em α] [DecidableEq β] [PySem.W.Datum β] [Em β]
theorem pys_em : ∀ xs : List α, pys (xs.map Em.em) = some (xs.map PySem.W.Datum.toD)
  | [] => rfl
  | x :: xs => by
    rw [List.map_cons, pys, Em.py_em, pys_em xs]
    rfl
theorem lays_em : ∀ xs : List α, PyData.canLayAll0 (xs.map PySem.W.Datum.toD) = true
  | [] => rfl
  | x :: xs => by
    rw [List.map_cons, PyData.canLayAll0, Em.lay, lays_em xs]
    rfl
instance : Em (List α) := ⟨fun xs => .lst (xs.map Em.em), fun xs => by rw [py, pys_em]; rfl, fun xs => by
  show PyData.canLay0 (.list (xs.map PySem.W.Datum.toD)) = true
  rw [PyData.canLay0, lays_em]⟩
instance : Em (PySem.W.Tup α) := ⟨fun xs => .tup (xs.items.map Em.em), fun xs => by rw [py, pys_em]; rfl, fun xs => by
  show PyData.canLay0 (.tuple (xs.items.map PySem.W.Datum.toD)) = true
  rw [PyData.canLay0, lays_em]⟩
instance : Em (α × β) := ⟨fun x => .tup [Em.em x.1, Em.em x.2], fun x => by
  rw [py, pys, pys, pys, Em.py_em, Em.py_em]; rfl, fun x => by
  show PyData.canLay0 (.tuple [PySem.W.Datum.toD x.1, PySem.W.Datum.toD x.2]) = true
  rw [PyData.canLay0, PyData.canLayAll0, PyData.canLayAll0, PyData.canLayAll0, Em.lay, Em.lay]
  rfl⟩
theorem shaped_em (h : PySem.W.Datum.depth α ≤ 64) (a : α) : SeqAt.shaped (PySem.W.Datum.toD a) = true := by
  unfold SeqAt.shaped
  rw [Em.lay, Bool.true_and]
  exact decide_eq_true (Nat.le_trans (PySem.W.Datum.depth_le a) h)
/-- == of data that a Lean type says -/
theorem eqB_em (a b : α) (h : PySem.W.Datum.depth α ≤ 64 := by decide) : eqB (Em.em a) (Em.em b) = some (decide (a = b)) := by
  have e := PySem.W.Datum.eqv a b
  have s1 := shaped_em h a
  have s2 := shaped_em h b
  have p1 := Em.py_em a
  have p2 := Em.py_em b
  unfold eqB
  split
  · rename_i i j e1 e2
    rw [e1] at p1
    rw [e2] at p2
    simp only [py, Option.some.injEq] at p1 p2
    rw [← p1, ← p2] at e
    simp only [PyData.eqv] at e
    rw [← e]
    congr 1
  · rename_i i j e1 e2
    rw [e1] at p1
    rw [e2] at p2
    simp only [py, Option.some.injEq] at p1 p2
    rw [← p1, ← p2] at e
    simp only [PyData.eqv] at e
    rw [← e]
    congr 1
  · rename_i i j e1 e2
    rw [e1] at p1
    rw [e2] at p2
    simp only [py, Option.some.injEq] at p1 p2
    rw [← p1, ← p2] at e
    simp only [PyData.eqv] at e
    rw [← e]
    congr 1
  · rw [p1, p2]
    simp only [s1, s2, and_self, ↓reduceIte, e]
end
/-- a tuple of two whole numbers -/
abbrev pr (x : Int × Int) : D := .tup [.int x.1, .int x.2]
theorem eq_prs (xs ys : List (Int × Int)) : eqB (.lst (xs.map pr)) (.lst (ys.map pr)) = some (decide (xs = ys)) := eqB_em (α := List (Int × Int)) xs ys
theorem eq_pr (x y : Int × Int) : eqB (pr x) (pr y) = some (decide (x = y)) := eqB_em (α := Int × Int) x y
theorem eq_ints (xs ys : List Int) : eqB (.lst (xs.map .int)) (.lst (ys.map .int)) = some (decide (xs = ys)) := eqB_em (α := List Int) xs ys
end G
namespace G
open PySem L2
section
variable {O : Sto} {P : KD} {PB : Bool → Sto → Prop}
theorem f_addL {l m : List D} : fAdd (.lst l) (.lst m) O P = (l.length + m.length ≤ sizeLine ∧ P (.lst (l ++ m)) O) := rfl
theorem f_addS {l m : Str} : fAdd (.str l) (.str m) O P = (l.length + m.length ≤ sizeLine ∧ P (.str (l ++ m)) O) := rfl
theorem f_len0 {ds : List D} {a : Addr} (h : getC O a = some (.lst ds)) : fLen [.ptr a] O P = P (.int (ds.length : Int)) O := by rw [f_lenP, n_ptr h]
theorem truL {ds : List D} : truD O (.lst ds) = some (!ds.isEmpty) := rfl
theorem truT {ds : List D} : truD O (.tup ds) = some (!ds.isEmpty) := rfl
theorem truI {i : Int} : truD O (.int i) = some (i != 0) := rfl
theorem truB {i : Bool} : truD O (.bl i) = some i := rfl
theorem truN : truD O .non = some false := rfl
theorem truP {a : Addr} {ds : List D} (h : getC O a = some (.lst ds)) : truD O (.ptr a) = some (!ds.isEmpty) := by simp only [truD, h]
theorem objO {c : Cl} {fs : List Fd} {ds : List D} : objOf O (.obj c fs ds) = some (c, fs, ds) := rfl
theorem objP {a : Addr} {c : Cl} {fs : List Fd} {ds : List D} (h : getC O a = some (.ins c fs ds)) : objOf O (.ptr a) = some (c, fs, ds) := by simp only [objOf, h]
theorem clsO {c : Cl} {fs : List Fd} {ds : List D} : clsOf O (.obj c fs ds) = some c := rfl
theorem clsP {a : Addr} {c : Cl} {fs : List Fd} {ds : List D} (h : getC O a = some (.ins c fs ds)) : clsOf O (.ptr a) = some c := by simp only [clsOf, objP h, Option.map]
theorem atI_lt {ds : List D} {i : Int} (h0 : 0 ≤ i) (h1 : i < ds.length) : ∃ d, d ∈ ds ∧ atI ds i = some d := by
  obtain ⟨n, rfl⟩ := Int.eq_ofNat_of_zero_le h0
  have hn : n < ds.length := by omega
  exact ⟨ds[n], List.getElem_mem hn, atI_nat (List.getElem?_eq_getElem hn)⟩
theorem atI_map {α : Type} {f : α → D} {xs : List α} {i : Int} (h0 : 0 ≤ i) (h1 : i < xs.length) : ∃ x, x ∈ xs ∧ atI (xs.map f) i = some (f x) := by
  obtain ⟨d, hd, e⟩ := atI_lt (ds := xs.map f) h0 (by rw [List.length_map]; exact h1)
  obtain ⟨x, hx, rfl⟩ := List.mem_map.mp hd
  exact ⟨x, hx, e⟩
theorem rangeD_map (i : Int) (n : Nat) : ∃ ks : List Int, rangeD i n = ks.map D.int ∧ ks.length = n := by
  refine ⟨(List.range n).map fun (j : Nat) => i + (j : Int), ?_, by simp⟩
  unfold rangeD
  rw [List.map_map]
  rfl
end
end G
namespace G
open PySem L2
theorem cut_map {α : Type} (f : α → D) (ns : List α) (lo hi : Option Int) : cutD (ns.map f) lo hi = ((ns.drop (HT.sIx ns.length 0 lo)).take (HT.sIx ns.length ns.length hi - HT.sIx ns.length 0 lo)).map f := by
  unfold cutD
  rw [List.length_map, List.map_take, List.map_drop]
theorem cut_box (ns : List Int) : ∃ ms : List Int, cutD (ns.map D.int) none (some 63) = ms.map D.int ∧ ms.length ≤ 63 := by
  refine ⟨_, cut_map D.int ns none (some 63), ?_⟩
  rw [List.length_take]
  have h : HT.sIx ns.length ns.length (some 63) = min 63 ns.length := HT.sIx_nat ns.length ns.length 63
  rw [h]
  omega
end G

set_option Elab.async false
set_option linter.all false
set_option maxRecDepth 100000
set_option maxHeartbeats 4000000
namespace G
open PySem L2
/-! ## an own __contains__ -/
theorem contains_here {M : Model} {A : Around} {E : Value → Shared → Prop} {s : Shared} {K : PySem.W.Frag} {x C f : Addr} {ox : Obj} {od : Option Obj} {v : Value} {Q : Bool → Shared → Prop} (X : K.In s.heap) (I : PySem.W.InstAt s.heap x ox C od)
    (m : Meth K C "__contains__" f) (h : wpAny M A (call (.ref f) [.ref x, v]) (fun r s' => wpAny M A (truthy r) Q E s') E s) : wpAny M A (contains (.ref x) v) Q E s := by
  unfold contains
  refine wpAny_holding (wpAny_bind (wpAny_bind (I.type.here ((PySem.W.looks_findIn X m.at_).here ?_))))
  rw [if_neg (by simp)]
  exact wpAny_bind (PySem.W.unlessNone_K X I m.at_ m.fn h)
def boolK (P : Bool → Sto → Prop) : KD := fun r O => match r with | .bl k => P k O | _ => False
def dInOwn (tab : List (Cl × DSp)) (Ta Tb : DE) : DE := fun Δ O P E => Ta Δ O (fun x O1 => Tb Δ O1 (fun y O2 => match clsOf O2 y with
  | some c => (match tabAt tab c with | some S => S [y, x] O2 (boolK fun k O3 => P (.bl k) O3) E | none => False)
  | none => False) E) E
def dNotInOwn (tab : List (Cl × DSp)) (Ta Tb : DE) : DE := fun Δ O P E => Ta Δ O (fun x O1 => Tb Δ O1 (fun y O2 => match clsOf O2 y with
  | some c => (match tabAt tab c with | some S => S [y, x] O2 (boolK fun k O3 => P (.bl (!k)) O3) E | none => False)
  | none => False) E) E
section
variable {g : Gm} {X : Cx} {W : WX} {pos pos' p apos : Pos} {a b c o : Expr} {es : List Expr} {Ta Tb : DE} {R : DA} {k : Nat} {f : Addr} {S : DSp} {x m : Str} {tab : List (Cl × DSp)}
/-- what is known where an own operation is reached -/
def OwnAt (g : Gm) (W : WX) (σ : St) (tab : List (Cl × DSp)) (v : V) (vs : List V) (H : Hp) (Q : VK) : Prop := ∃ c q dx fs S, v = .ref q ∧ H q = some (.ins (g.ca c) dx fs) ∧ tabAt tab c = some S ∧ toSp g S (v :: vs) H Q fun cls dd H' => W cls dd σ H'
theorem own_at {σ : St} {H1 : Hp} {Q : VK} {P : KD} {E : KX} {F F1 : Hp} {O1 : Sto} {y : D} {ds : List D} {v : V} {vs : List V} (h : match clsOf O1 y with | some c => (match tabAt tab c with | some S => S (y :: ds) O1 P E | none => False) | none => False)
    (ry : Rep g F1 y v) (rs : Reps g F1 ds vs) (w1 : Wd g F1 O1 H1) (hv : VOk g F P Q) (s1 : Same F F1) (hx : XOk g F1 W σ E) : OwnAt g W σ tab v vs H1 Q := by
  split at h
  · rename_i c e
    obtain ⟨q, dx, fs, rfl, h1, _⟩ := obj_look (m := "__contains__") e ry w1 (by decide +kernel)
    split at h
    · rename_i S eS
      exact ⟨c, q, dx, fs, S, rfl, h1, eS, sp_of h (Reps.cons ry rs) w1 hv s1 hx⟩
    · exact h.elim
  · exact h.elim
theorem inst_of {pins : List (Addr × Obj)} {σ : St} {H : Hp} {s : Shared} {q C dx : Addr} {fs : List (Str × V)} (I : Inv X pins σ H s) (e : H q = some (.ins C dx fs)) : ∃ ox od, PySem.W.InstAt s.heap q ox C (some od) := by
  obtain ⟨mA, O, r, _, _, _⟩ := ins_get I.hok e
  obtain ⟨od, h, _⟩ := O.look
  exact ⟨_, od, h⟩
theorem in_run {pins : List (Addr × Obj)} {σ : St} {H : Hp} {s : Shared} {Q : Bool → Hp → Prop} {x y : V} {v u : Value} (M : MTab g X.prog X.w X.K X.mg X.base k "__contains__" tab) (hr : Room k X.A) (tk : Takes X W) (I : Inv X pins σ H s) (rx : RelV x v) (ry : RelV y u)
    (h : OwnAt g W σ tab y [x] H fun z H' => ∃ k, z = .bl k ∧ Q k H') {R : Bool → Shared → Prop} (hR : ∀ k s' H', Inv X pins σ H' s' → Q k H' → R k s') : wpAny (model X.prog X.w) X.A (contains u v) R X.xe s := by
  obtain ⟨c, q, dx, fs, S, rfl, eq, eS, hS⟩ := h
  obtain rfl : u = Value.ref q := ry
  obtain ⟨cls, f, mt, Fn⟩ := M c S eS
  obtain ⟨ox, od, J⟩ := inst_of I eq
  refine contains_here I.kIn J mt (thn (wpAny_call (run_FN (us := [.ref q, v]) (vs := [.ref q, x]) Fn hr tk I (.cons rfl (.cons rx .nil)) hS)) fun r s1 ⟨z, H1, I1, rz, kk, ez, q1⟩ => ?_)
  subst ez
  cases rz
  exact wpAny_truthy_bool (hR _ _ _ I1 q1)
theorem bok_own {F : Hp} {P : Bool → Sto → Prop} {Q : Bool → Hp → Prop} (h : ∀ b O F' H, P b O → Same F F' → Wd g F' O H → Q b H) : VOk g F (boolK P) fun z H' => ∃ k, z = .bl k ∧ Q k H' := fun d O v F' H hd s w r => by
  cases d with
  | bl k => exact ⟨k, Rep.bl_iff.mp r, h k O F' H hd s w⟩
  | _ => exact hd.elim
theorem q_inOwn {j : Nat} (M : MTab g X.prog X.w X.K X.mg X.base k "__contains__" tab) (hr : Room j X.A) (tk : Takes X W) (ha : PE X a (le g W Ta)) (hb : PE X b (le g W Tb)) (hkj : k ≤ j := by decide) (hm : behindInMarks .In b = false := by rfl) : PE X (.Compare a [.In] [b] pos) (le g W (dInOwn tab Ta Tb)) := by
  refine ⟨fun pins s σ H Q I h => ?_⟩
  obtain ⟨Δ, O, P, E, F, hT, sr, w, hv, hx⟩ := h
  refine wpAny_Compare1 (binT ha hb (R := fun x y H2 => OwnAt g W σ tab y [x] H2 fun z H' => ∃ k, z = .bl k ∧ Q (.bl k) H') I (le_bind hT sr w hx fun x O1 vx F1 H1 hT1 s1 sr1 w1 rx hx1 => le_bind hT1 sr1 w1 hx1 fun y O2 vy F2 H2 hT2 s2 sr2 w2 ry hx2 => ?_) fun v u s2 x y H2 I2 rx ry q => ?_) hm
  · exact own_at hT2 ry (Reps.one (rx.mono s2)) w2 (bok_own fun k O3 F3 H3 h3 s3 w3 => hv _ _ _ _ _ h3 (s1.trans (s2.trans s3)) w3 rbl) (Same.refl _) hx2
  · exact wpAny_bind (in_run M (hr.mono hkj) tk I2 rx ry q fun k s' H' I' q' => wpAny_pure ⟨.bl k, H', I', rfl, q'⟩)
theorem qt_inOwn {j : Nat} (M : MTab g X.prog X.w X.K X.mg X.base k "__contains__" tab) (hr : Room j X.A) (tk : Takes X W) (ha : PE X a (le g W Ta)) (hb : PE X b (le g W Tb)) (hkj : k ≤ j := by decide) (hm : behindInMarks .In b = false := by rfl) : PT X (.Compare a [.In] [b] pos) (lt g W (dTe (dInOwn tab Ta Tb))) := by
  refine ⟨fun pins s σ H Q I h => ?_⟩
  obtain ⟨Δ, O, P, E, F, hT, sr, w, hv, hx⟩ := h
  refine wpAny_isTrue_Compare1 (thn (ha.run pins s σ H (fun x H1 => le g W Tb σ H1 fun y H2 => OwnAt g W σ tab y [x] H2 fun z H' => ∃ k, z = .bl k ∧ Q k H') I (le_bind hT sr w hx fun x O1 vx F1 H1 hT1 s1 sr1 w1 rx hx1 => le_bind hT1 sr1 w1 hx1 fun y O2 vy F2 H2 hT2 s2 sr2 w2 ry hx2 => ?_)) fun v s1 ⟨x, H1, I1, r1, q1⟩ => thn (hb.run pins s1 σ H1 _ I1 q1) fun u s2 ⟨y, H2, I2, r2, q2⟩ => ?_) hm
  · exact own_at hT2 ry (Reps.one (rx.mono s2)) w2 (bok_own fun k O3 F3 H3 h3 s3 w3 => hv _ _ _ _ h3 (s1.trans (s2.trans s3)) w3) (Same.refl _) hx2
  · exact wpAny_bind (in_run M (hr.mono hkj) tk I2 r1 r2 q2 fun k s' H' I' q' => wpAny_pure (wpAny_truthy_bool ⟨H', I', q'⟩))
theorem e_inOwn {Δ : Sl} {O : Sto} {P : KD} {E : KX} : dInOwn tab Ta Tb Δ O P E = Ta Δ O (fun x O1 => Tb Δ O1 (fun y O2 => match clsOf O2 y with
  | some c => (match tabAt tab c with | some S => S [y, x] O2 (boolK fun k O3 => P (.bl k) O3) E | none => False)
  | none => False) E) E := rfl
theorem q_gmeth {pl : Sem Bool} {j : Nat} (M : MTab g X.prog X.w X.K X.mg X.base k m tab) (hr : Room j X.A) (tk : Takes X W) (ho : PE X o (le g W Ta)) (ha : PA X (a :: es) (la g W R)) (hkj : k ≤ j := by decide) (hmf : Fd.of m = none := by decide +kernel) (hK : X.K = g.K := by rfl)
    (hst : starEach (a :: es) X.env = (false, eval a X.env) :: starEach es X.env := by rfl) (hpl : (backTo pos (starEach es X.env)).any (·.1) = false := by rfl)
    (ht : eval (.Call (.Attribute o m apos) (a :: es) [] pos) X.env = (do
      let ov ← eval o X.env
      standAt apos.atName
      let (f, first) ← holding [ov] (getMethod ov m pl)
      callWith pos f first (backTo pos (starEach (a :: es) X.env)) (backToKw pos (keywordEach [] X.env))) := by rfl) :
    PE X (.Call (.Attribute o m apos) (a :: es) [] pos) (le g W (dMeth tab Ta R)) := q_meth M (hr.mono hkj) tk ho ha hmf hK hst hpl ht
end
end G

set_option Elab.async false
set_option linter.all false
set_option maxRecDepth 100000
set_option maxHeartbeats 4000000
namespace G
open PySem L2
/-! ## the end of a law -/
section
variable {K : PySem.W.Frag} {h : Heap} {mg : Str → Option Value} {g : Gm}
theorem defAt_mk {name : Str} {st : Stmt} {ps : List Str} {f : Addr} {fd : FuncData} (X : K.In h) (G : h.Ns mainGlobals mg) (a : PySem.W.nsIn K mainGlobals name = some (some (.ref f))) (F : Fun K name name st f fd) (hb : Binds K fd ps []) : DefAt K mg name st ps :=
  ⟨f, fd, PySem.W.mg_of X G a, F, hb⟩
theorem initAt_mk {cl : Cl} {name qual : Str} {st : Stmt} {ps : List Str} {f : Addr} {fd : FuncData} (X : g.K.In h) (G : h.Ns mainGlobals mg) (a : PySem.W.nsIn g.K mainGlobals name = some (some (.ref (g.ca cl)))) (mk : Mk g.K (g.ca cl) f) (F : Fun g.K "__init__" qual st f fd) (hb : Binds g.K fd ps []) :
    InitAt g g.K mg cl name qual st ps := ⟨PySem.W.mg_of X G a, f, fd, mk, F, hb⟩
theorem metAt_mk {cl : Cl} {name qual : Str} {st : Stmt} {ps : List Str} {f : Addr} {fd : FuncData} (m : Meth g.K (g.ca cl) name f) (F : Fun g.K name qual st f fd) (hb : Binds g.K fd ps []) : MetAt g g.K cl name qual st ps := ⟨f, fd, m, F, hb⟩
theorem flds_nil {f : Fd} : Flds g [] f := ⟨fun _ h => absurd h List.not_mem_nil, fun _ h => absurd h List.not_mem_nil⟩
theorem flds_cons {c : Cl} {cs : List Cl} {f : Fd} (h : Cls g.K (g.ca c)) (n : PySem.W.findIn g.K (.ref (g.ca c)) f.str = some none) (r : Flds g cs f) : Flds g (c :: cs) f :=
  ⟨fun d hd => by rcases List.mem_cons.mp hd with e | e; exact e ▸ h; exact r.cl d e, fun d hd => by rcases List.mem_cons.mp hd with e | e; exact e ▸ n; exact r.no d e⟩
end
/-- the law's promise -/
def spLaw (K : PySem.W.Frag) : Sp := fun vs H Q _ => ∃ (a : Addr) (ns : List Int), vs = [.ref a] ∧ SqL K H a (ns.map V.int) ∧ ns.length ≤ 63 ∧ ∀ H', Q (.bl true) H'
def SLaw : DSp := fun ds O P E => ∃ ns, ds = [.scr ns] ∧ O = [] ∧ ∀ O1, P (.bl true) O1
theorem spLaw_of {g : Gm} {vs : List V} {H : Hp} {Q : VK} {E : XK} (h : spLaw g.K vs H Q E) : toSp g SLaw vs H Q E := by
  obtain ⟨a, ns, rfl, hS, hl, k⟩ := h
  refine ⟨H, [], [.scr ns], fun d O => d = .bl true, fun _ _ => False, Reps.one (Rep.scr_iff.mpr ⟨a, rfl, hS⟩), ⟨Same.refl H, by simp, fun q hq => absurd hq List.not_mem_nil⟩, ⟨ns, rfl, rfl, fun _ => rfl⟩, fun d O v F' H' e s w r => ?_, fun _ _ _ _ _ _ z => z.elim⟩
  subst e
  rw [Rep.bl_iff.mp r]
  exact k H'
theorem walk {l : PySem.W.OpenLaw} {q : Program} {loose : List Str} {XP : (Str → Option Value) → Heap → Prop} {YP : World → Heap → Prop} {d : DefRec} {K : Params → PySem.W.Frag} {x : Str} (k : Nat) (hk : k ≤ 40) (hn : l.most = some 63) (hdf : d.params.defaults = [])
    (hY : ∀ (w : World) (h : Heap), YP w h → (K w.params).In h)
    (F : ∀ (w : World) (mg : Str → Option Value) (fa : Addr) (h : Heap), (K w.params).In h → h.Ns mainGlobals mg → mg d.name = some (.ref fa) →
      ∃ fd : FuncData, (∀ (s : Shared) (u : Value), BindsTo s fd ⟨[u], []⟩ [(x, u)]) ∧ ∀ base : Heap, (K w.params).In base → base.Ns mainGlobals mg → FnOk l.prog w (K w.params) mg base (L2.CX l.prog w) k fa fd [x] (spLaw (K w.params))) :
    PySem.W.WalkO q loose XP YP l.row.toRowW d [] (fun f vs => PySem.call f vs) :=
  L2.walk_of (n := 63) (k := k) (x := x) (CX := fun w => L2.CX l.prog w) (sp := fun w => spLaw (K w.params)) hn (by decide) hdf (Room.mono (k := 40) ⟨rfl, by decide, by decide⟩ hk) hY F (fun _ _ a ns hl _ hS => ⟨a, ns, rfl, hS, hl, fun _ => rfl⟩) fun w H s e s' z => by
    obtain ⟨_, _, _, _, _, _, _, _, _, _, _, _, z⟩ := z
    exact z
end G

set_option Elab.async false
set_option linter.all false
set_option maxRecDepth 100000
set_option maxHeartbeats 4000000
namespace G
open PySem L2
/-! ## a def that says super() -/
/-- statements of a def's own body -/
structure PF (X : Cx) (sts : List Stmt) (t : TS) : Prop where
  run : ∀ (body : List Stmt) (pins : List (Addr × Obj)) (s : Shared) (σ : St) (H : Hp) (D : Ends), Inv X pins σ H s → t D σ H → _root_.PySem.wpAt (model X.prog X.w) X.A (.func body X.env) (execs sts X.env) (SP X pins D) X.xe s
section
variable {X : Cx} {st : Stmt} {sts : List Stmt} {t u : TS}
theorem pf_of (h : PSs X sts t) : PF X sts t := ⟨fun body pins s σ H D I q => _root_.PySem.wpAt_of_wpAny (h.run pins s σ H D I q)⟩
theorem pf_cons (h : PS X st t) (k : PF X sts u) : PF X (st :: sts) (tSeq t u) := by
  refine ⟨fun body pins s σ H D I q => PySem.ks_wpAt_execs_cons (_root_.PySem.wpAt_of_wpAny (thn (h.run pins s σ H { D with nx := u D } I q) fun f s1 z => ?_))⟩
  cases f with
  | next =>
    obtain ⟨σ1, H1, I1, z⟩ := z
    exact k.run body pins s1 σ1 H1 D I1 z
  | brk => exact z
  | cont => exact z
  | ret v => exact z
end
/-- the program's own text: its file, super is the kit's -/
structure Pg (P : Program) (file : Str) : Prop where
  file : ((P.main.file : Str) == file) = true
  sup : (P.main.scope.names.lookup ("super" : Str)).isSome = false
structure FunS (K : PySem.W.Frag) (x qual : Str) (st : Stmt) (f : Addr) (fd : FuncData) (cc cda D : Addr) (file : Str) : Prop where
  ex : ∃ (oc : Value) (od : Option Addr) (kV doc pm : Value) (an : Option Addr) (ct : Value) (osl : Array (Option Value)), fd = PySem.W.ksFn x qual (defArgs st) (defBody st) (defScope st) .none kV doc pm an (.ref cda) ct cc ∧ K.lookup f = some ⟨oc, od, .func fd, osl⟩
  code : PySem.W.codeIn K (.ref cda) qual = true
  kp : PySem.W.keepIn K (.ref f) = true
  fl : ∃ (ccl : Value) (cdd : Option Addr) (vs : Array Value) (ccs : Array (Option Value)) (tf : Tok), K.lookup cda = some ⟨ccl, cdd, .fields vs, ccs⟩ ∧ vs[2]? = some (.str file tf)
  cell : ∃ (cl : Value) (cld : Option Addr) (csl : Array (Option Value)), K.lookup cc = some ⟨cl, cld, .cell (some (.ref D)), csl⟩
  dcl : ∃ cdD, PySem.W.clsIn K D = some cdD
abbrev sNF (x qual : Str) (st : Stmt) (cc cda : Addr) : NdefX.NF := ⟨x, qual, defArgs st, defBody st, defScope st, [("__class__", cc)], cda⟩
abbrev scx (P : Program) (w : World) (K : PySem.W.Frag) (mg : Str → Option Value) (base : Heap) (N : List Str) (x qual : Str) (st : Stmt) (f cc cda : Addr) (A : Around) (outer : List Env) (s : Shared) (H : Hp) (E : XK) : Cx :=
  NdefX.ncx (L2.CX P w) P w K mg base N (sNF x qual st cc cda) f A outer s H E
section
variable {P : Program} {w : World} {K : PySem.W.Frag} {mg : Str → Option Value} {base : Heap} {N ps : List Str} {x qual : Str} {st : Stmt} {f cc cda D : Addr} {fd : FuncData} {file : Str} {k : Nat} {sp : Sp}
theorem fn_super (F : FunS K x qual st f fd cc cda D file) (S : NdefX.NScope N ps ["__class__"] (defScope st)) (len : ∀ vs H Q E, sp vs H Q E → vs.length = ps.length)
    (hbody : ∀ (A : Around) (outer : List Env) (s : Shared) (H : Hp) (vs : List V) (Q : VK) (E : XK), Room k (A.deeper (NdefX.envF (sNF x qual st cc cda) f s.heap.objs.size)) → sp vs H Q E →
      ∃ t, PF (scx P w K mg base N x qual st f cc cda A outer s H E) (defBody st) t ∧ t { nx := fun _ H' => Q .non H', rt := Q } (NdefX.startF N vs [none]) H) :
    FnOk P w K mg base (L2.CX P w) (k + 1) f fd ps sp := by
  refine ⟨len, fun A outer s H args us vs Q E hr e0 hb r hsp => ?_⟩
  obtain ⟨oc, od, kV, doc, pm, an, ct, osl, rfl, lk⟩ := F.ex
  obtain ⟨cl, cld, csl, hcell⟩ := F.cell
  have hl := len _ _ _ _ hsp
  have kp0 : ∀ b o, base.get? b = some o → s.heap.get? b = some o := fun b o e => (e0.bs b o e).1
  have KI : K.In s.heap := e0.mod.kin.keeps kp0
  have lim : s.heap.NoLimit := e0.mod.nolimit.keeps kp0
  refine PySem.ks_codeAny_call_defAt (fd := PySem.W.ksFn x qual (defArgs st) (defBody st) (defScope st) .none kV doc pm an (.ref cda) ct cc) hr.depth (KI _ _ lk) rfl lim (PySem.W.codeRec_of KI F.code) rfl hb S.nocell (fun ⟨n, _⟩ hy => S.par n (List.of_mem_zip hy).1) (fun h₁ hns kp => ?_) S.co S.gen S.kind
  obtain ⟨t, ht, hq⟩ := hbody A outer s H vs Q E (hr.deeper _) hsp
  have C : NdefX.CellsAt [("__class__", cc)] ["__class__"] [none] s.heap H := by
    have key : ∀ (y : Str) (c : Addr), [(("__class__" : Str), cc)].lookup y = some c → y = "__class__" ∧ c = cc := fun y c e => by
      rw [List.lookup_cons] at e
      split at e
      · rename_i q
        cases e
        exact ⟨beq_iff_eq.mp q, rfl⟩
      · cases e
    refine ⟨rfl, fun y c e => ?_, fun a b c e1 e2 => (key a c e1).1.trans (key b c e2).1.symm, fun i y e => ?_⟩
    · obtain ⟨_, rfl⟩ := key y c e
      exact ⟨(e0.bs _ _ (e0.mod.kin _ _ hcell)).2, some (.ref D), ⟨_, KI _ _ hcell, rfl⟩⟩
    · cases i with
      | zero =>
        cases e
        exact ⟨cc, rfl, fun v z => by cases z⟩
      | succ n => cases e
  have I : Inv (scx P w K mg base N x qual st f cc cda A outer s H E) [] (NdefX.startF N vs [none]) H { s with heap := h₁, toks := s.toks + (ps.zip us).length } := NdefX.inv_startN S hr.hd e0 hl r C hns kp
  refine _root_.PySem.wpAt_mono (ht.run (defBody st) [] _ (NdefX.startF N vs [none]) H _ I hq) (fun fl s' hs => ?_) fun e s' hs => hs
  have fin : ∀ {σ' : L2.St} {H' : Hp} {v : V} {u : Value}, Inv (scx P w K mg base N x qual st f cc cda A outer s H E) [] σ' H' s' → L2.RelV v u → Q v H' → CE outer P w H s Q u s' :=
    fun {σ' H' v u} J rv q => ⟨v, H', J.os, J.bare, J.base, J.hok, rv, q⟩
  cases fl with
  | ret u =>
    obtain ⟨v, σ', H', J, rv, q⟩ := hs
    exact fin J rv q
  | next =>
    obtain ⟨σ', H', J, q⟩ := hs
    exact fin (v := V.non) (u := Value.none) J rfl q
  | brk =>
    obtain ⟨_, _, _, q⟩ := hs
    exact False.elim q
  | cont =>
    obtain ⟨_, _, _, q⟩ := hs
    exact False.elim q
end

section
variable {P : Program} {w : World} {K : PySem.W.Frag} {mg : Str → Option Value} {base : Heap} {N ps : List Str} {x qual : Str} {st : Stmt} {f cc cda D : Addr} {fd : FuncData} {file : Str} {k : Nat} {A : Around} {outer : List Env} {s0 : Shared} {H0 : Hp} {E0 : XK}
/-- what the text says of the def -/
structure SupTx (N : List Str) (st : Stmt) (ar : Str) : Prop where
  ks : (defScope st).names.lookup ("super" : Str) = some .globalImplicit
  kc : (defScope st).names.lookup ("__class__" : Str) = some .free
  fst : ∃ r : Arg, ((defArgs st).posonlyargs ++ (defArgs st).args).head? = some r ∧ r.arg = ar
  n0 : N[0]? = some ar
  ka : (defScope st).names.lookup ar = some .local
  kind : (defScope st).kind = .function
theorem super_node {ar attr : Str} {body : List Stmt} {p0 p1 : Pos} {whole : Sem Value} {pins : List (Addr × Obj)} {σ : St} {H : Hp} {s : Shared} {a C : Addr} {ox : Obj} {od : Option Obj} {Q : Value → Shared → Prop} {E : Value → Shared → Prop}
    (F : FunS K x qual st f fd cc cda D file) (PG : Pg P file) (T : SupTx N st ar) (hm : mg "super" = none) (hat : (attr == ("__class__" : Str)) = false) (I : Inv (scx P w K mg base N x qual st f cc cda A outer s0 H0 E0) pins σ H s) (es : σ[0]? = some (some (.ref a)))
    (J : PySem.W.InstAt s.heap a ox C od) (hsub : PySem.W.mroIn K C (.ref D) = some true)
    (h : ∀ so s', Inv (scx P w K mg base N x qual st f cc cda A outer s0 H0 E0) pins σ H s' → s'.heap.get? so = some (PySem.W.ks_superObj D a C) → (∀ b o, s.heap.get? b = some o → s'.heap.get? b = some o) → Q (.ref so) s') :
    _root_.PySem.wpAt (model P w) (scx P w K mg base N x qual st f cc cda A outer s0 H0 E0).A (.func body (scx P w K mg base N x qual st f cc cda A outer s0 H0 E0).env) (attributeBase (.Call (.Name "super" p0) [] [] p1) attr (scx P w K mg base N x qual st f cc cda A outer s0 H0 E0).env whole) Q E s := by
  have KI : K.In s.heap := I.kIn
  obtain ⟨oc, odd, kV, doc, pm, an, ct, osl, rfl, lk⟩ := F.ex
  obtain ⟨ccl, cdd, vs, ccs, tf, hcode, hvs⟩ := F.fl
  obtain ⟨cl, cld, csl, hcell⟩ := F.cell
  obtain ⟨cdD, hD⟩ := F.dcl
  obtain ⟨r, hr, har⟩ := T.fst
  obtain ⟨oD, hD1, hD2⟩ : ∃ oD, s.heap.get? D = some oD ∧ oD.data = .cls cdD := by
    unfold PySem.W.clsIn at hD
    split at hD
    · rename_i c d cd' sl ho
      cases hD
      exact ⟨_, KI _ _ ho, rfl⟩
    · cases hD
  refine PySem.ks_wpAt_super_base (env := (scx P w K mg base N x qual st f cc cda A outer s0 H0 E0).env) T.ks T.kc hat rfl (KI _ _ lk) rfl hr rfl (KI _ _ hcode) rfl hvs PG.file PG.sup ?_
  obtain ⟨mb, h1, h2⟩ := I.mod.blt
  refine PySem.W.ks_loadName_global T.kind T.ks (Calls.loadGlobal_builtin (I.mod.glob.keeps I.bk) hm (h1.keeps I.bk) ((h2 "super" (by decide)).trans (by decide +kernel : bootBuiltins "super" = some (.type "super"))) ⟨rfl, ?_⟩)
  refine wpAny_loadName_free T.kind T.kc rfl ⟨_, KI _ _ hcell, rfl⟩ ?_
  obtain ⟨m, hn, hl⟩ := I.loc
  obtain ⟨u, ru, l⟩ := hl 0 ar (.ref a) T.n0 es (.inl T.ka)
  obtain rfl : u = Value.ref a := ru
  have hlo : m ar = some (.ref a) := by
    rcases l with ⟨_, hm⟩ | ⟨hk, _⟩
    · exact hm
    · rcases hk with hk | hk
      · have z := T.ka.symm.trans hk; cases z
      · have z := T.ka.symm.trans hk; cases z
  rw [har]
  refine wpAny_loadName_local T.kind T.ka hn hlo ?_
  obtain ⟨hh, g, d, t, os⟩ := s
  refine PySem.ks_wpAny_isType_cls hD1 hD2 ⟨rfl, ?_⟩
  refine PySem.ks_wpAny_call_super hD1 hD2 J.at_ J.cls (fun c e => ?_) (PySem.W.looks_mroIn KI hsub) (fun h' e k => ?_)
  · have := J.no
    unfold PySem.W.notCls at this
    rw [e] at this
    exact Bool.noConfusion this
  · exact h _ _ (I.kept k) e k
end

/-! ### super().__init__(..) of an own exception -/
section
open PySem.W
variable {prog : Program} {w : World} {A : Around} {E : Value → Shared → Prop} {h : Heap} {g : Array GenState} {d : Drawn} {t : Nat} {os : OsState}
variable {nm q : Str} {C N : Addr} {bs bm : List Value} {hdct : Bool} {sn : List Str} {sub : List Value} {ab : Bool} {col : Option Bool} {dd : Option Addr} {k0 k1 k2 k3 k5 : Option Value}
theorem call_wrap {u e t0 : Addr} {rest : List Value} {Q : Value → Shared → Prop}
    (hC : h.get? C = some (excClassObj nm q C N bs bm hdct sn sub ab col dd k0 k1 k2 k3 k5 "ValueError.__new__")) (he : h.get? e = some (HandSPX.excO C t0)) (hu : h.get? u = some (kxs_mw "ValueError.__init__" e)) (hrest : rest.length ≤ sizeLine)
    (hq : ∀ h' t1, (∀ b o, b ≠ e → h.get? b = some o → h'.get? b = some o) → h'.get? e = some (HandSPX.excO C t1) → Q .none ⟨h', g, d, t, os⟩) :
    wpAny (model prog w) A (call (.ref u) rest) Q E ⟨h, g, d, t, os⟩ := by
  refine wpAny_call (codeAny_of_tree ?_)
  show wpAny _ A.in1 (callAny (.ref u) ⟨rest, []⟩) _ _ _
  simp only [callAny]
  refine wpAny_bind (wpAny_load hu ?_)
  simp only [kxs_mw, show (Value.type "method-wrapper" == Value.type "method" || Value.type "method-wrapper" == Value.type "builtin_function_or_method" || Value.type "method-wrapper" == Value.type "method-wrapper") = true by decide, if_true]
  refine W.KFB.if_so (by decide) ?_
  refine wpAny_bind (ESX.check_bound F.excBase_ValueError hC he rfl ?_)
  refine wpAny_bind (wpAny_pure (wpAny_pure ?_))
  refine ⟨Code.quiet_builtin _ (by decide +kernel), codeAny_builtin F.excBase_ValueError.initEntry ?_⟩
  rw [Around.under_plainId F.excBase_ValueError.init.plain _]
  wp_walk
  refine hq _ h.objs.size (fun b o hb ho => ?_) ?_
  · rw [Heap.get?_update_other _ _ (Ne.symm hb)]
    exact Heap.get?_push_of_some _ ho
  · rw [Heap.get?_update_self _ (Heap.get?_push_of_some _ he) rfl]
    rfl
end
/-- what the written part says of an own exception class -/
structure ExC (K : PySem.W.Frag) (C : Addr) : Prop where
  ox : OexC K C
  mr : PySem.W.mroIn K C (.ref C) = some true
  su : PySem.W.ks_superIn K C C "__init__" = some (some (.builtin "ValueError.__init__"))
  ve : PySem.W.subIn K (.ref C) (.type "ValueError") = some true
  th : PySem.W.nsIn K cStatics "thirdparty.any" = some none
def tSupX (C : Addr) (ta : TA) (u : TS) : TS := fun D σ H => ∃ a, σ[0]? = some (some (.ref a)) ∧ H a = some (exo a C none) ∧ ta σ H fun vs H1 => vs.length ≤ 1000 ∧ H1 a = some (exo a C none) ∧ u D σ H1
section
variable {P : Program} {w : World} {K : PySem.W.Frag} {mg : Str → Option Value} {base : Heap} {N ps : List Str} {x qual : Str} {st : Stmt} {f cc cda C : Addr} {fd : FuncData} {file : Str} {k : Nat} {A : Around} {outer : List Env} {s0 : Shared} {H0 : Hp} {E0 : XK}
theorem pf_supX {ar : Str} {e : Expr} {es : List Expr} {ta : TA} {rest : List Stmt} {u : TS} {p0 p1 p2 p3 p4 : Pos} {pl : Sem Bool} (F : FunS K x qual st f fd cc cda C file) (PG : Pg P file) (T : SupTx N st ar) (hm : mg "super" = none) (XC : ExC K C)
    (ha : PA (scx P w K mg base N x qual st f cc cda A outer s0 H0 E0) (e :: es) ta) (hu : PF (scx P w K mg base N x qual st f cc cda A outer s0 H0 E0) rest u)
    (he : starEach (e :: es) (scx P w K mg base N x qual st f cc cda A outer s0 H0 E0).env = (false, eval e (scx P w K mg base N x qual st f cc cda A outer s0 H0 E0).env) :: starEach es (scx P w K mg base N x qual st f cc cda A outer s0 H0 E0).env := by rfl)
    (hpl : (backTo p3 (starEach es (scx P w K mg base N x qual st f cc cda A outer s0 H0 E0).env)).any (·.1) = false := by rfl)
    (ht : eval (.Call (.Attribute (.Call (.Name "super" p0) [] [] p1) "__init__" p2) (e :: es) [] p3) (scx P w K mg base N x qual st f cc cda A outer s0 H0 E0).env = (do
      let ov ← attributeBase (.Call (.Name "super" p0) [] [] p1) "__init__" (scx P w K mg base N x qual st f cc cda A outer s0 H0 E0).env (eval (.Call (.Name "super" p0) [] [] p1) (scx P w K mg base N x qual st f cc cda A outer s0 H0 E0).env)
      standAt p2.atName
      let (ff, first) ← holding [ov] (getMethod ov "__init__" pl)
      callWith p3 ff first (backTo p3 (starEach (e :: es) (scx P w K mg base N x qual st f cc cda A outer s0 H0 E0).env)) []) := by rfl)
    (hi : interactive (scx P w K mg base N x qual st f cc cda A outer s0 H0 E0).env = false := by rfl) (hs : swapsWith (.Call (.Attribute (.Call (.Name "super" p0) [] [] p1) "__init__" p2) (e :: es) [] p3) none p4.line (scx P w K mg base N x qual st f cc cda A outer s0 H0 E0).env = pure false := by rfl) :
    PF (scx P w K mg base N x qual st f cc cda A outer s0 H0 E0) (.Expr (.Call (.Attribute (.Call (.Name "super" p0) [] [] p1) "__init__" p2) (e :: es) [] p3) p4 :: rest) (tSupX C ta u) := by
  refine ⟨fun body pins s σ H Dn I ⟨a, eσ, ea, hta⟩ => ?_⟩
  obtain ⟨t1, ho⟩ := exo_at I.hok ea
  have J : PySem.W.InstAt s.heap a (HandSPX.excO C t1) C none := ⟨ho, rfl, rfl, trivial⟩
  refine PySem.ks_wpAt_execs_cons (PySem.ks_wpAt_Expr_any (PySem.ks_wpAt_MethodCall (pl := pl) (super_node F PG T hm (by decide) I eσ J XC.mr fun so s1 I1 hso k1 => ?_) ht) hi hs)
  obtain ⟨nm, q, Nn, bs, bm, sn, sub, ab, col, dd, k0, k1', k2, k3, k5, hC, hbm⟩ := XC.ox.cls
  have hcl : PySem.W.clsIn K C = some { name := nm, bases := bs, mro := .ref C :: bm, ns := Nn, qualname := q, hasDict := true, slotNames := sn, subclasses := sub, abstract := ab, collection := col, hasDel := false } := by unfold PySem.W.clsIn; rw [hC] <;> rfl
  have KI : K.In s1.heap := I1.kIn
  have J1 : PySem.W.InstAt s1.heap a (HandSPX.excO C t1) C none := ⟨k1 _ _ ho, rfl, rfl, trivial⟩
  have hal := XC.su
  unfold PySem.W.ks_superIn at hal
  rw [hcl, Option.bind_some] at hal
  have hI : PySem.W.Looks (model P w) s1.heap (isInstance (.ref a) (.type "ValueError")) true := J1.type.andThen (PySem.W.looks_subIn KI XC.ve)
  obtain ⟨hh, gs, d, t, os⟩ := s1
  refine PySem.W.kxs_getMethod PySem.W.kxs_ValueError hso (PySem.W.looks_opaque KI XC.th) (l₀ := .ref C :: bm) (fun A Q E s k q => wpAny_bind ((PySem.W.looks_clsIn KI hcl) A _ E s k (wpAny_pure q))) rfl KI hal hI (PySem.W.ks_ne KI J1 hcl) (by decide) ?_
  have I2 : Inv (scx P w K mg base N x qual st f cc cda A outer s0 H0 E0) pins σ H ⟨hh.push (PySem.W.kxs_mw "ValueError.__init__" a), gs, d, t + 1, os⟩ := I1.kept fun b o e => Heap.get?_push_of_some _ e
  have I3 : Inv (scx P w K mg base N x qual st f cc cda A outer s0 H0 E0) ((hh.objs.size, PySem.W.kxs_mw "ValueError.__init__" a) :: pins) σ H ⟨hh.push (PySem.W.kxs_mw "ValueError.__init__" a), gs, d, t + 1, os⟩ := I2.pins_of fun p hp => by
    rcases List.mem_cons.mp hp with rfl | hp
    · exact ⟨Heap.get?_push_size _ rfl, I1.hok.fresh (Nat.le_refl _), Nat.ne_of_gt I1.lt, I1.nofs (Nat.le_refl _), fun v z => by cases z⟩
    · exact I2.pin p (List.mem_append_right _ hp)
  rw [he]
  refine PySem.W.kxs_callWith (i := "ValueError.__init__") (x := a) (by show (false || (backTo p3 (starEach es _)).any (·.1)) = false; rw [hpl]; rfl) ?_
  have z3 := ha.run p3 _ _ σ H _ I3 hta
  rw [he] at z3
  refine PySem.Calls.evalArgs_plain (thn z3 fun us s4 ⟨vs, H1, I4, r4, hl4, ea4, q4⟩ => ?_)
  have hpin := (I4.pin (hh.objs.size, PySem.W.kxs_mw "ValueError.__init__" a) (List.mem_append_right _ List.mem_cons_self)).1
  refine ⟨hpin, ?_⟩
  obtain ⟨t4, ho4⟩ := exo_at I4.hok ea4
  have hlen : us.length ≤ sizeLine := by
    rw [← Paired.length r4, sizeLine_eq]
    omega
  obtain ⟨hp4, g4, d4, t4', os4⟩ := s4
  show wpAny _ _ (call (.ref hh.objs.size) ([] ++ us) []) _ _ _
  refine call_wrap (I4.kIn _ _ hC) ho4 hpin hlen fun h' t5 kk hx => ?_
  have I5 := I4.write (t' := t4') (x := a) (e := a) (o := exo a C none) (by rw [ea4]; exact True.intro) (.inl rfl) kk ⟨_, hx⟩ (exo_ok hx)
  have eu : upd H1 a (exo a C none) = H1 := by
    funext b
    by_cases hb : b = a
    · rw [hb, upd_same, ea4]
    · rw [upd_ne hb]
  rw [eu] at I5
  exact hu.run body pins _ σ H1 Dn (I5.pins_of fun p hp => I5.pin p (List.mem_append_right _ (List.mem_cons_of_mem _ hp))) q4
end
end G

set_option Elab.async false
set_option linter.all false
set_option maxRecDepth 100000
set_option maxHeartbeats 4000000
namespace G
open PySem L2
/-! ## own exceptions -/
/-- what an exception's __init__ keeps -/
def spX (C : Addr) (fns : List Str) : Sp := fun vs H Q _ => ∃ a ws, vs = .ref a :: ws ∧ ws.length = fns.length ∧ H a = some (exo a C none) ∧ ∀ d, H d = none → d ≠ a → Q .non (upd (upd H d (exd d (fns.zip ws).reverse)) a (exo a C (some d)))
theorem upd_comm {H : Hp} {a b : Addr} {o u : HO} (h : a ≠ b) : upd (upd H a o) b u = upd (upd H b u) a o := by
  funext c
  by_cases h1 : c = a
  · subst h1
    rw [upd_same, upd_ne h, upd_same]
  · by_cases h2 : c = b
    · subst h2
      rw [upd_same, upd_ne h1, upd_same]
    · rw [upd_ne h2, upd_ne h1, upd_ne h1, upd_ne h2]
theorem upd_upd {H : Hp} {a : Addr} {o u : HO} : upd (upd H a o) a u = upd H a u := by
  funext c
  by_cases h1 : c = a
  · subst h1
    rw [upd_same, upd_same]
  · rw [upd_ne h1, upd_ne h1, upd_ne h1]
section
variable {K : PySem.W.Frag} {C : Addr} {f1 f2 : Str} {vs : List V} {H : Hp} {Q : VK} {E : XK} {N : List Str} {txt : Str}
theorem tx1 (ox : OexC K C) (n1 : PySem.W.findIn K (.ref C) f1 = some none) (h : spX C [f1] vs H Q E) : tSupX C (tCons (tC (.str txt)) tNil) (tOst K f1 (tVar 0) (tVar 1)) { nx := fun _ H' => Q .non H', rt := Q } (NdefX.startF N vs [none]) H := by
  obtain ⟨a, ws, rfl, hl, ha, k⟩ := h
  match ws, hl with
  | [w1], _ => exact ⟨a, rfl, ha, by simp, ha, _, rfl, _, rfl, a, C, rfl, ox, n1, .inl ⟨ha, fun d hd ne => k d hd ne⟩⟩
theorem tx2 (ox : OexC K C) (n1 : PySem.W.findIn K (.ref C) f1 = some none) (n2 : PySem.W.findIn K (.ref C) f2 = some none) (h : spX C [f1, f2] vs H Q E) :
    tSupX C (tCons (tC (.str txt)) tNil) (tSeq (tOst K f1 (tVar 0) (tVar 1)) (tOst K f2 (tVar 0) (tVar 2))) { nx := fun _ H' => Q .non H', rt := Q } (NdefX.startF N vs [none]) H := by
  obtain ⟨a, ws, rfl, hl, ha, k⟩ := h
  match ws, hl with
  | [w1, w2], _ =>
    refine ⟨a, rfl, ha, by simp, ha, _, rfl, _, rfl, a, C, rfl, ox, n1, .inl ⟨ha, fun d hd ne => ?_⟩⟩
    refine ⟨_, rfl, _, rfl, a, C, rfl, ox, n2, .inr ⟨d, [(f1, w1)], upd_same, ?_, by simp, ?_⟩⟩
    · rw [upd_ne ne]
      exact upd_same
    · have z := k d hd ne
      rw [upd_comm ne.symm, upd_upd]
      exact z
end
/-- the exception class of that name can be made -/
def GX (g : Gm) (P : Program) (w : World) (K : PySem.W.Frag) (mg : Str → Option Value) (base : Heap) (ec : Ec) (name : Str) (fs : List Fd) : Prop :=
  mg name = some (.ref (g.ea ec)) ∧ OexC K (g.ea ec) ∧ ∃ f fd ps, PySem.W.findIn K (.ref (g.ea ec)) "__init__" = some (some (.ref f)) ∧ PySem.W.typeIn K (.ref f) = some (.type "function") ∧ FnOk P w K mg base (L2.CX P w) 1 f fd ps (spX (g.ea ec) (fs.map Fd.str)) ∧ Binds K fd ps []
def dRaise (ec : Ec) (fs : List Fd) (R : DA) : DS := fun D Δ O => R Δ O (fun ds O1 => ds.length = fs.length ∧ ds.length ≤ 9 ∧ D.xc ⟨ec, fs, ds⟩ Δ O1) (fun x O1 => D.xc x Δ O1)
theorem look_rev : ∀ {fs : List Fd} {vs : List V}, fs.Nodup → fs.length = vs.length → ∀ f : Fd, ((fs.map Fd.str).zip vs).reverse.lookup f.str = (zipF fs vs).lookup f.str := by
  intro fs
  induction fs with
  | nil => intro vs _ _ f; rfl
  | cons h hs ih =>
    intro vs nd hl f
    cases vs with
    | nil => simp at hl
    | cons v vs =>
      have nd' := List.nodup_cons.mp nd
      rw [List.map_cons, List.zip_cons_cons, List.reverse_cons, List.lookup_append, ih nd'.2 (by simpa using hl), zipF_cons]
      by_cases q : f = h
      · subst q
        rw [getF_none fun x hx z => nd'.1 (by rw [Fd.inj z]; exact hx)]
        simp [List.lookup]
      · have q' : (f.str == h.str) = false := by
          rw [beq_eq_false_iff_ne]
          exact fun z => q (Fd.inj z)
        have z : List.lookup f.str [(h.str, v)] = none := by rw [List.lookup_cons, q']; rfl
        rw [z, List.lookup_cons, q']
        simp
section
variable {g : Gm} {X : Cx} {W : WX} {pos pos' p p2 : Pos} {a b c e : Expr} {es : List Expr} {R : DA} {Ta Tb : DE} {k j : Nat} {x : Str}
theorem qs_raise {ec : Ec} {fs : List Fd} (h : GX g X.prog X.w X.K X.mg X.base ec x fs) (hr : Room j X.A) (tk : Takes X W) (ha : PA X (e :: es) (la g W R)) (hj : 2 ≤ j := by decide) (nd : fs.Nodup := by decide) (hc : X.calm = true := by rfl) (hg : Gl X x := by rfl)
    (hdb : (x == ("__debug__" : Str)) = false := by decide) (he : starEach (e :: es) X.env = (false, eval e X.env) :: starEach es X.env := by rfl) (hpl : (backTo pos (starEach es X.env)).any (·.1) = false := by rfl) :
    PS X (.Raise (some (.Call (.Name x p) (e :: es) [] pos)) none pos') (ls g W (dRaise ec fs R)) := by
  obtain ⟨hm, T, f, fd, ps, iC, tI, F1, hb⟩ := h
  refine ps_imp (ps_raise hc tk (pmk_oex T iC tI F1 (hr.mono hj) hb .nil (fun _ _ _ _ _ _ _ z => by obtain ⟨_, _, _, _, _, _, _, _, _, _, _, _, z⟩ := z; exact z.elim) hg hm ha hdb he hpl)) fun En σ H ⟨D, Δ, O, F, hT, sr, w, ho⟩ => ?_
  refine la_bind hT sr w (ho.toX sr) fun ds O1 vs F1' H1 hT1 s1 sr1 w1 rs hx1 => ?_
  obtain ⟨hl, h9, hT1⟩ := hT1
  have hlv : vs.length = fs.length := by rw [← rs.length, hl]
  refine ⟨by omega, fun q hq => ⟨q, vs, by simp, by simp [hlv], upd_same, fun d hd ne => ⟨rfl, d, ((fs.map Fd.str).zip vs).reverse, upd_same, ?_, ?_, ?_⟩⟩⟩
  · rw [upd_ne ne]
    exact upd_same
  · rw [upd_ne ne] at hd
    exact hd
  · have hd1 : H1 d = none := by rw [upd_ne ne] at hd; exact hd
    have eH : upd (del (upd (upd (upd H1 q (exo q (g.ea ec) none)) d (exd d ((fs.map Fd.str).zip vs).reverse)) q (exo q (g.ea ec) (some d))) q) d (.xd ((fs.map Fd.str).zip vs).reverse) = upd H1 d (.xd ((fs.map Fd.str).zip vs).reverse) := by
      funext b
      by_cases h1 : b = d
      · subst h1
        rw [upd_same, upd_same]
      · rw [upd_ne h1, upd_ne h1]
        by_cases h2 : b = q
        · subst h2
          rw [del_same, hq]
        · rw [del_ne h2, upd_ne h2, upd_ne h1, upd_ne h2]
    rw [eH]
    have w2 := w1.frozen (o := .xd ((fs.map Fd.str).zip vs).reverse) hd1
    have s2 := w1.fsame (o := .xd ((fs.map Fd.str).zip vs).reverse) hd1
    exact ho.xc _ _ _ _ _ _ _ _ hT1 (s1.trans s2) (sr1.mono s2) w2 ⟨rfl, vs, ⟨fun dd e => by cases e; exact ⟨_, upd_same⟩, fun f w hw => ⟨d, _, rfl, upd_same, by rw [look_rev nd hlv.symm]; exact hw⟩⟩, rs.mono s2⟩
/-- an exception class without an own __init__, made of a text -/
def GXT (g : Gm) (K : PySem.W.Frag) (mg : Str → Option Value) (ec : Ec) (name : Str) : Prop :=
  mg name = some (.ref (g.ea ec)) ∧ PySem.W.excIn K (g.ea ec) [.type "ValueError", .type "Exception", .type "BaseException", .type "object"] "ValueError.__new__" = true ∧ PySem.W.keepIn K (.ref (g.ea ec)) = true ∧
    PySem.W.subIn K (.ref (g.ea ec)) (.type "BaseException") = some true ∧ PySem.W.typeIn K (.ref (g.ea ec)) = some (.type "type")
def dRaiseT (ec : Ec) : DS := fun D Δ O => D.xc ⟨ec, [], []⟩ Δ O
theorem qs_raiseT {ec : Ec} {m : Str} {i : Nat} (h : GXT g X.K X.mg ec x) (tk : Takes X W) (hc : X.calm = true := by rfl) (hg : Gl X x := by rfl) (hdb : (x == ("__debug__" : Str)) = false := by decide) :
    PS X (.Raise (some (.Call (.Name x p) [.Constant (.str m) i p2] [] pos)) none pos') (ls g W (dRaiseT ec)) := by
  obtain ⟨hm, q, kC, e1, e2⟩ := h
  refine ps_imp (ps_raise hc tk (pmk_own PySem.F.excBase_ValueError q hm kC (raises_own e1 e2) hg hdb)) fun En σ H ⟨D, Δ, O, F, hT, sr, w, ho⟩ => ?_
  exact ho.xc _ _ _ _ _ _ _ _ hT (Same.refl F) sr w ⟨rfl, [], ⟨fun dd e => (by cases e), fun f w hw => by cases hw⟩, Reps.nil⟩
/-! ## try -/
/-- which errors a clause catches -/
def Cat (g : Gm) (K : PySem.W.Frag) (c : Value) (cat : Ec → Option Bool) : Prop := ∀ ec b, cat ec = some b → PySem.W.exmOne K (.ref (g.ea ec)) c = some b
abbrev DH := Addr → Ec → Option Addr → DS
def dTry (i : Nat) (cat : Ec → Option Bool) (Tb : DS) (Th : DH) : DS := fun D Δ O => Tb { D with xc := fun x Δ1 O1 => match cat x.c with
  | some true => ∀ a d, freshC O1 a → Th a x.c d { nx := fun Δ' O' => D.nx (Δ'.set i none) O', rt := D.rt, bk := fun Δ' O' => D.bk (Δ'.set i none) O', ct := fun Δ' O' => D.ct (Δ'.set i none) O' } (Δ1.set i (some (.xcp a d x.fs x.ds))) O1
  | some false => D.xc x Δ1 O1
  | none => False } Δ O
/-- .. with no name for the error -/
def dTryN (cat : Ec → Option Bool) (Tb : DS) (Th : DH) : DS := fun D Δ O => Tb { D with xc := fun x Δ1 O1 => match cat x.c with
  | some true => ∀ a d, freshC O1 a → Th a x.c d { nx := D.nx, rt := D.rt, bk := D.bk, ct := D.ct } Δ1 O1
  | some false => D.xc x Δ1 O1
  | none => False } Δ O
theorem eok_out {F : Hp} {D : DEnds} {E : Ends} {i : Nat} (h : EOk g F W D E) : EOk g F W0 { nx := fun Δ' O' => D.nx (Δ'.set i none) O', rt := D.rt, bk := fun Δ' O' => D.bk (Δ'.set i none) O', ct := fun Δ' O' => D.ct (Δ'.set i none) O' }
    { nx := fun σ' H' => E.nx (σ'.set i none) H', rt := E.rt, bk := fun σ' H' => E.bk (σ'.set i none) H', ct := fun σ' H' => E.ct (σ'.set i none) H' } :=
  ⟨fun Δ O F' σ H q s sr w => h.nx _ _ _ _ _ q s (sr.setNone i) w, h.rt, fun Δ O F' σ H q s sr w => h.bk _ _ _ _ _ q s (sr.setNone i) w, fun Δ O F' σ H q s sr w => h.ct _ _ _ _ _ q s (sr.setNone i) w, fun _ _ _ _ _ _ _ _ q => q.elim⟩
theorem eok_outN {F : Hp} {D : DEnds} {E : Ends} (h : EOk g F W D E) : EOk g F W0 { nx := D.nx, rt := D.rt, bk := D.bk, ct := D.ct } E :=
  ⟨h.nx, h.rt, h.bk, h.ct, fun _ _ _ _ _ _ _ _ q => q.elim⟩
theorem qs_try (i : Nat) {n : Str} {c : Value} {cat : Ec → Option Bool} {body suite : List Stmt} {b0 : Stmt} {np : Pos} {Tb : DS} {Th : DH} (hN : X.N.Nodup) (hc : Names X x c) (tk : Takes X W) (ct : Cat g X.K c cat)
    (hb : ∀ (W' : WX) (pn : List (Addr × Obj)) (xe : Value → Shared → Prop), Takes (X.tr pn xe) W' → PassesOwn (model X.prog X.w) X.A X.env xe → PSs (X.tr pn xe) body (ls g W' Tb))
    (hsu : ∀ (a : Addr) (oe : Obj) (ec : Ec) (d : Option Addr) (pn : List (Addr × Obj)), Zc (.ref (g.ea ec)) d oe → (∃ vs, oe.data = .fields vs) → PSs (X.suite a ((a, oe) :: pn)) (b0 :: suite) (ls g W0 (Th a ec d)))
    (hi : X.N[i]? = some n := by rfl) (hln : X.env.kindOf n = some .local := by rfl) (hs : X.stack = X.env :: X.outer := by rfl) (hf : X.env.frame = some X.env.locals := by rfl) :
    PS X (.Try body [.ExceptHandler (some (.Name x np)) (some n) (b0 :: suite) pos'] [] [] pos) (ls g W (dTry i cat Tb Th)) := by
  refine ps_imp (ps_try_as (tb := fun W' => ls g W' Tb) (ts := fun a cls d E σ H => ∃ ec, cls = .ref (g.ea ec) ∧ ls g W0 (Th a ec d) E σ H) (i := i) hs hf hN hi hln hc tk hb ?_) fun En σ H ⟨D, Δ, O, F, hT, sr, w, ho⟩ => ?_
  · intro a oe cls d pn hz hv
    refine ⟨fun pins s σ H E I ⟨ec, e, h⟩ => ?_⟩
    subst e
    exact (hsu a oe ec d pn hz hv).run pins s σ H E I h
  · refine ⟨_, Δ, O, F, hT, sr, w, ⟨ho.nx, ho.rt, ho.bk, ho.ct, fun y Δ1 O1 cls dd F1 σ1 H1 hq s1 sr1 w1 rx => ?_⟩⟩
    have hq : (match cat y.c with
      | some true => ∀ a d, freshC O1 a → Th a y.c d { nx := fun Δ' O' => D.nx (Δ'.set i none) O', rt := D.rt, bk := fun Δ' O' => D.bk (Δ'.set i none) O', ct := fun Δ' O' => D.ct (Δ'.set i none) O' } (Δ1.set i (some (.xcp a d y.fs y.ds))) O1
      | some false => D.xc y Δ1 O1
      | none => False) := hq
    split at hq
    · rename_i e
      have em := ct _ _ e
      rw [← rx.1] at em
      refine ⟨true, em, fun _ a ha => ⟨y.c, rx.1, _, _, _, F1, hq a dd (w1.fresh ha), sr1.set (Rep.xcp_iff.mpr ⟨rfl, rx.2⟩) i, w1, eok_out (ho.mono s1)⟩, fun z => by cases z⟩
    · rename_i e
      have em := ct _ _ e
      rw [← rx.1] at em
      exact ⟨false, em, fun z => (by cases z), fun _ => ho.xc _ _ _ _ _ _ _ _ hq s1 sr1 w1 rx⟩
    · exact hq.elim
theorem qs_tryN {c : Value} {cat : Ec → Option Bool} {body suite : List Stmt} {b0 : Stmt} {np : Pos} {Tb : DS} {Th : DH} (hc : Names X x c) (tk : Takes X W) (ct : Cat g X.K c cat)
    (hb : ∀ (W' : WX) (pn : List (Addr × Obj)) (xe : Value → Shared → Prop), Takes (X.tr pn xe) W' → PassesOwn (model X.prog X.w) X.A X.env xe → PSs (X.tr pn xe) body (ls g W' Tb))
    (hsu : ∀ (a : Addr) (oe : Obj) (ec : Ec) (d : Option Addr) (pn : List (Addr × Obj)), Zc (.ref (g.ea ec)) d oe → (∃ vs, oe.data = .fields vs) → PSs (X.suite a ((a, oe) :: pn)) (b0 :: suite) (ls g W0 (Th a ec d)))
    (hs : X.stack = X.env :: X.outer := by rfl) (hf : X.env.frame = some X.env.locals := by rfl) :
    PS X (.Try body [.ExceptHandler (some (.Name x np)) none (b0 :: suite) pos'] [] [] pos) (ls g W (dTryN cat Tb Th)) := by
  refine ps_imp (ps_try_only (tb := fun W' => ls g W' Tb) (ts := fun a cls d E σ H => ∃ ec, cls = .ref (g.ea ec) ∧ ls g W0 (Th a ec d) E σ H) hs hf hc tk hb ?_) fun En σ H ⟨D, Δ, O, F, hT, sr, w, ho⟩ => ?_
  · intro a oe cls d pn hz hv
    refine ⟨fun pins s σ H E I ⟨ec, e, h⟩ => ?_⟩
    subst e
    exact (hsu a oe ec d pn hz hv).run pins s σ H E I h
  · refine ⟨_, Δ, O, F, hT, sr, w, ⟨ho.nx, ho.rt, ho.bk, ho.ct, fun y Δ1 O1 cls dd F1 σ1 H1 hq s1 sr1 w1 rx => ?_⟩⟩
    have hq : (match cat y.c with
      | some true => ∀ a d, freshC O1 a → Th a y.c d { nx := D.nx, rt := D.rt, bk := D.bk, ct := D.ct } Δ1 O1
      | some false => D.xc y Δ1 O1
      | none => False) := hq
    split at hq
    · rename_i e
      have em := ct _ _ e
      rw [← rx.1] at em
      refine ⟨true, em, fun _ a ha => ⟨y.c, rx.1, _, _, _, F1, hq a dd (w1.fresh ha), sr1, w1, eok_outN (ho.mono s1)⟩, fun z => by cases z⟩
    · rename_i e
      have em := ct _ _ e
      rw [← rx.1] at em
      exact ⟨false, em, fun z => (by cases z), fun _ => ho.xc _ _ _ _ _ _ _ _ hq s1 sr1 w1 rx⟩
    · exact hq.elim
/-- e.f, e the error that is handled -/
def dXf (cs : List Ec) (f : Fd) (a : Addr) (ec : Ec) (d : Option Addr) (T : DE) : DE := fun Δ O P E => T Δ O (fun v O1 => match v with
  | .xcp a' d' fs ds => a' = a ∧ d' = d ∧ ec ∈ cs ∧ (match getF f fs ds with | some e => P e O1 | none => False)
  | _ => False) E
structure XFl (g : Gm) (cs : List Ec) (f : Fd) : Prop where
  cl : ∀ c ∈ cs, XfC g.K (g.ea c)
  no : ∀ c ∈ cs, PySem.W.findIn g.K (.ref (g.ea c)) f.str = some none
theorem q_xf {cs : List Ec} {f : Fd} {q : Addr} {oe : Obj} {ec : Ec} {d : Option Addr} {pn : List (Addr × Obj)} (A : XFl g cs f) (hz : Zc (.ref (g.ea ec)) d oe) (hv : ∃ vs, oe.data = .fields vs) (ha : PE (X.suite q ((q, oe) :: pn)) a (le g W Ta)) (hx : x = f.str := by rfl) (hK : X.K = g.K := by rfl)
    (hb : attributeBase a x X.env (eval a X.env) = eval a X.env := by rfl) : PE (X.suite q ((q, oe) :: pn)) (.Attribute a x pos) (le g W (dXf cs f q ec d Ta)) := by
  subst hx
  by_cases hec : ec ∈ cs
  · refine pe_imp (pe_xf (by rw [hK]; exact A.cl ec hec) (by rw [hK]; exact A.no ec hec) hz hv ha hb) fun σ H Q h => ?_
    obtain ⟨Δ, O, P, E, F, hT, sr, w, hv, hx⟩ := h
    refine le_bind hT sr w hx fun v O1 vv F1 H1 hT1 s1 sr1 w1 rx hx1 => ?_
    cases v with
    | xcp a' d' fs ds =>
      obtain ⟨e1, e2, _, hT1⟩ := hT1
      subst e1
      subst e2
      obtain ⟨ev, vs, hxf, rs⟩ := Rep.xcp_iff.mp rx
      subst ev
      split at hT1
      · rename_i e eg
        obtain ⟨u, hu, ru⟩ := getF_look rs eg
        obtain ⟨dd, vfs, h1, h2, h3⟩ := hxf.2 _ _ hu
        exact ⟨rfl, rfl, dd, vfs, u, h1, w1.same _ _ h2, h3, hv _ _ _ _ _ hT1 s1 w1 ru⟩
      · exact hT1.elim
    | _ => exact hT1.elim
  · refine ⟨fun pins s σ H Q I h => ?_⟩
    obtain ⟨Δ, O, P, E, F, hT, sr, w, hv', hx⟩ := h
    refine attr_of hb (thn (ha.run pins s σ H (fun _ _ => False) I ?_) fun u s1 ⟨_, _, _, _, z⟩ => z.elim)
    refine le_bind hT sr w hx fun v O1 vv F1 H1 hT1 s1 sr1 w1 rx hx1 => ?_
    cases v with
    | xcp a' d' fs ds => exact absurd hT1.2.2.1 hec
    | _ => exact hT1.elim
/-- isinstance(e, C), e the error that is handled -/
structure XIs (K : PySem.W.Frag) (C : Addr) : Prop where
  xf : XfC K C
  ha : PySem.W.findIn K (.ref C) "__class__" = some (some (.builtin "object.__class__"))
  hn : PySem.W.specialIn K (.builtin "object.__class__") "__get__" = some (some (.builtin "getset_descriptor.__get__"))
  ht : PySem.W.takesIn K (.builtin "object.__class__") = some true
  hm : PySem.W.mroIn K C (.type "object") = some true
theorem call_isX {qa C : Addr} {oe : Obj} {d : Option Addr} {pn : List (Addr × Obj)} (T : XIs X.K C) (hz : Zc (.ref C) d oe) (hf : ∃ vs, oe.data = .fields vs) : CallR (X.suite qa ((qa, oe) :: pn)) (.builtin "isinstance")
    (fun xs H Q => ∃ (c : V) (cv : Value) (b : Bool), xs = [.ref qa, c] ∧ (∀ u, RelV c u → u = cv) ∧ PySem.W.kitOne X.K (.ref C) cv = some b ∧ (∀ dd, d = some dd → ∃ vfs, H dd = some (.xd vfs)) ∧ Q (.bl b) H) := by
  intro pins s σ H xs us Q I r h
  obtain ⟨c, cv, b, rfl, hcv, e, hd, q⟩ := h
  cases r with
  | cons rx rr =>
    cases rr with
    | cons rt rr =>
      cases rr
      cases rx
      have ec := hcv _ rt
      subst ec
      obtain ⟨hget, _⟩ := I.pin (qa, oe) (List.mem_append.mpr (.inl List.mem_cons_self))
      obtain ⟨vs, hv⟩ := hf
      obtain ⟨cdc, hcc, _⟩ := PySem.W.any_some T.xf.hdC
      have J : ∃ od, PySem.W.InstAt s.heap qa oe C od := by
        obtain ⟨oc, odd, oda, osl⟩ := oe
        obtain ⟨h1, h2⟩ := hz
        dsimp only at h1 h2 hv
        subst h1 h2 hv
        cases odd with
        | none => exact ⟨none, hget, rfl, rfl, trivial⟩
        | some dd =>
          obtain ⟨vfs, hvf⟩ := hd dd rfl
          have hx : ObjOk X.prog X.w H s.heap dd (.xd vfs) := I.hok dd _ hvf
          obtain ⟨mA, ⟨o, es, ep, ho, hr⟩, _⟩ := hx
          exact ⟨some o, hget, rfl, rfl, ho⟩
      obtain ⟨od, J⟩ := J
      exact PySem.W.kia_one (PySem.W.kitx_exc (by rw [hcc]; rfl) T.xf.ga T.xf.gg T.xf.exC T.ha T.hn T.ht T.hm) I.kIn J e (fun z => nomatch z) fun tk => ⟨.bl b, H, I.kept (t' := tk) fun _ _ z => z, rfl, q⟩
def dIsX (tab : Ec → Option Bool) (q : Addr) (ec : Ec) (d : Option Addr) (T : DE) : DE := fun Δ O P E => T Δ O (fun v O1 => match v with
  | .xcp a' d' _ _ => a' = q ∧ d' = d ∧ (match tab ec with | some b => P (.bl b) O1 | none => False)
  | _ => False) E
/-- the answers of isinstance(e, C), by the class of e -/
structure IsTab (g : Gm) (cv : Value) (tab : Ec → Option Bool) : Prop where
  xi : ∀ ec b, tab ec = some b → XIs g.K (g.ea ec)
  ki : ∀ ec b, tab ec = some b → PySem.W.kitOne g.K (.ref (g.ea ec)) cv = some b
theorem q_isX {tab : Ec → Option Bool} {q : Addr} {oe : Obj} {ec : Ec} {d : Option Addr} {pn : List (Addr × Obj)} {n : Str} {p3 : Pos} {cv : Value} {vv : V} (A : IsTab g cv tab) (hz : Zc (.ref (g.ea ec)) d oe) (hf : ∃ vs, oe.data = .fields vs) (hm : X.mg "isinstance" = none)
    (ha : PE (X.suite q ((q, oe) :: pn)) a (le g W Ta)) (hb : PE (X.suite q ((q, oe) :: pn)) (.Name n p3) (tC vv)) (hvv : ∀ u, RelV vv u → u = cv) (hK : X.K = g.K := by rfl) (hg : Gl X "isinstance" := by rfl)
    (hs : starEach (a :: [.Name n p3]) X.env = (false, eval a X.env) :: starEach [.Name n p3] X.env := by rfl) (hs' : starEach [.Name n p3] X.env = (false, eval (.Name n p3) X.env) :: starEach [] X.env := by rfl) (hpl : (backTo pos (starEach [.Name n p3] X.env)).any (·.1) = false := by rfl) :
    PE (X.suite q ((q, oe) :: pn)) (.Call (.Name "isinstance" p) [a, .Name n p3] [] pos) (le g W (dIsX tab q ec d Ta)) := by
  cases et : tab ec with
  | some b =>
    have T : XIs X.K (g.ea ec) := by rw [hK]; exact A.xi ec b et
    have ek : PySem.W.kitOne X.K (.ref (g.ea ec)) cv = some b := by rw [hK]; exact A.ki ec b et
    refine pe_imp (pe_callB (X := X.suite q ((q, oe) :: pn)) (call_isX T hz hf) hg hm (by decide +kernel) (pa_cons ha (pa_cons hb pa_nil hs') hs) (by decide) (by decide) hs hpl) fun σ H Q h => ?_
    obtain ⟨Δ, O, P, E, F, hT, sr, w, hv, hx⟩ := h
    refine le_bind hT sr w hx fun v O1 vv' F1 H1 hT1 s1 sr1 w1 rx hx1 => ?_
    cases v with
    | xcp a' d' fs ds =>
      obtain ⟨e1, e2, hT1⟩ := hT1
      subst e1
      subst e2
      obtain ⟨ev, vs, hxf, rs⟩ := Rep.xcp_iff.mp rx
      subst ev
      rw [et] at hT1
      refine ⟨vv, cv, b, rfl, hvv, ek, fun dd e => ?_, hv _ _ _ _ _ hT1 s1 w1 rbl⟩
      obtain ⟨vfs, h1⟩ := hxf.1 dd e
      exact ⟨vfs, w1.same _ _ h1⟩
    | _ => exact hT1.elim
  | none =>
    refine ⟨fun pins s σ H Q I h => ?_⟩
    obtain ⟨Δ, O, P, E, F, hT, sr, w, hv, hx⟩ := h
    have no : le g W Ta σ H (fun _ _ => False) := le_bind hT sr w hx fun v O1 vv F1 H1 hT1 s1 sr1 w1 rx hx1 => by
      cases v with
      | xcp a' d' fs ds => rw [et] at hT1; exact hT1.2.2.elim
      | _ => exact hT1.elim
    refine (pe_callB (X := X.suite q ((q, oe) :: pn)) (id := "isinstance") (r := fun _ _ _ => False) (fun _ _ _ _ _ _ _ _ _ z => z.elim) hg hm (by decide +kernel) (pa_cons ha (pa_cons hb pa_nil hs') hs) (by decide) (by decide) hs hpl).run pins s σ H Q I ?_
    exact ⟨_, _, _, _, _, hT, sr, w, fun d O v F1 H1 hd s1 w1 r1 => by
      cases d with
      | xcp a' d' fs ds => rw [et] at hd; exact hd.2.2.elim
      | _ => exact hd.elim, hx⟩
end
end G

set_option Elab.async false
set_option linter.all false
set_option maxRecDepth 100000
set_option maxHeartbeats 4000000
namespace G
open PySem L2
/-! ## types of data, isinstance of an own class -/
inductive Tg where
  | b (s : String) | c (cl : Cl)
  deriving DecidableEq
def Tg.val (g : Gm) : Tg → Value
  | .b s => .type s
  | .c cl => .ref (g.ca cl)
def tgD (O : Sto) (d : D) : Option Tg := match d with
  | .tup _ => some (.b "tuple")
  | .obj c _ _ => some (.c c)
  | .ptr q => (match getC O q with | some (.ins c _ _) => some (.c c) | some (.lst _) => some (.b "list") | some (.dic _ _) => some (.b "dict") | _ => none)
  | d => (tyD O d).map Tg.b
structure OwnTy (g : Gm) (c : Cl) : Prop where
  cl : Cls g.K (g.ca c)
  ha : PySem.W.findIn g.K (.ref (g.ca c)) "__class__" = some (some (.builtin "object.__class__"))
  hn : PySem.W.specialIn g.K (.builtin "object.__class__") "__get__" = some (some (.builtin "getset_descriptor.__get__"))
  ht : PySem.W.takesIn g.K (.builtin "object.__class__") = some true
  hm : PySem.W.mroIn g.K (g.ca c) (.type "object") = some true
section
variable {g : Gm}
theorem sqt_ty {K : PySem.W.Frag} {H : Hp} {a : Addr} {vs : List V} (h : SqT K H a vs) : TyX K H (.ref a) (.type "tuple") := by
  rcases h with (h | ⟨o, h⟩) | h
  · exact .base (.tup h)
  · exact .fTuple h
  · obtain ⟨o, h1, h2⟩ : ∃ o, K.lookup a = some o ∧ o.cls = .type "tuple" := by
      obtain ⟨o, us, n, h1, h2, h3⟩ := h
      exact ⟨o, h1, h2⟩
    exact .kTuple h1 h2
theorem tg_of {F : Hp} {O : Sto} {H : Hp} {d : D} {v : V} {t : Tg} (h : tgD O d = some t) (r : Rep g F d v) (w : Wd g F O H) (ow : ∀ c, t = .c c → OwnTy g c) : TyX g.K H v (t.val g) := by
  have ins : ∀ {a dx : Addr} {fs : List (Str × V)} {c : Cl}, OwnTy g c → H a = some (.ins (g.ca c) dx fs) → TyX g.K H (.ref a) (.ref (g.ca c)) := fun o e => .base (.ins e o.cl o.ha o.hn o.ht o.hm)
  cases d with
  | tup ds =>
    cases h
    obtain ⟨q, vs, rfl, h3, h4⟩ := Rep.tup_sq r
    exact sqt_ty (sqt_same w.same h3)
  | obj c fs ds =>
    cases h
    obtain ⟨p, dx, vs, rfl, h1, h2, h3⟩ := Rep.obj_iff.mp r
    exact ins (ow c rfl) (w.same _ _ h1)
  | ptr q =>
    rw [Rep.ptr_iff] at r
    subst r
    simp only [tgD] at h
    split at h
    · rename_i c fs ds eg
      cases h
      obtain ⟨_, ob, h3, h4⟩ := w.get eg
      cases ob with
      | ins C dx vfs =>
        obtain ⟨h5, _⟩ := h4
        subst h5
        exact ins (ow c rfl) h3
      | _ => exact h4.elim
    · rename_i ds eg
      cases h
      exact ty_of (O := O) (d := .ptr q) (by simp only [tyD, eg]) (Rep.ptr_iff.mpr rfl) w
    · rename_i ks ds eg
      cases h
      exact ty_of (O := O) (d := .ptr q) (by simp only [tyD, eg]) (Rep.ptr_iff.mpr rfl) w
    · cases h
  | non => cases h; exact ty_of (O := O) rfl r w
  | bl b => cases h; exact ty_of (O := O) rfl r w
  | int b => cases h; exact ty_of (O := O) rfl r w
  | str b => cases h; exact ty_of (O := O) rfl r w
  | lst b => cases h; exact ty_of (O := O) rfl r w
  | dic b c => cases h; exact ty_of (O := O) rfl r w
  | scr b => cases h
  | xcp _ _ _ _ => cases h
end
def dIsO (tab : Tg → Option Bool) (T : DE) : DE := fun Δ O P E => T Δ O (fun d O1 => match tgD O1 d with
  | some t => (match tab t with | some b => P (.bl b) O1 | none => False)
  | none => False) E
structure IsO (g : Gm) (cv : Value) (tab : Tg → Option Bool) : Prop where
  own : ∀ c b, tab (.c c) = some b → OwnTy g c
  ki : ∀ t b, tab t = some b → PySem.W.kitOne g.K (t.val g) cv = some b
section
variable {g : Gm} {X : Cx} {W : WX} {pos pos' p q apos : Pos} {a b c o : Expr} {es : List Expr} {Ta Tb : DE} {R : DA} {k j : Nat} {f : Addr} {S : DSp} {x m : Str} {tab : List (Cl × DSp)}
theorem q_isO {tb : Tg → Option Bool} {C : Addr} (A : IsO g (.ref C) tb) (hm : X.mg "isinstance" = none) (hm' : X.mg x = some (.ref C)) (ha : PE X a (le g W Ta)) (hg : Gl X "isinstance" := by rfl) (hg' : Gl X x := by rfl)
    (hd : (x == ("__debug__" : Str)) = false := by decide) (hK : X.K = g.K := by rfl)
    (hs : starEach (a :: [.Name x q]) X.env = (false, eval a X.env) :: starEach [.Name x q] X.env := by rfl) (hs' : starEach [.Name x q] X.env = (false, eval (.Name x q) X.env) :: starEach [] X.env := by rfl) (hpl : (backTo pos (starEach [.Name x q] X.env)).any (·.1) = false := by rfl) :
    PE X (.Call (.Name "isinstance" p) [a, .Name x q] [] pos) (le g W (dIsO tb Ta)) := by
  have hb : PE X (.Name x q) (tC (.ref C)) := pe_glob hg' hm' rfl hd
  refine pe_imp (pe_callB call_isi hg hm (by decide +kernel) (pa_cons ha (pa_cons hb pa_nil hs') hs) (by decide) (by decide) hs hpl) fun σ H Q h => ?_
  obtain ⟨Δ, O, P, E, F, hT, sr, w, hv, hx⟩ := h
  refine le_bind hT sr w hx fun d O1 v F1 H1 hT1 s1 sr1 w1 rx hx1 => ?_
  split at hT1
  · rename_i t e
    split at hT1
    · rename_i kb ek
      refine ⟨v, .ref C, t.val g, .ref C, kb, rfl, .own C, by rw [hK]; exact tg_of e rx w1 fun c ec => A.own c kb (ec ▸ ek), by rw [hK]; exact A.ki t kb ek, (hv.mono s1).now hT1 w1 rbl⟩
    · exact hT1.elim
  · exact hT1.elim
/-! ## own operators -/
theorem back_of {z : V} {r : Value} {s : Shared} {Q : Value → Shared → Prop} (h : RelV z r) (q : Q r s) : PySem.W.CmpBack Q r s := by
  cases r <;> first | exact q | (exfalso; cases z <;> first | (obtain ⟨_, h⟩ := h; cases h; done) | cases h | exact h.elim)
/-- the operator's name, the class of the left operand: the def that serves it -/
def dBin (tab : List (Cl × DSp)) (ok : Cl → Sto → D → Prop) (Ta Tb : DE) : DE := fun Δ O P E => Ta Δ O (fun x O1 => Tb Δ O1 (fun y O2 => match clsOf O2 x with
  | some c => (match tabAt tab c with | some S => ok c O2 y ∧ S [x, y] O2 P E | none => False)
  | none => False) E) E
/-- the right operand is of the same class -/
def okSame (c : Cl) (O : Sto) (y : D) : Prop := clsOf O y = some c
/-- the right operand is a whole number -/
def okInt (_ : Cl) (_ : Sto) (y : D) : Prop := ∃ i, y = .int i
def OwnB (g : Gm) (W : WX) (σ : St) (tab : List (Cl × DSp)) (ok : Cl → V → Hp → Prop) (v u : V) (H : Hp) (Q : VK) : Prop := ∃ c q dx fs S, v = .ref q ∧ H q = some (.ins (g.ca c) dx fs) ∧ tabAt tab c = some S ∧ ok c u H ∧ toSp g S [v, u] H Q fun cls dd H' => W cls dd σ H'
theorem own_b {ok : Cl → Sto → D → Prop} {ok' : Cl → V → Hp → Prop} {σ : St} {H1 : Hp} {Q : VK} {P : KD} {E : KX} {F F1 : Hp} {O1 : Sto} {x y : D} {v u : V} (h : match clsOf O1 x with | some c => (match tabAt tab c with | some S => ok c O1 y ∧ S [x, y] O1 P E | none => False) | none => False)
    (lk : ∀ c, ok c O1 y → ok' c u H1) (rx : Rep g F1 x v) (ry : Rep g F1 y u) (w1 : Wd g F1 O1 H1) (hv : VOk g F P Q) (s1 : Same F F1) (hx : XOk g F1 W σ E) : OwnB g W σ tab ok' v u H1 Q := by
  split at h
  · rename_i c e
    obtain ⟨q, dx, fs, rfl, h1, _⟩ := obj_look (m := "__contains__") e rx w1 (by decide +kernel)
    split at h
    · rename_i S eS
      exact ⟨c, q, dx, fs, S, rfl, h1, eS, lk c h.1, sp_of h.2 (Reps.cons rx (Reps.one ry)) w1 hv s1 hx⟩
    · exact h.elim
  · exact h.elim
/-- its classes come first in their own order -/
def First (g : Gm) (K : PySem.W.Frag) (tab : List (Cl × DSp)) : Prop := ∀ c S, tabAt tab c = some S → PySem.W.selfFirst K (g.ca c) = true
theorem q_binS {op : Operator} {nm : Str} (M : MTab g X.prog X.w X.K X.mg X.base k nm tab) (Fi : First g X.K tab) (hr : Room j X.A) (tk : Takes X W) (ha : PE X a (le g W Ta)) (hb : PE X b (le g W Tb)) (hn : nm = PySem.dunder op.info.2 := by rfl) (hkj : k ≤ j := by decide) :
    PE X (.BinOp a op b pos) (le g W (dBin tab okSame Ta Tb)) := by
  subst hn
  refine ⟨fun pins s σ H Q I h => ?_⟩
  obtain ⟨Δ, O, P, E, F, hT, sr, w, hv, hx⟩ := h
  refine wpAny_BinOp (binT ha hb (R := fun x y H2 => OwnB g W σ tab (fun c u H => ∃ q dx fs, u = .ref q ∧ H q = some (.ins (g.ca c) dx fs)) x y H2 Q) I (le_bind hT sr w hx fun x O1 vx F1 H1 hT1 s1 sr1 w1 rx hx1 => le_bind hT1 sr1 w1 hx1 fun y O2 vy F2 H2 hT2 s2 sr2 w2 ry hx2 => ?_) fun v u s2 x y H2 I2 rx ry q => ?_)
  · refine own_b hT2 (fun c e => ?_) (rx.mono s2) ry w2 hv (s1.trans s2) hx2
    obtain ⟨q, dx, fs, e1, e2, _⟩ := obj_look (m := "__contains__") e ry w2 (by decide +kernel)
    exact ⟨q, dx, fs, e1, e2⟩
  · obtain ⟨c, qa, dx, fs, S, rfl, eq, eS, ⟨qb, dy, gs, rfl, eb⟩, hS⟩ := q
    obtain rfl : v = Value.ref qa := rx
    obtain rfl : u = Value.ref qb := ry
    obtain ⟨cls, f, mt, Fn⟩ := M c S eS
    obtain ⟨ox, od, J⟩ := inst_of I2 eq
    obtain ⟨oy, ody, J'⟩ := inst_of I2 eb
    obtain ⟨m, fr⟩ := I2.fr
    refine PySem.W.binop_K fr I2.ok.mod.kin J J'.type (Fi c S eS) mt.at_ mt.fn (thn (wpAny_call (run_FN (us := [.ref qa, .ref qb]) (vs := [.ref qa, .ref qb]) Fn (hr.mono hkj) tk I2 (.cons rfl (.cons rfl .nil)) hS)) fun r s3 z => ?_)
    obtain ⟨zz, H3, I3, rz, q3⟩ := z
    exact back_of (Q := EP X pins σ Q) rz ⟨zz, H3, I3, rz, q3⟩
/-- what int says of an operator, beside an own class -/
structure IntBin (K : PySem.W.Frag) (C : Addr) (op : Operator) : Prop where
  hr : ∃ rc, PySem.W.findIn K (.ref C) (dunderR op.info.2) = some rc ∧ (rc = none ∨ ∃ g : Addr, rc = some (.ref g))
  h1 : ∃ fo, PySem.W.findIn K (.type "int") (PySem.dunder op.info.2) = some fo
  h2 : ∃ ro, PySem.W.findIn K (.type "int") (dunderR op.info.2) = some ro
  hs : PySem.W.subIn K (.type "int") (.ref C) = some false
theorem q_binI {op : Operator} {nm : Str} (M : MTab g X.prog X.w X.K X.mg X.base k nm tab) (Fi : First g X.K tab) (Ib : ∀ c S, tabAt tab c = some S → IntBin X.K (g.ca c) op) (hr : Room j X.A) (tk : Takes X W) (ha : PE X a (le g W Ta)) (hb : PE X b (le g W Tb)) (hn : nm = PySem.dunder op.info.2 := by rfl) (hkj : k ≤ j := by decide) :
    PE X (.BinOp a op b pos) (le g W (dBin tab okInt Ta Tb)) := by
  subst hn
  refine ⟨fun pins s σ H Q I h => ?_⟩
  obtain ⟨Δ, O, P, E, F, hT, sr, w, hv, hx⟩ := h
  refine wpAny_BinOp (binT ha hb (R := fun x y H2 => OwnB g W σ tab (fun c u H => ∃ i, u = .int i) x y H2 Q) I (le_bind hT sr w hx fun x O1 vx F1 H1 hT1 s1 sr1 w1 rx hx1 => le_bind hT1 sr1 w1 hx1 fun y O2 vy F2 H2 hT2 s2 sr2 w2 ry hx2 => ?_) fun v u s2 x y H2 I2 rx ry q => ?_)
  · refine own_b hT2 (fun c e => ?_) (rx.mono s2) ry w2 hv (s1.trans s2) hx2
    obtain ⟨i, rfl⟩ := e
    exact ⟨i, Rep.int_iff.mp ry⟩
  · obtain ⟨c, qa, dx, fs, S, rfl, eq, eS, ⟨i, rfl⟩, hS⟩ := q
    obtain rfl : v = Value.ref qa := rx
    obtain ⟨ti, rfl⟩ := ry
    obtain ⟨cls, f, mt, Fn⟩ := M c S eS
    obtain ⟨ox, od, J⟩ := inst_of I2 eq
    obtain ⟨m, fr⟩ := I2.fr
    have ib := Ib c S eS
    obtain ⟨rc, hrc, hp⟩ := ib.hr
    obtain ⟨fo, h1⟩ := ib.h1
    obtain ⟨ro, h2⟩ := ib.h2
    refine PySem.W.ksp_binT fr I2.ok.mod.kin J (show typeOf (.int i ti) = pure (.type "int") from rfl) (Fi c S eS) mt.at_ mt.fn hrc hp h1 h2 ib.hs (thn (wpAny_call (run_FN (us := [.ref qa, .int i ti]) (vs := [.ref qa, .int i]) Fn (hr.mono hkj) tk I2 (.cons rfl (.cons ⟨ti, rfl⟩ .nil)) hS)) fun r s3 z => ?_)
    obtain ⟨zz, H3, I3, rz, q3⟩ := z
    exact back_of (Q := EP X pins σ Q) rz ⟨zz, H3, I3, rz, q3⟩
def dUno (tab : List (Cl × DSp)) (Ta : DE) : DE := fun Δ O P E => Ta Δ O (fun x O1 => match clsOf O1 x with
  | some c => (match tabAt tab c with | some S => S [x] O1 P E | none => False)
  | none => False) E
theorem q_negOwn (M : MTab g X.prog X.w X.K X.mg X.base k "__neg__" tab) (hr : Room j X.A) (tk : Takes X W) (ha : PE X a (le g W Ta)) (hkj : k ≤ j := by decide) : PE X (.UnaryOp .USub a pos) (le g W (dUno tab Ta)) := by
  refine ⟨fun pins s σ H Q I h => ?_⟩
  obtain ⟨Δ, O, P, E, F, hT, sr, w, hv, hx⟩ := h
  refine PyProof.Rows.UnaryOp_ (thn (ha.run pins s σ H (fun y H2 => OwnAt g W σ tab y [] H2 Q) I (le_bind hT sr w hx fun x O1 vx F1 H1 hT1 s1 sr1 w1 rx hx1 => own_at hT1 rx Reps.nil w1 hv s1 hx1)) fun v s1 ⟨y, H1, I1, r1, q1⟩ => ?_)
  obtain ⟨c, qa, dx, fs, S, rfl, eq, eS, hS⟩ := q1
  obtain rfl : v = Value.ref qa := r1
  obtain ⟨cls, f, mt, Fn⟩ := M c S eS
  obtain ⟨ox, od, J⟩ := inst_of I1 eq
  obtain ⟨m, fr⟩ := I1.fr
  exact PySem.W.ksp_neg fr I1.ok.mod.kin J mt.at_ mt.fn (wpAny_call (run_FN (us := [.ref qa]) (vs := [.ref qa]) Fn (hr.mono hkj) tk I1 (.cons rfl .nil) hS))
end
end G

set_option Elab.async false
set_option linter.all false
set_option maxRecDepth 100000
set_option maxHeartbeats 4000000
namespace G
open PySem L2
/-! ## == and != by an own __eq__ -/
section
variable {prog : Program} {w : World} {M : Model} {A : Around} {E : Value → Shared → Prop} {s : Shared} {K : PySem.W.Frag} {x C f : Addr} {ox : Obj} {od : Option Obj} {b tb : Value}
theorem objNe_bound {args : List Value} {Q : Option Value → Shared → Prop} (X : K.In s.heap) (I : PySem.W.InstAt s.heap x ox C od) (hs : PySem.W.findIn K (.ref C) "__ne__" = some (some (.builtin "object.__ne__")))
    (h : wpAny M A (call (.builtin "object.__ne__") (.ref x :: args)) (fun v => Q (some v)) E s) : wpAny M A (callSpecialIfBound? (.ref x) "__ne__" args) Q E s := by
  simp only [callSpecialIfBound?, bindSpecialIfBound?]
  refine wpAny_holding (wpAny_bind (wpAny_bind (wpAny_bind (I.type.here ((PySem.W.looks_findIn X hs).here ?_)))))
  refine wpAny_bind (wpAny_askSetting (wpAny_ite ?_))
  have fin : wpAny M A (call (.builtin "object.__ne__") ([.ref x] ++ args) >>= fun v => pure (some v)) Q E s := wpAny_bind (wpAny_mono h (fun v s' h' => wpAny_pure h') fun _ _ h' => h')
  split
  · exact wpAny_bind (wpAny_of_eq (F.cmp_object.ne.bind _) (wpAny_pure (by exact fin)))
  · exact wpAny_tryCatch (wpAny_bind (wpAny_of_eq (F.cmp_object.ne.bind _) (wpAny_pure (by exact fin))))
/-- x != b, x's class has an __eq__ of its own and no __ne__ -/
theorem ne_own {Q : Value → Shared → Prop} (hu : A.units + 1 < cLine) (X : K.In s.heap) (I : PySem.W.InstAt s.heap x ox C od) (hb : PySem.W.Looks (model prog w) s.heap (typeOf b) tb) (hn : PySem.W.notFirst K C tb = true)
    (hs : PySem.W.findIn K (.ref C) "__ne__" = some (some (.builtin "object.__ne__"))) (he : PySem.W.findIn K (.ref C) "__eq__" = some (some (.ref f))) (hf : PySem.W.isFn K (.ref f) = true) (hm : PySem.W.mroIn K C (.type "object") = some true)
    (h : wpAny (model prog w) A.in1 (call (.ref f) [.ref x, b]) (fun v s' => ∃ k, v = .bool k ∧ Q (.bool (!k)) s') E s) : wpAny (model prog w) A (richCompare .NotEq (.ref x) b) Q E s := by
  have ent : wpAny (model prog w) A.in1 (Builtin.«object.__ne__» ⟨[.ref x, b], []⟩) (fun fin s' => match fin with | .done f => (match f with | .ret v => ∃ k, v = .bool k ∧ Q v s' | _ => False) | .again c => False) E s := by
    unfold Builtin.«object.__ne__»
    refine wpAny_bind (wpAny_of_eq (a := ((Value.ref x : Value), [b])) (by first | rfl | (simp only [slotArgs]; rfl)) ?_)
    refine wpAny_bind (wpAny_cRoomFor (by show A.units + 1 < _; exact hu) ?_)
    refine wpAny_bind (PySem.W.ifBound_K X I he hf (wpAny_mono h (fun v s' hv => ?_) fun _ _ e => e))
    obtain ⟨k, rfl, hq⟩ := hv
    show wpAny _ _ (truthy (.bool k) >>= fun t => ret (.bool (!t))) _ _ _
    exact wpAny_bind (wpAny_truthy_bool (wpAny_pure ⟨!k, rfl, hq⟩))
  have one : wpAny (model prog w) A (tryCompare (.ref x) "__ne__" b) (fun r s' => ∃ v, r = some v ∧ Q v s') E s := by
    unfold tryCompare
    refine wpAny_bind (objNe_bound X I hs (wpAny_call (codeAny_call_builtin F.cmp_object.ne.plain F.cmpEntry_ne (PySem.W.check_slot F.cmpKind_ne F.cmpSplit_ne (I.type.andThen (PySem.W.looks_mroIn X hm)) (F.cmpArgs_ne _ _) (wpAny_mono ent (fun fin s' z => ?_) fun _ _ e => e)))))
    cases fin with
    | done fl =>
      cases fl with
      | ret v =>
        obtain ⟨k, rfl, hq⟩ := z
        exact wpAny_pure ⟨_, rfl, hq⟩
      | next => exact z.elim
      | brk => exact z.elim
      | cont => exact z.elim
    | again c => exact z.elim
  unfold richCompare
  simp only [oneThing_ref]
  refine wpAny_holding (wpAny_bind (wpAny_cRoomFor (by omega) ?_))
  refine wpAny_bind (I.type.here (wpAny_bind (hb.here ?_)))
  split
  · rename_i q
    have e : PySem.W.subIn K tb (.ref C) = some false := by
      rcases Bool.or_eq_true_iff.mp hn with e | e
      · rw [beq_iff_eq.mp e] at q; simp at q
      · exact beq_iff_eq.mp e
    refine wpAny_bind ((PySem.W.looks_subIn X e).here ?_)
    simp only [Bool.false_eq_true, if_false]
    refine wpAny_bind (m := tryCompare (.ref x) _ b) (wpAny_mono one (fun r s' z => ?_) fun _ _ e => e)
    obtain ⟨v, rfl, hq⟩ := z
    exact wpAny_pure hq
  · refine wpAny_bind (wpAny_pure ?_)
    simp only [Bool.false_eq_true, if_false]
    refine wpAny_bind (m := tryCompare (.ref x) _ b) (wpAny_mono one (fun r s' z => ?_) fun _ _ e => e)
    obtain ⟨v, rfl, hq⟩ := z
    exact wpAny_pure hq
end
/-- x == y, x of an own class: nf tells which classes may stand at the right -/
def dEqOwn (neg : Bool) (tab : List (Cl × DSp)) (nf : Cl → Tg → Bool) (Ta Tb : DE) : DE := fun Δ O P E => Ta Δ O (fun x O1 => Tb Δ O1 (fun y O2 => match clsOf O2 x, tgD O2 y with
  | some c, some t => (match tabAt tab c with | some S => nf c t = true ∧ S [x, y] O2 (boolK fun k O3 => P (.bl (if neg = true then !k else k)) O3) E | none => False)
  | _, _ => False) E) E
structure NotF (g : Gm) (tab : List (Cl × DSp)) (nf : Cl → Tg → Bool) : Prop where
  notf : ∀ c t, nf c t = true → PySem.W.notFirst g.K (g.ca c) (t.val g) = true
  own : ∀ c c', nf c (.c c') = true → OwnTy g c'
/-- .. and for != -/
structure NeF (g : Gm) (tab : List (Cl × DSp)) : Prop where
  ne : ∀ c S, tabAt tab c = some S → PySem.W.findIn g.K (.ref (g.ca c)) "__ne__" = some (some (.builtin "object.__ne__"))
  mr : ∀ c S, tabAt tab c = some S → PySem.W.mroIn g.K (g.ca c) (.type "object") = some true
section
variable {g : Gm} {X : Cx} {W : WX} {pos pos' p apos : Pos} {a b c o : Expr} {es : List Expr} {Ta Tb : DE} {R : DA} {k j : Nat} {f : Addr} {S : DSp} {x m : Str} {tab : List (Cl × DSp)}
theorem run_FNa {A : Around} {pins : List (Addr × Obj)} {σ : St} {H : Hp} {s : Shared} {Q : VK} {us : List Value} {vs : List V} (Fn : FN g X.prog X.w X.K X.mg X.base k f S) (hr : Room k A) (tk : Takes X W) (I : Inv X pins σ H s) (e0 : Env0 X.prog X.w X.K X.mg X.base A X.stack s H) (r : Vals vs us)
    (h : toSp g S vs H Q (fun cls dd H' => W cls dd σ H')) : codeAny (model X.prog X.w) A (.call (.ref f) ⟨us, []⟩) (fun r s' => match r with | .ok (.ret v) => EP X pins σ Q v s' | .ok _ => False | .error e => X.xe e s') s := by
  refine codeAny_mono (Fn A X.stack s H us vs Q _ hr e0 r h) fun r s' hq => ?_
  cases r with
  | error e => exact passAt tk σ pins H s e s' I hq
  | ok fl =>
    cases fl with
    | ret u => exact I.after hq
    | next => exact False.elim hq
    | brk => exact False.elim hq
    | cont => exact False.elim hq
def EqAtO (g : Gm) (W : WX) (σ : St) (tab : List (Cl × DSp)) (nf : Cl → Tg → Bool) (K : PySem.W.Frag) (v u : V) (H : Hp) (Q : Bool → Hp → Prop) : Prop := ∃ c t q dx fs S, v = .ref q ∧ H q = some (.ins (g.ca c) dx fs) ∧ tabAt tab c = some S ∧ nf c t = true ∧ TyX g.K H u (t.val g) ∧
  toSp g S [v, u] H (fun z H' => ∃ k, z = .bl k ∧ Q k H') fun cls dd H' => W cls dd σ H'
theorem eq_at {nf : Cl → Tg → Bool} {neg : Bool} {σ : St} {H1 : Hp} {Q : Bool → Hp → Prop} {P : Bool → Sto → Prop} {E : KX} {F1 : Hp} {O1 : Sto} {x y : D} {v u : V} (N : NotF g tab nf)
    (h : match clsOf O1 x, tgD O1 y with | some c, some t => (match tabAt tab c with | some S => nf c t = true ∧ S [x, y] O1 (boolK fun k O3 => P (if neg = true then !k else k) O3) E | none => False) | _, _ => False)
    (rx : Rep g F1 x v) (ry : Rep g F1 y u) (w1 : Wd g F1 O1 H1) (hv : ∀ b O F' H, P b O → Same F1 F' → Wd g F' O H → Q b H) (hx : XOk g F1 W σ E) : EqAtO g W σ tab nf g.K v u H1 fun k H' => Q (if neg = true then !k else k) H' := by
  split at h
  · rename_i c t e et
    split at h
    · rename_i S eS
      obtain ⟨hn, hS⟩ := h
      obtain ⟨q, dx, fs, rfl, h1, _⟩ := obj_look (m := "__contains__") e rx w1 (by decide +kernel)
      refine ⟨c, t, q, dx, fs, S, rfl, h1, eS, hn, tg_of et ry w1 (fun c' ec => N.own c c' (ec ▸ hn)), ?_⟩
      exact sp_of hS (Reps.cons rx (Reps.one ry)) w1 (bok_own fun b O F' H hb s' w' => hv _ O F' H hb s' w') (Same.refl F1) hx
    · exact h.elim
  · exact h.elim
theorem eq_run {neg : Bool} {nf : Cl → Tg → Bool} {pins : List (Addr × Obj)} {σ : St} {H : Hp} {s : Shared} {Q : Bool → Hp → Prop} {x y : V} {v u : Value} (M : MTab g X.prog X.w X.K X.mg X.base k "__eq__" tab) (N : NotF g tab nf) (Ne : neg = true → NeF g tab) (hr : Room j X.A) (hkj : k + 1 ≤ j) (tk : Takes X W) (hK : X.K = g.K) (I : Inv X pins σ H s) (rx : RelV x v) (ry : RelV y u)
    (h : EqAtO g W σ tab nf g.K x y H fun k H' => Q (if neg = true then !k else k) H') : wpAny (model X.prog X.w) X.A (compareOp (if neg = true then .NotEq else .Eq) v u) (fun r s' => ∃ k H', r = .bool k ∧ Inv X pins σ H' s' ∧ Q k H') X.xe s := by
  obtain ⟨c, t, q, dx, fs, S, rfl, eq, eS, hn, ty, hS⟩ := h
  obtain rfl : v = Value.ref q := rx
  obtain ⟨cls, f, mt, Fn⟩ := M c S eS
  obtain ⟨ox, od, J⟩ := inst_of I eq
  obtain ⟨m, fr⟩ := I.fr
  obtain ⟨Pp, Z, pp, _⟩ := kit_of I ry (by rw [hK]; exact ty)
  have hb := Z.ty (model X.prog X.w) s.heap I.kIn pp
  have hnf : PySem.W.notFirst X.K (g.ca c) (t.val g) = true := by rw [hK]; exact N.notf c t hn
  have r2 : Vals [V.ref q, y] [Value.ref q, u] := .cons rfl (.cons ry .nil)
  have hr' := hr.mono hkj
  cases neg with
  | false =>
    show wpAny _ _ (richCompare .Eq (.ref q) u) _ _ _
    refine PySem.W.cmp_K (op := .Eq) hr.units0 fr I.ok.mod.kin J hb hnf mt.at_ mt.fn (thn (wpAny_call (run_FNa Fn (hr'.mono (Nat.le_succ _)) tk I I.env0 r2 hS)) fun r s3 z => ?_)
    obtain ⟨zz, H3, I3, rz, kk, ez, q3⟩ := z
    subst ez
    cases rz
    exact ⟨kk, H3, rfl, I3, q3⟩
  | true =>
    show wpAny _ _ (richCompare .NotEq (.ref q) u) _ _ _
    have ne := Ne rfl
    refine ne_own (hu_of hr) I.kIn J hb hnf (by rw [hK]; exact ne.ne c S eS) mt.at_ mt.fn (by rw [hK]; exact ne.mr c S eS) (thn (wpAny_call (run_FNa Fn hr'.in1 tk I I.env0.in1 r2 hS)) fun r s3 z => ?_)
    obtain ⟨zz, H3, I3, rz, kk, ez, q3⟩ := z
    subst ez
    cases rz
    exact ⟨kk, rfl, _, H3, rfl, I3, q3⟩
theorem q_eqOwn {nf : Cl → Tg → Bool} (M : MTab g X.prog X.w X.K X.mg X.base k "__eq__" tab) (N : NotF g tab nf) (hr : Room j X.A) (tk : Takes X W) (ha : PE X a (le g W Ta)) (hb : PE X b (le g W Tb)) (hkj : k + 1 ≤ j := by decide) (hK : X.K = g.K := by rfl) (hm : behindInMarks .Eq b = false := by rfl) :
    PE X (.Compare a [.Eq] [b] pos) (le g W (dEqOwn false tab nf Ta Tb)) := by
  refine ⟨fun pins s σ H Q I h => ?_⟩
  obtain ⟨Δ, O, P, E, F, hT, sr, w, hv, hx⟩ := h
  refine wpAny_Compare1 (binT ha hb (R := fun x y H2 => EqAtO g W σ tab nf g.K x y H2 fun k H' => Q (.bl (if false = true then !k else k)) H') I (le_bind hT sr w hx fun x O1 vx F1 H1 hT1 s1 sr1 w1 rx hx1 => le_bind hT1 sr1 w1 hx1 fun y O2 vy F2 H2 hT2 s2 sr2 w2 ry hx2 => ?_) fun v u s2 x y H2 I2 rx ry q => ?_) hm
  · exact eq_at (neg := false) (Q := fun k H' => Q (.bl k) H') (P := fun k O => P (.bl k) O) N hT2 (rx.mono s2) ry w2 (fun b O F' H hb s' w' => hv _ _ _ _ _ hb (s1.trans (s2.trans s')) w' rbl) hx2
  · exact thn (eq_run (neg := false) (Q := fun k H' => Q (.bl k) H') M N (fun z => by cases z) hr hkj tk hK I2 rx ry q) fun r s3 ⟨kk, H3, er, I3, q3⟩ => by subst er; exact ⟨.bl kk, H3, I3, rfl, q3⟩
theorem q_neOwn {nf : Cl → Tg → Bool} (M : MTab g X.prog X.w X.K X.mg X.base k "__eq__" tab) (N : NotF g tab nf) (Ne : NeF g tab) (hr : Room j X.A) (tk : Takes X W) (ha : PE X a (le g W Ta)) (hb : PE X b (le g W Tb)) (hkj : k + 1 ≤ j := by decide) (hK : X.K = g.K := by rfl) (hm : behindInMarks .NotEq b = false := by rfl) :
    PE X (.Compare a [.NotEq] [b] pos) (le g W (dEqOwn true tab nf Ta Tb)) := by
  refine ⟨fun pins s σ H Q I h => ?_⟩
  obtain ⟨Δ, O, P, E, F, hT, sr, w, hv, hx⟩ := h
  refine wpAny_Compare1 (binT ha hb (R := fun x y H2 => EqAtO g W σ tab nf g.K x y H2 fun k H' => Q (.bl (if true = true then !k else k)) H') I (le_bind hT sr w hx fun x O1 vx F1 H1 hT1 s1 sr1 w1 rx hx1 => le_bind hT1 sr1 w1 hx1 fun y O2 vy F2 H2 hT2 s2 sr2 w2 ry hx2 => ?_) fun v u s2 x y H2 I2 rx ry q => ?_) hm
  · exact eq_at (neg := true) (Q := fun k H' => Q (.bl k) H') (P := fun k O => P (.bl k) O) N hT2 (rx.mono s2) ry w2 (fun b O F' H hb s' w' => hv _ _ _ _ _ hb (s1.trans (s2.trans s')) w' rbl) hx2
  · exact thn (eq_run (neg := true) (Q := fun k H' => Q (.bl k) H') M N (fun _ => Ne) hr hkj tk hK I2 rx ry q) fun r s3 ⟨kk, H3, er, I3, q3⟩ => by subst er; exact ⟨.bl kk, H3, I3, rfl, q3⟩
theorem qt_eqOwn {nf : Cl → Tg → Bool} (M : MTab g X.prog X.w X.K X.mg X.base k "__eq__" tab) (N : NotF g tab nf) (hr : Room j X.A) (tk : Takes X W) (ha : PE X a (le g W Ta)) (hb : PE X b (le g W Tb)) (hkj : k + 1 ≤ j := by decide) (hK : X.K = g.K := by rfl) (hm : behindInMarks .Eq b = false := by rfl) :
    PT X (.Compare a [.Eq] [b] pos) (lt g W (dTe (dEqOwn false tab nf Ta Tb))) := by
  refine ⟨fun pins s σ H Q I h => ?_⟩
  obtain ⟨Δ, O, P, E, F, hT, sr, w, hv, hx⟩ := h
  refine wpAny_isTrue_Compare1 (thn (ha.run pins s σ H (fun x H1 => le g W Tb σ H1 fun y H2 => EqAtO g W σ tab nf g.K x y H2 fun k H' => Q (if false = true then !k else k) H') I (le_bind hT sr w hx fun x O1 vx F1 H1 hT1 s1 sr1 w1 rx hx1 => le_bind hT1 sr1 w1 hx1 fun y O2 vy F2 H2 hT2 s2 sr2 w2 ry hx2 => ?_)) fun v s1 ⟨x, H1, I1, r1, q1⟩ => thn (hb.run pins s1 σ H1 _ I1 q1) fun u s2 ⟨y, H2, I2, r2, q2⟩ => ?_) hm
  · exact eq_at (neg := false) (Q := Q) (P := P) N hT2 (rx.mono s2) ry w2 (fun b O F' H hb s' w' => hv _ _ _ _ hb (s1.trans (s2.trans s')) w') hx2
  · exact thn (eq_run (neg := false) (Q := Q) M N (fun z => by cases z) hr hkj tk hK I2 r1 r2 q2) fun r s3 ⟨kk, H3, er, I3, q3⟩ => by subst er; exact wpAny_truthy_bool ⟨H3, I3, q3⟩
theorem qt_neOwn {nf : Cl → Tg → Bool} (M : MTab g X.prog X.w X.K X.mg X.base k "__eq__" tab) (N : NotF g tab nf) (Ne : NeF g tab) (hr : Room j X.A) (tk : Takes X W) (ha : PE X a (le g W Ta)) (hb : PE X b (le g W Tb)) (hkj : k + 1 ≤ j := by decide) (hK : X.K = g.K := by rfl) (hm : behindInMarks .NotEq b = false := by rfl) :
    PT X (.Compare a [.NotEq] [b] pos) (lt g W (dTe (dEqOwn true tab nf Ta Tb))) := by
  refine ⟨fun pins s σ H Q I h => ?_⟩
  obtain ⟨Δ, O, P, E, F, hT, sr, w, hv, hx⟩ := h
  refine wpAny_isTrue_Compare1 (thn (ha.run pins s σ H (fun x H1 => le g W Tb σ H1 fun y H2 => EqAtO g W σ tab nf g.K x y H2 fun k H' => Q (if true = true then !k else k) H') I (le_bind hT sr w hx fun x O1 vx F1 H1 hT1 s1 sr1 w1 rx hx1 => le_bind hT1 sr1 w1 hx1 fun y O2 vy F2 H2 hT2 s2 sr2 w2 ry hx2 => ?_)) fun v s1 ⟨x, H1, I1, r1, q1⟩ => thn (hb.run pins s1 σ H1 _ I1 q1) fun u s2 ⟨y, H2, I2, r2, q2⟩ => ?_) hm
  · exact eq_at (neg := true) (Q := Q) (P := P) N hT2 (rx.mono s2) ry w2 (fun b O F' H hb s' w' => hv _ _ _ _ hb (s1.trans (s2.trans s')) w') hx2
  · exact thn (eq_run (neg := true) (Q := Q) M N (fun _ => Ne) hr hkj tk hK I2 r1 r2 q2) fun r s3 ⟨kk, H3, er, I3, q3⟩ => by subst er; exact wpAny_truthy_bool ⟨H3, I3, q3⟩
end
end G

set_option Elab.async false
set_option linter.all false
set_option maxRecDepth 100000
set_option maxHeartbeats 4000000
namespace G
open PySem L2
/-! ## more builtins -/
def fMax2 : BC := fun ds O P => match ds with | [.int i, .int j] => P (.int (max i j)) O | _ => False
def fMin2 : BC := fun ds O P => match ds with | [.int i, .int j] => P (.int (min i j)) O | _ => False
def fAbs : BC := fun ds O P => match ds with | [.int i] => P (.int (i.natAbs : Int)) O | _ => False
def intsOf : List D → Option (List Int)
  | [] => some []
  | .int i :: r => (intsOf r).map (i :: ·)
  | _ => none
theorem intsOf_map (ns : List Int) : intsOf (ns.map D.int) = some ns := by
  induction ns with
  | nil => rfl
  | cons n ns ih => rw [List.map_cons, intsOf, ih]; rfl
theorem intsOf_eq : ∀ {ds : List D} {ns : List Int}, intsOf ds = some ns → ds = ns.map D.int := by
  intro ds
  induction ds with
  | nil => intro ns h; cases h; rfl
  | cons d ds ih =>
    intro ns h
    cases d with
    | int i =>
      rw [intsOf] at h
      cases e : intsOf ds with
      | none => rw [e] at h; cases h
      | some r =>
        rw [e] at h
        cases h
        rw [ih e]
        rfl
    | _ => simp [intsOf] at h
/-- the numbers in ascending order -/
def srtI (ns : List Int) : List Int := ns.mergeSort fun a b => decide (a ≤ b)
theorem sorted_unique : ∀ {xs ys : List Int}, xs.Perm ys → xs.Pairwise (· ≤ ·) → ys.Pairwise (· ≤ ·) → xs = ys := by
  intro xs
  induction xs with
  | nil => intro ys p _ _; exact p.nil_eq
  | cons x xs ih =>
    intro ys p hx hy
    cases ys with
    | nil => exact absurd p.symm.nil_eq (by simp)
    | cons y ys =>
      have e : x = y := by
        have h1 : x ∈ y :: ys := p.subset List.mem_cons_self
        have h2 : y ∈ x :: xs := p.symm.subset List.mem_cons_self
        have a1 : y ≤ x := by
          rcases List.mem_cons.mp h1 with h | h
          · omega
          · exact (List.pairwise_cons.mp hy).1 x h
        have a2 : x ≤ y := by
          rcases List.mem_cons.mp h2 with h | h
          · omega
          · exact (List.pairwise_cons.mp hx).1 y h
        omega
      subst e
      rw [ih (List.Perm.cons_inv p) (List.pairwise_cons.mp hx).2 (List.pairwise_cons.mp hy).2]
theorem srtI_perm (ns : List Int) : (srtI ns).Perm ns := List.mergeSort_perm ns _
theorem srtI_sorted (ns : List Int) : (srtI ns).Pairwise (· ≤ ·) := by
  have z := List.pairwise_mergeSort (le := fun a b : Int => decide (a ≤ b)) (by intro a b c h1 h2; simp at *; omega) (by intro a b; simp; omega) ns
  exact z.imp fun h => by simpa using h
theorem srtI_eq {ns xs : List Int} (p : xs.Perm ns) (h : xs.Pairwise (· ≤ ·)) : xs = srtI ns := sorted_unique (p.trans (srtI_perm ns).symm) h (srtI_sorted ns)
def fSortI : BC := fun ds O P => match ds with | [d] => (match lstOf O d with | some es => (match intsOf es with | some ns => P (.lst ((srtI ns).map D.int)) O | none => False) | none => False) | _ => False
section
variable {g : Gm}
theorem reps2 {F : Hp} {a b : D} {vs : List V} (h : Reps g F [a, b] vs) : ∃ u v, vs = [u, v] ∧ Rep g F a u ∧ Rep g F b v := by
  obtain ⟨u, r, rfl, h1, h2⟩ := Reps.cons_iff.mp h
  obtain ⟨v, r', rfl, h3, h4⟩ := Reps.cons_iff.mp h2
  rw [Reps.nil_iff] at h4
  subst h4
  exact ⟨u, v, rfl, h1, h3⟩
theorem reps1 {F : Hp} {a : D} {vs : List V} (h : Reps g F [a] vs) : ∃ u, vs = [u] ∧ Rep g F a u := by
  obtain ⟨u, r, rfl, h1, h2⟩ := Reps.cons_iff.mp h
  rw [Reps.nil_iff] at h2
  subst h2
  exact ⟨u, rfl, h1⟩
theorem lk_max2 : LkC g (fun xs H Q => ∃ i j, xs = [.int i, .int j] ∧ Q (.int (if j > i then j else i)) H) fMax2 := by
  intro ds O P F H vs Q hf rs w hv
  unfold fMax2 at hf
  split at hf
  · rename_i i j
    obtain ⟨u, v, rfl, h1, h2⟩ := reps2 rs
    refine ⟨i, j, by rw [Rep.int_iff.mp h1, Rep.int_iff.mp h2], ?_⟩
    have e : (if j > i then j else i) = max i j := by split <;> omega
    rw [e]
    exact hv.now hf w rint
  · exact hf.elim
theorem lk_min2 : LkC g (fun xs H Q => ∃ i j, xs = [.int i, .int j] ∧ Q (.int (if j < i then j else i)) H) fMin2 := by
  intro ds O P F H vs Q hf rs w hv
  unfold fMin2 at hf
  split at hf
  · rename_i i j
    obtain ⟨u, v, rfl, h1, h2⟩ := reps2 rs
    refine ⟨i, j, by rw [Rep.int_iff.mp h1, Rep.int_iff.mp h2], ?_⟩
    have e : (if j < i then j else i) = min i j := by split <;> omega
    rw [e]
    exact hv.now hf w rint
  · exact hf.elim
theorem lk_abs : LkC g (fun xs H Q => ∃ i, xs = [.int i] ∧ Q (.int (if i < 0 then -i else i)) H) fAbs := by
  intro ds O P F H vs Q hf rs w hv
  unfold fAbs at hf
  split at hf
  · rename_i i
    obtain ⟨u, rfl, h1⟩ := reps1 rs
    refine ⟨i, by rw [Rep.int_iff.mp h1], ?_⟩
    have e : (if i < 0 then -i else i) = (i.natAbs : Int) := by split <;> omega
    rw [e]
    exact hv.now hf w rint
  · exact hf.elim
/-- a list of whole numbers, as the heap has it -/
theorem lst_ints {F : Hp} {O : Sto} {H : Hp} {d : D} {v : V} {es : List D} {ns : List Int} (e : lstOf O d = some es) (ei : intsOf es = some ns) (r : Rep g F d v) (w : Wd g F O H) : ∃ q, v = .ref q ∧ SqL g.K H q (ns.map V.int) := by
  obtain ⟨q, vs, rfl, h1, h2⟩ := lst_of e r w
  rw [intsOf_eq ei] at h2
  rw [Reps.ints] at h2
  subst h2
  exact ⟨q, rfl, SqL.of h1⟩
theorem lk_sortI : LkC g (rSortedI g.K) fSortI := by
  intro ds O P F H vs Q hf rs w hv
  unfold fSortI at hf
  split at hf
  · rename_i d
    split at hf
    · rename_i es e
      split at hf
      · rename_i ns ei
        obtain ⟨u, rfl, h1⟩ := reps1 rs
        obtain ⟨q, rfl, hs⟩ := lst_ints e ei h1 w
        refine ⟨q, ns, rfl, hs, fun ns' p pm so hp => ?_⟩
        rw [srtI_eq pm so]
        exact hv _ _ _ _ _ hf (w.fsame hp) (w.frozen hp) ((Reps.ints.mpr rfl).newL (w.same.free hp))
      · exact hf.elim
    · exact hf.elim
  · exact hf.elim
end
theorem sz0 : (0 ≤ sizeLine) = True := by simp
theorem sz1 : (0 + 1 ≤ sizeLine) = True := by rw [sizeLine_eq]; simp
theorem sz2 : (0 + 1 + 1 ≤ sizeLine) = True := by rw [sizeLine_eq]; simp
theorem sz3 : (0 + 1 + 1 + 1 ≤ sizeLine) = True := by rw [sizeLine_eq]; simp
theorem sz4 : (0 + 1 + 1 + 1 + 1 ≤ sizeLine) = True := by rw [sizeLine_eq]; simp
theorem sz5 : (0 + 1 + 1 + 1 + 1 + 1 ≤ sizeLine) = True := by rw [sizeLine_eq]; simp
theorem sz6 : (0 + 1 + 1 + 1 + 1 + 1 + 1 ≤ sizeLine) = True := by rw [sizeLine_eq]; simp
theorem sz7 : (0 + 1 + 1 + 1 + 1 + 1 + 1 + 1 ≤ sizeLine) = True := by rw [sizeLine_eq]; simp
theorem sz8 : (0 + 1 + 1 + 1 + 1 + 1 + 1 + 1 + 1 ≤ sizeLine) = True := by rw [sizeLine_eq]; simp
theorem sz9 : (0 + 1 + 1 + 1 + 1 + 1 + 1 + 1 + 1 + 1 ≤ sizeLine) = True := by rw [sizeLine_eq]; simp
theorem sz10 : (0 + 1 + 1 + 1 + 1 + 1 + 1 + 1 + 1 + 1 + 1 ≤ sizeLine) = True := by rw [sizeLine_eq]; simp
theorem sz11 : (0 + 1 + 1 + 1 + 1 + 1 + 1 + 1 + 1 + 1 + 1 + 1 ≤ sizeLine) = True := by rw [sizeLine_eq]; simp
theorem sz12 : (0 + 1 + 1 + 1 + 1 + 1 + 1 + 1 + 1 + 1 + 1 + 1 + 1 ≤ sizeLine) = True := by rw [sizeLine_eq]; simp
def isN : D → Bool
  | .non => true
  | _ => false
def fIsN : B2 := fun x y O P => match y with | .non => P (.bl (isN x)) O | _ => False
def fNotN : B2 := fun x y O P => match y with | .non => P (.bl (!isN x)) O | _ => False
theorem isN_of {g : Gm} {F : Hp} {d : D} {v : V} (r : Rep g F d v) : decide (v = .non) = isN d := by
  cases d with
  | non => rw [Rep.non_iff.mp r]; rfl
  | bl b => rw [Rep.bl_iff.mp r]; rfl
  | int b => rw [Rep.int_iff.mp r]; rfl
  | str b => rw [Rep.str_iff.mp r]; rfl
  | ptr b => rw [Rep.ptr_iff.mp r]; rfl
  | lst b => obtain ⟨p, vs, rfl, _⟩ := Rep.lst_iff.mp r; rfl
  | tup b => obtain ⟨p, vs, rfl, _⟩ := Rep.tup_iff.mp r; rfl
  | scr b => obtain ⟨p, rfl, _⟩ := Rep.scr_iff.mp r; rfl
  | obj c fs ds => obtain ⟨p, dx, vs, rfl, _⟩ := Rep.obj_iff.mp r; rfl
  | dic ks ds => obtain ⟨p, vs, rfl, _⟩ := Rep.dic_iff.mp r; rfl
  | xcp a d fs ds => rw [(Rep.xcp_iff.mp r).1]; rfl
theorem lk_isN {g : Gm} : Lk2 g (fun x y H Q => y = .non ∧ Q (.bl (decide (x = .non))) H) fIsN := by
  intro x y O P F H vx vy Q hf rx ry w hv
  unfold fIsN at hf
  split at hf
  · exact ⟨Rep.non_iff.mp ry, by rw [isN_of rx]; exact hv.now hf w rbl⟩
  · exact hf.elim
theorem lk_notN {g : Gm} : Lk2 g (fun x y H Q => y = .non ∧ Q (.bl (!decide (x = .non))) H) fNotN := by
  intro x y O P F H vx vy Q hf rx ry w hv
  unfold fNotN at hf
  split at hf
  · exact ⟨Rep.non_iff.mp ry, by rw [isN_of rx]; exact hv.now hf w rbl⟩
  · exact hf.elim
theorem f_isN {O : Sto} {P : KD} {x : D} : fIsN x .non O P = P (.bl (isN x)) O := rfl
theorem f_notN {O : Sto} {P : KD} {x : D} : fNotN x .non O P = P (.bl (!isN x)) O := rfl
mutual
theorem eqv_self : ∀ d : PyData, d.canLay0 = true → PyData.eqv d d = true
  | .none, _ => by simp only [PyData.eqv]
  | .bool b, _ => by simp only [PyData.eqv]; simp
  | .int b, _ => by simp only [PyData.eqv]; simp
  | .str b, _ => by simp only [PyData.eqv]; simp
  | .list xs, h => by simp only [PyData.eqv]; exact eqv_selfs xs (by simpa only [PyData.canLay0] using h)
  | .tuple xs, h => by simp only [PyData.eqv]; exact eqv_selfs xs (by simpa only [PyData.canLay0] using h)
  | .dict xs, h => by simp [PyData.canLay0] at h
theorem eqv_selfs : ∀ xs : List PyData, PyData.canLayAll0 xs = true → PyData.eqvAll xs xs = true
  | [], _ => by simp only [PyData.eqvAll]
  | x :: xs, h => by
    have h' : x.canLay0 = true ∧ PyData.canLayAll0 xs = true := by simpa only [PyData.canLayAll0, Bool.and_eq_true] using h
    simp only [PyData.eqvAll, eqv_self x h'.1, eqv_selfs xs h'.2, Bool.and_self]
end
/-- a thing is equal to itself -/
theorem eqB_self {d : D} {x : PyData} (h : py d = some x) (hs : SeqAt.shaped x = true) : eqB d d = some true := by
  have e := eqv_self x (SeqAt.canLay_of_shaped hs)
  cases d with
  | int i => simp [eqB]
  | bl i => simp [eqB]
  | str i => simp [eqB]
  | _ =>
    unfold eqB
    simp only [h, hs, and_self, ↓reduceIte, e]
theorem f_max {O : Sto} {P : KD} {i j : Int} : fMax2 [.int i, .int j] O P = P (.int (max i j)) O := rfl
theorem f_min {O : Sto} {P : KD} {i j : Int} : fMin2 [.int i, .int j] O P = P (.int (min i j)) O := rfl
theorem f_abs {O : Sto} {P : KD} {i : Int} : fAbs [.int i] O P = P (.int (i.natAbs : Int)) O := rfl
theorem f_eqT {O : Sto} {P : KD} {a b c d : Int} : fEq (.tup [.int a, .int b]) (.tup [.int c, .int d]) O P = P (.bl (decide (a = c ∧ b = d))) O := by
  have e : eqB (.tup [.int a, .int b]) (.tup [.int c, .int d]) = some (decide (a = c ∧ b = d)) := by
    have z := eq_pr (a, b) (c, d)
    simp only [Prod.mk.injEq] at z
    exact z
  unfold fEq
  rw [e]
theorem f_neT {O : Sto} {P : KD} {a b c d : Int} : fNe (.tup [.int a, .int b]) (.tup [.int c, .int d]) O P = P (.bl (!decide (a = c ∧ b = d))) O := by
  have e : eqB (.tup [.int a, .int b]) (.tup [.int c, .int d]) = some (decide (a = c ∧ b = d)) := by
    have z := eq_pr (a, b) (c, d)
    simp only [Prod.mk.injEq] at z
    exact z
  unfold fNe
  rw [e]
theorem f_sortI {O : Sto} {P : KD} {ns : List Int} : fSortI [.lst (ns.map D.int)] O P = P (.lst ((srtI ns).map D.int)) O := by simp only [fSortI, lstOf, intsOf_map]
section
variable {Δ : Sl} {O : Sto} {P : KD} {E : KX} {En : DEnds} {Ta Tb Tc : DE} {T U : DS} {R : DA} {t u : DT} {i j : Nat} {d x y : D} {PB : Bool → Sto → Prop} {PA : List D → Sto → Prop} {tab : List (Cl × DSp)}
theorem e_raise {ec : Ec} {fs : List Fd} : dRaise ec fs R En Δ O = R Δ O (fun ds O1 => ds.length = fs.length ∧ ds.length ≤ 9 ∧ En.xc ⟨ec, fs, ds⟩ Δ O1) (fun x O1 => En.xc x Δ O1) := rfl
theorem e_raiseT {ec : Ec} : dRaiseT ec En Δ O = En.xc ⟨ec, [], []⟩ Δ O := rfl
theorem e_try {cat : Ec → Option Bool} {Th : DH} : dTry i cat T Th En Δ O = T { En with xc := fun x Δ1 O1 => match cat x.c with
  | some true => ∀ a d, freshC O1 a → Th a x.c d { nx := fun Δ' O' => En.nx (Δ'.set i none) O', rt := En.rt, bk := fun Δ' O' => En.bk (Δ'.set i none) O', ct := fun Δ' O' => En.ct (Δ'.set i none) O' } (Δ1.set i (some (.xcp a d x.fs x.ds))) O1
  | some false => En.xc x Δ1 O1
  | none => False } Δ O := rfl
theorem e_tryN {cat : Ec → Option Bool} {Th : DH} : dTryN cat T Th En Δ O = T { En with xc := fun x Δ1 O1 => match cat x.c with
  | some true => ∀ a d, freshC O1 a → Th a x.c d { nx := En.nx, rt := En.rt, bk := En.bk, ct := En.ct } Δ1 O1
  | some false => En.xc x Δ1 O1
  | none => False } Δ O := rfl
theorem e_xf {cs : List Ec} {f : Fd} {a : Addr} {ec : Ec} {dd : Option Addr} : dXf cs f a ec dd Ta Δ O P E = Ta Δ O (fun v O1 => match v with
  | .xcp a' d' fs ds => a' = a ∧ d' = dd ∧ ec ∈ cs ∧ (match getF f fs ds with | some e => P e O1 | none => False)
  | _ => False) E := rfl
theorem e_isX {tb : Ec → Option Bool} {a : Addr} {ec : Ec} {dd : Option Addr} : dIsX tb a ec dd Ta Δ O P E = Ta Δ O (fun v O1 => match v with
  | .xcp a' d' _ _ => a' = a ∧ d' = dd ∧ (match tb ec with | some b => P (.bl b) O1 | none => False)
  | _ => False) E := rfl
theorem e_isO {tb : Tg → Option Bool} : dIsO tb Ta Δ O P E = Ta Δ O (fun d O1 => match tgD O1 d with
  | some t => (match tb t with | some b => P (.bl b) O1 | none => False)
  | none => False) E := rfl
theorem e_bin {ok : Cl → Sto → D → Prop} : dBin tab ok Ta Tb Δ O P E = Ta Δ O (fun x O1 => Tb Δ O1 (fun y O2 => match clsOf O2 x with
  | some c => (match tabAt tab c with | some S => ok c O2 y ∧ S [x, y] O2 P E | none => False)
  | none => False) E) E := rfl
theorem e_uno : dUno tab Ta Δ O P E = Ta Δ O (fun x O1 => match clsOf O1 x with
  | some c => (match tabAt tab c with | some S => S [x] O1 P E | none => False)
  | none => False) E := rfl
theorem e_eqOwn {neg : Bool} {nf : Cl → Tg → Bool} : dEqOwn neg tab nf Ta Tb Δ O P E = Ta Δ O (fun x O1 => Tb Δ O1 (fun y O2 => match clsOf O2 x, tgD O2 y with
  | some c, some t => (match tabAt tab c with | some S => nf c t = true ∧ S [x, y] O2 (boolK fun k O3 => P (.bl (if neg = true then !k else k)) O3) E | none => False)
  | _, _ => False) E) E := rfl
theorem e_meth : dMeth tab Ta R Δ O P E = Ta Δ O (fun o O1 => match clsOf O1 o with
  | some c => (match tabAt tab c with | some S => R Δ O1 (fun ds O2 => S (o :: ds) O2 P E) E | none => False)
  | none => False) E := rfl
theorem tgI {n : Int} : tgD O (.int n) = some (.b "int") := rfl
theorem tgN : tgD O .non = some (.b "NoneType") := rfl
theorem tgB {n : Bool} : tgD O (.bl n) = some (.b "bool") := rfl
theorem tgS {n : Str} : tgD O (.str n) = some (.b "str") := rfl
theorem tgL {n : List D} : tgD O (.lst n) = some (.b "list") := rfl
theorem tgT {n : List D} : tgD O (.tup n) = some (.b "tuple") := rfl
theorem tgO {c : Cl} {fs : List Fd} {ds : List D} : tgD O (.obj c fs ds) = some (.c c) := rfl
end
end G

set_option Elab.async false
set_option linter.all false
set_option maxRecDepth 100000
set_option maxHeartbeats 4000000
namespace G
open PySem L2
/-! ## tables -/
def lookT {α β : Type} [DecidableEq α] : List (α × β) → α → Option β
  | [], _ => none
  | (a, b) :: r, x => if x = a then some b else lookT r x
theorem look_nil {α β : Type} [DecidableEq α] {Pp : α → β → Prop} : ∀ a b, lookT ([] : List (α × β)) a = some b → Pp a b := fun _ _ h => by cases h
theorem look_cons {α β : Type} [DecidableEq α] {Pp : α → β → Prop} {a : α} {b : β} {r : List (α × β)} (h : Pp a b) (t : ∀ a b, lookT r a = some b → Pp a b) : ∀ x y, lookT ((a, b) :: r) x = some y → Pp x y := fun x y e => by
  simp only [lookT] at e
  by_cases q : x = a
  · rw [if_pos q] at e
    cases e
    rw [q]
    exact h
  · rw [if_neg q] at e
    exact t x y e
def nfOf (l : List (Cl × Tg)) (c : Cl) (t : Tg) : Bool := decide ((c, t) ∈ l)
theorem nf_all {l : List (Cl × Tg)} {Pp : Cl → Tg → Prop} (h : ∀ q ∈ l, Pp q.1 q.2) : ∀ c t, nfOf l c t = true → Pp c t := fun c t e => h (c, t) (of_decide_eq_true e)
theorem ta_nil {Pp : Cl → Prop} : ∀ c S, tabAt [] c = some S → Pp c := fun c S h => by cases h
theorem ta_cons {Pp : Cl → Prop} {cl : Cl} {S0 : DSp} {r : List (Cl × DSp)} (h : Pp cl) (t : ∀ c S, tabAt r c = some S → Pp c) : ∀ c S, tabAt ((cl, S0) :: r) c = some S → Pp c := fun c S e => by
  simp only [tabAt] at e
  by_cases q : c = cl
  · rw [q]
    exact h
  · rw [if_neg q] at e
    exact t c S e
section
variable {g : Gm} {tab : List (Cl × DSp)}
theorem notF_mk {l : List (Cl × Tg)} (h : ∀ q ∈ l, PySem.W.notFirst g.K (g.ca q.1) (q.2.val g) = true ∧ ∀ c', q.2 = .c c' → OwnTy g c') : NotF g tab (nfOf l) :=
  ⟨fun c t e => (h (c, t) (of_decide_eq_true e)).1, fun c c' e => (h (c, .c c') (of_decide_eq_true e)).2 c' rfl⟩
theorem isO_mk {cv : Value} {l : List (Tg × Bool)} (h : ∀ t b, lookT l t = some b → PySem.W.kitOne g.K (t.val g) cv = some b ∧ ∀ c', t = .c c' → OwnTy g c') : IsO g cv (lookT l) :=
  ⟨fun c b e => (h _ b e).2 c rfl, fun t b e => (h t b e).1⟩
theorem isX_mk {cv : Value} {l : List (Ec × Bool)} (h : ∀ t b, lookT l t = some b → PySem.W.kitOne g.K (.ref (g.ea t)) cv = some b ∧ XIs g.K (g.ea t)) : IsTab g cv (lookT l) := ⟨fun c b e => (h c b e).2, fun c b e => (h c b e).1⟩
theorem xfl_mk {cs : List Ec} {f : Fd} (h : ∀ c ∈ cs, XfC g.K (g.ea c) ∧ PySem.W.findIn g.K (.ref (g.ea c)) f.str = some none) : XFl g cs f := ⟨fun c hc => (h c hc).1, fun c hc => (h c hc).2⟩
theorem mem_nil {α : Type} {Pp : α → Prop} : ∀ q ∈ ([] : List α), Pp q := fun q h => absurd h List.not_mem_nil
theorem mem_cons' {α : Type} {Pp : α → Prop} {a : α} {l : List α} (h : Pp a) (t : ∀ q ∈ l, Pp q) : ∀ q ∈ a :: l, Pp q := fun q hq => by
  rcases List.mem_cons.mp hq with e | e
  · rw [e]; exact h
  · exact t q e
theorem no_own {t : String} {g : Gm} : ∀ c', Tg.b t = .c c' → OwnTy g c' := fun c' e => by cases e
theorem an_own {c : Cl} (h : OwnTy g c) : ∀ c', Tg.c c = .c c' → OwnTy g c' := fun c' e => by cases e; exact h
end
section
variable {g : Gm} {P : Program} {w : World} {mg : Str → Option Value} {base : Heap}
theorem gx_mk {ec : Ec} {name : Str} {fs : List Fd} {f : Addr} {fd : FuncData} {ps : List Str} (hm : mg name = some (.ref (g.ea ec))) (ox : OexC g.K (g.ea ec)) (iC : PySem.W.findIn g.K (.ref (g.ea ec)) "__init__" = some (some (.ref f))) (tI : PySem.W.typeIn g.K (.ref f) = some (.type "function"))
    (F : FnOk P w g.K mg base (L2.CX P w) 1 f fd ps (spX (g.ea ec) (fs.map Fd.str))) (hb : Binds g.K fd ps []) : GX g P w g.K mg base ec name fs := ⟨hm, ox, f, fd, ps, iC, tI, F, hb⟩
theorem FunS.binds {K : PySem.W.Frag} {x qual : Str} {st : Stmt} {f : Addr} {fd : FuncData} {cc cda D : Addr} {file : Str} {ps : List Str} (F : FunS K x qual st f fd cc cda D file)
    (h : ∀ (kV doc pm : Value) (an : Option Addr) (ct : Value) (us : List Value), us.length = ps.length → bindArgs (PySem.W.ksFn x qual (defArgs st) (defBody st) (defScope st) .none kV doc pm an (.ref cda) ct cc) ⟨us, []⟩ = pure (ps.zip us)) : Binds K fd ps [] := by
  obtain ⟨oc, od, kV, doc, pm, an, ct, osl, rfl, lk⟩ := F.ex
  exact .all (h kV doc pm an ct)
end
end G

set_option Elab.async false
set_option linter.all false
set_option maxRecDepth 100000
set_option maxHeartbeats 4000000
namespace G
open PySem L2
def catApart : Ec → Option Bool := lookT [(.BadStretch, false), (.Apart, true), (.NoLevel, false), (.GaugeError, false)]
def catNoLevel : Ec → Option Bool := lookT [(.BadStretch, false), (.Apart, true), (.NoLevel, true), (.GaugeError, false)]
def isxBadStretch : Ec → Option Bool := lookT [(.Apart, false)]
def isxNoLevel : Ec → Option Bool := lookT [(.Apart, true)]
def isxGaugeError : Ec → Option Bool := lookT [(.Apart, true)]
def isxValueError : Ec → Option Bool := lookT [(.Apart, true)]
def isoStretch : Tg → Option Bool := lookT [(.c .Stretch, true)]
def nf : Cl → Tg → Bool := nfOf [(.Stretch, .c .Stretch)]
theorem weak_now {O : Sto} {Q : Sto → Prop} (h : Q O) : ∃ O1, Weak O O1 ∧ Q O1 := ⟨O, fun _ _ _ w => w, h⟩
theorem four {a b c d : D} {O : Sto} {P : KD} {r : Int} (h0 : 0 ≤ r) (h4 : r < 4) (ha : P a O) (hb : P b O) (hc : P c O) (hd : P d O) : (match atI [a, b, c, d] r with | some d => P d O | none => False) := by
  have e : r = 0 ∨ r = 1 ∨ r = 2 ∨ r = 3 := by omega
  rcases e with rfl | rfl | rfl | rfl
  · rw [at_0]; exact ha
  · rw [at_1]; exact hb
  · rw [at_2]; exact hc
  · rw [at_3]; exact hd
def ok2 (x : Int × Int) : Prop := x.1 ≤ x.2
theorem all2_len {α β : Type} {R : α → β → Prop} {Q : β → Prop} {as : List α} {bs : List β} (h : All2 R as bs) (k : ∀ a b, R a b → Q b) : ∀ b ∈ bs, Q b := by
  induction h with
  | nil => intro b hb; cases hb
  | cons h _ ih =>
    intro b hb
    rcases List.mem_cons.mp hb with rfl | hb
    · exact k _ _ h
    · exact ih b hb
abbrev st (x : Int × Int) : D := .obj .Stretch [.low, .high] [.int x.1, .int x.2]
def inB (l : Int) (x : Int × Int) : Bool := decide (x.1 ≤ l) && decide (l ≤ x.2)
def S_law_take : DSp := fun ds O P E => ∃ b m, ds = [.ptr b, .int m] ∧ getC O b = some .box ∧ 0 < m ∧ m < 1073741824 ∧ ∀ r, 0 ≤ r → r < m → P (.int r) O
def N_law_take : List Str := ["_law_box_here", "_law_many", "_law_cells", "_law_digit", "_law_cell"]
def T_law_take_0 : DS := (dSetIx (dVar 0) (dC (.int 1)) (dOp fAdd (dOp fIx (dVar 0) (dC (.int 1))) (dC (.int 1))))
def T_law_take_1 : DS := (dSeq (dSetIx (dVar 0) (dC (.int 2)) (dOp fSub (dOp fIx (dVar 2) (dOp fIx (dVar 0) (dC (.int 1)))) (dOp fPow (dC (.int 10)) (dC (.int 18))))) T_law_take_0)
def T_law_take_2 : DS := (dSeq (dSetIx (dVar 0) (dC (.int 2)) (dOp fDiv (dCB fInt (dCons (dOp fIx (dVar 0) (dC (.int 2))) dNil)) (dVar 1))) (dRet (dVar 3)))
def T_law_take_3 : DS := (dSeq (dAsg 3 (dOp fMod (dCB fInt (dCons (dOp fIx (dVar 0) (dC (.int 2))) dNil)) (dVar 1))) T_law_take_2)
def T_law_take_4 : DS := (dAsg 4 (dCB fInt (dCons (dOp fIx (dVar 2) (dOp fIx (dVar 0) (dC (.int 1)))) dNil)))
def T_law_take_5 : DS := (dRet (dOp fMod (dOp fMod (dCB fInt (dCons (dOp fAdd (dOp fMul (dOp fDiv (dOp fIx (dVar 0) (dC (.int 3))) (dC (.int 8))) (dC (.int 31))) (dOp fMod (dCB fInt (dCons (dOp fIx (dVar 0) (dC (.int 3))) dNil)) (dC (.int 65537)))) dNil)) (dC (.int 1000003))) (dVar 1)))
def T_law_take_6 : DS := (dSeq (dSetIx (dVar 0) (dC (.int 3)) (dOp fMod (dCB fInt (dCons (dOp fAdd (dOp fAdd (dOp fMul (dOp fIx (dVar 0) (dC (.int 3))) (dC (.int 48271))) (dOp fMul (dVar 4) (dC (.int 7)))) (dOp fIx (dVar 0) (dC (.int 1)))) dNil)) (dC (.int 2147483647)))) T_law_take_5)
def T_law_take_7 : DS := (dSeq (dSetIx (dVar 0) (dC (.int 1)) (dOp fAdd (dOp fIx (dVar 0) (dC (.int 1))) (dC (.int 1)))) T_law_take_6)
def T_law_take_8 : DS := (dSeq (dIfS (dTe (dOp fLt (dOp fIx (dVar 0) (dC (.int 1))) (dCB fLen (dCons (dVar 2) dNil)))) T_law_take_4 dNext) T_law_take_7)
def T_law_take_9 : DS := (dSeq (dIfS (dTe (dOp fGt (dOp fIx (dVar 0) (dC (.int 2))) (dC (.int 0)))) T_law_take_3 dNext) (dSeq (dAsg 4 (dC (.int 0))) T_law_take_8))
def T_law_take_10 : DS := (dSeq (dIfS (dAnd (dTe (dOp fEq (dOp fIx (dVar 0) (dC (.int 2))) (dC (.int 0)))) (dAnd (dTe (dOp fLt (dOp fIx (dVar 0) (dC (.int 1))) (dCB fLen (dCons (dVar 2) dNil)))) (dTe (dOp fGt (dOp fIx (dVar 2) (dOp fIx (dVar 0) (dC (.int 1)))) (dOp fPow (dC (.int 10)) (dC (.int 18))))))) T_law_take_1 dNext) T_law_take_9)
def T_law_take : DS := (dSeq (dAsg 2 (dOp fIx (dVar 0) (dC (.int 0)))) T_law_take_10)

theorem pure_law_take : Pure N_law_take 2 S_law_take T_law_take := by
  rintro ds O P E ⟨b, m, rfl, hb, h0, h1, k⟩
  refine ⟨rfl, Opn.box hb fun cs i a s hc hi ha => ?_⟩
  have gx : ∀ c, getC (setC O b c) b = some c := fun c => getC_setC hb
  have hs : startD N_law_take [.ptr b, .int m] = [some (.ptr b), some (.int m), none, none, none] := rfl
  have fin : ∀ (r : Int) (cs : List Int) (i a s : Int), cs.length ≤ 63 → 0 ≤ i → 0 ≤ a → 0 ≤ r → r < m → ∃ O1, Weak (setC O b (.lst [.lst (cs.map D.int), .int i, .int a, .int s])) O1 ∧ P (.int r) O1 := fun r cs i a s q1 q2 q3 q4 q5 => by
    refine ⟨_, Weak.box (gx _) q1 q2 q3, ?_⟩
    rw [setC_setC, setC_same hb]
    exact k r q4 q5
  have c8 : CDiv 1 8 := by unfold CDiv; omega
  have mk : ∀ x y : Int, -(2 ^ 64) < y → y < 2 ^ 64 → CMul x y := fun x y p q => .inr ⟨p, q⟩
  have t7 : ∀ (i s c : Int), 0 ≤ i → T_law_take_7 (endsD P E) [some (.ptr b), some (.int m), some (.lst (cs.map D.int)), none, some (.int c)] (setC O b (.lst [.lst (cs.map D.int), .int i, .int 0, .int s])) := fun i s c hi => by
    unfold T_law_take_7 T_law_take_6 T_law_take_5
    try simp only [↓e_v0, ↓e_vS, ↓e_asg, ↓e_exp, ↓e_ret, ↓e_retN, ↓e_ifS, ↓e_next, ↓e_nev, ↓e_c, ↓e_op, ↓e_un, ↓e_te, ↓e_tru, ↓e_and, ↓e_or, ↓e_not, ↓e_andV, ↓e_orV, ↓e_notV, ↓e_if, ↓e_chain, ↓e_nil, ↓e_cons, ↓e_tup, ↓e_lst, ↓e_lstO, ↓e_cb, ↓e_call, ↓e_fld, ↓e_frz, ↓e_app, ↓e_setIx, ↓e_setF, ↓e_isT, ↓e_make, ↓e_itL, ↓e_itT, ↓e_rng1, ↓e_rng2, ↓e_yes, ↓e_gn, ↓e_lc, ↓e_lcO, ↓e_for, ↓e_brk, ↓e_cnt, ↓e_inOwn, ↓e_raise, ↓e_raiseT, ↓e_try, ↓e_tryN, ↓e_xf, ↓e_isX, ↓e_isO, ↓e_bin, ↓e_uno, ↓e_eqOwn, ↓e_meth, ↓f_max, ↓f_min, ↓f_abs, ↓f_sortI, ↓f_isN, ↓f_notN, ↓f_eqT, ↓f_neT, sz0, sz1, sz2, sz3, sz4, sz5, sz6, sz7, sz8, sz9, sz10, sz11, sz12, tgI, tgN, tgB, tgS, tgL, tgT, tgO, ↓f_ixT0, ↓f_ixT1, ↓f_ixT2, ↓f_ixL0, ↓f_ixL1, ↓f_ixL2, ↓f_ixL3, ↓f_ixT, ↓f_ixL, ↓f_ixP, ↓f_add, ↓f_addL, ↓f_addS, ↓f_sub, ↓f_mul, ↓f_mod, ↓f_div, ↓f_pow, ↓f_lt, ↓f_le, ↓f_gt, ↓f_ge, ↓f_eq, ↓f_ne, ↓f_int, ↓f_neg, ↓f_lenL, ↓f_lenT, ↓f_lenP, truL, truT, truI, truB, truN, objO, clsO, getF, putFs, putDs, tabAt, boolK, reduceCtorEq, List.mem_singleton, true_and, and_true, e_wipe0, e_wipe1, ex_c, getC_self, setC_self, delC_self, lstOf, List.set_cons_zero, List.set_cons_succ, setC_setC, at_0, at_1, at_2, at_3, set_0, set_1, set_2, set_3, List.length_cons, List.length_nil, List.length_map, ↓reduceIte, Bool.false_eq_true, decide_eq_true_eq, ↓e_seq, gx, mk]
    refine ⟨mk _ _ (by omega) (by omega), mk _ _ (by omega) (by omega), by omega, ⟨by omega, by omega⟩, mk _ _ (by omega) (by omega), by omega, by omega, h0, ?_⟩
    exact fin _ cs _ _ _ hc (by omega) (by omega) (Int.emod_nonneg _ (by omega)) (Int.emod_lt_of_pos _ h0)
  have t9 : ∀ (i a s : Int), 0 ≤ i → 0 ≤ a → T_law_take_9 (endsD P E) [some (.ptr b), some (.int m), some (.lst (cs.map D.int)), none, none] (setC O b (.lst [.lst (cs.map D.int), .int i, .int a, .int s])) := fun i a s hi ha => by
    unfold T_law_take_9
    try simp only [↓e_v0, ↓e_vS, ↓e_asg, ↓e_exp, ↓e_ret, ↓e_retN, ↓e_ifS, ↓e_next, ↓e_nev, ↓e_c, ↓e_op, ↓e_un, ↓e_te, ↓e_tru, ↓e_and, ↓e_or, ↓e_not, ↓e_andV, ↓e_orV, ↓e_notV, ↓e_if, ↓e_chain, ↓e_nil, ↓e_cons, ↓e_tup, ↓e_lst, ↓e_lstO, ↓e_cb, ↓e_call, ↓e_fld, ↓e_frz, ↓e_app, ↓e_setIx, ↓e_setF, ↓e_isT, ↓e_make, ↓e_itL, ↓e_itT, ↓e_rng1, ↓e_rng2, ↓e_yes, ↓e_gn, ↓e_lc, ↓e_lcO, ↓e_for, ↓e_brk, ↓e_cnt, ↓e_inOwn, ↓e_raise, ↓e_raiseT, ↓e_try, ↓e_tryN, ↓e_xf, ↓e_isX, ↓e_isO, ↓e_bin, ↓e_uno, ↓e_eqOwn, ↓e_meth, ↓f_max, ↓f_min, ↓f_abs, ↓f_sortI, ↓f_isN, ↓f_notN, ↓f_eqT, ↓f_neT, sz0, sz1, sz2, sz3, sz4, sz5, sz6, sz7, sz8, sz9, sz10, sz11, sz12, tgI, tgN, tgB, tgS, tgL, tgT, tgO, ↓f_ixT0, ↓f_ixT1, ↓f_ixT2, ↓f_ixL0, ↓f_ixL1, ↓f_ixL2, ↓f_ixL3, ↓f_ixT, ↓f_ixL, ↓f_ixP, ↓f_add, ↓f_addL, ↓f_addS, ↓f_sub, ↓f_mul, ↓f_mod, ↓f_div, ↓f_pow, ↓f_lt, ↓f_le, ↓f_gt, ↓f_ge, ↓f_eq, ↓f_ne, ↓f_int, ↓f_neg, ↓f_lenL, ↓f_lenT, ↓f_lenP, truL, truT, truI, truB, truN, objO, clsO, getF, putFs, putDs, tabAt, boolK, reduceCtorEq, List.mem_singleton, true_and, and_true, e_wipe0, e_wipe1, ex_c, getC_self, setC_self, delC_self, lstOf, List.set_cons_zero, List.set_cons_succ, setC_setC, at_0, at_1, at_2, at_3, set_0, set_1, set_2, set_3, List.length_cons, List.length_nil, List.length_map, ↓reduceIte, Bool.false_eq_true, decide_eq_true_eq, ↓e_seq, gx]
    by_cases c : 0 < a
    · rw [if_pos c]
      unfold T_law_take_3 T_law_take_2
      try simp only [↓e_v0, ↓e_vS, ↓e_asg, ↓e_exp, ↓e_ret, ↓e_retN, ↓e_ifS, ↓e_next, ↓e_nev, ↓e_c, ↓e_op, ↓e_un, ↓e_te, ↓e_tru, ↓e_and, ↓e_or, ↓e_not, ↓e_andV, ↓e_orV, ↓e_notV, ↓e_if, ↓e_chain, ↓e_nil, ↓e_cons, ↓e_tup, ↓e_lst, ↓e_lstO, ↓e_cb, ↓e_call, ↓e_fld, ↓e_frz, ↓e_app, ↓e_setIx, ↓e_setF, ↓e_isT, ↓e_make, ↓e_itL, ↓e_itT, ↓e_rng1, ↓e_rng2, ↓e_yes, ↓e_gn, ↓e_lc, ↓e_lcO, ↓e_for, ↓e_brk, ↓e_cnt, ↓e_inOwn, ↓e_raise, ↓e_raiseT, ↓e_try, ↓e_tryN, ↓e_xf, ↓e_isX, ↓e_isO, ↓e_bin, ↓e_uno, ↓e_eqOwn, ↓e_meth, ↓f_max, ↓f_min, ↓f_abs, ↓f_sortI, ↓f_isN, ↓f_notN, ↓f_eqT, ↓f_neT, sz0, sz1, sz2, sz3, sz4, sz5, sz6, sz7, sz8, sz9, sz10, sz11, sz12, tgI, tgN, tgB, tgS, tgL, tgT, tgO, ↓f_ixT0, ↓f_ixT1, ↓f_ixT2, ↓f_ixL0, ↓f_ixL1, ↓f_ixL2, ↓f_ixL3, ↓f_ixT, ↓f_ixL, ↓f_ixP, ↓f_add, ↓f_addL, ↓f_addS, ↓f_sub, ↓f_mul, ↓f_mod, ↓f_div, ↓f_pow, ↓f_lt, ↓f_le, ↓f_gt, ↓f_ge, ↓f_eq, ↓f_ne, ↓f_int, ↓f_neg, ↓f_lenL, ↓f_lenT, ↓f_lenP, truL, truT, truI, truB, truN, objO, clsO, getF, putFs, putDs, tabAt, boolK, reduceCtorEq, List.mem_singleton, true_and, and_true, e_wipe0, e_wipe1, ex_c, getC_self, setC_self, delC_self, lstOf, List.set_cons_zero, List.set_cons_succ, setC_setC, at_0, at_1, at_2, at_3, set_0, set_1, set_2, set_3, List.length_cons, List.length_nil, List.length_map, ↓reduceIte, Bool.false_eq_true, decide_eq_true_eq, ↓e_seq, gx]
      refine ⟨h0, ⟨h0, h1⟩, ?_⟩
      exact fin _ cs _ _ _ hc hi (Int.ediv_nonneg ha (by omega)) (Int.emod_nonneg _ (by omega)) (Int.emod_lt_of_pos _ h0)
    · rw [if_neg c]
      have e : a = 0 := by omega
      subst e
      unfold T_law_take_8
      try simp only [↓e_v0, ↓e_vS, ↓e_asg, ↓e_exp, ↓e_ret, ↓e_retN, ↓e_ifS, ↓e_next, ↓e_nev, ↓e_c, ↓e_op, ↓e_un, ↓e_te, ↓e_tru, ↓e_and, ↓e_or, ↓e_not, ↓e_andV, ↓e_orV, ↓e_notV, ↓e_if, ↓e_chain, ↓e_nil, ↓e_cons, ↓e_tup, ↓e_lst, ↓e_lstO, ↓e_cb, ↓e_call, ↓e_fld, ↓e_frz, ↓e_app, ↓e_setIx, ↓e_setF, ↓e_isT, ↓e_make, ↓e_itL, ↓e_itT, ↓e_rng1, ↓e_rng2, ↓e_yes, ↓e_gn, ↓e_lc, ↓e_lcO, ↓e_for, ↓e_brk, ↓e_cnt, ↓e_inOwn, ↓e_raise, ↓e_raiseT, ↓e_try, ↓e_tryN, ↓e_xf, ↓e_isX, ↓e_isO, ↓e_bin, ↓e_uno, ↓e_eqOwn, ↓e_meth, ↓f_max, ↓f_min, ↓f_abs, ↓f_sortI, ↓f_isN, ↓f_notN, ↓f_eqT, ↓f_neT, sz0, sz1, sz2, sz3, sz4, sz5, sz6, sz7, sz8, sz9, sz10, sz11, sz12, tgI, tgN, tgB, tgS, tgL, tgT, tgO, ↓f_ixT0, ↓f_ixT1, ↓f_ixT2, ↓f_ixL0, ↓f_ixL1, ↓f_ixL2, ↓f_ixL3, ↓f_ixT, ↓f_ixL, ↓f_ixP, ↓f_add, ↓f_addL, ↓f_addS, ↓f_sub, ↓f_mul, ↓f_mod, ↓f_div, ↓f_pow, ↓f_lt, ↓f_le, ↓f_gt, ↓f_ge, ↓f_eq, ↓f_ne, ↓f_int, ↓f_neg, ↓f_lenL, ↓f_lenT, ↓f_lenP, truL, truT, truI, truB, truN, objO, clsO, getF, putFs, putDs, tabAt, boolK, reduceCtorEq, List.mem_singleton, true_and, and_true, e_wipe0, e_wipe1, ex_c, getC_self, setC_self, delC_self, lstOf, List.set_cons_zero, List.set_cons_succ, setC_setC, at_0, at_1, at_2, at_3, set_0, set_1, set_2, set_3, List.length_cons, List.length_nil, List.length_map, ↓reduceIte, Bool.false_eq_true, decide_eq_true_eq, ↓e_seq, gx]
      by_cases c : i < (cs.length : Int)
      · rw [if_pos c]
        unfold T_law_take_4
        obtain ⟨n, rfl⟩ := Int.eq_ofNat_of_zero_le hi
        have hn : n < cs.length := by omega
        have ea : atI (cs.map D.int) (n : Int) = some (.int cs[n]) := atI_nat (by rw [List.getElem?_map, List.getElem?_eq_getElem hn]; rfl)
        try simp only [↓e_v0, ↓e_vS, ↓e_asg, ↓e_exp, ↓e_ret, ↓e_retN, ↓e_ifS, ↓e_next, ↓e_nev, ↓e_c, ↓e_op, ↓e_un, ↓e_te, ↓e_tru, ↓e_and, ↓e_or, ↓e_not, ↓e_andV, ↓e_orV, ↓e_notV, ↓e_if, ↓e_chain, ↓e_nil, ↓e_cons, ↓e_tup, ↓e_lst, ↓e_lstO, ↓e_cb, ↓e_call, ↓e_fld, ↓e_frz, ↓e_app, ↓e_setIx, ↓e_setF, ↓e_isT, ↓e_make, ↓e_itL, ↓e_itT, ↓e_rng1, ↓e_rng2, ↓e_yes, ↓e_gn, ↓e_lc, ↓e_lcO, ↓e_for, ↓e_brk, ↓e_cnt, ↓e_inOwn, ↓e_raise, ↓e_raiseT, ↓e_try, ↓e_tryN, ↓e_xf, ↓e_isX, ↓e_isO, ↓e_bin, ↓e_uno, ↓e_eqOwn, ↓e_meth, ↓f_max, ↓f_min, ↓f_abs, ↓f_sortI, ↓f_isN, ↓f_notN, ↓f_eqT, ↓f_neT, sz0, sz1, sz2, sz3, sz4, sz5, sz6, sz7, sz8, sz9, sz10, sz11, sz12, tgI, tgN, tgB, tgS, tgL, tgT, tgO, ↓f_ixT0, ↓f_ixT1, ↓f_ixT2, ↓f_ixL0, ↓f_ixL1, ↓f_ixL2, ↓f_ixL3, ↓f_ixT, ↓f_ixL, ↓f_ixP, ↓f_add, ↓f_addL, ↓f_addS, ↓f_sub, ↓f_mul, ↓f_mod, ↓f_div, ↓f_pow, ↓f_lt, ↓f_le, ↓f_gt, ↓f_ge, ↓f_eq, ↓f_ne, ↓f_int, ↓f_neg, ↓f_lenL, ↓f_lenT, ↓f_lenP, truL, truT, truI, truB, truN, objO, clsO, getF, putFs, putDs, tabAt, boolK, reduceCtorEq, List.mem_singleton, true_and, and_true, e_wipe0, e_wipe1, ex_c, getC_self, setC_self, delC_self, lstOf, List.set_cons_zero, List.set_cons_succ, setC_setC, at_0, at_1, at_2, at_3, set_0, set_1, set_2, set_3, List.length_cons, List.length_nil, List.length_map, ↓reduceIte, Bool.false_eq_true, decide_eq_true_eq, ↓e_seq, gx, ea]
        exact t7 _ _ _ hi
      · rw [if_neg c]
        exact t7 _ _ _ hi
  rw [hs]
  unfold T_law_take boxC
  try simp only [↓e_v0, ↓e_vS, ↓e_asg, ↓e_exp, ↓e_ret, ↓e_retN, ↓e_ifS, ↓e_next, ↓e_nev, ↓e_c, ↓e_op, ↓e_un, ↓e_te, ↓e_tru, ↓e_and, ↓e_or, ↓e_not, ↓e_andV, ↓e_orV, ↓e_notV, ↓e_if, ↓e_chain, ↓e_nil, ↓e_cons, ↓e_tup, ↓e_lst, ↓e_lstO, ↓e_cb, ↓e_call, ↓e_fld, ↓e_frz, ↓e_app, ↓e_setIx, ↓e_setF, ↓e_isT, ↓e_make, ↓e_itL, ↓e_itT, ↓e_rng1, ↓e_rng2, ↓e_yes, ↓e_gn, ↓e_lc, ↓e_lcO, ↓e_for, ↓e_brk, ↓e_cnt, ↓e_inOwn, ↓e_raise, ↓e_raiseT, ↓e_try, ↓e_tryN, ↓e_xf, ↓e_isX, ↓e_isO, ↓e_bin, ↓e_uno, ↓e_eqOwn, ↓e_meth, ↓f_max, ↓f_min, ↓f_abs, ↓f_sortI, ↓f_isN, ↓f_notN, ↓f_eqT, ↓f_neT, sz0, sz1, sz2, sz3, sz4, sz5, sz6, sz7, sz8, sz9, sz10, sz11, sz12, tgI, tgN, tgB, tgS, tgL, tgT, tgO, ↓f_ixT0, ↓f_ixT1, ↓f_ixT2, ↓f_ixL0, ↓f_ixL1, ↓f_ixL2, ↓f_ixL3, ↓f_ixT, ↓f_ixL, ↓f_ixP, ↓f_add, ↓f_addL, ↓f_addS, ↓f_sub, ↓f_mul, ↓f_mod, ↓f_div, ↓f_pow, ↓f_lt, ↓f_le, ↓f_gt, ↓f_ge, ↓f_eq, ↓f_ne, ↓f_int, ↓f_neg, ↓f_lenL, ↓f_lenT, ↓f_lenP, truL, truT, truI, truB, truN, objO, clsO, getF, putFs, putDs, tabAt, boolK, reduceCtorEq, List.mem_singleton, true_and, and_true, e_wipe0, e_wipe1, ex_c, getC_self, setC_self, delC_self, lstOf, List.set_cons_zero, List.set_cons_succ, setC_setC, at_0, at_1, at_2, at_3, set_0, set_1, set_2, set_3, List.length_cons, List.length_nil, List.length_map, ↓reduceIte, Bool.false_eq_true, decide_eq_true_eq, ↓e_seq, gx]
  unfold T_law_take_10
  try simp only [↓e_v0, ↓e_vS, ↓e_asg, ↓e_exp, ↓e_ret, ↓e_retN, ↓e_ifS, ↓e_next, ↓e_nev, ↓e_c, ↓e_op, ↓e_un, ↓e_te, ↓e_tru, ↓e_and, ↓e_or, ↓e_not, ↓e_andV, ↓e_orV, ↓e_notV, ↓e_if, ↓e_chain, ↓e_nil, ↓e_cons, ↓e_tup, ↓e_lst, ↓e_lstO, ↓e_cb, ↓e_call, ↓e_fld, ↓e_frz, ↓e_app, ↓e_setIx, ↓e_setF, ↓e_isT, ↓e_make, ↓e_itL, ↓e_itT, ↓e_rng1, ↓e_rng2, ↓e_yes, ↓e_gn, ↓e_lc, ↓e_lcO, ↓e_for, ↓e_brk, ↓e_cnt, ↓e_inOwn, ↓e_raise, ↓e_raiseT, ↓e_try, ↓e_tryN, ↓e_xf, ↓e_isX, ↓e_isO, ↓e_bin, ↓e_uno, ↓e_eqOwn, ↓e_meth, ↓f_max, ↓f_min, ↓f_abs, ↓f_sortI, ↓f_isN, ↓f_notN, ↓f_eqT, ↓f_neT, sz0, sz1, sz2, sz3, sz4, sz5, sz6, sz7, sz8, sz9, sz10, sz11, sz12, tgI, tgN, tgB, tgS, tgL, tgT, tgO, ↓f_ixT0, ↓f_ixT1, ↓f_ixT2, ↓f_ixL0, ↓f_ixL1, ↓f_ixL2, ↓f_ixL3, ↓f_ixT, ↓f_ixL, ↓f_ixP, ↓f_add, ↓f_addL, ↓f_addS, ↓f_sub, ↓f_mul, ↓f_mod, ↓f_div, ↓f_pow, ↓f_lt, ↓f_le, ↓f_gt, ↓f_ge, ↓f_eq, ↓f_ne, ↓f_int, ↓f_neg, ↓f_lenL, ↓f_lenT, ↓f_lenP, truL, truT, truI, truB, truN, objO, clsO, getF, putFs, putDs, tabAt, boolK, reduceCtorEq, List.mem_singleton, true_and, and_true, e_wipe0, e_wipe1, ex_c, getC_self, setC_self, delC_self, lstOf, List.set_cons_zero, List.set_cons_succ, setC_setC, at_0, at_1, at_2, at_3, set_0, set_1, set_2, set_3, List.length_cons, List.length_nil, List.length_map, ↓reduceIte, Bool.false_eq_true, decide_eq_true_eq, ↓e_seq, gx]
  by_cases c : a = 0
  · subst c
    rw [if_pos rfl]
    by_cases c : i < (cs.length : Int)
    · rw [if_pos c]
      obtain ⟨n, rfl⟩ := Int.eq_ofNat_of_zero_le hi
      have hn : n < cs.length := by omega
      have ea : atI (cs.map D.int) (n : Int) = some (.int cs[n]) := atI_nat (by rw [List.getElem?_map, List.getElem?_eq_getElem hn]; rfl)
      have p18 : CPow 10 18 := ⟨by omega, by omega, by decide⟩
      try simp only [↓e_v0, ↓e_vS, ↓e_asg, ↓e_exp, ↓e_ret, ↓e_retN, ↓e_ifS, ↓e_next, ↓e_nev, ↓e_c, ↓e_op, ↓e_un, ↓e_te, ↓e_tru, ↓e_and, ↓e_or, ↓e_not, ↓e_andV, ↓e_orV, ↓e_notV, ↓e_if, ↓e_chain, ↓e_nil, ↓e_cons, ↓e_tup, ↓e_lst, ↓e_lstO, ↓e_cb, ↓e_call, ↓e_fld, ↓e_frz, ↓e_app, ↓e_setIx, ↓e_setF, ↓e_isT, ↓e_make, ↓e_itL, ↓e_itT, ↓e_rng1, ↓e_rng2, ↓e_yes, ↓e_gn, ↓e_lc, ↓e_lcO, ↓e_for, ↓e_brk, ↓e_cnt, ↓e_inOwn, ↓e_raise, ↓e_raiseT, ↓e_try, ↓e_tryN, ↓e_xf, ↓e_isX, ↓e_isO, ↓e_bin, ↓e_uno, ↓e_eqOwn, ↓e_meth, ↓f_max, ↓f_min, ↓f_abs, ↓f_sortI, ↓f_isN, ↓f_notN, ↓f_eqT, ↓f_neT, sz0, sz1, sz2, sz3, sz4, sz5, sz6, sz7, sz8, sz9, sz10, sz11, sz12, tgI, tgN, tgB, tgS, tgL, tgT, tgO, ↓f_ixT0, ↓f_ixT1, ↓f_ixT2, ↓f_ixL0, ↓f_ixL1, ↓f_ixL2, ↓f_ixL3, ↓f_ixT, ↓f_ixL, ↓f_ixP, ↓f_add, ↓f_addL, ↓f_addS, ↓f_sub, ↓f_mul, ↓f_mod, ↓f_div, ↓f_pow, ↓f_lt, ↓f_le, ↓f_gt, ↓f_ge, ↓f_eq, ↓f_ne, ↓f_int, ↓f_neg, ↓f_lenL, ↓f_lenT, ↓f_lenP, truL, truT, truI, truB, truN, objO, clsO, getF, putFs, putDs, tabAt, boolK, reduceCtorEq, List.mem_singleton, true_and, and_true, e_wipe0, e_wipe1, ex_c, getC_self, setC_self, delC_self, lstOf, List.set_cons_zero, List.set_cons_succ, setC_setC, at_0, at_1, at_2, at_3, set_0, set_1, set_2, set_3, List.length_cons, List.length_nil, List.length_map, ↓reduceIte, Bool.false_eq_true, decide_eq_true_eq, ↓e_seq, gx, ea]
      refine ⟨p18, ?_⟩
      have e18 : (10 : Int) ^ Int.toNat 18 = 1000000000000000000 := by decide
      rw [e18]
      by_cases c : 1000000000000000000 < cs[n]
      · rw [if_pos c]
        unfold T_law_take_1 T_law_take_0
        try simp only [↓e_v0, ↓e_vS, ↓e_asg, ↓e_exp, ↓e_ret, ↓e_retN, ↓e_ifS, ↓e_next, ↓e_nev, ↓e_c, ↓e_op, ↓e_un, ↓e_te, ↓e_tru, ↓e_and, ↓e_or, ↓e_not, ↓e_andV, ↓e_orV, ↓e_notV, ↓e_if, ↓e_chain, ↓e_nil, ↓e_cons, ↓e_tup, ↓e_lst, ↓e_lstO, ↓e_cb, ↓e_call, ↓e_fld, ↓e_frz, ↓e_app, ↓e_setIx, ↓e_setF, ↓e_isT, ↓e_make, ↓e_itL, ↓e_itT, ↓e_rng1, ↓e_rng2, ↓e_yes, ↓e_gn, ↓e_lc, ↓e_lcO, ↓e_for, ↓e_brk, ↓e_cnt, ↓e_inOwn, ↓e_raise, ↓e_raiseT, ↓e_try, ↓e_tryN, ↓e_xf, ↓e_isX, ↓e_isO, ↓e_bin, ↓e_uno, ↓e_eqOwn, ↓e_meth, ↓f_max, ↓f_min, ↓f_abs, ↓f_sortI, ↓f_isN, ↓f_notN, ↓f_eqT, ↓f_neT, sz0, sz1, sz2, sz3, sz4, sz5, sz6, sz7, sz8, sz9, sz10, sz11, sz12, tgI, tgN, tgB, tgS, tgL, tgT, tgO, ↓f_ixT0, ↓f_ixT1, ↓f_ixT2, ↓f_ixL0, ↓f_ixL1, ↓f_ixL2, ↓f_ixL3, ↓f_ixT, ↓f_ixL, ↓f_ixP, ↓f_add, ↓f_addL, ↓f_addS, ↓f_sub, ↓f_mul, ↓f_mod, ↓f_div, ↓f_pow, ↓f_lt, ↓f_le, ↓f_gt, ↓f_ge, ↓f_eq, ↓f_ne, ↓f_int, ↓f_neg, ↓f_lenL, ↓f_lenT, ↓f_lenP, truL, truT, truI, truB, truN, objO, clsO, getF, putFs, putDs, tabAt, boolK, reduceCtorEq, List.mem_singleton, true_and, and_true, e_wipe0, e_wipe1, ex_c, getC_self, setC_self, delC_self, lstOf, List.set_cons_zero, List.set_cons_succ, setC_setC, at_0, at_1, at_2, at_3, set_0, set_1, set_2, set_3, List.length_cons, List.length_nil, List.length_map, ↓reduceIte, Bool.false_eq_true, decide_eq_true_eq, ↓e_seq, gx, ea, e18]
        exact ⟨p18, t9 _ _ _ (by omega) (by omega)⟩
      · rw [if_neg c]
        exact t9 _ _ _ hi ha
    · rw [if_neg c]
      try simp only [↓e_v0, ↓e_vS, ↓e_asg, ↓e_exp, ↓e_ret, ↓e_retN, ↓e_ifS, ↓e_next, ↓e_nev, ↓e_c, ↓e_op, ↓e_un, ↓e_te, ↓e_tru, ↓e_and, ↓e_or, ↓e_not, ↓e_andV, ↓e_orV, ↓e_notV, ↓e_if, ↓e_chain, ↓e_nil, ↓e_cons, ↓e_tup, ↓e_lst, ↓e_lstO, ↓e_cb, ↓e_call, ↓e_fld, ↓e_frz, ↓e_app, ↓e_setIx, ↓e_setF, ↓e_isT, ↓e_make, ↓e_itL, ↓e_itT, ↓e_rng1, ↓e_rng2, ↓e_yes, ↓e_gn, ↓e_lc, ↓e_lcO, ↓e_for, ↓e_brk, ↓e_cnt, ↓e_inOwn, ↓e_raise, ↓e_raiseT, ↓e_try, ↓e_tryN, ↓e_xf, ↓e_isX, ↓e_isO, ↓e_bin, ↓e_uno, ↓e_eqOwn, ↓e_meth, ↓f_max, ↓f_min, ↓f_abs, ↓f_sortI, ↓f_isN, ↓f_notN, ↓f_eqT, ↓f_neT, sz0, sz1, sz2, sz3, sz4, sz5, sz6, sz7, sz8, sz9, sz10, sz11, sz12, tgI, tgN, tgB, tgS, tgL, tgT, tgO, ↓f_ixT0, ↓f_ixT1, ↓f_ixT2, ↓f_ixL0, ↓f_ixL1, ↓f_ixL2, ↓f_ixL3, ↓f_ixT, ↓f_ixL, ↓f_ixP, ↓f_add, ↓f_addL, ↓f_addS, ↓f_sub, ↓f_mul, ↓f_mod, ↓f_div, ↓f_pow, ↓f_lt, ↓f_le, ↓f_gt, ↓f_ge, ↓f_eq, ↓f_ne, ↓f_int, ↓f_neg, ↓f_lenL, ↓f_lenT, ↓f_lenP, truL, truT, truI, truB, truN, objO, clsO, getF, putFs, putDs, tabAt, boolK, reduceCtorEq, List.mem_singleton, true_and, and_true, e_wipe0, e_wipe1, ex_c, getC_self, setC_self, delC_self, lstOf, List.set_cons_zero, List.set_cons_succ, setC_setC, at_0, at_1, at_2, at_3, set_0, set_1, set_2, set_3, List.length_cons, List.length_nil, List.length_map, ↓reduceIte, Bool.false_eq_true, decide_eq_true_eq, ↓e_seq]
      exact t9 _ _ _ hi ha
  · rw [if_neg c]
    try simp only [↓e_v0, ↓e_vS, ↓e_asg, ↓e_exp, ↓e_ret, ↓e_retN, ↓e_ifS, ↓e_next, ↓e_nev, ↓e_c, ↓e_op, ↓e_un, ↓e_te, ↓e_tru, ↓e_and, ↓e_or, ↓e_not, ↓e_andV, ↓e_orV, ↓e_notV, ↓e_if, ↓e_chain, ↓e_nil, ↓e_cons, ↓e_tup, ↓e_lst, ↓e_lstO, ↓e_cb, ↓e_call, ↓e_fld, ↓e_frz, ↓e_app, ↓e_setIx, ↓e_setF, ↓e_isT, ↓e_make, ↓e_itL, ↓e_itT, ↓e_rng1, ↓e_rng2, ↓e_yes, ↓e_gn, ↓e_lc, ↓e_lcO, ↓e_for, ↓e_brk, ↓e_cnt, ↓e_inOwn, ↓e_raise, ↓e_raiseT, ↓e_try, ↓e_tryN, ↓e_xf, ↓e_isX, ↓e_isO, ↓e_bin, ↓e_uno, ↓e_eqOwn, ↓e_meth, ↓f_max, ↓f_min, ↓f_abs, ↓f_sortI, ↓f_isN, ↓f_notN, ↓f_eqT, ↓f_neT, sz0, sz1, sz2, sz3, sz4, sz5, sz6, sz7, sz8, sz9, sz10, sz11, sz12, tgI, tgN, tgB, tgS, tgL, tgT, tgO, ↓f_ixT0, ↓f_ixT1, ↓f_ixT2, ↓f_ixL0, ↓f_ixL1, ↓f_ixL2, ↓f_ixL3, ↓f_ixT, ↓f_ixL, ↓f_ixP, ↓f_add, ↓f_addL, ↓f_addS, ↓f_sub, ↓f_mul, ↓f_mod, ↓f_div, ↓f_pow, ↓f_lt, ↓f_le, ↓f_gt, ↓f_ge, ↓f_eq, ↓f_ne, ↓f_int, ↓f_neg, ↓f_lenL, ↓f_lenT, ↓f_lenP, truL, truT, truI, truB, truN, objO, clsO, getF, putFs, putDs, tabAt, boolK, reduceCtorEq, List.mem_singleton, true_and, and_true, e_wipe0, e_wipe1, ex_c, getC_self, setC_self, delC_self, lstOf, List.set_cons_zero, List.set_cons_succ, setC_setC, at_0, at_1, at_2, at_3, set_0, set_1, set_2, set_3, List.length_cons, List.length_nil, List.length_map, ↓reduceIte, Bool.false_eq_true, decide_eq_true_eq, ↓e_seq]
    exact t9 _ _ _ hi ha
def S_law_box : DSp := fun ds O P E => ∃ ns salt, ds = [.scr ns, .int salt] ∧ ∀ b, freshC O b → P (.ptr b) ((b, .box) :: O)
def N_law_box : List Str := ["_law_script", "_law_salt", "_law_cell"]
def T_law_box : DS := (dRet (dLstO (dCons (dLc (dItL (dSlice (dVar 0) dNoP (dPart (dC (.int 63))))) (dgN 2) dYes (dCB fInt (dCons (dVar 2) dNil)) [2]) (dCons (dC (.int 0)) (dCons (dC (.int 0)) (dCons (dVar 1) dNil))))))

theorem pure_law_box : Pure N_law_box 2 S_law_box T_law_box := by
  rintro ds O P E ⟨ns, salt, rfl, k⟩
  refine ⟨rfl, Opn.now ?_⟩
  have hs : startD N_law_box [.scr ns, .int salt] = [some (.scr ns), some (.int salt), none] := rfl
  rw [hs]
  unfold T_law_box
  obtain ⟨ms, e, hm⟩ := cut_box ns
  try simp only [↓e_v0, ↓e_vS, ↓e_asg, ↓e_exp, ↓e_ret, ↓e_retN, ↓e_ifS, ↓e_next, ↓e_nev, ↓e_c, ↓e_op, ↓e_un, ↓e_te, ↓e_tru, ↓e_and, ↓e_or, ↓e_not, ↓e_andV, ↓e_orV, ↓e_notV, ↓e_if, ↓e_chain, ↓e_nil, ↓e_cons, ↓e_tup, ↓e_lst, ↓e_lstO, ↓e_cb, ↓e_call, ↓e_fld, ↓e_frz, ↓e_app, ↓e_setIx, ↓e_setF, ↓e_isT, ↓e_make, ↓e_itL, ↓e_itT, ↓e_rng1, ↓e_rng2, ↓e_yes, ↓e_gn, ↓e_lc, ↓e_lcO, ↓e_for, ↓e_brk, ↓e_cnt, ↓e_inOwn, ↓e_raise, ↓e_raiseT, ↓e_try, ↓e_tryN, ↓e_xf, ↓e_isX, ↓e_isO, ↓e_bin, ↓e_uno, ↓e_eqOwn, ↓e_meth, ↓f_max, ↓f_min, ↓f_abs, ↓f_sortI, ↓f_isN, ↓f_notN, ↓f_eqT, ↓f_neT, sz0, sz1, sz2, sz3, sz4, sz5, sz6, sz7, sz8, sz9, sz10, sz11, sz12, tgI, tgN, tgB, tgS, tgL, tgT, tgO, ↓f_ixT0, ↓f_ixT1, ↓f_ixT2, ↓f_ixL0, ↓f_ixL1, ↓f_ixL2, ↓f_ixL3, ↓f_ixT, ↓f_ixL, ↓f_ixP, ↓f_add, ↓f_addL, ↓f_addS, ↓f_sub, ↓f_mul, ↓f_mod, ↓f_div, ↓f_pow, ↓f_lt, ↓f_le, ↓f_gt, ↓f_ge, ↓f_eq, ↓f_ne, ↓f_int, ↓f_neg, ↓f_lenL, ↓f_lenT, ↓f_lenP, truL, truT, truI, truB, truN, objO, clsO, getF, putFs, putDs, tabAt, boolK, reduceCtorEq, List.mem_singleton, true_and, and_true, e_wipe0, e_wipe1, ex_c, getC_self, setC_self, delC_self, lstOf, List.set_cons_zero, List.set_cons_succ, setC_setC, at_0, at_1, at_2, at_3, set_0, set_1, set_2, set_3, List.length_cons, List.length_nil, List.length_map, ↓reduceIte, Bool.false_eq_true, decide_eq_true_eq, ↓e_seq, dSlice, dNoP, dPart, e]
  refine ⟨by omega, fun p hp => lc_map D.int (fun x hx acc C h => ?_) (fun q hq => ⟨_, Weak.toBox hm (Int.le_refl 0) (Int.le_refl 0), k q hq⟩)⟩
  unfold lcStep
  try simp only [↓e_v0, ↓e_vS, ↓e_asg, ↓e_exp, ↓e_ret, ↓e_retN, ↓e_ifS, ↓e_next, ↓e_nev, ↓e_c, ↓e_op, ↓e_un, ↓e_te, ↓e_tru, ↓e_and, ↓e_or, ↓e_not, ↓e_andV, ↓e_orV, ↓e_notV, ↓e_if, ↓e_chain, ↓e_nil, ↓e_cons, ↓e_tup, ↓e_lst, ↓e_lstO, ↓e_cb, ↓e_call, ↓e_fld, ↓e_frz, ↓e_app, ↓e_setIx, ↓e_setF, ↓e_isT, ↓e_make, ↓e_itL, ↓e_itT, ↓e_rng1, ↓e_rng2, ↓e_yes, ↓e_gn, ↓e_lc, ↓e_lcO, ↓e_for, ↓e_brk, ↓e_cnt, ↓e_inOwn, ↓e_raise, ↓e_raiseT, ↓e_try, ↓e_tryN, ↓e_xf, ↓e_isX, ↓e_isO, ↓e_bin, ↓e_uno, ↓e_eqOwn, ↓e_meth, ↓f_max, ↓f_min, ↓f_abs, ↓f_sortI, ↓f_isN, ↓f_notN, ↓f_eqT, ↓f_neT, sz0, sz1, sz2, sz3, sz4, sz5, sz6, sz7, sz8, sz9, sz10, sz11, sz12, tgI, tgN, tgB, tgS, tgL, tgT, tgO, ↓f_ixT0, ↓f_ixT1, ↓f_ixT2, ↓f_ixL0, ↓f_ixL1, ↓f_ixL2, ↓f_ixL3, ↓f_ixT, ↓f_ixL, ↓f_ixP, ↓f_add, ↓f_addL, ↓f_addS, ↓f_sub, ↓f_mul, ↓f_mod, ↓f_div, ↓f_pow, ↓f_lt, ↓f_le, ↓f_gt, ↓f_ge, ↓f_eq, ↓f_ne, ↓f_int, ↓f_neg, ↓f_lenL, ↓f_lenT, ↓f_lenP, truL, truT, truI, truB, truN, objO, clsO, getF, putFs, putDs, tabAt, boolK, reduceCtorEq, List.mem_singleton, true_and, and_true, e_wipe0, e_wipe1, ex_c, getC_self, setC_self, delC_self, lstOf, List.set_cons_zero, List.set_cons_succ, setC_setC, at_0, at_1, at_2, at_3, set_0, set_1, set_2, set_3, List.length_cons, List.length_nil, List.length_map, ↓reduceIte, Bool.false_eq_true, decide_eq_true_eq, ↓e_seq]
  exact h
def S_law_span : DSp := fun ds O P E => ∃ b, ds = [.ptr b] ∧ getC O b = some .box ∧ ∀ s, 4 ≤ s → s ≤ 300000 → P (.int s) O
def N_law_span : List Str := ["_law_box_here"]
def T_law_span : DS := (dRet (dOp fIx (dLst (dCons (dC (.int 4)) (dCons (dC (.int 12)) (dCons (dC (.int 50)) (dCons (dC (.int 300000)) dNil))))) (dCall S_law_take (dCons (dVar 0) (dCons (dC (.int 4)) dNil)))))

theorem pure_law_span : Pure N_law_span 1 S_law_span T_law_span := by
  rintro ds O P E ⟨b, rfl, hb, k⟩
  refine ⟨rfl, Opn.now ?_⟩
  have hs : startD N_law_span [.ptr b] = [some (.ptr b)] := rfl
  rw [hs]
  unfold T_law_span
  try simp only [↓e_v0, ↓e_vS, ↓e_asg, ↓e_exp, ↓e_ret, ↓e_retN, ↓e_ifS, ↓e_next, ↓e_nev, ↓e_c, ↓e_op, ↓e_un, ↓e_te, ↓e_tru, ↓e_and, ↓e_or, ↓e_not, ↓e_andV, ↓e_orV, ↓e_notV, ↓e_if, ↓e_chain, ↓e_nil, ↓e_cons, ↓e_tup, ↓e_lst, ↓e_lstO, ↓e_cb, ↓e_call, ↓e_fld, ↓e_frz, ↓e_app, ↓e_setIx, ↓e_setF, ↓e_isT, ↓e_make, ↓e_itL, ↓e_itT, ↓e_rng1, ↓e_rng2, ↓e_yes, ↓e_gn, ↓e_lc, ↓e_lcO, ↓e_for, ↓e_brk, ↓e_cnt, ↓e_inOwn, ↓e_raise, ↓e_raiseT, ↓e_try, ↓e_tryN, ↓e_xf, ↓e_isX, ↓e_isO, ↓e_bin, ↓e_uno, ↓e_eqOwn, ↓e_meth, ↓f_max, ↓f_min, ↓f_abs, ↓f_sortI, ↓f_isN, ↓f_notN, ↓f_eqT, ↓f_neT, sz0, sz1, sz2, sz3, sz4, sz5, sz6, sz7, sz8, sz9, sz10, sz11, sz12, tgI, tgN, tgB, tgS, tgL, tgT, tgO, ↓f_ixT0, ↓f_ixT1, ↓f_ixT2, ↓f_ixL0, ↓f_ixL1, ↓f_ixL2, ↓f_ixL3, ↓f_ixT, ↓f_ixL, ↓f_ixP, ↓f_add, ↓f_addL, ↓f_addS, ↓f_sub, ↓f_mul, ↓f_mod, ↓f_div, ↓f_pow, ↓f_lt, ↓f_le, ↓f_gt, ↓f_ge, ↓f_eq, ↓f_ne, ↓f_int, ↓f_neg, ↓f_lenL, ↓f_lenT, ↓f_lenP, truL, truT, truI, truB, truN, objO, clsO, getF, putFs, putDs, tabAt, boolK, reduceCtorEq, List.mem_singleton, true_and, and_true, e_wipe0, e_wipe1, ex_c, getC_self, setC_self, delC_self, lstOf, List.set_cons_zero, List.set_cons_succ, setC_setC, at_0, at_1, at_2, at_3, set_0, set_1, set_2, set_3, List.length_cons, List.length_nil, List.length_map, ↓reduceIte, Bool.false_eq_true, decide_eq_true_eq, ↓e_seq]
  refine ⟨b, 4, rfl, hb, by omega, by omega, fun r h0 h1 => ?_⟩
  try simp only [↓e_v0, ↓e_vS, ↓e_asg, ↓e_exp, ↓e_ret, ↓e_retN, ↓e_ifS, ↓e_next, ↓e_nev, ↓e_c, ↓e_op, ↓e_un, ↓e_te, ↓e_tru, ↓e_and, ↓e_or, ↓e_not, ↓e_andV, ↓e_orV, ↓e_notV, ↓e_if, ↓e_chain, ↓e_nil, ↓e_cons, ↓e_tup, ↓e_lst, ↓e_lstO, ↓e_cb, ↓e_call, ↓e_fld, ↓e_frz, ↓e_app, ↓e_setIx, ↓e_setF, ↓e_isT, ↓e_make, ↓e_itL, ↓e_itT, ↓e_rng1, ↓e_rng2, ↓e_yes, ↓e_gn, ↓e_lc, ↓e_lcO, ↓e_for, ↓e_brk, ↓e_cnt, ↓e_inOwn, ↓e_raise, ↓e_raiseT, ↓e_try, ↓e_tryN, ↓e_xf, ↓e_isX, ↓e_isO, ↓e_bin, ↓e_uno, ↓e_eqOwn, ↓e_meth, ↓f_max, ↓f_min, ↓f_abs, ↓f_sortI, ↓f_isN, ↓f_notN, ↓f_eqT, ↓f_neT, sz0, sz1, sz2, sz3, sz4, sz5, sz6, sz7, sz8, sz9, sz10, sz11, sz12, tgI, tgN, tgB, tgS, tgL, tgT, tgO, ↓f_ixT0, ↓f_ixT1, ↓f_ixT2, ↓f_ixL0, ↓f_ixL1, ↓f_ixL2, ↓f_ixL3, ↓f_ixT, ↓f_ixL, ↓f_ixP, ↓f_add, ↓f_addL, ↓f_addS, ↓f_sub, ↓f_mul, ↓f_mod, ↓f_div, ↓f_pow, ↓f_lt, ↓f_le, ↓f_gt, ↓f_ge, ↓f_eq, ↓f_ne, ↓f_int, ↓f_neg, ↓f_lenL, ↓f_lenT, ↓f_lenP, truL, truT, truI, truB, truN, objO, clsO, getF, putFs, putDs, tabAt, boolK, reduceCtorEq, List.mem_singleton, true_and, and_true, e_wipe0, e_wipe1, ex_c, getC_self, setC_self, delC_self, lstOf, List.set_cons_zero, List.set_cons_succ, setC_setC, at_0, at_1, at_2, at_3, set_0, set_1, set_2, set_3, List.length_cons, List.length_nil, List.length_map, ↓reduceIte, Bool.false_eq_true, decide_eq_true_eq, ↓e_seq]
  exact four (P := (endsD P E).rt) h0 h1 (weak_now (k _ (by omega) (by omega))) (weak_now (k _ (by omega) (by omega))) (weak_now (k _ (by omega) (by omega))) (weak_now (k _ (by omega) (by omega)))
def S_law_moved : DSp := fun ds O P E => ∃ b, ds = [.ptr b] ∧ getC O b = some .box ∧ ∀ s, P (.int s) O
def N_law_moved : List Str := ["_law_box_here"]
def T_law_moved : DS := (dRet (dOp fIx (dLst (dCons (dC (.int 0)) (dCons (dC (.int 0)) (dCons (dUn fNeg (dC (.int 7))) (dCons (dOp fPow (dC (.int 10)) (dC (.int 13))) (dCons (dUn fNeg (dOp fPow (dC (.int 10)) (dC (.int 20)))) dNil)))))) (dCall S_law_take (dCons (dVar 0) (dCons (dC (.int 5)) dNil)))))

theorem pure_law_moved : Pure N_law_moved 1 S_law_moved T_law_moved := by
  rintro ds O P E ⟨b, rfl, hb, k⟩
  refine ⟨rfl, Opn.now ?_⟩
  have hs : startD N_law_moved [.ptr b] = [some (.ptr b)] := rfl
  rw [hs]
  unfold T_law_moved
  try simp only [↓e_v0, ↓e_vS, ↓e_asg, ↓e_exp, ↓e_ret, ↓e_retN, ↓e_ifS, ↓e_next, ↓e_nev, ↓e_c, ↓e_op, ↓e_un, ↓e_te, ↓e_tru, ↓e_and, ↓e_or, ↓e_not, ↓e_andV, ↓e_orV, ↓e_notV, ↓e_if, ↓e_chain, ↓e_nil, ↓e_cons, ↓e_tup, ↓e_lst, ↓e_lstO, ↓e_cb, ↓e_call, ↓e_fld, ↓e_frz, ↓e_app, ↓e_setIx, ↓e_setF, ↓e_isT, ↓e_make, ↓e_itL, ↓e_itT, ↓e_rng1, ↓e_rng2, ↓e_yes, ↓e_gn, ↓e_lc, ↓e_lcO, ↓e_for, ↓e_brk, ↓e_cnt, ↓e_inOwn, ↓e_raise, ↓e_raiseT, ↓e_try, ↓e_tryN, ↓e_xf, ↓e_isX, ↓e_isO, ↓e_bin, ↓e_uno, ↓e_eqOwn, ↓e_meth, ↓f_max, ↓f_min, ↓f_abs, ↓f_sortI, ↓f_isN, ↓f_notN, ↓f_eqT, ↓f_neT, sz0, sz1, sz2, sz3, sz4, sz5, sz6, sz7, sz8, sz9, sz10, sz11, sz12, tgI, tgN, tgB, tgS, tgL, tgT, tgO, ↓f_ixT0, ↓f_ixT1, ↓f_ixT2, ↓f_ixL0, ↓f_ixL1, ↓f_ixL2, ↓f_ixL3, ↓f_ixT, ↓f_ixL, ↓f_ixP, ↓f_add, ↓f_addL, ↓f_addS, ↓f_sub, ↓f_mul, ↓f_mod, ↓f_div, ↓f_pow, ↓f_lt, ↓f_le, ↓f_gt, ↓f_ge, ↓f_eq, ↓f_ne, ↓f_int, ↓f_neg, ↓f_lenL, ↓f_lenT, ↓f_lenP, truL, truT, truI, truB, truN, objO, clsO, getF, putFs, putDs, tabAt, boolK, reduceCtorEq, List.mem_singleton, true_and, and_true, e_wipe0, e_wipe1, ex_c, getC_self, setC_self, delC_self, lstOf, List.set_cons_zero, List.set_cons_succ, setC_setC, at_0, at_1, at_2, at_3, set_0, set_1, set_2, set_3, List.length_cons, List.length_nil, List.length_map, ↓reduceIte, Bool.false_eq_true, decide_eq_true_eq, ↓e_seq]
  refine ⟨⟨by omega, by omega, by decide⟩, ⟨by omega, by omega, by decide⟩, b, 5, rfl, hb, by omega, by omega, fun r h0 h1 => ?_⟩
  try simp only [↓e_v0, ↓e_vS, ↓e_asg, ↓e_exp, ↓e_ret, ↓e_retN, ↓e_ifS, ↓e_next, ↓e_nev, ↓e_c, ↓e_op, ↓e_un, ↓e_te, ↓e_tru, ↓e_and, ↓e_or, ↓e_not, ↓e_andV, ↓e_orV, ↓e_notV, ↓e_if, ↓e_chain, ↓e_nil, ↓e_cons, ↓e_tup, ↓e_lst, ↓e_lstO, ↓e_cb, ↓e_call, ↓e_fld, ↓e_frz, ↓e_app, ↓e_setIx, ↓e_setF, ↓e_isT, ↓e_make, ↓e_itL, ↓e_itT, ↓e_rng1, ↓e_rng2, ↓e_yes, ↓e_gn, ↓e_lc, ↓e_lcO, ↓e_for, ↓e_brk, ↓e_cnt, ↓e_inOwn, ↓e_raise, ↓e_raiseT, ↓e_try, ↓e_tryN, ↓e_xf, ↓e_isX, ↓e_isO, ↓e_bin, ↓e_uno, ↓e_eqOwn, ↓e_meth, ↓f_max, ↓f_min, ↓f_abs, ↓f_sortI, ↓f_isN, ↓f_notN, ↓f_eqT, ↓f_neT, sz0, sz1, sz2, sz3, sz4, sz5, sz6, sz7, sz8, sz9, sz10, sz11, sz12, tgI, tgN, tgB, tgS, tgL, tgT, tgO, ↓f_ixT0, ↓f_ixT1, ↓f_ixT2, ↓f_ixL0, ↓f_ixL1, ↓f_ixL2, ↓f_ixL3, ↓f_ixT, ↓f_ixL, ↓f_ixP, ↓f_add, ↓f_addL, ↓f_addS, ↓f_sub, ↓f_mul, ↓f_mod, ↓f_div, ↓f_pow, ↓f_lt, ↓f_le, ↓f_gt, ↓f_ge, ↓f_eq, ↓f_ne, ↓f_int, ↓f_neg, ↓f_lenL, ↓f_lenT, ↓f_lenP, truL, truT, truI, truB, truN, objO, clsO, getF, putFs, putDs, tabAt, boolK, reduceCtorEq, List.mem_singleton, true_and, and_true, e_wipe0, e_wipe1, ex_c, getC_self, setC_self, delC_self, lstOf, List.set_cons_zero, List.set_cons_succ, setC_setC, at_0, at_1, at_2, at_3, set_0, set_1, set_2, set_3, List.length_cons, List.length_nil, List.length_map, ↓reduceIte, Bool.false_eq_true, decide_eq_true_eq, ↓e_seq]
  obtain ⟨d, hd, e⟩ := atI_lt (ds := [D.int 0, D.int 0, D.int (-7), D.int (10 ^ Int.toNat 13), D.int (-10 ^ Int.toNat 20)]) h0 (by simpa using h1)
  rw [e]
  simp only [List.mem_cons, List.not_mem_nil, or_false] at hd
  rcases hd with rfl | rfl | rfl | rfl | rfl <;> exact weak_now (k _)
def S_law_pair : DSp := fun ds O P E => ∃ b s m, ds = [.ptr b, .int s, .int m] ∧ getC O b = some .box ∧ 4 ≤ s ∧ s ≤ 300000 ∧ ∀ x : Int × Int, x.1 ≤ x.2 → P (pr x) O
def N_law_pair : List Str := ["_law_box_here", "_law_span_here", "_law_moved_here", "_law_bottom", "_law_wide"]
def T_law_pair_0 : DS := (dRet (dTup (dCons (dVar 3) (dCons (dOp fAdd (dVar 3) (dCall S_law_take (dCons (dVar 0) (dCons (dOp fAdd (dVar 4) (dC (.int 1))) dNil)))) dNil))))
def T_law_pair_1 : DS := (dSeq (dAsg 4 (dOp fIx (dLst (dCons (dC (.int 0)) (dCons (dC (.int 1)) (dCons (dC (.int 3)) (dCons (dVar 1) dNil))))) (dCall S_law_take (dCons (dVar 0) (dCons (dC (.int 4)) dNil))))) T_law_pair_0)
def T_law_pair : DS := (dSeq (dAsg 3 (dOp fAdd (dOp fSub (dCall S_law_take (dCons (dVar 0) (dCons (dOp fMul (dC (.int 2)) (dVar 1)) dNil))) (dVar 1)) (dVar 2))) T_law_pair_1)

theorem pure_law_pair : Pure N_law_pair 3 S_law_pair T_law_pair := by
  rintro ds O P E ⟨b, s, m, rfl, hb, h4, h5, k⟩
  refine ⟨rfl, Opn.now ?_⟩
  have hs : startD N_law_pair [.ptr b, .int s, .int m] = [some (.ptr b), some (.int s), some (.int m), none, none] := rfl
  rw [hs]
  unfold T_law_pair
  try simp only [↓e_v0, ↓e_vS, ↓e_asg, ↓e_exp, ↓e_ret, ↓e_retN, ↓e_ifS, ↓e_next, ↓e_nev, ↓e_c, ↓e_op, ↓e_un, ↓e_te, ↓e_tru, ↓e_and, ↓e_or, ↓e_not, ↓e_andV, ↓e_orV, ↓e_notV, ↓e_if, ↓e_chain, ↓e_nil, ↓e_cons, ↓e_tup, ↓e_lst, ↓e_lstO, ↓e_cb, ↓e_call, ↓e_fld, ↓e_frz, ↓e_app, ↓e_setIx, ↓e_setF, ↓e_isT, ↓e_make, ↓e_itL, ↓e_itT, ↓e_rng1, ↓e_rng2, ↓e_yes, ↓e_gn, ↓e_lc, ↓e_lcO, ↓e_for, ↓e_brk, ↓e_cnt, ↓e_inOwn, ↓e_raise, ↓e_raiseT, ↓e_try, ↓e_tryN, ↓e_xf, ↓e_isX, ↓e_isO, ↓e_bin, ↓e_uno, ↓e_eqOwn, ↓e_meth, ↓f_max, ↓f_min, ↓f_abs, ↓f_sortI, ↓f_isN, ↓f_notN, ↓f_eqT, ↓f_neT, sz0, sz1, sz2, sz3, sz4, sz5, sz6, sz7, sz8, sz9, sz10, sz11, sz12, tgI, tgN, tgB, tgS, tgL, tgT, tgO, ↓f_ixT0, ↓f_ixT1, ↓f_ixT2, ↓f_ixL0, ↓f_ixL1, ↓f_ixL2, ↓f_ixL3, ↓f_ixT, ↓f_ixL, ↓f_ixP, ↓f_add, ↓f_addL, ↓f_addS, ↓f_sub, ↓f_mul, ↓f_mod, ↓f_div, ↓f_pow, ↓f_lt, ↓f_le, ↓f_gt, ↓f_ge, ↓f_eq, ↓f_ne, ↓f_int, ↓f_neg, ↓f_lenL, ↓f_lenT, ↓f_lenP, truL, truT, truI, truB, truN, objO, clsO, getF, putFs, putDs, tabAt, boolK, reduceCtorEq, List.mem_singleton, true_and, and_true, e_wipe0, e_wipe1, ex_c, getC_self, setC_self, delC_self, lstOf, List.set_cons_zero, List.set_cons_succ, setC_setC, at_0, at_1, at_2, at_3, set_0, set_1, set_2, set_3, List.length_cons, List.length_nil, List.length_map, ↓reduceIte, Bool.false_eq_true, decide_eq_true_eq, ↓e_seq]
  refine ⟨.inl ⟨by omega, by omega⟩, b, 2 * s, rfl, hb, by omega, by omega, fun r h0 h1 => ?_⟩
  try simp only [↓e_v0, ↓e_vS, ↓e_asg, ↓e_exp, ↓e_ret, ↓e_retN, ↓e_ifS, ↓e_next, ↓e_nev, ↓e_c, ↓e_op, ↓e_un, ↓e_te, ↓e_tru, ↓e_and, ↓e_or, ↓e_not, ↓e_andV, ↓e_orV, ↓e_notV, ↓e_if, ↓e_chain, ↓e_nil, ↓e_cons, ↓e_tup, ↓e_lst, ↓e_lstO, ↓e_cb, ↓e_call, ↓e_fld, ↓e_frz, ↓e_app, ↓e_setIx, ↓e_setF, ↓e_isT, ↓e_make, ↓e_itL, ↓e_itT, ↓e_rng1, ↓e_rng2, ↓e_yes, ↓e_gn, ↓e_lc, ↓e_lcO, ↓e_for, ↓e_brk, ↓e_cnt, ↓e_inOwn, ↓e_raise, ↓e_raiseT, ↓e_try, ↓e_tryN, ↓e_xf, ↓e_isX, ↓e_isO, ↓e_bin, ↓e_uno, ↓e_eqOwn, ↓e_meth, ↓f_max, ↓f_min, ↓f_abs, ↓f_sortI, ↓f_isN, ↓f_notN, ↓f_eqT, ↓f_neT, sz0, sz1, sz2, sz3, sz4, sz5, sz6, sz7, sz8, sz9, sz10, sz11, sz12, tgI, tgN, tgB, tgS, tgL, tgT, tgO, ↓f_ixT0, ↓f_ixT1, ↓f_ixT2, ↓f_ixL0, ↓f_ixL1, ↓f_ixL2, ↓f_ixL3, ↓f_ixT, ↓f_ixL, ↓f_ixP, ↓f_add, ↓f_addL, ↓f_addS, ↓f_sub, ↓f_mul, ↓f_mod, ↓f_div, ↓f_pow, ↓f_lt, ↓f_le, ↓f_gt, ↓f_ge, ↓f_eq, ↓f_ne, ↓f_int, ↓f_neg, ↓f_lenL, ↓f_lenT, ↓f_lenP, truL, truT, truI, truB, truN, objO, clsO, getF, putFs, putDs, tabAt, boolK, reduceCtorEq, List.mem_singleton, true_and, and_true, e_wipe0, e_wipe1, ex_c, getC_self, setC_self, delC_self, lstOf, List.set_cons_zero, List.set_cons_succ, setC_setC, at_0, at_1, at_2, at_3, set_0, set_1, set_2, set_3, List.length_cons, List.length_nil, List.length_map, ↓reduceIte, Bool.false_eq_true, decide_eq_true_eq, ↓e_seq]
  unfold T_law_pair_1
  try simp only [↓e_v0, ↓e_vS, ↓e_asg, ↓e_exp, ↓e_ret, ↓e_retN, ↓e_ifS, ↓e_next, ↓e_nev, ↓e_c, ↓e_op, ↓e_un, ↓e_te, ↓e_tru, ↓e_and, ↓e_or, ↓e_not, ↓e_andV, ↓e_orV, ↓e_notV, ↓e_if, ↓e_chain, ↓e_nil, ↓e_cons, ↓e_tup, ↓e_lst, ↓e_lstO, ↓e_cb, ↓e_call, ↓e_fld, ↓e_frz, ↓e_app, ↓e_setIx, ↓e_setF, ↓e_isT, ↓e_make, ↓e_itL, ↓e_itT, ↓e_rng1, ↓e_rng2, ↓e_yes, ↓e_gn, ↓e_lc, ↓e_lcO, ↓e_for, ↓e_brk, ↓e_cnt, ↓e_inOwn, ↓e_raise, ↓e_raiseT, ↓e_try, ↓e_tryN, ↓e_xf, ↓e_isX, ↓e_isO, ↓e_bin, ↓e_uno, ↓e_eqOwn, ↓e_meth, ↓f_max, ↓f_min, ↓f_abs, ↓f_sortI, ↓f_isN, ↓f_notN, ↓f_eqT, ↓f_neT, sz0, sz1, sz2, sz3, sz4, sz5, sz6, sz7, sz8, sz9, sz10, sz11, sz12, tgI, tgN, tgB, tgS, tgL, tgT, tgO, ↓f_ixT0, ↓f_ixT1, ↓f_ixT2, ↓f_ixL0, ↓f_ixL1, ↓f_ixL2, ↓f_ixL3, ↓f_ixT, ↓f_ixL, ↓f_ixP, ↓f_add, ↓f_addL, ↓f_addS, ↓f_sub, ↓f_mul, ↓f_mod, ↓f_div, ↓f_pow, ↓f_lt, ↓f_le, ↓f_gt, ↓f_ge, ↓f_eq, ↓f_ne, ↓f_int, ↓f_neg, ↓f_lenL, ↓f_lenT, ↓f_lenP, truL, truT, truI, truB, truN, objO, clsO, getF, putFs, putDs, tabAt, boolK, reduceCtorEq, List.mem_singleton, true_and, and_true, e_wipe0, e_wipe1, ex_c, getC_self, setC_self, delC_self, lstOf, List.set_cons_zero, List.set_cons_succ, setC_setC, at_0, at_1, at_2, at_3, set_0, set_1, set_2, set_3, List.length_cons, List.length_nil, List.length_map, ↓reduceIte, Bool.false_eq_true, decide_eq_true_eq, ↓e_seq]
  refine ⟨b, 4, rfl, hb, by omega, by omega, fun r' h0' h1' => ?_⟩
  try simp only [↓e_v0, ↓e_vS, ↓e_asg, ↓e_exp, ↓e_ret, ↓e_retN, ↓e_ifS, ↓e_next, ↓e_nev, ↓e_c, ↓e_op, ↓e_un, ↓e_te, ↓e_tru, ↓e_and, ↓e_or, ↓e_not, ↓e_andV, ↓e_orV, ↓e_notV, ↓e_if, ↓e_chain, ↓e_nil, ↓e_cons, ↓e_tup, ↓e_lst, ↓e_lstO, ↓e_cb, ↓e_call, ↓e_fld, ↓e_frz, ↓e_app, ↓e_setIx, ↓e_setF, ↓e_isT, ↓e_make, ↓e_itL, ↓e_itT, ↓e_rng1, ↓e_rng2, ↓e_yes, ↓e_gn, ↓e_lc, ↓e_lcO, ↓e_for, ↓e_brk, ↓e_cnt, ↓e_inOwn, ↓e_raise, ↓e_raiseT, ↓e_try, ↓e_tryN, ↓e_xf, ↓e_isX, ↓e_isO, ↓e_bin, ↓e_uno, ↓e_eqOwn, ↓e_meth, ↓f_max, ↓f_min, ↓f_abs, ↓f_sortI, ↓f_isN, ↓f_notN, ↓f_eqT, ↓f_neT, sz0, sz1, sz2, sz3, sz4, sz5, sz6, sz7, sz8, sz9, sz10, sz11, sz12, tgI, tgN, tgB, tgS, tgL, tgT, tgO, ↓f_ixT0, ↓f_ixT1, ↓f_ixT2, ↓f_ixL0, ↓f_ixL1, ↓f_ixL2, ↓f_ixL3, ↓f_ixT, ↓f_ixL, ↓f_ixP, ↓f_add, ↓f_addL, ↓f_addS, ↓f_sub, ↓f_mul, ↓f_mod, ↓f_div, ↓f_pow, ↓f_lt, ↓f_le, ↓f_gt, ↓f_ge, ↓f_eq, ↓f_ne, ↓f_int, ↓f_neg, ↓f_lenL, ↓f_lenT, ↓f_lenP, truL, truT, truI, truB, truN, objO, clsO, getF, putFs, putDs, tabAt, boolK, reduceCtorEq, List.mem_singleton, true_and, and_true, e_wipe0, e_wipe1, ex_c, getC_self, setC_self, delC_self, lstOf, List.set_cons_zero, List.set_cons_succ, setC_setC, at_0, at_1, at_2, at_3, set_0, set_1, set_2, set_3, List.length_cons, List.length_nil, List.length_map, ↓reduceIte, Bool.false_eq_true, decide_eq_true_eq, ↓e_seq]
  have fin : ∀ t : Int, 0 ≤ t → t ≤ 300000 → T_law_pair_0 (endsD P E) [some (.ptr b), some (.int s), some (.int m), some (.int (r - s + m)), some (.int t)] O := fun t ht ht' => by
    unfold T_law_pair_0
    try simp only [↓e_v0, ↓e_vS, ↓e_asg, ↓e_exp, ↓e_ret, ↓e_retN, ↓e_ifS, ↓e_next, ↓e_nev, ↓e_c, ↓e_op, ↓e_un, ↓e_te, ↓e_tru, ↓e_and, ↓e_or, ↓e_not, ↓e_andV, ↓e_orV, ↓e_notV, ↓e_if, ↓e_chain, ↓e_nil, ↓e_cons, ↓e_tup, ↓e_lst, ↓e_lstO, ↓e_cb, ↓e_call, ↓e_fld, ↓e_frz, ↓e_app, ↓e_setIx, ↓e_setF, ↓e_isT, ↓e_make, ↓e_itL, ↓e_itT, ↓e_rng1, ↓e_rng2, ↓e_yes, ↓e_gn, ↓e_lc, ↓e_lcO, ↓e_for, ↓e_brk, ↓e_cnt, ↓e_inOwn, ↓e_raise, ↓e_raiseT, ↓e_try, ↓e_tryN, ↓e_xf, ↓e_isX, ↓e_isO, ↓e_bin, ↓e_uno, ↓e_eqOwn, ↓e_meth, ↓f_max, ↓f_min, ↓f_abs, ↓f_sortI, ↓f_isN, ↓f_notN, ↓f_eqT, ↓f_neT, sz0, sz1, sz2, sz3, sz4, sz5, sz6, sz7, sz8, sz9, sz10, sz11, sz12, tgI, tgN, tgB, tgS, tgL, tgT, tgO, ↓f_ixT0, ↓f_ixT1, ↓f_ixT2, ↓f_ixL0, ↓f_ixL1, ↓f_ixL2, ↓f_ixL3, ↓f_ixT, ↓f_ixL, ↓f_ixP, ↓f_add, ↓f_addL, ↓f_addS, ↓f_sub, ↓f_mul, ↓f_mod, ↓f_div, ↓f_pow, ↓f_lt, ↓f_le, ↓f_gt, ↓f_ge, ↓f_eq, ↓f_ne, ↓f_int, ↓f_neg, ↓f_lenL, ↓f_lenT, ↓f_lenP, truL, truT, truI, truB, truN, objO, clsO, getF, putFs, putDs, tabAt, boolK, reduceCtorEq, List.mem_singleton, true_and, and_true, e_wipe0, e_wipe1, ex_c, getC_self, setC_self, delC_self, lstOf, List.set_cons_zero, List.set_cons_succ, setC_setC, at_0, at_1, at_2, at_3, set_0, set_1, set_2, set_3, List.length_cons, List.length_nil, List.length_map, ↓reduceIte, Bool.false_eq_true, decide_eq_true_eq, ↓e_seq]
    refine ⟨b, t + 1, rfl, hb, by omega, by omega, fun u hu hu' => ?_⟩
    try simp only [↓e_v0, ↓e_vS, ↓e_asg, ↓e_exp, ↓e_ret, ↓e_retN, ↓e_ifS, ↓e_next, ↓e_nev, ↓e_c, ↓e_op, ↓e_un, ↓e_te, ↓e_tru, ↓e_and, ↓e_or, ↓e_not, ↓e_andV, ↓e_orV, ↓e_notV, ↓e_if, ↓e_chain, ↓e_nil, ↓e_cons, ↓e_tup, ↓e_lst, ↓e_lstO, ↓e_cb, ↓e_call, ↓e_fld, ↓e_frz, ↓e_app, ↓e_setIx, ↓e_setF, ↓e_isT, ↓e_make, ↓e_itL, ↓e_itT, ↓e_rng1, ↓e_rng2, ↓e_yes, ↓e_gn, ↓e_lc, ↓e_lcO, ↓e_for, ↓e_brk, ↓e_cnt, ↓e_inOwn, ↓e_raise, ↓e_raiseT, ↓e_try, ↓e_tryN, ↓e_xf, ↓e_isX, ↓e_isO, ↓e_bin, ↓e_uno, ↓e_eqOwn, ↓e_meth, ↓f_max, ↓f_min, ↓f_abs, ↓f_sortI, ↓f_isN, ↓f_notN, ↓f_eqT, ↓f_neT, sz0, sz1, sz2, sz3, sz4, sz5, sz6, sz7, sz8, sz9, sz10, sz11, sz12, tgI, tgN, tgB, tgS, tgL, tgT, tgO, ↓f_ixT0, ↓f_ixT1, ↓f_ixT2, ↓f_ixL0, ↓f_ixL1, ↓f_ixL2, ↓f_ixL3, ↓f_ixT, ↓f_ixL, ↓f_ixP, ↓f_add, ↓f_addL, ↓f_addS, ↓f_sub, ↓f_mul, ↓f_mod, ↓f_div, ↓f_pow, ↓f_lt, ↓f_le, ↓f_gt, ↓f_ge, ↓f_eq, ↓f_ne, ↓f_int, ↓f_neg, ↓f_lenL, ↓f_lenT, ↓f_lenP, truL, truT, truI, truB, truN, objO, clsO, getF, putFs, putDs, tabAt, boolK, reduceCtorEq, List.mem_singleton, true_and, and_true, e_wipe0, e_wipe1, ex_c, getC_self, setC_self, delC_self, lstOf, List.set_cons_zero, List.set_cons_succ, setC_setC, at_0, at_1, at_2, at_3, set_0, set_1, set_2, set_3, List.length_cons, List.length_nil, List.length_map, ↓reduceIte, Bool.false_eq_true, decide_eq_true_eq, ↓e_seq]
    exact weak_now (k (r - s + m, r - s + m + u) (by show r - s + m ≤ r - s + m + u; omega))
  exact four (P := fun d O => T_law_pair_0 (endsD P E) [some (.ptr b), some (.int s), some (.int m), some (.int (r - s + m)), some d] O) h0' h1' (fin _ (by omega) (by omega)) (fin _ (by omega) (by omega)) (fin _ (by omega) (by omega)) (fin _ (by omega) (by omega))
def S_Stretch_init : DSp := fun ds O P E => ∃ q lo hi, ds = [.ptr q, .int lo, .int hi] ∧ getC O q = some (.ins .Stretch [] []) ∧ (lo ≤ hi → P .non (setC O q (.ins .Stretch [.low, .high] [.int lo, .int hi]))) ∧ (hi < lo → E ⟨.BadStretch, [.low, .high], [.int lo, .int hi]⟩ O)
def N_Stretch_init : List Str := ["self", "low", "high"]
def T_Stretch_init_0 : DS := (dRaise .BadStretch [.low, .high] (dCons (dVar 1) (dCons (dVar 2) dNil)))
def T_Stretch_init_1 : DS := (dSeq (dSetF [.Stretch] .low (dVar 0) (dVar 1)) (dSetF [.Stretch] .high (dVar 0) (dVar 2)))
def T_Stretch_init : DS := (dSeq (dIfS (dTe (dOp fGt (dVar 1) (dVar 2))) T_Stretch_init_0 dNext) T_Stretch_init_1)

theorem pure_Stretch_init : Pure N_Stretch_init 3 S_Stretch_init T_Stretch_init := by
  rintro ds O P E ⟨q, lo, hi, rfl, hq, k, kx⟩
  refine ⟨rfl, Opn.now ?_⟩
  have gx : ∀ c, getC (setC O q c) q = some c := fun c => getC_setC hq
  have hs : startD N_Stretch_init [.ptr q, .int lo, .int hi] = [some (.ptr q), some (.int lo), some (.int hi)] := rfl
  rw [hs]
  unfold T_Stretch_init
  try simp only [↓e_v0, ↓e_vS, ↓e_asg, ↓e_exp, ↓e_ret, ↓e_retN, ↓e_ifS, ↓e_next, ↓e_nev, ↓e_c, ↓e_op, ↓e_un, ↓e_te, ↓e_tru, ↓e_and, ↓e_or, ↓e_not, ↓e_andV, ↓e_orV, ↓e_notV, ↓e_if, ↓e_chain, ↓e_nil, ↓e_cons, ↓e_tup, ↓e_lst, ↓e_lstO, ↓e_cb, ↓e_call, ↓e_fld, ↓e_frz, ↓e_app, ↓e_setIx, ↓e_setF, ↓e_isT, ↓e_make, ↓e_itL, ↓e_itT, ↓e_rng1, ↓e_rng2, ↓e_yes, ↓e_gn, ↓e_lc, ↓e_lcO, ↓e_for, ↓e_brk, ↓e_cnt, ↓e_inOwn, ↓e_raise, ↓e_raiseT, ↓e_try, ↓e_tryN, ↓e_xf, ↓e_isX, ↓e_isO, ↓e_bin, ↓e_uno, ↓e_eqOwn, ↓e_meth, ↓f_max, ↓f_min, ↓f_abs, ↓f_sortI, ↓f_isN, ↓f_notN, ↓f_eqT, ↓f_neT, sz0, sz1, sz2, sz3, sz4, sz5, sz6, sz7, sz8, sz9, sz10, sz11, sz12, tgI, tgN, tgB, tgS, tgL, tgT, tgO, ↓f_ixT0, ↓f_ixT1, ↓f_ixT2, ↓f_ixL0, ↓f_ixL1, ↓f_ixL2, ↓f_ixL3, ↓f_ixT, ↓f_ixL, ↓f_ixP, ↓f_add, ↓f_addL, ↓f_addS, ↓f_sub, ↓f_mul, ↓f_mod, ↓f_div, ↓f_pow, ↓f_lt, ↓f_le, ↓f_gt, ↓f_ge, ↓f_eq, ↓f_ne, ↓f_int, ↓f_neg, ↓f_lenL, ↓f_lenT, ↓f_lenP, truL, truT, truI, truB, truN, objO, clsO, getF, putFs, putDs, tabAt, boolK, reduceCtorEq, List.mem_singleton, true_and, and_true, e_wipe0, e_wipe1, ex_c, getC_self, setC_self, delC_self, lstOf, List.set_cons_zero, List.set_cons_succ, setC_setC, at_0, at_1, at_2, at_3, set_0, set_1, set_2, set_3, List.length_cons, List.length_nil, List.length_map, ↓reduceIte, Bool.false_eq_true, decide_eq_true_eq, ↓e_seq]
  by_cases hn : hi < lo
  · rw [if_pos hn]
    unfold T_Stretch_init_0
    try simp only [↓e_v0, ↓e_vS, ↓e_asg, ↓e_exp, ↓e_ret, ↓e_retN, ↓e_ifS, ↓e_next, ↓e_nev, ↓e_c, ↓e_op, ↓e_un, ↓e_te, ↓e_tru, ↓e_and, ↓e_or, ↓e_not, ↓e_andV, ↓e_orV, ↓e_notV, ↓e_if, ↓e_chain, ↓e_nil, ↓e_cons, ↓e_tup, ↓e_lst, ↓e_lstO, ↓e_cb, ↓e_call, ↓e_fld, ↓e_frz, ↓e_app, ↓e_setIx, ↓e_setF, ↓e_isT, ↓e_make, ↓e_itL, ↓e_itT, ↓e_rng1, ↓e_rng2, ↓e_yes, ↓e_gn, ↓e_lc, ↓e_lcO, ↓e_for, ↓e_brk, ↓e_cnt, ↓e_inOwn, ↓e_raise, ↓e_raiseT, ↓e_try, ↓e_tryN, ↓e_xf, ↓e_isX, ↓e_isO, ↓e_bin, ↓e_uno, ↓e_eqOwn, ↓e_meth, ↓f_max, ↓f_min, ↓f_abs, ↓f_sortI, ↓f_isN, ↓f_notN, ↓f_eqT, ↓f_neT, sz0, sz1, sz2, sz3, sz4, sz5, sz6, sz7, sz8, sz9, sz10, sz11, sz12, tgI, tgN, tgB, tgS, tgL, tgT, tgO, ↓f_ixT0, ↓f_ixT1, ↓f_ixT2, ↓f_ixL0, ↓f_ixL1, ↓f_ixL2, ↓f_ixL3, ↓f_ixT, ↓f_ixL, ↓f_ixP, ↓f_add, ↓f_addL, ↓f_addS, ↓f_sub, ↓f_mul, ↓f_mod, ↓f_div, ↓f_pow, ↓f_lt, ↓f_le, ↓f_gt, ↓f_ge, ↓f_eq, ↓f_ne, ↓f_int, ↓f_neg, ↓f_lenL, ↓f_lenT, ↓f_lenP, truL, truT, truI, truB, truN, objO, clsO, getF, putFs, putDs, tabAt, boolK, reduceCtorEq, List.mem_singleton, true_and, and_true, e_wipe0, e_wipe1, ex_c, getC_self, setC_self, delC_self, lstOf, List.set_cons_zero, List.set_cons_succ, setC_setC, at_0, at_1, at_2, at_3, set_0, set_1, set_2, set_3, List.length_cons, List.length_nil, List.length_map, ↓reduceIte, Bool.false_eq_true, decide_eq_true_eq, ↓e_seq]
    exact ⟨by decide, weak_now (kx hn)⟩
  · rw [if_neg hn]
    unfold T_Stretch_init_1
    try simp only [↓e_v0, ↓e_vS, ↓e_asg, ↓e_exp, ↓e_ret, ↓e_retN, ↓e_ifS, ↓e_next, ↓e_nev, ↓e_c, ↓e_op, ↓e_un, ↓e_te, ↓e_tru, ↓e_and, ↓e_or, ↓e_not, ↓e_andV, ↓e_orV, ↓e_notV, ↓e_if, ↓e_chain, ↓e_nil, ↓e_cons, ↓e_tup, ↓e_lst, ↓e_lstO, ↓e_cb, ↓e_call, ↓e_fld, ↓e_frz, ↓e_app, ↓e_setIx, ↓e_setF, ↓e_isT, ↓e_make, ↓e_itL, ↓e_itT, ↓e_rng1, ↓e_rng2, ↓e_yes, ↓e_gn, ↓e_lc, ↓e_lcO, ↓e_for, ↓e_brk, ↓e_cnt, ↓e_inOwn, ↓e_raise, ↓e_raiseT, ↓e_try, ↓e_tryN, ↓e_xf, ↓e_isX, ↓e_isO, ↓e_bin, ↓e_uno, ↓e_eqOwn, ↓e_meth, ↓f_max, ↓f_min, ↓f_abs, ↓f_sortI, ↓f_isN, ↓f_notN, ↓f_eqT, ↓f_neT, sz0, sz1, sz2, sz3, sz4, sz5, sz6, sz7, sz8, sz9, sz10, sz11, sz12, tgI, tgN, tgB, tgS, tgL, tgT, tgO, ↓f_ixT0, ↓f_ixT1, ↓f_ixT2, ↓f_ixL0, ↓f_ixL1, ↓f_ixL2, ↓f_ixL3, ↓f_ixT, ↓f_ixL, ↓f_ixP, ↓f_add, ↓f_addL, ↓f_addS, ↓f_sub, ↓f_mul, ↓f_mod, ↓f_div, ↓f_pow, ↓f_lt, ↓f_le, ↓f_gt, ↓f_ge, ↓f_eq, ↓f_ne, ↓f_int, ↓f_neg, ↓f_lenL, ↓f_lenT, ↓f_lenP, truL, truT, truI, truB, truN, objO, clsO, getF, putFs, putDs, tabAt, boolK, reduceCtorEq, List.mem_singleton, true_and, and_true, e_wipe0, e_wipe1, ex_c, getC_self, setC_self, delC_self, lstOf, List.set_cons_zero, List.set_cons_succ, setC_setC, at_0, at_1, at_2, at_3, set_0, set_1, set_2, set_3, List.length_cons, List.length_nil, List.length_map, ↓reduceIte, Bool.false_eq_true, decide_eq_true_eq, ↓e_seq, hq, gx]
    refine ⟨by decide, by decide, ?_⟩
    exact weak_now (k (by omega))
def S_Stretch_eq : DSp := fun ds O P E => ∃ (x y : Int × Int), ds = [st x, st y] ∧ P (.bl (decide (x = y))) O
def N_Stretch_eq : List Str := ["self", "other"]
def T_Stretch_eq : DS := (dRet (dAndV (dIsO isoStretch (dVar 1)) (dAndV (dOp fEq (dFld [.Stretch] .low (dVar 0)) (dFld [.Stretch] .low (dVar 1))) (dOp fEq (dFld [.Stretch] .high (dVar 0)) (dFld [.Stretch] .high (dVar 1))))))

theorem pure_Stretch_eq : Pure N_Stretch_eq 2 S_Stretch_eq T_Stretch_eq := by
  rintro ds O P E ⟨x, y, rfl, k⟩
  refine ⟨rfl, Opn.now ?_⟩
  have hs : startD N_Stretch_eq [st x, st y] = [some (st x), some (st y)] := rfl
  rw [hs]
  unfold T_Stretch_eq
  have ei : isoStretch (.c .Stretch) = some true := rfl
  try simp only [↓e_v0, ↓e_vS, ↓e_asg, ↓e_exp, ↓e_ret, ↓e_retN, ↓e_ifS, ↓e_next, ↓e_nev, ↓e_c, ↓e_op, ↓e_un, ↓e_te, ↓e_tru, ↓e_and, ↓e_or, ↓e_not, ↓e_andV, ↓e_orV, ↓e_notV, ↓e_if, ↓e_chain, ↓e_nil, ↓e_cons, ↓e_tup, ↓e_lst, ↓e_lstO, ↓e_cb, ↓e_call, ↓e_fld, ↓e_frz, ↓e_app, ↓e_setIx, ↓e_setF, ↓e_isT, ↓e_make, ↓e_itL, ↓e_itT, ↓e_rng1, ↓e_rng2, ↓e_yes, ↓e_gn, ↓e_lc, ↓e_lcO, ↓e_for, ↓e_brk, ↓e_cnt, ↓e_inOwn, ↓e_raise, ↓e_raiseT, ↓e_try, ↓e_tryN, ↓e_xf, ↓e_isX, ↓e_isO, ↓e_bin, ↓e_uno, ↓e_eqOwn, ↓e_meth, ↓f_max, ↓f_min, ↓f_abs, ↓f_sortI, ↓f_isN, ↓f_notN, ↓f_eqT, ↓f_neT, sz0, sz1, sz2, sz3, sz4, sz5, sz6, sz7, sz8, sz9, sz10, sz11, sz12, tgI, tgN, tgB, tgS, tgL, tgT, tgO, ↓f_ixT0, ↓f_ixT1, ↓f_ixT2, ↓f_ixL0, ↓f_ixL1, ↓f_ixL2, ↓f_ixL3, ↓f_ixT, ↓f_ixL, ↓f_ixP, ↓f_add, ↓f_addL, ↓f_addS, ↓f_sub, ↓f_mul, ↓f_mod, ↓f_div, ↓f_pow, ↓f_lt, ↓f_le, ↓f_gt, ↓f_ge, ↓f_eq, ↓f_ne, ↓f_int, ↓f_neg, ↓f_lenL, ↓f_lenT, ↓f_lenP, truL, truT, truI, truB, truN, objO, clsO, getF, putFs, putDs, tabAt, boolK, reduceCtorEq, List.mem_singleton, true_and, and_true, e_wipe0, e_wipe1, ex_c, getC_self, setC_self, delC_self, lstOf, List.set_cons_zero, List.set_cons_succ, setC_setC, at_0, at_1, at_2, at_3, set_0, set_1, set_2, set_3, List.length_cons, List.length_nil, List.length_map, ↓reduceIte, Bool.false_eq_true, decide_eq_true_eq, ↓e_seq, ei]
  by_cases c : x.1 = y.1
  · rw [if_pos c]
    have e : decide (x = y) = decide (x.2 = y.2) := by
      have z : x = y ↔ x.2 = y.2 := by rw [Prod.ext_iff]; simp [c]
      simp [z]
    rw [e] at k
    exact weak_now k
  · rw [if_neg c]
    have e : decide (x = y) = false := by
      rw [decide_eq_false_iff_not]
      intro z
      rw [z] at c
      exact c rfl
    rw [e] at k
    exact weak_now k
def S_Stretch_and : DSp := fun ds O P E => ∃ (x y : Int × Int), ds = [st x, st y] ∧ (max x.1 y.1 ≤ min x.2 y.2 → P (st (max x.1 y.1, min x.2 y.2)) O) ∧ (min x.2 y.2 < max x.1 y.1 → E ⟨.Apart, [.first, .second], [pr x, pr y]⟩ O)
def N_Stretch_and : List Str := ["self", "other", "low", "high"]
def T_Stretch_and_0 : DS := (dRaise .Apart [.first, .second] (dCons (dTup (dCons (dFld [.Stretch] .low (dVar 0)) (dCons (dFld [.Stretch] .high (dVar 0)) dNil))) (dCons (dTup (dCons (dFld [.Stretch] .low (dVar 1)) (dCons (dFld [.Stretch] .high (dVar 1)) dNil))) dNil)))
def T_Stretch_and_1 : DS := (dRet (dMake .Stretch S_Stretch_init (dCons (dVar 2) (dCons (dVar 3) dNil))))
def T_Stretch_and_2 : DS := (dSeq (dIfS (dTe (dOp fGt (dVar 2) (dVar 3))) T_Stretch_and_0 dNext) T_Stretch_and_1)
def T_Stretch_and_3 : DS := (dSeq (dAsg 3 (dCB fMin2 (dCons (dFld [.Stretch] .high (dVar 0)) (dCons (dFld [.Stretch] .high (dVar 1)) dNil)))) T_Stretch_and_2)
def T_Stretch_and : DS := (dSeq (dAsg 2 (dCB fMax2 (dCons (dFld [.Stretch] .low (dVar 0)) (dCons (dFld [.Stretch] .low (dVar 1)) dNil)))) T_Stretch_and_3)

theorem pure_Stretch_and : Pure N_Stretch_and 2 S_Stretch_and T_Stretch_and := by
  rintro ds O P E ⟨x, y, rfl, k, kx⟩
  refine ⟨rfl, Opn.now ?_⟩
  have hs : startD N_Stretch_and [st x, st y] = [some (st x), some (st y), none, none] := rfl
  rw [hs]
  unfold T_Stretch_and
  try simp only [↓e_v0, ↓e_vS, ↓e_asg, ↓e_exp, ↓e_ret, ↓e_retN, ↓e_ifS, ↓e_next, ↓e_nev, ↓e_c, ↓e_op, ↓e_un, ↓e_te, ↓e_tru, ↓e_and, ↓e_or, ↓e_not, ↓e_andV, ↓e_orV, ↓e_notV, ↓e_if, ↓e_chain, ↓e_nil, ↓e_cons, ↓e_tup, ↓e_lst, ↓e_lstO, ↓e_cb, ↓e_call, ↓e_fld, ↓e_frz, ↓e_app, ↓e_setIx, ↓e_setF, ↓e_isT, ↓e_make, ↓e_itL, ↓e_itT, ↓e_rng1, ↓e_rng2, ↓e_yes, ↓e_gn, ↓e_lc, ↓e_lcO, ↓e_for, ↓e_brk, ↓e_cnt, ↓e_inOwn, ↓e_raise, ↓e_raiseT, ↓e_try, ↓e_tryN, ↓e_xf, ↓e_isX, ↓e_isO, ↓e_bin, ↓e_uno, ↓e_eqOwn, ↓e_meth, ↓f_max, ↓f_min, ↓f_abs, ↓f_sortI, ↓f_isN, ↓f_notN, ↓f_eqT, ↓f_neT, sz0, sz1, sz2, sz3, sz4, sz5, sz6, sz7, sz8, sz9, sz10, sz11, sz12, tgI, tgN, tgB, tgS, tgL, tgT, tgO, ↓f_ixT0, ↓f_ixT1, ↓f_ixT2, ↓f_ixL0, ↓f_ixL1, ↓f_ixL2, ↓f_ixL3, ↓f_ixT, ↓f_ixL, ↓f_ixP, ↓f_add, ↓f_addL, ↓f_addS, ↓f_sub, ↓f_mul, ↓f_mod, ↓f_div, ↓f_pow, ↓f_lt, ↓f_le, ↓f_gt, ↓f_ge, ↓f_eq, ↓f_ne, ↓f_int, ↓f_neg, ↓f_lenL, ↓f_lenT, ↓f_lenP, truL, truT, truI, truB, truN, objO, clsO, getF, putFs, putDs, tabAt, boolK, reduceCtorEq, List.mem_singleton, true_and, and_true, e_wipe0, e_wipe1, ex_c, getC_self, setC_self, delC_self, lstOf, List.set_cons_zero, List.set_cons_succ, setC_setC, at_0, at_1, at_2, at_3, set_0, set_1, set_2, set_3, List.length_cons, List.length_nil, List.length_map, ↓reduceIte, Bool.false_eq_true, decide_eq_true_eq, ↓e_seq]
  unfold T_Stretch_and_3
  try simp only [↓e_v0, ↓e_vS, ↓e_asg, ↓e_exp, ↓e_ret, ↓e_retN, ↓e_ifS, ↓e_next, ↓e_nev, ↓e_c, ↓e_op, ↓e_un, ↓e_te, ↓e_tru, ↓e_and, ↓e_or, ↓e_not, ↓e_andV, ↓e_orV, ↓e_notV, ↓e_if, ↓e_chain, ↓e_nil, ↓e_cons, ↓e_tup, ↓e_lst, ↓e_lstO, ↓e_cb, ↓e_call, ↓e_fld, ↓e_frz, ↓e_app, ↓e_setIx, ↓e_setF, ↓e_isT, ↓e_make, ↓e_itL, ↓e_itT, ↓e_rng1, ↓e_rng2, ↓e_yes, ↓e_gn, ↓e_lc, ↓e_lcO, ↓e_for, ↓e_brk, ↓e_cnt, ↓e_inOwn, ↓e_raise, ↓e_raiseT, ↓e_try, ↓e_tryN, ↓e_xf, ↓e_isX, ↓e_isO, ↓e_bin, ↓e_uno, ↓e_eqOwn, ↓e_meth, ↓f_max, ↓f_min, ↓f_abs, ↓f_sortI, ↓f_isN, ↓f_notN, ↓f_eqT, ↓f_neT, sz0, sz1, sz2, sz3, sz4, sz5, sz6, sz7, sz8, sz9, sz10, sz11, sz12, tgI, tgN, tgB, tgS, tgL, tgT, tgO, ↓f_ixT0, ↓f_ixT1, ↓f_ixT2, ↓f_ixL0, ↓f_ixL1, ↓f_ixL2, ↓f_ixL3, ↓f_ixT, ↓f_ixL, ↓f_ixP, ↓f_add, ↓f_addL, ↓f_addS, ↓f_sub, ↓f_mul, ↓f_mod, ↓f_div, ↓f_pow, ↓f_lt, ↓f_le, ↓f_gt, ↓f_ge, ↓f_eq, ↓f_ne, ↓f_int, ↓f_neg, ↓f_lenL, ↓f_lenT, ↓f_lenP, truL, truT, truI, truB, truN, objO, clsO, getF, putFs, putDs, tabAt, boolK, reduceCtorEq, List.mem_singleton, true_and, and_true, e_wipe0, e_wipe1, ex_c, getC_self, setC_self, delC_self, lstOf, List.set_cons_zero, List.set_cons_succ, setC_setC, at_0, at_1, at_2, at_3, set_0, set_1, set_2, set_3, List.length_cons, List.length_nil, List.length_map, ↓reduceIte, Bool.false_eq_true, decide_eq_true_eq, ↓e_seq]
  unfold T_Stretch_and_2
  try simp only [↓e_v0, ↓e_vS, ↓e_asg, ↓e_exp, ↓e_ret, ↓e_retN, ↓e_ifS, ↓e_next, ↓e_nev, ↓e_c, ↓e_op, ↓e_un, ↓e_te, ↓e_tru, ↓e_and, ↓e_or, ↓e_not, ↓e_andV, ↓e_orV, ↓e_notV, ↓e_if, ↓e_chain, ↓e_nil, ↓e_cons, ↓e_tup, ↓e_lst, ↓e_lstO, ↓e_cb, ↓e_call, ↓e_fld, ↓e_frz, ↓e_app, ↓e_setIx, ↓e_setF, ↓e_isT, ↓e_make, ↓e_itL, ↓e_itT, ↓e_rng1, ↓e_rng2, ↓e_yes, ↓e_gn, ↓e_lc, ↓e_lcO, ↓e_for, ↓e_brk, ↓e_cnt, ↓e_inOwn, ↓e_raise, ↓e_raiseT, ↓e_try, ↓e_tryN, ↓e_xf, ↓e_isX, ↓e_isO, ↓e_bin, ↓e_uno, ↓e_eqOwn, ↓e_meth, ↓f_max, ↓f_min, ↓f_abs, ↓f_sortI, ↓f_isN, ↓f_notN, ↓f_eqT, ↓f_neT, sz0, sz1, sz2, sz3, sz4, sz5, sz6, sz7, sz8, sz9, sz10, sz11, sz12, tgI, tgN, tgB, tgS, tgL, tgT, tgO, ↓f_ixT0, ↓f_ixT1, ↓f_ixT2, ↓f_ixL0, ↓f_ixL1, ↓f_ixL2, ↓f_ixL3, ↓f_ixT, ↓f_ixL, ↓f_ixP, ↓f_add, ↓f_addL, ↓f_addS, ↓f_sub, ↓f_mul, ↓f_mod, ↓f_div, ↓f_pow, ↓f_lt, ↓f_le, ↓f_gt, ↓f_ge, ↓f_eq, ↓f_ne, ↓f_int, ↓f_neg, ↓f_lenL, ↓f_lenT, ↓f_lenP, truL, truT, truI, truB, truN, objO, clsO, getF, putFs, putDs, tabAt, boolK, reduceCtorEq, List.mem_singleton, true_and, and_true, e_wipe0, e_wipe1, ex_c, getC_self, setC_self, delC_self, lstOf, List.set_cons_zero, List.set_cons_succ, setC_setC, at_0, at_1, at_2, at_3, set_0, set_1, set_2, set_3, List.length_cons, List.length_nil, List.length_map, ↓reduceIte, Bool.false_eq_true, decide_eq_true_eq, ↓e_seq]
  by_cases c : min x.2 y.2 < max x.1 y.1
  · rw [if_pos c]
    unfold T_Stretch_and_0
    try simp only [↓e_v0, ↓e_vS, ↓e_asg, ↓e_exp, ↓e_ret, ↓e_retN, ↓e_ifS, ↓e_next, ↓e_nev, ↓e_c, ↓e_op, ↓e_un, ↓e_te, ↓e_tru, ↓e_and, ↓e_or, ↓e_not, ↓e_andV, ↓e_orV, ↓e_notV, ↓e_if, ↓e_chain, ↓e_nil, ↓e_cons, ↓e_tup, ↓e_lst, ↓e_lstO, ↓e_cb, ↓e_call, ↓e_fld, ↓e_frz, ↓e_app, ↓e_setIx, ↓e_setF, ↓e_isT, ↓e_make, ↓e_itL, ↓e_itT, ↓e_rng1, ↓e_rng2, ↓e_yes, ↓e_gn, ↓e_lc, ↓e_lcO, ↓e_for, ↓e_brk, ↓e_cnt, ↓e_inOwn, ↓e_raise, ↓e_raiseT, ↓e_try, ↓e_tryN, ↓e_xf, ↓e_isX, ↓e_isO, ↓e_bin, ↓e_uno, ↓e_eqOwn, ↓e_meth, ↓f_max, ↓f_min, ↓f_abs, ↓f_sortI, ↓f_isN, ↓f_notN, ↓f_eqT, ↓f_neT, sz0, sz1, sz2, sz3, sz4, sz5, sz6, sz7, sz8, sz9, sz10, sz11, sz12, tgI, tgN, tgB, tgS, tgL, tgT, tgO, ↓f_ixT0, ↓f_ixT1, ↓f_ixT2, ↓f_ixL0, ↓f_ixL1, ↓f_ixL2, ↓f_ixL3, ↓f_ixT, ↓f_ixL, ↓f_ixP, ↓f_add, ↓f_addL, ↓f_addS, ↓f_sub, ↓f_mul, ↓f_mod, ↓f_div, ↓f_pow, ↓f_lt, ↓f_le, ↓f_gt, ↓f_ge, ↓f_eq, ↓f_ne, ↓f_int, ↓f_neg, ↓f_lenL, ↓f_lenT, ↓f_lenP, truL, truT, truI, truB, truN, objO, clsO, getF, putFs, putDs, tabAt, boolK, reduceCtorEq, List.mem_singleton, true_and, and_true, e_wipe0, e_wipe1, ex_c, getC_self, setC_self, delC_self, lstOf, List.set_cons_zero, List.set_cons_succ, setC_setC, at_0, at_1, at_2, at_3, set_0, set_1, set_2, set_3, List.length_cons, List.length_nil, List.length_map, ↓reduceIte, Bool.false_eq_true, decide_eq_true_eq, ↓e_seq]
    exact ⟨by decide, weak_now (kx c)⟩
  · rw [if_neg c]
    unfold T_Stretch_and_1
    try simp only [↓e_v0, ↓e_vS, ↓e_asg, ↓e_exp, ↓e_ret, ↓e_retN, ↓e_ifS, ↓e_next, ↓e_nev, ↓e_c, ↓e_op, ↓e_un, ↓e_te, ↓e_tru, ↓e_and, ↓e_or, ↓e_not, ↓e_andV, ↓e_orV, ↓e_notV, ↓e_if, ↓e_chain, ↓e_nil, ↓e_cons, ↓e_tup, ↓e_lst, ↓e_lstO, ↓e_cb, ↓e_call, ↓e_fld, ↓e_frz, ↓e_app, ↓e_setIx, ↓e_setF, ↓e_isT, ↓e_make, ↓e_itL, ↓e_itT, ↓e_rng1, ↓e_rng2, ↓e_yes, ↓e_gn, ↓e_lc, ↓e_lcO, ↓e_for, ↓e_brk, ↓e_cnt, ↓e_inOwn, ↓e_raise, ↓e_raiseT, ↓e_try, ↓e_tryN, ↓e_xf, ↓e_isX, ↓e_isO, ↓e_bin, ↓e_uno, ↓e_eqOwn, ↓e_meth, ↓f_max, ↓f_min, ↓f_abs, ↓f_sortI, ↓f_isN, ↓f_notN, ↓f_eqT, ↓f_neT, sz0, sz1, sz2, sz3, sz4, sz5, sz6, sz7, sz8, sz9, sz10, sz11, sz12, tgI, tgN, tgB, tgS, tgL, tgT, tgO, ↓f_ixT0, ↓f_ixT1, ↓f_ixT2, ↓f_ixL0, ↓f_ixL1, ↓f_ixL2, ↓f_ixL3, ↓f_ixT, ↓f_ixL, ↓f_ixP, ↓f_add, ↓f_addL, ↓f_addS, ↓f_sub, ↓f_mul, ↓f_mod, ↓f_div, ↓f_pow, ↓f_lt, ↓f_le, ↓f_gt, ↓f_ge, ↓f_eq, ↓f_ne, ↓f_int, ↓f_neg, ↓f_lenL, ↓f_lenT, ↓f_lenP, truL, truT, truI, truB, truN, objO, clsO, getF, putFs, putDs, tabAt, boolK, reduceCtorEq, List.mem_singleton, true_and, and_true, e_wipe0, e_wipe1, ex_c, getC_self, setC_self, delC_self, lstOf, List.set_cons_zero, List.set_cons_succ, setC_setC, at_0, at_1, at_2, at_3, set_0, set_1, set_2, set_3, List.length_cons, List.length_nil, List.length_map, ↓reduceIte, Bool.false_eq_true, decide_eq_true_eq, ↓e_seq]
    intro q hq
    refine ⟨q, _, _, rfl, getC_self, fun h => ?_, fun h => absurd h c⟩
    try simp only [↓e_v0, ↓e_vS, ↓e_asg, ↓e_exp, ↓e_ret, ↓e_retN, ↓e_ifS, ↓e_next, ↓e_nev, ↓e_c, ↓e_op, ↓e_un, ↓e_te, ↓e_tru, ↓e_and, ↓e_or, ↓e_not, ↓e_andV, ↓e_orV, ↓e_notV, ↓e_if, ↓e_chain, ↓e_nil, ↓e_cons, ↓e_tup, ↓e_lst, ↓e_lstO, ↓e_cb, ↓e_call, ↓e_fld, ↓e_frz, ↓e_app, ↓e_setIx, ↓e_setF, ↓e_isT, ↓e_make, ↓e_itL, ↓e_itT, ↓e_rng1, ↓e_rng2, ↓e_yes, ↓e_gn, ↓e_lc, ↓e_lcO, ↓e_for, ↓e_brk, ↓e_cnt, ↓e_inOwn, ↓e_raise, ↓e_raiseT, ↓e_try, ↓e_tryN, ↓e_xf, ↓e_isX, ↓e_isO, ↓e_bin, ↓e_uno, ↓e_eqOwn, ↓e_meth, ↓f_max, ↓f_min, ↓f_abs, ↓f_sortI, ↓f_isN, ↓f_notN, ↓f_eqT, ↓f_neT, sz0, sz1, sz2, sz3, sz4, sz5, sz6, sz7, sz8, sz9, sz10, sz11, sz12, tgI, tgN, tgB, tgS, tgL, tgT, tgO, ↓f_ixT0, ↓f_ixT1, ↓f_ixT2, ↓f_ixL0, ↓f_ixL1, ↓f_ixL2, ↓f_ixL3, ↓f_ixT, ↓f_ixL, ↓f_ixP, ↓f_add, ↓f_addL, ↓f_addS, ↓f_sub, ↓f_mul, ↓f_mod, ↓f_div, ↓f_pow, ↓f_lt, ↓f_le, ↓f_gt, ↓f_ge, ↓f_eq, ↓f_ne, ↓f_int, ↓f_neg, ↓f_lenL, ↓f_lenT, ↓f_lenP, truL, truT, truI, truB, truN, objO, clsO, getF, putFs, putDs, tabAt, boolK, reduceCtorEq, List.mem_singleton, true_and, and_true, e_wipe0, e_wipe1, ex_c, getC_self, setC_self, delC_self, lstOf, List.set_cons_zero, List.set_cons_succ, setC_setC, at_0, at_1, at_2, at_3, set_0, set_1, set_2, set_3, List.length_cons, List.length_nil, List.length_map, ↓reduceIte, Bool.false_eq_true, decide_eq_true_eq, ↓e_seq]
    exact weak_now (k h)
def S_Stretch_or : DSp := fun ds O P E => ∃ (x y : Int × Int), ds = [st x, st y] ∧ ok2 x ∧ ok2 y ∧ P (st (min x.1 y.1, max x.2 y.2)) O
def N_Stretch_or : List Str := ["self", "other"]
def T_Stretch_or : DS := (dRet (dMake .Stretch S_Stretch_init (dCons (dCB fMin2 (dCons (dFld [.Stretch] .low (dVar 0)) (dCons (dFld [.Stretch] .low (dVar 1)) dNil))) (dCons (dCB fMax2 (dCons (dFld [.Stretch] .high (dVar 0)) (dCons (dFld [.Stretch] .high (dVar 1)) dNil))) dNil))))

theorem pure_Stretch_or : Pure N_Stretch_or 2 S_Stretch_or T_Stretch_or := by
  rintro ds O P E ⟨x, y, rfl, hx, hy, k⟩
  refine ⟨rfl, Opn.now ?_⟩
  have hs : startD N_Stretch_or [st x, st y] = [some (st x), some (st y)] := rfl
  unfold ok2 at hx hy
  rw [hs]
  unfold T_Stretch_or
  try simp only [↓e_v0, ↓e_vS, ↓e_asg, ↓e_exp, ↓e_ret, ↓e_retN, ↓e_ifS, ↓e_next, ↓e_nev, ↓e_c, ↓e_op, ↓e_un, ↓e_te, ↓e_tru, ↓e_and, ↓e_or, ↓e_not, ↓e_andV, ↓e_orV, ↓e_notV, ↓e_if, ↓e_chain, ↓e_nil, ↓e_cons, ↓e_tup, ↓e_lst, ↓e_lstO, ↓e_cb, ↓e_call, ↓e_fld, ↓e_frz, ↓e_app, ↓e_setIx, ↓e_setF, ↓e_isT, ↓e_make, ↓e_itL, ↓e_itT, ↓e_rng1, ↓e_rng2, ↓e_yes, ↓e_gn, ↓e_lc, ↓e_lcO, ↓e_for, ↓e_brk, ↓e_cnt, ↓e_inOwn, ↓e_raise, ↓e_raiseT, ↓e_try, ↓e_tryN, ↓e_xf, ↓e_isX, ↓e_isO, ↓e_bin, ↓e_uno, ↓e_eqOwn, ↓e_meth, ↓f_max, ↓f_min, ↓f_abs, ↓f_sortI, ↓f_isN, ↓f_notN, ↓f_eqT, ↓f_neT, sz0, sz1, sz2, sz3, sz4, sz5, sz6, sz7, sz8, sz9, sz10, sz11, sz12, tgI, tgN, tgB, tgS, tgL, tgT, tgO, ↓f_ixT0, ↓f_ixT1, ↓f_ixT2, ↓f_ixL0, ↓f_ixL1, ↓f_ixL2, ↓f_ixL3, ↓f_ixT, ↓f_ixL, ↓f_ixP, ↓f_add, ↓f_addL, ↓f_addS, ↓f_sub, ↓f_mul, ↓f_mod, ↓f_div, ↓f_pow, ↓f_lt, ↓f_le, ↓f_gt, ↓f_ge, ↓f_eq, ↓f_ne, ↓f_int, ↓f_neg, ↓f_lenL, ↓f_lenT, ↓f_lenP, truL, truT, truI, truB, truN, objO, clsO, getF, putFs, putDs, tabAt, boolK, reduceCtorEq, List.mem_singleton, true_and, and_true, e_wipe0, e_wipe1, ex_c, getC_self, setC_self, delC_self, lstOf, List.set_cons_zero, List.set_cons_succ, setC_setC, at_0, at_1, at_2, at_3, set_0, set_1, set_2, set_3, List.length_cons, List.length_nil, List.length_map, ↓reduceIte, Bool.false_eq_true, decide_eq_true_eq, ↓e_seq]
  intro q hq
  refine ⟨q, _, _, rfl, getC_self, fun h => ?_, fun h => absurd h (by omega)⟩
  try simp only [↓e_v0, ↓e_vS, ↓e_asg, ↓e_exp, ↓e_ret, ↓e_retN, ↓e_ifS, ↓e_next, ↓e_nev, ↓e_c, ↓e_op, ↓e_un, ↓e_te, ↓e_tru, ↓e_and, ↓e_or, ↓e_not, ↓e_andV, ↓e_orV, ↓e_notV, ↓e_if, ↓e_chain, ↓e_nil, ↓e_cons, ↓e_tup, ↓e_lst, ↓e_lstO, ↓e_cb, ↓e_call, ↓e_fld, ↓e_frz, ↓e_app, ↓e_setIx, ↓e_setF, ↓e_isT, ↓e_make, ↓e_itL, ↓e_itT, ↓e_rng1, ↓e_rng2, ↓e_yes, ↓e_gn, ↓e_lc, ↓e_lcO, ↓e_for, ↓e_brk, ↓e_cnt, ↓e_inOwn, ↓e_raise, ↓e_raiseT, ↓e_try, ↓e_tryN, ↓e_xf, ↓e_isX, ↓e_isO, ↓e_bin, ↓e_uno, ↓e_eqOwn, ↓e_meth, ↓f_max, ↓f_min, ↓f_abs, ↓f_sortI, ↓f_isN, ↓f_notN, ↓f_eqT, ↓f_neT, sz0, sz1, sz2, sz3, sz4, sz5, sz6, sz7, sz8, sz9, sz10, sz11, sz12, tgI, tgN, tgB, tgS, tgL, tgT, tgO, ↓f_ixT0, ↓f_ixT1, ↓f_ixT2, ↓f_ixL0, ↓f_ixL1, ↓f_ixL2, ↓f_ixL3, ↓f_ixT, ↓f_ixL, ↓f_ixP, ↓f_add, ↓f_addL, ↓f_addS, ↓f_sub, ↓f_mul, ↓f_mod, ↓f_div, ↓f_pow, ↓f_lt, ↓f_le, ↓f_gt, ↓f_ge, ↓f_eq, ↓f_ne, ↓f_int, ↓f_neg, ↓f_lenL, ↓f_lenT, ↓f_lenP, truL, truT, truI, truB, truN, objO, clsO, getF, putFs, putDs, tabAt, boolK, reduceCtorEq, List.mem_singleton, true_and, and_true, e_wipe0, e_wipe1, ex_c, getC_self, setC_self, delC_self, lstOf, List.set_cons_zero, List.set_cons_succ, setC_setC, at_0, at_1, at_2, at_3, set_0, set_1, set_2, set_3, List.length_cons, List.length_nil, List.length_map, ↓reduceIte, Bool.false_eq_true, decide_eq_true_eq, ↓e_seq]
  exact weak_now k

def S_law_met : DSp := fun ds O P E => ∃ (x y : Int × Int), ds = [st x, st y] ∧ (max x.1 y.1 ≤ min x.2 y.2 → P (pr (max x.1 y.1, min x.2 y.2)) O) ∧ (min x.2 y.2 < max x.1 y.1 → P (.lst [pr x, pr y, .bl true, .bl false]) O)
def N_law_met : List Str := ["_law_one", "_law_two", "_law_piece", "e"]
def T_law_met_0 : DS := (dAsg 2 (dBin [(.Stretch, S_Stretch_and)] okSame (dVar 0) (dVar 1)))
def T_law_met_1 : DH := fun a ec d => (dRet (dLst (dCons (dXf [.Apart] .first a ec d (dVar 3)) (dCons (dXf [.Apart] .second a ec d (dVar 3)) (dCons (dAndV (dIsX isxNoLevel a ec d (dVar 3)) (dIsX isxGaugeError a ec d (dVar 3))) (dCons (dIsX isxBadStretch a ec d (dVar 3)) dNil))))))
def T_law_met_2 : DS := (dRet (dTup (dCons (dFld [.Stretch] .low (dVar 2)) (dCons (dFld [.Stretch] .high (dVar 2)) dNil))))
def T_law_met : DS := (dSeq (dTry 3 catApart T_law_met_0 T_law_met_1) T_law_met_2)

theorem pure_law_met : Pure N_law_met 2 S_law_met T_law_met := by
  rintro ds O P E ⟨x, y, rfl, k, kx⟩
  refine ⟨rfl, Opn.now ?_⟩
  have hs : startD N_law_met [st x, st y] = [some (st x), some (st y), none, none] := rfl
  rw [hs]
  unfold T_law_met
  try simp only [↓e_v0, ↓e_vS, ↓e_asg, ↓e_exp, ↓e_ret, ↓e_retN, ↓e_ifS, ↓e_next, ↓e_nev, ↓e_c, ↓e_op, ↓e_un, ↓e_te, ↓e_tru, ↓e_and, ↓e_or, ↓e_not, ↓e_andV, ↓e_orV, ↓e_notV, ↓e_if, ↓e_chain, ↓e_nil, ↓e_cons, ↓e_tup, ↓e_lst, ↓e_lstO, ↓e_cb, ↓e_call, ↓e_fld, ↓e_frz, ↓e_app, ↓e_setIx, ↓e_setF, ↓e_isT, ↓e_make, ↓e_itL, ↓e_itT, ↓e_rng1, ↓e_rng2, ↓e_yes, ↓e_gn, ↓e_lc, ↓e_lcO, ↓e_for, ↓e_brk, ↓e_cnt, ↓e_inOwn, ↓e_raise, ↓e_raiseT, ↓e_try, ↓e_tryN, ↓e_xf, ↓e_isX, ↓e_isO, ↓e_bin, ↓e_uno, ↓e_eqOwn, ↓e_meth, ↓f_max, ↓f_min, ↓f_abs, ↓f_sortI, ↓f_isN, ↓f_notN, ↓f_eqT, ↓f_neT, sz0, sz1, sz2, sz3, sz4, sz5, sz6, sz7, sz8, sz9, sz10, sz11, sz12, tgI, tgN, tgB, tgS, tgL, tgT, tgO, ↓f_ixT0, ↓f_ixT1, ↓f_ixT2, ↓f_ixL0, ↓f_ixL1, ↓f_ixL2, ↓f_ixL3, ↓f_ixT, ↓f_ixL, ↓f_ixP, ↓f_add, ↓f_addL, ↓f_addS, ↓f_sub, ↓f_mul, ↓f_mod, ↓f_div, ↓f_pow, ↓f_lt, ↓f_le, ↓f_gt, ↓f_ge, ↓f_eq, ↓f_ne, ↓f_int, ↓f_neg, ↓f_lenL, ↓f_lenT, ↓f_lenP, truL, truT, truI, truB, truN, objO, clsO, getF, putFs, putDs, tabAt, boolK, reduceCtorEq, List.mem_singleton, true_and, and_true, e_wipe0, e_wipe1, ex_c, getC_self, setC_self, delC_self, lstOf, List.set_cons_zero, List.set_cons_succ, setC_setC, at_0, at_1, at_2, at_3, set_0, set_1, set_2, set_3, List.length_cons, List.length_nil, List.length_map, ↓reduceIte, Bool.false_eq_true, decide_eq_true_eq, ↓e_seq]
  unfold T_law_met_0
  try simp only [↓e_v0, ↓e_vS, ↓e_asg, ↓e_exp, ↓e_ret, ↓e_retN, ↓e_ifS, ↓e_next, ↓e_nev, ↓e_c, ↓e_op, ↓e_un, ↓e_te, ↓e_tru, ↓e_and, ↓e_or, ↓e_not, ↓e_andV, ↓e_orV, ↓e_notV, ↓e_if, ↓e_chain, ↓e_nil, ↓e_cons, ↓e_tup, ↓e_lst, ↓e_lstO, ↓e_cb, ↓e_call, ↓e_fld, ↓e_frz, ↓e_app, ↓e_setIx, ↓e_setF, ↓e_isT, ↓e_make, ↓e_itL, ↓e_itT, ↓e_rng1, ↓e_rng2, ↓e_yes, ↓e_gn, ↓e_lc, ↓e_lcO, ↓e_for, ↓e_brk, ↓e_cnt, ↓e_inOwn, ↓e_raise, ↓e_raiseT, ↓e_try, ↓e_tryN, ↓e_xf, ↓e_isX, ↓e_isO, ↓e_bin, ↓e_uno, ↓e_eqOwn, ↓e_meth, ↓f_max, ↓f_min, ↓f_abs, ↓f_sortI, ↓f_isN, ↓f_notN, ↓f_eqT, ↓f_neT, sz0, sz1, sz2, sz3, sz4, sz5, sz6, sz7, sz8, sz9, sz10, sz11, sz12, tgI, tgN, tgB, tgS, tgL, tgT, tgO, ↓f_ixT0, ↓f_ixT1, ↓f_ixT2, ↓f_ixL0, ↓f_ixL1, ↓f_ixL2, ↓f_ixL3, ↓f_ixT, ↓f_ixL, ↓f_ixP, ↓f_add, ↓f_addL, ↓f_addS, ↓f_sub, ↓f_mul, ↓f_mod, ↓f_div, ↓f_pow, ↓f_lt, ↓f_le, ↓f_gt, ↓f_ge, ↓f_eq, ↓f_ne, ↓f_int, ↓f_neg, ↓f_lenL, ↓f_lenT, ↓f_lenP, truL, truT, truI, truB, truN, objO, clsO, getF, putFs, putDs, tabAt, boolK, reduceCtorEq, List.mem_singleton, true_and, and_true, e_wipe0, e_wipe1, ex_c, getC_self, setC_self, delC_self, lstOf, List.set_cons_zero, List.set_cons_succ, setC_setC, at_0, at_1, at_2, at_3, set_0, set_1, set_2, set_3, List.length_cons, List.length_nil, List.length_map, ↓reduceIte, Bool.false_eq_true, decide_eq_true_eq, ↓e_seq]
  refine ⟨rfl, x, y, rfl, fun h => ?_, fun h => ?_⟩
  · unfold T_law_met_2
    try simp only [↓e_v0, ↓e_vS, ↓e_asg, ↓e_exp, ↓e_ret, ↓e_retN, ↓e_ifS, ↓e_next, ↓e_nev, ↓e_c, ↓e_op, ↓e_un, ↓e_te, ↓e_tru, ↓e_and, ↓e_or, ↓e_not, ↓e_andV, ↓e_orV, ↓e_notV, ↓e_if, ↓e_chain, ↓e_nil, ↓e_cons, ↓e_tup, ↓e_lst, ↓e_lstO, ↓e_cb, ↓e_call, ↓e_fld, ↓e_frz, ↓e_app, ↓e_setIx, ↓e_setF, ↓e_isT, ↓e_make, ↓e_itL, ↓e_itT, ↓e_rng1, ↓e_rng2, ↓e_yes, ↓e_gn, ↓e_lc, ↓e_lcO, ↓e_for, ↓e_brk, ↓e_cnt, ↓e_inOwn, ↓e_raise, ↓e_raiseT, ↓e_try, ↓e_tryN, ↓e_xf, ↓e_isX, ↓e_isO, ↓e_bin, ↓e_uno, ↓e_eqOwn, ↓e_meth, ↓f_max, ↓f_min, ↓f_abs, ↓f_sortI, ↓f_isN, ↓f_notN, ↓f_eqT, ↓f_neT, sz0, sz1, sz2, sz3, sz4, sz5, sz6, sz7, sz8, sz9, sz10, sz11, sz12, tgI, tgN, tgB, tgS, tgL, tgT, tgO, ↓f_ixT0, ↓f_ixT1, ↓f_ixT2, ↓f_ixL0, ↓f_ixL1, ↓f_ixL2, ↓f_ixL3, ↓f_ixT, ↓f_ixL, ↓f_ixP, ↓f_add, ↓f_addL, ↓f_addS, ↓f_sub, ↓f_mul, ↓f_mod, ↓f_div, ↓f_pow, ↓f_lt, ↓f_le, ↓f_gt, ↓f_ge, ↓f_eq, ↓f_ne, ↓f_int, ↓f_neg, ↓f_lenL, ↓f_lenT, ↓f_lenP, truL, truT, truI, truB, truN, objO, clsO, getF, putFs, putDs, tabAt, boolK, reduceCtorEq, List.mem_singleton, true_and, and_true, e_wipe0, e_wipe1, ex_c, getC_self, setC_self, delC_self, lstOf, List.set_cons_zero, List.set_cons_succ, setC_setC, at_0, at_1, at_2, at_3, set_0, set_1, set_2, set_3, List.length_cons, List.length_nil, List.length_map, ↓reduceIte, Bool.false_eq_true, decide_eq_true_eq, ↓e_seq]
    exact weak_now (k h)
  · have ec : catApart .Apart = some true := rfl
    have e1 : isxNoLevel .Apart = some true := rfl
    have e2 : isxGaugeError .Apart = some true := rfl
    have e3 : isxBadStretch .Apart = some false := rfl
    try simp only [↓e_v0, ↓e_vS, ↓e_asg, ↓e_exp, ↓e_ret, ↓e_retN, ↓e_ifS, ↓e_next, ↓e_nev, ↓e_c, ↓e_op, ↓e_un, ↓e_te, ↓e_tru, ↓e_and, ↓e_or, ↓e_not, ↓e_andV, ↓e_orV, ↓e_notV, ↓e_if, ↓e_chain, ↓e_nil, ↓e_cons, ↓e_tup, ↓e_lst, ↓e_lstO, ↓e_cb, ↓e_call, ↓e_fld, ↓e_frz, ↓e_app, ↓e_setIx, ↓e_setF, ↓e_isT, ↓e_make, ↓e_itL, ↓e_itT, ↓e_rng1, ↓e_rng2, ↓e_yes, ↓e_gn, ↓e_lc, ↓e_lcO, ↓e_for, ↓e_brk, ↓e_cnt, ↓e_inOwn, ↓e_raise, ↓e_raiseT, ↓e_try, ↓e_tryN, ↓e_xf, ↓e_isX, ↓e_isO, ↓e_bin, ↓e_uno, ↓e_eqOwn, ↓e_meth, ↓f_max, ↓f_min, ↓f_abs, ↓f_sortI, ↓f_isN, ↓f_notN, ↓f_eqT, ↓f_neT, sz0, sz1, sz2, sz3, sz4, sz5, sz6, sz7, sz8, sz9, sz10, sz11, sz12, tgI, tgN, tgB, tgS, tgL, tgT, tgO, ↓f_ixT0, ↓f_ixT1, ↓f_ixT2, ↓f_ixL0, ↓f_ixL1, ↓f_ixL2, ↓f_ixL3, ↓f_ixT, ↓f_ixL, ↓f_ixP, ↓f_add, ↓f_addL, ↓f_addS, ↓f_sub, ↓f_mul, ↓f_mod, ↓f_div, ↓f_pow, ↓f_lt, ↓f_le, ↓f_gt, ↓f_ge, ↓f_eq, ↓f_ne, ↓f_int, ↓f_neg, ↓f_lenL, ↓f_lenT, ↓f_lenP, truL, truT, truI, truB, truN, objO, clsO, getF, putFs, putDs, tabAt, boolK, reduceCtorEq, List.mem_singleton, true_and, and_true, e_wipe0, e_wipe1, ex_c, getC_self, setC_self, delC_self, lstOf, List.set_cons_zero, List.set_cons_succ, setC_setC, at_0, at_1, at_2, at_3, set_0, set_1, set_2, set_3, List.length_cons, List.length_nil, List.length_map, ↓reduceIte, Bool.false_eq_true, decide_eq_true_eq, ↓e_seq, ec]
    intro p d hp
    unfold T_law_met_1
    try simp only [↓e_v0, ↓e_vS, ↓e_asg, ↓e_exp, ↓e_ret, ↓e_retN, ↓e_ifS, ↓e_next, ↓e_nev, ↓e_c, ↓e_op, ↓e_un, ↓e_te, ↓e_tru, ↓e_and, ↓e_or, ↓e_not, ↓e_andV, ↓e_orV, ↓e_notV, ↓e_if, ↓e_chain, ↓e_nil, ↓e_cons, ↓e_tup, ↓e_lst, ↓e_lstO, ↓e_cb, ↓e_call, ↓e_fld, ↓e_frz, ↓e_app, ↓e_setIx, ↓e_setF, ↓e_isT, ↓e_make, ↓e_itL, ↓e_itT, ↓e_rng1, ↓e_rng2, ↓e_yes, ↓e_gn, ↓e_lc, ↓e_lcO, ↓e_for, ↓e_brk, ↓e_cnt, ↓e_inOwn, ↓e_raise, ↓e_raiseT, ↓e_try, ↓e_tryN, ↓e_xf, ↓e_isX, ↓e_isO, ↓e_bin, ↓e_uno, ↓e_eqOwn, ↓e_meth, ↓f_max, ↓f_min, ↓f_abs, ↓f_sortI, ↓f_isN, ↓f_notN, ↓f_eqT, ↓f_neT, sz0, sz1, sz2, sz3, sz4, sz5, sz6, sz7, sz8, sz9, sz10, sz11, sz12, tgI, tgN, tgB, tgS, tgL, tgT, tgO, ↓f_ixT0, ↓f_ixT1, ↓f_ixT2, ↓f_ixL0, ↓f_ixL1, ↓f_ixL2, ↓f_ixL3, ↓f_ixT, ↓f_ixL, ↓f_ixP, ↓f_add, ↓f_addL, ↓f_addS, ↓f_sub, ↓f_mul, ↓f_mod, ↓f_div, ↓f_pow, ↓f_lt, ↓f_le, ↓f_gt, ↓f_ge, ↓f_eq, ↓f_ne, ↓f_int, ↓f_neg, ↓f_lenL, ↓f_lenT, ↓f_lenP, truL, truT, truI, truB, truN, objO, clsO, getF, putFs, putDs, tabAt, boolK, reduceCtorEq, List.mem_singleton, true_and, and_true, e_wipe0, e_wipe1, ex_c, getC_self, setC_self, delC_self, lstOf, List.set_cons_zero, List.set_cons_succ, setC_setC, at_0, at_1, at_2, at_3, set_0, set_1, set_2, set_3, List.length_cons, List.length_nil, List.length_map, ↓reduceIte, Bool.false_eq_true, decide_eq_true_eq, ↓e_seq, e1, e2, e3]
    exact weak_now (kx h)
def S_law_base : DSp := fun ds O P E => ∃ (x y : Int × Int), ds = [st x, st y] ∧ min x.2 y.2 < max x.1 y.1 ∧ P (.bl true) O
def N_law_base : List Str := ["_law_one", "_law_two", "_law_piece", "e"]
def T_law_base_0 : DS := (dAsg 2 (dBin [(.Stretch, S_Stretch_and)] okSame (dVar 0) (dVar 1)))
def T_law_base_1 : DH := fun a ec d => (dRet (dIsX isxValueError a ec d (dVar 3)))
def T_law_base : DS := (dSeq (dTry 3 catNoLevel T_law_base_0 T_law_base_1) (dRet (dOp fIsN (dVar 2) (dC .non))))

theorem pure_law_base : Pure N_law_base 2 S_law_base T_law_base := by
  rintro ds O P E ⟨x, y, rfl, h, k⟩
  refine ⟨rfl, Opn.now ?_⟩
  have hs : startD N_law_base [st x, st y] = [some (st x), some (st y), none, none] := rfl
  rw [hs]
  unfold T_law_base
  try simp only [↓e_v0, ↓e_vS, ↓e_asg, ↓e_exp, ↓e_ret, ↓e_retN, ↓e_ifS, ↓e_next, ↓e_nev, ↓e_c, ↓e_op, ↓e_un, ↓e_te, ↓e_tru, ↓e_and, ↓e_or, ↓e_not, ↓e_andV, ↓e_orV, ↓e_notV, ↓e_if, ↓e_chain, ↓e_nil, ↓e_cons, ↓e_tup, ↓e_lst, ↓e_lstO, ↓e_cb, ↓e_call, ↓e_fld, ↓e_frz, ↓e_app, ↓e_setIx, ↓e_setF, ↓e_isT, ↓e_make, ↓e_itL, ↓e_itT, ↓e_rng1, ↓e_rng2, ↓e_yes, ↓e_gn, ↓e_lc, ↓e_lcO, ↓e_for, ↓e_brk, ↓e_cnt, ↓e_inOwn, ↓e_raise, ↓e_raiseT, ↓e_try, ↓e_tryN, ↓e_xf, ↓e_isX, ↓e_isO, ↓e_bin, ↓e_uno, ↓e_eqOwn, ↓e_meth, ↓f_max, ↓f_min, ↓f_abs, ↓f_sortI, ↓f_isN, ↓f_notN, ↓f_eqT, ↓f_neT, sz0, sz1, sz2, sz3, sz4, sz5, sz6, sz7, sz8, sz9, sz10, sz11, sz12, tgI, tgN, tgB, tgS, tgL, tgT, tgO, ↓f_ixT0, ↓f_ixT1, ↓f_ixT2, ↓f_ixL0, ↓f_ixL1, ↓f_ixL2, ↓f_ixL3, ↓f_ixT, ↓f_ixL, ↓f_ixP, ↓f_add, ↓f_addL, ↓f_addS, ↓f_sub, ↓f_mul, ↓f_mod, ↓f_div, ↓f_pow, ↓f_lt, ↓f_le, ↓f_gt, ↓f_ge, ↓f_eq, ↓f_ne, ↓f_int, ↓f_neg, ↓f_lenL, ↓f_lenT, ↓f_lenP, truL, truT, truI, truB, truN, objO, clsO, getF, putFs, putDs, tabAt, boolK, reduceCtorEq, List.mem_singleton, true_and, and_true, e_wipe0, e_wipe1, ex_c, getC_self, setC_self, delC_self, lstOf, List.set_cons_zero, List.set_cons_succ, setC_setC, at_0, at_1, at_2, at_3, set_0, set_1, set_2, set_3, List.length_cons, List.length_nil, List.length_map, ↓reduceIte, Bool.false_eq_true, decide_eq_true_eq, ↓e_seq]
  unfold T_law_base_0
  try simp only [↓e_v0, ↓e_vS, ↓e_asg, ↓e_exp, ↓e_ret, ↓e_retN, ↓e_ifS, ↓e_next, ↓e_nev, ↓e_c, ↓e_op, ↓e_un, ↓e_te, ↓e_tru, ↓e_and, ↓e_or, ↓e_not, ↓e_andV, ↓e_orV, ↓e_notV, ↓e_if, ↓e_chain, ↓e_nil, ↓e_cons, ↓e_tup, ↓e_lst, ↓e_lstO, ↓e_cb, ↓e_call, ↓e_fld, ↓e_frz, ↓e_app, ↓e_setIx, ↓e_setF, ↓e_isT, ↓e_make, ↓e_itL, ↓e_itT, ↓e_rng1, ↓e_rng2, ↓e_yes, ↓e_gn, ↓e_lc, ↓e_lcO, ↓e_for, ↓e_brk, ↓e_cnt, ↓e_inOwn, ↓e_raise, ↓e_raiseT, ↓e_try, ↓e_tryN, ↓e_xf, ↓e_isX, ↓e_isO, ↓e_bin, ↓e_uno, ↓e_eqOwn, ↓e_meth, ↓f_max, ↓f_min, ↓f_abs, ↓f_sortI, ↓f_isN, ↓f_notN, ↓f_eqT, ↓f_neT, sz0, sz1, sz2, sz3, sz4, sz5, sz6, sz7, sz8, sz9, sz10, sz11, sz12, tgI, tgN, tgB, tgS, tgL, tgT, tgO, ↓f_ixT0, ↓f_ixT1, ↓f_ixT2, ↓f_ixL0, ↓f_ixL1, ↓f_ixL2, ↓f_ixL3, ↓f_ixT, ↓f_ixL, ↓f_ixP, ↓f_add, ↓f_addL, ↓f_addS, ↓f_sub, ↓f_mul, ↓f_mod, ↓f_div, ↓f_pow, ↓f_lt, ↓f_le, ↓f_gt, ↓f_ge, ↓f_eq, ↓f_ne, ↓f_int, ↓f_neg, ↓f_lenL, ↓f_lenT, ↓f_lenP, truL, truT, truI, truB, truN, objO, clsO, getF, putFs, putDs, tabAt, boolK, reduceCtorEq, List.mem_singleton, true_and, and_true, e_wipe0, e_wipe1, ex_c, getC_self, setC_self, delC_self, lstOf, List.set_cons_zero, List.set_cons_succ, setC_setC, at_0, at_1, at_2, at_3, set_0, set_1, set_2, set_3, List.length_cons, List.length_nil, List.length_map, ↓reduceIte, Bool.false_eq_true, decide_eq_true_eq, ↓e_seq]
  refine ⟨rfl, x, y, rfl, fun h' => absurd h (by omega), fun _ => ?_⟩
  have ec : catNoLevel .Apart = some true := rfl
  have e1 : isxValueError .Apart = some true := rfl
  try simp only [↓e_v0, ↓e_vS, ↓e_asg, ↓e_exp, ↓e_ret, ↓e_retN, ↓e_ifS, ↓e_next, ↓e_nev, ↓e_c, ↓e_op, ↓e_un, ↓e_te, ↓e_tru, ↓e_and, ↓e_or, ↓e_not, ↓e_andV, ↓e_orV, ↓e_notV, ↓e_if, ↓e_chain, ↓e_nil, ↓e_cons, ↓e_tup, ↓e_lst, ↓e_lstO, ↓e_cb, ↓e_call, ↓e_fld, ↓e_frz, ↓e_app, ↓e_setIx, ↓e_setF, ↓e_isT, ↓e_make, ↓e_itL, ↓e_itT, ↓e_rng1, ↓e_rng2, ↓e_yes, ↓e_gn, ↓e_lc, ↓e_lcO, ↓e_for, ↓e_brk, ↓e_cnt, ↓e_inOwn, ↓e_raise, ↓e_raiseT, ↓e_try, ↓e_tryN, ↓e_xf, ↓e_isX, ↓e_isO, ↓e_bin, ↓e_uno, ↓e_eqOwn, ↓e_meth, ↓f_max, ↓f_min, ↓f_abs, ↓f_sortI, ↓f_isN, ↓f_notN, ↓f_eqT, ↓f_neT, sz0, sz1, sz2, sz3, sz4, sz5, sz6, sz7, sz8, sz9, sz10, sz11, sz12, tgI, tgN, tgB, tgS, tgL, tgT, tgO, ↓f_ixT0, ↓f_ixT1, ↓f_ixT2, ↓f_ixL0, ↓f_ixL1, ↓f_ixL2, ↓f_ixL3, ↓f_ixT, ↓f_ixL, ↓f_ixP, ↓f_add, ↓f_addL, ↓f_addS, ↓f_sub, ↓f_mul, ↓f_mod, ↓f_div, ↓f_pow, ↓f_lt, ↓f_le, ↓f_gt, ↓f_ge, ↓f_eq, ↓f_ne, ↓f_int, ↓f_neg, ↓f_lenL, ↓f_lenT, ↓f_lenP, truL, truT, truI, truB, truN, objO, clsO, getF, putFs, putDs, tabAt, boolK, reduceCtorEq, List.mem_singleton, true_and, and_true, e_wipe0, e_wipe1, ex_c, getC_self, setC_self, delC_self, lstOf, List.set_cons_zero, List.set_cons_succ, setC_setC, at_0, at_1, at_2, at_3, set_0, set_1, set_2, set_3, List.length_cons, List.length_nil, List.length_map, ↓reduceIte, Bool.false_eq_true, decide_eq_true_eq, ↓e_seq, ec]
  intro p d hp
  unfold T_law_base_1
  try simp only [↓e_v0, ↓e_vS, ↓e_asg, ↓e_exp, ↓e_ret, ↓e_retN, ↓e_ifS, ↓e_next, ↓e_nev, ↓e_c, ↓e_op, ↓e_un, ↓e_te, ↓e_tru, ↓e_and, ↓e_or, ↓e_not, ↓e_andV, ↓e_orV, ↓e_notV, ↓e_if, ↓e_chain, ↓e_nil, ↓e_cons, ↓e_tup, ↓e_lst, ↓e_lstO, ↓e_cb, ↓e_call, ↓e_fld, ↓e_frz, ↓e_app, ↓e_setIx, ↓e_setF, ↓e_isT, ↓e_make, ↓e_itL, ↓e_itT, ↓e_rng1, ↓e_rng2, ↓e_yes, ↓e_gn, ↓e_lc, ↓e_lcO, ↓e_for, ↓e_brk, ↓e_cnt, ↓e_inOwn, ↓e_raise, ↓e_raiseT, ↓e_try, ↓e_tryN, ↓e_xf, ↓e_isX, ↓e_isO, ↓e_bin, ↓e_uno, ↓e_eqOwn, ↓e_meth, ↓f_max, ↓f_min, ↓f_abs, ↓f_sortI, ↓f_isN, ↓f_notN, ↓f_eqT, ↓f_neT, sz0, sz1, sz2, sz3, sz4, sz5, sz6, sz7, sz8, sz9, sz10, sz11, sz12, tgI, tgN, tgB, tgS, tgL, tgT, tgO, ↓f_ixT0, ↓f_ixT1, ↓f_ixT2, ↓f_ixL0, ↓f_ixL1, ↓f_ixL2, ↓f_ixL3, ↓f_ixT, ↓f_ixL, ↓f_ixP, ↓f_add, ↓f_addL, ↓f_addS, ↓f_sub, ↓f_mul, ↓f_mod, ↓f_div, ↓f_pow, ↓f_lt, ↓f_le, ↓f_gt, ↓f_ge, ↓f_eq, ↓f_ne, ↓f_int, ↓f_neg, ↓f_lenL, ↓f_lenT, ↓f_lenP, truL, truT, truI, truB, truN, objO, clsO, getF, putFs, putDs, tabAt, boolK, reduceCtorEq, List.mem_singleton, true_and, and_true, e_wipe0, e_wipe1, ex_c, getC_self, setC_self, delC_self, lstOf, List.set_cons_zero, List.set_cons_succ, setC_setC, at_0, at_1, at_2, at_3, set_0, set_1, set_2, set_3, List.length_cons, List.length_nil, List.length_map, ↓reduceIte, Bool.false_eq_true, decide_eq_true_eq, ↓e_seq, e1]
  exact weak_now k
theorem q_met (x y : Int × Int) : eqB (.lst [pr x, pr y, .bl true, .bl false]) (.lst [pr x, pr y, .bl true, .bl false]) = some true := eqB_self (x := .list [.tuple [.int x.1, .int x.2], .tuple [.int y.1, .int y.2], .bool true, .bool false]) (by simp [py, pys]) (by simp [SeqAt.shaped, PyData.canLay0, PyData.canLayAll0, PyData.depth, PyData.depthAll])
def N_law : List Str := ["_law_script", "_law_box_here", "_law_span_here", "_law_moved_here", "_law_left", "_law_right", "_law_near", "_law_one", "_law_two", "_law_bottom", "_law_top", "_law_hull", "_law_back"]
def T_law_0 : DS := (dAsg 5 (dTup (dCons (dOp fAdd (dOp fIx (dVar 4) (dC (.int 1))) (dVar 6)) (dCons (dOp fSub (dOp fAdd (dOp fAdd (dOp fIx (dVar 4) (dC (.int 1))) (dVar 6)) (dOp fIx (dVar 5) (dC (.int 1)))) (dOp fIx (dVar 5) (dC (.int 0)))) dNil))))
def T_law_1 : DS := (dIfS (dOr (dTe (dOp fNe (dCall S_law_met (dCons (dVar 7) (dCons (dVar 8) dNil))) (dTup (dCons (dVar 9) (dCons (dVar 10) dNil))))) (dTe (dOp fNe (dCall S_law_met (dCons (dVar 8) (dCons (dVar 7) dNil))) (dTup (dCons (dVar 9) (dCons (dVar 10) dNil)))))) (dRet (dC (.bl false))) dNext)
def T_law_2 : DS := (dIfS (dNot (dTe (dCall S_law_base (dCons (dVar 7) (dCons (dVar 8) dNil))))) (dRet (dC (.bl false))) dNext)
def T_law_3 : DS := (dSeq (dIfS (dOr (dTe (dOp fNe (dCall S_law_met (dCons (dVar 7) (dCons (dVar 8) dNil))) (dLst (dCons (dVar 4) (dCons (dVar 5) (dCons (dC (.bl true)) (dCons (dC (.bl false)) dNil))))))) (dTe (dOp fNe (dCall S_law_met (dCons (dVar 8) (dCons (dVar 7) dNil))) (dLst (dCons (dVar 5) (dCons (dVar 4) (dCons (dC (.bl true)) (dCons (dC (.bl false)) dNil)))))))) (dRet (dC (.bl false))) dNext) T_law_2)
def T_law_4 : DS := (dRet (dAndV (dOp fEq (dTup (dCons (dFld [.Stretch] .low (dVar 7)) (dCons (dFld [.Stretch] .high (dVar 7)) dNil))) (dVar 4)) (dOp fEq (dTup (dCons (dFld [.Stretch] .low (dVar 8)) (dCons (dFld [.Stretch] .high (dVar 8)) dNil))) (dVar 5))))
def T_law_5 : DS := (dSeq (dIfS (dOr (dTe (dOp fNe (dTup (dCons (dFld [.Stretch] .low (dVar 11)) (dCons (dFld [.Stretch] .high (dVar 11)) dNil))) (dTup (dCons (dCB fMin2 (dCons (dOp fIx (dVar 4) (dC (.int 0))) (dCons (dOp fIx (dVar 5) (dC (.int 0))) dNil))) (dCons (dCB fMax2 (dCons (dOp fIx (dVar 4) (dC (.int 1))) (dCons (dOp fIx (dVar 5) (dC (.int 1))) dNil))) dNil))))) (dTe (dEqOwn true [(.Stretch, S_Stretch_eq)] nf (dVar 11) (dVar 12)))) (dRet (dC (.bl false))) dNext) T_law_4)
def T_law_6 : DS := (dSeq (dAsg 12 (dBin [(.Stretch, S_Stretch_or)] okSame (dVar 8) (dVar 7))) T_law_5)
def T_law_7 : DS := (dSeq (dAsg 11 (dBin [(.Stretch, S_Stretch_or)] okSame (dVar 7) (dVar 8))) T_law_6)
def T_law_8 : DS := (dSeq (dIfS (dTe (dOp fLe (dVar 9) (dVar 10))) T_law_1 T_law_3) T_law_7)
def T_law_9 : DS := (dSeq (dAsg 10 (dCB fMin2 (dCons (dOp fIx (dVar 4) (dC (.int 1))) (dCons (dOp fIx (dVar 5) (dC (.int 1))) dNil)))) T_law_8)
def T_law_10 : DS := (dSeq (dAsg 9 (dCB fMax2 (dCons (dOp fIx (dVar 4) (dC (.int 0))) (dCons (dOp fIx (dVar 5) (dC (.int 0))) dNil)))) T_law_9)
def T_law_11 : DS := (dSeq (dAsg 8 (dMake .Stretch S_Stretch_init (dCons (dOp fIx (dVar 5) (dC (.int 0))) (dCons (dOp fIx (dVar 5) (dC (.int 1))) dNil)))) T_law_10)
def T_law_12 : DS := (dSeq (dAsg 7 (dMake .Stretch S_Stretch_init (dCons (dOp fIx (dVar 4) (dC (.int 0))) (dCons (dOp fIx (dVar 4) (dC (.int 1))) dNil)))) T_law_11)
def T_law_13 : DS := (dSeq (dIfS (dTe (dOp fLt (dVar 6) (dC (.int 3)))) T_law_0 dNext) T_law_12)
def T_law_14 : DS := (dSeq (dAsg 6 (dCall S_law_take (dCons (dVar 1) (dCons (dC (.int 5)) dNil)))) T_law_13)
def T_law_15 : DS := (dSeq (dAsg 5 (dCall S_law_pair (dCons (dVar 1) (dCons (dVar 2) (dCons (dVar 3) dNil))))) T_law_14)
def T_law_16 : DS := (dSeq (dAsg 4 (dCall S_law_pair (dCons (dVar 1) (dCons (dVar 2) (dCons (dVar 3) dNil))))) T_law_15)
def T_law_17 : DS := (dSeq (dAsg 3 (dCall S_law_moved (dCons (dVar 1) dNil))) T_law_16)
def T_law_18 : DS := (dSeq (dAsg 2 (dCall S_law_span (dCons (dVar 1) dNil))) T_law_17)
def T_law : DS := (dSeq (dAsg 1 (dCall S_law_box (dCons (dVar 0) (dCons (dC (.int 103)) dNil)))) T_law_18)

theorem t0_law {En : DEnds} {O : Sto} {a b c d : D} {x y : Int × Int} {nr : Int} {z : Sl} (h : En.nx (some a :: some b :: some c :: some d :: some (pr x) :: some (pr (x.2 + nr, x.2 + nr + y.2 - y.1)) :: some (.int nr) :: z) O) :
    T_law_0 En (some a :: some b :: some c :: some d :: some (pr x) :: some (pr y) :: some (.int nr) :: z) O := by
  unfold T_law_0
  try simp only [↓e_v0, ↓e_vS, ↓e_asg, ↓e_exp, ↓e_ret, ↓e_retN, ↓e_ifS, ↓e_next, ↓e_nev, ↓e_c, ↓e_op, ↓e_un, ↓e_te, ↓e_tru, ↓e_and, ↓e_or, ↓e_not, ↓e_andV, ↓e_orV, ↓e_notV, ↓e_if, ↓e_chain, ↓e_nil, ↓e_cons, ↓e_tup, ↓e_lst, ↓e_lstO, ↓e_cb, ↓e_call, ↓e_fld, ↓e_frz, ↓e_app, ↓e_setIx, ↓e_setF, ↓e_isT, ↓e_make, ↓e_itL, ↓e_itT, ↓e_rng1, ↓e_rng2, ↓e_yes, ↓e_gn, ↓e_lc, ↓e_lcO, ↓e_for, ↓e_brk, ↓e_cnt, ↓e_inOwn, ↓e_raise, ↓e_raiseT, ↓e_try, ↓e_tryN, ↓e_xf, ↓e_isX, ↓e_isO, ↓e_bin, ↓e_uno, ↓e_eqOwn, ↓e_meth, ↓f_max, ↓f_min, ↓f_abs, ↓f_sortI, ↓f_isN, ↓f_notN, ↓f_eqT, ↓f_neT, sz0, sz1, sz2, sz3, sz4, sz5, sz6, sz7, sz8, sz9, sz10, sz11, sz12, tgI, tgN, tgB, tgS, tgL, tgT, tgO, ↓f_ixT0, ↓f_ixT1, ↓f_ixT2, ↓f_ixL0, ↓f_ixL1, ↓f_ixL2, ↓f_ixL3, ↓f_ixT, ↓f_ixL, ↓f_ixP, ↓f_add, ↓f_addL, ↓f_addS, ↓f_sub, ↓f_mul, ↓f_mod, ↓f_div, ↓f_pow, ↓f_lt, ↓f_le, ↓f_gt, ↓f_ge, ↓f_eq, ↓f_ne, ↓f_int, ↓f_neg, ↓f_lenL, ↓f_lenT, ↓f_lenP, truL, truT, truI, truB, truN, objO, clsO, getF, putFs, putDs, tabAt, boolK, reduceCtorEq, List.mem_singleton, true_and, and_true, e_wipe0, e_wipe1, ex_c, getC_self, setC_self, delC_self, lstOf, List.set_cons_zero, List.set_cons_succ, setC_setC, at_0, at_1, at_2, at_3, set_0, set_1, set_2, set_3, List.length_cons, List.length_nil, List.length_map, ↓reduceIte, Bool.false_eq_true, decide_eq_true_eq, ↓e_seq]
  exact h
theorem pure_law : Pure N_law 1 SLaw T_law := by
  rintro ds O P E ⟨ns, rfl, rfl, k⟩
  refine ⟨rfl, Opn.now ?_⟩
  have hs : startD N_law [.scr ns] = [some (.scr ns), none, none, none, none, none, none, none, none, none, none, none, none] := rfl
  rw [hs]
  unfold T_law
  try simp only [↓e_v0, ↓e_vS, ↓e_asg, ↓e_exp, ↓e_ret, ↓e_retN, ↓e_ifS, ↓e_next, ↓e_nev, ↓e_c, ↓e_op, ↓e_un, ↓e_te, ↓e_tru, ↓e_and, ↓e_or, ↓e_not, ↓e_andV, ↓e_orV, ↓e_notV, ↓e_if, ↓e_chain, ↓e_nil, ↓e_cons, ↓e_tup, ↓e_lst, ↓e_lstO, ↓e_cb, ↓e_call, ↓e_fld, ↓e_frz, ↓e_app, ↓e_setIx, ↓e_setF, ↓e_isT, ↓e_make, ↓e_itL, ↓e_itT, ↓e_rng1, ↓e_rng2, ↓e_yes, ↓e_gn, ↓e_lc, ↓e_lcO, ↓e_for, ↓e_brk, ↓e_cnt, ↓e_inOwn, ↓e_raise, ↓e_raiseT, ↓e_try, ↓e_tryN, ↓e_xf, ↓e_isX, ↓e_isO, ↓e_bin, ↓e_uno, ↓e_eqOwn, ↓e_meth, ↓f_max, ↓f_min, ↓f_abs, ↓f_sortI, ↓f_isN, ↓f_notN, ↓f_eqT, ↓f_neT, sz0, sz1, sz2, sz3, sz4, sz5, sz6, sz7, sz8, sz9, sz10, sz11, sz12, tgI, tgN, tgB, tgS, tgL, tgT, tgO, ↓f_ixT0, ↓f_ixT1, ↓f_ixT2, ↓f_ixL0, ↓f_ixL1, ↓f_ixL2, ↓f_ixL3, ↓f_ixT, ↓f_ixL, ↓f_ixP, ↓f_add, ↓f_addL, ↓f_addS, ↓f_sub, ↓f_mul, ↓f_mod, ↓f_div, ↓f_pow, ↓f_lt, ↓f_le, ↓f_gt, ↓f_ge, ↓f_eq, ↓f_ne, ↓f_int, ↓f_neg, ↓f_lenL, ↓f_lenT, ↓f_lenP, truL, truT, truI, truB, truN, objO, clsO, getF, putFs, putDs, tabAt, boolK, reduceCtorEq, List.mem_singleton, true_and, and_true, e_wipe0, e_wipe1, ex_c, getC_self, setC_self, delC_self, lstOf, List.set_cons_zero, List.set_cons_succ, setC_setC, at_0, at_1, at_2, at_3, set_0, set_1, set_2, set_3, List.length_cons, List.length_nil, List.length_map, ↓reduceIte, Bool.false_eq_true, decide_eq_true_eq, ↓e_seq]
  refine ⟨ns, 103, rfl, fun b hb => ?_⟩
  have gb : getC [(b, Cell.box)] b = some .box := getC_self
  unfold T_law_18
  try simp only [↓e_v0, ↓e_vS, ↓e_asg, ↓e_exp, ↓e_ret, ↓e_retN, ↓e_ifS, ↓e_next, ↓e_nev, ↓e_c, ↓e_op, ↓e_un, ↓e_te, ↓e_tru, ↓e_and, ↓e_or, ↓e_not, ↓e_andV, ↓e_orV, ↓e_notV, ↓e_if, ↓e_chain, ↓e_nil, ↓e_cons, ↓e_tup, ↓e_lst, ↓e_lstO, ↓e_cb, ↓e_call, ↓e_fld, ↓e_frz, ↓e_app, ↓e_setIx, ↓e_setF, ↓e_isT, ↓e_make, ↓e_itL, ↓e_itT, ↓e_rng1, ↓e_rng2, ↓e_yes, ↓e_gn, ↓e_lc, ↓e_lcO, ↓e_for, ↓e_brk, ↓e_cnt, ↓e_inOwn, ↓e_raise, ↓e_raiseT, ↓e_try, ↓e_tryN, ↓e_xf, ↓e_isX, ↓e_isO, ↓e_bin, ↓e_uno, ↓e_eqOwn, ↓e_meth, ↓f_max, ↓f_min, ↓f_abs, ↓f_sortI, ↓f_isN, ↓f_notN, ↓f_eqT, ↓f_neT, sz0, sz1, sz2, sz3, sz4, sz5, sz6, sz7, sz8, sz9, sz10, sz11, sz12, tgI, tgN, tgB, tgS, tgL, tgT, tgO, ↓f_ixT0, ↓f_ixT1, ↓f_ixT2, ↓f_ixL0, ↓f_ixL1, ↓f_ixL2, ↓f_ixL3, ↓f_ixT, ↓f_ixL, ↓f_ixP, ↓f_add, ↓f_addL, ↓f_addS, ↓f_sub, ↓f_mul, ↓f_mod, ↓f_div, ↓f_pow, ↓f_lt, ↓f_le, ↓f_gt, ↓f_ge, ↓f_eq, ↓f_ne, ↓f_int, ↓f_neg, ↓f_lenL, ↓f_lenT, ↓f_lenP, truL, truT, truI, truB, truN, objO, clsO, getF, putFs, putDs, tabAt, boolK, reduceCtorEq, List.mem_singleton, true_and, and_true, e_wipe0, e_wipe1, ex_c, getC_self, setC_self, delC_self, lstOf, List.set_cons_zero, List.set_cons_succ, setC_setC, at_0, at_1, at_2, at_3, set_0, set_1, set_2, set_3, List.length_cons, List.length_nil, List.length_map, ↓reduceIte, Bool.false_eq_true, decide_eq_true_eq, ↓e_seq]
  refine ⟨b, rfl, gb, fun s h4 h5 => ?_⟩
  unfold T_law_17
  try simp only [↓e_v0, ↓e_vS, ↓e_asg, ↓e_exp, ↓e_ret, ↓e_retN, ↓e_ifS, ↓e_next, ↓e_nev, ↓e_c, ↓e_op, ↓e_un, ↓e_te, ↓e_tru, ↓e_and, ↓e_or, ↓e_not, ↓e_andV, ↓e_orV, ↓e_notV, ↓e_if, ↓e_chain, ↓e_nil, ↓e_cons, ↓e_tup, ↓e_lst, ↓e_lstO, ↓e_cb, ↓e_call, ↓e_fld, ↓e_frz, ↓e_app, ↓e_setIx, ↓e_setF, ↓e_isT, ↓e_make, ↓e_itL, ↓e_itT, ↓e_rng1, ↓e_rng2, ↓e_yes, ↓e_gn, ↓e_lc, ↓e_lcO, ↓e_for, ↓e_brk, ↓e_cnt, ↓e_inOwn, ↓e_raise, ↓e_raiseT, ↓e_try, ↓e_tryN, ↓e_xf, ↓e_isX, ↓e_isO, ↓e_bin, ↓e_uno, ↓e_eqOwn, ↓e_meth, ↓f_max, ↓f_min, ↓f_abs, ↓f_sortI, ↓f_isN, ↓f_notN, ↓f_eqT, ↓f_neT, sz0, sz1, sz2, sz3, sz4, sz5, sz6, sz7, sz8, sz9, sz10, sz11, sz12, tgI, tgN, tgB, tgS, tgL, tgT, tgO, ↓f_ixT0, ↓f_ixT1, ↓f_ixT2, ↓f_ixL0, ↓f_ixL1, ↓f_ixL2, ↓f_ixL3, ↓f_ixT, ↓f_ixL, ↓f_ixP, ↓f_add, ↓f_addL, ↓f_addS, ↓f_sub, ↓f_mul, ↓f_mod, ↓f_div, ↓f_pow, ↓f_lt, ↓f_le, ↓f_gt, ↓f_ge, ↓f_eq, ↓f_ne, ↓f_int, ↓f_neg, ↓f_lenL, ↓f_lenT, ↓f_lenP, truL, truT, truI, truB, truN, objO, clsO, getF, putFs, putDs, tabAt, boolK, reduceCtorEq, List.mem_singleton, true_and, and_true, e_wipe0, e_wipe1, ex_c, getC_self, setC_self, delC_self, lstOf, List.set_cons_zero, List.set_cons_succ, setC_setC, at_0, at_1, at_2, at_3, set_0, set_1, set_2, set_3, List.length_cons, List.length_nil, List.length_map, ↓reduceIte, Bool.false_eq_true, decide_eq_true_eq, ↓e_seq]
  refine ⟨b, rfl, gb, fun m => ?_⟩
  unfold T_law_16
  try simp only [↓e_v0, ↓e_vS, ↓e_asg, ↓e_exp, ↓e_ret, ↓e_retN, ↓e_ifS, ↓e_next, ↓e_nev, ↓e_c, ↓e_op, ↓e_un, ↓e_te, ↓e_tru, ↓e_and, ↓e_or, ↓e_not, ↓e_andV, ↓e_orV, ↓e_notV, ↓e_if, ↓e_chain, ↓e_nil, ↓e_cons, ↓e_tup, ↓e_lst, ↓e_lstO, ↓e_cb, ↓e_call, ↓e_fld, ↓e_frz, ↓e_app, ↓e_setIx, ↓e_setF, ↓e_isT, ↓e_make, ↓e_itL, ↓e_itT, ↓e_rng1, ↓e_rng2, ↓e_yes, ↓e_gn, ↓e_lc, ↓e_lcO, ↓e_for, ↓e_brk, ↓e_cnt, ↓e_inOwn, ↓e_raise, ↓e_raiseT, ↓e_try, ↓e_tryN, ↓e_xf, ↓e_isX, ↓e_isO, ↓e_bin, ↓e_uno, ↓e_eqOwn, ↓e_meth, ↓f_max, ↓f_min, ↓f_abs, ↓f_sortI, ↓f_isN, ↓f_notN, ↓f_eqT, ↓f_neT, sz0, sz1, sz2, sz3, sz4, sz5, sz6, sz7, sz8, sz9, sz10, sz11, sz12, tgI, tgN, tgB, tgS, tgL, tgT, tgO, ↓f_ixT0, ↓f_ixT1, ↓f_ixT2, ↓f_ixL0, ↓f_ixL1, ↓f_ixL2, ↓f_ixL3, ↓f_ixT, ↓f_ixL, ↓f_ixP, ↓f_add, ↓f_addL, ↓f_addS, ↓f_sub, ↓f_mul, ↓f_mod, ↓f_div, ↓f_pow, ↓f_lt, ↓f_le, ↓f_gt, ↓f_ge, ↓f_eq, ↓f_ne, ↓f_int, ↓f_neg, ↓f_lenL, ↓f_lenT, ↓f_lenP, truL, truT, truI, truB, truN, objO, clsO, getF, putFs, putDs, tabAt, boolK, reduceCtorEq, List.mem_singleton, true_and, and_true, e_wipe0, e_wipe1, ex_c, getC_self, setC_self, delC_self, lstOf, List.set_cons_zero, List.set_cons_succ, setC_setC, at_0, at_1, at_2, at_3, set_0, set_1, set_2, set_3, List.length_cons, List.length_nil, List.length_map, ↓reduceIte, Bool.false_eq_true, decide_eq_true_eq, ↓e_seq]
  refine ⟨b, s, m, rfl, gb, h4, h5, fun x hx => ?_⟩
  unfold T_law_15
  try simp only [↓e_v0, ↓e_vS, ↓e_asg, ↓e_exp, ↓e_ret, ↓e_retN, ↓e_ifS, ↓e_next, ↓e_nev, ↓e_c, ↓e_op, ↓e_un, ↓e_te, ↓e_tru, ↓e_and, ↓e_or, ↓e_not, ↓e_andV, ↓e_orV, ↓e_notV, ↓e_if, ↓e_chain, ↓e_nil, ↓e_cons, ↓e_tup, ↓e_lst, ↓e_lstO, ↓e_cb, ↓e_call, ↓e_fld, ↓e_frz, ↓e_app, ↓e_setIx, ↓e_setF, ↓e_isT, ↓e_make, ↓e_itL, ↓e_itT, ↓e_rng1, ↓e_rng2, ↓e_yes, ↓e_gn, ↓e_lc, ↓e_lcO, ↓e_for, ↓e_brk, ↓e_cnt, ↓e_inOwn, ↓e_raise, ↓e_raiseT, ↓e_try, ↓e_tryN, ↓e_xf, ↓e_isX, ↓e_isO, ↓e_bin, ↓e_uno, ↓e_eqOwn, ↓e_meth, ↓f_max, ↓f_min, ↓f_abs, ↓f_sortI, ↓f_isN, ↓f_notN, ↓f_eqT, ↓f_neT, sz0, sz1, sz2, sz3, sz4, sz5, sz6, sz7, sz8, sz9, sz10, sz11, sz12, tgI, tgN, tgB, tgS, tgL, tgT, tgO, ↓f_ixT0, ↓f_ixT1, ↓f_ixT2, ↓f_ixL0, ↓f_ixL1, ↓f_ixL2, ↓f_ixL3, ↓f_ixT, ↓f_ixL, ↓f_ixP, ↓f_add, ↓f_addL, ↓f_addS, ↓f_sub, ↓f_mul, ↓f_mod, ↓f_div, ↓f_pow, ↓f_lt, ↓f_le, ↓f_gt, ↓f_ge, ↓f_eq, ↓f_ne, ↓f_int, ↓f_neg, ↓f_lenL, ↓f_lenT, ↓f_lenP, truL, truT, truI, truB, truN, objO, clsO, getF, putFs, putDs, tabAt, boolK, reduceCtorEq, List.mem_singleton, true_and, and_true, e_wipe0, e_wipe1, ex_c, getC_self, setC_self, delC_self, lstOf, List.set_cons_zero, List.set_cons_succ, setC_setC, at_0, at_1, at_2, at_3, set_0, set_1, set_2, set_3, List.length_cons, List.length_nil, List.length_map, ↓reduceIte, Bool.false_eq_true, decide_eq_true_eq, ↓e_seq]
  refine ⟨b, s, m, rfl, gb, h4, h5, fun y hy => ?_⟩
  unfold T_law_14
  try simp only [↓e_v0, ↓e_vS, ↓e_asg, ↓e_exp, ↓e_ret, ↓e_retN, ↓e_ifS, ↓e_next, ↓e_nev, ↓e_c, ↓e_op, ↓e_un, ↓e_te, ↓e_tru, ↓e_and, ↓e_or, ↓e_not, ↓e_andV, ↓e_orV, ↓e_notV, ↓e_if, ↓e_chain, ↓e_nil, ↓e_cons, ↓e_tup, ↓e_lst, ↓e_lstO, ↓e_cb, ↓e_call, ↓e_fld, ↓e_frz, ↓e_app, ↓e_setIx, ↓e_setF, ↓e_isT, ↓e_make, ↓e_itL, ↓e_itT, ↓e_rng1, ↓e_rng2, ↓e_yes, ↓e_gn, ↓e_lc, ↓e_lcO, ↓e_for, ↓e_brk, ↓e_cnt, ↓e_inOwn, ↓e_raise, ↓e_raiseT, ↓e_try, ↓e_tryN, ↓e_xf, ↓e_isX, ↓e_isO, ↓e_bin, ↓e_uno, ↓e_eqOwn, ↓e_meth, ↓f_max, ↓f_min, ↓f_abs, ↓f_sortI, ↓f_isN, ↓f_notN, ↓f_eqT, ↓f_neT, sz0, sz1, sz2, sz3, sz4, sz5, sz6, sz7, sz8, sz9, sz10, sz11, sz12, tgI, tgN, tgB, tgS, tgL, tgT, tgO, ↓f_ixT0, ↓f_ixT1, ↓f_ixT2, ↓f_ixL0, ↓f_ixL1, ↓f_ixL2, ↓f_ixL3, ↓f_ixT, ↓f_ixL, ↓f_ixP, ↓f_add, ↓f_addL, ↓f_addS, ↓f_sub, ↓f_mul, ↓f_mod, ↓f_div, ↓f_pow, ↓f_lt, ↓f_le, ↓f_gt, ↓f_ge, ↓f_eq, ↓f_ne, ↓f_int, ↓f_neg, ↓f_lenL, ↓f_lenT, ↓f_lenP, truL, truT, truI, truB, truN, objO, clsO, getF, putFs, putDs, tabAt, boolK, reduceCtorEq, List.mem_singleton, true_and, and_true, e_wipe0, e_wipe1, ex_c, getC_self, setC_self, delC_self, lstOf, List.set_cons_zero, List.set_cons_succ, setC_setC, at_0, at_1, at_2, at_3, set_0, set_1, set_2, set_3, List.length_cons, List.length_nil, List.length_map, ↓reduceIte, Bool.false_eq_true, decide_eq_true_eq, ↓e_seq]
  refine ⟨b, 5, rfl, gb, by omega, by omega, fun nr h0 h1 => ?_⟩
  have main : ∀ y : Int × Int, y.1 ≤ y.2 → T_law_12 (endsD P E) [some (.scr ns), some (.ptr b), some (.int s), some (.int m), some (pr x), some (pr y), some (.int nr), none, none, none, none, none, none] [(b, Cell.box)] := by
    intro y hy
    unfold T_law_12
    try simp only [↓e_v0, ↓e_vS, ↓e_asg, ↓e_exp, ↓e_ret, ↓e_retN, ↓e_ifS, ↓e_next, ↓e_nev, ↓e_c, ↓e_op, ↓e_un, ↓e_te, ↓e_tru, ↓e_and, ↓e_or, ↓e_not, ↓e_andV, ↓e_orV, ↓e_notV, ↓e_if, ↓e_chain, ↓e_nil, ↓e_cons, ↓e_tup, ↓e_lst, ↓e_lstO, ↓e_cb, ↓e_call, ↓e_fld, ↓e_frz, ↓e_app, ↓e_setIx, ↓e_setF, ↓e_isT, ↓e_make, ↓e_itL, ↓e_itT, ↓e_rng1, ↓e_rng2, ↓e_yes, ↓e_gn, ↓e_lc, ↓e_lcO, ↓e_for, ↓e_brk, ↓e_cnt, ↓e_inOwn, ↓e_raise, ↓e_raiseT, ↓e_try, ↓e_tryN, ↓e_xf, ↓e_isX, ↓e_isO, ↓e_bin, ↓e_uno, ↓e_eqOwn, ↓e_meth, ↓f_max, ↓f_min, ↓f_abs, ↓f_sortI, ↓f_isN, ↓f_notN, ↓f_eqT, ↓f_neT, sz0, sz1, sz2, sz3, sz4, sz5, sz6, sz7, sz8, sz9, sz10, sz11, sz12, tgI, tgN, tgB, tgS, tgL, tgT, tgO, ↓f_ixT0, ↓f_ixT1, ↓f_ixT2, ↓f_ixL0, ↓f_ixL1, ↓f_ixL2, ↓f_ixL3, ↓f_ixT, ↓f_ixL, ↓f_ixP, ↓f_add, ↓f_addL, ↓f_addS, ↓f_sub, ↓f_mul, ↓f_mod, ↓f_div, ↓f_pow, ↓f_lt, ↓f_le, ↓f_gt, ↓f_ge, ↓f_eq, ↓f_ne, ↓f_int, ↓f_neg, ↓f_lenL, ↓f_lenT, ↓f_lenP, truL, truT, truI, truB, truN, objO, clsO, getF, putFs, putDs, tabAt, boolK, reduceCtorEq, List.mem_singleton, true_and, and_true, e_wipe0, e_wipe1, ex_c, getC_self, setC_self, delC_self, lstOf, List.set_cons_zero, List.set_cons_succ, setC_setC, at_0, at_1, at_2, at_3, set_0, set_1, set_2, set_3, List.length_cons, List.length_nil, List.length_map, ↓reduceIte, Bool.false_eq_true, decide_eq_true_eq, ↓e_seq]
    intro q hq
    refine ⟨q, _, _, rfl, getC_self, fun _ => ?_, fun z => absurd z (by omega)⟩
    try simp only [↓e_v0, ↓e_vS, ↓e_asg, ↓e_exp, ↓e_ret, ↓e_retN, ↓e_ifS, ↓e_next, ↓e_nev, ↓e_c, ↓e_op, ↓e_un, ↓e_te, ↓e_tru, ↓e_and, ↓e_or, ↓e_not, ↓e_andV, ↓e_orV, ↓e_notV, ↓e_if, ↓e_chain, ↓e_nil, ↓e_cons, ↓e_tup, ↓e_lst, ↓e_lstO, ↓e_cb, ↓e_call, ↓e_fld, ↓e_frz, ↓e_app, ↓e_setIx, ↓e_setF, ↓e_isT, ↓e_make, ↓e_itL, ↓e_itT, ↓e_rng1, ↓e_rng2, ↓e_yes, ↓e_gn, ↓e_lc, ↓e_lcO, ↓e_for, ↓e_brk, ↓e_cnt, ↓e_inOwn, ↓e_raise, ↓e_raiseT, ↓e_try, ↓e_tryN, ↓e_xf, ↓e_isX, ↓e_isO, ↓e_bin, ↓e_uno, ↓e_eqOwn, ↓e_meth, ↓f_max, ↓f_min, ↓f_abs, ↓f_sortI, ↓f_isN, ↓f_notN, ↓f_eqT, ↓f_neT, sz0, sz1, sz2, sz3, sz4, sz5, sz6, sz7, sz8, sz9, sz10, sz11, sz12, tgI, tgN, tgB, tgS, tgL, tgT, tgO, ↓f_ixT0, ↓f_ixT1, ↓f_ixT2, ↓f_ixL0, ↓f_ixL1, ↓f_ixL2, ↓f_ixL3, ↓f_ixT, ↓f_ixL, ↓f_ixP, ↓f_add, ↓f_addL, ↓f_addS, ↓f_sub, ↓f_mul, ↓f_mod, ↓f_div, ↓f_pow, ↓f_lt, ↓f_le, ↓f_gt, ↓f_ge, ↓f_eq, ↓f_ne, ↓f_int, ↓f_neg, ↓f_lenL, ↓f_lenT, ↓f_lenP, truL, truT, truI, truB, truN, objO, clsO, getF, putFs, putDs, tabAt, boolK, reduceCtorEq, List.mem_singleton, true_and, and_true, e_wipe0, e_wipe1, ex_c, getC_self, setC_self, delC_self, lstOf, List.set_cons_zero, List.set_cons_succ, setC_setC, at_0, at_1, at_2, at_3, set_0, set_1, set_2, set_3, List.length_cons, List.length_nil, List.length_map, ↓reduceIte, Bool.false_eq_true, decide_eq_true_eq, ↓e_seq]
    unfold T_law_11
    try simp only [↓e_v0, ↓e_vS, ↓e_asg, ↓e_exp, ↓e_ret, ↓e_retN, ↓e_ifS, ↓e_next, ↓e_nev, ↓e_c, ↓e_op, ↓e_un, ↓e_te, ↓e_tru, ↓e_and, ↓e_or, ↓e_not, ↓e_andV, ↓e_orV, ↓e_notV, ↓e_if, ↓e_chain, ↓e_nil, ↓e_cons, ↓e_tup, ↓e_lst, ↓e_lstO, ↓e_cb, ↓e_call, ↓e_fld, ↓e_frz, ↓e_app, ↓e_setIx, ↓e_setF, ↓e_isT, ↓e_make, ↓e_itL, ↓e_itT, ↓e_rng1, ↓e_rng2, ↓e_yes, ↓e_gn, ↓e_lc, ↓e_lcO, ↓e_for, ↓e_brk, ↓e_cnt, ↓e_inOwn, ↓e_raise, ↓e_raiseT, ↓e_try, ↓e_tryN, ↓e_xf, ↓e_isX, ↓e_isO, ↓e_bin, ↓e_uno, ↓e_eqOwn, ↓e_meth, ↓f_max, ↓f_min, ↓f_abs, ↓f_sortI, ↓f_isN, ↓f_notN, ↓f_eqT, ↓f_neT, sz0, sz1, sz2, sz3, sz4, sz5, sz6, sz7, sz8, sz9, sz10, sz11, sz12, tgI, tgN, tgB, tgS, tgL, tgT, tgO, ↓f_ixT0, ↓f_ixT1, ↓f_ixT2, ↓f_ixL0, ↓f_ixL1, ↓f_ixL2, ↓f_ixL3, ↓f_ixT, ↓f_ixL, ↓f_ixP, ↓f_add, ↓f_addL, ↓f_addS, ↓f_sub, ↓f_mul, ↓f_mod, ↓f_div, ↓f_pow, ↓f_lt, ↓f_le, ↓f_gt, ↓f_ge, ↓f_eq, ↓f_ne, ↓f_int, ↓f_neg, ↓f_lenL, ↓f_lenT, ↓f_lenP, truL, truT, truI, truB, truN, objO, clsO, getF, putFs, putDs, tabAt, boolK, reduceCtorEq, List.mem_singleton, true_and, and_true, e_wipe0, e_wipe1, ex_c, getC_self, setC_self, delC_self, lstOf, List.set_cons_zero, List.set_cons_succ, setC_setC, at_0, at_1, at_2, at_3, set_0, set_1, set_2, set_3, List.length_cons, List.length_nil, List.length_map, ↓reduceIte, Bool.false_eq_true, decide_eq_true_eq, ↓e_seq]
    intro q hq
    refine ⟨q, _, _, rfl, getC_self, fun _ => ?_, fun z => absurd z (by omega)⟩
    try simp only [↓e_v0, ↓e_vS, ↓e_asg, ↓e_exp, ↓e_ret, ↓e_retN, ↓e_ifS, ↓e_next, ↓e_nev, ↓e_c, ↓e_op, ↓e_un, ↓e_te, ↓e_tru, ↓e_and, ↓e_or, ↓e_not, ↓e_andV, ↓e_orV, ↓e_notV, ↓e_if, ↓e_chain, ↓e_nil, ↓e_cons, ↓e_tup, ↓e_lst, ↓e_lstO, ↓e_cb, ↓e_call, ↓e_fld, ↓e_frz, ↓e_app, ↓e_setIx, ↓e_setF, ↓e_isT, ↓e_make, ↓e_itL, ↓e_itT, ↓e_rng1, ↓e_rng2, ↓e_yes, ↓e_gn, ↓e_lc, ↓e_lcO, ↓e_for, ↓e_brk, ↓e_cnt, ↓e_inOwn, ↓e_raise, ↓e_raiseT, ↓e_try, ↓e_tryN, ↓e_xf, ↓e_isX, ↓e_isO, ↓e_bin, ↓e_uno, ↓e_eqOwn, ↓e_meth, ↓f_max, ↓f_min, ↓f_abs, ↓f_sortI, ↓f_isN, ↓f_notN, ↓f_eqT, ↓f_neT, sz0, sz1, sz2, sz3, sz4, sz5, sz6, sz7, sz8, sz9, sz10, sz11, sz12, tgI, tgN, tgB, tgS, tgL, tgT, tgO, ↓f_ixT0, ↓f_ixT1, ↓f_ixT2, ↓f_ixL0, ↓f_ixL1, ↓f_ixL2, ↓f_ixL3, ↓f_ixT, ↓f_ixL, ↓f_ixP, ↓f_add, ↓f_addL, ↓f_addS, ↓f_sub, ↓f_mul, ↓f_mod, ↓f_div, ↓f_pow, ↓f_lt, ↓f_le, ↓f_gt, ↓f_ge, ↓f_eq, ↓f_ne, ↓f_int, ↓f_neg, ↓f_lenL, ↓f_lenT, ↓f_lenP, truL, truT, truI, truB, truN, objO, clsO, getF, putFs, putDs, tabAt, boolK, reduceCtorEq, List.mem_singleton, true_and, and_true, e_wipe0, e_wipe1, ex_c, getC_self, setC_self, delC_self, lstOf, List.set_cons_zero, List.set_cons_succ, setC_setC, at_0, at_1, at_2, at_3, set_0, set_1, set_2, set_3, List.length_cons, List.length_nil, List.length_map, ↓reduceIte, Bool.false_eq_true, decide_eq_true_eq, ↓e_seq]
    unfold T_law_10
    try simp only [↓e_v0, ↓e_vS, ↓e_asg, ↓e_exp, ↓e_ret, ↓e_retN, ↓e_ifS, ↓e_next, ↓e_nev, ↓e_c, ↓e_op, ↓e_un, ↓e_te, ↓e_tru, ↓e_and, ↓e_or, ↓e_not, ↓e_andV, ↓e_orV, ↓e_notV, ↓e_if, ↓e_chain, ↓e_nil, ↓e_cons, ↓e_tup, ↓e_lst, ↓e_lstO, ↓e_cb, ↓e_call, ↓e_fld, ↓e_frz, ↓e_app, ↓e_setIx, ↓e_setF, ↓e_isT, ↓e_make, ↓e_itL, ↓e_itT, ↓e_rng1, ↓e_rng2, ↓e_yes, ↓e_gn, ↓e_lc, ↓e_lcO, ↓e_for, ↓e_brk, ↓e_cnt, ↓e_inOwn, ↓e_raise, ↓e_raiseT, ↓e_try, ↓e_tryN, ↓e_xf, ↓e_isX, ↓e_isO, ↓e_bin, ↓e_uno, ↓e_eqOwn, ↓e_meth, ↓f_max, ↓f_min, ↓f_abs, ↓f_sortI, ↓f_isN, ↓f_notN, ↓f_eqT, ↓f_neT, sz0, sz1, sz2, sz3, sz4, sz5, sz6, sz7, sz8, sz9, sz10, sz11, sz12, tgI, tgN, tgB, tgS, tgL, tgT, tgO, ↓f_ixT0, ↓f_ixT1, ↓f_ixT2, ↓f_ixL0, ↓f_ixL1, ↓f_ixL2, ↓f_ixL3, ↓f_ixT, ↓f_ixL, ↓f_ixP, ↓f_add, ↓f_addL, ↓f_addS, ↓f_sub, ↓f_mul, ↓f_mod, ↓f_div, ↓f_pow, ↓f_lt, ↓f_le, ↓f_gt, ↓f_ge, ↓f_eq, ↓f_ne, ↓f_int, ↓f_neg, ↓f_lenL, ↓f_lenT, ↓f_lenP, truL, truT, truI, truB, truN, objO, clsO, getF, putFs, putDs, tabAt, boolK, reduceCtorEq, List.mem_singleton, true_and, and_true, e_wipe0, e_wipe1, ex_c, getC_self, setC_self, delC_self, lstOf, List.set_cons_zero, List.set_cons_succ, setC_setC, at_0, at_1, at_2, at_3, set_0, set_1, set_2, set_3, List.length_cons, List.length_nil, List.length_map, ↓reduceIte, Bool.false_eq_true, decide_eq_true_eq, ↓e_seq]
    unfold T_law_9
    try simp only [↓e_v0, ↓e_vS, ↓e_asg, ↓e_exp, ↓e_ret, ↓e_retN, ↓e_ifS, ↓e_next, ↓e_nev, ↓e_c, ↓e_op, ↓e_un, ↓e_te, ↓e_tru, ↓e_and, ↓e_or, ↓e_not, ↓e_andV, ↓e_orV, ↓e_notV, ↓e_if, ↓e_chain, ↓e_nil, ↓e_cons, ↓e_tup, ↓e_lst, ↓e_lstO, ↓e_cb, ↓e_call, ↓e_fld, ↓e_frz, ↓e_app, ↓e_setIx, ↓e_setF, ↓e_isT, ↓e_make, ↓e_itL, ↓e_itT, ↓e_rng1, ↓e_rng2, ↓e_yes, ↓e_gn, ↓e_lc, ↓e_lcO, ↓e_for, ↓e_brk, ↓e_cnt, ↓e_inOwn, ↓e_raise, ↓e_raiseT, ↓e_try, ↓e_tryN, ↓e_xf, ↓e_isX, ↓e_isO, ↓e_bin, ↓e_uno, ↓e_eqOwn, ↓e_meth, ↓f_max, ↓f_min, ↓f_abs, ↓f_sortI, ↓f_isN, ↓f_notN, ↓f_eqT, ↓f_neT, sz0, sz1, sz2, sz3, sz4, sz5, sz6, sz7, sz8, sz9, sz10, sz11, sz12, tgI, tgN, tgB, tgS, tgL, tgT, tgO, ↓f_ixT0, ↓f_ixT1, ↓f_ixT2, ↓f_ixL0, ↓f_ixL1, ↓f_ixL2, ↓f_ixL3, ↓f_ixT, ↓f_ixL, ↓f_ixP, ↓f_add, ↓f_addL, ↓f_addS, ↓f_sub, ↓f_mul, ↓f_mod, ↓f_div, ↓f_pow, ↓f_lt, ↓f_le, ↓f_gt, ↓f_ge, ↓f_eq, ↓f_ne, ↓f_int, ↓f_neg, ↓f_lenL, ↓f_lenT, ↓f_lenP, truL, truT, truI, truB, truN, objO, clsO, getF, putFs, putDs, tabAt, boolK, reduceCtorEq, List.mem_singleton, true_and, and_true, e_wipe0, e_wipe1, ex_c, getC_self, setC_self, delC_self, lstOf, List.set_cons_zero, List.set_cons_succ, setC_setC, at_0, at_1, at_2, at_3, set_0, set_1, set_2, set_3, List.length_cons, List.length_nil, List.length_map, ↓reduceIte, Bool.false_eq_true, decide_eq_true_eq, ↓e_seq]
    have last : T_law_7 (endsD P E) [some (.scr ns), some (.ptr b), some (.int s), some (.int m), some (pr x), some (pr y), some (.int nr), some (st x), some (st y), some (.int (max x.1 y.1)), some (.int (min x.2 y.2)), none, none] [(b, Cell.box)] := by
      unfold T_law_7
      try simp only [↓e_v0, ↓e_vS, ↓e_asg, ↓e_exp, ↓e_ret, ↓e_retN, ↓e_ifS, ↓e_next, ↓e_nev, ↓e_c, ↓e_op, ↓e_un, ↓e_te, ↓e_tru, ↓e_and, ↓e_or, ↓e_not, ↓e_andV, ↓e_orV, ↓e_notV, ↓e_if, ↓e_chain, ↓e_nil, ↓e_cons, ↓e_tup, ↓e_lst, ↓e_lstO, ↓e_cb, ↓e_call, ↓e_fld, ↓e_frz, ↓e_app, ↓e_setIx, ↓e_setF, ↓e_isT, ↓e_make, ↓e_itL, ↓e_itT, ↓e_rng1, ↓e_rng2, ↓e_yes, ↓e_gn, ↓e_lc, ↓e_lcO, ↓e_for, ↓e_brk, ↓e_cnt, ↓e_inOwn, ↓e_raise, ↓e_raiseT, ↓e_try, ↓e_tryN, ↓e_xf, ↓e_isX, ↓e_isO, ↓e_bin, ↓e_uno, ↓e_eqOwn, ↓e_meth, ↓f_max, ↓f_min, ↓f_abs, ↓f_sortI, ↓f_isN, ↓f_notN, ↓f_eqT, ↓f_neT, sz0, sz1, sz2, sz3, sz4, sz5, sz6, sz7, sz8, sz9, sz10, sz11, sz12, tgI, tgN, tgB, tgS, tgL, tgT, tgO, ↓f_ixT0, ↓f_ixT1, ↓f_ixT2, ↓f_ixL0, ↓f_ixL1, ↓f_ixL2, ↓f_ixL3, ↓f_ixT, ↓f_ixL, ↓f_ixP, ↓f_add, ↓f_addL, ↓f_addS, ↓f_sub, ↓f_mul, ↓f_mod, ↓f_div, ↓f_pow, ↓f_lt, ↓f_le, ↓f_gt, ↓f_ge, ↓f_eq, ↓f_ne, ↓f_int, ↓f_neg, ↓f_lenL, ↓f_lenT, ↓f_lenP, truL, truT, truI, truB, truN, objO, clsO, getF, putFs, putDs, tabAt, boolK, reduceCtorEq, List.mem_singleton, true_and, and_true, e_wipe0, e_wipe1, ex_c, getC_self, setC_self, delC_self, lstOf, List.set_cons_zero, List.set_cons_succ, setC_setC, at_0, at_1, at_2, at_3, set_0, set_1, set_2, set_3, List.length_cons, List.length_nil, List.length_map, ↓reduceIte, Bool.false_eq_true, decide_eq_true_eq, ↓e_seq]
      refine ⟨rfl, x, y, rfl, hx, hy, ?_⟩
      unfold T_law_6
      try simp only [↓e_v0, ↓e_vS, ↓e_asg, ↓e_exp, ↓e_ret, ↓e_retN, ↓e_ifS, ↓e_next, ↓e_nev, ↓e_c, ↓e_op, ↓e_un, ↓e_te, ↓e_tru, ↓e_and, ↓e_or, ↓e_not, ↓e_andV, ↓e_orV, ↓e_notV, ↓e_if, ↓e_chain, ↓e_nil, ↓e_cons, ↓e_tup, ↓e_lst, ↓e_lstO, ↓e_cb, ↓e_call, ↓e_fld, ↓e_frz, ↓e_app, ↓e_setIx, ↓e_setF, ↓e_isT, ↓e_make, ↓e_itL, ↓e_itT, ↓e_rng1, ↓e_rng2, ↓e_yes, ↓e_gn, ↓e_lc, ↓e_lcO, ↓e_for, ↓e_brk, ↓e_cnt, ↓e_inOwn, ↓e_raise, ↓e_raiseT, ↓e_try, ↓e_tryN, ↓e_xf, ↓e_isX, ↓e_isO, ↓e_bin, ↓e_uno, ↓e_eqOwn, ↓e_meth, ↓f_max, ↓f_min, ↓f_abs, ↓f_sortI, ↓f_isN, ↓f_notN, ↓f_eqT, ↓f_neT, sz0, sz1, sz2, sz3, sz4, sz5, sz6, sz7, sz8, sz9, sz10, sz11, sz12, tgI, tgN, tgB, tgS, tgL, tgT, tgO, ↓f_ixT0, ↓f_ixT1, ↓f_ixT2, ↓f_ixL0, ↓f_ixL1, ↓f_ixL2, ↓f_ixL3, ↓f_ixT, ↓f_ixL, ↓f_ixP, ↓f_add, ↓f_addL, ↓f_addS, ↓f_sub, ↓f_mul, ↓f_mod, ↓f_div, ↓f_pow, ↓f_lt, ↓f_le, ↓f_gt, ↓f_ge, ↓f_eq, ↓f_ne, ↓f_int, ↓f_neg, ↓f_lenL, ↓f_lenT, ↓f_lenP, truL, truT, truI, truB, truN, objO, clsO, getF, putFs, putDs, tabAt, boolK, reduceCtorEq, List.mem_singleton, true_and, and_true, e_wipe0, e_wipe1, ex_c, getC_self, setC_self, delC_self, lstOf, List.set_cons_zero, List.set_cons_succ, setC_setC, at_0, at_1, at_2, at_3, set_0, set_1, set_2, set_3, List.length_cons, List.length_nil, List.length_map, ↓reduceIte, Bool.false_eq_true, decide_eq_true_eq, ↓e_seq]
      refine ⟨rfl, y, x, rfl, hy, hx, ?_⟩
      unfold T_law_5
      have en : nf .Stretch (.c .Stretch) = true := rfl
      try simp only [↓e_v0, ↓e_vS, ↓e_asg, ↓e_exp, ↓e_ret, ↓e_retN, ↓e_ifS, ↓e_next, ↓e_nev, ↓e_c, ↓e_op, ↓e_un, ↓e_te, ↓e_tru, ↓e_and, ↓e_or, ↓e_not, ↓e_andV, ↓e_orV, ↓e_notV, ↓e_if, ↓e_chain, ↓e_nil, ↓e_cons, ↓e_tup, ↓e_lst, ↓e_lstO, ↓e_cb, ↓e_call, ↓e_fld, ↓e_frz, ↓e_app, ↓e_setIx, ↓e_setF, ↓e_isT, ↓e_make, ↓e_itL, ↓e_itT, ↓e_rng1, ↓e_rng2, ↓e_yes, ↓e_gn, ↓e_lc, ↓e_lcO, ↓e_for, ↓e_brk, ↓e_cnt, ↓e_inOwn, ↓e_raise, ↓e_raiseT, ↓e_try, ↓e_tryN, ↓e_xf, ↓e_isX, ↓e_isO, ↓e_bin, ↓e_uno, ↓e_eqOwn, ↓e_meth, ↓f_max, ↓f_min, ↓f_abs, ↓f_sortI, ↓f_isN, ↓f_notN, ↓f_eqT, ↓f_neT, sz0, sz1, sz2, sz3, sz4, sz5, sz6, sz7, sz8, sz9, sz10, sz11, sz12, tgI, tgN, tgB, tgS, tgL, tgT, tgO, ↓f_ixT0, ↓f_ixT1, ↓f_ixT2, ↓f_ixL0, ↓f_ixL1, ↓f_ixL2, ↓f_ixL3, ↓f_ixT, ↓f_ixL, ↓f_ixP, ↓f_add, ↓f_addL, ↓f_addS, ↓f_sub, ↓f_mul, ↓f_mod, ↓f_div, ↓f_pow, ↓f_lt, ↓f_le, ↓f_gt, ↓f_ge, ↓f_eq, ↓f_ne, ↓f_int, ↓f_neg, ↓f_lenL, ↓f_lenT, ↓f_lenP, truL, truT, truI, truB, truN, objO, clsO, getF, putFs, putDs, tabAt, boolK, reduceCtorEq, List.mem_singleton, true_and, and_true, e_wipe0, e_wipe1, ex_c, getC_self, setC_self, delC_self, lstOf, List.set_cons_zero, List.set_cons_succ, setC_setC, at_0, at_1, at_2, at_3, set_0, set_1, set_2, set_3, List.length_cons, List.length_nil, List.length_map, ↓reduceIte, Bool.false_eq_true, decide_eq_true_eq, ↓e_seq, en, and_self, decide_true, Bool.not_true]
      refine ⟨(min x.1 y.1, max x.2 y.2), (min y.1 x.1, max y.2 x.2), rfl, ?_⟩
      have e1 : ((min x.1 y.1, max x.2 y.2) : Int × Int) = (min y.1 x.1, max y.2 x.2) := by
        rw [Prod.mk.injEq]
        constructor <;> omega
      rw [e1]
      try simp only [↓e_v0, ↓e_vS, ↓e_asg, ↓e_exp, ↓e_ret, ↓e_retN, ↓e_ifS, ↓e_next, ↓e_nev, ↓e_c, ↓e_op, ↓e_un, ↓e_te, ↓e_tru, ↓e_and, ↓e_or, ↓e_not, ↓e_andV, ↓e_orV, ↓e_notV, ↓e_if, ↓e_chain, ↓e_nil, ↓e_cons, ↓e_tup, ↓e_lst, ↓e_lstO, ↓e_cb, ↓e_call, ↓e_fld, ↓e_frz, ↓e_app, ↓e_setIx, ↓e_setF, ↓e_isT, ↓e_make, ↓e_itL, ↓e_itT, ↓e_rng1, ↓e_rng2, ↓e_yes, ↓e_gn, ↓e_lc, ↓e_lcO, ↓e_for, ↓e_brk, ↓e_cnt, ↓e_inOwn, ↓e_raise, ↓e_raiseT, ↓e_try, ↓e_tryN, ↓e_xf, ↓e_isX, ↓e_isO, ↓e_bin, ↓e_uno, ↓e_eqOwn, ↓e_meth, ↓f_max, ↓f_min, ↓f_abs, ↓f_sortI, ↓f_isN, ↓f_notN, ↓f_eqT, ↓f_neT, sz0, sz1, sz2, sz3, sz4, sz5, sz6, sz7, sz8, sz9, sz10, sz11, sz12, tgI, tgN, tgB, tgS, tgL, tgT, tgO, ↓f_ixT0, ↓f_ixT1, ↓f_ixT2, ↓f_ixL0, ↓f_ixL1, ↓f_ixL2, ↓f_ixL3, ↓f_ixT, ↓f_ixL, ↓f_ixP, ↓f_add, ↓f_addL, ↓f_addS, ↓f_sub, ↓f_mul, ↓f_mod, ↓f_div, ↓f_pow, ↓f_lt, ↓f_le, ↓f_gt, ↓f_ge, ↓f_eq, ↓f_ne, ↓f_int, ↓f_neg, ↓f_lenL, ↓f_lenT, ↓f_lenP, truL, truT, truI, truB, truN, objO, clsO, getF, putFs, putDs, tabAt, boolK, reduceCtorEq, List.mem_singleton, true_and, and_true, e_wipe0, e_wipe1, ex_c, getC_self, setC_self, delC_self, lstOf, List.set_cons_zero, List.set_cons_succ, setC_setC, at_0, at_1, at_2, at_3, set_0, set_1, set_2, set_3, List.length_cons, List.length_nil, List.length_map, ↓reduceIte, Bool.false_eq_true, decide_eq_true_eq, ↓e_seq, decide_true, Bool.not_true]
      unfold T_law_4
      try simp only [↓e_v0, ↓e_vS, ↓e_asg, ↓e_exp, ↓e_ret, ↓e_retN, ↓e_ifS, ↓e_next, ↓e_nev, ↓e_c, ↓e_op, ↓e_un, ↓e_te, ↓e_tru, ↓e_and, ↓e_or, ↓e_not, ↓e_andV, ↓e_orV, ↓e_notV, ↓e_if, ↓e_chain, ↓e_nil, ↓e_cons, ↓e_tup, ↓e_lst, ↓e_lstO, ↓e_cb, ↓e_call, ↓e_fld, ↓e_frz, ↓e_app, ↓e_setIx, ↓e_setF, ↓e_isT, ↓e_make, ↓e_itL, ↓e_itT, ↓e_rng1, ↓e_rng2, ↓e_yes, ↓e_gn, ↓e_lc, ↓e_lcO, ↓e_for, ↓e_brk, ↓e_cnt, ↓e_inOwn, ↓e_raise, ↓e_raiseT, ↓e_try, ↓e_tryN, ↓e_xf, ↓e_isX, ↓e_isO, ↓e_bin, ↓e_uno, ↓e_eqOwn, ↓e_meth, ↓f_max, ↓f_min, ↓f_abs, ↓f_sortI, ↓f_isN, ↓f_notN, ↓f_eqT, ↓f_neT, sz0, sz1, sz2, sz3, sz4, sz5, sz6, sz7, sz8, sz9, sz10, sz11, sz12, tgI, tgN, tgB, tgS, tgL, tgT, tgO, ↓f_ixT0, ↓f_ixT1, ↓f_ixT2, ↓f_ixL0, ↓f_ixL1, ↓f_ixL2, ↓f_ixL3, ↓f_ixT, ↓f_ixL, ↓f_ixP, ↓f_add, ↓f_addL, ↓f_addS, ↓f_sub, ↓f_mul, ↓f_mod, ↓f_div, ↓f_pow, ↓f_lt, ↓f_le, ↓f_gt, ↓f_ge, ↓f_eq, ↓f_ne, ↓f_int, ↓f_neg, ↓f_lenL, ↓f_lenT, ↓f_lenP, truL, truT, truI, truB, truN, objO, clsO, getF, putFs, putDs, tabAt, boolK, reduceCtorEq, List.mem_singleton, true_and, and_true, e_wipe0, e_wipe1, ex_c, getC_self, setC_self, delC_self, lstOf, List.set_cons_zero, List.set_cons_succ, setC_setC, at_0, at_1, at_2, at_3, set_0, set_1, set_2, set_3, List.length_cons, List.length_nil, List.length_map, ↓reduceIte, Bool.false_eq_true, decide_eq_true_eq, ↓e_seq, and_self, decide_true]
      exact weak_now (k _)
    unfold T_law_8
    try simp only [↓e_v0, ↓e_vS, ↓e_asg, ↓e_exp, ↓e_ret, ↓e_retN, ↓e_ifS, ↓e_next, ↓e_nev, ↓e_c, ↓e_op, ↓e_un, ↓e_te, ↓e_tru, ↓e_and, ↓e_or, ↓e_not, ↓e_andV, ↓e_orV, ↓e_notV, ↓e_if, ↓e_chain, ↓e_nil, ↓e_cons, ↓e_tup, ↓e_lst, ↓e_lstO, ↓e_cb, ↓e_call, ↓e_fld, ↓e_frz, ↓e_app, ↓e_setIx, ↓e_setF, ↓e_isT, ↓e_make, ↓e_itL, ↓e_itT, ↓e_rng1, ↓e_rng2, ↓e_yes, ↓e_gn, ↓e_lc, ↓e_lcO, ↓e_for, ↓e_brk, ↓e_cnt, ↓e_inOwn, ↓e_raise, ↓e_raiseT, ↓e_try, ↓e_tryN, ↓e_xf, ↓e_isX, ↓e_isO, ↓e_bin, ↓e_uno, ↓e_eqOwn, ↓e_meth, ↓f_max, ↓f_min, ↓f_abs, ↓f_sortI, ↓f_isN, ↓f_notN, ↓f_eqT, ↓f_neT, sz0, sz1, sz2, sz3, sz4, sz5, sz6, sz7, sz8, sz9, sz10, sz11, sz12, tgI, tgN, tgB, tgS, tgL, tgT, tgO, ↓f_ixT0, ↓f_ixT1, ↓f_ixT2, ↓f_ixL0, ↓f_ixL1, ↓f_ixL2, ↓f_ixL3, ↓f_ixT, ↓f_ixL, ↓f_ixP, ↓f_add, ↓f_addL, ↓f_addS, ↓f_sub, ↓f_mul, ↓f_mod, ↓f_div, ↓f_pow, ↓f_lt, ↓f_le, ↓f_gt, ↓f_ge, ↓f_eq, ↓f_ne, ↓f_int, ↓f_neg, ↓f_lenL, ↓f_lenT, ↓f_lenP, truL, truT, truI, truB, truN, objO, clsO, getF, putFs, putDs, tabAt, boolK, reduceCtorEq, List.mem_singleton, true_and, and_true, e_wipe0, e_wipe1, ex_c, getC_self, setC_self, delC_self, lstOf, List.set_cons_zero, List.set_cons_succ, setC_setC, at_0, at_1, at_2, at_3, set_0, set_1, set_2, set_3, List.length_cons, List.length_nil, List.length_map, ↓reduceIte, Bool.false_eq_true, decide_eq_true_eq, ↓e_seq]
    have sym1 : max y.1 x.1 = max x.1 y.1 := by omega
    have sym2 : min y.2 x.2 = min x.2 y.2 := by omega
    by_cases c : max x.1 y.1 ≤ min x.2 y.2
    · rw [if_pos c]
      unfold T_law_1
      try simp only [↓e_v0, ↓e_vS, ↓e_asg, ↓e_exp, ↓e_ret, ↓e_retN, ↓e_ifS, ↓e_next, ↓e_nev, ↓e_c, ↓e_op, ↓e_un, ↓e_te, ↓e_tru, ↓e_and, ↓e_or, ↓e_not, ↓e_andV, ↓e_orV, ↓e_notV, ↓e_if, ↓e_chain, ↓e_nil, ↓e_cons, ↓e_tup, ↓e_lst, ↓e_lstO, ↓e_cb, ↓e_call, ↓e_fld, ↓e_frz, ↓e_app, ↓e_setIx, ↓e_setF, ↓e_isT, ↓e_make, ↓e_itL, ↓e_itT, ↓e_rng1, ↓e_rng2, ↓e_yes, ↓e_gn, ↓e_lc, ↓e_lcO, ↓e_for, ↓e_brk, ↓e_cnt, ↓e_inOwn, ↓e_raise, ↓e_raiseT, ↓e_try, ↓e_tryN, ↓e_xf, ↓e_isX, ↓e_isO, ↓e_bin, ↓e_uno, ↓e_eqOwn, ↓e_meth, ↓f_max, ↓f_min, ↓f_abs, ↓f_sortI, ↓f_isN, ↓f_notN, ↓f_eqT, ↓f_neT, sz0, sz1, sz2, sz3, sz4, sz5, sz6, sz7, sz8, sz9, sz10, sz11, sz12, tgI, tgN, tgB, tgS, tgL, tgT, tgO, ↓f_ixT0, ↓f_ixT1, ↓f_ixT2, ↓f_ixL0, ↓f_ixL1, ↓f_ixL2, ↓f_ixL3, ↓f_ixT, ↓f_ixL, ↓f_ixP, ↓f_add, ↓f_addL, ↓f_addS, ↓f_sub, ↓f_mul, ↓f_mod, ↓f_div, ↓f_pow, ↓f_lt, ↓f_le, ↓f_gt, ↓f_ge, ↓f_eq, ↓f_ne, ↓f_int, ↓f_neg, ↓f_lenL, ↓f_lenT, ↓f_lenP, truL, truT, truI, truB, truN, objO, clsO, getF, putFs, putDs, tabAt, boolK, reduceCtorEq, List.mem_singleton, true_and, and_true, e_wipe0, e_wipe1, ex_c, getC_self, setC_self, delC_self, lstOf, List.set_cons_zero, List.set_cons_succ, setC_setC, at_0, at_1, at_2, at_3, set_0, set_1, set_2, set_3, List.length_cons, List.length_nil, List.length_map, ↓reduceIte, Bool.false_eq_true, decide_eq_true_eq, ↓e_seq]
      refine ⟨x, y, rfl, fun _ => ?_, fun z => absurd c (by omega)⟩
      try simp only [↓e_v0, ↓e_vS, ↓e_asg, ↓e_exp, ↓e_ret, ↓e_retN, ↓e_ifS, ↓e_next, ↓e_nev, ↓e_c, ↓e_op, ↓e_un, ↓e_te, ↓e_tru, ↓e_and, ↓e_or, ↓e_not, ↓e_andV, ↓e_orV, ↓e_notV, ↓e_if, ↓e_chain, ↓e_nil, ↓e_cons, ↓e_tup, ↓e_lst, ↓e_lstO, ↓e_cb, ↓e_call, ↓e_fld, ↓e_frz, ↓e_app, ↓e_setIx, ↓e_setF, ↓e_isT, ↓e_make, ↓e_itL, ↓e_itT, ↓e_rng1, ↓e_rng2, ↓e_yes, ↓e_gn, ↓e_lc, ↓e_lcO, ↓e_for, ↓e_brk, ↓e_cnt, ↓e_inOwn, ↓e_raise, ↓e_raiseT, ↓e_try, ↓e_tryN, ↓e_xf, ↓e_isX, ↓e_isO, ↓e_bin, ↓e_uno, ↓e_eqOwn, ↓e_meth, ↓f_max, ↓f_min, ↓f_abs, ↓f_sortI, ↓f_isN, ↓f_notN, ↓f_eqT, ↓f_neT, sz0, sz1, sz2, sz3, sz4, sz5, sz6, sz7, sz8, sz9, sz10, sz11, sz12, tgI, tgN, tgB, tgS, tgL, tgT, tgO, ↓f_ixT0, ↓f_ixT1, ↓f_ixT2, ↓f_ixL0, ↓f_ixL1, ↓f_ixL2, ↓f_ixL3, ↓f_ixT, ↓f_ixL, ↓f_ixP, ↓f_add, ↓f_addL, ↓f_addS, ↓f_sub, ↓f_mul, ↓f_mod, ↓f_div, ↓f_pow, ↓f_lt, ↓f_le, ↓f_gt, ↓f_ge, ↓f_eq, ↓f_ne, ↓f_int, ↓f_neg, ↓f_lenL, ↓f_lenT, ↓f_lenP, truL, truT, truI, truB, truN, objO, clsO, getF, putFs, putDs, tabAt, boolK, reduceCtorEq, List.mem_singleton, true_and, and_true, e_wipe0, e_wipe1, ex_c, getC_self, setC_self, delC_self, lstOf, List.set_cons_zero, List.set_cons_succ, setC_setC, at_0, at_1, at_2, at_3, set_0, set_1, set_2, set_3, List.length_cons, List.length_nil, List.length_map, ↓reduceIte, Bool.false_eq_true, decide_eq_true_eq, ↓e_seq, and_self, decide_true, Bool.not_true]
      refine ⟨y, x, rfl, fun _ => ?_, fun z => absurd c (by omega)⟩
      try simp only [↓e_v0, ↓e_vS, ↓e_asg, ↓e_exp, ↓e_ret, ↓e_retN, ↓e_ifS, ↓e_next, ↓e_nev, ↓e_c, ↓e_op, ↓e_un, ↓e_te, ↓e_tru, ↓e_and, ↓e_or, ↓e_not, ↓e_andV, ↓e_orV, ↓e_notV, ↓e_if, ↓e_chain, ↓e_nil, ↓e_cons, ↓e_tup, ↓e_lst, ↓e_lstO, ↓e_cb, ↓e_call, ↓e_fld, ↓e_frz, ↓e_app, ↓e_setIx, ↓e_setF, ↓e_isT, ↓e_make, ↓e_itL, ↓e_itT, ↓e_rng1, ↓e_rng2, ↓e_yes, ↓e_gn, ↓e_lc, ↓e_lcO, ↓e_for, ↓e_brk, ↓e_cnt, ↓e_inOwn, ↓e_raise, ↓e_raiseT, ↓e_try, ↓e_tryN, ↓e_xf, ↓e_isX, ↓e_isO, ↓e_bin, ↓e_uno, ↓e_eqOwn, ↓e_meth, ↓f_max, ↓f_min, ↓f_abs, ↓f_sortI, ↓f_isN, ↓f_notN, ↓f_eqT, ↓f_neT, sz0, sz1, sz2, sz3, sz4, sz5, sz6, sz7, sz8, sz9, sz10, sz11, sz12, tgI, tgN, tgB, tgS, tgL, tgT, tgO, ↓f_ixT0, ↓f_ixT1, ↓f_ixT2, ↓f_ixL0, ↓f_ixL1, ↓f_ixL2, ↓f_ixL3, ↓f_ixT, ↓f_ixL, ↓f_ixP, ↓f_add, ↓f_addL, ↓f_addS, ↓f_sub, ↓f_mul, ↓f_mod, ↓f_div, ↓f_pow, ↓f_lt, ↓f_le, ↓f_gt, ↓f_ge, ↓f_eq, ↓f_ne, ↓f_int, ↓f_neg, ↓f_lenL, ↓f_lenT, ↓f_lenP, truL, truT, truI, truB, truN, objO, clsO, getF, putFs, putDs, tabAt, boolK, reduceCtorEq, List.mem_singleton, true_and, and_true, e_wipe0, e_wipe1, ex_c, getC_self, setC_self, delC_self, lstOf, List.set_cons_zero, List.set_cons_succ, setC_setC, at_0, at_1, at_2, at_3, set_0, set_1, set_2, set_3, List.length_cons, List.length_nil, List.length_map, ↓reduceIte, Bool.false_eq_true, decide_eq_true_eq, ↓e_seq, sym1, sym2, and_self, decide_true, Bool.not_true]
      exact last
    · rw [if_neg c]
      unfold T_law_3
      try simp only [↓e_v0, ↓e_vS, ↓e_asg, ↓e_exp, ↓e_ret, ↓e_retN, ↓e_ifS, ↓e_next, ↓e_nev, ↓e_c, ↓e_op, ↓e_un, ↓e_te, ↓e_tru, ↓e_and, ↓e_or, ↓e_not, ↓e_andV, ↓e_orV, ↓e_notV, ↓e_if, ↓e_chain, ↓e_nil, ↓e_cons, ↓e_tup, ↓e_lst, ↓e_lstO, ↓e_cb, ↓e_call, ↓e_fld, ↓e_frz, ↓e_app, ↓e_setIx, ↓e_setF, ↓e_isT, ↓e_make, ↓e_itL, ↓e_itT, ↓e_rng1, ↓e_rng2, ↓e_yes, ↓e_gn, ↓e_lc, ↓e_lcO, ↓e_for, ↓e_brk, ↓e_cnt, ↓e_inOwn, ↓e_raise, ↓e_raiseT, ↓e_try, ↓e_tryN, ↓e_xf, ↓e_isX, ↓e_isO, ↓e_bin, ↓e_uno, ↓e_eqOwn, ↓e_meth, ↓f_max, ↓f_min, ↓f_abs, ↓f_sortI, ↓f_isN, ↓f_notN, ↓f_eqT, ↓f_neT, sz0, sz1, sz2, sz3, sz4, sz5, sz6, sz7, sz8, sz9, sz10, sz11, sz12, tgI, tgN, tgB, tgS, tgL, tgT, tgO, ↓f_ixT0, ↓f_ixT1, ↓f_ixT2, ↓f_ixL0, ↓f_ixL1, ↓f_ixL2, ↓f_ixL3, ↓f_ixT, ↓f_ixL, ↓f_ixP, ↓f_add, ↓f_addL, ↓f_addS, ↓f_sub, ↓f_mul, ↓f_mod, ↓f_div, ↓f_pow, ↓f_lt, ↓f_le, ↓f_gt, ↓f_ge, ↓f_eq, ↓f_ne, ↓f_int, ↓f_neg, ↓f_lenL, ↓f_lenT, ↓f_lenP, truL, truT, truI, truB, truN, objO, clsO, getF, putFs, putDs, tabAt, boolK, reduceCtorEq, List.mem_singleton, true_and, and_true, e_wipe0, e_wipe1, ex_c, getC_self, setC_self, delC_self, lstOf, List.set_cons_zero, List.set_cons_succ, setC_setC, at_0, at_1, at_2, at_3, set_0, set_1, set_2, set_3, List.length_cons, List.length_nil, List.length_map, ↓reduceIte, Bool.false_eq_true, decide_eq_true_eq, ↓e_seq]
      have q1 : eqB (.lst [pr x, pr y, .bl true, .bl false]) (.lst [pr x, pr y, .bl true, .bl false]) = some true := q_met x y
      have q2 : eqB (.lst [pr y, pr x, .bl true, .bl false]) (.lst [pr y, pr x, .bl true, .bl false]) = some true := q_met y x
      refine ⟨x, y, rfl, fun z => absurd z c, fun _ => ?_⟩
      try simp only [↓e_v0, ↓e_vS, ↓e_asg, ↓e_exp, ↓e_ret, ↓e_retN, ↓e_ifS, ↓e_next, ↓e_nev, ↓e_c, ↓e_op, ↓e_un, ↓e_te, ↓e_tru, ↓e_and, ↓e_or, ↓e_not, ↓e_andV, ↓e_orV, ↓e_notV, ↓e_if, ↓e_chain, ↓e_nil, ↓e_cons, ↓e_tup, ↓e_lst, ↓e_lstO, ↓e_cb, ↓e_call, ↓e_fld, ↓e_frz, ↓e_app, ↓e_setIx, ↓e_setF, ↓e_isT, ↓e_make, ↓e_itL, ↓e_itT, ↓e_rng1, ↓e_rng2, ↓e_yes, ↓e_gn, ↓e_lc, ↓e_lcO, ↓e_for, ↓e_brk, ↓e_cnt, ↓e_inOwn, ↓e_raise, ↓e_raiseT, ↓e_try, ↓e_tryN, ↓e_xf, ↓e_isX, ↓e_isO, ↓e_bin, ↓e_uno, ↓e_eqOwn, ↓e_meth, ↓f_max, ↓f_min, ↓f_abs, ↓f_sortI, ↓f_isN, ↓f_notN, ↓f_eqT, ↓f_neT, sz0, sz1, sz2, sz3, sz4, sz5, sz6, sz7, sz8, sz9, sz10, sz11, sz12, tgI, tgN, tgB, tgS, tgL, tgT, tgO, ↓f_ixT0, ↓f_ixT1, ↓f_ixT2, ↓f_ixL0, ↓f_ixL1, ↓f_ixL2, ↓f_ixL3, ↓f_ixT, ↓f_ixL, ↓f_ixP, ↓f_add, ↓f_addL, ↓f_addS, ↓f_sub, ↓f_mul, ↓f_mod, ↓f_div, ↓f_pow, ↓f_lt, ↓f_le, ↓f_gt, ↓f_ge, ↓f_eq, ↓f_ne, ↓f_int, ↓f_neg, ↓f_lenL, ↓f_lenT, ↓f_lenP, truL, truT, truI, truB, truN, objO, clsO, getF, putFs, putDs, tabAt, boolK, reduceCtorEq, List.mem_singleton, true_and, and_true, e_wipe0, e_wipe1, ex_c, getC_self, setC_self, delC_self, lstOf, List.set_cons_zero, List.set_cons_succ, setC_setC, at_0, at_1, at_2, at_3, set_0, set_1, set_2, set_3, List.length_cons, List.length_nil, List.length_map, ↓reduceIte, Bool.false_eq_true, decide_eq_true_eq, ↓e_seq, fNe, q1, Bool.not_true]
      refine ⟨y, x, rfl, fun z => absurd z (by omega), fun _ => ?_⟩
      try simp only [↓e_v0, ↓e_vS, ↓e_asg, ↓e_exp, ↓e_ret, ↓e_retN, ↓e_ifS, ↓e_next, ↓e_nev, ↓e_c, ↓e_op, ↓e_un, ↓e_te, ↓e_tru, ↓e_and, ↓e_or, ↓e_not, ↓e_andV, ↓e_orV, ↓e_notV, ↓e_if, ↓e_chain, ↓e_nil, ↓e_cons, ↓e_tup, ↓e_lst, ↓e_lstO, ↓e_cb, ↓e_call, ↓e_fld, ↓e_frz, ↓e_app, ↓e_setIx, ↓e_setF, ↓e_isT, ↓e_make, ↓e_itL, ↓e_itT, ↓e_rng1, ↓e_rng2, ↓e_yes, ↓e_gn, ↓e_lc, ↓e_lcO, ↓e_for, ↓e_brk, ↓e_cnt, ↓e_inOwn, ↓e_raise, ↓e_raiseT, ↓e_try, ↓e_tryN, ↓e_xf, ↓e_isX, ↓e_isO, ↓e_bin, ↓e_uno, ↓e_eqOwn, ↓e_meth, ↓f_max, ↓f_min, ↓f_abs, ↓f_sortI, ↓f_isN, ↓f_notN, ↓f_eqT, ↓f_neT, sz0, sz1, sz2, sz3, sz4, sz5, sz6, sz7, sz8, sz9, sz10, sz11, sz12, tgI, tgN, tgB, tgS, tgL, tgT, tgO, ↓f_ixT0, ↓f_ixT1, ↓f_ixT2, ↓f_ixL0, ↓f_ixL1, ↓f_ixL2, ↓f_ixL3, ↓f_ixT, ↓f_ixL, ↓f_ixP, ↓f_add, ↓f_addL, ↓f_addS, ↓f_sub, ↓f_mul, ↓f_mod, ↓f_div, ↓f_pow, ↓f_lt, ↓f_le, ↓f_gt, ↓f_ge, ↓f_eq, ↓f_ne, ↓f_int, ↓f_neg, ↓f_lenL, ↓f_lenT, ↓f_lenP, truL, truT, truI, truB, truN, objO, clsO, getF, putFs, putDs, tabAt, boolK, reduceCtorEq, List.mem_singleton, true_and, and_true, e_wipe0, e_wipe1, ex_c, getC_self, setC_self, delC_self, lstOf, List.set_cons_zero, List.set_cons_succ, setC_setC, at_0, at_1, at_2, at_3, set_0, set_1, set_2, set_3, List.length_cons, List.length_nil, List.length_map, ↓reduceIte, Bool.false_eq_true, decide_eq_true_eq, ↓e_seq, fNe, q2, Bool.not_true]
      unfold T_law_2
      try simp only [↓e_v0, ↓e_vS, ↓e_asg, ↓e_exp, ↓e_ret, ↓e_retN, ↓e_ifS, ↓e_next, ↓e_nev, ↓e_c, ↓e_op, ↓e_un, ↓e_te, ↓e_tru, ↓e_and, ↓e_or, ↓e_not, ↓e_andV, ↓e_orV, ↓e_notV, ↓e_if, ↓e_chain, ↓e_nil, ↓e_cons, ↓e_tup, ↓e_lst, ↓e_lstO, ↓e_cb, ↓e_call, ↓e_fld, ↓e_frz, ↓e_app, ↓e_setIx, ↓e_setF, ↓e_isT, ↓e_make, ↓e_itL, ↓e_itT, ↓e_rng1, ↓e_rng2, ↓e_yes, ↓e_gn, ↓e_lc, ↓e_lcO, ↓e_for, ↓e_brk, ↓e_cnt, ↓e_inOwn, ↓e_raise, ↓e_raiseT, ↓e_try, ↓e_tryN, ↓e_xf, ↓e_isX, ↓e_isO, ↓e_bin, ↓e_uno, ↓e_eqOwn, ↓e_meth, ↓f_max, ↓f_min, ↓f_abs, ↓f_sortI, ↓f_isN, ↓f_notN, ↓f_eqT, ↓f_neT, sz0, sz1, sz2, sz3, sz4, sz5, sz6, sz7, sz8, sz9, sz10, sz11, sz12, tgI, tgN, tgB, tgS, tgL, tgT, tgO, ↓f_ixT0, ↓f_ixT1, ↓f_ixT2, ↓f_ixL0, ↓f_ixL1, ↓f_ixL2, ↓f_ixL3, ↓f_ixT, ↓f_ixL, ↓f_ixP, ↓f_add, ↓f_addL, ↓f_addS, ↓f_sub, ↓f_mul, ↓f_mod, ↓f_div, ↓f_pow, ↓f_lt, ↓f_le, ↓f_gt, ↓f_ge, ↓f_eq, ↓f_ne, ↓f_int, ↓f_neg, ↓f_lenL, ↓f_lenT, ↓f_lenP, truL, truT, truI, truB, truN, objO, clsO, getF, putFs, putDs, tabAt, boolK, reduceCtorEq, List.mem_singleton, true_and, and_true, e_wipe0, e_wipe1, ex_c, getC_self, setC_self, delC_self, lstOf, List.set_cons_zero, List.set_cons_succ, setC_setC, at_0, at_1, at_2, at_3, set_0, set_1, set_2, set_3, List.length_cons, List.length_nil, List.length_map, ↓reduceIte, Bool.false_eq_true, decide_eq_true_eq, ↓e_seq]
      refine ⟨x, y, rfl, by omega, ?_⟩
      try simp only [↓e_v0, ↓e_vS, ↓e_asg, ↓e_exp, ↓e_ret, ↓e_retN, ↓e_ifS, ↓e_next, ↓e_nev, ↓e_c, ↓e_op, ↓e_un, ↓e_te, ↓e_tru, ↓e_and, ↓e_or, ↓e_not, ↓e_andV, ↓e_orV, ↓e_notV, ↓e_if, ↓e_chain, ↓e_nil, ↓e_cons, ↓e_tup, ↓e_lst, ↓e_lstO, ↓e_cb, ↓e_call, ↓e_fld, ↓e_frz, ↓e_app, ↓e_setIx, ↓e_setF, ↓e_isT, ↓e_make, ↓e_itL, ↓e_itT, ↓e_rng1, ↓e_rng2, ↓e_yes, ↓e_gn, ↓e_lc, ↓e_lcO, ↓e_for, ↓e_brk, ↓e_cnt, ↓e_inOwn, ↓e_raise, ↓e_raiseT, ↓e_try, ↓e_tryN, ↓e_xf, ↓e_isX, ↓e_isO, ↓e_bin, ↓e_uno, ↓e_eqOwn, ↓e_meth, ↓f_max, ↓f_min, ↓f_abs, ↓f_sortI, ↓f_isN, ↓f_notN, ↓f_eqT, ↓f_neT, sz0, sz1, sz2, sz3, sz4, sz5, sz6, sz7, sz8, sz9, sz10, sz11, sz12, tgI, tgN, tgB, tgS, tgL, tgT, tgO, ↓f_ixT0, ↓f_ixT1, ↓f_ixT2, ↓f_ixL0, ↓f_ixL1, ↓f_ixL2, ↓f_ixL3, ↓f_ixT, ↓f_ixL, ↓f_ixP, ↓f_add, ↓f_addL, ↓f_addS, ↓f_sub, ↓f_mul, ↓f_mod, ↓f_div, ↓f_pow, ↓f_lt, ↓f_le, ↓f_gt, ↓f_ge, ↓f_eq, ↓f_ne, ↓f_int, ↓f_neg, ↓f_lenL, ↓f_lenT, ↓f_lenP, truL, truT, truI, truB, truN, objO, clsO, getF, putFs, putDs, tabAt, boolK, reduceCtorEq, List.mem_singleton, true_and, and_true, e_wipe0, e_wipe1, ex_c, getC_self, setC_self, delC_self, lstOf, List.set_cons_zero, List.set_cons_succ, setC_setC, at_0, at_1, at_2, at_3, set_0, set_1, set_2, set_3, List.length_cons, List.length_nil, List.length_map, ↓reduceIte, Bool.false_eq_true, decide_eq_true_eq, ↓e_seq, Bool.not_true]
      exact last
  unfold T_law_13
  try simp only [↓e_v0, ↓e_vS, ↓e_asg, ↓e_exp, ↓e_ret, ↓e_retN, ↓e_ifS, ↓e_next, ↓e_nev, ↓e_c, ↓e_op, ↓e_un, ↓e_te, ↓e_tru, ↓e_and, ↓e_or, ↓e_not, ↓e_andV, ↓e_orV, ↓e_notV, ↓e_if, ↓e_chain, ↓e_nil, ↓e_cons, ↓e_tup, ↓e_lst, ↓e_lstO, ↓e_cb, ↓e_call, ↓e_fld, ↓e_frz, ↓e_app, ↓e_setIx, ↓e_setF, ↓e_isT, ↓e_make, ↓e_itL, ↓e_itT, ↓e_rng1, ↓e_rng2, ↓e_yes, ↓e_gn, ↓e_lc, ↓e_lcO, ↓e_for, ↓e_brk, ↓e_cnt, ↓e_inOwn, ↓e_raise, ↓e_raiseT, ↓e_try, ↓e_tryN, ↓e_xf, ↓e_isX, ↓e_isO, ↓e_bin, ↓e_uno, ↓e_eqOwn, ↓e_meth, ↓f_max, ↓f_min, ↓f_abs, ↓f_sortI, ↓f_isN, ↓f_notN, ↓f_eqT, ↓f_neT, sz0, sz1, sz2, sz3, sz4, sz5, sz6, sz7, sz8, sz9, sz10, sz11, sz12, tgI, tgN, tgB, tgS, tgL, tgT, tgO, ↓f_ixT0, ↓f_ixT1, ↓f_ixT2, ↓f_ixL0, ↓f_ixL1, ↓f_ixL2, ↓f_ixL3, ↓f_ixT, ↓f_ixL, ↓f_ixP, ↓f_add, ↓f_addL, ↓f_addS, ↓f_sub, ↓f_mul, ↓f_mod, ↓f_div, ↓f_pow, ↓f_lt, ↓f_le, ↓f_gt, ↓f_ge, ↓f_eq, ↓f_ne, ↓f_int, ↓f_neg, ↓f_lenL, ↓f_lenT, ↓f_lenP, truL, truT, truI, truB, truN, objO, clsO, getF, putFs, putDs, tabAt, boolK, reduceCtorEq, List.mem_singleton, true_and, and_true, e_wipe0, e_wipe1, ex_c, getC_self, setC_self, delC_self, lstOf, List.set_cons_zero, List.set_cons_succ, setC_setC, at_0, at_1, at_2, at_3, set_0, set_1, set_2, set_3, List.length_cons, List.length_nil, List.length_map, ↓reduceIte, Bool.false_eq_true, decide_eq_true_eq, ↓e_seq]
  by_cases c : nr < 3
  · rw [if_pos c]
    refine t0_law ?_
    have hz : x.2 + nr ≤ x.2 + nr + y.2 - y.1 := by omega
    exact main (x.2 + nr, x.2 + nr + y.2 - y.1) hz
  · rw [if_neg c]
    exact main y hy

def top (i : Nat) : Stmt := PySem.Challenge.pw_gaugemiss_k03_stretches_meet.main.body.getD i (.Pass ⟨0, 0, 0, 0⟩)
section
variable {g : Gm} {P : Program} {w : World} {mg : Str → Option Value} {base : Heap}
abbrev s_law_take : Stmt := top 10
theorem sc_law_take : FnScope N_law_take ["_law_box_here", "_law_many"] (defScope s_law_take) := ⟨rfl, rfl, rfl, by decide +kernel, rfl, by decide +kernel, by decide +kernel⟩
theorem b_law_take (B : Bt mg)  : BodyOk g P w g.K mg base 0 N_law_take "_law_take" s_law_take T_law_take := fun f cdv A outer s H E hr =>
  (qss_cons (qs_asg 2 sc_law_take.nd (q_ix (q_var 0) q_int)) (qss_cons (qs_if (PW.pt (qw_and (qt_cmp (op_eqA hr.units) lk_eq (q_ix (q_var 0) q_int) q_int (nomark _)) (qw_and (qt_cmp op_lt lk_lt (q_ix (q_var 0) q_int) (q_callB call_lenA lk_len B.len (qa_cons (q_var 2) qa_nil)) (nomark _)) (qw_and1 (qt_cmp op_gt lk_gt (q_ix (q_var 2) (q_ix (q_var 0) q_int)) (q_op op_pow lk_pow q_int q_int) (nomark _)))))) (qss_cons (qs_setIx (q_var 0) q_int (q_op op_sub lk_sub (q_ix (q_var 2) (q_ix (q_var 0) q_int)) (q_op op_pow lk_pow q_int q_int))) (qss_one (qs_setIx (q_var 0) q_int (q_op op_addA lk_add (q_ix (q_var 0) q_int) q_int)))) qss_nil) (qss_cons (qs_if (qt_cmp op_gt lk_gt (q_ix (q_var 0) q_int) q_int (nomark _)) (qss_cons (qs_asg 3 sc_law_take.nd (q_op op_mod lk_mod (q_callTy call_int1 lk_int B.int (qa_cons (q_ix (q_var 0) q_int) qa_nil)) (q_var 1))) (qss_cons (qs_setIx (q_var 0) q_int (q_op op_fdiv lk_div (q_callTy call_int1 lk_int B.int (qa_cons (q_ix (q_var 0) q_int) qa_nil)) (q_var 1))) (qss_one (qs_ret (q_var 3))))) qss_nil) (qss_cons (qs_asg 4 sc_law_take.nd q_int) (qss_cons (qs_if (qt_cmp op_lt lk_lt (q_ix (q_var 0) q_int) (q_callB call_lenA lk_len B.len (qa_cons (q_var 2) qa_nil)) (nomark _)) (qss_one (qs_asg 4 sc_law_take.nd (q_callTy call_int1 lk_int B.int (qa_cons (q_ix (q_var 2) (q_ix (q_var 0) q_int)) qa_nil)))) qss_nil) (qss_cons (qs_setIx (q_var 0) q_int (q_op op_addA lk_add (q_ix (q_var 0) q_int) q_int)) (qss_cons (qs_setIx (q_var 0) q_int (q_op op_mod lk_mod (q_callTy call_int1 lk_int B.int (qa_cons (q_op op_addA lk_add (q_op op_addA lk_add (q_op op_mul lk_mul (q_ix (q_var 0) q_int) q_int) (q_op op_mul lk_mul (q_var 4) q_int)) (q_ix (q_var 0) q_int)) qa_nil)) q_int)) (qss_one (qs_ret (q_op op_mod lk_mod (q_op op_mod lk_mod (q_callTy call_int1 lk_int B.int (qa_cons (q_op op_addA lk_add (q_op op_mul lk_mul (q_op op_fdiv lk_div (q_ix (q_var 0) q_int) q_int) q_int) (q_op op_mod lk_mod (q_callTy call_int1 lk_int B.int (qa_cons (q_ix (q_var 0) q_int) qa_nil)) q_int)) qa_nil)) q_int) (q_var 1)))))))))))

abbrev s_law_box : Stmt := top 9
theorem sc_law_box : FnScope N_law_box ["_law_script", "_law_salt"] (defScope s_law_box) := ⟨rfl, rfl, rfl, by decide +kernel, rfl, by decide +kernel, by decide +kernel⟩
theorem b_law_box (B : Bt mg)  : BodyOk g P w g.K mg base 0 N_law_box "_law_box" s_law_box T_law_box := fun f cdv A outer s H E hr =>
  (qss_one (qs_ret (q_lstO (qa_cons (q_lc (own := [("_law_cell", 2)]) sc_law_box.nd (qi_list (q_slice (q_var 0) qo_none (qo_some q_int))) (blkOk_by (N := N_law_box) (sc := defScope s_law_box) (by decide +kernel)) (fun _ _ _ _ _ => pg_name (i := 2) sc_law_box.nd rfl (Or.inl rfl)) (lkg_name 2) (fun _ _ _ _ _ => qts_nil) (fun _ _ _ _ _ => (q_callTy call_int1 lk_int B.int (qa_cons (q_var 2) qa_nil)))) (qa_cons q_int (qa_cons q_int (qa_cons (q_var 1) qa_nil)))))))

abbrev s_law_span : Stmt := top 12
theorem sc_law_span : FnScope N_law_span ["_law_box_here"] (defScope s_law_span) := ⟨rfl, rfl, rfl, by decide +kernel, rfl, by decide +kernel, by decide +kernel⟩
theorem b_law_span (B : Bt mg) (gd_law_take : GD g P w g.K mg base 1 "_law_take" S_law_take) : BodyOk g P w g.K mg base 1 N_law_span "_law_span" s_law_span T_law_span := fun f cdv A outer s H E hr =>
  (qss_one (qs_ret (q_ix (q_lst (qa_cons q_int (qa_cons q_int (qa_cons q_int (qa_cons q_int qa_nil))))) (q_gcall gd_law_take hr (takes_of rfl rfl rfl rfl) (qa_cons (q_var 0) (qa_cons q_int qa_nil))))))

abbrev s_law_moved : Stmt := top 13
theorem sc_law_moved : FnScope N_law_moved ["_law_box_here"] (defScope s_law_moved) := ⟨rfl, rfl, rfl, by decide +kernel, rfl, by decide +kernel, by decide +kernel⟩
theorem b_law_moved (B : Bt mg) (gd_law_take : GD g P w g.K mg base 1 "_law_take" S_law_take) : BodyOk g P w g.K mg base 1 N_law_moved "_law_moved" s_law_moved T_law_moved := fun f cdv A outer s H E hr =>
  (qss_one (qs_ret (q_ix (q_lst (qa_cons q_int (qa_cons q_int (qa_cons (q_neg q_int) (qa_cons (q_op op_pow lk_pow q_int q_int) (qa_cons (q_neg (q_op op_pow lk_pow q_int q_int)) qa_nil)))))) (q_gcall gd_law_take hr (takes_of rfl rfl rfl rfl) (qa_cons (q_var 0) (qa_cons q_int qa_nil))))))

abbrev s_law_pair : Stmt := top 11
theorem sc_law_pair : FnScope N_law_pair ["_law_box_here", "_law_span_here", "_law_moved_here"] (defScope s_law_pair) := ⟨rfl, rfl, rfl, by decide +kernel, rfl, by decide +kernel, by decide +kernel⟩
theorem b_law_pair (B : Bt mg) (gd_law_take : GD g P w g.K mg base 1 "_law_take" S_law_take) : BodyOk g P w g.K mg base 1 N_law_pair "_law_pair" s_law_pair T_law_pair := fun f cdv A outer s H E hr =>
  (qss_cons (qs_asg 3 sc_law_pair.nd (q_op op_addA lk_add (q_op op_sub lk_sub (q_gcall gd_law_take hr (takes_of rfl rfl rfl rfl) (qa_cons (q_var 0) (qa_cons (q_op op_mul lk_mul q_int (q_var 1)) qa_nil))) (q_var 1)) (q_var 2))) (qss_cons (qs_asg 4 sc_law_pair.nd (q_ix (q_lst (qa_cons q_int (qa_cons q_int (qa_cons q_int (qa_cons (q_var 1) qa_nil))))) (q_gcall gd_law_take hr (takes_of rfl rfl rfl rfl) (qa_cons (q_var 0) (qa_cons q_int qa_nil))))) (qss_one (qs_ret (q_tup (qa_cons (q_var 3) (qa_cons (q_op op_addA lk_add (q_var 3) (q_gcall gd_law_take hr (takes_of rfl rfl rfl rfl) (qa_cons (q_var 0) (qa_cons (q_op op_addA lk_add (q_var 4) q_int) qa_nil)))) qa_nil)))))))

abbrev s_Stretch_init : Stmt := inClass (top 7) 0
theorem sc_Stretch_init : FnScope N_Stretch_init ["self", "low", "high"] (defScope s_Stretch_init) := ⟨rfl, rfl, rfl, by decide +kernel, rfl, by decide +kernel, by decide +kernel⟩
theorem b_Stretch_init (B : Bt mg) (gx_BadStretch : GX g P w g.K mg base .BadStretch "BadStretch" [.low, .high]) (fl_low : Flds g [.Stretch] .low) (fl_high : Flds g [.Stretch] .high) : BodyOk g P w g.K mg base 2 N_Stretch_init "Stretch.__init__" s_Stretch_init T_Stretch_init := fun f cdv A outer s H E hr =>
  (qss_cons (qs_if (qt_cmp op_gt lk_gt (q_var 1) (q_var 2) (nomark _)) (qss_one (qs_raise gx_BadStretch hr (takes_of rfl rfl rfl rfl) (qa_cons (q_var 1) (qa_cons (q_var 2) qa_nil)))) qss_nil) (qss_cons (qs_setF fl_low (q_var 0) (q_var 1)) (qss_one (qs_setF fl_high (q_var 0) (q_var 2)))))

abbrev s_Stretch_eq : Stmt := inClass (top 7) 5
theorem sc_Stretch_eq : FnScope N_Stretch_eq ["self", "other"] (defScope s_Stretch_eq) := ⟨rfl, rfl, rfl, by decide +kernel, rfl, by decide +kernel, by decide +kernel⟩
theorem b_Stretch_eq (B : Bt mg) (iso_Stretch : IsO g (.ref (g.ca .Stretch)) isoStretch) (mgc_Stretch : mg "Stretch" = some (.ref (g.ca .Stretch))) (fl_low : Flds g [.Stretch] .low) (fl_high : Flds g [.Stretch] .high) : BodyOk g P w g.K mg base 0 N_Stretch_eq "Stretch.__eq__" s_Stretch_eq T_Stretch_eq := fun f cdv A outer s H E hr =>
  (qss_one (qs_ret (q_and (q_isO iso_Stretch B.isinstance mgc_Stretch (q_var 1)) (q_and (q_cmp (op_eqA hr.units) lk_eq (q_fld fl_low (q_var 0)) (q_fld fl_low (q_var 1)) (nomark _)) (q_one (q_cmp (op_eqA hr.units) lk_eq (q_fld fl_high (q_var 0)) (q_fld fl_high (q_var 1)) (nomark _)))))))

abbrev s_Stretch_and : Stmt := inClass (top 7) 11
theorem sc_Stretch_and : FnScope N_Stretch_and ["self", "other"] (defScope s_Stretch_and) := ⟨rfl, rfl, rfl, by decide +kernel, rfl, by decide +kernel, by decide +kernel⟩
theorem b_Stretch_and (B : Bt mg) (fl_low : Flds g [.Stretch] .low) (fl_high : Flds g [.Stretch] .high) (gx_Apart : GX g P w g.K mg base .Apart "Apart" [.first, .second]) (gc_Stretch : GC g P w g.K mg base 3 .Stretch "Stretch" S_Stretch_init) : BodyOk g P w g.K mg base 4 N_Stretch_and "Stretch.__and__" s_Stretch_and T_Stretch_and := fun f cdv A outer s H E hr =>
  (qss_cons (qs_asg 2 sc_Stretch_and.nd (q_callB (call_max2 rfl) lk_max2 B.max (qa_cons (q_fld fl_low (q_var 0)) (qa_cons (q_fld fl_low (q_var 1)) qa_nil)))) (qss_cons (qs_asg 3 sc_Stretch_and.nd (q_callB (call_min2 rfl) lk_min2 B.min (qa_cons (q_fld fl_high (q_var 0)) (qa_cons (q_fld fl_high (q_var 1)) qa_nil)))) (qss_cons (qs_if (qt_cmp op_gt lk_gt (q_var 2) (q_var 3) (nomark _)) (qss_one (qs_raise gx_Apart hr (takes_of rfl rfl rfl rfl) (qa_cons (q_tup (qa_cons (q_fld fl_low (q_var 0)) (qa_cons (q_fld fl_high (q_var 0)) qa_nil))) (qa_cons (q_tup (qa_cons (q_fld fl_low (q_var 1)) (qa_cons (q_fld fl_high (q_var 1)) qa_nil))) qa_nil)))) qss_nil) (qss_one (qs_ret (q_gmake gc_Stretch hr (takes_of rfl rfl rfl rfl) (qa_cons (q_var 2) (qa_cons (q_var 3) qa_nil))))))))

abbrev s_Stretch_or : Stmt := inClass (top 7) 12
theorem sc_Stretch_or : FnScope N_Stretch_or ["self", "other"] (defScope s_Stretch_or) := ⟨rfl, rfl, rfl, by decide +kernel, rfl, by decide +kernel, by decide +kernel⟩
theorem b_Stretch_or (B : Bt mg) (gc_Stretch : GC g P w g.K mg base 3 .Stretch "Stretch" S_Stretch_init) (fl_high : Flds g [.Stretch] .high) (fl_low : Flds g [.Stretch] .low) : BodyOk g P w g.K mg base 4 N_Stretch_or "Stretch.__or__" s_Stretch_or T_Stretch_or := fun f cdv A outer s H E hr =>
  (qss_one (qs_ret (q_gmake gc_Stretch hr (takes_of rfl rfl rfl rfl) (qa_cons (q_callB (call_min2 rfl) lk_min2 B.min (qa_cons (q_fld fl_low (q_var 0)) (qa_cons (q_fld fl_low (q_var 1)) qa_nil))) (qa_cons (q_callB (call_max2 rfl) lk_max2 B.max (qa_cons (q_fld fl_high (q_var 0)) (qa_cons (q_fld fl_high (q_var 1)) qa_nil))) qa_nil)))))

abbrev s_law_met : Stmt := top 14
theorem sc_law_met : FnScope N_law_met ["_law_one", "_law_two"] (defScope s_law_met) := ⟨rfl, rfl, rfl, by decide +kernel, rfl, by decide +kernel, by decide +kernel⟩
theorem b_law_met (B : Bt mg) (mt_and_Stretch : MTab g P w g.K mg base 5 "__and__" [(.Stretch, S_Stretch_and)]) (fi_and_Stretch : First g g.K [(.Stretch, S_Stretch_and)]) (isx_BadStretch : IsTab g (.ref (g.ea .BadStretch)) isxBadStretch) (mg_BadStretch : mg "BadStretch" = some (.ref (g.ea .BadStretch))) (isx_NoLevel : IsTab g (.ref (g.ea .NoLevel)) isxNoLevel) (mg_NoLevel : mg "NoLevel" = some (.ref (g.ea .NoLevel))) (isx_GaugeError : IsTab g (.ref (g.ea .GaugeError)) isxGaugeError) (mg_GaugeError : mg "GaugeError" = some (.ref (g.ea .GaugeError))) (xf_second_Apart : XFl g [.Apart] .second) (xf_first_Apart : XFl g [.Apart] .first) (mg_Apart : mg "Apart" = some (.ref (g.ea .Apart))) (ct_Apart : Cat g g.K (.ref (g.ea .Apart)) catApart) (fl_high : Flds g [.Stretch] .high) (fl_low : Flds g [.Stretch] .low) : BodyOk g P w g.K mg base 5 N_law_met "_law_met" s_law_met T_law_met := fun f cdv A outer s H E hr =>
  (qss_cons (qs_try 3 sc_law_met.nd ⟨rfl, by decide, .inl mg_Apart⟩ (takes_of rfl rfl rfl rfl) ct_Apart (fun W' pn xe tk hp => (qss_one (qs_asg 2 sc_law_met.nd (q_binS (nm := "__and__") mt_and_Stretch fi_and_Stretch hr tk (q_var 0) (q_var 1))))) (fun a oe ec d pn hz hv => (qss_one (qs_ret (q_lst (qa_cons (q_xf xf_first_Apart hz hv (q_var 3)) (qa_cons (q_xf xf_second_Apart hz hv (q_var 3)) (qa_cons (q_and (q_isX (vv := .ref (g.ea .NoLevel)) isx_NoLevel hz hv B.isinstance (q_var 3) (pe_glob rfl mg_NoLevel rfl) (fun _ h => h)) (q_one (q_isX (vv := .ref (g.ea .GaugeError)) isx_GaugeError hz hv B.isinstance (q_var 3) (pe_glob rfl mg_GaugeError rfl) (fun _ h => h)))) (qa_cons (q_isX (vv := .ref (g.ea .BadStretch)) isx_BadStretch hz hv B.isinstance (q_var 3) (pe_glob rfl mg_BadStretch rfl) (fun _ h => h)) qa_nil))))))))) (qss_one (qs_ret (q_tup (qa_cons (q_fld fl_low (q_var 2)) (qa_cons (q_fld fl_high (q_var 2)) qa_nil))))))

abbrev s_law_base : Stmt := top 15
theorem sc_law_base : FnScope N_law_base ["_law_one", "_law_two"] (defScope s_law_base) := ⟨rfl, rfl, rfl, by decide +kernel, rfl, by decide +kernel, by decide +kernel⟩
theorem b_law_base (B : Bt mg) (mt_and_Stretch : MTab g P w g.K mg base 5 "__and__" [(.Stretch, S_Stretch_and)]) (fi_and_Stretch : First g g.K [(.Stretch, S_Stretch_and)]) (isx_ValueError : IsTab g (.type "ValueError") isxValueError) (mgb_ValueError : mg "ValueError" = none) (mg_NoLevel : mg "NoLevel" = some (.ref (g.ea .NoLevel))) (ct_NoLevel : Cat g g.K (.ref (g.ea .NoLevel)) catNoLevel) : BodyOk g P w g.K mg base 5 N_law_base "_law_base" s_law_base T_law_base := fun f cdv A outer s H E hr =>
  (qss_cons (qs_try 3 sc_law_base.nd ⟨rfl, by decide, .inl mg_NoLevel⟩ (takes_of rfl rfl rfl rfl) ct_NoLevel (fun W' pn xe tk hp => (qss_one (qs_asg 2 sc_law_base.nd (q_binS (nm := "__and__") mt_and_Stretch fi_and_Stretch hr tk (q_var 0) (q_var 1))))) (fun a oe ec d pn hz hv => (qss_one (qs_ret (q_isX (vv := .ty "ValueError") isx_ValueError hz hv B.isinstance (q_var 3) (pe_bltn rfl mgb_ValueError (by decide +kernel) rfl) (fun _ h => h)))))) (qss_one (qs_ret (q_cmp op_isN lk_isN (q_var 2) q_non (nomark _)))))

abbrev s_law : Stmt := top 16
theorem sc_law : FnScope N_law ["_law_script"] (defScope s_law) := ⟨rfl, rfl, rfl, by decide +kernel, rfl, by decide +kernel, by decide +kernel⟩
theorem b_law (B : Bt mg) (gd_law_box : GD g P w g.K mg base 1 "_law_box" S_law_box) (gd_law_span : GD g P w g.K mg base 2 "_law_span" S_law_span) (gd_law_moved : GD g P w g.K mg base 2 "_law_moved" S_law_moved) (gd_law_pair : GD g P w g.K mg base 2 "_law_pair" S_law_pair) (gd_law_take : GD g P w g.K mg base 1 "_law_take" S_law_take) (gc_Stretch : GC g P w g.K mg base 3 .Stretch "Stretch" S_Stretch_init) (gd_law_met : GD g P w g.K mg base 6 "_law_met" S_law_met) (gd_law_base : GD g P w g.K mg base 6 "_law_base" S_law_base) (mt_or_Stretch : MTab g P w g.K mg base 5 "__or__" [(.Stretch, S_Stretch_or)]) (fi_or_Stretch : First g g.K [(.Stretch, S_Stretch_or)]) (fl_high : Flds g [.Stretch] .high) (fl_low : Flds g [.Stretch] .low) (mt_eq_Stretch : MTab g P w g.K mg base 1 "__eq__" [(.Stretch, S_Stretch_eq)]) (nf_eq_Stretch : NotF g [(.Stretch, S_Stretch_eq)] nf) (ne_eq_Stretch : NeF g [(.Stretch, S_Stretch_eq)]) : BodyOk g P w g.K mg base 6 N_law "law" s_law T_law := fun f cdv A outer s H E hr =>
  (qss_cons (qs_asg 1 sc_law.nd (q_gcall gd_law_box hr (takes_of rfl rfl rfl rfl) (qa_cons (q_var 0) (qa_cons q_int qa_nil)))) (qss_cons (qs_asg 2 sc_law.nd (q_gcall gd_law_span hr (takes_of rfl rfl rfl rfl) (qa_cons (q_var 1) qa_nil))) (qss_cons (qs_asg 3 sc_law.nd (q_gcall gd_law_moved hr (takes_of rfl rfl rfl rfl) (qa_cons (q_var 1) qa_nil))) (qss_cons (qs_asg 4 sc_law.nd (q_gcall gd_law_pair hr (takes_of rfl rfl rfl rfl) (qa_cons (q_var 1) (qa_cons (q_var 2) (qa_cons (q_var 3) qa_nil))))) (qss_cons (qs_asg 5 sc_law.nd (q_gcall gd_law_pair hr (takes_of rfl rfl rfl rfl) (qa_cons (q_var 1) (qa_cons (q_var 2) (qa_cons (q_var 3) qa_nil))))) (qss_cons (qs_asg 6 sc_law.nd (q_gcall gd_law_take hr (takes_of rfl rfl rfl rfl) (qa_cons (q_var 1) (qa_cons q_int qa_nil)))) (qss_cons (qs_if (qt_cmp op_lt lk_lt (q_var 6) q_int (nomark _)) (qss_one (qs_asg 5 sc_law.nd (q_tup (qa_cons (q_op op_addA lk_add (q_ix (q_var 4) q_int) (q_var 6)) (qa_cons (q_op op_sub lk_sub (q_op op_addA lk_add (q_op op_addA lk_add (q_ix (q_var 4) q_int) (q_var 6)) (q_ix (q_var 5) q_int)) (q_ix (q_var 5) q_int)) qa_nil))))) qss_nil) (qss_cons (qs_asg 7 sc_law.nd (q_gmake gc_Stretch hr (takes_of rfl rfl rfl rfl) (qa_cons (q_ix (q_var 4) q_int) (qa_cons (q_ix (q_var 4) q_int) qa_nil)))) (qss_cons (qs_asg 8 sc_law.nd (q_gmake gc_Stretch hr (takes_of rfl rfl rfl rfl) (qa_cons (q_ix (q_var 5) q_int) (qa_cons (q_ix (q_var 5) q_int) qa_nil)))) (qss_cons (qs_asg 9 sc_law.nd (q_callB (call_max2 rfl) lk_max2 B.max (qa_cons (q_ix (q_var 4) q_int) (qa_cons (q_ix (q_var 5) q_int) qa_nil)))) (qss_cons (qs_asg 10 sc_law.nd (q_callB (call_min2 rfl) lk_min2 B.min (qa_cons (q_ix (q_var 4) q_int) (qa_cons (q_ix (q_var 5) q_int) qa_nil)))) (qss_cons (qs_if (qt_cmp op_le lk_le (q_var 9) (q_var 10) (nomark _)) (qss_one (qs_if (PW.pt (qw_or (qt_cmp (op_neA hr.units) lk_ne (q_gcall gd_law_met hr (takes_of rfl rfl rfl rfl) (qa_cons (q_var 7) (qa_cons (q_var 8) qa_nil))) (q_tup (qa_cons (q_var 9) (qa_cons (q_var 10) qa_nil))) (nomark _)) (qw_or1 (qt_cmp (op_neA hr.units) lk_ne (q_gcall gd_law_met hr (takes_of rfl rfl rfl rfl) (qa_cons (q_var 8) (qa_cons (q_var 7) qa_nil))) (q_tup (qa_cons (q_var 9) (qa_cons (q_var 10) qa_nil))) (nomark _))))) (qss_one (qs_ret q_bl)) qss_nil)) (qss_cons (qs_if (PW.pt (qw_or (qt_cmp (op_neA hr.units) lk_ne (q_gcall gd_law_met hr (takes_of rfl rfl rfl rfl) (qa_cons (q_var 7) (qa_cons (q_var 8) qa_nil))) (q_lst (qa_cons (q_var 4) (qa_cons (q_var 5) (qa_cons q_bl (qa_cons q_bl qa_nil))))) (nomark _)) (qw_or1 (qt_cmp (op_neA hr.units) lk_ne (q_gcall gd_law_met hr (takes_of rfl rfl rfl rfl) (qa_cons (q_var 8) (qa_cons (q_var 7) qa_nil))) (q_lst (qa_cons (q_var 5) (qa_cons (q_var 4) (qa_cons q_bl (qa_cons q_bl qa_nil))))) (nomark _))))) (qss_one (qs_ret q_bl)) qss_nil) (qss_one (qs_if (qt_not (qt_val (q_gcall gd_law_base hr (takes_of rfl rfl rfl rfl) (qa_cons (q_var 7) (qa_cons (q_var 8) qa_nil))))) (qss_one (qs_ret q_bl)) qss_nil)))) (qss_cons (qs_asg 11 sc_law.nd (q_binS (nm := "__or__") mt_or_Stretch fi_or_Stretch hr (takes_of rfl rfl rfl rfl) (q_var 7) (q_var 8))) (qss_cons (qs_asg 12 sc_law.nd (q_binS (nm := "__or__") mt_or_Stretch fi_or_Stretch hr (takes_of rfl rfl rfl rfl) (q_var 8) (q_var 7))) (qss_cons (qs_if (PW.pt (qw_or (qt_cmp (op_neA hr.units) lk_ne (q_tup (qa_cons (q_fld fl_low (q_var 11)) (qa_cons (q_fld fl_high (q_var 11)) qa_nil))) (q_tup (qa_cons (q_callB (call_min2 rfl) lk_min2 B.min (qa_cons (q_ix (q_var 4) q_int) (qa_cons (q_ix (q_var 5) q_int) qa_nil))) (qa_cons (q_callB (call_max2 rfl) lk_max2 B.max (qa_cons (q_ix (q_var 4) q_int) (qa_cons (q_ix (q_var 5) q_int) qa_nil))) qa_nil))) (nomark _)) (qw_or1 (qt_neOwn mt_eq_Stretch nf_eq_Stretch ne_eq_Stretch hr (takes_of rfl rfl rfl rfl) (q_var 11) (q_var 12))))) (qss_one (qs_ret q_bl)) qss_nil) (qss_one (qs_ret (q_and (q_cmp (op_eqA hr.units) lk_eq (q_tup (qa_cons (q_fld fl_low (q_var 7)) (qa_cons (q_fld fl_high (q_var 7)) qa_nil))) (q_var 4) (nomark _)) (q_one (q_cmp (op_eqA hr.units) lk_eq (q_tup (qa_cons (q_fld fl_low (q_var 8)) (qa_cons (q_fld fl_high (q_var 8)) qa_nil))) (q_var 5) (nomark _)))))))))))))))))))))

end
abbrev s_BadStretch_init : Stmt := inClass (top 3) 0
theorem x_BadStretch {P : Program} {w : World} {K : PySem.W.Frag} {mg : Str → Option Value} {base : Heap} {f cc cda C : Addr} {fd : FuncData} {file : Str} (F : FunS K "__init__" "BadStretch.__init__" s_BadStretch_init f fd cc cda C file) (PG : Pg P file) (hm : mg "super" = none) (XC : ExC K C) (n1 : PySem.W.findIn K (.ref C) "low" = some none) (n2 : PySem.W.findIn K (.ref C) "high" = some none) : FnOk P w K mg base (L2.CX P w) 1 f fd ["self", "low", "high"] (spX C ["low", "high"]) :=
  fn_super (N := ["self", "low", "high", "__class__"]) (k := 0) F (NdefX.nscope_by (by decide +kernel)) (fun vs H Q E h => by obtain ⟨a, ws, rfl, hl, _⟩ := h; simp [hl]) fun A outer s H vs Q E hr h => ⟨_, pf_supX F PG ⟨rfl, rfl, ⟨_, rfl, rfl⟩, rfl, rfl, rfl⟩ hm XC (pa_cons pe_str pa_nil) (pf_of (pss_cons (ps_ost (pe_var (i := 0) rfl (Or.inl rfl)) (pe_var (i := 1) rfl (Or.inl rfl))) (pss_one (ps_ost (pe_var (i := 0) rfl (Or.inl rfl)) (pe_var (i := 2) rfl (Or.inl rfl)))))), tx2 XC.ox n1 n2 h⟩
abbrev s_Apart_init : Stmt := inClass (top 5) 0
theorem x_Apart {P : Program} {w : World} {K : PySem.W.Frag} {mg : Str → Option Value} {base : Heap} {f cc cda C : Addr} {fd : FuncData} {file : Str} (F : FunS K "__init__" "Apart.__init__" s_Apart_init f fd cc cda C file) (PG : Pg P file) (hm : mg "super" = none) (XC : ExC K C) (n1 : PySem.W.findIn K (.ref C) "first" = some none) (n2 : PySem.W.findIn K (.ref C) "second" = some none) : FnOk P w K mg base (L2.CX P w) 1 f fd ["self", "first", "second"] (spX C ["first", "second"]) :=
  fn_super (N := ["self", "first", "second", "__class__"]) (k := 0) F (NdefX.nscope_by (by decide +kernel)) (fun vs H Q E h => by obtain ⟨a, ws, rfl, hl, _⟩ := h; simp [hl]) fun A outer s H vs Q E hr h => ⟨_, pf_supX F PG ⟨rfl, rfl, ⟨_, rfl, rfl⟩, rfl, rfl, rfl⟩ hm XC (pa_cons pe_str pa_nil) (pf_of (pss_cons (ps_ost (pe_var (i := 0) rfl (Or.inl rfl)) (pe_var (i := 1) rfl (Or.inl rfl))) (pss_one (ps_ost (pe_var (i := 0) rfl (Or.inl rfl)) (pe_var (i := 2) rfl (Or.inl rfl)))))), tx2 XC.ox n1 n2 h⟩
theorem all_mk {l : PySem.W.OpenLaw} {w : World} {K : PySem.W.Frag} {h : Heap} {mg : Str → Option Value} {fa C_Stretch E_BadStretch E_Apart E_NoLevel E_GaugeError A_BadStretch_init cc_BadStretch cda_BadStretch A_Apart_init cc_Apart cda_Apart A_law_take A_law_box A_law_span A_law_moved A_law_pair A_Stretch_init A_Stretch_eq A_Stretch_and A_Stretch_or A_law_met A_law_base A_law : Addr} (X : K.In h) (G : h.Ns mainGlobals mg) (hfa : mg "law" = some (.ref fa))
    {nm_BadStretch q_BadStretch : Str} {N_BadStretch : Addr} {bs_BadStretch bm_BadStretch sub_BadStretch : List Value} {sn_BadStretch : List Str} {ab_BadStretch : Bool} {col_BadStretch : Option Bool} {dd_BadStretch : Option Addr} {k0_BadStretch k1_BadStretch k2_BadStretch k3_BadStretch k5_BadStretch : Option Value}
    {oc_BadStretch kV_BadStretch dc_BadStretch pm_BadStretch ct_BadStretch ccl_BadStretch cl_BadStretch : Value} {od_BadStretch an_BadStretch cdd_BadStretch cld_BadStretch : Option Addr} {sl_BadStretch ccs_BadStretch csl_BadStretch : Array (Option Value)} {vs_BadStretch : Array Value} {file_BadStretch : Str} {tf_BadStretch : Tok} {cdD_BadStretch : ClassData}
    {nm_Apart q_Apart : Str} {N_Apart : Addr} {bs_Apart bm_Apart sub_Apart : List Value} {sn_Apart : List Str} {ab_Apart : Bool} {col_Apart : Option Bool} {dd_Apart : Option Addr} {k0_Apart k1_Apart k2_Apart k3_Apart k5_Apart : Option Value}
    {oc_Apart kV_Apart dc_Apart pm_Apart ct_Apart ccl_Apart cl_Apart : Value} {od_Apart an_Apart cdd_Apart cld_Apart : Option Addr} {sl_Apart ccs_Apart csl_Apart : Array (Option Value)} {vs_Apart : Array Value} {file_Apart : Str} {tf_Apart : Tok} {cdD_Apart : ClassData}
    {oc_law_take kV_law_take dc_law_take pm_law_take cd_law_take ct_law_take : Value} {od_law_take an_law_take : Option Addr} {sl_law_take : Array (Option Value)}
    {oc_law_box kV_law_box dc_law_box pm_law_box cd_law_box ct_law_box : Value} {od_law_box an_law_box : Option Addr} {sl_law_box : Array (Option Value)}
    {oc_law_span kV_law_span dc_law_span pm_law_span cd_law_span ct_law_span : Value} {od_law_span an_law_span : Option Addr} {sl_law_span : Array (Option Value)}
    {oc_law_moved kV_law_moved dc_law_moved pm_law_moved cd_law_moved ct_law_moved : Value} {od_law_moved an_law_moved : Option Addr} {sl_law_moved : Array (Option Value)}
    {oc_law_pair kV_law_pair dc_law_pair pm_law_pair cd_law_pair ct_law_pair : Value} {od_law_pair an_law_pair : Option Addr} {sl_law_pair : Array (Option Value)}
    {oc_Stretch_init kV_Stretch_init dc_Stretch_init pm_Stretch_init cd_Stretch_init ct_Stretch_init : Value} {od_Stretch_init an_Stretch_init : Option Addr} {sl_Stretch_init : Array (Option Value)}
    {oc_Stretch_eq kV_Stretch_eq dc_Stretch_eq pm_Stretch_eq cd_Stretch_eq ct_Stretch_eq : Value} {od_Stretch_eq an_Stretch_eq : Option Addr} {sl_Stretch_eq : Array (Option Value)}
    {oc_Stretch_and kV_Stretch_and dc_Stretch_and pm_Stretch_and cd_Stretch_and ct_Stretch_and : Value} {od_Stretch_and an_Stretch_and : Option Addr} {sl_Stretch_and : Array (Option Value)}
    {oc_Stretch_or kV_Stretch_or dc_Stretch_or pm_Stretch_or cd_Stretch_or ct_Stretch_or : Value} {od_Stretch_or an_Stretch_or : Option Addr} {sl_Stretch_or : Array (Option Value)}
    {oc_law_met kV_law_met dc_law_met pm_law_met cd_law_met ct_law_met : Value} {od_law_met an_law_met : Option Addr} {sl_law_met : Array (Option Value)}
    {oc_law_base kV_law_base dc_law_base pm_law_base cd_law_base ct_law_base : Value} {od_law_base an_law_base : Option Addr} {sl_law_base : Array (Option Value)}
    {oc_law kV_law dc_law pm_law cd_law ct_law : Value} {od_law an_law : Option Addr} {sl_law : Array (Option Value)}
    (a_Stretch : PySem.W.nsIn K mainGlobals "Stretch" = some (some (.ref C_Stretch)))
    (pg_Stretch : PySem.W.plainGet K C_Stretch Str.empty = true)
    (hd_Stretch : PySem.W.hasDictIn K C_Stretch = true)
    (po_Stretch : PySem.W.plainOver K C_Stretch = true)
    (sa_Stretch : PySem.W.findIn K (.ref C_Stretch) "__setattr__" = some (some (.builtin "object.__setattr__")))
    (mk_Stretch : PySem.W.makesIn K C_Stretch = true)
    (kc_Stretch : PySem.W.keepIn K (.ref C_Stretch) = true)
    (a_BadStretch : PySem.W.nsIn K mainGlobals "BadStretch" = some (some (.ref E_BadStretch)))
    (xb_BadStretch : PySem.W.subIn K (.ref E_BadStretch) (.type "BaseException") = some true)
    (ty_BadStretch : PySem.W.typeIn K (.ref E_BadStretch) = some (.type "type"))
    (kc_BadStretch : PySem.W.keepIn K (.ref E_BadStretch) = true)
    (hd_BadStretch : PySem.W.hasDictIn K E_BadStretch = true)
    (a_Apart : PySem.W.nsIn K mainGlobals "Apart" = some (some (.ref E_Apart)))
    (xb_Apart : PySem.W.subIn K (.ref E_Apart) (.type "BaseException") = some true)
    (ty_Apart : PySem.W.typeIn K (.ref E_Apart) = some (.type "type"))
    (kc_Apart : PySem.W.keepIn K (.ref E_Apart) = true)
    (hd_Apart : PySem.W.hasDictIn K E_Apart = true)
    (a_NoLevel : PySem.W.nsIn K mainGlobals "NoLevel" = some (some (.ref E_NoLevel)))
    (xb_NoLevel : PySem.W.subIn K (.ref E_NoLevel) (.type "BaseException") = some true)
    (ty_NoLevel : PySem.W.typeIn K (.ref E_NoLevel) = some (.type "type"))
    (kc_NoLevel : PySem.W.keepIn K (.ref E_NoLevel) = true)
    (hd_NoLevel : PySem.W.hasDictIn K E_NoLevel = true)
    (a_GaugeError : PySem.W.nsIn K mainGlobals "GaugeError" = some (some (.ref E_GaugeError)))
    (xb_GaugeError : PySem.W.subIn K (.ref E_GaugeError) (.type "BaseException") = some true)
    (ty_GaugeError : PySem.W.typeIn K (.ref E_GaugeError) = some (.type "type"))
    (kc_GaugeError : PySem.W.keepIn K (.ref E_GaugeError) = true)
    (hd_GaugeError : PySem.W.hasDictIn K E_GaugeError = true)
    (lk_BadStretch : K.lookup E_BadStretch = some (excClassObj nm_BadStretch q_BadStretch E_BadStretch N_BadStretch bs_BadStretch bm_BadStretch true sn_BadStretch sub_BadStretch ab_BadStretch col_BadStretch dd_BadStretch k0_BadStretch k1_BadStretch k2_BadStretch k3_BadStretch k5_BadStretch "ValueError.__new__"))
    (rv_BadStretch : PySem.HandSPX.refsVE bm_BadStretch = true)
    (sa_BadStretch : PySem.W.findIn K (.ref E_BadStretch) "__setattr__" = some (some (.builtin "object.__setattr__")))
    (fi_BadStretch : PySem.W.findIn K (.ref E_BadStretch) "__init__" = some (some (.ref A_BadStretch_init)))
    (ti_BadStretch : PySem.W.typeIn K (.ref A_BadStretch_init) = some (.type "function"))
    (l_BadStretch : K.lookup A_BadStretch_init = some ⟨oc_BadStretch, od_BadStretch, .func (PySem.W.ksFn "__init__" "BadStretch.__init__" (defArgs s_BadStretch_init) (defBody s_BadStretch_init) (defScope s_BadStretch_init) .none kV_BadStretch dc_BadStretch pm_BadStretch an_BadStretch (.ref cda_BadStretch) ct_BadStretch cc_BadStretch), sl_BadStretch⟩)
    (c_BadStretch : PySem.W.codeIn K (.ref cda_BadStretch) "BadStretch.__init__" = true)
    (k_BadStretch : PySem.W.keepIn K (.ref A_BadStretch_init) = true)
    (fl_BadStretch : K.lookup cda_BadStretch = some ⟨ccl_BadStretch, cdd_BadStretch, .fields vs_BadStretch, ccs_BadStretch⟩)
    (fv_BadStretch : vs_BadStretch[2]? = some (.str file_BadStretch tf_BadStretch))
    (pf_BadStretch : ((l.prog.main.file : Str) == file_BadStretch) = true)
    (ce_BadStretch : K.lookup cc_BadStretch = some ⟨cl_BadStretch, cld_BadStretch, .cell (some (.ref E_BadStretch)), csl_BadStretch⟩)
    (dc_BadStretch : PySem.W.clsIn K E_BadStretch = some cdD_BadStretch)
    (mr_BadStretch : PySem.W.mroIn K E_BadStretch (.ref E_BadStretch) = some true)
    (su_BadStretch : PySem.W.ks_superIn K E_BadStretch E_BadStretch "__init__" = some (some (.builtin "ValueError.__init__")))
    (ve_BadStretch : PySem.W.subIn K (.ref E_BadStretch) (.type "ValueError") = some true)
    (lk_Apart : K.lookup E_Apart = some (excClassObj nm_Apart q_Apart E_Apart N_Apart bs_Apart bm_Apart true sn_Apart sub_Apart ab_Apart col_Apart dd_Apart k0_Apart k1_Apart k2_Apart k3_Apart k5_Apart "ValueError.__new__"))
    (rv_Apart : PySem.HandSPX.refsVE bm_Apart = true)
    (sa_Apart : PySem.W.findIn K (.ref E_Apart) "__setattr__" = some (some (.builtin "object.__setattr__")))
    (fi_Apart : PySem.W.findIn K (.ref E_Apart) "__init__" = some (some (.ref A_Apart_init)))
    (ti_Apart : PySem.W.typeIn K (.ref A_Apart_init) = some (.type "function"))
    (l_Apart : K.lookup A_Apart_init = some ⟨oc_Apart, od_Apart, .func (PySem.W.ksFn "__init__" "Apart.__init__" (defArgs s_Apart_init) (defBody s_Apart_init) (defScope s_Apart_init) .none kV_Apart dc_Apart pm_Apart an_Apart (.ref cda_Apart) ct_Apart cc_Apart), sl_Apart⟩)
    (c_Apart : PySem.W.codeIn K (.ref cda_Apart) "Apart.__init__" = true)
    (k_Apart : PySem.W.keepIn K (.ref A_Apart_init) = true)
    (fl_Apart : K.lookup cda_Apart = some ⟨ccl_Apart, cdd_Apart, .fields vs_Apart, ccs_Apart⟩)
    (fv_Apart : vs_Apart[2]? = some (.str file_Apart tf_Apart))
    (pf_Apart : ((l.prog.main.file : Str) == file_Apart) = true)
    (ce_Apart : K.lookup cc_Apart = some ⟨cl_Apart, cld_Apart, .cell (some (.ref E_Apart)), csl_Apart⟩)
    (dc_Apart : PySem.W.clsIn K E_Apart = some cdD_Apart)
    (mr_Apart : PySem.W.mroIn K E_Apart (.ref E_Apart) = some true)
    (su_Apart : PySem.W.ks_superIn K E_Apart E_Apart "__init__" = some (some (.builtin "ValueError.__init__")))
    (ve_Apart : PySem.W.subIn K (.ref E_Apart) (.type "ValueError") = some true)
    (th : PySem.W.nsIn K cStatics "thirdparty.any" = some none)
    (ps : (l.prog.main.scope.names.lookup ("super" : Str)).isSome = false)
    (ga_Apart : PySem.W.findIn K (.ref E_Apart) "__getattribute__" = some (some (.builtin "BaseException.__getattribute__")))
    (gg_Apart : PySem.W.findIn K (.ref E_Apart) "__getattr__" = some none)
    (n_first_Apart : PySem.W.findIn K (.ref E_Apart) "first" = some none)
    (n_second_Apart : PySem.W.findIn K (.ref E_Apart) "second" = some none)
    (n_high_BadStretch : PySem.W.findIn K (.ref E_BadStretch) "high" = some none)
    (n_low_BadStretch : PySem.W.findIn K (.ref E_BadStretch) "low" = some none)
    (su_BadStretch_Apart : PySem.W.subIn K (.ref E_BadStretch) (.ref E_Apart) = some false)
    (su_Apart_Apart : PySem.W.subIn K (.ref E_Apart) (.ref E_Apart) = some true)
    (su_NoLevel_Apart : PySem.W.subIn K (.ref E_NoLevel) (.ref E_Apart) = some false)
    (su_GaugeError_Apart : PySem.W.subIn K (.ref E_GaugeError) (.ref E_Apart) = some false)
    (su_BadStretch_NoLevel : PySem.W.subIn K (.ref E_BadStretch) (.ref E_NoLevel) = some false)
    (su_Apart_NoLevel : PySem.W.subIn K (.ref E_Apart) (.ref E_NoLevel) = some true)
    (su_NoLevel_NoLevel : PySem.W.subIn K (.ref E_NoLevel) (.ref E_NoLevel) = some true)
    (su_GaugeError_NoLevel : PySem.W.subIn K (.ref E_GaugeError) (.ref E_NoLevel) = some false)
    (kx_Apart_BadStretch : PySem.W.kitOne K (.ref E_Apart) (.ref E_BadStretch) = some false)
    (kx_Apart_NoLevel : PySem.W.kitOne K (.ref E_Apart) (.ref E_NoLevel) = some true)
    (kx_Apart_GaugeError : PySem.W.kitOne K (.ref E_Apart) (.ref E_GaugeError) = some true)
    (kx_Apart_ValueError : PySem.W.kitOne K (.ref E_Apart) (.type "ValueError") = some true)
    (xc_Apart : PySem.W.findIn K (.ref E_Apart) "__class__" = some (some (.builtin "object.__class__")))
    (xm_Apart : PySem.W.mroIn K E_Apart (.type "object") = some true)
    (zb_ValueError : PySem.W.nsIn K mainGlobals "ValueError" = some none)
    (ko_Stretch_Stretch : PySem.W.kitOne K (.ref C_Stretch) (.ref C_Stretch) = some true)
    (nf_Stretch_Stretch : PySem.W.notFirst K C_Stretch (.ref C_Stretch) = true)
    (oc_Stretch : PySem.W.findIn K (.ref C_Stretch) "__class__" = some (some (.builtin "object.__class__")))
    (om_Stretch : PySem.W.mroIn K C_Stretch (.type "object") = some true)
    (og : PySem.W.specialIn K (.builtin "object.__class__") "__get__" = some (some (.builtin "getset_descriptor.__get__")))
    (ot : PySem.W.takesIn K (.builtin "object.__class__") = some true)
    (sf_Stretch : PySem.W.selfFirst K C_Stretch = true)
    (no_Stretch : PySem.W.findIn K (.ref C_Stretch) "__ne__" = some (some (.builtin "object.__ne__")))
    (nm_Stretch : PySem.W.mroIn K C_Stretch (.type "object") = some true)
    (n_low_Stretch : PySem.W.findIn K (.ref C_Stretch) "low" = some none)
    (n_high_Stretch : PySem.W.findIn K (.ref C_Stretch) "high" = some none)
    (f_law_take : PySem.W.nsIn K mainGlobals "_law_take" = some (some (.ref A_law_take)))
    (l_law_take : K.lookup A_law_take = some ⟨oc_law_take, od_law_take, .func (PySem.W.fnOf "_law_take" "_law_take" (defArgs s_law_take) (defBody s_law_take) (defScope s_law_take) .none kV_law_take dc_law_take pm_law_take an_law_take cd_law_take ct_law_take), sl_law_take⟩)
    (c_law_take : PySem.W.codeIn K cd_law_take "_law_take" = true)
    (k_law_take : PySem.W.keepIn K (.ref A_law_take) = true)
    (f_law_box : PySem.W.nsIn K mainGlobals "_law_box" = some (some (.ref A_law_box)))
    (l_law_box : K.lookup A_law_box = some ⟨oc_law_box, od_law_box, .func (PySem.W.fnOf "_law_box" "_law_box" (defArgs s_law_box) (defBody s_law_box) (defScope s_law_box) .none kV_law_box dc_law_box pm_law_box an_law_box cd_law_box ct_law_box), sl_law_box⟩)
    (c_law_box : PySem.W.codeIn K cd_law_box "_law_box" = true)
    (k_law_box : PySem.W.keepIn K (.ref A_law_box) = true)
    (f_law_span : PySem.W.nsIn K mainGlobals "_law_span" = some (some (.ref A_law_span)))
    (l_law_span : K.lookup A_law_span = some ⟨oc_law_span, od_law_span, .func (PySem.W.fnOf "_law_span" "_law_span" (defArgs s_law_span) (defBody s_law_span) (defScope s_law_span) .none kV_law_span dc_law_span pm_law_span an_law_span cd_law_span ct_law_span), sl_law_span⟩)
    (c_law_span : PySem.W.codeIn K cd_law_span "_law_span" = true)
    (k_law_span : PySem.W.keepIn K (.ref A_law_span) = true)
    (f_law_moved : PySem.W.nsIn K mainGlobals "_law_moved" = some (some (.ref A_law_moved)))
    (l_law_moved : K.lookup A_law_moved = some ⟨oc_law_moved, od_law_moved, .func (PySem.W.fnOf "_law_moved" "_law_moved" (defArgs s_law_moved) (defBody s_law_moved) (defScope s_law_moved) .none kV_law_moved dc_law_moved pm_law_moved an_law_moved cd_law_moved ct_law_moved), sl_law_moved⟩)
    (c_law_moved : PySem.W.codeIn K cd_law_moved "_law_moved" = true)
    (k_law_moved : PySem.W.keepIn K (.ref A_law_moved) = true)
    (f_law_pair : PySem.W.nsIn K mainGlobals "_law_pair" = some (some (.ref A_law_pair)))
    (l_law_pair : K.lookup A_law_pair = some ⟨oc_law_pair, od_law_pair, .func (PySem.W.fnOf "_law_pair" "_law_pair" (defArgs s_law_pair) (defBody s_law_pair) (defScope s_law_pair) .none kV_law_pair dc_law_pair pm_law_pair an_law_pair cd_law_pair ct_law_pair), sl_law_pair⟩)
    (c_law_pair : PySem.W.codeIn K cd_law_pair "_law_pair" = true)
    (k_law_pair : PySem.W.keepIn K (.ref A_law_pair) = true)
    (f_Stretch_init : PySem.W.findIn K (.ref C_Stretch) "__init__" = some (some (.ref A_Stretch_init)))
    (i_Stretch_init : PySem.W.isFn K (.ref A_Stretch_init) = true)
    (l_Stretch_init : K.lookup A_Stretch_init = some ⟨oc_Stretch_init, od_Stretch_init, .func (PySem.W.fnOf "__init__" "Stretch.__init__" (defArgs s_Stretch_init) (defBody s_Stretch_init) (defScope s_Stretch_init) .none kV_Stretch_init dc_Stretch_init pm_Stretch_init an_Stretch_init cd_Stretch_init ct_Stretch_init), sl_Stretch_init⟩)
    (c_Stretch_init : PySem.W.codeIn K cd_Stretch_init "Stretch.__init__" = true)
    (k_Stretch_init : PySem.W.keepIn K (.ref A_Stretch_init) = true)
    (f_Stretch_eq : PySem.W.findIn K (.ref C_Stretch) "__eq__" = some (some (.ref A_Stretch_eq)))
    (i_Stretch_eq : PySem.W.isFn K (.ref A_Stretch_eq) = true)
    (l_Stretch_eq : K.lookup A_Stretch_eq = some ⟨oc_Stretch_eq, od_Stretch_eq, .func (PySem.W.fnOf "__eq__" "Stretch.__eq__" (defArgs s_Stretch_eq) (defBody s_Stretch_eq) (defScope s_Stretch_eq) .none kV_Stretch_eq dc_Stretch_eq pm_Stretch_eq an_Stretch_eq cd_Stretch_eq ct_Stretch_eq), sl_Stretch_eq⟩)
    (c_Stretch_eq : PySem.W.codeIn K cd_Stretch_eq "Stretch.__eq__" = true)
    (k_Stretch_eq : PySem.W.keepIn K (.ref A_Stretch_eq) = true)
    (f_Stretch_and : PySem.W.findIn K (.ref C_Stretch) "__and__" = some (some (.ref A_Stretch_and)))
    (i_Stretch_and : PySem.W.isFn K (.ref A_Stretch_and) = true)
    (l_Stretch_and : K.lookup A_Stretch_and = some ⟨oc_Stretch_and, od_Stretch_and, .func (PySem.W.fnOf "__and__" "Stretch.__and__" (defArgs s_Stretch_and) (defBody s_Stretch_and) (defScope s_Stretch_and) .none kV_Stretch_and dc_Stretch_and pm_Stretch_and an_Stretch_and cd_Stretch_and ct_Stretch_and), sl_Stretch_and⟩)
    (c_Stretch_and : PySem.W.codeIn K cd_Stretch_and "Stretch.__and__" = true)
    (k_Stretch_and : PySem.W.keepIn K (.ref A_Stretch_and) = true)
    (f_Stretch_or : PySem.W.findIn K (.ref C_Stretch) "__or__" = some (some (.ref A_Stretch_or)))
    (i_Stretch_or : PySem.W.isFn K (.ref A_Stretch_or) = true)
    (l_Stretch_or : K.lookup A_Stretch_or = some ⟨oc_Stretch_or, od_Stretch_or, .func (PySem.W.fnOf "__or__" "Stretch.__or__" (defArgs s_Stretch_or) (defBody s_Stretch_or) (defScope s_Stretch_or) .none kV_Stretch_or dc_Stretch_or pm_Stretch_or an_Stretch_or cd_Stretch_or ct_Stretch_or), sl_Stretch_or⟩)
    (c_Stretch_or : PySem.W.codeIn K cd_Stretch_or "Stretch.__or__" = true)
    (k_Stretch_or : PySem.W.keepIn K (.ref A_Stretch_or) = true)
    (f_law_met : PySem.W.nsIn K mainGlobals "_law_met" = some (some (.ref A_law_met)))
    (l_law_met : K.lookup A_law_met = some ⟨oc_law_met, od_law_met, .func (PySem.W.fnOf "_law_met" "_law_met" (defArgs s_law_met) (defBody s_law_met) (defScope s_law_met) .none kV_law_met dc_law_met pm_law_met an_law_met cd_law_met ct_law_met), sl_law_met⟩)
    (c_law_met : PySem.W.codeIn K cd_law_met "_law_met" = true)
    (k_law_met : PySem.W.keepIn K (.ref A_law_met) = true)
    (f_law_base : PySem.W.nsIn K mainGlobals "_law_base" = some (some (.ref A_law_base)))
    (l_law_base : K.lookup A_law_base = some ⟨oc_law_base, od_law_base, .func (PySem.W.fnOf "_law_base" "_law_base" (defArgs s_law_base) (defBody s_law_base) (defScope s_law_base) .none kV_law_base dc_law_base pm_law_base an_law_base cd_law_base ct_law_base), sl_law_base⟩)
    (c_law_base : PySem.W.codeIn K cd_law_base "_law_base" = true)
    (k_law_base : PySem.W.keepIn K (.ref A_law_base) = true)
    (f_law : PySem.W.nsIn K mainGlobals "law" = some (some (.ref A_law)))
    (l_law : K.lookup A_law = some ⟨oc_law, od_law, .func (PySem.W.fnOf "law" "law" (defArgs s_law) (defBody s_law) (defScope s_law) .none kV_law dc_law pm_law an_law cd_law ct_law), sl_law⟩)
    (c_law : PySem.W.codeIn K cd_law "law" = true)
    (k_law : PySem.W.keepIn K (.ref A_law) = true)
    (z_len : PySem.W.nsIn K mainGlobals "len" = some none)
    (z_int : PySem.W.nsIn K mainGlobals "int" = some none)
    (z_bool : PySem.W.nsIn K mainGlobals "bool" = some none)
    (z_str : PySem.W.nsIn K mainGlobals "str" = some none)
    (z_isinstance : PySem.W.nsIn K mainGlobals "isinstance" = some none)
    (z_range : PySem.W.nsIn K mainGlobals "range" = some none)
    (z_max : PySem.W.nsIn K mainGlobals "max" = some none)
    (z_min : PySem.W.nsIn K mainGlobals "min" = some none)
    (z_abs : PySem.W.nsIn K mainGlobals "abs" = some none)
    (z_sorted : PySem.W.nsIn K mainGlobals "sorted" = some none)
    (z_sum : PySem.W.nsIn K mainGlobals "sum" = some none)
    (z_any : PySem.W.nsIn K mainGlobals "any" = some none)
    (z_all : PySem.W.nsIn K mainGlobals "all" = some none)
    (z_list : PySem.W.nsIn K mainGlobals "list" = some none)
    (z_dict : PySem.W.nsIn K mainGlobals "dict" = some none)
    (z_tuple : PySem.W.nsIn K mainGlobals "tuple" = some none)
    (z_enumerate : PySem.W.nsIn K mainGlobals "enumerate" = some none)
    (z_zip : PySem.W.nsIn K mainGlobals "zip" = some none)
    (z_repr : PySem.W.nsIn K mainGlobals "repr" = some none)
    (z_iter : PySem.W.nsIn K mainGlobals "iter" = some none)
    (z_super : PySem.W.nsIn K mainGlobals "super" = some none) :
    ∃ fd : FuncData, (∀ (s : Shared) (v : Value), BindsTo s fd ⟨[v], []⟩ [("_law_script", v)]) ∧ ∀ base : Heap, K.In base → base.Ns mainGlobals mg → FnOk l.prog w K mg base (L2.CX l.prog w) 7 fa fd ["_law_script"] (spLaw K) := by
  have e := hfa.symm.trans (PySem.W.mg_of X G f_law)
  cases e
  let g : Gm := ⟨K, fun c => match c with | .Stretch => C_Stretch | _ => 0, fun c => match c with | .BadStretch => E_BadStretch | .Apart => E_Apart | .NoLevel => E_NoLevel | .GaugeError => E_GaugeError | _ => 0⟩
  have B : Bt mg := ⟨PySem.W.mg_none_of X G z_len, PySem.W.mg_none_of X G z_int, PySem.W.mg_none_of X G z_bool, PySem.W.mg_none_of X G z_str, PySem.W.mg_none_of X G z_isinstance, PySem.W.mg_none_of X G z_range, PySem.W.mg_none_of X G z_max, PySem.W.mg_none_of X G z_min, PySem.W.mg_none_of X G z_abs, PySem.W.mg_none_of X G z_sorted, PySem.W.mg_none_of X G z_sum, PySem.W.mg_none_of X G z_any, PySem.W.mg_none_of X G z_all, PySem.W.mg_none_of X G z_list, PySem.W.mg_none_of X G z_dict, PySem.W.mg_none_of X G z_tuple, PySem.W.mg_none_of X G z_enumerate, PySem.W.mg_none_of X G z_zip, PySem.W.mg_none_of X G z_repr, PySem.W.mg_none_of X G z_iter, PySem.W.mg_none_of X G z_super⟩
  have cls_Stretch : Cls g.K (g.ca .Stretch) := ⟨pg_Stretch, hd_Stretch, po_Stretch, sa_Stretch⟩
  have fl_low : Flds g [.Stretch] .low := (flds_cons (c := .Stretch) cls_Stretch n_low_Stretch flds_nil)
  have fl_high : Flds g [.Stretch] .high := (flds_cons (c := .Stretch) cls_Stretch n_high_Stretch flds_nil)
  have oty_Stretch : OwnTy g .Stretch := ⟨cls_Stretch, oc_Stretch, og, ot, om_Stretch⟩
  have xfc_Apart : XfC g.K (g.ea .Apart) := ⟨ga_Apart, gg_Apart, xb_Apart, hd_Apart⟩
  have iso_Stretch : IsO g (.ref (g.ca .Stretch)) isoStretch := isO_mk (look_cons ⟨ko_Stretch_Stretch, an_own oty_Stretch⟩ look_nil)
  have mgc_Stretch : mg "Stretch" = some (.ref (g.ca .Stretch)) := PySem.W.mg_of X G a_Stretch
  have fi_and_Stretch : First g g.K [(.Stretch, S_Stretch_and)] := (ta_cons sf_Stretch ta_nil)
  have isx_BadStretch : IsTab g (.ref (g.ea .BadStretch)) isxBadStretch := isX_mk (look_cons ⟨kx_Apart_BadStretch, xfc_Apart, xc_Apart, og, ot, xm_Apart⟩ look_nil)
  have mg_BadStretch : mg "BadStretch" = some (.ref (g.ea .BadStretch)) := PySem.W.mg_of X G a_BadStretch
  have isx_NoLevel : IsTab g (.ref (g.ea .NoLevel)) isxNoLevel := isX_mk (look_cons ⟨kx_Apart_NoLevel, xfc_Apart, xc_Apart, og, ot, xm_Apart⟩ look_nil)
  have mg_NoLevel : mg "NoLevel" = some (.ref (g.ea .NoLevel)) := PySem.W.mg_of X G a_NoLevel
  have isx_GaugeError : IsTab g (.ref (g.ea .GaugeError)) isxGaugeError := isX_mk (look_cons ⟨kx_Apart_GaugeError, xfc_Apart, xc_Apart, og, ot, xm_Apart⟩ look_nil)
  have mg_GaugeError : mg "GaugeError" = some (.ref (g.ea .GaugeError)) := PySem.W.mg_of X G a_GaugeError
  have xf_second_Apart : XFl g [.Apart] .second := xfl_mk (mem_cons' ⟨xfc_Apart, n_second_Apart⟩ mem_nil)
  have xf_first_Apart : XFl g [.Apart] .first := xfl_mk (mem_cons' ⟨xfc_Apart, n_first_Apart⟩ mem_nil)
  have mg_Apart : mg "Apart" = some (.ref (g.ea .Apart)) := PySem.W.mg_of X G a_Apart
  have ct_Apart : Cat g g.K (.ref (g.ea .Apart)) catApart := (look_cons (PySem.W.exm_ref xb_Apart hd_Apart ty_Apart su_BadStretch_Apart) (look_cons (PySem.W.exm_ref xb_Apart hd_Apart ty_Apart su_Apart_Apart) (look_cons (PySem.W.exm_ref xb_Apart hd_Apart ty_Apart su_NoLevel_Apart) (look_cons (PySem.W.exm_ref xb_Apart hd_Apart ty_Apart su_GaugeError_Apart) look_nil))))
  have isx_ValueError : IsTab g (.type "ValueError") isxValueError := isX_mk (look_cons ⟨kx_Apart_ValueError, xfc_Apart, xc_Apart, og, ot, xm_Apart⟩ look_nil)
  have mgb_ValueError : mg "ValueError" = none := PySem.W.mg_none_of X G zb_ValueError
  have ct_NoLevel : Cat g g.K (.ref (g.ea .NoLevel)) catNoLevel := (look_cons (PySem.W.exm_ref xb_NoLevel hd_NoLevel ty_NoLevel su_BadStretch_NoLevel) (look_cons (PySem.W.exm_ref xb_NoLevel hd_NoLevel ty_NoLevel su_Apart_NoLevel) (look_cons (PySem.W.exm_ref xb_NoLevel hd_NoLevel ty_NoLevel su_NoLevel_NoLevel) (look_cons (PySem.W.exm_ref xb_NoLevel hd_NoLevel ty_NoLevel su_GaugeError_NoLevel) look_nil))))
  have fi_or_Stretch : First g g.K [(.Stretch, S_Stretch_or)] := (ta_cons sf_Stretch ta_nil)
  have nf_eq_Stretch : NotF g [(.Stretch, S_Stretch_eq)] nf := notF_mk (mem_cons' ⟨nf_Stretch_Stretch, an_own oty_Stretch⟩ mem_nil)
  have ne_eq_Stretch : NeF g [(.Stretch, S_Stretch_eq)] := ⟨(ta_cons no_Stretch ta_nil), (ta_cons nm_Stretch ta_nil)⟩
  have ox_BadStretch : OexC g.K (g.ea .BadStretch) := ⟨⟨_, _, _, _, _, _, _, _, _, _, _, _, _, _, _, lk_BadStretch, rv_BadStretch⟩, sa_BadStretch, xb_BadStretch, ty_BadStretch, kc_BadStretch⟩
  have FS_BadStretch : FunS K "__init__" "BadStretch.__init__" s_BadStretch_init A_BadStretch_init _ cc_BadStretch cda_BadStretch E_BadStretch file_BadStretch := ⟨⟨_, _, _, _, _, _, _, _, rfl, l_BadStretch⟩, c_BadStretch, k_BadStretch, ⟨_, _, _, _, _, fl_BadStretch, fv_BadStretch⟩, ⟨_, _, _, ce_BadStretch⟩, ⟨_, dc_BadStretch⟩⟩
  have ox_Apart : OexC g.K (g.ea .Apart) := ⟨⟨_, _, _, _, _, _, _, _, _, _, _, _, _, _, _, lk_Apart, rv_Apart⟩, sa_Apart, xb_Apart, ty_Apart, kc_Apart⟩
  have FS_Apart : FunS K "__init__" "Apart.__init__" s_Apart_init A_Apart_init _ cc_Apart cda_Apart E_Apart file_Apart := ⟨⟨_, _, _, _, _, _, _, _, rfl, l_Apart⟩, c_Apart, k_Apart, ⟨_, _, _, _, _, fl_Apart, fv_Apart⟩, ⟨_, _, _, ce_Apart⟩, ⟨_, dc_Apart⟩⟩
  have F_law_take := fun_mk (st := s_law_take) l_law_take c_law_take k_law_take
  have bd_law_take := F_law_take.binds (ps := ["_law_box_here", "_law_many"]) fun _ _ _ _ _ _ us hl => match us, hl with | [_, _], _ => rfl
  have F_law_box := fun_mk (st := s_law_box) l_law_box c_law_box k_law_box
  have bd_law_box := F_law_box.binds (ps := ["_law_script", "_law_salt"]) fun _ _ _ _ _ _ us hl => match us, hl with | [_, _], _ => rfl
  have F_law_span := fun_mk (st := s_law_span) l_law_span c_law_span k_law_span
  have bd_law_span := F_law_span.binds (ps := ["_law_box_here"]) fun _ _ _ _ _ _ us hl => match us, hl with | [_], _ => rfl
  have F_law_moved := fun_mk (st := s_law_moved) l_law_moved c_law_moved k_law_moved
  have bd_law_moved := F_law_moved.binds (ps := ["_law_box_here"]) fun _ _ _ _ _ _ us hl => match us, hl with | [_], _ => rfl
  have F_law_pair := fun_mk (st := s_law_pair) l_law_pair c_law_pair k_law_pair
  have bd_law_pair := F_law_pair.binds (ps := ["_law_box_here", "_law_span_here", "_law_moved_here"]) fun _ _ _ _ _ _ us hl => match us, hl with | [_, _, _], _ => rfl
  have F_Stretch_init := fun_mk (st := s_Stretch_init) l_Stretch_init c_Stretch_init k_Stretch_init
  have bd_Stretch_init := F_Stretch_init.binds (ps := ["self", "low", "high"]) fun _ _ _ _ _ _ us hl => match us, hl with | [_, _, _], _ => rfl
  have F_Stretch_eq := fun_mk (st := s_Stretch_eq) l_Stretch_eq c_Stretch_eq k_Stretch_eq
  have bd_Stretch_eq := F_Stretch_eq.binds (ps := ["self", "other"]) fun _ _ _ _ _ _ us hl => match us, hl with | [_, _], _ => rfl
  have F_Stretch_and := fun_mk (st := s_Stretch_and) l_Stretch_and c_Stretch_and k_Stretch_and
  have bd_Stretch_and := F_Stretch_and.binds (ps := ["self", "other"]) fun _ _ _ _ _ _ us hl => match us, hl with | [_, _], _ => rfl
  have F_Stretch_or := fun_mk (st := s_Stretch_or) l_Stretch_or c_Stretch_or k_Stretch_or
  have bd_Stretch_or := F_Stretch_or.binds (ps := ["self", "other"]) fun _ _ _ _ _ _ us hl => match us, hl with | [_, _], _ => rfl
  have F_law_met := fun_mk (st := s_law_met) l_law_met c_law_met k_law_met
  have bd_law_met := F_law_met.binds (ps := ["_law_one", "_law_two"]) fun _ _ _ _ _ _ us hl => match us, hl with | [_, _], _ => rfl
  have F_law_base := fun_mk (st := s_law_base) l_law_base c_law_base k_law_base
  have bd_law_base := F_law_base.binds (ps := ["_law_one", "_law_two"]) fun _ _ _ _ _ _ us hl => match us, hl with | [_, _], _ => rfl
  have F_law := fun_mk (st := s_law) l_law c_law k_law
  refine ⟨PySem.W.fnOf "law" "law" (defArgs s_law) (defBody s_law) (defScope s_law) .none kV_law dc_law pm_law an_law cd_law ct_law, fun s v => .of_eq rfl, fun base _ _ => ?_⟩
  have gx_BadStretch : GX g l.prog w g.K mg base .BadStretch "BadStretch" [.low, .high] := gx_mk (PySem.W.mg_of X G a_BadStretch) ox_BadStretch fi_BadStretch ti_BadStretch (x_BadStretch (w := w) (mg := mg) (base := base) FS_BadStretch ⟨pf_BadStretch, ps⟩ B.super ⟨ox_BadStretch, mr_BadStretch, su_BadStretch, ve_BadStretch, th⟩ n_low_BadStretch n_high_BadStretch) (FS_BadStretch.binds (ps := ["self", "low", "high"]) fun _ _ _ _ _ us hl => match us, hl with | [_, _, _], _ => rfl)
  have gx_Apart : GX g l.prog w g.K mg base .Apart "Apart" [.first, .second] := gx_mk (PySem.W.mg_of X G a_Apart) ox_Apart fi_Apart ti_Apart (x_Apart (w := w) (mg := mg) (base := base) FS_Apart ⟨pf_Apart, ps⟩ B.super ⟨ox_Apart, mr_Apart, su_Apart, ve_Apart, th⟩ n_first_Apart n_second_Apart) (FS_Apart.binds (ps := ["self", "first", "second"]) fun _ _ _ _ _ us hl => match us, hl with | [_, _, _], _ => rfl)
  have gd_law_take := gd_of (g := g) (P := l.prog) (w := w) (base := base) (defAt_mk X G f_law_take F_law_take bd_law_take) sc_law_take (b_law_take B ) pure_law_take
  have gd_law_box := gd_of (g := g) (P := l.prog) (w := w) (base := base) (defAt_mk X G f_law_box F_law_box bd_law_box) sc_law_box (b_law_box B ) pure_law_box
  have gd_law_span := gd_of (g := g) (P := l.prog) (w := w) (base := base) (defAt_mk X G f_law_span F_law_span bd_law_span) sc_law_span (b_law_span B gd_law_take) pure_law_span
  have gd_law_moved := gd_of (g := g) (P := l.prog) (w := w) (base := base) (defAt_mk X G f_law_moved F_law_moved bd_law_moved) sc_law_moved (b_law_moved B gd_law_take) pure_law_moved
  have gd_law_pair := gd_of (g := g) (P := l.prog) (w := w) (base := base) (defAt_mk X G f_law_pair F_law_pair bd_law_pair) sc_law_pair (b_law_pair B gd_law_take) pure_law_pair
  have gc_Stretch := gc_of (g := g) (cl := .Stretch) (P := l.prog) (w := w) (base := base) (initAt_mk X G a_Stretch ⟨mk_Stretch, f_Stretch_init, i_Stretch_init, kc_Stretch⟩ F_Stretch_init bd_Stretch_init) sc_Stretch_init (b_Stretch_init B gx_BadStretch fl_low fl_high) pure_Stretch_init
  have mo_Stretch_eq := mo_of (g := g) (cl := .Stretch) (mg := mg) (P := l.prog) (w := w) (base := base) cls_Stretch (metAt_mk ⟨f_Stretch_eq, i_Stretch_eq, k_Stretch_eq⟩ F_Stretch_eq bd_Stretch_eq) sc_Stretch_eq (b_Stretch_eq B iso_Stretch mgc_Stretch fl_low fl_high) pure_Stretch_eq
  have mo_Stretch_and := mo_of (g := g) (cl := .Stretch) (mg := mg) (P := l.prog) (w := w) (base := base) cls_Stretch (metAt_mk ⟨f_Stretch_and, i_Stretch_and, k_Stretch_and⟩ F_Stretch_and bd_Stretch_and) sc_Stretch_and (b_Stretch_and B fl_low fl_high gx_Apart gc_Stretch) pure_Stretch_and
  have mo_Stretch_or := mo_of (g := g) (cl := .Stretch) (mg := mg) (P := l.prog) (w := w) (base := base) cls_Stretch (metAt_mk ⟨f_Stretch_or, i_Stretch_or, k_Stretch_or⟩ F_Stretch_or bd_Stretch_or) sc_Stretch_or (b_Stretch_or B gc_Stretch fl_high fl_low) pure_Stretch_or
  have mt_and_Stretch : MTab g l.prog w g.K mg base 5 "__and__" [(.Stretch, S_Stretch_and)] := (mt_cons (MOk.mono mo_Stretch_and (by decide)) mt_nil)
  have gd_law_met := gd_of (g := g) (P := l.prog) (w := w) (base := base) (defAt_mk X G f_law_met F_law_met bd_law_met) sc_law_met (b_law_met B mt_and_Stretch fi_and_Stretch isx_BadStretch mg_BadStretch isx_NoLevel mg_NoLevel isx_GaugeError mg_GaugeError xf_second_Apart xf_first_Apart mg_Apart ct_Apart fl_high fl_low) pure_law_met
  have gd_law_base := gd_of (g := g) (P := l.prog) (w := w) (base := base) (defAt_mk X G f_law_base F_law_base bd_law_base) sc_law_base (b_law_base B mt_and_Stretch fi_and_Stretch isx_ValueError mgb_ValueError mg_NoLevel ct_NoLevel) pure_law_base
  have mt_or_Stretch : MTab g l.prog w g.K mg base 5 "__or__" [(.Stretch, S_Stretch_or)] := (mt_cons (MOk.mono mo_Stretch_or (by decide)) mt_nil)
  have mt_eq_Stretch : MTab g l.prog w g.K mg base 1 "__eq__" [(.Stretch, S_Stretch_eq)] := (mt_cons (MOk.mono mo_Stretch_eq (by decide)) mt_nil)
  exact (fn_okF (g := g) F_law sc_law (fun ds O P E h => (pure_law ds O P E h).1) (b_law B gd_law_box gd_law_span gd_law_moved gd_law_pair gd_law_take gc_Stretch gd_law_met gd_law_base mt_or_Stretch fi_or_Stretch fl_high fl_low mt_eq_Stretch nf_eq_Stretch ne_eq_Stretch _) fun ds O P E h => (pure_law ds O P E h).2).imp fun vs H Q E h => spLaw_of (g := g) h
end G
open PySem PySem.W PyProof.Rows
set_option maxRecDepth 100000 in
set_option maxHeartbeats 0 in
theorem PySem.Challenge.cw_gaugemiss_k03_stretches_meet_holds : PySem.Challenge.rw_gaugemiss_k03_stretches_meet.Holds := by
  w_on; o_law; k_head; (case hw => w_witness2)
  k_fill
  refine G.walk (l := PySem.Challenge.rw_gaugemiss_k03_stretches_meet) (x := "_law_script") 7 (by decide) rfl rfl (fun w h Y => PySem.W.kIn_of Y) ?F
  case F =>
    intro w mg fa h KX GX hmg
    refine' G.all_mk KX GX hmg ?a_Stretch ?pg_Stretch ?hd_Stretch ?po_Stretch ?sa_Stretch ?mk_Stretch ?kc_Stretch ?a_BadStretch ?xb_BadStretch ?ty_BadStretch ?kc_BadStretch ?hd_BadStretch ?a_Apart ?xb_Apart ?ty_Apart ?kc_Apart ?hd_Apart ?a_NoLevel ?xb_NoLevel ?ty_NoLevel ?kc_NoLevel ?hd_NoLevel ?a_GaugeError ?xb_GaugeError ?ty_GaugeError ?kc_GaugeError ?hd_GaugeError ?lk_BadStretch ?rv_BadStretch ?sa_BadStretch ?fi_BadStretch ?ti_BadStretch ?l_BadStretch ?c_BadStretch ?k_BadStretch ?fl_BadStretch ?fv_BadStretch ?pf_BadStretch ?ce_BadStretch ?dc_BadStretch ?mr_BadStretch ?su_BadStretch ?ve_BadStretch ?lk_Apart ?rv_Apart ?sa_Apart ?fi_Apart ?ti_Apart ?l_Apart ?c_Apart ?k_Apart ?fl_Apart ?fv_Apart ?pf_Apart ?ce_Apart ?dc_Apart ?mr_Apart ?su_Apart ?ve_Apart ?th ?ps ?ga_Apart ?gg_Apart ?n_first_Apart ?n_second_Apart ?n_high_BadStretch ?n_low_BadStretch ?su_BadStretch_Apart ?su_Apart_Apart ?su_NoLevel_Apart ?su_GaugeError_Apart ?su_BadStretch_NoLevel ?su_Apart_NoLevel ?su_NoLevel_NoLevel ?su_GaugeError_NoLevel ?kx_Apart_BadStretch ?kx_Apart_NoLevel ?kx_Apart_GaugeError ?kx_Apart_ValueError ?xc_Apart ?xm_Apart ?zb_ValueError ?ko_Stretch_Stretch ?nf_Stretch_Stretch ?oc_Stretch ?om_Stretch ?og ?ot ?sf_Stretch ?no_Stretch ?nm_Stretch ?n_low_Stretch ?n_high_Stretch ?f_law_take ?l_law_take ?c_law_take ?k_law_take ?f_law_box ?l_law_box ?c_law_box ?k_law_box ?f_law_span ?l_law_span ?c_law_span ?k_law_span ?f_law_moved ?l_law_moved ?c_law_moved ?k_law_moved ?f_law_pair ?l_law_pair ?c_law_pair ?k_law_pair ?f_Stretch_init ?i_Stretch_init ?l_Stretch_init ?c_Stretch_init ?k_Stretch_init ?f_Stretch_eq ?i_Stretch_eq ?l_Stretch_eq ?c_Stretch_eq ?k_Stretch_eq ?f_Stretch_and ?i_Stretch_and ?l_Stretch_and ?c_Stretch_and ?k_Stretch_and ?f_Stretch_or ?i_Stretch_or ?l_Stretch_or ?c_Stretch_or ?k_Stretch_or ?f_law_met ?l_law_met ?c_law_met ?k_law_met ?f_law_base ?l_law_base ?c_law_base ?k_law_base ?f_law ?l_law ?c_law ?k_law ?z_len ?z_int ?z_bool ?z_str ?z_isinstance ?z_range ?z_max ?z_min ?z_abs ?z_sorted ?z_sum ?z_any ?z_all ?z_list ?z_dict ?z_tuple ?z_enumerate ?z_zip ?z_repr ?z_iter ?z_super
    (case a_Stretch => first | k_is | rfl | decide)
    (case pg_Stretch => first | k_is | rfl | decide)
    (case hd_Stretch => first | k_is | rfl | decide)
    (case po_Stretch => first | k_is | rfl | decide)
    (case sa_Stretch => first | k_is | rfl | decide)
    (case mk_Stretch => first | k_is | rfl | decide)
    (case kc_Stretch => first | k_is | rfl | decide)
    (case a_BadStretch => first | k_is | rfl | decide)
    (case xb_BadStretch => first | k_is | rfl | decide)
    (case ty_BadStretch => first | k_is | rfl | decide)
    (case kc_BadStretch => first | k_is | rfl | decide)
    (case hd_BadStretch => first | k_is | rfl | decide)
    (case a_Apart => first | k_is | rfl | decide)
    (case xb_Apart => first | k_is | rfl | decide)
    (case ty_Apart => first | k_is | rfl | decide)
    (case kc_Apart => first | k_is | rfl | decide)
    (case hd_Apart => first | k_is | rfl | decide)
    (case a_NoLevel => first | k_is | rfl | decide)
    (case xb_NoLevel => first | k_is | rfl | decide)
    (case ty_NoLevel => first | k_is | rfl | decide)
    (case kc_NoLevel => first | k_is | rfl | decide)
    (case hd_NoLevel => first | k_is | rfl | decide)
    (case a_GaugeError => first | k_is | rfl | decide)
    (case xb_GaugeError => first | k_is | rfl | decide)
    (case ty_GaugeError => first | k_is | rfl | decide)
    (case kc_GaugeError => first | k_is | rfl | decide)
    (case hd_GaugeError => first | k_is | rfl | decide)
    (case lk_BadStretch => first | k_is | rfl | decide)
    (case rv_BadStretch => first | k_is | rfl | decide)
    (case sa_BadStretch => first | k_is | rfl | decide)
    (case fi_BadStretch => first | k_is | rfl | decide)
    (case ti_BadStretch => first | k_is | rfl | decide)
    (case l_BadStretch => first | k_is | rfl | decide)
    (case c_BadStretch => first | k_is | rfl | decide)
    (case k_BadStretch => first | k_is | rfl | decide)
    (case fl_BadStretch => first | k_is | rfl | decide)
    (case fv_BadStretch => first | k_is | rfl | decide)
    (case pf_BadStretch => first | k_is | rfl | decide)
    (case ce_BadStretch => first | k_is | rfl | decide)
    (case dc_BadStretch => first | k_is | rfl | decide)
    (case mr_BadStretch => first | k_is | rfl | decide)
    (case su_BadStretch => first | k_is | rfl | decide)
    (case ve_BadStretch => first | k_is | rfl | decide)
    (case lk_Apart => first | k_is | rfl | decide)
    (case rv_Apart => first | k_is | rfl | decide)
    (case sa_Apart => first | k_is | rfl | decide)
    (case fi_Apart => first | k_is | rfl | decide)
    (case ti_Apart => first | k_is | rfl | decide)
    (case l_Apart => first | k_is | rfl | decide)
    (case c_Apart => first | k_is | rfl | decide)
    (case k_Apart => first | k_is | rfl | decide)
    (case fl_Apart => first | k_is | rfl | decide)
    (case fv_Apart => first | k_is | rfl | decide)
    (case pf_Apart => first | k_is | rfl | decide)
    (case ce_Apart => first | k_is | rfl | decide)
    (case dc_Apart => first | k_is | rfl | decide)
    (case mr_Apart => first | k_is | rfl | decide)
    (case su_Apart => first | k_is | rfl | decide)
    (case ve_Apart => first | k_is | rfl | decide)
    (case th => first | k_is | rfl | decide)
    (case ps => first | k_is | rfl | decide)
    (case ga_Apart => first | k_is | rfl | decide)
    (case gg_Apart => first | k_is | rfl | decide)
    (case n_first_Apart => first | k_is | rfl | decide)
    (case n_second_Apart => first | k_is | rfl | decide)
    (case n_high_BadStretch => first | k_is | rfl | decide)
    (case n_low_BadStretch => first | k_is | rfl | decide)
    (case su_BadStretch_Apart => first | k_is | rfl | decide)
    (case su_Apart_Apart => first | k_is | rfl | decide)
    (case su_NoLevel_Apart => first | k_is | rfl | decide)
    (case su_GaugeError_Apart => first | k_is | rfl | decide)
    (case su_BadStretch_NoLevel => first | k_is | rfl | decide)
    (case su_Apart_NoLevel => first | k_is | rfl | decide)
    (case su_NoLevel_NoLevel => first | k_is | rfl | decide)
    (case su_GaugeError_NoLevel => first | k_is | rfl | decide)
    (case kx_Apart_BadStretch => first | k_is | rfl | decide)
    (case kx_Apart_NoLevel => first | k_is | rfl | decide)
    (case kx_Apart_GaugeError => first | k_is | rfl | decide)
    (case kx_Apart_ValueError => first | k_is | rfl | decide)
    (case xc_Apart => first | k_is | rfl | decide)
    (case xm_Apart => first | k_is | rfl | decide)
    (case zb_ValueError => first | k_is | rfl | decide)
    (case ko_Stretch_Stretch => first | k_is | rfl | decide)
    (case nf_Stretch_Stretch => first | k_is | rfl | decide)
    (case oc_Stretch => first | k_is | rfl | decide)
    (case om_Stretch => first | k_is | rfl | decide)
    (case og => first | k_is | rfl | decide)
    (case ot => first | k_is | rfl | decide)
    (case sf_Stretch => first | k_is | rfl | decide)
    (case no_Stretch => first | k_is | rfl | decide)
    (case nm_Stretch => first | k_is | rfl | decide)
    (case n_low_Stretch => first | k_is | rfl | decide)
    (case n_high_Stretch => first | k_is | rfl | decide)
    (case f_law_take => first | k_is | rfl | decide)
    (case l_law_take => first | k_is | rfl | decide)
    (case c_law_take => first | k_is | rfl | decide)
    (case k_law_take => first | k_is | rfl | decide)
    (case f_law_box => first | k_is | rfl | decide)
    (case l_law_box => first | k_is | rfl | decide)
    (case c_law_box => first | k_is | rfl | decide)
    (case k_law_box => first | k_is | rfl | decide)
    (case f_law_span => first | k_is | rfl | decide)
    (case l_law_span => first | k_is | rfl | decide)
    (case c_law_span => first | k_is | rfl | decide)
    (case k_law_span => first | k_is | rfl | decide)
    (case f_law_moved => first | k_is | rfl | decide)
    (case l_law_moved => first | k_is | rfl | decide)
    (case c_law_moved => first | k_is | rfl | decide)
    (case k_law_moved => first | k_is | rfl | decide)
    (case f_law_pair => first | k_is | rfl | decide)
    (case l_law_pair => first | k_is | rfl | decide)
    (case c_law_pair => first | k_is | rfl | decide)
    (case k_law_pair => first | k_is | rfl | decide)
    (case f_Stretch_init => first | k_is | rfl | decide)
    (case i_Stretch_init => first | k_is | rfl | decide)
    (case l_Stretch_init => first | k_is | rfl | decide)
    (case c_Stretch_init => first | k_is | rfl | decide)
    (case k_Stretch_init => first | k_is | rfl | decide)
    (case f_Stretch_eq => first | k_is | rfl | decide)
    (case i_Stretch_eq => first | k_is | rfl | decide)
    (case l_Stretch_eq => first | k_is | rfl | decide)
    (case c_Stretch_eq => first | k_is | rfl | decide)
    (case k_Stretch_eq => first | k_is | rfl | decide)
    (case f_Stretch_and => first | k_is | rfl | decide)
    (case i_Stretch_and => first | k_is | rfl | decide)
    (case l_Stretch_and => first | k_is | rfl | decide)
    (case c_Stretch_and => first | k_is | rfl | decide)
    (case k_Stretch_and => first | k_is | rfl | decide)
    (case f_Stretch_or => first | k_is | rfl | decide)
    (case i_Stretch_or => first | k_is | rfl | decide)
    (case l_Stretch_or => first | k_is | rfl | decide)
    (case c_Stretch_or => first | k_is | rfl | decide)
    (case k_Stretch_or => first | k_is | rfl | decide)
    (case f_law_met => first | k_is | rfl | decide)
    (case l_law_met => first | k_is | rfl | decide)
    (case c_law_met => first | k_is | rfl | decide)
    (case k_law_met => first | k_is | rfl | decide)
    (case f_law_base => first | k_is | rfl | decide)
    (case l_law_base => first | k_is | rfl | decide)
    (case c_law_base => first | k_is | rfl | decide)
    (case k_law_base => first | k_is | rfl | decide)
    (case f_law => first | k_is | rfl | decide)
    (case l_law => first | k_is | rfl | decide)
    (case c_law => first | k_is | rfl | decide)
    (case k_law => first | k_is | rfl | decide)
    (case z_len => first | k_is | rfl | decide)
    (case z_int => first | k_is | rfl | decide)
    (case z_bool => first | k_is | rfl | decide)
    (case z_str => first | k_is | rfl | decide)
    (case z_isinstance => first | k_is | rfl | decide)
    (case z_range => first | k_is | rfl | decide)
    (case z_max => first | k_is | rfl | decide)
    (case z_min => first | k_is | rfl | decide)
    (case z_abs => first | k_is | rfl | decide)
    (case z_sorted => first | k_is | rfl | decide)
    (case z_sum => first | k_is | rfl | decide)
    (case z_any => first | k_is | rfl | decide)
    (case z_all => first | k_is | rfl | decide)
    (case z_list => first | k_is | rfl | decide)
    (case z_dict => first | k_is | rfl | decide)
    (case z_tuple => first | k_is | rfl | decide)
    (case z_enumerate => first | k_is | rfl | decide)
    (case z_zip => first | k_is | rfl | decide)
    (case z_repr => first | k_is | rfl | decide)
    (case z_iter => first | k_is | rfl | decide)
    (case z_super => first | k_is | rfl | decide)
#print axioms PySem.Challenge.cw_gaugemiss_k03_stretches_meet_holds
