import PyProof.Rows.All
import Wide.All
import OpenK.AllK
import Wide.FinOn
import HandS.ForMost
import HandS.ForExc
import HandS.CallSlots
import HandS.More
import HandS.Star
import HandS.IsInst
import KE.Datum
import PySem.Challenge.RW_gaugemiss_k07_depth
set_option Elab.async false
set_option linter.all false
set_option maxRecDepth 100000
set_option maxHeartbeats 4000000
namespace G
open PySem L2

/-! ## Plain data -/
inductive Cl where
  | Stretch | Levels | Gauge | CoarseGauge | LateGauge | LateCoarseGauge | Rack | Rule | Leaf | Rank | Trim | Weigh | Miss | Case | Twins | Keeper | Desk | SteadyDesk | Finder
  deriving DecidableEq
inductive Ec where
  | GaugeError | BadStretch | NoLevel | Apart | BadNeed | BadLiars | BadGauge | DuplicateGauge | UnknownGauge | MissingReading | BadRule | BadText | BadLine | SharedFault | BadPaper | NoBound | BadLimit | NoCase | NoTruth | NoTick
  | NotPossible | NothingToUndo | NothingToRedo | NotRanked | NoRule
  deriving DecidableEq
inductive Fd where
  | low | high | pieces | name | radius | step | late | pace | gauges | groups | written | parts | ranked | place | cut | weights | above | below | level | readings | lot | reply
  | low_level | low_lot | high_level | high_lot | bound | order | gone | rack | start | rows | many | lines | past | future | rules | places | first | second | number | kind | text | line | row | tick
  deriving DecidableEq
def Fd.str : Fd → Str
  | .low => "low" | .high => "high" | .pieces => "pieces" | .name => "name" | .radius => "radius" | .step => "step" | .late => "late" | .pace => "pace" | .gauges => "gauges" | .groups => "groups"
  | .written => "written" | .parts => "parts" | .ranked => "ranked" | .place => "place" | .cut => "cut" | .weights => "weights" | .above => "above" | .below => "below" | .level => "level" | .readings => "readings"
  | .lot => "lot" | .reply => "reply" | .low_level => "low_level" | .low_lot => "low_lot" | .high_level => "high_level" | .high_lot => "high_lot" | .bound => "bound" | .order => "order" | .gone => "gone"
  | .rack => "rack" | .start => "start" | .rows => "rows" | .many => "many" | .lines => "lines" | .past => "past" | .future => "future" | .rules => "rules" | .places => "places" | .first => "first" | .second => "second"
  | .number => "number" | .kind => "kind" | .text => "text" | .line => "line" | .row => "row" | .tick => "tick"
def Fd.all : List Fd := [.low, .high, .pieces, .name, .radius, .step, .late, .pace, .gauges, .groups, .written, .parts, .ranked, .place, .cut, .weights, .above, .below, .level, .readings, .lot, .reply,
  .low_level, .low_lot, .high_level, .high_lot, .bound, .order, .gone, .rack, .start, .rows, .many, .lines, .past, .future, .rules, .places, .first, .second, .number, .kind, .text, .line, .row, .tick]
def Fd.of (x : Str) : Option Fd := Fd.all.find? fun f => decide (f.str = x)
theorem Fd.of_str (f : Fd) : Fd.of f.str = some f := by
  cases f <;> decide +kernel
theorem Fd.inj {f g : Fd} (h : f.str = g.str) : f = g := by
  have e := Fd.of_str f
  rw [h, Fd.of_str g] at e
  exact (Option.some.inj e).symm

inductive D where
  | non | bl (b : Bool) | int (i : Int) | str (x : Str)
  | lst (l : List D) | tup (l : List D) | obj (c : Cl) (fs : List Fd) (ds : List D) | dic (ks : List Key) (ds : List D)
  | ptr (a : Addr) | scr (ns : List Int)

/-- an error that flies: its class, its fields -/
structure Exn where
  c : Ec
  fs : List Fd
  ds : List D

/-- where the classes stand -/
structure Gm where
  K : PySem.W.Frag
  ca : Cl → Addr
  ea : Ec → Addr

def zipF (fs : List Fd) (vs : List V) : List (Str × V) := (fs.map Fd.str).zip vs
def zipK (ks : List Key) (vs : List V) : List (Key × V) := ks.zip vs

mutual
def Rep (g : Gm) (F : Hp) : D → V → Prop
  | .non, v => v = .non
  | .bl b, v => v = .bl b
  | .int i, v => v = .int i
  | .str x, v => v = .str x
  | .ptr a, v => v = .ref a
  | .scr ns, v => ∃ p, v = .ref p ∧ SqL g.K F p (ns.map V.int)
  | .lst ds, v => ∃ p vs, v = .ref p ∧ F p = some (.lst vs) ∧ Reps g F ds vs
  | .tup ds, v => ∃ p vs, v = .ref p ∧ SqT g.K F p vs ∧ Reps g F ds vs
  | .obj c fs ds, v => ∃ p dx vs, v = .ref p ∧ F p = some (.ins (g.ca c) dx (zipF fs vs)) ∧ fs.length = ds.length ∧ Reps g F ds vs
  | .dic ks ds, v => ∃ p vs, v = .ref p ∧ F p = some (.dK (zipK ks vs)) ∧ ks.length = ds.length ∧ Reps g F ds vs
def Reps (g : Gm) (F : Hp) : List D → List V → Prop
  | [], [] => True
  | d :: ds, v :: vs => Rep g F d v ∧ Reps g F ds vs
  | _, _ => False
end

theorem sqt_same {K : PySem.W.Frag} {H H' : Hp} {a : Addr} {xs : List V} (e : Same H H') (h : SqT K H a xs) : SqT K H' a xs := by
  rcases h with (h | ⟨o, h⟩) | h
  · exact .inl (.inl (e _ _ h))
  · exact .inl (.inr ⟨o, e _ _ h⟩)
  · exact .inr h

mutual
theorem Rep.mono {g : Gm} {F F' : Hp} (e : Same F F') : ∀ {d : D} {v : V}, Rep g F d v → Rep g F' d v
  | .non, _, h => by simpa only [Rep] using h
  | .bl _, _, h => by simpa only [Rep] using h
  | .int _, _, h => by simpa only [Rep] using h
  | .str _, _, h => by simpa only [Rep] using h
  | .ptr _, _, h => by simpa only [Rep] using h
  | .lst ds, v, h => by
    simp only [Rep] at h ⊢
    obtain ⟨p, vs, h1, h2, h3⟩ := h
    exact ⟨p, vs, h1, e _ _ h2, Reps.mono e h3⟩
  | .scr ns, v, h => by
    simp only [Rep] at h ⊢
    obtain ⟨p, h1, h2⟩ := h
    exact ⟨p, h1, e.seq h2⟩
  | .tup ds, v, h => by
    simp only [Rep] at h ⊢
    obtain ⟨p, vs, h1, h2, h3⟩ := h
    exact ⟨p, vs, h1, sqt_same e h2, Reps.mono e h3⟩
  | .obj c fs ds, v, h => by
    simp only [Rep] at h ⊢
    obtain ⟨p, dx, vs, h1, h2, h3, h4⟩ := h
    exact ⟨p, dx, vs, h1, e _ _ h2, h3, Reps.mono e h4⟩
  | .dic ks ds, v, h => by
    simp only [Rep] at h ⊢
    obtain ⟨p, vs, h1, h2, h3, h4⟩ := h
    exact ⟨p, vs, h1, e _ _ h2, h3, Reps.mono e h4⟩
theorem Reps.mono {g : Gm} {F F' : Hp} (e : Same F F') : ∀ {ds : List D} {vs : List V}, Reps g F ds vs → Reps g F' ds vs
  | [], [], h => by simp only [Reps]
  | d :: ds, v :: vs, h => by
    simp only [Reps] at h ⊢
    exact ⟨Rep.mono e h.1, Reps.mono e h.2⟩
  | [], _ :: _, h => by simp only [Reps] at h
  | _ :: _, [], h => by simp only [Reps] at h
end

section
variable {g : Gm} {F : Hp}
theorem Rep.non_iff {v : V} : Rep g F .non v ↔ v = .non := by simp only [Rep]
theorem Rep.bl_iff {b : Bool} {v : V} : Rep g F (.bl b) v ↔ v = .bl b := by simp only [Rep]
theorem Rep.int_iff {i : Int} {v : V} : Rep g F (.int i) v ↔ v = .int i := by simp only [Rep]
theorem Rep.str_iff {x : Str} {v : V} : Rep g F (.str x) v ↔ v = .str x := by simp only [Rep]
theorem Rep.ptr_iff {a : Addr} {v : V} : Rep g F (.ptr a) v ↔ v = .ref a := by simp only [Rep]
theorem Rep.scr_iff {ns : List Int} {v : V} : Rep g F (.scr ns) v ↔ ∃ p, v = .ref p ∧ SqL g.K F p (ns.map V.int) := by simp only [Rep]
theorem Rep.lst_iff {ds : List D} {v : V} : Rep g F (.lst ds) v ↔ ∃ p vs, v = .ref p ∧ F p = some (.lst vs) ∧ Reps g F ds vs := by simp only [Rep]
theorem Rep.tup_iff {ds : List D} {v : V} : Rep g F (.tup ds) v ↔ ∃ p vs, v = .ref p ∧ SqT g.K F p vs ∧ Reps g F ds vs := by simp only [Rep]
theorem Rep.obj_iff {c : Cl} {fs : List Fd} {ds : List D} {v : V} : Rep g F (.obj c fs ds) v ↔ ∃ p dx vs, v = .ref p ∧ F p = some (.ins (g.ca c) dx (zipF fs vs)) ∧ fs.length = ds.length ∧ Reps g F ds vs := by simp only [Rep]
theorem Rep.dic_iff {ks : List Key} {ds : List D} {v : V} : Rep g F (.dic ks ds) v ↔ ∃ p vs, v = .ref p ∧ F p = some (.dK (zipK ks vs)) ∧ ks.length = ds.length ∧ Reps g F ds vs := by simp only [Rep]
theorem Reps.nil : Reps g F [] [] := by simp only [Reps]
theorem Reps.cons {d : D} {v : V} {ds : List D} {vs : List V} (h : Rep g F d v) (r : Reps g F ds vs) : Reps g F (d :: ds) (v :: vs) := by
  simp only [Reps]
  exact ⟨h, r⟩
theorem Reps.nil_iff {vs : List V} : Reps g F [] vs ↔ vs = [] := by
  cases vs <;> simp only [Reps, reduceCtorEq]
theorem Reps.cons_iff {d : D} {ds : List D} {vs : List V} : Reps g F (d :: ds) vs ↔ ∃ v r, vs = v :: r ∧ Rep g F d v ∧ Reps g F ds r := by
  cases vs with
  | nil => simp [Reps]
  | cons v r =>
    simp only [Reps]
    constructor
    · intro h
      exact ⟨v, r, rfl, h.1, h.2⟩
    · rintro ⟨v1, r1, e, h1, h2⟩
      cases e
      exact ⟨h1, h2⟩
theorem Reps.length {ds : List D} : ∀ {vs : List V}, Reps g F ds vs → ds.length = vs.length := by
  induction ds with
  | nil =>
    intro vs h
    rw [Reps.nil_iff] at h
    rw [h]
    rfl
  | cons d ds ih =>
    intro vs h
    obtain ⟨v, r, rfl, _, h2⟩ := Reps.cons_iff.mp h
    rw [List.length_cons, List.length_cons, ih h2]
theorem Reps.get {ds : List D} : ∀ {vs : List V} {i : Nat} {d : D}, Reps g F ds vs → ds[i]? = some d → ∃ v, vs[i]? = some v ∧ Rep g F d v := by
  induction ds with
  | nil =>
    intro vs i d h e
    simp at e
  | cons d0 ds ih =>
    intro vs i d h e
    obtain ⟨v, r, rfl, h1, h2⟩ := Reps.cons_iff.mp h
    cases i with
    | zero =>
      simp at e
      subst e
      exact ⟨v, rfl, h1⟩
    | succ i =>
      simp at e
      obtain ⟨w, q1, q2⟩ := ih h2 e
      exact ⟨w, by simpa using q1, q2⟩
theorem Reps.get' {ds : List D} : ∀ {vs : List V} {i : Nat} {v : V}, Reps g F ds vs → vs[i]? = some v → ∃ d, ds[i]? = some d ∧ Rep g F d v := by
  intro vs i v h e
  have hl := h.length
  have hi : i < vs.length := (List.getElem?_eq_some_iff.mp e).1
  have hi' : i < ds.length := by omega
  obtain ⟨w, q1, q2⟩ := h.get (List.getElem?_eq_getElem hi')
  rw [e] at q1
  cases q1
  exact ⟨_, List.getElem?_eq_getElem hi', q2⟩
theorem Reps.append {ds es : List D} : ∀ {vs ws : List V}, Reps g F ds vs → Reps g F es ws → Reps g F (ds ++ es) (vs ++ ws) := by
  induction ds with
  | nil =>
    intro vs ws h h'
    rw [Reps.nil_iff] at h
    subst h
    exact h'
  | cons d ds ih =>
    intro vs ws h h'
    obtain ⟨v, r, rfl, h1, h2⟩ := Reps.cons_iff.mp h
    exact Reps.cons h1 (ih h2 h')
theorem Reps.take {ds : List D} : ∀ {vs : List V} (n : Nat), Reps g F ds vs → Reps g F (ds.take n) (vs.take n) := by
  induction ds with
  | nil =>
    intro vs n h
    rw [Reps.nil_iff] at h
    subst h
    simpa using Reps.nil
  | cons d ds ih =>
    intro vs n h
    obtain ⟨v, r, rfl, h1, h2⟩ := Reps.cons_iff.mp h
    cases n with
    | zero => exact Reps.nil
    | succ n => exact Reps.cons h1 (ih n h2)
theorem Reps.drop {ds : List D} : ∀ {vs : List V} (n : Nat), Reps g F ds vs → Reps g F (ds.drop n) (vs.drop n) := by
  induction ds with
  | nil =>
    intro vs n h
    rw [Reps.nil_iff] at h
    subst h
    simpa using Reps.nil
  | cons d ds ih =>
    intro vs n h
    obtain ⟨v, r, rfl, h1, h2⟩ := Reps.cons_iff.mp h
    cases n with
    | zero => exact Reps.cons h1 h2
    | succ n => exact ih n h2
theorem Reps.set {ds : List D} {d : D} {v : V} (hv : Rep g F d v) : ∀ {vs : List V} (n : Nat), Reps g F ds vs → Reps g F (ds.set n d) (vs.set n v) := by
  induction ds with
  | nil =>
    intro vs n h
    rw [Reps.nil_iff] at h
    subst h
    exact Reps.nil
  | cons d0 ds ih =>
    intro vs n h
    obtain ⟨w, r, rfl, h1, h2⟩ := Reps.cons_iff.mp h
    cases n with
    | zero => exact Reps.cons hv h2
    | succ n => exact Reps.cons h1 (ih n h2)
theorem Reps.reverse {ds : List D} : ∀ {vs : List V}, Reps g F ds vs → Reps g F ds.reverse vs.reverse := by
  induction ds with
  | nil =>
    intro vs h
    rw [Reps.nil_iff] at h
    subst h
    exact Reps.nil
  | cons d ds ih =>
    intro vs h
    obtain ⟨v, r, rfl, h1, h2⟩ := Reps.cons_iff.mp h
    rw [List.reverse_cons, List.reverse_cons]
    exact (ih h2).append (Reps.cons h1 Reps.nil)
theorem Reps.one {d : D} {v : V} (h : Rep g F d v) : Reps g F [d] [v] := Reps.cons h Reps.nil
theorem Reps.split {ds es : List D} : ∀ {vs : List V}, Reps g F (ds ++ es) vs → ∃ v1 v2, vs = v1 ++ v2 ∧ Reps g F ds v1 ∧ Reps g F es v2 := by
  induction ds with
  | nil =>
    intro vs h
    exact ⟨[], vs, rfl, Reps.nil, h⟩
  | cons d ds ih =>
    intro vs h
    obtain ⟨v, r, rfl, h1, h2⟩ := Reps.cons_iff.mp h
    obtain ⟨v1, v2, rfl, q1, q2⟩ := ih h2
    exact ⟨v :: v1, v2, rfl, Reps.cons h1 q1, q2⟩
theorem Reps.ints {ns : List Int} : ∀ {vs : List V}, Reps g F (ns.map D.int) vs ↔ vs = ns.map V.int := by
  induction ns with
  | nil => intro vs; exact Reps.nil_iff
  | cons n ns ih =>
    intro vs
    rw [List.map_cons, Reps.cons_iff]
    constructor
    · rintro ⟨v, r, rfl, h1, h2⟩
      rw [Rep.int_iff] at h1
      rw [ih] at h2
      rw [h1, h2]
      rfl
    · intro e
      subst e
      exact ⟨_, _, rfl, Rep.int_iff.mpr rfl, ih.mpr rfl⟩
theorem Reps.strs {ns : List Str} : ∀ {vs : List V}, Reps g F (ns.map D.str) vs ↔ vs = ns.map V.str := by
  induction ns with
  | nil => intro vs; exact Reps.nil_iff
  | cons n ns ih =>
    intro vs
    rw [List.map_cons, Reps.cons_iff]
    constructor
    · rintro ⟨v, r, rfl, h1, h2⟩
      rw [Rep.str_iff] at h1
      rw [ih] at h2
      rw [h1, h2]
      rfl
    · intro e
      subst e
      exact ⟨_, _, rfl, Rep.str_iff.mpr rfl, ih.mpr rfl⟩
theorem Reps.bls {ns : List Bool} : ∀ {vs : List V}, Reps g F (ns.map D.bl) vs ↔ vs = ns.map V.bl := by
  induction ns with
  | nil => intro vs; exact Reps.nil_iff
  | cons n ns ih =>
    intro vs
    rw [List.map_cons, Reps.cons_iff]
    constructor
    · rintro ⟨v, r, rfl, h1, h2⟩
      rw [Rep.bl_iff] at h1
      rw [ih] at h2
      rw [h1, h2]
      rfl
    · intro e
      subst e
      exact ⟨_, _, rfl, Rep.bl_iff.mpr rfl, ih.mpr rfl⟩
end

/-! ## fields -/
def getF (f : Fd) : List Fd → List D → Option D
  | h :: hs, d :: ds => if f = h then some d else getF f hs ds
  | _, _ => none
/-- a store into a field: the names, the values -/
def putFs (f : Fd) : List Fd → List Fd
  | [] => [f]
  | h :: hs => if f = h then h :: hs else h :: putFs f hs
def putDs (f : Fd) (d : D) : List Fd → List D → List D
  | h :: hs, e :: es => if f = h then d :: es else e :: putDs f d hs es
  | _, _ => [d]
theorem zipF_cons {h : Fd} {hs : List Fd} {v : V} {vs : List V} : zipF (h :: hs) (v :: vs) = (h.str, v) :: zipF hs vs := rfl
theorem getF_look {g : Gm} {F : Hp} {f : Fd} : ∀ {fs : List Fd} {ds : List D} {vs : List V} {d : D}, Reps g F ds vs → getF f fs ds = some d → ∃ v, (zipF fs vs).lookup f.str = some v ∧ Rep g F d v := by
  intro fs
  induction fs with
  | nil =>
    intro ds vs d h e
    cases ds <;> simp [getF] at e
  | cons h0 hs ih =>
    intro ds vs d h e
    cases ds with
    | nil => simp [getF] at e
    | cons d0 ds =>
      obtain ⟨v, r, rfl, h1, h2⟩ := Reps.cons_iff.mp h
      rw [zipF_cons, List.lookup_cons]
      by_cases q : f = h0
      · subst q
        simp [getF] at e
        subst e
        exact ⟨v, by simp, h1⟩
      · have q' : (f.str == h0.str) = false := by
          rw [beq_eq_false_iff_ne]
          exact fun z => q (Fd.inj z)
        rw [q']
        simp [getF, q] at e
        exact ih h2 e
theorem getF_none {f : Str} : ∀ {fs : List Fd} {vs : List V}, (∀ h ∈ fs, ¬ f = h.str) → (zipF fs vs).lookup f = none := by
  intro fs
  induction fs with
  | nil => intro vs _; rfl
  | cons h0 hs ih =>
    intro vs hn
    cases vs with
    | nil => rfl
    | cons v vs =>
      rw [zipF_cons, List.lookup_cons]
      have q' : (f == h0.str) = false := by
        rw [beq_eq_false_iff_ne]
        exact hn h0 List.mem_cons_self
      rw [q']
      exact ih fun h hh => hn h (List.mem_cons_of_mem _ hh)
theorem putF_zip {g : Gm} {F : Hp} {f : Fd} {d : D} {v : V} (hv : Rep g F d v) : ∀ {fs : List Fd} {ds : List D} {vs : List V}, fs.length = ds.length → Reps g F ds vs →
    ∃ ws, L2.putF f.str v (zipF fs vs) = zipF (putFs f fs) ws ∧ Reps g F (putDs f d fs ds) ws ∧ (putFs f fs).length = (putDs f d fs ds).length := by
  intro fs
  induction fs with
  | nil =>
    intro ds vs hl h
    cases ds with
    | nil =>
      rw [Reps.nil_iff] at h
      subst h
      exact ⟨[v], rfl, Reps.one hv, rfl⟩
    | cons d0 ds => simp at hl
  | cons h0 hs ih =>
    intro ds vs hl h
    cases ds with
    | nil => simp at hl
    | cons d0 ds =>
      obtain ⟨v0, r, rfl, h1, h2⟩ := Reps.cons_iff.mp h
      rw [zipF_cons]
      by_cases q : f = h0
      · subst q
        refine ⟨v :: r, ?_, ?_, ?_⟩
        · show (if f.str = f.str then _ else _) = _
          rw [if_pos rfl]
          simp [putFs, zipF_cons]
        · simp [putDs]
          exact Reps.cons hv h2
        · simp [putFs, putDs]
          simpa using hl
      · have hl' : hs.length = ds.length := by simpa using hl
        obtain ⟨ws, e1, e2, e3⟩ := ih hl' h2
        refine ⟨v0 :: ws, ?_, ?_, ?_⟩
        · show (if h0.str = f.str then _ else _) = _
          rw [if_neg (fun z => q (Fd.inj z).symm), e1]
          simp [putFs, q, zipF_cons]
        · simp [putDs, q]
          exact Reps.cons h1 e2
        · simp [putFs, putDs, q]
          exact e3

/-! ## owned cells -/
inductive Cell where
  | lst (ds : List D) | ins (c : Cl) (fs : List Fd) (ds : List D) | dic (ks : List Key) (ds : List D) | box
abbrev Sto := List (Addr × Cell)
def CRep (g : Gm) (F : Hp) : Cell → HO → Prop
  | .lst ds, .lst vs => Reps g F ds vs
  | .ins c fs ds, .ins C _ vfs => C = g.ca c ∧ fs.length = ds.length ∧ ∃ vs, vfs = zipF fs vs ∧ Reps g F ds vs
  | .dic ks ds, .dK kvs => ks.length = ds.length ∧ ∃ vs, kvs = zipK ks vs ∧ Reps g F ds vs
  | .box, .lst vs => ∃ (cs : List Int) (i a s : Int), Reps g F [.lst (cs.map D.int), .int i, .int a, .int s] vs ∧ cs.length ≤ 63 ∧ 0 ≤ i ∧ 0 ≤ a
  | _, _ => False
theorem CRep.mono {g : Gm} {F F' : Hp} (e : Same F F') : ∀ {c : Cell} {o : HO}, CRep g F c o → CRep g F' c o := by
  intro c o h
  cases c with
  | lst ds => cases o <;> first | exact Reps.mono e h | exact h.elim
  | ins c fs ds =>
    cases o with
    | ins C dx vfs =>
      obtain ⟨h1, h2, vs, h3, h4⟩ := h
      exact ⟨h1, h2, vs, h3, Reps.mono e h4⟩
    | _ => exact h.elim
  | dic ks ds =>
    cases o with
    | dK kvs =>
      obtain ⟨h2, vs, h3, h4⟩ := h
      exact ⟨h2, vs, h3, Reps.mono e h4⟩
    | _ => exact h.elim
  | box =>
    cases o with
    | lst vs =>
      obtain ⟨cs, i, a, s, h1, h2⟩ := h
      exact ⟨cs, i, a, s, Reps.mono e h1, h2⟩
    | _ => exact h.elim

def getC : Sto → Addr → Option Cell
  | [], _ => none
  | (b, c) :: r, a => if a = b then some c else getC r a
def setC : Sto → Addr → Cell → Sto
  | [], _, _ => []
  | (b, c0) :: r, a, c => if a = b then (b, c) :: r else (b, c0) :: setC r a c
def delC : Sto → Addr → Sto
  | [], _ => []
  | (b, c0) :: r, a => if a = b then r else (b, c0) :: delC r a
def freshC (O : Sto) (p : Addr) : Prop := ∀ q ∈ O, q.1 ≠ p

structure Wd (g : Gm) (F : Hp) (O : Sto) (H : Hp) : Prop where
  same : Same F H
  nd : (O.map (·.1)).Nodup
  cel : ∀ q ∈ O, F q.1 = none ∧ ∃ o, H q.1 = some o ∧ CRep g F q.2 o

theorem getC_mem {O : Sto} {a : Addr} {c : Cell} (h : getC O a = some c) : (a, c) ∈ O := by
  induction O with
  | nil => simp [getC] at h
  | cons q r ih =>
    obtain ⟨b, c0⟩ := q
    simp only [getC] at h
    by_cases e : a = b
    · subst e
      simp at h
      subst h
      exact List.mem_cons_self
    · rw [if_neg e] at h
      exact List.mem_cons_of_mem _ (ih h)
theorem same_upd {H : Hp} {p : Addr} {o : HO} (h : H p = none) : Same H (upd H p o) := fun a u e => by
  rw [upd_ne (ne_of_none e h)]
  exact e
theorem same_upd2 {F H : Hp} {p : Addr} {o : HO} (s : Same F H) (h : H p = none) : Same (upd F p o) (upd H p o) := fun a u e => by
  by_cases q : a = p
  · subst q
    rw [upd_same] at e ⊢
    exact e
  · rw [upd_ne q] at e ⊢
    exact s _ _ e
section
variable {g : Gm} {F : Hp} {O : Sto} {H : Hp}
theorem Wd.get (w : Wd g F O H) {a : Addr} {c : Cell} (h : getC O a = some c) : F a = none ∧ ∃ o, H a = some o ∧ CRep g F c o := w.cel _ (getC_mem h)
theorem Wd.fresh (w : Wd g F O H) {p : Addr} (h : H p = none) : freshC O p := fun q hq e => by
  obtain ⟨_, o, ho, _⟩ := w.cel q hq
  rw [e, h] at ho
  cases ho
/-- a new thing that stays as it is -/
theorem Wd.frozen (w : Wd g F O H) {p : Addr} {o : HO} (h : H p = none) : Wd g (upd F p o) O (upd H p o) := by
  have fp : F p = none := w.same.free h
  refine ⟨same_upd2 w.same h, w.nd, fun q hq => ?_⟩
  obtain ⟨h1, u, h2, h3⟩ := w.cel q hq
  have ne : q.1 ≠ p := ne_of_none h2 h
  exact ⟨by rw [upd_ne ne]; exact h1, u, by rw [upd_ne ne]; exact h2, h3.mono (same_upd fp)⟩
theorem Wd.fsame (w : Wd g F O H) {p : Addr} {o : HO} (h : H p = none) : Same F (upd F p o) := same_upd (w.same.free h)
/-- a new thing that is owned -/
theorem Wd.own (w : Wd g F O H) {p : Addr} {o : HO} {c : Cell} (h : H p = none) (hc : CRep g F c o) : Wd g F ((p, c) :: O) (upd H p o) := by
  refine ⟨w.same.trans (same_upd h), ?_, fun q hq => ?_⟩
  · rw [List.map_cons, List.nodup_cons]
    refine ⟨fun hm => ?_, w.nd⟩
    obtain ⟨q, hq, e⟩ := List.mem_map.mp hm
    exact w.fresh h q hq e
  · rcases List.mem_cons.mp hq with e | hq
    · subst e
      exact ⟨w.same.free h, o, upd_same, hc⟩
    · obtain ⟨h1, u, h2, h3⟩ := w.cel q hq
      exact ⟨h1, u, by rw [upd_ne (ne_of_none h2 h)]; exact h2, h3⟩
theorem setC_keys (O : Sto) (a : Addr) (c : Cell) : (setC O a c).map (·.1) = O.map (·.1) := by
  induction O with
  | nil => rfl
  | cons q r ih =>
    obtain ⟨b, c0⟩ := q
    simp only [setC]
    by_cases e : a = b
    · rw [if_pos e]
      rfl
    · rw [if_neg e]
      simp [ih]
theorem setC_mem : ∀ {O : Sto} {a : Addr} {c : Cell} {q : Addr × Cell}, (O.map (·.1)).Nodup → q ∈ setC O a c → q = (a, c) ∨ (q ∈ O ∧ q.1 ≠ a) := by
  intro O
  induction O with
  | nil => intro a c q _ h; simp [setC] at h
  | cons p r ih =>
    obtain ⟨b, c0⟩ := p
    intro a c q nd h
    rw [List.map_cons, List.nodup_cons] at nd
    simp only [setC] at h
    by_cases e : a = b
    · rw [if_pos e] at h
      rcases List.mem_cons.mp h with z | z
      · rw [e]
        exact .inl z
      · refine .inr ⟨List.mem_cons_of_mem _ z, fun y => nd.1 ?_⟩
        show b ∈ _
        rw [← e, ← y]
        exact List.mem_map_of_mem z
    · rw [if_neg e] at h
      rcases List.mem_cons.mp h with z | z
      · refine .inr ⟨by rw [z]; exact List.mem_cons_self, ?_⟩
        rw [z]
        exact fun y => e y.symm
      · rcases ih nd.2 z with y | ⟨y1, y2⟩
        · exact .inl y
        · exact .inr ⟨List.mem_cons_of_mem _ y1, y2⟩
/-- an owned thing changes -/
theorem Wd.set (w : Wd g F O H) {a : Addr} {c c' : Cell} {o : HO} (h : getC O a = some c) (hc : CRep g F c' o) : Wd g F (setC O a c') (upd H a o) := by
  obtain ⟨fa, _⟩ := w.get h
  refine ⟨fun b u e => ?_, by rw [setC_keys]; exact w.nd, fun q hq => ?_⟩
  · rw [upd_ne (ne_of_none e fa)]
    exact w.same _ _ e
  · rcases setC_mem w.nd hq with e | ⟨e1, e2⟩
    · subst e
      exact ⟨fa, o, upd_same, hc⟩
    · obtain ⟨h1, u, h2, h3⟩ := w.cel q e1
      exact ⟨h1, u, by rw [upd_ne e2]; exact h2, h3⟩
theorem Wd.sub (w : Wd g F O H) {O' : Sto} (s : O'.Sublist O) : Wd g F O' H :=
  ⟨w.same, (s.map _).nodup w.nd, fun q hq => w.cel q (s.subset hq)⟩
theorem delC_sub (O : Sto) (a : Addr) : (delC O a).Sublist O := by
  induction O with
  | nil => exact .slnil
  | cons p r ih =>
    obtain ⟨b, c0⟩ := p
    simp only [delC]
    by_cases e : a = b
    · rw [if_pos e]
      exact List.sublist_cons_self _ _
    · rw [if_neg e]
      exact ih.cons_cons _
theorem delC_ne : ∀ {O : Sto} {a : Addr} {q : Addr × Cell}, (O.map (·.1)).Nodup → q ∈ delC O a → q.1 ≠ a := by
  intro O
  induction O with
  | nil => intro a q _ h; simp [delC] at h
  | cons p r ih =>
    obtain ⟨b, c0⟩ := p
    intro a q nd h
    rw [List.map_cons, List.nodup_cons] at nd
    simp only [delC] at h
    by_cases e : a = b
    · rw [if_pos e] at h
      intro y
      refine nd.1 ?_
      show b ∈ _
      rw [← e, ← y]
      exact List.mem_map_of_mem h
    · rw [if_neg e] at h
      rcases List.mem_cons.mp h with z | z
      · rw [z]
        exact fun y => e y.symm
      · exact ih nd.2 z
/-- an owned thing is let go: from now on it stays as it is -/
theorem Wd.freeze (w : Wd g F O H) {a : Addr} {c : Cell} (h : getC O a = some c) : ∃ o, H a = some o ∧ CRep g F c o ∧ Same F (upd F a o) ∧ Wd g (upd F a o) (delC O a) H := by
  obtain ⟨fa, o, ho, hc⟩ := w.get h
  refine ⟨o, ho, hc, same_upd fa, fun b u e => ?_, (w.sub (delC_sub O a)).nd, fun q hq => ?_⟩
  · by_cases z : b = a
    · subst z
      rw [upd_same] at e
      cases e
      exact ho
    · rw [upd_ne z] at e
      exact w.same _ _ e
  · obtain ⟨h1, u, h2, h3⟩ := w.cel q ((delC_sub O a).subset hq)
    have ne : q.1 ≠ a := delC_ne w.nd hq
    exact ⟨by rw [upd_ne ne]; exact h1, u, h2, h3.mono (same_upd fa)⟩
end
end G

set_option Elab.async false
set_option linter.all false
set_option maxRecDepth 100000
set_option maxHeartbeats 4000000
namespace G
open PySem L2

/-! ## transformers over plain data -/
abbrev Sl := List (Option D)
abbrev KD := D → Sto → Prop
abbrev KX := Exn → Sto → Prop
abbrev DE := Sl → Sto → KD → KX → Prop
abbrev DT := Sl → Sto → (Bool → Sto → Prop) → KX → Prop
abbrev DA := Sl → Sto → (List D → Sto → Prop) → KX → Prop
structure DEnds where
  nx : Sl → Sto → Prop
  rt : KD
  bk : Sl → Sto → Prop := fun _ _ => False
  ct : Sl → Sto → Prop := fun _ _ => False
  xc : Exn → Sl → Sto → Prop := fun _ _ _ => False
abbrev DS := DEnds → Sl → Sto → Prop

def SRel (g : Gm) (F : Hp) (σ : St) (Δ : Sl) : Prop := σ.length = Δ.length ∧ ∀ (i : Nat) (d : D), Δ[i]? = some (some d) → ∃ v, σ[i]? = some (some v) ∧ Rep g F d v
theorem SRel.mono {g : Gm} {F F' : Hp} {σ : St} {Δ : Sl} (h : SRel g F σ Δ) (e : Same F F') : SRel g F' σ Δ := ⟨h.1, fun i d q => by
  obtain ⟨v, h1, h2⟩ := h.2 i d q
  exact ⟨v, h1, h2.mono e⟩⟩
theorem SRel.set {g : Gm} {F : Hp} {σ : St} {Δ : Sl} (h : SRel g F σ Δ) {d : D} {v : V} (hv : Rep g F d v) (i : Nat) : SRel g F (σ.set i (some v)) (Δ.set i (some d)) := by
  refine ⟨by rw [List.length_set, List.length_set, h.1], fun j e q => ?_⟩
  rw [List.getElem?_set] at q ⊢
  by_cases z : i = j
  · subst z
    rw [if_pos rfl] at q ⊢
    by_cases y : i < Δ.length
    · rw [if_pos y] at q
      rw [if_pos (by rw [h.1]; exact y)]
      cases q
      exact ⟨v, rfl, hv⟩
    · rw [if_neg y] at q
      cases q
  · rw [if_neg z] at q ⊢
    exact h.2 j e q

def RelX (g : Gm) (F : Hp) (cls : Value) (dd : Option Addr) (x : Exn) : Prop :=
  cls = .ref (g.ea x.c) ∧ ∀ f d, getF f x.fs x.ds = some d → ∃ a vfs v, dd = some a ∧ F a = some (.xd vfs) ∧ vfs.lookup f.str = some v ∧ Rep g F d v
theorem RelX.mono {g : Gm} {F F' : Hp} {cls : Value} {dd : Option Addr} {x : Exn} (h : RelX g F cls dd x) (e : Same F F') : RelX g F' cls dd x := ⟨h.1, fun f d q => by
  obtain ⟨a, vfs, v, h1, h2, h3, h4⟩ := h.2 f d q
  exact ⟨a, vfs, v, h1, e _ _ h2, h3, h4.mono e⟩⟩

/-- what is wanted of an error, over plain data and over the heap -/
def XOk (g : Gm) (F : Hp) (W : WX) (σ : St) (E : KX) : Prop := ∀ x O cls dd F' H, E x O → Same F F' → Wd g F' O H → RelX g F' cls dd x → W cls dd σ H
theorem XOk.mono {g : Gm} {F F' : Hp} {W : WX} {σ : St} {E : KX} (h : XOk g F W σ E) (e : Same F F') : XOk g F' W σ E := fun x O cls dd F1 H q s w r => h x O cls dd F1 H q (e.trans s) w r
def VOk (g : Gm) (F : Hp) (P : KD) (Q : VK) : Prop := ∀ d O v F' H, P d O → Same F F' → Wd g F' O H → Rep g F' d v → Q v H
theorem VOk.mono {g : Gm} {F F' : Hp} {P : KD} {Q : VK} (h : VOk g F P Q) (e : Same F F') : VOk g F' P Q := fun d O v F1 H q s w r => h d O v F1 H q (e.trans s) w r
def BOk (g : Gm) (F : Hp) (P : Bool → Sto → Prop) (Q : Bool → Hp → Prop) : Prop := ∀ b O F' H, P b O → Same F F' → Wd g F' O H → Q b H
theorem BOk.mono {g : Gm} {F F' : Hp} {P : Bool → Sto → Prop} {Q : Bool → Hp → Prop} (h : BOk g F P Q) (e : Same F F') : BOk g F' P Q := fun d O F1 H q s w => h d O F1 H q (e.trans s) w
def AOk (g : Gm) (F : Hp) (P : List D → Sto → Prop) (Q : List V → Hp → Prop) : Prop := ∀ ds O vs F' H, P ds O → Same F F' → Wd g F' O H → Reps g F' ds vs → Q vs H
theorem AOk.mono {g : Gm} {F F' : Hp} {P : List D → Sto → Prop} {Q : List V → Hp → Prop} (h : AOk g F P Q) (e : Same F F') : AOk g F' P Q := fun d O v F1 H q s w r => h d O v F1 H q (e.trans s) w r

def le (g : Gm) (W : WX) (T : DE) : TE := fun σ H Q => ∃ Δ O P E F, T Δ O P E ∧ SRel g F σ Δ ∧ Wd g F O H ∧ VOk g F P Q ∧ XOk g F W σ E
def lt (g : Gm) (W : WX) (T : DT) : TT := fun σ H Q => ∃ Δ O P E F, T Δ O P E ∧ SRel g F σ Δ ∧ Wd g F O H ∧ BOk g F P Q ∧ XOk g F W σ E
def la (g : Gm) (W : WX) (T : DA) : TA := fun σ H Q => ∃ Δ O P E F, T Δ O P E ∧ SRel g F σ Δ ∧ Wd g F O H ∧ AOk g F P Q ∧ XOk g F W σ E
structure EOk (g : Gm) (F : Hp) (W : WX) (D : DEnds) (E : Ends) : Prop where
  nx : ∀ Δ O F' σ H, D.nx Δ O → Same F F' → SRel g F' σ Δ → Wd g F' O H → E.nx σ H
  rt : VOk g F D.rt E.rt
  bk : ∀ Δ O F' σ H, D.bk Δ O → Same F F' → SRel g F' σ Δ → Wd g F' O H → E.bk σ H
  ct : ∀ Δ O F' σ H, D.ct Δ O → Same F F' → SRel g F' σ Δ → Wd g F' O H → E.ct σ H
  xc : ∀ x Δ O cls dd F' σ H, D.xc x Δ O → Same F F' → SRel g F' σ Δ → Wd g F' O H → RelX g F' cls dd x → W cls dd σ H
theorem EOk.mono {g : Gm} {F F' : Hp} {W : WX} {D : DEnds} {E : Ends} (h : EOk g F W D E) (e : Same F F') : EOk g F' W D E :=
  ⟨fun Δ O F1 σ H q s => h.nx Δ O F1 σ H q (e.trans s), h.rt.mono e, fun Δ O F1 σ H q s => h.bk Δ O F1 σ H q (e.trans s), fun Δ O F1 σ H q s => h.ct Δ O F1 σ H q (e.trans s), fun x Δ O c d F1 σ H q s => h.xc x Δ O c d F1 σ H q (e.trans s)⟩
def ls (g : Gm) (W : WX) (T : DS) : TS := fun E σ H => ∃ D Δ O F, T D Δ O ∧ SRel g F σ Δ ∧ Wd g F O H ∧ EOk g F W D E

theorem pe_imp {X : Cx} {e : Expr} {t t' : TE} (h : PE X e t) (k : ∀ σ H Q, t' σ H Q → t σ H Q) : PE X e t' := ⟨fun pins s σ H Q I q => h.run pins s σ H Q I (k _ _ _ q)⟩
theorem pt_imp {X : Cx} {e : Expr} {t t' : TT} (h : PT X e t) (k : ∀ σ H Q, t' σ H Q → t σ H Q) : PT X e t' := ⟨fun pins s σ H Q I q => h.run pins s σ H Q I (k _ _ _ q)⟩
theorem pw_imp {X : Cx} {e : Expr} {t t' : TT} (h : PW X e t) (k : ∀ σ H Q, t' σ H Q → t σ H Q) : PW X e t' := ⟨fun w pins s σ H Q I q => h.run w pins s σ H Q I (k _ _ _ q)⟩
theorem pa_imp {X : Cx} {e : List Expr} {t t' : TA} (h : PA X e t) (k : ∀ σ H Q, t' σ H Q → t σ H Q) : PA X e t' := ⟨fun pos pins s σ H Q I q => h.run pos pins s σ H Q I (k _ _ _ q)⟩
theorem ps_imp {X : Cx} {e : Stmt} {t t' : TS} (h : PS X e t) (k : ∀ D σ H, t' D σ H → t D σ H) : PS X e t' := ⟨fun pins s σ H D I q => h.run pins s σ H D I (k _ _ _ q)⟩
theorem pss_imp {X : Cx} {e : List Stmt} {t t' : TS} (h : PSs X e t) (k : ∀ D σ H, t' D σ H → t D σ H) : PSs X e t' := ⟨fun pins s σ H D I q => h.run pins s σ H D I (k _ _ _ q)⟩

section
variable {g : Gm} {W : WX} {σ : St} {H : Hp} {Δ : Sl} {O : Sto} {F : Hp}
/-- go on behind an expression -/
theorem le_bind {T : DE} {P : KD} {E : KX} {Q : VK} (hT : T Δ O P E) (sr : SRel g F σ Δ) (w : Wd g F O H) (x : XOk g F W σ E)
    (k : ∀ d O1 v F1 H1, P d O1 → Same F F1 → SRel g F1 σ Δ → Wd g F1 O1 H1 → Rep g F1 d v → XOk g F1 W σ E → Q v H1) : le g W T σ H Q :=
  ⟨Δ, O, P, E, F, hT, sr, w, fun d O1 v F1 H1 hp s w1 r => k d O1 v F1 H1 hp s (sr.mono s) w1 r (x.mono s), x⟩
theorem lt_bind {T : DT} {P : Bool → Sto → Prop} {E : KX} {Q : Bool → Hp → Prop} (hT : T Δ O P E) (sr : SRel g F σ Δ) (w : Wd g F O H) (x : XOk g F W σ E)
    (k : ∀ b O1 F1 H1, P b O1 → Same F F1 → SRel g F1 σ Δ → Wd g F1 O1 H1 → XOk g F1 W σ E → Q b H1) : lt g W T σ H Q :=
  ⟨Δ, O, P, E, F, hT, sr, w, fun d O1 F1 H1 hp s w1 => k d O1 F1 H1 hp s (sr.mono s) w1 (x.mono s), x⟩
theorem la_bind {T : DA} {P : List D → Sto → Prop} {E : KX} {Q : List V → Hp → Prop} (hT : T Δ O P E) (sr : SRel g F σ Δ) (w : Wd g F O H) (x : XOk g F W σ E)
    (k : ∀ ds O1 vs F1 H1, P ds O1 → Same F F1 → SRel g F1 σ Δ → Wd g F1 O1 H1 → Reps g F1 ds vs → XOk g F1 W σ E → Q vs H1) : la g W T σ H Q :=
  ⟨Δ, O, P, E, F, hT, sr, w, fun d O1 v F1 H1 hp s w1 r => k d O1 v F1 H1 hp s (sr.mono s) w1 r (x.mono s), x⟩
theorem VOk.now {P : KD} {Q : VK} (h : VOk g F P Q) {d : D} {v : V} (hp : P d O) (w : Wd g F O H) (r : Rep g F d v) : Q v H := h d O v F H hp (Same.refl F) w r
theorem BOk.now {P : Bool → Sto → Prop} {Q : Bool → Hp → Prop} (h : BOk g F P Q) {b : Bool} (hp : P b O) (w : Wd g F O H) : Q b H := h b O F H hp (Same.refl F) w
theorem AOk.now {P : List D → Sto → Prop} {Q : List V → Hp → Prop} (h : AOk g F P Q) {ds : List D} {vs : List V} (hp : P ds O) (w : Wd g F O H) (r : Reps g F ds vs) : Q vs H := h ds O vs F H hp (Same.refl F) w r
end

section
variable {g : Gm} {X : Cx} {W : WX} {pos : Pos} {a b c : Expr}

/-! ### names, constants -/
def dVar (i : Nat) : DE := fun Δ O P _ => match Δ[i]? with | some (some d) => P d O | _ => False
theorem q_var (i : Nat) {x : Str} (hN : X.N[i]? = some x := by rfl) (hv : Vis X.env.scope x := by first | exact Or.inl rfl | exact Or.inr (Or.inl rfl) | exact Or.inr (Or.inr rfl)) (hd : (x == ("__debug__" : Str)) = false := by decide)
    (hcd : (x == ("__classdict__" : Str)) = false := by decide) : PE X (.Name x pos) (le g W (dVar i)) := by
  refine pe_imp (pe_var (i := i) hN hv hd hcd) fun σ H Q h => ?_
  obtain ⟨Δ, O, P, E, F, hT, sr, w, hv, hx⟩ := h
  unfold dVar at hT
  split at hT
  · rename_i d e
    obtain ⟨v, e1, r⟩ := sr.2 i d e
    exact ⟨v, e1, hv.now hT w r⟩
  · exact hT.elim
def dC (d : D) : DE := fun _ O P _ => P d O
theorem q_int {i : Int} {j : Nat} : PE X (.Constant (.int i) j pos) (le g W (dC (.int i))) := pe_imp pe_int fun σ H Q ⟨Δ, O, P, E, F, hT, sr, w, hv, hx⟩ => hv.now (d := .int i) hT w (Rep.int_iff.mpr rfl)
theorem q_bl {i : Bool} {j : Nat} : PE X (.Constant (.bool i) j pos) (le g W (dC (.bl i))) := pe_imp pe_bl fun σ H Q ⟨Δ, O, P, E, F, hT, sr, w, hv, hx⟩ => hv.now (d := .bl i) hT w (Rep.bl_iff.mpr rfl)
theorem q_non {j : Nat} : PE X (.Constant .none j pos) (le g W (dC .non)) := pe_imp pe_non fun σ H Q ⟨Δ, O, P, E, F, hT, sr, w, hv, hx⟩ => hv.now (d := .non) hT w (Rep.non_iff.mpr rfl)
theorem q_str {x : Str} {j : Nat} : PE X (.Constant (.str x) j pos) (le g W (dC (.str x))) := pe_imp pe_str fun σ H Q ⟨Δ, O, P, E, F, hT, sr, w, hv, hx⟩ => hv.now (d := .str x) hT w (Rep.str_iff.mpr rfl)

/-! ### operators -/
abbrev B2 := D → D → Sto → KD → Prop
def dOp (f : B2) (Ta Tb : DE) : DE := fun Δ O P E => Ta Δ O (fun x O1 => Tb Δ O1 (fun y O2 => f x y O2 P) E) E
def Lk2 (g : Gm) (r : R2) (f : B2) : Prop := ∀ x y O P F H vx vy Q, f x y O P → Rep g F x vx → Rep g F y vy → Wd g F O H → VOk g F P Q → r vx vy H Q
theorem top_of {r : R2} {f : B2} {Ta Tb : DE} (lk : Lk2 g r f) {σ : St} {H : Hp} {Q : VK} (h : le g W (dOp f Ta Tb) σ H Q) : tOp r (le g W Ta) (le g W Tb) σ H Q := by
  obtain ⟨Δ, O, P, E, F, hT, sr, w, hv, hx⟩ := h
  refine le_bind hT sr w hx fun x O1 vx F1 H1 hT1 s1 sr1 w1 rx hx1 => le_bind hT1 sr1 w1 hx1 fun y O2 vy F2 H2 hT2 s2 sr2 w2 ry hx2 => ?_
  exact lk x y O2 P F2 H2 vx vy Q hT2 (rx.mono s2) ry w2 (hv.mono (s1.trans s2))
theorem q_op {op : Operator} {r : R2} {f : B2} {Ta Tb : DE} (ho : OpR X (binaryOp op) r) (lk : Lk2 g r f) (ha : PE X a (le g W Ta)) (hb : PE X b (le g W Tb)) : PE X (.BinOp a op b pos) (le g W (dOp f Ta Tb)) :=
  pe_imp (pe_op ho ha hb) fun σ H Q h => top_of lk h
theorem q_cmp {op : CmpOp} {r : R2} {f : B2} {Ta Tb : DE} (ho : OpR X (compareOp op) r) (lk : Lk2 g r f) (ha : PE X a (le g W Ta)) (hb : PE X b (le g W Tb)) (hm : behindInMarks op b = false) : PE X (.Compare a [op] [b] pos) (le g W (dOp f Ta Tb)) :=
  pe_imp (pe_cmpR ho ha hb hm) fun σ H Q h => top_of lk h
def dTe (T : DE) : DT := fun Δ O P E => T Δ O (fun d O1 => match d with | .bl k => P k O1 | _ => False) E
theorem test_of {T : DE} {σ : St} {H : Hp} {Q : Bool → Hp → Prop} (h : lt g W (dTe T) σ H Q) : le g W T σ H fun x H' => ∃ k, x = .bl k ∧ Q k H' := by
  obtain ⟨Δ, O, P, E, F, hT, sr, w, hv, hx⟩ := h
  refine le_bind hT sr w hx fun x O1 vx F1 H1 hT1 s1 sr1 w1 rx hx1 => ?_
  cases x with
  | bl k => exact ⟨k, Rep.bl_iff.mp rx, (hv.mono s1).now hT1 w1⟩
  | _ => exact hT1.elim
theorem qt_cmp {op : CmpOp} {r : R2} {f : B2} {Ta Tb : DE} (ho : OpR X (compareOp op) r) (lk : Lk2 g r f) (ha : PE X a (le g W Ta)) (hb : PE X b (le g W Tb)) (hm : behindInMarks op b = false) : PT X (.Compare a [op] [b] pos) (lt g W (dTe (dOp f Ta Tb))) :=
  pt_imp (pt_cmpR ho ha hb hm) fun σ H Q h => top_of lk (test_of h)
theorem qt_val {T : DE} (h : PE X a (le g W T)) (he : ∀ whole, isTrue a X.env whole = (do let v ← whole; standAt a.pos; holding [v] (truthy v)) := by intro _; rfl) : PT X a (lt g W (dTe T)) :=
  pt_imp (pt_val h he) fun σ H Q h => test_of h
/-- a < b < c -/
def dChain (f f' : B2) (Ta Tb Tc : DE) : DE := fun Δ O P E => Ta Δ O (fun x O1 => Tb Δ O1 (fun y O2 => f x y O2 (fun z O3 => match z with | .bl k => (if k = true then Tc Δ O3 (fun t O4 => f' y t O4 P) E else P (.bl false) O3) | _ => False)) E) E
theorem tchain_of {r r' : R2} {f f' : B2} {Ta Tb Tc : DE} (lk : Lk2 g r f) (lk' : Lk2 g r' f') {σ : St} {H : Hp} {Q : VK} (h : le g W (dChain f f' Ta Tb Tc) σ H Q) : tChain r r' (le g W Ta) (le g W Tb) (le g W Tc) σ H Q := by
  obtain ⟨Δ, O, P, E, F, hT, sr, w, hv, hx⟩ := h
  refine le_bind hT sr w hx fun x O1 vx F1 H1 hT1 s1 sr1 w1 rx hx1 => le_bind hT1 sr1 w1 hx1 fun y O2 vy F2 H2 hT2 s2 sr2 w2 ry hx2 => ?_
  refine lk x y O2 _ F2 H2 vx vy _ hT2 (rx.mono s2) ry w2 fun z O3 vz F3 H3 hT3 s3 w3 rz => ?_
  cases z with
  | bl k =>
    refine ⟨k, Rep.bl_iff.mp rz, ?_⟩
    cases k with
    | true =>
      rw [if_pos rfl]
      have hT3 : Tc Δ O3 (fun t O4 => f' y t O4 P) E := by simpa using hT3
      refine le_bind hT3 (sr2.mono s3) w3 (hx2.mono s3) fun t O4 vt F4 H4 hT4 s4 sr4 w4 rt hx4 => ?_
      exact lk' y t O4 P F4 H4 vy vt Q hT4 (ry.mono (s3.trans s4)) rt w4 (hv.mono (s1.trans (s2.trans (s3.trans s4))))
    | false =>
      rw [if_neg Bool.false_ne_true]
      have hT3 : P (.bl false) O3 := by simpa using hT3
      exact hv _ _ _ _ _ hT3 (s1.trans (s2.trans s3)) w3 (Rep.bl_iff.mpr rfl)
  | _ => exact hT3.elim
theorem q_chain {op op' : CmpOp} {r r' : R2} {f f' : B2} {Ta Tb Tc : DE} (ho : OpR X (compareOp op) r) (ho' : OpR X (compareOp op') r') (lk : Lk2 g r f) (lk' : Lk2 g r' f') (ha : PE X a (le g W Ta)) (hb : PE X b (le g W Tb)) (hc : PE X c (le g W Tc))
    (hm : lastMarks [op, op'] [b, c] = false := by with_unfolding_all rfl) : PE X (.Compare a [op, op'] [b, c] pos) (le g W (dChain f f' Ta Tb Tc)) :=
  pe_imp (pe_chain ho ho' ha hb hc hm) fun σ H Q h => tchain_of lk lk' h
theorem qt_chain {op op' : CmpOp} {r r' : R2} {f f' : B2} {Ta Tb Tc : DE} (ho : OpR X (compareOp op) r) (ho' : OpR X (compareOp op') r') (lk : Lk2 g r f) (lk' : Lk2 g r' f') (ha : PE X a (le g W Ta)) (hb : PE X b (le g W Tb)) (hc : PE X c (le g W Tc))
    (hm : lastMarks [op, op'] [b, c] = false := by with_unfolding_all rfl) : PT X (.Compare a [op, op'] [b, c] pos) (lt g W (dTe (dChain f f' Ta Tb Tc))) :=
  pt_imp (pt_chain ho ho' ha hb hc hm) fun σ H Q h => tchain_of lk lk' (test_of h)

/-! ### truth, and, or, not -/
def truD (O : Sto) : D → Option Bool
  | .non => some false
  | .bl b => some b
  | .int i => some (i != 0)
  | .str x => if x.length ≤ sizeLine then some ((x.length : Int) != 0) else none
  | .lst ds => some (!ds.isEmpty)
  | .tup ds => some (!ds.isEmpty)
  | .dic ks _ => some (!ks.isEmpty)
  | .ptr a => match getC O a with
    | some (.lst ds) => some (!ds.isEmpty)
    | some (.dic ks _) => some (!ks.isEmpty)
    | _ => none
  | _ => none
theorem empty_of {F : Hp} {ds : List D} {vs : List V} (h : Reps g F ds vs) : ds.isEmpty = vs.isEmpty := by
  have e := h.length
  cases ds <;> cases vs <;> simp_all
theorem empty_zipK {F : Hp} {ks : List Key} {ds : List D} {vs : List V} (h : Reps g F ds vs) (hl : ks.length = ds.length) : ks.isEmpty = (zipK ks vs).isEmpty := by
  have e := h.length
  cases ks <;> cases vs <;> simp_all [zipK]
theorem tru_of {F : Hp} {O : Sto} {H : Hp} {d : D} {v : V} {k : Bool} (h : truD O d = some k) (r : Rep g F d v) (w : Wd g F O H) : TruV g.K v H k := by
  cases d with
  | non => rw [Rep.non_iff.mp r]; exact (Option.some.inj h).symm
  | bl b => rw [Rep.bl_iff.mp r]; exact (Option.some.inj h).symm
  | int b => rw [Rep.int_iff.mp r]; exact (Option.some.inj h).symm
  | str x =>
    rw [Rep.str_iff.mp r]
    simp only [truD] at h
    split at h
    · rename_i hl
      exact ⟨hl, (Option.some.inj h).symm⟩
    · cases h
  | lst ds =>
    obtain ⟨p, vs, rfl, h1, h2⟩ := Rep.lst_iff.mp r
    simp only [truD] at h
    exact .inl ⟨vs, SqL.of (w.same _ _ h1), by rw [← empty_of h2]; exact (Option.some.inj h).symm⟩
  | tup ds =>
    obtain ⟨p, vs, rfl, h1, h2⟩ := Rep.tup_iff.mp r
    simp only [truD] at h
    exact .inr (.inl ⟨vs, sqt_same w.same h1, by rw [← empty_of h2]; exact (Option.some.inj h).symm⟩)
  | dic ks ds =>
    obtain ⟨p, vs, rfl, h1, h3, h2⟩ := Rep.dic_iff.mp r
    simp only [truD] at h
    exact .inr (.inr ⟨_, w.same _ _ h1, by rw [← empty_zipK h2 h3]; exact (Option.some.inj h).symm⟩)
  | ptr a =>
    rw [Rep.ptr_iff] at r
    subst r
    simp only [truD] at h
    split at h
    · rename_i ds e
      obtain ⟨_, o, h1, h2⟩ := w.get e
      cases o with
      | lst vs =>
        exact .inl ⟨vs, SqL.of h1, by rw [← empty_of (show Reps g F ds vs from h2)]; exact (Option.some.inj h).symm⟩
      | _ => exact h2.elim
    · rename_i ks ds e
      obtain ⟨_, o, h1, h2⟩ := w.get e
      cases o with
      | dK kvs =>
        obtain ⟨h3, vs, rfl, h4⟩ := h2
        exact .inr (.inr ⟨_, h1, by rw [← empty_zipK h4 h3]; exact (Option.some.inj h).symm⟩)
      | _ => exact h2.elim
    · cases h
  | _ => simp [truD] at h
end
end G

set_option Elab.async false
set_option linter.all false
set_option maxRecDepth 100000
set_option maxHeartbeats 4000000
namespace G
open PySem L2
section
variable {g : Gm} {X : Cx} {W : WX} {pos : Pos} {a b c : Expr}
/-! ### tests -/
def dTru (T : DE) : DT := fun Δ O P E => T Δ O (fun d O1 => match truD O1 d with | some k => P k O1 | none => False) E
theorem qt_tru {T : DE} (h : PE X a (le g W T)) (hK : X.K = g.K := by rfl) (he : ∀ whole, isTrue a X.env whole = (do let v ← whole; standAt a.pos; holding [v] (truthy v)) := by intro _; rfl) : PT X a (lt g W (dTru T)) := by
  refine pt_imp (pt_truth h he) fun σ H Q h => ?_
  obtain ⟨Δ, O, P, E, F, hT, sr, w, hv, hx⟩ := h
  refine le_bind hT sr w hx fun x O1 vx F1 H1 hT1 s1 sr1 w1 rx hx1 => ?_
  split at hT1
  · rename_i k e
    exact ⟨k, by rw [hK]; exact tru_of e rx w1, (hv.mono s1).now hT1 w1⟩
  · exact hT1.elim
def dAnd (t u : DT) : DT := fun Δ O P E => t Δ O (fun k O1 => if k = true then u Δ O1 P E else P false O1) E
def dOr (t u : DT) : DT := fun Δ O P E => t Δ O (fun k O1 => if k = true then P true O1 else u Δ O1 P E) E
def dNot (t : DT) : DT := fun Δ O P E => t Δ O (fun k O1 => P (!k) O1) E
variable {tA tB : DT} {rest : List Expr} {Ta Tb : DE}
theorem qw_and1 (ha : PT X a (lt g W tA)) : PW X (.BoolOp .And [a] pos) (lt g W tA) := pw_and1 ha
theorem qw_or1 (ha : PT X a (lt g W tA)) : PW X (.BoolOp .Or [a] pos) (lt g W tA) := pw_or1 ha
theorem qw_and (ha : PT X a (lt g W tA)) (hb : PW X (.BoolOp .And (b :: rest) pos) (lt g W tB)) : PW X (.BoolOp .And (a :: b :: rest) pos) (lt g W (dAnd tA tB)) := by
  refine pw_imp (pw_and ha hb) fun σ H Q h => ?_
  obtain ⟨Δ, O, P, E, F, hT, sr, w, hv, hx⟩ := h
  refine lt_bind hT sr w hx fun k O1 F1 H1 hT1 s1 sr1 w1 hx1 => ?_
  cases k with
  | true =>
    rw [if_pos rfl] at hT1 ⊢
    exact ⟨Δ, O1, P, E, F1, hT1, sr1, w1, hv.mono s1, hx1⟩
  | false =>
    rw [if_neg Bool.false_ne_true] at hT1 ⊢
    exact (hv.mono s1).now hT1 w1
theorem qw_or (ha : PT X a (lt g W tA)) (hb : PW X (.BoolOp .Or (b :: rest) pos) (lt g W tB)) : PW X (.BoolOp .Or (a :: b :: rest) pos) (lt g W (dOr tA tB)) := by
  refine pw_imp (pw_or ha hb) fun σ H Q h => ?_
  obtain ⟨Δ, O, P, E, F, hT, sr, w, hv, hx⟩ := h
  refine lt_bind hT sr w hx fun k O1 F1 H1 hT1 s1 sr1 w1 hx1 => ?_
  cases k with
  | true =>
    rw [if_pos rfl] at hT1 ⊢
    exact (hv.mono s1).now hT1 w1
  | false =>
    rw [if_neg Bool.false_ne_true] at hT1 ⊢
    exact ⟨Δ, O1, P, E, F1, hT1, sr1, w1, hv.mono s1, hx1⟩
theorem qt_not (ha : PT X a (lt g W tA)) : PT X (.UnaryOp .Not a pos) (lt g W (dNot tA)) := by
  refine pt_imp (pt_not ha) fun σ H Q h => ?_
  obtain ⟨Δ, O, P, E, F, hT, sr, w, hv, hx⟩ := h
  exact lt_bind hT sr w hx fun k O1 F1 H1 hT1 s1 sr1 w1 hx1 => (hv.mono s1).now hT1 w1
/-- as values -/
def dAndV (Ta Tb : DE) : DE := fun Δ O P E => Ta Δ O (fun d O1 => match d with | .bl k => (if k = true then Tb Δ O1 P E else P (.bl false) O1) | _ => False) E
def dOrV (Ta Tb : DE) : DE := fun Δ O P E => Ta Δ O (fun d O1 => match d with | .bl k => (if k = true then P (.bl true) O1 else Tb Δ O1 P E) | _ => False) E
def dNotV (Ta : DE) : DE := fun Δ O P E => Ta Δ O (fun d O1 => match d with | .bl k => P (.bl (!k)) O1 | _ => False) E
theorem q_one {op} (h : PE X a (le g W Ta)) : PE X (.BoolOp op [a] pos) (le g W Ta) := pe_one h
theorem q_and (ha : PE X a (le g W Ta)) (hb : PE X (.BoolOp .And (b :: rest) pos) (le g W Tb)) : PE X (.BoolOp .And (a :: b :: rest) pos) (le g W (dAndV Ta Tb)) := by
  refine pe_imp (pe_and ha hb) fun σ H Q h => ?_
  obtain ⟨Δ, O, P, E, F, hT, sr, w, hv, hx⟩ := h
  refine le_bind hT sr w hx fun d O1 v F1 H1 hT1 s1 sr1 w1 rx hx1 => ?_
  cases d with
  | bl k =>
    refine ⟨k, Rep.bl_iff.mp rx, ?_⟩
    cases k with
    | true =>
      rw [if_pos rfl]
      exact ⟨Δ, O1, P, E, F1, by simpa using hT1, sr1, w1, hv.mono s1, hx1⟩
    | false =>
      rw [if_neg Bool.false_ne_true]
      have hT1 : P (.bl false) O1 := by simpa using hT1
      exact (hv.mono s1).now hT1 w1 (Rep.bl_iff.mpr rfl)
  | _ => exact hT1.elim
theorem q_or (ha : PE X a (le g W Ta)) (hb : PE X (.BoolOp .Or (b :: rest) pos) (le g W Tb)) : PE X (.BoolOp .Or (a :: b :: rest) pos) (le g W (dOrV Ta Tb)) := by
  refine pe_imp (pe_or ha hb) fun σ H Q h => ?_
  obtain ⟨Δ, O, P, E, F, hT, sr, w, hv, hx⟩ := h
  refine le_bind hT sr w hx fun d O1 v F1 H1 hT1 s1 sr1 w1 rx hx1 => ?_
  cases d with
  | bl k =>
    refine ⟨k, Rep.bl_iff.mp rx, ?_⟩
    cases k with
    | false =>
      rw [if_neg Bool.false_ne_true]
      exact ⟨Δ, O1, P, E, F1, by simpa using hT1, sr1, w1, hv.mono s1, hx1⟩
    | true =>
      rw [if_pos rfl]
      have hT1 : P (.bl true) O1 := by simpa using hT1
      exact (hv.mono s1).now hT1 w1 (Rep.bl_iff.mpr rfl)
  | _ => exact hT1.elim
theorem q_not (ha : PE X a (le g W Ta)) : PE X (.UnaryOp .Not a pos) (le g W (dNotV Ta)) := by
  refine pe_imp (pe_not ha) fun σ H Q h => ?_
  obtain ⟨Δ, O, P, E, F, hT, sr, w, hv, hx⟩ := h
  refine le_bind hT sr w hx fun d O1 v F1 H1 hT1 s1 sr1 w1 rx hx1 => ?_
  cases d with
  | bl k => exact ⟨k, Rep.bl_iff.mp rx, (hv.mono s1).now hT1 w1 (Rep.bl_iff.mpr rfl)⟩
  | _ => exact hT1.elim
def dIf (t : DT) (Ta Tb : DE) : DE := fun Δ O P E => t Δ O (fun k O1 => if k = true then Ta Δ O1 P E else Tb Δ O1 P E) E
theorem q_ifx (hc : PT X c (lt g W tA)) (ha : PE X a (le g W Ta)) (hb : PE X b (le g W Tb)) : PE X (.IfExp c a b pos) (le g W (dIf tA Ta Tb)) := by
  refine pe_imp (pe_ifExp hc ha hb) fun σ H Q h => ?_
  obtain ⟨Δ, O, P, E, F, hT, sr, w, hv, hx⟩ := h
  refine lt_bind hT sr w hx fun k O1 F1 H1 hT1 s1 sr1 w1 hx1 => ?_
  cases k with
  | true =>
    rw [if_pos rfl] at hT1 ⊢
    exact ⟨Δ, O1, P, E, F1, hT1, sr1, w1, hv.mono s1, hx1⟩
  | false =>
    rw [if_neg Bool.false_ne_true] at hT1 ⊢
    exact ⟨Δ, O1, P, E, F1, hT1, sr1, w1, hv.mono s1, hx1⟩

/-! ### ints -/
def fI0 (h : Int → Int → D) : B2 := fun x y O P => match x, y with | .int i, .int j => P (h i j) O | _, _ => False
def fI (C : Int → Int → Prop) (h : Int → Int → D) : B2 := fun x y O P => match x, y with | .int i, .int j => C i j ∧ P (h i j) O | _, _ => False
theorem lkI0 {h : Int → Int → D} {h' : Int → Int → V} (e : ∀ F i j, Rep g F (h i j) (h' i j)) : Lk2 g (rI0 h') (fI0 h) := by
  intro x y O P F H vx vy Q hf rx ry w hv
  cases x <;> cases y <;> first | exact hf.elim | skip
  rename_i i j
  exact ⟨i, j, Rep.int_iff.mp rx, Rep.int_iff.mp ry, hv.now hf w (e F i j)⟩
theorem lkI {C : Int → Int → Prop} {h : Int → Int → D} {h' : Int → Int → V} (e : ∀ F i j, Rep g F (h i j) (h' i j)) : Lk2 g (rI C h') (fI C h) := by
  intro x y O P F H vx vy Q hf rx ry w hv
  cases x <;> cases y <;> first | exact hf.elim | skip
  rename_i i j
  exact ⟨i, j, Rep.int_iff.mp rx, Rep.int_iff.mp ry, hf.1, hv.now hf.2 w (e F i j)⟩
theorem rint {F : Hp} {i : Int} : Rep g F (.int i) (.int i) := Rep.int_iff.mpr rfl
theorem rbl {F : Hp} {i : Bool} : Rep g F (.bl i) (.bl i) := Rep.bl_iff.mpr rfl
def fSub : B2 := fI0 fun i j => .int (i - j)
def fMul : B2 := fI CMul fun i j => .int (i * j)
def fMod : B2 := fI (fun _ j => 0 < j) fun i j => .int (i % j)
def fDiv : B2 := fI CDiv fun i j => .int (i / j)
def fPow : B2 := fI CPow fun i j => .int (i ^ j.toNat)
def fLt : B2 := fI0 fun i j => .bl (decide (i < j))
def fLe : B2 := fI0 fun i j => .bl (decide (i ≤ j))
def fGt : B2 := fI0 fun i j => .bl (decide (j < i))
def fGe : B2 := fI0 fun i j => .bl (decide (j ≤ i))
theorem lk_sub : Lk2 g (rI0 fun i j => .int (i - j)) fSub := lkI0 fun _ _ _ => rint
theorem lk_mul : Lk2 g (rI CMul fun i j => .int (i * j)) fMul := lkI fun _ _ _ => rint
theorem lk_mod : Lk2 g (rI (fun _ j => 0 < j) fun i j => .int (i % j)) fMod := lkI fun _ _ _ => rint
theorem lk_div : Lk2 g (rI CDiv fun i j => .int (i / j)) fDiv := lkI fun _ _ _ => rint
theorem lk_pow : Lk2 g (rI CPow fun i j => .int (i ^ j.toNat)) fPow := lkI fun _ _ _ => rint
theorem lk_lt : Lk2 g (rI0 fun i j => .bl (decide (i < j))) fLt := lkI0 fun _ _ _ => rbl
theorem lk_le : Lk2 g (rI0 fun i j => .bl (decide (i ≤ j))) fLe := lkI0 fun _ _ _ => rbl
theorem lk_gt : Lk2 g (rI0 fun i j => .bl (decide (j < i))) fGt := lkI0 fun _ _ _ => rbl
theorem lk_ge : Lk2 g (rI0 fun i j => .bl (decide (j ≤ i))) fGe := lkI0 fun _ _ _ => rbl
theorem OpR.or {f : Value → Value → Sem Value} {r r' : R2} (h : OpR X f r) (h' : OpR X f r') : OpR X f (fun x y H Q => r x y H Q ∨ r' x y H Q) := by
  intro pins s σ H x y v u Q I rx ry q
  rcases q with q | q
  · exact h pins s σ H x y v u Q I rx ry q
  · exact h' pins s σ H x y v u Q I rx ry q

/-! ### + of ints, texts, lists -/
/-- the list that a datum is, as a list object -/
def lstOf (O : Sto) : D → Option (List D)
  | .lst ds => some ds
  | .ptr a => match getC O a with | some (.lst ds) => some ds | _ => none
  | _ => none
theorem lst_of {F : Hp} {O : Sto} {H : Hp} {d : D} {v : V} {ds : List D} (h : lstOf O d = some ds) (r : Rep g F d v) (w : Wd g F O H) : ∃ p vs, v = .ref p ∧ H p = some (.lst vs) ∧ Reps g F ds vs := by
  cases d with
  | lst l =>
    obtain ⟨p, vs, rfl, h1, h2⟩ := Rep.lst_iff.mp r
    cases h
    exact ⟨p, vs, rfl, w.same _ _ h1, h2⟩
  | ptr a =>
    rw [Rep.ptr_iff] at r
    subst r
    simp only [lstOf] at h
    split at h
    · rename_i l e
      cases h
      obtain ⟨_, o, h1, h2⟩ := w.get e
      cases o with
      | lst vs => exact ⟨a, vs, rfl, h1, h2⟩
      | _ => exact h2.elim
    · cases h
  | _ => simp [lstOf] at h
def fAdd : B2 := fun x y O P => match x, y with
  | .int i, .int j => P (.int (i + j)) O
  | .str i, .str j => i.length + j.length ≤ sizeLine ∧ P (.str (i ++ j)) O
  | _, _ => match lstOf O x, lstOf O y with
    | some l, some m => l.length + m.length ≤ sizeLine ∧ P (.lst (l ++ m)) O
    | _, _ => False
def rAddA : R2 := fun x y H Q => (∃ i j, x = .int i ∧ y = .int j ∧ Q (.int (i + j)) H) ∨ (∃ i j, x = .str i ∧ y = .str j ∧ i.length + j.length ≤ sizeLine ∧ Q (.str (i ++ j)) H) ∨ rCat x y H Q
theorem op_addA : OpR X (binaryOp .Add) rAddA := OpR.or op_add (OpR.or op_add_str op_cat)
theorem Reps.newL {F : Hp} {ds : List D} {vs : List V} {p : Addr} (h : Reps g F ds vs) : F p = none → Rep g (upd F p (.lst vs)) (.lst ds) (.ref p) := fun hp => Rep.lst_iff.mpr ⟨p, vs, rfl, upd_same, h.mono (same_upd hp)⟩
theorem Reps.newT {F : Hp} {ds : List D} {vs : List V} {p : Addr} (h : Reps g F ds vs) : F p = none → Rep g (upd F p (.tup vs)) (.tup ds) (.ref p) := fun hp => Rep.tup_iff.mpr ⟨p, vs, rfl, SqT.of upd_same, h.mono (same_upd hp)⟩
theorem lk_add : Lk2 g rAddA fAdd := by
  intro x y O P F H vx vy Q hf rx ry w hv
  have key : (match lstOf O x, lstOf O y with
    | some l, some m => l.length + m.length ≤ sizeLine ∧ P (.lst (l ++ m)) O
    | _, _ => False) → rCat vx vy H Q := by
    intro hf
    split at hf
    · rename_i l m e1 e2
      obtain ⟨p, vs, rfl, h1, h2⟩ := lst_of e1 rx w
      obtain ⟨q, us, rfl, h3, h4⟩ := lst_of e2 ry w
      refine ⟨p, q, vs, us, rfl, rfl, h1, h3, by rw [← h2.length, ← h4.length]; exact hf.1, fun t ht => ?_⟩
      exact hv _ _ _ _ _ hf.2 (w.fsame ht) (w.frozen ht) ((h2.append h4).newL (w.same.free ht))
    · exact hf.elim
  cases x <;> cases y <;> first | exact .inr (.inr (key hf)) | skip
  · rename_i i j
    exact .inl ⟨i, j, Rep.int_iff.mp rx, Rep.int_iff.mp ry, hv.now hf w rint⟩
  · rename_i i j
    exact .inr (.inl ⟨i, j, Rep.str_iff.mp rx, Rep.str_iff.mp ry, hf.1, hv.now hf.2 w (Rep.str_iff.mpr rfl)⟩)

/-! ### subscripts -/
def fIx : B2 := fun x y O P => match y with
  | .int i => match x with
    | .tup ds => (match atI ds i with | some d => P d O | none => False)
    | .str z => z.length ≤ sizeLine ∧ (match atI z.cps.toList i with | some c => P (.str ⟨#[c]⟩) O | none => False)
    | _ => (match lstOf O x with | some ds => (match atI ds i with | some d => P d O | none => False) | none => False)
  | _ => False
theorem atI_rep {F : Hp} {ds : List D} {vs : List V} {i : Int} {d : D} (h : Reps g F ds vs) (e : atI ds i = some d) : ∃ v, atI vs i = some v ∧ Rep g F d v := by
  unfold atI at e ⊢
  rw [← h.length]
  cases q : ixN ds.length i with
  | none => rw [q] at e; cases e
  | some j =>
    rw [q] at e
    exact h.get (show ds[j]? = some d from e)
theorem lk_ix : Lk2 g (rIx g.K) fIx := by
  intro x y O P F H vx vy Q hf rx ry w hv
  cases y with
  | int i =>
    have ey := Rep.int_iff.mp ry
    subst ey
    have key : (match lstOf O x with | some ds => (match atI ds i with | some d => P d O | none => False) | none => False) → rIx g.K vx (.int i) H Q := by
      intro hf
      split at hf
      · rename_i l e1
        obtain ⟨p, vs, rfl, h1, h2⟩ := lst_of e1 rx w
        split at hf
        · rename_i d e2
          obtain ⟨v, e3, r3⟩ := atI_rep h2 e2
          exact .inl ⟨p, vs, i, v, rfl, rfl, SqL.of h1, e3, hv.now hf w r3⟩
        · exact hf.elim
      · exact hf.elim
    cases x with
    | tup ds =>
      obtain ⟨p, vs, rfl, h1, h2⟩ := Rep.tup_iff.mp rx
      have hf : (match atI ds i with | some d => P d O | none => False) := hf
      split at hf
      · rename_i d e2
        obtain ⟨v, e3, r3⟩ := atI_rep h2 e2
        exact .inr (.inl ⟨p, vs, i, v, rfl, rfl, sqt_same w.same h1, e3, hv.now hf w r3⟩)
      · exact hf.elim
    | str z =>
      obtain ⟨hl, hf⟩ : z.length ≤ sizeLine ∧ (match atI z.cps.toList i with | some c => P (.str ⟨#[c]⟩) O | none => False) := hf
      split at hf
      · rename_i ch e2
        exact .inr (.inr ⟨z, i, ch, Rep.str_iff.mp rx, rfl, hl, e2, hv.now hf w (Rep.str_iff.mpr rfl)⟩)
      · exact hf.elim
    | _ => exact key hf
  | _ => exact hf.elim
theorem q_ix (ha : PE X a (le g W Ta)) (hb : PE X b (le g W Tb)) (hs : PlainIx b := by exact fun _ _ => rfl) (hK : X.K = g.K := by rfl) : PE X (.Subscript a b pos) (le g W (dOp fIx Ta Tb)) :=
  pe_imp (pe_ix (r := rIx g.K) (by rw [← hK]; exact ix_seq) ha hb hs) fun σ H Q h => top_of lk_ix h

/-! ### argument lists, displays -/
def dNil : DA := fun _ O P _ => P [] O
def dCons (T : DE) (R : DA) : DA := fun Δ O P E => T Δ O (fun d O1 => R Δ O1 (fun ds O2 => P (d :: ds) O2) E) E
theorem qa_nil : PA X [] (la g W dNil) := pa_imp pa_nil fun σ H Q ⟨Δ, O, P, E, F, hT, sr, w, hv, hx⟩ => hv.now hT w Reps.nil
theorem qa_cons {es : List Expr} {R : DA} (ha : PE X a (le g W Ta)) (hr : PA X es (la g W R)) (hs : starEach (a :: es) X.env = (false, eval a X.env) :: starEach es X.env := by rfl) : PA X (a :: es) (la g W (dCons Ta R)) := by
  refine pa_imp (pa_cons ha hr hs) fun σ H Q h => ?_
  obtain ⟨Δ, O, P, E, F, hT, sr, w, hv, hx⟩ := h
  refine le_bind hT sr w hx fun d O1 v F1 H1 hT1 s1 sr1 w1 rx hx1 => la_bind hT1 sr1 w1 hx1 fun ds O2 vs F2 H2 hT2 s2 sr2 w2 rs hx2 => ?_
  exact hv _ _ _ _ _ hT2 (s1.trans s2) w2 (Reps.cons (rx.mono s2) rs)
def dTup (R : DA) : DE := fun Δ O P E => R Δ O (fun ds O1 => ds.length ≤ sizeLine ∧ P (.tup ds) O1) E
def dLst (R : DA) : DE := fun Δ O P E => R Δ O (fun ds O1 => ds.length ≤ sizeLine ∧ P (.lst ds) O1) E
/-- a list that will change -/
def dLstO (R : DA) : DE := fun Δ O P E => R Δ O (fun ds O1 => ds.length ≤ sizeLine ∧ ∀ p, freshC O1 p → P (.ptr p) ((p, .lst ds) :: O1)) E
theorem q_tup {es : List Expr} {R : DA} {x1} (h : PA X es (la g W R)) : PE X (.Tuple es x1 pos) (le g W (dTup R)) := by
  refine pe_imp (pe_tup h) fun σ H Q h => ?_
  obtain ⟨Δ, O, P, E, F, hT, sr, w, hv, hx⟩ := h
  refine la_bind hT sr w hx fun ds O1 vs F1 H1 hT1 s1 sr1 w1 rs hx1 => ⟨by rw [← rs.length]; exact hT1.1, fun p hp => ?_⟩
  exact hv _ _ _ _ _ hT1.2 (s1.trans (w1.fsame hp)) (w1.frozen hp) (rs.newT (w1.same.free hp))
theorem q_lst {es : List Expr} {R : DA} (h : PA X es (la g W R)) : PE X (.List es pos) (le g W (dLst R)) := by
  refine pe_imp (pe_lst h) fun σ H Q h => ?_
  obtain ⟨Δ, O, P, E, F, hT, sr, w, hv, hx⟩ := h
  refine la_bind hT sr w hx fun ds O1 vs F1 H1 hT1 s1 sr1 w1 rs hx1 => ⟨by rw [← rs.length]; exact hT1.1, fun p hp => ?_⟩
  exact hv _ _ _ _ _ hT1.2 (s1.trans (w1.fsame hp)) (w1.frozen hp) (rs.newL (w1.same.free hp))
theorem q_lstO {es : List Expr} {R : DA} (h : PA X es (la g W R)) : PE X (.List es pos) (le g W (dLstO R)) := by
  refine pe_imp (pe_lst h) fun σ H Q h => ?_
  obtain ⟨Δ, O, P, E, F, hT, sr, w, hv, hx⟩ := h
  refine la_bind hT sr w hx fun ds O1 vs F1 H1 hT1 s1 sr1 w1 rs hx1 => ⟨by rw [← rs.length]; exact hT1.1, fun p hp => ?_⟩
  exact hv _ _ _ _ _ (hT1.2 p (w1.fresh hp)) s1 (w1.own (c := .lst ds) (o := .lst vs) hp rs) (Rep.ptr_iff.mpr rfl)

/-- an owned thing is let go -/
def frzD : Cell → Option D
  | .lst ds => some (.lst ds)
  | .ins c fs ds => some (.obj c fs ds)
  | .dic ks ds => some (.dic ks ds)
  | .box => none
def dFrz (T : DE) : DE := fun Δ O P E => T Δ O (fun d O1 => match d with
  | .ptr a => (match getC O1 a with | some c => (match frzD c with | some d' => P d' (delC O1 a) | none => False) | none => False)
  | _ => False) E
theorem frz_rep {F : Hp} {a : Addr} {c : Cell} {o : HO} {d : D} (hf : frzD c = some d) (h : CRep g F c o) (fa : F a = none) : Rep g (upd F a o) d (.ref a) := by
  cases c with
  | lst ds =>
    cases hf
    cases o with
    | lst vs => exact Reps.newL (show Reps g F ds vs from h) fa
    | _ => exact h.elim
  | ins c fs ds =>
    cases hf
    cases o with
    | ins C dx vfs =>
      obtain ⟨rfl, h2, vs, rfl, h4⟩ := h
      exact Rep.obj_iff.mpr ⟨a, dx, vs, rfl, upd_same, h2, h4.mono (same_upd fa)⟩
    | _ => exact h.elim
  | dic ks ds =>
    cases hf
    cases o with
    | dK kvs =>
      obtain ⟨h2, vs, rfl, h4⟩ := h
      exact Rep.dic_iff.mpr ⟨a, vs, rfl, upd_same, h2, h4.mono (same_upd fa)⟩
    | _ => exact h.elim
  | box => cases hf
theorem q_frz (ha : PE X a (le g W Ta)) : PE X a (le g W (dFrz Ta)) := by
  refine pe_imp ha fun σ H Q h => ?_
  obtain ⟨Δ, O, P, E, F, hT, sr, w, hv, hx⟩ := h
  refine le_bind hT sr w hx fun d O1 v F1 H1 hT1 s1 sr1 w1 rx hx1 => ?_
  cases d with
  | ptr p =>
    have ev := Rep.ptr_iff.mp rx
    subst ev
    have hT1 : (match getC O1 p with | some c => (match frzD c with | some d' => P d' (delC O1 p) | none => False) | none => False) := hT1
    split at hT1
    · rename_i c e
      split at hT1
      · rename_i d' e'
        obtain ⟨o, ho, hc, s2, w2⟩ := w1.freeze e
        exact hv _ _ _ _ _ hT1 (s1.trans s2) w2 (frz_rep e' hc (w1.get e).1)
      · exact hT1.elim
    · exact hT1.elim
  | _ => exact hT1.elim

/-! ### fields -/
/-- the fields of a datum: its class, its names, its values -/
def objOf (O : Sto) : D → Option (Cl × List Fd × List D)
  | .obj c fs ds => some (c, fs, ds)
  | .ptr a => match getC O a with | some (.ins c fs ds) => some (c, fs, ds) | _ => none
  | _ => none
theorem obj_of {F : Hp} {O : Sto} {H : Hp} {d : D} {v : V} {t : Cl × List Fd × List D} (h : objOf O d = some t) (r : Rep g F d v) (w : Wd g F O H) : ∃ p dx vs, v = .ref p ∧ H p = some (.ins (g.ca t.1) dx (zipF t.2.1 vs)) ∧ t.2.1.length = t.2.2.length ∧ Reps g F t.2.2 vs := by
  cases d with
  | obj c fs ds =>
    obtain ⟨p, dx, vs, rfl, h1, h2, h3⟩ := Rep.obj_iff.mp r
    cases h
    exact ⟨p, dx, vs, rfl, w.same _ _ h1, h2, h3⟩
  | ptr a =>
    rw [Rep.ptr_iff] at r
    subst r
    simp only [objOf] at h
    split at h
    · rename_i c fs ds e
      cases h
      obtain ⟨_, o, h1, h2⟩ := w.get e
      cases o with
      | ins C dx vfs =>
        obtain ⟨rfl, h3, vs, rfl, h4⟩ := h2
        exact ⟨a, dx, vs, rfl, h1, h3, h4⟩
      | _ => exact h2.elim
    · cases h
  | _ => simp [objOf] at h
/-- what the walk asks of the classes: fields that no class hides -/
structure Flds (g : Gm) (cs : List Cl) (f : Fd) : Prop where
  cl : ∀ c ∈ cs, Cls g.K (g.ca c)
  no : ∀ c ∈ cs, NoAttr g.K (g.ca c) f.str
def dFld (cs : List Cl) (f : Fd) (T : DE) : DE := fun Δ O P E => T Δ O (fun d O1 => match objOf O1 d with
  | some t => t.1 ∈ cs ∧ (match getF f t.2.1 t.2.2 with | some e => P e O1 | none => False)
  | none => False) E
theorem q_fld {cs : List Cl} {f : Fd} {x : Str} (A : Flds g cs f) (ha : PE X a (le g W Ta)) (hx : x = f.str := by rfl) (hK : X.K = g.K := by rfl) (hb : attributeBase a x X.env (eval a X.env) = eval a X.env := by rfl) :
    PE X (.Attribute a x pos) (le g W (dFld cs f Ta)) := by
  subst hx
  refine pe_imp (pe_fld ha hb) fun σ H Q h => ?_
  obtain ⟨Δ, O, P, E, F, hT, sr, w, hv, hx⟩ := h
  refine le_bind hT sr w hx fun d O1 v F1 H1 hT1 s1 sr1 w1 rx hx1 => ?_
  split at hT1
  · rename_i t e
    obtain ⟨p, dx, vs, rfl, h1, h2, h3⟩ := obj_of e rx w1
    obtain ⟨hc, hT1⟩ := hT1
    split at hT1
    · rename_i d' e'
      obtain ⟨u, hu, ru⟩ := getF_look h3 e'
      exact ⟨p, g.ca t.1, dx, _, u, rfl, h1, by rw [hK]; exact A.cl _ hc, by rw [hK]; exact A.no _ hc, hu, (hv.mono s1).now hT1 w1 ru⟩
    · exact hT1.elim
  · exact hT1.elim

/-! ### builtins by values -/
abbrev BC := List D → Sto → KD → Prop
def LkC (g : Gm) (r : List V → Hp → VK → Prop) (f : BC) : Prop := ∀ ds O P F H vs Q, f ds O P → Reps g F ds vs → Wd g F O H → VOk g F P Q → r vs H Q
def dCB (f : BC) (R : DA) : DE := fun Δ O P E => R Δ O (fun ds O1 => f ds O1 P) E
theorem tcb_of {r : List V → Hp → VK → Prop} {f : BC} {R : DA} (lk : LkC g r f) {σ : St} {H : Hp} {Q : VK} (h : le g W (dCB f R) σ H Q) : tCB r (la g W R) σ H Q := by
  obtain ⟨Δ, O, P, E, F, hT, sr, w, hv, hx⟩ := h
  exact la_bind hT sr w hx fun ds O1 vs F1 H1 hT1 s1 sr1 w1 rs hx1 => lk _ _ _ _ _ _ _ hT1 rs w1 (hv.mono s1)
variable {es : List Expr} {R : DA} {x : Str} {p : Pos}
theorem q_callB {id : String} {r : List V → Hp → VK → Prop} {f : BC} (hc : CallR X (.builtin id) r) (lk : LkC g r f) (hm : X.mg x = none) (ha : PA X (a :: es) (la g W R)) (hv : bootBuiltins x = some (.builtin id) := by decide +kernel) (hg : Gl X x := by rfl) (hn : x ≠ "__name__" := by decide) (hdb : (x == ("__debug__" : Str)) = false := by decide)
    (he : starEach (a :: es) X.env = (false, eval a X.env) :: starEach es X.env := by rfl) (hpl : (backTo pos (starEach es X.env)).any (·.1) = false := by rfl) : PE X (.Call (.Name x p) (a :: es) [] pos) (le g W (dCB f R)) :=
  pe_imp (pe_callB hc hg hm hv ha hn hdb he hpl) fun σ H Q h => tcb_of lk h
theorem q_callTy {T : String} {r : List V → Hp → VK → Prop} {f : BC} (hc : CallR X (.type T) r) (lk : LkC g r f) (hm : X.mg x = none) (ha : PA X (a :: es) (la g W R)) (hv : bootBuiltins x = some (.type T) := by decide +kernel) (hg : Gl X x := by rfl) (hn : x ≠ "__name__" := by decide) (hdb : (x == ("__debug__" : Str)) = false := by decide)
    (he : starEach (a :: es) X.env = (false, eval a X.env) :: starEach es X.env := by rfl) (hpl : (backTo pos (starEach es X.env)).any (·.1) = false := by rfl) : PE X (.Call (.Name x p) (a :: es) [] pos) (le g W (dCB f R)) :=
  pe_imp (pe_callTy hc hg hm hv ha hn hdb he hpl) fun σ H Q h => tcb_of lk h
end
end G

set_option Elab.async false
set_option linter.all false
set_option maxRecDepth 100000
set_option maxHeartbeats 4000000
namespace G
open PySem L2
/-! ## statements -/
theorem EOk.toX {g : Gm} {F : Hp} {W : WX} {D : DEnds} {E : Ends} {σ : St} {Δ : Sl} (h : EOk g F W D E) (sr : SRel g F σ Δ) : XOk g F W σ (fun x O => D.xc x Δ O) :=
  fun x O cls dd F' H q s w r => h.xc x Δ O cls dd F' σ H q s (sr.mono s) w r
section
variable {g : Gm} {X : Cx} {W : WX} {pos pos' : Pos} {a b c : Expr} {Ta Tb : DE} {tA tB : DT} {T U : DS} {st : Stmt} {rest : List Stmt}
def dNext : DS := fun D Δ O => D.nx Δ O
def dSeq (T U : DS) : DS := fun D Δ O => T { D with nx := U D } Δ O
theorem qss_nil : PSs X [] (ls g W dNext) := pss_imp pss_nil fun E σ H ⟨D, Δ, O, F, hT, sr, w, he⟩ => he.nx _ _ _ _ _ hT (Same.refl F) sr w
theorem qss_one (h : PS X st (ls g W T)) : PSs X [st] (ls g W T) := pss_one h
theorem qss_cons (h1 : PS X st (ls g W T)) (h2 : PSs X rest (ls g W U)) : PSs X (st :: rest) (ls g W (dSeq T U)) := by
  refine pss_imp (pss_cons h1 h2) fun E σ H ⟨D, Δ, O, F, hT, sr, w, he⟩ => ?_
  refine ⟨{ D with nx := U D }, Δ, O, F, hT, sr, w, ⟨fun Δ' O' F' σ' H' q s sr' w' => ?_, he.rt, he.bk, he.ct, he.xc⟩⟩
  exact ⟨D, Δ', O', F', q, sr', w', he.mono s⟩
def dAsg (i : Nat) (T : DE) : DS := fun D Δ O => T Δ O (fun d O1 => D.nx (Δ.set i (some d)) O1) (fun x O1 => D.xc x Δ O1)
theorem qs_asg (i : Nat) {x : Str} (hN : X.N.Nodup) (he : PE X a (le g W Ta)) (hi : X.N[i]? = some x := by rfl) (hx : Loc X.env.scope x := by first | exact Or.inl rfl | exact Or.inr rfl) (hs : swapsWith a (some (.Name x pos')) pos.line X.env = pure false := by rfl)
    (hf : X.fn x = true ∨ X.env.scope.names.lookup x = some .local := by first | exact .inl rfl | exact .inr rfl) : PS X (.Assign [.Name x pos'] a pos) (ls g W (dAsg i Ta)) := by
  refine ps_imp (ps_set (i := i) hN hi hx he hs hf) fun E σ H ⟨D, Δ, O, F, hT, sr, w, ho⟩ => ?_
  exact le_bind hT sr w (ho.toX sr) fun d O1 v F1 H1 hT1 s1 sr1 w1 rx hx1 => ho.nx _ _ _ _ _ hT1 s1 (sr1.set rx i) w1
def dExp (T : DE) : DS := fun D Δ O => T Δ O (fun _ O1 => D.nx Δ O1) (fun x O1 => D.xc x Δ O1)
theorem qs_expr (he : PE X a (le g W Ta)) (hs : swapsWith a none pos.line X.env = pure false := by rfl) : PS X (.Expr a pos) (ls g W (dExp Ta)) := by
  refine ps_imp (ps_expr he hs) fun E σ H ⟨D, Δ, O, F, hT, sr, w, ho⟩ => ?_
  exact le_bind hT sr w (ho.toX sr) fun d O1 v F1 H1 hT1 s1 sr1 w1 rx hx1 => ho.nx _ _ _ _ _ hT1 s1 sr1 w1
def dRet (T : DE) : DS := fun D Δ O => T Δ O D.rt (fun x O1 => D.xc x Δ O1)
theorem qs_ret (he : PE X a (le g W Ta)) : PS X (.Return (some a) pos) (ls g W (dRet Ta)) := by
  refine ps_imp (ps_ret he) fun E σ H ⟨D, Δ, O, F, hT, sr, w, ho⟩ => ?_
  exact le_bind hT sr w (ho.toX sr) fun d O1 v F1 H1 hT1 s1 sr1 w1 rx hx1 => ho.rt _ _ _ _ _ hT1 s1 w1 rx
def dRetN : DS := fun D _ O => D.rt .non O
theorem qs_retN : PS X (.Return none pos) (ls g W dRetN) := ps_imp ps_retN fun E σ H ⟨D, Δ, O, F, hT, sr, w, ho⟩ => ho.rt.now hT w (Rep.non_iff.mpr rfl)
def dIfS (t : DT) (T U : DS) : DS := fun D Δ O => t Δ O (fun k O1 => if k = true then T D Δ O1 else U D Δ O1) (fun x O1 => D.xc x Δ O1)
theorem qs_if {xs ys : List Stmt} (hc : PT X c (lt g W tA)) (ha : PSs X xs (ls g W T)) (hb : PSs X ys (ls g W U)) : PS X (.If c xs ys pos) (ls g W (dIfS tA T U)) := by
  refine ps_imp (ps_if hc ha hb) fun E σ H ⟨D, Δ, O, F, hT, sr, w, ho⟩ => ?_
  refine lt_bind hT sr w (ho.toX sr) fun k O1 F1 H1 hT1 s1 sr1 w1 hx1 => ?_
  cases k with
  | true =>
    rw [if_pos rfl] at hT1 ⊢
    exact ⟨D, Δ, O1, F1, hT1, sr1, w1, ho.mono s1⟩
  | false =>
    rw [if_neg Bool.false_ne_true] at hT1 ⊢
    exact ⟨D, Δ, O1, F1, hT1, sr1, w1, ho.mono s1⟩
def dBrk : DS := fun D Δ O => D.bk Δ O
def dCnt : DS := fun D Δ O => D.ct Δ O
def dNev : DS := fun _ _ _ => False
theorem qs_pass : PS X (.Pass pos) (ls g W dNext) := ps_imp ps_pass fun E σ H ⟨D, Δ, O, F, hT, sr, w, he⟩ => he.nx _ _ _ _ _ hT (Same.refl F) sr w
theorem qs_brk : PS X (.Break pos) (ls g W dBrk) := ps_imp ps_break fun E σ H ⟨D, Δ, O, F, hT, sr, w, he⟩ => he.bk _ _ _ _ _ hT (Same.refl F) sr w
theorem qs_cnt : PS X (.Continue pos) (ls g W dCnt) := ps_imp ps_continue fun E σ H ⟨D, Δ, O, F, hT, sr, w, he⟩ => he.ct _ _ _ _ _ hT (Same.refl F) sr w
theorem qs_nev : PS X st (ls g W dNev) := ps_imp ps_never fun E σ H ⟨D, Δ, O, F, hT, sr, w, he⟩ => hT.elim
theorem qss_nev {sts : List Stmt} : PSs X sts (ls g W dNev) := pss_imp pss_never fun E σ H ⟨D, Δ, O, F, hT, sr, w, he⟩ => hT.elim
/-- x += e -/
def dAug (i : Nat) (f : B2) (T : DE) : DS := fun D Δ O => match Δ[i]? with
  | some (some x) => T Δ O (fun y O1 => f x y O1 fun z O2 => D.nx (Δ.set i (some z)) O2) (fun x O1 => D.xc x Δ O1)
  | _ => False
def fAddI : B2 := fI0 fun i j => .int (i + j)
/-- o.f = e -/
def dSetF (cs : List Cl) (f : Fd) (To Tv : DE) : DS := fun D Δ O => Tv Δ O (fun d O1 => To Δ O1 (fun o O2 => match o with
  | .ptr p => (match getC O2 p with
    | some (.ins c fs ds) => c ∈ cs ∧ fs.length < 900 ∧ D.nx Δ (setC O2 p (.ins c (putFs f fs) (putDs f d fs ds)))
    | _ => False)
  | _ => False) (fun x O1 => D.xc x Δ O1)) (fun x O1 => D.xc x Δ O1)
theorem qs_setF {cs : List Cl} {f : Fd} {x : Str} (A : Flds g cs f) (ha : PE X a (le g W Ta)) (hb : PE X b (le g W Tb)) (hx : x = f.str := by rfl) (hK : X.K = g.K := by rfl) (hs : swapsWith b (some (.Attribute a x pos')) pos.line X.env = pure false := by rfl) :
    PS X (.Assign [.Attribute a x pos'] b pos) (ls g W (dSetF cs f Ta Tb)) := by
  subst hx
  refine ps_imp (ps_fld ha hb hs) fun E σ H ⟨D, Δ, O, F, hT, sr, w, ho⟩ => ?_
  refine le_bind hT sr w (ho.toX sr) fun d O1 v F1 H1 hT1 s1 sr1 w1 rx hx1 => le_bind hT1 sr1 w1 hx1 fun o O2 vo F2 H2 hT2 s2 sr2 w2 ro hx2 => ?_
  cases o with
  | ptr p =>
    have ev := Rep.ptr_iff.mp ro
    subst ev
    have hT2 : (match getC O2 p with
      | some (.ins c fs ds) => c ∈ cs ∧ fs.length < 900 ∧ D.nx Δ (setC O2 p (.ins c (putFs f fs) (putDs f d fs ds)))
      | _ => False) := hT2
    split at hT2
    · rename_i c fs ds e
      obtain ⟨hc, hl, hT2⟩ := hT2
      obtain ⟨fa, ob, h1, h2⟩ := w2.get e
      cases ob with
      | ins C dx vfs =>
        obtain ⟨rfl, h3, vs, rfl, h4⟩ := h2
        obtain ⟨ws, e1, e2, e3⟩ := putF_zip (f := f) (rx.mono s2) h3 h4
        refine ⟨p, g.ca c, dx, _, rfl, h1, by rw [hK]; exact A.cl _ hc, by rw [hK]; exact A.no _ hc, ?_, ?_⟩
        · unfold zipF
          rw [List.length_zip, List.length_map]
          omega
        · rw [e1]
          exact ho.nx _ _ _ _ _ hT2 (s1.trans s2) sr2 (w2.set e (c' := .ins c (putFs f fs) (putDs f d fs ds)) (o := .ins (g.ca c) dx (zipF (putFs f fs) ws)) ⟨rfl, e3, ws, rfl, e2⟩)
      | _ => exact h2.elim
    · exact hT2.elim
  | _ => exact hT2.elim
/-- a list with one place written -/
def setI (ds : List D) (k : Int) (d : D) : Option (List D) := match ixN ds.length k with | some j => some (ds.set j d) | none => none
/-- xs[i] = e, xs a list that is owned -/
def dSetIx (To Ti Tv : DE) : DS := fun D Δ O => Tv Δ O (fun d O1 => To Δ O1 (fun o O2 => Ti Δ O2 (fun i O3 => match o, i with
  | .ptr p, .int k => (match getC O3 p with
    | some (.lst ds) => (match setI ds k d with | some es => D.nx Δ (setC O3 p (.lst es)) | none => False)
    | _ => False)
  | _, _ => False) (fun x O1 => D.xc x Δ O1)) (fun x O1 => D.xc x Δ O1)) (fun x O1 => D.xc x Δ O1)
theorem qs_setIx {Tc : DE} (ha : PE X a (le g W Ta)) (hb : PE X b (le g W Tb)) (hc : PE X c (le g W Tc))
    (ha' : ∀ v, assign (.Subscript a b pos') X.env v = (do
      let ov ← holding [v] (eval a X.env)
      let iv ← holding [v, ov] (eval b X.env)
      standAt pos'
      holding [v, ov, iv] (setItem ov iv v)
      release [v, ov, iv] []) := by intro _; rfl) (hs : swapsWithSole [.Subscript a b pos'] c pos.line X.env = pure false := by rfl) (hw : swappedStores [.Subscript a b pos'] c X.env = pure none := by rfl)
    (h1 : (assignEach [.Subscript a b pos'] X.env).map (·.2) = [assign (.Subscript a b pos') X.env] := by rfl) : PS X (.Assign [.Subscript a b pos'] c pos) (ls g W (dSetIx Ta Tb Tc)) := by
  refine ps_imp (ps_asg hc (pg_sub ha hb set_list ha') hs hw h1) fun E σ H ⟨D, Δ, O, F, hT, sr, w, ho⟩ => ?_
  refine le_bind hT sr w (ho.toX sr) fun d O1 v F1 H1 hT1 s1 sr1 w1 rx hx1 => le_bind hT1 sr1 w1 hx1 fun o O2 vo F2 H2 hT2 s2 sr2 w2 ro hx2 => le_bind hT2 sr2 w2 hx2 fun i O3 vi F3 H3 hT3 s3 sr3 w3 ri hx3 => ?_
  cases o <;> cases i <;> first | exact hT3.elim | skip
  rename_i p k
  have ev := Rep.ptr_iff.mp ro
  subst ev
  have hT3 : (match getC O3 p with
    | some (.lst ds) => (match setI ds k d with | some es => D.nx Δ (setC O3 p (.lst es)) | none => False)
    | _ => False) := hT3
  split at hT3
  · rename_i ds e
    split at hT3
    · rename_i es eS
      unfold setI at eS
      split at eS
      rotate_left
      · cases eS
      rename_i j ej
      cases eS
      obtain ⟨fa, ob, h1, h2⟩ := w3.get e
      cases ob with
      | lst vs =>
        have h2 : Reps g F3 ds vs := h2
        refine ⟨p, vs, k, j, rfl, Rep.int_iff.mp ri, h1, by rw [← h2.length]; exact ej, ?_⟩
        exact ho.nx _ _ _ _ _ hT3 (s1.trans (s2.trans s3)) sr3 (w3.set e (c' := .lst (ds.set j d)) (o := .lst (vs.set j v)) (h2.set (rx.mono (s2.trans s3)) j))
      | _ => exact h2.elim
    · exact hT3.elim
  · exact hT3.elim
/-- xs.append(e) -/
def dApp (To Tv : DE) : DE := fun Δ O P E => To Δ O (fun o O1 => match o with
  | .ptr p => (match getC O1 p with
    | some (.lst _) => Tv Δ O1 (fun d O2 => match getC O2 p with
      | some (.lst ds) => ds.length < sizeLine ∧ P .non (setC O2 p (.lst (ds ++ [d])))
      | _ => False) E
    | _ => False)
  | _ => False) E
/-- give: pe_bm PySem.F.plainAttrs_list PySem.F.slot_list_append PySem.F.type_list_append mt_append HA (pa_cons HB pa_nil) -/
theorem q_app (h : PE X c (tBM X.K "list" rAppend (le g W Ta) (tCons (le g W Tb) tNil))) : PE X c (le g W (dApp Ta Tb)) := by
  refine pe_imp h fun σ H Q h => ?_
  obtain ⟨Δ, O, P, E, F, hT, sr, w, hv, hx⟩ := h
  refine le_bind hT sr w hx fun o O1 vo F1 H1 hT1 s1 sr1 w1 ro hx1 => ?_
  cases o with
  | ptr p =>
    have ev := Rep.ptr_iff.mp ro
    subst ev
    have hT1 : (match getC O1 p with
      | some (.lst _) => Tb Δ O1 (fun d O2 => match getC O2 p with
        | some (.lst ds) => ds.length < sizeLine ∧ P .non (setC O2 p (.lst (ds ++ [d])))
        | _ => False) E
      | _ => False) := hT1
    split at hT1
    · rename_i ds0 e0
      obtain ⟨_, ob, h1, h2⟩ := w1.get e0
      cases ob with
      | lst vs0 =>
        refine ⟨.inl ⟨rfl, _, SqL.of h1⟩, ?_⟩
        refine le_bind hT1 sr1 w1 hx1 fun d O2 vd F2 H2 hT2 s2 sr2 w2 rd hx2 => ?_
        split at hT2
        · rename_i ds e
          obtain ⟨_, ob, h3, h4⟩ := w2.get e
          cases ob with
          | lst vs =>
            have h4 : Reps g F2 ds vs := h4
            refine ⟨p, vs, vd, rfl, rfl, h3, by rw [← h4.length]; exact hT2.1, ?_⟩
            exact hv _ _ _ _ _ hT2.2 (s1.trans s2) (w2.set e (c' := .lst (ds ++ [d])) (o := .lst (vs ++ [vd])) (h4.append (Reps.one rd))) (Rep.non_iff.mpr rfl)
          | _ => exact h4.elim
        · exact hT2.elim
      | _ => exact h2.elim
    · exact hT1.elim
  | _ => exact hT1.elim
end

/-! ## loops -/
/-- what a walk gives: the data of its turns -/
structure Gives (g : Gm) (F : Hp) (J : It) (ds : List D) : Prop where
  go : ∀ (i : Nat) (d : D) F' O H, ds[i]? = some d → Same F F' → Wd g F' O H → J.go i H ∧ ∀ x H', J.yld i H x H' → ∃ F2, Same F' F2 ∧ Wd g F2 O H' ∧ Rep g F2 d x
  stop : ∀ (i : Nat) F' O H, ds.length ≤ i → Same F F' → Wd g F' O H → J.stop i H
theorem Gives.mono {g : Gm} {F F1 : Hp} {J : It} {ds : List D} (h : Gives g F J ds) (e : Same F F1) : Gives g F1 J ds := ⟨fun i d F' O H q s => h.go i d F' O H q (e.trans s), fun i F' O H q s => h.stop i F' O H q (e.trans s)⟩
def li (g : Gm) (W : WX) (T : DA) : TI := fun σ H R => ∃ Δ O P E F, T Δ O P E ∧ SRel g F σ Δ ∧ Wd g F O H ∧ (∀ ds O' F' H' J, P ds O' → Same F F' → Wd g F' O' H' → Gives g F' J ds → R J H') ∧ XOk g F W σ E
theorem pi_imp {X : Cx} {tg e : Expr} {t t' : TI} (h : PI X tg e t) (k : ∀ σ H Q, t' σ H Q → t σ H Q) : PI X tg e t' := ⟨fun pins s σ H R I q => h.run pins s σ H R I (k _ _ _ q)⟩
section
variable {g : Gm} {X : Cx} {W : WX} {pos pos' : Pos} {a b c tg : Expr} {Ta Tb : DE} {tA tB : DT} {R : DA}
theorem gives_list {F : Hp} {p : Addr} {vs : List V} {ds : List D} (h : F p = some (.lst vs)) (r : Reps g F ds vs) : Gives g F (Itl g.K p) ds := by
  refine ⟨fun i d F' O H q s w => ?_, fun i F' O H q s w => ⟨vs, SqL.of (w.same _ _ (s _ _ h)), by rw [← r.length]; exact q⟩⟩
  obtain ⟨v, hv, rv⟩ := r.get q
  have hs : SqL g.K H p vs := SqL.of (w.same _ _ (s _ _ h))
  refine ⟨⟨vs, v, hs, hv⟩, fun x H' ⟨e, y⟩ => ⟨F', Same.refl F', by rw [e]; exact w, ?_⟩⟩
  have z := y vs hs
  rw [hv] at z
  cases z
  exact rv.mono s
theorem gives_tup {F : Hp} {p : Addr} {vs : List V} {ds : List D} (h : SqT g.K F p vs) (r : Reps g F ds vs) : Gives g F (Itt g.K p) ds := by
  refine ⟨fun i d F' O H q s w => ?_, fun i F' O H q s w => ⟨vs, sqt_same w.same (sqt_same s h), by rw [← r.length]; exact q⟩⟩
  obtain ⟨v, hv, rv⟩ := r.get q
  have hs : SqT g.K H p vs := sqt_same w.same (sqt_same s h)
  refine ⟨⟨vs, v, hs, hv⟩, fun x H' ⟨e, y⟩ => ⟨F', Same.refl F', by rw [e]; exact w, ?_⟩⟩
  have z := y vs hs
  rw [hv] at z
  cases z
  exact rv.mono s
/-- the items of a list that stands still -/
def dItL (T : DE) : DA := fun Δ O P E => T Δ O (fun d O1 => match d with | .lst ds => P ds O1 | _ => False) E
def dItT (T : DE) : DA := fun Δ O P E => T Δ O (fun d O1 => match d with | .tup ds => P ds O1 | _ => False) E
theorem qi_list (ha : PE X a (le g W Ta)) (hK : X.K = g.K := by rfl) : PI X tg a (li g W (dItL Ta)) := by
  refine pi_imp (pi_list ha) fun σ H R h => ?_
  obtain ⟨Δ, O, P, E, F, hT, sr, w, hR, hx⟩ := h
  refine le_bind hT sr w hx fun d O1 v F1 H1 hT1 s1 sr1 w1 rx hx1 => ?_
  cases d with
  | lst ds =>
    obtain ⟨p, vs, rfl, h1, h2⟩ := Rep.lst_iff.mp rx
    exact ⟨p, rfl, ⟨vs, SqL.of (w1.same _ _ h1)⟩, hR _ _ _ _ _ hT1 s1 w1 (by rw [hK]; exact gives_list h1 h2)⟩
  | _ => exact hT1.elim
theorem qi_tup (ha : PE X a (le g W Ta)) (hK : X.K = g.K := by rfl) : PI X tg a (li g W (dItT Ta)) := by
  refine pi_imp (pi_tup ha) fun σ H R h => ?_
  obtain ⟨Δ, O, P, E, F, hT, sr, w, hR, hx⟩ := h
  refine le_bind hT sr w hx fun d O1 v F1 H1 hT1 s1 sr1 w1 rx hx1 => ?_
  cases d with
  | tup ds =>
    obtain ⟨p, vs, rfl, h1, h2⟩ := Rep.tup_iff.mp rx
    exact ⟨p, rfl, ⟨vs, by rw [hK]; exact sqt_same w1.same h1⟩, hR _ _ _ _ _ hT1 s1 w1 (by rw [hK]; exact gives_tup h1 h2)⟩
  | _ => exact hT1.elim
def rangeD (lo : Int) (n : Nat) : List D := (List.range n).map fun (i : Nat) => .int (lo + (i : Int))
theorem gives_range {F : Hp} (lo : Int) (n : Nat) : Gives g F (Itr lo n) (rangeD lo n) := by
  refine ⟨fun i d F' O H q s w => ?_, fun i F' O H q s w => (show n ≤ i by simpa [rangeD] using q)⟩
  have hi : i < n := by
    have z := (List.getElem?_eq_some_iff.mp q).1
    simpa [rangeD] using z
  refine ⟨hi, fun x H' ⟨e, y⟩ => ⟨F', Same.refl F', by rw [e]; exact w, ?_⟩⟩
  have ed : d = .int (lo + (i : Int)) := by
    unfold rangeD at q
    rw [List.getElem?_map, List.getElem?_range hi] at q
    exact (Option.some.inj q).symm
  rw [ed, y]
  exact rint
def dRng1 (R : DA) : DA := fun Δ O P E => R Δ O (fun ds O1 => match ds with | [.int j] => -(2 ^ 62) ≤ j ∧ j < 2 ^ 62 ∧ P (rangeD 0 j.toNat) O1 | _ => False) E
def dRng2 (R : DA) : DA := fun Δ O P E => R Δ O (fun ds O1 => match ds with | [.int i, .int j] => (-(2 ^ 62) ≤ i ∧ i < 2 ^ 62 ∧ -(2 ^ 62) ≤ j ∧ j < 2 ^ 62) ∧ P (rangeD i (j - i).toNat) O1 | _ => False) E
theorem qi_range1 {p : Pos} (hm : X.mg "range" = none) (ha : PA X [a] (la g W R)) (hg : Gl X "range" := by rfl) (hs : starEach [a] X.env = [(false, eval a X.env)] := by rfl) : PI X tg (.Call (.Name "range" p) [a] [] pos) (li g W (dRng1 R)) := by
  refine pi_imp (pi_range1 hg hm ha hs) fun σ H Rr h => ?_
  obtain ⟨Δ, O, P, E, F, hT, sr, w, hR, hx⟩ := h
  refine la_bind hT sr w hx fun ds O1 vs F1 H1 hT1 s1 sr1 w1 rx hx1 => ?_
  split at hT1
  · rename_i j
    obtain ⟨v, r, rfl, h1, h2⟩ := Reps.cons_iff.mp rx
    rw [Reps.nil_iff] at h2
    subst h2
    exact ⟨j, by rw [Rep.int_iff.mp h1], hT1.1, hT1.2.1, hR _ _ _ _ _ hT1.2.2 s1 w1 (gives_range 0 _)⟩
  · exact hT1.elim
theorem qi_range2 {p : Pos} (hm : X.mg "range" = none) (ha : PA X [a, b] (la g W R)) (hg : Gl X "range" := by rfl) (hs : starEach [a, b] X.env = [(false, eval a X.env), (false, eval b X.env)] := by rfl) (hs2 : starEach [b] X.env = [(false, eval b X.env)] := by rfl) :
    PI X tg (.Call (.Name "range" p) [a, b] [] pos) (li g W (dRng2 R)) := by
  refine pi_imp (pi_range2 hg hm ha hs hs2) fun σ H Rr h => ?_
  obtain ⟨Δ, O, P, E, F, hT, sr, w, hR, hx⟩ := h
  refine la_bind hT sr w hx fun ds O1 vs F1 H1 hT1 s1 sr1 w1 rx hx1 => ?_
  split at hT1
  · rename_i i j
    obtain ⟨v, r, rfl, h1, h2⟩ := Reps.cons_iff.mp rx
    obtain ⟨v', r', rfl, h3, h4⟩ := Reps.cons_iff.mp h2
    rw [Reps.nil_iff] at h4
    subst h4
    exact ⟨i, j, by rw [Rep.int_iff.mp h1, Rep.int_iff.mp h3], hT1.1, hR _ _ _ _ _ hT1.2 s1 w1 (gives_range _ _)⟩
  · exact hT1.elim

/-! ### targets -/
abbrev DG := D → Sl → (Sl → Prop) → Prop
/-- a name; a tuple of names -/
def dgN (i : Nat) : DG := fun d Δ Q => Q (Δ.set i (some d))
def setAll : List Nat → List D → Sl → Option Sl
  | [], [], Δ => some Δ
  | i :: is, d :: ds, Δ => setAll is ds (Δ.set i (some d))
  | _, _, _ => none
def dgT (is : List Nat) : DG := fun d Δ Q => match d with | .tup ds => (match setAll is ds Δ with | some Δ' => Q Δ' | none => False) | _ => False
/-- the heap's target and the data's target belong together, and touch the slots js alone -/
def LkG (g : Gm) (t : TG) (G : DG) (js : List Nat) : Prop := ∀ d v σ Δ F O H (P : Sl → Prop) (Q : St → Hp → Prop), G d Δ P → Rep g F d v → SRel g F σ Δ → Wd g F O H →
  (∀ Δ' σ', P Δ' → SRel g F σ' Δ' → (∀ i : Nat, i ∉ js → σ'[i]? = σ[i]?) → σ'.length = σ.length → Q σ' H) → t v σ H Q
theorem lkg_name (i : Nat) : LkG g (gName i) (dgN i) [i] := fun d v σ Δ F O H P Q hG rv sr w k => k _ _ hG (sr.set rv i) (fun j hj => by
  rw [List.getElem?_set_ne]
  intro e
  exact hj (by simp [e])) (by simp)
def gNames : List Nat → TGs
  | [] => gNil
  | i :: is => gCons (gName i) (gNames is)
theorem lkg_names {F : Hp} {O : Sto} {H : Hp} : ∀ (is : List Nat) (ds : List D) (vs : List V) (σ : St) (Δ Δ' : Sl) (Q : St → Hp → Prop), setAll is ds Δ = some Δ' → Reps g F ds vs → SRel g F σ Δ → Wd g F O H →
    (∀ σ', SRel g F σ' Δ' → (∀ i : Nat, i ∉ is → σ'[i]? = σ[i]?) → σ'.length = σ.length → Q σ' H) → gNames is vs σ H Q ∧ vs.length = is.length := by
  intro is
  induction is with
  | nil =>
    intro ds vs σ Δ Δ' Q h r sr w k
    cases ds with
    | nil =>
      rw [Reps.nil_iff] at r
      subst r
      cases h
      exact ⟨⟨rfl, k σ sr (fun _ _ => rfl) rfl⟩, rfl⟩
    | cons d ds => simp [setAll] at h
  | cons i is ih =>
    intro ds vs σ Δ Δ' Q h r sr w k
    cases ds with
    | nil => simp [setAll] at h
    | cons d ds =>
      obtain ⟨v, rr, rfl, h1, h2⟩ := Reps.cons_iff.mp r
      obtain ⟨q1, q2⟩ := ih ds rr (σ.set i (some v)) (Δ.set i (some d)) Δ' Q h h2 (sr.set h1 i) w (fun σ' z1 z2 z3 => k σ' z1 (fun j hj => by
        rw [z2 j (fun z => hj (List.mem_cons_of_mem _ z)), List.getElem?_set_ne]
        intro e
        exact hj (by simp [e])) (by rw [z3]; simp))
      exact ⟨⟨v, rr, rfl, q1⟩, by rw [List.length_cons, List.length_cons, q2]⟩
theorem lkg_tup (is : List Nat) : LkG g (gTup g.K is.length (gNames is)) (dgT is) is := by
  intro d v σ Δ F O H P Q hG rv sr w k
  cases d with
  | tup ds =>
    obtain ⟨p, vs, rfl, h1, h2⟩ := Rep.tup_iff.mp rv
    have hG : (match setAll is ds Δ with | some Δ' => P Δ' | none => False) := hG
    split at hG
    · rename_i Δ' e
      obtain ⟨q1, q2⟩ := lkg_names is ds vs σ Δ Δ' Q e h2 sr w (fun σ' z1 z2 z3 => k _ σ' hG z1 z2 z3)
      exact ⟨p, vs, rfl, sqt_same w.same h1, q2, q1⟩
    · exact hG.elim
  | _ => exact hG.elim

/-! ### for -/
def forD (Gd : DG) (B : DS) (E : DEnds) : List D → Sl → Sto → Prop
  | [], Δ, O => E.nx Δ O
  | d :: r, Δ, O => Gd d Δ fun Δ' => B { E with nx := forD Gd B E r, ct := forD Gd B E r, bk := E.nx } Δ' O
def dFor (R : DA) (G : DG) (B : DS) : DS := fun D Δ O => R Δ O (fun ds O1 => forD G B D ds Δ O1) (fun x O1 => D.xc x Δ O1)
theorem qs_for {iter : Expr} {body : List Stmt} {t : TG} {Gd : DG} {js : List Nat} {B : DS} (hp : PassesOwn (model X.prog X.w) X.A X.env X.xe) (hi : PI X tg iter (li g W R)) (hg : PG X tg t) (lk : LkG g t Gd js) (hb : PSs X body (ls g W B)) (hc : X.calm = true := by rfl)
    (hs : ∀ x, foldedSetIterable iter X.env x = pure x := by intro _; rfl) : PS X (.For tg iter body [] pos) (ls g W (dFor R Gd B)) := by
  refine ps_imp (ps_for hp hc hi hg hb hs) fun E σ H ⟨D, Δ, O, F, hT, sr, w, ho⟩ => ?_
  refine ⟨Δ, O, _, _, F, hT, sr, w, fun ds O1 F1 H1 J hP s1 w1 gv => ?_, ho.toX sr⟩
  refine ⟨fun i m σ H => m = ds.length - i ∧ i ≤ ds.length ∧ ∃ Δ O F', Same F1 F' ∧ SRel g F' σ Δ ∧ Wd g F' O H ∧ forD Gd B D (ds.drop i) Δ O, ⟨ds.length, by simp, Nat.zero_le _, Δ, O1, F1, Same.refl F1, sr.mono s1, w1, by simpa using hP⟩, ?_⟩
  rintro i m σ2 H2 ⟨rfl, hi, Δ2, O2, F2, s2, sr2, w2, hF⟩
  by_cases hlt : i < ds.length
  · obtain ⟨go, yl⟩ := gv.go i ds[i] F2 O2 H2 (List.getElem?_eq_getElem hlt) s2 w2
    refine .inr ⟨go, fun σ' H' => ∃ Δ O F', Same F1 F' ∧ SRel g F' σ' Δ ∧ Wd g F' O H' ∧ forD Gd B D (ds.drop (i + 1)) Δ O, fun σ' H' q => ⟨ds.length - (i + 1), by omega, rfl, hlt, q⟩, fun x H' y => ?_⟩
    obtain ⟨F3, s3, w3, r3⟩ := yl x H' y
    rw [List.drop_eq_getElem_cons hlt] at hF
    refine lk ds[i] x σ2 Δ2 F3 O2 H' _ _ hF r3 (sr2.mono s3) w3 fun Δ' σ' hB sr' _ _ => ?_
    have s03 : Same F F3 := s1.trans (s2.trans s3)
    refine ⟨_, Δ', O2, F3, hB, sr', w3, ?_⟩
    have nx : ∀ Δ O F' σ H, forD Gd B D (ds.drop (i + 1)) Δ O → Same F3 F' → SRel g F' σ Δ → Wd g F' O H → ∃ Δ O F', Same F1 F' ∧ SRel g F' σ Δ ∧ Wd g F' O H ∧ forD Gd B D (ds.drop (i + 1)) Δ O :=
      fun Δ O F' σ H q s sr w => ⟨Δ, O, F', (s2.trans s3).trans s, sr, w, q⟩
    exact ⟨nx, ho.rt.mono s03, fun Δ O F' σ H q s => (ho.mono s03).nx Δ O F' σ H q s, nx, (ho.mono s03).xc⟩
  · have e : i = ds.length := by omega
    subst e
    refine .inl ⟨gv.stop _ F2 O2 H2 (Nat.le_refl _) s2 w2, ?_⟩
    rw [List.drop_length] at hF
    exact ho.nx _ _ _ _ _ hF (s1.trans s2) sr2 w2
end
end G

set_option Elab.async false
set_option linter.all false
set_option maxRecDepth 100000
set_option maxHeartbeats 4000000
namespace G
open PySem L2
/-! ## comprehensions -/
def wipeD (Δ : Sl) : List Nat → Sl
  | [] => Δ
  | v :: vs => (wipeD Δ vs).set v none
theorem SRel.setNone {g : Gm} {F : Hp} {σ : St} {Δ : Sl} (h : SRel g F σ Δ) (i : Nat) : SRel g F (σ.set i none) (Δ.set i none) := by
  refine ⟨by rw [List.length_set, List.length_set, h.1], fun j e q => ?_⟩
  rw [List.getElem?_set] at q ⊢
  by_cases z : i = j
  · subst z
    rw [if_pos rfl] at q
    by_cases y : i < Δ.length
    · rw [if_pos y] at q
      cases q
    · rw [if_neg y] at q
      cases q
  · rw [if_neg z] at q ⊢
    exact h.2 j e q
theorem SRel.wipe {g : Gm} {F : Hp} {σ : St} {Δ : Sl} (h : SRel g F σ Δ) : ∀ vs : List Nat, SRel g F (L2.wipe σ vs) (wipeD Δ vs)
  | [] => h
  | v :: vs => (SRel.wipe h vs).setNone v
theorem wipe_at (σ : St) : ∀ (vs : List Nat) (i : Nat), (L2.wipe σ vs)[i]? = if i ∈ vs then (if i < σ.length then some none else none) else σ[i]?
  | [], i => by simp [L2.wipe]
  | v :: vs, i => by
    show ((L2.wipe σ vs).set v none)[i]? = _
    rw [List.getElem?_set]
    by_cases z : v = i
    · subst z
      rw [if_pos rfl, L2.wipe_length]
      simp
    · rw [if_neg z, wipe_at σ vs i]
      have e : (i ∈ v :: vs) ↔ i ∈ vs := by
        rw [List.mem_cons]
        exact ⟨fun h => h.elim (fun q => absurd q.symm z) id, .inr⟩
      simp only [e]
theorem wipe_wipe {σ τ : St} {vs : List Nat} (hl : τ.length = (L2.wipe σ vs).length) (h : ∀ i : Nat, i ∉ vs → τ[i]? = (L2.wipe σ vs)[i]?) : L2.wipe τ vs = L2.wipe σ vs := by
  apply List.ext_getElem?
  intro i
  rw [wipe_at, wipe_at]
  rw [L2.wipe_length] at hl
  by_cases z : i ∈ vs
  · rw [if_pos z, if_pos z, hl]
  · rw [if_neg z, if_neg z, h i z, wipe_at, if_neg z]

/-- [e for t in .. if c]: what is left to walk, what has been made (it stands at p) -/
def lcD (Gd : DG) (Tt : DT) (Te : DE) (p : Addr) (P : List D → Sto → Prop) : List D → List D → Sl → Sto → Prop
  | [], acc, _, O => P acc O
  | x :: r, acc, Δ, O => Gd x Δ fun Δ' => Tt Δ' ((p, .lst acc) :: O) (fun k O1 => if k = true
      then Te Δ' O1 (fun y O2 => ∃ O3, O2 = (p, .lst acc) :: O3 ∧ lcD Gd Tt Te p P r (acc ++ [y]) Δ O3) (fun _ _ => False)
      else ∃ O3, O1 = (p, .lst acc) :: O3 ∧ lcD Gd Tt Te p P r acc Δ O3) (fun _ _ => False)
def dLc (R : DA) (Gd : DG) (Tt : DT) (Te : DE) (vs : List Nat) : DE := fun Δ O P E => R Δ O (fun ds O1 => ds.length ≤ 1000000 ∧ ∀ p, freshC O1 p → lcD Gd Tt Te p (fun acc O2 => P (.lst acc) O2) ds [] (wipeD Δ vs) O1) E
/-- the list made is owned -/
def dLcO (R : DA) (Gd : DG) (Tt : DT) (Te : DE) (vs : List Nat) : DE := fun Δ O P E => R Δ O (fun ds O1 => ds.length ≤ 1000000 ∧ ∀ p, freshC O1 p → lcD Gd Tt Te p (fun acc O2 => P (.ptr p) ((p, .lst acc) :: O2)) ds [] (wipeD Δ vs) O1) E
abbrev W0 : WX := fun _ _ _ _ => False
section
variable {g : Gm} {X : Cx} {W : WX} {pos pos' : Pos} {a b c tg : Expr} {Ta Tb : DE} {tA tB : DT} {R : DA}
theorem xok0 {F : Hp} {σ : St} : XOk g F W0 σ (fun _ _ => False) := fun x O cls dd F' H q _ _ _ => q
theorem tlc_of {t : TG} {Gd : DG} {js vs : List Nat} {Tt : DT} {Te : DE} (lk : LkG g t Gd js) (hjs : ∀ j ∈ js, j ∈ vs) {PL : Addr → List D → Sto → Prop} {σ : St} {H : Hp} {Q : VK} {Δ : Sl} {O : Sto} {F : Hp} {J : It} {ds : List D}
    (hT : ds.length ≤ 1000000 ∧ ∀ p, freshC O p → lcD Gd Tt Te p (PL p) ds [] (wipeD Δ vs) O) (sr : SRel g F σ Δ) (w : Wd g F O H) (gv : Gives g F J ds)
    (hQ : ∀ p acc O1 F1 H1, PL p acc O1 → Same F F1 → Wd g F1 ((p, .lst acc) :: O1) H1 → Q (.ref p) H1) :
    ∀ Dl, H Dl = none → ∃ W : Nat → Nat → Hp → Prop, (∃ m, W 0 m (upd H Dl (.lst []))) ∧ ∀ i m H, W i m H →
      (J.stop i H ∧ Q (.ref Dl) H) ∨ (J.go i H ∧ ∃ Nx : Hp → Prop, (∀ H', Nx H' → ∃ m', m' < m ∧ W (i + 1) m' H') ∧ ∀ x H', J.yld i H x H' → t x (L2.wipe σ vs) H' fun σ2 H2 => L2.wipe σ2 vs = L2.wipe σ vs ∧ lt g W0 Tt σ2 H2 fun b H3 =>
        if b = true then le g W0 Te σ2 H3 fun y H4 => ∃ acc, H4 Dl = some (.lst acc) ∧ acc.length < sizeLine ∧ Nx (upd H4 Dl (.lst (acc ++ [y]))) else Nx H3) := by
  intro p hp
  obtain ⟨hz, hT⟩ := hT
  have hT := hT p (w.fresh hp)
  refine ⟨fun i m H => m = ds.length - i ∧ i ≤ ds.length ∧ ∃ acc O1 F', acc.length ≤ i ∧ Same F F' ∧ Wd g F' ((p, .lst acc) :: O1) H ∧ lcD Gd Tt Te p (PL p) (ds.drop i) acc (wipeD Δ vs) O1,
    ⟨ds.length, by simp, Nat.zero_le _, [], O, F, Nat.le_refl _, Same.refl F, w.own (c := .lst []) (o := .lst []) hp (Reps.nil (g := g) (F := F)), by simpa using hT⟩, ?_⟩
  rintro i m H2 ⟨rfl, hi, acc, O2, F2, ha, s2, w2, hL⟩
  by_cases hlt : i < ds.length
  · obtain ⟨go, yl⟩ := gv.go i ds[i] F2 _ H2 (List.getElem?_eq_getElem hlt) s2 w2
    refine .inr ⟨go, fun H' => ∃ acc O1 F', acc.length ≤ i + 1 ∧ Same F F' ∧ Wd g F' ((p, .lst acc) :: O1) H' ∧ lcD Gd Tt Te p (PL p) (ds.drop (i + 1)) acc (wipeD Δ vs) O1, fun H' q => ⟨ds.length - (i + 1), by omega, rfl, hlt, q⟩, fun x H' y => ?_⟩
    obtain ⟨F3, s3, w3, r3⟩ := yl x H' y
    rw [List.drop_eq_getElem_cons hlt] at hL
    refine lk ds[i] x (L2.wipe σ vs) (wipeD Δ vs) F3 _ H' _ _ hL r3 ((sr.wipe vs).mono (s2.trans s3)) w3 fun Δ' σ' hB sr' ho hl => ⟨wipe_wipe hl fun j hj => ho j fun q => hj (hjs j q), ?_⟩
    refine lt_bind hB sr' w3 xok0 fun k O4 F4 H4 hT4 s4 sr4 w4 hx4 => ?_
    cases k with
    | true =>
      rw [if_pos rfl] at hT4 ⊢
      refine le_bind hT4 sr4 w4 hx4 fun y O5 vy F5 H5 hT5 s5 sr5 w5 ry hx5 => ?_
      obtain ⟨O6, e6, hT6⟩ := hT5
      subst e6
      obtain ⟨_, ob, h1, h2⟩ := w5.cel (p, .lst acc) List.mem_cons_self
      cases ob with
      | lst vs' =>
        have h2 : Reps g F5 acc vs' := h2
        refine ⟨vs', h1, ?_, acc ++ [y], O6, F5, ?_, s2.trans (s3.trans (s4.trans s5)), ?_, hT6⟩
        · rw [← h2.length, sizeLine_eq]
          omega
        · rw [List.length_append, List.length_singleton]
          omega
        · have z := w5.set (a := p) (c := .lst acc) (c' := .lst (acc ++ [y])) (o := .lst (vs' ++ [vy])) (by simp [getC]) (h2.append (Reps.one ry))
          simpa [setC] using z
      | _ => exact h2.elim
    | false =>
      rw [if_neg Bool.false_ne_true] at hT4 ⊢
      obtain ⟨O6, e6, hT6⟩ := hT4
      subst e6
      exact ⟨acc, O6, F4, by omega, s2.trans (s3.trans s4), w4, hT6⟩
  · have e : i = ds.length := by omega
    subst e
    rw [List.drop_length] at hL
    exact .inl ⟨gv.stop _ F2 _ H2 (Nat.le_refl _) s2 w2, hQ p acc O2 F2 H2 hL s2 w2⟩
theorem q_lc {elt iter : Expr} {ifs : List Expr} {scope : Scope} {own : List (Str × Nat)} {t : TG} {Gd : DG} {js : List Nat} {Tt : DT} {Te : DE} (hN : X.N.Nodup) (hi : PI X tg iter (li g W R)) (ok : BlkOk X.N X.env.scope scope own)
    (hg : ∀ (s : Shared) (H : Hp) (C : Addr) (cl : List (Str × Addr)) (fp : List Addr), PG (X.blk s H scope (compEnvC scope cl C X.env) fp) tg t) (lk : LkG g t Gd js) (ht : ∀ (s : Shared) (H : Hp) (C : Addr) (cl : List (Str × Addr)) (fp : List Addr), PTs (X.blk s H scope (compEnvC scope cl C X.env) fp) ifs (lt g W0 Tt))
    (he : ∀ (s : Shared) (H : Hp) (C : Addr) (cl : List (Str × Addr)) (fp : List Addr), PE (X.blk s H scope (compEnvC scope cl C X.env) fp) elt (le g W0 Te)) (hc : X.calm = true := by rfl) (hjs : ∀ j ∈ js, j ∈ own.map (·.2) := by decide) (hs : ∀ x, foldedSetIterable iter X.env x = pure x := by intro _; rfl) :
    PE X (.ListComp elt [⟨tg, iter, ifs, 0⟩] scope pos) (le g W (dLc R Gd Tt Te (own.map (·.2)))) := by
  refine pe_imp (pe_lc hc hN hi ok hg ht he hs) fun σ H Q h => ?_
  obtain ⟨Δ, O, P, E, F, hT, sr, w, hv, hx⟩ := h
  refine ⟨Δ, O, _, _, F, hT, sr, w, fun ds O1 F1 H1 J hP s1 w1 gv => ?_, hx⟩
  refine tlc_of (PL := fun _ acc O2 => P (.lst acc) O2) lk hjs hP (sr.mono s1) w1 gv fun p acc O2 F2 H2 hp s2 w2 => ?_
  obtain ⟨o, ho, hc, s3, w3⟩ := w2.freeze (a := p) (c := .lst acc) (by simp [getC])
  exact hv _ _ _ _ _ hp (s1.trans (s2.trans s3)) (by simpa [delC] using w3) (frz_rep rfl hc (w2.cel _ List.mem_cons_self).1)
theorem q_lcO {elt iter : Expr} {ifs : List Expr} {scope : Scope} {own : List (Str × Nat)} {t : TG} {Gd : DG} {js : List Nat} {Tt : DT} {Te : DE} (hN : X.N.Nodup) (hi : PI X tg iter (li g W R)) (ok : BlkOk X.N X.env.scope scope own)
    (hg : ∀ (s : Shared) (H : Hp) (C : Addr) (cl : List (Str × Addr)) (fp : List Addr), PG (X.blk s H scope (compEnvC scope cl C X.env) fp) tg t) (lk : LkG g t Gd js) (ht : ∀ (s : Shared) (H : Hp) (C : Addr) (cl : List (Str × Addr)) (fp : List Addr), PTs (X.blk s H scope (compEnvC scope cl C X.env) fp) ifs (lt g W0 Tt))
    (he : ∀ (s : Shared) (H : Hp) (C : Addr) (cl : List (Str × Addr)) (fp : List Addr), PE (X.blk s H scope (compEnvC scope cl C X.env) fp) elt (le g W0 Te)) (hc : X.calm = true := by rfl) (hjs : ∀ j ∈ js, j ∈ own.map (·.2) := by decide) (hs : ∀ x, foldedSetIterable iter X.env x = pure x := by intro _; rfl) :
    PE X (.ListComp elt [⟨tg, iter, ifs, 0⟩] scope pos) (le g W (dLcO R Gd Tt Te (own.map (·.2)))) := by
  refine pe_imp (pe_lc hc hN hi ok hg ht he hs) fun σ H Q h => ?_
  obtain ⟨Δ, O, P, E, F, hT, sr, w, hv, hx⟩ := h
  refine ⟨Δ, O, _, _, F, hT, sr, w, fun ds O1 F1 H1 J hP s1 w1 gv => ?_, hx⟩
  refine tlc_of (PL := fun p acc O2 => P (.ptr p) ((p, .lst acc) :: O2)) lk hjs hP (sr.mono s1) w1 gv fun p acc O2 F2 H2 hp s2 w2 => ?_
  exact hv _ _ _ _ _ hp (s1.trans s2) w2 (Rep.ptr_iff.mpr rfl)
def dYes : DT := fun _ O P _ => P true O
theorem qts_nil : PTs X [] (lt g W dYes) := ⟨fun pins s σ H Q I h => pts_nil.run pins s σ H Q I (by
  obtain ⟨Δ, O, P, E, F, hT, sr, w, hv, hx⟩ := h
  exact hv.now hT w)⟩
theorem qts_one (h : PT X c (lt g W tA)) : PTs X [c] (lt g W tA) := pts_one h
/-- y = [..] on one line -/
theorem qs_asgLc {i : Nat} {y : Str} {py spos : Pos} {elt iter : Expr} {ifs : List Expr} {scope : Scope} {own : List (Str × Nat)} {t : TG} {Gd : DG} {js : List Nat} {Tt : DT} {Te : DE} (hN : X.N.Nodup) (hi : PI X tg iter (li g W R)) (ok : BlkOk X.N X.env.scope scope own)
    (hg : ∀ (s : Shared) (H : Hp) (C : Addr) (cl : List (Str × Addr)) (fp : List Addr), PG (X.blk s H scope (compEnvC scope cl C X.env) fp) tg t) (lk : LkG g t Gd js) (ht : ∀ (s : Shared) (H : Hp) (C : Addr) (cl : List (Str × Addr)) (fp : List Addr), PTs (X.blk s H scope (compEnvC scope cl C X.env) fp) ifs (lt g W0 Tt))
    (he : ∀ (s : Shared) (H : Hp) (C : Addr) (cl : List (Str × Addr)) (fp : List Addr), PE (X.blk s H scope (compEnvC scope cl C X.env) fp) elt (le g W0 Te))
    (h : PS X (.Assign [.Name y py] (.ListComp elt [⟨tg, iter, ifs, 0⟩] scope pos) spos) (tAsg (tLc (li g W R) t (lt g W0 Tt) (le g W0 Te) (own.map (·.2))) (gName i))) (hjs : ∀ j ∈ js, j ∈ own.map (·.2) := by decide) :
    PS X (.Assign [.Name y py] (.ListComp elt [⟨tg, iter, ifs, 0⟩] scope pos) spos) (ls g W (dAsg i (dLc R Gd Tt Te (own.map (·.2))))) := by
  refine ps_imp h fun En σ H ⟨D, Δ, O, F, hT, sr, w, ho⟩ => ?_
  refine ⟨Δ, O, _, _, F, hT, sr, w, fun ds O1 F1 H1 J hP s1 w1 gv => ?_, ho.toX sr⟩
  refine tlc_of (Q := fun x H1 => gName i x σ H1 En.nx) (PL := fun _ acc O2 => D.nx (Δ.set i (some (.lst acc))) O2) lk hjs hP (sr.mono s1) w1 gv fun p acc O2 F2 H2 hp s2 w2 => ?_
  obtain ⟨o, ho', hc, s3, w3⟩ := w2.freeze (a := p) (c := .lst acc) (by simp [getC])
  have s := s1.trans (s2.trans s3)
  exact ho.nx _ _ _ _ _ hp s ((sr.mono s).set (frz_rep rfl hc (w2.cel _ List.mem_cons_self).1) i) (by simpa [delC] using w3)
/-- .. the list made is owned -/
theorem qs_asgLcO {i : Nat} {y : Str} {py spos : Pos} {elt iter : Expr} {ifs : List Expr} {scope : Scope} {own : List (Str × Nat)} {t : TG} {Gd : DG} {js : List Nat} {Tt : DT} {Te : DE} (hN : X.N.Nodup) (hi : PI X tg iter (li g W R)) (ok : BlkOk X.N X.env.scope scope own)
    (hg : ∀ (s : Shared) (H : Hp) (C : Addr) (cl : List (Str × Addr)) (fp : List Addr), PG (X.blk s H scope (compEnvC scope cl C X.env) fp) tg t) (lk : LkG g t Gd js) (ht : ∀ (s : Shared) (H : Hp) (C : Addr) (cl : List (Str × Addr)) (fp : List Addr), PTs (X.blk s H scope (compEnvC scope cl C X.env) fp) ifs (lt g W0 Tt))
    (he : ∀ (s : Shared) (H : Hp) (C : Addr) (cl : List (Str × Addr)) (fp : List Addr), PE (X.blk s H scope (compEnvC scope cl C X.env) fp) elt (le g W0 Te))
    (h : PS X (.Assign [.Name y py] (.ListComp elt [⟨tg, iter, ifs, 0⟩] scope pos) spos) (tAsg (tLc (li g W R) t (lt g W0 Tt) (le g W0 Te) (own.map (·.2))) (gName i))) (hjs : ∀ j ∈ js, j ∈ own.map (·.2) := by decide) :
    PS X (.Assign [.Name y py] (.ListComp elt [⟨tg, iter, ifs, 0⟩] scope pos) spos) (ls g W (dAsg i (dLcO R Gd Tt Te (own.map (·.2))))) := by
  refine ps_imp h fun En σ H ⟨D, Δ, O, F, hT, sr, w, ho⟩ => ?_
  refine ⟨Δ, O, _, _, F, hT, sr, w, fun ds O1 F1 H1 J hP s1 w1 gv => ?_, ho.toX sr⟩
  refine tlc_of (Q := fun x H1 => gName i x σ H1 En.nx) (PL := fun p acc O2 => D.nx (Δ.set i (some (.ptr p))) ((p, .lst acc) :: O2)) lk hjs hP (sr.mono s1) w1 gv fun p acc O2 F2 H2 hp s2 w2 => ?_
  have s := s1.trans s2
  exact ho.nx _ _ _ _ _ hp s ((sr.mono s).set (Rep.ptr_iff.mpr rfl) i) w2
end

/-! ## calls -/
abbrev DSp := List D → Sto → KD → KX → Prop
def toSp (g : Gm) (S : DSp) : Sp := fun vs H Q E => ∃ F O ds P EX, Reps g F ds vs ∧ Wd g F O H ∧ S ds O P EX ∧ VOk g F P Q ∧ ∀ x O' cls dd F' H', EX x O' → Same F F' → Wd g F' O' H' → RelX g F' cls dd x → E cls dd H'
/-- the def at f keeps the promise S, by level k -/
def FN (g : Gm) (P : Program) (w : World) (K : PySem.W.Frag) (mg : Str → Option Value) (base : Heap) (k : Nat) (f : Addr) (S : DSp) : Prop := FnR P w K mg base (L2.CX P w) k f (toSp g S)
theorem FN.mono {g : Gm} {P : Program} {w : World} {K : PySem.W.Frag} {mg : Str → Option Value} {base : Heap} {j k : Nat} {f : Addr} {S : DSp} (h : FN g P w K mg base j f S) (hj : j ≤ k) : FN g P w K mg base k f S :=
  fun A outer s H us vs Q E hr => h A outer s H us vs Q E (hr.mono hj)
theorem FN.imp {g : Gm} {P : Program} {w : World} {K : PySem.W.Frag} {mg : Str → Option Value} {base : Heap} {k : Nat} {f : Addr} {S S' : DSp} (h : FN g P w K mg base k f S) (hS : ∀ ds O P E, S' ds O P E → S ds O P E) : FN g P w K mg base k f S' :=
  fun A outer s H us vs Q E hr e0 hv ⟨F, O, ds, P, EX, h1, h2, h3, h4⟩ => h A outer s H us vs Q E hr e0 hv ⟨F, O, ds, P, EX, h1, h2, hS _ _ _ _ h3, h4⟩
section
variable {g : Gm} {X : Cx} {W : WX} {pos pos' p apos : Pos} {a b c o : Expr} {es : List Expr} {Ta Tb : DE} {R : DA} {k : Nat} {f : Addr} {S : DSp} {x m : Str}
theorem run_FN {pins : List (Addr × Obj)} {σ : St} {H : Hp} {s : Shared} {Q : VK} {us : List Value} {vs : List V} (Fn : FN g X.prog X.w X.K X.mg X.base k f S) (hr : Room k X.A) (tk : Takes X W) (I : Inv X pins σ H s) (r : Vals vs us)
    (h : toSp g S vs H Q (fun cls dd H' => W cls dd σ H')) : codeAny (model X.prog X.w) X.A (.call (.ref f) ⟨us, []⟩) (fun r s' => match r with | .ok (.ret v) => EP X pins σ Q v s' | .ok _ => False | .error e => X.xe e s') s := by
  refine codeAny_mono (Fn X.A X.stack s H us vs Q _ hr I.env0 r h) fun r s' hq => ?_
  cases r with
  | error e => exact passAt tk σ pins H s e s' I hq
  | ok fl =>
    cases fl with
    | ret u => exact I.after hq
    | next => exact False.elim hq
    | brk => exact False.elim hq
    | cont => exact False.elim hq
def dCall (S : DSp) (R : DA) : DE := fun Δ O P E => R Δ O (fun ds O1 => S ds O1 P E) E
theorem sp_of {σ : St} {H1 : Hp} {Q : VK} {P : KD} {E : KX} {F F1 : Hp} {O1 : Sto} {ds : List D} {vs : List V} (h : S ds O1 P E) (rs : Reps g F1 ds vs) (w1 : Wd g F1 O1 H1) (hv : VOk g F P Q) (s1 : Same F F1) (hx : XOk g F1 W σ E) :
    toSp g S vs H1 Q (fun cls dd H' => W cls dd σ H') := ⟨F1, O1, ds, P, E, rs, w1, h, hv.mono s1, hx⟩
theorem q_call (Fn : FN g X.prog X.w X.K X.mg X.base k f S) (hr : Room k X.A) (tk : Takes X W) (hm : X.mg x = some (.ref f)) (hk : PySem.W.keepIn X.K (.ref f) = true) (ha : PA X (a :: es) (la g W R)) (hg : Gl X x := by rfl)
    (hdb : (x == ("__debug__" : Str)) = false := by decide) (he : starEach (a :: es) X.env = (false, eval a X.env) :: starEach es X.env := by rfl) (hpl : (backTo pos (starEach es X.env)).any (·.1) = false := by rfl) :
    PE X (.Call (.Name x p) (a :: es) [] pos) (le g W (dCall S R)) := by
  refine ⟨fun pins s σ H Q I h => ?_⟩
  obtain ⟨Δ, O, P, E, F, hT, sr, w, hv, hx⟩ := h
  refine wpAny_Call_Name_kw (ld_glob I hg hm ?_ hdb)
  refine PySem.W.callWith_K (h₀ := X.base) I.ok.mod.kin hk (thn (ha.run pos pins s σ H _ I (la_bind (Q := fun vs H1 => toSp g S vs H1 Q fun cls dd H' => W cls dd σ H') hT sr w hx fun ds O1 vs F1 H1 hT1 s1 sr1 w1 rs hx1 => sp_of hT1 rs w1 hv s1 hx1)) fun us s1 ⟨vs, H1, I1, r, q⟩ => ⟨I1.kIn, ?_⟩) he hpl
  exact wpAny_call (run_FN Fn hr tk I1 r q)
theorem q_call0 (Fn : FN g X.prog X.w X.K X.mg X.base k f S) (hr : Room k X.A) (tk : Takes X W) (hm : X.mg x = some (.ref f)) (hk : PySem.W.keepIn X.K (.ref f) = true) (hg : Gl X x := by rfl)
    (hdb : (x == ("__debug__" : Str)) = false := by decide) : PE X (.Call (.Name x p) [] [] pos) (le g W (dCall S dNil)) := by
  refine ⟨fun pins s σ H Q I h => ?_⟩
  obtain ⟨Δ, O, P, E, F, hT, sr, w, hv, hx⟩ := h
  refine wpAny_Call_Name_kw (ld_glob I hg hm ?_ hdb)
  exact PySem.W.callWith_K0 I.kIn hk (wpAny_call (run_FN Fn hr tk I .nil (sp_of hT Reps.nil w hv (Same.refl F) hx)))

/-! ### a new object -/
def dMake (cl : Cl) (S : DSp) (R : DA) : DE := fun Δ O P E => R Δ O (fun ds O1 => ∀ q, freshC O1 q → S (.ptr q :: ds) ((q, .ins cl [] []) :: O1)
  (fun r O2 => r = .non ∧ (match getC O2 q with | some (.ins c' fs ds') => P (.obj c' fs ds') (delC O2 q) | _ => False)) (fun x O2 => E x (delC O2 q))) E
/-- .. that will change -/
def dMakeO (cl : Cl) (S : DSp) (R : DA) : DE := fun Δ O P E => R Δ O (fun ds O1 => ∀ q, freshC O1 q → S (.ptr q :: ds) ((q, .ins cl [] []) :: O1)
  (fun r O2 => r = .non ∧ P (.ptr q) O2) (fun x O2 => E x (delC O2 q))) E
theorem wd_made {F : Hp} {O : Sto} {H : Hp} (w : Wd g F O H) {x dx : Addr} (hx : H x = none) (hd : H dx = none) (ne : dx ≠ x) (cl : Cl) :
    Same F (upd F dx (.own x)) ∧ Wd g (upd F dx (.own x)) ((x, .ins cl [] []) :: O) (upd (upd H dx (.own x)) x (.ins (g.ca cl) dx [])) :=
  ⟨w.fsame hd, (w.frozen (o := .own x) hd).own (c := .ins cl [] []) (o := .ins (g.ca cl) dx []) (by rw [upd_ne ne.symm]; exact hx) ⟨rfl, rfl, [], rfl, Reps.nil (g := g)⟩⟩
theorem run_mk {C : Addr} {pins : List (Addr × Obj)} {σ : St} {H : Hp} {s : Shared} {Q : VK} {us : List Value} {vs : List V} (M : Mk X.K C f) (Fn : FN g X.prog X.w X.K X.mg X.base k f S) (hr : Room (k + 1) X.A) (tk : Takes X W) (I : Inv X pins σ H s) (r : Vals vs us)
    (h : ∀ x dx, H x = Option.none → H dx = Option.none → dx ≠ x → toSp g S (V.ref x :: vs) (upd (upd H dx (.own x)) x (.ins C dx [])) (fun v H2 => v = .non ∧ Q (.ref x) H2) (fun cls dd H' => W cls dd σ H')) :
    wpAny (model X.prog X.w) X.A (call (.ref C) us) (EP X pins σ Q) X.xe s := by
  have hq := h (s.heap.objs.size + 1) s.heap.objs.size (I.hok.fresh (Nat.le_succ _)) (I.hok.fresh (Nat.le_refl _)) (Nat.ne_of_lt (Nat.lt_succ_self _))
  have I2 := Inv.made (C := C) I
  have r2 : Vals (V.ref (s.heap.objs.size + 1) :: vs) (Value.ref (s.heap.objs.size + 1) :: us) := .cons rfl r
  refine wpAny_call (make_map (f := f) I.kIn M.makes M.init (beq_iff_eq.mp M.fn) (codeAny_mono (Fn _ X.stack _ _ (Value.ref (s.heap.objs.size + 1) :: us) _ _ _ (hr.make C us []) (I2.env0.make C us []) r2 hq) fun r s' hq' => ?_))
  cases r with
  | error e => exact passAt tk σ pins _ _ e s' I2 hq'
  | ok fl =>
    cases fl with
    | ret u =>
      obtain ⟨v, H', I3, rv, ev, q3⟩ := I2.after hq'
      subst ev
      exact ⟨rv, ⟨V.ref (s.heap.objs.size + 1), H', I3, rfl, q3⟩⟩
    | next => exact False.elim hq'
    | brk => exact False.elim hq'
    | cont => exact False.elim hq'
theorem mk_sp {cl : Cl} {σ : St} {H1 : Hp} {Q : VK} {P : KD} {E : KX} {F F1 : Hp} {O1 : Sto} {ds : List D} {vs : List V}
    (h : ∀ q, freshC O1 q → S (.ptr q :: ds) ((q, .ins cl [] []) :: O1) (fun r O2 => r = .non ∧ (match getC O2 q with | some (.ins c' fs ds') => P (.obj c' fs ds') (delC O2 q) | _ => False)) (fun x O2 => E x (delC O2 q)))
    (rs : Reps g F1 ds vs) (w1 : Wd g F1 O1 H1) (hv : VOk g F P Q) (s1 : Same F F1) (hx : XOk g F1 W σ E) (x dx : Addr) (nx : H1 x = none) (nd : H1 dx = none) (ne : dx ≠ x) :
    toSp g S (V.ref x :: vs) (upd (upd H1 dx (.own x)) x (.ins (g.ca cl) dx [])) (fun v H2 => v = .non ∧ Q (.ref x) H2) (fun cls dd H' => W cls dd σ H') := by
  obtain ⟨s2, w2⟩ := wd_made w1 nx nd ne cl
  refine ⟨_, _, _, _, _, Reps.cons (Rep.ptr_iff.mpr rfl) (rs.mono s2), w2, h x (w1.fresh nx), fun d O3 v F3 H3 hd s3 w3 rd => ?_, fun y O3 cls dd F3 H3 hE s3 w3 rx => ?_⟩
  · obtain ⟨e, hd⟩ := hd
    subst e
    refine ⟨Rep.non_iff.mp rd, ?_⟩
    split at hd
    · rename_i c' fs ds' eg
      obtain ⟨ob, ho, hc, s4, w4⟩ := w3.freeze eg
      exact hv _ _ _ _ _ hd (s1.trans (s2.trans (s3.trans s4))) w4 (frz_rep rfl hc (w3.get eg).1)
    · exact hd.elim
  · exact hx _ _ _ _ _ _ hE (s2.trans s3) (w3.sub (delC_sub _ _)) rx
theorem q_make {cl : Cl} (M : Mk X.K (g.ca cl) f) (Fn : FN g X.prog X.w X.K X.mg X.base k f S) (hr : Room (k + 1) X.A) (tk : Takes X W) (hm : X.mg x = some (.ref (g.ca cl))) (ha : PA X (a :: es) (la g W R)) (hg : Gl X x := by rfl)
    (hdb : (x == ("__debug__" : Str)) = false := by decide) (he : starEach (a :: es) X.env = (false, eval a X.env) :: starEach es X.env := by rfl) (hpl : (backTo pos (starEach es X.env)).any (·.1) = false := by rfl) :
    PE X (.Call (.Name x p) (a :: es) [] pos) (le g W (dMake cl S R)) := by
  refine ⟨fun pins s σ H Q I h => ?_⟩
  obtain ⟨Δ, O, P, E, F, hT, sr, w, hv, hx⟩ := h
  refine wpAny_Call_Name_kw (ld_glob I hg hm ?_ hdb)
  refine PySem.W.callWith_K (h₀ := X.base) I.ok.mod.kin M.kp (thn (ha.run pos pins s σ H _ I (la_bind (Q := fun vs H1 => ∀ x dx, H1 x = none → H1 dx = none → dx ≠ x → toSp g S (V.ref x :: vs) (upd (upd H1 dx (.own x)) x (.ins (g.ca cl) dx [])) (fun v H2 => v = .non ∧ Q (.ref x) H2) fun cls dd H' => W cls dd σ H') hT sr w hx
    fun ds O1 vs F1 H1 hT1 s1 sr1 w1 rs hx1 x dx nx nd ne => mk_sp hT1 rs w1 hv s1 hx1 x dx nx nd ne)) fun us s1 ⟨vs, H1, I1, r, q⟩ => ⟨I1.kIn, ?_⟩) he hpl
  exact run_mk M Fn hr tk I1 r q

/-! ### a method, by the class of its object -/
def clsOf (O : Sto) (d : D) : Option Cl := (objOf O d).map (·.1)
/-- class and method: the def that serves it keeps S -/
structure MOk (g : Gm) (P : Program) (w : World) (K : PySem.W.Frag) (mg : Str → Option Value) (base : Heap) (k : Nat) (cl : Cl) (m : Str) (S : DSp) : Prop where
  cls : Cls K (g.ca cl)
  ex : ∃ f, Meth K (g.ca cl) m f ∧ FN g P w K mg base k f S
def tabAt : List (Cl × DSp) → Cl → Option DSp
  | [], _ => none
  | (c, S) :: r, d => if d = c then some S else tabAt r d
def MTab (g : Gm) (P : Program) (w : World) (K : PySem.W.Frag) (mg : Str → Option Value) (base : Heap) (k : Nat) (m : Str) (tab : List (Cl × DSp)) : Prop := ∀ c S, tabAt tab c = some S → MOk g P w K mg base k c m S
def dMeth (tab : List (Cl × DSp)) (To : DE) (R : DA) : DE := fun Δ O P E => To Δ O (fun o O1 => match clsOf O1 o with
  | some c => (match tabAt tab c with | some S => R Δ O1 (fun ds O2 => S (o :: ds) O2 P E) E | none => False)
  | none => False) E
theorem obj_look {F : Hp} {O : Sto} {H : Hp} {d : D} {v : V} {c : Cl} (h : clsOf O d = some c) (r : Rep g F d v) (w : Wd g F O H) (hm : Fd.of m = none) : ∃ q dx fs, v = .ref q ∧ H q = some (.ins (g.ca c) dx fs) ∧ fs.lookup m = none := by
  unfold clsOf at h
  cases e : objOf O d with
  | none => rw [e] at h; cases h
  | some t =>
    rw [e] at h
    cases h
    obtain ⟨q, dx, vs, rfl, h1, h2, h3⟩ := obj_of e r w
    refine ⟨q, dx, _, rfl, h1, getF_none fun f _ z => ?_⟩
    rw [z, Fd.of_str] at hm
    cases hm
theorem q_meth {pl : Sem Bool} {tab : List (Cl × DSp)} (M : MTab g X.prog X.w X.K X.mg X.base k m tab) (hr : Room k X.A) (tk : Takes X W) (ho : PE X o (le g W Ta)) (ha : PA X (a :: es) (la g W R)) (hmf : Fd.of m = none := by decide +kernel) (hK : X.K = g.K := by rfl)
    (hst : starEach (a :: es) X.env = (false, eval a X.env) :: starEach es X.env := by rfl) (hpl : (backTo pos (starEach es X.env)).any (·.1) = false := by rfl)
    (ht : eval (.Call (.Attribute o m apos) (a :: es) [] pos) X.env = (do
      let ov ← eval o X.env
      standAt apos.atName
      let (f, first) ← holding [ov] (getMethod ov m pl)
      callWith pos f first (backTo pos (starEach (a :: es) X.env)) (backToKw pos (keywordEach [] X.env))) := by rfl) :
    PE X (.Call (.Attribute o m apos) (a :: es) [] pos) (le g W (dMeth tab Ta R)) := by
  refine ⟨fun pins s σ H Q I h => ?_⟩
  obtain ⟨Δ, O, P, E, F, hT, sr, w, hv, hx⟩ := h
  refine PySem.W.methodCall_KW (pl := pl) (thn (ho.run pins s σ H _ I (le_bind (Q := fun v H1 => ∃ c q dx fs S, v = .ref q ∧ H1 q = some (.ins (g.ca c) dx fs) ∧ fs.lookup m = none ∧ tabAt tab c = some S ∧ la g W R σ H1 (fun vs H2 => toSp g S (v :: vs) H2 Q fun cls dd H' => W cls dd σ H')) hT sr w hx
    fun d O1 v F1 H1 hT1 s1 sr1 w1 rx hx1 => ?_)) fun u s1 ⟨v, H1, I1, rv, c, q, dx, fs, S, ev, eq1, l, eS, qa⟩ => ?_) ht
  · split at hT1
    · rename_i c e
      obtain ⟨q, dx, fs, rfl, h1, h2⟩ := obj_look e rx w1 hmf
      split at hT1
      · rename_i S eS
        refine ⟨c, q, dx, fs, S, rfl, h1, h2, eS, ?_⟩
        exact la_bind hT1 sr1 w1 hx1 fun ds O2 vs F2 H2 hT2 s2 sr2 w2 rs hx2 => sp_of hT2 (Reps.cons (rx.mono s2) rs) w2 hv (s1.trans s2) hx2
      · exact hT1.elim
    · exact hT1.elim
  · subst ev
    obtain rfl : u = Value.ref q := rv
    obtain ⟨cls, f, mt, Fn⟩ := M c S eS
    refine getmeth_ok I1 eq1 cls mt l ?_
    refine PySem.W.callWith_K (first := [.ref q]) (h₀ := X.base) I.ok.mod.kin mt.kp (thn (ha.run pos pins s1 σ H1 _ I1 qa) fun us s2 ⟨vs, H2, I2, r, q2⟩ => ⟨I2.kIn, ?_⟩) hst hpl
    exact wpAny_call (run_FN (us := .ref q :: us) (vs := .ref q :: vs) Fn hr tk I2 (.cons rfl r) q2)
end
end G

set_option Elab.async false
set_option linter.all false
set_option maxRecDepth 100000
set_option maxHeartbeats 4000000
namespace G
open PySem L2
/-! ## a def keeps its promise -/
def Weak (O O' : Sto) : Prop := ∀ g F H, Wd g F O H → Wd g F O' H
def Opn (O : Sto) (R : Sto → Prop) : Prop := ∀ g F H, Wd g F O H → ∃ O', Wd g F O' H ∧ R O'
theorem Weak.refl (O : Sto) : Weak O O := fun _ _ _ w => w
theorem Weak.sub {O O' : Sto} (h : O'.Sublist O) : Weak O O' := fun _ _ _ w => w.sub h
theorem Weak.trans {O O1 O2 : Sto} (h : Weak O O1) (h' : Weak O1 O2) : Weak O O2 := fun g F H w => h' g F H (h g F H w)
theorem Weak.cons {O : Sto} {c : Addr × Cell} : Weak (c :: O) O := Weak.sub (List.sublist_cons_self _ _)
theorem Weak.cons2 {O O' : Sto} {c : Addr × Cell} (h : Weak O O') : Weak (c :: O) O' := Weak.cons.trans h
theorem Opn.now {O : Sto} {R : Sto → Prop} (h : R O) : Opn O R := fun _ _ _ w => ⟨O, w, h⟩
def boxC (cs : List Int) (i a s : Int) : Cell := .lst [.lst (cs.map D.int), .int i, .int a, .int s]
theorem setC_same {O : Sto} {a : Addr} {c : Cell} (h : getC O a = some c) : setC O a c = O := by
  induction O with
  | nil => rfl
  | cons q r ih =>
    obtain ⟨b, c0⟩ := q
    simp only [getC] at h
    simp only [setC]
    by_cases e : a = b
    · subst e
      simp at h
      subst h
      simp
    · rw [if_neg e] at h ⊢
      rw [ih h]
theorem setC_setC (O : Sto) (a : Addr) (c c' : Cell) : setC (setC O a c) a c' = setC O a c' := by
  induction O with
  | nil => rfl
  | cons q r ih =>
    obtain ⟨b, c0⟩ := q
    simp only [setC]
    by_cases e : a = b
    · subst e
      simp [setC]
    · rw [if_neg e, if_neg e]
      simp [setC, e, ih]
theorem getC_setC {O : Sto} {a : Addr} {c c' : Cell} (h : getC O a = some c) : getC (setC O a c') a = some c' := by
  induction O with
  | nil => simp [getC] at h
  | cons q r ih =>
    obtain ⟨b, c0⟩ := q
    simp only [getC] at h
    simp only [setC]
    by_cases e : a = b
    · subst e
      simp [getC]
    · rw [if_neg e] at h ⊢
      simp only [getC]
      rw [if_neg e]
      exact ih h
theorem getC_setC_ne {O : Sto} {a b : Addr} {c' : Cell} (h : b ≠ a) : getC (setC O a c') b = getC O b := by
  induction O with
  | nil => rfl
  | cons q r ih =>
    obtain ⟨d, c0⟩ := q
    simp only [setC]
    by_cases e : a = d
    · subst e
      simp [getC, h]
    · rw [if_neg e]
      simp only [getC]
      by_cases e2 : b = d
      · rw [if_pos e2, if_pos e2]
      · rw [if_neg e2, if_neg e2]
        exact ih
theorem fresh_ne {O : Sto} {a p : Addr} {c : Cell} (h : getC O a = some c) (f : freshC O p) : a ≠ p := f _ (getC_mem h)
/-- the box opened: what is in it -/
theorem Opn.box {O : Sto} {b : Addr} {R : Sto → Prop} (h : getC O b = some .box) (k : ∀ cs i a s, cs.length ≤ 63 → 0 ≤ i → 0 ≤ a → R (setC O b (boxC cs i a s))) : Opn O R := fun g F H w => by
  obtain ⟨fa, o, ho, hc⟩ := w.get h
  cases o with
  | lst vs =>
    obtain ⟨cs, i, a, s, h1, h2, h3, h4⟩ := hc
    refine ⟨_, ?_, k cs i a s h2 h3 h4⟩
    have z := w.set h (c' := boxC cs i a s) (o := .lst vs) h1
    have e : upd H b (.lst vs) = H := by
      funext q
      by_cases z : q = b
      · rw [z, upd_same, ho]
      · rw [upd_ne z]
    rw [e] at z
    exact z
  | _ => exact hc.elim
/-- .. and shut again -/
theorem Weak.box {O : Sto} {b : Addr} {cs : List Int} {i a s : Int} (h : getC O b = some (boxC cs i a s)) (h2 : cs.length ≤ 63) (h3 : 0 ≤ i) (h4 : 0 ≤ a) : Weak O (setC O b .box) := fun g F H w => by
  obtain ⟨fa, o, ho, hc⟩ := w.get h
  cases o with
  | lst vs =>
    have z := w.set h (c' := .box) (o := .lst vs) ⟨cs, i, a, s, hc, h2, h3, h4⟩
    have e : upd H b (.lst vs) = H := by
      funext q
      by_cases z : q = b
      · rw [z, upd_same, ho]
      · rw [upd_ne z]
    rw [e] at z
    exact z
  | _ => exact hc.elim
/-- a fresh list becomes the box -/
theorem Weak.toBox {O : Sto} {b : Addr} {cs : List Int} {i a s : Int} (h2 : cs.length ≤ 63) (h3 : 0 ≤ i) (h4 : 0 ≤ a) : Weak ((b, boxC cs i a s) :: O) ((b, .box) :: O) := by
  have z := Weak.box (O := (b, boxC cs i a s) :: O) (b := b) (cs := cs) (i := i) (a := a) (s := s) (by simp [getC]) h2 h3 h4
  simpa [setC] using z

def endsD (P : KD) (E : KX) : DEnds where
  nx := fun _ O' => ∃ O1, Weak O' O1 ∧ P .non O1
  rt := fun d O' => ∃ O1, Weak O' O1 ∧ P d O1
  xc := fun x _ O' => ∃ O1, Weak O' O1 ∧ E x O1
def startD (N : List Str) (ds : List D) : Sl := ds.map some ++ List.replicate (N.length - ds.length) none
theorem srel_start {g : Gm} {F : Hp} {N : List Str} {ds : List D} {vs : List V} (h : Reps g F ds vs) : SRel g F (L2.start N vs) (startD N ds) := by
  have hl := h.length
  refine ⟨by simp [L2.start, startD, hl], fun i d q => ?_⟩
  unfold startD at q
  unfold L2.start
  by_cases hi : i < ds.length
  · rw [List.getElem?_append_left (by simpa using hi), List.getElem?_map] at q
    cases e : ds[i]? with
    | none => rw [e] at q; cases q
    | some d' =>
      rw [e] at q
      cases q
      obtain ⟨v, hv, rv⟩ := h.get e
      refine ⟨v, ?_, rv⟩
      rw [List.getElem?_append_left (by simpa [← hl] using hi), List.getElem?_map, hv]
      rfl
  · rw [List.getElem?_append_right (by simpa using hi)] at q
    have z := List.mem_of_getElem? q
    rw [List.mem_replicate] at z
    exact absurd z.2 (by simp)
section
variable {P : Program} {w : World} {K : PySem.W.Frag} {mg : Str → Option Value} {base : Heap}
abbrev wE (E : XK) : WX := fun cls dd _ H => E cls dd H
theorem fn_okF {g : Gm} {x qual : Str} {st : Stmt} {f : Addr} {fd : FuncData} {N ps : List Str} {k : Nat} {S : DSp} {T : DS} (Fn : Fun K x qual st f fd) (Sc : FnScope N ps (defScope st)) (len : ∀ ds O P E, S ds O P E → ds.length = ps.length)
    (body : ∀ (cdv : Value) (A : Around) (outer : List Env) (s : Shared) (H : Hp) (E : XK), Room k (A.deeper (PyProof.Rows.envOfC qual (defScope st) s.heap.objs.size f cdv)) →
      PSs (cxOf (L2.CX P w) P w K mg base N qual (defScope st) f cdv A outer s H E) (defBody st) (ls g (wE E) T))
    (pure : ∀ ds O P E, S ds O P E → Opn O fun O' => T (endsD P E) (startD N ds) O') : FnOk P w K mg base (L2.CX P w) (k + 1) f fd ps (toSp g S) := by
  refine Fn.okX Sc (fun vs H Q E h => ?_) fun cdv A outer s H vs Q E hr h => ⟨_, body cdv A outer s H E hr, ?_⟩
  · obtain ⟨F, O, ds, P', EX, h1, h2, h3, _⟩ := h
    rw [← h1.length]
    exact len _ _ _ _ h3
  · obtain ⟨F, O, ds, P', EX, h1, h2, h3, h4, h5⟩ := h
    obtain ⟨O', w', hT⟩ := pure ds O P' EX h3 g F H h2
    refine ⟨endsD P' EX, startD N ds, O', F, hT, srel_start h1, w', ⟨fun Δ O1 F1 σ H1 ⟨O2, wk, q⟩ s1 sr1 w1 => ?_, fun d O1 v F1 H1 ⟨O2, wk, q⟩ s1 w1 r1 => ?_, fun _ _ _ _ _ q => q.elim, fun _ _ _ _ _ q => q.elim, fun y Δ O1 cls dd F1 σ H1 ⟨O2, wk, q⟩ s1 sr1 w1 r1 => ?_⟩⟩
    · exact h4 _ _ _ _ _ q s1 (wk _ _ _ w1) (Rep.non_iff.mpr rfl)
    · exact h4 _ _ _ _ _ q s1 (wk _ _ _ w1) r1
    · exact h5 _ _ _ _ _ _ q s1 (wk _ _ _ w1) r1
theorem fn_FN {g : Gm} {f : Addr} {fd : FuncData} {ps : List Str} {k : Nat} {S : DSp} (F : FnOk P w K mg base (L2.CX P w) k f fd ps (toSp g S)) (hb : Binds K fd ps []) : FN g P w K mg base k f S :=
  fun A outer s H us vs Q E hr e0 hv h => F.run A outer s H ⟨us, []⟩ us vs Q E hr e0 (by
    have hl : us.length = ps.length := by rw [← hv.length]; exact F.len _ _ _ _ h
    have z := hb s us (e0.mod.kin.keeps fun b o e => (e0.bs b o e).1) (by rw [List.append_nil]; exact hl)
    rw [List.append_nil] at z
    exact z) hv h
end

/-! ## builtins -/
section
variable {g : Gm} {X : Cx} {W : WX} {pos pos' p : Pos} {a b c : Expr} {Ta Tb : DE}
def seqOf (O : Sto) : D → Option (List D)
  | .tup ds => some ds
  | d => lstOf O d
def lenD (O : Sto) : D → Option Nat
  | .str x => if x.length ≤ sizeLine then some x.length else none
  | .dic ks _ => some ks.length
  | .tup ds => some ds.length
  | .ptr q => match getC O q with
    | some (.lst ds) => some ds.length
    | some (.dic ks _) => some ks.length
    | _ => none
  | .lst ds => some ds.length
  | _ => none
def fLen : BC := fun ds O P => match ds with | [d] => (match lenD O d with | some n => P (.int (n : Int)) O | none => False) | _ => False
def rLenA (K : PySem.W.Frag) : List V → Hp → VK → Prop := fun xs H Q => (∃ p ys, xs = [.ref p] ∧ (SqL K H p ys ∨ SqT K H p ys) ∧ Q (.int ys.length) H) ∨ (∃ z, xs = [.str z] ∧ z.length ≤ sizeLine ∧ Q (.int z.length) H) ∨ ∃ d kvs, xs = [.ref d] ∧ H d = some (.dK kvs) ∧ Q (.int kvs.length) H
theorem call_lenA : CallR X (.builtin "len") (rLenA X.K) := CallR.or call_len_seq (CallR.or call_len_str call_lenD)
theorem zipK_len {F : Hp} {ks : List Key} {ds : List D} {vs : List V} (h : Reps g F ds vs) (hl : ks.length = ds.length) : (zipK ks vs).length = ks.length := by
  unfold zipK
  rw [List.length_zip, ← h.length]
  omega
theorem lk_len : LkC g (rLenA g.K) fLen := by
  intro ds O P F H vs Q hf rs w hv
  unfold fLen at hf
  split at hf
  · rename_i d
    obtain ⟨v, r, rfl, h1, h2⟩ := Reps.cons_iff.mp rs
    rw [Reps.nil_iff] at h2
    subst h2
    split at hf
    · rename_i n e
      cases d with
      | str x =>
        simp only [lenD] at e
        split at e
        · rename_i hl
          cases e
          rw [Rep.str_iff.mp h1]
          exact .inr (.inl ⟨x, rfl, hl, hv.now hf w rint⟩)
        · cases e
      | tup ds =>
        obtain ⟨q, vs, rfl, h3, h4⟩ := Rep.tup_iff.mp h1
        cases e
        exact .inl ⟨q, vs, rfl, .inr (sqt_same w.same h3), by rw [← h4.length]; exact hv.now hf w rint⟩
      | lst ds =>
        obtain ⟨q, vs, rfl, h3, h4⟩ := Rep.lst_iff.mp h1
        cases e
        exact .inl ⟨q, vs, rfl, .inl (SqL.of (w.same _ _ h3)), by rw [← h4.length]; exact hv.now hf w rint⟩
      | dic ks ds =>
        obtain ⟨q, vs, rfl, h3, h5, h4⟩ := Rep.dic_iff.mp h1
        cases e
        exact .inr (.inr ⟨q, _, rfl, w.same _ _ h3, by rw [zipK_len h4 h5]; exact hv.now hf w rint⟩)
      | ptr q =>
        have ev := Rep.ptr_iff.mp h1
        subst ev
        simp only [lenD] at e
        split at e
        · rename_i ds eg
          cases e
          obtain ⟨_, ob, h3, h4⟩ := w.get eg
          cases ob with
          | lst vs =>
            have h4 : Reps g F ds vs := h4
            exact .inl ⟨q, vs, rfl, .inl (SqL.of h3), by rw [← h4.length]; exact hv.now hf w rint⟩
          | _ => exact h4.elim
        · rename_i ks ds eg
          cases e
          obtain ⟨_, ob, h3, h4⟩ := w.get eg
          cases ob with
          | dK kvs =>
            obtain ⟨h5, vs, rfl, h6⟩ := h4
            exact .inr (.inr ⟨q, _, rfl, h3, by rw [zipK_len h6 h5]; exact hv.now hf w rint⟩)
          | _ => exact h4.elim
        · cases e
      | _ => simp [lenD] at e
    · exact hf.elim
  · exact hf.elim
theorem q_len {x : Str} (hm : X.mg "len" = none) (h : PE X (.Call (.Name "len" p) [a] [] pos) (tCB (rLenA X.K) (la g W (dCons Ta dNil)))) (hK : X.K = g.K := by rfl) : PE X (.Call (.Name "len" p) [a] [] pos) (le g W (dCB fLen (dCons Ta dNil))) := by
  rw [hK] at h
  exact pe_imp h fun σ H Q h => tcb_of lk_len h
def fInt : BC := fun ds O P => match ds with | [.int i] => P (.int i) O | [.bl k] => P (.int (if k then 1 else 0)) O | _ => False
theorem lk_int : LkC g (fun xs H Q => (∃ i, xs = [.int i] ∧ Q (.int i) H) ∨ ∃ k, xs = [.bl k] ∧ Q (.int (if k then 1 else 0)) H) fInt := by
  intro ds O P F H vs Q hf rs w hv
  unfold fInt at hf
  split at hf
  · rename_i i
    obtain ⟨v, r, rfl, h1, h2⟩ := Reps.cons_iff.mp rs
    rw [Reps.nil_iff] at h2
    subst h2
    exact .inl ⟨i, by rw [Rep.int_iff.mp h1], hv.now hf w rint⟩
  · rename_i k
    obtain ⟨v, r, rfl, h1, h2⟩ := Reps.cons_iff.mp rs
    rw [Reps.nil_iff] at h2
    subst h2
    exact .inr ⟨k, by rw [Rep.bl_iff.mp h1], hv.now hf w rint⟩
  · exact hf.elim
def fNeg : D → Sto → KD → Prop := fun x O P => match x with | .int i => P (.int (-i)) O | _ => False
def dUn (f : D → Sto → KD → Prop) (T : DE) : DE := fun Δ O P E => T Δ O (fun x O1 => f x O1 P) E
theorem q_neg (ha : PE X a (le g W Ta)) : PE X (.UnaryOp .USub a pos) (le g W (dUn fNeg Ta)) := by
  refine pe_imp (pe_un un_neg ha) fun σ H Q h => ?_
  obtain ⟨Δ, O, P, E, F, hT, sr, w, hv, hx⟩ := h
  refine le_bind hT sr w hx fun d O1 v F1 H1 hT1 s1 sr1 w1 rx hx1 => ?_
  cases d with
  | int i => exact ⟨i, Rep.int_iff.mp rx, (hv.mono s1).now hT1 w1 rint⟩
  | _ => exact hT1.elim
/-- isinstance(x, T), T a built-in class -/
def tyD (O : Sto) : D → Option String
  | .non => some "NoneType"
  | .bl _ => some "bool"
  | .int _ => some "int"
  | .str _ => some "str"
  | .lst _ => some "list"
  | .ptr q => match getC O q with | some (.lst _) => some "list" | some (.dic _ _) => some "dict" | _ => none
  | .dic _ _ => some "dict"
  | _ => none
theorem ty_of {F : Hp} {O : Sto} {H : Hp} {d : D} {v : V} {n : String} (h : tyD O d = some n) (r : Rep g F d v) (w : Wd g F O H) : TyX g.K H v (.type n) := by
  cases d with
  | non => cases h; rw [Rep.non_iff.mp r]; exact .base .non
  | bl b => cases h; rw [Rep.bl_iff.mp r]; exact .base (.bl b)
  | int i => cases h; rw [Rep.int_iff.mp r]; exact .base (.int i)
  | str x => cases h; rw [Rep.str_iff.mp r]; exact .base (.str x)
  | lst ds =>
    cases h
    obtain ⟨q, vs, rfl, h3, h4⟩ := Rep.lst_iff.mp r
    exact .base (.lst (w.same _ _ h3))
  | dic ks ds =>
    cases h
    obtain ⟨q, vs, rfl, h3, h4⟩ := Rep.dic_iff.mp r
    exact .base (.dK (w.same _ _ h3))
  | ptr q =>
    rw [Rep.ptr_iff] at r
    subst r
    simp only [tyD] at h
    split at h
    · rename_i ds eg
      cases h
      obtain ⟨_, ob, h3, h4⟩ := w.get eg
      cases ob with
      | lst vs => exact .base (.lst h3)
      | _ => exact h4.elim
    · rename_i ks ds eg
      cases h
      obtain ⟨_, ob, h3, h4⟩ := w.get eg
      cases ob with
      | dK vs => exact .base (.dK h3)
      | _ => exact h4.elim
    · cases h
  | _ => simp [tyD] at h
def dIsT (n : String) (T : DE) : DE := fun Δ O P E => T Δ O (fun d O1 => match tyD O1 d with
  | some m => (match kitB m n with | some k => P (.bl k) O1 | none => False)
  | none => False) E
theorem q_isT {n : String} {x : Str} {q : Pos} (hm : X.mg "isinstance" = none) (hm' : X.mg x = none) (ha : PE X a (le g W Ta)) (hv : bootBuiltins x = some (.type n) := by decide +kernel) (hg : Gl X "isinstance" := by rfl) (hg' : Gl X x := by rfl)
    (hn : x ≠ "__name__" := by decide) (hd : (x == ("__debug__" : Str)) = false := by decide) (hK : X.K = g.K := by rfl)
    (hs : starEach (a :: [.Name x q]) X.env = (false, eval a X.env) :: starEach [.Name x q] X.env := by rfl) (hs' : starEach [.Name x q] X.env = (false, eval (.Name x q) X.env) :: starEach [] X.env := by rfl) (hpl : (backTo pos (starEach [.Name x q] X.env)).any (·.1) = false := by rfl) :
    PE X (.Call (.Name "isinstance" p) [a, .Name x q] [] pos) (le g W (dIsT n Ta)) := by
  have hb : PE X (.Name x q) (tC (.ty n)) := pe_bltn hg' hm' hv rfl hn hd
  refine pe_imp (pe_callB call_isi hg hm (by decide +kernel) (pa_cons ha (pa_cons hb pa_nil hs') hs) (by decide) (by decide) hs hpl) fun σ H Q h => ?_
  obtain ⟨Δ, O, P, E, F, hT, sr, w, hv, hx⟩ := h
  refine le_bind hT sr w hx fun d O1 v F1 H1 hT1 s1 sr1 w1 rx hx1 => ?_
  split at hT1
  · rename_i m e
    split at hT1
    · rename_i k ek
      refine ⟨v, .ty n, .type m, .type n, k, rfl, .ty n, by rw [hK]; exact ty_of e rx w1, kit_ty ek, (hv.mono s1).now hT1 w1 rbl⟩
    · exact hT1.elim
  · exact hT1.elim

/-! ### slices -/
def cutD (xs : List D) (lo hi : Option Int) : List D := (xs.drop (HT.sIx xs.length 0 lo)).take (HT.sIx xs.length xs.length hi - HT.sIx xs.length 0 lo)
abbrev DO := Sl → Sto → (Option Int → Sto → Prop) → KX → Prop
def dNoP : DO := fun _ O P _ => P none O
def dPart (T : DE) : DO := fun Δ O P E => T Δ O (fun d O1 => match d with | .int i => P (some i) O1 | _ => False) E
def lo' (g : Gm) (W : WX) (T : DO) : TO := fun σ H Q => ∃ Δ O P E F, T Δ O P E ∧ SRel g F σ Δ ∧ Wd g F O H ∧ (∀ i O' F' H', P i O' → Same F F' → Wd g F' O' H' → Q i H') ∧ XOk g F W σ E
theorem po_imp {X : Cx} {e : Option Expr} {t t' : TO} (h : PO X e t) (k : ∀ σ H Q, t' σ H Q → t σ H Q) : PO X e t' := ⟨fun pins s σ H Q I q => h.run pins s σ H Q I (k _ _ _ q)⟩
theorem qo_none : PO X none (lo' g W dNoP) := po_imp po_none fun σ H Q ⟨Δ, O, P, E, F, hT, sr, w, hv, hx⟩ => hv _ _ _ _ hT (Same.refl F) w
theorem qo_some (h : PE X a (le g W Ta)) : PO X (some a) (lo' g W (dPart Ta)) := by
  refine po_imp (po_some h) fun σ H Q h => ?_
  obtain ⟨Δ, O, P, E, F, hT, sr, w, hv, hx⟩ := h
  refine le_bind hT sr w hx fun d O1 v F1 H1 hT1 s1 sr1 w1 rx hx1 => ?_
  cases d with
  | int i => exact ⟨i, Rep.int_iff.mp rx, hv _ _ _ _ hT1 s1 w1⟩
  | _ => exact hT1.elim
def dSlice (T : DE) (L U : DO) : DE := fun Δ O P E => T Δ O (fun d O1 => L Δ O1 (fun l O2 => U Δ O2 (fun u O3 => match d with
  | .scr ns => P (.lst (cutD (ns.map D.int) l u)) O3
  | _ => match lstOf O3 d with | some ds => P (.lst (cutD ds l u)) O3 | none => False) E) E) E
theorem Reps.cut {F : Hp} {ds : List D} {vs : List V} (h : Reps g F ds vs) (lo hi : Option Int) : Reps g F (cutD ds lo hi) (cutV vs lo hi) := by
  unfold cutD cutV
  rw [h.length]
  exact (h.drop _).take _
theorem q_slice {lo hi : Option Expr} {L U : DO} {p2 : Pos} (ha : PE X a (le g W Ta)) (hl : PO X lo (lo' g W L)) (hu : PO X hi (lo' g W U)) (hK : X.K = g.K := by rfl) : PE X (.Subscript a (.Slice lo hi none p2) pos) (le g W (dSlice Ta L U)) := by
  refine pe_imp (pe_slice sl_list ha hl hu) fun σ H Q h => ?_
  obtain ⟨Δ, O, P, E, F, hT, sr, w, hv, hx⟩ := h
  refine le_bind hT sr w hx fun d O1 v F1 H1 hT1 s1 sr1 w1 rx hx1 => ⟨Δ, O1, _, E, F1, hT1, sr1, w1, fun l O2 F2 H2 hT2 s2 w2 => ⟨Δ, O2, _, E, F2, hT2, sr1.mono s2, w2, fun u O3 F3 H3 hT3 s3 w3 => ?_, hx1.mono s2⟩, hx1⟩
  have s13 : Same F F3 := s1.trans (s2.trans s3)
  have r3 := rx.mono (s2.trans s3)
  have key : (match lstOf O3 d with | some ds => P (.lst (cutD ds l u)) O3 | none => False) → rSlL X.K v l u H3 Q := by
    intro hf
    split at hf
    · rename_i ds e
      obtain ⟨q, vs, rfl, h1, h2⟩ := lst_of e r3 w3
      exact ⟨q, vs, rfl, SqL.of h1, fun t ht => hv _ _ _ _ _ hf (s13.trans (w3.fsame ht)) (w3.frozen ht) ((h2.cut l u).newL (w3.same.free ht))⟩
    · exact hf.elim
  cases d with
  | scr ns =>
    obtain ⟨q, rfl, h1⟩ := Rep.scr_iff.mp r3
    refine ⟨q, ns.map V.int, rfl, by rw [hK]; exact w3.same.seq h1, fun t ht => hv _ _ _ _ _ hT3 (s13.trans (w3.fsame ht)) (w3.frozen ht) ?_⟩
    exact ((Reps.ints (g := g) (F := F3)).mpr rfl |>.cut l u).newL (w3.same.free ht)
  | _ => exact key hT3
end
end G

set_option Elab.async false
set_option linter.all false
set_option maxRecDepth 100000
set_option maxHeartbeats 4000000
namespace G
open PySem L2
/-! ## == of plain data -/
mutual
def py : D → Option PyData
  | .non => some .none
  | .bl b => some (.bool b)
  | .int i => some (.int i)
  | .str x => some (.str x)
  | .lst ds => (pys ds).map .list
  | .tup ds => (pys ds).map .tuple
  | _ => none
def pys : List D → Option (List PyData)
  | [] => some []
  | d :: ds => match py d, pys ds with | some x, some xs => some (x :: xs) | _, _ => none
end
section
variable {g : Gm}
mutual
theorem py_dp {F : Hp} {O : Sto} {H : Hp} (w : Wd g F O H) : ∀ {d : D} {v : V} {x : PyData}, py d = some x → Rep g F d v → Dp g.K H v x
  | .non, v, x, h, r => by simp only [py] at h; cases h; rw [Rep.non_iff.mp r]; exact .non
  | .bl b, v, x, h, r => by simp only [py] at h; cases h; rw [Rep.bl_iff.mp r]; exact .bl b
  | .int b, v, x, h, r => by simp only [py] at h; cases h; rw [Rep.int_iff.mp r]; exact .int b
  | .str b, v, x, h, r => by simp only [py] at h; cases h; rw [Rep.str_iff.mp r]; exact .str b
  | .lst ds, v, x, h, r => by
    simp only [py] at h
    obtain ⟨p, vs, rfl, h1, h2⟩ := Rep.lst_iff.mp r
    cases e : pys ds with
    | none => rw [e] at h; cases h
    | some xs =>
      rw [e] at h
      cases h
      exact .lst (SqL.of (w.same _ _ h1)) (pys_dp w e h2)
  | .tup ds, v, x, h, r => by
    simp only [py] at h
    obtain ⟨p, vs, rfl, h1, h2⟩ := Rep.tup_iff.mp r
    cases e : pys ds with
    | none => rw [e] at h; cases h
    | some xs =>
      rw [e] at h
      cases h
      exact .tup (sqt_same w.same h1) (pys_dp w e h2)
  | .obj _ _ _, v, x, h, r => by simp [py] at h
  | .dic _ _, v, x, h, r => by simp [py] at h
  | .ptr _, v, x, h, r => by simp [py] at h
  | .scr _, v, x, h, r => by simp [py] at h
theorem pys_dp {F : Hp} {O : Sto} {H : Hp} (w : Wd g F O H) : ∀ {ds : List D} {vs : List V} {xs : List PyData}, pys ds = some xs → Reps g F ds vs → DpAll g.K H vs xs
  | [], vs, xs, h, r => by
    simp only [pys] at h
    cases h
    rw [Reps.nil_iff] at r
    subst r
    exact .nil
  | d :: ds, vs, xs, h, r => by
    obtain ⟨v, rr, rfl, h1, h2⟩ := Reps.cons_iff.mp r
    simp only [pys] at h
    cases e1 : py d with
    | none => rw [e1] at h; cases h
    | some x =>
      cases e2 : pys ds with
      | none => rw [e1, e2] at h; cases h
      | some xs' =>
        rw [e1, e2] at h
        cases h
        exact .cons (py_dp w e1 h1) (pys_dp w e2 h2)
end
end
/-- the answer of x == y -/
def eqB (x y : D) : Option Bool := match x, y with
  | .int i, .int j => some (decide (i = j))
  | .bl i, .bl j => some (decide (i = j))
  | .str i, .str j => some (decide (i = j))
  | _, _ => match py x, py y with
    | some a, some b => if SeqAt.shaped a = true ∧ SeqAt.shaped b = true then some (PyData.eqv a b) else none
    | _, _ => none
def fEq : B2 := fun x y O P => match eqB x y with | some k => P (.bl k) O | none => False
def fNe : B2 := fun x y O P => match eqB x y with | some k => P (.bl (!k)) O | none => False
def rEqA (K : PySem.W.Frag) : R2 := fun x y H Q => rEq x y H Q ∨ rEqD K x y H Q
def rNeA (K : PySem.W.Frag) : R2 := fun x y H Q => rNe x y H Q ∨ rNeD K x y H Q
section
variable {g : Gm} {X : Cx} {W : WX} {pos pos' p : Pos} {a b c : Expr} {Ta Tb : DE}
theorem op_eqA (hu : X.A.units + 64 < cLine) (hK : X.K = g.K := by rfl) : OpR X (compareOp .Eq) (rEqA g.K) := by
  rw [← hK]
  exact OpR.or op_eq (op_eqD hu)
theorem op_neA (hu : X.A.units + 64 < cLine) (hK : X.K = g.K := by rfl) : OpR X (compareOp .NotEq) (rNeA g.K) := by
  rw [← hK]
  exact OpR.or op_ne (op_neD hu)
theorem eqB_cases {x y : D} {k : Bool} (h : eqB x y = some k) : (∃ i j, x = .int i ∧ y = .int j ∧ k = decide (i = j)) ∨ (∃ i j, x = .bl i ∧ y = .bl j ∧ k = decide (i = j)) ∨ (∃ i j, x = .str i ∧ y = .str j ∧ k = decide (i = j)) ∨
    ∃ d e, py x = some d ∧ py y = some e ∧ SeqAt.shaped d = true ∧ SeqAt.shaped e = true ∧ k = PyData.eqv d e := by
  unfold eqB at h
  split at h
  · exact .inl ⟨_, _, rfl, rfl, (Option.some.inj h).symm⟩
  · exact .inr (.inl ⟨_, _, rfl, rfl, (Option.some.inj h).symm⟩)
  · exact .inr (.inr (.inl ⟨_, _, rfl, rfl, (Option.some.inj h).symm⟩))
  · split at h
    · rename_i d e h1 h2
      split at h
      · rename_i hs
        exact .inr (.inr (.inr ⟨d, e, h1, h2, hs.1, hs.2, (Option.some.inj h).symm⟩))
      · cases h
    · cases h
theorem lk_eq : Lk2 g (rEqA g.K) fEq := by
  intro x y O P F H vx vy Q hf rx ry w hv
  unfold fEq at hf
  split at hf
  · rename_i k e
    rcases eqB_cases e with ⟨i, j, rfl, rfl, rfl⟩ | ⟨i, j, rfl, rfl, rfl⟩ | ⟨i, j, rfl, rfl, rfl⟩ | ⟨d, e', h1, h2, h3, h4, rfl⟩
    · rw [Rep.int_iff.mp rx, Rep.int_iff.mp ry]
      refine .inl ⟨rfl, ?_⟩
      have z : decide (V.int i = V.int j) = decide (i = j) := by simp
      rw [z]
      exact hv.now hf w rbl
    · rw [Rep.bl_iff.mp rx, Rep.bl_iff.mp ry]
      refine .inl ⟨rfl, ?_⟩
      have z : decide (V.bl i = V.bl j) = decide (i = j) := by simp
      rw [z]
      exact hv.now hf w rbl
    · rw [Rep.str_iff.mp rx, Rep.str_iff.mp ry]
      refine .inl ⟨rfl, ?_⟩
      have z : decide (V.str i = V.str j) = decide (i = j) := by simp
      rw [z]
      exact hv.now hf w rbl
    · exact .inr ⟨d, e', py_dp w h1 rx, py_dp w h2 ry, h3, h4, hv.now hf w rbl⟩
  · exact hf.elim
theorem lk_ne : Lk2 g (rNeA g.K) fNe := by
  intro x y O P F H vx vy Q hf rx ry w hv
  unfold fNe at hf
  split at hf
  · rename_i k e
    rcases eqB_cases e with ⟨i, j, rfl, rfl, rfl⟩ | ⟨i, j, rfl, rfl, rfl⟩ | ⟨i, j, rfl, rfl, rfl⟩ | ⟨d, e', h1, h2, h3, h4, rfl⟩
    · rw [Rep.int_iff.mp rx, Rep.int_iff.mp ry]
      refine .inl ⟨rfl, ?_⟩
      have z : decide (V.int i = V.int j) = decide (i = j) := by simp
      rw [z]
      exact hv.now hf w rbl
    · rw [Rep.bl_iff.mp rx, Rep.bl_iff.mp ry]
      refine .inl ⟨rfl, ?_⟩
      have z : decide (V.bl i = V.bl j) = decide (i = j) := by simp
      rw [z]
      exact hv.now hf w rbl
    · rw [Rep.str_iff.mp rx, Rep.str_iff.mp ry]
      refine .inl ⟨rfl, ?_⟩
      have z : decide (V.str i = V.str j) = decide (i = j) := by simp
      rw [z]
      exact hv.now hf w rbl
    · exact .inr ⟨d, e', py_dp w h1 rx, py_dp w h2 ry, h3, h4, hv.now hf w rbl⟩
  · exact hf.elim
end

/-! ## what the top has written -/
/-- the names of builtins that the program's top leaves alone -/
structure Bt (mg : Str → Option Value) : Prop where
  len : mg "len" = none
  int : mg "int" = none
  bool : mg "bool" = none
  str : mg "str" = none
  isinstance : mg "isinstance" = none
  range : mg "range" = none
  max : mg "max" = none
  min : mg "min" = none
  abs : mg "abs" = none
  sorted : mg "sorted" = none
  sum : mg "sum" = none
  any : mg "any" = none
  all : mg "all" = none
  list : mg "list" = none
  dict : mg "dict" = none
  tuple : mg "tuple" = none
  enumerate : mg "enumerate" = none
  zip : mg "zip" = none
  repr : mg "repr" = none
  iter : mg "iter" = none
  super : mg "super" = none
section
variable (g : Gm) (P : Program) (w : World) (K : PySem.W.Frag) (mg : Str → Option Value) (base : Heap)
/-- the def of that name keeps S -/
def GD (k : Nat) (name : Str) (S : DSp) : Prop := ∃ f, mg name = some (.ref f) ∧ PySem.W.keepIn K (.ref f) = true ∧ FN g P w K mg base k f S
/-- the class of that name can be made, its __init__ keeps S -/
def GC (k : Nat) (cl : Cl) (name : Str) (S : DSp) : Prop := mg name = some (.ref (g.ca cl)) ∧ ∃ f, Mk K (g.ca cl) f ∧ FN g P w K mg base k f S
/-- where a def stands -/
def DefAt (name : Str) (st : Stmt) (ps : List Str) : Prop := ∃ f fd, mg name = some (.ref f) ∧ Fun K name name st f fd ∧ Binds K fd ps []
/-- where a method stands -/
def MetAt (cl : Cl) (name qual : Str) (st : Stmt) (ps : List Str) : Prop := ∃ f fd, Meth K (g.ca cl) name f ∧ Fun K name qual st f fd ∧ Binds K fd ps []
/-- where an __init__ stands -/
def InitAt (cl : Cl) (name qual : Str) (st : Stmt) (ps : List Str) : Prop := mg name = some (.ref (g.ca cl)) ∧ ∃ f fd, Mk K (g.ca cl) f ∧ Fun K "__init__" qual st f fd ∧ Binds K fd ps []
end
section
variable {g : Gm} {P : Program} {w : World} {K : PySem.W.Frag} {mg : Str → Option Value} {base : Heap}
/-- what a def's body needs: its walk, for every place it stands at -/
def BodyOk (g : Gm) (P : Program) (w : World) (K : PySem.W.Frag) (mg : Str → Option Value) (base : Heap) (k : Nat) (N : List Str) (qual : Str) (st : Stmt) (T : DS) : Prop :=
  ∀ (f : Addr) (cdv : Value) (A : Around) (outer : List Env) (s : Shared) (H : Hp) (E : XK), Room k (A.deeper (PyProof.Rows.envOfC qual (defScope st) s.heap.objs.size f cdv)) →
      PSs (cxOf (L2.CX P w) P w K mg base N qual (defScope st) f cdv A outer s H E) (defBody st) (ls g (wE E) T)
/-- the promise follows from the body's reading -/
def Pure (N : List Str) (n : Nat) (S : DSp) (T : DS) : Prop := ∀ ds O P E, S ds O P E → ds.length = n ∧ Opn O fun O' => T (endsD P E) (startD N ds) O'
theorem gd_of {name : Str} {st : Stmt} {N ps : List Str} {k : Nat} {S : DSp} {T : DS} (L : DefAt K mg name st ps) (Sc : FnScope N ps (defScope st)) (body : BodyOk g P w K mg base k N name st T) (pure : Pure N ps.length S T) : GD g P w K mg base (k + 1) name S := by
  obtain ⟨f, fd, hm, Fn, hb⟩ := L
  exact ⟨f, hm, Fn.kp, fn_FN (fn_okF Fn Sc (fun ds O P E h => (pure ds O P E h).1) (body f) fun ds O P E h => (pure ds O P E h).2) hb⟩
theorem gc_of {cl : Cl} {name qual : Str} {st : Stmt} {N ps : List Str} {k : Nat} {S : DSp} {T : DS} (L : InitAt g K mg cl name qual st ps) (Sc : FnScope N ps (defScope st)) (body : BodyOk g P w K mg base k N qual st T) (pure : Pure N ps.length S T) : GC g P w K mg base (k + 1) cl name S := by
  obtain ⟨hm, f, fd, mk, Fn, hb⟩ := L
  exact ⟨hm, f, mk, fn_FN (fn_okF Fn Sc (fun ds O P E h => (pure ds O P E h).1) (body f) fun ds O P E h => (pure ds O P E h).2) hb⟩
theorem mo_of {cl : Cl} {name qual : Str} {st : Stmt} {N ps : List Str} {k : Nat} {S : DSp} {T : DS} (cls : Cls K (g.ca cl)) (L : MetAt g K cl name qual st ps) (Sc : FnScope N ps (defScope st)) (body : BodyOk g P w K mg base k N qual st T) (pure : Pure N ps.length S T) : MOk g P w K mg base (k + 1) cl name S := by
  obtain ⟨f, fd, mt, Fn, hb⟩ := L
  exact ⟨cls, f, mt, fn_FN (fn_okF Fn Sc (fun ds O P E h => (pure ds O P E h).1) (body f) fun ds O P E h => (pure ds O P E h).2) hb⟩
theorem GD.mono {j k : Nat} {name : Str} {S : DSp} (h : GD g P w K mg base j name S) (hj : j ≤ k) : GD g P w K mg base k name S := by
  obtain ⟨f, h1, h2, h3⟩ := h
  exact ⟨f, h1, h2, h3.mono hj⟩
theorem MOk.mono {j k : Nat} {cl : Cl} {name : Str} {S : DSp} (h : MOk g P w K mg base j cl name S) (hj : j ≤ k) : MOk g P w K mg base k cl name S := by
  obtain ⟨h1, f, h2, h3⟩ := h
  exact ⟨h1, f, h2, h3.mono hj⟩
theorem mt_nil {k : Nat} {m : Str} : MTab g P w K mg base k m [] := fun c S h => by simp [tabAt] at h
theorem mt_cons {k : Nat} {m : Str} {cl : Cl} {S : DSp} {r : List (Cl × DSp)} (h : MOk g P w K mg base k cl m S) (t : MTab g P w K mg base k m r) : MTab g P w K mg base k m ((cl, S) :: r) := fun c S' e => by
  simp only [tabAt] at e
  by_cases q : c = cl
  · rw [if_pos q] at e
    cases e
    rw [q]
    exact h
  · rw [if_neg q] at e
    exact t c S' e
end
section
variable {g : Gm} {X : Cx} {W : WX} {pos pos' p : Pos} {a b c : Expr} {es : List Expr} {R : DA} {k j : Nat} {x : Str} {S : DSp} {cl : Cl}
theorem q_gcall (h : GD g X.prog X.w X.K X.mg X.base k x S) (hr : Room j X.A) (tk : Takes X W) (ha : PA X (a :: es) (la g W R)) (hkj : k ≤ j := by decide) (hg : Gl X x := by rfl)
    (hdb : (x == ("__debug__" : Str)) = false := by decide) (he : starEach (a :: es) X.env = (false, eval a X.env) :: starEach es X.env := by rfl) (hpl : (backTo pos (starEach es X.env)).any (·.1) = false := by rfl) :
    PE X (.Call (.Name x p) (a :: es) [] pos) (le g W (dCall S R)) := by
  obtain ⟨f, hm, hk, Fn⟩ := h
  exact q_call Fn (hr.mono hkj) tk hm hk ha hg hdb he hpl
theorem q_gcall0 (h : GD g X.prog X.w X.K X.mg X.base k x S) (hr : Room j X.A) (tk : Takes X W) (hkj : k ≤ j := by decide) (hg : Gl X x := by rfl) (hdb : (x == ("__debug__" : Str)) = false := by decide) : PE X (.Call (.Name x p) [] [] pos) (le g W (dCall S dNil)) := by
  obtain ⟨f, hm, hk, Fn⟩ := h
  exact q_call0 Fn (hr.mono hkj) tk hm hk hg hdb
theorem q_gmake (h : GC g X.prog X.w X.K X.mg X.base k cl x S) (hr : Room j X.A) (tk : Takes X W) (ha : PA X (a :: es) (la g W R)) (hkj : k + 1 ≤ j := by decide) (hg : Gl X x := by rfl)
    (hdb : (x == ("__debug__" : Str)) = false := by decide) (he : starEach (a :: es) X.env = (false, eval a X.env) :: starEach es X.env := by rfl) (hpl : (backTo pos (starEach es X.env)).any (·.1) = false := by rfl) :
    PE X (.Call (.Name x p) (a :: es) [] pos) (le g W (dMake cl S R)) := by
  obtain ⟨hm, f, mk, Fn⟩ := h
  exact q_make mk Fn (hr.mono hkj) tk hm ha hg hdb he hpl
theorem set_self {α : Type} {l : List α} {i : Nat} {x : α} (h : l[i]? = some x) : l.set i x = l := by
  apply List.ext_getElem?
  intro j
  rw [List.getElem?_set]
  by_cases z : i = j
  · subst z
    rw [if_pos rfl, h, if_pos (List.getElem?_eq_some_iff.mp h).1]
  · rw [if_neg z]
/-- a statement's list is frozen ahead of it -/
def dFrzS (i : Nat) (T : DS) : DS := fun D Δ O => match Δ[i]? with
  | some (some (.ptr q)) => (match getC O q with | some c => (match frzD c with | some d => T D (Δ.set i (some d)) (delC O q) | none => False) | none => False)
  | _ => False
theorem qss_frz (i : Nat) {sts : List Stmt} {T : DS} (h : PSs X sts (ls g W T)) : PSs X sts (ls g W (dFrzS i T)) := by
  refine pss_imp h fun E σ H ⟨D, Δ, O, F, hT, sr, w, ho⟩ => ?_
  unfold dFrzS at hT
  split at hT
  · rename_i q e
    split at hT
    · rename_i c ec
      split at hT
      · rename_i d ed
        obtain ⟨o, h1, hc, s2, w2⟩ := w.freeze ec
        obtain ⟨v, hv, rv⟩ := sr.2 i _ e
        have ev := Rep.ptr_iff.mp rv
        subst ev
        refine ⟨D, _, _, _, hT, ?_, w2, ho.mono s2⟩
        have z := (sr.mono s2).set (frz_rep ed hc (w.get ec).1) i
        rw [set_self hv] at z
        exact z
      · exact hT.elim
    · exact hT.elim
  · exact hT.elim
end
end G

set_option Elab.async false
set_option linter.all false
set_option maxRecDepth 100000
set_option maxHeartbeats 4000000
namespace G
open PySem L2
/-! ## reading by rewriting -/
section
variable {Δ : Sl} {O : Sto} {P : KD} {E : KX} {En : DEnds} {Ta Tb Tc : DE} {T U : DS} {R : DA} {t u : DT} {i j : Nat} {d x y : D} {PB : Bool → Sto → Prop} {PA : List D → Sto → Prop}
/-- the value in a slot -/
def sl (Δ : Sl) (i : Nat) : Option D := match Δ[i]? with | some o => o | none => none
theorem e_var : dVar i Δ O P E = (match sl Δ i with | some d => P d O | none => False) := by
  unfold dVar sl
  cases Δ[i]? with
  | none => rfl
  | some o => cases o <;> rfl
theorem sl_zero {o : Option D} {r : Sl} : sl (o :: r) 0 = o := rfl
theorem sl_succ {o : Option D} {r : Sl} {n : Nat} : sl (o :: r) (n + 1) = sl r n := rfl
theorem m_some {A : Prop} {f : D → Prop} : (match (some d : Option D) with | some d => f d | none => A) = f d := rfl
theorem e_seq : dSeq T U En Δ O = T { En with nx := U En } Δ O := rfl
theorem e_asg : dAsg i Ta En Δ O = Ta Δ O (fun d O1 => En.nx (Δ.set i (some d)) O1) (fun x O1 => En.xc x Δ O1) := rfl
theorem e_exp : dExp Ta En Δ O = Ta Δ O (fun _ O1 => En.nx Δ O1) (fun x O1 => En.xc x Δ O1) := rfl
theorem e_ret : dRet Ta En Δ O = Ta Δ O En.rt (fun x O1 => En.xc x Δ O1) := rfl
theorem e_retN : dRetN En Δ O = En.rt .non O := rfl
theorem e_ifS : dIfS t T U En Δ O = t Δ O (fun k O1 => if k = true then T En Δ O1 else U En Δ O1) (fun x O1 => En.xc x Δ O1) := rfl
theorem e_next : dNext En Δ O = En.nx Δ O := rfl
theorem e_nev : dNev En Δ O = False := rfl
theorem e_c : dC d Δ O P E = P d O := rfl
theorem e_op {f : B2} : dOp f Ta Tb Δ O P E = Ta Δ O (fun x O1 => Tb Δ O1 (fun y O2 => f x y O2 P) E) E := rfl
theorem e_un {f : D → Sto → KD → Prop} : dUn f Ta Δ O P E = Ta Δ O (fun x O1 => f x O1 P) E := rfl
theorem e_te : dTe Ta Δ O PB E = Ta Δ O (fun d O1 => match d with | .bl k => PB k O1 | _ => False) E := rfl
theorem e_tru : dTru Ta Δ O PB E = Ta Δ O (fun d O1 => match truD O1 d with | some k => PB k O1 | none => False) E := rfl
theorem e_and : dAnd t u Δ O PB E = t Δ O (fun k O1 => if k = true then u Δ O1 PB E else PB false O1) E := rfl
theorem e_or : dOr t u Δ O PB E = t Δ O (fun k O1 => if k = true then PB true O1 else u Δ O1 PB E) E := rfl
theorem e_not : dNot t Δ O PB E = t Δ O (fun k O1 => PB (!k) O1) E := rfl
theorem e_andV : dAndV Ta Tb Δ O P E = Ta Δ O (fun d O1 => match d with | .bl k => (if k = true then Tb Δ O1 P E else P (.bl false) O1) | _ => False) E := rfl
theorem e_orV : dOrV Ta Tb Δ O P E = Ta Δ O (fun d O1 => match d with | .bl k => (if k = true then P (.bl true) O1 else Tb Δ O1 P E) | _ => False) E := rfl
theorem e_notV : dNotV Ta Δ O P E = Ta Δ O (fun d O1 => match d with | .bl k => P (.bl (!k)) O1 | _ => False) E := rfl
theorem e_if : dIf t Ta Tb Δ O P E = t Δ O (fun k O1 => if k = true then Ta Δ O1 P E else Tb Δ O1 P E) E := rfl
theorem e_chain {f f' : B2} : dChain f f' Ta Tb Tc Δ O P E = Ta Δ O (fun x O1 => Tb Δ O1 (fun y O2 => f x y O2 (fun z O3 => match z with | .bl k => (if k = true then Tc Δ O3 (fun t O4 => f' y t O4 P) E else P (.bl false) O3) | _ => False)) E) E := rfl
theorem e_nil : dNil Δ O PA E = PA [] O := rfl
theorem e_cons : dCons Ta R Δ O PA E = Ta Δ O (fun d O1 => R Δ O1 (fun ds O2 => PA (d :: ds) O2) E) E := rfl
theorem e_tup : dTup R Δ O P E = R Δ O (fun ds O1 => ds.length ≤ sizeLine ∧ P (.tup ds) O1) E := rfl
theorem e_lst : dLst R Δ O P E = R Δ O (fun ds O1 => ds.length ≤ sizeLine ∧ P (.lst ds) O1) E := rfl
theorem e_lstO : dLstO R Δ O P E = R Δ O (fun ds O1 => ds.length ≤ sizeLine ∧ ∀ p, freshC O1 p → P (.ptr p) ((p, .lst ds) :: O1)) E := rfl
theorem e_cb {f : BC} : dCB f R Δ O P E = R Δ O (fun ds O1 => f ds O1 P) E := rfl
theorem e_call {S : DSp} : dCall S R Δ O P E = R Δ O (fun ds O1 => S ds O1 P E) E := rfl
theorem e_fld {cs : List Cl} {f : Fd} : dFld cs f Ta Δ O P E = Ta Δ O (fun d O1 => match objOf O1 d with
  | some t => t.1 ∈ cs ∧ (match getF f t.2.1 t.2.2 with | some e => P e O1 | none => False)
  | none => False) E := rfl
theorem e_frz : dFrz Ta Δ O P E = Ta Δ O (fun d O1 => match d with
  | .ptr a => (match getC O1 a with | some c => (match frzD c with | some d' => P d' (delC O1 a) | none => False) | none => False)
  | _ => False) E := rfl
theorem e_app : dApp Ta Tb Δ O P E = Ta Δ O (fun o O1 => match o with
  | .ptr p => (match getC O1 p with
    | some (.lst _) => Tb Δ O1 (fun d O2 => match getC O2 p with
      | some (.lst ds) => ds.length < sizeLine ∧ P .non (setC O2 p (.lst (ds ++ [d])))
      | _ => False) E
    | _ => False)
  | _ => False) E := rfl
theorem e_setIx : dSetIx Ta Tb Tc En Δ O = Tc Δ O (fun d O1 => Ta Δ O1 (fun o O2 => Tb Δ O2 (fun i O3 => match o, i with
  | .ptr p, .int k => (match getC O3 p with
    | some (.lst ds) => (match setI ds k d with | some es => En.nx Δ (setC O3 p (.lst es)) | none => False)
    | _ => False)
  | _, _ => False) (fun x O1 => En.xc x Δ O1)) (fun x O1 => En.xc x Δ O1)) (fun x O1 => En.xc x Δ O1) := rfl
theorem set_0 {a d : D} {r : List D} : setI (a :: r) 0 d = some (d :: r) := by
  have h : ixN (a :: r).length 0 = some 0 := by unfold ixN; rw [if_pos (by omega), if_pos (by simp only [List.length_cons]; omega)]; rfl
  unfold setI
  rw [h]
  rfl
theorem set_1 {a b d : D} {r : List D} : setI (a :: b :: r) 1 d = some (a :: d :: r) := by
  have h : ixN (a :: b :: r).length 1 = some 1 := by unfold ixN; rw [if_pos (by omega), if_pos (by simp only [List.length_cons]; omega)]; rfl
  unfold setI
  rw [h]
  rfl
theorem set_2 {a b c d : D} {r : List D} : setI (a :: b :: c :: r) 2 d = some (a :: b :: d :: r) := by
  have h : ixN (a :: b :: c :: r).length 2 = some 2 := by unfold ixN; rw [if_pos (by omega), if_pos (by simp only [List.length_cons]; omega)]; rfl
  unfold setI
  rw [h]
  rfl
theorem set_3 {a b c e d : D} {r : List D} : setI (a :: b :: c :: e :: r) 3 d = some (a :: b :: c :: d :: r) := by
  have h : ixN (a :: b :: c :: e :: r).length 3 = some 3 := by unfold ixN; rw [if_pos (by omega), if_pos (by simp only [List.length_cons]; omega)]; rfl
  unfold setI
  rw [h]
  rfl
theorem e_setF {cs : List Cl} {f : Fd} : dSetF cs f Ta Tb En Δ O = Tb Δ O (fun d O1 => Ta Δ O1 (fun o O2 => match o with
  | .ptr p => (match getC O2 p with
    | some (.ins c fs ds) => c ∈ cs ∧ fs.length < 900 ∧ En.nx Δ (setC O2 p (.ins c (putFs f fs) (putDs f d fs ds)))
    | _ => False)
  | _ => False) (fun x O1 => En.xc x Δ O1)) (fun x O1 => En.xc x Δ O1) := rfl
theorem e_isT {n : String} : dIsT n Ta Δ O P E = Ta Δ O (fun d O1 => match tyD O1 d with
  | some m => (match kitB m n with | some k => P (.bl k) O1 | none => False)
  | none => False) E := rfl
theorem e_make {cl : Cl} {S : DSp} : dMake cl S R Δ O P E = R Δ O (fun ds O1 => ∀ q, freshC O1 q → S (.ptr q :: ds) ((q, .ins cl [] []) :: O1)
  (fun r O2 => r = .non ∧ (match getC O2 q with | some (.ins c' fs ds') => P (.obj c' fs ds') (delC O2 q) | _ => False)) (fun x O2 => E x (delC O2 q))) E := rfl
/-! ### operations on made data -/
theorem f_ixT {ds : List D} {i : Int} : fIx (.tup ds) (.int i) O P = (match atI ds i with | some d => P d O | none => False) := rfl
theorem f_ixL {ds : List D} {i : Int} : fIx (.lst ds) (.int i) O P = (match atI ds i with | some d => P d O | none => False) := rfl
theorem f_ixP {a : Addr} {i : Int} : fIx (.ptr a) (.int i) O P = (match lstOf O (.ptr a) with | some ds => (match atI ds i with | some d => P d O | none => False) | none => False) := rfl
theorem f_add {i j : Int} : fAdd (.int i) (.int j) O P = P (.int (i + j)) O := rfl
theorem f_sub {i j : Int} : fSub (.int i) (.int j) O P = P (.int (i - j)) O := rfl
theorem f_mul {i j : Int} : fMul (.int i) (.int j) O P = (CMul i j ∧ P (.int (i * j)) O) := rfl
theorem f_mod {i j : Int} : fMod (.int i) (.int j) O P = (0 < j ∧ P (.int (i % j)) O) := rfl
theorem f_div {i j : Int} : fDiv (.int i) (.int j) O P = (CDiv i j ∧ P (.int (i / j)) O) := rfl
theorem f_pow {i j : Int} : fPow (.int i) (.int j) O P = (CPow i j ∧ P (.int (i ^ j.toNat)) O) := rfl
theorem f_lt {i j : Int} : fLt (.int i) (.int j) O P = P (.bl (decide (i < j))) O := rfl
theorem f_le {i j : Int} : fLe (.int i) (.int j) O P = P (.bl (decide (i ≤ j))) O := rfl
theorem f_gt {i j : Int} : fGt (.int i) (.int j) O P = P (.bl (decide (j < i))) O := rfl
theorem f_ge {i j : Int} : fGe (.int i) (.int j) O P = P (.bl (decide (j ≤ i))) O := rfl
theorem f_eq {i j : Int} : fEq (.int i) (.int j) O P = P (.bl (decide (i = j))) O := rfl
theorem f_ne {i j : Int} : fNe (.int i) (.int j) O P = P (.bl (!decide (i = j))) O := rfl
theorem f_int {i : Int} : fInt [.int i] O P = P (.int i) O := rfl
theorem f_neg {i : Int} : fNeg (.int i) O P = P (.int (-i)) O := rfl
theorem f_lenL {ds : List D} : fLen [.lst ds] O P = P (.int (ds.length : Int)) O := rfl
theorem f_lenT {ds : List D} : fLen [.tup ds] O P = P (.int (ds.length : Int)) O := rfl
theorem f_lenP {a : Addr} : fLen [.ptr a] O P = (match lenD O (.ptr a) with | some n => P (.int (n : Int)) O | none => False) := rfl
theorem l_ptr {a : Addr} {ds : List D} (h : getC O a = some (.lst ds)) : lstOf O (.ptr a) = some ds := by simp only [lstOf, h]
theorem n_ptr {a : Addr} {ds : List D} (h : getC O a = some (.lst ds)) : lenD O (.ptr a) = some ds.length := by simp only [lenD, h]
theorem getC_self {a : Addr} {c : Cell} : getC ((a, c) :: O) a = some c := by simp [getC]
theorem getC_other {a b : Addr} {c : Cell} (h : a ≠ b) : getC ((b, c) :: O) a = getC O a := by simp [getC, h]
theorem setC_self {a : Addr} {c c' : Cell} : setC ((a, c) :: O) a c' = (a, c') :: O := by simp [setC]
theorem delC_self {a : Addr} {c : Cell} : delC ((a, c) :: O) a = O := by simp [delC]
theorem setC_other {a b : Addr} {c c' : Cell} (h : a ≠ b) : setC ((b, c) :: O) a c' = (b, c) :: setC O a c' := by simp [setC, h]
theorem delC_other {a b : Addr} {c : Cell} (h : a ≠ b) : delC ((b, c) :: O) a = (b, c) :: delC O a := by simp [delC, h]
theorem at_0 {a : D} {r : List D} : atI (a :: r) 0 = some a := atI_nat (j := 0) rfl
theorem at_1 {a b : D} {r : List D} : atI (a :: b :: r) 1 = some b := atI_nat (j := 1) rfl
theorem at_2 {a b c : D} {r : List D} : atI (a :: b :: c :: r) 2 = some c := atI_nat (j := 2) rfl
theorem at_3 {a b c e : D} {r : List D} : atI (a :: b :: c :: e :: r) 3 = some e := atI_nat (j := 3) rfl
theorem at_m1 {l : List D} {a : D} : atI (l ++ [a]) (-1) = some a := atI_last l a
theorem ix_lit {n : Nat} {k : Nat} (h : k < n) : ixN n (k : Int) = some k := by
  unfold ixN
  rw [if_pos (by omega), if_pos (by omega)]
  simp
theorem ix_4_1 : ixN 4 1 = some 1 := rfl
theorem ix_4_2 : ixN 4 2 = some 2 := rfl
theorem ix_4_3 : ixN 4 3 = some 3 := rfl
end
end G

set_option Elab.async false
set_option linter.all false
set_option maxRecDepth 100000
set_option maxHeartbeats 4000000
namespace G
open PySem L2
/-! ## loops over plain data -/
inductive All2 {α β : Type} (R : α → β → Prop) : List α → List β → Prop
  | nil : All2 R [] []
  | cons {a : α} {b : β} {as : List α} {bs : List β} : R a b → All2 R as bs → All2 R (a :: as) (b :: bs)
theorem All2.length {α β : Type} {R : α → β → Prop} {as : List α} {bs : List β} (h : All2 R as bs) : as.length = bs.length := by
  induction h with
  | nil => rfl
  | cons _ _ ih => simp [ih]
section
variable {Δ : Sl} {O : Sto} {P : KD} {E : KX} {En : DEnds} {Ta Tb Tc : DE} {T U : DS} {R : DA} {t u : DT} {i j : Nat} {d x y : D} {PB : Bool → Sto → Prop} {PA : List D → Sto → Prop}
  {Gd : DG} {Tt : DT} {Te : DE} {p : Addr} {vs : List Nat}
theorem e_itL : dItL Ta Δ O PA E = Ta Δ O (fun d O1 => match d with | .lst ds => PA ds O1 | _ => False) E := rfl
theorem e_itT : dItT Ta Δ O PA E = Ta Δ O (fun d O1 => match d with | .tup ds => PA ds O1 | _ => False) E := rfl
theorem e_rng1 : dRng1 R Δ O PA E = R Δ O (fun ds O1 => match ds with | [.int j] => -(2 ^ 62) ≤ j ∧ j < 2 ^ 62 ∧ PA (rangeD 0 j.toNat) O1 | _ => False) E := rfl
theorem e_rng2 : dRng2 R Δ O PA E = R Δ O (fun ds O1 => match ds with | [.int i, .int j] => (-(2 ^ 62) ≤ i ∧ i < 2 ^ 62 ∧ -(2 ^ 62) ≤ j ∧ j < 2 ^ 62) ∧ PA (rangeD i (j - i).toNat) O1 | _ => False) E := rfl
theorem e_yes : dYes Δ O PB E = PB true O := rfl
theorem e_gn {Q : Sl → Prop} : dgN i d Δ Q = Q (Δ.set i (some d)) := rfl
theorem e_lc : dLc R Gd Tt Te vs Δ O P E = R Δ O (fun ds O1 => ds.length ≤ 1000000 ∧ ∀ p, freshC O1 p → lcD Gd Tt Te p (fun acc O2 => P (.lst acc) O2) ds [] (wipeD Δ vs) O1) E := rfl
theorem e_lcO : dLcO R Gd Tt Te vs Δ O P E = R Δ O (fun ds O1 => ds.length ≤ 1000000 ∧ ∀ p, freshC O1 p → lcD Gd Tt Te p (fun acc O2 => P (.ptr p) ((p, .lst acc) :: O2)) ds [] (wipeD Δ vs) O1) E := rfl
theorem e_for : dFor R Gd T En Δ O = R Δ O (fun ds O1 => forD Gd T En ds Δ O1) (fun x O1 => En.xc x Δ O1) := rfl
theorem e_brk : dBrk En Δ O = En.bk Δ O := rfl
theorem e_cnt : dCnt En Δ O = En.ct Δ O := rfl
theorem e_wipe0 : wipeD Δ [] = Δ := rfl
theorem e_wipe1 : wipeD Δ (i :: vs) = (wipeD Δ vs).set i none := rfl
theorem ex_c {c : Cell} {C : Sto → Prop} : (∃ O3, (p, c) :: O = (p, c) :: O3 ∧ C O3) = C O := by
  apply propext
  constructor
  · rintro ⟨O3, e, h⟩
    cases e
    exact h
  · intro h
    exact ⟨O, rfl, h⟩
theorem freshC_ne {b : Addr} {c : Cell} (h : getC O b = some c) (hp : freshC O p) : b ≠ p := hp _ (getC_mem h)
theorem getC_fresh {b : Addr} {c c' : Cell} (h : getC O b = some c) (hp : freshC O p) : getC ((p, c') :: O) b = some c := by rw [getC_other (freshC_ne h hp)]; exact h
/-- one pass -/
def lcStep (Gd : DG) (Tt : DT) (Te : DE) (p : Addr) (acc : List D) (Δ : Sl) (O : Sto) (x : D) (C : Option D → Sto → Prop) : Prop :=
  Gd x Δ fun Δ' => Tt Δ' ((p, .lst acc) :: O) (fun k O1 => if k = true
      then Te Δ' O1 (fun y O2 => ∃ O3, O2 = (p, .lst acc) :: O3 ∧ C (some y) O3) (fun _ _ => False)
      else ∃ O3, O1 = (p, .lst acc) :: O3 ∧ C none O3) (fun _ _ => False)
theorem lc_all {α : Type} {emb : α → D} {St : α → Option D → Prop} {Q : List D → Sto → Prop} : ∀ {xs : List α} {acc : List D}, (∀ x ∈ xs, ∀ acc C, (∀ o, St x o → C o O) → lcStep Gd Tt Te p acc Δ O (emb x) C) → (∀ os, All2 St xs os → Q (acc ++ os.filterMap id) O) → lcD Gd Tt Te p Q (xs.map emb) acc Δ O := by
  intro xs
  induction xs with
  | nil =>
    intro acc _ fin
    have z := fin [] .nil
    rw [List.filterMap_nil, List.append_nil] at z
    exact z
  | cons x xs ih =>
    intro acc step fin
    refine step x List.mem_cons_self acc (fun o O3 => match o with | some y => lcD Gd Tt Te p Q (xs.map emb) (acc ++ [y]) Δ O3 | none => lcD Gd Tt Te p Q (xs.map emb) acc Δ O3) fun o ho => ?_
    cases o with
    | some y =>
      refine ih (fun x hx => step x (List.mem_cons_of_mem _ hx)) fun os hos => ?_
      have z := fin (some y :: os) (.cons ho hos)
      rw [List.filterMap_cons_some (f := id) (b := y) rfl] at z
      rw [List.append_assoc]
      exact z
    | none =>
      refine ih (fun x hx => step x (List.mem_cons_of_mem _ hx)) fun os hos => ?_
      have z := fin (none :: os) (.cons ho hos)
      rw [List.filterMap_cons_none (f := id) rfl] at z
      exact z
theorem lc_det {α : Type} {emb : α → D} (f : α → Option D) {Q : List D → Sto → Prop} {xs : List α} {acc : List D} (step : ∀ x ∈ xs, ∀ acc C, C (f x) O → lcStep Gd Tt Te p acc Δ O (emb x) C) (fin : Q (acc ++ xs.filterMap f) O) : lcD Gd Tt Te p Q (xs.map emb) acc Δ O := by
  refine lc_all (St := fun x o => o = f x) (fun x hx acc C h => step x hx acc C (h _ rfl)) fun os h => ?_
  have e : os.filterMap id = xs.filterMap f := by
    clear fin step
    induction h with
    | nil => rfl
    | cons h _ ih => subst h; rw [List.filterMap_cons, List.filterMap_cons, ih]; rfl
  rw [e]
  exact fin
/-- [e(x) for x in xs] -/
theorem lc_map {α : Type} {emb : α → D} (f : α → D) {Q : List D → Sto → Prop} {xs : List α} (step : ∀ x ∈ xs, ∀ acc C, C (some (f x)) O → lcStep Gd Tt Te p acc Δ O (emb x) C) (fin : Q (xs.map f) O) : lcD Gd Tt Te p Q (xs.map emb) [] Δ O := by
  refine lc_det (fun x => some (f x)) step ?_
  rw [List.nil_append, List.filterMap_eq_map']
  exact fin
/-- [e(x) for x in xs if c(x)] -/
theorem lc_filter {α : Type} {emb : α → D} (f : α → D) (c : α → Bool) {Q : List D → Sto → Prop} {xs : List α} (step : ∀ x ∈ xs, ∀ acc C, C (if c x = true then some (f x) else none) O → lcStep Gd Tt Te p acc Δ O (emb x) C) (fin : Q ((xs.filter c).map f) O) : lcD Gd Tt Te p Q (xs.map emb) [] Δ O := by
  refine lc_det (fun x => if c x = true then some (f x) else none) step ?_
  have e : xs.filterMap (fun x => if c x = true then some (f x) else none) = (xs.filter c).map f := by
    clear fin step
    induction xs with
    | nil => rfl
    | cons x xs ih =>
      by_cases h : c x = true
      · rw [List.filterMap_cons_some (b := f x) (by simp [h]), List.filter_cons_of_pos h, List.map_cons, ih]
      · rw [List.filterMap_cons_none (by simp [h]), List.filter_cons_of_neg h, ih]
  rw [List.nil_append, e]
  exact fin
/-- drawn: each element answers R -/
theorem lc_draw {α β : Type} {emb : α → D} {em : β → D} {St : α → β → Prop} {Q : List D → Sto → Prop} {xs : List α} (step : ∀ x ∈ xs, ∀ acc C, (∀ y, St x y → C (some (em y)) O) → lcStep Gd Tt Te p acc Δ O (emb x) C) (fin : ∀ ys, All2 St xs ys → Q (ys.map em) O) : lcD Gd Tt Te p Q (xs.map emb) [] Δ O := by
  refine lc_all (St := fun x o => ∃ y, St x y ∧ o = some (em y)) (fun x hx acc C h => step x hx acc C fun y hy => h _ ⟨y, hy, rfl⟩) fun os h => ?_
  have e : ∃ ys, All2 St xs ys ∧ os.filterMap id = ys.map em := by
    clear fin step
    induction h with
    | nil => exact ⟨[], .nil, rfl⟩
    | cons h _ ih =>
      obtain ⟨y, hy, rfl⟩ := h
      obtain ⟨ys, h1, h2⟩ := ih
      exact ⟨y :: ys, .cons hy h1, by rw [List.filterMap_cons_some (f := id) (b := em y) rfl, h2]; rfl⟩
  obtain ⟨ys, h1, h2⟩ := e
  rw [h2, List.nil_append]
  exact fin ys h1
theorem for_inv {α : Type} {emb : α → D} (I : List α → Sl → Sto → Prop) (hend : ∀ Δ O, I [] Δ O → En.nx Δ O) : ∀ {xs : List α} {Δ : Sl} {O : Sto}, I xs Δ O →
    (∀ x ∈ xs, ∀ r Δ O (K : Sl → Sto → Prop), I (x :: r) Δ O → (∀ Δ' O', I r Δ' O' → K Δ' O') → Gd (emb x) Δ fun Δ' => T { En with nx := K, ct := K, bk := En.nx } Δ' O) → forD Gd T En (xs.map emb) Δ O := by
  intro xs
  induction xs with
  | nil => intro Δ O h _; exact hend Δ O h
  | cons x xs ih => intro Δ O h step; exact step x List.mem_cons_self xs Δ O _ h fun Δ' O' h' => ih h' fun x hx => step x (List.mem_cons_of_mem _ hx)
/-- .. and what has been walked is known -/
theorem for_inv2 {α : Type} {emb : α → D} (I : List α → Sl → Sto → Prop) {xs : List α} {Δ : Sl} {O : Sto} (h0 : I [] Δ O) (hend : ∀ Δ O, I xs Δ O → En.nx Δ O)
    (step : ∀ l x r, xs = l ++ x :: r → ∀ Δ O (K : Sl → Sto → Prop), I l Δ O → (∀ Δ' O', I (l ++ [x]) Δ' O' → K Δ' O') → Gd (emb x) Δ fun Δ' => T { En with nx := K, ct := K, bk := En.nx } Δ' O) : forD Gd T En (xs.map emb) Δ O := by
  have key : ∀ (r l : List α) (Δ : Sl) (O : Sto), xs = l ++ r → I l Δ O → forD Gd T En (r.map emb) Δ O := by
    intro r
    induction r with
    | nil =>
      intro l Δ O e h
      rw [List.append_nil] at e
      subst e
      exact hend _ _ h
    | cons x r ih =>
      intro l Δ O e h
      exact step l x r e Δ O _ h fun Δ' O' h' => ih (l ++ [x]) Δ' O' (by rw [e, List.append_assoc]; rfl) h'
  exact key xs [] Δ O rfl h0
end
/-! ## Lean types as data -/
class Em (α : Type) [DecidableEq α] [PySem.W.Datum α] where
  em : α → D
  py_em : ∀ a, py (em a) = some (PySem.W.Datum.toD a)
  lay : ∀ a : α, (PySem.W.Datum.toD a).canLay0 = true

end G
namespace G
open PySem L2
instance : Em Int := ⟨.int, fun _ => rfl, fun _ => rfl⟩
instance : Em Bool := ⟨.bl, fun _ => rfl, fun _ => rfl⟩
section
variable {α β : Type} [DecidableEq α] [PySem.W.Datum α] [Em α] [DecidableEq β] [PySem.W.Datum β] [Em β]
theorem pys_em : ∀ xs : List α, pys (xs.map Em.em) = some (xs.map PySem.W.Datum.toD)
  | [] => rfl
  | x :: xs => by
    rw [List.map_cons, pys, Em.py_em, pys_em xs]
    rfl
theorem lays_em : ∀ xs : List α, PyData.canLayAll0 (xs.map PySem.W.Datum.toD) = true
  | [] => rfl
  | x :: xs => by
    rw [List.map_cons, PyData.canLayAll0, Em.lay, lays_em xs]
    rfl
instance : Em (List α) := ⟨fun xs => .lst (xs.map Em.em), fun xs => by rw [py, pys_em]; rfl, fun xs => by
  show PyData.canLay0 (.list (xs.map PySem.W.Datum.toD)) = true
  rw [PyData.canLay0, lays_em]⟩
instance : Em (PySem.W.Tup α) := ⟨fun xs => .tup (xs.items.map Em.em), fun xs => by rw [py, pys_em]; rfl, fun xs => by
  show PyData.canLay0 (.tuple (xs.items.map PySem.W.Datum.toD)) = true
  rw [PyData.canLay0, lays_em]⟩
instance : Em (α × β) := ⟨fun x => .tup [Em.em x.1, Em.em x.2], fun x => by
  rw [py, pys, pys, pys, Em.py_em, Em.py_em]; rfl, fun x => by
  show PyData.canLay0 (.tuple [PySem.W.Datum.toD x.1, PySem.W.Datum.toD x.2]) = true
  rw [PyData.canLay0, PyData.canLayAll0, PyData.canLayAll0, PyData.canLayAll0, Em.lay, Em.lay]
  rfl⟩
theorem shaped_em (h : PySem.W.Datum.depth α ≤ 64) (a : α) : SeqAt.shaped (PySem.W.Datum.toD a) = true := by
  unfold SeqAt.shaped
  rw [Em.lay, Bool.true_and]
  exact decide_eq_true (Nat.le_trans (PySem.W.Datum.depth_le a) h)
/-- == of data that a Lean type says -/
theorem eqB_em (a b : α) (h : PySem.W.Datum.depth α ≤ 64 := by decide) : eqB (Em.em a) (Em.em b) = some (decide (a = b)) := by
  have e := PySem.W.Datum.eqv a b
  have s1 := shaped_em h a
  have s2 := shaped_em h b
  have p1 := Em.py_em a
  have p2 := Em.py_em b
  unfold eqB
  split
  · rename_i i j e1 e2
    rw [e1] at p1
    rw [e2] at p2
    simp only [py, Option.some.injEq] at p1 p2
    rw [← p1, ← p2] at e
    simp only [PyData.eqv] at e
    rw [← e]
    congr 1
  · rename_i i j e1 e2
    rw [e1] at p1
    rw [e2] at p2
    simp only [py, Option.some.injEq] at p1 p2
    rw [← p1, ← p2] at e
    simp only [PyData.eqv] at e
    rw [← e]
    congr 1
  · rename_i i j e1 e2
    rw [e1] at p1
    rw [e2] at p2
    simp only [py, Option.some.injEq] at p1 p2
    rw [← p1, ← p2] at e
    simp only [PyData.eqv] at e
    rw [← e]
    congr 1
  · rw [p1, p2]
    simp only [s1, s2, and_self, ↓reduceIte, e]
end
/-- a tuple of two whole numbers -/
abbrev pr (x : Int × Int) : D := .tup [.int x.1, .int x.2]
theorem eq_prs (xs ys : List (Int × Int)) : eqB (.lst (xs.map pr)) (.lst (ys.map pr)) = some (decide (xs = ys)) := eqB_em (α := List (Int × Int)) xs ys
theorem eq_pr (x y : Int × Int) : eqB (pr x) (pr y) = some (decide (x = y)) := eqB_em (α := Int × Int) x y
theorem eq_ints (xs ys : List Int) : eqB (.lst (xs.map .int)) (.lst (ys.map .int)) = some (decide (xs = ys)) := eqB_em (α := List Int) xs ys
end G
namespace G
open PySem L2
section
variable {O : Sto} {P : KD} {PB : Bool → Sto → Prop}
theorem f_addL {l m : List D} : fAdd (.lst l) (.lst m) O P = (l.length + m.length ≤ sizeLine ∧ P (.lst (l ++ m)) O) := rfl
theorem f_addS {l m : Str} : fAdd (.str l) (.str m) O P = (l.length + m.length ≤ sizeLine ∧ P (.str (l ++ m)) O) := rfl
theorem f_len0 {ds : List D} {a : Addr} (h : getC O a = some (.lst ds)) : fLen [.ptr a] O P = P (.int (ds.length : Int)) O := by rw [f_lenP, n_ptr h]
theorem truL {ds : List D} : truD O (.lst ds) = some (!ds.isEmpty) := rfl
theorem truT {ds : List D} : truD O (.tup ds) = some (!ds.isEmpty) := rfl
theorem truI {i : Int} : truD O (.int i) = some (i != 0) := rfl
theorem truB {i : Bool} : truD O (.bl i) = some i := rfl
theorem truN : truD O .non = some false := rfl
theorem truP {a : Addr} {ds : List D} (h : getC O a = some (.lst ds)) : truD O (.ptr a) = some (!ds.isEmpty) := by simp only [truD, h]
theorem objO {c : Cl} {fs : List Fd} {ds : List D} : objOf O (.obj c fs ds) = some (c, fs, ds) := rfl
theorem objP {a : Addr} {c : Cl} {fs : List Fd} {ds : List D} (h : getC O a = some (.ins c fs ds)) : objOf O (.ptr a) = some (c, fs, ds) := by simp only [objOf, h]
theorem clsO {c : Cl} {fs : List Fd} {ds : List D} : clsOf O (.obj c fs ds) = some c := rfl
theorem clsP {a : Addr} {c : Cl} {fs : List Fd} {ds : List D} (h : getC O a = some (.ins c fs ds)) : clsOf O (.ptr a) = some c := by simp only [clsOf, objP h, Option.map]
theorem atI_lt {ds : List D} {i : Int} (h0 : 0 ≤ i) (h1 : i < ds.length) : ∃ d, d ∈ ds ∧ atI ds i = some d := by
  obtain ⟨n, rfl⟩ := Int.eq_ofNat_of_zero_le h0
  have hn : n < ds.length := by omega
  exact ⟨ds[n], List.getElem_mem hn, atI_nat (List.getElem?_eq_getElem hn)⟩
theorem atI_map {α : Type} {f : α → D} {xs : List α} {i : Int} (h0 : 0 ≤ i) (h1 : i < xs.length) : ∃ x, x ∈ xs ∧ atI (xs.map f) i = some (f x) := by
  obtain ⟨d, hd, e⟩ := atI_lt (ds := xs.map f) h0 (by rw [List.length_map]; exact h1)
  obtain ⟨x, hx, rfl⟩ := List.mem_map.mp hd
  exact ⟨x, hx, e⟩
theorem rangeD_map (i : Int) (n : Nat) : ∃ ks : List Int, rangeD i n = ks.map D.int ∧ ks.length = n := by
  refine ⟨(List.range n).map fun (j : Nat) => i + (j : Int), ?_, by simp⟩
  unfold rangeD
  rw [List.map_map]
  rfl
end
end G
namespace G
open PySem L2
theorem cut_map {α : Type} (f : α → D) (ns : List α) (lo hi : Option Int) : cutD (ns.map f) lo hi = ((ns.drop (HT.sIx ns.length 0 lo)).take (HT.sIx ns.length ns.length hi - HT.sIx ns.length 0 lo)).map f := by
  unfold cutD
  rw [List.length_map, List.map_take, List.map_drop]
theorem cut_box (ns : List Int) : ∃ ms : List Int, cutD (ns.map D.int) none (some 63) = ms.map D.int ∧ ms.length ≤ 63 := by
  refine ⟨_, cut_map D.int ns none (some 63), ?_⟩
  rw [List.length_take]
  have h : HT.sIx ns.length ns.length (some 63) = min 63 ns.length := HT.sIx_nat ns.length ns.length 63
  rw [h]
  omega
end G

set_option Elab.async false
set_option linter.all false
set_option maxRecDepth 100000
set_option maxHeartbeats 4000000
namespace G
open PySem L2
/-! ## an own __contains__ -/
theorem contains_here {M : Model} {A : Around} {E : Value → Shared → Prop} {s : Shared} {K : PySem.W.Frag} {x C f : Addr} {ox : Obj} {od : Option Obj} {v : Value} {Q : Bool → Shared → Prop} (X : K.In s.heap) (I : PySem.W.InstAt s.heap x ox C od)
    (m : Meth K C "__contains__" f) (h : wpAny M A (call (.ref f) [.ref x, v]) (fun r s' => wpAny M A (truthy r) Q E s') E s) : wpAny M A (contains (.ref x) v) Q E s := by
  unfold contains
  refine wpAny_holding (wpAny_bind (wpAny_bind (I.type.here ((PySem.W.looks_findIn X m.at_).here ?_))))
  rw [if_neg (by simp)]
  exact wpAny_bind (PySem.W.unlessNone_K X I m.at_ m.fn h)
def boolK (P : Bool → Sto → Prop) : KD := fun r O => match r with | .bl k => P k O | _ => False
def dInOwn (tab : List (Cl × DSp)) (Ta Tb : DE) : DE := fun Δ O P E => Ta Δ O (fun x O1 => Tb Δ O1 (fun y O2 => match clsOf O2 y with
  | some c => (match tabAt tab c with | some S => S [y, x] O2 (boolK fun k O3 => P (.bl k) O3) E | none => False)
  | none => False) E) E
def dNotInOwn (tab : List (Cl × DSp)) (Ta Tb : DE) : DE := fun Δ O P E => Ta Δ O (fun x O1 => Tb Δ O1 (fun y O2 => match clsOf O2 y with
  | some c => (match tabAt tab c with | some S => S [y, x] O2 (boolK fun k O3 => P (.bl (!k)) O3) E | none => False)
  | none => False) E) E
section
variable {g : Gm} {X : Cx} {W : WX} {pos pos' p apos : Pos} {a b c o : Expr} {es : List Expr} {Ta Tb : DE} {R : DA} {k : Nat} {f : Addr} {S : DSp} {x m : Str} {tab : List (Cl × DSp)}
/-- what is known where an own operation is reached -/
def OwnAt (g : Gm) (W : WX) (σ : St) (tab : List (Cl × DSp)) (v : V) (vs : List V) (H : Hp) (Q : VK) : Prop := ∃ c q dx fs S, v = .ref q ∧ H q = some (.ins (g.ca c) dx fs) ∧ tabAt tab c = some S ∧ toSp g S (v :: vs) H Q fun cls dd H' => W cls dd σ H'
theorem own_at {σ : St} {H1 : Hp} {Q : VK} {P : KD} {E : KX} {F F1 : Hp} {O1 : Sto} {y : D} {ds : List D} {v : V} {vs : List V} (h : match clsOf O1 y with | some c => (match tabAt tab c with | some S => S (y :: ds) O1 P E | none => False) | none => False)
    (ry : Rep g F1 y v) (rs : Reps g F1 ds vs) (w1 : Wd g F1 O1 H1) (hv : VOk g F P Q) (s1 : Same F F1) (hx : XOk g F1 W σ E) : OwnAt g W σ tab v vs H1 Q := by
  split at h
  · rename_i c e
    obtain ⟨q, dx, fs, rfl, h1, _⟩ := obj_look (m := "__contains__") e ry w1 (by decide +kernel)
    split at h
    · rename_i S eS
      exact ⟨c, q, dx, fs, S, rfl, h1, eS, sp_of h (Reps.cons ry rs) w1 hv s1 hx⟩
    · exact h.elim
  · exact h.elim
theorem inst_of {pins : List (Addr × Obj)} {σ : St} {H : Hp} {s : Shared} {q C dx : Addr} {fs : List (Str × V)} (I : Inv X pins σ H s) (e : H q = some (.ins C dx fs)) : ∃ ox od, PySem.W.InstAt s.heap q ox C (some od) := by
  obtain ⟨mA, O, r, _, _, _⟩ := ins_get I.hok e
  obtain ⟨od, h, _⟩ := O.look
  exact ⟨_, od, h⟩
theorem in_run {pins : List (Addr × Obj)} {σ : St} {H : Hp} {s : Shared} {Q : Bool → Hp → Prop} {x y : V} {v u : Value} (M : MTab g X.prog X.w X.K X.mg X.base k "__contains__" tab) (hr : Room k X.A) (tk : Takes X W) (I : Inv X pins σ H s) (rx : RelV x v) (ry : RelV y u)
    (h : OwnAt g W σ tab y [x] H fun z H' => ∃ k, z = .bl k ∧ Q k H') {R : Bool → Shared → Prop} (hR : ∀ k s' H', Inv X pins σ H' s' → Q k H' → R k s') : wpAny (model X.prog X.w) X.A (contains u v) R X.xe s := by
  obtain ⟨c, q, dx, fs, S, rfl, eq, eS, hS⟩ := h
  obtain rfl : u = Value.ref q := ry
  obtain ⟨cls, f, mt, Fn⟩ := M c S eS
  obtain ⟨ox, od, J⟩ := inst_of I eq
  refine contains_here I.kIn J mt (thn (wpAny_call (run_FN (us := [.ref q, v]) (vs := [.ref q, x]) Fn hr tk I (.cons rfl (.cons rx .nil)) hS)) fun r s1 ⟨z, H1, I1, rz, kk, ez, q1⟩ => ?_)
  subst ez
  cases rz
  exact wpAny_truthy_bool (hR _ _ _ I1 q1)
theorem bok_own {F : Hp} {P : Bool → Sto → Prop} {Q : Bool → Hp → Prop} (h : ∀ b O F' H, P b O → Same F F' → Wd g F' O H → Q b H) : VOk g F (boolK P) fun z H' => ∃ k, z = .bl k ∧ Q k H' := fun d O v F' H hd s w r => by
  cases d with
  | bl k => exact ⟨k, Rep.bl_iff.mp r, h k O F' H hd s w⟩
  | _ => exact hd.elim
theorem q_inOwn {j : Nat} (M : MTab g X.prog X.w X.K X.mg X.base k "__contains__" tab) (hr : Room j X.A) (tk : Takes X W) (ha : PE X a (le g W Ta)) (hb : PE X b (le g W Tb)) (hkj : k ≤ j := by decide) (hm : behindInMarks .In b = false := by rfl) : PE X (.Compare a [.In] [b] pos) (le g W (dInOwn tab Ta Tb)) := by
  refine ⟨fun pins s σ H Q I h => ?_⟩
  obtain ⟨Δ, O, P, E, F, hT, sr, w, hv, hx⟩ := h
  refine wpAny_Compare1 (binT ha hb (R := fun x y H2 => OwnAt g W σ tab y [x] H2 fun z H' => ∃ k, z = .bl k ∧ Q (.bl k) H') I (le_bind hT sr w hx fun x O1 vx F1 H1 hT1 s1 sr1 w1 rx hx1 => le_bind hT1 sr1 w1 hx1 fun y O2 vy F2 H2 hT2 s2 sr2 w2 ry hx2 => ?_) fun v u s2 x y H2 I2 rx ry q => ?_) hm
  · exact own_at hT2 ry (Reps.one (rx.mono s2)) w2 (bok_own fun k O3 F3 H3 h3 s3 w3 => hv _ _ _ _ _ h3 (s1.trans (s2.trans s3)) w3 rbl) (Same.refl _) hx2
  · exact wpAny_bind (in_run M (hr.mono hkj) tk I2 rx ry q fun k s' H' I' q' => wpAny_pure ⟨.bl k, H', I', rfl, q'⟩)
theorem qt_inOwn {j : Nat} (M : MTab g X.prog X.w X.K X.mg X.base k "__contains__" tab) (hr : Room j X.A) (tk : Takes X W) (ha : PE X a (le g W Ta)) (hb : PE X b (le g W Tb)) (hkj : k ≤ j := by decide) (hm : behindInMarks .In b = false := by rfl) : PT X (.Compare a [.In] [b] pos) (lt g W (dTe (dInOwn tab Ta Tb))) := by
  refine ⟨fun pins s σ H Q I h => ?_⟩
  obtain ⟨Δ, O, P, E, F, hT, sr, w, hv, hx⟩ := h
  refine wpAny_isTrue_Compare1 (thn (ha.run pins s σ H (fun x H1 => le g W Tb σ H1 fun y H2 => OwnAt g W σ tab y [x] H2 fun z H' => ∃ k, z = .bl k ∧ Q k H') I (le_bind hT sr w hx fun x O1 vx F1 H1 hT1 s1 sr1 w1 rx hx1 => le_bind hT1 sr1 w1 hx1 fun y O2 vy F2 H2 hT2 s2 sr2 w2 ry hx2 => ?_)) fun v s1 ⟨x, H1, I1, r1, q1⟩ => thn (hb.run pins s1 σ H1 _ I1 q1) fun u s2 ⟨y, H2, I2, r2, q2⟩ => ?_) hm
  · exact own_at hT2 ry (Reps.one (rx.mono s2)) w2 (bok_own fun k O3 F3 H3 h3 s3 w3 => hv _ _ _ _ h3 (s1.trans (s2.trans s3)) w3) (Same.refl _) hx2
  · exact wpAny_bind (in_run M (hr.mono hkj) tk I2 r1 r2 q2 fun k s' H' I' q' => wpAny_pure (wpAny_truthy_bool ⟨H', I', q'⟩))
theorem e_inOwn {Δ : Sl} {O : Sto} {P : KD} {E : KX} : dInOwn tab Ta Tb Δ O P E = Ta Δ O (fun x O1 => Tb Δ O1 (fun y O2 => match clsOf O2 y with
  | some c => (match tabAt tab c with | some S => S [y, x] O2 (boolK fun k O3 => P (.bl k) O3) E | none => False)
  | none => False) E) E := rfl
theorem q_gmeth {pl : Sem Bool} {j : Nat} (M : MTab g X.prog X.w X.K X.mg X.base k m tab) (hr : Room j X.A) (tk : Takes X W) (ho : PE X o (le g W Ta)) (ha : PA X (a :: es) (la g W R)) (hkj : k ≤ j := by decide) (hmf : Fd.of m = none := by decide +kernel) (hK : X.K = g.K := by rfl)
    (hst : starEach (a :: es) X.env = (false, eval a X.env) :: starEach es X.env := by rfl) (hpl : (backTo pos (starEach es X.env)).any (·.1) = false := by rfl)
    (ht : eval (.Call (.Attribute o m apos) (a :: es) [] pos) X.env = (do
      let ov ← eval o X.env
      standAt apos.atName
      let (f, first) ← holding [ov] (getMethod ov m pl)
      callWith pos f first (backTo pos (starEach (a :: es) X.env)) (backToKw pos (keywordEach [] X.env))) := by rfl) :
    PE X (.Call (.Attribute o m apos) (a :: es) [] pos) (le g W (dMeth tab Ta R)) := q_meth M (hr.mono hkj) tk ho ha hmf hK hst hpl ht
end
end G

set_option Elab.async false
set_option linter.all false
set_option maxRecDepth 100000
set_option maxHeartbeats 4000000
namespace G
open PySem L2
/-! ## the end of a law -/
section
variable {K : PySem.W.Frag} {h : Heap} {mg : Str → Option Value} {g : Gm}
theorem defAt_mk {name : Str} {st : Stmt} {ps : List Str} {f : Addr} {fd : FuncData} (X : K.In h) (G : h.Ns mainGlobals mg) (a : PySem.W.nsIn K mainGlobals name = some (some (.ref f))) (F : Fun K name name st f fd) (hb : Binds K fd ps []) : DefAt K mg name st ps :=
  ⟨f, fd, PySem.W.mg_of X G a, F, hb⟩
theorem initAt_mk {cl : Cl} {name qual : Str} {st : Stmt} {ps : List Str} {f : Addr} {fd : FuncData} (X : g.K.In h) (G : h.Ns mainGlobals mg) (a : PySem.W.nsIn g.K mainGlobals name = some (some (.ref (g.ca cl)))) (mk : Mk g.K (g.ca cl) f) (F : Fun g.K "__init__" qual st f fd) (hb : Binds g.K fd ps []) :
    InitAt g g.K mg cl name qual st ps := ⟨PySem.W.mg_of X G a, f, fd, mk, F, hb⟩
theorem metAt_mk {cl : Cl} {name qual : Str} {st : Stmt} {ps : List Str} {f : Addr} {fd : FuncData} (m : Meth g.K (g.ca cl) name f) (F : Fun g.K name qual st f fd) (hb : Binds g.K fd ps []) : MetAt g g.K cl name qual st ps := ⟨f, fd, m, F, hb⟩
theorem flds_nil {f : Fd} : Flds g [] f := ⟨fun _ h => absurd h List.not_mem_nil, fun _ h => absurd h List.not_mem_nil⟩
theorem flds_cons {c : Cl} {cs : List Cl} {f : Fd} (h : Cls g.K (g.ca c)) (n : PySem.W.findIn g.K (.ref (g.ca c)) f.str = some none) (r : Flds g cs f) : Flds g (c :: cs) f :=
  ⟨fun d hd => by rcases List.mem_cons.mp hd with e | e; exact e ▸ h; exact r.cl d e, fun d hd => by rcases List.mem_cons.mp hd with e | e; exact e ▸ n; exact r.no d e⟩
end
/-- the law's promise -/
def spLaw (K : PySem.W.Frag) : Sp := fun vs H Q _ => ∃ (a : Addr) (ns : List Int), vs = [.ref a] ∧ SqL K H a (ns.map V.int) ∧ ns.length ≤ 63 ∧ ∀ H', Q (.bl true) H'
def SLaw : DSp := fun ds O P E => ∃ ns, ds = [.scr ns] ∧ O = [] ∧ ∀ O1, P (.bl true) O1
theorem spLaw_of {g : Gm} {vs : List V} {H : Hp} {Q : VK} {E : XK} (h : spLaw g.K vs H Q E) : toSp g SLaw vs H Q E := by
  obtain ⟨a, ns, rfl, hS, hl, k⟩ := h
  refine ⟨H, [], [.scr ns], fun d O => d = .bl true, fun _ _ => False, Reps.one (Rep.scr_iff.mpr ⟨a, rfl, hS⟩), ⟨Same.refl H, by simp, fun q hq => absurd hq List.not_mem_nil⟩, ⟨ns, rfl, rfl, fun _ => rfl⟩, fun d O v F' H' e s w r => ?_, fun _ _ _ _ _ _ z => z.elim⟩
  subst e
  rw [Rep.bl_iff.mp r]
  exact k H'
theorem walk {l : PySem.W.OpenLaw} {q : Program} {loose : List Str} {XP : (Str → Option Value) → Heap → Prop} {YP : World → Heap → Prop} {d : DefRec} {K : Params → PySem.W.Frag} {x : Str} (k : Nat) (hk : k ≤ 40) (hn : l.most = some 63) (hdf : d.params.defaults = [])
    (hY : ∀ (w : World) (h : Heap), YP w h → (K w.params).In h)
    (F : ∀ (w : World) (mg : Str → Option Value) (fa : Addr) (h : Heap), (K w.params).In h → h.Ns mainGlobals mg → mg d.name = some (.ref fa) →
      ∃ fd : FuncData, (∀ (s : Shared) (u : Value), BindsTo s fd ⟨[u], []⟩ [(x, u)]) ∧ ∀ base : Heap, (K w.params).In base → base.Ns mainGlobals mg → FnOk l.prog w (K w.params) mg base (L2.CX l.prog w) k fa fd [x] (spLaw (K w.params))) :
    PySem.W.WalkO q loose XP YP l.row.toRowW d [] (fun f vs => PySem.call f vs) :=
  L2.walk_of (n := 63) (k := k) (x := x) (CX := fun w => L2.CX l.prog w) (sp := fun w => spLaw (K w.params)) hn (by decide) hdf (Room.mono (k := 40) ⟨rfl, by decide, by decide⟩ hk) hY F (fun _ _ a ns hl _ hS => ⟨a, ns, rfl, hS, hl, fun _ => rfl⟩) fun w H s e s' z => by
    obtain ⟨_, _, _, _, _, _, _, _, _, _, _, _, z⟩ := z
    exact z
end G

set_option Elab.async false
set_option linter.all false
set_option maxRecDepth 100000
set_option maxHeartbeats 4000000
namespace G
open PySem L2
def S_law_take : DSp := fun ds O P E => ∃ b m, ds = [.ptr b, .int m] ∧ getC O b = some .box ∧ 0 < m ∧ m < 1073741824 ∧ ∀ r, 0 ≤ r → r < m → P (.int r) O
def N_law_take : List Str := ["_law_box_here", "_law_many", "_law_cells", "_law_digit", "_law_cell"]
def T_law_take_0 : DS := (dSetIx (dVar 0) (dC (.int 1)) (dOp fAdd (dOp fIx (dVar 0) (dC (.int 1))) (dC (.int 1))))
def T_law_take_1 : DS := (dSeq (dSetIx (dVar 0) (dC (.int 2)) (dOp fSub (dOp fIx (dVar 2) (dOp fIx (dVar 0) (dC (.int 1)))) (dOp fPow (dC (.int 10)) (dC (.int 18))))) T_law_take_0)
def T_law_take_2 : DS := (dSeq (dSetIx (dVar 0) (dC (.int 2)) (dOp fDiv (dCB fInt (dCons (dOp fIx (dVar 0) (dC (.int 2))) dNil)) (dVar 1))) (dRet (dVar 3)))
def T_law_take_3 : DS := (dSeq (dAsg 3 (dOp fMod (dCB fInt (dCons (dOp fIx (dVar 0) (dC (.int 2))) dNil)) (dVar 1))) T_law_take_2)
def T_law_take_4 : DS := (dAsg 4 (dCB fInt (dCons (dOp fIx (dVar 2) (dOp fIx (dVar 0) (dC (.int 1)))) dNil)))
def T_law_take_5 : DS := (dRet (dOp fMod (dOp fMod (dCB fInt (dCons (dOp fAdd (dOp fMul (dOp fDiv (dOp fIx (dVar 0) (dC (.int 3))) (dC (.int 8))) (dC (.int 31))) (dOp fMod (dCB fInt (dCons (dOp fIx (dVar 0) (dC (.int 3))) dNil)) (dC (.int 65537)))) dNil)) (dC (.int 1000003))) (dVar 1)))
def T_law_take_6 : DS := (dSeq (dSetIx (dVar 0) (dC (.int 3)) (dOp fMod (dCB fInt (dCons (dOp fAdd (dOp fAdd (dOp fMul (dOp fIx (dVar 0) (dC (.int 3))) (dC (.int 48271))) (dOp fMul (dVar 4) (dC (.int 7)))) (dOp fIx (dVar 0) (dC (.int 1)))) dNil)) (dC (.int 2147483647)))) T_law_take_5)
def T_law_take_7 : DS := (dSeq (dSetIx (dVar 0) (dC (.int 1)) (dOp fAdd (dOp fIx (dVar 0) (dC (.int 1))) (dC (.int 1)))) T_law_take_6)
def T_law_take_8 : DS := (dSeq (dIfS (dTe (dOp fLt (dOp fIx (dVar 0) (dC (.int 1))) (dCB fLen (dCons (dVar 2) dNil)))) T_law_take_4 dNext) T_law_take_7)
def T_law_take_9 : DS := (dSeq (dIfS (dTe (dOp fGt (dOp fIx (dVar 0) (dC (.int 2))) (dC (.int 0)))) T_law_take_3 dNext) (dSeq (dAsg 4 (dC (.int 0))) T_law_take_8))
def T_law_take_10 : DS := (dSeq (dIfS (dAnd (dTe (dOp fEq (dOp fIx (dVar 0) (dC (.int 2))) (dC (.int 0)))) (dAnd (dTe (dOp fLt (dOp fIx (dVar 0) (dC (.int 1))) (dCB fLen (dCons (dVar 2) dNil)))) (dTe (dOp fGt (dOp fIx (dVar 2) (dOp fIx (dVar 0) (dC (.int 1)))) (dOp fPow (dC (.int 10)) (dC (.int 18))))))) T_law_take_1 dNext) T_law_take_9)
def T_law_take : DS := (dSeq (dAsg 2 (dOp fIx (dVar 0) (dC (.int 0)))) T_law_take_10)

theorem pure_law_take : Pure N_law_take 2 S_law_take T_law_take := by
  rintro ds O P E ⟨b, m, rfl, hb, h0, h1, k⟩
  refine ⟨rfl, Opn.box hb fun cs i a s hc hi ha => ?_⟩
  have gx : ∀ c, getC (setC O b c) b = some c := fun c => getC_setC hb
  have hs : startD N_law_take [.ptr b, .int m] = [some (.ptr b), some (.int m), none, none, none] := rfl
  have fin : ∀ (r : Int) (cs : List Int) (i a s : Int), cs.length ≤ 63 → 0 ≤ i → 0 ≤ a → 0 ≤ r → r < m → ∃ O1, Weak (setC O b (.lst [.lst (cs.map D.int), .int i, .int a, .int s])) O1 ∧ P (.int r) O1 := fun r cs i a s q1 q2 q3 q4 q5 => by
    refine ⟨_, Weak.box (gx _) q1 q2 q3, ?_⟩
    rw [setC_setC, setC_same hb]
    exact k r q4 q5
  have c8 : CDiv 1 8 := by unfold CDiv; omega
  have mk : ∀ x y : Int, -(2 ^ 64) < y → y < 2 ^ 64 → CMul x y := fun x y p q => .inr ⟨p, q⟩
  have t7 : ∀ (i s c : Int), 0 ≤ i → T_law_take_7 (endsD P E) [some (.ptr b), some (.int m), some (.lst (cs.map D.int)), none, some (.int c)] (setC O b (.lst [.lst (cs.map D.int), .int i, .int 0, .int s])) := fun i s c hi => by
    unfold T_law_take_7 T_law_take_6 T_law_take_5
    try simp only [↓e_var, ↓sl_zero, ↓sl_succ, ↓m_some, ↓e_asg, ↓e_exp, ↓e_ret, ↓e_retN, ↓e_ifS, ↓e_next, ↓e_nev, ↓e_c, ↓e_op, ↓e_un, ↓e_te, ↓e_tru, ↓e_and, ↓e_or, ↓e_not, ↓e_andV, ↓e_orV, ↓e_notV, ↓e_if, ↓e_chain, ↓e_nil, ↓e_cons, ↓e_tup, ↓e_lst, ↓e_lstO, ↓e_cb, ↓e_call, ↓e_fld, ↓e_frz, ↓e_app, ↓e_setIx, ↓e_setF, ↓e_isT, ↓e_make, ↓e_itL, ↓e_itT, ↓e_rng1, ↓e_rng2, ↓e_yes, ↓e_gn, ↓e_lc, ↓e_lcO, ↓e_for, ↓e_brk, ↓e_cnt, ↓e_inOwn, ↓f_ixT, ↓f_ixL, ↓f_ixP, ↓f_add, ↓f_addL, ↓f_addS, ↓f_sub, ↓f_mul, ↓f_mod, ↓f_div, ↓f_pow, ↓f_lt, ↓f_le, ↓f_gt, ↓f_ge, ↓f_eq, ↓f_ne, ↓f_int, ↓f_neg, ↓f_lenL, ↓f_lenT, ↓f_lenP, truL, truT, truI, truB, truN, objO, clsO, getF, putFs, putDs, tabAt, boolK, reduceCtorEq, List.mem_singleton, true_and, and_true, e_wipe0, e_wipe1, ex_c, getC_self, setC_self, delC_self, lstOf, List.set_cons_zero, List.set_cons_succ, setC_setC, at_0, at_1, at_2, at_3, set_0, set_1, set_2, set_3, List.length_cons, List.length_nil, List.length_map, ↓reduceIte, Bool.false_eq_true, decide_eq_true_eq, ↓e_seq, gx, mk]
    refine ⟨mk _ _ (by omega) (by omega), mk _ _ (by omega) (by omega), by omega, ⟨by omega, by omega⟩, mk _ _ (by omega) (by omega), by omega, by omega, h0, ?_⟩
    exact fin _ cs _ _ _ hc (by omega) (by omega) (Int.emod_nonneg _ (by omega)) (Int.emod_lt_of_pos _ h0)
  have t9 : ∀ (i a s : Int), 0 ≤ i → 0 ≤ a → T_law_take_9 (endsD P E) [some (.ptr b), some (.int m), some (.lst (cs.map D.int)), none, none] (setC O b (.lst [.lst (cs.map D.int), .int i, .int a, .int s])) := fun i a s hi ha => by
    unfold T_law_take_9
    try simp only [↓e_var, ↓sl_zero, ↓sl_succ, ↓m_some, ↓e_asg, ↓e_exp, ↓e_ret, ↓e_retN, ↓e_ifS, ↓e_next, ↓e_nev, ↓e_c, ↓e_op, ↓e_un, ↓e_te, ↓e_tru, ↓e_and, ↓e_or, ↓e_not, ↓e_andV, ↓e_orV, ↓e_notV, ↓e_if, ↓e_chain, ↓e_nil, ↓e_cons, ↓e_tup, ↓e_lst, ↓e_lstO, ↓e_cb, ↓e_call, ↓e_fld, ↓e_frz, ↓e_app, ↓e_setIx, ↓e_setF, ↓e_isT, ↓e_make, ↓e_itL, ↓e_itT, ↓e_rng1, ↓e_rng2, ↓e_yes, ↓e_gn, ↓e_lc, ↓e_lcO, ↓e_for, ↓e_brk, ↓e_cnt, ↓e_inOwn, ↓f_ixT, ↓f_ixL, ↓f_ixP, ↓f_add, ↓f_addL, ↓f_addS, ↓f_sub, ↓f_mul, ↓f_mod, ↓f_div, ↓f_pow, ↓f_lt, ↓f_le, ↓f_gt, ↓f_ge, ↓f_eq, ↓f_ne, ↓f_int, ↓f_neg, ↓f_lenL, ↓f_lenT, ↓f_lenP, truL, truT, truI, truB, truN, objO, clsO, getF, putFs, putDs, tabAt, boolK, reduceCtorEq, List.mem_singleton, true_and, and_true, e_wipe0, e_wipe1, ex_c, getC_self, setC_self, delC_self, lstOf, List.set_cons_zero, List.set_cons_succ, setC_setC, at_0, at_1, at_2, at_3, set_0, set_1, set_2, set_3, List.length_cons, List.length_nil, List.length_map, ↓reduceIte, Bool.false_eq_true, decide_eq_true_eq, ↓e_seq, gx]
    by_cases c : 0 < a
    · rw [if_pos c]
      unfold T_law_take_3 T_law_take_2
      try simp only [↓e_var, ↓sl_zero, ↓sl_succ, ↓m_some, ↓e_asg, ↓e_exp, ↓e_ret, ↓e_retN, ↓e_ifS, ↓e_next, ↓e_nev, ↓e_c, ↓e_op, ↓e_un, ↓e_te, ↓e_tru, ↓e_and, ↓e_or, ↓e_not, ↓e_andV, ↓e_orV, ↓e_notV, ↓e_if, ↓e_chain, ↓e_nil, ↓e_cons, ↓e_tup, ↓e_lst, ↓e_lstO, ↓e_cb, ↓e_call, ↓e_fld, ↓e_frz, ↓e_app, ↓e_setIx, ↓e_setF, ↓e_isT, ↓e_make, ↓e_itL, ↓e_itT, ↓e_rng1, ↓e_rng2, ↓e_yes, ↓e_gn, ↓e_lc, ↓e_lcO, ↓e_for, ↓e_brk, ↓e_cnt, ↓e_inOwn, ↓f_ixT, ↓f_ixL, ↓f_ixP, ↓f_add, ↓f_addL, ↓f_addS, ↓f_sub, ↓f_mul, ↓f_mod, ↓f_div, ↓f_pow, ↓f_lt, ↓f_le, ↓f_gt, ↓f_ge, ↓f_eq, ↓f_ne, ↓f_int, ↓f_neg, ↓f_lenL, ↓f_lenT, ↓f_lenP, truL, truT, truI, truB, truN, objO, clsO, getF, putFs, putDs, tabAt, boolK, reduceCtorEq, List.mem_singleton, true_and, and_true, e_wipe0, e_wipe1, ex_c, getC_self, setC_self, delC_self, lstOf, List.set_cons_zero, List.set_cons_succ, setC_setC, at_0, at_1, at_2, at_3, set_0, set_1, set_2, set_3, List.length_cons, List.length_nil, List.length_map, ↓reduceIte, Bool.false_eq_true, decide_eq_true_eq, ↓e_seq, gx]
      refine ⟨h0, ⟨h0, h1⟩, ?_⟩
      exact fin _ cs _ _ _ hc hi (Int.ediv_nonneg ha (by omega)) (Int.emod_nonneg _ (by omega)) (Int.emod_lt_of_pos _ h0)
    · rw [if_neg c]
      have e : a = 0 := by omega
      subst e
      unfold T_law_take_8
      try simp only [↓e_var, ↓sl_zero, ↓sl_succ, ↓m_some, ↓e_asg, ↓e_exp, ↓e_ret, ↓e_retN, ↓e_ifS, ↓e_next, ↓e_nev, ↓e_c, ↓e_op, ↓e_un, ↓e_te, ↓e_tru, ↓e_and, ↓e_or, ↓e_not, ↓e_andV, ↓e_orV, ↓e_notV, ↓e_if, ↓e_chain, ↓e_nil, ↓e_cons, ↓e_tup, ↓e_lst, ↓e_lstO, ↓e_cb, ↓e_call, ↓e_fld, ↓e_frz, ↓e_app, ↓e_setIx, ↓e_setF, ↓e_isT, ↓e_make, ↓e_itL, ↓e_itT, ↓e_rng1, ↓e_rng2, ↓e_yes, ↓e_gn, ↓e_lc, ↓e_lcO, ↓e_for, ↓e_brk, ↓e_cnt, ↓e_inOwn, ↓f_ixT, ↓f_ixL, ↓f_ixP, ↓f_add, ↓f_addL, ↓f_addS, ↓f_sub, ↓f_mul, ↓f_mod, ↓f_div, ↓f_pow, ↓f_lt, ↓f_le, ↓f_gt, ↓f_ge, ↓f_eq, ↓f_ne, ↓f_int, ↓f_neg, ↓f_lenL, ↓f_lenT, ↓f_lenP, truL, truT, truI, truB, truN, objO, clsO, getF, putFs, putDs, tabAt, boolK, reduceCtorEq, List.mem_singleton, true_and, and_true, e_wipe0, e_wipe1, ex_c, getC_self, setC_self, delC_self, lstOf, List.set_cons_zero, List.set_cons_succ, setC_setC, at_0, at_1, at_2, at_3, set_0, set_1, set_2, set_3, List.length_cons, List.length_nil, List.length_map, ↓reduceIte, Bool.false_eq_true, decide_eq_true_eq, ↓e_seq, gx]
      by_cases c : i < (cs.length : Int)
      · rw [if_pos c]
        unfold T_law_take_4
        obtain ⟨n, rfl⟩ := Int.eq_ofNat_of_zero_le hi
        have hn : n < cs.length := by omega
        have ea : atI (cs.map D.int) (n : Int) = some (.int cs[n]) := atI_nat (by rw [List.getElem?_map, List.getElem?_eq_getElem hn]; rfl)
        try simp only [↓e_var, ↓sl_zero, ↓sl_succ, ↓m_some, ↓e_asg, ↓e_exp, ↓e_ret, ↓e_retN, ↓e_ifS, ↓e_next, ↓e_nev, ↓e_c, ↓e_op, ↓e_un, ↓e_te, ↓e_tru, ↓e_and, ↓e_or, ↓e_not, ↓e_andV, ↓e_orV, ↓e_notV, ↓e_if, ↓e_chain, ↓e_nil, ↓e_cons, ↓e_tup, ↓e_lst, ↓e_lstO, ↓e_cb, ↓e_call, ↓e_fld, ↓e_frz, ↓e_app, ↓e_setIx, ↓e_setF, ↓e_isT, ↓e_make, ↓e_itL, ↓e_itT, ↓e_rng1, ↓e_rng2, ↓e_yes, ↓e_gn, ↓e_lc, ↓e_lcO, ↓e_for, ↓e_brk, ↓e_cnt, ↓e_inOwn, ↓f_ixT, ↓f_ixL, ↓f_ixP, ↓f_add, ↓f_addL, ↓f_addS, ↓f_sub, ↓f_mul, ↓f_mod, ↓f_div, ↓f_pow, ↓f_lt, ↓f_le, ↓f_gt, ↓f_ge, ↓f_eq, ↓f_ne, ↓f_int, ↓f_neg, ↓f_lenL, ↓f_lenT, ↓f_lenP, truL, truT, truI, truB, truN, objO, clsO, getF, putFs, putDs, tabAt, boolK, reduceCtorEq, List.mem_singleton, true_and, and_true, e_wipe0, e_wipe1, ex_c, getC_self, setC_self, delC_self, lstOf, List.set_cons_zero, List.set_cons_succ, setC_setC, at_0, at_1, at_2, at_3, set_0, set_1, set_2, set_3, List.length_cons, List.length_nil, List.length_map, ↓reduceIte, Bool.false_eq_true, decide_eq_true_eq, ↓e_seq, gx, ea]
        exact t7 _ _ _ hi
      · rw [if_neg c]
        exact t7 _ _ _ hi
  rw [hs]
  unfold T_law_take boxC
  try simp only [↓e_var, ↓sl_zero, ↓sl_succ, ↓m_some, ↓e_asg, ↓e_exp, ↓e_ret, ↓e_retN, ↓e_ifS, ↓e_next, ↓e_nev, ↓e_c, ↓e_op, ↓e_un, ↓e_te, ↓e_tru, ↓e_and, ↓e_or, ↓e_not, ↓e_andV, ↓e_orV, ↓e_notV, ↓e_if, ↓e_chain, ↓e_nil, ↓e_cons, ↓e_tup, ↓e_lst, ↓e_lstO, ↓e_cb, ↓e_call, ↓e_fld, ↓e_frz, ↓e_app, ↓e_setIx, ↓e_setF, ↓e_isT, ↓e_make, ↓e_itL, ↓e_itT, ↓e_rng1, ↓e_rng2, ↓e_yes, ↓e_gn, ↓e_lc, ↓e_lcO, ↓e_for, ↓e_brk, ↓e_cnt, ↓e_inOwn, ↓f_ixT, ↓f_ixL, ↓f_ixP, ↓f_add, ↓f_addL, ↓f_addS, ↓f_sub, ↓f_mul, ↓f_mod, ↓f_div, ↓f_pow, ↓f_lt, ↓f_le, ↓f_gt, ↓f_ge, ↓f_eq, ↓f_ne, ↓f_int, ↓f_neg, ↓f_lenL, ↓f_lenT, ↓f_lenP, truL, truT, truI, truB, truN, objO, clsO, getF, putFs, putDs, tabAt, boolK, reduceCtorEq, List.mem_singleton, true_and, and_true, e_wipe0, e_wipe1, ex_c, getC_self, setC_self, delC_self, lstOf, List.set_cons_zero, List.set_cons_succ, setC_setC, at_0, at_1, at_2, at_3, set_0, set_1, set_2, set_3, List.length_cons, List.length_nil, List.length_map, ↓reduceIte, Bool.false_eq_true, decide_eq_true_eq, ↓e_seq, gx]
  unfold T_law_take_10
  try simp only [↓e_var, ↓sl_zero, ↓sl_succ, ↓m_some, ↓e_asg, ↓e_exp, ↓e_ret, ↓e_retN, ↓e_ifS, ↓e_next, ↓e_nev, ↓e_c, ↓e_op, ↓e_un, ↓e_te, ↓e_tru, ↓e_and, ↓e_or, ↓e_not, ↓e_andV, ↓e_orV, ↓e_notV, ↓e_if, ↓e_chain, ↓e_nil, ↓e_cons, ↓e_tup, ↓e_lst, ↓e_lstO, ↓e_cb, ↓e_call, ↓e_fld, ↓e_frz, ↓e_app, ↓e_setIx, ↓e_setF, ↓e_isT, ↓e_make, ↓e_itL, ↓e_itT, ↓e_rng1, ↓e_rng2, ↓e_yes, ↓e_gn, ↓e_lc, ↓e_lcO, ↓e_for, ↓e_brk, ↓e_cnt, ↓e_inOwn, ↓f_ixT, ↓f_ixL, ↓f_ixP, ↓f_add, ↓f_addL, ↓f_addS, ↓f_sub, ↓f_mul, ↓f_mod, ↓f_div, ↓f_pow, ↓f_lt, ↓f_le, ↓f_gt, ↓f_ge, ↓f_eq, ↓f_ne, ↓f_int, ↓f_neg, ↓f_lenL, ↓f_lenT, ↓f_lenP, truL, truT, truI, truB, truN, objO, clsO, getF, putFs, putDs, tabAt, boolK, reduceCtorEq, List.mem_singleton, true_and, and_true, e_wipe0, e_wipe1, ex_c, getC_self, setC_self, delC_self, lstOf, List.set_cons_zero, List.set_cons_succ, setC_setC, at_0, at_1, at_2, at_3, set_0, set_1, set_2, set_3, List.length_cons, List.length_nil, List.length_map, ↓reduceIte, Bool.false_eq_true, decide_eq_true_eq, ↓e_seq, gx]
  by_cases c : a = 0
  · subst c
    rw [if_pos rfl]
    by_cases c : i < (cs.length : Int)
    · rw [if_pos c]
      obtain ⟨n, rfl⟩ := Int.eq_ofNat_of_zero_le hi
      have hn : n < cs.length := by omega
      have ea : atI (cs.map D.int) (n : Int) = some (.int cs[n]) := atI_nat (by rw [List.getElem?_map, List.getElem?_eq_getElem hn]; rfl)
      have p18 : CPow 10 18 := ⟨by omega, by omega, by decide⟩
      try simp only [↓e_var, ↓sl_zero, ↓sl_succ, ↓m_some, ↓e_asg, ↓e_exp, ↓e_ret, ↓e_retN, ↓e_ifS, ↓e_next, ↓e_nev, ↓e_c, ↓e_op, ↓e_un, ↓e_te, ↓e_tru, ↓e_and, ↓e_or, ↓e_not, ↓e_andV, ↓e_orV, ↓e_notV, ↓e_if, ↓e_chain, ↓e_nil, ↓e_cons, ↓e_tup, ↓e_lst, ↓e_lstO, ↓e_cb, ↓e_call, ↓e_fld, ↓e_frz, ↓e_app, ↓e_setIx, ↓e_setF, ↓e_isT, ↓e_make, ↓e_itL, ↓e_itT, ↓e_rng1, ↓e_rng2, ↓e_yes, ↓e_gn, ↓e_lc, ↓e_lcO, ↓e_for, ↓e_brk, ↓e_cnt, ↓e_inOwn, ↓f_ixT, ↓f_ixL, ↓f_ixP, ↓f_add, ↓f_addL, ↓f_addS, ↓f_sub, ↓f_mul, ↓f_mod, ↓f_div, ↓f_pow, ↓f_lt, ↓f_le, ↓f_gt, ↓f_ge, ↓f_eq, ↓f_ne, ↓f_int, ↓f_neg, ↓f_lenL, ↓f_lenT, ↓f_lenP, truL, truT, truI, truB, truN, objO, clsO, getF, putFs, putDs, tabAt, boolK, reduceCtorEq, List.mem_singleton, true_and, and_true, e_wipe0, e_wipe1, ex_c, getC_self, setC_self, delC_self, lstOf, List.set_cons_zero, List.set_cons_succ, setC_setC, at_0, at_1, at_2, at_3, set_0, set_1, set_2, set_3, List.length_cons, List.length_nil, List.length_map, ↓reduceIte, Bool.false_eq_true, decide_eq_true_eq, ↓e_seq, gx, ea]
      refine ⟨p18, ?_⟩
      have e18 : (10 : Int) ^ Int.toNat 18 = 1000000000000000000 := by decide
      rw [e18]
      by_cases c : 1000000000000000000 < cs[n]
      · rw [if_pos c]
        unfold T_law_take_1 T_law_take_0
        try simp only [↓e_var, ↓sl_zero, ↓sl_succ, ↓m_some, ↓e_asg, ↓e_exp, ↓e_ret, ↓e_retN, ↓e_ifS, ↓e_next, ↓e_nev, ↓e_c, ↓e_op, ↓e_un, ↓e_te, ↓e_tru, ↓e_and, ↓e_or, ↓e_not, ↓e_andV, ↓e_orV, ↓e_notV, ↓e_if, ↓e_chain, ↓e_nil, ↓e_cons, ↓e_tup, ↓e_lst, ↓e_lstO, ↓e_cb, ↓e_call, ↓e_fld, ↓e_frz, ↓e_app, ↓e_setIx, ↓e_setF, ↓e_isT, ↓e_make, ↓e_itL, ↓e_itT, ↓e_rng1, ↓e_rng2, ↓e_yes, ↓e_gn, ↓e_lc, ↓e_lcO, ↓e_for, ↓e_brk, ↓e_cnt, ↓e_inOwn, ↓f_ixT, ↓f_ixL, ↓f_ixP, ↓f_add, ↓f_addL, ↓f_addS, ↓f_sub, ↓f_mul, ↓f_mod, ↓f_div, ↓f_pow, ↓f_lt, ↓f_le, ↓f_gt, ↓f_ge, ↓f_eq, ↓f_ne, ↓f_int, ↓f_neg, ↓f_lenL, ↓f_lenT, ↓f_lenP, truL, truT, truI, truB, truN, objO, clsO, getF, putFs, putDs, tabAt, boolK, reduceCtorEq, List.mem_singleton, true_and, and_true, e_wipe0, e_wipe1, ex_c, getC_self, setC_self, delC_self, lstOf, List.set_cons_zero, List.set_cons_succ, setC_setC, at_0, at_1, at_2, at_3, set_0, set_1, set_2, set_3, List.length_cons, List.length_nil, List.length_map, ↓reduceIte, Bool.false_eq_true, decide_eq_true_eq, ↓e_seq, gx, ea, e18]
        exact ⟨p18, t9 _ _ _ (by omega) (by omega)⟩
      · rw [if_neg c]
        exact t9 _ _ _ hi ha
    · rw [if_neg c]
      try simp only [↓e_var, ↓sl_zero, ↓sl_succ, ↓m_some, ↓e_asg, ↓e_exp, ↓e_ret, ↓e_retN, ↓e_ifS, ↓e_next, ↓e_nev, ↓e_c, ↓e_op, ↓e_un, ↓e_te, ↓e_tru, ↓e_and, ↓e_or, ↓e_not, ↓e_andV, ↓e_orV, ↓e_notV, ↓e_if, ↓e_chain, ↓e_nil, ↓e_cons, ↓e_tup, ↓e_lst, ↓e_lstO, ↓e_cb, ↓e_call, ↓e_fld, ↓e_frz, ↓e_app, ↓e_setIx, ↓e_setF, ↓e_isT, ↓e_make, ↓e_itL, ↓e_itT, ↓e_rng1, ↓e_rng2, ↓e_yes, ↓e_gn, ↓e_lc, ↓e_lcO, ↓e_for, ↓e_brk, ↓e_cnt, ↓e_inOwn, ↓f_ixT, ↓f_ixL, ↓f_ixP, ↓f_add, ↓f_addL, ↓f_addS, ↓f_sub, ↓f_mul, ↓f_mod, ↓f_div, ↓f_pow, ↓f_lt, ↓f_le, ↓f_gt, ↓f_ge, ↓f_eq, ↓f_ne, ↓f_int, ↓f_neg, ↓f_lenL, ↓f_lenT, ↓f_lenP, truL, truT, truI, truB, truN, objO, clsO, getF, putFs, putDs, tabAt, boolK, reduceCtorEq, List.mem_singleton, true_and, and_true, e_wipe0, e_wipe1, ex_c, getC_self, setC_self, delC_self, lstOf, List.set_cons_zero, List.set_cons_succ, setC_setC, at_0, at_1, at_2, at_3, set_0, set_1, set_2, set_3, List.length_cons, List.length_nil, List.length_map, ↓reduceIte, Bool.false_eq_true, decide_eq_true_eq, ↓e_seq]
      exact t9 _ _ _ hi ha
  · rw [if_neg c]
    try simp only [↓e_var, ↓sl_zero, ↓sl_succ, ↓m_some, ↓e_asg, ↓e_exp, ↓e_ret, ↓e_retN, ↓e_ifS, ↓e_next, ↓e_nev, ↓e_c, ↓e_op, ↓e_un, ↓e_te, ↓e_tru, ↓e_and, ↓e_or, ↓e_not, ↓e_andV, ↓e_orV, ↓e_notV, ↓e_if, ↓e_chain, ↓e_nil, ↓e_cons, ↓e_tup, ↓e_lst, ↓e_lstO, ↓e_cb, ↓e_call, ↓e_fld, ↓e_frz, ↓e_app, ↓e_setIx, ↓e_setF, ↓e_isT, ↓e_make, ↓e_itL, ↓e_itT, ↓e_rng1, ↓e_rng2, ↓e_yes, ↓e_gn, ↓e_lc, ↓e_lcO, ↓e_for, ↓e_brk, ↓e_cnt, ↓e_inOwn, ↓f_ixT, ↓f_ixL, ↓f_ixP, ↓f_add, ↓f_addL, ↓f_addS, ↓f_sub, ↓f_mul, ↓f_mod, ↓f_div, ↓f_pow, ↓f_lt, ↓f_le, ↓f_gt, ↓f_ge, ↓f_eq, ↓f_ne, ↓f_int, ↓f_neg, ↓f_lenL, ↓f_lenT, ↓f_lenP, truL, truT, truI, truB, truN, objO, clsO, getF, putFs, putDs, tabAt, boolK, reduceCtorEq, List.mem_singleton, true_and, and_true, e_wipe0, e_wipe1, ex_c, getC_self, setC_self, delC_self, lstOf, List.set_cons_zero, List.set_cons_succ, setC_setC, at_0, at_1, at_2, at_3, set_0, set_1, set_2, set_3, List.length_cons, List.length_nil, List.length_map, ↓reduceIte, Bool.false_eq_true, decide_eq_true_eq, ↓e_seq]
    exact t9 _ _ _ hi ha
abbrev st (x : Int × Int) : D := .obj .Stretch [.low, .high] [.int x.1, .int x.2]
def inB (l : Int) (x : Int × Int) : Bool := decide (x.1 ≤ l) && decide (l ≤ x.2)
def S_Stretch_init : DSp := fun ds O P E => ∃ q lo hi, ds = [.ptr q, .int lo, .int hi] ∧ lo ≤ hi ∧ getC O q = some (.ins .Stretch [] []) ∧ P .non (setC O q (.ins .Stretch [.low, .high] [.int lo, .int hi]))
def N_Stretch_init : List Str := ["self", "low", "high"]
def T_Stretch_init_0 : DS := (dSeq (dSetF [.Stretch] .low (dVar 0) (dVar 1)) (dSetF [.Stretch] .high (dVar 0) (dVar 2)))
def T_Stretch_init : DS := (dSeq (dIfS (dTe (dOp fGt (dVar 1) (dVar 2))) dNev dNext) T_Stretch_init_0)

theorem weak_now {O : Sto} {Q : Sto → Prop} (h : Q O) : ∃ O1, Weak O O1 ∧ Q O1 := ⟨O, fun _ _ _ w => w, h⟩
theorem pure_Stretch_init : Pure N_Stretch_init 3 S_Stretch_init T_Stretch_init := by
  rintro ds O P E ⟨q, lo, hi, rfl, h, hq, k⟩
  refine ⟨rfl, Opn.now ?_⟩
  have gx : ∀ c, getC (setC O q c) q = some c := fun c => getC_setC hq
  have hs : startD N_Stretch_init [.ptr q, .int lo, .int hi] = [some (.ptr q), some (.int lo), some (.int hi)] := rfl
  have hn : ¬ hi < lo := by omega
  rw [hs]
  unfold T_Stretch_init
  try simp only [↓e_var, ↓sl_zero, ↓sl_succ, ↓m_some, ↓e_asg, ↓e_exp, ↓e_ret, ↓e_retN, ↓e_ifS, ↓e_next, ↓e_nev, ↓e_c, ↓e_op, ↓e_un, ↓e_te, ↓e_tru, ↓e_and, ↓e_or, ↓e_not, ↓e_andV, ↓e_orV, ↓e_notV, ↓e_if, ↓e_chain, ↓e_nil, ↓e_cons, ↓e_tup, ↓e_lst, ↓e_lstO, ↓e_cb, ↓e_call, ↓e_fld, ↓e_frz, ↓e_app, ↓e_setIx, ↓e_setF, ↓e_isT, ↓e_make, ↓e_itL, ↓e_itT, ↓e_rng1, ↓e_rng2, ↓e_yes, ↓e_gn, ↓e_lc, ↓e_lcO, ↓e_for, ↓e_brk, ↓e_cnt, ↓e_inOwn, ↓f_ixT, ↓f_ixL, ↓f_ixP, ↓f_add, ↓f_addL, ↓f_addS, ↓f_sub, ↓f_mul, ↓f_mod, ↓f_div, ↓f_pow, ↓f_lt, ↓f_le, ↓f_gt, ↓f_ge, ↓f_eq, ↓f_ne, ↓f_int, ↓f_neg, ↓f_lenL, ↓f_lenT, ↓f_lenP, truL, truT, truI, truB, truN, objO, clsO, getF, putFs, putDs, tabAt, boolK, reduceCtorEq, List.mem_singleton, true_and, and_true, e_wipe0, e_wipe1, ex_c, getC_self, setC_self, delC_self, lstOf, List.set_cons_zero, List.set_cons_succ, setC_setC, at_0, at_1, at_2, at_3, set_0, set_1, set_2, set_3, List.length_cons, List.length_nil, List.length_map, ↓reduceIte, Bool.false_eq_true, decide_eq_true_eq, ↓e_seq, hn]
  unfold T_Stretch_init_0
  try simp only [↓e_var, ↓sl_zero, ↓sl_succ, ↓m_some, ↓e_asg, ↓e_exp, ↓e_ret, ↓e_retN, ↓e_ifS, ↓e_next, ↓e_nev, ↓e_c, ↓e_op, ↓e_un, ↓e_te, ↓e_tru, ↓e_and, ↓e_or, ↓e_not, ↓e_andV, ↓e_orV, ↓e_notV, ↓e_if, ↓e_chain, ↓e_nil, ↓e_cons, ↓e_tup, ↓e_lst, ↓e_lstO, ↓e_cb, ↓e_call, ↓e_fld, ↓e_frz, ↓e_app, ↓e_setIx, ↓e_setF, ↓e_isT, ↓e_make, ↓e_itL, ↓e_itT, ↓e_rng1, ↓e_rng2, ↓e_yes, ↓e_gn, ↓e_lc, ↓e_lcO, ↓e_for, ↓e_brk, ↓e_cnt, ↓e_inOwn, ↓f_ixT, ↓f_ixL, ↓f_ixP, ↓f_add, ↓f_addL, ↓f_addS, ↓f_sub, ↓f_mul, ↓f_mod, ↓f_div, ↓f_pow, ↓f_lt, ↓f_le, ↓f_gt, ↓f_ge, ↓f_eq, ↓f_ne, ↓f_int, ↓f_neg, ↓f_lenL, ↓f_lenT, ↓f_lenP, truL, truT, truI, truB, truN, objO, clsO, getF, putFs, putDs, tabAt, boolK, reduceCtorEq, List.mem_singleton, true_and, and_true, e_wipe0, e_wipe1, ex_c, getC_self, setC_self, delC_self, lstOf, List.set_cons_zero, List.set_cons_succ, setC_setC, at_0, at_1, at_2, at_3, set_0, set_1, set_2, set_3, List.length_cons, List.length_nil, List.length_map, ↓reduceIte, Bool.false_eq_true, decide_eq_true_eq, ↓e_seq, hq, gx]
  refine ⟨by decide, by decide, ?_⟩
  exact weak_now k
def S_Stretch_contains : DSp := fun ds O P E => ∃ x l, ds = [st x, .int l] ∧ P (.bl (inB l x)) O
def N_Stretch_contains : List Str := ["self", "level"]
def T_Stretch_contains : DS := (dRet (dChain fLe fLe (dFld [.Stretch] .low (dVar 0)) (dVar 1) (dFld [.Stretch] .high (dVar 0))))

theorem pure_Stretch_contains : Pure N_Stretch_contains 2 S_Stretch_contains T_Stretch_contains := by
  rintro ds O P E ⟨x, l, rfl, k⟩
  refine ⟨rfl, Opn.now ?_⟩
  have hs : startD N_Stretch_contains [st x, .int l] = [some (st x), some (.int l)] := rfl
  rw [hs]
  unfold T_Stretch_contains
  try simp only [↓e_var, ↓sl_zero, ↓sl_succ, ↓m_some, ↓e_asg, ↓e_exp, ↓e_ret, ↓e_retN, ↓e_ifS, ↓e_next, ↓e_nev, ↓e_c, ↓e_op, ↓e_un, ↓e_te, ↓e_tru, ↓e_and, ↓e_or, ↓e_not, ↓e_andV, ↓e_orV, ↓e_notV, ↓e_if, ↓e_chain, ↓e_nil, ↓e_cons, ↓e_tup, ↓e_lst, ↓e_lstO, ↓e_cb, ↓e_call, ↓e_fld, ↓e_frz, ↓e_app, ↓e_setIx, ↓e_setF, ↓e_isT, ↓e_make, ↓e_itL, ↓e_itT, ↓e_rng1, ↓e_rng2, ↓e_yes, ↓e_gn, ↓e_lc, ↓e_lcO, ↓e_for, ↓e_brk, ↓e_cnt, ↓e_inOwn, ↓f_ixT, ↓f_ixL, ↓f_ixP, ↓f_add, ↓f_addL, ↓f_addS, ↓f_sub, ↓f_mul, ↓f_mod, ↓f_div, ↓f_pow, ↓f_lt, ↓f_le, ↓f_gt, ↓f_ge, ↓f_eq, ↓f_ne, ↓f_int, ↓f_neg, ↓f_lenL, ↓f_lenT, ↓f_lenP, truL, truT, truI, truB, truN, objO, clsO, getF, putFs, putDs, tabAt, boolK, reduceCtorEq, List.mem_singleton, true_and, and_true, e_wipe0, e_wipe1, ex_c, getC_self, setC_self, delC_self, lstOf, List.set_cons_zero, List.set_cons_succ, setC_setC, at_0, at_1, at_2, at_3, set_0, set_1, set_2, set_3, List.length_cons, List.length_nil, List.length_map, ↓reduceIte, Bool.false_eq_true, decide_eq_true_eq, ↓e_seq]
  by_cases c : x.1 ≤ l
  · rw [if_pos c]
    refine weak_now ?_
    have e : inB l x = decide (l ≤ x.2) := by simp [inB, c]
    rw [← e]
    exact k
  · rw [if_neg c]
    refine weak_now ?_
    have e : inB l x = false := by simp [inB, c]
    rw [← e]
    exact k
def S_depth : DSp := fun ds O P E => ∃ (xs : List (Int × Int)) (l : Int), ds = [.lst (xs.map st), .int l] ∧ xs.length ≤ 1000 ∧ P (.int (((xs.filter (inB l)).length : Nat) : Int)) O
def N_depth : List Str := ["stretches", "level", "piece"]
def T_depth : DS := (dRet (dCB fLen (dCons (dLc (dItL (dVar 0)) (dgN 2) (dTe (dInOwn [(.Stretch, S_Stretch_contains)] (dVar 1) (dVar 2))) (dVar 2) [2]) dNil)))

theorem pure_depth : Pure N_depth 2 S_depth T_depth := by
  rintro ds O P E ⟨xs, l, rfl, hl, k⟩
  refine ⟨rfl, Opn.now ?_⟩
  have hs : startD N_depth [.lst (xs.map st), .int l] = [some (.lst (xs.map st)), some (.int l), none] := rfl
  rw [hs]
  unfold T_depth
  try simp only [↓e_var, ↓sl_zero, ↓sl_succ, ↓m_some, ↓e_asg, ↓e_exp, ↓e_ret, ↓e_retN, ↓e_ifS, ↓e_next, ↓e_nev, ↓e_c, ↓e_op, ↓e_un, ↓e_te, ↓e_tru, ↓e_and, ↓e_or, ↓e_not, ↓e_andV, ↓e_orV, ↓e_notV, ↓e_if, ↓e_chain, ↓e_nil, ↓e_cons, ↓e_tup, ↓e_lst, ↓e_lstO, ↓e_cb, ↓e_call, ↓e_fld, ↓e_frz, ↓e_app, ↓e_setIx, ↓e_setF, ↓e_isT, ↓e_make, ↓e_itL, ↓e_itT, ↓e_rng1, ↓e_rng2, ↓e_yes, ↓e_gn, ↓e_lc, ↓e_lcO, ↓e_for, ↓e_brk, ↓e_cnt, ↓e_inOwn, ↓f_ixT, ↓f_ixL, ↓f_ixP, ↓f_add, ↓f_addL, ↓f_addS, ↓f_sub, ↓f_mul, ↓f_mod, ↓f_div, ↓f_pow, ↓f_lt, ↓f_le, ↓f_gt, ↓f_ge, ↓f_eq, ↓f_ne, ↓f_int, ↓f_neg, ↓f_lenL, ↓f_lenT, ↓f_lenP, truL, truT, truI, truB, truN, objO, clsO, getF, putFs, putDs, tabAt, boolK, reduceCtorEq, List.mem_singleton, true_and, and_true, e_wipe0, e_wipe1, ex_c, getC_self, setC_self, delC_self, lstOf, List.set_cons_zero, List.set_cons_succ, setC_setC, at_0, at_1, at_2, at_3, set_0, set_1, set_2, set_3, List.length_cons, List.length_nil, List.length_map, ↓reduceIte, Bool.false_eq_true, decide_eq_true_eq, ↓e_seq]
  refine ⟨by omega, fun p hp => lc_filter st (inB l) (fun x hx acc C h => ?_) ?_⟩
  · unfold lcStep
    try simp only [↓e_var, ↓sl_zero, ↓sl_succ, ↓m_some, ↓e_asg, ↓e_exp, ↓e_ret, ↓e_retN, ↓e_ifS, ↓e_next, ↓e_nev, ↓e_c, ↓e_op, ↓e_un, ↓e_te, ↓e_tru, ↓e_and, ↓e_or, ↓e_not, ↓e_andV, ↓e_orV, ↓e_notV, ↓e_if, ↓e_chain, ↓e_nil, ↓e_cons, ↓e_tup, ↓e_lst, ↓e_lstO, ↓e_cb, ↓e_call, ↓e_fld, ↓e_frz, ↓e_app, ↓e_setIx, ↓e_setF, ↓e_isT, ↓e_make, ↓e_itL, ↓e_itT, ↓e_rng1, ↓e_rng2, ↓e_yes, ↓e_gn, ↓e_lc, ↓e_lcO, ↓e_for, ↓e_brk, ↓e_cnt, ↓e_inOwn, ↓f_ixT, ↓f_ixL, ↓f_ixP, ↓f_add, ↓f_addL, ↓f_addS, ↓f_sub, ↓f_mul, ↓f_mod, ↓f_div, ↓f_pow, ↓f_lt, ↓f_le, ↓f_gt, ↓f_ge, ↓f_eq, ↓f_ne, ↓f_int, ↓f_neg, ↓f_lenL, ↓f_lenT, ↓f_lenP, truL, truT, truI, truB, truN, objO, clsO, getF, putFs, putDs, tabAt, boolK, reduceCtorEq, List.mem_singleton, true_and, and_true, e_wipe0, e_wipe1, ex_c, getC_self, setC_self, delC_self, lstOf, List.set_cons_zero, List.set_cons_succ, setC_setC, at_0, at_1, at_2, at_3, set_0, set_1, set_2, set_3, List.length_cons, List.length_nil, List.length_map, ↓reduceIte, Bool.false_eq_true, decide_eq_true_eq, ↓e_seq]
    refine ⟨x, l, rfl, ?_⟩
    try simp only [↓e_var, ↓sl_zero, ↓sl_succ, ↓m_some, ↓e_asg, ↓e_exp, ↓e_ret, ↓e_retN, ↓e_ifS, ↓e_next, ↓e_nev, ↓e_c, ↓e_op, ↓e_un, ↓e_te, ↓e_tru, ↓e_and, ↓e_or, ↓e_not, ↓e_andV, ↓e_orV, ↓e_notV, ↓e_if, ↓e_chain, ↓e_nil, ↓e_cons, ↓e_tup, ↓e_lst, ↓e_lstO, ↓e_cb, ↓e_call, ↓e_fld, ↓e_frz, ↓e_app, ↓e_setIx, ↓e_setF, ↓e_isT, ↓e_make, ↓e_itL, ↓e_itT, ↓e_rng1, ↓e_rng2, ↓e_yes, ↓e_gn, ↓e_lc, ↓e_lcO, ↓e_for, ↓e_brk, ↓e_cnt, ↓e_inOwn, ↓f_ixT, ↓f_ixL, ↓f_ixP, ↓f_add, ↓f_addL, ↓f_addS, ↓f_sub, ↓f_mul, ↓f_mod, ↓f_div, ↓f_pow, ↓f_lt, ↓f_le, ↓f_gt, ↓f_ge, ↓f_eq, ↓f_ne, ↓f_int, ↓f_neg, ↓f_lenL, ↓f_lenT, ↓f_lenP, truL, truT, truI, truB, truN, objO, clsO, getF, putFs, putDs, tabAt, boolK, reduceCtorEq, List.mem_singleton, true_and, and_true, e_wipe0, e_wipe1, ex_c, getC_self, setC_self, delC_self, lstOf, List.set_cons_zero, List.set_cons_succ, setC_setC, at_0, at_1, at_2, at_3, set_0, set_1, set_2, set_3, List.length_cons, List.length_nil, List.length_map, ↓reduceIte, Bool.false_eq_true, decide_eq_true_eq, ↓e_seq]
    cases e : inB l x with
    | true => rw [e] at h; exact h
    | false => rw [e] at h; exact h
  · try simp only [↓e_var, ↓sl_zero, ↓sl_succ, ↓m_some, ↓e_asg, ↓e_exp, ↓e_ret, ↓e_retN, ↓e_ifS, ↓e_next, ↓e_nev, ↓e_c, ↓e_op, ↓e_un, ↓e_te, ↓e_tru, ↓e_and, ↓e_or, ↓e_not, ↓e_andV, ↓e_orV, ↓e_notV, ↓e_if, ↓e_chain, ↓e_nil, ↓e_cons, ↓e_tup, ↓e_lst, ↓e_lstO, ↓e_cb, ↓e_call, ↓e_fld, ↓e_frz, ↓e_app, ↓e_setIx, ↓e_setF, ↓e_isT, ↓e_make, ↓e_itL, ↓e_itT, ↓e_rng1, ↓e_rng2, ↓e_yes, ↓e_gn, ↓e_lc, ↓e_lcO, ↓e_for, ↓e_brk, ↓e_cnt, ↓e_inOwn, ↓f_ixT, ↓f_ixL, ↓f_ixP, ↓f_add, ↓f_addL, ↓f_addS, ↓f_sub, ↓f_mul, ↓f_mod, ↓f_div, ↓f_pow, ↓f_lt, ↓f_le, ↓f_gt, ↓f_ge, ↓f_eq, ↓f_ne, ↓f_int, ↓f_neg, ↓f_lenL, ↓f_lenT, ↓f_lenP, truL, truT, truI, truB, truN, objO, clsO, getF, putFs, putDs, tabAt, boolK, reduceCtorEq, List.mem_singleton, true_and, and_true, e_wipe0, e_wipe1, ex_c, getC_self, setC_self, delC_self, lstOf, List.set_cons_zero, List.set_cons_succ, setC_setC, at_0, at_1, at_2, at_3, set_0, set_1, set_2, set_3, List.length_cons, List.length_nil, List.length_map, ↓reduceIte, Bool.false_eq_true, decide_eq_true_eq, ↓e_seq]
    exact weak_now k
def S_law_box : DSp := fun ds O P E => ∃ ns salt, ds = [.scr ns, .int salt] ∧ ∀ b, freshC O b → P (.ptr b) ((b, .box) :: O)
def N_law_box : List Str := ["_law_script", "_law_salt", "_law_cell"]
def T_law_box : DS := (dRet (dLstO (dCons (dLc (dItL (dSlice (dVar 0) dNoP (dPart (dC (.int 63))))) (dgN 2) dYes (dCB fInt (dCons (dVar 2) dNil)) [2]) (dCons (dC (.int 0)) (dCons (dC (.int 0)) (dCons (dVar 1) dNil))))))

theorem pure_law_box : Pure N_law_box 2 S_law_box T_law_box := by
  rintro ds O P E ⟨ns, salt, rfl, k⟩
  refine ⟨rfl, Opn.now ?_⟩
  have hs : startD N_law_box [.scr ns, .int salt] = [some (.scr ns), some (.int salt), none] := rfl
  rw [hs]
  unfold T_law_box
  obtain ⟨ms, e, hm⟩ := cut_box ns
  try simp only [↓e_var, ↓sl_zero, ↓sl_succ, ↓m_some, ↓e_asg, ↓e_exp, ↓e_ret, ↓e_retN, ↓e_ifS, ↓e_next, ↓e_nev, ↓e_c, ↓e_op, ↓e_un, ↓e_te, ↓e_tru, ↓e_and, ↓e_or, ↓e_not, ↓e_andV, ↓e_orV, ↓e_notV, ↓e_if, ↓e_chain, ↓e_nil, ↓e_cons, ↓e_tup, ↓e_lst, ↓e_lstO, ↓e_cb, ↓e_call, ↓e_fld, ↓e_frz, ↓e_app, ↓e_setIx, ↓e_setF, ↓e_isT, ↓e_make, ↓e_itL, ↓e_itT, ↓e_rng1, ↓e_rng2, ↓e_yes, ↓e_gn, ↓e_lc, ↓e_lcO, ↓e_for, ↓e_brk, ↓e_cnt, ↓e_inOwn, ↓f_ixT, ↓f_ixL, ↓f_ixP, ↓f_add, ↓f_addL, ↓f_addS, ↓f_sub, ↓f_mul, ↓f_mod, ↓f_div, ↓f_pow, ↓f_lt, ↓f_le, ↓f_gt, ↓f_ge, ↓f_eq, ↓f_ne, ↓f_int, ↓f_neg, ↓f_lenL, ↓f_lenT, ↓f_lenP, truL, truT, truI, truB, truN, objO, clsO, getF, putFs, putDs, tabAt, boolK, reduceCtorEq, List.mem_singleton, true_and, and_true, e_wipe0, e_wipe1, ex_c, getC_self, setC_self, delC_self, lstOf, List.set_cons_zero, List.set_cons_succ, setC_setC, at_0, at_1, at_2, at_3, set_0, set_1, set_2, set_3, List.length_cons, List.length_nil, List.length_map, ↓reduceIte, Bool.false_eq_true, decide_eq_true_eq, ↓e_seq, dSlice, dNoP, dPart, e]
  refine ⟨by omega, fun p hp => lc_map D.int (fun x hx acc C h => ?_) ⟨by rw [sizeLine_eq]; omega, fun q hq => ⟨_, Weak.toBox hm (Int.le_refl 0) (Int.le_refl 0), k q hq⟩⟩⟩
  unfold lcStep
  try simp only [↓e_var, ↓sl_zero, ↓sl_succ, ↓m_some, ↓e_asg, ↓e_exp, ↓e_ret, ↓e_retN, ↓e_ifS, ↓e_next, ↓e_nev, ↓e_c, ↓e_op, ↓e_un, ↓e_te, ↓e_tru, ↓e_and, ↓e_or, ↓e_not, ↓e_andV, ↓e_orV, ↓e_notV, ↓e_if, ↓e_chain, ↓e_nil, ↓e_cons, ↓e_tup, ↓e_lst, ↓e_lstO, ↓e_cb, ↓e_call, ↓e_fld, ↓e_frz, ↓e_app, ↓e_setIx, ↓e_setF, ↓e_isT, ↓e_make, ↓e_itL, ↓e_itT, ↓e_rng1, ↓e_rng2, ↓e_yes, ↓e_gn, ↓e_lc, ↓e_lcO, ↓e_for, ↓e_brk, ↓e_cnt, ↓e_inOwn, ↓f_ixT, ↓f_ixL, ↓f_ixP, ↓f_add, ↓f_addL, ↓f_addS, ↓f_sub, ↓f_mul, ↓f_mod, ↓f_div, ↓f_pow, ↓f_lt, ↓f_le, ↓f_gt, ↓f_ge, ↓f_eq, ↓f_ne, ↓f_int, ↓f_neg, ↓f_lenL, ↓f_lenT, ↓f_lenP, truL, truT, truI, truB, truN, objO, clsO, getF, putFs, putDs, tabAt, boolK, reduceCtorEq, List.mem_singleton, true_and, and_true, e_wipe0, e_wipe1, ex_c, getC_self, setC_self, delC_self, lstOf, List.set_cons_zero, List.set_cons_succ, setC_setC, at_0, at_1, at_2, at_3, set_0, set_1, set_2, set_3, List.length_cons, List.length_nil, List.length_map, ↓reduceIte, Bool.false_eq_true, decide_eq_true_eq, ↓e_seq]
  exact h
def S_law_whole : DSp := fun ds O P E => ∃ i, ds = [.int i] ∧ P (.bl true) O
def N_law_whole : List Str := ["_law_worth"]
def T_law_whole : DS := (dRet (dAndV (dIsT "int" (dVar 0)) (dNotV (dIsT "bool" (dVar 0)))))

theorem pure_law_whole : Pure N_law_whole 1 S_law_whole T_law_whole := by
  rintro ds O P E ⟨i, rfl, k⟩
  refine ⟨rfl, Opn.now ?_⟩
  have hs : startD N_law_whole [.int i] = [some (.int i)] := rfl
  rw [hs]
  unfold T_law_whole
  try simp only [↓e_var, ↓sl_zero, ↓sl_succ, ↓m_some, ↓e_asg, ↓e_exp, ↓e_ret, ↓e_retN, ↓e_ifS, ↓e_next, ↓e_nev, ↓e_c, ↓e_op, ↓e_un, ↓e_te, ↓e_tru, ↓e_and, ↓e_or, ↓e_not, ↓e_andV, ↓e_orV, ↓e_notV, ↓e_if, ↓e_chain, ↓e_nil, ↓e_cons, ↓e_tup, ↓e_lst, ↓e_lstO, ↓e_cb, ↓e_call, ↓e_fld, ↓e_frz, ↓e_app, ↓e_setIx, ↓e_setF, ↓e_isT, ↓e_make, ↓e_itL, ↓e_itT, ↓e_rng1, ↓e_rng2, ↓e_yes, ↓e_gn, ↓e_lc, ↓e_lcO, ↓e_for, ↓e_brk, ↓e_cnt, ↓e_inOwn, ↓f_ixT, ↓f_ixL, ↓f_ixP, ↓f_add, ↓f_addL, ↓f_addS, ↓f_sub, ↓f_mul, ↓f_mod, ↓f_div, ↓f_pow, ↓f_lt, ↓f_le, ↓f_gt, ↓f_ge, ↓f_eq, ↓f_ne, ↓f_int, ↓f_neg, ↓f_lenL, ↓f_lenT, ↓f_lenP, truL, truT, truI, truB, truN, objO, clsO, getF, putFs, putDs, tabAt, boolK, reduceCtorEq, List.mem_singleton, true_and, and_true, e_wipe0, e_wipe1, ex_c, getC_self, setC_self, delC_self, lstOf, List.set_cons_zero, List.set_cons_succ, setC_setC, at_0, at_1, at_2, at_3, set_0, set_1, set_2, set_3, List.length_cons, List.length_nil, List.length_map, ↓reduceIte, Bool.false_eq_true, decide_eq_true_eq, ↓e_seq, tyD, kit_int_int, kit_int_bool, Bool.not_false]
  exact weak_now k
def S_law_span : DSp := fun ds O P E => ∃ b, ds = [.ptr b] ∧ getC O b = some .box ∧ ∀ s, 4 ≤ s → s ≤ 300000 → P (.int s) O
def N_law_span : List Str := ["_law_box_here"]
def T_law_span : DS := (dRet (dOp fIx (dLst (dCons (dC (.int 4)) (dCons (dC (.int 12)) (dCons (dC (.int 50)) (dCons (dC (.int 300000)) dNil))))) (dCall S_law_take (dCons (dVar 0) (dCons (dC (.int 4)) dNil)))))

theorem four {a b c d : D} {O : Sto} {P : KD} {r : Int} (h0 : 0 ≤ r) (h4 : r < 4) (ha : P a O) (hb : P b O) (hc : P c O) (hd : P d O) : (match atI [a, b, c, d] r with | some d => P d O | none => False) := by
  have e : r = 0 ∨ r = 1 ∨ r = 2 ∨ r = 3 := by omega
  rcases e with rfl | rfl | rfl | rfl
  · rw [at_0]; exact ha
  · rw [at_1]; exact hb
  · rw [at_2]; exact hc
  · rw [at_3]; exact hd
theorem pure_law_span : Pure N_law_span 1 S_law_span T_law_span := by
  rintro ds O P E ⟨b, rfl, hb, k⟩
  refine ⟨rfl, Opn.now ?_⟩
  have hs : startD N_law_span [.ptr b] = [some (.ptr b)] := rfl
  rw [hs]
  unfold T_law_span
  try simp only [↓e_var, ↓sl_zero, ↓sl_succ, ↓m_some, ↓e_asg, ↓e_exp, ↓e_ret, ↓e_retN, ↓e_ifS, ↓e_next, ↓e_nev, ↓e_c, ↓e_op, ↓e_un, ↓e_te, ↓e_tru, ↓e_and, ↓e_or, ↓e_not, ↓e_andV, ↓e_orV, ↓e_notV, ↓e_if, ↓e_chain, ↓e_nil, ↓e_cons, ↓e_tup, ↓e_lst, ↓e_lstO, ↓e_cb, ↓e_call, ↓e_fld, ↓e_frz, ↓e_app, ↓e_setIx, ↓e_setF, ↓e_isT, ↓e_make, ↓e_itL, ↓e_itT, ↓e_rng1, ↓e_rng2, ↓e_yes, ↓e_gn, ↓e_lc, ↓e_lcO, ↓e_for, ↓e_brk, ↓e_cnt, ↓e_inOwn, ↓f_ixT, ↓f_ixL, ↓f_ixP, ↓f_add, ↓f_addL, ↓f_addS, ↓f_sub, ↓f_mul, ↓f_mod, ↓f_div, ↓f_pow, ↓f_lt, ↓f_le, ↓f_gt, ↓f_ge, ↓f_eq, ↓f_ne, ↓f_int, ↓f_neg, ↓f_lenL, ↓f_lenT, ↓f_lenP, truL, truT, truI, truB, truN, objO, clsO, getF, putFs, putDs, tabAt, boolK, reduceCtorEq, List.mem_singleton, true_and, and_true, e_wipe0, e_wipe1, ex_c, getC_self, setC_self, delC_self, lstOf, List.set_cons_zero, List.set_cons_succ, setC_setC, at_0, at_1, at_2, at_3, set_0, set_1, set_2, set_3, List.length_cons, List.length_nil, List.length_map, ↓reduceIte, Bool.false_eq_true, decide_eq_true_eq, ↓e_seq]
  refine ⟨by rw [sizeLine_eq]; omega, b, 4, rfl, hb, by omega, by omega, fun r h0 h1 => ?_⟩
  try simp only [↓e_var, ↓sl_zero, ↓sl_succ, ↓m_some, ↓e_asg, ↓e_exp, ↓e_ret, ↓e_retN, ↓e_ifS, ↓e_next, ↓e_nev, ↓e_c, ↓e_op, ↓e_un, ↓e_te, ↓e_tru, ↓e_and, ↓e_or, ↓e_not, ↓e_andV, ↓e_orV, ↓e_notV, ↓e_if, ↓e_chain, ↓e_nil, ↓e_cons, ↓e_tup, ↓e_lst, ↓e_lstO, ↓e_cb, ↓e_call, ↓e_fld, ↓e_frz, ↓e_app, ↓e_setIx, ↓e_setF, ↓e_isT, ↓e_make, ↓e_itL, ↓e_itT, ↓e_rng1, ↓e_rng2, ↓e_yes, ↓e_gn, ↓e_lc, ↓e_lcO, ↓e_for, ↓e_brk, ↓e_cnt, ↓e_inOwn, ↓f_ixT, ↓f_ixL, ↓f_ixP, ↓f_add, ↓f_addL, ↓f_addS, ↓f_sub, ↓f_mul, ↓f_mod, ↓f_div, ↓f_pow, ↓f_lt, ↓f_le, ↓f_gt, ↓f_ge, ↓f_eq, ↓f_ne, ↓f_int, ↓f_neg, ↓f_lenL, ↓f_lenT, ↓f_lenP, truL, truT, truI, truB, truN, objO, clsO, getF, putFs, putDs, tabAt, boolK, reduceCtorEq, List.mem_singleton, true_and, and_true, e_wipe0, e_wipe1, ex_c, getC_self, setC_self, delC_self, lstOf, List.set_cons_zero, List.set_cons_succ, setC_setC, at_0, at_1, at_2, at_3, set_0, set_1, set_2, set_3, List.length_cons, List.length_nil, List.length_map, ↓reduceIte, Bool.false_eq_true, decide_eq_true_eq, ↓e_seq]
  exact four (P := (endsD P E).rt) h0 h1 (weak_now (k _ (by omega) (by omega))) (weak_now (k _ (by omega) (by omega))) (weak_now (k _ (by omega) (by omega))) (weak_now (k _ (by omega) (by omega)))
def S_law_moved : DSp := fun ds O P E => ∃ b, ds = [.ptr b] ∧ getC O b = some .box ∧ ∀ s, P (.int s) O
def N_law_moved : List Str := ["_law_box_here"]
def T_law_moved : DS := (dRet (dOp fIx (dLst (dCons (dC (.int 0)) (dCons (dC (.int 0)) (dCons (dUn fNeg (dC (.int 7))) (dCons (dOp fPow (dC (.int 10)) (dC (.int 13))) (dCons (dUn fNeg (dOp fPow (dC (.int 10)) (dC (.int 20)))) dNil)))))) (dCall S_law_take (dCons (dVar 0) (dCons (dC (.int 5)) dNil)))))

theorem pure_law_moved : Pure N_law_moved 1 S_law_moved T_law_moved := by
  rintro ds O P E ⟨b, rfl, hb, k⟩
  refine ⟨rfl, Opn.now ?_⟩
  have hs : startD N_law_moved [.ptr b] = [some (.ptr b)] := rfl
  rw [hs]
  unfold T_law_moved
  try simp only [↓e_var, ↓sl_zero, ↓sl_succ, ↓m_some, ↓e_asg, ↓e_exp, ↓e_ret, ↓e_retN, ↓e_ifS, ↓e_next, ↓e_nev, ↓e_c, ↓e_op, ↓e_un, ↓e_te, ↓e_tru, ↓e_and, ↓e_or, ↓e_not, ↓e_andV, ↓e_orV, ↓e_notV, ↓e_if, ↓e_chain, ↓e_nil, ↓e_cons, ↓e_tup, ↓e_lst, ↓e_lstO, ↓e_cb, ↓e_call, ↓e_fld, ↓e_frz, ↓e_app, ↓e_setIx, ↓e_setF, ↓e_isT, ↓e_make, ↓e_itL, ↓e_itT, ↓e_rng1, ↓e_rng2, ↓e_yes, ↓e_gn, ↓e_lc, ↓e_lcO, ↓e_for, ↓e_brk, ↓e_cnt, ↓e_inOwn, ↓f_ixT, ↓f_ixL, ↓f_ixP, ↓f_add, ↓f_addL, ↓f_addS, ↓f_sub, ↓f_mul, ↓f_mod, ↓f_div, ↓f_pow, ↓f_lt, ↓f_le, ↓f_gt, ↓f_ge, ↓f_eq, ↓f_ne, ↓f_int, ↓f_neg, ↓f_lenL, ↓f_lenT, ↓f_lenP, truL, truT, truI, truB, truN, objO, clsO, getF, putFs, putDs, tabAt, boolK, reduceCtorEq, List.mem_singleton, true_and, and_true, e_wipe0, e_wipe1, ex_c, getC_self, setC_self, delC_self, lstOf, List.set_cons_zero, List.set_cons_succ, setC_setC, at_0, at_1, at_2, at_3, set_0, set_1, set_2, set_3, List.length_cons, List.length_nil, List.length_map, ↓reduceIte, Bool.false_eq_true, decide_eq_true_eq, ↓e_seq]
  refine ⟨⟨by omega, by omega, by decide⟩, ⟨by omega, by omega, by decide⟩, by rw [sizeLine_eq]; omega, b, 5, rfl, hb, by omega, by omega, fun r h0 h1 => ?_⟩
  try simp only [↓e_var, ↓sl_zero, ↓sl_succ, ↓m_some, ↓e_asg, ↓e_exp, ↓e_ret, ↓e_retN, ↓e_ifS, ↓e_next, ↓e_nev, ↓e_c, ↓e_op, ↓e_un, ↓e_te, ↓e_tru, ↓e_and, ↓e_or, ↓e_not, ↓e_andV, ↓e_orV, ↓e_notV, ↓e_if, ↓e_chain, ↓e_nil, ↓e_cons, ↓e_tup, ↓e_lst, ↓e_lstO, ↓e_cb, ↓e_call, ↓e_fld, ↓e_frz, ↓e_app, ↓e_setIx, ↓e_setF, ↓e_isT, ↓e_make, ↓e_itL, ↓e_itT, ↓e_rng1, ↓e_rng2, ↓e_yes, ↓e_gn, ↓e_lc, ↓e_lcO, ↓e_for, ↓e_brk, ↓e_cnt, ↓e_inOwn, ↓f_ixT, ↓f_ixL, ↓f_ixP, ↓f_add, ↓f_addL, ↓f_addS, ↓f_sub, ↓f_mul, ↓f_mod, ↓f_div, ↓f_pow, ↓f_lt, ↓f_le, ↓f_gt, ↓f_ge, ↓f_eq, ↓f_ne, ↓f_int, ↓f_neg, ↓f_lenL, ↓f_lenT, ↓f_lenP, truL, truT, truI, truB, truN, objO, clsO, getF, putFs, putDs, tabAt, boolK, reduceCtorEq, List.mem_singleton, true_and, and_true, e_wipe0, e_wipe1, ex_c, getC_self, setC_self, delC_self, lstOf, List.set_cons_zero, List.set_cons_succ, setC_setC, at_0, at_1, at_2, at_3, set_0, set_1, set_2, set_3, List.length_cons, List.length_nil, List.length_map, ↓reduceIte, Bool.false_eq_true, decide_eq_true_eq, ↓e_seq]
  obtain ⟨d, hd, e⟩ := atI_lt (ds := [D.int 0, D.int 0, D.int (-7), D.int (10 ^ Int.toNat 13), D.int (-10 ^ Int.toNat 20)]) h0 (by simpa using h1)
  rw [e]
  simp only [List.mem_cons, List.not_mem_nil, or_false] at hd
  rcases hd with rfl | rfl | rfl | rfl | rfl <;> exact weak_now (k _)
def S_law_pair : DSp := fun ds O P E => ∃ b s m, ds = [.ptr b, .int s, .int m] ∧ getC O b = some .box ∧ 4 ≤ s ∧ s ≤ 300000 ∧ ∀ x : Int × Int, x.1 ≤ x.2 → P (pr x) O
def N_law_pair : List Str := ["_law_box_here", "_law_span_here", "_law_moved_here", "_law_bottom", "_law_wide"]
def T_law_pair_0 : DS := (dRet (dTup (dCons (dVar 3) (dCons (dOp fAdd (dVar 3) (dCall S_law_take (dCons (dVar 0) (dCons (dOp fAdd (dVar 4) (dC (.int 1))) dNil)))) dNil))))
def T_law_pair_1 : DS := (dSeq (dAsg 4 (dOp fIx (dLst (dCons (dC (.int 0)) (dCons (dC (.int 1)) (dCons (dC (.int 3)) (dCons (dVar 1) dNil))))) (dCall S_law_take (dCons (dVar 0) (dCons (dC (.int 4)) dNil))))) T_law_pair_0)
def T_law_pair : DS := (dSeq (dAsg 3 (dOp fAdd (dOp fSub (dCall S_law_take (dCons (dVar 0) (dCons (dOp fMul (dC (.int 2)) (dVar 1)) dNil))) (dVar 1)) (dVar 2))) T_law_pair_1)

theorem pure_law_pair : Pure N_law_pair 3 S_law_pair T_law_pair := by
  rintro ds O P E ⟨b, s, m, rfl, hb, h4, h5, k⟩
  refine ⟨rfl, Opn.now ?_⟩
  have hs : startD N_law_pair [.ptr b, .int s, .int m] = [some (.ptr b), some (.int s), some (.int m), none, none] := rfl
  rw [hs]
  unfold T_law_pair
  try simp only [↓e_var, ↓sl_zero, ↓sl_succ, ↓m_some, ↓e_asg, ↓e_exp, ↓e_ret, ↓e_retN, ↓e_ifS, ↓e_next, ↓e_nev, ↓e_c, ↓e_op, ↓e_un, ↓e_te, ↓e_tru, ↓e_and, ↓e_or, ↓e_not, ↓e_andV, ↓e_orV, ↓e_notV, ↓e_if, ↓e_chain, ↓e_nil, ↓e_cons, ↓e_tup, ↓e_lst, ↓e_lstO, ↓e_cb, ↓e_call, ↓e_fld, ↓e_frz, ↓e_app, ↓e_setIx, ↓e_setF, ↓e_isT, ↓e_make, ↓e_itL, ↓e_itT, ↓e_rng1, ↓e_rng2, ↓e_yes, ↓e_gn, ↓e_lc, ↓e_lcO, ↓e_for, ↓e_brk, ↓e_cnt, ↓e_inOwn, ↓f_ixT, ↓f_ixL, ↓f_ixP, ↓f_add, ↓f_addL, ↓f_addS, ↓f_sub, ↓f_mul, ↓f_mod, ↓f_div, ↓f_pow, ↓f_lt, ↓f_le, ↓f_gt, ↓f_ge, ↓f_eq, ↓f_ne, ↓f_int, ↓f_neg, ↓f_lenL, ↓f_lenT, ↓f_lenP, truL, truT, truI, truB, truN, objO, clsO, getF, putFs, putDs, tabAt, boolK, reduceCtorEq, List.mem_singleton, true_and, and_true, e_wipe0, e_wipe1, ex_c, getC_self, setC_self, delC_self, lstOf, List.set_cons_zero, List.set_cons_succ, setC_setC, at_0, at_1, at_2, at_3, set_0, set_1, set_2, set_3, List.length_cons, List.length_nil, List.length_map, ↓reduceIte, Bool.false_eq_true, decide_eq_true_eq, ↓e_seq]
  refine ⟨.inl ⟨by omega, by omega⟩, b, 2 * s, rfl, hb, by omega, by omega, fun r h0 h1 => ?_⟩
  try simp only [↓e_var, ↓sl_zero, ↓sl_succ, ↓m_some, ↓e_asg, ↓e_exp, ↓e_ret, ↓e_retN, ↓e_ifS, ↓e_next, ↓e_nev, ↓e_c, ↓e_op, ↓e_un, ↓e_te, ↓e_tru, ↓e_and, ↓e_or, ↓e_not, ↓e_andV, ↓e_orV, ↓e_notV, ↓e_if, ↓e_chain, ↓e_nil, ↓e_cons, ↓e_tup, ↓e_lst, ↓e_lstO, ↓e_cb, ↓e_call, ↓e_fld, ↓e_frz, ↓e_app, ↓e_setIx, ↓e_setF, ↓e_isT, ↓e_make, ↓e_itL, ↓e_itT, ↓e_rng1, ↓e_rng2, ↓e_yes, ↓e_gn, ↓e_lc, ↓e_lcO, ↓e_for, ↓e_brk, ↓e_cnt, ↓e_inOwn, ↓f_ixT, ↓f_ixL, ↓f_ixP, ↓f_add, ↓f_addL, ↓f_addS, ↓f_sub, ↓f_mul, ↓f_mod, ↓f_div, ↓f_pow, ↓f_lt, ↓f_le, ↓f_gt, ↓f_ge, ↓f_eq, ↓f_ne, ↓f_int, ↓f_neg, ↓f_lenL, ↓f_lenT, ↓f_lenP, truL, truT, truI, truB, truN, objO, clsO, getF, putFs, putDs, tabAt, boolK, reduceCtorEq, List.mem_singleton, true_and, and_true, e_wipe0, e_wipe1, ex_c, getC_self, setC_self, delC_self, lstOf, List.set_cons_zero, List.set_cons_succ, setC_setC, at_0, at_1, at_2, at_3, set_0, set_1, set_2, set_3, List.length_cons, List.length_nil, List.length_map, ↓reduceIte, Bool.false_eq_true, decide_eq_true_eq, ↓e_seq]
  unfold T_law_pair_1
  try simp only [↓e_var, ↓sl_zero, ↓sl_succ, ↓m_some, ↓e_asg, ↓e_exp, ↓e_ret, ↓e_retN, ↓e_ifS, ↓e_next, ↓e_nev, ↓e_c, ↓e_op, ↓e_un, ↓e_te, ↓e_tru, ↓e_and, ↓e_or, ↓e_not, ↓e_andV, ↓e_orV, ↓e_notV, ↓e_if, ↓e_chain, ↓e_nil, ↓e_cons, ↓e_tup, ↓e_lst, ↓e_lstO, ↓e_cb, ↓e_call, ↓e_fld, ↓e_frz, ↓e_app, ↓e_setIx, ↓e_setF, ↓e_isT, ↓e_make, ↓e_itL, ↓e_itT, ↓e_rng1, ↓e_rng2, ↓e_yes, ↓e_gn, ↓e_lc, ↓e_lcO, ↓e_for, ↓e_brk, ↓e_cnt, ↓e_inOwn, ↓f_ixT, ↓f_ixL, ↓f_ixP, ↓f_add, ↓f_addL, ↓f_addS, ↓f_sub, ↓f_mul, ↓f_mod, ↓f_div, ↓f_pow, ↓f_lt, ↓f_le, ↓f_gt, ↓f_ge, ↓f_eq, ↓f_ne, ↓f_int, ↓f_neg, ↓f_lenL, ↓f_lenT, ↓f_lenP, truL, truT, truI, truB, truN, objO, clsO, getF, putFs, putDs, tabAt, boolK, reduceCtorEq, List.mem_singleton, true_and, and_true, e_wipe0, e_wipe1, ex_c, getC_self, setC_self, delC_self, lstOf, List.set_cons_zero, List.set_cons_succ, setC_setC, at_0, at_1, at_2, at_3, set_0, set_1, set_2, set_3, List.length_cons, List.length_nil, List.length_map, ↓reduceIte, Bool.false_eq_true, decide_eq_true_eq, ↓e_seq]
  refine ⟨by rw [sizeLine_eq]; omega, b, 4, rfl, hb, by omega, by omega, fun r' h0' h1' => ?_⟩
  try simp only [↓e_var, ↓sl_zero, ↓sl_succ, ↓m_some, ↓e_asg, ↓e_exp, ↓e_ret, ↓e_retN, ↓e_ifS, ↓e_next, ↓e_nev, ↓e_c, ↓e_op, ↓e_un, ↓e_te, ↓e_tru, ↓e_and, ↓e_or, ↓e_not, ↓e_andV, ↓e_orV, ↓e_notV, ↓e_if, ↓e_chain, ↓e_nil, ↓e_cons, ↓e_tup, ↓e_lst, ↓e_lstO, ↓e_cb, ↓e_call, ↓e_fld, ↓e_frz, ↓e_app, ↓e_setIx, ↓e_setF, ↓e_isT, ↓e_make, ↓e_itL, ↓e_itT, ↓e_rng1, ↓e_rng2, ↓e_yes, ↓e_gn, ↓e_lc, ↓e_lcO, ↓e_for, ↓e_brk, ↓e_cnt, ↓e_inOwn, ↓f_ixT, ↓f_ixL, ↓f_ixP, ↓f_add, ↓f_addL, ↓f_addS, ↓f_sub, ↓f_mul, ↓f_mod, ↓f_div, ↓f_pow, ↓f_lt, ↓f_le, ↓f_gt, ↓f_ge, ↓f_eq, ↓f_ne, ↓f_int, ↓f_neg, ↓f_lenL, ↓f_lenT, ↓f_lenP, truL, truT, truI, truB, truN, objO, clsO, getF, putFs, putDs, tabAt, boolK, reduceCtorEq, List.mem_singleton, true_and, and_true, e_wipe0, e_wipe1, ex_c, getC_self, setC_self, delC_self, lstOf, List.set_cons_zero, List.set_cons_succ, setC_setC, at_0, at_1, at_2, at_3, set_0, set_1, set_2, set_3, List.length_cons, List.length_nil, List.length_map, ↓reduceIte, Bool.false_eq_true, decide_eq_true_eq, ↓e_seq]
  have fin : ∀ t : Int, 0 ≤ t → t ≤ 300000 → T_law_pair_0 (endsD P E) [some (.ptr b), some (.int s), some (.int m), some (.int (r - s + m)), some (.int t)] O := fun t ht ht' => by
    unfold T_law_pair_0
    try simp only [↓e_var, ↓sl_zero, ↓sl_succ, ↓m_some, ↓e_asg, ↓e_exp, ↓e_ret, ↓e_retN, ↓e_ifS, ↓e_next, ↓e_nev, ↓e_c, ↓e_op, ↓e_un, ↓e_te, ↓e_tru, ↓e_and, ↓e_or, ↓e_not, ↓e_andV, ↓e_orV, ↓e_notV, ↓e_if, ↓e_chain, ↓e_nil, ↓e_cons, ↓e_tup, ↓e_lst, ↓e_lstO, ↓e_cb, ↓e_call, ↓e_fld, ↓e_frz, ↓e_app, ↓e_setIx, ↓e_setF, ↓e_isT, ↓e_make, ↓e_itL, ↓e_itT, ↓e_rng1, ↓e_rng2, ↓e_yes, ↓e_gn, ↓e_lc, ↓e_lcO, ↓e_for, ↓e_brk, ↓e_cnt, ↓e_inOwn, ↓f_ixT, ↓f_ixL, ↓f_ixP, ↓f_add, ↓f_addL, ↓f_addS, ↓f_sub, ↓f_mul, ↓f_mod, ↓f_div, ↓f_pow, ↓f_lt, ↓f_le, ↓f_gt, ↓f_ge, ↓f_eq, ↓f_ne, ↓f_int, ↓f_neg, ↓f_lenL, ↓f_lenT, ↓f_lenP, truL, truT, truI, truB, truN, objO, clsO, getF, putFs, putDs, tabAt, boolK, reduceCtorEq, List.mem_singleton, true_and, and_true, e_wipe0, e_wipe1, ex_c, getC_self, setC_self, delC_self, lstOf, List.set_cons_zero, List.set_cons_succ, setC_setC, at_0, at_1, at_2, at_3, set_0, set_1, set_2, set_3, List.length_cons, List.length_nil, List.length_map, ↓reduceIte, Bool.false_eq_true, decide_eq_true_eq, ↓e_seq]
    refine ⟨b, t + 1, rfl, hb, by omega, by omega, fun u hu hu' => ?_⟩
    try simp only [↓e_var, ↓sl_zero, ↓sl_succ, ↓m_some, ↓e_asg, ↓e_exp, ↓e_ret, ↓e_retN, ↓e_ifS, ↓e_next, ↓e_nev, ↓e_c, ↓e_op, ↓e_un, ↓e_te, ↓e_tru, ↓e_and, ↓e_or, ↓e_not, ↓e_andV, ↓e_orV, ↓e_notV, ↓e_if, ↓e_chain, ↓e_nil, ↓e_cons, ↓e_tup, ↓e_lst, ↓e_lstO, ↓e_cb, ↓e_call, ↓e_fld, ↓e_frz, ↓e_app, ↓e_setIx, ↓e_setF, ↓e_isT, ↓e_make, ↓e_itL, ↓e_itT, ↓e_rng1, ↓e_rng2, ↓e_yes, ↓e_gn, ↓e_lc, ↓e_lcO, ↓e_for, ↓e_brk, ↓e_cnt, ↓e_inOwn, ↓f_ixT, ↓f_ixL, ↓f_ixP, ↓f_add, ↓f_addL, ↓f_addS, ↓f_sub, ↓f_mul, ↓f_mod, ↓f_div, ↓f_pow, ↓f_lt, ↓f_le, ↓f_gt, ↓f_ge, ↓f_eq, ↓f_ne, ↓f_int, ↓f_neg, ↓f_lenL, ↓f_lenT, ↓f_lenP, truL, truT, truI, truB, truN, objO, clsO, getF, putFs, putDs, tabAt, boolK, reduceCtorEq, List.mem_singleton, true_and, and_true, e_wipe0, e_wipe1, ex_c, getC_self, setC_self, delC_self, lstOf, List.set_cons_zero, List.set_cons_succ, setC_setC, at_0, at_1, at_2, at_3, set_0, set_1, set_2, set_3, List.length_cons, List.length_nil, List.length_map, ↓reduceIte, Bool.false_eq_true, decide_eq_true_eq, ↓e_seq]
    exact ⟨by rw [sizeLine_eq]; omega, weak_now (k (r - s + m, r - s + m + u) (by show r - s + m ≤ r - s + m + u; omega))⟩
  exact four (P := fun d O => T_law_pair_0 (endsD P E) [some (.ptr b), some (.int s), some (.int m), some (.int (r - s + m)), some d] O) h0' h1' (fin _ (by omega) (by omega)) (fin _ (by omega) (by omega)) (fin _ (by omega) (by omega)) (fin _ (by omega) (by omega))
def ok2 (x : Int × Int) : Prop := x.1 ≤ x.2
def S_law_pairs : DSp := fun ds O P E => ∃ b n s m, ds = [.ptr b, .int n, .int s, .int m] ∧ getC O b = some .box ∧ 0 ≤ n ∧ n ≤ 100 ∧ 4 ≤ s ∧ s ≤ 300000 ∧ ∀ xs : List (Int × Int), (∀ x ∈ xs, ok2 x) → (xs.length : Int) ≤ n + 1 → P (.lst (xs.map pr)) O
def N_law_pairs : List Str := ["_law_box_here", "_law_most", "_law_span_here", "_law_moved_here", "_law_pairs_here", "_law_turn"]
def T_law_pairs_0 : DS := (dExp (dApp (dVar 4) (dOp fIx (dVar 4) (dCall S_law_take (dCons (dVar 0) (dCons (dCB fLen (dCons (dVar 4) dNil)) dNil))))))
def T_law_pairs_1 : DS := (dSeq (dIfS (dAnd (dTru (dVar 4)) (dTe (dOp fEq (dCall S_law_take (dCons (dVar 0) (dCons (dC (.int 4)) dNil))) (dC (.int 0))))) T_law_pairs_0 dNext) (dRet (dFrz (dVar 4))))
def T_law_pairs : DS := (dSeq (dAsg 4 (dLcO (dRng1 (dCons (dCall S_law_take (dCons (dVar 0) (dCons (dOp fAdd (dVar 1) (dC (.int 1))) dNil))) dNil)) (dgN 5) dYes (dCall S_law_pair (dCons (dVar 0) (dCons (dVar 2) (dCons (dVar 3) dNil)))) [5])) T_law_pairs_1)

theorem all2_len {α β : Type} {R : α → β → Prop} {Q : β → Prop} {as : List α} {bs : List β} (h : All2 R as bs) (k : ∀ a b, R a b → Q b) : ∀ b ∈ bs, Q b := by
  induction h with
  | nil => intro b hb; cases hb
  | cons h _ ih =>
    intro b hb
    rcases List.mem_cons.mp hb with rfl | hb
    · exact k _ _ h
    · exact ih b hb
theorem pure_law_pairs : Pure N_law_pairs 4 S_law_pairs T_law_pairs := by
  rintro ds O P E ⟨b, n, s, m, rfl, hb, hn0, hn, h4, h5, k⟩
  refine ⟨rfl, Opn.now ?_⟩
  have hs : startD N_law_pairs [.ptr b, .int n, .int s, .int m] = [some (.ptr b), some (.int n), some (.int s), some (.int m), none, none] := rfl
  rw [hs]
  unfold T_law_pairs
  try simp only [↓e_var, ↓sl_zero, ↓sl_succ, ↓m_some, ↓e_asg, ↓e_exp, ↓e_ret, ↓e_retN, ↓e_ifS, ↓e_next, ↓e_nev, ↓e_c, ↓e_op, ↓e_un, ↓e_te, ↓e_tru, ↓e_and, ↓e_or, ↓e_not, ↓e_andV, ↓e_orV, ↓e_notV, ↓e_if, ↓e_chain, ↓e_nil, ↓e_cons, ↓e_tup, ↓e_lst, ↓e_lstO, ↓e_cb, ↓e_call, ↓e_fld, ↓e_frz, ↓e_app, ↓e_setIx, ↓e_setF, ↓e_isT, ↓e_make, ↓e_itL, ↓e_itT, ↓e_rng1, ↓e_rng2, ↓e_yes, ↓e_gn, ↓e_lc, ↓e_lcO, ↓e_for, ↓e_brk, ↓e_cnt, ↓e_inOwn, ↓f_ixT, ↓f_ixL, ↓f_ixP, ↓f_add, ↓f_addL, ↓f_addS, ↓f_sub, ↓f_mul, ↓f_mod, ↓f_div, ↓f_pow, ↓f_lt, ↓f_le, ↓f_gt, ↓f_ge, ↓f_eq, ↓f_ne, ↓f_int, ↓f_neg, ↓f_lenL, ↓f_lenT, ↓f_lenP, truL, truT, truI, truB, truN, objO, clsO, getF, putFs, putDs, tabAt, boolK, reduceCtorEq, List.mem_singleton, true_and, and_true, e_wipe0, e_wipe1, ex_c, getC_self, setC_self, delC_self, lstOf, List.set_cons_zero, List.set_cons_succ, setC_setC, at_0, at_1, at_2, at_3, set_0, set_1, set_2, set_3, List.length_cons, List.length_nil, List.length_map, ↓reduceIte, Bool.false_eq_true, decide_eq_true_eq, ↓e_seq]
  refine ⟨b, n + 1, rfl, hb, by omega, by omega, fun r h0 h1 => ?_⟩
  try simp only [↓e_var, ↓sl_zero, ↓sl_succ, ↓m_some, ↓e_asg, ↓e_exp, ↓e_ret, ↓e_retN, ↓e_ifS, ↓e_next, ↓e_nev, ↓e_c, ↓e_op, ↓e_un, ↓e_te, ↓e_tru, ↓e_and, ↓e_or, ↓e_not, ↓e_andV, ↓e_orV, ↓e_notV, ↓e_if, ↓e_chain, ↓e_nil, ↓e_cons, ↓e_tup, ↓e_lst, ↓e_lstO, ↓e_cb, ↓e_call, ↓e_fld, ↓e_frz, ↓e_app, ↓e_setIx, ↓e_setF, ↓e_isT, ↓e_make, ↓e_itL, ↓e_itT, ↓e_rng1, ↓e_rng2, ↓e_yes, ↓e_gn, ↓e_lc, ↓e_lcO, ↓e_for, ↓e_brk, ↓e_cnt, ↓e_inOwn, ↓f_ixT, ↓f_ixL, ↓f_ixP, ↓f_add, ↓f_addL, ↓f_addS, ↓f_sub, ↓f_mul, ↓f_mod, ↓f_div, ↓f_pow, ↓f_lt, ↓f_le, ↓f_gt, ↓f_ge, ↓f_eq, ↓f_ne, ↓f_int, ↓f_neg, ↓f_lenL, ↓f_lenT, ↓f_lenP, truL, truT, truI, truB, truN, objO, clsO, getF, putFs, putDs, tabAt, boolK, reduceCtorEq, List.mem_singleton, true_and, and_true, e_wipe0, e_wipe1, ex_c, getC_self, setC_self, delC_self, lstOf, List.set_cons_zero, List.set_cons_succ, setC_setC, at_0, at_1, at_2, at_3, set_0, set_1, set_2, set_3, List.length_cons, List.length_nil, List.length_map, ↓reduceIte, Bool.false_eq_true, decide_eq_true_eq, ↓e_seq]
  obtain ⟨ks, ek, el⟩ := rangeD_map 0 r.toNat
  rw [ek]
  refine ⟨by omega, by omega, by rw [List.length_map, el]; omega, fun p hp => lc_draw (em := pr) (St := fun _ x => ok2 x) (fun x hx acc C h => ?_) fun xs hxs => ?_⟩
  · unfold lcStep
    try simp only [↓e_var, ↓sl_zero, ↓sl_succ, ↓m_some, ↓e_asg, ↓e_exp, ↓e_ret, ↓e_retN, ↓e_ifS, ↓e_next, ↓e_nev, ↓e_c, ↓e_op, ↓e_un, ↓e_te, ↓e_tru, ↓e_and, ↓e_or, ↓e_not, ↓e_andV, ↓e_orV, ↓e_notV, ↓e_if, ↓e_chain, ↓e_nil, ↓e_cons, ↓e_tup, ↓e_lst, ↓e_lstO, ↓e_cb, ↓e_call, ↓e_fld, ↓e_frz, ↓e_app, ↓e_setIx, ↓e_setF, ↓e_isT, ↓e_make, ↓e_itL, ↓e_itT, ↓e_rng1, ↓e_rng2, ↓e_yes, ↓e_gn, ↓e_lc, ↓e_lcO, ↓e_for, ↓e_brk, ↓e_cnt, ↓e_inOwn, ↓f_ixT, ↓f_ixL, ↓f_ixP, ↓f_add, ↓f_addL, ↓f_addS, ↓f_sub, ↓f_mul, ↓f_mod, ↓f_div, ↓f_pow, ↓f_lt, ↓f_le, ↓f_gt, ↓f_ge, ↓f_eq, ↓f_ne, ↓f_int, ↓f_neg, ↓f_lenL, ↓f_lenT, ↓f_lenP, truL, truT, truI, truB, truN, objO, clsO, getF, putFs, putDs, tabAt, boolK, reduceCtorEq, List.mem_singleton, true_and, and_true, e_wipe0, e_wipe1, ex_c, getC_self, setC_self, delC_self, lstOf, List.set_cons_zero, List.set_cons_succ, setC_setC, at_0, at_1, at_2, at_3, set_0, set_1, set_2, set_3, List.length_cons, List.length_nil, List.length_map, ↓reduceIte, Bool.false_eq_true, decide_eq_true_eq, ↓e_seq]
    refine ⟨b, s, m, rfl, getC_fresh hb hp, h4, h5, fun y hy => ?_⟩
    try simp only [↓e_var, ↓sl_zero, ↓sl_succ, ↓m_some, ↓e_asg, ↓e_exp, ↓e_ret, ↓e_retN, ↓e_ifS, ↓e_next, ↓e_nev, ↓e_c, ↓e_op, ↓e_un, ↓e_te, ↓e_tru, ↓e_and, ↓e_or, ↓e_not, ↓e_andV, ↓e_orV, ↓e_notV, ↓e_if, ↓e_chain, ↓e_nil, ↓e_cons, ↓e_tup, ↓e_lst, ↓e_lstO, ↓e_cb, ↓e_call, ↓e_fld, ↓e_frz, ↓e_app, ↓e_setIx, ↓e_setF, ↓e_isT, ↓e_make, ↓e_itL, ↓e_itT, ↓e_rng1, ↓e_rng2, ↓e_yes, ↓e_gn, ↓e_lc, ↓e_lcO, ↓e_for, ↓e_brk, ↓e_cnt, ↓e_inOwn, ↓f_ixT, ↓f_ixL, ↓f_ixP, ↓f_add, ↓f_addL, ↓f_addS, ↓f_sub, ↓f_mul, ↓f_mod, ↓f_div, ↓f_pow, ↓f_lt, ↓f_le, ↓f_gt, ↓f_ge, ↓f_eq, ↓f_ne, ↓f_int, ↓f_neg, ↓f_lenL, ↓f_lenT, ↓f_lenP, truL, truT, truI, truB, truN, objO, clsO, getF, putFs, putDs, tabAt, boolK, reduceCtorEq, List.mem_singleton, true_and, and_true, e_wipe0, e_wipe1, ex_c, getC_self, setC_self, delC_self, lstOf, List.set_cons_zero, List.set_cons_succ, setC_setC, at_0, at_1, at_2, at_3, set_0, set_1, set_2, set_3, List.length_cons, List.length_nil, List.length_map, ↓reduceIte, Bool.false_eq_true, decide_eq_true_eq, ↓e_seq]
    exact h y hy
  · have hall := all2_len hxs fun _ _ h => h
    have hlen : xs.length = r.toNat := by rw [← hxs.length, el]
    unfold T_law_pairs_1
    have hb' : ∀ c, getC ((p, c) :: O) b = some .box := fun c => getC_fresh hb hp
    have ne : b ≠ p := fresh_ne hb hp
    have tp : truD ((p, Cell.lst (xs.map pr)) :: O) (.ptr p) = some (!(xs.map pr).isEmpty) := truP getC_self
    try simp only [↓e_var, ↓sl_zero, ↓sl_succ, ↓m_some, ↓e_asg, ↓e_exp, ↓e_ret, ↓e_retN, ↓e_ifS, ↓e_next, ↓e_nev, ↓e_c, ↓e_op, ↓e_un, ↓e_te, ↓e_tru, ↓e_and, ↓e_or, ↓e_not, ↓e_andV, ↓e_orV, ↓e_notV, ↓e_if, ↓e_chain, ↓e_nil, ↓e_cons, ↓e_tup, ↓e_lst, ↓e_lstO, ↓e_cb, ↓e_call, ↓e_fld, ↓e_frz, ↓e_app, ↓e_setIx, ↓e_setF, ↓e_isT, ↓e_make, ↓e_itL, ↓e_itT, ↓e_rng1, ↓e_rng2, ↓e_yes, ↓e_gn, ↓e_lc, ↓e_lcO, ↓e_for, ↓e_brk, ↓e_cnt, ↓e_inOwn, ↓f_ixT, ↓f_ixL, ↓f_ixP, ↓f_add, ↓f_addL, ↓f_addS, ↓f_sub, ↓f_mul, ↓f_mod, ↓f_div, ↓f_pow, ↓f_lt, ↓f_le, ↓f_gt, ↓f_ge, ↓f_eq, ↓f_ne, ↓f_int, ↓f_neg, ↓f_lenL, ↓f_lenT, ↓f_lenP, truL, truT, truI, truB, truN, objO, clsO, getF, putFs, putDs, tabAt, boolK, reduceCtorEq, List.mem_singleton, true_and, and_true, e_wipe0, e_wipe1, ex_c, getC_self, setC_self, delC_self, lstOf, List.set_cons_zero, List.set_cons_succ, setC_setC, at_0, at_1, at_2, at_3, set_0, set_1, set_2, set_3, List.length_cons, List.length_nil, List.length_map, ↓reduceIte, Bool.false_eq_true, decide_eq_true_eq, ↓e_seq, tp]
    cases xs with
    | nil =>
      try simp only [↓e_var, ↓sl_zero, ↓sl_succ, ↓m_some, ↓e_asg, ↓e_exp, ↓e_ret, ↓e_retN, ↓e_ifS, ↓e_next, ↓e_nev, ↓e_c, ↓e_op, ↓e_un, ↓e_te, ↓e_tru, ↓e_and, ↓e_or, ↓e_not, ↓e_andV, ↓e_orV, ↓e_notV, ↓e_if, ↓e_chain, ↓e_nil, ↓e_cons, ↓e_tup, ↓e_lst, ↓e_lstO, ↓e_cb, ↓e_call, ↓e_fld, ↓e_frz, ↓e_app, ↓e_setIx, ↓e_setF, ↓e_isT, ↓e_make, ↓e_itL, ↓e_itT, ↓e_rng1, ↓e_rng2, ↓e_yes, ↓e_gn, ↓e_lc, ↓e_lcO, ↓e_for, ↓e_brk, ↓e_cnt, ↓e_inOwn, ↓f_ixT, ↓f_ixL, ↓f_ixP, ↓f_add, ↓f_addL, ↓f_addS, ↓f_sub, ↓f_mul, ↓f_mod, ↓f_div, ↓f_pow, ↓f_lt, ↓f_le, ↓f_gt, ↓f_ge, ↓f_eq, ↓f_ne, ↓f_int, ↓f_neg, ↓f_lenL, ↓f_lenT, ↓f_lenP, truL, truT, truI, truB, truN, objO, clsO, getF, putFs, putDs, tabAt, boolK, reduceCtorEq, List.mem_singleton, true_and, and_true, e_wipe0, e_wipe1, ex_c, getC_self, setC_self, delC_self, lstOf, List.set_cons_zero, List.set_cons_succ, setC_setC, at_0, at_1, at_2, at_3, set_0, set_1, set_2, set_3, List.length_cons, List.length_nil, List.length_map, ↓reduceIte, Bool.false_eq_true, decide_eq_true_eq, ↓e_seq, List.map_nil, List.isEmpty_nil, Bool.not_true, frzD]
      exact weak_now (k [] (fun x hx => by cases hx) (by simp; omega))
    | cons x xs =>
      try simp only [↓e_var, ↓sl_zero, ↓sl_succ, ↓m_some, ↓e_asg, ↓e_exp, ↓e_ret, ↓e_retN, ↓e_ifS, ↓e_next, ↓e_nev, ↓e_c, ↓e_op, ↓e_un, ↓e_te, ↓e_tru, ↓e_and, ↓e_or, ↓e_not, ↓e_andV, ↓e_orV, ↓e_notV, ↓e_if, ↓e_chain, ↓e_nil, ↓e_cons, ↓e_tup, ↓e_lst, ↓e_lstO, ↓e_cb, ↓e_call, ↓e_fld, ↓e_frz, ↓e_app, ↓e_setIx, ↓e_setF, ↓e_isT, ↓e_make, ↓e_itL, ↓e_itT, ↓e_rng1, ↓e_rng2, ↓e_yes, ↓e_gn, ↓e_lc, ↓e_lcO, ↓e_for, ↓e_brk, ↓e_cnt, ↓e_inOwn, ↓f_ixT, ↓f_ixL, ↓f_ixP, ↓f_add, ↓f_addL, ↓f_addS, ↓f_sub, ↓f_mul, ↓f_mod, ↓f_div, ↓f_pow, ↓f_lt, ↓f_le, ↓f_gt, ↓f_ge, ↓f_eq, ↓f_ne, ↓f_int, ↓f_neg, ↓f_lenL, ↓f_lenT, ↓f_lenP, truL, truT, truI, truB, truN, objO, clsO, getF, putFs, putDs, tabAt, boolK, reduceCtorEq, List.mem_singleton, true_and, and_true, e_wipe0, e_wipe1, ex_c, getC_self, setC_self, delC_self, lstOf, List.set_cons_zero, List.set_cons_succ, setC_setC, at_0, at_1, at_2, at_3, set_0, set_1, set_2, set_3, List.length_cons, List.length_nil, List.length_map, ↓reduceIte, Bool.false_eq_true, decide_eq_true_eq, ↓e_seq, List.map_cons, List.isEmpty_cons, Bool.not_false]
      refine ⟨b, 4, rfl, hb' _, by omega, by omega, fun r1 h01 h11 => ?_⟩
      try simp only [↓e_var, ↓sl_zero, ↓sl_succ, ↓m_some, ↓e_asg, ↓e_exp, ↓e_ret, ↓e_retN, ↓e_ifS, ↓e_next, ↓e_nev, ↓e_c, ↓e_op, ↓e_un, ↓e_te, ↓e_tru, ↓e_and, ↓e_or, ↓e_not, ↓e_andV, ↓e_orV, ↓e_notV, ↓e_if, ↓e_chain, ↓e_nil, ↓e_cons, ↓e_tup, ↓e_lst, ↓e_lstO, ↓e_cb, ↓e_call, ↓e_fld, ↓e_frz, ↓e_app, ↓e_setIx, ↓e_setF, ↓e_isT, ↓e_make, ↓e_itL, ↓e_itT, ↓e_rng1, ↓e_rng2, ↓e_yes, ↓e_gn, ↓e_lc, ↓e_lcO, ↓e_for, ↓e_brk, ↓e_cnt, ↓e_inOwn, ↓f_ixT, ↓f_ixL, ↓f_ixP, ↓f_add, ↓f_addL, ↓f_addS, ↓f_sub, ↓f_mul, ↓f_mod, ↓f_div, ↓f_pow, ↓f_lt, ↓f_le, ↓f_gt, ↓f_ge, ↓f_eq, ↓f_ne, ↓f_int, ↓f_neg, ↓f_lenL, ↓f_lenT, ↓f_lenP, truL, truT, truI, truB, truN, objO, clsO, getF, putFs, putDs, tabAt, boolK, reduceCtorEq, List.mem_singleton, true_and, and_true, e_wipe0, e_wipe1, ex_c, getC_self, setC_self, delC_self, lstOf, List.set_cons_zero, List.set_cons_succ, setC_setC, at_0, at_1, at_2, at_3, set_0, set_1, set_2, set_3, List.length_cons, List.length_nil, List.length_map, ↓reduceIte, Bool.false_eq_true, decide_eq_true_eq, ↓e_seq]
      by_cases c : r1 = 0
      · rw [if_pos c]
        unfold T_law_pairs_0
        try simp only [↓e_var, ↓sl_zero, ↓sl_succ, ↓m_some, ↓e_asg, ↓e_exp, ↓e_ret, ↓e_retN, ↓e_ifS, ↓e_next, ↓e_nev, ↓e_c, ↓e_op, ↓e_un, ↓e_te, ↓e_tru, ↓e_and, ↓e_or, ↓e_not, ↓e_andV, ↓e_orV, ↓e_notV, ↓e_if, ↓e_chain, ↓e_nil, ↓e_cons, ↓e_tup, ↓e_lst, ↓e_lstO, ↓e_cb, ↓e_call, ↓e_fld, ↓e_frz, ↓e_app, ↓e_setIx, ↓e_setF, ↓e_isT, ↓e_make, ↓e_itL, ↓e_itT, ↓e_rng1, ↓e_rng2, ↓e_yes, ↓e_gn, ↓e_lc, ↓e_lcO, ↓e_for, ↓e_brk, ↓e_cnt, ↓e_inOwn, ↓f_ixT, ↓f_ixL, ↓f_ixP, ↓f_add, ↓f_addL, ↓f_addS, ↓f_sub, ↓f_mul, ↓f_mod, ↓f_div, ↓f_pow, ↓f_lt, ↓f_le, ↓f_gt, ↓f_ge, ↓f_eq, ↓f_ne, ↓f_int, ↓f_neg, ↓f_lenL, ↓f_lenT, ↓f_lenP, truL, truT, truI, truB, truN, objO, clsO, getF, putFs, putDs, tabAt, boolK, reduceCtorEq, List.mem_singleton, true_and, and_true, e_wipe0, e_wipe1, ex_c, getC_self, setC_self, delC_self, lstOf, List.set_cons_zero, List.set_cons_succ, setC_setC, at_0, at_1, at_2, at_3, set_0, set_1, set_2, set_3, List.length_cons, List.length_nil, List.length_map, ↓reduceIte, Bool.false_eq_true, decide_eq_true_eq, ↓e_seq, lenD]
        refine ⟨b, _, rfl, hb' _, ?_, ?_, fun r2 h02 h12 => ?_⟩
        · omega
        · simp only [List.length_cons] at hlen; omega
        try simp only [↓e_var, ↓sl_zero, ↓sl_succ, ↓m_some, ↓e_asg, ↓e_exp, ↓e_ret, ↓e_retN, ↓e_ifS, ↓e_next, ↓e_nev, ↓e_c, ↓e_op, ↓e_un, ↓e_te, ↓e_tru, ↓e_and, ↓e_or, ↓e_not, ↓e_andV, ↓e_orV, ↓e_notV, ↓e_if, ↓e_chain, ↓e_nil, ↓e_cons, ↓e_tup, ↓e_lst, ↓e_lstO, ↓e_cb, ↓e_call, ↓e_fld, ↓e_frz, ↓e_app, ↓e_setIx, ↓e_setF, ↓e_isT, ↓e_make, ↓e_itL, ↓e_itT, ↓e_rng1, ↓e_rng2, ↓e_yes, ↓e_gn, ↓e_lc, ↓e_lcO, ↓e_for, ↓e_brk, ↓e_cnt, ↓e_inOwn, ↓f_ixT, ↓f_ixL, ↓f_ixP, ↓f_add, ↓f_addL, ↓f_addS, ↓f_sub, ↓f_mul, ↓f_mod, ↓f_div, ↓f_pow, ↓f_lt, ↓f_le, ↓f_gt, ↓f_ge, ↓f_eq, ↓f_ne, ↓f_int, ↓f_neg, ↓f_lenL, ↓f_lenT, ↓f_lenP, truL, truT, truI, truB, truN, objO, clsO, getF, putFs, putDs, tabAt, boolK, reduceCtorEq, List.mem_singleton, true_and, and_true, e_wipe0, e_wipe1, ex_c, getC_self, setC_self, delC_self, lstOf, List.set_cons_zero, List.set_cons_succ, setC_setC, at_0, at_1, at_2, at_3, set_0, set_1, set_2, set_3, List.length_cons, List.length_nil, List.length_map, ↓reduceIte, Bool.false_eq_true, decide_eq_true_eq, ↓e_seq]
        obtain ⟨y, hy, e⟩ := atI_map (f := pr) (xs := x :: xs) h02 (by simpa using h12)
        simp only [List.map_cons] at e
        rw [e]
        try simp only [↓e_var, ↓sl_zero, ↓sl_succ, ↓m_some, ↓e_asg, ↓e_exp, ↓e_ret, ↓e_retN, ↓e_ifS, ↓e_next, ↓e_nev, ↓e_c, ↓e_op, ↓e_un, ↓e_te, ↓e_tru, ↓e_and, ↓e_or, ↓e_not, ↓e_andV, ↓e_orV, ↓e_notV, ↓e_if, ↓e_chain, ↓e_nil, ↓e_cons, ↓e_tup, ↓e_lst, ↓e_lstO, ↓e_cb, ↓e_call, ↓e_fld, ↓e_frz, ↓e_app, ↓e_setIx, ↓e_setF, ↓e_isT, ↓e_make, ↓e_itL, ↓e_itT, ↓e_rng1, ↓e_rng2, ↓e_yes, ↓e_gn, ↓e_lc, ↓e_lcO, ↓e_for, ↓e_brk, ↓e_cnt, ↓e_inOwn, ↓f_ixT, ↓f_ixL, ↓f_ixP, ↓f_add, ↓f_addL, ↓f_addS, ↓f_sub, ↓f_mul, ↓f_mod, ↓f_div, ↓f_pow, ↓f_lt, ↓f_le, ↓f_gt, ↓f_ge, ↓f_eq, ↓f_ne, ↓f_int, ↓f_neg, ↓f_lenL, ↓f_lenT, ↓f_lenP, truL, truT, truI, truB, truN, objO, clsO, getF, putFs, putDs, tabAt, boolK, reduceCtorEq, List.mem_singleton, true_and, and_true, e_wipe0, e_wipe1, ex_c, getC_self, setC_self, delC_self, lstOf, List.set_cons_zero, List.set_cons_succ, setC_setC, at_0, at_1, at_2, at_3, set_0, set_1, set_2, set_3, List.length_cons, List.length_nil, List.length_map, ↓reduceIte, Bool.false_eq_true, decide_eq_true_eq, ↓e_seq, frzD]
        refine ⟨by rw [sizeLine_eq]; simp only [List.length_cons] at hlen; omega, ?_⟩
        have z := k (x :: xs ++ [y]) (fun z hz => ?_) ?_
        · simp only [List.map_append, List.map_cons, List.map_nil] at z
          exact weak_now z
        · rcases List.mem_append.mp hz with hz | hz
          · exact hall z hz
          · rw [List.mem_singleton.mp hz]; exact hall y hy
        · rw [List.length_append, List.length_singleton, hlen]; omega
      · rw [if_neg c]
        try simp only [↓e_var, ↓sl_zero, ↓sl_succ, ↓m_some, ↓e_asg, ↓e_exp, ↓e_ret, ↓e_retN, ↓e_ifS, ↓e_next, ↓e_nev, ↓e_c, ↓e_op, ↓e_un, ↓e_te, ↓e_tru, ↓e_and, ↓e_or, ↓e_not, ↓e_andV, ↓e_orV, ↓e_notV, ↓e_if, ↓e_chain, ↓e_nil, ↓e_cons, ↓e_tup, ↓e_lst, ↓e_lstO, ↓e_cb, ↓e_call, ↓e_fld, ↓e_frz, ↓e_app, ↓e_setIx, ↓e_setF, ↓e_isT, ↓e_make, ↓e_itL, ↓e_itT, ↓e_rng1, ↓e_rng2, ↓e_yes, ↓e_gn, ↓e_lc, ↓e_lcO, ↓e_for, ↓e_brk, ↓e_cnt, ↓e_inOwn, ↓f_ixT, ↓f_ixL, ↓f_ixP, ↓f_add, ↓f_addL, ↓f_addS, ↓f_sub, ↓f_mul, ↓f_mod, ↓f_div, ↓f_pow, ↓f_lt, ↓f_le, ↓f_gt, ↓f_ge, ↓f_eq, ↓f_ne, ↓f_int, ↓f_neg, ↓f_lenL, ↓f_lenT, ↓f_lenP, truL, truT, truI, truB, truN, objO, clsO, getF, putFs, putDs, tabAt, boolK, reduceCtorEq, List.mem_singleton, true_and, and_true, e_wipe0, e_wipe1, ex_c, getC_self, setC_self, delC_self, lstOf, List.set_cons_zero, List.set_cons_succ, setC_setC, at_0, at_1, at_2, at_3, set_0, set_1, set_2, set_3, List.length_cons, List.length_nil, List.length_map, ↓reduceIte, Bool.false_eq_true, decide_eq_true_eq, ↓e_seq, frzD]
        exact weak_now (k (x :: xs) hall (by rw [hlen]; omega))
def S_law_spots : DSp := fun ds O P E => ∃ xs : List (Int × Int), ds = [.lst (xs.map pr)] ∧ xs.length ≤ 1000 ∧ ∀ ns : List Int, ns.length ≤ 4 * xs.length + 1 → P (.lst (ns.map D.int)) O
def N_law_spots : List Str := ["_law_pairs_here", "_law_found", "_law_pair_here"]
def T_law_spots_0 : DS := (dAsg 1 (dOp fAdd (dVar 1) (dLst (dCons (dOp fSub (dOp fIx (dVar 2) (dC (.int 0))) (dC (.int 1))) (dCons (dOp fIx (dVar 2) (dC (.int 0))) (dCons (dOp fIx (dVar 2) (dC (.int 1))) (dCons (dOp fAdd (dOp fIx (dVar 2) (dC (.int 1))) (dC (.int 1))) dNil)))))))
def T_law_spots_1 : DS := (dSeq (dFor (dItL (dVar 0)) (dgN 2) T_law_spots_0) (dRet (dVar 1)))
def T_law_spots : DS := (dSeq (dAsg 1 (dLst (dCons (dC (.int 0)) dNil))) T_law_spots_1)

theorem pure_law_spots : Pure N_law_spots 1 S_law_spots T_law_spots := by
  rintro ds O P E ⟨xs, rfl, hl, k⟩
  refine ⟨rfl, Opn.now ?_⟩
  have hs : startD N_law_spots [.lst (xs.map pr)] = [some (.lst (xs.map pr)), none, none] := rfl
  rw [hs]
  unfold T_law_spots
  try simp only [↓e_var, ↓sl_zero, ↓sl_succ, ↓m_some, ↓e_asg, ↓e_exp, ↓e_ret, ↓e_retN, ↓e_ifS, ↓e_next, ↓e_nev, ↓e_c, ↓e_op, ↓e_un, ↓e_te, ↓e_tru, ↓e_and, ↓e_or, ↓e_not, ↓e_andV, ↓e_orV, ↓e_notV, ↓e_if, ↓e_chain, ↓e_nil, ↓e_cons, ↓e_tup, ↓e_lst, ↓e_lstO, ↓e_cb, ↓e_call, ↓e_fld, ↓e_frz, ↓e_app, ↓e_setIx, ↓e_setF, ↓e_isT, ↓e_make, ↓e_itL, ↓e_itT, ↓e_rng1, ↓e_rng2, ↓e_yes, ↓e_gn, ↓e_lc, ↓e_lcO, ↓e_for, ↓e_brk, ↓e_cnt, ↓e_inOwn, ↓f_ixT, ↓f_ixL, ↓f_ixP, ↓f_add, ↓f_addL, ↓f_addS, ↓f_sub, ↓f_mul, ↓f_mod, ↓f_div, ↓f_pow, ↓f_lt, ↓f_le, ↓f_gt, ↓f_ge, ↓f_eq, ↓f_ne, ↓f_int, ↓f_neg, ↓f_lenL, ↓f_lenT, ↓f_lenP, truL, truT, truI, truB, truN, objO, clsO, getF, putFs, putDs, tabAt, boolK, reduceCtorEq, List.mem_singleton, true_and, and_true, e_wipe0, e_wipe1, ex_c, getC_self, setC_self, delC_self, lstOf, List.set_cons_zero, List.set_cons_succ, setC_setC, at_0, at_1, at_2, at_3, set_0, set_1, set_2, set_3, List.length_cons, List.length_nil, List.length_map, ↓reduceIte, Bool.false_eq_true, decide_eq_true_eq, ↓e_seq]
  refine ⟨by rw [sizeLine_eq]; omega, ?_⟩
  unfold T_law_spots_1
  try simp only [↓e_var, ↓sl_zero, ↓sl_succ, ↓m_some, ↓e_asg, ↓e_exp, ↓e_ret, ↓e_retN, ↓e_ifS, ↓e_next, ↓e_nev, ↓e_c, ↓e_op, ↓e_un, ↓e_te, ↓e_tru, ↓e_and, ↓e_or, ↓e_not, ↓e_andV, ↓e_orV, ↓e_notV, ↓e_if, ↓e_chain, ↓e_nil, ↓e_cons, ↓e_tup, ↓e_lst, ↓e_lstO, ↓e_cb, ↓e_call, ↓e_fld, ↓e_frz, ↓e_app, ↓e_setIx, ↓e_setF, ↓e_isT, ↓e_make, ↓e_itL, ↓e_itT, ↓e_rng1, ↓e_rng2, ↓e_yes, ↓e_gn, ↓e_lc, ↓e_lcO, ↓e_for, ↓e_brk, ↓e_cnt, ↓e_inOwn, ↓f_ixT, ↓f_ixL, ↓f_ixP, ↓f_add, ↓f_addL, ↓f_addS, ↓f_sub, ↓f_mul, ↓f_mod, ↓f_div, ↓f_pow, ↓f_lt, ↓f_le, ↓f_gt, ↓f_ge, ↓f_eq, ↓f_ne, ↓f_int, ↓f_neg, ↓f_lenL, ↓f_lenT, ↓f_lenP, truL, truT, truI, truB, truN, objO, clsO, getF, putFs, putDs, tabAt, boolK, reduceCtorEq, List.mem_singleton, true_and, and_true, e_wipe0, e_wipe1, ex_c, getC_self, setC_self, delC_self, lstOf, List.set_cons_zero, List.set_cons_succ, setC_setC, at_0, at_1, at_2, at_3, set_0, set_1, set_2, set_3, List.length_cons, List.length_nil, List.length_map, ↓reduceIte, Bool.false_eq_true, decide_eq_true_eq, ↓e_seq]
  refine for_inv2 (emb := pr) (I := fun l Δ O1 => O1 = O ∧ ∃ (ns : List Int) (z : Option D), ns.length ≤ 4 * l.length + 1 ∧ Δ = [some (.lst (xs.map pr)), some (.lst (ns.map D.int)), z]) ⟨rfl, [0], none, by simp, rfl⟩ ?_ ?_
  · rintro Δ O1 ⟨rfl, ns, z, hn, rfl⟩
    try simp only [↓e_var, ↓sl_zero, ↓sl_succ, ↓m_some, ↓e_asg, ↓e_exp, ↓e_ret, ↓e_retN, ↓e_ifS, ↓e_next, ↓e_nev, ↓e_c, ↓e_op, ↓e_un, ↓e_te, ↓e_tru, ↓e_and, ↓e_or, ↓e_not, ↓e_andV, ↓e_orV, ↓e_notV, ↓e_if, ↓e_chain, ↓e_nil, ↓e_cons, ↓e_tup, ↓e_lst, ↓e_lstO, ↓e_cb, ↓e_call, ↓e_fld, ↓e_frz, ↓e_app, ↓e_setIx, ↓e_setF, ↓e_isT, ↓e_make, ↓e_itL, ↓e_itT, ↓e_rng1, ↓e_rng2, ↓e_yes, ↓e_gn, ↓e_lc, ↓e_lcO, ↓e_for, ↓e_brk, ↓e_cnt, ↓e_inOwn, ↓f_ixT, ↓f_ixL, ↓f_ixP, ↓f_add, ↓f_addL, ↓f_addS, ↓f_sub, ↓f_mul, ↓f_mod, ↓f_div, ↓f_pow, ↓f_lt, ↓f_le, ↓f_gt, ↓f_ge, ↓f_eq, ↓f_ne, ↓f_int, ↓f_neg, ↓f_lenL, ↓f_lenT, ↓f_lenP, truL, truT, truI, truB, truN, objO, clsO, getF, putFs, putDs, tabAt, boolK, reduceCtorEq, List.mem_singleton, true_and, and_true, e_wipe0, e_wipe1, ex_c, getC_self, setC_self, delC_self, lstOf, List.set_cons_zero, List.set_cons_succ, setC_setC, at_0, at_1, at_2, at_3, set_0, set_1, set_2, set_3, List.length_cons, List.length_nil, List.length_map, ↓reduceIte, Bool.false_eq_true, decide_eq_true_eq, ↓e_seq]
    exact weak_now (k ns hn)
  · rintro l x r e Δ O1 K ⟨rfl, ns, z, hn, rfl⟩ hK
    have hle : l.length + 1 ≤ xs.length := by rw [e]; simp
    try simp only [↓e_var, ↓sl_zero, ↓sl_succ, ↓m_some, ↓e_asg, ↓e_exp, ↓e_ret, ↓e_retN, ↓e_ifS, ↓e_next, ↓e_nev, ↓e_c, ↓e_op, ↓e_un, ↓e_te, ↓e_tru, ↓e_and, ↓e_or, ↓e_not, ↓e_andV, ↓e_orV, ↓e_notV, ↓e_if, ↓e_chain, ↓e_nil, ↓e_cons, ↓e_tup, ↓e_lst, ↓e_lstO, ↓e_cb, ↓e_call, ↓e_fld, ↓e_frz, ↓e_app, ↓e_setIx, ↓e_setF, ↓e_isT, ↓e_make, ↓e_itL, ↓e_itT, ↓e_rng1, ↓e_rng2, ↓e_yes, ↓e_gn, ↓e_lc, ↓e_lcO, ↓e_for, ↓e_brk, ↓e_cnt, ↓e_inOwn, ↓f_ixT, ↓f_ixL, ↓f_ixP, ↓f_add, ↓f_addL, ↓f_addS, ↓f_sub, ↓f_mul, ↓f_mod, ↓f_div, ↓f_pow, ↓f_lt, ↓f_le, ↓f_gt, ↓f_ge, ↓f_eq, ↓f_ne, ↓f_int, ↓f_neg, ↓f_lenL, ↓f_lenT, ↓f_lenP, truL, truT, truI, truB, truN, objO, clsO, getF, putFs, putDs, tabAt, boolK, reduceCtorEq, List.mem_singleton, true_and, and_true, e_wipe0, e_wipe1, ex_c, getC_self, setC_self, delC_self, lstOf, List.set_cons_zero, List.set_cons_succ, setC_setC, at_0, at_1, at_2, at_3, set_0, set_1, set_2, set_3, List.length_cons, List.length_nil, List.length_map, ↓reduceIte, Bool.false_eq_true, decide_eq_true_eq, ↓e_seq]
    unfold T_law_spots_0
    try simp only [↓e_var, ↓sl_zero, ↓sl_succ, ↓m_some, ↓e_asg, ↓e_exp, ↓e_ret, ↓e_retN, ↓e_ifS, ↓e_next, ↓e_nev, ↓e_c, ↓e_op, ↓e_un, ↓e_te, ↓e_tru, ↓e_and, ↓e_or, ↓e_not, ↓e_andV, ↓e_orV, ↓e_notV, ↓e_if, ↓e_chain, ↓e_nil, ↓e_cons, ↓e_tup, ↓e_lst, ↓e_lstO, ↓e_cb, ↓e_call, ↓e_fld, ↓e_frz, ↓e_app, ↓e_setIx, ↓e_setF, ↓e_isT, ↓e_make, ↓e_itL, ↓e_itT, ↓e_rng1, ↓e_rng2, ↓e_yes, ↓e_gn, ↓e_lc, ↓e_lcO, ↓e_for, ↓e_brk, ↓e_cnt, ↓e_inOwn, ↓f_ixT, ↓f_ixL, ↓f_ixP, ↓f_add, ↓f_addL, ↓f_addS, ↓f_sub, ↓f_mul, ↓f_mod, ↓f_div, ↓f_pow, ↓f_lt, ↓f_le, ↓f_gt, ↓f_ge, ↓f_eq, ↓f_ne, ↓f_int, ↓f_neg, ↓f_lenL, ↓f_lenT, ↓f_lenP, truL, truT, truI, truB, truN, objO, clsO, getF, putFs, putDs, tabAt, boolK, reduceCtorEq, List.mem_singleton, true_and, and_true, e_wipe0, e_wipe1, ex_c, getC_self, setC_self, delC_self, lstOf, List.set_cons_zero, List.set_cons_succ, setC_setC, at_0, at_1, at_2, at_3, set_0, set_1, set_2, set_3, List.length_cons, List.length_nil, List.length_map, ↓reduceIte, Bool.false_eq_true, decide_eq_true_eq, ↓e_seq]
    refine ⟨by rw [sizeLine_eq]; omega, by rw [sizeLine_eq]; omega, hK _ _ ⟨rfl, ns ++ [x.1 - 1, x.1, x.2, x.2 + 1], some (pr x), ?_, ?_⟩⟩
    · simp only [List.length_append, List.length_cons, List.length_nil]; omega
    · simp only [List.map_append, List.map_cons, List.map_nil]
def S_law_depth : DSp := fun ds O P E => ∃ (xs : List (Int × Int)) (l : Int), ds = [.lst (xs.map pr), .int l] ∧ xs.length ≤ 1000 ∧ P (.int (((xs.filter (inB l)).length : Nat) : Int)) O
def N_law_depth : List Str := ["_law_pairs_here", "_law_spot", "_law_pair_here"]
def T_law_depth : DS := (dRet (dCB fLen (dCons (dLc (dItL (dVar 0)) (dgN 2) (dTe (dChain fLe fLe (dOp fIx (dVar 2) (dC (.int 0))) (dVar 1) (dOp fIx (dVar 2) (dC (.int 1))))) (dVar 2) [2]) dNil)))

theorem pure_law_depth : Pure N_law_depth 2 S_law_depth T_law_depth := by
  rintro ds O P E ⟨xs, l, rfl, hl, k⟩
  refine ⟨rfl, Opn.now ?_⟩
  have hs : startD N_law_depth [.lst (xs.map pr), .int l] = [some (.lst (xs.map pr)), some (.int l), none] := rfl
  rw [hs]
  unfold T_law_depth
  try simp only [↓e_var, ↓sl_zero, ↓sl_succ, ↓m_some, ↓e_asg, ↓e_exp, ↓e_ret, ↓e_retN, ↓e_ifS, ↓e_next, ↓e_nev, ↓e_c, ↓e_op, ↓e_un, ↓e_te, ↓e_tru, ↓e_and, ↓e_or, ↓e_not, ↓e_andV, ↓e_orV, ↓e_notV, ↓e_if, ↓e_chain, ↓e_nil, ↓e_cons, ↓e_tup, ↓e_lst, ↓e_lstO, ↓e_cb, ↓e_call, ↓e_fld, ↓e_frz, ↓e_app, ↓e_setIx, ↓e_setF, ↓e_isT, ↓e_make, ↓e_itL, ↓e_itT, ↓e_rng1, ↓e_rng2, ↓e_yes, ↓e_gn, ↓e_lc, ↓e_lcO, ↓e_for, ↓e_brk, ↓e_cnt, ↓e_inOwn, ↓f_ixT, ↓f_ixL, ↓f_ixP, ↓f_add, ↓f_addL, ↓f_addS, ↓f_sub, ↓f_mul, ↓f_mod, ↓f_div, ↓f_pow, ↓f_lt, ↓f_le, ↓f_gt, ↓f_ge, ↓f_eq, ↓f_ne, ↓f_int, ↓f_neg, ↓f_lenL, ↓f_lenT, ↓f_lenP, truL, truT, truI, truB, truN, objO, clsO, getF, putFs, putDs, tabAt, boolK, reduceCtorEq, List.mem_singleton, true_and, and_true, e_wipe0, e_wipe1, ex_c, getC_self, setC_self, delC_self, lstOf, List.set_cons_zero, List.set_cons_succ, setC_setC, at_0, at_1, at_2, at_3, set_0, set_1, set_2, set_3, List.length_cons, List.length_nil, List.length_map, ↓reduceIte, Bool.false_eq_true, decide_eq_true_eq, ↓e_seq]
  refine ⟨by omega, fun p hp => lc_filter pr (inB l) (fun x hx acc C h => ?_) ?_⟩
  · unfold lcStep
    try simp only [↓e_var, ↓sl_zero, ↓sl_succ, ↓m_some, ↓e_asg, ↓e_exp, ↓e_ret, ↓e_retN, ↓e_ifS, ↓e_next, ↓e_nev, ↓e_c, ↓e_op, ↓e_un, ↓e_te, ↓e_tru, ↓e_and, ↓e_or, ↓e_not, ↓e_andV, ↓e_orV, ↓e_notV, ↓e_if, ↓e_chain, ↓e_nil, ↓e_cons, ↓e_tup, ↓e_lst, ↓e_lstO, ↓e_cb, ↓e_call, ↓e_fld, ↓e_frz, ↓e_app, ↓e_setIx, ↓e_setF, ↓e_isT, ↓e_make, ↓e_itL, ↓e_itT, ↓e_rng1, ↓e_rng2, ↓e_yes, ↓e_gn, ↓e_lc, ↓e_lcO, ↓e_for, ↓e_brk, ↓e_cnt, ↓e_inOwn, ↓f_ixT, ↓f_ixL, ↓f_ixP, ↓f_add, ↓f_addL, ↓f_addS, ↓f_sub, ↓f_mul, ↓f_mod, ↓f_div, ↓f_pow, ↓f_lt, ↓f_le, ↓f_gt, ↓f_ge, ↓f_eq, ↓f_ne, ↓f_int, ↓f_neg, ↓f_lenL, ↓f_lenT, ↓f_lenP, truL, truT, truI, truB, truN, objO, clsO, getF, putFs, putDs, tabAt, boolK, reduceCtorEq, List.mem_singleton, true_and, and_true, e_wipe0, e_wipe1, ex_c, getC_self, setC_self, delC_self, lstOf, List.set_cons_zero, List.set_cons_succ, setC_setC, at_0, at_1, at_2, at_3, set_0, set_1, set_2, set_3, List.length_cons, List.length_nil, List.length_map, ↓reduceIte, Bool.false_eq_true, decide_eq_true_eq, ↓e_seq]
    by_cases c : x.1 ≤ l
    · rw [if_pos c]
      by_cases c' : l ≤ x.2
      · rw [if_pos c']
        simp only [inB, c, c', decide_true, Bool.and_self, ↓reduceIte] at h
        exact h
      · rw [if_neg c']
        simp only [inB, c, c', decide_true, decide_false, Bool.and_false, Bool.false_eq_true, ↓reduceIte] at h
        exact h
    · rw [if_neg c]
      simp only [inB, c, decide_false, Bool.false_and, Bool.false_eq_true, ↓reduceIte] at h
      exact h
  · try simp only [↓e_var, ↓sl_zero, ↓sl_succ, ↓m_some, ↓e_asg, ↓e_exp, ↓e_ret, ↓e_retN, ↓e_ifS, ↓e_next, ↓e_nev, ↓e_c, ↓e_op, ↓e_un, ↓e_te, ↓e_tru, ↓e_and, ↓e_or, ↓e_not, ↓e_andV, ↓e_orV, ↓e_notV, ↓e_if, ↓e_chain, ↓e_nil, ↓e_cons, ↓e_tup, ↓e_lst, ↓e_lstO, ↓e_cb, ↓e_call, ↓e_fld, ↓e_frz, ↓e_app, ↓e_setIx, ↓e_setF, ↓e_isT, ↓e_make, ↓e_itL, ↓e_itT, ↓e_rng1, ↓e_rng2, ↓e_yes, ↓e_gn, ↓e_lc, ↓e_lcO, ↓e_for, ↓e_brk, ↓e_cnt, ↓e_inOwn, ↓f_ixT, ↓f_ixL, ↓f_ixP, ↓f_add, ↓f_addL, ↓f_addS, ↓f_sub, ↓f_mul, ↓f_mod, ↓f_div, ↓f_pow, ↓f_lt, ↓f_le, ↓f_gt, ↓f_ge, ↓f_eq, ↓f_ne, ↓f_int, ↓f_neg, ↓f_lenL, ↓f_lenT, ↓f_lenP, truL, truT, truI, truB, truN, objO, clsO, getF, putFs, putDs, tabAt, boolK, reduceCtorEq, List.mem_singleton, true_and, and_true, e_wipe0, e_wipe1, ex_c, getC_self, setC_self, delC_self, lstOf, List.set_cons_zero, List.set_cons_succ, setC_setC, at_0, at_1, at_2, at_3, set_0, set_1, set_2, set_3, List.length_cons, List.length_nil, List.length_map, ↓reduceIte, Bool.false_eq_true, decide_eq_true_eq, ↓e_seq]
    exact weak_now k
def S_law_made : DSp := fun ds O P E => ∃ xs : List (Int × Int), ds = [.lst (xs.map pr)] ∧ xs.length ≤ 1000 ∧ (∀ x ∈ xs, ok2 x) ∧ P (.lst (xs.map st)) O
def N_law_made : List Str := ["_law_pairs_here", "_law_pair_here"]
def T_law_made : DS := (dRet (dLc (dItL (dVar 0)) (dgN 1) dYes (dMake .Stretch S_Stretch_init (dCons (dOp fIx (dVar 1) (dC (.int 0))) (dCons (dOp fIx (dVar 1) (dC (.int 1))) dNil))) [1]))

theorem pure_law_made : Pure N_law_made 1 S_law_made T_law_made := by
  rintro ds O P E ⟨xs, rfl, hl, ho, k⟩
  refine ⟨rfl, Opn.now ?_⟩
  have hs : startD N_law_made [.lst (xs.map pr)] = [some (.lst (xs.map pr)), none] := rfl
  rw [hs]
  unfold T_law_made
  try simp only [↓e_var, ↓sl_zero, ↓sl_succ, ↓m_some, ↓e_asg, ↓e_exp, ↓e_ret, ↓e_retN, ↓e_ifS, ↓e_next, ↓e_nev, ↓e_c, ↓e_op, ↓e_un, ↓e_te, ↓e_tru, ↓e_and, ↓e_or, ↓e_not, ↓e_andV, ↓e_orV, ↓e_notV, ↓e_if, ↓e_chain, ↓e_nil, ↓e_cons, ↓e_tup, ↓e_lst, ↓e_lstO, ↓e_cb, ↓e_call, ↓e_fld, ↓e_frz, ↓e_app, ↓e_setIx, ↓e_setF, ↓e_isT, ↓e_make, ↓e_itL, ↓e_itT, ↓e_rng1, ↓e_rng2, ↓e_yes, ↓e_gn, ↓e_lc, ↓e_lcO, ↓e_for, ↓e_brk, ↓e_cnt, ↓e_inOwn, ↓f_ixT, ↓f_ixL, ↓f_ixP, ↓f_add, ↓f_addL, ↓f_addS, ↓f_sub, ↓f_mul, ↓f_mod, ↓f_div, ↓f_pow, ↓f_lt, ↓f_le, ↓f_gt, ↓f_ge, ↓f_eq, ↓f_ne, ↓f_int, ↓f_neg, ↓f_lenL, ↓f_lenT, ↓f_lenP, truL, truT, truI, truB, truN, objO, clsO, getF, putFs, putDs, tabAt, boolK, reduceCtorEq, List.mem_singleton, true_and, and_true, e_wipe0, e_wipe1, ex_c, getC_self, setC_self, delC_self, lstOf, List.set_cons_zero, List.set_cons_succ, setC_setC, at_0, at_1, at_2, at_3, set_0, set_1, set_2, set_3, List.length_cons, List.length_nil, List.length_map, ↓reduceIte, Bool.false_eq_true, decide_eq_true_eq, ↓e_seq]
  refine ⟨by omega, fun p hp => lc_map st (fun x hx acc C h => ?_) (weak_now k)⟩
  unfold lcStep
  try simp only [↓e_var, ↓sl_zero, ↓sl_succ, ↓m_some, ↓e_asg, ↓e_exp, ↓e_ret, ↓e_retN, ↓e_ifS, ↓e_next, ↓e_nev, ↓e_c, ↓e_op, ↓e_un, ↓e_te, ↓e_tru, ↓e_and, ↓e_or, ↓e_not, ↓e_andV, ↓e_orV, ↓e_notV, ↓e_if, ↓e_chain, ↓e_nil, ↓e_cons, ↓e_tup, ↓e_lst, ↓e_lstO, ↓e_cb, ↓e_call, ↓e_fld, ↓e_frz, ↓e_app, ↓e_setIx, ↓e_setF, ↓e_isT, ↓e_make, ↓e_itL, ↓e_itT, ↓e_rng1, ↓e_rng2, ↓e_yes, ↓e_gn, ↓e_lc, ↓e_lcO, ↓e_for, ↓e_brk, ↓e_cnt, ↓e_inOwn, ↓f_ixT, ↓f_ixL, ↓f_ixP, ↓f_add, ↓f_addL, ↓f_addS, ↓f_sub, ↓f_mul, ↓f_mod, ↓f_div, ↓f_pow, ↓f_lt, ↓f_le, ↓f_gt, ↓f_ge, ↓f_eq, ↓f_ne, ↓f_int, ↓f_neg, ↓f_lenL, ↓f_lenT, ↓f_lenP, truL, truT, truI, truB, truN, objO, clsO, getF, putFs, putDs, tabAt, boolK, reduceCtorEq, List.mem_singleton, true_and, and_true, e_wipe0, e_wipe1, ex_c, getC_self, setC_self, delC_self, lstOf, List.set_cons_zero, List.set_cons_succ, setC_setC, at_0, at_1, at_2, at_3, set_0, set_1, set_2, set_3, List.length_cons, List.length_nil, List.length_map, ↓reduceIte, Bool.false_eq_true, decide_eq_true_eq, ↓e_seq]
  intro q hq
  refine ⟨q, x.1, x.2, rfl, ho x hx, getC_self, ?_⟩
  try simp only [↓e_var, ↓sl_zero, ↓sl_succ, ↓m_some, ↓e_asg, ↓e_exp, ↓e_ret, ↓e_retN, ↓e_ifS, ↓e_next, ↓e_nev, ↓e_c, ↓e_op, ↓e_un, ↓e_te, ↓e_tru, ↓e_and, ↓e_or, ↓e_not, ↓e_andV, ↓e_orV, ↓e_notV, ↓e_if, ↓e_chain, ↓e_nil, ↓e_cons, ↓e_tup, ↓e_lst, ↓e_lstO, ↓e_cb, ↓e_call, ↓e_fld, ↓e_frz, ↓e_app, ↓e_setIx, ↓e_setF, ↓e_isT, ↓e_make, ↓e_itL, ↓e_itT, ↓e_rng1, ↓e_rng2, ↓e_yes, ↓e_gn, ↓e_lc, ↓e_lcO, ↓e_for, ↓e_brk, ↓e_cnt, ↓e_inOwn, ↓f_ixT, ↓f_ixL, ↓f_ixP, ↓f_add, ↓f_addL, ↓f_addS, ↓f_sub, ↓f_mul, ↓f_mod, ↓f_div, ↓f_pow, ↓f_lt, ↓f_le, ↓f_gt, ↓f_ge, ↓f_eq, ↓f_ne, ↓f_int, ↓f_neg, ↓f_lenL, ↓f_lenT, ↓f_lenP, truL, truT, truI, truB, truN, objO, clsO, getF, putFs, putDs, tabAt, boolK, reduceCtorEq, List.mem_singleton, true_and, and_true, e_wipe0, e_wipe1, ex_c, getC_self, setC_self, delC_self, lstOf, List.set_cons_zero, List.set_cons_succ, setC_setC, at_0, at_1, at_2, at_3, set_0, set_1, set_2, set_3, List.length_cons, List.length_nil, List.length_map, ↓reduceIte, Bool.false_eq_true, decide_eq_true_eq, ↓e_seq]
  exact h
def S_law_stays : DSp := fun ds O P E => ∃ xs : List (Int × Int), ds = [.lst (xs.map st), .lst (xs.map pr)] ∧ xs.length ≤ 1000 ∧ P (.bl true) O
def N_law_stays : List Str := ["_law_pieces", "_law_pairs_here", "_law_piece"]
def T_law_stays : DS := (dRet (dOp fEq (dLc (dItL (dVar 0)) (dgN 2) dYes (dTup (dCons (dFld [.Stretch] .low (dVar 2)) (dCons (dFld [.Stretch] .high (dVar 2)) dNil))) [2]) (dVar 1)))

theorem pure_law_stays : Pure N_law_stays 2 S_law_stays T_law_stays := by
  rintro ds O P E ⟨xs, rfl, hl, k⟩
  refine ⟨rfl, Opn.now ?_⟩
  have hs : startD N_law_stays [.lst (xs.map st), .lst (xs.map pr)] = [some (.lst (xs.map st)), some (.lst (xs.map pr)), none] := rfl
  rw [hs]
  unfold T_law_stays
  try simp only [↓e_var, ↓sl_zero, ↓sl_succ, ↓m_some, ↓e_asg, ↓e_exp, ↓e_ret, ↓e_retN, ↓e_ifS, ↓e_next, ↓e_nev, ↓e_c, ↓e_op, ↓e_un, ↓e_te, ↓e_tru, ↓e_and, ↓e_or, ↓e_not, ↓e_andV, ↓e_orV, ↓e_notV, ↓e_if, ↓e_chain, ↓e_nil, ↓e_cons, ↓e_tup, ↓e_lst, ↓e_lstO, ↓e_cb, ↓e_call, ↓e_fld, ↓e_frz, ↓e_app, ↓e_setIx, ↓e_setF, ↓e_isT, ↓e_make, ↓e_itL, ↓e_itT, ↓e_rng1, ↓e_rng2, ↓e_yes, ↓e_gn, ↓e_lc, ↓e_lcO, ↓e_for, ↓e_brk, ↓e_cnt, ↓e_inOwn, ↓f_ixT, ↓f_ixL, ↓f_ixP, ↓f_add, ↓f_addL, ↓f_addS, ↓f_sub, ↓f_mul, ↓f_mod, ↓f_div, ↓f_pow, ↓f_lt, ↓f_le, ↓f_gt, ↓f_ge, ↓f_eq, ↓f_ne, ↓f_int, ↓f_neg, ↓f_lenL, ↓f_lenT, ↓f_lenP, truL, truT, truI, truB, truN, objO, clsO, getF, putFs, putDs, tabAt, boolK, reduceCtorEq, List.mem_singleton, true_and, and_true, e_wipe0, e_wipe1, ex_c, getC_self, setC_self, delC_self, lstOf, List.set_cons_zero, List.set_cons_succ, setC_setC, at_0, at_1, at_2, at_3, set_0, set_1, set_2, set_3, List.length_cons, List.length_nil, List.length_map, ↓reduceIte, Bool.false_eq_true, decide_eq_true_eq, ↓e_seq]
  refine ⟨by omega, fun p hp => lc_map pr (fun x hx acc C h => ?_) ?_⟩
  · unfold lcStep
    try simp only [↓e_var, ↓sl_zero, ↓sl_succ, ↓m_some, ↓e_asg, ↓e_exp, ↓e_ret, ↓e_retN, ↓e_ifS, ↓e_next, ↓e_nev, ↓e_c, ↓e_op, ↓e_un, ↓e_te, ↓e_tru, ↓e_and, ↓e_or, ↓e_not, ↓e_andV, ↓e_orV, ↓e_notV, ↓e_if, ↓e_chain, ↓e_nil, ↓e_cons, ↓e_tup, ↓e_lst, ↓e_lstO, ↓e_cb, ↓e_call, ↓e_fld, ↓e_frz, ↓e_app, ↓e_setIx, ↓e_setF, ↓e_isT, ↓e_make, ↓e_itL, ↓e_itT, ↓e_rng1, ↓e_rng2, ↓e_yes, ↓e_gn, ↓e_lc, ↓e_lcO, ↓e_for, ↓e_brk, ↓e_cnt, ↓e_inOwn, ↓f_ixT, ↓f_ixL, ↓f_ixP, ↓f_add, ↓f_addL, ↓f_addS, ↓f_sub, ↓f_mul, ↓f_mod, ↓f_div, ↓f_pow, ↓f_lt, ↓f_le, ↓f_gt, ↓f_ge, ↓f_eq, ↓f_ne, ↓f_int, ↓f_neg, ↓f_lenL, ↓f_lenT, ↓f_lenP, truL, truT, truI, truB, truN, objO, clsO, getF, putFs, putDs, tabAt, boolK, reduceCtorEq, List.mem_singleton, true_and, and_true, e_wipe0, e_wipe1, ex_c, getC_self, setC_self, delC_self, lstOf, List.set_cons_zero, List.set_cons_succ, setC_setC, at_0, at_1, at_2, at_3, set_0, set_1, set_2, set_3, List.length_cons, List.length_nil, List.length_map, ↓reduceIte, Bool.false_eq_true, decide_eq_true_eq, ↓e_seq]
    exact ⟨by rw [sizeLine_eq]; omega, h⟩
  · try simp only [↓e_var, ↓sl_zero, ↓sl_succ, ↓m_some, ↓e_asg, ↓e_exp, ↓e_ret, ↓e_retN, ↓e_ifS, ↓e_next, ↓e_nev, ↓e_c, ↓e_op, ↓e_un, ↓e_te, ↓e_tru, ↓e_and, ↓e_or, ↓e_not, ↓e_andV, ↓e_orV, ↓e_notV, ↓e_if, ↓e_chain, ↓e_nil, ↓e_cons, ↓e_tup, ↓e_lst, ↓e_lstO, ↓e_cb, ↓e_call, ↓e_fld, ↓e_frz, ↓e_app, ↓e_setIx, ↓e_setF, ↓e_isT, ↓e_make, ↓e_itL, ↓e_itT, ↓e_rng1, ↓e_rng2, ↓e_yes, ↓e_gn, ↓e_lc, ↓e_lcO, ↓e_for, ↓e_brk, ↓e_cnt, ↓e_inOwn, ↓f_ixT, ↓f_ixL, ↓f_ixP, ↓f_add, ↓f_addL, ↓f_addS, ↓f_sub, ↓f_mul, ↓f_mod, ↓f_div, ↓f_pow, ↓f_lt, ↓f_le, ↓f_gt, ↓f_ge, ↓f_eq, ↓f_ne, ↓f_int, ↓f_neg, ↓f_lenL, ↓f_lenT, ↓f_lenP, truL, truT, truI, truB, truN, objO, clsO, getF, putFs, putDs, tabAt, boolK, reduceCtorEq, List.mem_singleton, true_and, and_true, e_wipe0, e_wipe1, ex_c, getC_self, setC_self, delC_self, lstOf, List.set_cons_zero, List.set_cons_succ, setC_setC, at_0, at_1, at_2, at_3, set_0, set_1, set_2, set_3, List.length_cons, List.length_nil, List.length_map, ↓reduceIte, Bool.false_eq_true, decide_eq_true_eq, ↓e_seq, fEq, eq_prs, decide_true]
    exact weak_now k
def N_law : List Str := ["_law_script", "_law_box_here", "_law_span_here", "_law_pairs_here", "_law_handed", "_law_spot", "_law_told"]
def T_law_0 : DS := (dIfS (dOr (dNot (dTe (dCall S_law_whole (dCons (dVar 6) dNil)))) (dTe (dOp fNe (dVar 6) (dCall S_law_depth (dCons (dVar 3) (dCons (dVar 5) dNil)))))) (dRet (dC (.bl false))) dNext)
def T_law_1 : DS := (dSeq (dAsg 6 (dCall S_depth (dCons (dVar 4) (dCons (dVar 5) dNil)))) T_law_0)
def T_law_2 : DS := (dRet (dAndV (dCall S_law_stays (dCons (dVar 4) (dCons (dVar 3) dNil))) (dOp fEq (dCall S_depth (dCons (dLst dNil) (dCons (dVar 2) dNil))) (dC (.int 0)))))
def T_law_3 : DS := (dSeq (dFor (dItL (dOp fAdd (dCall S_law_spots (dCons (dVar 3) dNil)) (dLst (dCons (dOp fPow (dC (.int 10)) (dC (.int 30))) dNil)))) (dgN 5) T_law_1) T_law_2)
def T_law_4 : DS := (dSeq (dAsg 4 (dCall S_law_made (dCons (dVar 3) dNil))) T_law_3)
def T_law_5 : DS := (dSeq (dAsg 3 (dCall S_law_pairs (dCons (dVar 1) (dCons (dC (.int 9)) (dCons (dVar 2) (dCons (dCall S_law_moved (dCons (dVar 1) dNil)) dNil)))))) T_law_4)
def T_law_6 : DS := (dSeq (dAsg 2 (dCall S_law_span (dCons (dVar 1) dNil))) T_law_5)
def T_law : DS := (dSeq (dAsg 1 (dCall S_law_box (dCons (dVar 0) (dCons (dC (.int 107)) dNil)))) T_law_6)

theorem pure_law : Pure N_law 1 SLaw T_law := by
  rintro ds O P E ⟨ns, rfl, rfl, k⟩
  refine ⟨rfl, Opn.now ?_⟩
  have hs : startD N_law [.scr ns] = [some (.scr ns), none, none, none, none, none, none] := rfl
  rw [hs]
  unfold T_law
  try simp only [↓e_var, ↓sl_zero, ↓sl_succ, ↓m_some, ↓e_asg, ↓e_exp, ↓e_ret, ↓e_retN, ↓e_ifS, ↓e_next, ↓e_nev, ↓e_c, ↓e_op, ↓e_un, ↓e_te, ↓e_tru, ↓e_and, ↓e_or, ↓e_not, ↓e_andV, ↓e_orV, ↓e_notV, ↓e_if, ↓e_chain, ↓e_nil, ↓e_cons, ↓e_tup, ↓e_lst, ↓e_lstO, ↓e_cb, ↓e_call, ↓e_fld, ↓e_frz, ↓e_app, ↓e_setIx, ↓e_setF, ↓e_isT, ↓e_make, ↓e_itL, ↓e_itT, ↓e_rng1, ↓e_rng2, ↓e_yes, ↓e_gn, ↓e_lc, ↓e_lcO, ↓e_for, ↓e_brk, ↓e_cnt, ↓e_inOwn, ↓f_ixT, ↓f_ixL, ↓f_ixP, ↓f_add, ↓f_addL, ↓f_addS, ↓f_sub, ↓f_mul, ↓f_mod, ↓f_div, ↓f_pow, ↓f_lt, ↓f_le, ↓f_gt, ↓f_ge, ↓f_eq, ↓f_ne, ↓f_int, ↓f_neg, ↓f_lenL, ↓f_lenT, ↓f_lenP, truL, truT, truI, truB, truN, objO, clsO, getF, putFs, putDs, tabAt, boolK, reduceCtorEq, List.mem_singleton, true_and, and_true, e_wipe0, e_wipe1, ex_c, getC_self, setC_self, delC_self, lstOf, List.set_cons_zero, List.set_cons_succ, setC_setC, at_0, at_1, at_2, at_3, set_0, set_1, set_2, set_3, List.length_cons, List.length_nil, List.length_map, ↓reduceIte, Bool.false_eq_true, decide_eq_true_eq, ↓e_seq]
  refine ⟨ns, 107, rfl, fun b hb => ?_⟩
  have gb : getC [(b, Cell.box)] b = some .box := getC_self
  unfold T_law_6
  try simp only [↓e_var, ↓sl_zero, ↓sl_succ, ↓m_some, ↓e_asg, ↓e_exp, ↓e_ret, ↓e_retN, ↓e_ifS, ↓e_next, ↓e_nev, ↓e_c, ↓e_op, ↓e_un, ↓e_te, ↓e_tru, ↓e_and, ↓e_or, ↓e_not, ↓e_andV, ↓e_orV, ↓e_notV, ↓e_if, ↓e_chain, ↓e_nil, ↓e_cons, ↓e_tup, ↓e_lst, ↓e_lstO, ↓e_cb, ↓e_call, ↓e_fld, ↓e_frz, ↓e_app, ↓e_setIx, ↓e_setF, ↓e_isT, ↓e_make, ↓e_itL, ↓e_itT, ↓e_rng1, ↓e_rng2, ↓e_yes, ↓e_gn, ↓e_lc, ↓e_lcO, ↓e_for, ↓e_brk, ↓e_cnt, ↓e_inOwn, ↓f_ixT, ↓f_ixL, ↓f_ixP, ↓f_add, ↓f_addL, ↓f_addS, ↓f_sub, ↓f_mul, ↓f_mod, ↓f_div, ↓f_pow, ↓f_lt, ↓f_le, ↓f_gt, ↓f_ge, ↓f_eq, ↓f_ne, ↓f_int, ↓f_neg, ↓f_lenL, ↓f_lenT, ↓f_lenP, truL, truT, truI, truB, truN, objO, clsO, getF, putFs, putDs, tabAt, boolK, reduceCtorEq, List.mem_singleton, true_and, and_true, e_wipe0, e_wipe1, ex_c, getC_self, setC_self, delC_self, lstOf, List.set_cons_zero, List.set_cons_succ, setC_setC, at_0, at_1, at_2, at_3, set_0, set_1, set_2, set_3, List.length_cons, List.length_nil, List.length_map, ↓reduceIte, Bool.false_eq_true, decide_eq_true_eq, ↓e_seq]
  refine ⟨b, rfl, gb, fun s h4 h5 => ?_⟩
  unfold T_law_5
  try simp only [↓e_var, ↓sl_zero, ↓sl_succ, ↓m_some, ↓e_asg, ↓e_exp, ↓e_ret, ↓e_retN, ↓e_ifS, ↓e_next, ↓e_nev, ↓e_c, ↓e_op, ↓e_un, ↓e_te, ↓e_tru, ↓e_and, ↓e_or, ↓e_not, ↓e_andV, ↓e_orV, ↓e_notV, ↓e_if, ↓e_chain, ↓e_nil, ↓e_cons, ↓e_tup, ↓e_lst, ↓e_lstO, ↓e_cb, ↓e_call, ↓e_fld, ↓e_frz, ↓e_app, ↓e_setIx, ↓e_setF, ↓e_isT, ↓e_make, ↓e_itL, ↓e_itT, ↓e_rng1, ↓e_rng2, ↓e_yes, ↓e_gn, ↓e_lc, ↓e_lcO, ↓e_for, ↓e_brk, ↓e_cnt, ↓e_inOwn, ↓f_ixT, ↓f_ixL, ↓f_ixP, ↓f_add, ↓f_addL, ↓f_addS, ↓f_sub, ↓f_mul, ↓f_mod, ↓f_div, ↓f_pow, ↓f_lt, ↓f_le, ↓f_gt, ↓f_ge, ↓f_eq, ↓f_ne, ↓f_int, ↓f_neg, ↓f_lenL, ↓f_lenT, ↓f_lenP, truL, truT, truI, truB, truN, objO, clsO, getF, putFs, putDs, tabAt, boolK, reduceCtorEq, List.mem_singleton, true_and, and_true, e_wipe0, e_wipe1, ex_c, getC_self, setC_self, delC_self, lstOf, List.set_cons_zero, List.set_cons_succ, setC_setC, at_0, at_1, at_2, at_3, set_0, set_1, set_2, set_3, List.length_cons, List.length_nil, List.length_map, ↓reduceIte, Bool.false_eq_true, decide_eq_true_eq, ↓e_seq]
  refine ⟨b, rfl, gb, fun m => ?_⟩
  try simp only [↓e_var, ↓sl_zero, ↓sl_succ, ↓m_some, ↓e_asg, ↓e_exp, ↓e_ret, ↓e_retN, ↓e_ifS, ↓e_next, ↓e_nev, ↓e_c, ↓e_op, ↓e_un, ↓e_te, ↓e_tru, ↓e_and, ↓e_or, ↓e_not, ↓e_andV, ↓e_orV, ↓e_notV, ↓e_if, ↓e_chain, ↓e_nil, ↓e_cons, ↓e_tup, ↓e_lst, ↓e_lstO, ↓e_cb, ↓e_call, ↓e_fld, ↓e_frz, ↓e_app, ↓e_setIx, ↓e_setF, ↓e_isT, ↓e_make, ↓e_itL, ↓e_itT, ↓e_rng1, ↓e_rng2, ↓e_yes, ↓e_gn, ↓e_lc, ↓e_lcO, ↓e_for, ↓e_brk, ↓e_cnt, ↓e_inOwn, ↓f_ixT, ↓f_ixL, ↓f_ixP, ↓f_add, ↓f_addL, ↓f_addS, ↓f_sub, ↓f_mul, ↓f_mod, ↓f_div, ↓f_pow, ↓f_lt, ↓f_le, ↓f_gt, ↓f_ge, ↓f_eq, ↓f_ne, ↓f_int, ↓f_neg, ↓f_lenL, ↓f_lenT, ↓f_lenP, truL, truT, truI, truB, truN, objO, clsO, getF, putFs, putDs, tabAt, boolK, reduceCtorEq, List.mem_singleton, true_and, and_true, e_wipe0, e_wipe1, ex_c, getC_self, setC_self, delC_self, lstOf, List.set_cons_zero, List.set_cons_succ, setC_setC, at_0, at_1, at_2, at_3, set_0, set_1, set_2, set_3, List.length_cons, List.length_nil, List.length_map, ↓reduceIte, Bool.false_eq_true, decide_eq_true_eq, ↓e_seq]
  refine ⟨b, 9, s, m, rfl, gb, by omega, by omega, h4, h5, fun xs hx hl => ?_⟩
  unfold T_law_4
  try simp only [↓e_var, ↓sl_zero, ↓sl_succ, ↓m_some, ↓e_asg, ↓e_exp, ↓e_ret, ↓e_retN, ↓e_ifS, ↓e_next, ↓e_nev, ↓e_c, ↓e_op, ↓e_un, ↓e_te, ↓e_tru, ↓e_and, ↓e_or, ↓e_not, ↓e_andV, ↓e_orV, ↓e_notV, ↓e_if, ↓e_chain, ↓e_nil, ↓e_cons, ↓e_tup, ↓e_lst, ↓e_lstO, ↓e_cb, ↓e_call, ↓e_fld, ↓e_frz, ↓e_app, ↓e_setIx, ↓e_setF, ↓e_isT, ↓e_make, ↓e_itL, ↓e_itT, ↓e_rng1, ↓e_rng2, ↓e_yes, ↓e_gn, ↓e_lc, ↓e_lcO, ↓e_for, ↓e_brk, ↓e_cnt, ↓e_inOwn, ↓f_ixT, ↓f_ixL, ↓f_ixP, ↓f_add, ↓f_addL, ↓f_addS, ↓f_sub, ↓f_mul, ↓f_mod, ↓f_div, ↓f_pow, ↓f_lt, ↓f_le, ↓f_gt, ↓f_ge, ↓f_eq, ↓f_ne, ↓f_int, ↓f_neg, ↓f_lenL, ↓f_lenT, ↓f_lenP, truL, truT, truI, truB, truN, objO, clsO, getF, putFs, putDs, tabAt, boolK, reduceCtorEq, List.mem_singleton, true_and, and_true, e_wipe0, e_wipe1, ex_c, getC_self, setC_self, delC_self, lstOf, List.set_cons_zero, List.set_cons_succ, setC_setC, at_0, at_1, at_2, at_3, set_0, set_1, set_2, set_3, List.length_cons, List.length_nil, List.length_map, ↓reduceIte, Bool.false_eq_true, decide_eq_true_eq, ↓e_seq]
  refine ⟨xs, rfl, by omega, hx, ?_⟩
  unfold T_law_3
  try simp only [↓e_var, ↓sl_zero, ↓sl_succ, ↓m_some, ↓e_asg, ↓e_exp, ↓e_ret, ↓e_retN, ↓e_ifS, ↓e_next, ↓e_nev, ↓e_c, ↓e_op, ↓e_un, ↓e_te, ↓e_tru, ↓e_and, ↓e_or, ↓e_not, ↓e_andV, ↓e_orV, ↓e_notV, ↓e_if, ↓e_chain, ↓e_nil, ↓e_cons, ↓e_tup, ↓e_lst, ↓e_lstO, ↓e_cb, ↓e_call, ↓e_fld, ↓e_frz, ↓e_app, ↓e_setIx, ↓e_setF, ↓e_isT, ↓e_make, ↓e_itL, ↓e_itT, ↓e_rng1, ↓e_rng2, ↓e_yes, ↓e_gn, ↓e_lc, ↓e_lcO, ↓e_for, ↓e_brk, ↓e_cnt, ↓e_inOwn, ↓f_ixT, ↓f_ixL, ↓f_ixP, ↓f_add, ↓f_addL, ↓f_addS, ↓f_sub, ↓f_mul, ↓f_mod, ↓f_div, ↓f_pow, ↓f_lt, ↓f_le, ↓f_gt, ↓f_ge, ↓f_eq, ↓f_ne, ↓f_int, ↓f_neg, ↓f_lenL, ↓f_lenT, ↓f_lenP, truL, truT, truI, truB, truN, objO, clsO, getF, putFs, putDs, tabAt, boolK, reduceCtorEq, List.mem_singleton, true_and, and_true, e_wipe0, e_wipe1, ex_c, getC_self, setC_self, delC_self, lstOf, List.set_cons_zero, List.set_cons_succ, setC_setC, at_0, at_1, at_2, at_3, set_0, set_1, set_2, set_3, List.length_cons, List.length_nil, List.length_map, ↓reduceIte, Bool.false_eq_true, decide_eq_true_eq, ↓e_seq]
  refine ⟨xs, rfl, by omega, fun sp hsp => ?_⟩
  try simp only [↓e_var, ↓sl_zero, ↓sl_succ, ↓m_some, ↓e_asg, ↓e_exp, ↓e_ret, ↓e_retN, ↓e_ifS, ↓e_next, ↓e_nev, ↓e_c, ↓e_op, ↓e_un, ↓e_te, ↓e_tru, ↓e_and, ↓e_or, ↓e_not, ↓e_andV, ↓e_orV, ↓e_notV, ↓e_if, ↓e_chain, ↓e_nil, ↓e_cons, ↓e_tup, ↓e_lst, ↓e_lstO, ↓e_cb, ↓e_call, ↓e_fld, ↓e_frz, ↓e_app, ↓e_setIx, ↓e_setF, ↓e_isT, ↓e_make, ↓e_itL, ↓e_itT, ↓e_rng1, ↓e_rng2, ↓e_yes, ↓e_gn, ↓e_lc, ↓e_lcO, ↓e_for, ↓e_brk, ↓e_cnt, ↓e_inOwn, ↓f_ixT, ↓f_ixL, ↓f_ixP, ↓f_add, ↓f_addL, ↓f_addS, ↓f_sub, ↓f_mul, ↓f_mod, ↓f_div, ↓f_pow, ↓f_lt, ↓f_le, ↓f_gt, ↓f_ge, ↓f_eq, ↓f_ne, ↓f_int, ↓f_neg, ↓f_lenL, ↓f_lenT, ↓f_lenP, truL, truT, truI, truB, truN, objO, clsO, getF, putFs, putDs, tabAt, boolK, reduceCtorEq, List.mem_singleton, true_and, and_true, e_wipe0, e_wipe1, ex_c, getC_self, setC_self, delC_self, lstOf, List.set_cons_zero, List.set_cons_succ, setC_setC, at_0, at_1, at_2, at_3, set_0, set_1, set_2, set_3, List.length_cons, List.length_nil, List.length_map, ↓reduceIte, Bool.false_eq_true, decide_eq_true_eq, ↓e_seq]
  refine ⟨⟨by omega, by omega, by decide⟩, by rw [sizeLine_eq]; omega, by rw [sizeLine_eq]; omega, ?_⟩
  have ea : sp.map D.int ++ [D.int (10 ^ Int.toNat 30)] = (sp ++ [10 ^ Int.toNat 30]).map D.int := by rw [List.map_append, List.map_cons, List.map_nil]
  rw [ea]
  refine for_inv2 (emb := D.int) (I := fun l Δ O1 => O1 = [(b, Cell.box)] ∧ ∃ z1 z2, Δ = [some (.scr ns), some (.ptr b), some (.int s), some (.lst (xs.map pr)), some (.lst (xs.map st)), z1, z2]) ⟨rfl, none, none, rfl⟩ ?_ ?_
  · rintro Δ O1 ⟨rfl, z1, z2, rfl⟩
    unfold T_law_2
    try simp only [↓e_var, ↓sl_zero, ↓sl_succ, ↓m_some, ↓e_asg, ↓e_exp, ↓e_ret, ↓e_retN, ↓e_ifS, ↓e_next, ↓e_nev, ↓e_c, ↓e_op, ↓e_un, ↓e_te, ↓e_tru, ↓e_and, ↓e_or, ↓e_not, ↓e_andV, ↓e_orV, ↓e_notV, ↓e_if, ↓e_chain, ↓e_nil, ↓e_cons, ↓e_tup, ↓e_lst, ↓e_lstO, ↓e_cb, ↓e_call, ↓e_fld, ↓e_frz, ↓e_app, ↓e_setIx, ↓e_setF, ↓e_isT, ↓e_make, ↓e_itL, ↓e_itT, ↓e_rng1, ↓e_rng2, ↓e_yes, ↓e_gn, ↓e_lc, ↓e_lcO, ↓e_for, ↓e_brk, ↓e_cnt, ↓e_inOwn, ↓f_ixT, ↓f_ixL, ↓f_ixP, ↓f_add, ↓f_addL, ↓f_addS, ↓f_sub, ↓f_mul, ↓f_mod, ↓f_div, ↓f_pow, ↓f_lt, ↓f_le, ↓f_gt, ↓f_ge, ↓f_eq, ↓f_ne, ↓f_int, ↓f_neg, ↓f_lenL, ↓f_lenT, ↓f_lenP, truL, truT, truI, truB, truN, objO, clsO, getF, putFs, putDs, tabAt, boolK, reduceCtorEq, List.mem_singleton, true_and, and_true, e_wipe0, e_wipe1, ex_c, getC_self, setC_self, delC_self, lstOf, List.set_cons_zero, List.set_cons_succ, setC_setC, at_0, at_1, at_2, at_3, set_0, set_1, set_2, set_3, List.length_cons, List.length_nil, List.length_map, ↓reduceIte, Bool.false_eq_true, decide_eq_true_eq, ↓e_seq]
    refine ⟨xs, rfl, by omega, ?_⟩
    try simp only [↓e_var, ↓sl_zero, ↓sl_succ, ↓m_some, ↓e_asg, ↓e_exp, ↓e_ret, ↓e_retN, ↓e_ifS, ↓e_next, ↓e_nev, ↓e_c, ↓e_op, ↓e_un, ↓e_te, ↓e_tru, ↓e_and, ↓e_or, ↓e_not, ↓e_andV, ↓e_orV, ↓e_notV, ↓e_if, ↓e_chain, ↓e_nil, ↓e_cons, ↓e_tup, ↓e_lst, ↓e_lstO, ↓e_cb, ↓e_call, ↓e_fld, ↓e_frz, ↓e_app, ↓e_setIx, ↓e_setF, ↓e_isT, ↓e_make, ↓e_itL, ↓e_itT, ↓e_rng1, ↓e_rng2, ↓e_yes, ↓e_gn, ↓e_lc, ↓e_lcO, ↓e_for, ↓e_brk, ↓e_cnt, ↓e_inOwn, ↓f_ixT, ↓f_ixL, ↓f_ixP, ↓f_add, ↓f_addL, ↓f_addS, ↓f_sub, ↓f_mul, ↓f_mod, ↓f_div, ↓f_pow, ↓f_lt, ↓f_le, ↓f_gt, ↓f_ge, ↓f_eq, ↓f_ne, ↓f_int, ↓f_neg, ↓f_lenL, ↓f_lenT, ↓f_lenP, truL, truT, truI, truB, truN, objO, clsO, getF, putFs, putDs, tabAt, boolK, reduceCtorEq, List.mem_singleton, true_and, and_true, e_wipe0, e_wipe1, ex_c, getC_self, setC_self, delC_self, lstOf, List.set_cons_zero, List.set_cons_succ, setC_setC, at_0, at_1, at_2, at_3, set_0, set_1, set_2, set_3, List.length_cons, List.length_nil, List.length_map, ↓reduceIte, Bool.false_eq_true, decide_eq_true_eq, ↓e_seq]
    refine ⟨by rw [sizeLine_eq]; omega, [], s, rfl, by simp, ?_⟩
    try simp only [↓e_var, ↓sl_zero, ↓sl_succ, ↓m_some, ↓e_asg, ↓e_exp, ↓e_ret, ↓e_retN, ↓e_ifS, ↓e_next, ↓e_nev, ↓e_c, ↓e_op, ↓e_un, ↓e_te, ↓e_tru, ↓e_and, ↓e_or, ↓e_not, ↓e_andV, ↓e_orV, ↓e_notV, ↓e_if, ↓e_chain, ↓e_nil, ↓e_cons, ↓e_tup, ↓e_lst, ↓e_lstO, ↓e_cb, ↓e_call, ↓e_fld, ↓e_frz, ↓e_app, ↓e_setIx, ↓e_setF, ↓e_isT, ↓e_make, ↓e_itL, ↓e_itT, ↓e_rng1, ↓e_rng2, ↓e_yes, ↓e_gn, ↓e_lc, ↓e_lcO, ↓e_for, ↓e_brk, ↓e_cnt, ↓e_inOwn, ↓f_ixT, ↓f_ixL, ↓f_ixP, ↓f_add, ↓f_addL, ↓f_addS, ↓f_sub, ↓f_mul, ↓f_mod, ↓f_div, ↓f_pow, ↓f_lt, ↓f_le, ↓f_gt, ↓f_ge, ↓f_eq, ↓f_ne, ↓f_int, ↓f_neg, ↓f_lenL, ↓f_lenT, ↓f_lenP, truL, truT, truI, truB, truN, objO, clsO, getF, putFs, putDs, tabAt, boolK, reduceCtorEq, List.mem_singleton, true_and, and_true, e_wipe0, e_wipe1, ex_c, getC_self, setC_self, delC_self, lstOf, List.set_cons_zero, List.set_cons_succ, setC_setC, at_0, at_1, at_2, at_3, set_0, set_1, set_2, set_3, List.length_cons, List.length_nil, List.length_map, ↓reduceIte, Bool.false_eq_true, decide_eq_true_eq, ↓e_seq, List.filter_nil, Int.natCast_zero, decide_true]
    exact weak_now (k _)
  · rintro l x r e Δ O1 K ⟨rfl, z1, z2, rfl⟩ hK
    try simp only [↓e_var, ↓sl_zero, ↓sl_succ, ↓m_some, ↓e_asg, ↓e_exp, ↓e_ret, ↓e_retN, ↓e_ifS, ↓e_next, ↓e_nev, ↓e_c, ↓e_op, ↓e_un, ↓e_te, ↓e_tru, ↓e_and, ↓e_or, ↓e_not, ↓e_andV, ↓e_orV, ↓e_notV, ↓e_if, ↓e_chain, ↓e_nil, ↓e_cons, ↓e_tup, ↓e_lst, ↓e_lstO, ↓e_cb, ↓e_call, ↓e_fld, ↓e_frz, ↓e_app, ↓e_setIx, ↓e_setF, ↓e_isT, ↓e_make, ↓e_itL, ↓e_itT, ↓e_rng1, ↓e_rng2, ↓e_yes, ↓e_gn, ↓e_lc, ↓e_lcO, ↓e_for, ↓e_brk, ↓e_cnt, ↓e_inOwn, ↓f_ixT, ↓f_ixL, ↓f_ixP, ↓f_add, ↓f_addL, ↓f_addS, ↓f_sub, ↓f_mul, ↓f_mod, ↓f_div, ↓f_pow, ↓f_lt, ↓f_le, ↓f_gt, ↓f_ge, ↓f_eq, ↓f_ne, ↓f_int, ↓f_neg, ↓f_lenL, ↓f_lenT, ↓f_lenP, truL, truT, truI, truB, truN, objO, clsO, getF, putFs, putDs, tabAt, boolK, reduceCtorEq, List.mem_singleton, true_and, and_true, e_wipe0, e_wipe1, ex_c, getC_self, setC_self, delC_self, lstOf, List.set_cons_zero, List.set_cons_succ, setC_setC, at_0, at_1, at_2, at_3, set_0, set_1, set_2, set_3, List.length_cons, List.length_nil, List.length_map, ↓reduceIte, Bool.false_eq_true, decide_eq_true_eq, ↓e_seq]
    unfold T_law_1
    try simp only [↓e_var, ↓sl_zero, ↓sl_succ, ↓m_some, ↓e_asg, ↓e_exp, ↓e_ret, ↓e_retN, ↓e_ifS, ↓e_next, ↓e_nev, ↓e_c, ↓e_op, ↓e_un, ↓e_te, ↓e_tru, ↓e_and, ↓e_or, ↓e_not, ↓e_andV, ↓e_orV, ↓e_notV, ↓e_if, ↓e_chain, ↓e_nil, ↓e_cons, ↓e_tup, ↓e_lst, ↓e_lstO, ↓e_cb, ↓e_call, ↓e_fld, ↓e_frz, ↓e_app, ↓e_setIx, ↓e_setF, ↓e_isT, ↓e_make, ↓e_itL, ↓e_itT, ↓e_rng1, ↓e_rng2, ↓e_yes, ↓e_gn, ↓e_lc, ↓e_lcO, ↓e_for, ↓e_brk, ↓e_cnt, ↓e_inOwn, ↓f_ixT, ↓f_ixL, ↓f_ixP, ↓f_add, ↓f_addL, ↓f_addS, ↓f_sub, ↓f_mul, ↓f_mod, ↓f_div, ↓f_pow, ↓f_lt, ↓f_le, ↓f_gt, ↓f_ge, ↓f_eq, ↓f_ne, ↓f_int, ↓f_neg, ↓f_lenL, ↓f_lenT, ↓f_lenP, truL, truT, truI, truB, truN, objO, clsO, getF, putFs, putDs, tabAt, boolK, reduceCtorEq, List.mem_singleton, true_and, and_true, e_wipe0, e_wipe1, ex_c, getC_self, setC_self, delC_self, lstOf, List.set_cons_zero, List.set_cons_succ, setC_setC, at_0, at_1, at_2, at_3, set_0, set_1, set_2, set_3, List.length_cons, List.length_nil, List.length_map, ↓reduceIte, Bool.false_eq_true, decide_eq_true_eq, ↓e_seq]
    refine ⟨xs, x, rfl, by omega, ?_⟩
    unfold T_law_0
    try simp only [↓e_var, ↓sl_zero, ↓sl_succ, ↓m_some, ↓e_asg, ↓e_exp, ↓e_ret, ↓e_retN, ↓e_ifS, ↓e_next, ↓e_nev, ↓e_c, ↓e_op, ↓e_un, ↓e_te, ↓e_tru, ↓e_and, ↓e_or, ↓e_not, ↓e_andV, ↓e_orV, ↓e_notV, ↓e_if, ↓e_chain, ↓e_nil, ↓e_cons, ↓e_tup, ↓e_lst, ↓e_lstO, ↓e_cb, ↓e_call, ↓e_fld, ↓e_frz, ↓e_app, ↓e_setIx, ↓e_setF, ↓e_isT, ↓e_make, ↓e_itL, ↓e_itT, ↓e_rng1, ↓e_rng2, ↓e_yes, ↓e_gn, ↓e_lc, ↓e_lcO, ↓e_for, ↓e_brk, ↓e_cnt, ↓e_inOwn, ↓f_ixT, ↓f_ixL, ↓f_ixP, ↓f_add, ↓f_addL, ↓f_addS, ↓f_sub, ↓f_mul, ↓f_mod, ↓f_div, ↓f_pow, ↓f_lt, ↓f_le, ↓f_gt, ↓f_ge, ↓f_eq, ↓f_ne, ↓f_int, ↓f_neg, ↓f_lenL, ↓f_lenT, ↓f_lenP, truL, truT, truI, truB, truN, objO, clsO, getF, putFs, putDs, tabAt, boolK, reduceCtorEq, List.mem_singleton, true_and, and_true, e_wipe0, e_wipe1, ex_c, getC_self, setC_self, delC_self, lstOf, List.set_cons_zero, List.set_cons_succ, setC_setC, at_0, at_1, at_2, at_3, set_0, set_1, set_2, set_3, List.length_cons, List.length_nil, List.length_map, ↓reduceIte, Bool.false_eq_true, decide_eq_true_eq, ↓e_seq]
    refine ⟨_, rfl, ?_⟩
    try simp only [↓e_var, ↓sl_zero, ↓sl_succ, ↓m_some, ↓e_asg, ↓e_exp, ↓e_ret, ↓e_retN, ↓e_ifS, ↓e_next, ↓e_nev, ↓e_c, ↓e_op, ↓e_un, ↓e_te, ↓e_tru, ↓e_and, ↓e_or, ↓e_not, ↓e_andV, ↓e_orV, ↓e_notV, ↓e_if, ↓e_chain, ↓e_nil, ↓e_cons, ↓e_tup, ↓e_lst, ↓e_lstO, ↓e_cb, ↓e_call, ↓e_fld, ↓e_frz, ↓e_app, ↓e_setIx, ↓e_setF, ↓e_isT, ↓e_make, ↓e_itL, ↓e_itT, ↓e_rng1, ↓e_rng2, ↓e_yes, ↓e_gn, ↓e_lc, ↓e_lcO, ↓e_for, ↓e_brk, ↓e_cnt, ↓e_inOwn, ↓f_ixT, ↓f_ixL, ↓f_ixP, ↓f_add, ↓f_addL, ↓f_addS, ↓f_sub, ↓f_mul, ↓f_mod, ↓f_div, ↓f_pow, ↓f_lt, ↓f_le, ↓f_gt, ↓f_ge, ↓f_eq, ↓f_ne, ↓f_int, ↓f_neg, ↓f_lenL, ↓f_lenT, ↓f_lenP, truL, truT, truI, truB, truN, objO, clsO, getF, putFs, putDs, tabAt, boolK, reduceCtorEq, List.mem_singleton, true_and, and_true, e_wipe0, e_wipe1, ex_c, getC_self, setC_self, delC_self, lstOf, List.set_cons_zero, List.set_cons_succ, setC_setC, at_0, at_1, at_2, at_3, set_0, set_1, set_2, set_3, List.length_cons, List.length_nil, List.length_map, ↓reduceIte, Bool.false_eq_true, decide_eq_true_eq, ↓e_seq, Bool.not_true]
    refine ⟨xs, x, rfl, by omega, ?_⟩
    try simp only [↓e_var, ↓sl_zero, ↓sl_succ, ↓m_some, ↓e_asg, ↓e_exp, ↓e_ret, ↓e_retN, ↓e_ifS, ↓e_next, ↓e_nev, ↓e_c, ↓e_op, ↓e_un, ↓e_te, ↓e_tru, ↓e_and, ↓e_or, ↓e_not, ↓e_andV, ↓e_orV, ↓e_notV, ↓e_if, ↓e_chain, ↓e_nil, ↓e_cons, ↓e_tup, ↓e_lst, ↓e_lstO, ↓e_cb, ↓e_call, ↓e_fld, ↓e_frz, ↓e_app, ↓e_setIx, ↓e_setF, ↓e_isT, ↓e_make, ↓e_itL, ↓e_itT, ↓e_rng1, ↓e_rng2, ↓e_yes, ↓e_gn, ↓e_lc, ↓e_lcO, ↓e_for, ↓e_brk, ↓e_cnt, ↓e_inOwn, ↓f_ixT, ↓f_ixL, ↓f_ixP, ↓f_add, ↓f_addL, ↓f_addS, ↓f_sub, ↓f_mul, ↓f_mod, ↓f_div, ↓f_pow, ↓f_lt, ↓f_le, ↓f_gt, ↓f_ge, ↓f_eq, ↓f_ne, ↓f_int, ↓f_neg, ↓f_lenL, ↓f_lenT, ↓f_lenP, truL, truT, truI, truB, truN, objO, clsO, getF, putFs, putDs, tabAt, boolK, reduceCtorEq, List.mem_singleton, true_and, and_true, e_wipe0, e_wipe1, ex_c, getC_self, setC_self, delC_self, lstOf, List.set_cons_zero, List.set_cons_succ, setC_setC, at_0, at_1, at_2, at_3, set_0, set_1, set_2, set_3, List.length_cons, List.length_nil, List.length_map, ↓reduceIte, Bool.false_eq_true, decide_eq_true_eq, ↓e_seq, decide_true, Bool.not_true]
    exact hK _ _ ⟨rfl, _, _, rfl⟩

def top (i : Nat) : Stmt := PySem.Challenge.pw_gaugemiss_k07_depth.main.body.getD i (.Pass ⟨0, 0, 0, 0⟩)
section
variable {g : Gm} {P : Program} {w : World} {mg : Str → Option Value} {base : Heap}
abbrev s_law_take : Stmt := top 12
theorem sc_law_take : FnScope N_law_take ["_law_box_here", "_law_many"] (defScope s_law_take) := ⟨rfl, rfl, rfl, by decide +kernel, rfl, by decide +kernel, by decide +kernel⟩
theorem b_law_take (B : Bt mg)  : BodyOk g P w g.K mg base 0 N_law_take "_law_take" s_law_take T_law_take := fun f cdv A outer s H E hr =>
  (qss_cons (qs_asg 2 sc_law_take.nd (q_ix (q_var 0) q_int)) (qss_cons (qs_if (PW.pt (qw_and (qt_cmp (op_eqA hr.units) lk_eq (q_ix (q_var 0) q_int) q_int (nomark _)) (qw_and (qt_cmp op_lt lk_lt (q_ix (q_var 0) q_int) (q_callB call_lenA lk_len B.len (qa_cons (q_var 2) qa_nil)) (nomark _)) (qw_and1 (qt_cmp op_gt lk_gt (q_ix (q_var 2) (q_ix (q_var 0) q_int)) (q_op op_pow lk_pow q_int q_int) (nomark _)))))) (qss_cons (qs_setIx (q_var 0) q_int (q_op op_sub lk_sub (q_ix (q_var 2) (q_ix (q_var 0) q_int)) (q_op op_pow lk_pow q_int q_int))) (qss_one (qs_setIx (q_var 0) q_int (q_op op_addA lk_add (q_ix (q_var 0) q_int) q_int)))) qss_nil) (qss_cons (qs_if (qt_cmp op_gt lk_gt (q_ix (q_var 0) q_int) q_int (nomark _)) (qss_cons (qs_asg 3 sc_law_take.nd (q_op op_mod lk_mod (q_callTy call_int1 lk_int B.int (qa_cons (q_ix (q_var 0) q_int) qa_nil)) (q_var 1))) (qss_cons (qs_setIx (q_var 0) q_int (q_op op_fdiv lk_div (q_callTy call_int1 lk_int B.int (qa_cons (q_ix (q_var 0) q_int) qa_nil)) (q_var 1))) (qss_one (qs_ret (q_var 3))))) qss_nil) (qss_cons (qs_asg 4 sc_law_take.nd q_int) (qss_cons (qs_if (qt_cmp op_lt lk_lt (q_ix (q_var 0) q_int) (q_callB call_lenA lk_len B.len (qa_cons (q_var 2) qa_nil)) (nomark _)) (qss_one (qs_asg 4 sc_law_take.nd (q_callTy call_int1 lk_int B.int (qa_cons (q_ix (q_var 2) (q_ix (q_var 0) q_int)) qa_nil)))) qss_nil) (qss_cons (qs_setIx (q_var 0) q_int (q_op op_addA lk_add (q_ix (q_var 0) q_int) q_int)) (qss_cons (qs_setIx (q_var 0) q_int (q_op op_mod lk_mod (q_callTy call_int1 lk_int B.int (qa_cons (q_op op_addA lk_add (q_op op_addA lk_add (q_op op_mul lk_mul (q_ix (q_var 0) q_int) q_int) (q_op op_mul lk_mul (q_var 4) q_int)) (q_ix (q_var 0) q_int)) qa_nil)) q_int)) (qss_one (qs_ret (q_op op_mod lk_mod (q_op op_mod lk_mod (q_callTy call_int1 lk_int B.int (qa_cons (q_op op_addA lk_add (q_op op_mul lk_mul (q_op op_fdiv lk_div (q_ix (q_var 0) q_int) q_int) q_int) (q_op op_mod lk_mod (q_callTy call_int1 lk_int B.int (qa_cons (q_ix (q_var 0) q_int) qa_nil)) q_int)) qa_nil)) q_int) (q_var 1)))))))))))

abbrev s_Stretch_init : Stmt := inClass (top 7) 0
theorem sc_Stretch_init : FnScope N_Stretch_init ["self", "low", "high"] (defScope s_Stretch_init) := ⟨rfl, rfl, rfl, by decide +kernel, rfl, by decide +kernel, by decide +kernel⟩
theorem b_Stretch_init (B : Bt mg) (fl_low : Flds g [.Stretch] .low) (fl_high : Flds g [.Stretch] .high) : BodyOk g P w g.K mg base 0 N_Stretch_init "Stretch.__init__" s_Stretch_init T_Stretch_init := fun f cdv A outer s H E hr =>
  (qss_cons (qs_if (qt_cmp op_gt lk_gt (q_var 1) (q_var 2) (nomark _)) (qss_one qs_nev) qss_nil) (qss_cons (qs_setF fl_low (q_var 0) (q_var 1)) (qss_one (qs_setF fl_high (q_var 0) (q_var 2)))))

abbrev s_Stretch_contains : Stmt := inClass (top 7) 4
theorem sc_Stretch_contains : FnScope N_Stretch_contains ["self", "level"] (defScope s_Stretch_contains) := ⟨rfl, rfl, rfl, by decide +kernel, rfl, by decide +kernel, by decide +kernel⟩
theorem b_Stretch_contains (B : Bt mg) (fl_low : Flds g [.Stretch] .low) (fl_high : Flds g [.Stretch] .high) : BodyOk g P w g.K mg base 0 N_Stretch_contains "Stretch.__contains__" s_Stretch_contains T_Stretch_contains := fun f cdv A outer s H E hr =>
  (qss_one (qs_ret (q_chain op_le op_le lk_le lk_le (q_fld fl_low (q_var 0)) (q_var 1) (q_fld fl_high (q_var 0)))))

abbrev s_depth : Stmt := top 9
theorem sc_depth : FnScope N_depth ["stretches", "level"] (defScope s_depth) := ⟨rfl, rfl, rfl, by decide +kernel, rfl, by decide +kernel, by decide +kernel⟩
theorem b_depth (B : Bt mg) (mt_contains_Stretch : MTab g P w g.K mg base 1 "__contains__" [(.Stretch, S_Stretch_contains)]) : BodyOk g P w g.K mg base 1 N_depth "depth" s_depth T_depth := fun f cdv A outer s H E hr =>
  (qss_one (qs_ret (q_callB call_lenA lk_len B.len (qa_cons (q_lc (own := [("piece", 2)]) sc_depth.nd (qi_list (q_var 0)) (blkOk_by (N := N_depth) (sc := defScope s_depth) (by decide +kernel)) (fun _ _ _ _ _ => pg_name (i := 2) sc_depth.nd rfl (Or.inl rfl)) (lkg_name 2) (fun _ _ _ _ _ => (qts_one (qt_inOwn mt_contains_Stretch hr takes0 (q_var 1) (q_var 2)))) (fun _ _ _ _ _ => (q_var 2))) qa_nil))))

abbrev s_law_box : Stmt := top 11
theorem sc_law_box : FnScope N_law_box ["_law_script", "_law_salt"] (defScope s_law_box) := ⟨rfl, rfl, rfl, by decide +kernel, rfl, by decide +kernel, by decide +kernel⟩
theorem b_law_box (B : Bt mg)  : BodyOk g P w g.K mg base 0 N_law_box "_law_box" s_law_box T_law_box := fun f cdv A outer s H E hr =>
  (qss_one (qs_ret (q_lstO (qa_cons (q_lc (own := [("_law_cell", 2)]) sc_law_box.nd (qi_list (q_slice (q_var 0) qo_none (qo_some q_int))) (blkOk_by (N := N_law_box) (sc := defScope s_law_box) (by decide +kernel)) (fun _ _ _ _ _ => pg_name (i := 2) sc_law_box.nd rfl (Or.inl rfl)) (lkg_name 2) (fun _ _ _ _ _ => qts_nil) (fun _ _ _ _ _ => (q_callTy call_int1 lk_int B.int (qa_cons (q_var 2) qa_nil)))) (qa_cons q_int (qa_cons q_int (qa_cons (q_var 1) qa_nil)))))))

abbrev s_law_whole : Stmt := top 13
theorem sc_law_whole : FnScope N_law_whole ["_law_worth"] (defScope s_law_whole) := ⟨rfl, rfl, rfl, by decide +kernel, rfl, by decide +kernel, by decide +kernel⟩
theorem b_law_whole (B : Bt mg)  : BodyOk g P w g.K mg base 0 N_law_whole "_law_whole" s_law_whole T_law_whole := fun f cdv A outer s H E hr =>
  (qss_one (qs_ret (q_and (q_isT (n := "int") B.isinstance B.int (q_var 0)) (q_one (q_not (q_isT (n := "bool") B.isinstance B.bool (q_var 0)))))))

abbrev s_law_span : Stmt := top 15
theorem sc_law_span : FnScope N_law_span ["_law_box_here"] (defScope s_law_span) := ⟨rfl, rfl, rfl, by decide +kernel, rfl, by decide +kernel, by decide +kernel⟩
theorem b_law_span (B : Bt mg) (gd_law_take : GD g P w g.K mg base 1 "_law_take" S_law_take) : BodyOk g P w g.K mg base 1 N_law_span "_law_span" s_law_span T_law_span := fun f cdv A outer s H E hr =>
  (qss_one (qs_ret (q_ix (q_lst (qa_cons q_int (qa_cons q_int (qa_cons q_int (qa_cons q_int qa_nil))))) (q_gcall gd_law_take hr (takes_of rfl rfl rfl rfl) (qa_cons (q_var 0) (qa_cons q_int qa_nil))))))

abbrev s_law_moved : Stmt := top 16
theorem sc_law_moved : FnScope N_law_moved ["_law_box_here"] (defScope s_law_moved) := ⟨rfl, rfl, rfl, by decide +kernel, rfl, by decide +kernel, by decide +kernel⟩
theorem b_law_moved (B : Bt mg) (gd_law_take : GD g P w g.K mg base 1 "_law_take" S_law_take) : BodyOk g P w g.K mg base 1 N_law_moved "_law_moved" s_law_moved T_law_moved := fun f cdv A outer s H E hr =>
  (qss_one (qs_ret (q_ix (q_lst (qa_cons q_int (qa_cons q_int (qa_cons (q_neg q_int) (qa_cons (q_op op_pow lk_pow q_int q_int) (qa_cons (q_neg (q_op op_pow lk_pow q_int q_int)) qa_nil)))))) (q_gcall gd_law_take hr (takes_of rfl rfl rfl rfl) (qa_cons (q_var 0) (qa_cons q_int qa_nil))))))

abbrev s_law_pair : Stmt := top 14
theorem sc_law_pair : FnScope N_law_pair ["_law_box_here", "_law_span_here", "_law_moved_here"] (defScope s_law_pair) := ⟨rfl, rfl, rfl, by decide +kernel, rfl, by decide +kernel, by decide +kernel⟩
theorem b_law_pair (B : Bt mg) (gd_law_take : GD g P w g.K mg base 1 "_law_take" S_law_take) : BodyOk g P w g.K mg base 1 N_law_pair "_law_pair" s_law_pair T_law_pair := fun f cdv A outer s H E hr =>
  (qss_cons (qs_asg 3 sc_law_pair.nd (q_op op_addA lk_add (q_op op_sub lk_sub (q_gcall gd_law_take hr (takes_of rfl rfl rfl rfl) (qa_cons (q_var 0) (qa_cons (q_op op_mul lk_mul q_int (q_var 1)) qa_nil))) (q_var 1)) (q_var 2))) (qss_cons (qs_asg 4 sc_law_pair.nd (q_ix (q_lst (qa_cons q_int (qa_cons q_int (qa_cons q_int (qa_cons (q_var 1) qa_nil))))) (q_gcall gd_law_take hr (takes_of rfl rfl rfl rfl) (qa_cons (q_var 0) (qa_cons q_int qa_nil))))) (qss_one (qs_ret (q_tup (qa_cons (q_var 3) (qa_cons (q_op op_addA lk_add (q_var 3) (q_gcall gd_law_take hr (takes_of rfl rfl rfl rfl) (qa_cons (q_var 0) (qa_cons (q_op op_addA lk_add (q_var 4) q_int) qa_nil)))) qa_nil)))))))

abbrev s_law_pairs : Stmt := top 17
theorem sc_law_pairs : FnScope N_law_pairs ["_law_box_here", "_law_most", "_law_span_here", "_law_moved_here"] (defScope s_law_pairs) := ⟨rfl, rfl, rfl, by decide +kernel, rfl, by decide +kernel, by decide +kernel⟩
theorem b_law_pairs (B : Bt mg) (gd_law_take : GD g P w g.K mg base 1 "_law_take" S_law_take) (gd_law_pair : GD g P w g.K mg base 2 "_law_pair" S_law_pair) : BodyOk g P w g.K mg base 2 N_law_pairs "_law_pairs" s_law_pairs T_law_pairs := fun f cdv A outer s H E hr =>
  (qss_cons (qs_asgLcO (i := 4) (own := [("_law_turn", 5)]) sc_law_pairs.nd (qi_range1 B.range (qa_cons (q_gcall gd_law_take hr (takes_of rfl rfl rfl rfl) (qa_cons (q_var 0) (qa_cons (q_op op_addA lk_add (q_var 1) q_int) qa_nil))) qa_nil)) (blkOk_by (N := N_law_pairs) (sc := defScope s_law_pairs) (by decide +kernel)) (fun _ _ _ _ _ => pg_name (i := 5) sc_law_pairs.nd rfl (Or.inl rfl)) (lkg_name 5) (fun _ _ _ _ _ => qts_nil) (fun _ _ _ _ _ => (q_gcall gd_law_pair hr takes0 (qa_cons (q_var 0) (qa_cons (q_var 2) (qa_cons (q_var 3) qa_nil))))) (ps_setLc (i := 4) (own := [("_law_turn", 5)]) rfl sc_law_pairs.nd rfl rfl (sw_true rfl rfl rfl (by decide +kernel)) (qi_range1 B.range (qa_cons (q_gcall gd_law_take hr (takes_of rfl rfl rfl rfl) (qa_cons (q_var 0) (qa_cons (q_op op_addA lk_add (q_var 1) q_int) qa_nil))) qa_nil)) (blkOk_by (N := N_law_pairs) (sc := defScope s_law_pairs) (by decide +kernel)) (fun _ _ _ _ _ => pg_name (i := 5) sc_law_pairs.nd rfl (Or.inl rfl)) (fun _ _ _ _ _ => qts_nil) (fun _ _ _ _ _ => (q_gcall gd_law_pair hr takes0 (qa_cons (q_var 0) (qa_cons (q_var 2) (qa_cons (q_var 3) qa_nil))))))) (qss_cons (qs_if (PW.pt (qw_and (qt_tru (q_var 4)) (qw_and1 (qt_cmp (op_eqA hr.units) lk_eq (q_gcall gd_law_take hr (takes_of rfl rfl rfl rfl) (qa_cons (q_var 0) (qa_cons q_int qa_nil))) q_int (nomark _))))) (qss_one (qs_expr (q_app (pe_bm PySem.F.plainAttrs_list PySem.F.slot_list_append PySem.F.type_list_append mt_append (q_var 4) (pa_cons (q_ix (q_var 4) (q_gcall gd_law_take hr (takes_of rfl rfl rfl rfl) (qa_cons (q_var 0) (qa_cons (q_callB call_lenA lk_len B.len (qa_cons (q_var 4) qa_nil)) qa_nil)))) pa_nil))))) qss_nil) (qss_one (qs_ret (q_frz (q_var 4))))))

abbrev s_law_spots : Stmt := top 18
theorem sc_law_spots : FnScope N_law_spots ["_law_pairs_here"] (defScope s_law_spots) := ⟨rfl, rfl, rfl, by decide +kernel, rfl, by decide +kernel, by decide +kernel⟩
theorem b_law_spots (B : Bt mg)  : BodyOk g P w g.K mg base 0 N_law_spots "_law_spots" s_law_spots T_law_spots := fun f cdv A outer s H E hr =>
  (qss_cons (qs_asg 1 sc_law_spots.nd (q_lst (qa_cons q_int qa_nil))) (qss_cons (qs_for (passes_of rfl) (qi_list (q_var 0)) (pg_name (i := 2) sc_law_spots.nd rfl (Or.inl rfl)) (lkg_name 2) (qss_one (qs_asg 1 sc_law_spots.nd (q_op op_addA lk_add (q_var 1) (q_lst (qa_cons (q_op op_sub lk_sub (q_ix (q_var 2) q_int) q_int) (qa_cons (q_ix (q_var 2) q_int) (qa_cons (q_ix (q_var 2) q_int) (qa_cons (q_op op_addA lk_add (q_ix (q_var 2) q_int) q_int) qa_nil))))))))) (qss_one (qs_ret (q_var 1)))))

abbrev s_law_depth : Stmt := top 19
theorem sc_law_depth : FnScope N_law_depth ["_law_pairs_here", "_law_spot"] (defScope s_law_depth) := ⟨rfl, rfl, rfl, by decide +kernel, rfl, by decide +kernel, by decide +kernel⟩
theorem b_law_depth (B : Bt mg)  : BodyOk g P w g.K mg base 0 N_law_depth "_law_depth" s_law_depth T_law_depth := fun f cdv A outer s H E hr =>
  (qss_one (qs_ret (q_callB call_lenA lk_len B.len (qa_cons (q_lc (own := [("_law_pair_here", 2)]) sc_law_depth.nd (qi_list (q_var 0)) (blkOk_by (N := N_law_depth) (sc := defScope s_law_depth) (by decide +kernel)) (fun _ _ _ _ _ => pg_name (i := 2) sc_law_depth.nd rfl (Or.inl rfl)) (lkg_name 2) (fun _ _ _ _ _ => (qts_one (qt_chain op_le op_le lk_le lk_le (q_ix (q_var 2) q_int) (q_var 1) (q_ix (q_var 2) q_int)))) (fun _ _ _ _ _ => (q_var 2))) qa_nil))))

abbrev s_law_made : Stmt := top 20
theorem sc_law_made : FnScope N_law_made ["_law_pairs_here"] (defScope s_law_made) := ⟨rfl, rfl, rfl, by decide +kernel, rfl, by decide +kernel, by decide +kernel⟩
theorem b_law_made (B : Bt mg) (gc_Stretch : GC g P w g.K mg base 1 .Stretch "Stretch" S_Stretch_init) : BodyOk g P w g.K mg base 2 N_law_made "_law_made" s_law_made T_law_made := fun f cdv A outer s H E hr =>
  (qss_one (qs_ret (q_lc (own := [("_law_pair_here", 1)]) sc_law_made.nd (qi_list (q_var 0)) (blkOk_by (N := N_law_made) (sc := defScope s_law_made) (by decide +kernel)) (fun _ _ _ _ _ => pg_name (i := 1) sc_law_made.nd rfl (Or.inl rfl)) (lkg_name 1) (fun _ _ _ _ _ => qts_nil) (fun _ _ _ _ _ => (q_gmake gc_Stretch hr takes0 (qa_cons (q_ix (q_var 1) q_int) (qa_cons (q_ix (q_var 1) q_int) qa_nil)))))))

abbrev s_law_stays : Stmt := top 21
theorem sc_law_stays : FnScope N_law_stays ["_law_pieces", "_law_pairs_here"] (defScope s_law_stays) := ⟨rfl, rfl, rfl, by decide +kernel, rfl, by decide +kernel, by decide +kernel⟩
theorem b_law_stays (B : Bt mg) (fl_high : Flds g [.Stretch] .high) (fl_low : Flds g [.Stretch] .low) : BodyOk g P w g.K mg base 0 N_law_stays "_law_stays" s_law_stays T_law_stays := fun f cdv A outer s H E hr =>
  (qss_one (qs_ret (q_cmp (op_eqA hr.units) lk_eq (q_lc (own := [("_law_piece", 2)]) sc_law_stays.nd (qi_list (q_var 0)) (blkOk_by (N := N_law_stays) (sc := defScope s_law_stays) (by decide +kernel)) (fun _ _ _ _ _ => pg_name (i := 2) sc_law_stays.nd rfl (Or.inl rfl)) (lkg_name 2) (fun _ _ _ _ _ => qts_nil) (fun _ _ _ _ _ => (q_tup (qa_cons (q_fld fl_low (q_var 2)) (qa_cons (q_fld fl_high (q_var 2)) qa_nil))))) (q_var 1) (nomark _))))

abbrev s_law : Stmt := top 22
theorem sc_law : FnScope N_law ["_law_script"] (defScope s_law) := ⟨rfl, rfl, rfl, by decide +kernel, rfl, by decide +kernel, by decide +kernel⟩
theorem b_law (B : Bt mg) (gd_law_box : GD g P w g.K mg base 1 "_law_box" S_law_box) (gd_law_span : GD g P w g.K mg base 2 "_law_span" S_law_span) (gd_law_pairs : GD g P w g.K mg base 3 "_law_pairs" S_law_pairs) (gd_law_moved : GD g P w g.K mg base 2 "_law_moved" S_law_moved) (gd_law_made : GD g P w g.K mg base 3 "_law_made" S_law_made) (gd_law_spots : GD g P w g.K mg base 1 "_law_spots" S_law_spots) (gd_depth : GD g P w g.K mg base 2 "depth" S_depth) (gd_law_whole : GD g P w g.K mg base 1 "_law_whole" S_law_whole) (gd_law_depth : GD g P w g.K mg base 1 "_law_depth" S_law_depth) (gd_law_stays : GD g P w g.K mg base 1 "_law_stays" S_law_stays) : BodyOk g P w g.K mg base 3 N_law "law" s_law T_law := fun f cdv A outer s H E hr =>
  (qss_cons (qs_asg 1 sc_law.nd (q_gcall gd_law_box hr (takes_of rfl rfl rfl rfl) (qa_cons (q_var 0) (qa_cons q_int qa_nil)))) (qss_cons (qs_asg 2 sc_law.nd (q_gcall gd_law_span hr (takes_of rfl rfl rfl rfl) (qa_cons (q_var 1) qa_nil))) (qss_cons (qs_asg 3 sc_law.nd (q_gcall gd_law_pairs hr (takes_of rfl rfl rfl rfl) (qa_cons (q_var 1) (qa_cons q_int (qa_cons (q_var 2) (qa_cons (q_gcall gd_law_moved hr (takes_of rfl rfl rfl rfl) (qa_cons (q_var 1) qa_nil)) qa_nil)))))) (qss_cons (qs_asg 4 sc_law.nd (q_gcall gd_law_made hr (takes_of rfl rfl rfl rfl) (qa_cons (q_var 3) qa_nil))) (qss_cons (qs_for (passes_of rfl) (qi_list (q_op op_addA lk_add (q_gcall gd_law_spots hr (takes_of rfl rfl rfl rfl) (qa_cons (q_var 3) qa_nil)) (q_lst (qa_cons (q_op op_pow lk_pow q_int q_int) qa_nil)))) (pg_name (i := 5) sc_law.nd rfl (Or.inl rfl)) (lkg_name 5) (qss_cons (qs_asg 6 sc_law.nd (q_gcall gd_depth hr (takes_of rfl rfl rfl rfl) (qa_cons (q_var 4) (qa_cons (q_var 5) qa_nil)))) (qss_one (qs_if (PW.pt (qw_or (qt_not (qt_val (q_gcall gd_law_whole hr (takes_of rfl rfl rfl rfl) (qa_cons (q_var 6) qa_nil)))) (qw_or1 (qt_cmp (op_neA hr.units) lk_ne (q_var 6) (q_gcall gd_law_depth hr (takes_of rfl rfl rfl rfl) (qa_cons (q_var 3) (qa_cons (q_var 5) qa_nil))) (nomark _))))) (qss_one (qs_ret q_bl)) qss_nil)))) (qss_one (qs_ret (q_and (q_gcall gd_law_stays hr (takes_of rfl rfl rfl rfl) (qa_cons (q_var 4) (qa_cons (q_var 3) qa_nil))) (q_one (q_cmp (op_eqA hr.units) lk_eq (q_gcall gd_depth hr (takes_of rfl rfl rfl rfl) (qa_cons (q_lst qa_nil) (qa_cons (q_var 2) qa_nil))) q_int (nomark _)))))))))))

end
theorem all_mk {l : PySem.W.OpenLaw} {w : World} {K : PySem.W.Frag} {h : Heap} {mg : Str → Option Value} {fa C_Stretch A_law_take A_Stretch_init A_Stretch_contains A_depth A_law_box A_law_whole A_law_span A_law_moved A_law_pair A_law_pairs A_law_spots A_law_depth A_law_made A_law_stays A_law : Addr} (X : K.In h) (G : h.Ns mainGlobals mg) (hfa : mg "law" = some (.ref fa))
    {oc_law_take kV_law_take dc_law_take pm_law_take cd_law_take ct_law_take : Value} {od_law_take an_law_take : Option Addr} {sl_law_take : Array (Option Value)}
    {oc_Stretch_init kV_Stretch_init dc_Stretch_init pm_Stretch_init cd_Stretch_init ct_Stretch_init : Value} {od_Stretch_init an_Stretch_init : Option Addr} {sl_Stretch_init : Array (Option Value)}
    {oc_Stretch_contains kV_Stretch_contains dc_Stretch_contains pm_Stretch_contains cd_Stretch_contains ct_Stretch_contains : Value} {od_Stretch_contains an_Stretch_contains : Option Addr} {sl_Stretch_contains : Array (Option Value)}
    {oc_depth kV_depth dc_depth pm_depth cd_depth ct_depth : Value} {od_depth an_depth : Option Addr} {sl_depth : Array (Option Value)}
    {oc_law_box kV_law_box dc_law_box pm_law_box cd_law_box ct_law_box : Value} {od_law_box an_law_box : Option Addr} {sl_law_box : Array (Option Value)}
    {oc_law_whole kV_law_whole dc_law_whole pm_law_whole cd_law_whole ct_law_whole : Value} {od_law_whole an_law_whole : Option Addr} {sl_law_whole : Array (Option Value)}
    {oc_law_span kV_law_span dc_law_span pm_law_span cd_law_span ct_law_span : Value} {od_law_span an_law_span : Option Addr} {sl_law_span : Array (Option Value)}
    {oc_law_moved kV_law_moved dc_law_moved pm_law_moved cd_law_moved ct_law_moved : Value} {od_law_moved an_law_moved : Option Addr} {sl_law_moved : Array (Option Value)}
    {oc_law_pair kV_law_pair dc_law_pair pm_law_pair cd_law_pair ct_law_pair : Value} {od_law_pair an_law_pair : Option Addr} {sl_law_pair : Array (Option Value)}
    {oc_law_pairs kV_law_pairs dc_law_pairs pm_law_pairs cd_law_pairs ct_law_pairs : Value} {od_law_pairs an_law_pairs : Option Addr} {sl_law_pairs : Array (Option Value)}
    {oc_law_spots kV_law_spots dc_law_spots pm_law_spots cd_law_spots ct_law_spots : Value} {od_law_spots an_law_spots : Option Addr} {sl_law_spots : Array (Option Value)}
    {oc_law_depth kV_law_depth dc_law_depth pm_law_depth cd_law_depth ct_law_depth : Value} {od_law_depth an_law_depth : Option Addr} {sl_law_depth : Array (Option Value)}
    {oc_law_made kV_law_made dc_law_made pm_law_made cd_law_made ct_law_made : Value} {od_law_made an_law_made : Option Addr} {sl_law_made : Array (Option Value)}
    {oc_law_stays kV_law_stays dc_law_stays pm_law_stays cd_law_stays ct_law_stays : Value} {od_law_stays an_law_stays : Option Addr} {sl_law_stays : Array (Option Value)}
    {oc_law kV_law dc_law pm_law cd_law ct_law : Value} {od_law an_law : Option Addr} {sl_law : Array (Option Value)}
    (a_Stretch : PySem.W.nsIn K mainGlobals "Stretch" = some (some (.ref C_Stretch)))
    (pg_Stretch : PySem.W.plainGet K C_Stretch Str.empty = true)
    (hd_Stretch : PySem.W.hasDictIn K C_Stretch = true)
    (po_Stretch : PySem.W.plainOver K C_Stretch = true)
    (sa_Stretch : PySem.W.findIn K (.ref C_Stretch) "__setattr__" = some (some (.builtin "object.__setattr__")))
    (mk_Stretch : PySem.W.makesIn K C_Stretch = true)
    (kc_Stretch : PySem.W.keepIn K (.ref C_Stretch) = true)
    (n_low_Stretch : PySem.W.findIn K (.ref C_Stretch) "low" = some none)
    (n_high_Stretch : PySem.W.findIn K (.ref C_Stretch) "high" = some none)
    (f_law_take : PySem.W.nsIn K mainGlobals "_law_take" = some (some (.ref A_law_take)))
    (l_law_take : K.lookup A_law_take = some ⟨oc_law_take, od_law_take, .func (PySem.W.fnOf "_law_take" "_law_take" (defArgs s_law_take) (defBody s_law_take) (defScope s_law_take) .none kV_law_take dc_law_take pm_law_take an_law_take cd_law_take ct_law_take), sl_law_take⟩)
    (c_law_take : PySem.W.codeIn K cd_law_take "_law_take" = true)
    (k_law_take : PySem.W.keepIn K (.ref A_law_take) = true)
    (f_Stretch_init : PySem.W.findIn K (.ref C_Stretch) "__init__" = some (some (.ref A_Stretch_init)))
    (i_Stretch_init : PySem.W.isFn K (.ref A_Stretch_init) = true)
    (l_Stretch_init : K.lookup A_Stretch_init = some ⟨oc_Stretch_init, od_Stretch_init, .func (PySem.W.fnOf "__init__" "Stretch.__init__" (defArgs s_Stretch_init) (defBody s_Stretch_init) (defScope s_Stretch_init) .none kV_Stretch_init dc_Stretch_init pm_Stretch_init an_Stretch_init cd_Stretch_init ct_Stretch_init), sl_Stretch_init⟩)
    (c_Stretch_init : PySem.W.codeIn K cd_Stretch_init "Stretch.__init__" = true)
    (k_Stretch_init : PySem.W.keepIn K (.ref A_Stretch_init) = true)
    (f_Stretch_contains : PySem.W.findIn K (.ref C_Stretch) "__contains__" = some (some (.ref A_Stretch_contains)))
    (i_Stretch_contains : PySem.W.isFn K (.ref A_Stretch_contains) = true)
    (l_Stretch_contains : K.lookup A_Stretch_contains = some ⟨oc_Stretch_contains, od_Stretch_contains, .func (PySem.W.fnOf "__contains__" "Stretch.__contains__" (defArgs s_Stretch_contains) (defBody s_Stretch_contains) (defScope s_Stretch_contains) .none kV_Stretch_contains dc_Stretch_contains pm_Stretch_contains an_Stretch_contains cd_Stretch_contains ct_Stretch_contains), sl_Stretch_contains⟩)
    (c_Stretch_contains : PySem.W.codeIn K cd_Stretch_contains "Stretch.__contains__" = true)
    (k_Stretch_contains : PySem.W.keepIn K (.ref A_Stretch_contains) = true)
    (f_depth : PySem.W.nsIn K mainGlobals "depth" = some (some (.ref A_depth)))
    (l_depth : K.lookup A_depth = some ⟨oc_depth, od_depth, .func (PySem.W.fnOf "depth" "depth" (defArgs s_depth) (defBody s_depth) (defScope s_depth) .none kV_depth dc_depth pm_depth an_depth cd_depth ct_depth), sl_depth⟩)
    (c_depth : PySem.W.codeIn K cd_depth "depth" = true)
    (k_depth : PySem.W.keepIn K (.ref A_depth) = true)
    (f_law_box : PySem.W.nsIn K mainGlobals "_law_box" = some (some (.ref A_law_box)))
    (l_law_box : K.lookup A_law_box = some ⟨oc_law_box, od_law_box, .func (PySem.W.fnOf "_law_box" "_law_box" (defArgs s_law_box) (defBody s_law_box) (defScope s_law_box) .none kV_law_box dc_law_box pm_law_box an_law_box cd_law_box ct_law_box), sl_law_box⟩)
    (c_law_box : PySem.W.codeIn K cd_law_box "_law_box" = true)
    (k_law_box : PySem.W.keepIn K (.ref A_law_box) = true)
    (f_law_whole : PySem.W.nsIn K mainGlobals "_law_whole" = some (some (.ref A_law_whole)))
    (l_law_whole : K.lookup A_law_whole = some ⟨oc_law_whole, od_law_whole, .func (PySem.W.fnOf "_law_whole" "_law_whole" (defArgs s_law_whole) (defBody s_law_whole) (defScope s_law_whole) .none kV_law_whole dc_law_whole pm_law_whole an_law_whole cd_law_whole ct_law_whole), sl_law_whole⟩)
    (c_law_whole : PySem.W.codeIn K cd_law_whole "_law_whole" = true)
    (k_law_whole : PySem.W.keepIn K (.ref A_law_whole) = true)
    (f_law_span : PySem.W.nsIn K mainGlobals "_law_span" = some (some (.ref A_law_span)))
    (l_law_span : K.lookup A_law_span = some ⟨oc_law_span, od_law_span, .func (PySem.W.fnOf "_law_span" "_law_span" (defArgs s_law_span) (defBody s_law_span) (defScope s_law_span) .none kV_law_span dc_law_span pm_law_span an_law_span cd_law_span ct_law_span), sl_law_span⟩)
    (c_law_span : PySem.W.codeIn K cd_law_span "_law_span" = true)
    (k_law_span : PySem.W.keepIn K (.ref A_law_span) = true)
    (f_law_moved : PySem.W.nsIn K mainGlobals "_law_moved" = some (some (.ref A_law_moved)))
    (l_law_moved : K.lookup A_law_moved = some ⟨oc_law_moved, od_law_moved, .func (PySem.W.fnOf "_law_moved" "_law_moved" (defArgs s_law_moved) (defBody s_law_moved) (defScope s_law_moved) .none kV_law_moved dc_law_moved pm_law_moved an_law_moved cd_law_moved ct_law_moved), sl_law_moved⟩)
    (c_law_moved : PySem.W.codeIn K cd_law_moved "_law_moved" = true)
    (k_law_moved : PySem.W.keepIn K (.ref A_law_moved) = true)
    (f_law_pair : PySem.W.nsIn K mainGlobals "_law_pair" = some (some (.ref A_law_pair)))
    (l_law_pair : K.lookup A_law_pair = some ⟨oc_law_pair, od_law_pair, .func (PySem.W.fnOf "_law_pair" "_law_pair" (defArgs s_law_pair) (defBody s_law_pair) (defScope s_law_pair) .none kV_law_pair dc_law_pair pm_law_pair an_law_pair cd_law_pair ct_law_pair), sl_law_pair⟩)
    (c_law_pair : PySem.W.codeIn K cd_law_pair "_law_pair" = true)
    (k_law_pair : PySem.W.keepIn K (.ref A_law_pair) = true)
    (f_law_pairs : PySem.W.nsIn K mainGlobals "_law_pairs" = some (some (.ref A_law_pairs)))
    (l_law_pairs : K.lookup A_law_pairs = some ⟨oc_law_pairs, od_law_pairs, .func (PySem.W.fnOf "_law_pairs" "_law_pairs" (defArgs s_law_pairs) (defBody s_law_pairs) (defScope s_law_pairs) .none kV_law_pairs dc_law_pairs pm_law_pairs an_law_pairs cd_law_pairs ct_law_pairs), sl_law_pairs⟩)
    (c_law_pairs : PySem.W.codeIn K cd_law_pairs "_law_pairs" = true)
    (k_law_pairs : PySem.W.keepIn K (.ref A_law_pairs) = true)
    (f_law_spots : PySem.W.nsIn K mainGlobals "_law_spots" = some (some (.ref A_law_spots)))
    (l_law_spots : K.lookup A_law_spots = some ⟨oc_law_spots, od_law_spots, .func (PySem.W.fnOf "_law_spots" "_law_spots" (defArgs s_law_spots) (defBody s_law_spots) (defScope s_law_spots) .none kV_law_spots dc_law_spots pm_law_spots an_law_spots cd_law_spots ct_law_spots), sl_law_spots⟩)
    (c_law_spots : PySem.W.codeIn K cd_law_spots "_law_spots" = true)
    (k_law_spots : PySem.W.keepIn K (.ref A_law_spots) = true)
    (f_law_depth : PySem.W.nsIn K mainGlobals "_law_depth" = some (some (.ref A_law_depth)))
    (l_law_depth : K.lookup A_law_depth = some ⟨oc_law_depth, od_law_depth, .func (PySem.W.fnOf "_law_depth" "_law_depth" (defArgs s_law_depth) (defBody s_law_depth) (defScope s_law_depth) .none kV_law_depth dc_law_depth pm_law_depth an_law_depth cd_law_depth ct_law_depth), sl_law_depth⟩)
    (c_law_depth : PySem.W.codeIn K cd_law_depth "_law_depth" = true)
    (k_law_depth : PySem.W.keepIn K (.ref A_law_depth) = true)
    (f_law_made : PySem.W.nsIn K mainGlobals "_law_made" = some (some (.ref A_law_made)))
    (l_law_made : K.lookup A_law_made = some ⟨oc_law_made, od_law_made, .func (PySem.W.fnOf "_law_made" "_law_made" (defArgs s_law_made) (defBody s_law_made) (defScope s_law_made) .none kV_law_made dc_law_made pm_law_made an_law_made cd_law_made ct_law_made), sl_law_made⟩)
    (c_law_made : PySem.W.codeIn K cd_law_made "_law_made" = true)
    (k_law_made : PySem.W.keepIn K (.ref A_law_made) = true)
    (f_law_stays : PySem.W.nsIn K mainGlobals "_law_stays" = some (some (.ref A_law_stays)))
    (l_law_stays : K.lookup A_law_stays = some ⟨oc_law_stays, od_law_stays, .func (PySem.W.fnOf "_law_stays" "_law_stays" (defArgs s_law_stays) (defBody s_law_stays) (defScope s_law_stays) .none kV_law_stays dc_law_stays pm_law_stays an_law_stays cd_law_stays ct_law_stays), sl_law_stays⟩)
    (c_law_stays : PySem.W.codeIn K cd_law_stays "_law_stays" = true)
    (k_law_stays : PySem.W.keepIn K (.ref A_law_stays) = true)
    (f_law : PySem.W.nsIn K mainGlobals "law" = some (some (.ref A_law)))
    (l_law : K.lookup A_law = some ⟨oc_law, od_law, .func (PySem.W.fnOf "law" "law" (defArgs s_law) (defBody s_law) (defScope s_law) .none kV_law dc_law pm_law an_law cd_law ct_law), sl_law⟩)
    (c_law : PySem.W.codeIn K cd_law "law" = true)
    (k_law : PySem.W.keepIn K (.ref A_law) = true)
    (z_len : PySem.W.nsIn K mainGlobals "len" = some none)
    (z_int : PySem.W.nsIn K mainGlobals "int" = some none)
    (z_bool : PySem.W.nsIn K mainGlobals "bool" = some none)
    (z_str : PySem.W.nsIn K mainGlobals "str" = some none)
    (z_isinstance : PySem.W.nsIn K mainGlobals "isinstance" = some none)
    (z_range : PySem.W.nsIn K mainGlobals "range" = some none)
    (z_max : PySem.W.nsIn K mainGlobals "max" = some none)
    (z_min : PySem.W.nsIn K mainGlobals "min" = some none)
    (z_abs : PySem.W.nsIn K mainGlobals "abs" = some none)
    (z_sorted : PySem.W.nsIn K mainGlobals "sorted" = some none)
    (z_sum : PySem.W.nsIn K mainGlobals "sum" = some none)
    (z_any : PySem.W.nsIn K mainGlobals "any" = some none)
    (z_all : PySem.W.nsIn K mainGlobals "all" = some none)
    (z_list : PySem.W.nsIn K mainGlobals "list" = some none)
    (z_dict : PySem.W.nsIn K mainGlobals "dict" = some none)
    (z_tuple : PySem.W.nsIn K mainGlobals "tuple" = some none)
    (z_enumerate : PySem.W.nsIn K mainGlobals "enumerate" = some none)
    (z_zip : PySem.W.nsIn K mainGlobals "zip" = some none)
    (z_repr : PySem.W.nsIn K mainGlobals "repr" = some none)
    (z_iter : PySem.W.nsIn K mainGlobals "iter" = some none)
    (z_super : PySem.W.nsIn K mainGlobals "super" = some none) :
    ∃ fd : FuncData, (∀ (s : Shared) (v : Value), BindsTo s fd ⟨[v], []⟩ [("_law_script", v)]) ∧ ∀ base : Heap, K.In base → base.Ns mainGlobals mg → FnOk l.prog w K mg base (L2.CX l.prog w) 4 fa fd ["_law_script"] (spLaw K) := by
  have e := hfa.symm.trans (PySem.W.mg_of X G f_law)
  cases e
  let g : Gm := ⟨K, fun c => match c with | .Stretch => C_Stretch | _ => 0, fun _ => 0⟩
  have B : Bt mg := ⟨PySem.W.mg_none_of X G z_len, PySem.W.mg_none_of X G z_int, PySem.W.mg_none_of X G z_bool, PySem.W.mg_none_of X G z_str, PySem.W.mg_none_of X G z_isinstance, PySem.W.mg_none_of X G z_range, PySem.W.mg_none_of X G z_max, PySem.W.mg_none_of X G z_min, PySem.W.mg_none_of X G z_abs, PySem.W.mg_none_of X G z_sorted, PySem.W.mg_none_of X G z_sum, PySem.W.mg_none_of X G z_any, PySem.W.mg_none_of X G z_all, PySem.W.mg_none_of X G z_list, PySem.W.mg_none_of X G z_dict, PySem.W.mg_none_of X G z_tuple, PySem.W.mg_none_of X G z_enumerate, PySem.W.mg_none_of X G z_zip, PySem.W.mg_none_of X G z_repr, PySem.W.mg_none_of X G z_iter, PySem.W.mg_none_of X G z_super⟩
  have cls_Stretch : Cls g.K (g.ca .Stretch) := ⟨pg_Stretch, hd_Stretch, po_Stretch, sa_Stretch⟩
  have fl_low : Flds g [.Stretch] .low := (flds_cons (c := .Stretch) cls_Stretch n_low_Stretch flds_nil)
  have fl_high : Flds g [.Stretch] .high := (flds_cons (c := .Stretch) cls_Stretch n_high_Stretch flds_nil)
  have F_law_take := fun_mk (st := s_law_take) l_law_take c_law_take k_law_take
  have bd_law_take := F_law_take.binds (ps := ["_law_box_here", "_law_many"]) fun _ _ _ _ _ _ us hl => match us, hl with | [_, _], _ => rfl
  have F_Stretch_init := fun_mk (st := s_Stretch_init) l_Stretch_init c_Stretch_init k_Stretch_init
  have bd_Stretch_init := F_Stretch_init.binds (ps := ["self", "low", "high"]) fun _ _ _ _ _ _ us hl => match us, hl with | [_, _, _], _ => rfl
  have F_Stretch_contains := fun_mk (st := s_Stretch_contains) l_Stretch_contains c_Stretch_contains k_Stretch_contains
  have bd_Stretch_contains := F_Stretch_contains.binds (ps := ["self", "level"]) fun _ _ _ _ _ _ us hl => match us, hl with | [_, _], _ => rfl
  have F_depth := fun_mk (st := s_depth) l_depth c_depth k_depth
  have bd_depth := F_depth.binds (ps := ["stretches", "level"]) fun _ _ _ _ _ _ us hl => match us, hl with | [_, _], _ => rfl
  have F_law_box := fun_mk (st := s_law_box) l_law_box c_law_box k_law_box
  have bd_law_box := F_law_box.binds (ps := ["_law_script", "_law_salt"]) fun _ _ _ _ _ _ us hl => match us, hl with | [_, _], _ => rfl
  have F_law_whole := fun_mk (st := s_law_whole) l_law_whole c_law_whole k_law_whole
  have bd_law_whole := F_law_whole.binds (ps := ["_law_worth"]) fun _ _ _ _ _ _ us hl => match us, hl with | [_], _ => rfl
  have F_law_span := fun_mk (st := s_law_span) l_law_span c_law_span k_law_span
  have bd_law_span := F_law_span.binds (ps := ["_law_box_here"]) fun _ _ _ _ _ _ us hl => match us, hl with | [_], _ => rfl
  have F_law_moved := fun_mk (st := s_law_moved) l_law_moved c_law_moved k_law_moved
  have bd_law_moved := F_law_moved.binds (ps := ["_law_box_here"]) fun _ _ _ _ _ _ us hl => match us, hl with | [_], _ => rfl
  have F_law_pair := fun_mk (st := s_law_pair) l_law_pair c_law_pair k_law_pair
  have bd_law_pair := F_law_pair.binds (ps := ["_law_box_here", "_law_span_here", "_law_moved_here"]) fun _ _ _ _ _ _ us hl => match us, hl with | [_, _, _], _ => rfl
  have F_law_pairs := fun_mk (st := s_law_pairs) l_law_pairs c_law_pairs k_law_pairs
  have bd_law_pairs := F_law_pairs.binds (ps := ["_law_box_here", "_law_most", "_law_span_here", "_law_moved_here"]) fun _ _ _ _ _ _ us hl => match us, hl with | [_, _, _, _], _ => rfl
  have F_law_spots := fun_mk (st := s_law_spots) l_law_spots c_law_spots k_law_spots
  have bd_law_spots := F_law_spots.binds (ps := ["_law_pairs_here"]) fun _ _ _ _ _ _ us hl => match us, hl with | [_], _ => rfl
  have F_law_depth := fun_mk (st := s_law_depth) l_law_depth c_law_depth k_law_depth
  have bd_law_depth := F_law_depth.binds (ps := ["_law_pairs_here", "_law_spot"]) fun _ _ _ _ _ _ us hl => match us, hl with | [_, _], _ => rfl
  have F_law_made := fun_mk (st := s_law_made) l_law_made c_law_made k_law_made
  have bd_law_made := F_law_made.binds (ps := ["_law_pairs_here"]) fun _ _ _ _ _ _ us hl => match us, hl with | [_], _ => rfl
  have F_law_stays := fun_mk (st := s_law_stays) l_law_stays c_law_stays k_law_stays
  have bd_law_stays := F_law_stays.binds (ps := ["_law_pieces", "_law_pairs_here"]) fun _ _ _ _ _ _ us hl => match us, hl with | [_, _], _ => rfl
  have F_law := fun_mk (st := s_law) l_law c_law k_law
  refine ⟨PySem.W.fnOf "law" "law" (defArgs s_law) (defBody s_law) (defScope s_law) .none kV_law dc_law pm_law an_law cd_law ct_law, fun s v => .of_eq rfl, fun base _ _ => ?_⟩
  have gd_law_take := gd_of (g := g) (P := l.prog) (w := w) (base := base) (defAt_mk X G f_law_take F_law_take bd_law_take) sc_law_take (b_law_take B ) pure_law_take
  have gc_Stretch := gc_of (g := g) (cl := .Stretch) (P := l.prog) (w := w) (base := base) (initAt_mk X G a_Stretch ⟨mk_Stretch, f_Stretch_init, i_Stretch_init, kc_Stretch⟩ F_Stretch_init bd_Stretch_init) sc_Stretch_init (b_Stretch_init B fl_low fl_high) pure_Stretch_init
  have mo_Stretch_contains := mo_of (g := g) (cl := .Stretch) (mg := mg) (P := l.prog) (w := w) (base := base) cls_Stretch (metAt_mk ⟨f_Stretch_contains, i_Stretch_contains, k_Stretch_contains⟩ F_Stretch_contains bd_Stretch_contains) sc_Stretch_contains (b_Stretch_contains B fl_low fl_high) pure_Stretch_contains
  have mt_contains_Stretch : MTab g l.prog w g.K mg base 1 "__contains__" [(.Stretch, S_Stretch_contains)] := (mt_cons (MOk.mono mo_Stretch_contains (by decide)) mt_nil)
  have gd_depth := gd_of (g := g) (P := l.prog) (w := w) (base := base) (defAt_mk X G f_depth F_depth bd_depth) sc_depth (b_depth B mt_contains_Stretch) pure_depth
  have gd_law_box := gd_of (g := g) (P := l.prog) (w := w) (base := base) (defAt_mk X G f_law_box F_law_box bd_law_box) sc_law_box (b_law_box B ) pure_law_box
  have gd_law_whole := gd_of (g := g) (P := l.prog) (w := w) (base := base) (defAt_mk X G f_law_whole F_law_whole bd_law_whole) sc_law_whole (b_law_whole B ) pure_law_whole
  have gd_law_span := gd_of (g := g) (P := l.prog) (w := w) (base := base) (defAt_mk X G f_law_span F_law_span bd_law_span) sc_law_span (b_law_span B gd_law_take) pure_law_span
  have gd_law_moved := gd_of (g := g) (P := l.prog) (w := w) (base := base) (defAt_mk X G f_law_moved F_law_moved bd_law_moved) sc_law_moved (b_law_moved B gd_law_take) pure_law_moved
  have gd_law_pair := gd_of (g := g) (P := l.prog) (w := w) (base := base) (defAt_mk X G f_law_pair F_law_pair bd_law_pair) sc_law_pair (b_law_pair B gd_law_take) pure_law_pair
  have gd_law_pairs := gd_of (g := g) (P := l.prog) (w := w) (base := base) (defAt_mk X G f_law_pairs F_law_pairs bd_law_pairs) sc_law_pairs (b_law_pairs B gd_law_take gd_law_pair) pure_law_pairs
  have gd_law_spots := gd_of (g := g) (P := l.prog) (w := w) (base := base) (defAt_mk X G f_law_spots F_law_spots bd_law_spots) sc_law_spots (b_law_spots B ) pure_law_spots
  have gd_law_depth := gd_of (g := g) (P := l.prog) (w := w) (base := base) (defAt_mk X G f_law_depth F_law_depth bd_law_depth) sc_law_depth (b_law_depth B ) pure_law_depth
  have gd_law_made := gd_of (g := g) (P := l.prog) (w := w) (base := base) (defAt_mk X G f_law_made F_law_made bd_law_made) sc_law_made (b_law_made B gc_Stretch) pure_law_made
  have gd_law_stays := gd_of (g := g) (P := l.prog) (w := w) (base := base) (defAt_mk X G f_law_stays F_law_stays bd_law_stays) sc_law_stays (b_law_stays B fl_high fl_low) pure_law_stays
  exact (fn_okF (g := g) F_law sc_law (fun ds O P E h => (pure_law ds O P E h).1) (b_law B gd_law_box gd_law_span gd_law_pairs gd_law_moved gd_law_made gd_law_spots gd_depth gd_law_whole gd_law_depth gd_law_stays _) fun ds O P E h => (pure_law ds O P E h).2).imp fun vs H Q E h => spLaw_of (g := g) h
end G
open PySem PySem.W PyProof.Rows
set_option maxRecDepth 100000 in
set_option maxHeartbeats 0 in
theorem PySem.Challenge.cw_gaugemiss_k07_depth_holds : PySem.Challenge.rw_gaugemiss_k07_depth.Holds := by
  w_on; o_law; k_head; (case hw => w_witness2)
  k_fill
  refine G.walk (l := PySem.Challenge.rw_gaugemiss_k07_depth) (x := "_law_script") 4 (by decide) rfl rfl (fun w h Y => PySem.W.kIn_of Y) ?F
  case F =>
    intro w mg fa h KX GX hmg
    refine' G.all_mk KX GX hmg ?a_Stretch ?pg_Stretch ?hd_Stretch ?po_Stretch ?sa_Stretch ?mk_Stretch ?kc_Stretch ?n_low_Stretch ?n_high_Stretch ?f_law_take ?l_law_take ?c_law_take ?k_law_take ?f_Stretch_init ?i_Stretch_init ?l_Stretch_init ?c_Stretch_init ?k_Stretch_init ?f_Stretch_contains ?i_Stretch_contains ?l_Stretch_contains ?c_Stretch_contains ?k_Stretch_contains ?f_depth ?l_depth ?c_depth ?k_depth ?f_law_box ?l_law_box ?c_law_box ?k_law_box ?f_law_whole ?l_law_whole ?c_law_whole ?k_law_whole ?f_law_span ?l_law_span ?c_law_span ?k_law_span ?f_law_moved ?l_law_moved ?c_law_moved ?k_law_moved ?f_law_pair ?l_law_pair ?c_law_pair ?k_law_pair ?f_law_pairs ?l_law_pairs ?c_law_pairs ?k_law_pairs ?f_law_spots ?l_law_spots ?c_law_spots ?k_law_spots ?f_law_depth ?l_law_depth ?c_law_depth ?k_law_depth ?f_law_made ?l_law_made ?c_law_made ?k_law_made ?f_law_stays ?l_law_stays ?c_law_stays ?k_law_stays ?f_law ?l_law ?c_law ?k_law ?z_len ?z_int ?z_bool ?z_str ?z_isinstance ?z_range ?z_max ?z_min ?z_abs ?z_sorted ?z_sum ?z_any ?z_all ?z_list ?z_dict ?z_tuple ?z_enumerate ?z_zip ?z_repr ?z_iter ?z_super
    (case a_Stretch => k_is)
    (case pg_Stretch => k_is)
    (case hd_Stretch => k_is)
    (case po_Stretch => k_is)
    (case sa_Stretch => k_is)
    (case mk_Stretch => k_is)
    (case kc_Stretch => k_is)
    (case n_low_Stretch => k_is)
    (case n_high_Stretch => k_is)
    (case f_law_take => k_is)
    (case l_law_take => k_is)
    (case c_law_take => k_is)
    (case k_law_take => k_is)
    (case f_Stretch_init => k_is)
    (case i_Stretch_init => k_is)
    (case l_Stretch_init => k_is)
    (case c_Stretch_init => k_is)
    (case k_Stretch_init => k_is)
    (case f_Stretch_contains => k_is)
    (case i_Stretch_contains => k_is)
    (case l_Stretch_contains => k_is)
    (case c_Stretch_contains => k_is)
    (case k_Stretch_contains => k_is)
    (case f_depth => k_is)
    (case l_depth => k_is)
    (case c_depth => k_is)
    (case k_depth => k_is)
    (case f_law_box => k_is)
    (case l_law_box => k_is)
    (case c_law_box => k_is)
    (case k_law_box => k_is)
    (case f_law_whole => k_is)
    (case l_law_whole => k_is)
    (case c_law_whole => k_is)
    (case k_law_whole => k_is)
    (case f_law_span => k_is)
    (case l_law_span => k_is)
    (case c_law_span => k_is)
    (case k_law_span => k_is)
    (case f_law_moved => k_is)
    (case l_law_moved => k_is)
    (case c_law_moved => k_is)
    (case k_law_moved => k_is)
    (case f_law_pair => k_is)
    (case l_law_pair => k_is)
    (case c_law_pair => k_is)
    (case k_law_pair => k_is)
    (case f_law_pairs => k_is)
    (case l_law_pairs => k_is)
    (case c_law_pairs => k_is)
    (case k_law_pairs => k_is)
    (case f_law_spots => k_is)
    (case l_law_spots => k_is)
    (case c_law_spots => k_is)
    (case k_law_spots => k_is)
    (case f_law_depth => k_is)
    (case l_law_depth => k_is)
    (case c_law_depth => k_is)
    (case k_law_depth => k_is)
    (case f_law_made => k_is)
    (case l_law_made => k_is)
    (case c_law_made => k_is)
    (case k_law_made => k_is)
    (case f_law_stays => k_is)
    (case l_law_stays => k_is)
    (case c_law_stays => k_is)
    (case k_law_stays => k_is)
    (case f_law => k_is)
    (case l_law => k_is)
    (case c_law => k_is)
    (case k_law => k_is)
    (case z_len => k_is)
    (case z_int => k_is)
    (case z_bool => k_is)
    (case z_str => k_is)
    (case z_isinstance => k_is)
    (case z_range => k_is)
    (case z_max => k_is)
    (case z_min => k_is)
    (case z_abs => k_is)
    (case z_sorted => k_is)
    (case z_sum => k_is)
    (case z_any => k_is)
    (case z_all => k_is)
    (case z_list => k_is)
    (case z_dict => k_is)
    (case z_tuple => k_is)
    (case z_enumerate => k_is)
    (case z_zip => k_is)
    (case z_repr => k_is)
    (case z_iter => k_is)
    (case z_super => k_is)
#print axioms PySem.Challenge.cw_gaugemiss_k07_depth_holds
