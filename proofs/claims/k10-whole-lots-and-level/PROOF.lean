import PyProof.Rows.All
import Wide.All
import OpenK.AllK
import Wide.FinOn
import HandS.Words
import HandS.Exc
import HandS.ExcInit
import HandS.Head0
import HandS.Head1
import HandS.Head2
import HandS.HeadHook1
import KE.KSuper
import KE.KIsAll
import KE.KExcSuper
import HandS.ForMost
import HandS.ForExc
import HandS.CallSlots
import HandS.Iter
import HandS.More
import HandS.Star
import HandS.IsInst
import KE.Datum
import HandS.Nested
import HandS.ExcSuper
import HandS.TryOnly
import HandS.ExcField
import HandS.ExcOwn
import KE.KExcIs
import KE.KOpsOwn
import HandS.SortInts
import HandS.ExcIs
import KE.KStar
import HandS.WordsDict
import HandS.Property
import HandS.ClsMeth
import KE.KCallOwn
import HandS.SortRule
import HandS.FStr
import HandS.OwnEq
import HandS.TryMany
import HandS.Style
import HandS.RaiseMore
import KE.KRevSl
import HandS.Defaults
import HandS.Deep
import HandS.TupAny
import HandS.SortOrd
import HandS.DictTup
import KE.KDictZip
import KE.KSortTup
import PyProof.WalksMore
import PyProof.Rows.SumAny
import HandS.DictComp
import HandS.IterVal
import HandS.GenOver
import KE.KOwnIter
import HandS.GenList
import KE.DatumMore
import HandS.HeadEnd
import HandS.StrMore
import KE.KxField
import PyProof.FString3
import HandS.Conv
import HandS.Finally
import PySem.Challenge.RW_gaugemiss_k10_whole_lots_and_level
set_option Elab.async false
set_option linter.all false
set_option maxRecDepth 100000
set_option maxHeartbeats 4000000
/-! ## a head whose facts are read within the one run of the top -/
namespace Hd
open PySem PySem.W
/-- the objects at some addresses, each one opened -/
def frK {α : Type} (g : Addr → Option Obj) : List Addr → (Frag → α) → α
  | [], k => k []
  | a :: r, k => match g a with
    | some ⟨c, d, dt, sl⟩ => frK g r fun K => k ((a, ⟨c, d, dt, sl⟩) :: K)
    | none => frK g r k
theorem frK_eq {α : Type} (g : Addr → Option Obj) : ∀ (as : List Addr) (k : Frag → α), frK g as k = k (He.frG g as)
  | [], _ => rfl
  | a :: r, k => by
    have e : He.frG g (a :: r) = (match (g a).map fun o => (a, o) with | some p => p :: He.frG g r | none => He.frG g r) := by
      unfold He.frG
      rw [List.filterMap_cons]
      cases g a <;> rfl
    rw [e]
    show (match g a with
      | some ⟨c, d, dt, sl⟩ => frK g r fun K => k ((a, ⟨c, d, dt, sl⟩) :: K)
      | none => frK g r k) = _
    cases g a with
    | none => exact frK_eq g r k
    | some o =>
      obtain ⟨c, d, dt, sl⟩ := o
      exact frK_eq g r _
def okAll : List Bool → Bool
  | [] => true
  | true :: r => okAll r
  | false :: _ => false
theorem okc {b : Bool} {r : List Bool} (h : okAll (b :: r) = true) : b = true ∧ okAll r = true := by
  cases b with
  | true => exact ⟨rfl, h⟩
  | false => cases h
theorem oka {l r : List Bool} (h : okAll (l ++ r) = true) : okAll l = true ∧ okAll r = true := by
  induction l with
  | nil => exact ⟨rfl, h⟩
  | cons b l ih =>
    obtain ⟨h1, h2⟩ := okc h
    subst h1
    exact ih h2
abbrev FnQ : Type := Option (Str × Str × Arguments × FuncBody × Scope × Addr × List (Str × Addr) × Value × Addr)
def fnQ (K : Frag) (A : Addr) : FnQ := match K.lookup A with
  | some ⟨_, _, .func fd, _⟩ => some (fd.name, fd.qualname, fd.params, fd.body, fd.scope, fd.globals, fd.closure, fd.defaults, fd.builtins)
  | _ => none
def fnV (nm q : Str) (st : Stmt) (cl : List (Str × Addr)) (dV : Value) : FnQ := some (nm, q, L2.defArgs st, .stmts (L2.defBody st), L2.defScope st, mainGlobals, cl, dV, builtinsNs)
def hookF (as : List Addr) (ck : Frag → List Bool) (fs : Frag → List FnQ) (vs : List FnQ) : Hook where
  α := Bool × List FnQ
  obs := fun s => (okAll (ck (He.frG s.heap.get? as)), fs (He.frG s.heap.get? as))
  val := fun _ => (true, vs)
  says := fun _ h => ∃ K : Frag, K.In h ∧ okAll (ck K) = true ∧ fs K = vs
  of := fun _ _ e => ⟨_, He.frG_in, congrArg Prod.fst e, congrArg Prod.snd e⟩
  keeps := fun _ _ _ ⟨K, hK, c⟩ k => ⟨K, Frag.In.keeps hK k, c⟩
def obF (as : List Addr) (ck : Frag → List Bool) (fs : Frag → List FnQ) (g : Addr → Option Obj) : Bool × List FnQ := frK g as fun K => (okAll (ck K), fs K)
theorem obF_eq {as : List Addr} {ck : Frag → List Bool} {fs : Frag → List FnQ} {vs : List FnQ} (s : SharedT) : obF as ck fs (HandSHeadRun.getT s) = (hookF as ck fs vs).obs s.abs := by
  have e : HandSHeadRun.getT s = s.abs.heap.get? := funext fun a => HandSHeadRun.getT_eq s a
  unfold obF
  rw [frK_eq, e]
  rfl
/-! ### facts with parts that no one names -/
def cdQ (K : Frag) (A : Addr) (q : Str) : Bool := match K.lookup A with
  | some ⟨_, _, .func fd, _⟩ => codeIn K fd.code q
  | _ => false
def cdS (K : Frag) (A cda : Addr) : Bool := match K.lookup A with
  | some ⟨_, _, .func fd, _⟩ => decide (fd.code = .ref cda)
  | _ => false
def kwQ (K : Frag) (A : Addr) (kV : Value) : Bool := match K.lookup A with
  | some ⟨_, _, .func fd, _⟩ => decide (fd.kwdefaults = kV)
  | _ => false
section
variable {K : Frag} {A cda cc : Addr} {nm q : Str} {st : Stmt} {cl : List (Str × Addr)} {dV kV : Value}
theorem fn_any (e : fnQ K A = fnV nm q st cl dV) : ∃ oc od kV dc pm an cd ct sl, K.lookup A = some ⟨oc, od, .func ⟨nm, q, L2.defArgs st, .stmts (L2.defBody st), L2.defScope st, mainGlobals, cl, dV, kV, dc, pm, an, cd, ct, builtinsNs⟩, sl⟩ := by
  unfold fnQ fnV at e
  cases z : K.lookup A with
  | none =>
    rw [z] at e
    cases e
  | some o =>
    obtain ⟨oc, od, dt, osl⟩ := o
    rw [z] at e
    cases dt with
    | func fd =>
      obtain ⟨n1, n2, n3, n4, n5, n6, n7, n8, n9, n10, n11, n12, n13, n14, n15⟩ := fd
      have e2 : (some (n1, n2, n3, n4, n5, n6, n7, n8, n15) : FnQ) = some (nm, q, L2.defArgs st, .stmts (L2.defBody st), L2.defScope st, mainGlobals, cl, dV, builtinsNs) := e
      simp only [Option.some.injEq, Prod.mk.injEq] at e2
      obtain ⟨h1, h2, h3, h4, h5, h6, h7, h8, h9⟩ := e2
      subst h1 h2 h3 h4 h5 h6 h7 h8 h9
      exact ⟨_, _, _, _, _, _, _, _, _, rfl⟩
    | _ => cases e
theorem fn_get (e : fnQ K A = fnV nm q st [] dV) (c : cdQ K A q = true) : ∃ oc od kV dc pm an cd ct sl, K.lookup A = some ⟨oc, od, .func (fnOf nm q (L2.defArgs st) (L2.defBody st) (L2.defScope st) dV kV dc pm an cd ct), sl⟩ ∧ codeIn K cd q = true := by
  obtain ⟨oc, od, kV, dc, pm, an, cd, ct, sl, z⟩ := fn_any e
  unfold cdQ at c
  rw [z] at c
  exact ⟨oc, od, kV, dc, pm, an, cd, ct, sl, z, c⟩
theorem fn_getK (e : fnQ K A = fnV nm q st [] dV) (c : cdQ K A q = true) (k : kwQ K A kV = true) : ∃ oc od dc pm an cd ct sl, K.lookup A = some ⟨oc, od, .func (fnOf nm q (L2.defArgs st) (L2.defBody st) (L2.defScope st) dV kV dc pm an cd ct), sl⟩ ∧ codeIn K cd q = true := by
  obtain ⟨oc, od, kV', dc, pm, an, cd, ct, sl, z⟩ := fn_any e
  unfold cdQ at c
  unfold kwQ at k
  rw [z] at c k
  have ek : kV' = kV := of_decide_eq_true k
  subst ek
  exact ⟨oc, od, dc, pm, an, cd, ct, sl, z, c⟩
theorem fn_getS (e : fnQ K A = fnV nm q st [("__class__", cc)] dV) (c : cdS K A cda = true) : ∃ oc od kV dc pm an ct sl, K.lookup A = some ⟨oc, od, .func (ksFn nm q (L2.defArgs st) (L2.defBody st) (L2.defScope st) dV kV dc pm an (.ref cda) ct cc), sl⟩ := by
  obtain ⟨oc, od, kV', dc, pm, an, cd, ct, sl, z⟩ := fn_any e
  unfold cdS at c
  rw [z] at c
  have ec : cd = .ref cda := of_decide_eq_true c
  subst ec
  exact ⟨oc, od, kV', dc, pm, an, ct, sl, z⟩
theorem fn_getSK (e : fnQ K A = fnV nm q st [("__class__", cc)] dV) (c : cdS K A cda = true) (k : kwQ K A kV = true) : ∃ oc od dc pm an ct sl, K.lookup A = some ⟨oc, od, .func (ksFn nm q (L2.defArgs st) (L2.defBody st) (L2.defScope st) dV kV dc pm an (.ref cda) ct cc), sl⟩ := by
  obtain ⟨oc, od, kV', dc, pm, an, cd, ct, sl, z⟩ := fn_any e
  unfold cdS at c
  unfold kwQ at k
  rw [z] at c k
  have ec : cd = .ref cda := of_decide_eq_true c
  have ek : kV' = kV := of_decide_eq_true k
  subst ec ek
  exact ⟨oc, od, dc, pm, an, ct, sl, z⟩
end
def flQ (K : Frag) (cda : Addr) (file : Str) : Bool := match K.lookup cda with
  | some ⟨_, _, .fields vs, _⟩ => (match (vs[2]? : Option Value) with | some (.str f _) => file == f | _ => false)
  | _ => false
theorem fl_get {K : Frag} {cda : Addr} {file : Str} (h : flQ K cda file = true) : ∃ ccl cdd vs ccs f tf, K.lookup cda = some ⟨ccl, cdd, .fields vs, ccs⟩ ∧ vs[2]? = some (.str f tf) ∧ (file == f) = true := by
  unfold flQ at h
  cases z : K.lookup cda with
  | none => rw [z] at h; cases h
  | some o =>
    obtain ⟨oc, od, dt, osl⟩ := o
    rw [z] at h
    cases dt with
    | fields vs =>
      cases y : vs[2]? with
      | none => simp only [y] at h; cases h
      | some v =>
        cases v with
        | str f t => simp only [y] at h; exact ⟨_, _, vs, _, f, t, rfl, y, h⟩
        | _ => simp only [y] at h; cases h
    | _ => cases h
def ceQ (K : Frag) (cc D : Addr) : Bool := match K.lookup cc with
  | some ⟨_, _, .cell (some (.ref x)), _⟩ => decide (x = D)
  | _ => false
theorem ce_get {K : Frag} {cc D : Addr} (h : ceQ K cc D = true) : ∃ cl cld csl, K.lookup cc = some ⟨cl, cld, .cell (some (.ref D)), csl⟩ := by
  unfold ceQ at h
  cases z : K.lookup cc with
  | none => rw [z] at h; cases h
  | some o =>
    obtain ⟨oc, od, dt, osl⟩ := o
    rw [z] at h
    cases dt with
    | cell v =>
      cases v with
      | none => cases h
      | some v =>
        cases v with
        | ref x =>
          have e : x = D := of_decide_eq_true h
          subst e
          exact ⟨_, _, _, rfl⟩
        | _ => cases h
    | _ => cases h
theorem dc_get {K : Frag} {D : Addr} (h : (clsIn K D).isSome = true) : ∃ cd, clsIn K D = some cd := Option.isSome_iff_exists.mp h
def lkQ (K : Frag) (E : Addr) : Bool := match K.lookup E with
  | some ⟨.type T, _, .cls cd, sl⟩ => (match cd.mro, sl.toList with
    | .ref C :: bm, [_, _, _, _, some (.builtin n), _] => decide (T = "type") && (decide (C = E) && (decide (n = "ValueError.__new__") && (!cd.hasDel && (cd.hasDict && PySem.HandSPX.refsVE bm))))
    | _, _ => false)
  | _ => false
theorem lk_get {K : Frag} {E : Addr} (h : lkQ K E = true) : ∃ nm q N bs bm sn sub ab col dd k0 k1 k2 k3 k5, K.lookup E = some (excClassObj nm q E N bs bm true sn sub ab col dd k0 k1 k2 k3 k5 "ValueError.__new__") ∧ PySem.HandSPX.refsVE bm = true := by
  unfold lkQ at h
  cases z : K.lookup E with
  | none => rw [z] at h; cases h
  | some o =>
    obtain ⟨oc, od, dt, osl⟩ := o
    rw [z] at h
    cases oc with
    | type T =>
      cases dt with
      | cls cd =>
        obtain ⟨n1, bs, mro, N, qn, hd, sn, sub, ab, col, hdel⟩ := cd
        simp only at h
        split at h
        · rename_i C bm k0 k1 k2 k3 n k5 es
          simp only [Bool.and_eq_true, decide_eq_true_eq, Bool.not_eq_true'] at h
          obtain ⟨h1, h2, h3, h4, h5, h6⟩ := h
          subst h1 h2 h3 h4 h5
          have e7 : osl = #[k0, k1, k2, k3, some (.builtin "ValueError.__new__"), k5] := by
            rw [← Array.toList_inj, es]
          subst e7
          exact ⟨_, _, _, _, _, _, _, _, _, _, _, _, _, _, _, rfl, h6⟩
        · cases h
      | _ => cases h
    | _ => cases dt <;> cases h
def recQ (K : Frag) (P : Addr) (T : String) (A : Addr) : Bool := match recIn K P T with
  | some (.ref a :: _) => decide (a = A)
  | _ => false
theorem rec_get {K : Frag} {P A : Addr} {T : String} (h : recQ K P T A = true) : ∃ rest, recIn K P T = some (.ref A :: rest) := by
  unfold recQ at h
  split at h
  · rename_i a r e
    have := of_decide_eq_true h
    subst this
    exact ⟨r, e⟩
  · cases h
def strQ (K : Frag) (x z : Str) : Bool := match nsIn K mainGlobals x with
  | some (some (.str y _)) => decide (y = z)
  | _ => false
theorem str_get {K : Frag} {x z : Str} (h : strQ K x z = true) : ∃ t, nsIn K mainGlobals x = some (some (.str z t)) := by
  unfold strQ at h
  split at h
  · rename_i a t e
    have := of_decide_eq_true h
    subst this
    exact ⟨t, e⟩
  · cases h
def nssQ (K : Frag) (D : Addr) (x z : Str) : Bool := match nsIn K D x with
  | some (some (.str y _)) => decide (y = z)
  | _ => false
theorem nss_get {K : Frag} {D : Addr} {x z : Str} (h : nssQ K D x z = true) : ∃ t, nsIn K D x = some (some (.str z t)) := by
  unfold nssQ at h
  split at h
  · rename_i a t e
    have := of_decide_eq_true h
    subst this
    exact ⟨t, e⟩
  · cases h
def nsiQ (K : Frag) (D : Addr) (x : Str) (z : Int) : Bool := match nsIn K D x with
  | some (some (.int y _)) => decide (y = z)
  | _ => false
theorem nsi_get {K : Frag} {D : Addr} {x : Str} {z : Int} (h : nsiQ K D x z = true) : ∃ t, nsIn K D x = some (some (.int z t)) := by
  unfold nsiQ at h
  split at h
  · rename_i a t e
    have := of_decide_eq_true h
    subst this
    exact ⟨t, e⟩
  · cases h
def cfiQ (K : Frag) (c mc : Value) (x : Str) (i : Int) : Bool := match findCls K c mc x with
  | some (.val (.int j _)) => decide (j = i)
  | _ => false
theorem cfi_get {K : Frag} {c mc : Value} {x : Str} {i : Int} (h : cfiQ K c mc x i = true) : ∃ t, findCls K c mc x = some (.val (.int i t)) := by
  unfold cfiQ at h
  split at h
  · rename_i a t e
    have := of_decide_eq_true h
    subst this
    exact ⟨t, e⟩
  · cases h
def cfvQ (K : Frag) (c mc : Value) (x : Str) (v : Value) : Bool := match findCls K c mc x with
  | some (.val u) => decide (u = v)
  | _ => false
theorem cfv_get {K : Frag} {c mc v : Value} {x : Str} (h : cfvQ K c mc x v = true) : findCls K c mc x = some (.val v) := by
  unfold cfvQ at h
  split at h
  · rename_i a e
    have := of_decide_eq_true h
    subst this
    exact e
  · cases h
def cfgQ (K : Frag) (c mc : Value) (x : Str) (g a o t : Value) : Bool := match findCls K c mc x with
  | some (.get g' a' o' t') => decide (g' = g) && (decide (a' = a) && (decide (o' = o) && decide (t' = t)))
  | _ => false
theorem cfg_get {K : Frag} {c mc g a o t : Value} {x : Str} (h : cfgQ K c mc x g a o t = true) : findCls K c mc x = some (.get g a o t) := by
  unfold cfgQ at h
  split at h
  · rename_i g' a' o' t' e
    simp only [Bool.and_eq_true, decide_eq_true_eq] at h
    obtain ⟨h1, h2, h3, h4⟩ := h
    subst h1 h2 h3 h4
    exact e
  · cases h
def teQ (K : Frag) (KT : Addr) : Bool := match K.lookup KT with
  | some ⟨.type T, _, .seq its _, _⟩ => decide (T = "tuple") && its.toList.isEmpty
  | _ => false
theorem te_get {K : Frag} {KT : Addr} (h : teQ K KT = true) : ∃ od n sl, K.lookup KT = some ⟨.type "tuple", od, .seq #[] n, sl⟩ := by
  unfold teQ at h
  cases z : K.lookup KT with
  | none => rw [z] at h; cases h
  | some o =>
    obtain ⟨oc, od, dt, osl⟩ := o
    rw [z] at h
    cases oc with
    | type T =>
      cases dt with
      | seq its n =>
        have h : (decide (T = "tuple") && its.toList.isEmpty) = true := h
        simp only [Bool.and_eq_true, decide_eq_true_eq, List.isEmpty_iff] at h
        obtain ⟨rfl, h2⟩ := h
        have e : its = #[] := by rw [← Array.toList_inj, h2]
        subst e
        exact ⟨_, _, _, rfl⟩
      | _ => cases h
    | _ => cases dt <;> cases h
def seQ (K : Frag) (KD KT : Addr) : Bool := match K.lookup KD with
  | some ⟨_, _, .seq its _, _⟩ => (match its.toList with | [.ref x] => decide (x = KT) | _ => false)
  | _ => false
theorem se_get {K : Frag} {KD KT : Addr} (h : seQ K KD KT = true) : ∃ oc od n sl, K.lookup KD = some ⟨oc, od, .seq #[.ref KT] n, sl⟩ := by
  unfold seQ at h
  cases z : K.lookup KD with
  | none => rw [z] at h; cases h
  | some o =>
    obtain ⟨oc, od, dt, osl⟩ := o
    rw [z] at h
    cases dt with
    | seq its n =>
      dsimp only at h
      split at h
      · rename_i x e
        have e1 := of_decide_eq_true h
        subst e1
        have e : its = #[.ref x] := by rw [← Array.toList_inj, e]
        subst e
        exact ⟨_, _, _, _, rfl⟩
      · cases h
    | _ => cases h
/-- a tuple of texts -/
def strsB : List Str → List Value → Bool
  | [], [] => true
  | w :: ws, .str x _ :: vs => decide (x = w) && strsB ws vs
  | _, _ => false
def strsV : List Str → List Tok → List Value
  | w :: ws, t :: ts => .str w t :: strsV ws ts
  | _, _ => []
theorem strs_get : ∀ {ws : List Str} {vs : List Value}, strsB ws vs = true → ∃ ts : List Tok, ts.length = ws.length ∧ vs = strsV ws ts
  | [], [], _ => ⟨[], rfl, rfl⟩
  | [], _ :: _, h => by cases h
  | w :: ws, [], h => by cases h
  | w :: ws, v :: vs, h => by
    cases v with
    | str x t =>
      have h : (decide (x = w) && strsB ws vs) = true := h
      simp only [Bool.and_eq_true, decide_eq_true_eq] at h
      obtain ⟨rfl, h2⟩ := h
      obtain ⟨ts, e1, e2⟩ := strs_get h2
      exact ⟨t :: ts, by simp [e1], by rw [e2]; rfl⟩
    | _ => cases h
def tsQ (K : Frag) (A : Addr) (ws : List Str) : Bool := match K.lookup A with
  | some ⟨.type T, _, .seq its _, _⟩ => decide (T = "tuple") && strsB ws its.toList
  | _ => false
theorem ts_get {K : Frag} {A : Addr} {ws : List Str} (h : tsQ K A ws = true) : ∃ ts od n sl, ts.length = ws.length ∧ K.lookup A = some ⟨.type "tuple", od, .seq (strsV ws ts).toArray n, sl⟩ := by
  unfold tsQ at h
  cases z : K.lookup A with
  | none => rw [z] at h; cases h
  | some o =>
    obtain ⟨oc, od, dt, osl⟩ := o
    rw [z] at h
    cases oc with
    | type T =>
      cases dt with
      | seq its n =>
        have h : (decide (T = "tuple") && strsB ws its.toList) = true := h
        simp only [Bool.and_eq_true, decide_eq_true_eq] at h
        obtain ⟨rfl, h2⟩ := h
        obtain ⟨ts, e1, e2⟩ := strs_get h2
        have e : its = (strsV ws ts).toArray := by rw [← Array.toList_inj, e2]
        subst e
        exact ⟨ts, _, _, _, e1, rfl⟩
      | _ => cases h
    | _ => cases dt <;> cases h
theorem fnAt {l vs : List FnQ} (e : l = vs) (i : Nat) {x y : FnQ} (h : l[i]? = some x := by rfl) (h' : vs[i]? = some y := by rfl) : x = y := by
  subst e
  exact Option.some.inj (h.symm.trans h')
end Hd

set_option Elab.async false
set_option linter.all false
set_option maxRecDepth 100000
set_option maxHeartbeats 4000000
namespace G
open PySem PySem.W L2 Hd
def top (i : Nat) : Stmt := PySem.Challenge.pw_gaugemiss_k10_whole_lots_and_level.main.body.getD i (.Pass ⟨0, 0, 0, 0⟩)
abbrev s_law_take : Stmt := top 19
abbrev s_law_box : Stmt := top 18
abbrev s_law_whole : Stmt := top 20
abbrev s_law_span : Stmt := top 22
abbrev s_law_moved : Stmt := top 23
abbrev s_law_pair : Stmt := top 21
abbrev s_law_pairs : Stmt := top 24
abbrev s_law_depth : Stmt := top 25
abbrev s_Stretch_init : Stmt := inClass (top 8) 0
abbrev s_Stretch_contains : Stmt := inClass (top 8) 4
abbrev s_law_stays : Stmt := top 27
abbrev s_law_made : Stmt := top 26
abbrev s_merged : Stmt := top 9
abbrev s_Levels_init : Stmt := inClass (top 10) 0
abbrev s_Levels_ends : Stmt := inClass (top 10) 18
abbrev s_depth : Stmt := top 12
abbrev s_shared : Stmt := top 13
abbrev s_most_shared : Stmt := top 14
abbrev s_least_liars : Stmt := top 15
abbrev s_apart_lots : Stmt := top 16
abbrev s_law_lots : Stmt := top 28
abbrev s_law : Stmt := top 29
abbrev s_BadStretch_init : Stmt := inClass (top 3) 0
abbrev s_BadNeed_init : Stmt := inClass (top 6) 0
abbrev hR : OpenRow := OpenLaw.row PySem.Challenge.rw_gaugemiss_k10_whole_lots_and_level
abbrev hQ : Program := view hR.prog [29]
def hNames : List Str := (hR.prog.main.body.take 29).filterMap fun s => match s with | .FunctionDef n .. => some n | .ClassDef n .. => some n | .Assign [.Name n _] .. => some n | _ => none
def hAs : List Addr := [3, 2, 236, 404, 53, 107, 65, 50, 49, 38, 104, 103, 92, 449, 442, 456, 470, 477, 463, 482, 487, 123, 156, 497, 492, 247, 259, 380, 413, 420, 425, 432, 437, 502, 507, 235, 403, 52, 31, 106, 64, 448, 441, 455, 469, 476, 462, 481, 486, 122, 155, 496, 491, 246, 258, 379, 412, 419, 424, 431, 436, 501, 506, 30]
def hck0 (K : Frag) : List Bool := [Hd.cdS K 50 49,
  Hd.cdS K 104 103,
  Hd.cdQ K 449 "_law_take",
  Hd.cdQ K 442 "_law_box",
  Hd.cdQ K 456 "_law_whole",
  Hd.cdQ K 470 "_law_span",
  Hd.cdQ K 477 "_law_moved",
  Hd.cdQ K 463 "_law_pair",
  Hd.cdQ K 482 "_law_pairs",
  Hd.cdQ K 487 "_law_depth",
  Hd.cdQ K 123 "Stretch.__init__",
  Hd.cdQ K 156 "Stretch.__contains__",
  Hd.cdQ K 497 "_law_stays",
  Hd.cdQ K 492 "_law_made",
  Hd.cdQ K 247 "merged",
  Hd.cdQ K 259 "Levels.__init__",
  Hd.cdQ K 380 "Levels.ends",
  Hd.cdQ K 413 "depth",
  Hd.cdQ K 420 "shared",
  Hd.cdQ K 425 "most_shared"]
def hck1 (K : Frag) : List Bool := [Hd.cdQ K 432 "least_liars",
  Hd.cdQ K 437 "apart_lots",
  Hd.cdQ K 502 "_law_lots",
  Hd.cdQ K 507 "law",
  decide (PySem.W.nsIn K mainGlobals "Stretch" = some (some (.ref 236))),
  PySem.W.plainGet K 236 Str.empty,
  PySem.W.hasDictIn K 236,
  PySem.W.plainOver K 236,
  decide (PySem.W.findIn K (.ref 236) "__setattr__" = some (some (.builtin "object.__setattr__"))),
  PySem.W.makesIn K 236,
  PySem.W.keepIn K (.ref 236),
  decide (PySem.W.nsIn K mainGlobals "Levels" = some (some (.ref 404))),
  PySem.W.plainGet K 404 Str.empty,
  PySem.W.hasDictIn K 404,
  PySem.W.plainOver K 404,
  decide (PySem.W.findIn K (.ref 404) "__setattr__" = some (some (.builtin "object.__setattr__"))),
  PySem.W.makesIn K 404,
  PySem.W.keepIn K (.ref 404),
  decide (PySem.W.nsIn K mainGlobals "BadStretch" = some (some (.ref 53))),
  decide (PySem.W.subIn K (.ref 53) (.type "BaseException") = some true)]
def hck2 (K : Frag) : List Bool := [decide (PySem.W.typeIn K (.ref 53) = some (.type "type")),
  PySem.W.keepIn K (.ref 53),
  PySem.W.hasDictIn K 53,
  decide (PySem.W.nsIn K mainGlobals "BadNeed" = some (some (.ref 107))),
  decide (PySem.W.subIn K (.ref 107) (.type "BaseException") = some true),
  decide (PySem.W.typeIn K (.ref 107) = some (.type "type")),
  PySem.W.keepIn K (.ref 107),
  PySem.W.hasDictIn K 107,
  decide (PySem.W.nsIn K mainGlobals "NoLevel" = some (some (.ref 65))),
  decide (PySem.W.subIn K (.ref 65) (.type "BaseException") = some true),
  decide (PySem.W.typeIn K (.ref 65) = some (.type "type")),
  PySem.W.keepIn K (.ref 65),
  PySem.W.hasDictIn K 65,
  PySem.W.excIn K 65 [.type "ValueError", .type "Exception", .type "BaseException", .type "object"] "ValueError.__new__",
  Hd.lkQ K 53,
  decide (PySem.W.findIn K (.ref 53) "__setattr__" = some (some (.builtin "object.__setattr__"))),
  decide (PySem.W.findIn K (.ref 53) "__init__" = some (some (.ref 50))),
  decide (PySem.W.typeIn K (.ref 50) = some (.type "function")),
  PySem.W.codeIn K (.ref 49) "BadStretch.__init__",
  PySem.W.keepIn K (.ref 50)]
def hck3 (K : Frag) : List Bool := [Hd.flQ K 49 (PySem.W.OpenLaw.row PySem.Challenge.rw_gaugemiss_k10_whole_lots_and_level).prog.main.file,
  Hd.ceQ K 38 53,
  (PySem.W.clsIn K 53).isSome,
  decide (PySem.W.mroIn K 53 (.ref 53) = some true),
  decide (PySem.W.ks_superIn K 53 53 "__init__" = some (some (.builtin "ValueError.__init__"))),
  decide (PySem.W.subIn K (.ref 53) (.type "ValueError") = some true),
  Hd.lkQ K 107,
  decide (PySem.W.findIn K (.ref 107) "__setattr__" = some (some (.builtin "object.__setattr__"))),
  decide (PySem.W.findIn K (.ref 107) "__init__" = some (some (.ref 104))),
  decide (PySem.W.typeIn K (.ref 104) = some (.type "function")),
  PySem.W.codeIn K (.ref 103) "BadNeed.__init__",
  PySem.W.keepIn K (.ref 104),
  Hd.flQ K 103 (PySem.W.OpenLaw.row PySem.Challenge.rw_gaugemiss_k10_whole_lots_and_level).prog.main.file,
  Hd.ceQ K 92 107,
  (PySem.W.clsIn K 107).isSome,
  decide (PySem.W.mroIn K 107 (.ref 107) = some true),
  decide (PySem.W.ks_superIn K 107 107 "__init__" = some (some (.builtin "ValueError.__init__"))),
  decide (PySem.W.subIn K (.ref 107) (.type "ValueError") = some true),
  decide (PySem.W.nsIn K cStatics "thirdparty.any" = some none),
  decide (PySem.W.findIn K (.ref 107) "number" = some none)]
def hck4 (K : Frag) : List Bool := [decide (PySem.W.findIn K (.ref 53) "high" = some none),
  decide (PySem.W.findIn K (.ref 53) "low" = some none),
  decide (PySem.W.findIn K (.ref 236) "low" = some none),
  decide (PySem.W.findIn K (.ref 236) "high" = some none),
  decide (PySem.W.findIn K (.ref 404) "pieces" = some none),
  decide (PySem.W.nsIn K mainGlobals "_law_take" = some (some (.ref 449))),
  PySem.W.keepIn K (.ref 449),
  decide (PySem.W.nsIn K mainGlobals "_law_box" = some (some (.ref 442))),
  PySem.W.keepIn K (.ref 442),
  decide (PySem.W.nsIn K mainGlobals "_law_whole" = some (some (.ref 456))),
  PySem.W.keepIn K (.ref 456),
  decide (PySem.W.nsIn K mainGlobals "_law_span" = some (some (.ref 470))),
  PySem.W.keepIn K (.ref 470),
  decide (PySem.W.nsIn K mainGlobals "_law_moved" = some (some (.ref 477))),
  PySem.W.keepIn K (.ref 477),
  decide (PySem.W.nsIn K mainGlobals "_law_pair" = some (some (.ref 463))),
  PySem.W.keepIn K (.ref 463),
  decide (PySem.W.nsIn K mainGlobals "_law_pairs" = some (some (.ref 482))),
  PySem.W.keepIn K (.ref 482),
  decide (PySem.W.nsIn K mainGlobals "_law_depth" = some (some (.ref 487)))]
def hck5 (K : Frag) : List Bool := [PySem.W.keepIn K (.ref 487),
  decide (PySem.W.findIn K (.ref 236) "__init__" = some (some (.ref 123))),
  PySem.W.isFn K (.ref 123),
  PySem.W.keepIn K (.ref 123),
  decide (PySem.W.findIn K (.ref 236) "__contains__" = some (some (.ref 156))),
  PySem.W.isFn K (.ref 156),
  PySem.W.keepIn K (.ref 156),
  decide (PySem.W.nsIn K mainGlobals "_law_stays" = some (some (.ref 497))),
  PySem.W.keepIn K (.ref 497),
  decide (PySem.W.nsIn K mainGlobals "_law_made" = some (some (.ref 492))),
  PySem.W.keepIn K (.ref 492),
  decide (PySem.W.nsIn K mainGlobals "merged" = some (some (.ref 247))),
  PySem.W.keepIn K (.ref 247),
  decide (PySem.W.findIn K (.ref 404) "__init__" = some (some (.ref 259))),
  PySem.W.isFn K (.ref 259),
  PySem.W.keepIn K (.ref 259),
  decide (PySem.W.findIn K (.ref 404) "ends" = some (some (.ref 380))),
  PySem.W.isFn K (.ref 380),
  PySem.W.keepIn K (.ref 380),
  decide (PySem.W.nsIn K mainGlobals "depth" = some (some (.ref 413)))]
def hck6 (K : Frag) : List Bool := [PySem.W.keepIn K (.ref 413),
  decide (PySem.W.nsIn K mainGlobals "shared" = some (some (.ref 420))),
  PySem.W.keepIn K (.ref 420),
  decide (PySem.W.nsIn K mainGlobals "most_shared" = some (some (.ref 425))),
  PySem.W.keepIn K (.ref 425),
  decide (PySem.W.nsIn K mainGlobals "least_liars" = some (some (.ref 432))),
  PySem.W.keepIn K (.ref 432),
  decide (PySem.W.nsIn K mainGlobals "apart_lots" = some (some (.ref 437))),
  PySem.W.keepIn K (.ref 437),
  decide (PySem.W.nsIn K mainGlobals "_law_lots" = some (some (.ref 502))),
  PySem.W.keepIn K (.ref 502),
  decide (PySem.W.nsIn K mainGlobals "law" = some (some (.ref 507))),
  PySem.W.keepIn K (.ref 507),
  decide (PySem.W.nsIn K mainGlobals "len" = some none),
  decide (PySem.W.nsIn K mainGlobals "int" = some none),
  decide (PySem.W.nsIn K mainGlobals "bool" = some none),
  decide (PySem.W.nsIn K mainGlobals "str" = some none),
  decide (PySem.W.nsIn K mainGlobals "isinstance" = some none),
  decide (PySem.W.nsIn K mainGlobals "range" = some none),
  decide (PySem.W.nsIn K mainGlobals "max" = some none)]
def hck7 (K : Frag) : List Bool := [decide (PySem.W.nsIn K mainGlobals "min" = some none),
  decide (PySem.W.nsIn K mainGlobals "abs" = some none),
  decide (PySem.W.nsIn K mainGlobals "sorted" = some none),
  decide (PySem.W.nsIn K mainGlobals "sum" = some none),
  decide (PySem.W.nsIn K mainGlobals "any" = some none),
  decide (PySem.W.nsIn K mainGlobals "all" = some none),
  decide (PySem.W.nsIn K mainGlobals "list" = some none),
  decide (PySem.W.nsIn K mainGlobals "dict" = some none),
  decide (PySem.W.nsIn K mainGlobals "tuple" = some none),
  decide (PySem.W.nsIn K mainGlobals "enumerate" = some none),
  decide (PySem.W.nsIn K mainGlobals "zip" = some none),
  decide (PySem.W.nsIn K mainGlobals "repr" = some none),
  decide (PySem.W.nsIn K mainGlobals "iter" = some none),
  decide (PySem.W.nsIn K mainGlobals "super" = some none)]
def hck (K : Frag) : List Bool := hck0 K ++ (hck1 K ++ (hck2 K ++ (hck3 K ++ (hck4 K ++ (hck5 K ++ (hck6 K ++ (hck7 K)))))))
def hfs (K : Frag) : List FnQ := [fnQ K 50, fnQ K 104, fnQ K 449, fnQ K 442, fnQ K 456, fnQ K 470, fnQ K 477, fnQ K 463, fnQ K 482, fnQ K 487, fnQ K 123, fnQ K 156, fnQ K 497, fnQ K 492, fnQ K 247, fnQ K 259, fnQ K 380, fnQ K 413, fnQ K 420, fnQ K 425, fnQ K 432, fnQ K 437, fnQ K 502, fnQ K 507]
def hvs : List FnQ := [fnV "__init__" "BadStretch.__init__" s_BadStretch_init [(("__class__" : Str), 38)] .none,
  fnV "__init__" "BadNeed.__init__" s_BadNeed_init [(("__class__" : Str), 92)] .none,
  fnV "_law_take" "_law_take" s_law_take [] .none,
  fnV "_law_box" "_law_box" s_law_box [] .none,
  fnV "_law_whole" "_law_whole" s_law_whole [] .none,
  fnV "_law_span" "_law_span" s_law_span [] .none,
  fnV "_law_moved" "_law_moved" s_law_moved [] .none,
  fnV "_law_pair" "_law_pair" s_law_pair [] .none,
  fnV "_law_pairs" "_law_pairs" s_law_pairs [] .none,
  fnV "_law_depth" "_law_depth" s_law_depth [] .none,
  fnV "__init__" "Stretch.__init__" s_Stretch_init [] .none,
  fnV "__contains__" "Stretch.__contains__" s_Stretch_contains [] .none,
  fnV "_law_stays" "_law_stays" s_law_stays [] .none,
  fnV "_law_made" "_law_made" s_law_made [] .none,
  fnV "merged" "merged" s_merged [] .none,
  fnV "__init__" "Levels.__init__" s_Levels_init [] .none,
  fnV "ends" "Levels.ends" s_Levels_ends [] .none,
  fnV "depth" "depth" s_depth [] .none,
  fnV "shared" "shared" s_shared [] .none,
  fnV "most_shared" "most_shared" s_most_shared [] .none,
  fnV "least_liars" "least_liars" s_least_liars [] .none,
  fnV "apart_lots" "apart_lots" s_apart_lots [] .none,
  fnV "_law_lots" "_law_lots" s_law_lots [] .none,
  fnV "law" "law" s_law [] .none]
abbrev hHk : Hook := hookF hAs hck hfs hvs
def hOb (s : SharedT) : Bool × List FnQ := obF hAs hck hfs (HandSHeadRun.getT s)
theorem hOb_eq (s : SharedT) : hOb s = hHk.obs s.abs := obF_eq s
set_option maxHeartbeats 0 in
theorem hRun (w : World) : HandSHeadRun.RunEq hR hQ hHk hOb 60000 hNames w := by
  intro os
  kernel_rfl
end G
set_option Elab.async false
set_option linter.all false
set_option maxRecDepth 100000
set_option maxHeartbeats 4000000
namespace G
open PySem L2

/-! ## Plain data -/
inductive Cl where
  | Stretch | Levels | Gauge | CoarseGauge | LateGauge | LateCoarseGauge | Rack | Rule | Leaf | Rank | Trim | Weigh | Miss | Case | Twins | Keeper | Desk | SteadyDesk | Finder
  deriving DecidableEq
inductive Ec where
  | GaugeError | BadStretch | NoLevel | Apart | BadNeed | BadLiars | BadGauge | DuplicateGauge | UnknownGauge | MissingReading | BadRule | BadText | BadLine | SharedFault | BadPaper | NoBound | BadLimit | NoCase | NoTruth | NoTick
  | NotPossible | NothingToUndo | NothingToRedo | NotRanked | NoRule
  deriving DecidableEq
inductive Fd where
  | low | high | pieces | name | radius | step | late | pace | gauges | groups | written | parts | ranked | place | cut | weights | above | below | level | readings | lot | reply
  | low_level | low_lot | high_level | high_lot | bound | order | gone | rack | start | rows | many | lines | past | future | rules | places | first | second | number | kind | text | line | row | tick
  deriving DecidableEq
def Fd.str : Fd → Str
  | .low => "low" | .high => "high" | .pieces => "pieces" | .name => "name" | .radius => "radius" | .step => "step" | .late => "late" | .pace => "pace" | .gauges => "gauges" | .groups => "groups"
  | .written => "written" | .parts => "parts" | .ranked => "ranked" | .place => "place" | .cut => "cut" | .weights => "weights" | .above => "above" | .below => "below" | .level => "level" | .readings => "readings"
  | .lot => "lot" | .reply => "reply" | .low_level => "low_level" | .low_lot => "low_lot" | .high_level => "high_level" | .high_lot => "high_lot" | .bound => "bound" | .order => "order" | .gone => "gone"
  | .rack => "rack" | .start => "start" | .rows => "rows" | .many => "many" | .lines => "lines" | .past => "past" | .future => "future" | .rules => "rules" | .places => "places" | .first => "first" | .second => "second"
  | .number => "number" | .kind => "kind" | .text => "text" | .line => "line" | .row => "row" | .tick => "tick"
def Fd.all : List Fd := [.low, .high, .pieces, .name, .radius, .step, .late, .pace, .gauges, .groups, .written, .parts, .ranked, .place, .cut, .weights, .above, .below, .level, .readings, .lot, .reply,
  .low_level, .low_lot, .high_level, .high_lot, .bound, .order, .gone, .rack, .start, .rows, .many, .lines, .past, .future, .rules, .places, .first, .second, .number, .kind, .text, .line, .row, .tick]
def Fd.of (x : Str) : Option Fd := Fd.all.find? fun f => decide (f.str = x)
theorem Fd.of_str (f : Fd) : Fd.of f.str = some f := by
  cases f <;> decide +kernel
theorem Fd.inj {f g : Fd} (h : f.str = g.str) : f = g := by
  have e := Fd.of_str f
  rw [h, Fd.of_str g] at e
  exact (Option.some.inj e).symm

inductive D where
  | non | bl (b : Bool) | int (i : Int) | str (x : Str)
  | lst (l : List D) | tup (l : List D) | obj (c : Cl) (fs : List Fd) (ds : List D) | dic (ks : List Key) (ds : List D)
  | ptr (a : Addr) | scr (ns : List Int) | cls (c : Cl) | xcp (a : Addr) (d : Option Addr) (fs : List Fd) (ds : List D)

/-- an error that flies: its class, its fields -/
structure Exn where
  c : Ec
  fs : List Fd
  ds : List D

/-- where the classes stand -/
structure Gm where
  K : PySem.W.Frag
  ca : Cl → Addr
  ea : Ec → Addr

def zipF (fs : List Fd) (vs : List V) : List (Str × V) := (fs.map Fd.str).zip vs
def zipK (ks : List Key) (vs : List V) : List (Key × V) := ks.zip vs
/-- the fields of an error stand in its dict -/
def XFs (F : Hp) (d : Option Addr) (fs : List Fd) (vs : List V) : Prop := (∀ dd, d = some dd → ∃ vfs, F dd = some (.xd vfs)) ∧ ∀ (f : Fd) (w : V), (zipF fs vs).lookup f.str = some w → ∃ a vfs, d = some a ∧ F a = some (.xd vfs) ∧ vfs.lookup f.str = some w
theorem XFs.mono {F F' : Hp} {d : Option Addr} {fs : List Fd} {vs : List V} (h : XFs F d fs vs) (e : Same F F') : XFs F' d fs vs := ⟨fun dd q => by
  obtain ⟨vfs, h1⟩ := h.1 dd q
  exact ⟨vfs, e _ _ h1⟩, fun f w q => by
  obtain ⟨a, vfs, h1, h2, h3⟩ := h.2 f w q
  exact ⟨a, vfs, h1, e _ _ h2, h3⟩⟩

mutual
def Rep (g : Gm) (F : Hp) : D → V → Prop
  | .non, v => v = .non
  | .bl b, v => v = .bl b
  | .int i, v => v = .int i
  | .str x, v => v = .str x
  | .ptr a, v => v = .ref a
  | .cls c, v => v = .ref (g.ca c)
  | .scr ns, v => ∃ p, v = .ref p ∧ SqL g.K F p (ns.map V.int)
  | .lst ds, v => ∃ p vs, v = .ref p ∧ F p = some (.lst vs) ∧ Reps g F ds vs
  | .tup ds, v => ∃ p vs, v = .ref p ∧ (F p = some (.tup vs) ∨ vs = [] ∧ SqT g.K F p []) ∧ Reps g F ds vs
  | .obj c fs ds, v => ∃ p dx vs, v = .ref p ∧ F p = some (.ins (g.ca c) dx (zipF fs vs)) ∧ fs.length = ds.length ∧ Reps g F ds vs
  | .dic ks ds, v => ∃ p od vs, v = .ref p ∧ F p = some (.frz od (.dK (zipK ks vs))) ∧ ks.length = ds.length ∧ Reps g F ds vs
  | .xcp a d fs ds, v => v = .ref a ∧ ∃ vs, XFs F d fs vs ∧ Reps g F ds vs
def Reps (g : Gm) (F : Hp) : List D → List V → Prop
  | [], [] => True
  | d :: ds, v :: vs => Rep g F d v ∧ Reps g F ds vs
  | _, _ => False
end

theorem sqt_same {K : PySem.W.Frag} {H H' : Hp} {a : Addr} {xs : List V} (e : Same H H') (h : SqT K H a xs) : SqT K H' a xs := by
  rcases h with (h | ⟨o, h⟩) | h
  · exact .inl (.inl (e _ _ h))
  · exact .inl (.inr ⟨o, e _ _ h⟩)
  · exact .inr h

mutual
theorem Rep.mono {g : Gm} {F F' : Hp} (e : Same F F') : ∀ {d : D} {v : V}, Rep g F d v → Rep g F' d v
  | .non, _, h => by simpa only [Rep] using h
  | .bl _, _, h => by simpa only [Rep] using h
  | .int _, _, h => by simpa only [Rep] using h
  | .str _, _, h => by simpa only [Rep] using h
  | .ptr _, _, h => by simpa only [Rep] using h
  | .cls _, _, h => by simpa only [Rep] using h
  | .lst ds, v, h => by
    simp only [Rep] at h ⊢
    obtain ⟨p, vs, h1, h2, h3⟩ := h
    exact ⟨p, vs, h1, e _ _ h2, Reps.mono e h3⟩
  | .scr ns, v, h => by
    simp only [Rep] at h ⊢
    obtain ⟨p, h1, h2⟩ := h
    exact ⟨p, h1, e.seq h2⟩
  | .tup ds, v, h => by
    simp only [Rep] at h ⊢
    obtain ⟨p, vs, h1, h2, h3⟩ := h
    exact ⟨p, vs, h1, h2.imp (e _ _) fun z => ⟨z.1, sqt_same e z.2⟩, Reps.mono e h3⟩
  | .obj c fs ds, v, h => by
    simp only [Rep] at h ⊢
    obtain ⟨p, dx, vs, h1, h2, h3, h4⟩ := h
    exact ⟨p, dx, vs, h1, e _ _ h2, h3, Reps.mono e h4⟩
  | .dic ks ds, v, h => by
    simp only [Rep] at h ⊢
    obtain ⟨p, od, vs, h1, h2, h3, h4⟩ := h
    exact ⟨p, od, vs, h1, e _ _ h2, h3, Reps.mono e h4⟩
  | .xcp a d fs ds, v, h => by
    simp only [Rep] at h ⊢
    obtain ⟨h1, vs, h2, h3⟩ := h
    exact ⟨h1, vs, h2.mono e, Reps.mono e h3⟩
theorem Reps.mono {g : Gm} {F F' : Hp} (e : Same F F') : ∀ {ds : List D} {vs : List V}, Reps g F ds vs → Reps g F' ds vs
  | [], [], h => by simp only [Reps]
  | d :: ds, v :: vs, h => by
    simp only [Reps] at h ⊢
    exact ⟨Rep.mono e h.1, Reps.mono e h.2⟩
  | [], _ :: _, h => by simp only [Reps] at h
  | _ :: _, [], h => by simp only [Reps] at h
end

section
variable {g : Gm} {F : Hp}
theorem Rep.non_iff {v : V} : Rep g F .non v ↔ v = .non := by simp only [Rep]
theorem Rep.bl_iff {b : Bool} {v : V} : Rep g F (.bl b) v ↔ v = .bl b := by simp only [Rep]
theorem Rep.int_iff {i : Int} {v : V} : Rep g F (.int i) v ↔ v = .int i := by simp only [Rep]
theorem Rep.str_iff {x : Str} {v : V} : Rep g F (.str x) v ↔ v = .str x := by simp only [Rep]
theorem Rep.ptr_iff {a : Addr} {v : V} : Rep g F (.ptr a) v ↔ v = .ref a := by simp only [Rep]
theorem Rep.cls_iff {c : Cl} {v : V} : Rep g F (.cls c) v ↔ v = .ref (g.ca c) := by simp only [Rep]
theorem Rep.scr_iff {ns : List Int} {v : V} : Rep g F (.scr ns) v ↔ ∃ p, v = .ref p ∧ SqL g.K F p (ns.map V.int) := by simp only [Rep]
theorem Rep.lst_iff {ds : List D} {v : V} : Rep g F (.lst ds) v ↔ ∃ p vs, v = .ref p ∧ F p = some (.lst vs) ∧ Reps g F ds vs := by simp only [Rep]
theorem Rep.tup_iff {ds : List D} {v : V} : Rep g F (.tup ds) v ↔ ∃ p vs, v = .ref p ∧ (F p = some (.tup vs) ∨ vs = [] ∧ SqT g.K F p []) ∧ Reps g F ds vs := by simp only [Rep]
theorem Rep.tup_sq {ds : List D} {v : V} (h : Rep g F (.tup ds) v) : ∃ p vs, v = .ref p ∧ SqT g.K F p vs ∧ Reps g F ds vs := by
  obtain ⟨p, vs, h1, h2, h3⟩ := Rep.tup_iff.mp h
  rcases h2 with h2 | ⟨rfl, h2⟩
  · exact ⟨p, vs, h1, SqT.of h2, h3⟩
  · exact ⟨p, [], h1, h2, h3⟩
theorem Rep.obj_iff {c : Cl} {fs : List Fd} {ds : List D} {v : V} : Rep g F (.obj c fs ds) v ↔ ∃ p dx vs, v = .ref p ∧ F p = some (.ins (g.ca c) dx (zipF fs vs)) ∧ fs.length = ds.length ∧ Reps g F ds vs := by simp only [Rep]
theorem Rep.dic_iff {ks : List Key} {ds : List D} {v : V} : Rep g F (.dic ks ds) v ↔ ∃ p od vs, v = .ref p ∧ F p = some (.frz od (.dK (zipK ks vs))) ∧ ks.length = ds.length ∧ Reps g F ds vs := by simp only [Rep]
theorem Reps.nil : Reps g F [] [] := by simp only [Reps]
theorem Reps.cons {d : D} {v : V} {ds : List D} {vs : List V} (h : Rep g F d v) (r : Reps g F ds vs) : Reps g F (d :: ds) (v :: vs) := by
  simp only [Reps]
  exact ⟨h, r⟩
theorem Reps.nil_iff {vs : List V} : Reps g F [] vs ↔ vs = [] := by
  cases vs <;> simp only [Reps, reduceCtorEq]
theorem Reps.cons_iff {d : D} {ds : List D} {vs : List V} : Reps g F (d :: ds) vs ↔ ∃ v r, vs = v :: r ∧ Rep g F d v ∧ Reps g F ds r := by
  cases vs with
  | nil => simp [Reps]
  | cons v r =>
    simp only [Reps]
    constructor
    · intro h
      exact ⟨v, r, rfl, h.1, h.2⟩
    · rintro ⟨v1, r1, e, h1, h2⟩
      cases e
      exact ⟨h1, h2⟩
theorem Reps.length {ds : List D} : ∀ {vs : List V}, Reps g F ds vs → ds.length = vs.length := by
  induction ds with
  | nil =>
    intro vs h
    rw [Reps.nil_iff] at h
    rw [h]
    rfl
  | cons d ds ih =>
    intro vs h
    obtain ⟨v, r, rfl, _, h2⟩ := Reps.cons_iff.mp h
    rw [List.length_cons, List.length_cons, ih h2]
theorem Reps.get {ds : List D} : ∀ {vs : List V} {i : Nat} {d : D}, Reps g F ds vs → ds[i]? = some d → ∃ v, vs[i]? = some v ∧ Rep g F d v := by
  induction ds with
  | nil =>
    intro vs i d h e
    simp at e
  | cons d0 ds ih =>
    intro vs i d h e
    obtain ⟨v, r, rfl, h1, h2⟩ := Reps.cons_iff.mp h
    cases i with
    | zero =>
      simp at e
      subst e
      exact ⟨v, rfl, h1⟩
    | succ i =>
      simp at e
      obtain ⟨w, q1, q2⟩ := ih h2 e
      exact ⟨w, by simpa using q1, q2⟩
theorem Reps.append {ds es : List D} : ∀ {vs ws : List V}, Reps g F ds vs → Reps g F es ws → Reps g F (ds ++ es) (vs ++ ws) := by
  induction ds with
  | nil =>
    intro vs ws h h'
    rw [Reps.nil_iff] at h
    subst h
    exact h'
  | cons d ds ih =>
    intro vs ws h h'
    obtain ⟨v, r, rfl, h1, h2⟩ := Reps.cons_iff.mp h
    exact Reps.cons h1 (ih h2 h')
theorem Reps.take {ds : List D} : ∀ {vs : List V} (n : Nat), Reps g F ds vs → Reps g F (ds.take n) (vs.take n) := by
  induction ds with
  | nil =>
    intro vs n h
    rw [Reps.nil_iff] at h
    subst h
    simpa using Reps.nil
  | cons d ds ih =>
    intro vs n h
    obtain ⟨v, r, rfl, h1, h2⟩ := Reps.cons_iff.mp h
    cases n with
    | zero => exact Reps.nil
    | succ n => exact Reps.cons h1 (ih n h2)
theorem Reps.drop {ds : List D} : ∀ {vs : List V} (n : Nat), Reps g F ds vs → Reps g F (ds.drop n) (vs.drop n) := by
  induction ds with
  | nil =>
    intro vs n h
    rw [Reps.nil_iff] at h
    subst h
    simpa using Reps.nil
  | cons d ds ih =>
    intro vs n h
    obtain ⟨v, r, rfl, h1, h2⟩ := Reps.cons_iff.mp h
    cases n with
    | zero => exact Reps.cons h1 h2
    | succ n => exact ih n h2
theorem Reps.set {ds : List D} {d : D} {v : V} (hv : Rep g F d v) : ∀ {vs : List V} (n : Nat), Reps g F ds vs → Reps g F (ds.set n d) (vs.set n v) := by
  induction ds with
  | nil =>
    intro vs n h
    rw [Reps.nil_iff] at h
    subst h
    exact Reps.nil
  | cons d0 ds ih =>
    intro vs n h
    obtain ⟨w, r, rfl, h1, h2⟩ := Reps.cons_iff.mp h
    cases n with
    | zero => exact Reps.cons hv h2
    | succ n => exact Reps.cons h1 (ih n h2)
theorem Reps.reverse {ds : List D} : ∀ {vs : List V}, Reps g F ds vs → Reps g F ds.reverse vs.reverse := by
  induction ds with
  | nil =>
    intro vs h
    rw [Reps.nil_iff] at h
    subst h
    exact Reps.nil
  | cons d ds ih =>
    intro vs h
    obtain ⟨v, r, rfl, h1, h2⟩ := Reps.cons_iff.mp h
    rw [List.reverse_cons, List.reverse_cons]
    exact (ih h2).append (Reps.cons h1 Reps.nil)
theorem Reps.one {d : D} {v : V} (h : Rep g F d v) : Reps g F [d] [v] := Reps.cons h Reps.nil
theorem Reps.split {ds es : List D} : ∀ {vs : List V}, Reps g F (ds ++ es) vs → ∃ v1 v2, vs = v1 ++ v2 ∧ Reps g F ds v1 ∧ Reps g F es v2 := by
  induction ds with
  | nil =>
    intro vs h
    exact ⟨[], vs, rfl, Reps.nil, h⟩
  | cons d ds ih =>
    intro vs h
    obtain ⟨v, r, rfl, h1, h2⟩ := Reps.cons_iff.mp h
    obtain ⟨v1, v2, rfl, q1, q2⟩ := ih h2
    exact ⟨v :: v1, v2, rfl, Reps.cons h1 q1, q2⟩
theorem Reps.ints {ns : List Int} : ∀ {vs : List V}, Reps g F (ns.map D.int) vs ↔ vs = ns.map V.int := by
  induction ns with
  | nil => intro vs; exact Reps.nil_iff
  | cons n ns ih =>
    intro vs
    rw [List.map_cons, Reps.cons_iff]
    constructor
    · rintro ⟨v, r, rfl, h1, h2⟩
      rw [Rep.int_iff] at h1
      rw [ih] at h2
      rw [h1, h2]
      rfl
    · intro e
      subst e
      exact ⟨_, _, rfl, Rep.int_iff.mpr rfl, ih.mpr rfl⟩
theorem Reps.strs {ns : List Str} : ∀ {vs : List V}, Reps g F (ns.map D.str) vs ↔ vs = ns.map V.str := by
  induction ns with
  | nil => intro vs; exact Reps.nil_iff
  | cons n ns ih =>
    intro vs
    rw [List.map_cons, Reps.cons_iff]
    constructor
    · rintro ⟨v, r, rfl, h1, h2⟩
      rw [Rep.str_iff] at h1
      rw [ih] at h2
      rw [h1, h2]
      rfl
    · intro e
      subst e
      exact ⟨_, _, rfl, Rep.str_iff.mpr rfl, ih.mpr rfl⟩
theorem Reps.bls {ns : List Bool} : ∀ {vs : List V}, Reps g F (ns.map D.bl) vs ↔ vs = ns.map V.bl := by
  induction ns with
  | nil => intro vs; exact Reps.nil_iff
  | cons n ns ih =>
    intro vs
    rw [List.map_cons, Reps.cons_iff]
    constructor
    · rintro ⟨v, r, rfl, h1, h2⟩
      rw [Rep.bl_iff] at h1
      rw [ih] at h2
      rw [h1, h2]
      rfl
    · intro e
      subst e
      exact ⟨_, _, rfl, Rep.bl_iff.mpr rfl, ih.mpr rfl⟩
end

/-! ## fields -/
def getF (f : Fd) : List Fd → List D → Option D
  | h :: hs, d :: ds => if f = h then some d else getF f hs ds
  | _, _ => none
/-- a store into a field: the names, the values -/
def putFs (f : Fd) : List Fd → List Fd
  | [] => [f]
  | h :: hs => if f = h then h :: hs else h :: putFs f hs
def putDs (f : Fd) (d : D) : List Fd → List D → List D
  | h :: hs, e :: es => if f = h then d :: es else e :: putDs f d hs es
  | _, _ => [d]
theorem zipF_cons {h : Fd} {hs : List Fd} {v : V} {vs : List V} : zipF (h :: hs) (v :: vs) = (h.str, v) :: zipF hs vs := rfl
theorem getF_look {g : Gm} {F : Hp} {f : Fd} : ∀ {fs : List Fd} {ds : List D} {vs : List V} {d : D}, Reps g F ds vs → getF f fs ds = some d → ∃ v, (zipF fs vs).lookup f.str = some v ∧ Rep g F d v := by
  intro fs
  induction fs with
  | nil =>
    intro ds vs d h e
    cases ds <;> simp [getF] at e
  | cons h0 hs ih =>
    intro ds vs d h e
    cases ds with
    | nil => simp [getF] at e
    | cons d0 ds =>
      obtain ⟨v, r, rfl, h1, h2⟩ := Reps.cons_iff.mp h
      rw [zipF_cons, List.lookup_cons]
      by_cases q : f = h0
      · subst q
        simp [getF] at e
        subst e
        exact ⟨v, by simp, h1⟩
      · have q' : (f.str == h0.str) = false := by
          rw [beq_eq_false_iff_ne]
          exact fun z => q (Fd.inj z)
        rw [q']
        simp [getF, q] at e
        exact ih h2 e
theorem getF_none {f : Str} : ∀ {fs : List Fd} {vs : List V}, (∀ h ∈ fs, ¬ f = h.str) → (zipF fs vs).lookup f = none := by
  intro fs
  induction fs with
  | nil => intro vs _; rfl
  | cons h0 hs ih =>
    intro vs hn
    cases vs with
    | nil => rfl
    | cons v vs =>
      rw [zipF_cons, List.lookup_cons]
      have q' : (f == h0.str) = false := by
        rw [beq_eq_false_iff_ne]
        exact hn h0 List.mem_cons_self
      rw [q']
      exact ih fun h hh => hn h (List.mem_cons_of_mem _ hh)
theorem putF_zip {g : Gm} {F : Hp} {f : Fd} {d : D} {v : V} (hv : Rep g F d v) : ∀ {fs : List Fd} {ds : List D} {vs : List V}, fs.length = ds.length → Reps g F ds vs →
    ∃ ws, L2.putF f.str v (zipF fs vs) = zipF (putFs f fs) ws ∧ Reps g F (putDs f d fs ds) ws ∧ (putFs f fs).length = (putDs f d fs ds).length := by
  intro fs
  induction fs with
  | nil =>
    intro ds vs hl h
    cases ds with
    | nil =>
      rw [Reps.nil_iff] at h
      subst h
      exact ⟨[v], rfl, Reps.one hv, rfl⟩
    | cons d0 ds => simp at hl
  | cons h0 hs ih =>
    intro ds vs hl h
    cases ds with
    | nil => simp at hl
    | cons d0 ds =>
      obtain ⟨v0, r, rfl, h1, h2⟩ := Reps.cons_iff.mp h
      rw [zipF_cons]
      by_cases q : f = h0
      · subst q
        refine ⟨v :: r, ?_, ?_, ?_⟩
        · show (if f.str = f.str then _ else _) = _
          rw [if_pos rfl]
          simp [putFs, zipF_cons]
        · simp [putDs]
          exact Reps.cons hv h2
        · simp [putFs, putDs]
          simpa using hl
      · have hl' : hs.length = ds.length := by simpa using hl
        obtain ⟨ws, e1, e2, e3⟩ := ih hl' h2
        refine ⟨v0 :: ws, ?_, ?_, ?_⟩
        · show (if h0.str = f.str then _ else _) = _
          rw [if_neg (fun z => q (Fd.inj z).symm), e1]
          simp [putFs, q, zipF_cons]
        · simp [putDs, q]
          exact Reps.cons h1 e2
        · simp [putFs, putDs, q]
          exact e3

/-! ## owned cells -/
inductive Cell where
  | lst (ds : List D) | ins (c : Cl) (fs : List Fd) (ds : List D) | dic (ks : List Key) (ds : List D) | box
abbrev Sto := List (Addr × Cell)
def CRep (g : Gm) (F : Hp) : Cell → HO → Prop
  | .lst ds, .lst vs => Reps g F ds vs
  | .ins c fs ds, .ins C _ vfs => C = g.ca c ∧ fs.length = ds.length ∧ ∃ vs, vfs = zipF fs vs ∧ Reps g F ds vs
  | .dic ks ds, .dK kvs => ks.length = ds.length ∧ ∃ vs, kvs = zipK ks vs ∧ Reps g F ds vs
  | .box, .lst vs => ∃ (cs : List Int) (i a s : Int), Reps g F [.lst (cs.map D.int), .int i, .int a, .int s] vs ∧ cs.length ≤ 63 ∧ 0 ≤ i ∧ 0 ≤ a
  | _, _ => False
theorem CRep.mono {g : Gm} {F F' : Hp} (e : Same F F') : ∀ {c : Cell} {o : HO}, CRep g F c o → CRep g F' c o := by
  intro c o h
  cases c with
  | lst ds => cases o <;> first | exact Reps.mono e h | exact h.elim
  | ins c fs ds =>
    cases o with
    | ins C dx vfs =>
      obtain ⟨h1, h2, vs, h3, h4⟩ := h
      exact ⟨h1, h2, vs, h3, Reps.mono e h4⟩
    | _ => exact h.elim
  | dic ks ds =>
    cases o with
    | dK kvs =>
      obtain ⟨h2, vs, h3, h4⟩ := h
      exact ⟨h2, vs, h3, Reps.mono e h4⟩
    | _ => exact h.elim
  | box =>
    cases o with
    | lst vs =>
      obtain ⟨cs, i, a, s, h1, h2⟩ := h
      exact ⟨cs, i, a, s, Reps.mono e h1, h2⟩
    | _ => exact h.elim

def getC : Sto → Addr → Option Cell
  | [], _ => none
  | (b, c) :: r, a => if a = b then some c else getC r a
def setC : Sto → Addr → Cell → Sto
  | [], _, _ => []
  | (b, c0) :: r, a, c => if a = b then (b, c) :: r else (b, c0) :: setC r a c
def delC : Sto → Addr → Sto
  | [], _ => []
  | (b, c0) :: r, a => if a = b then r else (b, c0) :: delC r a
def freshC (O : Sto) (p : Addr) : Prop := ∀ q ∈ O, q.1 ≠ p

structure Wd (g : Gm) (F : Hp) (O : Sto) (H : Hp) : Prop where
  same : Same F H
  nd : (O.map (·.1)).Nodup
  cel : ∀ q ∈ O, F q.1 = none ∧ ∃ o, H q.1 = some o ∧ CRep g F q.2 o

theorem getC_mem {O : Sto} {a : Addr} {c : Cell} (h : getC O a = some c) : (a, c) ∈ O := by
  induction O with
  | nil => simp [getC] at h
  | cons q r ih =>
    obtain ⟨b, c0⟩ := q
    simp only [getC] at h
    by_cases e : a = b
    · subst e
      simp at h
      subst h
      exact List.mem_cons_self
    · rw [if_neg e] at h
      exact List.mem_cons_of_mem _ (ih h)
theorem same_upd {H : Hp} {p : Addr} {o : HO} (h : H p = none) : Same H (upd H p o) := fun a u e => by
  rw [upd_ne (ne_of_none e h)]
  exact e
theorem same_upd2 {F H : Hp} {p : Addr} {o : HO} (s : Same F H) (h : H p = none) : Same (upd F p o) (upd H p o) := fun a u e => by
  by_cases q : a = p
  · subst q
    rw [upd_same] at e ⊢
    exact e
  · rw [upd_ne q] at e ⊢
    exact s _ _ e
section
variable {g : Gm} {F : Hp} {O : Sto} {H : Hp}
theorem Wd.get (w : Wd g F O H) {a : Addr} {c : Cell} (h : getC O a = some c) : F a = none ∧ ∃ o, H a = some o ∧ CRep g F c o := w.cel _ (getC_mem h)
theorem Wd.fresh (w : Wd g F O H) {p : Addr} (h : H p = none) : freshC O p := fun q hq e => by
  obtain ⟨_, o, ho, _⟩ := w.cel q hq
  rw [e, h] at ho
  cases ho
/-- a new thing that stays as it is -/
theorem Wd.frozen (w : Wd g F O H) {p : Addr} {o : HO} (h : H p = none) : Wd g (upd F p o) O (upd H p o) := by
  have fp : F p = none := w.same.free h
  refine ⟨same_upd2 w.same h, w.nd, fun q hq => ?_⟩
  obtain ⟨h1, u, h2, h3⟩ := w.cel q hq
  have ne : q.1 ≠ p := ne_of_none h2 h
  exact ⟨by rw [upd_ne ne]; exact h1, u, by rw [upd_ne ne]; exact h2, h3.mono (same_upd fp)⟩
theorem Wd.fsame (w : Wd g F O H) {p : Addr} {o : HO} (h : H p = none) : Same F (upd F p o) := same_upd (w.same.free h)
/-- a new thing that is owned -/
theorem Wd.own (w : Wd g F O H) {p : Addr} {o : HO} {c : Cell} (h : H p = none) (hc : CRep g F c o) : Wd g F ((p, c) :: O) (upd H p o) := by
  refine ⟨w.same.trans (same_upd h), ?_, fun q hq => ?_⟩
  · rw [List.map_cons, List.nodup_cons]
    refine ⟨fun hm => ?_, w.nd⟩
    obtain ⟨q, hq, e⟩ := List.mem_map.mp hm
    exact w.fresh h q hq e
  · rcases List.mem_cons.mp hq with e | hq
    · subst e
      exact ⟨w.same.free h, o, upd_same, hc⟩
    · obtain ⟨h1, u, h2, h3⟩ := w.cel q hq
      exact ⟨h1, u, by rw [upd_ne (ne_of_none h2 h)]; exact h2, h3⟩
theorem setC_keys (O : Sto) (a : Addr) (c : Cell) : (setC O a c).map (·.1) = O.map (·.1) := by
  induction O with
  | nil => rfl
  | cons q r ih =>
    obtain ⟨b, c0⟩ := q
    simp only [setC]
    by_cases e : a = b
    · rw [if_pos e]
      rfl
    · rw [if_neg e]
      simp [ih]
theorem setC_mem : ∀ {O : Sto} {a : Addr} {c : Cell} {q : Addr × Cell}, (O.map (·.1)).Nodup → q ∈ setC O a c → q = (a, c) ∨ (q ∈ O ∧ q.1 ≠ a) := by
  intro O
  induction O with
  | nil => intro a c q _ h; simp [setC] at h
  | cons p r ih =>
    obtain ⟨b, c0⟩ := p
    intro a c q nd h
    rw [List.map_cons, List.nodup_cons] at nd
    simp only [setC] at h
    by_cases e : a = b
    · rw [if_pos e] at h
      rcases List.mem_cons.mp h with z | z
      · rw [e]
        exact .inl z
      · refine .inr ⟨List.mem_cons_of_mem _ z, fun y => nd.1 ?_⟩
        show b ∈ _
        rw [← e, ← y]
        exact List.mem_map_of_mem z
    · rw [if_neg e] at h
      rcases List.mem_cons.mp h with z | z
      · refine .inr ⟨by rw [z]; exact List.mem_cons_self, ?_⟩
        rw [z]
        exact fun y => e y.symm
      · rcases ih nd.2 z with y | ⟨y1, y2⟩
        · exact .inl y
        · exact .inr ⟨List.mem_cons_of_mem _ y1, y2⟩
/-- an owned thing changes -/
theorem Wd.set (w : Wd g F O H) {a : Addr} {c c' : Cell} {o : HO} (h : getC O a = some c) (hc : CRep g F c' o) : Wd g F (setC O a c') (upd H a o) := by
  obtain ⟨fa, _⟩ := w.get h
  refine ⟨fun b u e => ?_, by rw [setC_keys]; exact w.nd, fun q hq => ?_⟩
  · rw [upd_ne (ne_of_none e fa)]
    exact w.same _ _ e
  · rcases setC_mem w.nd hq with e | ⟨e1, e2⟩
    · subst e
      exact ⟨fa, o, upd_same, hc⟩
    · obtain ⟨h1, u, h2, h3⟩ := w.cel q e1
      exact ⟨h1, u, by rw [upd_ne e2]; exact h2, h3⟩
theorem Wd.sub (w : Wd g F O H) {O' : Sto} (s : O'.Sublist O) : Wd g F O' H :=
  ⟨w.same, (s.map _).nodup w.nd, fun q hq => w.cel q (s.subset hq)⟩
theorem delC_sub (O : Sto) (a : Addr) : (delC O a).Sublist O := by
  induction O with
  | nil => exact .slnil
  | cons p r ih =>
    obtain ⟨b, c0⟩ := p
    simp only [delC]
    by_cases e : a = b
    · rw [if_pos e]
      exact List.sublist_cons_self _ _
    · rw [if_neg e]
      exact ih.cons_cons _
theorem delC_ne : ∀ {O : Sto} {a : Addr} {q : Addr × Cell}, (O.map (·.1)).Nodup → q ∈ delC O a → q.1 ≠ a := by
  intro O
  induction O with
  | nil => intro a q _ h; simp [delC] at h
  | cons p r ih =>
    obtain ⟨b, c0⟩ := p
    intro a q nd h
    rw [List.map_cons, List.nodup_cons] at nd
    simp only [delC] at h
    by_cases e : a = b
    · rw [if_pos e] at h
      intro y
      refine nd.1 ?_
      show b ∈ _
      rw [← e, ← y]
      exact List.mem_map_of_mem h
    · rw [if_neg e] at h
      rcases List.mem_cons.mp h with z | z
      · rw [z]
        exact fun y => e y.symm
      · exact ih nd.2 z
/-- an owned thing is let go: from now on it stays as it is -/
theorem Wd.freeze (w : Wd g F O H) {a : Addr} {c : Cell} (h : getC O a = some c) : ∃ o, H a = some o ∧ CRep g F c o ∧ Same F (upd F a o) ∧ Wd g (upd F a o) (delC O a) H := by
  obtain ⟨fa, o, ho, hc⟩ := w.get h
  refine ⟨o, ho, hc, same_upd fa, fun b u e => ?_, (w.sub (delC_sub O a)).nd, fun q hq => ?_⟩
  · by_cases z : b = a
    · subst z
      rw [upd_same] at e
      cases e
      exact ho
    · rw [upd_ne z] at e
      exact w.same _ _ e
  · obtain ⟨h1, u, h2, h3⟩ := w.cel q ((delC_sub O a).subset hq)
    have ne : q.1 ≠ a := delC_ne w.nd hq
    exact ⟨by rw [upd_ne ne]; exact h1, u, h2, h3.mono (same_upd fa)⟩
/-- an owned dict is let go: from now on it stays as it is, locked -/
theorem Wd.freezeL (w : Wd g F O H) {a : Addr} {ks : List Key} {ds : List D} (h : getC O a = some (.dic ks ds)) : ∃ vs, H a = some (.dK (zipK ks vs)) ∧ ∀ od, Same F (upd F a (.frz od (.dK (zipK ks vs)))) ∧ Wd g (upd F a (.frz od (.dK (zipK ks vs)))) (delC O a) (upd H a (.frz od (.dK (zipK ks vs)))) ∧ Rep g (upd F a (.frz od (.dK (zipK ks vs)))) (.dic ks ds) (.ref a) := by
  obtain ⟨fa, o, ho, hc⟩ := w.get h
  cases o with
  | dK kvs =>
    obtain ⟨h2, vs, rfl, h4⟩ := hc
    refine ⟨vs, ho, fun od => ⟨same_upd fa, ⟨fun b u e => ?_, (w.sub (delC_sub O a)).nd, fun q hq => ?_⟩, Rep.dic_iff.mpr ⟨a, od, vs, rfl, upd_same, h2, h4.mono (same_upd fa)⟩⟩⟩
    · by_cases z : b = a
      · subst z
        rw [upd_same] at e ⊢
        exact e
      · rw [upd_ne z] at e ⊢
        exact w.same _ _ e
    · obtain ⟨h1, u, h2, h3⟩ := w.cel q ((delC_sub O a).subset hq)
      have ne : q.1 ≠ a := delC_ne w.nd hq
      exact ⟨by rw [upd_ne ne]; exact h1, u, by rw [upd_ne ne]; exact h2, h3.mono (same_upd fa)⟩
  | _ => exact hc.elim
end
end G

set_option Elab.async false
set_option linter.all false
set_option maxRecDepth 100000
set_option maxHeartbeats 4000000
namespace G
open PySem L2

/-! ## transformers over plain data -/
abbrev Sl := List (Option D)
abbrev KD := D → Sto → Prop
abbrev KX := Exn → Sto → Prop
abbrev DE := Sl → Sto → KD → KX → Prop
abbrev DT := Sl → Sto → (Bool → Sto → Prop) → KX → Prop
abbrev DA := Sl → Sto → (List D → Sto → Prop) → KX → Prop
structure DEnds where
  nx : Sl → Sto → Prop
  rt : KD
  bk : Sl → Sto → Prop := fun _ _ => False
  ct : Sl → Sto → Prop := fun _ _ => False
  xc : Exn → Sl → Sto → Prop := fun _ _ _ => False
abbrev DS := DEnds → Sl → Sto → Prop

def SRel (g : Gm) (F : Hp) (σ : St) (Δ : Sl) : Prop := σ.length = Δ.length ∧ ∀ (i : Nat) (d : D), Δ[i]? = some (some d) → ∃ v, σ[i]? = some (some v) ∧ Rep g F d v
theorem SRel.mono {g : Gm} {F F' : Hp} {σ : St} {Δ : Sl} (h : SRel g F σ Δ) (e : Same F F') : SRel g F' σ Δ := ⟨h.1, fun i d q => by
  obtain ⟨v, h1, h2⟩ := h.2 i d q
  exact ⟨v, h1, h2.mono e⟩⟩
theorem SRel.set {g : Gm} {F : Hp} {σ : St} {Δ : Sl} (h : SRel g F σ Δ) {d : D} {v : V} (hv : Rep g F d v) (i : Nat) : SRel g F (σ.set i (some v)) (Δ.set i (some d)) := by
  refine ⟨by rw [List.length_set, List.length_set, h.1], fun j e q => ?_⟩
  rw [List.getElem?_set] at q ⊢
  by_cases z : i = j
  · subst z
    rw [if_pos rfl] at q ⊢
    by_cases y : i < Δ.length
    · rw [if_pos y] at q
      rw [if_pos (by rw [h.1]; exact y)]
      cases q
      exact ⟨v, rfl, hv⟩
    · rw [if_neg y] at q
      cases q
  · rw [if_neg z] at q ⊢
    exact h.2 j e q

def RelX (g : Gm) (F : Hp) (cls : Value) (dd : Option Addr) (x : Exn) : Prop := cls = .ref (g.ea x.c) ∧ ∃ vs, XFs F dd x.fs vs ∧ Reps g F x.ds vs
theorem RelX.mono {g : Gm} {F F' : Hp} {cls : Value} {dd : Option Addr} {x : Exn} (h : RelX g F cls dd x) (e : Same F F') : RelX g F' cls dd x := by
  obtain ⟨h1, vs, h2, h3⟩ := h
  exact ⟨h1, vs, h2.mono e, h3.mono e⟩

/-- what is wanted of an error, over plain data and over the heap -/
def XOk (g : Gm) (F : Hp) (W : WX) (σ : St) (E : KX) : Prop := ∀ x O cls dd F' H, E x O → Same F F' → Wd g F' O H → RelX g F' cls dd x → W cls dd σ H
theorem XOk.mono {g : Gm} {F F' : Hp} {W : WX} {σ : St} {E : KX} (h : XOk g F W σ E) (e : Same F F') : XOk g F' W σ E := fun x O cls dd F1 H q s w r => h x O cls dd F1 H q (e.trans s) w r
def VOk (g : Gm) (F : Hp) (P : KD) (Q : VK) : Prop := ∀ d O v F' H, P d O → Same F F' → Wd g F' O H → Rep g F' d v → Q v H
theorem VOk.mono {g : Gm} {F F' : Hp} {P : KD} {Q : VK} (h : VOk g F P Q) (e : Same F F') : VOk g F' P Q := fun d O v F1 H q s w r => h d O v F1 H q (e.trans s) w r
def BOk (g : Gm) (F : Hp) (P : Bool → Sto → Prop) (Q : Bool → Hp → Prop) : Prop := ∀ b O F' H, P b O → Same F F' → Wd g F' O H → Q b H
theorem BOk.mono {g : Gm} {F F' : Hp} {P : Bool → Sto → Prop} {Q : Bool → Hp → Prop} (h : BOk g F P Q) (e : Same F F') : BOk g F' P Q := fun d O F1 H q s w => h d O F1 H q (e.trans s) w
def AOk (g : Gm) (F : Hp) (P : List D → Sto → Prop) (Q : List V → Hp → Prop) : Prop := ∀ ds O vs F' H, P ds O → Same F F' → Wd g F' O H → Reps g F' ds vs → Q vs H
theorem AOk.mono {g : Gm} {F F' : Hp} {P : List D → Sto → Prop} {Q : List V → Hp → Prop} (h : AOk g F P Q) (e : Same F F') : AOk g F' P Q := fun d O v F1 H q s w r => h d O v F1 H q (e.trans s) w r

def le (g : Gm) (W : WX) (T : DE) : TE := fun σ H Q => ∃ Δ O P E F, T Δ O P E ∧ SRel g F σ Δ ∧ Wd g F O H ∧ VOk g F P Q ∧ XOk g F W σ E
def lt (g : Gm) (W : WX) (T : DT) : TT := fun σ H Q => ∃ Δ O P E F, T Δ O P E ∧ SRel g F σ Δ ∧ Wd g F O H ∧ BOk g F P Q ∧ XOk g F W σ E
def la (g : Gm) (W : WX) (T : DA) : TA := fun σ H Q => ∃ Δ O P E F, T Δ O P E ∧ SRel g F σ Δ ∧ Wd g F O H ∧ AOk g F P Q ∧ XOk g F W σ E
structure EOk (g : Gm) (F : Hp) (W : WX) (D : DEnds) (E : Ends) : Prop where
  nx : ∀ Δ O F' σ H, D.nx Δ O → Same F F' → SRel g F' σ Δ → Wd g F' O H → E.nx σ H
  rt : VOk g F D.rt E.rt
  bk : ∀ Δ O F' σ H, D.bk Δ O → Same F F' → SRel g F' σ Δ → Wd g F' O H → E.bk σ H
  ct : ∀ Δ O F' σ H, D.ct Δ O → Same F F' → SRel g F' σ Δ → Wd g F' O H → E.ct σ H
  xc : ∀ x Δ O cls dd F' σ H, D.xc x Δ O → Same F F' → SRel g F' σ Δ → Wd g F' O H → RelX g F' cls dd x → W cls dd σ H
theorem EOk.mono {g : Gm} {F F' : Hp} {W : WX} {D : DEnds} {E : Ends} (h : EOk g F W D E) (e : Same F F') : EOk g F' W D E :=
  ⟨fun Δ O F1 σ H q s => h.nx Δ O F1 σ H q (e.trans s), h.rt.mono e, fun Δ O F1 σ H q s => h.bk Δ O F1 σ H q (e.trans s), fun Δ O F1 σ H q s => h.ct Δ O F1 σ H q (e.trans s), fun x Δ O c d F1 σ H q s => h.xc x Δ O c d F1 σ H q (e.trans s)⟩
def ls (g : Gm) (W : WX) (T : DS) : TS := fun E σ H => ∃ D Δ O F, T D Δ O ∧ SRel g F σ Δ ∧ Wd g F O H ∧ EOk g F W D E

theorem pe_imp {X : Cx} {e : Expr} {t t' : TE} (h : PE X e t) (k : ∀ σ H Q, t' σ H Q → t σ H Q) : PE X e t' := ⟨fun pins s σ H Q I q => h.run pins s σ H Q I (k _ _ _ q)⟩
theorem pt_imp {X : Cx} {e : Expr} {t t' : TT} (h : PT X e t) (k : ∀ σ H Q, t' σ H Q → t σ H Q) : PT X e t' := ⟨fun pins s σ H Q I q => h.run pins s σ H Q I (k _ _ _ q)⟩
theorem pw_imp {X : Cx} {e : Expr} {t t' : TT} (h : PW X e t) (k : ∀ σ H Q, t' σ H Q → t σ H Q) : PW X e t' := ⟨fun w pins s σ H Q I q => h.run w pins s σ H Q I (k _ _ _ q)⟩
theorem pa_imp {X : Cx} {e : List Expr} {t t' : TA} (h : PA X e t) (k : ∀ σ H Q, t' σ H Q → t σ H Q) : PA X e t' := ⟨fun pos pins s σ H Q I q => h.run pos pins s σ H Q I (k _ _ _ q)⟩
theorem ps_imp {X : Cx} {e : Stmt} {t t' : TS} (h : PS X e t) (k : ∀ D σ H, t' D σ H → t D σ H) : PS X e t' := ⟨fun pins s σ H D I q => h.run pins s σ H D I (k _ _ _ q)⟩
theorem pss_imp {X : Cx} {e : List Stmt} {t t' : TS} (h : PSs X e t) (k : ∀ D σ H, t' D σ H → t D σ H) : PSs X e t' := ⟨fun pins s σ H D I q => h.run pins s σ H D I (k _ _ _ q)⟩

section
variable {g : Gm} {W : WX} {σ : St} {H : Hp} {Δ : Sl} {O : Sto} {F : Hp}
/-- go on behind an expression -/
theorem le_bind {T : DE} {P : KD} {E : KX} {Q : VK} (hT : T Δ O P E) (sr : SRel g F σ Δ) (w : Wd g F O H) (x : XOk g F W σ E)
    (k : ∀ d O1 v F1 H1, P d O1 → Same F F1 → SRel g F1 σ Δ → Wd g F1 O1 H1 → Rep g F1 d v → XOk g F1 W σ E → Q v H1) : le g W T σ H Q :=
  ⟨Δ, O, P, E, F, hT, sr, w, fun d O1 v F1 H1 hp s w1 r => k d O1 v F1 H1 hp s (sr.mono s) w1 r (x.mono s), x⟩
theorem lt_bind {T : DT} {P : Bool → Sto → Prop} {E : KX} {Q : Bool → Hp → Prop} (hT : T Δ O P E) (sr : SRel g F σ Δ) (w : Wd g F O H) (x : XOk g F W σ E)
    (k : ∀ b O1 F1 H1, P b O1 → Same F F1 → SRel g F1 σ Δ → Wd g F1 O1 H1 → XOk g F1 W σ E → Q b H1) : lt g W T σ H Q :=
  ⟨Δ, O, P, E, F, hT, sr, w, fun d O1 F1 H1 hp s w1 => k d O1 F1 H1 hp s (sr.mono s) w1 (x.mono s), x⟩
theorem la_bind {T : DA} {P : List D → Sto → Prop} {E : KX} {Q : List V → Hp → Prop} (hT : T Δ O P E) (sr : SRel g F σ Δ) (w : Wd g F O H) (x : XOk g F W σ E)
    (k : ∀ ds O1 vs F1 H1, P ds O1 → Same F F1 → SRel g F1 σ Δ → Wd g F1 O1 H1 → Reps g F1 ds vs → XOk g F1 W σ E → Q vs H1) : la g W T σ H Q :=
  ⟨Δ, O, P, E, F, hT, sr, w, fun d O1 v F1 H1 hp s w1 r => k d O1 v F1 H1 hp s (sr.mono s) w1 r (x.mono s), x⟩
theorem VOk.now {P : KD} {Q : VK} (h : VOk g F P Q) {d : D} {v : V} (hp : P d O) (w : Wd g F O H) (r : Rep g F d v) : Q v H := h d O v F H hp (Same.refl F) w r
theorem BOk.now {P : Bool → Sto → Prop} {Q : Bool → Hp → Prop} (h : BOk g F P Q) {b : Bool} (hp : P b O) (w : Wd g F O H) : Q b H := h b O F H hp (Same.refl F) w
theorem AOk.now {P : List D → Sto → Prop} {Q : List V → Hp → Prop} (h : AOk g F P Q) {ds : List D} {vs : List V} (hp : P ds O) (w : Wd g F O H) (r : Reps g F ds vs) : Q vs H := h ds O vs F H hp (Same.refl F) w r
end

section
variable {g : Gm} {X : Cx} {W : WX} {pos : Pos} {a b c : Expr}

/-! ### names, constants -/
def dVar (i : Nat) : DE := fun Δ O P _ => match Δ[i]? with | some (some d) => P d O | _ => False
theorem q_var (i : Nat) {x : Str} (hN : X.N[i]? = some x := by rfl) (hv : Vis X.env.scope x := by first | exact Or.inl rfl | exact Or.inr (Or.inl rfl) | exact Or.inr (Or.inr rfl)) (hd : (x == ("__debug__" : Str)) = false := by decide)
    (hcd : (x == ("__classdict__" : Str)) = false := by decide) : PE X (.Name x pos) (le g W (dVar i)) := by
  refine pe_imp (pe_var (i := i) hN hv hd hcd) fun σ H Q h => ?_
  obtain ⟨Δ, O, P, E, F, hT, sr, w, hv, hx⟩ := h
  unfold dVar at hT
  split at hT
  · rename_i d e
    obtain ⟨v, e1, r⟩ := sr.2 i d e
    exact ⟨v, e1, hv.now hT w r⟩
  · exact hT.elim
def dC (d : D) : DE := fun _ O P _ => P d O
theorem q_int {i : Int} {j : Nat} : PE X (.Constant (.int i) j pos) (le g W (dC (.int i))) := pe_imp pe_int fun σ H Q ⟨Δ, O, P, E, F, hT, sr, w, hv, hx⟩ => hv.now (d := .int i) hT w (Rep.int_iff.mpr rfl)
theorem q_bl {i : Bool} {j : Nat} : PE X (.Constant (.bool i) j pos) (le g W (dC (.bl i))) := pe_imp pe_bl fun σ H Q ⟨Δ, O, P, E, F, hT, sr, w, hv, hx⟩ => hv.now (d := .bl i) hT w (Rep.bl_iff.mpr rfl)
/-! ### operators -/
abbrev B2 := D → D → Sto → KD → Prop
def dOp (f : B2) (Ta Tb : DE) : DE := fun Δ O P E => Ta Δ O (fun x O1 => Tb Δ O1 (fun y O2 => f x y O2 P) E) E
def Lk2 (g : Gm) (r : R2) (f : B2) : Prop := ∀ x y O P F H vx vy Q, f x y O P → Rep g F x vx → Rep g F y vy → Wd g F O H → VOk g F P Q → r vx vy H Q
theorem top_of {r : R2} {f : B2} {Ta Tb : DE} (lk : Lk2 g r f) {σ : St} {H : Hp} {Q : VK} (h : le g W (dOp f Ta Tb) σ H Q) : tOp r (le g W Ta) (le g W Tb) σ H Q := by
  obtain ⟨Δ, O, P, E, F, hT, sr, w, hv, hx⟩ := h
  refine le_bind hT sr w hx fun x O1 vx F1 H1 hT1 s1 sr1 w1 rx hx1 => le_bind hT1 sr1 w1 hx1 fun y O2 vy F2 H2 hT2 s2 sr2 w2 ry hx2 => ?_
  exact lk x y O2 P F2 H2 vx vy Q hT2 (rx.mono s2) ry w2 (hv.mono (s1.trans s2))
theorem q_op {op : Operator} {r : R2} {f : B2} {Ta Tb : DE} (ho : OpR X (binaryOp op) r) (lk : Lk2 g r f) (ha : PE X a (le g W Ta)) (hb : PE X b (le g W Tb)) : PE X (.BinOp a op b pos) (le g W (dOp f Ta Tb)) :=
  pe_imp (pe_op ho ha hb) fun σ H Q h => top_of lk h
theorem q_cmp {op : CmpOp} {r : R2} {f : B2} {Ta Tb : DE} (ho : OpR X (compareOp op) r) (lk : Lk2 g r f) (ha : PE X a (le g W Ta)) (hb : PE X b (le g W Tb)) (hm : behindInMarks op b = false) : PE X (.Compare a [op] [b] pos) (le g W (dOp f Ta Tb)) :=
  pe_imp (pe_cmpR ho ha hb hm) fun σ H Q h => top_of lk h
def dTe (T : DE) : DT := fun Δ O P E => T Δ O (fun d O1 => match d with | .bl k => P k O1 | _ => False) E
theorem test_of {T : DE} {σ : St} {H : Hp} {Q : Bool → Hp → Prop} (h : lt g W (dTe T) σ H Q) : le g W T σ H fun x H' => ∃ k, x = .bl k ∧ Q k H' := by
  obtain ⟨Δ, O, P, E, F, hT, sr, w, hv, hx⟩ := h
  refine le_bind hT sr w hx fun x O1 vx F1 H1 hT1 s1 sr1 w1 rx hx1 => ?_
  cases x with
  | bl k => exact ⟨k, Rep.bl_iff.mp rx, (hv.mono s1).now hT1 w1⟩
  | _ => exact hT1.elim
theorem qt_cmp {op : CmpOp} {r : R2} {f : B2} {Ta Tb : DE} (ho : OpR X (compareOp op) r) (lk : Lk2 g r f) (ha : PE X a (le g W Ta)) (hb : PE X b (le g W Tb)) (hm : behindInMarks op b = false) : PT X (.Compare a [op] [b] pos) (lt g W (dTe (dOp f Ta Tb))) :=
  pt_imp (pt_cmpR ho ha hb hm) fun σ H Q h => top_of lk (test_of h)
theorem qt_val {T : DE} (h : PE X a (le g W T)) (he : ∀ whole, isTrue a X.env whole = (do let v ← whole; standAt a.pos; holding [v] (truthy v)) := by intro _; rfl) : PT X a (lt g W (dTe T)) :=
  pt_imp (pt_val h he) fun σ H Q h => test_of h
/-- a < b < c -/
def dChain (f f' : B2) (Ta Tb Tc : DE) : DE := fun Δ O P E => Ta Δ O (fun x O1 => Tb Δ O1 (fun y O2 => f x y O2 (fun z O3 => match z with | .bl k => (if k = true then Tc Δ O3 (fun t O4 => f' y t O4 P) E else P (.bl false) O3) | _ => False)) E) E
theorem tchain_of {r r' : R2} {f f' : B2} {Ta Tb Tc : DE} (lk : Lk2 g r f) (lk' : Lk2 g r' f') {σ : St} {H : Hp} {Q : VK} (h : le g W (dChain f f' Ta Tb Tc) σ H Q) : tChain r r' (le g W Ta) (le g W Tb) (le g W Tc) σ H Q := by
  obtain ⟨Δ, O, P, E, F, hT, sr, w, hv, hx⟩ := h
  refine le_bind hT sr w hx fun x O1 vx F1 H1 hT1 s1 sr1 w1 rx hx1 => le_bind hT1 sr1 w1 hx1 fun y O2 vy F2 H2 hT2 s2 sr2 w2 ry hx2 => ?_
  refine lk x y O2 _ F2 H2 vx vy _ hT2 (rx.mono s2) ry w2 fun z O3 vz F3 H3 hT3 s3 w3 rz => ?_
  cases z with
  | bl k =>
    refine ⟨k, Rep.bl_iff.mp rz, ?_⟩
    cases k with
    | true =>
      rw [if_pos rfl]
      have hT3 : Tc Δ O3 (fun t O4 => f' y t O4 P) E := by simpa using hT3
      refine le_bind hT3 (sr2.mono s3) w3 (hx2.mono s3) fun t O4 vt F4 H4 hT4 s4 sr4 w4 rt hx4 => ?_
      exact lk' y t O4 P F4 H4 vy vt Q hT4 (ry.mono (s3.trans s4)) rt w4 (hv.mono (s1.trans (s2.trans (s3.trans s4))))
    | false =>
      rw [if_neg Bool.false_ne_true]
      have hT3 : P (.bl false) O3 := by simpa using hT3
      exact hv _ _ _ _ _ hT3 (s1.trans (s2.trans s3)) w3 (Rep.bl_iff.mpr rfl)
  | _ => exact hT3.elim
theorem q_chain {op op' : CmpOp} {r r' : R2} {f f' : B2} {Ta Tb Tc : DE} (ho : OpR X (compareOp op) r) (ho' : OpR X (compareOp op') r') (lk : Lk2 g r f) (lk' : Lk2 g r' f') (ha : PE X a (le g W Ta)) (hb : PE X b (le g W Tb)) (hc : PE X c (le g W Tc))
    (hm : lastMarks [op, op'] [b, c] = false := by with_unfolding_all rfl) : PE X (.Compare a [op, op'] [b, c] pos) (le g W (dChain f f' Ta Tb Tc)) :=
  pe_imp (pe_chain ho ho' ha hb hc hm) fun σ H Q h => tchain_of lk lk' h
theorem qt_chain {op op' : CmpOp} {r r' : R2} {f f' : B2} {Ta Tb Tc : DE} (ho : OpR X (compareOp op) r) (ho' : OpR X (compareOp op') r') (lk : Lk2 g r f) (lk' : Lk2 g r' f') (ha : PE X a (le g W Ta)) (hb : PE X b (le g W Tb)) (hc : PE X c (le g W Tc))
    (hm : lastMarks [op, op'] [b, c] = false := by with_unfolding_all rfl) : PT X (.Compare a [op, op'] [b, c] pos) (lt g W (dTe (dChain f f' Ta Tb Tc))) :=
  pt_imp (pt_chain ho ho' ha hb hc hm) fun σ H Q h => tchain_of lk lk' (test_of h)

/-! ### truth, and, or, not -/
def truD (O : Sto) : D → Option Bool
  | .non => some false
  | .bl b => some b
  | .int i => some (i != 0)
  | .str x => if x.length ≤ sizeLine then some ((x.length : Int) != 0) else none
  | .lst ds => some (!ds.isEmpty)
  | .tup ds => some (!ds.isEmpty)
  | .ptr a => match getC O a with
    | some (.lst ds) => some (!ds.isEmpty)
    | some (.dic ks _) => some (!ks.isEmpty)
    | _ => none
  | _ => none
theorem empty_of {F : Hp} {ds : List D} {vs : List V} (h : Reps g F ds vs) : ds.isEmpty = vs.isEmpty := by
  have e := h.length
  cases ds <;> cases vs <;> simp_all
theorem empty_zipK {F : Hp} {ks : List Key} {ds : List D} {vs : List V} (h : Reps g F ds vs) (hl : ks.length = ds.length) : ks.isEmpty = (zipK ks vs).isEmpty := by
  have e := h.length
  cases ks <;> cases vs <;> simp_all [zipK]
theorem tru_of {F : Hp} {O : Sto} {H : Hp} {d : D} {v : V} {k : Bool} (h : truD O d = some k) (r : Rep g F d v) (w : Wd g F O H) : TruV g.K v H k := by
  cases d with
  | non => rw [Rep.non_iff.mp r]; exact (Option.some.inj h).symm
  | bl b => rw [Rep.bl_iff.mp r]; exact (Option.some.inj h).symm
  | int b => rw [Rep.int_iff.mp r]; exact (Option.some.inj h).symm
  | str x =>
    rw [Rep.str_iff.mp r]
    simp only [truD] at h
    split at h
    · rename_i hl
      exact ⟨hl, (Option.some.inj h).symm⟩
    · cases h
  | lst ds =>
    obtain ⟨p, vs, rfl, h1, h2⟩ := Rep.lst_iff.mp r
    simp only [truD] at h
    exact .inl ⟨vs, SqL.of (w.same _ _ h1), by rw [← empty_of h2]; exact (Option.some.inj h).symm⟩
  | tup ds =>
    obtain ⟨p, vs, rfl, h1, h2⟩ := Rep.tup_sq r
    simp only [truD] at h
    exact .inr (.inl ⟨vs, sqt_same w.same h1, by rw [← empty_of h2]; exact (Option.some.inj h).symm⟩)
  | ptr a =>
    rw [Rep.ptr_iff] at r
    subst r
    simp only [truD] at h
    split at h
    · rename_i ds e
      obtain ⟨_, o, h1, h2⟩ := w.get e
      cases o with
      | lst vs =>
        exact .inl ⟨vs, SqL.of h1, by rw [← empty_of (show Reps g F ds vs from h2)]; exact (Option.some.inj h).symm⟩
      | _ => exact h2.elim
    · rename_i ks ds e
      obtain ⟨_, o, h1, h2⟩ := w.get e
      cases o with
      | dK kvs =>
        obtain ⟨h3, vs, rfl, h4⟩ := h2
        exact .inr (.inr ⟨_, h1, by rw [← empty_zipK h4 h3]; exact (Option.some.inj h).symm⟩)
      | _ => exact h2.elim
    · cases h
  | _ => simp [truD] at h
end
end G

set_option Elab.async false
set_option linter.all false
set_option maxRecDepth 100000
set_option maxHeartbeats 4000000
namespace G
open PySem L2
section
variable {g : Gm} {X : Cx} {W : WX} {pos : Pos} {a b c : Expr}
/-! ### tests -/
def dTru (T : DE) : DT := fun Δ O P E => T Δ O (fun d O1 => match truD O1 d with | some k => P k O1 | none => False) E
theorem qt_tru {T : DE} (h : PE X a (le g W T)) (hK : X.K = g.K := by rfl) (he : ∀ whole, isTrue a X.env whole = (do let v ← whole; standAt a.pos; holding [v] (truthy v)) := by intro _; rfl) : PT X a (lt g W (dTru T)) := by
  refine pt_imp (pt_truth h he) fun σ H Q h => ?_
  obtain ⟨Δ, O, P, E, F, hT, sr, w, hv, hx⟩ := h
  refine le_bind hT sr w hx fun x O1 vx F1 H1 hT1 s1 sr1 w1 rx hx1 => ?_
  split at hT1
  · rename_i k e
    exact ⟨k, by rw [hK]; exact tru_of e rx w1, (hv.mono s1).now hT1 w1⟩
  · exact hT1.elim
def dAnd (t u : DT) : DT := fun Δ O P E => t Δ O (fun k O1 => if k = true then u Δ O1 P E else P false O1) E
def dOr (t u : DT) : DT := fun Δ O P E => t Δ O (fun k O1 => if k = true then P true O1 else u Δ O1 P E) E
def dNot (t : DT) : DT := fun Δ O P E => t Δ O (fun k O1 => P (!k) O1) E
variable {tA tB : DT} {rest : List Expr} {Ta Tb : DE}
theorem qw_and1 (ha : PT X a (lt g W tA)) : PW X (.BoolOp .And [a] pos) (lt g W tA) := pw_and1 ha
theorem qw_or1 (ha : PT X a (lt g W tA)) : PW X (.BoolOp .Or [a] pos) (lt g W tA) := pw_or1 ha
theorem qw_and (ha : PT X a (lt g W tA)) (hb : PW X (.BoolOp .And (b :: rest) pos) (lt g W tB)) : PW X (.BoolOp .And (a :: b :: rest) pos) (lt g W (dAnd tA tB)) := by
  refine pw_imp (pw_and ha hb) fun σ H Q h => ?_
  obtain ⟨Δ, O, P, E, F, hT, sr, w, hv, hx⟩ := h
  refine lt_bind hT sr w hx fun k O1 F1 H1 hT1 s1 sr1 w1 hx1 => ?_
  cases k with
  | true =>
    rw [if_pos rfl] at hT1 ⊢
    exact ⟨Δ, O1, P, E, F1, hT1, sr1, w1, hv.mono s1, hx1⟩
  | false =>
    rw [if_neg Bool.false_ne_true] at hT1 ⊢
    exact (hv.mono s1).now hT1 w1
theorem qw_or (ha : PT X a (lt g W tA)) (hb : PW X (.BoolOp .Or (b :: rest) pos) (lt g W tB)) : PW X (.BoolOp .Or (a :: b :: rest) pos) (lt g W (dOr tA tB)) := by
  refine pw_imp (pw_or ha hb) fun σ H Q h => ?_
  obtain ⟨Δ, O, P, E, F, hT, sr, w, hv, hx⟩ := h
  refine lt_bind hT sr w hx fun k O1 F1 H1 hT1 s1 sr1 w1 hx1 => ?_
  cases k with
  | true =>
    rw [if_pos rfl] at hT1 ⊢
    exact (hv.mono s1).now hT1 w1
  | false =>
    rw [if_neg Bool.false_ne_true] at hT1 ⊢
    exact ⟨Δ, O1, P, E, F1, hT1, sr1, w1, hv.mono s1, hx1⟩
theorem qt_not (ha : PT X a (lt g W tA)) : PT X (.UnaryOp .Not a pos) (lt g W (dNot tA)) := by
  refine pt_imp (pt_not ha) fun σ H Q h => ?_
  obtain ⟨Δ, O, P, E, F, hT, sr, w, hv, hx⟩ := h
  exact lt_bind hT sr w hx fun k O1 F1 H1 hT1 s1 sr1 w1 hx1 => (hv.mono s1).now hT1 w1
/-- as values -/
def dAndV (Ta Tb : DE) : DE := fun Δ O P E => Ta Δ O (fun d O1 => match d with | .bl k => (if k = true then Tb Δ O1 P E else P (.bl false) O1) | _ => False) E
def dOrV (Ta Tb : DE) : DE := fun Δ O P E => Ta Δ O (fun d O1 => match d with | .bl k => (if k = true then P (.bl true) O1 else Tb Δ O1 P E) | _ => False) E
def dNotV (Ta : DE) : DE := fun Δ O P E => Ta Δ O (fun d O1 => match d with | .bl k => P (.bl (!k)) O1 | _ => False) E
theorem q_one {op} (h : PE X a (le g W Ta)) : PE X (.BoolOp op [a] pos) (le g W Ta) := pe_one h
theorem q_and (ha : PE X a (le g W Ta)) (hb : PE X (.BoolOp .And (b :: rest) pos) (le g W Tb)) : PE X (.BoolOp .And (a :: b :: rest) pos) (le g W (dAndV Ta Tb)) := by
  refine pe_imp (pe_and ha hb) fun σ H Q h => ?_
  obtain ⟨Δ, O, P, E, F, hT, sr, w, hv, hx⟩ := h
  refine le_bind hT sr w hx fun d O1 v F1 H1 hT1 s1 sr1 w1 rx hx1 => ?_
  cases d with
  | bl k =>
    refine ⟨k, Rep.bl_iff.mp rx, ?_⟩
    cases k with
    | true =>
      rw [if_pos rfl]
      exact ⟨Δ, O1, P, E, F1, by simpa using hT1, sr1, w1, hv.mono s1, hx1⟩
    | false =>
      rw [if_neg Bool.false_ne_true]
      have hT1 : P (.bl false) O1 := by simpa using hT1
      exact (hv.mono s1).now hT1 w1 (Rep.bl_iff.mpr rfl)
  | _ => exact hT1.elim
theorem q_not (ha : PE X a (le g W Ta)) : PE X (.UnaryOp .Not a pos) (le g W (dNotV Ta)) := by
  refine pe_imp (pe_not ha) fun σ H Q h => ?_
  obtain ⟨Δ, O, P, E, F, hT, sr, w, hv, hx⟩ := h
  refine le_bind hT sr w hx fun d O1 v F1 H1 hT1 s1 sr1 w1 rx hx1 => ?_
  cases d with
  | bl k => exact ⟨k, Rep.bl_iff.mp rx, (hv.mono s1).now hT1 w1 (Rep.bl_iff.mpr rfl)⟩
  | _ => exact hT1.elim
def dIf (t : DT) (Ta Tb : DE) : DE := fun Δ O P E => t Δ O (fun k O1 => if k = true then Ta Δ O1 P E else Tb Δ O1 P E) E
/-! ### ints -/
def fI0 (h : Int → Int → D) : B2 := fun x y O P => match x, y with | .int i, .int j => P (h i j) O | _, _ => False
def fI (C : Int → Int → Prop) (h : Int → Int → D) : B2 := fun x y O P => match x, y with | .int i, .int j => C i j ∧ P (h i j) O | _, _ => False
theorem lkI0 {h : Int → Int → D} {h' : Int → Int → V} (e : ∀ F i j, Rep g F (h i j) (h' i j)) : Lk2 g (rI0 h') (fI0 h) := by
  intro x y O P F H vx vy Q hf rx ry w hv
  cases x <;> cases y <;> first | exact hf.elim | skip
  rename_i i j
  exact ⟨i, j, Rep.int_iff.mp rx, Rep.int_iff.mp ry, hv.now hf w (e F i j)⟩
theorem lkI {C : Int → Int → Prop} {h : Int → Int → D} {h' : Int → Int → V} (e : ∀ F i j, Rep g F (h i j) (h' i j)) : Lk2 g (rI C h') (fI C h) := by
  intro x y O P F H vx vy Q hf rx ry w hv
  cases x <;> cases y <;> first | exact hf.elim | skip
  rename_i i j
  exact ⟨i, j, Rep.int_iff.mp rx, Rep.int_iff.mp ry, hf.1, hv.now hf.2 w (e F i j)⟩
theorem rint {F : Hp} {i : Int} : Rep g F (.int i) (.int i) := Rep.int_iff.mpr rfl
theorem rbl {F : Hp} {i : Bool} : Rep g F (.bl i) (.bl i) := Rep.bl_iff.mpr rfl
def fSub : B2 := fI0 fun i j => .int (i - j)
def fMul : B2 := fI CMul fun i j => .int (i * j)
def fMod : B2 := fI (fun _ j => 0 < j) fun i j => .int (i % j)
def fDiv : B2 := fI CDiv fun i j => .int (i / j)
def fPow : B2 := fI CPow fun i j => .int (i ^ j.toNat)
def fLt : B2 := fI0 fun i j => .bl (decide (i < j))
def fLe : B2 := fI0 fun i j => .bl (decide (i ≤ j))
def fGt : B2 := fI0 fun i j => .bl (decide (j < i))
def fGe : B2 := fI0 fun i j => .bl (decide (j ≤ i))
theorem lk_sub : Lk2 g (rI0 fun i j => .int (i - j)) fSub := lkI0 fun _ _ _ => rint
theorem lk_mul : Lk2 g (rI CMul fun i j => .int (i * j)) fMul := lkI fun _ _ _ => rint
theorem lk_mod : Lk2 g (rI (fun _ j => 0 < j) fun i j => .int (i % j)) fMod := lkI fun _ _ _ => rint
theorem lk_div : Lk2 g (rI CDiv fun i j => .int (i / j)) fDiv := lkI fun _ _ _ => rint
theorem lk_pow : Lk2 g (rI CPow fun i j => .int (i ^ j.toNat)) fPow := lkI fun _ _ _ => rint
theorem lk_lt : Lk2 g (rI0 fun i j => .bl (decide (i < j))) fLt := lkI0 fun _ _ _ => rbl
theorem lk_le : Lk2 g (rI0 fun i j => .bl (decide (i ≤ j))) fLe := lkI0 fun _ _ _ => rbl
theorem lk_gt : Lk2 g (rI0 fun i j => .bl (decide (j < i))) fGt := lkI0 fun _ _ _ => rbl
theorem lk_ge : Lk2 g (rI0 fun i j => .bl (decide (j ≤ i))) fGe := lkI0 fun _ _ _ => rbl
theorem OpR.or {f : Value → Value → Sem Value} {r r' : R2} (h : OpR X f r) (h' : OpR X f r') : OpR X f (fun x y H Q => r x y H Q ∨ r' x y H Q) := by
  intro pins s σ H x y v u Q I rx ry q
  rcases q with q | q
  · exact h pins s σ H x y v u Q I rx ry q
  · exact h' pins s σ H x y v u Q I rx ry q

/-! ### + of ints, texts, lists -/
/-- the list that a datum is, as a list object -/
def lstOf (O : Sto) : D → Option (List D)
  | .lst ds => some ds
  | .ptr a => match getC O a with | some (.lst ds) => some ds | _ => none
  | _ => none
theorem lst_of {F : Hp} {O : Sto} {H : Hp} {d : D} {v : V} {ds : List D} (h : lstOf O d = some ds) (r : Rep g F d v) (w : Wd g F O H) : ∃ p vs, v = .ref p ∧ H p = some (.lst vs) ∧ Reps g F ds vs := by
  cases d with
  | lst l =>
    obtain ⟨p, vs, rfl, h1, h2⟩ := Rep.lst_iff.mp r
    cases h
    exact ⟨p, vs, rfl, w.same _ _ h1, h2⟩
  | ptr a =>
    rw [Rep.ptr_iff] at r
    subst r
    simp only [lstOf] at h
    split at h
    · rename_i l e
      cases h
      obtain ⟨_, o, h1, h2⟩ := w.get e
      cases o with
      | lst vs => exact ⟨a, vs, rfl, h1, h2⟩
      | _ => exact h2.elim
    · cases h
  | _ => simp [lstOf] at h
def fAdd : B2 := fun x y O P => match x, y with
  | .int i, .int j => P (.int (i + j)) O
  | .str i, .str j => i.length + j.length ≤ sizeLine ∧ P (.str (i ++ j)) O
  | _, _ => match lstOf O x, lstOf O y with
    | some l, some m => l.length + m.length ≤ sizeLine ∧ P (.lst (l ++ m)) O
    | _, _ => False
def rAddA : R2 := fun x y H Q => (∃ i j, x = .int i ∧ y = .int j ∧ Q (.int (i + j)) H) ∨ (∃ i j, x = .str i ∧ y = .str j ∧ i.length + j.length ≤ sizeLine ∧ Q (.str (i ++ j)) H) ∨ rCat x y H Q
theorem op_addA : OpR X (binaryOp .Add) rAddA := OpR.or op_add (OpR.or op_add_str op_cat)
theorem Reps.newL {F : Hp} {ds : List D} {vs : List V} {p : Addr} (h : Reps g F ds vs) : F p = none → Rep g (upd F p (.lst vs)) (.lst ds) (.ref p) := fun hp => Rep.lst_iff.mpr ⟨p, vs, rfl, upd_same, h.mono (same_upd hp)⟩
theorem Reps.newT {F : Hp} {ds : List D} {vs : List V} {p : Addr} (h : Reps g F ds vs) : F p = none → Rep g (upd F p (.tup vs)) (.tup ds) (.ref p) := fun hp => Rep.tup_iff.mpr ⟨p, vs, rfl, .inl upd_same, h.mono (same_upd hp)⟩
theorem lk_add : Lk2 g rAddA fAdd := by
  intro x y O P F H vx vy Q hf rx ry w hv
  have key : (match lstOf O x, lstOf O y with
    | some l, some m => l.length + m.length ≤ sizeLine ∧ P (.lst (l ++ m)) O
    | _, _ => False) → rCat vx vy H Q := by
    intro hf
    split at hf
    · rename_i l m e1 e2
      obtain ⟨p, vs, rfl, h1, h2⟩ := lst_of e1 rx w
      obtain ⟨q, us, rfl, h3, h4⟩ := lst_of e2 ry w
      refine ⟨p, q, vs, us, rfl, rfl, h1, h3, by rw [← h2.length, ← h4.length]; exact hf.1, fun t ht => ?_⟩
      exact hv _ _ _ _ _ hf.2 (w.fsame ht) (w.frozen ht) ((h2.append h4).newL (w.same.free ht))
    · exact hf.elim
  cases x <;> cases y <;> first | exact .inr (.inr (key hf)) | skip
  · rename_i i j
    exact .inl ⟨i, j, Rep.int_iff.mp rx, Rep.int_iff.mp ry, hv.now hf w rint⟩
  · rename_i i j
    exact .inr (.inl ⟨i, j, Rep.str_iff.mp rx, Rep.str_iff.mp ry, hf.1, hv.now hf.2 w (Rep.str_iff.mpr rfl)⟩)

/-! ### subscripts -/
def fIx : B2 := fun x y O P => match y with
  | .int i => match x with
    | .tup ds => (match atI ds i with | some d => P d O | none => False)
    | .str z => z.length ≤ sizeLine ∧ (match atI z.cps.toList i with | some c => P (.str ⟨#[c]⟩) O | none => False)
    | _ => (match lstOf O x with | some ds => (match atI ds i with | some d => P d O | none => False) | none => False)
  | _ => False
theorem atI_rep {F : Hp} {ds : List D} {vs : List V} {i : Int} {d : D} (h : Reps g F ds vs) (e : atI ds i = some d) : ∃ v, atI vs i = some v ∧ Rep g F d v := by
  unfold atI at e ⊢
  rw [← h.length]
  cases q : ixN ds.length i with
  | none => rw [q] at e; cases e
  | some j =>
    rw [q] at e
    exact h.get (show ds[j]? = some d from e)
theorem lk_ix : Lk2 g (rIx g.K) fIx := by
  intro x y O P F H vx vy Q hf rx ry w hv
  cases y with
  | int i =>
    have ey := Rep.int_iff.mp ry
    subst ey
    have key : (match lstOf O x with | some ds => (match atI ds i with | some d => P d O | none => False) | none => False) → rIx g.K vx (.int i) H Q := by
      intro hf
      split at hf
      · rename_i l e1
        obtain ⟨p, vs, rfl, h1, h2⟩ := lst_of e1 rx w
        split at hf
        · rename_i d e2
          obtain ⟨v, e3, r3⟩ := atI_rep h2 e2
          exact .inl ⟨p, vs, i, v, rfl, rfl, SqL.of h1, e3, hv.now hf w r3⟩
        · exact hf.elim
      · exact hf.elim
    cases x with
    | tup ds =>
      obtain ⟨p, vs, rfl, h1, h2⟩ := Rep.tup_sq rx
      have hf : (match atI ds i with | some d => P d O | none => False) := hf
      split at hf
      · rename_i d e2
        obtain ⟨v, e3, r3⟩ := atI_rep h2 e2
        exact .inr (.inl ⟨p, vs, i, v, rfl, rfl, sqt_same w.same h1, e3, hv.now hf w r3⟩)
      · exact hf.elim
    | str z =>
      obtain ⟨hl, hf⟩ : z.length ≤ sizeLine ∧ (match atI z.cps.toList i with | some c => P (.str ⟨#[c]⟩) O | none => False) := hf
      split at hf
      · rename_i ch e2
        exact .inr (.inr ⟨z, i, ch, Rep.str_iff.mp rx, rfl, hl, e2, hv.now hf w (Rep.str_iff.mpr rfl)⟩)
      · exact hf.elim
    | _ => exact key hf
  | _ => exact hf.elim
theorem q_ix (ha : PE X a (le g W Ta)) (hb : PE X b (le g W Tb)) (hs : PlainIx b := by exact fun _ _ => rfl) (hK : X.K = g.K := by rfl) : PE X (.Subscript a b pos) (le g W (dOp fIx Ta Tb)) :=
  pe_imp (pe_ix (r := rIx g.K) (by rw [← hK]; exact ix_seq) ha hb hs) fun σ H Q h => top_of lk_ix h

/-! ### argument lists, displays -/
def dNil : DA := fun _ O P _ => P [] O
def dCons (T : DE) (R : DA) : DA := fun Δ O P E => T Δ O (fun d O1 => R Δ O1 (fun ds O2 => P (d :: ds) O2) E) E
theorem qa_nil : PA X [] (la g W dNil) := pa_imp pa_nil fun σ H Q ⟨Δ, O, P, E, F, hT, sr, w, hv, hx⟩ => hv.now hT w Reps.nil
theorem qa_cons {es : List Expr} {R : DA} (ha : PE X a (le g W Ta)) (hr : PA X es (la g W R)) (hs : starEach (a :: es) X.env = (false, eval a X.env) :: starEach es X.env := by rfl) : PA X (a :: es) (la g W (dCons Ta R)) := by
  refine pa_imp (pa_cons ha hr hs) fun σ H Q h => ?_
  obtain ⟨Δ, O, P, E, F, hT, sr, w, hv, hx⟩ := h
  refine le_bind hT sr w hx fun d O1 v F1 H1 hT1 s1 sr1 w1 rx hx1 => la_bind hT1 sr1 w1 hx1 fun ds O2 vs F2 H2 hT2 s2 sr2 w2 rs hx2 => ?_
  exact hv _ _ _ _ _ hT2 (s1.trans s2) w2 (Reps.cons (rx.mono s2) rs)
def dTup (R : DA) : DE := fun Δ O P E => R Δ O (fun ds O1 => ds.length ≤ sizeLine ∧ P (.tup ds) O1) E
def dLst (R : DA) : DE := fun Δ O P E => R Δ O (fun ds O1 => ds.length ≤ sizeLine ∧ P (.lst ds) O1) E
/-- a list that will change -/
def dLstO (R : DA) : DE := fun Δ O P E => R Δ O (fun ds O1 => ds.length ≤ sizeLine ∧ ∀ p, freshC O1 p → P (.ptr p) ((p, .lst ds) :: O1)) E
theorem q_tup {es : List Expr} {R : DA} {x1} (h : PA X es (la g W R)) : PE X (.Tuple es x1 pos) (le g W (dTup R)) := by
  refine pe_imp (pe_tup h) fun σ H Q h => ?_
  obtain ⟨Δ, O, P, E, F, hT, sr, w, hv, hx⟩ := h
  refine la_bind hT sr w hx fun ds O1 vs F1 H1 hT1 s1 sr1 w1 rs hx1 => ⟨by rw [← rs.length]; exact hT1.1, fun p hp => ?_⟩
  exact hv _ _ _ _ _ hT1.2 (s1.trans (w1.fsame hp)) (w1.frozen hp) (rs.newT (w1.same.free hp))
theorem q_lst {es : List Expr} {R : DA} (h : PA X es (la g W R)) : PE X (.List es pos) (le g W (dLst R)) := by
  refine pe_imp (pe_lst h) fun σ H Q h => ?_
  obtain ⟨Δ, O, P, E, F, hT, sr, w, hv, hx⟩ := h
  refine la_bind hT sr w hx fun ds O1 vs F1 H1 hT1 s1 sr1 w1 rs hx1 => ⟨by rw [← rs.length]; exact hT1.1, fun p hp => ?_⟩
  exact hv _ _ _ _ _ hT1.2 (s1.trans (w1.fsame hp)) (w1.frozen hp) (rs.newL (w1.same.free hp))
theorem q_lstO {es : List Expr} {R : DA} (h : PA X es (la g W R)) : PE X (.List es pos) (le g W (dLstO R)) := by
  refine pe_imp (pe_lst h) fun σ H Q h => ?_
  obtain ⟨Δ, O, P, E, F, hT, sr, w, hv, hx⟩ := h
  refine la_bind hT sr w hx fun ds O1 vs F1 H1 hT1 s1 sr1 w1 rs hx1 => ⟨by rw [← rs.length]; exact hT1.1, fun p hp => ?_⟩
  exact hv _ _ _ _ _ (hT1.2 p (w1.fresh hp)) s1 (w1.own (c := .lst ds) (o := .lst vs) hp rs) (Rep.ptr_iff.mpr rfl)

/-- an owned thing is let go -/
def frzD : Cell → Option D
  | .lst ds => some (.lst ds)
  | .ins c fs ds => some (.obj c fs ds)
  | .dic ks ds => some (.dic ks ds)
  | .box => none
def dFrz (T : DE) : DE := fun Δ O P E => T Δ O (fun d O1 => match d with
  | .ptr a => (match getC O1 a with | some c => (match frzD c with | some d' => P d' (delC O1 a) | none => False) | none => False)
  | _ => False) E
def Cell.isDic : Cell → Bool
  | .dic _ _ => true
  | _ => false
theorem frz_rep {F : Hp} {a : Addr} {c : Cell} {o : HO} {d : D} (hf : frzD c = some d) (h : CRep g F c o) (fa : F a = none) (nd : c.isDic = false := by rfl) : Rep g (upd F a o) d (.ref a) := by
  cases c with
  | lst ds =>
    cases hf
    cases o with
    | lst vs => exact Reps.newL (show Reps g F ds vs from h) fa
    | _ => exact h.elim
  | ins c fs ds =>
    cases hf
    cases o with
    | ins C dx vfs =>
      obtain ⟨rfl, h2, vs, rfl, h4⟩ := h
      exact Rep.obj_iff.mpr ⟨a, dx, vs, rfl, upd_same, h2, h4.mono (same_upd fa)⟩
    | _ => exact h.elim
  | dic ks ds => cases nd
  | box => cases hf
/-- the thing may be locked behind the reading -/
def tLk (t : TE) : TE := fun σ H Q => t σ H fun v H1 => Q v H1 ∨ ∃ d kvs, H1 d = some (.dK kvs) ∧ ∀ od, Q v (upd H1 d (.frz od (.dK kvs)))
theorem pe_lk {t : TE} (h : PE X a t) : PE X a (tLk t) := ⟨fun pins s σ H Q I hq => thn (h.run pins s σ H _ I hq) fun u s1 ⟨x, H1, I1, r, q⟩ => by
  rcases q with q | ⟨d, kvs, hd, q⟩
  · exact ⟨x, H1, I1, r, q⟩
  · obtain ⟨od, I2⟩ := I1.lock hd True.intro
    exact ⟨x, _, I2, r, q od⟩⟩
theorem q_frz (ha : PE X a (le g W Ta)) : PE X a (le g W (dFrz Ta)) := by
  refine pe_imp (pe_lk ha) fun σ H Q h => ?_
  obtain ⟨Δ, O, P, E, F, hT, sr, w, hv, hx⟩ := h
  refine le_bind hT sr w hx fun d O1 v F1 H1 hT1 s1 sr1 w1 rx hx1 => ?_
  cases d with
  | ptr p =>
    have ev := Rep.ptr_iff.mp rx
    subst ev
    have hT1 : (match getC O1 p with | some c => (match frzD c with | some d' => P d' (delC O1 p) | none => False) | none => False) := hT1
    split at hT1
    · rename_i c e
      split at hT1
      · rename_i d' e'
        cases ec : c.isDic with
        | false =>
          obtain ⟨o, ho, hc, s2, w2⟩ := w1.freeze e
          exact .inl (hv _ _ _ _ _ hT1 (s1.trans s2) w2 (frz_rep e' hc (w1.get e).1 ec))
        | true =>
          cases c with
          | dic ks ds =>
            cases e'
            obtain ⟨vs, h1, h2⟩ := w1.freezeL e
            exact .inr ⟨p, _, h1, fun od => hv _ _ _ _ _ hT1 (s1.trans (h2 od).1) (h2 od).2.1 (h2 od).2.2⟩
          | _ => cases ec
      · exact hT1.elim
    · exact hT1.elim
  | _ => exact hT1.elim

/-! ### fields -/
/-- the fields of a datum: its class, its names, its values -/
def objOf (O : Sto) : D → Option (Cl × List Fd × List D)
  | .obj c fs ds => some (c, fs, ds)
  | .ptr a => match getC O a with | some (.ins c fs ds) => some (c, fs, ds) | _ => none
  | _ => none
theorem obj_of {F : Hp} {O : Sto} {H : Hp} {d : D} {v : V} {t : Cl × List Fd × List D} (h : objOf O d = some t) (r : Rep g F d v) (w : Wd g F O H) : ∃ p dx vs, v = .ref p ∧ H p = some (.ins (g.ca t.1) dx (zipF t.2.1 vs)) ∧ t.2.1.length = t.2.2.length ∧ Reps g F t.2.2 vs := by
  cases d with
  | obj c fs ds =>
    obtain ⟨p, dx, vs, rfl, h1, h2, h3⟩ := Rep.obj_iff.mp r
    cases h
    exact ⟨p, dx, vs, rfl, w.same _ _ h1, h2, h3⟩
  | ptr a =>
    rw [Rep.ptr_iff] at r
    subst r
    simp only [objOf] at h
    split at h
    · rename_i c fs ds e
      cases h
      obtain ⟨_, o, h1, h2⟩ := w.get e
      cases o with
      | ins C dx vfs =>
        obtain ⟨rfl, h3, vs, rfl, h4⟩ := h2
        exact ⟨a, dx, vs, rfl, h1, h3, h4⟩
      | _ => exact h2.elim
    · cases h
  | _ => simp [objOf] at h
/-- what the walk asks of the classes: fields that no class hides -/
structure Flds (g : Gm) (cs : List Cl) (f : Fd) : Prop where
  cl : ∀ c ∈ cs, Cls g.K (g.ca c)
  no : ∀ c ∈ cs, NoAttr g.K (g.ca c) f.str
def dFld (cs : List Cl) (f : Fd) (T : DE) : DE := fun Δ O P E => T Δ O (fun d O1 => match objOf O1 d with
  | some t => t.1 ∈ cs ∧ (match getF f t.2.1 t.2.2 with | some e => P e O1 | none => False)
  | none => False) E
theorem q_fld {cs : List Cl} {f : Fd} {x : Str} (A : Flds g cs f) (ha : PE X a (le g W Ta)) (hx : x = f.str := by rfl) (hK : X.K = g.K := by rfl) (hb : attributeBase a x X.env (eval a X.env) = eval a X.env := by rfl) :
    PE X (.Attribute a x pos) (le g W (dFld cs f Ta)) := by
  subst hx
  refine pe_imp (pe_fld ha hb) fun σ H Q h => ?_
  obtain ⟨Δ, O, P, E, F, hT, sr, w, hv, hx⟩ := h
  refine le_bind hT sr w hx fun d O1 v F1 H1 hT1 s1 sr1 w1 rx hx1 => ?_
  split at hT1
  · rename_i t e
    obtain ⟨p, dx, vs, rfl, h1, h2, h3⟩ := obj_of e rx w1
    obtain ⟨hc, hT1⟩ := hT1
    split at hT1
    · rename_i d' e'
      obtain ⟨u, hu, ru⟩ := getF_look h3 e'
      exact ⟨p, g.ca t.1, dx, _, u, rfl, h1, by rw [hK]; exact A.cl _ hc, by rw [hK]; exact A.no _ hc, hu, (hv.mono s1).now hT1 w1 ru⟩
    · exact hT1.elim
  · exact hT1.elim

/-! ### builtins by values -/
abbrev BC := List D → Sto → KD → Prop
def LkC (g : Gm) (r : List V → Hp → VK → Prop) (f : BC) : Prop := ∀ ds O P F H vs Q, f ds O P → Reps g F ds vs → Wd g F O H → VOk g F P Q → r vs H Q
def dCB (f : BC) (R : DA) : DE := fun Δ O P E => R Δ O (fun ds O1 => f ds O1 P) E
theorem tcb_of {r : List V → Hp → VK → Prop} {f : BC} {R : DA} (lk : LkC g r f) {σ : St} {H : Hp} {Q : VK} (h : le g W (dCB f R) σ H Q) : tCB r (la g W R) σ H Q := by
  obtain ⟨Δ, O, P, E, F, hT, sr, w, hv, hx⟩ := h
  exact la_bind hT sr w hx fun ds O1 vs F1 H1 hT1 s1 sr1 w1 rs hx1 => lk _ _ _ _ _ _ _ hT1 rs w1 (hv.mono s1)
variable {es : List Expr} {R : DA} {x : Str} {p : Pos}
theorem q_callB {id : String} {r : List V → Hp → VK → Prop} {f : BC} (hc : CallR X (.builtin id) r) (lk : LkC g r f) (hm : X.mg x = none) (ha : PA X (a :: es) (la g W R)) (hv : bootBuiltins x = some (.builtin id) := by decide +kernel) (hg : Gl X x := by rfl) (hn : x ≠ "__name__" := by decide) (hdb : (x == ("__debug__" : Str)) = false := by decide)
    (he : starEach (a :: es) X.env = (false, eval a X.env) :: starEach es X.env := by rfl) (hpl : (backTo pos (starEach es X.env)).any (·.1) = false := by rfl) : PE X (.Call (.Name x p) (a :: es) [] pos) (le g W (dCB f R)) :=
  pe_imp (pe_callB hc hg hm hv ha hn hdb he hpl) fun σ H Q h => tcb_of lk h
theorem q_callTy {T : String} {r : List V → Hp → VK → Prop} {f : BC} (hc : CallR X (.type T) r) (lk : LkC g r f) (hm : X.mg x = none) (ha : PA X (a :: es) (la g W R)) (hv : bootBuiltins x = some (.type T) := by decide +kernel) (hg : Gl X x := by rfl) (hn : x ≠ "__name__" := by decide) (hdb : (x == ("__debug__" : Str)) = false := by decide)
    (he : starEach (a :: es) X.env = (false, eval a X.env) :: starEach es X.env := by rfl) (hpl : (backTo pos (starEach es X.env)).any (·.1) = false := by rfl) : PE X (.Call (.Name x p) (a :: es) [] pos) (le g W (dCB f R)) :=
  pe_imp (pe_callTy hc hg hm hv ha hn hdb he hpl) fun σ H Q h => tcb_of lk h
end
end G

set_option Elab.async false
set_option linter.all false
set_option maxRecDepth 100000
set_option maxHeartbeats 4000000
namespace G
open PySem L2
/-! ## statements -/
theorem EOk.toX {g : Gm} {F : Hp} {W : WX} {D : DEnds} {E : Ends} {σ : St} {Δ : Sl} (h : EOk g F W D E) (sr : SRel g F σ Δ) : XOk g F W σ (fun x O => D.xc x Δ O) :=
  fun x O cls dd F' H q s w r => h.xc x Δ O cls dd F' σ H q s (sr.mono s) w r
section
variable {g : Gm} {X : Cx} {W : WX} {pos pos' : Pos} {a b c : Expr} {Ta Tb : DE} {tA tB : DT} {T U : DS} {st : Stmt} {rest : List Stmt}
def dNext : DS := fun D Δ O => D.nx Δ O
def dSeq (T U : DS) : DS := fun D Δ O => T { D with nx := U D } Δ O
theorem qss_nil : PSs X [] (ls g W dNext) := pss_imp pss_nil fun E σ H ⟨D, Δ, O, F, hT, sr, w, he⟩ => he.nx _ _ _ _ _ hT (Same.refl F) sr w
theorem qss_one (h : PS X st (ls g W T)) : PSs X [st] (ls g W T) := pss_one h
theorem qss_cons (h1 : PS X st (ls g W T)) (h2 : PSs X rest (ls g W U)) : PSs X (st :: rest) (ls g W (dSeq T U)) := by
  refine pss_imp (pss_cons h1 h2) fun E σ H ⟨D, Δ, O, F, hT, sr, w, he⟩ => ?_
  refine ⟨{ D with nx := U D }, Δ, O, F, hT, sr, w, ⟨fun Δ' O' F' σ' H' q s sr' w' => ?_, he.rt, he.bk, he.ct, he.xc⟩⟩
  exact ⟨D, Δ', O', F', q, sr', w', he.mono s⟩
def dAsg (i : Nat) (T : DE) : DS := fun D Δ O => T Δ O (fun d O1 => D.nx (Δ.set i (some d)) O1) (fun x O1 => D.xc x Δ O1)
theorem qs_asg (i : Nat) {x : Str} (hN : X.N.Nodup) (he : PE X a (le g W Ta)) (hi : X.N[i]? = some x := by rfl) (hx : Loc X.env.scope x := by first | exact Or.inl rfl | exact Or.inr rfl) (hs : swapsWith a (some (.Name x pos')) pos.line X.env = pure false := by rfl)
    (hf : X.fn x = true ∨ X.env.scope.names.lookup x = some .local := by first | exact .inl rfl | exact .inr rfl) : PS X (.Assign [.Name x pos'] a pos) (ls g W (dAsg i Ta)) := by
  refine ps_imp (ps_set (i := i) hN hi hx he hs hf) fun E σ H ⟨D, Δ, O, F, hT, sr, w, ho⟩ => ?_
  exact le_bind hT sr w (ho.toX sr) fun d O1 v F1 H1 hT1 s1 sr1 w1 rx hx1 => ho.nx _ _ _ _ _ hT1 s1 (sr1.set rx i) w1
def dExp (T : DE) : DS := fun D Δ O => T Δ O (fun _ O1 => D.nx Δ O1) (fun x O1 => D.xc x Δ O1)
theorem qs_expr (he : PE X a (le g W Ta)) (hs : swapsWith a none pos.line X.env = pure false := by rfl) : PS X (.Expr a pos) (ls g W (dExp Ta)) := by
  refine ps_imp (ps_expr he hs) fun E σ H ⟨D, Δ, O, F, hT, sr, w, ho⟩ => ?_
  exact le_bind hT sr w (ho.toX sr) fun d O1 v F1 H1 hT1 s1 sr1 w1 rx hx1 => ho.nx _ _ _ _ _ hT1 s1 sr1 w1
def dRet (T : DE) : DS := fun D Δ O => T Δ O D.rt (fun x O1 => D.xc x Δ O1)
theorem qs_ret (he : PE X a (le g W Ta)) : PS X (.Return (some a) pos) (ls g W (dRet Ta)) := by
  refine ps_imp (ps_ret he) fun E σ H ⟨D, Δ, O, F, hT, sr, w, ho⟩ => ?_
  exact le_bind hT sr w (ho.toX sr) fun d O1 v F1 H1 hT1 s1 sr1 w1 rx hx1 => ho.rt _ _ _ _ _ hT1 s1 w1 rx
def dRetN : DS := fun D _ O => D.rt .non O
def dIfS (t : DT) (T U : DS) : DS := fun D Δ O => t Δ O (fun k O1 => if k = true then T D Δ O1 else U D Δ O1) (fun x O1 => D.xc x Δ O1)
theorem qs_if {xs ys : List Stmt} (hc : PT X c (lt g W tA)) (ha : PSs X xs (ls g W T)) (hb : PSs X ys (ls g W U)) : PS X (.If c xs ys pos) (ls g W (dIfS tA T U)) := by
  refine ps_imp (ps_if hc ha hb) fun E σ H ⟨D, Δ, O, F, hT, sr, w, ho⟩ => ?_
  refine lt_bind hT sr w (ho.toX sr) fun k O1 F1 H1 hT1 s1 sr1 w1 hx1 => ?_
  cases k with
  | true =>
    rw [if_pos rfl] at hT1 ⊢
    exact ⟨D, Δ, O1, F1, hT1, sr1, w1, ho.mono s1⟩
  | false =>
    rw [if_neg Bool.false_ne_true] at hT1 ⊢
    exact ⟨D, Δ, O1, F1, hT1, sr1, w1, ho.mono s1⟩
def dBrk : DS := fun D Δ O => D.bk Δ O
def dCnt : DS := fun D Δ O => D.ct Δ O
def dNev : DS := fun _ _ _ => False
/-- x += e -/
def dAug (i : Nat) (f : B2) (T : DE) : DS := fun D Δ O => match Δ[i]? with
  | some (some x) => T Δ O (fun y O1 => f x y O1 fun z O2 => D.nx (Δ.set i (some z)) O2) (fun x O1 => D.xc x Δ O1)
  | _ => False
def fAddI : B2 := fI0 fun i j => .int (i + j)
/-- o.f = e -/
def dSetF (cs : List Cl) (f : Fd) (To Tv : DE) : DS := fun D Δ O => Tv Δ O (fun d O1 => To Δ O1 (fun o O2 => match o with
  | .ptr p => (match getC O2 p with
    | some (.ins c fs ds) => c ∈ cs ∧ fs.length < 900 ∧ D.nx Δ (setC O2 p (.ins c (putFs f fs) (putDs f d fs ds)))
    | _ => False)
  | _ => False) (fun x O1 => D.xc x Δ O1)) (fun x O1 => D.xc x Δ O1)
theorem qs_setF {cs : List Cl} {f : Fd} {x : Str} (A : Flds g cs f) (ha : PE X a (le g W Ta)) (hb : PE X b (le g W Tb)) (hx : x = f.str := by rfl) (hK : X.K = g.K := by rfl) (hs : swapsWith b (some (.Attribute a x pos')) pos.line X.env = pure false := by rfl) :
    PS X (.Assign [.Attribute a x pos'] b pos) (ls g W (dSetF cs f Ta Tb)) := by
  subst hx
  refine ps_imp (ps_fld ha hb hs) fun E σ H ⟨D, Δ, O, F, hT, sr, w, ho⟩ => ?_
  refine le_bind hT sr w (ho.toX sr) fun d O1 v F1 H1 hT1 s1 sr1 w1 rx hx1 => le_bind hT1 sr1 w1 hx1 fun o O2 vo F2 H2 hT2 s2 sr2 w2 ro hx2 => ?_
  cases o with
  | ptr p =>
    have ev := Rep.ptr_iff.mp ro
    subst ev
    have hT2 : (match getC O2 p with
      | some (.ins c fs ds) => c ∈ cs ∧ fs.length < 900 ∧ D.nx Δ (setC O2 p (.ins c (putFs f fs) (putDs f d fs ds)))
      | _ => False) := hT2
    split at hT2
    · rename_i c fs ds e
      obtain ⟨hc, hl, hT2⟩ := hT2
      obtain ⟨fa, ob, h1, h2⟩ := w2.get e
      cases ob with
      | ins C dx vfs =>
        obtain ⟨rfl, h3, vs, rfl, h4⟩ := h2
        obtain ⟨ws, e1, e2, e3⟩ := putF_zip (f := f) (rx.mono s2) h3 h4
        refine ⟨p, g.ca c, dx, _, rfl, h1, by rw [hK]; exact A.cl _ hc, by rw [hK]; exact A.no _ hc, ?_, ?_⟩
        · unfold zipF
          rw [List.length_zip, List.length_map]
          omega
        · rw [e1]
          exact ho.nx _ _ _ _ _ hT2 (s1.trans s2) sr2 (w2.set e (c' := .ins c (putFs f fs) (putDs f d fs ds)) (o := .ins (g.ca c) dx (zipF (putFs f fs) ws)) ⟨rfl, e3, ws, rfl, e2⟩)
      | _ => exact h2.elim
    · exact hT2.elim
  | _ => exact hT2.elim
/-- a list with one place written -/
def setI (ds : List D) (k : Int) (d : D) : Option (List D) := match ixN ds.length k with | some j => some (ds.set j d) | none => none
/-- xs[i] = e, xs a list that is owned -/
def dSetIx (To Ti Tv : DE) : DS := fun D Δ O => Tv Δ O (fun d O1 => To Δ O1 (fun o O2 => Ti Δ O2 (fun i O3 => match o, i with
  | .ptr p, .int k => (match getC O3 p with
    | some (.lst ds) => (match setI ds k d with | some es => D.nx Δ (setC O3 p (.lst es)) | none => False)
    | _ => False)
  | _, _ => False) (fun x O1 => D.xc x Δ O1)) (fun x O1 => D.xc x Δ O1)) (fun x O1 => D.xc x Δ O1)
theorem qs_setIx {Tc : DE} (ha : PE X a (le g W Ta)) (hb : PE X b (le g W Tb)) (hc : PE X c (le g W Tc))
    (ha' : ∀ v, assign (.Subscript a b pos') X.env v = (do
      let ov ← holding [v] (eval a X.env)
      let iv ← holding [v, ov] (eval b X.env)
      standAt pos'
      holding [v, ov, iv] (setItem ov iv v)
      release [v, ov, iv] []) := by intro _; rfl) (hs : swapsWithSole [.Subscript a b pos'] c pos.line X.env = pure false := by rfl) (hw : swappedStores [.Subscript a b pos'] c X.env = pure none := by rfl)
    (h1 : (assignEach [.Subscript a b pos'] X.env).map (·.2) = [assign (.Subscript a b pos') X.env] := by rfl) : PS X (.Assign [.Subscript a b pos'] c pos) (ls g W (dSetIx Ta Tb Tc)) := by
  refine ps_imp (ps_asg hc (pg_sub ha hb set_list ha') hs hw h1) fun E σ H ⟨D, Δ, O, F, hT, sr, w, ho⟩ => ?_
  refine le_bind hT sr w (ho.toX sr) fun d O1 v F1 H1 hT1 s1 sr1 w1 rx hx1 => le_bind hT1 sr1 w1 hx1 fun o O2 vo F2 H2 hT2 s2 sr2 w2 ro hx2 => le_bind hT2 sr2 w2 hx2 fun i O3 vi F3 H3 hT3 s3 sr3 w3 ri hx3 => ?_
  cases o <;> cases i <;> first | exact hT3.elim | skip
  rename_i p k
  have ev := Rep.ptr_iff.mp ro
  subst ev
  have hT3 : (match getC O3 p with
    | some (.lst ds) => (match setI ds k d with | some es => D.nx Δ (setC O3 p (.lst es)) | none => False)
    | _ => False) := hT3
  split at hT3
  · rename_i ds e
    split at hT3
    · rename_i es eS
      unfold setI at eS
      split at eS
      rotate_left
      · cases eS
      rename_i j ej
      cases eS
      obtain ⟨fa, ob, h1, h2⟩ := w3.get e
      cases ob with
      | lst vs =>
        have h2 : Reps g F3 ds vs := h2
        refine ⟨p, vs, k, j, rfl, Rep.int_iff.mp ri, h1, by rw [← h2.length]; exact ej, ?_⟩
        exact ho.nx _ _ _ _ _ hT3 (s1.trans (s2.trans s3)) sr3 (w3.set e (c' := .lst (ds.set j d)) (o := .lst (vs.set j v)) (h2.set (rx.mono (s2.trans s3)) j))
      | _ => exact h2.elim
    · exact hT3.elim
  · exact hT3.elim
/-- xs.append(e) -/
def dApp (To Tv : DE) : DE := fun Δ O P E => To Δ O (fun o O1 => match o with
  | .ptr p => (match getC O1 p with
    | some (.lst _) => Tv Δ O1 (fun d O2 => match getC O2 p with
      | some (.lst ds) => ds.length < sizeLine ∧ P .non (setC O2 p (.lst (ds ++ [d])))
      | _ => False) E
    | _ => False)
  | _ => False) E
/-- give: pe_bm PySem.F.plainAttrs_list PySem.F.slot_list_append PySem.F.type_list_append mt_append HA (pa_cons HB pa_nil) -/
theorem q_app (h : PE X c (tBM X.K "list" rAppend (le g W Ta) (tCons (le g W Tb) tNil))) : PE X c (le g W (dApp Ta Tb)) := by
  refine pe_imp h fun σ H Q h => ?_
  obtain ⟨Δ, O, P, E, F, hT, sr, w, hv, hx⟩ := h
  refine le_bind hT sr w hx fun o O1 vo F1 H1 hT1 s1 sr1 w1 ro hx1 => ?_
  cases o with
  | ptr p =>
    have ev := Rep.ptr_iff.mp ro
    subst ev
    have hT1 : (match getC O1 p with
      | some (.lst _) => Tb Δ O1 (fun d O2 => match getC O2 p with
        | some (.lst ds) => ds.length < sizeLine ∧ P .non (setC O2 p (.lst (ds ++ [d])))
        | _ => False) E
      | _ => False) := hT1
    split at hT1
    · rename_i ds0 e0
      obtain ⟨_, ob, h1, h2⟩ := w1.get e0
      cases ob with
      | lst vs0 =>
        refine ⟨.inl ⟨rfl, _, SqL.of h1⟩, ?_⟩
        refine le_bind hT1 sr1 w1 hx1 fun d O2 vd F2 H2 hT2 s2 sr2 w2 rd hx2 => ?_
        split at hT2
        · rename_i ds e
          obtain ⟨_, ob, h3, h4⟩ := w2.get e
          cases ob with
          | lst vs =>
            have h4 : Reps g F2 ds vs := h4
            refine ⟨p, vs, vd, rfl, rfl, h3, by rw [← h4.length]; exact hT2.1, ?_⟩
            exact hv _ _ _ _ _ hT2.2 (s1.trans s2) (w2.set e (c' := .lst (ds ++ [d])) (o := .lst (vs ++ [vd])) (h4.append (Reps.one rd))) (Rep.non_iff.mpr rfl)
          | _ => exact h4.elim
        · exact hT2.elim
      | _ => exact h2.elim
    · exact hT1.elim
  | _ => exact hT1.elim
end

/-! ## loops -/
/-- what a walk gives: the data of its turns -/
structure Gives (g : Gm) (F : Hp) (J : It) (ds : List D) : Prop where
  go : ∀ (i : Nat) (d : D) F' O H, ds[i]? = some d → Same F F' → Wd g F' O H → J.go i H ∧ ∀ x H', J.yld i H x H' → ∃ F2, Same F' F2 ∧ Wd g F2 O H' ∧ Rep g F2 d x
  stop : ∀ (i : Nat) F' O H, ds.length ≤ i → Same F F' → Wd g F' O H → J.stop i H
theorem Gives.mono {g : Gm} {F F1 : Hp} {J : It} {ds : List D} (h : Gives g F J ds) (e : Same F F1) : Gives g F1 J ds := ⟨fun i d F' O H q s => h.go i d F' O H q (e.trans s), fun i F' O H q s => h.stop i F' O H q (e.trans s)⟩
def li (g : Gm) (W : WX) (T : DA) : TI := fun σ H R => ∃ Δ O P E F, T Δ O P E ∧ SRel g F σ Δ ∧ Wd g F O H ∧ (∀ ds O' F' H' J, P ds O' → Same F F' → Wd g F' O' H' → Gives g F' J ds → R J H') ∧ XOk g F W σ E
theorem pi_imp {X : Cx} {tg e : Expr} {t t' : TI} (h : PI X tg e t) (k : ∀ σ H Q, t' σ H Q → t σ H Q) : PI X tg e t' := ⟨fun pins s σ H R I q => h.run pins s σ H R I (k _ _ _ q)⟩
section
variable {g : Gm} {X : Cx} {W : WX} {pos pos' : Pos} {a b c tg : Expr} {Ta Tb : DE} {tA tB : DT} {R : DA}
theorem gives_list {F : Hp} {p : Addr} {vs : List V} {ds : List D} (h : F p = some (.lst vs)) (r : Reps g F ds vs) : Gives g F (Itl g.K p) ds := by
  refine ⟨fun i d F' O H q s w => ?_, fun i F' O H q s w => ⟨vs, SqL.of (w.same _ _ (s _ _ h)), by rw [← r.length]; exact q⟩⟩
  obtain ⟨v, hv, rv⟩ := r.get q
  have hs : SqL g.K H p vs := SqL.of (w.same _ _ (s _ _ h))
  refine ⟨⟨vs, v, hs, hv⟩, fun x H' ⟨e, y⟩ => ⟨F', Same.refl F', by rw [e]; exact w, ?_⟩⟩
  have z := y vs hs
  rw [hv] at z
  cases z
  exact rv.mono s
theorem gives_tup {F : Hp} {p : Addr} {vs : List V} {ds : List D} (h : SqT g.K F p vs) (r : Reps g F ds vs) : Gives g F (Itt g.K p) ds := by
  refine ⟨fun i d F' O H q s w => ?_, fun i F' O H q s w => ⟨vs, sqt_same w.same (sqt_same s h), by rw [← r.length]; exact q⟩⟩
  obtain ⟨v, hv, rv⟩ := r.get q
  have hs : SqT g.K H p vs := sqt_same w.same (sqt_same s h)
  refine ⟨⟨vs, v, hs, hv⟩, fun x H' ⟨e, y⟩ => ⟨F', Same.refl F', by rw [e]; exact w, ?_⟩⟩
  have z := y vs hs
  rw [hv] at z
  cases z
  exact rv.mono s
/-- the items of a list that stands still -/
def dItL (T : DE) : DA := fun Δ O P E => T Δ O (fun d O1 => match d with | .lst ds => P ds O1 | _ => False) E
def dItT (T : DE) : DA := fun Δ O P E => T Δ O (fun d O1 => match d with | .tup ds => P ds O1 | _ => False) E
theorem qi_list (ha : PE X a (le g W Ta)) (hK : X.K = g.K := by rfl) : PI X tg a (li g W (dItL Ta)) := by
  refine pi_imp (pi_list ha) fun σ H R h => ?_
  obtain ⟨Δ, O, P, E, F, hT, sr, w, hR, hx⟩ := h
  refine le_bind hT sr w hx fun d O1 v F1 H1 hT1 s1 sr1 w1 rx hx1 => ?_
  cases d with
  | lst ds =>
    obtain ⟨p, vs, rfl, h1, h2⟩ := Rep.lst_iff.mp rx
    exact ⟨p, rfl, ⟨vs, SqL.of (w1.same _ _ h1)⟩, hR _ _ _ _ _ hT1 s1 w1 (by rw [hK]; exact gives_list h1 h2)⟩
  | _ => exact hT1.elim
theorem qi_tup (ha : PE X a (le g W Ta)) (hK : X.K = g.K := by rfl) : PI X tg a (li g W (dItT Ta)) := by
  refine pi_imp (pi_tup ha) fun σ H R h => ?_
  obtain ⟨Δ, O, P, E, F, hT, sr, w, hR, hx⟩ := h
  refine le_bind hT sr w hx fun d O1 v F1 H1 hT1 s1 sr1 w1 rx hx1 => ?_
  cases d with
  | tup ds =>
    obtain ⟨p, vs, rfl, h1, h2⟩ := Rep.tup_sq rx
    exact ⟨p, rfl, ⟨vs, by rw [hK]; exact sqt_same w1.same h1⟩, hR _ _ _ _ _ hT1 s1 w1 (by rw [hK]; exact gives_tup h1 h2)⟩
  | _ => exact hT1.elim
def rangeD (lo : Int) (n : Nat) : List D := (List.range n).map fun (i : Nat) => .int (lo + (i : Int))
theorem gives_range {F : Hp} (lo : Int) (n : Nat) : Gives g F (Itr lo n) (rangeD lo n) := by
  refine ⟨fun i d F' O H q s w => ?_, fun i F' O H q s w => (show n ≤ i by simpa [rangeD] using q)⟩
  have hi : i < n := by
    have z := (List.getElem?_eq_some_iff.mp q).1
    simpa [rangeD] using z
  refine ⟨hi, fun x H' ⟨e, y⟩ => ⟨F', Same.refl F', by rw [e]; exact w, ?_⟩⟩
  have ed : d = .int (lo + (i : Int)) := by
    unfold rangeD at q
    rw [List.getElem?_map, List.getElem?_range hi] at q
    exact (Option.some.inj q).symm
  rw [ed, y]
  exact rint
def dRng1 (R : DA) : DA := fun Δ O P E => R Δ O (fun ds O1 => match ds with | [.int j] => -(2 ^ 62) ≤ j ∧ j < 2 ^ 62 ∧ P (rangeD 0 j.toNat) O1 | _ => False) E
def dRng2 (R : DA) : DA := fun Δ O P E => R Δ O (fun ds O1 => match ds with | [.int i, .int j] => (-(2 ^ 62) ≤ i ∧ i < 2 ^ 62 ∧ -(2 ^ 62) ≤ j ∧ j < 2 ^ 62) ∧ P (rangeD i (j - i).toNat) O1 | _ => False) E
theorem qi_range1 {p : Pos} (hm : X.mg "range" = none) (ha : PA X [a] (la g W R)) (hg : Gl X "range" := by rfl) (hs : starEach [a] X.env = [(false, eval a X.env)] := by rfl) : PI X tg (.Call (.Name "range" p) [a] [] pos) (li g W (dRng1 R)) := by
  refine pi_imp (pi_range1 hg hm ha hs) fun σ H Rr h => ?_
  obtain ⟨Δ, O, P, E, F, hT, sr, w, hR, hx⟩ := h
  refine la_bind hT sr w hx fun ds O1 vs F1 H1 hT1 s1 sr1 w1 rx hx1 => ?_
  split at hT1
  · rename_i j
    obtain ⟨v, r, rfl, h1, h2⟩ := Reps.cons_iff.mp rx
    rw [Reps.nil_iff] at h2
    subst h2
    exact ⟨j, by rw [Rep.int_iff.mp h1], hT1.1, hT1.2.1, hR _ _ _ _ _ hT1.2.2 s1 w1 (gives_range 0 _)⟩
  · exact hT1.elim
theorem qi_range2 {p : Pos} (hm : X.mg "range" = none) (ha : PA X [a, b] (la g W R)) (hg : Gl X "range" := by rfl) (hs : starEach [a, b] X.env = [(false, eval a X.env), (false, eval b X.env)] := by rfl) (hs2 : starEach [b] X.env = [(false, eval b X.env)] := by rfl) :
    PI X tg (.Call (.Name "range" p) [a, b] [] pos) (li g W (dRng2 R)) := by
  refine pi_imp (pi_range2 hg hm ha hs hs2) fun σ H Rr h => ?_
  obtain ⟨Δ, O, P, E, F, hT, sr, w, hR, hx⟩ := h
  refine la_bind hT sr w hx fun ds O1 vs F1 H1 hT1 s1 sr1 w1 rx hx1 => ?_
  split at hT1
  · rename_i i j
    obtain ⟨v, r, rfl, h1, h2⟩ := Reps.cons_iff.mp rx
    obtain ⟨v', r', rfl, h3, h4⟩ := Reps.cons_iff.mp h2
    rw [Reps.nil_iff] at h4
    subst h4
    exact ⟨i, j, by rw [Rep.int_iff.mp h1, Rep.int_iff.mp h3], hT1.1, hR _ _ _ _ _ hT1.2 s1 w1 (gives_range _ _)⟩
  · exact hT1.elim

/-! ### targets -/
abbrev DG := D → Sl → (Sl → Prop) → Prop
/-- a name; a tuple of names -/
def dgN (i : Nat) : DG := fun d Δ Q => Q (Δ.set i (some d))
def setAll : List Nat → List D → Sl → Option Sl
  | [], [], Δ => some Δ
  | i :: is, d :: ds, Δ => setAll is ds (Δ.set i (some d))
  | _, _, _ => none
def dgT (is : List Nat) : DG := fun d Δ Q => match d with | .tup ds => (match setAll is ds Δ with | some Δ' => Q Δ' | none => False) | _ => False
/-- the heap's target and the data's target belong together, and touch the slots js alone -/
def LkG (g : Gm) (t : TG) (G : DG) (js : List Nat) : Prop := ∀ d v σ Δ F O H (P : Sl → Prop) (Q : St → Hp → Prop), G d Δ P → Rep g F d v → SRel g F σ Δ → Wd g F O H →
  (∀ Δ' σ', P Δ' → SRel g F σ' Δ' → (∀ i : Nat, i ∉ js → σ'[i]? = σ[i]?) → σ'.length = σ.length → Q σ' H) → t v σ H Q
theorem lkg_name (i : Nat) : LkG g (gName i) (dgN i) [i] := fun d v σ Δ F O H P Q hG rv sr w k => k _ _ hG (sr.set rv i) (fun j hj => by
  rw [List.getElem?_set_ne]
  intro e
  exact hj (by simp [e])) (by simp)
def gNames : List Nat → TGs
  | [] => gNil
  | i :: is => gCons (gName i) (gNames is)
theorem lkg_names {F : Hp} {O : Sto} {H : Hp} : ∀ (is : List Nat) (ds : List D) (vs : List V) (σ : St) (Δ Δ' : Sl) (Q : St → Hp → Prop), setAll is ds Δ = some Δ' → Reps g F ds vs → SRel g F σ Δ → Wd g F O H →
    (∀ σ', SRel g F σ' Δ' → (∀ i : Nat, i ∉ is → σ'[i]? = σ[i]?) → σ'.length = σ.length → Q σ' H) → gNames is vs σ H Q ∧ vs.length = is.length := by
  intro is
  induction is with
  | nil =>
    intro ds vs σ Δ Δ' Q h r sr w k
    cases ds with
    | nil =>
      rw [Reps.nil_iff] at r
      subst r
      cases h
      exact ⟨⟨rfl, k σ sr (fun _ _ => rfl) rfl⟩, rfl⟩
    | cons d ds => simp [setAll] at h
  | cons i is ih =>
    intro ds vs σ Δ Δ' Q h r sr w k
    cases ds with
    | nil => simp [setAll] at h
    | cons d ds =>
      obtain ⟨v, rr, rfl, h1, h2⟩ := Reps.cons_iff.mp r
      obtain ⟨q1, q2⟩ := ih ds rr (σ.set i (some v)) (Δ.set i (some d)) Δ' Q h h2 (sr.set h1 i) w (fun σ' z1 z2 z3 => k σ' z1 (fun j hj => by
        rw [z2 j (fun z => hj (List.mem_cons_of_mem _ z)), List.getElem?_set_ne]
        intro e
        exact hj (by simp [e])) (by rw [z3]; simp))
      exact ⟨⟨v, rr, rfl, q1⟩, by rw [List.length_cons, List.length_cons, q2]⟩
theorem lkg_tup (is : List Nat) : LkG g (gTup g.K is.length (gNames is)) (dgT is) is := by
  intro d v σ Δ F O H P Q hG rv sr w k
  cases d with
  | tup ds =>
    obtain ⟨p, vs, rfl, h1, h2⟩ := Rep.tup_sq rv
    have hG : (match setAll is ds Δ with | some Δ' => P Δ' | none => False) := hG
    split at hG
    · rename_i Δ' e
      obtain ⟨q1, q2⟩ := lkg_names is ds vs σ Δ Δ' Q e h2 sr w (fun σ' z1 z2 z3 => k _ σ' hG z1 z2 z3)
      exact ⟨p, vs, rfl, sqt_same w.same h1, q2, q1⟩
    · exact hG.elim
  | _ => exact hG.elim

/-! ### for -/
def forD (Gd : DG) (B : DS) (E : DEnds) : List D → Sl → Sto → Prop
  | [], Δ, O => E.nx Δ O
  | d :: r, Δ, O => Gd d Δ fun Δ' => B { E with nx := forD Gd B E r, ct := forD Gd B E r, bk := E.nx } Δ' O
def dFor (R : DA) (G : DG) (B : DS) : DS := fun D Δ O => R Δ O (fun ds O1 => forD G B D ds Δ O1) (fun x O1 => D.xc x Δ O1)
theorem qs_for {iter : Expr} {body : List Stmt} {t : TG} {Gd : DG} {js : List Nat} {B : DS} (hp : PassesOwn (model X.prog X.w) X.A X.env X.xe) (hi : PI X tg iter (li g W R)) (hg : PG X tg t) (lk : LkG g t Gd js) (hb : PSs X body (ls g W B)) (hc : X.calm = true := by rfl)
    (hs : ∀ x, foldedSetIterable iter X.env x = pure x := by intro _; rfl) : PS X (.For tg iter body [] pos) (ls g W (dFor R Gd B)) := by
  refine ps_imp (ps_for hp hc hi hg hb hs) fun E σ H ⟨D, Δ, O, F, hT, sr, w, ho⟩ => ?_
  refine ⟨Δ, O, _, _, F, hT, sr, w, fun ds O1 F1 H1 J hP s1 w1 gv => ?_, ho.toX sr⟩
  refine ⟨fun i m σ H => m = ds.length - i ∧ i ≤ ds.length ∧ ∃ Δ O F', Same F1 F' ∧ SRel g F' σ Δ ∧ Wd g F' O H ∧ forD Gd B D (ds.drop i) Δ O, ⟨ds.length, by simp, Nat.zero_le _, Δ, O1, F1, Same.refl F1, sr.mono s1, w1, by simpa using hP⟩, ?_⟩
  rintro i m σ2 H2 ⟨rfl, hi, Δ2, O2, F2, s2, sr2, w2, hF⟩
  by_cases hlt : i < ds.length
  · obtain ⟨go, yl⟩ := gv.go i ds[i] F2 O2 H2 (List.getElem?_eq_getElem hlt) s2 w2
    refine .inr ⟨go, fun σ' H' => ∃ Δ O F', Same F1 F' ∧ SRel g F' σ' Δ ∧ Wd g F' O H' ∧ forD Gd B D (ds.drop (i + 1)) Δ O, fun σ' H' q => ⟨ds.length - (i + 1), by omega, rfl, hlt, q⟩, fun x H' y => ?_⟩
    obtain ⟨F3, s3, w3, r3⟩ := yl x H' y
    rw [List.drop_eq_getElem_cons hlt] at hF
    refine lk ds[i] x σ2 Δ2 F3 O2 H' _ _ hF r3 (sr2.mono s3) w3 fun Δ' σ' hB sr' _ _ => ?_
    have s03 : Same F F3 := s1.trans (s2.trans s3)
    refine ⟨_, Δ', O2, F3, hB, sr', w3, ?_⟩
    have nx : ∀ Δ O F' σ H, forD Gd B D (ds.drop (i + 1)) Δ O → Same F3 F' → SRel g F' σ Δ → Wd g F' O H → ∃ Δ O F', Same F1 F' ∧ SRel g F' σ Δ ∧ Wd g F' O H ∧ forD Gd B D (ds.drop (i + 1)) Δ O :=
      fun Δ O F' σ H q s sr w => ⟨Δ, O, F', (s2.trans s3).trans s, sr, w, q⟩
    exact ⟨nx, ho.rt.mono s03, fun Δ O F' σ H q s => (ho.mono s03).nx Δ O F' σ H q s, nx, (ho.mono s03).xc⟩
  · have e : i = ds.length := by omega
    subst e
    refine .inl ⟨gv.stop _ F2 O2 H2 (Nat.le_refl _) s2 w2, ?_⟩
    rw [List.drop_length] at hF
    exact ho.nx _ _ _ _ _ hF (s1.trans s2) sr2 w2
end
end G

set_option Elab.async false
set_option linter.all false
set_option maxRecDepth 100000
set_option maxHeartbeats 4000000
namespace G
open PySem L2
/-! ## comprehensions -/
def wipeD (Δ : Sl) : List Nat → Sl
  | [] => Δ
  | v :: vs => (wipeD Δ vs).set v none
theorem SRel.setNone {g : Gm} {F : Hp} {σ : St} {Δ : Sl} (h : SRel g F σ Δ) (i : Nat) : SRel g F (σ.set i none) (Δ.set i none) := by
  refine ⟨by rw [List.length_set, List.length_set, h.1], fun j e q => ?_⟩
  rw [List.getElem?_set] at q ⊢
  by_cases z : i = j
  · subst z
    rw [if_pos rfl] at q
    by_cases y : i < Δ.length
    · rw [if_pos y] at q
      cases q
    · rw [if_neg y] at q
      cases q
  · rw [if_neg z] at q ⊢
    exact h.2 j e q
theorem SRel.wipe {g : Gm} {F : Hp} {σ : St} {Δ : Sl} (h : SRel g F σ Δ) : ∀ vs : List Nat, SRel g F (L2.wipe σ vs) (wipeD Δ vs)
  | [] => h
  | v :: vs => (SRel.wipe h vs).setNone v
theorem wipe_at (σ : St) : ∀ (vs : List Nat) (i : Nat), (L2.wipe σ vs)[i]? = if i ∈ vs then (if i < σ.length then some none else none) else σ[i]?
  | [], i => by simp [L2.wipe]
  | v :: vs, i => by
    show ((L2.wipe σ vs).set v none)[i]? = _
    rw [List.getElem?_set]
    by_cases z : v = i
    · subst z
      rw [if_pos rfl, L2.wipe_length]
      simp
    · rw [if_neg z, wipe_at σ vs i]
      have e : (i ∈ v :: vs) ↔ i ∈ vs := by
        rw [List.mem_cons]
        exact ⟨fun h => h.elim (fun q => absurd q.symm z) id, .inr⟩
      simp only [e]
theorem wipe_wipe {σ τ : St} {vs : List Nat} (hl : τ.length = (L2.wipe σ vs).length) (h : ∀ i : Nat, i ∉ vs → τ[i]? = (L2.wipe σ vs)[i]?) : L2.wipe τ vs = L2.wipe σ vs := by
  apply List.ext_getElem?
  intro i
  rw [wipe_at, wipe_at]
  rw [L2.wipe_length] at hl
  by_cases z : i ∈ vs
  · rw [if_pos z, if_pos z, hl]
  · rw [if_neg z, if_neg z, h i z, wipe_at, if_neg z]

/-- [e for t in .. if c]: what is left to walk, what has been made (it stands at p) -/
def lcD (Gd : DG) (Tt : DT) (Te : DE) (p : Addr) (P : List D → Sto → Prop) : List D → List D → Sl → Sto → Prop
  | [], acc, _, O => P acc O
  | x :: r, acc, Δ, O => Gd x Δ fun Δ' => Tt Δ' ((p, .lst acc) :: O) (fun k O1 => if k = true
      then Te Δ' O1 (fun y O2 => ∃ O3, O2 = (p, .lst acc) :: O3 ∧ lcD Gd Tt Te p P r (acc ++ [y]) Δ O3) (fun _ _ => False)
      else ∃ O3, O1 = (p, .lst acc) :: O3 ∧ lcD Gd Tt Te p P r acc Δ O3) (fun _ _ => False)
def dLc (R : DA) (Gd : DG) (Tt : DT) (Te : DE) (vs : List Nat) : DE := fun Δ O P E => R Δ O (fun ds O1 => ds.length ≤ 1000000 ∧ ∀ p, freshC O1 p → lcD Gd Tt Te p (fun acc O2 => P (.lst acc) O2) ds [] (wipeD Δ vs) O1) E
/-- the list made is owned -/
def dLcO (R : DA) (Gd : DG) (Tt : DT) (Te : DE) (vs : List Nat) : DE := fun Δ O P E => R Δ O (fun ds O1 => ds.length ≤ 1000000 ∧ ∀ p, freshC O1 p → lcD Gd Tt Te p (fun acc O2 => P (.ptr p) ((p, .lst acc) :: O2)) ds [] (wipeD Δ vs) O1) E
abbrev W0 : WX := fun _ _ _ _ => False
section
variable {g : Gm} {X : Cx} {W : WX} {pos pos' : Pos} {a b c tg : Expr} {Ta Tb : DE} {tA tB : DT} {R : DA}
theorem xok0 {F : Hp} {σ : St} : XOk g F W0 σ (fun _ _ => False) := fun x O cls dd F' H q _ _ _ => q
theorem tlc_of {t : TG} {Gd : DG} {js vs : List Nat} {Tt : DT} {Te : DE} (lk : LkG g t Gd js) (hjs : ∀ j ∈ js, j ∈ vs) {PL : Addr → List D → Sto → Prop} {σ : St} {H : Hp} {Q : VK} {Δ : Sl} {O : Sto} {F : Hp} {J : It} {ds : List D}
    (hT : ds.length ≤ 1000000 ∧ ∀ p, freshC O p → lcD Gd Tt Te p (PL p) ds [] (wipeD Δ vs) O) (sr : SRel g F σ Δ) (w : Wd g F O H) (gv : Gives g F J ds)
    (hQ : ∀ p acc O1 F1 H1, PL p acc O1 → Same F F1 → Wd g F1 ((p, .lst acc) :: O1) H1 → Q (.ref p) H1) :
    ∀ Dl, H Dl = none → ∃ W : Nat → Nat → Hp → Prop, (∃ m, W 0 m (upd H Dl (.lst []))) ∧ ∀ i m H, W i m H →
      (J.stop i H ∧ Q (.ref Dl) H) ∨ (J.go i H ∧ ∃ Nx : Hp → Prop, (∀ H', Nx H' → ∃ m', m' < m ∧ W (i + 1) m' H') ∧ ∀ x H', J.yld i H x H' → t x (L2.wipe σ vs) H' fun σ2 H2 => L2.wipe σ2 vs = L2.wipe σ vs ∧ lt g W0 Tt σ2 H2 fun b H3 =>
        if b = true then le g W0 Te σ2 H3 fun y H4 => ∃ acc, H4 Dl = some (.lst acc) ∧ acc.length < sizeLine ∧ Nx (upd H4 Dl (.lst (acc ++ [y]))) else Nx H3) := by
  intro p hp
  obtain ⟨hz, hT⟩ := hT
  have hT := hT p (w.fresh hp)
  refine ⟨fun i m H => m = ds.length - i ∧ i ≤ ds.length ∧ ∃ acc O1 F', acc.length ≤ i ∧ Same F F' ∧ Wd g F' ((p, .lst acc) :: O1) H ∧ lcD Gd Tt Te p (PL p) (ds.drop i) acc (wipeD Δ vs) O1,
    ⟨ds.length, by simp, Nat.zero_le _, [], O, F, Nat.le_refl _, Same.refl F, w.own (c := .lst []) (o := .lst []) hp (Reps.nil (g := g) (F := F)), by simpa using hT⟩, ?_⟩
  rintro i m H2 ⟨rfl, hi, acc, O2, F2, ha, s2, w2, hL⟩
  by_cases hlt : i < ds.length
  · obtain ⟨go, yl⟩ := gv.go i ds[i] F2 _ H2 (List.getElem?_eq_getElem hlt) s2 w2
    refine .inr ⟨go, fun H' => ∃ acc O1 F', acc.length ≤ i + 1 ∧ Same F F' ∧ Wd g F' ((p, .lst acc) :: O1) H' ∧ lcD Gd Tt Te p (PL p) (ds.drop (i + 1)) acc (wipeD Δ vs) O1, fun H' q => ⟨ds.length - (i + 1), by omega, rfl, hlt, q⟩, fun x H' y => ?_⟩
    obtain ⟨F3, s3, w3, r3⟩ := yl x H' y
    rw [List.drop_eq_getElem_cons hlt] at hL
    refine lk ds[i] x (L2.wipe σ vs) (wipeD Δ vs) F3 _ H' _ _ hL r3 ((sr.wipe vs).mono (s2.trans s3)) w3 fun Δ' σ' hB sr' ho hl => ⟨wipe_wipe hl fun j hj => ho j fun q => hj (hjs j q), ?_⟩
    refine lt_bind hB sr' w3 xok0 fun k O4 F4 H4 hT4 s4 sr4 w4 hx4 => ?_
    cases k with
    | true =>
      rw [if_pos rfl] at hT4 ⊢
      refine le_bind hT4 sr4 w4 hx4 fun y O5 vy F5 H5 hT5 s5 sr5 w5 ry hx5 => ?_
      obtain ⟨O6, e6, hT6⟩ := hT5
      subst e6
      obtain ⟨_, ob, h1, h2⟩ := w5.cel (p, .lst acc) List.mem_cons_self
      cases ob with
      | lst vs' =>
        have h2 : Reps g F5 acc vs' := h2
        refine ⟨vs', h1, ?_, acc ++ [y], O6, F5, ?_, s2.trans (s3.trans (s4.trans s5)), ?_, hT6⟩
        · rw [← h2.length, sizeLine_eq]
          omega
        · rw [List.length_append, List.length_singleton]
          omega
        · have z := w5.set (a := p) (c := .lst acc) (c' := .lst (acc ++ [y])) (o := .lst (vs' ++ [vy])) (by simp [getC]) (h2.append (Reps.one ry))
          simpa [setC] using z
      | _ => exact h2.elim
    | false =>
      rw [if_neg Bool.false_ne_true] at hT4 ⊢
      obtain ⟨O6, e6, hT6⟩ := hT4
      subst e6
      exact ⟨acc, O6, F4, by omega, s2.trans (s3.trans s4), w4, hT6⟩
  · have e : i = ds.length := by omega
    subst e
    rw [List.drop_length] at hL
    exact .inl ⟨gv.stop _ F2 _ H2 (Nat.le_refl _) s2 w2, hQ p acc O2 F2 H2 hL s2 w2⟩
theorem q_lc {elt iter : Expr} {ifs : List Expr} {scope : Scope} {own : List (Str × Nat)} {t : TG} {Gd : DG} {js : List Nat} {Tt : DT} {Te : DE} (hN : X.N.Nodup) (hi : PI X tg iter (li g W R)) (ok : BlkOk X.N X.env.scope scope own)
    (hg : ∀ (s : Shared) (H : Hp) (C : Addr) (cl : List (Str × Addr)) (fp : List Addr), PG (X.blk s H scope (compEnvC scope cl C X.env) fp) tg t) (lk : LkG g t Gd js) (ht : ∀ (s : Shared) (H : Hp) (C : Addr) (cl : List (Str × Addr)) (fp : List Addr), PTs (X.blk s H scope (compEnvC scope cl C X.env) fp) ifs (lt g W0 Tt))
    (he : ∀ (s : Shared) (H : Hp) (C : Addr) (cl : List (Str × Addr)) (fp : List Addr), PE (X.blk s H scope (compEnvC scope cl C X.env) fp) elt (le g W0 Te)) (hc : X.calm = true := by rfl) (hjs : ∀ j ∈ js, j ∈ own.map (·.2) := by decide) (hs : ∀ x, foldedSetIterable iter X.env x = pure x := by intro _; rfl) :
    PE X (.ListComp elt [⟨tg, iter, ifs, 0⟩] scope pos) (le g W (dLc R Gd Tt Te (own.map (·.2)))) := by
  refine pe_imp (pe_lc hc hN hi ok hg ht he hs) fun σ H Q h => ?_
  obtain ⟨Δ, O, P, E, F, hT, sr, w, hv, hx⟩ := h
  refine ⟨Δ, O, _, _, F, hT, sr, w, fun ds O1 F1 H1 J hP s1 w1 gv => ?_, hx⟩
  refine tlc_of (PL := fun _ acc O2 => P (.lst acc) O2) lk hjs hP (sr.mono s1) w1 gv fun p acc O2 F2 H2 hp s2 w2 => ?_
  obtain ⟨o, ho, hc, s3, w3⟩ := w2.freeze (a := p) (c := .lst acc) (by simp [getC])
  exact hv _ _ _ _ _ hp (s1.trans (s2.trans s3)) (by simpa [delC] using w3) (frz_rep rfl hc (w2.cel _ List.mem_cons_self).1)
def dYes : DT := fun _ O P _ => P true O
theorem qts_nil : PTs X [] (lt g W dYes) := ⟨fun pins s σ H Q I h => pts_nil.run pins s σ H Q I (by
  obtain ⟨Δ, O, P, E, F, hT, sr, w, hv, hx⟩ := h
  exact hv.now hT w)⟩
theorem qts_one (h : PT X c (lt g W tA)) : PTs X [c] (lt g W tA) := pts_one h
/-- .. the list made is owned -/
theorem qs_asgLcO {i : Nat} {y : Str} {py spos : Pos} {elt iter : Expr} {ifs : List Expr} {scope : Scope} {own : List (Str × Nat)} {t : TG} {Gd : DG} {js : List Nat} {Tt : DT} {Te : DE} (hN : X.N.Nodup) (hi : PI X tg iter (li g W R)) (ok : BlkOk X.N X.env.scope scope own)
    (hg : ∀ (s : Shared) (H : Hp) (C : Addr) (cl : List (Str × Addr)) (fp : List Addr), PG (X.blk s H scope (compEnvC scope cl C X.env) fp) tg t) (lk : LkG g t Gd js) (ht : ∀ (s : Shared) (H : Hp) (C : Addr) (cl : List (Str × Addr)) (fp : List Addr), PTs (X.blk s H scope (compEnvC scope cl C X.env) fp) ifs (lt g W0 Tt))
    (he : ∀ (s : Shared) (H : Hp) (C : Addr) (cl : List (Str × Addr)) (fp : List Addr), PE (X.blk s H scope (compEnvC scope cl C X.env) fp) elt (le g W0 Te))
    (h : PS X (.Assign [.Name y py] (.ListComp elt [⟨tg, iter, ifs, 0⟩] scope pos) spos) (tAsg (tLc (li g W R) t (lt g W0 Tt) (le g W0 Te) (own.map (·.2))) (gName i))) (hjs : ∀ j ∈ js, j ∈ own.map (·.2) := by decide) :
    PS X (.Assign [.Name y py] (.ListComp elt [⟨tg, iter, ifs, 0⟩] scope pos) spos) (ls g W (dAsg i (dLcO R Gd Tt Te (own.map (·.2))))) := by
  refine ps_imp h fun En σ H ⟨D, Δ, O, F, hT, sr, w, ho⟩ => ?_
  refine ⟨Δ, O, _, _, F, hT, sr, w, fun ds O1 F1 H1 J hP s1 w1 gv => ?_, ho.toX sr⟩
  refine tlc_of (Q := fun x H1 => gName i x σ H1 En.nx) (PL := fun p acc O2 => D.nx (Δ.set i (some (.ptr p))) ((p, .lst acc) :: O2)) lk hjs hP (sr.mono s1) w1 gv fun p acc O2 F2 H2 hp s2 w2 => ?_
  have s := s1.trans s2
  exact ho.nx _ _ _ _ _ hp s ((sr.mono s).set (Rep.ptr_iff.mpr rfl) i) w2
end

/-! ## calls -/
abbrev DSp := List D → Sto → KD → KX → Prop
def toSp (g : Gm) (S : DSp) : Sp := fun vs H Q E => ∃ F O ds P EX, Reps g F ds vs ∧ Wd g F O H ∧ S ds O P EX ∧ VOk g F P Q ∧ ∀ x O' cls dd F' H', EX x O' → Same F F' → Wd g F' O' H' → RelX g F' cls dd x → E cls dd H'
/-- the def at f keeps the promise S, by level k -/
def FN (g : Gm) (P : Program) (w : World) (K : PySem.W.Frag) (mg : Str → Option Value) (base : Heap) (k : Nat) (f : Addr) (S : DSp) : Prop := FnR P w K mg base (L2.CX P w) k f (toSp g S)
theorem FN.mono {g : Gm} {P : Program} {w : World} {K : PySem.W.Frag} {mg : Str → Option Value} {base : Heap} {j k : Nat} {f : Addr} {S : DSp} (h : FN g P w K mg base j f S) (hj : j ≤ k) : FN g P w K mg base k f S :=
  fun A outer s H us vs Q E hr => h A outer s H us vs Q E (hr.mono hj)
theorem FN.imp {g : Gm} {P : Program} {w : World} {K : PySem.W.Frag} {mg : Str → Option Value} {base : Heap} {k : Nat} {f : Addr} {S S' : DSp} (h : FN g P w K mg base k f S) (hS : ∀ ds O P E, S' ds O P E → S ds O P E) : FN g P w K mg base k f S' :=
  fun A outer s H us vs Q E hr e0 hv ⟨F, O, ds, P, EX, h1, h2, h3, h4⟩ => h A outer s H us vs Q E hr e0 hv ⟨F, O, ds, P, EX, h1, h2, hS _ _ _ _ h3, h4⟩
section
variable {g : Gm} {X : Cx} {W : WX} {pos pos' p apos : Pos} {a b c o : Expr} {es : List Expr} {Ta Tb : DE} {R : DA} {k : Nat} {f : Addr} {S : DSp} {x m : Str}
theorem run_FN {pins : List (Addr × Obj)} {σ : St} {H : Hp} {s : Shared} {Q : VK} {us : List Value} {vs : List V} (Fn : FN g X.prog X.w X.K X.mg X.base k f S) (hr : Room k X.A) (tk : Takes X W) (I : Inv X pins σ H s) (r : Vals vs us)
    (h : toSp g S vs H Q (fun cls dd H' => W cls dd σ H')) : codeAny (model X.prog X.w) X.A (.call (.ref f) ⟨us, []⟩) (fun r s' => match r with | .ok (.ret v) => EP X pins σ Q v s' | .ok _ => False | .error e => X.xe e s') s := by
  refine codeAny_mono (Fn X.A X.stack s H us vs Q _ hr I.env0 r h) fun r s' hq => ?_
  cases r with
  | error e => exact passAt tk σ pins H s e s' I hq
  | ok fl =>
    cases fl with
    | ret u => exact I.after hq
    | next => exact False.elim hq
    | brk => exact False.elim hq
    | cont => exact False.elim hq
def dCall (S : DSp) (R : DA) : DE := fun Δ O P E => R Δ O (fun ds O1 => S ds O1 P E) E
theorem sp_of {σ : St} {H1 : Hp} {Q : VK} {P : KD} {E : KX} {F F1 : Hp} {O1 : Sto} {ds : List D} {vs : List V} (h : S ds O1 P E) (rs : Reps g F1 ds vs) (w1 : Wd g F1 O1 H1) (hv : VOk g F P Q) (s1 : Same F F1) (hx : XOk g F1 W σ E) :
    toSp g S vs H1 Q (fun cls dd H' => W cls dd σ H') := ⟨F1, O1, ds, P, E, rs, w1, h, hv.mono s1, hx⟩
theorem q_call (Fn : FN g X.prog X.w X.K X.mg X.base k f S) (hr : Room k X.A) (tk : Takes X W) (hm : X.mg x = some (.ref f)) (hk : PySem.W.keepIn X.K (.ref f) = true) (ha : PA X (a :: es) (la g W R)) (hg : Gl X x := by rfl)
    (hdb : (x == ("__debug__" : Str)) = false := by decide) (he : starEach (a :: es) X.env = (false, eval a X.env) :: starEach es X.env := by rfl) (hpl : (backTo pos (starEach es X.env)).any (·.1) = false := by rfl) :
    PE X (.Call (.Name x p) (a :: es) [] pos) (le g W (dCall S R)) := by
  refine ⟨fun pins s σ H Q I h => ?_⟩
  obtain ⟨Δ, O, P, E, F, hT, sr, w, hv, hx⟩ := h
  refine wpAny_Call_Name_kw (ld_glob I hg hm ?_ hdb)
  refine PySem.W.callWith_K (h₀ := X.base) I.ok.mod.kin hk (thn (ha.run pos pins s σ H _ I (la_bind (Q := fun vs H1 => toSp g S vs H1 Q fun cls dd H' => W cls dd σ H') hT sr w hx fun ds O1 vs F1 H1 hT1 s1 sr1 w1 rs hx1 => sp_of hT1 rs w1 hv s1 hx1)) fun us s1 ⟨vs, H1, I1, r, q⟩ => ⟨I1.kIn, ?_⟩) he hpl
  exact wpAny_call (run_FN Fn hr tk I1 r q)
/-! ### a new object -/
def dMake (cl : Cl) (S : DSp) (R : DA) : DE := fun Δ O P E => R Δ O (fun ds O1 => ∀ q, freshC O1 q → S (.ptr q :: ds) ((q, .ins cl [] []) :: O1)
  (fun r O2 => r = .non ∧ (match getC O2 q with | some (.ins c' fs ds') => P (.obj c' fs ds') (delC O2 q) | _ => False)) (fun x O2 => E x (delC O2 q))) E
/-- .. that will change -/
def dMakeO (cl : Cl) (S : DSp) (R : DA) : DE := fun Δ O P E => R Δ O (fun ds O1 => ∀ q, freshC O1 q → S (.ptr q :: ds) ((q, .ins cl [] []) :: O1)
  (fun r O2 => r = .non ∧ P (.ptr q) O2) (fun x O2 => E x (delC O2 q))) E
theorem wd_made {F : Hp} {O : Sto} {H : Hp} (w : Wd g F O H) {x dx : Addr} (hx : H x = none) (hd : H dx = none) (ne : dx ≠ x) (cl : Cl) :
    Same F (upd F dx (.own x)) ∧ Wd g (upd F dx (.own x)) ((x, .ins cl [] []) :: O) (upd (upd H dx (.own x)) x (.ins (g.ca cl) dx [])) :=
  ⟨w.fsame hd, (w.frozen (o := .own x) hd).own (c := .ins cl [] []) (o := .ins (g.ca cl) dx []) (by rw [upd_ne ne.symm]; exact hx) ⟨rfl, rfl, [], rfl, Reps.nil (g := g)⟩⟩
theorem run_mk {C : Addr} {pins : List (Addr × Obj)} {σ : St} {H : Hp} {s : Shared} {Q : VK} {us : List Value} {vs : List V} (M : Mk X.K C f) (Fn : FN g X.prog X.w X.K X.mg X.base k f S) (hr : Room (k + 1) X.A) (tk : Takes X W) (I : Inv X pins σ H s) (r : Vals vs us)
    (h : ∀ x dx, H x = Option.none → H dx = Option.none → dx ≠ x → toSp g S (V.ref x :: vs) (upd (upd H dx (.own x)) x (.ins C dx [])) (fun v H2 => v = .non ∧ Q (.ref x) H2) (fun cls dd H' => W cls dd σ H')) :
    wpAny (model X.prog X.w) X.A (call (.ref C) us) (EP X pins σ Q) X.xe s := by
  have hq := h (s.heap.objs.size + 1) s.heap.objs.size (I.hok.fresh (Nat.le_succ _)) (I.hok.fresh (Nat.le_refl _)) (Nat.ne_of_lt (Nat.lt_succ_self _))
  have I2 := Inv.made (C := C) I
  have r2 : Vals (V.ref (s.heap.objs.size + 1) :: vs) (Value.ref (s.heap.objs.size + 1) :: us) := .cons rfl r
  refine wpAny_call (make_map (f := f) I.kIn M.makes M.init (beq_iff_eq.mp M.fn) (codeAny_mono (Fn _ X.stack _ _ (Value.ref (s.heap.objs.size + 1) :: us) _ _ _ (hr.make C us []) (I2.env0.make C us []) r2 hq) fun r s' hq' => ?_))
  cases r with
  | error e => exact passAt tk σ pins _ _ e s' I2 hq'
  | ok fl =>
    cases fl with
    | ret u =>
      obtain ⟨v, H', I3, rv, ev, q3⟩ := I2.after hq'
      subst ev
      exact ⟨rv, ⟨V.ref (s.heap.objs.size + 1), H', I3, rfl, q3⟩⟩
    | next => exact False.elim hq'
    | brk => exact False.elim hq'
    | cont => exact False.elim hq'
theorem mk_sp {cl : Cl} {σ : St} {H1 : Hp} {Q : VK} {P : KD} {E : KX} {F F1 : Hp} {O1 : Sto} {ds : List D} {vs : List V}
    (h : ∀ q, freshC O1 q → S (.ptr q :: ds) ((q, .ins cl [] []) :: O1) (fun r O2 => r = .non ∧ (match getC O2 q with | some (.ins c' fs ds') => P (.obj c' fs ds') (delC O2 q) | _ => False)) (fun x O2 => E x (delC O2 q)))
    (rs : Reps g F1 ds vs) (w1 : Wd g F1 O1 H1) (hv : VOk g F P Q) (s1 : Same F F1) (hx : XOk g F1 W σ E) (x dx : Addr) (nx : H1 x = none) (nd : H1 dx = none) (ne : dx ≠ x) :
    toSp g S (V.ref x :: vs) (upd (upd H1 dx (.own x)) x (.ins (g.ca cl) dx [])) (fun v H2 => v = .non ∧ Q (.ref x) H2) (fun cls dd H' => W cls dd σ H') := by
  obtain ⟨s2, w2⟩ := wd_made w1 nx nd ne cl
  refine ⟨_, _, _, _, _, Reps.cons (Rep.ptr_iff.mpr rfl) (rs.mono s2), w2, h x (w1.fresh nx), fun d O3 v F3 H3 hd s3 w3 rd => ?_, fun y O3 cls dd F3 H3 hE s3 w3 rx => ?_⟩
  · obtain ⟨e, hd⟩ := hd
    subst e
    refine ⟨Rep.non_iff.mp rd, ?_⟩
    split at hd
    · rename_i c' fs ds' eg
      obtain ⟨ob, ho, hc, s4, w4⟩ := w3.freeze eg
      exact hv _ _ _ _ _ hd (s1.trans (s2.trans (s3.trans s4))) w4 (frz_rep rfl hc (w3.get eg).1)
    · exact hd.elim
  · exact hx _ _ _ _ _ _ hE (s2.trans s3) (w3.sub (delC_sub _ _)) rx
theorem q_make {cl : Cl} (M : Mk X.K (g.ca cl) f) (Fn : FN g X.prog X.w X.K X.mg X.base k f S) (hr : Room (k + 1) X.A) (tk : Takes X W) (hm : X.mg x = some (.ref (g.ca cl))) (ha : PA X (a :: es) (la g W R)) (hg : Gl X x := by rfl)
    (hdb : (x == ("__debug__" : Str)) = false := by decide) (he : starEach (a :: es) X.env = (false, eval a X.env) :: starEach es X.env := by rfl) (hpl : (backTo pos (starEach es X.env)).any (·.1) = false := by rfl) :
    PE X (.Call (.Name x p) (a :: es) [] pos) (le g W (dMake cl S R)) := by
  refine ⟨fun pins s σ H Q I h => ?_⟩
  obtain ⟨Δ, O, P, E, F, hT, sr, w, hv, hx⟩ := h
  refine wpAny_Call_Name_kw (ld_glob I hg hm ?_ hdb)
  refine PySem.W.callWith_K (h₀ := X.base) I.ok.mod.kin M.kp (thn (ha.run pos pins s σ H _ I (la_bind (Q := fun vs H1 => ∀ x dx, H1 x = none → H1 dx = none → dx ≠ x → toSp g S (V.ref x :: vs) (upd (upd H1 dx (.own x)) x (.ins (g.ca cl) dx [])) (fun v H2 => v = .non ∧ Q (.ref x) H2) fun cls dd H' => W cls dd σ H') hT sr w hx
    fun ds O1 vs F1 H1 hT1 s1 sr1 w1 rs hx1 x dx nx nd ne => mk_sp hT1 rs w1 hv s1 hx1 x dx nx nd ne)) fun us s1 ⟨vs, H1, I1, r, q⟩ => ⟨I1.kIn, ?_⟩) he hpl
  exact run_mk M Fn hr tk I1 r q

/-! ### a method, by the class of its object -/
def clsOf (O : Sto) (d : D) : Option Cl := (objOf O d).map (·.1)
/-- class and method: the def that serves it keeps S -/
structure MOk (g : Gm) (P : Program) (w : World) (K : PySem.W.Frag) (mg : Str → Option Value) (base : Heap) (k : Nat) (cl : Cl) (m : Str) (S : DSp) : Prop where
  cls : Cls K (g.ca cl)
  ex : ∃ f, Meth K (g.ca cl) m f ∧ FN g P w K mg base k f S
def tabAt : List (Cl × DSp) → Cl → Option DSp
  | [], _ => none
  | (c, S) :: r, d => if d = c then some S else tabAt r d
def MTab (g : Gm) (P : Program) (w : World) (K : PySem.W.Frag) (mg : Str → Option Value) (base : Heap) (k : Nat) (m : Str) (tab : List (Cl × DSp)) : Prop := ∀ c S, tabAt tab c = some S → MOk g P w K mg base k c m S
def dMeth (tab : List (Cl × DSp)) (To : DE) (R : DA) : DE := fun Δ O P E => To Δ O (fun o O1 => match clsOf O1 o with
  | some c => (match tabAt tab c with | some S => R Δ O1 (fun ds O2 => S (o :: ds) O2 P E) E | none => False)
  | none => False) E
theorem obj_look {F : Hp} {O : Sto} {H : Hp} {d : D} {v : V} {c : Cl} (h : clsOf O d = some c) (r : Rep g F d v) (w : Wd g F O H) (hm : Fd.of m = none) : ∃ q dx fs, v = .ref q ∧ H q = some (.ins (g.ca c) dx fs) ∧ fs.lookup m = none := by
  unfold clsOf at h
  cases e : objOf O d with
  | none => rw [e] at h; cases h
  | some t =>
    rw [e] at h
    cases h
    obtain ⟨q, dx, vs, rfl, h1, h2, h3⟩ := obj_of e r w
    refine ⟨q, dx, _, rfl, h1, getF_none fun f _ z => ?_⟩
    rw [z, Fd.of_str] at hm
    cases hm
end
end G

set_option Elab.async false
set_option linter.all false
set_option maxRecDepth 100000
set_option maxHeartbeats 4000000
namespace G
open PySem L2
/-! ## a def keeps its promise -/
def Weak (O O' : Sto) : Prop := ∀ g F H, Wd g F O H → Wd g F O' H
def Opn (O : Sto) (R : Sto → Prop) : Prop := ∀ g F H, Wd g F O H → ∃ O', Wd g F O' H ∧ R O'
theorem Weak.refl (O : Sto) : Weak O O := fun _ _ _ w => w
theorem Weak.sub {O O' : Sto} (h : O'.Sublist O) : Weak O O' := fun _ _ _ w => w.sub h
theorem Weak.trans {O O1 O2 : Sto} (h : Weak O O1) (h' : Weak O1 O2) : Weak O O2 := fun g F H w => h' g F H (h g F H w)
theorem Weak.cons {O : Sto} {c : Addr × Cell} : Weak (c :: O) O := Weak.sub (List.sublist_cons_self _ _)
theorem Weak.cons2 {O O' : Sto} {c : Addr × Cell} (h : Weak O O') : Weak (c :: O) O' := Weak.cons.trans h
theorem Opn.now {O : Sto} {R : Sto → Prop} (h : R O) : Opn O R := fun _ _ _ w => ⟨O, w, h⟩
def boxC (cs : List Int) (i a s : Int) : Cell := .lst [.lst (cs.map D.int), .int i, .int a, .int s]
theorem setC_same {O : Sto} {a : Addr} {c : Cell} (h : getC O a = some c) : setC O a c = O := by
  induction O with
  | nil => rfl
  | cons q r ih =>
    obtain ⟨b, c0⟩ := q
    simp only [getC] at h
    simp only [setC]
    by_cases e : a = b
    · subst e
      simp at h
      subst h
      simp
    · rw [if_neg e] at h ⊢
      rw [ih h]
theorem setC_setC (O : Sto) (a : Addr) (c c' : Cell) : setC (setC O a c) a c' = setC O a c' := by
  induction O with
  | nil => rfl
  | cons q r ih =>
    obtain ⟨b, c0⟩ := q
    simp only [setC]
    by_cases e : a = b
    · subst e
      simp [setC]
    · rw [if_neg e, if_neg e]
      simp [setC, e, ih]
theorem getC_setC {O : Sto} {a : Addr} {c c' : Cell} (h : getC O a = some c) : getC (setC O a c') a = some c' := by
  induction O with
  | nil => simp [getC] at h
  | cons q r ih =>
    obtain ⟨b, c0⟩ := q
    simp only [getC] at h
    simp only [setC]
    by_cases e : a = b
    · subst e
      simp [getC]
    · rw [if_neg e] at h ⊢
      simp only [getC]
      rw [if_neg e]
      exact ih h
theorem getC_setC_ne {O : Sto} {a b : Addr} {c' : Cell} (h : b ≠ a) : getC (setC O a c') b = getC O b := by
  induction O with
  | nil => rfl
  | cons q r ih =>
    obtain ⟨d, c0⟩ := q
    simp only [setC]
    by_cases e : a = d
    · subst e
      simp [getC, h]
    · rw [if_neg e]
      simp only [getC]
      by_cases e2 : b = d
      · rw [if_pos e2, if_pos e2]
      · rw [if_neg e2, if_neg e2]
        exact ih
theorem fresh_ne {O : Sto} {a p : Addr} {c : Cell} (h : getC O a = some c) (f : freshC O p) : a ≠ p := f _ (getC_mem h)
/-- the box opened: what is in it -/
theorem Opn.box {O : Sto} {b : Addr} {R : Sto → Prop} (h : getC O b = some .box) (k : ∀ cs i a s, cs.length ≤ 63 → 0 ≤ i → 0 ≤ a → R (setC O b (boxC cs i a s))) : Opn O R := fun g F H w => by
  obtain ⟨fa, o, ho, hc⟩ := w.get h
  cases o with
  | lst vs =>
    obtain ⟨cs, i, a, s, h1, h2, h3, h4⟩ := hc
    refine ⟨_, ?_, k cs i a s h2 h3 h4⟩
    have z := w.set h (c' := boxC cs i a s) (o := .lst vs) h1
    have e : upd H b (.lst vs) = H := by
      funext q
      by_cases z : q = b
      · rw [z, upd_same, ho]
      · rw [upd_ne z]
    rw [e] at z
    exact z
  | _ => exact hc.elim
/-- .. and shut again -/
theorem Weak.box {O : Sto} {b : Addr} {cs : List Int} {i a s : Int} (h : getC O b = some (boxC cs i a s)) (h2 : cs.length ≤ 63) (h3 : 0 ≤ i) (h4 : 0 ≤ a) : Weak O (setC O b .box) := fun g F H w => by
  obtain ⟨fa, o, ho, hc⟩ := w.get h
  cases o with
  | lst vs =>
    have z := w.set h (c' := .box) (o := .lst vs) ⟨cs, i, a, s, hc, h2, h3, h4⟩
    have e : upd H b (.lst vs) = H := by
      funext q
      by_cases z : q = b
      · rw [z, upd_same, ho]
      · rw [upd_ne z]
    rw [e] at z
    exact z
  | _ => exact hc.elim
/-- a fresh list becomes the box -/
theorem Weak.toBox {O : Sto} {b : Addr} {cs : List Int} {i a s : Int} (h2 : cs.length ≤ 63) (h3 : 0 ≤ i) (h4 : 0 ≤ a) : Weak ((b, boxC cs i a s) :: O) ((b, .box) :: O) := by
  have z := Weak.box (O := (b, boxC cs i a s) :: O) (b := b) (cs := cs) (i := i) (a := a) (s := s) (by simp [getC]) h2 h3 h4
  simpa [setC] using z

def endsD (P : KD) (E : KX) : DEnds where
  nx := fun _ O' => ∃ O1, Weak O' O1 ∧ P .non O1
  rt := fun d O' => ∃ O1, Weak O' O1 ∧ P d O1
  xc := fun x _ O' => ∃ O1, Weak O' O1 ∧ E x O1
def startD (N : List Str) (ds : List D) : Sl := ds.map some ++ List.replicate (N.length - ds.length) none
theorem srel_start {g : Gm} {F : Hp} {N : List Str} {ds : List D} {vs : List V} (h : Reps g F ds vs) : SRel g F (L2.start N vs) (startD N ds) := by
  have hl := h.length
  refine ⟨by simp [L2.start, startD, hl], fun i d q => ?_⟩
  unfold startD at q
  unfold L2.start
  by_cases hi : i < ds.length
  · rw [List.getElem?_append_left (by simpa using hi), List.getElem?_map] at q
    cases e : ds[i]? with
    | none => rw [e] at q; cases q
    | some d' =>
      rw [e] at q
      cases q
      obtain ⟨v, hv, rv⟩ := h.get e
      refine ⟨v, ?_, rv⟩
      rw [List.getElem?_append_left (by simpa [← hl] using hi), List.getElem?_map, hv]
      rfl
  · rw [List.getElem?_append_right (by simpa using hi)] at q
    have z := List.mem_of_getElem? q
    rw [List.mem_replicate] at z
    exact absurd z.2 (by simp)
section
variable {P : Program} {w : World} {K : PySem.W.Frag} {mg : Str → Option Value} {base : Heap}
abbrev wE (E : XK) : WX := fun cls dd _ H => E cls dd H
theorem fn_okF {g : Gm} {x qual : Str} {st : Stmt} {f : Addr} {fd : FuncData} {N ps : List Str} {k : Nat} {S : DSp} {T : DS} (Fn : Fun K x qual st f fd) (Sc : FnScope N ps (defScope st)) (len : ∀ ds O P E, S ds O P E → ds.length = ps.length)
    (body : ∀ (cdv : Value) (A : Around) (outer : List Env) (s : Shared) (H : Hp) (E : XK), Room k (A.deeper (PyProof.Rows.envOfC qual (defScope st) s.heap.objs.size f cdv)) →
      PSs (cxOf (L2.CX P w) P w K mg base N qual (defScope st) f cdv A outer s H E) (defBody st) (ls g (wE E) T))
    (pure : ∀ ds O P E, S ds O P E → Opn O fun O' => T (endsD P E) (startD N ds) O') : FnOk P w K mg base (L2.CX P w) (k + 1) f fd ps (toSp g S) := by
  refine Fn.okX Sc (fun vs H Q E h => ?_) fun cdv A outer s H vs Q E hr h => ⟨_, body cdv A outer s H E hr, ?_⟩
  · obtain ⟨F, O, ds, P', EX, h1, h2, h3, _⟩ := h
    rw [← h1.length]
    exact len _ _ _ _ h3
  · obtain ⟨F, O, ds, P', EX, h1, h2, h3, h4, h5⟩ := h
    obtain ⟨O', w', hT⟩ := pure ds O P' EX h3 g F H h2
    refine ⟨endsD P' EX, startD N ds, O', F, hT, srel_start h1, w', ⟨fun Δ O1 F1 σ H1 ⟨O2, wk, q⟩ s1 sr1 w1 => ?_, fun d O1 v F1 H1 ⟨O2, wk, q⟩ s1 w1 r1 => ?_, fun _ _ _ _ _ q => q.elim, fun _ _ _ _ _ q => q.elim, fun y Δ O1 cls dd F1 σ H1 ⟨O2, wk, q⟩ s1 sr1 w1 r1 => ?_⟩⟩
    · exact h4 _ _ _ _ _ q s1 (wk _ _ _ w1) (Rep.non_iff.mpr rfl)
    · exact h4 _ _ _ _ _ q s1 (wk _ _ _ w1) r1
    · exact h5 _ _ _ _ _ _ q s1 (wk _ _ _ w1) r1
theorem fn_FN {g : Gm} {f : Addr} {fd : FuncData} {ps : List Str} {k : Nat} {S : DSp} (F : FnOk P w K mg base (L2.CX P w) k f fd ps (toSp g S)) (hb : Binds K fd ps []) : FN g P w K mg base k f S :=
  fun A outer s H us vs Q E hr e0 hv h => F.run A outer s H ⟨us, []⟩ us vs Q E hr e0 (by
    have hl : us.length = ps.length := by rw [← hv.length]; exact F.len _ _ _ _ h
    have z := hb s us (e0.mod.kin.keeps fun b o e => (e0.bs b o e).1) (by rw [List.append_nil]; exact hl)
    rw [List.append_nil] at z
    exact z) hv h
end

/-! ## builtins -/
section
variable {g : Gm} {X : Cx} {W : WX} {pos pos' p : Pos} {a b c : Expr} {Ta Tb : DE}
def seqOf (O : Sto) : D → Option (List D)
  | .tup ds => some ds
  | d => lstOf O d
def lenD (O : Sto) : D → Option Nat
  | .str x => if x.length ≤ sizeLine then some x.length else none
  | .dic ks _ => some ks.length
  | .tup ds => some ds.length
  | .ptr q => match getC O q with
    | some (.lst ds) => some ds.length
    | some (.dic ks _) => some ks.length
    | _ => none
  | .lst ds => some ds.length
  | _ => none
def fLen : BC := fun ds O P => match ds with | [d] => (match lenD O d with | some n => P (.int (n : Int)) O | none => False) | _ => False
def rLenA (K : PySem.W.Frag) : List V → Hp → VK → Prop := fun xs H Q => (∃ p ys, xs = [.ref p] ∧ (SqL K H p ys ∨ SqT K H p ys) ∧ Q (.int ys.length) H) ∨ (∃ z, xs = [.str z] ∧ z.length ≤ sizeLine ∧ Q (.int z.length) H) ∨ ∃ d kvs, xs = [.ref d] ∧ Rd H d (.dK kvs) ∧ Q (.int kvs.length) H
theorem call_lenRd : CallR X (.builtin "len") (fun xs H Q => ∃ a kvs, xs = [V.ref a] ∧ Rd H a (.dK kvs) ∧ Q (.int kvs.length) H) := by
  intro pins s σ H xs us Q I r h
  obtain ⟨a, kvs, rfl, e, q⟩ := h
  obtain ⟨u, rfl, rx⟩ := vals1 r
  obtain rfl : u = Value.ref a := rx
  exact d_len I e fun t s' I' => ⟨V.int kvs.length, H, I', ⟨t, rfl⟩, q⟩
theorem call_lenA : CallR X (.builtin "len") (rLenA X.K) := CallR.or call_len_seq (CallR.or call_len_str call_lenRd)
theorem zipK_len {F : Hp} {ks : List Key} {ds : List D} {vs : List V} (h : Reps g F ds vs) (hl : ks.length = ds.length) : (zipK ks vs).length = ks.length := by
  unfold zipK
  rw [List.length_zip, ← h.length]
  omega
theorem lk_len : LkC g (rLenA g.K) fLen := by
  intro ds O P F H vs Q hf rs w hv
  unfold fLen at hf
  split at hf
  · rename_i d
    obtain ⟨v, r, rfl, h1, h2⟩ := Reps.cons_iff.mp rs
    rw [Reps.nil_iff] at h2
    subst h2
    split at hf
    · rename_i n e
      cases d with
      | str x =>
        simp only [lenD] at e
        split at e
        · rename_i hl
          cases e
          rw [Rep.str_iff.mp h1]
          exact .inr (.inl ⟨x, rfl, hl, hv.now hf w rint⟩)
        · cases e
      | tup ds =>
        obtain ⟨q, vs, rfl, h3, h4⟩ := Rep.tup_sq h1
        cases e
        exact .inl ⟨q, vs, rfl, .inr (sqt_same w.same h3), by rw [← h4.length]; exact hv.now hf w rint⟩
      | lst ds =>
        obtain ⟨q, vs, rfl, h3, h4⟩ := Rep.lst_iff.mp h1
        cases e
        exact .inl ⟨q, vs, rfl, .inl (SqL.of (w.same _ _ h3)), by rw [← h4.length]; exact hv.now hf w rint⟩
      | dic ks ds =>
        obtain ⟨q, od, vs, rfl, h3, h5, h4⟩ := Rep.dic_iff.mp h1
        cases e
        exact .inr (.inr ⟨q, _, rfl, .inr ⟨od, w.same _ _ h3⟩, by rw [zipK_len h4 h5]; exact hv.now hf w rint⟩)
      | ptr q =>
        have ev := Rep.ptr_iff.mp h1
        subst ev
        simp only [lenD] at e
        split at e
        · rename_i ds eg
          cases e
          obtain ⟨_, ob, h3, h4⟩ := w.get eg
          cases ob with
          | lst vs =>
            have h4 : Reps g F ds vs := h4
            exact .inl ⟨q, vs, rfl, .inl (SqL.of h3), by rw [← h4.length]; exact hv.now hf w rint⟩
          | _ => exact h4.elim
        · rename_i ks ds eg
          cases e
          obtain ⟨_, ob, h3, h4⟩ := w.get eg
          cases ob with
          | dK kvs =>
            obtain ⟨h5, vs, rfl, h6⟩ := h4
            exact .inr (.inr ⟨q, _, rfl, .inl h3, by rw [zipK_len h6 h5]; exact hv.now hf w rint⟩)
          | _ => exact h4.elim
        · cases e
      | _ => simp [lenD] at e
    · exact hf.elim
  · exact hf.elim
def fInt : BC := fun ds O P => match ds with | [.int i] => P (.int i) O | [.bl k] => P (.int (if k then 1 else 0)) O | _ => False
theorem lk_int : LkC g (fun xs H Q => (∃ i, xs = [.int i] ∧ Q (.int i) H) ∨ ∃ k, xs = [.bl k] ∧ Q (.int (if k then 1 else 0)) H) fInt := by
  intro ds O P F H vs Q hf rs w hv
  unfold fInt at hf
  split at hf
  · rename_i i
    obtain ⟨v, r, rfl, h1, h2⟩ := Reps.cons_iff.mp rs
    rw [Reps.nil_iff] at h2
    subst h2
    exact .inl ⟨i, by rw [Rep.int_iff.mp h1], hv.now hf w rint⟩
  · rename_i k
    obtain ⟨v, r, rfl, h1, h2⟩ := Reps.cons_iff.mp rs
    rw [Reps.nil_iff] at h2
    subst h2
    exact .inr ⟨k, by rw [Rep.bl_iff.mp h1], hv.now hf w rint⟩
  · exact hf.elim
def fNeg : D → Sto → KD → Prop := fun x O P => match x with | .int i => P (.int (-i)) O | _ => False
def dUn (f : D → Sto → KD → Prop) (T : DE) : DE := fun Δ O P E => T Δ O (fun x O1 => f x O1 P) E
theorem q_neg (ha : PE X a (le g W Ta)) : PE X (.UnaryOp .USub a pos) (le g W (dUn fNeg Ta)) := by
  refine pe_imp (pe_un un_neg ha) fun σ H Q h => ?_
  obtain ⟨Δ, O, P, E, F, hT, sr, w, hv, hx⟩ := h
  refine le_bind hT sr w hx fun d O1 v F1 H1 hT1 s1 sr1 w1 rx hx1 => ?_
  cases d with
  | int i => exact ⟨i, Rep.int_iff.mp rx, (hv.mono s1).now hT1 w1 rint⟩
  | _ => exact hT1.elim
/-- isinstance(x, T), T a built-in class -/
def tyD (O : Sto) : D → Option String
  | .non => some "NoneType"
  | .bl _ => some "bool"
  | .int _ => some "int"
  | .str _ => some "str"
  | .lst _ => some "list"
  | .ptr q => match getC O q with | some (.lst _) => some "list" | some (.dic _ _) => some "dict" | _ => none
  | .dic _ _ => some "dict"
  | _ => none
theorem ty_of {F : Hp} {O : Sto} {H : Hp} {d : D} {v : V} {n : String} (h : tyD O d = some n) (r : Rep g F d v) (w : Wd g F O H) : TyX g.K H v (.type n) := by
  cases d with
  | non => cases h; rw [Rep.non_iff.mp r]; exact .base .non
  | bl b => cases h; rw [Rep.bl_iff.mp r]; exact .base (.bl b)
  | int i => cases h; rw [Rep.int_iff.mp r]; exact .base (.int i)
  | str x => cases h; rw [Rep.str_iff.mp r]; exact .base (.str x)
  | lst ds =>
    cases h
    obtain ⟨q, vs, rfl, h3, h4⟩ := Rep.lst_iff.mp r
    exact .base (.lst (w.same _ _ h3))
  | dic ks ds =>
    cases h
    obtain ⟨q, od, vs, rfl, h3, h4⟩ := Rep.dic_iff.mp r
    exact .fDict (w.same _ _ h3)
  | ptr q =>
    rw [Rep.ptr_iff] at r
    subst r
    simp only [tyD] at h
    split at h
    · rename_i ds eg
      cases h
      obtain ⟨_, ob, h3, h4⟩ := w.get eg
      cases ob with
      | lst vs => exact .base (.lst h3)
      | _ => exact h4.elim
    · rename_i ks ds eg
      cases h
      obtain ⟨_, ob, h3, h4⟩ := w.get eg
      cases ob with
      | dK vs => exact .base (.dK h3)
      | _ => exact h4.elim
    · cases h
  | _ => simp [tyD] at h
def dIsT (n : String) (T : DE) : DE := fun Δ O P E => T Δ O (fun d O1 => match tyD O1 d with
  | some m => (match kitB m n with | some k => P (.bl k) O1 | none => False)
  | none => False) E
/-! ### slices -/
def cutD (xs : List D) (lo hi : Option Int) : List D := (xs.drop (HT.sIx xs.length 0 lo)).take (HT.sIx xs.length xs.length hi - HT.sIx xs.length 0 lo)
abbrev DO := Sl → Sto → (Option Int → Sto → Prop) → KX → Prop
def dNoP : DO := fun _ O P _ => P none O
def dPart (T : DE) : DO := fun Δ O P E => T Δ O (fun d O1 => match d with | .int i => P (some i) O1 | _ => False) E
def lo' (g : Gm) (W : WX) (T : DO) : TO := fun σ H Q => ∃ Δ O P E F, T Δ O P E ∧ SRel g F σ Δ ∧ Wd g F O H ∧ (∀ i O' F' H', P i O' → Same F F' → Wd g F' O' H' → Q i H') ∧ XOk g F W σ E
theorem po_imp {X : Cx} {e : Option Expr} {t t' : TO} (h : PO X e t) (k : ∀ σ H Q, t' σ H Q → t σ H Q) : PO X e t' := ⟨fun pins s σ H Q I q => h.run pins s σ H Q I (k _ _ _ q)⟩
theorem qo_none : PO X none (lo' g W dNoP) := po_imp po_none fun σ H Q ⟨Δ, O, P, E, F, hT, sr, w, hv, hx⟩ => hv _ _ _ _ hT (Same.refl F) w
theorem qo_some (h : PE X a (le g W Ta)) : PO X (some a) (lo' g W (dPart Ta)) := by
  refine po_imp (po_some h) fun σ H Q h => ?_
  obtain ⟨Δ, O, P, E, F, hT, sr, w, hv, hx⟩ := h
  refine le_bind hT sr w hx fun d O1 v F1 H1 hT1 s1 sr1 w1 rx hx1 => ?_
  cases d with
  | int i => exact ⟨i, Rep.int_iff.mp rx, hv _ _ _ _ hT1 s1 w1⟩
  | _ => exact hT1.elim
def dSlice (T : DE) (L U : DO) : DE := fun Δ O P E => T Δ O (fun d O1 => L Δ O1 (fun l O2 => U Δ O2 (fun u O3 => match d with
  | .scr ns => P (.lst (cutD (ns.map D.int) l u)) O3
  | _ => match lstOf O3 d with | some ds => P (.lst (cutD ds l u)) O3 | none => False) E) E) E
theorem Reps.cut {F : Hp} {ds : List D} {vs : List V} (h : Reps g F ds vs) (lo hi : Option Int) : Reps g F (cutD ds lo hi) (cutV vs lo hi) := by
  unfold cutD cutV
  rw [h.length]
  exact (h.drop _).take _
theorem q_slice {lo hi : Option Expr} {L U : DO} {p2 : Pos} (ha : PE X a (le g W Ta)) (hl : PO X lo (lo' g W L)) (hu : PO X hi (lo' g W U)) (hK : X.K = g.K := by rfl) : PE X (.Subscript a (.Slice lo hi none p2) pos) (le g W (dSlice Ta L U)) := by
  refine pe_imp (pe_slice sl_list ha hl hu) fun σ H Q h => ?_
  obtain ⟨Δ, O, P, E, F, hT, sr, w, hv, hx⟩ := h
  refine le_bind hT sr w hx fun d O1 v F1 H1 hT1 s1 sr1 w1 rx hx1 => ⟨Δ, O1, _, E, F1, hT1, sr1, w1, fun l O2 F2 H2 hT2 s2 w2 => ⟨Δ, O2, _, E, F2, hT2, sr1.mono s2, w2, fun u O3 F3 H3 hT3 s3 w3 => ?_, hx1.mono s2⟩, hx1⟩
  have s13 : Same F F3 := s1.trans (s2.trans s3)
  have r3 := rx.mono (s2.trans s3)
  have key : (match lstOf O3 d with | some ds => P (.lst (cutD ds l u)) O3 | none => False) → rSlL X.K v l u H3 Q := by
    intro hf
    split at hf
    · rename_i ds e
      obtain ⟨q, vs, rfl, h1, h2⟩ := lst_of e r3 w3
      exact ⟨q, vs, rfl, SqL.of h1, fun t ht => hv _ _ _ _ _ hf (s13.trans (w3.fsame ht)) (w3.frozen ht) ((h2.cut l u).newL (w3.same.free ht))⟩
    · exact hf.elim
  cases d with
  | scr ns =>
    obtain ⟨q, rfl, h1⟩ := Rep.scr_iff.mp r3
    refine ⟨q, ns.map V.int, rfl, by rw [hK]; exact w3.same.seq h1, fun t ht => hv _ _ _ _ _ hT3 (s13.trans (w3.fsame ht)) (w3.frozen ht) ?_⟩
    exact ((Reps.ints (g := g) (F := F3)).mpr rfl |>.cut l u).newL (w3.same.free ht)
  | _ => exact key hT3
end
end G

set_option Elab.async false
set_option linter.all false
set_option maxRecDepth 100000
set_option maxHeartbeats 4000000
namespace G
open PySem L2
/-! ## == of plain data -/
mutual
def py : D → Option PyData
  | .non => some .none
  | .bl b => some (.bool b)
  | .int i => some (.int i)
  | .str x => some (.str x)
  | .lst ds => (pys ds).map .list
  | .tup ds => (pys ds).map .tuple
  | _ => none
def pys : List D → Option (List PyData)
  | [] => some []
  | d :: ds => match py d, pys ds with | some x, some xs => some (x :: xs) | _, _ => none
end
section
variable {g : Gm}
mutual
theorem py_dp {F : Hp} {O : Sto} {H : Hp} (w : Wd g F O H) : ∀ {d : D} {v : V} {x : PyData}, py d = some x → Rep g F d v → Dp g.K H v x
  | .non, v, x, h, r => by simp only [py] at h; cases h; rw [Rep.non_iff.mp r]; exact .non
  | .bl b, v, x, h, r => by simp only [py] at h; cases h; rw [Rep.bl_iff.mp r]; exact .bl b
  | .int b, v, x, h, r => by simp only [py] at h; cases h; rw [Rep.int_iff.mp r]; exact .int b
  | .str b, v, x, h, r => by simp only [py] at h; cases h; rw [Rep.str_iff.mp r]; exact .str b
  | .lst ds, v, x, h, r => by
    simp only [py] at h
    obtain ⟨p, vs, rfl, h1, h2⟩ := Rep.lst_iff.mp r
    cases e : pys ds with
    | none => rw [e] at h; cases h
    | some xs =>
      rw [e] at h
      cases h
      exact .lst (SqL.of (w.same _ _ h1)) (pys_dp w e h2)
  | .tup ds, v, x, h, r => by
    simp only [py] at h
    obtain ⟨p, vs, rfl, h1, h2⟩ := Rep.tup_sq r
    cases e : pys ds with
    | none => rw [e] at h; cases h
    | some xs =>
      rw [e] at h
      cases h
      exact .tup (sqt_same w.same h1) (pys_dp w e h2)
  | .obj _ _ _, v, x, h, r => by simp [py] at h
  | .dic _ _, v, x, h, r => by simp [py] at h
  | .ptr _, v, x, h, r => by simp [py] at h
  | .scr _, v, x, h, r => by simp [py] at h
  | .cls _, v, x, h, r => by simp [py] at h
  | .xcp _ _ _ _, v, x, h, r => by simp [py] at h
theorem pys_dp {F : Hp} {O : Sto} {H : Hp} (w : Wd g F O H) : ∀ {ds : List D} {vs : List V} {xs : List PyData}, pys ds = some xs → Reps g F ds vs → DpAll g.K H vs xs
  | [], vs, xs, h, r => by
    simp only [pys] at h
    cases h
    rw [Reps.nil_iff] at r
    subst r
    exact .nil
  | d :: ds, vs, xs, h, r => by
    obtain ⟨v, rr, rfl, h1, h2⟩ := Reps.cons_iff.mp r
    simp only [pys] at h
    cases e1 : py d with
    | none => rw [e1] at h; cases h
    | some x =>
      cases e2 : pys ds with
      | none => rw [e1, e2] at h; cases h
      | some xs' =>
        rw [e1, e2] at h
        cases h
        exact .cons (py_dp w e1 h1) (pys_dp w e2 h2)
end
end
/-- the answer of x == y -/
def eqB (x y : D) : Option Bool := match x, y with
  | .int i, .int j => some (decide (i = j))
  | .bl i, .bl j => some (decide (i = j))
  | .str i, .str j => some (decide (i = j))
  | _, _ => match py x, py y with
    | some a, some b => if SeqAt.shaped a = true ∧ SeqAt.shaped b = true then some (PyData.eqv a b) else none
    | _, _ => none
def fEq : B2 := fun x y O P => match eqB x y with | some k => P (.bl k) O | none => False
def fNe : B2 := fun x y O P => match eqB x y with | some k => P (.bl (!k)) O | none => False
def rEqA (K : PySem.W.Frag) : R2 := fun x y H Q => rEq x y H Q ∨ rEqD K x y H Q
def rNeA (K : PySem.W.Frag) : R2 := fun x y H Q => rNe x y H Q ∨ rNeD K x y H Q
section
variable {g : Gm} {X : Cx} {W : WX} {pos pos' p : Pos} {a b c : Expr} {Ta Tb : DE}
theorem op_eqA (hu : X.A.units + 64 < cLine) (hK : X.K = g.K := by rfl) : OpR X (compareOp .Eq) (rEqA g.K) := by
  rw [← hK]
  exact OpR.or op_eq (op_eqD hu)
theorem op_neA (hu : X.A.units + 64 < cLine) (hK : X.K = g.K := by rfl) : OpR X (compareOp .NotEq) (rNeA g.K) := by
  rw [← hK]
  exact OpR.or op_ne (op_neD hu)
theorem eqB_cases {x y : D} {k : Bool} (h : eqB x y = some k) : (∃ i j, x = .int i ∧ y = .int j ∧ k = decide (i = j)) ∨ (∃ i j, x = .bl i ∧ y = .bl j ∧ k = decide (i = j)) ∨ (∃ i j, x = .str i ∧ y = .str j ∧ k = decide (i = j)) ∨
    ∃ d e, py x = some d ∧ py y = some e ∧ SeqAt.shaped d = true ∧ SeqAt.shaped e = true ∧ k = PyData.eqv d e := by
  unfold eqB at h
  split at h
  · exact .inl ⟨_, _, rfl, rfl, (Option.some.inj h).symm⟩
  · exact .inr (.inl ⟨_, _, rfl, rfl, (Option.some.inj h).symm⟩)
  · exact .inr (.inr (.inl ⟨_, _, rfl, rfl, (Option.some.inj h).symm⟩))
  · split at h
    · rename_i d e h1 h2
      split at h
      · rename_i hs
        exact .inr (.inr (.inr ⟨d, e, h1, h2, hs.1, hs.2, (Option.some.inj h).symm⟩))
      · cases h
    · cases h
theorem lk_eq : Lk2 g (rEqA g.K) fEq := by
  intro x y O P F H vx vy Q hf rx ry w hv
  unfold fEq at hf
  split at hf
  · rename_i k e
    rcases eqB_cases e with ⟨i, j, rfl, rfl, rfl⟩ | ⟨i, j, rfl, rfl, rfl⟩ | ⟨i, j, rfl, rfl, rfl⟩ | ⟨d, e', h1, h2, h3, h4, rfl⟩
    · rw [Rep.int_iff.mp rx, Rep.int_iff.mp ry]
      refine .inl ⟨rfl, ?_⟩
      have z : decide (V.int i = V.int j) = decide (i = j) := by simp
      rw [z]
      exact hv.now hf w rbl
    · rw [Rep.bl_iff.mp rx, Rep.bl_iff.mp ry]
      refine .inl ⟨rfl, ?_⟩
      have z : decide (V.bl i = V.bl j) = decide (i = j) := by simp
      rw [z]
      exact hv.now hf w rbl
    · rw [Rep.str_iff.mp rx, Rep.str_iff.mp ry]
      refine .inl ⟨rfl, ?_⟩
      have z : decide (V.str i = V.str j) = decide (i = j) := by simp
      rw [z]
      exact hv.now hf w rbl
    · exact .inr ⟨d, e', py_dp w h1 rx, py_dp w h2 ry, h3, h4, hv.now hf w rbl⟩
  · exact hf.elim
theorem lk_ne : Lk2 g (rNeA g.K) fNe := by
  intro x y O P F H vx vy Q hf rx ry w hv
  unfold fNe at hf
  split at hf
  · rename_i k e
    rcases eqB_cases e with ⟨i, j, rfl, rfl, rfl⟩ | ⟨i, j, rfl, rfl, rfl⟩ | ⟨i, j, rfl, rfl, rfl⟩ | ⟨d, e', h1, h2, h3, h4, rfl⟩
    · rw [Rep.int_iff.mp rx, Rep.int_iff.mp ry]
      refine .inl ⟨rfl, ?_⟩
      have z : decide (V.int i = V.int j) = decide (i = j) := by simp
      rw [z]
      exact hv.now hf w rbl
    · rw [Rep.bl_iff.mp rx, Rep.bl_iff.mp ry]
      refine .inl ⟨rfl, ?_⟩
      have z : decide (V.bl i = V.bl j) = decide (i = j) := by simp
      rw [z]
      exact hv.now hf w rbl
    · rw [Rep.str_iff.mp rx, Rep.str_iff.mp ry]
      refine .inl ⟨rfl, ?_⟩
      have z : decide (V.str i = V.str j) = decide (i = j) := by simp
      rw [z]
      exact hv.now hf w rbl
    · exact .inr ⟨d, e', py_dp w h1 rx, py_dp w h2 ry, h3, h4, hv.now hf w rbl⟩
  · exact hf.elim
end

/-! ## what the top has written -/
/-- the names of builtins that the program's top leaves alone -/
structure Bt (mg : Str → Option Value) : Prop where
  len : mg "len" = none
  int : mg "int" = none
  bool : mg "bool" = none
  str : mg "str" = none
  isinstance : mg "isinstance" = none
  range : mg "range" = none
  max : mg "max" = none
  min : mg "min" = none
  abs : mg "abs" = none
  sorted : mg "sorted" = none
  sum : mg "sum" = none
  any : mg "any" = none
  all : mg "all" = none
  list : mg "list" = none
  dict : mg "dict" = none
  tuple : mg "tuple" = none
  enumerate : mg "enumerate" = none
  zip : mg "zip" = none
  repr : mg "repr" = none
  iter : mg "iter" = none
  super : mg "super" = none
section
variable (g : Gm) (P : Program) (w : World) (K : PySem.W.Frag) (mg : Str → Option Value) (base : Heap)
/-- the def of that name keeps S -/
def GD (k : Nat) (name : Str) (S : DSp) : Prop := ∃ f, mg name = some (.ref f) ∧ PySem.W.keepIn K (.ref f) = true ∧ FN g P w K mg base k f S
/-- the class of that name can be made, its __init__ keeps S -/
def GC (k : Nat) (cl : Cl) (name : Str) (S : DSp) : Prop := mg name = some (.ref (g.ca cl)) ∧ ∃ f, Mk K (g.ca cl) f ∧ FN g P w K mg base k f S
end
section
variable {g : Gm} {P : Program} {w : World} {K : PySem.W.Frag} {mg : Str → Option Value} {base : Heap}
/-- what a def's body needs: its walk, for every place it stands at -/
def BodyOk (g : Gm) (P : Program) (w : World) (K : PySem.W.Frag) (mg : Str → Option Value) (base : Heap) (k : Nat) (N : List Str) (qual : Str) (st : Stmt) (T : DS) : Prop :=
  ∀ (f : Addr) (cdv : Value) (A : Around) (outer : List Env) (s : Shared) (H : Hp) (E : XK), Room k (A.deeper (PyProof.Rows.envOfC qual (defScope st) s.heap.objs.size f cdv)) →
      PSs (cxOf (L2.CX P w) P w K mg base N qual (defScope st) f cdv A outer s H E) (defBody st) (ls g (wE E) T)
/-- the promise follows from the body's reading -/
def Pure (N : List Str) (n : Nat) (S : DSp) (T : DS) : Prop := ∀ ds O P E, S ds O P E → ds.length = n ∧ Opn O fun O' => T (endsD P E) (startD N ds) O'
theorem GD.mono {j k : Nat} {name : Str} {S : DSp} (h : GD g P w K mg base j name S) (hj : j ≤ k) : GD g P w K mg base k name S := by
  obtain ⟨f, h1, h2, h3⟩ := h
  exact ⟨f, h1, h2, h3.mono hj⟩
theorem MOk.mono {j k : Nat} {cl : Cl} {name : Str} {S : DSp} (h : MOk g P w K mg base j cl name S) (hj : j ≤ k) : MOk g P w K mg base k cl name S := by
  obtain ⟨h1, f, h2, h3⟩ := h
  exact ⟨h1, f, h2, h3.mono hj⟩
theorem mt_nil {k : Nat} {m : Str} : MTab g P w K mg base k m [] := fun c S h => by simp [tabAt] at h
theorem mt_cons {k : Nat} {m : Str} {cl : Cl} {S : DSp} {r : List (Cl × DSp)} (h : MOk g P w K mg base k cl m S) (t : MTab g P w K mg base k m r) : MTab g P w K mg base k m ((cl, S) :: r) := fun c S' e => by
  simp only [tabAt] at e
  by_cases q : c = cl
  · rw [if_pos q] at e
    cases e
    rw [q]
    exact h
  · rw [if_neg q] at e
    exact t c S' e
end
section
variable {g : Gm} {X : Cx} {W : WX} {pos pos' p : Pos} {a b c : Expr} {es : List Expr} {R : DA} {k j : Nat} {x : Str} {S : DSp} {cl : Cl}
theorem q_gcall (h : GD g X.prog X.w X.K X.mg X.base k x S) (hr : Room j X.A) (tk : Takes X W) (ha : PA X (a :: es) (la g W R)) (hkj : k ≤ j := by first | decide | omega) (hg : Gl X x := by rfl)
    (hdb : (x == ("__debug__" : Str)) = false := by decide) (he : starEach (a :: es) X.env = (false, eval a X.env) :: starEach es X.env := by rfl) (hpl : (backTo pos (starEach es X.env)).any (·.1) = false := by rfl) :
    PE X (.Call (.Name x p) (a :: es) [] pos) (le g W (dCall S R)) := by
  obtain ⟨f, hm, hk, Fn⟩ := h
  exact q_call Fn (hr.mono hkj) tk hm hk ha hg hdb he hpl
theorem q_gmake (h : GC g X.prog X.w X.K X.mg X.base k cl x S) (hr : Room j X.A) (tk : Takes X W) (ha : PA X (a :: es) (la g W R)) (hkj : k + 1 ≤ j := by first | decide | omega) (hg : Gl X x := by rfl)
    (hdb : (x == ("__debug__" : Str)) = false := by decide) (he : starEach (a :: es) X.env = (false, eval a X.env) :: starEach es X.env := by rfl) (hpl : (backTo pos (starEach es X.env)).any (·.1) = false := by rfl) :
    PE X (.Call (.Name x p) (a :: es) [] pos) (le g W (dMake cl S R)) := by
  obtain ⟨hm, f, mk, Fn⟩ := h
  exact q_make mk Fn (hr.mono hkj) tk hm ha hg hdb he hpl
/-- a statement's list is frozen ahead of it -/
def dFrzS (i : Nat) (T : DS) : DS := fun D Δ O => match Δ[i]? with
  | some (some (.ptr q)) => (match getC O q with | some c => (match frzD c with | some d => T D (Δ.set i (some d)) (delC O q) | none => False) | none => False)
  | _ => False
end
end G

set_option Elab.async false
set_option linter.all false
set_option maxRecDepth 100000
set_option maxHeartbeats 4000000
namespace G
open PySem L2
/-! ## reading by rewriting -/
section
variable {Δ : Sl} {O : Sto} {P : KD} {E : KX} {En : DEnds} {Ta Tb Tc : DE} {T U : DS} {R : DA} {t u : DT} {i j : Nat} {d x y : D} {PB : Bool → Sto → Prop} {PA : List D → Sto → Prop}
/-- the value in a slot -/
def sl (Δ : Sl) (i : Nat) : Option D := match Δ[i]? with | some o => o | none => none
theorem e_v0 {r : Sl} : dVar 0 (some d :: r) O P E = P d O := propext Iff.rfl
theorem e_vS {o : Option D} {r : Sl} : dVar (i + 1) (o :: r) O P E = dVar i r O P E := by
  unfold dVar
  rw [List.getElem?_cons_succ]
theorem e_seq : dSeq T U En Δ O = T { En with nx := U En } Δ O := propext Iff.rfl
theorem e_asg : dAsg i Ta En Δ O = Ta Δ O (fun d O1 => En.nx (Δ.set i (some d)) O1) (fun x O1 => En.xc x Δ O1) := propext Iff.rfl
theorem e_exp : dExp Ta En Δ O = Ta Δ O (fun _ O1 => En.nx Δ O1) (fun x O1 => En.xc x Δ O1) := propext Iff.rfl
theorem e_ret : dRet Ta En Δ O = Ta Δ O En.rt (fun x O1 => En.xc x Δ O1) := propext Iff.rfl
theorem e_retN : dRetN En Δ O = En.rt .non O := propext Iff.rfl
theorem e_ifS : dIfS t T U En Δ O = t Δ O (fun k O1 => if k = true then T En Δ O1 else U En Δ O1) (fun x O1 => En.xc x Δ O1) := propext Iff.rfl
theorem e_next : dNext En Δ O = En.nx Δ O := propext Iff.rfl
theorem e_nev : dNev En Δ O = False := propext Iff.rfl
theorem e_c : dC d Δ O P E = P d O := propext Iff.rfl
theorem e_op {f : B2} : dOp f Ta Tb Δ O P E = Ta Δ O (fun x O1 => Tb Δ O1 (fun y O2 => f x y O2 P) E) E := propext Iff.rfl
theorem e_un {f : D → Sto → KD → Prop} : dUn f Ta Δ O P E = Ta Δ O (fun x O1 => f x O1 P) E := propext Iff.rfl
theorem e_te : dTe Ta Δ O PB E = Ta Δ O (fun d O1 => match d with | .bl k => PB k O1 | _ => False) E := propext Iff.rfl
theorem e_tru : dTru Ta Δ O PB E = Ta Δ O (fun d O1 => match truD O1 d with | some k => PB k O1 | none => False) E := propext Iff.rfl
theorem e_and : dAnd t u Δ O PB E = t Δ O (fun k O1 => if k = true then u Δ O1 PB E else PB false O1) E := propext Iff.rfl
theorem e_or : dOr t u Δ O PB E = t Δ O (fun k O1 => if k = true then PB true O1 else u Δ O1 PB E) E := propext Iff.rfl
theorem e_not : dNot t Δ O PB E = t Δ O (fun k O1 => PB (!k) O1) E := propext Iff.rfl
theorem e_andV : dAndV Ta Tb Δ O P E = Ta Δ O (fun d O1 => match d with | .bl k => (if k = true then Tb Δ O1 P E else P (.bl false) O1) | _ => False) E := propext Iff.rfl
theorem e_orV : dOrV Ta Tb Δ O P E = Ta Δ O (fun d O1 => match d with | .bl k => (if k = true then P (.bl true) O1 else Tb Δ O1 P E) | _ => False) E := propext Iff.rfl
theorem e_notV : dNotV Ta Δ O P E = Ta Δ O (fun d O1 => match d with | .bl k => P (.bl (!k)) O1 | _ => False) E := propext Iff.rfl
theorem e_if : dIf t Ta Tb Δ O P E = t Δ O (fun k O1 => if k = true then Ta Δ O1 P E else Tb Δ O1 P E) E := propext Iff.rfl
theorem e_chain {f f' : B2} : dChain f f' Ta Tb Tc Δ O P E = Ta Δ O (fun x O1 => Tb Δ O1 (fun y O2 => f x y O2 (fun z O3 => match z with | .bl k => (if k = true then Tc Δ O3 (fun t O4 => f' y t O4 P) E else P (.bl false) O3) | _ => False)) E) E := propext Iff.rfl
theorem e_nil : dNil Δ O PA E = PA [] O := propext Iff.rfl
theorem e_cons : dCons Ta R Δ O PA E = Ta Δ O (fun d O1 => R Δ O1 (fun ds O2 => PA (d :: ds) O2) E) E := propext Iff.rfl
theorem e_tup : dTup R Δ O P E = R Δ O (fun ds O1 => ds.length ≤ sizeLine ∧ P (.tup ds) O1) E := propext Iff.rfl
theorem e_lst : dLst R Δ O P E = R Δ O (fun ds O1 => ds.length ≤ sizeLine ∧ P (.lst ds) O1) E := propext Iff.rfl
theorem e_lstO : dLstO R Δ O P E = R Δ O (fun ds O1 => ds.length ≤ sizeLine ∧ ∀ p, freshC O1 p → P (.ptr p) ((p, .lst ds) :: O1)) E := propext Iff.rfl
theorem e_cb {f : BC} : dCB f R Δ O P E = R Δ O (fun ds O1 => f ds O1 P) E := propext Iff.rfl
theorem e_call {S : DSp} : dCall S R Δ O P E = R Δ O (fun ds O1 => S ds O1 P E) E := propext Iff.rfl
theorem e_fld {cs : List Cl} {f : Fd} : dFld cs f Ta Δ O P E = Ta Δ O (fun d O1 => match objOf O1 d with
  | some t => t.1 ∈ cs ∧ (match getF f t.2.1 t.2.2 with | some e => P e O1 | none => False)
  | none => False) E := propext Iff.rfl
theorem e_frz : dFrz Ta Δ O P E = Ta Δ O (fun d O1 => match d with
  | .ptr a => (match getC O1 a with | some c => (match frzD c with | some d' => P d' (delC O1 a) | none => False) | none => False)
  | _ => False) E := propext Iff.rfl
theorem e_app : dApp Ta Tb Δ O P E = Ta Δ O (fun o O1 => match o with
  | .ptr p => (match getC O1 p with
    | some (.lst _) => Tb Δ O1 (fun d O2 => match getC O2 p with
      | some (.lst ds) => ds.length < sizeLine ∧ P .non (setC O2 p (.lst (ds ++ [d])))
      | _ => False) E
    | _ => False)
  | _ => False) E := propext Iff.rfl
theorem e_setIx : dSetIx Ta Tb Tc En Δ O = Tc Δ O (fun d O1 => Ta Δ O1 (fun o O2 => Tb Δ O2 (fun i O3 => match o, i with
  | .ptr p, .int k => (match getC O3 p with
    | some (.lst ds) => (match setI ds k d with | some es => En.nx Δ (setC O3 p (.lst es)) | none => False)
    | _ => False)
  | _, _ => False) (fun x O1 => En.xc x Δ O1)) (fun x O1 => En.xc x Δ O1)) (fun x O1 => En.xc x Δ O1) := propext Iff.rfl
theorem set_0 {a d : D} {r : List D} : setI (a :: r) 0 d = some (d :: r) := by
  have h : ixN (a :: r).length 0 = some 0 := by unfold ixN; rw [if_pos (by omega), if_pos (by simp only [List.length_cons]; omega)]; rfl
  unfold setI
  rw [h]
  rfl
theorem set_1 {a b d : D} {r : List D} : setI (a :: b :: r) 1 d = some (a :: d :: r) := by
  have h : ixN (a :: b :: r).length 1 = some 1 := by unfold ixN; rw [if_pos (by omega), if_pos (by simp only [List.length_cons]; omega)]; rfl
  unfold setI
  rw [h]
  rfl
theorem set_2 {a b c d : D} {r : List D} : setI (a :: b :: c :: r) 2 d = some (a :: b :: d :: r) := by
  have h : ixN (a :: b :: c :: r).length 2 = some 2 := by unfold ixN; rw [if_pos (by omega), if_pos (by simp only [List.length_cons]; omega)]; rfl
  unfold setI
  rw [h]
  rfl
theorem set_3 {a b c e d : D} {r : List D} : setI (a :: b :: c :: e :: r) 3 d = some (a :: b :: c :: d :: r) := by
  have h : ixN (a :: b :: c :: e :: r).length 3 = some 3 := by unfold ixN; rw [if_pos (by omega), if_pos (by simp only [List.length_cons]; omega)]; rfl
  unfold setI
  rw [h]
  rfl
theorem e_setF {cs : List Cl} {f : Fd} : dSetF cs f Ta Tb En Δ O = Tb Δ O (fun d O1 => Ta Δ O1 (fun o O2 => match o with
  | .ptr p => (match getC O2 p with
    | some (.ins c fs ds) => c ∈ cs ∧ fs.length < 900 ∧ En.nx Δ (setC O2 p (.ins c (putFs f fs) (putDs f d fs ds)))
    | _ => False)
  | _ => False) (fun x O1 => En.xc x Δ O1)) (fun x O1 => En.xc x Δ O1) := propext Iff.rfl
theorem e_isT {n : String} : dIsT n Ta Δ O P E = Ta Δ O (fun d O1 => match tyD O1 d with
  | some m => (match kitB m n with | some k => P (.bl k) O1 | none => False)
  | none => False) E := propext Iff.rfl
theorem e_make {cl : Cl} {S : DSp} : dMake cl S R Δ O P E = R Δ O (fun ds O1 => ∀ q, freshC O1 q → S (.ptr q :: ds) ((q, .ins cl [] []) :: O1)
  (fun r O2 => r = .non ∧ (match getC O2 q with | some (.ins c' fs ds') => P (.obj c' fs ds') (delC O2 q) | _ => False)) (fun x O2 => E x (delC O2 q))) E := propext Iff.rfl
/-! ### operations on made data -/
theorem f_ixT {ds : List D} {i : Int} : fIx (.tup ds) (.int i) O P = (match atI ds i with | some d => P d O | none => False) := propext Iff.rfl
theorem f_ixL {ds : List D} {i : Int} : fIx (.lst ds) (.int i) O P = (match atI ds i with | some d => P d O | none => False) := propext Iff.rfl
theorem f_ixP {a : Addr} {i : Int} : fIx (.ptr a) (.int i) O P = (match lstOf O (.ptr a) with | some ds => (match atI ds i with | some d => P d O | none => False) | none => False) := propext Iff.rfl
theorem f_add {i j : Int} : fAdd (.int i) (.int j) O P = P (.int (i + j)) O := propext Iff.rfl
theorem f_sub {i j : Int} : fSub (.int i) (.int j) O P = P (.int (i - j)) O := propext Iff.rfl
theorem f_mul {i j : Int} : fMul (.int i) (.int j) O P = (CMul i j ∧ P (.int (i * j)) O) := propext Iff.rfl
theorem f_mod {i j : Int} : fMod (.int i) (.int j) O P = (0 < j ∧ P (.int (i % j)) O) := propext Iff.rfl
theorem f_div {i j : Int} : fDiv (.int i) (.int j) O P = (CDiv i j ∧ P (.int (i / j)) O) := propext Iff.rfl
theorem f_pow {i j : Int} : fPow (.int i) (.int j) O P = (CPow i j ∧ P (.int (i ^ j.toNat)) O) := propext Iff.rfl
theorem f_lt {i j : Int} : fLt (.int i) (.int j) O P = P (.bl (decide (i < j))) O := propext Iff.rfl
theorem f_le {i j : Int} : fLe (.int i) (.int j) O P = P (.bl (decide (i ≤ j))) O := propext Iff.rfl
theorem f_gt {i j : Int} : fGt (.int i) (.int j) O P = P (.bl (decide (j < i))) O := propext Iff.rfl
theorem f_ge {i j : Int} : fGe (.int i) (.int j) O P = P (.bl (decide (j ≤ i))) O := propext Iff.rfl
theorem f_eq {i j : Int} : fEq (.int i) (.int j) O P = P (.bl (decide (i = j))) O := propext Iff.rfl
theorem f_ne {i j : Int} : fNe (.int i) (.int j) O P = P (.bl (!decide (i = j))) O := propext Iff.rfl
theorem f_int {i : Int} : fInt [.int i] O P = P (.int i) O := propext Iff.rfl
theorem f_neg {i : Int} : fNeg (.int i) O P = P (.int (-i)) O := propext Iff.rfl
theorem f_lenL {ds : List D} : fLen [.lst ds] O P = P (.int (ds.length : Int)) O := propext Iff.rfl
theorem f_lenT {ds : List D} : fLen [.tup ds] O P = P (.int (ds.length : Int)) O := propext Iff.rfl
theorem f_lenP {a : Addr} : fLen [.ptr a] O P = (match lenD O (.ptr a) with | some n => P (.int (n : Int)) O | none => False) := propext Iff.rfl
theorem getC_self {a : Addr} {c : Cell} : getC ((a, c) :: O) a = some c := by simp [getC]
theorem getC_other {a b : Addr} {c : Cell} (h : a ≠ b) : getC ((b, c) :: O) a = getC O a := by simp [getC, h]
theorem setC_self {a : Addr} {c c' : Cell} : setC ((a, c) :: O) a c' = (a, c') :: O := by simp [setC]
theorem delC_self {a : Addr} {c : Cell} : delC ((a, c) :: O) a = O := by simp [delC]
theorem setC_other {a b : Addr} {c c' : Cell} (h : a ≠ b) : setC ((b, c) :: O) a c' = (b, c) :: setC O a c' := by simp [setC, h]
theorem at_0 {a : D} {r : List D} : atI (a :: r) 0 = some a := atI_nat (j := 0) rfl
theorem at_1 {a b : D} {r : List D} : atI (a :: b :: r) 1 = some b := atI_nat (j := 1) rfl
theorem at_2 {a b c : D} {r : List D} : atI (a :: b :: c :: r) 2 = some c := atI_nat (j := 2) rfl
theorem at_3 {a b c e : D} {r : List D} : atI (a :: b :: c :: e :: r) 3 = some e := atI_nat (j := 3) rfl
theorem f_ixT0 {a : D} {r : List D} : fIx (.tup (a :: r)) (.int 0) O P = P a O := by rw [f_ixT, at_0]
theorem f_ixT1 {a b : D} {r : List D} : fIx (.tup (a :: b :: r)) (.int 1) O P = P b O := by rw [f_ixT, at_1]
theorem f_ixT2 {a b c : D} {r : List D} : fIx (.tup (a :: b :: c :: r)) (.int 2) O P = P c O := by rw [f_ixT, at_2]
theorem f_ixL0 {a : D} {r : List D} : fIx (.lst (a :: r)) (.int 0) O P = P a O := by rw [f_ixL, at_0]
theorem f_ixL1 {a b : D} {r : List D} : fIx (.lst (a :: b :: r)) (.int 1) O P = P b O := by rw [f_ixL, at_1]
theorem f_ixL2 {a b c : D} {r : List D} : fIx (.lst (a :: b :: c :: r)) (.int 2) O P = P c O := by rw [f_ixL, at_2]
theorem f_ixL3 {a b c e : D} {r : List D} : fIx (.lst (a :: b :: c :: e :: r)) (.int 3) O P = P e O := by rw [f_ixL, at_3]
theorem at_m1 {l : List D} {a : D} : atI (l ++ [a]) (-1) = some a := atI_last l a
end
end G

set_option Elab.async false
set_option linter.all false
set_option maxRecDepth 100000
set_option maxHeartbeats 4000000
namespace G
open PySem L2
/-! ## loops over plain data -/
inductive All2 {α β : Type} (R : α → β → Prop) : List α → List β → Prop
  | nil : All2 R [] []
  | cons {a : α} {b : β} {as : List α} {bs : List β} : R a b → All2 R as bs → All2 R (a :: as) (b :: bs)
theorem All2.length {α β : Type} {R : α → β → Prop} {as : List α} {bs : List β} (h : All2 R as bs) : as.length = bs.length := by
  induction h with
  | nil => rfl
  | cons _ _ ih => simp [ih]
section
variable {Δ : Sl} {O : Sto} {P : KD} {E : KX} {En : DEnds} {Ta Tb Tc : DE} {T U : DS} {R : DA} {t u : DT} {i j : Nat} {d x y : D} {PB : Bool → Sto → Prop} {PA : List D → Sto → Prop}
  {Gd : DG} {Tt : DT} {Te : DE} {p : Addr} {vs : List Nat}
theorem e_itL : dItL Ta Δ O PA E = Ta Δ O (fun d O1 => match d with | .lst ds => PA ds O1 | _ => False) E := propext Iff.rfl
theorem e_itT : dItT Ta Δ O PA E = Ta Δ O (fun d O1 => match d with | .tup ds => PA ds O1 | _ => False) E := propext Iff.rfl
theorem e_rng1 : dRng1 R Δ O PA E = R Δ O (fun ds O1 => match ds with | [.int j] => -(2 ^ 62) ≤ j ∧ j < 2 ^ 62 ∧ PA (rangeD 0 j.toNat) O1 | _ => False) E := propext Iff.rfl
theorem e_rng2 : dRng2 R Δ O PA E = R Δ O (fun ds O1 => match ds with | [.int i, .int j] => (-(2 ^ 62) ≤ i ∧ i < 2 ^ 62 ∧ -(2 ^ 62) ≤ j ∧ j < 2 ^ 62) ∧ PA (rangeD i (j - i).toNat) O1 | _ => False) E := propext Iff.rfl
theorem e_yes : dYes Δ O PB E = PB true O := propext Iff.rfl
theorem e_gn {Q : Sl → Prop} : dgN i d Δ Q = Q (Δ.set i (some d)) := propext Iff.rfl
theorem e_lc : dLc R Gd Tt Te vs Δ O P E = R Δ O (fun ds O1 => ds.length ≤ 1000000 ∧ ∀ p, freshC O1 p → lcD Gd Tt Te p (fun acc O2 => P (.lst acc) O2) ds [] (wipeD Δ vs) O1) E := propext Iff.rfl
theorem e_lcO : dLcO R Gd Tt Te vs Δ O P E = R Δ O (fun ds O1 => ds.length ≤ 1000000 ∧ ∀ p, freshC O1 p → lcD Gd Tt Te p (fun acc O2 => P (.ptr p) ((p, .lst acc) :: O2)) ds [] (wipeD Δ vs) O1) E := propext Iff.rfl
theorem e_for : dFor R Gd T En Δ O = R Δ O (fun ds O1 => forD Gd T En ds Δ O1) (fun x O1 => En.xc x Δ O1) := propext Iff.rfl
theorem e_brk : dBrk En Δ O = En.bk Δ O := propext Iff.rfl
theorem e_cnt : dCnt En Δ O = En.ct Δ O := propext Iff.rfl
theorem e_wipe0 : wipeD Δ [] = Δ := rfl
theorem e_wipe1 : wipeD Δ (i :: vs) = (wipeD Δ vs).set i none := rfl
theorem ex_c {c : Cell} {C : Sto → Prop} : (∃ O3, (p, c) :: O = (p, c) :: O3 ∧ C O3) = C O := by
  apply propext
  constructor
  · rintro ⟨O3, e, h⟩
    cases e
    exact h
  · intro h
    exact ⟨O, rfl, h⟩
theorem freshC_ne {b : Addr} {c : Cell} (h : getC O b = some c) (hp : freshC O p) : b ≠ p := hp _ (getC_mem h)
theorem getC_fresh {b : Addr} {c c' : Cell} (h : getC O b = some c) (hp : freshC O p) : getC ((p, c') :: O) b = some c := by rw [getC_other (freshC_ne h hp)]; exact h
/-- one pass -/
def lcStep (Gd : DG) (Tt : DT) (Te : DE) (p : Addr) (acc : List D) (Δ : Sl) (O : Sto) (x : D) (C : Option D → Sto → Prop) : Prop :=
  Gd x Δ fun Δ' => Tt Δ' ((p, .lst acc) :: O) (fun k O1 => if k = true
      then Te Δ' O1 (fun y O2 => ∃ O3, O2 = (p, .lst acc) :: O3 ∧ C (some y) O3) (fun _ _ => False)
      else ∃ O3, O1 = (p, .lst acc) :: O3 ∧ C none O3) (fun _ _ => False)
theorem lc_all {α : Type} {emb : α → D} {St : α → Option D → Prop} {Q : List D → Sto → Prop} : ∀ {xs : List α} {acc : List D}, (∀ x ∈ xs, ∀ acc C, (∀ o, St x o → C o O) → lcStep Gd Tt Te p acc Δ O (emb x) C) → (∀ os, All2 St xs os → Q (acc ++ os.filterMap id) O) → lcD Gd Tt Te p Q (xs.map emb) acc Δ O := by
  intro xs
  induction xs with
  | nil =>
    intro acc _ fin
    have z := fin [] .nil
    rw [List.filterMap_nil, List.append_nil] at z
    exact z
  | cons x xs ih =>
    intro acc step fin
    refine step x List.mem_cons_self acc (fun o O3 => match o with | some y => lcD Gd Tt Te p Q (xs.map emb) (acc ++ [y]) Δ O3 | none => lcD Gd Tt Te p Q (xs.map emb) acc Δ O3) fun o ho => ?_
    cases o with
    | some y =>
      refine ih (fun x hx => step x (List.mem_cons_of_mem _ hx)) fun os hos => ?_
      have z := fin (some y :: os) (.cons ho hos)
      rw [List.filterMap_cons_some (f := id) (b := y) rfl] at z
      rw [List.append_assoc]
      exact z
    | none =>
      refine ih (fun x hx => step x (List.mem_cons_of_mem _ hx)) fun os hos => ?_
      have z := fin (none :: os) (.cons ho hos)
      rw [List.filterMap_cons_none (f := id) rfl] at z
      exact z
theorem lc_det {α : Type} {emb : α → D} (f : α → Option D) {Q : List D → Sto → Prop} {xs : List α} {acc : List D} (step : ∀ x ∈ xs, ∀ acc C, C (f x) O → lcStep Gd Tt Te p acc Δ O (emb x) C) (fin : Q (acc ++ xs.filterMap f) O) : lcD Gd Tt Te p Q (xs.map emb) acc Δ O := by
  refine lc_all (St := fun x o => o = f x) (fun x hx acc C h => step x hx acc C (h _ rfl)) fun os h => ?_
  have e : os.filterMap id = xs.filterMap f := by
    clear fin step
    induction h with
    | nil => rfl
    | cons h _ ih => subst h; rw [List.filterMap_cons, List.filterMap_cons, ih]; rfl
  rw [e]
  exact fin
/-- [e(x) for x in xs] -/
theorem lc_map {α : Type} {emb : α → D} (f : α → D) {Q : List D → Sto → Prop} {xs : List α} (step : ∀ x ∈ xs, ∀ acc C, C (some (f x)) O → lcStep Gd Tt Te p acc Δ O (emb x) C) (fin : Q (xs.map f) O) : lcD Gd Tt Te p Q (xs.map emb) [] Δ O := by
  refine lc_det (fun x => some (f x)) step ?_
  rw [List.nil_append, List.filterMap_eq_map']
  exact fin
/-- [e(x) for x in xs if c(x)] -/
theorem lc_filter {α : Type} {emb : α → D} (f : α → D) (c : α → Bool) {Q : List D → Sto → Prop} {xs : List α} (step : ∀ x ∈ xs, ∀ acc C, C (if c x = true then some (f x) else none) O → lcStep Gd Tt Te p acc Δ O (emb x) C) (fin : Q ((xs.filter c).map f) O) : lcD Gd Tt Te p Q (xs.map emb) [] Δ O := by
  refine lc_det (fun x => if c x = true then some (f x) else none) step ?_
  have e : xs.filterMap (fun x => if c x = true then some (f x) else none) = (xs.filter c).map f := by
    clear fin step
    induction xs with
    | nil => rfl
    | cons x xs ih =>
      by_cases h : c x = true
      · rw [List.filterMap_cons_some (b := f x) (by simp [h]), List.filter_cons_of_pos h, List.map_cons, ih]
      · rw [List.filterMap_cons_none (by simp [h]), List.filter_cons_of_neg h, ih]
  rw [List.nil_append, e]
  exact fin
/-- drawn: each element answers R -/
theorem lc_draw {α β : Type} {emb : α → D} {em : β → D} {St : α → β → Prop} {Q : List D → Sto → Prop} {xs : List α} (step : ∀ x ∈ xs, ∀ acc C, (∀ y, St x y → C (some (em y)) O) → lcStep Gd Tt Te p acc Δ O (emb x) C) (fin : ∀ ys, All2 St xs ys → Q (ys.map em) O) : lcD Gd Tt Te p Q (xs.map emb) [] Δ O := by
  refine lc_all (St := fun x o => ∃ y, St x y ∧ o = some (em y)) (fun x hx acc C h => step x hx acc C fun y hy => h _ ⟨y, hy, rfl⟩) fun os h => ?_
  have e : ∃ ys, All2 St xs ys ∧ os.filterMap id = ys.map em := by
    clear fin step
    induction h with
    | nil => exact ⟨[], .nil, rfl⟩
    | cons h _ ih =>
      obtain ⟨y, hy, rfl⟩ := h
      obtain ⟨ys, h1, h2⟩ := ih
      exact ⟨y :: ys, .cons hy h1, by rw [List.filterMap_cons_some (f := id) (b := em y) rfl, h2]; rfl⟩
  obtain ⟨ys, h1, h2⟩ := e
  rw [h2, List.nil_append]
  exact fin ys h1
/-- .. and what has been walked is known -/
theorem for_inv2 {α : Type} {emb : α → D} (I : List α → Sl → Sto → Prop) {xs : List α} {Δ : Sl} {O : Sto} (h0 : I [] Δ O) (hend : ∀ Δ O, I xs Δ O → En.nx Δ O)
    (step : ∀ l x r, xs = l ++ x :: r → ∀ Δ O (K : Sl → Sto → Prop), I l Δ O → (∀ Δ' O', I (l ++ [x]) Δ' O' → K Δ' O') → Gd (emb x) Δ fun Δ' => T { En with nx := K, ct := K, bk := En.nx } Δ' O) : forD Gd T En (xs.map emb) Δ O := by
  have key : ∀ (r l : List α) (Δ : Sl) (O : Sto), xs = l ++ r → I l Δ O → forD Gd T En (r.map emb) Δ O := by
    intro r
    induction r with
    | nil =>
      intro l Δ O e h
      rw [List.append_nil] at e
      subst e
      exact hend _ _ h
    | cons x r ih =>
      intro l Δ O e h
      exact step l x r e Δ O _ h fun Δ' O' h' => ih (l ++ [x]) Δ' O' (by rw [e, List.append_assoc]; rfl) h'
  exact key xs [] Δ O rfl h0
end
/-! ## Lean types as data -/
class Em (α : Type) [DecidableEq α] [PySem.W.Datum α] where
  em : α → D
  py_em : ∀ a, py (em a) = some (PySem.W.Datum.toD a)
  lay : ∀ a : α, (PySem.W.Datum.toD a).canLay0 = true

end G
namespace G
open PySem L2
instance : Em Int := ⟨.int, fun _ => rfl, fun _ => rfl⟩
instance : Em Bool := ⟨.bl, fun _ => rfl, fun _ => rfl⟩
section
variable {α β : Type} [DecidableEq α] [PySem.W.Datum α] [Em α] [DecidableEq β] [PySem.W.Datum β] [Em β]
theorem pys_em : ∀ xs : List α, pys (xs.map Em.em) = some (xs.map PySem.W.Datum.toD)
  | [] => rfl
  | x :: xs => by
    rw [List.map_cons, pys, Em.py_em, pys_em xs]
    rfl
theorem lays_em : ∀ xs : List α, PyData.canLayAll0 (xs.map PySem.W.Datum.toD) = true
  | [] => rfl
  | x :: xs => by
    rw [List.map_cons, PyData.canLayAll0, Em.lay, lays_em xs]
    rfl
instance : Em (List α) := ⟨fun xs => .lst (xs.map Em.em), fun xs => by rw [py, pys_em]; rfl, fun xs => by
  show PyData.canLay0 (.list (xs.map PySem.W.Datum.toD)) = true
  rw [PyData.canLay0, lays_em]⟩
instance : Em (PySem.W.Tup α) := ⟨fun xs => .tup (xs.items.map Em.em), fun xs => by rw [py, pys_em]; rfl, fun xs => by
  show PyData.canLay0 (.tuple (xs.items.map PySem.W.Datum.toD)) = true
  rw [PyData.canLay0, lays_em]⟩
instance : Em (α × β) := ⟨fun x => .tup [Em.em x.1, Em.em x.2], fun x => by
  rw [py, pys, pys, pys, Em.py_em, Em.py_em]; rfl, fun x => by
  show PyData.canLay0 (.tuple [PySem.W.Datum.toD x.1, PySem.W.Datum.toD x.2]) = true
  rw [PyData.canLay0, PyData.canLayAll0, PyData.canLayAll0, PyData.canLayAll0, Em.lay, Em.lay]
  rfl⟩
theorem shaped_em (h : PySem.W.Datum.depth α ≤ 64) (a : α) : SeqAt.shaped (PySem.W.Datum.toD a) = true := by
  unfold SeqAt.shaped
  rw [Em.lay, Bool.true_and]
  exact decide_eq_true (Nat.le_trans (PySem.W.Datum.depth_le a) h)
/-- == of data that a Lean type says -/
theorem eqB_em (a b : α) (h : PySem.W.Datum.depth α ≤ 64 := by decide) : eqB (Em.em a) (Em.em b) = some (decide (a = b)) := by
  have e := PySem.W.Datum.eqv a b
  have s1 := shaped_em h a
  have s2 := shaped_em h b
  have p1 := Em.py_em a
  have p2 := Em.py_em b
  unfold eqB
  split
  · rename_i i j e1 e2
    rw [e1] at p1
    rw [e2] at p2
    simp only [py, Option.some.injEq] at p1 p2
    rw [← p1, ← p2] at e
    simp only [PyData.eqv] at e
    rw [← e]
    congr 1
  · rename_i i j e1 e2
    rw [e1] at p1
    rw [e2] at p2
    simp only [py, Option.some.injEq] at p1 p2
    rw [← p1, ← p2] at e
    simp only [PyData.eqv] at e
    rw [← e]
    congr 1
  · rename_i i j e1 e2
    rw [e1] at p1
    rw [e2] at p2
    simp only [py, Option.some.injEq] at p1 p2
    rw [← p1, ← p2] at e
    simp only [PyData.eqv] at e
    rw [← e]
    congr 1
  · rw [p1, p2]
    simp only [s1, s2, and_self, ↓reduceIte, e]
end
/-- a tuple of two whole numbers -/
abbrev pr (x : Int × Int) : D := .tup [.int x.1, .int x.2]
theorem eq_prs (xs ys : List (Int × Int)) : eqB (.lst (xs.map pr)) (.lst (ys.map pr)) = some (decide (xs = ys)) := eqB_em (α := List (Int × Int)) xs ys
theorem eq_pr (x y : Int × Int) : eqB (pr x) (pr y) = some (decide (x = y)) := eqB_em (α := Int × Int) x y
theorem eq_ints (xs ys : List Int) : eqB (.lst (xs.map .int)) (.lst (ys.map .int)) = some (decide (xs = ys)) := eqB_em (α := List Int) xs ys
end G
namespace G
open PySem L2
section
variable {O : Sto} {P : KD} {PB : Bool → Sto → Prop}
theorem f_addL {l m : List D} : fAdd (.lst l) (.lst m) O P = (l.length + m.length ≤ sizeLine ∧ P (.lst (l ++ m)) O) := propext Iff.rfl
theorem f_addS {l m : Str} : fAdd (.str l) (.str m) O P = (l.length + m.length ≤ sizeLine ∧ P (.str (l ++ m)) O) := propext Iff.rfl
theorem truL {ds : List D} : truD O (.lst ds) = some (!ds.isEmpty) := rfl
theorem truT {ds : List D} : truD O (.tup ds) = some (!ds.isEmpty) := rfl
theorem truI {i : Int} : truD O (.int i) = some (i != 0) := rfl
theorem truB {i : Bool} : truD O (.bl i) = some i := rfl
theorem truN : truD O .non = some false := rfl
theorem truP {a : Addr} {ds : List D} (h : getC O a = some (.lst ds)) : truD O (.ptr a) = some (!ds.isEmpty) := by simp only [truD, h]
theorem objO {c : Cl} {fs : List Fd} {ds : List D} : objOf O (.obj c fs ds) = some (c, fs, ds) := rfl
theorem clsO {c : Cl} {fs : List Fd} {ds : List D} : clsOf O (.obj c fs ds) = some c := rfl
theorem atI_lt {ds : List D} {i : Int} (h0 : 0 ≤ i) (h1 : i < ds.length) : ∃ d, d ∈ ds ∧ atI ds i = some d := by
  obtain ⟨n, rfl⟩ := Int.eq_ofNat_of_zero_le h0
  have hn : n < ds.length := by omega
  exact ⟨ds[n], List.getElem_mem hn, atI_nat (List.getElem?_eq_getElem hn)⟩
theorem atI_map {α : Type} {f : α → D} {xs : List α} {i : Int} (h0 : 0 ≤ i) (h1 : i < xs.length) : ∃ x, x ∈ xs ∧ atI (xs.map f) i = some (f x) := by
  obtain ⟨d, hd, e⟩ := atI_lt (ds := xs.map f) h0 (by rw [List.length_map]; exact h1)
  obtain ⟨x, hx, rfl⟩ := List.mem_map.mp hd
  exact ⟨x, hx, e⟩
theorem rangeD_map (i : Int) (n : Nat) : ∃ ks : List Int, rangeD i n = ks.map D.int ∧ ks.length = n := by
  refine ⟨(List.range n).map fun (j : Nat) => i + (j : Int), ?_, by simp⟩
  unfold rangeD
  rw [List.map_map]
  rfl
end
end G
namespace G
open PySem L2
theorem cut_map {α : Type} (f : α → D) (ns : List α) (lo hi : Option Int) : cutD (ns.map f) lo hi = ((ns.drop (HT.sIx ns.length 0 lo)).take (HT.sIx ns.length ns.length hi - HT.sIx ns.length 0 lo)).map f := by
  unfold cutD
  rw [List.length_map, List.map_take, List.map_drop]
theorem cut_box (ns : List Int) : ∃ ms : List Int, cutD (ns.map D.int) none (some 63) = ms.map D.int ∧ ms.length ≤ 63 := by
  refine ⟨_, cut_map D.int ns none (some 63), ?_⟩
  rw [List.length_take]
  have h : HT.sIx ns.length ns.length (some 63) = min 63 ns.length := HT.sIx_nat ns.length ns.length 63
  rw [h]
  omega
end G

set_option Elab.async false
set_option linter.all false
set_option maxRecDepth 100000
set_option maxHeartbeats 4000000
namespace G
open PySem L2
/-! ## an own __contains__ -/
theorem contains_here {M : Model} {A : Around} {E : Value → Shared → Prop} {s : Shared} {K : PySem.W.Frag} {x C f : Addr} {ox : Obj} {od : Option Obj} {v : Value} {Q : Bool → Shared → Prop} (X : K.In s.heap) (I : PySem.W.InstAt s.heap x ox C od)
    (m : Meth K C "__contains__" f) (h : wpAny M A (call (.ref f) [.ref x, v]) (fun r s' => wpAny M A (truthy r) Q E s') E s) : wpAny M A (contains (.ref x) v) Q E s := by
  unfold contains
  refine wpAny_holding (wpAny_bind (wpAny_bind (I.type.here ((PySem.W.looks_findIn X m.at_).here ?_))))
  rw [if_neg (by simp)]
  exact wpAny_bind (PySem.W.unlessNone_K X I m.at_ m.fn h)
def boolK (P : Bool → Sto → Prop) : KD := fun r O => match r with | .bl k => P k O | _ => False
def dInOwn (tab : List (Cl × DSp)) (Ta Tb : DE) : DE := fun Δ O P E => Ta Δ O (fun x O1 => Tb Δ O1 (fun y O2 => match clsOf O2 y with
  | some c => (match tabAt tab c with | some S => S [y, x] O2 (boolK fun k O3 => P (.bl k) O3) E | none => False)
  | none => False) E) E
def dNotInOwn (tab : List (Cl × DSp)) (Ta Tb : DE) : DE := fun Δ O P E => Ta Δ O (fun x O1 => Tb Δ O1 (fun y O2 => match clsOf O2 y with
  | some c => (match tabAt tab c with | some S => S [y, x] O2 (boolK fun k O3 => P (.bl (!k)) O3) E | none => False)
  | none => False) E) E
section
variable {g : Gm} {X : Cx} {W : WX} {pos pos' p apos : Pos} {a b c o : Expr} {es : List Expr} {Ta Tb : DE} {R : DA} {k : Nat} {f : Addr} {S : DSp} {x m : Str} {tab : List (Cl × DSp)}
/-- what is known where an own operation is reached -/
def OwnAt (g : Gm) (W : WX) (σ : St) (tab : List (Cl × DSp)) (v : V) (vs : List V) (H : Hp) (Q : VK) : Prop := ∃ c q dx fs S, v = .ref q ∧ H q = some (.ins (g.ca c) dx fs) ∧ tabAt tab c = some S ∧ toSp g S (v :: vs) H Q fun cls dd H' => W cls dd σ H'
theorem own_at {σ : St} {H1 : Hp} {Q : VK} {P : KD} {E : KX} {F F1 : Hp} {O1 : Sto} {y : D} {ds : List D} {v : V} {vs : List V} (h : match clsOf O1 y with | some c => (match tabAt tab c with | some S => S (y :: ds) O1 P E | none => False) | none => False)
    (ry : Rep g F1 y v) (rs : Reps g F1 ds vs) (w1 : Wd g F1 O1 H1) (hv : VOk g F P Q) (s1 : Same F F1) (hx : XOk g F1 W σ E) : OwnAt g W σ tab v vs H1 Q := by
  split at h
  · rename_i c e
    obtain ⟨q, dx, fs, rfl, h1, _⟩ := obj_look (m := "__contains__") e ry w1 (by decide +kernel)
    split at h
    · rename_i S eS
      exact ⟨c, q, dx, fs, S, rfl, h1, eS, sp_of h (Reps.cons ry rs) w1 hv s1 hx⟩
    · exact h.elim
  · exact h.elim
theorem inst_of {pins : List (Addr × Obj)} {σ : St} {H : Hp} {s : Shared} {q C dx : Addr} {fs : List (Str × V)} (I : Inv X pins σ H s) (e : H q = some (.ins C dx fs)) : ∃ ox od, PySem.W.InstAt s.heap q ox C (some od) := by
  obtain ⟨mA, O, r, _, _, _⟩ := ins_get I.hok e
  obtain ⟨od, h, _⟩ := O.look
  exact ⟨_, od, h⟩
theorem in_run {pins : List (Addr × Obj)} {σ : St} {H : Hp} {s : Shared} {Q : Bool → Hp → Prop} {x y : V} {v u : Value} (M : MTab g X.prog X.w X.K X.mg X.base k "__contains__" tab) (hr : Room k X.A) (tk : Takes X W) (I : Inv X pins σ H s) (rx : RelV x v) (ry : RelV y u)
    (h : OwnAt g W σ tab y [x] H fun z H' => ∃ k, z = .bl k ∧ Q k H') {R : Bool → Shared → Prop} (hR : ∀ k s' H', Inv X pins σ H' s' → Q k H' → R k s') : wpAny (model X.prog X.w) X.A (contains u v) R X.xe s := by
  obtain ⟨c, q, dx, fs, S, rfl, eq, eS, hS⟩ := h
  obtain rfl : u = Value.ref q := ry
  obtain ⟨cls, f, mt, Fn⟩ := M c S eS
  obtain ⟨ox, od, J⟩ := inst_of I eq
  refine contains_here I.kIn J mt (thn (wpAny_call (run_FN (us := [.ref q, v]) (vs := [.ref q, x]) Fn hr tk I (.cons rfl (.cons rx .nil)) hS)) fun r s1 ⟨z, H1, I1, rz, kk, ez, q1⟩ => ?_)
  subst ez
  cases rz
  exact wpAny_truthy_bool (hR _ _ _ I1 q1)
theorem bok_own {F : Hp} {P : Bool → Sto → Prop} {Q : Bool → Hp → Prop} (h : ∀ b O F' H, P b O → Same F F' → Wd g F' O H → Q b H) : VOk g F (boolK P) fun z H' => ∃ k, z = .bl k ∧ Q k H' := fun d O v F' H hd s w r => by
  cases d with
  | bl k => exact ⟨k, Rep.bl_iff.mp r, h k O F' H hd s w⟩
  | _ => exact hd.elim
theorem qt_inOwn {j : Nat} (M : MTab g X.prog X.w X.K X.mg X.base k "__contains__" tab) (hr : Room j X.A) (tk : Takes X W) (ha : PE X a (le g W Ta)) (hb : PE X b (le g W Tb)) (hkj : k ≤ j := by first | decide | omega) (hm : behindInMarks .In b = false := by rfl) : PT X (.Compare a [.In] [b] pos) (lt g W (dTe (dInOwn tab Ta Tb))) := by
  refine ⟨fun pins s σ H Q I h => ?_⟩
  obtain ⟨Δ, O, P, E, F, hT, sr, w, hv, hx⟩ := h
  refine wpAny_isTrue_Compare1 (thn (ha.run pins s σ H (fun x H1 => le g W Tb σ H1 fun y H2 => OwnAt g W σ tab y [x] H2 fun z H' => ∃ k, z = .bl k ∧ Q k H') I (le_bind hT sr w hx fun x O1 vx F1 H1 hT1 s1 sr1 w1 rx hx1 => le_bind hT1 sr1 w1 hx1 fun y O2 vy F2 H2 hT2 s2 sr2 w2 ry hx2 => ?_)) fun v s1 ⟨x, H1, I1, r1, q1⟩ => thn (hb.run pins s1 σ H1 _ I1 q1) fun u s2 ⟨y, H2, I2, r2, q2⟩ => ?_) hm
  · exact own_at hT2 ry (Reps.one (rx.mono s2)) w2 (bok_own fun k O3 F3 H3 h3 s3 w3 => hv _ _ _ _ h3 (s1.trans (s2.trans s3)) w3) (Same.refl _) hx2
  · exact wpAny_bind (in_run M (hr.mono hkj) tk I2 r1 r2 q2 fun k s' H' I' q' => wpAny_pure (wpAny_truthy_bool ⟨H', I', q'⟩))
theorem e_inOwn {Δ : Sl} {O : Sto} {P : KD} {E : KX} : dInOwn tab Ta Tb Δ O P E = Ta Δ O (fun x O1 => Tb Δ O1 (fun y O2 => match clsOf O2 y with
  | some c => (match tabAt tab c with | some S => S [y, x] O2 (boolK fun k O3 => P (.bl k) O3) E | none => False)
  | none => False) E) E := propext Iff.rfl
end
end G

set_option Elab.async false
set_option linter.all false
set_option maxRecDepth 100000
set_option maxHeartbeats 4000000
namespace G
open PySem L2
/-! ## the end of a law -/
section
variable {K : PySem.W.Frag} {h : Heap} {mg : Str → Option Value} {g : Gm}
theorem flds_nil {f : Fd} : Flds g [] f := ⟨fun _ h => absurd h List.not_mem_nil, fun _ h => absurd h List.not_mem_nil⟩
theorem flds_cons {c : Cl} {cs : List Cl} {f : Fd} (h : Cls g.K (g.ca c)) (n : PySem.W.findIn g.K (.ref (g.ca c)) f.str = some none) (r : Flds g cs f) : Flds g (c :: cs) f :=
  ⟨fun d hd => by rcases List.mem_cons.mp hd with e | e; exact e ▸ h; exact r.cl d e, fun d hd => by rcases List.mem_cons.mp hd with e | e; exact e ▸ n; exact r.no d e⟩
end
/-- the law's promise -/
def spLaw (K : PySem.W.Frag) : Sp := fun vs H Q _ => ∃ (a : Addr) (ns : List Int), vs = [.ref a] ∧ SqL K H a (ns.map V.int) ∧ ns.length ≤ 63 ∧ ∀ H', Q (.bl true) H'
def SLaw : DSp := fun ds O P E => ∃ ns, ds = [.scr ns] ∧ O = [] ∧ ∀ O1, P (.bl true) O1
theorem spLaw_of {g : Gm} {vs : List V} {H : Hp} {Q : VK} {E : XK} (h : spLaw g.K vs H Q E) : toSp g SLaw vs H Q E := by
  obtain ⟨a, ns, rfl, hS, hl, k⟩ := h
  refine ⟨H, [], [.scr ns], fun d O => d = .bl true, fun _ _ => False, Reps.one (Rep.scr_iff.mpr ⟨a, rfl, hS⟩), ⟨Same.refl H, by simp, fun q hq => absurd hq List.not_mem_nil⟩, ⟨ns, rfl, rfl, fun _ => rfl⟩, fun d O v F' H' e s w r => ?_, fun _ _ _ _ _ _ z => z.elim⟩
  subst e
  rw [Rep.bl_iff.mp r]
  exact k H'
theorem walk {l : PySem.W.OpenLaw} {q : Program} {loose : List Str} {XP : (Str → Option Value) → Heap → Prop} {YP : World → Heap → Prop} {d : DefRec} {K : Params → PySem.W.Frag} {x : Str} (k : Nat) (hk : k ≤ 40) (hn : l.most = some 63) (hdf : d.params.defaults = [])
    (hY : ∀ (w : World) (h : Heap), YP w h → (K w.params).In h)
    (F : ∀ (w : World) (mg : Str → Option Value) (fa : Addr) (h : Heap), (K w.params).In h → h.Ns mainGlobals mg → mg d.name = some (.ref fa) →
      ∃ fd : FuncData, (∀ (s : Shared) (u : Value), BindsTo s fd ⟨[u], []⟩ [(x, u)]) ∧ ∀ base : Heap, (K w.params).In base → base.Ns mainGlobals mg → FnOk l.prog w (K w.params) mg base (L2.CX l.prog w) k fa fd [x] (spLaw (K w.params))) :
    PySem.W.WalkO q loose XP YP l.row.toRowW d [] (fun f vs => PySem.call f vs) :=
  L2.walk_of (n := 63) (k := k) (x := x) (CX := fun w => L2.CX l.prog w) (sp := fun w => spLaw (K w.params)) hn (by decide) hdf (Room.mono (k := 40) ⟨rfl, by decide, by decide⟩ hk) hY F (fun _ _ a ns hl _ hS => ⟨a, ns, rfl, hS, hl, fun _ => rfl⟩) fun w H s e s' z => by
    obtain ⟨_, _, _, _, _, _, _, _, _, _, _, _, z⟩ := z
    exact z
end G

set_option Elab.async false
set_option linter.all false
set_option maxRecDepth 100000
set_option maxHeartbeats 4000000
namespace G
open PySem L2
/-! ## a def that says super() -/
/-- statements of a def's own body -/
structure PF (X : Cx) (sts : List Stmt) (t : TS) : Prop where
  run : ∀ (body : List Stmt) (pins : List (Addr × Obj)) (s : Shared) (σ : St) (H : Hp) (D : Ends), Inv X pins σ H s → t D σ H → _root_.PySem.wpAt (model X.prog X.w) X.A (.func body X.env) (execs sts X.env) (SP X pins D) X.xe s
section
variable {X : Cx} {st : Stmt} {sts : List Stmt} {t u : TS}
theorem pf_of (h : PSs X sts t) : PF X sts t := ⟨fun body pins s σ H D I q => _root_.PySem.wpAt_of_wpAny (h.run pins s σ H D I q)⟩
end
/-- the program's own text: its file, super is the kit's -/
structure Pg (P : Program) (file : Str) : Prop where
  file : ((P.main.file : Str) == file) = true
  sup : (P.main.scope.names.lookup ("super" : Str)).isSome = false
structure FunS (K : PySem.W.Frag) (x qual : Str) (st : Stmt) (f : Addr) (fd : FuncData) (cc cda D : Addr) (file : Str) : Prop where
  ex : ∃ (oc : Value) (od : Option Addr) (kV doc pm : Value) (an : Option Addr) (ct : Value) (osl : Array (Option Value)), fd = PySem.W.ksFn x qual (defArgs st) (defBody st) (defScope st) .none kV doc pm an (.ref cda) ct cc ∧ K.lookup f = some ⟨oc, od, .func fd, osl⟩
  code : PySem.W.codeIn K (.ref cda) qual = true
  kp : PySem.W.keepIn K (.ref f) = true
  fl : ∃ (ccl : Value) (cdd : Option Addr) (vs : Array Value) (ccs : Array (Option Value)) (tf : Tok), K.lookup cda = some ⟨ccl, cdd, .fields vs, ccs⟩ ∧ vs[2]? = some (.str file tf)
  cell : ∃ (cl : Value) (cld : Option Addr) (csl : Array (Option Value)), K.lookup cc = some ⟨cl, cld, .cell (some (.ref D)), csl⟩
  dcl : ∃ cdD, PySem.W.clsIn K D = some cdD
abbrev sNF (x qual : Str) (st : Stmt) (cc cda : Addr) : NdefX.NF := ⟨x, qual, defArgs st, defBody st, defScope st, [("__class__", cc)], cda⟩
abbrev scx (P : Program) (w : World) (K : PySem.W.Frag) (mg : Str → Option Value) (base : Heap) (N : List Str) (x qual : Str) (st : Stmt) (f cc cda : Addr) (A : Around) (outer : List Env) (s : Shared) (H : Hp) (E : XK) : Cx :=
  NdefX.ncx (L2.CX P w) P w K mg base N (sNF x qual st cc cda) f A outer s H E
section
variable {P : Program} {w : World} {K : PySem.W.Frag} {mg : Str → Option Value} {base : Heap} {N ps : List Str} {x qual : Str} {st : Stmt} {f cc cda D : Addr} {fd : FuncData} {file : Str} {k : Nat} {sp : Sp}
theorem fn_super (F : FunS K x qual st f fd cc cda D file) (S : NdefX.NScope N ps ["__class__"] (defScope st)) (len : ∀ vs H Q E, sp vs H Q E → vs.length = ps.length)
    (hbody : ∀ (A : Around) (outer : List Env) (s : Shared) (H : Hp) (vs : List V) (Q : VK) (E : XK), Room k (A.deeper (NdefX.envF (sNF x qual st cc cda) f s.heap.objs.size)) → sp vs H Q E →
      ∃ t, PF (scx P w K mg base N x qual st f cc cda A outer s H E) (defBody st) t ∧ t { nx := fun _ H' => Q .non H', rt := Q } (NdefX.startF N vs [none]) H) :
    FnOk P w K mg base (L2.CX P w) (k + 1) f fd ps sp := by
  refine ⟨len, fun A outer s H args us vs Q E hr e0 hb r hsp => ?_⟩
  obtain ⟨oc, od, kV, doc, pm, an, ct, osl, rfl, lk⟩ := F.ex
  obtain ⟨cl, cld, csl, hcell⟩ := F.cell
  have hl := len _ _ _ _ hsp
  have kp0 : ∀ b o, base.get? b = some o → s.heap.get? b = some o := fun b o e => (e0.bs b o e).1
  have KI : K.In s.heap := e0.mod.kin.keeps kp0
  have lim : s.heap.NoLimit := e0.mod.nolimit.keeps kp0
  refine PySem.ks_codeAny_call_defAt (fd := PySem.W.ksFn x qual (defArgs st) (defBody st) (defScope st) .none kV doc pm an (.ref cda) ct cc) hr.depth (KI _ _ lk) rfl lim (PySem.W.codeRec_of KI F.code) rfl hb S.nocell (fun ⟨n, _⟩ hy => S.par n (List.of_mem_zip hy).1) (fun h₁ hns kp => ?_) S.co S.gen S.kind
  obtain ⟨t, ht, hq⟩ := hbody A outer s H vs Q E (hr.deeper _) hsp
  have C : NdefX.CellsAt [("__class__", cc)] ["__class__"] [none] s.heap H := by
    have key : ∀ (y : Str) (c : Addr), [(("__class__" : Str), cc)].lookup y = some c → y = "__class__" ∧ c = cc := fun y c e => by
      rw [List.lookup_cons] at e
      split at e
      · rename_i q
        cases e
        exact ⟨beq_iff_eq.mp q, rfl⟩
      · cases e
    refine ⟨rfl, fun y c e => ?_, fun a b c e1 e2 => (key a c e1).1.trans (key b c e2).1.symm, fun i y e => ?_⟩
    · obtain ⟨_, rfl⟩ := key y c e
      exact ⟨(e0.bs _ _ (e0.mod.kin _ _ hcell)).2, some (.ref D), ⟨_, KI _ _ hcell, rfl⟩⟩
    · cases i with
      | zero =>
        cases e
        exact ⟨cc, rfl, fun v z => by cases z⟩
      | succ n => cases e
  have I : Inv (scx P w K mg base N x qual st f cc cda A outer s H E) [] (NdefX.startF N vs [none]) H { s with heap := h₁, toks := s.toks + (ps.zip us).length } := NdefX.inv_startN S hr.hd e0 hl r C hns kp
  refine _root_.PySem.wpAt_mono (ht.run (defBody st) [] _ (NdefX.startF N vs [none]) H _ I hq) (fun fl s' hs => ?_) fun e s' hs => hs
  have fin : ∀ {σ' : L2.St} {H' : Hp} {v : V} {u : Value}, Inv (scx P w K mg base N x qual st f cc cda A outer s H E) [] σ' H' s' → L2.RelV v u → Q v H' → CE outer P w H s Q u s' :=
    fun {σ' H' v u} J rv q => ⟨v, H', J.os, J.bare, J.base, J.hok, rv, q⟩
  cases fl with
  | ret u =>
    obtain ⟨v, σ', H', J, rv, q⟩ := hs
    exact fin J rv q
  | next =>
    obtain ⟨σ', H', J, q⟩ := hs
    exact fin (v := V.non) (u := Value.none) J rfl q
  | brk =>
    obtain ⟨_, _, _, q⟩ := hs
    exact False.elim q
  | cont =>
    obtain ⟨_, _, _, q⟩ := hs
    exact False.elim q
end

section
variable {P : Program} {w : World} {K : PySem.W.Frag} {mg : Str → Option Value} {base : Heap} {N ps : List Str} {x qual : Str} {st : Stmt} {f cc cda D : Addr} {fd : FuncData} {file : Str} {k : Nat} {A : Around} {outer : List Env} {s0 : Shared} {H0 : Hp} {E0 : XK}
/-- what the text says of the def -/
structure SupTx (N : List Str) (st : Stmt) (ar : Str) : Prop where
  ks : (defScope st).names.lookup ("super" : Str) = some .globalImplicit
  kc : (defScope st).names.lookup ("__class__" : Str) = some .free
  fst : ∃ r : Arg, ((defArgs st).posonlyargs ++ (defArgs st).args).head? = some r ∧ r.arg = ar
  n0 : N[0]? = some ar
  ka : (defScope st).names.lookup ar = some .local
  kind : (defScope st).kind = .function
theorem super_node {ar attr : Str} {body : List Stmt} {p0 p1 : Pos} {whole : Sem Value} {pins : List (Addr × Obj)} {σ : St} {H : Hp} {s : Shared} {a C : Addr} {ox : Obj} {od : Option Obj} {Q : Value → Shared → Prop} {E : Value → Shared → Prop}
    (F : FunS K x qual st f fd cc cda D file) (PG : Pg P file) (T : SupTx N st ar) (hm : mg "super" = none) (hat : (attr == ("__class__" : Str)) = false) (I : Inv (scx P w K mg base N x qual st f cc cda A outer s0 H0 E0) pins σ H s) (es : σ[0]? = some (some (.ref a)))
    (J : PySem.W.InstAt s.heap a ox C od) (hsub : PySem.W.mroIn K C (.ref D) = some true)
    (h : ∀ so s', Inv (scx P w K mg base N x qual st f cc cda A outer s0 H0 E0) pins σ H s' → s'.heap.get? so = some (PySem.W.ks_superObj D a C) → (∀ b o, s.heap.get? b = some o → s'.heap.get? b = some o) → Q (.ref so) s') :
    _root_.PySem.wpAt (model P w) (scx P w K mg base N x qual st f cc cda A outer s0 H0 E0).A (.func body (scx P w K mg base N x qual st f cc cda A outer s0 H0 E0).env) (attributeBase (.Call (.Name "super" p0) [] [] p1) attr (scx P w K mg base N x qual st f cc cda A outer s0 H0 E0).env whole) Q E s := by
  have KI : K.In s.heap := I.kIn
  obtain ⟨oc, odd, kV, doc, pm, an, ct, osl, rfl, lk⟩ := F.ex
  obtain ⟨ccl, cdd, vs, ccs, tf, hcode, hvs⟩ := F.fl
  obtain ⟨cl, cld, csl, hcell⟩ := F.cell
  obtain ⟨cdD, hD⟩ := F.dcl
  obtain ⟨r, hr, har⟩ := T.fst
  obtain ⟨oD, hD1, hD2⟩ : ∃ oD, s.heap.get? D = some oD ∧ oD.data = .cls cdD := by
    unfold PySem.W.clsIn at hD
    split at hD
    · rename_i c d cd' sl ho
      cases hD
      exact ⟨_, KI _ _ ho, rfl⟩
    · cases hD
  refine PySem.ks_wpAt_super_base (env := (scx P w K mg base N x qual st f cc cda A outer s0 H0 E0).env) T.ks T.kc hat rfl (KI _ _ lk) rfl hr rfl (KI _ _ hcode) rfl hvs PG.file PG.sup ?_
  obtain ⟨mb, h1, h2⟩ := I.mod.blt
  refine PySem.W.ks_loadName_global T.kind T.ks (Calls.loadGlobal_builtin (I.mod.glob.keeps I.bk) hm (h1.keeps I.bk) ((h2 "super" (by decide)).trans (by decide +kernel : bootBuiltins "super" = some (.type "super"))) ⟨rfl, ?_⟩)
  refine wpAny_loadName_free T.kind T.kc rfl ⟨_, KI _ _ hcell, rfl⟩ ?_
  obtain ⟨m, hn, hl⟩ := I.loc
  obtain ⟨u, ru, l⟩ := hl 0 ar (.ref a) T.n0 es (.inl T.ka)
  obtain rfl : u = Value.ref a := ru
  have hlo : m ar = some (.ref a) := by
    rcases l with ⟨_, hm⟩ | ⟨hk, _⟩
    · exact hm
    · rcases hk with hk | hk
      · have z := T.ka.symm.trans hk; cases z
      · have z := T.ka.symm.trans hk; cases z
  rw [har]
  refine wpAny_loadName_local T.kind T.ka hn hlo ?_
  obtain ⟨hh, g, d, t, os⟩ := s
  refine PySem.ks_wpAny_isType_cls hD1 hD2 ⟨rfl, ?_⟩
  refine PySem.ks_wpAny_call_super hD1 hD2 J.at_ J.cls (fun c e => ?_) (PySem.W.looks_mroIn KI hsub) (fun h' e k => ?_)
  · have := J.no
    unfold PySem.W.notCls at this
    rw [e] at this
    exact Bool.noConfusion this
  · exact h _ _ (I.kept k) e k
end

/-! ### super().__init__(..) of an own exception -/
section
open PySem.W
variable {prog : Program} {w : World} {A : Around} {E : Value → Shared → Prop} {h : Heap} {g : Array GenState} {d : Drawn} {t : Nat} {os : OsState}
variable {nm q : Str} {C N : Addr} {bs bm : List Value} {hdct : Bool} {sn : List Str} {sub : List Value} {ab : Bool} {col : Option Bool} {dd : Option Addr} {k0 k1 k2 k3 k5 : Option Value}
theorem call_wrap {u e t0 : Addr} {rest : List Value} {Q : Value → Shared → Prop}
    (hC : h.get? C = some (excClassObj nm q C N bs bm hdct sn sub ab col dd k0 k1 k2 k3 k5 "ValueError.__new__")) (he : h.get? e = some (HandSPX.excO C t0)) (hu : h.get? u = some (kxs_mw "ValueError.__init__" e)) (hrest : rest.length ≤ sizeLine)
    (hq : ∀ h' t1, (∀ b o, b ≠ e → h.get? b = some o → h'.get? b = some o) → h'.get? e = some (HandSPX.excO C t1) → Q .none ⟨h', g, d, t, os⟩) :
    wpAny (model prog w) A (call (.ref u) rest) Q E ⟨h, g, d, t, os⟩ := by
  refine wpAny_call (codeAny_of_tree ?_)
  show wpAny _ A.in1 (callAny (.ref u) ⟨rest, []⟩) _ _ _
  simp only [callAny]
  refine wpAny_bind (wpAny_load hu ?_)
  simp only [kxs_mw, show (Value.type "method-wrapper" == Value.type "method" || Value.type "method-wrapper" == Value.type "builtin_function_or_method" || Value.type "method-wrapper" == Value.type "method-wrapper") = true by decide, if_true]
  refine W.KFB.if_so (by decide) ?_
  refine wpAny_bind (ESX.check_bound F.excBase_ValueError hC he rfl ?_)
  refine wpAny_bind (wpAny_pure (wpAny_pure ?_))
  refine ⟨Code.quiet_builtin _ (by decide +kernel), codeAny_builtin F.excBase_ValueError.initEntry ?_⟩
  rw [Around.under_plainId F.excBase_ValueError.init.plain _]
  wp_walk
  refine hq _ h.objs.size (fun b o hb ho => ?_) ?_
  · rw [Heap.get?_update_other _ _ (Ne.symm hb)]
    exact Heap.get?_push_of_some _ ho
  · rw [Heap.get?_update_self _ (Heap.get?_push_of_some _ he) rfl]
    rfl
end
/-- what the written part says of an own exception class -/
structure ExC (K : PySem.W.Frag) (C : Addr) : Prop where
  ox : OexC K C
  mr : PySem.W.mroIn K C (.ref C) = some true
  su : PySem.W.ks_superIn K C C "__init__" = some (some (.builtin "ValueError.__init__"))
  ve : PySem.W.subIn K (.ref C) (.type "ValueError") = some true
  th : PySem.W.nsIn K cStatics "thirdparty.any" = some none
def tSupX (C : Addr) (ta : TA) (u : TS) : TS := fun D σ H => ∃ a, σ[0]? = some (some (.ref a)) ∧ H a = some (exo a C none) ∧ ta σ H fun vs H1 => vs.length ≤ 1000 ∧ H1 a = some (exo a C none) ∧ u D σ H1
section
variable {P : Program} {w : World} {K : PySem.W.Frag} {mg : Str → Option Value} {base : Heap} {N ps : List Str} {x qual : Str} {st : Stmt} {f cc cda C : Addr} {fd : FuncData} {file : Str} {k : Nat} {A : Around} {outer : List Env} {s0 : Shared} {H0 : Hp} {E0 : XK}
theorem pf_supX {ar : Str} {e : Expr} {es : List Expr} {ta : TA} {rest : List Stmt} {u : TS} {p0 p1 p2 p3 p4 : Pos} {pl : Sem Bool} (F : FunS K x qual st f fd cc cda C file) (PG : Pg P file) (T : SupTx N st ar) (hm : mg "super" = none) (XC : ExC K C)
    (ha : PA (scx P w K mg base N x qual st f cc cda A outer s0 H0 E0) (e :: es) ta) (hu : PF (scx P w K mg base N x qual st f cc cda A outer s0 H0 E0) rest u)
    (he : starEach (e :: es) (scx P w K mg base N x qual st f cc cda A outer s0 H0 E0).env = (false, eval e (scx P w K mg base N x qual st f cc cda A outer s0 H0 E0).env) :: starEach es (scx P w K mg base N x qual st f cc cda A outer s0 H0 E0).env := by rfl)
    (hpl : (backTo p3 (starEach es (scx P w K mg base N x qual st f cc cda A outer s0 H0 E0).env)).any (·.1) = false := by rfl)
    (ht : eval (.Call (.Attribute (.Call (.Name "super" p0) [] [] p1) "__init__" p2) (e :: es) [] p3) (scx P w K mg base N x qual st f cc cda A outer s0 H0 E0).env = (do
      let ov ← attributeBase (.Call (.Name "super" p0) [] [] p1) "__init__" (scx P w K mg base N x qual st f cc cda A outer s0 H0 E0).env (eval (.Call (.Name "super" p0) [] [] p1) (scx P w K mg base N x qual st f cc cda A outer s0 H0 E0).env)
      standAt p2.atName
      let (ff, first) ← holding [ov] (getMethod ov "__init__" pl)
      callWith p3 ff first (backTo p3 (starEach (e :: es) (scx P w K mg base N x qual st f cc cda A outer s0 H0 E0).env)) []) := by rfl)
    (hi : interactive (scx P w K mg base N x qual st f cc cda A outer s0 H0 E0).env = false := by rfl) (hs : swapsWith (.Call (.Attribute (.Call (.Name "super" p0) [] [] p1) "__init__" p2) (e :: es) [] p3) none p4.line (scx P w K mg base N x qual st f cc cda A outer s0 H0 E0).env = pure false := by rfl) :
    PF (scx P w K mg base N x qual st f cc cda A outer s0 H0 E0) (.Expr (.Call (.Attribute (.Call (.Name "super" p0) [] [] p1) "__init__" p2) (e :: es) [] p3) p4 :: rest) (tSupX C ta u) := by
  refine ⟨fun body pins s σ H Dn I ⟨a, eσ, ea, hta⟩ => ?_⟩
  obtain ⟨t1, ho⟩ := exo_at I.hok ea
  have J : PySem.W.InstAt s.heap a (HandSPX.excO C t1) C none := ⟨ho, rfl, rfl, trivial⟩
  refine PySem.ks_wpAt_execs_cons (PySem.ks_wpAt_Expr_any (PySem.ks_wpAt_MethodCall (pl := pl) (super_node F PG T hm (by decide) I eσ J XC.mr fun so s1 I1 hso k1 => ?_) ht) hi hs)
  obtain ⟨nm, q, Nn, bs, bm, sn, sub, ab, col, dd, k0, k1', k2, k3, k5, hC, hbm⟩ := XC.ox.cls
  have hcl : PySem.W.clsIn K C = some { name := nm, bases := bs, mro := .ref C :: bm, ns := Nn, qualname := q, hasDict := true, slotNames := sn, subclasses := sub, abstract := ab, collection := col, hasDel := false } := by unfold PySem.W.clsIn; rw [hC] <;> rfl
  have KI : K.In s1.heap := I1.kIn
  have J1 : PySem.W.InstAt s1.heap a (HandSPX.excO C t1) C none := ⟨k1 _ _ ho, rfl, rfl, trivial⟩
  have hal := XC.su
  unfold PySem.W.ks_superIn at hal
  rw [hcl, Option.bind_some] at hal
  have hI : PySem.W.Looks (model P w) s1.heap (isInstance (.ref a) (.type "ValueError")) true := J1.type.andThen (PySem.W.looks_subIn KI XC.ve)
  obtain ⟨hh, gs, d, t, os⟩ := s1
  refine PySem.W.kxs_getMethod PySem.W.kxs_ValueError hso (PySem.W.looks_opaque KI XC.th) (l₀ := .ref C :: bm) (fun A Q E s k q => wpAny_bind ((PySem.W.looks_clsIn KI hcl) A _ E s k (wpAny_pure q))) rfl KI hal hI (PySem.W.ks_ne KI J1 hcl) (by decide) ?_
  have I2 : Inv (scx P w K mg base N x qual st f cc cda A outer s0 H0 E0) pins σ H ⟨hh.push (PySem.W.kxs_mw "ValueError.__init__" a), gs, d, t + 1, os⟩ := I1.kept fun b o e => Heap.get?_push_of_some _ e
  have I3 : Inv (scx P w K mg base N x qual st f cc cda A outer s0 H0 E0) ((hh.objs.size, PySem.W.kxs_mw "ValueError.__init__" a) :: pins) σ H ⟨hh.push (PySem.W.kxs_mw "ValueError.__init__" a), gs, d, t + 1, os⟩ := I2.pins_of fun p hp => by
    rcases List.mem_cons.mp hp with rfl | hp
    · exact ⟨Heap.get?_push_size _ rfl, I1.hok.fresh (Nat.le_refl _), Nat.ne_of_gt I1.lt, I1.nofs (Nat.le_refl _), fun v z => by cases z⟩
    · exact I2.pin p (List.mem_append_right _ hp)
  rw [he]
  refine PySem.W.kxs_callWith (i := "ValueError.__init__") (x := a) (by show (false || (backTo p3 (starEach es _)).any (·.1)) = false; rw [hpl]; rfl) ?_
  have z3 := ha.run p3 _ _ σ H _ I3 hta
  rw [he] at z3
  refine PySem.Calls.evalArgs_plain (thn z3 fun us s4 ⟨vs, H1, I4, r4, hl4, ea4, q4⟩ => ?_)
  have hpin := (I4.pin (hh.objs.size, PySem.W.kxs_mw "ValueError.__init__" a) (List.mem_append_right _ List.mem_cons_self)).1
  refine ⟨hpin, ?_⟩
  obtain ⟨t4, ho4⟩ := exo_at I4.hok ea4
  have hlen : us.length ≤ sizeLine := by
    rw [← Paired.length r4, sizeLine_eq]
    omega
  obtain ⟨hp4, g4, d4, t4', os4⟩ := s4
  show wpAny _ _ (call (.ref hh.objs.size) ([] ++ us) []) _ _ _
  refine call_wrap (I4.kIn _ _ hC) ho4 hpin hlen fun h' t5 kk hx => ?_
  have I5 := I4.write (t' := t4') (x := a) (e := a) (o := exo a C none) (by rw [ea4]; exact True.intro) (.inl rfl) kk ⟨_, hx⟩ (exo_ok hx)
  have eu : upd H1 a (exo a C none) = H1 := by
    funext b
    by_cases hb : b = a
    · rw [hb, upd_same, ea4]
    · rw [upd_ne hb]
  rw [eu] at I5
  exact hu.run body pins _ σ H1 Dn (I5.pins_of fun p hp => I5.pin p (List.mem_append_right _ (List.mem_cons_of_mem _ hp))) q4
end
end G

set_option Elab.async false
set_option linter.all false
set_option maxRecDepth 100000
set_option maxHeartbeats 4000000
namespace G
open PySem L2
/-! ## own exceptions -/
/-- what an exception's __init__ keeps -/
def spX (C : Addr) (fns : List Str) : Sp := fun vs H Q _ => ∃ a ws, vs = .ref a :: ws ∧ ws.length = fns.length ∧ H a = some (exo a C none) ∧ ∀ d, H d = none → d ≠ a → Q .non (upd (upd H d (exd d (fns.zip ws).reverse)) a (exo a C (some d)))
theorem upd_comm {H : Hp} {a b : Addr} {o u : HO} (h : a ≠ b) : upd (upd H a o) b u = upd (upd H b u) a o := by
  funext c
  by_cases h1 : c = a
  · subst h1
    rw [upd_same, upd_ne h, upd_same]
  · by_cases h2 : c = b
    · subst h2
      rw [upd_same, upd_ne h1, upd_same]
    · rw [upd_ne h2, upd_ne h1, upd_ne h1, upd_ne h2]
theorem upd_upd {H : Hp} {a : Addr} {o u : HO} : upd (upd H a o) a u = upd H a u := by
  funext c
  by_cases h1 : c = a
  · subst h1
    rw [upd_same, upd_same]
  · rw [upd_ne h1, upd_ne h1, upd_ne h1]
section
variable {K : PySem.W.Frag} {C : Addr} {f1 f2 : Str} {vs : List V} {H : Hp} {Q : VK} {E : XK} {N : List Str} {txt : Str}
theorem tx1 (ox : OexC K C) (n1 : PySem.W.findIn K (.ref C) f1 = some none) (h : spX C [f1] vs H Q E) : tSupX C (tCons (tC (.str txt)) tNil) (tOst K f1 (tVar 0) (tVar 1)) { nx := fun _ H' => Q .non H', rt := Q } (NdefX.startF N vs [none]) H := by
  obtain ⟨a, ws, rfl, hl, ha, k⟩ := h
  match ws, hl with
  | [w1], _ => exact ⟨a, rfl, ha, by simp, ha, _, rfl, _, rfl, a, C, rfl, ox, n1, .inl ⟨ha, fun d hd ne => k d hd ne⟩⟩
theorem tx2 (ox : OexC K C) (n1 : PySem.W.findIn K (.ref C) f1 = some none) (n2 : PySem.W.findIn K (.ref C) f2 = some none) (h : spX C [f1, f2] vs H Q E) :
    tSupX C (tCons (tC (.str txt)) tNil) (tSeq (tOst K f1 (tVar 0) (tVar 1)) (tOst K f2 (tVar 0) (tVar 2))) { nx := fun _ H' => Q .non H', rt := Q } (NdefX.startF N vs [none]) H := by
  obtain ⟨a, ws, rfl, hl, ha, k⟩ := h
  match ws, hl with
  | [w1, w2], _ =>
    refine ⟨a, rfl, ha, by simp, ha, _, rfl, _, rfl, a, C, rfl, ox, n1, .inl ⟨ha, fun d hd ne => ?_⟩⟩
    refine ⟨_, rfl, _, rfl, a, C, rfl, ox, n2, .inr ⟨d, [(f1, w1)], upd_same, ?_, by simp, ?_⟩⟩
    · rw [upd_ne ne]
      exact upd_same
    · have z := k d hd ne
      rw [upd_comm ne.symm, upd_upd]
      exact z
end
/-- the exception class of that name can be made -/
def GX (g : Gm) (P : Program) (w : World) (K : PySem.W.Frag) (mg : Str → Option Value) (base : Heap) (ec : Ec) (name : Str) (fs : List Fd) : Prop :=
  mg name = some (.ref (g.ea ec)) ∧ OexC K (g.ea ec) ∧ ∃ f fd ps, PySem.W.findIn K (.ref (g.ea ec)) "__init__" = some (some (.ref f)) ∧ PySem.W.typeIn K (.ref f) = some (.type "function") ∧ FnOk P w K mg base (L2.CX P w) 1 f fd ps (spX (g.ea ec) (fs.map Fd.str)) ∧ Binds K fd ps []
def dRaise (ec : Ec) (fs : List Fd) (R : DA) : DS := fun D Δ O => R Δ O (fun ds O1 => ds.length = fs.length ∧ ds.length ≤ 9 ∧ D.xc ⟨ec, fs, ds⟩ Δ O1) (fun x O1 => D.xc x Δ O1)
theorem look_rev : ∀ {fs : List Fd} {vs : List V}, fs.Nodup → fs.length = vs.length → ∀ f : Fd, ((fs.map Fd.str).zip vs).reverse.lookup f.str = (zipF fs vs).lookup f.str := by
  intro fs
  induction fs with
  | nil => intro vs _ _ f; rfl
  | cons h hs ih =>
    intro vs nd hl f
    cases vs with
    | nil => simp at hl
    | cons v vs =>
      have nd' := List.nodup_cons.mp nd
      rw [List.map_cons, List.zip_cons_cons, List.reverse_cons, List.lookup_append, ih nd'.2 (by simpa using hl), zipF_cons]
      by_cases q : f = h
      · subst q
        rw [getF_none fun x hx z => nd'.1 (by rw [Fd.inj z]; exact hx)]
        simp [List.lookup]
      · have q' : (f.str == h.str) = false := by
          rw [beq_eq_false_iff_ne]
          exact fun z => q (Fd.inj z)
        have z : List.lookup f.str [(h.str, v)] = none := by rw [List.lookup_cons, q']; rfl
        rw [z, List.lookup_cons, q']
        simp
section
variable {g : Gm} {X : Cx} {W : WX} {pos pos' p p2 : Pos} {a b c e : Expr} {es : List Expr} {R : DA} {Ta Tb : DE} {k j : Nat} {x : Str}
theorem qs_raise {ec : Ec} {fs : List Fd} (h : GX g X.prog X.w X.K X.mg X.base ec x fs) (hr : Room j X.A) (tk : Takes X W) (ha : PA X (e :: es) (la g W R)) (hj : 2 ≤ j := by decide) (nd : fs.Nodup := by decide) (hc : X.calm = true := by rfl) (hg : Gl X x := by rfl)
    (hdb : (x == ("__debug__" : Str)) = false := by decide) (he : starEach (e :: es) X.env = (false, eval e X.env) :: starEach es X.env := by rfl) (hpl : (backTo pos (starEach es X.env)).any (·.1) = false := by rfl) :
    PS X (.Raise (some (.Call (.Name x p) (e :: es) [] pos)) none pos') (ls g W (dRaise ec fs R)) := by
  obtain ⟨hm, T, f, fd, ps, iC, tI, F1, hb⟩ := h
  refine ps_imp (ps_raise hc tk (pmk_oex T iC tI F1 (hr.mono hj) hb .nil (fun _ _ _ _ _ _ _ z => by obtain ⟨_, _, _, _, _, _, _, _, _, _, _, _, z⟩ := z; exact z.elim) hg hm ha hdb he hpl)) fun En σ H ⟨D, Δ, O, F, hT, sr, w, ho⟩ => ?_
  refine la_bind hT sr w (ho.toX sr) fun ds O1 vs F1' H1 hT1 s1 sr1 w1 rs hx1 => ?_
  obtain ⟨hl, h9, hT1⟩ := hT1
  have hlv : vs.length = fs.length := by rw [← rs.length, hl]
  refine ⟨by omega, fun q hq => ⟨q, vs, by simp, by simp [hlv], upd_same, fun d hd ne => ⟨rfl, d, ((fs.map Fd.str).zip vs).reverse, upd_same, ?_, ?_, ?_⟩⟩⟩
  · rw [upd_ne ne]
    exact upd_same
  · rw [upd_ne ne] at hd
    exact hd
  · have hd1 : H1 d = none := by rw [upd_ne ne] at hd; exact hd
    have eH : upd (del (upd (upd (upd H1 q (exo q (g.ea ec) none)) d (exd d ((fs.map Fd.str).zip vs).reverse)) q (exo q (g.ea ec) (some d))) q) d (.xd ((fs.map Fd.str).zip vs).reverse) = upd H1 d (.xd ((fs.map Fd.str).zip vs).reverse) := by
      funext b
      by_cases h1 : b = d
      · subst h1
        rw [upd_same, upd_same]
      · rw [upd_ne h1, upd_ne h1]
        by_cases h2 : b = q
        · subst h2
          rw [del_same, hq]
        · rw [del_ne h2, upd_ne h2, upd_ne h1, upd_ne h2]
    rw [eH]
    have w2 := w1.frozen (o := .xd ((fs.map Fd.str).zip vs).reverse) hd1
    have s2 := w1.fsame (o := .xd ((fs.map Fd.str).zip vs).reverse) hd1
    exact ho.xc _ _ _ _ _ _ _ _ hT1 (s1.trans s2) (sr1.mono s2) w2 ⟨rfl, vs, ⟨fun dd e => by cases e; exact ⟨_, upd_same⟩, fun f w hw => ⟨d, _, rfl, upd_same, by rw [look_rev nd hlv.symm]; exact hw⟩⟩, rs.mono s2⟩
/-- an exception class without an own __init__, made of a text -/
def GXT (g : Gm) (K : PySem.W.Frag) (mg : Str → Option Value) (ec : Ec) (name : Str) : Prop :=
  mg name = some (.ref (g.ea ec)) ∧ PySem.W.excIn K (g.ea ec) [.type "ValueError", .type "Exception", .type "BaseException", .type "object"] "ValueError.__new__" = true ∧ PySem.W.keepIn K (.ref (g.ea ec)) = true ∧
    PySem.W.subIn K (.ref (g.ea ec)) (.type "BaseException") = some true ∧ PySem.W.typeIn K (.ref (g.ea ec)) = some (.type "type")
def dRaiseT (ec : Ec) : DS := fun D Δ O => D.xc ⟨ec, [], []⟩ Δ O
theorem qs_raiseT {ec : Ec} {m : Str} {i : Nat} (h : GXT g X.K X.mg ec x) (tk : Takes X W) (hc : X.calm = true := by rfl) (hg : Gl X x := by rfl) (hdb : (x == ("__debug__" : Str)) = false := by decide) :
    PS X (.Raise (some (.Call (.Name x p) [.Constant (.str m) i p2] [] pos)) none pos') (ls g W (dRaiseT ec)) := by
  obtain ⟨hm, q, kC, e1, e2⟩ := h
  refine ps_imp (ps_raise hc tk (pmk_own PySem.F.excBase_ValueError q hm kC (raises_own e1 e2) hg hdb)) fun En σ H ⟨D, Δ, O, F, hT, sr, w, ho⟩ => ?_
  exact ho.xc _ _ _ _ _ _ _ _ hT (Same.refl F) sr w ⟨rfl, [], ⟨fun dd e => (by cases e), fun f w hw => by cases hw⟩, Reps.nil⟩
/-! ## try -/
/-- which errors a clause catches -/
def Cat (g : Gm) (K : PySem.W.Frag) (c : Value) (cat : Ec → Option Bool) : Prop := ∀ ec b, cat ec = some b → PySem.W.exmOne K (.ref (g.ea ec)) c = some b
abbrev DH := Addr → Ec → Option Addr → DS
def dTry (i : Nat) (cat : Ec → Option Bool) (Tb : DS) (Th : DH) : DS := fun D Δ O => Tb { D with xc := fun x Δ1 O1 => match cat x.c with
  | some true => ∀ a d, freshC O1 a → Th a x.c d { nx := fun Δ' O' => D.nx (Δ'.set i none) O', rt := D.rt, bk := fun Δ' O' => D.bk (Δ'.set i none) O', ct := fun Δ' O' => D.ct (Δ'.set i none) O' } (Δ1.set i (some (.xcp a d x.fs x.ds))) O1
  | some false => D.xc x Δ1 O1
  | none => False } Δ O
/-- .. with no name for the error -/
def dTryN (cat : Ec → Option Bool) (Tb : DS) (Th : DH) : DS := fun D Δ O => Tb { D with xc := fun x Δ1 O1 => match cat x.c with
  | some true => ∀ a d, freshC O1 a → Th a x.c d { nx := D.nx, rt := D.rt, bk := D.bk, ct := D.ct } Δ1 O1
  | some false => D.xc x Δ1 O1
  | none => False } Δ O
/-- e.f, e the error that is handled -/
def dXf (cs : List Ec) (f : Fd) (a : Addr) (ec : Ec) (d : Option Addr) (T : DE) : DE := fun Δ O P E => T Δ O (fun v O1 => match v with
  | .xcp a' d' fs ds => a' = a ∧ d' = d ∧ ec ∈ cs ∧ (match getF f fs ds with | some e => P e O1 | none => False)
  | _ => False) E
def dIsX (tab : Ec → Option Bool) (q : Addr) (ec : Ec) (d : Option Addr) (T : DE) : DE := fun Δ O P E => T Δ O (fun v O1 => match v with
  | .xcp a' d' _ _ => a' = q ∧ d' = d ∧ (match tab ec with | some b => P (.bl b) O1 | none => False)
  | _ => False) E
end
end G

set_option Elab.async false
set_option linter.all false
set_option maxRecDepth 100000
set_option maxHeartbeats 4000000
namespace G
open PySem L2
/-! ## types of data, isinstance of an own class -/
inductive Tg where
  | b (s : String) | c (cl : Cl)
  deriving DecidableEq
def Tg.val (g : Gm) : Tg → Value
  | .b s => .type s
  | .c cl => .ref (g.ca cl)
def tgD (O : Sto) (d : D) : Option Tg := match d with
  | .tup _ => some (.b "tuple")
  | .obj c _ _ => some (.c c)
  | .ptr q => (match getC O q with | some (.ins c _ _) => some (.c c) | some (.lst _) => some (.b "list") | some (.dic _ _) => some (.b "dict") | _ => none)
  | d => (tyD O d).map Tg.b
structure OwnTy (g : Gm) (c : Cl) : Prop where
  cl : Cls g.K (g.ca c)
  ha : PySem.W.findIn g.K (.ref (g.ca c)) "__class__" = some (some (.builtin "object.__class__"))
  hn : PySem.W.specialIn g.K (.builtin "object.__class__") "__get__" = some (some (.builtin "getset_descriptor.__get__"))
  ht : PySem.W.takesIn g.K (.builtin "object.__class__") = some true
  hm : PySem.W.mroIn g.K (g.ca c) (.type "object") = some true
section
variable {g : Gm}
theorem sqt_ty {K : PySem.W.Frag} {H : Hp} {a : Addr} {vs : List V} (h : SqT K H a vs) : TyX K H (.ref a) (.type "tuple") := by
  rcases h with (h | ⟨o, h⟩) | h
  · exact .base (.tup h)
  · exact .fTuple h
  · obtain ⟨o, h1, h2⟩ : ∃ o, K.lookup a = some o ∧ o.cls = .type "tuple" := by
      obtain ⟨o, us, n, h1, h2, h3⟩ := h
      exact ⟨o, h1, h2⟩
    exact .kTuple h1 h2
theorem tg_of {F : Hp} {O : Sto} {H : Hp} {d : D} {v : V} {t : Tg} (h : tgD O d = some t) (r : Rep g F d v) (w : Wd g F O H) (ow : ∀ c, t = .c c → OwnTy g c) : TyX g.K H v (t.val g) := by
  have ins : ∀ {a dx : Addr} {fs : List (Str × V)} {c : Cl}, OwnTy g c → H a = some (.ins (g.ca c) dx fs) → TyX g.K H (.ref a) (.ref (g.ca c)) := fun o e => .base (.ins e o.cl o.ha o.hn o.ht o.hm)
  cases d with
  | tup ds =>
    cases h
    obtain ⟨q, vs, rfl, h3, h4⟩ := Rep.tup_sq r
    exact sqt_ty (sqt_same w.same h3)
  | obj c fs ds =>
    cases h
    obtain ⟨p, dx, vs, rfl, h1, h2, h3⟩ := Rep.obj_iff.mp r
    exact ins (ow c rfl) (w.same _ _ h1)
  | ptr q =>
    rw [Rep.ptr_iff] at r
    subst r
    simp only [tgD] at h
    split at h
    · rename_i c fs ds eg
      cases h
      obtain ⟨_, ob, h3, h4⟩ := w.get eg
      cases ob with
      | ins C dx vfs =>
        obtain ⟨h5, _⟩ := h4
        subst h5
        exact ins (ow c rfl) h3
      | _ => exact h4.elim
    · rename_i ds eg
      cases h
      exact ty_of (O := O) (d := .ptr q) (by simp only [tyD, eg]) (Rep.ptr_iff.mpr rfl) w
    · rename_i ks ds eg
      cases h
      exact ty_of (O := O) (d := .ptr q) (by simp only [tyD, eg]) (Rep.ptr_iff.mpr rfl) w
    · cases h
  | non => cases h; exact ty_of (O := O) rfl r w
  | bl b => cases h; exact ty_of (O := O) rfl r w
  | int b => cases h; exact ty_of (O := O) rfl r w
  | str b => cases h; exact ty_of (O := O) rfl r w
  | lst b => cases h; exact ty_of (O := O) rfl r w
  | dic b c => cases h; exact ty_of (O := O) rfl r w
  | scr b => cases h
  | cls b => cases h
  | xcp _ _ _ _ => cases h
end
def dIsO (tab : Tg → Option Bool) (T : DE) : DE := fun Δ O P E => T Δ O (fun d O1 => match tgD O1 d with
  | some t => (match tab t with | some b => P (.bl b) O1 | none => False)
  | none => False) E
section
variable {g : Gm} {X : Cx} {W : WX} {pos pos' p q apos : Pos} {a b c o : Expr} {es : List Expr} {Ta Tb : DE} {R : DA} {k j : Nat} {f : Addr} {S : DSp} {x m : Str} {tab : List (Cl × DSp)}
/-! ## own operators -/
/-- the operator's name, the class of the left operand: the def that serves it -/
def dBin (tab : List (Cl × DSp)) (ok : Cl → Sto → D → Prop) (Ta Tb : DE) : DE := fun Δ O P E => Ta Δ O (fun x O1 => Tb Δ O1 (fun y O2 => match clsOf O2 x with
  | some c => (match tabAt tab c with | some S => ok c O2 y ∧ S [x, y] O2 P E | none => False)
  | none => False) E) E
def dUno (tab : List (Cl × DSp)) (Ta : DE) : DE := fun Δ O P E => Ta Δ O (fun x O1 => match clsOf O1 x with
  | some c => (match tabAt tab c with | some S => S [x] O1 P E | none => False)
  | none => False) E
end
end G

set_option Elab.async false
set_option linter.all false
set_option maxRecDepth 100000
set_option maxHeartbeats 4000000
namespace G
open PySem L2
/-! ## == and != by an own __eq__ -/
section
variable {prog : Program} {w : World} {M : Model} {A : Around} {E : Value → Shared → Prop} {s : Shared} {K : PySem.W.Frag} {x C f : Addr} {ox : Obj} {od : Option Obj} {b tb : Value}
end
/-- x == y, x of an own class: nf tells which classes may stand at the right -/
def dEqOwn (neg : Bool) (tab : List (Cl × DSp)) (nf : Cl → Tg → Bool) (Ta Tb : DE) : DE := fun Δ O P E => Ta Δ O (fun x O1 => Tb Δ O1 (fun y O2 => match clsOf O2 x, tgD O2 y with
  | some c, some t => (match tabAt tab c with | some S => nf c t = true ∧ S [x, y] O2 (boolK fun k O3 => P (.bl (if neg = true then !k else k)) O3) E | none => False)
  | _, _ => False) E) E
section
variable {g : Gm} {X : Cx} {W : WX} {pos pos' p apos : Pos} {a b c o : Expr} {es : List Expr} {Ta Tb : DE} {R : DA} {k j : Nat} {f : Addr} {S : DSp} {x m : Str} {tab : List (Cl × DSp)}
end
end G

set_option Elab.async false
set_option linter.all false
set_option maxRecDepth 100000
set_option maxHeartbeats 4000000
namespace G
open PySem L2
/-! ## more builtins -/
def fMax2 : BC := fun ds O P => match ds with | [.int i, .int j] => P (.int (max i j)) O | _ => False
def fMin2 : BC := fun ds O P => match ds with | [.int i, .int j] => P (.int (min i j)) O | _ => False
def fAbs : BC := fun ds O P => match ds with | [.int i] => P (.int (i.natAbs : Int)) O | _ => False
def intsOf : List D → Option (List Int)
  | [] => some []
  | .int i :: r => (intsOf r).map (i :: ·)
  | _ => none
theorem intsOf_map (ns : List Int) : intsOf (ns.map D.int) = some ns := by
  induction ns with
  | nil => rfl
  | cons n ns ih => rw [List.map_cons, intsOf, ih]; rfl
theorem intsOf_eq : ∀ {ds : List D} {ns : List Int}, intsOf ds = some ns → ds = ns.map D.int := by
  intro ds
  induction ds with
  | nil => intro ns h; cases h; rfl
  | cons d ds ih =>
    intro ns h
    cases d with
    | int i =>
      rw [intsOf] at h
      cases e : intsOf ds with
      | none => rw [e] at h; cases h
      | some r =>
        rw [e] at h
        cases h
        rw [ih e]
        rfl
    | _ => simp [intsOf] at h
/-- the numbers in ascending order -/
def srtI (ns : List Int) : List Int := ns.mergeSort fun a b => decide (a ≤ b)
theorem sorted_unique : ∀ {xs ys : List Int}, xs.Perm ys → xs.Pairwise (· ≤ ·) → ys.Pairwise (· ≤ ·) → xs = ys := by
  intro xs
  induction xs with
  | nil => intro ys p _ _; exact p.nil_eq
  | cons x xs ih =>
    intro ys p hx hy
    cases ys with
    | nil => exact absurd p.symm.nil_eq (by simp)
    | cons y ys =>
      have e : x = y := by
        have h1 : x ∈ y :: ys := p.subset List.mem_cons_self
        have h2 : y ∈ x :: xs := p.symm.subset List.mem_cons_self
        have a1 : y ≤ x := by
          rcases List.mem_cons.mp h1 with h | h
          · omega
          · exact (List.pairwise_cons.mp hy).1 x h
        have a2 : x ≤ y := by
          rcases List.mem_cons.mp h2 with h | h
          · omega
          · exact (List.pairwise_cons.mp hx).1 y h
        omega
      subst e
      rw [ih (List.Perm.cons_inv p) (List.pairwise_cons.mp hx).2 (List.pairwise_cons.mp hy).2]
theorem srtI_perm (ns : List Int) : (srtI ns).Perm ns := List.mergeSort_perm ns _
theorem srtI_sorted (ns : List Int) : (srtI ns).Pairwise (· ≤ ·) := by
  have z := List.pairwise_mergeSort (le := fun a b : Int => decide (a ≤ b)) (by intro a b c h1 h2; simp at *; omega) (by intro a b; simp; omega) ns
  exact z.imp fun h => by simpa using h
theorem srtI_eq {ns xs : List Int} (p : xs.Perm ns) (h : xs.Pairwise (· ≤ ·)) : xs = srtI ns := sorted_unique (p.trans (srtI_perm ns).symm) h (srtI_sorted ns)
def fSortI : BC := fun ds O P => match ds with | [d] => (match lstOf O d with | some es => (match intsOf es with | some ns => P (.lst ((srtI ns).map D.int)) O | none => False) | none => False) | _ => False
section
variable {g : Gm}
theorem reps2 {F : Hp} {a b : D} {vs : List V} (h : Reps g F [a, b] vs) : ∃ u v, vs = [u, v] ∧ Rep g F a u ∧ Rep g F b v := by
  obtain ⟨u, r, rfl, h1, h2⟩ := Reps.cons_iff.mp h
  obtain ⟨v, r', rfl, h3, h4⟩ := Reps.cons_iff.mp h2
  rw [Reps.nil_iff] at h4
  subst h4
  exact ⟨u, v, rfl, h1, h3⟩
theorem reps1 {F : Hp} {a : D} {vs : List V} (h : Reps g F [a] vs) : ∃ u, vs = [u] ∧ Rep g F a u := by
  obtain ⟨u, r, rfl, h1, h2⟩ := Reps.cons_iff.mp h
  rw [Reps.nil_iff] at h2
  subst h2
  exact ⟨u, rfl, h1⟩
theorem lk_max2 : LkC g (fun xs H Q => ∃ i j, xs = [.int i, .int j] ∧ Q (.int (if j > i then j else i)) H) fMax2 := by
  intro ds O P F H vs Q hf rs w hv
  unfold fMax2 at hf
  split at hf
  · rename_i i j
    obtain ⟨u, v, rfl, h1, h2⟩ := reps2 rs
    refine ⟨i, j, by rw [Rep.int_iff.mp h1, Rep.int_iff.mp h2], ?_⟩
    have e : (if j > i then j else i) = max i j := by split <;> omega
    rw [e]
    exact hv.now hf w rint
  · exact hf.elim
/-- a list of whole numbers, as the heap has it -/
theorem lst_ints {F : Hp} {O : Sto} {H : Hp} {d : D} {v : V} {es : List D} {ns : List Int} (e : lstOf O d = some es) (ei : intsOf es = some ns) (r : Rep g F d v) (w : Wd g F O H) : ∃ q, v = .ref q ∧ SqL g.K H q (ns.map V.int) := by
  obtain ⟨q, vs, rfl, h1, h2⟩ := lst_of e r w
  rw [intsOf_eq ei] at h2
  rw [Reps.ints] at h2
  subst h2
  exact ⟨q, rfl, SqL.of h1⟩
theorem lk_sortI : LkC g (rSortedI g.K) fSortI := by
  intro ds O P F H vs Q hf rs w hv
  unfold fSortI at hf
  split at hf
  · rename_i d
    split at hf
    · rename_i es e
      split at hf
      · rename_i ns ei
        obtain ⟨u, rfl, h1⟩ := reps1 rs
        obtain ⟨q, rfl, hs⟩ := lst_ints e ei h1 w
        refine ⟨q, ns, rfl, hs, fun ns' p pm so hp => ?_⟩
        rw [srtI_eq pm so]
        exact hv _ _ _ _ _ hf (w.fsame hp) (w.frozen hp) ((Reps.ints.mpr rfl).newL (w.same.free hp))
      · exact hf.elim
    · exact hf.elim
  · exact hf.elim
end
theorem sz0 : (0 ≤ sizeLine) = True := by simp
theorem sz1 : (0 + 1 ≤ sizeLine) = True := by rw [sizeLine_eq]; simp
theorem sz2 : (0 + 1 + 1 ≤ sizeLine) = True := by rw [sizeLine_eq]; simp
theorem sz3 : (0 + 1 + 1 + 1 ≤ sizeLine) = True := by rw [sizeLine_eq]; simp
theorem sz4 : (0 + 1 + 1 + 1 + 1 ≤ sizeLine) = True := by rw [sizeLine_eq]; simp
theorem sz5 : (0 + 1 + 1 + 1 + 1 + 1 ≤ sizeLine) = True := by rw [sizeLine_eq]; simp
theorem sz6 : (0 + 1 + 1 + 1 + 1 + 1 + 1 ≤ sizeLine) = True := by rw [sizeLine_eq]; simp
theorem sz7 : (0 + 1 + 1 + 1 + 1 + 1 + 1 + 1 ≤ sizeLine) = True := by rw [sizeLine_eq]; simp
theorem sz8 : (0 + 1 + 1 + 1 + 1 + 1 + 1 + 1 + 1 ≤ sizeLine) = True := by rw [sizeLine_eq]; simp
theorem sz9 : (0 + 1 + 1 + 1 + 1 + 1 + 1 + 1 + 1 + 1 ≤ sizeLine) = True := by rw [sizeLine_eq]; simp
theorem sz10 : (0 + 1 + 1 + 1 + 1 + 1 + 1 + 1 + 1 + 1 + 1 ≤ sizeLine) = True := by rw [sizeLine_eq]; simp
theorem sz11 : (0 + 1 + 1 + 1 + 1 + 1 + 1 + 1 + 1 + 1 + 1 + 1 ≤ sizeLine) = True := by rw [sizeLine_eq]; simp
theorem sz12 : (0 + 1 + 1 + 1 + 1 + 1 + 1 + 1 + 1 + 1 + 1 + 1 + 1 ≤ sizeLine) = True := by rw [sizeLine_eq]; simp
def isN : D → Bool
  | .non => true
  | _ => false
def fIsN : B2 := fun x y O P => match y with | .non => P (.bl (isN x)) O | _ => False
def fNotN : B2 := fun x y O P => match y with | .non => P (.bl (!isN x)) O | _ => False
theorem f_isN {O : Sto} {P : KD} {x : D} : fIsN x .non O P = P (.bl (isN x)) O := propext Iff.rfl
theorem f_notN {O : Sto} {P : KD} {x : D} : fNotN x .non O P = P (.bl (!isN x)) O := propext Iff.rfl
theorem f_max {O : Sto} {P : KD} {i j : Int} : fMax2 [.int i, .int j] O P = P (.int (max i j)) O := propext Iff.rfl
theorem f_min {O : Sto} {P : KD} {i j : Int} : fMin2 [.int i, .int j] O P = P (.int (min i j)) O := propext Iff.rfl
theorem f_abs {O : Sto} {P : KD} {i : Int} : fAbs [.int i] O P = P (.int (i.natAbs : Int)) O := propext Iff.rfl
theorem f_eqT {O : Sto} {P : KD} {a b c d : Int} : fEq (.tup [.int a, .int b]) (.tup [.int c, .int d]) O P = P (.bl (decide (a = c ∧ b = d))) O := by
  have e : eqB (.tup [.int a, .int b]) (.tup [.int c, .int d]) = some (decide (a = c ∧ b = d)) := by
    have z := eq_pr (a, b) (c, d)
    simp only [Prod.mk.injEq] at z
    exact z
  unfold fEq
  rw [e]
theorem f_neT {O : Sto} {P : KD} {a b c d : Int} : fNe (.tup [.int a, .int b]) (.tup [.int c, .int d]) O P = P (.bl (!decide (a = c ∧ b = d))) O := by
  have e : eqB (.tup [.int a, .int b]) (.tup [.int c, .int d]) = some (decide (a = c ∧ b = d)) := by
    have z := eq_pr (a, b) (c, d)
    simp only [Prod.mk.injEq] at z
    exact z
  unfold fNe
  rw [e]
theorem f_sortI {O : Sto} {P : KD} {ns : List Int} : fSortI [.lst (ns.map D.int)] O P = P (.lst ((srtI ns).map D.int)) O := by simp only [fSortI, lstOf, intsOf_map]
section
variable {Δ : Sl} {O : Sto} {P : KD} {E : KX} {En : DEnds} {Ta Tb Tc : DE} {T U : DS} {R : DA} {t u : DT} {i j : Nat} {d x y : D} {PB : Bool → Sto → Prop} {PA : List D → Sto → Prop} {tab : List (Cl × DSp)}
theorem e_raise {ec : Ec} {fs : List Fd} : dRaise ec fs R En Δ O = R Δ O (fun ds O1 => ds.length = fs.length ∧ ds.length ≤ 9 ∧ En.xc ⟨ec, fs, ds⟩ Δ O1) (fun x O1 => En.xc x Δ O1) := propext Iff.rfl
theorem e_raiseT {ec : Ec} : dRaiseT ec En Δ O = En.xc ⟨ec, [], []⟩ Δ O := propext Iff.rfl
theorem e_try {cat : Ec → Option Bool} {Th : DH} : dTry i cat T Th En Δ O = T { En with xc := fun x Δ1 O1 => match cat x.c with
  | some true => ∀ a d, freshC O1 a → Th a x.c d { nx := fun Δ' O' => En.nx (Δ'.set i none) O', rt := En.rt, bk := fun Δ' O' => En.bk (Δ'.set i none) O', ct := fun Δ' O' => En.ct (Δ'.set i none) O' } (Δ1.set i (some (.xcp a d x.fs x.ds))) O1
  | some false => En.xc x Δ1 O1
  | none => False } Δ O := propext Iff.rfl
theorem e_tryN {cat : Ec → Option Bool} {Th : DH} : dTryN cat T Th En Δ O = T { En with xc := fun x Δ1 O1 => match cat x.c with
  | some true => ∀ a d, freshC O1 a → Th a x.c d { nx := En.nx, rt := En.rt, bk := En.bk, ct := En.ct } Δ1 O1
  | some false => En.xc x Δ1 O1
  | none => False } Δ O := propext Iff.rfl
theorem e_xf {cs : List Ec} {f : Fd} {a : Addr} {ec : Ec} {dd : Option Addr} : dXf cs f a ec dd Ta Δ O P E = Ta Δ O (fun v O1 => match v with
  | .xcp a' d' fs ds => a' = a ∧ d' = dd ∧ ec ∈ cs ∧ (match getF f fs ds with | some e => P e O1 | none => False)
  | _ => False) E := propext Iff.rfl
theorem e_isX {tb : Ec → Option Bool} {a : Addr} {ec : Ec} {dd : Option Addr} : dIsX tb a ec dd Ta Δ O P E = Ta Δ O (fun v O1 => match v with
  | .xcp a' d' _ _ => a' = a ∧ d' = dd ∧ (match tb ec with | some b => P (.bl b) O1 | none => False)
  | _ => False) E := propext Iff.rfl
theorem e_isO {tb : Tg → Option Bool} : dIsO tb Ta Δ O P E = Ta Δ O (fun d O1 => match tgD O1 d with
  | some t => (match tb t with | some b => P (.bl b) O1 | none => False)
  | none => False) E := propext Iff.rfl
theorem e_bin {ok : Cl → Sto → D → Prop} : dBin tab ok Ta Tb Δ O P E = Ta Δ O (fun x O1 => Tb Δ O1 (fun y O2 => match clsOf O2 x with
  | some c => (match tabAt tab c with | some S => ok c O2 y ∧ S [x, y] O2 P E | none => False)
  | none => False) E) E := propext Iff.rfl
theorem e_uno : dUno tab Ta Δ O P E = Ta Δ O (fun x O1 => match clsOf O1 x with
  | some c => (match tabAt tab c with | some S => S [x] O1 P E | none => False)
  | none => False) E := propext Iff.rfl
theorem e_eqOwn {neg : Bool} {nf : Cl → Tg → Bool} : dEqOwn neg tab nf Ta Tb Δ O P E = Ta Δ O (fun x O1 => Tb Δ O1 (fun y O2 => match clsOf O2 x, tgD O2 y with
  | some c, some t => (match tabAt tab c with | some S => nf c t = true ∧ S [x, y] O2 (boolK fun k O3 => P (.bl (if neg = true then !k else k)) O3) E | none => False)
  | _, _ => False) E) E := propext Iff.rfl
theorem e_meth : dMeth tab Ta R Δ O P E = Ta Δ O (fun o O1 => match clsOf O1 o with
  | some c => (match tabAt tab c with | some S => R Δ O1 (fun ds O2 => S (o :: ds) O2 P E) E | none => False)
  | none => False) E := propext Iff.rfl
theorem tgI {n : Int} : tgD O (.int n) = some (.b "int") := rfl
theorem tgN : tgD O .non = some (.b "NoneType") := rfl
theorem tgB {n : Bool} : tgD O (.bl n) = some (.b "bool") := rfl
theorem tgS {n : Str} : tgD O (.str n) = some (.b "str") := rfl
theorem tgL {n : List D} : tgD O (.lst n) = some (.b "list") := rfl
theorem tgT {n : List D} : tgD O (.tup n) = some (.b "tuple") := rfl
theorem tgO {c : Cl} {fs : List Fd} {ds : List D} : tgD O (.obj c fs ds) = some (.c c) := rfl
end
end G

set_option Elab.async false
set_option linter.all false
set_option maxRecDepth 100000
set_option maxHeartbeats 4000000
namespace G
open PySem L2
/-! ## tables -/
section
variable {g : Gm} {tab : List (Cl × DSp)}
end
section
variable {g : Gm} {P : Program} {w : World} {mg : Str → Option Value} {base : Heap}
theorem gx_mk {ec : Ec} {name : Str} {fs : List Fd} {f : Addr} {fd : FuncData} {ps : List Str} (hm : mg name = some (.ref (g.ea ec))) (ox : OexC g.K (g.ea ec)) (iC : PySem.W.findIn g.K (.ref (g.ea ec)) "__init__" = some (some (.ref f))) (tI : PySem.W.typeIn g.K (.ref f) = some (.type "function"))
    (F : FnOk P w g.K mg base (L2.CX P w) 1 f fd ps (spX (g.ea ec) (fs.map Fd.str))) (hb : Binds g.K fd ps []) : GX g P w g.K mg base ec name fs := ⟨hm, ox, f, fd, ps, iC, tI, F, hb⟩
theorem FunS.binds {K : PySem.W.Frag} {x qual : Str} {st : Stmt} {f : Addr} {fd : FuncData} {cc cda D : Addr} {file : Str} {ps : List Str} (F : FunS K x qual st f fd cc cda D file)
    (h : ∀ (kV doc pm : Value) (an : Option Addr) (ct : Value) (us : List Value), us.length = ps.length → bindArgs (PySem.W.ksFn x qual (defArgs st) (defBody st) (defScope st) .none kV doc pm an (.ref cda) ct cc) ⟨us, []⟩ = pure (ps.zip us)) : Binds K fd ps [] := by
  obtain ⟨oc, od, kV, doc, pm, an, ct, osl, rfl, lk⟩ := F.ex
  exact .all (h kV doc pm an ct)
end
end G

set_option Elab.async false
set_option linter.all false
set_option maxRecDepth 100000
set_option maxHeartbeats 4000000
namespace G
open PySem L2
/-! ## star arguments, classes as values -/
def dStar (Ta : DE) (R : DA) : DA := fun Δ O P E => Ta Δ O (fun d O1 => match seqOf O1 d with | some xs => R Δ O1 (fun ys O2 => P (xs ++ ys) O2) E | none => False) E
/-- a new object of the class c -/
def mkK (c : Cl) (S : DSp) (ds : List D) (O1 : Sto) (P : KD) (E : KX) : Prop := ∀ q, freshC O1 q → S (.ptr q :: ds) ((q, .ins c [] []) :: O1)
  (fun r O2 => r = .non ∧ (match getC O2 q with | some (.ins c' fs ds') => P (.obj c' fs ds') (delC O2 q) | _ => False)) (fun x O2 => E x (delC O2 q))
def dMakeC (tab : List (Cl × DSp)) (Tf : DE) (R : DA) : DE := fun Δ O P E => Tf Δ O (fun f O1 => match f with
  | .cls c => (match tabAt tab c with | some S => R Δ O1 (fun ds O2 => mkK c S ds O2 P E) E | none => False)
  | _ => False) E
def GCs (g : Gm) (P : Program) (w : World) (K : PySem.W.Frag) (mg : Str → Option Value) (base : Heap) (k : Nat) (tab : List (Cl × DSp)) : Prop := ∀ c S, tabAt tab c = some S → ∃ f, Mk K (g.ca c) f ∧ FN g P w K mg base k f S
section
variable {g : Gm} {X : Cx} {W : WX} {pos pos' p p2 : Pos} {a b c e : Expr} {es : List Expr} {R : DA} {Ta Tb Tf : DE} {k j : Nat} {x : Str} {tab : List (Cl × DSp)}
theorem seq_of {F : Hp} {O : Sto} {H : Hp} {d : D} {v : V} {xs : List D} (h : seqOf O d = some xs) (r : Rep g F d v) (w : Wd g F O H) : ∃ q vs, v = .ref q ∧ (SqT g.K H q vs ∨ SqL g.K H q vs) ∧ Reps g F xs vs := by
  cases d with
  | tup ds =>
    cases h
    obtain ⟨q, vs, rfl, h3, h4⟩ := Rep.tup_sq r
    exact ⟨q, vs, rfl, .inl (sqt_same w.same h3), h4⟩
  | lst ds =>
    obtain ⟨q, vs, rfl, h1, h2⟩ := lst_of (show lstOf O (.lst ds) = some xs from h) r w
    exact ⟨q, vs, rfl, .inr (SqL.of h1), h2⟩
  | ptr q =>
    obtain ⟨q, vs, rfl, h1, h2⟩ := lst_of (show lstOf O (.ptr q) = some xs from h) r w
    exact ⟨q, vs, rfl, .inr (SqL.of h1), h2⟩
  | _ => simp [seqOf, lstOf] at h
theorem q_clsG {cl : Cl} (hm : X.mg x = some (.ref (g.ca cl))) (hg : Gl X x := by rfl) (hd : (x == ("__debug__" : Str)) = false := by decide) : PE X (.Name x p) (le g W (dC (.cls cl))) :=
  pe_imp (pe_glob (v := .ref (g.ca cl)) hg hm rfl hd) fun σ H Q ⟨Δ, O, P, E, F, hT, sr, w, hv, hx⟩ => hv.now hT w (Rep.cls_iff.mpr rfl)
/-- what is known behind the callee -/
def MkAt (g : Gm) (W : WX) (σ : St) (tab : List (Cl × DSp)) (R : DA) (v : V) (H : Hp) (Q : VK) : Prop := ∃ c S, v = .ref (g.ca c) ∧ tabAt tab c = some S ∧ la g W R σ H fun vs H1 => ∀ x dx, H1 x = none → H1 dx = none → dx ≠ x →
  toSp g S (V.ref x :: vs) (upd (upd H1 dx (.own x)) x (.ins (g.ca c) dx [])) (fun v H2 => v = .non ∧ Q (.ref x) H2) fun cls dd H' => W cls dd σ H'
theorem mk_at {σ : St} {H : Hp} {Q : VK} {Δ : Sl} {O : Sto} {P : KD} {E : KX} {F : Hp} (hT : dMakeC tab Tf R Δ O P E) (sr : SRel g F σ Δ) (w : Wd g F O H) (hv : VOk g F P Q) (hx : XOk g F W σ E) : le g W Tf σ H fun v H1 => MkAt g W σ tab R v H1 Q := by
  refine le_bind hT sr w hx fun d O1 v F1 H1 hT1 s1 sr1 w1 rx hx1 => ?_
  cases d with
  | cls c =>
    have hT1 : (match tabAt tab c with | some S => R Δ O1 (fun ds O2 => mkK c S ds O2 P E) E | none => False) := hT1
    split at hT1
    · rename_i S eS
      refine ⟨c, S, Rep.cls_iff.mp rx, eS, ?_⟩
      exact la_bind hT1 sr1 w1 hx1 fun ds O2 vs F2 H2 hT2 s2 sr2 w2 rs hx2 x dx nx nd ne => mk_sp hT2 rs w2 hv (s1.trans s2) hx2 x dx nx nd ne
    · exact hT1.elim
  | _ => exact hT1.elim
/-- .. the star alone -/
theorem q_makeC1 (M : GCs g X.prog X.w X.K X.mg X.base k tab) (hr : Room j X.A) (tk : Takes X W) (hf : PE X (.Name x p) (le g W Tf)) (ha : PE X e (le g W Ta)) (hkj : k + 1 ≤ j := by first | decide | omega) (hK : X.K = g.K := by rfl)
    (hst : starEach [.Starred e p2] X.env = [(true, eval e X.env)] := by rfl) :
    PE X (.Call (.Name x p) [.Starred e p2] [] pos) (le g W (dMakeC tab Tf (dStar Ta dNil))) := by
  refine ⟨fun pins s σ H Q I h => ?_⟩
  obtain ⟨Δ, O, P, E, F, hT, sr, w, hv, hx⟩ := h
  refine wpAny_Call_Name_kw (thn (hf.run pins s σ H _ I (mk_at hT sr w hv hx)) fun u s1 ⟨v, H1, I1, r1, c, S, ev, eS, q1⟩ => ?_)
  subst ev
  obtain rfl : u = Value.ref (g.ca c) := r1
  obtain ⟨f, mk, Fn⟩ := M c S eS
  obtain ⟨Δ1, O1, P1, E1, F1, hT1, sr1, w1, hv1, hx1⟩ := q1
  refine PySem.W.callWith_S (h₀ := X.base) I.ok.mod.kin mk.kp (thn (ha.run pins s1 σ H1 (fun y H2 => ∃ q xs, y = .ref q ∧ (SqT g.K H2 q xs ∨ SqL g.K H2 q xs) ∧ ∀ x dx, H2 x = none → H2 dx = none → dx ≠ x → toSp g S (V.ref x :: xs) (upd (upd H2 dx (.own x)) x (.ins (g.ca c) dx [])) (fun v H2 => v = .non ∧ Q (.ref x) H2) fun cls dd H' => W cls dd σ H') I1
    (le_bind hT1 sr1 w1 hx1 fun d O2 v2 F2 H2 hT2 s2 sr2 w2 rx2 hx2 => ?_)) fun v s2 ⟨y, H2, I2, ry, q, xs, ey, hxs, hq⟩ => ?_) hst
  · split at hT2
    · rename_i xs e
      obtain ⟨q, vs, rfl, h1, h2⟩ := seq_of e rx2 w2
      have z := hv1 _ _ _ _ _ hT2 s2 w2 (h2.append Reps.nil)
      rw [List.append_nil] at z
      exact ⟨q, vs, rfl, h1, z⟩
    · exact hT2.elim
  · subst ey
    obtain rfl : v = Value.ref q := ry
    exact StX.star_any I2 (by rw [hK]; exact hxs) fun us s3 I3 rv => ⟨I3.kIn, run_mk mk Fn (hr.mono hkj) tk I3 rv hq⟩
end
/-! ### a def with a star parameter -/
/-- n parameters, then the rest as a tuple -/
def starS (n : Nat) (S : DSp) : DSp := fun ds O P E => n ≤ ds.length ∧ ds.length ≤ 100000 ∧ S (ds.take n ++ [.tup (ds.drop n)]) O P E
section
variable {g : Gm} {P : Program} {w : World} {K : PySem.W.Frag} {mg : Str → Option Value} {base : Heap}
theorem fn_starF {x qual : Str} {st : Stmt} {f : Addr} {fd : FuncData} {N ps : List Str} {pv : Str} {k : Nat} {S : DSp} {T : DS} (Fn : Fun K x qual st f fd) (Sc : FnScope N (ps ++ [pv]) (defScope st)) (body : BodyOk g P w K mg base k N qual st T) (pure : Pure N (ps.length + 1) S T)
    (hb : ∀ (kV doc pm : Value) (an : Option Addr) (cdv ct : Value) (us rest : List Value), us.length = ps.length → bindArgs (PySem.W.fnOf x qual (defArgs st) (defBody st) (defScope st) .none kV doc pm an cdv ct) ⟨us ++ rest, []⟩ = (newTuple rest >>= fun t => Pure.pure (ps.zip us ++ [(pv, t)]))) :
    FN g P w K mg base (k + 1) f (starS ps.length S) := by
  obtain ⟨oc, od, kV, doc, pm, an, cdv, ct, osl, rfl, lk, hcd⟩ := Fn.ex
  have z := StX.fn_star (sp := toSp g S) lk hcd Sc StX.cxUp (hb kV doc pm an cdv ct) fun A outer s H vs Q E hr h => ⟨_, body f cdv A outer s H E hr, ?_⟩
  · intro A outer s H us vs Q E hr e0 hv h
    refine z A outer s H us vs Q E hr e0 hv ?_
    obtain ⟨F, O, ds, P', EX, h1, h2, ⟨h3, h3', h4⟩, h5, h6⟩ := h
    have hl := h1.length
    refine ⟨vs.take ps.length, vs.drop ps.length, (List.take_append_drop _ _).symm, by rw [List.length_take]; omega, by rw [List.length_drop, sizeLine_eq]; omega, fun p hp => ?_⟩
    have s2 := h2.fsame (o := .tup (vs.drop ps.length)) hp
    exact ⟨_, O, _, P', EX, ((h1.take _).mono s2).append (Reps.one ((h1.drop _).newT (h2.same.free hp))), h2.frozen hp, h4, h5.mono s2, fun x O' cls dd F' H' q s' w' r' => h6 x O' cls dd F' H' q (s2.trans s') w' r'⟩
  · obtain ⟨F, O, ds, P', EX, h1, h2, h3, h4, h5⟩ := h
    obtain ⟨O', w', hT⟩ := (pure ds O P' EX h3).2 g F H h2
    refine ⟨endsD P' EX, startD N ds, O', F, hT, srel_start h1, w', ⟨fun Δ O1 F1 σ H1 ⟨O2, wk, q⟩ s1 sr1 w1 => ?_, fun d O1 v F1 H1 ⟨O2, wk, q⟩ s1 w1 r1 => ?_, fun _ _ _ _ _ q => q.elim, fun _ _ _ _ _ q => q.elim, fun y Δ O1 cls dd F1 σ H1 ⟨O2, wk, q⟩ s1 sr1 w1 r1 => ?_⟩⟩
    · exact h4 _ _ _ _ _ q s1 (wk _ _ _ w1) (Rep.non_iff.mpr rfl)
    · exact h4 _ _ _ _ _ q s1 (wk _ _ _ w1) r1
    · exact h5 _ _ _ _ _ _ q s1 (wk _ _ _ w1) r1
end
section
variable {Δ : Sl} {O : Sto} {P : KD} {E : KX} {Ta Tf : DE} {R : DA} {PA : List D → Sto → Prop} {tab : List (Cl × DSp)}
theorem e_star : dStar Ta R Δ O PA E = Ta Δ O (fun d O1 => match seqOf O1 d with | some xs => R Δ O1 (fun ys O2 => PA (xs ++ ys) O2) E | none => False) E := propext Iff.rfl
theorem e_makeC : dMakeC tab Tf R Δ O P E = Tf Δ O (fun f O1 => match f with
  | .cls c => (match tabAt tab c with | some S => R Δ O1 (fun ds O2 => mkK c S ds O2 P E) E | none => False)
  | _ => False) E := propext Iff.rfl
end
end G

set_option Elab.async false
set_option linter.all false
set_option maxRecDepth 100000
set_option maxHeartbeats 4000000
namespace G
open PySem L2
/-! ## dicts -/
def keyD : D → Option Key
  | .int i => some (.inl i)
  | .str x => some (.inr x)
  | _ => none
def dicOf (O : Sto) : D → Option (List Key × List D)
  | .dic ks ds => some (ks, ds)
  | .ptr q => match getC O q with | some (.dic ks ds) => some (ks, ds) | _ => none
  | _ => none
/-- what stands at the key -/
def getK (k : Key) : List Key → List D → Option D
  | h :: hs, d :: ds => if h = k then some d else getK k hs ds
  | _, _ => none
def putKs (k : Key) : List Key → List Key
  | [] => [k]
  | h :: hs => if h = k then h :: hs else h :: putKs k hs
def putKd (k : Key) (d : D) : List Key → List D → List D
  | h :: hs, e :: es => if h = k then d :: es else e :: putKd k d hs es
  | _, _ => [d]
theorem putKs_len (k : Key) (d : D) : ∀ (ks : List Key) (ds : List D), ks.length = ds.length → (putKs k ks).length = (putKd k d ks ds).length := by
  intro ks
  induction ks with
  | nil => intro ds h; cases ds <;> first | rfl | simp at h
  | cons h hs ih =>
    intro ds hl
    cases ds with
    | nil => simp at hl
    | cons e es =>
      simp only [putKs, putKd]
      by_cases q : h = k
      · rw [if_pos q, if_pos q]; simpa using hl
      · rw [if_neg q, if_neg q]; simp only [List.length_cons]; rw [ih es (by simpa using hl)]
section
variable {g : Gm}
theorem zipK_cons {k : Key} {ks : List Key} {v : V} {vs : List V} : zipK (k :: ks) (v :: vs) = (k, v) :: zipK ks vs := rfl
theorem getK_val {F : Hp} {k : Key} : ∀ {ks : List Key} {ds : List D} {vs : List V}, ks.length = ds.length → Reps g F ds vs → (∀ d, getK k ks ds = some d → ∃ v, valV (zipK ks vs) k = some v ∧ Rep g F d v) ∧ (getK k ks ds = none → valV (zipK ks vs) k = none) := by
  intro ks
  induction ks with
  | nil => intro ds vs hl h; exact ⟨fun d e => by cases ds <;> simp [getK] at e, fun _ => rfl⟩
  | cons h hs ih =>
    intro ds vs hl r
    cases ds with
    | nil => simp at hl
    | cons e es =>
      obtain ⟨v, r', rfl, h1, h2⟩ := Reps.cons_iff.mp r
      have ih' := ih (ds := es) (by simpa using hl) h2
      rw [zipK_cons]
      by_cases q : h = k
      · simp only [getK, if_pos q]
        exact ⟨fun d ed => by cases ed; exact ⟨v, valV_pos q, h1⟩, fun z => by cases z⟩
      · simp only [getK, if_neg q]
        rw [valV_neg q]
        exact ih'
theorem putK_zip {F : Hp} {k : Key} {d : D} {v : V} (hv : Rep g F d v) : ∀ {ks : List Key} {ds : List D} {vs : List V}, ks.Nodup → ks.length = ds.length → Reps g F ds vs → ∃ ws, putK (zipK ks vs) k v = zipK (putKs k ks) ws ∧ Reps g F (putKd k d ks ds) ws := by
  intro ks
  induction ks with
  | nil =>
    intro ds vs _ hl r
    cases ds with
    | nil =>
      rw [Reps.nil_iff] at r
      subst r
      exact ⟨[v], rfl, Reps.one hv⟩
    | cons _ _ => simp at hl
  | cons h hs ih =>
    intro ds vs nd hl r
    have nd' := List.nodup_cons.mp nd
    cases ds with
    | nil => simp at hl
    | cons e es =>
      obtain ⟨u, r', rfl, h1, h2⟩ := Reps.cons_iff.mp r
      rw [zipK_cons]
      by_cases q : h = k
      · subst q
        simp only [putKs, putKd, ↓reduceIte]
        refine ⟨v :: r', ?_, Reps.cons hv h2⟩
        have e0 : (zipK hs r').map (fun kv => if kv.1 = h then (kv.1, v) else kv) = zipK hs r' := by
          have e1 : (zipK hs r').map (fun kv => if kv.1 = h then (kv.1, v) else kv) = (zipK hs r').map id := by
            apply List.map_congr_left
            intro kv hkv
            rw [if_neg]
            · rfl
            · intro z
              exact nd'.1 (z ▸ (List.of_mem_zip (show (kv.1, kv.2) ∈ hs.zip r' from hkv)).1)
          rw [e1, List.map_id]
        simp only [putK, List.any_cons, decide_true, Bool.true_or, ↓reduceIte, List.map_cons, e0, zipK_cons]
      · obtain ⟨ws, e1, e2⟩ := ih nd'.2 (ds := es) (by simpa using hl) h2
        simp only [putKs, putKd, if_neg q]
        refine ⟨u :: ws, ?_, Reps.cons h1 e2⟩
        rw [zipK_cons, ← e1]
        unfold putK
        simp only [List.any_cons, q, decide_false, Bool.false_or, List.map_cons, ↓reduceIte]
        split <;> simp
theorem dic_of {F : Hp} {O : Sto} {H : Hp} {d : D} {v : V} {ks : List Key} {ds : List D} (h : dicOf O d = some (ks, ds)) (r : Rep g F d v) (w : Wd g F O H) : ∃ q vs, v = .ref q ∧ Rd H q (.dK (zipK ks vs)) ∧ ks.length = ds.length ∧ Reps g F ds vs := by
  cases d with
  | dic ks' ds' =>
    cases h
    obtain ⟨q, od, vs, rfl, h1, h2, h3⟩ := Rep.dic_iff.mp r
    exact ⟨q, vs, rfl, .inr ⟨od, w.same _ _ h1⟩, h2, h3⟩
  | ptr q =>
    rw [Rep.ptr_iff] at r
    subst r
    simp only [dicOf] at h
    split at h
    · rename_i ks' ds' eg
      cases h
      obtain ⟨_, ob, h3, h4⟩ := w.get eg
      cases ob with
      | dK kvs =>
        obtain ⟨h5, vs, rfl, h6⟩ := h4
        exact ⟨q, vs, rfl, .inl h3, h5, h6⟩
      | _ => exact h4.elim
    · cases h
  | _ => simp [dicOf] at h
theorem key_of {F : Hp} {d : D} {v : V} {k : Key} (h : keyD d = some k) (r : Rep g F d v) : v = kV k := by
  cases d with
  | int i => cases h; exact Rep.int_iff.mp r
  | str i => cases h; exact Rep.str_iff.mp r
  | _ => simp [keyD] at h
theorem dget_of {F : Hp} {O : Sto} {H : Hp} {d y : D} {v u : V} {ks : List Key} {ds : List D} {k : Key} (h : dicOf O d = some (ks, ds)) (hk : keyD y = some k) (r : Rep g F d v) (ry : Rep g F y u) (w : Wd g F O H) :
    ∃ q, v = .ref q ∧ IsD H q ∧ ((∀ e, getK k ks ds = some e → ∃ z, DGet H q u (some z) ∧ Rep g F e z) ∧ (getK k ks ds = none → DGet H q u none)) := by
  obtain ⟨q, vs, rfl, h1, h2, h3⟩ := dic_of h r w
  have g1 := getK_val (k := k) h2 h3
  refine ⟨q, rfl, .inl ⟨_, h1⟩, fun e he => ?_, fun hn => ?_⟩
  · obtain ⟨z, e1, e2⟩ := g1.1 e he
    exact ⟨z, .inl ⟨_, k, h1, key_of hk ry, e1.symm⟩, e2⟩
  · exact .inl ⟨_, k, h1, key_of hk ry, (g1.2 hn).symm⟩
end
/-- d[k] -/
def dDix (Td Tk : DE) : DE := fun Δ O P E => Td Δ O (fun d O1 => Tk Δ O1 (fun y O2 => match dicOf O2 d, keyD y with
  | some t, some k => (match getK k t.1 t.2 with | some e => P e O2 | none => False)
  | _, _ => False) E) E
/-- k in d -/
def dInD (neg : Bool) (Tk Td : DE) : DE := fun Δ O P E => Tk Δ O (fun y O1 => Td Δ O1 (fun d O2 => match dicOf O2 d, keyD y with
  | some t, some k => P (.bl (if neg = true then !(getK k t.1 t.2).isSome else (getK k t.1 t.2).isSome)) O2
  | _, _ => False) E) E
/-- d.get(k, x) -/
def dDget2 (Td Tk Tx : DE) : DE := fun Δ O P E => Td Δ O (fun d O1 => match dicOf O1 d with
  | some _ => Tk Δ O1 (fun y O2 => Tx Δ O2 (fun x O3 => match dicOf O3 d, keyD y with
    | some t, some k => P ((getK k t.1 t.2).getD x) O3
    | _, _ => False) E) E
  | none => False) E
/-- d[k] = v, d owned -/
def dSetD (Td Tk Tv : DE) : DS := fun En Δ O => Tv Δ O (fun v O1 => Td Δ O1 (fun d O2 => Tk Δ O2 (fun y O3 => match d, keyD y with
  | .ptr q, some k => (match getC O3 q with
    | some (.dic ks ds) => ks.Nodup ∧ ks.length < 1000000 ∧ En.nx Δ (setC O3 q (.dic (putKs k ks) (putKd k v ks ds)))
    | _ => False)
  | _, _ => False) (fun x O1 => En.xc x Δ O1)) (fun x O1 => En.xc x Δ O1)) (fun x O1 => En.xc x Δ O1)
def dDNew : DE := fun _ O P _ => ∀ p, freshC O p → P (.ptr p) ((p, .dic [] []) :: O)
section
variable {g : Gm} {X : Cx} {W : WX} {pos pos' p p2 apos cpos : Pos} {a b c e o i f value : Expr} {es : List Expr} {R : DA} {Ta Tb Tc Td Tk Tx Tv : DE} {k j : Nat} {x : Str}
theorem q_dnew : PE X (.Dict [] [] pos) (le g W dDNew) := pe_imp pe_dnewK fun σ H Q ⟨Δ, O, P, E, F, hT, sr, w, hv, hx⟩ => fun p hp =>
  hv _ _ _ _ _ (hT p (w.fresh hp)) (Same.refl F) (w.own (c := .dic [] []) (o := .dK []) hp ⟨rfl, [], rfl, Reps.nil⟩) (Rep.ptr_iff.mpr rfl)
theorem q_dix (hu : X.A.units + 1 < cLine) (ho : PE X o (le g W Td)) (hi : PE X i (le g W Tk)) (hs : NoSl i := by intro _ _; rfl) : PE X (.Subscript o i pos) (le g W (dDix Td Tk)) := by
  refine pe_imp (pe_dget hu ho hi hs) fun σ H Q h => ?_
  obtain ⟨Δ, O, P, E, F, hT, sr, w, hv, hx⟩ := h
  refine le_bind hT sr w hx fun d O1 v F1 H1 hT1 s1 sr1 w1 rx hx1 => le_bind hT1 sr1 w1 hx1 fun y O2 u F2 H2 hT2 s2 sr2 w2 ry hx2 => ?_
  split at hT2
  · rename_i t k e1 e2
    obtain ⟨q, rfl, _, h1, _⟩ := dget_of e1 e2 (rx.mono s2) ry w2
    split at hT2
    · rename_i z ez
      obtain ⟨zz, hz, rz⟩ := h1 z ez
      exact ⟨q, zz, rfl, hz, hv _ _ _ _ _ hT2 (s1.trans s2) w2 rz⟩
    · exact hT2.elim
  · exact hT2.elim
theorem q_dget2 (hu : X.A.units + 1 < cLine) (ho : PE X o (le g W Td)) (he : PE X e (le g W Tk)) (hf : PE X f (le g W Tx)) (m : M2 X o "get" apos e f cpos := by exact ⟨rfl, rfl, rfl, rfl⟩) : PE X (.Call (.Attribute o "get" apos) [e, f] [] cpos) (le g W (dDget2 Td Tk Tx)) := by
  refine pe_imp (pe_dget2 hu ho he hf m) fun σ H Q h => ?_
  obtain ⟨Δ, O, P, E, F, hT, sr, w, hv, hx⟩ := h
  refine le_bind hT sr w hx fun d O1 v F1 H1 hT1 s1 sr1 w1 rx hx1 => ?_
  split at hT1
  · rename_i t0 e0
    obtain ⟨q, vs, rfl, h1, _⟩ := dic_of e0 rx w1
    refine ⟨q, rfl, .inl ⟨_, h1⟩, le_bind hT1 sr1 w1 hx1 fun y O2 u F2 H2 hT2 s2 sr2 w2 ry hx2 => le_bind hT2 sr2 w2 hx2 fun z O3 uz F3 H3 hT3 s3 sr3 w3 rz hx3 => ?_⟩
    split at hT3
    · rename_i t k e1 e2
      obtain ⟨q', eq, _, g1, g2⟩ := dget_of e1 e2 (rx.mono (s2.trans s3)) (ry.mono s3) w3
      cases eq
      cases ez : getK k t.1 t.2 with
      | none => rw [ez] at hT3; exact ⟨none, g2 ez, hv _ _ _ _ _ hT3 (s1.trans (s2.trans s3)) w3 rz⟩
      | some zz =>
        obtain ⟨vv, hz, rv⟩ := g1 zz ez
        rw [ez] at hT3
        exact ⟨some vv, hz, hv _ _ _ _ _ hT3 (s1.trans (s2.trans s3)) w3 rv⟩
    · exact hT3.elim
  · exact hT1.elim
theorem qs_setD (hu : X.A.units + 1 < cLine) (ho : PE X o (le g W Td)) (hi : PE X i (le g W Tk)) (hv : PE X value (le g W Tv)) (hs : swapsWith value (some (.Subscript o i pos')) pos.line X.env = pure false := by rfl) :
    PS X (.Assign [.Subscript o i pos'] value pos) (ls g W (dSetD Td Tk Tv)) := by
  refine ps_imp (ps_dput hu ho hi hv hs) fun E σ H ⟨D, Δ, O, F, hT, sr, w, ho⟩ => ?_
  refine le_bind hT sr w (ho.toX sr) fun v O1 vv F1 H1 hT1 s1 sr1 w1 rv hx1 => le_bind hT1 sr1 w1 hx1 fun d O2 vd F2 H2 hT2 s2 sr2 w2 rd hx2 => le_bind hT2 sr2 w2 hx2 fun y O3 vy F3 H3 hT3 s3 sr3 w3 ry hx3 => ?_
  split at hT3
  · rename_i q k ek
    have ev := Rep.ptr_iff.mp rd
    subst ev
    split at hT3
    · rename_i ks ds eg
      obtain ⟨nd, hl, hT3⟩ := hT3
      obtain ⟨_, ob, h3, h4⟩ := w3.get eg
      cases ob with
      | dK kvs =>
        obtain ⟨h5, vs, rfl, h6⟩ := h4
        obtain ⟨ws, e1, e2⟩ := putK_zip (k := k) (rv.mono (s2.trans s3)) nd h5 h6
        refine ⟨q, _, rfl, .inl ⟨_, k, h3, key_of ek ry, ?_, rfl⟩, ?_⟩
        · rw [zipK_len h6 h5, sizeLine_eq]; omega
        · rw [e1]
          exact ho.nx _ _ _ _ _ hT3 (s1.trans (s2.trans s3)) sr3 (w3.set eg (c' := .dic (putKs k ks) (putKd k v ks ds)) (o := .dK (zipK (putKs k ks) ws)) ⟨putKs_len k v ks ds h5, ws, rfl, e2⟩)
      | _ => exact h4.elim
    · exact hT3.elim
  · exact hT3.elim
end
end G

set_option Elab.async false
set_option linter.all false
set_option maxRecDepth 100000
set_option maxHeartbeats 4000000
namespace G
open PySem L2
/-! ## lists of numbers and of truth values -/
def blsOf : List D → Option (List Bool)
  | [] => some []
  | .bl i :: r => (blsOf r).map (i :: ·)
  | _ => none
theorem blsOf_map (ns : List Bool) : blsOf (ns.map D.bl) = some ns := by
  induction ns with
  | nil => rfl
  | cons n ns ih => rw [List.map_cons, blsOf, ih]; rfl
theorem blsOf_eq : ∀ {ds : List D} {ns : List Bool}, blsOf ds = some ns → ds = ns.map D.bl := by
  intro ds
  induction ds with
  | nil => intro ns h; cases h; rfl
  | cons d ds ih =>
    intro ns h
    cases d with
    | bl i =>
      rw [blsOf] at h
      cases e : blsOf ds with
      | none => rw [e] at h; cases h
      | some r =>
        rw [e] at h
        cases h
        rw [ih e]
        rfl
    | _ => simp [blsOf] at h
/-- the greatest, the least -/
def maxL : List Int → Int
  | [] => 0
  | [x] => x
  | x :: r => max x (maxL r)
def minL : List Int → Int
  | [] => 0
  | [x] => x
  | x :: r => min x (minL r)
theorem maxL_mem : ∀ {ns : List Int}, 0 < ns.length → maxL ns ∈ ns ∧ ∀ y ∈ ns, y ≤ maxL ns := by
  intro ns
  induction ns with
  | nil => intro h; simp at h
  | cons x r ih =>
    intro _
    cases r with
    | nil => simp [maxL]
    | cons y r =>
      obtain ⟨h1, h2⟩ := ih (by simp)
      have e : maxL (x :: y :: r) = max x (maxL (y :: r)) := rfl
      rw [e]
      refine ⟨?_, fun z hz => ?_⟩
      · by_cases q : x ≤ maxL (y :: r)
        · rw [show max x (maxL (y :: r)) = maxL (y :: r) by omega]
          exact List.mem_cons_of_mem _ h1
        · rw [show max x (maxL (y :: r)) = x by omega]
          exact List.mem_cons_self
      · rcases List.mem_cons.mp hz with rfl | hz
        · omega
        · have := h2 z hz; omega
/-- one argument, a list of whole numbers -/
def fInts (C : List Int → Prop) (h : List Int → D) : BC := fun ds O P => match ds with | [d] => (match lstOf O d with | some es => (match intsOf es with | some ns => C ns ∧ P (h ns) O | none => False) | none => False) | _ => False
def fBls (h : List Bool → D) : BC := fun ds O P => match ds with | [d] => (match lstOf O d with | some es => (match blsOf es with | some ns => P (h ns) O | none => False) | none => False) | _ => False
def fSum : BC := fInts (fun _ => True) fun ns => .int ns.sum
def fMaxL : BC := fInts (fun ns => 0 < ns.length) fun ns => .int (maxL ns)
def fMinL : BC := fInts (fun ns => 0 < ns.length) fun ns => .int (minL ns)
def fAny : BC := fBls fun bs => .bl (bs.any id)
def fAll : BC := fBls fun bs => .bl (bs.all id)
section
variable {g : Gm}
theorem lst_bls {F : Hp} {O : Sto} {H : Hp} {d : D} {v : V} {es : List D} {ns : List Bool} (e : lstOf O d = some es) (ei : blsOf es = some ns) (r : Rep g F d v) (w : Wd g F O H) : ∃ q, v = .ref q ∧ SqL g.K H q (ns.map V.bl) := by
  obtain ⟨q, vs, rfl, h1, h2⟩ := lst_of e r w
  rw [blsOf_eq ei] at h2
  rw [Reps.bls] at h2
  subst h2
  exact ⟨q, rfl, SqL.of h1⟩
theorem ints_of {C : List Int → Prop} {h : List Int → D} {ds : List D} {O : Sto} {P : KD} {F : Hp} {H : Hp} {vs : List V} (hf : fInts C h ds O P) (rs : Reps g F ds vs) (w : Wd g F O H) : ∃ q ns, vs = [.ref q] ∧ SqL g.K H q (ns.map V.int) ∧ C ns ∧ P (h ns) O := by
  unfold fInts at hf
  split at hf
  · split at hf
    · rename_i es e
      split at hf
      · rename_i ns ei
        obtain ⟨u, rfl, h1⟩ := reps1 rs
        obtain ⟨q, rfl, hs⟩ := lst_ints e ei h1 w
        exact ⟨q, ns, rfl, hs, hf.1, hf.2⟩
      · exact hf.elim
    · exact hf.elim
  · exact hf.elim
theorem bls_of {h : List Bool → D} {ds : List D} {O : Sto} {P : KD} {F : Hp} {H : Hp} {vs : List V} (hf : fBls h ds O P) (rs : Reps g F ds vs) (w : Wd g F O H) : ∃ q ns, vs = [.ref q] ∧ SqL g.K H q (ns.map V.bl) ∧ P (h ns) O := by
  unfold fBls at hf
  split at hf
  · split at hf
    · rename_i es e
      split at hf
      · rename_i ns ei
        obtain ⟨u, rfl, h1⟩ := reps1 rs
        obtain ⟨q, rfl, hs⟩ := lst_bls e ei h1 w
        exact ⟨q, ns, rfl, hs, hf⟩
      · exact hf.elim
    · exact hf.elim
  · exact hf.elim
theorem lk_maxL : LkC g (rMax g.K) fMaxL := by
  intro ds O P F H vs Q hf rs w hv
  obtain ⟨q, ns, rfl, hs, hc, hp⟩ := ints_of hf rs w
  refine ⟨q, ns, rfl, hs, hc, fun m hm hy => ?_⟩
  have z := maxL_mem hc
  have e : m = maxL ns := by have := hy _ z.1; have := z.2 m hm; omega
  rw [e]
  exact hv.now hp w rint
theorem lk_all : LkC g (rAll g.K) fAll := by
  intro ds O P F H vs Q hf rs w hv
  obtain ⟨q, ns, rfl, hs, hp⟩ := bls_of hf rs w
  exact ⟨q, ns, rfl, hs, hv.now hp w rbl⟩
end
section
variable {O : Sto} {P : KD} {ns : List Int} {bs : List Bool}
theorem f_sum : fSum [.lst (ns.map D.int)] O P = P (.int ns.sum) O := by simp only [fSum, fInts, lstOf, intsOf_map, true_and]
theorem f_maxL : fMaxL [.lst (ns.map D.int)] O P = (0 < ns.length ∧ P (.int (maxL ns)) O) := by simp only [fMaxL, fInts, lstOf, intsOf_map]
theorem f_minL : fMinL [.lst (ns.map D.int)] O P = (0 < ns.length ∧ P (.int (minL ns)) O) := by simp only [fMinL, fInts, lstOf, intsOf_map]
theorem f_any : fAny [.lst (bs.map D.bl)] O P = P (.bl (bs.any id)) O := by simp only [fAny, fBls, lstOf, blsOf_map]
theorem f_all : fAll [.lst (bs.map D.bl)] O P = P (.bl (bs.all id)) O := by simp only [fAll, fBls, lstOf, blsOf_map]
end
/-! ## list(x), list(d), dict(d) -/
def kD : Key → D
  | .inl i => .int i
  | .inr x => .str x
def fListS : BC := fun ds O P => match ds with | [d] => (match seqOf O d with | some es => P (.lst es) O | none => False) | _ => False
def fListD : BC := fun ds O P => match ds with | [d] => (match dicOf O d with | some t => P (.lst (t.1.map kD)) O | none => False) | _ => False
def fDictD : BC := fun ds O P => match ds with | [d] => (match dicOf O d with | some t => ∀ p, freshC O p → P (.ptr p) ((p, .dic t.1 t.2) :: O) | none => False) | _ => False
section
variable {g : Gm} {X : Cx} {W : WX} {pos pos' p p2 : Pos} {a b c e : Expr} {es : List Expr} {R : DA} {Ta Tb : DE} {k j : Nat} {x : Str}
theorem lk_listS : LkC g (fun xs H Q => ∃ p ys, xs = [.ref p] ∧ (SqL g.K H p ys ∨ SqT g.K H p ys) ∧ ∀ l, H l = none → Q (.ref l) (upd H l (.lst ys))) fListS := by
  intro ds O P F H vs Q hf rs w hv
  unfold fListS at hf
  split at hf
  · split at hf
    · rename_i es e
      obtain ⟨u, rfl, h1⟩ := reps1 rs
      obtain ⟨q, us, rfl, hs, h2⟩ := seq_of e h1 w
      exact ⟨q, us, rfl, hs.elim .inr .inl, fun l hl => hv _ _ _ _ _ hf (w.fsame hl) (w.frozen hl) (h2.newL (w.same.free hl))⟩
    · exact hf.elim
  · exact hf.elim
theorem keys_rep {F : Hp} : ∀ {ks : List Key} {vs : List V}, ks.length = vs.length → Reps g F (ks.map kD) ((zipK ks vs).map fun kv => kV kv.1) := by
  intro ks
  induction ks with
  | nil => intro vs _; exact Reps.nil
  | cons k ks ih =>
    intro vs hl
    cases vs with
    | nil => simp at hl
    | cons v vs =>
      rw [zipK_cons, List.map_cons, List.map_cons]
      refine Reps.cons ?_ (ih (by simpa using hl))
      cases k with
      | inl i => exact rint
      | inr i => exact Rep.str_iff.mpr rfl
theorem lk_listD : LkC g (fun xs H Q => ∃ (a : Addr) (kvs : List (Key × V)), xs = [.ref a] ∧ Rd H a (.dK kvs) ∧ ∀ p, H p = none → Q (.ref p) (upd H p (.lst (kvs.map fun kv => kV kv.1)))) fListD := by
  intro ds O P F H vs Q hf rs w hv
  unfold fListD at hf
  split at hf
  · split at hf
    · rename_i t e
      obtain ⟨u, rfl, h1⟩ := reps1 rs
      obtain ⟨ks, dd⟩ := t
      obtain ⟨q, us, rfl, hs, h2, h3⟩ := dic_of e h1 w
      exact ⟨q, _, rfl, hs, fun l hl => hv _ _ _ _ _ hf (w.fsame hl) (w.frozen hl) ((keys_rep (by rw [h2, h3.length])).newL (w.same.free hl))⟩
    · exact hf.elim
  · exact hf.elim
/-! ## x += e -/
theorem qs_aug (i : Nat) {op : Operator} {r : R2} {f : B2} {y : Str} {p' : Pos} (ho : OpR X (inplaceOp op) r) (lk : Lk2 g r f) (hN : X.N.Nodup) (ha : PE X a (le g W Ta)) (hi : X.N[i]? = some y := by rfl) (hx : Loc X.env.scope y := by exact Or.inl rfl) (hf : X.fn y = true ∨ X.env.scope.names.lookup y = some .local := by exact Or.inr rfl) :
    PS X (.AugAssign (.Name y p') op a pos) (ls g W (dAug i f Ta)) := by
  refine ps_imp (ps_aug (ti := r) hN hi hx ha ho hf) fun E σ H ⟨D, Δ, O, F, hT, sr, w, ho⟩ => ?_
  unfold dAug at hT
  split at hT
  · rename_i d e
    obtain ⟨v, hv, rv⟩ := sr.2 i _ e
    refine ⟨v, hv, le_bind hT sr w (ho.toX sr) fun z O1 vz F1 H1 hT1 s1 sr1 w1 rz hx1 => ?_⟩
    exact lk _ _ _ _ F1 H1 _ _ _ hT1 (rv.mono s1) rz w1 fun d' O2 v' F2 H2 hd s2 w2 r2 => ho.nx _ _ _ _ _ hd (s1.trans s2) ((sr1.mono s2).set r2 i) w2
  · exact hT.elim
end
/-! ## enumerate -/
def dEnum (R : DA) : DA := fun Δ O P E => R Δ O (fun ds O1 => match ds with
  | [d] => (match d with | .lst xs => P (xs.mapIdx fun i x => .tup [.int (i : Int), x]) O1 | _ => False)
  | _ => False) E
section
variable {g : Gm} {X : Cx} {W : WX} {pos pos' p p2 tpos : Pos} {a b c e : Expr} {elts : List Expr} {kk : Nat} {R : DA}
theorem gives_enum {F : Hp} {q : Addr} {vs : List V} {ds : List D} (h : F q = some (.lst vs)) (r : Reps g F ds vs) : Gives g F (Ite g.K q) (ds.mapIdx fun i x => .tup [.int (i : Int), x]) := by
  refine ⟨fun i d F' O H e s w => ?_, fun i F' O H e s w => ⟨vs, SqL.of (w.same _ _ (s _ _ h)), by rw [← r.length]; simpa using e⟩⟩
  rw [List.getElem?_mapIdx] at e
  cases ed : ds[i]? with
  | none => rw [ed] at e; cases e
  | some d0 =>
    rw [ed] at e
    cases e
    obtain ⟨v, hv, rv⟩ := r.get ed
    have hs : SqL g.K H q vs := SqL.of (w.same _ _ (s _ _ h))
    refine ⟨⟨vs, v, hs, hv⟩, fun x H' ⟨T, y, ex, hT, eH, hy⟩ => ?_⟩
    have z := hy vs hs
    rw [hv] at z
    cases z
    subst ex
    subst eH
    exact ⟨_, w.fsame hT, w.frozen hT, (Reps.cons rint (Reps.one (rv.mono s))).newT (w.same.free hT)⟩
theorem qi_enum (hm : X.mg "enumerate" = none) (ha : PA X [a] (la g W R)) (hg : Gl X "enumerate" := by rfl) (hK : X.K = g.K := by rfl) (hs : starEach [a] X.env = [(false, eval a X.env)] := by rfl) :
    PI X (.Tuple elts kk tpos) (.Call (.Name "enumerate" p) [a] [] pos) (li g W (dEnum R)) := by
  refine pi_imp (pi_enum hg hm ha hs) fun σ H Rr h => ?_
  obtain ⟨Δ, O, P, E, F, hT, sr, w, hR, hx⟩ := h
  refine la_bind hT sr w hx fun ds O1 vs F1 H1 hT1 s1 sr1 w1 rs hx1 => ?_
  split at hT1
  · split at hT1
    · rename_i xs
      obtain ⟨u, rfl, h1⟩ := reps1 rs
      obtain ⟨q, us, rfl, h2, h3⟩ := Rep.lst_iff.mp h1
      exact ⟨q, us, rfl, SqL.of (w1.same _ _ h2), hR _ _ _ _ _ hT1 s1 w1 (by rw [hK]; exact gives_enum h2 h3)⟩
    · exact hT1.elim
  · exact hT1.elim
end
end G

set_option Elab.async false
set_option linter.all false
set_option maxRecDepth 100000
set_option maxHeartbeats 4000000
namespace G
open PySem L2
/-! ## own specials: truth, len, repr, str, [] -/
/-- what stands behind an own def of one object: its answer through h -/
def dSp1 (tab : List (Cl × DSp)) (h : D → Sto → KD → Prop) (Ta : DE) : DE := fun Δ O P E => Ta Δ O (fun x O1 => match clsOf O1 x with
  | some c => (match tabAt tab c with | some S => S [x] O1 (fun d O2 => h d O2 P) (fun _ _ => False) | none => False)
  | none => False) E
def hLen : D → Sto → KD → Prop := fun d O P => match d with | .int n => (0 ≤ n ∧ n < 2 ^ 63) ∧ P (.int n) O | _ => False
def hStr : D → Sto → KD → Prop := fun d O P => match d with | .str n => P (.str n) O | _ => False
def hAny : D → Sto → KD → Prop := fun d O P => P d O
def dTruO (tab : List (Cl × DSp)) (Ta : DE) : DT := fun Δ O P E => Ta Δ O (fun x O1 => match clsOf O1 x with
  | some c => (match tabAt tab c with | some S => S [x] O1 (boolK P) (fun _ _ => False) | none => False)
  | none => False) E
section
variable {g : Gm} {X : Cx} {W : WX} {pos pos' p apos : Pos} {a b c o : Expr} {es : List Expr} {Ta Tb : DE} {R : DA} {k j : Nat} {f : Addr} {S : DSp} {x m : Str} {tab : List (Cl × DSp)}
/-! ## a method without arguments; a property -/
theorem q_gmeth0 {pl : Sem Bool} (M : MTab g X.prog X.w X.K X.mg X.base k m tab) (hr : Room j X.A) (tk : Takes X W) (ho : PE X o (le g W Ta)) (hkj : k ≤ j := by first | decide | omega) (hmf : Fd.of m = none := by decide +kernel) (hK : X.K = g.K := by rfl)
    (ht : eval (.Call (.Attribute o m apos) [] [] pos) X.env = (do
      let ov ← eval o X.env
      standAt apos.atName
      let (f, first) ← holding [ov] (getMethod ov m pl)
      callWith pos f first (backTo pos (starEach [] X.env)) (backToKw pos (keywordEach [] X.env))) := by rfl) :
    PE X (.Call (.Attribute o m apos) [] [] pos) (le g W (dMeth tab Ta dNil)) := by
  refine ⟨fun pins s σ H Q I h => ?_⟩
  obtain ⟨Δ, O, P, E, F, hT, sr, w, hv, hx⟩ := h
  refine PySem.W.methodCall_KW (pl := pl) (thn (ho.run pins s σ H _ I (le_bind (Q := fun v H1 => ∃ c q dx fs S, v = .ref q ∧ H1 q = some (.ins (g.ca c) dx fs) ∧ fs.lookup m = none ∧ tabAt tab c = some S ∧ toSp g S [v] H1 Q fun cls dd H' => W cls dd σ H') hT sr w hx
    fun d O1 v F1 H1 hT1 s1 sr1 w1 rx hx1 => ?_)) fun u s1 ⟨v, H1, I1, rv, c, q, dx, fs, S, ev, eq1, l, eS, qa⟩ => ?_) ht
  · split at hT1
    · rename_i c e
      obtain ⟨q, dx, fs, rfl, h1, h2⟩ := obj_look e rx w1 hmf
      split at hT1
      · rename_i S eS
        exact ⟨c, q, dx, fs, S, rfl, h1, h2, eS, sp_of hT1 (Reps.one rx) w1 hv s1 hx1⟩
      · exact hT1.elim
    · exact hT1.elim
  · subst ev
    obtain rfl : u = Value.ref q := rv
    obtain ⟨cls, f, mt, Fn⟩ := M c S eS
    refine getmeth_ok I1 eq1 cls mt l ?_
    exact PySem.W.callWith_K0 (first := [.ref q]) I1.kIn mt.kp (wpAny_call (run_FN (us := [.ref q]) (vs := [.ref q]) Fn (hr.mono hkj) tk I1 (.cons rfl .nil) qa))
/-! ## classmethods, staticmethods -/
def dCMeth (c : Cl) (S : DSp) (R : DA) : DE := fun Δ O P E => R Δ O (fun ds O1 => S (.cls c :: ds) O1 P E) E
end
section
variable {Δ : Sl} {O : Sto} {P : KD} {E : KX} {Ta Tf : DE} {R : DA} {PB : Bool → Sto → Prop} {tab : List (Cl × DSp)} {h : D → Sto → KD → Prop}
theorem e_sp1 : dSp1 tab h Ta Δ O P E = Ta Δ O (fun x O1 => match clsOf O1 x with
  | some c => (match tabAt tab c with | some S => S [x] O1 (fun d O2 => h d O2 P) (fun _ _ => False) | none => False)
  | none => False) E := propext Iff.rfl
theorem e_truO : dTruO tab Ta Δ O PB E = Ta Δ O (fun x O1 => match clsOf O1 x with
  | some c => (match tabAt tab c with | some S => S [x] O1 (boolK PB) (fun _ _ => False) | none => False)
  | none => False) E := propext Iff.rfl
theorem e_cmeth {c : Cl} {S : DSp} : dCMeth c S R Δ O P E = R Δ O (fun ds O1 => S (.cls c :: ds) O1 P E) E := propext Iff.rfl
theorem h_len {n : Int} : hLen (.int n) O P = ((0 ≤ n ∧ n < 2 ^ 63) ∧ P (.int n) O) := propext Iff.rfl
theorem h_str {n : Str} : hStr (.str n) O P = P (.str n) O := propext Iff.rfl
theorem h_any {d : D} : hAny d O P = P d O := propext Iff.rfl
end
end G

set_option Elab.async false
set_option linter.all false
set_option maxRecDepth 100000
set_option maxHeartbeats 4000000
namespace G
open PySem L2
/-! ## sorted of pairs -/
theorem sorted_uniq {α : Type} {r : α → α → Prop} (as : ∀ a b, r a b → r b a → a = b) (rf : ∀ a, r a a) : ∀ {xs ys : List α}, xs.Perm ys → xs.Pairwise r → ys.Pairwise r → xs = ys := by
  intro xs
  induction xs with
  | nil => intro ys p _ _; exact p.nil_eq
  | cons x xs ih =>
    intro ys p hx hy
    cases ys with
    | nil => exact absurd p.symm.nil_eq (by simp)
    | cons y ys =>
      have e : x = y := by
        have h1 : x ∈ y :: ys := p.subset List.mem_cons_self
        have h2 : y ∈ x :: xs := p.symm.subset List.mem_cons_self
        have a1 : r y x := by
          rcases List.mem_cons.mp h1 with h | h
          · rw [h]; exact rf y
          · exact (List.pairwise_cons.mp hy).1 x h
        have a2 : r x y := by
          rcases List.mem_cons.mp h2 with h | h
          · rw [h]; exact rf x
          · exact (List.pairwise_cons.mp hx).1 y h
        exact as _ _ a2 a1
      subst e
      rw [ih (List.Perm.cons_inv p) (List.pairwise_cons.mp hx).2 (List.pairwise_cons.mp hy).2]
def lexLe (a b : Int × Int) : Bool := decide (a.1 < b.1 ∨ (a.1 = b.1 ∧ a.2 ≤ b.2))
def srtP (xs : List (Int × Int)) : List (Int × Int) := xs.mergeSort lexLe
theorem srtP_perm (ns : List (Int × Int)) : (srtP ns).Perm ns := List.mergeSort_perm ns _
theorem srtP_sorted (ns : List (Int × Int)) : (srtP ns).Pairwise fun a b => lexLe a b = true :=
  List.pairwise_mergeSort (le := lexLe) (by intro a b c h1 h2; simp only [lexLe, decide_eq_true_eq] at *; omega) (by intro a b; simp only [lexLe, Bool.or_eq_true, decide_eq_true_eq]; omega) ns
theorem srtP_eq {ns xs : List (Int × Int)} (p : xs.Perm ns) (h : xs.Pairwise fun a b => lexLe a b = true) : xs = srtP ns :=
  sorted_uniq (r := fun a b => lexLe a b = true) (fun a b h1 h2 => by
    simp only [lexLe, decide_eq_true_eq] at h1 h2
    have e1 : a.1 = b.1 := by omega
    have e2 : a.2 = b.2 := by omega
    exact Prod.ext e1 e2) (fun a => by simp [lexLe]) (p.trans (srtP_perm ns).symm) h (srtP_sorted ns)
def prsOf : List D → Option (List (Int × Int))
  | [] => some []
  | .tup [.int i, .int j] :: r => (prsOf r).map ((i, j) :: ·)
  | _ => none
theorem prsOf_map (ns : List (Int × Int)) : prsOf (ns.map pr) = some ns := by
  induction ns with
  | nil => rfl
  | cons n ns ih => rw [List.map_cons, prsOf, ih]; rfl
theorem prsOf_eq : ∀ {ds : List D} {ns : List (Int × Int)}, prsOf ds = some ns → ds = ns.map pr := by
  intro ds
  induction ds with
  | nil => intro ns h; cases h; rfl
  | cons d ds ih =>
    intro ns h
    unfold prsOf at h
    split at h
    · rename_i z; cases z
    · rename_i i j r z
      cases z
      cases e : prsOf ds with
      | none => rw [e] at h; cases h
      | some r => rw [e] at h; cases h; rw [ih e]; rfl
    · cases h
def fSortP : BC := fun ds O P => match ds with | [d] => (match lstOf O d with | some es => (match prsOf es with | some ns => P (.lst ((srtP ns).map pr)) O | none => False) | none => False) | _ => False
/-- the pair that stands at a value -/
def pairAt (F : Hp) (v : V) : Int × Int := match v with | .ref t => (match F t with | some (.tup [.int i, .int j]) => (i, j) | _ => (0, 0)) | _ => (0, 0)
section
variable {g : Gm}
theorem rep_pr {F : Hp} {x : Int × Int} {v : V} (h : Rep g F (pr x) v) : ∃ t, v = .ref t ∧ F t = some (.tup [.int x.1, .int x.2]) ∧ pairAt F v = x := by
  obtain ⟨p, vs, rfl, h1, h2⟩ := Rep.tup_iff.mp h
  obtain ⟨u, w, rfl, h3, h4⟩ := reps2 h2
  have h1 := h1.resolve_right (fun z => by cases z.1)
  rw [Rep.int_iff.mp h3, Rep.int_iff.mp h4] at h1
  exact ⟨p, rfl, h1, by simp only [pairAt, h1]⟩
theorem reps_pr {F : Hp} : ∀ {ns : List (Int × Int)} {vs : List V}, Reps g F (ns.map pr) vs → ns = vs.map (pairAt F) ∧ ∀ v ∈ vs, Rep g F (pr (pairAt F v)) v := by
  intro ns
  induction ns with
  | nil => intro vs h; rw [List.map_nil, Reps.nil_iff] at h; subst h; exact ⟨rfl, fun v hv => by cases hv⟩
  | cons n ns ih =>
    intro vs h
    obtain ⟨v, r, rfl, h1, h2⟩ := Reps.cons_iff.mp h
    obtain ⟨e1, e2⟩ := ih h2
    obtain ⟨t, ev, ht, ep⟩ := rep_pr h1
    refine ⟨by rw [List.map_cons, ep, ← e1], fun w hw => ?_⟩
    rcases List.mem_cons.mp hw with e | hw
    · rw [e, ep]; exact h1
    · exact e2 w hw
theorem reps_map {F : Hp} {f : V → D} : ∀ {vs : List V}, (∀ v ∈ vs, Rep g F (f v) v) → Reps g F (vs.map f) vs := by
  intro vs
  induction vs with
  | nil => intro _; exact Reps.nil
  | cons v vs ih => intro h; exact Reps.cons (h v List.mem_cons_self) (ih fun w hw => h w (List.mem_cons_of_mem _ hw))
theorem lk_sortP : LkC g (rSortedPO g.K) fSortP := by
  intro ds O P F H vs Q hf rs w hv
  unfold fSortP at hf
  split at hf
  · split at hf
    · rename_i es e
      split at hf
      · rename_i ns ei
        obtain ⟨u, rfl, h1⟩ := reps1 rs
        obtain ⟨q, us, rfl, h2, h3⟩ := lst_of e h1 w
        rw [prsOf_eq ei] at h3
        obtain ⟨e1, e2⟩ := reps_pr h3
        refine ⟨q, us, pairAt F, rfl, SqL.of h2, fun x hx => ?_, fun ys p so st hp => ?_⟩
        · obtain ⟨t, et, ht, _⟩ := rep_pr (e2 x hx)
          exact ⟨t, et, w.same _ _ ht⟩
        · have ey : ys.map (pairAt F) = srtP ns := by
            refine srtP_eq (by rw [e1]; exact st.perm.map _) ?_
            rw [List.pairwise_map]
            refine so.imp fun {a b} hab => ?_
            have z := SrtO.lexB_no.mp hab
            simp only [lexLe, decide_eq_true_eq]
            omega
          have ry : Reps g F ((srtP ns).map pr) ys := by
            rw [← ey, List.map_map]
            exact reps_map fun v hv => e2 v (st.perm.mem_iff.mp hv)
          exact hv _ _ _ _ _ hf (w.fsame hp) (w.frozen hp) (ry.newL (w.same.free hp))
      · exact hf.elim
    · exact hf.elim
  · exact hf.elim
theorem f_sortP {O : Sto} {P : KD} {ns : List (Int × Int)} : fSortP [.lst (ns.map pr)] O P = P (.lst ((srtP ns).map pr)) O := by simp only [fSortP, lstOf, prsOf_map]
theorem lk_addI : Lk2 g (fun x y H Q => ∃ i j, x = .int i ∧ y = .int j ∧ Q (.int (i + j)) H) fAddI := lkI0 fun _ _ _ => rint
/-! ## texts -/
def fStrI : BC := fun ds O P => match ds with | [.int i] => i.natAbs.log2 < 1920 ∧ P (.str (toString i)) O | _ => False
theorem f_strI {O : Sto} {P : KD} {i : Int} : fStrI [.int i] O P = (i.natAbs.log2 < 1920 ∧ P (.str (toString i)) O) := propext Iff.rfl
def strsOf : List D → Option (List Str)
  | [] => some []
  | .str i :: r => (strsOf r).map (i :: ·)
  | _ => none
theorem strsOf_map (ns : List Str) : strsOf (ns.map D.str) = some ns := by
  induction ns with
  | nil => rfl
  | cons n ns ih => rw [List.map_cons, strsOf, ih]; rfl
theorem strsOf_eq : ∀ {ds : List D} {ns : List Str}, strsOf ds = some ns → ds = ns.map D.str := by
  intro ds
  induction ds with
  | nil => intro ns h; cases h; rfl
  | cons d ds ih =>
    intro ns h
    cases d with
    | str i =>
      rw [strsOf] at h
      cases e : strsOf ds with
      | none => rw [e] at h; cases h
      | some r => rw [e] at h; cases h; rw [ih e]; rfl
    | _ => simp [strsOf] at h
def dJoin (Ta Tb : DE) : DE := fun Δ O P E => Ta Δ O (fun x O1 => match x with
  | .str a => Tb Δ O1 (fun y O2 => match seqOf O2 y with
    | some es => (match strsOf es with | some ys => (ys.map (·.length)).sum + ys.length * a.length ≤ 16777216 ∧ P (.str (Txt.join a ys)) O2 | none => False)
    | none => False) E
  | _ => False) E
variable {X : Cx} {W : WX} {pos pos' p apos : Pos} {a b c o : Expr} {es : List Expr} {Ta Tb : DE} {R : DA} {k j : Nat} {f : Addr} {S : DSp} {x m : Str} {tab : List (Cl × DSp)}
/-! ## f-strings -/
def dFmt (Ta : DE) : DE := fun Δ O P E => Ta Δ O (fun x O1 => match x with
  | .str y => y.length ≤ sizeLine ∧ P (.str y) O1
  | .int i => i.natAbs.log2 < 1920 ∧ P (.str (toString i)) O1
  | _ => False) E
def dJs : List DE → Str → Sl → Sto → (Str → Sto → Prop) → KX → Prop
  | [], acc, _, O, P, _ => P acc O
  | T :: Ts, acc, Δ, O, P, E => T Δ O (fun x O1 => match x with | .str y => (acc ++ y).length ≤ sizeLine ∧ dJs Ts (acc ++ y) Δ O1 P E | _ => False) E
def dJoined (Ts : List DE) : DE := fun Δ O P E => dJs Ts Str.empty Δ O (fun out O1 => P (.str out) O1) E
end
section
variable {Δ : Sl} {O : Sto} {P : KD} {E : KX} {Ta Tb Tc Tf : DE} {R : DA} {En : DEnds} {T : DS} {i j : Nat} {PA : List D → Sto → Prop}
theorem e_join : dJoin Ta Tb Δ O P E = Ta Δ O (fun x O1 => match x with
  | .str a => Tb Δ O1 (fun y O2 => match seqOf O2 y with
    | some es => (match strsOf es with | some ys => (ys.map (·.length)).sum + ys.length * a.length ≤ 16777216 ∧ P (.str (Txt.join a ys)) O2 | none => False)
    | none => False) E
  | _ => False) E := propext Iff.rfl
theorem e_fmt : dFmt Ta Δ O P E = Ta Δ O (fun x O1 => match x with
  | .str y => y.length ≤ sizeLine ∧ P (.str y) O1
  | .int i => i.natAbs.log2 < 1920 ∧ P (.str (toString i)) O1
  | _ => False) E := propext Iff.rfl
theorem e_joined {Ts : List DE} : dJoined Ts Δ O P E = dJs Ts Str.empty Δ O (fun out O1 => P (.str out) O1) E := propext Iff.rfl
theorem e_js0 {acc : Str} {Q : Str → Sto → Prop} : dJs [] acc Δ O Q E = Q acc O := propext Iff.rfl
theorem e_js1 {T : DE} {Ts : List DE} {acc : Str} {Q : Str → Sto → Prop} : dJs (T :: Ts) acc Δ O Q E = T Δ O (fun x O1 => match x with | .str y => (acc ++ y).length ≤ sizeLine ∧ dJs Ts (acc ++ y) Δ O1 Q E | _ => False) E := propext Iff.rfl
theorem e_gt2 {a b : D} {Q : Sl → Prop} : dgT [i, j] (.tup [a, b]) Δ Q = Q ((Δ.set i (some a)).set j (some b)) := propext Iff.rfl
theorem e_gt3 {k : Nat} {a b c : D} {Q : Sl → Prop} : dgT [i, j, k] (.tup [a, b, c]) Δ Q = Q (((Δ.set i (some a)).set j (some b)).set k (some c)) := propext Iff.rfl
theorem e_enum : dEnum R Δ O PA E = R Δ O (fun ds O1 => match ds with
  | [d] => (match d with | .lst xs => PA (xs.mapIdx fun i x => .tup [.int (i : Int), x]) O1 | _ => False)
  | _ => False) E := propext Iff.rfl
theorem f_addI {i j : Int} : fAddI (.int i) (.int j) O P = P (.int (i + j)) O := propext Iff.rfl
theorem e_dnew : dDNew Δ O P E = ∀ p, freshC O p → P (.ptr p) ((p, .dic [] []) :: O) := propext Iff.rfl
theorem seqT {ds : List D} : seqOf O (.tup ds) = some ds := rfl
theorem seqL {ds : List D} : seqOf O (.lst ds) = some ds := rfl
theorem seqP {a : Addr} {ds : List D} (h : getC O a = some (.lst ds)) : seqOf O (.ptr a) = some ds := by simp only [seqOf, lstOf, h]
end
/-! ## == of lists of own objects -/
section
open PySem.SeqAt
open AutoSeq1 (wpAny_loadPart')
open MeetsSeq MeetsSeq2 MeetsSeq3 SeqRoads2
variable {prog : Program} {w : World} {A : Around} {R : Result → Shared → Prop}
end
end G

set_option Elab.async false
set_option linter.all false
set_option maxRecDepth 100000
set_option maxHeartbeats 4000000
namespace G
open PySem L2
/-! ## == of lists of stretches -/
abbrev st (x : Int × Int) : D := .obj .Stretch [.low, .high] [.int x.1, .int x.2]
def stsOf : List D → Option (List (Int × Int))
  | [] => some []
  | .obj .Stretch [.low, .high] [.int i, .int j] :: r => (stsOf r).map ((i, j) :: ·)
  | _ => none
theorem stsOf_map (ns : List (Int × Int)) : stsOf (ns.map st) = some ns := by
  induction ns with
  | nil => rfl
  | cons n ns ih => rw [List.map_cons, stsOf, ih]; rfl
def dEqSts (Ta Tb : DE) : DE := fun Δ O P E => Ta Δ O (fun x O1 => Tb Δ O1 (fun y O2 => match x, y with
  | .lst xs, .lst ys => (match stsOf xs, stsOf ys with | some as, some bs => P (.bl (decide (as = bs))) O2 | _, _ => False)
  | _, _ => False) E) E
section
variable {g : Gm} {X : Cx} {W : WX} {pos pos' p apos : Pos} {a b c o : Expr} {es : List Expr} {Ta Tb : DE} {R : DA} {k j : Nat} {f : Addr} {S : DSp} {x m : Str}
theorem e_eqSts {Δ : Sl} {O : Sto} {P : KD} {E : KX} : dEqSts Ta Tb Δ O P E = Ta Δ O (fun x O1 => Tb Δ O1 (fun y O2 => match x, y with
  | .lst xs, .lst ys => (match stsOf xs, stsOf ys with | some as, some bs => P (.bl (decide (as = bs))) O2 | _, _ => False)
  | _, _ => False) E) E := propext Iff.rfl
end
end G
namespace G
open PySem L2
section
variable {g : Gm} {P : Program} {w : World} {K : PySem.W.Frag} {mg : Str → Option Value} {base : Heap}
theorem fnF {x qual : Str} {st : Stmt} {f : Addr} {fd : FuncData} {N ps : List Str} {k : Nat} {S : DSp} {T : DS} (Fn : Fun K x qual st f fd) (hb : Binds K fd ps []) (Sc : FnScope N ps (defScope st)) (body : BodyOk g P w K mg base k N qual st T) (pure : Pure N ps.length S T) : FN g P w K mg base (k + 1) f S :=
  fn_FN (fn_okF Fn Sc (fun ds O P E h => (pure ds O P E h).1) (body f) fun ds O P E h => (pure ds O P E h).2) hb
theorem gcs_nil {k : Nat} : GCs g P w K mg base k [] := fun c S h => by simp [tabAt] at h
theorem gcs_cons {k : Nat} {cl : Cl} {f : Addr} {S : DSp} {r : List (Cl × DSp)} (h1 : Mk K (g.ca cl) f) (h2 : FN g P w K mg base k f S) (t : GCs g P w K mg base k r) : GCs g P w K mg base k ((cl, S) :: r) := fun c S' e => by
  simp only [tabAt] at e
  by_cases q : c = cl
  · rw [if_pos q] at e
    cases e
    rw [q]
    exact ⟨f, h1, h2⟩
  · rw [if_neg q] at e
    exact t c S' e
end
end G

set_option Elab.async false
set_option linter.all false
set_option maxRecDepth 100000
set_option maxHeartbeats 4000000
namespace G
open PySem L2
section
variable {Δ : Sl} {O : Sto} {P : KD} {E : KX} {Ta Tb Tc Td Tk Tx Tv Tf : DE} {R : DA} {En : DEnds} {T : DS} {i j : Nat} {PA : List D → Sto → Prop}
theorem e_aug {f : B2} : dAug i f Ta En Δ O = dVar i Δ O (fun x O0 => Ta Δ O0 (fun y O1 => f x y O1 fun z O2 => En.nx (Δ.set i (some z)) O2) (fun x O1 => En.xc x Δ O1)) (fun _ _ => False) := by
  unfold dAug dVar
  cases Δ[i]? with
  | none => rfl
  | some o => cases o <;> rfl
theorem e_frzS : dFrzS i T En Δ O = dVar i Δ O (fun d O1 => match d with
  | .ptr q => (match getC O1 q with | some c => (match frzD c with | some d' => T En (Δ.set i (some d')) (delC O1 q) | none => False) | none => False)
  | _ => False) (fun _ _ => False) := by
  unfold dFrzS dVar
  cases Δ[i]? with
  | none => rfl
  | some o =>
    cases o with
    | none => rfl
    | some d => cases d <;> rfl
theorem e_dix : dDix Td Tk Δ O P E = Td Δ O (fun d O1 => Tk Δ O1 (fun y O2 => match dicOf O2 d, keyD y with
  | some t, some k => (match getK k t.1 t.2 with | some e => P e O2 | none => False)
  | _, _ => False) E) E := propext Iff.rfl
theorem e_inD {neg : Bool} : dInD neg Tk Td Δ O P E = Tk Δ O (fun y O1 => Td Δ O1 (fun d O2 => match dicOf O2 d, keyD y with
  | some t, some k => P (.bl (if neg = true then !(getK k t.1 t.2).isSome else (getK k t.1 t.2).isSome)) O2
  | _, _ => False) E) E := propext Iff.rfl
theorem e_dget2 : dDget2 Td Tk Tx Δ O P E = Td Δ O (fun d O1 => match dicOf O1 d with
  | some _ => Tk Δ O1 (fun y O2 => Tx Δ O2 (fun x O3 => match dicOf O3 d, keyD y with
    | some t, some k => P ((getK k t.1 t.2).getD x) O3
    | _, _ => False) E) E
  | none => False) E := propext Iff.rfl
theorem e_setD : dSetD Td Tk Tv En Δ O = Tv Δ O (fun v O1 => Td Δ O1 (fun d O2 => Tk Δ O2 (fun y O3 => match d, keyD y with
  | .ptr q, some k => (match getC O3 q with
    | some (.dic ks ds) => ks.Nodup ∧ ks.length < 1000000 ∧ En.nx Δ (setC O3 q (.dic (putKs k ks) (putKd k v ks ds)))
    | _ => False)
  | _, _ => False) (fun x O1 => En.xc x Δ O1)) (fun x O1 => En.xc x Δ O1)) (fun x O1 => En.xc x Δ O1) := propext Iff.rfl
theorem dicP {a : Addr} {ks : List Key} {ds : List D} (h : getC O a = some (.dic ks ds)) : dicOf O (.ptr a) = some (ks, ds) := by simp only [dicOf, h]
theorem dicD {ks : List Key} {ds : List D} : dicOf O (.dic ks ds) = some (ks, ds) := rfl
theorem keyI {n : Int} : keyD (.int n) = some (.inl n) := rfl
theorem keyS {n : Str} : keyD (.str n) = some (.inr n) := rfl
end
/-! ## dicts as functions -/
noncomputable instance memKey (k : Key) (ks : List Key) : Decidable (k ∈ ks) := by
  induction ks with
  | nil => exact isFalse (by simp)
  | cons h hs ih =>
    cases (inferInstance : Decidable (k = h)) with
    | isTrue e => exact isTrue (by rw [e]; exact List.mem_cons_self)
    | isFalse e =>
      cases ih with
      | isTrue q => exact isTrue (List.mem_cons_of_mem _ q)
      | isFalse q => exact isFalse (fun z => (List.mem_cons.mp z).elim e q)
section
variable {f : Key → D} {k : Key} {v : D}
theorem getK_fun : ∀ {ks : List Key}, getK k ks (ks.map f) = if k ∈ ks then some (f k) else none := by
  intro ks
  induction ks with
  | nil => simp [getK]
  | cons h hs ih =>
    rw [List.map_cons, getK, ih]
    by_cases e : h = k
    · subst e; simp
    · rw [if_neg e]
      have e' : k ∈ h :: hs ↔ k ∈ hs := by
        rw [List.mem_cons]
        exact ⟨fun z => z.elim (fun q => absurd q.symm e) id, .inr⟩
      simp only [e']
theorem putKs_fun : ∀ {ks : List Key}, putKs k ks = if k ∈ ks then ks else ks ++ [k] := by
  intro ks
  induction ks with
  | nil => simp [putKs]
  | cons h hs ih =>
    rw [putKs, ih]
    by_cases e : h = k
    · subst e; simp
    · rw [if_neg e]
      have e' : k ∈ h :: hs ↔ k ∈ hs := by
        rw [List.mem_cons]
        exact ⟨fun z => z.elim (fun q => absurd q.symm e) id, .inr⟩
      simp only [e']
      split <;> rfl
theorem putKd_fun : ∀ {ks : List Key}, ks.Nodup → putKd k v ks (ks.map f) = (putKs k ks).map fun j => if j = k then v else f j := by
  intro ks
  induction ks with
  | nil => intro _; simp [putKd, putKs]
  | cons h hs ih =>
    intro nd
    have nd' := List.nodup_cons.mp nd
    rw [List.map_cons, putKd, putKs]
    by_cases e : h = k
    · subst e
      rw [if_pos rfl, if_pos rfl, List.map_cons, if_pos rfl]
      congr 1
      apply List.map_congr_left
      intro j hj
      rw [if_neg]
      intro z
      exact nd'.1 (z ▸ hj)
    · rw [if_neg e, if_neg e, List.map_cons, if_neg e, ih nd'.2]
theorem putKs_nd {ks : List Key} (h : ks.Nodup) : (putKs k ks).Nodup := by
  rw [putKs_fun]
  split
  · exact h
  · rename_i hn
    rw [List.nodup_append]
    exact ⟨h, by simp, fun a ha b hb => by rw [List.mem_singleton.mp hb]; exact fun e => hn (e ▸ ha)⟩
theorem putKs_mem {ks : List Key} {j : Key} : j ∈ putKs k ks ↔ j = k ∨ j ∈ ks := by
  rw [putKs_fun]
  split
  · rename_i h
    exact ⟨.inr, fun z => z.elim (fun e => e ▸ h) id⟩
  · rw [List.mem_append, List.mem_singleton]
    exact ⟨Or.symm, Or.symm⟩
theorem putKs_le {ks : List Key} : (putKs k ks).length ≤ ks.length + 1 := by
  rw [putKs_fun]
  split
  · omega
  · simp
end
theorem enum_map {α : Type} {f : α → D} {xs : List α} : ((xs.map f).mapIdx fun i x => (.tup [.int (i : Int), x] : D)) = xs.zipIdx.map fun p => .tup [.int (p.2 : Int), f p.1] := by
  apply List.ext_getElem?
  intro i
  rw [List.getElem?_mapIdx, List.getElem?_map, List.getElem?_map, List.getElem?_zipIdx]
  cases xs[i]? <;> simp
theorem zip_pre {α : Type} {xs : List α} {l r : List (α × Nat)} {x : α × Nat} (h : xs.zipIdx = l ++ x :: r) : x.2 = l.length ∧ xs = l.map (·.1) ++ x.1 :: r.map (·.1) ∧ xs[l.length]? = some x.1 := by
  have e1 : xs = (l ++ x :: r).map (·.1) := by
    rw [← h]
    apply List.ext_getElem?
    intro i
    rw [List.getElem?_map, List.getElem?_zipIdx]
    cases xs[i]? <;> simp
  have e2 : (xs.zipIdx)[l.length]? = some x := by rw [h]; simp
  rw [List.getElem?_zipIdx] at e2
  cases e3 : xs[l.length]? with
  | none => rw [e3] at e2; cases e2
  | some y =>
    rw [e3] at e2
    simp only [Option.map_some, Option.some.injEq] at e2
    rw [← e2]
    refine ⟨by simp, ?_, rfl⟩
    rw [e1, List.map_append, List.map_cons, ← e2]
theorem set_m1 {l : List D} {a d : D} : setI (l ++ [a]) (-1) d = some (l ++ [d]) := by
  have h : ixN (l ++ [a]).length (-1) = some l.length := by
    unfold ixN
    rw [if_neg (by omega), if_pos (by rw [List.length_append, List.length_singleton]; omega)]
    congr 1
    rw [List.length_append, List.length_singleton]
    omega
  unfold setI
  rw [h]
  simp
end G

set_option Elab.async false
set_option linter.all false
set_option maxRecDepth 100000
set_option maxHeartbeats 4000000
namespace G
open PySem L2
/-! ## sets of levels, in plain words -/
def ok2 (x : Int × Int) : Prop := x.1 ≤ x.2
def inB (l : Int) (x : Int × Int) : Bool := decide (x.1 ≤ l) && decide (l ≤ x.2)
theorem inB_iff {l : Int} {x : Int × Int} : inB l x = true ↔ x.1 ≤ l ∧ l ≤ x.2 := by simp [inB]
def mem (xs : List (Int × Int)) (l : Int) : Bool := xs.any (inB l)
theorem mem_iff {xs : List (Int × Int)} {l : Int} : mem xs l = true ↔ ∃ x ∈ xs, x.1 ≤ l ∧ l ≤ x.2 := by
  simp only [mem, List.any_eq_true, inB_iff]
theorem mem_nil' {l : Int} : mem [] l = false := rfl
theorem mem_cons'' {x : Int × Int} {xs : List (Int × Int)} {l : Int} : mem (x :: xs) l = (inB l x || mem xs l) := rfl
theorem mem_perm {xs ys : List (Int × Int)} (h : xs.Perm ys) (l : Int) : mem xs l = mem ys l := by
  rw [Bool.eq_iff_iff, mem_iff, mem_iff]
  constructor
  · rintro ⟨x, hx, h'⟩; exact ⟨x, h.mem_iff.mp hx, h'⟩
  · rintro ⟨x, hx, h'⟩; exact ⟨x, h.mem_iff.mpr hx, h'⟩
structure Norm (ys : List (Int × Int)) : Prop where
  gap : ys.Pairwise fun a b => a.2 + 1 < b.1
  ok : ∀ y ∈ ys, y.1 ≤ y.2
theorem Norm.nil : Norm [] := ⟨.nil, fun y h => by cases h⟩
theorem Norm.tail {y : Int × Int} {ys : List (Int × Int)} (h : Norm (y :: ys)) : Norm ys := ⟨(List.pairwise_cons.mp h.gap).2, fun z hz => h.ok z (List.mem_cons_of_mem _ hz)⟩
theorem Norm.one {x : Int × Int} (h : x.1 ≤ x.2) : Norm [x] := ⟨List.pairwise_singleton _ _, fun y hy => by rw [List.mem_singleton.mp hy]; exact h⟩
/-- a normal form is told by its levels -/
theorem norm_uniq : ∀ {ys zs : List (Int × Int)}, Norm ys → Norm zs → (∀ l, mem ys l = mem zs l) → ys = zs := by
  intro ys
  induction ys with
  | nil =>
    intro zs _ nz h
    cases zs with
    | nil => rfl
    | cons z zs =>
      have := h z.1
      rw [mem_nil', mem_cons'', inB_iff.mpr ⟨Int.le_refl _, nz.ok z List.mem_cons_self⟩] at this
      simp at this
  | cons y ys ih =>
    intro zs ny nz h
    cases zs with
    | nil =>
      have := h y.1
      rw [mem_nil', mem_cons'', inB_iff.mpr ⟨Int.le_refl _, ny.ok y List.mem_cons_self⟩] at this
      simp at this
    | cons z zs =>
      have oy := ny.ok y List.mem_cons_self
      have oz := nz.ok z List.mem_cons_self
      have gy := (List.pairwise_cons.mp ny.gap).1
      have gz := (List.pairwise_cons.mp nz.gap).1
      have e1 : y.1 = z.1 := by
        have a : mem (z :: zs) y.1 = true := by rw [← h]; exact mem_iff.mpr ⟨y, List.mem_cons_self, by omega, oy⟩
        have b : mem (y :: ys) z.1 = true := by rw [h]; exact mem_iff.mpr ⟨z, List.mem_cons_self, by omega, oz⟩
        obtain ⟨u, hu, u1, u2⟩ := mem_iff.mp a
        obtain ⟨v, hv, v1, v2⟩ := mem_iff.mp b
        have c1 : z.1 ≤ y.1 := by
          rcases List.mem_cons.mp hu with e | e
          · rw [e] at u1; exact u1
          · have := gz u e; omega
        have c2 : y.1 ≤ z.1 := by
          rcases List.mem_cons.mp hv with e | e
          · rw [e] at v1; exact v1
          · have := gy v e; omega
        omega
      have c1 : ¬ z.2 < y.2 := fun hlt => by
        have a : mem (z :: zs) (z.2 + 1) = true := by rw [← h]; exact mem_iff.mpr ⟨y, List.mem_cons_self, by omega, by omega⟩
        obtain ⟨u, hu, u1, u2⟩ := mem_iff.mp a
        rcases List.mem_cons.mp hu with e | e
        · rw [e] at u2; omega
        · have := gz u e; omega
      have c2 : ¬ y.2 < z.2 := fun hlt => by
        have a : mem (y :: ys) (y.2 + 1) = true := by rw [h]; exact mem_iff.mpr ⟨z, List.mem_cons_self, by omega, by omega⟩
        obtain ⟨u, hu, u1, u2⟩ := mem_iff.mp a
        rcases List.mem_cons.mp hu with e | e
        · rw [e] at u2; omega
        · have := gy u e; omega
      have e : y = z := Prod.ext e1 (by omega)
      subst e
      congr 1
      refine ih ny.tail nz.tail fun l => ?_
      by_cases hl : inB l y = true
      · have h' := inB_iff.mp hl
        have a : mem ys l = false := by
          rw [Bool.eq_false_iff]
          intro q
          obtain ⟨u, hu, u1, u2⟩ := mem_iff.mp q
          have := gy u hu; omega
        have b : mem zs l = false := by
          rw [Bool.eq_false_iff]
          intro q
          obtain ⟨u, hu, u1, u2⟩ := mem_iff.mp q
          have := gz u hu; omega
        rw [a, b]
      · have z := h l
        rw [mem_cons'', mem_cons'', Bool.eq_false_iff.mpr hl, Bool.false_or, Bool.false_or] at z
        exact z
/-! ### merging -/
def mStep (acc : List (Int × Int)) (x : Int × Int) : List (Int × Int) := match acc with
  | [] => [x]
  | l :: r => if x.1 ≤ l.2 + 1 then (l.1, max x.2 l.2) :: r else x :: l :: r
def mrg (xs : List (Int × Int)) : List (Int × Int) := ((srtP xs).foldl mStep []).reverse
structure RInv (acc xs : List (Int × Int)) : Prop where
  gap : acc.Pairwise fun a b => b.2 + 1 < a.1
  ok : ∀ y ∈ acc, y.1 ≤ y.2
  low : ∀ y ∈ acc, ∀ x ∈ xs, y.1 ≤ x.1
theorem mStep_inv {acc xs : List (Int × Int)} {x : Int × Int} (h : RInv acc (x :: xs)) (hx : x.1 ≤ x.2) (hs : ∀ y ∈ xs, x.1 ≤ y.1) : RInv (mStep acc x) xs ∧ (∀ l, mem (mStep acc x) l = (mem acc l || inB l x)) ∧ (mStep acc x).length ≤ acc.length + 1 := by
  cases acc with
  | nil => exact ⟨⟨List.pairwise_singleton _ _, fun y hy => by rw [List.mem_singleton.mp hy]; exact hx, fun y hy z hz => by rw [List.mem_singleton.mp hy]; exact hs z hz⟩, fun l => by simp [mStep, mem], by simp [mStep]⟩
  | cons a r =>
    have ga := List.pairwise_cons.mp h.gap
    have oa := h.ok a List.mem_cons_self
    have la := h.low a List.mem_cons_self x List.mem_cons_self
    unfold mStep
    by_cases c : x.1 ≤ a.2 + 1
    · simp only [if_pos c]
      refine ⟨⟨List.pairwise_cons.mpr ⟨fun b hb => ga.1 b hb, ga.2⟩, fun y hy => ?_, fun y hy z hz => ?_⟩, fun l => ?_, by simp⟩
      · rcases List.mem_cons.mp hy with e | e
        · rw [e]; show a.1 ≤ max x.2 a.2; omega
        · exact h.ok y (List.mem_cons_of_mem _ e)
      · rcases List.mem_cons.mp hy with e | e
        · rw [e]; exact h.low a List.mem_cons_self z (List.mem_cons_of_mem _ hz)
        · exact h.low y (List.mem_cons_of_mem _ e) z (List.mem_cons_of_mem _ hz)
      · rw [mem_cons'', mem_cons'']
        have e : inB l (a.1, max x.2 a.2) = (inB l a || inB l x) := by
          rw [Bool.eq_iff_iff, Bool.or_eq_true, inB_iff, inB_iff, inB_iff]
          show a.1 ≤ l ∧ l ≤ max x.2 a.2 ↔ _
          omega
        rw [e]
        cases inB l a <;> cases inB l x <;> cases mem r l <;> rfl
    · simp only [if_neg c]
      refine ⟨⟨List.pairwise_cons.mpr ⟨fun b hb => ?_, h.gap⟩, fun y hy => ?_, fun y hy z hz => ?_⟩, fun l => ?_, by simp⟩
      · rcases List.mem_cons.mp hb with e | e
        · rw [e]; omega
        · have := ga.1 b e; omega
      · rcases List.mem_cons.mp hy with e | e
        · rw [e]; exact hx
        · exact h.ok y e
      · rcases List.mem_cons.mp hy with e | e
        · rw [e]; exact hs z hz
        · exact h.low y e z (List.mem_cons_of_mem _ hz)
      · rw [mem_cons'', Bool.or_comm]
theorem mFold : ∀ {xs acc : List (Int × Int)}, RInv acc xs → xs.Pairwise (fun a b => a.1 ≤ b.1) → (∀ x ∈ xs, x.1 ≤ x.2) → RInv (xs.foldl mStep acc) [] ∧ (∀ l, mem (xs.foldl mStep acc) l = (mem acc l || mem xs l)) ∧ (xs.foldl mStep acc).length ≤ acc.length + xs.length := by
  intro xs
  induction xs with
  | nil => intro acc h _ _; exact ⟨h, fun l => by simp [mem], by simp⟩
  | cons x xs ih =>
    intro acc h hp ho
    have hp' := List.pairwise_cons.mp hp
    obtain ⟨a, b, c⟩ := mStep_inv h (ho x List.mem_cons_self) hp'.1
    obtain ⟨a', b', c'⟩ := ih a hp'.2 (fun y hy => ho y (List.mem_cons_of_mem _ hy))
    refine ⟨a', fun l => ?_, by simp only [List.foldl_cons, List.length_cons]; omega⟩
    rw [List.foldl_cons, b', b, mem_cons'', Bool.or_assoc]
theorem mrg_all {xs : List (Int × Int)} (ho : ∀ x ∈ xs, x.1 ≤ x.2) : Norm (mrg xs) ∧ (∀ l, mem (mrg xs) l = mem xs l) ∧ (mrg xs).length ≤ xs.length := by
  have pm := srtP_perm xs
  obtain ⟨a, b, c⟩ := mFold (xs := srtP xs) (acc := []) ⟨.nil, fun y h => (by cases h), fun y h => (by cases h)⟩ ((srtP_sorted xs).imp fun {a b} h => by simp only [lexLe, decide_eq_true_eq] at h; omega) (fun x hx => ho x (pm.mem_iff.mp hx))
  unfold mrg
  refine ⟨⟨List.pairwise_reverse.mpr a.gap, fun y hy => a.ok y (List.mem_reverse.mp hy)⟩, fun l => ?_, ?_⟩
  · rw [mem_perm (List.reverse_perm _), b, mem_nil', Bool.false_or]
    exact mem_perm pm l
  · rw [List.length_reverse, ← pm.length_eq]
    simpa using c
theorem mrg_norm {xs : List (Int × Int)} (ho : ∀ x ∈ xs, x.1 ≤ x.2) : Norm (mrg xs) := (mrg_all ho).1
theorem mrg_mem {xs : List (Int × Int)} (ho : ∀ x ∈ xs, x.1 ≤ x.2) (l : Int) : mem (mrg xs) l = mem xs l := (mrg_all ho).2.1 l
theorem mrg_len {xs : List (Int × Int)} (ho : ∀ x ∈ xs, x.1 ≤ x.2) : (mrg xs).length ≤ xs.length := (mrg_all ho).2.2
/-- the ends of a normal form are ends of what it is made of -/
theorem norm_low {ys : List (Int × Int)} (n : Norm ys) {y : Int × Int} (hy : y ∈ ys) : mem ys y.1 = true ∧ mem ys (y.1 - 1) = false := by
  refine ⟨mem_iff.mpr ⟨y, hy, Int.le_refl _, n.ok y hy⟩, ?_⟩
  rw [Bool.eq_false_iff]
  intro q
  obtain ⟨u, hu, u1, u2⟩ := mem_iff.mp q
  obtain ⟨i, hi, ei⟩ := List.mem_iff_getElem.mp hy
  obtain ⟨j, hj, ej⟩ := List.mem_iff_getElem.mp hu
  have p := List.pairwise_iff_getElem.mp n.gap
  rcases Nat.lt_trichotomy i j with h | h | h
  · have := p i j hi hj h; rw [ei, ej] at this; have := n.ok y hy; omega
  · subst h; rw [ei] at ej; subst ej; omega
  · have := p j i hj hi h; rw [ei, ej] at this; omega
theorem norm_high {ys : List (Int × Int)} (n : Norm ys) {y : Int × Int} (hy : y ∈ ys) : mem ys y.2 = true ∧ mem ys (y.2 + 1) = false := by
  refine ⟨mem_iff.mpr ⟨y, hy, n.ok y hy, Int.le_refl _⟩, ?_⟩
  rw [Bool.eq_false_iff]
  intro q
  obtain ⟨u, hu, u1, u2⟩ := mem_iff.mp q
  obtain ⟨i, hi, ei⟩ := List.mem_iff_getElem.mp hy
  obtain ⟨j, hj, ej⟩ := List.mem_iff_getElem.mp hu
  have p := List.pairwise_iff_getElem.mp n.gap
  rcases Nat.lt_trichotomy i j with h | h | h
  · have := p i j hi hj h; rw [ei, ej] at this; omega
  · subst h; rw [ei] at ej; subst ej; omega
  · have := p j i hj hi h; rw [ei, ej] at this; have := n.ok y hy; omega
/-! ### depth -/
def dep (xs : List (Int × Int)) (l : Int) : Nat := (xs.filter (inB l)).length
theorem dep_cons {x : Int × Int} {xs : List (Int × Int)} {l : Int} : dep (x :: xs) l = (if inB l x = true then 1 else 0) + dep xs l := by
  unfold dep
  rw [List.filter_cons]
  split <;> simp [Nat.add_comm]
theorem dep_pos {xs : List (Int × Int)} {l : Int} (h : 0 < dep xs l) : ∃ x ∈ xs, x.1 ≤ l ∧ l ≤ x.2 := by
  obtain ⟨x, hx⟩ := List.exists_mem_of_length_pos h
  rw [List.mem_filter] at hx
  exact ⟨x, hx.1, inB_iff.mp hx.2⟩
/-- what a sweep adds at a spot -/
def dlt (xs : List (Int × Int)) (s : Int) : Int := match xs with
  | [] => 0
  | x :: xs => (if x.1 = s then 1 else 0) - (if x.2 + 1 = s then 1 else 0) + dlt xs s
theorem dlt_app {xs : List (Int × Int)} {x : Int × Int} {s : Int} : dlt (xs ++ [x]) s = dlt xs s + (if x.1 = s then 1 else 0) - (if x.2 + 1 = s then 1 else 0) := by
  induction xs with
  | nil => simp [dlt]
  | cons y xs ih => simp only [List.cons_append, dlt, ih]; omega
def sumD (xs : List (Int × Int)) : List Int → Int
  | [] => 0
  | s :: r => dlt xs s + sumD xs r
theorem sumD_app {xs : List (Int × Int)} {a : List Int} {s : Int} : sumD xs (a ++ [s]) = sumD xs a + dlt xs s := by
  induction a with
  | nil => simp [sumD]
  | cons y a ih => simp only [List.cons_append, sumD, ih]; omega
theorem sumD_nil {a : List Int} : sumD [] a = 0 := by
  induction a with
  | nil => rfl
  | cons y a ih => simp [sumD, dlt, ih]
theorem sum_one {a : List Int} (nd : a.Nodup) (t : Int) : (a.map fun s => if t = s then (1 : Int) else 0).sum = if t ∈ a then 1 else 0 := by
  induction a with
  | nil => simp
  | cons y a ih =>
    have nd' := List.nodup_cons.mp nd
    rw [List.map_cons, List.sum_cons, ih nd'.2]
    by_cases e : t = y
    · subst e; simp [nd'.1]
    · simp [e]
theorem sumD_cons {x : Int × Int} {xs : List (Int × Int)} {a : List Int} (nd : a.Nodup) : sumD (x :: xs) a = (if x.1 ∈ a then 1 else 0) - (if x.2 + 1 ∈ a then 1 else 0) + sumD xs a := by
  have e : sumD (x :: xs) a = (a.map fun s => if x.1 = s then (1 : Int) else 0).sum - (a.map fun s => if x.2 + 1 = s then (1 : Int) else 0).sum + sumD xs a := by
    clear nd
    induction a with
    | nil => simp [sumD]
    | cons y a ih => simp only [sumD, dlt, List.map_cons, List.sum_cons, ih]; omega
  rw [e, sum_one nd, sum_one nd]
theorem sum_dep {a : List Int} {s : Int} (nd : a.Nodup) : ∀ {xs : List (Int × Int)}, (∀ x ∈ xs, x.1 ≤ x.2 ∧ (x.1 ∈ a ↔ x.1 ≤ s) ∧ (x.2 + 1 ∈ a ↔ x.2 + 1 ≤ s)) → sumD xs a = dep xs s := by
  intro xs
  induction xs with
  | nil => intro _; rw [sumD_nil]; rfl
  | cons x xs ih =>
    intro h
    obtain ⟨h1, h2, h3⟩ := h x List.mem_cons_self
    rw [sumD_cons nd, ih fun y hy => h y (List.mem_cons_of_mem _ hy), dep_cons]
    simp only [h2, h3, inB_iff]
    by_cases c1 : x.1 ≤ s <;> by_cases c2 : x.2 + 1 ≤ s <;> by_cases c3 : s ≤ x.2 <;> simp [c1, c2, c3] <;> omega
theorem dep_const {xs : List (Int × Int)} {s l : Int} (h : ∀ x ∈ xs, (x.1 ≤ s ↔ x.1 ≤ l) ∧ (x.2 < s ↔ x.2 < l)) : dep xs s = dep xs l := by
  unfold dep
  congr 1
  apply List.filter_congr
  intro x hx
  obtain ⟨h1, h2⟩ := h x hx
  rw [Bool.eq_iff_iff, inB_iff, inB_iff]
  omega
/-- the spots of a sweep: ascending, and all changes are among them -/
structure Spots (xs : List (Int × Int)) (sp : List Int) : Prop where
  up : sp.Pairwise (· < ·)
  has : ∀ s, s ∈ sp ↔ ∃ x ∈ xs, s = x.1 ∨ s = x.2 + 1
def raw (xs : List (Int × Int)) (need : Int) (sp : List Int) (l : List (Int × Nat)) : List (Int × Int) := l.filterMap fun p => if need ≤ (dep xs p.1 : Int) then some (p.1, sp.getD (p.2 + 1) 0 - 1) else none
section
variable {xs : List (Int × Int)} {sp : List Int} {need : Int}
theorem spots_pre (S : Spots xs sp) {i : Nat} (hi : i < sp.length) {t : Int} : t ∈ sp.take (i + 1) ↔ t ∈ sp ∧ t ≤ sp[i] := by
  have p := List.pairwise_iff_getElem.mp S.up
  constructor
  · intro h
    obtain ⟨j, hj, ej⟩ := List.mem_iff_getElem.mp h
    rw [List.getElem_take] at ej
    rw [List.length_take] at hj
    refine ⟨ej ▸ List.getElem_mem _, ?_⟩
    rcases Nat.lt_or_ge j i with q | q
    · have := p j i (by omega) hi q; omega
    · have : j = i := by omega
      subst this; omega
  · rintro ⟨h1, h2⟩
    obtain ⟨j, hj, ej⟩ := List.mem_iff_getElem.mp h1
    have q : j ≤ i := by
      rcases Nat.lt_or_ge i j with q | q
      · have := p i j hi hj q; omega
      · exact q
    refine List.mem_iff_getElem.mpr ⟨j, by rw [List.length_take]; omega, by rw [List.getElem_take]; exact ej⟩
theorem spots_dep (S : Spots xs sp) (ho : ∀ x ∈ xs, x.1 ≤ x.2) {i : Nat} (hi : i < sp.length) : sumD xs (sp.take (i + 1)) = dep xs sp[i] := by
  refine sum_dep (S.up.imp fun {a b} h => Int.ne_of_lt h |>.elim |> fun _ => by omega).take fun x hx => ⟨ho x hx, ?_, ?_⟩
  · rw [spots_pre S hi]
    exact ⟨fun h => h.2, fun h => ⟨(S.has _).mpr ⟨x, hx, .inl rfl⟩, h⟩⟩
  · rw [spots_pre S hi]
    exact ⟨fun h => h.2, fun h => ⟨(S.has _).mpr ⟨x, hx, .inr rfl⟩, h⟩⟩
/-- behind the last spot nothing is left -/
theorem spots_next (S : Spots xs sp) (h1 : 1 ≤ need) {i : Nat} (hi : i < sp.length) (hd : need ≤ (dep xs sp[i] : Int)) : ∃ h : i + 1 < sp.length, sp[i] < sp[i + 1] := by
  obtain ⟨x, hx, q1, q2⟩ := dep_pos (show 0 < dep xs sp[i] by omega)
  have p := List.pairwise_iff_getElem.mp S.up
  obtain ⟨j, hj, ej⟩ := List.mem_iff_getElem.mp ((S.has (x.2 + 1)).mpr ⟨x, hx, .inr rfl⟩)
  have q : i < j := by
    rcases Nat.lt_trichotomy i j with q | q | q
    · exact q
    · subst q; omega
    · have := p j i hj hi q; omega
  exact ⟨by omega, p i (i + 1) hi (by omega) (by omega)⟩
theorem raw_ok (S : Spots xs sp) (h1 : 1 ≤ need) : (∀ y ∈ raw xs need sp sp.zipIdx, y.1 ≤ y.2) ∧ (∀ l, mem (raw xs need sp sp.zipIdx) l = decide (need ≤ (dep xs l : Int))) ∧ (raw xs need sp sp.zipIdx).length ≤ sp.length := by
  have p := List.pairwise_iff_getElem.mp S.up
  have key : ∀ y, y ∈ raw xs need sp sp.zipIdx ↔ ∃ (i : Nat) (hi : i < sp.length) (hj : i + 1 < sp.length), need ≤ (dep xs sp[i] : Int) ∧ y = (sp[i], sp[i + 1] - 1) := by
    intro y
    unfold raw
    rw [List.mem_filterMap]
    constructor
    · rintro ⟨⟨s, i⟩, hm, he⟩
      have hm' := List.mem_zipIdx_iff_getElem?.mp hm
      obtain ⟨hi, e⟩ := List.getElem?_eq_some_iff.mp hm'
      simp only at e hi he
      split at he
      · rename_i hd
        subst e
        obtain ⟨hj, hlt⟩ := spots_next S h1 hi hd
        refine ⟨i, hi, hj, hd, ?_⟩
        rw [← Option.some.inj he, List.getD_eq_getElem?_getD, List.getElem?_eq_getElem hj]
        rfl
      · cases he
    · rintro ⟨i, hi, hj, hd, rfl⟩
      refine ⟨(sp[i], i), List.mem_zipIdx_iff_getElem?.mpr (List.getElem?_eq_getElem hi), ?_⟩
      simp only [hd, ↓reduceIte, Option.some.injEq, Prod.mk.injEq, true_and]
      rw [List.getD_eq_getElem?_getD, List.getElem?_eq_getElem hj]
      rfl
  have const : ∀ (i : Nat) (hi : i < sp.length) (hj : i + 1 < sp.length) (l : Int), sp[i] ≤ l → l ≤ sp[i + 1] - 1 → dep xs sp[i] = dep xs l := by
    intro i hi hj l q1 q2
    have no : ∀ t ∈ sp, ¬ (sp[i] < t ∧ t ≤ l) := fun t ht ⟨z1, z2⟩ => by
      obtain ⟨j, hj', ej⟩ := List.mem_iff_getElem.mp ht
      have a : i < j := by
        rcases Nat.lt_trichotomy i j with q | q | q
        · exact q
        · subst q; omega
        · have := p j i hj' hi q; omega
      have b : sp[i + 1] ≤ sp[j] := by
        rcases Nat.lt_or_ge (i + 1) j with q | q
        · exact Int.le_of_lt (p (i + 1) j hj hj' q)
        · have : i + 1 = j := by omega
          subst this; exact Int.le_refl _
      omega
    refine dep_const fun x hx => ⟨⟨fun h => by omega, fun h => ?_⟩, ⟨fun h => by omega, fun h => ?_⟩⟩
    · have := no x.1 ((S.has _).mpr ⟨x, hx, .inl rfl⟩); omega
    · have := no (x.2 + 1) ((S.has _).mpr ⟨x, hx, .inr rfl⟩); omega
  refine ⟨fun y hy => ?_, fun l => ?_, ?_⟩
  · obtain ⟨i, hi, hj, hd, rfl⟩ := (key y).mp hy
    have := p i (i + 1) hi hj (by omega)
    show sp[i] ≤ sp[i + 1] - 1
    omega
  · rw [Bool.eq_iff_iff, mem_iff, decide_eq_true_eq]
    constructor
    · rintro ⟨y, hy, q1, q2⟩
      obtain ⟨i, hi, hj, hd, rfl⟩ := (key y).mp hy
      rw [← const i hi hj l q1 q2]
      exact hd
    · intro hd
      obtain ⟨x, hx, q1, q2⟩ := dep_pos (show 0 < dep xs l by omega)
      -- the last spot up to l
      have ex : ∃ i, ∃ hi : i < sp.length, sp[i] ≤ l ∧ ∀ j, ∀ hj : j < sp.length, i < j → l < sp[j] := by
        obtain ⟨i0, hi0, e0⟩ := List.mem_iff_getElem.mp ((S.has x.1).mpr ⟨x, hx, .inl rfl⟩)
        have : ∀ n i, sp.length - i = n → ∀ hi : i < sp.length, sp[i] ≤ l → ∃ i, ∃ hi : i < sp.length, sp[i] ≤ l ∧ ∀ j, ∀ hj : j < sp.length, i < j → l < sp[j] := by
          intro n
          induction n with
          | zero => intro i e hi _; omega
          | succ n ih =>
            intro i e hi hl
            by_cases c : ∃ h : i + 1 < sp.length, sp[i + 1] ≤ l
            · obtain ⟨h, hc⟩ := c
              exact ih (i + 1) (by omega) h hc
            · refine ⟨i, hi, hl, fun j hj hij => ?_⟩
              have c' : l < sp[i + 1]'(by omega) := by
                rcases Int.lt_or_le l (sp[i + 1]'(by omega)) with z | z
                · exact z
                · exact absurd ⟨by omega, z⟩ c
              rcases Nat.lt_or_ge (i + 1) j with q | q
              · have := p (i + 1) j (by omega) hj q; omega
              · have : i + 1 = j := by omega
                subst this; exact c'
        exact this _ i0 rfl hi0 (by omega)
      obtain ⟨i, hi, hl, hn⟩ := ex
      obtain ⟨j, hj, ej⟩ := List.mem_iff_getElem.mp ((S.has (x.2 + 1)).mpr ⟨x, hx, .inr rfl⟩)
      have hij : i < j := by
        rcases Nat.lt_trichotomy i j with q | q | q
        · exact q
        · subst q; omega
        · have := p j i hj hi q; omega
      have hl2 : l < sp[i + 1]'(by omega) := hn (i + 1) (by omega) (by omega)
      have hdi : need ≤ (dep xs sp[i] : Int) := by rw [const i hi (by omega) l hl (by omega)]; exact hd
      exact ⟨(sp[i], sp[i + 1]'(by omega) - 1), (key _).mpr ⟨i, hi, by omega, hdi, rfl⟩, hl, by show l ≤ sp[i + 1]'(by omega) - 1; omega⟩
  · unfold raw
    refine Nat.le_trans (List.length_filterMap_le _ _) ?_
    simp
end
end G

set_option Elab.async false
set_option linter.all false
set_option maxRecDepth 100000
set_option maxHeartbeats 4000000
namespace G
open PySem L2
theorem kit_int_int : kitB "int" "int" = some true := by decide +kernel
theorem kit_int_bool : kitB "int" "bool" = some false := by decide +kernel
theorem kit_int_str : kitB "int" "str" = some false := by decide +kernel
theorem kit_list_list : kitB "list" "list" = some true := by decide +kernel
theorem kit_tuple_tuple : kitB "tuple" "tuple" = some true := by decide +kernel
theorem kit_str_str : kitB "str" "str" = some true := by decide +kernel
theorem kit_dict_dict : kitB "dict" "dict" = some true := by decide +kernel
theorem kit_bool_bool : kitB "bool" "bool" = some true := by decide +kernel
theorem kit_list_tuple : kitB "list" "tuple" = some false := by decide +kernel
theorem kit_none_str : kitB "NoneType" "str" = some false := by decide +kernel
theorem kit_none_int : kitB "NoneType" "int" = some false := by decide +kernel
theorem eqB_int {i j : Int} : eqB (.int i) (.int j) = some (decide (i = j)) := rfl
theorem eqB_bl {i j : Bool} : eqB (.bl i) (.bl j) = some (decide (i = j)) := rfl
theorem eqB_str {i j : Str} : eqB (.str i) (.str j) = some (decide (i = j)) := rfl
theorem emp_prs (xs : List (Int × Int)) : eqB (.lst (xs.map pr)) (.lst []) = some (decide (xs = [])) := eq_prs xs []
end G

set_option Elab.async false
set_option linter.all false
set_option maxRecDepth 100000
set_option maxHeartbeats 4000000
namespace G
open PySem L2
/-! ## x in a list -/
def inB2 (neg b : Bool) : Bool := if neg = true then !b else b
def fInQ (neg : Bool) : B2 := fun x y O P => match seqOf O y with
  | some es => (match x with
    | .int i => (match intsOf es with | some ns => P (.bl (inB2 neg (decide (i ∈ ns)))) O | none => False)
    | .str i => (match strsOf es with | some ns => P (.bl (inB2 neg (decide (i ∈ ns)))) O | none => False)
    | _ => False)
  | none => False
abbrev fIn : B2 := fInQ false
section
variable {g : Gm}
theorem inV_int {i : Int} {ns : List Int} : inV (.int i) (ns.map V.int) = decide (i ∈ ns) := by
  unfold inV
  rw [List.any_map, Bool.eq_iff_iff, List.any_eq_true, decide_eq_true_eq]
  constructor
  · rintro ⟨y, hy, e⟩
    have e : (y == i) = true := e
    rw [← beq_iff_eq.mp e]; exact hy
  · intro h
    exact ⟨i, h, by show (i == i) = true; simp⟩
theorem inV_str {i : Str} {ns : List Str} : inV (.str i) (ns.map V.str) = decide (i ∈ ns) := by
  unfold inV
  rw [List.any_map, Bool.eq_iff_iff, List.any_eq_true, decide_eq_true_eq]
  constructor
  · rintro ⟨y, hy, e⟩
    have e : (y == i) = true := e
    rw [← beq_iff_eq.mp e]; exact hy
  · intro h
    exact ⟨i, h, by show (i == i) = true; simp⟩
theorem lk_inQ {neg : Bool} : Lk2 g (rIn g.K neg) (fInQ neg) := by
  intro x y O P F H vx vy Q hf rx ry w hv
  unfold fInQ at hf
  split at hf
  · rename_i es e
    obtain ⟨q, vs, rfl, h1, h2⟩ := seq_of e ry w
    cases x with
    | int i =>
      have hf : (match intsOf es with | some ns => P (.bl (inB2 neg (decide (i ∈ ns)))) O | none => False) := hf
      split at hf
      · rename_i ns en
        rw [intsOf_eq en, Reps.ints] at h2
        subst h2
        rw [Rep.int_iff.mp rx]
        refine ⟨q, _, rfl, h1.elim .inr .inl, rfl, by simp [flatV], ?_⟩
        rw [inV_int]
        exact hv.now hf w rbl
      · exact hf.elim
    | str i =>
      have hf : (match strsOf es with | some ns => P (.bl (inB2 neg (decide (i ∈ ns)))) O | none => False) := hf
      split at hf
      · rename_i ns en
        rw [strsOf_eq en, Reps.strs] at h2
        subst h2
        rw [Rep.str_iff.mp rx]
        refine ⟨q, _, rfl, h1.elim .inr .inl, rfl, by simp [flatV], ?_⟩
        rw [inV_str]
        exact hv.now hf w rbl
      · exact hf.elim
    | _ => exact hf.elim
  · exact hf.elim
theorem lk_in : Lk2 g (rIn g.K false) fIn := lk_inQ
theorem f_inI {neg : Bool} {O : Sto} {P : KD} {i : Int} {ns : List Int} : fInQ neg (.int i) (.lst (ns.map D.int)) O P = P (.bl (inB2 neg (decide (i ∈ ns)))) O := by simp only [fInQ, seqOf, lstOf, intsOf_map]
theorem f_inS {neg : Bool} {O : Sto} {P : KD} {i : Str} {ns : List Str} : fInQ neg (.str i) (.lst (ns.map D.str)) O P = P (.bl (inB2 neg (decide (i ∈ ns)))) O := by simp only [fInQ, seqOf, lstOf, strsOf_map]
theorem inB2_t {b : Bool} : inB2 true b = !b := rfl
theorem inB2_f {b : Bool} : inB2 false b = b := rfl
/-! ## isinstance of a built-in type -/
def dIsB (n : String) (T : DE) : DE := fun Δ O P E => T Δ O (fun d O1 => match tgD O1 d with
  | some (.b m) => (match kitB m n with | some k => P (.bl k) O1 | none => False)
  | _ => False) E
variable {X : Cx} {W : WX} {pos pos' p apos : Pos} {a b c o : Expr} {es : List Expr} {Ta Tb : DE} {R : DA} {k j : Nat} {f : Addr} {S : DSp}
theorem q_isB {n : String} {x : Str} {q : Pos} (hm : X.mg "isinstance" = none) (hm' : X.mg x = none) (ha : PE X a (le g W Ta)) (hv : bootBuiltins x = some (.type n) := by decide +kernel) (hg : Gl X "isinstance" := by rfl) (hg' : Gl X x := by rfl)
    (hn : x ≠ "__name__" := by decide) (hd : (x == ("__debug__" : Str)) = false := by decide) (hK : X.K = g.K := by rfl)
    (hs : starEach (a :: [.Name x q]) X.env = (false, eval a X.env) :: starEach [.Name x q] X.env := by rfl) (hs' : starEach [.Name x q] X.env = (false, eval (.Name x q) X.env) :: starEach [] X.env := by rfl) (hpl : (backTo pos (starEach [.Name x q] X.env)).any (·.1) = false := by rfl) :
    PE X (.Call (.Name "isinstance" p) [a, .Name x q] [] pos) (le g W (dIsB n Ta)) := by
  have hb : PE X (.Name x q) (tC (.ty n)) := pe_bltn hg' hm' hv rfl hn hd
  refine pe_imp (pe_callB call_isi hg hm (by decide +kernel) (pa_cons ha (pa_cons hb pa_nil hs') hs) (by decide) (by decide) hs hpl) fun σ H Q h => ?_
  obtain ⟨Δ, O, P, E, F, hT, sr, w, hv, hx⟩ := h
  refine le_bind hT sr w hx fun d O1 v F1 H1 hT1 s1 sr1 w1 rx hx1 => ?_
  split at hT1
  · rename_i m e
    split at hT1
    · rename_i k ek
      refine ⟨v, .ty n, .type m, .type n, k, rfl, .ty n, by rw [hK]; exact tg_of e rx w1 (fun c ec => by cases ec), kit_ty ek, (hv.mono s1).now hT1 w1 rbl⟩
    · exact hT1.elim
  · exact hT1.elim
theorem e_isB {n : String} {Δ : Sl} {O : Sto} {P : KD} {E : KX} : dIsB n Ta Δ O P E = Ta Δ O (fun d O1 => match tgD O1 d with
  | some (.b m) => (match kitB m n with | some k => P (.bl k) O1 | none => False)
  | _ => False) E := propext Iff.rfl
end
end G

set_option Elab.async false
set_option linter.all false
set_option maxRecDepth 100000
set_option maxHeartbeats 4000000
namespace G
open PySem L2
/-! ## signs between sets of levels -/
abbrev AllOk (xs : List (Int × Int)) : Prop := ∀ x ∈ xs, x.1 ≤ x.2
theorem low_of {xs : List (Int × Int)} {l : Int} (h : mem xs l = true) (h' : mem xs (l - 1) = false) : l ∈ xs.map (·.1) := by
  obtain ⟨x, hx, q1, q2⟩ := mem_iff.mp h
  refine List.mem_map.mpr ⟨x, hx, ?_⟩
  by_cases c : x.1 = l
  · exact c
  · exact absurd (show mem xs (l - 1) = true from mem_iff.mpr ⟨x, hx, by omega, by omega⟩) (by rw [h']; decide)
theorem nodup_len {as : List Int} : ∀ {bs : List Int}, as.Nodup → (∀ a ∈ as, a ∈ bs) → as.length ≤ bs.length := by
  induction as with
  | nil => intro bs _ _; simp
  | cons a as ih =>
    intro bs nd h
    have nd' := List.nodup_cons.mp nd
    have hb := h a List.mem_cons_self
    have z := ih (bs := bs.erase a) nd'.2 fun x hx => (List.mem_erase_of_ne (fun e : x = a => nd'.1 (by rw [← e]; exact hx))).mpr (h x (List.mem_cons_of_mem _ hx))
    rw [List.length_erase_of_mem hb] at z
    have := List.length_pos_of_mem hb
    simp only [List.length_cons]
    omega
/-- a normal form has no more pieces than there are low ends -/
theorem norm_len {ys : List (Int × Int)} {ls : List Int} (n : Norm ys) (h : ∀ y ∈ ys, y.1 ∈ ls) : ys.length ≤ ls.length := by
  have nd : (ys.map (·.1)).Nodup := by
    rw [List.Nodup, List.pairwise_map]
    refine (List.pairwise_and_iff.mpr ⟨n.gap, List.Pairwise.and (R := fun a _ => a.1 ≤ a.2) (S := fun _ _ => True) ?_ (List.pairwise_of_forall fun _ _ => trivial)⟩).imp fun {a b} hab => ?_
    · rw [List.pairwise_iff_forall_sublist]
      intro a b hs
      exact n.ok a (hs.subset List.mem_cons_self)
    · intro e
      have := hab.1
      have := hab.2.1
      omega
  have := nodup_len nd (bs := ls) fun a ha => by
    obtain ⟨y, hy, rfl⟩ := List.mem_map.mp ha
    exact h y hy
  simpa using this
def meetL (xs ys : List (Int × Int)) : List (Int × Int) := xs.flatMap fun x => ys.filterMap fun y => if x.1 ≤ y.2 ∧ y.1 ≤ x.2 then some (max x.1 y.1, min x.2 y.2) else none
theorem meet_ok {xs ys : List (Int × Int)} (hx : AllOk xs) (hy : AllOk ys) : AllOk (meetL xs ys) := by
  intro z hz
  unfold meetL at hz
  obtain ⟨x, h1, h2⟩ := List.mem_flatMap.mp hz
  obtain ⟨y, h3, h4⟩ := List.mem_filterMap.mp h2
  have := hx x h1
  have := hy y h3
  split at h4
  · cases h4; show max x.1 y.1 ≤ min x.2 y.2; omega
  · cases h4
theorem meet_mem {xs ys : List (Int × Int)} {l : Int} : mem (meetL xs ys) l = (mem xs l && mem ys l) := by
  rw [Bool.eq_iff_iff, Bool.and_eq_true, mem_iff, mem_iff, mem_iff]
  unfold meetL
  constructor
  · rintro ⟨z, hz, q1, q2⟩
    obtain ⟨x, h1, h2⟩ := List.mem_flatMap.mp hz
    obtain ⟨y, h3, h4⟩ := List.mem_filterMap.mp h2
    split at h4
    · cases h4
      have q1 : max x.1 y.1 ≤ l := q1
      have q2 : l ≤ min x.2 y.2 := q2
      exact ⟨⟨x, h1, by omega, by omega⟩, ⟨y, h3, by omega, by omega⟩⟩
    · cases h4
  · rintro ⟨⟨x, h1, q1, q2⟩, ⟨y, h3, q3, q4⟩⟩
    refine ⟨(max x.1 y.1, min x.2 y.2), List.mem_flatMap.mpr ⟨x, h1, List.mem_filterMap.mpr ⟨y, h3, ?_⟩⟩, ?_, ?_⟩
    · rw [if_pos (by omega)]
    · show max x.1 y.1 ≤ l; omega
    · show l ≤ min x.2 y.2; omega
def andL (xs ys : List (Int × Int)) : List (Int × Int) := mrg (meetL xs ys)
theorem and_norm {xs ys : List (Int × Int)} (hx : AllOk xs) (hy : AllOk ys) : Norm (andL xs ys) := mrg_norm (meet_ok hx hy)
theorem and_mem {xs ys : List (Int × Int)} (hx : AllOk xs) (hy : AllOk ys) (l : Int) : mem (andL xs ys) l = (mem xs l && mem ys l) := by rw [andL, mrg_mem (meet_ok hx hy), meet_mem]
theorem and_len {xs ys : List (Int × Int)} (hx : AllOk xs) (hy : AllOk ys) : (andL xs ys).length ≤ xs.length + ys.length := by
  have n := and_norm hx hy
  have z := norm_len n (ls := xs.map (·.1) ++ ys.map (·.1)) fun y hy' => by
    have a := (norm_low n hy').1
    have b := (norm_low n hy').2
    rw [and_mem hx hy, Bool.and_eq_true] at a
    rw [and_mem hx hy] at b
    rw [List.mem_append]
    cases e : mem xs (y.1 - 1) with
    | false => exact .inl (low_of a.1 e)
    | true =>
      rw [e, Bool.true_and] at b
      exact .inr (low_of a.2 b)
  simpa using z
/-! ### difference -/
/-! ### moves -/
end G

set_option Elab.async false
set_option linter.all false
set_option maxRecDepth 100000
set_option maxHeartbeats 4000000
namespace G
open PySem L2
/-! ## several except clauses, each with the same name -/
abbrev HTs := List (Value × (Addr → Value → Option Addr → TS))
inductive HdN (X : Cx) (n : Str) : List ExceptHandler → HTs → Prop
  | nil : HdN X n [] []
  | cons {y : Str} {v : Value} {tz : Addr → Value → Option Addr → TS} {t0 : Stmt} {su : List Stmt} {p1 p2 : Pos} {hl : List ExceptHandler} {l : HTs} (nm : Names X y v)
      (hu : ∀ (b : Addr) (ob : Obj) (cl : Value) (d : Option Addr) (ps : List (Addr × Obj)), Zc cl d ob → (∃ vs, ob.data = .fields vs) → PSs (X.suite b ((b, ob) :: ps)) (t0 :: su) (tz b cl d)) (r : HdN X n hl l) :
      HdN X n (.ExceptHandler (some (.Name y p1)) (some n) (t0 :: su) p2 :: hl) ((v, tz) :: l)
section
variable {X : Cx} {n : Str} {i : Nat} {body : List Stmt} {h0 : ExceptHandler} {hl : List ExceptHandler} {l : HTs} {pos : Pos} {tb : WX → TS} {Wo : WX}
end
/-- the clauses, over plain data -/
abbrev HDs := List ((Ec → Option Bool) × DH)
def xcM (i : Nat) (D : DEnds) : HDs → Exn → Sl → Sto → Prop
  | [] => D.xc
  | p :: r => fun x Δ1 O1 => match p.1 x.c with
    | some true => ∀ a d, freshC O1 a → p.2 a x.c d { nx := fun Δ' O' => D.nx (Δ'.set i none) O', rt := D.rt, bk := fun Δ' O' => D.bk (Δ'.set i none) O', ct := fun Δ' O' => D.ct (Δ'.set i none) O' } (Δ1.set i (some (.xcp a d x.fs x.ds))) O1
    | some false => xcM i D r x Δ1 O1
    | none => False
def dTryM (i : Nat) (Tb : DS) (hs : HDs) : DS := fun D Δ O => Tb { D with xc := xcM i D hs } Δ O
section
variable {g : Gm} {X : Cx} {W : WX} {pos pos' p : Pos} {n : Str} {i : Nat} {body : List Stmt}
inductive QHs (g : Gm) (X : Cx) (n : Str) : List ExceptHandler → HDs → List Value → Prop
  | nil : QHs g X n [] [] []
  | cons {y : Str} {v : Value} {cat : Ec → Option Bool} {Th : DH} {t0 : Stmt} {su : List Stmt} {p1 p2 : Pos} {hl : List ExceptHandler} {l : HDs} {vs : List Value} (nm : Names X y v) (ct : Cat g X.K v cat)
      (hu : ∀ (a : Addr) (oe : Obj) (ec : Ec) (d : Option Addr) (pn : List (Addr × Obj)), Zc (.ref (g.ea ec)) d oe → (∃ vs, oe.data = .fields vs) → PSs (X.suite a ((a, oe) :: pn)) (t0 :: su) (ls g W0 (Th a ec d))) (r : QHs g X n hl l vs) :
      QHs g X n (.ExceptHandler (some (.Name y p1)) (some n) (t0 :: su) p2 :: hl) ((cat, Th) :: l) (v :: vs)
def toHTs (g : Gm) : HDs → List Value → HTs
  | p :: r, v :: vs => (v, fun a cls d E σ H => ∃ ec, cls = .ref (g.ea ec) ∧ ls g W0 (p.2 a ec d) E σ H) :: toHTs g r vs
  | _, _ => []
theorem QHs.hd {hl : List ExceptHandler} {l : HDs} {vs : List Value} (h : QHs g X n hl l vs) : HdN X n hl (toHTs g l vs) := by
  induction h with
  | nil => exact .nil
  | cons nm ct hu r ih =>
    refine .cons nm (fun b ob cl d ps hz hv => ⟨fun pins s σ H E I ⟨ec, e, h⟩ => ?_⟩) ih
    subst e
    exact (hu b ob ec d ps hz hv).run pins s σ H E I h
theorem e_tryM {T : DS} {hs : HDs} {En : DEnds} {Δ : Sl} {O : Sto} : dTryM i T hs En Δ O = T { En with xc := xcM i En hs } Δ O := propext Iff.rfl
theorem e_xcM0 {En : DEnds} {x : Exn} {Δ : Sl} {O : Sto} : xcM i En [] x Δ O = En.xc x Δ O := propext Iff.rfl
theorem e_xcM1 {En : DEnds} {cat : Ec → Option Bool} {Th : DH} {r : HDs} {x : Exn} {Δ : Sl} {O : Sto} : xcM i En ((cat, Th) :: r) x Δ O = (match cat x.c with
    | some true => ∀ a d, freshC O a → Th a x.c d { nx := fun Δ' O' => En.nx (Δ'.set i none) O', rt := En.rt, bk := fun Δ' O' => En.bk (Δ'.set i none) O', ct := fun Δ' O' => En.ct (Δ'.set i none) O' } (Δ.set i (some (.xcp a d x.fs x.ds))) O
    | some false => xcM i En r x Δ O
    | none => False) := propext Iff.rfl
end
end G

set_option Elab.async false
set_option linter.all false
set_option maxRecDepth 100000
set_option maxHeartbeats 4000000
namespace G
open PySem L2
/-! ## a property that may raise -/
def dPropX (ok : Ec → Bool) (tab : List (Cl × DSp)) (Ta : DE) : DE := fun Δ O P E => Ta Δ O (fun x O1 => match clsOf O1 x with
  | some c => (match tabAt tab c with | some S => S [x] O1 P (fun y O2 => ok y.c = true ∧ E y O2) | none => False)
  | none => False) E
section
variable {g : Gm} {X : Cx} {W : WX} {pos pos' p apos : Pos} {a b c o : Expr} {es : List Expr} {Ta Tb : DE} {R : DA} {k j : Nat} {f : Addr} {S : DSp} {x m : Str} {tab : List (Cl × DSp)} {ok : Ec → Bool}
theorem e_propX {Δ : Sl} {O : Sto} {P : KD} {E : KX} : dPropX ok tab Ta Δ O P E = Ta Δ O (fun x O1 => match clsOf O1 x with
  | some c => (match tabAt tab c with | some S => S [x] O1 P (fun y O2 => ok y.c = true ∧ E y O2) | none => False)
  | none => False) E := propext Iff.rfl
/-! ## tuples of whole numbers, in order -/
def fLtT : B2 := fun x y O P => match x, y with
  | .tup xs, .tup ys => (match intsOf xs, intsOf ys with | some ns, some ms => P (.bl (HT.lexLt ns ms)) O | _, _ => False)
  | _, _ => False
theorem f_ltT {O : Sto} {P : KD} {a b c d : Int} : fLtT (.tup [.int a, .int b]) (.tup [.int c, .int d]) O P = P (.bl (HT.lexLt [a, b] [c, d])) O := propext Iff.rfl
end
end G

set_option Elab.async false
set_option linter.all false
set_option maxRecDepth 100000
set_option maxHeartbeats 4000000
namespace G
open PySem L2
/-! ## a sum of lists that is owned -/
def fAddO : B2 := fun x y O P => match lstOf O x, lstOf O y with
  | some l, some m => l.length + m.length ≤ sizeLine ∧ ∀ p, freshC O p → P (.ptr p) ((p, .lst (l ++ m)) :: O)
  | _, _ => False
/-! ## a, b = .. -/
def dAsgG (Gd : DG) (Ta : DE) : DS := fun D Δ O => Ta Δ O (fun d O1 => Gd d Δ fun Δ' => D.nx Δ' O1) (fun x O1 => D.xc x Δ O1)
section
variable {g : Gm} {X : Cx} {W : WX} {pos pos' p apos : Pos} {a b c o tg : Expr} {es : List Expr} {Ta Tb : DE} {R : DA} {k j : Nat} {f : Addr} {S : DSp} {x m : Str} {tab : List (Cl × DSp)}
theorem f_addO {O : Sto} {P : KD} {l m : List D} : fAddO (.lst l) (.lst m) O P = (l.length + m.length ≤ sizeLine ∧ ∀ p, freshC O p → P (.ptr p) ((p, .lst (l ++ m)) :: O)) := propext Iff.rfl
theorem e_asgG {Gd : DG} {En : DEnds} {Δ : Sl} {O : Sto} : dAsgG Gd Ta En Δ O = Ta Δ O (fun d O1 => Gd d Δ fun Δ' => En.nx Δ' O1) (fun x O1 => En.xc x Δ O1) := propext Iff.rfl
end
end G

set_option Elab.async false
set_option linter.all false
set_option maxRecDepth 100000
set_option maxHeartbeats 4000000
namespace G
open PySem L2
/-! ## own classes: super().m(..) -/
section
variable {g : Gm} {X : Cx} {W : WX} {pos pos' : Pos} {a b e : Expr} {st : Stmt} {sts : List Stmt} {t u : TE} {Ta Tb : DE} {T U : DS}
end
section
variable {g : Gm} {P : Program} {w : World} {K : PySem.W.Frag} {mg : Str → Option Value} {base : Heap} {N ps : List Str} {x qual : Str} {st : Stmt} {f cc cda D : Addr} {fd : FuncData} {file : Str} {k : Nat} {A : Around} {outer : List Env} {s0 : Shared} {H0 : Hp} {E0 : XK}
end
section
variable {g : Gm} {P : Program} {w : World} {K : PySem.W.Frag} {mg : Str → Option Value} {base : Heap} {N ps : List Str} {x qual : Str} {st : Stmt} {f cc cda D : Addr} {fd : FuncData} {file : Str} {k : Nat} {S : DSp} {T : DS}
end
end G

set_option Elab.async false
set_option linter.all false
set_option maxRecDepth 100000
set_option maxHeartbeats 4000000
namespace G
open PySem L2
/-! ## text[::-1] -/
section
open PySem.Spec PyProof.Rows
def revT (z : Str) : Str := ⟨z.cps.toList.reverse.toArray⟩
end
def dRevS (T : DE) : DE := fun Δ O P E => T Δ O (fun d O1 => match d with | .str z => z.length ≤ sizeLine ∧ P (.str (revT z)) O1 | _ => False) E
section
variable {g : Gm} {X : Cx} {W : WX} {pos pos' p : Pos} {a b c : Expr} {Ta Tb : DE}
end
theorem e_revS {Ta : DE} {Δ : Sl} {O : Sto} {P : KD} {E : KX} : dRevS Ta Δ O P E = Ta Δ O (fun d O1 => match d with | .str z => z.length ≤ sizeLine ∧ P (.str (revT z)) O1 | _ => False) E := propext Iff.rfl
/-! ## str(text) -/
def fStrS : BC := fun ds O P => match ds with | [.str z] => P (.str z) O | _ => False
theorem f_strS {z : Str} {O : Sto} {P : KD} : fStrS [.str z] O P = P (.str z) O := propext Iff.rfl
/-! ## two fors -/
def lc2D (Gd : DG) (Tt : DT) (R1 : DA) (Gd1 : DG) (Tt1 : DT) (Te : DE) (vs1 : List Nat) (p : Addr) (P : List D → Sto → Prop) : List D → List D → Sl → Sto → Prop
  | [], acc, _, O => P acc O
  | x :: r, acc, Δ, O => Gd x Δ fun Δ' => Tt Δ' ((p, .lst acc) :: O) (fun k O1 => if k = true
      then R1 Δ' O1 (fun ds O2 => ∃ O3, O2 = (p, .lst acc) :: O3 ∧ ds.length ≤ 1000000 ∧ acc.length ≤ 1000000 ∧ lcD Gd1 Tt1 Te p (fun acc' O4 => lc2D Gd Tt R1 Gd1 Tt1 Te vs1 p P r acc' Δ O4) ds acc (wipeD Δ' vs1) O3) (fun _ _ => False)
      else ∃ O3, O1 = (p, .lst acc) :: O3 ∧ lc2D Gd Tt R1 Gd1 Tt1 Te vs1 p P r acc Δ O3) (fun _ _ => False)
def dLc2 (R : DA) (Gd : DG) (Tt : DT) (R1 : DA) (Gd1 : DG) (Tt1 : DT) (Te : DE) (vs vs1 : List Nat) : DE := fun Δ O P E => R Δ O (fun ds O1 => ∀ p, freshC O1 p → lc2D Gd Tt R1 Gd1 Tt1 Te vs1 p (fun acc O2 => P (.lst acc) O2) ds [] (wipeD Δ vs) O1) E
section
variable {g : Gm} {X : Cx} {W : WX} {pos pos' : Pos} {a b c tg tg1 : Expr} {R R1 : DA}
end
section
variable {Δ : Sl} {O : Sto} {P : KD} {E : KX} {R R1 : DA} {Gd Gd1 : DG} {Tt Tt1 : DT} {Te : DE} {vs vs1 : List Nat} {p : Addr} {Q : List D → Sto → Prop}
theorem e_lc2 : dLc2 R Gd Tt R1 Gd1 Tt1 Te vs vs1 Δ O P E = R Δ O (fun ds O1 => ∀ p, freshC O1 p → lc2D Gd Tt R1 Gd1 Tt1 Te vs1 p (fun acc O2 => P (.lst acc) O2) ds [] (wipeD Δ vs) O1) E := propext Iff.rfl
end
/-! ## {"a": x, ..} -/
def dDisp (ks : List Str) (R : DA) : DE := fun Δ O P E => ∀ p, freshC O p → R Δ ((p, .dic [] []) :: O) (fun ds O1 => ∃ O2, O1 = (p, .dic [] []) :: O2 ∧ ds.length = ks.length ∧ ks.Nodup ∧ P (.ptr p) ((p, .dic (ks.map Sum.inr) ds) :: O2)) (fun x O1 => E x (delC O1 p))
theorem e_disp {ks : List Str} {R : DA} {Δ : Sl} {O : Sto} {P : KD} {E : KX} : dDisp ks R Δ O P E = ∀ p, freshC O p → R Δ ((p, .dic [] []) :: O) (fun ds O1 => ∃ O2, O1 = (p, .dic [] []) :: O2 ∧ ds.length = ks.length ∧ ks.Nodup ∧ P (.ptr p) ((p, .dic (ks.map Sum.inr) ds) :: O2)) (fun x O1 => E x (delC O1 p)) := propext Iff.rfl
section
variable {g : Gm} {X : Cx} {W : WX} {pos pos' : Pos} {keys : List (Option Expr)} {values : List Expr} {ks : List Str} {R : DA}
end
end G
namespace G
open PySem L2
end G
namespace G
open PySem L2
end G
namespace G
open PySem L2
section
variable {g : Gm} {X : Cx} {W : WX} {pos : Pos} {i o : Expr} {Tk Td : DE}
end
end G

set_option Elab.async false
set_option linter.all false
set_option maxRecDepth 100000
set_option maxHeartbeats 4000000
namespace G
open PySem L2
/-! ## methods of an owned list -/
abbrev LOp := Sto → List D → List D → (D → List D → Prop) → Prop
def dLm (op : LOp) (Ta : DE) (R : DA) : DE := fun Δ O P E => Ta Δ O (fun o O1 => match o with
  | .ptr p => (match getC O1 p with
    | some (.lst _) => R Δ O1 (fun as O2 => match getC O2 p with
      | some (.lst ds) => op O2 ds as (fun r ds' => P r (setC O2 p (.lst ds')))
      | _ => False) E
    | _ => False)
  | _ => False) E
section
variable {g : Gm} {X : Cx} {W : WX} {pos : Pos} {a c : Expr} {Ta : DE} {R : DA} {op : LOp} {r : V → List V → Hp → VK → Prop}
end
def opPop : LOp := fun _ ds as K => as = [] ∧ ∃ l y, ds = l ++ [y] ∧ K y l
def opIns : LOp := fun _ ds as K => match as with
  | [.int i, d] => 0 ≤ i ∧ i < 2 ^ 63 ∧ ds.length < sizeLine ∧ K .non (ds.take i.toNat ++ [d] ++ ds.drop i.toNat)
  | _ => False
def opExt : LOp := fun O ds as K => match as with
  | [d] => (match lstOf O d with | some es => ds.length + es.length ≤ sizeLine ∧ K .non (ds ++ es) | none => False)
  | _ => False
section
variable {g : Gm}
end
theorem e_lm {op : LOp} {Ta : DE} {R : DA} {Δ : Sl} {O : Sto} {P : KD} {E : KX} : dLm op Ta R Δ O P E = Ta Δ O (fun o O1 => match o with
  | .ptr p => (match getC O1 p with
    | some (.lst _) => R Δ O1 (fun as O2 => match getC O2 p with
      | some (.lst ds) => op O2 ds as (fun r ds' => P r (setC O2 p (.lst ds')))
      | _ => False) E
    | _ => False)
  | _ => False) E := propext Iff.rfl
section
variable {Δ : Sl} {O : Sto} {P : KD} {E : KX} {Ta : DE} {L U : DO} {PO : Option Int → Sto → Prop} {K : D → List D → Prop}
theorem f_pop {ds as : List D} : opPop O ds as K = (as = [] ∧ ∃ l y, ds = l ++ [y] ∧ K y l) := propext Iff.rfl
theorem f_ins {ds : List D} {i : Int} {d : D} : opIns O ds [.int i, d] K = (0 ≤ i ∧ i < 2 ^ 63 ∧ ds.length < sizeLine ∧ K .non (ds.take i.toNat ++ [d] ++ ds.drop i.toNat)) := propext Iff.rfl
theorem f_ext {ds : List D} {d : D} : opExt O ds [d] K = (match lstOf O d with | some es => ds.length + es.length ≤ sizeLine ∧ K .non (ds ++ es) | none => False) := propext Iff.rfl
theorem e_slice : dSlice Ta L U Δ O P E = Ta Δ O (fun d O1 => L Δ O1 (fun l O2 => U Δ O2 (fun u O3 => match d with
  | .scr ns => P (.lst (cutD (ns.map D.int) l u)) O3
  | _ => match lstOf O3 d with | some ds => P (.lst (cutD ds l u)) O3 | none => False) E) E) E := propext Iff.rfl
theorem e_noP : dNoP Δ O PO E = PO none O := propext Iff.rfl
theorem e_part : dPart Ta Δ O PO E = Ta Δ O (fun d O1 => match d with | .int i => PO (some i) O1 | _ => False) E := propext Iff.rfl
theorem f_dictD {d : D} : fDictD [d] O P = (match dicOf O d with | some t => ∀ p, freshC O p → P (.ptr p) ((p, .dic t.1 t.2) :: O) | none => False) := propext Iff.rfl
theorem lstL {ds : List D} : lstOf O (.lst ds) = some ds := rfl
end
end G

set_option Elab.async false
set_option linter.all false
set_option maxRecDepth 100000
set_option maxHeartbeats 4000000
namespace G
open PySem L2
/-! ## keywords -/
def pick {α : Type} (idx : List Nat) (zs : List α) : List α := idx.filterMap fun i => zs[i]?
theorem Reps.pick {g : Gm} {F : Hp} {ds : List D} {vs : List V} (h : Reps g F ds vs) : ∀ idx : List Nat, Reps g F (G.pick idx ds) (G.pick idx vs)
  | [] => Reps.nil
  | i :: idx => by
    unfold G.pick
    rw [List.filterMap_cons, List.filterMap_cons]
    cases e : ds[i]? with
    | none =>
      have e2 : vs[i]? = none := by
        rw [List.getElem?_eq_none_iff] at e ⊢
        rw [← h.length]; exact e
      rw [e2]
      exact Reps.pick h idx
    | some d =>
      obtain ⟨v, e2, r⟩ := h.get e
      rw [e2]
      exact Reps.cons r (Reps.pick h idx)
def FNK (g : Gm) (P : Program) (w : World) (K : PySem.W.Frag) (mg : Str → Option Value) (base : Heap) (k : Nat) (f : Addr) (n : Nat) (ks : List Str) (idx : List Nat) (S : DSp) : Prop :=
  ∀ (A : Around) (outer : List Env) (s : Shared) (H : Hp) (us ws : List Value) (vs zs : List V) (Q : VK) (E : XK), Room k A → Env0 P w K mg base A outer s H → Vals vs us → Vals zs ws → vs.length = n → zs.length = ks.length → toSp g S (vs ++ pick idx zs) H Q E →
    codeAny (model P w) A (.call (.ref f) ⟨us, ks.zip ws⟩) (CR (L2.CX P w) outer P w H s Q E) s
theorem FNK.mono {g : Gm} {P : Program} {w : World} {K : PySem.W.Frag} {mg : Str → Option Value} {base : Heap} {j k : Nat} {f : Addr} {n : Nat} {ks : List Str} {idx : List Nat} {S : DSp} (h : FNK g P w K mg base j f n ks idx S) (hj : j ≤ k) : FNK g P w K mg base k f n ks idx S :=
  fun A outer s H us ws vs zs Q E hr => h A outer s H us ws vs zs Q E (hr.mono hj)
section
variable {g : Gm} {X : Cx} {W : WX} {pos pos' p apos kpos : Pos} {a b c o e : Expr} {es : List Expr} {Ta Tb : DE} {R Rk : DA} {k j n : Nat} {f : Addr} {S : DSp} {x m : Str} {kws : List Keyword} {ks : List Str} {idx : List Nat} {nm : Option Str}
def dCallK (n m : Nat) (idx : List Nat) (S : DSp) (R Rk : DA) : DE := fun Δ O P E => R Δ O (fun ds O1 => Rk Δ O1 (fun es O2 => ds.length = n ∧ es.length = m ∧ S (ds ++ pick idx es) O2 P E) E) E
/-! ### C(.., k = v) -/
def dMakeKw (cl : Cl) (n m : Nat) (idx : List Nat) (S : DSp) (R Rk : DA) : DE := fun Δ O P E => R Δ O (fun ds O1 => Rk Δ O1 (fun es O2 => ds.length = n ∧ es.length = m ∧ mkK cl S (ds ++ pick idx es) O2 P E) E) E
/-! ## constants -/
def dInK (ws : List Str) (Ta : DE) : DE := fun Δ O P E => Ta Δ O (fun d O1 => match d with | .str z => P (.bl (decide (z ∈ ws))) O1 | _ => False) E
/-! ## for sign in text -/
def dItS (Ta : DE) : DA := fun Δ O P E => Ta Δ O (fun d O1 => match d with | .str z => P (z.cps.toList.map fun c => .str ⟨#[c]⟩) O1 | _ => False) E
end
section
variable {Δ : Sl} {O : Sto} {P : KD} {E : KX} {Ta : DE} {R Rk : DA} {n m : Nat} {idx : List Nat} {S : DSp} {cl : Cl} {PA : List D → Sto → Prop}
theorem e_callK : dCallK n m idx S R Rk Δ O P E = R Δ O (fun ds O1 => Rk Δ O1 (fun es O2 => ds.length = n ∧ es.length = m ∧ S (ds ++ pick idx es) O2 P E) E) E := propext Iff.rfl
theorem e_makeKw : dMakeKw cl n m idx S R Rk Δ O P E = R Δ O (fun ds O1 => Rk Δ O1 (fun es O2 => ds.length = n ∧ es.length = m ∧ mkK cl S (ds ++ pick idx es) O2 P E) E) E := propext Iff.rfl
theorem e_inK {ws : List Str} : dInK ws Ta Δ O P E = Ta Δ O (fun d O1 => match d with | .str z => P (.bl (decide (z ∈ ws))) O1 | _ => False) E := propext Iff.rfl
theorem e_itS : dItS Ta Δ O PA E = Ta Δ O (fun d O1 => match d with | .str z => PA (z.cps.toList.map fun c => .str ⟨#[c]⟩) O1 | _ => False) E := propext Iff.rfl
end
section
variable {g : Gm} {P : Program} {w : World} {K : PySem.W.Frag} {mg : Str → Option Value} {base : Heap} {N ps : List Str} {x qual : Str} {st : Stmt} {f cc cda D : Addr} {fd : FuncData} {file : Str} {k n : Nat} {S : DSp} {T : DS} {ks : List Str} {idx : List Nat}
end
end G

set_option Elab.async false
set_option linter.all false
set_option maxRecDepth 100000
set_option maxHeartbeats 4000000
namespace G
open PySem L2
/-! ## text[lo:hi], an owned copy list(x) -/
def dSliceS (T : DE) (L U : DO) : DE := fun Δ O P E => T Δ O (fun d O1 => L Δ O1 (fun l O2 => U Δ O2 (fun u O3 => match d with
  | .str z => z.length ≤ sizeLine ∧ P (.str (cutS z l u)) O3
  | _ => False) E) E) E
def fListO : BC := fun ds O P => match ds with | [d] => (match seqOf O d with | some es => ∀ p, freshC O p → P (.ptr p) ((p, .lst es) :: O) | none => False) | _ => False
section
variable {g : Gm} {X : Cx} {W : WX} {pos pos' p p2 : Pos} {a b c e : Expr} {es : List Expr} {R : DA} {Ta Tb : DE} {k j : Nat} {x : Str}
end
section
variable {Δ : Sl} {O : Sto} {P : KD} {E : KX} {Ta : DE} {L U : DO}
theorem e_sliceS : dSliceS Ta L U Δ O P E = Ta Δ O (fun d O1 => L Δ O1 (fun l O2 => U Δ O2 (fun u O3 => match d with
  | .str z => z.length ≤ sizeLine ∧ P (.str (cutS z l u)) O3
  | _ => False) E) E) E := propext Iff.rfl
theorem f_listOL {ds : List D} : fListO [.lst ds] O P = (∀ p, freshC O p → P (.ptr p) ((p, .lst ds) :: O)) := propext Iff.rfl
theorem f_listOT {ds : List D} : fListO [.tup ds] O P = (∀ p, freshC O p → P (.ptr p) ((p, .lst ds) :: O)) := propext Iff.rfl
end
end G

set_option Elab.async false
set_option linter.all false
set_option maxRecDepth 100000
set_option maxHeartbeats 4000000
namespace G
open PySem L2
/-! ## for k in d: a dict that is let go -/
def dItD (T : DE) : DA := fun Δ O P E => T Δ O (fun d O1 => match d with | .dic ks _ => P (ks.map kD) O1 | _ => False) E
section
variable {g : Gm} {X : Cx} {W : WX} {pos pos' p p2 : Pos} {a b c e : Expr} {es : List Expr} {R : DA} {Ta Tb : DE} {k j : Nat} {x : Str}
end
section
variable {Δ : Sl} {O : Sto} {E : KX} {Ta : DE} {PA : List D → Sto → Prop}
theorem e_itD : dItD Ta Δ O PA E = Ta Δ O (fun d O1 => match d with | .dic ks _ => PA (ks.map kD) O1 | _ => False) E := propext Iff.rfl
end
/-! ## an owned thing is let go where it stands: in variables and in fields -/
def subD (a : Addr) (x : D) : D → D
  | .ptr b => if b = a then x else .ptr b
  | d => d
def subCell (a : Addr) (x : D) : Cell → Cell
  | .lst ds => .lst (ds.map (subD a x))
  | .ins c fs ds => .ins c fs (ds.map (subD a x))
  | .dic ks ds => .dic ks (ds.map (subD a x))
  | .box => .box
def subSto (a : Addr) (x : D) (O : Sto) : Sto := O.map fun q => (q.1, subCell a x q.2)
def subSl (a : Addr) (x : D) (Δ : Sl) : Sl := Δ.map (Option.map (subD a x))
section
variable {g : Gm} {F : Hp} {a : Addr} {x : D}
theorem Rep.subst (hx : Rep g F x (.ref a)) {d : D} {v : V} (h : Rep g F d v) : Rep g F (subD a x d) v := by
  cases d with
  | ptr b =>
    simp only [subD]
    split
    · rename_i e
      subst e
      rw [Rep.ptr_iff.mp h]
      exact hx
    · exact h
  | _ => exact h
theorem Reps.subst (hx : Rep g F x (.ref a)) : ∀ {ds : List D} {vs : List V}, Reps g F ds vs → Reps g F (ds.map (subD a x)) vs
  | [], vs, h => h
  | d :: ds, vs, h => by
    obtain ⟨v, r, rfl, h1, h2⟩ := Reps.cons_iff.mp h
    exact Reps.cons (Rep.subst hx h1) (Reps.subst hx h2)
theorem CRep.subst (hx : Rep g F x (.ref a)) {c : Cell} {o : HO} (h : CRep g F c o) : CRep g F (subCell a x c) o := by
  cases c with
  | lst ds => cases o <;> first | exact Reps.subst hx (show Reps g F ds _ from h) | exact h.elim
  | ins c fs ds =>
    cases o with
    | ins C dx vfs =>
      obtain ⟨h1, h2, vs, h3, h4⟩ := h
      exact ⟨h1, by rw [List.length_map]; exact h2, vs, h3, Reps.subst hx h4⟩
    | _ => exact h.elim
  | dic ks ds =>
    cases o with
    | dK kvs =>
      obtain ⟨h2, vs, h3, h4⟩ := h
      exact ⟨by rw [List.length_map]; exact h2, vs, h3, Reps.subst hx h4⟩
    | _ => exact h.elim
  | box => exact h
theorem SRel.subst {σ : St} {Δ : Sl} (hx : Rep g F x (.ref a)) (h : SRel g F σ Δ) : SRel g F σ (subSl a x Δ) := by
  refine ⟨by unfold subSl; rw [List.length_map]; exact h.1, fun i d q => ?_⟩
  unfold subSl at q
  rw [List.getElem?_map] at q
  cases e : Δ[i]? with
  | none => rw [e] at q; cases q
  | some o =>
    cases o with
    | none => rw [e] at q; cases q
    | some d' =>
      rw [e] at q
      cases q
      obtain ⟨v, h1, h2⟩ := h.2 i d' e
      exact ⟨v, h1, Rep.subst hx h2⟩
theorem Wd.subst {O : Sto} {H : Hp} (hx : Rep g F x (.ref a)) (w : Wd g F O H) : Wd g F (subSto a x O) H := by
  refine ⟨w.same, ?_, fun q hq => ?_⟩
  · have e : (subSto a x O).map (·.1) = O.map (·.1) := by unfold subSto; rw [List.map_map]; rfl
    rw [e]
    exact w.nd
  · unfold subSto at hq
    obtain ⟨q', h1, rfl⟩ := List.mem_map.mp hq
    obtain ⟨h2, o, h3, h4⟩ := w.cel q' h1
    exact ⟨h2, o, h3, CRep.subst hx h4⟩
end
/-- behind the statement an owned thing is let go where it stands: in the cell at q -/
def meltK (K : Sl → Sto → Prop) : Sl → Sto → Prop := fun Δ O => ∃ a c x q cq, getC O a = some c ∧ frzD c = some x ∧ getC (delC O a) q = some cq ∧ K Δ (setC (delC O a) q (subCell a x cq))
def dMelt (T : DS) : DS := fun D Δ O => T { D with nx := meltK D.nx } Δ O
section
variable {g : Gm} {X : Cx} {W : WX} {st : Stmt} {T : DS}
theorem e_melt {En : DEnds} {Δ : Sl} {O : Sto} : dMelt T En Δ O = T { En with nx := meltK En.nx } Δ O := propext Iff.rfl
end
end G

set_option Elab.async false
set_option linter.all false
set_option maxRecDepth 100000
set_option maxHeartbeats 4000000
namespace G
open PySem L2
/-! ## f(*x, k = v) -/
section
open PySem.Calls PyProof.Rows
variable {M : Model} {A : Around} {E : Value → Shared → Prop} {s : Shared}
end
/-! ## a def with a star parameter and keyword-only ones -/
def FNV (g : Gm) (P : Program) (w : World) (K : PySem.W.Frag) (mg : Str → Option Value) (base : Heap) (k : Nat) (f : Addr) (ks : List Str) (S : DSp) : Prop :=
  ∀ (A : Around) (outer : List Env) (s : Shared) (H : Hp) (us ws : List Value) (vs zs : List V) (Q : VK) (E : XK), Room k A → Env0 P w K mg base A outer s H → Vals vs us → Vals zs ws → zs.length = ks.length → toSp g S (zs ++ vs) H Q E →
    codeAny (model P w) A (.call (.ref f) ⟨us, ks.zip ws⟩) (CR (L2.CX P w) outer P w H s Q E) s
theorem FNV.mono {g : Gm} {P : Program} {w : World} {K : PySem.W.Frag} {mg : Str → Option Value} {base : Heap} {j k : Nat} {f : Addr} {ks : List Str} {S : DSp} (h : FNV g P w K mg base j f ks S) (hj : j ≤ k) : FNV g P w K mg base k f ks S :=
  fun A outer s H us ws vs zs Q E hr => h A outer s H us ws vs zs Q E (hr.mono hj)
section
variable {g : Gm} {P : Program} {w : World} {K : PySem.W.Frag} {mg : Str → Option Value} {base : Heap} {x qual : Str} {st : Stmt} {f : Addr} {N ps ks : List Str} {pv kn : Str} {k n : Nat} {S : DSp} {T : DS} {oc dV kV doc pm cdv ct : Value} {od an : Option Addr} {osl : Array (Option Value)}
end
/-! ## a def with a default at its end -/
section
variable {g : Gm} {P : Program} {w : World} {K : PySem.W.Frag} {mg : Str → Option Value} {base : Heap} {x qual : Str} {st : Stmt} {f : Addr} {N ps ks : List Str} {pv kn : Str} {k n : Nat} {S : DSp} {T : DS} {oc dV kV doc pm cdv ct : Value} {od an : Option Addr} {osl : Array (Option Value)}
end
/-! ## cls(*x, k = v), C(x, .., k = v) -/
def dMakeCV (nk : Nat) (tab : List (Cl × DSp)) (Tf Ta : DE) (Rk : DA) : DE := fun Δ O P E => Tf Δ O (fun f O1 => match f with
  | .cls c => (match tabAt tab c with
    | some S => Ta Δ O1 (fun d O2 => Rk Δ O2 (fun es O3 => match seqOf O3 d with | some xs => es.length = nk ∧ mkK c (fun ds => S (es ++ ds)) xs O3 P E | none => False) E) E
    | none => False)
  | _ => False) E
def dMakeKV (cl : Cl) (nk : Nat) (S : DSp) (R Rk : DA) : DE := fun Δ O P E => R Δ O (fun ds O1 => Rk Δ O1 (fun es O2 => es.length = nk ∧ mkK cl (fun ds => S (es ++ ds)) ds O2 P E) E) E
section
variable {g : Gm} {X : Cx} {W : WX} {pos pos' p p2 : Pos} {a b c e : Expr} {es : List Expr} {R Rk : DA} {Ta Tb Tf : DE} {k j nk : Nat} {x : Str} {tab : List (Cl × DSp)} {kws : List Keyword} {ks : List Str} {S : DSp} {f : Addr}
end
section
variable {Δ : Sl} {O : Sto} {P : KD} {E : KX} {Ta Tf : DE} {R Rk : DA} {nk : Nat} {tab : List (Cl × DSp)} {S : DSp} {cl : Cl}
theorem e_makeKV : dMakeKV cl nk S R Rk Δ O P E = R Δ O (fun ds O1 => Rk Δ O1 (fun es O2 => es.length = nk ∧ mkK cl (fun ds => S (es ++ ds)) ds O2 P E) E) E := propext Iff.rfl
theorem e_makeCV : dMakeCV nk tab Tf Ta Rk Δ O P E = Tf Δ O (fun f O1 => match f with
  | .cls c => (match tabAt tab c with
    | some S => Ta Δ O1 (fun d O2 => Rk Δ O2 (fun es O3 => match seqOf O3 d with | some xs => es.length = nk ∧ mkK c (fun ds => S (es ++ ds)) xs O3 P E | none => False) E) E
    | none => False)
  | _ => False) E := propext Iff.rfl
end
section
variable {g : Gm} {P : Program} {w : World} {K : PySem.W.Frag} {mg : Str → Option Value} {base : Heap} {ks : List Str}
end
end G

set_option Elab.async false
set_option linter.all false
set_option maxRecDepth 100000
set_option maxHeartbeats 4000000
namespace G
open PySem L2
/-! ## x not in an own thing -/
section
variable {g : Gm} {X : Cx} {W : WX} {pos pos' p apos : Pos} {a b c o : Expr} {es : List Expr} {Ta Tb : DE} {R : DA} {k : Nat} {f : Addr} {S : DSp} {x m : Str} {tab : List (Cl × DSp)}
theorem e_notInOwn {Δ : Sl} {O : Sto} {P : KD} {E : KX} : dNotInOwn tab Ta Tb Δ O P E = Ta Δ O (fun x O1 => Tb Δ O1 (fun y O2 => match clsOf O2 y with
  | some c => (match tabAt tab c with | some S => S [y, x] O2 (boolK fun k O3 => P (.bl (!k)) O3) E | none => False)
  | none => False) E) E := propext Iff.rfl
end
/-! ## == of owned lists; an owned list(d) -/
def pyO (O : Sto) : D → Option PyData
  | .ptr a => (match getC O a with | some (.lst ds) => (pys ds).map .list | _ => none)
  | d => py d
theorem pyO_dp {g : Gm} {F : Hp} {O : Sto} {H : Hp} (w : Wd g F O H) {d : D} {v : V} {x : PyData} (h : pyO O d = some x) (r : Rep g F d v) : Dp g.K H v x := by
  cases d with
  | ptr a =>
    simp only [pyO] at h
    rw [Rep.ptr_iff.mp r]
    split at h
    · rename_i ds eg
      obtain ⟨_, o, h1, h2⟩ := w.get eg
      cases o with
      | lst vs =>
        cases e : pys ds with
        | none => rw [e] at h; cases h
        | some xs =>
          rw [e] at h
          cases h
          exact .lst (SqL.of h1) (pys_dp w e (show Reps g F ds vs from h2))
      | _ => exact h2.elim
    · cases h
  | _ => exact py_dp w h r
def eqBO (O : Sto) (x y : D) : Option Bool := match pyO O x, pyO O y with
  | some a, some b => if SeqAt.shaped a = true ∧ SeqAt.shaped b = true then some (PyData.eqv a b) else none
  | _, _ => none
def fNeO : B2 := fun x y O P => match eqBO O x y with | some k => P (.bl (!k)) O | none => False
section
variable {g : Gm} {X : Cx}
theorem op_neO (hu : X.A.units + 64 < cLine) (hK : X.K = g.K := by rfl) : OpR X (compareOp .NotEq) (rNeD g.K) := by
  rw [← hK]
  exact op_neD hu
theorem lk_neO : Lk2 g (rNeD g.K) fNeO := by
  intro x y O P F H vx vy Q hf rx ry w hv
  unfold fNeO eqBO at hf
  cases e1 : pyO O x with
  | none => rw [e1] at hf; exact hf.elim
  | some a =>
    cases e2 : pyO O y with
    | none => rw [e1, e2] at hf; exact hf.elim
    | some b =>
      rw [e1, e2] at hf
      by_cases c : SeqAt.shaped a = true ∧ SeqAt.shaped b = true
      · simp only [if_pos c] at hf
        exact ⟨a, b, pyO_dp w e1 rx, pyO_dp w e2 ry, c.1, c.2, hv.now hf w rbl⟩
      · simp only [if_neg c] at hf
end
def fListDO : BC := fun ds O P => match ds with | [d] => (match dicOf O d with | some t => ∀ p, freshC O p → P (.ptr p) ((p, .lst (t.1.map kD)) :: O) | none => False) | _ => False
section
variable {g : Gm}
theorem f_listDO {O : Sto} {P : KD} {d : D} : fListDO [d] O P = (match dicOf O d with | some t => ∀ p, freshC O p → P (.ptr p) ((p, .lst (t.1.map kD)) :: O) | none => False) := propext Iff.rfl
end
/-! ## C.m() of a classmethod with no argument -/
section
variable {g : Gm} {X : Cx} {W : WX} {pos p apos : Pos} {k j : Nat} {S : DSp} {x m : Str}
end
end G

set_option Elab.async false
set_option linter.all false
set_option maxRecDepth 100000
set_option maxHeartbeats 4000000
namespace G
open PySem L2
/-! ## xs[::-1] of a list, tuple(xs), t + u, t[a:b] of tuples -/
def dRevL (T : DE) : DE := fun Δ O P E => T Δ O (fun d O1 => match lstOf O1 d with | some ds => P (.lst ds.reverse) O1 | none => False) E
section
variable {g : Gm} {X : Cx} {W : WX} {pos pos' p : Pos} {a b c : Expr} {Ta Tb : DE}
end
theorem e_revL {Ta : DE} {Δ : Sl} {O : Sto} {P : KD} {E : KX} : dRevL Ta Δ O P E = Ta Δ O (fun d O1 => match lstOf O1 d with | some ds => P (.lst ds.reverse) O1 | none => False) E := propext Iff.rfl
def fTup : BC := fun ds O P => match ds with | [d] => (match d with | .tup es => P (.tup es) O | _ => match lstOf O d with | some es => P (.tup es) O | none => False) | _ => False
section
variable {g : Gm} {X : Cx}
end
theorem f_tupL {l : List D} {O : Sto} {P : KD} : fTup [.lst l] O P = P (.tup l) O := propext Iff.rfl
theorem f_tupT {l : List D} {O : Sto} {P : KD} : fTup [.tup l] O P = P (.tup l) O := propext Iff.rfl
def fAddT : B2 := fun x y O P => match x, y with | .tup xs, .tup ys => xs.length + ys.length ≤ sizeLine ∧ P (.tup (xs ++ ys)) O | _, _ => False
theorem f_addT {xs ys : List D} {O : Sto} {P : KD} : fAddT (.tup xs) (.tup ys) O P = (xs.length + ys.length ≤ sizeLine ∧ P (.tup (xs ++ ys)) O) := propext Iff.rfl
section
variable {g : Gm} {X : Cx}
end
def dSliceT (T : DE) (L U : DO) : DE := fun Δ O P E => T Δ O (fun d O1 => L Δ O1 (fun l O2 => U Δ O2 (fun u O3 => match d with
  | .tup ds => P (.tup (cutD ds l u)) O3
  | _ => False) E) E) E
section
variable {g : Gm} {X : Cx} {W : WX} {pos pos' p : Pos} {a b c : Expr} {Ta Tb : DE}
end
theorem e_sliceT {Ta : DE} {L U : DO} {Δ : Sl} {O : Sto} {P : KD} {E : KX} : dSliceT Ta L U Δ O P E = Ta Δ O (fun d O1 => L Δ O1 (fun l O2 => U Δ O2 (fun u O3 => match d with
  | .tup ds => P (.tup (cutD ds l u)) O3
  | _ => False) E) E) E := propext Iff.rfl
/-! ## data with owned lists within: ==, in -/
mutual
/-- the plain data that d stands for, if the owned lists are read as they are now -/
inductive IsPy (O : Sto) : D → PyData → Prop
  | non : IsPy O .non .none
  | bl (b : Bool) : IsPy O (.bl b) (.bool b)
  | int (i : Int) : IsPy O (.int i) (.int i)
  | str (x : Str) : IsPy O (.str x) (.str x)
  | lst {ds : List D} {xs : List PyData} : IsPys O ds xs → IsPy O (.lst ds) (.list xs)
  | tup {ds : List D} {xs : List PyData} : IsPys O ds xs → IsPy O (.tup ds) (.tuple xs)
  | ptr {a : Addr} {ds : List D} {xs : List PyData} : getC O a = some (.lst ds) → IsPys O ds xs → IsPy O (.ptr a) (.list xs)
inductive IsPys (O : Sto) : List D → List PyData → Prop
  | nil : IsPys O [] []
  | cons {d : D} {ds : List D} {x : PyData} {xs : List PyData} : IsPy O d x → IsPys O ds xs → IsPys O (d :: ds) (x :: xs)
end
section
variable {g : Gm} {F : Hp} {O : Sto} {H : Hp}
mutual
theorem isPy_dp (w : Wd g F O H) : ∀ {d : D} {v : V} {x : PyData}, IsPy O d x → Rep g F d v → Dp g.K H v x
  | _, _, _, .non, r => by rw [Rep.non_iff.mp r]; exact .non
  | _, _, _, .bl b, r => by rw [Rep.bl_iff.mp r]; exact .bl b
  | _, _, _, .int b, r => by rw [Rep.int_iff.mp r]; exact .int b
  | _, _, _, .str b, r => by rw [Rep.str_iff.mp r]; exact .str b
  | _, _, _, .lst h, r => by
    obtain ⟨p, vs, rfl, h1, h2⟩ := Rep.lst_iff.mp r
    exact .lst (SqL.of (w.same _ _ h1)) (isPys_dp w h h2)
  | _, _, _, .tup h, r => by
    obtain ⟨p, vs, rfl, h1, h2⟩ := Rep.tup_sq r
    exact .tup (sqt_same w.same h1) (isPys_dp w h h2)
  | _, _, _, .ptr (ds := ds) e h, r => by
    rw [Rep.ptr_iff.mp r]
    obtain ⟨_, o, h1, h2⟩ := w.get e
    cases o with
    | lst vs => exact .lst (SqL.of h1) (isPys_dp w h (show Reps g F ds vs from h2))
    | _ => exact h2.elim
theorem isPys_dp (w : Wd g F O H) : ∀ {ds : List D} {vs : List V} {xs : List PyData}, IsPys O ds xs → Reps g F ds vs → DpAll g.K H vs xs
  | _, _, _, .nil, r => by
    rw [Reps.nil_iff] at r
    subst r
    exact .nil
  | _, _, _, .cons h1 h2, r => by
    obtain ⟨v, rr, rfl, q1, q2⟩ := Reps.cons_iff.mp r
    exact .cons (isPy_dp w h1 q1) (isPys_dp w h2 q2)
end
end
def fNeN : B2 := fun x y O P => ∃ a b, IsPy O x a ∧ IsPy O y b ∧ SeqAt.shaped a = true ∧ SeqAt.shaped b = true ∧ P (.bl (!PyData.eqv a b)) O
section
variable {g : Gm} {X : Cx}
theorem lk_neN : Lk2 g (rNeD g.K) fNeN := by
  rintro x y O P F H vx vy Q ⟨a, b, h1, h2, h3, h4, h5⟩ rx ry w hv
  exact ⟨a, b, isPy_dp w h1 rx, isPy_dp w h2 ry, h3, h4, hv.now h5 w rbl⟩
end
/-! ## the store in another order -/
theorem Wd.perm {g : Gm} {F : Hp} {O O' : Sto} {H : Hp} (w : Wd g F O H) (h : O'.Perm O) : Wd g F O' H := ⟨w.same, (h.map _).nodup_iff.mpr w.nd, fun q hq => w.cel q (h.mem_iff.mp hq)⟩
def dPerm (T : DE) : DE := fun Δ O P E => T Δ O (fun d O1 => ∃ O2, O2.Perm O1 ∧ P d O2) E
theorem e_perm {Ta : DE} {Δ : Sl} {O : Sto} {P : KD} {E : KX} : dPerm Ta Δ O P E = Ta Δ O (fun d O1 => ∃ O2, O2.Perm O1 ∧ P d O2) E := propext Iff.rfl
/-! ## a walk over a list that is owned: it must stay as it is -/
structure GivesC (g : Gm) (F : Hp) (J : It) (ds : List D) (C : Sto → Prop) : Prop where
  go : ∀ (i : Nat) (d : D) F' O H, ds[i]? = some d → C O → Same F F' → Wd g F' O H → J.go i H ∧ ∀ x H', J.yld i H x H' → ∃ F2, Same F' F2 ∧ Wd g F2 O H' ∧ Rep g F2 d x
  stop : ∀ (i : Nat) F' O H, ds.length ≤ i → C O → Same F F' → Wd g F' O H → J.stop i H
def forC (C : Sto → Prop) (Gd : DG) (B : DS) (E : DEnds) : List D → Sl → Sto → Prop
  | [], Δ, O => C O ∧ E.nx Δ O
  | d :: r, Δ, O => C O ∧ Gd d Δ fun Δ' => B { E with nx := forC C Gd B E r, ct := forC C Gd B E r, bk := E.nx } Δ' O
def heldL (p : Addr) (ds : List D) (O : Sto) : Prop := getC O p = some (.lst ds)
/-- for x in xs, xs an owned list -/
def dForP (T : DE) (G : DG) (B : DS) : DS := fun D Δ O => T Δ O (fun d O1 => match d with
  | .ptr p => (match getC O1 p with | some (.lst ds) => forC (heldL p ds) G B D ds Δ O1 | _ => False)
  | _ => False) (fun x O1 => D.xc x Δ O1)
section
variable {g : Gm} {X : Cx} {W : WX} {pos pos' : Pos} {a b c tg : Expr} {Ta Tb : DE}
theorem givesC_list {F : Hp} {p : Addr} {ds : List D} : GivesC g F (Itl g.K p) ds (heldL p ds) := by
  refine ⟨fun i d F' O H q c s w => ?_, fun i F' O H q c s w => ?_⟩
  · obtain ⟨_, o, h1, h2⟩ := w.get c
    cases o with
    | lst vs =>
      have h2 : Reps g F' ds vs := h2
      obtain ⟨v, hv, rv⟩ := h2.get q
      have hs : SqL g.K H p vs := SqL.of h1
      refine ⟨⟨vs, v, hs, hv⟩, fun x H' ⟨e, y⟩ => ⟨F', Same.refl F', by rw [e]; exact w, ?_⟩⟩
      have z := y vs hs
      rw [hv] at z
      cases z
      exact rv
    | _ => exact h2.elim
  · obtain ⟨_, o, h1, h2⟩ := w.get c
    cases o with
    | lst vs =>
      have h2 : Reps g F' ds vs := h2
      exact ⟨vs, SqL.of h1, by rw [← h2.length]; exact q⟩
    | _ => exact h2.elim
theorem qs_forP {iter : Expr} {body : List Stmt} {t : TG} {Gd : DG} {js : List Nat} {B : DS} (hp : PassesOwn (model X.prog X.w) X.A X.env X.xe) (hi : PE X iter (le g W Ta)) (hg : PG X tg t) (lk : LkG g t Gd js) (hb : PSs X body (ls g W B)) (hc : X.calm = true := by rfl)
    (hs : ∀ x, foldedSetIterable iter X.env x = pure x := by intro _; rfl) (hK : X.K = g.K := by rfl) : PS X (.For tg iter body [] pos) (ls g W (dForP Ta Gd B)) := by
  refine ps_imp (ps_for hp hc (pi_list hi) hg hb hs) fun E σ H ⟨D, Δ, O, F, hT, sr, w, ho⟩ => ?_
  refine le_bind hT sr w (ho.toX sr) fun d O1 v F1 H1 hT1 s1 sr1 w1 rx hx1 => ?_
  cases d with
  | ptr p =>
    have ev := Rep.ptr_iff.mp rx
    subst ev
    have hT1 : (match getC O1 p with | some (.lst ds) => forC (heldL p ds) Gd B D ds Δ O1 | _ => False) := hT1
    split at hT1
    · rename_i ds e
      obtain ⟨_, o, h1, h2⟩ := w1.get e
      cases o with
      | lst vs =>
        refine ⟨p, rfl, ⟨vs, SqL.of h1⟩, ?_⟩
        have gv : GivesC g F1 (Itl X.K p) ds (heldL p ds) := by rw [hK]; exact givesC_list
        refine ⟨fun i m σ H => m = ds.length - i ∧ i ≤ ds.length ∧ ∃ Δ O F', Same F1 F' ∧ SRel g F' σ Δ ∧ Wd g F' O H ∧ forC (heldL p ds) Gd B D (ds.drop i) Δ O, ⟨ds.length, by simp, Nat.zero_le _, Δ, O1, F1, Same.refl F1, sr1, w1, by simpa using hT1⟩, ?_⟩
        rintro i m σ2 H2 ⟨rfl, hi, Δ2, O2, F2, s2, sr2, w2, hF⟩
        by_cases hlt : i < ds.length
        · rw [List.drop_eq_getElem_cons hlt] at hF
          obtain ⟨hC, hF⟩ := hF
          obtain ⟨go, yl⟩ := gv.go i ds[i] F2 O2 H2 (List.getElem?_eq_getElem hlt) hC s2 w2
          refine .inr ⟨go, fun σ' H' => ∃ Δ O F', Same F1 F' ∧ SRel g F' σ' Δ ∧ Wd g F' O H' ∧ forC (heldL p ds) Gd B D (ds.drop (i + 1)) Δ O, fun σ' H' q => ⟨ds.length - (i + 1), by omega, rfl, hlt, q⟩, fun x H' y => ?_⟩
          obtain ⟨F3, s3, w3, r3⟩ := yl x H' y
          refine lk ds[i] x σ2 Δ2 F3 O2 H' _ _ hF r3 (sr2.mono s3) w3 fun Δ' σ' hB sr' _ _ => ?_
          have s03 : Same F F3 := s1.trans (s2.trans s3)
          refine ⟨_, Δ', O2, F3, hB, sr', w3, ?_⟩
          have nx : ∀ Δ O F' σ H, forC (heldL p ds) Gd B D (ds.drop (i + 1)) Δ O → Same F3 F' → SRel g F' σ Δ → Wd g F' O H → ∃ Δ O F', Same F1 F' ∧ SRel g F' σ Δ ∧ Wd g F' O H ∧ forC (heldL p ds) Gd B D (ds.drop (i + 1)) Δ O :=
            fun Δ O F' σ H q s sr w => ⟨Δ, O, F', (s2.trans s3).trans s, sr, w, q⟩
          exact ⟨nx, ho.rt.mono s03, fun Δ O F' σ H q s => (ho.mono s03).nx Δ O F' σ H q s, nx, (ho.mono s03).xc⟩
        · have e : i = ds.length := by omega
          subst e
          rw [List.drop_length] at hF
          exact .inl ⟨gv.stop _ F2 O2 H2 (Nat.le_refl _) hF.1 s2 w2, ho.nx _ _ _ _ _ hF.2 (s1.trans s2) sr2 w2⟩
      | _ => exact h2.elim
    · exact hT1.elim
  | _ => exact hT1.elim
end
theorem e_forP {Ta : DE} {Gd : DG} {B : DS} {En : DEnds} {Δ : Sl} {O : Sto} : dForP Ta Gd B En Δ O = Ta Δ O (fun d O1 => match d with
  | .ptr p => (match getC O1 p with | some (.lst ds) => forC (heldL p ds) Gd B En ds Δ O1 | _ => False)
  | _ => False) (fun x O1 => En.xc x Δ O1) := propext Iff.rfl
/-! ### a comprehension over an owned list -/
def lcC (C : Sto → Prop) (Gd : DG) (Tt : DT) (Te : DE) (p : Addr) (P : List D → Sto → Prop) : List D → List D → Sl → Sto → Prop
  | [], acc, _, O => C ((p, .lst acc) :: O) ∧ P acc O
  | x :: r, acc, Δ, O => C ((p, .lst acc) :: O) ∧ Gd x Δ fun Δ' => Tt Δ' ((p, .lst acc) :: O) (fun k O1 => if k = true
      then Te Δ' O1 (fun y O2 => ∃ O3, O2 = (p, .lst acc) :: O3 ∧ lcC C Gd Tt Te p P r (acc ++ [y]) Δ O3) (fun _ _ => False)
      else ∃ O3, O1 = (p, .lst acc) :: O3 ∧ lcC C Gd Tt Te p P r acc Δ O3) (fun _ _ => False)
def dLcP (T : DE) (Gd : DG) (Tt : DT) (Te : DE) (vs : List Nat) : DE := fun Δ O P E => T Δ O (fun d O1 => match d with
  | .ptr q => (match getC O1 q with | some (.lst ds) => ds.length ≤ 1000000 ∧ ∀ p, freshC O1 p → lcC (heldL q ds) Gd Tt Te p (fun acc O2 => P (.lst acc) O2) ds [] (wipeD Δ vs) O1 | _ => False)
  | _ => False) E
section
variable {g : Gm} {X : Cx} {W : WX} {pos pos' : Pos} {a b c tg : Expr} {Ta Tb : DE} {tA tB : DT} {R : DA}
theorem tlcC_of {t : TG} {Gd : DG} {js vs : List Nat} {Tt : DT} {Te : DE} {C : Sto → Prop} (lk : LkG g t Gd js) (hjs : ∀ j ∈ js, j ∈ vs) {PL : Addr → List D → Sto → Prop} {σ : St} {H : Hp} {Q : VK} {Δ : Sl} {O : Sto} {F : Hp} {J : It} {ds : List D}
    (hT : ds.length ≤ 1000000 ∧ ∀ p, freshC O p → lcC C Gd Tt Te p (PL p) ds [] (wipeD Δ vs) O) (sr : SRel g F σ Δ) (w : Wd g F O H) (gv : GivesC g F J ds C)
    (hQ : ∀ p acc O1 F1 H1, PL p acc O1 → Same F F1 → Wd g F1 ((p, .lst acc) :: O1) H1 → Q (.ref p) H1) :
    ∀ Dl, H Dl = none → ∃ W : Nat → Nat → Hp → Prop, (∃ m, W 0 m (upd H Dl (.lst []))) ∧ ∀ i m H, W i m H →
      (J.stop i H ∧ Q (.ref Dl) H) ∨ (J.go i H ∧ ∃ Nx : Hp → Prop, (∀ H', Nx H' → ∃ m', m' < m ∧ W (i + 1) m' H') ∧ ∀ x H', J.yld i H x H' → t x (L2.wipe σ vs) H' fun σ2 H2 => L2.wipe σ2 vs = L2.wipe σ vs ∧ lt g W0 Tt σ2 H2 fun b H3 =>
        if b = true then le g W0 Te σ2 H3 fun y H4 => ∃ acc, H4 Dl = some (.lst acc) ∧ acc.length < sizeLine ∧ Nx (upd H4 Dl (.lst (acc ++ [y]))) else Nx H3) := by
  intro p hp
  obtain ⟨hz, hT⟩ := hT
  have hT := hT p (w.fresh hp)
  refine ⟨fun i m H => m = ds.length - i ∧ i ≤ ds.length ∧ ∃ acc O1 F', acc.length ≤ i ∧ Same F F' ∧ Wd g F' ((p, .lst acc) :: O1) H ∧ lcC C Gd Tt Te p (PL p) (ds.drop i) acc (wipeD Δ vs) O1,
    ⟨ds.length, by simp, Nat.zero_le _, [], O, F, Nat.le_refl _, Same.refl F, w.own (c := .lst []) (o := .lst []) hp (Reps.nil (g := g) (F := F)), by simpa using hT⟩, ?_⟩
  rintro i m H2 ⟨rfl, hi, acc, O2, F2, ha, s2, w2, hL⟩
  by_cases hlt : i < ds.length
  · rw [List.drop_eq_getElem_cons hlt] at hL
    obtain ⟨hC, hL⟩ := hL
    obtain ⟨go, yl⟩ := gv.go i ds[i] F2 _ H2 (List.getElem?_eq_getElem hlt) hC s2 w2
    refine .inr ⟨go, fun H' => ∃ acc O1 F', acc.length ≤ i + 1 ∧ Same F F' ∧ Wd g F' ((p, .lst acc) :: O1) H' ∧ lcC C Gd Tt Te p (PL p) (ds.drop (i + 1)) acc (wipeD Δ vs) O1, fun H' q => ⟨ds.length - (i + 1), by omega, rfl, hlt, q⟩, fun x H' y => ?_⟩
    obtain ⟨F3, s3, w3, r3⟩ := yl x H' y
    refine lk ds[i] x (L2.wipe σ vs) (wipeD Δ vs) F3 _ H' _ _ hL r3 ((sr.wipe vs).mono (s2.trans s3)) w3 fun Δ' σ' hB sr' ho hl => ⟨wipe_wipe hl fun j hj => ho j fun q => hj (hjs j q), ?_⟩
    refine lt_bind hB sr' w3 xok0 fun k O4 F4 H4 hT4 s4 sr4 w4 hx4 => ?_
    cases k with
    | true =>
      rw [if_pos rfl] at hT4 ⊢
      refine le_bind hT4 sr4 w4 hx4 fun y O5 vy F5 H5 hT5 s5 sr5 w5 ry hx5 => ?_
      obtain ⟨O6, e6, hT6⟩ := hT5
      subst e6
      obtain ⟨_, ob, h1, h2⟩ := w5.cel (p, .lst acc) List.mem_cons_self
      cases ob with
      | lst vs' =>
        have h2 : Reps g F5 acc vs' := h2
        refine ⟨vs', h1, ?_, acc ++ [y], O6, F5, ?_, s2.trans (s3.trans (s4.trans s5)), ?_, hT6⟩
        · rw [← h2.length, sizeLine_eq]
          omega
        · rw [List.length_append, List.length_singleton]
          omega
        · have z := w5.set (a := p) (c := .lst acc) (c' := .lst (acc ++ [y])) (o := .lst (vs' ++ [vy])) (by simp [getC]) (h2.append (Reps.one ry))
          simpa [setC] using z
      | _ => exact h2.elim
    | false =>
      rw [if_neg Bool.false_ne_true] at hT4 ⊢
      obtain ⟨O6, e6, hT6⟩ := hT4
      subst e6
      exact ⟨acc, O6, F4, by omega, s2.trans (s3.trans s4), w4, hT6⟩
  · have e : i = ds.length := by omega
    subst e
    rw [List.drop_length] at hL
    exact .inl ⟨gv.stop _ F2 _ H2 (Nat.le_refl _) hL.1 s2 w2, hQ p acc O2 F2 H2 hL.2 s2 w2⟩
theorem q_lcP {elt iter : Expr} {ifs : List Expr} {scope : Scope} {own : List (Str × Nat)} {t : TG} {Gd : DG} {js : List Nat} {Tt : DT} {Te : DE} (hN : X.N.Nodup) (hi : PE X iter (le g W Ta)) (ok : BlkOk X.N X.env.scope scope own)
    (hg : ∀ (s : Shared) (H : Hp) (C : Addr) (cl : List (Str × Addr)) (fp : List Addr), PG (X.blk s H scope (compEnvC scope cl C X.env) fp) tg t) (lk : LkG g t Gd js) (ht : ∀ (s : Shared) (H : Hp) (C : Addr) (cl : List (Str × Addr)) (fp : List Addr), PTs (X.blk s H scope (compEnvC scope cl C X.env) fp) ifs (lt g W0 Tt))
    (he : ∀ (s : Shared) (H : Hp) (C : Addr) (cl : List (Str × Addr)) (fp : List Addr), PE (X.blk s H scope (compEnvC scope cl C X.env) fp) elt (le g W0 Te)) (hc : X.calm = true := by rfl) (hjs : ∀ j ∈ js, j ∈ own.map (·.2) := by decide) (hs : ∀ x, foldedSetIterable iter X.env x = pure x := by intro _; rfl) (hK : X.K = g.K := by rfl) :
    PE X (.ListComp elt [⟨tg, iter, ifs, 0⟩] scope pos) (le g W (dLcP Ta Gd Tt Te (own.map (·.2)))) := by
  refine pe_imp (pe_lc hc hN (pi_list hi) ok hg ht he hs) fun σ H Q h => ?_
  obtain ⟨Δ, O, P, E, F, hT, sr, w, hv, hx⟩ := h
  refine le_bind hT sr w hx fun d O1 v F1 H1 hT1 s1 sr1 w1 rx hx1 => ?_
  cases d with
  | ptr q =>
    have ev := Rep.ptr_iff.mp rx
    subst ev
    have hT1 : (match getC O1 q with | some (.lst ds) => ds.length ≤ 1000000 ∧ ∀ p, freshC O1 p → lcC (heldL q ds) Gd Tt Te p (fun acc O2 => P (.lst acc) O2) ds [] (wipeD Δ (own.map (·.2))) O1 | _ => False) := hT1
    split at hT1
    · rename_i ds e
      obtain ⟨_, o, h1, h2⟩ := w1.get e
      cases o with
      | lst vs =>
        refine ⟨q, rfl, ⟨vs, SqL.of h1⟩, ?_⟩
        have gv : GivesC g F1 (Itl X.K q) ds (heldL q ds) := by rw [hK]; exact givesC_list
        refine tlcC_of (PL := fun _ acc O2 => P (.lst acc) O2) lk hjs hT1 sr1 w1 gv fun p acc O2 F2 H2 hp s2 w2 => ?_
        obtain ⟨o, ho, hc, s3, w3⟩ := w2.freeze (a := p) (c := .lst acc) (by simp [getC])
        exact hv _ _ _ _ _ hp (s1.trans (s2.trans s3)) (by simpa [delC] using w3) (frz_rep rfl hc (w2.cel _ List.mem_cons_self).1)
      | _ => exact h2.elim
    · exact hT1.elim
  | _ => exact hT1.elim
end
theorem e_lcP {Ta : DE} {Gd : DG} {Tt : DT} {Te : DE} {vs : List Nat} {Δ : Sl} {O : Sto} {P : KD} {E : KX} : dLcP Ta Gd Tt Te vs Δ O P E = Ta Δ O (fun d O1 => match d with
  | .ptr q => (match getC O1 q with | some (.lst ds) => ds.length ≤ 1000000 ∧ ∀ p, freshC O1 p → lcC (heldL q ds) Gd Tt Te p (fun acc O2 => P (.lst acc) O2) ds [] (wipeD Δ vs) O1 | _ => False)
  | _ => False) E := propext Iff.rfl
/-- a comprehension over an owned list that changes nothing -/
theorem lcC_det {C : Sto → Prop} {Gd : DG} {Tt : DT} {Te : DE} {p : Addr} {Δ : Sl} {O : Sto} {α : Type} {emb : α → D} (f : α → Option D) {Q : List D → Sto → Prop} : ∀ {xs : List α} {acc : List D}, (∀ acc, C ((p, .lst acc) :: O)) → (∀ x ∈ xs, ∀ acc C, C (f x) O → lcStep Gd Tt Te p acc Δ O (emb x) C) → Q (acc ++ xs.filterMap f) O → lcC C Gd Tt Te p Q (xs.map emb) acc Δ O := by
  intro xs
  induction xs with
  | nil =>
    intro acc hc _ hq
    exact ⟨hc _, by simpa using hq⟩
  | cons x xs ih =>
    intro acc hc step hq
    refine ⟨hc _, ?_⟩
    have z := step x List.mem_cons_self acc (fun o O3 => match o with | some y => lcC C Gd Tt Te p Q (xs.map emb) (acc ++ [y]) Δ O3 | none => lcC C Gd Tt Te p Q (xs.map emb) acc Δ O3) ?_
    · exact z
    · cases e : f x with
      | none => exact ih hc (fun y hy => step y (List.mem_cons_of_mem _ hy)) (by simpa [List.filterMap_cons, e] using hq)
      | some y => exact ih hc (fun y hy => step y (List.mem_cons_of_mem _ hy)) (by simpa [List.filterMap_cons, e] using hq)
/-! ## C.m(.., k = v) of a classmethod -/
section
variable {g : Gm} {P : Program} {w : World} {K : PySem.W.Frag} {mg : Str → Option Value} {base : Heap} {k n : Nat} {f : Addr} {x qual : Str} {st : Stmt} {N ps ks : List Str} {idx : List Nat} {S : DSp} {T : DS} {oc kV doc pm cdv ct : Value} {od an : Option Addr} {osl : Array (Option Value)}
end
def dCMethK (c : Cl) (n m : Nat) (idx : List Nat) (S : DSp) (R Rk : DA) : DE := fun Δ O P E => R Δ O (fun ds O1 => Rk Δ O1 (fun es O2 => ds.length = n ∧ es.length = m ∧ S (.cls c :: ds ++ pick idx es) O2 P E) E) E
theorem e_cmethK {c : Cl} {n m : Nat} {idx : List Nat} {S : DSp} {R Rk : DA} {Δ : Sl} {O : Sto} {P : KD} {E : KX} : dCMethK c n m idx S R Rk Δ O P E = R Δ O (fun ds O1 => Rk Δ O1 (fun es O2 => ds.length = n ∧ es.length = m ∧ S (.cls c :: ds ++ pick idx es) O2 P E) E) E := propext Iff.rfl
section
variable {g : Gm} {X : Cx} {W : WX} {pos pos' p apos kpos : Pos} {a b c o e : Expr} {es : List Expr} {R Rk : DA} {k j n : Nat} {f : Addr} {S : DSp} {x m : Str} {kws : List Keyword} {ks : List Str} {idx : List Nat}
end
theorem f_listSL {ds : List D} {O : Sto} {P : KD} : fListS [.lst ds] O P = P (.lst ds) O := propext Iff.rfl
theorem f_listST {ds : List D} {O : Sto} {P : KD} : fListS [.tup ds] O P = P (.lst ds) O := propext Iff.rfl
end G

set_option Elab.async false
set_option linter.all false
set_option maxRecDepth 100000
set_option maxHeartbeats 4000000
namespace G
open PySem L2 PySem.Spec PyProof.Rows
/-! ## sorted(zip(pairs, numbers)) -/
abbrev T3 := (Int × Int) × Int
/-- v stands for ((x, y), z) -/
def IsTri (h : Heap) (v : Value) (k : T3) : Prop := ∃ (a b : Addr) (o o2 : Obj) (t t1 t2 : Tok) (n m : Nat), v = .ref a ∧ h.get? a = some o ∧ o.cls = .type "tuple" ∧ o.data = .seq #[.ref b, .int k.2 t] n ∧
  h.get? b = some o2 ∧ o2.cls = .type "tuple" ∧ o2.data = .seq #[.int k.1.1 t1, .int k.1.2 t2] m
theorem IsTri.keeps {h h' : Heap} {v : Value} {k : T3} (x : IsTri h v k) (e : ∀ b o, h.get? b = some o → o.cls = .type "tuple" → h'.get? b = some o) : IsTri h' v k := by
  obtain ⟨a, b, o, o2, t, t1, t2, n, m, h1, h2, h3, h4, h5, h6, h7⟩ := x
  exact ⟨a, b, o, o2, t, t1, t2, n, m, h1, e _ _ h2 h3, h3, h4, e _ _ h5 h6, h6, h7⟩
section
variable {prog : Program} {w : World} {A : Around} {E : Value → Shared → Prop} {s : Shared}
end
/-! ### the pairs of zip, gathered -/
structure ZMade (xs ys : Array Value) (lo : Addr) (h : Heap) (as : List Addr) : Prop where
  rise : as.Pairwise (· < ·)
  above : ∀ a ∈ as, lo < a
  pairs : ∀ (j : Nat) (a : Addr), as[j]? = some a → ∃ x y, xs[j]? = some x ∧ ys[j]? = some y ∧ IsPair h a x y
theorem ZMade.there {xs ys : Array Value} {lo : Addr} {h : Heap} {as : List Addr} (g : ZMade xs ys lo h as) {a : Addr} (ha : a ∈ as) : a < h.objs.size := by
  obtain ⟨j, hj⟩ := List.mem_iff_getElem?.mp ha
  obtain ⟨_, _, _, _, e⟩ := g.pairs j a hj
  exact Heap.lt_size e
/-- where the zip stands behind i pairs; S: the list that is filled -/
structure ZSt (xs ys : Array Value) (z TI TO i1 i2 l1 l2 S : Addr) (i : Nat) (h : Heap) : Prop where
  ti : IsPair h TI (.ref i1) (.ref i2)
  a1 : h.IsListIter i1 l1 i
  a2 : h.IsListIter i2 l2 i
  b1 : h.IsList l1 xs
  b2 : h.IsList l2 ys
  zz : (IsZip h z TI TO .none ∧ ∃ a b, IsPair h TO a b) ∨ ∃ T f oT, IsZipHeld h z TI TO T f ∧ h.get? T = some oT ∧ T ≠ z ∧ T ≠ i1 ∧ T ≠ i2 ∧ T ≠ S
structure ZOff (z TI TO i1 i2 l1 l2 S : Addr) : Prop where
  z : z ≠ S
  ti : TI ≠ S
  to : TO ≠ S
  i1 : i1 ≠ S
  i2 : i2 ≠ S
  l1 : l1 ≠ S
  l2 : l2 ≠ S
section
variable {prog : Program} {w : World} {A : Around} {E : Value → Shared → Prop} {s : Shared} {xs ys : Array Value} {z TI TO i1 i2 l1 l2 S : Addr}
theorem ZSt.frame {i : Nat} {h h' : Heap} (st : ZSt xs ys z TI TO i1 i2 l1 l2 S i h) (d : ZOff z TI TO i1 i2 l1 l2 S) (hk : ∀ b o, b ≠ S → h.get? b = some o → h'.get? b = some o) : ZSt xs ys z TI TO i1 i2 l1 l2 S i h' := by
  refine ⟨hk _ _ d.ti st.ti, st.a1.at fun o e => hk _ o d.i1 e, st.a2.at fun o e => hk _ o d.i2 e, st.b1.at fun o e => hk _ o d.l1 e, st.b2.at fun o e => hk _ o d.l2 e, ?_⟩
  rcases st.zz with ⟨hz, a, b, hTO⟩ | ⟨T, f, oT, hz, hT, r1, r2, r3, r4⟩
  · exact .inl ⟨hk _ _ d.z hz, a, b, hk _ _ d.to hTO⟩
  · exact .inr ⟨T, f, oT, hk _ _ d.z hz, hk _ _ r4 hT, r1, r2, r3, r4⟩
theorem ZSt.next {i : Nat} {Q : Option Value → Shared → Prop} (D : ZipApart z TI TO i1 i2 l1 l2) (d : ZOff z TI TO i1 i2 l1 l2 S) (st : ZSt xs ys z TI TO i1 i2 l1 l2 S i s.heap) (hS : S < s.heap.objs.size) {x y : Value} (ex : xs[i]? = some x) (ey : ys[i]? = some y)
    (hQ : ∀ h', ZSt xs ys z TI TO i1 i2 l1 l2 S (i + 1) h' → IsPair h' s.heap.objs.size x y → (∀ c o, c ≠ z → c ≠ TO → c ≠ i1 → c ≠ i2 → s.heap.get? c = some o → h'.get? c = some o) → Q (some (.ref s.heap.objs.size)) { s with heap := h' }) :
    wpAny (model prog w) A (pyNext (.ref z)) Q E s := by
  have lt : ∀ {c o}, s.heap.get? c = some o → s.heap.objs.size ≠ c := fun e => Nat.ne_of_gt (Heap.lt_size e)
  have n1 : s.heap.objs.size ≠ i1 := let ⟨_, e, _⟩ := st.a1; lt e
  have n2 : s.heap.objs.size ≠ i2 := let ⟨_, e, _⟩ := st.a2; lt e
  rcases st.zz with ⟨hz, a, b, hTO⟩ | ⟨T, f, oT, hz, hT, r1, r2, r3, r4⟩
  · refine wpAny_pyNext_zip_item D hz st.ti hTO st.a1 st.a2 st.b1 st.b2 ex ey fun h' a1 a2 a3 a4 a5 a6 hk => ?_
    exact hQ h' ⟨hk _ _ D.TIz D.TITO D.TIi1 D.TIi2 st.ti, a3, a4, st.b1.at fun o e => hk _ o D.l1z D.l1TO D.l1i1 D.l1i2 e, st.b2.at fun o e => hk _ o D.l2z D.l2TO D.l2i1 D.l2i2 e, .inr ⟨s.heap.objs.size, false, _, a1, a5, lt hz, n1, n2, Nat.ne_of_gt hS⟩⟩ a5 hk
  · refine wpAny_pyNext_zip_item_held D hz hT st.ti st.a1 st.a2 st.b1 st.b2 ex ey fun h' a1 a3 a4 a5 a6 hk => ?_
    exact hQ h' ⟨hk _ _ D.TIz D.TIi1 D.TIi2 st.ti, a3, a4, st.b1.at fun o e => hk _ o D.l1z D.l1i1 D.l1i2 e, st.b2.at fun o e => hk _ o D.l2z D.l2i1 D.l2i2 e, .inr ⟨T, true, _, a1, hk _ _ r1 r2 r3 hT, r1, r2, r3, r4⟩⟩ a5 fun c o q1 _ q3 q4 e => hk c o q1 q3 q4 e
end
/-! ### the sort of the triples, as plain data -/
def lexTe (a b : T3) : Bool := decide (a.1.1 < b.1.1 ∨ (a.1.1 = b.1.1 ∧ (a.1.2 < b.1.2 ∨ (a.1.2 = b.1.2 ∧ a.2 ≤ b.2))))
def srtT (xs : List T3) : List T3 := xs.mergeSort lexTe
abbrev triD (x : T3) : D := .tup [pr x.1, .int x.2]
def dSortZ (R : DA) : DE := fun Δ O P E => R Δ O (fun ds O1 => ∃ (vs : List (Int × Int)) (ws : List Int), ds = [.lst (vs.map pr), .lst (ws.map D.int)] ∧ vs.length = ws.length ∧ vs.length ≤ 1000 ∧ P (.lst ((srtT (vs.zip ws)).map triD)) O1) E
theorem e_sortZ {R : DA} {Δ : Sl} {O : Sto} {P : KD} {E : KX} : dSortZ R Δ O P E = R Δ O (fun ds O1 => ∃ (vs : List (Int × Int)) (ws : List Int), ds = [.lst (vs.map pr), .lst (ws.map D.int)] ∧ vs.length = ws.length ∧ vs.length ≤ 1000 ∧ P (.lst ((srtT (vs.zip ws)).map triD)) O1) E := propext Iff.rfl
section
variable {g : Gm} {X : Cx} {W : WX} {pos pos2 p p2 : Pos} {a b : Expr} {R : DA}
end
end G

set_option Elab.async false
set_option linter.all false
set_option maxRecDepth 100000
set_option maxHeartbeats 4000000
/-! ## sum of a tuple of whole numbers -/
namespace PySem
section
variable {prog : Program} {w : World} {A : Around} {E : Value → Shared → Prop} {s : Shared} {l : Addr} {xs : Array (Int × Tok)}
end
end PySem
namespace G
open PySem PyProof.Rows L2
def fSumT : BC := fun ds O P => match ds with | [.tup es] => (match intsOf es with | some ns => P (.int ns.sum) O | none => False) | _ => False
theorem f_sumT2 {O : Sto} {P : KD} {a b : Int} : fSumT [.tup [.int a, .int b]] O P = P (.int (a + b)) O := by
  show P (.int ([a, b].sum)) O = _
  rw [show [a, b].sum = a + b by simp]
end G

set_option Elab.async false
set_option linter.all false
set_option maxRecDepth 100000
set_option maxHeartbeats 4000000
namespace G
open PySem L2
/-! ## d.pop(k), d.pop(k, x) of an owned dict; == and != of owned dicts that are equal -/
def dropKs (k : Key) : List Key → List Key
  | [] => []
  | h :: ks => if h = k then dropKs k ks else h :: dropKs k ks
def dropKd (k : Key) : List Key → List D → List D
  | h :: ks, d :: ds => if h = k then dropKd k ks ds else d :: dropKd k ks ds
  | _, _ => []
section
variable {g : Gm}
end
def dPop1 (Td Tk : DE) : DE := fun Δ O P E => Td Δ O (fun d O1 => match dicOf O1 d with
  | some _ => Tk Δ O1 (fun y O2 => match d, keyD y with
    | .ptr q, some k => (match getC O2 q with
      | some (.dic ks ds) => (match getK k ks ds with | some e => P e (setC O2 q (.dic (dropKs k ks) (dropKd k ks ds))) | none => False)
      | _ => False)
    | _, _ => False) E
  | none => False) E
def dPop2 (Td Tk Tx : DE) : DE := fun Δ O P E => Td Δ O (fun d O1 => match dicOf O1 d with
  | some _ => Tk Δ O1 (fun y O2 => Tx Δ O2 (fun x O3 => match d, keyD y with
    | .ptr q, some k => (match getC O3 q with
      | some (.dic ks ds) => (match getK k ks ds with | some e => P e (setC O3 q (.dic (dropKs k ks) (dropKd k ks ds))) | none => P x O3)
      | _ => False)
    | _, _ => False) E) E
  | none => False) E
section
variable {g : Gm} {X : Cx} {W : WX} {pos pos' p p2 apos cpos : Pos} {a b c e o i f value : Expr} {Ta Tb Tc Td Tk Tx Tv : DE}
end
section
variable {g : Gm}
end
section
variable {Ta Tb Td Tk Tx : DE} {Δ : Sl} {O : Sto} {P : KD} {E : KX}
theorem e_pop1 : dPop1 Td Tk Δ O P E = Td Δ O (fun d O1 => match dicOf O1 d with
  | some _ => Tk Δ O1 (fun y O2 => match d, keyD y with
    | .ptr q, some k => (match getC O2 q with
      | some (.dic ks ds) => (match getK k ks ds with | some e => P e (setC O2 q (.dic (dropKs k ks) (dropKd k ks ds))) | none => False)
      | _ => False)
    | _, _ => False) E
  | none => False) E := propext Iff.rfl
theorem e_pop2 : dPop2 Td Tk Tx Δ O P E = Td Δ O (fun d O1 => match dicOf O1 d with
  | some _ => Tk Δ O1 (fun y O2 => Tx Δ O2 (fun x O3 => match d, keyD y with
    | .ptr q, some k => (match getC O3 q with
      | some (.dic ks ds) => (match getK k ks ds with | some e => P e (setC O3 q (.dic (dropKs k ks) (dropKd k ks ds))) | none => P x O3)
      | _ => False)
    | _, _ => False) E) E
  | none => False) E := propext Iff.rfl
end
end G

set_option Elab.async false
set_option linter.all false
set_option maxRecDepth 100000
set_option maxHeartbeats 4000000
namespace G
open PySem L2
/-! ## a new list that the caller takes as it likes: owned or frozen -/
def dMay (T : DE) : DE := fun Δ O P E => T Δ O (fun d O1 => match d with
  | .ptr a => P (.ptr a) O1 ∨ (match getC O1 a with | some (.lst l) => P (.lst l) (delC O1 a) | _ => False)
  | _ => False) E
def dLc2O (R : DA) (Gd : DG) (Tt : DT) (R1 : DA) (Gd1 : DG) (Tt1 : DT) (Te : DE) (vs vs1 : List Nat) : DE := fun Δ O P E => R Δ O (fun ds O1 => ∀ p, freshC O1 p → lc2D Gd Tt R1 Gd1 Tt1 Te vs1 p (fun acc O2 => P (.ptr p) ((p, .lst acc) :: O2)) ds [] (wipeD Δ vs) O1) E
section
variable {g : Gm} {X : Cx} {W W0 : WX} {pos pos' : Pos} {a tg tg1 : Expr} {Ta : DE} {R R1 : DA}
end
section
variable {Δ : Sl} {O : Sto} {P : KD} {E : KX} {R R1 : DA} {Gd Gd1 : DG} {Tt Tt1 : DT} {Ta Te : DE} {vs vs1 : List Nat} {p : Addr} {Q : List D → Sto → Prop}
theorem e_lc2O : dLc2O R Gd Tt R1 Gd1 Tt1 Te vs vs1 Δ O P E = R Δ O (fun ds O1 => ∀ p, freshC O1 p → lc2D Gd Tt R1 Gd1 Tt1 Te vs1 p (fun acc O2 => P (.ptr p) ((p, .lst acc) :: O2)) ds [] (wipeD Δ vs) O1) E := propext Iff.rfl
theorem e_may : dMay Ta Δ O P E = Ta Δ O (fun d O1 => match d with
  | .ptr a => P (.ptr a) O1 ∨ (match getC O1 a with | some (.lst l) => P (.lst l) (delC O1 a) | _ => False)
  | _ => False) E := propext Iff.rfl
end
end G

set_option Elab.async false
set_option linter.all false
set_option maxRecDepth 100000
set_option maxHeartbeats 4000000
namespace G
open PySem L2
open Sem (wp)
/-! ## what is gone stays gone -/
structure Dead (h h' : Heap) : Prop where
  sz : h.objs.size ≤ h'.objs.size
  no : ∀ a, a < h.objs.size → h.get? a = none → h'.get? a = none
theorem Dead.refl (h : Heap) : Dead h h := ⟨Nat.le_refl _, fun _ _ q => q⟩
theorem Dead.trans {a b c : Heap} (x : Dead a b) (y : Dead b c) : Dead a c := ⟨Nat.le_trans x.sz y.sz, fun i hi q => y.no i (Nat.lt_of_lt_of_le hi x.sz) (x.no i hi q)⟩
/-! ## an own __iter__ that hands out the iterator of a list in a field -/
section
variable {g : Gm} {P : Program} {w : World} {K : PySem.W.Frag} {mg : Str → Option Value} {base : Heap}
end
def dItO (cl : Cl) (f : Fd) (T : DE) : DA := fun Δ O P E => T Δ O (fun d O1 => match objOf O1 d with
  | some t => t.1 = cl ∧ (match getF f t.2.1 t.2.2 with | some (.lst ds) => P ds O1 | _ => False)
  | none => False) E
section
variable {g : Gm} {X : Cx} {W : WX} {a tg : Expr} {Ta : DE} {cl : Cl} {x : Fd} {k j : Nat}
end
section
variable {Δ : Sl} {O : Sto} {P : List D → Sto → Prop} {E : KX} {cl : Cl} {f : Fd} {T : DE}
theorem e_itO : dItO cl f T Δ O P E = T Δ O (fun d O1 => match objOf O1 d with
  | some t => t.1 = cl ∧ (match getF f t.2.1 t.2.2 with | some (.lst ds) => P ds O1 | _ => False)
  | none => False) E := propext Iff.rfl
end
end G

set_option Elab.async false
set_option linter.all false
set_option maxRecDepth 100000
set_option maxHeartbeats 4000000
namespace G
open PySem L2
/-! ## an owned dict is locked while an expression is read -/
section
variable {g : Gm} {F : Hp} {p : Addr} {od : Obj} {kvs : List (Key × V)}
end
section
variable {g : Gm} {X : Cx} {W : WX} {a : Expr} {T : DE}
end
section
variable {O : Sto} {P : KD} {E : KX} {T : DE}
end
end G

set_option Elab.async false
set_option linter.all false
set_option maxRecDepth 100000
set_option maxHeartbeats 4000000
namespace G
open PySem L2
/-! ## x is True, x is not True -/
def fIsB : B2 := fun x y O P => match x, y with | .bl a, .bl b => P (.bl (decide (a = b))) O | _, _ => False
def fNotB : B2 := fun x y O P => match x, y with | .bl a, .bl b => P (.bl (!decide (a = b))) O | _, _ => False
section
variable {O : Sto} {P : KD} {a b : Bool}
theorem f_isB : fIsB (.bl a) (.bl b) O P = P (.bl (decide (a = b))) O := propext Iff.rfl
theorem f_notB : fNotB (.bl a) (.bl b) O P = P (.bl (!decide (a = b))) O := propext Iff.rfl
end
end G
namespace G
open PySem L2 PySem.Spec
/-! ## sorted texts -/
open PyProof.Rows PySem.Spec in
def leS (a b : Str) : Bool := !ltCps b.cps.toList a.cps.toList
def srtS (xs : List Str) : List Str := xs.mergeSort leS
open PyProof.Rows PySem.Spec in
open PyProof.Rows PySem.Spec in
def fSortS : BC := fun ds O P => match ds with | [d] => (match lstOf O d with | some es => (match strsOf es with | some ns => ns.length < 64 ∧ P (.lst ((srtS ns).map D.str)) O | none => False) | none => False) | _ => False
section
variable {g : Gm}
theorem f_sortS {O : Sto} {P : KD} {ns : List Str} : fSortS [.lst (ns.map D.str)] O P = (ns.length < 64 ∧ P (.lst ((srtS ns).map D.str)) O) := by simp only [fSortS, lstOf, strsOf_map]
end
end G

set_option Elab.async false
set_option linter.all false
set_option maxRecDepth 100000
set_option maxHeartbeats 4000000
namespace G
open PySem L2
open Sem (wp)
/-! ## sleeping generators stay as they are: none of them can be gone on with -/
def slp : GenState → Bool
  | .suspended .. => true
  | _ => false
/-- the same to see, but it can't be gone on with -/
def pz : GenState → GenState
  | .suspended _ l c p fs cl => .suspended (fun _ => .unsupported "") l c p fs cl
  | x => x
theorem pz_bare (x : GenState) : (pz x).bare = x.bare := by cases x <;> rfl
/-- asleep at i, in G0 -/
def Asl (G0 : Array GenState) (i : Nat) : Prop := ∃ x, G0[i]? = some x ∧ slp x = true
structure RelP (G0 G1 G2 : Array GenState) : Prop where
  size : G1.size = G2.size
  «at» : ∀ (i : Nat) (x : GenState), G0[i]? = some x → slp x = true → G1[i]? = some (pz x) ∧ G2[i]? = some x
  ot : ∀ i : Nat, ¬ Asl G0 i → G1[i]? = G2[i]?
/-- what sleeps anew has no generator's frame -/
def NGs (G0 G1 : Array GenState) : Prop := ∀ (i : Nat) (k : Resume → Sem PySem.Fin) (l : List Value) (c : Code) (p : Pos) (fs : List Frame) (cl : Bool), ¬ Asl G0 i → G1[i]? = some (.suspended k l c p fs cl) → splitAtGen fs = none
theorem RelP.lt {G0 G1 G2 : Array GenState} (h : RelP G0 G1 G2) {i : Nat} (a : Asl G0 i) : i < G1.size := by
  obtain ⟨x, h1, h2⟩ := a
  exact (Array.getElem?_eq_some_iff.mp (h.at i x h1 h2).1).1
theorem RelP.set {G0 G1 G2 : Array GenState} (h : RelP G0 G1 G2) {g : Nat} (x : GenState) (n : ¬ Asl G0 g) : RelP G0 (G1.setIfInBounds g x) (G2.setIfInBounds g x) := by
  refine ⟨by simp only [Array.size_setIfInBounds]; exact h.size, fun i y h1 h2 => ?_, fun i hi => ?_⟩
  · have ne : g ≠ i := fun z => n (by rw [z]; exact ⟨y, h1, h2⟩)
    rw [Array.getElem?_setIfInBounds_ne ne, Array.getElem?_setIfInBounds_ne ne]
    exact h.at i y h1 h2
  · by_cases e : g = i
    · subst e
      rw [Array.getElem?_setIfInBounds_self, Array.getElem?_setIfInBounds_self, h.size]
    · rw [Array.getElem?_setIfInBounds_ne e, Array.getElem?_setIfInBounds_ne e]
      exact h.ot i hi
theorem NGs.set {G0 G1 : Array GenState} (h : NGs G0 G1) {g : Nat} {x : GenState} (hx : ∀ k l c p fs cl, x = .suspended k l c p fs cl → splitAtGen fs = none) : NGs G0 (G1.setIfInBounds g x) := by
  intro i k l c p fs cl hi e
  by_cases z : g = i
  · subst z
    rw [Array.getElem?_setIfInBounds_self] at e
    split at e
    · cases e; exact hx _ _ _ _ _ _ rfl
    · cases e
  · rw [Array.getElem?_setIfInBounds_ne z] at e
    exact h i k l c p fs cl hi e
theorem RelP.push {G0 G1 G2 : Array GenState} (h : RelP G0 G1 G2) (x : GenState) : RelP G0 (G1.push x) (G2.push x) := by
  refine ⟨by simp only [Array.size_push]; rw [h.size], fun i y h1 h2 => ?_, fun i hi => ?_⟩
  · have l1 := h.lt ⟨y, h1, h2⟩
    have l2 : i < G2.size := by rw [← h.size]; exact l1
    rw [Array.getElem?_push, Array.getElem?_push, if_neg (Nat.ne_of_lt l1), if_neg (Nat.ne_of_lt l2)]
    exact h.at i y h1 h2
  · rw [Array.getElem?_push, Array.getElem?_push, h.size, h.ot i hi]
theorem NGs.push {G0 G1 : Array GenState} (h : NGs G0 G1) (c : Code) : NGs G0 (G1.push (.fresh c)) := by
  intro i k l c p fs cl hi e
  rw [Array.getElem?_push] at e
  split at e
  · cases e
  · exact h i k l c p fs cl hi e
/-- no generator's frame lies in the end -/
def eNG : End → Prop
  | .ret _ => True
  | .susp _ _ _ _ _ _ fs => splitAtGen fs = none
theorem eNG.gen {e : End} (h : eNG e) : ∀ k l c p fs cl, e.genState = .suspended k l c p fs cl → splitAtGen fs = none := by
  intro k l c p fs cl q
  cases e with
  | ret r => cases q
  | susp v g l0 k0 c0 p0 fs0 =>
    cases q
    exact h
end G

set_option Elab.async false
set_option linter.all false
set_option maxRecDepth 100000
set_option maxHeartbeats 4000000
namespace G
open PySem L2 PyProof.Rows
open Sem (wp)
theorem RelP.bare {G0 G1 G2 : Array GenState} (r : RelP G0 G1 G2) (h : AllBare G1) : AllBare G2 := by
  intro x hx
  obtain ⟨i, hi, e⟩ := Array.mem_iff_getElem.mp hx
  have q : G2[i]? = some x := by rw [Array.getElem?_eq_getElem hi, e]
  by_cases a : Asl G0 i
  · obtain ⟨y, h1, h2⟩ := a
    obtain ⟨e1, e2⟩ := r.at i y h1 h2
    rw [q] at e2
    cases e2
    rw [← pz_bare]
    exact h _ (Array.mem_of_getElem? e1)
  · rw [← r.ot i a] at q
    exact h x (Array.mem_of_getElem? q)
end G

set_option Elab.async false
set_option linter.all false
set_option maxRecDepth 100000
set_option maxHeartbeats 4000000
namespace G
open PySem L2
open Sem (wp)
/-! ## the heap below an address -/
def cutH (L : Nat) (h : Heap) : Heap := { h with objs := h.objs.take L }
def cutS (L : Nat) (s : Shared) : Shared := { s with heap := cutH L s.heap }
/-! ## a def's context, begun anew at a later state -/
section
variable {P : Program} {w : World} {K : PySem.W.Frag} {mg : Str → Option Value} {base : Heap} {N : List Str} {qual : Str} {sc : Scope} {f : Addr} {cd : Value} {A A' : Around} {outer outer' : List Env} {s1 s s' : Shared} {H1 H H' : Hp} {E E' : XK} {σ : L2.St} {pins pins' : List (Addr × Obj)}
end
/-! ## a run of a generator's code to its next halt -/
def Rt (M : Model) (A : Around) (Φ : End → Shared → Prop) (c : Code) (t : Sem PySem.Fin) (fs : List Frame) (s : Shared) : Prop := ∀ (Γ : Ctx) (p : Pos), Γ.code = c → Γ.Woken A → ∃ (e : End) (z : Shared), Runs M Γ p t fs s e z ∧ Φ e z
section
variable {M : Model} {A : Around} {Φ : End → Shared → Prop} {c : Code} {fs : List Frame} {s : Shared}
/-- the run of a generator in that state, once it is woken -/
def Rg (M : Model) (A : Around) (gs : GenState) (s : Shared) (Φ : End → Shared → Prop) : Prop := match gs with
  | .fresh c => Rt M A Φ c (M.den c) [] s
  | .suspended k _ c _ fs _ => Rt M A Φ c (k (.send .none)) fs s
  | _ => False
end
section
variable {P : Program} {w : World} {A : Around} {E : Value → Shared → Prop} {s : Shared}
end
end G

set_option Elab.async false
set_option linter.all false
set_option maxRecDepth 100000
set_option maxHeartbeats 4000000
namespace G
open PySem L2
open Sem (wp)
/-! ## the statements of a generator -/
section
variable {M : Model} {A : Around} {Φ : End → Shared → Prop} {c : Code} {fs : List Frame} {s : Shared} {env : Env} {K : Flow → Sem PySem.Fin} {J : Value → Sem PySem.Fin} {gd : Bool → Bool} {lv : List Value → List Value}
end
end G

set_option Elab.async false
set_option linter.all false
set_option maxRecDepth 100000
set_option maxHeartbeats 4000000
namespace G
open PySem L2 PyProof.Rows
open Sem (wp)
/-! ## generators: a loop whose turns end with a yield -/
/-- it is woken here -/
structure Wk (g : Gm) (P : Program) (w : World) (K : PySem.W.Frag) (mg : Str → Option Value) (base : Heap) (A : Around) (outer : List Env) (z : Addr → Option Obj) (F : Hp) (s : Shared) (H F' : Hp) (O : Sto) : Prop where
  e0 : Env0 P w K mg base A outer s H
  sm : Same F F'
  wd : Wd g F' O H
  zz : ∀ b o, z b = some o → s.heap.get? b = some o ∧ H b = none
/-- what a run of it does to all else -/
structure Eff (g : Gm) (P : Program) (w : World) (outer : List Env) (L : Nat) (s : Shared) (H F : Hp) (O : Sto) (s1 : Shared) (H1 F1 : Hp) : Prop where
  os : s1.os = s.os
  bare : AllBare s1.gens
  sm : Same F F1
  wd : Wd g F1 O H1
  un : Un (frs outer) (List.range' L (s.heap.objs.size - L)) H H1 s.heap s1.heap
  hok : HOk P w H1 s1.heap
def PhiS (g : Gm) (P : Program) (w : World) (K : PySem.W.Frag) (mg : Str → Option Value) (base : Heap) (A : Around) (outer : List Env) (L : Nat) (pins : List (Addr × Obj)) : List D → Shared → Hp → Hp → Sto → End → Shared → Prop
  | [], s, H, F, O => fun e s1 => e = .ret (.ok (.ret .none)) ∧ ∃ H1 F1, Eff g P w outer L s H F O s1 H1 F1
  | d :: r, s, H, F, O => fun e s1 => ∃ (v : Value) (u : V) (z : Addr → Option Obj) (H1 F1 : Hp), e.result = .yielded v ∧ e.quiet = true ∧ slp e.genState = true ∧ RelV u v ∧ Rep g F1 d u ∧ Eff g P w outer L s H F O s1 H1 F1 ∧ (∀ b o, z b = some o → s1.heap.get? b = some o ∧ H1 b = none ∧ L ≤ b) ∧ (∀ q ∈ pins, z q.1 = some q.2) ∧
    ∀ s' H' F' O', Wk g P w K mg base A outer z F1 s' H' F' O' → Rg (model P w) A e.genState s' (PhiS g P w K mg base A outer L pins r s' H' F' O')
/-- the generator in this state hands out ys -/
abbrev Slp (g : Gm) (P : Program) (w : World) (K : PySem.W.Frag) (mg : Str → Option Value) (base : Heap) (A : Around) (outer : List Env) (L : Nat) (pins : List (Addr × Obj)) (ys : List D) (gs : GenState) (z : Addr → Option Obj) (F : Hp) : Prop :=
  ∀ s H F' O, Wk g P w K mg base A outer z F s H F' O → Rg (model P w) A gs s (PhiS g P w K mg base A outer L pins ys s H F' O)
section
variable {g : Gm} {P : Program} {w : World} {K : PySem.W.Frag} {mg : Str → Option Value} {base : Heap} {N : List Str} {qual : Str} {sc : Scope} {f : Addr} {cd : Value} {A : Around} {outer : List Env} {L : Nat}
end
end G

set_option Elab.async false
set_option linter.all false
set_option maxRecDepth 100000
set_option maxHeartbeats 4000000
namespace G
open PySem L2 PyProof.Rows
open Sem (wp)
section
variable {M : Model} {A : Around} {Φ : End → Shared → Prop} {c : Code} {fs : List Frame} {s : Shared} {env : Env} {K : Flow → Sem PySem.Fin} {J : Value → Sem PySem.Fin} {gd : Bool → Bool} {lv : List Value → List Value}
end
/-! ## a generator def -/
section
variable {g : Gm} {P : Program} {w : World} {K : PySem.W.Frag} {mg : Str → Option Value} {base : Heap} {N ps : List Str} {x qual : Str} {st : Stmt} {f : Addr} {fd : FuncData} {k : Nat}
end
end G

set_option Elab.async false
set_option linter.all false
set_option maxRecDepth 100000
set_option maxHeartbeats 4000000
namespace G
open PySem L2 PyProof.Rows
open Sem (wp)
/-! ## things that must stay as they are for a while -/
section
variable {z : Addr → Option Obj} {H F : Hp} {b : Addr} {o : Obj} {u : HO}
end
section
variable {g : Gm} {F : Hp} {z : Addr → Option Obj}
end
section
variable {X : Cx} {pins : List (Addr × Obj)} {σ : L2.St} {H : Hp} {s : Shared} {z : Addr → Option Obj}
end
end G

set_option Elab.async false
set_option linter.all false
set_option maxRecDepth 100000
set_option maxHeartbeats 4000000
namespace G
open PySem L2 PyProof.Rows
open Sem (wp)
/-! ## for x in g(..) -/
def dGen (SG : List D → List D → Prop) (R : DA) : DA := fun Δ O P E => R Δ O (fun ds O1 => ∃ ys, SG ds ys ∧ P ys O1) E
section
variable {g : Gm} {X : Cx} {W : WX} {k j : Nat} {pos p : Pos} {a : Expr} {es : List Expr} {R : DA} {SG : List D → List D → Prop} {x : Str}
end
/-- a loop over what a generator hands out: the body raises nothing and does not leave it by return -/
def dForG (R : DA) (G : DG) (B : DS) : DS := fun D Δ O => R Δ O (fun ys O1 => forD G B { nx := D.nx, rt := fun _ _ => False } ys Δ O1) (fun x O1 => D.xc x Δ O1)
section
variable {g : Gm} {P : Program} {w : World} {K : PySem.W.Frag} {mg : Str → Option Value} {base : Heap} {A : Around} {outer : List Env} {L : Nat} {pins : List (Addr × Obj)} {ys : List D} {gs : GenState} {z : Addr → Option Obj} {F F' : Hp}
theorem Slp.mono (h : Slp g P w K mg base A outer L pins ys gs z F) (e : Same F F') : Slp g P w K mg base A outer L pins ys gs z F' := fun s H F2 O wk => h s H F2 O ⟨wk.e0, e.trans wk.sm, wk.wd, wk.zz⟩
end
section
variable {g : Gm} {X : Cx} {W : WX} {k j : Nat} {pos : Pos} {tg iter : Expr} {body : List Stmt} {t : TG} {Gd : DG} {js : List Nat} {R : DA} {B : DS}
end
end G

set_option Elab.async false
set_option linter.all false
set_option maxRecDepth 100000
set_option maxHeartbeats 4000000
namespace G
open PySem L2 PyProof.Rows
open Sem (wp)
/-! ## list(g(..)) -/
def dLiG (R : DA) : DE := fun Δ O P E => R Δ O (fun ys O1 => ys.length ≤ sizeLine ∧ ∀ p, freshC O1 p → P (.ptr p) ((p, .lst ys) :: O1)) E
section
variable {g : Gm} {X : Cx} {k j : Nat}
end
end G

set_option Elab.async false
set_option linter.all false
set_option maxRecDepth 100000
set_option maxHeartbeats 4000000
namespace G
open PySem L2 PyProof.Rows
/-! ## the parts of a generator def -/
section
variable {g : Gm} {P : Program} {w : World} {K : PySem.W.Frag} {mg : Str → Option Value} {base : Heap} {N ps : List Str} {x qual : Str} {st : Stmt} {f : Addr} {fd : FuncData} {k : Nat} {t : TG} {Gd : DG} {js : List Nat} {Tp B : DS} {R : DA} {Te : DE} {SG : List D → List D → Prop}
end
section
variable {Δ : Sl} {O : Sto} {E : KX} {P : KD} {D0 : DEnds} {R : DA} {Gd : DG} {B : DS} {SG : List D → List D → Prop} {Q : List D → Sto → Prop}
theorem e_forG : dForG R Gd B D0 Δ O = R Δ O (fun ys O1 => forD Gd B { nx := D0.nx, rt := fun _ _ => False } ys Δ O1) (fun x O1 => D0.xc x Δ O1) := propext Iff.rfl
theorem e_gen : dGen SG R Δ O Q E = R Δ O (fun ds O1 => ∃ ys, SG ds ys ∧ Q ys O1) E := propext Iff.rfl
theorem e_liG : dLiG R Δ O P E = R Δ O (fun ys O1 => ys.length ≤ sizeLine ∧ ∀ p, freshC O1 p → P (.ptr p) ((p, .lst ys) :: O1)) E := propext Iff.rfl
end
end G

set_option Elab.async false
set_option linter.all false
set_option maxRecDepth 100000
set_option maxHeartbeats 4000000
namespace G
open PySem L2
/-! ## xs.pop(i) -/
section
variable {O : Sto} {K : D → List D → Prop} {l r : List D} {y : D} {i : Int}
end
/-! ## None in a list of whole numbers and None -/
def ionsOf : List D → Option (List (Option Int))
  | [] => some []
  | .int i :: r => (ionsOf r).map (some i :: ·)
  | .non :: r => (ionsOf r).map (none :: ·)
  | _ => none
def ionD : Option Int → D
  | some i => .int i
  | none => .non
theorem ionsOf_map (ns : List (Option Int)) : ionsOf (ns.map ionD) = some ns := by
  induction ns with
  | nil => rfl
  | cons n ns ih => cases n <;> (rw [List.map_cons]; simp only [ionD, ionsOf, ih]; rfl)
def fInNQ (neg : Bool) : B2 := fun x y O P => match x, seqOf O y with
  | .non, some es => (match ionsOf es with | some ns => P (.bl (inB2 neg (ns.any (·.isNone)))) O | none => False)
  | _, _ => False
theorem f_inNon {neg : Bool} {O : Sto} {P : KD} {ns : List (Option Int)} : fInNQ neg .non (.lst (ns.map ionD)) O P = P (.bl (inB2 neg (ns.any (·.isNone)))) O := by simp only [fInNQ, seqOf, lstOf, ionsOf_map]
end G

set_option Elab.async false
set_option linter.all false
set_option maxRecDepth 100000
set_option maxHeartbeats 4000000
namespace G
open PySem L2
/-! ## y = [.. for .. in .. for .. in ..] on one line -/
section
variable {g : Gm} {X : Cx} {W W0 : WX} {pos pos' : Pos} {a tg tg1 : Expr} {Ta : DE} {R R1 : DA}
end
end G

set_option Elab.async false
set_option linter.all false
set_option maxRecDepth 100000
set_option maxHeartbeats 4000000
namespace G
open PySem L2
/-! ## C.m(*xs), m a classmethod -/
section
variable {g : Gm} {X : Cx} {W : WX} {k j : Nat} {x m : Str} {e : Expr} {S : DSp} {Ta : DE} {p p2 pos apos : Pos}
end
end G

set_option Elab.async false
set_option linter.all false
set_option maxRecDepth 100000
set_option maxHeartbeats 4000000
namespace G
open PySem L2
/-! ## a list times a whole number -/
def fRep : B2 := fun x y O P => match lstOf O x, y with
  | some ds, .int k => -(2 ^ 63) ≤ k ∧ k < 2 ^ 63 ∧ ds.length * k.toNat ≤ sizeLine ∧ P (.lst (List.replicate k.toNat ds).flatten) O
  | _, _ => False
section
variable {g : Gm}
end
theorem f_rep {O : Sto} {P : KD} {ds : List D} {k : Int} : fRep (.lst ds) (.int k) O P = (-(2 ^ 63) ≤ k ∧ k < 2 ^ 63 ∧ ds.length * k.toNat ≤ sizeLine ∧ P (.lst (List.replicate k.toNat ds).flatten) O) := propext Iff.rfl
/-- a whole number or None, and lists and pairs of such -/
instance : Em (Option Int) := ⟨ionD, fun a => by cases a <;> rfl, fun a => by cases a <;> rfl⟩
end G

set_option Elab.async false
set_option linter.all false
set_option maxRecDepth 100000
set_option maxHeartbeats 4000000
namespace G
open PySem L2
/-! ## while: so many turns at most -/
section
variable {g : Gm} {X : Cx} {W : WX} {c : Expr} {body : List Stmt} {Tt : DT} {B : DS} {pos : Pos}
end
end G

set_option Elab.async false
set_option linter.all false
set_option maxRecDepth 100000
set_option maxHeartbeats 4000000
namespace G
open PySem L2
/-! ## the end of a law over a head that tells its facts -/
theorem walkE {l : PySem.W.OpenLaw} {q : Program} {loose : List Str} {XP : (Str → Option Value) → Heap → Prop} {YP : World → Heap → Prop} {d : DefRec} {x : Str} (k : Nat) (hk : k ≤ 40) (hn : l.most = some 63) (hdf : d.params.defaults = [])
    (F : ∀ (w : World) (mg : Str → Option Value) (fa : Addr) (h : Heap), YP w h → h.Ns mainGlobals mg → mg d.name = some (.ref fa) →
      ∃ (K : PySem.W.Frag) (fd : FuncData), K.In h ∧ (∀ (s : Shared) (u : Value), BindsTo s fd ⟨[u], []⟩ [(x, u)]) ∧ ∀ base : Heap, K.In base → base.Ns mainGlobals mg → FnOk l.prog w K mg base (L2.CX l.prog w) k fa fd [x] (spLaw K)) :
    PySem.W.WalkO q loose XP YP l.row.toRowW d [] (fun f vs => PySem.call f vs) := by
  refine _root_.Att.attach_call hn hdf fun w s₀ s₁ mg mb fa o pm cd doc a vs ns G Y ho hd hcd hmg hobj hints hlen hg => ?_
  obtain ⟨K, fd, KX, hb, hF⟩ := F w mg fa _ Y G.T.g hmg
  exact law_call KX G.T.g G.T.b G.T.builtins G.T.nolimit hg hobj hints (Nat.le_trans hlen (by decide)) (Room.mono (k := 40) ⟨rfl, by decide, by decide⟩ hk) hF hb (fun H hO hS => ⟨a, ns, rfl, hS, hlen, fun _ => rfl⟩) fun H e s' z => by
    obtain ⟨_, _, _, _, _, _, _, _, _, _, _, _, z⟩ := z
    exact z
end G

set_option Elab.async false
set_option linter.all false
set_option maxRecDepth 100000
set_option maxHeartbeats 4000000
namespace G
open PySem L2
/-! ## keyword-only parameters with defaults -/
inductive Fl where
  | at (i : Nat) | int (i : Int) | str (x : Str) | bl (b : Bool) | non
def Fl.d : Fl → D
  | .at _ => .non | .int i => .int i | .str x => .str x | .bl b => .bl b | .non => .non
def Fl.v : Fl → V
  | .at _ => .non | .int i => .int i | .str x => .str x | .bl b => .bl b | .non => .non
def fillD : List Fl → List D → List D
  | [], _ => []
  | .at i :: r, es => (match es[i]? with | some e => e :: fillD r es | none => fillD r es)
  | f :: r, es => f.d :: fillD r es
def fillV : List Fl → List V → List V
  | [], _ => []
  | .at i :: r, es => (match es[i]? with | some e => e :: fillV r es | none => fillV r es)
  | f :: r, es => f.v :: fillV r es
def FNM (g : Gm) (P : Program) (w : World) (K : PySem.W.Frag) (mg : Str → Option Value) (base : Heap) (k : Nat) (f : Addr) (n : Nat) (ks : List Str) (fl : List Fl) (S : DSp) : Prop :=
  ∀ (A : Around) (outer : List Env) (s : Shared) (H : Hp) (us ws : List Value) (vs zs : List V) (Q : VK) (E : XK), Room k A → Env0 P w K mg base A outer s H → Vals vs us → Vals zs ws → vs.length = n → zs.length = ks.length → toSp g S (vs ++ fillV fl zs) H Q E →
    codeAny (model P w) A (.call (.ref f) ⟨us, ks.zip ws⟩) (CR (L2.CX P w) outer P w H s Q E) s
theorem FNM.mono {g : Gm} {P : Program} {w : World} {K : PySem.W.Frag} {mg : Str → Option Value} {base : Heap} {j k : Nat} {f : Addr} {n : Nat} {ks : List Str} {fl : List Fl} {S : DSp} (h : FNM g P w K mg base j f n ks fl S) (hj : j ≤ k) : FNM g P w K mg base k f n ks fl S :=
  fun A outer s H us ws vs zs Q E hr => h A outer s H us ws vs zs Q E (hr.mono hj)
section
variable {g : Gm} {P : Program} {w : World} {K : PySem.W.Frag} {mg : Str → Option Value} {base : Heap} {x qual : Str} {st : Stmt} {f : Addr} {N ps ks : List Str} {k n : Nat} {S : DSp} {T : DS} {oc dV doc pm cdv ct : Value} {od an : Option Addr} {osl : Array (Option Value)}
end
def dCallM (n m : Nat) (fl : List Fl) (S : DSp) (R Rk : DA) : DE := fun Δ O P E => R Δ O (fun ds O1 => Rk Δ O1 (fun es O2 => ds.length = n ∧ es.length = m ∧ S (ds ++ fillD fl es) O2 P E) E) E
def dMakeM (cl : Cl) (n m : Nat) (fl : List Fl) (S : DSp) (R Rk : DA) : DE := fun Δ O P E => R Δ O (fun ds O1 => Rk Δ O1 (fun es O2 => ds.length = n ∧ es.length = m ∧ mkK cl S (ds ++ fillD fl es) O2 P E) E) E
section
variable {g : Gm} {X : Cx} {W : WX} {pos p : Pos} {a : Expr} {es : List Expr} {R Rk : DA} {k j n : Nat} {f : Addr} {S : DSp} {x : Str} {kws : List Keyword} {ks : List Str} {fl : List Fl}
end
section
variable {Δ : Sl} {O : Sto} {P : KD} {E : KX} {R Rk : DA} {n m : Nat} {fl : List Fl} {S : DSp} {cl : Cl}
theorem e_callM : dCallM n m fl S R Rk Δ O P E = R Δ O (fun ds O1 => Rk Δ O1 (fun es O2 => ds.length = n ∧ es.length = m ∧ S (ds ++ fillD fl es) O2 P E) E) E := propext Iff.rfl
theorem e_makeM : dMakeM cl n m fl S R Rk Δ O P E = R Δ O (fun ds O1 => Rk Δ O1 (fun es O2 => ds.length = n ∧ es.length = m ∧ mkK cl S (ds ++ fillD fl es) O2 P E) E) E := propext Iff.rfl
end
end G

set_option Elab.async false
set_option linter.all false
set_option maxRecDepth 100000
set_option maxHeartbeats 4000000
namespace G
open PySem L2
section
variable {g : Gm} {X : Cx} {W : WX} {p : Pos} {x : Str}
end
section
variable {es : List D} {a b c e : D} {r : List Fl}
theorem fl_nil : fillD [] es = [] := by simp only [fillD]
theorem fl_int {i : Int} : fillD (.int i :: r) es = .int i :: fillD r es := by simp only [fillD, Fl.d]
theorem fl_str {i : Str} : fillD (.str i :: r) es = .str i :: fillD r es := by simp only [fillD, Fl.d]
theorem fl_bl {i : Bool} : fillD (.bl i :: r) es = .bl i :: fillD r es := by simp only [fillD, Fl.d]
theorem fl_non : fillD (.non :: r) es = .non :: fillD r es := by simp only [fillD, Fl.d]
theorem fl_a0 : fillD (.at 0 :: r) (a :: es) = a :: fillD r (a :: es) := by simp [fillD]
theorem fl_a1 : fillD (.at 1 :: r) (a :: b :: es) = b :: fillD r (a :: b :: es) := by simp [fillD]
theorem fl_a2 : fillD (.at 2 :: r) (a :: b :: c :: es) = c :: fillD r (a :: b :: c :: es) := by simp [fillD]
end
end G

set_option Elab.async false
set_option linter.all false
set_option maxRecDepth 100000
set_option maxHeartbeats 4000000
namespace G
open PySem L2
/-! ## f'{x:>8}': texts and small numbers to the right -/
/-- as wide as n, filled by blanks -/
def rjS (n : Nat) (y : Str) : Str := if n ≤ y.length then y else ⟨Array.replicate (n - y.length) 32 ++ y.cps⟩
section
variable {prog : Program} {w : World} {A : Around} {E : Value → Shared → Prop} {s : Shared}
end
/-- {x:>8} of a text -/
def dFmt8 (T : DE) : DE := fun Δ O P E => T Δ O (fun d O1 => match d with | .str y => y.length ≤ 1000 ∧ P (.str (rjS 8 y)) O1 | _ => False) E
/-- {n:>2} of a small number -/
def dFmt2 (T : DE) : DE := fun Δ O P E => T Δ O (fun d O1 => match d with | .int i => (0 ≤ i ∧ i < 16) ∧ P (.str (rjS 2 (Str.ofString (toString i)))) O1 | _ => False) E
section
variable {g : Gm} {X : Cx} {W : WX} {e : Expr} {T : DE} {pos p1 p2 : Pos} {j : Nat}
theorem e_fmt8 {Δ : Sl} {O : Sto} {P : KD} {E : KX} : dFmt8 T Δ O P E = T Δ O (fun d O1 => match d with | .str y => y.length ≤ 1000 ∧ P (.str (rjS 8 y)) O1 | _ => False) E := propext Iff.rfl
theorem e_fmt2 {Δ : Sl} {O : Sto} {P : KD} {E : KX} : dFmt2 T Δ O P E = T Δ O (fun d O1 => match d with | .int i => (0 ≤ i ∧ i < 16) ∧ P (.str (rjS 2 (Str.ofString (toString i)))) O1 | _ => False) E := propext Iff.rfl
end
/-! ## x.rjust(n) -/
/-! ## text * n -/
def repS (n : Int) (i : Str) : Str := if n < 1 then Str.empty else if (n == 1 || i.length == 0) = true then i else ⟨(List.replicate n.toNat i.cps).foldl (· ++ ·) #[]⟩
def fMulS : B2 := fun x y O P => match x, y with
  | .str i, .int n => (-(2 ^ 62) ≤ n ∧ n ≤ 1000 ∧ i.length ≤ 1000) ∧ P (.str (repS n i)) O
  | _, _ => False
theorem f_mulS {i : Str} {n : Int} {O : Sto} {P : KD} : fMulS (.str i) (.int n) O P = ((-(2 ^ 62) ≤ n ∧ n ≤ 1000 ∧ i.length ≤ 1000) ∧ P (.str (repS n i)) O) := propext Iff.rfl
end G

set_option Elab.async false
set_option linter.all false
set_option maxRecDepth 100000
set_option maxHeartbeats 4000000
open PySem L2
namespace G
/-! ## x.rjust(n) -/
def dRjust (Ta Tb : DE) : DE := fun Δ O P E => Ta Δ O (fun x O1 => match x with
  | .str a => Tb Δ O1 (fun y O2 => match y with
    | .int n => (0 ≤ n ∧ n ≤ 1000) ∧ P (.str (rjS n.toNat a)) O2
    | _ => False) E
  | _ => False) E
section
variable {g : Gm} {X : Cx} {W : WX} {o : Expr} {Ta Tb : DE}
theorem e_rjust {Δ : Sl} {O : Sto} {P : KD} {E : KX} : dRjust Ta Tb Δ O P E = Ta Δ O (fun x O1 => match x with
  | .str a => Tb Δ O1 (fun y O2 => match y with
    | .int n => (0 ≤ n ∧ n ≤ 1000) ∧ P (.str (rjS n.toNat a)) O2
    | _ => False) E
  | _ => False) E := propext Iff.rfl
end
end G

set_option Elab.async false
set_option linter.all false
set_option maxRecDepth 100000
set_option maxHeartbeats 4000000
namespace G
open PySem L2
/-! ## list(range(n)) -/
def dLsR (T : DE) : DE := fun Δ O P E => T Δ O (fun d O1 => match d with | .int j => (0 ≤ j ∧ j ≤ 1000000) ∧ P (.lst ((List.range j.toNat).map fun i : Nat => D.int (i : Int))) O1 | _ => False) E
section
variable {g : Gm} {X : Cx} {W : WX} {a : Expr} {T : DE} {p p2 pos pos2 : Pos}
theorem e_lsR {Δ : Sl} {O : Sto} {P : KD} {E : KX} : dLsR T Δ O P E = T Δ O (fun d O1 => match d with | .int j => (0 ≤ j ∧ j ≤ 1000000) ∧ P (.lst ((List.range j.toNat).map fun i : Nat => D.int (i : Int))) O1 | _ => False) E := propext Iff.rfl
end
/-! ## dict(a list of pairs (text, x)), the texts all different -/
def kvsOf : List D → Option (List (Str × D))
  | [] => some []
  | .tup [.str k, x] :: r => (kvsOf r).map ((k, x) :: ·)
  | _ => none
def fDictP : BC := fun ds O P => match ds with
  | [d] => (match lstOf O d with
    | some es => (match kvsOf es with | some kvs => (kvs.map (·.1)).Nodup ∧ ∀ p, freshC O p → P (.ptr p) ((p, .dic (kvs.map fun kv => .inr kv.1) (kvs.map (·.2))) :: O) | none => False)
    | none => False)
  | _ => False
section
variable {g : Gm}
theorem f_dictP {d : D} {O : Sto} {P : KD} : fDictP [d] O P = (match lstOf O d with
    | some es => (match kvsOf es with | some kvs => (kvs.map (·.1)).Nodup ∧ ∀ p, freshC O p → P (.ptr p) ((p, .dic (kvs.map fun kv => .inr kv.1) (kvs.map (·.2))) :: O) | none => False)
    | none => False) := propext Iff.rfl
end
/-! ## an owned slice -/
def dSliceO (T : DE) (L U : DO) : DE := fun Δ O P E => T Δ O (fun d O1 => L Δ O1 (fun l O2 => U Δ O2 (fun u O3 => match lstOf O3 d with | some ds => ∀ p, freshC O3 p → P (.ptr p) ((p, .lst (cutD ds l u)) :: O3) | none => False) E) E) E
section
variable {g : Gm} {X : Cx} {W : WX} {a : Expr} {Ta : DE} {p p2 pos pos2 : Pos}
theorem e_sliceO {L U : DO} {Δ : Sl} {O : Sto} {P : KD} {E : KX} : dSliceO Ta L U Δ O P E = Ta Δ O (fun d O1 => L Δ O1 (fun l O2 => U Δ O2 (fun u O3 => match lstOf O3 d with | some ds => ∀ p, freshC O3 p → P (.ptr p) ((p, .lst (cutD ds l u)) :: O3) | none => False) E) E) E := propext Iff.rfl
end
end G

set_option Elab.async false
set_option linter.all false
set_option maxRecDepth 100000
set_option maxHeartbeats 4000000
namespace G
open PySem L2 PySem.Spec PyProof.Rows
/-! ## sorted(a list of pairs (number, text)) -/
abbrev NT := Int × Str
def lexN (a b : NT) : Bool := if a.1 = b.1 then decide (a.2.cps.toList < b.2.cps.toList) else decide (a.1 < b.1)
def IsNT (h : Heap) (v : Value) (q : NT) : Prop := ∃ (a : Addr) (o : Obj) (t u : Tok) (n : Nat), v = .ref a ∧ h.get? a = some o ∧ o.cls = .type "tuple" ∧ o.data = .seq #[.int q.1 t, .str q.2 u] n
theorem IsNT.keeps {h h' : Heap} {v : Value} {q : NT} (x : IsNT h v q) (e : ∀ b o, h.get? b = some o → o.cls = .type "tuple" → h'.get? b = some o) : IsNT h' v q := by
  obtain ⟨a, o, t, u, n, h1, h2, h3, h4⟩ := x
  exact ⟨a, o, t, u, n, h1, e _ _ h2 h3, h3, h4⟩
section
variable {prog : Program} {w : World} {A : Around} {E : Value → Shared → Prop} {s : Shared}
end
section
variable {X : Cx}
end
/-! ### over plain data -/
def ntD (q : NT) : D := .tup [.int q.1, .str q.2]
def ntsOf : List D → Option (List NT)
  | [] => some []
  | .tup [.int i, .str y] :: r => (ntsOf r).map ((i, y) :: ·)
  | _ => none
theorem ntsOf_map : ∀ ns : List NT, ntsOf (ns.map ntD) = some ns
  | [] => rfl
  | q :: r => by
    rw [List.map_cons]
    show (ntsOf (r.map ntD)).map ((q.1, q.2) :: ·) = _
    rw [ntsOf_map r]
    rfl
def leN (a b : NT) : Bool := !lexN b a
def srtN (ns : List NT) : List NT := ns.mergeSort leN
def fSortN : BC := fun ds O P => match ds with | [d] => (match lstOf O d with | some es => (match ntsOf es with | some ns => (∀ q ∈ ns, PyData.strOk q.2 = true) ∧ P (.lst ((srtN ns).map ntD)) O | none => False) | none => False) | _ => False
section
variable {g : Gm}
theorem f_sortN {O : Sto} {P : KD} {ns : List NT} : fSortN [.lst (ns.map ntD)] O P = ((∀ q ∈ ns, PyData.strOk q.2 = true) ∧ P (.lst ((srtN ns).map ntD)) O) := by simp only [fSortN, lstOf, ntsOf_map]
end
end G

set_option Elab.async false
set_option linter.all false
set_option maxRecDepth 100000
set_option maxHeartbeats 4000000
namespace G
open PySem PySem.Spec L2
open PyProof.Rows hiding St
/-! ## {k: v for x in xs}: an owned dict -/
def dcD (Gd : DG) (Tt : DT) (Tk Tv : DE) (p : Addr) (P : List Key → List D → Sto → Prop) : List D → List Key → List D → Sl → Sto → Prop
  | [], ks, es, _, O => P ks es O
  | x :: r, ks, es, Δ, O => Gd x Δ fun Δ' => Tt Δ' ((p, .dic ks es) :: O) (fun b O1 => if b = true
      then Tk Δ' O1 (fun y O2 => Tv Δ' O2 (fun z O3 => ∃ O4, O3 = (p, .dic ks es) :: O4 ∧ match keyD y with
        | some k => ks.Nodup ∧ dcD Gd Tt Tk Tv p P r (putKs k ks) (putKd k z ks es) Δ O4
        | none => False) (fun _ _ => False)) (fun _ _ => False)
      else ∃ O3, O1 = (p, .dic ks es) :: O3 ∧ dcD Gd Tt Tk Tv p P r ks es Δ O3) (fun _ _ => False)
def dDcO (R : DA) (Gd : DG) (Tt : DT) (Tk Tv : DE) (vs : List Nat) : DE := fun Δ O P E => R Δ O (fun ds O1 => ds.length ≤ 1000000 ∧ ∀ p, freshC O1 p → dcD Gd Tt Tk Tv p (fun ks es O2 => P (.ptr p) ((p, .dic ks es) :: O2)) ds [] [] (wipeD Δ vs) O1) E
theorem e_dcO {R : DA} {Gd : DG} {Tt : DT} {Tk Tv : DE} {vs : List Nat} {Δ : Sl} {O : Sto} {P : KD} {E : KX} : dDcO R Gd Tt Tk Tv vs Δ O P E = R Δ O (fun ds O1 => ds.length ≤ 1000000 ∧ ∀ p, freshC O1 p → dcD Gd Tt Tk Tv p (fun ks es O2 => P (.ptr p) ((p, .dic ks es) :: O2)) ds [] [] (wipeD Δ vs) O1) E := propext Iff.rfl
section
variable {g : Gm} {X : Cx} {W : WX} {pos pos' : Pos} {tg : Expr} {R : DA}
end
/-! ## xs.index(text) -/
def dIdx (Ta : DE) (R : DA) : DE := fun Δ O P E => Ta Δ O (fun o O1 => match lstOf O1 o with
  | some _ => R Δ O1 (fun as O2 => match lstOf O2 o, as with
    | some ds, [.str z] => (match strsOf ds with | some ns => z ∈ ns ∧ P (.int (ns.idxOf z : Int)) O2 | none => False)
    | _, _ => False) E
  | none => False) E
theorem e_idx {Ta : DE} {R : DA} {Δ : Sl} {O : Sto} {P : KD} {E : KX} : dIdx Ta R Δ O P E = Ta Δ O (fun o O1 => match lstOf O1 o with
  | some _ => R Δ O1 (fun as O2 => match lstOf O2 o, as with
    | some ds, [.str z] => (match strsOf ds with | some ns => z ∈ ns ∧ P (.int (ns.idxOf z : Int)) O2 | none => False)
    | _, _ => False) E
  | none => False) E := propext Iff.rfl
section
variable {g : Gm} {X : Cx} {W : WX} {c : Expr} {Ta : DE} {R : DA}
end

theorem e_gt4 {i j k l : Nat} {a b c d : D} {Δ : Sl} {Q : Sl → Prop} : dgT [i, j, k, l] (.tup [a, b, c, d]) Δ Q = Q ((((Δ.set i (some a)).set j (some b)).set k (some c)).set l (some d)) := propext Iff.rfl
end G

set_option Elab.async false
set_option linter.all false
set_option maxRecDepth 100000
set_option maxHeartbeats 4000000
namespace G
open PySem L2
/-! ## an exception that keeps a copy of a list -/
section
variable {K : PySem.W.Frag} {C : Addr} {f1 : Str} {vs : List V} {H : Hp} {Q : VK} {E : XK} {N : List Str} {txt : Str}
end
def dRaiseL (ec : Ec) (f1 : Fd) (R : DA) : DS := fun D Δ O => R Δ O (fun ds O1 => match ds with | [.lst es] => D.xc ⟨ec, [f1], [.lst es]⟩ Δ O1 | _ => False) (fun x O1 => D.xc x Δ O1)
theorem e_raiseL {ec : Ec} {f1 : Fd} {R : DA} {D : DEnds} {Δ : Sl} {O : Sto} : dRaiseL ec f1 R D Δ O = R Δ O (fun ds O1 => match ds with | [.lst es] => D.xc ⟨ec, [f1], [.lst es]⟩ Δ O1 | _ => False) (fun x O1 => D.xc x Δ O1) := propext Iff.rfl
section
variable {g : Gm} {X : Cx} {W : WX} {pos pos' p p2 : Pos} {a b c e : Expr} {es : List Expr} {R : DA} {Ta Tb : DE} {k j : Nat} {x : Str}
end
end G

set_option Elab.async false
set_option linter.all false
set_option maxRecDepth 100000
set_option maxHeartbeats 4000000
namespace G
open PySem L2
/-! ## a new object that will change -/
section
variable {g : Gm} {X : Cx} {W : WX} {pos pos' p p2 : Pos} {a b c e : Expr} {es : List Expr} {R : DA} {Ta Tb : DE} {k j : Nat} {x m : Str} {f : Addr} {S : DSp}
theorem e_makeO {cl : Cl} {Δ : Sl} {O : Sto} {P : KD} {E : KX} : dMakeO cl S R Δ O P E = R Δ O (fun ds O1 => ∀ q, freshC O1 q → S (.ptr q :: ds) ((q, .ins cl [] []) :: O1)
  (fun r O2 => r = .non ∧ P (.ptr q) O2) (fun x O2 => E x (delC O2 q))) E := propext Iff.rfl
/-! ## o.m = e, m a property with a setter -/
def dSetP (tab : List (Cl × DSp)) (To Tv : DE) : DS := fun D Δ O => Tv Δ O (fun d O1 => To Δ O1 (fun o O2 => match clsOf O2 o with
  | some c => (match tabAt tab c with | some S => S [o, d] O2 (fun _ O3 => D.nx Δ O3) (fun x O3 => D.xc x Δ O3) | none => False)
  | none => False) (fun x O1 => D.xc x Δ O1)) (fun x O1 => D.xc x Δ O1)
theorem e_setP {tab : List (Cl × DSp)} {D : DEnds} {Δ : Sl} {O : Sto} : dSetP tab Ta Tb D Δ O = Tb Δ O (fun d O1 => Ta Δ O1 (fun o O2 => match clsOf O2 o with
  | some c => (match tabAt tab c with | some S => S [o, d] O2 (fun _ O3 => D.nx Δ O3) (fun x O3 => D.xc x Δ O3) | none => False)
  | none => False) (fun x O1 => D.xc x Δ O1)) (fun x O1 => D.xc x Δ O1) := propext Iff.rfl
section
variable {P : Program} {w : World} {K : PySem.W.Frag} {mg : Str → Option Value} {base : Heap}
end
end
end G

set_option Elab.async false
set_option linter.all false
set_option maxRecDepth 100000
set_option maxHeartbeats 4000000
namespace G
open PySem L2
/-! ## a new object that will change, keyword-only parameters -/
def dMakeMO (cl : Cl) (n m : Nat) (fl : List Fl) (S : DSp) (R Rk : DA) : DE := fun Δ O P E => R Δ O (fun ds O1 => Rk Δ O1 (fun es O2 => ds.length = n ∧ es.length = m ∧ ∀ q, freshC O2 q → S (.ptr q :: (ds ++ fillD fl es)) ((q, .ins cl [] []) :: O2)
  (fun r O3 => r = .non ∧ P (.ptr q) O3) (fun x O3 => E x (delC O3 q))) E) E
section
variable {g : Gm} {X : Cx} {W : WX} {pos p : Pos} {a : Expr} {es : List Expr} {R Rk : DA} {k j n : Nat} {f : Addr} {S : DSp} {x : Str} {kws : List Keyword} {ks : List Str} {fl : List Fl}
theorem e_makeMO {Δ : Sl} {O : Sto} {P : KD} {E : KX} {m : Nat} {cl : Cl} : dMakeMO cl n m fl S R Rk Δ O P E = R Δ O (fun ds O1 => Rk Δ O1 (fun es O2 => ds.length = n ∧ es.length = m ∧ ∀ q, freshC O2 q → S (.ptr q :: (ds ++ fillD fl es)) ((q, .ins cl [] []) :: O2)
  (fun r O3 => r = .non ∧ P (.ptr q) O3) (fun x O3 => E x (delC O3 q))) E) E := propext Iff.rfl
end
/-! ## self.a, self.b = e -/
def putsFs : List Fd → List Fd → List Fd
  | [], fs => fs
  | f :: r, fs => putsFs r (putFs f fs)
def putsDs : List Fd → List D → List Fd → List D → List D
  | f :: r, d :: ds, fs, es => putsDs r ds (putFs f fs) (putDs f d fs es)
  | _, _, _, es => es
def dSetT (cs : List Cl) (i : Nat) (fl : List Fd) (Ta : DE) : DS := fun D Δ O => Ta Δ O (fun d O1 => match d, Δ[i]? with
  | .tup ds, some (some (.ptr p)) => (match getC O1 p with
    | some (.ins c fs es) => c ∈ cs ∧ fs.length + fl.length < 900 ∧ ds.length = fl.length ∧ D.nx Δ (setC O1 p (.ins c (putsFs fl fs) (putsDs fl ds fs es)))
    | _ => False)
  | _, _ => False) (fun x O1 => D.xc x Δ O1)
section
variable {g : Gm} {X : Cx} {W : WX} {pos pos' p : Pos} {a o : Expr} {es : List Expr} {Ta : DE} {x : Str} {i : Nat}
theorem e_setT {cs : List Cl} {fl : List Fd} {En : DEnds} {Δ : Sl} {O : Sto} : dSetT cs i fl Ta En Δ O = Ta Δ O (fun d O1 => match d, Δ[i]? with
  | .tup ds, some (some (.ptr p)) => (match getC O1 p with
    | some (.ins c fs es) => c ∈ cs ∧ fs.length + fl.length < 900 ∧ ds.length = fl.length ∧ En.nx Δ (setC O1 p (.ins c (putsFs fl fs) (putsDs fl ds fs es)))
    | _ => False)
  | _, _ => False) (fun x O1 => En.xc x Δ O1) := propext Iff.rfl
/-! ## d.clear() -/
def dClr (To : DE) : DE := fun Δ O P E => To Δ O (fun o O1 => match o with
  | .ptr q => (match getC O1 q with | some (.dic _ _) => P .non (setC O1 q (.dic [] [])) | _ => False)
  | _ => False) E
theorem e_clr {Δ : Sl} {O : Sto} {P : KD} {E : KX} : dClr Ta Δ O P E = Ta Δ O (fun o O1 => match o with
  | .ptr q => (match getC O1 q with | some (.dic _ _) => P .non (setC O1 q (.dic [] [])) | _ => False)
  | _ => False) E := propext Iff.rfl
end
end G

set_option Elab.async false
set_option linter.all false
set_option maxRecDepth 100000
set_option maxHeartbeats 4000000
namespace G
open PySem L2
/-! ## [.. for k in d], d an owned dict: it is locked the while, and nothing else of the store is looked at -/
section
variable {g : Gm}
open Classical in
open Classical in
end
section
variable {g : Gm} {X : Cx} {W : WX} {pos p0 : Pos} {tg : Expr} {x : Str}
end
end G

set_option Elab.async false
set_option linter.all false
set_option maxRecDepth 100000
set_option maxHeartbeats 4000000
namespace G
open PySem L2
/-! ## range(i, j, -1) -/
section
variable {g : Gm} {X : Cx} {W : WX} {a b c tg : Expr} {R : DA}
def rangeN (lo : Int) (n : Nat) : List D := (List.range n).map fun (i : Nat) => .int (lo - (i : Int))
def dRng3 (R : DA) : DA := fun Δ O P E => R Δ O (fun ds O1 => match ds with | [.int i, .int j, .int c] => (-(2 ^ 62) ≤ i ∧ i < 2 ^ 62 ∧ -(2 ^ 62) ≤ j ∧ j < 2 ^ 62 ∧ c = -1) ∧ P (rangeN i (i - j).toNat) O1 | _ => False) E
theorem e_rng3 {Δ : Sl} {O : Sto} {PA : List D → Sto → Prop} {E : KX} : dRng3 R Δ O PA E = R Δ O (fun ds O1 => match ds with | [.int i, .int j, .int c] => (-(2 ^ 62) ≤ i ∧ i < 2 ^ 62 ∧ -(2 ^ 62) ≤ j ∧ j < 2 ^ 62 ∧ c = -1) ∧ PA (rangeN i (i - j).toNat) O1 | _ => False) E := propext Iff.rfl
end
end G

set_option Elab.async false
set_option linter.all false
set_option maxRecDepth 100000
set_option maxHeartbeats 4000000
namespace G
open PySem L2
/-! ## several except clauses without a name -/
inductive HdNN (X : Cx) : List ExceptHandler → HTs → Prop
  | nil : HdNN X [] []
  | cons {y : Str} {v : Value} {tz : Addr → Value → Option Addr → TS} {t0 : Stmt} {su : List Stmt} {p1 p2 : Pos} {hl : List ExceptHandler} {l : HTs} (nm : Names X y v)
      (hu : ∀ (b : Addr) (ob : Obj) (cl : Value) (d : Option Addr) (ps : List (Addr × Obj)), Zc cl d ob → (∃ vs, ob.data = .fields vs) → PSs (X.suite b ((b, ob) :: ps)) (t0 :: su) (tz b cl d)) (r : HdNN X hl l) :
      HdNN X (.ExceptHandler (some (.Name y p1)) none (t0 :: su) p2 :: hl) ((v, tz) :: l)
section
variable {X : Cx} {body : List Stmt} {h0 : ExceptHandler} {hl : List ExceptHandler} {l : HTs} {pos : Pos} {tb : WX → TS} {Wo : WX}
end
/-- the clauses, over plain data -/
def xcMN (D : DEnds) : HDs → Exn → Sl → Sto → Prop
  | [] => D.xc
  | p :: r => fun x Δ1 O1 => match p.1 x.c with
    | some true => ∀ a d, freshC O1 a → p.2 a x.c d { nx := D.nx, rt := D.rt, bk := D.bk, ct := D.ct } Δ1 O1
    | some false => xcMN D r x Δ1 O1
    | none => False
def dTryMN (Tb : DS) (hs : HDs) : DS := fun D Δ O => Tb { D with xc := xcMN D hs } Δ O
section
variable {g : Gm} {X : Cx} {W : WX} {pos pos' p : Pos} {body : List Stmt}
inductive QHsN (g : Gm) (X : Cx) : List ExceptHandler → HDs → List Value → Prop
  | nil : QHsN g X [] [] []
  | cons {y : Str} {v : Value} {cat : Ec → Option Bool} {Th : DH} {t0 : Stmt} {su : List Stmt} {p1 p2 : Pos} {hl : List ExceptHandler} {l : HDs} {vs : List Value} (nm : Names X y v) (ct : Cat g X.K v cat)
      (hu : ∀ (a : Addr) (oe : Obj) (ec : Ec) (d : Option Addr) (pn : List (Addr × Obj)), Zc (.ref (g.ea ec)) d oe → (∃ vs, oe.data = .fields vs) → PSs (X.suite a ((a, oe) :: pn)) (t0 :: su) (ls g W0 (Th a ec d))) (r : QHsN g X hl l vs) :
      QHsN g X (.ExceptHandler (some (.Name y p1)) none (t0 :: su) p2 :: hl) ((cat, Th) :: l) (v :: vs)
theorem QHsN.hd {hl : List ExceptHandler} {l : HDs} {vs : List Value} (h : QHsN g X hl l vs) : HdNN X hl (toHTs g l vs) := by
  induction h with
  | nil => exact .nil
  | cons nm ct hu r ih =>
    refine .cons nm (fun b ob cl d ps hz hv => ⟨fun pins s σ H E I ⟨ec, e, h⟩ => ?_⟩) ih
    subst e
    exact (hu b ob ec d ps hz hv).run pins s σ H E I h
theorem e_tryMN {T : DS} {hs : HDs} {En : DEnds} {Δ : Sl} {O : Sto} : dTryMN T hs En Δ O = T { En with xc := xcMN En hs } Δ O := propext Iff.rfl
theorem e_xcMN0 {En : DEnds} {x : Exn} {Δ : Sl} {O : Sto} : xcMN En [] x Δ O = En.xc x Δ O := propext Iff.rfl
theorem e_xcMN1 {En : DEnds} {cat : Ec → Option Bool} {Th : DH} {r : HDs} {x : Exn} {Δ : Sl} {O : Sto} : xcMN En ((cat, Th) :: r) x Δ O = (match cat x.c with
    | some true => ∀ a d, freshC O a → Th a x.c d { nx := En.nx, rt := En.rt, bk := En.bk, ct := En.ct } Δ O
    | some false => xcMN En r x Δ O
    | none => False) := propext Iff.rfl
end
end G

set_option Elab.async false
set_option linter.all false
set_option maxRecDepth 100000
set_option maxHeartbeats 4000000
namespace G
open PySem L2
/-! ## == of lists of objects of one own class: the equal case -/
def EqLs (C : Cl) (S : DSp) (xs ys : List D) (O : Sto) : Prop := xs.length = ys.length ∧ ∀ (i : Nat) (x y : D), xs[i]? = some x → ys[i]? = some y → clsOf O x = some C ∧ tgD O y = some (.c C) ∧ S [x, y] O (fun d O' => d = .bl true ∧ O' = O) (fun _ _ => False)
def dEqLs (C : Cl) (S : DSp) (Ta Tb : DE) : DE := fun Δ O P E => Ta Δ O (fun x O1 => Tb Δ O1 (fun y O2 => match x, y with
  | .lst xs, .lst ys => EqLs C S xs ys O2 ∧ P (.bl true) O2
  | _, _ => False) E) E
section
variable {g : Gm} {X : Cx} {W : WX} {pos pos' p apos : Pos} {a b c o : Expr} {es : List Expr} {Ta Tb : DE} {R : DA} {k j : Nat} {f : Addr} {S : DSp} {x m : Str} {C : Cl}
theorem e_eqLs {Δ : Sl} {O : Sto} {P : KD} {E : KX} : dEqLs C S Ta Tb Δ O P E = Ta Δ O (fun x O1 => Tb Δ O1 (fun y O2 => match x, y with
  | .lst xs, .lst ys => EqLs C S xs ys O2 ∧ P (.bl true) O2
  | _, _ => False) E) E := propext Iff.rfl
end
end G

set_option Elab.async false
set_option linter.all false
set_option maxRecDepth 100000
set_option maxHeartbeats 4000000
namespace G
open PySem L2
/-! ## bool(own); own[i] -/
def hBl : D → Sto → KD → Prop := fun d O P => match d with | .bl b => P (.bl b) O | _ => False
def dSubO (tab : List (Cl × DSp)) (Ta Tb : DE) : DE := fun Δ O P E => Ta Δ O (fun x O1 => Tb Δ O1 (fun y O2 => match clsOf O2 x with
  | some c => (match tabAt tab c with | some S => S [x, y] O2 P (fun _ _ => False) | none => False)
  | none => False) E) E
section
variable {g : Gm} {X : Cx} {W : WX} {pos pos' p apos : Pos} {a b c o : Expr} {es : List Expr} {Ta Tb : DE} {R : DA} {k j : Nat} {f : Addr} {S : DSp} {x m : Str} {tab : List (Cl × DSp)}
theorem e_subO {Δ : Sl} {O : Sto} {P : KD} {E : KX} : dSubO tab Ta Tb Δ O P E = Ta Δ O (fun x O1 => Tb Δ O1 (fun y O2 => match clsOf O2 x with
  | some c => (match tabAt tab c with | some S => S [x, y] O2 P (fun _ _ => False) | none => False)
  | none => False) E) E := propext Iff.rfl
theorem h_bl {b : Bool} {O : Sto} {P : KD} : hBl (.bl b) O P = P (.bl b) O := propext Iff.rfl
end
end G

set_option Elab.async false
set_option linter.all false
set_option maxRecDepth 100000
set_option maxHeartbeats 4000000
namespace G
open PySem L2
/-! ## y = [.. for .. in an owned list] on one line -/
section
variable {g : Gm} {X : Cx} {W : WX} {pos : Pos} {tg : Expr} {Ta : DE}
theorem qs_asgLcP {i : Nat} {y : Str} {py spos : Pos} {elt iter : Expr} {ifs : List Expr} {scope : Scope} {own : List (Str × Nat)} {t : TG} {Gd : DG} {js : List Nat} {Tt : DT} {Te : DE} (hN : X.N.Nodup) (hi : PE X iter (le g W Ta)) (ok : BlkOk X.N X.env.scope scope own)
    (hg : ∀ (s : Shared) (H : Hp) (C : Addr) (cl : List (Str × Addr)) (fp : List Addr), PG (X.blk s H scope (compEnvC scope cl C X.env) fp) tg t) (lk : LkG g t Gd js) (ht : ∀ (s : Shared) (H : Hp) (C : Addr) (cl : List (Str × Addr)) (fp : List Addr), PTs (X.blk s H scope (compEnvC scope cl C X.env) fp) ifs (lt g W0 Tt))
    (he : ∀ (s : Shared) (H : Hp) (C : Addr) (cl : List (Str × Addr)) (fp : List Addr), PE (X.blk s H scope (compEnvC scope cl C X.env) fp) elt (le g W0 Te))
    (h : PS X (.Assign [.Name y py] (.ListComp elt [⟨tg, iter, ifs, 0⟩] scope pos) spos) (tAsg (tLc (iList X.K (le g W Ta)) t (lt g W0 Tt) (le g W0 Te) (own.map (·.2))) (gName i))) (hjs : ∀ j ∈ js, j ∈ own.map (·.2) := by decide) (hK : X.K = g.K := by rfl) :
    PS X (.Assign [.Name y py] (.ListComp elt [⟨tg, iter, ifs, 0⟩] scope pos) spos) (ls g W (dAsg i (dLcP Ta Gd Tt Te (own.map (·.2))))) := by
  refine ps_imp h fun En σ H ⟨D, Δ, O, F, hT, sr, w, ho⟩ => ?_
  refine le_bind hT sr w (ho.toX sr) fun d O1 v F1 H1 hT1 s1 sr1 w1 rx hx1 => ?_
  cases d with
  | ptr q =>
    have ev := Rep.ptr_iff.mp rx
    subst ev
    have hT1 : (match getC O1 q with | some (.lst ds) => ds.length ≤ 1000000 ∧ ∀ p, freshC O1 p → lcC (heldL q ds) Gd Tt Te p (fun acc O2 => D.nx (Δ.set i (some (.lst acc))) O2) ds [] (wipeD Δ (own.map (·.2))) O1 | _ => False) := hT1
    split at hT1
    · rename_i ds e
      obtain ⟨_, o, h1, h2⟩ := w1.get e
      cases o with
      | lst vs =>
        refine ⟨q, rfl, ⟨vs, SqL.of h1⟩, ?_⟩
        have gv : GivesC g F1 (Itl X.K q) ds (heldL q ds) := by rw [hK]; exact givesC_list
        refine tlcC_of (Q := fun x H1 => gName i x σ H1 En.nx) (PL := fun _ acc O2 => D.nx (Δ.set i (some (.lst acc))) O2) lk hjs hT1 sr1 w1 gv fun p acc O2 F2 H2 hp s2 w2 => ?_
        obtain ⟨o, ho', hc, s3, w3⟩ := w2.freeze (a := p) (c := .lst acc) (by simp [getC])
        have s := s1.trans (s2.trans s3)
        exact ho.nx _ _ _ _ _ hp s ((sr.mono s).set (frz_rep rfl hc (w2.cel _ List.mem_cons_self).1) i) (by simpa [delC] using w3)
      | _ => exact h2.elim
    · exact hT1.elim
  | _ => exact hT1.elim
end
end G

set_option Elab.async false
set_option linter.all false
set_option maxRecDepth 100000
set_option maxHeartbeats 4000000
namespace G
open PySem L2
local macro_rules
  | `(tactic| push_cast) => `(tactic| simp -failIfUnchanged only [↓e_v0, ↓e_vS, ↓e_asg, ↓e_exp, ↓e_ret, ↓e_retN, ↓e_ifS, ↓e_next, ↓e_nev, ↓e_c, ↓e_op, ↓e_un, ↓e_te, ↓e_tru, ↓e_and, ↓e_or, ↓e_not, ↓e_andV, ↓e_orV, ↓e_notV, ↓e_if, ↓e_chain, ↓e_nil, ↓e_cons, ↓e_tup, ↓e_lst, ↓e_lstO, ↓e_cb, ↓e_call, ↓e_fld, ↓e_frz, ↓e_app, ↓e_setIx, ↓e_setF, ↓e_isT, ↓e_make, ↓e_itL, ↓e_rng3, ↓e_itT, ↓e_rng1, ↓e_rng2, ↓e_yes, ↓e_gn, ↓e_lc, ↓e_lcO, ↓e_for, ↓e_brk, ↓e_cnt, ↓e_inOwn, ↓e_raise, ↓e_raiseT, ↓e_try, ↓e_tryN, ↓e_xf, ↓e_isX, ↓e_isO, ↓e_bin, ↓e_uno, ↓e_eqOwn, ↓e_meth, ↓f_max, ↓f_min, ↓f_abs, ↓f_sortI, ↓f_isN, ↓f_notN, ↓f_eqT, ↓f_neT, sz0, sz1, sz2, sz3, sz4, sz5, sz6, sz7, sz8, sz9, sz10, sz11, sz12, tgI, tgN, tgB, tgS, tgL, tgT, tgO, ↓f_ixT0, ↓f_ixT1, ↓f_ixT2, ↓f_ixL0, ↓f_ixL1, ↓f_ixL2, ↓f_ixL3, ↓f_ixT, ↓f_ixL, ↓f_ixP, ↓f_add, ↓f_addL, ↓f_addS, ↓f_sub, ↓f_mul, ↓f_mod, ↓f_div, ↓f_pow, ↓f_lt, ↓f_le, ↓f_gt, ↓f_ge, ↓f_eq, ↓f_ne, ↓f_int, ↓f_neg, ↓f_lenL, ↓f_lenT, ↓f_lenP, truL, truT, truI, truB, truN, objO, clsO, getF, putFs, putDs, tabAt, boolK, reduceCtorEq, List.mem_singleton, true_and, and_true, e_wipe0, e_wipe1, ex_c, getC_self, setC_self, delC_self, lstOf, List.set_cons_zero, List.set_cons_succ, setC_setC, at_0, at_1, at_2, at_3, set_0, set_1, set_2, set_3, List.length_cons, List.length_nil, List.length_map, ↓reduceIte, Bool.false_eq_true, decide_eq_true_eq, ↓e_aug, ↓e_frzS, ↓e_dix, ↓e_inD, ↓e_dget2, ↓e_setD, dicD, keyI, keyS, ↓e_sp1, ↓e_truO, ↓e_cmeth, ↓h_len, ↓h_str, ↓h_any, ↓e_join, ↓e_fmt, ↓e_joined, ↓e_js0, ↓e_js1, ↓e_gt2, ↓e_gt3, ↓e_enum, ↓e_dnew, ↓e_star, ↓e_makeC, seqT, seqL, ↓f_sortP, ↓f_strI, ↓f_addI, ↓f_sum, ↓f_maxL, ↓f_minL, ↓f_any, ↓f_all, ↓e_eqSts, strsOf_map, stsOf_map, frzD, eqB_int, eqB_bl, eqB_str, eq_prs, eq_ints, emp_prs, Bool.not_true, Bool.not_false, Bool.not_not, ↓e_isB, ↓f_inI, ↓f_inS, inB2_t, inB2_f, kit_int_int, kit_int_bool, kit_int_str, kit_list_list, kit_tuple_tuple, kit_str_str, kit_dict_dict, kit_bool_bool, kit_list_tuple, kit_none_str, kit_none_int, ↓e_tryM, ↓e_tryMN, ↓e_xcMN0, ↓e_xcMN1, ↓e_xcM0, ↓e_xcM1, ↓e_propX, ↓f_ltT, ↓f_addO, ↓e_asgG, ↓e_seq, ↓e_revS, ↓f_strS, ↓e_lc2, ↓e_disp, ↓e_lm, ↓f_pop, ↓f_ins, ↓f_ext, ↓e_slice, ↓e_noP, ↓e_part, ↓f_dictD, lstL, ↓e_callK, ↓e_makeKw, ↓e_inK, ↓e_itS, ↓e_sliceS, ↓f_listOL, ↓f_listOT, ↓e_itD, ↓e_melt, ↓e_makeKV, ↓e_makeCV, ↓e_notInOwn, ↓f_listDO, ↓e_revL, ↓f_tupL, ↓f_tupT, ↓f_addT, ↓e_sliceT, ↓e_perm, ↓e_forP, ↓e_lcP, ↓e_cmethK, ↓f_listSL, ↓f_listST, ↓e_sortZ, ↓f_sumT2, ↓e_pop1, ↓e_pop2, ↓e_may, ↓e_lc2O, ↓e_itO, ↓f_isB, ↓f_notB, ↓f_sortS, ↓e_forG, ↓e_gen, ↓e_liG, ↓f_inNon, ↓f_rep, ↓e_callM, ↓e_makeM, fl_nil, fl_int, fl_str, fl_bl, fl_non, fl_a0, fl_a1, fl_a2, ↓e_fmt8, ↓e_fmt2, ↓f_mulS, ↓e_rjust, ↓e_lsR, ↓f_dictP, ↓e_sliceO, ↓f_sortN, ↓e_dcO, ↓e_idx, ↓e_gt4, ↓e_raiseL, ↓e_makeO, ↓e_setP, ↓e_makeMO, ↓e_setT, putsFs, putsDs, ↓e_clr, ↓e_eqLs, ↓e_subO, ↓h_bl])
  | `(tactic| push_cast [$xs,*]) => `(tactic| simp -failIfUnchanged only [↓e_v0, ↓e_vS, ↓e_asg, ↓e_exp, ↓e_ret, ↓e_retN, ↓e_ifS, ↓e_next, ↓e_nev, ↓e_c, ↓e_op, ↓e_un, ↓e_te, ↓e_tru, ↓e_and, ↓e_or, ↓e_not, ↓e_andV, ↓e_orV, ↓e_notV, ↓e_if, ↓e_chain, ↓e_nil, ↓e_cons, ↓e_tup, ↓e_lst, ↓e_lstO, ↓e_cb, ↓e_call, ↓e_fld, ↓e_frz, ↓e_app, ↓e_setIx, ↓e_setF, ↓e_isT, ↓e_make, ↓e_itL, ↓e_rng3, ↓e_itT, ↓e_rng1, ↓e_rng2, ↓e_yes, ↓e_gn, ↓e_lc, ↓e_lcO, ↓e_for, ↓e_brk, ↓e_cnt, ↓e_inOwn, ↓e_raise, ↓e_raiseT, ↓e_try, ↓e_tryN, ↓e_xf, ↓e_isX, ↓e_isO, ↓e_bin, ↓e_uno, ↓e_eqOwn, ↓e_meth, ↓f_max, ↓f_min, ↓f_abs, ↓f_sortI, ↓f_isN, ↓f_notN, ↓f_eqT, ↓f_neT, sz0, sz1, sz2, sz3, sz4, sz5, sz6, sz7, sz8, sz9, sz10, sz11, sz12, tgI, tgN, tgB, tgS, tgL, tgT, tgO, ↓f_ixT0, ↓f_ixT1, ↓f_ixT2, ↓f_ixL0, ↓f_ixL1, ↓f_ixL2, ↓f_ixL3, ↓f_ixT, ↓f_ixL, ↓f_ixP, ↓f_add, ↓f_addL, ↓f_addS, ↓f_sub, ↓f_mul, ↓f_mod, ↓f_div, ↓f_pow, ↓f_lt, ↓f_le, ↓f_gt, ↓f_ge, ↓f_eq, ↓f_ne, ↓f_int, ↓f_neg, ↓f_lenL, ↓f_lenT, ↓f_lenP, truL, truT, truI, truB, truN, objO, clsO, getF, putFs, putDs, tabAt, boolK, reduceCtorEq, List.mem_singleton, true_and, and_true, e_wipe0, e_wipe1, ex_c, getC_self, setC_self, delC_self, lstOf, List.set_cons_zero, List.set_cons_succ, setC_setC, at_0, at_1, at_2, at_3, set_0, set_1, set_2, set_3, List.length_cons, List.length_nil, List.length_map, ↓reduceIte, Bool.false_eq_true, decide_eq_true_eq, ↓e_aug, ↓e_frzS, ↓e_dix, ↓e_inD, ↓e_dget2, ↓e_setD, dicD, keyI, keyS, ↓e_sp1, ↓e_truO, ↓e_cmeth, ↓h_len, ↓h_str, ↓h_any, ↓e_join, ↓e_fmt, ↓e_joined, ↓e_js0, ↓e_js1, ↓e_gt2, ↓e_gt3, ↓e_enum, ↓e_dnew, ↓e_star, ↓e_makeC, seqT, seqL, ↓f_sortP, ↓f_strI, ↓f_addI, ↓f_sum, ↓f_maxL, ↓f_minL, ↓f_any, ↓f_all, ↓e_eqSts, strsOf_map, stsOf_map, frzD, eqB_int, eqB_bl, eqB_str, eq_prs, eq_ints, emp_prs, Bool.not_true, Bool.not_false, Bool.not_not, ↓e_isB, ↓f_inI, ↓f_inS, inB2_t, inB2_f, kit_int_int, kit_int_bool, kit_int_str, kit_list_list, kit_tuple_tuple, kit_str_str, kit_dict_dict, kit_bool_bool, kit_list_tuple, kit_none_str, kit_none_int, ↓e_tryM, ↓e_tryMN, ↓e_xcMN0, ↓e_xcMN1, ↓e_xcM0, ↓e_xcM1, ↓e_propX, ↓f_ltT, ↓f_addO, ↓e_asgG, ↓e_seq, ↓e_revS, ↓f_strS, ↓e_lc2, ↓e_disp, ↓e_lm, ↓f_pop, ↓f_ins, ↓f_ext, ↓e_slice, ↓e_noP, ↓e_part, ↓f_dictD, lstL, ↓e_callK, ↓e_makeKw, ↓e_inK, ↓e_itS, ↓e_sliceS, ↓f_listOL, ↓f_listOT, ↓e_itD, ↓e_melt, ↓e_makeKV, ↓e_makeCV, ↓e_notInOwn, ↓f_listDO, ↓e_revL, ↓f_tupL, ↓f_tupT, ↓f_addT, ↓e_sliceT, ↓e_perm, ↓e_forP, ↓e_lcP, ↓e_cmethK, ↓f_listSL, ↓f_listST, ↓e_sortZ, ↓f_sumT2, ↓e_pop1, ↓e_pop2, ↓e_may, ↓e_lc2O, ↓e_itO, ↓f_isB, ↓f_notB, ↓f_sortS, ↓e_forG, ↓e_gen, ↓e_liG, ↓f_inNon, ↓f_rep, ↓e_callM, ↓e_makeM, fl_nil, fl_int, fl_str, fl_bl, fl_non, fl_a0, fl_a1, fl_a2, ↓e_fmt8, ↓e_fmt2, ↓f_mulS, ↓e_rjust, ↓e_lsR, ↓f_dictP, ↓e_sliceO, ↓f_sortN, ↓e_dcO, ↓e_idx, ↓e_gt4, ↓e_raiseL, ↓e_makeO, ↓e_setP, ↓e_makeMO, ↓e_setT, putsFs, putsDs, ↓e_clr, ↓e_eqLs, ↓e_subO, ↓h_bl, $xs,*])
theorem weak_now {O : Sto} {Q : Sto → Prop} (h : Q O) : ∃ O1, Weak O O1 ∧ Q O1 := ⟨O, fun _ _ _ w => w, h⟩
theorem four {a b c d : D} {O : Sto} {P : KD} {r : Int} (h0 : 0 ≤ r) (h4 : r < 4) (ha : P a O) (hb : P b O) (hc : P c O) (hd : P d O) : (match atI [a, b, c, d] r with | some d => P d O | none => False) := by
  have e : r = 0 ∨ r = 1 ∨ r = 2 ∨ r = 3 := by omega
  rcases e with rfl | rfl | rfl | rfl
  · rw [at_0]; exact ha
  · rw [at_1]; exact hb
  · rw [at_2]; exact hc
  · rw [at_3]; exact hd
theorem all2_len {α β : Type} {R : α → β → Prop} {Q : β → Prop} {as : List α} {bs : List β} (h : All2 R as bs) (k : ∀ a b, R a b → Q b) : ∀ b ∈ bs, Q b := by
  induction h with
  | nil => intro b hb; cases hb
  | cons h _ ih =>
    intro b hb
    rcases List.mem_cons.mp hb with rfl | hb
    · exact k _ _ h
    · exact ih b hb
/-- a loop whose turns keep I; the item is one of the list -/
theorem for_mem {α : Type} {emb : α → D} {Gd : DG} {T : DS} {En : DEnds} (I : Sl → Sto → Prop) {xs : List α} {Δ : Sl} {O : Sto} (h0 : I Δ O) (hend : ∀ Δ O, I Δ O → En.nx Δ O)
    (step : ∀ x ∈ xs, ∀ Δ O (K : Sl → Sto → Prop), I Δ O → (∀ Δ' O', I Δ' O' → K Δ' O') → Gd (emb x) Δ fun Δ' => T { En with nx := K, ct := K, bk := En.nx } Δ' O) : forD Gd T En (xs.map emb) Δ O :=
  for_inv2 (I := fun _ Δ O => I Δ O) h0 hend fun l x r e Δ O K hI hK => step x (by rw [e]; simp) Δ O K hI hK
theorem rangeD_emb (i : Int) (n : Nat) : rangeD i n = (List.range n).map fun j : Nat => D.int (i + (j : Int)) := rfl
theorem at_get {α : Type} {f : α → D} {xs : List α} {i : Nat} {d : α} (h : i < xs.length) : atI (xs.map f) (i : Int) = some (f (xs.getD i d)) := by
  refine atI_nat ?_
  rw [List.getElem?_map, List.getElem?_eq_getElem h, List.getD_eq_getElem?_getD, List.getElem?_eq_getElem h]
  rfl
theorem range_pre {n : Nat} {l r : List Nat} {x : Nat} (h : List.range n = l ++ x :: r) : x = l.length ∧ l.length < n ∧ l = List.range l.length := by
  have e1 : (List.range n)[l.length]? = some x := by rw [h]; simp
  have hl : l.length < n := by
    have := congrArg List.length h
    simp at this
    omega
  rw [List.getElem?_range hl] at e1
  have e2 : l = (List.range n).take l.length := by rw [h]; simp
  refine ⟨(Option.some.inj e1).symm, hl, ?_⟩
  rw [List.take_range] at e2
  rw [Nat.min_eq_left (by omega)] at e2
  exact e2
theorem for_memD {Gd : DG} {T : DS} {En : DEnds} (I : Sl → Sto → Prop) {xs : List D} {Δ : Sl} {O : Sto} (h0 : I Δ O) (hend : ∀ Δ O, I Δ O → En.nx Δ O)
    (step : ∀ x ∈ xs, ∀ Δ O (K : Sl → Sto → Prop), I Δ O → (∀ Δ' O', I Δ' O' → K Δ' O') → Gd x Δ fun Δ' => T { En with nx := K, ct := K, bk := En.nx } Δ' O) : forD Gd T En xs Δ O := by
  have z := for_mem (emb := id) (xs := xs) (Gd := Gd) (T := T) (En := En) I h0 hend step
  rwa [List.map_id] at z

def S_law_take : DSp := fun ds O P E => ∃ b m, ds = [.ptr b, .int m] ∧ getC O b = some .box ∧ 0 < m ∧ m < 1073741824 ∧ ∀ r, 0 ≤ r → r < m → P (.int r) O
def N_law_take : List Str := ["_law_box_here", "_law_many", "_law_cells", "_law_digit", "_law_cell"]
def T_law_take_0 : DS := (dSetIx (dVar 0) (dC (.int 1)) (dOp fAdd (dOp fIx (dVar 0) (dC (.int 1))) (dC (.int 1))))
def T_law_take_1 : DS := (dSeq (dSetIx (dVar 0) (dC (.int 2)) (dOp fSub (dOp fIx (dVar 2) (dOp fIx (dVar 0) (dC (.int 1)))) (dOp fPow (dC (.int 10)) (dC (.int 18))))) T_law_take_0)
def T_law_take_2 : DS := (dSeq (dSetIx (dVar 0) (dC (.int 2)) (dOp fDiv (dCB fInt (dCons (dOp fIx (dVar 0) (dC (.int 2))) dNil)) (dVar 1))) (dRet (dVar 3)))
def T_law_take_3 : DS := (dSeq (dAsg 3 (dOp fMod (dCB fInt (dCons (dOp fIx (dVar 0) (dC (.int 2))) dNil)) (dVar 1))) T_law_take_2)
def T_law_take_4 : DS := (dAsg 4 (dCB fInt (dCons (dOp fIx (dVar 2) (dOp fIx (dVar 0) (dC (.int 1)))) dNil)))
def T_law_take_5 : DS := (dRet (dOp fMod (dOp fMod (dCB fInt (dCons (dOp fAdd (dOp fMul (dOp fDiv (dOp fIx (dVar 0) (dC (.int 3))) (dC (.int 8))) (dC (.int 31))) (dOp fMod (dCB fInt (dCons (dOp fIx (dVar 0) (dC (.int 3))) dNil)) (dC (.int 65537)))) dNil)) (dC (.int 1000003))) (dVar 1)))
def T_law_take_6 : DS := (dSeq (dSetIx (dVar 0) (dC (.int 3)) (dOp fMod (dCB fInt (dCons (dOp fAdd (dOp fAdd (dOp fMul (dOp fIx (dVar 0) (dC (.int 3))) (dC (.int 48271))) (dOp fMul (dVar 4) (dC (.int 7)))) (dOp fIx (dVar 0) (dC (.int 1)))) dNil)) (dC (.int 2147483647)))) T_law_take_5)
def T_law_take_7 : DS := (dSeq (dSetIx (dVar 0) (dC (.int 1)) (dOp fAdd (dOp fIx (dVar 0) (dC (.int 1))) (dC (.int 1)))) T_law_take_6)
def T_law_take_8 : DS := (dSeq (dIfS (dTe (dOp fLt (dOp fIx (dVar 0) (dC (.int 1))) (dCB fLen (dCons (dVar 2) dNil)))) T_law_take_4 dNext) T_law_take_7)
def T_law_take_9 : DS := (dSeq (dIfS (dTe (dOp fGt (dOp fIx (dVar 0) (dC (.int 2))) (dC (.int 0)))) T_law_take_3 dNext) (dSeq (dAsg 4 (dC (.int 0))) T_law_take_8))
def T_law_take_10 : DS := (dSeq (dIfS (dAnd (dTe (dOp fEq (dOp fIx (dVar 0) (dC (.int 2))) (dC (.int 0)))) (dAnd (dTe (dOp fLt (dOp fIx (dVar 0) (dC (.int 1))) (dCB fLen (dCons (dVar 2) dNil)))) (dTe (dOp fGt (dOp fIx (dVar 2) (dOp fIx (dVar 0) (dC (.int 1)))) (dOp fPow (dC (.int 10)) (dC (.int 18))))))) T_law_take_1 dNext) T_law_take_9)
def T_law_take : DS := (dSeq (dAsg 2 (dOp fIx (dVar 0) (dC (.int 0)))) T_law_take_10)

theorem pure_law_take : Pure N_law_take 2 S_law_take T_law_take := by
  rintro ds O P E ⟨b, m, rfl, hb, h0, h1, k⟩
  refine ⟨rfl, Opn.box hb fun cs i a s hc hi ha => ?_⟩
  have gx : ∀ c, getC (setC O b c) b = some c := fun c => getC_setC hb
  have hs : startD N_law_take [.ptr b, .int m] = [some (.ptr b), some (.int m), none, none, none] := rfl
  have fin : ∀ (r : Int) (cs : List Int) (i a s : Int), cs.length ≤ 63 → 0 ≤ i → 0 ≤ a → 0 ≤ r → r < m → ∃ O1, Weak (setC O b (.lst [.lst (cs.map D.int), .int i, .int a, .int s])) O1 ∧ P (.int r) O1 := fun r cs i a s q1 q2 q3 q4 q5 => by
    refine ⟨_, Weak.box (gx _) q1 q2 q3, ?_⟩
    rw [setC_setC, setC_same hb]
    exact k r q4 q5
  have c8 : CDiv 1 8 := by unfold CDiv; omega
  have mk : ∀ x y : Int, -(2 ^ 64) < y → y < 2 ^ 64 → CMul x y := fun x y p q => .inr ⟨p, q⟩
  have t7 : ∀ (i s c : Int), 0 ≤ i → T_law_take_7 (endsD P E) [some (.ptr b), some (.int m), some (.lst (cs.map D.int)), none, some (.int c)] (setC O b (.lst [.lst (cs.map D.int), .int i, .int 0, .int s])) := fun i s c hi => by
    unfold T_law_take_7 T_law_take_6 T_law_take_5
    push_cast [gx, mk]
    refine ⟨mk _ _ (by omega) (by omega), mk _ _ (by omega) (by omega), by omega, ⟨by omega, by omega⟩, mk _ _ (by omega) (by omega), by omega, by omega, h0, ?_⟩
    exact fin _ cs _ _ _ hc (by omega) (by omega) (Int.emod_nonneg _ (by omega)) (Int.emod_lt_of_pos _ h0)
  have t9 : ∀ (i a s : Int), 0 ≤ i → 0 ≤ a → T_law_take_9 (endsD P E) [some (.ptr b), some (.int m), some (.lst (cs.map D.int)), none, none] (setC O b (.lst [.lst (cs.map D.int), .int i, .int a, .int s])) := fun i a s hi ha => by
    unfold T_law_take_9
    push_cast [gx]
    by_cases c : 0 < a
    · rw [if_pos c]
      unfold T_law_take_3 T_law_take_2
      push_cast [gx]
      refine ⟨h0, ⟨h0, h1⟩, ?_⟩
      exact fin _ cs _ _ _ hc hi (Int.ediv_nonneg ha (by omega)) (Int.emod_nonneg _ (by omega)) (Int.emod_lt_of_pos _ h0)
    · rw [if_neg c]
      have e : a = 0 := by omega
      subst e
      unfold T_law_take_8
      push_cast [gx]
      by_cases c : i < (cs.length : Int)
      · rw [if_pos c]
        unfold T_law_take_4
        obtain ⟨n, rfl⟩ := Int.eq_ofNat_of_zero_le hi
        have hn : n < cs.length := by omega
        have ea : atI (cs.map D.int) (n : Int) = some (.int cs[n]) := atI_nat (by rw [List.getElem?_map, List.getElem?_eq_getElem hn]; rfl)
        push_cast [gx, ea]
        exact t7 _ _ _ hi
      · rw [if_neg c]
        exact t7 _ _ _ hi
  rw [hs]
  unfold T_law_take boxC
  push_cast [gx]
  unfold T_law_take_10
  push_cast [gx]
  by_cases c : a = 0
  · subst c
    rw [if_pos rfl]
    by_cases c : i < (cs.length : Int)
    · rw [if_pos c]
      obtain ⟨n, rfl⟩ := Int.eq_ofNat_of_zero_le hi
      have hn : n < cs.length := by omega
      have ea : atI (cs.map D.int) (n : Int) = some (.int cs[n]) := atI_nat (by rw [List.getElem?_map, List.getElem?_eq_getElem hn]; rfl)
      have p18 : CPow 10 18 := ⟨by omega, by omega, by decide⟩
      push_cast [gx, ea]
      refine ⟨p18, ?_⟩
      have e18 : (10 : Int) ^ Int.toNat 18 = 1000000000000000000 := by decide
      rw [e18]
      by_cases c : 1000000000000000000 < cs[n]
      · rw [if_pos c]
        unfold T_law_take_1 T_law_take_0
        push_cast [gx, ea, e18]
        exact ⟨p18, t9 _ _ _ (by omega) (by omega)⟩
      · rw [if_neg c]
        exact t9 _ _ _ hi ha
    · rw [if_neg c]
      push_cast
      exact t9 _ _ _ hi ha
  · rw [if_neg c]
    push_cast
    exact t9 _ _ _ hi ha
def S_law_box : DSp := fun ds O P E => ∃ ns salt, ds = [.scr ns, .int salt] ∧ ∀ b, freshC O b → P (.ptr b) ((b, .box) :: O)
def N_law_box : List Str := ["_law_script", "_law_salt", "_law_cell"]
def T_law_box : DS := (dRet (dLstO (dCons (dLc (dItL (dSlice (dVar 0) dNoP (dPart (dC (.int 63))))) (dgN 2) dYes (dCB fInt (dCons (dVar 2) dNil)) [2]) (dCons (dC (.int 0)) (dCons (dC (.int 0)) (dCons (dVar 1) dNil))))))

theorem pure_law_box : Pure N_law_box 2 S_law_box T_law_box := by
  rintro ds O P E ⟨ns, salt, rfl, k⟩
  refine ⟨rfl, Opn.now ?_⟩
  have hs : startD N_law_box [.scr ns, .int salt] = [some (.scr ns), some (.int salt), none] := rfl
  rw [hs]
  unfold T_law_box
  obtain ⟨ms, e, hm⟩ := cut_box ns
  push_cast [dSlice, dNoP, dPart, e]
  refine ⟨by omega, fun p hp => lc_map D.int (fun x hx acc C h => ?_) (fun q hq => ⟨_, Weak.toBox hm (Int.le_refl 0) (Int.le_refl 0), k q hq⟩)⟩
  unfold lcStep
  push_cast
  exact h
def S_law_whole : DSp := fun ds O P E => ∃ i, ds = [.int i] ∧ P (.bl true) O
def N_law_whole : List Str := ["_law_worth"]
def T_law_whole : DS := (dRet (dAndV (dIsB "int" (dVar 0)) (dNotV (dIsB "bool" (dVar 0)))))

theorem pure_law_whole : Pure N_law_whole 1 S_law_whole T_law_whole := by
  rintro ds O P E ⟨i, rfl, k⟩
  refine ⟨rfl, Opn.now ?_⟩
  have hs : startD N_law_whole [.int i] = [some (.int i)] := rfl
  rw [hs]
  unfold T_law_whole
  push_cast [tyD, kit_int_int, kit_int_bool, Bool.not_false]
  exact weak_now k
def S_law_span : DSp := fun ds O P E => ∃ b, ds = [.ptr b] ∧ getC O b = some .box ∧ ∀ s, 4 ≤ s → s ≤ 300000 → P (.int s) O
def N_law_span : List Str := ["_law_box_here"]
def T_law_span : DS := (dRet (dOp fIx (dLst (dCons (dC (.int 4)) (dCons (dC (.int 12)) (dCons (dC (.int 50)) (dCons (dC (.int 300000)) dNil))))) (dCall S_law_take (dCons (dVar 0) (dCons (dC (.int 4)) dNil)))))

theorem pure_law_span : Pure N_law_span 1 S_law_span T_law_span := by
  rintro ds O P E ⟨b, rfl, hb, k⟩
  refine ⟨rfl, Opn.now ?_⟩
  have hs : startD N_law_span [.ptr b] = [some (.ptr b)] := rfl
  rw [hs]
  unfold T_law_span
  push_cast
  refine ⟨b, 4, rfl, hb, by omega, by omega, fun r h0 h1 => ?_⟩
  push_cast
  exact four (P := (endsD P E).rt) h0 h1 (weak_now (k _ (by omega) (by omega))) (weak_now (k _ (by omega) (by omega))) (weak_now (k _ (by omega) (by omega))) (weak_now (k _ (by omega) (by omega)))

def S_law_moved : DSp := fun ds O P E => ∃ b, ds = [.ptr b] ∧ getC O b = some .box ∧ ∀ s, P (.int s) O
def N_law_moved : List Str := ["_law_box_here"]
def T_law_moved : DS := (dRet (dOp fIx (dLst (dCons (dC (.int 0)) (dCons (dC (.int 0)) (dCons (dUn fNeg (dC (.int 7))) (dCons (dOp fPow (dC (.int 10)) (dC (.int 13))) (dCons (dUn fNeg (dOp fPow (dC (.int 10)) (dC (.int 20)))) dNil)))))) (dCall S_law_take (dCons (dVar 0) (dCons (dC (.int 5)) dNil)))))

theorem pure_law_moved : Pure N_law_moved 1 S_law_moved T_law_moved := by
  rintro ds O P E ⟨b, rfl, hb, k⟩
  refine ⟨rfl, Opn.now ?_⟩
  have hs : startD N_law_moved [.ptr b] = [some (.ptr b)] := rfl
  rw [hs]
  unfold T_law_moved
  push_cast
  refine ⟨⟨by omega, by omega, by decide⟩, ⟨by omega, by omega, by decide⟩, b, 5, rfl, hb, by omega, by omega, fun r h0 h1 => ?_⟩
  push_cast
  obtain ⟨d, hd, e⟩ := atI_lt (ds := [D.int 0, D.int 0, D.int (-7), D.int (10 ^ Int.toNat 13), D.int (-10 ^ Int.toNat 20)]) h0 (by simpa using h1)
  rw [e]
  simp only [List.mem_cons, List.not_mem_nil, or_false] at hd
  rcases hd with rfl | rfl | rfl | rfl | rfl <;> exact weak_now (k _)
def S_law_pair : DSp := fun ds O P E => ∃ b s m, ds = [.ptr b, .int s, .int m] ∧ getC O b = some .box ∧ 4 ≤ s ∧ s ≤ 300000 ∧ ∀ x : Int × Int, x.1 ≤ x.2 → P (pr x) O
def N_law_pair : List Str := ["_law_box_here", "_law_span_here", "_law_moved_here", "_law_bottom", "_law_wide"]
def T_law_pair_0 : DS := (dRet (dTup (dCons (dVar 3) (dCons (dOp fAdd (dVar 3) (dCall S_law_take (dCons (dVar 0) (dCons (dOp fAdd (dVar 4) (dC (.int 1))) dNil)))) dNil))))
def T_law_pair_1 : DS := (dSeq (dAsg 4 (dOp fIx (dLst (dCons (dC (.int 0)) (dCons (dC (.int 1)) (dCons (dC (.int 3)) (dCons (dVar 1) dNil))))) (dCall S_law_take (dCons (dVar 0) (dCons (dC (.int 4)) dNil))))) T_law_pair_0)
def T_law_pair : DS := (dSeq (dAsg 3 (dOp fAdd (dOp fSub (dCall S_law_take (dCons (dVar 0) (dCons (dOp fMul (dC (.int 2)) (dVar 1)) dNil))) (dVar 1)) (dVar 2))) T_law_pair_1)

theorem pure_law_pair : Pure N_law_pair 3 S_law_pair T_law_pair := by
  rintro ds O P E ⟨b, s, m, rfl, hb, h4, h5, k⟩
  refine ⟨rfl, Opn.now ?_⟩
  have hs : startD N_law_pair [.ptr b, .int s, .int m] = [some (.ptr b), some (.int s), some (.int m), none, none] := rfl
  rw [hs]
  unfold T_law_pair
  push_cast
  refine ⟨.inl ⟨by omega, by omega⟩, b, 2 * s, rfl, hb, by omega, by omega, fun r h0 h1 => ?_⟩
  push_cast
  unfold T_law_pair_1
  push_cast
  refine ⟨b, 4, rfl, hb, by omega, by omega, fun r' h0' h1' => ?_⟩
  push_cast
  have fin : ∀ t : Int, 0 ≤ t → t ≤ 300000 → T_law_pair_0 (endsD P E) [some (.ptr b), some (.int s), some (.int m), some (.int (r - s + m)), some (.int t)] O := fun t ht ht' => by
    unfold T_law_pair_0
    push_cast
    refine ⟨b, t + 1, rfl, hb, by omega, by omega, fun u hu hu' => ?_⟩
    push_cast
    exact weak_now (k (r - s + m, r - s + m + u) (by show r - s + m ≤ r - s + m + u; omega))
  exact four (P := fun d O => T_law_pair_0 (endsD P E) [some (.ptr b), some (.int s), some (.int m), some (.int (r - s + m)), some d] O) h0' h1' (fin _ (by omega) (by omega)) (fin _ (by omega) (by omega)) (fin _ (by omega) (by omega)) (fin _ (by omega) (by omega))
def S_law_pairs : DSp := fun ds O P E => ∃ b n s m, ds = [.ptr b, .int n, .int s, .int m] ∧ getC O b = some .box ∧ 0 ≤ n ∧ n ≤ 100 ∧ 4 ≤ s ∧ s ≤ 300000 ∧ ∀ xs : List (Int × Int), (∀ x ∈ xs, ok2 x) → (xs.length : Int) ≤ n + 1 → P (.lst (xs.map pr)) O
def N_law_pairs : List Str := ["_law_box_here", "_law_most", "_law_span_here", "_law_moved_here", "_law_pairs_here", "_law_turn"]
def T_law_pairs_0 : DS := (dExp (dApp (dVar 4) (dOp fIx (dVar 4) (dCall S_law_take (dCons (dVar 0) (dCons (dCB fLen (dCons (dVar 4) dNil)) dNil))))))
def T_law_pairs_1 : DS := (dSeq (dIfS (dAnd (dTru (dVar 4)) (dTe (dOp fEq (dCall S_law_take (dCons (dVar 0) (dCons (dC (.int 4)) dNil))) (dC (.int 0))))) T_law_pairs_0 dNext) (dRet (dFrz (dVar 4))))
def T_law_pairs : DS := (dSeq (dAsg 4 (dLcO (dRng1 (dCons (dCall S_law_take (dCons (dVar 0) (dCons (dOp fAdd (dVar 1) (dC (.int 1))) dNil))) dNil)) (dgN 5) dYes (dCall S_law_pair (dCons (dVar 0) (dCons (dVar 2) (dCons (dVar 3) dNil)))) [5])) T_law_pairs_1)

theorem pure_law_pairs : Pure N_law_pairs 4 S_law_pairs T_law_pairs := by
  rintro ds O P E ⟨b, n, s, m, rfl, hb, hn0, hn, h4, h5, k⟩
  refine ⟨rfl, Opn.now ?_⟩
  have hs : startD N_law_pairs [.ptr b, .int n, .int s, .int m] = [some (.ptr b), some (.int n), some (.int s), some (.int m), none, none] := rfl
  rw [hs]
  unfold T_law_pairs
  push_cast
  refine ⟨b, n + 1, rfl, hb, by omega, by omega, fun r h0 h1 => ?_⟩
  push_cast
  obtain ⟨ks, ek, el⟩ := rangeD_map 0 r.toNat
  rw [ek]
  refine ⟨by omega, by omega, by rw [List.length_map, el]; omega, fun p hp => lc_draw (em := pr) (St := fun _ x => ok2 x) (fun x hx acc C h => ?_) fun xs hxs => ?_⟩
  · unfold lcStep
    push_cast
    refine ⟨b, s, m, rfl, getC_fresh hb hp, h4, h5, fun y hy => ?_⟩
    push_cast
    exact h y hy
  · have hall := all2_len hxs fun _ _ h => h
    have hlen : xs.length = r.toNat := by rw [← hxs.length, el]
    unfold T_law_pairs_1
    have hb' : ∀ c, getC ((p, c) :: O) b = some .box := fun c => getC_fresh hb hp
    have ne : b ≠ p := fresh_ne hb hp
    have tp : truD ((p, Cell.lst (xs.map pr)) :: O) (.ptr p) = some (!(xs.map pr).isEmpty) := truP getC_self
    push_cast [tp]
    cases xs with
    | nil =>
      push_cast [List.map_nil, List.isEmpty_nil, Bool.not_true, frzD]
      exact weak_now (k [] (fun x hx => by cases hx) (by simp; omega))
    | cons x xs =>
      push_cast [List.map_cons, List.isEmpty_cons, Bool.not_false]
      refine ⟨b, 4, rfl, hb' _, by omega, by omega, fun r1 h01 h11 => ?_⟩
      push_cast
      by_cases c : r1 = 0
      · rw [if_pos c]
        unfold T_law_pairs_0
        push_cast [lenD]
        refine ⟨b, _, rfl, hb' _, ?_, ?_, fun r2 h02 h12 => ?_⟩
        · omega
        · simp only [List.length_cons] at hlen; omega
        push_cast
        obtain ⟨y, hy, e⟩ := atI_map (f := pr) (xs := x :: xs) h02 (by simpa using h12)
        simp only [List.map_cons] at e
        rw [e]
        push_cast [frzD]
        refine ⟨by rw [sizeLine_eq]; simp only [List.length_cons] at hlen; omega, ?_⟩
        have z := k (x :: xs ++ [y]) (fun z hz => ?_) ?_
        · simp only [List.map_append, List.map_cons, List.map_nil] at z
          exact weak_now z
        · rcases List.mem_append.mp hz with hz | hz
          · exact hall z hz
          · rw [List.mem_singleton.mp hz]; exact hall y hy
        · rw [List.length_append, List.length_singleton, hlen]; omega
      · rw [if_neg c]
        push_cast [frzD]
        exact weak_now (k (x :: xs) hall (by rw [hlen]; omega))
def S_law_depth : DSp := fun ds O P E => ∃ (xs : List (Int × Int)) (l : Int), ds = [.lst (xs.map pr), .int l] ∧ xs.length ≤ 1000 ∧ P (.int (((xs.filter (inB l)).length : Nat) : Int)) O
def N_law_depth : List Str := ["_law_pairs_here", "_law_spot", "_law_pair_here"]
def T_law_depth : DS := (dRet (dCB fLen (dCons (dLc (dItL (dVar 0)) (dgN 2) (dTe (dChain fLe fLe (dOp fIx (dVar 2) (dC (.int 0))) (dVar 1) (dOp fIx (dVar 2) (dC (.int 1))))) (dVar 2) [2]) dNil)))

theorem pure_law_depth : Pure N_law_depth 2 S_law_depth T_law_depth := by
  rintro ds O P E ⟨xs, l, rfl, hl, k⟩
  refine ⟨rfl, Opn.now ?_⟩
  have hs : startD N_law_depth [.lst (xs.map pr), .int l] = [some (.lst (xs.map pr)), some (.int l), none] := rfl
  rw [hs]
  unfold T_law_depth
  push_cast
  refine ⟨by omega, fun p hp => lc_filter pr (inB l) (fun x hx acc C h => ?_) ?_⟩
  · unfold lcStep
    push_cast
    by_cases c : x.1 ≤ l
    · rw [if_pos c]
      by_cases c' : l ≤ x.2
      · rw [if_pos c']
        simp only [inB, c, c', decide_true, Bool.and_self, ↓reduceIte] at h
        exact h
      · rw [if_neg c']
        simp only [inB, c, c', decide_true, decide_false, Bool.and_false, Bool.false_eq_true, ↓reduceIte] at h
        exact h
    · rw [if_neg c]
      simp only [inB, c, decide_false, Bool.false_and, Bool.false_eq_true, ↓reduceIte] at h
      exact h
  · push_cast
    exact weak_now k

def S_Stretch_init : DSp := fun ds O P E => ∃ q lo hi, ds = [.ptr q, .int lo, .int hi] ∧ getC O q = some (.ins .Stretch [] []) ∧ (lo ≤ hi → P .non (setC O q (.ins .Stretch [.low, .high] [.int lo, .int hi]))) ∧ (hi < lo → E ⟨.BadStretch, [.low, .high], [.int lo, .int hi]⟩ O)
def N_Stretch_init : List Str := ["self", "low", "high"]
def T_Stretch_init_0 : DS := (dRaise .BadStretch [.low, .high] (dCons (dVar 1) (dCons (dVar 2) dNil)))
def T_Stretch_init_1 : DS := (dSeq (dSetF [.Stretch] .low (dVar 0) (dVar 1)) (dSetF [.Stretch] .high (dVar 0) (dVar 2)))
def T_Stretch_init : DS := (dSeq (dIfS (dTe (dOp fGt (dVar 1) (dVar 2))) T_Stretch_init_0 dNext) T_Stretch_init_1)

theorem pure_Stretch_init : Pure N_Stretch_init 3 S_Stretch_init T_Stretch_init := by
  rintro ds O P E ⟨q, lo, hi, rfl, hq, k, kx⟩
  refine ⟨rfl, Opn.now ?_⟩
  have gx : ∀ c, getC (setC O q c) q = some c := fun c => getC_setC hq
  have hs : startD N_Stretch_init [.ptr q, .int lo, .int hi] = [some (.ptr q), some (.int lo), some (.int hi)] := rfl
  rw [hs]
  unfold T_Stretch_init
  push_cast
  by_cases hn : hi < lo
  · rw [if_pos hn]
    unfold T_Stretch_init_0
    push_cast
    exact ⟨by decide, weak_now (kx hn)⟩
  · rw [if_neg hn]
    unfold T_Stretch_init_1
    push_cast [hq, gx]
    refine ⟨by decide, by decide, ?_⟩
    exact weak_now (k (by omega))
def S_Stretch_contains : DSp := fun ds O P E => ∃ x l, ds = [st x, .int l] ∧ P (.bl (inB l x)) O
def N_Stretch_contains : List Str := ["self", "level"]
def T_Stretch_contains : DS := (dRet (dChain fLe fLe (dFld [.Stretch] .low (dVar 0)) (dVar 1) (dFld [.Stretch] .high (dVar 0))))

theorem pure_Stretch_contains : Pure N_Stretch_contains 2 S_Stretch_contains T_Stretch_contains := by
  rintro ds O P E ⟨x, l, rfl, k⟩
  refine ⟨rfl, Opn.now ?_⟩
  have hs : startD N_Stretch_contains [st x, .int l] = [some (st x), some (.int l)] := rfl
  rw [hs]
  unfold T_Stretch_contains
  push_cast
  by_cases c : x.1 ≤ l
  · rw [if_pos c]
    refine weak_now ?_
    have e : inB l x = decide (l ≤ x.2) := by simp [inB, c]
    rw [← e]
    exact k
  · rw [if_neg c]
    refine weak_now ?_
    have e : inB l x = false := by simp [inB, c]
    rw [← e]
    exact k
def S_law_stays : DSp := fun ds O P E => ∃ xs : List (Int × Int), ds = [.lst (xs.map st), .lst (xs.map pr)] ∧ xs.length ≤ 1000 ∧ P (.bl true) O
def N_law_stays : List Str := ["_law_pieces", "_law_pairs_here", "_law_piece"]
def T_law_stays : DS := (dRet (dOp fEq (dLc (dItL (dVar 0)) (dgN 2) dYes (dTup (dCons (dFld [.Stretch] .low (dVar 2)) (dCons (dFld [.Stretch] .high (dVar 2)) dNil))) [2]) (dVar 1)))

theorem pure_law_stays : Pure N_law_stays 2 S_law_stays T_law_stays := by
  rintro ds O P E ⟨xs, rfl, hl, k⟩
  refine ⟨rfl, Opn.now ?_⟩
  have hs : startD N_law_stays [.lst (xs.map st), .lst (xs.map pr)] = [some (.lst (xs.map st)), some (.lst (xs.map pr)), none] := rfl
  rw [hs]
  unfold T_law_stays
  push_cast
  refine ⟨by omega, fun p hp => lc_map pr (fun x hx acc C h => ?_) ?_⟩
  · unfold lcStep
    push_cast
    exact h
  · push_cast [fEq, eq_prs, decide_true]
    exact weak_now k
def S_law_made : DSp := fun ds O P E => ∃ xs : List (Int × Int), ds = [.lst (xs.map pr)] ∧ xs.length ≤ 1000 ∧ (∀ x ∈ xs, ok2 x) ∧ P (.lst (xs.map st)) O
def N_law_made : List Str := ["_law_pairs_here", "_law_pair_here"]
def T_law_made : DS := (dRet (dLc (dItL (dVar 0)) (dgN 1) dYes (dMake .Stretch S_Stretch_init (dCons (dOp fIx (dVar 1) (dC (.int 0))) (dCons (dOp fIx (dVar 1) (dC (.int 1))) dNil))) [1]))

theorem pure_law_made : Pure N_law_made 1 S_law_made T_law_made := by
  rintro ds O P E ⟨xs, rfl, hl, ho, k⟩
  refine ⟨rfl, Opn.now ?_⟩
  have hs : startD N_law_made [.lst (xs.map pr)] = [some (.lst (xs.map pr)), none] := rfl
  rw [hs]
  unfold T_law_made
  push_cast
  refine ⟨by omega, fun p hp => lc_map st (fun x hx acc C h => ?_) (weak_now k)⟩
  unfold lcStep
  push_cast
  intro q hq
  refine ⟨q, x.1, x.2, rfl, getC_self, fun _ => ?_, fun z => absurd (ho x hx) (by unfold ok2; omega)⟩
  push_cast
  exact h
abbrev lv (xs : List (Int × Int)) : D := .obj .Levels [.pieces] [.lst (xs.map st)]
def S_merged : DSp := fun ds O P E => ∃ xs : List (Int × Int), ds = [.lst (xs.map pr)] ∧ xs.length ≤ 100000 ∧ P (.lst ((mrg xs).map pr)) O
def N_merged : List Str := ["pairs", "joined", "low", "high"]
def T_merged_0 : DS := (dSetIx (dVar 1) (dUn fNeg (dC (.int 1))) (dTup (dCons (dOp fIx (dOp fIx (dVar 1) (dUn fNeg (dC (.int 1)))) (dC (.int 0))) (dCons (dCB fMax2 (dCons (dVar 3) (dCons (dOp fIx (dOp fIx (dVar 1) (dUn fNeg (dC (.int 1)))) (dC (.int 1))) dNil))) dNil))))
def T_merged_1 : DS := (dExp (dApp (dVar 1) (dTup (dCons (dVar 2) (dCons (dVar 3) dNil)))))
def T_merged_2 : DS := (dIfS (dAnd (dTru (dVar 1)) (dTe (dOp fLe (dVar 2) (dOp fAdd (dOp fIx (dOp fIx (dVar 1) (dUn fNeg (dC (.int 1)))) (dC (.int 1))) (dC (.int 1)))))) T_merged_0 T_merged_1)
def T_merged_3 : DS := (dSeq (dFor (dItL (dCB fSortP (dCons (dVar 0) dNil))) (dgT [2, 3]) T_merged_2) (dRet (dFrz (dVar 1))))
def T_merged : DS := (dSeq (dAsg 1 (dLstO dNil)) T_merged_3)

theorem pure_merged : Pure N_merged 1 S_merged T_merged := by
  rintro ds O P E ⟨xs, rfl, hl, k⟩
  refine ⟨rfl, Opn.now ?_⟩
  have hs : startD N_merged [.lst (xs.map pr)] = [some (.lst (xs.map pr)), none, none, none] := rfl
  rw [hs]
  unfold T_merged
  push_cast
  intro p hp
  unfold T_merged_3
  push_cast
  refine for_inv2 (emb := pr) (I := fun l Δ O1 => ∃ z2 z3, O1 = (p, .lst ((l.foldl mStep []).reverse.map pr)) :: O ∧ Δ = [some (.lst (xs.map pr)), some (.ptr p), z2, z3]) ⟨none, none, rfl, rfl⟩ ?_ ?_
  · rintro Δ O1 ⟨z2, z3, rfl, rfl⟩
    push_cast
    exact weak_now k
  · rintro l x r e Δ O1 K ⟨z2, z3, rfl, rfl⟩ hK
    have hlen : (l.foldl mStep []).length ≤ l.length := by
      clear hK k e
      have : ∀ (l acc : List (Int × Int)), (l.foldl mStep acc).length ≤ acc.length + l.length := by
        intro l
        induction l with
        | nil => intro acc; simp
        | cons y l ih =>
          intro acc
          rw [List.foldl_cons]
          refine Nat.le_trans (ih _) ?_
          have : (mStep acc y).length ≤ acc.length + 1 := by
            cases acc with
            | nil => simp [mStep]
            | cons a r => simp only [mStep]; split <;> simp
          simp only [List.length_cons]
          omega
      simpa using this l []
    have hll : l.length + 1 ≤ xs.length := by rw [← (srtP_perm xs).length_eq, e]; simp
    have ef : ∀ y, mStep (l.foldl mStep []) y = (l ++ [y]).foldl mStep [] := fun y => by rw [List.foldl_append]; rfl
    push_cast
    unfold T_merged_2
    push_cast
    cases ea : l.foldl mStep [] with
    | nil =>
      have tp : truD ((p, Cell.lst ((([] : List (Int × Int)).reverse).map pr)) :: O) (.ptr p) = some false := by rw [truP getC_self]; rfl
      rw [ea] at ef
      push_cast [tp]
      unfold T_merged_1
      push_cast [List.reverse_nil, List.map_nil, List.nil_append]
      refine ⟨by rw [sizeLine_eq]; omega, hK _ _ ⟨some (.int x.1), some (.int x.2), ?_, rfl⟩⟩
      rw [← ef]
      rfl
    | cons a r' =>
      have tp : truD ((p, Cell.lst (((a :: r').reverse).map pr)) :: O) (.ptr p) = some true := by rw [truP getC_self]; simp
      have er : ((a :: r').reverse).map pr = r'.reverse.map pr ++ [pr a] := by simp
      rw [ea] at ef
      rw [ea] at hlen
      push_cast [tp]
      simp only [er]
      push_cast [at_m1]
      by_cases c : x.1 ≤ a.2 + 1
      · rw [if_pos c]
        unfold T_merged_0
        push_cast [at_m1, set_m1]
        refine hK _ _ ⟨some (.int x.1), some (.int x.2), ?_, rfl⟩
        rw [← ef]
        simp only [mStep, if_pos c]
        simp
      · rw [if_neg c]
        unfold T_merged_1
        push_cast
        refine ⟨by simp only [List.length_append, List.length_map, List.length_reverse, List.length_cons, List.length_nil] at *; rw [sizeLine_eq]; omega, hK _ _ ⟨some (.int x.1), some (.int x.2), ?_, rfl⟩⟩
        rw [← ef]
        simp only [mStep, if_neg c]
        simp
def S_Levels_init : DSp := fun ds O P E => ∃ (q : Addr) (xs : List (Int × Int)), ds = [.ptr q, .tup (xs.map st)] ∧ getC O q = some (.ins .Levels [] []) ∧ (∀ x ∈ xs, x.1 ≤ x.2) ∧ xs.length ≤ 100000 ∧ P .non (setC O q (.ins .Levels [.pieces] [.lst ((mrg xs).map st)]))
def N_Levels_init : List Str := ["self", "stretches", "pairs", "piece", "low", "high"]
def T_Levels_init_0 : DS := (dSetF [.Levels] .pieces (dVar 0) (dLc (dItL (dVar 2)) (dgT [4, 5]) dYes (dMake .Stretch S_Stretch_init (dCons (dVar 4) (dCons (dVar 5) dNil))) [4, 5]))
def T_Levels_init : DS := (dSeq (dAsg 2 (dCall S_merged (dCons (dLc (dItT (dVar 1)) (dgN 3) dYes (dTup (dCons (dFld [.Stretch] .low (dVar 3)) (dCons (dFld [.Stretch] .high (dVar 3)) dNil))) [3]) dNil))) T_Levels_init_0)

theorem pure_Levels_init : Pure N_Levels_init 2 S_Levels_init T_Levels_init := by
  rintro ds O P E ⟨q, xs, rfl, hq, ho, hl, k⟩
  refine ⟨rfl, Opn.now ?_⟩
  have gx : ∀ c, getC (setC O q c) q = some c := fun c => getC_setC hq
  have hs : startD N_Levels_init [.ptr q, .tup (xs.map st)] = [some (.ptr q), some (.tup (xs.map st)), none, none, none, none] := rfl
  rw [hs]
  unfold T_Levels_init
  push_cast
  refine ⟨by omega, fun p hp => lc_map pr (fun x hx acc C h => ?_) ?_⟩
  · unfold lcStep
    push_cast
    exact h
  · push_cast
    refine ⟨xs, rfl, hl, ?_⟩
    unfold T_Levels_init_0
    push_cast [hq]
    refine ⟨by have := mrg_len ho; omega, fun p hp => lc_map st (fun x hx acc C h => ?_) ?_⟩
    · unfold lcStep
      push_cast
      intro q' hq'
      refine ⟨q', x.1, x.2, rfl, getC_self, fun _ => ?_, fun z => ?_⟩
      · push_cast
        exact h
      · have := (mrg_norm ho).ok x hx
        omega
    · push_cast [hq]
      exact ⟨by decide, weak_now k⟩
theorem mk_levels {xs : List (Int × Int)} {O : Sto} {P : KD} {E : KX} (ho : ∀ x ∈ xs, x.1 ≤ x.2) (hl : xs.length ≤ 90000) (k : P (lv (mrg xs)) O) : mkK .Levels (starS 1 S_Levels_init) (xs.map st) O P E := by
  intro q hq
  refine ⟨by simp, by simp; omega, q, xs, by simp, getC_self, ho, by omega, rfl, ?_⟩
  push_cast
  exact k
def S_Levels_ends : DSp := fun ds O P E => ∃ xs, ds = [lv xs] ∧ xs.length ≤ 1000000 ∧ P (.lst (xs.map pr)) O
def N_Levels_ends : List Str := ["self", "piece"]
def T_Levels_ends : DS := (dRet (dLc (dItL (dFld [.Levels] .pieces (dVar 0))) (dgN 1) dYes (dTup (dCons (dFld [.Stretch] .low (dVar 1)) (dCons (dFld [.Stretch] .high (dVar 1)) dNil))) [1]))

theorem pure_Levels_ends : Pure N_Levels_ends 1 S_Levels_ends T_Levels_ends := by
  rintro ds O P E ⟨xs, rfl, hl, k⟩
  refine ⟨rfl, Opn.now ?_⟩
  have hs : startD N_Levels_ends [lv xs] = [some (lv xs), none] := rfl
  rw [hs]
  unfold T_Levels_ends
  push_cast
  refine ⟨hl, fun p hp => lc_map pr (fun x hx acc C h => ?_) (weak_now k)⟩
  unfold lcStep
  push_cast
  exact h
theorem meet_norm {xs ys : List (Int × Int)} (hx : Norm xs) (hy : Norm ys) : Norm (meetL xs ys) := by
  refine ⟨?_, meet_ok hx.ok hy.ok⟩
  unfold meetL
  rw [List.pairwise_flatMap]
  refine ⟨fun x _ => ?_, hx.gap.imp_of_mem fun {x x'} hx1 hx2 hxx => ?_⟩
  · rw [List.pairwise_filterMap]
    refine hy.gap.imp fun {a b} hab z hz w hw => ?_
    simp only [Option.ite_none_right_eq_some, Option.some.injEq] at hz hw
    obtain ⟨_, rfl⟩ := hz
    obtain ⟨_, rfl⟩ := hw
    simp only
    omega
  · intro z hz w hw
    obtain ⟨a, _, ha⟩ := List.mem_filterMap.mp hz
    obtain ⟨b, _, hb⟩ := List.mem_filterMap.mp hw
    simp only [Option.ite_none_right_eq_some, Option.some.injEq] at ha hb
    obtain ⟨_, rfl⟩ := ha
    obtain ⟨_, rfl⟩ := hb
    simp only
    omega
theorem meet_eq {xs ys : List (Int × Int)} (hx : Norm xs) (hy : Norm ys) : meetL xs ys = andL xs ys := norm_uniq (meet_norm hx hy) (and_norm hx.ok hy.ok) fun l => by rw [meet_mem, and_mem hx.ok hy.ok]
theorem meet_le {xs ys : List (Int × Int)} (hx : Norm xs) (hy : Norm ys) : (meetL xs ys).length ≤ xs.length + ys.length := by
  rw [meet_eq hx hy]
  exact and_len hx.ok hy.ok
theorem sh_low {xs ys : List (Int × Int)} {n : Int} (hn : Norm ys) (hm : ∀ l, mem ys l = decide (n ≤ (dep xs l : Int))) {y : Int × Int} (hy : y ∈ ys) : y.1 ∈ xs.map (·.1) := by
  have a := (norm_low hn hy).1
  have b := (norm_low hn hy).2
  rw [hm] at a b
  have a := of_decide_eq_true a
  have b := of_decide_eq_false b
  have key : dep xs (y.1 - 1) < dep xs y.1 := by omega
  apply Classical.byContradiction
  intro hno
  have : dep xs y.1 ≤ dep xs (y.1 - 1) := by
    unfold dep
    have : xs.filter (inB y.1) = (xs.filter (inB (y.1 - 1))).filter (inB y.1) := by
      rw [List.filter_filter]
      apply List.filter_congr
      intro x hx
      have hne : x.1 ≠ y.1 := fun e => hno (List.mem_map.mpr ⟨x, hx, e⟩)
      rw [Bool.eq_iff_iff, Bool.and_eq_true, inB_iff, inB_iff]
      omega
    rw [this]
    exact List.length_filter_le _ _
  omega
theorem sh_high {xs ys : List (Int × Int)} {n : Int} (hn : Norm ys) (hm : ∀ l, mem ys l = decide (n ≤ (dep xs l : Int))) {y : Int × Int} (hy : y ∈ ys) : y.2 ∈ xs.map (·.2) := by
  have a := (norm_high hn hy).1
  have b := (norm_high hn hy).2
  rw [hm] at a b
  have a := of_decide_eq_true a
  have b := of_decide_eq_false b
  have key : dep xs (y.2 + 1) < dep xs y.2 := by omega
  apply Classical.byContradiction
  intro hno
  have : dep xs y.2 ≤ dep xs (y.2 + 1) := by
    unfold dep
    have : xs.filter (inB y.2) = (xs.filter (inB (y.2 + 1))).filter (inB y.2) := by
      rw [List.filter_filter]
      apply List.filter_congr
      intro x hx
      have hne : x.2 ≠ y.2 := fun e => hno (List.mem_map.mpr ⟨x, hx, e⟩)
      rw [Bool.eq_iff_iff, Bool.and_eq_true, inB_iff, inB_iff]
      omega
    rw [this]
    exact List.length_filter_le _ _
  omega
/-- the greatest depth -/
def mostD (xs : List (Int × Int)) : Int := maxL (xs.map fun x => (dep xs x.1 : Int))
theorem dep_sub {xs : List (Int × Int)} {l m : Int} (h : ∀ x ∈ xs, inB l x = true → inB m x = true) : dep xs l ≤ dep xs m := by
  unfold dep
  have : xs.filter (inB l) = (xs.filter (inB m)).filter (inB l) := by
    rw [List.filter_filter]
    apply List.filter_congr
    intro x hx
    rw [Bool.eq_iff_iff, Bool.and_eq_true]
    exact ⟨fun q => ⟨q, h x hx q⟩, fun q => q.1⟩
  rw [this]
  exact List.length_filter_le _ _
theorem most_le {xs : List (Int × Int)} (hn : 0 < xs.length) (l : Int) : (dep xs l : Int) ≤ mostD xs := by
  obtain ⟨m1, m2⟩ := maxL_mem (ns := xs.map fun x => (dep xs x.1 : Int)) (by simpa using hn)
  by_cases c : dep xs l = 0
  · obtain ⟨x, hx⟩ := List.exists_mem_of_length_pos hn
    have : (dep xs x.1 : Int) ≤ mostD xs := m2 _ (List.mem_map.mpr ⟨x, hx, rfl⟩)
    omega
  · have hz : 0 < ((xs.filter (inB l)).map (·.1)).length := by rw [List.length_map]; show 0 < dep xs l; omega
    obtain ⟨q1, q2⟩ := maxL_mem hz
    obtain ⟨z, hz1, ez⟩ := List.mem_map.mp q1
    rw [List.mem_filter] at hz1
    have zl := inB_iff.mp hz1.2
    have : dep xs l ≤ dep xs z.1 := dep_sub fun x hx h => by
      have hx' := inB_iff.mp h
      have : x.1 ≤ maxL ((xs.filter (inB l)).map (·.1)) := q2 _ (List.mem_map.mpr ⟨x, List.mem_filter.mpr ⟨hx, h⟩, rfl⟩)
      rw [inB_iff]
      omega
    have b : (dep xs z.1 : Int) ≤ mostD xs := m2 _ (List.mem_map.mpr ⟨z, hz1.1, rfl⟩)
    omega
theorem most_pos {xs : List (Int × Int)} (ho : ∀ x ∈ xs, x.1 ≤ x.2) (hn : 0 < xs.length) : 1 ≤ mostD xs := by
  obtain ⟨x, hx⟩ := List.exists_mem_of_length_pos hn
  have : 0 < dep xs x.1 := by
    unfold dep
    exact List.length_pos_of_mem (List.mem_filter.mpr ⟨hx, inB_iff.mpr ⟨Int.le_refl _, ho x hx⟩⟩)
  have := most_le hn x.1
  omega
def S_depth : DSp := fun ds O P E => ∃ (xs : List (Int × Int)) (l : Int), ds = [.lst (xs.map st), .int l] ∧ xs.length ≤ 1000 ∧ P (.int (((xs.filter (inB l)).length : Nat) : Int)) O
def N_depth : List Str := ["stretches", "level", "piece"]
def T_depth : DS := (dRet (dCB fLen (dCons (dLc (dItL (dVar 0)) (dgN 2) (dTe (dInOwn [(.Stretch, S_Stretch_contains)] (dVar 1) (dVar 2))) (dVar 2) [2]) dNil)))

theorem pure_depth : Pure N_depth 2 S_depth T_depth := by
  rintro ds O P E ⟨xs, l, rfl, hl, k⟩
  refine ⟨rfl, Opn.now ?_⟩
  have hs : startD N_depth [.lst (xs.map st), .int l] = [some (.lst (xs.map st)), some (.int l), none] := rfl
  rw [hs]
  unfold T_depth
  push_cast
  refine ⟨by omega, fun p hp => lc_filter st (inB l) (fun x hx acc C h => ?_) ?_⟩
  · unfold lcStep
    push_cast
    refine ⟨x, l, rfl, ?_⟩
    push_cast
    cases e : inB l x with
    | true => rw [e] at h; exact h
    | false => rw [e] at h; exact h
  · push_cast
    exact weak_now k
def S_shared : DSp := fun ds O P E => ∃ (xs : List (Int × Int)) (n : Int), ds = [.lst (xs.map st), .int n] ∧ (∀ x ∈ xs, x.1 ≤ x.2) ∧ xs.length ≤ 1000 ∧
  (1 ≤ n → ∀ ys, Norm ys → (∀ l, mem ys l = decide (n ≤ (dep xs l : Int))) → ys.length ≤ 2 * xs.length → P (lv ys) O) ∧ (n < 1 → E ⟨.BadNeed, [.number], [.int n]⟩ O)
def N_shared : List Str := ["stretches", "need", "changes", "piece", "spots", "count", "found", "at", "spot"]
def T_shared_0 : DS := (dSetD (dVar 2) (dOp fAdd (dFld [.Stretch] .high (dVar 3)) (dC (.int 1))) (dOp fSub (dDget2 (dVar 2) (dOp fAdd (dFld [.Stretch] .high (dVar 3)) (dC (.int 1))) (dC (.int 0))) (dC (.int 1))))
def T_shared_1 : DS := (dSeq (dSetD (dVar 2) (dFld [.Stretch] .low (dVar 3)) (dOp fAdd (dDget2 (dVar 2) (dFld [.Stretch] .low (dVar 3)) (dC (.int 0))) (dC (.int 1)))) T_shared_0)
def T_shared_2 : DS := (dExp (dApp (dVar 6) (dMake .Stretch S_Stretch_init (dCons (dVar 8) (dCons (dOp fSub (dOp fIx (dVar 4) (dOp fAdd (dVar 7) (dC (.int 1)))) (dC (.int 1))) dNil)))))
def T_shared_3 : DS := (dSeq (dAug 5 fAddI (dDix (dVar 2) (dVar 8))) (dIfS (dTe (dOp fGe (dVar 5) (dVar 1))) T_shared_2 dNext))
def T_shared_4 : DS := (dRet (dMakeC [(.Levels, (starS 1 S_Levels_init))] (dC (.cls .Levels)) (dStar (dVar 6) dNil)))
def T_shared_5 : DS := (dSeq (dFor (dEnum (dCons (dVar 4) dNil)) (dgT [7, 8]) T_shared_3) T_shared_4)
def T_shared_6 : DS := (dSeq (dAsg 5 (dC (.int 0))) (dSeq (dAsg 6 (dLstO dNil)) T_shared_5))
def T_shared_7 : DS := (dSeq (dAsg 4 (dCB fSortI (dCons (dCB fListD (dCons (dVar 2) dNil)) dNil))) T_shared_6)
def T_shared_8 : DS := (dSeq (dAsg 2 dDNew) (dSeq (dFor (dItL (dVar 0)) (dgN 3) T_shared_1) T_shared_7))
def T_shared : DS := (dSeq (dIfS (dTe (dOp fLt (dVar 1) (dC (.int 1)))) (dRaise .BadNeed [.number] (dCons (dVar 1) dNil)) dNext) T_shared_8)

def chF (xs : List (Int × Int)) : Key → D
  | .inl k => .int (dlt xs k)
  | .inr _ => .non
theorem chF_getD {xs : List (Int × Int)} {k : Int} {ks : List Key} (h : .inl k ∉ ks → dlt xs k = 0) : (getK (.inl k) ks (ks.map (chF xs))).getD (.int 0) = .int (dlt xs k) := by
  rw [getK_fun]
  by_cases c : (.inl k : Key) ∈ ks
  · rw [if_pos c]; rfl
  · rw [if_neg c, h c]; rfl
theorem dlt_no {xs : List (Int × Int)} {k : Int} (h : ¬ ∃ x ∈ xs, k = x.1 ∨ k = x.2 + 1) : dlt xs k = 0 := by
  induction xs with
  | nil => rfl
  | cons x xs ih =>
    have h1 : ¬ x.1 = k := fun e => h ⟨x, List.mem_cons_self, .inl e.symm⟩
    have h2 : ¬ x.2 + 1 = k := fun e => h ⟨x, List.mem_cons_self, .inr e.symm⟩
    rw [dlt, if_neg h1, if_neg h2, ih fun ⟨y, hy, e⟩ => h ⟨y, List.mem_cons_of_mem _ hy, e⟩]
    rfl
theorem pure_shared : Pure N_shared 2 S_shared T_shared := by
  rintro ds O P E ⟨xs, n, rfl, ho, hl, k, kx⟩
  refine ⟨rfl, Opn.now ?_⟩
  have hs : startD N_shared [.lst (xs.map st), .int n] = [some (.lst (xs.map st)), some (.int n), none, none, none, none, none, none, none] := rfl
  rw [hs]
  unfold T_shared
  push_cast
  by_cases hn : n < 1
  · rw [if_pos hn]
    exact ⟨by decide, weak_now (kx hn)⟩
  rw [if_neg hn]
  unfold T_shared_8
  push_cast
  intro p hp
  refine for_inv2 (emb := st) (I := fun l Δ O1 => ∃ (ks : List Key) (z3 : Option D), O1 = (p, .dic ks (ks.map (chF l))) :: O ∧ ks.Nodup ∧ ks.length ≤ 2 * l.length ∧ (∀ key, key ∈ ks ↔ ∃ s, key = .inl s ∧ ∃ x ∈ l, s = x.1 ∨ s = x.2 + 1) ∧ Δ = [some (.lst (xs.map st)), some (.int n), some (.ptr p), z3, none, none, none, none, none]) ⟨[], none, rfl, .nil, by simp, by simp, rfl⟩ ?_ ?_
  · rintro Δ O1 ⟨ks, z3, rfl, nd, hlen, hk, rfl⟩
    unfold T_shared_7
    have dp : ∀ ks ds, dicOf ((p, Cell.dic ks ds) :: O) (.ptr p) = some (ks, ds) := fun ks ds => dicP getC_self
    obtain ⟨ns, en⟩ : ∃ ns : List Int, ks = ns.map Sum.inl := by
      clear hlen nd
      have : ∀ key ∈ ks, ∃ s, key = Sum.inl s := fun key h => by obtain ⟨s, e, _⟩ := (hk key).mp h; exact ⟨s, e⟩
      clear hk dp
      induction ks with
      | nil => exact ⟨[], rfl⟩
      | cons a ks ih =>
        obtain ⟨ns, e⟩ := ih fun key h => this key (List.mem_cons_of_mem _ h)
        obtain ⟨s, e'⟩ := this a List.mem_cons_self
        exact ⟨s :: ns, by rw [e, e']; rfl⟩
    subst en
    have ek : (ns.map (Sum.inl : Int → Key)).map kD = ns.map D.int := by rw [List.map_map]; rfl
    push_cast [fListD, dp, ek]
    have S : Spots xs (srtI ns) := by
      refine ⟨?_, fun s => ?_⟩
      · have nd' : (srtI ns).Nodup := (srtI_perm ns).nodup_iff.mpr (by
          have := List.pairwise_map.mp nd
          exact this.imp fun h e => h (by rw [e]))
        have so := srtI_sorted ns
        exact (List.pairwise_and_iff.mpr ⟨so, nd'⟩).imp fun h => by omega
      · rw [(srtI_perm ns).mem_iff]
        constructor
        · intro h
          obtain ⟨t, e, q⟩ := (hk (.inl s)).mp (List.mem_map.mpr ⟨s, h, rfl⟩)
          cases e
          exact q
        · intro h
          obtain ⟨t, ht, e⟩ := List.mem_map.mp ((hk (.inl s)).mpr ⟨s, rfl, h⟩)
          cases e
          exact ht
    generalize hsp : srtI ns = sp at S
    have hspl : sp.length ≤ 2 * xs.length := by rw [← hsp, (srtI_perm ns).length_eq]; simpa using hlen
    unfold T_shared_6
    push_cast
    intro p2 hp2
    unfold T_shared_5
    have ne : p ≠ p2 := hp2 _ List.mem_cons_self
    push_cast [enum_map]
    have gd : ∀ c, getC ((p2, c) :: (p, Cell.dic (ns.map Sum.inl) ((ns.map Sum.inl).map (chF xs))) :: O) p = some (.dic (ns.map Sum.inl) ((ns.map Sum.inl).map (chF xs))) := fun c => by rw [getC_other ne, getC_self]
    have rk := raw_ok S (show 1 ≤ n by omega)
    refine for_inv2 (emb := fun p : Int × Nat => (.tup [.int (p.2 : Int), .int p.1] : D)) (I := fun l Δ O1 => ∃ (z7 z8 : Option D), O1 = (p2, .lst ((raw xs n sp l).map st)) :: (p, .dic (ns.map Sum.inl) ((ns.map Sum.inl).map (chF xs))) :: O ∧ Δ = [some (.lst (xs.map st)), some (.int n), some (.ptr p), z3, some (.lst (sp.map D.int)), some (.int (sumD xs (l.map (·.1)))), some (.ptr p2), z7, z8]) ⟨none, none, rfl, rfl⟩ ?_ ?_
    · rintro Δ O1 ⟨z7, z8, rfl, rfl⟩
      unfold T_shared_4
      have sq : seqOf ((p2, Cell.lst ((raw xs n sp sp.zipIdx).map st)) :: (p, Cell.dic (ns.map Sum.inl) ((ns.map Sum.inl).map (chF xs))) :: O) (.ptr p2) = some ((raw xs n sp sp.zipIdx).map st) := seqP getC_self
      push_cast [sq, List.append_nil]
      refine mk_levels rk.1 (by have := rk.2.2; omega) ⟨O, Weak.cons2 (Weak.cons2 (Weak.refl O)), ?_⟩
      refine k (by omega) _ (mrg_norm rk.1) (fun l => by rw [mrg_mem rk.1, rk.2.1]) ?_
      have := mrg_len rk.1
      omega
    · rintro l x r e Δ O1 K ⟨z7, z8, rfl, rfl⟩ hK
      obtain ⟨e1, e2, e3⟩ := zip_pre e
      obtain ⟨hi, e4⟩ := List.getElem?_eq_some_iff.mp e3
      have etk : sp.take (l.length + 1) = l.map (·.1) ++ [x.1] := by
        have e5 : sp = (l.map (·.1) ++ [x.1]) ++ r.map (·.1) := by rw [List.append_assoc]; exact e2
        rw [e5]
        exact List.take_left' (by simp)
      have esum : sumD xs (l.map (·.1)) + dlt xs x.1 = (dep xs x.1 : Int) := by
        have z := spots_dep S ho hi
        rw [etk, sumD_app, e4] at z
        exact z
      have gk : getK (.inl x.1) (ns.map Sum.inl) ((ns.map Sum.inl).map (chF xs)) = some (.int (dlt xs x.1)) := by
        rw [getK_fun, if_pos]
        · rfl
        · refine List.mem_map.mpr ⟨x.1, ?_, rfl⟩
          rw [← (srtI_perm ns).mem_iff, hsp, ← e4]
          exact List.getElem_mem _
      have dp2 : ∀ c, dicOf ((p2, c) :: (p, Cell.dic (ns.map Sum.inl) ((ns.map Sum.inl).map (chF xs))) :: O) (.ptr p) = some (ns.map Sum.inl, (ns.map Sum.inl).map (chF xs)) := fun c => dicP (gd c)
      have es : sumD xs ((l ++ [x]).map (·.1)) = (dep xs x.1 : Int) := by rw [List.map_append, List.map_cons, List.map_nil, sumD_app, esum]
      push_cast
      unfold T_shared_3
      push_cast [dp2, gk, esum]
      by_cases c : n ≤ (dep xs x.1 : Int)
      · rw [if_pos c]
        obtain ⟨hj, hlt⟩ := spots_next S (show 1 ≤ n by omega) hi (by rw [e4]; exact c)
        have at1 : atI (sp.map D.int) ((x.2 : Int) + 1) = some (.int sp[l.length + 1]) := by
          have e5 : ((x.2 : Int) + 1) = ((l.length + 1 : Nat) : Int) := by omega
          rw [e5]
          exact atI_nat (by rw [List.getElem?_map, List.getElem?_eq_getElem hj]; rfl)
        unfold T_shared_2
        push_cast [at1]
        intro q hq
        have nq : p2 ≠ q := hq _ List.mem_cons_self
        refine ⟨q, _, _, rfl, getC_self, fun _ => ?_, fun z => absurd z (by omega)⟩
        push_cast
        refine ⟨?_, hK _ _ ⟨some (.int x.2), some (.int x.1), ?_, ?_⟩⟩
        · have : (raw xs n sp l).length ≤ l.length := List.length_filterMap_le _ _
          rw [sizeLine_eq]
          omega
        · have er : raw xs n sp (l ++ [x]) = raw xs n sp l ++ [(x.1, sp[l.length + 1] - 1)] := by
            unfold raw
            rw [List.filterMap_append, List.filterMap_cons_some (b := (x.1, sp[l.length + 1] - 1)), List.filterMap_nil]
            rw [if_pos c, List.getD_eq_getElem?_getD, e1, List.getElem?_eq_getElem hj]
            rfl
          rw [er, List.map_append]
          rfl
        · rw [es]
      · rw [if_neg c]
        refine hK _ _ ⟨some (.int x.2), some (.int x.1), ?_, ?_⟩
        · have er : raw xs n sp (l ++ [x]) = raw xs n sp l := by
            unfold raw
            rw [List.filterMap_append, List.filterMap_cons_none (by rw [if_neg c]), List.filterMap_nil, List.append_nil]
          rw [er]
        · rw [es]
  · rintro l x r e Δ O1 K ⟨ks, z3, rfl, nd, hlen, hk, rfl⟩ hK
    have hll : l.length + 1 ≤ xs.length := by rw [e]; simp
    have dp : ∀ ks ds, dicOf ((p, Cell.dic ks ds) :: O) (.ptr p) = some (ks, ds) := fun ks ds => dicP getC_self
    have z1 : ∀ s, (.inl s : Key) ∉ ks → dlt l s = 0 := fun s h => dlt_no fun q => h ((hk _).mpr ⟨s, rfl, q⟩)
    push_cast
    unfold T_shared_1
    push_cast [dp, chF_getD (z1 x.1)]
    refine ⟨nd, by omega, ?_⟩
    rw [putKd_fun nd]
    have nd2 := putKs_nd (k := .inl x.1) nd
    have hle := putKs_le (k := .inl x.1) (ks := ks)
    generalize hks2 : putKs (.inl x.1) ks = ks2 at nd2 hle
    have hk2 : ∀ key, key ∈ ks2 ↔ key = .inl x.1 ∨ key ∈ ks := fun key => by rw [← hks2]; exact putKs_mem
    have gk : (getK (.inl (x.2 + 1)) ks2 (ks2.map fun j => if j = (.inl x.1 : Key) then D.int (dlt l x.1 + 1) else chF l j)).getD (.int 0) = .int (dlt l (x.2 + 1) + (if x.1 = x.2 + 1 then 1 else 0)) := by
      rw [getK_fun]
      by_cases c : (.inl (x.2 + 1) : Key) ∈ ks2
      · rw [if_pos c]
        by_cases c2 : x.1 = x.2 + 1
        · rw [if_pos c2, if_pos (by rw [c2])]
          rw [c2]
          rfl
        · rw [if_neg c2, if_neg (fun e => c2 (Sum.inl.inj e).symm)]
          simp [chF]
      · rw [if_neg c]
        have c2 : ¬ x.1 = x.2 + 1 := fun e => c ((hk2 _).mpr (.inl (by rw [e])))
        rw [if_neg c2, z1 (x.2 + 1) (fun h => c ((hk2 _).mpr (.inr h)))]
        rfl
    unfold T_shared_0
    push_cast [dp, gk]
    refine ⟨nd2, by omega, ?_⟩
    rw [putKd_fun nd2]
    have nd3 := putKs_nd (k := .inl (x.2 + 1)) nd2
    have hle3 := putKs_le (k := .inl (x.2 + 1)) (ks := ks2)
    generalize hks3 : putKs (.inl (x.2 + 1)) ks2 = ks3 at nd3 hle3
    have hk3 : ∀ key, key ∈ ks3 ↔ key = .inl (x.2 + 1) ∨ key ∈ ks2 := fun key => by rw [← hks3]; exact putKs_mem
    refine hK _ _ ⟨ks3, some (st x), ?_, nd3, by rw [List.length_append, List.length_singleton]; omega, fun key => ?_, rfl⟩
    · congr 3
      apply List.map_congr_left
      intro key _
      cases key with
      | inr s => simp [chF]
      | inl s =>
        simp only [chF, dlt_app, Sum.inl.injEq]
        by_cases c1 : s = x.2 + 1
        · subst c1
          simp only [↓reduceIte]
        · have c1' : ¬ x.2 + 1 = s := fun e => c1 e.symm
          simp only [c1, c1', ↓reduceIte]
          by_cases c2 : s = x.1
          · subst c2
            simp
          · have c2' : ¬ x.1 = s := fun e => c2 e.symm
            simp [c2, c2']
    · rw [hk3, hk2, hk]
      constructor
      · rintro (e | e | ⟨s, e, y, hy, q⟩)
        · exact ⟨_, e, x, by simp, .inr rfl⟩
        · exact ⟨_, e, x, by simp, .inl rfl⟩
        · exact ⟨s, e, y, by simp [hy], q⟩
      · rintro ⟨s, e, y, hy, q⟩
        rcases List.mem_append.mp hy with hy | hy
        · exact .inr (.inr ⟨s, e, y, hy, q⟩)
        · rw [List.mem_singleton.mp hy] at q
          rcases q with q | q
          · exact .inr (.inl (by rw [e, q]))
          · exact .inl (by rw [e, q])
def S_most_shared : DSp := fun ds O P E => ∃ (xs : List (Int × Int)), ds = [.lst (xs.map st)] ∧ (∀ x ∈ xs, x.1 ≤ x.2) ∧ xs.length ≤ 1000 ∧
  (0 < xs.length → ∀ ys, Norm ys → (∀ l, mem ys l = decide (mostD xs ≤ (dep xs l : Int))) → ys.length ≤ 2 * xs.length → P (.tup [.int (mostD xs), lv ys]) O) ∧ (xs = [] → E ⟨.NoLevel, [], []⟩ O)
def N_most_shared : List Str := ["stretches", "count", "piece"]
def T_most_shared_0 : DS := (dRet (dTup (dCons (dVar 1) (dCons (dCall S_shared (dCons (dVar 0) (dCons (dVar 1) dNil))) dNil))))
def T_most_shared_1 : DS := (dSeq (dAsg 1 (dCB fMaxL (dCons (dLc (dItL (dVar 0)) (dgN 2) dYes (dCall S_depth (dCons (dVar 0) (dCons (dFld [.Stretch] .low (dVar 2)) dNil))) [2]) dNil))) T_most_shared_0)
def T_most_shared : DS := (dSeq (dIfS (dNot (dTru (dVar 0))) (dRaiseT .NoLevel) dNext) T_most_shared_1)

theorem pure_most_shared : Pure N_most_shared 1 S_most_shared T_most_shared := by
  rintro ds O P E ⟨xs, rfl, ho, hl, k, kx⟩
  refine ⟨rfl, Opn.now ?_⟩
  have hs : startD N_most_shared [.lst (xs.map st)] = [some (.lst (xs.map st)), none, none] := rfl
  rw [hs]
  unfold T_most_shared
  cases hx : xs with
  | nil =>
    push_cast [List.map_nil, List.isEmpty_nil]
    exact weak_now (kx hx)
  | cons x0 xs0 =>
    rw [← hx]
    have hne : (xs.map st).isEmpty = false := by rw [hx]; rfl
    have hpos : 0 < xs.length := by rw [hx]; simp
    push_cast [hne]
    unfold T_most_shared_1
    push_cast
    refine ⟨by omega, fun p hp => lc_map (fun x => D.int (dep xs x.1 : Int)) (fun x hx acc C h => ?_) ?_⟩
    · unfold lcStep
      push_cast
      refine ⟨xs, x.1, rfl, hl, ?_⟩
      push_cast
      exact h
    · have e : xs.map (fun x => D.int (dep xs x.1 : Int)) = (xs.map fun x => (dep xs x.1 : Int)).map D.int := by rw [List.map_map]; rfl
      rw [e]
      push_cast
      refine ⟨hpos, ?_⟩
      have em : maxL (xs.map fun x => (dep xs x.1 : Int)) = mostD xs := rfl
      rw [em]
      unfold T_most_shared_0
      push_cast
      refine ⟨xs, _, rfl, ho, hl, fun _ ys h1 h2 h3 => ?_, fun z => absurd z (by have := most_pos ho hpos; omega)⟩
      push_cast
      exact weak_now (k hpos ys h1 h2 h3)
def S_least_liars : DSp := fun ds O P E => ∃ (xs : List (Int × Int)), ds = [.lst (xs.map st)] ∧ (∀ x ∈ xs, x.1 ≤ x.2) ∧ xs.length ≤ 1000 ∧ P (.int (if xs = [] then 0 else (xs.length : Int) - mostD xs)) O
def N_least_liars : List Str := ["stretches"]
def T_least_liars_0 : DS := (dRet (dOp fSub (dCB fLen (dCons (dVar 0) dNil)) (dOp fIx (dCall S_most_shared (dCons (dVar 0) dNil)) (dC (.int 0)))))
def T_least_liars : DS := (dSeq (dIfS (dNot (dTru (dVar 0))) (dRet (dC (.int 0))) dNext) T_least_liars_0)

theorem pure_least_liars : Pure N_least_liars 1 S_least_liars T_least_liars := by
  rintro ds O P E ⟨xs, rfl, ho, hl, k⟩
  refine ⟨rfl, Opn.now ?_⟩
  have hs : startD N_least_liars [.lst (xs.map st)] = [some (.lst (xs.map st))] := rfl
  rw [hs]
  unfold T_least_liars
  cases hx : xs with
  | nil =>
    push_cast [List.map_nil, List.isEmpty_nil]
    rw [if_pos hx] at k
    exact weak_now k
  | cons x0 xs0 =>
    rw [← hx]
    have hne : (xs.map st).isEmpty = false := by rw [hx]; rfl
    have hpos : 0 < xs.length := by rw [hx]; simp
    rw [if_neg (by rw [hx]; simp)] at k
    push_cast [hne]
    unfold T_least_liars_0
    push_cast
    refine ⟨xs, rfl, ho, hl, fun _ ys h1 h2 h3 => ?_, fun z => absurd z (by rw [hx]; simp)⟩
    push_cast
    exact weak_now k

/-! greedy groups -/
def loG (xs : List (Int × Int)) (a : Int) : Int := (xs.getD a.toNat (0, 0)).1
def hiG (xs : List (Int × Int)) (a : Int) : Int := (xs.getD a.toNat (0, 0)).2
def lastG (g : List Int) : Int := g.getLast?.getD 0
def putG (xs : List (Int × Int)) (low a : Int) : List (List Int) → List (List Int)
  | [] => [[a]]
  | g :: r => if hiG xs (lastG g) < low then (g ++ [a]) :: r else g :: putG xs low a r
def ordG (xs : List (Int × Int)) : List (Int × Int) := srtP (xs.zipIdx.map fun q => (q.1.1, (q.2 : Int)))
def foldG (xs : List (Int × Int)) (l : List (Int × Int)) : List (List Int) := l.foldl (fun gs q => putG xs q.1 q.2 gs) []
def grpG (xs : List (Int × Int)) : List (List Int) := foldG xs (ordG xs)
theorem foldG_snoc (xs l : List (Int × Int)) (q : Int × Int) : foldG xs (l ++ [q]) = putG xs q.1 q.2 (foldG xs l) := by unfold foldG; rw [List.foldl_append]; rfl
theorem put_none {xs : List (Int × Int)} {low a : Int} : ∀ {gs : List (List Int)}, (∀ g ∈ gs, ¬ hiG xs (lastG g) < low) → putG xs low a gs = gs ++ [[a]]
  | [], _ => rfl
  | g :: r, h => by
    have h1 := h g List.mem_cons_self
    simp only [putG, if_neg h1, List.cons_append]
    rw [put_none fun g' hg => h g' (List.mem_cons_of_mem _ hg)]
theorem put_at {xs : List (Int × Int)} {low a : Int} {g : List Int} {r : List (List Int)} (hg : hiG xs (lastG g) < low) : ∀ {l : List (List Int)}, (∀ g ∈ l, ¬ hiG xs (lastG g) < low) → putG xs low a (l ++ g :: r) = l ++ (g ++ [a]) :: r
  | [], _ => by simp only [List.nil_append, putG, if_pos hg]
  | g' :: l, h => by
    have h1 := h g' List.mem_cons_self
    simp only [List.cons_append, putG, if_neg h1]
    rw [put_at hg fun g'' hg' => h g'' (List.mem_cons_of_mem _ hg')]
/-- the first that fits, or none -/
theorem put_cases (xs : List (Int × Int)) (low : Int) : ∀ gs : List (List Int), (∀ g ∈ gs, ¬ hiG xs (lastG g) < low) ∨ ∃ l g r, gs = l ++ g :: r ∧ (∀ g ∈ l, ¬ hiG xs (lastG g) < low) ∧ hiG xs (lastG g) < low
  | [] => .inl (by simp)
  | g :: gs => by
    by_cases c : hiG xs (lastG g) < low
    · exact .inr ⟨[], g, gs, rfl, by simp, c⟩
    · rcases put_cases xs low gs with h | ⟨l, g', r, rfl, h1, h2⟩
      · refine .inl fun g' hg => ?_
        rcases List.mem_cons.mp hg with rfl | hg
        · exact c
        · exact h g' hg
      · refine .inr ⟨g :: l, g', r, rfl, fun g'' hg => ?_, h2⟩
        rcases List.mem_cons.mp hg with rfl | hg
        · exact c
        · exact h1 g'' hg
def conG (xs : List (Int × Int)) (L a : Int) : Bool := decide (loG xs a ≤ L ∧ L ≤ hiG xs a)
structure GrpI (xs l : List (Int × Int)) (gs : List (List Int)) : Prop where
  perm : gs.flatten.Perm (l.map (·.2))
  ne : ∀ g ∈ gs, g ≠ []
  pw : ∀ g ∈ gs, g.Pairwise fun a b => hiG xs a < loG xs b
  top : gs = [] ∨ ∃ L, gs.length ≤ (gs.flatten.filter (conG xs L)).length
theorem last_mem {g : List Int} (h : g ≠ []) : lastG g ∈ g := by
  unfold lastG
  rw [List.getLast?_eq_some_getLast h]
  exact List.getLast_mem h
theorem last_app {g : List Int} (h : g ≠ []) : g = g.dropLast ++ [lastG g] := by
  unfold lastG
  rw [List.getLast?_eq_some_getLast h]
  exact (List.dropLast_concat_getLast h).symm
theorem cnt_last {xs : List (Int × Int)} {L : Int} : ∀ {gs : List (List Int)}, (∀ g ∈ gs, g ≠ []) → (∀ g ∈ gs, conG xs L (lastG g) = true) → gs.length ≤ (gs.flatten.filter (conG xs L)).length
  | [], _, _ => by simp
  | g :: gs, h1, h2 => by
    have ih := cnt_last (gs := gs) (fun g hg => h1 g (List.mem_cons_of_mem _ hg)) fun g hg => h2 g (List.mem_cons_of_mem _ hg)
    have m : lastG g ∈ g.filter (conG xs L) := List.mem_filter.mpr ⟨last_mem (h1 g List.mem_cons_self), h2 g List.mem_cons_self⟩
    have := List.length_pos_of_mem m
    rw [List.flatten_cons, List.filter_append, List.length_append, List.length_cons]
    omega
theorem grp_step {xs l : List (Int × Int)} {gs : List (List Int)} {q : Int × Int} (I : GrpI xs l gs) (hq : q.1 = loG xs q.2) (hok : loG xs q.2 ≤ hiG xs q.2) (hs : ∀ w ∈ l, w.1 ≤ q.1) (hl : ∀ w ∈ l, w.1 = loG xs w.2 ∧ loG xs w.2 ≤ hiG xs w.2) : GrpI xs (l ++ [q]) (putG xs q.1 q.2 gs) := by
  have hmem : ∀ g ∈ gs, ∀ a ∈ g, loG xs a ≤ q.1 ∧ loG xs a ≤ hiG xs a := fun g hg a ha => by
    have := I.perm.mem_iff.mp (List.mem_flatten.mpr ⟨g, hg, ha⟩)
    obtain ⟨w, hw, rfl⟩ := List.mem_map.mp this
    have h1 := hs w hw
    have h2 := hl w hw
    exact ⟨by omega, h2.2⟩
  rcases put_cases xs q.1 gs with h | ⟨l1, g, r, rfl, h1, h2⟩
  · rw [put_none h]
    refine ⟨?_, fun g hg => ?_, fun g hg => ?_, .inr ⟨q.1, ?_⟩⟩
    · rw [List.flatten_append, List.map_append]
      exact (I.perm).append (by simp)
    · rcases List.mem_append.mp hg with hg | hg
      · exact I.ne g hg
      · rw [List.mem_singleton.mp hg]; simp
    · rcases List.mem_append.mp hg with hg | hg
      · exact I.pw g hg
      · rw [List.mem_singleton.mp hg]; simp
    · refine cnt_last (fun g hg => ?_) fun g hg => ?_
      · rcases List.mem_append.mp hg with hg | hg
        · exact I.ne g hg
        · rw [List.mem_singleton.mp hg]; simp
      · unfold conG
        refine decide_eq_true ?_
        rcases List.mem_append.mp hg with hg | hg
        · have a := h g hg
          have b := hmem g hg _ (last_mem (I.ne g hg))
          omega
        · rw [List.mem_singleton.mp hg]
          show loG xs q.2 ≤ q.1 ∧ q.1 ≤ hiG xs q.2
          omega
  · rw [put_at h2 h1]
    have hg0 : g ∈ l1 ++ g :: r := by simp
    have sub : (l1 ++ g :: r).flatten.Sublist (l1 ++ (g ++ [q.2]) :: r).flatten := by
      rw [List.flatten_append, List.flatten_append, List.flatten_cons, List.flatten_cons]
      exact (List.Sublist.refl _).append ((List.sublist_append_left g [q.2]).append (List.Sublist.refl _))
    refine ⟨?_, fun g' hg => ?_, fun g' hg => ?_, .inr ?_⟩
    · have e1 : (l1 ++ (g ++ [q.2]) :: r).flatten = l1.flatten ++ g ++ (q.2 :: r.flatten) := by simp
      have e2 : (l1 ++ g :: r).flatten = l1.flatten ++ g ++ r.flatten := by simp
      have p := I.perm
      rw [e2] at p
      rw [e1, List.map_append]
      refine List.perm_middle.trans ?_
      refine (List.Perm.cons _ p).trans ?_
      simpa using (List.perm_middle (a := q.2) (l₁ := l.map (·.2)) (l₂ := [])).symm
    · rcases List.mem_append.mp hg with hg | hg
      · exact I.ne g' (List.mem_append.mpr (.inl hg))
      · rcases List.mem_cons.mp hg with rfl | hg
        · simp
        · exact I.ne g' (by simp [hg])
    · rcases List.mem_append.mp hg with hg | hg
      · exact I.pw g' (List.mem_append.mpr (.inl hg))
      · rcases List.mem_cons.mp hg with rfl | hg
        · have ne := I.ne g hg0
          have pg := I.pw g hg0
          have el := last_app ne
          rw [List.pairwise_append]
          refine ⟨pg, by simp, fun a ha b hb => ?_⟩
          rw [List.mem_singleton.mp hb]
          have hl2 := hmem g hg0 _ (last_mem ne)
          rw [el] at pg ha
          rcases List.mem_append.mp ha with ha | ha
          · have := (List.pairwise_append.mp pg).2.2 a ha _ (List.mem_singleton.mpr rfl)
            omega
          · rw [List.mem_singleton.mp ha]; omega
        · exact I.pw g' (by simp [hg])
    · rcases I.top with h0 | ⟨L, hL⟩
      · simp at h0
      · refine ⟨L, ?_⟩
        have := (sub.filter (conG xs L)).length_le
        simp only [List.length_append, List.length_cons] at hL ⊢
        omega
theorem grp_all {xs : List (Int × Int)} : ∀ {r l : List (Int × Int)} {gs : List (List Int)}, GrpI xs l gs → (∀ w ∈ l ++ r, w.1 = loG xs w.2 ∧ loG xs w.2 ≤ hiG xs w.2) → (l ++ r).Pairwise (fun a b => a.1 ≤ b.1) → GrpI xs (l ++ r) (r.foldl (fun gs q => putG xs q.1 q.2 gs) gs)
  | [], l, gs, I, _, _ => by simpa using I
  | q :: r, l, gs, I, h1, h2 => by
    have e : l ++ q :: r = (l ++ [q]) ++ r := by simp
    have hq := h1 q (by simp)
    rw [e] at h1 h2 ⊢
    refine grp_all (grp_step I hq.1 hq.2 (fun w hw => ?_) fun w hw => h1 w (by simp [hw])) h1 h2
    exact (List.pairwise_append.mp (List.pairwise_append.mp h2).1).2.2 w hw q (List.mem_singleton.mpr rfl)
theorem ord_mem {xs : List (Int × Int)} (ho : ∀ x ∈ xs, x.1 ≤ x.2) : ∀ w ∈ ordG xs, (w.1 = loG xs w.2 ∧ loG xs w.2 ≤ hiG xs w.2) ∧ 0 ≤ w.2 ∧ w.2 < xs.length := by
  intro w hw
  have := (srtP_perm _).mem_iff.mp hw
  obtain ⟨⟨x, i⟩, hx, rfl⟩ := List.mem_map.mp this
  have hz := List.mem_zipIdx hx
  have hi : i < xs.length := by omega
  have ex : x = xs[i] := by simpa using hz.2.2
  have eg : xs.getD i (0, 0) = x := by rw [List.getD_eq_getElem?_getD, List.getElem?_eq_getElem hi, ex]; rfl
  have h1 : loG xs (i : Int) = x.1 := by unfold loG; rw [Int.toNat_natCast, eg]
  have h2 : hiG xs (i : Int) = x.2 := by unfold hiG; rw [Int.toNat_natCast, eg]
  have := ho x (by rw [ex]; exact List.getElem_mem hi)
  exact ⟨⟨h1.symm, by rw [h1, h2]; exact this⟩, by show (0 : Int) ≤ (i : Int); omega, by show (i : Int) < xs.length; omega⟩
theorem ord_snd (xs : List (Int × Int)) : ((ordG xs).map (·.2)).Perm ((List.range xs.length).map fun i : Nat => (i : Int)) := by
  refine ((srtP_perm _).map _).trans ?_
  rw [List.map_map]
  have : (xs.zipIdx.map ((fun q : Int × Int => q.2) ∘ fun q : (Int × Int) × Nat => (q.1.1, (q.2 : Int)))) = (List.range xs.length).map fun i : Nat => (i : Int) := by
    apply List.ext_getElem?
    intro i
    rw [List.getElem?_map, List.getElem?_map, List.getElem?_zipIdx]
    by_cases h : i < xs.length
    · rw [List.getElem?_range h, List.getElem?_eq_getElem h]; simp
    · rw [List.getElem?_eq_none (by omega), List.getElem?_eq_none (by simp; omega)]; rfl
  rw [this]
theorem grp_ok {xs : List (Int × Int)} (ho : ∀ x ∈ xs, x.1 ≤ x.2) : GrpI xs (ordG xs) (grpG xs) := by
  have h := grp_all (xs := xs) (r := ordG xs) (l := []) (gs := []) ⟨by simp, by simp, by simp, .inl rfl⟩ (fun w hw => (ord_mem ho w (by simpa using hw)).1)
    (by
      have := srtP_sorted (xs.zipIdx.map fun q => (q.1.1, (q.2 : Int)))
      simp only [List.nil_append]
      exact this.imp fun {a b} h => by unfold lexLe at h; simp at h; omega)
  exact h
theorem grp_len {xs l r : List (Int × Int)} {x : Int × Int} (ho : ∀ x ∈ xs, x.1 ≤ x.2) (e : ordG xs = l ++ x :: r) {g : List Int} (hg : g ∈ foldG xs l) : g.length ≤ l.length := by
  have hp : (ordG xs).Pairwise fun a b => a.1 ≤ b.1 := by
    have := srtP_sorted (xs.zipIdx.map fun q => (q.1.1, (q.2 : Int)))
    exact this.imp fun {a b} h => by unfold lexLe at h; simp at h; omega
  rw [e] at hp
  have h := grp_all (xs := xs) (r := l) (l := []) (gs := []) ⟨by simp, by simp, by simp, .inl rfl⟩ (fun w hw => (ord_mem ho w (by rw [e]; simp at hw; simp [hw])).1) (List.pairwise_append.mp hp).1
  have h2 := h.perm.length_eq
  have h3 := (List.sublist_flatten_of_mem hg).length_le
  unfold foldG at h3
  simp at h2
  simp at h3
  omega
theorem con_dep {xs : List (Int × Int)} (L : Int) : ((((List.range xs.length).map fun i : Nat => (i : Int))).filter (conG xs L)).length = dep xs L := by
  unfold dep
  rw [List.filter_map, List.length_map]
  have e : xs = (List.range xs.length).map fun i => xs.getD i (0, 0) := by
    apply List.ext_getElem?
    intro i
    rw [List.getElem?_map]
    by_cases h : i < xs.length
    · rw [List.getElem?_range h, List.getElem?_eq_getElem h]
      simp [List.getElem?_eq_getElem h]
    · rw [List.getElem?_eq_none (by omega), List.getElem?_eq_none (by simp; omega)]; rfl
  conv => rhs; rw [e]
  rw [List.filter_map, List.length_map]
  congr 1
  refine List.filter_congr fun i hi => ?_
  simp only [Function.comp, conG, loG, hiG, Int.toNat_natCast, inB]
  rw [Bool.eq_iff_iff]
  simp
theorem flat_dep {xs : List (Int × Int)} (ho : ∀ x ∈ xs, x.1 ≤ x.2) (L : Int) : ((grpG xs).flatten.filter (conG xs L)).length = dep xs L := by
  rw [← con_dep]
  exact ((((grp_ok ho).perm.trans (ord_snd xs)).filter _).length_eq)
theorem one_le {xs : List (Int × Int)} {L : Int} {g : List Int} (h : g.Pairwise fun a b => hiG xs a < loG xs b) : (g.filter (conG xs L)).length ≤ 1 := by
  have h2 := h.filter (conG xs L)
  cases e : g.filter (conG xs L) with
  | nil => simp
  | cons a r =>
    cases r with
    | nil => simp
    | cons b r =>
      exfalso
      rw [e] at h2
      have ha : conG xs L a = true := (List.mem_filter.mp (show a ∈ g.filter (conG xs L) by rw [e]; simp)).2
      have hb : conG xs L b = true := (List.mem_filter.mp (show b ∈ g.filter (conG xs L) by rw [e]; simp)).2
      have := (List.pairwise_cons.mp h2).1 b (by simp)
      unfold conG at ha hb
      have ha := of_decide_eq_true ha
      have hb := of_decide_eq_true hb
      omega
theorem sumG_one {xs : List (Int × Int)} {L : Int} : ∀ {gs : List (List Int)}, (∀ g ∈ gs, g.Pairwise fun a b => hiG xs a < loG xs b) → (gs.flatten.filter (conG xs L)).length ≤ gs.length
  | [], _ => by simp
  | g :: gs, h => by
    have h1 := one_le (L := L) (h g List.mem_cons_self)
    have h2 := sumG_one (L := L) (gs := gs) fun g hg => h g (List.mem_cons_of_mem _ hg)
    rw [List.flatten_cons, List.filter_append, List.length_append, List.length_cons]
    omega
/-- as many groups as the greatest depth -/
theorem grp_most {xs : List (Int × Int)} (ho : ∀ x ∈ xs, x.1 ≤ x.2) (hn : 0 < xs.length) : ((grpG xs).length : Int) = mostD xs := by
  have I := grp_ok ho
  have up : ∀ L, dep xs L ≤ (grpG xs).length := fun L => by rw [← flat_dep ho]; exact sumG_one I.pw
  refine Int.le_antisymm ?_ ?_
  · rcases I.top with h | ⟨L, h⟩
    · rw [h]
      have := most_pos ho hn
      simp; omega
    · rw [flat_dep ho] at h
      have := most_le hn L
      omega
  · unfold mostD
    obtain ⟨a, _⟩ := maxL_mem (ns := xs.map fun x => (dep xs x.1 : Int)) (by rw [List.length_map]; exact hn)
    obtain ⟨x, _, e⟩ := List.mem_map.mp a
    rw [← e]
    have := up x.1
    omega
theorem flat_range {xs : List (Int × Int)} (ho : ∀ x ∈ xs, x.1 ≤ x.2) : (grpG xs).flatten.Perm ((List.range xs.length).map fun i : Nat => (i : Int)) := (grp_ok ho).perm.trans (ord_snd xs)
/-! owned groups -/
structure HeldZ (O : Sto) (p : Addr) (zs : List (Addr × List Int)) : Prop where
  c : getC O p = some (.lst (zs.map fun z => D.ptr z.1))
  z : ∀ z ∈ zs, getC O z.1 = some (.lst (z.2.map D.int))
  nd : (p :: zs.map (·.1)).Nodup
def FrameZ (O O1 : Sto) (p : Addr) (zs : List (Addr × List Int)) : Prop := ∀ a c, getC O a = some c → getC O1 a = some c ∧ a ∉ p :: zs.map (·.1)
theorem HeldZ.app {O O1 : Sto} {p q : Addr} {zs : List (Addr × List Int)} {a : Int} (h : HeldZ O1 p zs) (f : FrameZ O O1 p zs) (hq : freshC O1 q) :
    HeldZ (setC ((q, .lst [D.int a]) :: O1) p (.lst ((zs.map fun z => D.ptr z.1) ++ [D.ptr q]))) p (zs ++ [(q, [a])]) ∧ FrameZ O (setC ((q, .lst [D.int a]) :: O1) p (.lst ((zs.map fun z => D.ptr z.1) ++ [D.ptr q]))) p (zs ++ [(q, [a])]) := by
  have np : p ≠ q := freshC_ne h.c hq
  have e : setC ((q, .lst [D.int a]) :: O1) p (.lst ((zs.map fun z => D.ptr z.1) ++ [D.ptr q])) = (q, .lst [D.int a]) :: setC O1 p (.lst ((zs.map fun z => D.ptr z.1) ++ [D.ptr q])) := setC_other np
  have hz : ∀ z ∈ zs, z.1 ≠ p ∧ z.1 ≠ q := fun z hz => ⟨fun e => (List.nodup_cons.mp h.nd).1 (List.mem_map.mpr ⟨z, hz, e⟩), freshC_ne (h.z z hz) hq⟩
  rw [e]
  refine ⟨⟨?_, fun z hz' => ?_, ?_⟩, fun b c hb => ?_⟩
  · rw [getC_other np, getC_setC h.c]
    simp
  · rcases List.mem_append.mp hz' with hm | hm
    · rw [getC_other (hz z hm).2, getC_setC_ne (hz z hm).1]
      exact h.z z hm
    · rw [List.mem_singleton.mp hm, getC_self]
      rfl
  · rw [List.map_append, List.map_cons, List.map_nil]
    have n1 := List.nodup_cons.mp h.nd
    refine List.nodup_cons.mpr ⟨fun hm => ?_, List.nodup_append.mpr ⟨n1.2, by simp, fun x hx y hy e => ?_⟩⟩
    · rcases List.mem_append.mp hm with hm | hm
      · exact n1.1 hm
      · exact np (List.mem_singleton.mp hm)
    · obtain ⟨z, hz', rfl⟩ := List.mem_map.mp hx
      exact (hz z hz').2 (e.trans (List.mem_singleton.mp hy))
  · obtain ⟨f1, f2⟩ := f b c hb
    have nb : b ≠ q := freshC_ne f1 hq
    have nbp : b ≠ p := fun e => f2 (by rw [e]; exact List.mem_cons_self)
    refine ⟨by rw [getC_other nb, getC_setC_ne nbp]; exact f1, fun hm => ?_⟩
    rw [List.map_append, List.map_cons, List.map_nil] at hm
    rcases List.mem_cons.mp hm with hm | hm
    · exact nbp hm
    · rcases List.mem_append.mp hm with hm | hm
      · exact f2 (List.mem_cons_of_mem _ hm)
      · exact nb (List.mem_singleton.mp hm)
theorem HeldZ.put {O O1 : Sto} {p : Addr} {l r : List (Addr × List Int)} {z : Addr × List Int} {a : Int} (h : HeldZ O1 p (l ++ z :: r)) (f : FrameZ O O1 p (l ++ z :: r)) :
    HeldZ (setC O1 z.1 (.lst (z.2.map D.int ++ [D.int a]))) p (l ++ (z.1, z.2 ++ [a]) :: r) ∧ FrameZ O (setC O1 z.1 (.lst (z.2.map D.int ++ [D.int a]))) p (l ++ (z.1, z.2 ++ [a]) :: r) := by
  have em : (l ++ (z.1, z.2 ++ [a]) :: r).map (·.1) = (l ++ z :: r).map (·.1) := by simp
  have hz : z ∈ l ++ z :: r := by simp
  have n1 := List.nodup_cons.mp h.nd
  have np : p ≠ z.1 := fun e => n1.1 (List.mem_map.mpr ⟨z, hz, e.symm⟩)
  have n2 := n1.2
  rw [List.map_append, List.map_cons] at n2
  have n3 := List.nodup_append.mp n2
  refine ⟨⟨?_, fun w hw => ?_, by rw [em]; exact h.nd⟩, fun b c hb => ?_⟩
  · rw [getC_setC_ne np, h.c]
    simp
  · rcases List.mem_append.mp hw with hm | hm
    · rw [getC_setC_ne fun e => n3.2.2 w.1 (List.mem_map_of_mem hm) z.1 List.mem_cons_self e]
      exact h.z w (by simp [hm])
    · rcases List.mem_cons.mp hm with rfl | hm
      · rw [getC_setC (h.z z hz)]
        simp
      · rw [getC_setC_ne fun e => (List.nodup_cons.mp n3.2.1).1 (List.mem_map.mpr ⟨w, hm, e⟩)]
        exact h.z w (by simp [hm])
  · obtain ⟨f1, f2⟩ := f b c hb
    rw [em]
    refine ⟨?_, f2⟩
    rw [getC_setC_ne fun e => f2 (List.mem_cons_of_mem _ (List.mem_map.mpr ⟨z, hz, e.symm⟩))]
    exact f1
theorem at_lastG {g : List Int} (h : g ≠ []) : atI (g.map D.int) (-1) = some (.int (lastG g)) := by
  have hl : 0 < g.length := List.length_pos_iff.mpr h
  have := last_app h
  conv => lhs; rw [this]
  rw [List.map_append, List.map_cons, List.map_nil]
  exact atI_last _ _
theorem first_split {α : Type} (c : α → Prop) [DecidablePred c] : ∀ xs : List α, (∀ x ∈ xs, ¬ c x) ∨ ∃ l x r, xs = l ++ x :: r ∧ (∀ y ∈ l, ¬ c y) ∧ c x
  | [] => .inl (by simp)
  | x :: xs => by
    by_cases h : c x
    · exact .inr ⟨[], x, xs, rfl, by simp, h⟩
    · rcases first_split c xs with h1 | ⟨l, y, r, rfl, h1, h2⟩
      · refine .inl fun y hy => ?_
        rcases List.mem_cons.mp hy with rfl | hy
        · exact h
        · exact h1 y hy
      · refine .inr ⟨x :: l, y, r, rfl, fun z hz => ?_, h2⟩
        rcases List.mem_cons.mp hz with rfl | hz
        · exact h
        · exact h1 z hz
theorem put_noneZ {xs : List (Int × Int)} {low a : Int} {zs : List (Addr × List Int)} {q : Addr} (h : ∀ z ∈ zs, ¬ hiG xs (lastG z.2) < low) : putG xs low a (zs.map (·.2)) = (zs ++ [(q, [a])]).map (·.2) := by
  rw [put_none fun g hg => by obtain ⟨z, hz, rfl⟩ := List.mem_map.mp hg; exact h z hz]
  simp
theorem put_atZ {xs : List (Int × Int)} {low a : Int} {l r : List (Addr × List Int)} {z : Addr × List Int} (h : ∀ z ∈ l, ¬ hiG xs (lastG z.2) < low) (hz : hiG xs (lastG z.2) < low) : putG xs low a ((l ++ z :: r).map (·.2)) = (l ++ (z.1, z.2 ++ [a]) :: r).map (·.2) := by
  rw [List.map_append, List.map_cons, put_at hz fun g hg => by obtain ⟨w, hw, rfl⟩ := List.mem_map.mp hg; exact h w hw]
  simp
theorem memZ_app {n : Nat} {zs : List (Addr × List Int)} {q : Addr} {a : Int} (h : ∀ z ∈ zs, z.2 ≠ [] ∧ ∀ a ∈ z.2, 0 ≤ a ∧ a < (n : Int)) (ha : 0 ≤ a ∧ a < (n : Int)) : ∀ z ∈ zs ++ [(q, [a])], z.2 ≠ [] ∧ ∀ a ∈ z.2, 0 ≤ a ∧ a < (n : Int) := by
  intro z hz
  rcases List.mem_append.mp hz with hm | hm
  · exact h z hm
  · rw [List.mem_singleton.mp hm]
    exact ⟨by simp, fun b hb => by rw [List.mem_singleton.mp hb]; exact ha⟩
theorem memZ_put {n : Nat} {l r : List (Addr × List Int)} {z : Addr × List Int} {a : Int} (h : ∀ w ∈ l ++ z :: r, w.2 ≠ [] ∧ ∀ a ∈ w.2, 0 ≤ a ∧ a < (n : Int)) (ha : 0 ≤ a ∧ a < (n : Int)) : ∀ w ∈ l ++ (z.1, z.2 ++ [a]) :: r, w.2 ≠ [] ∧ ∀ a ∈ w.2, 0 ≤ a ∧ a < (n : Int) := by
  intro w hw
  rcases List.mem_append.mp hw with hm | hm
  · exact h w (by simp [hm])
  · rcases List.mem_cons.mp hm with rfl | hm
    · refine ⟨by simp, fun b hb => ?_⟩
      rcases List.mem_append.mp hb with hb | hb
      · exact (h z (by simp)).2 b hb
      · rw [List.mem_singleton.mp hb]; exact ha
    · exact h w (by simp [hm])
def S_apart_lots : DSp := fun ds O P E => ∃ (xs : List (Int × Int)), ds = [.lst (xs.map st)] ∧ (∀ x ∈ xs, x.1 ≤ x.2) ∧ xs.length ≤ 1000 ∧ ∀ p zs O1, HeldZ O1 p zs → zs.map (·.2) = grpG xs → FrameZ O O1 p zs → P (.ptr p) O1
def N_apart_lots : List Str := ["stretches", "order", "groups", "low", "at", "free", "piece", "group"]
def T_apart_lots_0 : DS := (dIfS (dTru (dVar 5)) (dExp (dApp (dOp fIx (dVar 5) (dC (.int 0))) (dVar 4))) (dExp (dApp (dVar 2) (dLstO (dCons (dVar 4) dNil)))))
def T_apart_lots_1 : DS := (dSeq (dAsg 5 (dLcP (dVar 2) (dgN 7) (dTe (dOp fLt (dFld [.Stretch] .high (dOp fIx (dVar 0) (dOp fIx (dVar 7) (dUn fNeg (dC (.int 1)))))) (dVar 3))) (dVar 7) [7])) T_apart_lots_0)
def T_apart_lots_2 : DS := (dSeq (dFor (dItL (dVar 1)) (dgT [3, 4]) T_apart_lots_1) (dRet (dVar 2)))
def T_apart_lots : DS := (dSeq (dAsg 1 (dCB fSortP (dCons (dLc (dEnum (dCons (dVar 0) dNil)) (dgT [4, 6]) dYes (dTup (dCons (dFld [.Stretch] .low (dVar 6)) (dCons (dVar 4) dNil))) [4, 6]) dNil))) (dSeq (dAsg 2 (dLstO dNil)) T_apart_lots_2))

theorem pure_apart_lots : Pure N_apart_lots 1 S_apart_lots T_apart_lots := by
  rintro ds O P E ⟨xs, rfl, ho, hl, k⟩
  refine ⟨rfl, Opn.now ?_⟩
  have hs : startD N_apart_lots [.lst (xs.map st)] = [some (.lst (xs.map st)), none, none, none, none, none, none, none] := rfl
  rw [hs]
  unfold T_apart_lots
  push_cast
  rw [enum_map]
  refine ⟨by rw [List.length_map, List.length_zipIdx]; omega, fun p1 hp1 => lc_map (emb := fun q : (Int × Int) × Nat => D.tup [.int (q.2 : Int), st q.1]) (fun q => pr (q.1.1, (q.2 : Int))) (fun q hq acc C hC => by unfold lcStep; push_cast; exact hC) ?_⟩
  have e1 : xs.zipIdx.map (fun q => pr (q.1.1, (q.2 : Int))) = (xs.zipIdx.map fun q => (q.1.1, (q.2 : Int))).map pr := by rw [List.map_map]; rfl
  rw [e1]
  push_cast
  have e2 : srtP (xs.zipIdx.map fun q => (q.1.1, (q.2 : Int))) = ordG xs := rfl
  rw [e2]
  intro p hp
  have om := ord_mem ho
  have oml : (ordG xs).length = xs.length := by unfold ordG; rw [(srtP_perm _).length_eq, List.length_map, List.length_zipIdx]
  unfold T_apart_lots_2
  push_cast
  refine for_inv2 (emb := pr) (I := fun l Δ O1 => ∃ zs z3 z4 z5, HeldZ O1 p zs ∧ zs.map (·.2) = foldG xs l ∧ FrameZ O O1 p zs ∧ zs.length ≤ l.length ∧ (∀ z ∈ zs, z.2 ≠ [] ∧ ∀ a ∈ z.2, 0 ≤ a ∧ a < xs.length) ∧
      Δ = [some (.lst (xs.map st)), some (.lst ((ordG xs).map pr)), some (.ptr p), z3, z4, z5, none, none]) ⟨[], none, none, none, ⟨getC_self, by simp, by simp⟩, rfl, fun a c h => ⟨getC_fresh h hp, by simpa using freshC_ne h hp⟩, by simp, by simp, rfl⟩ ?_ ?_
  · rintro Δ O1 ⟨zs, z3, z4, z5, hz, hf, fr, _, _, rfl⟩
    push_cast
    exact weak_now (k p zs O1 hz hf fr)
  · rintro l x r e Δ O1 K ⟨zs, z3, z4, z5, hz, hf, fr, hzl, hzm, rfl⟩ hK
    have hx := om x (by rw [e]; simp)
    have hll : l.length < 1000 := by
      have := congrArg List.length e
      simp at this
      omega
    push_cast
    unfold T_apart_lots_1
    push_cast [hz.c]
    refine ⟨by omega, fun p2 hp2 => ?_⟩
    refine lcC_det (emb := fun z : Addr × List Int => D.ptr z.1) (fun z => if hiG xs (lastG z.2) < x.1 then some (.ptr z.1) else none) (fun acc => by unfold heldL; rw [getC_fresh hz.c hp2]) (fun z hm acc C hC => ?_) ?_
    · have hg := fun c => getC_fresh (c' := c) (hz.z z hm) hp2
      obtain ⟨ne, hr⟩ := hzm z hm
      have hla := hr _ (last_mem ne)
      have hat : atI (xs.map st) (lastG z.2) = some (st (xs.getD (lastG z.2).toNat (0, 0))) := by
        have := at_get (f := st) (xs := xs) (i := (lastG z.2).toNat) (d := (0, 0)) (by omega)
        rw [← this]
        congr 1
        omega
      unfold lcStep
      push_cast [hg, at_lastG ne, hat]
      by_cases c : hiG xs (lastG z.2) < x.1
      · rw [if_pos c] at hC
        exact (if_pos (c := (xs.getD (lastG z.2).toNat (0, 0)).2 < x.1) c).mpr hC
      · rw [if_neg c] at hC
        exact (if_neg (c := (xs.getD (lastG z.2).toNat (0, 0)).2 < x.1) c).mpr hC
    · rw [List.nil_append]
      unfold T_apart_lots_0
      rcases first_split (fun z : Addr × List Int => hiG xs (lastG z.2) < x.1) zs with h | ⟨zl, z, zr, rfl, h1, h2⟩
      · have ef : zs.filterMap (fun z => if hiG xs (lastG z.2) < x.1 then some (D.ptr z.1) else none) = [] := List.filterMap_eq_nil_iff.mpr fun z hz' => if_neg (h z hz')
        rw [ef]
        push_cast [List.isEmpty_nil, hz.c]
        intro q hq
        have hc2 := fun c => getC_fresh (c' := c) hz.c hq
        push_cast [hc2]
        obtain ⟨hz', fr'⟩ := hz.app (a := x.2) fr hq
        refine ⟨by rw [sizeLine_eq]; omega, hK _ _ ⟨zs ++ [(q, [x.2])], _, _, _, hz', ?_, fr', by simp; omega, memZ_app hzm ⟨hx.2.1, hx.2.2⟩, rfl⟩⟩
        rw [foldG_snoc, ← hf]
        exact (put_noneZ h).symm
      · have ef : (zl ++ z :: zr).filterMap (fun z => if hiG xs (lastG z.2) < x.1 then some (D.ptr z.1) else none) = D.ptr z.1 :: zr.filterMap (fun z => if hiG xs (lastG z.2) < x.1 then some (D.ptr z.1) else none) := by
          rw [List.filterMap_append, List.filterMap_eq_nil_iff.mpr fun w hw => if_neg (h1 w hw), List.nil_append]
          simp only [List.filterMap_cons, if_pos h2]
        rw [ef]
        have hzc := hz.z z (by simp)
        push_cast [List.isEmpty_cons, hzc]
        obtain ⟨hz', fr'⟩ := hz.put (a := x.2) fr
        refine ⟨?_, hK _ _ ⟨zl ++ (z.1, z.2 ++ [x.2]) :: zr, _, _, _, hz', ?_, fr', by simp at hzl ⊢; omega, memZ_put (z := z) (l := zl) (r := zr) hzm ⟨hx.2.1, hx.2.2⟩, rfl⟩⟩
        · rw [sizeLine_eq]
          have := grp_len ho e (g := z.2) (by rw [← hf]; simp)
          omega
        · rw [foldG_snoc, ← hf]
          exact (put_atZ h1 h2).symm
def S_law_lots : DSp := fun ds O P E => ∃ (xs : List (Int × Int)), ds = [.lst (xs.map pr)] ∧ (∀ x ∈ xs, x.1 ≤ x.2) ∧ xs.length ≤ 1000 ∧ ∀ p zs O1, HeldZ O1 p zs → zs.map (·.2) = grpG xs → FrameZ O O1 p zs → P (.ptr p) O1
def N_law_lots : List Str := ["_law_pairs_here", "_law_lots_here", "_law_row", "_law_placed", "_law_lot", "_law_k"]
def T_law_lots_0 : DS := (dSeq (dExp (dApp (dVar 4) (dOp fIx (dVar 2) (dC (.int 1))))) (dAsg 3 (dC (.bl true))))
def T_law_lots_1 : DS := (dIfS (dAnd (dNot (dTru (dVar 3))) (dTe (dOp fLt (dOp fIx (dOp fIx (dVar 0) (dOp fIx (dVar 4) (dUn fNeg (dC (.int 1))))) (dC (.int 1))) (dOp fIx (dVar 2) (dC (.int 0)))))) T_law_lots_0 dNext)
def T_law_lots_2 : DS := (dExp (dApp (dVar 1) (dLstO (dCons (dOp fIx (dVar 2) (dC (.int 1))) dNil))))
def T_law_lots_3 : DS := (dSeq (dFor (dItL (dCB fListS (dCons (dVar 1) dNil))) (dgN 4) T_law_lots_1) (dIfS (dNot (dTru (dVar 3))) T_law_lots_2 dNext))
def T_law_lots_4 : DS := (dSeq (dFor (dItL (dCB fSortP (dCons (dLc (dRng1 (dCons (dCB fLen (dCons (dVar 0) dNil)) dNil)) (dgN 5) dYes (dTup (dCons (dOp fIx (dOp fIx (dVar 0) (dVar 5)) (dC (.int 0))) (dCons (dVar 5) dNil))) [5]) dNil))) (dgN 2) (dSeq (dAsg 3 (dC (.bl false))) T_law_lots_3)) (dRet (dVar 1)))
def T_law_lots : DS := (dSeq (dAsg 1 (dLstO dNil)) T_law_lots_4)

theorem pure_law_lots : Pure N_law_lots 1 S_law_lots T_law_lots := by
  rintro ds O P E ⟨xs, rfl, ho, hl, k⟩
  refine ⟨rfl, Opn.now ?_⟩
  have hs : startD N_law_lots [.lst (xs.map pr)] = [some (.lst (xs.map pr)), none, none, none, none, none] := rfl
  rw [hs]
  unfold T_law_lots
  push_cast
  intro p hp
  have om := ord_mem ho
  have oml : (ordG xs).length = xs.length := by unfold ordG; rw [(srtP_perm _).length_eq, List.length_map, List.length_zipIdx]
  unfold T_law_lots_4
  push_cast [rangeD_emb, Int.zero_add, Int.toNat_natCast, List.length_range]
  refine ⟨by omega, by omega, by omega, fun p1 hp1 => lc_map (emb := fun j : Nat => D.int (j : Int)) (fun i => pr ((xs.getD i (0, 0)).1, (i : Int))) (fun i hi acc C hC => ?_) ?_⟩
  · have hi' : i < xs.length := List.mem_range.mp hi
    unfold lcStep
    push_cast [at_get (f := pr) (d := (0, 0)) hi']
    exact hC
  have e1 : (List.range xs.length).map (fun i => pr ((xs.getD i (0, 0)).1, (i : Int))) = (xs.zipIdx.map fun q => (q.1.1, (q.2 : Int))).map pr := by
    apply List.ext_getElem?
    intro i
    rw [List.getElem?_map, List.getElem?_map, List.getElem?_map, List.getElem?_zipIdx]
    by_cases h : i < xs.length
    · rw [List.getElem?_range h, List.getElem?_eq_getElem h]
      simp [List.getElem?_eq_getElem h]
    · rw [List.getElem?_eq_none (by simp; omega), List.getElem?_eq_none (by omega)]; rfl
  rw [e1]
  push_cast
  have e2 : srtP (xs.zipIdx.map fun q => (q.1.1, (q.2 : Int))) = ordG xs := rfl
  rw [e2]
  refine for_inv2 (emb := pr) (I := fun l Δ O1 => ∃ zs z2 z3 z4, HeldZ O1 p zs ∧ zs.map (·.2) = foldG xs l ∧ FrameZ O O1 p zs ∧ zs.length ≤ l.length ∧ (∀ z ∈ zs, z.2 ≠ [] ∧ ∀ a ∈ z.2, 0 ≤ a ∧ a < xs.length) ∧
      Δ = [some (.lst (xs.map pr)), some (.ptr p), z2, z3, z4, none]) ⟨[], none, none, none, ⟨getC_self, by simp, by simp⟩, rfl, fun a c h => ⟨getC_fresh h hp, by simpa using freshC_ne h hp⟩, by simp, by simp, rfl⟩ ?_ ?_
  · rintro Δ O1 ⟨zs, z2, z3, z4, hz, hf, fr, _, _, rfl⟩
    push_cast
    exact weak_now (k p zs O1 hz hf fr)
  · rintro l x r e Δ O1 K ⟨zs, z2, z3, z4, hz, hf, fr, hzl, hzm, rfl⟩ hK
    have hx := om x (by rw [e]; simp)
    have hll : l.length < 1000 := by
      have := congrArg List.length e
      simp at this
      omega
    push_cast
    have fl : ∀ Q : KD, fListS [.ptr p] O1 Q = Q (.lst (zs.map fun z => D.ptr z.1)) O1 := fun Q => by
      show (match seqOf O1 (.ptr p) with | some es => Q (.lst es) O1 | none => False) = _
      rw [seqP hz.c]
    unfold T_law_lots_3
    push_cast [fl]
    refine for_inv2 (emb := fun z : Addr × List Int => D.ptr z.1) (I := fun l' Δ O2 => ∃ z4, ((∀ z ∈ l', ¬ hiG xs (lastG z.2) < x.1) ∧ O2 = O1 ∧ Δ = [some (.lst (xs.map pr)), some (.ptr p), some (pr x), some (.bl false), z4, none]) ∨
        (∃ la z ra, l' = la ++ z :: ra ∧ (∀ w ∈ la, ¬ hiG xs (lastG w.2) < x.1) ∧ hiG xs (lastG z.2) < x.1 ∧ O2 = setC O1 z.1 (.lst (z.2.map D.int ++ [D.int x.2])) ∧ Δ = [some (.lst (xs.map pr)), some (.ptr p), some (pr x), some (.bl true), z4, none])) ⟨_, .inl ⟨by simp, rfl, rfl⟩⟩ ?_ ?_
    · rintro Δ O2 ⟨z4, ⟨h, rfl, rfl⟩ | ⟨zl, z, zr, rfl, h1, h2, rfl, rfl⟩⟩
      · push_cast
        unfold T_law_lots_2
        push_cast [hz.c]
        intro q hq
        have hc2 := fun c => getC_fresh (c' := c) hz.c hq
        push_cast [hc2]
        obtain ⟨hz', fr'⟩ := hz.app (a := x.2) fr hq
        refine ⟨by rw [sizeLine_eq]; omega, hK _ _ ⟨zs ++ [(q, [x.2])], _, _, _, hz', ?_, fr', by simp; omega, memZ_app hzm ⟨hx.2.1, hx.2.2⟩, rfl⟩⟩
        rw [foldG_snoc, ← hf]
        exact (put_noneZ h).symm
      · push_cast
        obtain ⟨hz', fr'⟩ := hz.put (a := x.2) fr
        refine hK _ _ ⟨zl ++ (z.1, z.2 ++ [x.2]) :: zr, _, _, _, hz', ?_, fr', by simp at hzl ⊢; omega, memZ_put hzm ⟨hx.2.1, hx.2.2⟩, rfl⟩
        rw [foldG_snoc, ← hf]
        exact (put_atZ h1 h2).symm
    · rintro l' z0 r' e' Δ O2 K2 ⟨z4, ⟨h, rfl, rfl⟩ | ⟨zl, z, zr, rfl, h1, h2, rfl, rfl⟩⟩ hK2
      · have hm0 : z0 ∈ zs := by rw [e']; simp
        have hg := hz.z z0 hm0
        obtain ⟨ne, hr⟩ := hzm z0 hm0
        have hla := hr _ (last_mem ne)
        have hat : atI (xs.map pr) (lastG z0.2) = some (pr (xs.getD (lastG z0.2).toNat (0, 0))) := by
          have := at_get (f := pr) (xs := xs) (i := (lastG z0.2).toNat) (d := (0, 0)) (by omega)
          rw [← this]
          congr 1
          omega
        push_cast
        unfold T_law_lots_1
        push_cast [hg, at_lastG ne, hat]
        by_cases c : hiG xs (lastG z0.2) < x.1
        · refine (if_pos (c := (xs.getD (lastG z0.2).toNat (0, 0)).2 < x.1) c).mpr ?_
          unfold T_law_lots_0
          push_cast [hg]
          refine ⟨?_, hK2 _ _ ⟨_, .inr ⟨l', z0, [], rfl, h, c, rfl, rfl⟩⟩⟩
          rw [sizeLine_eq]
          have := grp_len ho e (g := z0.2) (by rw [← hf]; exact List.mem_map_of_mem hm0)
          omega
        · refine (if_neg (c := (xs.getD (lastG z0.2).toNat (0, 0)).2 < x.1) c).mpr ?_
          refine hK2 _ _ ⟨_, .inl ⟨fun w hw => ?_, rfl, rfl⟩⟩
          rcases List.mem_append.mp hw with hw | hw
          · exact h w hw
          · rw [List.mem_singleton.mp hw]; exact c
      · push_cast
        unfold T_law_lots_1
        push_cast
        exact hK2 _ _ ⟨_, .inr ⟨zl, z, zr ++ [z0], by simp, h1, h2, rfl, rfl⟩⟩
theorem forC_inv2 {C : Sto → Prop} {Gd : DG} {T : DS} {En : DEnds} {α : Type} {emb : α → D} (I : List α → Sl → Sto → Prop) {xs : List α} {Δ : Sl} {O : Sto} (h0 : I [] Δ O) (hC : ∀ l Δ O, I l Δ O → C O) (hend : ∀ Δ O, I xs Δ O → En.nx Δ O)
    (step : ∀ l x r, xs = l ++ x :: r → ∀ Δ O (K : Sl → Sto → Prop), I l Δ O → (∀ Δ' O', I (l ++ [x]) Δ' O' → K Δ' O') → Gd (emb x) Δ fun Δ' => T { En with nx := K, ct := K, bk := En.nx } Δ' O) : forC C Gd T En (xs.map emb) Δ O := by
  have key : ∀ (r l : List α) (Δ : Sl) (O : Sto), xs = l ++ r → I l Δ O → forC C Gd T En (r.map emb) Δ O := by
    intro r
    induction r with
    | nil =>
      intro l Δ O e h
      rw [List.append_nil] at e
      subst e
      exact ⟨hC _ _ _ h, hend _ _ h⟩
    | cons x r ih =>
      intro l Δ O e h
      exact ⟨hC _ _ _ h, step l x r e Δ O _ h fun Δ' O' h' => ih (l ++ [x]) Δ' O' (by rw [e, List.append_assoc]; rfl) h'⟩
  exact key xs [] Δ O rfl h0
theorem eqBO_ptr {O : Sto} {a : Addr} {xs ys : List D} (h : getC O a = some (.lst xs)) : eqBO O (.ptr a) (.lst ys) = eqB (.lst xs) (.lst ys) := by
  unfold eqBO eqB
  simp only [pyO, h, py]
  all_goals rfl
theorem in_ptrI {O : Sto} {P : KD} {n : Int} {f : List Int} {p : Addr} (h : getC O p = some (.lst (f.map D.int))) : fIn (.int n) (.ptr p) O P = P (.bl (decide (n ∈ f))) O := by
  show fInQ false _ _ _ _ = _
  simp only [fInQ, seqP h, intsOf_map, inB2, Bool.false_eq_true, if_false]
theorem isPys_ints {O : Sto} : ∀ xs : List Int, IsPys O (xs.map D.int) (xs.map PyData.int)
  | [] => .nil
  | x :: xs => .cons (.int x) (isPys_ints xs)
theorem isPys_Z {O : Sto} : ∀ zs : List (Addr × List Int), (∀ z ∈ zs, getC O z.1 = some (.lst (z.2.map D.int))) → IsPys O (zs.map fun z => D.ptr z.1) ((zs.map (·.2)).map fun g => PyData.list (g.map PyData.int))
  | [], _ => .nil
  | z :: zs, h => .cons (.ptr (h z List.mem_cons_self) (isPys_ints z.2)) (isPys_Z zs fun w hw => h w (List.mem_cons_of_mem _ hw))
theorem neN_Z {O : Sto} {P : KD} {p p' : Addr} {zs zs' : List (Addr × List Int)} (c : getC O p = some (.lst (zs.map fun z => D.ptr z.1))) (hz : ∀ z ∈ zs, getC O z.1 = some (.lst (z.2.map D.int))) (h' : HeldZ O p' zs') (e : zs.map (·.2) = zs'.map (·.2)) (k : P (.bl false) O) : fNeN (.ptr p) (.ptr p') O P := by
  refine ⟨_, _, .ptr c (isPys_Z zs hz), .ptr h'.c (isPys_Z zs' h'.z), ?_, ?_, ?_⟩
  · exact shaped_em (α := List (List Int)) (by decide) (zs.map (·.2))
  · exact shaped_em (α := List (List Int)) (by decide) (zs'.map (·.2))
  · rw [← e]
    have := PySem.W.Datum.eqv (zs.map (·.2) : List (List Int)) (zs.map (·.2))
    have e2 : PyData.eqv (PyData.list ((zs.map (·.2)).map fun g => PyData.list (g.map PyData.int))) (PyData.list ((zs.map (·.2)).map fun g => PyData.list (g.map PyData.int))) = true := by
      have h2 : PyData.eqv (PyData.list ((zs.map (·.2)).map fun g => PyData.list (g.map PyData.int))) (PyData.list ((zs.map (·.2)).map fun g => PyData.list (g.map PyData.int))) = decide ((zs.map (·.2)) = (zs.map (·.2))) := this
      rw [h2]
      simp
    rw [e2]
    exact k
theorem four1 {a b c d : D} {P : D → Prop} {r : Int} (h0 : 0 ≤ r) (h5 : r < 4) (ha : P a) (hb : P b) (hc : P c) (hd : P d) : (match atI [a, b, c, d] r with | some d => P d | none => False) := by
  have e : r = 0 ∨ r = 1 ∨ r = 2 ∨ r = 3 := by omega
  rcases e with rfl | rfl | rfl | rfl
  · exact ha
  · exact hb
  · exact hc
  · exact hd
def N_law : List Str := ["_law_script", "_law_box_here", "_law_span_here", "_law_pairs_here", "_law_handed", "_law_lots_here", "_law_seen", "_law_lot", "_law_at", "_law_k", "_law_told", "_law_pair_here"]
def T_law_0 : DS := (dSeq (dIfS (dOr (dNot (dTe (dCall S_law_whole (dCons (dVar 8) dNil)))) (dOr (dNot (dTe (dChain fLe fLt (dC (.int 0)) (dVar 8) (dCB fLen (dCons (dVar 3) dNil))))) (dTe (dOp fIn (dVar 8) (dVar 6))))) (dRet (dC (.bl false))) dNext) (dExp (dApp (dVar 6) (dVar 8))))
def T_law_1 : DS := (dIfS (dTe (dOp fGe (dOp fIx (dOp fIx (dVar 3) (dOp fIx (dVar 7) (dOp fSub (dVar 9) (dC (.int 1))))) (dC (.int 1))) (dOp fIx (dOp fIx (dVar 3) (dOp fIx (dVar 7) (dVar 9))) (dC (.int 0))))) (dRet (dC (.bl false))) dNext)
def T_law_2 : DS := (dFor (dRng2 (dCons (dC (.int 1)) (dCons (dCB fLen (dCons (dVar 7) dNil)) dNil))) (dgN 9) T_law_1)
def T_law_3 : DS := (dRet (dOp fEq (dCall S_least_liars (dCons (dVar 4) dNil)) (dC (.int 0))))
def T_law_4 : DS := (dIfS (dOr (dTe (dOp fNe (dCall S_law_depth (dCons (dVar 3) (dCons (dOp fIx (dVar 11) (dC (.int 0))) dNil))) (dCB fLen (dCons (dVar 5) dNil)))) (dTe (dOp fNe (dCall S_law_depth (dCons (dVar 3) (dCons (dOp fIx (dVar 11) (dC (.int 1))) dNil))) (dCB fLen (dCons (dVar 5) dNil))))) (dRet (dC (.bl false))) dNext)
def T_law_5 : DS := (dRet (dAndV (dOp fNe (dMeth [(.Levels, S_Levels_ends)] (dOp fIx (dVar 10) (dC (.int 1))) dNil) (dLst dNil)) (dCall S_law_stays (dCons (dVar 4) (dCons (dVar 3) dNil)))))
def T_law_6 : DS := (dSeq (dFor (dItL (dMeth [(.Levels, S_Levels_ends)] (dOp fIx (dVar 10) (dC (.int 1))) dNil)) (dgN 11) T_law_4) T_law_5)
def T_law_7 : DS := (dSeq (dIfS (dOr (dTe (dOp fNe (dCB fLen (dCons (dVar 5) dNil)) (dOp fIx (dVar 10) (dC (.int 0))))) (dTe (dOp fNe (dCall S_least_liars (dCons (dVar 4) dNil)) (dOp fSub (dCB fLen (dCons (dVar 3) dNil)) (dCB fLen (dCons (dVar 5) dNil)))))) (dRet (dC (.bl false))) dNext) T_law_6)
def T_law_8 : DS := (dSeq (dAsg 10 (dCall S_most_shared (dCons (dVar 4) dNil))) T_law_7)
def T_law_9 : DS := (dSeq (dIfS (dOr (dTe (dOp fNe (dCB fLen (dCons (dVar 6) dNil)) (dCB fLen (dCons (dVar 3) dNil)))) (dTe (dOp fNeN (dVar 5) (dCall S_law_lots (dCons (dVar 3) dNil))))) (dRet (dC (.bl false))) dNext) (dSeq (dIfS (dNot (dTru (dVar 3))) T_law_3 dNext) T_law_8))
def T_law_10 : DS := (dSeq (dForP (dVar 5) (dgN 7) (dSeq (dForP (dVar 7) (dgN 8) T_law_0) T_law_2)) T_law_9)
def T_law_11 : DS := (dSeq (dIfS (dOr (dNot (dTe (dIsB "list" (dVar 5)))) (dNot (dTe (dCB fAll (dCons (dLcP (dVar 5) (dgN 7) dYes (dAndV (dIsB "list" (dVar 7)) (dOp fNeO (dVar 7) (dLst dNil))) [7]) dNil))))) (dRet (dC (.bl false))) dNext) (dSeq (dAsg 6 (dLstO dNil)) T_law_10))
def T_law_12 : DS := (dSeq (dAsg 5 (dCall S_apart_lots (dCons (dVar 4) dNil))) T_law_11)
def T_law_13 : DS := (dSeq (dAsg 4 (dCall S_law_made (dCons (dVar 3) dNil))) T_law_12)
def T_law_14 : DS := (dSeq (dAsg 3 (dCall S_law_pairs (dCons (dVar 1) (dCons (dOp fIx (dLst (dCons (dC (.int 3)) (dCons (dC (.int 9)) (dCons (dC (.int 25)) (dCons (dC (.int 59)) dNil))))) (dCall S_law_take (dCons (dVar 1) (dCons (dC (.int 4)) dNil)))) (dCons (dVar 2) (dCons (dCall S_law_moved (dCons (dVar 1) dNil)) dNil)))))) T_law_13)
def T_law_15 : DS := (dSeq (dAsg 2 (dCall S_law_span (dCons (dVar 1) dNil))) T_law_14)
def T_law : DS := (dSeq (dAsg 1 (dCall S_law_box (dCons (dVar 0) (dCons (dC (.int 110)) dNil)))) T_law_15)

theorem pure_law : Pure N_law 1 SLaw T_law := by
  rintro ds O P E ⟨ns, rfl, rfl, k⟩
  refine ⟨rfl, Opn.now ?_⟩
  have hs : startD N_law [.scr ns] = [some (.scr ns), none, none, none, none, none, none, none, none, none, none, none] := rfl
  rw [hs]
  unfold T_law
  push_cast
  refine ⟨ns, 110, rfl, fun b hb => ?_⟩
  have gb : getC [(b, Cell.box)] b = some .box := getC_self
  unfold T_law_15
  push_cast
  refine ⟨b, rfl, gb, fun sp sp1 sp2 => ?_⟩
  unfold T_law_14
  push_cast
  refine ⟨b, 4, rfl, gb, by omega, by omega, fun r r0 r1 => ?_⟩
  have main : ∀ m : Int, 0 ≤ m → m ≤ 59 → S_law_moved [.ptr b] [(b, Cell.box)] (fun x O1 => S_law_pairs [.ptr b, .int m, .int sp, x] O1 (fun d O2 => T_law_13 (endsD P E) [some (.scr ns), some (.ptr b), some (.int sp), some d, none, none, none, none, none, none, none, none] O2) (fun x O2 => (endsD P E).xc x [some (.scr ns), some (.ptr b), some (.int sp), none, none, none, none, none, none, none, none, none] O2)) (fun x O2 => (endsD P E).xc x [some (.scr ns), some (.ptr b), some (.int sp), none, none, none, none, none, none, none, none, none] O2) := by
    intro m m0 m1
    refine ⟨b, rfl, gb, fun mv => ?_⟩
    refine ⟨b, m, sp, mv, rfl, gb, m0, by omega, sp1, sp2, fun xs ho hxl => ?_⟩
    have ho' : ∀ x ∈ xs, x.1 ≤ x.2 := fun x hx => ho x hx
    unfold T_law_13
    push_cast
    refine ⟨xs, rfl, by omega, ho, ?_⟩
    unfold T_law_12
    push_cast
    refine ⟨xs, rfl, ho', by omega, fun p zs O1 hz hzs fr => ?_⟩
    have I := grp_ok ho'
    have fp := flat_range ho'
    have hlz : zs.length = (grpG xs).length := by rw [← hzs, List.length_map]
    have hflen : (grpG xs).flatten.length = xs.length := by rw [fp.length_eq]; simp
    have hfnd : (grpG xs).flatten.Nodup := fp.nodup_iff.mpr (List.pairwise_map.mpr (List.nodup_range.imp fun {a b} h e => h (by omega)))
    have hfr : ∀ a ∈ (grpG xs).flatten, 0 ≤ a ∧ a < xs.length := fun a ha => by
      obtain ⟨i, hi, rfl⟩ := List.mem_map.mp (fp.mem_iff.mp ha)
      have := List.mem_range.mp hi
      omega
    have hzg : ∀ z ∈ zs, z.2 ∈ grpG xs := fun z h => by rw [← hzs]; exact List.mem_map_of_mem h
    have hgl : ∀ z ∈ zs, z.2.length ≤ xs.length := fun z h => by rw [← hflen]; exact (List.sublist_flatten_of_mem (hzg z h)).length_le
    have hzl : zs.length ≤ xs.length := by
      have h2 : ∀ l : List (List Int), (∀ g ∈ l, g ≠ []) → l.length ≤ l.flatten.length := fun l => by
        induction l with
        | nil => simp
        | cons g l ih =>
          intro h
          have h1 := List.length_pos_iff.mpr (h g List.mem_cons_self)
          have h2 := ih fun g hg => h g (List.mem_cons_of_mem _ hg)
          simp only [List.length_cons, List.flatten_cons, List.length_append]
          omega
      rw [hlz, ← hflen]
      exact h2 _ I.ne
    have tp : ∀ O, getC O p = some (.lst (zs.map fun z => D.ptr z.1)) → tgD O (.ptr p) = some (.b "list") := fun O h => by simp only [tgD, h]
    unfold T_law_11
    push_cast [tp _ hz.c, hz.c]
    refine ⟨by omega, fun p2 hp2 => ?_⟩
    refine lcC_det (emb := fun z : Addr × List Int => D.ptr z.1) (fun z => some (.bl true)) (fun acc => by unfold heldL; rw [getC_fresh hz.c hp2]) (fun z hm acc C hC => ?_) ?_
    · have hg := fun c => getC_fresh (c' := c) (hz.z z hm) hp2
      have tz : ∀ c, tgD ((p2, c) :: O1) (.ptr z.1) = some (.b "list") := fun c => by simp only [tgD, hg]
      have ne := I.ne _ (hzg z hm)
      unfold lcStep
      push_cast [tz]
      show (match eqBO _ (.ptr z.1) (.lst (([] : List Int).map D.int)) with | some k => _ | none => False)
      rw [eqBO_ptr (hg _), eq_ints]
      have d : decide (z.2 = []) = false := by simpa using ne
      rw [d]
      exact ⟨_, rfl, hC⟩
    have efm : zs.filterMap (fun z => some (D.bl true)) = (zs.map fun _ => true).map D.bl := by
      rw [List.map_map, ← List.filterMap_eq_map]
      rfl
    rw [List.nil_append, efm]
    have eal : (zs.map fun _ => true).all id = true := by simp [List.all_map]
    push_cast [eal]
    intro s hs
    have nps : p ≠ s := freshC_ne hz.c hs
    unfold T_law_10
    push_cast [getC_other nps, hz.c]
    have hc' : ∀ c, getC ((s, c) :: O1) p = some (.lst (zs.map fun z => D.ptr z.1)) := fun c => by rw [getC_other nps]; exact hz.c
    have hz' : ∀ z ∈ zs, ∀ c, getC ((s, c) :: O1) z.1 = some (.lst (z.2.map D.int)) := fun z hm c => getC_fresh (hz.z z hm) hs
    refine forC_inv2 (emb := fun z : Addr × List Int => D.ptr z.1) (I := fun l Δ O2 => O2 = (s, .lst (((l.map (·.2)).flatten).map D.int)) :: O1 ∧ ∃ z7 z8 z9, Δ = [some (.scr ns), some (.ptr b), some (.int sp), some (.lst (xs.map pr)), some (.lst (xs.map st)), some (.ptr p), some (.ptr s), z7, z8, z9, none, none]) ⟨rfl, none, none, none, rfl⟩ (fun l Δ O2 h => by rw [h.1]; unfold heldL; exact hc' _) ?_ ?_
    · rintro Δ O2 ⟨rfl, z7, z8, z9, rfl⟩
      rw [hzs]
      dsimp only
      have hls : ∀ c, lenD ((s, Cell.lst (c : List D)) :: O1) (.ptr s) = some c.length := fun c => by unfold lenD; simp only [getC_self]
      unfold T_law_9
      push_cast [hls, hflen, decide_true]
      refine ⟨xs, rfl, ho', by omega, fun p' zs' O3 hz3 hzs3 fr3 => ?_⟩
      refine neN_Z (fr3 _ _ (hc' _)).1 (fun z hm => (fr3 _ _ (hz' z hm _)).1) hz3 (hzs.trans hzs3.symm) ?_
      have hlp : lenD O3 (.ptr p) = some (grpG xs).length := by unfold lenD; simp only [(fr3 _ _ (hc' _)).1, List.length_map, hlz]
      push_cast
      by_cases hne : xs = []
      · have hemp : (xs.map pr).isEmpty = true := by rw [hne]; rfl
        rw [if_pos hemp]
        unfold T_law_3
        push_cast
        refine ⟨xs, rfl, ho', by omega, ?_⟩
        rw [if_pos hne]
        push_cast [decide_true]
        exact weak_now (k _)
      have hemp : ¬ (xs.map pr).isEmpty = true := by simpa using hne
      have hpos : 0 < xs.length := List.length_pos_iff.mpr hne
      have hgm := grp_most ho' hpos
      rw [if_neg hemp]
      unfold T_law_8
      push_cast
      refine ⟨xs, rfl, ho', by omega, fun _ ys nys hys hyl => ?_, fun h => absurd h hne⟩
      unfold T_law_7
      push_cast [hlp, hgm, decide_true]
      refine ⟨xs, rfl, ho', by omega, ?_⟩
      rw [if_neg hne]
      push_cast [hlp, hgm, decide_true]
      unfold T_law_6
      push_cast
      refine ⟨ys, rfl, by omega, ?_⟩
      refine for_inv2 (emb := pr) (I := fun l Δ O4 => O4 = O3 ∧ ∃ z11, Δ = [some (.scr ns), some (.ptr b), some (.int sp), some (.lst (xs.map pr)), some (.lst (xs.map st)), some (.ptr p), some (.ptr s), z7, z8, z9, some (.tup [.int (mostD xs), lv ys]), z11]) ⟨rfl, _, rfl⟩ ?_ ?_
      · rintro Δ O4 ⟨rfl, z11, rfl⟩
        unfold T_law_5
        push_cast
        refine ⟨ys, rfl, by omega, ?_⟩
        have hyne : ys ≠ [] := by
          obtain ⟨a, _⟩ := maxL_mem (ns := xs.map fun x => (dep xs x.1 : Int)) (by rw [List.length_map]; exact hpos)
          obtain ⟨x, _, e⟩ := List.mem_map.mp a
          have hx1 : mem ys x.1 = true := by
            rw [hys]
            refine decide_eq_true ?_
            rw [e]
            exact Int.le_refl _
          intro h
          rw [h] at hx1
          cases hx1
        have d9 : decide (ys = ([] : List (Int × Int))) = false := by simpa using hyne
        have em : eqB (.lst (ys.map pr)) (.lst []) = some false := by rw [emp_prs, d9]
        show fNe (.lst (ys.map pr)) (.lst []) _ _
        unfold fNe
        rw [em]
        push_cast
        exact ⟨xs, rfl, by omega, weak_now (k _)⟩
      · rintro l y r e Δ O4 K ⟨rfl, z11, rfl⟩ hK
        have hy : y ∈ ys := by rw [e]; simp
        have a1 := (norm_low nys hy).1
        have a2 := (norm_high nys hy).1
        rw [hys] at a1 a2
        have b1 := of_decide_eq_true a1
        have b2 := of_decide_eq_true a2
        have c1 := most_le hpos y.1
        have c2 := most_le hpos y.2
        have d1 : (((xs.filter (inB y.1)).length : Nat) : Int) = mostD xs := by show (dep xs y.1 : Int) = _; omega
        have d2 : (((xs.filter (inB y.2)).length : Nat) : Int) = mostD xs := by show (dep xs y.2 : Int) = _; omega
        push_cast
        unfold T_law_4
        push_cast
        refine ⟨xs, y.1, rfl, by omega, ?_⟩
        rw [d1]
        push_cast [hlp, hgm, decide_true]
        refine ⟨xs, y.2, rfl, by omega, ?_⟩
        rw [d2]
        push_cast [hlp, hgm, decide_true]
        exact hK _ _ ⟨rfl, _, rfl⟩
    · rintro l z r e Δ O2 K ⟨rfl, z7, z8, z9, rfl⟩ hK
      have hm : z ∈ zs := by rw [e]; simp
      have hpw := I.pw _ (hzg z hm)
      have hfz : ∀ a ∈ z.2, a ∈ (grpG xs).flatten := fun a ha => List.mem_flatten.mpr ⟨_, hzg z hm, ha⟩
      have efl : (grpG xs).flatten = (l.map (·.2)).flatten ++ (z.2 ++ (r.map (·.2)).flatten) := by rw [← hzs, e]; simp
      have nd9 := hfnd
      rw [efl] at nd9
      push_cast [hz' z hm]
      refine forC_inv2 (emb := D.int) (I := fun l2 Δ O2 => O2 = (s, .lst (((l.map (·.2)).flatten ++ l2).map D.int)) :: O1 ∧ ∃ z8, Δ = [some (.scr ns), some (.ptr b), some (.int sp), some (.lst (xs.map pr)), some (.lst (xs.map st)), some (.ptr p), some (.ptr s), some (.ptr z.1), z8, z9, none, none]) ⟨by rw [List.append_nil], _, rfl⟩ (fun l Δ O2 h => by rw [h.1]; unfold heldL; exact hz' z hm _) ?_ ?_
      · rintro Δ O2 ⟨rfl, z8, rfl⟩
        unfold T_law_2
        have hlen : ∀ c, lenD ((s, c) :: O1) (.ptr z.1) = some z.2.length := fun c => by unfold lenD; simp only [hz' z hm, List.length_map]
        push_cast [hlen, rangeD_emb]
        have hzl2 := hgl z hm
        have en : ((z.2.length : Int) - 1).toNat = z.2.length - 1 := by omega
        rw [en]
        refine ⟨⟨by omega, by omega, by omega, by omega⟩, ?_⟩
        refine for_inv2 (emb := fun j : Nat => D.int (1 + (j : Int))) (I := fun l3 Δ O3 => O3 = (s, .lst (((l.map (·.2)).flatten ++ z.2).map D.int)) :: O1 ∧ ∃ z9, Δ = [some (.scr ns), some (.ptr b), some (.int sp), some (.lst (xs.map pr)), some (.lst (xs.map st)), some (.ptr p), some (.ptr s), some (.ptr z.1), z8, z9, none, none]) ⟨rfl, _, rfl⟩ ?_ ?_
        · rintro Δ O3 ⟨rfl, z9, rfl⟩
          refine hK _ _ ⟨?_, _, _, _, rfl⟩
          simp
        · rintro l3 j r3 e3 Δ O3 K3 ⟨rfl, z9, rfl⟩ hK3
          have hj : j < z.2.length - 1 := List.mem_range.mp (by rw [e3]; simp)
          have i1 : atI (z.2.map D.int) (1 + (j : Int)) = some (.int (z.2.getD (j + 1) 0)) := by
            have := at_get (f := D.int) (xs := z.2) (i := j + 1) (d := 0) (by omega)
            rw [← this]; congr 1; omega
          have i2 : atI (z.2.map D.int) (1 + (j : Int) - 1) = some (.int (z.2.getD j 0)) := by
            have := at_get (f := D.int) (xs := z.2) (i := j) (d := 0) (by omega)
            rw [← this]; congr 1; omega
          have g1 : z.2.getD j 0 = z.2[j]'(by omega) := by rw [List.getD_eq_getElem?_getD, List.getElem?_eq_getElem (by omega)]; rfl
          have g2 : z.2.getD (j + 1) 0 = z.2[j + 1]'(by omega) := by rw [List.getD_eq_getElem?_getD, List.getElem?_eq_getElem (by omega)]; rfl
          have hlt := List.pairwise_iff_getElem.mp hpw j (j + 1) (by omega) (by omega) (by omega)
          rw [← g1, ← g2] at hlt
          have m1 := hfr _ (hfz (z.2.getD j 0) (by rw [g1]; exact List.getElem_mem _))
          have m2 := hfr _ (hfz (z.2.getD (j + 1) 0) (by rw [g2]; exact List.getElem_mem _))
          generalize z.2.getD j 0 = a1 at *
          generalize z.2.getD (j + 1) 0 = a2 at *
          have hat : ∀ a : Int, 0 ≤ a → a < xs.length → atI (xs.map pr) a = some (pr (xs.getD a.toNat (0, 0))) := fun a h0 h1 => by
            have := at_get (f := pr) (xs := xs) (i := a.toNat) (d := (0, 0)) (by omega)
            rw [← this]; congr 1; omega
          have nlt : ¬ (xs.getD a2.toNat (0, 0)).1 ≤ (xs.getD a1.toNat (0, 0)).2 := Int.not_le.mpr hlt
          push_cast
          unfold T_law_1
          push_cast [hz' z hm, i1, i2, hat a1 m1.1 m1.2, hat a2 m2.1 m2.2, nlt]
          exact hK3 _ _ ⟨rfl, _, rfl⟩
      · rintro l2 a r2 e2 Δ O2 K2 ⟨rfl, z8, rfl⟩ hK2
        have ha : a ∈ z.2 := by rw [e2]; simp
        have har := hfr a (hfz a ha)
        have hns : a ∉ (l.map (·.2)).flatten ++ l2 := fun h => by
          rw [e2] at nd9
          have e3 : (l.map (·.2)).flatten ++ (l2 ++ a :: r2 ++ (r.map (·.2)).flatten) = ((l.map (·.2)).flatten ++ l2) ++ (a :: (r2 ++ (r.map (·.2)).flatten)) := by simp
          rw [e3] at nd9
          exact (List.nodup_append.mp nd9).2.2 _ h _ List.mem_cons_self rfl
        have hsl : ((l.map (·.2)).flatten ++ l2).length ≤ xs.length := by
          have := congrArg List.length efl
          have h2 := congrArg List.length e2
          simp only [List.length_append, List.length_cons] at this h2 ⊢
          omega
        push_cast
        unfold T_law_0
        push_cast
        refine ⟨a, rfl, ?_⟩
        have e4 : decide (a < (xs.length : Int)) = true := decide_eq_true har.2
        have e5 : decide (a ∈ (l.map (·.2)).flatten ++ l2) = false := by simpa using hns
        push_cast
        rw [if_pos har.1]
        push_cast [e4]
        rw [in_ptrI getC_self, e5]
        push_cast
        refine ⟨by rw [sizeLine_eq]; omega, hK2 _ _ ⟨?_, _, rfl⟩⟩
        simp
  push_cast
  refine four1 r0 r1 ?_ ?_ ?_ ?_
  · exact main 3 (by omega) (by omega)
  · exact main 9 (by omega) (by omega)
  · exact main 25 (by omega) (by omega)
  · exact main 59 (by omega) (by omega)

section
variable {g : Gm} {P : Program} {w : World} {mg : Str → Option Value} {base : Heap}
theorem sc_law_take : FnScope N_law_take ["_law_box_here", "_law_many"] (defScope s_law_take) := ⟨rfl, rfl, rfl, by decide +kernel, rfl, by decide +kernel, by decide +kernel⟩
theorem b_law_take (B : Bt mg)  : BodyOk g P w g.K mg base 0 N_law_take "_law_take" s_law_take T_law_take := fun f cdv A outer s H E hr =>
  (qss_cons (qs_asg 2 sc_law_take.nd (q_ix (q_var 0) q_int)) (qss_cons (qs_if (PW.pt (qw_and (qt_cmp (op_eqA hr.units) lk_eq (q_ix (q_var 0) q_int) q_int (nomark _)) (qw_and (qt_cmp op_lt lk_lt (q_ix (q_var 0) q_int) (q_callB call_lenA lk_len B.len (qa_cons (q_var 2) qa_nil)) (nomark _)) (qw_and1 (qt_cmp op_gt lk_gt (q_ix (q_var 2) (q_ix (q_var 0) q_int)) (q_op op_pow lk_pow q_int q_int) (nomark _)))))) (qss_cons (qs_setIx (q_var 0) q_int (q_op op_sub lk_sub (q_ix (q_var 2) (q_ix (q_var 0) q_int)) (q_op op_pow lk_pow q_int q_int))) (qss_one (qs_setIx (q_var 0) q_int (q_op op_addA lk_add (q_ix (q_var 0) q_int) q_int)))) qss_nil) (qss_cons (qs_if (qt_cmp op_gt lk_gt (q_ix (q_var 0) q_int) q_int (nomark _)) (qss_cons (qs_asg 3 sc_law_take.nd (q_op op_mod lk_mod (q_callTy call_int1 lk_int B.int (qa_cons (q_ix (q_var 0) q_int) qa_nil)) (q_var 1))) (qss_cons (qs_setIx (q_var 0) q_int (q_op op_fdiv lk_div (q_callTy call_int1 lk_int B.int (qa_cons (q_ix (q_var 0) q_int) qa_nil)) (q_var 1))) (qss_one (qs_ret (q_var 3))))) qss_nil) (qss_cons (qs_asg 4 sc_law_take.nd q_int) (qss_cons (qs_if (qt_cmp op_lt lk_lt (q_ix (q_var 0) q_int) (q_callB call_lenA lk_len B.len (qa_cons (q_var 2) qa_nil)) (nomark _)) (qss_one (qs_asg 4 sc_law_take.nd (q_callTy call_int1 lk_int B.int (qa_cons (q_ix (q_var 2) (q_ix (q_var 0) q_int)) qa_nil)))) qss_nil) (qss_cons (qs_setIx (q_var 0) q_int (q_op op_addA lk_add (q_ix (q_var 0) q_int) q_int)) (qss_cons (qs_setIx (q_var 0) q_int (q_op op_mod lk_mod (q_callTy call_int1 lk_int B.int (qa_cons (q_op op_addA lk_add (q_op op_addA lk_add (q_op op_mul lk_mul (q_ix (q_var 0) q_int) q_int) (q_op op_mul lk_mul (q_var 4) q_int)) (q_ix (q_var 0) q_int)) qa_nil)) q_int)) (qss_one (qs_ret (q_op op_mod lk_mod (q_op op_mod lk_mod (q_callTy call_int1 lk_int B.int (qa_cons (q_op op_addA lk_add (q_op op_mul lk_mul (q_op op_fdiv lk_div (q_ix (q_var 0) q_int) q_int) q_int) (q_op op_mod lk_mod (q_callTy call_int1 lk_int B.int (qa_cons (q_ix (q_var 0) q_int) qa_nil)) q_int)) qa_nil)) q_int) (q_var 1)))))))))))

theorem sc_law_box : FnScope N_law_box ["_law_script", "_law_salt"] (defScope s_law_box) := ⟨rfl, rfl, rfl, by decide +kernel, rfl, by decide +kernel, by decide +kernel⟩
theorem b_law_box (B : Bt mg)  : BodyOk g P w g.K mg base 0 N_law_box "_law_box" s_law_box T_law_box := fun f cdv A outer s H E hr =>
  (qss_one (qs_ret (q_lstO (qa_cons (q_lc (own := [("_law_cell", 2)]) sc_law_box.nd (qi_list (q_slice (q_var 0) qo_none (qo_some q_int))) (blkOk_by (N := N_law_box) (sc := defScope s_law_box) (by decide +kernel)) (fun _ _ _ _ _ => pg_name (i := 2) sc_law_box.nd rfl (by first | exact Or.inl rfl | exact Or.inr rfl)) (lkg_name 2) (fun _ _ _ _ _ => qts_nil) (fun _ _ _ _ _ => (q_callTy call_int1 lk_int B.int (qa_cons (q_var 2) qa_nil)))) (qa_cons q_int (qa_cons q_int (qa_cons (q_var 1) qa_nil)))))))

theorem sc_law_whole : FnScope N_law_whole ["_law_worth"] (defScope s_law_whole) := ⟨rfl, rfl, rfl, by decide +kernel, rfl, by decide +kernel, by decide +kernel⟩
theorem b_law_whole (B : Bt mg)  : BodyOk g P w g.K mg base 0 N_law_whole "_law_whole" s_law_whole T_law_whole := fun f cdv A outer s H E hr =>
  (qss_one (qs_ret (q_and (q_isB (n := "int") B.isinstance B.int (q_var 0)) (q_one (q_not (q_isB (n := "bool") B.isinstance B.bool (q_var 0)))))))

theorem sc_law_span : FnScope N_law_span ["_law_box_here"] (defScope s_law_span) := ⟨rfl, rfl, rfl, by decide +kernel, rfl, by decide +kernel, by decide +kernel⟩
theorem b_law_span (B : Bt mg) (gd_law_take : GD g P w g.K mg base 1 "_law_take" S_law_take) : BodyOk g P w g.K mg base 1 N_law_span "_law_span" s_law_span T_law_span := fun f cdv A outer s H E hr =>
  (qss_one (qs_ret (q_ix (q_lst (qa_cons q_int (qa_cons q_int (qa_cons q_int (qa_cons q_int qa_nil))))) (q_gcall gd_law_take hr (takes_of rfl rfl rfl rfl) (qa_cons (q_var 0) (qa_cons q_int qa_nil))))))

theorem sc_law_moved : FnScope N_law_moved ["_law_box_here"] (defScope s_law_moved) := ⟨rfl, rfl, rfl, by decide +kernel, rfl, by decide +kernel, by decide +kernel⟩
theorem b_law_moved (B : Bt mg) (gd_law_take : GD g P w g.K mg base 1 "_law_take" S_law_take) : BodyOk g P w g.K mg base 1 N_law_moved "_law_moved" s_law_moved T_law_moved := fun f cdv A outer s H E hr =>
  (qss_one (qs_ret (q_ix (q_lst (qa_cons q_int (qa_cons q_int (qa_cons (q_neg q_int) (qa_cons (q_op op_pow lk_pow q_int q_int) (qa_cons (q_neg (q_op op_pow lk_pow q_int q_int)) qa_nil)))))) (q_gcall gd_law_take hr (takes_of rfl rfl rfl rfl) (qa_cons (q_var 0) (qa_cons q_int qa_nil))))))

theorem sc_law_pair : FnScope N_law_pair ["_law_box_here", "_law_span_here", "_law_moved_here"] (defScope s_law_pair) := ⟨rfl, rfl, rfl, by decide +kernel, rfl, by decide +kernel, by decide +kernel⟩
theorem b_law_pair (B : Bt mg) (gd_law_take : GD g P w g.K mg base 1 "_law_take" S_law_take) : BodyOk g P w g.K mg base 1 N_law_pair "_law_pair" s_law_pair T_law_pair := fun f cdv A outer s H E hr =>
  (qss_cons (qs_asg 3 sc_law_pair.nd (q_op op_addA lk_add (q_op op_sub lk_sub (q_gcall gd_law_take hr (takes_of rfl rfl rfl rfl) (qa_cons (q_var 0) (qa_cons (q_op op_mul lk_mul q_int (q_var 1)) qa_nil))) (q_var 1)) (q_var 2))) (qss_cons (qs_asg 4 sc_law_pair.nd (q_ix (q_lst (qa_cons q_int (qa_cons q_int (qa_cons q_int (qa_cons (q_var 1) qa_nil))))) (q_gcall gd_law_take hr (takes_of rfl rfl rfl rfl) (qa_cons (q_var 0) (qa_cons q_int qa_nil))))) (qss_one (qs_ret (q_tup (qa_cons (q_var 3) (qa_cons (q_op op_addA lk_add (q_var 3) (q_gcall gd_law_take hr (takes_of rfl rfl rfl rfl) (qa_cons (q_var 0) (qa_cons (q_op op_addA lk_add (q_var 4) q_int) qa_nil)))) qa_nil)))))))

theorem sc_law_pairs : FnScope N_law_pairs ["_law_box_here", "_law_most", "_law_span_here", "_law_moved_here"] (defScope s_law_pairs) := ⟨rfl, rfl, rfl, by decide +kernel, rfl, by decide +kernel, by decide +kernel⟩
theorem b_law_pairs (B : Bt mg) (gd_law_take : GD g P w g.K mg base 1 "_law_take" S_law_take) (gd_law_pair : GD g P w g.K mg base 2 "_law_pair" S_law_pair) : BodyOk g P w g.K mg base 2 N_law_pairs "_law_pairs" s_law_pairs T_law_pairs := fun f cdv A outer s H E hr =>
  (qss_cons (qs_asgLcO (i := 4) (own := [("_law_turn", 5)]) sc_law_pairs.nd (qi_range1 B.range (qa_cons (q_gcall gd_law_take hr (takes_of rfl rfl rfl rfl) (qa_cons (q_var 0) (qa_cons (q_op op_addA lk_add (q_var 1) q_int) qa_nil))) qa_nil)) (blkOk_by (N := N_law_pairs) (sc := defScope s_law_pairs) (by decide +kernel)) (fun _ _ _ _ _ => pg_name (i := 5) sc_law_pairs.nd rfl (by first | exact Or.inl rfl | exact Or.inr rfl)) (lkg_name 5) (fun _ _ _ _ _ => qts_nil) (fun _ _ _ _ _ => (q_gcall gd_law_pair hr takes0 (qa_cons (q_var 0) (qa_cons (q_var 2) (qa_cons (q_var 3) qa_nil))))) (ps_setLc (i := 4) (own := [("_law_turn", 5)]) rfl sc_law_pairs.nd rfl rfl (sw_true rfl rfl rfl (by decide +kernel)) (qi_range1 B.range (qa_cons (q_gcall gd_law_take hr (takes_of rfl rfl rfl rfl) (qa_cons (q_var 0) (qa_cons (q_op op_addA lk_add (q_var 1) q_int) qa_nil))) qa_nil)) (blkOk_by (N := N_law_pairs) (sc := defScope s_law_pairs) (by decide +kernel)) (fun _ _ _ _ _ => pg_name (i := 5) sc_law_pairs.nd rfl (by first | exact Or.inl rfl | exact Or.inr rfl)) (fun _ _ _ _ _ => qts_nil) (fun _ _ _ _ _ => (q_gcall gd_law_pair hr takes0 (qa_cons (q_var 0) (qa_cons (q_var 2) (qa_cons (q_var 3) qa_nil))))))) (qss_cons (qs_if (PW.pt (qw_and (qt_tru (q_var 4)) (qw_and1 (qt_cmp (op_eqA hr.units) lk_eq (q_gcall gd_law_take hr (takes_of rfl rfl rfl rfl) (qa_cons (q_var 0) (qa_cons q_int qa_nil))) q_int (nomark _))))) (qss_one (qs_expr (q_app (pe_bm PySem.F.plainAttrs_list PySem.F.slot_list_append PySem.F.type_list_append mt_append (q_var 4) (pa_cons (q_ix (q_var 4) (q_gcall gd_law_take hr (takes_of rfl rfl rfl rfl) (qa_cons (q_var 0) (qa_cons (q_callB call_lenA lk_len B.len (qa_cons (q_var 4) qa_nil)) qa_nil)))) pa_nil))))) qss_nil) (qss_one (qs_ret (q_frz (q_var 4))))))

theorem sc_law_depth : FnScope N_law_depth ["_law_pairs_here", "_law_spot"] (defScope s_law_depth) := ⟨rfl, rfl, rfl, by decide +kernel, rfl, by decide +kernel, by decide +kernel⟩
theorem b_law_depth (B : Bt mg)  : BodyOk g P w g.K mg base 0 N_law_depth "_law_depth" s_law_depth T_law_depth := fun f cdv A outer s H E hr =>
  (qss_one (qs_ret (q_callB call_lenA lk_len B.len (qa_cons (q_lc (own := [("_law_pair_here", 2)]) sc_law_depth.nd (qi_list (q_var 0)) (blkOk_by (N := N_law_depth) (sc := defScope s_law_depth) (by decide +kernel)) (fun _ _ _ _ _ => pg_name (i := 2) sc_law_depth.nd rfl (by first | exact Or.inl rfl | exact Or.inr rfl)) (lkg_name 2) (fun _ _ _ _ _ => (qts_one (qt_chain op_le op_le lk_le lk_le (q_ix (q_var 2) q_int) (q_var 1) (q_ix (q_var 2) q_int)))) (fun _ _ _ _ _ => (q_var 2))) qa_nil))))

theorem sc_Stretch_init : FnScope N_Stretch_init ["self", "low", "high"] (defScope s_Stretch_init) := ⟨rfl, rfl, rfl, by decide +kernel, rfl, by decide +kernel, by decide +kernel⟩
theorem b_Stretch_init (B : Bt mg) (gx_BadStretch : GX g P w g.K mg base .BadStretch "BadStretch" [.low, .high]) (fl_low : Flds g [.Stretch] .low) (fl_high : Flds g [.Stretch] .high) : BodyOk g P w g.K mg base 2 N_Stretch_init "Stretch.__init__" s_Stretch_init T_Stretch_init := fun f cdv A outer s H E hr =>
  (qss_cons (qs_if (qt_cmp op_gt lk_gt (q_var 1) (q_var 2) (nomark _)) (qss_one (qs_raise gx_BadStretch hr (takes_of rfl rfl rfl rfl) (qa_cons (q_var 1) (qa_cons (q_var 2) qa_nil)))) qss_nil) (qss_cons (qs_setF fl_low (q_var 0) (q_var 1)) (qss_one (qs_setF fl_high (q_var 0) (q_var 2)))))

theorem sc_Stretch_contains : FnScope N_Stretch_contains ["self", "level"] (defScope s_Stretch_contains) := ⟨rfl, rfl, rfl, by decide +kernel, rfl, by decide +kernel, by decide +kernel⟩
theorem b_Stretch_contains (B : Bt mg) (fl_low : Flds g [.Stretch] .low) (fl_high : Flds g [.Stretch] .high) : BodyOk g P w g.K mg base 0 N_Stretch_contains "Stretch.__contains__" s_Stretch_contains T_Stretch_contains := fun f cdv A outer s H E hr =>
  (qss_one (qs_ret (q_chain op_le op_le lk_le lk_le (q_fld fl_low (q_var 0)) (q_var 1) (q_fld fl_high (q_var 0)))))

theorem sc_law_stays : FnScope N_law_stays ["_law_pieces", "_law_pairs_here"] (defScope s_law_stays) := ⟨rfl, rfl, rfl, by decide +kernel, rfl, by decide +kernel, by decide +kernel⟩
theorem b_law_stays (B : Bt mg) (fl_high : Flds g [.Stretch] .high) (fl_low : Flds g [.Stretch] .low) : BodyOk g P w g.K mg base 0 N_law_stays "_law_stays" s_law_stays T_law_stays := fun f cdv A outer s H E hr =>
  (qss_one (qs_ret (q_cmp (op_eqA hr.units) lk_eq (q_lc (own := [("_law_piece", 2)]) sc_law_stays.nd (qi_list (q_var 0)) (blkOk_by (N := N_law_stays) (sc := defScope s_law_stays) (by decide +kernel)) (fun _ _ _ _ _ => pg_name (i := 2) sc_law_stays.nd rfl (by first | exact Or.inl rfl | exact Or.inr rfl)) (lkg_name 2) (fun _ _ _ _ _ => qts_nil) (fun _ _ _ _ _ => (q_tup (qa_cons (q_fld fl_low (q_var 2)) (qa_cons (q_fld fl_high (q_var 2)) qa_nil))))) (q_var 1) (nomark _))))

theorem sc_law_made : FnScope N_law_made ["_law_pairs_here"] (defScope s_law_made) := ⟨rfl, rfl, rfl, by decide +kernel, rfl, by decide +kernel, by decide +kernel⟩
theorem b_law_made (B : Bt mg) (gc_Stretch : GC g P w g.K mg base 3 .Stretch "Stretch" S_Stretch_init) : BodyOk g P w g.K mg base 4 N_law_made "_law_made" s_law_made T_law_made := fun f cdv A outer s H E hr =>
  (qss_one (qs_ret (q_lc (own := [("_law_pair_here", 1)]) sc_law_made.nd (qi_list (q_var 0)) (blkOk_by (N := N_law_made) (sc := defScope s_law_made) (by decide +kernel)) (fun _ _ _ _ _ => pg_name (i := 1) sc_law_made.nd rfl (by first | exact Or.inl rfl | exact Or.inr rfl)) (lkg_name 1) (fun _ _ _ _ _ => qts_nil) (fun _ _ _ _ _ => (q_gmake gc_Stretch hr takes0 (qa_cons (q_ix (q_var 1) q_int) (qa_cons (q_ix (q_var 1) q_int) qa_nil)))))))

theorem sc_merged : FnScope N_merged ["pairs"] (defScope s_merged) := ⟨rfl, rfl, rfl, by decide +kernel, rfl, by decide +kernel, by decide +kernel⟩
theorem b_merged (B : Bt mg)  : BodyOk g P w g.K mg base 0 N_merged "merged" s_merged T_merged := fun f cdv A outer s H E hr =>
  (qss_cons (qs_asg 1 sc_merged.nd (q_lstO qa_nil)) (qss_cons (qs_for (passes_of rfl) (qi_list (q_callB cr_sortedPO lk_sortP B.sorted (qa_cons (q_var 0) qa_nil))) ((pg_tup rfl (pgs_cons (pg_name (i := 2) sc_merged.nd rfl (by first | exact Or.inl rfl | exact Or.inr rfl)) (pgs_cons (pg_name (i := 3) sc_merged.nd rfl (by first | exact Or.inl rfl | exact Or.inr rfl)) pgs_nil)))) (lkg_tup [2, 3]) (qss_one (qs_if (PW.pt (qw_and (qt_tru (q_var 1)) (qw_and1 (qt_cmp op_le lk_le (q_var 2) (q_op op_addA lk_add (q_ix (q_ix (q_var 1) (q_neg q_int)) q_int) q_int) (nomark _))))) (qss_one (qs_setIx (q_var 1) (q_neg q_int) (q_tup (qa_cons (q_ix (q_ix (q_var 1) (q_neg q_int)) q_int) (qa_cons (q_callB (call_max2 rfl) lk_max2 B.max (qa_cons (q_var 3) (qa_cons (q_ix (q_ix (q_var 1) (q_neg q_int)) q_int) qa_nil))) qa_nil))))) (qss_one (qs_expr (q_app (pe_bm PySem.F.plainAttrs_list PySem.F.slot_list_append PySem.F.type_list_append mt_append (q_var 1) (pa_cons (q_tup (qa_cons (q_var 2) (qa_cons (q_var 3) qa_nil))) pa_nil)))))))) (qss_one (qs_ret (q_frz (q_var 1))))))

theorem sc_Levels_init : FnScope N_Levels_init ["self", "stretches"] (defScope s_Levels_init) := ⟨rfl, rfl, rfl, by decide +kernel, rfl, by decide +kernel, by decide +kernel⟩
theorem b_Levels_init (B : Bt mg) (gd_merged : GD g P w g.K mg base 1 "merged" S_merged) (fl_high : Flds g [.Stretch] .high) (fl_low : Flds g [.Stretch] .low) (gc_Stretch : GC g P w g.K mg base 3 .Stretch "Stretch" S_Stretch_init) (fl_pieces : Flds g [.Levels] .pieces) : BodyOk g P w g.K mg base 4 N_Levels_init "Levels.__init__" s_Levels_init T_Levels_init := fun f cdv A outer s H E hr =>
  (qss_cons (qs_asg 2 sc_Levels_init.nd (q_gcall gd_merged hr (takes_of rfl rfl rfl rfl) (qa_cons (q_lc (own := [("piece", 3)]) sc_Levels_init.nd (qi_tup (q_var 1)) (blkOk_by (N := N_Levels_init) (sc := defScope s_Levels_init) (by decide +kernel)) (fun _ _ _ _ _ => pg_name (i := 3) sc_Levels_init.nd rfl (by first | exact Or.inl rfl | exact Or.inr rfl)) (lkg_name 3) (fun _ _ _ _ _ => qts_nil) (fun _ _ _ _ _ => (q_tup (qa_cons (q_fld fl_low (q_var 3)) (qa_cons (q_fld fl_high (q_var 3)) qa_nil))))) qa_nil))) (qss_one (qs_setF fl_pieces (q_var 0) (q_lc (own := [("low", 4), ("high", 5)]) sc_Levels_init.nd (qi_list (q_var 2)) (blkOk_by (N := N_Levels_init) (sc := defScope s_Levels_init) (by decide +kernel)) (fun _ _ _ _ _ => (pg_tup rfl (pgs_cons (pg_name (i := 4) sc_Levels_init.nd rfl (by first | exact Or.inl rfl | exact Or.inr rfl)) (pgs_cons (pg_name (i := 5) sc_Levels_init.nd rfl (by first | exact Or.inl rfl | exact Or.inr rfl)) pgs_nil)))) (lkg_tup [4, 5]) (fun _ _ _ _ _ => qts_nil) (fun _ _ _ _ _ => (q_gmake gc_Stretch hr takes0 (qa_cons (q_var 4) (qa_cons (q_var 5) qa_nil))))))))

theorem sc_Levels_ends : FnScope N_Levels_ends ["self"] (defScope s_Levels_ends) := ⟨rfl, rfl, rfl, by decide +kernel, rfl, by decide +kernel, by decide +kernel⟩
theorem b_Levels_ends (B : Bt mg) (fl_pieces : Flds g [.Levels] .pieces) (fl_high : Flds g [.Stretch] .high) (fl_low : Flds g [.Stretch] .low) : BodyOk g P w g.K mg base 0 N_Levels_ends "Levels.ends" s_Levels_ends T_Levels_ends := fun f cdv A outer s H E hr =>
  (qss_one (qs_ret (q_lc (own := [("piece", 1)]) sc_Levels_ends.nd (qi_list (q_fld fl_pieces (q_var 0))) (blkOk_by (N := N_Levels_ends) (sc := defScope s_Levels_ends) (by decide +kernel)) (fun _ _ _ _ _ => pg_name (i := 1) sc_Levels_ends.nd rfl (by first | exact Or.inl rfl | exact Or.inr rfl)) (lkg_name 1) (fun _ _ _ _ _ => qts_nil) (fun _ _ _ _ _ => (q_tup (qa_cons (q_fld fl_low (q_var 1)) (qa_cons (q_fld fl_high (q_var 1)) qa_nil)))))))

theorem sc_depth : FnScope N_depth ["stretches", "level"] (defScope s_depth) := ⟨rfl, rfl, rfl, by decide +kernel, rfl, by decide +kernel, by decide +kernel⟩
theorem b_depth (B : Bt mg) (mt_contains_Stretch : MTab g P w g.K mg base 1 "__contains__" [(.Stretch, S_Stretch_contains)]) : BodyOk g P w g.K mg base 1 N_depth "depth" s_depth T_depth := fun f cdv A outer s H E hr =>
  (qss_one (qs_ret (q_callB call_lenA lk_len B.len (qa_cons (q_lc (own := [("piece", 2)]) sc_depth.nd (qi_list (q_var 0)) (blkOk_by (N := N_depth) (sc := defScope s_depth) (by decide +kernel)) (fun _ _ _ _ _ => pg_name (i := 2) sc_depth.nd rfl (by first | exact Or.inl rfl | exact Or.inr rfl)) (lkg_name 2) (fun _ _ _ _ _ => (qts_one (qt_inOwn mt_contains_Stretch hr takes0 (q_var 1) (q_var 2)))) (fun _ _ _ _ _ => (q_var 2))) qa_nil))))

theorem sc_shared : FnScope N_shared ["stretches", "need"] (defScope s_shared) := ⟨rfl, rfl, rfl, by decide +kernel, rfl, by decide +kernel, by decide +kernel⟩
theorem b_shared (B : Bt mg) (gx_BadNeed : GX g P w g.K mg base .BadNeed "BadNeed" [.number]) (fl_low : Flds g [.Stretch] .low) (fl_high : Flds g [.Stretch] .high) (gc_Stretch : GC g P w g.K mg base 3 .Stretch "Stretch" S_Stretch_init) (gcs_Levels : GCs g P w g.K mg base 5 [(.Levels, (starS 1 S_Levels_init))]) (mgc_Levels : mg "Levels" = some (.ref (g.ca .Levels))) : BodyOk g P w g.K mg base 6 N_shared "shared" s_shared T_shared := fun f cdv A outer s H E hr =>
  (qss_cons (qs_if (qt_cmp op_lt lk_lt (q_var 1) q_int (nomark _)) (qss_one (qs_raise gx_BadNeed hr (takes_of rfl rfl rfl rfl) (qa_cons (q_var 1) qa_nil))) qss_nil) (qss_cons (qs_asg 2 sc_shared.nd q_dnew) (qss_cons (qs_for (passes_of rfl) (qi_list (q_var 0)) (pg_name (i := 3) sc_shared.nd rfl (by first | exact Or.inl rfl | exact Or.inr rfl)) (lkg_name 3) (qss_cons (qs_setD (hu_of hr) (q_var 2) (q_fld fl_low (q_var 3)) (q_op op_addA lk_add (q_dget2 (hu_of hr) (q_var 2) (q_fld fl_low (q_var 3)) q_int) q_int)) (qss_one (qs_setD (hu_of hr) (q_var 2) (q_op op_addA lk_add (q_fld fl_high (q_var 3)) q_int) (q_op op_sub lk_sub (q_dget2 (hu_of hr) (q_var 2) (q_op op_addA lk_add (q_fld fl_high (q_var 3)) q_int) q_int) q_int))))) (qss_cons (qs_asg 4 sc_shared.nd (q_callB cr_sortedI lk_sortI B.sorted (qa_cons (q_callTy (call_listD rfl) lk_listD B.list (qa_cons (q_var 2) qa_nil)) qa_nil))) (qss_cons (qs_asg 5 sc_shared.nd q_int) (qss_cons (qs_asg 6 sc_shared.nd (q_lstO qa_nil)) (qss_cons (qs_for (passes_of rfl) (qi_enum B.enumerate (qa_cons (q_var 4) qa_nil)) ((pg_tup rfl (pgs_cons (pg_name (i := 7) sc_shared.nd rfl (by first | exact Or.inl rfl | exact Or.inr rfl)) (pgs_cons (pg_name (i := 8) sc_shared.nd rfl (by first | exact Or.inl rfl | exact Or.inr rfl)) pgs_nil)))) (lkg_tup [7, 8]) (qss_cons (qs_aug 5 ip_add lk_addI sc_shared.nd (q_dix (hu_of hr) (q_var 2) (q_var 8)) rfl (by first | exact Or.inl rfl | exact Or.inr rfl) (by first | exact Or.inr rfl | exact Or.inl rfl)) (qss_one (qs_if (qt_cmp op_ge lk_ge (q_var 5) (q_var 1) (nomark _)) (qss_one (qs_expr (q_app (pe_bm PySem.F.plainAttrs_list PySem.F.slot_list_append PySem.F.type_list_append mt_append (q_var 6) (pa_cons (q_gmake gc_Stretch hr (takes_of rfl rfl rfl rfl) (qa_cons (q_var 8) (qa_cons (q_op op_sub lk_sub (q_ix (q_var 4) (q_op op_addA lk_add (q_var 7) q_int)) q_int) qa_nil))) pa_nil))))) qss_nil)))) (qss_one (qs_ret (q_makeC1 gcs_Levels hr (takes_of rfl rfl rfl rfl) (q_clsG (cl := .Levels) mgc_Levels) (q_var 6)))))))))))

theorem sc_most_shared : FnScope N_most_shared ["stretches"] (defScope s_most_shared) := ⟨rfl, rfl, rfl, by decide +kernel, rfl, by decide +kernel, by decide +kernel⟩
theorem b_most_shared (B : Bt mg) (gxt_NoLevel : GXT g g.K mg .NoLevel "NoLevel") (gd_depth : GD g P w g.K mg base 2 "depth" S_depth) (fl_low : Flds g [.Stretch] .low) (gd_shared : GD g P w g.K mg base 7 "shared" S_shared) : BodyOk g P w g.K mg base 7 N_most_shared "most_shared" s_most_shared T_most_shared := fun f cdv A outer s H E hr =>
  (qss_cons (qs_if (qt_not (qt_tru (q_var 0))) (qss_one (qs_raiseT gxt_NoLevel (takes_of rfl rfl rfl rfl))) qss_nil) (qss_cons (qs_asg 1 sc_most_shared.nd (q_callB (cr_max rfl) lk_maxL B.max (qa_cons (q_lc (own := [("piece", 2)]) sc_most_shared.nd (qi_list (q_var 0)) (blkOk_by (N := N_most_shared) (sc := defScope s_most_shared) (by decide +kernel)) (fun _ _ _ _ _ => pg_name (i := 2) sc_most_shared.nd rfl (by first | exact Or.inl rfl | exact Or.inr rfl)) (lkg_name 2) (fun _ _ _ _ _ => qts_nil) (fun _ _ _ _ _ => (q_gcall gd_depth hr takes0 (qa_cons (q_var 0) (qa_cons (q_fld fl_low (q_var 2)) qa_nil))))) qa_nil))) (qss_one (qs_ret (q_tup (qa_cons (q_var 1) (qa_cons (q_gcall gd_shared hr (takes_of rfl rfl rfl rfl) (qa_cons (q_var 0) (qa_cons (q_var 1) qa_nil))) qa_nil)))))))

theorem sc_least_liars : FnScope N_least_liars ["stretches"] (defScope s_least_liars) := ⟨rfl, rfl, rfl, by decide +kernel, rfl, by decide +kernel, by decide +kernel⟩
theorem b_least_liars (B : Bt mg) (gd_most_shared : GD g P w g.K mg base 8 "most_shared" S_most_shared) : BodyOk g P w g.K mg base 8 N_least_liars "least_liars" s_least_liars T_least_liars := fun f cdv A outer s H E hr =>
  (qss_cons (qs_if (qt_not (qt_tru (q_var 0))) (qss_one (qs_ret q_int)) qss_nil) (qss_one (qs_ret (q_op op_sub lk_sub (q_callB call_lenA lk_len B.len (qa_cons (q_var 0) qa_nil)) (q_ix (q_gcall gd_most_shared hr (takes_of rfl rfl rfl rfl) (qa_cons (q_var 0) qa_nil)) q_int)))))

theorem sc_apart_lots : FnScope N_apart_lots ["stretches"] (defScope s_apart_lots) := ⟨rfl, rfl, rfl, by decide +kernel, rfl, by decide +kernel, by decide +kernel⟩
theorem b_apart_lots (B : Bt mg) (fl_low : Flds g [.Stretch] .low) (fl_high : Flds g [.Stretch] .high) : BodyOk g P w g.K mg base 0 N_apart_lots "apart_lots" s_apart_lots T_apart_lots := fun f cdv A outer s H E hr =>
  (qss_cons (qs_asg 1 sc_apart_lots.nd (q_callB cr_sortedPO lk_sortP B.sorted (qa_cons (q_lc (own := [("at", 4), ("piece", 6)]) sc_apart_lots.nd (qi_enum B.enumerate (qa_cons (q_var 0) qa_nil)) (blkOk_by (N := N_apart_lots) (sc := defScope s_apart_lots) (by decide +kernel)) (fun _ _ _ _ _ => (pg_tup rfl (pgs_cons (pg_name (i := 4) sc_apart_lots.nd rfl (by first | exact Or.inl rfl | exact Or.inr rfl)) (pgs_cons (pg_name (i := 6) sc_apart_lots.nd rfl (by first | exact Or.inl rfl | exact Or.inr rfl)) pgs_nil)))) (lkg_tup [4, 6]) (fun _ _ _ _ _ => qts_nil) (fun _ _ _ _ _ => (q_tup (qa_cons (q_fld fl_low (q_var 6)) (qa_cons (q_var 4) qa_nil))))) qa_nil))) (qss_cons (qs_asg 2 sc_apart_lots.nd (q_lstO qa_nil)) (qss_cons (qs_for (passes_of rfl) (qi_list (q_var 1)) ((pg_tup rfl (pgs_cons (pg_name (i := 3) sc_apart_lots.nd rfl (by first | exact Or.inl rfl | exact Or.inr rfl)) (pgs_cons (pg_name (i := 4) sc_apart_lots.nd rfl (by first | exact Or.inl rfl | exact Or.inr rfl)) pgs_nil)))) (lkg_tup [3, 4]) (qss_cons (qs_asgLcP (i := 5) (own := [("group", 7)]) sc_apart_lots.nd (q_var 2) (blkOk_by (N := N_apart_lots) (sc := defScope s_apart_lots) (by decide +kernel)) (fun _ _ _ _ _ => pg_name (i := 7) sc_apart_lots.nd rfl (by first | exact Or.inl rfl | exact Or.inr rfl)) (lkg_name 7) (fun _ _ _ _ _ => (qts_one (qt_cmp op_lt lk_lt (q_fld fl_high (q_ix (q_var 0) (q_ix (q_var 7) (q_neg q_int)))) (q_var 3) (nomark _)))) (fun _ _ _ _ _ => (q_var 7)) (ps_setLc (i := 5) (own := [("group", 7)]) rfl sc_apart_lots.nd rfl rfl (sw_true rfl rfl rfl (by decide +kernel)) (pi_list (q_var 2)) (blkOk_by (N := N_apart_lots) (sc := defScope s_apart_lots) (by decide +kernel)) (fun _ _ _ _ _ => pg_name (i := 7) sc_apart_lots.nd rfl (by first | exact Or.inl rfl | exact Or.inr rfl)) (fun _ _ _ _ _ => (qts_one (qt_cmp op_lt lk_lt (q_fld fl_high (q_ix (q_var 0) (q_ix (q_var 7) (q_neg q_int)))) (q_var 3) (nomark _)))) (fun _ _ _ _ _ => (q_var 7)))) (qss_one (qs_if (qt_tru (q_var 5)) (qss_one (qs_expr (q_app (pe_bm PySem.F.plainAttrs_list PySem.F.slot_list_append PySem.F.type_list_append mt_append (q_ix (q_var 5) q_int) (pa_cons (q_var 4) pa_nil))))) (qss_one (qs_expr (q_app (pe_bm PySem.F.plainAttrs_list PySem.F.slot_list_append PySem.F.type_list_append mt_append (q_var 2) (pa_cons (q_lstO (qa_cons (q_var 4) qa_nil)) pa_nil))))))))) (qss_one (qs_ret (q_var 2))))))

theorem sc_law_lots : FnScope N_law_lots ["_law_pairs_here"] (defScope s_law_lots) := ⟨rfl, rfl, rfl, by decide +kernel, rfl, by decide +kernel, by decide +kernel⟩
theorem b_law_lots (B : Bt mg)  : BodyOk g P w g.K mg base 0 N_law_lots "_law_lots" s_law_lots T_law_lots := fun f cdv A outer s H E hr =>
  (qss_cons (qs_asg 1 sc_law_lots.nd (q_lstO qa_nil)) (qss_cons (qs_for (passes_of rfl) (qi_list (q_callB cr_sortedPO lk_sortP B.sorted (qa_cons (q_lc (own := [("_law_k", 5)]) sc_law_lots.nd (qi_range1 B.range (qa_cons (q_callB call_lenA lk_len B.len (qa_cons (q_var 0) qa_nil)) qa_nil)) (blkOk_by (N := N_law_lots) (sc := defScope s_law_lots) (by decide +kernel)) (fun _ _ _ _ _ => pg_name (i := 5) sc_law_lots.nd rfl (by first | exact Or.inl rfl | exact Or.inr rfl)) (lkg_name 5) (fun _ _ _ _ _ => qts_nil) (fun _ _ _ _ _ => (q_tup (qa_cons (q_ix (q_ix (q_var 0) (q_var 5)) q_int) (qa_cons (q_var 5) qa_nil))))) qa_nil))) (pg_name (i := 2) sc_law_lots.nd rfl (by first | exact Or.inl rfl | exact Or.inr rfl)) (lkg_name 2) (qss_cons (qs_asg 3 sc_law_lots.nd q_bl) (qss_cons (qs_for (passes_of rfl) (qi_list (q_callTy call_list_of lk_listS B.list (qa_cons (q_var 1) qa_nil))) (pg_name (i := 4) sc_law_lots.nd rfl (by first | exact Or.inl rfl | exact Or.inr rfl)) (lkg_name 4) (qss_one (qs_if (PW.pt (qw_and (qt_not (qt_tru (q_var 3))) (qw_and1 (qt_cmp op_lt lk_lt (q_ix (q_ix (q_var 0) (q_ix (q_var 4) (q_neg q_int))) q_int) (q_ix (q_var 2) q_int) (nomark _))))) (qss_cons (qs_expr (q_app (pe_bm PySem.F.plainAttrs_list PySem.F.slot_list_append PySem.F.type_list_append mt_append (q_var 4) (pa_cons (q_ix (q_var 2) q_int) pa_nil)))) (qss_one (qs_asg 3 sc_law_lots.nd q_bl))) qss_nil))) (qss_one (qs_if (qt_not (qt_tru (q_var 3))) (qss_one (qs_expr (q_app (pe_bm PySem.F.plainAttrs_list PySem.F.slot_list_append PySem.F.type_list_append mt_append (q_var 1) (pa_cons (q_lstO (qa_cons (q_ix (q_var 2) q_int) qa_nil)) pa_nil))))) qss_nil))))) (qss_one (qs_ret (q_var 1)))))

theorem sc_law : FnScope N_law ["_law_script"] (defScope s_law) := ⟨rfl, rfl, rfl, by decide +kernel, rfl, by decide +kernel, by decide +kernel⟩
theorem b_law (B : Bt mg) (gd_law_box : GD g P w g.K mg base 1 "_law_box" S_law_box) (gd_law_span : GD g P w g.K mg base 2 "_law_span" S_law_span) (gd_law_pairs : GD g P w g.K mg base 3 "_law_pairs" S_law_pairs) (gd_law_moved : GD g P w g.K mg base 2 "_law_moved" S_law_moved) (gd_law_take : GD g P w g.K mg base 1 "_law_take" S_law_take) (gd_law_made : GD g P w g.K mg base 5 "_law_made" S_law_made) (gd_apart_lots : GD g P w g.K mg base 1 "apart_lots" S_apart_lots) (gd_law_whole : GD g P w g.K mg base 1 "_law_whole" S_law_whole) (gd_law_lots : GD g P w g.K mg base 1 "_law_lots" S_law_lots) (gd_least_liars : GD g P w g.K mg base 9 "least_liars" S_least_liars) (gd_most_shared : GD g P w g.K mg base 8 "most_shared" S_most_shared) (mt_ends_Levels : MTab g P w g.K mg base 1 "ends" [(.Levels, S_Levels_ends)]) (gd_law_depth : GD g P w g.K mg base 1 "_law_depth" S_law_depth) (gd_law_stays : GD g P w g.K mg base 1 "_law_stays" S_law_stays) : BodyOk g P w g.K mg base 9 N_law "law" s_law T_law := fun f cdv A outer s H E hr =>
  (qss_cons (qs_asg 1 sc_law.nd (q_gcall gd_law_box hr (takes_of rfl rfl rfl rfl) (qa_cons (q_var 0) (qa_cons q_int qa_nil)))) (qss_cons (qs_asg 2 sc_law.nd (q_gcall gd_law_span hr (takes_of rfl rfl rfl rfl) (qa_cons (q_var 1) qa_nil))) (qss_cons (qs_asg 3 sc_law.nd (q_gcall gd_law_pairs hr (takes_of rfl rfl rfl rfl) (qa_cons (q_var 1) (qa_cons (q_ix (q_lst (qa_cons q_int (qa_cons q_int (qa_cons q_int (qa_cons q_int qa_nil))))) (q_gcall gd_law_take hr (takes_of rfl rfl rfl rfl) (qa_cons (q_var 1) (qa_cons q_int qa_nil)))) (qa_cons (q_var 2) (qa_cons (q_gcall gd_law_moved hr (takes_of rfl rfl rfl rfl) (qa_cons (q_var 1) qa_nil)) qa_nil)))))) (qss_cons (qs_asg 4 sc_law.nd (q_gcall gd_law_made hr (takes_of rfl rfl rfl rfl) (qa_cons (q_var 3) qa_nil))) (qss_cons (qs_asg 5 sc_law.nd (q_gcall gd_apart_lots hr (takes_of rfl rfl rfl rfl) (qa_cons (q_var 4) qa_nil))) (qss_cons (qs_if (PW.pt (qw_or (qt_not (qt_val (q_isB (n := "list") B.isinstance B.list (q_var 5)))) (qw_or1 (qt_not (qt_val (q_callB (cr_all rfl) lk_all B.all (qa_cons (q_lcP (own := [("_law_lot", 7)]) sc_law.nd (q_var 5) (blkOk_by (N := N_law) (sc := defScope s_law) (by decide +kernel)) (fun _ _ _ _ _ => pg_name (i := 7) sc_law.nd rfl (by first | exact Or.inl rfl | exact Or.inr rfl)) (lkg_name 7) (fun _ _ _ _ _ => qts_nil) (fun _ _ _ _ _ => (q_and (q_isB (n := "list") B.isinstance B.list (q_var 7)) (q_one (q_cmp (op_neO hr.units) lk_neO (q_var 7) (q_lst qa_nil) (nomark _)))))) qa_nil))))))) (qss_one (qs_ret q_bl)) qss_nil) (qss_cons (qs_asg 6 sc_law.nd (q_lstO qa_nil)) (qss_cons (qs_forP (passes_of rfl) (q_var 5) (pg_name (i := 7) sc_law.nd rfl (by first | exact Or.inl rfl | exact Or.inr rfl)) (lkg_name 7) (qss_cons (qs_forP (passes_of rfl) (q_var 7) (pg_name (i := 8) sc_law.nd rfl (by first | exact Or.inl rfl | exact Or.inr rfl)) (lkg_name 8) (qss_cons (qs_if (PW.pt (qw_or (qt_not (qt_val (q_gcall gd_law_whole hr (takes_of rfl rfl rfl rfl) (qa_cons (q_var 8) qa_nil)))) (qw_or (qt_not (qt_chain op_le op_lt lk_le lk_lt q_int (q_var 8) (q_callB call_lenA lk_len B.len (qa_cons (q_var 3) qa_nil)))) (qw_or1 (qt_cmp op_in_seq lk_in (q_var 8) (q_var 6) (by rfl)))))) (qss_one (qs_ret q_bl)) qss_nil) (qss_one (qs_expr (q_app (pe_bm PySem.F.plainAttrs_list PySem.F.slot_list_append PySem.F.type_list_append mt_append (q_var 6) (pa_cons (q_var 8) pa_nil))))))) (qss_one (qs_for (passes_of rfl) (qi_range2 B.range (qa_cons q_int (qa_cons (q_callB call_lenA lk_len B.len (qa_cons (q_var 7) qa_nil)) qa_nil))) (pg_name (i := 9) sc_law.nd rfl (by first | exact Or.inl rfl | exact Or.inr rfl)) (lkg_name 9) (qss_one (qs_if (qt_cmp op_ge lk_ge (q_ix (q_ix (q_var 3) (q_ix (q_var 7) (q_op op_sub lk_sub (q_var 9) q_int))) q_int) (q_ix (q_ix (q_var 3) (q_ix (q_var 7) (q_var 9))) q_int) (nomark _)) (qss_one (qs_ret q_bl)) qss_nil)))))) (qss_cons (qs_if (PW.pt (qw_or (qt_cmp (op_neA hr.units) lk_ne (q_callB call_lenA lk_len B.len (qa_cons (q_var 6) qa_nil)) (q_callB call_lenA lk_len B.len (qa_cons (q_var 3) qa_nil)) (nomark _)) (qw_or1 (qt_cmp (op_neO hr.units) lk_neN (q_var 5) (q_gcall gd_law_lots hr (takes_of rfl rfl rfl rfl) (qa_cons (q_var 3) qa_nil)) (nomark _))))) (qss_one (qs_ret q_bl)) qss_nil) (qss_cons (qs_if (qt_not (qt_tru (q_var 3))) (qss_one (qs_ret (q_cmp (op_eqA hr.units) lk_eq (q_gcall gd_least_liars hr (takes_of rfl rfl rfl rfl) (qa_cons (q_var 4) qa_nil)) q_int (nomark _)))) qss_nil) (qss_cons (qs_asg 10 sc_law.nd (q_gcall gd_most_shared hr (takes_of rfl rfl rfl rfl) (qa_cons (q_var 4) qa_nil))) (qss_cons (qs_if (PW.pt (qw_or (qt_cmp (op_neA hr.units) lk_ne (q_callB call_lenA lk_len B.len (qa_cons (q_var 5) qa_nil)) (q_ix (q_var 10) q_int) (nomark _)) (qw_or1 (qt_cmp (op_neA hr.units) lk_ne (q_gcall gd_least_liars hr (takes_of rfl rfl rfl rfl) (qa_cons (q_var 4) qa_nil)) (q_op op_sub lk_sub (q_callB call_lenA lk_len B.len (qa_cons (q_var 3) qa_nil)) (q_callB call_lenA lk_len B.len (qa_cons (q_var 5) qa_nil))) (nomark _))))) (qss_one (qs_ret q_bl)) qss_nil) (qss_cons (qs_for (passes_of rfl) (qi_list (q_gmeth0 mt_ends_Levels hr (takes_of rfl rfl rfl rfl) (q_ix (q_var 10) q_int))) (pg_name (i := 11) sc_law.nd rfl (by first | exact Or.inl rfl | exact Or.inr rfl)) (lkg_name 11) (qss_one (qs_if (PW.pt (qw_or (qt_cmp (op_neA hr.units) lk_ne (q_gcall gd_law_depth hr (takes_of rfl rfl rfl rfl) (qa_cons (q_var 3) (qa_cons (q_ix (q_var 11) q_int) qa_nil))) (q_callB call_lenA lk_len B.len (qa_cons (q_var 5) qa_nil)) (nomark _)) (qw_or1 (qt_cmp (op_neA hr.units) lk_ne (q_gcall gd_law_depth hr (takes_of rfl rfl rfl rfl) (qa_cons (q_var 3) (qa_cons (q_ix (q_var 11) q_int) qa_nil))) (q_callB call_lenA lk_len B.len (qa_cons (q_var 5) qa_nil)) (nomark _))))) (qss_one (qs_ret q_bl)) qss_nil))) (qss_one (qs_ret (q_and (q_cmp (op_neA hr.units) lk_ne (q_gmeth0 mt_ends_Levels hr (takes_of rfl rfl rfl rfl) (q_ix (q_var 10) q_int)) (q_lst qa_nil) (nomark _)) (q_one (q_gcall gd_law_stays hr (takes_of rfl rfl rfl rfl) (qa_cons (q_var 4) (qa_cons (q_var 3) qa_nil))))))))))))))))))))

end
theorem x_BadStretch {P : Program} {w : World} {K : PySem.W.Frag} {mg : Str → Option Value} {base : Heap} {f cc cda C : Addr} {fd : FuncData} {file : Str} (F : FunS K "__init__" "BadStretch.__init__" s_BadStretch_init f fd cc cda C file) (PG : Pg P file) (hm : mg "super" = none) (XC : ExC K C) (n1 : PySem.W.findIn K (.ref C) "low" = some none) (n2 : PySem.W.findIn K (.ref C) "high" = some none) : FnOk P w K mg base (L2.CX P w) 1 f fd ["self", "low", "high"] (spX C ["low", "high"]) :=
  fn_super (N := ["self", "low", "high", "__class__"]) (k := 0) F (NdefX.nscope_by (by decide +kernel)) (fun vs H Q E h => by obtain ⟨a, ws, rfl, hl, _⟩ := h; simp [hl]) fun A outer s H vs Q E hr h => ⟨_, pf_supX F PG ⟨rfl, rfl, ⟨_, rfl, rfl⟩, rfl, rfl, rfl⟩ hm XC (pa_cons pe_str pa_nil) (pf_of (pss_cons (ps_ost (pe_var (i := 0) rfl (Or.inl rfl)) (pe_var (i := 1) rfl (Or.inl rfl))) (pss_one (ps_ost (pe_var (i := 0) rfl (Or.inl rfl)) (pe_var (i := 2) rfl (Or.inl rfl)))))), tx2 XC.ox n1 n2 h⟩
theorem x_BadNeed {P : Program} {w : World} {K : PySem.W.Frag} {mg : Str → Option Value} {base : Heap} {f cc cda C : Addr} {fd : FuncData} {file : Str} (F : FunS K "__init__" "BadNeed.__init__" s_BadNeed_init f fd cc cda C file) (PG : Pg P file) (hm : mg "super" = none) (XC : ExC K C) (n1 : PySem.W.findIn K (.ref C) "number" = some none) : FnOk P w K mg base (L2.CX P w) 1 f fd ["self", "number"] (spX C ["number"]) :=
  fn_super (N := ["self", "number", "__class__"]) (k := 0) F (NdefX.nscope_by (by decide +kernel)) (fun vs H Q E h => by obtain ⟨a, ws, rfl, hl, _⟩ := h; simp [hl]) fun A outer s H vs Q E hr h => ⟨_, pf_supX F PG ⟨rfl, rfl, ⟨_, rfl, rfl⟩, rfl, rfl, rfl⟩ hm XC (pa_cons pe_str pa_nil) (pf_of (pss_one (ps_ost (pe_var (i := 0) rfl (Or.inl rfl)) (pe_var (i := 1) rfl (Or.inl rfl))))), tx1 XC.ox n1 h⟩
theorem all_mk {l : PySem.W.OpenLaw} {w : World} {K : PySem.W.Frag} {h : Heap} {mg : Str → Option Value} {fa C_Stretch C_Levels E_BadStretch E_BadNeed E_NoLevel A_BadStretch_init cc_BadStretch cda_BadStretch A_BadNeed_init cc_BadNeed cda_BadNeed A_law_take A_law_box A_law_whole A_law_span A_law_moved A_law_pair A_law_pairs A_law_depth A_Stretch_init A_Stretch_contains A_law_stays A_law_made A_merged A_Levels_init A_Levels_ends A_depth A_shared A_most_shared A_least_liars A_apart_lots A_law_lots A_law : Addr} (X : K.In h) (G : h.Ns mainGlobals mg) (hfa : mg "law" = some (.ref fa))
    {nm_BadStretch q_BadStretch : Str} {N_BadStretch : Addr} {bs_BadStretch bm_BadStretch sub_BadStretch : List Value} {sn_BadStretch : List Str} {ab_BadStretch : Bool} {col_BadStretch : Option Bool} {dd_BadStretch : Option Addr} {k0_BadStretch k1_BadStretch k2_BadStretch k3_BadStretch k5_BadStretch : Option Value}
    {oc_BadStretch kV_BadStretch dc_BadStretch pm_BadStretch ct_BadStretch ccl_BadStretch cl_BadStretch : Value} {od_BadStretch an_BadStretch cdd_BadStretch cld_BadStretch : Option Addr} {sl_BadStretch ccs_BadStretch csl_BadStretch : Array (Option Value)} {vs_BadStretch : Array Value} {file_BadStretch : Str} {tf_BadStretch : Tok} {cdD_BadStretch : ClassData}
    {nm_BadNeed q_BadNeed : Str} {N_BadNeed : Addr} {bs_BadNeed bm_BadNeed sub_BadNeed : List Value} {sn_BadNeed : List Str} {ab_BadNeed : Bool} {col_BadNeed : Option Bool} {dd_BadNeed : Option Addr} {k0_BadNeed k1_BadNeed k2_BadNeed k3_BadNeed k5_BadNeed : Option Value}
    {oc_BadNeed kV_BadNeed dc_BadNeed pm_BadNeed ct_BadNeed ccl_BadNeed cl_BadNeed : Value} {od_BadNeed an_BadNeed cdd_BadNeed cld_BadNeed : Option Addr} {sl_BadNeed ccs_BadNeed csl_BadNeed : Array (Option Value)} {vs_BadNeed : Array Value} {file_BadNeed : Str} {tf_BadNeed : Tok} {cdD_BadNeed : ClassData}
    {oc_law_take kV_law_take dc_law_take pm_law_take cd_law_take ct_law_take : Value} {od_law_take an_law_take : Option Addr} {sl_law_take : Array (Option Value)}
    {oc_law_box kV_law_box dc_law_box pm_law_box cd_law_box ct_law_box : Value} {od_law_box an_law_box : Option Addr} {sl_law_box : Array (Option Value)}
    {oc_law_whole kV_law_whole dc_law_whole pm_law_whole cd_law_whole ct_law_whole : Value} {od_law_whole an_law_whole : Option Addr} {sl_law_whole : Array (Option Value)}
    {oc_law_span kV_law_span dc_law_span pm_law_span cd_law_span ct_law_span : Value} {od_law_span an_law_span : Option Addr} {sl_law_span : Array (Option Value)}
    {oc_law_moved kV_law_moved dc_law_moved pm_law_moved cd_law_moved ct_law_moved : Value} {od_law_moved an_law_moved : Option Addr} {sl_law_moved : Array (Option Value)}
    {oc_law_pair kV_law_pair dc_law_pair pm_law_pair cd_law_pair ct_law_pair : Value} {od_law_pair an_law_pair : Option Addr} {sl_law_pair : Array (Option Value)}
    {oc_law_pairs kV_law_pairs dc_law_pairs pm_law_pairs cd_law_pairs ct_law_pairs : Value} {od_law_pairs an_law_pairs : Option Addr} {sl_law_pairs : Array (Option Value)}
    {oc_law_depth kV_law_depth dc_law_depth pm_law_depth cd_law_depth ct_law_depth : Value} {od_law_depth an_law_depth : Option Addr} {sl_law_depth : Array (Option Value)}
    {oc_Stretch_init kV_Stretch_init dc_Stretch_init pm_Stretch_init cd_Stretch_init ct_Stretch_init : Value} {od_Stretch_init an_Stretch_init : Option Addr} {sl_Stretch_init : Array (Option Value)}
    {oc_Stretch_contains kV_Stretch_contains dc_Stretch_contains pm_Stretch_contains cd_Stretch_contains ct_Stretch_contains : Value} {od_Stretch_contains an_Stretch_contains : Option Addr} {sl_Stretch_contains : Array (Option Value)}
    {oc_law_stays kV_law_stays dc_law_stays pm_law_stays cd_law_stays ct_law_stays : Value} {od_law_stays an_law_stays : Option Addr} {sl_law_stays : Array (Option Value)}
    {oc_law_made kV_law_made dc_law_made pm_law_made cd_law_made ct_law_made : Value} {od_law_made an_law_made : Option Addr} {sl_law_made : Array (Option Value)}
    {oc_merged kV_merged dc_merged pm_merged cd_merged ct_merged : Value} {od_merged an_merged : Option Addr} {sl_merged : Array (Option Value)}
    {oc_Levels_init kV_Levels_init dc_Levels_init pm_Levels_init cd_Levels_init ct_Levels_init : Value} {od_Levels_init an_Levels_init : Option Addr} {sl_Levels_init : Array (Option Value)}
    {oc_Levels_ends kV_Levels_ends dc_Levels_ends pm_Levels_ends cd_Levels_ends ct_Levels_ends : Value} {od_Levels_ends an_Levels_ends : Option Addr} {sl_Levels_ends : Array (Option Value)}
    {oc_depth kV_depth dc_depth pm_depth cd_depth ct_depth : Value} {od_depth an_depth : Option Addr} {sl_depth : Array (Option Value)}
    {oc_shared kV_shared dc_shared pm_shared cd_shared ct_shared : Value} {od_shared an_shared : Option Addr} {sl_shared : Array (Option Value)}
    {oc_most_shared kV_most_shared dc_most_shared pm_most_shared cd_most_shared ct_most_shared : Value} {od_most_shared an_most_shared : Option Addr} {sl_most_shared : Array (Option Value)}
    {oc_least_liars kV_least_liars dc_least_liars pm_least_liars cd_least_liars ct_least_liars : Value} {od_least_liars an_least_liars : Option Addr} {sl_least_liars : Array (Option Value)}
    {oc_apart_lots kV_apart_lots dc_apart_lots pm_apart_lots cd_apart_lots ct_apart_lots : Value} {od_apart_lots an_apart_lots : Option Addr} {sl_apart_lots : Array (Option Value)}
    {oc_law_lots kV_law_lots dc_law_lots pm_law_lots cd_law_lots ct_law_lots : Value} {od_law_lots an_law_lots : Option Addr} {sl_law_lots : Array (Option Value)}
    {oc_law kV_law dc_law pm_law cd_law ct_law : Value} {od_law an_law : Option Addr} {sl_law : Array (Option Value)}
    (a_Stretch : PySem.W.nsIn K mainGlobals "Stretch" = some (some (.ref C_Stretch)))
    (pg_Stretch : PySem.W.plainGet K C_Stretch Str.empty = true)
    (hd_Stretch : PySem.W.hasDictIn K C_Stretch = true)
    (po_Stretch : PySem.W.plainOver K C_Stretch = true)
    (sa_Stretch : PySem.W.findIn K (.ref C_Stretch) "__setattr__" = some (some (.builtin "object.__setattr__")))
    (mk_Stretch : PySem.W.makesIn K C_Stretch = true)
    (kc_Stretch : PySem.W.keepIn K (.ref C_Stretch) = true)
    (a_Levels : PySem.W.nsIn K mainGlobals "Levels" = some (some (.ref C_Levels)))
    (pg_Levels : PySem.W.plainGet K C_Levels Str.empty = true)
    (hd_Levels : PySem.W.hasDictIn K C_Levels = true)
    (po_Levels : PySem.W.plainOver K C_Levels = true)
    (sa_Levels : PySem.W.findIn K (.ref C_Levels) "__setattr__" = some (some (.builtin "object.__setattr__")))
    (mk_Levels : PySem.W.makesIn K C_Levels = true)
    (kc_Levels : PySem.W.keepIn K (.ref C_Levels) = true)
    (a_BadStretch : PySem.W.nsIn K mainGlobals "BadStretch" = some (some (.ref E_BadStretch)))
    (xb_BadStretch : PySem.W.subIn K (.ref E_BadStretch) (.type "BaseException") = some true)
    (ty_BadStretch : PySem.W.typeIn K (.ref E_BadStretch) = some (.type "type"))
    (kc_BadStretch : PySem.W.keepIn K (.ref E_BadStretch) = true)
    (hd_BadStretch : PySem.W.hasDictIn K E_BadStretch = true)
    (a_BadNeed : PySem.W.nsIn K mainGlobals "BadNeed" = some (some (.ref E_BadNeed)))
    (xb_BadNeed : PySem.W.subIn K (.ref E_BadNeed) (.type "BaseException") = some true)
    (ty_BadNeed : PySem.W.typeIn K (.ref E_BadNeed) = some (.type "type"))
    (kc_BadNeed : PySem.W.keepIn K (.ref E_BadNeed) = true)
    (hd_BadNeed : PySem.W.hasDictIn K E_BadNeed = true)
    (a_NoLevel : PySem.W.nsIn K mainGlobals "NoLevel" = some (some (.ref E_NoLevel)))
    (xb_NoLevel : PySem.W.subIn K (.ref E_NoLevel) (.type "BaseException") = some true)
    (ty_NoLevel : PySem.W.typeIn K (.ref E_NoLevel) = some (.type "type"))
    (kc_NoLevel : PySem.W.keepIn K (.ref E_NoLevel) = true)
    (hd_NoLevel : PySem.W.hasDictIn K E_NoLevel = true)
    (xi_NoLevel : PySem.W.excIn K E_NoLevel [.type "ValueError", .type "Exception", .type "BaseException", .type "object"] "ValueError.__new__" = true)
    (lk_BadStretch : K.lookup E_BadStretch = some (excClassObj nm_BadStretch q_BadStretch E_BadStretch N_BadStretch bs_BadStretch bm_BadStretch true sn_BadStretch sub_BadStretch ab_BadStretch col_BadStretch dd_BadStretch k0_BadStretch k1_BadStretch k2_BadStretch k3_BadStretch k5_BadStretch "ValueError.__new__"))
    (rv_BadStretch : PySem.HandSPX.refsVE bm_BadStretch = true)
    (sa_BadStretch : PySem.W.findIn K (.ref E_BadStretch) "__setattr__" = some (some (.builtin "object.__setattr__")))
    (fi_BadStretch : PySem.W.findIn K (.ref E_BadStretch) "__init__" = some (some (.ref A_BadStretch_init)))
    (ti_BadStretch : PySem.W.typeIn K (.ref A_BadStretch_init) = some (.type "function"))
    (l_BadStretch : K.lookup A_BadStretch_init = some ⟨oc_BadStretch, od_BadStretch, .func (PySem.W.ksFn "__init__" "BadStretch.__init__" (defArgs s_BadStretch_init) (defBody s_BadStretch_init) (defScope s_BadStretch_init) .none kV_BadStretch dc_BadStretch pm_BadStretch an_BadStretch (.ref cda_BadStretch) ct_BadStretch cc_BadStretch), sl_BadStretch⟩)
    (c_BadStretch : PySem.W.codeIn K (.ref cda_BadStretch) "BadStretch.__init__" = true)
    (k_BadStretch : PySem.W.keepIn K (.ref A_BadStretch_init) = true)
    (fl_BadStretch : K.lookup cda_BadStretch = some ⟨ccl_BadStretch, cdd_BadStretch, .fields vs_BadStretch, ccs_BadStretch⟩)
    (fv_BadStretch : vs_BadStretch[2]? = some (.str file_BadStretch tf_BadStretch))
    (pf_BadStretch : ((l.prog.main.file : Str) == file_BadStretch) = true)
    (ce_BadStretch : K.lookup cc_BadStretch = some ⟨cl_BadStretch, cld_BadStretch, .cell (some (.ref E_BadStretch)), csl_BadStretch⟩)
    (dc_BadStretch : PySem.W.clsIn K E_BadStretch = some cdD_BadStretch)
    (mr_BadStretch : PySem.W.mroIn K E_BadStretch (.ref E_BadStretch) = some true)
    (su_BadStretch : PySem.W.ks_superIn K E_BadStretch E_BadStretch "__init__" = some (some (.builtin "ValueError.__init__")))
    (ve_BadStretch : PySem.W.subIn K (.ref E_BadStretch) (.type "ValueError") = some true)
    (lk_BadNeed : K.lookup E_BadNeed = some (excClassObj nm_BadNeed q_BadNeed E_BadNeed N_BadNeed bs_BadNeed bm_BadNeed true sn_BadNeed sub_BadNeed ab_BadNeed col_BadNeed dd_BadNeed k0_BadNeed k1_BadNeed k2_BadNeed k3_BadNeed k5_BadNeed "ValueError.__new__"))
    (rv_BadNeed : PySem.HandSPX.refsVE bm_BadNeed = true)
    (sa_BadNeed : PySem.W.findIn K (.ref E_BadNeed) "__setattr__" = some (some (.builtin "object.__setattr__")))
    (fi_BadNeed : PySem.W.findIn K (.ref E_BadNeed) "__init__" = some (some (.ref A_BadNeed_init)))
    (ti_BadNeed : PySem.W.typeIn K (.ref A_BadNeed_init) = some (.type "function"))
    (l_BadNeed : K.lookup A_BadNeed_init = some ⟨oc_BadNeed, od_BadNeed, .func (PySem.W.ksFn "__init__" "BadNeed.__init__" (defArgs s_BadNeed_init) (defBody s_BadNeed_init) (defScope s_BadNeed_init) .none kV_BadNeed dc_BadNeed pm_BadNeed an_BadNeed (.ref cda_BadNeed) ct_BadNeed cc_BadNeed), sl_BadNeed⟩)
    (c_BadNeed : PySem.W.codeIn K (.ref cda_BadNeed) "BadNeed.__init__" = true)
    (k_BadNeed : PySem.W.keepIn K (.ref A_BadNeed_init) = true)
    (fl_BadNeed : K.lookup cda_BadNeed = some ⟨ccl_BadNeed, cdd_BadNeed, .fields vs_BadNeed, ccs_BadNeed⟩)
    (fv_BadNeed : vs_BadNeed[2]? = some (.str file_BadNeed tf_BadNeed))
    (pf_BadNeed : ((l.prog.main.file : Str) == file_BadNeed) = true)
    (ce_BadNeed : K.lookup cc_BadNeed = some ⟨cl_BadNeed, cld_BadNeed, .cell (some (.ref E_BadNeed)), csl_BadNeed⟩)
    (dc_BadNeed : PySem.W.clsIn K E_BadNeed = some cdD_BadNeed)
    (mr_BadNeed : PySem.W.mroIn K E_BadNeed (.ref E_BadNeed) = some true)
    (su_BadNeed : PySem.W.ks_superIn K E_BadNeed E_BadNeed "__init__" = some (some (.builtin "ValueError.__init__")))
    (ve_BadNeed : PySem.W.subIn K (.ref E_BadNeed) (.type "ValueError") = some true)
    (th : PySem.W.nsIn K cStatics "thirdparty.any" = some none)
    (ps : (l.prog.main.scope.names.lookup ("super" : Str)).isSome = false)
    (n_number_BadNeed : PySem.W.findIn K (.ref E_BadNeed) "number" = some none)
    (n_high_BadStretch : PySem.W.findIn K (.ref E_BadStretch) "high" = some none)
    (n_low_BadStretch : PySem.W.findIn K (.ref E_BadStretch) "low" = some none)
    (n_low_Stretch : PySem.W.findIn K (.ref C_Stretch) "low" = some none)
    (n_high_Stretch : PySem.W.findIn K (.ref C_Stretch) "high" = some none)
    (n_pieces_Levels : PySem.W.findIn K (.ref C_Levels) "pieces" = some none)
    (f_law_take : PySem.W.nsIn K mainGlobals "_law_take" = some (some (.ref A_law_take)))
    (l_law_take : K.lookup A_law_take = some ⟨oc_law_take, od_law_take, .func (PySem.W.fnOf "_law_take" "_law_take" (defArgs s_law_take) (defBody s_law_take) (defScope s_law_take) .none kV_law_take dc_law_take pm_law_take an_law_take cd_law_take ct_law_take), sl_law_take⟩)
    (c_law_take : PySem.W.codeIn K cd_law_take "_law_take" = true)
    (k_law_take : PySem.W.keepIn K (.ref A_law_take) = true)
    (f_law_box : PySem.W.nsIn K mainGlobals "_law_box" = some (some (.ref A_law_box)))
    (l_law_box : K.lookup A_law_box = some ⟨oc_law_box, od_law_box, .func (PySem.W.fnOf "_law_box" "_law_box" (defArgs s_law_box) (defBody s_law_box) (defScope s_law_box) .none kV_law_box dc_law_box pm_law_box an_law_box cd_law_box ct_law_box), sl_law_box⟩)
    (c_law_box : PySem.W.codeIn K cd_law_box "_law_box" = true)
    (k_law_box : PySem.W.keepIn K (.ref A_law_box) = true)
    (f_law_whole : PySem.W.nsIn K mainGlobals "_law_whole" = some (some (.ref A_law_whole)))
    (l_law_whole : K.lookup A_law_whole = some ⟨oc_law_whole, od_law_whole, .func (PySem.W.fnOf "_law_whole" "_law_whole" (defArgs s_law_whole) (defBody s_law_whole) (defScope s_law_whole) .none kV_law_whole dc_law_whole pm_law_whole an_law_whole cd_law_whole ct_law_whole), sl_law_whole⟩)
    (c_law_whole : PySem.W.codeIn K cd_law_whole "_law_whole" = true)
    (k_law_whole : PySem.W.keepIn K (.ref A_law_whole) = true)
    (f_law_span : PySem.W.nsIn K mainGlobals "_law_span" = some (some (.ref A_law_span)))
    (l_law_span : K.lookup A_law_span = some ⟨oc_law_span, od_law_span, .func (PySem.W.fnOf "_law_span" "_law_span" (defArgs s_law_span) (defBody s_law_span) (defScope s_law_span) .none kV_law_span dc_law_span pm_law_span an_law_span cd_law_span ct_law_span), sl_law_span⟩)
    (c_law_span : PySem.W.codeIn K cd_law_span "_law_span" = true)
    (k_law_span : PySem.W.keepIn K (.ref A_law_span) = true)
    (f_law_moved : PySem.W.nsIn K mainGlobals "_law_moved" = some (some (.ref A_law_moved)))
    (l_law_moved : K.lookup A_law_moved = some ⟨oc_law_moved, od_law_moved, .func (PySem.W.fnOf "_law_moved" "_law_moved" (defArgs s_law_moved) (defBody s_law_moved) (defScope s_law_moved) .none kV_law_moved dc_law_moved pm_law_moved an_law_moved cd_law_moved ct_law_moved), sl_law_moved⟩)
    (c_law_moved : PySem.W.codeIn K cd_law_moved "_law_moved" = true)
    (k_law_moved : PySem.W.keepIn K (.ref A_law_moved) = true)
    (f_law_pair : PySem.W.nsIn K mainGlobals "_law_pair" = some (some (.ref A_law_pair)))
    (l_law_pair : K.lookup A_law_pair = some ⟨oc_law_pair, od_law_pair, .func (PySem.W.fnOf "_law_pair" "_law_pair" (defArgs s_law_pair) (defBody s_law_pair) (defScope s_law_pair) .none kV_law_pair dc_law_pair pm_law_pair an_law_pair cd_law_pair ct_law_pair), sl_law_pair⟩)
    (c_law_pair : PySem.W.codeIn K cd_law_pair "_law_pair" = true)
    (k_law_pair : PySem.W.keepIn K (.ref A_law_pair) = true)
    (f_law_pairs : PySem.W.nsIn K mainGlobals "_law_pairs" = some (some (.ref A_law_pairs)))
    (l_law_pairs : K.lookup A_law_pairs = some ⟨oc_law_pairs, od_law_pairs, .func (PySem.W.fnOf "_law_pairs" "_law_pairs" (defArgs s_law_pairs) (defBody s_law_pairs) (defScope s_law_pairs) .none kV_law_pairs dc_law_pairs pm_law_pairs an_law_pairs cd_law_pairs ct_law_pairs), sl_law_pairs⟩)
    (c_law_pairs : PySem.W.codeIn K cd_law_pairs "_law_pairs" = true)
    (k_law_pairs : PySem.W.keepIn K (.ref A_law_pairs) = true)
    (f_law_depth : PySem.W.nsIn K mainGlobals "_law_depth" = some (some (.ref A_law_depth)))
    (l_law_depth : K.lookup A_law_depth = some ⟨oc_law_depth, od_law_depth, .func (PySem.W.fnOf "_law_depth" "_law_depth" (defArgs s_law_depth) (defBody s_law_depth) (defScope s_law_depth) .none kV_law_depth dc_law_depth pm_law_depth an_law_depth cd_law_depth ct_law_depth), sl_law_depth⟩)
    (c_law_depth : PySem.W.codeIn K cd_law_depth "_law_depth" = true)
    (k_law_depth : PySem.W.keepIn K (.ref A_law_depth) = true)
    (f_Stretch_init : PySem.W.findIn K (.ref C_Stretch) "__init__" = some (some (.ref A_Stretch_init)))
    (i_Stretch_init : PySem.W.isFn K (.ref A_Stretch_init) = true)
    (l_Stretch_init : K.lookup A_Stretch_init = some ⟨oc_Stretch_init, od_Stretch_init, .func (PySem.W.fnOf "__init__" "Stretch.__init__" (defArgs s_Stretch_init) (defBody s_Stretch_init) (defScope s_Stretch_init) .none kV_Stretch_init dc_Stretch_init pm_Stretch_init an_Stretch_init cd_Stretch_init ct_Stretch_init), sl_Stretch_init⟩)
    (c_Stretch_init : PySem.W.codeIn K cd_Stretch_init "Stretch.__init__" = true)
    (k_Stretch_init : PySem.W.keepIn K (.ref A_Stretch_init) = true)
    (f_Stretch_contains : PySem.W.findIn K (.ref C_Stretch) "__contains__" = some (some (.ref A_Stretch_contains)))
    (i_Stretch_contains : PySem.W.isFn K (.ref A_Stretch_contains) = true)
    (l_Stretch_contains : K.lookup A_Stretch_contains = some ⟨oc_Stretch_contains, od_Stretch_contains, .func (PySem.W.fnOf "__contains__" "Stretch.__contains__" (defArgs s_Stretch_contains) (defBody s_Stretch_contains) (defScope s_Stretch_contains) .none kV_Stretch_contains dc_Stretch_contains pm_Stretch_contains an_Stretch_contains cd_Stretch_contains ct_Stretch_contains), sl_Stretch_contains⟩)
    (c_Stretch_contains : PySem.W.codeIn K cd_Stretch_contains "Stretch.__contains__" = true)
    (k_Stretch_contains : PySem.W.keepIn K (.ref A_Stretch_contains) = true)
    (f_law_stays : PySem.W.nsIn K mainGlobals "_law_stays" = some (some (.ref A_law_stays)))
    (l_law_stays : K.lookup A_law_stays = some ⟨oc_law_stays, od_law_stays, .func (PySem.W.fnOf "_law_stays" "_law_stays" (defArgs s_law_stays) (defBody s_law_stays) (defScope s_law_stays) .none kV_law_stays dc_law_stays pm_law_stays an_law_stays cd_law_stays ct_law_stays), sl_law_stays⟩)
    (c_law_stays : PySem.W.codeIn K cd_law_stays "_law_stays" = true)
    (k_law_stays : PySem.W.keepIn K (.ref A_law_stays) = true)
    (f_law_made : PySem.W.nsIn K mainGlobals "_law_made" = some (some (.ref A_law_made)))
    (l_law_made : K.lookup A_law_made = some ⟨oc_law_made, od_law_made, .func (PySem.W.fnOf "_law_made" "_law_made" (defArgs s_law_made) (defBody s_law_made) (defScope s_law_made) .none kV_law_made dc_law_made pm_law_made an_law_made cd_law_made ct_law_made), sl_law_made⟩)
    (c_law_made : PySem.W.codeIn K cd_law_made "_law_made" = true)
    (k_law_made : PySem.W.keepIn K (.ref A_law_made) = true)
    (f_merged : PySem.W.nsIn K mainGlobals "merged" = some (some (.ref A_merged)))
    (l_merged : K.lookup A_merged = some ⟨oc_merged, od_merged, .func (PySem.W.fnOf "merged" "merged" (defArgs s_merged) (defBody s_merged) (defScope s_merged) .none kV_merged dc_merged pm_merged an_merged cd_merged ct_merged), sl_merged⟩)
    (c_merged : PySem.W.codeIn K cd_merged "merged" = true)
    (k_merged : PySem.W.keepIn K (.ref A_merged) = true)
    (f_Levels_init : PySem.W.findIn K (.ref C_Levels) "__init__" = some (some (.ref A_Levels_init)))
    (i_Levels_init : PySem.W.isFn K (.ref A_Levels_init) = true)
    (l_Levels_init : K.lookup A_Levels_init = some ⟨oc_Levels_init, od_Levels_init, .func (PySem.W.fnOf "__init__" "Levels.__init__" (defArgs s_Levels_init) (defBody s_Levels_init) (defScope s_Levels_init) .none kV_Levels_init dc_Levels_init pm_Levels_init an_Levels_init cd_Levels_init ct_Levels_init), sl_Levels_init⟩)
    (c_Levels_init : PySem.W.codeIn K cd_Levels_init "Levels.__init__" = true)
    (k_Levels_init : PySem.W.keepIn K (.ref A_Levels_init) = true)
    (f_Levels_ends : PySem.W.findIn K (.ref C_Levels) "ends" = some (some (.ref A_Levels_ends)))
    (i_Levels_ends : PySem.W.isFn K (.ref A_Levels_ends) = true)
    (l_Levels_ends : K.lookup A_Levels_ends = some ⟨oc_Levels_ends, od_Levels_ends, .func (PySem.W.fnOf "ends" "Levels.ends" (defArgs s_Levels_ends) (defBody s_Levels_ends) (defScope s_Levels_ends) .none kV_Levels_ends dc_Levels_ends pm_Levels_ends an_Levels_ends cd_Levels_ends ct_Levels_ends), sl_Levels_ends⟩)
    (c_Levels_ends : PySem.W.codeIn K cd_Levels_ends "Levels.ends" = true)
    (k_Levels_ends : PySem.W.keepIn K (.ref A_Levels_ends) = true)
    (f_depth : PySem.W.nsIn K mainGlobals "depth" = some (some (.ref A_depth)))
    (l_depth : K.lookup A_depth = some ⟨oc_depth, od_depth, .func (PySem.W.fnOf "depth" "depth" (defArgs s_depth) (defBody s_depth) (defScope s_depth) .none kV_depth dc_depth pm_depth an_depth cd_depth ct_depth), sl_depth⟩)
    (c_depth : PySem.W.codeIn K cd_depth "depth" = true)
    (k_depth : PySem.W.keepIn K (.ref A_depth) = true)
    (f_shared : PySem.W.nsIn K mainGlobals "shared" = some (some (.ref A_shared)))
    (l_shared : K.lookup A_shared = some ⟨oc_shared, od_shared, .func (PySem.W.fnOf "shared" "shared" (defArgs s_shared) (defBody s_shared) (defScope s_shared) .none kV_shared dc_shared pm_shared an_shared cd_shared ct_shared), sl_shared⟩)
    (c_shared : PySem.W.codeIn K cd_shared "shared" = true)
    (k_shared : PySem.W.keepIn K (.ref A_shared) = true)
    (f_most_shared : PySem.W.nsIn K mainGlobals "most_shared" = some (some (.ref A_most_shared)))
    (l_most_shared : K.lookup A_most_shared = some ⟨oc_most_shared, od_most_shared, .func (PySem.W.fnOf "most_shared" "most_shared" (defArgs s_most_shared) (defBody s_most_shared) (defScope s_most_shared) .none kV_most_shared dc_most_shared pm_most_shared an_most_shared cd_most_shared ct_most_shared), sl_most_shared⟩)
    (c_most_shared : PySem.W.codeIn K cd_most_shared "most_shared" = true)
    (k_most_shared : PySem.W.keepIn K (.ref A_most_shared) = true)
    (f_least_liars : PySem.W.nsIn K mainGlobals "least_liars" = some (some (.ref A_least_liars)))
    (l_least_liars : K.lookup A_least_liars = some ⟨oc_least_liars, od_least_liars, .func (PySem.W.fnOf "least_liars" "least_liars" (defArgs s_least_liars) (defBody s_least_liars) (defScope s_least_liars) .none kV_least_liars dc_least_liars pm_least_liars an_least_liars cd_least_liars ct_least_liars), sl_least_liars⟩)
    (c_least_liars : PySem.W.codeIn K cd_least_liars "least_liars" = true)
    (k_least_liars : PySem.W.keepIn K (.ref A_least_liars) = true)
    (f_apart_lots : PySem.W.nsIn K mainGlobals "apart_lots" = some (some (.ref A_apart_lots)))
    (l_apart_lots : K.lookup A_apart_lots = some ⟨oc_apart_lots, od_apart_lots, .func (PySem.W.fnOf "apart_lots" "apart_lots" (defArgs s_apart_lots) (defBody s_apart_lots) (defScope s_apart_lots) .none kV_apart_lots dc_apart_lots pm_apart_lots an_apart_lots cd_apart_lots ct_apart_lots), sl_apart_lots⟩)
    (c_apart_lots : PySem.W.codeIn K cd_apart_lots "apart_lots" = true)
    (k_apart_lots : PySem.W.keepIn K (.ref A_apart_lots) = true)
    (f_law_lots : PySem.W.nsIn K mainGlobals "_law_lots" = some (some (.ref A_law_lots)))
    (l_law_lots : K.lookup A_law_lots = some ⟨oc_law_lots, od_law_lots, .func (PySem.W.fnOf "_law_lots" "_law_lots" (defArgs s_law_lots) (defBody s_law_lots) (defScope s_law_lots) .none kV_law_lots dc_law_lots pm_law_lots an_law_lots cd_law_lots ct_law_lots), sl_law_lots⟩)
    (c_law_lots : PySem.W.codeIn K cd_law_lots "_law_lots" = true)
    (k_law_lots : PySem.W.keepIn K (.ref A_law_lots) = true)
    (f_law : PySem.W.nsIn K mainGlobals "law" = some (some (.ref A_law)))
    (l_law : K.lookup A_law = some ⟨oc_law, od_law, .func (PySem.W.fnOf "law" "law" (defArgs s_law) (defBody s_law) (defScope s_law) .none kV_law dc_law pm_law an_law cd_law ct_law), sl_law⟩)
    (c_law : PySem.W.codeIn K cd_law "law" = true)
    (k_law : PySem.W.keepIn K (.ref A_law) = true)
    (z_len : PySem.W.nsIn K mainGlobals "len" = some none)
    (z_int : PySem.W.nsIn K mainGlobals "int" = some none)
    (z_bool : PySem.W.nsIn K mainGlobals "bool" = some none)
    (z_str : PySem.W.nsIn K mainGlobals "str" = some none)
    (z_isinstance : PySem.W.nsIn K mainGlobals "isinstance" = some none)
    (z_range : PySem.W.nsIn K mainGlobals "range" = some none)
    (z_max : PySem.W.nsIn K mainGlobals "max" = some none)
    (z_min : PySem.W.nsIn K mainGlobals "min" = some none)
    (z_abs : PySem.W.nsIn K mainGlobals "abs" = some none)
    (z_sorted : PySem.W.nsIn K mainGlobals "sorted" = some none)
    (z_sum : PySem.W.nsIn K mainGlobals "sum" = some none)
    (z_any : PySem.W.nsIn K mainGlobals "any" = some none)
    (z_all : PySem.W.nsIn K mainGlobals "all" = some none)
    (z_list : PySem.W.nsIn K mainGlobals "list" = some none)
    (z_dict : PySem.W.nsIn K mainGlobals "dict" = some none)
    (z_tuple : PySem.W.nsIn K mainGlobals "tuple" = some none)
    (z_enumerate : PySem.W.nsIn K mainGlobals "enumerate" = some none)
    (z_zip : PySem.W.nsIn K mainGlobals "zip" = some none)
    (z_repr : PySem.W.nsIn K mainGlobals "repr" = some none)
    (z_iter : PySem.W.nsIn K mainGlobals "iter" = some none)
    (z_super : PySem.W.nsIn K mainGlobals "super" = some none) :
    ∃ fd : FuncData, (∀ (s : Shared) (v : Value), BindsTo s fd ⟨[v], []⟩ [("_law_script", v)]) ∧ ∀ base : Heap, K.In base → base.Ns mainGlobals mg → FnOk l.prog w K mg base (L2.CX l.prog w) 10 fa fd ["_law_script"] (spLaw K) := by
  have e := hfa.symm.trans (PySem.W.mg_of X G f_law)
  cases e
  let g : Gm := ⟨K, fun c => match c with | .Stretch => C_Stretch | .Levels => C_Levels | _ => 0, fun c => match c with | .BadStretch => E_BadStretch | .BadNeed => E_BadNeed | .NoLevel => E_NoLevel | _ => 0⟩
  have B : Bt mg := ⟨PySem.W.mg_none_of X G z_len, PySem.W.mg_none_of X G z_int, PySem.W.mg_none_of X G z_bool, PySem.W.mg_none_of X G z_str, PySem.W.mg_none_of X G z_isinstance, PySem.W.mg_none_of X G z_range, PySem.W.mg_none_of X G z_max, PySem.W.mg_none_of X G z_min, PySem.W.mg_none_of X G z_abs, PySem.W.mg_none_of X G z_sorted, PySem.W.mg_none_of X G z_sum, PySem.W.mg_none_of X G z_any, PySem.W.mg_none_of X G z_all, PySem.W.mg_none_of X G z_list, PySem.W.mg_none_of X G z_dict, PySem.W.mg_none_of X G z_tuple, PySem.W.mg_none_of X G z_enumerate, PySem.W.mg_none_of X G z_zip, PySem.W.mg_none_of X G z_repr, PySem.W.mg_none_of X G z_iter, PySem.W.mg_none_of X G z_super⟩
  have cls_Stretch : Cls g.K (g.ca .Stretch) := ⟨pg_Stretch, hd_Stretch, po_Stretch, sa_Stretch⟩
  have cls_Levels : Cls g.K (g.ca .Levels) := ⟨pg_Levels, hd_Levels, po_Levels, sa_Levels⟩
  have fl_low : Flds g [.Stretch] .low := (flds_cons (c := .Stretch) cls_Stretch n_low_Stretch flds_nil)
  have fl_high : Flds g [.Stretch] .high := (flds_cons (c := .Stretch) cls_Stretch n_high_Stretch flds_nil)
  have fl_pieces : Flds g [.Levels] .pieces := (flds_cons (c := .Levels) cls_Levels n_pieces_Levels flds_nil)
  have mgc_Levels : mg "Levels" = some (.ref (g.ca .Levels)) := PySem.W.mg_of X G a_Levels
  have gxt_NoLevel : GXT g g.K mg .NoLevel "NoLevel" := ⟨PySem.W.mg_of X G a_NoLevel, xi_NoLevel, kc_NoLevel, xb_NoLevel, ty_NoLevel⟩
  have ox_BadStretch : OexC g.K (g.ea .BadStretch) := ⟨⟨_, _, _, _, _, _, _, _, _, _, _, _, _, _, _, lk_BadStretch, rv_BadStretch⟩, sa_BadStretch, xb_BadStretch, ty_BadStretch, kc_BadStretch⟩
  have FS_BadStretch : FunS K "__init__" "BadStretch.__init__" s_BadStretch_init A_BadStretch_init _ cc_BadStretch cda_BadStretch E_BadStretch file_BadStretch := ⟨⟨_, _, _, _, _, _, _, _, rfl, l_BadStretch⟩, c_BadStretch, k_BadStretch, ⟨_, _, _, _, _, fl_BadStretch, fv_BadStretch⟩, ⟨_, _, _, ce_BadStretch⟩, ⟨_, dc_BadStretch⟩⟩
  have ox_BadNeed : OexC g.K (g.ea .BadNeed) := ⟨⟨_, _, _, _, _, _, _, _, _, _, _, _, _, _, _, lk_BadNeed, rv_BadNeed⟩, sa_BadNeed, xb_BadNeed, ty_BadNeed, kc_BadNeed⟩
  have FS_BadNeed : FunS K "__init__" "BadNeed.__init__" s_BadNeed_init A_BadNeed_init _ cc_BadNeed cda_BadNeed E_BadNeed file_BadNeed := ⟨⟨_, _, _, _, _, _, _, _, rfl, l_BadNeed⟩, c_BadNeed, k_BadNeed, ⟨_, _, _, _, _, fl_BadNeed, fv_BadNeed⟩, ⟨_, _, _, ce_BadNeed⟩, ⟨_, dc_BadNeed⟩⟩
  have F_law_take := fun_mk (st := s_law_take) l_law_take c_law_take k_law_take
  have bd_law_take := F_law_take.binds (ps := ["_law_box_here", "_law_many"]) fun _ _ _ _ _ _ us hl => match us, hl with | [_, _], _ => rfl
  have F_law_box := fun_mk (st := s_law_box) l_law_box c_law_box k_law_box
  have bd_law_box := F_law_box.binds (ps := ["_law_script", "_law_salt"]) fun _ _ _ _ _ _ us hl => match us, hl with | [_, _], _ => rfl
  have F_law_whole := fun_mk (st := s_law_whole) l_law_whole c_law_whole k_law_whole
  have bd_law_whole := F_law_whole.binds (ps := ["_law_worth"]) fun _ _ _ _ _ _ us hl => match us, hl with | [_], _ => rfl
  have F_law_span := fun_mk (st := s_law_span) l_law_span c_law_span k_law_span
  have bd_law_span := F_law_span.binds (ps := ["_law_box_here"]) fun _ _ _ _ _ _ us hl => match us, hl with | [_], _ => rfl
  have F_law_moved := fun_mk (st := s_law_moved) l_law_moved c_law_moved k_law_moved
  have bd_law_moved := F_law_moved.binds (ps := ["_law_box_here"]) fun _ _ _ _ _ _ us hl => match us, hl with | [_], _ => rfl
  have F_law_pair := fun_mk (st := s_law_pair) l_law_pair c_law_pair k_law_pair
  have bd_law_pair := F_law_pair.binds (ps := ["_law_box_here", "_law_span_here", "_law_moved_here"]) fun _ _ _ _ _ _ us hl => match us, hl with | [_, _, _], _ => rfl
  have F_law_pairs := fun_mk (st := s_law_pairs) l_law_pairs c_law_pairs k_law_pairs
  have bd_law_pairs := F_law_pairs.binds (ps := ["_law_box_here", "_law_most", "_law_span_here", "_law_moved_here"]) fun _ _ _ _ _ _ us hl => match us, hl with | [_, _, _, _], _ => rfl
  have F_law_depth := fun_mk (st := s_law_depth) l_law_depth c_law_depth k_law_depth
  have bd_law_depth := F_law_depth.binds (ps := ["_law_pairs_here", "_law_spot"]) fun _ _ _ _ _ _ us hl => match us, hl with | [_, _], _ => rfl
  have F_Stretch_init := fun_mk (st := s_Stretch_init) l_Stretch_init c_Stretch_init k_Stretch_init
  have bd_Stretch_init := F_Stretch_init.binds (ps := ["self", "low", "high"]) fun _ _ _ _ _ _ us hl => match us, hl with | [_, _, _], _ => rfl
  have F_Stretch_contains := fun_mk (st := s_Stretch_contains) l_Stretch_contains c_Stretch_contains k_Stretch_contains
  have bd_Stretch_contains := F_Stretch_contains.binds (ps := ["self", "level"]) fun _ _ _ _ _ _ us hl => match us, hl with | [_, _], _ => rfl
  have F_law_stays := fun_mk (st := s_law_stays) l_law_stays c_law_stays k_law_stays
  have bd_law_stays := F_law_stays.binds (ps := ["_law_pieces", "_law_pairs_here"]) fun _ _ _ _ _ _ us hl => match us, hl with | [_, _], _ => rfl
  have F_law_made := fun_mk (st := s_law_made) l_law_made c_law_made k_law_made
  have bd_law_made := F_law_made.binds (ps := ["_law_pairs_here"]) fun _ _ _ _ _ _ us hl => match us, hl with | [_], _ => rfl
  have F_merged := fun_mk (st := s_merged) l_merged c_merged k_merged
  have bd_merged := F_merged.binds (ps := ["pairs"]) fun _ _ _ _ _ _ us hl => match us, hl with | [_], _ => rfl
  have F_Levels_init := fun_mk (st := s_Levels_init) l_Levels_init c_Levels_init k_Levels_init
  have F_Levels_ends := fun_mk (st := s_Levels_ends) l_Levels_ends c_Levels_ends k_Levels_ends
  have bd_Levels_ends := F_Levels_ends.binds (ps := ["self"]) fun _ _ _ _ _ _ us hl => match us, hl with | [_], _ => rfl
  have F_depth := fun_mk (st := s_depth) l_depth c_depth k_depth
  have bd_depth := F_depth.binds (ps := ["stretches", "level"]) fun _ _ _ _ _ _ us hl => match us, hl with | [_, _], _ => rfl
  have F_shared := fun_mk (st := s_shared) l_shared c_shared k_shared
  have bd_shared := F_shared.binds (ps := ["stretches", "need"]) fun _ _ _ _ _ _ us hl => match us, hl with | [_, _], _ => rfl
  have F_most_shared := fun_mk (st := s_most_shared) l_most_shared c_most_shared k_most_shared
  have bd_most_shared := F_most_shared.binds (ps := ["stretches"]) fun _ _ _ _ _ _ us hl => match us, hl with | [_], _ => rfl
  have F_least_liars := fun_mk (st := s_least_liars) l_least_liars c_least_liars k_least_liars
  have bd_least_liars := F_least_liars.binds (ps := ["stretches"]) fun _ _ _ _ _ _ us hl => match us, hl with | [_], _ => rfl
  have F_apart_lots := fun_mk (st := s_apart_lots) l_apart_lots c_apart_lots k_apart_lots
  have bd_apart_lots := F_apart_lots.binds (ps := ["stretches"]) fun _ _ _ _ _ _ us hl => match us, hl with | [_], _ => rfl
  have F_law_lots := fun_mk (st := s_law_lots) l_law_lots c_law_lots k_law_lots
  have bd_law_lots := F_law_lots.binds (ps := ["_law_pairs_here"]) fun _ _ _ _ _ _ us hl => match us, hl with | [_], _ => rfl
  have F_law := fun_mk (st := s_law) l_law c_law k_law
  refine ⟨PySem.W.fnOf "law" "law" (defArgs s_law) (defBody s_law) (defScope s_law) .none kV_law dc_law pm_law an_law cd_law ct_law, fun s v => .of_eq rfl, fun base _ _ => ?_⟩
  have gx_BadStretch : GX g l.prog w g.K mg base .BadStretch "BadStretch" [.low, .high] := gx_mk (PySem.W.mg_of X G a_BadStretch) ox_BadStretch fi_BadStretch ti_BadStretch (x_BadStretch (w := w) (mg := mg) (base := base) FS_BadStretch ⟨pf_BadStretch, ps⟩ B.super ⟨ox_BadStretch, mr_BadStretch, su_BadStretch, ve_BadStretch, th⟩ n_low_BadStretch n_high_BadStretch) (FS_BadStretch.binds (ps := ["self", "low", "high"]) fun _ _ _ _ _ us hl => match us, hl with | [_, _, _], _ => rfl)
  have gx_BadNeed : GX g l.prog w g.K mg base .BadNeed "BadNeed" [.number] := gx_mk (PySem.W.mg_of X G a_BadNeed) ox_BadNeed fi_BadNeed ti_BadNeed (x_BadNeed (w := w) (mg := mg) (base := base) FS_BadNeed ⟨pf_BadNeed, ps⟩ B.super ⟨ox_BadNeed, mr_BadNeed, su_BadNeed, ve_BadNeed, th⟩ n_number_BadNeed) (FS_BadNeed.binds (ps := ["self", "number"]) fun _ _ _ _ _ us hl => match us, hl with | [_, _], _ => rfl)
  have fn_law_take := fnF (g := g) (K := g.K) (mg := mg) (P := l.prog) (w := w) (base := base) F_law_take bd_law_take sc_law_take (b_law_take B ) pure_law_take
  have gd_law_take : GD g l.prog w g.K mg base _ "_law_take" _ := ⟨A_law_take, PySem.W.mg_of X G f_law_take, k_law_take, fn_law_take⟩
  have fn_law_box := fnF (g := g) (K := g.K) (mg := mg) (P := l.prog) (w := w) (base := base) F_law_box bd_law_box sc_law_box (b_law_box B ) pure_law_box
  have gd_law_box : GD g l.prog w g.K mg base _ "_law_box" _ := ⟨A_law_box, PySem.W.mg_of X G f_law_box, k_law_box, fn_law_box⟩
  have fn_law_whole := fnF (g := g) (K := g.K) (mg := mg) (P := l.prog) (w := w) (base := base) F_law_whole bd_law_whole sc_law_whole (b_law_whole B ) pure_law_whole
  have gd_law_whole : GD g l.prog w g.K mg base _ "_law_whole" _ := ⟨A_law_whole, PySem.W.mg_of X G f_law_whole, k_law_whole, fn_law_whole⟩
  have fn_law_span := fnF (g := g) (K := g.K) (mg := mg) (P := l.prog) (w := w) (base := base) F_law_span bd_law_span sc_law_span (b_law_span B gd_law_take) pure_law_span
  have gd_law_span : GD g l.prog w g.K mg base _ "_law_span" _ := ⟨A_law_span, PySem.W.mg_of X G f_law_span, k_law_span, fn_law_span⟩
  have fn_law_moved := fnF (g := g) (K := g.K) (mg := mg) (P := l.prog) (w := w) (base := base) F_law_moved bd_law_moved sc_law_moved (b_law_moved B gd_law_take) pure_law_moved
  have gd_law_moved : GD g l.prog w g.K mg base _ "_law_moved" _ := ⟨A_law_moved, PySem.W.mg_of X G f_law_moved, k_law_moved, fn_law_moved⟩
  have fn_law_pair := fnF (g := g) (K := g.K) (mg := mg) (P := l.prog) (w := w) (base := base) F_law_pair bd_law_pair sc_law_pair (b_law_pair B gd_law_take) pure_law_pair
  have gd_law_pair : GD g l.prog w g.K mg base _ "_law_pair" _ := ⟨A_law_pair, PySem.W.mg_of X G f_law_pair, k_law_pair, fn_law_pair⟩
  have fn_law_pairs := fnF (g := g) (K := g.K) (mg := mg) (P := l.prog) (w := w) (base := base) F_law_pairs bd_law_pairs sc_law_pairs (b_law_pairs B gd_law_take gd_law_pair) pure_law_pairs
  have gd_law_pairs : GD g l.prog w g.K mg base _ "_law_pairs" _ := ⟨A_law_pairs, PySem.W.mg_of X G f_law_pairs, k_law_pairs, fn_law_pairs⟩
  have fn_law_depth := fnF (g := g) (K := g.K) (mg := mg) (P := l.prog) (w := w) (base := base) F_law_depth bd_law_depth sc_law_depth (b_law_depth B ) pure_law_depth
  have gd_law_depth : GD g l.prog w g.K mg base _ "_law_depth" _ := ⟨A_law_depth, PySem.W.mg_of X G f_law_depth, k_law_depth, fn_law_depth⟩
  have fn_Stretch_init := fnF (g := g) (K := g.K) (mg := mg) (P := l.prog) (w := w) (base := base) F_Stretch_init bd_Stretch_init sc_Stretch_init (b_Stretch_init B gx_BadStretch fl_low fl_high) pure_Stretch_init
  have gc_Stretch : GC g l.prog w g.K mg base _ .Stretch "Stretch" _ := ⟨PySem.W.mg_of X G a_Stretch, A_Stretch_init, ⟨mk_Stretch, f_Stretch_init, i_Stretch_init, kc_Stretch⟩, fn_Stretch_init⟩
  have mo_Stretch_init : MOk g l.prog w g.K mg base _ .Stretch "__init__" _ := ⟨cls_Stretch, A_Stretch_init, ⟨f_Stretch_init, i_Stretch_init, k_Stretch_init⟩, fn_Stretch_init⟩
  have fn_Stretch_contains := fnF (g := g) (K := g.K) (mg := mg) (P := l.prog) (w := w) (base := base) F_Stretch_contains bd_Stretch_contains sc_Stretch_contains (b_Stretch_contains B fl_low fl_high) pure_Stretch_contains
  have mo_Stretch_contains : MOk g l.prog w g.K mg base _ .Stretch "__contains__" _ := ⟨cls_Stretch, A_Stretch_contains, ⟨f_Stretch_contains, i_Stretch_contains, k_Stretch_contains⟩, fn_Stretch_contains⟩
  have fn_law_stays := fnF (g := g) (K := g.K) (mg := mg) (P := l.prog) (w := w) (base := base) F_law_stays bd_law_stays sc_law_stays (b_law_stays B fl_high fl_low) pure_law_stays
  have gd_law_stays : GD g l.prog w g.K mg base _ "_law_stays" _ := ⟨A_law_stays, PySem.W.mg_of X G f_law_stays, k_law_stays, fn_law_stays⟩
  have fn_law_made := fnF (g := g) (K := g.K) (mg := mg) (P := l.prog) (w := w) (base := base) F_law_made bd_law_made sc_law_made (b_law_made B gc_Stretch) pure_law_made
  have gd_law_made : GD g l.prog w g.K mg base _ "_law_made" _ := ⟨A_law_made, PySem.W.mg_of X G f_law_made, k_law_made, fn_law_made⟩
  have fn_merged := fnF (g := g) (K := g.K) (mg := mg) (P := l.prog) (w := w) (base := base) F_merged bd_merged sc_merged (b_merged B ) pure_merged
  have gd_merged : GD g l.prog w g.K mg base _ "merged" _ := ⟨A_merged, PySem.W.mg_of X G f_merged, k_merged, fn_merged⟩
  have fn_Levels_init := fn_starF (g := g) (K := g.K) (mg := mg) (P := l.prog) (w := w) (base := base) (ps := ["self"]) (pv := "stretches") F_Levels_init sc_Levels_init (b_Levels_init B gd_merged fl_high fl_low gc_Stretch fl_pieces) pure_Levels_init (fun kV dc pm an cd ct => StX.bind_star1 (B := fun l => bindArgs (PySem.W.fnOf "__init__" "Levels.__init__" (defArgs s_Levels_init) (defBody s_Levels_init) (defScope s_Levels_init) .none kV dc pm an cd ct) ⟨l, []⟩) (fun _ => rfl) (fun _ _ _ => rfl))
  have gc_Levels : GC g l.prog w g.K mg base _ .Levels "Levels" _ := ⟨PySem.W.mg_of X G a_Levels, A_Levels_init, ⟨mk_Levels, f_Levels_init, i_Levels_init, kc_Levels⟩, fn_Levels_init⟩
  have mo_Levels_init : MOk g l.prog w g.K mg base _ .Levels "__init__" _ := ⟨cls_Levels, A_Levels_init, ⟨f_Levels_init, i_Levels_init, k_Levels_init⟩, fn_Levels_init⟩
  have fn_Levels_ends := fnF (g := g) (K := g.K) (mg := mg) (P := l.prog) (w := w) (base := base) F_Levels_ends bd_Levels_ends sc_Levels_ends (b_Levels_ends B fl_pieces fl_high fl_low) pure_Levels_ends
  have mo_Levels_ends : MOk g l.prog w g.K mg base _ .Levels "ends" _ := ⟨cls_Levels, A_Levels_ends, ⟨f_Levels_ends, i_Levels_ends, k_Levels_ends⟩, fn_Levels_ends⟩
  have mt_contains_Stretch : MTab g l.prog w g.K mg base 1 "__contains__" [(.Stretch, S_Stretch_contains)] := (mt_cons (MOk.mono mo_Stretch_contains (by decide)) mt_nil)
  have fn_depth := fnF (g := g) (K := g.K) (mg := mg) (P := l.prog) (w := w) (base := base) F_depth bd_depth sc_depth (b_depth B mt_contains_Stretch) pure_depth
  have gd_depth : GD g l.prog w g.K mg base _ "depth" _ := ⟨A_depth, PySem.W.mg_of X G f_depth, k_depth, fn_depth⟩
  have gcs_Levels : GCs g l.prog w g.K mg base 5 [(.Levels, (starS 1 S_Levels_init))] := (gcs_cons ⟨mk_Levels, f_Levels_init, i_Levels_init, kc_Levels⟩ (FN.mono fn_Levels_init (by decide)) gcs_nil)
  have fn_shared := fnF (g := g) (K := g.K) (mg := mg) (P := l.prog) (w := w) (base := base) F_shared bd_shared sc_shared (b_shared B gx_BadNeed fl_low fl_high gc_Stretch gcs_Levels mgc_Levels) pure_shared
  have gd_shared : GD g l.prog w g.K mg base _ "shared" _ := ⟨A_shared, PySem.W.mg_of X G f_shared, k_shared, fn_shared⟩
  have fn_most_shared := fnF (g := g) (K := g.K) (mg := mg) (P := l.prog) (w := w) (base := base) F_most_shared bd_most_shared sc_most_shared (b_most_shared B gxt_NoLevel gd_depth fl_low gd_shared) pure_most_shared
  have gd_most_shared : GD g l.prog w g.K mg base _ "most_shared" _ := ⟨A_most_shared, PySem.W.mg_of X G f_most_shared, k_most_shared, fn_most_shared⟩
  have fn_least_liars := fnF (g := g) (K := g.K) (mg := mg) (P := l.prog) (w := w) (base := base) F_least_liars bd_least_liars sc_least_liars (b_least_liars B gd_most_shared) pure_least_liars
  have gd_least_liars : GD g l.prog w g.K mg base _ "least_liars" _ := ⟨A_least_liars, PySem.W.mg_of X G f_least_liars, k_least_liars, fn_least_liars⟩
  have fn_apart_lots := fnF (g := g) (K := g.K) (mg := mg) (P := l.prog) (w := w) (base := base) F_apart_lots bd_apart_lots sc_apart_lots (b_apart_lots B fl_low fl_high) pure_apart_lots
  have gd_apart_lots : GD g l.prog w g.K mg base _ "apart_lots" _ := ⟨A_apart_lots, PySem.W.mg_of X G f_apart_lots, k_apart_lots, fn_apart_lots⟩
  have fn_law_lots := fnF (g := g) (K := g.K) (mg := mg) (P := l.prog) (w := w) (base := base) F_law_lots bd_law_lots sc_law_lots (b_law_lots B ) pure_law_lots
  have gd_law_lots : GD g l.prog w g.K mg base _ "_law_lots" _ := ⟨A_law_lots, PySem.W.mg_of X G f_law_lots, k_law_lots, fn_law_lots⟩
  have mt_ends_Levels : MTab g l.prog w g.K mg base 1 "ends" [(.Levels, S_Levels_ends)] := (mt_cons (MOk.mono mo_Levels_ends (by decide)) mt_nil)
  exact (fn_okF (g := g) F_law sc_law (fun ds O P E h => (pure_law ds O P E h).1) (b_law B gd_law_box gd_law_span gd_law_pairs gd_law_moved gd_law_take gd_law_made gd_apart_lots gd_law_whole gd_law_lots gd_least_liars gd_most_shared mt_ends_Levels gd_law_depth gd_law_stays _) fun ds O P E h => (pure_law ds O P E h).2).imp fun vs H Q E h => spLaw_of (g := g) h
theorem hfk0 {K : PySem.W.Frag} (h : Hd.okAll (hck0 K) = true) : (Hd.cdS K 50 49) = true ∧ (Hd.cdS K 104 103) = true ∧ (Hd.cdQ K 449 "_law_take") = true ∧ (Hd.cdQ K 442 "_law_box") = true ∧ (Hd.cdQ K 456 "_law_whole") = true ∧ (Hd.cdQ K 470 "_law_span") = true ∧ (Hd.cdQ K 477 "_law_moved") = true ∧ (Hd.cdQ K 463 "_law_pair") = true ∧ (Hd.cdQ K 482 "_law_pairs") = true ∧ (Hd.cdQ K 487 "_law_depth") = true ∧ (Hd.cdQ K 123 "Stretch.__init__") = true ∧ (Hd.cdQ K 156 "Stretch.__contains__") = true ∧ (Hd.cdQ K 497 "_law_stays") = true ∧ (Hd.cdQ K 492 "_law_made") = true ∧ (Hd.cdQ K 247 "merged") = true ∧ (Hd.cdQ K 259 "Levels.__init__") = true ∧ (Hd.cdQ K 380 "Levels.ends") = true ∧ (Hd.cdQ K 413 "depth") = true ∧ (Hd.cdQ K 420 "shared") = true ∧ (Hd.cdQ K 425 "most_shared") = true := by
  unfold hck0 at h
  obtain ⟨h0, h⟩ := Hd.okc h
  obtain ⟨h1, h⟩ := Hd.okc h
  obtain ⟨h2, h⟩ := Hd.okc h
  obtain ⟨h3, h⟩ := Hd.okc h
  obtain ⟨h4, h⟩ := Hd.okc h
  obtain ⟨h5, h⟩ := Hd.okc h
  obtain ⟨h6, h⟩ := Hd.okc h
  obtain ⟨h7, h⟩ := Hd.okc h
  obtain ⟨h8, h⟩ := Hd.okc h
  obtain ⟨h9, h⟩ := Hd.okc h
  obtain ⟨h10, h⟩ := Hd.okc h
  obtain ⟨h11, h⟩ := Hd.okc h
  obtain ⟨h12, h⟩ := Hd.okc h
  obtain ⟨h13, h⟩ := Hd.okc h
  obtain ⟨h14, h⟩ := Hd.okc h
  obtain ⟨h15, h⟩ := Hd.okc h
  obtain ⟨h16, h⟩ := Hd.okc h
  obtain ⟨h17, h⟩ := Hd.okc h
  obtain ⟨h18, h⟩ := Hd.okc h
  obtain ⟨h19, h⟩ := Hd.okc h
  exact ⟨h0, h1, h2, h3, h4, h5, h6, h7, h8, h9, h10, h11, h12, h13, h14, h15, h16, h17, h18, h19⟩
theorem hfk1 {K : PySem.W.Frag} (h : Hd.okAll (hck1 K) = true) : (Hd.cdQ K 432 "least_liars") = true ∧ (Hd.cdQ K 437 "apart_lots") = true ∧ (Hd.cdQ K 502 "_law_lots") = true ∧ (Hd.cdQ K 507 "law") = true ∧ (decide (PySem.W.nsIn K mainGlobals "Stretch" = some (some (.ref 236)))) = true ∧ (PySem.W.plainGet K 236 Str.empty) = true ∧ (PySem.W.hasDictIn K 236) = true ∧ (PySem.W.plainOver K 236) = true ∧ (decide (PySem.W.findIn K (.ref 236) "__setattr__" = some (some (.builtin "object.__setattr__")))) = true ∧ (PySem.W.makesIn K 236) = true ∧ (PySem.W.keepIn K (.ref 236)) = true ∧ (decide (PySem.W.nsIn K mainGlobals "Levels" = some (some (.ref 404)))) = true ∧ (PySem.W.plainGet K 404 Str.empty) = true ∧ (PySem.W.hasDictIn K 404) = true ∧ (PySem.W.plainOver K 404) = true ∧ (decide (PySem.W.findIn K (.ref 404) "__setattr__" = some (some (.builtin "object.__setattr__")))) = true ∧ (PySem.W.makesIn K 404) = true ∧ (PySem.W.keepIn K (.ref 404)) = true ∧ (decide (PySem.W.nsIn K mainGlobals "BadStretch" = some (some (.ref 53)))) = true ∧ (decide (PySem.W.subIn K (.ref 53) (.type "BaseException") = some true)) = true := by
  unfold hck1 at h
  obtain ⟨h0, h⟩ := Hd.okc h
  obtain ⟨h1, h⟩ := Hd.okc h
  obtain ⟨h2, h⟩ := Hd.okc h
  obtain ⟨h3, h⟩ := Hd.okc h
  obtain ⟨h4, h⟩ := Hd.okc h
  obtain ⟨h5, h⟩ := Hd.okc h
  obtain ⟨h6, h⟩ := Hd.okc h
  obtain ⟨h7, h⟩ := Hd.okc h
  obtain ⟨h8, h⟩ := Hd.okc h
  obtain ⟨h9, h⟩ := Hd.okc h
  obtain ⟨h10, h⟩ := Hd.okc h
  obtain ⟨h11, h⟩ := Hd.okc h
  obtain ⟨h12, h⟩ := Hd.okc h
  obtain ⟨h13, h⟩ := Hd.okc h
  obtain ⟨h14, h⟩ := Hd.okc h
  obtain ⟨h15, h⟩ := Hd.okc h
  obtain ⟨h16, h⟩ := Hd.okc h
  obtain ⟨h17, h⟩ := Hd.okc h
  obtain ⟨h18, h⟩ := Hd.okc h
  obtain ⟨h19, h⟩ := Hd.okc h
  exact ⟨h0, h1, h2, h3, h4, h5, h6, h7, h8, h9, h10, h11, h12, h13, h14, h15, h16, h17, h18, h19⟩
theorem hfk2 {K : PySem.W.Frag} (h : Hd.okAll (hck2 K) = true) : (decide (PySem.W.typeIn K (.ref 53) = some (.type "type"))) = true ∧ (PySem.W.keepIn K (.ref 53)) = true ∧ (PySem.W.hasDictIn K 53) = true ∧ (decide (PySem.W.nsIn K mainGlobals "BadNeed" = some (some (.ref 107)))) = true ∧ (decide (PySem.W.subIn K (.ref 107) (.type "BaseException") = some true)) = true ∧ (decide (PySem.W.typeIn K (.ref 107) = some (.type "type"))) = true ∧ (PySem.W.keepIn K (.ref 107)) = true ∧ (PySem.W.hasDictIn K 107) = true ∧ (decide (PySem.W.nsIn K mainGlobals "NoLevel" = some (some (.ref 65)))) = true ∧ (decide (PySem.W.subIn K (.ref 65) (.type "BaseException") = some true)) = true ∧ (decide (PySem.W.typeIn K (.ref 65) = some (.type "type"))) = true ∧ (PySem.W.keepIn K (.ref 65)) = true ∧ (PySem.W.hasDictIn K 65) = true ∧ (PySem.W.excIn K 65 [.type "ValueError", .type "Exception", .type "BaseException", .type "object"] "ValueError.__new__") = true ∧ (Hd.lkQ K 53) = true ∧ (decide (PySem.W.findIn K (.ref 53) "__setattr__" = some (some (.builtin "object.__setattr__")))) = true ∧ (decide (PySem.W.findIn K (.ref 53) "__init__" = some (some (.ref 50)))) = true ∧ (decide (PySem.W.typeIn K (.ref 50) = some (.type "function"))) = true ∧ (PySem.W.codeIn K (.ref 49) "BadStretch.__init__") = true ∧ (PySem.W.keepIn K (.ref 50)) = true := by
  unfold hck2 at h
  obtain ⟨h0, h⟩ := Hd.okc h
  obtain ⟨h1, h⟩ := Hd.okc h
  obtain ⟨h2, h⟩ := Hd.okc h
  obtain ⟨h3, h⟩ := Hd.okc h
  obtain ⟨h4, h⟩ := Hd.okc h
  obtain ⟨h5, h⟩ := Hd.okc h
  obtain ⟨h6, h⟩ := Hd.okc h
  obtain ⟨h7, h⟩ := Hd.okc h
  obtain ⟨h8, h⟩ := Hd.okc h
  obtain ⟨h9, h⟩ := Hd.okc h
  obtain ⟨h10, h⟩ := Hd.okc h
  obtain ⟨h11, h⟩ := Hd.okc h
  obtain ⟨h12, h⟩ := Hd.okc h
  obtain ⟨h13, h⟩ := Hd.okc h
  obtain ⟨h14, h⟩ := Hd.okc h
  obtain ⟨h15, h⟩ := Hd.okc h
  obtain ⟨h16, h⟩ := Hd.okc h
  obtain ⟨h17, h⟩ := Hd.okc h
  obtain ⟨h18, h⟩ := Hd.okc h
  obtain ⟨h19, h⟩ := Hd.okc h
  exact ⟨h0, h1, h2, h3, h4, h5, h6, h7, h8, h9, h10, h11, h12, h13, h14, h15, h16, h17, h18, h19⟩
theorem hfk3 {K : PySem.W.Frag} (h : Hd.okAll (hck3 K) = true) : (Hd.flQ K 49 (PySem.W.OpenLaw.row PySem.Challenge.rw_gaugemiss_k10_whole_lots_and_level).prog.main.file) = true ∧ (Hd.ceQ K 38 53) = true ∧ ((PySem.W.clsIn K 53).isSome) = true ∧ (decide (PySem.W.mroIn K 53 (.ref 53) = some true)) = true ∧ (decide (PySem.W.ks_superIn K 53 53 "__init__" = some (some (.builtin "ValueError.__init__")))) = true ∧ (decide (PySem.W.subIn K (.ref 53) (.type "ValueError") = some true)) = true ∧ (Hd.lkQ K 107) = true ∧ (decide (PySem.W.findIn K (.ref 107) "__setattr__" = some (some (.builtin "object.__setattr__")))) = true ∧ (decide (PySem.W.findIn K (.ref 107) "__init__" = some (some (.ref 104)))) = true ∧ (decide (PySem.W.typeIn K (.ref 104) = some (.type "function"))) = true ∧ (PySem.W.codeIn K (.ref 103) "BadNeed.__init__") = true ∧ (PySem.W.keepIn K (.ref 104)) = true ∧ (Hd.flQ K 103 (PySem.W.OpenLaw.row PySem.Challenge.rw_gaugemiss_k10_whole_lots_and_level).prog.main.file) = true ∧ (Hd.ceQ K 92 107) = true ∧ ((PySem.W.clsIn K 107).isSome) = true ∧ (decide (PySem.W.mroIn K 107 (.ref 107) = some true)) = true ∧ (decide (PySem.W.ks_superIn K 107 107 "__init__" = some (some (.builtin "ValueError.__init__")))) = true ∧ (decide (PySem.W.subIn K (.ref 107) (.type "ValueError") = some true)) = true ∧ (decide (PySem.W.nsIn K cStatics "thirdparty.any" = some none)) = true ∧ (decide (PySem.W.findIn K (.ref 107) "number" = some none)) = true := by
  unfold hck3 at h
  obtain ⟨h0, h⟩ := Hd.okc h
  obtain ⟨h1, h⟩ := Hd.okc h
  obtain ⟨h2, h⟩ := Hd.okc h
  obtain ⟨h3, h⟩ := Hd.okc h
  obtain ⟨h4, h⟩ := Hd.okc h
  obtain ⟨h5, h⟩ := Hd.okc h
  obtain ⟨h6, h⟩ := Hd.okc h
  obtain ⟨h7, h⟩ := Hd.okc h
  obtain ⟨h8, h⟩ := Hd.okc h
  obtain ⟨h9, h⟩ := Hd.okc h
  obtain ⟨h10, h⟩ := Hd.okc h
  obtain ⟨h11, h⟩ := Hd.okc h
  obtain ⟨h12, h⟩ := Hd.okc h
  obtain ⟨h13, h⟩ := Hd.okc h
  obtain ⟨h14, h⟩ := Hd.okc h
  obtain ⟨h15, h⟩ := Hd.okc h
  obtain ⟨h16, h⟩ := Hd.okc h
  obtain ⟨h17, h⟩ := Hd.okc h
  obtain ⟨h18, h⟩ := Hd.okc h
  obtain ⟨h19, h⟩ := Hd.okc h
  exact ⟨h0, h1, h2, h3, h4, h5, h6, h7, h8, h9, h10, h11, h12, h13, h14, h15, h16, h17, h18, h19⟩
theorem hfk4 {K : PySem.W.Frag} (h : Hd.okAll (hck4 K) = true) : (decide (PySem.W.findIn K (.ref 53) "high" = some none)) = true ∧ (decide (PySem.W.findIn K (.ref 53) "low" = some none)) = true ∧ (decide (PySem.W.findIn K (.ref 236) "low" = some none)) = true ∧ (decide (PySem.W.findIn K (.ref 236) "high" = some none)) = true ∧ (decide (PySem.W.findIn K (.ref 404) "pieces" = some none)) = true ∧ (decide (PySem.W.nsIn K mainGlobals "_law_take" = some (some (.ref 449)))) = true ∧ (PySem.W.keepIn K (.ref 449)) = true ∧ (decide (PySem.W.nsIn K mainGlobals "_law_box" = some (some (.ref 442)))) = true ∧ (PySem.W.keepIn K (.ref 442)) = true ∧ (decide (PySem.W.nsIn K mainGlobals "_law_whole" = some (some (.ref 456)))) = true ∧ (PySem.W.keepIn K (.ref 456)) = true ∧ (decide (PySem.W.nsIn K mainGlobals "_law_span" = some (some (.ref 470)))) = true ∧ (PySem.W.keepIn K (.ref 470)) = true ∧ (decide (PySem.W.nsIn K mainGlobals "_law_moved" = some (some (.ref 477)))) = true ∧ (PySem.W.keepIn K (.ref 477)) = true ∧ (decide (PySem.W.nsIn K mainGlobals "_law_pair" = some (some (.ref 463)))) = true ∧ (PySem.W.keepIn K (.ref 463)) = true ∧ (decide (PySem.W.nsIn K mainGlobals "_law_pairs" = some (some (.ref 482)))) = true ∧ (PySem.W.keepIn K (.ref 482)) = true ∧ (decide (PySem.W.nsIn K mainGlobals "_law_depth" = some (some (.ref 487)))) = true := by
  unfold hck4 at h
  obtain ⟨h0, h⟩ := Hd.okc h
  obtain ⟨h1, h⟩ := Hd.okc h
  obtain ⟨h2, h⟩ := Hd.okc h
  obtain ⟨h3, h⟩ := Hd.okc h
  obtain ⟨h4, h⟩ := Hd.okc h
  obtain ⟨h5, h⟩ := Hd.okc h
  obtain ⟨h6, h⟩ := Hd.okc h
  obtain ⟨h7, h⟩ := Hd.okc h
  obtain ⟨h8, h⟩ := Hd.okc h
  obtain ⟨h9, h⟩ := Hd.okc h
  obtain ⟨h10, h⟩ := Hd.okc h
  obtain ⟨h11, h⟩ := Hd.okc h
  obtain ⟨h12, h⟩ := Hd.okc h
  obtain ⟨h13, h⟩ := Hd.okc h
  obtain ⟨h14, h⟩ := Hd.okc h
  obtain ⟨h15, h⟩ := Hd.okc h
  obtain ⟨h16, h⟩ := Hd.okc h
  obtain ⟨h17, h⟩ := Hd.okc h
  obtain ⟨h18, h⟩ := Hd.okc h
  obtain ⟨h19, h⟩ := Hd.okc h
  exact ⟨h0, h1, h2, h3, h4, h5, h6, h7, h8, h9, h10, h11, h12, h13, h14, h15, h16, h17, h18, h19⟩
theorem hfk5 {K : PySem.W.Frag} (h : Hd.okAll (hck5 K) = true) : (PySem.W.keepIn K (.ref 487)) = true ∧ (decide (PySem.W.findIn K (.ref 236) "__init__" = some (some (.ref 123)))) = true ∧ (PySem.W.isFn K (.ref 123)) = true ∧ (PySem.W.keepIn K (.ref 123)) = true ∧ (decide (PySem.W.findIn K (.ref 236) "__contains__" = some (some (.ref 156)))) = true ∧ (PySem.W.isFn K (.ref 156)) = true ∧ (PySem.W.keepIn K (.ref 156)) = true ∧ (decide (PySem.W.nsIn K mainGlobals "_law_stays" = some (some (.ref 497)))) = true ∧ (PySem.W.keepIn K (.ref 497)) = true ∧ (decide (PySem.W.nsIn K mainGlobals "_law_made" = some (some (.ref 492)))) = true ∧ (PySem.W.keepIn K (.ref 492)) = true ∧ (decide (PySem.W.nsIn K mainGlobals "merged" = some (some (.ref 247)))) = true ∧ (PySem.W.keepIn K (.ref 247)) = true ∧ (decide (PySem.W.findIn K (.ref 404) "__init__" = some (some (.ref 259)))) = true ∧ (PySem.W.isFn K (.ref 259)) = true ∧ (PySem.W.keepIn K (.ref 259)) = true ∧ (decide (PySem.W.findIn K (.ref 404) "ends" = some (some (.ref 380)))) = true ∧ (PySem.W.isFn K (.ref 380)) = true ∧ (PySem.W.keepIn K (.ref 380)) = true ∧ (decide (PySem.W.nsIn K mainGlobals "depth" = some (some (.ref 413)))) = true := by
  unfold hck5 at h
  obtain ⟨h0, h⟩ := Hd.okc h
  obtain ⟨h1, h⟩ := Hd.okc h
  obtain ⟨h2, h⟩ := Hd.okc h
  obtain ⟨h3, h⟩ := Hd.okc h
  obtain ⟨h4, h⟩ := Hd.okc h
  obtain ⟨h5, h⟩ := Hd.okc h
  obtain ⟨h6, h⟩ := Hd.okc h
  obtain ⟨h7, h⟩ := Hd.okc h
  obtain ⟨h8, h⟩ := Hd.okc h
  obtain ⟨h9, h⟩ := Hd.okc h
  obtain ⟨h10, h⟩ := Hd.okc h
  obtain ⟨h11, h⟩ := Hd.okc h
  obtain ⟨h12, h⟩ := Hd.okc h
  obtain ⟨h13, h⟩ := Hd.okc h
  obtain ⟨h14, h⟩ := Hd.okc h
  obtain ⟨h15, h⟩ := Hd.okc h
  obtain ⟨h16, h⟩ := Hd.okc h
  obtain ⟨h17, h⟩ := Hd.okc h
  obtain ⟨h18, h⟩ := Hd.okc h
  obtain ⟨h19, h⟩ := Hd.okc h
  exact ⟨h0, h1, h2, h3, h4, h5, h6, h7, h8, h9, h10, h11, h12, h13, h14, h15, h16, h17, h18, h19⟩
theorem hfk6 {K : PySem.W.Frag} (h : Hd.okAll (hck6 K) = true) : (PySem.W.keepIn K (.ref 413)) = true ∧ (decide (PySem.W.nsIn K mainGlobals "shared" = some (some (.ref 420)))) = true ∧ (PySem.W.keepIn K (.ref 420)) = true ∧ (decide (PySem.W.nsIn K mainGlobals "most_shared" = some (some (.ref 425)))) = true ∧ (PySem.W.keepIn K (.ref 425)) = true ∧ (decide (PySem.W.nsIn K mainGlobals "least_liars" = some (some (.ref 432)))) = true ∧ (PySem.W.keepIn K (.ref 432)) = true ∧ (decide (PySem.W.nsIn K mainGlobals "apart_lots" = some (some (.ref 437)))) = true ∧ (PySem.W.keepIn K (.ref 437)) = true ∧ (decide (PySem.W.nsIn K mainGlobals "_law_lots" = some (some (.ref 502)))) = true ∧ (PySem.W.keepIn K (.ref 502)) = true ∧ (decide (PySem.W.nsIn K mainGlobals "law" = some (some (.ref 507)))) = true ∧ (PySem.W.keepIn K (.ref 507)) = true ∧ (decide (PySem.W.nsIn K mainGlobals "len" = some none)) = true ∧ (decide (PySem.W.nsIn K mainGlobals "int" = some none)) = true ∧ (decide (PySem.W.nsIn K mainGlobals "bool" = some none)) = true ∧ (decide (PySem.W.nsIn K mainGlobals "str" = some none)) = true ∧ (decide (PySem.W.nsIn K mainGlobals "isinstance" = some none)) = true ∧ (decide (PySem.W.nsIn K mainGlobals "range" = some none)) = true ∧ (decide (PySem.W.nsIn K mainGlobals "max" = some none)) = true := by
  unfold hck6 at h
  obtain ⟨h0, h⟩ := Hd.okc h
  obtain ⟨h1, h⟩ := Hd.okc h
  obtain ⟨h2, h⟩ := Hd.okc h
  obtain ⟨h3, h⟩ := Hd.okc h
  obtain ⟨h4, h⟩ := Hd.okc h
  obtain ⟨h5, h⟩ := Hd.okc h
  obtain ⟨h6, h⟩ := Hd.okc h
  obtain ⟨h7, h⟩ := Hd.okc h
  obtain ⟨h8, h⟩ := Hd.okc h
  obtain ⟨h9, h⟩ := Hd.okc h
  obtain ⟨h10, h⟩ := Hd.okc h
  obtain ⟨h11, h⟩ := Hd.okc h
  obtain ⟨h12, h⟩ := Hd.okc h
  obtain ⟨h13, h⟩ := Hd.okc h
  obtain ⟨h14, h⟩ := Hd.okc h
  obtain ⟨h15, h⟩ := Hd.okc h
  obtain ⟨h16, h⟩ := Hd.okc h
  obtain ⟨h17, h⟩ := Hd.okc h
  obtain ⟨h18, h⟩ := Hd.okc h
  obtain ⟨h19, h⟩ := Hd.okc h
  exact ⟨h0, h1, h2, h3, h4, h5, h6, h7, h8, h9, h10, h11, h12, h13, h14, h15, h16, h17, h18, h19⟩
theorem hfk7 {K : PySem.W.Frag} (h : Hd.okAll (hck7 K) = true) : (decide (PySem.W.nsIn K mainGlobals "min" = some none)) = true ∧ (decide (PySem.W.nsIn K mainGlobals "abs" = some none)) = true ∧ (decide (PySem.W.nsIn K mainGlobals "sorted" = some none)) = true ∧ (decide (PySem.W.nsIn K mainGlobals "sum" = some none)) = true ∧ (decide (PySem.W.nsIn K mainGlobals "any" = some none)) = true ∧ (decide (PySem.W.nsIn K mainGlobals "all" = some none)) = true ∧ (decide (PySem.W.nsIn K mainGlobals "list" = some none)) = true ∧ (decide (PySem.W.nsIn K mainGlobals "dict" = some none)) = true ∧ (decide (PySem.W.nsIn K mainGlobals "tuple" = some none)) = true ∧ (decide (PySem.W.nsIn K mainGlobals "enumerate" = some none)) = true ∧ (decide (PySem.W.nsIn K mainGlobals "zip" = some none)) = true ∧ (decide (PySem.W.nsIn K mainGlobals "repr" = some none)) = true ∧ (decide (PySem.W.nsIn K mainGlobals "iter" = some none)) = true ∧ (decide (PySem.W.nsIn K mainGlobals "super" = some none)) = true := by
  unfold hck7 at h
  obtain ⟨h0, h⟩ := Hd.okc h
  obtain ⟨h1, h⟩ := Hd.okc h
  obtain ⟨h2, h⟩ := Hd.okc h
  obtain ⟨h3, h⟩ := Hd.okc h
  obtain ⟨h4, h⟩ := Hd.okc h
  obtain ⟨h5, h⟩ := Hd.okc h
  obtain ⟨h6, h⟩ := Hd.okc h
  obtain ⟨h7, h⟩ := Hd.okc h
  obtain ⟨h8, h⟩ := Hd.okc h
  obtain ⟨h9, h⟩ := Hd.okc h
  obtain ⟨h10, h⟩ := Hd.okc h
  obtain ⟨h11, h⟩ := Hd.okc h
  obtain ⟨h12, h⟩ := Hd.okc h
  obtain ⟨h13, h⟩ := Hd.okc h
  exact ⟨h0, h1, h2, h3, h4, h5, h6, h7, h8, h9, h10, h11, h12, h13⟩
end G
open PySem PySem.W PyProof.Rows
set_option maxRecDepth 100000 in
set_option maxHeartbeats 0 in
theorem PySem.Challenge.cw_gaugemiss_k10_whole_lots_and_level_holds : PySem.Challenge.rw_gaugemiss_k10_whole_lots_and_level.Holds := by
  w_on; o_law
  refine HandSHeadRun.head_any (r := OpenLaw.row PySem.Challenge.rw_gaugemiss_k10_whole_lots_and_level) (q := G.hQ) (H := G.hHk) (ob := G.hOb) (M := 60000) (loose := G.hNames) (d := HandSHeadRun.topDef (OpenLaw.row PySem.Challenge.rw_gaugemiss_k10_whole_lots_and_level).prog 29) (kwd := []) G.hOb_eq (by kernel_rfl) (fun s => by kernel_rfl) G.hRun (by kernel_rfl) (by kernel_rfl) (by kernel_rfl) (by rfl) (by first | assumption | decide +kernel) (by decide +kernel) ⟨rfl, rfl, rfl, rfl, rfl, by decide +kernel⟩ ?hw ?hc
  case hw => w_witness2
  case hc =>
    refine G.walkE (l := PySem.Challenge.rw_gaugemiss_k10_whole_lots_and_level) (x := "_law_script") 10 (by decide) rfl rfl ?F
    intro w mg fa h Y GX hmg0
    obtain ⟨K, KX, hb, hf⟩ := Y
    have hmg : mg ("law" : PySem.Str) = some (.ref fa) := by
      have e : (HandSHeadRun.topDef (OpenLaw.row PySem.Challenge.rw_gaugemiss_k10_whole_lots_and_level).prog 29).name = ("law" : PySem.Str) := by kernel_rfl
      rw [← e]
      exact hmg0
    unfold G.hck at hb
    obtain ⟨q0, hb⟩ := Hd.oka hb
    obtain ⟨q1, hb⟩ := Hd.oka hb
    obtain ⟨q2, hb⟩ := Hd.oka hb
    obtain ⟨q3, hb⟩ := Hd.oka hb
    obtain ⟨q4, hb⟩ := Hd.oka hb
    obtain ⟨q5, hb⟩ := Hd.oka hb
    obtain ⟨q6, hb⟩ := Hd.oka hb
    have q7 := hb
    obtain ⟨_, _, _, _, _, _, _, _, hl_BadStretch⟩ := Hd.fn_getS (Hd.fnAt hf 0) ((G.hfk0 q0).1)
    obtain ⟨_, _, _, _, _, _, _, _, hl_BadNeed⟩ := Hd.fn_getS (Hd.fnAt hf 1) ((G.hfk0 q0).2.1)
    obtain ⟨_, _, _, _, _, _, _, _, _, hl_law_take, hc_law_take⟩ := Hd.fn_get (Hd.fnAt hf 2) ((G.hfk0 q0).2.2.1)
    obtain ⟨_, _, _, _, _, _, _, _, _, hl_law_box, hc_law_box⟩ := Hd.fn_get (Hd.fnAt hf 3) ((G.hfk0 q0).2.2.2.1)
    obtain ⟨_, _, _, _, _, _, _, _, _, hl_law_whole, hc_law_whole⟩ := Hd.fn_get (Hd.fnAt hf 4) ((G.hfk0 q0).2.2.2.2.1)
    obtain ⟨_, _, _, _, _, _, _, _, _, hl_law_span, hc_law_span⟩ := Hd.fn_get (Hd.fnAt hf 5) ((G.hfk0 q0).2.2.2.2.2.1)
    obtain ⟨_, _, _, _, _, _, _, _, _, hl_law_moved, hc_law_moved⟩ := Hd.fn_get (Hd.fnAt hf 6) ((G.hfk0 q0).2.2.2.2.2.2.1)
    obtain ⟨_, _, _, _, _, _, _, _, _, hl_law_pair, hc_law_pair⟩ := Hd.fn_get (Hd.fnAt hf 7) ((G.hfk0 q0).2.2.2.2.2.2.2.1)
    obtain ⟨_, _, _, _, _, _, _, _, _, hl_law_pairs, hc_law_pairs⟩ := Hd.fn_get (Hd.fnAt hf 8) ((G.hfk0 q0).2.2.2.2.2.2.2.2.1)
    obtain ⟨_, _, _, _, _, _, _, _, _, hl_law_depth, hc_law_depth⟩ := Hd.fn_get (Hd.fnAt hf 9) ((G.hfk0 q0).2.2.2.2.2.2.2.2.2.1)
    obtain ⟨_, _, _, _, _, _, _, _, _, hl_Stretch_init, hc_Stretch_init⟩ := Hd.fn_get (Hd.fnAt hf 10) ((G.hfk0 q0).2.2.2.2.2.2.2.2.2.2.1)
    obtain ⟨_, _, _, _, _, _, _, _, _, hl_Stretch_contains, hc_Stretch_contains⟩ := Hd.fn_get (Hd.fnAt hf 11) ((G.hfk0 q0).2.2.2.2.2.2.2.2.2.2.2.1)
    obtain ⟨_, _, _, _, _, _, _, _, _, hl_law_stays, hc_law_stays⟩ := Hd.fn_get (Hd.fnAt hf 12) ((G.hfk0 q0).2.2.2.2.2.2.2.2.2.2.2.2.1)
    obtain ⟨_, _, _, _, _, _, _, _, _, hl_law_made, hc_law_made⟩ := Hd.fn_get (Hd.fnAt hf 13) ((G.hfk0 q0).2.2.2.2.2.2.2.2.2.2.2.2.2.1)
    obtain ⟨_, _, _, _, _, _, _, _, _, hl_merged, hc_merged⟩ := Hd.fn_get (Hd.fnAt hf 14) ((G.hfk0 q0).2.2.2.2.2.2.2.2.2.2.2.2.2.2.1)
    obtain ⟨_, _, _, _, _, _, _, _, _, hl_Levels_init, hc_Levels_init⟩ := Hd.fn_get (Hd.fnAt hf 15) ((G.hfk0 q0).2.2.2.2.2.2.2.2.2.2.2.2.2.2.2.1)
    obtain ⟨_, _, _, _, _, _, _, _, _, hl_Levels_ends, hc_Levels_ends⟩ := Hd.fn_get (Hd.fnAt hf 16) ((G.hfk0 q0).2.2.2.2.2.2.2.2.2.2.2.2.2.2.2.2.1)
    obtain ⟨_, _, _, _, _, _, _, _, _, hl_depth, hc_depth⟩ := Hd.fn_get (Hd.fnAt hf 17) ((G.hfk0 q0).2.2.2.2.2.2.2.2.2.2.2.2.2.2.2.2.2.1)
    obtain ⟨_, _, _, _, _, _, _, _, _, hl_shared, hc_shared⟩ := Hd.fn_get (Hd.fnAt hf 18) ((G.hfk0 q0).2.2.2.2.2.2.2.2.2.2.2.2.2.2.2.2.2.2.1)
    obtain ⟨_, _, _, _, _, _, _, _, _, hl_most_shared, hc_most_shared⟩ := Hd.fn_get (Hd.fnAt hf 19) ((G.hfk0 q0).2.2.2.2.2.2.2.2.2.2.2.2.2.2.2.2.2.2.2)
    obtain ⟨_, _, _, _, _, _, _, _, _, hl_least_liars, hc_least_liars⟩ := Hd.fn_get (Hd.fnAt hf 20) ((G.hfk1 q1).1)
    obtain ⟨_, _, _, _, _, _, _, _, _, hl_apart_lots, hc_apart_lots⟩ := Hd.fn_get (Hd.fnAt hf 21) ((G.hfk1 q1).2.1)
    obtain ⟨_, _, _, _, _, _, _, _, _, hl_law_lots, hc_law_lots⟩ := Hd.fn_get (Hd.fnAt hf 22) ((G.hfk1 q1).2.2.1)
    obtain ⟨_, _, _, _, _, _, _, _, _, hl_law, hc_law⟩ := Hd.fn_get (Hd.fnAt hf 23) ((G.hfk1 q1).2.2.2.1)
    obtain ⟨_, _, _, _, _, _, _, _, _, _, _, _, _, _, _, hlk_BadStretch, hrv_BadStretch⟩ := Hd.lk_get ((G.hfk2 q2).2.2.2.2.2.2.2.2.2.2.2.2.2.2.1)
    obtain ⟨_, _, _, _, _, _, hfl_BadStretch, hfv_BadStretch, hpf_BadStretch⟩ := Hd.fl_get ((G.hfk3 q3).1)
    obtain ⟨_, _, _, hce_BadStretch⟩ := Hd.ce_get ((G.hfk3 q3).2.1)
    obtain ⟨_, hdc_BadStretch⟩ := Hd.dc_get ((G.hfk3 q3).2.2.1)
    obtain ⟨_, _, _, _, _, _, _, _, _, _, _, _, _, _, _, hlk_BadNeed, hrv_BadNeed⟩ := Hd.lk_get ((G.hfk3 q3).2.2.2.2.2.2.1)
    obtain ⟨_, _, _, _, _, _, hfl_BadNeed, hfv_BadNeed, hpf_BadNeed⟩ := Hd.fl_get ((G.hfk3 q3).2.2.2.2.2.2.2.2.2.2.2.2.1)
    obtain ⟨_, _, _, hce_BadNeed⟩ := Hd.ce_get ((G.hfk3 q3).2.2.2.2.2.2.2.2.2.2.2.2.2.1)
    obtain ⟨_, hdc_BadNeed⟩ := Hd.dc_get ((G.hfk3 q3).2.2.2.2.2.2.2.2.2.2.2.2.2.2.1)
    have zz := G.all_mk (l := PySem.Challenge.rw_gaugemiss_k10_whole_lots_and_level) (w := w) (K := K) KX GX hmg ((of_decide_eq_true ((G.hfk1 q1).2.2.2.2.1))) (((G.hfk1 q1).2.2.2.2.2.1)) (((G.hfk1 q1).2.2.2.2.2.2.1)) (((G.hfk1 q1).2.2.2.2.2.2.2.1)) ((of_decide_eq_true ((G.hfk1 q1).2.2.2.2.2.2.2.2.1))) (((G.hfk1 q1).2.2.2.2.2.2.2.2.2.1)) (((G.hfk1 q1).2.2.2.2.2.2.2.2.2.2.1)) ((of_decide_eq_true ((G.hfk1 q1).2.2.2.2.2.2.2.2.2.2.2.1))) (((G.hfk1 q1).2.2.2.2.2.2.2.2.2.2.2.2.1)) (((G.hfk1 q1).2.2.2.2.2.2.2.2.2.2.2.2.2.1)) (((G.hfk1 q1).2.2.2.2.2.2.2.2.2.2.2.2.2.2.1)) ((of_decide_eq_true ((G.hfk1 q1).2.2.2.2.2.2.2.2.2.2.2.2.2.2.2.1))) (((G.hfk1 q1).2.2.2.2.2.2.2.2.2.2.2.2.2.2.2.2.1)) (((G.hfk1 q1).2.2.2.2.2.2.2.2.2.2.2.2.2.2.2.2.2.1)) ((of_decide_eq_true ((G.hfk1 q1).2.2.2.2.2.2.2.2.2.2.2.2.2.2.2.2.2.2.1))) ((of_decide_eq_true ((G.hfk1 q1).2.2.2.2.2.2.2.2.2.2.2.2.2.2.2.2.2.2.2))) ((of_decide_eq_true ((G.hfk2 q2).1))) (((G.hfk2 q2).2.1)) (((G.hfk2 q2).2.2.1)) ((of_decide_eq_true ((G.hfk2 q2).2.2.2.1))) ((of_decide_eq_true ((G.hfk2 q2).2.2.2.2.1))) ((of_decide_eq_true ((G.hfk2 q2).2.2.2.2.2.1))) (((G.hfk2 q2).2.2.2.2.2.2.1)) (((G.hfk2 q2).2.2.2.2.2.2.2.1)) ((of_decide_eq_true ((G.hfk2 q2).2.2.2.2.2.2.2.2.1))) ((of_decide_eq_true ((G.hfk2 q2).2.2.2.2.2.2.2.2.2.1))) ((of_decide_eq_true ((G.hfk2 q2).2.2.2.2.2.2.2.2.2.2.1))) (((G.hfk2 q2).2.2.2.2.2.2.2.2.2.2.2.1)) (((G.hfk2 q2).2.2.2.2.2.2.2.2.2.2.2.2.1)) (((G.hfk2 q2).2.2.2.2.2.2.2.2.2.2.2.2.2.1)) (hlk_BadStretch) (hrv_BadStretch) ((of_decide_eq_true ((G.hfk2 q2).2.2.2.2.2.2.2.2.2.2.2.2.2.2.2.1))) ((of_decide_eq_true ((G.hfk2 q2).2.2.2.2.2.2.2.2.2.2.2.2.2.2.2.2.1))) ((of_decide_eq_true ((G.hfk2 q2).2.2.2.2.2.2.2.2.2.2.2.2.2.2.2.2.2.1))) (hl_BadStretch) (((G.hfk2 q2).2.2.2.2.2.2.2.2.2.2.2.2.2.2.2.2.2.2.1)) (((G.hfk2 q2).2.2.2.2.2.2.2.2.2.2.2.2.2.2.2.2.2.2.2)) (hfl_BadStretch) (hfv_BadStretch) (hpf_BadStretch) (hce_BadStretch) (hdc_BadStretch) ((of_decide_eq_true ((G.hfk3 q3).2.2.2.1))) ((of_decide_eq_true ((G.hfk3 q3).2.2.2.2.1))) ((of_decide_eq_true ((G.hfk3 q3).2.2.2.2.2.1))) (hlk_BadNeed) (hrv_BadNeed) ((of_decide_eq_true ((G.hfk3 q3).2.2.2.2.2.2.2.1))) ((of_decide_eq_true ((G.hfk3 q3).2.2.2.2.2.2.2.2.1))) ((of_decide_eq_true ((G.hfk3 q3).2.2.2.2.2.2.2.2.2.1))) (hl_BadNeed) (((G.hfk3 q3).2.2.2.2.2.2.2.2.2.2.1)) (((G.hfk3 q3).2.2.2.2.2.2.2.2.2.2.2.1)) (hfl_BadNeed) (hfv_BadNeed) (hpf_BadNeed) (hce_BadNeed) (hdc_BadNeed) ((of_decide_eq_true ((G.hfk3 q3).2.2.2.2.2.2.2.2.2.2.2.2.2.2.2.1))) ((of_decide_eq_true ((G.hfk3 q3).2.2.2.2.2.2.2.2.2.2.2.2.2.2.2.2.1))) ((of_decide_eq_true ((G.hfk3 q3).2.2.2.2.2.2.2.2.2.2.2.2.2.2.2.2.2.1))) ((of_decide_eq_true ((G.hfk3 q3).2.2.2.2.2.2.2.2.2.2.2.2.2.2.2.2.2.2.1))) ((by decide +kernel)) ((of_decide_eq_true ((G.hfk3 q3).2.2.2.2.2.2.2.2.2.2.2.2.2.2.2.2.2.2.2))) ((of_decide_eq_true ((G.hfk4 q4).1))) ((of_decide_eq_true ((G.hfk4 q4).2.1))) ((of_decide_eq_true ((G.hfk4 q4).2.2.1))) ((of_decide_eq_true ((G.hfk4 q4).2.2.2.1))) ((of_decide_eq_true ((G.hfk4 q4).2.2.2.2.1))) ((of_decide_eq_true ((G.hfk4 q4).2.2.2.2.2.1))) (hl_law_take) (hc_law_take) (((G.hfk4 q4).2.2.2.2.2.2.1)) ((of_decide_eq_true ((G.hfk4 q4).2.2.2.2.2.2.2.1))) (hl_law_box) (hc_law_box) (((G.hfk4 q4).2.2.2.2.2.2.2.2.1)) ((of_decide_eq_true ((G.hfk4 q4).2.2.2.2.2.2.2.2.2.1))) (hl_law_whole) (hc_law_whole) (((G.hfk4 q4).2.2.2.2.2.2.2.2.2.2.1)) ((of_decide_eq_true ((G.hfk4 q4).2.2.2.2.2.2.2.2.2.2.2.1))) (hl_law_span) (hc_law_span) (((G.hfk4 q4).2.2.2.2.2.2.2.2.2.2.2.2.1)) ((of_decide_eq_true ((G.hfk4 q4).2.2.2.2.2.2.2.2.2.2.2.2.2.1))) (hl_law_moved) (hc_law_moved) (((G.hfk4 q4).2.2.2.2.2.2.2.2.2.2.2.2.2.2.1)) ((of_decide_eq_true ((G.hfk4 q4).2.2.2.2.2.2.2.2.2.2.2.2.2.2.2.1))) (hl_law_pair) (hc_law_pair) (((G.hfk4 q4).2.2.2.2.2.2.2.2.2.2.2.2.2.2.2.2.1)) ((of_decide_eq_true ((G.hfk4 q4).2.2.2.2.2.2.2.2.2.2.2.2.2.2.2.2.2.1))) (hl_law_pairs) (hc_law_pairs) (((G.hfk4 q4).2.2.2.2.2.2.2.2.2.2.2.2.2.2.2.2.2.2.1)) ((of_decide_eq_true ((G.hfk4 q4).2.2.2.2.2.2.2.2.2.2.2.2.2.2.2.2.2.2.2))) (hl_law_depth) (hc_law_depth) (((G.hfk5 q5).1)) ((of_decide_eq_true ((G.hfk5 q5).2.1))) (((G.hfk5 q5).2.2.1)) (hl_Stretch_init) (hc_Stretch_init) (((G.hfk5 q5).2.2.2.1)) ((of_decide_eq_true ((G.hfk5 q5).2.2.2.2.1))) (((G.hfk5 q5).2.2.2.2.2.1)) (hl_Stretch_contains) (hc_Stretch_contains) (((G.hfk5 q5).2.2.2.2.2.2.1)) ((of_decide_eq_true ((G.hfk5 q5).2.2.2.2.2.2.2.1))) (hl_law_stays) (hc_law_stays) (((G.hfk5 q5).2.2.2.2.2.2.2.2.1)) ((of_decide_eq_true ((G.hfk5 q5).2.2.2.2.2.2.2.2.2.1))) (hl_law_made) (hc_law_made) (((G.hfk5 q5).2.2.2.2.2.2.2.2.2.2.1)) ((of_decide_eq_true ((G.hfk5 q5).2.2.2.2.2.2.2.2.2.2.2.1))) (hl_merged) (hc_merged) (((G.hfk5 q5).2.2.2.2.2.2.2.2.2.2.2.2.1)) ((of_decide_eq_true ((G.hfk5 q5).2.2.2.2.2.2.2.2.2.2.2.2.2.1))) (((G.hfk5 q5).2.2.2.2.2.2.2.2.2.2.2.2.2.2.1)) (hl_Levels_init) (hc_Levels_init) (((G.hfk5 q5).2.2.2.2.2.2.2.2.2.2.2.2.2.2.2.1)) ((of_decide_eq_true ((G.hfk5 q5).2.2.2.2.2.2.2.2.2.2.2.2.2.2.2.2.1))) (((G.hfk5 q5).2.2.2.2.2.2.2.2.2.2.2.2.2.2.2.2.2.1)) (hl_Levels_ends) (hc_Levels_ends) (((G.hfk5 q5).2.2.2.2.2.2.2.2.2.2.2.2.2.2.2.2.2.2.1)) ((of_decide_eq_true ((G.hfk5 q5).2.2.2.2.2.2.2.2.2.2.2.2.2.2.2.2.2.2.2))) (hl_depth) (hc_depth) (((G.hfk6 q6).1)) ((of_decide_eq_true ((G.hfk6 q6).2.1))) (hl_shared) (hc_shared) (((G.hfk6 q6).2.2.1)) ((of_decide_eq_true ((G.hfk6 q6).2.2.2.1))) (hl_most_shared) (hc_most_shared) (((G.hfk6 q6).2.2.2.2.1)) ((of_decide_eq_true ((G.hfk6 q6).2.2.2.2.2.1))) (hl_least_liars) (hc_least_liars) (((G.hfk6 q6).2.2.2.2.2.2.1)) ((of_decide_eq_true ((G.hfk6 q6).2.2.2.2.2.2.2.1))) (hl_apart_lots) (hc_apart_lots) (((G.hfk6 q6).2.2.2.2.2.2.2.2.1)) ((of_decide_eq_true ((G.hfk6 q6).2.2.2.2.2.2.2.2.2.1))) (hl_law_lots) (hc_law_lots) (((G.hfk6 q6).2.2.2.2.2.2.2.2.2.2.1)) ((of_decide_eq_true ((G.hfk6 q6).2.2.2.2.2.2.2.2.2.2.2.1))) (hl_law) (hc_law) (((G.hfk6 q6).2.2.2.2.2.2.2.2.2.2.2.2.1)) ((of_decide_eq_true ((G.hfk6 q6).2.2.2.2.2.2.2.2.2.2.2.2.2.1))) ((of_decide_eq_true ((G.hfk6 q6).2.2.2.2.2.2.2.2.2.2.2.2.2.2.1))) ((of_decide_eq_true ((G.hfk6 q6).2.2.2.2.2.2.2.2.2.2.2.2.2.2.2.1))) ((of_decide_eq_true ((G.hfk6 q6).2.2.2.2.2.2.2.2.2.2.2.2.2.2.2.2.1))) ((of_decide_eq_true ((G.hfk6 q6).2.2.2.2.2.2.2.2.2.2.2.2.2.2.2.2.2.1))) ((of_decide_eq_true ((G.hfk6 q6).2.2.2.2.2.2.2.2.2.2.2.2.2.2.2.2.2.2.1))) ((of_decide_eq_true ((G.hfk6 q6).2.2.2.2.2.2.2.2.2.2.2.2.2.2.2.2.2.2.2))) ((of_decide_eq_true ((G.hfk7 q7).1))) ((of_decide_eq_true ((G.hfk7 q7).2.1))) ((of_decide_eq_true ((G.hfk7 q7).2.2.1))) ((of_decide_eq_true ((G.hfk7 q7).2.2.2.1))) ((of_decide_eq_true ((G.hfk7 q7).2.2.2.2.1))) ((of_decide_eq_true ((G.hfk7 q7).2.2.2.2.2.1))) ((of_decide_eq_true ((G.hfk7 q7).2.2.2.2.2.2.1))) ((of_decide_eq_true ((G.hfk7 q7).2.2.2.2.2.2.2.1))) ((of_decide_eq_true ((G.hfk7 q7).2.2.2.2.2.2.2.2.1))) ((of_decide_eq_true ((G.hfk7 q7).2.2.2.2.2.2.2.2.2.1))) ((of_decide_eq_true ((G.hfk7 q7).2.2.2.2.2.2.2.2.2.2.1))) ((of_decide_eq_true ((G.hfk7 q7).2.2.2.2.2.2.2.2.2.2.2.1))) ((of_decide_eq_true ((G.hfk7 q7).2.2.2.2.2.2.2.2.2.2.2.2.1))) ((of_decide_eq_true ((G.hfk7 q7).2.2.2.2.2.2.2.2.2.2.2.2.2)))
    obtain ⟨fd, z1, z2⟩ := zz
    exact ⟨K, fd, KX, z1, z2⟩
#print axioms PySem.Challenge.cw_gaugemiss_k10_whole_lots_and_level_holds
