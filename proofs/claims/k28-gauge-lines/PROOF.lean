import PyProof.Rows.All
import Wide.All
import OpenK.AllK
import Wide.FinOn
import HandS.Words
import HandS.Exc
import HandS.ExcInit
import HandS.Head0
import HandS.Head1
import HandS.Head2
import HandS.HeadHook1
import KE.KSuper
import KE.KIsAll
import KE.KExcSuper
import HandS.ForMost
import HandS.ForExc
import HandS.CallSlots
import HandS.Iter
import HandS.More
import HandS.Star
import HandS.IsInst
import KE.Datum
import HandS.Nested
import HandS.ExcSuper
import HandS.TryOnly
import HandS.ExcField
import HandS.ExcOwn
import KE.KExcIs
import KE.KOpsOwn
import HandS.SortInts
import HandS.ExcIs
import KE.KStar
import HandS.WordsDict
import HandS.Property
import HandS.ClsMeth
import KE.KCallOwn
import HandS.SortRule
import HandS.FStr
import HandS.OwnEq
import HandS.TryMany
import HandS.Style
import HandS.RaiseMore
import KE.KRevSl
import HandS.Defaults
import HandS.Deep
import HandS.TupAny
import HandS.SortOrd
import HandS.DictTup
import KE.KDictZip
import KE.KSortTup
import PyProof.WalksMore
import PyProof.Rows.SumAny
import HandS.DictComp
import HandS.IterVal
import HandS.GenOver
import KE.KOwnIter
import HandS.GenList
import KE.DatumMore
import HandS.HeadEnd
import HandS.StrMore
import KE.KxField
import PyProof.FString3
import HandS.Conv
import HandS.Finally
import KE.GoesRaise
import HandS.DeepEq
import PyProof.NeKinds
import HandS.Set
import HandS.Strs
import HandS.SetBool
import HandS.WideBits
import KE.KEqNest
import HandS.Flow
import HandS.Text
import KE.KUnpackStar
import PyProof.Rows.MatchSeqLen
import KE.GoesEnumKw
import KE.GoesEnum
import HandS.ExcCtx
import HandS.SuiteRaise
import HandS.RaiseFrom
import HandS.ExcInitHot
import HandS.NestedHot
import HandS.ExcValue
import HandS.ReplaceLit
import PySem.Challenge.RW_gaugemiss_k28_gauge_lines
set_option Elab.async false
set_option linter.all false
set_option maxRecDepth 100000
set_option maxHeartbeats 4000000
/-! ## a head whose facts are read within the one run of the top -/
namespace Hd
open PySem PySem.W
/-- the objects at some addresses, each one opened -/
def frK {α : Type} (g : Addr → Option Obj) : List Addr → (Frag → α) → α
  | [], k => k []
  | a :: r, k => match g a with
    | some ⟨c, d, dt, sl⟩ => frK g r fun K => k ((a, ⟨c, d, dt, sl⟩) :: K)
    | none => frK g r k
theorem frK_eq {α : Type} (g : Addr → Option Obj) : ∀ (as : List Addr) (k : Frag → α), frK g as k = k (He.frG g as)
  | [], _ => rfl
  | a :: r, k => by
    have e : He.frG g (a :: r) = (match (g a).map fun o => (a, o) with | some p => p :: He.frG g r | none => He.frG g r) := by
      unfold He.frG
      rw [List.filterMap_cons]
      cases g a <;> rfl
    rw [e]
    show (match g a with
      | some ⟨c, d, dt, sl⟩ => frK g r fun K => k ((a, ⟨c, d, dt, sl⟩) :: K)
      | none => frK g r k) = _
    cases g a with
    | none => exact frK_eq g r k
    | some o =>
      obtain ⟨c, d, dt, sl⟩ := o
      exact frK_eq g r _
def okAll : List Bool → Bool
  | [] => true
  | true :: r => okAll r
  | false :: _ => false
theorem okc {b : Bool} {r : List Bool} (h : okAll (b :: r) = true) : b = true ∧ okAll r = true := by
  cases b with
  | true => exact ⟨rfl, h⟩
  | false => cases h
theorem oka {l r : List Bool} (h : okAll (l ++ r) = true) : okAll l = true ∧ okAll r = true := by
  induction l with
  | nil => exact ⟨rfl, h⟩
  | cons b l ih =>
    obtain ⟨h1, h2⟩ := okc h
    subst h1
    exact ih h2
abbrev FnQ : Type := Option (Str × Str × Arguments × FuncBody × Scope × Addr × List (Str × Addr) × Value × Addr)
def fnQ (K : Frag) (A : Addr) : FnQ := match K.lookup A with
  | some ⟨_, _, .func fd, _⟩ => some (fd.name, fd.qualname, fd.params, fd.body, fd.scope, fd.globals, fd.closure, fd.defaults, fd.builtins)
  | _ => none
def fnV (nm q : Str) (st : Stmt) (cl : List (Str × Addr)) (dV : Value) : FnQ := some (nm, q, L2.defArgs st, .stmts (L2.defBody st), L2.defScope st, mainGlobals, cl, dV, builtinsNs)
def hookF (as : List Addr) (ck : Frag → List Bool) (fs : Frag → List FnQ) (vs : List FnQ) : Hook where
  α := Bool × List FnQ
  obs := fun s => (okAll (ck (He.frG s.heap.get? as)), fs (He.frG s.heap.get? as))
  val := fun _ => (true, vs)
  says := fun _ h => ∃ K : Frag, K.In h ∧ okAll (ck K) = true ∧ fs K = vs
  of := fun _ _ e => ⟨_, He.frG_in, congrArg Prod.fst e, congrArg Prod.snd e⟩
  keeps := fun _ _ _ ⟨K, hK, c⟩ k => ⟨K, Frag.In.keeps hK k, c⟩
def obF (as : List Addr) (ck : Frag → List Bool) (fs : Frag → List FnQ) (g : Addr → Option Obj) : Bool × List FnQ := frK g as fun K => (okAll (ck K), fs K)
theorem obF_eq {as : List Addr} {ck : Frag → List Bool} {fs : Frag → List FnQ} {vs : List FnQ} (s : SharedT) : obF as ck fs (HandSHeadRun.getT s) = (hookF as ck fs vs).obs s.abs := by
  have e : HandSHeadRun.getT s = s.abs.heap.get? := funext fun a => HandSHeadRun.getT_eq s a
  unfold obF
  rw [frK_eq, e]
  rfl
/-! ### facts with parts that no one names -/
def cdQ (K : Frag) (A : Addr) (q : Str) : Bool := match K.lookup A with
  | some ⟨_, _, .func fd, _⟩ => codeIn K fd.code q
  | _ => false
def cdS (K : Frag) (A cda : Addr) : Bool := match K.lookup A with
  | some ⟨_, _, .func fd, _⟩ => decide (fd.code = .ref cda)
  | _ => false
def kwQ (K : Frag) (A : Addr) (kV : Value) : Bool := match K.lookup A with
  | some ⟨_, _, .func fd, _⟩ => decide (fd.kwdefaults = kV)
  | _ => false
section
variable {K : Frag} {A cda cc : Addr} {nm q : Str} {st : Stmt} {cl : List (Str × Addr)} {dV kV : Value}
theorem fn_any (e : fnQ K A = fnV nm q st cl dV) : ∃ oc od kV dc pm an cd ct sl, K.lookup A = some ⟨oc, od, .func ⟨nm, q, L2.defArgs st, .stmts (L2.defBody st), L2.defScope st, mainGlobals, cl, dV, kV, dc, pm, an, cd, ct, builtinsNs⟩, sl⟩ := by
  unfold fnQ fnV at e
  cases z : K.lookup A with
  | none =>
    rw [z] at e
    cases e
  | some o =>
    obtain ⟨oc, od, dt, osl⟩ := o
    rw [z] at e
    cases dt with
    | func fd =>
      obtain ⟨n1, n2, n3, n4, n5, n6, n7, n8, n9, n10, n11, n12, n13, n14, n15⟩ := fd
      have e2 : (some (n1, n2, n3, n4, n5, n6, n7, n8, n15) : FnQ) = some (nm, q, L2.defArgs st, .stmts (L2.defBody st), L2.defScope st, mainGlobals, cl, dV, builtinsNs) := e
      simp only [Option.some.injEq, Prod.mk.injEq] at e2
      obtain ⟨h1, h2, h3, h4, h5, h6, h7, h8, h9⟩ := e2
      subst h1 h2 h3 h4 h5 h6 h7 h8 h9
      exact ⟨_, _, _, _, _, _, _, _, _, rfl⟩
    | _ => cases e
theorem fn_get (e : fnQ K A = fnV nm q st [] dV) (c : cdQ K A q = true) : ∃ oc od kV dc pm an cd ct sl, K.lookup A = some ⟨oc, od, .func (fnOf nm q (L2.defArgs st) (L2.defBody st) (L2.defScope st) dV kV dc pm an cd ct), sl⟩ ∧ codeIn K cd q = true := by
  obtain ⟨oc, od, kV, dc, pm, an, cd, ct, sl, z⟩ := fn_any e
  unfold cdQ at c
  rw [z] at c
  exact ⟨oc, od, kV, dc, pm, an, cd, ct, sl, z, c⟩
theorem fn_getK (e : fnQ K A = fnV nm q st [] dV) (c : cdQ K A q = true) (k : kwQ K A kV = true) : ∃ oc od dc pm an cd ct sl, K.lookup A = some ⟨oc, od, .func (fnOf nm q (L2.defArgs st) (L2.defBody st) (L2.defScope st) dV kV dc pm an cd ct), sl⟩ ∧ codeIn K cd q = true := by
  obtain ⟨oc, od, kV', dc, pm, an, cd, ct, sl, z⟩ := fn_any e
  unfold cdQ at c
  unfold kwQ at k
  rw [z] at c k
  have ek : kV' = kV := of_decide_eq_true k
  subst ek
  exact ⟨oc, od, dc, pm, an, cd, ct, sl, z, c⟩
theorem fn_getS (e : fnQ K A = fnV nm q st [("__class__", cc)] dV) (c : cdS K A cda = true) : ∃ oc od kV dc pm an ct sl, K.lookup A = some ⟨oc, od, .func (ksFn nm q (L2.defArgs st) (L2.defBody st) (L2.defScope st) dV kV dc pm an (.ref cda) ct cc), sl⟩ := by
  obtain ⟨oc, od, kV', dc, pm, an, cd, ct, sl, z⟩ := fn_any e
  unfold cdS at c
  rw [z] at c
  have ec : cd = .ref cda := of_decide_eq_true c
  subst ec
  exact ⟨oc, od, kV', dc, pm, an, ct, sl, z⟩
theorem fn_getSK (e : fnQ K A = fnV nm q st [("__class__", cc)] dV) (c : cdS K A cda = true) (k : kwQ K A kV = true) : ∃ oc od dc pm an ct sl, K.lookup A = some ⟨oc, od, .func (ksFn nm q (L2.defArgs st) (L2.defBody st) (L2.defScope st) dV kV dc pm an (.ref cda) ct cc), sl⟩ := by
  obtain ⟨oc, od, kV', dc, pm, an, cd, ct, sl, z⟩ := fn_any e
  unfold cdS at c
  unfold kwQ at k
  rw [z] at c k
  have ec : cd = .ref cda := of_decide_eq_true c
  have ek : kV' = kV := of_decide_eq_true k
  subst ec ek
  exact ⟨oc, od, dc, pm, an, ct, sl, z⟩
end
def flQ (K : Frag) (cda : Addr) (file : Str) : Bool := match K.lookup cda with
  | some ⟨_, _, .fields vs, _⟩ => (match (vs[2]? : Option Value) with | some (.str f _) => file == f | _ => false)
  | _ => false
theorem fl_get {K : Frag} {cda : Addr} {file : Str} (h : flQ K cda file = true) : ∃ ccl cdd vs ccs f tf, K.lookup cda = some ⟨ccl, cdd, .fields vs, ccs⟩ ∧ vs[2]? = some (.str f tf) ∧ (file == f) = true := by
  unfold flQ at h
  cases z : K.lookup cda with
  | none => rw [z] at h; cases h
  | some o =>
    obtain ⟨oc, od, dt, osl⟩ := o
    rw [z] at h
    cases dt with
    | fields vs =>
      cases y : vs[2]? with
      | none => simp only [y] at h; cases h
      | some v =>
        cases v with
        | str f t => simp only [y] at h; exact ⟨_, _, vs, _, f, t, rfl, y, h⟩
        | _ => simp only [y] at h; cases h
    | _ => cases h
def ceQ (K : Frag) (cc D : Addr) : Bool := match K.lookup cc with
  | some ⟨_, _, .cell (some (.ref x)), _⟩ => decide (x = D)
  | _ => false
theorem ce_get {K : Frag} {cc D : Addr} (h : ceQ K cc D = true) : ∃ cl cld csl, K.lookup cc = some ⟨cl, cld, .cell (some (.ref D)), csl⟩ := by
  unfold ceQ at h
  cases z : K.lookup cc with
  | none => rw [z] at h; cases h
  | some o =>
    obtain ⟨oc, od, dt, osl⟩ := o
    rw [z] at h
    cases dt with
    | cell v =>
      cases v with
      | none => cases h
      | some v =>
        cases v with
        | ref x =>
          have e : x = D := of_decide_eq_true h
          subst e
          exact ⟨_, _, _, rfl⟩
        | _ => cases h
    | _ => cases h
theorem dc_get {K : Frag} {D : Addr} (h : (clsIn K D).isSome = true) : ∃ cd, clsIn K D = some cd := Option.isSome_iff_exists.mp h
def lkQ (K : Frag) (E : Addr) : Bool := match K.lookup E with
  | some ⟨.type T, _, .cls cd, sl⟩ => (match cd.mro, sl.toList with
    | .ref C :: bm, [_, _, _, _, some (.builtin n), _] => decide (T = "type") && (decide (C = E) && (decide (n = "ValueError.__new__") && (!cd.hasDel && (cd.hasDict && PySem.HandSPX.refsVE bm))))
    | _, _ => false)
  | _ => false
theorem lk_get {K : Frag} {E : Addr} (h : lkQ K E = true) : ∃ nm q N bs bm sn sub ab col dd k0 k1 k2 k3 k5, K.lookup E = some (excClassObj nm q E N bs bm true sn sub ab col dd k0 k1 k2 k3 k5 "ValueError.__new__") ∧ PySem.HandSPX.refsVE bm = true := by
  unfold lkQ at h
  cases z : K.lookup E with
  | none => rw [z] at h; cases h
  | some o =>
    obtain ⟨oc, od, dt, osl⟩ := o
    rw [z] at h
    cases oc with
    | type T =>
      cases dt with
      | cls cd =>
        obtain ⟨n1, bs, mro, N, qn, hd, sn, sub, ab, col, hdel⟩ := cd
        simp only at h
        split at h
        · rename_i C bm k0 k1 k2 k3 n k5 es
          simp only [Bool.and_eq_true, decide_eq_true_eq, Bool.not_eq_true'] at h
          obtain ⟨h1, h2, h3, h4, h5, h6⟩ := h
          subst h1 h2 h3 h4 h5
          have e7 : osl = #[k0, k1, k2, k3, some (.builtin "ValueError.__new__"), k5] := by
            rw [← Array.toList_inj, es]
          subst e7
          exact ⟨_, _, _, _, _, _, _, _, _, _, _, _, _, _, _, rfl, h6⟩
        · cases h
      | _ => cases h
    | _ => cases dt <;> cases h
def recQ (K : Frag) (P : Addr) (T : String) (A : Addr) : Bool := match recIn K P T with
  | some (.ref a :: _) => decide (a = A)
  | _ => false
theorem rec_get {K : Frag} {P A : Addr} {T : String} (h : recQ K P T A = true) : ∃ rest, recIn K P T = some (.ref A :: rest) := by
  unfold recQ at h
  split at h
  · rename_i a r e
    have := of_decide_eq_true h
    subst this
    exact ⟨r, e⟩
  · cases h
def strQ (K : Frag) (x z : Str) : Bool := match nsIn K mainGlobals x with
  | some (some (.str y _)) => decide (y = z)
  | _ => false
theorem str_get {K : Frag} {x z : Str} (h : strQ K x z = true) : ∃ t, nsIn K mainGlobals x = some (some (.str z t)) := by
  unfold strQ at h
  split at h
  · rename_i a t e
    have := of_decide_eq_true h
    subst this
    exact ⟨t, e⟩
  · cases h
def nssQ (K : Frag) (D : Addr) (x z : Str) : Bool := match nsIn K D x with
  | some (some (.str y _)) => decide (y = z)
  | _ => false
theorem nss_get {K : Frag} {D : Addr} {x z : Str} (h : nssQ K D x z = true) : ∃ t, nsIn K D x = some (some (.str z t)) := by
  unfold nssQ at h
  split at h
  · rename_i a t e
    have := of_decide_eq_true h
    subst this
    exact ⟨t, e⟩
  · cases h
def nsiQ (K : Frag) (D : Addr) (x : Str) (z : Int) : Bool := match nsIn K D x with
  | some (some (.int y _)) => decide (y = z)
  | _ => false
theorem nsi_get {K : Frag} {D : Addr} {x : Str} {z : Int} (h : nsiQ K D x z = true) : ∃ t, nsIn K D x = some (some (.int z t)) := by
  unfold nsiQ at h
  split at h
  · rename_i a t e
    have := of_decide_eq_true h
    subst this
    exact ⟨t, e⟩
  · cases h
def cfiQ (K : Frag) (c mc : Value) (x : Str) (i : Int) : Bool := match findCls K c mc x with
  | some (.val (.int j _)) => decide (j = i)
  | _ => false
theorem cfi_get {K : Frag} {c mc : Value} {x : Str} {i : Int} (h : cfiQ K c mc x i = true) : ∃ t, findCls K c mc x = some (.val (.int i t)) := by
  unfold cfiQ at h
  split at h
  · rename_i a t e
    have := of_decide_eq_true h
    subst this
    exact ⟨t, e⟩
  · cases h
def cfvQ (K : Frag) (c mc : Value) (x : Str) (v : Value) : Bool := match findCls K c mc x with
  | some (.val u) => decide (u = v)
  | _ => false
theorem cfv_get {K : Frag} {c mc v : Value} {x : Str} (h : cfvQ K c mc x v = true) : findCls K c mc x = some (.val v) := by
  unfold cfvQ at h
  split at h
  · rename_i a e
    have := of_decide_eq_true h
    subst this
    exact e
  · cases h
def cfgQ (K : Frag) (c mc : Value) (x : Str) (g a o t : Value) : Bool := match findCls K c mc x with
  | some (.get g' a' o' t') => decide (g' = g) && (decide (a' = a) && (decide (o' = o) && decide (t' = t)))
  | _ => false
theorem cfg_get {K : Frag} {c mc g a o t : Value} {x : Str} (h : cfgQ K c mc x g a o t = true) : findCls K c mc x = some (.get g a o t) := by
  unfold cfgQ at h
  split at h
  · rename_i g' a' o' t' e
    simp only [Bool.and_eq_true, decide_eq_true_eq] at h
    obtain ⟨h1, h2, h3, h4⟩ := h
    subst h1 h2 h3 h4
    exact e
  · cases h
def teQ (K : Frag) (KT : Addr) : Bool := match K.lookup KT with
  | some ⟨.type T, _, .seq its _, _⟩ => decide (T = "tuple") && its.toList.isEmpty
  | _ => false
theorem te_get {K : Frag} {KT : Addr} (h : teQ K KT = true) : ∃ od n sl, K.lookup KT = some ⟨.type "tuple", od, .seq #[] n, sl⟩ := by
  unfold teQ at h
  cases z : K.lookup KT with
  | none => rw [z] at h; cases h
  | some o =>
    obtain ⟨oc, od, dt, osl⟩ := o
    rw [z] at h
    cases oc with
    | type T =>
      cases dt with
      | seq its n =>
        have h : (decide (T = "tuple") && its.toList.isEmpty) = true := h
        simp only [Bool.and_eq_true, decide_eq_true_eq, List.isEmpty_iff] at h
        obtain ⟨rfl, h2⟩ := h
        have e : its = #[] := by rw [← Array.toList_inj, h2]
        subst e
        exact ⟨_, _, _, rfl⟩
      | _ => cases h
    | _ => cases dt <;> cases h
def seQ (K : Frag) (KD KT : Addr) : Bool := match K.lookup KD with
  | some ⟨_, _, .seq its _, _⟩ => (match its.toList with | [.ref x] => decide (x = KT) | _ => false)
  | _ => false
theorem se_get {K : Frag} {KD KT : Addr} (h : seQ K KD KT = true) : ∃ oc od n sl, K.lookup KD = some ⟨oc, od, .seq #[.ref KT] n, sl⟩ := by
  unfold seQ at h
  cases z : K.lookup KD with
  | none => rw [z] at h; cases h
  | some o =>
    obtain ⟨oc, od, dt, osl⟩ := o
    rw [z] at h
    cases dt with
    | seq its n =>
      dsimp only at h
      split at h
      · rename_i x e
        have e1 := of_decide_eq_true h
        subst e1
        have e : its = #[.ref x] := by rw [← Array.toList_inj, e]
        subst e
        exact ⟨_, _, _, _, rfl⟩
      · cases h
    | _ => cases h
/-- a tuple of texts -/
def strsB : List Str → List Value → Bool
  | [], [] => true
  | w :: ws, .str x _ :: vs => decide (x = w) && strsB ws vs
  | _, _ => false
def strsV : List Str → List Tok → List Value
  | w :: ws, t :: ts => .str w t :: strsV ws ts
  | _, _ => []
theorem strs_get : ∀ {ws : List Str} {vs : List Value}, strsB ws vs = true → ∃ ts : List Tok, ts.length = ws.length ∧ vs = strsV ws ts
  | [], [], _ => ⟨[], rfl, rfl⟩
  | [], _ :: _, h => by cases h
  | w :: ws, [], h => by cases h
  | w :: ws, v :: vs, h => by
    cases v with
    | str x t =>
      have h : (decide (x = w) && strsB ws vs) = true := h
      simp only [Bool.and_eq_true, decide_eq_true_eq] at h
      obtain ⟨rfl, h2⟩ := h
      obtain ⟨ts, e1, e2⟩ := strs_get h2
      exact ⟨t :: ts, by simp [e1], by rw [e2]; rfl⟩
    | _ => cases h
def tsQ (K : Frag) (A : Addr) (ws : List Str) : Bool := match K.lookup A with
  | some ⟨.type T, _, .seq its _, _⟩ => decide (T = "tuple") && strsB ws its.toList
  | _ => false
theorem ts_get {K : Frag} {A : Addr} {ws : List Str} (h : tsQ K A ws = true) : ∃ ts od n sl, ts.length = ws.length ∧ K.lookup A = some ⟨.type "tuple", od, .seq (strsV ws ts).toArray n, sl⟩ := by
  unfold tsQ at h
  cases z : K.lookup A with
  | none => rw [z] at h; cases h
  | some o =>
    obtain ⟨oc, od, dt, osl⟩ := o
    rw [z] at h
    cases oc with
    | type T =>
      cases dt with
      | seq its n =>
        have h : (decide (T = "tuple") && strsB ws its.toList) = true := h
        simp only [Bool.and_eq_true, decide_eq_true_eq] at h
        obtain ⟨rfl, h2⟩ := h
        obtain ⟨ts, e1, e2⟩ := strs_get h2
        have e : its = (strsV ws ts).toArray := by rw [← Array.toList_inj, e2]
        subst e
        exact ⟨ts, _, _, _, e1, rfl⟩
      | _ => cases h
    | _ => cases dt <;> cases h
theorem fnAt {l vs : List FnQ} (e : l = vs) (i : Nat) {x y : FnQ} (h : l[i]? = some x := by rfl) (h' : vs[i]? = some y := by rfl) : x = y := by
  subst e
  exact Option.some.inj (h.symm.trans h')
end Hd

set_option Elab.async false
set_option linter.all false
set_option maxRecDepth 100000
set_option maxHeartbeats 4000000
namespace G
open PySem PySem.W L2 Hd
def top (i : Nat) : Stmt := PySem.Challenge.pw_gaugemiss_k28_gauge_lines.main.body.getD i (.Pass ⟨0, 0, 0, 0⟩)
abbrev s_law_take : Stmt := top 27
abbrev s_law_box : Stmt := top 26
abbrev s_law_word : Stmt := top 28
abbrev s_law_words : Stmt := top 29
abbrev s_valid_name : Stmt := top 17
abbrev s_Gauge_init : Stmt := inClass (top 13) 1
abbrev s_CoarseGauge_init : Stmt := inClass (top 14) 0
abbrev s_LateGauge_init : Stmt := inClass (top 15) 0
abbrev s_LateCoarseGauge_init : Stmt := inClass (top 16) 0
abbrev s_law_specs : Stmt := top 30
abbrev s_law_gauge : Stmt := top 31
abbrev s_read_number : Stmt := top 21
abbrev s_numbers_after : Stmt := top 23
abbrev s_read_gauge : Stmt := top 24
abbrev s_write_gauge : Stmt := top 22
abbrev s_law_line : Stmt := top 32
abbrev s_law_read : Stmt := top 33
abbrev s_law : Stmt := top 34
abbrev s_BadGauge_init : Stmt := inClass (top 6) 0
abbrev s_BadText_init : Stmt := inClass (top 7) 0
abbrev hR : OpenRow := OpenLaw.row PySem.Challenge.rw_gaugemiss_k28_gauge_lines
abbrev hQ : Program := view hR.prog [34]
def hNames : List Str := (hR.prog.main.body.take 34).filterMap fun s => match s with | .FunctionDef n .. => some n | .ClassDef n .. => some n | .Assign [.Name n _] .. => some n | _ => none
def hAs : List Addr := [3, 2, 322, 353, 389, 408, 107, 128, 104, 103, 92, 125, 124, 113, 451, 444, 458, 465, 415, 276, 342, 341, 330, 370, 405, 472, 479, 420, 434, 439, 427, 486, 493, 500, 262, 321, 352, 388, 407, 106, 31, 127, 450, 443, 457, 464, 414, 275, 369, 404, 471, 478, 419, 433, 438, 426, 485, 492, 499, 30]
def hck0 (K : Frag) : List Bool := [Hd.cdS K 104 103,
  Hd.cdS K 125 124,
  Hd.cdQ K 451 "_law_take",
  Hd.cdQ K 444 "_law_box",
  Hd.cdQ K 458 "_law_word",
  Hd.cdQ K 465 "_law_words",
  Hd.cdQ K 415 "valid_name",
  Hd.cdQ K 276 "Gauge.__init__",
  Hd.cdS K 342 341,
  Hd.cdQ K 370 "LateGauge.__init__",
  Hd.cdQ K 405 "LateCoarseGauge.__init__",
  Hd.cdQ K 472 "_law_specs",
  Hd.cdQ K 479 "_law_gauge",
  Hd.cdQ K 420 "read_number",
  Hd.cdQ K 434 "numbers_after",
  Hd.cdQ K 439 "read_gauge",
  Hd.cdQ K 427 "write_gauge",
  Hd.cdQ K 486 "_law_line",
  Hd.cdQ K 493 "_law_read",
  Hd.cdQ K 500 "law"]
def hck1 (K : Frag) : List Bool := [decide (PySem.W.nsIn K mainGlobals "Gauge" = some (some (.ref 322))),
  PySem.W.plainGet K 322 Str.empty,
  PySem.W.hasDictIn K 322,
  PySem.W.plainOver K 322,
  decide (PySem.W.findIn K (.ref 322) "__setattr__" = some (some (.builtin "object.__setattr__"))),
  PySem.W.makesIn K 322,
  PySem.W.keepIn K (.ref 322),
  decide (PySem.W.nsIn K mainGlobals "CoarseGauge" = some (some (.ref 353))),
  PySem.W.plainGet K 353 Str.empty,
  PySem.W.hasDictIn K 353,
  PySem.W.plainOver K 353,
  decide (PySem.W.findIn K (.ref 353) "__setattr__" = some (some (.builtin "object.__setattr__"))),
  PySem.W.makesIn K 353,
  PySem.W.keepIn K (.ref 353),
  decide (PySem.W.nsIn K mainGlobals "LateGauge" = some (some (.ref 389))),
  PySem.W.plainGet K 389 Str.empty,
  PySem.W.hasDictIn K 389,
  PySem.W.plainOver K 389,
  decide (PySem.W.findIn K (.ref 389) "__setattr__" = some (some (.builtin "object.__setattr__"))),
  PySem.W.makesIn K 389]
def hck2 (K : Frag) : List Bool := [PySem.W.keepIn K (.ref 389),
  decide (PySem.W.nsIn K mainGlobals "LateCoarseGauge" = some (some (.ref 408))),
  PySem.W.plainGet K 408 Str.empty,
  PySem.W.hasDictIn K 408,
  PySem.W.plainOver K 408,
  decide (PySem.W.findIn K (.ref 408) "__setattr__" = some (some (.builtin "object.__setattr__"))),
  PySem.W.makesIn K 408,
  PySem.W.keepIn K (.ref 408),
  decide (PySem.W.nsIn K mainGlobals "BadGauge" = some (some (.ref 107))),
  decide (PySem.W.subIn K (.ref 107) (.type "BaseException") = some true),
  decide (PySem.W.typeIn K (.ref 107) = some (.type "type")),
  PySem.W.keepIn K (.ref 107),
  PySem.W.hasDictIn K 107,
  decide (PySem.W.nsIn K mainGlobals "BadText" = some (some (.ref 128))),
  decide (PySem.W.subIn K (.ref 128) (.type "BaseException") = some true),
  decide (PySem.W.typeIn K (.ref 128) = some (.type "type")),
  PySem.W.keepIn K (.ref 128),
  PySem.W.hasDictIn K 128,
  Hd.lkQ K 107,
  decide (PySem.W.findIn K (.ref 107) "__setattr__" = some (some (.builtin "object.__setattr__")))]
def hck3 (K : Frag) : List Bool := [decide (PySem.W.findIn K (.ref 107) "__init__" = some (some (.ref 104))),
  decide (PySem.W.typeIn K (.ref 104) = some (.type "function")),
  PySem.W.codeIn K (.ref 103) "BadGauge.__init__",
  PySem.W.keepIn K (.ref 104),
  Hd.flQ K 103 (PySem.W.OpenLaw.row PySem.Challenge.rw_gaugemiss_k28_gauge_lines).prog.main.file,
  Hd.ceQ K 92 107,
  (PySem.W.clsIn K 107).isSome,
  decide (PySem.W.mroIn K 107 (.ref 107) = some true),
  decide (PySem.W.ks_superIn K 107 107 "__init__" = some (some (.builtin "ValueError.__init__"))),
  decide (PySem.W.subIn K (.ref 107) (.type "ValueError") = some true),
  Hd.lkQ K 128,
  decide (PySem.W.findIn K (.ref 128) "__setattr__" = some (some (.builtin "object.__setattr__"))),
  decide (PySem.W.findIn K (.ref 128) "__init__" = some (some (.ref 125))),
  decide (PySem.W.typeIn K (.ref 125) = some (.type "function")),
  PySem.W.codeIn K (.ref 124) "BadText.__init__",
  PySem.W.keepIn K (.ref 125),
  Hd.flQ K 124 (PySem.W.OpenLaw.row PySem.Challenge.rw_gaugemiss_k28_gauge_lines).prog.main.file,
  Hd.ceQ K 113 128,
  (PySem.W.clsIn K 128).isSome,
  decide (PySem.W.mroIn K 128 (.ref 128) = some true)]
def hck4 (K : Frag) : List Bool := [decide (PySem.W.ks_superIn K 128 128 "__init__" = some (some (.builtin "ValueError.__init__"))),
  decide (PySem.W.subIn K (.ref 128) (.type "ValueError") = some true),
  decide (PySem.W.nsIn K cStatics "thirdparty.any" = some none),
  decide (PySem.W.findIn K (.ref 107) "__getattribute__" = some (some (.builtin "BaseException.__getattribute__"))),
  decide (PySem.W.findIn K (.ref 107) "__getattr__" = some none),
  decide (PySem.W.findIn K (.ref 128) "__getattribute__" = some (some (.builtin "BaseException.__getattribute__"))),
  decide (PySem.W.findIn K (.ref 128) "__getattr__" = some none),
  decide (PySem.W.findIn K (.ref 107) "name" = some none),
  decide (PySem.W.findIn K (.ref 128) "text" = some none),
  decide (PySem.W.subIn K (.ref 107) (.ref 107) = some true),
  decide (PySem.W.subIn K (.ref 128) (.ref 107) = some false),
  decide (PySem.W.subIn K (.ref 107) (.ref 128) = some false),
  decide (PySem.W.subIn K (.ref 128) (.ref 128) = some true),
  decide (PySem.W.kitOne K (.ref 107) (.ref 107) = some true),
  decide (PySem.W.kitOne K (.ref 128) (.ref 107) = some false),
  decide (PySem.W.findIn K (.ref 107) "__class__" = some (some (.builtin "object.__class__"))),
  decide (PySem.W.mroIn K 107 (.type "object") = some true),
  decide (PySem.W.findIn K (.ref 128) "__class__" = some (some (.builtin "object.__class__"))),
  decide (PySem.W.mroIn K 128 (.type "object") = some true),
  decide (PySem.W.kitOne K (.ref 322) (.ref 353) = some false)]
def hck5 (K : Frag) : List Bool := [decide (PySem.W.kitOne K (.ref 353) (.ref 353) = some true),
  decide (PySem.W.kitOne K (.ref 389) (.ref 353) = some false),
  decide (PySem.W.kitOne K (.ref 408) (.ref 353) = some true),
  decide (PySem.W.kitOne K (.ref 322) (.ref 389) = some false),
  decide (PySem.W.kitOne K (.ref 353) (.ref 389) = some false),
  decide (PySem.W.kitOne K (.ref 389) (.ref 389) = some true),
  decide (PySem.W.kitOne K (.ref 408) (.ref 389) = some true),
  decide (PySem.W.kitOne K (.ref 322) (.ref 408) = some false),
  decide (PySem.W.kitOne K (.ref 353) (.ref 408) = some false),
  decide (PySem.W.kitOne K (.ref 389) (.ref 408) = some false),
  decide (PySem.W.kitOne K (.ref 408) (.ref 408) = some true),
  decide (PySem.W.findIn K (.ref 353) "__class__" = some (some (.builtin "object.__class__"))),
  decide (PySem.W.mroIn K 353 (.type "object") = some true),
  decide (PySem.W.findIn K (.ref 322) "__class__" = some (some (.builtin "object.__class__"))),
  decide (PySem.W.mroIn K 322 (.type "object") = some true),
  decide (PySem.W.findIn K (.ref 408) "__class__" = some (some (.builtin "object.__class__"))),
  decide (PySem.W.mroIn K 408 (.type "object") = some true),
  decide (PySem.W.findIn K (.ref 389) "__class__" = some (some (.builtin "object.__class__"))),
  decide (PySem.W.mroIn K 389 (.type "object") = some true),
  decide (PySem.W.specialIn K (.builtin "object.__class__") "__get__" = some (some (.builtin "getset_descriptor.__get__")))]
def hck6 (K : Frag) : List Bool := [decide (PySem.W.takesIn K (.builtin "object.__class__") = some true),
  decide (PySem.W.findIn K (.ref 322) "name" = some none),
  decide (PySem.W.findIn K (.ref 353) "name" = some none),
  decide (PySem.W.findIn K (.ref 389) "name" = some none),
  decide (PySem.W.findIn K (.ref 408) "name" = some none),
  decide (PySem.W.findIn K (.ref 322) "radius" = some none),
  decide (PySem.W.findIn K (.ref 353) "radius" = some none),
  decide (PySem.W.findIn K (.ref 389) "radius" = some none),
  decide (PySem.W.findIn K (.ref 408) "radius" = some none),
  decide (PySem.W.findIn K (.ref 353) "step" = some none),
  decide (PySem.W.findIn K (.ref 408) "step" = some none),
  decide (PySem.W.findIn K (.ref 389) "late" = some none),
  decide (PySem.W.findIn K (.ref 408) "late" = some none),
  decide (PySem.W.findIn K (.ref 389) "pace" = some none),
  decide (PySem.W.findIn K (.ref 408) "pace" = some none),
  decide (PySem.W.nsIn K mainGlobals "_law_take" = some (some (.ref 451))),
  PySem.W.keepIn K (.ref 451),
  decide (PySem.W.nsIn K mainGlobals "_law_box" = some (some (.ref 444))),
  PySem.W.keepIn K (.ref 444),
  decide (PySem.W.nsIn K mainGlobals "_law_word" = some (some (.ref 458)))]
def hck7 (K : Frag) : List Bool := [PySem.W.keepIn K (.ref 458),
  decide (PySem.W.nsIn K mainGlobals "_law_words" = some (some (.ref 465))),
  PySem.W.keepIn K (.ref 465),
  decide (PySem.W.nsIn K mainGlobals "valid_name" = some (some (.ref 415))),
  PySem.W.keepIn K (.ref 415),
  decide (PySem.W.findIn K (.ref 322) "__init__" = some (some (.ref 276))),
  PySem.W.isFn K (.ref 276),
  PySem.W.keepIn K (.ref 276),
  decide (PySem.W.findIn K (.ref 353) "__init__" = some (some (.ref 342))),
  PySem.W.isFn K (.ref 342),
  PySem.W.codeIn K (.ref 341) "CoarseGauge.__init__",
  PySem.W.keepIn K (.ref 342),
  Hd.flQ K 341 (PySem.W.OpenLaw.row PySem.Challenge.rw_gaugemiss_k28_gauge_lines).prog.main.file,
  Hd.ceQ K 330 353,
  (PySem.W.clsIn K 353).isSome,
  decide (PySem.W.findIn K (.ref 389) "__init__" = some (some (.ref 370))),
  PySem.W.isFn K (.ref 370),
  PySem.W.keepIn K (.ref 370),
  decide (PySem.W.findIn K (.ref 408) "__init__" = some (some (.ref 405))),
  PySem.W.isFn K (.ref 405)]
def hck8 (K : Frag) : List Bool := [PySem.W.keepIn K (.ref 405),
  decide (PySem.W.nsIn K mainGlobals "_law_specs" = some (some (.ref 472))),
  PySem.W.keepIn K (.ref 472),
  decide (PySem.W.nsIn K mainGlobals "_law_gauge" = some (some (.ref 479))),
  PySem.W.keepIn K (.ref 479),
  decide (PySem.W.nsIn K mainGlobals "read_number" = some (some (.ref 420))),
  PySem.W.keepIn K (.ref 420),
  decide (PySem.W.nsIn K mainGlobals "numbers_after" = some (some (.ref 434))),
  PySem.W.keepIn K (.ref 434),
  decide (PySem.W.nsIn K mainGlobals "read_gauge" = some (some (.ref 439))),
  PySem.W.keepIn K (.ref 439),
  decide (PySem.W.nsIn K mainGlobals "write_gauge" = some (some (.ref 427))),
  PySem.W.keepIn K (.ref 427),
  decide (PySem.W.nsIn K mainGlobals "_law_line" = some (some (.ref 486))),
  PySem.W.keepIn K (.ref 486),
  decide (PySem.W.nsIn K mainGlobals "_law_read" = some (some (.ref 493))),
  PySem.W.keepIn K (.ref 493),
  decide (PySem.W.nsIn K mainGlobals "law" = some (some (.ref 500))),
  PySem.W.keepIn K (.ref 500),
  PySem.W.readsIn K 322 (.type "type")]
def hck9 (K : Frag) : List Bool := [decide (PySem.W.specialIn K (.ref 322) "__getattribute__" = some (some (.builtin "type.__getattribute__"))),
  Hd.cfvQ K (.ref 322) (.type "type") "__init__" (.ref 276),
  PySem.W.readsIn K 389 (.type "type"),
  decide (PySem.W.specialIn K (.ref 389) "__getattribute__" = some (some (.builtin "type.__getattribute__"))),
  Hd.cfvQ K (.ref 389) (.type "type") "__init__" (.ref 370),
  Hd.cfiQ K (.ref 322) (.type "type") "LONGEST" 12,
  decide (PySem.W.nsIn K mainGlobals "WORDS" = some (some (.ref 262))),
  Hd.tsQ K 262 ["rank", "trim", "weigh", "together"],
  Hd.strQ K "LETTERS" "abcdefghijklmnopqrstuvwxyz",
  Hd.nsiQ K mainGlobals "LONGEST" 18,
  Hd.strQ K "DIGITS" "0123456789",
  decide (PySem.W.ks_superIn K 353 353 "__init__" = some (some (.ref 276))),
  decide (PySem.W.mroIn K 353 (.ref 353) = some true),
  decide (PySem.W.typeIn K (.ref 276) = some (.type "function")),
  PySem.W.fnIn K 276,
  decide (PySem.W.nsIn K mainGlobals "len" = some none),
  decide (PySem.W.nsIn K mainGlobals "int" = some none),
  decide (PySem.W.nsIn K mainGlobals "bool" = some none),
  decide (PySem.W.nsIn K mainGlobals "str" = some none),
  decide (PySem.W.nsIn K mainGlobals "isinstance" = some none)]
def hck10 (K : Frag) : List Bool := [decide (PySem.W.nsIn K mainGlobals "range" = some none),
  decide (PySem.W.nsIn K mainGlobals "max" = some none),
  decide (PySem.W.nsIn K mainGlobals "min" = some none),
  decide (PySem.W.nsIn K mainGlobals "abs" = some none),
  decide (PySem.W.nsIn K mainGlobals "sorted" = some none),
  decide (PySem.W.nsIn K mainGlobals "sum" = some none),
  decide (PySem.W.nsIn K mainGlobals "any" = some none),
  decide (PySem.W.nsIn K mainGlobals "all" = some none),
  decide (PySem.W.nsIn K mainGlobals "list" = some none),
  decide (PySem.W.nsIn K mainGlobals "dict" = some none),
  decide (PySem.W.nsIn K mainGlobals "tuple" = some none),
  decide (PySem.W.nsIn K mainGlobals "enumerate" = some none),
  decide (PySem.W.nsIn K mainGlobals "zip" = some none),
  decide (PySem.W.nsIn K mainGlobals "repr" = some none),
  decide (PySem.W.nsIn K mainGlobals "iter" = some none),
  decide (PySem.W.nsIn K mainGlobals "super" = some none)]
def hck (K : Frag) : List Bool := hck0 K ++ (hck1 K ++ (hck2 K ++ (hck3 K ++ (hck4 K ++ (hck5 K ++ (hck6 K ++ (hck7 K ++ (hck8 K ++ (hck9 K ++ (hck10 K))))))))))
def hfs (K : Frag) : List FnQ := [fnQ K 104, fnQ K 125, fnQ K 451, fnQ K 444, fnQ K 458, fnQ K 465, fnQ K 415, fnQ K 276, fnQ K 342, fnQ K 370, fnQ K 405, fnQ K 472, fnQ K 479, fnQ K 420, fnQ K 434, fnQ K 439, fnQ K 427, fnQ K 486, fnQ K 493, fnQ K 500]
def hvs : List FnQ := [fnV "__init__" "BadGauge.__init__" s_BadGauge_init [(("__class__" : Str), 92)] .none,
  fnV "__init__" "BadText.__init__" s_BadText_init [(("__class__" : Str), 113)] .none,
  fnV "_law_take" "_law_take" s_law_take [] .none,
  fnV "_law_box" "_law_box" s_law_box [] .none,
  fnV "_law_word" "_law_word" s_law_word [] .none,
  fnV "_law_words" "_law_words" s_law_words [] .none,
  fnV "valid_name" "valid_name" s_valid_name [] .none,
  fnV "__init__" "Gauge.__init__" s_Gauge_init [] .none,
  fnV "__init__" "CoarseGauge.__init__" s_CoarseGauge_init [(("__class__" : Str), 330)] .none,
  fnV "__init__" "LateGauge.__init__" s_LateGauge_init [] .none,
  fnV "__init__" "LateCoarseGauge.__init__" s_LateCoarseGauge_init [] .none,
  fnV "_law_specs" "_law_specs" s_law_specs [] .none,
  fnV "_law_gauge" "_law_gauge" s_law_gauge [] .none,
  fnV "read_number" "read_number" s_read_number [] .none,
  fnV "numbers_after" "numbers_after" s_numbers_after [] .none,
  fnV "read_gauge" "read_gauge" s_read_gauge [] .none,
  fnV "write_gauge" "write_gauge" s_write_gauge [] .none,
  fnV "_law_line" "_law_line" s_law_line [] .none,
  fnV "_law_read" "_law_read" s_law_read [] .none,
  fnV "law" "law" s_law [] .none]
abbrev hHk : Hook := hookF hAs hck hfs hvs
def hOb (s : SharedT) : Bool × List FnQ := obF hAs hck hfs (HandSHeadRun.getT s)
theorem hOb_eq (s : SharedT) : hOb s = hHk.obs s.abs := obF_eq s
set_option maxHeartbeats 0 in
theorem hRun (w : World) : HandSHeadRun.RunEq hR hQ hHk hOb 60000 hNames w := by
  intro os
  kernel_rfl
end G
set_option Elab.async false
set_option linter.all false
set_option maxRecDepth 100000
set_option maxHeartbeats 4000000
namespace G
open PySem L2

/-! ## Plain data -/
inductive Cl where
  | Stretch | Levels | Gauge | CoarseGauge | LateGauge | LateCoarseGauge | Rack | Rule | Leaf | Rank | Trim | Weigh | Miss | Case | Twins | Keeper | Desk | SteadyDesk | Finder
  deriving DecidableEq
inductive Ec where
  | GaugeError | BadStretch | NoLevel | Apart | BadNeed | BadLiars | BadGauge | DuplicateGauge | UnknownGauge | MissingReading | BadRule | BadText | BadLine | SharedFault | BadPaper | NoBound | BadLimit | NoCase | NoTruth | NoTick
  | NotPossible | NothingToUndo | NothingToRedo | NotRanked | NoRule
  deriving DecidableEq
inductive Fd where
  | low | high | pieces | name | radius | step | late | pace | gauges | groups | written | parts | ranked | place | cut | weights | above | below | level | readings | lot | reply
  | low_level | low_lot | high_level | high_lot | bound | order | gone | rack | start | rows | many | lines | past | future | rules | places | first | second | number | kind | text | line | row | tick
  deriving DecidableEq
def Fd.str : Fd → Str
  | .low => "low" | .high => "high" | .pieces => "pieces" | .name => "name" | .radius => "radius" | .step => "step" | .late => "late" | .pace => "pace" | .gauges => "gauges" | .groups => "groups"
  | .written => "written" | .parts => "parts" | .ranked => "ranked" | .place => "place" | .cut => "cut" | .weights => "weights" | .above => "above" | .below => "below" | .level => "level" | .readings => "readings"
  | .lot => "lot" | .reply => "reply" | .low_level => "low_level" | .low_lot => "low_lot" | .high_level => "high_level" | .high_lot => "high_lot" | .bound => "bound" | .order => "order" | .gone => "gone"
  | .rack => "rack" | .start => "start" | .rows => "rows" | .many => "many" | .lines => "lines" | .past => "past" | .future => "future" | .rules => "rules" | .places => "places" | .first => "first" | .second => "second"
  | .number => "number" | .kind => "kind" | .text => "text" | .line => "line" | .row => "row" | .tick => "tick"
def Fd.all : List Fd := [.low, .high, .pieces, .name, .radius, .step, .late, .pace, .gauges, .groups, .written, .parts, .ranked, .place, .cut, .weights, .above, .below, .level, .readings, .lot, .reply,
  .low_level, .low_lot, .high_level, .high_lot, .bound, .order, .gone, .rack, .start, .rows, .many, .lines, .past, .future, .rules, .places, .first, .second, .number, .kind, .text, .line, .row, .tick]
def Fd.of (x : Str) : Option Fd := Fd.all.find? fun f => decide (f.str = x)
theorem Fd.of_str (f : Fd) : Fd.of f.str = some f := by
  cases f <;> decide +kernel
theorem Fd.inj {f g : Fd} (h : f.str = g.str) : f = g := by
  have e := Fd.of_str f
  rw [h, Fd.of_str g] at e
  exact (Option.some.inj e).symm

inductive D where
  | non | bl (b : Bool) | int (i : Int) | str (x : Str)
  | lst (l : List D) | tup (l : List D) | obj (c : Cl) (fs : List Fd) (ds : List D) | dic (ks : List Key) (ds : List D)
  | ptr (a : Addr) | scr (ns : List Int) | cls (c : Cl) | xcp (a : Addr) (d : Option Addr) (fs : List Fd) (ds : List D)

/-- an error that flies: its class, its fields -/
structure Exn where
  c : Ec
  fs : List Fd
  ds : List D

/-- where the classes stand -/
structure Gm where
  K : PySem.W.Frag
  ca : Cl → Addr
  ea : Ec → Addr

def zipF (fs : List Fd) (vs : List V) : List (Str × V) := (fs.map Fd.str).zip vs
def zipK (ks : List Key) (vs : List V) : List (Key × V) := ks.zip vs
/-- the fields of an error stand in its dict -/
def XFs (F : Hp) (d : Option Addr) (fs : List Fd) (vs : List V) : Prop := (∀ dd, d = some dd → ∃ vfs, F dd = some (.xd vfs)) ∧ ∀ (f : Fd) (w : V), (zipF fs vs).lookup f.str = some w → ∃ a vfs, d = some a ∧ F a = some (.xd vfs) ∧ vfs.lookup f.str = some w
theorem XFs.mono {F F' : Hp} {d : Option Addr} {fs : List Fd} {vs : List V} (h : XFs F d fs vs) (e : Same F F') : XFs F' d fs vs := ⟨fun dd q => by
  obtain ⟨vfs, h1⟩ := h.1 dd q
  exact ⟨vfs, e _ _ h1⟩, fun f w q => by
  obtain ⟨a, vfs, h1, h2, h3⟩ := h.2 f w q
  exact ⟨a, vfs, h1, e _ _ h2, h3⟩⟩

mutual
def Rep (g : Gm) (F : Hp) : D → V → Prop
  | .non, v => v = .non
  | .bl b, v => v = .bl b
  | .int i, v => v = .int i
  | .str x, v => v = .str x
  | .ptr a, v => v = .ref a
  | .cls c, v => v = .ref (g.ca c)
  | .scr ns, v => ∃ p, v = .ref p ∧ SqL g.K F p (ns.map V.int)
  | .lst ds, v => ∃ p vs, v = .ref p ∧ F p = some (.lst vs) ∧ Reps g F ds vs
  | .tup ds, v => ∃ p vs, v = .ref p ∧ (F p = some (.tup vs) ∨ vs = [] ∧ SqT g.K F p []) ∧ Reps g F ds vs
  | .obj c fs ds, v => ∃ p dx vs, v = .ref p ∧ F p = some (.ins (g.ca c) dx (zipF fs vs)) ∧ fs.length = ds.length ∧ Reps g F ds vs
  | .dic ks ds, v => ∃ p od vs, v = .ref p ∧ F p = some (.frz od (.dK (zipK ks vs))) ∧ ks.length = ds.length ∧ Reps g F ds vs
  | .xcp a d fs ds, v => v = .ref a ∧ ∃ vs, XFs F d fs vs ∧ Reps g F ds vs
def Reps (g : Gm) (F : Hp) : List D → List V → Prop
  | [], [] => True
  | d :: ds, v :: vs => Rep g F d v ∧ Reps g F ds vs
  | _, _ => False
end

theorem sqt_same {K : PySem.W.Frag} {H H' : Hp} {a : Addr} {xs : List V} (e : Same H H') (h : SqT K H a xs) : SqT K H' a xs := by
  rcases h with (h | ⟨o, h⟩) | h
  · exact .inl (.inl (e _ _ h))
  · exact .inl (.inr ⟨o, e _ _ h⟩)
  · exact .inr h

mutual
theorem Rep.mono {g : Gm} {F F' : Hp} (e : Same F F') : ∀ {d : D} {v : V}, Rep g F d v → Rep g F' d v
  | .non, _, h => by simpa only [Rep] using h
  | .bl _, _, h => by simpa only [Rep] using h
  | .int _, _, h => by simpa only [Rep] using h
  | .str _, _, h => by simpa only [Rep] using h
  | .ptr _, _, h => by simpa only [Rep] using h
  | .cls _, _, h => by simpa only [Rep] using h
  | .lst ds, v, h => by
    simp only [Rep] at h ⊢
    obtain ⟨p, vs, h1, h2, h3⟩ := h
    exact ⟨p, vs, h1, e _ _ h2, Reps.mono e h3⟩
  | .scr ns, v, h => by
    simp only [Rep] at h ⊢
    obtain ⟨p, h1, h2⟩ := h
    exact ⟨p, h1, e.seq h2⟩
  | .tup ds, v, h => by
    simp only [Rep] at h ⊢
    obtain ⟨p, vs, h1, h2, h3⟩ := h
    exact ⟨p, vs, h1, h2.imp (e _ _) fun z => ⟨z.1, sqt_same e z.2⟩, Reps.mono e h3⟩
  | .obj c fs ds, v, h => by
    simp only [Rep] at h ⊢
    obtain ⟨p, dx, vs, h1, h2, h3, h4⟩ := h
    exact ⟨p, dx, vs, h1, e _ _ h2, h3, Reps.mono e h4⟩
  | .dic ks ds, v, h => by
    simp only [Rep] at h ⊢
    obtain ⟨p, od, vs, h1, h2, h3, h4⟩ := h
    exact ⟨p, od, vs, h1, e _ _ h2, h3, Reps.mono e h4⟩
  | .xcp a d fs ds, v, h => by
    simp only [Rep] at h ⊢
    obtain ⟨h1, vs, h2, h3⟩ := h
    exact ⟨h1, vs, h2.mono e, Reps.mono e h3⟩
theorem Reps.mono {g : Gm} {F F' : Hp} (e : Same F F') : ∀ {ds : List D} {vs : List V}, Reps g F ds vs → Reps g F' ds vs
  | [], [], h => by simp only [Reps]
  | d :: ds, v :: vs, h => by
    simp only [Reps] at h ⊢
    exact ⟨Rep.mono e h.1, Reps.mono e h.2⟩
  | [], _ :: _, h => by simp only [Reps] at h
  | _ :: _, [], h => by simp only [Reps] at h
end

section
variable {g : Gm} {F : Hp}
theorem Rep.non_iff {v : V} : Rep g F .non v ↔ v = .non := by simp only [Rep]
theorem Rep.bl_iff {b : Bool} {v : V} : Rep g F (.bl b) v ↔ v = .bl b := by simp only [Rep]
theorem Rep.int_iff {i : Int} {v : V} : Rep g F (.int i) v ↔ v = .int i := by simp only [Rep]
theorem Rep.str_iff {x : Str} {v : V} : Rep g F (.str x) v ↔ v = .str x := by simp only [Rep]
theorem Rep.ptr_iff {a : Addr} {v : V} : Rep g F (.ptr a) v ↔ v = .ref a := by simp only [Rep]
theorem Rep.scr_iff {ns : List Int} {v : V} : Rep g F (.scr ns) v ↔ ∃ p, v = .ref p ∧ SqL g.K F p (ns.map V.int) := by simp only [Rep]
theorem Rep.lst_iff {ds : List D} {v : V} : Rep g F (.lst ds) v ↔ ∃ p vs, v = .ref p ∧ F p = some (.lst vs) ∧ Reps g F ds vs := by simp only [Rep]
theorem Rep.tup_iff {ds : List D} {v : V} : Rep g F (.tup ds) v ↔ ∃ p vs, v = .ref p ∧ (F p = some (.tup vs) ∨ vs = [] ∧ SqT g.K F p []) ∧ Reps g F ds vs := by simp only [Rep]
theorem Rep.tup_sq {ds : List D} {v : V} (h : Rep g F (.tup ds) v) : ∃ p vs, v = .ref p ∧ SqT g.K F p vs ∧ Reps g F ds vs := by
  obtain ⟨p, vs, h1, h2, h3⟩ := Rep.tup_iff.mp h
  rcases h2 with h2 | ⟨rfl, h2⟩
  · exact ⟨p, vs, h1, SqT.of h2, h3⟩
  · exact ⟨p, [], h1, h2, h3⟩
theorem Rep.obj_iff {c : Cl} {fs : List Fd} {ds : List D} {v : V} : Rep g F (.obj c fs ds) v ↔ ∃ p dx vs, v = .ref p ∧ F p = some (.ins (g.ca c) dx (zipF fs vs)) ∧ fs.length = ds.length ∧ Reps g F ds vs := by simp only [Rep]
theorem Rep.dic_iff {ks : List Key} {ds : List D} {v : V} : Rep g F (.dic ks ds) v ↔ ∃ p od vs, v = .ref p ∧ F p = some (.frz od (.dK (zipK ks vs))) ∧ ks.length = ds.length ∧ Reps g F ds vs := by simp only [Rep]
theorem Rep.xcp_iff {a : Addr} {d : Option Addr} {fs : List Fd} {ds : List D} {v : V} : Rep g F (.xcp a d fs ds) v ↔ v = .ref a ∧ ∃ vs, XFs F d fs vs ∧ Reps g F ds vs := by simp only [Rep]
theorem Reps.nil : Reps g F [] [] := by simp only [Reps]
theorem Reps.cons {d : D} {v : V} {ds : List D} {vs : List V} (h : Rep g F d v) (r : Reps g F ds vs) : Reps g F (d :: ds) (v :: vs) := by
  simp only [Reps]
  exact ⟨h, r⟩
theorem Reps.nil_iff {vs : List V} : Reps g F [] vs ↔ vs = [] := by
  cases vs <;> simp only [Reps, reduceCtorEq]
theorem Reps.cons_iff {d : D} {ds : List D} {vs : List V} : Reps g F (d :: ds) vs ↔ ∃ v r, vs = v :: r ∧ Rep g F d v ∧ Reps g F ds r := by
  cases vs with
  | nil => simp [Reps]
  | cons v r =>
    simp only [Reps]
    constructor
    · intro h
      exact ⟨v, r, rfl, h.1, h.2⟩
    · rintro ⟨v1, r1, e, h1, h2⟩
      cases e
      exact ⟨h1, h2⟩
theorem Reps.length {ds : List D} : ∀ {vs : List V}, Reps g F ds vs → ds.length = vs.length := by
  induction ds with
  | nil =>
    intro vs h
    rw [Reps.nil_iff] at h
    rw [h]
    rfl
  | cons d ds ih =>
    intro vs h
    obtain ⟨v, r, rfl, _, h2⟩ := Reps.cons_iff.mp h
    rw [List.length_cons, List.length_cons, ih h2]
theorem Reps.get {ds : List D} : ∀ {vs : List V} {i : Nat} {d : D}, Reps g F ds vs → ds[i]? = some d → ∃ v, vs[i]? = some v ∧ Rep g F d v := by
  induction ds with
  | nil =>
    intro vs i d h e
    simp at e
  | cons d0 ds ih =>
    intro vs i d h e
    obtain ⟨v, r, rfl, h1, h2⟩ := Reps.cons_iff.mp h
    cases i with
    | zero =>
      simp at e
      subst e
      exact ⟨v, rfl, h1⟩
    | succ i =>
      simp at e
      obtain ⟨w, q1, q2⟩ := ih h2 e
      exact ⟨w, by simpa using q1, q2⟩
theorem Reps.append {ds es : List D} : ∀ {vs ws : List V}, Reps g F ds vs → Reps g F es ws → Reps g F (ds ++ es) (vs ++ ws) := by
  induction ds with
  | nil =>
    intro vs ws h h'
    rw [Reps.nil_iff] at h
    subst h
    exact h'
  | cons d ds ih =>
    intro vs ws h h'
    obtain ⟨v, r, rfl, h1, h2⟩ := Reps.cons_iff.mp h
    exact Reps.cons h1 (ih h2 h')
theorem Reps.take {ds : List D} : ∀ {vs : List V} (n : Nat), Reps g F ds vs → Reps g F (ds.take n) (vs.take n) := by
  induction ds with
  | nil =>
    intro vs n h
    rw [Reps.nil_iff] at h
    subst h
    simpa using Reps.nil
  | cons d ds ih =>
    intro vs n h
    obtain ⟨v, r, rfl, h1, h2⟩ := Reps.cons_iff.mp h
    cases n with
    | zero => exact Reps.nil
    | succ n => exact Reps.cons h1 (ih n h2)
theorem Reps.drop {ds : List D} : ∀ {vs : List V} (n : Nat), Reps g F ds vs → Reps g F (ds.drop n) (vs.drop n) := by
  induction ds with
  | nil =>
    intro vs n h
    rw [Reps.nil_iff] at h
    subst h
    simpa using Reps.nil
  | cons d ds ih =>
    intro vs n h
    obtain ⟨v, r, rfl, h1, h2⟩ := Reps.cons_iff.mp h
    cases n with
    | zero => exact Reps.cons h1 h2
    | succ n => exact ih n h2
theorem Reps.set {ds : List D} {d : D} {v : V} (hv : Rep g F d v) : ∀ {vs : List V} (n : Nat), Reps g F ds vs → Reps g F (ds.set n d) (vs.set n v) := by
  induction ds with
  | nil =>
    intro vs n h
    rw [Reps.nil_iff] at h
    subst h
    exact Reps.nil
  | cons d0 ds ih =>
    intro vs n h
    obtain ⟨w, r, rfl, h1, h2⟩ := Reps.cons_iff.mp h
    cases n with
    | zero => exact Reps.cons hv h2
    | succ n => exact Reps.cons h1 (ih n h2)
theorem Reps.reverse {ds : List D} : ∀ {vs : List V}, Reps g F ds vs → Reps g F ds.reverse vs.reverse := by
  induction ds with
  | nil =>
    intro vs h
    rw [Reps.nil_iff] at h
    subst h
    exact Reps.nil
  | cons d ds ih =>
    intro vs h
    obtain ⟨v, r, rfl, h1, h2⟩ := Reps.cons_iff.mp h
    rw [List.reverse_cons, List.reverse_cons]
    exact (ih h2).append (Reps.cons h1 Reps.nil)
theorem Reps.one {d : D} {v : V} (h : Rep g F d v) : Reps g F [d] [v] := Reps.cons h Reps.nil
theorem Reps.split {ds es : List D} : ∀ {vs : List V}, Reps g F (ds ++ es) vs → ∃ v1 v2, vs = v1 ++ v2 ∧ Reps g F ds v1 ∧ Reps g F es v2 := by
  induction ds with
  | nil =>
    intro vs h
    exact ⟨[], vs, rfl, Reps.nil, h⟩
  | cons d ds ih =>
    intro vs h
    obtain ⟨v, r, rfl, h1, h2⟩ := Reps.cons_iff.mp h
    obtain ⟨v1, v2, rfl, q1, q2⟩ := ih h2
    exact ⟨v :: v1, v2, rfl, Reps.cons h1 q1, q2⟩
theorem Reps.ints {ns : List Int} : ∀ {vs : List V}, Reps g F (ns.map D.int) vs ↔ vs = ns.map V.int := by
  induction ns with
  | nil => intro vs; exact Reps.nil_iff
  | cons n ns ih =>
    intro vs
    rw [List.map_cons, Reps.cons_iff]
    constructor
    · rintro ⟨v, r, rfl, h1, h2⟩
      rw [Rep.int_iff] at h1
      rw [ih] at h2
      rw [h1, h2]
      rfl
    · intro e
      subst e
      exact ⟨_, _, rfl, Rep.int_iff.mpr rfl, ih.mpr rfl⟩
theorem Reps.strs {ns : List Str} : ∀ {vs : List V}, Reps g F (ns.map D.str) vs ↔ vs = ns.map V.str := by
  induction ns with
  | nil => intro vs; exact Reps.nil_iff
  | cons n ns ih =>
    intro vs
    rw [List.map_cons, Reps.cons_iff]
    constructor
    · rintro ⟨v, r, rfl, h1, h2⟩
      rw [Rep.str_iff] at h1
      rw [ih] at h2
      rw [h1, h2]
      rfl
    · intro e
      subst e
      exact ⟨_, _, rfl, Rep.str_iff.mpr rfl, ih.mpr rfl⟩
theorem Reps.bls {ns : List Bool} : ∀ {vs : List V}, Reps g F (ns.map D.bl) vs ↔ vs = ns.map V.bl := by
  induction ns with
  | nil => intro vs; exact Reps.nil_iff
  | cons n ns ih =>
    intro vs
    rw [List.map_cons, Reps.cons_iff]
    constructor
    · rintro ⟨v, r, rfl, h1, h2⟩
      rw [Rep.bl_iff] at h1
      rw [ih] at h2
      rw [h1, h2]
      rfl
    · intro e
      subst e
      exact ⟨_, _, rfl, Rep.bl_iff.mpr rfl, ih.mpr rfl⟩
end

/-! ## fields -/
def getF (f : Fd) : List Fd → List D → Option D
  | h :: hs, d :: ds => if f = h then some d else getF f hs ds
  | _, _ => none
/-- a store into a field: the names, the values -/
def putFs (f : Fd) : List Fd → List Fd
  | [] => [f]
  | h :: hs => if f = h then h :: hs else h :: putFs f hs
def putDs (f : Fd) (d : D) : List Fd → List D → List D
  | h :: hs, e :: es => if f = h then d :: es else e :: putDs f d hs es
  | _, _ => [d]
theorem zipF_cons {h : Fd} {hs : List Fd} {v : V} {vs : List V} : zipF (h :: hs) (v :: vs) = (h.str, v) :: zipF hs vs := rfl
theorem getF_look {g : Gm} {F : Hp} {f : Fd} : ∀ {fs : List Fd} {ds : List D} {vs : List V} {d : D}, Reps g F ds vs → getF f fs ds = some d → ∃ v, (zipF fs vs).lookup f.str = some v ∧ Rep g F d v := by
  intro fs
  induction fs with
  | nil =>
    intro ds vs d h e
    cases ds <;> simp [getF] at e
  | cons h0 hs ih =>
    intro ds vs d h e
    cases ds with
    | nil => simp [getF] at e
    | cons d0 ds =>
      obtain ⟨v, r, rfl, h1, h2⟩ := Reps.cons_iff.mp h
      rw [zipF_cons, List.lookup_cons]
      by_cases q : f = h0
      · subst q
        simp [getF] at e
        subst e
        exact ⟨v, by simp, h1⟩
      · have q' : (f.str == h0.str) = false := by
          rw [beq_eq_false_iff_ne]
          exact fun z => q (Fd.inj z)
        rw [q']
        simp [getF, q] at e
        exact ih h2 e
theorem getF_none {f : Str} : ∀ {fs : List Fd} {vs : List V}, (∀ h ∈ fs, ¬ f = h.str) → (zipF fs vs).lookup f = none := by
  intro fs
  induction fs with
  | nil => intro vs _; rfl
  | cons h0 hs ih =>
    intro vs hn
    cases vs with
    | nil => rfl
    | cons v vs =>
      rw [zipF_cons, List.lookup_cons]
      have q' : (f == h0.str) = false := by
        rw [beq_eq_false_iff_ne]
        exact hn h0 List.mem_cons_self
      rw [q']
      exact ih fun h hh => hn h (List.mem_cons_of_mem _ hh)
theorem putF_zip {g : Gm} {F : Hp} {f : Fd} {d : D} {v : V} (hv : Rep g F d v) : ∀ {fs : List Fd} {ds : List D} {vs : List V}, fs.length = ds.length → Reps g F ds vs →
    ∃ ws, L2.putF f.str v (zipF fs vs) = zipF (putFs f fs) ws ∧ Reps g F (putDs f d fs ds) ws ∧ (putFs f fs).length = (putDs f d fs ds).length := by
  intro fs
  induction fs with
  | nil =>
    intro ds vs hl h
    cases ds with
    | nil =>
      rw [Reps.nil_iff] at h
      subst h
      exact ⟨[v], rfl, Reps.one hv, rfl⟩
    | cons d0 ds => simp at hl
  | cons h0 hs ih =>
    intro ds vs hl h
    cases ds with
    | nil => simp at hl
    | cons d0 ds =>
      obtain ⟨v0, r, rfl, h1, h2⟩ := Reps.cons_iff.mp h
      rw [zipF_cons]
      by_cases q : f = h0
      · subst q
        refine ⟨v :: r, ?_, ?_, ?_⟩
        · show (if f.str = f.str then _ else _) = _
          rw [if_pos rfl]
          simp [putFs, zipF_cons]
        · simp [putDs]
          exact Reps.cons hv h2
        · simp [putFs, putDs]
          simpa using hl
      · have hl' : hs.length = ds.length := by simpa using hl
        obtain ⟨ws, e1, e2, e3⟩ := ih hl' h2
        refine ⟨v0 :: ws, ?_, ?_, ?_⟩
        · show (if h0.str = f.str then _ else _) = _
          rw [if_neg (fun z => q (Fd.inj z).symm), e1]
          simp [putFs, q, zipF_cons]
        · simp [putDs, q]
          exact Reps.cons h1 e2
        · simp [putFs, putDs, q]
          exact e3

/-! ## owned cells -/
inductive Cell where
  | lst (ds : List D) | ins (c : Cl) (fs : List Fd) (ds : List D) | dic (ks : List Key) (ds : List D) | box
abbrev Sto := List (Addr × Cell)
def CRep (g : Gm) (F : Hp) : Cell → HO → Prop
  | .lst ds, .lst vs => Reps g F ds vs
  | .ins c fs ds, .ins C _ vfs => C = g.ca c ∧ fs.length = ds.length ∧ ∃ vs, vfs = zipF fs vs ∧ Reps g F ds vs
  | .dic ks ds, .dK kvs => ks.length = ds.length ∧ ∃ vs, kvs = zipK ks vs ∧ Reps g F ds vs
  | .box, .lst vs => ∃ (cs : List Int) (i a s : Int), Reps g F [.lst (cs.map D.int), .int i, .int a, .int s] vs ∧ cs.length ≤ 63 ∧ 0 ≤ i ∧ 0 ≤ a
  | _, _ => False
theorem CRep.mono {g : Gm} {F F' : Hp} (e : Same F F') : ∀ {c : Cell} {o : HO}, CRep g F c o → CRep g F' c o := by
  intro c o h
  cases c with
  | lst ds => cases o <;> first | exact Reps.mono e h | exact h.elim
  | ins c fs ds =>
    cases o with
    | ins C dx vfs =>
      obtain ⟨h1, h2, vs, h3, h4⟩ := h
      exact ⟨h1, h2, vs, h3, Reps.mono e h4⟩
    | _ => exact h.elim
  | dic ks ds =>
    cases o with
    | dK kvs =>
      obtain ⟨h2, vs, h3, h4⟩ := h
      exact ⟨h2, vs, h3, Reps.mono e h4⟩
    | _ => exact h.elim
  | box =>
    cases o with
    | lst vs =>
      obtain ⟨cs, i, a, s, h1, h2⟩ := h
      exact ⟨cs, i, a, s, Reps.mono e h1, h2⟩
    | _ => exact h.elim

def getC : Sto → Addr → Option Cell
  | [], _ => none
  | (b, c) :: r, a => if a = b then some c else getC r a
def setC : Sto → Addr → Cell → Sto
  | [], _, _ => []
  | (b, c0) :: r, a, c => if a = b then (b, c) :: r else (b, c0) :: setC r a c
def delC : Sto → Addr → Sto
  | [], _ => []
  | (b, c0) :: r, a => if a = b then r else (b, c0) :: delC r a
def freshC (O : Sto) (p : Addr) : Prop := ∀ q ∈ O, q.1 ≠ p

structure Wd (g : Gm) (F : Hp) (O : Sto) (H : Hp) : Prop where
  same : Same F H
  nd : (O.map (·.1)).Nodup
  cel : ∀ q ∈ O, F q.1 = none ∧ ∃ o, H q.1 = some o ∧ CRep g F q.2 o

theorem getC_mem {O : Sto} {a : Addr} {c : Cell} (h : getC O a = some c) : (a, c) ∈ O := by
  induction O with
  | nil => simp [getC] at h
  | cons q r ih =>
    obtain ⟨b, c0⟩ := q
    simp only [getC] at h
    by_cases e : a = b
    · subst e
      simp at h
      subst h
      exact List.mem_cons_self
    · rw [if_neg e] at h
      exact List.mem_cons_of_mem _ (ih h)
theorem same_upd {H : Hp} {p : Addr} {o : HO} (h : H p = none) : Same H (upd H p o) := fun a u e => by
  rw [upd_ne (ne_of_none e h)]
  exact e
theorem same_upd2 {F H : Hp} {p : Addr} {o : HO} (s : Same F H) (h : H p = none) : Same (upd F p o) (upd H p o) := fun a u e => by
  by_cases q : a = p
  · subst q
    rw [upd_same] at e ⊢
    exact e
  · rw [upd_ne q] at e ⊢
    exact s _ _ e
section
variable {g : Gm} {F : Hp} {O : Sto} {H : Hp}
theorem Wd.get (w : Wd g F O H) {a : Addr} {c : Cell} (h : getC O a = some c) : F a = none ∧ ∃ o, H a = some o ∧ CRep g F c o := w.cel _ (getC_mem h)
theorem Wd.fresh (w : Wd g F O H) {p : Addr} (h : H p = none) : freshC O p := fun q hq e => by
  obtain ⟨_, o, ho, _⟩ := w.cel q hq
  rw [e, h] at ho
  cases ho
/-- a new thing that stays as it is -/
theorem Wd.frozen (w : Wd g F O H) {p : Addr} {o : HO} (h : H p = none) : Wd g (upd F p o) O (upd H p o) := by
  have fp : F p = none := w.same.free h
  refine ⟨same_upd2 w.same h, w.nd, fun q hq => ?_⟩
  obtain ⟨h1, u, h2, h3⟩ := w.cel q hq
  have ne : q.1 ≠ p := ne_of_none h2 h
  exact ⟨by rw [upd_ne ne]; exact h1, u, by rw [upd_ne ne]; exact h2, h3.mono (same_upd fp)⟩
theorem Wd.fsame (w : Wd g F O H) {p : Addr} {o : HO} (h : H p = none) : Same F (upd F p o) := same_upd (w.same.free h)
/-- a new thing that is owned -/
theorem Wd.own (w : Wd g F O H) {p : Addr} {o : HO} {c : Cell} (h : H p = none) (hc : CRep g F c o) : Wd g F ((p, c) :: O) (upd H p o) := by
  refine ⟨w.same.trans (same_upd h), ?_, fun q hq => ?_⟩
  · rw [List.map_cons, List.nodup_cons]
    refine ⟨fun hm => ?_, w.nd⟩
    obtain ⟨q, hq, e⟩ := List.mem_map.mp hm
    exact w.fresh h q hq e
  · rcases List.mem_cons.mp hq with e | hq
    · subst e
      exact ⟨w.same.free h, o, upd_same, hc⟩
    · obtain ⟨h1, u, h2, h3⟩ := w.cel q hq
      exact ⟨h1, u, by rw [upd_ne (ne_of_none h2 h)]; exact h2, h3⟩
theorem setC_keys (O : Sto) (a : Addr) (c : Cell) : (setC O a c).map (·.1) = O.map (·.1) := by
  induction O with
  | nil => rfl
  | cons q r ih =>
    obtain ⟨b, c0⟩ := q
    simp only [setC]
    by_cases e : a = b
    · rw [if_pos e]
      rfl
    · rw [if_neg e]
      simp [ih]
theorem setC_mem : ∀ {O : Sto} {a : Addr} {c : Cell} {q : Addr × Cell}, (O.map (·.1)).Nodup → q ∈ setC O a c → q = (a, c) ∨ (q ∈ O ∧ q.1 ≠ a) := by
  intro O
  induction O with
  | nil => intro a c q _ h; simp [setC] at h
  | cons p r ih =>
    obtain ⟨b, c0⟩ := p
    intro a c q nd h
    rw [List.map_cons, List.nodup_cons] at nd
    simp only [setC] at h
    by_cases e : a = b
    · rw [if_pos e] at h
      rcases List.mem_cons.mp h with z | z
      · rw [e]
        exact .inl z
      · refine .inr ⟨List.mem_cons_of_mem _ z, fun y => nd.1 ?_⟩
        show b ∈ _
        rw [← e, ← y]
        exact List.mem_map_of_mem z
    · rw [if_neg e] at h
      rcases List.mem_cons.mp h with z | z
      · refine .inr ⟨by rw [z]; exact List.mem_cons_self, ?_⟩
        rw [z]
        exact fun y => e y.symm
      · rcases ih nd.2 z with y | ⟨y1, y2⟩
        · exact .inl y
        · exact .inr ⟨List.mem_cons_of_mem _ y1, y2⟩
/-- an owned thing changes -/
theorem Wd.set (w : Wd g F O H) {a : Addr} {c c' : Cell} {o : HO} (h : getC O a = some c) (hc : CRep g F c' o) : Wd g F (setC O a c') (upd H a o) := by
  obtain ⟨fa, _⟩ := w.get h
  refine ⟨fun b u e => ?_, by rw [setC_keys]; exact w.nd, fun q hq => ?_⟩
  · rw [upd_ne (ne_of_none e fa)]
    exact w.same _ _ e
  · rcases setC_mem w.nd hq with e | ⟨e1, e2⟩
    · subst e
      exact ⟨fa, o, upd_same, hc⟩
    · obtain ⟨h1, u, h2, h3⟩ := w.cel q e1
      exact ⟨h1, u, by rw [upd_ne e2]; exact h2, h3⟩
theorem Wd.sub (w : Wd g F O H) {O' : Sto} (s : O'.Sublist O) : Wd g F O' H :=
  ⟨w.same, (s.map _).nodup w.nd, fun q hq => w.cel q (s.subset hq)⟩
theorem delC_sub (O : Sto) (a : Addr) : (delC O a).Sublist O := by
  induction O with
  | nil => exact .slnil
  | cons p r ih =>
    obtain ⟨b, c0⟩ := p
    simp only [delC]
    by_cases e : a = b
    · rw [if_pos e]
      exact List.sublist_cons_self _ _
    · rw [if_neg e]
      exact ih.cons_cons _
theorem delC_ne : ∀ {O : Sto} {a : Addr} {q : Addr × Cell}, (O.map (·.1)).Nodup → q ∈ delC O a → q.1 ≠ a := by
  intro O
  induction O with
  | nil => intro a q _ h; simp [delC] at h
  | cons p r ih =>
    obtain ⟨b, c0⟩ := p
    intro a q nd h
    rw [List.map_cons, List.nodup_cons] at nd
    simp only [delC] at h
    by_cases e : a = b
    · rw [if_pos e] at h
      intro y
      refine nd.1 ?_
      show b ∈ _
      rw [← e, ← y]
      exact List.mem_map_of_mem h
    · rw [if_neg e] at h
      rcases List.mem_cons.mp h with z | z
      · rw [z]
        exact fun y => e y.symm
      · exact ih nd.2 z
/-- an owned thing is let go: from now on it stays as it is -/
theorem Wd.freeze (w : Wd g F O H) {a : Addr} {c : Cell} (h : getC O a = some c) : ∃ o, H a = some o ∧ CRep g F c o ∧ Same F (upd F a o) ∧ Wd g (upd F a o) (delC O a) H := by
  obtain ⟨fa, o, ho, hc⟩ := w.get h
  refine ⟨o, ho, hc, same_upd fa, fun b u e => ?_, (w.sub (delC_sub O a)).nd, fun q hq => ?_⟩
  · by_cases z : b = a
    · subst z
      rw [upd_same] at e
      cases e
      exact ho
    · rw [upd_ne z] at e
      exact w.same _ _ e
  · obtain ⟨h1, u, h2, h3⟩ := w.cel q ((delC_sub O a).subset hq)
    have ne : q.1 ≠ a := delC_ne w.nd hq
    exact ⟨by rw [upd_ne ne]; exact h1, u, h2, h3.mono (same_upd fa)⟩
/-- an owned dict is let go: from now on it stays as it is, locked -/
theorem Wd.freezeL (w : Wd g F O H) {a : Addr} {ks : List Key} {ds : List D} (h : getC O a = some (.dic ks ds)) : ∃ vs, H a = some (.dK (zipK ks vs)) ∧ ∀ od, Same F (upd F a (.frz od (.dK (zipK ks vs)))) ∧ Wd g (upd F a (.frz od (.dK (zipK ks vs)))) (delC O a) (upd H a (.frz od (.dK (zipK ks vs)))) ∧ Rep g (upd F a (.frz od (.dK (zipK ks vs)))) (.dic ks ds) (.ref a) := by
  obtain ⟨fa, o, ho, hc⟩ := w.get h
  cases o with
  | dK kvs =>
    obtain ⟨h2, vs, rfl, h4⟩ := hc
    refine ⟨vs, ho, fun od => ⟨same_upd fa, ⟨fun b u e => ?_, (w.sub (delC_sub O a)).nd, fun q hq => ?_⟩, Rep.dic_iff.mpr ⟨a, od, vs, rfl, upd_same, h2, h4.mono (same_upd fa)⟩⟩⟩
    · by_cases z : b = a
      · subst z
        rw [upd_same] at e ⊢
        exact e
      · rw [upd_ne z] at e ⊢
        exact w.same _ _ e
    · obtain ⟨h1, u, h2, h3⟩ := w.cel q ((delC_sub O a).subset hq)
      have ne : q.1 ≠ a := delC_ne w.nd hq
      exact ⟨by rw [upd_ne ne]; exact h1, u, by rw [upd_ne ne]; exact h2, h3.mono (same_upd fa)⟩
  | _ => exact hc.elim
end
end G

set_option Elab.async false
set_option linter.all false
set_option maxRecDepth 100000
set_option maxHeartbeats 4000000
namespace G
open PySem L2

/-! ## transformers over plain data -/
abbrev Sl := List (Option D)
abbrev KD := D → Sto → Prop
abbrev KX := Exn → Sto → Prop
abbrev DE := Sl → Sto → KD → KX → Prop
abbrev DT := Sl → Sto → (Bool → Sto → Prop) → KX → Prop
abbrev DA := Sl → Sto → (List D → Sto → Prop) → KX → Prop
structure DEnds where
  nx : Sl → Sto → Prop
  rt : KD
  bk : Sl → Sto → Prop := fun _ _ => False
  ct : Sl → Sto → Prop := fun _ _ => False
  xc : Exn → Sl → Sto → Prop := fun _ _ _ => False
abbrev DS := DEnds → Sl → Sto → Prop

def SRel (g : Gm) (F : Hp) (σ : St) (Δ : Sl) : Prop := σ.length = Δ.length ∧ ∀ (i : Nat) (d : D), Δ[i]? = some (some d) → ∃ v, σ[i]? = some (some v) ∧ Rep g F d v
theorem SRel.mono {g : Gm} {F F' : Hp} {σ : St} {Δ : Sl} (h : SRel g F σ Δ) (e : Same F F') : SRel g F' σ Δ := ⟨h.1, fun i d q => by
  obtain ⟨v, h1, h2⟩ := h.2 i d q
  exact ⟨v, h1, h2.mono e⟩⟩
theorem SRel.set {g : Gm} {F : Hp} {σ : St} {Δ : Sl} (h : SRel g F σ Δ) {d : D} {v : V} (hv : Rep g F d v) (i : Nat) : SRel g F (σ.set i (some v)) (Δ.set i (some d)) := by
  refine ⟨by rw [List.length_set, List.length_set, h.1], fun j e q => ?_⟩
  rw [List.getElem?_set] at q ⊢
  by_cases z : i = j
  · subst z
    rw [if_pos rfl] at q ⊢
    by_cases y : i < Δ.length
    · rw [if_pos y] at q
      rw [if_pos (by rw [h.1]; exact y)]
      cases q
      exact ⟨v, rfl, hv⟩
    · rw [if_neg y] at q
      cases q
  · rw [if_neg z] at q ⊢
    exact h.2 j e q

def RelX (g : Gm) (F : Hp) (cls : Value) (dd : Option Addr) (x : Exn) : Prop := cls = .ref (g.ea x.c) ∧ ∃ vs, XFs F dd x.fs vs ∧ Reps g F x.ds vs
theorem RelX.mono {g : Gm} {F F' : Hp} {cls : Value} {dd : Option Addr} {x : Exn} (h : RelX g F cls dd x) (e : Same F F') : RelX g F' cls dd x := by
  obtain ⟨h1, vs, h2, h3⟩ := h
  exact ⟨h1, vs, h2.mono e, h3.mono e⟩

/-- what is wanted of an error, over plain data and over the heap -/
def XOk (g : Gm) (F : Hp) (W : WX) (σ : St) (E : KX) : Prop := ∀ x O cls dd F' H, E x O → Same F F' → Wd g F' O H → RelX g F' cls dd x → W cls dd σ H
theorem XOk.mono {g : Gm} {F F' : Hp} {W : WX} {σ : St} {E : KX} (h : XOk g F W σ E) (e : Same F F') : XOk g F' W σ E := fun x O cls dd F1 H q s w r => h x O cls dd F1 H q (e.trans s) w r
def VOk (g : Gm) (F : Hp) (P : KD) (Q : VK) : Prop := ∀ d O v F' H, P d O → Same F F' → Wd g F' O H → Rep g F' d v → Q v H
theorem VOk.mono {g : Gm} {F F' : Hp} {P : KD} {Q : VK} (h : VOk g F P Q) (e : Same F F') : VOk g F' P Q := fun d O v F1 H q s w r => h d O v F1 H q (e.trans s) w r
def BOk (g : Gm) (F : Hp) (P : Bool → Sto → Prop) (Q : Bool → Hp → Prop) : Prop := ∀ b O F' H, P b O → Same F F' → Wd g F' O H → Q b H
theorem BOk.mono {g : Gm} {F F' : Hp} {P : Bool → Sto → Prop} {Q : Bool → Hp → Prop} (h : BOk g F P Q) (e : Same F F') : BOk g F' P Q := fun d O F1 H q s w => h d O F1 H q (e.trans s) w
def AOk (g : Gm) (F : Hp) (P : List D → Sto → Prop) (Q : List V → Hp → Prop) : Prop := ∀ ds O vs F' H, P ds O → Same F F' → Wd g F' O H → Reps g F' ds vs → Q vs H
theorem AOk.mono {g : Gm} {F F' : Hp} {P : List D → Sto → Prop} {Q : List V → Hp → Prop} (h : AOk g F P Q) (e : Same F F') : AOk g F' P Q := fun d O v F1 H q s w r => h d O v F1 H q (e.trans s) w r

def le (g : Gm) (W : WX) (T : DE) : TE := fun σ H Q => ∃ Δ O P E F, T Δ O P E ∧ SRel g F σ Δ ∧ Wd g F O H ∧ VOk g F P Q ∧ XOk g F W σ E
def lt (g : Gm) (W : WX) (T : DT) : TT := fun σ H Q => ∃ Δ O P E F, T Δ O P E ∧ SRel g F σ Δ ∧ Wd g F O H ∧ BOk g F P Q ∧ XOk g F W σ E
def la (g : Gm) (W : WX) (T : DA) : TA := fun σ H Q => ∃ Δ O P E F, T Δ O P E ∧ SRel g F σ Δ ∧ Wd g F O H ∧ AOk g F P Q ∧ XOk g F W σ E
structure EOk (g : Gm) (F : Hp) (W : WX) (D : DEnds) (E : Ends) : Prop where
  nx : ∀ Δ O F' σ H, D.nx Δ O → Same F F' → SRel g F' σ Δ → Wd g F' O H → E.nx σ H
  rt : VOk g F D.rt E.rt
  bk : ∀ Δ O F' σ H, D.bk Δ O → Same F F' → SRel g F' σ Δ → Wd g F' O H → E.bk σ H
  ct : ∀ Δ O F' σ H, D.ct Δ O → Same F F' → SRel g F' σ Δ → Wd g F' O H → E.ct σ H
  xc : ∀ x Δ O cls dd F' σ H, D.xc x Δ O → Same F F' → SRel g F' σ Δ → Wd g F' O H → RelX g F' cls dd x → W cls dd σ H
theorem EOk.mono {g : Gm} {F F' : Hp} {W : WX} {D : DEnds} {E : Ends} (h : EOk g F W D E) (e : Same F F') : EOk g F' W D E :=
  ⟨fun Δ O F1 σ H q s => h.nx Δ O F1 σ H q (e.trans s), h.rt.mono e, fun Δ O F1 σ H q s => h.bk Δ O F1 σ H q (e.trans s), fun Δ O F1 σ H q s => h.ct Δ O F1 σ H q (e.trans s), fun x Δ O c d F1 σ H q s => h.xc x Δ O c d F1 σ H q (e.trans s)⟩
def ls (g : Gm) (W : WX) (T : DS) : TS := fun E σ H => ∃ D Δ O F, T D Δ O ∧ SRel g F σ Δ ∧ Wd g F O H ∧ EOk g F W D E

theorem pe_imp {X : Cx} {e : Expr} {t t' : TE} (h : PE X e t) (k : ∀ σ H Q, t' σ H Q → t σ H Q) : PE X e t' := ⟨fun pins s σ H Q I q => h.run pins s σ H Q I (k _ _ _ q)⟩
theorem pt_imp {X : Cx} {e : Expr} {t t' : TT} (h : PT X e t) (k : ∀ σ H Q, t' σ H Q → t σ H Q) : PT X e t' := ⟨fun pins s σ H Q I q => h.run pins s σ H Q I (k _ _ _ q)⟩
theorem pw_imp {X : Cx} {e : Expr} {t t' : TT} (h : PW X e t) (k : ∀ σ H Q, t' σ H Q → t σ H Q) : PW X e t' := ⟨fun w pins s σ H Q I q => h.run w pins s σ H Q I (k _ _ _ q)⟩
theorem pa_imp {X : Cx} {e : List Expr} {t t' : TA} (h : PA X e t) (k : ∀ σ H Q, t' σ H Q → t σ H Q) : PA X e t' := ⟨fun pos pins s σ H Q I q => h.run pos pins s σ H Q I (k _ _ _ q)⟩
theorem ps_imp {X : Cx} {e : Stmt} {t t' : TS} (h : PS X e t) (k : ∀ D σ H, t' D σ H → t D σ H) : PS X e t' := ⟨fun pins s σ H D I q => h.run pins s σ H D I (k _ _ _ q)⟩
theorem pss_imp {X : Cx} {e : List Stmt} {t t' : TS} (h : PSs X e t) (k : ∀ D σ H, t' D σ H → t D σ H) : PSs X e t' := ⟨fun pins s σ H D I q => h.run pins s σ H D I (k _ _ _ q)⟩

section
variable {g : Gm} {W : WX} {σ : St} {H : Hp} {Δ : Sl} {O : Sto} {F : Hp}
/-- go on behind an expression -/
theorem le_bind {T : DE} {P : KD} {E : KX} {Q : VK} (hT : T Δ O P E) (sr : SRel g F σ Δ) (w : Wd g F O H) (x : XOk g F W σ E)
    (k : ∀ d O1 v F1 H1, P d O1 → Same F F1 → SRel g F1 σ Δ → Wd g F1 O1 H1 → Rep g F1 d v → XOk g F1 W σ E → Q v H1) : le g W T σ H Q :=
  ⟨Δ, O, P, E, F, hT, sr, w, fun d O1 v F1 H1 hp s w1 r => k d O1 v F1 H1 hp s (sr.mono s) w1 r (x.mono s), x⟩
theorem lt_bind {T : DT} {P : Bool → Sto → Prop} {E : KX} {Q : Bool → Hp → Prop} (hT : T Δ O P E) (sr : SRel g F σ Δ) (w : Wd g F O H) (x : XOk g F W σ E)
    (k : ∀ b O1 F1 H1, P b O1 → Same F F1 → SRel g F1 σ Δ → Wd g F1 O1 H1 → XOk g F1 W σ E → Q b H1) : lt g W T σ H Q :=
  ⟨Δ, O, P, E, F, hT, sr, w, fun d O1 F1 H1 hp s w1 => k d O1 F1 H1 hp s (sr.mono s) w1 (x.mono s), x⟩
theorem la_bind {T : DA} {P : List D → Sto → Prop} {E : KX} {Q : List V → Hp → Prop} (hT : T Δ O P E) (sr : SRel g F σ Δ) (w : Wd g F O H) (x : XOk g F W σ E)
    (k : ∀ ds O1 vs F1 H1, P ds O1 → Same F F1 → SRel g F1 σ Δ → Wd g F1 O1 H1 → Reps g F1 ds vs → XOk g F1 W σ E → Q vs H1) : la g W T σ H Q :=
  ⟨Δ, O, P, E, F, hT, sr, w, fun d O1 v F1 H1 hp s w1 r => k d O1 v F1 H1 hp s (sr.mono s) w1 r (x.mono s), x⟩
theorem VOk.now {P : KD} {Q : VK} (h : VOk g F P Q) {d : D} {v : V} (hp : P d O) (w : Wd g F O H) (r : Rep g F d v) : Q v H := h d O v F H hp (Same.refl F) w r
theorem BOk.now {P : Bool → Sto → Prop} {Q : Bool → Hp → Prop} (h : BOk g F P Q) {b : Bool} (hp : P b O) (w : Wd g F O H) : Q b H := h b O F H hp (Same.refl F) w
theorem AOk.now {P : List D → Sto → Prop} {Q : List V → Hp → Prop} (h : AOk g F P Q) {ds : List D} {vs : List V} (hp : P ds O) (w : Wd g F O H) (r : Reps g F ds vs) : Q vs H := h ds O vs F H hp (Same.refl F) w r
end

section
variable {g : Gm} {X : Cx} {W : WX} {pos : Pos} {a b c : Expr}

/-! ### names, constants -/
def dVar (i : Nat) : DE := fun Δ O P _ => match Δ[i]? with | some (some d) => P d O | _ => False
theorem q_var (i : Nat) {x : Str} (hN : X.N[i]? = some x := by rfl) (hv : Vis X.env.scope x := by first | exact Or.inl rfl | exact Or.inr (Or.inl rfl) | exact Or.inr (Or.inr rfl)) (hd : (x == ("__debug__" : Str)) = false := by decide)
    (hcd : (x == ("__classdict__" : Str)) = false := by decide) : PE X (.Name x pos) (le g W (dVar i)) := by
  refine pe_imp (pe_var (i := i) hN hv hd hcd) fun σ H Q h => ?_
  obtain ⟨Δ, O, P, E, F, hT, sr, w, hv, hx⟩ := h
  unfold dVar at hT
  split at hT
  · rename_i d e
    obtain ⟨v, e1, r⟩ := sr.2 i d e
    exact ⟨v, e1, hv.now hT w r⟩
  · exact hT.elim
def dC (d : D) : DE := fun _ O P _ => P d O
theorem q_int {i : Int} {j : Nat} : PE X (.Constant (.int i) j pos) (le g W (dC (.int i))) := pe_imp pe_int fun σ H Q ⟨Δ, O, P, E, F, hT, sr, w, hv, hx⟩ => hv.now (d := .int i) hT w (Rep.int_iff.mpr rfl)
theorem q_bl {i : Bool} {j : Nat} : PE X (.Constant (.bool i) j pos) (le g W (dC (.bl i))) := pe_imp pe_bl fun σ H Q ⟨Δ, O, P, E, F, hT, sr, w, hv, hx⟩ => hv.now (d := .bl i) hT w (Rep.bl_iff.mpr rfl)
theorem q_str {x : Str} {j : Nat} : PE X (.Constant (.str x) j pos) (le g W (dC (.str x))) := pe_imp pe_str fun σ H Q ⟨Δ, O, P, E, F, hT, sr, w, hv, hx⟩ => hv.now (d := .str x) hT w (Rep.str_iff.mpr rfl)

/-! ### operators -/
abbrev B2 := D → D → Sto → KD → Prop
def dOp (f : B2) (Ta Tb : DE) : DE := fun Δ O P E => Ta Δ O (fun x O1 => Tb Δ O1 (fun y O2 => f x y O2 P) E) E
def Lk2 (g : Gm) (r : R2) (f : B2) : Prop := ∀ x y O P F H vx vy Q, f x y O P → Rep g F x vx → Rep g F y vy → Wd g F O H → VOk g F P Q → r vx vy H Q
theorem top_of {r : R2} {f : B2} {Ta Tb : DE} (lk : Lk2 g r f) {σ : St} {H : Hp} {Q : VK} (h : le g W (dOp f Ta Tb) σ H Q) : tOp r (le g W Ta) (le g W Tb) σ H Q := by
  obtain ⟨Δ, O, P, E, F, hT, sr, w, hv, hx⟩ := h
  refine le_bind hT sr w hx fun x O1 vx F1 H1 hT1 s1 sr1 w1 rx hx1 => le_bind hT1 sr1 w1 hx1 fun y O2 vy F2 H2 hT2 s2 sr2 w2 ry hx2 => ?_
  exact lk x y O2 P F2 H2 vx vy Q hT2 (rx.mono s2) ry w2 (hv.mono (s1.trans s2))
theorem q_op {op : Operator} {r : R2} {f : B2} {Ta Tb : DE} (ho : OpR X (binaryOp op) r) (lk : Lk2 g r f) (ha : PE X a (le g W Ta)) (hb : PE X b (le g W Tb)) : PE X (.BinOp a op b pos) (le g W (dOp f Ta Tb)) :=
  pe_imp (pe_op ho ha hb) fun σ H Q h => top_of lk h
theorem q_cmp {op : CmpOp} {r : R2} {f : B2} {Ta Tb : DE} (ho : OpR X (compareOp op) r) (lk : Lk2 g r f) (ha : PE X a (le g W Ta)) (hb : PE X b (le g W Tb)) (hm : behindInMarks op b = false) : PE X (.Compare a [op] [b] pos) (le g W (dOp f Ta Tb)) :=
  pe_imp (pe_cmpR ho ha hb hm) fun σ H Q h => top_of lk h
def dTe (T : DE) : DT := fun Δ O P E => T Δ O (fun d O1 => match d with | .bl k => P k O1 | _ => False) E
theorem test_of {T : DE} {σ : St} {H : Hp} {Q : Bool → Hp → Prop} (h : lt g W (dTe T) σ H Q) : le g W T σ H fun x H' => ∃ k, x = .bl k ∧ Q k H' := by
  obtain ⟨Δ, O, P, E, F, hT, sr, w, hv, hx⟩ := h
  refine le_bind hT sr w hx fun x O1 vx F1 H1 hT1 s1 sr1 w1 rx hx1 => ?_
  cases x with
  | bl k => exact ⟨k, Rep.bl_iff.mp rx, (hv.mono s1).now hT1 w1⟩
  | _ => exact hT1.elim
theorem qt_cmp {op : CmpOp} {r : R2} {f : B2} {Ta Tb : DE} (ho : OpR X (compareOp op) r) (lk : Lk2 g r f) (ha : PE X a (le g W Ta)) (hb : PE X b (le g W Tb)) (hm : behindInMarks op b = false) : PT X (.Compare a [op] [b] pos) (lt g W (dTe (dOp f Ta Tb))) :=
  pt_imp (pt_cmpR ho ha hb hm) fun σ H Q h => top_of lk (test_of h)
theorem qt_val {T : DE} (h : PE X a (le g W T)) (he : ∀ whole, isTrue a X.env whole = (do let v ← whole; standAt a.pos; holding [v] (truthy v)) := by intro _; rfl) : PT X a (lt g W (dTe T)) :=
  pt_imp (pt_val h he) fun σ H Q h => test_of h
/-- a < b < c -/
def dChain (f f' : B2) (Ta Tb Tc : DE) : DE := fun Δ O P E => Ta Δ O (fun x O1 => Tb Δ O1 (fun y O2 => f x y O2 (fun z O3 => match z with | .bl k => (if k = true then Tc Δ O3 (fun t O4 => f' y t O4 P) E else P (.bl false) O3) | _ => False)) E) E
theorem tchain_of {r r' : R2} {f f' : B2} {Ta Tb Tc : DE} (lk : Lk2 g r f) (lk' : Lk2 g r' f') {σ : St} {H : Hp} {Q : VK} (h : le g W (dChain f f' Ta Tb Tc) σ H Q) : tChain r r' (le g W Ta) (le g W Tb) (le g W Tc) σ H Q := by
  obtain ⟨Δ, O, P, E, F, hT, sr, w, hv, hx⟩ := h
  refine le_bind hT sr w hx fun x O1 vx F1 H1 hT1 s1 sr1 w1 rx hx1 => le_bind hT1 sr1 w1 hx1 fun y O2 vy F2 H2 hT2 s2 sr2 w2 ry hx2 => ?_
  refine lk x y O2 _ F2 H2 vx vy _ hT2 (rx.mono s2) ry w2 fun z O3 vz F3 H3 hT3 s3 w3 rz => ?_
  cases z with
  | bl k =>
    refine ⟨k, Rep.bl_iff.mp rz, ?_⟩
    cases k with
    | true =>
      rw [if_pos rfl]
      have hT3 : Tc Δ O3 (fun t O4 => f' y t O4 P) E := by simpa using hT3
      refine le_bind hT3 (sr2.mono s3) w3 (hx2.mono s3) fun t O4 vt F4 H4 hT4 s4 sr4 w4 rt hx4 => ?_
      exact lk' y t O4 P F4 H4 vy vt Q hT4 (ry.mono (s3.trans s4)) rt w4 (hv.mono (s1.trans (s2.trans (s3.trans s4))))
    | false =>
      rw [if_neg Bool.false_ne_true]
      have hT3 : P (.bl false) O3 := by simpa using hT3
      exact hv _ _ _ _ _ hT3 (s1.trans (s2.trans s3)) w3 (Rep.bl_iff.mpr rfl)
  | _ => exact hT3.elim
theorem qt_chain {op op' : CmpOp} {r r' : R2} {f f' : B2} {Ta Tb Tc : DE} (ho : OpR X (compareOp op) r) (ho' : OpR X (compareOp op') r') (lk : Lk2 g r f) (lk' : Lk2 g r' f') (ha : PE X a (le g W Ta)) (hb : PE X b (le g W Tb)) (hc : PE X c (le g W Tc))
    (hm : lastMarks [op, op'] [b, c] = false := by with_unfolding_all rfl) : PT X (.Compare a [op, op'] [b, c] pos) (lt g W (dTe (dChain f f' Ta Tb Tc))) :=
  pt_imp (pt_chain ho ho' ha hb hc hm) fun σ H Q h => tchain_of lk lk' (test_of h)

/-! ### truth, and, or, not -/
def truD (O : Sto) : D → Option Bool
  | .non => some false
  | .bl b => some b
  | .int i => some (i != 0)
  | .str x => if x.length ≤ sizeLine then some ((x.length : Int) != 0) else none
  | .lst ds => some (!ds.isEmpty)
  | .tup ds => some (!ds.isEmpty)
  | .ptr a => match getC O a with
    | some (.lst ds) => some (!ds.isEmpty)
    | some (.dic ks _) => some (!ks.isEmpty)
    | _ => none
  | _ => none
theorem empty_of {F : Hp} {ds : List D} {vs : List V} (h : Reps g F ds vs) : ds.isEmpty = vs.isEmpty := by
  have e := h.length
  cases ds <;> cases vs <;> simp_all
theorem empty_zipK {F : Hp} {ks : List Key} {ds : List D} {vs : List V} (h : Reps g F ds vs) (hl : ks.length = ds.length) : ks.isEmpty = (zipK ks vs).isEmpty := by
  have e := h.length
  cases ks <;> cases vs <;> simp_all [zipK]
theorem tru_of {F : Hp} {O : Sto} {H : Hp} {d : D} {v : V} {k : Bool} (h : truD O d = some k) (r : Rep g F d v) (w : Wd g F O H) : TruV g.K v H k := by
  cases d with
  | non => rw [Rep.non_iff.mp r]; exact (Option.some.inj h).symm
  | bl b => rw [Rep.bl_iff.mp r]; exact (Option.some.inj h).symm
  | int b => rw [Rep.int_iff.mp r]; exact (Option.some.inj h).symm
  | str x =>
    rw [Rep.str_iff.mp r]
    simp only [truD] at h
    split at h
    · rename_i hl
      exact ⟨hl, (Option.some.inj h).symm⟩
    · cases h
  | lst ds =>
    obtain ⟨p, vs, rfl, h1, h2⟩ := Rep.lst_iff.mp r
    simp only [truD] at h
    exact .inl ⟨vs, SqL.of (w.same _ _ h1), by rw [← empty_of h2]; exact (Option.some.inj h).symm⟩
  | tup ds =>
    obtain ⟨p, vs, rfl, h1, h2⟩ := Rep.tup_sq r
    simp only [truD] at h
    exact .inr (.inl ⟨vs, sqt_same w.same h1, by rw [← empty_of h2]; exact (Option.some.inj h).symm⟩)
  | ptr a =>
    rw [Rep.ptr_iff] at r
    subst r
    simp only [truD] at h
    split at h
    · rename_i ds e
      obtain ⟨_, o, h1, h2⟩ := w.get e
      cases o with
      | lst vs =>
        exact .inl ⟨vs, SqL.of h1, by rw [← empty_of (show Reps g F ds vs from h2)]; exact (Option.some.inj h).symm⟩
      | _ => exact h2.elim
    · rename_i ks ds e
      obtain ⟨_, o, h1, h2⟩ := w.get e
      cases o with
      | dK kvs =>
        obtain ⟨h3, vs, rfl, h4⟩ := h2
        exact .inr (.inr ⟨_, h1, by rw [← empty_zipK h4 h3]; exact (Option.some.inj h).symm⟩)
      | _ => exact h2.elim
    · cases h
  | _ => simp [truD] at h
end
end G

set_option Elab.async false
set_option linter.all false
set_option maxRecDepth 100000
set_option maxHeartbeats 4000000
namespace G
open PySem L2
section
variable {g : Gm} {X : Cx} {W : WX} {pos : Pos} {a b c : Expr}
/-! ### tests -/
def dTru (T : DE) : DT := fun Δ O P E => T Δ O (fun d O1 => match truD O1 d with | some k => P k O1 | none => False) E
theorem qt_tru {T : DE} (h : PE X a (le g W T)) (hK : X.K = g.K := by rfl) (he : ∀ whole, isTrue a X.env whole = (do let v ← whole; standAt a.pos; holding [v] (truthy v)) := by intro _; rfl) : PT X a (lt g W (dTru T)) := by
  refine pt_imp (pt_truth h he) fun σ H Q h => ?_
  obtain ⟨Δ, O, P, E, F, hT, sr, w, hv, hx⟩ := h
  refine le_bind hT sr w hx fun x O1 vx F1 H1 hT1 s1 sr1 w1 rx hx1 => ?_
  split at hT1
  · rename_i k e
    exact ⟨k, by rw [hK]; exact tru_of e rx w1, (hv.mono s1).now hT1 w1⟩
  · exact hT1.elim
def dAnd (t u : DT) : DT := fun Δ O P E => t Δ O (fun k O1 => if k = true then u Δ O1 P E else P false O1) E
def dOr (t u : DT) : DT := fun Δ O P E => t Δ O (fun k O1 => if k = true then P true O1 else u Δ O1 P E) E
def dNot (t : DT) : DT := fun Δ O P E => t Δ O (fun k O1 => P (!k) O1) E
variable {tA tB : DT} {rest : List Expr} {Ta Tb : DE}
theorem qw_and1 (ha : PT X a (lt g W tA)) : PW X (.BoolOp .And [a] pos) (lt g W tA) := pw_and1 ha
theorem qw_or1 (ha : PT X a (lt g W tA)) : PW X (.BoolOp .Or [a] pos) (lt g W tA) := pw_or1 ha
theorem qw_and (ha : PT X a (lt g W tA)) (hb : PW X (.BoolOp .And (b :: rest) pos) (lt g W tB)) : PW X (.BoolOp .And (a :: b :: rest) pos) (lt g W (dAnd tA tB)) := by
  refine pw_imp (pw_and ha hb) fun σ H Q h => ?_
  obtain ⟨Δ, O, P, E, F, hT, sr, w, hv, hx⟩ := h
  refine lt_bind hT sr w hx fun k O1 F1 H1 hT1 s1 sr1 w1 hx1 => ?_
  cases k with
  | true =>
    rw [if_pos rfl] at hT1 ⊢
    exact ⟨Δ, O1, P, E, F1, hT1, sr1, w1, hv.mono s1, hx1⟩
  | false =>
    rw [if_neg Bool.false_ne_true] at hT1 ⊢
    exact (hv.mono s1).now hT1 w1
theorem qw_or (ha : PT X a (lt g W tA)) (hb : PW X (.BoolOp .Or (b :: rest) pos) (lt g W tB)) : PW X (.BoolOp .Or (a :: b :: rest) pos) (lt g W (dOr tA tB)) := by
  refine pw_imp (pw_or ha hb) fun σ H Q h => ?_
  obtain ⟨Δ, O, P, E, F, hT, sr, w, hv, hx⟩ := h
  refine lt_bind hT sr w hx fun k O1 F1 H1 hT1 s1 sr1 w1 hx1 => ?_
  cases k with
  | true =>
    rw [if_pos rfl] at hT1 ⊢
    exact (hv.mono s1).now hT1 w1
  | false =>
    rw [if_neg Bool.false_ne_true] at hT1 ⊢
    exact ⟨Δ, O1, P, E, F1, hT1, sr1, w1, hv.mono s1, hx1⟩
theorem qt_not (ha : PT X a (lt g W tA)) : PT X (.UnaryOp .Not a pos) (lt g W (dNot tA)) := by
  refine pt_imp (pt_not ha) fun σ H Q h => ?_
  obtain ⟨Δ, O, P, E, F, hT, sr, w, hv, hx⟩ := h
  exact lt_bind hT sr w hx fun k O1 F1 H1 hT1 s1 sr1 w1 hx1 => (hv.mono s1).now hT1 w1
/-- as values -/
def dAndV (Ta Tb : DE) : DE := fun Δ O P E => Ta Δ O (fun d O1 => match d with | .bl k => (if k = true then Tb Δ O1 P E else P (.bl false) O1) | _ => False) E
def dOrV (Ta Tb : DE) : DE := fun Δ O P E => Ta Δ O (fun d O1 => match d with | .bl k => (if k = true then P (.bl true) O1 else Tb Δ O1 P E) | _ => False) E
def dNotV (Ta : DE) : DE := fun Δ O P E => Ta Δ O (fun d O1 => match d with | .bl k => P (.bl (!k)) O1 | _ => False) E
def dIf (t : DT) (Ta Tb : DE) : DE := fun Δ O P E => t Δ O (fun k O1 => if k = true then Ta Δ O1 P E else Tb Δ O1 P E) E
/-! ### ints -/
def fI0 (h : Int → Int → D) : B2 := fun x y O P => match x, y with | .int i, .int j => P (h i j) O | _, _ => False
def fI (C : Int → Int → Prop) (h : Int → Int → D) : B2 := fun x y O P => match x, y with | .int i, .int j => C i j ∧ P (h i j) O | _, _ => False
theorem lkI0 {h : Int → Int → D} {h' : Int → Int → V} (e : ∀ F i j, Rep g F (h i j) (h' i j)) : Lk2 g (rI0 h') (fI0 h) := by
  intro x y O P F H vx vy Q hf rx ry w hv
  cases x <;> cases y <;> first | exact hf.elim | skip
  rename_i i j
  exact ⟨i, j, Rep.int_iff.mp rx, Rep.int_iff.mp ry, hv.now hf w (e F i j)⟩
theorem lkI {C : Int → Int → Prop} {h : Int → Int → D} {h' : Int → Int → V} (e : ∀ F i j, Rep g F (h i j) (h' i j)) : Lk2 g (rI C h') (fI C h) := by
  intro x y O P F H vx vy Q hf rx ry w hv
  cases x <;> cases y <;> first | exact hf.elim | skip
  rename_i i j
  exact ⟨i, j, Rep.int_iff.mp rx, Rep.int_iff.mp ry, hf.1, hv.now hf.2 w (e F i j)⟩
theorem rint {F : Hp} {i : Int} : Rep g F (.int i) (.int i) := Rep.int_iff.mpr rfl
theorem rbl {F : Hp} {i : Bool} : Rep g F (.bl i) (.bl i) := Rep.bl_iff.mpr rfl
def fSub : B2 := fI0 fun i j => .int (i - j)
def fMul : B2 := fI CMul fun i j => .int (i * j)
def fMod : B2 := fI (fun _ j => 0 < j) fun i j => .int (i % j)
def fDiv : B2 := fI CDiv fun i j => .int (i / j)
def fPow : B2 := fI CPow fun i j => .int (i ^ j.toNat)
def fLt : B2 := fI0 fun i j => .bl (decide (i < j))
def fLe : B2 := fI0 fun i j => .bl (decide (i ≤ j))
def fGt : B2 := fI0 fun i j => .bl (decide (j < i))
def fGe : B2 := fI0 fun i j => .bl (decide (j ≤ i))
theorem lk_sub : Lk2 g (rI0 fun i j => .int (i - j)) fSub := lkI0 fun _ _ _ => rint
theorem lk_mul : Lk2 g (rI CMul fun i j => .int (i * j)) fMul := lkI fun _ _ _ => rint
theorem lk_mod : Lk2 g (rI (fun _ j => 0 < j) fun i j => .int (i % j)) fMod := lkI fun _ _ _ => rint
theorem lk_div : Lk2 g (rI CDiv fun i j => .int (i / j)) fDiv := lkI fun _ _ _ => rint
theorem lk_pow : Lk2 g (rI CPow fun i j => .int (i ^ j.toNat)) fPow := lkI fun _ _ _ => rint
theorem lk_lt : Lk2 g (rI0 fun i j => .bl (decide (i < j))) fLt := lkI0 fun _ _ _ => rbl
theorem lk_le : Lk2 g (rI0 fun i j => .bl (decide (i ≤ j))) fLe := lkI0 fun _ _ _ => rbl
theorem lk_gt : Lk2 g (rI0 fun i j => .bl (decide (j < i))) fGt := lkI0 fun _ _ _ => rbl
theorem lk_ge : Lk2 g (rI0 fun i j => .bl (decide (j ≤ i))) fGe := lkI0 fun _ _ _ => rbl
theorem OpR.or {f : Value → Value → Sem Value} {r r' : R2} (h : OpR X f r) (h' : OpR X f r') : OpR X f (fun x y H Q => r x y H Q ∨ r' x y H Q) := by
  intro pins s σ H x y v u Q I rx ry q
  rcases q with q | q
  · exact h pins s σ H x y v u Q I rx ry q
  · exact h' pins s σ H x y v u Q I rx ry q

/-! ### + of ints, texts, lists -/
/-- the list that a datum is, as a list object -/
def lstOf (O : Sto) : D → Option (List D)
  | .lst ds => some ds
  | .ptr a => match getC O a with | some (.lst ds) => some ds | _ => none
  | _ => none
theorem lst_of {F : Hp} {O : Sto} {H : Hp} {d : D} {v : V} {ds : List D} (h : lstOf O d = some ds) (r : Rep g F d v) (w : Wd g F O H) : ∃ p vs, v = .ref p ∧ H p = some (.lst vs) ∧ Reps g F ds vs := by
  cases d with
  | lst l =>
    obtain ⟨p, vs, rfl, h1, h2⟩ := Rep.lst_iff.mp r
    cases h
    exact ⟨p, vs, rfl, w.same _ _ h1, h2⟩
  | ptr a =>
    rw [Rep.ptr_iff] at r
    subst r
    simp only [lstOf] at h
    split at h
    · rename_i l e
      cases h
      obtain ⟨_, o, h1, h2⟩ := w.get e
      cases o with
      | lst vs => exact ⟨a, vs, rfl, h1, h2⟩
      | _ => exact h2.elim
    · cases h
  | _ => simp [lstOf] at h
def fAdd : B2 := fun x y O P => match x, y with
  | .int i, .int j => P (.int (i + j)) O
  | .str i, .str j => i.length + j.length ≤ sizeLine ∧ P (.str (i ++ j)) O
  | _, _ => match lstOf O x, lstOf O y with
    | some l, some m => l.length + m.length ≤ sizeLine ∧ P (.lst (l ++ m)) O
    | _, _ => False
def rAddA : R2 := fun x y H Q => (∃ i j, x = .int i ∧ y = .int j ∧ Q (.int (i + j)) H) ∨ (∃ i j, x = .str i ∧ y = .str j ∧ i.length + j.length ≤ sizeLine ∧ Q (.str (i ++ j)) H) ∨ rCat x y H Q
theorem op_addA : OpR X (binaryOp .Add) rAddA := OpR.or op_add (OpR.or op_add_str op_cat)
theorem Reps.newL {F : Hp} {ds : List D} {vs : List V} {p : Addr} (h : Reps g F ds vs) : F p = none → Rep g (upd F p (.lst vs)) (.lst ds) (.ref p) := fun hp => Rep.lst_iff.mpr ⟨p, vs, rfl, upd_same, h.mono (same_upd hp)⟩
theorem Reps.newT {F : Hp} {ds : List D} {vs : List V} {p : Addr} (h : Reps g F ds vs) : F p = none → Rep g (upd F p (.tup vs)) (.tup ds) (.ref p) := fun hp => Rep.tup_iff.mpr ⟨p, vs, rfl, .inl upd_same, h.mono (same_upd hp)⟩
theorem lk_add : Lk2 g rAddA fAdd := by
  intro x y O P F H vx vy Q hf rx ry w hv
  have key : (match lstOf O x, lstOf O y with
    | some l, some m => l.length + m.length ≤ sizeLine ∧ P (.lst (l ++ m)) O
    | _, _ => False) → rCat vx vy H Q := by
    intro hf
    split at hf
    · rename_i l m e1 e2
      obtain ⟨p, vs, rfl, h1, h2⟩ := lst_of e1 rx w
      obtain ⟨q, us, rfl, h3, h4⟩ := lst_of e2 ry w
      refine ⟨p, q, vs, us, rfl, rfl, h1, h3, by rw [← h2.length, ← h4.length]; exact hf.1, fun t ht => ?_⟩
      exact hv _ _ _ _ _ hf.2 (w.fsame ht) (w.frozen ht) ((h2.append h4).newL (w.same.free ht))
    · exact hf.elim
  cases x <;> cases y <;> first | exact .inr (.inr (key hf)) | skip
  · rename_i i j
    exact .inl ⟨i, j, Rep.int_iff.mp rx, Rep.int_iff.mp ry, hv.now hf w rint⟩
  · rename_i i j
    exact .inr (.inl ⟨i, j, Rep.str_iff.mp rx, Rep.str_iff.mp ry, hf.1, hv.now hf.2 w (Rep.str_iff.mpr rfl)⟩)

/-! ### subscripts -/
def fIx : B2 := fun x y O P => match y with
  | .int i => match x with
    | .tup ds => (match atI ds i with | some d => P d O | none => False)
    | .str z => z.length ≤ sizeLine ∧ (match atI z.cps.toList i with | some c => P (.str ⟨#[c]⟩) O | none => False)
    | _ => (match lstOf O x with | some ds => (match atI ds i with | some d => P d O | none => False) | none => False)
  | _ => False
theorem atI_rep {F : Hp} {ds : List D} {vs : List V} {i : Int} {d : D} (h : Reps g F ds vs) (e : atI ds i = some d) : ∃ v, atI vs i = some v ∧ Rep g F d v := by
  unfold atI at e ⊢
  rw [← h.length]
  cases q : ixN ds.length i with
  | none => rw [q] at e; cases e
  | some j =>
    rw [q] at e
    exact h.get (show ds[j]? = some d from e)
theorem lk_ix : Lk2 g (rIx g.K) fIx := by
  intro x y O P F H vx vy Q hf rx ry w hv
  cases y with
  | int i =>
    have ey := Rep.int_iff.mp ry
    subst ey
    have key : (match lstOf O x with | some ds => (match atI ds i with | some d => P d O | none => False) | none => False) → rIx g.K vx (.int i) H Q := by
      intro hf
      split at hf
      · rename_i l e1
        obtain ⟨p, vs, rfl, h1, h2⟩ := lst_of e1 rx w
        split at hf
        · rename_i d e2
          obtain ⟨v, e3, r3⟩ := atI_rep h2 e2
          exact .inl ⟨p, vs, i, v, rfl, rfl, SqL.of h1, e3, hv.now hf w r3⟩
        · exact hf.elim
      · exact hf.elim
    cases x with
    | tup ds =>
      obtain ⟨p, vs, rfl, h1, h2⟩ := Rep.tup_sq rx
      have hf : (match atI ds i with | some d => P d O | none => False) := hf
      split at hf
      · rename_i d e2
        obtain ⟨v, e3, r3⟩ := atI_rep h2 e2
        exact .inr (.inl ⟨p, vs, i, v, rfl, rfl, sqt_same w.same h1, e3, hv.now hf w r3⟩)
      · exact hf.elim
    | str z =>
      obtain ⟨hl, hf⟩ : z.length ≤ sizeLine ∧ (match atI z.cps.toList i with | some c => P (.str ⟨#[c]⟩) O | none => False) := hf
      split at hf
      · rename_i ch e2
        exact .inr (.inr ⟨z, i, ch, Rep.str_iff.mp rx, rfl, hl, e2, hv.now hf w (Rep.str_iff.mpr rfl)⟩)
      · exact hf.elim
    | _ => exact key hf
  | _ => exact hf.elim
theorem q_ix (ha : PE X a (le g W Ta)) (hb : PE X b (le g W Tb)) (hs : PlainIx b := by exact fun _ _ => rfl) (hK : X.K = g.K := by rfl) : PE X (.Subscript a b pos) (le g W (dOp fIx Ta Tb)) :=
  pe_imp (pe_ix (r := rIx g.K) (by rw [← hK]; exact ix_seq) ha hb hs) fun σ H Q h => top_of lk_ix h

/-! ### argument lists, displays -/
def dNil : DA := fun _ O P _ => P [] O
def dCons (T : DE) (R : DA) : DA := fun Δ O P E => T Δ O (fun d O1 => R Δ O1 (fun ds O2 => P (d :: ds) O2) E) E
theorem qa_nil : PA X [] (la g W dNil) := pa_imp pa_nil fun σ H Q ⟨Δ, O, P, E, F, hT, sr, w, hv, hx⟩ => hv.now hT w Reps.nil
theorem qa_cons {es : List Expr} {R : DA} (ha : PE X a (le g W Ta)) (hr : PA X es (la g W R)) (hs : starEach (a :: es) X.env = (false, eval a X.env) :: starEach es X.env := by rfl) : PA X (a :: es) (la g W (dCons Ta R)) := by
  refine pa_imp (pa_cons ha hr hs) fun σ H Q h => ?_
  obtain ⟨Δ, O, P, E, F, hT, sr, w, hv, hx⟩ := h
  refine le_bind hT sr w hx fun d O1 v F1 H1 hT1 s1 sr1 w1 rx hx1 => la_bind hT1 sr1 w1 hx1 fun ds O2 vs F2 H2 hT2 s2 sr2 w2 rs hx2 => ?_
  exact hv _ _ _ _ _ hT2 (s1.trans s2) w2 (Reps.cons (rx.mono s2) rs)
def dTup (R : DA) : DE := fun Δ O P E => R Δ O (fun ds O1 => ds.length ≤ sizeLine ∧ P (.tup ds) O1) E
def dLst (R : DA) : DE := fun Δ O P E => R Δ O (fun ds O1 => ds.length ≤ sizeLine ∧ P (.lst ds) O1) E
/-- a list that will change -/
def dLstO (R : DA) : DE := fun Δ O P E => R Δ O (fun ds O1 => ds.length ≤ sizeLine ∧ ∀ p, freshC O1 p → P (.ptr p) ((p, .lst ds) :: O1)) E
theorem q_tup {es : List Expr} {R : DA} {x1} (h : PA X es (la g W R)) : PE X (.Tuple es x1 pos) (le g W (dTup R)) := by
  refine pe_imp (pe_tup h) fun σ H Q h => ?_
  obtain ⟨Δ, O, P, E, F, hT, sr, w, hv, hx⟩ := h
  refine la_bind hT sr w hx fun ds O1 vs F1 H1 hT1 s1 sr1 w1 rs hx1 => ⟨by rw [← rs.length]; exact hT1.1, fun p hp => ?_⟩
  exact hv _ _ _ _ _ hT1.2 (s1.trans (w1.fsame hp)) (w1.frozen hp) (rs.newT (w1.same.free hp))
theorem q_lst {es : List Expr} {R : DA} (h : PA X es (la g W R)) : PE X (.List es pos) (le g W (dLst R)) := by
  refine pe_imp (pe_lst h) fun σ H Q h => ?_
  obtain ⟨Δ, O, P, E, F, hT, sr, w, hv, hx⟩ := h
  refine la_bind hT sr w hx fun ds O1 vs F1 H1 hT1 s1 sr1 w1 rs hx1 => ⟨by rw [← rs.length]; exact hT1.1, fun p hp => ?_⟩
  exact hv _ _ _ _ _ hT1.2 (s1.trans (w1.fsame hp)) (w1.frozen hp) (rs.newL (w1.same.free hp))
theorem q_lstO {es : List Expr} {R : DA} (h : PA X es (la g W R)) : PE X (.List es pos) (le g W (dLstO R)) := by
  refine pe_imp (pe_lst h) fun σ H Q h => ?_
  obtain ⟨Δ, O, P, E, F, hT, sr, w, hv, hx⟩ := h
  refine la_bind hT sr w hx fun ds O1 vs F1 H1 hT1 s1 sr1 w1 rs hx1 => ⟨by rw [← rs.length]; exact hT1.1, fun p hp => ?_⟩
  exact hv _ _ _ _ _ (hT1.2 p (w1.fresh hp)) s1 (w1.own (c := .lst ds) (o := .lst vs) hp rs) (Rep.ptr_iff.mpr rfl)

/-- an owned thing is let go -/
def frzD : Cell → Option D
  | .lst ds => some (.lst ds)
  | .ins c fs ds => some (.obj c fs ds)
  | .dic ks ds => some (.dic ks ds)
  | .box => none
def dFrz (T : DE) : DE := fun Δ O P E => T Δ O (fun d O1 => match d with
  | .ptr a => (match getC O1 a with | some c => (match frzD c with | some d' => P d' (delC O1 a) | none => False) | none => False)
  | _ => False) E
def Cell.isDic : Cell → Bool
  | .dic _ _ => true
  | _ => false
theorem frz_rep {F : Hp} {a : Addr} {c : Cell} {o : HO} {d : D} (hf : frzD c = some d) (h : CRep g F c o) (fa : F a = none) (nd : c.isDic = false := by rfl) : Rep g (upd F a o) d (.ref a) := by
  cases c with
  | lst ds =>
    cases hf
    cases o with
    | lst vs => exact Reps.newL (show Reps g F ds vs from h) fa
    | _ => exact h.elim
  | ins c fs ds =>
    cases hf
    cases o with
    | ins C dx vfs =>
      obtain ⟨rfl, h2, vs, rfl, h4⟩ := h
      exact Rep.obj_iff.mpr ⟨a, dx, vs, rfl, upd_same, h2, h4.mono (same_upd fa)⟩
    | _ => exact h.elim
  | dic ks ds => cases nd
  | box => cases hf
/-- the thing may be locked behind the reading -/
def tLk (t : TE) : TE := fun σ H Q => t σ H fun v H1 => Q v H1 ∨ ∃ d kvs, H1 d = some (.dK kvs) ∧ ∀ od, Q v (upd H1 d (.frz od (.dK kvs)))
theorem pe_lk {t : TE} (h : PE X a t) : PE X a (tLk t) := ⟨fun pins s σ H Q I hq => thn (h.run pins s σ H _ I hq) fun u s1 ⟨x, H1, I1, r, q⟩ => by
  rcases q with q | ⟨d, kvs, hd, q⟩
  · exact ⟨x, H1, I1, r, q⟩
  · obtain ⟨od, I2⟩ := I1.lock hd True.intro
    exact ⟨x, _, I2, r, q od⟩⟩
theorem q_frz (ha : PE X a (le g W Ta)) : PE X a (le g W (dFrz Ta)) := by
  refine pe_imp (pe_lk ha) fun σ H Q h => ?_
  obtain ⟨Δ, O, P, E, F, hT, sr, w, hv, hx⟩ := h
  refine le_bind hT sr w hx fun d O1 v F1 H1 hT1 s1 sr1 w1 rx hx1 => ?_
  cases d with
  | ptr p =>
    have ev := Rep.ptr_iff.mp rx
    subst ev
    have hT1 : (match getC O1 p with | some c => (match frzD c with | some d' => P d' (delC O1 p) | none => False) | none => False) := hT1
    split at hT1
    · rename_i c e
      split at hT1
      · rename_i d' e'
        cases ec : c.isDic with
        | false =>
          obtain ⟨o, ho, hc, s2, w2⟩ := w1.freeze e
          exact .inl (hv _ _ _ _ _ hT1 (s1.trans s2) w2 (frz_rep e' hc (w1.get e).1 ec))
        | true =>
          cases c with
          | dic ks ds =>
            cases e'
            obtain ⟨vs, h1, h2⟩ := w1.freezeL e
            exact .inr ⟨p, _, h1, fun od => hv _ _ _ _ _ hT1 (s1.trans (h2 od).1) (h2 od).2.1 (h2 od).2.2⟩
          | _ => cases ec
      · exact hT1.elim
    · exact hT1.elim
  | _ => exact hT1.elim

/-! ### fields -/
/-- the fields of a datum: its class, its names, its values -/
def objOf (O : Sto) : D → Option (Cl × List Fd × List D)
  | .obj c fs ds => some (c, fs, ds)
  | .ptr a => match getC O a with | some (.ins c fs ds) => some (c, fs, ds) | _ => none
  | _ => none
theorem obj_of {F : Hp} {O : Sto} {H : Hp} {d : D} {v : V} {t : Cl × List Fd × List D} (h : objOf O d = some t) (r : Rep g F d v) (w : Wd g F O H) : ∃ p dx vs, v = .ref p ∧ H p = some (.ins (g.ca t.1) dx (zipF t.2.1 vs)) ∧ t.2.1.length = t.2.2.length ∧ Reps g F t.2.2 vs := by
  cases d with
  | obj c fs ds =>
    obtain ⟨p, dx, vs, rfl, h1, h2, h3⟩ := Rep.obj_iff.mp r
    cases h
    exact ⟨p, dx, vs, rfl, w.same _ _ h1, h2, h3⟩
  | ptr a =>
    rw [Rep.ptr_iff] at r
    subst r
    simp only [objOf] at h
    split at h
    · rename_i c fs ds e
      cases h
      obtain ⟨_, o, h1, h2⟩ := w.get e
      cases o with
      | ins C dx vfs =>
        obtain ⟨rfl, h3, vs, rfl, h4⟩ := h2
        exact ⟨a, dx, vs, rfl, h1, h3, h4⟩
      | _ => exact h2.elim
    · cases h
  | _ => simp [objOf] at h
/-- what the walk asks of the classes: fields that no class hides -/
structure Flds (g : Gm) (cs : List Cl) (f : Fd) : Prop where
  cl : ∀ c ∈ cs, Cls g.K (g.ca c)
  no : ∀ c ∈ cs, NoAttr g.K (g.ca c) f.str
def dFld (cs : List Cl) (f : Fd) (T : DE) : DE := fun Δ O P E => T Δ O (fun d O1 => match objOf O1 d with
  | some t => t.1 ∈ cs ∧ (match getF f t.2.1 t.2.2 with | some e => P e O1 | none => False)
  | none => False) E
theorem q_fld {cs : List Cl} {f : Fd} {x : Str} (A : Flds g cs f) (ha : PE X a (le g W Ta)) (hx : x = f.str := by rfl) (hK : X.K = g.K := by rfl) (hb : attributeBase a x X.env (eval a X.env) = eval a X.env := by rfl) :
    PE X (.Attribute a x pos) (le g W (dFld cs f Ta)) := by
  subst hx
  refine pe_imp (pe_fld ha hb) fun σ H Q h => ?_
  obtain ⟨Δ, O, P, E, F, hT, sr, w, hv, hx⟩ := h
  refine le_bind hT sr w hx fun d O1 v F1 H1 hT1 s1 sr1 w1 rx hx1 => ?_
  split at hT1
  · rename_i t e
    obtain ⟨p, dx, vs, rfl, h1, h2, h3⟩ := obj_of e rx w1
    obtain ⟨hc, hT1⟩ := hT1
    split at hT1
    · rename_i d' e'
      obtain ⟨u, hu, ru⟩ := getF_look h3 e'
      exact ⟨p, g.ca t.1, dx, _, u, rfl, h1, by rw [hK]; exact A.cl _ hc, by rw [hK]; exact A.no _ hc, hu, (hv.mono s1).now hT1 w1 ru⟩
    · exact hT1.elim
  · exact hT1.elim

/-! ### builtins by values -/
abbrev BC := List D → Sto → KD → Prop
def LkC (g : Gm) (r : List V → Hp → VK → Prop) (f : BC) : Prop := ∀ ds O P F H vs Q, f ds O P → Reps g F ds vs → Wd g F O H → VOk g F P Q → r vs H Q
def dCB (f : BC) (R : DA) : DE := fun Δ O P E => R Δ O (fun ds O1 => f ds O1 P) E
theorem tcb_of {r : List V → Hp → VK → Prop} {f : BC} {R : DA} (lk : LkC g r f) {σ : St} {H : Hp} {Q : VK} (h : le g W (dCB f R) σ H Q) : tCB r (la g W R) σ H Q := by
  obtain ⟨Δ, O, P, E, F, hT, sr, w, hv, hx⟩ := h
  exact la_bind hT sr w hx fun ds O1 vs F1 H1 hT1 s1 sr1 w1 rs hx1 => lk _ _ _ _ _ _ _ hT1 rs w1 (hv.mono s1)
variable {es : List Expr} {R : DA} {x : Str} {p : Pos}
theorem q_callB {id : String} {r : List V → Hp → VK → Prop} {f : BC} (hc : CallR X (.builtin id) r) (lk : LkC g r f) (hm : X.mg x = none) (ha : PA X (a :: es) (la g W R)) (hv : bootBuiltins x = some (.builtin id) := by decide +kernel) (hg : Gl X x := by rfl) (hn : x ≠ "__name__" := by decide) (hdb : (x == ("__debug__" : Str)) = false := by decide)
    (he : starEach (a :: es) X.env = (false, eval a X.env) :: starEach es X.env := by rfl) (hpl : (backTo pos (starEach es X.env)).any (·.1) = false := by rfl) : PE X (.Call (.Name x p) (a :: es) [] pos) (le g W (dCB f R)) :=
  pe_imp (pe_callB hc hg hm hv ha hn hdb he hpl) fun σ H Q h => tcb_of lk h
theorem q_callTy {T : String} {r : List V → Hp → VK → Prop} {f : BC} (hc : CallR X (.type T) r) (lk : LkC g r f) (hm : X.mg x = none) (ha : PA X (a :: es) (la g W R)) (hv : bootBuiltins x = some (.type T) := by decide +kernel) (hg : Gl X x := by rfl) (hn : x ≠ "__name__" := by decide) (hdb : (x == ("__debug__" : Str)) = false := by decide)
    (he : starEach (a :: es) X.env = (false, eval a X.env) :: starEach es X.env := by rfl) (hpl : (backTo pos (starEach es X.env)).any (·.1) = false := by rfl) : PE X (.Call (.Name x p) (a :: es) [] pos) (le g W (dCB f R)) :=
  pe_imp (pe_callTy hc hg hm hv ha hn hdb he hpl) fun σ H Q h => tcb_of lk h
end
end G

set_option Elab.async false
set_option linter.all false
set_option maxRecDepth 100000
set_option maxHeartbeats 4000000
namespace G
open PySem L2
/-! ## statements -/
theorem EOk.toX {g : Gm} {F : Hp} {W : WX} {D : DEnds} {E : Ends} {σ : St} {Δ : Sl} (h : EOk g F W D E) (sr : SRel g F σ Δ) : XOk g F W σ (fun x O => D.xc x Δ O) :=
  fun x O cls dd F' H q s w r => h.xc x Δ O cls dd F' σ H q s (sr.mono s) w r
section
variable {g : Gm} {X : Cx} {W : WX} {pos pos' : Pos} {a b c : Expr} {Ta Tb : DE} {tA tB : DT} {T U : DS} {st : Stmt} {rest : List Stmt}
def dNext : DS := fun D Δ O => D.nx Δ O
def dSeq (T U : DS) : DS := fun D Δ O => T { D with nx := U D } Δ O
theorem qss_nil : PSs X [] (ls g W dNext) := pss_imp pss_nil fun E σ H ⟨D, Δ, O, F, hT, sr, w, he⟩ => he.nx _ _ _ _ _ hT (Same.refl F) sr w
theorem qss_one (h : PS X st (ls g W T)) : PSs X [st] (ls g W T) := pss_one h
theorem qss_cons (h1 : PS X st (ls g W T)) (h2 : PSs X rest (ls g W U)) : PSs X (st :: rest) (ls g W (dSeq T U)) := by
  refine pss_imp (pss_cons h1 h2) fun E σ H ⟨D, Δ, O, F, hT, sr, w, he⟩ => ?_
  refine ⟨{ D with nx := U D }, Δ, O, F, hT, sr, w, ⟨fun Δ' O' F' σ' H' q s sr' w' => ?_, he.rt, he.bk, he.ct, he.xc⟩⟩
  exact ⟨D, Δ', O', F', q, sr', w', he.mono s⟩
def dAsg (i : Nat) (T : DE) : DS := fun D Δ O => T Δ O (fun d O1 => D.nx (Δ.set i (some d)) O1) (fun x O1 => D.xc x Δ O1)
theorem qs_asg (i : Nat) {x : Str} (hN : X.N.Nodup) (he : PE X a (le g W Ta)) (hi : X.N[i]? = some x := by rfl) (hx : Loc X.env.scope x := by first | exact Or.inl rfl | exact Or.inr rfl) (hs : swapsWith a (some (.Name x pos')) pos.line X.env = pure false := by rfl)
    (hf : X.fn x = true ∨ X.env.scope.names.lookup x = some .local := by first | exact .inl rfl | exact .inr rfl) : PS X (.Assign [.Name x pos'] a pos) (ls g W (dAsg i Ta)) := by
  refine ps_imp (ps_set (i := i) hN hi hx he hs hf) fun E σ H ⟨D, Δ, O, F, hT, sr, w, ho⟩ => ?_
  exact le_bind hT sr w (ho.toX sr) fun d O1 v F1 H1 hT1 s1 sr1 w1 rx hx1 => ho.nx _ _ _ _ _ hT1 s1 (sr1.set rx i) w1
def dExp (T : DE) : DS := fun D Δ O => T Δ O (fun _ O1 => D.nx Δ O1) (fun x O1 => D.xc x Δ O1)
theorem qs_expr (he : PE X a (le g W Ta)) (hs : swapsWith a none pos.line X.env = pure false := by rfl) : PS X (.Expr a pos) (ls g W (dExp Ta)) := by
  refine ps_imp (ps_expr he hs) fun E σ H ⟨D, Δ, O, F, hT, sr, w, ho⟩ => ?_
  exact le_bind hT sr w (ho.toX sr) fun d O1 v F1 H1 hT1 s1 sr1 w1 rx hx1 => ho.nx _ _ _ _ _ hT1 s1 sr1 w1
def dRet (T : DE) : DS := fun D Δ O => T Δ O D.rt (fun x O1 => D.xc x Δ O1)
theorem qs_ret (he : PE X a (le g W Ta)) : PS X (.Return (some a) pos) (ls g W (dRet Ta)) := by
  refine ps_imp (ps_ret he) fun E σ H ⟨D, Δ, O, F, hT, sr, w, ho⟩ => ?_
  exact le_bind hT sr w (ho.toX sr) fun d O1 v F1 H1 hT1 s1 sr1 w1 rx hx1 => ho.rt _ _ _ _ _ hT1 s1 w1 rx
def dRetN : DS := fun D _ O => D.rt .non O
def dIfS (t : DT) (T U : DS) : DS := fun D Δ O => t Δ O (fun k O1 => if k = true then T D Δ O1 else U D Δ O1) (fun x O1 => D.xc x Δ O1)
theorem qs_if {xs ys : List Stmt} (hc : PT X c (lt g W tA)) (ha : PSs X xs (ls g W T)) (hb : PSs X ys (ls g W U)) : PS X (.If c xs ys pos) (ls g W (dIfS tA T U)) := by
  refine ps_imp (ps_if hc ha hb) fun E σ H ⟨D, Δ, O, F, hT, sr, w, ho⟩ => ?_
  refine lt_bind hT sr w (ho.toX sr) fun k O1 F1 H1 hT1 s1 sr1 w1 hx1 => ?_
  cases k with
  | true =>
    rw [if_pos rfl] at hT1 ⊢
    exact ⟨D, Δ, O1, F1, hT1, sr1, w1, ho.mono s1⟩
  | false =>
    rw [if_neg Bool.false_ne_true] at hT1 ⊢
    exact ⟨D, Δ, O1, F1, hT1, sr1, w1, ho.mono s1⟩
def dBrk : DS := fun D Δ O => D.bk Δ O
def dCnt : DS := fun D Δ O => D.ct Δ O
def dNev : DS := fun _ _ _ => False
/-- x += e -/
def dAug (i : Nat) (f : B2) (T : DE) : DS := fun D Δ O => match Δ[i]? with
  | some (some x) => T Δ O (fun y O1 => f x y O1 fun z O2 => D.nx (Δ.set i (some z)) O2) (fun x O1 => D.xc x Δ O1)
  | _ => False
def fAddI : B2 := fI0 fun i j => .int (i + j)
/-- o.f = e -/
def dSetF (cs : List Cl) (f : Fd) (To Tv : DE) : DS := fun D Δ O => Tv Δ O (fun d O1 => To Δ O1 (fun o O2 => match o with
  | .ptr p => (match getC O2 p with
    | some (.ins c fs ds) => c ∈ cs ∧ fs.length < 900 ∧ D.nx Δ (setC O2 p (.ins c (putFs f fs) (putDs f d fs ds)))
    | _ => False)
  | _ => False) (fun x O1 => D.xc x Δ O1)) (fun x O1 => D.xc x Δ O1)
theorem qs_setF {cs : List Cl} {f : Fd} {x : Str} (A : Flds g cs f) (ha : PE X a (le g W Ta)) (hb : PE X b (le g W Tb)) (hx : x = f.str := by rfl) (hK : X.K = g.K := by rfl) (hs : swapsWith b (some (.Attribute a x pos')) pos.line X.env = pure false := by rfl) :
    PS X (.Assign [.Attribute a x pos'] b pos) (ls g W (dSetF cs f Ta Tb)) := by
  subst hx
  refine ps_imp (ps_fld ha hb hs) fun E σ H ⟨D, Δ, O, F, hT, sr, w, ho⟩ => ?_
  refine le_bind hT sr w (ho.toX sr) fun d O1 v F1 H1 hT1 s1 sr1 w1 rx hx1 => le_bind hT1 sr1 w1 hx1 fun o O2 vo F2 H2 hT2 s2 sr2 w2 ro hx2 => ?_
  cases o with
  | ptr p =>
    have ev := Rep.ptr_iff.mp ro
    subst ev
    have hT2 : (match getC O2 p with
      | some (.ins c fs ds) => c ∈ cs ∧ fs.length < 900 ∧ D.nx Δ (setC O2 p (.ins c (putFs f fs) (putDs f d fs ds)))
      | _ => False) := hT2
    split at hT2
    · rename_i c fs ds e
      obtain ⟨hc, hl, hT2⟩ := hT2
      obtain ⟨fa, ob, h1, h2⟩ := w2.get e
      cases ob with
      | ins C dx vfs =>
        obtain ⟨rfl, h3, vs, rfl, h4⟩ := h2
        obtain ⟨ws, e1, e2, e3⟩ := putF_zip (f := f) (rx.mono s2) h3 h4
        refine ⟨p, g.ca c, dx, _, rfl, h1, by rw [hK]; exact A.cl _ hc, by rw [hK]; exact A.no _ hc, ?_, ?_⟩
        · unfold zipF
          rw [List.length_zip, List.length_map]
          omega
        · rw [e1]
          exact ho.nx _ _ _ _ _ hT2 (s1.trans s2) sr2 (w2.set e (c' := .ins c (putFs f fs) (putDs f d fs ds)) (o := .ins (g.ca c) dx (zipF (putFs f fs) ws)) ⟨rfl, e3, ws, rfl, e2⟩)
      | _ => exact h2.elim
    · exact hT2.elim
  | _ => exact hT2.elim
/-- a list with one place written -/
def setI (ds : List D) (k : Int) (d : D) : Option (List D) := match ixN ds.length k with | some j => some (ds.set j d) | none => none
/-- xs[i] = e, xs a list that is owned -/
def dSetIx (To Ti Tv : DE) : DS := fun D Δ O => Tv Δ O (fun d O1 => To Δ O1 (fun o O2 => Ti Δ O2 (fun i O3 => match o, i with
  | .ptr p, .int k => (match getC O3 p with
    | some (.lst ds) => (match setI ds k d with | some es => D.nx Δ (setC O3 p (.lst es)) | none => False)
    | _ => False)
  | _, _ => False) (fun x O1 => D.xc x Δ O1)) (fun x O1 => D.xc x Δ O1)) (fun x O1 => D.xc x Δ O1)
theorem qs_setIx {Tc : DE} (ha : PE X a (le g W Ta)) (hb : PE X b (le g W Tb)) (hc : PE X c (le g W Tc))
    (ha' : ∀ v, assign (.Subscript a b pos') X.env v = (do
      let ov ← holding [v] (eval a X.env)
      let iv ← holding [v, ov] (eval b X.env)
      standAt pos'
      holding [v, ov, iv] (setItem ov iv v)
      release [v, ov, iv] []) := by intro _; rfl) (hs : swapsWithSole [.Subscript a b pos'] c pos.line X.env = pure false := by rfl) (hw : swappedStores [.Subscript a b pos'] c X.env = pure none := by rfl)
    (h1 : (assignEach [.Subscript a b pos'] X.env).map (·.2) = [assign (.Subscript a b pos') X.env] := by rfl) : PS X (.Assign [.Subscript a b pos'] c pos) (ls g W (dSetIx Ta Tb Tc)) := by
  refine ps_imp (ps_asg hc (pg_sub ha hb set_list ha') hs hw h1) fun E σ H ⟨D, Δ, O, F, hT, sr, w, ho⟩ => ?_
  refine le_bind hT sr w (ho.toX sr) fun d O1 v F1 H1 hT1 s1 sr1 w1 rx hx1 => le_bind hT1 sr1 w1 hx1 fun o O2 vo F2 H2 hT2 s2 sr2 w2 ro hx2 => le_bind hT2 sr2 w2 hx2 fun i O3 vi F3 H3 hT3 s3 sr3 w3 ri hx3 => ?_
  cases o <;> cases i <;> first | exact hT3.elim | skip
  rename_i p k
  have ev := Rep.ptr_iff.mp ro
  subst ev
  have hT3 : (match getC O3 p with
    | some (.lst ds) => (match setI ds k d with | some es => D.nx Δ (setC O3 p (.lst es)) | none => False)
    | _ => False) := hT3
  split at hT3
  · rename_i ds e
    split at hT3
    · rename_i es eS
      unfold setI at eS
      split at eS
      rotate_left
      · cases eS
      rename_i j ej
      cases eS
      obtain ⟨fa, ob, h1, h2⟩ := w3.get e
      cases ob with
      | lst vs =>
        have h2 : Reps g F3 ds vs := h2
        refine ⟨p, vs, k, j, rfl, Rep.int_iff.mp ri, h1, by rw [← h2.length]; exact ej, ?_⟩
        exact ho.nx _ _ _ _ _ hT3 (s1.trans (s2.trans s3)) sr3 (w3.set e (c' := .lst (ds.set j d)) (o := .lst (vs.set j v)) (h2.set (rx.mono (s2.trans s3)) j))
      | _ => exact h2.elim
    · exact hT3.elim
  · exact hT3.elim
/-- xs.append(e) -/
def dApp (To Tv : DE) : DE := fun Δ O P E => To Δ O (fun o O1 => match o with
  | .ptr p => (match getC O1 p with
    | some (.lst _) => Tv Δ O1 (fun d O2 => match getC O2 p with
      | some (.lst ds) => ds.length < sizeLine ∧ P .non (setC O2 p (.lst (ds ++ [d])))
      | _ => False) E
    | _ => False)
  | _ => False) E
/-- give: pe_bm PySem.F.plainAttrs_list PySem.F.slot_list_append PySem.F.type_list_append mt_append HA (pa_cons HB pa_nil) -/
theorem q_app (h : PE X c (tBM X.K "list" rAppend (le g W Ta) (tCons (le g W Tb) tNil))) : PE X c (le g W (dApp Ta Tb)) := by
  refine pe_imp h fun σ H Q h => ?_
  obtain ⟨Δ, O, P, E, F, hT, sr, w, hv, hx⟩ := h
  refine le_bind hT sr w hx fun o O1 vo F1 H1 hT1 s1 sr1 w1 ro hx1 => ?_
  cases o with
  | ptr p =>
    have ev := Rep.ptr_iff.mp ro
    subst ev
    have hT1 : (match getC O1 p with
      | some (.lst _) => Tb Δ O1 (fun d O2 => match getC O2 p with
        | some (.lst ds) => ds.length < sizeLine ∧ P .non (setC O2 p (.lst (ds ++ [d])))
        | _ => False) E
      | _ => False) := hT1
    split at hT1
    · rename_i ds0 e0
      obtain ⟨_, ob, h1, h2⟩ := w1.get e0
      cases ob with
      | lst vs0 =>
        refine ⟨.inl ⟨rfl, _, SqL.of h1⟩, ?_⟩
        refine le_bind hT1 sr1 w1 hx1 fun d O2 vd F2 H2 hT2 s2 sr2 w2 rd hx2 => ?_
        split at hT2
        · rename_i ds e
          obtain ⟨_, ob, h3, h4⟩ := w2.get e
          cases ob with
          | lst vs =>
            have h4 : Reps g F2 ds vs := h4
            refine ⟨p, vs, vd, rfl, rfl, h3, by rw [← h4.length]; exact hT2.1, ?_⟩
            exact hv _ _ _ _ _ hT2.2 (s1.trans s2) (w2.set e (c' := .lst (ds ++ [d])) (o := .lst (vs ++ [vd])) (h4.append (Reps.one rd))) (Rep.non_iff.mpr rfl)
          | _ => exact h4.elim
        · exact hT2.elim
      | _ => exact h2.elim
    · exact hT1.elim
  | _ => exact hT1.elim
end

/-! ## loops -/
/-- what a walk gives: the data of its turns -/
structure Gives (g : Gm) (F : Hp) (J : It) (ds : List D) : Prop where
  go : ∀ (i : Nat) (d : D) F' O H, ds[i]? = some d → Same F F' → Wd g F' O H → J.go i H ∧ ∀ x H', J.yld i H x H' → ∃ F2, Same F' F2 ∧ Wd g F2 O H' ∧ Rep g F2 d x
  stop : ∀ (i : Nat) F' O H, ds.length ≤ i → Same F F' → Wd g F' O H → J.stop i H
theorem Gives.mono {g : Gm} {F F1 : Hp} {J : It} {ds : List D} (h : Gives g F J ds) (e : Same F F1) : Gives g F1 J ds := ⟨fun i d F' O H q s => h.go i d F' O H q (e.trans s), fun i F' O H q s => h.stop i F' O H q (e.trans s)⟩
def li (g : Gm) (W : WX) (T : DA) : TI := fun σ H R => ∃ Δ O P E F, T Δ O P E ∧ SRel g F σ Δ ∧ Wd g F O H ∧ (∀ ds O' F' H' J, P ds O' → Same F F' → Wd g F' O' H' → Gives g F' J ds → R J H') ∧ XOk g F W σ E
theorem pi_imp {X : Cx} {tg e : Expr} {t t' : TI} (h : PI X tg e t) (k : ∀ σ H Q, t' σ H Q → t σ H Q) : PI X tg e t' := ⟨fun pins s σ H R I q => h.run pins s σ H R I (k _ _ _ q)⟩
section
variable {g : Gm} {X : Cx} {W : WX} {pos pos' : Pos} {a b c tg : Expr} {Ta Tb : DE} {tA tB : DT} {R : DA}
theorem gives_list {F : Hp} {p : Addr} {vs : List V} {ds : List D} (h : F p = some (.lst vs)) (r : Reps g F ds vs) : Gives g F (Itl g.K p) ds := by
  refine ⟨fun i d F' O H q s w => ?_, fun i F' O H q s w => ⟨vs, SqL.of (w.same _ _ (s _ _ h)), by rw [← r.length]; exact q⟩⟩
  obtain ⟨v, hv, rv⟩ := r.get q
  have hs : SqL g.K H p vs := SqL.of (w.same _ _ (s _ _ h))
  refine ⟨⟨vs, v, hs, hv⟩, fun x H' ⟨e, y⟩ => ⟨F', Same.refl F', by rw [e]; exact w, ?_⟩⟩
  have z := y vs hs
  rw [hv] at z
  cases z
  exact rv.mono s
/-- the items of a list that stands still -/
def dItL (T : DE) : DA := fun Δ O P E => T Δ O (fun d O1 => match d with | .lst ds => P ds O1 | _ => False) E
def dItT (T : DE) : DA := fun Δ O P E => T Δ O (fun d O1 => match d with | .tup ds => P ds O1 | _ => False) E
theorem qi_list (ha : PE X a (le g W Ta)) (hK : X.K = g.K := by rfl) : PI X tg a (li g W (dItL Ta)) := by
  refine pi_imp (pi_list ha) fun σ H R h => ?_
  obtain ⟨Δ, O, P, E, F, hT, sr, w, hR, hx⟩ := h
  refine le_bind hT sr w hx fun d O1 v F1 H1 hT1 s1 sr1 w1 rx hx1 => ?_
  cases d with
  | lst ds =>
    obtain ⟨p, vs, rfl, h1, h2⟩ := Rep.lst_iff.mp rx
    exact ⟨p, rfl, ⟨vs, SqL.of (w1.same _ _ h1)⟩, hR _ _ _ _ _ hT1 s1 w1 (by rw [hK]; exact gives_list h1 h2)⟩
  | _ => exact hT1.elim
def rangeD (lo : Int) (n : Nat) : List D := (List.range n).map fun (i : Nat) => .int (lo + (i : Int))
theorem gives_range {F : Hp} (lo : Int) (n : Nat) : Gives g F (Itr lo n) (rangeD lo n) := by
  refine ⟨fun i d F' O H q s w => ?_, fun i F' O H q s w => (show n ≤ i by simpa [rangeD] using q)⟩
  have hi : i < n := by
    have z := (List.getElem?_eq_some_iff.mp q).1
    simpa [rangeD] using z
  refine ⟨hi, fun x H' ⟨e, y⟩ => ⟨F', Same.refl F', by rw [e]; exact w, ?_⟩⟩
  have ed : d = .int (lo + (i : Int)) := by
    unfold rangeD at q
    rw [List.getElem?_map, List.getElem?_range hi] at q
    exact (Option.some.inj q).symm
  rw [ed, y]
  exact rint
def dRng1 (R : DA) : DA := fun Δ O P E => R Δ O (fun ds O1 => match ds with | [.int j] => -(2 ^ 62) ≤ j ∧ j < 2 ^ 62 ∧ P (rangeD 0 j.toNat) O1 | _ => False) E
def dRng2 (R : DA) : DA := fun Δ O P E => R Δ O (fun ds O1 => match ds with | [.int i, .int j] => (-(2 ^ 62) ≤ i ∧ i < 2 ^ 62 ∧ -(2 ^ 62) ≤ j ∧ j < 2 ^ 62) ∧ P (rangeD i (j - i).toNat) O1 | _ => False) E
theorem qi_range1 {p : Pos} (hm : X.mg "range" = none) (ha : PA X [a] (la g W R)) (hg : Gl X "range" := by rfl) (hs : starEach [a] X.env = [(false, eval a X.env)] := by rfl) : PI X tg (.Call (.Name "range" p) [a] [] pos) (li g W (dRng1 R)) := by
  refine pi_imp (pi_range1 hg hm ha hs) fun σ H Rr h => ?_
  obtain ⟨Δ, O, P, E, F, hT, sr, w, hR, hx⟩ := h
  refine la_bind hT sr w hx fun ds O1 vs F1 H1 hT1 s1 sr1 w1 rx hx1 => ?_
  split at hT1
  · rename_i j
    obtain ⟨v, r, rfl, h1, h2⟩ := Reps.cons_iff.mp rx
    rw [Reps.nil_iff] at h2
    subst h2
    exact ⟨j, by rw [Rep.int_iff.mp h1], hT1.1, hT1.2.1, hR _ _ _ _ _ hT1.2.2 s1 w1 (gives_range 0 _)⟩
  · exact hT1.elim
/-! ### targets -/
abbrev DG := D → Sl → (Sl → Prop) → Prop
/-- a name; a tuple of names -/
def dgN (i : Nat) : DG := fun d Δ Q => Q (Δ.set i (some d))
def setAll : List Nat → List D → Sl → Option Sl
  | [], [], Δ => some Δ
  | i :: is, d :: ds, Δ => setAll is ds (Δ.set i (some d))
  | _, _, _ => none
def dgT (is : List Nat) : DG := fun d Δ Q => match d with | .tup ds => (match setAll is ds Δ with | some Δ' => Q Δ' | none => False) | _ => False
/-- the heap's target and the data's target belong together, and touch the slots js alone -/
def LkG (g : Gm) (t : TG) (G : DG) (js : List Nat) : Prop := ∀ d v σ Δ F O H (P : Sl → Prop) (Q : St → Hp → Prop), G d Δ P → Rep g F d v → SRel g F σ Δ → Wd g F O H →
  (∀ Δ' σ', P Δ' → SRel g F σ' Δ' → (∀ i : Nat, i ∉ js → σ'[i]? = σ[i]?) → σ'.length = σ.length → Q σ' H) → t v σ H Q
theorem lkg_name (i : Nat) : LkG g (gName i) (dgN i) [i] := fun d v σ Δ F O H P Q hG rv sr w k => k _ _ hG (sr.set rv i) (fun j hj => by
  rw [List.getElem?_set_ne]
  intro e
  exact hj (by simp [e])) (by simp)
def gNames : List Nat → TGs
  | [] => gNil
  | i :: is => gCons (gName i) (gNames is)
theorem lkg_names {F : Hp} {O : Sto} {H : Hp} : ∀ (is : List Nat) (ds : List D) (vs : List V) (σ : St) (Δ Δ' : Sl) (Q : St → Hp → Prop), setAll is ds Δ = some Δ' → Reps g F ds vs → SRel g F σ Δ → Wd g F O H →
    (∀ σ', SRel g F σ' Δ' → (∀ i : Nat, i ∉ is → σ'[i]? = σ[i]?) → σ'.length = σ.length → Q σ' H) → gNames is vs σ H Q ∧ vs.length = is.length := by
  intro is
  induction is with
  | nil =>
    intro ds vs σ Δ Δ' Q h r sr w k
    cases ds with
    | nil =>
      rw [Reps.nil_iff] at r
      subst r
      cases h
      exact ⟨⟨rfl, k σ sr (fun _ _ => rfl) rfl⟩, rfl⟩
    | cons d ds => simp [setAll] at h
  | cons i is ih =>
    intro ds vs σ Δ Δ' Q h r sr w k
    cases ds with
    | nil => simp [setAll] at h
    | cons d ds =>
      obtain ⟨v, rr, rfl, h1, h2⟩ := Reps.cons_iff.mp r
      obtain ⟨q1, q2⟩ := ih ds rr (σ.set i (some v)) (Δ.set i (some d)) Δ' Q h h2 (sr.set h1 i) w (fun σ' z1 z2 z3 => k σ' z1 (fun j hj => by
        rw [z2 j (fun z => hj (List.mem_cons_of_mem _ z)), List.getElem?_set_ne]
        intro e
        exact hj (by simp [e])) (by rw [z3]; simp))
      exact ⟨⟨v, rr, rfl, q1⟩, by rw [List.length_cons, List.length_cons, q2]⟩
theorem lkg_tup (is : List Nat) : LkG g (gTup g.K is.length (gNames is)) (dgT is) is := by
  intro d v σ Δ F O H P Q hG rv sr w k
  cases d with
  | tup ds =>
    obtain ⟨p, vs, rfl, h1, h2⟩ := Rep.tup_sq rv
    have hG : (match setAll is ds Δ with | some Δ' => P Δ' | none => False) := hG
    split at hG
    · rename_i Δ' e
      obtain ⟨q1, q2⟩ := lkg_names is ds vs σ Δ Δ' Q e h2 sr w (fun σ' z1 z2 z3 => k _ σ' hG z1 z2 z3)
      exact ⟨p, vs, rfl, sqt_same w.same h1, q2, q1⟩
    · exact hG.elim
  | _ => exact hG.elim

/-! ### for -/
def forD (Gd : DG) (B : DS) (E : DEnds) : List D → Sl → Sto → Prop
  | [], Δ, O => E.nx Δ O
  | d :: r, Δ, O => Gd d Δ fun Δ' => B { E with nx := forD Gd B E r, ct := forD Gd B E r, bk := E.nx } Δ' O
def dFor (R : DA) (G : DG) (B : DS) : DS := fun D Δ O => R Δ O (fun ds O1 => forD G B D ds Δ O1) (fun x O1 => D.xc x Δ O1)
theorem qs_for {iter : Expr} {body : List Stmt} {t : TG} {Gd : DG} {js : List Nat} {B : DS} (hp : PassesOwn (model X.prog X.w) X.A X.env X.xe) (hi : PI X tg iter (li g W R)) (hg : PG X tg t) (lk : LkG g t Gd js) (hb : PSs X body (ls g W B)) (hc : X.calm = true := by rfl)
    (hs : ∀ x, foldedSetIterable iter X.env x = pure x := by intro _; rfl) : PS X (.For tg iter body [] pos) (ls g W (dFor R Gd B)) := by
  refine ps_imp (ps_for hp hc hi hg hb hs) fun E σ H ⟨D, Δ, O, F, hT, sr, w, ho⟩ => ?_
  refine ⟨Δ, O, _, _, F, hT, sr, w, fun ds O1 F1 H1 J hP s1 w1 gv => ?_, ho.toX sr⟩
  refine ⟨fun i m σ H => m = ds.length - i ∧ i ≤ ds.length ∧ ∃ Δ O F', Same F1 F' ∧ SRel g F' σ Δ ∧ Wd g F' O H ∧ forD Gd B D (ds.drop i) Δ O, ⟨ds.length, by simp, Nat.zero_le _, Δ, O1, F1, Same.refl F1, sr.mono s1, w1, by simpa using hP⟩, ?_⟩
  rintro i m σ2 H2 ⟨rfl, hi, Δ2, O2, F2, s2, sr2, w2, hF⟩
  by_cases hlt : i < ds.length
  · obtain ⟨go, yl⟩ := gv.go i ds[i] F2 O2 H2 (List.getElem?_eq_getElem hlt) s2 w2
    refine .inr ⟨go, fun σ' H' => ∃ Δ O F', Same F1 F' ∧ SRel g F' σ' Δ ∧ Wd g F' O H' ∧ forD Gd B D (ds.drop (i + 1)) Δ O, fun σ' H' q => ⟨ds.length - (i + 1), by omega, rfl, hlt, q⟩, fun x H' y => ?_⟩
    obtain ⟨F3, s3, w3, r3⟩ := yl x H' y
    rw [List.drop_eq_getElem_cons hlt] at hF
    refine lk ds[i] x σ2 Δ2 F3 O2 H' _ _ hF r3 (sr2.mono s3) w3 fun Δ' σ' hB sr' _ _ => ?_
    have s03 : Same F F3 := s1.trans (s2.trans s3)
    refine ⟨_, Δ', O2, F3, hB, sr', w3, ?_⟩
    have nx : ∀ Δ O F' σ H, forD Gd B D (ds.drop (i + 1)) Δ O → Same F3 F' → SRel g F' σ Δ → Wd g F' O H → ∃ Δ O F', Same F1 F' ∧ SRel g F' σ Δ ∧ Wd g F' O H ∧ forD Gd B D (ds.drop (i + 1)) Δ O :=
      fun Δ O F' σ H q s sr w => ⟨Δ, O, F', (s2.trans s3).trans s, sr, w, q⟩
    exact ⟨nx, ho.rt.mono s03, fun Δ O F' σ H q s => (ho.mono s03).nx Δ O F' σ H q s, nx, (ho.mono s03).xc⟩
  · have e : i = ds.length := by omega
    subst e
    refine .inl ⟨gv.stop _ F2 O2 H2 (Nat.le_refl _) s2 w2, ?_⟩
    rw [List.drop_length] at hF
    exact ho.nx _ _ _ _ _ hF (s1.trans s2) sr2 w2
end
end G

set_option Elab.async false
set_option linter.all false
set_option maxRecDepth 100000
set_option maxHeartbeats 4000000
namespace G
open PySem L2
/-! ## comprehensions -/
def wipeD (Δ : Sl) : List Nat → Sl
  | [] => Δ
  | v :: vs => (wipeD Δ vs).set v none
theorem SRel.setNone {g : Gm} {F : Hp} {σ : St} {Δ : Sl} (h : SRel g F σ Δ) (i : Nat) : SRel g F (σ.set i none) (Δ.set i none) := by
  refine ⟨by rw [List.length_set, List.length_set, h.1], fun j e q => ?_⟩
  rw [List.getElem?_set] at q ⊢
  by_cases z : i = j
  · subst z
    rw [if_pos rfl] at q
    by_cases y : i < Δ.length
    · rw [if_pos y] at q
      cases q
    · rw [if_neg y] at q
      cases q
  · rw [if_neg z] at q ⊢
    exact h.2 j e q
theorem SRel.wipe {g : Gm} {F : Hp} {σ : St} {Δ : Sl} (h : SRel g F σ Δ) : ∀ vs : List Nat, SRel g F (L2.wipe σ vs) (wipeD Δ vs)
  | [] => h
  | v :: vs => (SRel.wipe h vs).setNone v
theorem wipe_at (σ : St) : ∀ (vs : List Nat) (i : Nat), (L2.wipe σ vs)[i]? = if i ∈ vs then (if i < σ.length then some none else none) else σ[i]?
  | [], i => by simp [L2.wipe]
  | v :: vs, i => by
    show ((L2.wipe σ vs).set v none)[i]? = _
    rw [List.getElem?_set]
    by_cases z : v = i
    · subst z
      rw [if_pos rfl, L2.wipe_length]
      simp
    · rw [if_neg z, wipe_at σ vs i]
      have e : (i ∈ v :: vs) ↔ i ∈ vs := by
        rw [List.mem_cons]
        exact ⟨fun h => h.elim (fun q => absurd q.symm z) id, .inr⟩
      simp only [e]
theorem wipe_wipe {σ τ : St} {vs : List Nat} (hl : τ.length = (L2.wipe σ vs).length) (h : ∀ i : Nat, i ∉ vs → τ[i]? = (L2.wipe σ vs)[i]?) : L2.wipe τ vs = L2.wipe σ vs := by
  apply List.ext_getElem?
  intro i
  rw [wipe_at, wipe_at]
  rw [L2.wipe_length] at hl
  by_cases z : i ∈ vs
  · rw [if_pos z, if_pos z, hl]
  · rw [if_neg z, if_neg z, h i z, wipe_at, if_neg z]

/-- [e for t in .. if c]: what is left to walk, what has been made (it stands at p) -/
def lcD (Gd : DG) (Tt : DT) (Te : DE) (p : Addr) (P : List D → Sto → Prop) : List D → List D → Sl → Sto → Prop
  | [], acc, _, O => P acc O
  | x :: r, acc, Δ, O => Gd x Δ fun Δ' => Tt Δ' ((p, .lst acc) :: O) (fun k O1 => if k = true
      then Te Δ' O1 (fun y O2 => ∃ O3, O2 = (p, .lst acc) :: O3 ∧ lcD Gd Tt Te p P r (acc ++ [y]) Δ O3) (fun _ _ => False)
      else ∃ O3, O1 = (p, .lst acc) :: O3 ∧ lcD Gd Tt Te p P r acc Δ O3) (fun _ _ => False)
def dLc (R : DA) (Gd : DG) (Tt : DT) (Te : DE) (vs : List Nat) : DE := fun Δ O P E => R Δ O (fun ds O1 => ds.length ≤ 1000000 ∧ ∀ p, freshC O1 p → lcD Gd Tt Te p (fun acc O2 => P (.lst acc) O2) ds [] (wipeD Δ vs) O1) E
/-- the list made is owned -/
def dLcO (R : DA) (Gd : DG) (Tt : DT) (Te : DE) (vs : List Nat) : DE := fun Δ O P E => R Δ O (fun ds O1 => ds.length ≤ 1000000 ∧ ∀ p, freshC O1 p → lcD Gd Tt Te p (fun acc O2 => P (.ptr p) ((p, .lst acc) :: O2)) ds [] (wipeD Δ vs) O1) E
abbrev W0 : WX := fun _ _ _ _ => False
section
variable {g : Gm} {X : Cx} {W : WX} {pos pos' : Pos} {a b c tg : Expr} {Ta Tb : DE} {tA tB : DT} {R : DA}
theorem xok0 {F : Hp} {σ : St} : XOk g F W0 σ (fun _ _ => False) := fun x O cls dd F' H q _ _ _ => q
theorem tlc_of {t : TG} {Gd : DG} {js vs : List Nat} {Tt : DT} {Te : DE} (lk : LkG g t Gd js) (hjs : ∀ j ∈ js, j ∈ vs) {PL : Addr → List D → Sto → Prop} {σ : St} {H : Hp} {Q : VK} {Δ : Sl} {O : Sto} {F : Hp} {J : It} {ds : List D}
    (hT : ds.length ≤ 1000000 ∧ ∀ p, freshC O p → lcD Gd Tt Te p (PL p) ds [] (wipeD Δ vs) O) (sr : SRel g F σ Δ) (w : Wd g F O H) (gv : Gives g F J ds)
    (hQ : ∀ p acc O1 F1 H1, PL p acc O1 → Same F F1 → Wd g F1 ((p, .lst acc) :: O1) H1 → Q (.ref p) H1) :
    ∀ Dl, H Dl = none → ∃ W : Nat → Nat → Hp → Prop, (∃ m, W 0 m (upd H Dl (.lst []))) ∧ ∀ i m H, W i m H →
      (J.stop i H ∧ Q (.ref Dl) H) ∨ (J.go i H ∧ ∃ Nx : Hp → Prop, (∀ H', Nx H' → ∃ m', m' < m ∧ W (i + 1) m' H') ∧ ∀ x H', J.yld i H x H' → t x (L2.wipe σ vs) H' fun σ2 H2 => L2.wipe σ2 vs = L2.wipe σ vs ∧ lt g W0 Tt σ2 H2 fun b H3 =>
        if b = true then le g W0 Te σ2 H3 fun y H4 => ∃ acc, H4 Dl = some (.lst acc) ∧ acc.length < sizeLine ∧ Nx (upd H4 Dl (.lst (acc ++ [y]))) else Nx H3) := by
  intro p hp
  obtain ⟨hz, hT⟩ := hT
  have hT := hT p (w.fresh hp)
  refine ⟨fun i m H => m = ds.length - i ∧ i ≤ ds.length ∧ ∃ acc O1 F', acc.length ≤ i ∧ Same F F' ∧ Wd g F' ((p, .lst acc) :: O1) H ∧ lcD Gd Tt Te p (PL p) (ds.drop i) acc (wipeD Δ vs) O1,
    ⟨ds.length, by simp, Nat.zero_le _, [], O, F, Nat.le_refl _, Same.refl F, w.own (c := .lst []) (o := .lst []) hp (Reps.nil (g := g) (F := F)), by simpa using hT⟩, ?_⟩
  rintro i m H2 ⟨rfl, hi, acc, O2, F2, ha, s2, w2, hL⟩
  by_cases hlt : i < ds.length
  · obtain ⟨go, yl⟩ := gv.go i ds[i] F2 _ H2 (List.getElem?_eq_getElem hlt) s2 w2
    refine .inr ⟨go, fun H' => ∃ acc O1 F', acc.length ≤ i + 1 ∧ Same F F' ∧ Wd g F' ((p, .lst acc) :: O1) H' ∧ lcD Gd Tt Te p (PL p) (ds.drop (i + 1)) acc (wipeD Δ vs) O1, fun H' q => ⟨ds.length - (i + 1), by omega, rfl, hlt, q⟩, fun x H' y => ?_⟩
    obtain ⟨F3, s3, w3, r3⟩ := yl x H' y
    rw [List.drop_eq_getElem_cons hlt] at hL
    refine lk ds[i] x (L2.wipe σ vs) (wipeD Δ vs) F3 _ H' _ _ hL r3 ((sr.wipe vs).mono (s2.trans s3)) w3 fun Δ' σ' hB sr' ho hl => ⟨wipe_wipe hl fun j hj => ho j fun q => hj (hjs j q), ?_⟩
    refine lt_bind hB sr' w3 xok0 fun k O4 F4 H4 hT4 s4 sr4 w4 hx4 => ?_
    cases k with
    | true =>
      rw [if_pos rfl] at hT4 ⊢
      refine le_bind hT4 sr4 w4 hx4 fun y O5 vy F5 H5 hT5 s5 sr5 w5 ry hx5 => ?_
      obtain ⟨O6, e6, hT6⟩ := hT5
      subst e6
      obtain ⟨_, ob, h1, h2⟩ := w5.cel (p, .lst acc) List.mem_cons_self
      cases ob with
      | lst vs' =>
        have h2 : Reps g F5 acc vs' := h2
        refine ⟨vs', h1, ?_, acc ++ [y], O6, F5, ?_, s2.trans (s3.trans (s4.trans s5)), ?_, hT6⟩
        · rw [← h2.length, sizeLine_eq]
          omega
        · rw [List.length_append, List.length_singleton]
          omega
        · have z := w5.set (a := p) (c := .lst acc) (c' := .lst (acc ++ [y])) (o := .lst (vs' ++ [vy])) (by simp [getC]) (h2.append (Reps.one ry))
          simpa [setC] using z
      | _ => exact h2.elim
    | false =>
      rw [if_neg Bool.false_ne_true] at hT4 ⊢
      obtain ⟨O6, e6, hT6⟩ := hT4
      subst e6
      exact ⟨acc, O6, F4, by omega, s2.trans (s3.trans s4), w4, hT6⟩
  · have e : i = ds.length := by omega
    subst e
    rw [List.drop_length] at hL
    exact .inl ⟨gv.stop _ F2 _ H2 (Nat.le_refl _) s2 w2, hQ p acc O2 F2 H2 hL s2 w2⟩
theorem q_lc {elt iter : Expr} {ifs : List Expr} {scope : Scope} {own : List (Str × Nat)} {t : TG} {Gd : DG} {js : List Nat} {Tt : DT} {Te : DE} (hN : X.N.Nodup) (hi : PI X tg iter (li g W R)) (ok : BlkOk X.N X.env.scope scope own)
    (hg : ∀ (s : Shared) (H : Hp) (C : Addr) (cl : List (Str × Addr)) (fp : List Addr), PG (X.blk s H scope (compEnvC scope cl C X.env) fp) tg t) (lk : LkG g t Gd js) (ht : ∀ (s : Shared) (H : Hp) (C : Addr) (cl : List (Str × Addr)) (fp : List Addr), PTs (X.blk s H scope (compEnvC scope cl C X.env) fp) ifs (lt g W0 Tt))
    (he : ∀ (s : Shared) (H : Hp) (C : Addr) (cl : List (Str × Addr)) (fp : List Addr), PE (X.blk s H scope (compEnvC scope cl C X.env) fp) elt (le g W0 Te)) (hc : X.calm = true := by rfl) (hjs : ∀ j ∈ js, j ∈ own.map (·.2) := by decide) (hs : ∀ x, foldedSetIterable iter X.env x = pure x := by intro _; rfl) :
    PE X (.ListComp elt [⟨tg, iter, ifs, 0⟩] scope pos) (le g W (dLc R Gd Tt Te (own.map (·.2)))) := by
  refine pe_imp (pe_lc hc hN hi ok hg ht he hs) fun σ H Q h => ?_
  obtain ⟨Δ, O, P, E, F, hT, sr, w, hv, hx⟩ := h
  refine ⟨Δ, O, _, _, F, hT, sr, w, fun ds O1 F1 H1 J hP s1 w1 gv => ?_, hx⟩
  refine tlc_of (PL := fun _ acc O2 => P (.lst acc) O2) lk hjs hP (sr.mono s1) w1 gv fun p acc O2 F2 H2 hp s2 w2 => ?_
  obtain ⟨o, ho, hc, s3, w3⟩ := w2.freeze (a := p) (c := .lst acc) (by simp [getC])
  exact hv _ _ _ _ _ hp (s1.trans (s2.trans s3)) (by simpa [delC] using w3) (frz_rep rfl hc (w2.cel _ List.mem_cons_self).1)
def dYes : DT := fun _ O P _ => P true O
theorem qts_nil : PTs X [] (lt g W dYes) := ⟨fun pins s σ H Q I h => pts_nil.run pins s σ H Q I (by
  obtain ⟨Δ, O, P, E, F, hT, sr, w, hv, hx⟩ := h
  exact hv.now hT w)⟩
end

/-! ## calls -/
abbrev DSp := List D → Sto → KD → KX → Prop
def toSp (g : Gm) (S : DSp) : Sp := fun vs H Q E => ∃ F O ds P EX, Reps g F ds vs ∧ Wd g F O H ∧ S ds O P EX ∧ VOk g F P Q ∧ ∀ x O' cls dd F' H', EX x O' → Same F F' → Wd g F' O' H' → RelX g F' cls dd x → E cls dd H'
/-- the def at f keeps the promise S, by level k -/
def FN (g : Gm) (P : Program) (w : World) (K : PySem.W.Frag) (mg : Str → Option Value) (base : Heap) (k : Nat) (f : Addr) (S : DSp) : Prop := FnR P w K mg base (L2.CX P w) k f (toSp g S)
theorem FN.mono {g : Gm} {P : Program} {w : World} {K : PySem.W.Frag} {mg : Str → Option Value} {base : Heap} {j k : Nat} {f : Addr} {S : DSp} (h : FN g P w K mg base j f S) (hj : j ≤ k) : FN g P w K mg base k f S :=
  fun A outer s H us vs Q E hr => h A outer s H us vs Q E (hr.mono hj)
theorem FN.imp {g : Gm} {P : Program} {w : World} {K : PySem.W.Frag} {mg : Str → Option Value} {base : Heap} {k : Nat} {f : Addr} {S S' : DSp} (h : FN g P w K mg base k f S) (hS : ∀ ds O P E, S' ds O P E → S ds O P E) : FN g P w K mg base k f S' :=
  fun A outer s H us vs Q E hr e0 hv ⟨F, O, ds, P, EX, h1, h2, h3, h4⟩ => h A outer s H us vs Q E hr e0 hv ⟨F, O, ds, P, EX, h1, h2, hS _ _ _ _ h3, h4⟩
section
variable {g : Gm} {X : Cx} {W : WX} {pos pos' p apos : Pos} {a b c o : Expr} {es : List Expr} {Ta Tb : DE} {R : DA} {k : Nat} {f : Addr} {S : DSp} {x m : Str}
theorem run_FN {pins : List (Addr × Obj)} {σ : St} {H : Hp} {s : Shared} {Q : VK} {us : List Value} {vs : List V} (Fn : FN g X.prog X.w X.K X.mg X.base k f S) (hr : Room k X.A) (tk : Takes X W) (I : Inv X pins σ H s) (r : Vals vs us)
    (h : toSp g S vs H Q (fun cls dd H' => W cls dd σ H')) : codeAny (model X.prog X.w) X.A (.call (.ref f) ⟨us, []⟩) (fun r s' => match r with | .ok (.ret v) => EP X pins σ Q v s' | .ok _ => False | .error e => X.xe e s') s := by
  refine codeAny_mono (Fn X.A X.stack s H us vs Q _ hr I.env0 r h) fun r s' hq => ?_
  cases r with
  | error e => exact passAt tk σ pins H s e s' I hq
  | ok fl =>
    cases fl with
    | ret u => exact I.after hq
    | next => exact False.elim hq
    | brk => exact False.elim hq
    | cont => exact False.elim hq
def dCall (S : DSp) (R : DA) : DE := fun Δ O P E => R Δ O (fun ds O1 => S ds O1 P E) E
theorem sp_of {σ : St} {H1 : Hp} {Q : VK} {P : KD} {E : KX} {F F1 : Hp} {O1 : Sto} {ds : List D} {vs : List V} (h : S ds O1 P E) (rs : Reps g F1 ds vs) (w1 : Wd g F1 O1 H1) (hv : VOk g F P Q) (s1 : Same F F1) (hx : XOk g F1 W σ E) :
    toSp g S vs H1 Q (fun cls dd H' => W cls dd σ H') := ⟨F1, O1, ds, P, E, rs, w1, h, hv.mono s1, hx⟩
theorem q_call (Fn : FN g X.prog X.w X.K X.mg X.base k f S) (hr : Room k X.A) (tk : Takes X W) (hm : X.mg x = some (.ref f)) (hk : PySem.W.keepIn X.K (.ref f) = true) (ha : PA X (a :: es) (la g W R)) (hg : Gl X x := by rfl)
    (hdb : (x == ("__debug__" : Str)) = false := by decide) (he : starEach (a :: es) X.env = (false, eval a X.env) :: starEach es X.env := by rfl) (hpl : (backTo pos (starEach es X.env)).any (·.1) = false := by rfl) :
    PE X (.Call (.Name x p) (a :: es) [] pos) (le g W (dCall S R)) := by
  refine ⟨fun pins s σ H Q I h => ?_⟩
  obtain ⟨Δ, O, P, E, F, hT, sr, w, hv, hx⟩ := h
  refine wpAny_Call_Name_kw (ld_glob I hg hm ?_ hdb)
  refine PySem.W.callWith_K (h₀ := X.base) I.ok.mod.kin hk (thn (ha.run pos pins s σ H _ I (la_bind (Q := fun vs H1 => toSp g S vs H1 Q fun cls dd H' => W cls dd σ H') hT sr w hx fun ds O1 vs F1 H1 hT1 s1 sr1 w1 rs hx1 => sp_of hT1 rs w1 hv s1 hx1)) fun us s1 ⟨vs, H1, I1, r, q⟩ => ⟨I1.kIn, ?_⟩) he hpl
  exact wpAny_call (run_FN Fn hr tk I1 r q)
/-! ### a new object -/
def dMake (cl : Cl) (S : DSp) (R : DA) : DE := fun Δ O P E => R Δ O (fun ds O1 => ∀ q, freshC O1 q → S (.ptr q :: ds) ((q, .ins cl [] []) :: O1)
  (fun r O2 => r = .non ∧ (match getC O2 q with | some (.ins c' fs ds') => P (.obj c' fs ds') (delC O2 q) | _ => False)) (fun x O2 => E x (delC O2 q))) E
/-- .. that will change -/
def dMakeO (cl : Cl) (S : DSp) (R : DA) : DE := fun Δ O P E => R Δ O (fun ds O1 => ∀ q, freshC O1 q → S (.ptr q :: ds) ((q, .ins cl [] []) :: O1)
  (fun r O2 => r = .non ∧ P (.ptr q) O2) (fun x O2 => E x (delC O2 q))) E
theorem wd_made {F : Hp} {O : Sto} {H : Hp} (w : Wd g F O H) {x dx : Addr} (hx : H x = none) (hd : H dx = none) (ne : dx ≠ x) (cl : Cl) :
    Same F (upd F dx (.own x)) ∧ Wd g (upd F dx (.own x)) ((x, .ins cl [] []) :: O) (upd (upd H dx (.own x)) x (.ins (g.ca cl) dx [])) :=
  ⟨w.fsame hd, (w.frozen (o := .own x) hd).own (c := .ins cl [] []) (o := .ins (g.ca cl) dx []) (by rw [upd_ne ne.symm]; exact hx) ⟨rfl, rfl, [], rfl, Reps.nil (g := g)⟩⟩
theorem run_mk {C : Addr} {pins : List (Addr × Obj)} {σ : St} {H : Hp} {s : Shared} {Q : VK} {us : List Value} {vs : List V} (M : Mk X.K C f) (Fn : FN g X.prog X.w X.K X.mg X.base k f S) (hr : Room (k + 1) X.A) (tk : Takes X W) (I : Inv X pins σ H s) (r : Vals vs us)
    (h : ∀ x dx, H x = Option.none → H dx = Option.none → dx ≠ x → toSp g S (V.ref x :: vs) (upd (upd H dx (.own x)) x (.ins C dx [])) (fun v H2 => v = .non ∧ Q (.ref x) H2) (fun cls dd H' => W cls dd σ H')) :
    wpAny (model X.prog X.w) X.A (call (.ref C) us) (EP X pins σ Q) X.xe s := by
  have hq := h (s.heap.objs.size + 1) s.heap.objs.size (I.hok.fresh (Nat.le_succ _)) (I.hok.fresh (Nat.le_refl _)) (Nat.ne_of_lt (Nat.lt_succ_self _))
  have I2 := Inv.made (C := C) I
  have r2 : Vals (V.ref (s.heap.objs.size + 1) :: vs) (Value.ref (s.heap.objs.size + 1) :: us) := .cons rfl r
  refine wpAny_call (make_map (f := f) I.kIn M.makes M.init (beq_iff_eq.mp M.fn) (codeAny_mono (Fn _ X.stack _ _ (Value.ref (s.heap.objs.size + 1) :: us) _ _ _ (hr.make C us []) (I2.env0.make C us []) r2 hq) fun r s' hq' => ?_))
  cases r with
  | error e => exact passAt tk σ pins _ _ e s' I2 hq'
  | ok fl =>
    cases fl with
    | ret u =>
      obtain ⟨v, H', I3, rv, ev, q3⟩ := I2.after hq'
      subst ev
      exact ⟨rv, ⟨V.ref (s.heap.objs.size + 1), H', I3, rfl, q3⟩⟩
    | next => exact False.elim hq'
    | brk => exact False.elim hq'
    | cont => exact False.elim hq'
theorem mk_sp {cl : Cl} {σ : St} {H1 : Hp} {Q : VK} {P : KD} {E : KX} {F F1 : Hp} {O1 : Sto} {ds : List D} {vs : List V}
    (h : ∀ q, freshC O1 q → S (.ptr q :: ds) ((q, .ins cl [] []) :: O1) (fun r O2 => r = .non ∧ (match getC O2 q with | some (.ins c' fs ds') => P (.obj c' fs ds') (delC O2 q) | _ => False)) (fun x O2 => E x (delC O2 q)))
    (rs : Reps g F1 ds vs) (w1 : Wd g F1 O1 H1) (hv : VOk g F P Q) (s1 : Same F F1) (hx : XOk g F1 W σ E) (x dx : Addr) (nx : H1 x = none) (nd : H1 dx = none) (ne : dx ≠ x) :
    toSp g S (V.ref x :: vs) (upd (upd H1 dx (.own x)) x (.ins (g.ca cl) dx [])) (fun v H2 => v = .non ∧ Q (.ref x) H2) (fun cls dd H' => W cls dd σ H') := by
  obtain ⟨s2, w2⟩ := wd_made w1 nx nd ne cl
  refine ⟨_, _, _, _, _, Reps.cons (Rep.ptr_iff.mpr rfl) (rs.mono s2), w2, h x (w1.fresh nx), fun d O3 v F3 H3 hd s3 w3 rd => ?_, fun y O3 cls dd F3 H3 hE s3 w3 rx => ?_⟩
  · obtain ⟨e, hd⟩ := hd
    subst e
    refine ⟨Rep.non_iff.mp rd, ?_⟩
    split at hd
    · rename_i c' fs ds' eg
      obtain ⟨ob, ho, hc, s4, w4⟩ := w3.freeze eg
      exact hv _ _ _ _ _ hd (s1.trans (s2.trans (s3.trans s4))) w4 (frz_rep rfl hc (w3.get eg).1)
    · exact hd.elim
  · exact hx _ _ _ _ _ _ hE (s2.trans s3) (w3.sub (delC_sub _ _)) rx
theorem q_make {cl : Cl} (M : Mk X.K (g.ca cl) f) (Fn : FN g X.prog X.w X.K X.mg X.base k f S) (hr : Room (k + 1) X.A) (tk : Takes X W) (hm : X.mg x = some (.ref (g.ca cl))) (ha : PA X (a :: es) (la g W R)) (hg : Gl X x := by rfl)
    (hdb : (x == ("__debug__" : Str)) = false := by decide) (he : starEach (a :: es) X.env = (false, eval a X.env) :: starEach es X.env := by rfl) (hpl : (backTo pos (starEach es X.env)).any (·.1) = false := by rfl) :
    PE X (.Call (.Name x p) (a :: es) [] pos) (le g W (dMake cl S R)) := by
  refine ⟨fun pins s σ H Q I h => ?_⟩
  obtain ⟨Δ, O, P, E, F, hT, sr, w, hv, hx⟩ := h
  refine wpAny_Call_Name_kw (ld_glob I hg hm ?_ hdb)
  refine PySem.W.callWith_K (h₀ := X.base) I.ok.mod.kin M.kp (thn (ha.run pos pins s σ H _ I (la_bind (Q := fun vs H1 => ∀ x dx, H1 x = none → H1 dx = none → dx ≠ x → toSp g S (V.ref x :: vs) (upd (upd H1 dx (.own x)) x (.ins (g.ca cl) dx [])) (fun v H2 => v = .non ∧ Q (.ref x) H2) fun cls dd H' => W cls dd σ H') hT sr w hx
    fun ds O1 vs F1 H1 hT1 s1 sr1 w1 rs hx1 x dx nx nd ne => mk_sp hT1 rs w1 hv s1 hx1 x dx nx nd ne)) fun us s1 ⟨vs, H1, I1, r, q⟩ => ⟨I1.kIn, ?_⟩) he hpl
  exact run_mk M Fn hr tk I1 r q

/-! ### a method, by the class of its object -/
def clsOf (O : Sto) (d : D) : Option Cl := (objOf O d).map (·.1)
/-- class and method: the def that serves it keeps S -/
structure MOk (g : Gm) (P : Program) (w : World) (K : PySem.W.Frag) (mg : Str → Option Value) (base : Heap) (k : Nat) (cl : Cl) (m : Str) (S : DSp) : Prop where
  cls : Cls K (g.ca cl)
  ex : ∃ f, Meth K (g.ca cl) m f ∧ FN g P w K mg base k f S
def tabAt : List (Cl × DSp) → Cl → Option DSp
  | [], _ => none
  | (c, S) :: r, d => if d = c then some S else tabAt r d
def dMeth (tab : List (Cl × DSp)) (To : DE) (R : DA) : DE := fun Δ O P E => To Δ O (fun o O1 => match clsOf O1 o with
  | some c => (match tabAt tab c with | some S => R Δ O1 (fun ds O2 => S (o :: ds) O2 P E) E | none => False)
  | none => False) E
theorem obj_look {F : Hp} {O : Sto} {H : Hp} {d : D} {v : V} {c : Cl} (h : clsOf O d = some c) (r : Rep g F d v) (w : Wd g F O H) (hm : Fd.of m = none) : ∃ q dx fs, v = .ref q ∧ H q = some (.ins (g.ca c) dx fs) ∧ fs.lookup m = none := by
  unfold clsOf at h
  cases e : objOf O d with
  | none => rw [e] at h; cases h
  | some t =>
    rw [e] at h
    cases h
    obtain ⟨q, dx, vs, rfl, h1, h2, h3⟩ := obj_of e r w
    refine ⟨q, dx, _, rfl, h1, getF_none fun f _ z => ?_⟩
    rw [z, Fd.of_str] at hm
    cases hm
end
end G

set_option Elab.async false
set_option linter.all false
set_option maxRecDepth 100000
set_option maxHeartbeats 4000000
namespace G
open PySem L2
/-! ## a def keeps its promise -/
def Weak (O O' : Sto) : Prop := ∀ g F H, Wd g F O H → Wd g F O' H
def Opn (O : Sto) (R : Sto → Prop) : Prop := ∀ g F H, Wd g F O H → ∃ O', Wd g F O' H ∧ R O'
theorem Weak.refl (O : Sto) : Weak O O := fun _ _ _ w => w
theorem Weak.sub {O O' : Sto} (h : O'.Sublist O) : Weak O O' := fun _ _ _ w => w.sub h
theorem Weak.trans {O O1 O2 : Sto} (h : Weak O O1) (h' : Weak O1 O2) : Weak O O2 := fun g F H w => h' g F H (h g F H w)
theorem Weak.cons {O : Sto} {c : Addr × Cell} : Weak (c :: O) O := Weak.sub (List.sublist_cons_self _ _)
theorem Opn.now {O : Sto} {R : Sto → Prop} (h : R O) : Opn O R := fun _ _ _ w => ⟨O, w, h⟩
def boxC (cs : List Int) (i a s : Int) : Cell := .lst [.lst (cs.map D.int), .int i, .int a, .int s]
theorem setC_same {O : Sto} {a : Addr} {c : Cell} (h : getC O a = some c) : setC O a c = O := by
  induction O with
  | nil => rfl
  | cons q r ih =>
    obtain ⟨b, c0⟩ := q
    simp only [getC] at h
    simp only [setC]
    by_cases e : a = b
    · subst e
      simp at h
      subst h
      simp
    · rw [if_neg e] at h ⊢
      rw [ih h]
theorem setC_setC (O : Sto) (a : Addr) (c c' : Cell) : setC (setC O a c) a c' = setC O a c' := by
  induction O with
  | nil => rfl
  | cons q r ih =>
    obtain ⟨b, c0⟩ := q
    simp only [setC]
    by_cases e : a = b
    · subst e
      simp [setC]
    · rw [if_neg e, if_neg e]
      simp [setC, e, ih]
theorem getC_setC {O : Sto} {a : Addr} {c c' : Cell} (h : getC O a = some c) : getC (setC O a c') a = some c' := by
  induction O with
  | nil => simp [getC] at h
  | cons q r ih =>
    obtain ⟨b, c0⟩ := q
    simp only [getC] at h
    simp only [setC]
    by_cases e : a = b
    · subst e
      simp [getC]
    · rw [if_neg e] at h ⊢
      simp only [getC]
      rw [if_neg e]
      exact ih h
/-- the box opened: what is in it -/
theorem Opn.box {O : Sto} {b : Addr} {R : Sto → Prop} (h : getC O b = some .box) (k : ∀ cs i a s, cs.length ≤ 63 → 0 ≤ i → 0 ≤ a → R (setC O b (boxC cs i a s))) : Opn O R := fun g F H w => by
  obtain ⟨fa, o, ho, hc⟩ := w.get h
  cases o with
  | lst vs =>
    obtain ⟨cs, i, a, s, h1, h2, h3, h4⟩ := hc
    refine ⟨_, ?_, k cs i a s h2 h3 h4⟩
    have z := w.set h (c' := boxC cs i a s) (o := .lst vs) h1
    have e : upd H b (.lst vs) = H := by
      funext q
      by_cases z : q = b
      · rw [z, upd_same, ho]
      · rw [upd_ne z]
    rw [e] at z
    exact z
  | _ => exact hc.elim
/-- .. and shut again -/
theorem Weak.box {O : Sto} {b : Addr} {cs : List Int} {i a s : Int} (h : getC O b = some (boxC cs i a s)) (h2 : cs.length ≤ 63) (h3 : 0 ≤ i) (h4 : 0 ≤ a) : Weak O (setC O b .box) := fun g F H w => by
  obtain ⟨fa, o, ho, hc⟩ := w.get h
  cases o with
  | lst vs =>
    have z := w.set h (c' := .box) (o := .lst vs) ⟨cs, i, a, s, hc, h2, h3, h4⟩
    have e : upd H b (.lst vs) = H := by
      funext q
      by_cases z : q = b
      · rw [z, upd_same, ho]
      · rw [upd_ne z]
    rw [e] at z
    exact z
  | _ => exact hc.elim
/-- a fresh list becomes the box -/
theorem Weak.toBox {O : Sto} {b : Addr} {cs : List Int} {i a s : Int} (h2 : cs.length ≤ 63) (h3 : 0 ≤ i) (h4 : 0 ≤ a) : Weak ((b, boxC cs i a s) :: O) ((b, .box) :: O) := by
  have z := Weak.box (O := (b, boxC cs i a s) :: O) (b := b) (cs := cs) (i := i) (a := a) (s := s) (by simp [getC]) h2 h3 h4
  simpa [setC] using z

def endsD (P : KD) (E : KX) : DEnds where
  nx := fun _ O' => ∃ O1, Weak O' O1 ∧ P .non O1
  rt := fun d O' => ∃ O1, Weak O' O1 ∧ P d O1
  xc := fun x _ O' => ∃ O1, Weak O' O1 ∧ E x O1
def startD (N : List Str) (ds : List D) : Sl := ds.map some ++ List.replicate (N.length - ds.length) none
theorem srel_start {g : Gm} {F : Hp} {N : List Str} {ds : List D} {vs : List V} (h : Reps g F ds vs) : SRel g F (L2.start N vs) (startD N ds) := by
  have hl := h.length
  refine ⟨by simp [L2.start, startD, hl], fun i d q => ?_⟩
  unfold startD at q
  unfold L2.start
  by_cases hi : i < ds.length
  · rw [List.getElem?_append_left (by simpa using hi), List.getElem?_map] at q
    cases e : ds[i]? with
    | none => rw [e] at q; cases q
    | some d' =>
      rw [e] at q
      cases q
      obtain ⟨v, hv, rv⟩ := h.get e
      refine ⟨v, ?_, rv⟩
      rw [List.getElem?_append_left (by simpa [← hl] using hi), List.getElem?_map, hv]
      rfl
  · rw [List.getElem?_append_right (by simpa using hi)] at q
    have z := List.mem_of_getElem? q
    rw [List.mem_replicate] at z
    exact absurd z.2 (by simp)
section
variable {P : Program} {w : World} {K : PySem.W.Frag} {mg : Str → Option Value} {base : Heap}
abbrev wE (E : XK) : WX := fun cls dd _ H => E cls dd H
theorem fn_okF {g : Gm} {x qual : Str} {st : Stmt} {f : Addr} {fd : FuncData} {N ps : List Str} {k : Nat} {S : DSp} {T : DS} (Fn : Fun K x qual st f fd) (Sc : FnScope N ps (defScope st)) (len : ∀ ds O P E, S ds O P E → ds.length = ps.length)
    (body : ∀ (cdv : Value) (A : Around) (outer : List Env) (s : Shared) (H : Hp) (E : XK), Room k (A.deeper (PyProof.Rows.envOfC qual (defScope st) s.heap.objs.size f cdv)) →
      PSs (cxOf (L2.CX P w) P w K mg base N qual (defScope st) f cdv A outer s H E) (defBody st) (ls g (wE E) T))
    (pure : ∀ ds O P E, S ds O P E → Opn O fun O' => T (endsD P E) (startD N ds) O') : FnOk P w K mg base (L2.CX P w) (k + 1) f fd ps (toSp g S) := by
  refine Fn.okX Sc (fun vs H Q E h => ?_) fun cdv A outer s H vs Q E hr h => ⟨_, body cdv A outer s H E hr, ?_⟩
  · obtain ⟨F, O, ds, P', EX, h1, h2, h3, _⟩ := h
    rw [← h1.length]
    exact len _ _ _ _ h3
  · obtain ⟨F, O, ds, P', EX, h1, h2, h3, h4, h5⟩ := h
    obtain ⟨O', w', hT⟩ := pure ds O P' EX h3 g F H h2
    refine ⟨endsD P' EX, startD N ds, O', F, hT, srel_start h1, w', ⟨fun Δ O1 F1 σ H1 ⟨O2, wk, q⟩ s1 sr1 w1 => ?_, fun d O1 v F1 H1 ⟨O2, wk, q⟩ s1 w1 r1 => ?_, fun _ _ _ _ _ q => q.elim, fun _ _ _ _ _ q => q.elim, fun y Δ O1 cls dd F1 σ H1 ⟨O2, wk, q⟩ s1 sr1 w1 r1 => ?_⟩⟩
    · exact h4 _ _ _ _ _ q s1 (wk _ _ _ w1) (Rep.non_iff.mpr rfl)
    · exact h4 _ _ _ _ _ q s1 (wk _ _ _ w1) r1
    · exact h5 _ _ _ _ _ _ q s1 (wk _ _ _ w1) r1
theorem fn_FN {g : Gm} {f : Addr} {fd : FuncData} {ps : List Str} {k : Nat} {S : DSp} (F : FnOk P w K mg base (L2.CX P w) k f fd ps (toSp g S)) (hb : Binds K fd ps []) : FN g P w K mg base k f S :=
  fun A outer s H us vs Q E hr e0 hv h => F.run A outer s H ⟨us, []⟩ us vs Q E hr e0 (by
    have hl : us.length = ps.length := by rw [← hv.length]; exact F.len _ _ _ _ h
    have z := hb s us (e0.mod.kin.keeps fun b o e => (e0.bs b o e).1) (by rw [List.append_nil]; exact hl)
    rw [List.append_nil] at z
    exact z) hv h
end

/-! ## builtins -/
section
variable {g : Gm} {X : Cx} {W : WX} {pos pos' p : Pos} {a b c : Expr} {Ta Tb : DE}
def seqOf (O : Sto) : D → Option (List D)
  | .tup ds => some ds
  | d => lstOf O d
def lenD (O : Sto) : D → Option Nat
  | .str x => if x.length ≤ sizeLine then some x.length else none
  | .dic ks _ => some ks.length
  | .tup ds => some ds.length
  | .ptr q => match getC O q with
    | some (.lst ds) => some ds.length
    | some (.dic ks _) => some ks.length
    | _ => none
  | .lst ds => some ds.length
  | _ => none
def fLen : BC := fun ds O P => match ds with | [d] => (match lenD O d with | some n => P (.int (n : Int)) O | none => False) | _ => False
def rLenA (K : PySem.W.Frag) : List V → Hp → VK → Prop := fun xs H Q => (∃ p ys, xs = [.ref p] ∧ (SqL K H p ys ∨ SqT K H p ys) ∧ Q (.int ys.length) H) ∨ (∃ z, xs = [.str z] ∧ z.length ≤ sizeLine ∧ Q (.int z.length) H) ∨ ∃ d kvs, xs = [.ref d] ∧ Rd H d (.dK kvs) ∧ Q (.int kvs.length) H
theorem call_lenRd : CallR X (.builtin "len") (fun xs H Q => ∃ a kvs, xs = [V.ref a] ∧ Rd H a (.dK kvs) ∧ Q (.int kvs.length) H) := by
  intro pins s σ H xs us Q I r h
  obtain ⟨a, kvs, rfl, e, q⟩ := h
  obtain ⟨u, rfl, rx⟩ := vals1 r
  obtain rfl : u = Value.ref a := rx
  exact d_len I e fun t s' I' => ⟨V.int kvs.length, H, I', ⟨t, rfl⟩, q⟩
theorem call_lenA : CallR X (.builtin "len") (rLenA X.K) := CallR.or call_len_seq (CallR.or call_len_str call_lenRd)
theorem zipK_len {F : Hp} {ks : List Key} {ds : List D} {vs : List V} (h : Reps g F ds vs) (hl : ks.length = ds.length) : (zipK ks vs).length = ks.length := by
  unfold zipK
  rw [List.length_zip, ← h.length]
  omega
theorem lk_len : LkC g (rLenA g.K) fLen := by
  intro ds O P F H vs Q hf rs w hv
  unfold fLen at hf
  split at hf
  · rename_i d
    obtain ⟨v, r, rfl, h1, h2⟩ := Reps.cons_iff.mp rs
    rw [Reps.nil_iff] at h2
    subst h2
    split at hf
    · rename_i n e
      cases d with
      | str x =>
        simp only [lenD] at e
        split at e
        · rename_i hl
          cases e
          rw [Rep.str_iff.mp h1]
          exact .inr (.inl ⟨x, rfl, hl, hv.now hf w rint⟩)
        · cases e
      | tup ds =>
        obtain ⟨q, vs, rfl, h3, h4⟩ := Rep.tup_sq h1
        cases e
        exact .inl ⟨q, vs, rfl, .inr (sqt_same w.same h3), by rw [← h4.length]; exact hv.now hf w rint⟩
      | lst ds =>
        obtain ⟨q, vs, rfl, h3, h4⟩ := Rep.lst_iff.mp h1
        cases e
        exact .inl ⟨q, vs, rfl, .inl (SqL.of (w.same _ _ h3)), by rw [← h4.length]; exact hv.now hf w rint⟩
      | dic ks ds =>
        obtain ⟨q, od, vs, rfl, h3, h5, h4⟩ := Rep.dic_iff.mp h1
        cases e
        exact .inr (.inr ⟨q, _, rfl, .inr ⟨od, w.same _ _ h3⟩, by rw [zipK_len h4 h5]; exact hv.now hf w rint⟩)
      | ptr q =>
        have ev := Rep.ptr_iff.mp h1
        subst ev
        simp only [lenD] at e
        split at e
        · rename_i ds eg
          cases e
          obtain ⟨_, ob, h3, h4⟩ := w.get eg
          cases ob with
          | lst vs =>
            have h4 : Reps g F ds vs := h4
            exact .inl ⟨q, vs, rfl, .inl (SqL.of h3), by rw [← h4.length]; exact hv.now hf w rint⟩
          | _ => exact h4.elim
        · rename_i ks ds eg
          cases e
          obtain ⟨_, ob, h3, h4⟩ := w.get eg
          cases ob with
          | dK kvs =>
            obtain ⟨h5, vs, rfl, h6⟩ := h4
            exact .inr (.inr ⟨q, _, rfl, .inl h3, by rw [zipK_len h6 h5]; exact hv.now hf w rint⟩)
          | _ => exact h4.elim
        · cases e
      | _ => simp [lenD] at e
    · exact hf.elim
  · exact hf.elim
def fInt : BC := fun ds O P => match ds with | [.int i] => P (.int i) O | [.bl k] => P (.int (if k then 1 else 0)) O | _ => False
theorem lk_int : LkC g (fun xs H Q => (∃ i, xs = [.int i] ∧ Q (.int i) H) ∨ ∃ k, xs = [.bl k] ∧ Q (.int (if k then 1 else 0)) H) fInt := by
  intro ds O P F H vs Q hf rs w hv
  unfold fInt at hf
  split at hf
  · rename_i i
    obtain ⟨v, r, rfl, h1, h2⟩ := Reps.cons_iff.mp rs
    rw [Reps.nil_iff] at h2
    subst h2
    exact .inl ⟨i, by rw [Rep.int_iff.mp h1], hv.now hf w rint⟩
  · rename_i k
    obtain ⟨v, r, rfl, h1, h2⟩ := Reps.cons_iff.mp rs
    rw [Reps.nil_iff] at h2
    subst h2
    exact .inr ⟨k, by rw [Rep.bl_iff.mp h1], hv.now hf w rint⟩
  · exact hf.elim
def fNeg : D → Sto → KD → Prop := fun x O P => match x with | .int i => P (.int (-i)) O | _ => False
def dUn (f : D → Sto → KD → Prop) (T : DE) : DE := fun Δ O P E => T Δ O (fun x O1 => f x O1 P) E
/-- isinstance(x, T), T a built-in class -/
def tyD (O : Sto) : D → Option String
  | .non => some "NoneType"
  | .bl _ => some "bool"
  | .int _ => some "int"
  | .str _ => some "str"
  | .lst _ => some "list"
  | .ptr q => match getC O q with | some (.lst _) => some "list" | some (.dic _ _) => some "dict" | _ => none
  | .dic _ _ => some "dict"
  | _ => none
theorem ty_of {F : Hp} {O : Sto} {H : Hp} {d : D} {v : V} {n : String} (h : tyD O d = some n) (r : Rep g F d v) (w : Wd g F O H) : TyX g.K H v (.type n) := by
  cases d with
  | non => cases h; rw [Rep.non_iff.mp r]; exact .base .non
  | bl b => cases h; rw [Rep.bl_iff.mp r]; exact .base (.bl b)
  | int i => cases h; rw [Rep.int_iff.mp r]; exact .base (.int i)
  | str x => cases h; rw [Rep.str_iff.mp r]; exact .base (.str x)
  | lst ds =>
    cases h
    obtain ⟨q, vs, rfl, h3, h4⟩ := Rep.lst_iff.mp r
    exact .base (.lst (w.same _ _ h3))
  | dic ks ds =>
    cases h
    obtain ⟨q, od, vs, rfl, h3, h4⟩ := Rep.dic_iff.mp r
    exact .fDict (w.same _ _ h3)
  | ptr q =>
    rw [Rep.ptr_iff] at r
    subst r
    simp only [tyD] at h
    split at h
    · rename_i ds eg
      cases h
      obtain ⟨_, ob, h3, h4⟩ := w.get eg
      cases ob with
      | lst vs => exact .base (.lst h3)
      | _ => exact h4.elim
    · rename_i ks ds eg
      cases h
      obtain ⟨_, ob, h3, h4⟩ := w.get eg
      cases ob with
      | dK vs => exact .base (.dK h3)
      | _ => exact h4.elim
    · cases h
  | _ => simp [tyD] at h
def dIsT (n : String) (T : DE) : DE := fun Δ O P E => T Δ O (fun d O1 => match tyD O1 d with
  | some m => (match kitB m n with | some k => P (.bl k) O1 | none => False)
  | none => False) E
/-! ### slices -/
def cutD (xs : List D) (lo hi : Option Int) : List D := (xs.drop (HT.sIx xs.length 0 lo)).take (HT.sIx xs.length xs.length hi - HT.sIx xs.length 0 lo)
abbrev DO := Sl → Sto → (Option Int → Sto → Prop) → KX → Prop
def dNoP : DO := fun _ O P _ => P none O
def dPart (T : DE) : DO := fun Δ O P E => T Δ O (fun d O1 => match d with | .int i => P (some i) O1 | _ => False) E
def lo' (g : Gm) (W : WX) (T : DO) : TO := fun σ H Q => ∃ Δ O P E F, T Δ O P E ∧ SRel g F σ Δ ∧ Wd g F O H ∧ (∀ i O' F' H', P i O' → Same F F' → Wd g F' O' H' → Q i H') ∧ XOk g F W σ E
theorem po_imp {X : Cx} {e : Option Expr} {t t' : TO} (h : PO X e t) (k : ∀ σ H Q, t' σ H Q → t σ H Q) : PO X e t' := ⟨fun pins s σ H Q I q => h.run pins s σ H Q I (k _ _ _ q)⟩
theorem qo_none : PO X none (lo' g W dNoP) := po_imp po_none fun σ H Q ⟨Δ, O, P, E, F, hT, sr, w, hv, hx⟩ => hv _ _ _ _ hT (Same.refl F) w
theorem qo_some (h : PE X a (le g W Ta)) : PO X (some a) (lo' g W (dPart Ta)) := by
  refine po_imp (po_some h) fun σ H Q h => ?_
  obtain ⟨Δ, O, P, E, F, hT, sr, w, hv, hx⟩ := h
  refine le_bind hT sr w hx fun d O1 v F1 H1 hT1 s1 sr1 w1 rx hx1 => ?_
  cases d with
  | int i => exact ⟨i, Rep.int_iff.mp rx, hv _ _ _ _ hT1 s1 w1⟩
  | _ => exact hT1.elim
def dSlice (T : DE) (L U : DO) : DE := fun Δ O P E => T Δ O (fun d O1 => L Δ O1 (fun l O2 => U Δ O2 (fun u O3 => match d with
  | .scr ns => P (.lst (cutD (ns.map D.int) l u)) O3
  | _ => match lstOf O3 d with | some ds => P (.lst (cutD ds l u)) O3 | none => False) E) E) E
theorem Reps.cut {F : Hp} {ds : List D} {vs : List V} (h : Reps g F ds vs) (lo hi : Option Int) : Reps g F (cutD ds lo hi) (cutV vs lo hi) := by
  unfold cutD cutV
  rw [h.length]
  exact (h.drop _).take _
theorem q_slice {lo hi : Option Expr} {L U : DO} {p2 : Pos} (ha : PE X a (le g W Ta)) (hl : PO X lo (lo' g W L)) (hu : PO X hi (lo' g W U)) (hK : X.K = g.K := by rfl) : PE X (.Subscript a (.Slice lo hi none p2) pos) (le g W (dSlice Ta L U)) := by
  refine pe_imp (pe_slice sl_list ha hl hu) fun σ H Q h => ?_
  obtain ⟨Δ, O, P, E, F, hT, sr, w, hv, hx⟩ := h
  refine le_bind hT sr w hx fun d O1 v F1 H1 hT1 s1 sr1 w1 rx hx1 => ⟨Δ, O1, _, E, F1, hT1, sr1, w1, fun l O2 F2 H2 hT2 s2 w2 => ⟨Δ, O2, _, E, F2, hT2, sr1.mono s2, w2, fun u O3 F3 H3 hT3 s3 w3 => ?_, hx1.mono s2⟩, hx1⟩
  have s13 : Same F F3 := s1.trans (s2.trans s3)
  have r3 := rx.mono (s2.trans s3)
  have key : (match lstOf O3 d with | some ds => P (.lst (cutD ds l u)) O3 | none => False) → rSlL X.K v l u H3 Q := by
    intro hf
    split at hf
    · rename_i ds e
      obtain ⟨q, vs, rfl, h1, h2⟩ := lst_of e r3 w3
      exact ⟨q, vs, rfl, SqL.of h1, fun t ht => hv _ _ _ _ _ hf (s13.trans (w3.fsame ht)) (w3.frozen ht) ((h2.cut l u).newL (w3.same.free ht))⟩
    · exact hf.elim
  cases d with
  | scr ns =>
    obtain ⟨q, rfl, h1⟩ := Rep.scr_iff.mp r3
    refine ⟨q, ns.map V.int, rfl, by rw [hK]; exact w3.same.seq h1, fun t ht => hv _ _ _ _ _ hT3 (s13.trans (w3.fsame ht)) (w3.frozen ht) ?_⟩
    exact ((Reps.ints (g := g) (F := F3)).mpr rfl |>.cut l u).newL (w3.same.free ht)
  | _ => exact key hT3
end
end G

set_option Elab.async false
set_option linter.all false
set_option maxRecDepth 100000
set_option maxHeartbeats 4000000
namespace G
open PySem L2
/-! ## == of plain data -/
mutual
def py : D → Option PyData
  | .non => some .none
  | .bl b => some (.bool b)
  | .int i => some (.int i)
  | .str x => some (.str x)
  | .lst ds => (pys ds).map .list
  | .tup ds => (pys ds).map .tuple
  | _ => none
def pys : List D → Option (List PyData)
  | [] => some []
  | d :: ds => match py d, pys ds with | some x, some xs => some (x :: xs) | _, _ => none
end
section
variable {g : Gm}
mutual
theorem py_dp {F : Hp} {O : Sto} {H : Hp} (w : Wd g F O H) : ∀ {d : D} {v : V} {x : PyData}, py d = some x → Rep g F d v → Dp g.K H v x
  | .non, v, x, h, r => by simp only [py] at h; cases h; rw [Rep.non_iff.mp r]; exact .non
  | .bl b, v, x, h, r => by simp only [py] at h; cases h; rw [Rep.bl_iff.mp r]; exact .bl b
  | .int b, v, x, h, r => by simp only [py] at h; cases h; rw [Rep.int_iff.mp r]; exact .int b
  | .str b, v, x, h, r => by simp only [py] at h; cases h; rw [Rep.str_iff.mp r]; exact .str b
  | .lst ds, v, x, h, r => by
    simp only [py] at h
    obtain ⟨p, vs, rfl, h1, h2⟩ := Rep.lst_iff.mp r
    cases e : pys ds with
    | none => rw [e] at h; cases h
    | some xs =>
      rw [e] at h
      cases h
      exact .lst (SqL.of (w.same _ _ h1)) (pys_dp w e h2)
  | .tup ds, v, x, h, r => by
    simp only [py] at h
    obtain ⟨p, vs, rfl, h1, h2⟩ := Rep.tup_sq r
    cases e : pys ds with
    | none => rw [e] at h; cases h
    | some xs =>
      rw [e] at h
      cases h
      exact .tup (sqt_same w.same h1) (pys_dp w e h2)
  | .obj _ _ _, v, x, h, r => by simp [py] at h
  | .dic _ _, v, x, h, r => by simp [py] at h
  | .ptr _, v, x, h, r => by simp [py] at h
  | .scr _, v, x, h, r => by simp [py] at h
  | .cls _, v, x, h, r => by simp [py] at h
  | .xcp _ _ _ _, v, x, h, r => by simp [py] at h
theorem pys_dp {F : Hp} {O : Sto} {H : Hp} (w : Wd g F O H) : ∀ {ds : List D} {vs : List V} {xs : List PyData}, pys ds = some xs → Reps g F ds vs → DpAll g.K H vs xs
  | [], vs, xs, h, r => by
    simp only [pys] at h
    cases h
    rw [Reps.nil_iff] at r
    subst r
    exact .nil
  | d :: ds, vs, xs, h, r => by
    obtain ⟨v, rr, rfl, h1, h2⟩ := Reps.cons_iff.mp r
    simp only [pys] at h
    cases e1 : py d with
    | none => rw [e1] at h; cases h
    | some x =>
      cases e2 : pys ds with
      | none => rw [e1, e2] at h; cases h
      | some xs' =>
        rw [e1, e2] at h
        cases h
        exact .cons (py_dp w e1 h1) (pys_dp w e2 h2)
end
end
/-- the answer of x == y -/
def eqB (x y : D) : Option Bool := match x, y with
  | .int i, .int j => some (decide (i = j))
  | .bl i, .bl j => some (decide (i = j))
  | .str i, .str j => some (decide (i = j))
  | _, _ => match py x, py y with
    | some a, some b => if SeqAt.shaped a = true ∧ SeqAt.shaped b = true then some (PyData.eqv a b) else none
    | _, _ => none
def fEq : B2 := fun x y O P => match eqB x y with | some k => P (.bl k) O | none => False
def fNe : B2 := fun x y O P => match eqB x y with | some k => P (.bl (!k)) O | none => False
def rEqA (K : PySem.W.Frag) : R2 := fun x y H Q => rEq x y H Q ∨ rEqD K x y H Q
def rNeA (K : PySem.W.Frag) : R2 := fun x y H Q => rNe x y H Q ∨ rNeD K x y H Q
section
variable {g : Gm} {X : Cx} {W : WX} {pos pos' p : Pos} {a b c : Expr} {Ta Tb : DE}
theorem op_eqA (hu : X.A.units + 64 < cLine) (hK : X.K = g.K := by rfl) : OpR X (compareOp .Eq) (rEqA g.K) := by
  rw [← hK]
  exact OpR.or op_eq (op_eqD hu)
theorem op_neA (hu : X.A.units + 64 < cLine) (hK : X.K = g.K := by rfl) : OpR X (compareOp .NotEq) (rNeA g.K) := by
  rw [← hK]
  exact OpR.or op_ne (op_neD hu)
theorem eqB_cases {x y : D} {k : Bool} (h : eqB x y = some k) : (∃ i j, x = .int i ∧ y = .int j ∧ k = decide (i = j)) ∨ (∃ i j, x = .bl i ∧ y = .bl j ∧ k = decide (i = j)) ∨ (∃ i j, x = .str i ∧ y = .str j ∧ k = decide (i = j)) ∨
    ∃ d e, py x = some d ∧ py y = some e ∧ SeqAt.shaped d = true ∧ SeqAt.shaped e = true ∧ k = PyData.eqv d e := by
  unfold eqB at h
  split at h
  · exact .inl ⟨_, _, rfl, rfl, (Option.some.inj h).symm⟩
  · exact .inr (.inl ⟨_, _, rfl, rfl, (Option.some.inj h).symm⟩)
  · exact .inr (.inr (.inl ⟨_, _, rfl, rfl, (Option.some.inj h).symm⟩))
  · split at h
    · rename_i d e h1 h2
      split at h
      · rename_i hs
        exact .inr (.inr (.inr ⟨d, e, h1, h2, hs.1, hs.2, (Option.some.inj h).symm⟩))
      · cases h
    · cases h
theorem lk_eq : Lk2 g (rEqA g.K) fEq := by
  intro x y O P F H vx vy Q hf rx ry w hv
  unfold fEq at hf
  split at hf
  · rename_i k e
    rcases eqB_cases e with ⟨i, j, rfl, rfl, rfl⟩ | ⟨i, j, rfl, rfl, rfl⟩ | ⟨i, j, rfl, rfl, rfl⟩ | ⟨d, e', h1, h2, h3, h4, rfl⟩
    · rw [Rep.int_iff.mp rx, Rep.int_iff.mp ry]
      refine .inl ⟨rfl, ?_⟩
      have z : decide (V.int i = V.int j) = decide (i = j) := by simp
      rw [z]
      exact hv.now hf w rbl
    · rw [Rep.bl_iff.mp rx, Rep.bl_iff.mp ry]
      refine .inl ⟨rfl, ?_⟩
      have z : decide (V.bl i = V.bl j) = decide (i = j) := by simp
      rw [z]
      exact hv.now hf w rbl
    · rw [Rep.str_iff.mp rx, Rep.str_iff.mp ry]
      refine .inl ⟨rfl, ?_⟩
      have z : decide (V.str i = V.str j) = decide (i = j) := by simp
      rw [z]
      exact hv.now hf w rbl
    · exact .inr ⟨d, e', py_dp w h1 rx, py_dp w h2 ry, h3, h4, hv.now hf w rbl⟩
  · exact hf.elim
theorem lk_ne : Lk2 g (rNeA g.K) fNe := by
  intro x y O P F H vx vy Q hf rx ry w hv
  unfold fNe at hf
  split at hf
  · rename_i k e
    rcases eqB_cases e with ⟨i, j, rfl, rfl, rfl⟩ | ⟨i, j, rfl, rfl, rfl⟩ | ⟨i, j, rfl, rfl, rfl⟩ | ⟨d, e', h1, h2, h3, h4, rfl⟩
    · rw [Rep.int_iff.mp rx, Rep.int_iff.mp ry]
      refine .inl ⟨rfl, ?_⟩
      have z : decide (V.int i = V.int j) = decide (i = j) := by simp
      rw [z]
      exact hv.now hf w rbl
    · rw [Rep.bl_iff.mp rx, Rep.bl_iff.mp ry]
      refine .inl ⟨rfl, ?_⟩
      have z : decide (V.bl i = V.bl j) = decide (i = j) := by simp
      rw [z]
      exact hv.now hf w rbl
    · rw [Rep.str_iff.mp rx, Rep.str_iff.mp ry]
      refine .inl ⟨rfl, ?_⟩
      have z : decide (V.str i = V.str j) = decide (i = j) := by simp
      rw [z]
      exact hv.now hf w rbl
    · exact .inr ⟨d, e', py_dp w h1 rx, py_dp w h2 ry, h3, h4, hv.now hf w rbl⟩
  · exact hf.elim
end

/-! ## what the top has written -/
/-- the names of builtins that the program's top leaves alone -/
structure Bt (mg : Str → Option Value) : Prop where
  len : mg "len" = none
  int : mg "int" = none
  bool : mg "bool" = none
  str : mg "str" = none
  isinstance : mg "isinstance" = none
  range : mg "range" = none
  max : mg "max" = none
  min : mg "min" = none
  abs : mg "abs" = none
  sorted : mg "sorted" = none
  sum : mg "sum" = none
  any : mg "any" = none
  all : mg "all" = none
  list : mg "list" = none
  dict : mg "dict" = none
  tuple : mg "tuple" = none
  enumerate : mg "enumerate" = none
  zip : mg "zip" = none
  repr : mg "repr" = none
  iter : mg "iter" = none
  super : mg "super" = none
section
variable (g : Gm) (P : Program) (w : World) (K : PySem.W.Frag) (mg : Str → Option Value) (base : Heap)
/-- the def of that name keeps S -/
def GD (k : Nat) (name : Str) (S : DSp) : Prop := ∃ f, mg name = some (.ref f) ∧ PySem.W.keepIn K (.ref f) = true ∧ FN g P w K mg base k f S
/-- the class of that name can be made, its __init__ keeps S -/
def GC (k : Nat) (cl : Cl) (name : Str) (S : DSp) : Prop := mg name = some (.ref (g.ca cl)) ∧ ∃ f, Mk K (g.ca cl) f ∧ FN g P w K mg base k f S
end
section
variable {g : Gm} {P : Program} {w : World} {K : PySem.W.Frag} {mg : Str → Option Value} {base : Heap}
/-- what a def's body needs: its walk, for every place it stands at -/
def BodyOk (g : Gm) (P : Program) (w : World) (K : PySem.W.Frag) (mg : Str → Option Value) (base : Heap) (k : Nat) (N : List Str) (qual : Str) (st : Stmt) (T : DS) : Prop :=
  ∀ (f : Addr) (cdv : Value) (A : Around) (outer : List Env) (s : Shared) (H : Hp) (E : XK), Room k (A.deeper (PyProof.Rows.envOfC qual (defScope st) s.heap.objs.size f cdv)) →
      PSs (cxOf (L2.CX P w) P w K mg base N qual (defScope st) f cdv A outer s H E) (defBody st) (ls g (wE E) T)
/-- the promise follows from the body's reading -/
def Pure (N : List Str) (n : Nat) (S : DSp) (T : DS) : Prop := ∀ ds O P E, S ds O P E → ds.length = n ∧ Opn O fun O' => T (endsD P E) (startD N ds) O'
theorem GD.mono {j k : Nat} {name : Str} {S : DSp} (h : GD g P w K mg base j name S) (hj : j ≤ k) : GD g P w K mg base k name S := by
  obtain ⟨f, h1, h2, h3⟩ := h
  exact ⟨f, h1, h2, h3.mono hj⟩
theorem MOk.mono {j k : Nat} {cl : Cl} {name : Str} {S : DSp} (h : MOk g P w K mg base j cl name S) (hj : j ≤ k) : MOk g P w K mg base k cl name S := by
  obtain ⟨h1, f, h2, h3⟩ := h
  exact ⟨h1, f, h2, h3.mono hj⟩
end
section
variable {g : Gm} {X : Cx} {W : WX} {pos pos' p : Pos} {a b c : Expr} {es : List Expr} {R : DA} {k j : Nat} {x : Str} {S : DSp} {cl : Cl}
theorem q_gcall (h : GD g X.prog X.w X.K X.mg X.base k x S) (hr : Room j X.A) (tk : Takes X W) (ha : PA X (a :: es) (la g W R)) (hkj : k ≤ j := by first | decide | omega) (hg : Gl X x := by rfl)
    (hdb : (x == ("__debug__" : Str)) = false := by decide) (he : starEach (a :: es) X.env = (false, eval a X.env) :: starEach es X.env := by rfl) (hpl : (backTo pos (starEach es X.env)).any (·.1) = false := by rfl) :
    PE X (.Call (.Name x p) (a :: es) [] pos) (le g W (dCall S R)) := by
  obtain ⟨f, hm, hk, Fn⟩ := h
  exact q_call Fn (hr.mono hkj) tk hm hk ha hg hdb he hpl
theorem q_gmake (h : GC g X.prog X.w X.K X.mg X.base k cl x S) (hr : Room j X.A) (tk : Takes X W) (ha : PA X (a :: es) (la g W R)) (hkj : k + 1 ≤ j := by first | decide | omega) (hg : Gl X x := by rfl)
    (hdb : (x == ("__debug__" : Str)) = false := by decide) (he : starEach (a :: es) X.env = (false, eval a X.env) :: starEach es X.env := by rfl) (hpl : (backTo pos (starEach es X.env)).any (·.1) = false := by rfl) :
    PE X (.Call (.Name x p) (a :: es) [] pos) (le g W (dMake cl S R)) := by
  obtain ⟨hm, f, mk, Fn⟩ := h
  exact q_make mk Fn (hr.mono hkj) tk hm ha hg hdb he hpl
/-- a statement's list is frozen ahead of it -/
def dFrzS (i : Nat) (T : DS) : DS := fun D Δ O => match Δ[i]? with
  | some (some (.ptr q)) => (match getC O q with | some c => (match frzD c with | some d => T D (Δ.set i (some d)) (delC O q) | none => False) | none => False)
  | _ => False
end
end G

set_option Elab.async false
set_option linter.all false
set_option maxRecDepth 100000
set_option maxHeartbeats 4000000
namespace G
open PySem L2
/-! ## reading by rewriting -/
section
variable {Δ : Sl} {O : Sto} {P : KD} {E : KX} {En : DEnds} {Ta Tb Tc : DE} {T U : DS} {R : DA} {t u : DT} {i j : Nat} {d x y : D} {PB : Bool → Sto → Prop} {PA : List D → Sto → Prop}
/-- the value in a slot -/
def sl (Δ : Sl) (i : Nat) : Option D := match Δ[i]? with | some o => o | none => none
theorem e_v0 {r : Sl} : dVar 0 (some d :: r) O P E = P d O := propext Iff.rfl
theorem e_vS {o : Option D} {r : Sl} : dVar (i + 1) (o :: r) O P E = dVar i r O P E := by
  unfold dVar
  rw [List.getElem?_cons_succ]
theorem e_seq : dSeq T U En Δ O = T { En with nx := U En } Δ O := propext Iff.rfl
theorem e_asg : dAsg i Ta En Δ O = Ta Δ O (fun d O1 => En.nx (Δ.set i (some d)) O1) (fun x O1 => En.xc x Δ O1) := propext Iff.rfl
theorem e_exp : dExp Ta En Δ O = Ta Δ O (fun _ O1 => En.nx Δ O1) (fun x O1 => En.xc x Δ O1) := propext Iff.rfl
theorem e_ret : dRet Ta En Δ O = Ta Δ O En.rt (fun x O1 => En.xc x Δ O1) := propext Iff.rfl
theorem e_retN : dRetN En Δ O = En.rt .non O := propext Iff.rfl
theorem e_ifS : dIfS t T U En Δ O = t Δ O (fun k O1 => if k = true then T En Δ O1 else U En Δ O1) (fun x O1 => En.xc x Δ O1) := propext Iff.rfl
theorem e_next : dNext En Δ O = En.nx Δ O := propext Iff.rfl
theorem e_nev : dNev En Δ O = False := propext Iff.rfl
theorem e_c : dC d Δ O P E = P d O := propext Iff.rfl
theorem e_op {f : B2} : dOp f Ta Tb Δ O P E = Ta Δ O (fun x O1 => Tb Δ O1 (fun y O2 => f x y O2 P) E) E := propext Iff.rfl
theorem e_un {f : D → Sto → KD → Prop} : dUn f Ta Δ O P E = Ta Δ O (fun x O1 => f x O1 P) E := propext Iff.rfl
theorem e_te : dTe Ta Δ O PB E = Ta Δ O (fun d O1 => match d with | .bl k => PB k O1 | _ => False) E := propext Iff.rfl
theorem e_tru : dTru Ta Δ O PB E = Ta Δ O (fun d O1 => match truD O1 d with | some k => PB k O1 | none => False) E := propext Iff.rfl
theorem e_and : dAnd t u Δ O PB E = t Δ O (fun k O1 => if k = true then u Δ O1 PB E else PB false O1) E := propext Iff.rfl
theorem e_or : dOr t u Δ O PB E = t Δ O (fun k O1 => if k = true then PB true O1 else u Δ O1 PB E) E := propext Iff.rfl
theorem e_not : dNot t Δ O PB E = t Δ O (fun k O1 => PB (!k) O1) E := propext Iff.rfl
theorem e_andV : dAndV Ta Tb Δ O P E = Ta Δ O (fun d O1 => match d with | .bl k => (if k = true then Tb Δ O1 P E else P (.bl false) O1) | _ => False) E := propext Iff.rfl
theorem e_orV : dOrV Ta Tb Δ O P E = Ta Δ O (fun d O1 => match d with | .bl k => (if k = true then P (.bl true) O1 else Tb Δ O1 P E) | _ => False) E := propext Iff.rfl
theorem e_notV : dNotV Ta Δ O P E = Ta Δ O (fun d O1 => match d with | .bl k => P (.bl (!k)) O1 | _ => False) E := propext Iff.rfl
theorem e_if : dIf t Ta Tb Δ O P E = t Δ O (fun k O1 => if k = true then Ta Δ O1 P E else Tb Δ O1 P E) E := propext Iff.rfl
theorem e_chain {f f' : B2} : dChain f f' Ta Tb Tc Δ O P E = Ta Δ O (fun x O1 => Tb Δ O1 (fun y O2 => f x y O2 (fun z O3 => match z with | .bl k => (if k = true then Tc Δ O3 (fun t O4 => f' y t O4 P) E else P (.bl false) O3) | _ => False)) E) E := propext Iff.rfl
theorem e_nil : dNil Δ O PA E = PA [] O := propext Iff.rfl
theorem e_cons : dCons Ta R Δ O PA E = Ta Δ O (fun d O1 => R Δ O1 (fun ds O2 => PA (d :: ds) O2) E) E := propext Iff.rfl
theorem e_tup : dTup R Δ O P E = R Δ O (fun ds O1 => ds.length ≤ sizeLine ∧ P (.tup ds) O1) E := propext Iff.rfl
theorem e_lst : dLst R Δ O P E = R Δ O (fun ds O1 => ds.length ≤ sizeLine ∧ P (.lst ds) O1) E := propext Iff.rfl
theorem e_lstO : dLstO R Δ O P E = R Δ O (fun ds O1 => ds.length ≤ sizeLine ∧ ∀ p, freshC O1 p → P (.ptr p) ((p, .lst ds) :: O1)) E := propext Iff.rfl
theorem e_cb {f : BC} : dCB f R Δ O P E = R Δ O (fun ds O1 => f ds O1 P) E := propext Iff.rfl
theorem e_call {S : DSp} : dCall S R Δ O P E = R Δ O (fun ds O1 => S ds O1 P E) E := propext Iff.rfl
theorem e_fld {cs : List Cl} {f : Fd} : dFld cs f Ta Δ O P E = Ta Δ O (fun d O1 => match objOf O1 d with
  | some t => t.1 ∈ cs ∧ (match getF f t.2.1 t.2.2 with | some e => P e O1 | none => False)
  | none => False) E := propext Iff.rfl
theorem e_frz : dFrz Ta Δ O P E = Ta Δ O (fun d O1 => match d with
  | .ptr a => (match getC O1 a with | some c => (match frzD c with | some d' => P d' (delC O1 a) | none => False) | none => False)
  | _ => False) E := propext Iff.rfl
theorem e_app : dApp Ta Tb Δ O P E = Ta Δ O (fun o O1 => match o with
  | .ptr p => (match getC O1 p with
    | some (.lst _) => Tb Δ O1 (fun d O2 => match getC O2 p with
      | some (.lst ds) => ds.length < sizeLine ∧ P .non (setC O2 p (.lst (ds ++ [d])))
      | _ => False) E
    | _ => False)
  | _ => False) E := propext Iff.rfl
theorem e_setIx : dSetIx Ta Tb Tc En Δ O = Tc Δ O (fun d O1 => Ta Δ O1 (fun o O2 => Tb Δ O2 (fun i O3 => match o, i with
  | .ptr p, .int k => (match getC O3 p with
    | some (.lst ds) => (match setI ds k d with | some es => En.nx Δ (setC O3 p (.lst es)) | none => False)
    | _ => False)
  | _, _ => False) (fun x O1 => En.xc x Δ O1)) (fun x O1 => En.xc x Δ O1)) (fun x O1 => En.xc x Δ O1) := propext Iff.rfl
theorem set_0 {a d : D} {r : List D} : setI (a :: r) 0 d = some (d :: r) := by
  have h : ixN (a :: r).length 0 = some 0 := by unfold ixN; rw [if_pos (by omega), if_pos (by simp only [List.length_cons]; omega)]; rfl
  unfold setI
  rw [h]
  rfl
theorem set_1 {a b d : D} {r : List D} : setI (a :: b :: r) 1 d = some (a :: d :: r) := by
  have h : ixN (a :: b :: r).length 1 = some 1 := by unfold ixN; rw [if_pos (by omega), if_pos (by simp only [List.length_cons]; omega)]; rfl
  unfold setI
  rw [h]
  rfl
theorem set_2 {a b c d : D} {r : List D} : setI (a :: b :: c :: r) 2 d = some (a :: b :: d :: r) := by
  have h : ixN (a :: b :: c :: r).length 2 = some 2 := by unfold ixN; rw [if_pos (by omega), if_pos (by simp only [List.length_cons]; omega)]; rfl
  unfold setI
  rw [h]
  rfl
theorem set_3 {a b c e d : D} {r : List D} : setI (a :: b :: c :: e :: r) 3 d = some (a :: b :: c :: d :: r) := by
  have h : ixN (a :: b :: c :: e :: r).length 3 = some 3 := by unfold ixN; rw [if_pos (by omega), if_pos (by simp only [List.length_cons]; omega)]; rfl
  unfold setI
  rw [h]
  rfl
theorem e_setF {cs : List Cl} {f : Fd} : dSetF cs f Ta Tb En Δ O = Tb Δ O (fun d O1 => Ta Δ O1 (fun o O2 => match o with
  | .ptr p => (match getC O2 p with
    | some (.ins c fs ds) => c ∈ cs ∧ fs.length < 900 ∧ En.nx Δ (setC O2 p (.ins c (putFs f fs) (putDs f d fs ds)))
    | _ => False)
  | _ => False) (fun x O1 => En.xc x Δ O1)) (fun x O1 => En.xc x Δ O1) := propext Iff.rfl
theorem e_isT {n : String} : dIsT n Ta Δ O P E = Ta Δ O (fun d O1 => match tyD O1 d with
  | some m => (match kitB m n with | some k => P (.bl k) O1 | none => False)
  | none => False) E := propext Iff.rfl
/-! ### operations on made data -/
theorem f_ixT {ds : List D} {i : Int} : fIx (.tup ds) (.int i) O P = (match atI ds i with | some d => P d O | none => False) := propext Iff.rfl
theorem f_ixL {ds : List D} {i : Int} : fIx (.lst ds) (.int i) O P = (match atI ds i with | some d => P d O | none => False) := propext Iff.rfl
theorem f_ixP {a : Addr} {i : Int} : fIx (.ptr a) (.int i) O P = (match lstOf O (.ptr a) with | some ds => (match atI ds i with | some d => P d O | none => False) | none => False) := propext Iff.rfl
theorem f_add {i j : Int} : fAdd (.int i) (.int j) O P = P (.int (i + j)) O := propext Iff.rfl
theorem f_sub {i j : Int} : fSub (.int i) (.int j) O P = P (.int (i - j)) O := propext Iff.rfl
theorem f_mul {i j : Int} : fMul (.int i) (.int j) O P = (CMul i j ∧ P (.int (i * j)) O) := propext Iff.rfl
theorem f_mod {i j : Int} : fMod (.int i) (.int j) O P = (0 < j ∧ P (.int (i % j)) O) := propext Iff.rfl
theorem f_div {i j : Int} : fDiv (.int i) (.int j) O P = (CDiv i j ∧ P (.int (i / j)) O) := propext Iff.rfl
theorem f_pow {i j : Int} : fPow (.int i) (.int j) O P = (CPow i j ∧ P (.int (i ^ j.toNat)) O) := propext Iff.rfl
theorem f_lt {i j : Int} : fLt (.int i) (.int j) O P = P (.bl (decide (i < j))) O := propext Iff.rfl
theorem f_le {i j : Int} : fLe (.int i) (.int j) O P = P (.bl (decide (i ≤ j))) O := propext Iff.rfl
theorem f_gt {i j : Int} : fGt (.int i) (.int j) O P = P (.bl (decide (j < i))) O := propext Iff.rfl
theorem f_ge {i j : Int} : fGe (.int i) (.int j) O P = P (.bl (decide (j ≤ i))) O := propext Iff.rfl
theorem f_eq {i j : Int} : fEq (.int i) (.int j) O P = P (.bl (decide (i = j))) O := propext Iff.rfl
theorem f_ne {i j : Int} : fNe (.int i) (.int j) O P = P (.bl (!decide (i = j))) O := propext Iff.rfl
theorem f_int {i : Int} : fInt [.int i] O P = P (.int i) O := propext Iff.rfl
theorem f_neg {i : Int} : fNeg (.int i) O P = P (.int (-i)) O := propext Iff.rfl
theorem f_lenL {ds : List D} : fLen [.lst ds] O P = P (.int (ds.length : Int)) O := propext Iff.rfl
theorem f_lenT {ds : List D} : fLen [.tup ds] O P = P (.int (ds.length : Int)) O := propext Iff.rfl
theorem f_lenP {a : Addr} : fLen [.ptr a] O P = (match lenD O (.ptr a) with | some n => P (.int (n : Int)) O | none => False) := propext Iff.rfl
theorem l_ptr {a : Addr} {ds : List D} (h : getC O a = some (.lst ds)) : lstOf O (.ptr a) = some ds := by simp only [lstOf, h]
theorem n_ptr {a : Addr} {ds : List D} (h : getC O a = some (.lst ds)) : lenD O (.ptr a) = some ds.length := by simp only [lenD, h]
theorem getC_self {a : Addr} {c : Cell} : getC ((a, c) :: O) a = some c := by simp [getC]
theorem getC_other {a b : Addr} {c : Cell} (h : a ≠ b) : getC ((b, c) :: O) a = getC O a := by simp [getC, h]
theorem setC_self {a : Addr} {c c' : Cell} : setC ((a, c) :: O) a c' = (a, c') :: O := by simp [setC]
theorem delC_self {a : Addr} {c : Cell} : delC ((a, c) :: O) a = O := by simp [delC]
theorem at_0 {a : D} {r : List D} : atI (a :: r) 0 = some a := atI_nat (j := 0) rfl
theorem at_1 {a b : D} {r : List D} : atI (a :: b :: r) 1 = some b := atI_nat (j := 1) rfl
theorem at_2 {a b c : D} {r : List D} : atI (a :: b :: c :: r) 2 = some c := atI_nat (j := 2) rfl
theorem at_3 {a b c e : D} {r : List D} : atI (a :: b :: c :: e :: r) 3 = some e := atI_nat (j := 3) rfl
theorem f_ixT0 {a : D} {r : List D} : fIx (.tup (a :: r)) (.int 0) O P = P a O := by rw [f_ixT, at_0]
theorem f_ixT1 {a b : D} {r : List D} : fIx (.tup (a :: b :: r)) (.int 1) O P = P b O := by rw [f_ixT, at_1]
theorem f_ixT2 {a b c : D} {r : List D} : fIx (.tup (a :: b :: c :: r)) (.int 2) O P = P c O := by rw [f_ixT, at_2]
theorem f_ixL0 {a : D} {r : List D} : fIx (.lst (a :: r)) (.int 0) O P = P a O := by rw [f_ixL, at_0]
theorem f_ixL1 {a b : D} {r : List D} : fIx (.lst (a :: b :: r)) (.int 1) O P = P b O := by rw [f_ixL, at_1]
theorem f_ixL2 {a b c : D} {r : List D} : fIx (.lst (a :: b :: c :: r)) (.int 2) O P = P c O := by rw [f_ixL, at_2]
theorem f_ixL3 {a b c e : D} {r : List D} : fIx (.lst (a :: b :: c :: e :: r)) (.int 3) O P = P e O := by rw [f_ixL, at_3]
end
end G

set_option Elab.async false
set_option linter.all false
set_option maxRecDepth 100000
set_option maxHeartbeats 4000000
namespace G
open PySem L2
/-! ## loops over plain data -/
inductive All2 {α β : Type} (R : α → β → Prop) : List α → List β → Prop
  | nil : All2 R [] []
  | cons {a : α} {b : β} {as : List α} {bs : List β} : R a b → All2 R as bs → All2 R (a :: as) (b :: bs)
theorem All2.length {α β : Type} {R : α → β → Prop} {as : List α} {bs : List β} (h : All2 R as bs) : as.length = bs.length := by
  induction h with
  | nil => rfl
  | cons _ _ ih => simp [ih]
section
variable {Δ : Sl} {O : Sto} {P : KD} {E : KX} {En : DEnds} {Ta Tb Tc : DE} {T U : DS} {R : DA} {t u : DT} {i j : Nat} {d x y : D} {PB : Bool → Sto → Prop} {PA : List D → Sto → Prop}
  {Gd : DG} {Tt : DT} {Te : DE} {p : Addr} {vs : List Nat}
theorem e_itL : dItL Ta Δ O PA E = Ta Δ O (fun d O1 => match d with | .lst ds => PA ds O1 | _ => False) E := propext Iff.rfl
theorem e_itT : dItT Ta Δ O PA E = Ta Δ O (fun d O1 => match d with | .tup ds => PA ds O1 | _ => False) E := propext Iff.rfl
theorem e_rng1 : dRng1 R Δ O PA E = R Δ O (fun ds O1 => match ds with | [.int j] => -(2 ^ 62) ≤ j ∧ j < 2 ^ 62 ∧ PA (rangeD 0 j.toNat) O1 | _ => False) E := propext Iff.rfl
theorem e_rng2 : dRng2 R Δ O PA E = R Δ O (fun ds O1 => match ds with | [.int i, .int j] => (-(2 ^ 62) ≤ i ∧ i < 2 ^ 62 ∧ -(2 ^ 62) ≤ j ∧ j < 2 ^ 62) ∧ PA (rangeD i (j - i).toNat) O1 | _ => False) E := propext Iff.rfl
theorem e_yes : dYes Δ O PB E = PB true O := propext Iff.rfl
theorem e_gn {Q : Sl → Prop} : dgN i d Δ Q = Q (Δ.set i (some d)) := propext Iff.rfl
theorem e_lc : dLc R Gd Tt Te vs Δ O P E = R Δ O (fun ds O1 => ds.length ≤ 1000000 ∧ ∀ p, freshC O1 p → lcD Gd Tt Te p (fun acc O2 => P (.lst acc) O2) ds [] (wipeD Δ vs) O1) E := propext Iff.rfl
theorem e_lcO : dLcO R Gd Tt Te vs Δ O P E = R Δ O (fun ds O1 => ds.length ≤ 1000000 ∧ ∀ p, freshC O1 p → lcD Gd Tt Te p (fun acc O2 => P (.ptr p) ((p, .lst acc) :: O2)) ds [] (wipeD Δ vs) O1) E := propext Iff.rfl
theorem e_for : dFor R Gd T En Δ O = R Δ O (fun ds O1 => forD Gd T En ds Δ O1) (fun x O1 => En.xc x Δ O1) := propext Iff.rfl
theorem e_brk : dBrk En Δ O = En.bk Δ O := propext Iff.rfl
theorem e_cnt : dCnt En Δ O = En.ct Δ O := propext Iff.rfl
theorem e_wipe0 : wipeD Δ [] = Δ := rfl
theorem e_wipe1 : wipeD Δ (i :: vs) = (wipeD Δ vs).set i none := rfl
theorem ex_c {c : Cell} {C : Sto → Prop} : (∃ O3, (p, c) :: O = (p, c) :: O3 ∧ C O3) = C O := by
  apply propext
  constructor
  · rintro ⟨O3, e, h⟩
    cases e
    exact h
  · intro h
    exact ⟨O, rfl, h⟩
theorem freshC_ne {b : Addr} {c : Cell} (h : getC O b = some c) (hp : freshC O p) : b ≠ p := hp _ (getC_mem h)
theorem getC_fresh {b : Addr} {c c' : Cell} (h : getC O b = some c) (hp : freshC O p) : getC ((p, c') :: O) b = some c := by rw [getC_other (freshC_ne h hp)]; exact h
/-- one pass -/
def lcStep (Gd : DG) (Tt : DT) (Te : DE) (p : Addr) (acc : List D) (Δ : Sl) (O : Sto) (x : D) (C : Option D → Sto → Prop) : Prop :=
  Gd x Δ fun Δ' => Tt Δ' ((p, .lst acc) :: O) (fun k O1 => if k = true
      then Te Δ' O1 (fun y O2 => ∃ O3, O2 = (p, .lst acc) :: O3 ∧ C (some y) O3) (fun _ _ => False)
      else ∃ O3, O1 = (p, .lst acc) :: O3 ∧ C none O3) (fun _ _ => False)
theorem lc_all {α : Type} {emb : α → D} {St : α → Option D → Prop} {Q : List D → Sto → Prop} : ∀ {xs : List α} {acc : List D}, (∀ x ∈ xs, ∀ acc C, (∀ o, St x o → C o O) → lcStep Gd Tt Te p acc Δ O (emb x) C) → (∀ os, All2 St xs os → Q (acc ++ os.filterMap id) O) → lcD Gd Tt Te p Q (xs.map emb) acc Δ O := by
  intro xs
  induction xs with
  | nil =>
    intro acc _ fin
    have z := fin [] .nil
    rw [List.filterMap_nil, List.append_nil] at z
    exact z
  | cons x xs ih =>
    intro acc step fin
    refine step x List.mem_cons_self acc (fun o O3 => match o with | some y => lcD Gd Tt Te p Q (xs.map emb) (acc ++ [y]) Δ O3 | none => lcD Gd Tt Te p Q (xs.map emb) acc Δ O3) fun o ho => ?_
    cases o with
    | some y =>
      refine ih (fun x hx => step x (List.mem_cons_of_mem _ hx)) fun os hos => ?_
      have z := fin (some y :: os) (.cons ho hos)
      rw [List.filterMap_cons_some (f := id) (b := y) rfl] at z
      rw [List.append_assoc]
      exact z
    | none =>
      refine ih (fun x hx => step x (List.mem_cons_of_mem _ hx)) fun os hos => ?_
      have z := fin (none :: os) (.cons ho hos)
      rw [List.filterMap_cons_none (f := id) rfl] at z
      exact z
theorem lc_det {α : Type} {emb : α → D} (f : α → Option D) {Q : List D → Sto → Prop} {xs : List α} {acc : List D} (step : ∀ x ∈ xs, ∀ acc C, C (f x) O → lcStep Gd Tt Te p acc Δ O (emb x) C) (fin : Q (acc ++ xs.filterMap f) O) : lcD Gd Tt Te p Q (xs.map emb) acc Δ O := by
  refine lc_all (St := fun x o => o = f x) (fun x hx acc C h => step x hx acc C (h _ rfl)) fun os h => ?_
  have e : os.filterMap id = xs.filterMap f := by
    clear fin step
    induction h with
    | nil => rfl
    | cons h _ ih => subst h; rw [List.filterMap_cons, List.filterMap_cons, ih]; rfl
  rw [e]
  exact fin
/-- [e(x) for x in xs] -/
theorem lc_map {α : Type} {emb : α → D} (f : α → D) {Q : List D → Sto → Prop} {xs : List α} (step : ∀ x ∈ xs, ∀ acc C, C (some (f x)) O → lcStep Gd Tt Te p acc Δ O (emb x) C) (fin : Q (xs.map f) O) : lcD Gd Tt Te p Q (xs.map emb) [] Δ O := by
  refine lc_det (fun x => some (f x)) step ?_
  rw [List.nil_append, List.filterMap_eq_map']
  exact fin
/-- .. and what has been walked is known -/
theorem for_inv2 {α : Type} {emb : α → D} (I : List α → Sl → Sto → Prop) {xs : List α} {Δ : Sl} {O : Sto} (h0 : I [] Δ O) (hend : ∀ Δ O, I xs Δ O → En.nx Δ O)
    (step : ∀ l x r, xs = l ++ x :: r → ∀ Δ O (K : Sl → Sto → Prop), I l Δ O → (∀ Δ' O', I (l ++ [x]) Δ' O' → K Δ' O') → Gd (emb x) Δ fun Δ' => T { En with nx := K, ct := K, bk := En.nx } Δ' O) : forD Gd T En (xs.map emb) Δ O := by
  have key : ∀ (r l : List α) (Δ : Sl) (O : Sto), xs = l ++ r → I l Δ O → forD Gd T En (r.map emb) Δ O := by
    intro r
    induction r with
    | nil =>
      intro l Δ O e h
      rw [List.append_nil] at e
      subst e
      exact hend _ _ h
    | cons x r ih =>
      intro l Δ O e h
      exact step l x r e Δ O _ h fun Δ' O' h' => ih (l ++ [x]) Δ' O' (by rw [e, List.append_assoc]; rfl) h'
  exact key xs [] Δ O rfl h0
end
/-! ## Lean types as data -/
class Em (α : Type) [DecidableEq α] [PySem.W.Datum α] where
  em : α → D
  py_em : ∀ a, py (em a) = some (PySem.W.Datum.toD a)
  lay : ∀ a : α, (PySem.W.Datum.toD a).canLay0 = true

end G
namespace G
open PySem L2
instance : Em Int := ⟨.int, fun _ => rfl, fun _ => rfl⟩
instance : Em Bool := ⟨.bl, fun _ => rfl, fun _ => rfl⟩
section
variable {α β : Type} [DecidableEq α] [PySem.W.Datum α] [Em α] [DecidableEq β] [PySem.W.Datum β] [Em β]
theorem pys_em : ∀ xs : List α, pys (xs.map Em.em) = some (xs.map PySem.W.Datum.toD)
  | [] => rfl
  | x :: xs => by
    rw [List.map_cons, pys, Em.py_em, pys_em xs]
    rfl
theorem lays_em : ∀ xs : List α, PyData.canLayAll0 (xs.map PySem.W.Datum.toD) = true
  | [] => rfl
  | x :: xs => by
    rw [List.map_cons, PyData.canLayAll0, Em.lay, lays_em xs]
    rfl
instance : Em (List α) := ⟨fun xs => .lst (xs.map Em.em), fun xs => by rw [py, pys_em]; rfl, fun xs => by
  show PyData.canLay0 (.list (xs.map PySem.W.Datum.toD)) = true
  rw [PyData.canLay0, lays_em]⟩
instance : Em (PySem.W.Tup α) := ⟨fun xs => .tup (xs.items.map Em.em), fun xs => by rw [py, pys_em]; rfl, fun xs => by
  show PyData.canLay0 (.tuple (xs.items.map PySem.W.Datum.toD)) = true
  rw [PyData.canLay0, lays_em]⟩
instance : Em (α × β) := ⟨fun x => .tup [Em.em x.1, Em.em x.2], fun x => by
  rw [py, pys, pys, pys, Em.py_em, Em.py_em]; rfl, fun x => by
  show PyData.canLay0 (.tuple [PySem.W.Datum.toD x.1, PySem.W.Datum.toD x.2]) = true
  rw [PyData.canLay0, PyData.canLayAll0, PyData.canLayAll0, PyData.canLayAll0, Em.lay, Em.lay]
  rfl⟩
theorem shaped_em (h : PySem.W.Datum.depth α ≤ 64) (a : α) : SeqAt.shaped (PySem.W.Datum.toD a) = true := by
  unfold SeqAt.shaped
  rw [Em.lay, Bool.true_and]
  exact decide_eq_true (Nat.le_trans (PySem.W.Datum.depth_le a) h)
/-- == of data that a Lean type says -/
theorem eqB_em (a b : α) (h : PySem.W.Datum.depth α ≤ 64 := by decide) : eqB (Em.em a) (Em.em b) = some (decide (a = b)) := by
  have e := PySem.W.Datum.eqv a b
  have s1 := shaped_em h a
  have s2 := shaped_em h b
  have p1 := Em.py_em a
  have p2 := Em.py_em b
  unfold eqB
  split
  · rename_i i j e1 e2
    rw [e1] at p1
    rw [e2] at p2
    simp only [py, Option.some.injEq] at p1 p2
    rw [← p1, ← p2] at e
    simp only [PyData.eqv] at e
    rw [← e]
    congr 1
  · rename_i i j e1 e2
    rw [e1] at p1
    rw [e2] at p2
    simp only [py, Option.some.injEq] at p1 p2
    rw [← p1, ← p2] at e
    simp only [PyData.eqv] at e
    rw [← e]
    congr 1
  · rename_i i j e1 e2
    rw [e1] at p1
    rw [e2] at p2
    simp only [py, Option.some.injEq] at p1 p2
    rw [← p1, ← p2] at e
    simp only [PyData.eqv] at e
    rw [← e]
    congr 1
  · rw [p1, p2]
    simp only [s1, s2, and_self, ↓reduceIte, e]
end
/-- a tuple of two whole numbers -/
abbrev pr (x : Int × Int) : D := .tup [.int x.1, .int x.2]
theorem eq_prs (xs ys : List (Int × Int)) : eqB (.lst (xs.map pr)) (.lst (ys.map pr)) = some (decide (xs = ys)) := eqB_em (α := List (Int × Int)) xs ys
theorem eq_pr (x y : Int × Int) : eqB (pr x) (pr y) = some (decide (x = y)) := eqB_em (α := Int × Int) x y
theorem eq_ints (xs ys : List Int) : eqB (.lst (xs.map .int)) (.lst (ys.map .int)) = some (decide (xs = ys)) := eqB_em (α := List Int) xs ys
end G
namespace G
open PySem L2
section
variable {O : Sto} {P : KD} {PB : Bool → Sto → Prop}
theorem f_addL {l m : List D} : fAdd (.lst l) (.lst m) O P = (l.length + m.length ≤ sizeLine ∧ P (.lst (l ++ m)) O) := propext Iff.rfl
theorem f_addS {l m : Str} : fAdd (.str l) (.str m) O P = (l.length + m.length ≤ sizeLine ∧ P (.str (l ++ m)) O) := propext Iff.rfl
theorem truL {ds : List D} : truD O (.lst ds) = some (!ds.isEmpty) := rfl
theorem truT {ds : List D} : truD O (.tup ds) = some (!ds.isEmpty) := rfl
theorem truI {i : Int} : truD O (.int i) = some (i != 0) := rfl
theorem truB {i : Bool} : truD O (.bl i) = some i := rfl
theorem truN : truD O .non = some false := rfl
theorem objO {c : Cl} {fs : List Fd} {ds : List D} : objOf O (.obj c fs ds) = some (c, fs, ds) := rfl
theorem objP {a : Addr} {c : Cl} {fs : List Fd} {ds : List D} (h : getC O a = some (.ins c fs ds)) : objOf O (.ptr a) = some (c, fs, ds) := by simp only [objOf, h]
theorem clsO {c : Cl} {fs : List Fd} {ds : List D} : clsOf O (.obj c fs ds) = some c := rfl
theorem clsP {a : Addr} {c : Cl} {fs : List Fd} {ds : List D} (h : getC O a = some (.ins c fs ds)) : clsOf O (.ptr a) = some c := by simp only [clsOf, objP h, Option.map]
end
end G
namespace G
open PySem L2
theorem cut_map {α : Type} (f : α → D) (ns : List α) (lo hi : Option Int) : cutD (ns.map f) lo hi = ((ns.drop (HT.sIx ns.length 0 lo)).take (HT.sIx ns.length ns.length hi - HT.sIx ns.length 0 lo)).map f := by
  unfold cutD
  rw [List.length_map, List.map_take, List.map_drop]
theorem cut_box (ns : List Int) : ∃ ms : List Int, cutD (ns.map D.int) none (some 63) = ms.map D.int ∧ ms.length ≤ 63 := by
  refine ⟨_, cut_map D.int ns none (some 63), ?_⟩
  rw [List.length_take]
  have h : HT.sIx ns.length ns.length (some 63) = min 63 ns.length := HT.sIx_nat ns.length ns.length 63
  rw [h]
  omega
end G

set_option Elab.async false
set_option linter.all false
set_option maxRecDepth 100000
set_option maxHeartbeats 4000000
namespace G
open PySem L2
/-! ## an own __contains__ -/
def boolK (P : Bool → Sto → Prop) : KD := fun r O => match r with | .bl k => P k O | _ => False
def dInOwn (tab : List (Cl × DSp)) (Ta Tb : DE) : DE := fun Δ O P E => Ta Δ O (fun x O1 => Tb Δ O1 (fun y O2 => match clsOf O2 y with
  | some c => (match tabAt tab c with | some S => S [y, x] O2 (boolK fun k O3 => P (.bl k) O3) E | none => False)
  | none => False) E) E
def dNotInOwn (tab : List (Cl × DSp)) (Ta Tb : DE) : DE := fun Δ O P E => Ta Δ O (fun x O1 => Tb Δ O1 (fun y O2 => match clsOf O2 y with
  | some c => (match tabAt tab c with | some S => S [y, x] O2 (boolK fun k O3 => P (.bl (!k)) O3) E | none => False)
  | none => False) E) E
section
variable {g : Gm} {X : Cx} {W : WX} {pos pos' p apos : Pos} {a b c o : Expr} {es : List Expr} {Ta Tb : DE} {R : DA} {k : Nat} {f : Addr} {S : DSp} {x m : Str} {tab : List (Cl × DSp)}
theorem e_inOwn {Δ : Sl} {O : Sto} {P : KD} {E : KX} : dInOwn tab Ta Tb Δ O P E = Ta Δ O (fun x O1 => Tb Δ O1 (fun y O2 => match clsOf O2 y with
  | some c => (match tabAt tab c with | some S => S [y, x] O2 (boolK fun k O3 => P (.bl k) O3) E | none => False)
  | none => False) E) E := propext Iff.rfl
end
end G

set_option Elab.async false
set_option linter.all false
set_option maxRecDepth 100000
set_option maxHeartbeats 4000000
namespace G
open PySem L2
/-! ## the end of a law -/
section
variable {K : PySem.W.Frag} {h : Heap} {mg : Str → Option Value} {g : Gm}
theorem flds_nil {f : Fd} : Flds g [] f := ⟨fun _ h => absurd h List.not_mem_nil, fun _ h => absurd h List.not_mem_nil⟩
theorem flds_cons {c : Cl} {cs : List Cl} {f : Fd} (h : Cls g.K (g.ca c)) (n : PySem.W.findIn g.K (.ref (g.ca c)) f.str = some none) (r : Flds g cs f) : Flds g (c :: cs) f :=
  ⟨fun d hd => by rcases List.mem_cons.mp hd with e | e; exact e ▸ h; exact r.cl d e, fun d hd => by rcases List.mem_cons.mp hd with e | e; exact e ▸ n; exact r.no d e⟩
end
/-- the law's promise -/
def spLaw (K : PySem.W.Frag) : Sp := fun vs H Q _ => ∃ (a : Addr) (ns : List Int), vs = [.ref a] ∧ SqL K H a (ns.map V.int) ∧ ns.length ≤ 63 ∧ ∀ H', Q (.bl true) H'
def SLaw : DSp := fun ds O P E => ∃ ns, ds = [.scr ns] ∧ O = [] ∧ ∀ O1, P (.bl true) O1
theorem spLaw_of {g : Gm} {vs : List V} {H : Hp} {Q : VK} {E : XK} (h : spLaw g.K vs H Q E) : toSp g SLaw vs H Q E := by
  obtain ⟨a, ns, rfl, hS, hl, k⟩ := h
  refine ⟨H, [], [.scr ns], fun d O => d = .bl true, fun _ _ => False, Reps.one (Rep.scr_iff.mpr ⟨a, rfl, hS⟩), ⟨Same.refl H, by simp, fun q hq => absurd hq List.not_mem_nil⟩, ⟨ns, rfl, rfl, fun _ => rfl⟩, fun d O v F' H' e s w r => ?_, fun _ _ _ _ _ _ z => z.elim⟩
  subst e
  rw [Rep.bl_iff.mp r]
  exact k H'
theorem walk {l : PySem.W.OpenLaw} {q : Program} {loose : List Str} {XP : (Str → Option Value) → Heap → Prop} {YP : World → Heap → Prop} {d : DefRec} {K : Params → PySem.W.Frag} {x : Str} (k : Nat) (hk : k ≤ 40) (hn : l.most = some 63) (hdf : d.params.defaults = [])
    (hY : ∀ (w : World) (h : Heap), YP w h → (K w.params).In h)
    (F : ∀ (w : World) (mg : Str → Option Value) (fa : Addr) (h : Heap), (K w.params).In h → h.Ns mainGlobals mg → mg d.name = some (.ref fa) →
      ∃ fd : FuncData, (∀ (s : Shared) (u : Value), BindsTo s fd ⟨[u], []⟩ [(x, u)]) ∧ ∀ base : Heap, (K w.params).In base → base.Ns mainGlobals mg → FnOk l.prog w (K w.params) mg base (L2.CX l.prog w) k fa fd [x] (spLaw (K w.params))) :
    PySem.W.WalkO q loose XP YP l.row.toRowW d [] (fun f vs => PySem.call f vs) :=
  L2.walk_of (n := 63) (k := k) (x := x) (CX := fun w => L2.CX l.prog w) (sp := fun w => spLaw (K w.params)) hn (by decide) hdf (Room.mono (k := 40) ⟨rfl, by decide, by decide⟩ hk) hY F (fun _ _ a ns hl _ hS => ⟨a, ns, rfl, hS, hl, fun _ => rfl⟩) fun w H s e s' z => by
    obtain ⟨_, _, _, _, _, _, _, _, _, _, _, _, z⟩ := z
    exact z
end G

set_option Elab.async false
set_option linter.all false
set_option maxRecDepth 100000
set_option maxHeartbeats 4000000
namespace G
open PySem L2
/-! ## a def that says super() -/
/-- statements of a def's own body -/
structure PF (X : Cx) (sts : List Stmt) (t : TS) : Prop where
  run : ∀ (body : List Stmt) (pins : List (Addr × Obj)) (s : Shared) (σ : St) (H : Hp) (D : Ends), Inv X pins σ H s → t D σ H → _root_.PySem.wpAt (model X.prog X.w) X.A (.func body X.env) (execs sts X.env) (SP X pins D) X.xe s
section
variable {X : Cx} {st : Stmt} {sts : List Stmt} {t u : TS}
theorem pf_of (h : PSs X sts t) : PF X sts t := ⟨fun body pins s σ H D I q => _root_.PySem.wpAt_of_wpAny (h.run pins s σ H D I q)⟩
theorem pf_cons (h : PS X st t) (k : PF X sts u) : PF X (st :: sts) (tSeq t u) := by
  refine ⟨fun body pins s σ H D I q => PySem.ks_wpAt_execs_cons (_root_.PySem.wpAt_of_wpAny (thn (h.run pins s σ H { D with nx := u D } I q) fun f s1 z => ?_))⟩
  cases f with
  | next =>
    obtain ⟨σ1, H1, I1, z⟩ := z
    exact k.run body pins s1 σ1 H1 D I1 z
  | brk => exact z
  | cont => exact z
  | ret v => exact z
end
/-- the program's own text: its file, super is the kit's -/
structure Pg (P : Program) (file : Str) : Prop where
  file : ((P.main.file : Str) == file) = true
  sup : (P.main.scope.names.lookup ("super" : Str)).isSome = false
structure FunS (K : PySem.W.Frag) (x qual : Str) (st : Stmt) (f : Addr) (fd : FuncData) (cc cda D : Addr) (file : Str) : Prop where
  ex : ∃ (oc : Value) (od : Option Addr) (kV doc pm : Value) (an : Option Addr) (ct : Value) (osl : Array (Option Value)), fd = PySem.W.ksFn x qual (defArgs st) (defBody st) (defScope st) .none kV doc pm an (.ref cda) ct cc ∧ K.lookup f = some ⟨oc, od, .func fd, osl⟩
  code : PySem.W.codeIn K (.ref cda) qual = true
  kp : PySem.W.keepIn K (.ref f) = true
  fl : ∃ (ccl : Value) (cdd : Option Addr) (vs : Array Value) (ccs : Array (Option Value)) (tf : Tok), K.lookup cda = some ⟨ccl, cdd, .fields vs, ccs⟩ ∧ vs[2]? = some (.str file tf)
  cell : ∃ (cl : Value) (cld : Option Addr) (csl : Array (Option Value)), K.lookup cc = some ⟨cl, cld, .cell (some (.ref D)), csl⟩
  dcl : ∃ cdD, PySem.W.clsIn K D = some cdD
abbrev sNF (x qual : Str) (st : Stmt) (cc cda : Addr) : NdefX.NF := ⟨x, qual, defArgs st, defBody st, defScope st, [("__class__", cc)], cda⟩
abbrev scx (P : Program) (w : World) (K : PySem.W.Frag) (mg : Str → Option Value) (base : Heap) (N : List Str) (x qual : Str) (st : Stmt) (f cc cda : Addr) (A : Around) (outer : List Env) (s : Shared) (H : Hp) (E : XK) : Cx :=
  NdefX.ncx (L2.CX P w) P w K mg base N (sNF x qual st cc cda) f A outer s H E
section
variable {P : Program} {w : World} {K : PySem.W.Frag} {mg : Str → Option Value} {base : Heap} {N ps : List Str} {x qual : Str} {st : Stmt} {f cc cda D : Addr} {fd : FuncData} {file : Str} {k : Nat} {sp : Sp}
theorem fn_super (F : FunS K x qual st f fd cc cda D file) (S : NdefX.NScope N ps ["__class__"] (defScope st)) (len : ∀ vs H Q E, sp vs H Q E → vs.length = ps.length)
    (hbody : ∀ (A : Around) (outer : List Env) (s : Shared) (H : Hp) (vs : List V) (Q : VK) (E : XK), Room k (A.deeper (NdefX.envF (sNF x qual st cc cda) f s.heap.objs.size)) → sp vs H Q E →
      ∃ t, PF (scx P w K mg base N x qual st f cc cda A outer s H E) (defBody st) t ∧ t { nx := fun _ H' => Q .non H', rt := Q } (NdefX.startF N vs [none]) H) :
    FnOk P w K mg base (L2.CX P w) (k + 1) f fd ps sp := by
  refine ⟨len, fun A outer s H args us vs Q E hr e0 hb r hsp => ?_⟩
  obtain ⟨oc, od, kV, doc, pm, an, ct, osl, rfl, lk⟩ := F.ex
  obtain ⟨cl, cld, csl, hcell⟩ := F.cell
  have hl := len _ _ _ _ hsp
  have kp0 : ∀ b o, base.get? b = some o → s.heap.get? b = some o := fun b o e => (e0.bs b o e).1
  have KI : K.In s.heap := e0.mod.kin.keeps kp0
  have lim : s.heap.NoLimit := e0.mod.nolimit.keeps kp0
  refine PySem.ks_codeAny_call_defAt (fd := PySem.W.ksFn x qual (defArgs st) (defBody st) (defScope st) .none kV doc pm an (.ref cda) ct cc) hr.depth (KI _ _ lk) rfl lim (PySem.W.codeRec_of KI F.code) rfl hb S.nocell (fun ⟨n, _⟩ hy => S.par n (List.of_mem_zip hy).1) (fun h₁ hns kp => ?_) S.co S.gen S.kind
  obtain ⟨t, ht, hq⟩ := hbody A outer s H vs Q E (hr.deeper _) hsp
  have C : NdefX.CellsAt [("__class__", cc)] ["__class__"] [none] s.heap H := by
    have key : ∀ (y : Str) (c : Addr), [(("__class__" : Str), cc)].lookup y = some c → y = "__class__" ∧ c = cc := fun y c e => by
      rw [List.lookup_cons] at e
      split at e
      · rename_i q
        cases e
        exact ⟨beq_iff_eq.mp q, rfl⟩
      · cases e
    refine ⟨rfl, fun y c e => ?_, fun a b c e1 e2 => (key a c e1).1.trans (key b c e2).1.symm, fun i y e => ?_⟩
    · obtain ⟨_, rfl⟩ := key y c e
      exact ⟨(e0.bs _ _ (e0.mod.kin _ _ hcell)).2, some (.ref D), ⟨_, KI _ _ hcell, rfl⟩⟩
    · cases i with
      | zero =>
        cases e
        exact ⟨cc, rfl, fun v z => by cases z⟩
      | succ n => cases e
  have I : Inv (scx P w K mg base N x qual st f cc cda A outer s H E) [] (NdefX.startF N vs [none]) H { s with heap := h₁, toks := s.toks + (ps.zip us).length } := NdefX.inv_startN S hr.hd e0 hl r C hns kp
  refine _root_.PySem.wpAt_mono (ht.run (defBody st) [] _ (NdefX.startF N vs [none]) H _ I hq) (fun fl s' hs => ?_) fun e s' hs => hs
  have fin : ∀ {σ' : L2.St} {H' : Hp} {v : V} {u : Value}, Inv (scx P w K mg base N x qual st f cc cda A outer s H E) [] σ' H' s' → L2.RelV v u → Q v H' → CE outer P w H s Q u s' :=
    fun {σ' H' v u} J rv q => ⟨v, H', J.os, J.bare, J.base, J.hok, rv, q⟩
  cases fl with
  | ret u =>
    obtain ⟨v, σ', H', J, rv, q⟩ := hs
    exact fin J rv q
  | next =>
    obtain ⟨σ', H', J, q⟩ := hs
    exact fin (v := V.non) (u := Value.none) J rfl q
  | brk =>
    obtain ⟨_, _, _, q⟩ := hs
    exact False.elim q
  | cont =>
    obtain ⟨_, _, _, q⟩ := hs
    exact False.elim q
end

section
variable {P : Program} {w : World} {K : PySem.W.Frag} {mg : Str → Option Value} {base : Heap} {N ps : List Str} {x qual : Str} {st : Stmt} {f cc cda D : Addr} {fd : FuncData} {file : Str} {k : Nat} {A : Around} {outer : List Env} {s0 : Shared} {H0 : Hp} {E0 : XK}
/-- what the text says of the def -/
structure SupTx (N : List Str) (st : Stmt) (ar : Str) : Prop where
  ks : (defScope st).names.lookup ("super" : Str) = some .globalImplicit
  kc : (defScope st).names.lookup ("__class__" : Str) = some .free
  fst : ∃ r : Arg, ((defArgs st).posonlyargs ++ (defArgs st).args).head? = some r ∧ r.arg = ar
  n0 : N[0]? = some ar
  ka : (defScope st).names.lookup ar = some .local
  kind : (defScope st).kind = .function
theorem super_node {ar attr : Str} {body : List Stmt} {p0 p1 : Pos} {whole : Sem Value} {pins : List (Addr × Obj)} {σ : St} {H : Hp} {s : Shared} {a C : Addr} {ox : Obj} {od : Option Obj} {Q : Value → Shared → Prop} {E : Value → Shared → Prop}
    (F : FunS K x qual st f fd cc cda D file) (PG : Pg P file) (T : SupTx N st ar) (hm : mg "super" = none) (hat : (attr == ("__class__" : Str)) = false) (I : Inv (scx P w K mg base N x qual st f cc cda A outer s0 H0 E0) pins σ H s) (es : σ[0]? = some (some (.ref a)))
    (J : PySem.W.InstAt s.heap a ox C od) (hsub : PySem.W.mroIn K C (.ref D) = some true)
    (h : ∀ so s', Inv (scx P w K mg base N x qual st f cc cda A outer s0 H0 E0) pins σ H s' → s'.heap.get? so = some (PySem.W.ks_superObj D a C) → (∀ b o, s.heap.get? b = some o → s'.heap.get? b = some o) → Q (.ref so) s') :
    _root_.PySem.wpAt (model P w) (scx P w K mg base N x qual st f cc cda A outer s0 H0 E0).A (.func body (scx P w K mg base N x qual st f cc cda A outer s0 H0 E0).env) (attributeBase (.Call (.Name "super" p0) [] [] p1) attr (scx P w K mg base N x qual st f cc cda A outer s0 H0 E0).env whole) Q E s := by
  have KI : K.In s.heap := I.kIn
  obtain ⟨oc, odd, kV, doc, pm, an, ct, osl, rfl, lk⟩ := F.ex
  obtain ⟨ccl, cdd, vs, ccs, tf, hcode, hvs⟩ := F.fl
  obtain ⟨cl, cld, csl, hcell⟩ := F.cell
  obtain ⟨cdD, hD⟩ := F.dcl
  obtain ⟨r, hr, har⟩ := T.fst
  obtain ⟨oD, hD1, hD2⟩ : ∃ oD, s.heap.get? D = some oD ∧ oD.data = .cls cdD := by
    unfold PySem.W.clsIn at hD
    split at hD
    · rename_i c d cd' sl ho
      cases hD
      exact ⟨_, KI _ _ ho, rfl⟩
    · cases hD
  refine PySem.ks_wpAt_super_base (env := (scx P w K mg base N x qual st f cc cda A outer s0 H0 E0).env) T.ks T.kc hat rfl (KI _ _ lk) rfl hr rfl (KI _ _ hcode) rfl hvs PG.file PG.sup ?_
  obtain ⟨mb, h1, h2⟩ := I.mod.blt
  refine PySem.W.ks_loadName_global T.kind T.ks (Calls.loadGlobal_builtin (I.mod.glob.keeps I.bk) hm (h1.keeps I.bk) ((h2 "super" (by decide)).trans (by decide +kernel : bootBuiltins "super" = some (.type "super"))) ⟨rfl, ?_⟩)
  refine wpAny_loadName_free T.kind T.kc rfl ⟨_, KI _ _ hcell, rfl⟩ ?_
  obtain ⟨m, hn, hl⟩ := I.loc
  obtain ⟨u, ru, l⟩ := hl 0 ar (.ref a) T.n0 es (.inl T.ka)
  obtain rfl : u = Value.ref a := ru
  have hlo : m ar = some (.ref a) := by
    rcases l with ⟨_, hm⟩ | ⟨hk, _⟩
    · exact hm
    · rcases hk with hk | hk
      · have z := T.ka.symm.trans hk; cases z
      · have z := T.ka.symm.trans hk; cases z
  rw [har]
  refine wpAny_loadName_local T.kind T.ka hn hlo ?_
  obtain ⟨hh, g, d, t, os⟩ := s
  refine PySem.ks_wpAny_isType_cls hD1 hD2 ⟨rfl, ?_⟩
  refine PySem.ks_wpAny_call_super hD1 hD2 J.at_ J.cls (fun c e => ?_) (PySem.W.looks_mroIn KI hsub) (fun h' e k => ?_)
  · have := J.no
    unfold PySem.W.notCls at this
    rw [e] at this
    exact Bool.noConfusion this
  · exact h _ _ (I.kept k) e k
end

/-! ### super().__init__(..) of an own exception -/
section
open PySem.W
variable {prog : Program} {w : World} {A : Around} {E : Value → Shared → Prop} {h : Heap} {g : Array GenState} {d : Drawn} {t : Nat} {os : OsState}
variable {nm q : Str} {C N : Addr} {bs bm : List Value} {hdct : Bool} {sn : List Str} {sub : List Value} {ab : Bool} {col : Option Bool} {dd : Option Addr} {k0 k1 k2 k3 k5 : Option Value}
theorem call_wrap {u e t0 : Addr} {rest : List Value} {Q : Value → Shared → Prop}
    (hC : h.get? C = some (excClassObj nm q C N bs bm hdct sn sub ab col dd k0 k1 k2 k3 k5 "ValueError.__new__")) (he : h.get? e = some (HandSPX.excO C t0)) (hu : h.get? u = some (kxs_mw "ValueError.__init__" e)) (hrest : rest.length ≤ sizeLine)
    (hq : ∀ h' t1, (∀ b o, b ≠ e → h.get? b = some o → h'.get? b = some o) → h'.get? e = some (HandSPX.excO C t1) → Q .none ⟨h', g, d, t, os⟩) :
    wpAny (model prog w) A (call (.ref u) rest) Q E ⟨h, g, d, t, os⟩ := by
  refine wpAny_call (codeAny_of_tree ?_)
  show wpAny _ A.in1 (callAny (.ref u) ⟨rest, []⟩) _ _ _
  simp only [callAny]
  refine wpAny_bind (wpAny_load hu ?_)
  simp only [kxs_mw, show (Value.type "method-wrapper" == Value.type "method" || Value.type "method-wrapper" == Value.type "builtin_function_or_method" || Value.type "method-wrapper" == Value.type "method-wrapper") = true by decide, if_true]
  refine W.KFB.if_so (by decide) ?_
  refine wpAny_bind (ESX.check_bound F.excBase_ValueError hC he rfl ?_)
  refine wpAny_bind (wpAny_pure (wpAny_pure ?_))
  refine ⟨Code.quiet_builtin _ (by decide +kernel), codeAny_builtin F.excBase_ValueError.initEntry ?_⟩
  rw [Around.under_plainId F.excBase_ValueError.init.plain _]
  wp_walk
  refine hq _ h.objs.size (fun b o hb ho => ?_) ?_
  · rw [Heap.get?_update_other _ _ (Ne.symm hb)]
    exact Heap.get?_push_of_some _ ho
  · rw [Heap.get?_update_self _ (Heap.get?_push_of_some _ he) rfl]
    rfl
end
/-- what the written part says of an own exception class -/
structure ExC (K : PySem.W.Frag) (C : Addr) : Prop where
  ox : OexC K C
  mr : PySem.W.mroIn K C (.ref C) = some true
  su : PySem.W.ks_superIn K C C "__init__" = some (some (.builtin "ValueError.__init__"))
  ve : PySem.W.subIn K (.ref C) (.type "ValueError") = some true
  th : PySem.W.nsIn K cStatics "thirdparty.any" = some none
def tSupX (C : Addr) (ta : TA) (u : TS) : TS := fun D σ H => ∃ a, σ[0]? = some (some (.ref a)) ∧ H a = some (exo a C none) ∧ ta σ H fun vs H1 => vs.length ≤ 1000 ∧ H1 a = some (exo a C none) ∧ u D σ H1
section
variable {P : Program} {w : World} {K : PySem.W.Frag} {mg : Str → Option Value} {base : Heap} {N ps : List Str} {x qual : Str} {st : Stmt} {f cc cda C : Addr} {fd : FuncData} {file : Str} {k : Nat} {A : Around} {outer : List Env} {s0 : Shared} {H0 : Hp} {E0 : XK}
theorem pf_supX {ar : Str} {e : Expr} {es : List Expr} {ta : TA} {rest : List Stmt} {u : TS} {p0 p1 p2 p3 p4 : Pos} {pl : Sem Bool} (F : FunS K x qual st f fd cc cda C file) (PG : Pg P file) (T : SupTx N st ar) (hm : mg "super" = none) (XC : ExC K C)
    (ha : PA (scx P w K mg base N x qual st f cc cda A outer s0 H0 E0) (e :: es) ta) (hu : PF (scx P w K mg base N x qual st f cc cda A outer s0 H0 E0) rest u)
    (he : starEach (e :: es) (scx P w K mg base N x qual st f cc cda A outer s0 H0 E0).env = (false, eval e (scx P w K mg base N x qual st f cc cda A outer s0 H0 E0).env) :: starEach es (scx P w K mg base N x qual st f cc cda A outer s0 H0 E0).env := by rfl)
    (hpl : (backTo p3 (starEach es (scx P w K mg base N x qual st f cc cda A outer s0 H0 E0).env)).any (·.1) = false := by rfl)
    (ht : eval (.Call (.Attribute (.Call (.Name "super" p0) [] [] p1) "__init__" p2) (e :: es) [] p3) (scx P w K mg base N x qual st f cc cda A outer s0 H0 E0).env = (do
      let ov ← attributeBase (.Call (.Name "super" p0) [] [] p1) "__init__" (scx P w K mg base N x qual st f cc cda A outer s0 H0 E0).env (eval (.Call (.Name "super" p0) [] [] p1) (scx P w K mg base N x qual st f cc cda A outer s0 H0 E0).env)
      standAt p2.atName
      let (ff, first) ← holding [ov] (getMethod ov "__init__" pl)
      callWith p3 ff first (backTo p3 (starEach (e :: es) (scx P w K mg base N x qual st f cc cda A outer s0 H0 E0).env)) []) := by rfl)
    (hi : interactive (scx P w K mg base N x qual st f cc cda A outer s0 H0 E0).env = false := by rfl) (hs : swapsWith (.Call (.Attribute (.Call (.Name "super" p0) [] [] p1) "__init__" p2) (e :: es) [] p3) none p4.line (scx P w K mg base N x qual st f cc cda A outer s0 H0 E0).env = pure false := by rfl) :
    PF (scx P w K mg base N x qual st f cc cda A outer s0 H0 E0) (.Expr (.Call (.Attribute (.Call (.Name "super" p0) [] [] p1) "__init__" p2) (e :: es) [] p3) p4 :: rest) (tSupX C ta u) := by
  refine ⟨fun body pins s σ H Dn I ⟨a, eσ, ea, hta⟩ => ?_⟩
  obtain ⟨t1, ho⟩ := exo_at I.hok ea
  have J : PySem.W.InstAt s.heap a (HandSPX.excO C t1) C none := ⟨ho, rfl, rfl, trivial⟩
  refine PySem.ks_wpAt_execs_cons (PySem.ks_wpAt_Expr_any (PySem.ks_wpAt_MethodCall (pl := pl) (super_node F PG T hm (by decide) I eσ J XC.mr fun so s1 I1 hso k1 => ?_) ht) hi hs)
  obtain ⟨nm, q, Nn, bs, bm, sn, sub, ab, col, dd, k0, k1', k2, k3, k5, hC, hbm⟩ := XC.ox.cls
  have hcl : PySem.W.clsIn K C = some { name := nm, bases := bs, mro := .ref C :: bm, ns := Nn, qualname := q, hasDict := true, slotNames := sn, subclasses := sub, abstract := ab, collection := col, hasDel := false } := by unfold PySem.W.clsIn; rw [hC] <;> rfl
  have KI : K.In s1.heap := I1.kIn
  have J1 : PySem.W.InstAt s1.heap a (HandSPX.excO C t1) C none := ⟨k1 _ _ ho, rfl, rfl, trivial⟩
  have hal := XC.su
  unfold PySem.W.ks_superIn at hal
  rw [hcl, Option.bind_some] at hal
  have hI : PySem.W.Looks (model P w) s1.heap (isInstance (.ref a) (.type "ValueError")) true := J1.type.andThen (PySem.W.looks_subIn KI XC.ve)
  obtain ⟨hh, gs, d, t, os⟩ := s1
  refine PySem.W.kxs_getMethod PySem.W.kxs_ValueError hso (PySem.W.looks_opaque KI XC.th) (l₀ := .ref C :: bm) (fun A Q E s k q => wpAny_bind ((PySem.W.looks_clsIn KI hcl) A _ E s k (wpAny_pure q))) rfl KI hal hI (PySem.W.ks_ne KI J1 hcl) (by decide) ?_
  have I2 : Inv (scx P w K mg base N x qual st f cc cda A outer s0 H0 E0) pins σ H ⟨hh.push (PySem.W.kxs_mw "ValueError.__init__" a), gs, d, t + 1, os⟩ := I1.kept fun b o e => Heap.get?_push_of_some _ e
  have I3 : Inv (scx P w K mg base N x qual st f cc cda A outer s0 H0 E0) ((hh.objs.size, PySem.W.kxs_mw "ValueError.__init__" a) :: pins) σ H ⟨hh.push (PySem.W.kxs_mw "ValueError.__init__" a), gs, d, t + 1, os⟩ := I2.pins_of fun p hp => by
    rcases List.mem_cons.mp hp with rfl | hp
    · exact ⟨Heap.get?_push_size _ rfl, I1.hok.fresh (Nat.le_refl _), Nat.ne_of_gt I1.lt, I1.nofs (Nat.le_refl _), fun v z => by cases z⟩
    · exact I2.pin p (List.mem_append_right _ hp)
  rw [he]
  refine PySem.W.kxs_callWith (i := "ValueError.__init__") (x := a) (by show (false || (backTo p3 (starEach es _)).any (·.1)) = false; rw [hpl]; rfl) ?_
  have z3 := ha.run p3 _ _ σ H _ I3 hta
  rw [he] at z3
  refine PySem.Calls.evalArgs_plain (thn z3 fun us s4 ⟨vs, H1, I4, r4, hl4, ea4, q4⟩ => ?_)
  have hpin := (I4.pin (hh.objs.size, PySem.W.kxs_mw "ValueError.__init__" a) (List.mem_append_right _ List.mem_cons_self)).1
  refine ⟨hpin, ?_⟩
  obtain ⟨t4, ho4⟩ := exo_at I4.hok ea4
  have hlen : us.length ≤ sizeLine := by
    rw [← Paired.length r4, sizeLine_eq]
    omega
  obtain ⟨hp4, g4, d4, t4', os4⟩ := s4
  show wpAny _ _ (call (.ref hh.objs.size) ([] ++ us) []) _ _ _
  refine call_wrap (I4.kIn _ _ hC) ho4 hpin hlen fun h' t5 kk hx => ?_
  have I5 := I4.write (t' := t4') (x := a) (e := a) (o := exo a C none) (by rw [ea4]; exact True.intro) (.inl rfl) kk ⟨_, hx⟩ (exo_ok hx)
  have eu : upd H1 a (exo a C none) = H1 := by
    funext b
    by_cases hb : b = a
    · rw [hb, upd_same, ea4]
    · rw [upd_ne hb]
  rw [eu] at I5
  exact hu.run body pins _ σ H1 Dn (I5.pins_of fun p hp => I5.pin p (List.mem_append_right _ (List.mem_cons_of_mem _ hp))) q4
end
end G

set_option Elab.async false
set_option linter.all false
set_option maxRecDepth 100000
set_option maxHeartbeats 4000000
namespace G
open PySem L2
/-! ## own exceptions -/
/-- what an exception's __init__ keeps -/
def spX (C : Addr) (fns : List Str) : Sp := fun vs H Q _ => ∃ a ws, vs = .ref a :: ws ∧ ws.length = fns.length ∧ H a = some (exo a C none) ∧ ∀ d, H d = none → d ≠ a → Q .non (upd (upd H d (exd d (fns.zip ws).reverse)) a (exo a C (some d)))
section
variable {K : PySem.W.Frag} {C : Addr} {f1 f2 : Str} {vs : List V} {H : Hp} {Q : VK} {E : XK} {N : List Str} {txt : Str}
theorem tx1 (ox : OexC K C) (n1 : PySem.W.findIn K (.ref C) f1 = some none) (h : spX C [f1] vs H Q E) : tSupX C (tCons (tC (.str txt)) tNil) (tOst K f1 (tVar 0) (tVar 1)) { nx := fun _ H' => Q .non H', rt := Q } (NdefX.startF N vs [none]) H := by
  obtain ⟨a, ws, rfl, hl, ha, k⟩ := h
  match ws, hl with
  | [w1], _ => exact ⟨a, rfl, ha, by simp, ha, _, rfl, _, rfl, a, C, rfl, ox, n1, .inl ⟨ha, fun d hd ne => k d hd ne⟩⟩
end
/-- the exception class of that name can be made -/
def GX (g : Gm) (P : Program) (w : World) (K : PySem.W.Frag) (mg : Str → Option Value) (base : Heap) (ec : Ec) (name : Str) (fs : List Fd) : Prop :=
  mg name = some (.ref (g.ea ec)) ∧ OexC K (g.ea ec) ∧ ∃ f fd ps, PySem.W.findIn K (.ref (g.ea ec)) "__init__" = some (some (.ref f)) ∧ PySem.W.typeIn K (.ref f) = some (.type "function") ∧ FnOk P w K mg base (L2.CX P w) 1 f fd ps (spX (g.ea ec) (fs.map Fd.str)) ∧ Binds K fd ps []
def dRaise (ec : Ec) (fs : List Fd) (R : DA) : DS := fun D Δ O => R Δ O (fun ds O1 => ds.length = fs.length ∧ ds.length ≤ 9 ∧ D.xc ⟨ec, fs, ds⟩ Δ O1) (fun x O1 => D.xc x Δ O1)
theorem look_rev : ∀ {fs : List Fd} {vs : List V}, fs.Nodup → fs.length = vs.length → ∀ f : Fd, ((fs.map Fd.str).zip vs).reverse.lookup f.str = (zipF fs vs).lookup f.str := by
  intro fs
  induction fs with
  | nil => intro vs _ _ f; rfl
  | cons h hs ih =>
    intro vs nd hl f
    cases vs with
    | nil => simp at hl
    | cons v vs =>
      have nd' := List.nodup_cons.mp nd
      rw [List.map_cons, List.zip_cons_cons, List.reverse_cons, List.lookup_append, ih nd'.2 (by simpa using hl), zipF_cons]
      by_cases q : f = h
      · subst q
        rw [getF_none fun x hx z => nd'.1 (by rw [Fd.inj z]; exact hx)]
        simp [List.lookup]
      · have q' : (f.str == h.str) = false := by
          rw [beq_eq_false_iff_ne]
          exact fun z => q (Fd.inj z)
        have z : List.lookup f.str [(h.str, v)] = none := by rw [List.lookup_cons, q']; rfl
        rw [z, List.lookup_cons, q']
        simp
section
variable {g : Gm} {X : Cx} {W : WX} {pos pos' p p2 : Pos} {a b c e : Expr} {es : List Expr} {R : DA} {Ta Tb : DE} {k j : Nat} {x : Str}
theorem qs_raise {ec : Ec} {fs : List Fd} (h : GX g X.prog X.w X.K X.mg X.base ec x fs) (hr : Room j X.A) (tk : Takes X W) (ha : PA X (e :: es) (la g W R)) (hj : 2 ≤ j := by decide) (nd : fs.Nodup := by decide) (hc : X.calm = true := by rfl) (hg : Gl X x := by rfl)
    (hdb : (x == ("__debug__" : Str)) = false := by decide) (he : starEach (e :: es) X.env = (false, eval e X.env) :: starEach es X.env := by rfl) (hpl : (backTo pos (starEach es X.env)).any (·.1) = false := by rfl) :
    PS X (.Raise (some (.Call (.Name x p) (e :: es) [] pos)) none pos') (ls g W (dRaise ec fs R)) := by
  obtain ⟨hm, T, f, fd, ps, iC, tI, F1, hb⟩ := h
  refine ps_imp (ps_raise hc tk (pmk_oex T iC tI F1 (hr.mono hj) hb .nil (fun _ _ _ _ _ _ _ z => by obtain ⟨_, _, _, _, _, _, _, _, _, _, _, _, z⟩ := z; exact z.elim) hg hm ha hdb he hpl)) fun En σ H ⟨D, Δ, O, F, hT, sr, w, ho⟩ => ?_
  refine la_bind hT sr w (ho.toX sr) fun ds O1 vs F1' H1 hT1 s1 sr1 w1 rs hx1 => ?_
  obtain ⟨hl, h9, hT1⟩ := hT1
  have hlv : vs.length = fs.length := by rw [← rs.length, hl]
  refine ⟨by omega, fun q hq => ⟨q, vs, by simp, by simp [hlv], upd_same, fun d hd ne => ⟨rfl, d, ((fs.map Fd.str).zip vs).reverse, upd_same, ?_, ?_, ?_⟩⟩⟩
  · rw [upd_ne ne]
    exact upd_same
  · rw [upd_ne ne] at hd
    exact hd
  · have hd1 : H1 d = none := by rw [upd_ne ne] at hd; exact hd
    have eH : upd (del (upd (upd (upd H1 q (exo q (g.ea ec) none)) d (exd d ((fs.map Fd.str).zip vs).reverse)) q (exo q (g.ea ec) (some d))) q) d (.xd ((fs.map Fd.str).zip vs).reverse) = upd H1 d (.xd ((fs.map Fd.str).zip vs).reverse) := by
      funext b
      by_cases h1 : b = d
      · subst h1
        rw [upd_same, upd_same]
      · rw [upd_ne h1, upd_ne h1]
        by_cases h2 : b = q
        · subst h2
          rw [del_same, hq]
        · rw [del_ne h2, upd_ne h2, upd_ne h1, upd_ne h2]
    rw [eH]
    have w2 := w1.frozen (o := .xd ((fs.map Fd.str).zip vs).reverse) hd1
    have s2 := w1.fsame (o := .xd ((fs.map Fd.str).zip vs).reverse) hd1
    exact ho.xc _ _ _ _ _ _ _ _ hT1 (s1.trans s2) (sr1.mono s2) w2 ⟨rfl, vs, ⟨fun dd e => by cases e; exact ⟨_, upd_same⟩, fun f w hw => ⟨d, _, rfl, upd_same, by rw [look_rev nd hlv.symm]; exact hw⟩⟩, rs.mono s2⟩
def dRaiseT (ec : Ec) : DS := fun D Δ O => D.xc ⟨ec, [], []⟩ Δ O
/-! ## try -/
/-- which errors a clause catches -/
def Cat (g : Gm) (K : PySem.W.Frag) (c : Value) (cat : Ec → Option Bool) : Prop := ∀ ec b, cat ec = some b → PySem.W.exmOne K (.ref (g.ea ec)) c = some b
abbrev DH := Addr → Ec → Option Addr → DS
def dTry (i : Nat) (cat : Ec → Option Bool) (Tb : DS) (Th : DH) : DS := fun D Δ O => Tb { D with xc := fun x Δ1 O1 => match cat x.c with
  | some true => ∀ a d, freshC O1 a → Th a x.c d { nx := fun Δ' O' => D.nx (Δ'.set i none) O', rt := D.rt, bk := fun Δ' O' => D.bk (Δ'.set i none) O', ct := fun Δ' O' => D.ct (Δ'.set i none) O' } (Δ1.set i (some (.xcp a d x.fs x.ds))) O1
  | some false => D.xc x Δ1 O1
  | none => False } Δ O
/-- .. with no name for the error -/
def dTryN (cat : Ec → Option Bool) (Tb : DS) (Th : DH) : DS := fun D Δ O => Tb { D with xc := fun x Δ1 O1 => match cat x.c with
  | some true => ∀ a d, freshC O1 a → Th a x.c d { nx := D.nx, rt := D.rt, bk := D.bk, ct := D.ct } Δ1 O1
  | some false => D.xc x Δ1 O1
  | none => False } Δ O
theorem eok_out {F : Hp} {D : DEnds} {E : Ends} {i : Nat} (h : EOk g F W D E) : EOk g F W0 { nx := fun Δ' O' => D.nx (Δ'.set i none) O', rt := D.rt, bk := fun Δ' O' => D.bk (Δ'.set i none) O', ct := fun Δ' O' => D.ct (Δ'.set i none) O' }
    { nx := fun σ' H' => E.nx (σ'.set i none) H', rt := E.rt, bk := fun σ' H' => E.bk (σ'.set i none) H', ct := fun σ' H' => E.ct (σ'.set i none) H' } :=
  ⟨fun Δ O F' σ H q s sr w => h.nx _ _ _ _ _ q s (sr.setNone i) w, h.rt, fun Δ O F' σ H q s sr w => h.bk _ _ _ _ _ q s (sr.setNone i) w, fun Δ O F' σ H q s sr w => h.ct _ _ _ _ _ q s (sr.setNone i) w, fun _ _ _ _ _ _ _ _ q => q.elim⟩
theorem qs_try (i : Nat) {n : Str} {c : Value} {cat : Ec → Option Bool} {body suite : List Stmt} {b0 : Stmt} {np : Pos} {Tb : DS} {Th : DH} (hN : X.N.Nodup) (hc : Names X x c) (tk : Takes X W) (ct : Cat g X.K c cat)
    (hb : ∀ (W' : WX) (pn : List (Addr × Obj)) (xe : Value → Shared → Prop), Takes (X.tr pn xe) W' → PassesOwn (model X.prog X.w) X.A X.env xe → PSs (X.tr pn xe) body (ls g W' Tb))
    (hsu : ∀ (a : Addr) (oe : Obj) (ec : Ec) (d : Option Addr) (pn : List (Addr × Obj)), Zc (.ref (g.ea ec)) d oe → (∃ vs, oe.data = .fields vs) → PSs (X.suite a ((a, oe) :: pn)) (b0 :: suite) (ls g W0 (Th a ec d)))
    (hi : X.N[i]? = some n := by rfl) (hln : X.env.kindOf n = some .local := by rfl) (hs : X.stack = X.env :: X.outer := by rfl) (hf : X.env.frame = some X.env.locals := by rfl) :
    PS X (.Try body [.ExceptHandler (some (.Name x np)) (some n) (b0 :: suite) pos'] [] [] pos) (ls g W (dTry i cat Tb Th)) := by
  refine ps_imp (ps_try_as (tb := fun W' => ls g W' Tb) (ts := fun a cls d E σ H => ∃ ec, cls = .ref (g.ea ec) ∧ ls g W0 (Th a ec d) E σ H) (i := i) hs hf hN hi hln hc tk hb ?_) fun En σ H ⟨D, Δ, O, F, hT, sr, w, ho⟩ => ?_
  · intro a oe cls d pn hz hv
    refine ⟨fun pins s σ H E I ⟨ec, e, h⟩ => ?_⟩
    subst e
    exact (hsu a oe ec d pn hz hv).run pins s σ H E I h
  · refine ⟨_, Δ, O, F, hT, sr, w, ⟨ho.nx, ho.rt, ho.bk, ho.ct, fun y Δ1 O1 cls dd F1 σ1 H1 hq s1 sr1 w1 rx => ?_⟩⟩
    have hq : (match cat y.c with
      | some true => ∀ a d, freshC O1 a → Th a y.c d { nx := fun Δ' O' => D.nx (Δ'.set i none) O', rt := D.rt, bk := fun Δ' O' => D.bk (Δ'.set i none) O', ct := fun Δ' O' => D.ct (Δ'.set i none) O' } (Δ1.set i (some (.xcp a d y.fs y.ds))) O1
      | some false => D.xc y Δ1 O1
      | none => False) := hq
    split at hq
    · rename_i e
      have em := ct _ _ e
      rw [← rx.1] at em
      refine ⟨true, em, fun _ a ha => ⟨y.c, rx.1, _, _, _, F1, hq a dd (w1.fresh ha), sr1.set (Rep.xcp_iff.mpr ⟨rfl, rx.2⟩) i, w1, eok_out (ho.mono s1)⟩, fun z => by cases z⟩
    · rename_i e
      have em := ct _ _ e
      rw [← rx.1] at em
      exact ⟨false, em, fun z => (by cases z), fun _ => ho.xc _ _ _ _ _ _ _ _ hq s1 sr1 w1 rx⟩
    · exact hq.elim
/-- e.f, e the error that is handled -/
def dXf (cs : List Ec) (f : Fd) (a : Addr) (ec : Ec) (d : Option Addr) (T : DE) : DE := fun Δ O P E => T Δ O (fun v O1 => match v with
  | .xcp a' d' fs ds => a' = a ∧ d' = d ∧ ec ∈ cs ∧ (match getF f fs ds with | some e => P e O1 | none => False)
  | _ => False) E
structure XFl (g : Gm) (cs : List Ec) (f : Fd) : Prop where
  cl : ∀ c ∈ cs, XfC g.K (g.ea c)
  no : ∀ c ∈ cs, PySem.W.findIn g.K (.ref (g.ea c)) f.str = some none
theorem q_xf {cs : List Ec} {f : Fd} {q : Addr} {oe : Obj} {ec : Ec} {d : Option Addr} {pn : List (Addr × Obj)} (A : XFl g cs f) (hz : Zc (.ref (g.ea ec)) d oe) (hv : ∃ vs, oe.data = .fields vs) (ha : PE (X.suite q ((q, oe) :: pn)) a (le g W Ta)) (hx : x = f.str := by rfl) (hK : X.K = g.K := by rfl)
    (hb : attributeBase a x X.env (eval a X.env) = eval a X.env := by rfl) : PE (X.suite q ((q, oe) :: pn)) (.Attribute a x pos) (le g W (dXf cs f q ec d Ta)) := by
  subst hx
  by_cases hec : ec ∈ cs
  · refine pe_imp (pe_xf (by rw [hK]; exact A.cl ec hec) (by rw [hK]; exact A.no ec hec) hz hv ha hb) fun σ H Q h => ?_
    obtain ⟨Δ, O, P, E, F, hT, sr, w, hv, hx⟩ := h
    refine le_bind hT sr w hx fun v O1 vv F1 H1 hT1 s1 sr1 w1 rx hx1 => ?_
    cases v with
    | xcp a' d' fs ds =>
      obtain ⟨e1, e2, _, hT1⟩ := hT1
      subst e1
      subst e2
      obtain ⟨ev, vs, hxf, rs⟩ := Rep.xcp_iff.mp rx
      subst ev
      split at hT1
      · rename_i e eg
        obtain ⟨u, hu, ru⟩ := getF_look rs eg
        obtain ⟨dd, vfs, h1, h2, h3⟩ := hxf.2 _ _ hu
        exact ⟨rfl, rfl, dd, vfs, u, h1, w1.same _ _ h2, h3, hv _ _ _ _ _ hT1 s1 w1 ru⟩
      · exact hT1.elim
    | _ => exact hT1.elim
  · refine ⟨fun pins s σ H Q I h => ?_⟩
    obtain ⟨Δ, O, P, E, F, hT, sr, w, hv', hx⟩ := h
    refine attr_of hb (thn (ha.run pins s σ H (fun _ _ => False) I ?_) fun u s1 ⟨_, _, _, _, z⟩ => z.elim)
    refine le_bind hT sr w hx fun v O1 vv F1 H1 hT1 s1 sr1 w1 rx hx1 => ?_
    cases v with
    | xcp a' d' fs ds => exact absurd hT1.2.2.1 hec
    | _ => exact hT1.elim
/-- isinstance(e, C), e the error that is handled -/
structure XIs (K : PySem.W.Frag) (C : Addr) : Prop where
  xf : XfC K C
  ha : PySem.W.findIn K (.ref C) "__class__" = some (some (.builtin "object.__class__"))
  hn : PySem.W.specialIn K (.builtin "object.__class__") "__get__" = some (some (.builtin "getset_descriptor.__get__"))
  ht : PySem.W.takesIn K (.builtin "object.__class__") = some true
  hm : PySem.W.mroIn K C (.type "object") = some true
theorem call_isX {qa C : Addr} {oe : Obj} {d : Option Addr} {pn : List (Addr × Obj)} (T : XIs X.K C) (hz : Zc (.ref C) d oe) (hf : ∃ vs, oe.data = .fields vs) : CallR (X.suite qa ((qa, oe) :: pn)) (.builtin "isinstance")
    (fun xs H Q => ∃ (c : V) (cv : Value) (b : Bool), xs = [.ref qa, c] ∧ (∀ u, RelV c u → u = cv) ∧ PySem.W.kitOne X.K (.ref C) cv = some b ∧ (∀ dd, d = some dd → ∃ vfs, H dd = some (.xd vfs)) ∧ Q (.bl b) H) := by
  intro pins s σ H xs us Q I r h
  obtain ⟨c, cv, b, rfl, hcv, e, hd, q⟩ := h
  cases r with
  | cons rx rr =>
    cases rr with
    | cons rt rr =>
      cases rr
      cases rx
      have ec := hcv _ rt
      subst ec
      obtain ⟨hget, _⟩ := I.pin (qa, oe) (List.mem_append.mpr (.inl List.mem_cons_self))
      obtain ⟨vs, hv⟩ := hf
      obtain ⟨cdc, hcc, _⟩ := PySem.W.any_some T.xf.hdC
      have J : ∃ od, PySem.W.InstAt s.heap qa oe C od := by
        obtain ⟨oc, odd, oda, osl⟩ := oe
        obtain ⟨h1, h2⟩ := hz
        dsimp only at h1 h2 hv
        subst h1 h2 hv
        cases odd with
        | none => exact ⟨none, hget, rfl, rfl, trivial⟩
        | some dd =>
          obtain ⟨vfs, hvf⟩ := hd dd rfl
          have hx : ObjOk X.prog X.w H s.heap dd (.xd vfs) := I.hok dd _ hvf
          obtain ⟨mA, ⟨o, es, ep, ho, hr⟩, _⟩ := hx
          exact ⟨some o, hget, rfl, rfl, ho⟩
      obtain ⟨od, J⟩ := J
      exact PySem.W.kia_one (PySem.W.kitx_exc (by rw [hcc]; rfl) T.xf.ga T.xf.gg T.xf.exC T.ha T.hn T.ht T.hm) I.kIn J e (fun z => nomatch z) fun tk => ⟨.bl b, H, I.kept (t' := tk) fun _ _ z => z, rfl, q⟩
def dIsX (tab : Ec → Option Bool) (q : Addr) (ec : Ec) (d : Option Addr) (T : DE) : DE := fun Δ O P E => T Δ O (fun v O1 => match v with
  | .xcp a' d' _ _ => a' = q ∧ d' = d ∧ (match tab ec with | some b => P (.bl b) O1 | none => False)
  | _ => False) E
/-- the answers of isinstance(e, C), by the class of e -/
structure IsTab (g : Gm) (cv : Value) (tab : Ec → Option Bool) : Prop where
  xi : ∀ ec b, tab ec = some b → XIs g.K (g.ea ec)
  ki : ∀ ec b, tab ec = some b → PySem.W.kitOne g.K (.ref (g.ea ec)) cv = some b
theorem q_isX {tab : Ec → Option Bool} {q : Addr} {oe : Obj} {ec : Ec} {d : Option Addr} {pn : List (Addr × Obj)} {n : Str} {p3 : Pos} {cv : Value} {vv : V} (A : IsTab g cv tab) (hz : Zc (.ref (g.ea ec)) d oe) (hf : ∃ vs, oe.data = .fields vs) (hm : X.mg "isinstance" = none)
    (ha : PE (X.suite q ((q, oe) :: pn)) a (le g W Ta)) (hb : PE (X.suite q ((q, oe) :: pn)) (.Name n p3) (tC vv)) (hvv : ∀ u, RelV vv u → u = cv) (hK : X.K = g.K := by rfl) (hg : Gl X "isinstance" := by rfl)
    (hs : starEach (a :: [.Name n p3]) X.env = (false, eval a X.env) :: starEach [.Name n p3] X.env := by rfl) (hs' : starEach [.Name n p3] X.env = (false, eval (.Name n p3) X.env) :: starEach [] X.env := by rfl) (hpl : (backTo pos (starEach [.Name n p3] X.env)).any (·.1) = false := by rfl) :
    PE (X.suite q ((q, oe) :: pn)) (.Call (.Name "isinstance" p) [a, .Name n p3] [] pos) (le g W (dIsX tab q ec d Ta)) := by
  cases et : tab ec with
  | some b =>
    have T : XIs X.K (g.ea ec) := by rw [hK]; exact A.xi ec b et
    have ek : PySem.W.kitOne X.K (.ref (g.ea ec)) cv = some b := by rw [hK]; exact A.ki ec b et
    refine pe_imp (pe_callB (X := X.suite q ((q, oe) :: pn)) (call_isX T hz hf) hg hm (by decide +kernel) (pa_cons ha (pa_cons hb pa_nil hs') hs) (by decide) (by decide) hs hpl) fun σ H Q h => ?_
    obtain ⟨Δ, O, P, E, F, hT, sr, w, hv, hx⟩ := h
    refine le_bind hT sr w hx fun v O1 vv' F1 H1 hT1 s1 sr1 w1 rx hx1 => ?_
    cases v with
    | xcp a' d' fs ds =>
      obtain ⟨e1, e2, hT1⟩ := hT1
      subst e1
      subst e2
      obtain ⟨ev, vs, hxf, rs⟩ := Rep.xcp_iff.mp rx
      subst ev
      rw [et] at hT1
      refine ⟨vv, cv, b, rfl, hvv, ek, fun dd e => ?_, hv _ _ _ _ _ hT1 s1 w1 rbl⟩
      obtain ⟨vfs, h1⟩ := hxf.1 dd e
      exact ⟨vfs, w1.same _ _ h1⟩
    | _ => exact hT1.elim
  | none =>
    refine ⟨fun pins s σ H Q I h => ?_⟩
    obtain ⟨Δ, O, P, E, F, hT, sr, w, hv, hx⟩ := h
    have no : le g W Ta σ H (fun _ _ => False) := le_bind hT sr w hx fun v O1 vv F1 H1 hT1 s1 sr1 w1 rx hx1 => by
      cases v with
      | xcp a' d' fs ds => rw [et] at hT1; exact hT1.2.2.elim
      | _ => exact hT1.elim
    refine (pe_callB (X := X.suite q ((q, oe) :: pn)) (id := "isinstance") (r := fun _ _ _ => False) (fun _ _ _ _ _ _ _ _ _ z => z.elim) hg hm (by decide +kernel) (pa_cons ha (pa_cons hb pa_nil hs') hs) (by decide) (by decide) hs hpl).run pins s σ H Q I ?_
    exact ⟨_, _, _, _, _, hT, sr, w, fun d O v F1 H1 hd s1 w1 r1 => by
      cases d with
      | xcp a' d' fs ds => rw [et] at hd; exact hd.2.2.elim
      | _ => exact hd.elim, hx⟩
end
end G

set_option Elab.async false
set_option linter.all false
set_option maxRecDepth 100000
set_option maxHeartbeats 4000000
namespace G
open PySem L2
/-! ## types of data, isinstance of an own class -/
inductive Tg where
  | b (s : String) | c (cl : Cl)
  deriving DecidableEq
def Tg.val (g : Gm) : Tg → Value
  | .b s => .type s
  | .c cl => .ref (g.ca cl)
def tgD (O : Sto) (d : D) : Option Tg := match d with
  | .tup _ => some (.b "tuple")
  | .obj c _ _ => some (.c c)
  | .ptr q => (match getC O q with | some (.ins c _ _) => some (.c c) | some (.lst _) => some (.b "list") | some (.dic _ _) => some (.b "dict") | _ => none)
  | d => (tyD O d).map Tg.b
structure OwnTy (g : Gm) (c : Cl) : Prop where
  cl : Cls g.K (g.ca c)
  ha : PySem.W.findIn g.K (.ref (g.ca c)) "__class__" = some (some (.builtin "object.__class__"))
  hn : PySem.W.specialIn g.K (.builtin "object.__class__") "__get__" = some (some (.builtin "getset_descriptor.__get__"))
  ht : PySem.W.takesIn g.K (.builtin "object.__class__") = some true
  hm : PySem.W.mroIn g.K (g.ca c) (.type "object") = some true
section
variable {g : Gm}
theorem sqt_ty {K : PySem.W.Frag} {H : Hp} {a : Addr} {vs : List V} (h : SqT K H a vs) : TyX K H (.ref a) (.type "tuple") := by
  rcases h with (h | ⟨o, h⟩) | h
  · exact .base (.tup h)
  · exact .fTuple h
  · obtain ⟨o, h1, h2⟩ : ∃ o, K.lookup a = some o ∧ o.cls = .type "tuple" := by
      obtain ⟨o, us, n, h1, h2, h3⟩ := h
      exact ⟨o, h1, h2⟩
    exact .kTuple h1 h2
theorem tg_of {F : Hp} {O : Sto} {H : Hp} {d : D} {v : V} {t : Tg} (h : tgD O d = some t) (r : Rep g F d v) (w : Wd g F O H) (ow : ∀ c, t = .c c → OwnTy g c) : TyX g.K H v (t.val g) := by
  have ins : ∀ {a dx : Addr} {fs : List (Str × V)} {c : Cl}, OwnTy g c → H a = some (.ins (g.ca c) dx fs) → TyX g.K H (.ref a) (.ref (g.ca c)) := fun o e => .base (.ins e o.cl o.ha o.hn o.ht o.hm)
  cases d with
  | tup ds =>
    cases h
    obtain ⟨q, vs, rfl, h3, h4⟩ := Rep.tup_sq r
    exact sqt_ty (sqt_same w.same h3)
  | obj c fs ds =>
    cases h
    obtain ⟨p, dx, vs, rfl, h1, h2, h3⟩ := Rep.obj_iff.mp r
    exact ins (ow c rfl) (w.same _ _ h1)
  | ptr q =>
    rw [Rep.ptr_iff] at r
    subst r
    simp only [tgD] at h
    split at h
    · rename_i c fs ds eg
      cases h
      obtain ⟨_, ob, h3, h4⟩ := w.get eg
      cases ob with
      | ins C dx vfs =>
        obtain ⟨h5, _⟩ := h4
        subst h5
        exact ins (ow c rfl) h3
      | _ => exact h4.elim
    · rename_i ds eg
      cases h
      exact ty_of (O := O) (d := .ptr q) (by simp only [tyD, eg]) (Rep.ptr_iff.mpr rfl) w
    · rename_i ks ds eg
      cases h
      exact ty_of (O := O) (d := .ptr q) (by simp only [tyD, eg]) (Rep.ptr_iff.mpr rfl) w
    · cases h
  | non => cases h; exact ty_of (O := O) rfl r w
  | bl b => cases h; exact ty_of (O := O) rfl r w
  | int b => cases h; exact ty_of (O := O) rfl r w
  | str b => cases h; exact ty_of (O := O) rfl r w
  | lst b => cases h; exact ty_of (O := O) rfl r w
  | dic b c => cases h; exact ty_of (O := O) rfl r w
  | scr b => cases h
  | cls b => cases h
  | xcp _ _ _ _ => cases h
end
def dIsO (tab : Tg → Option Bool) (T : DE) : DE := fun Δ O P E => T Δ O (fun d O1 => match tgD O1 d with
  | some t => (match tab t with | some b => P (.bl b) O1 | none => False)
  | none => False) E
structure IsO (g : Gm) (cv : Value) (tab : Tg → Option Bool) : Prop where
  own : ∀ c b, tab (.c c) = some b → OwnTy g c
  ki : ∀ t b, tab t = some b → PySem.W.kitOne g.K (t.val g) cv = some b
section
variable {g : Gm} {X : Cx} {W : WX} {pos pos' p q apos : Pos} {a b c o : Expr} {es : List Expr} {Ta Tb : DE} {R : DA} {k j : Nat} {f : Addr} {S : DSp} {x m : Str} {tab : List (Cl × DSp)}
theorem q_isO {tb : Tg → Option Bool} {C : Addr} (A : IsO g (.ref C) tb) (hm : X.mg "isinstance" = none) (hm' : X.mg x = some (.ref C)) (ha : PE X a (le g W Ta)) (hg : Gl X "isinstance" := by rfl) (hg' : Gl X x := by rfl)
    (hd : (x == ("__debug__" : Str)) = false := by decide) (hK : X.K = g.K := by rfl)
    (hs : starEach (a :: [.Name x q]) X.env = (false, eval a X.env) :: starEach [.Name x q] X.env := by rfl) (hs' : starEach [.Name x q] X.env = (false, eval (.Name x q) X.env) :: starEach [] X.env := by rfl) (hpl : (backTo pos (starEach [.Name x q] X.env)).any (·.1) = false := by rfl) :
    PE X (.Call (.Name "isinstance" p) [a, .Name x q] [] pos) (le g W (dIsO tb Ta)) := by
  have hb : PE X (.Name x q) (tC (.ref C)) := pe_glob hg' hm' rfl hd
  refine pe_imp (pe_callB call_isi hg hm (by decide +kernel) (pa_cons ha (pa_cons hb pa_nil hs') hs) (by decide) (by decide) hs hpl) fun σ H Q h => ?_
  obtain ⟨Δ, O, P, E, F, hT, sr, w, hv, hx⟩ := h
  refine le_bind hT sr w hx fun d O1 v F1 H1 hT1 s1 sr1 w1 rx hx1 => ?_
  split at hT1
  · rename_i t e
    split at hT1
    · rename_i kb ek
      refine ⟨v, .ref C, t.val g, .ref C, kb, rfl, .own C, by rw [hK]; exact tg_of e rx w1 fun c ec => A.own c kb (ec ▸ ek), by rw [hK]; exact A.ki t kb ek, (hv.mono s1).now hT1 w1 rbl⟩
    · exact hT1.elim
  · exact hT1.elim
/-! ## own operators -/
/-- the operator's name, the class of the left operand: the def that serves it -/
def dBin (tab : List (Cl × DSp)) (ok : Cl → Sto → D → Prop) (Ta Tb : DE) : DE := fun Δ O P E => Ta Δ O (fun x O1 => Tb Δ O1 (fun y O2 => match clsOf O2 x with
  | some c => (match tabAt tab c with | some S => ok c O2 y ∧ S [x, y] O2 P E | none => False)
  | none => False) E) E
def dUno (tab : List (Cl × DSp)) (Ta : DE) : DE := fun Δ O P E => Ta Δ O (fun x O1 => match clsOf O1 x with
  | some c => (match tabAt tab c with | some S => S [x] O1 P E | none => False)
  | none => False) E
end
end G

set_option Elab.async false
set_option linter.all false
set_option maxRecDepth 100000
set_option maxHeartbeats 4000000
namespace G
open PySem L2
/-! ## == and != by an own __eq__ -/
section
variable {prog : Program} {w : World} {M : Model} {A : Around} {E : Value → Shared → Prop} {s : Shared} {K : PySem.W.Frag} {x C f : Addr} {ox : Obj} {od : Option Obj} {b tb : Value}
end
/-- x == y, x of an own class: nf tells which classes may stand at the right -/
def dEqOwn (neg : Bool) (tab : List (Cl × DSp)) (nf : Cl → Tg → Bool) (Ta Tb : DE) : DE := fun Δ O P E => Ta Δ O (fun x O1 => Tb Δ O1 (fun y O2 => match clsOf O2 x, tgD O2 y with
  | some c, some t => (match tabAt tab c with | some S => nf c t = true ∧ S [x, y] O2 (boolK fun k O3 => P (.bl (if neg = true then !k else k)) O3) E | none => False)
  | _, _ => False) E) E
section
variable {g : Gm} {X : Cx} {W : WX} {pos pos' p apos : Pos} {a b c o : Expr} {es : List Expr} {Ta Tb : DE} {R : DA} {k j : Nat} {f : Addr} {S : DSp} {x m : Str} {tab : List (Cl × DSp)}
end
end G

set_option Elab.async false
set_option linter.all false
set_option maxRecDepth 100000
set_option maxHeartbeats 4000000
namespace G
open PySem L2
/-! ## more builtins -/
def fMax2 : BC := fun ds O P => match ds with | [.int i, .int j] => P (.int (max i j)) O | _ => False
def fMin2 : BC := fun ds O P => match ds with | [.int i, .int j] => P (.int (min i j)) O | _ => False
def fAbs : BC := fun ds O P => match ds with | [.int i] => P (.int (i.natAbs : Int)) O | _ => False
def intsOf : List D → Option (List Int)
  | [] => some []
  | .int i :: r => (intsOf r).map (i :: ·)
  | _ => none
theorem intsOf_map (ns : List Int) : intsOf (ns.map D.int) = some ns := by
  induction ns with
  | nil => rfl
  | cons n ns ih => rw [List.map_cons, intsOf, ih]; rfl
theorem intsOf_eq : ∀ {ds : List D} {ns : List Int}, intsOf ds = some ns → ds = ns.map D.int := by
  intro ds
  induction ds with
  | nil => intro ns h; cases h; rfl
  | cons d ds ih =>
    intro ns h
    cases d with
    | int i =>
      rw [intsOf] at h
      cases e : intsOf ds with
      | none => rw [e] at h; cases h
      | some r =>
        rw [e] at h
        cases h
        rw [ih e]
        rfl
    | _ => simp [intsOf] at h
/-- the numbers in ascending order -/
def srtI (ns : List Int) : List Int := ns.mergeSort fun a b => decide (a ≤ b)
def fSortI : BC := fun ds O P => match ds with | [d] => (match lstOf O d with | some es => (match intsOf es with | some ns => P (.lst ((srtI ns).map D.int)) O | none => False) | none => False) | _ => False
section
variable {g : Gm}
theorem reps1 {F : Hp} {a : D} {vs : List V} (h : Reps g F [a] vs) : ∃ u, vs = [u] ∧ Rep g F a u := by
  obtain ⟨u, r, rfl, h1, h2⟩ := Reps.cons_iff.mp h
  rw [Reps.nil_iff] at h2
  subst h2
  exact ⟨u, rfl, h1⟩
end
theorem sz0 : (0 ≤ sizeLine) = True := by simp
theorem sz1 : (0 + 1 ≤ sizeLine) = True := by rw [sizeLine_eq]; simp
theorem sz2 : (0 + 1 + 1 ≤ sizeLine) = True := by rw [sizeLine_eq]; simp
theorem sz3 : (0 + 1 + 1 + 1 ≤ sizeLine) = True := by rw [sizeLine_eq]; simp
theorem sz4 : (0 + 1 + 1 + 1 + 1 ≤ sizeLine) = True := by rw [sizeLine_eq]; simp
theorem sz5 : (0 + 1 + 1 + 1 + 1 + 1 ≤ sizeLine) = True := by rw [sizeLine_eq]; simp
theorem sz6 : (0 + 1 + 1 + 1 + 1 + 1 + 1 ≤ sizeLine) = True := by rw [sizeLine_eq]; simp
theorem sz7 : (0 + 1 + 1 + 1 + 1 + 1 + 1 + 1 ≤ sizeLine) = True := by rw [sizeLine_eq]; simp
theorem sz8 : (0 + 1 + 1 + 1 + 1 + 1 + 1 + 1 + 1 ≤ sizeLine) = True := by rw [sizeLine_eq]; simp
theorem sz9 : (0 + 1 + 1 + 1 + 1 + 1 + 1 + 1 + 1 + 1 ≤ sizeLine) = True := by rw [sizeLine_eq]; simp
theorem sz10 : (0 + 1 + 1 + 1 + 1 + 1 + 1 + 1 + 1 + 1 + 1 ≤ sizeLine) = True := by rw [sizeLine_eq]; simp
theorem sz11 : (0 + 1 + 1 + 1 + 1 + 1 + 1 + 1 + 1 + 1 + 1 + 1 ≤ sizeLine) = True := by rw [sizeLine_eq]; simp
theorem sz12 : (0 + 1 + 1 + 1 + 1 + 1 + 1 + 1 + 1 + 1 + 1 + 1 + 1 ≤ sizeLine) = True := by rw [sizeLine_eq]; simp
def isN : D → Bool
  | .non => true
  | _ => false
def fIsN : B2 := fun x y O P => match y with | .non => P (.bl (isN x)) O | _ => False
def fNotN : B2 := fun x y O P => match y with | .non => P (.bl (!isN x)) O | _ => False
theorem f_isN {O : Sto} {P : KD} {x : D} : fIsN x .non O P = P (.bl (isN x)) O := propext Iff.rfl
theorem f_notN {O : Sto} {P : KD} {x : D} : fNotN x .non O P = P (.bl (!isN x)) O := propext Iff.rfl
theorem f_max {O : Sto} {P : KD} {i j : Int} : fMax2 [.int i, .int j] O P = P (.int (max i j)) O := propext Iff.rfl
theorem f_min {O : Sto} {P : KD} {i j : Int} : fMin2 [.int i, .int j] O P = P (.int (min i j)) O := propext Iff.rfl
theorem f_abs {O : Sto} {P : KD} {i : Int} : fAbs [.int i] O P = P (.int (i.natAbs : Int)) O := propext Iff.rfl
theorem f_eqT {O : Sto} {P : KD} {a b c d : Int} : fEq (.tup [.int a, .int b]) (.tup [.int c, .int d]) O P = P (.bl (decide (a = c ∧ b = d))) O := by
  have e : eqB (.tup [.int a, .int b]) (.tup [.int c, .int d]) = some (decide (a = c ∧ b = d)) := by
    have z := eq_pr (a, b) (c, d)
    simp only [Prod.mk.injEq] at z
    exact z
  unfold fEq
  rw [e]
theorem f_neT {O : Sto} {P : KD} {a b c d : Int} : fNe (.tup [.int a, .int b]) (.tup [.int c, .int d]) O P = P (.bl (!decide (a = c ∧ b = d))) O := by
  have e : eqB (.tup [.int a, .int b]) (.tup [.int c, .int d]) = some (decide (a = c ∧ b = d)) := by
    have z := eq_pr (a, b) (c, d)
    simp only [Prod.mk.injEq] at z
    exact z
  unfold fNe
  rw [e]
theorem f_sortI {O : Sto} {P : KD} {ns : List Int} : fSortI [.lst (ns.map D.int)] O P = P (.lst ((srtI ns).map D.int)) O := by simp only [fSortI, lstOf, intsOf_map]
section
variable {Δ : Sl} {O : Sto} {P : KD} {E : KX} {En : DEnds} {Ta Tb Tc : DE} {T U : DS} {R : DA} {t u : DT} {i j : Nat} {d x y : D} {PB : Bool → Sto → Prop} {PA : List D → Sto → Prop} {tab : List (Cl × DSp)}
theorem e_raise {ec : Ec} {fs : List Fd} : dRaise ec fs R En Δ O = R Δ O (fun ds O1 => ds.length = fs.length ∧ ds.length ≤ 9 ∧ En.xc ⟨ec, fs, ds⟩ Δ O1) (fun x O1 => En.xc x Δ O1) := propext Iff.rfl
theorem e_raiseT {ec : Ec} : dRaiseT ec En Δ O = En.xc ⟨ec, [], []⟩ Δ O := propext Iff.rfl
theorem e_try {cat : Ec → Option Bool} {Th : DH} : dTry i cat T Th En Δ O = T { En with xc := fun x Δ1 O1 => match cat x.c with
  | some true => ∀ a d, freshC O1 a → Th a x.c d { nx := fun Δ' O' => En.nx (Δ'.set i none) O', rt := En.rt, bk := fun Δ' O' => En.bk (Δ'.set i none) O', ct := fun Δ' O' => En.ct (Δ'.set i none) O' } (Δ1.set i (some (.xcp a d x.fs x.ds))) O1
  | some false => En.xc x Δ1 O1
  | none => False } Δ O := propext Iff.rfl
theorem e_tryN {cat : Ec → Option Bool} {Th : DH} : dTryN cat T Th En Δ O = T { En with xc := fun x Δ1 O1 => match cat x.c with
  | some true => ∀ a d, freshC O1 a → Th a x.c d { nx := En.nx, rt := En.rt, bk := En.bk, ct := En.ct } Δ1 O1
  | some false => En.xc x Δ1 O1
  | none => False } Δ O := propext Iff.rfl
theorem e_xf {cs : List Ec} {f : Fd} {a : Addr} {ec : Ec} {dd : Option Addr} : dXf cs f a ec dd Ta Δ O P E = Ta Δ O (fun v O1 => match v with
  | .xcp a' d' fs ds => a' = a ∧ d' = dd ∧ ec ∈ cs ∧ (match getF f fs ds with | some e => P e O1 | none => False)
  | _ => False) E := propext Iff.rfl
theorem e_isX {tb : Ec → Option Bool} {a : Addr} {ec : Ec} {dd : Option Addr} : dIsX tb a ec dd Ta Δ O P E = Ta Δ O (fun v O1 => match v with
  | .xcp a' d' _ _ => a' = a ∧ d' = dd ∧ (match tb ec with | some b => P (.bl b) O1 | none => False)
  | _ => False) E := propext Iff.rfl
theorem e_isO {tb : Tg → Option Bool} : dIsO tb Ta Δ O P E = Ta Δ O (fun d O1 => match tgD O1 d with
  | some t => (match tb t with | some b => P (.bl b) O1 | none => False)
  | none => False) E := propext Iff.rfl
theorem e_bin {ok : Cl → Sto → D → Prop} : dBin tab ok Ta Tb Δ O P E = Ta Δ O (fun x O1 => Tb Δ O1 (fun y O2 => match clsOf O2 x with
  | some c => (match tabAt tab c with | some S => ok c O2 y ∧ S [x, y] O2 P E | none => False)
  | none => False) E) E := propext Iff.rfl
theorem e_uno : dUno tab Ta Δ O P E = Ta Δ O (fun x O1 => match clsOf O1 x with
  | some c => (match tabAt tab c with | some S => S [x] O1 P E | none => False)
  | none => False) E := propext Iff.rfl
theorem e_eqOwn {neg : Bool} {nf : Cl → Tg → Bool} : dEqOwn neg tab nf Ta Tb Δ O P E = Ta Δ O (fun x O1 => Tb Δ O1 (fun y O2 => match clsOf O2 x, tgD O2 y with
  | some c, some t => (match tabAt tab c with | some S => nf c t = true ∧ S [x, y] O2 (boolK fun k O3 => P (.bl (if neg = true then !k else k)) O3) E | none => False)
  | _, _ => False) E) E := propext Iff.rfl
theorem e_meth : dMeth tab Ta R Δ O P E = Ta Δ O (fun o O1 => match clsOf O1 o with
  | some c => (match tabAt tab c with | some S => R Δ O1 (fun ds O2 => S (o :: ds) O2 P E) E | none => False)
  | none => False) E := propext Iff.rfl
theorem tgI {n : Int} : tgD O (.int n) = some (.b "int") := rfl
theorem tgN : tgD O .non = some (.b "NoneType") := rfl
theorem tgB {n : Bool} : tgD O (.bl n) = some (.b "bool") := rfl
theorem tgS {n : Str} : tgD O (.str n) = some (.b "str") := rfl
theorem tgL {n : List D} : tgD O (.lst n) = some (.b "list") := rfl
theorem tgT {n : List D} : tgD O (.tup n) = some (.b "tuple") := rfl
theorem tgO {c : Cl} {fs : List Fd} {ds : List D} : tgD O (.obj c fs ds) = some (.c c) := rfl
end
end G

set_option Elab.async false
set_option linter.all false
set_option maxRecDepth 100000
set_option maxHeartbeats 4000000
namespace G
open PySem L2
/-! ## tables -/
def lookT {α β : Type} [DecidableEq α] : List (α × β) → α → Option β
  | [], _ => none
  | (a, b) :: r, x => if x = a then some b else lookT r x
theorem look_nil {α β : Type} [DecidableEq α] {Pp : α → β → Prop} : ∀ a b, lookT ([] : List (α × β)) a = some b → Pp a b := fun _ _ h => by cases h
theorem look_cons {α β : Type} [DecidableEq α] {Pp : α → β → Prop} {a : α} {b : β} {r : List (α × β)} (h : Pp a b) (t : ∀ a b, lookT r a = some b → Pp a b) : ∀ x y, lookT ((a, b) :: r) x = some y → Pp x y := fun x y e => by
  simp only [lookT] at e
  by_cases q : x = a
  · rw [if_pos q] at e
    cases e
    rw [q]
    exact h
  · rw [if_neg q] at e
    exact t x y e
section
variable {g : Gm} {tab : List (Cl × DSp)}
theorem isO_mk {cv : Value} {l : List (Tg × Bool)} (h : ∀ t b, lookT l t = some b → PySem.W.kitOne g.K (t.val g) cv = some b ∧ ∀ c', t = .c c' → OwnTy g c') : IsO g cv (lookT l) :=
  ⟨fun c b e => (h _ b e).2 c rfl, fun t b e => (h t b e).1⟩
theorem isX_mk {cv : Value} {l : List (Ec × Bool)} (h : ∀ t b, lookT l t = some b → PySem.W.kitOne g.K (.ref (g.ea t)) cv = some b ∧ XIs g.K (g.ea t)) : IsTab g cv (lookT l) := ⟨fun c b e => (h c b e).2, fun c b e => (h c b e).1⟩
theorem xfl_mk {cs : List Ec} {f : Fd} (h : ∀ c ∈ cs, XfC g.K (g.ea c) ∧ PySem.W.findIn g.K (.ref (g.ea c)) f.str = some none) : XFl g cs f := ⟨fun c hc => (h c hc).1, fun c hc => (h c hc).2⟩
theorem mem_nil {α : Type} {Pp : α → Prop} : ∀ q ∈ ([] : List α), Pp q := fun q h => absurd h List.not_mem_nil
theorem mem_cons' {α : Type} {Pp : α → Prop} {a : α} {l : List α} (h : Pp a) (t : ∀ q ∈ l, Pp q) : ∀ q ∈ a :: l, Pp q := fun q hq => by
  rcases List.mem_cons.mp hq with e | e
  · rw [e]; exact h
  · exact t q e
theorem an_own {c : Cl} (h : OwnTy g c) : ∀ c', Tg.c c = .c c' → OwnTy g c' := fun c' e => by cases e; exact h
end
section
variable {g : Gm} {P : Program} {w : World} {mg : Str → Option Value} {base : Heap}
theorem gx_mk {ec : Ec} {name : Str} {fs : List Fd} {f : Addr} {fd : FuncData} {ps : List Str} (hm : mg name = some (.ref (g.ea ec))) (ox : OexC g.K (g.ea ec)) (iC : PySem.W.findIn g.K (.ref (g.ea ec)) "__init__" = some (some (.ref f))) (tI : PySem.W.typeIn g.K (.ref f) = some (.type "function"))
    (F : FnOk P w g.K mg base (L2.CX P w) 1 f fd ps (spX (g.ea ec) (fs.map Fd.str))) (hb : Binds g.K fd ps []) : GX g P w g.K mg base ec name fs := ⟨hm, ox, f, fd, ps, iC, tI, F, hb⟩
theorem FunS.binds {K : PySem.W.Frag} {x qual : Str} {st : Stmt} {f : Addr} {fd : FuncData} {cc cda D : Addr} {file : Str} {ps : List Str} (F : FunS K x qual st f fd cc cda D file)
    (h : ∀ (kV doc pm : Value) (an : Option Addr) (ct : Value) (us : List Value), us.length = ps.length → bindArgs (PySem.W.ksFn x qual (defArgs st) (defBody st) (defScope st) .none kV doc pm an (.ref cda) ct cc) ⟨us, []⟩ = pure (ps.zip us)) : Binds K fd ps [] := by
  obtain ⟨oc, od, kV, doc, pm, an, ct, osl, rfl, lk⟩ := F.ex
  exact .all (h kV doc pm an ct)
end
end G

set_option Elab.async false
set_option linter.all false
set_option maxRecDepth 100000
set_option maxHeartbeats 4000000
namespace G
open PySem L2
/-! ## star arguments, classes as values -/
def dStar (Ta : DE) (R : DA) : DA := fun Δ O P E => Ta Δ O (fun d O1 => match seqOf O1 d with | some xs => R Δ O1 (fun ys O2 => P (xs ++ ys) O2) E | none => False) E
/-- a new object of the class c -/
def mkK (c : Cl) (S : DSp) (ds : List D) (O1 : Sto) (P : KD) (E : KX) : Prop := ∀ q, freshC O1 q → S (.ptr q :: ds) ((q, .ins c [] []) :: O1)
  (fun r O2 => r = .non ∧ (match getC O2 q with | some (.ins c' fs ds') => P (.obj c' fs ds') (delC O2 q) | _ => False)) (fun x O2 => E x (delC O2 q))
def dMakeC (tab : List (Cl × DSp)) (Tf : DE) (R : DA) : DE := fun Δ O P E => Tf Δ O (fun f O1 => match f with
  | .cls c => (match tabAt tab c with | some S => R Δ O1 (fun ds O2 => mkK c S ds O2 P E) E | none => False)
  | _ => False) E
section
variable {g : Gm} {X : Cx} {W : WX} {pos pos' p p2 : Pos} {a b c e : Expr} {es : List Expr} {R : DA} {Ta Tb Tf : DE} {k j : Nat} {x : Str} {tab : List (Cl × DSp)}
theorem seq_of {F : Hp} {O : Sto} {H : Hp} {d : D} {v : V} {xs : List D} (h : seqOf O d = some xs) (r : Rep g F d v) (w : Wd g F O H) : ∃ q vs, v = .ref q ∧ (SqT g.K H q vs ∨ SqL g.K H q vs) ∧ Reps g F xs vs := by
  cases d with
  | tup ds =>
    cases h
    obtain ⟨q, vs, rfl, h3, h4⟩ := Rep.tup_sq r
    exact ⟨q, vs, rfl, .inl (sqt_same w.same h3), h4⟩
  | lst ds =>
    obtain ⟨q, vs, rfl, h1, h2⟩ := lst_of (show lstOf O (.lst ds) = some xs from h) r w
    exact ⟨q, vs, rfl, .inr (SqL.of h1), h2⟩
  | ptr q =>
    obtain ⟨q, vs, rfl, h1, h2⟩ := lst_of (show lstOf O (.ptr q) = some xs from h) r w
    exact ⟨q, vs, rfl, .inr (SqL.of h1), h2⟩
  | _ => simp [seqOf, lstOf] at h
end
/-! ### a def with a star parameter -/
section
variable {g : Gm} {P : Program} {w : World} {K : PySem.W.Frag} {mg : Str → Option Value} {base : Heap}
end
section
variable {Δ : Sl} {O : Sto} {P : KD} {E : KX} {Ta Tf : DE} {R : DA} {PA : List D → Sto → Prop} {tab : List (Cl × DSp)}
theorem e_star : dStar Ta R Δ O PA E = Ta Δ O (fun d O1 => match seqOf O1 d with | some xs => R Δ O1 (fun ys O2 => PA (xs ++ ys) O2) E | none => False) E := propext Iff.rfl
theorem e_makeC : dMakeC tab Tf R Δ O P E = Tf Δ O (fun f O1 => match f with
  | .cls c => (match tabAt tab c with | some S => R Δ O1 (fun ds O2 => mkK c S ds O2 P E) E | none => False)
  | _ => False) E := propext Iff.rfl
end
end G

set_option Elab.async false
set_option linter.all false
set_option maxRecDepth 100000
set_option maxHeartbeats 4000000
namespace G
open PySem L2
/-! ## dicts -/
def keyD : D → Option Key
  | .int i => some (.inl i)
  | .str x => some (.inr x)
  | _ => none
def dicOf (O : Sto) : D → Option (List Key × List D)
  | .dic ks ds => some (ks, ds)
  | .ptr q => match getC O q with | some (.dic ks ds) => some (ks, ds) | _ => none
  | _ => none
/-- what stands at the key -/
def getK (k : Key) : List Key → List D → Option D
  | h :: hs, d :: ds => if h = k then some d else getK k hs ds
  | _, _ => none
def putKs (k : Key) : List Key → List Key
  | [] => [k]
  | h :: hs => if h = k then h :: hs else h :: putKs k hs
def putKd (k : Key) (d : D) : List Key → List D → List D
  | h :: hs, e :: es => if h = k then d :: es else e :: putKd k d hs es
  | _, _ => [d]
section
variable {g : Gm}
end
/-- d[k] -/
def dDix (Td Tk : DE) : DE := fun Δ O P E => Td Δ O (fun d O1 => Tk Δ O1 (fun y O2 => match dicOf O2 d, keyD y with
  | some t, some k => (match getK k t.1 t.2 with | some e => P e O2 | none => False)
  | _, _ => False) E) E
/-- k in d -/
def dInD (neg : Bool) (Tk Td : DE) : DE := fun Δ O P E => Tk Δ O (fun y O1 => Td Δ O1 (fun d O2 => match dicOf O2 d, keyD y with
  | some t, some k => P (.bl (if neg = true then !(getK k t.1 t.2).isSome else (getK k t.1 t.2).isSome)) O2
  | _, _ => False) E) E
/-- d.get(k, x) -/
def dDget2 (Td Tk Tx : DE) : DE := fun Δ O P E => Td Δ O (fun d O1 => match dicOf O1 d with
  | some _ => Tk Δ O1 (fun y O2 => Tx Δ O2 (fun x O3 => match dicOf O3 d, keyD y with
    | some t, some k => P ((getK k t.1 t.2).getD x) O3
    | _, _ => False) E) E
  | none => False) E
/-- d[k] = v, d owned -/
def dSetD (Td Tk Tv : DE) : DS := fun En Δ O => Tv Δ O (fun v O1 => Td Δ O1 (fun d O2 => Tk Δ O2 (fun y O3 => match d, keyD y with
  | .ptr q, some k => (match getC O3 q with
    | some (.dic ks ds) => ks.Nodup ∧ ks.length < 1000000 ∧ En.nx Δ (setC O3 q (.dic (putKs k ks) (putKd k v ks ds)))
    | _ => False)
  | _, _ => False) (fun x O1 => En.xc x Δ O1)) (fun x O1 => En.xc x Δ O1)) (fun x O1 => En.xc x Δ O1)
def dDNew : DE := fun _ O P _ => ∀ p, freshC O p → P (.ptr p) ((p, .dic [] []) :: O)
section
variable {g : Gm} {X : Cx} {W : WX} {pos pos' p p2 apos cpos : Pos} {a b c e o i f value : Expr} {es : List Expr} {R : DA} {Ta Tb Tc Td Tk Tx Tv : DE} {k j : Nat} {x : Str}
end
end G

set_option Elab.async false
set_option linter.all false
set_option maxRecDepth 100000
set_option maxHeartbeats 4000000
namespace G
open PySem L2
/-! ## lists of numbers and of truth values -/
def blsOf : List D → Option (List Bool)
  | [] => some []
  | .bl i :: r => (blsOf r).map (i :: ·)
  | _ => none
theorem blsOf_map (ns : List Bool) : blsOf (ns.map D.bl) = some ns := by
  induction ns with
  | nil => rfl
  | cons n ns ih => rw [List.map_cons, blsOf, ih]; rfl
theorem blsOf_eq : ∀ {ds : List D} {ns : List Bool}, blsOf ds = some ns → ds = ns.map D.bl := by
  intro ds
  induction ds with
  | nil => intro ns h; cases h; rfl
  | cons d ds ih =>
    intro ns h
    cases d with
    | bl i =>
      rw [blsOf] at h
      cases e : blsOf ds with
      | none => rw [e] at h; cases h
      | some r =>
        rw [e] at h
        cases h
        rw [ih e]
        rfl
    | _ => simp [blsOf] at h
/-- the greatest, the least -/
def maxL : List Int → Int
  | [] => 0
  | [x] => x
  | x :: r => max x (maxL r)
def minL : List Int → Int
  | [] => 0
  | [x] => x
  | x :: r => min x (minL r)
/-- one argument, a list of whole numbers -/
def fInts (C : List Int → Prop) (h : List Int → D) : BC := fun ds O P => match ds with | [d] => (match lstOf O d with | some es => (match intsOf es with | some ns => C ns ∧ P (h ns) O | none => False) | none => False) | _ => False
def fBls (h : List Bool → D) : BC := fun ds O P => match ds with | [d] => (match lstOf O d with | some es => (match blsOf es with | some ns => P (h ns) O | none => False) | none => False) | _ => False
def fSum : BC := fInts (fun _ => True) fun ns => .int ns.sum
def fMaxL : BC := fInts (fun ns => 0 < ns.length) fun ns => .int (maxL ns)
def fMinL : BC := fInts (fun ns => 0 < ns.length) fun ns => .int (minL ns)
def fAny : BC := fBls fun bs => .bl (bs.any id)
def fAll : BC := fBls fun bs => .bl (bs.all id)
section
variable {g : Gm}
theorem lst_bls {F : Hp} {O : Sto} {H : Hp} {d : D} {v : V} {es : List D} {ns : List Bool} (e : lstOf O d = some es) (ei : blsOf es = some ns) (r : Rep g F d v) (w : Wd g F O H) : ∃ q, v = .ref q ∧ SqL g.K H q (ns.map V.bl) := by
  obtain ⟨q, vs, rfl, h1, h2⟩ := lst_of e r w
  rw [blsOf_eq ei] at h2
  rw [Reps.bls] at h2
  subst h2
  exact ⟨q, rfl, SqL.of h1⟩
theorem bls_of {h : List Bool → D} {ds : List D} {O : Sto} {P : KD} {F : Hp} {H : Hp} {vs : List V} (hf : fBls h ds O P) (rs : Reps g F ds vs) (w : Wd g F O H) : ∃ q ns, vs = [.ref q] ∧ SqL g.K H q (ns.map V.bl) ∧ P (h ns) O := by
  unfold fBls at hf
  split at hf
  · split at hf
    · rename_i es e
      split at hf
      · rename_i ns ei
        obtain ⟨u, rfl, h1⟩ := reps1 rs
        obtain ⟨q, rfl, hs⟩ := lst_bls e ei h1 w
        exact ⟨q, ns, rfl, hs, hf⟩
      · exact hf.elim
    · exact hf.elim
  · exact hf.elim
theorem lk_all : LkC g (rAll g.K) fAll := by
  intro ds O P F H vs Q hf rs w hv
  obtain ⟨q, ns, rfl, hs, hp⟩ := bls_of hf rs w
  exact ⟨q, ns, rfl, hs, hv.now hp w rbl⟩
end
section
variable {O : Sto} {P : KD} {ns : List Int} {bs : List Bool}
theorem f_sum : fSum [.lst (ns.map D.int)] O P = P (.int ns.sum) O := by simp only [fSum, fInts, lstOf, intsOf_map, true_and]
theorem f_maxL : fMaxL [.lst (ns.map D.int)] O P = (0 < ns.length ∧ P (.int (maxL ns)) O) := by simp only [fMaxL, fInts, lstOf, intsOf_map]
theorem f_minL : fMinL [.lst (ns.map D.int)] O P = (0 < ns.length ∧ P (.int (minL ns)) O) := by simp only [fMinL, fInts, lstOf, intsOf_map]
theorem f_any : fAny [.lst (bs.map D.bl)] O P = P (.bl (bs.any id)) O := by simp only [fAny, fBls, lstOf, blsOf_map]
theorem f_all : fAll [.lst (bs.map D.bl)] O P = P (.bl (bs.all id)) O := by simp only [fAll, fBls, lstOf, blsOf_map]
end
/-! ## list(x), list(d), dict(d) -/
def kD : Key → D
  | .inl i => .int i
  | .inr x => .str x
def fListS : BC := fun ds O P => match ds with | [d] => (match seqOf O d with | some es => P (.lst es) O | none => False) | _ => False
def fDictD : BC := fun ds O P => match ds with | [d] => (match dicOf O d with | some t => ∀ p, freshC O p → P (.ptr p) ((p, .dic t.1 t.2) :: O) | none => False) | _ => False
section
variable {g : Gm} {X : Cx} {W : WX} {pos pos' p p2 : Pos} {a b c e : Expr} {es : List Expr} {R : DA} {Ta Tb : DE} {k j : Nat} {x : Str}
/-! ## x += e -/
theorem qs_aug (i : Nat) {op : Operator} {r : R2} {f : B2} {y : Str} {p' : Pos} (ho : OpR X (inplaceOp op) r) (lk : Lk2 g r f) (hN : X.N.Nodup) (ha : PE X a (le g W Ta)) (hi : X.N[i]? = some y := by rfl) (hx : Loc X.env.scope y := by exact Or.inl rfl) (hf : X.fn y = true ∨ X.env.scope.names.lookup y = some .local := by exact Or.inr rfl) :
    PS X (.AugAssign (.Name y p') op a pos) (ls g W (dAug i f Ta)) := by
  refine ps_imp (ps_aug (ti := r) hN hi hx ha ho hf) fun E σ H ⟨D, Δ, O, F, hT, sr, w, ho⟩ => ?_
  unfold dAug at hT
  split at hT
  · rename_i d e
    obtain ⟨v, hv, rv⟩ := sr.2 i _ e
    refine ⟨v, hv, le_bind hT sr w (ho.toX sr) fun z O1 vz F1 H1 hT1 s1 sr1 w1 rz hx1 => ?_⟩
    exact lk _ _ _ _ F1 H1 _ _ _ hT1 (rv.mono s1) rz w1 fun d' O2 v' F2 H2 hd s2 w2 r2 => ho.nx _ _ _ _ _ hd (s1.trans s2) ((sr1.mono s2).set r2 i) w2
  · exact hT.elim
end
/-! ## enumerate -/
def dEnum (R : DA) : DA := fun Δ O P E => R Δ O (fun ds O1 => match ds with
  | [d] => (match d with | .lst xs => P (xs.mapIdx fun i x => .tup [.int (i : Int), x]) O1 | _ => False)
  | _ => False) E
section
variable {g : Gm} {X : Cx} {W : WX} {pos pos' p p2 tpos : Pos} {a b c e : Expr} {elts : List Expr} {kk : Nat} {R : DA}
end
end G

set_option Elab.async false
set_option linter.all false
set_option maxRecDepth 100000
set_option maxHeartbeats 4000000
namespace G
open PySem L2
/-! ## own specials: truth, len, repr, str, [] -/
/-- what stands behind an own def of one object: its answer through h -/
def dSp1 (tab : List (Cl × DSp)) (h : D → Sto → KD → Prop) (Ta : DE) : DE := fun Δ O P E => Ta Δ O (fun x O1 => match clsOf O1 x with
  | some c => (match tabAt tab c with | some S => S [x] O1 (fun d O2 => h d O2 P) (fun _ _ => False) | none => False)
  | none => False) E
def hLen : D → Sto → KD → Prop := fun d O P => match d with | .int n => (0 ≤ n ∧ n < 2 ^ 63) ∧ P (.int n) O | _ => False
def hStr : D → Sto → KD → Prop := fun d O P => match d with | .str n => P (.str n) O | _ => False
def hAny : D → Sto → KD → Prop := fun d O P => P d O
def dTruO (tab : List (Cl × DSp)) (Ta : DE) : DT := fun Δ O P E => Ta Δ O (fun x O1 => match clsOf O1 x with
  | some c => (match tabAt tab c with | some S => S [x] O1 (boolK P) (fun _ _ => False) | none => False)
  | none => False) E
section
variable {g : Gm} {X : Cx} {W : WX} {pos pos' p apos : Pos} {a b c o : Expr} {es : List Expr} {Ta Tb : DE} {R : DA} {k j : Nat} {f : Addr} {S : DSp} {x m : Str} {tab : List (Cl × DSp)}
/-! ## a method without arguments; a property -/
/-! ## classmethods, staticmethods -/
def dCMeth (c : Cl) (S : DSp) (R : DA) : DE := fun Δ O P E => R Δ O (fun ds O1 => S (.cls c :: ds) O1 P E) E
end
section
variable {Δ : Sl} {O : Sto} {P : KD} {E : KX} {Ta Tf : DE} {R : DA} {PB : Bool → Sto → Prop} {tab : List (Cl × DSp)} {h : D → Sto → KD → Prop}
theorem e_sp1 : dSp1 tab h Ta Δ O P E = Ta Δ O (fun x O1 => match clsOf O1 x with
  | some c => (match tabAt tab c with | some S => S [x] O1 (fun d O2 => h d O2 P) (fun _ _ => False) | none => False)
  | none => False) E := propext Iff.rfl
theorem e_truO : dTruO tab Ta Δ O PB E = Ta Δ O (fun x O1 => match clsOf O1 x with
  | some c => (match tabAt tab c with | some S => S [x] O1 (boolK PB) (fun _ _ => False) | none => False)
  | none => False) E := propext Iff.rfl
theorem e_cmeth {c : Cl} {S : DSp} : dCMeth c S R Δ O P E = R Δ O (fun ds O1 => S (.cls c :: ds) O1 P E) E := propext Iff.rfl
theorem h_len {n : Int} : hLen (.int n) O P = ((0 ≤ n ∧ n < 2 ^ 63) ∧ P (.int n) O) := propext Iff.rfl
theorem h_str {n : Str} : hStr (.str n) O P = P (.str n) O := propext Iff.rfl
theorem h_any {d : D} : hAny d O P = P d O := propext Iff.rfl
end
end G

set_option Elab.async false
set_option linter.all false
set_option maxRecDepth 100000
set_option maxHeartbeats 4000000
namespace G
open PySem L2
/-! ## sorted of pairs -/
def lexLe (a b : Int × Int) : Bool := decide (a.1 < b.1 ∨ (a.1 = b.1 ∧ a.2 ≤ b.2))
def srtP (xs : List (Int × Int)) : List (Int × Int) := xs.mergeSort lexLe
def prsOf : List D → Option (List (Int × Int))
  | [] => some []
  | .tup [.int i, .int j] :: r => (prsOf r).map ((i, j) :: ·)
  | _ => none
theorem prsOf_map (ns : List (Int × Int)) : prsOf (ns.map pr) = some ns := by
  induction ns with
  | nil => rfl
  | cons n ns ih => rw [List.map_cons, prsOf, ih]; rfl
def fSortP : BC := fun ds O P => match ds with | [d] => (match lstOf O d with | some es => (match prsOf es with | some ns => P (.lst ((srtP ns).map pr)) O | none => False) | none => False) | _ => False
section
variable {g : Gm}
theorem f_sortP {O : Sto} {P : KD} {ns : List (Int × Int)} : fSortP [.lst (ns.map pr)] O P = P (.lst ((srtP ns).map pr)) O := by simp only [fSortP, lstOf, prsOf_map]
/-! ## texts -/
def fStrI : BC := fun ds O P => match ds with | [.int i] => i.natAbs.log2 < 1920 ∧ P (.str (toString i)) O | _ => False
theorem lk_strI : LkC g (fun xs H Q => ∃ i, xs = [.int i] ∧ i.natAbs.log2 < 1920 ∧ Q (.str (toString i)) H) fStrI := by
  intro ds O P F H vs Q hf rs w hv
  unfold fStrI at hf
  split at hf
  · rename_i i
    obtain ⟨u, rfl, h1⟩ := reps1 rs
    exact ⟨i, by rw [Rep.int_iff.mp h1], hf.1, hv.now hf.2 w (Rep.str_iff.mpr rfl)⟩
  · exact hf.elim
theorem f_strI {O : Sto} {P : KD} {i : Int} : fStrI [.int i] O P = (i.natAbs.log2 < 1920 ∧ P (.str (toString i)) O) := propext Iff.rfl
def strsOf : List D → Option (List Str)
  | [] => some []
  | .str i :: r => (strsOf r).map (i :: ·)
  | _ => none
theorem strsOf_map (ns : List Str) : strsOf (ns.map D.str) = some ns := by
  induction ns with
  | nil => rfl
  | cons n ns ih => rw [List.map_cons, strsOf, ih]; rfl
theorem strsOf_eq : ∀ {ds : List D} {ns : List Str}, strsOf ds = some ns → ds = ns.map D.str := by
  intro ds
  induction ds with
  | nil => intro ns h; cases h; rfl
  | cons d ds ih =>
    intro ns h
    cases d with
    | str i =>
      rw [strsOf] at h
      cases e : strsOf ds with
      | none => rw [e] at h; cases h
      | some r => rw [e] at h; cases h; rw [ih e]; rfl
    | _ => simp [strsOf] at h
def dJoin (Ta Tb : DE) : DE := fun Δ O P E => Ta Δ O (fun x O1 => match x with
  | .str a => Tb Δ O1 (fun y O2 => match seqOf O2 y with
    | some es => (match strsOf es with | some ys => (ys.map (·.length)).sum + ys.length * a.length ≤ 16777216 ∧ P (.str (Txt.join a ys)) O2 | none => False)
    | none => False) E
  | _ => False) E
variable {X : Cx} {W : WX} {pos pos' p apos : Pos} {a b c o : Expr} {es : List Expr} {Ta Tb : DE} {R : DA} {k j : Nat} {f : Addr} {S : DSp} {x m : Str} {tab : List (Cl × DSp)}
/-! ## f-strings -/
def dFmt (Ta : DE) : DE := fun Δ O P E => Ta Δ O (fun x O1 => match x with
  | .str y => y.length ≤ sizeLine ∧ P (.str y) O1
  | .int i => i.natAbs.log2 < 1920 ∧ P (.str (toString i)) O1
  | _ => False) E
theorem q_fmt (ha : PE X a (le g W Ta)) : PE X (.FormattedValue a (-1) none pos) (le g W (dFmt Ta)) := by
  refine pe_imp (pe_fmt ha) fun σ H Q h => ?_
  obtain ⟨Δ, O, P, E, F, hT, sr, w, hv, hx⟩ := h
  refine le_bind hT sr w hx fun d O1 v F1 H1 hT1 s1 sr1 w1 rx hx1 => ?_
  cases d with
  | str z => exact .inl ⟨z, Rep.str_iff.mp rx, hT1.1, hv _ _ _ _ _ hT1.2 s1 w1 (Rep.str_iff.mpr rfl)⟩
  | int z => exact .inr ⟨z, Rep.int_iff.mp rx, hT1.1, hv _ _ _ _ _ hT1.2 s1 w1 (Rep.str_iff.mpr rfl)⟩
  | _ => exact hT1.elim
def dJs : List DE → Str → Sl → Sto → (Str → Sto → Prop) → KX → Prop
  | [], acc, _, O, P, _ => P acc O
  | T :: Ts, acc, Δ, O, P, E => T Δ O (fun x O1 => match x with | .str y => (acc ++ y).length ≤ sizeLine ∧ dJs Ts (acc ++ y) Δ O1 P E | _ => False) E
def dJoined (Ts : List DE) : DE := fun Δ O P E => dJs Ts Str.empty Δ O (fun out O1 => P (.str out) O1) E
theorem qj_nil : PJ X [] (List.map (le g W) []) := .nil
theorem qj_cons {T : DE} {Ts : List DE} (h : PE X a (le g W T)) (r : PJ X es (Ts.map (le g W))) : PJ X (a :: es) (List.map (le g W) (T :: Ts)) := .cons h r
theorem js_of {σ : St} {Q : VK} : ∀ {Ts : List DE} {acc : Str} {H : Hp} {Δ : Sl} {O : Sto} {P : KD} {E : KX} {F : Hp}, dJs Ts acc Δ O (fun out O1 => P (.str out) O1) E → SRel g F σ Δ → Wd g F O H → VOk g F P Q → XOk g F W σ E → tJs (Ts.map (le g W)) acc σ H fun out H1 => Q (.str out) H1 := by
  intro Ts
  induction Ts with
  | nil => intro acc H Δ O P E F hT sr w hv hx; exact hv.now hT w (Rep.str_iff.mpr rfl)
  | cons T Ts ih =>
    intro acc H Δ O P E F hT sr w hv hx
    refine le_bind hT sr w hx fun d O1 v F1 H1 hT1 s1 sr1 w1 rx hx1 => ?_
    cases d with
    | str z => exact ⟨z, Rep.str_iff.mp rx, hT1.1, ih hT1.2 sr1 w1 (hv.mono s1) hx1⟩
    | _ => exact hT1.elim
theorem q_joined {v1 v2 : Expr} {rest : List Expr} {Ts : List DE} (h : PJ X (v1 :: v2 :: rest) (Ts.map (le g W))) : PE X (.JoinedStr (v1 :: v2 :: rest) pos) (le g W (dJoined Ts)) :=
  pe_imp (pe_joined h) fun σ H Q ⟨Δ, O, P, E, F, hT, sr, w, hv, hx⟩ => js_of hT sr w hv hx
end
section
variable {Δ : Sl} {O : Sto} {P : KD} {E : KX} {Ta Tb Tc Tf : DE} {R : DA} {En : DEnds} {T : DS} {i j : Nat} {PA : List D → Sto → Prop}
theorem e_join : dJoin Ta Tb Δ O P E = Ta Δ O (fun x O1 => match x with
  | .str a => Tb Δ O1 (fun y O2 => match seqOf O2 y with
    | some es => (match strsOf es with | some ys => (ys.map (·.length)).sum + ys.length * a.length ≤ 16777216 ∧ P (.str (Txt.join a ys)) O2 | none => False)
    | none => False) E
  | _ => False) E := propext Iff.rfl
theorem e_fmt : dFmt Ta Δ O P E = Ta Δ O (fun x O1 => match x with
  | .str y => y.length ≤ sizeLine ∧ P (.str y) O1
  | .int i => i.natAbs.log2 < 1920 ∧ P (.str (toString i)) O1
  | _ => False) E := propext Iff.rfl
theorem e_joined {Ts : List DE} : dJoined Ts Δ O P E = dJs Ts Str.empty Δ O (fun out O1 => P (.str out) O1) E := propext Iff.rfl
theorem e_js0 {acc : Str} {Q : Str → Sto → Prop} : dJs [] acc Δ O Q E = Q acc O := propext Iff.rfl
theorem e_js1 {T : DE} {Ts : List DE} {acc : Str} {Q : Str → Sto → Prop} : dJs (T :: Ts) acc Δ O Q E = T Δ O (fun x O1 => match x with | .str y => (acc ++ y).length ≤ sizeLine ∧ dJs Ts (acc ++ y) Δ O1 Q E | _ => False) E := propext Iff.rfl
theorem e_gt2 {a b : D} {Q : Sl → Prop} : dgT [i, j] (.tup [a, b]) Δ Q = Q ((Δ.set i (some a)).set j (some b)) := propext Iff.rfl
theorem e_gt3 {k : Nat} {a b c : D} {Q : Sl → Prop} : dgT [i, j, k] (.tup [a, b, c]) Δ Q = Q (((Δ.set i (some a)).set j (some b)).set k (some c)) := propext Iff.rfl
theorem e_enum : dEnum R Δ O PA E = R Δ O (fun ds O1 => match ds with
  | [d] => (match d with | .lst xs => PA (xs.mapIdx fun i x => .tup [.int (i : Int), x]) O1 | _ => False)
  | _ => False) E := propext Iff.rfl
theorem f_addI {i j : Int} : fAddI (.int i) (.int j) O P = P (.int (i + j)) O := propext Iff.rfl
theorem e_dnew : dDNew Δ O P E = ∀ p, freshC O p → P (.ptr p) ((p, .dic [] []) :: O) := propext Iff.rfl
theorem seqT {ds : List D} : seqOf O (.tup ds) = some ds := rfl
theorem seqL {ds : List D} : seqOf O (.lst ds) = some ds := rfl
theorem seqP {a : Addr} {ds : List D} (h : getC O a = some (.lst ds)) : seqOf O (.ptr a) = some ds := by simp only [seqOf, lstOf, h]
end
/-! ## == of lists of own objects -/
section
open PySem.SeqAt
open AutoSeq1 (wpAny_loadPart')
open MeetsSeq MeetsSeq2 MeetsSeq3 SeqRoads2
variable {prog : Program} {w : World} {A : Around} {R : Result → Shared → Prop}
end
end G

set_option Elab.async false
set_option linter.all false
set_option maxRecDepth 100000
set_option maxHeartbeats 4000000
namespace G
open PySem L2
/-! ## == of lists of stretches -/
abbrev st (x : Int × Int) : D := .obj .Stretch [.low, .high] [.int x.1, .int x.2]
def stsOf : List D → Option (List (Int × Int))
  | [] => some []
  | .obj .Stretch [.low, .high] [.int i, .int j] :: r => (stsOf r).map ((i, j) :: ·)
  | _ => none
theorem stsOf_map (ns : List (Int × Int)) : stsOf (ns.map st) = some ns := by
  induction ns with
  | nil => rfl
  | cons n ns ih => rw [List.map_cons, stsOf, ih]; rfl
def dEqSts (Ta Tb : DE) : DE := fun Δ O P E => Ta Δ O (fun x O1 => Tb Δ O1 (fun y O2 => match x, y with
  | .lst xs, .lst ys => (match stsOf xs, stsOf ys with | some as, some bs => P (.bl (decide (as = bs))) O2 | _, _ => False)
  | _, _ => False) E) E
section
variable {g : Gm} {X : Cx} {W : WX} {pos pos' p apos : Pos} {a b c o : Expr} {es : List Expr} {Ta Tb : DE} {R : DA} {k j : Nat} {f : Addr} {S : DSp} {x m : Str}
theorem e_eqSts {Δ : Sl} {O : Sto} {P : KD} {E : KX} : dEqSts Ta Tb Δ O P E = Ta Δ O (fun x O1 => Tb Δ O1 (fun y O2 => match x, y with
  | .lst xs, .lst ys => (match stsOf xs, stsOf ys with | some as, some bs => P (.bl (decide (as = bs))) O2 | _, _ => False)
  | _, _ => False) E) E := propext Iff.rfl
end
end G
namespace G
open PySem L2
section
variable {g : Gm} {P : Program} {w : World} {K : PySem.W.Frag} {mg : Str → Option Value} {base : Heap}
theorem fnF {x qual : Str} {st : Stmt} {f : Addr} {fd : FuncData} {N ps : List Str} {k : Nat} {S : DSp} {T : DS} (Fn : Fun K x qual st f fd) (hb : Binds K fd ps []) (Sc : FnScope N ps (defScope st)) (body : BodyOk g P w K mg base k N qual st T) (pure : Pure N ps.length S T) : FN g P w K mg base (k + 1) f S :=
  fn_FN (fn_okF Fn Sc (fun ds O P E h => (pure ds O P E h).1) (body f) fun ds O P E h => (pure ds O P E h).2) hb
end
end G

set_option Elab.async false
set_option linter.all false
set_option maxRecDepth 100000
set_option maxHeartbeats 4000000
namespace G
open PySem L2
section
variable {Δ : Sl} {O : Sto} {P : KD} {E : KX} {Ta Tb Tc Td Tk Tx Tv Tf : DE} {R : DA} {En : DEnds} {T : DS} {i j : Nat} {PA : List D → Sto → Prop}
theorem e_aug {f : B2} : dAug i f Ta En Δ O = dVar i Δ O (fun x O0 => Ta Δ O0 (fun y O1 => f x y O1 fun z O2 => En.nx (Δ.set i (some z)) O2) (fun x O1 => En.xc x Δ O1)) (fun _ _ => False) := by
  unfold dAug dVar
  cases Δ[i]? with
  | none => rfl
  | some o => cases o <;> rfl
theorem e_frzS : dFrzS i T En Δ O = dVar i Δ O (fun d O1 => match d with
  | .ptr q => (match getC O1 q with | some c => (match frzD c with | some d' => T En (Δ.set i (some d')) (delC O1 q) | none => False) | none => False)
  | _ => False) (fun _ _ => False) := by
  unfold dFrzS dVar
  cases Δ[i]? with
  | none => rfl
  | some o =>
    cases o with
    | none => rfl
    | some d => cases d <;> rfl
theorem e_dix : dDix Td Tk Δ O P E = Td Δ O (fun d O1 => Tk Δ O1 (fun y O2 => match dicOf O2 d, keyD y with
  | some t, some k => (match getK k t.1 t.2 with | some e => P e O2 | none => False)
  | _, _ => False) E) E := propext Iff.rfl
theorem e_inD {neg : Bool} : dInD neg Tk Td Δ O P E = Tk Δ O (fun y O1 => Td Δ O1 (fun d O2 => match dicOf O2 d, keyD y with
  | some t, some k => P (.bl (if neg = true then !(getK k t.1 t.2).isSome else (getK k t.1 t.2).isSome)) O2
  | _, _ => False) E) E := propext Iff.rfl
theorem e_dget2 : dDget2 Td Tk Tx Δ O P E = Td Δ O (fun d O1 => match dicOf O1 d with
  | some _ => Tk Δ O1 (fun y O2 => Tx Δ O2 (fun x O3 => match dicOf O3 d, keyD y with
    | some t, some k => P ((getK k t.1 t.2).getD x) O3
    | _, _ => False) E) E
  | none => False) E := propext Iff.rfl
theorem e_setD : dSetD Td Tk Tv En Δ O = Tv Δ O (fun v O1 => Td Δ O1 (fun d O2 => Tk Δ O2 (fun y O3 => match d, keyD y with
  | .ptr q, some k => (match getC O3 q with
    | some (.dic ks ds) => ks.Nodup ∧ ks.length < 1000000 ∧ En.nx Δ (setC O3 q (.dic (putKs k ks) (putKd k v ks ds)))
    | _ => False)
  | _, _ => False) (fun x O1 => En.xc x Δ O1)) (fun x O1 => En.xc x Δ O1)) (fun x O1 => En.xc x Δ O1) := propext Iff.rfl
theorem dicD {ks : List Key} {ds : List D} : dicOf O (.dic ks ds) = some (ks, ds) := rfl
theorem keyI {n : Int} : keyD (.int n) = some (.inl n) := rfl
theorem keyS {n : Str} : keyD (.str n) = some (.inr n) := rfl
end
/-! ## dicts as functions -/
noncomputable instance memKey (k : Key) (ks : List Key) : Decidable (k ∈ ks) := by
  induction ks with
  | nil => exact isFalse (by simp)
  | cons h hs ih =>
    cases (inferInstance : Decidable (k = h)) with
    | isTrue e => exact isTrue (by rw [e]; exact List.mem_cons_self)
    | isFalse e =>
      cases ih with
      | isTrue q => exact isTrue (List.mem_cons_of_mem _ q)
      | isFalse q => exact isFalse (fun z => (List.mem_cons.mp z).elim e q)
section
variable {f : Key → D} {k : Key} {v : D}
end
end G

set_option Elab.async false
set_option linter.all false
set_option maxRecDepth 100000
set_option maxHeartbeats 4000000
namespace G
open PySem L2
/-! ## sets of levels, in plain words -/
def inB (l : Int) (x : Int × Int) : Bool := decide (x.1 ≤ l) && decide (l ≤ x.2)
def mem (xs : List (Int × Int)) (l : Int) : Bool := xs.any (inB l)
structure Norm (ys : List (Int × Int)) : Prop where
  gap : ys.Pairwise fun a b => a.2 + 1 < b.1
  ok : ∀ y ∈ ys, y.1 ≤ y.2
theorem Norm.nil : Norm [] := ⟨.nil, fun y h => by cases h⟩
theorem Norm.tail {y : Int × Int} {ys : List (Int × Int)} (h : Norm (y :: ys)) : Norm ys := ⟨(List.pairwise_cons.mp h.gap).2, fun z hz => h.ok z (List.mem_cons_of_mem _ hz)⟩
theorem Norm.one {x : Int × Int} (h : x.1 ≤ x.2) : Norm [x] := ⟨List.pairwise_singleton _ _, fun y hy => by rw [List.mem_singleton.mp hy]; exact h⟩
/-! ### merging -/
/-! ### depth -/
def dep (xs : List (Int × Int)) (l : Int) : Nat := (xs.filter (inB l)).length
def raw (xs : List (Int × Int)) (need : Int) (sp : List Int) (l : List (Int × Nat)) : List (Int × Int) := l.filterMap fun p => if need ≤ (dep xs p.1 : Int) then some (p.1, sp.getD (p.2 + 1) 0 - 1) else none
section
variable {xs : List (Int × Int)} {sp : List Int} {need : Int}
end
end G

set_option Elab.async false
set_option linter.all false
set_option maxRecDepth 100000
set_option maxHeartbeats 4000000
namespace G
open PySem L2
theorem kit_int_int : kitB "int" "int" = some true := by decide +kernel
theorem kit_int_bool : kitB "int" "bool" = some false := by decide +kernel
theorem kit_int_str : kitB "int" "str" = some false := by decide +kernel
theorem kit_list_list : kitB "list" "list" = some true := by decide +kernel
theorem kit_tuple_tuple : kitB "tuple" "tuple" = some true := by decide +kernel
theorem kit_str_str : kitB "str" "str" = some true := by decide +kernel
theorem kit_dict_dict : kitB "dict" "dict" = some true := by decide +kernel
theorem kit_bool_bool : kitB "bool" "bool" = some true := by decide +kernel
theorem kit_list_tuple : kitB "list" "tuple" = some false := by decide +kernel
theorem kit_none_str : kitB "NoneType" "str" = some false := by decide +kernel
theorem kit_none_int : kitB "NoneType" "int" = some false := by decide +kernel
theorem eqB_int {i j : Int} : eqB (.int i) (.int j) = some (decide (i = j)) := rfl
theorem eqB_bl {i j : Bool} : eqB (.bl i) (.bl j) = some (decide (i = j)) := rfl
theorem eqB_str {i j : Str} : eqB (.str i) (.str j) = some (decide (i = j)) := rfl
theorem emp_prs (xs : List (Int × Int)) : eqB (.lst (xs.map pr)) (.lst []) = some (decide (xs = [])) := eq_prs xs []
end G

set_option Elab.async false
set_option linter.all false
set_option maxRecDepth 100000
set_option maxHeartbeats 4000000
namespace G
open PySem L2
/-! ## x in a list -/
def inB2 (neg b : Bool) : Bool := if neg = true then !b else b
def fInQ (neg : Bool) : B2 := fun x y O P => match seqOf O y with
  | some es => (match x with
    | .int i => (match intsOf es with | some ns => P (.bl (inB2 neg (decide (i ∈ ns)))) O | none => False)
    | .str i => (match strsOf es with | some ns => P (.bl (inB2 neg (decide (i ∈ ns)))) O | none => False)
    | _ => False)
  | none => False
abbrev fIn : B2 := fInQ false
section
variable {g : Gm}
theorem inV_int {i : Int} {ns : List Int} : inV (.int i) (ns.map V.int) = decide (i ∈ ns) := by
  unfold inV
  rw [List.any_map, Bool.eq_iff_iff, List.any_eq_true, decide_eq_true_eq]
  constructor
  · rintro ⟨y, hy, e⟩
    have e : (y == i) = true := e
    rw [← beq_iff_eq.mp e]; exact hy
  · intro h
    exact ⟨i, h, by show (i == i) = true; simp⟩
theorem inV_str {i : Str} {ns : List Str} : inV (.str i) (ns.map V.str) = decide (i ∈ ns) := by
  unfold inV
  rw [List.any_map, Bool.eq_iff_iff, List.any_eq_true, decide_eq_true_eq]
  constructor
  · rintro ⟨y, hy, e⟩
    have e : (y == i) = true := e
    rw [← beq_iff_eq.mp e]; exact hy
  · intro h
    exact ⟨i, h, by show (i == i) = true; simp⟩
theorem lk_inQ {neg : Bool} : Lk2 g (rIn g.K neg) (fInQ neg) := by
  intro x y O P F H vx vy Q hf rx ry w hv
  unfold fInQ at hf
  split at hf
  · rename_i es e
    obtain ⟨q, vs, rfl, h1, h2⟩ := seq_of e ry w
    cases x with
    | int i =>
      have hf : (match intsOf es with | some ns => P (.bl (inB2 neg (decide (i ∈ ns)))) O | none => False) := hf
      split at hf
      · rename_i ns en
        rw [intsOf_eq en, Reps.ints] at h2
        subst h2
        rw [Rep.int_iff.mp rx]
        refine ⟨q, _, rfl, h1.elim .inr .inl, rfl, by simp [flatV], ?_⟩
        rw [inV_int]
        exact hv.now hf w rbl
      · exact hf.elim
    | str i =>
      have hf : (match strsOf es with | some ns => P (.bl (inB2 neg (decide (i ∈ ns)))) O | none => False) := hf
      split at hf
      · rename_i ns en
        rw [strsOf_eq en, Reps.strs] at h2
        subst h2
        rw [Rep.str_iff.mp rx]
        refine ⟨q, _, rfl, h1.elim .inr .inl, rfl, by simp [flatV], ?_⟩
        rw [inV_str]
        exact hv.now hf w rbl
      · exact hf.elim
    | _ => exact hf.elim
  · exact hf.elim
theorem lk_in : Lk2 g (rIn g.K false) fIn := lk_inQ
/-- one sign in a text -/
def fInSQ (neg : Bool) : B2 := fun x y O P => match x, y with
  | .str c, .str z => (match c.cps.toList with | [n] => P (.bl (inB2 neg (decide (n ∈ z.cps.toList)))) O | _ => False)
  | _, _ => False
abbrev fInS : B2 := fInSQ false
theorem one_sign {c : Str} {n : Nat} (h : c.cps.toList = [n]) : c = ⟨#[n]⟩ := by
  obtain ⟨a⟩ := c
  have : a = #[n] := by
    apply Array.ext'
    simpa using h
  rw [this]
theorem lk_sign : Lk2 g (fun x y H Q => ∃ (c : Nat) (z : Str), x = .str ⟨#[c]⟩ ∧ y = .str z ∧ Q (.bl (decide (c ∈ z.cps.toList))) H) fInS := by
  intro x y O P F H vx vy Q hf rx ry w hv
  unfold fInS fInSQ at hf
  split at hf
  · rename_i c z
    split at hf
    · rename_i n e
      rw [one_sign e] at rx
      exact ⟨n, z, Rep.str_iff.mp rx, Rep.str_iff.mp ry, hv.now hf w rbl⟩
    · exact hf.elim
  · exact hf.elim
theorem f_inI {neg : Bool} {O : Sto} {P : KD} {i : Int} {ns : List Int} : fInQ neg (.int i) (.lst (ns.map D.int)) O P = P (.bl (inB2 neg (decide (i ∈ ns)))) O := by simp only [fInQ, seqOf, lstOf, intsOf_map]
theorem f_inS {neg : Bool} {O : Sto} {P : KD} {i : Str} {ns : List Str} : fInQ neg (.str i) (.lst (ns.map D.str)) O P = P (.bl (inB2 neg (decide (i ∈ ns)))) O := by simp only [fInQ, seqOf, lstOf, strsOf_map]
theorem inB2_t {b : Bool} : inB2 true b = !b := rfl
theorem inB2_f {b : Bool} : inB2 false b = b := rfl
/-! ## isinstance of a built-in type -/
def dIsB (n : String) (T : DE) : DE := fun Δ O P E => T Δ O (fun d O1 => match tgD O1 d with
  | some (.b m) => (match kitB m n with | some k => P (.bl k) O1 | none => False)
  | _ => False) E
variable {X : Cx} {W : WX} {pos pos' p apos : Pos} {a b c o : Expr} {es : List Expr} {Ta Tb : DE} {R : DA} {k j : Nat} {f : Addr} {S : DSp}
theorem q_isB {n : String} {x : Str} {q : Pos} (hm : X.mg "isinstance" = none) (hm' : X.mg x = none) (ha : PE X a (le g W Ta)) (hv : bootBuiltins x = some (.type n) := by decide +kernel) (hg : Gl X "isinstance" := by rfl) (hg' : Gl X x := by rfl)
    (hn : x ≠ "__name__" := by decide) (hd : (x == ("__debug__" : Str)) = false := by decide) (hK : X.K = g.K := by rfl)
    (hs : starEach (a :: [.Name x q]) X.env = (false, eval a X.env) :: starEach [.Name x q] X.env := by rfl) (hs' : starEach [.Name x q] X.env = (false, eval (.Name x q) X.env) :: starEach [] X.env := by rfl) (hpl : (backTo pos (starEach [.Name x q] X.env)).any (·.1) = false := by rfl) :
    PE X (.Call (.Name "isinstance" p) [a, .Name x q] [] pos) (le g W (dIsB n Ta)) := by
  have hb : PE X (.Name x q) (tC (.ty n)) := pe_bltn hg' hm' hv rfl hn hd
  refine pe_imp (pe_callB call_isi hg hm (by decide +kernel) (pa_cons ha (pa_cons hb pa_nil hs') hs) (by decide) (by decide) hs hpl) fun σ H Q h => ?_
  obtain ⟨Δ, O, P, E, F, hT, sr, w, hv, hx⟩ := h
  refine le_bind hT sr w hx fun d O1 v F1 H1 hT1 s1 sr1 w1 rx hx1 => ?_
  split at hT1
  · rename_i m e
    split at hT1
    · rename_i k ek
      refine ⟨v, .ty n, .type m, .type n, k, rfl, .ty n, by rw [hK]; exact tg_of e rx w1 (fun c ec => by cases ec), kit_ty ek, (hv.mono s1).now hT1 w1 rbl⟩
    · exact hT1.elim
  · exact hT1.elim
theorem e_isB {n : String} {Δ : Sl} {O : Sto} {P : KD} {E : KX} : dIsB n Ta Δ O P E = Ta Δ O (fun d O1 => match tgD O1 d with
  | some (.b m) => (match kitB m n with | some k => P (.bl k) O1 | none => False)
  | _ => False) E := propext Iff.rfl
end
end G

set_option Elab.async false
set_option linter.all false
set_option maxRecDepth 100000
set_option maxHeartbeats 4000000
namespace G
open PySem L2
/-! ## signs between sets of levels -/
/-! ### difference -/
/-! ### moves -/
end G

set_option Elab.async false
set_option linter.all false
set_option maxRecDepth 100000
set_option maxHeartbeats 4000000
namespace G
open PySem L2
/-! ## several except clauses, each with the same name -/
abbrev HTs := List (Value × (Addr → Value → Option Addr → TS))
inductive HdN (X : Cx) (n : Str) : List ExceptHandler → HTs → Prop
  | nil : HdN X n [] []
  | cons {y : Str} {v : Value} {tz : Addr → Value → Option Addr → TS} {t0 : Stmt} {su : List Stmt} {p1 p2 : Pos} {hl : List ExceptHandler} {l : HTs} (nm : Names X y v)
      (hu : ∀ (b : Addr) (ob : Obj) (cl : Value) (d : Option Addr) (ps : List (Addr × Obj)), Zc cl d ob → (∃ vs, ob.data = .fields vs) → PSs (X.suite b ((b, ob) :: ps)) (t0 :: su) (tz b cl d)) (r : HdN X n hl l) :
      HdN X n (.ExceptHandler (some (.Name y p1)) (some n) (t0 :: su) p2 :: hl) ((v, tz) :: l)
section
variable {X : Cx} {n : Str} {i : Nat} {body : List Stmt} {h0 : ExceptHandler} {hl : List ExceptHandler} {l : HTs} {pos : Pos} {tb : WX → TS} {Wo : WX}
end
/-- the clauses, over plain data -/
abbrev HDs := List ((Ec → Option Bool) × DH)
def xcM (i : Nat) (D : DEnds) : HDs → Exn → Sl → Sto → Prop
  | [] => D.xc
  | p :: r => fun x Δ1 O1 => match p.1 x.c with
    | some true => ∀ a d, freshC O1 a → p.2 a x.c d { nx := fun Δ' O' => D.nx (Δ'.set i none) O', rt := D.rt, bk := fun Δ' O' => D.bk (Δ'.set i none) O', ct := fun Δ' O' => D.ct (Δ'.set i none) O' } (Δ1.set i (some (.xcp a d x.fs x.ds))) O1
    | some false => xcM i D r x Δ1 O1
    | none => False
def dTryM (i : Nat) (Tb : DS) (hs : HDs) : DS := fun D Δ O => Tb { D with xc := xcM i D hs } Δ O
section
variable {g : Gm} {X : Cx} {W : WX} {pos pos' p : Pos} {n : Str} {i : Nat} {body : List Stmt}
inductive QHs (g : Gm) (X : Cx) (n : Str) : List ExceptHandler → HDs → List Value → Prop
  | nil : QHs g X n [] [] []
  | cons {y : Str} {v : Value} {cat : Ec → Option Bool} {Th : DH} {t0 : Stmt} {su : List Stmt} {p1 p2 : Pos} {hl : List ExceptHandler} {l : HDs} {vs : List Value} (nm : Names X y v) (ct : Cat g X.K v cat)
      (hu : ∀ (a : Addr) (oe : Obj) (ec : Ec) (d : Option Addr) (pn : List (Addr × Obj)), Zc (.ref (g.ea ec)) d oe → (∃ vs, oe.data = .fields vs) → PSs (X.suite a ((a, oe) :: pn)) (t0 :: su) (ls g W0 (Th a ec d))) (r : QHs g X n hl l vs) :
      QHs g X n (.ExceptHandler (some (.Name y p1)) (some n) (t0 :: su) p2 :: hl) ((cat, Th) :: l) (v :: vs)
def toHTs (g : Gm) : HDs → List Value → HTs
  | p :: r, v :: vs => (v, fun a cls d E σ H => ∃ ec, cls = .ref (g.ea ec) ∧ ls g W0 (p.2 a ec d) E σ H) :: toHTs g r vs
  | _, _ => []
theorem QHs.hd {hl : List ExceptHandler} {l : HDs} {vs : List Value} (h : QHs g X n hl l vs) : HdN X n hl (toHTs g l vs) := by
  induction h with
  | nil => exact .nil
  | cons nm ct hu r ih =>
    refine .cons nm (fun b ob cl d ps hz hv => ⟨fun pins s σ H E I ⟨ec, e, h⟩ => ?_⟩) ih
    subst e
    exact (hu b ob ec d ps hz hv).run pins s σ H E I h
theorem e_tryM {T : DS} {hs : HDs} {En : DEnds} {Δ : Sl} {O : Sto} : dTryM i T hs En Δ O = T { En with xc := xcM i En hs } Δ O := propext Iff.rfl
theorem e_xcM0 {En : DEnds} {x : Exn} {Δ : Sl} {O : Sto} : xcM i En [] x Δ O = En.xc x Δ O := propext Iff.rfl
theorem e_xcM1 {En : DEnds} {cat : Ec → Option Bool} {Th : DH} {r : HDs} {x : Exn} {Δ : Sl} {O : Sto} : xcM i En ((cat, Th) :: r) x Δ O = (match cat x.c with
    | some true => ∀ a d, freshC O a → Th a x.c d { nx := fun Δ' O' => En.nx (Δ'.set i none) O', rt := En.rt, bk := fun Δ' O' => En.bk (Δ'.set i none) O', ct := fun Δ' O' => En.ct (Δ'.set i none) O' } (Δ.set i (some (.xcp a d x.fs x.ds))) O
    | some false => xcM i En r x Δ O
    | none => False) := propext Iff.rfl
end
end G

set_option Elab.async false
set_option linter.all false
set_option maxRecDepth 100000
set_option maxHeartbeats 4000000
namespace G
open PySem L2
/-! ## a property that may raise -/
def dPropX (ok : Ec → Bool) (tab : List (Cl × DSp)) (Ta : DE) : DE := fun Δ O P E => Ta Δ O (fun x O1 => match clsOf O1 x with
  | some c => (match tabAt tab c with | some S => S [x] O1 P (fun y O2 => ok y.c = true ∧ E y O2) | none => False)
  | none => False) E
section
variable {g : Gm} {X : Cx} {W : WX} {pos pos' p apos : Pos} {a b c o : Expr} {es : List Expr} {Ta Tb : DE} {R : DA} {k j : Nat} {f : Addr} {S : DSp} {x m : Str} {tab : List (Cl × DSp)} {ok : Ec → Bool}
theorem e_propX {Δ : Sl} {O : Sto} {P : KD} {E : KX} : dPropX ok tab Ta Δ O P E = Ta Δ O (fun x O1 => match clsOf O1 x with
  | some c => (match tabAt tab c with | some S => S [x] O1 P (fun y O2 => ok y.c = true ∧ E y O2) | none => False)
  | none => False) E := propext Iff.rfl
/-! ## tuples of whole numbers, in order -/
def fLtT : B2 := fun x y O P => match x, y with
  | .tup xs, .tup ys => (match intsOf xs, intsOf ys with | some ns, some ms => P (.bl (HT.lexLt ns ms)) O | _, _ => False)
  | _, _ => False
theorem f_ltT {O : Sto} {P : KD} {a b c d : Int} : fLtT (.tup [.int a, .int b]) (.tup [.int c, .int d]) O P = P (.bl (HT.lexLt [a, b] [c, d])) O := propext Iff.rfl
end
end G

set_option Elab.async false
set_option linter.all false
set_option maxRecDepth 100000
set_option maxHeartbeats 4000000
namespace G
open PySem L2
/-! ## a sum of lists that is owned -/
def fAddO : B2 := fun x y O P => match lstOf O x, lstOf O y with
  | some l, some m => l.length + m.length ≤ sizeLine ∧ ∀ p, freshC O p → P (.ptr p) ((p, .lst (l ++ m)) :: O)
  | _, _ => False
/-! ## a, b = .. -/
def dAsgG (Gd : DG) (Ta : DE) : DS := fun D Δ O => Ta Δ O (fun d O1 => Gd d Δ fun Δ' => D.nx Δ' O1) (fun x O1 => D.xc x Δ O1)
section
variable {g : Gm} {X : Cx} {W : WX} {pos pos' p apos : Pos} {a b c o tg : Expr} {es : List Expr} {Ta Tb : DE} {R : DA} {k j : Nat} {f : Addr} {S : DSp} {x m : Str} {tab : List (Cl × DSp)}
theorem f_addO {O : Sto} {P : KD} {l m : List D} : fAddO (.lst l) (.lst m) O P = (l.length + m.length ≤ sizeLine ∧ ∀ p, freshC O p → P (.ptr p) ((p, .lst (l ++ m)) :: O)) := propext Iff.rfl
theorem qs_asgG {t : TG} {Gd : DG} {js : List Nat} (he : PE X a (le g W Ta)) (hg : PG X tg t) (lk : LkG g t Gd js) (hs : swapsWithSole [tg] a pos.line X.env = pure false := by rfl) (hw : swappedStores [tg] a X.env = pure none := by rfl)
    (h1 : (assignEach [tg] X.env).map (·.2) = [assign tg X.env] := by rfl) : PS X (.Assign [tg] a pos) (ls g W (dAsgG Gd Ta)) := by
  refine ps_imp (ps_asg he hg hs hw h1) fun E σ H ⟨D, Δ, O, F, hT, sr, w, ho⟩ => ?_
  exact le_bind hT sr w (ho.toX sr) fun d O1 v F1 H1 hT1 s1 sr1 w1 rx hx1 => lk _ _ _ _ _ O1 _ _ _ hT1 rx sr1 w1 fun Δ' σ' h sr' _ _ => ho.nx _ _ _ _ _ h s1 sr' w1
theorem e_asgG {Gd : DG} {En : DEnds} {Δ : Sl} {O : Sto} : dAsgG Gd Ta En Δ O = Ta Δ O (fun d O1 => Gd d Δ fun Δ' => En.nx Δ' O1) (fun x O1 => En.xc x Δ O1) := propext Iff.rfl
end
end G

set_option Elab.async false
set_option linter.all false
set_option maxRecDepth 100000
set_option maxHeartbeats 4000000
namespace G
open PySem L2
/-! ## own classes: super().m(..) -/
/-- an expression of a def's own body -/
structure PEA (X : Cx) (e : Expr) (t : TE) : Prop where
  run : ∀ (body : List Stmt) (pins : List (Addr × Obj)) (s : Shared) (σ : St) (H : Hp) (Q : VK), Inv X pins σ H s → t σ H Q → _root_.PySem.wpAt (model X.prog X.w) X.A (.func body X.env) (eval e X.env) (EP X pins σ Q) X.xe s
section
variable {g : Gm} {X : Cx} {W : WX} {pos pos' : Pos} {a b e : Expr} {st : Stmt} {sts : List Stmt} {t u : TE} {Ta Tb : DE} {T U : DS}
theorem pf_imp {ts ts' : TS} (h : PF X sts ts) (k : ∀ D σ H, ts' D σ H → ts D σ H) : PF X sts ts' := ⟨fun body pins s σ H D I q => h.run body pins s σ H D I (k _ _ _ q)⟩
theorem qf_of (h : PSs X sts (ls g W T)) : PF X sts (ls g W T) := pf_of h
theorem qf_cons (h1 : PS X st (ls g W T)) (h2 : PF X sts (ls g W U)) : PF X (st :: sts) (ls g W (dSeq T U)) := by
  refine pf_imp (pf_cons h1 h2) fun E σ H ⟨D, Δ, O, F, hT, sr, w, he⟩ => ?_
  refine ⟨{ D with nx := U D }, Δ, O, F, hT, sr, w, ⟨fun Δ' O' F' σ' H' q s sr' w' => ?_, he.rt, he.bk, he.ct, he.xc⟩⟩
  exact ⟨D, Δ', O', F', q, sr', w', he.mono s⟩
theorem pf_exp {ts : TS} (h : PEA X e t) (k : PF X sts ts) (hs : swapsWith e none pos.line X.env = pure false := by rfl) : PF X (.Expr e pos :: sts) (fun D σ H => t σ H fun _ H1 => ts D σ H1) := by
  refine ⟨fun body pins s σ H D I q => PySem.ks_wpAt_execs_cons (PySem.ks_wpAt_Expr_any (_root_.PySem.wpAt_mono (h.run body pins s σ H _ I q) (fun v s1 ⟨x, H1, I1, r1, q1⟩ => ?_) fun _ _ z => z) I.quiet hs)⟩
  exact k.run body pins s1 σ H1 D I1 q1
theorem qf_exp (h : PEA X e (le g W Ta)) (k : PF X sts (ls g W U)) (hs : swapsWith e none pos.line X.env = pure false := by rfl) : PF X (.Expr e pos :: sts) (ls g W (dSeq (dExp Ta) U)) := by
  refine pf_imp (pf_exp h k hs) fun E σ H ⟨D, Δ, O, F, hT, sr, w, ho⟩ => ?_
  refine le_bind hT sr w (ho.toX sr) fun d O1 v F1 H1 hT1 s1 sr1 w1 rx hx1 => ?_
  exact ⟨D, Δ, O1, F1, hT1, sr1, w1, ho.mono s1⟩
end
/-- the def that super().m of the class D finds for an object of the class c -/
structure SupAt (K : PySem.W.Frag) (C D : Addr) (m : Str) (f : Addr) : Prop where
  fnd : PySem.W.ks_superIn K C D m = some (some (.ref f))
  ty : PySem.W.typeIn K (.ref f) = some (.type "function")
  fn : PySem.W.fnIn K f = true
  mr : PySem.W.mroIn K C (.ref D) = some true
  th : PySem.W.nsIn K cStatics "thirdparty.any" = some none
def STab (g : Gm) (P : Program) (w : World) (K : PySem.W.Frag) (mg : Str → Option Value) (base : Heap) (k : Nat) (D : Addr) (m : Str) (tab : List (Cl × DSp)) : Prop := ∀ c S, tabAt tab c = some S → ∃ f, SupAt K (g.ca c) D m f ∧ FN g P w K mg base k f S
theorem st_nil {g : Gm} {P : Program} {w : World} {K : PySem.W.Frag} {mg : Str → Option Value} {base : Heap} {k : Nat} {D : Addr} {m : Str} : STab g P w K mg base k D m [] := fun c S h => by simp [tabAt] at h
theorem st_cons {g : Gm} {P : Program} {w : World} {K : PySem.W.Frag} {mg : Str → Option Value} {base : Heap} {k : Nat} {D : Addr} {m : Str} {cl : Cl} {f : Addr} {S : DSp} {r : List (Cl × DSp)} (h1 : SupAt K (g.ca cl) D m f) (h2 : FN g P w K mg base k f S) (t : STab g P w K mg base k D m r) : STab g P w K mg base k D m ((cl, S) :: r) := fun c S' e => by
  simp only [tabAt] at e
  by_cases q : c = cl
  · rw [if_pos q] at e
    cases e
    rw [q]
    exact ⟨f, h1, h2⟩
  · rw [if_neg q] at e
    exact t c S' e
section
variable {g : Gm} {P : Program} {w : World} {K : PySem.W.Frag} {mg : Str → Option Value} {base : Heap} {N ps : List Str} {x qual : Str} {st : Stmt} {f cc cda D : Addr} {fd : FuncData} {file : Str} {k : Nat} {A : Around} {outer : List Env} {s0 : Shared} {H0 : Hp} {E0 : XK}
theorem getsup {so a C f2 : Addr} {m : Str} {pl : Sem Bool} {X : Cx} {pins : List (Addr × Obj)} {σ : St} {H : Hp} {s : Shared} {ox : Obj} {od : Option Obj} {Q : Value × List Value → Shared → Prop} {E : Value → Shared → Prop}
    (S : SupAt X.K C D m f2) (I : Inv X pins σ H s) (hso : s.heap.get? so = some (PySem.W.ks_superObj D a C)) (J : PySem.W.InstAt s.heap a ox C od) (hat : (m == ("__class__" : Str)) = false)
    (h : ∀ q s', H q = none → Inv X pins σ (upd H q (.met f2 a)) s' → Q (.ref q, []) s') : wpAny (model X.prog X.w) X.A (getMethod (.ref so) m pl) Q E s := by
  have KI : X.K.In s.heap := I.kIn
  obtain ⟨hh, gs, d, t, os⟩ := s
  have hm := S.fnd
  cases hc : PySem.W.clsIn X.K C with
  | none => unfold PySem.W.ks_superIn at hm; rw [hc] at hm; cases hm
  | some cd =>
    unfold PySem.W.ks_superIn at hm
    rw [hc] at hm
    obtain ⟨of, hof, hofc⟩ : ∃ of, hh.get? f2 = some of ∧ of.cls = .type "function" := by
      have ht' : (X.K.lookup f2).map (·.cls) = some (.type "function") := S.ty
      cases z : X.K.lookup f2 with
      | none => rw [z] at ht'; cases ht'
      | some of => rw [z] at ht'; exact ⟨of, KI _ _ z, Option.some.inj ht'⟩
    refine PySem.ks_wpAny_getMethod_super hso (PySem.W.looks_opaque KI S.th) (l₀ := cd.mro) ?_ rfl KI hm hof hofc (PySem.W.ks_ne KI J hc) hat ?_
    · exact fun A Q E s k q => wpAny_bind ((PySem.W.looks_clsIn KI hc) A _ E s k (wpAny_pure q))
    · refine h _ _ (I.hok.fresh (Nat.le_refl _)) ?_
      exact I.laid (t' := t + 1) (a := hh.objs.size) (o := .met f2 a) (fun b u z => Heap.get?_push_of_some _ z) (Nat.le_refl _)
        (show (hh.push (PySem.W.methodObj (.ref f2) (.ref a))).get? hh.objs.size = some (PySem.W.methodObj (.ref f2) (.ref a)) from Heap.get?_push_size hh rfl)
end
theorem srel_startF {g : Gm} {F : Hp} {N : List Str} {ds : List D} {vs : List V} (h : Reps g F ds vs) (hN : ds.length + 1 ≤ N.length) : SRel g F (NdefX.startF N vs [none]) (startD N ds) := by
  have e : NdefX.startF N vs [none] = L2.start N vs := by
    have hl := h.length
    unfold NdefX.startF L2.start
    have : N.length - vs.length = (N.length - vs.length - [none (α := V)].length) + 1 := by simp only [List.length_singleton]; omega
    rw [this, List.replicate_succ]
    simp
  rw [e]
  exact srel_start h
section
variable {g : Gm} {P : Program} {w : World} {K : PySem.W.Frag} {mg : Str → Option Value} {base : Heap} {N ps : List Str} {x qual : Str} {st : Stmt} {f cc cda D : Addr} {fd : FuncData} {file : Str} {k : Nat} {S : DSp} {T : DS}
theorem pureS {vs : List V} {H : Hp} {Q : VK} {E : XK} {n : Nat} (pure : Pure N n S T) (hN : n + 1 ≤ N.length) (h : toSp g S vs H Q E) : ls g (wE E) T { nx := fun _ H' => Q .non H', rt := Q } (NdefX.startF N vs [none]) H := by
  obtain ⟨F, O, ds, P', EX, h1, h2, h3, h4, h5⟩ := h
  obtain ⟨hl, hp⟩ := pure ds O P' EX h3
  obtain ⟨O', w', hT⟩ := hp g F H h2
  refine ⟨endsD P' EX, startD N ds, O', F, hT, srel_startF h1 (by omega), w', ⟨fun Δ O1 F1 σ H1 ⟨O2, wk, q⟩ s1 sr1 w1 => ?_, fun d O1 v F1 H1 ⟨O2, wk, q⟩ s1 w1 r1 => ?_, fun _ _ _ _ _ q => q.elim, fun _ _ _ _ _ q => q.elim, fun y Δ O1 cls dd F1 σ H1 ⟨O2, wk, q⟩ s1 sr1 w1 r1 => ?_⟩⟩
  · exact h4 _ _ _ _ _ q s1 (wk _ _ _ w1) (Rep.non_iff.mpr rfl)
  · exact h4 _ _ _ _ _ q s1 (wk _ _ _ w1) r1
  · exact h5 _ _ _ _ _ _ q s1 (wk _ _ _ w1) r1
end
end G

set_option Elab.async false
set_option linter.all false
set_option maxRecDepth 100000
set_option maxHeartbeats 4000000
namespace G
open PySem L2
/-! ## text[::-1] -/
section
open PySem.Spec PyProof.Rows
def revT (z : Str) : Str := ⟨z.cps.toList.reverse.toArray⟩
def tRevS (te : TE) : TE := fun σ H Q => te σ H fun x H1 => ∃ z, x = .str z ∧ z.length ≤ sizeLine ∧ Q (.str (revT z)) H1
theorem revS_ix (z : Str) : (⟨((Builtin.Str.strSliceIndices none none (-1) z.length).filterMap (z.cps[·]?)).toArray⟩ : Str) = revT z := by
  unfold Builtin.Str.strSliceIndices revT
  show (⟨((sliceRange ((z.cps.size : Int) - 1) (-1) (-1)).filterMap (z.cps[·]?)).toArray⟩ : Str) = _
  rw [PySem.W.krv_sliceRange, PySem.W.krv_range, List.filterMap_reverse, PySem.W.krv_all]
theorem pe_revS {X : Cx} {e : Expr} {te : TE} {k : Nat} {p1 p2 p3 pos : Pos} (he : PE X e te) : PE X (.Subscript e (.Slice none none (some (.UnaryOp .USub (.Constant (.int 1) k p1) p2)) p3) pos) (tRevS te) := by
  refine ⟨fun pins s σ H Q I h => ?_⟩
  refine Subscript_ (thn (he.run pins s σ H _ I h) fun v s1 ⟨x, H1, I1, r1, q1⟩ => ?_)
  obtain ⟨z, ex, hz, q⟩ := q1
  subst ex
  obtain ⟨t, rfl⟩ := r1
  have hst : PO X (some (.UnaryOp .USub (.Constant (.int 1) k p1) p2)) (tPart (tUn (rU fun i => .int (-i)) (tC (.int 1)))) := po_some (pe_un un_neg pe_int)
  refine wpAny_Slice (thn (po_none.run pins s1 σ H1 (fun o H2 => o = none ∧ H2 = H1) I1 ⟨rfl, rfl⟩) fun vl s2 ⟨l, H2, I2, pl, el, e2⟩ => ?_)
  subst el e2
  refine thn (po_none.run pins s2 σ H2 (fun o H3 => o = none ∧ H3 = H2) I2 ⟨rfl, rfl⟩) fun vu s3 ⟨u, H3, I3, pu, eu, e3⟩ => ?_
  subst eu e3
  refine thn (hst.run pins s3 σ H3 (fun o H4 => o = some (-1) ∧ H4 = H3) I3 ⟨1, rfl, -1, rfl, rfl, rfl⟩) fun vs s4 ⟨o, H4, I4, ps, eo, e4⟩ => ?_
  subst eo e4
  obtain ⟨l, rfl, el⟩ := IsPart.raw pl
  obtain ⟨u, rfl, eu⟩ := IsPart.raw pu
  obtain ⟨st, rfl, es⟩ := IsPart.raw ps
  have I5 : Inv X pins σ H4 { s4 with heap := s4.heap.push { cls := .type "slice", data := .fields #[partValue l, partValue u, partValue st] } } := I4.kept (t' := s4.toks) fun b ob q => Heap.get?_push_of_some _ q
  refine tail_any (ops := [.ref s4.heap.objs.size, .str z t]) (typeIs_str _ _ _) (F.slot_str_getitem.lookup) ?_ (by with_unfolding_all rfl)
  have e0 : (st.map (·.1)).getD 1 = -1 := by rw [es]; rfl
  refine wpAny_getItem_str_slice (l := l) (u := u) (st := st) ⟨_, Heap.get?_push_size _ rfl, rfl, rfl⟩ (by rw [e0]; rfl) ?_
  unfold sliceMade
  have ep : slicePicked z l u st = Builtin.Str.strSliceIndices none none (-1) z.length := by unfold slicePicked; rw [e0, el, eu]
  rw [e0, ep]
  have ez := revS_ix z
  show Made.post (if ((-1 : Int) == 1 && (Builtin.Str.strSliceIndices none none (-1) z.length).length == z.length) = true then Made.val (.str z t)
    else Made.str ⟨((Builtin.Str.strSliceIndices none none (-1) z.length).filterMap (z.cps[·]?)).toArray⟩) (EP X pins σ Q) _
  rw [if_neg (by simp), ez]
  refine ⟨?_, .str _, H4, I5.tok _, ⟨_, rfl⟩, q⟩
  show (revT z).cps.size ≤ sizeLine
  unfold revT
  have hz' : z.cps.size ≤ sizeLine := hz
  simpa using hz'
end
def dRevS (T : DE) : DE := fun Δ O P E => T Δ O (fun d O1 => match d with | .str z => z.length ≤ sizeLine ∧ P (.str (revT z)) O1 | _ => False) E
section
variable {g : Gm} {X : Cx} {W : WX} {pos pos' p : Pos} {a b c : Expr} {Ta Tb : DE}
theorem q_revS {k : Nat} {p1 p2 p3 : Pos} (ha : PE X a (le g W Ta)) : PE X (.Subscript a (.Slice none none (some (.UnaryOp .USub (.Constant (.int 1) k p1) p2)) p3) pos) (le g W (dRevS Ta)) := by
  refine pe_imp (pe_revS ha) fun σ H Q ⟨Δ, O, P, E, F, hT, sr, w, hv, hx⟩ => ?_
  refine le_bind hT sr w hx fun d O1 v F1 H1 hT1 s1 sr1 w1 rx hx1 => ?_
  cases d with
  | str z => exact ⟨z, Rep.str_iff.mp rx, hT1.1, hv _ _ _ _ _ hT1.2 s1 w1 (Rep.str_iff.mpr rfl)⟩
  | _ => exact hT1.elim
end
theorem e_revS {Ta : DE} {Δ : Sl} {O : Sto} {P : KD} {E : KX} : dRevS Ta Δ O P E = Ta Δ O (fun d O1 => match d with | .str z => z.length ≤ sizeLine ∧ P (.str (revT z)) O1 | _ => False) E := propext Iff.rfl
/-! ## str(text) -/
def fStrS : BC := fun ds O P => match ds with | [.str z] => P (.str z) O | _ => False
theorem f_strS {z : Str} {O : Sto} {P : KD} : fStrS [.str z] O P = P (.str z) O := propext Iff.rfl
/-! ## two fors -/
def lc2D (Gd : DG) (Tt : DT) (R1 : DA) (Gd1 : DG) (Tt1 : DT) (Te : DE) (vs1 : List Nat) (p : Addr) (P : List D → Sto → Prop) : List D → List D → Sl → Sto → Prop
  | [], acc, _, O => P acc O
  | x :: r, acc, Δ, O => Gd x Δ fun Δ' => Tt Δ' ((p, .lst acc) :: O) (fun k O1 => if k = true
      then R1 Δ' O1 (fun ds O2 => ∃ O3, O2 = (p, .lst acc) :: O3 ∧ ds.length ≤ 1000000 ∧ acc.length ≤ 1000000 ∧ lcD Gd1 Tt1 Te p (fun acc' O4 => lc2D Gd Tt R1 Gd1 Tt1 Te vs1 p P r acc' Δ O4) ds acc (wipeD Δ' vs1) O3) (fun _ _ => False)
      else ∃ O3, O1 = (p, .lst acc) :: O3 ∧ lc2D Gd Tt R1 Gd1 Tt1 Te vs1 p P r acc Δ O3) (fun _ _ => False)
def dLc2 (R : DA) (Gd : DG) (Tt : DT) (R1 : DA) (Gd1 : DG) (Tt1 : DT) (Te : DE) (vs vs1 : List Nat) : DE := fun Δ O P E => R Δ O (fun ds O1 => ∀ p, freshC O1 p → lc2D Gd Tt R1 Gd1 Tt1 Te vs1 p (fun acc O2 => P (.lst acc) O2) ds [] (wipeD Δ vs) O1) E
section
variable {g : Gm} {X : Cx} {W : WX} {pos pos' : Pos} {a b c tg tg1 : Expr} {R R1 : DA}
end
section
variable {Δ : Sl} {O : Sto} {P : KD} {E : KX} {R R1 : DA} {Gd Gd1 : DG} {Tt Tt1 : DT} {Te : DE} {vs vs1 : List Nat} {p : Addr} {Q : List D → Sto → Prop}
theorem e_lc2 : dLc2 R Gd Tt R1 Gd1 Tt1 Te vs vs1 Δ O P E = R Δ O (fun ds O1 => ∀ p, freshC O1 p → lc2D Gd Tt R1 Gd1 Tt1 Te vs1 p (fun acc O2 => P (.lst acc) O2) ds [] (wipeD Δ vs) O1) E := propext Iff.rfl
end
/-! ## {"a": x, ..} -/
def dDisp (ks : List Str) (R : DA) : DE := fun Δ O P E => ∀ p, freshC O p → R Δ ((p, .dic [] []) :: O) (fun ds O1 => ∃ O2, O1 = (p, .dic [] []) :: O2 ∧ ds.length = ks.length ∧ ks.Nodup ∧ P (.ptr p) ((p, .dic (ks.map Sum.inr) ds) :: O2)) (fun x O1 => E x (delC O1 p))
theorem e_disp {ks : List Str} {R : DA} {Δ : Sl} {O : Sto} {P : KD} {E : KX} : dDisp ks R Δ O P E = ∀ p, freshC O p → R Δ ((p, .dic [] []) :: O) (fun ds O1 => ∃ O2, O1 = (p, .dic [] []) :: O2 ∧ ds.length = ks.length ∧ ks.Nodup ∧ P (.ptr p) ((p, .dic (ks.map Sum.inr) ds) :: O2)) (fun x O1 => E x (delC O1 p)) := propext Iff.rfl
section
variable {g : Gm} {X : Cx} {W : WX} {pos pos' : Pos} {keys : List (Option Expr)} {values : List Expr} {ks : List Str} {R : DA}
end
end G
namespace G
open PySem L2
end G
namespace G
open PySem L2
theorem e_makeK {cl : Cl} {S : DSp} {R : DA} {Δ : Sl} {O : Sto} {P : KD} {E : KX} : dMake cl S R Δ O P E = R Δ O (fun ds O1 => mkK cl S ds O1 P E) E := propext Iff.rfl
end G
namespace G
open PySem L2
section
variable {g : Gm} {X : Cx} {W : WX} {pos : Pos} {i o : Expr} {Tk Td : DE}
end
end G

set_option Elab.async false
set_option linter.all false
set_option maxRecDepth 100000
set_option maxHeartbeats 4000000
namespace G
open PySem L2
/-! ## methods of an owned list -/
abbrev LOp := Sto → List D → List D → (D → List D → Prop) → Prop
def dLm (op : LOp) (Ta : DE) (R : DA) : DE := fun Δ O P E => Ta Δ O (fun o O1 => match o with
  | .ptr p => (match getC O1 p with
    | some (.lst _) => R Δ O1 (fun as O2 => match getC O2 p with
      | some (.lst ds) => op O2 ds as (fun r ds' => P r (setC O2 p (.lst ds')))
      | _ => False) E
    | _ => False)
  | _ => False) E
section
variable {g : Gm} {X : Cx} {W : WX} {pos : Pos} {a c : Expr} {Ta : DE} {R : DA} {op : LOp} {r : V → List V → Hp → VK → Prop}
end
def opPop : LOp := fun _ ds as K => as = [] ∧ ∃ l y, ds = l ++ [y] ∧ K y l
def opIns : LOp := fun _ ds as K => match as with
  | [.int i, d] => 0 ≤ i ∧ i < 2 ^ 63 ∧ ds.length < sizeLine ∧ K .non (ds.take i.toNat ++ [d] ++ ds.drop i.toNat)
  | _ => False
def opExt : LOp := fun O ds as K => match as with
  | [d] => (match lstOf O d with | some es => ds.length + es.length ≤ sizeLine ∧ K .non (ds ++ es) | none => False)
  | _ => False
section
variable {g : Gm}
end
theorem e_lm {op : LOp} {Ta : DE} {R : DA} {Δ : Sl} {O : Sto} {P : KD} {E : KX} : dLm op Ta R Δ O P E = Ta Δ O (fun o O1 => match o with
  | .ptr p => (match getC O1 p with
    | some (.lst _) => R Δ O1 (fun as O2 => match getC O2 p with
      | some (.lst ds) => op O2 ds as (fun r ds' => P r (setC O2 p (.lst ds')))
      | _ => False) E
    | _ => False)
  | _ => False) E := propext Iff.rfl
section
variable {Δ : Sl} {O : Sto} {P : KD} {E : KX} {Ta : DE} {L U : DO} {PO : Option Int → Sto → Prop} {K : D → List D → Prop}
theorem f_pop {ds as : List D} : opPop O ds as K = (as = [] ∧ ∃ l y, ds = l ++ [y] ∧ K y l) := propext Iff.rfl
theorem f_ins {ds : List D} {i : Int} {d : D} : opIns O ds [.int i, d] K = (0 ≤ i ∧ i < 2 ^ 63 ∧ ds.length < sizeLine ∧ K .non (ds.take i.toNat ++ [d] ++ ds.drop i.toNat)) := propext Iff.rfl
theorem f_ext {ds : List D} {d : D} : opExt O ds [d] K = (match lstOf O d with | some es => ds.length + es.length ≤ sizeLine ∧ K .non (ds ++ es) | none => False) := propext Iff.rfl
theorem e_slice : dSlice Ta L U Δ O P E = Ta Δ O (fun d O1 => L Δ O1 (fun l O2 => U Δ O2 (fun u O3 => match d with
  | .scr ns => P (.lst (cutD (ns.map D.int) l u)) O3
  | _ => match lstOf O3 d with | some ds => P (.lst (cutD ds l u)) O3 | none => False) E) E) E := propext Iff.rfl
theorem e_noP : dNoP Δ O PO E = PO none O := propext Iff.rfl
theorem e_part : dPart Ta Δ O PO E = Ta Δ O (fun d O1 => match d with | .int i => PO (some i) O1 | _ => False) E := propext Iff.rfl
theorem f_dictD {d : D} : fDictD [d] O P = (match dicOf O d with | some t => ∀ p, freshC O p → P (.ptr p) ((p, .dic t.1 t.2) :: O) | none => False) := propext Iff.rfl
theorem lstL {ds : List D} : lstOf O (.lst ds) = some ds := rfl
end
end G

set_option Elab.async false
set_option linter.all false
set_option maxRecDepth 100000
set_option maxHeartbeats 4000000
namespace G
open PySem L2
/-! ## keywords -/
def pick {α : Type} (idx : List Nat) (zs : List α) : List α := idx.filterMap fun i => zs[i]?
theorem Reps.pick {g : Gm} {F : Hp} {ds : List D} {vs : List V} (h : Reps g F ds vs) : ∀ idx : List Nat, Reps g F (G.pick idx ds) (G.pick idx vs)
  | [] => Reps.nil
  | i :: idx => by
    unfold G.pick
    rw [List.filterMap_cons, List.filterMap_cons]
    cases e : ds[i]? with
    | none =>
      have e2 : vs[i]? = none := by
        rw [List.getElem?_eq_none_iff] at e ⊢
        rw [← h.length]; exact e
      rw [e2]
      exact Reps.pick h idx
    | some d =>
      obtain ⟨v, e2, r⟩ := h.get e
      rw [e2]
      exact Reps.cons r (Reps.pick h idx)
theorem vals_pick {vs : List V} {us : List Value} (h : Vals vs us) : ∀ idx : List Nat, Vals (G.pick idx vs) (G.pick idx us)
  | [] => .nil
  | i :: idx => by
    unfold G.pick
    rw [List.filterMap_cons, List.filterMap_cons]
    have key : (vs[i]? = none ∧ us[i]? = none) ∨ ∃ v u, vs[i]? = some v ∧ us[i]? = some u ∧ RelV v u := by
      clear vals_pick
      induction h generalizing i with
      | nil => exact .inl ⟨rfl, rfl⟩
      | @cons a b as bs r _ ih =>
        cases i with
        | zero => exact .inr ⟨a, b, rfl, rfl, r⟩
        | succ i => simpa using ih i
    rcases key with ⟨e1, e2⟩ | ⟨v, u, e1, e2, r⟩
    · rw [e1, e2]; exact vals_pick h idx
    · rw [e1, e2]; exact .cons r (vals_pick h idx)
def FNK (g : Gm) (P : Program) (w : World) (K : PySem.W.Frag) (mg : Str → Option Value) (base : Heap) (k : Nat) (f : Addr) (n : Nat) (ks : List Str) (idx : List Nat) (S : DSp) : Prop :=
  ∀ (A : Around) (outer : List Env) (s : Shared) (H : Hp) (us ws : List Value) (vs zs : List V) (Q : VK) (E : XK), Room k A → Env0 P w K mg base A outer s H → Vals vs us → Vals zs ws → vs.length = n → zs.length = ks.length → toSp g S (vs ++ pick idx zs) H Q E →
    codeAny (model P w) A (.call (.ref f) ⟨us, ks.zip ws⟩) (CR (L2.CX P w) outer P w H s Q E) s
theorem FNK.mono {g : Gm} {P : Program} {w : World} {K : PySem.W.Frag} {mg : Str → Option Value} {base : Heap} {j k : Nat} {f : Addr} {n : Nat} {ks : List Str} {idx : List Nat} {S : DSp} (h : FNK g P w K mg base j f n ks idx S) (hj : j ≤ k) : FNK g P w K mg base k f n ks idx S :=
  fun A outer s H us ws vs zs Q E hr => h A outer s H us ws vs zs Q E (hr.mono hj)
section
variable {g : Gm} {X : Cx} {W : WX} {pos pos' p apos kpos : Pos} {a b c o e : Expr} {es : List Expr} {Ta Tb : DE} {R Rk : DA} {k j n : Nat} {f : Addr} {S : DSp} {x m : Str} {kws : List Keyword} {ks : List Str} {idx : List Nat} {nm : Option Str}
theorem qk_nil : PK X [] (la g W dNil) := ⟨fun pos pins s σ H Q I h => pk_nil.run pos pins s σ H Q I (by
  obtain ⟨Δ, O, P, E, F, hT, sr, w, hv, hx⟩ := h
  exact hv.now hT w Reps.nil)⟩
theorem qk_cons (ha : PE X e (le g W Ta)) (hr : PK X kws (la g W R)) : PK X (⟨nm, e, kpos⟩ :: kws) (la g W (dCons Ta R)) := ⟨fun pos pins s σ H Q I h => (pk_cons ha hr).run pos pins s σ H Q I (by
  obtain ⟨Δ, O, P, E, F, hT, sr, w, hv, hx⟩ := h
  refine le_bind hT sr w hx fun d O1 v F1 H1 hT1 s1 sr1 w1 rx hx1 => la_bind hT1 sr1 w1 hx1 fun ds O2 vs F2 H2 hT2 s2 sr2 w2 rs hx2 => ?_
  exact hv _ _ _ _ _ hT2 (s1.trans s2) w2 (Reps.cons (rx.mono s2) rs))⟩
def dCallK (n m : Nat) (idx : List Nat) (S : DSp) (R Rk : DA) : DE := fun Δ O P E => R Δ O (fun ds O1 => Rk Δ O1 (fun es O2 => ds.length = n ∧ es.length = m ∧ S (ds ++ pick idx es) O2 P E) E) E
/-- the class C's own def m: C.m(..) -/
def UAt (g : Gm) (P : Program) (w : World) (K : PySem.W.Frag) (mg : Str → Option Value) (base : Heap) (k : Nat) (c : Cl) (m : Str) (S : DSp) : Prop := ∃ mc f, ClX.CRead K (g.ca c) mc ∧ PySem.W.findCls K (.ref (g.ca c)) mc m = some (.val (.ref f)) ∧ PySem.W.keepIn K (.ref f) = true ∧ FN g P w K mg base k f S
def UAtK (g : Gm) (P : Program) (w : World) (K : PySem.W.Frag) (mg : Str → Option Value) (base : Heap) (k : Nat) (c : Cl) (m : Str) (n : Nat) (ks : List Str) (idx : List Nat) (S : DSp) : Prop := ∃ mc f, ClX.CRead K (g.ca c) mc ∧ PySem.W.findCls K (.ref (g.ca c)) mc m = some (.val (.ref f)) ∧ PySem.W.keepIn K (.ref f) = true ∧ FNK g P w K mg base k f n ks idx S
/-! ### C(.., k = v) -/
def dMakeKw (cl : Cl) (n m : Nat) (idx : List Nat) (S : DSp) (R Rk : DA) : DE := fun Δ O P E => R Δ O (fun ds O1 => Rk Δ O1 (fun es O2 => ds.length = n ∧ es.length = m ∧ mkK cl S (ds ++ pick idx es) O2 P E) E) E
def GCK (g : Gm) (P : Program) (w : World) (K : PySem.W.Frag) (mg : Str → Option Value) (base : Heap) (k : Nat) (cl : Cl) (name : Str) (n : Nat) (ks : List Str) (idx : List Nat) (S : DSp) : Prop := mg name = some (.ref (g.ca cl)) ∧ ∃ f, Mk K (g.ca cl) f ∧ FNK g P w K mg base k f (n + 1) ks idx S
theorem run_mkK {C : Addr} {pins : List (Addr × Obj)} {σ : St} {H : Hp} {s : Shared} {Q : VK} {us ws : List Value} {vs zs : List V} (M : Mk X.K C f) (Fn : FNK g X.prog X.w X.K X.mg X.base k f (n + 1) ks idx S) (hr : Room (k + 1) X.A) (tk : Takes X W) (I : Inv X pins σ H s) (r : Vals vs us) (rz : Vals zs ws) (l1 : vs.length = n) (l2 : zs.length = ks.length)
    (h : ∀ x dx, H x = Option.none → H dx = Option.none → dx ≠ x → toSp g S (V.ref x :: (vs ++ pick idx zs)) (upd (upd H dx (.own x)) x (.ins C dx [])) (fun v H2 => v = .non ∧ Q (.ref x) H2) (fun cls dd H' => W cls dd σ H')) :
    wpAny (model X.prog X.w) X.A (call (.ref C) us (ks.zip ws)) (EP X pins σ Q) X.xe s := by
  have hq := h (s.heap.objs.size + 1) s.heap.objs.size (I.hok.fresh (Nat.le_succ _)) (I.hok.fresh (Nat.le_refl _)) (Nat.ne_of_lt (Nat.lt_succ_self _))
  have I2 := Inv.made (C := C) I
  have r2 : Vals (V.ref (s.heap.objs.size + 1) :: vs) (Value.ref (s.heap.objs.size + 1) :: us) := .cons rfl r
  refine wpAny_call (make_map (f := f) I.kIn M.makes M.init (beq_iff_eq.mp M.fn) (codeAny_mono (Fn _ X.stack _ _ (Value.ref (s.heap.objs.size + 1) :: us) ws _ zs _ _ (hr.make C us (ks.zip ws)) (I2.env0.make C us (ks.zip ws)) r2 rz (by rw [List.length_cons, l1]) l2 hq) fun r s' hq' => ?_))
  cases r with
  | error e => exact passAt tk σ pins _ _ e s' I2 hq'
  | ok fl =>
    cases fl with
    | ret u =>
      obtain ⟨v, H', I3, rv, ev, q3⟩ := I2.after hq'
      subst ev
      exact ⟨rv, ⟨V.ref (s.heap.objs.size + 1), H', I3, rfl, q3⟩⟩
    | next => exact False.elim hq'
    | brk => exact False.elim hq'
    | cont => exact False.elim hq'
theorem q_makeKw {cl : Cl} {nk : Nat} (M : GCK g X.prog X.w X.K X.mg X.base k cl x n ks idx S) (hr : Room j X.A) (tk : Takes X W) (ha : PA X (a :: es) (la g W R)) (hkw : PK X kws (la g W Rk)) (hkj : k + 1 ≤ j := by first | decide | omega) (hg : Gl X x := by rfl)
    (hall : (backToKw pos (keywordEach kws X.env)).all (·.1.isSome) = true := by rfl) (hks : (backToKw pos (keywordEach kws X.env)).filterMap (·.1) = ks := by rfl) (hdb : (x == ("__debug__" : Str)) = false := by decide)
    (he : starEach (a :: es) X.env = (false, eval a X.env) :: starEach es X.env := by rfl) (hpl : ((backTo pos (starEach (a :: es) X.env)).any (·.1) || (backToKw pos (keywordEach kws X.env)).any (·.1.isNone)) = false := by rfl) (hnk : ks.length = nk := by rfl) :
    PE X (.Call (.Name x p) (a :: es) kws pos) (le g W (dMakeKw cl n nk idx S R Rk)) := by
  subst hnk
  refine ⟨fun pins s σ H Q I h => ?_⟩
  obtain ⟨Δ, O, P, E, F, hT, sr, w, hv, hx⟩ := h
  obtain ⟨hm, f, Mk, Fn⟩ := M
  refine wpAny_Call_Name_kw (ld_glob I hg hm ?_ hdb)
  refine PySem.W.callWith_KW (h₀ := X.base) I.ok.mod.kin Mk.kp hall (thn (ha.run pos pins s σ H _ I (la_bind (Q := fun vs H1 => la g W Rk σ H1 fun zs H2 => vs.length = n ∧ zs.length = ks.length ∧ ∀ x dx, H2 x = none → H2 dx = none → dx ≠ x → toSp g S (V.ref x :: (vs ++ pick idx zs)) (upd (upd H2 dx (.own x)) x (.ins (g.ca cl) dx [])) (fun v H2 => v = .non ∧ Q (.ref x) H2) fun cls dd H' => W cls dd σ H') hT sr w hx
    fun ds O1 vs F1 H1 hT1 s1 sr1 w1 rs hx1 => la_bind hT1 sr1 w1 hx1 fun es O2 zs F2 H2 hT2 s2 sr2 w2 rz hx2 => ?_)) fun us s1 ⟨vs, H1, I1, r, q⟩ => ?_) hpl he
  · obtain ⟨l1, l2, hS⟩ := hT2
    exact ⟨by rw [← rs.length]; exact l1, by rw [← rz.length]; exact l2, fun x dx nx nd ne => mk_sp hS ((rs.mono s2).append (rz.pick idx)) w2 hv (s1.trans s2) hx2 x dx nx nd ne⟩
  · refine thn (hkw.run pos pins s1 σ H1 _ I1 q) fun ws s2 ⟨zs, H2, I2, rz, l1, l2, q2⟩ => ⟨I2.kIn, ?_⟩
    rw [hks]
    exact run_mkK Mk Fn (hr.mono hkj) tk I2 r rz l1 l2 q2
/-! ## constants -/
theorem q_gStr {z : Str} {t : Tok} (hm : X.mg x = some (.str z t)) (hg : Gl X x := by rfl) (hd : (x == ("__debug__" : Str)) = false := by decide) : PE X (.Name x p) (le g W (dC (.str z))) :=
  pe_imp (pe_glob (v := .str z) hg hm ⟨t, rfl⟩ hd) fun σ H Q ⟨Δ, O, P, E, F, hT, sr, w, hv, hx⟩ => hv.now (d := .str z) hT w (Rep.str_iff.mpr rfl)
/-- x in TUPLE, of texts, of the module -/
structure KTup (K : PySem.W.Frag) (mg : Str → Option Value) (x : Str) (ws : List Str) : Prop where
  ex : ∃ (a : Addr) (o : Obj) (its : Array Value) (n : Nat), mg x = some (.ref a) ∧ K.lookup a = some o ∧ o.cls = .type "tuple" ∧ o.data = .seq its n ∧ its.size ≤ sizeLine ∧ Vals (ws.map V.str) its.toList
def dInK (ws : List Str) (Ta : DE) : DE := fun Δ O P E => Ta Δ O (fun d O1 => match d with | .str z => P (.bl (decide (z ∈ ws))) O1 | _ => False) E
theorem ink_of {ws : List Str} {aa : Addr} {oo : Obj} {its : Array Value} {nn : Nat} (h1 : g.K.lookup aa = some oo) (h2 : oo.cls = .type "tuple") (h3 : oo.data = .seq its nn) (h4 : its.size ≤ sizeLine) (h5 : Vals (ws.map V.str) its.toList) {σ : St} {H : Hp} {Q : VK} (h : le g W (dInK ws Ta) σ H Q) :
    tOp (rIn g.K false) (le g W Ta) (tC (.ref aa)) σ H Q := by
  obtain ⟨Δ, O, P, E, F, hT, sr, w, hv, hx⟩ := h
  refine le_bind hT sr w hx fun d O1 v F1 H1 hT1 s1 sr1 w1 rx hx1 => ?_
  cases d with
  | str z =>
    rw [Rep.str_iff.mp rx]
    refine ⟨aa, _, rfl, .inr (.inr ⟨oo, its, nn, h1, h2, h3, h4, h5⟩), rfl, by simp [flatV], ?_⟩
    rw [inV_str]
    exact hv _ _ _ _ _ hT1 s1 w1 rbl
  | _ => exact hT1.elim
theorem qt_inK {ws : List Str} (T : KTup g.K X.mg x ws) (ha : PE X a (le g W Ta)) (hK : X.K = g.K := by rfl) (hg : Gl X x := by rfl) (hd : (x == ("__debug__" : Str)) = false := by decide) : PT X (.Compare a [.In] [.Name x p] pos) (lt g W (dTe (dInK ws Ta))) := by
  obtain ⟨aa, oo, its, nn, hm, h1, h2, h3, h4, h5⟩ := T.ex
  refine pt_imp (pt_cmpR (op := .In) (r := rIn X.K false) op_in_seq ha (pe_glob (v := .ref aa) hg hm rfl hd) rfl) fun σ H Q h => ?_
  rw [hK]
  exact ink_of h1 h2 h3 h4 h5 (test_of h)
/-- C.CONSTANT, an int -/
def CVI (g : Gm) (K : PySem.W.Frag) (c : Cl) (f : Str) (i : Int) : Prop := ∃ mc t, ClX.CRead K (g.ca c) mc ∧ PySem.W.findCls K (.ref (g.ca c)) mc f = some (.val (.int i t))
theorem q_cvalI {cl : Cl} {i : Int} {ff : Str} (T : CVI g g.K cl ff i) (hm : X.mg x = some (.ref (g.ca cl))) (hK : X.K = g.K := by rfl) (hg : Gl X x := by rfl) (hd : (x == ("__debug__" : Str)) = false := by decide) (hb : attributeBase (.Name x p) ff X.env (eval (.Name x p) X.env) = eval (.Name x p) X.env := by rfl) : PE X (.Attribute (.Name x p) ff pos) (le g W (dC (.int i))) := by
  obtain ⟨mc, t, rd, fc⟩ := T
  refine pe_imp (ClX.pe_cval (pe_glob (v := .ref (g.ca cl)) hg hm rfl hd) hb) fun σ H Q ⟨Δ, O, P, E, F, hT, sr, w, hv, hx⟩ => ?_
  exact ⟨g.ca cl, mc, .int i, .int i t, rfl, by rw [hK]; exact rd, by rw [hK]; exact ⟨fc, ⟨t, rfl⟩⟩, hv.now (d := .int i) hT w (Rep.int_iff.mpr rfl)⟩
/-! ## for sign in text -/
def dItS (Ta : DE) : DA := fun Δ O P E => Ta Δ O (fun d O1 => match d with | .str z => P (z.cps.toList.map fun c => .str ⟨#[c]⟩) O1 | _ => False) E
theorem gives_str {F : Hp} (z : Str) : Gives g F (Its z) (z.cps.toList.map fun c => D.str ⟨#[c]⟩) := by
  refine ⟨fun i d F' O H q s w => ?_, fun i F' O H q s w => by show z.cps.size ≤ i; simpa using q⟩
  rw [List.getElem?_map] at q
  cases e : z.cps.toList[i]? with
  | none => rw [e] at q; cases q
  | some c =>
    rw [e] at q
    cases q
    have hi : i < z.cps.size := by
      have := (List.getElem?_eq_some_iff.mp e).1
      simpa using this
    refine ⟨hi, fun x H' ⟨eH, c', ec, ex⟩ => ⟨F', Same.refl F', by rw [eH]; exact w, ?_⟩⟩
    rw [ex, Rep.str_iff]
    have : z.cps[i]? = some c := by simpa using e
    rw [this] at ec
    cases ec
    rfl
theorem qi_str {tg : Expr} (ha : PE X a (le g W Ta)) : PI X tg a (li g W (dItS Ta)) := by
  refine pi_imp (pi_str ha) fun σ H R h => ?_
  obtain ⟨Δ, O, P, E, F, hT, sr, w, hR, hx⟩ := h
  refine le_bind hT sr w hx fun d O1 v F1 H1 hT1 s1 sr1 w1 rx hx1 => ?_
  cases d with
  | str z => exact ⟨z, Rep.str_iff.mp rx, hR _ _ _ _ _ hT1 s1 w1 (gives_str z)⟩
  | _ => exact hT1.elim
end
section
variable {Δ : Sl} {O : Sto} {P : KD} {E : KX} {Ta : DE} {R Rk : DA} {n m : Nat} {idx : List Nat} {S : DSp} {cl : Cl} {PA : List D → Sto → Prop}
theorem e_callK : dCallK n m idx S R Rk Δ O P E = R Δ O (fun ds O1 => Rk Δ O1 (fun es O2 => ds.length = n ∧ es.length = m ∧ S (ds ++ pick idx es) O2 P E) E) E := propext Iff.rfl
theorem e_makeKw : dMakeKw cl n m idx S R Rk Δ O P E = R Δ O (fun ds O1 => Rk Δ O1 (fun es O2 => ds.length = n ∧ es.length = m ∧ mkK cl S (ds ++ pick idx es) O2 P E) E) E := propext Iff.rfl
theorem e_inK {ws : List Str} : dInK ws Ta Δ O P E = Ta Δ O (fun d O1 => match d with | .str z => P (.bl (decide (z ∈ ws))) O1 | _ => False) E := propext Iff.rfl
theorem e_itS : dItS Ta Δ O PA E = Ta Δ O (fun d O1 => match d with | .str z => PA (z.cps.toList.map fun c => .str ⟨#[c]⟩) O1 | _ => False) E := propext Iff.rfl
end
section
variable {g : Gm} {P : Program} {w : World} {K : PySem.W.Frag} {mg : Str → Option Value} {base : Heap} {N ps : List Str} {x qual : Str} {st : Stmt} {f cc cda D : Addr} {fd : FuncData} {file : Str} {k n : Nat} {S : DSp} {T : DS} {ks : List Str} {idx : List Nat}
end
end G

set_option Elab.async false
set_option linter.all false
set_option maxRecDepth 100000
set_option maxHeartbeats 4000000
namespace G
open PySem L2
/-! ## text[lo:hi], an owned copy list(x) -/
def dSliceS (T : DE) (L U : DO) : DE := fun Δ O P E => T Δ O (fun d O1 => L Δ O1 (fun l O2 => U Δ O2 (fun u O3 => match d with
  | .str z => z.length ≤ sizeLine ∧ P (.str (cutS z l u)) O3
  | _ => False) E) E) E
def fListO : BC := fun ds O P => match ds with | [d] => (match seqOf O d with | some es => ∀ p, freshC O p → P (.ptr p) ((p, .lst es) :: O) | none => False) | _ => False
section
variable {g : Gm} {X : Cx} {W : WX} {pos pos' p p2 : Pos} {a b c e : Expr} {es : List Expr} {R : DA} {Ta Tb : DE} {k j : Nat} {x : Str}
end
section
variable {Δ : Sl} {O : Sto} {P : KD} {E : KX} {Ta : DE} {L U : DO}
theorem e_sliceS : dSliceS Ta L U Δ O P E = Ta Δ O (fun d O1 => L Δ O1 (fun l O2 => U Δ O2 (fun u O3 => match d with
  | .str z => z.length ≤ sizeLine ∧ P (.str (cutS z l u)) O3
  | _ => False) E) E) E := propext Iff.rfl
theorem f_listOL {ds : List D} : fListO [.lst ds] O P = (∀ p, freshC O p → P (.ptr p) ((p, .lst ds) :: O)) := propext Iff.rfl
theorem f_listOT {ds : List D} : fListO [.tup ds] O P = (∀ p, freshC O p → P (.ptr p) ((p, .lst ds) :: O)) := propext Iff.rfl
end
end G

set_option Elab.async false
set_option linter.all false
set_option maxRecDepth 100000
set_option maxHeartbeats 4000000
namespace G
open PySem L2
/-! ## for k in d: a dict that is let go -/
def dItD (T : DE) : DA := fun Δ O P E => T Δ O (fun d O1 => match d with | .dic ks _ => P (ks.map kD) O1 | _ => False) E
section
variable {g : Gm} {X : Cx} {W : WX} {pos pos' p p2 : Pos} {a b c e : Expr} {es : List Expr} {R : DA} {Ta Tb : DE} {k j : Nat} {x : Str}
end
section
variable {Δ : Sl} {O : Sto} {E : KX} {Ta : DE} {PA : List D → Sto → Prop}
theorem e_itD : dItD Ta Δ O PA E = Ta Δ O (fun d O1 => match d with | .dic ks _ => PA (ks.map kD) O1 | _ => False) E := propext Iff.rfl
end
/-! ## an owned thing is let go where it stands: in variables and in fields -/
def subD (a : Addr) (x : D) : D → D
  | .ptr b => if b = a then x else .ptr b
  | d => d
def subCell (a : Addr) (x : D) : Cell → Cell
  | .lst ds => .lst (ds.map (subD a x))
  | .ins c fs ds => .ins c fs (ds.map (subD a x))
  | .dic ks ds => .dic ks (ds.map (subD a x))
  | .box => .box
def subSto (a : Addr) (x : D) (O : Sto) : Sto := O.map fun q => (q.1, subCell a x q.2)
def subSl (a : Addr) (x : D) (Δ : Sl) : Sl := Δ.map (Option.map (subD a x))
section
variable {g : Gm} {F : Hp} {a : Addr} {x : D}
theorem Rep.subst (hx : Rep g F x (.ref a)) {d : D} {v : V} (h : Rep g F d v) : Rep g F (subD a x d) v := by
  cases d with
  | ptr b =>
    simp only [subD]
    split
    · rename_i e
      subst e
      rw [Rep.ptr_iff.mp h]
      exact hx
    · exact h
  | _ => exact h
theorem Reps.subst (hx : Rep g F x (.ref a)) : ∀ {ds : List D} {vs : List V}, Reps g F ds vs → Reps g F (ds.map (subD a x)) vs
  | [], vs, h => h
  | d :: ds, vs, h => by
    obtain ⟨v, r, rfl, h1, h2⟩ := Reps.cons_iff.mp h
    exact Reps.cons (Rep.subst hx h1) (Reps.subst hx h2)
theorem CRep.subst (hx : Rep g F x (.ref a)) {c : Cell} {o : HO} (h : CRep g F c o) : CRep g F (subCell a x c) o := by
  cases c with
  | lst ds => cases o <;> first | exact Reps.subst hx (show Reps g F ds _ from h) | exact h.elim
  | ins c fs ds =>
    cases o with
    | ins C dx vfs =>
      obtain ⟨h1, h2, vs, h3, h4⟩ := h
      exact ⟨h1, by rw [List.length_map]; exact h2, vs, h3, Reps.subst hx h4⟩
    | _ => exact h.elim
  | dic ks ds =>
    cases o with
    | dK kvs =>
      obtain ⟨h2, vs, h3, h4⟩ := h
      exact ⟨by rw [List.length_map]; exact h2, vs, h3, Reps.subst hx h4⟩
    | _ => exact h.elim
  | box => exact h
theorem SRel.subst {σ : St} {Δ : Sl} (hx : Rep g F x (.ref a)) (h : SRel g F σ Δ) : SRel g F σ (subSl a x Δ) := by
  refine ⟨by unfold subSl; rw [List.length_map]; exact h.1, fun i d q => ?_⟩
  unfold subSl at q
  rw [List.getElem?_map] at q
  cases e : Δ[i]? with
  | none => rw [e] at q; cases q
  | some o =>
    cases o with
    | none => rw [e] at q; cases q
    | some d' =>
      rw [e] at q
      cases q
      obtain ⟨v, h1, h2⟩ := h.2 i d' e
      exact ⟨v, h1, Rep.subst hx h2⟩
theorem Wd.subst {O : Sto} {H : Hp} (hx : Rep g F x (.ref a)) (w : Wd g F O H) : Wd g F (subSto a x O) H := by
  refine ⟨w.same, ?_, fun q hq => ?_⟩
  · have e : (subSto a x O).map (·.1) = O.map (·.1) := by unfold subSto; rw [List.map_map]; rfl
    rw [e]
    exact w.nd
  · unfold subSto at hq
    obtain ⟨q', h1, rfl⟩ := List.mem_map.mp hq
    obtain ⟨h2, o, h3, h4⟩ := w.cel q' h1
    exact ⟨h2, o, h3, CRep.subst hx h4⟩
end
/-- behind the statement an owned thing is let go where it stands: in the cell at q -/
def meltK (K : Sl → Sto → Prop) : Sl → Sto → Prop := fun Δ O => ∃ a c x q cq, getC O a = some c ∧ frzD c = some x ∧ getC (delC O a) q = some cq ∧ K Δ (setC (delC O a) q (subCell a x cq))
def dMelt (T : DS) : DS := fun D Δ O => T { D with nx := meltK D.nx } Δ O
section
variable {g : Gm} {X : Cx} {W : WX} {st : Stmt} {T : DS}
theorem e_melt {En : DEnds} {Δ : Sl} {O : Sto} : dMelt T En Δ O = T { En with nx := meltK En.nx } Δ O := propext Iff.rfl
end
end G

set_option Elab.async false
set_option linter.all false
set_option maxRecDepth 100000
set_option maxHeartbeats 4000000
namespace G
open PySem L2
/-! ## f(*x, k = v) -/
section
open PySem.Calls PyProof.Rows
variable {M : Model} {A : Around} {E : Value → Shared → Prop} {s : Shared}
end
/-! ## a def with a star parameter and keyword-only ones -/
def FNV (g : Gm) (P : Program) (w : World) (K : PySem.W.Frag) (mg : Str → Option Value) (base : Heap) (k : Nat) (f : Addr) (ks : List Str) (S : DSp) : Prop :=
  ∀ (A : Around) (outer : List Env) (s : Shared) (H : Hp) (us ws : List Value) (vs zs : List V) (Q : VK) (E : XK), Room k A → Env0 P w K mg base A outer s H → Vals vs us → Vals zs ws → zs.length = ks.length → toSp g S (zs ++ vs) H Q E →
    codeAny (model P w) A (.call (.ref f) ⟨us, ks.zip ws⟩) (CR (L2.CX P w) outer P w H s Q E) s
theorem FNV.mono {g : Gm} {P : Program} {w : World} {K : PySem.W.Frag} {mg : Str → Option Value} {base : Heap} {j k : Nat} {f : Addr} {ks : List Str} {S : DSp} (h : FNV g P w K mg base j f ks S) (hj : j ≤ k) : FNV g P w K mg base k f ks S :=
  fun A outer s H us ws vs zs Q E hr => h A outer s H us ws vs zs Q E (hr.mono hj)
section
variable {g : Gm} {P : Program} {w : World} {K : PySem.W.Frag} {mg : Str → Option Value} {base : Heap} {x qual : Str} {st : Stmt} {f : Addr} {N ps ks : List Str} {pv kn : Str} {k n : Nat} {S : DSp} {T : DS} {oc dV kV doc pm cdv ct : Value} {od an : Option Addr} {osl : Array (Option Value)}
end
/-! ## a def with a default at its end -/
section
variable {g : Gm} {P : Program} {w : World} {K : PySem.W.Frag} {mg : Str → Option Value} {base : Heap} {x qual : Str} {st : Stmt} {f : Addr} {N ps ks : List Str} {pv kn : Str} {k n : Nat} {S : DSp} {T : DS} {oc dV kV doc pm cdv ct : Value} {od an : Option Addr} {osl : Array (Option Value)}
end
/-! ## cls(*x, k = v), C(x, .., k = v) -/
def dMakeCV (nk : Nat) (tab : List (Cl × DSp)) (Tf Ta : DE) (Rk : DA) : DE := fun Δ O P E => Tf Δ O (fun f O1 => match f with
  | .cls c => (match tabAt tab c with
    | some S => Ta Δ O1 (fun d O2 => Rk Δ O2 (fun es O3 => match seqOf O3 d with | some xs => es.length = nk ∧ mkK c (fun ds => S (es ++ ds)) xs O3 P E | none => False) E) E
    | none => False)
  | _ => False) E
def dMakeKV (cl : Cl) (nk : Nat) (S : DSp) (R Rk : DA) : DE := fun Δ O P E => R Δ O (fun ds O1 => Rk Δ O1 (fun es O2 => es.length = nk ∧ mkK cl (fun ds => S (es ++ ds)) ds O2 P E) E) E
section
variable {g : Gm} {X : Cx} {W : WX} {pos pos' p p2 : Pos} {a b c e : Expr} {es : List Expr} {R Rk : DA} {Ta Tb Tf : DE} {k j nk : Nat} {x : Str} {tab : List (Cl × DSp)} {kws : List Keyword} {ks : List Str} {S : DSp} {f : Addr}
end
section
variable {Δ : Sl} {O : Sto} {P : KD} {E : KX} {Ta Tf : DE} {R Rk : DA} {nk : Nat} {tab : List (Cl × DSp)} {S : DSp} {cl : Cl}
theorem e_makeKV : dMakeKV cl nk S R Rk Δ O P E = R Δ O (fun ds O1 => Rk Δ O1 (fun es O2 => es.length = nk ∧ mkK cl (fun ds => S (es ++ ds)) ds O2 P E) E) E := propext Iff.rfl
theorem e_makeCV : dMakeCV nk tab Tf Ta Rk Δ O P E = Tf Δ O (fun f O1 => match f with
  | .cls c => (match tabAt tab c with
    | some S => Ta Δ O1 (fun d O2 => Rk Δ O2 (fun es O3 => match seqOf O3 d with | some xs => es.length = nk ∧ mkK c (fun ds => S (es ++ ds)) xs O3 P E | none => False) E) E
    | none => False)
  | _ => False) E := propext Iff.rfl
end
section
variable {g : Gm} {P : Program} {w : World} {K : PySem.W.Frag} {mg : Str → Option Value} {base : Heap} {ks : List Str}
end
end G

set_option Elab.async false
set_option linter.all false
set_option maxRecDepth 100000
set_option maxHeartbeats 4000000
namespace G
open PySem L2
/-! ## x not in an own thing -/
section
variable {g : Gm} {X : Cx} {W : WX} {pos pos' p apos : Pos} {a b c o : Expr} {es : List Expr} {Ta Tb : DE} {R : DA} {k : Nat} {f : Addr} {S : DSp} {x m : Str} {tab : List (Cl × DSp)}
theorem e_notInOwn {Δ : Sl} {O : Sto} {P : KD} {E : KX} : dNotInOwn tab Ta Tb Δ O P E = Ta Δ O (fun x O1 => Tb Δ O1 (fun y O2 => match clsOf O2 y with
  | some c => (match tabAt tab c with | some S => S [y, x] O2 (boolK fun k O3 => P (.bl (!k)) O3) E | none => False)
  | none => False) E) E := propext Iff.rfl
end
/-! ## == of owned lists; an owned list(d) -/
section
variable {g : Gm} {X : Cx}
end
def fListDO : BC := fun ds O P => match ds with | [d] => (match dicOf O d with | some t => ∀ p, freshC O p → P (.ptr p) ((p, .lst (t.1.map kD)) :: O) | none => False) | _ => False
section
variable {g : Gm}
theorem f_listDO {O : Sto} {P : KD} {d : D} : fListDO [d] O P = (match dicOf O d with | some t => ∀ p, freshC O p → P (.ptr p) ((p, .lst (t.1.map kD)) :: O) | none => False) := propext Iff.rfl
end
/-! ## C.m() of a classmethod with no argument -/
section
variable {g : Gm} {X : Cx} {W : WX} {pos p apos : Pos} {k j : Nat} {S : DSp} {x m : Str}
end
end G

set_option Elab.async false
set_option linter.all false
set_option maxRecDepth 100000
set_option maxHeartbeats 4000000
namespace G
open PySem L2
/-! ## xs[::-1] of a list, tuple(xs), t + u, t[a:b] of tuples -/
def dRevL (T : DE) : DE := fun Δ O P E => T Δ O (fun d O1 => match lstOf O1 d with | some ds => P (.lst ds.reverse) O1 | none => False) E
section
variable {g : Gm} {X : Cx} {W : WX} {pos pos' p : Pos} {a b c : Expr} {Ta Tb : DE}
end
theorem e_revL {Ta : DE} {Δ : Sl} {O : Sto} {P : KD} {E : KX} : dRevL Ta Δ O P E = Ta Δ O (fun d O1 => match lstOf O1 d with | some ds => P (.lst ds.reverse) O1 | none => False) E := propext Iff.rfl
def fTup : BC := fun ds O P => match ds with | [d] => (match d with | .tup es => P (.tup es) O | _ => match lstOf O d with | some es => P (.tup es) O | none => False) | _ => False
section
variable {g : Gm} {X : Cx}
end
theorem f_tupL {l : List D} {O : Sto} {P : KD} : fTup [.lst l] O P = P (.tup l) O := propext Iff.rfl
theorem f_tupT {l : List D} {O : Sto} {P : KD} : fTup [.tup l] O P = P (.tup l) O := propext Iff.rfl
def fAddT : B2 := fun x y O P => match x, y with | .tup xs, .tup ys => xs.length + ys.length ≤ sizeLine ∧ P (.tup (xs ++ ys)) O | _, _ => False
theorem f_addT {xs ys : List D} {O : Sto} {P : KD} : fAddT (.tup xs) (.tup ys) O P = (xs.length + ys.length ≤ sizeLine ∧ P (.tup (xs ++ ys)) O) := propext Iff.rfl
section
variable {g : Gm} {X : Cx}
end
def dSliceT (T : DE) (L U : DO) : DE := fun Δ O P E => T Δ O (fun d O1 => L Δ O1 (fun l O2 => U Δ O2 (fun u O3 => match d with
  | .tup ds => P (.tup (cutD ds l u)) O3
  | _ => False) E) E) E
section
variable {g : Gm} {X : Cx} {W : WX} {pos pos' p : Pos} {a b c : Expr} {Ta Tb : DE}
end
theorem e_sliceT {Ta : DE} {L U : DO} {Δ : Sl} {O : Sto} {P : KD} {E : KX} : dSliceT Ta L U Δ O P E = Ta Δ O (fun d O1 => L Δ O1 (fun l O2 => U Δ O2 (fun u O3 => match d with
  | .tup ds => P (.tup (cutD ds l u)) O3
  | _ => False) E) E) E := propext Iff.rfl
/-! ## data with owned lists within: ==, in -/
mutual
/-- the plain data that d stands for, if the owned lists are read as they are now -/
inductive IsPy (O : Sto) : D → PyData → Prop
  | non : IsPy O .non .none
  | bl (b : Bool) : IsPy O (.bl b) (.bool b)
  | int (i : Int) : IsPy O (.int i) (.int i)
  | str (x : Str) : IsPy O (.str x) (.str x)
  | lst {ds : List D} {xs : List PyData} : IsPys O ds xs → IsPy O (.lst ds) (.list xs)
  | tup {ds : List D} {xs : List PyData} : IsPys O ds xs → IsPy O (.tup ds) (.tuple xs)
  | ptr {a : Addr} {ds : List D} {xs : List PyData} : getC O a = some (.lst ds) → IsPys O ds xs → IsPy O (.ptr a) (.list xs)
inductive IsPys (O : Sto) : List D → List PyData → Prop
  | nil : IsPys O [] []
  | cons {d : D} {ds : List D} {x : PyData} {xs : List PyData} : IsPy O d x → IsPys O ds xs → IsPys O (d :: ds) (x :: xs)
end
section
variable {g : Gm} {F : Hp} {O : Sto} {H : Hp}
end
section
variable {g : Gm} {X : Cx}
end
/-! ## the store in another order -/
def dPerm (T : DE) : DE := fun Δ O P E => T Δ O (fun d O1 => ∃ O2, O2.Perm O1 ∧ P d O2) E
theorem e_perm {Ta : DE} {Δ : Sl} {O : Sto} {P : KD} {E : KX} : dPerm Ta Δ O P E = Ta Δ O (fun d O1 => ∃ O2, O2.Perm O1 ∧ P d O2) E := propext Iff.rfl
/-! ## a walk over a list that is owned: it must stay as it is -/
def forC (C : Sto → Prop) (Gd : DG) (B : DS) (E : DEnds) : List D → Sl → Sto → Prop
  | [], Δ, O => C O ∧ E.nx Δ O
  | d :: r, Δ, O => C O ∧ Gd d Δ fun Δ' => B { E with nx := forC C Gd B E r, ct := forC C Gd B E r, bk := E.nx } Δ' O
def heldL (p : Addr) (ds : List D) (O : Sto) : Prop := getC O p = some (.lst ds)
/-- for x in xs, xs an owned list -/
def dForP (T : DE) (G : DG) (B : DS) : DS := fun D Δ O => T Δ O (fun d O1 => match d with
  | .ptr p => (match getC O1 p with | some (.lst ds) => forC (heldL p ds) G B D ds Δ O1 | _ => False)
  | _ => False) (fun x O1 => D.xc x Δ O1)
section
variable {g : Gm} {X : Cx} {W : WX} {pos pos' : Pos} {a b c tg : Expr} {Ta Tb : DE}
end
theorem e_forP {Ta : DE} {Gd : DG} {B : DS} {En : DEnds} {Δ : Sl} {O : Sto} : dForP Ta Gd B En Δ O = Ta Δ O (fun d O1 => match d with
  | .ptr p => (match getC O1 p with | some (.lst ds) => forC (heldL p ds) Gd B En ds Δ O1 | _ => False)
  | _ => False) (fun x O1 => En.xc x Δ O1) := propext Iff.rfl
/-! ### a comprehension over an owned list -/
def lcC (C : Sto → Prop) (Gd : DG) (Tt : DT) (Te : DE) (p : Addr) (P : List D → Sto → Prop) : List D → List D → Sl → Sto → Prop
  | [], acc, _, O => C ((p, .lst acc) :: O) ∧ P acc O
  | x :: r, acc, Δ, O => C ((p, .lst acc) :: O) ∧ Gd x Δ fun Δ' => Tt Δ' ((p, .lst acc) :: O) (fun k O1 => if k = true
      then Te Δ' O1 (fun y O2 => ∃ O3, O2 = (p, .lst acc) :: O3 ∧ lcC C Gd Tt Te p P r (acc ++ [y]) Δ O3) (fun _ _ => False)
      else ∃ O3, O1 = (p, .lst acc) :: O3 ∧ lcC C Gd Tt Te p P r acc Δ O3) (fun _ _ => False)
def dLcP (T : DE) (Gd : DG) (Tt : DT) (Te : DE) (vs : List Nat) : DE := fun Δ O P E => T Δ O (fun d O1 => match d with
  | .ptr q => (match getC O1 q with | some (.lst ds) => ds.length ≤ 1000000 ∧ ∀ p, freshC O1 p → lcC (heldL q ds) Gd Tt Te p (fun acc O2 => P (.lst acc) O2) ds [] (wipeD Δ vs) O1 | _ => False)
  | _ => False) E
section
variable {g : Gm} {X : Cx} {W : WX} {pos pos' : Pos} {a b c tg : Expr} {Ta Tb : DE} {tA tB : DT} {R : DA}
end
theorem e_lcP {Ta : DE} {Gd : DG} {Tt : DT} {Te : DE} {vs : List Nat} {Δ : Sl} {O : Sto} {P : KD} {E : KX} : dLcP Ta Gd Tt Te vs Δ O P E = Ta Δ O (fun d O1 => match d with
  | .ptr q => (match getC O1 q with | some (.lst ds) => ds.length ≤ 1000000 ∧ ∀ p, freshC O1 p → lcC (heldL q ds) Gd Tt Te p (fun acc O2 => P (.lst acc) O2) ds [] (wipeD Δ vs) O1 | _ => False)
  | _ => False) E := propext Iff.rfl
/-! ## C.m(.., k = v) of a classmethod -/
section
variable {g : Gm} {P : Program} {w : World} {K : PySem.W.Frag} {mg : Str → Option Value} {base : Heap} {k n : Nat} {f : Addr} {x qual : Str} {st : Stmt} {N ps ks : List Str} {idx : List Nat} {S : DSp} {T : DS} {oc kV doc pm cdv ct : Value} {od an : Option Addr} {osl : Array (Option Value)}
end
def dCMethK (c : Cl) (n m : Nat) (idx : List Nat) (S : DSp) (R Rk : DA) : DE := fun Δ O P E => R Δ O (fun ds O1 => Rk Δ O1 (fun es O2 => ds.length = n ∧ es.length = m ∧ S (.cls c :: ds ++ pick idx es) O2 P E) E) E
theorem e_cmethK {c : Cl} {n m : Nat} {idx : List Nat} {S : DSp} {R Rk : DA} {Δ : Sl} {O : Sto} {P : KD} {E : KX} : dCMethK c n m idx S R Rk Δ O P E = R Δ O (fun ds O1 => Rk Δ O1 (fun es O2 => ds.length = n ∧ es.length = m ∧ S (.cls c :: ds ++ pick idx es) O2 P E) E) E := propext Iff.rfl
section
variable {g : Gm} {X : Cx} {W : WX} {pos pos' p apos kpos : Pos} {a b c o e : Expr} {es : List Expr} {R Rk : DA} {k j n : Nat} {f : Addr} {S : DSp} {x m : Str} {kws : List Keyword} {ks : List Str} {idx : List Nat}
end
theorem f_listSL {ds : List D} {O : Sto} {P : KD} : fListS [.lst ds] O P = P (.lst ds) O := propext Iff.rfl
theorem f_listST {ds : List D} {O : Sto} {P : KD} : fListS [.tup ds] O P = P (.lst ds) O := propext Iff.rfl
end G

set_option Elab.async false
set_option linter.all false
set_option maxRecDepth 100000
set_option maxHeartbeats 4000000
namespace G
open PySem L2 PySem.Spec PyProof.Rows
/-! ## sorted(zip(pairs, numbers)) -/
abbrev T3 := (Int × Int) × Int
/-- v stands for ((x, y), z) -/
def IsTri (h : Heap) (v : Value) (k : T3) : Prop := ∃ (a b : Addr) (o o2 : Obj) (t t1 t2 : Tok) (n m : Nat), v = .ref a ∧ h.get? a = some o ∧ o.cls = .type "tuple" ∧ o.data = .seq #[.ref b, .int k.2 t] n ∧
  h.get? b = some o2 ∧ o2.cls = .type "tuple" ∧ o2.data = .seq #[.int k.1.1 t1, .int k.1.2 t2] m
theorem IsTri.keeps {h h' : Heap} {v : Value} {k : T3} (x : IsTri h v k) (e : ∀ b o, h.get? b = some o → o.cls = .type "tuple" → h'.get? b = some o) : IsTri h' v k := by
  obtain ⟨a, b, o, o2, t, t1, t2, n, m, h1, h2, h3, h4, h5, h6, h7⟩ := x
  exact ⟨a, b, o, o2, t, t1, t2, n, m, h1, e _ _ h2 h3, h3, h4, e _ _ h5 h6, h6, h7⟩
section
variable {prog : Program} {w : World} {A : Around} {E : Value → Shared → Prop} {s : Shared}
end
/-! ### the pairs of zip, gathered -/
structure ZMade (xs ys : Array Value) (lo : Addr) (h : Heap) (as : List Addr) : Prop where
  rise : as.Pairwise (· < ·)
  above : ∀ a ∈ as, lo < a
  pairs : ∀ (j : Nat) (a : Addr), as[j]? = some a → ∃ x y, xs[j]? = some x ∧ ys[j]? = some y ∧ IsPair h a x y
theorem ZMade.there {xs ys : Array Value} {lo : Addr} {h : Heap} {as : List Addr} (g : ZMade xs ys lo h as) {a : Addr} (ha : a ∈ as) : a < h.objs.size := by
  obtain ⟨j, hj⟩ := List.mem_iff_getElem?.mp ha
  obtain ⟨_, _, _, _, e⟩ := g.pairs j a hj
  exact Heap.lt_size e
/-- where the zip stands behind i pairs; S: the list that is filled -/
structure ZSt (xs ys : Array Value) (z TI TO i1 i2 l1 l2 S : Addr) (i : Nat) (h : Heap) : Prop where
  ti : IsPair h TI (.ref i1) (.ref i2)
  a1 : h.IsListIter i1 l1 i
  a2 : h.IsListIter i2 l2 i
  b1 : h.IsList l1 xs
  b2 : h.IsList l2 ys
  zz : (IsZip h z TI TO .none ∧ ∃ a b, IsPair h TO a b) ∨ ∃ T f oT, IsZipHeld h z TI TO T f ∧ h.get? T = some oT ∧ T ≠ z ∧ T ≠ i1 ∧ T ≠ i2 ∧ T ≠ S
structure ZOff (z TI TO i1 i2 l1 l2 S : Addr) : Prop where
  z : z ≠ S
  ti : TI ≠ S
  to : TO ≠ S
  i1 : i1 ≠ S
  i2 : i2 ≠ S
  l1 : l1 ≠ S
  l2 : l2 ≠ S
section
variable {prog : Program} {w : World} {A : Around} {E : Value → Shared → Prop} {s : Shared} {xs ys : Array Value} {z TI TO i1 i2 l1 l2 S : Addr}
theorem ZSt.frame {i : Nat} {h h' : Heap} (st : ZSt xs ys z TI TO i1 i2 l1 l2 S i h) (d : ZOff z TI TO i1 i2 l1 l2 S) (hk : ∀ b o, b ≠ S → h.get? b = some o → h'.get? b = some o) : ZSt xs ys z TI TO i1 i2 l1 l2 S i h' := by
  refine ⟨hk _ _ d.ti st.ti, st.a1.at fun o e => hk _ o d.i1 e, st.a2.at fun o e => hk _ o d.i2 e, st.b1.at fun o e => hk _ o d.l1 e, st.b2.at fun o e => hk _ o d.l2 e, ?_⟩
  rcases st.zz with ⟨hz, a, b, hTO⟩ | ⟨T, f, oT, hz, hT, r1, r2, r3, r4⟩
  · exact .inl ⟨hk _ _ d.z hz, a, b, hk _ _ d.to hTO⟩
  · exact .inr ⟨T, f, oT, hk _ _ d.z hz, hk _ _ r4 hT, r1, r2, r3, r4⟩
theorem ZSt.next {i : Nat} {Q : Option Value → Shared → Prop} (D : ZipApart z TI TO i1 i2 l1 l2) (d : ZOff z TI TO i1 i2 l1 l2 S) (st : ZSt xs ys z TI TO i1 i2 l1 l2 S i s.heap) (hS : S < s.heap.objs.size) {x y : Value} (ex : xs[i]? = some x) (ey : ys[i]? = some y)
    (hQ : ∀ h', ZSt xs ys z TI TO i1 i2 l1 l2 S (i + 1) h' → IsPair h' s.heap.objs.size x y → (∀ c o, c ≠ z → c ≠ TO → c ≠ i1 → c ≠ i2 → s.heap.get? c = some o → h'.get? c = some o) → Q (some (.ref s.heap.objs.size)) { s with heap := h' }) :
    wpAny (model prog w) A (pyNext (.ref z)) Q E s := by
  have lt : ∀ {c o}, s.heap.get? c = some o → s.heap.objs.size ≠ c := fun e => Nat.ne_of_gt (Heap.lt_size e)
  have n1 : s.heap.objs.size ≠ i1 := let ⟨_, e, _⟩ := st.a1; lt e
  have n2 : s.heap.objs.size ≠ i2 := let ⟨_, e, _⟩ := st.a2; lt e
  rcases st.zz with ⟨hz, a, b, hTO⟩ | ⟨T, f, oT, hz, hT, r1, r2, r3, r4⟩
  · refine wpAny_pyNext_zip_item D hz st.ti hTO st.a1 st.a2 st.b1 st.b2 ex ey fun h' a1 a2 a3 a4 a5 a6 hk => ?_
    exact hQ h' ⟨hk _ _ D.TIz D.TITO D.TIi1 D.TIi2 st.ti, a3, a4, st.b1.at fun o e => hk _ o D.l1z D.l1TO D.l1i1 D.l1i2 e, st.b2.at fun o e => hk _ o D.l2z D.l2TO D.l2i1 D.l2i2 e, .inr ⟨s.heap.objs.size, false, _, a1, a5, lt hz, n1, n2, Nat.ne_of_gt hS⟩⟩ a5 hk
  · refine wpAny_pyNext_zip_item_held D hz hT st.ti st.a1 st.a2 st.b1 st.b2 ex ey fun h' a1 a3 a4 a5 a6 hk => ?_
    exact hQ h' ⟨hk _ _ D.TIz D.TIi1 D.TIi2 st.ti, a3, a4, st.b1.at fun o e => hk _ o D.l1z D.l1i1 D.l1i2 e, st.b2.at fun o e => hk _ o D.l2z D.l2i1 D.l2i2 e, .inr ⟨T, true, _, a1, hk _ _ r1 r2 r3 hT, r1, r2, r3, r4⟩⟩ a5 fun c o q1 _ q3 q4 e => hk c o q1 q3 q4 e
theorem ZSt.done {i : Nat} {Q : Option Value → Shared → Prop} (hh : A.handled = none) (D : ZipApart z TI TO i1 i2 l1 l2) (st : ZSt xs ys z TI TO i1 i2 l1 l2 S i s.heap) (he : xs[i]? = none ∨ ys[i]? = none)
    (hQ : ∀ h', (∀ c o, c ≠ z → c ≠ TO → c ≠ i1 → c ≠ i2 → s.heap.get? c = some o → h'.get? c = some o) → Q none { s with heap := h' }) : wpAny (model prog w) A (pyNext (.ref z)) Q E s := by
  rcases st.zz with ⟨hz, a, b, hTO⟩ | ⟨T, f, oT, hz, hT, r1, r2, r3, r4⟩
  · exact wpAny_pyNext_zip_end hh D hz st.ti hTO st.a1 st.a2 st.b1 st.b2 he hQ
  · exact wpAny_pyNext_zip_end_held hh D hz hT st.ti st.a1 st.a2 st.b1 st.b2 he fun h' hk => hQ h' fun c o q1 _ q3 q4 e => hk c o q1 q3 q4 e
end
/-! ### the sort of the triples, as plain data -/
def lexTe (a b : T3) : Bool := decide (a.1.1 < b.1.1 ∨ (a.1.1 = b.1.1 ∧ (a.1.2 < b.1.2 ∨ (a.1.2 = b.1.2 ∧ a.2 ≤ b.2))))
def srtT (xs : List T3) : List T3 := xs.mergeSort lexTe
abbrev triD (x : T3) : D := .tup [pr x.1, .int x.2]
def dSortZ (R : DA) : DE := fun Δ O P E => R Δ O (fun ds O1 => ∃ (vs : List (Int × Int)) (ws : List Int), ds = [.lst (vs.map pr), .lst (ws.map D.int)] ∧ vs.length = ws.length ∧ vs.length ≤ 1000 ∧ P (.lst ((srtT (vs.zip ws)).map triD)) O1) E
theorem e_sortZ {R : DA} {Δ : Sl} {O : Sto} {P : KD} {E : KX} : dSortZ R Δ O P E = R Δ O (fun ds O1 => ∃ (vs : List (Int × Int)) (ws : List Int), ds = [.lst (vs.map pr), .lst (ws.map D.int)] ∧ vs.length = ws.length ∧ vs.length ≤ 1000 ∧ P (.lst ((srtT (vs.zip ws)).map triD)) O1) E := propext Iff.rfl
section
variable {g : Gm} {X : Cx} {W : WX} {pos pos2 p p2 : Pos} {a b : Expr} {R : DA}
end
end G

set_option Elab.async false
set_option linter.all false
set_option maxRecDepth 100000
set_option maxHeartbeats 4000000
/-! ## sum of a tuple of whole numbers -/
namespace PySem
section
variable {prog : Program} {w : World} {A : Around} {E : Value → Shared → Prop} {s : Shared} {l : Addr} {xs : Array (Int × Tok)}
end
end PySem
namespace G
open PySem PyProof.Rows L2
def fSumT : BC := fun ds O P => match ds with | [.tup es] => (match intsOf es with | some ns => P (.int ns.sum) O | none => False) | _ => False
theorem f_sumT2 {O : Sto} {P : KD} {a b : Int} : fSumT [.tup [.int a, .int b]] O P = P (.int (a + b)) O := by
  show P (.int ([a, b].sum)) O = _
  rw [show [a, b].sum = a + b by simp]
end G

set_option Elab.async false
set_option linter.all false
set_option maxRecDepth 100000
set_option maxHeartbeats 4000000
namespace G
open PySem L2
/-! ## d.pop(k), d.pop(k, x) of an owned dict; == and != of owned dicts that are equal -/
def dropKs (k : Key) : List Key → List Key
  | [] => []
  | h :: ks => if h = k then dropKs k ks else h :: dropKs k ks
def dropKd (k : Key) : List Key → List D → List D
  | h :: ks, d :: ds => if h = k then dropKd k ks ds else d :: dropKd k ks ds
  | _, _ => []
section
variable {g : Gm}
end
def dPop1 (Td Tk : DE) : DE := fun Δ O P E => Td Δ O (fun d O1 => match dicOf O1 d with
  | some _ => Tk Δ O1 (fun y O2 => match d, keyD y with
    | .ptr q, some k => (match getC O2 q with
      | some (.dic ks ds) => (match getK k ks ds with | some e => P e (setC O2 q (.dic (dropKs k ks) (dropKd k ks ds))) | none => False)
      | _ => False)
    | _, _ => False) E
  | none => False) E
def dPop2 (Td Tk Tx : DE) : DE := fun Δ O P E => Td Δ O (fun d O1 => match dicOf O1 d with
  | some _ => Tk Δ O1 (fun y O2 => Tx Δ O2 (fun x O3 => match d, keyD y with
    | .ptr q, some k => (match getC O3 q with
      | some (.dic ks ds) => (match getK k ks ds with | some e => P e (setC O3 q (.dic (dropKs k ks) (dropKd k ks ds))) | none => P x O3)
      | _ => False)
    | _, _ => False) E) E
  | none => False) E
section
variable {g : Gm} {X : Cx} {W : WX} {pos pos' p p2 apos cpos : Pos} {a b c e o i f value : Expr} {Ta Tb Tc Td Tk Tx Tv : DE}
end
section
variable {g : Gm}
end
section
variable {Ta Tb Td Tk Tx : DE} {Δ : Sl} {O : Sto} {P : KD} {E : KX}
theorem e_pop1 : dPop1 Td Tk Δ O P E = Td Δ O (fun d O1 => match dicOf O1 d with
  | some _ => Tk Δ O1 (fun y O2 => match d, keyD y with
    | .ptr q, some k => (match getC O2 q with
      | some (.dic ks ds) => (match getK k ks ds with | some e => P e (setC O2 q (.dic (dropKs k ks) (dropKd k ks ds))) | none => False)
      | _ => False)
    | _, _ => False) E
  | none => False) E := propext Iff.rfl
theorem e_pop2 : dPop2 Td Tk Tx Δ O P E = Td Δ O (fun d O1 => match dicOf O1 d with
  | some _ => Tk Δ O1 (fun y O2 => Tx Δ O2 (fun x O3 => match d, keyD y with
    | .ptr q, some k => (match getC O3 q with
      | some (.dic ks ds) => (match getK k ks ds with | some e => P e (setC O3 q (.dic (dropKs k ks) (dropKd k ks ds))) | none => P x O3)
      | _ => False)
    | _, _ => False) E) E
  | none => False) E := propext Iff.rfl
end
end G

set_option Elab.async false
set_option linter.all false
set_option maxRecDepth 100000
set_option maxHeartbeats 4000000
namespace G
open PySem L2
/-! ## a new list that the caller takes as it likes: owned or frozen -/
def dMay (T : DE) : DE := fun Δ O P E => T Δ O (fun d O1 => match d with
  | .ptr a => P (.ptr a) O1 ∨ (match getC O1 a with | some (.lst l) => P (.lst l) (delC O1 a) | _ => False)
  | _ => False) E
def dLc2O (R : DA) (Gd : DG) (Tt : DT) (R1 : DA) (Gd1 : DG) (Tt1 : DT) (Te : DE) (vs vs1 : List Nat) : DE := fun Δ O P E => R Δ O (fun ds O1 => ∀ p, freshC O1 p → lc2D Gd Tt R1 Gd1 Tt1 Te vs1 p (fun acc O2 => P (.ptr p) ((p, .lst acc) :: O2)) ds [] (wipeD Δ vs) O1) E
section
variable {g : Gm} {X : Cx} {W W0 : WX} {pos pos' : Pos} {a tg tg1 : Expr} {Ta : DE} {R R1 : DA}
end
section
variable {Δ : Sl} {O : Sto} {P : KD} {E : KX} {R R1 : DA} {Gd Gd1 : DG} {Tt Tt1 : DT} {Ta Te : DE} {vs vs1 : List Nat} {p : Addr} {Q : List D → Sto → Prop}
theorem e_lc2O : dLc2O R Gd Tt R1 Gd1 Tt1 Te vs vs1 Δ O P E = R Δ O (fun ds O1 => ∀ p, freshC O1 p → lc2D Gd Tt R1 Gd1 Tt1 Te vs1 p (fun acc O2 => P (.ptr p) ((p, .lst acc) :: O2)) ds [] (wipeD Δ vs) O1) E := propext Iff.rfl
theorem e_may : dMay Ta Δ O P E = Ta Δ O (fun d O1 => match d with
  | .ptr a => P (.ptr a) O1 ∨ (match getC O1 a with | some (.lst l) => P (.lst l) (delC O1 a) | _ => False)
  | _ => False) E := propext Iff.rfl
end
end G

set_option Elab.async false
set_option linter.all false
set_option maxRecDepth 100000
set_option maxHeartbeats 4000000
namespace G
open PySem L2
open Sem (wp)
/-! ## what is gone stays gone -/
structure Dead (h h' : Heap) : Prop where
  sz : h.objs.size ≤ h'.objs.size
  no : ∀ a, a < h.objs.size → h.get? a = none → h'.get? a = none
theorem Dead.refl (h : Heap) : Dead h h := ⟨Nat.le_refl _, fun _ _ q => q⟩
theorem Dead.trans {a b c : Heap} (x : Dead a b) (y : Dead b c) : Dead a c := ⟨Nat.le_trans x.sz y.sz, fun i hi q => y.no i (Nat.lt_of_lt_of_le hi x.sz) (x.no i hi q)⟩
/-! ## an own __iter__ that hands out the iterator of a list in a field -/
section
variable {g : Gm} {P : Program} {w : World} {K : PySem.W.Frag} {mg : Str → Option Value} {base : Heap}
end
def dItO (cl : Cl) (f : Fd) (T : DE) : DA := fun Δ O P E => T Δ O (fun d O1 => match objOf O1 d with
  | some t => t.1 = cl ∧ (match getF f t.2.1 t.2.2 with | some (.lst ds) => P ds O1 | _ => False)
  | none => False) E
section
variable {g : Gm} {X : Cx} {W : WX} {a tg : Expr} {Ta : DE} {cl : Cl} {x : Fd} {k j : Nat}
end
section
variable {Δ : Sl} {O : Sto} {P : List D → Sto → Prop} {E : KX} {cl : Cl} {f : Fd} {T : DE}
theorem e_itO : dItO cl f T Δ O P E = T Δ O (fun d O1 => match objOf O1 d with
  | some t => t.1 = cl ∧ (match getF f t.2.1 t.2.2 with | some (.lst ds) => P ds O1 | _ => False)
  | none => False) E := propext Iff.rfl
end
end G

set_option Elab.async false
set_option linter.all false
set_option maxRecDepth 100000
set_option maxHeartbeats 4000000
namespace G
open PySem L2
/-! ## an owned dict is locked while an expression is read -/
section
variable {g : Gm} {F : Hp} {p : Addr} {od : Obj} {kvs : List (Key × V)}
end
section
variable {g : Gm} {X : Cx} {W : WX} {a : Expr} {T : DE}
end
section
variable {O : Sto} {P : KD} {E : KX} {T : DE}
end
end G

set_option Elab.async false
set_option linter.all false
set_option maxRecDepth 100000
set_option maxHeartbeats 4000000
namespace G
open PySem L2
/-! ## x is True, x is not True -/
def fIsB : B2 := fun x y O P => match x, y with | .bl a, .bl b => P (.bl (decide (a = b))) O | _, _ => False
def fNotB : B2 := fun x y O P => match x, y with | .bl a, .bl b => P (.bl (!decide (a = b))) O | _, _ => False
section
variable {O : Sto} {P : KD} {a b : Bool}
theorem f_isB : fIsB (.bl a) (.bl b) O P = P (.bl (decide (a = b))) O := propext Iff.rfl
theorem f_notB : fNotB (.bl a) (.bl b) O P = P (.bl (!decide (a = b))) O := propext Iff.rfl
end
end G
namespace G
open PySem L2 PySem.Spec
/-! ## sorted texts -/
open PyProof.Rows PySem.Spec in
def leS (a b : Str) : Bool := !ltCps b.cps.toList a.cps.toList
def srtS (xs : List Str) : List Str := xs.mergeSort leS
open PyProof.Rows PySem.Spec in
open PyProof.Rows PySem.Spec in
def fSortS : BC := fun ds O P => match ds with | [d] => (match lstOf O d with | some es => (match strsOf es with | some ns => ns.length < 64 ∧ P (.lst ((srtS ns).map D.str)) O | none => False) | none => False) | _ => False
section
variable {g : Gm}
theorem f_sortS {O : Sto} {P : KD} {ns : List Str} : fSortS [.lst (ns.map D.str)] O P = (ns.length < 64 ∧ P (.lst ((srtS ns).map D.str)) O) := by simp only [fSortS, lstOf, strsOf_map]
end
end G

set_option Elab.async false
set_option linter.all false
set_option maxRecDepth 100000
set_option maxHeartbeats 4000000
namespace G
open PySem L2
open Sem (wp)
/-! ## sleeping generators stay as they are: none of them can be gone on with -/
def slp : GenState → Bool
  | .suspended .. => true
  | _ => false
/-- the same to see, but it can't be gone on with -/
def pz : GenState → GenState
  | .suspended _ l c p fs cl => .suspended (fun _ => .unsupported "") l c p fs cl
  | x => x
theorem pz_bare (x : GenState) : (pz x).bare = x.bare := by cases x <;> rfl
/-- asleep at i, in G0 -/
def Asl (G0 : Array GenState) (i : Nat) : Prop := ∃ x, G0[i]? = some x ∧ slp x = true
structure RelP (G0 G1 G2 : Array GenState) : Prop where
  size : G1.size = G2.size
  «at» : ∀ (i : Nat) (x : GenState), G0[i]? = some x → slp x = true → G1[i]? = some (pz x) ∧ G2[i]? = some x
  ot : ∀ i : Nat, ¬ Asl G0 i → G1[i]? = G2[i]?
/-- what sleeps anew has no generator's frame -/
def NGs (G0 G1 : Array GenState) : Prop := ∀ (i : Nat) (k : Resume → Sem PySem.Fin) (l : List Value) (c : Code) (p : Pos) (fs : List Frame) (cl : Bool), ¬ Asl G0 i → G1[i]? = some (.suspended k l c p fs cl) → splitAtGen fs = none
theorem RelP.lt {G0 G1 G2 : Array GenState} (h : RelP G0 G1 G2) {i : Nat} (a : Asl G0 i) : i < G1.size := by
  obtain ⟨x, h1, h2⟩ := a
  exact (Array.getElem?_eq_some_iff.mp (h.at i x h1 h2).1).1
theorem RelP.set {G0 G1 G2 : Array GenState} (h : RelP G0 G1 G2) {g : Nat} (x : GenState) (n : ¬ Asl G0 g) : RelP G0 (G1.setIfInBounds g x) (G2.setIfInBounds g x) := by
  refine ⟨by simp only [Array.size_setIfInBounds]; exact h.size, fun i y h1 h2 => ?_, fun i hi => ?_⟩
  · have ne : g ≠ i := fun z => n (by rw [z]; exact ⟨y, h1, h2⟩)
    rw [Array.getElem?_setIfInBounds_ne ne, Array.getElem?_setIfInBounds_ne ne]
    exact h.at i y h1 h2
  · by_cases e : g = i
    · subst e
      rw [Array.getElem?_setIfInBounds_self, Array.getElem?_setIfInBounds_self, h.size]
    · rw [Array.getElem?_setIfInBounds_ne e, Array.getElem?_setIfInBounds_ne e]
      exact h.ot i hi
theorem NGs.set {G0 G1 : Array GenState} (h : NGs G0 G1) {g : Nat} {x : GenState} (hx : ∀ k l c p fs cl, x = .suspended k l c p fs cl → splitAtGen fs = none) : NGs G0 (G1.setIfInBounds g x) := by
  intro i k l c p fs cl hi e
  by_cases z : g = i
  · subst z
    rw [Array.getElem?_setIfInBounds_self] at e
    split at e
    · cases e; exact hx _ _ _ _ _ _ rfl
    · cases e
  · rw [Array.getElem?_setIfInBounds_ne z] at e
    exact h i k l c p fs cl hi e
theorem RelP.push {G0 G1 G2 : Array GenState} (h : RelP G0 G1 G2) (x : GenState) : RelP G0 (G1.push x) (G2.push x) := by
  refine ⟨by simp only [Array.size_push]; rw [h.size], fun i y h1 h2 => ?_, fun i hi => ?_⟩
  · have l1 := h.lt ⟨y, h1, h2⟩
    have l2 : i < G2.size := by rw [← h.size]; exact l1
    rw [Array.getElem?_push, Array.getElem?_push, if_neg (Nat.ne_of_lt l1), if_neg (Nat.ne_of_lt l2)]
    exact h.at i y h1 h2
  · rw [Array.getElem?_push, Array.getElem?_push, h.size, h.ot i hi]
theorem NGs.push {G0 G1 : Array GenState} (h : NGs G0 G1) (c : Code) : NGs G0 (G1.push (.fresh c)) := by
  intro i k l c p fs cl hi e
  rw [Array.getElem?_push] at e
  split at e
  · cases e
  · exact h i k l c p fs cl hi e
/-- no generator's frame lies in the end -/
def eNG : End → Prop
  | .ret _ => True
  | .susp _ _ _ _ _ _ fs => splitAtGen fs = none
theorem eNG.gen {e : End} (h : eNG e) : ∀ k l c p fs cl, e.genState = .suspended k l c p fs cl → splitAtGen fs = none := by
  intro k l c p fs cl q
  cases e with
  | ret r => cases q
  | susp v g l0 k0 c0 p0 fs0 =>
    cases q
    exact h
end G

set_option Elab.async false
set_option linter.all false
set_option maxRecDepth 100000
set_option maxHeartbeats 4000000
namespace G
open PySem L2 PyProof.Rows
open Sem (wp)
theorem RelP.bare {G0 G1 G2 : Array GenState} (r : RelP G0 G1 G2) (h : AllBare G1) : AllBare G2 := by
  intro x hx
  obtain ⟨i, hi, e⟩ := Array.mem_iff_getElem.mp hx
  have q : G2[i]? = some x := by rw [Array.getElem?_eq_getElem hi, e]
  by_cases a : Asl G0 i
  · obtain ⟨y, h1, h2⟩ := a
    obtain ⟨e1, e2⟩ := r.at i y h1 h2
    rw [q] at e2
    cases e2
    rw [← pz_bare]
    exact h _ (Array.mem_of_getElem? e1)
  · rw [← r.ot i a] at q
    exact h x (Array.mem_of_getElem? q)
end G

set_option Elab.async false
set_option linter.all false
set_option maxRecDepth 100000
set_option maxHeartbeats 4000000
namespace G
open PySem L2
open Sem (wp)
/-! ## the heap below an address -/
def cutH (L : Nat) (h : Heap) : Heap := { h with objs := h.objs.take L }
def cutS (L : Nat) (s : Shared) : Shared := { s with heap := cutH L s.heap }
/-! ## a def's context, begun anew at a later state -/
section
variable {P : Program} {w : World} {K : PySem.W.Frag} {mg : Str → Option Value} {base : Heap} {N : List Str} {qual : Str} {sc : Scope} {f : Addr} {cd : Value} {A A' : Around} {outer outer' : List Env} {s1 s s' : Shared} {H1 H H' : Hp} {E E' : XK} {σ : L2.St} {pins pins' : List (Addr × Obj)}
end
/-! ## a run of a generator's code to its next halt -/
def Rt (M : Model) (A : Around) (Φ : End → Shared → Prop) (c : Code) (t : Sem PySem.Fin) (fs : List Frame) (s : Shared) : Prop := ∀ (Γ : Ctx) (p : Pos), Γ.code = c → Γ.Woken A → ∃ (e : End) (z : Shared), Runs M Γ p t fs s e z ∧ Φ e z
section
variable {M : Model} {A : Around} {Φ : End → Shared → Prop} {c : Code} {fs : List Frame} {s : Shared}
/-- the run of a generator in that state, once it is woken -/
def Rg (M : Model) (A : Around) (gs : GenState) (s : Shared) (Φ : End → Shared → Prop) : Prop := match gs with
  | .fresh c => Rt M A Φ c (M.den c) [] s
  | .suspended k _ c _ fs _ => Rt M A Φ c (k (.send .none)) fs s
  | _ => False
end
section
variable {P : Program} {w : World} {A : Around} {E : Value → Shared → Prop} {s : Shared}
end
end G

set_option Elab.async false
set_option linter.all false
set_option maxRecDepth 100000
set_option maxHeartbeats 4000000
namespace G
open PySem L2
open Sem (wp)
/-! ## the statements of a generator -/
section
variable {M : Model} {A : Around} {Φ : End → Shared → Prop} {c : Code} {fs : List Frame} {s : Shared} {env : Env} {K : Flow → Sem PySem.Fin} {J : Value → Sem PySem.Fin} {gd : Bool → Bool} {lv : List Value → List Value}
end
end G

set_option Elab.async false
set_option linter.all false
set_option maxRecDepth 100000
set_option maxHeartbeats 4000000
namespace G
open PySem L2 PyProof.Rows
open Sem (wp)
/-! ## generators: a loop whose turns end with a yield -/
/-- it is woken here -/
structure Wk (g : Gm) (P : Program) (w : World) (K : PySem.W.Frag) (mg : Str → Option Value) (base : Heap) (A : Around) (outer : List Env) (z : Addr → Option Obj) (F : Hp) (s : Shared) (H F' : Hp) (O : Sto) : Prop where
  e0 : Env0 P w K mg base A outer s H
  sm : Same F F'
  wd : Wd g F' O H
  zz : ∀ b o, z b = some o → s.heap.get? b = some o ∧ H b = none
/-- what a run of it does to all else -/
structure Eff (g : Gm) (P : Program) (w : World) (outer : List Env) (L : Nat) (s : Shared) (H F : Hp) (O : Sto) (s1 : Shared) (H1 F1 : Hp) : Prop where
  os : s1.os = s.os
  bare : AllBare s1.gens
  sm : Same F F1
  wd : Wd g F1 O H1
  un : Un (frs outer) (List.range' L (s.heap.objs.size - L)) H H1 s.heap s1.heap
  hok : HOk P w H1 s1.heap
def PhiS (g : Gm) (P : Program) (w : World) (K : PySem.W.Frag) (mg : Str → Option Value) (base : Heap) (A : Around) (outer : List Env) (L : Nat) (pins : List (Addr × Obj)) : List D → Shared → Hp → Hp → Sto → End → Shared → Prop
  | [], s, H, F, O => fun e s1 => e = .ret (.ok (.ret .none)) ∧ ∃ H1 F1, Eff g P w outer L s H F O s1 H1 F1
  | d :: r, s, H, F, O => fun e s1 => ∃ (v : Value) (u : V) (z : Addr → Option Obj) (H1 F1 : Hp), e.result = .yielded v ∧ e.quiet = true ∧ slp e.genState = true ∧ RelV u v ∧ Rep g F1 d u ∧ Eff g P w outer L s H F O s1 H1 F1 ∧ (∀ b o, z b = some o → s1.heap.get? b = some o ∧ H1 b = none ∧ L ≤ b) ∧ (∀ q ∈ pins, z q.1 = some q.2) ∧
    ∀ s' H' F' O', Wk g P w K mg base A outer z F1 s' H' F' O' → Rg (model P w) A e.genState s' (PhiS g P w K mg base A outer L pins r s' H' F' O')
/-- the generator in this state hands out ys -/
abbrev Slp (g : Gm) (P : Program) (w : World) (K : PySem.W.Frag) (mg : Str → Option Value) (base : Heap) (A : Around) (outer : List Env) (L : Nat) (pins : List (Addr × Obj)) (ys : List D) (gs : GenState) (z : Addr → Option Obj) (F : Hp) : Prop :=
  ∀ s H F' O, Wk g P w K mg base A outer z F s H F' O → Rg (model P w) A gs s (PhiS g P w K mg base A outer L pins ys s H F' O)
section
variable {g : Gm} {P : Program} {w : World} {K : PySem.W.Frag} {mg : Str → Option Value} {base : Heap} {N : List Str} {qual : Str} {sc : Scope} {f : Addr} {cd : Value} {A : Around} {outer : List Env} {L : Nat}
end
end G

set_option Elab.async false
set_option linter.all false
set_option maxRecDepth 100000
set_option maxHeartbeats 4000000
namespace G
open PySem L2 PyProof.Rows
open Sem (wp)
section
variable {M : Model} {A : Around} {Φ : End → Shared → Prop} {c : Code} {fs : List Frame} {s : Shared} {env : Env} {K : Flow → Sem PySem.Fin} {J : Value → Sem PySem.Fin} {gd : Bool → Bool} {lv : List Value → List Value}
end
/-! ## a generator def -/
section
variable {g : Gm} {P : Program} {w : World} {K : PySem.W.Frag} {mg : Str → Option Value} {base : Heap} {N ps : List Str} {x qual : Str} {st : Stmt} {f : Addr} {fd : FuncData} {k : Nat}
end
end G

set_option Elab.async false
set_option linter.all false
set_option maxRecDepth 100000
set_option maxHeartbeats 4000000
namespace G
open PySem L2 PyProof.Rows
open Sem (wp)
/-! ## things that must stay as they are for a while -/
section
variable {z : Addr → Option Obj} {H F : Hp} {b : Addr} {o : Obj} {u : HO}
end
section
variable {g : Gm} {F : Hp} {z : Addr → Option Obj}
end
section
variable {X : Cx} {pins : List (Addr × Obj)} {σ : L2.St} {H : Hp} {s : Shared} {z : Addr → Option Obj}
end
end G

set_option Elab.async false
set_option linter.all false
set_option maxRecDepth 100000
set_option maxHeartbeats 4000000
namespace G
open PySem L2 PyProof.Rows
open Sem (wp)
/-! ## for x in g(..) -/
def dGen (SG : List D → List D → Prop) (R : DA) : DA := fun Δ O P E => R Δ O (fun ds O1 => ∃ ys, SG ds ys ∧ P ys O1) E
section
variable {g : Gm} {X : Cx} {W : WX} {k j : Nat} {pos p : Pos} {a : Expr} {es : List Expr} {R : DA} {SG : List D → List D → Prop} {x : Str}
end
/-- a loop over what a generator hands out: the body raises nothing and does not leave it by return -/
def dForG (R : DA) (G : DG) (B : DS) : DS := fun D Δ O => R Δ O (fun ys O1 => forD G B { nx := D.nx, rt := fun _ _ => False } ys Δ O1) (fun x O1 => D.xc x Δ O1)
section
variable {g : Gm} {P : Program} {w : World} {K : PySem.W.Frag} {mg : Str → Option Value} {base : Heap} {A : Around} {outer : List Env} {L : Nat} {pins : List (Addr × Obj)} {ys : List D} {gs : GenState} {z : Addr → Option Obj} {F F' : Hp}
theorem Slp.mono (h : Slp g P w K mg base A outer L pins ys gs z F) (e : Same F F') : Slp g P w K mg base A outer L pins ys gs z F' := fun s H F2 O wk => h s H F2 O ⟨wk.e0, e.trans wk.sm, wk.wd, wk.zz⟩
end
section
variable {g : Gm} {X : Cx} {W : WX} {k j : Nat} {pos : Pos} {tg iter : Expr} {body : List Stmt} {t : TG} {Gd : DG} {js : List Nat} {R : DA} {B : DS}
end
end G

set_option Elab.async false
set_option linter.all false
set_option maxRecDepth 100000
set_option maxHeartbeats 4000000
namespace G
open PySem L2 PyProof.Rows
open Sem (wp)
/-! ## list(g(..)) -/
def dLiG (R : DA) : DE := fun Δ O P E => R Δ O (fun ys O1 => ys.length ≤ sizeLine ∧ ∀ p, freshC O1 p → P (.ptr p) ((p, .lst ys) :: O1)) E
section
variable {g : Gm} {X : Cx} {k j : Nat}
end
end G

set_option Elab.async false
set_option linter.all false
set_option maxRecDepth 100000
set_option maxHeartbeats 4000000
namespace G
open PySem L2 PyProof.Rows
/-! ## the parts of a generator def -/
section
variable {g : Gm} {P : Program} {w : World} {K : PySem.W.Frag} {mg : Str → Option Value} {base : Heap} {N ps : List Str} {x qual : Str} {st : Stmt} {f : Addr} {fd : FuncData} {k : Nat} {t : TG} {Gd : DG} {js : List Nat} {Tp B : DS} {R : DA} {Te : DE} {SG : List D → List D → Prop}
end
section
variable {Δ : Sl} {O : Sto} {E : KX} {P : KD} {D0 : DEnds} {R : DA} {Gd : DG} {B : DS} {SG : List D → List D → Prop} {Q : List D → Sto → Prop}
theorem e_forG : dForG R Gd B D0 Δ O = R Δ O (fun ys O1 => forD Gd B { nx := D0.nx, rt := fun _ _ => False } ys Δ O1) (fun x O1 => D0.xc x Δ O1) := propext Iff.rfl
theorem e_gen : dGen SG R Δ O Q E = R Δ O (fun ds O1 => ∃ ys, SG ds ys ∧ Q ys O1) E := propext Iff.rfl
theorem e_liG : dLiG R Δ O P E = R Δ O (fun ys O1 => ys.length ≤ sizeLine ∧ ∀ p, freshC O1 p → P (.ptr p) ((p, .lst ys) :: O1)) E := propext Iff.rfl
end
end G

set_option Elab.async false
set_option linter.all false
set_option maxRecDepth 100000
set_option maxHeartbeats 4000000
namespace G
open PySem L2
/-! ## xs.pop(i) -/
section
variable {O : Sto} {K : D → List D → Prop} {l r : List D} {y : D} {i : Int}
end
/-! ## None in a list of whole numbers and None -/
def ionsOf : List D → Option (List (Option Int))
  | [] => some []
  | .int i :: r => (ionsOf r).map (some i :: ·)
  | .non :: r => (ionsOf r).map (none :: ·)
  | _ => none
def ionD : Option Int → D
  | some i => .int i
  | none => .non
theorem ionsOf_map (ns : List (Option Int)) : ionsOf (ns.map ionD) = some ns := by
  induction ns with
  | nil => rfl
  | cons n ns ih => cases n <;> (rw [List.map_cons]; simp only [ionD, ionsOf, ih]; rfl)
def fInNQ (neg : Bool) : B2 := fun x y O P => match x, seqOf O y with
  | .non, some es => (match ionsOf es with | some ns => P (.bl (inB2 neg (ns.any (·.isNone)))) O | none => False)
  | _, _ => False
theorem f_inNon {neg : Bool} {O : Sto} {P : KD} {ns : List (Option Int)} : fInNQ neg .non (.lst (ns.map ionD)) O P = P (.bl (inB2 neg (ns.any (·.isNone)))) O := by simp only [fInNQ, seqOf, lstOf, ionsOf_map]
end G

set_option Elab.async false
set_option linter.all false
set_option maxRecDepth 100000
set_option maxHeartbeats 4000000
namespace G
open PySem L2
/-! ## y = [.. for .. in .. for .. in ..] on one line -/
section
variable {g : Gm} {X : Cx} {W W0 : WX} {pos pos' : Pos} {a tg tg1 : Expr} {Ta : DE} {R R1 : DA}
end
end G

set_option Elab.async false
set_option linter.all false
set_option maxRecDepth 100000
set_option maxHeartbeats 4000000
namespace G
open PySem L2
/-! ## C.m(*xs), m a classmethod -/
section
variable {g : Gm} {X : Cx} {W : WX} {k j : Nat} {x m : Str} {e : Expr} {S : DSp} {Ta : DE} {p p2 pos apos : Pos}
end
end G

set_option Elab.async false
set_option linter.all false
set_option maxRecDepth 100000
set_option maxHeartbeats 4000000
namespace G
open PySem L2
/-! ## a list times a whole number -/
def fRep : B2 := fun x y O P => match lstOf O x, y with
  | some ds, .int k => -(2 ^ 63) ≤ k ∧ k < 2 ^ 63 ∧ ds.length * k.toNat ≤ sizeLine ∧ P (.lst (List.replicate k.toNat ds).flatten) O
  | _, _ => False
theorem reps_rep {g : Gm} {F : Hp} {ds : List D} {vs : List V} (h : Reps g F ds vs) : ∀ n : Nat, Reps g F (List.replicate n ds).flatten (List.replicate n vs).flatten
  | 0 => Reps.nil
  | n + 1 => by
    rw [List.replicate_succ, List.replicate_succ, List.flatten_cons, List.flatten_cons]
    exact h.append (reps_rep h n)
section
variable {g : Gm}
theorem lk_rep : Lk2 g rRep fRep := by
  intro x y O P F H vx vy Q hf rx ry w hv
  unfold fRep at hf
  split at hf
  · rename_i l k e1
    obtain ⟨p, vs, rfl, h1, h2⟩ := lst_of e1 rx w
    obtain ⟨a1, a2, a3, a4⟩ := hf
    refine ⟨p, k, vs, rfl, Rep.int_iff.mp ry, h1, a1, a2, by rw [← h2.length]; exact a3, fun t ht => ?_⟩
    exact hv _ _ _ _ _ a4 (w.fsame ht) (w.frozen ht) ((reps_rep h2 _).newL (w.same.free ht))
  · exact hf.elim
end
theorem f_rep {O : Sto} {P : KD} {ds : List D} {k : Int} : fRep (.lst ds) (.int k) O P = (-(2 ^ 63) ≤ k ∧ k < 2 ^ 63 ∧ ds.length * k.toNat ≤ sizeLine ∧ P (.lst (List.replicate k.toNat ds).flatten) O) := propext Iff.rfl
/-- a whole number or None, and lists and pairs of such -/
instance : Em (Option Int) := ⟨ionD, fun a => by cases a <;> rfl, fun a => by cases a <;> rfl⟩
end G

set_option Elab.async false
set_option linter.all false
set_option maxRecDepth 100000
set_option maxHeartbeats 4000000
namespace G
open PySem L2
/-! ## while: so many turns at most -/
section
variable {g : Gm} {X : Cx} {W : WX} {c : Expr} {body : List Stmt} {Tt : DT} {B : DS} {pos : Pos}
end
end G

set_option Elab.async false
set_option linter.all false
set_option maxRecDepth 100000
set_option maxHeartbeats 4000000
namespace G
open PySem L2
/-! ## the end of a law over a head that tells its facts -/
theorem walkE {l : PySem.W.OpenLaw} {q : Program} {loose : List Str} {XP : (Str → Option Value) → Heap → Prop} {YP : World → Heap → Prop} {d : DefRec} {x : Str} (k : Nat) (hk : k ≤ 40) (hn : l.most = some 63) (hdf : d.params.defaults = [])
    (F : ∀ (w : World) (mg : Str → Option Value) (fa : Addr) (h : Heap), YP w h → h.Ns mainGlobals mg → mg d.name = some (.ref fa) →
      ∃ (K : PySem.W.Frag) (fd : FuncData), K.In h ∧ (∀ (s : Shared) (u : Value), BindsTo s fd ⟨[u], []⟩ [(x, u)]) ∧ ∀ base : Heap, K.In base → base.Ns mainGlobals mg → FnOk l.prog w K mg base (L2.CX l.prog w) k fa fd [x] (spLaw K)) :
    PySem.W.WalkO q loose XP YP l.row.toRowW d [] (fun f vs => PySem.call f vs) := by
  refine _root_.Att.attach_call hn hdf fun w s₀ s₁ mg mb fa o pm cd doc a vs ns G Y ho hd hcd hmg hobj hints hlen hg => ?_
  obtain ⟨K, fd, KX, hb, hF⟩ := F w mg fa _ Y G.T.g hmg
  exact law_call KX G.T.g G.T.b G.T.builtins G.T.nolimit hg hobj hints (Nat.le_trans hlen (by decide)) (Room.mono (k := 40) ⟨rfl, by decide, by decide⟩ hk) hF hb (fun H hO hS => ⟨a, ns, rfl, hS, hlen, fun _ => rfl⟩) fun H e s' z => by
    obtain ⟨_, _, _, _, _, _, _, _, _, _, _, _, z⟩ := z
    exact z
end G

set_option Elab.async false
set_option linter.all false
set_option maxRecDepth 100000
set_option maxHeartbeats 4000000
namespace G
open PySem L2
/-! ## keyword-only parameters with defaults -/
inductive Fl where
  | at (i : Nat) | int (i : Int) | str (x : Str) | bl (b : Bool) | non
def Fl.d : Fl → D
  | .at _ => .non | .int i => .int i | .str x => .str x | .bl b => .bl b | .non => .non
def Fl.v : Fl → V
  | .at _ => .non | .int i => .int i | .str x => .str x | .bl b => .bl b | .non => .non
def fillD : List Fl → List D → List D
  | [], _ => []
  | .at i :: r, es => (match es[i]? with | some e => e :: fillD r es | none => fillD r es)
  | f :: r, es => f.d :: fillD r es
def fillV : List Fl → List V → List V
  | [], _ => []
  | .at i :: r, es => (match es[i]? with | some e => e :: fillV r es | none => fillV r es)
  | f :: r, es => f.v :: fillV r es
def FNM (g : Gm) (P : Program) (w : World) (K : PySem.W.Frag) (mg : Str → Option Value) (base : Heap) (k : Nat) (f : Addr) (n : Nat) (ks : List Str) (fl : List Fl) (S : DSp) : Prop :=
  ∀ (A : Around) (outer : List Env) (s : Shared) (H : Hp) (us ws : List Value) (vs zs : List V) (Q : VK) (E : XK), Room k A → Env0 P w K mg base A outer s H → Vals vs us → Vals zs ws → vs.length = n → zs.length = ks.length → toSp g S (vs ++ fillV fl zs) H Q E →
    codeAny (model P w) A (.call (.ref f) ⟨us, ks.zip ws⟩) (CR (L2.CX P w) outer P w H s Q E) s
theorem FNM.mono {g : Gm} {P : Program} {w : World} {K : PySem.W.Frag} {mg : Str → Option Value} {base : Heap} {j k : Nat} {f : Addr} {n : Nat} {ks : List Str} {fl : List Fl} {S : DSp} (h : FNM g P w K mg base j f n ks fl S) (hj : j ≤ k) : FNM g P w K mg base k f n ks fl S :=
  fun A outer s H us ws vs zs Q E hr => h A outer s H us ws vs zs Q E (hr.mono hj)
section
variable {g : Gm} {P : Program} {w : World} {K : PySem.W.Frag} {mg : Str → Option Value} {base : Heap} {x qual : Str} {st : Stmt} {f : Addr} {N ps ks : List Str} {k n : Nat} {S : DSp} {T : DS} {oc dV doc pm cdv ct : Value} {od an : Option Addr} {osl : Array (Option Value)}
end
def dCallM (n m : Nat) (fl : List Fl) (S : DSp) (R Rk : DA) : DE := fun Δ O P E => R Δ O (fun ds O1 => Rk Δ O1 (fun es O2 => ds.length = n ∧ es.length = m ∧ S (ds ++ fillD fl es) O2 P E) E) E
def dMakeM (cl : Cl) (n m : Nat) (fl : List Fl) (S : DSp) (R Rk : DA) : DE := fun Δ O P E => R Δ O (fun ds O1 => Rk Δ O1 (fun es O2 => ds.length = n ∧ es.length = m ∧ mkK cl S (ds ++ fillD fl es) O2 P E) E) E
section
variable {g : Gm} {X : Cx} {W : WX} {pos p : Pos} {a : Expr} {es : List Expr} {R Rk : DA} {k j n : Nat} {f : Addr} {S : DSp} {x : Str} {kws : List Keyword} {ks : List Str} {fl : List Fl}
end
section
variable {Δ : Sl} {O : Sto} {P : KD} {E : KX} {R Rk : DA} {n m : Nat} {fl : List Fl} {S : DSp} {cl : Cl}
theorem e_callM : dCallM n m fl S R Rk Δ O P E = R Δ O (fun ds O1 => Rk Δ O1 (fun es O2 => ds.length = n ∧ es.length = m ∧ S (ds ++ fillD fl es) O2 P E) E) E := propext Iff.rfl
theorem e_makeM : dMakeM cl n m fl S R Rk Δ O P E = R Δ O (fun ds O1 => Rk Δ O1 (fun es O2 => ds.length = n ∧ es.length = m ∧ mkK cl S (ds ++ fillD fl es) O2 P E) E) E := propext Iff.rfl
end
end G

set_option Elab.async false
set_option linter.all false
set_option maxRecDepth 100000
set_option maxHeartbeats 4000000
namespace G
open PySem L2
section
variable {g : Gm} {X : Cx} {W : WX} {p : Pos} {x : Str}
theorem q_gInt {z : Int} {t : Tok} (hm : X.mg x = some (.int z t)) (hg : Gl X x := by rfl) (hd : (x == ("__debug__" : Str)) = false := by decide) : PE X (.Name x p) (le g W (dC (.int z))) :=
  pe_imp (pe_glob (v := .int z) hg hm ⟨t, rfl⟩ hd) fun σ H Q ⟨Δ, O, P, E, F, hT, sr, w, hv, hx⟩ => hv.now (d := .int z) hT w (Rep.int_iff.mpr rfl)
end
section
variable {es : List D} {a b c e : D} {r : List Fl}
theorem fl_nil : fillD [] es = [] := by simp only [fillD]
theorem fl_int {i : Int} : fillD (.int i :: r) es = .int i :: fillD r es := by simp only [fillD, Fl.d]
theorem fl_str {i : Str} : fillD (.str i :: r) es = .str i :: fillD r es := by simp only [fillD, Fl.d]
theorem fl_bl {i : Bool} : fillD (.bl i :: r) es = .bl i :: fillD r es := by simp only [fillD, Fl.d]
theorem fl_non : fillD (.non :: r) es = .non :: fillD r es := by simp only [fillD, Fl.d]
theorem fl_a0 : fillD (.at 0 :: r) (a :: es) = a :: fillD r (a :: es) := by simp [fillD]
theorem fl_a1 : fillD (.at 1 :: r) (a :: b :: es) = b :: fillD r (a :: b :: es) := by simp [fillD]
theorem fl_a2 : fillD (.at 2 :: r) (a :: b :: c :: es) = c :: fillD r (a :: b :: c :: es) := by simp [fillD]
end
end G

set_option Elab.async false
set_option linter.all false
set_option maxRecDepth 100000
set_option maxHeartbeats 4000000
namespace G
open PySem L2
/-! ## f'{x:>8}': texts and small numbers to the right -/
/-- as wide as n, filled by blanks -/
def rjS (n : Nat) (y : Str) : Str := if n ≤ y.length then y else ⟨Array.replicate (n - y.length) 32 ++ y.cps⟩
section
variable {prog : Program} {w : World} {A : Around} {E : Value → Shared → Prop} {s : Shared}
end
/-- {x:>8} of a text -/
def dFmt8 (T : DE) : DE := fun Δ O P E => T Δ O (fun d O1 => match d with | .str y => y.length ≤ 1000 ∧ P (.str (rjS 8 y)) O1 | _ => False) E
/-- {n:>2} of a small number -/
def dFmt2 (T : DE) : DE := fun Δ O P E => T Δ O (fun d O1 => match d with | .int i => (0 ≤ i ∧ i < 16) ∧ P (.str (rjS 2 (Str.ofString (toString i)))) O1 | _ => False) E
section
variable {g : Gm} {X : Cx} {W : WX} {e : Expr} {T : DE} {pos p1 p2 : Pos} {j : Nat}
theorem e_fmt8 {Δ : Sl} {O : Sto} {P : KD} {E : KX} : dFmt8 T Δ O P E = T Δ O (fun d O1 => match d with | .str y => y.length ≤ 1000 ∧ P (.str (rjS 8 y)) O1 | _ => False) E := propext Iff.rfl
theorem e_fmt2 {Δ : Sl} {O : Sto} {P : KD} {E : KX} : dFmt2 T Δ O P E = T Δ O (fun d O1 => match d with | .int i => (0 ≤ i ∧ i < 16) ∧ P (.str (rjS 2 (Str.ofString (toString i)))) O1 | _ => False) E := propext Iff.rfl
end
/-! ## x.rjust(n) -/
/-! ## text * n -/
def repS (n : Int) (i : Str) : Str := if n < 1 then Str.empty else if (n == 1 || i.length == 0) = true then i else ⟨(List.replicate n.toNat i.cps).foldl (· ++ ·) #[]⟩
def fMulS : B2 := fun x y O P => match x, y with
  | .str i, .int n => (-(2 ^ 62) ≤ n ∧ n ≤ 1000 ∧ i.length ≤ 1000) ∧ P (.str (repS n i)) O
  | _, _ => False
theorem f_mulS {i : Str} {n : Int} {O : Sto} {P : KD} : fMulS (.str i) (.int n) O P = ((-(2 ^ 62) ≤ n ∧ n ≤ 1000 ∧ i.length ≤ 1000) ∧ P (.str (repS n i)) O) := propext Iff.rfl
end G

set_option Elab.async false
set_option linter.all false
set_option maxRecDepth 100000
set_option maxHeartbeats 4000000
open PySem L2
namespace G
/-! ## x.rjust(n) -/
def dRjust (Ta Tb : DE) : DE := fun Δ O P E => Ta Δ O (fun x O1 => match x with
  | .str a => Tb Δ O1 (fun y O2 => match y with
    | .int n => (0 ≤ n ∧ n ≤ 1000) ∧ P (.str (rjS n.toNat a)) O2
    | _ => False) E
  | _ => False) E
section
variable {g : Gm} {X : Cx} {W : WX} {o : Expr} {Ta Tb : DE}
theorem e_rjust {Δ : Sl} {O : Sto} {P : KD} {E : KX} : dRjust Ta Tb Δ O P E = Ta Δ O (fun x O1 => match x with
  | .str a => Tb Δ O1 (fun y O2 => match y with
    | .int n => (0 ≤ n ∧ n ≤ 1000) ∧ P (.str (rjS n.toNat a)) O2
    | _ => False) E
  | _ => False) E := propext Iff.rfl
end
end G

set_option Elab.async false
set_option linter.all false
set_option maxRecDepth 100000
set_option maxHeartbeats 4000000
namespace G
open PySem L2
/-! ## list(range(n)) -/
def dLsR (T : DE) : DE := fun Δ O P E => T Δ O (fun d O1 => match d with | .int j => (0 ≤ j ∧ j ≤ 1000000) ∧ P (.lst ((List.range j.toNat).map fun i : Nat => D.int (i : Int))) O1 | _ => False) E
section
variable {g : Gm} {X : Cx} {W : WX} {a : Expr} {T : DE} {p p2 pos pos2 : Pos}
theorem e_lsR {Δ : Sl} {O : Sto} {P : KD} {E : KX} : dLsR T Δ O P E = T Δ O (fun d O1 => match d with | .int j => (0 ≤ j ∧ j ≤ 1000000) ∧ P (.lst ((List.range j.toNat).map fun i : Nat => D.int (i : Int))) O1 | _ => False) E := propext Iff.rfl
end
/-! ## dict(a list of pairs (text, x)), the texts all different -/
def kvsOf : List D → Option (List (Str × D))
  | [] => some []
  | .tup [.str k, x] :: r => (kvsOf r).map ((k, x) :: ·)
  | _ => none
def fDictP : BC := fun ds O P => match ds with
  | [d] => (match lstOf O d with
    | some es => (match kvsOf es with | some kvs => (kvs.map (·.1)).Nodup ∧ ∀ p, freshC O p → P (.ptr p) ((p, .dic (kvs.map fun kv => .inr kv.1) (kvs.map (·.2))) :: O) | none => False)
    | none => False)
  | _ => False
section
variable {g : Gm}
theorem f_dictP {d : D} {O : Sto} {P : KD} : fDictP [d] O P = (match lstOf O d with
    | some es => (match kvsOf es with | some kvs => (kvs.map (·.1)).Nodup ∧ ∀ p, freshC O p → P (.ptr p) ((p, .dic (kvs.map fun kv => .inr kv.1) (kvs.map (·.2))) :: O) | none => False)
    | none => False) := propext Iff.rfl
end
/-! ## an owned slice -/
def dSliceO (T : DE) (L U : DO) : DE := fun Δ O P E => T Δ O (fun d O1 => L Δ O1 (fun l O2 => U Δ O2 (fun u O3 => match lstOf O3 d with | some ds => ∀ p, freshC O3 p → P (.ptr p) ((p, .lst (cutD ds l u)) :: O3) | none => False) E) E) E
section
variable {g : Gm} {X : Cx} {W : WX} {a : Expr} {Ta : DE} {p p2 pos pos2 : Pos}
theorem e_sliceO {L U : DO} {Δ : Sl} {O : Sto} {P : KD} {E : KX} : dSliceO Ta L U Δ O P E = Ta Δ O (fun d O1 => L Δ O1 (fun l O2 => U Δ O2 (fun u O3 => match lstOf O3 d with | some ds => ∀ p, freshC O3 p → P (.ptr p) ((p, .lst (cutD ds l u)) :: O3) | none => False) E) E) E := propext Iff.rfl
end
end G

set_option Elab.async false
set_option linter.all false
set_option maxRecDepth 100000
set_option maxHeartbeats 4000000
namespace G
open PySem L2 PySem.Spec PyProof.Rows
/-! ## sorted(a list of pairs (number, text)) -/
abbrev NT := Int × Str
def lexN (a b : NT) : Bool := if a.1 = b.1 then decide (a.2.cps.toList < b.2.cps.toList) else decide (a.1 < b.1)
def IsNT (h : Heap) (v : Value) (q : NT) : Prop := ∃ (a : Addr) (o : Obj) (t u : Tok) (n : Nat), v = .ref a ∧ h.get? a = some o ∧ o.cls = .type "tuple" ∧ o.data = .seq #[.int q.1 t, .str q.2 u] n
theorem IsNT.keeps {h h' : Heap} {v : Value} {q : NT} (x : IsNT h v q) (e : ∀ b o, h.get? b = some o → o.cls = .type "tuple" → h'.get? b = some o) : IsNT h' v q := by
  obtain ⟨a, o, t, u, n, h1, h2, h3, h4⟩ := x
  exact ⟨a, o, t, u, n, h1, e _ _ h2 h3, h3, h4⟩
section
variable {prog : Program} {w : World} {A : Around} {E : Value → Shared → Prop} {s : Shared}
end
section
variable {X : Cx}
end
/-! ### over plain data -/
def ntD (q : NT) : D := .tup [.int q.1, .str q.2]
def ntsOf : List D → Option (List NT)
  | [] => some []
  | .tup [.int i, .str y] :: r => (ntsOf r).map ((i, y) :: ·)
  | _ => none
theorem ntsOf_map : ∀ ns : List NT, ntsOf (ns.map ntD) = some ns
  | [] => rfl
  | q :: r => by
    rw [List.map_cons]
    show (ntsOf (r.map ntD)).map ((q.1, q.2) :: ·) = _
    rw [ntsOf_map r]
    rfl
def leN (a b : NT) : Bool := !lexN b a
def srtN (ns : List NT) : List NT := ns.mergeSort leN
def fSortN : BC := fun ds O P => match ds with | [d] => (match lstOf O d with | some es => (match ntsOf es with | some ns => (∀ q ∈ ns, PyData.strOk q.2 = true) ∧ P (.lst ((srtN ns).map ntD)) O | none => False) | none => False) | _ => False
section
variable {g : Gm}
theorem f_sortN {O : Sto} {P : KD} {ns : List NT} : fSortN [.lst (ns.map ntD)] O P = ((∀ q ∈ ns, PyData.strOk q.2 = true) ∧ P (.lst ((srtN ns).map ntD)) O) := by simp only [fSortN, lstOf, ntsOf_map]
end
end G

set_option Elab.async false
set_option linter.all false
set_option maxRecDepth 100000
set_option maxHeartbeats 4000000
namespace G
open PySem PySem.Spec L2
open PyProof.Rows hiding St
/-! ## {k: v for x in xs}: an owned dict -/
def dcD (Gd : DG) (Tt : DT) (Tk Tv : DE) (p : Addr) (P : List Key → List D → Sto → Prop) : List D → List Key → List D → Sl → Sto → Prop
  | [], ks, es, _, O => P ks es O
  | x :: r, ks, es, Δ, O => Gd x Δ fun Δ' => Tt Δ' ((p, .dic ks es) :: O) (fun b O1 => if b = true
      then Tk Δ' O1 (fun y O2 => Tv Δ' O2 (fun z O3 => ∃ O4, O3 = (p, .dic ks es) :: O4 ∧ match keyD y with
        | some k => ks.Nodup ∧ dcD Gd Tt Tk Tv p P r (putKs k ks) (putKd k z ks es) Δ O4
        | none => False) (fun _ _ => False)) (fun _ _ => False)
      else ∃ O3, O1 = (p, .dic ks es) :: O3 ∧ dcD Gd Tt Tk Tv p P r ks es Δ O3) (fun _ _ => False)
def dDcO (R : DA) (Gd : DG) (Tt : DT) (Tk Tv : DE) (vs : List Nat) : DE := fun Δ O P E => R Δ O (fun ds O1 => ds.length ≤ 1000000 ∧ ∀ p, freshC O1 p → dcD Gd Tt Tk Tv p (fun ks es O2 => P (.ptr p) ((p, .dic ks es) :: O2)) ds [] [] (wipeD Δ vs) O1) E
theorem e_dcO {R : DA} {Gd : DG} {Tt : DT} {Tk Tv : DE} {vs : List Nat} {Δ : Sl} {O : Sto} {P : KD} {E : KX} : dDcO R Gd Tt Tk Tv vs Δ O P E = R Δ O (fun ds O1 => ds.length ≤ 1000000 ∧ ∀ p, freshC O1 p → dcD Gd Tt Tk Tv p (fun ks es O2 => P (.ptr p) ((p, .dic ks es) :: O2)) ds [] [] (wipeD Δ vs) O1) E := propext Iff.rfl
section
variable {g : Gm} {X : Cx} {W : WX} {pos pos' : Pos} {tg : Expr} {R : DA}
end
/-! ## xs.index(text) -/
def dIdx (Ta : DE) (R : DA) : DE := fun Δ O P E => Ta Δ O (fun o O1 => match lstOf O1 o with
  | some _ => R Δ O1 (fun as O2 => match lstOf O2 o, as with
    | some ds, [.str z] => (match strsOf ds with | some ns => z ∈ ns ∧ P (.int (ns.idxOf z : Int)) O2 | none => False)
    | _, _ => False) E
  | none => False) E
theorem e_idx {Ta : DE} {R : DA} {Δ : Sl} {O : Sto} {P : KD} {E : KX} : dIdx Ta R Δ O P E = Ta Δ O (fun o O1 => match lstOf O1 o with
  | some _ => R Δ O1 (fun as O2 => match lstOf O2 o, as with
    | some ds, [.str z] => (match strsOf ds with | some ns => z ∈ ns ∧ P (.int (ns.idxOf z : Int)) O2 | none => False)
    | _, _ => False) E
  | none => False) E := propext Iff.rfl
section
variable {g : Gm} {X : Cx} {W : WX} {c : Expr} {Ta : DE} {R : DA}
end

theorem e_gt4 {i j k l : Nat} {a b c d : D} {Δ : Sl} {Q : Sl → Prop} : dgT [i, j, k, l] (.tup [a, b, c, d]) Δ Q = Q ((((Δ.set i (some a)).set j (some b)).set k (some c)).set l (some d)) := propext Iff.rfl
end G

set_option Elab.async false
set_option linter.all false
set_option maxRecDepth 100000
set_option maxHeartbeats 4000000
namespace G
open PySem L2
/-! ## an exception that keeps a copy of a list -/
section
variable {K : PySem.W.Frag} {C : Addr} {f1 : Str} {vs : List V} {H : Hp} {Q : VK} {E : XK} {N : List Str} {txt : Str}
end
def dRaiseL (ec : Ec) (f1 : Fd) (R : DA) : DS := fun D Δ O => R Δ O (fun ds O1 => match ds with | [.lst es] => D.xc ⟨ec, [f1], [.lst es]⟩ Δ O1 | _ => False) (fun x O1 => D.xc x Δ O1)
theorem e_raiseL {ec : Ec} {f1 : Fd} {R : DA} {D : DEnds} {Δ : Sl} {O : Sto} : dRaiseL ec f1 R D Δ O = R Δ O (fun ds O1 => match ds with | [.lst es] => D.xc ⟨ec, [f1], [.lst es]⟩ Δ O1 | _ => False) (fun x O1 => D.xc x Δ O1) := propext Iff.rfl
section
variable {g : Gm} {X : Cx} {W : WX} {pos pos' p p2 : Pos} {a b c e : Expr} {es : List Expr} {R : DA} {Ta Tb : DE} {k j : Nat} {x : Str}
end
end G

set_option Elab.async false
set_option linter.all false
set_option maxRecDepth 100000
set_option maxHeartbeats 4000000
namespace G
open PySem L2
/-! ## a new object that will change -/
section
variable {g : Gm} {X : Cx} {W : WX} {pos pos' p p2 : Pos} {a b c e : Expr} {es : List Expr} {R : DA} {Ta Tb : DE} {k j : Nat} {x m : Str} {f : Addr} {S : DSp}
theorem e_makeO {cl : Cl} {Δ : Sl} {O : Sto} {P : KD} {E : KX} : dMakeO cl S R Δ O P E = R Δ O (fun ds O1 => ∀ q, freshC O1 q → S (.ptr q :: ds) ((q, .ins cl [] []) :: O1)
  (fun r O2 => r = .non ∧ P (.ptr q) O2) (fun x O2 => E x (delC O2 q))) E := propext Iff.rfl
/-! ## o.m = e, m a property with a setter -/
def dSetP (tab : List (Cl × DSp)) (To Tv : DE) : DS := fun D Δ O => Tv Δ O (fun d O1 => To Δ O1 (fun o O2 => match clsOf O2 o with
  | some c => (match tabAt tab c with | some S => S [o, d] O2 (fun _ O3 => D.nx Δ O3) (fun x O3 => D.xc x Δ O3) | none => False)
  | none => False) (fun x O1 => D.xc x Δ O1)) (fun x O1 => D.xc x Δ O1)
theorem e_setP {tab : List (Cl × DSp)} {D : DEnds} {Δ : Sl} {O : Sto} : dSetP tab Ta Tb D Δ O = Tb Δ O (fun d O1 => Ta Δ O1 (fun o O2 => match clsOf O2 o with
  | some c => (match tabAt tab c with | some S => S [o, d] O2 (fun _ O3 => D.nx Δ O3) (fun x O3 => D.xc x Δ O3) | none => False)
  | none => False) (fun x O1 => D.xc x Δ O1)) (fun x O1 => D.xc x Δ O1) := propext Iff.rfl
section
variable {P : Program} {w : World} {K : PySem.W.Frag} {mg : Str → Option Value} {base : Heap}
end
end
end G

set_option Elab.async false
set_option linter.all false
set_option maxRecDepth 100000
set_option maxHeartbeats 4000000
namespace G
open PySem L2
/-! ## a new object that will change, keyword-only parameters -/
def dMakeMO (cl : Cl) (n m : Nat) (fl : List Fl) (S : DSp) (R Rk : DA) : DE := fun Δ O P E => R Δ O (fun ds O1 => Rk Δ O1 (fun es O2 => ds.length = n ∧ es.length = m ∧ ∀ q, freshC O2 q → S (.ptr q :: (ds ++ fillD fl es)) ((q, .ins cl [] []) :: O2)
  (fun r O3 => r = .non ∧ P (.ptr q) O3) (fun x O3 => E x (delC O3 q))) E) E
section
variable {g : Gm} {X : Cx} {W : WX} {pos p : Pos} {a : Expr} {es : List Expr} {R Rk : DA} {k j n : Nat} {f : Addr} {S : DSp} {x : Str} {kws : List Keyword} {ks : List Str} {fl : List Fl}
theorem e_makeMO {Δ : Sl} {O : Sto} {P : KD} {E : KX} {m : Nat} {cl : Cl} : dMakeMO cl n m fl S R Rk Δ O P E = R Δ O (fun ds O1 => Rk Δ O1 (fun es O2 => ds.length = n ∧ es.length = m ∧ ∀ q, freshC O2 q → S (.ptr q :: (ds ++ fillD fl es)) ((q, .ins cl [] []) :: O2)
  (fun r O3 => r = .non ∧ P (.ptr q) O3) (fun x O3 => E x (delC O3 q))) E) E := propext Iff.rfl
end
/-! ## self.a, self.b = e -/
def putsFs : List Fd → List Fd → List Fd
  | [], fs => fs
  | f :: r, fs => putsFs r (putFs f fs)
def putsDs : List Fd → List D → List Fd → List D → List D
  | f :: r, d :: ds, fs, es => putsDs r ds (putFs f fs) (putDs f d fs es)
  | _, _, _, es => es
def dSetT (cs : List Cl) (i : Nat) (fl : List Fd) (Ta : DE) : DS := fun D Δ O => Ta Δ O (fun d O1 => match d, Δ[i]? with
  | .tup ds, some (some (.ptr p)) => (match getC O1 p with
    | some (.ins c fs es) => c ∈ cs ∧ fs.length + fl.length < 900 ∧ ds.length = fl.length ∧ D.nx Δ (setC O1 p (.ins c (putsFs fl fs) (putsDs fl ds fs es)))
    | _ => False)
  | _, _ => False) (fun x O1 => D.xc x Δ O1)
section
variable {g : Gm} {X : Cx} {W : WX} {pos pos' p : Pos} {a o : Expr} {es : List Expr} {Ta : DE} {x : Str} {i : Nat}
theorem e_setT {cs : List Cl} {fl : List Fd} {En : DEnds} {Δ : Sl} {O : Sto} : dSetT cs i fl Ta En Δ O = Ta Δ O (fun d O1 => match d, Δ[i]? with
  | .tup ds, some (some (.ptr p)) => (match getC O1 p with
    | some (.ins c fs es) => c ∈ cs ∧ fs.length + fl.length < 900 ∧ ds.length = fl.length ∧ En.nx Δ (setC O1 p (.ins c (putsFs fl fs) (putsDs fl ds fs es)))
    | _ => False)
  | _, _ => False) (fun x O1 => En.xc x Δ O1) := propext Iff.rfl
/-! ## d.clear() -/
def dClr (To : DE) : DE := fun Δ O P E => To Δ O (fun o O1 => match o with
  | .ptr q => (match getC O1 q with | some (.dic _ _) => P .non (setC O1 q (.dic [] [])) | _ => False)
  | _ => False) E
theorem e_clr {Δ : Sl} {O : Sto} {P : KD} {E : KX} : dClr Ta Δ O P E = Ta Δ O (fun o O1 => match o with
  | .ptr q => (match getC O1 q with | some (.dic _ _) => P .non (setC O1 q (.dic [] [])) | _ => False)
  | _ => False) E := propext Iff.rfl
end
end G

set_option Elab.async false
set_option linter.all false
set_option maxRecDepth 100000
set_option maxHeartbeats 4000000
namespace G
open PySem L2
/-! ## [.. for k in d], d an owned dict: it is locked the while, and nothing else of the store is looked at -/
section
variable {g : Gm}
open Classical in
open Classical in
end
section
variable {g : Gm} {X : Cx} {W : WX} {pos p0 : Pos} {tg : Expr} {x : Str}
end
end G

set_option Elab.async false
set_option linter.all false
set_option maxRecDepth 100000
set_option maxHeartbeats 4000000
namespace G
open PySem L2
/-! ## range(i, j, -1) -/
section
variable {g : Gm} {X : Cx} {W : WX} {a b c tg : Expr} {R : DA}
def rangeN (lo : Int) (n : Nat) : List D := (List.range n).map fun (i : Nat) => .int (lo - (i : Int))
def dRng3 (R : DA) : DA := fun Δ O P E => R Δ O (fun ds O1 => match ds with | [.int i, .int j, .int c] => (-(2 ^ 62) ≤ i ∧ i < 2 ^ 62 ∧ -(2 ^ 62) ≤ j ∧ j < 2 ^ 62 ∧ c = -1) ∧ P (rangeN i (i - j).toNat) O1 | _ => False) E
theorem e_rng3 {Δ : Sl} {O : Sto} {PA : List D → Sto → Prop} {E : KX} : dRng3 R Δ O PA E = R Δ O (fun ds O1 => match ds with | [.int i, .int j, .int c] => (-(2 ^ 62) ≤ i ∧ i < 2 ^ 62 ∧ -(2 ^ 62) ≤ j ∧ j < 2 ^ 62 ∧ c = -1) ∧ PA (rangeN i (i - j).toNat) O1 | _ => False) E := propext Iff.rfl
end
end G

set_option Elab.async false
set_option linter.all false
set_option maxRecDepth 100000
set_option maxHeartbeats 4000000
namespace G
open PySem L2
/-! ## several except clauses without a name -/
inductive HdNN (X : Cx) : List ExceptHandler → HTs → Prop
  | nil : HdNN X [] []
  | cons {y : Str} {v : Value} {tz : Addr → Value → Option Addr → TS} {t0 : Stmt} {su : List Stmt} {p1 p2 : Pos} {hl : List ExceptHandler} {l : HTs} (nm : Names X y v)
      (hu : ∀ (b : Addr) (ob : Obj) (cl : Value) (d : Option Addr) (ps : List (Addr × Obj)), Zc cl d ob → (∃ vs, ob.data = .fields vs) → PSs (X.suite b ((b, ob) :: ps)) (t0 :: su) (tz b cl d)) (r : HdNN X hl l) :
      HdNN X (.ExceptHandler (some (.Name y p1)) none (t0 :: su) p2 :: hl) ((v, tz) :: l)
section
variable {X : Cx} {body : List Stmt} {h0 : ExceptHandler} {hl : List ExceptHandler} {l : HTs} {pos : Pos} {tb : WX → TS} {Wo : WX}
end
/-- the clauses, over plain data -/
def xcMN (D : DEnds) : HDs → Exn → Sl → Sto → Prop
  | [] => D.xc
  | p :: r => fun x Δ1 O1 => match p.1 x.c with
    | some true => ∀ a d, freshC O1 a → p.2 a x.c d { nx := D.nx, rt := D.rt, bk := D.bk, ct := D.ct } Δ1 O1
    | some false => xcMN D r x Δ1 O1
    | none => False
def dTryMN (Tb : DS) (hs : HDs) : DS := fun D Δ O => Tb { D with xc := xcMN D hs } Δ O
section
variable {g : Gm} {X : Cx} {W : WX} {pos pos' p : Pos} {body : List Stmt}
inductive QHsN (g : Gm) (X : Cx) : List ExceptHandler → HDs → List Value → Prop
  | nil : QHsN g X [] [] []
  | cons {y : Str} {v : Value} {cat : Ec → Option Bool} {Th : DH} {t0 : Stmt} {su : List Stmt} {p1 p2 : Pos} {hl : List ExceptHandler} {l : HDs} {vs : List Value} (nm : Names X y v) (ct : Cat g X.K v cat)
      (hu : ∀ (a : Addr) (oe : Obj) (ec : Ec) (d : Option Addr) (pn : List (Addr × Obj)), Zc (.ref (g.ea ec)) d oe → (∃ vs, oe.data = .fields vs) → PSs (X.suite a ((a, oe) :: pn)) (t0 :: su) (ls g W0 (Th a ec d))) (r : QHsN g X hl l vs) :
      QHsN g X (.ExceptHandler (some (.Name y p1)) none (t0 :: su) p2 :: hl) ((cat, Th) :: l) (v :: vs)
theorem QHsN.hd {hl : List ExceptHandler} {l : HDs} {vs : List Value} (h : QHsN g X hl l vs) : HdNN X hl (toHTs g l vs) := by
  induction h with
  | nil => exact .nil
  | cons nm ct hu r ih =>
    refine .cons nm (fun b ob cl d ps hz hv => ⟨fun pins s σ H E I ⟨ec, e, h⟩ => ?_⟩) ih
    subst e
    exact (hu b ob ec d ps hz hv).run pins s σ H E I h
theorem e_tryMN {T : DS} {hs : HDs} {En : DEnds} {Δ : Sl} {O : Sto} : dTryMN T hs En Δ O = T { En with xc := xcMN En hs } Δ O := propext Iff.rfl
theorem e_xcMN0 {En : DEnds} {x : Exn} {Δ : Sl} {O : Sto} : xcMN En [] x Δ O = En.xc x Δ O := propext Iff.rfl
theorem e_xcMN1 {En : DEnds} {cat : Ec → Option Bool} {Th : DH} {r : HDs} {x : Exn} {Δ : Sl} {O : Sto} : xcMN En ((cat, Th) :: r) x Δ O = (match cat x.c with
    | some true => ∀ a d, freshC O a → Th a x.c d { nx := En.nx, rt := En.rt, bk := En.bk, ct := En.ct } Δ O
    | some false => xcMN En r x Δ O
    | none => False) := propext Iff.rfl
end
end G

set_option Elab.async false
set_option linter.all false
set_option maxRecDepth 100000
set_option maxHeartbeats 4000000
namespace G
open PySem L2
/-! ## == of lists of objects of one own class: the equal case -/
def EqLs (C : Cl) (S : DSp) (xs ys : List D) (O : Sto) : Prop := xs.length = ys.length ∧ ∀ (i : Nat) (x y : D), xs[i]? = some x → ys[i]? = some y → clsOf O x = some C ∧ tgD O y = some (.c C) ∧ S [x, y] O (fun d O' => d = .bl true ∧ O' = O) (fun _ _ => False)
def dEqLs (C : Cl) (S : DSp) (Ta Tb : DE) : DE := fun Δ O P E => Ta Δ O (fun x O1 => Tb Δ O1 (fun y O2 => match x, y with
  | .lst xs, .lst ys => EqLs C S xs ys O2 ∧ P (.bl true) O2
  | _, _ => False) E) E
section
variable {g : Gm} {X : Cx} {W : WX} {pos pos' p apos : Pos} {a b c o : Expr} {es : List Expr} {Ta Tb : DE} {R : DA} {k j : Nat} {f : Addr} {S : DSp} {x m : Str} {C : Cl}
theorem e_eqLs {Δ : Sl} {O : Sto} {P : KD} {E : KX} : dEqLs C S Ta Tb Δ O P E = Ta Δ O (fun x O1 => Tb Δ O1 (fun y O2 => match x, y with
  | .lst xs, .lst ys => EqLs C S xs ys O2 ∧ P (.bl true) O2
  | _, _ => False) E) E := propext Iff.rfl
end
end G

set_option Elab.async false
set_option linter.all false
set_option maxRecDepth 100000
set_option maxHeartbeats 4000000
namespace G
open PySem L2
/-! ## bool(own); own[i] -/
def hBl : D → Sto → KD → Prop := fun d O P => match d with | .bl b => P (.bl b) O | _ => False
def dSubO (tab : List (Cl × DSp)) (Ta Tb : DE) : DE := fun Δ O P E => Ta Δ O (fun x O1 => Tb Δ O1 (fun y O2 => match clsOf O2 x with
  | some c => (match tabAt tab c with | some S => S [x, y] O2 P (fun _ _ => False) | none => False)
  | none => False) E) E
section
variable {g : Gm} {X : Cx} {W : WX} {pos pos' p apos : Pos} {a b c o : Expr} {es : List Expr} {Ta Tb : DE} {R : DA} {k j : Nat} {f : Addr} {S : DSp} {x m : Str} {tab : List (Cl × DSp)}
theorem e_subO {Δ : Sl} {O : Sto} {P : KD} {E : KX} : dSubO tab Ta Tb Δ O P E = Ta Δ O (fun x O1 => Tb Δ O1 (fun y O2 => match clsOf O2 x with
  | some c => (match tabAt tab c with | some S => S [x, y] O2 P (fun _ _ => False) | none => False)
  | none => False) E) E := propext Iff.rfl
theorem h_bl {b : Bool} {O : Sto} {P : KD} : hBl (.bl b) O P = P (.bl b) O := propext Iff.rfl
end
end G

set_option Elab.async false
set_option linter.all false
set_option maxRecDepth 100000
set_option maxHeartbeats 4000000
namespace G
open PySem L2
/-! ## y = [.. for .. in an owned list] on one line -/
section
variable {g : Gm} {X : Cx} {W : WX} {pos : Pos} {tg : Expr} {Ta : DE}
end
end G

set_option Elab.async false
set_option linter.all false
set_option maxRecDepth 100000
set_option maxHeartbeats 4000000
namespace G
open PySem L2
/-! ## a new thing that is taken as the proof likes: owned or frozen -/
def dMayZ (T : DE) : DE := fun Δ O P E => T Δ O (fun d O1 => match d with
  | .ptr a => P (.ptr a) O1 ∨ (match getC O1 a with | some c => (match frzD c with | some d' => P d' (delC O1 a) | none => False) | none => False)
  | _ => False) E
section
variable {g : Gm} {X : Cx} {W : WX} {a : Expr} {Ta : DE}
end
section
variable {Δ : Sl} {O : Sto} {P : KD} {E : KX} {Ta : DE}
theorem e_mayZ : dMayZ Ta Δ O P E = Ta Δ O (fun d O1 => match d with
  | .ptr a => P (.ptr a) O1 ∨ (match getC O1 a with | some c => (match frzD c with | some d' => P d' (delC O1 a) | none => False) | none => False)
  | _ => False) E := propext Iff.rfl
end
end G

set_option Elab.async false
set_option linter.all false
set_option maxRecDepth 100000
set_option maxHeartbeats 4000000
namespace G
open PySem PySem.Spec L2
open PyProof.Rows hiding St
/-! ## xs.index(x) of data -/
def dIdxN (Ta : DE) (R : DA) : DE := fun Δ O P E => Ta Δ O (fun o O1 => match lstOf O1 o with
  | some _ => R Δ O1 (fun as O2 => match as with
    | [y] => ∃ (d : PyData) (ds : List PyData) (j : Nat) (z : PyData), IsPy O2 o (.list ds) ∧ IsPy O2 y d ∧ SeqAt.shaped (.list ds) = true ∧ SeqAt.shaped d = true ∧ ds[j]? = some z ∧ PyData.eqv z d = true ∧ (∀ (m : Nat) (z' : PyData), m < j → ds[m]? = some z' → PyData.eqv z' d = false) ∧ P (.int (j : Int)) O2
    | _ => False) E
  | none => False) E
theorem e_idxN {Ta : DE} {R : DA} {Δ : Sl} {O : Sto} {P : KD} {E : KX} : dIdxN Ta R Δ O P E = Ta Δ O (fun o O1 => match lstOf O1 o with
  | some _ => R Δ O1 (fun as O2 => match as with
    | [y] => ∃ (d : PyData) (ds : List PyData) (j : Nat) (z : PyData), IsPy O2 o (.list ds) ∧ IsPy O2 y d ∧ SeqAt.shaped (.list ds) = true ∧ SeqAt.shaped d = true ∧ ds[j]? = some z ∧ PyData.eqv z d = true ∧ (∀ (m : Nat) (z' : PyData), m < j → ds[m]? = some z' → PyData.eqv z' d = false) ∧ P (.int (j : Int)) O2
    | _ => False) E
  | none => False) E := propext Iff.rfl
section
variable {g : Gm} {X : Cx} {W : WX} {c : Expr} {Ta : DE} {R : DA}
end
end G

set_option Elab.async false
set_option linter.all false
set_option maxRecDepth 100000
set_option maxHeartbeats 4000000
namespace G
open PySem PySem.Spec L2
open PyProof.Rows hiding St
open PySem.Sem (wp)
/-! ## list comprehensions whose element may raise -/
section
variable {M : Model} {A : Around} {E : Value → Shared → Prop} {s : Shared} {Z : Obj → Prop} {base : Heap} {env : Env} {outer l : List Env} {L C e : Addr}
end
section
variable {X : Cx} {Wo : WX} {pins : List (Addr × Obj)} {σ : St} {H3 : Hp} {s3 : Shared} {scope : Scope} {ce : Env} {fp : List Addr} {C : Addr}
end
/-- a comprehension's block over X: where it began, what its iterator is made of -/
structure Blk (X : Cx) (pins : List (Addr × Obj)) (σ : St) (H0 : Hp) (z : Shared) (scope : Scope) (ce : Env) (fp : List Addr) : Prop where
  inv : Inv X pins σ H0 z
  out : ∀ b ∈ fp, FpOk X pins H0 b ∧ b < z.heap.objs.size
  loc : ce.locals = z.heap.objs.size
  frm : ce.frame = X.env.frame
section
variable {X : Cx} {pins : List (Addr × Obj)} {σ : St} {H0 : Hp} {z : Shared} {scope : Scope} {ce : Env} {fp : List Addr}
theorem Blk.ch (B : Blk X pins σ H0 z scope ce fp) : ∀ b ∈ fp, (b ∈ X.ex ∨ X.s_0.heap.objs.size ≤ b) ∧ b ≠ X.env.locals ∧ (∀ x c, X.env.cells.lookup x = some c → c ≠ b) ∧ ∀ p ∈ X.pn ++ pins, p.1 ≠ b := fun b m =>
  let f := (B.out b m).1
  ⟨f.2.2.2.1, f.2.1, f.2.2.2.2.1, f.2.2.2.2.2⟩
/-- what the iterator is made of stands free in the block -/
theorem Blk.free {τ : St} {H : Hp} {s : Shared} (J : Inv (X.blk z H0 scope ce fp) [] τ H s) (h : ∀ b ∈ fp, H b = none) : ∀ b ∈ fp, FpOk (X.blk z H0 scope ce fp) [] H b := fun b m => by
  refine ⟨h b m, (J.ok.exf b m).1, J.ok.exfs b m, .inl m, fun x c e => (J.ok.exf b m).2 x c e, fun p hp => ?_⟩
  cases (show p ∈ ([] : List (Addr × Obj)) from by simpa using hp)
end
/-- .. over plain data -/
def lcDX (Gd : DG) (Tt : DT) (Te : DE) (p : Addr) (P : List D → Sto → Prop) (E : KX) : List D → List D → Sl → Sto → Prop
  | [], acc, _, O => P acc O
  | x :: r, acc, Δ, O => Gd x Δ fun Δ' => Tt Δ' ((p, .lst acc) :: O) (fun k O1 => if k = true
      then Te Δ' O1 (fun y O2 => ∃ O3, O2 = (p, .lst acc) :: O3 ∧ lcDX Gd Tt Te p P E r (acc ++ [y]) Δ O3) (fun x O2 => ∃ O3, Weak O2 O3 ∧ E x O3)
      else ∃ O3, O1 = (p, .lst acc) :: O3 ∧ lcDX Gd Tt Te p P E r acc Δ O3) (fun _ _ => False)
def dLcX (R : DA) (Gd : DG) (Tt : DT) (Te : DE) (vs : List Nat) : DE := fun Δ O P E => R Δ O (fun ds O1 => ds.length ≤ 1000000 ∧ ∀ p, freshC O1 p → lcDX Gd Tt Te p (fun acc O2 => P (.lst acc) O2) E ds [] (wipeD Δ vs) O1) E
section
variable {g : Gm} {X : Cx} {W : WX} {pos pos' : Pos} {a b c tg : Expr} {R : DA}
end
section
variable {Δ : Sl} {O : Sto} {P : KD} {E : KX} {R : DA} {Gd : DG} {Tt : DT} {Te : DE} {vs : List Nat}
theorem e_lcX : dLcX R Gd Tt Te vs Δ O P E = R Δ O (fun ds O1 => ds.length ≤ 1000000 ∧ ∀ p, freshC O1 p → lcDX Gd Tt Te p (fun acc O2 => P (.lst acc) O2) E ds [] (wipeD Δ vs) O1) E := propext Iff.rfl
end
/-! ## try: return e finally: suite -/
def dRetFin (T : DE) (Tf : DS) : DS := fun D Δ O => T Δ O (fun d O1 => Tf { nx := fun _ O2 => D.rt d O2, rt := fun _ _ => False } Δ O1) (fun x O1 => Tf { nx := fun Δ2 O2 => D.xc x Δ2 O2, rt := fun _ _ => False } Δ O1)
section
variable {g : Gm} {X : Cx} {W : WX} {pos rp : Pos} {e : Expr} {f₀ : Stmt} {fs : List Stmt} {T : DE} {Tf : DS}
theorem e_retFin {D : DEnds} {Δ : Sl} {O : Sto} : dRetFin T Tf D Δ O = T Δ O (fun d O1 => Tf { nx := fun _ O2 => D.rt d O2, rt := fun _ _ => False } Δ O1) (fun x O1 => Tf { nx := fun Δ2 O2 => D.xc x Δ2 O2, rt := fun _ _ => False } Δ O1) := propext Iff.rfl
end
end G

set_option Elab.async false
set_option linter.all false
set_option maxRecDepth 100000
set_option maxHeartbeats 4000000
namespace G
open PySem L2
/-! ## all owned dicts of a list are frozen ahead of a statement -/
def frzA : List D → Sto → (List D → Sto → Prop) → Prop
  | [], O, K => K [] O
  | .ptr q :: r, O, K => match getC O q with
    | some (.dic ks ds) => frzA r (delC O q) fun r' O' => K (.dic ks ds :: r') O'
    | _ => False
  | d :: r, O, K => frzA r O fun r' O' => K (d :: r') O'
def dFrzA (i : Nat) (T : DS) : DS := fun D Δ O => match Δ[i]? with
  | some (some (.lst ds)) => frzA ds O fun ds' O' => T D (Δ.set i (some (.lst ds'))) O'
  | _ => False
section
variable {g : Gm} {X : Cx} {W : WX}
end
section
variable {En : DEnds} {Δ : Sl} {O : Sto} {i : Nat} {T : DS}
theorem e_frzA : dFrzA i T En Δ O = dVar i Δ O (fun d O1 => match d with
  | .lst ds => frzA ds O1 fun ds' O' => T En (Δ.set i (some (.lst ds'))) O'
  | _ => False) (fun _ _ => False) := by
  unfold dFrzA dVar
  cases Δ[i]? with
  | none => rfl
  | some o =>
    cases o with
    | none => rfl
    | some d => cases d <;> rfl
end
section
variable {Gd : DG} {Tt : DT} {Te : DE} {p : Addr} {E : KX} {Δ : Sl} {O : Sto}
end
end G

set_option Elab.async false
set_option linter.all false
set_option maxRecDepth 100000
set_option maxHeartbeats 4000000
namespace G
open PySem L2
/-! ## for x in xs, xs a variable that holds an owned or a frozen list -/
def dForB (i : Nat) (G : DG) (B : DS) : DS := fun D Δ O => match Δ[i]? with
  | some (some (.ptr q)) => dForP (dVar i) G B D Δ O
  | _ => dFor (dItL (dVar i)) G B D Δ O
def forB (d : D) (Gd : DG) (B : DS) (En : DEnds) (Δ : Sl) (O : Sto) : Prop := match d with
  | .ptr p => (match getC O p with | some (.lst ds) => forC (heldL p ds) Gd B En ds Δ O | _ => False)
  | .lst ds => forD Gd B En ds Δ O
  | _ => False
theorem e_forB {i : Nat} {Gd : DG} {B : DS} {En : DEnds} {Δ : Sl} {O : Sto} : dForB i Gd B En Δ O = dVar i Δ O (fun d O1 => forB d Gd B En Δ O1) (fun _ _ => False) := by
  unfold dForB dForP dFor dItL dVar forB
  cases e : Δ[i]? with
  | none => simp only [e]
  | some o =>
    cases o with
    | none => simp only [e]
    | some d =>
      cases d with
      | ptr a => first | (simp only [e]; done) | (simp only [e]; rfl)
      | _ => simp only [e]
end G

set_option Elab.async false
set_option linter.all false
set_option maxRecDepth 100000
set_option maxHeartbeats 4000000
namespace PySem.SeqAt
open PySem.AutoSeq1 (wpAny_loadPart')
open MeetsSeq MeetsSeq2 MeetsSeq3
end PySem.SeqAt
namespace G
open PySem L2
/-! ## == and != of lists and frozen dicts, nested: the equal case -/
section
variable {g : Gm} {X : Cx} {pins : List (Addr × Obj)} {σ : St} {H F : Hp} {O : Sto} {s : Shared}
end
section
variable {g : Gm}
end
end G

set_option Elab.async false
set_option linter.all false
set_option maxRecDepth 100000
set_option maxHeartbeats 4000000
namespace G
open PySem PySem.Spec L2
open PyProof.Rows hiding St
/-! ## a set of texts: its members in the order in which they came -/
def tx (e : Int × Value) : PySem.Str := match e.2 with | .str z _ => z | _ => ⟨#[]⟩
def TxOk (w : World) (e : Int × Value) : Prop := ∃ z t, e.2 = Value.str z t ∧ e.1 = hashStr w z
structure TxTab (w : World) (es : Array (Int × Value)) (t : SetTable) (xs : List PySem.Str) : Prop where
  ok : ∀ e ∈ es.toList, TxOk w e
  pm : (es.toList.map tx).Perm xs
  nd : xs.Nodup
  sz : es.size < scanBound
  fit : t.fits es.size = true
  ris : Ris t.place.toList
  led : w.params.followText "set-order" = true ∨ t.led = true
def SetT (w : World) (h : Heap) (a : Addr) (xs : List PySem.Str) : Prop := ∃ o es ep t, h.get? a = some o ∧ o.ExactSet ∧ o.data = .set es ep t ∧ TxTab w es t xs
def addT (xs : List PySem.Str) (z : PySem.Str) : List PySem.Str := if z ∈ xs then xs else xs ++ [z]
section
variable {P : Program} {w : World} {A : Around} {E : Value → Shared → Prop} {s : Shared} {a : Addr} {xs : List PySem.Str} {es : Array (Int × Value)} {t : SetTable}
theorem SetT.stay {h h' : Heap} (R : SetT w h a xs) (k : ∀ o, h.get? a = some o → h'.get? a = some o) : SetT w h' a xs := by
  obtain ⟨o, es, ep, t, ho, r⟩ := R
  exact ⟨o, es, ep, t, k o ho, r⟩
theorem TxOk.is {e : Int × Value} (h : TxOk w e) (z : PySem.Str) : (PySem.strKind P w).is z e.2 = true ↔ tx e = z := by
  obtain ⟨y, tk, h1, _⟩ := h
  unfold tx
  rw [h1]
  constructor
  · intro q
    exact (PySem.strKind P w).inj (.str y tk) y z (strKind_is P w y tk) q
  · rintro rfl
    exact strKind_is P w y tk
theorem TxTab.len (h : TxTab w es t xs) : es.size = xs.length := by rw [← h.pm.length_eq, List.length_map, Array.length_toList]
end
end G

set_option Elab.async false
set_option linter.all false
set_option maxRecDepth 100000
set_option maxHeartbeats 4000000
namespace G
open PySem PySem.Spec L2
open PyProof.Rows hiding St
/-! ## {elt for .. in .. for .. in ..}, elt a text -/
section
variable {P : Program} {w : World} {A : Around} {R : Result → Shared → Prop} {s : Shared} {elt t0 i0 t1 i1 : Expr} {f0 f1 : List Expr} {scope : Scope} {pos : Pos} {it acc : Value} {env : Env}
end
/-! ### as a tracked thing -/
section
variable {X : Cx}
/-! ### the comprehension -/
variable {Y : Cx} {ps : List (Addr × Obj)} {σ τ : L2.St} {H : Hp} {s s1 : Shared} {vs : List Nat} {fp : List Addr}
end
end G

set_option Elab.async false
set_option linter.all false
set_option maxRecDepth 100000
set_option maxHeartbeats 4000000
namespace G
open PySem L2
open PyProof.Rows hiding St
/-! ## sorted({elt for .. in .. for .. in a list}), elt a text -/
section
variable {g : Gm} {F H : Hp} {O : Sto} {C : Addr} {φ ψ : Heap → Prop}
end
def ssD (Gd : DG) (Tt : DT) (Te : DE) (Q : List PySem.Str → Sto → Prop) : List D → List PySem.Str → Sl → Sto → Prop
  | [], xs, _, O => Q xs O
  | x :: r, xs, Δ, O => Gd x Δ fun Δ' => Tt Δ' O (fun k O1 => if k = true
      then Te Δ' O1 (fun y O2 => ∃ z, y = .str z ∧ xs.length < 4000 ∧ ssD Gd Tt Te Q r (addT xs z) Δ O2) (fun _ _ => False)
      else ssD Gd Tt Te Q r xs Δ O1) (fun _ _ => False)
def ss2D (Gd : DG) (Tt : DT) (T1 : DE) (Gd1 : DG) (Tt1 : DT) (Te : DE) (vs1 : List Nat) (P : List PySem.Str → Sto → Prop) : List D → List PySem.Str → Sl → Sto → Prop
  | [], xs, _, O => P xs O
  | x :: r, xs, Δ, O => Gd x Δ fun Δ' => Tt Δ' O (fun k O1 => if k = true
      then T1 Δ' O1 (fun d O2 => match d with
        | .lst ds => ssD Gd1 Tt1 Te (fun xs' O4 => ss2D Gd Tt T1 Gd1 Tt1 Te vs1 P r xs' Δ O4) ds xs (wipeD Δ' vs1) O2
        | _ => False) (fun _ _ => False)
      else ss2D Gd Tt T1 Gd1 Tt1 Te vs1 P r xs Δ O1) (fun _ _ => False)
def dSs2 (R : DA) (Gd : DG) (Tt : DT) (T1 : DE) (Gd1 : DG) (Tt1 : DT) (Te : DE) (vs vs1 : List Nat) : DE := fun Δ O P E => R Δ O (fun ds O1 => ss2D Gd Tt T1 Gd1 Tt1 Te vs1 (fun xs O2 => xs.length < 64 ∧ P (.lst ((srtS xs).map D.str)) O2) ds [] (wipeD Δ vs) O1) E
section
variable {g : Gm} {X : Cx} {W : WX} {pos pos' p : Pos} {a b c tg tg1 : Expr} {R : DA}
end
section
variable {Δ : Sl} {O : Sto} {P : KD} {E : KX} {R : DA} {Gd Gd1 : DG} {Tt Tt1 : DT} {T1 Te : DE} {vs vs1 : List Nat} {p : Addr} {Q : List PySem.Str → Sto → Prop}
theorem e_ss2 : dSs2 R Gd Tt T1 Gd1 Tt1 Te vs vs1 Δ O P E = R Δ O (fun ds O1 => ss2D Gd Tt T1 Gd1 Tt1 Te vs1 (fun xs O2 => xs.length < 64 ∧ P (.lst ((srtS xs).map D.str)) O2) ds [] (wipeD Δ vs) O1) E := propext Iff.rfl
end
end G

set_option Elab.async false
set_option linter.all false
set_option maxRecDepth 100000
set_option maxHeartbeats 4000000
namespace G
open PySem L2
/-! ## i & 1, i >> j, i << j -/
def fAnd1 : B2 := fun x y O P => match x, y with | .int i, .int j => j = 1 ∧ P (.int (i % 2)) O | _, _ => False
def fShr : B2 := fI (fun _ j => 0 ≤ j) fun i j => .int (i / 2 ^ j.toNat)
def fShl : B2 := fI CPow fun i j => .int (i * 2 ^ j.toNat)
section
variable {g : Gm} {X : Cx}
end
section
variable {O : Sto} {P : KD}
theorem f_and1 {i j : Int} : fAnd1 (.int i) (.int j) O P = (j = 1 ∧ P (.int (i % 2)) O) := propext Iff.rfl
theorem f_shr {i j : Int} : fShr (.int i) (.int j) O P = (0 ≤ j ∧ P (.int (i / 2 ^ j.toNat)) O) := propext Iff.rfl
theorem f_shl {i j : Int} : fShl (.int i) (.int j) O P = (CPow i j ∧ P (.int (i * 2 ^ j.toNat)) O) := propext Iff.rfl
end
end G

set_option Elab.async false
set_option linter.all false
set_option maxRecDepth 100000
set_option maxHeartbeats 4000000
namespace G
open PySem L2
/-! ## == and != of dicts of whole numbers, owned or frozen, that are equal; or of None twice -/
section
variable {X : Cx} {pins : List (Addr × Obj)} {σ : L2.St} {H : Hp} {s : Shared} {a : Addr} {ks : List (Key × V)}
end
section
variable {g : Gm}
end
section
variable {O : Sto} {P : KD} {x y : D} {ks : List Key} {ds : List D}
end
end G

set_option Elab.async false
set_option linter.all false
set_option maxRecDepth 100000
set_option maxHeartbeats 4000000
namespace G
open PySem L2
/-! ## cls(*xs), cls(), cls a variable: an object that changes -/
def mkKO (c : Cl) (S : DSp) (ds : List D) (O1 : Sto) (P : KD) (E : KX) : Prop := ∀ q, freshC O1 q → S (.ptr q :: ds) ((q, .ins c [] []) :: O1) (fun r O2 => r = .non ∧ P (.ptr q) O2) (fun x O2 => E x (delC O2 q))
def dMakeCO (tab : List (Cl × DSp)) (Tf : DE) (R : DA) : DE := fun Δ O P E => Tf Δ O (fun f O1 => match f with
  | .cls c => (match tabAt tab c with | some S => R Δ O1 (fun ds O2 => mkKO c S ds O2 P E) E | none => False)
  | _ => False) E
section
variable {g : Gm} {X : Cx} {W : WX} {pos pos' p p2 : Pos} {a b c e : Expr} {es : List Expr} {R : DA} {Ta Tb Tf : DE} {k j : Nat} {x : Str} {tab : List (Cl × DSp)}
end
section
variable {tab : List (Cl × DSp)} {Tf : DE} {R : DA} {Δ : Sl} {O : Sto} {P : KD} {E : KX}
theorem e_makeCO : dMakeCO tab Tf R Δ O P E = Tf Δ O (fun f O1 => match f with
  | .cls c => (match tabAt tab c with | some S => R Δ O1 (fun ds O2 => mkKO c S ds O2 P E) E | none => False)
  | _ => False) E := propext Iff.rfl
end
/-! ## for x in xs, xs a variable that holds a frozen list or a tuple -/
def dForS (i : Nat) (G : DG) (B : DS) : DS := fun D Δ O => match Δ[i]? with
  | some (some (.tup _)) => dFor (dItT (dVar i)) G B D Δ O
  | _ => dFor (dItL (dVar i)) G B D Δ O
def forS (d : D) (Gd : DG) (B : DS) (En : DEnds) (Δ : Sl) (O : Sto) : Prop := match d with
  | .tup ds => forD Gd B En ds Δ O
  | .lst ds => forD Gd B En ds Δ O
  | _ => False
theorem e_forS {i : Nat} {Gd : DG} {B : DS} {En : DEnds} {Δ : Sl} {O : Sto} : dForS i Gd B En Δ O = dVar i Δ O (fun d O1 => forS d Gd B En Δ O1) (fun _ _ => False) := by
  unfold dForS dFor dItL dItT dVar forS
  cases e : Δ[i]? with
  | none => simp only [e]
  | some o =>
    cases o with
    | none => simp only [e]
    | some d =>
      cases d <;> first | (simp only [e]; done) | (simp only [e]; rfl)
end G

set_option Elab.async false
set_option linter.all false
set_option maxRecDepth 100000
set_option maxHeartbeats 4000000
namespace G
open PySem PySem.Spec L2
open PyProof.Rows hiding St
/-! ## list comprehensions whose test may raise -/
section
variable {X : Cx} {pins : List (Addr × Obj)} {σ : St} {H0 : Hp} {z : Shared} {scope : Scope} {ce : Env} {fp : List Addr}
end
/-- .. over plain data -/
def lcDT (Gd : DG) (Tt : DT) (Te : DE) (p : Addr) (P : List D → Sto → Prop) (E : KX) : List D → List D → Sl → Sto → Prop
  | [], acc, _, O => P acc O
  | x :: r, acc, Δ, O => Gd x Δ fun Δ' => Tt Δ' ((p, .lst acc) :: O) (fun k O1 => if k = true
      then Te Δ' O1 (fun y O2 => ∃ O3, O2 = (p, .lst acc) :: O3 ∧ lcDT Gd Tt Te p P E r (acc ++ [y]) Δ O3) (fun x O2 => ∃ O3, Weak O2 O3 ∧ E x O3)
      else ∃ O3, O1 = (p, .lst acc) :: O3 ∧ lcDT Gd Tt Te p P E r acc Δ O3) (fun x O2 => ∃ O3, Weak O2 O3 ∧ E x O3)
def dLcT (R : DA) (Gd : DG) (Tt : DT) (Te : DE) (vs : List Nat) : DE := fun Δ O P E => R Δ O (fun ds O1 => ds.length ≤ 1000000 ∧ ∀ p, freshC O1 p → lcDT Gd Tt Te p (fun acc O2 => P (.lst acc) O2) E ds [] (wipeD Δ vs) O1) E
section
variable {g : Gm} {X : Cx} {W : WX} {pos pos' : Pos} {a b c tg : Expr} {R : DA}
end
section
variable {Δ : Sl} {O : Sto} {P : KD} {E : KX} {R : DA} {Gd : DG} {Tt : DT} {Te : DE} {vs : List Nat}
theorem e_lcT : dLcT R Gd Tt Te vs Δ O P E = R Δ O (fun ds O1 => ds.length ≤ 1000000 ∧ ∀ p, freshC O1 p → lcDT Gd Tt Te p (fun acc O2 => P (.lst acc) O2) E ds [] (wipeD Δ vs) O1) E := propext Iff.rfl
end
end G

set_option Elab.async false
set_option linter.all false
set_option maxRecDepth 100000
set_option maxHeartbeats 4000000
namespace G
open PySem L2
/-! ## == of two dicts of whole numbers that may differ, or of a dict and None -/
section
variable {prog : Program} {w : World} {A : Around} {s : Shared}
end
section
variable {X : Cx}
end
section
variable {g : Gm}
end
end G

set_option Elab.async false
set_option linter.all false
set_option maxRecDepth 100000
set_option maxHeartbeats 4000000
namespace G
open PySem L2 PyProof.Rows
open PySem.Sem (wp)
/-! ## generators that look at their consumer's cells and hand out things with a new cell -/
/-- what is handed out: a thing, or a thing with a new cell -/
structure Yd where
  c : Option Cell
  f : Addr → D
def Yd.ok (y : Yd) (q : Addr) (O : Sto) : Prop := match y.c with | none => True | some _ => freshC O q
def Yd.st (y : Yd) (q : Addr) (O : Sto) : Sto := match y.c with | none => O | some c => (q, c) :: O
def ydP (d : D) : Yd := ⟨none, fun _ => d⟩
section
variable {g : Gm} {P : Program} {w : World} {K : PySem.W.Frag} {mg : Str → Option Value} {base : Heap} {N : List Str} {qual : Str} {sc : Scope} {f : Addr} {cd : Value} {A : Around} {outer : List Env} {L : Nat}
end
end G

set_option Elab.async false
set_option linter.all false
set_option maxRecDepth 100000
set_option maxHeartbeats 4000000
namespace G
open PySem L2 PyProof.Rows
open PySem.Sem (wp)
/-! ## a generator def -/
section
variable {g : Gm} {P : Program} {w : World} {K : PySem.W.Frag} {mg : Str → Option Value} {base : Heap} {N ps : List Str} {x qual : Str} {st : Stmt} {f : Addr} {fd : FuncData} {k : Nat}
end
section
variable {g : Gm} {P : Program} {w : World} {K : PySem.W.Frag} {mg : Str → Option Value} {base : Heap} {N ps : List Str} {x qual : Str} {st : Stmt} {f : Addr} {fd : FuncData} {k : Nat} {t : TG} {Gd : DG} {js : List Nat} {Tp B : DS} {R : DA} {Te : DE} {SG : List D → (Sto → Prop) → List Yd → Prop}
end
end G

set_option Elab.async false
set_option linter.all false
set_option maxRecDepth 100000
set_option maxHeartbeats 4000000
namespace G
open PySem L2 PyProof.Rows
open PySem.Sem (wp)
/-! ## [e for x in g(..)] -/
abbrev DAY := Sl → Sto → ((Sto → Prop) → List Yd → Sto → Prop) → KX → Prop
abbrev DSG := List D → (Sto → Prop) → List Yd → Prop
def dGenC (SG : DSG) (R : DA) : DAY := fun Δ O P E => R Δ O (fun ds O1 => ∃ CO ys, SG ds CO ys ∧ P CO ys O1) E
def dGenM (cs : List Cl) (SG : DSG) (To : DE) : DAY := fun Δ O P E => To Δ O (fun o O1 => ∃ c, clsOf O1 o = some c ∧ c ∈ cs ∧ ∃ CO ys, SG [o] CO ys ∧ P CO ys O1) E
section
variable {g : Gm} {X : Cx} {W : WX} {k j : Nat} {pos p apos : Pos} {a o : Expr} {es : List Expr} {R : DA} {To : DE} {SG : DSG} {x m : Str} {cs : List Cl}
end
def lcY (CO : Sto → Prop) (Gd : DG) (Te : DE) (p : Addr) (P : List D → Sto → Prop) : List Yd → List D → Sl → Sto → Prop
  | [], acc, _, O => CO ((p, .lst acc) :: O) ∧ P acc O
  | y :: r, acc, Δ, O => CO ((p, .lst acc) :: O) ∧ ∀ q, y.ok q ((p, .lst acc) :: O) → Gd (y.f q) Δ fun Δ' => Te Δ' ((p, .lst acc) :: y.st q O) (fun d O2 => ∃ O3, O2 = (p, .lst acc) :: O3 ∧ lcY CO Gd Te p P r (acc ++ [d]) Δ O3) (fun _ _ => False)
def dLcY (RY : DAY) (Gd : DG) (Te : DE) (vs : List Nat) : DE := fun Δ O P E => RY Δ O (fun CO ys O1 => ys.length ≤ 1000000 ∧ ∀ p, freshC O1 p → lcY CO Gd Te p (fun acc O2 => P (.lst acc) O2) ys [] (wipeD Δ vs) O1) E
section
variable {g : Gm} {X : Cx}
end
end G

set_option Elab.async false
set_option linter.all false
set_option maxRecDepth 100000
set_option maxHeartbeats 4000000
namespace G
open PySem L2 PyProof.Rows
open PySem.Sem (wp)
section
variable {g : Gm} {X : Cx} {W : WX} {k j : Nat}
end
end G

set_option Elab.async false
set_option linter.all false
set_option maxRecDepth 100000
set_option maxHeartbeats 4000000
namespace G
open PySem L2 PyProof.Rows
open PySem.Sem (wp)
section
variable {g : Gm} {X : Cx} {W : WX} {k j : Nat}
end
/-! ## those that hand out things without cells of their own -/
theorem Rg.mono {M : Model} {A : Around} {gs : GenState} {s : Shared} {Φ Φ' : End → Shared → Prop} (h : Rg M A gs s Φ) (hΦ : ∀ e z, Φ e z → Φ' e z) : Rg M A gs s Φ' := by
  have key : ∀ {c : Code} {t : Sem PySem.Fin} {fs : List Frame}, Rt M A Φ c t fs s → Rt M A Φ' c t fs s := fun h Γ p h1 h2 => by
    obtain ⟨e, z, r, q⟩ := h Γ p h1 h2
    exact ⟨e, z, r, hΦ e z q⟩
  cases gs with
  | fresh c => exact key h
  | suspended k a c d fs e => exact key h
  | running => exact h
  | finished => exact h
section
variable {g : Gm} {P : Program} {w : World} {K : PySem.W.Frag} {mg : Str → Option Value} {base : Heap} {A : Around} {outer : List Env} {L : Nat} {pins : List (Addr × Obj)} {CO : Sto → Prop}
end
def dPl (RY : DAY) : DA := fun Δ O P E => RY Δ O (fun CO ys O1 => ∃ ds, ys = ds.map ydP ∧ (∀ O, CO O) ∧ P ds O1) E
section
variable {g : Gm} {X : Cx} {W : WX} {k j : Nat} {e : Expr} {RY : DAY}
end
section
variable {Δ : Sl} {O : Sto} {E : KX} {P : KD} {R : DA} {RY : DAY} {Gd : DG} {Te To : DE} {SG : DSG} {cs : List Cl} {Q : (Sto → Prop) → List Yd → Sto → Prop} {Q1 : List D → Sto → Prop} {vs : List Nat}
theorem e_genC : dGenC SG R Δ O Q E = R Δ O (fun ds O1 => ∃ CO ys, SG ds CO ys ∧ Q CO ys O1) E := propext Iff.rfl
theorem e_genM : dGenM cs SG To Δ O Q E = To Δ O (fun o O1 => ∃ c, clsOf O1 o = some c ∧ c ∈ cs ∧ ∃ CO ys, SG [o] CO ys ∧ Q CO ys O1) E := propext Iff.rfl
theorem e_pl : dPl RY Δ O Q1 E = RY Δ O (fun CO ys O1 => ∃ ds, ys = ds.map ydP ∧ (∀ O, CO O) ∧ Q1 ds O1) E := propext Iff.rfl
theorem e_lcY : dLcY RY Gd Te vs Δ O P E = RY Δ O (fun CO ys O1 => ys.length ≤ 1000000 ∧ ∀ p, freshC O1 p → lcY CO Gd Te p (fun acc O2 => P (.lst acc) O2) ys [] (wipeD Δ vs) O1) E := propext Iff.rfl
end
end G

set_option Elab.async false
set_option linter.all false
set_option maxRecDepth 100000
set_option maxHeartbeats 4000000
namespace G
open PySem L2
/-! ## == and != of lists, tuples and dicts, nested, owned or frozen: the equal case -/
section
variable {g : Gm} {X : Cx} {pins : List (Addr × Obj)} {σ : St} {H F : Hp} {O : Sto} {s : Shared}
end
section
variable {g : Gm}
end
end G

set_option Elab.async false
set_option linter.all false
set_option maxRecDepth 100000
set_option maxHeartbeats 4000000
namespace G
open PySem L2
/-! ## not e as a value, e no bool -/
def dNotT (T : DE) : DE := fun Δ O P E => T Δ O (fun d O1 => match truD O1 d with | some k => P (.bl (!k)) O1 | none => False) E
section
variable {g : Gm} {X : Cx} {W : WX} {pos : Pos} {a : Expr} {T : DE}
theorem e_notT {Δ : Sl} {O : Sto} {P : KD} {E : KX} : dNotT T Δ O P E = T Δ O (fun d O1 => match truD O1 d with | some k => P (.bl (!k)) O1 | none => False) E := propext Iff.rfl
end
/-! ## xs.clear() of an owned list -/
end G

set_option Elab.async false
set_option linter.all false
set_option maxRecDepth 100000
set_option maxHeartbeats 4000000
namespace G
open PySem L2 PyProof.Rows
/-! ## methods of texts -/
def dS1 (f : Str → D → Sto → KD → Prop) (Ta Tb : DE) : DE := fun Δ O P E => Ta Δ O (fun x O1 => match x with | .str a => Tb Δ O1 (fun y O2 => f a y O2 P) E | _ => False) E
def LkS1 (g : Gm) (r : V → List V → Hp → VK → Prop) (f : Str → D → Sto → KD → Prop) : Prop := ∀ a y O P F H vy Q, f a y O P → Rep g F y vy → Wd g F O H → VOk g F P Q → r (.str a) [vy] H Q
def dS0 (f : Str → Sto → KD → Prop) (Ta : DE) : DE := fun Δ O P E => Ta Δ O (fun x O1 => match x with | .str a => f a O1 P | _ => False) E
def LkS0 (g : Gm) (r : V → List V → Hp → VK → Prop) (f : Str → Sto → KD → Prop) : Prop := ∀ a O P F H Q, f a O P → Wd g F O H → VOk g F P Q → r (.str a) [] H Q
def fSplit (a : Str) (y : D) (O : Sto) (P : KD) : Prop := match y with | .str b => (b.length == 0) = false ∧ a.length + 2 ≤ PySem.sizeLine ∧ P (.lst ((PySem.Txt.split a b).map D.str)) O | _ => False
def fUpper (a : Str) (O : Sto) (P : KD) : Prop := a.length ≤ 5592405 ∧ P (.str (PySem.Txt.upper a)) O
def fIntS (ds : List D) (O : Sto) (P : KD) : Prop := match ds with | [.str a] => (match PySem.intText? a with | some n => a.length ≤ 640 ∧ P (.int n) O | none => False) | _ => False
section
variable {g : Gm} {X : Cx} {W : WX} {pos pos' p apos : Pos} {a b c o e : Expr} {es : List Expr} {Ta Tb : DE} {R : DA} {k j : Nat}
theorem q_s1 {r : V → List V → Hp → VK → Prop} {f : Str → D → Sto → KD → Prop} (lk : LkS1 g r f) (h : PE X o (tM1 r (le g W Ta) (le g W Tb))) : PE X o (le g W (dS1 f Ta Tb)) := by
  refine pe_imp h fun σ H Q h => ?_
  obtain ⟨Δ, O, P, E, F, hT, sr, w, hv, hx⟩ := h
  refine le_bind hT sr w hx fun d O1 v F1 H1 hT1 s1 sr1 w1 rx hx1 => ?_
  cases d with
  | str z =>
    have ev := Rep.str_iff.mp rx
    subst ev
    exact ⟨⟨z, rfl⟩, le_bind hT1 sr1 w1 hx1 fun d2 O2 v2 F2 H2 hT2 s2 sr2 w2 r2 hx2 => lk z d2 O2 P F2 H2 v2 Q hT2 r2 w2 (hv.mono (s1.trans s2))⟩
  | _ => exact hT1.elim
theorem q_s0 {r : V → List V → Hp → VK → Prop} {f : Str → Sto → KD → Prop} (lk : LkS0 g r f) (h : PE X o (tM0 r (le g W Ta))) : PE X o (le g W (dS0 f Ta)) := by
  refine pe_imp h fun σ H Q h => ?_
  obtain ⟨Δ, O, P, E, F, hT, sr, w, hv, hx⟩ := h
  refine le_bind hT sr w hx fun d O1 v F1 H1 hT1 s1 sr1 w1 rx hx1 => ?_
  cases d with
  | str z =>
    have ev := Rep.str_iff.mp rx
    subst ev
    exact ⟨⟨z, rfl⟩, lk z O1 P F1 H1 Q hT1 w1 (hv.mono s1)⟩
  | _ => exact hT1.elim
theorem reps_strs {F : Hp} : ∀ ys : List Str, Reps g F (ys.map D.str) (ys.map V.str)
  | [] => Reps.nil
  | y :: ys => Reps.cons (Rep.str_iff.mpr rfl) (reps_strs ys)
theorem lk_split : LkS1 g (fun x xs H Q => ∃ a b, x = .str a ∧ xs = [.str b] ∧ (b.length == 0) = false ∧ a.length + 2 ≤ PySem.sizeLine ∧ rNewStrs (PySem.Txt.split a b) H Q) fSplit := by
  intro a y O P F H vy Q h ry w hv
  cases y with
  | str z =>
    have ev := Rep.str_iff.mp ry
    subst ev
    exact ⟨a, z, rfl, rfl, h.1, h.2.1, fun l hl => hv _ _ _ _ _ h.2.2 (w.fsame hl) (w.frozen hl) ((reps_strs _).newL (w.same.free hl))⟩
  | _ => exact h.elim
theorem q_split (ho : PE X o (le g W Ta)) (he : PE X e (le g W Tb)) (hs : starEach [e] X.env = [(false, eval e X.env)] := by rfl) (hbase : attributeBase o "split" X.env (eval o X.env) = eval o X.env := by rfl) (hline : (apos.endLine == pos.line) = true := by rfl) :
    PE X (.Call (.Attribute o "split" apos) [e] [] pos) (le g W (dS1 fSplit Ta Tb)) := q_s1 lk_split (pe_split ho he hs hbase hline)
theorem lk_upper : LkS0 g (fun x xs H Q => ∃ a, x = .str a ∧ xs = [] ∧ a.length ≤ 5592405 ∧ Q (.str (PySem.Txt.upper a)) H) fUpper := by
  intro a O P F H Q h w hv
  exact ⟨a, rfl, rfl, h.1, hv.now h.2 w (Rep.str_iff.mpr rfl)⟩
theorem q_upper (ho : PE X o (le g W Ta)) (hbase : attributeBase o "upper" X.env (eval o X.env) = eval o X.env := by rfl) (hline : (apos.endLine == pos.line) = true := by rfl) :
    PE X (.Call (.Attribute o "upper" apos) [] [] pos) (le g W (dS0 fUpper Ta)) := q_s0 lk_upper (pe_upper ho hbase hline)
theorem lk_intS : LkC g (fun xs H Q => ∃ a n, xs = [.str a] ∧ PySem.intText? a = some n ∧ a.length ≤ 640 ∧ Q (.int n) H) fIntS := by
  intro ds O P F H vs Q hf rs w hv
  unfold fIntS at hf
  split at hf
  · rename_i a
    split at hf
    · rename_i n en
      obtain ⟨u, rfl, h1⟩ := reps1 rs
      have ev := Rep.str_iff.mp h1
      subst ev
      exact ⟨a, n, rfl, en, hf.1, hv.now hf.2 w (Rep.int_iff.mpr rfl)⟩
    · exact hf.elim
  · exact hf.elim
/-! ## a, b, *rest = xs -/
def gStarL (K : PySem.W.Frag) (i n : Nat) (t : TGs) : TG := fun v σ H Q => ∃ a xs, v = .ref a ∧ SqL K H a xs ∧ i < n ∧ n ≤ xs.length + 1 ∧ xs.length ≤ 16384 ∧ ∀ p, H p = none → t (xs.take i ++ [.ref p] ++ (xs.drop i).drop (xs.length + 1 - n)) σ (upd H p (.lst ((xs.drop i).take (xs.length + 1 - n)))) Q
theorem pg_starL {es : List Expr} {kk : Nat} {t : TGs} {i n : Nat} (hc : X.calm = true) (h : PGs X es t)
    (hn : (assignEach es X.env).length = n := by rfl) (hst : (assignEach es X.env).findIdx? (·.1) = some i := by rfl) : PG X (.Tuple es kk pos) (gStarL X.K i n t) := by
  refine ⟨fun pins s σ H v u Q I r hw => ?_⟩
  obtain ⟨a, xs, e1, hq, hi, hnl, hz, hw⟩ := hw
  subst e1
  cases r
  obtain ⟨its, rv, pl, hsz⟩ := I.list hq
  have hl : s.heap.IsList a its.toArray := pl.isList
  have hxl := rv.length
  have hh := I.ok.hd hc
  have hlt : a ≠ s.heap.objs.size := by obtain ⟨o, ho, _⟩ := hl; exact Nat.ne_of_lt (Heap.lt_size ho)
  rw [PyProof.Rows.assign_Tuple]
  refine wpAny_bind (wpAny_standAt ?_)
  unfold unpack
  rw [hn, hst]
  refine wpAny_bind (wpAny_holding ?_)
  unfold unpackItems
  refine wpAny_bind ?_
  unfold notIterableAtAll
  refine wpAny_bind (wpAny_specialOf hl.typeIs slot_list_iter.lookup ?_)
  refine wpAny_pure ?_
  simp only [Bool.false_eq_true, if_false]
  refine wpAny_bind (wpAny_holding (wpAny_pyIter_list hl ?_))
  refine wpAny_bind (wpAny_holding (PySem.W.kun_draw hlt i 0 _ _ ⟨_, Heap.get?_push_size _ rfl, rfl, rfl⟩ (hl.push _) (by simp; omega) fun h₁ hit₁ hs₁ => ?_))
  have hl₁ : h₁.IsList a its.toArray := (hl.push _).extBut hs₁.extBut hlt
  rw [Nat.zero_add] at hit₁
  have hit₁' := hit₁
  obtain ⟨oi, hoi, _⟩ := hit₁'
  have hl₁' := hl₁
  obtain ⟨ol, hol, _⟩ := hl₁'
  rw [List.drop_zero]
  have hfl : (its.take i).length = i := by rw [List.length_take]; omega
  show wpAny _ _ (if (its.take i).length < i then _ else _) _ _ _
  rw [if_neg (show ¬ ((its.take i).length < i) by rw [hfl]; omega)]
  refine wpAny_bind (wpAny_holding (PySem.W.kun_collect (s := { s with heap := h₁ }) (T := "list_iterator") (.inr (.inr (.inl rfl))) (Walks.list (A := X.A.in1) hh s.heap.objs.size a hlt its.toArray) (fun j u st => st.1.typeIs) (k := i) (by simp; omega) ⟨hit₁, hl₁⟩ (Heap.lt_size hoi) (Heap.lt_size hol) (fun h₂ tk hk => ?_) (by rw [PySem.sizeLine_eq]; simp; omega)))
  have hrl : (its.drop i).length = its.length - i := List.length_drop ..
  have hmid : (its.drop i).length - (n - 1 - i) = xs.length + 1 - n := by rw [hrl]; omega
  show wpAny _ _ (if (its.drop i).length < n - 1 - i then _ else _) _ _ _
  rw [if_neg (by rw [hrl]; omega)]
  show wpAny _ _ (newList ((its.drop i).take ((its.drop i).length - (n - 1 - i))) >>= fun d => pure (its.take i ++ [d] ++ (its.drop i).drop ((its.drop i).length - (n - 1 - i)))) _ _ _
  rw [hmid]
  have he : Heap.ExtBut s.heap.objs.size s.heap h₂ := fun b o hb e => hk b o hb (hs₁.extBut b o hb (Heap.get?_push_of_some _ e))
  have I1 : Inv X pins σ H { s with heap := h₂, toks := tk } := I.kept fun b o e => he b o (Nat.ne_of_lt (Heap.lt_size e)) e
  refine wpAny_bind (wpAny_newList ?_ (by rw [List.length_take, hrl, PySem.sizeLine_eq]; omega))
  refine wpAny_pure ?_
  have hp := I1.hok.fresh (Nat.le_refl _)
  have I2 : Inv X pins σ (upd H h₂.objs.size (.lst ((xs.drop i).take (xs.length + 1 - n)))) { s with heap := h₂.push { cls := .type "list", data := .seq ((its.drop i).take (xs.length + 1 - n)).toArray }, toks := tk } :=
    I1.laid (fun b u q => Heap.get?_push_of_some _ q) (Nat.le_refl _) ⟨by rw [List.length_take, List.length_drop]; omega, (its.drop i).take (xs.length + 1 - n), _, (rv.drop i).take _, Heap.get?_push_size _ rfl⟩
  have r1 : Vals [V.ref h₂.objs.size] [Value.ref h₂.objs.size] := .cons rfl .nil
  exact h.run pins _ σ _ _ _ Q I2 (((rv.take i).append r1).append ((rv.drop i).drop _)) (hw _ hp)
/-- what is kept by xs = [a, b, *rest]: the names' slots js, the star's the i-th -/
def dStarL (js : List Nat) (i : Nat) (Ta : DE) : DS := fun D Δ O => Ta Δ O (fun d O1 => match d with
  | .lst ds => js.length ≤ ds.length + 1 ∧ ds.length ≤ 16384 ∧ (match setAll js (ds.take i ++ [.lst ((ds.drop i).take (ds.length + 1 - js.length))] ++ (ds.drop i).drop (ds.length + 1 - js.length)) Δ with | some Δ' => D.nx Δ' O1 | none => False)
  | _ => False) (fun x O1 => D.xc x Δ O1)
theorem qs_starL {es : List Expr} {kk n : Nat} {js : List Nat} {tp : Pos} (i : Nat) (hc : X.calm = true) (hb : PE X a (le g W Ta)) (hg : PGs X es (gNames js)) (hin : i < js.length := by decide) (hK : X.K = g.K := by rfl)
    (hl : (assignEach es X.env).length = js.length := by rfl) (hst : (assignEach es X.env).findIdx? (·.1) = some i := by rfl)
    (hs : swapsWithSole [.Tuple es kk tp] a pos.line X.env = pure false := by rfl) (hw : swappedStores [.Tuple es kk tp] a X.env = pure none := by rfl) (h1 : (assignEach [Expr.Tuple es kk tp] X.env).map (·.2) = [assign (.Tuple es kk tp) X.env] := by rfl) :
    PS X (.Assign [.Tuple es kk tp] a pos) (ls g W (dStarL js i Ta)) := by
  refine ps_imp (ps_asg hb (pg_starL hc hg hl hst) hs hw h1) fun E σ H ⟨D, Δ, O, F, hT, sr, w, ho⟩ => ?_
  refine le_bind hT sr w (ho.toX sr) fun d O1 v F1 H1 hT1 s1 sr1 w1 rx hx1 => ?_
  cases d with
  | lst ds =>
    obtain ⟨h1, h2, h3⟩ := hT1
    split at h3
    · rename_i Δ' e
      obtain ⟨q, us, rfl, hF, hr⟩ := Rep.lst_iff.mp rx
      have hq : SqL X.K H1 q us := .inl (.inl (w1.same _ _ hF))
      have el := hr.length
      refine ⟨q, us, rfl, hq, hin, by omega, by omega, fun p hp => ?_⟩
      have w2 := w1.frozen (o := .lst ((us.drop i).take (us.length + 1 - js.length))) hp
      have s2 := w1.fsame (o := .lst ((us.drop i).take (us.length + 1 - js.length))) hp
      have r1 : Rep g (upd F1 p (.lst ((us.drop i).take (us.length + 1 - js.length)))) (.lst ((ds.drop i).take (us.length + 1 - js.length))) (.ref p) := Reps.newL ((hr.drop i).take _) (w1.same.free hp)
      rw [el] at e
      exact (lkg_names js _ _ σ Δ Δ' _ e ((((hr.take i).mono s2).append (.cons r1 .nil)).append (((hr.drop i).drop _).mono s2)) (sr1.mono s2) w2 fun σ' sr' _ _ => ho.nx _ _ _ _ _ h3 (s1.trans s2) sr' w2).1
    · exact h3.elim
  | _ => exact hT1.elim
end
/-! ## match xs: case [], case [_, _], .. -/
theorem matchSeq_wild {prog : Program} {w : World} {A : Around} {E : Value → Shared → Prop} {s : Shared} {ps : List Pattern} {pos : Pos} {env : Env} {t : Addr} {items : Array Value} {Q : Option (List (Str × Value)) → Shared → Prop}
    (ht : s.heap.IsList t items) (hfit : (items.size : Int) < 2 ^ 63)
    (h : Q (if items.size = ps.length then some [] else none) { s with toks := s.toks + 1 + 1 })
    (hstar : ps.findIdx? (·.isStar) = none := by rfl)
    (hwild : (ps.all fun p => p.isWildcard || (p.isStar && p.names.isEmpty)) = true := by rfl) :
    wpAny (model prog w) A (matchPattern (.MatchSequence ps pos) env (.ref t)) Q E s := by
  rw [arm_matchPattern_MatchSequence]
  refine wpAny_bind (wpAny_standAt ?_)
  refine wpAny_bind (wpAny_collectionFlag ht.typeIs flag_seq_list ?_)
  simp only [Bool.not_true, Bool.false_eq_true, if_false, hstar]
  refine wpAny_bind (pyLen_list ht hfit ?_)
  by_cases c : items.size = ps.length
  · rw [if_pos c] at h
    rw [if_neg (by simp [c])]
    simp only [hwild, if_true]
    exact wpAny_pure h
  · rw [if_neg c] at h
    have hb : ((items.size : Int) != (ps.length : Int)) = true := bne_iff_ne.mpr fun e => c (Int.ofNat.inj e)
    rw [if_pos hb]
    exact wpAny_pure h
/-- the cases of a match, v the subject -/
structure PMs (X : Cx) (cases : List MatchCase) (t : V → TS) : Prop where
  run : ∀ (pins : List (Addr × Obj)) (s : Shared) (σ : L2.St) (H : Hp) (v : V) (u : Value) (E : Ends) (first : Bool), Inv X pins σ H s → RelV v u → t v E σ H → wpAny (model X.prog X.w) X.A (matchCases cases X.env u first) (SP X pins E) X.xe s
theorem pm_len {X : Cx} {ps : List Pattern} {pos : Pos} {body : List Stmt} {rest : List MatchCase} {tb : TS} {tr : V → TS} (hb : PSs X body tb) (hr : PMs X rest tr)
    (hstar : ps.findIdx? (·.isStar) = none := by rfl) (hwild : (ps.all fun p => p.isWildcard || (p.isStar && p.names.isEmpty)) = true := by rfl) :
    PMs X (⟨.MatchSequence ps pos, none, body⟩ :: rest) (fun v E σ H => ∃ a xs, v = .ref a ∧ SqL X.K H a xs ∧ (if xs.length = ps.length then tb E σ H else tr v E σ H)) := by
  refine ⟨fun pins s σ H v u E first I r h => ?_⟩
  obtain ⟨a, xs, rfl, hq, h⟩ := h
  have r' := r
  cases r'
  obtain ⟨its, rv, pl, hsz⟩ := I.list hq
  have hl : s.heap.IsList a its.toArray := pl.isList
  have hxl := rv.length
  have I1 : Inv X pins σ H { s with toks := s.toks + 1 + 1 } := I.tok _
  refine wpAny_matchCases_cons (matchSeq_wild hl (by simp; have := hsz; rw [PySem.sizeLine_eq] at this; omega) ?_ hstar hwild)
  by_cases c : xs.length = ps.length
  · rw [if_pos c] at h
    rw [if_pos (by simp; omega)]
    exact assignInOrder_nil (hb.run pins _ σ H E I1 h)
  · rw [if_neg c] at h
    rw [if_neg (by simp; omega)]
    exact hr.run pins _ σ H _ _ E false I1 r h
theorem pm_wild {X : Cx} {pos : Pos} {body : List Stmt} {rest : List MatchCase} {tb : TS} (hb : PSs X body tb) :
    PMs X (⟨.MatchAs none none pos, none, body⟩ :: rest) (fun _ E σ H => tb E σ H) := by
  refine ⟨fun pins s σ H v u E first I r h => ?_⟩
  refine wpAny_matchCases_cons ?_
  rw [arm_matchPattern_MatchAs]
  exact wpAny_pure (assignInOrder_nil (hb.run pins s σ H E I h))
theorem ps_match {X : Cx} {e : Expr} {te : TE} {cases : List MatchCase} {t : V → TS} {pos : Pos} (he : PE X e te) (hm : PMs X cases t) : PS X (.Match e cases pos) (fun E σ H => te σ H fun v H1 => t v E σ H1) := by
  refine ⟨fun pins s σ H E I h => ?_⟩
  refine wpAny_Match (thn (he.run pins s σ H _ I h) fun u s1 ⟨v, H1, I1, r1, q1⟩ => ?_)
  exact hm.run pins s1 σ H1 v u E true I1 r1 q1
/-- the cases: a length or none (case _), and what is done -/
def dCases : List (Option Nat × DS) → D → DS
  | [], _ => dNext
  | (none, T) :: _, _ => T
  | (some n, T) :: r, d => fun D Δ O => match seqL d with | some ds => if ds.length = n then T D Δ O else dCases r d D Δ O | none => False
where seqL : D → Option (List D)
  | .lst ds => some ds
  | _ => none
def dMat (Ta : DE) (cs : List (Option Nat × DS)) : DS := fun D Δ O => Ta Δ O (fun d O1 => dCases cs d D Δ O1) (fun x O1 => D.xc x Δ O1)
/-- the same, over values -/
def tCases (K : PySem.W.Frag) (g : Gm) (W : WX) : List (Option Nat × DS) → V → TS
  | [], _ => fun E σ H => E.nx σ H
  | (none, T) :: _, _ => ls g W T
  | (some n, T) :: r, v => fun E σ H => ∃ a xs, v = .ref a ∧ SqL K H a xs ∧ (if xs.length = n then ls g W T E σ H else tCases K g W r v E σ H)
section
variable {g : Gm} {X : Cx} {W : WX} {pos p : Pos} {a : Expr} {Ta : DE}
theorem qm_wild {body : List Stmt} {rest : List MatchCase} {T : DS} {cs : List (Option Nat × DS)} (hb : PSs X body (ls g W T)) : PMs X (⟨.MatchAs none none pos, none, body⟩ :: rest) (tCases X.K g W ((none, T) :: cs)) := pm_wild hb
theorem qm_len {ps : List Pattern} {body : List Stmt} {rest : List MatchCase} {T : DS} {cs : List (Option Nat × DS)} {n : Nat} (hb : PSs X body (ls g W T)) (hr : PMs X rest (tCases X.K g W cs)) (hn : ps.length = n := by rfl)
    (hstar : ps.findIdx? (·.isStar) = none := by rfl) (hwild : (ps.all fun p => p.isWildcard || (p.isStar && p.names.isEmpty)) = true := by rfl) : PMs X (⟨.MatchSequence ps pos, none, body⟩ :: rest) (tCases X.K g W ((some n, T) :: cs)) := by
  subst hn
  exact pm_len hb hr hstar hwild
theorem cases_of {K : PySem.W.Frag} {Dn : DEnds} {E : Ends} {Δ : Sl} {O : Sto} {σ : L2.St} {F H : Hp} {d : D} {v : V} (hK : K = g.K) (rx : Rep g F d v) (sr : SRel g F σ Δ) (w : Wd g F O H) (ho : EOk g F W Dn E) : ∀ {cs : List (Option Nat × DS)}, dCases cs d Dn Δ O → tCases K g W cs v E σ H
  | [], h => ho.nx _ _ _ _ _ h (Same.refl F) sr w
  | (none, T) :: _, h => ⟨Dn, Δ, O, F, h, sr, w, ho⟩
  | (some n, T) :: r, h => by
    cases d with
    | lst ds =>
      have h : (if ds.length = n then T Dn Δ O else dCases r (.lst ds) Dn Δ O) := h
      obtain ⟨q, us, rfl, hF, hr⟩ := Rep.lst_iff.mp rx
      have hq : SqL K H q us := .inl (.inl (w.same _ _ hF))
      refine ⟨q, us, rfl, hq, ?_⟩
      rw [← hr.length]
      by_cases c : ds.length = n
      · rw [if_pos c] at h ⊢
        exact ⟨Dn, Δ, O, F, h, sr, w, ho⟩
      · rw [if_neg c] at h ⊢
        exact cases_of hK rx sr w ho h
    | _ => exact h.elim
theorem qs_match {cases : List MatchCase} {cs : List (Option Nat × DS)} (he : PE X a (le g W Ta)) (hm : PMs X cases (tCases X.K g W cs)) (hK : X.K = g.K := by rfl) : PS X (.Match a cases pos) (ls g W (dMat Ta cs)) := by
  refine ps_imp (ps_match he hm) fun E σ H ⟨D, Δ, O, F, hT, sr, w, ho⟩ => ?_
  exact le_bind hT sr w (ho.toX sr) fun d O1 v F1 H1 hT1 s1 sr1 w1 rx hx1 => cases_of hK rx sr1 w1 (ho.mono s1) hT1
end
end G

set_option Elab.async false
set_option linter.all false
set_option maxRecDepth 100000
set_option maxHeartbeats 4000000
namespace G
open PySem L2 PyProof.Rows
/-! ## enumerate(xs, start=k) -/
def dEnumS (k : Int) (R : DA) : DA := fun Δ O P E => R Δ O (fun ds O1 => match ds with
  | [d] => (match d with | .lst xs => P (xs.mapIdx fun i x => .tup [.int (k + (i : Int)), x]) O1 | _ => False)
  | _ => False) E
section
variable {g : Gm} {X : Cx} {W : WX} {pos pos' p p2 tpos kp cp : Pos} {a b c e : Expr} {elts : List Expr} {kk j : Nat} {R : DA} {k : Int}
end
end G

set_option Elab.async false
set_option linter.all false
set_option maxRecDepth 100000
set_option maxHeartbeats 4000000
namespace G
open PySem L2
/-! ## x += text -/
def fAddTx : B2 := fun x y O P => match x, y with
  | .str i, .str j => i.length + j.length ≤ PySem.sizeLine ∧ P (.str (i ++ j)) O
  | _, _ => False
theorem lk_addTx {g : Gm} : Lk2 g (fun x y H Q => ∃ i j, x = .str i ∧ y = .str j ∧ i.length + j.length ≤ PySem.sizeLine ∧ Q (.str (i ++ j)) H) fAddTx := by
  intro x y O P F H vx vy Q hf rx ry w hv
  unfold fAddTx at hf
  split at hf
  · rename_i i j
    exact ⟨i, j, Rep.str_iff.mp rx, Rep.str_iff.mp ry, hf.1, hv.now hf.2 w (Rep.str_iff.mpr rfl)⟩
  · exact hf.elim
section
variable {Δ : Sl} {O : Sto} {P : KD} {E : KX} {Ta Tb : DE} {R : DA} {Dn : DEnds} {Pa : List G.D → Sto → Prop} {js : List Nat} {i : Nat} {k : Int}
theorem e_s1 {f : Str → G.D → Sto → KD → Prop} : dS1 f Ta Tb Δ O P E = Ta Δ O (fun x O1 => match x with | .str a => Tb Δ O1 (fun y O2 => f a y O2 P) E | _ => False) E := propext Iff.rfl
theorem e_s0 {f : Str → Sto → KD → Prop} : dS0 f Ta Δ O P E = Ta Δ O (fun x O1 => match x with | .str a => f a O1 P | _ => False) E := propext Iff.rfl
theorem f_split {a b : Str} : fSplit a (.str b) O P = ((b.length == 0) = false ∧ a.length + 2 ≤ PySem.sizeLine ∧ P (.lst ((PySem.Txt.split a b).map D.str)) O) := propext Iff.rfl
theorem f_upper {a : Str} : fUpper a O P = (a.length ≤ 5592405 ∧ P (.str (PySem.Txt.upper a)) O) := propext Iff.rfl
theorem f_addTx {i j : Str} : fAddTx (.str i) (.str j) O P = (i.length + j.length ≤ PySem.sizeLine ∧ P (.str (i ++ j)) O) := propext Iff.rfl
theorem e_starL : dStarL js i Ta Dn Δ O = Ta Δ O (fun d O1 => match d with
  | .lst ds => js.length ≤ ds.length + 1 ∧ ds.length ≤ 16384 ∧ (match setAll js (ds.take i ++ [.lst ((ds.drop i).take (ds.length + 1 - js.length))] ++ (ds.drop i).drop (ds.length + 1 - js.length)) Δ with | some Δ' => Dn.nx Δ' O1 | none => False)
  | _ => False) (fun x O1 => Dn.xc x Δ O1) := propext Iff.rfl
theorem e_mat {cs : List (Option Nat × DS)} : dMat Ta cs Dn Δ O = Ta Δ O (fun d O1 => dCases cs d Dn Δ O1) (fun x O1 => Dn.xc x Δ O1) := propext Iff.rfl
theorem e_enumS : dEnumS k R Δ O Pa E = R Δ O (fun ds O1 => match ds with
  | [d] => (match d with | .lst xs => Pa (xs.mapIdx fun i x => .tup [.int (k + (i : Int)), x]) O1 | _ => False)
  | _ => False) E := propext Iff.rfl
end
end G

set_option Elab.async false
set_option linter.all false
set_option maxRecDepth 100000
set_option maxHeartbeats 4000000
namespace G
open PySem L2
/-- .. *rest .. -/
theorem pgs_star {X : Cx} {e : Expr} {es : List Expr} {p : Pos} {t : TG} {u : TGs} (h1 : PG X e t) (h2 : PGs X es u) : PGs X (.Starred e p :: es) (gCons t u) := by
  refine ⟨fun pins s σ H vs us Q I r h => ?_⟩
  obtain ⟨v, vr, e1, h⟩ := h
  subst e1
  cases r with
  | cons r rr =>
    show wpAny _ _ (assignInOrder (assign e X.env :: (assignEach es X.env).map (·.2)) _) _ _ _
    refine PyProof.Rows.assignInOrder_cons (thn (h1.run pins s σ H v _ _ I r h) fun _ s1 ⟨σ1, H1, I1, q1⟩ => ?_)
    exact h2.run pins s1 σ1 H1 _ _ Q I1 rr q1
/-! ## [e for x in xs for y in ys(x)], xs an owned list -/
def lc2C (C : Sto → Prop) (Gd : DG) (Tt : DT) (R1 : DA) (Gd1 : DG) (Tt1 : DT) (Te : DE) (vs1 : List Nat) (p : Addr) (P : List D → Sto → Prop) : List D → List D → Sl → Sto → Prop
  | [], acc, _, O => C ((p, .lst acc) :: O) ∧ P acc O
  | x :: r, acc, Δ, O => C ((p, .lst acc) :: O) ∧ Gd x Δ fun Δ' => Tt Δ' ((p, .lst acc) :: O) (fun k O1 => if k = true
      then R1 Δ' O1 (fun ds O2 => ∃ O3, O2 = (p, .lst acc) :: O3 ∧ ds.length ≤ 1000000 ∧ acc.length ≤ 1000000 ∧ lcD Gd1 Tt1 Te p (fun acc' O4 => lc2C C Gd Tt R1 Gd1 Tt1 Te vs1 p P r acc' Δ O4) ds acc (wipeD Δ' vs1) O3) (fun _ _ => False)
      else ∃ O3, O1 = (p, .lst acc) :: O3 ∧ lc2C C Gd Tt R1 Gd1 Tt1 Te vs1 p P r acc Δ O3) (fun _ _ => False)
def dLc2P (T : DE) (Gd : DG) (Tt : DT) (R1 : DA) (Gd1 : DG) (Tt1 : DT) (Te : DE) (vs vs1 : List Nat) : DE := fun Δ O P E => T Δ O (fun d O1 => match d with
  | .ptr q => (match getC O1 q with | some (.lst ds) => ∀ p, freshC O1 p → lc2C (heldL q ds) Gd Tt R1 Gd1 Tt1 Te vs1 p (fun acc O2 => P (.lst acc) O2) ds [] (wipeD Δ vs) O1 | _ => False)
  | _ => False) E
section
variable {g : Gm} {X : Cx} {W : WX} {pos pos' : Pos} {a b c tg tg1 : Expr} {R R1 : DA} {Ta : DE}
end
section
variable {Δ : Sl} {O : Sto} {P : KD} {E : KX} {R1 : DA} {Gd Gd1 : DG} {Tt Tt1 : DT} {Te Ta : DE} {vs vs1 : List Nat} {p : Addr} {Q : List D → Sto → Prop} {C0 : Sto → Prop}
theorem e_lc2P : dLc2P Ta Gd Tt R1 Gd1 Tt1 Te vs vs1 Δ O P E = Ta Δ O (fun d O1 => match d with
  | .ptr q => (match getC O1 q with | some (.lst ds) => ∀ p, freshC O1 p → lc2C (heldL q ds) Gd Tt R1 Gd1 Tt1 Te vs1 p (fun acc O2 => P (.lst acc) O2) ds [] (wipeD Δ vs) O1 | _ => False)
  | _ => False) E := propext Iff.rfl
end
end G

set_option Elab.async false
set_option linter.all false
set_option maxRecDepth 100000
set_option maxHeartbeats 4000000
namespace G
open PySem L2 PyProof.Rows
/-! ## enumerate(xs), xs a tuple -/
set_option maxHeartbeats 1000000 in
theorem meets_enumerate_newO {v : Value} {o : Obj} {H : Heap → Prop} (B : Begins v o H) :
    Meets (Builtin.«enumerate.__new__» ⟨[.type "enumerate", v], []⟩) (fun _ R s => H s.heap ∧
      R (.ok (.ret (.ref (s.heap.push o).objs.size))) { s with heap := (s.heap.push o).push { cls := .type "enumerate", data := .fields #[.none, .bool false, .ref s.heap.objs.size, rawInt 0, .none, .none] } }) :=
  .of_wp fun prog w A R s h => by
    obtain ⟨hp, g, d, tk, os⟩ := s; obtain ⟨h1, h⟩ := h
    have hsub := sub_enumerate
    have q1 : ∀ {A' : Around} {E : Value → Shared → Prop} {Q : Value → Shared → Prop}, Q (.ref hp.objs.size) ⟨hp.push o, g, d, tk, os⟩ → wpAny (model prog w) A' (pyIter v) Q E ⟨hp, g, d, tk, os⟩ :=
      fun q => B.iter prog w _ _ ⟨hp, g, d, tk, os⟩ _ h1 q
    wp_walk using q1
    refine wpAny_stack_any fun st => wpAny_pure ?_
    split
    · rename_i c _ _ _ _ _
      cases (c == Value.type "enumerate")
      · wp_walk using q1
        exact ⟨_, rfl, h⟩
      · wp_walk using q1
        exact ⟨_, rfl, h⟩
    · wp_walk using q1
      exact ⟨_, rfl, h⟩
theorem enum_begins1 {prog : Program} {w : World} {A : Around} {E : Value → Shared → Prop} {s : Shared} {v : Value} {o : Obj} {H : Heap → Prop} {Q : Value → Shared → Prop} (B : Begins v o H) (h1 : H s.heap)
    (h : ∀ h', IsEnum h' (s.heap.objs.size + 1) s.heap.objs.size 0 .none → h'.get? s.heap.objs.size = some o → h'.objs.size = s.heap.objs.size + 2 →
      (∀ b o, s.heap.get? b = some o → h'.get? b = some o) → Q (.ref (s.heap.objs.size + 1)) { s with heap := h' }) :
    wpAny (model prog w) A (call (.type "enumerate") [v]) Q E s := by
  refine callType_new F.called_enumerate (by decide) (F.typeCall_enumerate_1 _) (F.newCall_enumerate_1 _) (fun obj => F.args_object_init_2 obj _) F.entry_enumerate_new
    (meets_enumerate_newO B) ⟨h1, ?_⟩
  have hz : (s.heap.push o).objs.size = s.heap.objs.size + 1 := Heap.size_push ..
  show _ ∧ _
  rw [hz]
  have he : IsEnum ((s.heap.push o).push { cls := .type "enumerate", data := .fields #[.none, .bool false, .ref s.heap.objs.size, rawInt 0, .none, .none] }) (s.heap.objs.size + 1) s.heap.objs.size 0 .none := by
    have := Heap.get?_push_size (s.heap.push o) (o := { cls := .type "enumerate", data := .fields #[.none, .bool false, .ref s.heap.objs.size, rawInt 0, .none, .none] }) rfl
    rw [hz] at this; exact this
  refine ⟨⟨_, he, rfl⟩, h _ he (Heap.get?_push_of_some _ (Heap.get?_push_size _ B.free)) (by rw [Heap.size_push, hz]) fun b o x => Heap.get?_push_of_some _ (Heap.get?_push_of_some _ x)⟩
/-- the tuple at a as it stands at each turn, each item in a new pair, counted from k -/
def ItU (K : PySem.W.Frag) (a : Addr) (k : Int) : It :=
  ⟨fun i H => ∃ (xs : List V) (x : V), SqT K H a xs ∧ xs[i]? = some x, fun i H v H' => ∃ T x, v = .ref T ∧ H T = none ∧ H' = upd H T (.tup [.int (k + (i : Nat)), x]) ∧ ∀ xs, SqT K H a xs → xs[i]? = some x, fun i H => ∃ xs : List V, SqT K H a xs ∧ xs.length ≤ i⟩
theorem next_enum_endU {prog : Program} {w : World} {A : Around} {E : Value → Shared → Prop} {s : Shared} {e it l : Addr} {i : Nat} {c : Int} {items : Array Value} {old : Value} {Q : Option Value → Shared → Prop} (hh : A.handled = none)
    (he : IsEnum s.heap e it c old) (hit : s.heap.IsTupleIter it l i) (hl : s.heap.IsTuple l items) (hx : items[i]? = none)
    (hQ : ∀ h', Heap.ExtBut it s.heap h' → Q none { s with heap := h' }) : wpAny (model prog w) A (pyNext (.ref e)) Q E s := by
  have hT : s.TypeIs (.ref e) "enumerate" := ⟨_, he, rfl⟩
  unfold pyNext
  refine wpAny_bind (wpAny_attempt (wpAny_callSpecial?_slot (name := Str.ofString "__next__") hT F.slot_enumerate_next
    (wpAny_call_entry F.slot_enumerate_next hT F.entry_enumerate_next ?_ (F.args_enumerate_next_1 _))))
  show wpAny _ _ (field (.ref e) 2 >>= _) _ _ _
  refine wpAny_bind (wpAny_field he rfl (x := .ref it) rfl ?_)
  refine wpAny_bind (wpAny_nextOf_tuple_end hh hit hl hx fun h' x he' hx' => ?_)
  obtain ⟨o, ho, hc⟩ := hx'
  refine wpAny_bind (wpAny_isInstance (T := "StopIteration") (b := true) ⟨o, ho, hc⟩ isSubtype_stop ?_)
  exact wpAny_pure (hQ _ he')
theorem turn_enumU {P : Program} {w : World} {K : PySem.W.Frag} {elts : List Expr} {kk : Nat} {tpos : Pos} (k : Int) (a e it : Addr) :
    Turn P w K (.Tuple elts kk tpos) (ItU K a k) [e, it] e (fun i h => (∃ old, IsEnum h e it (k + ((i : Nat) : Int)) old) ∧ h.IsTupleIter it a i ∧ e ≠ it) where
  mem := by simp
  obj := fun i h st b hb => by
    obtain ⟨⟨old, he⟩, ⟨o, ho, hc, hd⟩, _⟩ := st
    have e' : b = e ∨ b = it := by simpa using hb
    rcases e' with z | z
    · rw [z]; exact ⟨_, he, fun v q => nomatch q⟩
    · rw [z]; exact ⟨o, ho, fun v q => by rw [hd] at q; cases q⟩
  keep := fun i h h' st k => let ⟨⟨old, he⟩, hi, hne⟩ := st; ⟨⟨old, k e (by simp) _ he⟩, hi.at fun o q => k it (by simp) o q, hne⟩
  item := by
    intro X hP hw hK hc i pins s σ H E I hf st hg
    subst hP hw hK
    obtain ⟨⟨old, he⟩, hit, hne⟩ := st
    obtain ⟨xs, x, hq, hx⟩ := hg
    obtain ⟨its, rv, p, hz⟩ := I.tuple hq
    obtain ⟨u, hu, ru⟩ := rv.get hx
    have hel : e < s.heap.objs.size := Heap.lt_size he
    have hil : it < s.heap.objs.size := by obtain ⟨_, q, _⟩ := hit; exact Heap.lt_size q
    have hil2 : i < its.length := by
      rcases Nat.lt_or_ge i its.length with c | c
      · exact c
      · rw [List.getElem?_eq_none c] at hu; cases hu
    have hae : a ≠ e := by
      obtain ⟨o, ho, hcl, _⟩ := (show s.heap.IsTuple a its.toArray from p)
      intro z
      rw [z] at ho
      have h8 := Option.some.inj (ho.symm.trans he)
      rw [h8] at hcl
      exact absurd (Value.type.inj (show Value.type "enumerate" = .type "tuple" from hcl)) (by decide)
    have hai : a ≠ it := by
      obtain ⟨o, ho, hcl, _⟩ := (show s.heap.IsTuple a its.toArray from p)
      obtain ⟨o2, ho2, hc2, _⟩ := hit
      intro z
      rw [z, ho2] at ho
      cases ho
      rw [hcl] at hc2
      exact absurd (Value.type.inj hc2) (by decide)
    refine wpAny_pyNext_enum_itemC (Draws.tuple (show X.A.in1.handled = none from I.ok.hd hc) it a hai its.toArray) he ⟨hit, (show s.heap.IsTuple a its.toArray from p)⟩ (by simpa using hil2) hne (by simp [hne, hae.symm]) fun x9 h' tk hP ho hs' hT hsz hk => ?_
    have hx9 : x9 = u := by
      have h2 : its.toArray[i]? = some x9 := hP
      have h3 : its[i]? = some x9 := by simpa using h2
      rw [hu] at h3
      exact (Option.some.inj h3).symm
    subst hx9
    obtain ⟨hit', _⟩ := hs'
    refine ⟨_, rfl, wpAny_letOwnedTupleGo_enum (s := { s with heap := h', toks := tk + 1 }) ho fun h'' he' sb => ?_⟩
    have hT2 : h''.get? s.heap.objs.size = some { cls := .type "tuple", data := .seq #[.int (k + (i : Nat)) tk, x9] } := (sb.2 _ (Nat.ne_of_gt hel)).trans hT
    have new : ObjOk X.prog X.w (upd H s.heap.objs.size (.tup [.int (k + (i : Nat)), x])) h'' s.heap.objs.size (.tup [.int (k + (i : Nat)), x]) :=
      ⟨by show 2 ≤ PySem.sizeLine; decide, [.int (k + (i : Nat)) tk, x9], .cons ⟨_, rfl⟩ (.cons ru .nil), ⟨_, hT2, rfl, _, rfl⟩⟩
    have I1 : Inv X pins σ (upd H s.heap.objs.size (.tup [.int (k + (i : Nat)), x])) { s with heap := h'', toks := tk + 1 } :=
      I.turnedNew (ch := [e, it]) (fun b ob hb q => (sb.2 b (fun z => hb (by simp [z]))).trans (hk b ob (fun z => hb (by simp [z])) (fun z => hb (by simp [z])) q)) hf (Nat.le_refl _) new
    refine ⟨.ref s.heap.objs.size, _, I1, rfl, ⟨_, x, rfl, I.hok.fresh (Nat.le_refl _), rfl, fun ys hy => by rw [I.tuple_inj hy hq]; exact hx⟩, ⟨⟨x9, ?_⟩, hit'.at fun o q => (sb.2 it (Ne.symm hne)).trans q, hne⟩, fun b hb => ?_⟩
    · have e1 : k + ((i + 1 : Nat) : Int) = k + (i : Int) + 1 := by omega
      rw [e1]; exact he'
    · have hb' : b < s.heap.objs.size := by
        have e' : b = e ∨ b = it := by simpa using hb
        rcases e' with z | z
        · rw [z]; exact hel
        · rw [z]; exact hil
      rw [upd_ne (Nat.ne_of_lt hb')]
      exact (hf b hb).1
  done := by
    intro X hP hw hK hc i pins s σ H E I hf st hg
    subst hP hw hK
    obtain ⟨⟨old, he⟩, hit, hne⟩ := st
    obtain ⟨xs, hq, hx⟩ := hg
    obtain ⟨its, rv, p, hz⟩ := I.tuple hq
    obtain ⟨f0, f1, f2, f3, f4, f5⟩ := hf it (by simp)
    have hl := rv.length
    exact next_enum_endU (I.ok.hd hc) he hit (show s.heap.IsTuple a its.toArray from p) (by simp; omega) fun h' eb => ⟨rfl, I.turned (t' := s.toks) (fun b o hb q => eb b o hb q) f0 f1 f3 f4 f5⟩
  self := fun A i s Q E st h => let ⟨⟨_, he⟩, _⟩ := st; wpAny_pyIter_enum he h
def iEnumU (K : PySem.W.Frag) (ta : TA) : TI := fun σ H R => ta σ H fun vs H1 => ∃ a xs, vs = [.ref a] ∧ SqT K H1 a xs ∧ R (ItU K a 0) H1
theorem pi_enumU {X : Cx} {e : Expr} {ta : TA} {p pos tpos : Pos} {elts : List Expr} {kk : Nat} (hg : Gl X "enumerate") (hm : X.mg "enumerate" = none) (ha : PA X [e] ta) (hs : starEach [e] X.env = [(false, eval e X.env)] := by rfl) :
    PI X (.Tuple elts kk tpos) (.Call (.Name "enumerate" p) [e] [] pos) (iEnumU X.K ta) := by
  refine ⟨fun pins s σ H R I h => ?_⟩
  refine Call_ (ld_blt I hg hm boot_enumerate (PyProof.Rows.callWith_type1 (thn (ha.run pos pins s σ H _ I h) fun us s1 ⟨vs, H1, I1, r1, q1⟩ => ?_) hs rfl))
  obtain ⟨a, xs, ex, hq, q⟩ := q1
  subst ex
  cases r1 with
  | cons r rr =>
    cases rr
    cases r
    obtain ⟨its, rv, p', hz⟩ := I1.tuple hq
    refine enum_begins1 (begins_tuple a its.toArray) p' fun h' he hit hsz hk => wpAny_pyIter_enum he ?_
    have I2 : Inv X pins σ H1 { s1 with heap := h' } := I1.kept (t' := s1.toks) hk
    refine ⟨s1.heap.objs.size + 1, [s1.heap.objs.size + 1, s1.heap.objs.size], _, _, H1, rfl, I2, turn_enumU 0 a (s1.heap.objs.size + 1) s1.heap.objs.size, ⟨⟨.none, by rw [show (0 : Int) + ((0 : Nat) : Int) = 0 by omega]; exact he⟩, ⟨_, hit, rfl, rfl⟩, Nat.succ_ne_self _⟩, fun b hb => ?_, q⟩
    have e' : b = s1.heap.objs.size + 1 ∨ b = s1.heap.objs.size := by simpa using hb
    have hle : s1.heap.objs.size ≤ b := by
      rcases e' with z | z
      · rw [z]; exact Nat.le_add_right _ _
      · rw [z]; exact Nat.le_refl _
    exact I1.fpOk hle (I1.hok.fresh hle)
def dEnumU (R : DA) : DA := fun Δ O P E => R Δ O (fun ds O1 => match ds with
  | [d] => (match d with | .tup xs => P (xs.mapIdx fun i x => .tup [.int (i : Int), x]) O1 | _ => False)
  | _ => False) E
section
variable {g : Gm} {X : Cx} {W : WX} {pos pos' p p2 tpos kp cp : Pos} {a b c e : Expr} {elts : List Expr} {kk j : Nat} {R : DA}
theorem gives_enumU {F : Hp} {q : Addr} {vs : List V} {ds : List D} (h : SqT g.K F q vs) (r : Reps g F ds vs) : Gives g F (ItU g.K q 0) (ds.mapIdx fun i x => .tup [.int (i : Int), x]) := by
  refine ⟨fun i d F' O H e s w => ?_, fun i F' O H e s w => ⟨vs, sqt_same (s.trans w.same) h, by rw [← r.length]; simpa using e⟩⟩
  rw [List.getElem?_mapIdx] at e
  cases ed : ds[i]? with
  | none => rw [ed] at e; cases e
  | some d0 =>
    rw [ed] at e
    cases e
    obtain ⟨v, hv, rv⟩ := r.get ed
    have hs : SqT g.K H q vs := sqt_same (s.trans w.same) h
    refine ⟨⟨vs, v, hs, hv⟩, fun x H' ⟨T, y, ex, hT, eH, hy⟩ => ?_⟩
    have z := hy vs hs
    rw [hv] at z
    cases z
    subst ex
    subst eH
    have ei : (0 : Int) + ((i : Nat) : Int) = (i : Int) := by omega
    rw [ei]
    exact ⟨_, w.fsame hT, w.frozen hT, (Reps.cons rint (Reps.one (rv.mono s))).newT (w.same.free hT)⟩
theorem qi_enumU (hm : X.mg "enumerate" = none) (ha : PA X [a] (la g W R)) (hg : Gl X "enumerate" := by rfl) (hK : X.K = g.K := by rfl) (hs : starEach [a] X.env = [(false, eval a X.env)] := by rfl) :
    PI X (.Tuple elts kk tpos) (.Call (.Name "enumerate" p) [a] [] pos) (li g W (dEnumU R)) := by
  refine pi_imp (pi_enumU hg hm ha hs) fun σ H Rr h => ?_
  obtain ⟨Δ, O, P, E, F, hT, sr, w, hR, hx⟩ := h
  refine la_bind hT sr w hx fun ds O1 vs F1 H1 hT1 s1 sr1 w1 rs hx1 => ?_
  split at hT1
  · split at hT1
    · rename_i xs
      obtain ⟨u, rfl, h1⟩ := reps1 rs
      obtain ⟨q, us, rfl, h2, h3⟩ := Rep.tup_sq h1
      exact ⟨q, us, rfl, by rw [hK]; exact sqt_same w1.same h2, hR _ _ _ _ _ hT1 s1 w1 (by rw [hK]; exact gives_enumU h2 h3)⟩
    · exact hT1.elim
  · exact hT1.elim
theorem e_enumU {Δ : Sl} {O : Sto} {Pa : List D → Sto → Prop} {E : KX} : dEnumU R Δ O Pa E = R Δ O (fun ds O1 => match ds with
  | [d] => (match d with | .tup xs => Pa (xs.mapIdx fun i x => .tup [.int (i : Int), x]) O1 | _ => False)
  | _ => False) E := propext Iff.rfl
end
end G

set_option Elab.async false
set_option linter.all false
set_option maxRecDepth 100000
set_option maxHeartbeats 4000000
namespace G
open PySem L2 PyProof.Rows
/-! ## a, b = xs, xs a list -/
def gTupL (K : PySem.W.Frag) (n : Nat) (t : TGs) : TG := fun v σ H Q => ∃ a xs, v = .ref a ∧ SqL K H a xs ∧ xs.length = n ∧ t xs σ H Q
theorem pg_tupL {X : Cx} {es : List Expr} {k : Nat} {t : TGs} {n : Nat} {pos : Pos} (hc : X.calm = true) (h : PGs X es t)
    (hn : (assignEach es X.env).length = n := by rfl) (hst : (assignEach es X.env).findIdx? (·.1) = none := by rfl) : PG X (.Tuple es k pos) (gTupL X.K n t) := by
  refine ⟨fun pins s σ H v u Q I r hw => ?_⟩
  obtain ⟨a, xs, e1, hq, hl, hw⟩ := hw
  subst e1
  cases r
  obtain ⟨its, rv, pl, hz⟩ := I.list hq
  have hL : s.heap.IsList a its.toArray := pl.isList
  have hxl := rv.length
  rw [PyProof.Rows.assign_Tuple]
  refine wpAny_bind (wpAny_standAt ?_)
  unfold unpack
  rw [hn, hst]
  have e2 : n = its.toArray.size := by simp; omega
  rw [e2]
  refine wpAny_bind (wpAny_holding (PySem.W.kun_itemsOf (I.ok.hd hc) hL fun h' he => ?_))
  have I1 : Inv X pins σ H { s with heap := h' } := I.kept (t' := s.toks) fun b o e => he b o (Nat.ne_of_lt (Heap.lt_size e)) e
  exact h.run pins _ σ H xs _ Q I1 (by simpa using rv) hw
def dgTL (is : List Nat) : DG := fun d Δ Q => match d with | .lst ds => (match setAll is ds Δ with | some Δ' => Q Δ' | none => False) | _ => False
theorem lkg_tupL {g : Gm} (is : List Nat) : LkG g (gTupL g.K is.length (gNames is)) (dgTL is) is := by
  intro d v σ Δ F O H P Q hG rv sr w k
  cases d with
  | lst ds =>
    have hG : (match setAll is ds Δ with | some Δ' => P Δ' | none => False) := hG
    split at hG
    · rename_i Δ' e
      obtain ⟨q, us, rfl, hF, hr⟩ := Rep.lst_iff.mp rv
      obtain ⟨z1, z2⟩ := lkg_names is ds us σ Δ Δ' Q e hr sr w fun σ' sr' h1 h2 => k Δ' σ' hG sr' h1 h2
      exact ⟨q, us, rfl, .inl (.inl (w.same _ _ hF)), z2, z1⟩
    · exact hG.elim
  | _ => exact hG.elim
theorem e_gtl2 {i j : Nat} {a b : D} {Δ : Sl} {Q : Sl → Prop} : dgTL [i, j] (.lst [a, b]) Δ Q = Q ((Δ.set i (some a)).set j (some b)) := propext Iff.rfl
theorem e_gtl3 {i j k : Nat} {a b c : D} {Δ : Sl} {Q : Sl → Prop} : dgTL [i, j, k] (.lst [a, b, c]) Δ Q = Q (((Δ.set i (some a)).set j (some b)).set k (some c)) := propext Iff.rfl
end G

set_option Elab.async false
set_option linter.all false
set_option maxRecDepth 100000
set_option maxHeartbeats 4000000
namespace HT
open PySem PySem.Spec PyProof.Rows
section
variable {prog : Program} {w : World} {A : Around} {E : Value → Shared → Prop} {s : Shared}
end
end HT
namespace L2
open PySem PySem.Spec PyProof.Rows HT
section
variable {X : Cx}
end
end L2
namespace G
open PySem L2
/-! ## t[::-1] of a tuple -/
section
variable {g : Gm} {X : Cx} {W : WX} {pos pos' p : Pos} {a b c : Expr} {Ta Tb : DE}
end
end G

set_option Elab.async false
set_option linter.all false
set_option maxRecDepth 100000
set_option maxHeartbeats 4000000
/-! AX: errors in the air whose chain of contexts is known: at most n long. -/
namespace AX
open PySem PySem.Spec PyProof.Rows L2
/-- class, dict and context of an error's object -/
def Zv (cl : Value) (d : Option Addr) (v : Value) : Obj → Prop := fun o => o.cls = cl ∧ o.dict = d ∧ ∀ ws : Array Value, o.data = .fields ws → ws[2]? = some v
theorem set_at {ws : Array Value} {i j : Nat} {x y : Value} (ne : i ≠ j) (h : ws[j]? = some y) : (ws.setIfInBounds i x)[j]? = some y := HotX.set_other ne h
theorem ctx_steady {v : Value} : PXN.Steady1 (fun o : Obj => ∀ ws : Array Value, o.data = .fields ws → ws[2]? = some v) := fun o u h => by
  obtain ⟨c, d, dt, sl⟩ := o
  cases dt with
  | fields w0 =>
    intro ws e
    have e2 : w0.setIfInBounds 1 u = ws := Data.fields.inj e
    rw [← e2]
    exact set_at (by decide) (h w0 rfl)
  | _ =>
    intro ws e
    first
    | exact Data.noConfusion e
    | cases e
theorem Zv.steady {cl : Value} {d : Option Addr} {v : Value} : PXN.Steady1 (Zv cl d v) := fun o u h => ⟨PXN.steady_cls o u h.1, PXN.steady_dict o u h.2.1, ctx_steady o u h.2.2⟩
theorem Zv.zc {cl : Value} {d : Option Addr} {v : Value} {o : Obj} (h : Zv cl d v o) : Zc cl d o := ⟨h.1, h.2.1⟩
/-- the chain that begins with v ends within n objects of the ground, none of them tracked -/
def Ch (B : Heap) (H : Hp) : Nat → Value → Prop
  | 0, v => v = .none
  | n + 1, v => v = .none ∨ ∃ (x : Addr) (o : Obj) (ws : Array Value) (u : Value), v = .ref x ∧ B.get? x = some o ∧ o.data = .fields ws ∧ ws[2]? = some u ∧ H x = none ∧ Ch B H n u
theorem Ch.none {B : Heap} {H : Hp} : ∀ {n : Nat}, Ch B H n .none
  | 0 => rfl
  | _ + 1 => .inl rfl
theorem Ch.up {B : Heap} {H : Hp} : ∀ {n : Nat} {v : Value}, Ch B H n v → Ch B H (n + 1) v
  | 0, _, h => .inl h
  | _ + 1, _, h => h.elim .inl fun ⟨x, o, ws, u, a, b, c, d, e, f⟩ => .inr ⟨x, o, ws, u, a, b, c, d, e, f.up⟩
/-- an error in the air of X: sJ is the state without it -/
def XE (n : Nat) (X : Cx) (W : WX) (u : Value) (s' : Shared) : Prop :=
  ∃ (a : Addr) (B : Heap) (sJ : Shared) (ps : List (Addr × Obj)) (τ : L2.St) (H : Hp) (cl : Value) (d : Option Addr) (v : Value),
    u = .ref a ∧ Inv X ps τ H sJ ∧ (∀ b o, sJ.heap.get? b = some o → b ∉ frs X.stack → B.get? b = some o) ∧ sJ.heap.UpToSlots s'.heap ∧
      Sky B X.stack a (Zv cl d v) X.env.locals s'.heap ∧ H a = none ∧ s'.os = sJ.os ∧ AllBare s'.gens ∧ Ch B H n v ∧ W cl d τ H
def Takes (n : Nat) (X : Cx) (W : WX) : Prop := ∀ u s', XE n X W u s' → X.xe u s'
/-- behind a call that let an error out -/
def CX (n : Nat) (P : Program) (w : World) (outer : List Env) (H : Hp) (s : Shared) (E : XK) (u : Value) (s' : Shared) : Prop :=
  ∃ (a : Addr) (B : Heap) (H' : Hp) (cl : Value) (d : Option Addr) (v : Value), u = .ref a ∧ HandSPX.FlyingZ B outer a (Zv cl d v) s'.heap ∧ HOk P w H' B ∧ UB (frs outer) H H' s.heap B s'.heap ∧ H' a = none ∧ s'.os = s.os ∧ AllBare s'.gens ∧ Ch B H' n v ∧ E cl d H'
theorem sky_imp {B h : Heap} {l : List Env} {a L : Addr} {Z Z' : Obj → Prop} (z : ∀ o, Z o → Z' o) (x : Sky B l a Z L h) : Sky B l a Z' L h := by
  rcases x with ⟨h1, h2, h3, oe, ws, h4, h5, h6, h7⟩ | x | x
  · exact .inl ⟨h1, h2, h3, oe, ws, h4, z _ h5, h6, h7⟩
  · exact .inr (.inl (L2H.flyingZ_imp z x))
  · refine .inr (.inr ?_)
    obtain ⟨h1, h2, h3, h4⟩ := x
    refine ⟨h1, h2, h3, ?_⟩
    obtain ⟨oe, vs, T, oT, ts, he, hz, r⟩ := h4
    exact ⟨oe, vs, T, oT, ts, he, z _ hz, r⟩
section
variable {X : Cx} {pins : List (Addr × Obj)} {σ : L2.St} {H : Hp} {sI s s' : Shared} {B : Heap} {W : WX} {E : XK} {n : Nat}
theorem XE.up {u : Value} (x : XE n X W u s') : XE (n + 1) X W u s' := by
  obtain ⟨a, B, sJ, ps, τ, H, cl, d, v, h1, h2, h3, h4, h5, h6, h7, h8, h9, h10⟩ := x
  exact ⟨a, B, sJ, ps, τ, H, cl, d, v, h1, h2, h3, h4, h5, h6, h7, h8, h9.up, h10⟩
theorem XE.old {u : Value} (x : XE n X W u s') : L2.XE X W u s' := by
  obtain ⟨a, B, sJ, ps, τ, H, cl, d, v, h1, h2, h3, h4, h5, h6, h7, h8, _, h10⟩ := x
  exact ⟨a, B, sJ, ps, τ, H, cl, d, h1, h2, h3, h4, sky_imp (fun _ z => z.zc) h5, h6, h7, h8, h10⟩
theorem Takes.imp {W' : WX} (t : Takes n X W) (h : ∀ c d τ H, W' c d τ H → W c d τ H) : Takes n X W' := fun u s' ⟨a, B, sJ, ps, τ, H, cl, d, v, h1, h2, h3, h4, h5, h6, h7, h8, h9, h10⟩ => t u s' ⟨a, B, sJ, ps, τ, H, cl, d, v, h1, h2, h3, h4, h5, h6, h7, h8, h9, h _ _ _ _ h10⟩
theorem Takes.of_old (t : L2.Takes X W) : Takes n X W := fun u s' x => t u s' x.old
theorem CX.up {P : Program} {w : World} {outer : List Env} {u : Value} (x : CX n P w outer H s E u s') : CX (n + 1) P w outer H s E u s' := by
  obtain ⟨a, B, H', cl, d, v, h1, h2, h3, h4, h5, h6, h7, h8, h9⟩ := x
  exact ⟨a, B, H', cl, d, v, h1, h2, h3, h4, h5, h6, h7, h8.up, h9⟩
theorem CX.old {P : Program} {w : World} {outer : List Env} {u : Value} (x : CX n P w outer H s E u s') : L2.CX P w outer H s E u s' := by
  obtain ⟨a, B, H', cl, d, v, h1, h2, h3, h4, h5, h6, h7, _, h9⟩ := x
  exact ⟨a, B, H', cl, d, h1, L2H.flyingZ_imp (fun _ z => z.zc) h2, h3, h4, h5, h6, h7, h9⟩
theorem XE.of_call (I : Inv X pins σ H s) (hW : ∀ cl d H', E cl d H' → W cl d σ H') {u : Value} (c : CX n X.prog X.w X.stack H s E u s') : XE n X W u s' := by
  obtain ⟨a, B, H', cl, d, v, rfl, fl, hok, ub, na, os, ag, hc, hE⟩ := c
  obtain ⟨Gh, g1, g2⟩ := restrict s'.heap fun b => (B.get? b).isSome || decide (b ∈ frs X.stack)
  have st : B.StaysIn s'.heap := fl.1
  have inG : ∀ b o, B.get? b = some o → Gh.get? b = some o := fun b o e => (g1 b (by simp [e])).trans (st b o e)
  have frG : ∀ b, b ∈ frs X.stack → Gh.get? b = s'.heap.get? b := fun b hb => g1 b (by simp [hb])
  have ofG : ∀ b o, Gh.get? b = some o → s'.heap.get? b = some o ∧ ((B.get? b).isSome = true ∨ b ∈ frs X.stack) := fun b o e => by
    cases q : ((B.get? b).isSome || decide (b ∈ frs X.stack)) with
    | false => rw [g2 b q] at e; cases e
    | true => exact ⟨(g1 b q) ▸ e, by simpa [Bool.or_eq_true] using q⟩
  refine ⟨a, B, { s with heap := Gh, gens := s'.gens, drawn := s'.drawn, toks := s'.toks }, pins, σ, H', cl, d, v, rfl, ?_, fun b o e hb => ?_, Heap.UpToSlots.of_keeps fun b o e => (ofG b o e).1, .inr (.inl fl), na, os, ag, hc, hW _ _ _ hE⟩
  · refine I.call (ch := []) ⟨fun b o e k hb _ => inG b o (ub.keep b o e k hb), fun b o e k hb _ => ?_, fun b o e k _ => ub.free b o e k, fun b o e _ => ?_, ub.tups, ub.frzs, ub.tbls⟩ (hok.kept inG) ag (fun _ z => nomatch z)
    · obtain ⟨sl, q⟩ := ub.slot b o e hb
      exact ⟨sl, (frG b hb).trans q⟩
    · by_cases hb : b ∈ frs X.stack
      · obtain ⟨sl, q⟩ := ub.slot b o e hb
        exact ⟨_, (frG b hb).trans q⟩
      · obtain ⟨o', q⟩ := ub.there b o e hb
        exact ⟨o', inG b o' q⟩
  · obtain ⟨e', h⟩ := ofG b o e
    rcases h with h | h
    · obtain ⟨o', q⟩ := Option.isSome_iff_exists.mp h
      have z := st b o' q
      rw [e'] at z
      cases z
      exact q
    · exact absurd h hb
/-- what the ground of a new error keeps: all but the frames -/
theorem ch_hide {H : Hp} {l : List Addr} {h : Heap} : ∀ {n : Nat} {v : Value}, Ch h H n v → (∀ x o, h.get? x = some o → (∃ ws, o.data = .fields ws) → x ∉ l) → Ch (PySem.W.hideAll h l) H n v
  | 0, _, c, _ => c
  | _ + 1, _, c, k => c.elim .inl fun ⟨x, o, ws, u, e1, e2, e3, e4, e5, e6⟩ => .inr ⟨x, o, ws, u, e1, PySem.W.hideAll_get _ e2 (k x o e2 ⟨ws, e3⟩), e3, e4, e5, ch_hide e6 k⟩
theorem XE.new {a : Addr} {oe : Obj} {ws : Array Value} {cl : Value} {d : Option Addr} {v : Value} (I : Inv X pins σ H sI) (k : ∀ b o, sI.heap.get? b = some o → s'.heap.get? b = some o) (hne : sI.heap.get? a = none) (he : s'.heap.get? a = some oe)
    (hz : Zv cl d v oe) (hd : oe.data = .fields ws) (h1 : ws[1]? = some .none) (na : H a = none) (os : s'.os = sI.os) (ag : AllBare s'.gens) (hc : Ch (PySem.W.hideAll sI.heap (frs X.stack)) H n v) (hw : W cl d σ H) : XE n X W (.ref a) s' := by
  refine ⟨a, PySem.W.hideAll sI.heap (frs X.stack), sI, pins, σ, H, cl, d, v, rfl, I, fun b o e hb => PySem.W.hideAll_get _ e hb, Heap.UpToSlots.of_keeps k,
    .inl ⟨fun b o e => k b o (PySem.W.of_hideAll _ e), ?_, ?_, oe, ws, he, hz, hd, h1⟩, na, os, ag, hc, hw⟩
  · cases q : (PySem.W.hideAll sI.heap (frs X.stack)).get? a with
    | none => rfl
    | some o =>
      have z := PySem.W.of_hideAll _ q
      rw [hne] at z
      cases z
  · exact Heap.FunFrames.of_keeps (fun b o e _ => ⟨o, k b o e, rfl⟩) (funFrames_none I.stack fun b hb => PySem.W.hideAll_none _ hb)
theorem XE.leave (hs : X.stack = X.env :: X.outer) (hf : X.env.frame = some X.env.locals) (hex : X.ex = []) {E₁ : Value → Shared → Prop} (hW : ∀ cl d τ H, W cl d τ H → E cl d H) {u : Value} (x : XE n X W u s') :
    wpAny (model X.prog X.w) X.A (leaving X.env u) (fun _ s'' => CX n X.prog X.w X.outer X.H_0 X.s_0 E u s'') E₁ s' := by
  obtain ⟨a, B, sI, ps, τ, H, cl, d, v, rfl, I, nb, up, sky, na, os, ag, hc, hw⟩ := x
  have hfr : X.A.frames = some (X.env :: X.outer) := by rw [I.ok.frames, hs]
  have offSt : ∀ b o, X.s_0.heap.get? b = some o → b ∉ X.fs → b ∉ frs X.stack := fun b o e hb hm => by
    rcases List.mem_cons.mp (I.stkSub b hm) with z | z
    · have h1 := Heap.lt_size e
      have h2 := I.ok.above
      rw [z] at h1
      exact absurd (Nat.lt_of_lt_of_le h1 h2) (Nat.lt_irrefl _)
    · exact hb z
  have noEx : ∀ b, b ∉ X.ex := fun b hb => by rw [hex] at hb; cases hb
  have hokB := I.inGround nb
  have fin : ∀ h', HandSPX.FlyingZ B X.outer a (Zv cl d v) h' → s'.heap.UpToSlots h' → CX n X.prog X.w X.outer X.H_0 X.s_0 E (.ref a) { s' with heap := h' } := fun h' fl up' => by
    refine ⟨a, B, H, cl, d, v, rfl, fl, hokB, ⟨fun b o e k hb => nb b o (I.base.keep b o e k hb (noEx b)) (offSt b o e hb), fun b o e hb => ?_, fun b o e k => I.base.free b o e k (noEx b), fun b o e hb => ?_, I.base.tups, I.base.frzs, I.base.tbls⟩,
      na, os.trans I.os, ag, hc, hW _ _ _ _ hw⟩
    · obtain ⟨_, o₀, e₀, hnf⟩ := I.ok.funs.mem hb
      rw [e] at e₀
      cases e₀
      obtain ⟨sl, e1⟩ := I.base.slot b o e (I.ok.frf b hb) hb (noEx b)
      obtain ⟨sl2, e2⟩ := up b _ e1 hnf
      obtain ⟨sl3, e3⟩ := up' b _ e2 hnf
      exact ⟨sl3, e3⟩
    · obtain ⟨o', e1⟩ := I.base.there b o e (noEx b)
      exact ⟨o', nb b o' e1 (offSt b o e hb)⟩
  rw [hs] at sky
  rcases sky with ⟨hB, hn, hl, oe, ws, he, hz, hd, h1⟩ | fl | hd
  · exact PXN.leaving_firstZ Zv.steady hfr hl hf he hB hn hd h1 hz fin
  · exact PXN.leaves_onZ Zv.steady hfr hf fl fin
  · exact HandSPX.leaves_heldZ hf hd fin
theorem takes_of (hs : X.stack = X.env :: X.outer) (hf : X.env.frame = some X.env.locals) (hex : X.ex = []) {E₁ : Value → Shared → Prop}
    (hx : X.xe = fun e s' => wpAny (model X.prog X.w) X.A (leaving X.env e) (fun _ s'' => CX n X.prog X.w X.outer X.H_0 X.s_0 E e s'') E₁ s') : Takes n X (fun cl d _ H => E cl d H) := fun u s' x => by
  rw [hx]
  exact XE.leave (W := fun cl d _ H => E cl d H) (E := E) hs hf hex (fun _ _ _ _ h => h) x
theorem passAt (tk : Takes n X W) (τ : L2.St) : PassesAt (CX n X.prog X.w) X τ (WE W τ) := fun _ _ _ e s' I c => tk e s' (XE.of_call I (fun _ _ _ h => h) c)
end
end AX

set_option Elab.async false
set_option linter.all false
set_option maxRecDepth 100000
set_option maxHeartbeats 4000000
/-! AX: an error is made and raised while another one is handled: raise C(..) from e. -/
namespace AX
open PySem PySem.Spec PyProof.Rows L2 HotX L2H
/-! ## what a def promises where an error is handled -/
structure FnW (P : Program) (w : World) (K : PySem.W.Frag) (mg : Str → Option Value) (base : Heap) (Cc : CXT) (k : Nat) (f : Addr) (fd : FuncData) (ps : List Str) (sp : Sp) : Prop where
  len : ∀ vs H Q E, sp vs H Q E → vs.length = ps.length
  run : ∀ (A : Around) (outer : List Env) (s : Shared) (H : Hp) (args : Args) (us : List Value) (vs : List V) (Q : VK) (E : XK) (q : Addr × Obj), RoomH k A → PinOk outer H s q → Env0 P w K mg base A outer s H → BindsTo s fd args (ps.zip us) → Vals vs us → sp vs H Q E →
    codeAny (model P w) A (.call (.ref f) args) (CR Cc outer P w H s Q E) s
section
variable {X : Cx} {Cc : CXT} {x : Str} {e : Expr} {es : List Expr} {ta : TA} {p pos : Pos} {C fI : Addr} {k : Nat} {fd : FuncData} {ps : List Str} {sp : Sp}
theorem pmk5W (T : OexC X.K C) (iC : PySem.W.findIn X.K (.ref C) "__init__" = some (some (.ref fI))) (tI : PySem.W.typeIn X.K (.ref fI) = some (.type "function"))
    (F1 : FnW X.prog X.w X.K X.mg X.base Cc k fI fd ps sp) (hr : RoomH (k + 1) X.A) {q : Addr × Obj} (hq : q ∈ X.pn) (hb : Binds X.K fd ps []) (hx : Passes Cc X (fun _ _ _ => False)) (hg : Gl X x) (hm : X.mg x = some (.ref C)) (ha : PA X (e :: es) ta)
    (hdb : (x == ("__debug__" : Str)) = false := by decide) (he : starEach (e :: es) X.env = (false, eval e X.env) :: starEach es X.env := by rfl) (hpl : (backTo pos (starEach es X.env)).any (·.1) = false := by rfl) :
    PMk5 X (.Call (.Name x p) (e :: es) [] pos) (tMkO C sp [] ta) := by
  intro pins s τ H Q I ht
  obtain ⟨nm, qn, N, bs, bm, sn, sub, ab, col, dd, k0, k1, k2, k3, k5, hC, hbm⟩ := T.cls
  refine wpAny_Call_Name_kw (ld_glob I hg hm ?_ hdb)
  refine PySem.W.callWith_K (h₀ := X.base) I.ok.mod.kin T.kC (thn (ha.run pos pins s τ H _ I ht) fun us s1 ⟨vs, H1, I1, rv, hz, go⟩ => ⟨I1.kIn, ?_⟩) he hpl
  show wpAny _ _ (call (.ref C) us) _ _ _
  obtain ⟨hp, g, dr, tk, os⟩ := s1
  have le1 : hp.objs.size ≤ hp.objs.size + 1 := Nat.le_succ _
  have hn : H1 (hp.objs.size + 1) = none := I1.hok.fresh le1
  have go1 := go (hp.objs.size + 1) hn
  rw [List.append_nil] at go1
  have kk : ∀ b o, hp.get? b = some o → ((hp.push (PySem.W.kdv_tup us)).push (PySem.HandSPX.excO C hp.objs.size)).get? b = some o := fun b o z => Heap.get?_push_of_some _ (Heap.get?_push_of_some _ z)
  have here : ((hp.push (PySem.W.kdv_tup us)).push (PySem.HandSPX.excO C hp.objs.size)).get? (hp.objs.size + 1) = some (PySem.HandSPX.excO C hp.objs.size) := by heap_get
  have I2 : Inv X pins τ (upd H1 (hp.objs.size + 1) (exo (hp.objs.size + 1) C none)) ⟨(hp.push (PySem.W.kdv_tup us)).push (PySem.HandSPX.excO C hp.objs.size), g, dr, tk, os⟩ :=
    I1.laid (t' := tk) (a := hp.objs.size + 1) (o := exo (hp.objs.size + 1) C none) (h' := (hp.push (PySem.W.kdv_tup us)).push (PySem.HandSPX.excO C hp.objs.size)) kk le1 (exo_ok here)
  have rv2 : Vals (V.ref (hp.objs.size + 1) :: vs) (Value.ref (hp.objs.size + 1) :: us) := .cons rfl rv
  have hl : (Value.ref (hp.objs.size + 1) :: us ++ []).length = ps.length := by
    have z := rv2.length
    rw [F1.len _ _ _ _ go1] at z
    rw [List.append_nil]
    exact z.symm
  have few : us.length ≤ sizeLine := by
    rw [← Paired.length rv, sizeLine_eq]
    omega
  have b2 := hb _ (Value.ref (hp.objs.size + 1) :: us) I2.kIn hl
  rw [List.append_nil] at b2
  have P1 := I2.pin q (List.mem_append_left _ hq)
  have pinned : PinOk X.stack (upd H1 (hp.objs.size + 1) (exo (hp.objs.size + 1) C none)) ⟨(hp.push (PySem.W.kdv_tup us)).push (PySem.HandSPX.excO C hp.objs.size), g, dr, tk, os⟩ q :=
    ⟨P1.1, P1.2.1, fun z => (List.mem_cons.mp (I2.stkSub q.1 z)).elim P1.2.2.1 P1.2.2.2.1, P1.2.2.2.2⟩
  refine wpAny_call (PySem.HandSPX.call_own F.excBase_ValueError (fun Y => PySem.HandSPX.refsVE_contains Y bm hbm) (I1.kIn _ _ hC) (PySem.W.looks_findIn I1.kIn iC) (fun self => PySem.W.bind_fn I1.kIn self tI) few
    (codeAny_mono (F1.run _ X.stack _ _ ⟨Value.ref (hp.objs.size + 1) :: us, []⟩ (Value.ref (hp.objs.size + 1) :: us) _ _ (fun _ _ _ => False) q (hr.make C us []) pinned (I2.env0.make C us []) b2 rv2 go1) fun r s' hq' => ?_))
  cases r with
  | error er => exact hx pins τ _ _ er s' I2 hq'
  | ok fl =>
    cases fl with
    | ret u =>
      obtain ⟨v, H2, os2, bare2, un2, hok2, ru, ev, d, fs, ea, ed, hd1, q2⟩ := hq'
      subst ev
      obtain ⟨h2, g2, d2, t2, os'⟩ := s'
      obtain ⟨t0, G, J, kG, ge, hoe, na⟩ := mk_end0 (d2 := d2) (t2 := t2) I1 le1 kk un2 hok2 os2 bare2 ea ed hd1
      refine ⟨ru, ⟨hp.objs.size + 1, _, _, ⟨G, g2, d2, t2, os'⟩, _, .ref C, some d, rfl, J, kG, ge, hoe, ⟨rfl, rfl, fun vs hv => ?_⟩, rfl, rfl, na, rfl, bare2, raises_own T.exC T.tyC, q2⟩, fun a oe vs ea2 hg2 hd2 => ?_⟩
      · cases hv
        rfl
      · cases ea2
        have z : h2.get? (hp.objs.size + 1) = some oe := hg2
        rw [hoe] at z
        cases z
        cases hd2
        show (4 : Nat) < 6
        decide
    | next => exact False.elim hq'
    | brk => exact False.elim hq'
    | cont => exact False.elim hq'
end
/-! ## the chain of contexts is walked -/
/-- the error that is handled: its context is None, or an error whose context is None -/
def Lit (x1 a : Addr) (h : Heap) : Prop := ∃ (o : Obj) (ws : Array Value) (v : Value), h.get? x1 = some o ∧ o.data = .fields ws ∧ ws[2]? = some v ∧ (v = .none ∨ ∃ (x2 : Addr) (o2 : Obj) (w2 : Array Value), v = .ref x2 ∧ x2 ≠ a ∧ h.get? x2 = some o2 ∧ o2.data = .fields w2 ∧ w2[2]? = some .none)
section
variable {prog : Program} {w : World} {A : Around} {E : Value → Shared → Prop} {s : Shared}
theorem unchain1 {x1 a : Addr} {Q : Value → Shared → Prop} (lit : Lit x1 a s.heap) (q : Q .none s) :
    wpAny (model prog w) A (holding [Value.ref a] (runValue (.builtin "proto.unchain" ⟨[.ref a, .ref x1, .ref x1, .bool false], []⟩))) Q E s := by
  obtain ⟨o, ws, v, h1, d1, c1, hv⟩ := lit
  rcases hv with rfl | ⟨x2, o2, w2, rfl, n2a, h2, d2, c2⟩
  · exact unchained h1 d1 c1 q
  · have n12 : x2 ≠ x1 := fun z => by
      rw [z, h1] at h2
      cases h2
      rw [d1] at d2
      cases d2
      rw [c1] at c2
      cases c2
    refine wpAny_holding (wpAny_runValue (codeAny_builtin HotX.entry_unchain ?_))
    show wpAny _ _ (field (.ref x1) 2 >>= _) _ _ s
    refine wpAny_bind (wpAny_field h1 d1 c1 ?_)
    rw [if_neg (show ¬ ((Value.ref x2 == Value.none) = true) from by simp)]
    rw [if_neg (show ¬ ((Value.ref x2 == Value.ref a) = true) from by simpa using n2a)]
    rw [if_neg (show ¬ ((Value.ref x2 == Value.ref x1) = true) from by simpa using n12)]
    refine wpAny_bind (wpAny_pure (wpAny_pure ⟨Code.quiet_builtin _ (by decide +kernel), codeAny_builtin HotX.entry_unchain ?_⟩))
    show wpAny _ _ (field (.ref x2) 2 >>= _) _ _ s
    refine wpAny_bind (wpAny_field h2 d2 c2 ?_)
    rw [if_pos (show (Value.none == Value.none) = true from rfl)]
    first
    | exact wpAny_bind (wpAny_pure (wpAny_pure q))
    | exact wpAny_pure q
theorem raiseNew1 {α : Type} {a x1 : Addr} {oe : Obj} {ws : Array Value} {Q : α → Shared → Prop} (hh : A.handled = some (.ref x1)) (lit : Lit x1 a s.heap) (ne : x1 ≠ a)
    (ha : s.heap.get? a = some oe) (da : oe.data = .fields ws) (hi : 2 < ws.size) (hE : E (.ref a) { s with heap := s.heap.update a (Obj.mapFields (·.setIfInBounds 2 (.ref x1))) }) : wpAny (model prog w) A (raiseNew (.ref a) : Sem α) Q E s := by
  unfold raiseNew
  refine wpAny_bind (wpAny_handled ?_)
  rw [hh]
  have hb : (Value.ref x1 != Value.ref a) = true := ref_bne ne
  first
  | (show wpAny _ _ (if (Value.ref x1 != Value.ref a) = true then _ else _) _ _ _
     rw [if_pos hb]
     first
     | exact wpAny_bind (unchain1 lit (wpAny_bind (chained ha da hi (wpAny_throw hE))))
     | exact wpAny_bind (wpAny_bind (unchain1 lit (chained ha da hi (wpAny_throw hE)))))
  | (refine wpAny_bind ?_
     show wpAny _ _ (if (Value.ref x1 != Value.ref a) = true then _ else _) _ _ _
     rw [if_pos hb]
     exact wpAny_bind (unchain1 lit (chained ha da hi (wpAny_throw hE))))
/-- the heap behind «from e»: field 3 is e, field 4 is True -/
def causeTo (h : Heap) (a : Addr) (c : Value) : Heap := (h.update a (Obj.mapFields (·.setIfInBounds 3 c))).update a (Obj.mapFields (·.setIfInBounds 4 (.bool true)))
theorem cause_at {h : Heap} {a : Addr} {oe : Obj} {ws : Array Value} {c : Value} (ha : h.get? a = some oe) (hd : oe.data = .fields ws) :
    (causeTo h a c).get? a = some ((oe.mapFields (·.setIfInBounds 3 c)).mapFields (·.setIfInBounds 4 (.bool true))) ∧ ((oe.mapFields (·.setIfInBounds 3 c)).mapFields (·.setIfInBounds 4 (.bool true))).data = .fields ((ws.setIfInBounds 3 c).setIfInBounds 4 (.bool true)) := by
  have d3 := Obj.data_mapFields hd (·.setIfInBounds 3 c)
  have g3 := Heap.get?_update_self (Obj.mapFields (·.setIfInBounds 3 c)) ha (Obj.isFreed_of_fields d3)
  have d4 := Obj.data_mapFields d3 (·.setIfInBounds 4 (.bool true))
  exact ⟨Heap.get?_update_self (Obj.mapFields (·.setIfInBounds 4 (.bool true))) g3 (Obj.isFreed_of_fields d4), d4⟩
theorem cause_off {h : Heap} {a b : Addr} {c : Value} (ne : a ≠ b) : (causeTo h a c).get? b = h.get? b := by
  unfold causeTo
  rw [Heap.get?_update_other _ _ ne, Heap.get?_update_other _ _ ne]
/-- what raise C(..) from e wants of the error that was made -/
def Made (prog : Program) (w : World) (A : Around) (E : Value → Shared → Prop) (x1 : Addr) (c : Sem Value) (v : Value) (s₁ : Shared) : Prop :=
  ∃ (a : Addr) (oe : Obj) (ws : Array Value) (cl : Value) (h0 : Heap), v = .ref a ∧ s₁.heap.get? a = some oe ∧ oe.cls = cl ∧ oe.data = .fields ws ∧ ws[1]? = some .none ∧ 4 < ws.size ∧ A.handled = some (.ref x1) ∧
    h0.get? a = none ∧ (∀ b o, h0.get? b = some o → s₁.heap.get? b = some o) ∧ Lit x1 a h0 ∧
    PySem.W.Looks (model prog w) s₁.heap (isSubtype cl (.type "BaseException")) true ∧ PySem.W.Looks (model prog w) (causeTo s₁.heap a (.ref x1)) (typeOf cl) (.type "type") ∧
    (∀ Q' : Value → Shared → Prop, Q' (.ref x1) s₁ → wpAny (model prog w) A c Q' E s₁) ∧ PySem.W.Looks (model prog w) s₁.heap (isInstance (.ref x1) (.type "BaseException")) true ∧
    E (.ref a) { s₁ with heap := (causeTo s₁.heap a (.ref x1)).update a (Obj.mapFields (·.setIfInBounds 2 (.ref x1))) }
theorem raise_cause {env : Env} {x c : Sem Value} {Q : Flow → Shared → Prop} {x1 : Addr} (h : wpAny (model prog w) A x (Made prog w A E x1 c) E s) :
    wpAny (model prog w) A (raiseStmt env (some x) (some c)) Q E s := by
  unfold raiseStmt
  dsimp only
  refine wpAny_bind (wpAny_mono h (fun v s₁ hm => ?_) fun _ _ z => z)
  obtain ⟨a, oe, ws, cl, h0, rfl, ha, hcl, hd, h1, hi, hh, a0, k0, lit, L1, L3, hcs, LC, hE⟩ := hm
  have LT : PySem.W.Looks (model prog w) s₁.heap (typeOf (.ref a)) cl := fun A Q E s k q => wpAny_typeOf_ref (k _ _ ha) (by rw [hcl]; exact q)
  have LI : PySem.W.Looks (model prog w) s₁.heap (isInstance (.ref a) (.type "BaseException")) true := LT.andThen L1
  have noT : ∀ {b : Addr} {ob : Obj} {wb : Array Value} {h2 : Heap} {Q' : Bool → Shared → Prop}, h2.get? b = some ob → ob.data = .fields wb → Q' false { s₁ with heap := h2 } → wpAny (model prog w) A (isType (.ref b)) Q' E { s₁ with heap := h2 } := by
    intro b ob wb h2 Q' e1 e2 z
    simp only [isType, loadHead]
    refine wpAny_bind (wpAny_loadPart e1 ?_)
    rw [e2]
    exact wpAny_pure z
  obtain ⟨o1, w1, v1, g1, d1, c1, hv1⟩ := lit
  have g1s := k0 _ _ g1
  have nxa : x1 ≠ a := fun z => by
    rw [z, a0] at g1
    cases g1
  have hd3 := Obj.data_mapFields hd (·.setIfInBounds 3 (Value.ref x1))
  have ha3 := Heap.get?_update_self (Obj.mapFields (·.setIfInBounds 3 (Value.ref x1))) ha (Obj.isFreed_of_fields hd3)
  obtain ⟨ha4, hd4⟩ := cause_at (c := .ref x1) ha hd
  have s3 : 3 < ws.size := by omega
  have s4 : 4 < (ws.setIfInBounds 3 (Value.ref x1)).size := by rw [set_size]; exact hi
  have s2 : 2 < ((ws.setIfInBounds 3 (Value.ref x1)).setIfInBounds 4 (Value.bool true)).size := by rw [set_size, set_size]; omega
  have h14 : ((ws.setIfInBounds 3 (Value.ref x1)).setIfInBounds 4 (Value.bool true))[1]? = some Value.none := set_at (by decide) (set_at (by decide) h1)
  have hcl4 : ((oe.mapFields (·.setIfInBounds 3 (Value.ref x1))).mapFields (·.setIfInBounds 4 (.bool true))).cls = cl := by rw [Obj.cls_mapFields, Obj.cls_mapFields]; exact hcl
  have LT4 : PySem.W.Looks (model prog w) (causeTo s₁.heap a (.ref x1)) (typeOf (.ref a)) cl := fun A Q E s k q => wpAny_typeOf_ref (k _ _ ha4) (by rw [hcl4]; exact q)
  have k4 : ∀ b o, h0.get? b = some o → (causeTo s₁.heap a (.ref x1)).get? b = some o := fun b o z => by
    have nab : a ≠ b := fun y => by
      rw [← y, a0] at z
      cases z
    rw [cause_off nab]
    exact k0 b o z
  have lit4 : Lit x1 a (causeTo s₁.heap a (.ref x1)) := ⟨o1, w1, v1, k4 _ _ g1, d1, c1, hv1.imp id fun ⟨x2, o2, w2, e, n2, h2, d2, c2⟩ => ⟨x2, o2, w2, e, n2, k4 _ _ h2, d2, c2⟩⟩
  have rest : wpAny (model prog w) A (do
      let b ← isType (.ref a)
      if b = true then do
        let e ← holding [.ref a] (raisedFor (.ref a) (.ref a))
        setFlight e none
        raiseNew e
      else do
        let e ← raisedInstance (.ref a)
        setFlight e none
        raiseNew e : Sem Flow) Q E { s₁ with heap := causeTo s₁.heap a (.ref x1) } := by
    refine wpAny_bind (noT ha4 hd4 ?_)
    simp only [Bool.false_eq_true, if_false]
    unfold raisedInstance
    refine wpAny_bind (wpAny_bind (LT4.here (wpAny_bind (L3.here ?_))))
    rw [if_pos (beq_self_eq_true _)]
    refine wpAny_pure ?_
    unfold setFlight
    refine wpAny_bind (wpAny_bind (wpAny_field ha4 hd4 h14 ?_))
    rw [if_neg (by decide)]
    refine wpAny_pure ?_
    exact raiseNew1 hh lit4 nxa ha4 hd4 s2 hE
  refine wpAny_bind (wpAny_holding (hcs _ (wpAny_bind (wpAny_pure ?_))))
  dsimp only
  refine wpAny_bind (wpAny_holding ?_)
  unfold excFromValue isExcClass
  refine wpAny_bind (wpAny_bind (noT ha hd ?_))
  simp only [Bool.false_eq_true, if_false]
  refine wpAny_pure ?_
  simp only [Bool.false_eq_true, if_false]
  refine wpAny_bind (LI.here ?_)
  simp only [if_true]
  refine wpAny_pure ?_
  rw [if_neg (show ¬ ((Value.ref x1 == Value.none) = true) from by simp)]
  refine wpAny_bind (wpAny_holding (wpAny_bind (wpAny_bind (noT g1s d1 ?_))))
  simp only [Bool.false_eq_true, if_false]
  refine wpAny_pure ?_
  simp only [Bool.false_eq_true, if_false]
  refine wpAny_bind (LC.here ?_)
  simp only [if_true]
  refine wpAny_pure ?_
  exact wpAny_bind (wpAny_setField ha hd s3 (wpAny_bind (wpAny_setField ha3 hd3 s4 rest)))
end
/-! ## raise C(..), nothing handled -/
section
variable {X : Cx} {W : WX} {n : Nat}
theorem ps_raise {e : Expr} {t : L2.St → Hp → XK → Prop} {pos : Pos} (hc : X.calm = true) (tk : Takes n X W) (he : L2N.PMk X e t) : PS X (.Raise (some e) none pos) (fun _ σ H => t σ H fun cl d H' => W cl d σ H') := by
  refine L2N.ps_raise hc (fun u s' x => ?_) he
  obtain ⟨a, B, sI, pins, τ, H, cl, d, e, I, nb, up, sky, na, os, ag, w⟩ := x
  exact tk u s' ⟨a, B, sI, pins, τ, H, cl, d, .none, e, I, nb, up, sky_imp (fun o z => ⟨z.1, z.2.1, z.2.2⟩) sky, na, os, ag, .none, w⟩
end
section
variable {X : Cx} {Cc : CXT} {x : Str} {e : Expr} {es : List Expr} {ta : TA} {p pos : Pos} {C fI : Addr} {k : Nat} {fd : FuncData} {ps : List Str} {sp : Sp}
theorem pmk_oex (T : OexC X.K C) (iC : PySem.W.findIn X.K (.ref C) "__init__" = some (some (.ref fI))) (tI : PySem.W.typeIn X.K (.ref fI) = some (.type "function"))
    (F1 : FnOk X.prog X.w X.K X.mg X.base Cc k fI fd ps sp) (hr : Room (k + 1) X.A) (hb : Binds X.K fd ps []) (hx : Passes Cc X (fun _ _ _ => False)) (hg : Gl X x) (hm : X.mg x = some (.ref C)) (ha : PA X (e :: es) ta)
    (hdb : (x == ("__debug__" : Str)) = false := by decide) (he : starEach (e :: es) X.env = (false, eval e X.env) :: starEach es X.env := by rfl) (hpl : (backTo pos (starEach es X.env)).any (·.1) = false := by rfl) :
    L2N.PMk X (.Call (.Name x p) (e :: es) [] pos) (tMkO C sp [] ta) := by
  intro pins s τ H Q I ht
  obtain ⟨nm, qn, N, bs, bm, sn, sub, ab, col, dd, k0, k1, k2, k3, k5, hC, hbm⟩ := T.cls
  refine wpAny_Call_Name_kw (ld_glob I hg hm ?_ hdb)
  refine PySem.W.callWith_K (h₀ := X.base) I.ok.mod.kin T.kC (thn (ha.run pos pins s τ H _ I ht) fun us s1 ⟨vs, H1, I1, rv, hz, go⟩ => ⟨I1.kIn, ?_⟩) he hpl
  show wpAny _ _ (call (.ref C) us) _ _ _
  obtain ⟨hp, g, dr, tk, os⟩ := s1
  have le1 : hp.objs.size ≤ hp.objs.size + 1 := Nat.le_succ _
  have hn : H1 (hp.objs.size + 1) = none := I1.hok.fresh le1
  have go1 := go (hp.objs.size + 1) hn
  rw [List.append_nil] at go1
  have kk : ∀ b o, hp.get? b = some o → ((hp.push (PySem.W.kdv_tup us)).push (PySem.HandSPX.excO C hp.objs.size)).get? b = some o := fun b o z => Heap.get?_push_of_some _ (Heap.get?_push_of_some _ z)
  have here : ((hp.push (PySem.W.kdv_tup us)).push (PySem.HandSPX.excO C hp.objs.size)).get? (hp.objs.size + 1) = some (PySem.HandSPX.excO C hp.objs.size) := by heap_get
  have I2 : Inv X pins τ (upd H1 (hp.objs.size + 1) (exo (hp.objs.size + 1) C none)) ⟨(hp.push (PySem.W.kdv_tup us)).push (PySem.HandSPX.excO C hp.objs.size), g, dr, tk, os⟩ :=
    I1.laid (t' := tk) (a := hp.objs.size + 1) (o := exo (hp.objs.size + 1) C none) (h' := (hp.push (PySem.W.kdv_tup us)).push (PySem.HandSPX.excO C hp.objs.size)) kk le1 (exo_ok here)
  have rv2 : Vals (V.ref (hp.objs.size + 1) :: vs) (Value.ref (hp.objs.size + 1) :: us) := .cons rfl rv
  have hl : (Value.ref (hp.objs.size + 1) :: us ++ []).length = ps.length := by
    have z := rv2.length
    rw [F1.len _ _ _ _ go1] at z
    rw [List.append_nil]
    exact z.symm
  have few : us.length ≤ sizeLine := by
    rw [← Paired.length rv, sizeLine_eq]
    omega
  have b2 := hb _ (Value.ref (hp.objs.size + 1) :: us) I2.kIn hl
  rw [List.append_nil] at b2
  refine wpAny_call (PySem.HandSPX.call_own F.excBase_ValueError (fun Y => PySem.HandSPX.refsVE_contains Y bm hbm) (I1.kIn _ _ hC) (PySem.W.looks_findIn I1.kIn iC) (fun self => PySem.W.bind_fn I1.kIn self tI) few
    (codeAny_mono (F1.run _ X.stack _ _ ⟨Value.ref (hp.objs.size + 1) :: us, []⟩ (Value.ref (hp.objs.size + 1) :: us) _ _ (fun _ _ _ => False) (hr.make C us []) (I2.env0.make C us []) b2 rv2 go1) fun r s' hq' => ?_))
  cases r with
  | error er => exact hx pins τ _ _ er s' I2 hq'
  | ok fl =>
    cases fl with
    | ret u =>
      obtain ⟨v, H2, os2, bare2, un2, hok2, ru, ev, d, fs, ea, ed, hd1, q2⟩ := hq'
      subst ev
      obtain ⟨h2, g2, d2, t2, os'⟩ := s'
      obtain ⟨t0, G, J, kG, ge, hoe, na⟩ := mk_end0 (d2 := d2) (t2 := t2) I1 le1 kk un2 hok2 os2 bare2 ea ed hd1
      refine ⟨ru, ⟨hp.objs.size + 1, _, _, ⟨G, g2, d2, t2, os'⟩, _, .ref C, some d, rfl, J, kG, ge, hoe, ⟨rfl, rfl, fun vs hv => ?_⟩, rfl, rfl, na, rfl, bare2, raises_own T.exC T.tyC, q2⟩⟩
      cases hv
      rfl
    | next => exact False.elim hq'
    | brk => exact False.elim hq'
    | cont => exact False.elim hq'
end
section
variable {P : Program} {w : World} {K : PySem.W.Frag} {mg : Str → Option Value} {base : Heap} {n : Nat}
theorem okX {x qual : Str} {st : Stmt} {f : Addr} {fd : FuncData} {N ps : List Str} {k : Nat} {sp : Sp} (Fn : Fun K x qual st f fd) (Sc : FnScope N ps (defScope st)) (len : ∀ vs H Q E, sp vs H Q E → vs.length = ps.length)
    (body : ∀ (cdv : Value) (A : Around) (outer : List Env) (s : Shared) (H : Hp) (vs : List V) (Q : VK) (E : XK), Room k (A.deeper (envOfC qual (defScope st) s.heap.objs.size f cdv)) → sp vs H Q E →
      ∃ t, PSs (cxOf (CX n P w) P w K mg base N qual (defScope st) f cdv A outer s H E) (defBody st) t ∧ t { nx := fun _ H' => Q .non H', rt := Q } (L2.start N vs) H) : FnOk P w K mg base (CX n P w) (k + 1) f fd ps sp := by
  obtain ⟨oc, od, kV, doc, pm, an, cdv, ct, osl, rfl, lk, hcd⟩ := Fn.ex
  exact fn_of lk hcd Sc len fun A outer s H vs Q E hr hsp => body cdv A outer s H vs Q E hr hsp
end
end AX

set_option Elab.async false
set_option linter.all false
set_option maxRecDepth 100000
set_option maxHeartbeats 4000000
/-! AX: except C as n: raise D(..) from n. -/
namespace AX
open PySem PySem.Spec PyProof.Rows L2 HotX L2H
/-- the context of such a suite -/
abbrev warm (X : Cx) (a : Addr) (pn : List (Addr × Obj)) (xe : Value → Shared → Prop) : Cx := { X with A := X.A.mark (some (.ref a)), calm := false, pn := pn, xe := xe }
theorem inv_back {X : Cx} {a : Addr} {q : Addr × Obj} {P ps : List (Addr × Obj)} {xe : Value → Shared → Prop} {σ : L2.St} {H : Hp} {s : Shared} (I : Inv (warm X a (q :: (X.pn ++ P)) xe) ps σ H s) (ok : X.Ok) : Inv X P σ H s :=
  ⟨ok, I.os, I.bare, I.base, I.loc, I.cell, I.free, I.freeC, fun p hp => I.pin p (List.mem_append_left _ (List.mem_cons_of_mem _ hp)), I.hok, I.len⟩
theorem inv_warm {X : Cx} {a : Addr} {pn : List (Addr × Obj)} {xe : Value → Shared → Prop} {σ : L2.St} {H : Hp} {s : Shared} (I : Inv (X.suite a pn) [] σ H s) : Inv (warm X a pn xe) [] σ H s :=
  ⟨⟨I.ok.mod, I.ok.kind, I.ok.glob, I.ok.blt, I.ok.above, I.ok.inj, I.ok.has, I.ok.cab, (fun z => absurd (show false = true from z) Bool.false_ne_true), I.ok.frames, I.ok.stk, I.ok.exf, I.ok.bs, I.ok.bsz, I.ok.noex, I.ok.exfs, I.ok.funs, I.ok.frf⟩, I.os, I.bare, I.base, I.loc, I.cell, I.free, I.freeC, I.pin, I.hok, I.len⟩
/-- the error that is handled, as the context of its suite knows it -/
structure Hot (m : Nat) (Y : Cx) (aH : Addr) (oH : Obj) (v : Value) : Prop where
  hh : Y.A.handled = some (.ref aH)
  mem : (aH, oH) ∈ Y.pn
  dt : ∃ ws : Array Value, oH.data = .fields ws ∧ ws[2]? = some v
  ch : v = .none ∨ (0 < m ∧ ∃ (x2 : Addr) (o2 : Obj) (w2 : Array Value), v = .ref x2 ∧ (x2, o2) ∈ Y.pn ∧ o2.data = .fields w2 ∧ w2[2]? = some .none)
  ex : PySem.W.subIn Y.K oH.cls (.type "BaseException") = some true
section
variable {m : Nat} {Y : Cx} {aH : Addr} {oH : Obj} {v : Value} {pins : List (Addr × Obj)} {σ : L2.St} {H : Hp} {s : Shared} {W : WX}
theorem Hot.lit (h : Hot m Y aH oH v) (I : Inv Y pins σ H s) {a : Addr} (na : s.heap.get? a = none) : Lit aH a s.heap := by
  obtain ⟨ws, d1, c1⟩ := h.dt
  refine ⟨oH, ws, v, (I.pin _ (List.mem_append_left _ h.mem)).1, d1, c1, h.ch.imp id fun ⟨_, x2, o2, w2, e, hm, d2, c2⟩ => ⟨x2, o2, w2, e, fun z => ?_, (I.pin _ (List.mem_append_left _ hm)).1, d2, c2⟩⟩
  have q := (I.pin _ (List.mem_append_left _ hm)).1
  rw [z, na] at q
  cases q
theorem Hot.chain (h : Hot m Y aH oH v) (I : Inv Y pins σ H s) : Ch (PySem.W.hideAll s.heap (frs Y.stack)) H (m + 1) (.ref aH) := by
  obtain ⟨ws, d1, c1⟩ := h.dt
  obtain ⟨g1, n1, _⟩ := I.pin _ (List.mem_append_left _ h.mem)
  refine ch_hide (.inr ⟨aH, oH, ws, v, rfl, g1, d1, c1, n1, ?_⟩) fun x o e ⟨fv, dd⟩ hm => ?_
  · rcases h.ch with rfl | ⟨hm, x2, o2, w2, rfl, mem2, d2, c2⟩
    · exact .none
    · obtain ⟨g2, n2, _⟩ := I.pin _ (List.mem_append_left _ mem2)
      cases m with
      | zero => exact absurd hm (Nat.lt_irrefl _)
      | succ k => exact .inr ⟨x2, o2, w2, .none, rfl, g2, d2, c2, n2, .none⟩
  · obtain ⟨_, o', e', hnf⟩ := I.stack.mem hm
    rw [e] at e'
    cases e'
    exact hnf _ dd
/-- raise C(..) from n, n the error that is handled -/
theorem ps_raiseW {e : Expr} {t : L2.St → Hp → XK → Prop} {i : Nat} {n : Str} {np pos : Pos} (h : Hot m Y aH oH v) (tk : Takes (m + 1) Y W) (he : PMk5 Y e t) (hN : Y.N[i]? = some n) (hl : Y.env.kindOf n = some .local) (hd : (n == ("__debug__" : Str)) = false := by decide) :
    PS Y (.Raise (some e) (some (.Name n np)) pos) (fun _ σ H => σ[i]? = some (some (.ref aH)) ∧ t σ H fun cl d H' => W cl d σ H') := by
  refine ⟨fun pins s σ H D I ⟨es, ht⟩ => ?_⟩
  show wpAny _ _ (do standAt pos; raiseStmt Y.env (some (do let v ← eval e Y.env; standAt pos; pure v)) (some (do let v ← eval (.Name n np) Y.env; standAt pos; pure v))) _ _ _
  refine wpAny_bind (wpAny_standAt (raise_cause (x1 := aH) (wpAny_bind (wpAny_mono (he pins s σ H _ I ht) (fun u s1 hu => wpAny_bind (wpAny_standAt (wpAny_pure ?_))) fun _ _ x => x))))
  obtain ⟨⟨a, oe, ws, sI, H', cl, d, rfl, J, k, hne, ha, hz, hd0, h1, na, os, ag, r, q⟩, h5⟩ := hu
  have hi : 4 < ws.size := h5 a oe ws rfl ha hd0
  have k4 : ∀ b u, sI.heap.get? b = some u → (causeTo s1.heap a (.ref aH)).get? b = some u := fun b u z => by
    have nab : a ≠ b := fun y => by
      rw [← y, hne] at z
      cases z
    rw [cause_off nab]
    exact k b u z
  obtain ⟨r1, _⟩ := r (model Y.prog Y.w) s1.heap (J.kIn.keeps k)
  obtain ⟨_, r2⟩ := r (model Y.prog Y.w) (causeTo s1.heap a (.ref aH)) (J.kIn.keeps k4)
  obtain ⟨ha4, hd4⟩ := cause_at (c := .ref aH) ha hd0
  have pH := (J.pin _ (List.mem_append_left _ h.mem)).1
  have h12 : (((ws.setIfInBounds 3 (Value.ref aH)).setIfInBounds 4 (Value.bool true)).setIfInBounds 2 (Value.ref aH))[1]? = some Value.none := set_at (by decide) (set_at (by decide) (set_at (by decide) h1))
  have h22 : (((ws.setIfInBounds 3 (Value.ref aH)).setIfInBounds 4 (Value.bool true)).setIfInBounds 2 (Value.ref aH))[2]? = some (Value.ref aH) := by
    rw [Array.getElem?_setIfInBounds_self_of_lt (by rw [set_size, set_size]; omega)]
  have LH : PySem.W.Looks (model Y.prog Y.w) s1.heap (isInstance (.ref aH) (.type "BaseException")) true :=
    PySem.W.Looks.andThen (fun A Q E s k2 q2 => wpAny_typeOf_ref (k2 _ _ (k _ _ pH)) q2 : PySem.W.Looks (model Y.prog Y.w) s1.heap (typeOf (.ref aH)) oH.cls) (PySem.W.looks_subIn (J.kIn.keeps k) h.ex)
  refine ⟨a, oe, ws, cl, sI.heap, rfl, ha, hz.1, hd0, h1, hi, h.hh, hne, k, h.lit J hne, r1, r2, fun Q' q' => ?_, LH, tk _ _ (XE.new (v := .ref aH) J (fun b u z => ?_) hne (Heap.get?_update_self _ ha4 (Obj.isFreed_of_fields (Obj.data_mapFields hd4 _)))
    ⟨by rw [Obj.cls_mapFields, Obj.cls_mapFields, Obj.cls_mapFields]; exact hz.1, by rw [HandSPX.dict_mapFields, HandSPX.dict_mapFields, HandSPX.dict_mapFields]; exact hz.2.1, fun wz ez => ?_⟩ (Obj.data_mapFields hd4 _) h12 na os ag (h.chain J) q)⟩
  · obtain ⟨mm, hn, hlk⟩ := J.loc
    obtain ⟨u, ru, l⟩ := hlk i n (.ref aH) hN es (.inl hl)
    obtain rfl : u = Value.ref aH := ru
    rcases l with ⟨_, hmn⟩ | ⟨hk, _⟩
    · exact wpAny_bind (wpAny_Name (wpAny_loadName_local J.ok.kind hl (hn.keeps k) hmn (wpAny_bind (wpAny_standAt (wpAny_pure q')))) hd)
    · rcases hk with hk | hk
      · rw [hl] at hk
        cases hk
      · rw [hl] at hk
        cases hk
  · have nab : a ≠ b := fun y => by
      rw [← y, hne] at z
      cases z
    show ((causeTo s1.heap a (.ref aH)).update a (Obj.mapFields (·.setIfInBounds 2 (.ref aH)))).get? b = some u
    rw [Heap.get?_update_other _ _ nab]
    exact k4 b u z
  · rw [Obj.data_mapFields hd4 _] at ez
    cases ez
    exact h22
end
/-! ## the suite of a named clause is left by an error -/
theorem ch_pins {B : Heap} {H : Hp} : ∀ {n : Nat} {v : Value}, Ch B H n v → ∃ L : List (Addr × Obj), (∀ p ∈ L, B.get? p.1 = some p.2 ∧ H p.1 = none ∧ ∃ ws, p.2.data = .fields ws) ∧ ∀ B' : Heap, (∀ p ∈ L, B'.get? p.1 = some p.2) → Ch B' H n v
  | 0, v, h => ⟨[], by simp, fun _ _ => h⟩
  | n + 1, v, h => by
    rcases h with rfl | ⟨x, o, ws, u, rfl, e2, e3, e4, e5, e6⟩
    · exact ⟨[], by simp, fun _ _ => .none⟩
    · obtain ⟨L, l1, l2⟩ := ch_pins e6
      refine ⟨(x, o) :: L, fun p hp => ?_, fun B' hb => .inr ⟨x, o, ws, u, rfl, hb _ List.mem_cons_self, e3, e4, e5, l2 B' fun p hp => hb p (List.mem_cons_of_mem _ hp)⟩⟩
      rcases List.mem_cons.mp hp with rfl | hp
      · exact ⟨e2, e5, ws, e3⟩
      · exact l1 p hp
section
variable {m : Nat} {X : Cx} {aH : Addr} {q0 : Addr × Obj} {P : List (Addr × Obj)} {xe : Value → Shared → Prop} {W Wout : WX} {N : Value → Shared → Prop} {i : Nat} {n : Str} {pos : Pos}
theorem as_raised {u : Value} {s' : Shared} (hs : X.stack = X.env :: X.outer) (hf : X.env.frame = some X.env.locals) (hex : X.ex = []) (ok : X.Ok) (tk : Takes m X Wout) (hN : X.N.Nodup) (hi : X.N[i]? = some n) (hln : X.env.kindOf n = some .local)
    (hp : ∀ e s', X.xe e s' → N e s') (hW : ∀ cl d τ H, W cl d τ H → Wout cl d (τ.set i none) H) (xx : XE m (warm X aH (q0 :: (X.pn ++ P)) xe) W u s') :
    AsSuiteRaised (model X.prog X.w) (X.A.mark (some (.ref aH))) X.env n pos N u s' := by
  have hfr : (X.A.mark (some (.ref aH))).frames = some (X.env :: X.outer) := by
    show X.A.frames = _
    rw [ok.frames, hs]
  obtain ⟨a, B, sI, ps, τ, H, cl, d, v, rfl, J', nb, up, sky, na, os, ag, hc, hw⟩ := xx
  have J : Inv X P τ H sI := inv_back J' ok
  have nb : ∀ b o, sI.heap.get? b = some o → b ∉ frs X.stack → B.get? b = some o := nb
  have sky : Sky B (X.env :: X.outer) a (Zv cl d v) X.env.locals s'.heap := by rw [← hs]; exact sky
  have fin : ∀ h1, HandSPX.HeldZ B (X.env :: X.outer) a (Zv cl d v) X.env.locals h1 → s'.heap.UpToSlots h1 →
      wpAny (model X.prog X.w) (X.A.mark (some (.ref aH))) (do bindName X.env n .none; unbindBehindTheSuite X.env n pos)
        (fun _ s₂ => wpAny (model X.prog X.w) (X.A.mark (some (.ref aH))) (PySem.passOn "try.except-as" (.ref a) X.env : Sem Flow) (fun _ _ => False) N s₂)
        (fun y s₂ => wpAny (model X.prog X.w) (X.A.mark (some (.ref aH))) (setFlight (.ref a) none) (fun _ s₃ => N y s₃) N s₂) { s' with heap := h1 } := fun h1 hh1 up1 => by
    have J3 : Inv X P τ H { s' with heap := h1 } := J.landed nb hh1.1 (up.trans up1) os ag
    obtain ⟨k1, k2, k3, oe, ws, T, oT, ts, he3, hz, hd, hv1, hnT, hTe, hT, hdT, ht3⟩ := id hh1
    have nT : H T = none := (J.inGround nb).gone hnT
    have notFr : ∀ (b : Addr) (o : Obj) (fv : Array Value), h1.get? b = some o → o.data = .fields fv → b ∉ frs (X.env :: X.outer) := fun b o fv e dd hm => by
      obtain ⟨_, o', e', hnf⟩ := k3.mem hm
      have eo : o = o' := Option.some.inj (e.symm.trans e')
      rw [← eo] at hnf
      exact hnf _ dd
    have locF : X.env.locals ∈ frs (X.env :: X.outer) := List.mem_filterMap.mpr ⟨X.env, List.mem_cons_self, hf⟩
    have fsF : ∀ b, b ∈ X.fs → b ∈ frs (X.env :: X.outer) := fun b hm => by
      obtain ⟨e, he, q⟩ := List.mem_filterMap.mp hm
      exact List.mem_filterMap.mpr ⟨e, List.mem_cons_of_mem _ he, q⟩
    have fa := notFr a oe ws he3 hd
    have fT := notFr T oT ts hT hdT
    obtain ⟨L, l1, l2⟩ := ch_pins hc
    have S3 : Inv X ((a, oe) :: (T, oT) :: (L ++ P)) τ H { s' with heap := h1 } :=
      ⟨J3.ok, J3.os, J3.bare, J3.base, J3.loc, J3.cell, J3.free, J3.freeC, fun p hp => by
        rcases List.mem_append.mp hp with hp | hp
        · exact J3.pin p (List.mem_append_left _ hp)
        · rcases List.mem_cons.mp hp with z | hp
          · rw [z]
            exact ⟨he3, na, fun z2 => fa (by rw [show a = X.env.locals from z2]; exact locF), fun z2 => fa (fsF _ z2), fun v z2 => by
              have z3 : oe.data = .cell v := z2
              rw [hd] at z3
              cases z3⟩
          · rcases List.mem_cons.mp hp with z | hp
            · rw [z]
              exact ⟨hT, nT, fun z2 => fT (by rw [show T = X.env.locals from z2]; exact locF), fun z2 => fT (fsF _ z2), fun v z2 => by
                have z3 : oT.data = .cell v := z2
                rw [hdT] at z3
                cases z3⟩
            · rcases List.mem_append.mp hp with hp | hp
              · obtain ⟨b1, b2, bw, b3⟩ := l1 p hp
                have fp := notFr p.1 p.2 bw (k1 _ _ b1) b3
                exact ⟨k1 _ _ b1, b2, fun z2 => fp (by rw [z2]; exact locF), fun z2 => fp (fsF _ z2), fun v z2 => by
                  rw [b3] at z2
                  cases z2⟩
              · exact J3.pin p (List.mem_append_right _ hp), J3.hok, J3.len⟩
    refine gone_ok S3 hN hi hln fun s6 S6 => ?_
    have J6 : Inv X P (τ.set i none) H s6 := ⟨ok, S6.os, S6.bare, S6.base, S6.loc, S6.cell, S6.free, S6.freeC, fun p hp => S6.pin p ((List.mem_append.mp hp).elim (List.mem_append_left _) fun h => List.mem_append_right _ (List.mem_cons_of_mem _ (List.mem_cons_of_mem _ (List.mem_append_right _ h)))), S6.hok, S6.len⟩
    have ga : s6.heap.get? a = some oe := (S6.pin (a, oe) (List.mem_append_right _ List.mem_cons_self)).1
    have gT : s6.heap.get? T = some oT := (S6.pin (T, oT) (List.mem_append_right _ (List.mem_cons_of_mem _ List.mem_cons_self))).1
    have far : ∀ b o, sI.heap.get? b = some o → b ≠ a ∧ b ≠ T := fun b o e => by
      by_cases hb : b ∈ frs X.stack
      · rw [hs] at hb
        exact ⟨fun z => fa (by rw [← z]; exact hb), fun z => fT (by rw [← z]; exact hb)⟩
      · have q := nb b o e hb
        exact ⟨fun z => by
          rw [z, k2] at q
          exact (nomatch q), fun z => by
          rw [z, hnT] at q
          cases q⟩
    have far0 : ∀ b o, X.s_0.heap.get? b = some o → b ≠ a ∧ b ≠ T := fun b o e => by
      obtain ⟨o', q⟩ := J.base.there b o e (by rw [hex]; simp)
      exact far b o' q
    have farP : ∀ p ∈ X.pn ++ P, p.1 ≠ a ∧ p.1 ≠ T := fun p hp => far p.1 p.2 (J.pin p hp).1
    obtain ⟨G, g1, g2⟩ := restrict s6.heap fun b => !(decide (b = a) || decide (b = T))
    have gIn : ∀ b o, G.get? b = some o → s6.heap.get? b = some o ∧ b ≠ a ∧ b ≠ T := fun b o e => by
      cases q : (!(decide (b = a) || decide (b = T))) with
      | false =>
        rw [g2 b q] at e
        cases e
      | true =>
        rw [g1 b q] at e
        simp only [Bool.not_eq_true', Bool.or_eq_false_iff, decide_eq_false_iff_not] at q
        exact ⟨e, q.1, q.2⟩
    have gOf : ∀ b o, b ≠ a → b ≠ T → s6.heap.get? b = some o → G.get? b = some o := fun b o h1 h2 e => by
      rw [g1 b (by simp [h1, h2])]
      exact e
    have I6 : Inv X P (τ.set i none) H { s6 with heap := G } := J6.less (fun b o e => (gIn b o e).1) gOf ⟨oe, ws, ga, hd⟩ ⟨oT, ts, gT, hdT⟩ na nT far0 farP
    have Bno : ∀ b, (b = a ∨ b = T) → (PySem.W.hideAll G (frs X.stack)).get? b = none := fun b hb => by
      cases q : (PySem.W.hideAll G (frs X.stack)).get? b with
      | none => rfl
      | some o =>
        obtain ⟨_, n1, n2⟩ := gIn b o (PySem.W.of_hideAll _ q)
        rcases hb with z | z
        · exact absurd z n1
        · exact absurd z n2
    have hd6 : HandSPX.HeldZ (PySem.W.hideAll G (frs X.stack)) (X.env :: X.outer) a (Zv cl d v) X.env.locals s6.heap := by
      refine ⟨fun b o e => (gIn b o (PySem.W.of_hideAll _ e)).1, Bno a (.inl rfl), ?_, oe, ws, T, oT, ts, ga, hz, hd, hv1, Bno T (.inr rfl), hTe, gT, hdT, ht3⟩
      have ff := funFrames_none (B := PySem.W.hideAll G (frs X.stack)) J6.stack fun b hb => PySem.W.hideAll_none _ hb
      rw [← hs]
      exact ff
    have hc6 : Ch (PySem.W.hideAll G (frs X.stack)) H m v := by
      refine l2 _ fun p hp => ?_
      obtain ⟨b1, b2, bw, b3⟩ := l1 p hp
      have g6 := (S6.pin p (List.mem_append_right _ (List.mem_cons_of_mem _ (List.mem_cons_of_mem _ (List.mem_append_left _ hp))))).1
      refine PySem.W.hideAll_get _ (gOf _ _ (fun z => ?_) (fun z => ?_) g6) fun hm => ?_
      · rw [z, k2] at b1
        cases b1
      · rw [z, hnT] at b1
        cases b1
      · rw [hs] at hm
        exact notFr p.1 p.2 bw (k1 _ _ b1) b3 hm
    show wpAny _ _ (PySem.passOn "try.except-as" (.ref a) X.env) _ _ s6
    unfold PySem.passOn
    refine wpAny_bind (wpAny_field ga hd hv1 ?_)
    rw [if_neg (show ¬ ((Value.ref T == Value.none) = true) from by simp)]
    have goOn : wpAny (model X.prog X.w) (X.A.mark (some (.ref aH))) (setFlight (.ref a) X.env.frame) (fun _ s7 => wpAny (model X.prog X.w) (X.A.mark (some (.ref aH))) (throw (.ref a) : Sem Flow) (fun _ _ => False) N s7) N s6 := by
      rw [hf]
      refine HandSPX.setFlight_onZ hd6 fun h7 hh7 up7 => wpAny_throw (hp _ _ (tk _ _ ?_))
      refine ⟨a, PySem.W.hideAll G (frs X.stack), { s6 with heap := G }, P, τ.set i none, H, cl, d, v, rfl, I6, fun b o e hb => PySem.W.hideAll_get _ e hb, ?_, .inr (.inr (by rw [← hs] at hh7; exact hh7)), na, rfl, J6.bare, hc6, hW _ _ _ _ hw⟩
      exact Heap.UpToSlots.trans (Heap.UpToSlots.of_keeps fun b o e => (gIn b o e).1) up7
    first
      | exact wpAny_bind (wpAny_pure (wpAny_bind goOn))
      | exact wpAny_bind goOn
  show wpAny (model X.prog X.w) (X.A.mark (some (.ref aH))) (noteFrame (.ref a) X.env) _ _ _
  rcases sky with ⟨hB, hn, hl, oe, ws, he0, hz, hd, hv1⟩ | fl | hh
  · exact PXN.look_newZ Zv.steady hfr hl hf he0 hB hn hd hv1 hz fin
  · exact PXN.looks_onZ Zv.steady hfr hf fl fin
  · exact HandSPX.againZ hf hh.2.2.2 (fin s'.heap hh (Heap.UpToSlots.refl _))
end
/-! ## try: body, except C as n: raise D(..) from n -/
abbrev nil0 : Ends := ⟨fun _ _ => False, fun _ _ => False, fun _ _ => False, fun _ _ => False⟩
abbrev offW (i : Nat) (Wout : WX) : WX := fun cl d τ H => Wout cl d (τ.set i none) H
def wRF (K : PySem.W.Frag) (c : Value) (i : Nat) (ts : WX → Addr → Value → Option Addr → TS) (Wout : WX) : WX := fun cl d σ H => ∃ b, PySem.W.exmOne K cl c = some b ∧
  (b = true → PySem.W.subIn K cl (.type "BaseException") = some true ∧ ∀ a, H a = none → ts (offW i Wout) a cl d nil0 (σ.set i (some (.ref a))) H) ∧ (b = false → Wout cl d σ H)
section
variable {m : Nat} {X : Cx} {x n : Str} {c : Value} {i : Nat} {body suite : List Stmt} {b₀ : Stmt} {np pos pos' : Pos} {tb : WX → TS} {ts : WX → Addr → Value → Option Addr → TS} {Wout : WX}
theorem ps_try_rf (m1 : m ≤ 1) (hs : X.stack = X.env :: X.outer) (hf : X.env.frame = some X.env.locals) (hex : X.ex = []) (hN : X.N.Nodup) (hi : X.N[i]? = some n) (hln : X.env.kindOf n = some .local) (hc : Names X x c) (tk : Takes (m + 1) X Wout)
    (hpa : ∀ hd : Option Value, PassesOwnAt (model X.prog X.w) (X.A.mark hd) X.A X.env X.xe)
    (hb : ∀ (W : WX) (pn : List (Addr × Obj)) (xe : Value → Shared → Prop), Takes m (X.tr pn xe) W → PassesOwn (model X.prog X.w) X.A X.env xe → PSs (X.tr pn xe) body (tb W))
    (hsu : ∀ (aH : Addr) (oH : Obj) (cl : Value) (d : Option Addr) (v : Value) (pn : List (Addr × Obj)) (xe : Value → Shared → Prop) (W : WX), Zv cl d v oH → Hot m (warm X aH pn xe) aH oH v → Takes (m + 1) (warm X aH pn xe) W → PSs (warm X aH pn xe) (b₀ :: suite) (fun E σ H => σ[i]? = some (some (.ref aH)) ∧ ts W aH cl d E σ H)) :
    PS X (.Try body [.ExceptHandler (some (.Name x np)) (some n) (b₀ :: suite) pos'] [] [] pos) (fun D σ H => tb (wRF X.K c i ts Wout) D σ H) := by
  refine ⟨fun pins s σ H D I hT => ?_⟩
  have okI := I.ok
  have fr0 : X.A.frames = some (X.env :: X.outer) := by rw [okI.frames, hs]
  have locn : Loc X.env.scope n := .inl hln
  refine wpAny_Try_except ?_
  refine wpAny_mono ((hb (wRF X.K c i ts Wout) (X.pn ++ pins) (fun er s1 => wpAny (model X.prog X.w) X.A (noteFrame er X.env) (fun _ s2 => wpAny (model X.prog X.w) X.A (setFlight er none) (fun _ s3 =>
      wpAny (model X.prog X.w) X.A (handleBy er X.env [.ExceptHandler (some (.Name x np)) (some n) (b₀ :: suite) pos']) (SP X pins D) X.xe s3) X.xe s2) X.xe s1) (fun u s' xx => ?_) PassesOwn.looking).run [] s σ H D (I.toTry _) hT) (fun fl s1 hsp => ?_) (fun er s1 he => he)
  · obtain ⟨b, Bh, sI, pp, τ, Hx, cl, d, v, rfl, Jt, nb, up, sky, na, os, ag, hch, bq, hq1, hyes, hno⟩ := xx
    have J : Inv X pins τ Hx sI := Jt.ofTry okI
    have nb : ∀ b o, sI.heap.get? b = some o → b ∉ frs X.stack → Bh.get? b = some o := nb
    have skyX : Sky Bh (X.env :: X.outer) b (Zv cl d v) X.env.locals s'.heap := by rw [← hs]; exact sky
    show wpAny (model X.prog X.w) X.A (noteFrame (Value.ref b) X.env) _ _ _
    refine L2N.Sky.land Zv.steady fr0 hf skyX fun hA flA upA => ?_
    have JA : Inv X pins τ Hx { s' with heap := hA } := J.landed nb flA.1 (up.trans upA) os ag
    obtain ⟨oA, vA, heA, hzA, hdA⟩ := flA.there
    have notFr : ∀ {hh : Heap} {y : Addr} {o : Obj} {fv : Array Value}, hh.FunFrames Bh (X.env :: X.outer) → hh.get? y = some o → o.data = .fields fv → y ∉ frs (X.env :: X.outer) := fun {hh y o fv} ff e dd hm => by
      obtain ⟨_, o2, e2, nf2⟩ := ff.mem hm
      rw [e] at e2
      cases e2
      exact nf2 _ dd
    have locF : X.env.locals ∈ frs (X.env :: X.outer) := List.mem_filterMap.mpr ⟨X.env, List.mem_cons_self, hf⟩
    have fsF : ∀ y, y ∈ X.fs → y ∈ frs (X.env :: X.outer) := fun y hm => by
      obtain ⟨e, he, q⟩ := List.mem_filterMap.mp hm
      exact List.mem_filterMap.mpr ⟨e, List.mem_cons_of_mem _ he, q⟩
    have out := notFr flA.2.2.1 heA hdA
    have nL : b ≠ X.env.locals := fun z => out (by rw [z]; exact locF)
    have nF : b ∉ X.fs := fun hm => out (fsF _ hm)
    have SA := JA.suite heA hdA na nL nF
    refine wpAny_handleBy_cons (codeAny_handlers_test ?_) (by intro z; cases z)
    have tyL : PySem.W.Looks (model X.prog X.w) hA (typeOf (.ref b)) cl := fun A2 Q2 E2 s2 k2 q2 => wpAny_typeOf_ref (k2 _ _ heA) (by rw [hzA.1]; exact q2)
    have mtL := PySem.W.exm_one (M := model X.prog X.w) (JA.kIn) tyL hq1
    have nameOk : ∀ {Q : Value → Shared → Prop} {E : Value → Shared → Prop}, Q c { s' with heap := hA } → wpAny (model X.prog X.w) (X.A.mark (some (.ref b))) (eval (.Name x np) X.env) Q E { s' with heap := hA } := fun {Q E} z => by
      obtain ⟨g1, g2, g3 | ⟨g3, g4, g5⟩⟩ := hc
      · exact ld_glob (X := X.suite b ((b, oA) :: (X.pn ++ pins))) SA g1 g3 z g2
      · exact ld_blt (X := X.suite b ((b, oA) :: (X.pn ++ pins))) SA g1 g3 g4 z g5 g2
    refine nameOk (mtL.here ?_)
    cases bq with
    | true =>
      obtain ⟨hbe, hgo⟩ := hyes rfl
      refine codeAny_handlers_suite_as ?_
      refine HandSPX.lands_againZ flA fun hC flC upC => ?_
      have JC : Inv X pins τ Hx { s' with heap := hC } := J.landed nb flC.1 ((up.trans upA).trans upC) os ag
      obtain ⟨oC, vC, heC, hzC, hdC⟩ := flC.there
      have hL : ∃ L : List (Addr × Obj), (∀ p ∈ L, Bh.get? p.1 = some p.2 ∧ Hx p.1 = none ∧ ∃ ws, p.2.data = .fields ws) ∧ (v = .none ∨ (0 < m ∧ ∃ (x2 : Addr) (o2 : Obj) (w2 : Array Value), v = .ref x2 ∧ (x2, o2) ∈ L ∧ o2.data = .fields w2 ∧ w2[2]? = some .none)) := by
        cases m with
        | zero => exact ⟨[], by simp, .inl hch⟩
        | succ k =>
          obtain rfl : k = 0 := by omega
          rcases hch with e | ⟨x2, o2, w2, u, e1, e2, e3, e4, e5, e6⟩
          · exact ⟨[], by simp, .inl e⟩
          · obtain rfl : u = Value.none := e6
            exact ⟨[(x2, o2)], fun p hp => by rw [List.mem_singleton.mp hp]; exact ⟨e2, e5, w2, e3⟩, .inr ⟨by omega, x2, o2, w2, e1, List.mem_cons_self, e3, e4⟩⟩
      obtain ⟨L, l1, l2⟩ := hL
      have JL : Inv X (L ++ pins) τ Hx { s' with heap := hC } := ⟨JC.ok, JC.os, JC.bare, JC.base, JC.loc, JC.cell, JC.free, JC.freeC, fun p hp => by
        rcases List.mem_append.mp hp with hp | hp
        · exact JC.pin p (List.mem_append_left _ hp)
        · rcases List.mem_append.mp hp with hp | hp
          · obtain ⟨b1, b2, bw, b3⟩ := l1 p hp
            have fp := notFr flC.2.2.1 (flC.1 _ _ b1) b3
            exact ⟨flC.1 _ _ b1, b2, fun z2 => fp (by rw [z2]; exact locF), fun z2 => fp (fsF _ z2), fun v z2 => by
              rw [b3] at z2
              cases z2⟩
          · exact JC.pin p (List.mem_append_right _ hp), JC.hok, JC.len⟩
      have SC := JL.suite heC hdC na nL nF
      refine store_ok (X := X.suite b ((b, oC) :: (X.pn ++ (L ++ pins)))) (v := .ref b) SC hN hi locn rfl (fun sE SE => ?_) (.inr hln)
      have hot : Hot m (warm X b ((b, oC) :: (X.pn ++ (L ++ pins))) (fun er s3 => AsSuiteRaised (model X.prog X.w) (X.A.mark (some (.ref b))) X.env n pos' (notedBy (model X.prog X.w) (X.A.mark (some (.ref b))) X.env (cameBackBy (model X.prog X.w) X.A X.env X.xe)) er s3)) b oC v :=
        ⟨rfl, List.mem_cons_self, ⟨vC, hdC, hzC.2.2 vC hdC⟩, l2.imp id fun ⟨h0, x2, o2, w2, e1, e2, e3, e4⟩ => ⟨h0, x2, o2, w2, e1, List.mem_cons_of_mem _ (List.mem_append_right _ (List.mem_append_left _ e2)), e3, e4⟩, by
          show PySem.W.subIn X.K oC.cls _ = _
          rw [hzC.1]
          exact hbe⟩
      refine wpAny_mono ((hsu b oC cl d v _ _ (offW i Wout) hzC hot fun u2 s2 x2 => as_raised hs hf hex okI tk hN hi hln (hpa (some (.ref b))) (fun _ _ _ _ z => z) x2).run [] sE _ Hx nil0 (inv_warm SE) ⟨List.getElem?_set_self (by rw [J.len]; exact (List.getElem?_eq_some_iff.mp hi).1), hgo b na⟩) (fun fl sF hsp => ?_) (fun er s3 z => z)
      cases fl with
      | next => obtain ⟨_, _, _, q⟩ := hsp; exact False.elim q
      | brk => obtain ⟨_, _, _, q⟩ := hsp; exact False.elim q
      | cont => obtain ⟨_, _, _, q⟩ := hsp; exact False.elim q
      | ret u => obtain ⟨_, _, _, _, _, q⟩ := hsp; exact False.elim q
    | false =>
      show wpAny _ X.A (handleBy (Value.ref b) X.env []) _ _ _
      refine wpAny_handleBy_nil ?_
      obtain ⟨k1, k2, k3, oe, vs, Tb, oT, ts', he, hz, hd, h1, hr⟩ := id flA
      unfold PySem.passOn
      refine wpAny_bind (wpAny_field he hd h1 ?_)
      rw [if_neg (show ¬ ((Value.ref Tb == Value.none) = true) from by simp)]
      have thrown : wpAny (model X.prog X.w) X.A (setFlight (.ref b) X.env.frame) (fun _ s4 => wpAny (model X.prog X.w) X.A (throw (.ref b) : Sem Flow) (SP X pins D) X.xe s4) X.xe { s' with heap := hA } := by
        rw [hf]
        refine HandSPX.setFlight_upZ flA fun hC hhC upC => wpAny_throw (tk _ _ ?_)
        exact ⟨b, Bh, sI, pins, τ, Hx, cl, d, v, rfl, J, nb, (up.trans upA).trans upC, .inr (.inr (by rw [hs]; exact hhC)), na, os, ag, hch.up, hno rfl⟩
      first
        | exact wpAny_bind (wpAny_pure (wpAny_bind thrown))
        | exact wpAny_bind thrown
  · cases fl with
    | next =>
      obtain ⟨τ, Hx, Jt, qF⟩ := hsp
      exact wpAny_execs_nil ⟨τ, Hx, Jt.ofTry okI, qF⟩
    | brk =>
      obtain ⟨τ, Hx, Jt, qF⟩ := hsp
      exact ⟨τ, Hx, Jt.ofTry okI, qF⟩
    | cont =>
      obtain ⟨τ, Hx, Jt, qF⟩ := hsp
      exact ⟨τ, Hx, Jt.ofTry okI, qF⟩
    | ret u =>
      obtain ⟨vF, τ, Hx, Jt, rF, qF⟩ := hsp
      exact ⟨vF, τ, Hx, Jt.ofTry okI, rF, qF⟩
end
end AX

set_option Elab.async false
set_option linter.all false
set_option maxRecDepth 100000
set_option maxHeartbeats 4000000
/-! from G4 -/
namespace G
open AX (warm)
variable {cn : Nat}
open PySem L2

/-- the def at f keeps the promise S, by level k -/
def FNA (cn : Nat) (g : Gm) (P : Program) (w : World) (K : PySem.W.Frag) (mg : Str → Option Value) (base : Heap) (k : Nat) (f : Addr) (S : DSp) : Prop := FnR P w K mg base (AX.CX cn P w) k f (toSp g S)
theorem FNA.mono {g : Gm} {P : Program} {w : World} {K : PySem.W.Frag} {mg : Str → Option Value} {base : Heap} {j k : Nat} {f : Addr} {S : DSp} (h : FNA cn g P w K mg base j f S) (hj : j ≤ k) : FNA cn g P w K mg base k f S :=
  fun A outer s H us vs Q E hr => h A outer s H us vs Q E (hr.mono hj)
section
variable {g : Gm} {X : Cx} {W : WX} {pos pos' p apos : Pos} {a b c o : Expr} {es : List Expr} {Ta Tb : DE} {R : DA} {k : Nat} {f : Addr} {S : DSp} {x m : Str}
theorem run_FNA {pins : List (Addr × Obj)} {σ : St} {H : Hp} {s : Shared} {Q : VK} {us : List Value} {vs : List V} (Fn : FNA cn g X.prog X.w X.K X.mg X.base k f S) (hr : Room k X.A) (tk : AX.Takes cn X W) (I : Inv X pins σ H s) (r : Vals vs us)
    (h : toSp g S vs H Q (fun cls dd H' => W cls dd σ H')) : codeAny (model X.prog X.w) X.A (.call (.ref f) ⟨us, []⟩) (fun r s' => match r with | .ok (.ret v) => EP X pins σ Q v s' | .ok _ => False | .error e => X.xe e s') s := by
  refine codeAny_mono (Fn X.A X.stack s H us vs Q _ hr I.env0 r h) fun r s' hq => ?_
  cases r with
  | error e => exact AX.passAt tk σ pins H s e s' I hq
  | ok fl =>
    cases fl with
    | ret u => exact I.after hq
    | next => exact False.elim hq
    | brk => exact False.elim hq
    | cont => exact False.elim hq
theorem q_callA (Fn : FNA cn g X.prog X.w X.K X.mg X.base k f S) (hr : Room k X.A) (tk : AX.Takes cn X W) (hm : X.mg x = some (.ref f)) (hk : PySem.W.keepIn X.K (.ref f) = true) (ha : PA X (a :: es) (la g W R)) (hg : Gl X x := by rfl)
    (hdb : (x == ("__debug__" : Str)) = false := by decide) (he : starEach (a :: es) X.env = (false, eval a X.env) :: starEach es X.env := by rfl) (hpl : (backTo pos (starEach es X.env)).any (·.1) = false := by rfl) :
    PE X (.Call (.Name x p) (a :: es) [] pos) (le g W (dCall S R)) := by
  refine ⟨fun pins s σ H Q I h => ?_⟩
  obtain ⟨Δ, O, P, E, F, hT, sr, w, hv, hx⟩ := h
  refine wpAny_Call_Name_kw (ld_glob I hg hm ?_ hdb)
  refine PySem.W.callWith_K (h₀ := X.base) I.ok.mod.kin hk (thn (ha.run pos pins s σ H _ I (la_bind (Q := fun vs H1 => toSp g S vs H1 Q fun cls dd H' => W cls dd σ H') hT sr w hx fun ds O1 vs F1 H1 hT1 s1 sr1 w1 rs hx1 => sp_of hT1 rs w1 hv s1 hx1)) fun us s1 ⟨vs, H1, I1, r, q⟩ => ⟨I1.kIn, ?_⟩) he hpl
  exact wpAny_call (run_FNA Fn hr tk I1 r q)
theorem run_mkA {C : Addr} {pins : List (Addr × Obj)} {σ : St} {H : Hp} {s : Shared} {Q : VK} {us : List Value} {vs : List V} (M : Mk X.K C f) (Fn : FNA cn g X.prog X.w X.K X.mg X.base k f S) (hr : Room (k + 1) X.A) (tk : AX.Takes cn X W) (I : Inv X pins σ H s) (r : Vals vs us)
    (h : ∀ x dx, H x = Option.none → H dx = Option.none → dx ≠ x → toSp g S (V.ref x :: vs) (upd (upd H dx (.own x)) x (.ins C dx [])) (fun v H2 => v = .non ∧ Q (.ref x) H2) (fun cls dd H' => W cls dd σ H')) :
    wpAny (model X.prog X.w) X.A (call (.ref C) us) (EP X pins σ Q) X.xe s := by
  have hq := h (s.heap.objs.size + 1) s.heap.objs.size (I.hok.fresh (Nat.le_succ _)) (I.hok.fresh (Nat.le_refl _)) (Nat.ne_of_lt (Nat.lt_succ_self _))
  have I2 := Inv.made (C := C) I
  have r2 : Vals (V.ref (s.heap.objs.size + 1) :: vs) (Value.ref (s.heap.objs.size + 1) :: us) := .cons rfl r
  refine wpAny_call (make_map (f := f) I.kIn M.makes M.init (beq_iff_eq.mp M.fn) (codeAny_mono (Fn _ X.stack _ _ (Value.ref (s.heap.objs.size + 1) :: us) _ _ _ (hr.make C us []) (I2.env0.make C us []) r2 hq) fun r s' hq' => ?_))
  cases r with
  | error e => exact AX.passAt tk σ pins _ _ e s' I2 hq'
  | ok fl =>
    cases fl with
    | ret u =>
      obtain ⟨v, H', I3, rv, ev, q3⟩ := I2.after hq'
      subst ev
      exact ⟨rv, ⟨V.ref (s.heap.objs.size + 1), H', I3, rfl, q3⟩⟩
    | next => exact False.elim hq'
    | brk => exact False.elim hq'
    | cont => exact False.elim hq'
theorem q_makeA {cl : Cl} (M : Mk X.K (g.ca cl) f) (Fn : FNA cn g X.prog X.w X.K X.mg X.base k f S) (hr : Room (k + 1) X.A) (tk : AX.Takes cn X W) (hm : X.mg x = some (.ref (g.ca cl))) (ha : PA X (a :: es) (la g W R)) (hg : Gl X x := by rfl)
    (hdb : (x == ("__debug__" : Str)) = false := by decide) (he : starEach (a :: es) X.env = (false, eval a X.env) :: starEach es X.env := by rfl) (hpl : (backTo pos (starEach es X.env)).any (·.1) = false := by rfl) :
    PE X (.Call (.Name x p) (a :: es) [] pos) (le g W (dMake cl S R)) := by
  refine ⟨fun pins s σ H Q I h => ?_⟩
  obtain ⟨Δ, O, P, E, F, hT, sr, w, hv, hx⟩ := h
  refine wpAny_Call_Name_kw (ld_glob I hg hm ?_ hdb)
  refine PySem.W.callWith_K (h₀ := X.base) I.ok.mod.kin M.kp (thn (ha.run pos pins s σ H _ I (la_bind (Q := fun vs H1 => ∀ x dx, H1 x = none → H1 dx = none → dx ≠ x → toSp g S (V.ref x :: vs) (upd (upd H1 dx (.own x)) x (.ins (g.ca cl) dx [])) (fun v H2 => v = .non ∧ Q (.ref x) H2) fun cls dd H' => W cls dd σ H') hT sr w hx
    fun ds O1 vs F1 H1 hT1 s1 sr1 w1 rs hx1 x dx nx nd ne => mk_sp hT1 rs w1 hv s1 hx1 x dx nx nd ne)) fun us s1 ⟨vs, H1, I1, r, q⟩ => ⟨I1.kIn, ?_⟩) he hpl
  exact run_mkA M Fn hr tk I1 r q

end
end G

/-! from G5 -/
namespace G
open AX (warm)
variable {cn : Nat}
open PySem L2
section
variable {P : Program} {w : World} {K : PySem.W.Frag} {mg : Str → Option Value} {base : Heap}
theorem fn_okFA {g : Gm} {x qual : Str} {st : Stmt} {f : Addr} {fd : FuncData} {N ps : List Str} {k : Nat} {S : DSp} {T : DS} (Fn : Fun K x qual st f fd) (Sc : FnScope N ps (defScope st)) (len : ∀ ds O P E, S ds O P E → ds.length = ps.length)
    (body : ∀ (cdv : Value) (A : Around) (outer : List Env) (s : Shared) (H : Hp) (E : XK), Room k (A.deeper (PyProof.Rows.envOfC qual (defScope st) s.heap.objs.size f cdv)) →
      PSs (cxOf (AX.CX cn P w) P w K mg base N qual (defScope st) f cdv A outer s H E) (defBody st) (ls g (wE E) T))
    (pure : ∀ ds O P E, S ds O P E → Opn O fun O' => T (endsD P E) (startD N ds) O') : FnOk P w K mg base (AX.CX cn P w) (k + 1) f fd ps (toSp g S) := by
  refine AX.okX Fn Sc (fun vs H Q E h => ?_) fun cdv A outer s H vs Q E hr h => ⟨_, body cdv A outer s H E hr, ?_⟩
  · obtain ⟨F, O, ds, P', EX, h1, h2, h3, _⟩ := h
    rw [← h1.length]
    exact len _ _ _ _ h3
  · obtain ⟨F, O, ds, P', EX, h1, h2, h3, h4, h5⟩ := h
    obtain ⟨O', w', hT⟩ := pure ds O P' EX h3 g F H h2
    refine ⟨endsD P' EX, startD N ds, O', F, hT, srel_start h1, w', ⟨fun Δ O1 F1 σ H1 ⟨O2, wk, q⟩ s1 sr1 w1 => ?_, fun d O1 v F1 H1 ⟨O2, wk, q⟩ s1 w1 r1 => ?_, fun _ _ _ _ _ q => q.elim, fun _ _ _ _ _ q => q.elim, fun y Δ O1 cls dd F1 σ H1 ⟨O2, wk, q⟩ s1 sr1 w1 r1 => ?_⟩⟩
    · exact h4 _ _ _ _ _ q s1 (wk _ _ _ w1) (Rep.non_iff.mpr rfl)
    · exact h4 _ _ _ _ _ q s1 (wk _ _ _ w1) r1
    · exact h5 _ _ _ _ _ _ q s1 (wk _ _ _ w1) r1
theorem fn_FNA {g : Gm} {f : Addr} {fd : FuncData} {ps : List Str} {k : Nat} {S : DSp} (F : FnOk P w K mg base (AX.CX cn P w) k f fd ps (toSp g S)) (hb : Binds K fd ps []) : FNA cn g P w K mg base k f S :=
  fun A outer s H us vs Q E hr e0 hv h => F.run A outer s H ⟨us, []⟩ us vs Q E hr e0 (by
    have hl : us.length = ps.length := by rw [← hv.length]; exact F.len _ _ _ _ h
    have z := hb s us (e0.mod.kin.keeps fun b o e => (e0.bs b o e).1) (by rw [List.append_nil]; exact hl)
    rw [List.append_nil] at z
    exact z) hv h
end

end G

/-! from G6 -/
namespace G
open AX (warm)
variable {cn : Nat}
open PySem L2

section
variable (cn)
variable (g : Gm) (P : Program) (w : World) (K : PySem.W.Frag) (mg : Str → Option Value) (base : Heap)
/-- the def of that name keeps S -/
def GDA (k : Nat) (name : Str) (S : DSp) : Prop := ∃ f, mg name = some (.ref f) ∧ PySem.W.keepIn K (.ref f) = true ∧ FNA cn g P w K mg base k f S
/-- the class of that name can be made, its __init__ keeps S -/
def GCA (k : Nat) (cl : Cl) (name : Str) (S : DSp) : Prop := mg name = some (.ref (g.ca cl)) ∧ ∃ f, Mk K (g.ca cl) f ∧ FNA cn g P w K mg base k f S
end
section
variable {g : Gm} {P : Program} {w : World} {K : PySem.W.Frag} {mg : Str → Option Value} {base : Heap}
/-- what a def's body needs: its walk, for every place it stands at -/
def BodyOkA (cn : Nat) (g : Gm) (P : Program) (w : World) (K : PySem.W.Frag) (mg : Str → Option Value) (base : Heap) (k : Nat) (N : List Str) (qual : Str) (st : Stmt) (T : DS) : Prop :=
  ∀ (f : Addr) (cdv : Value) (A : Around) (outer : List Env) (s : Shared) (H : Hp) (E : XK), Room k (A.deeper (PyProof.Rows.envOfC qual (defScope st) s.heap.objs.size f cdv)) →
      PSs (cxOf (AX.CX cn P w) P w K mg base N qual (defScope st) f cdv A outer s H E) (defBody st) (ls g (wE E) T)
end
section
variable {g : Gm} {X : Cx} {W : WX} {pos pos' p : Pos} {a b c : Expr} {es : List Expr} {R : DA} {k j : Nat} {x : Str} {S : DSp} {cl : Cl}
theorem q_gcallA (h : GDA cn g X.prog X.w X.K X.mg X.base k x S) (hr : Room j X.A) (tk : AX.Takes cn X W) (ha : PA X (a :: es) (la g W R)) (hkj : k ≤ j := by first | decide | omega) (hg : Gl X x := by rfl)
    (hdb : (x == ("__debug__" : Str)) = false := by decide) (he : starEach (a :: es) X.env = (false, eval a X.env) :: starEach es X.env := by rfl) (hpl : (backTo pos (starEach es X.env)).any (·.1) = false := by rfl) :
    PE X (.Call (.Name x p) (a :: es) [] pos) (le g W (dCall S R)) := by
  obtain ⟨f, hm, hk, Fn⟩ := h
  exact q_callA Fn (hr.mono hkj) tk hm hk ha hg hdb he hpl
theorem q_gmakeA (h : GCA cn g X.prog X.w X.K X.mg X.base k cl x S) (hr : Room j X.A) (tk : AX.Takes cn X W) (ha : PA X (a :: es) (la g W R)) (hkj : k + 1 ≤ j := by first | decide | omega) (hg : Gl X x := by rfl)
    (hdb : (x == ("__debug__" : Str)) = false := by decide) (he : starEach (a :: es) X.env = (false, eval a X.env) :: starEach es X.env := by rfl) (hpl : (backTo pos (starEach es X.env)).any (·.1) = false := by rfl) :
    PE X (.Call (.Name x p) (a :: es) [] pos) (le g W (dMake cl S R)) := by
  obtain ⟨hm, f, mk, Fn⟩ := h
  exact q_makeA mk Fn (hr.mono hkj) tk hm ha hg hdb he hpl
end
end G

/-! from G11 -/
namespace G
open AX (warm)
variable {cn : Nat}
open PySem L2
abbrev scxA (cn : Nat) (P : Program) (w : World) (K : PySem.W.Frag) (mg : Str → Option Value) (base : Heap) (N : List Str) (x qual : Str) (st : Stmt) (f cc cda : Addr) (A : Around) (outer : List Env) (s : Shared) (H : Hp) (E : XK) : Cx :=
  NdefX.ncx (AX.CX cn P w) P w K mg base N (sNF x qual st cc cda) f A outer s H E
section
variable {P : Program} {w : World} {K : PySem.W.Frag} {mg : Str → Option Value} {base : Heap} {N ps : List Str} {x qual : Str} {st : Stmt} {f cc cda D : Addr} {fd : FuncData} {file : Str} {k : Nat} {sp : Sp}
theorem fn_superA (F : FunS K x qual st f fd cc cda D file) (S : NdefX.NScope N ps ["__class__"] (defScope st)) (len : ∀ vs H Q E, sp vs H Q E → vs.length = ps.length)
    (hbody : ∀ (A : Around) (outer : List Env) (s : Shared) (H : Hp) (vs : List V) (Q : VK) (E : XK), Room k (A.deeper (NdefX.envF (sNF x qual st cc cda) f s.heap.objs.size)) → sp vs H Q E →
      ∃ t, PF (scxA cn P w K mg base N x qual st f cc cda A outer s H E) (defBody st) t ∧ t { nx := fun _ H' => Q .non H', rt := Q } (NdefX.startF N vs [none]) H) :
    FnOk P w K mg base (AX.CX cn P w) (k + 1) f fd ps sp := by
  refine ⟨len, fun A outer s H args us vs Q E hr e0 hb r hsp => ?_⟩
  obtain ⟨oc, od, kV, doc, pm, an, ct, osl, rfl, lk⟩ := F.ex
  obtain ⟨cl, cld, csl, hcell⟩ := F.cell
  have hl := len _ _ _ _ hsp
  have kp0 : ∀ b o, base.get? b = some o → s.heap.get? b = some o := fun b o e => (e0.bs b o e).1
  have KI : K.In s.heap := e0.mod.kin.keeps kp0
  have lim : s.heap.NoLimit := e0.mod.nolimit.keeps kp0
  refine PySem.ks_codeAny_call_defAt (fd := PySem.W.ksFn x qual (defArgs st) (defBody st) (defScope st) .none kV doc pm an (.ref cda) ct cc) hr.depth (KI _ _ lk) rfl lim (PySem.W.codeRec_of KI F.code) rfl hb S.nocell (fun ⟨n, _⟩ hy => S.par n (List.of_mem_zip hy).1) (fun h₁ hns kp => ?_) S.co S.gen S.kind
  obtain ⟨t, ht, hq⟩ := hbody A outer s H vs Q E (hr.deeper _) hsp
  have C : NdefX.CellsAt [("__class__", cc)] ["__class__"] [none] s.heap H := by
    have key : ∀ (y : Str) (c : Addr), [(("__class__" : Str), cc)].lookup y = some c → y = "__class__" ∧ c = cc := fun y c e => by
      rw [List.lookup_cons] at e
      split at e
      · rename_i q
        cases e
        exact ⟨beq_iff_eq.mp q, rfl⟩
      · cases e
    refine ⟨rfl, fun y c e => ?_, fun a b c e1 e2 => (key a c e1).1.trans (key b c e2).1.symm, fun i y e => ?_⟩
    · obtain ⟨_, rfl⟩ := key y c e
      exact ⟨(e0.bs _ _ (e0.mod.kin _ _ hcell)).2, some (.ref D), ⟨_, KI _ _ hcell, rfl⟩⟩
    · cases i with
      | zero =>
        cases e
        exact ⟨cc, rfl, fun v z => by cases z⟩
      | succ n => cases e
  have I : Inv (scxA cn P w K mg base N x qual st f cc cda A outer s H E) [] (NdefX.startF N vs [none]) H { s with heap := h₁, toks := s.toks + (ps.zip us).length } := NdefX.inv_startN S hr.hd e0 hl r C hns kp
  refine _root_.PySem.wpAt_mono (ht.run (defBody st) [] _ (NdefX.startF N vs [none]) H _ I hq) (fun fl s' hs => ?_) fun e s' hs => hs
  have fin : ∀ {σ' : L2.St} {H' : Hp} {v : V} {u : Value}, Inv (scxA cn P w K mg base N x qual st f cc cda A outer s H E) [] σ' H' s' → L2.RelV v u → Q v H' → CE outer P w H s Q u s' :=
    fun {σ' H' v u} J rv q => ⟨v, H', J.os, J.bare, J.base, J.hok, rv, q⟩
  cases fl with
  | ret u =>
    obtain ⟨v, σ', H', J, rv, q⟩ := hs
    exact fin J rv q
  | next =>
    obtain ⟨σ', H', J, q⟩ := hs
    exact fin (v := V.non) (u := Value.none) J rfl q
  | brk =>
    obtain ⟨_, _, _, q⟩ := hs
    exact False.elim q
  | cont =>
    obtain ⟨_, _, _, q⟩ := hs
    exact False.elim q
end

section
variable {P : Program} {w : World} {K : PySem.W.Frag} {mg : Str → Option Value} {base : Heap} {N ps : List Str} {x qual : Str} {st : Stmt} {f cc cda D : Addr} {fd : FuncData} {file : Str} {k : Nat} {A : Around} {outer : List Env} {s0 : Shared} {H0 : Hp} {E0 : XK}
theorem super_nodeA {ar attr : Str} {body : List Stmt} {p0 p1 : Pos} {whole : Sem Value} {pins : List (Addr × Obj)} {σ : St} {H : Hp} {s : Shared} {a C : Addr} {ox : Obj} {od : Option Obj} {Q : Value → Shared → Prop} {E : Value → Shared → Prop}
    (F : FunS K x qual st f fd cc cda D file) (PG : Pg P file) (T : SupTx N st ar) (hm : mg "super" = none) (hat : (attr == ("__class__" : Str)) = false) (I : Inv (scxA cn P w K mg base N x qual st f cc cda A outer s0 H0 E0) pins σ H s) (es : σ[0]? = some (some (.ref a)))
    (J : PySem.W.InstAt s.heap a ox C od) (hsub : PySem.W.mroIn K C (.ref D) = some true)
    (h : ∀ so s', Inv (scxA cn P w K mg base N x qual st f cc cda A outer s0 H0 E0) pins σ H s' → s'.heap.get? so = some (PySem.W.ks_superObj D a C) → (∀ b o, s.heap.get? b = some o → s'.heap.get? b = some o) → Q (.ref so) s') :
    _root_.PySem.wpAt (model P w) (scxA cn P w K mg base N x qual st f cc cda A outer s0 H0 E0).A (.func body (scxA cn P w K mg base N x qual st f cc cda A outer s0 H0 E0).env) (attributeBase (.Call (.Name "super" p0) [] [] p1) attr (scxA cn P w K mg base N x qual st f cc cda A outer s0 H0 E0).env whole) Q E s := by
  have KI : K.In s.heap := I.kIn
  obtain ⟨oc, odd, kV, doc, pm, an, ct, osl, rfl, lk⟩ := F.ex
  obtain ⟨ccl, cdd, vs, ccs, tf, hcode, hvs⟩ := F.fl
  obtain ⟨cl, cld, csl, hcell⟩ := F.cell
  obtain ⟨cdD, hD⟩ := F.dcl
  obtain ⟨r, hr, har⟩ := T.fst
  obtain ⟨oD, hD1, hD2⟩ : ∃ oD, s.heap.get? D = some oD ∧ oD.data = .cls cdD := by
    unfold PySem.W.clsIn at hD
    split at hD
    · rename_i c d cd' sl ho
      cases hD
      exact ⟨_, KI _ _ ho, rfl⟩
    · cases hD
  refine PySem.ks_wpAt_super_base (env := (scxA cn P w K mg base N x qual st f cc cda A outer s0 H0 E0).env) T.ks T.kc hat rfl (KI _ _ lk) rfl hr rfl (KI _ _ hcode) rfl hvs PG.file PG.sup ?_
  obtain ⟨mb, h1, h2⟩ := I.mod.blt
  refine PySem.W.ks_loadName_global T.kind T.ks (Calls.loadGlobal_builtin (I.mod.glob.keeps I.bk) hm (h1.keeps I.bk) ((h2 "super" (by decide)).trans (by decide +kernel : bootBuiltins "super" = some (.type "super"))) ⟨rfl, ?_⟩)
  refine wpAny_loadName_free T.kind T.kc rfl ⟨_, KI _ _ hcell, rfl⟩ ?_
  obtain ⟨m, hn, hl⟩ := I.loc
  obtain ⟨u, ru, l⟩ := hl 0 ar (.ref a) T.n0 es (.inl T.ka)
  obtain rfl : u = Value.ref a := ru
  have hlo : m ar = some (.ref a) := by
    rcases l with ⟨_, hm⟩ | ⟨hk, _⟩
    · exact hm
    · rcases hk with hk | hk
      · have z := T.ka.symm.trans hk; cases z
      · have z := T.ka.symm.trans hk; cases z
  rw [har]
  refine wpAny_loadName_local T.kind T.ka hn hlo ?_
  obtain ⟨hh, g, d, t, os⟩ := s
  refine PySem.ks_wpAny_isType_cls hD1 hD2 ⟨rfl, ?_⟩
  refine PySem.ks_wpAny_call_super hD1 hD2 J.at_ J.cls (fun c e => ?_) (PySem.W.looks_mroIn KI hsub) (fun h' e k => ?_)
  · have := J.no
    unfold PySem.W.notCls at this
    rw [e] at this
    exact Bool.noConfusion this
  · exact h _ _ (I.kept k) e k
end

section
open PySem.W
variable {prog : Program} {w : World} {A : Around} {E : Value → Shared → Prop} {h : Heap} {g : Array GenState} {d : Drawn} {t : Nat} {os : OsState}
variable {nm q : Str} {C N : Addr} {bs bm : List Value} {hdct : Bool} {sn : List Str} {sub : List Value} {ab : Bool} {col : Option Bool} {dd : Option Addr} {k0 k1 k2 k3 k5 : Option Value}
end
end G

/-! from G12 -/
namespace G
open AX (warm)
variable {cn : Nat}
open PySem L2
section
variable {g : Gm} {X : Cx} {W : WX} {pos pos' p p2 : Pos} {a b c e : Expr} {es : List Expr} {R : DA} {Ta Tb : DE} {k j : Nat} {x : Str}
theorem qs_raiseA {ec : Ec} {fs : List Fd} (h : GX g X.prog X.w X.K X.mg X.base ec x fs) (hr : Room j X.A) (tk : AX.Takes cn X W) (ha : PA X (e :: es) (la g W R)) (hj : 2 ≤ j := by decide) (nd : fs.Nodup := by decide) (hc : X.calm = true := by rfl) (hg : Gl X x := by rfl)
    (hdb : (x == ("__debug__" : Str)) = false := by decide) (he : starEach (e :: es) X.env = (false, eval e X.env) :: starEach es X.env := by rfl) (hpl : (backTo pos (starEach es X.env)).any (·.1) = false := by rfl) :
    PS X (.Raise (some (.Call (.Name x p) (e :: es) [] pos)) none pos') (ls g W (dRaise ec fs R)) := by
  obtain ⟨hm, T, f, fd, ps, iC, tI, F1, hb⟩ := h
  refine ps_imp (AX.ps_raise hc tk (AX.pmk_oex T iC tI F1 (hr.mono hj) hb (fun _ _ _ _ _ _ _ z => by obtain ⟨_, _, _, _, _, _, _, _, _, _, _, _, z⟩ := z; exact z.elim) hg hm ha hdb he hpl)) fun En σ H ⟨D, Δ, O, F, hT, sr, w, ho⟩ => ?_
  refine la_bind hT sr w (ho.toX sr) fun ds O1 vs F1' H1 hT1 s1 sr1 w1 rs hx1 => ?_
  obtain ⟨hl, h9, hT1⟩ := hT1
  have hlv : vs.length = fs.length := by rw [← rs.length, hl]
  refine ⟨by omega, fun q hq => ⟨q, vs, by simp, by simp [hlv], upd_same, fun d hd ne => ⟨rfl, d, ((fs.map Fd.str).zip vs).reverse, upd_same, ?_, ?_, ?_⟩⟩⟩
  · rw [upd_ne ne]
    exact upd_same
  · rw [upd_ne ne] at hd
    exact hd
  · have hd1 : H1 d = none := by rw [upd_ne ne] at hd; exact hd
    have eH : upd (del (upd (upd (upd H1 q (exo q (g.ea ec) none)) d (exd d ((fs.map Fd.str).zip vs).reverse)) q (exo q (g.ea ec) (some d))) q) d (.xd ((fs.map Fd.str).zip vs).reverse) = upd H1 d (.xd ((fs.map Fd.str).zip vs).reverse) := by
      funext b
      by_cases h1 : b = d
      · subst h1
        rw [upd_same, upd_same]
      · rw [upd_ne h1, upd_ne h1]
        by_cases h2 : b = q
        · subst h2
          rw [del_same, hq]
        · rw [del_ne h2, upd_ne h2, upd_ne h1, upd_ne h2]
    rw [eH]
    have w2 := w1.frozen (o := .xd ((fs.map Fd.str).zip vs).reverse) hd1
    have s2 := w1.fsame (o := .xd ((fs.map Fd.str).zip vs).reverse) hd1
    exact ho.xc _ _ _ _ _ _ _ _ hT1 (s1.trans s2) (sr1.mono s2) w2 ⟨rfl, vs, ⟨fun dd e => by cases e; exact ⟨_, upd_same⟩, fun f w hw => ⟨d, _, rfl, upd_same, by rw [look_rev nd hlv.symm]; exact hw⟩⟩, rs.mono s2⟩
end
end G

/-! from G22 -/
namespace G
open AX (warm)
variable {cn : Nat}
open PySem L2
end G
namespace G
open AX (warm)
variable {cn : Nat}
open PySem L2
section
variable {g : Gm} {P : Program} {w : World} {K : PySem.W.Frag} {mg : Str → Option Value} {base : Heap}
theorem fnFA {x qual : Str} {st : Stmt} {f : Addr} {fd : FuncData} {N ps : List Str} {k : Nat} {S : DSp} {T : DS} (Fn : Fun K x qual st f fd) (hb : Binds K fd ps []) (Sc : FnScope N ps (defScope st)) (body : BodyOkA cn g P w K mg base k N qual st T) (pure : Pure N ps.length S T) : FNA cn g P w K mg base (k + 1) f S :=
  fn_FNA (fn_okFA Fn Sc (fun ds O P E h => (pure ds O P E h).1) (body f) fun ds O P E h => (pure ds O P E h).2) hb
end
end G

/-! from G31 -/
namespace G
open AX (warm)
variable {cn : Nat}
open PySem L2
def STabA (cn : Nat) (g : Gm) (P : Program) (w : World) (K : PySem.W.Frag) (mg : Str → Option Value) (base : Heap) (k : Nat) (D : Addr) (m : Str) (tab : List (Cl × DSp)) : Prop := ∀ c S, tabAt tab c = some S → ∃ f, SupAt K (g.ca c) D m f ∧ FNA cn g P w K mg base k f S
theorem st_nilA {g : Gm} {P : Program} {w : World} {K : PySem.W.Frag} {mg : Str → Option Value} {base : Heap} {k : Nat} {D : Addr} {m : Str} : STabA cn g P w K mg base k D m [] := fun c S h => by simp [tabAt] at h
theorem st_consA {g : Gm} {P : Program} {w : World} {K : PySem.W.Frag} {mg : Str → Option Value} {base : Heap} {k : Nat} {D : Addr} {m : Str} {cl : Cl} {f : Addr} {S : DSp} {r : List (Cl × DSp)} (h1 : SupAt K (g.ca cl) D m f) (h2 : FNA cn g P w K mg base k f S) (t : STabA cn g P w K mg base k D m r) : STabA cn g P w K mg base k D m ((cl, S) :: r) := fun c S' e => by
  simp only [tabAt] at e
  by_cases q : c = cl
  · rw [if_pos q] at e
    cases e
    rw [q]
    exact ⟨f, h1, h2⟩
  · rw [if_neg q] at e
    exact t c S' e
section
variable {g : Gm} {P : Program} {w : World} {K : PySem.W.Frag} {mg : Str → Option Value} {base : Heap} {N ps : List Str} {x qual : Str} {st : Stmt} {f cc cda D : Addr} {fd : FuncData} {file : Str} {k : Nat} {A : Around} {outer : List Env} {s0 : Shared} {H0 : Hp} {E0 : XK}
theorem supcallA {ar m : Str} {es : List Expr} {R : DA} {p0 p1 p2 p3 : Pos} {pl : Sem Bool} {tab : List (Cl × DSp)} {W : WX} {body : List Stmt} {pins : List (Addr × Obj)} {s : Shared} {σ : St} {H : Hp} {Q : VK} (F : FunS K x qual st f fd cc cda D file) (PG : Pg P file) (T : SupTx N st ar) (hm : mg "super" = none) (M : STabA cn g P w g.K mg base k D m tab)
    (hK : K = g.K) (hr : Room k (scxA cn P w K mg base N x qual st f cc cda A outer s0 H0 E0).A) (tk : AX.Takes cn (scxA cn P w K mg base N x qual st f cc cda A outer s0 H0 E0) W) (hmf : Fd.of m = none) (hat : (m == ("__class__" : Str)) = false)
    (hargs : ∀ (q : Addr) (pins : List (Addr × Obj)) (s1 : Shared) (σ : St) (H1 : Hp) (Qa : List V → Hp → Prop), Inv (scxA cn P w K mg base N x qual st f cc cda A outer s0 H0 E0) pins σ H1 s1 → la g W R σ H1 Qa →
      wpAny (model P w) (scxA cn P w K mg base N x qual st f cc cda A outer s0 H0 E0).A (evalArgs (.ref q) true (backTo p3 (starEach es (scxA cn P w K mg base N x qual st f cc cda A outer s0 H0 E0).env)) []) (fun z s' => z.kw = [] ∧ AP (scxA cn P w K mg base N x qual st f cc cda A outer s0 H0 E0) pins σ Qa z.pos s') (scxA cn P w K mg base N x qual st f cc cda A outer s0 H0 E0).xe s1)
    (hpl : (backTo p3 (starEach es (scxA cn P w K mg base N x qual st f cc cda A outer s0 H0 E0).env)).any (·.1) = false)
    (ht : eval (.Call (.Attribute (.Call (.Name "super" p0) [] [] p1) m p2) es [] p3) (scxA cn P w K mg base N x qual st f cc cda A outer s0 H0 E0).env = (do
      let ov ← attributeBase (.Call (.Name "super" p0) [] [] p1) m (scxA cn P w K mg base N x qual st f cc cda A outer s0 H0 E0).env (eval (.Call (.Name "super" p0) [] [] p1) (scxA cn P w K mg base N x qual st f cc cda A outer s0 H0 E0).env)
      standAt p2.atName
      let (ff, first) ← holding [ov] (getMethod ov m pl)
      callWith p3 ff first (backTo p3 (starEach es (scxA cn P w K mg base N x qual st f cc cda A outer s0 H0 E0).env)) []))
    (I : Inv (scxA cn P w K mg base N x qual st f cc cda A outer s0 H0 E0) pins σ H s) (h : le g W (dMeth tab (dVar 0) R) σ H Q) :
    _root_.PySem.wpAt (model P w) (scxA cn P w K mg base N x qual st f cc cda A outer s0 H0 E0).A (.func body (scxA cn P w K mg base N x qual st f cc cda A outer s0 H0 E0).env) (eval (.Call (.Attribute (.Call (.Name "super" p0) [] [] p1) m p2) es [] p3) (scxA cn P w K mg base N x qual st f cc cda A outer s0 H0 E0).env)
      (EP (scxA cn P w K mg base N x qual st f cc cda A outer s0 H0 E0) pins σ Q) (scxA cn P w K mg base N x qual st f cc cda A outer s0 H0 E0).xe s := by
  subst hK
  obtain ⟨Δ, O, PP, EE, Fr, hT, sr, wd, hv, hx⟩ := h
  unfold dMeth dVar at hT
  split at hT
  · rename_i d e
    obtain ⟨v, e1, rv⟩ := sr.2 0 d e
    split at hT
    · rename_i c ec
      obtain ⟨a, dx, fs, rfl, ea, l⟩ := obj_look ec rv wd hmf
      split at hT
      · rename_i S eS
        obtain ⟨f2, SA, Fn⟩ := M c S eS
        obtain ⟨mA, OA, _, _, _, _⟩ := ins_get I.hok ea
        obtain ⟨od, J, _⟩ := OA.look
        refine PySem.ks_wpAt_MethodCall (pl := pl) (super_nodeA F PG T hm hat I e1 J SA.mr fun so s1 I1 hso k1 => ?_) ht
        obtain ⟨mA1, OA1, _, _, _, _⟩ := ins_get I1.hok ea
        obtain ⟨od1, J1, _⟩ := OA1.look
        refine getsup SA I1 hso J1 hat fun q s2 hq I2 => ?_
        refine callwith_met (X := scxA cn P w g.K mg base N x qual st f cc cda A outer s0 H0 E0) (g := f2) (a := a) (by rw [hpl]; rfl) SA.fn ?_
        have z := hargs q pins s2 σ (upd H q (.met f2 a)) (fun vs H2 => H2 q = some (.met f2 a) ∧ toSp g S (.ref a :: vs) H2 Q fun cls dd H' => W cls dd σ H') I2
          (la_bind (F := upd Fr q (.met f2 a)) hT (sr.mono (wd.fsame hq)) (wd.frozen hq) (hx.mono (wd.fsame hq)) fun ds O2 vs F2 H2 hT2 s2 sr2 w2 rs hx2 =>
            ⟨w2.same _ _ (s2 _ _ upd_same), sp_of hT2 (Reps.cons (rv.mono ((wd.fsame hq).trans s2)) rs) w2 hv ((wd.fsame hq).trans s2) hx2⟩)
        refine thn z fun zz s3 hz => ?_
        obtain ⟨hkw, vs, H2, I3, r, hq2, q2⟩ := hz
        refine ⟨met_P I3 hq2, ?_⟩
        rw [hkw]
        exact wpAny_call (call_met I3 hq2 (run_FNA (us := .ref a :: zz.pos) (vs := .ref a :: vs) Fn hr tk I3 (.cons rfl r) q2))
      · exact hT.elim
    · exact hT.elim
  · exact hT.elim
theorem q_supA {ar m : Str} {e : Expr} {es : List Expr} {R : DA} {p0 p1 p2 p3 : Pos} {pl : Sem Bool} {tab : List (Cl × DSp)} {W : WX} (F : FunS K x qual st f fd cc cda D file) (PG : Pg P file) (T : SupTx N st ar) (hm : mg "super" = none) (M : STabA cn g P w g.K mg base k D m tab)
    (hr : Room k (scxA cn P w K mg base N x qual st f cc cda A outer s0 H0 E0).A) (tk : AX.Takes cn (scxA cn P w K mg base N x qual st f cc cda A outer s0 H0 E0) W) (ha : PA (scxA cn P w K mg base N x qual st f cc cda A outer s0 H0 E0) (e :: es) (la g W R)) (hK : K = g.K := by rfl) (hmf : Fd.of m = none := by decide +kernel) (hat : (m == ("__class__" : Str)) = false := by decide)
    (he : starEach (e :: es) (scxA cn P w K mg base N x qual st f cc cda A outer s0 H0 E0).env = (false, eval e (scxA cn P w K mg base N x qual st f cc cda A outer s0 H0 E0).env) :: starEach es (scxA cn P w K mg base N x qual st f cc cda A outer s0 H0 E0).env := by rfl)
    (hpl : (backTo p3 (starEach es (scxA cn P w K mg base N x qual st f cc cda A outer s0 H0 E0).env)).any (·.1) = false := by rfl)
    (ht : eval (.Call (.Attribute (.Call (.Name "super" p0) [] [] p1) m p2) (e :: es) [] p3) (scxA cn P w K mg base N x qual st f cc cda A outer s0 H0 E0).env = (do
      let ov ← attributeBase (.Call (.Name "super" p0) [] [] p1) m (scxA cn P w K mg base N x qual st f cc cda A outer s0 H0 E0).env (eval (.Call (.Name "super" p0) [] [] p1) (scxA cn P w K mg base N x qual st f cc cda A outer s0 H0 E0).env)
      standAt p2.atName
      let (ff, first) ← holding [ov] (getMethod ov m pl)
      callWith p3 ff first (backTo p3 (starEach (e :: es) (scxA cn P w K mg base N x qual st f cc cda A outer s0 H0 E0).env)) []) := by rfl) :
    PEA (scxA cn P w K mg base N x qual st f cc cda A outer s0 H0 E0) (.Call (.Attribute (.Call (.Name "super" p0) [] [] p1) m p2) (e :: es) [] p3) (le g W (dMeth tab (dVar 0) R)) :=
  ⟨fun body pins s σ H Q I h => supcallA (P := P) (w := w) F PG T hm M hK hr tk hmf hat (fun q pins s1 σ H1 Qa I1 hq => by
    have z := ha.run p3 pins s1 σ H1 _ I1 hq
    rw [he] at z ⊢
    exact PySem.Calls.evalArgs_plain (thn z fun us s' hz => ⟨rfl, hz⟩)) (by rw [he]; show (false || (backTo p3 (starEach es _)).any (·.1)) = false; rw [hpl]; rfl) ht I h⟩
end
/-- the body of a def that says super() -/
def BodyOkSA (cn : Nat) (g : Gm) (P : Program) (w : World) (K : PySem.W.Frag) (mg : Str → Option Value) (base : Heap) (k : Nat) (N : List Str) (x qual : Str) (st : Stmt) (f cc cda : Addr) (T : DS) : Prop :=
  ∀ (A : Around) (outer : List Env) (s : Shared) (H : Hp) (E : XK), Room k (A.deeper (NdefX.envF (sNF x qual st cc cda) f s.heap.objs.size)) →
      PF (scxA cn P w K mg base N x qual st f cc cda A outer s H E) (defBody st) (ls g (wE E) T)
section
variable {g : Gm} {P : Program} {w : World} {K : PySem.W.Frag} {mg : Str → Option Value} {base : Heap} {N ps : List Str} {x qual : Str} {st : Stmt} {f cc cda D : Addr} {fd : FuncData} {file : Str} {k : Nat} {S : DSp} {T : DS}
theorem fn_okSA (F : FunS K x qual st f fd cc cda D file) (Sc : NdefX.NScope N ps ["__class__"] (defScope st)) (body : BodyOkSA cn g P w K mg base k N x qual st f cc cda T) (pure : Pure N ps.length S T) (hN : ps.length + 1 ≤ N.length) : FnOk P w K mg base (AX.CX cn P w) (k + 1) f fd ps (toSp g S) :=
  fn_superA F Sc (fun vs H Q E h => by
    obtain ⟨F, O, ds, P', EX, h1, h2, h3, _⟩ := h
    rw [← h1.length]
    exact (pure _ _ _ _ h3).1) fun A outer s H vs Q E hr h => ⟨_, body A outer s H E hr, pureS pure hN h⟩
end
end G

/-! from G34 -/
namespace G
open AX (warm)
variable {cn : Nat}
open PySem L2
def FNKA (cn : Nat) (g : Gm) (P : Program) (w : World) (K : PySem.W.Frag) (mg : Str → Option Value) (base : Heap) (k : Nat) (f : Addr) (n : Nat) (ks : List Str) (idx : List Nat) (S : DSp) : Prop :=
  ∀ (A : Around) (outer : List Env) (s : Shared) (H : Hp) (us ws : List Value) (vs zs : List V) (Q : VK) (E : XK), Room k A → Env0 P w K mg base A outer s H → Vals vs us → Vals zs ws → vs.length = n → zs.length = ks.length → toSp g S (vs ++ pick idx zs) H Q E →
    codeAny (model P w) A (.call (.ref f) ⟨us, ks.zip ws⟩) (CR (AX.CX cn P w) outer P w H s Q E) s
theorem FNKA.mono {g : Gm} {P : Program} {w : World} {K : PySem.W.Frag} {mg : Str → Option Value} {base : Heap} {j k : Nat} {f : Addr} {n : Nat} {ks : List Str} {idx : List Nat} {S : DSp} (h : FNKA cn g P w K mg base j f n ks idx S) (hj : j ≤ k) : FNKA cn g P w K mg base k f n ks idx S :=
  fun A outer s H us ws vs zs Q E hr => h A outer s H us ws vs zs Q E (hr.mono hj)
theorem fn_FNKA {g : Gm} {P : Program} {w : World} {K : PySem.W.Frag} {mg : Str → Option Value} {base : Heap} {k : Nat} {f : Addr} {fd : FuncData} {ps : List Str} {n : Nat} {ks : List Str} {idx : List Nat} {S : DSp} (F : FnOk P w K mg base (AX.CX cn P w) k f fd ps (toSp g S))
    (hb : ∀ us ws : List Value, us.length = n → ws.length = ks.length → bindArgs fd ⟨us, ks.zip ws⟩ = Pure.pure (ps.zip (us ++ pick idx ws))) : FNKA cn g P w K mg base k f n ks idx S :=
  fun A outer s H us ws vs zs Q E hr e0 r1 r2 l1 l2 h => F.run A outer s H ⟨us, ks.zip ws⟩ (us ++ pick idx ws) (vs ++ pick idx zs) Q E hr e0 (.of_eq (hb us ws (by rw [← r1.length]; exact l1) (by rw [← r2.length]; exact l2))) (r1.append (vals_pick r2 idx)) h
section
variable {g : Gm} {X : Cx} {W : WX} {pos pos' p apos kpos : Pos} {a b c o e : Expr} {es : List Expr} {Ta Tb : DE} {R Rk : DA} {k j n : Nat} {f : Addr} {S : DSp} {x m : Str} {kws : List Keyword} {ks : List Str} {idx : List Nat} {nm : Option Str}
theorem run_FNKA {pins : List (Addr × Obj)} {σ : St} {H : Hp} {s : Shared} {Q : VK} {us ws : List Value} {vs zs : List V} (Fn : FNKA cn g X.prog X.w X.K X.mg X.base k f n ks idx S) (hr : Room k X.A) (tk : AX.Takes cn X W) (I : Inv X pins σ H s) (r : Vals vs us) (rz : Vals zs ws) (l1 : vs.length = n) (l2 : zs.length = ks.length)
    (h : toSp g S (vs ++ pick idx zs) H Q (fun cls dd H' => W cls dd σ H')) : codeAny (model X.prog X.w) X.A (.call (.ref f) ⟨us, ks.zip ws⟩) (fun r s' => match r with | .ok (.ret v) => EP X pins σ Q v s' | .ok _ => False | .error e => X.xe e s') s := by
  refine codeAny_mono (Fn X.A X.stack s H us ws vs zs Q _ hr I.env0 r rz l1 l2 h) fun r s' hq => ?_
  cases r with
  | error e => exact AX.passAt tk σ pins H s e s' I hq
  | ok fl =>
    cases fl with
    | ret u => exact I.after hq
    | next => exact False.elim hq
    | brk => exact False.elim hq
    | cont => exact False.elim hq
/-- the class C's own def m: C.m(..) -/
def UAtA (cn : Nat) (g : Gm) (P : Program) (w : World) (K : PySem.W.Frag) (mg : Str → Option Value) (base : Heap) (k : Nat) (c : Cl) (m : Str) (S : DSp) : Prop := ∃ mc f, ClX.CRead K (g.ca c) mc ∧ PySem.W.findCls K (.ref (g.ca c)) mc m = some (.val (.ref f)) ∧ PySem.W.keepIn K (.ref f) = true ∧ FNA cn g P w K mg base k f S
def UAtKA (cn : Nat) (g : Gm) (P : Program) (w : World) (K : PySem.W.Frag) (mg : Str → Option Value) (base : Heap) (k : Nat) (c : Cl) (m : Str) (n : Nat) (ks : List Str) (idx : List Nat) (S : DSp) : Prop := ∃ mc f, ClX.CRead K (g.ca c) mc ∧ PySem.W.findCls K (.ref (g.ca c)) mc m = some (.val (.ref f)) ∧ PySem.W.keepIn K (.ref f) = true ∧ FNKA cn g P w K mg base k f n ks idx S
theorem q_ucallA {pl : Sem Bool} {cl : Cl} (M : UAtA cn g X.prog X.w X.K X.mg X.base k cl m S) (hm : X.mg x = some (.ref (g.ca cl))) (hr : Room j X.A) (tk : AX.Takes cn X W) (ha : PA X (a :: es) (la g W R)) (hkj : k ≤ j := by first | decide | omega) (hg : Gl X x := by rfl) (hd : (x == ("__debug__" : Str)) = false := by decide)
    (hst : starEach (a :: es) X.env = (false, eval a X.env) :: starEach es X.env := by rfl) (hpl : (backTo pos (starEach es X.env)).any (·.1) = false := by rfl)
    (ht : eval (.Call (.Attribute (.Name x p) m apos) (a :: es) [] pos) X.env = (do
      let ov ← eval (.Name x p) X.env
      standAt apos.atName
      let (f, first) ← holding [ov] (getMethod ov m pl)
      callWith pos f first (backTo pos (starEach (a :: es) X.env)) (backToKw pos (keywordEach [] X.env))) := by rfl) :
    PE X (.Call (.Attribute (.Name x p) m apos) (a :: es) [] pos) (le g W (dCall S R)) := by
  refine ⟨fun pins s σ H Q I h => ?_⟩
  obtain ⟨Δ, O, P, E, F, hT, sr, w, hv, hx⟩ := h
  obtain ⟨mc, f, rd, fc, kp, Fn⟩ := M
  refine PySem.W.methodCall_KW (pl := pl) (thn ((pe_glob (v := .ref (g.ca cl)) hg hm rfl hd).run pins s σ H (fun v H1 => v = .ref (g.ca cl) ∧ H1 = H) I ⟨rfl, rfl⟩) fun u s1 ⟨v, H1, I1, rv, ev, eH⟩ => ?_) ht
  subst ev
  subst eH
  obtain rfl : u = Value.ref (g.ca cl) := rv
  refine PySem.W.method_cls I1.kIn rd.ga (PySem.W.cls_value I1.kIn rd.rd fc rfl ?_)
  have I2 := I1.tok (s1.toks + 1)
  refine PySem.W.callWith_K (h₀ := X.base) I.ok.mod.kin kp (thn (ha.run pos pins _ σ H1 _ I2 (la_bind (Q := fun vs H1 => toSp g S vs H1 Q fun cls dd H' => W cls dd σ H') hT sr w hx fun ds O1 vs F1 H1 hT1 s1 sr1 w1 rs hx1 => sp_of hT1 rs w1 hv s1 hx1)) fun us s1 ⟨vs, H1, I1, r, q⟩ => ⟨I1.kIn, ?_⟩) hst hpl
  exact wpAny_call (run_FNA Fn (hr.mono hkj) tk I1 r q)
theorem q_ucallKA {pl : Sem Bool} {cl : Cl} {nk : Nat} (M : UAtKA cn g X.prog X.w X.K X.mg X.base k cl m n ks idx S) (hm : X.mg x = some (.ref (g.ca cl))) (hr : Room j X.A) (tk : AX.Takes cn X W) (ha : PA X (a :: es) (la g W R)) (hkw : PK X kws (la g W Rk)) (hkj : k ≤ j := by first | decide | omega) (hg : Gl X x := by rfl) (hd : (x == ("__debug__" : Str)) = false := by decide)
    (hall : (backToKw pos (keywordEach kws X.env)).all (·.1.isSome) = true := by rfl) (hks : (backToKw pos (keywordEach kws X.env)).filterMap (·.1) = ks := by rfl)
    (hst : starEach (a :: es) X.env = (false, eval a X.env) :: starEach es X.env := by rfl) (hpl : ((backTo pos (starEach (a :: es) X.env)).any (·.1) || (backToKw pos (keywordEach kws X.env)).any (·.1.isNone)) = false := by rfl)
    (ht : eval (.Call (.Attribute (.Name x p) m apos) (a :: es) kws pos) X.env = (do
      let ov ← eval (.Name x p) X.env
      standAt apos.atName
      let (f, first) ← holding [ov] (getMethod ov m pl)
      callWith pos f first (backTo pos (starEach (a :: es) X.env)) (backToKw pos (keywordEach kws X.env))) := by rfl) (hnk : ks.length = nk := by rfl) :
    PE X (.Call (.Attribute (.Name x p) m apos) (a :: es) kws pos) (le g W (dCallK n nk idx S R Rk)) := by
  subst hnk
  refine ⟨fun pins s σ H Q I h => ?_⟩
  obtain ⟨Δ, O, P, E, F, hT, sr, w, hv, hx⟩ := h
  obtain ⟨mc, f, rd, fc, kp, Fn⟩ := M
  refine PySem.W.methodCall_KW (pl := pl) (thn ((pe_glob (v := .ref (g.ca cl)) hg hm rfl hd).run pins s σ H (fun v H1 => v = .ref (g.ca cl) ∧ H1 = H) I ⟨rfl, rfl⟩) fun u s1 ⟨v, H1, I1, rv, ev, eH⟩ => ?_) ht
  subst ev
  subst eH
  obtain rfl : u = Value.ref (g.ca cl) := rv
  refine PySem.W.method_cls I1.kIn rd.ga (PySem.W.cls_value I1.kIn rd.rd fc rfl ?_)
  have I2 := I1.tok (s1.toks + 1)
  refine PySem.W.callWith_KW (h₀ := X.base) I.ok.mod.kin kp hall (thn (ha.run pos pins _ σ H1 _ I2 (la_bind (Q := fun vs H1 => la g W Rk σ H1 fun zs H2 => vs.length = n ∧ zs.length = ks.length ∧ toSp g S (vs ++ pick idx zs) H2 Q fun cls dd H' => W cls dd σ H') hT sr w hx
    fun ds O1 vs F1 H1 hT1 s1 sr1 w1 rs hx1 => la_bind hT1 sr1 w1 hx1 fun es O2 zs F2 H2 hT2 s2 sr2 w2 rz hx2 => ?_)) fun us s1 ⟨vs, H1, I1, r, q⟩ => ?_) hpl hst
  · obtain ⟨l1, l2, hS⟩ := hT2
    exact ⟨by rw [← rs.length]; exact l1, by rw [← rz.length]; exact l2, sp_of hS ((rs.mono s2).append (rz.pick idx)) w2 hv (s1.trans s2) hx2⟩
  · refine thn (hkw.run pos pins s1 σ H1 _ I1 q) fun ws s2 ⟨zs, H2, I2, rz, l1, l2, q2⟩ => ⟨I2.kIn, ?_⟩
    rw [hks]
    exact wpAny_call (run_FNKA Fn (hr.mono hkj) tk I2 r rz l1 l2 q2)
def GCKA (cn : Nat) (g : Gm) (P : Program) (w : World) (K : PySem.W.Frag) (mg : Str → Option Value) (base : Heap) (k : Nat) (cl : Cl) (name : Str) (n : Nat) (ks : List Str) (idx : List Nat) (S : DSp) : Prop := mg name = some (.ref (g.ca cl)) ∧ ∃ f, Mk K (g.ca cl) f ∧ FNKA cn g P w K mg base k f (n + 1) ks idx S
theorem run_mkKA {C : Addr} {pins : List (Addr × Obj)} {σ : St} {H : Hp} {s : Shared} {Q : VK} {us ws : List Value} {vs zs : List V} (M : Mk X.K C f) (Fn : FNKA cn g X.prog X.w X.K X.mg X.base k f (n + 1) ks idx S) (hr : Room (k + 1) X.A) (tk : AX.Takes cn X W) (I : Inv X pins σ H s) (r : Vals vs us) (rz : Vals zs ws) (l1 : vs.length = n) (l2 : zs.length = ks.length)
    (h : ∀ x dx, H x = Option.none → H dx = Option.none → dx ≠ x → toSp g S (V.ref x :: (vs ++ pick idx zs)) (upd (upd H dx (.own x)) x (.ins C dx [])) (fun v H2 => v = .non ∧ Q (.ref x) H2) (fun cls dd H' => W cls dd σ H')) :
    wpAny (model X.prog X.w) X.A (call (.ref C) us (ks.zip ws)) (EP X pins σ Q) X.xe s := by
  have hq := h (s.heap.objs.size + 1) s.heap.objs.size (I.hok.fresh (Nat.le_succ _)) (I.hok.fresh (Nat.le_refl _)) (Nat.ne_of_lt (Nat.lt_succ_self _))
  have I2 := Inv.made (C := C) I
  have r2 : Vals (V.ref (s.heap.objs.size + 1) :: vs) (Value.ref (s.heap.objs.size + 1) :: us) := .cons rfl r
  refine wpAny_call (make_map (f := f) I.kIn M.makes M.init (beq_iff_eq.mp M.fn) (codeAny_mono (Fn _ X.stack _ _ (Value.ref (s.heap.objs.size + 1) :: us) ws _ zs _ _ (hr.make C us (ks.zip ws)) (I2.env0.make C us (ks.zip ws)) r2 rz (by rw [List.length_cons, l1]) l2 hq) fun r s' hq' => ?_))
  cases r with
  | error e => exact AX.passAt tk σ pins _ _ e s' I2 hq'
  | ok fl =>
    cases fl with
    | ret u =>
      obtain ⟨v, H', I3, rv, ev, q3⟩ := I2.after hq'
      subst ev
      exact ⟨rv, ⟨V.ref (s.heap.objs.size + 1), H', I3, rfl, q3⟩⟩
    | next => exact False.elim hq'
    | brk => exact False.elim hq'
    | cont => exact False.elim hq'
theorem q_makeKwA {cl : Cl} {nk : Nat} (M : GCKA cn g X.prog X.w X.K X.mg X.base k cl x n ks idx S) (hr : Room j X.A) (tk : AX.Takes cn X W) (ha : PA X (a :: es) (la g W R)) (hkw : PK X kws (la g W Rk)) (hkj : k + 1 ≤ j := by first | decide | omega) (hg : Gl X x := by rfl)
    (hall : (backToKw pos (keywordEach kws X.env)).all (·.1.isSome) = true := by rfl) (hks : (backToKw pos (keywordEach kws X.env)).filterMap (·.1) = ks := by rfl) (hdb : (x == ("__debug__" : Str)) = false := by decide)
    (he : starEach (a :: es) X.env = (false, eval a X.env) :: starEach es X.env := by rfl) (hpl : ((backTo pos (starEach (a :: es) X.env)).any (·.1) || (backToKw pos (keywordEach kws X.env)).any (·.1.isNone)) = false := by rfl) (hnk : ks.length = nk := by rfl) :
    PE X (.Call (.Name x p) (a :: es) kws pos) (le g W (dMakeKw cl n nk idx S R Rk)) := by
  subst hnk
  refine ⟨fun pins s σ H Q I h => ?_⟩
  obtain ⟨Δ, O, P, E, F, hT, sr, w, hv, hx⟩ := h
  obtain ⟨hm, f, Mk, Fn⟩ := M
  refine wpAny_Call_Name_kw (ld_glob I hg hm ?_ hdb)
  refine PySem.W.callWith_KW (h₀ := X.base) I.ok.mod.kin Mk.kp hall (thn (ha.run pos pins s σ H _ I (la_bind (Q := fun vs H1 => la g W Rk σ H1 fun zs H2 => vs.length = n ∧ zs.length = ks.length ∧ ∀ x dx, H2 x = none → H2 dx = none → dx ≠ x → toSp g S (V.ref x :: (vs ++ pick idx zs)) (upd (upd H2 dx (.own x)) x (.ins (g.ca cl) dx [])) (fun v H2 => v = .non ∧ Q (.ref x) H2) fun cls dd H' => W cls dd σ H') hT sr w hx
    fun ds O1 vs F1 H1 hT1 s1 sr1 w1 rs hx1 => la_bind hT1 sr1 w1 hx1 fun es O2 zs F2 H2 hT2 s2 sr2 w2 rz hx2 => ?_)) fun us s1 ⟨vs, H1, I1, r, q⟩ => ?_) hpl he
  · obtain ⟨l1, l2, hS⟩ := hT2
    exact ⟨by rw [← rs.length]; exact l1, by rw [← rz.length]; exact l2, fun x dx nx nd ne => mk_sp hS ((rs.mono s2).append (rz.pick idx)) w2 hv (s1.trans s2) hx2 x dx nx nd ne⟩
  · refine thn (hkw.run pos pins s1 σ H1 _ I1 q) fun ws s2 ⟨zs, H2, I2, rz, l1, l2, q2⟩ => ⟨I2.kIn, ?_⟩
    rw [hks]
    exact run_mkKA Mk Fn (hr.mono hkj) tk I2 r rz l1 l2 q2
end
section
variable {g : Gm} {P : Program} {w : World} {K : PySem.W.Frag} {mg : Str → Option Value} {base : Heap} {N ps : List Str} {x qual : Str} {st : Stmt} {f cc cda D : Addr} {fd : FuncData} {file : Str} {k n : Nat} {S : DSp} {T : DS} {ks : List Str} {idx : List Nat}
/-- a def called with keywords -/
theorem fnFKA (Fn : Fun K x qual st f fd) (Sc : FnScope N ps (defScope st)) (body : BodyOkA cn g P w K mg base k N qual st T) (pure : Pure N ps.length S T)
    (hb : ∀ (kV doc pm : Value) (an : Option Addr) (cdv ct : Value) (us ws : List Value), us.length = n → ws.length = ks.length → bindArgs (PySem.W.fnOf x qual (defArgs st) (defBody st) (defScope st) .none kV doc pm an cdv ct) ⟨us, ks.zip ws⟩ = Pure.pure (ps.zip (us ++ pick idx ws))) : FNKA cn g P w K mg base (k + 1) f n ks idx S := by
  obtain ⟨oc, od, kV, doc, pm, an, cdv, ct, osl, rfl, lk, hcd⟩ := Fn.ex
  exact fn_FNKA (fn_okFA Fn Sc (fun ds O P E h => (pure ds O P E h).1) (body f) fun ds O P E h => (pure ds O P E h).2) (hb kV doc pm an cdv ct)
theorem fnSKA (F : FunS K x qual st f fd cc cda D file) (Sc : NdefX.NScope N ps ["__class__"] (defScope st)) (body : BodyOkSA cn g P w K mg base k N x qual st f cc cda T) (pure : Pure N ps.length S T) (hN : ps.length + 1 ≤ N.length)
    (hb : ∀ (kV doc pm : Value) (an : Option Addr) (ct : Value) (us ws : List Value), us.length = n → ws.length = ks.length → bindArgs (PySem.W.ksFn x qual (defArgs st) (defBody st) (defScope st) .none kV doc pm an (.ref cda) ct cc) ⟨us, ks.zip ws⟩ = Pure.pure (ps.zip (us ++ pick idx ws))) : FNKA cn g P w K mg base (k + 1) f n ks idx S := by
  obtain ⟨oc, od, kV, doc, pm, an, ct, osl, rfl, lk⟩ := F.ex
  exact fn_FNKA (fn_okSA F Sc body pure hN) (hb kV doc pm an ct)
end
end G

namespace G
open PySem L2
section
variable {g : Gm} {P : Program} {w : World} {K : PySem.W.Frag} {mg : Str → Option Value} {base : Heap} {cn : Nat}
theorem cr_old {outer : List Env} {s s' : Shared} {H : Hp} {Q : VK} {E : XK} {r : Result} (h : CR (AX.CX cn P w) outer P w H s Q E r s') : CR (L2.CX P w) outer P w H s Q E r s' := by
  cases r with
  | ok f => cases f <;> exact h
  | error e => exact AX.CX.old h
theorem FNA.old {k : Nat} {f : Addr} {S : DSp} (h : FNA cn g P w K mg base k f S) : FN g P w K mg base k f S :=
  fun A outer s H us vs Q E hr e0 r q => codeAny_mono (h A outer s H us vs Q E hr e0 r q) fun _ _ z => cr_old z
theorem FNKA.old {k : Nat} {f : Addr} {n : Nat} {ks : List Str} {idx : List Nat} {S : DSp} (h : FNKA cn g P w K mg base k f n ks idx S) : FNK g P w K mg base k f n ks idx S :=
  fun A outer s H us ws vs zs Q E hr e0 r1 r2 l1 l2 q => codeAny_mono (h A outer s H us ws vs zs Q E hr e0 r1 r2 l1 l2 q) fun _ _ z => cr_old z
theorem GDA.old {k : Nat} {name : Str} {S : DSp} (h : GDA cn g P w K mg base k name S) : GD g P w K mg base k name S := by
  obtain ⟨f, h1, h2, h3⟩ := h
  exact ⟨f, h1, h2, h3.old⟩
theorem GCA.old {k : Nat} {cl : Cl} {name : Str} {S : DSp} (h : GCA cn g P w K mg base k cl name S) : GC g P w K mg base k cl name S := by
  obtain ⟨h1, f, h2, h3⟩ := h
  exact ⟨h1, f, h2, h3.old⟩
theorem GCKA.old {k : Nat} {cl : Cl} {name : Str} {n : Nat} {ks : List Str} {idx : List Nat} {S : DSp} (h : GCKA cn g P w K mg base k cl name n ks idx S) : GCK g P w K mg base k cl name n ks idx S := by
  obtain ⟨h1, f, h2, h3⟩ := h
  exact ⟨h1, f, h2, h3.old⟩
theorem UAtA.old {k : Nat} {c : Cl} {m : Str} {S : DSp} (h : UAtA cn g P w K mg base k c m S) : UAt g P w K mg base k c m S := by
  obtain ⟨mc, f, h1, h2, h3, h4⟩ := h
  exact ⟨mc, f, h1, h2, h3, h4.old⟩
theorem UAtKA.old {k : Nat} {c : Cl} {m : Str} {n : Nat} {ks : List Str} {idx : List Nat} {S : DSp} (h : UAtKA cn g P w K mg base k c m n ks idx S) : UAtK g P w K mg base k c m n ks idx S := by
  obtain ⟨mc, f, h1, h2, h3, h4⟩ := h
  exact ⟨mc, f, h1, h2, h3, h4.old⟩
theorem STabA.old {k : Nat} {D : Addr} {m : Str} {tab : List (Cl × DSp)} (h : STabA cn g P w K mg base k D m tab) : STab g P w K mg base k D m tab := fun c S e => by
  obtain ⟨f, h1, h2⟩ := h c S e
  exact ⟨f, h1, h2.old⟩
/-- the error class of that name can be made where another error is handled -/
def GXW (g : Gm) (P : Program) (w : World) (K : PySem.W.Frag) (mg : Str → Option Value) (base : Heap) (ec : Ec) (name : Str) (fs : List Fd) : Prop :=
  mg name = some (.ref (g.ea ec)) ∧ OexC K (g.ea ec) ∧ ∃ f fd ps, PySem.W.findIn K (.ref (g.ea ec)) "__init__" = some (some (.ref f)) ∧ PySem.W.typeIn K (.ref f) = some (.type "function") ∧ AX.FnW P w K mg base (L2.CX P w) 1 f fd ps (spX (g.ea ec) (fs.map Fd.str)) ∧ Binds K fd ps []
/-- try: body, except C as n: raise D(..) from n -/
def dTryF (i : Nat) (cat : Ec → Option Bool) (Tb : DS) (ecN : Ec) (fs : List Fd) (R : DA) : DS := fun D Δ O => Tb { D with xc := fun x Δ1 O1 => match cat x.c with
  | some true => ∀ a d, freshC O1 a → dRaise ecN fs R { nx := fun _ _ => False, rt := fun _ _ => False, bk := fun _ _ => False, ct := fun _ _ => False, xc := fun y Δ2 O2 => D.xc y (Δ2.set i none) O2 } (Δ1.set i (some (.xcp a d x.fs x.ds))) O1
  | some false => D.xc x Δ1 O1
  | none => False } Δ O
end
section
variable {g : Gm} {X : Cx} {W : WX} {cn : Nat} {pos cpos pos' p p2 rp np : Pos} {e : Expr} {es : List Expr} {R : DA} {Tb : DS} {j : Nat} {x y n : Str}
theorem qs_tryF (i : Nat) {c : Value} {cat : Ec → Option Bool} {body : List Stmt} {ecN : Ec} {fs : List Fd} (m1 : cn ≤ 1) (hN : X.N.Nodup) (hc : Names X x c) (tk : AX.Takes (cn + 1) X W) (ct : Cat g X.K c cat) (hbe : ∀ ec, cat ec = some true → PySem.W.subIn X.K (.ref (g.ea ec)) (.type "BaseException") = some true)
    (hpa : ∀ hd : Option Value, PassesOwnAt (model X.prog X.w) (X.A.mark hd) X.A X.env X.xe)
    (hb : ∀ (W' : WX) (pn : List (Addr × Obj)) (xe : Value → Shared → Prop), AX.Takes cn (X.tr pn xe) W' → PassesOwn (model X.prog X.w) X.A X.env xe → PSs (X.tr pn xe) body (ls g W' Tb))
    (gx : GXW g X.prog X.w X.K X.mg X.base ecN y fs) (hr : Room j X.A) (ha : ∀ (a : Addr) (pn : List (Addr × Obj)) (xe : Value → Shared → Prop) (W' : WX), PA (AX.warm X a pn xe) (e :: es) (la g W' R))
    (hj : 2 ≤ j := by first | decide | omega) (nd : fs.Nodup := by decide) (hg : Gl X y := by rfl) (hdb : (y == ("__debug__" : Str)) = false := by decide) (hdn : (n == ("__debug__" : Str)) = false := by decide)
    (he : starEach (e :: es) X.env = (false, eval e X.env) :: starEach es X.env := by rfl) (hpl : (backTo cpos (starEach es X.env)).any (·.1) = false := by rfl)
    (hi : X.N[i]? = some n := by rfl) (hln : X.env.kindOf n = some .local := by rfl) (hs : X.stack = X.env :: X.outer := by rfl) (hf : X.env.frame = some X.env.locals := by rfl) (hex : X.ex = [] := by rfl) :
    PS X (.Try body [.ExceptHandler (some (.Name x np)) (some n) [.Raise (some (.Call (.Name y p) (e :: es) [] cpos)) (some (.Name n p2)) rp] pos'] [] [] pos) (ls g W (dTryF i cat Tb ecN fs R)) := by
  obtain ⟨hm, T, f, fd, ps, iC, tI, F1, hbn⟩ := gx
  refine ps_imp (AX.ps_try_rf (tb := fun W' => ls g W' Tb) (ts := fun W' a cl d E σ H => ls g W' (dRaise ecN fs R) E σ H) m1 hs hf hex hN hi hln hc tk hpa hb ?_) fun En σ H ⟨D, Δ, O, F, hT, sr, w, ho⟩ => ?_
  · intro aH oH cl d v pn xe W' hz hot tk'
    refine pss_one (ps_imp (AX.ps_raiseW hot tk' (AX.pmk5W (k := 1) T iC tI F1 (L2H.roomH_mark (hr.mono hj) _) hot.mem hbn (fun _ _ _ _ _ _ _ z => by obtain ⟨_, _, _, _, _, _, _, _, _, _, _, _, z⟩ := z; exact z.elim) hg hm (ha aH pn xe W') hdb he hpl) hi hln hdn) fun En σ H ⟨es1, D, Δ, O, F, hT, sr, w, ho⟩ => ⟨es1, ?_⟩)
    refine la_bind hT sr w (ho.toX sr) fun ds O1 vs F1' H1 hT1 s1 sr1 w1 rs hx1 => ?_
    obtain ⟨hl, h9, hT1⟩ := hT1
    have hlv : vs.length = fs.length := by rw [← rs.length, hl]
    refine ⟨by omega, fun q hq => ⟨q, vs, by simp, by simp [hlv], upd_same, fun d hd ne => ⟨rfl, d, ((fs.map Fd.str).zip vs).reverse, upd_same, ?_, ?_, ?_⟩⟩⟩
    · rw [upd_ne ne]
      exact upd_same
    · rw [upd_ne ne] at hd
      exact hd
    · have hd1 : H1 d = none := by rw [upd_ne ne] at hd; exact hd
      have eH : upd (del (upd (upd (upd H1 q (exo q (g.ea ecN) none)) d (exd d ((fs.map Fd.str).zip vs).reverse)) q (exo q (g.ea ecN) (some d))) q) d (.xd ((fs.map Fd.str).zip vs).reverse) = upd H1 d (.xd ((fs.map Fd.str).zip vs).reverse) := by
        funext b
        by_cases h1 : b = d
        · subst h1
          rw [upd_same, upd_same]
        · rw [upd_ne h1, upd_ne h1]
          by_cases h2 : b = q
          · subst h2
            rw [del_same, hq]
          · rw [del_ne h2, upd_ne h2, upd_ne h1, upd_ne h2]
      rw [eH]
      have w2 := w1.frozen (o := .xd ((fs.map Fd.str).zip vs).reverse) hd1
      have s2 := w1.fsame (o := .xd ((fs.map Fd.str).zip vs).reverse) hd1
      exact ho.xc _ _ _ _ _ _ _ _ hT1 (s1.trans s2) (sr1.mono s2) w2 ⟨rfl, vs, ⟨fun dd e => by cases e; exact ⟨_, upd_same⟩, fun f w hw => ⟨d, _, rfl, upd_same, by rw [look_rev nd hlv.symm]; exact hw⟩⟩, rs.mono s2⟩
  · refine ⟨_, Δ, O, F, hT, sr, w, ⟨ho.nx, ho.rt, ho.bk, ho.ct, fun z Δ1 O1 cls dd F1 σ1 H1 hq s1 sr1 w1 rx => ?_⟩⟩
    have hq : (match cat z.c with
      | some true => ∀ a d, freshC O1 a → dRaise ecN fs R { nx := fun _ _ => False, rt := fun _ _ => False, bk := fun _ _ => False, ct := fun _ _ => False, xc := fun y Δ2 O2 => D.xc y (Δ2.set i none) O2 } (Δ1.set i (some (.xcp a d z.fs z.ds))) O1
      | some false => D.xc z Δ1 O1
      | none => False) := hq
    split at hq
    · rename_i e0
      have em := ct _ _ e0
      have eb := hbe _ e0
      rw [← rx.1] at em eb
      refine ⟨true, em, fun _ => ⟨eb, fun a ha => ⟨_, _, _, F1, hq a dd (w1.fresh ha), sr1.set (Rep.xcp_iff.mpr ⟨rfl, rx.2⟩) i, w1, ⟨fun _ _ _ _ _ q => q.elim, fun _ _ _ _ _ q => q.elim, fun _ _ _ _ _ q => q.elim, fun _ _ _ _ _ q => q.elim, fun y2 Δ2 O2 cls2 d2 F2 σ2 H2 hq2 s2 sr2 w2 rx2 => ?_⟩⟩⟩, fun z => by cases z⟩
      exact ho.xc _ _ _ _ _ _ _ _ hq2 (s1.trans s2) (sr2.setNone i) w2 rx2
    · rename_i e0
      have em := ct _ _ e0
      rw [← rx.1] at em
      exact ⟨false, em, fun z => (by cases z), fun _ => ho.xc _ _ _ _ _ _ _ _ hq s1 sr1 w1 rx⟩
    · exact hq.elim
theorem e_tryF {i : Nat} {cat : Ec → Option Bool} {ecN : Ec} {fs : List Fd} {En : DEnds} {Δ : Sl} {O : Sto} : dTryF i cat Tb ecN fs R En Δ O = Tb { En with xc := fun x Δ1 O1 => match cat x.c with
  | some true => ∀ a d, freshC O1 a → R (Δ1.set i (some (.xcp a d x.fs x.ds))) O1 (fun ds O2 => ds.length = fs.length ∧ ds.length ≤ 9 ∧ En.xc ⟨ecN, fs, ds⟩ (Δ1.set i none) O2) (fun y O2 => En.xc y (Δ1.set i none) O2)
  | some false => En.xc x Δ1 O1
  | none => False } Δ O := by
  have e : ∀ (Δ1 : Sl) (u : Option D), (Δ1.set i u).set i none = Δ1.set i none := fun Δ1 u => by simp
  unfold dTryF dRaise
  simp only [e]
end
end G
namespace G
open PySem L2
/-- the context of an error class's __init__ where another error is handled -/
abbrev scxW (P : Program) (w : World) (K : PySem.W.Frag) (mg : Str → Option Value) (base : Heap) (N : List Str) (x qual : Str) (st : Stmt) (f cc cda : Addr) (A : Around) (outer : List Env) (s : Shared) (H : Hp) (E : XK) (q0 : Addr × Obj) : Cx :=
  NdefX.ncxH (L2.CX P w) P w K mg base N (sNF x qual st cc cda) f A outer s H E q0
section
variable {P : Program} {w : World} {K : PySem.W.Frag} {mg : Str → Option Value} {base : Heap} {N ps : List Str} {x qual : Str} {st : Stmt} {f cc cda D C : Addr} {fd : FuncData} {file : Str} {k : Nat} {A : Around} {outer : List Env} {s0 : Shared} {H0 : Hp} {E0 : XK} {q0 : Addr × Obj}
theorem super_nodeW {ar attr : Str} {body : List Stmt} {p0 p1 : Pos} {whole : Sem Value} {pins : List (Addr × Obj)} {σ : St} {H : Hp} {s : Shared} {a C : Addr} {ox : Obj} {od : Option Obj} {Q : Value → Shared → Prop} {E : Value → Shared → Prop}
    (F : FunS K x qual st f fd cc cda D file) (PG : Pg P file) (T : SupTx N st ar) (hm : mg "super" = none) (hat : (attr == ("__class__" : Str)) = false) (I : Inv (scxW P w K mg base N x qual st f cc cda A outer s0 H0 E0 q0) pins σ H s) (es : σ[0]? = some (some (.ref a)))
    (J : PySem.W.InstAt s.heap a ox C od) (hsub : PySem.W.mroIn K C (.ref D) = some true)
    (h : ∀ so s', Inv (scxW P w K mg base N x qual st f cc cda A outer s0 H0 E0 q0) pins σ H s' → s'.heap.get? so = some (PySem.W.ks_superObj D a C) → (∀ b o, s.heap.get? b = some o → s'.heap.get? b = some o) → Q (.ref so) s') :
    _root_.PySem.wpAt (model P w) (scxW P w K mg base N x qual st f cc cda A outer s0 H0 E0 q0).A (.func body (scxW P w K mg base N x qual st f cc cda A outer s0 H0 E0 q0).env) (attributeBase (.Call (.Name "super" p0) [] [] p1) attr (scxW P w K mg base N x qual st f cc cda A outer s0 H0 E0 q0).env whole) Q E s := by
  have KI : K.In s.heap := I.kIn
  obtain ⟨oc, odd, kV, doc, pm, an, ct, osl, rfl, lk⟩ := F.ex
  obtain ⟨ccl, cdd, vs, ccs, tf, hcode, hvs⟩ := F.fl
  obtain ⟨cl, cld, csl, hcell⟩ := F.cell
  obtain ⟨cdD, hD⟩ := F.dcl
  obtain ⟨r, hr, har⟩ := T.fst
  obtain ⟨oD, hD1, hD2⟩ : ∃ oD, s.heap.get? D = some oD ∧ oD.data = .cls cdD := by
    unfold PySem.W.clsIn at hD
    split at hD
    · rename_i c d cd' sl ho
      cases hD
      exact ⟨_, KI _ _ ho, rfl⟩
    · cases hD
  refine PySem.ks_wpAt_super_base (env := (scxW P w K mg base N x qual st f cc cda A outer s0 H0 E0 q0).env) T.ks T.kc hat rfl (KI _ _ lk) rfl hr rfl (KI _ _ hcode) rfl hvs PG.file PG.sup ?_
  obtain ⟨mb, h1, h2⟩ := I.mod.blt
  refine PySem.W.ks_loadName_global T.kind T.ks (Calls.loadGlobal_builtin (I.mod.glob.keeps I.bk) hm (h1.keeps I.bk) ((h2 "super" (by decide)).trans (by decide +kernel : bootBuiltins "super" = some (.type "super"))) ⟨rfl, ?_⟩)
  refine wpAny_loadName_free T.kind T.kc rfl ⟨_, KI _ _ hcell, rfl⟩ ?_
  obtain ⟨m, hn, hl⟩ := I.loc
  obtain ⟨u, ru, l⟩ := hl 0 ar (.ref a) T.n0 es (.inl T.ka)
  obtain rfl : u = Value.ref a := ru
  have hlo : m ar = some (.ref a) := by
    rcases l with ⟨_, hm⟩ | ⟨hk, _⟩
    · exact hm
    · rcases hk with hk | hk
      · have z := T.ka.symm.trans hk; cases z
      · have z := T.ka.symm.trans hk; cases z
  rw [har]
  refine wpAny_loadName_local T.kind T.ka hn hlo ?_
  obtain ⟨hh, g, d, t, os⟩ := s
  refine PySem.ks_wpAny_isType_cls hD1 hD2 ⟨rfl, ?_⟩
  refine PySem.ks_wpAny_call_super hD1 hD2 J.at_ J.cls (fun c e => ?_) (PySem.W.looks_mroIn KI hsub) (fun h' e k => ?_)
  · have := J.no
    unfold PySem.W.notCls at this
    rw [e] at this
    exact Bool.noConfusion this
  · exact h _ _ (I.kept k) e k
theorem pf_supXW {ar : Str} {e : Expr} {es : List Expr} {ta : TA} {rest : List Stmt} {u : TS} {p0 p1 p2 p3 p4 : Pos} {pl : Sem Bool} (F : FunS K x qual st f fd cc cda C file) (PG : Pg P file) (T : SupTx N st ar) (hm : mg "super" = none) (XC : ExC K C)
    (ha : PA (scxW P w K mg base N x qual st f cc cda A outer s0 H0 E0 q0) (e :: es) ta) (hu : PF (scxW P w K mg base N x qual st f cc cda A outer s0 H0 E0 q0) rest u)
    (he : starEach (e :: es) (scxW P w K mg base N x qual st f cc cda A outer s0 H0 E0 q0).env = (false, eval e (scxW P w K mg base N x qual st f cc cda A outer s0 H0 E0 q0).env) :: starEach es (scxW P w K mg base N x qual st f cc cda A outer s0 H0 E0 q0).env := by rfl)
    (hpl : (backTo p3 (starEach es (scxW P w K mg base N x qual st f cc cda A outer s0 H0 E0 q0).env)).any (·.1) = false := by rfl)
    (ht : eval (.Call (.Attribute (.Call (.Name "super" p0) [] [] p1) "__init__" p2) (e :: es) [] p3) (scxW P w K mg base N x qual st f cc cda A outer s0 H0 E0 q0).env = (do
      let ov ← attributeBase (.Call (.Name "super" p0) [] [] p1) "__init__" (scxW P w K mg base N x qual st f cc cda A outer s0 H0 E0 q0).env (eval (.Call (.Name "super" p0) [] [] p1) (scxW P w K mg base N x qual st f cc cda A outer s0 H0 E0 q0).env)
      standAt p2.atName
      let (ff, first) ← holding [ov] (getMethod ov "__init__" pl)
      callWith p3 ff first (backTo p3 (starEach (e :: es) (scxW P w K mg base N x qual st f cc cda A outer s0 H0 E0 q0).env)) []) := by rfl)
    (hi : interactive (scxW P w K mg base N x qual st f cc cda A outer s0 H0 E0 q0).env = false := by rfl) (hs : swapsWith (.Call (.Attribute (.Call (.Name "super" p0) [] [] p1) "__init__" p2) (e :: es) [] p3) none p4.line (scxW P w K mg base N x qual st f cc cda A outer s0 H0 E0 q0).env = pure false := by rfl) :
    PF (scxW P w K mg base N x qual st f cc cda A outer s0 H0 E0 q0) (.Expr (.Call (.Attribute (.Call (.Name "super" p0) [] [] p1) "__init__" p2) (e :: es) [] p3) p4 :: rest) (tSupX C ta u) := by
  refine ⟨fun body pins s σ H Dn I ⟨a, eσ, ea, hta⟩ => ?_⟩
  obtain ⟨t1, ho⟩ := exo_at I.hok ea
  have J : PySem.W.InstAt s.heap a (HandSPX.excO C t1) C none := ⟨ho, rfl, rfl, trivial⟩
  refine PySem.ks_wpAt_execs_cons (PySem.ks_wpAt_Expr_any (PySem.ks_wpAt_MethodCall (pl := pl) (super_nodeW F PG T hm (by decide) I eσ J XC.mr fun so s1 I1 hso k1 => ?_) ht) hi hs)
  obtain ⟨nm, q, Nn, bs, bm, sn, sub, ab, col, dd, k0, k1', k2, k3, k5, hC, hbm⟩ := XC.ox.cls
  have hcl : PySem.W.clsIn K C = some { name := nm, bases := bs, mro := .ref C :: bm, ns := Nn, qualname := q, hasDict := true, slotNames := sn, subclasses := sub, abstract := ab, collection := col, hasDel := false } := by unfold PySem.W.clsIn; rw [hC] <;> rfl
  have KI : K.In s1.heap := I1.kIn
  have J1 : PySem.W.InstAt s1.heap a (HandSPX.excO C t1) C none := ⟨k1 _ _ ho, rfl, rfl, trivial⟩
  have hal := XC.su
  unfold PySem.W.ks_superIn at hal
  rw [hcl, Option.bind_some] at hal
  have hI : PySem.W.Looks (model P w) s1.heap (isInstance (.ref a) (.type "ValueError")) true := J1.type.andThen (PySem.W.looks_subIn KI XC.ve)
  obtain ⟨hh, gs, d, t, os⟩ := s1
  refine PySem.W.kxs_getMethod PySem.W.kxs_ValueError hso (PySem.W.looks_opaque KI XC.th) (l₀ := .ref C :: bm) (fun A Q E s k q => wpAny_bind ((PySem.W.looks_clsIn KI hcl) A _ E s k (wpAny_pure q))) rfl KI hal hI (PySem.W.ks_ne KI J1 hcl) (by decide) ?_
  have I2 : Inv (scxW P w K mg base N x qual st f cc cda A outer s0 H0 E0 q0) pins σ H ⟨hh.push (PySem.W.kxs_mw "ValueError.__init__" a), gs, d, t + 1, os⟩ := I1.kept fun b o e => Heap.get?_push_of_some _ e
  have I3 : Inv (scxW P w K mg base N x qual st f cc cda A outer s0 H0 E0 q0) ((hh.objs.size, PySem.W.kxs_mw "ValueError.__init__" a) :: pins) σ H ⟨hh.push (PySem.W.kxs_mw "ValueError.__init__" a), gs, d, t + 1, os⟩ := I2.pins_of fun p hp => by
    rcases List.mem_cons.mp hp with rfl | hp
    · exact ⟨Heap.get?_push_size _ rfl, I1.hok.fresh (Nat.le_refl _), Nat.ne_of_gt I1.lt, I1.nofs (Nat.le_refl _), fun v z => by cases z⟩
    · exact I2.pin p (List.mem_append_right _ hp)
  rw [he]
  refine PySem.W.kxs_callWith (i := "ValueError.__init__") (x := a) (by show (false || (backTo p3 (starEach es _)).any (·.1)) = false; rw [hpl]; rfl) ?_
  have z3 := ha.run p3 _ _ σ H _ I3 hta
  rw [he] at z3
  refine PySem.Calls.evalArgs_plain (thn z3 fun us s4 ⟨vs, H1, I4, r4, hl4, ea4, q4⟩ => ?_)
  have hpin := (I4.pin (hh.objs.size, PySem.W.kxs_mw "ValueError.__init__" a) (List.mem_append_right _ List.mem_cons_self)).1
  refine ⟨hpin, ?_⟩
  obtain ⟨t4, ho4⟩ := exo_at I4.hok ea4
  have hlen : us.length ≤ sizeLine := by
    rw [← Paired.length r4, sizeLine_eq]
    omega
  obtain ⟨hp4, g4, d4, t4', os4⟩ := s4
  show wpAny _ _ (call (.ref hh.objs.size) ([] ++ us) []) _ _ _
  refine call_wrap (I4.kIn _ _ hC) ho4 hpin hlen fun h' t5 kk hx => ?_
  have I5 := I4.write (t' := t4') (x := a) (e := a) (o := exo a C none) (by rw [ea4]; exact True.intro) (.inl rfl) kk ⟨_, hx⟩ (exo_ok hx)
  have eu : upd H1 a (exo a C none) = H1 := by
    funext b
    by_cases hb : b = a
    · rw [hb, upd_same, ea4]
    · rw [upd_ne hb]
  rw [eu] at I5
  exact hu.run body pins _ σ H1 Dn (I5.pins_of fun p hp => I5.pin p (List.mem_append_right _ (List.mem_cons_of_mem _ hp))) q4
end
end G
namespace G
open PySem L2
section
variable {P : Program} {w : World} {K : PySem.W.Frag} {mg : Str → Option Value} {base : Heap} {N ps : List Str} {x qual : Str} {st : Stmt} {f cc cda D : Addr} {fd : FuncData} {file : Str} {k : Nat} {sp : Sp}
theorem fn_superW (F : FunS K x qual st f fd cc cda D file) (S : NdefX.NScope N ps ["__class__"] (defScope st)) (len : ∀ vs H Q E, sp vs H Q E → vs.length = ps.length)
    (hbody : ∀ (A : Around) (outer : List Env) (s : Shared) (H : Hp) (vs : List V) (Q : VK) (E : XK) (q0 : Addr × Obj), sp vs H Q E →
      ∃ t, PF (scxW P w K mg base N x qual st f cc cda A outer s H E q0) (defBody st) t ∧ t { nx := fun _ H' => Q .non H', rt := Q } (NdefX.startF N vs [none]) H) :
    AX.FnW P w K mg base (L2.CX P w) (k + 1) f fd ps sp := by
  refine ⟨len, fun A outer s H args us vs Q E q0 hr hpin e0 hb r hsp => ?_⟩
  obtain ⟨oc, od, kV, doc, pm, an, ct, osl, rfl, lk⟩ := F.ex
  obtain ⟨cl, cld, csl, hcell⟩ := F.cell
  have hl := len _ _ _ _ hsp
  have kp0 : ∀ b o, base.get? b = some o → s.heap.get? b = some o := fun b o e => (e0.bs b o e).1
  have KI : K.In s.heap := e0.mod.kin.keeps kp0
  have lim : s.heap.NoLimit := e0.mod.nolimit.keeps kp0
  refine PySem.ks_codeAny_call_defAt (fd := PySem.W.ksFn x qual (defArgs st) (defBody st) (defScope st) .none kV doc pm an (.ref cda) ct cc) hr.depth (KI _ _ lk) rfl lim (PySem.W.codeRec_of KI F.code) rfl hb S.nocell (fun ⟨n, _⟩ hy => S.par n (List.of_mem_zip hy).1) (fun h₁ hns kp => ?_) S.co S.gen S.kind
  obtain ⟨t, ht, hq⟩ := hbody A outer s H vs Q E q0 hsp
  have C : NdefX.CellsAt [("__class__", cc)] ["__class__"] [none] s.heap H := by
    have key : ∀ (y : Str) (c : Addr), [(("__class__" : Str), cc)].lookup y = some c → y = "__class__" ∧ c = cc := fun y c e => by
      rw [List.lookup_cons] at e
      split at e
      · rename_i q
        cases e
        exact ⟨beq_iff_eq.mp q, rfl⟩
      · cases e
    refine ⟨rfl, fun y c e => ?_, fun a b c e1 e2 => (key a c e1).1.trans (key b c e2).1.symm, fun i y e => ?_⟩
    · obtain ⟨_, rfl⟩ := key y c e
      exact ⟨(e0.bs _ _ (e0.mod.kin _ _ hcell)).2, some (.ref D), ⟨_, KI _ _ hcell, rfl⟩⟩
    · cases i with
      | zero =>
        cases e
        exact ⟨cc, rfl, fun v z => by cases z⟩
      | succ n => cases e
  have I : Inv (scxW P w K mg base N x qual st f cc cda A outer s H E q0) [] (NdefX.startF N vs [none]) H { s with heap := h₁, toks := s.toks + (ps.zip us).length } := NdefX.inv_startNH S hpin e0 hl r C hns kp
  refine _root_.PySem.wpAt_mono (ht.run (defBody st) [] _ (NdefX.startF N vs [none]) H _ I hq) (fun fl s' hs => ?_) fun e s' hs => hs
  have fin : ∀ {σ' : L2.St} {H' : Hp} {v : V} {u : Value}, Inv (scxW P w K mg base N x qual st f cc cda A outer s H E q0) [] σ' H' s' → L2.RelV v u → Q v H' → CE outer P w H s Q u s' :=
    fun {σ' H' v u} J rv q => ⟨v, H', J.os, J.bare, J.base, J.hok, rv, q⟩
  cases fl with
  | ret u =>
    obtain ⟨v, σ', H', J, rv, q⟩ := hs
    exact fin J rv q
  | next =>
    obtain ⟨σ', H', J, q⟩ := hs
    exact fin (v := V.non) (u := Value.none) J rfl q
  | brk =>
    obtain ⟨_, _, _, q⟩ := hs
    exact False.elim q
  | cont =>
    obtain ⟨_, _, _, q⟩ := hs
    exact False.elim q
end
section
variable {g : Gm} {P : Program} {w : World} {mg : Str → Option Value} {base : Heap}
theorem gxw_mk {ec : Ec} {name : Str} {fs : List Fd} {f : Addr} {fd : FuncData} {ps : List Str} (hm : mg name = some (.ref (g.ea ec))) (ox : OexC g.K (g.ea ec)) (iC : PySem.W.findIn g.K (.ref (g.ea ec)) "__init__" = some (some (.ref f))) (tI : PySem.W.typeIn g.K (.ref f) = some (.type "function"))
    (Fw : AX.FnW P w g.K mg base (L2.CX P w) 1 f fd ps (spX (g.ea ec) (fs.map Fd.str))) (hb : Binds g.K fd ps []) : GXW g P w g.K mg base ec name fs := ⟨hm, ox, f, fd, ps, iC, tI, Fw, hb⟩
end
end G

set_option Elab.async false
set_option linter.all false
set_option maxRecDepth 100000
set_option maxHeartbeats 4000000
/-! e.replace of written texts, once: it wants a token that is out already -/
namespace PySem
open Builtin Builtin.Str
/-- the first place alone -/
def repl1 (x y z : Str) : Str :=
  if ((occurrences x y 0 x.length 1).isEmpty || (y.length == 0 && z.length == 0)) = true then x
  else glued z (partsBetween x (occurrences x y 0 x.length 1) y.length)
theorem gives_repl1 (x y z : Str) (t u v w : Tok)
    (hf : ((occurrences x y 0 x.length 1).isEmpty || (y.length == 0 && z.length == 0)) = false →
      (u == 0 || v == 0) = false ∧ (u == v) = false ∧ (y == z) = false ∧ tooLong (x.length + (occurrences x y 0 x.length 1).length * z.length) = false) :
    Gives («str.replace» ⟨[.str x t, .str y u, .str z v, .int 1 w], []⟩) (if ((occurrences x y 0 x.length 1).isEmpty || (y.length == 0 && z.length == 0)) = true then .val (.str x t) else .str (glued z (partsBetween x (occurrences x y 0 x.length 1) y.length))) := by
  show Gives (if ((occurrences x y 0 x.length 1).isEmpty || (y.length == 0 && z.length == 0)) = true then (do rule "str.replace.nothing"; ret (.str x t)) else
          (do let same ← isSame (.str y u) (.str z v)
              if same = true then (do rule "str.replace.old-is-new"; ret (.str x t)) else
              if tooLong (x.length + (occurrences x y 0 x.length 1).length * z.length) = true then unsupported "str.replace:memory" else
              retStr (glued z (partsBetween x (occurrences x y 0 x.length 1) y.length)))) _
  cases hc : ((occurrences x y 0 x.length 1).isEmpty || (y.length == 0 && z.length == 0))
  · obtain ⟨h0, huv, hyz, hl⟩ := hf hc
    rw [isSame_str_other y z u v h0 huv hyz, hl]
    exact .of_eq rfl
  · exact .rule (.of_eq rfl)
theorem sc_repl1 {prog : Program} {W : World} {A : Around} {E : Value → Shared → Prop} {s : Shared} {x y z : Str} {t u v w : Tok} {Q : Value → Shared → Prop}
    (hu : u ≠ 0) (hv : v ≠ 0) (huv : u ≠ v) (hyz : (y == z) = false) (hb : x.length + z.length ≤ 16777216) (hz : (repl1 x y z).length ≤ sizeLine)
    (hq : ∀ t' k, Q (.str (repl1 x y z) t') { s with toks := k }) : wpAny (model prog W) A (call (.builtin "str.replace") [.str x t, .str y u, .str z v, .int 1 w]) Q E s := by
  have hl : tooLong (x.length + (occurrences x y 0 x.length 1).length * z.length) = false := by
    have h1 := StrLaws.occ_length_le x y 0 x.length 1
    have h2 : (occurrences x y 0 x.length 1).length * z.length ≤ 1 * z.length := Nat.mul_le_mul_right _ h1
    unfold tooLong sizeLine
    exact decide_eq_false (by omega)
  refine call_gives F.slot_str_replace (typeIs_str _ _ _) F.entry_str_replace (F.args_str_replace_4 _ _ _ _)
    (gives_repl1 x y z t u v w fun _ => ⟨by simp [hu, hv], by simp [huv], hyz, hl⟩) ?_
  have hq' := hq
  unfold repl1 at hq' hz
  cases hc : ((occurrences x y 0 x.length 1).isEmpty || (y.length == 0 && z.length == 0))
  · rw [hc] at hq' hz
    simp only [Bool.false_eq_true, if_false] at hq' hz ⊢
    exact ⟨hz, hq' _ _⟩
  · rw [hc] at hq'
    simp only [if_true] at hq' ⊢
    exact hq' t s.toks
open Builtin in
theorem call_method3 {prog : Program} {w : World} {A : Around} {E : Value → Shared → Prop} {s : Shared} {env : Env} {o e₁ e₂ e₃ : Expr} {name : Str} {apos pos : Pos} {Q : Value → Shared → Prop}
    (hbase : attributeBase o name env (eval o env) = eval o env) (hs : starEach [e₁, e₂, e₃] env = [(false, eval e₁ env), (false, eval e₂ env), (false, eval e₃ env)]) (hline : (apos.endLine == pos.line) = true)
    (h : wpAny (model prog w) A (eval o env) (fun ov s₁ => MethodOnS prog w A E name ov pos [(false, eval e₁ env), (false, eval e₂ env), (false, eval e₃ env)] Q s₁) E s) :
    wpAny (model prog w) A (eval (.Call (.Attribute o name apos) [e₁, e₂, e₃] [] pos) env) Q E s := by
  refine wpAny_Call_method_lateS hbase (by rw [hs]; rfl) hline ?_
  rw [hs]; exact h
end PySem
namespace G
open PySem PySem.Spec L2 CwR PyProof.Rows
def tRepl1 (to : TE) (y z : Str) : TE := fun σ H Q => to σ H fun v H1 => ∃ x, v = .str x ∧ x.length + z.length ≤ 16777216 ∧ (repl1 x y z).length ≤ sizeLine ∧ Q (.str (repl1 x y z)) H1
section
variable {X : Cx} {o e f : Expr} {te tf to : TE} {t u : TS} {ta : TA} {y z : Str} {j k l : Nat} {c0 c1 c2 apos pos p p' : Pos} {es : List Expr} {rest : List Stmt} {st : Stmt}
theorem pet_repl1 (ho : PE X o to) (hyz : (y == z) = false := by decide)
    (hst : starEach [.Constant (.str y) j c0, .Constant (.str z) k c1, .Constant (.int 1) l c2] X.env = [(false, eval (.Constant (.str y) j c0) X.env), (false, eval (.Constant (.str z) k c1) X.env), (false, eval (.Constant (.int 1) l c2) X.env)] := by rfl)
    (hbase : attributeBase o "replace" X.env (eval o X.env) = eval o X.env := by rfl) (hline : (apos.endLine == pos.line) = true := by rfl) :
    PET X (.Call (.Attribute o "replace" apos) [.Constant (.str y) j c0, .Constant (.str z) k c1, .Constant (.int 1) l c2] [] pos) (tRepl1 to y z) := by
  intro pins s σ H Q h0 I h
  refine PySem.call_method3 hbase hst hline (wpAny_mono (PySem.wpAny_toks (ho.run pins s σ H _ I h)) (fun v s1 q => ?_) fun _ _ z => z.2)
  obtain ⟨hk, v', H1, I1, r1, x, e1, hb, hz, q⟩ := q
  subst e1
  obtain ⟨tx, e2⟩ := r1
  subst e2
  refine ⟨"str", _, PySem.F.plainAttrs_str, PySem.F.slot_str_replace, PySem.F.type_str_replace, typeIs_str _ _ _, (fun _ e => nomatch e), Calls.callWith_builtin rfl (Calls.evalArgs_plain (Calls.spliced_cons ?_))⟩
  refine Calls.Constant_str (Calls.spliced_cons (Calls.Constant_str (Calls.spliced_cons (wpAny_Constant_int (Calls.spliced_nil ?_)))))
  exact PySem.sc_repl1 (by show s1.toks ≠ 0; omega) (by show s1.toks + 1 ≠ 0; omega) (by show s1.toks ≠ s1.toks + 1; omega) hyz hb hz fun t' k => ⟨.str (repl1 x y z), H1, I1.tok k, ⟨t', rfl⟩, q⟩
theorem PAT.of (h : PA X es ta) : PAT X es ta := fun pos pins s σ H Q _ I q => h.run pos pins s σ H Q I q
theorem pst_set {i : Nat} {x : Str} {pos' : Pos} (hN : X.N.Nodup) (hi : X.N[i]? = some x) (hx : Loc X.env.scope x) (he : PET X e te) (hs : swapsWith e (some (.Name x pos')) pos.line X.env = pure false := by rfl) (hf : X.fn x = true ∨ X.env.scope.names.lookup x = some .local := by first | exact .inl rfl | exact .inr rfl | assumption) :
    PST X (.Assign [.Name x pos'] e pos) (tAsg te (gName i)) := by
  intro pins s σ H D h0 I h
  refine wpAny_Assign_Name (thn (he pins s σ H _ h0 I h) fun v s1 ⟨y, H1, I1, r1, q1⟩ => ?_) hs
  exact store_ok I1 hN hi hx r1 (fun s2 I2 => ⟨_, H1, I2, q1⟩) hf
/-- a list whose first item is a written text is stored: behind it a token is out -/
theorem pss_lstc {i : Nat} {x c : Str} {lpos pos' : Pos} (hN : X.N.Nodup) (hi : X.N[i]? = some x) (hx : Loc X.env.scope x) (ha : PA X es ta) (h2 : PSsT X rest u)
    (hst : starEach (.Constant (.str c) j c0 :: es) X.env = (false, eval (.Constant (.str c) j c0) X.env) :: starEach es X.env := by rfl)
    (hs : swapsWith (.List (.Constant (.str c) j c0 :: es) lpos) (some (.Name x pos')) pos.line X.env = pure false := by rfl) (hf : X.fn x = true ∨ X.env.scope.names.lookup x = some .local := by first | exact .inl rfl | exact .inr rfl | assumption) :
    PSs X (.Assign [.Name x pos'] (.List (.Constant (.str c) j c0 :: es) lpos) pos :: rest) (tSeq (tAsg (tLst (tCons (tC (.str c)) ta)) (gName i)) u) := by
  refine ⟨fun pins s σ H D I h => ?_⟩
  refine wpAny_execs_cons (wpAny_Assign_Name (wpAny_List_spliced ?_) hs)
  rw [hst]
  show wpAny _ _ (spliced ((false, eval (.Constant (.str c) j c0) X.env) :: backTo lpos (starEach es X.env))) _ _ s
  refine Calls.spliced_cons (Calls.Constant_str ?_)
  refine wpAny_mono (PySem.wpAny_toks (ha.run lpos pins { s with toks := s.toks + 1 } σ H _ (I.tok _) h)) (fun us s1 q => ?_) fun _ _ z => z.2
  obtain ⟨hk, xs, H1, I1, r, z, q⟩ := q
  have hk : s.toks + 1 ≤ s1.toks := hk
  have rv : Vals (.str c :: xs) (.str c s.toks :: us) := .cons ⟨_, rfl⟩ r
  have hf' : H1 s1.heap.objs.size = none := I1.hok.fresh (Nat.le_refl _)
  refine ⟨by rw [← rv.length]; exact z, ?_⟩
  refine wpAny_mono (PySem.wpAny_toks (store_ok (v := V.ref s1.heap.objs.size) (Q := fun _ s2 => Inv X pins (σ.set i (some (V.ref s1.heap.objs.size))) (upd H1 s1.heap.objs.size (.lst (.str c :: xs))) s2) (show Inv X pins σ (upd H1 s1.heap.objs.size (.lst (.str c :: xs))) _ from I1.laid (t' := s1.toks) (fun b u e => Heap.get?_push_of_some _ e) (Nat.le_refl _) ⟨z, .str c s.toks :: us, 0, rv, Heap.get?_push_size _ rfl⟩) hN hi hx rfl (fun _ I2 => I2) hf)) (fun _ s2 q2 => ?_) fun _ _ z => z.2
  have hk2 : s1.toks ≤ s2.toks := q2.1
  exact h2 pins s2 _ _ D (by omega) q2.2 (q _ hf')
theorem pet_imp {t t' : TE} (h : PET X e t) (k : ∀ σ H Q, t' σ H Q → t σ H Q) : PET X e t' := fun pins s σ H Q h0 I q => h pins s σ H Q h0 I (k σ H Q q)
theorem pat_imp {t t' : TA} (h : PAT X es t) (k : ∀ σ H Q, t' σ H Q → t σ H Q) : PAT X es t' := fun pos pins s σ H Q h0 I q => h pos pins s σ H Q h0 I (k σ H Q q)
theorem pst_imp {t t' : TS} (h : PST X st t) (k : ∀ E σ H, t' E σ H → t E σ H) : PST X st t' := fun pins s σ H D h0 I q => h pins s σ H D h0 I (k D σ H q)
theorem psst_imp {t t' : TS} (h : PSsT X rest t) (k : ∀ E σ H, t' E σ H → t E σ H) : PSsT X rest t' := fun pins s σ H D h0 I q => h pins s σ H D h0 I (k D σ H q)
end
def dRepl1 (Ta : DE) (y z : Str) : DE := fun Δ O P E => Ta Δ O (fun d O1 => match d with | .str x => x.length + z.length ≤ 16777216 ∧ (repl1 x y z).length ≤ sizeLine ∧ P (.str (repl1 x y z)) O1 | _ => False) E
section
variable {g : Gm} {X : Cx} {W : WX} {pos pos' p apos lpos : Pos} {a b c o : Expr} {es : List Expr} {Ta Tb : DE} {R : DA} {T U : DS} {rest : List Stmt} {st : Stmt} {y z : Str} {j k l : Nat} {c0 c1 c2 : Pos}
theorem qT_repl1 (ha : PE X o (le g W Ta)) (hyz : (y == z) = false := by decide)
    (hst : starEach [.Constant (.str y) j c0, .Constant (.str z) k c1, .Constant (.int 1) l c2] X.env = [(false, eval (.Constant (.str y) j c0) X.env), (false, eval (.Constant (.str z) k c1) X.env), (false, eval (.Constant (.int 1) l c2) X.env)] := by rfl)
    (hbase : attributeBase o "replace" X.env (eval o X.env) = eval o X.env := by rfl) (hline : (apos.endLine == pos.line) = true := by rfl) :
    PET X (.Call (.Attribute o "replace" apos) [.Constant (.str y) j c0, .Constant (.str z) k c1, .Constant (.int 1) l c2] [] pos) (le g W (dRepl1 Ta y z)) := by
  refine pet_imp (pet_repl1 ha hyz hst hbase hline) fun σ H Q h => ?_
  obtain ⟨Δ, O, P, E, F, hT, sr, w, hv, hx⟩ := h
  refine le_bind hT sr w hx fun d O1 v F1 H1 hT1 s1 sr1 w1 rx hx1 => ?_
  cases d with
  | str x => exact ⟨x, Rep.str_iff.mp rx, hT1.1, hT1.2.1, hv _ _ _ _ _ hT1.2.2 s1 w1 (Rep.str_iff.mpr rfl)⟩
  | _ => exact hT1.elim
theorem qaT_cons1 (ha : PET X a (le g W Ta)) (hr : PA X es (la g W R)) (hs : starEach (a :: es) X.env = (false, eval a X.env) :: starEach es X.env := by rfl) : PAT X (a :: es) (la g W (dCons Ta R)) := by
  refine pat_imp (pat_cons ha (PAT.of hr) hs) fun σ H Q h => ?_
  obtain ⟨Δ, O, P, E, F, hT, sr, w, hv, hx⟩ := h
  refine le_bind hT sr w hx fun d O1 v F1 H1 hT1 s1 sr1 w1 rx hx1 => la_bind hT1 sr1 w1 hx1 fun ds O2 vs F2 H2 hT2 s2 sr2 w2 rs hx2 => ?_
  exact hv _ _ _ _ _ hT2 (s1.trans s2) w2 (Reps.cons (rx.mono s2) rs)
theorem qT_lst (h : PAT X es (la g W R)) : PET X (.List es pos) (le g W (dLst R)) := by
  refine pet_imp (pet_lst h) fun σ H Q h => ?_
  obtain ⟨Δ, O, P, E, F, hT, sr, w, hv, hx⟩ := h
  refine la_bind hT sr w hx fun ds O1 vs F1 H1 hT1 s1 sr1 w1 rs hx1 => ⟨by rw [← rs.length]; exact hT1.1, fun p hp => ?_⟩
  exact hv _ _ _ _ _ hT1.2 (s1.trans (w1.fsame hp)) (w1.frozen hp) (rs.newL (w1.same.free hp))
theorem qT_op {op : Operator} {r : R2} {f : B2} (ho : OpR X (binaryOp op) r) (lk : Lk2 g r f) (ha : PE X a (le g W Ta)) (hb : PET X b (le g W Tb)) : PET X (.BinOp a op b pos) (le g W (dOp f Ta Tb)) :=
  pet_imp (pet_op ho (PET.of ha) hb) fun σ H Q h => top_of lk h
theorem qsT_asg (i : Nat) {x : Str} (hN : X.N.Nodup) (he : PET X a (le g W Ta)) (hi : X.N[i]? = some x := by rfl) (hx : Loc X.env.scope x := by first | exact Or.inl rfl | exact Or.inr rfl) (hs : swapsWith a (some (.Name x pos')) pos.line X.env = pure false := by rfl)
    (hf : X.fn x = true ∨ X.env.scope.names.lookup x = some .local := by first | exact .inl rfl | exact .inr rfl) : PST X (.Assign [.Name x pos'] a pos) (ls g W (dAsg i Ta)) := by
  refine pst_imp (pst_set (i := i) hN hi hx he hs hf) fun E σ H ⟨D, Δ, O, F, hT, sr, w, ho⟩ => ?_
  exact le_bind hT sr w (ho.toX sr) fun d O1 v F1 H1 hT1 s1 sr1 w1 rx hx1 => ho.nx _ _ _ _ _ hT1 s1 (sr1.set rx i) w1
theorem qssT_cons (h1 : PST X st (ls g W T)) (h2 : PSsT X rest (ls g W U)) : PSsT X (st :: rest) (ls g W (dSeq T U)) := by
  refine psst_imp (psst_cons h1 h2) fun E σ H ⟨D, Δ, O, F, hT, sr, w, he⟩ => ?_
  refine ⟨{ D with nx := U D }, Δ, O, F, hT, sr, w, ⟨fun Δ' O' F' σ' H' q s sr' w' => ?_, he.rt, he.bk, he.ct, he.xc⟩⟩
  exact ⟨D, Δ', O', F', q, sr', w', he.mono s⟩
theorem qss_lstc (i : Nat) {x cs : Str} (hN : X.N.Nodup) (ha : PA X es (la g W R)) (h2 : PSsT X rest (ls g W U)) (hi : X.N[i]? = some x := by rfl) (hx : Loc X.env.scope x := by first | exact Or.inl rfl | exact Or.inr rfl)
    (hst : starEach (.Constant (.str cs) j c0 :: es) X.env = (false, eval (.Constant (.str cs) j c0) X.env) :: starEach es X.env := by rfl)
    (hs : swapsWith (.List (.Constant (.str cs) j c0 :: es) lpos) (some (.Name x pos')) pos.line X.env = pure false := by rfl) (hf : X.fn x = true ∨ X.env.scope.names.lookup x = some .local := by first | exact .inl rfl | exact .inr rfl) :
    PSs X (.Assign [.Name x pos'] (.List (.Constant (.str cs) j c0 :: es) lpos) pos :: rest) (ls g W (dSeq (dAsg i (dLst (dCons (dC (.str cs)) R))) U)) := by
  refine pss_imp (pss_lstc hN hi hx ha h2 hst hs hf) fun E σ H ⟨D, Δ, O, F, hT, sr, w, he⟩ => ?_
  have hT : R Δ O (fun ds O1 => (G.D.str cs :: ds).length ≤ sizeLine ∧ U D (Δ.set i (some (.lst (.str cs :: ds)))) O1) (fun x O1 => D.xc x Δ O1) := hT
  refine la_bind hT sr w (he.toX sr) fun ds O1 vs F1 H1 hT1 s1 sr1 w1 rs hx1 => ?_
  have rs2 : Reps g F1 (.str cs :: ds) (.str cs :: vs) := Reps.cons (Rep.str_iff.mpr rfl) rs
  refine ⟨by rw [← rs2.length]; exact hT1.1, fun p hp => ?_⟩
  exact ⟨D, _, O1, _, hT1.2, ((sr1.mono (w1.fsame hp)).set (rs2.newL (w1.same.free hp)) i), w1.frozen hp, he.mono (s1.trans (w1.fsame hp))⟩
end
section
variable {Δ : Sl} {O : Sto} {P : KD} {E : KX} {Ta : DE} {y z : Str}
theorem e_repl1 : dRepl1 Ta y z Δ O P E = Ta Δ O (fun d O1 => match d with | .str x => x.length + z.length ≤ 16777216 ∧ (repl1 x y z).length ≤ sizeLine ∧ P (.str (repl1 x y z)) O1 | _ => False) E := propext Iff.rfl
end
end G

set_option Elab.async false
set_option linter.all false
set_option maxRecDepth 100000
set_option maxHeartbeats 4000000
namespace G
open PySem L2
local macro_rules
  | `(tactic| push_cast) => `(tactic| simp -failIfUnchanged only [↓e_v0, ↓e_vS, ↓e_asg, ↓e_exp, ↓e_ret, ↓e_retN, ↓e_ifS, ↓e_next, ↓e_nev, ↓e_c, ↓e_op, ↓e_un, ↓e_te, ↓e_tru, ↓e_and, ↓e_or, ↓e_not, ↓e_andV, ↓e_orV, ↓e_notV, ↓e_if, ↓e_chain, ↓e_nil, ↓e_cons, ↓e_tup, ↓e_lst, ↓e_lstO, ↓e_cb, ↓e_call, ↓e_fld, ↓e_frz, ↓e_app, ↓e_setIx, ↓e_setF, ↓e_isT, ↓e_makeK, ↓e_itL, ↓e_rng3, ↓e_itT, ↓e_rng1, ↓e_rng2, ↓e_yes, ↓e_gn, ↓e_lc, ↓e_lcO, ↓e_for, ↓e_brk, ↓e_cnt, ↓e_inOwn, ↓e_raise, ↓e_raiseT, ↓e_try, ↓e_tryN, ↓e_xf, ↓e_isX, ↓e_isO, ↓e_bin, ↓e_uno, ↓e_eqOwn, ↓e_meth, ↓f_max, ↓f_min, ↓f_abs, ↓f_sortI, ↓f_isN, ↓f_notN, ↓f_eqT, ↓f_neT, sz0, sz1, sz2, sz3, sz4, sz5, sz6, sz7, sz8, sz9, sz10, sz11, sz12, tgI, tgN, tgB, tgS, tgL, tgT, tgO, ↓f_ixT0, ↓f_ixT1, ↓f_ixT2, ↓f_ixL0, ↓f_ixL1, ↓f_ixL2, ↓f_ixL3, ↓f_ixT, ↓f_ixL, ↓f_ixP, ↓f_add, ↓f_addL, ↓f_addS, ↓f_sub, ↓f_mul, ↓f_mod, ↓f_div, ↓f_pow, ↓f_lt, ↓f_le, ↓f_gt, ↓f_ge, ↓f_eq, ↓f_ne, ↓f_int, ↓f_neg, ↓f_lenL, ↓f_lenT, ↓f_lenP, truL, truT, truI, truB, truN, objO, clsO, getF, putFs, putDs, tabAt, boolK, reduceCtorEq, List.mem_singleton, true_and, and_true, e_wipe0, e_wipe1, ex_c, getC_self, setC_self, delC_self, lstOf, List.set_cons_zero, List.set_cons_succ, setC_setC, at_0, at_1, at_2, at_3, set_0, set_1, set_2, set_3, List.length_cons, List.length_nil, List.length_map, ↓reduceIte, Bool.false_eq_true, decide_eq_true_eq, ↓e_aug, ↓e_frzS, ↓e_dix, ↓e_inD, ↓e_dget2, ↓e_setD, dicD, keyI, keyS, ↓e_sp1, ↓e_truO, ↓e_cmeth, ↓h_len, ↓h_str, ↓h_any, ↓e_join, ↓e_fmt, ↓e_joined, ↓e_js0, ↓e_js1, ↓e_gt2, ↓e_gt3, ↓e_enum, ↓e_dnew, ↓e_star, ↓e_makeC, seqT, seqL, ↓f_sortP, ↓f_strI, ↓f_addI, ↓f_sum, ↓f_maxL, ↓f_minL, ↓f_any, ↓f_all, ↓e_eqSts, strsOf_map, stsOf_map, frzD, eqB_int, eqB_bl, eqB_str, eq_prs, eq_ints, emp_prs, Bool.not_true, Bool.not_false, Bool.not_not, ↓e_isB, ↓f_inI, ↓f_inS, inB2_t, inB2_f, kit_int_int, kit_int_bool, kit_int_str, kit_list_list, kit_tuple_tuple, kit_str_str, kit_dict_dict, kit_bool_bool, kit_list_tuple, kit_none_str, kit_none_int, ↓e_tryM, ↓e_tryF, ↓e_tryMN, ↓e_xcMN0, ↓e_xcMN1, ↓e_xcM0, ↓e_xcM1, ↓e_propX, ↓f_ltT, ↓f_addO, ↓e_asgG, ↓e_seq, ↓e_revS, ↓f_strS, ↓e_lc2, ↓e_disp, ↓e_lm, ↓f_pop, ↓f_ins, ↓f_ext, ↓e_slice, ↓e_noP, ↓e_part, ↓f_dictD, lstL, ↓e_callK, ↓e_makeKw, ↓e_inK, ↓e_itS, ↓e_sliceS, ↓f_listOL, ↓f_listOT, ↓e_itD, ↓e_melt, ↓e_makeKV, ↓e_makeCV, ↓e_notInOwn, ↓f_listDO, ↓e_revL, ↓f_tupL, ↓f_tupT, ↓f_addT, ↓e_sliceT, ↓e_perm, ↓e_forP, ↓e_lcP, ↓e_cmethK, ↓f_listSL, ↓f_listST, ↓e_sortZ, ↓f_sumT2, ↓e_pop1, ↓e_pop2, ↓e_may, ↓e_lc2O, ↓e_itO, ↓f_isB, ↓f_notB, ↓f_sortS, ↓e_forG, ↓e_gen, ↓e_liG, ↓f_inNon, ↓f_rep, ↓e_callM, ↓e_makeM, fl_nil, fl_int, fl_str, fl_bl, fl_non, fl_a0, fl_a1, fl_a2, ↓e_fmt8, ↓e_fmt2, ↓f_mulS, ↓e_rjust, ↓e_lsR, ↓f_dictP, ↓e_sliceO, ↓f_sortN, ↓e_dcO, ↓e_idx, ↓e_gt4, ↓e_raiseL, ↓e_makeO, ↓e_setP, ↓e_makeMO, ↓e_setT, putsFs, putsDs, ↓e_clr, ↓e_eqLs, ↓e_subO, ↓h_bl, ↓e_mayZ, ↓e_idxN, ↓e_lcX, ↓e_retFin, ↓e_frzA, ↓e_forB, f_and1, f_shr, f_shl, ↓e_ss2, ↓e_makeCO, ↓e_forS, ↓e_lcT, ↓e_genC, ↓e_genM, ↓e_pl, ↓e_lcY, ↓e_notT, ↓e_s1, ↓e_s0, ↓f_split, ↓f_upper, ↓f_addTx, ↓e_starL, ↓e_mat, ↓e_enumS, ↓e_lc2P, ↓e_enumU, ↓e_gtl2, ↓e_gtl3])
  | `(tactic| push_cast [$xs,*]) => `(tactic| simp -failIfUnchanged only [↓e_v0, ↓e_vS, ↓e_asg, ↓e_exp, ↓e_ret, ↓e_retN, ↓e_ifS, ↓e_next, ↓e_nev, ↓e_c, ↓e_op, ↓e_un, ↓e_te, ↓e_tru, ↓e_and, ↓e_or, ↓e_not, ↓e_andV, ↓e_orV, ↓e_notV, ↓e_if, ↓e_chain, ↓e_nil, ↓e_cons, ↓e_tup, ↓e_lst, ↓e_lstO, ↓e_cb, ↓e_call, ↓e_fld, ↓e_frz, ↓e_app, ↓e_setIx, ↓e_setF, ↓e_isT, ↓e_makeK, ↓e_itL, ↓e_rng3, ↓e_itT, ↓e_rng1, ↓e_rng2, ↓e_yes, ↓e_gn, ↓e_lc, ↓e_lcO, ↓e_for, ↓e_brk, ↓e_cnt, ↓e_inOwn, ↓e_raise, ↓e_raiseT, ↓e_try, ↓e_tryN, ↓e_xf, ↓e_isX, ↓e_isO, ↓e_bin, ↓e_uno, ↓e_eqOwn, ↓e_meth, ↓f_max, ↓f_min, ↓f_abs, ↓f_sortI, ↓f_isN, ↓f_notN, ↓f_eqT, ↓f_neT, sz0, sz1, sz2, sz3, sz4, sz5, sz6, sz7, sz8, sz9, sz10, sz11, sz12, tgI, tgN, tgB, tgS, tgL, tgT, tgO, ↓f_ixT0, ↓f_ixT1, ↓f_ixT2, ↓f_ixL0, ↓f_ixL1, ↓f_ixL2, ↓f_ixL3, ↓f_ixT, ↓f_ixL, ↓f_ixP, ↓f_add, ↓f_addL, ↓f_addS, ↓f_sub, ↓f_mul, ↓f_mod, ↓f_div, ↓f_pow, ↓f_lt, ↓f_le, ↓f_gt, ↓f_ge, ↓f_eq, ↓f_ne, ↓f_int, ↓f_neg, ↓f_lenL, ↓f_lenT, ↓f_lenP, truL, truT, truI, truB, truN, objO, clsO, getF, putFs, putDs, tabAt, boolK, reduceCtorEq, List.mem_singleton, true_and, and_true, e_wipe0, e_wipe1, ex_c, getC_self, setC_self, delC_self, lstOf, List.set_cons_zero, List.set_cons_succ, setC_setC, at_0, at_1, at_2, at_3, set_0, set_1, set_2, set_3, List.length_cons, List.length_nil, List.length_map, ↓reduceIte, Bool.false_eq_true, decide_eq_true_eq, ↓e_aug, ↓e_frzS, ↓e_dix, ↓e_inD, ↓e_dget2, ↓e_setD, dicD, keyI, keyS, ↓e_sp1, ↓e_truO, ↓e_cmeth, ↓h_len, ↓h_str, ↓h_any, ↓e_join, ↓e_fmt, ↓e_joined, ↓e_js0, ↓e_js1, ↓e_gt2, ↓e_gt3, ↓e_enum, ↓e_dnew, ↓e_star, ↓e_makeC, seqT, seqL, ↓f_sortP, ↓f_strI, ↓f_addI, ↓f_sum, ↓f_maxL, ↓f_minL, ↓f_any, ↓f_all, ↓e_eqSts, strsOf_map, stsOf_map, frzD, eqB_int, eqB_bl, eqB_str, eq_prs, eq_ints, emp_prs, Bool.not_true, Bool.not_false, Bool.not_not, ↓e_isB, ↓f_inI, ↓f_inS, inB2_t, inB2_f, kit_int_int, kit_int_bool, kit_int_str, kit_list_list, kit_tuple_tuple, kit_str_str, kit_dict_dict, kit_bool_bool, kit_list_tuple, kit_none_str, kit_none_int, ↓e_tryM, ↓e_tryF, ↓e_tryMN, ↓e_xcMN0, ↓e_xcMN1, ↓e_xcM0, ↓e_xcM1, ↓e_propX, ↓f_ltT, ↓f_addO, ↓e_asgG, ↓e_seq, ↓e_revS, ↓f_strS, ↓e_lc2, ↓e_disp, ↓e_lm, ↓f_pop, ↓f_ins, ↓f_ext, ↓e_slice, ↓e_noP, ↓e_part, ↓f_dictD, lstL, ↓e_callK, ↓e_makeKw, ↓e_inK, ↓e_itS, ↓e_sliceS, ↓f_listOL, ↓f_listOT, ↓e_itD, ↓e_melt, ↓e_makeKV, ↓e_makeCV, ↓e_notInOwn, ↓f_listDO, ↓e_revL, ↓f_tupL, ↓f_tupT, ↓f_addT, ↓e_sliceT, ↓e_perm, ↓e_forP, ↓e_lcP, ↓e_cmethK, ↓f_listSL, ↓f_listST, ↓e_sortZ, ↓f_sumT2, ↓e_pop1, ↓e_pop2, ↓e_may, ↓e_lc2O, ↓e_itO, ↓f_isB, ↓f_notB, ↓f_sortS, ↓e_forG, ↓e_gen, ↓e_liG, ↓f_inNon, ↓f_rep, ↓e_callM, ↓e_makeM, fl_nil, fl_int, fl_str, fl_bl, fl_non, fl_a0, fl_a1, fl_a2, ↓e_fmt8, ↓e_fmt2, ↓f_mulS, ↓e_rjust, ↓e_lsR, ↓f_dictP, ↓e_sliceO, ↓f_sortN, ↓e_dcO, ↓e_idx, ↓e_gt4, ↓e_raiseL, ↓e_makeO, ↓e_setP, ↓e_makeMO, ↓e_setT, putsFs, putsDs, ↓e_clr, ↓e_eqLs, ↓e_subO, ↓h_bl, ↓e_mayZ, ↓e_idxN, ↓e_lcX, ↓e_retFin, ↓e_frzA, ↓e_forB, f_and1, f_shr, f_shl, ↓e_ss2, ↓e_makeCO, ↓e_forS, ↓e_lcT, ↓e_genC, ↓e_genM, ↓e_pl, ↓e_lcY, ↓e_notT, ↓e_s1, ↓e_s0, ↓f_split, ↓f_upper, ↓f_addTx, ↓e_starL, ↓e_mat, ↓e_enumS, ↓e_lc2P, ↓e_enumU, ↓e_gtl2, ↓e_gtl3, $xs,*])
def catBadGauge : Ec → Option Bool := lookT [(.BadGauge, true), (.BadText, false)]
def catBadText : Ec → Option Bool := lookT [(.BadGauge, false), (.BadText, true)]
def isxBadGauge : Ec → Option Bool := lookT [(.BadGauge, true), (.BadText, false)]
def isoCoarseGauge : Tg → Option Bool := lookT [(.c .Gauge, false), (.c .CoarseGauge, true), (.c .LateGauge, false), (.c .LateCoarseGauge, true)]
def isoLateGauge : Tg → Option Bool := lookT [(.c .Gauge, false), (.c .CoarseGauge, false), (.c .LateGauge, true), (.c .LateCoarseGauge, true)]
def isoLateCoarseGauge : Tg → Option Bool := lookT [(.c .Gauge, false), (.c .CoarseGauge, false), (.c .LateGauge, false), (.c .LateCoarseGauge, true)]
theorem weak_now {O : Sto} {Q : Sto → Prop} (h : Q O) : ∃ O1, Weak O O1 ∧ Q O1 := ⟨O, fun _ _ _ w => w, h⟩
theorem four {a b c d : D} {O : Sto} {P : KD} {r : Int} (h0 : 0 ≤ r) (h4 : r < 4) (ha : P a O) (hb : P b O) (hc : P c O) (hd : P d O) : (match atI [a, b, c, d] r with | some d => P d O | none => False) := by
  have e : r = 0 ∨ r = 1 ∨ r = 2 ∨ r = 3 := by omega
  rcases e with rfl | rfl | rfl | rfl
  · rw [at_0]; exact ha
  · rw [at_1]; exact hb
  · rw [at_2]; exact hc
  · rw [at_3]; exact hd
theorem all2_len {α β : Type} {R : α → β → Prop} {Q : β → Prop} {as : List α} {bs : List β} (h : All2 R as bs) (k : ∀ a b, R a b → Q b) : ∀ b ∈ bs, Q b := by
  induction h with
  | nil => intro b hb; cases hb
  | cons h _ ih =>
    intro b hb
    rcases List.mem_cons.mp hb with rfl | hb
    · exact k _ _ h
    · exact ih b hb
/-- a loop whose turns keep I; the item is one of the list -/
theorem for_mem {α : Type} {emb : α → D} {Gd : DG} {T : DS} {En : DEnds} (I : Sl → Sto → Prop) {xs : List α} {Δ : Sl} {O : Sto} (h0 : I Δ O) (hend : ∀ Δ O, I Δ O → En.nx Δ O)
    (step : ∀ x ∈ xs, ∀ Δ O (K : Sl → Sto → Prop), I Δ O → (∀ Δ' O', I Δ' O' → K Δ' O') → Gd (emb x) Δ fun Δ' => T { En with nx := K, ct := K, bk := En.nx } Δ' O) : forD Gd T En (xs.map emb) Δ O :=
  for_inv2 (I := fun _ Δ O => I Δ O) h0 hend fun l x r e Δ O K hI hK => step x (by rw [e]; simp) Δ O K hI hK
theorem rangeD_emb (i : Int) (n : Nat) : rangeD i n = (List.range n).map fun j : Nat => D.int (i + (j : Int)) := rfl
theorem at_get {α : Type} {f : α → D} {xs : List α} {i : Nat} {d : α} (h : i < xs.length) : atI (xs.map f) (i : Int) = some (f (xs.getD i d)) := by
  refine atI_nat ?_
  rw [List.getElem?_map, List.getElem?_eq_getElem h, List.getD_eq_getElem?_getD, List.getElem?_eq_getElem h]
  rfl
theorem range_pre {n : Nat} {l r : List Nat} {x : Nat} (h : List.range n = l ++ x :: r) : x = l.length ∧ l.length < n ∧ l = List.range l.length := by
  have e1 : (List.range n)[l.length]? = some x := by rw [h]; simp
  have hl : l.length < n := by
    have := congrArg List.length h
    simp at this
    omega
  rw [List.getElem?_range hl] at e1
  have e2 : l = (List.range n).take l.length := by rw [h]; simp
  refine ⟨(Option.some.inj e1).symm, hl, ?_⟩
  rw [List.take_range] at e2
  rw [Nat.min_eq_left (by omega)] at e2
  exact e2
theorem for_memD {Gd : DG} {T : DS} {En : DEnds} (I : Sl → Sto → Prop) {xs : List D} {Δ : Sl} {O : Sto} (h0 : I Δ O) (hend : ∀ Δ O, I Δ O → En.nx Δ O)
    (step : ∀ x ∈ xs, ∀ Δ O (K : Sl → Sto → Prop), I Δ O → (∀ Δ' O', I Δ' O' → K Δ' O') → Gd x Δ fun Δ' => T { En with nx := K, ct := K, bk := En.nx } Δ' O) : forD Gd T En xs Δ O := by
  have z := for_mem (emb := id) (xs := xs) (Gd := Gd) (T := T) (En := En) I h0 hend step
  rwa [List.map_id] at z

def S_law_take : DSp := fun ds O P E => ∃ b m, ds = [.ptr b, .int m] ∧ getC O b = some .box ∧ 0 < m ∧ m < 1073741824 ∧ ∀ r, 0 ≤ r → r < m → P (.int r) O
def N_law_take : List Str := ["_law_box_here", "_law_many", "_law_cells", "_law_digit", "_law_cell"]
def T_law_take_0 : DS := (dSetIx (dVar 0) (dC (.int 1)) (dOp fAdd (dOp fIx (dVar 0) (dC (.int 1))) (dC (.int 1))))
def T_law_take_1 : DS := (dSeq (dSetIx (dVar 0) (dC (.int 2)) (dOp fSub (dOp fIx (dVar 2) (dOp fIx (dVar 0) (dC (.int 1)))) (dOp fPow (dC (.int 10)) (dC (.int 18))))) T_law_take_0)
def T_law_take_2 : DS := (dSeq (dSetIx (dVar 0) (dC (.int 2)) (dOp fDiv (dCB fInt (dCons (dOp fIx (dVar 0) (dC (.int 2))) dNil)) (dVar 1))) (dRet (dVar 3)))
def T_law_take_3 : DS := (dSeq (dAsg 3 (dOp fMod (dCB fInt (dCons (dOp fIx (dVar 0) (dC (.int 2))) dNil)) (dVar 1))) T_law_take_2)
def T_law_take_4 : DS := (dAsg 4 (dCB fInt (dCons (dOp fIx (dVar 2) (dOp fIx (dVar 0) (dC (.int 1)))) dNil)))
def T_law_take_5 : DS := (dRet (dOp fMod (dOp fMod (dCB fInt (dCons (dOp fAdd (dOp fMul (dOp fDiv (dOp fIx (dVar 0) (dC (.int 3))) (dC (.int 8))) (dC (.int 31))) (dOp fMod (dCB fInt (dCons (dOp fIx (dVar 0) (dC (.int 3))) dNil)) (dC (.int 65537)))) dNil)) (dC (.int 1000003))) (dVar 1)))
def T_law_take_6 : DS := (dSeq (dSetIx (dVar 0) (dC (.int 3)) (dOp fMod (dCB fInt (dCons (dOp fAdd (dOp fAdd (dOp fMul (dOp fIx (dVar 0) (dC (.int 3))) (dC (.int 48271))) (dOp fMul (dVar 4) (dC (.int 7)))) (dOp fIx (dVar 0) (dC (.int 1)))) dNil)) (dC (.int 2147483647)))) T_law_take_5)
def T_law_take_7 : DS := (dSeq (dSetIx (dVar 0) (dC (.int 1)) (dOp fAdd (dOp fIx (dVar 0) (dC (.int 1))) (dC (.int 1)))) T_law_take_6)
def T_law_take_8 : DS := (dSeq (dIfS (dTe (dOp fLt (dOp fIx (dVar 0) (dC (.int 1))) (dCB fLen (dCons (dVar 2) dNil)))) T_law_take_4 dNext) T_law_take_7)
def T_law_take_9 : DS := (dSeq (dIfS (dTe (dOp fGt (dOp fIx (dVar 0) (dC (.int 2))) (dC (.int 0)))) T_law_take_3 dNext) (dSeq (dAsg 4 (dC (.int 0))) T_law_take_8))
def T_law_take_10 : DS := (dSeq (dIfS (dAnd (dTe (dOp fEq (dOp fIx (dVar 0) (dC (.int 2))) (dC (.int 0)))) (dAnd (dTe (dOp fLt (dOp fIx (dVar 0) (dC (.int 1))) (dCB fLen (dCons (dVar 2) dNil)))) (dTe (dOp fGt (dOp fIx (dVar 2) (dOp fIx (dVar 0) (dC (.int 1)))) (dOp fPow (dC (.int 10)) (dC (.int 18))))))) T_law_take_1 dNext) T_law_take_9)
def T_law_take : DS := (dSeq (dAsg 2 (dOp fIx (dVar 0) (dC (.int 0)))) T_law_take_10)

theorem pure_law_take : Pure N_law_take 2 S_law_take T_law_take := by
  rintro ds O P E ⟨b, m, rfl, hb, h0, h1, k⟩
  refine ⟨rfl, Opn.box hb fun cs i a s hc hi ha => ?_⟩
  have gx : ∀ c, getC (setC O b c) b = some c := fun c => getC_setC hb
  have hs : startD N_law_take [.ptr b, .int m] = [some (.ptr b), some (.int m), none, none, none] := rfl
  have fin : ∀ (r : Int) (cs : List Int) (i a s : Int), cs.length ≤ 63 → 0 ≤ i → 0 ≤ a → 0 ≤ r → r < m → ∃ O1, Weak (setC O b (.lst [.lst (cs.map D.int), .int i, .int a, .int s])) O1 ∧ P (.int r) O1 := fun r cs i a s q1 q2 q3 q4 q5 => by
    refine ⟨_, Weak.box (gx _) q1 q2 q3, ?_⟩
    rw [setC_setC, setC_same hb]
    exact k r q4 q5
  have c8 : CDiv 1 8 := by unfold CDiv; omega
  have mk : ∀ x y : Int, -(2 ^ 64) < y → y < 2 ^ 64 → CMul x y := fun x y p q => .inr ⟨p, q⟩
  have t7 : ∀ (i s c : Int), 0 ≤ i → T_law_take_7 (endsD P E) [some (.ptr b), some (.int m), some (.lst (cs.map D.int)), none, some (.int c)] (setC O b (.lst [.lst (cs.map D.int), .int i, .int 0, .int s])) := fun i s c hi => by
    unfold T_law_take_7 T_law_take_6 T_law_take_5
    push_cast [gx, mk]
    refine ⟨mk _ _ (by omega) (by omega), mk _ _ (by omega) (by omega), by omega, ⟨by omega, by omega⟩, mk _ _ (by omega) (by omega), by omega, by omega, h0, ?_⟩
    exact fin _ cs _ _ _ hc (by omega) (by omega) (Int.emod_nonneg _ (by omega)) (Int.emod_lt_of_pos _ h0)
  have t9 : ∀ (i a s : Int), 0 ≤ i → 0 ≤ a → T_law_take_9 (endsD P E) [some (.ptr b), some (.int m), some (.lst (cs.map D.int)), none, none] (setC O b (.lst [.lst (cs.map D.int), .int i, .int a, .int s])) := fun i a s hi ha => by
    unfold T_law_take_9
    push_cast [gx]
    by_cases c : 0 < a
    · rw [if_pos c]
      unfold T_law_take_3 T_law_take_2
      push_cast [gx]
      refine ⟨h0, ⟨h0, h1⟩, ?_⟩
      exact fin _ cs _ _ _ hc hi (Int.ediv_nonneg ha (by omega)) (Int.emod_nonneg _ (by omega)) (Int.emod_lt_of_pos _ h0)
    · rw [if_neg c]
      have e : a = 0 := by omega
      subst e
      unfold T_law_take_8
      push_cast [gx]
      by_cases c : i < (cs.length : Int)
      · rw [if_pos c]
        unfold T_law_take_4
        obtain ⟨n, rfl⟩ := Int.eq_ofNat_of_zero_le hi
        have hn : n < cs.length := by omega
        have ea : atI (cs.map D.int) (n : Int) = some (.int cs[n]) := atI_nat (by rw [List.getElem?_map, List.getElem?_eq_getElem hn]; rfl)
        push_cast [gx, ea]
        exact t7 _ _ _ hi
      · rw [if_neg c]
        exact t7 _ _ _ hi
  rw [hs]
  unfold T_law_take boxC
  push_cast [gx]
  unfold T_law_take_10
  push_cast [gx]
  by_cases c : a = 0
  · subst c
    rw [if_pos rfl]
    by_cases c : i < (cs.length : Int)
    · rw [if_pos c]
      obtain ⟨n, rfl⟩ := Int.eq_ofNat_of_zero_le hi
      have hn : n < cs.length := by omega
      have ea : atI (cs.map D.int) (n : Int) = some (.int cs[n]) := atI_nat (by rw [List.getElem?_map, List.getElem?_eq_getElem hn]; rfl)
      have p18 : CPow 10 18 := ⟨by omega, by omega, by decide⟩
      push_cast [gx, ea]
      refine ⟨p18, ?_⟩
      have e18 : (10 : Int) ^ Int.toNat 18 = 1000000000000000000 := by decide
      rw [e18]
      by_cases c : 1000000000000000000 < cs[n]
      · rw [if_pos c]
        unfold T_law_take_1 T_law_take_0
        push_cast [gx, ea, e18]
        exact ⟨p18, t9 _ _ _ (by omega) (by omega)⟩
      · rw [if_neg c]
        exact t9 _ _ _ hi ha
    · rw [if_neg c]
      push_cast
      exact t9 _ _ _ hi ha
  · rw [if_neg c]
    push_cast
    exact t9 _ _ _ hi ha
def S_law_box : DSp := fun ds O P E => ∃ ns salt, ds = [.scr ns, .int salt] ∧ ∀ b, freshC O b → P (.ptr b) ((b, .box) :: O)
def N_law_box : List Str := ["_law_script", "_law_salt", "_law_cell"]
def T_law_box : DS := (dRet (dLstO (dCons (dLc (dItL (dSlice (dVar 0) dNoP (dPart (dC (.int 63))))) (dgN 2) dYes (dCB fInt (dCons (dVar 2) dNil)) [2]) (dCons (dC (.int 0)) (dCons (dC (.int 0)) (dCons (dVar 1) dNil))))))

theorem pure_law_box : Pure N_law_box 2 S_law_box T_law_box := by
  rintro ds O P E ⟨ns, salt, rfl, k⟩
  refine ⟨rfl, Opn.now ?_⟩
  have hs : startD N_law_box [.scr ns, .int salt] = [some (.scr ns), some (.int salt), none] := rfl
  rw [hs]
  unfold T_law_box
  obtain ⟨ms, e, hm⟩ := cut_box ns
  push_cast [dSlice, dNoP, dPart, e]
  refine ⟨by omega, fun p hp => lc_map D.int (fun x hx acc C h => ?_) (fun q hq => ⟨_, Weak.toBox hm (Int.le_refl 0) (Int.le_refl 0), k q hq⟩)⟩
  unfold lcStep
  push_cast
  exact h
theorem nodup_lenS {α : Type} [BEq α] [LawfulBEq α] {as : List α} : ∀ {bs : List α}, as.Nodup → (∀ a ∈ as, a ∈ bs) → as.length ≤ bs.length := by
  induction as with
  | nil => intro bs _ _; simp
  | cons a as ih =>
    intro bs nd h
    have nd' := List.nodup_cons.mp nd
    have hb := h a List.mem_cons_self
    have z := ih (bs := bs.erase a) nd'.2 fun x hx => (List.mem_erase_of_ne (fun e : x = a => nd'.1 (by rw [← e]; exact hx))).mpr (h x (List.mem_cons_of_mem _ hx))
    rw [List.length_erase_of_mem hb] at z
    have := List.length_pos_of_mem hb
    simp only [List.length_cons]
    omega
def digL (n m : Nat) : List Nat := (List.range m).map fun j => 97 + (n / 26 ^ j) % 26
def wordL (n m : Nat) (b : Bool) : List Nat := if b = true then (digL n m).reverse else digL n m
def wordT (n m : Nat) (b : Bool) : Str := ⟨(wordL n m b).toArray⟩
theorem abc_at : ∀ i : Fin 26, atI (("abcdefghijklmnopqrstuvwxyz" : Str).cps.toList) (i.val : Int) = some (97 + i.val) := by decide +kernel
theorem abc_len : (("abcdefghijklmnopqrstuvwxyz" : Str).length) ≤ sizeLine := by rw [sizeLine_eq]; decide +kernel
theorem str_app (a b : List Nat) : (⟨a.toArray⟩ : Str) ++ (⟨b.toArray⟩ : Str) = ⟨(a ++ b).toArray⟩ := by
  show (⟨a.toArray ++ b.toArray⟩ : Str) = _
  rw [List.append_toArray]
theorem str_len (a : List Nat) : (⟨a.toArray⟩ : Str).length = a.length := by
  show a.toArray.size = a.length
  simp
def S_law_word : DSp := fun ds O P E => ∃ (n m : Nat) (b : Bool), ds = [.int (n : Int), .int (m : Int), .bl b] ∧ m ≤ 12 ∧ P (.str (wordT n m b)) O
def N_law_word : List Str := ["_law_number", "_law_many", "_law_back", "_law_word_here", "_law_turn"]
def T_law_word_0 : DS := (dAsg 0 (dOp fDiv (dCB fInt (dCons (dVar 0) dNil)) (dC (.int 26))))
def T_law_word_1 : DS := (dSeq (dAsg 3 (dOp fAdd (dVar 3) (dOp fIx (dC (.str "abcdefghijklmnopqrstuvwxyz")) (dOp fMod (dCB fInt (dCons (dVar 0) dNil)) (dC (.int 26)))))) T_law_word_0)
def T_law_word_2 : DS := (dSeq (dIfS (dTru (dVar 2)) (dRet (dRevS (dVar 3))) dNext) (dRet (dVar 3)))
def T_law_word_3 : DS := (dSeq (dFor (dRng1 (dCons (dVar 1) dNil)) (dgN 4) T_law_word_1) T_law_word_2)
def T_law_word : DS := (dSeq (dAsg 3 (dC (.str ""))) T_law_word_3)

theorem pure_law_word : Pure N_law_word 3 S_law_word T_law_word := by
  rintro ds O P E ⟨n, m, b, rfl, hm, k⟩
  refine ⟨rfl, Opn.now ?_⟩
  have hs : startD N_law_word [.int (n : Int), .int (m : Int), .bl b] = [some (.int (n : Int)), some (.int (m : Int)), some (.bl b), none, none] := rfl
  rw [hs]
  unfold T_law_word
  push_cast
  unfold T_law_word_3
  push_cast [rangeD_emb]
  refine ⟨by omega, by omega, ?_⟩
  refine for_inv2 (emb := fun j : Nat => D.int (0 + (j : Int))) (I := fun l Δ O1 => O1 = O ∧ ∃ z, Δ = [some (.int ((n / 26 ^ l.length : Nat) : Int)), some (.int (m : Int)), some (.bl b), some (.str ⟨(digL n l.length).toArray⟩), z]) ⟨rfl, none, by simp [digL]; rfl⟩ ?_ ?_
  · rintro Δ O1 ⟨rfl, z, rfl⟩
    have el : (List.range (Int.toNat (m : Int))).length = m := by simp
    rw [el]
    have hz : (⟨(digL n m).toArray⟩ : Str).length ≤ sizeLine := by rw [str_len, sizeLine_eq]; simp [digL]; omega
    unfold T_law_word_2
    cases b with
    | true =>
      push_cast [truB, e_revS]
      refine ⟨hz, weak_now ?_⟩
      have e : revT ⟨(digL n m).toArray⟩ = wordT n m true := by simp [revT, wordT, wordL]
      rw [e]
      exact k
    | false =>
      push_cast [truB]
      exact weak_now k
  · rintro l x r e Δ O1 K ⟨rfl, z, rfl⟩ hK
    have hl : l.length < m := by
      have := congrArg List.length e
      simp at this
      omega
    push_cast [Int.zero_add]
    unfold T_law_word_1
    push_cast
    refine ⟨by omega, ?_⟩
    have em : (((n / 26 ^ l.length : Nat) : Int) % 26) = (((n / 26 ^ l.length) % 26 : Nat) : Int) := by omega
    have ea := abc_at ⟨(n / 26 ^ l.length) % 26, Nat.mod_lt _ (by omega)⟩
    simp only at ea
    rw [em]
    simp only [fIx, ea]
    refine ⟨abc_len, ?_⟩
    push_cast
    have ez := str_app (digL n l.length) [97 + n / 26 ^ l.length % 26]
    refine ⟨?_, ?_⟩
    · rw [str_len, sizeLine_eq]
      have : (⟨#[97 + n / 26 ^ l.length % 26]⟩ : Str).length = 1 := rfl
      rw [this]
      simp [digL]
      omega
    unfold T_law_word_0
    push_cast
    refine ⟨⟨by omega, by omega⟩, hK _ _ ⟨rfl, some (D.int (x : Int)), ?_⟩⟩
    have e1 : (((n / 26 ^ l.length : Nat) : Int) / 26) = ((n / 26 ^ (l ++ [x]).length : Nat) : Int) := by
      rw [List.length_append, List.length_singleton, Nat.pow_succ, ← Nat.div_div_eq_div_mul]
      omega
    have e2 : (⟨(digL n l.length).toArray⟩ : Str) ++ (⟨#[97 + n / 26 ^ l.length % 26]⟩ : Str) = ⟨(digL n (l ++ [x]).length).toArray⟩ := by
      refine Eq.trans ez ?_
      rw [List.length_append, List.length_singleton]
      unfold digL
      rw [List.range_succ, List.map_append]
      rfl
    rw [e1, e2]
def barred : List Str := ["rank", "trim", "weigh", "together"]
structure okN (w : Str) : Prop where
  ex : ∃ l : List Nat, w = ⟨l.toArray⟩ ∧ 1 ≤ l.length ∧ l.length ≤ 12 ∧ ∀ c ∈ l, 97 ≤ c ∧ c ≤ 122
  nb : w ∉ barred
theorem okN.len {w : Str} (h : okN w) : w.length ≤ 12 := by
  obtain ⟨l, rfl, _, h2, _⟩ := h.ex
  rw [str_len]; exact h2
theorem okN.pos {w : Str} (h : okN w) : 1 ≤ w.length := by
  obtain ⟨l, rfl, h2, _⟩ := h.ex
  rw [str_len]; exact h2
theorem word_ex {n m : Nat} {b : Bool} (h1 : 1 ≤ m) (h2 : m ≤ 12) : ∃ l : List Nat, wordT n m b = ⟨l.toArray⟩ ∧ 1 ≤ l.length ∧ l.length ≤ 12 ∧ ∀ c ∈ l, 97 ≤ c ∧ c ≤ 122 := by
  have key : ∀ c ∈ digL n m, 97 ≤ c ∧ c ≤ 122 := by
    intro c hc
    obtain ⟨j, _, rfl⟩ := List.mem_map.mp hc
    have := Nat.mod_lt (n / 26 ^ j) (show 26 > 0 by omega)
    omega
  have len : (digL n m).length = m := by simp [digL]
  cases b with
  | true => exact ⟨(digL n m).reverse, rfl, by rw [List.length_reverse]; omega, by rw [List.length_reverse]; omega, fun c hc => key c (List.mem_reverse.mp hc)⟩
  | false => exact ⟨digL n m, rfl, by omega, by omega, key⟩
theorem word_inj {n n' m : Nat} {b : Bool} (h1 : 1 ≤ m) (h : wordT n m b = wordT n' m b) : n % 26 = n' % 26 := by
  have e : wordL n m b = wordL n' m b := by
    have := congrArg (fun s : Str => s.cps.toList) h
    simpa [wordT] using this
  have e2 : digL n m = digL n' m := by
    unfold wordL at e
    cases b with
    | true => simpa using e
    | false => simpa using e
  obtain ⟨m, rfl⟩ : ∃ k, m = k + 1 := ⟨m - 1, by omega⟩
  unfold digL at e2
  rw [List.range_succ_eq_map, List.map_cons, List.map_cons] at e2
  have z := (List.cons.inj e2).1
  simp at z
  omega
theorem words_pig {B : List Str} {n m : Nat} {b : Bool} (h1 : 1 ≤ m) (hB : B.length ≤ 18) : ¬ ∀ i, i < 20 → wordT (n + i) m b ∈ B := by
  intro h
  have nd : ((List.range 20).map fun i => wordT (n + i) m b).Nodup := by
    rw [List.nodup_iff_pairwise_ne, List.pairwise_map]
    refine List.Pairwise.imp_of_mem ?_ List.nodup_range
    intro a c ha hc ne e
    have := word_inj h1 e
    have := List.mem_range.mp ha
    have := List.mem_range.mp hc
    omega
  have z := nodup_lenS nd (bs := B) (fun a ha => by
    obtain ⟨i, hi, rfl⟩ := List.mem_map.mp ha
    exact h i (List.mem_range.mp hi))
  rw [List.length_map, List.length_range] at z
  omega
def S_law_words : DSp := fun ds O P E => ∃ (b : Addr) (m : Nat), ds = [.ptr b, .int (m : Int)] ∧ getC O b = some .box ∧ m ≤ 15 ∧ ∀ ws : List Str, ws.length = m → ws.Nodup → (∀ w ∈ ws, okN w) → P (.lst (ws.map D.str)) O
def N_law_words : List Str := ["_law_box_here", "_law_many", "_law_words_here", "_law_back", "_law_turn", "_law_wide", "_law_number", "_law_word_here", "_law_again"]
def T_law_words_0 : DS := (dAsg 7 (dCall S_law_word (dCons (dVar 6) (dCons (dVar 5) (dCons (dVar 3) dNil)))))
def T_law_words_1 : DS := (dSeq (dAsg 6 (dOp fAdd (dVar 6) (dC (.int 1)))) T_law_words_0)
def T_law_words_2 : DS := (dIfS (dOr (dTe (dOp fIn (dVar 7) (dVar 2))) (dTe (dOp fIn (dVar 7) (dLst (dCons (dC (.str "rank")) (dCons (dC (.str "trim")) (dCons (dC (.str "weigh")) (dCons (dC (.str "together")) dNil)))))))) T_law_words_1 dNext)
def T_law_words_3 : DS := (dSeq (dFor (dRng1 (dCons (dC (.int 20)) dNil)) (dgN 8) T_law_words_2) (dExp (dApp (dVar 2) (dVar 7))))
def T_law_words_4 : DS := (dSeq (dAsg 7 (dCall S_law_word (dCons (dVar 6) (dCons (dVar 5) (dCons (dVar 3) dNil))))) T_law_words_3)
def T_law_words_5 : DS := (dSeq (dAsg 6 (dCall S_law_take (dCons (dVar 0) (dCons (dC (.int 500000)) dNil)))) T_law_words_4)
def T_law_words_6 : DS := (dSeq (dAsg 5 (dOp fIx (dLst (dCons (dC (.int 1)) (dCons (dC (.int 1)) (dCons (dC (.int 2)) (dCons (dC (.int 3)) (dCons (dC (.int 5)) (dCons (dC (.int 12)) dNil))))))) (dCall S_law_take (dCons (dVar 0) (dCons (dC (.int 6)) dNil))))) T_law_words_5)
def T_law_words_7 : DS := (dSeq (dFor (dRng1 (dCons (dVar 1) dNil)) (dgN 4) T_law_words_6) (dRet (dFrz (dVar 2))))
def T_law_words_8 : DS := (dSeq (dAsg 3 (dOp fEq (dCall S_law_take (dCons (dVar 0) (dCons (dC (.int 2)) dNil))) (dC (.int 1)))) T_law_words_7)
def T_law_words : DS := (dSeq (dAsg 2 (dLstO dNil)) T_law_words_8)

theorem six {a b c d e f : D} {O : Sto} {P : KD} {r : Int} (h0 : 0 ≤ r) (h6 : r < 6) (ha : P a O) (hb : P b O) (hc : P c O) (hd : P d O) (he : P e O) (hf : P f O) : (match atI [a, b, c, d, e, f] r with | some d => P d O | none => False) := by
  have e : r = 0 ∨ r = 1 ∨ r = 2 ∨ r = 3 ∨ r = 4 ∨ r = 5 := by omega
  rcases e with rfl | rfl | rfl | rfl | rfl | rfl
  · exact ha
  · exact hb
  · exact hc
  · exact hd
  · exact he
  · exact hf
theorem pure_law_words : Pure N_law_words 2 S_law_words T_law_words := by
  rintro ds O P E ⟨b, m, rfl, hb, hm, k⟩
  refine ⟨rfl, Opn.now ?_⟩
  have hs : startD N_law_words [.ptr b, .int (m : Int)] = [some (.ptr b), some (.int (m : Int)), none, none, none, none, none, none, none] := rfl
  rw [hs]
  unfold T_law_words
  push_cast
  intro p hp
  have gb : ∀ c, getC ((p, c) :: O) b = some .box := fun c => getC_fresh hb hp
  unfold T_law_words_8
  push_cast
  refine ⟨b, _, rfl, gb _, by omega, by omega, fun r h0 h1 => ?_⟩
  push_cast
  generalize decide (r = 1) = bk
  unfold T_law_words_7
  push_cast [rangeD_emb]
  refine ⟨by omega, by omega, ?_⟩
  refine for_inv2 (emb := fun j : Nat => D.int (0 + (j : Int))) (I := fun l Δ O1 => ∃ (ws : List Str) (z4 z5 z6 z7 z8 : Option D), ws.length = l.length ∧ ws.Nodup ∧ (∀ w ∈ ws, okN w) ∧ O1 = (p, .lst (ws.map D.str)) :: O ∧ Δ = [some (.ptr b), some (.int (m : Int)), some (.ptr p), some (.bl bk), z4, z5, z6, z7, z8]) ⟨[], none, none, none, none, none, rfl, List.nodup_nil, (by intro w hw; cases hw), rfl, rfl⟩ ?_ ?_
  · rintro Δ O1 ⟨ws, z4, z5, z6, z7, z8, hl, hn, hok, rfl, rfl⟩
    push_cast
    exact weak_now (k ws (by rw [hl]; simp) hn hok)
  · rintro l x r' e Δ O1 K ⟨ws, z4, z5, z6, z7, z8, hl, hn, hok, rfl, rfl⟩ hK
    have hlm : l.length < m := by
      have := congrArg List.length e
      simp at this
      omega
    push_cast
    unfold T_law_words_6
    push_cast
    refine ⟨b, _, rfl, gb _, by omega, by omega, fun r2 h20 h21 => ?_⟩
    push_cast
    have main : ∀ wd : Nat, 1 ≤ wd → wd ≤ 12 → T_law_words_5 { endsD P E with nx := K, ct := K, bk := (fun Δ' O' => (dRet (dFrz (dVar 2))) (endsD P E) Δ' O') } [some (.ptr b), some (.int (m : Int)), some (.ptr p), some (.bl bk), some (.int (0 + (x : Int))), some (.int (wd : Int)), z6, z7, z8] ((p, .lst (ws.map D.str)) :: O) := by
      intro wd w1 w2
      unfold T_law_words_5
      push_cast
      refine ⟨b, _, rfl, gb _, by omega, by omega, fun n hn0 hn1 => ?_⟩
      obtain ⟨n, rfl⟩ := Int.eq_ofNat_of_zero_le hn0
      unfold T_law_words_4
      push_cast
      refine ⟨n, wd, bk, rfl, w2, ?_⟩
      unfold T_law_words_3
      push_cast [rangeD_emb]
      refine ⟨by omega, by omega, ?_⟩
      refine for_inv2 (emb := fun j : Nat => D.int (0 + (j : Int))) (I := fun l2 Δ O1 => ∃ (c : Nat) (z8 : Option D), c ≤ l2.length ∧ (∀ i, i < c → wordT (n + i) wd bk ∈ ws ++ barred) ∧ (c = l2.length ∨ wordT (n + c) wd bk ∉ ws ++ barred) ∧ O1 = (p, .lst (ws.map D.str)) :: O ∧ Δ = [some (.ptr b), some (.int (m : Int)), some (.ptr p), some (.bl bk), some (.int (0 + (x : Int))), some (.int (wd : Int)), some (.int ((n + c : Nat) : Int)), some (.str (wordT (n + c) wd bk)), z8]) ⟨0, _, Nat.le_refl _, fun i hi => absurd hi (by omega), .inl rfl, rfl, rfl⟩ ?_ ?_
      · rintro Δ O1 ⟨c, z8, hc, hin, hor, rfl, rfl⟩
        have el : (List.range (Int.toNat 20)).length = 20 := by decide
        rw [el] at hc hor
        have nin : wordT (n + c) wd bk ∉ ws ++ barred := by
          rcases hor with rfl | h
          · exact absurd hin (words_pig w1 (by rw [List.length_append]; simp [barred]; omega))
          · exact h
        have nin1 : wordT (n + c) wd bk ∉ ws := fun q => nin (List.mem_append.mpr (.inl q))
        have nin2 : wordT (n + c) wd bk ∉ barred := fun q => nin (List.mem_append.mpr (.inr q))
        push_cast
        refine ⟨by rw [sizeLine_eq]; omega, hK _ _ ⟨ws ++ [wordT (n + c) wd bk], _, _, _, _, _, by rw [List.length_append, List.length_append, hl]; rfl, ?_, ?_, ?_, rfl⟩⟩
        · rw [List.nodup_append]
          refine ⟨hn, by simp, fun a ha b hb e => ?_⟩
          rw [List.mem_singleton.mp hb] at e
          exact nin1 (by rw [← e]; exact ha)
        · intro w hw
          rcases List.mem_append.mp hw with hw | hw
          · exact hok w hw
          · rw [List.mem_singleton.mp hw]
            exact ⟨word_ex w1 w2, nin2⟩
        · rw [List.map_append]; rfl
      · rintro l2 x2 r2 e2 Δ O1 K2 ⟨c, z8, hc, hin, hor, rfl, rfl⟩ hK2
        push_cast
        unfold T_law_words_2
        have sq : seqOf ((p, Cell.lst (ws.map D.str)) :: O) (.ptr p) = some (ws.map D.str) := seqP getC_self
        have eb : [D.str "rank", D.str "trim", D.str "weigh", D.str "together"] = barred.map D.str := rfl
        push_cast [fInQ, sq, inB2]
        have again : wordT (n + c) wd bk ∈ ws ++ barred → T_law_words_1 { endsD P E with nx := K2, ct := K2, bk := (fun Δ' O' => (dExp (dApp (dVar 2) (dVar 7))) { endsD P E with nx := K, ct := K, bk := (fun Δ' O' => (dRet (dFrz (dVar 2))) (endsD P E) Δ' O') } Δ' O') } [some (.ptr b), some (.int (m : Int)), some (.ptr p), some (.bl bk), some (.int (0 + (x : Int))), some (.int (wd : Int)), some (.int ((n + c : Nat) : Int)), some (.str (wordT (n + c) wd bk)), some (.int (0 + (x2 : Int)))] ((p, .lst (ws.map D.str)) :: O) := by
          intro q
          have ec : c = l2.length := by
            rcases hor with h | h
            · exact h
            · exact absurd q h
          unfold T_law_words_1
          push_cast
          unfold T_law_words_0
          push_cast
          refine ⟨n + c + 1, wd, bk, ?_, w2, ?_⟩
          · have : ((n + c : Nat) : Int) + 1 = ((n + c + 1 : Nat) : Int) := by omega
            rw [this]
          refine hK2 _ _ ⟨c + 1, some (.int (0 + (x2 : Int))), by rw [List.length_append, List.length_singleton]; omega, fun i hi => ?_, .inl (by rw [List.length_append, List.length_singleton]; omega), rfl, ?_⟩
          · by_cases ei : i < c
            · exact hin i ei
            · have : i = c := by omega
              rw [this]; exact q
          · have : ((n + c : Nat) : Int) + 1 = ((n + (c + 1) : Nat) : Int) := by omega
            rw [this]
            rfl
        by_cases q1 : wordT (n + c) wd bk ∈ ws
        · rw [if_pos q1]
          exact again (List.mem_append.mpr (.inl q1))
        · rw [if_neg q1]
          rw [eb]
          push_cast [fInQ, inB2]
          by_cases q2 : wordT (n + c) wd bk ∈ barred
          · rw [if_pos q2]
            exact again (List.mem_append.mpr (.inr q2))
          · rw [if_neg q2]
            refine hK2 _ _ ⟨c, some (.int (0 + (x2 : Int))), by rw [List.length_append, List.length_singleton]; omega, hin, .inr fun q => (List.mem_append.mp q).elim q1 q2, rfl, rfl⟩
    exact six (P := fun d O => T_law_words_5 { endsD P E with nx := K, ct := K, bk := (fun Δ' O' => (dRet (dFrz (dVar 2))) (endsD P E) Δ' O') } [some (.ptr b), some (.int (m : Int)), some (.ptr p), some (.bl bk), some (.int (0 + (x : Int))), some d, z6, z7, z8] O) h20 h21 (main 1 (by omega) (by omega)) (main 1 (by omega) (by omega)) (main 2 (by omega) (by omega)) (main 3 (by omega) (by omega)) (main 5 (by omega) (by omega)) (main 12 (by omega) (by omega))
/-- readings: a dict of names -/
def rdF (ws : List Str) (f : Str → Int) : D := .dic (ws.map Sum.inr) (ws.map fun w => .int (f w))
theorem getK_map {α : Type} [DecidableEq α] {h : α → Key} (hi : ∀ a b, h a = h b → a = b) {g : α → D} {ws : List α} {w : α} (hw : w ∈ ws) : getK (h w) (ws.map h) (ws.map g) = some (g w) := by
  induction ws with
  | nil => cases hw
  | cons x ws ih =>
    simp only [List.map_cons, getK]
    by_cases e : x = w
    · rw [if_pos (by rw [e]), e]
    · rw [if_neg fun q => e (hi _ _ q)]
      rcases List.mem_cons.mp hw with q | q
      · exact absurd q.symm e
      · exact ih q
theorem getK_no {α : Type} [DecidableEq α] {h : α → Key} (hi : ∀ a b, h a = h b → a = b) {g : α → D} {ws : List α} {w : α} (hw : w ∉ ws) : getK (h w) (ws.map h) (ws.map g) = none := by
  induction ws with
  | nil => rfl
  | cons x ws ih =>
    simp only [List.map_cons, getK]
    rw [if_neg fun q => hw (by rw [hi _ _ q]; exact List.mem_cons_self), ih fun q => hw (List.mem_cons_of_mem _ q)]
theorem inr_inj (a b : Str) (h : (Sum.inr a : Key) = Sum.inr b) : a = b := Sum.inr.inj h
theorem putK_new {ws : List Str} {w : Str} {d : D} {g : Str → D} (hw : w ∉ ws) : putKs (.inr w) (ws.map Sum.inr) = (ws ++ [w]).map Sum.inr ∧ putKd (.inr w) d (ws.map Sum.inr) (ws.map g) = ws.map g ++ [d] := by
  induction ws with
  | nil => exact ⟨rfl, rfl⟩
  | cons x ws ih =>
    obtain ⟨h1, h2⟩ := ih fun q => hw (List.mem_cons_of_mem _ q)
    have ne : ¬ (Sum.inr x : Key) = Sum.inr w := fun q => hw (by rw [inr_inj _ _ q]; exact List.mem_cons_self)
    simp only [List.map_cons, putKs, putKd, if_neg ne, List.cons_append]
    exact ⟨by rw [h1], by rw [h2]⟩
theorem inr_nodup {ws : List Str} (h : ws.Nodup) : (ws.map (Sum.inr : Str → Key)).Nodup := List.Pairwise.map _ (fun a b q e => q (inr_inj _ _ e)) h
def updF (g : Str → Int) (x : Str) (v : Int) (w : Str) : Int := if w = x then v else g w
theorem updF_self (g : Str → Int) (x : Str) (v : Int) : updF g x v x = v := by simp [updF]
theorem updF_ne {g : Str → Int} {x w : Str} {v : Int} (h : w ≠ x) : updF g x v w = g w := by simp [updF, h]
theorem putF_new {l : List Str} {x : Str} {v : Int} {g : Str → Int} (nx : x ∉ l) : putKs (.inr x) (l.map Sum.inr) = (l ++ [x]).map Sum.inr ∧ putKd (.inr x) (.int v) (l.map Sum.inr) (l.map fun w => .int (g w)) = (l ++ [x]).map fun w => D.int (updF g x v w) := by
  obtain ⟨p1, p2⟩ := putK_new (d := .int v) (g := fun w => .int (g w)) nx
  refine ⟨p1, ?_⟩
  rw [p2, List.map_append]
  have : l.map (fun w => D.int (updF g x v w)) = l.map fun w => D.int (g w) := List.map_congr_left fun w hw => by rw [updF_ne fun q => nx (by rw [← q]; exact hw)]
  rw [this]
  simp [updF]
theorem getF_in {ws : List Str} {f : Str → Int} {w : Str} (h : w ∈ ws) : getK (.inr w) (ws.map Sum.inr) (ws.map fun w => D.int (f w)) = some (.int (f w)) := getK_map (h := Sum.inr) (g := fun w => D.int (f w)) inr_inj h
theorem dic_rd {O : Sto} {ws : List Str} {f : Str → Int} : dicOf O (rdF ws f) = some (ws.map Sum.inr, ws.map fun w => .int (f w)) := rfl

/-- the numbers of a gauge -/
structure Gs where
  name : Str
  sort : Nat
  radius : Int
  step : Int
  late : Int
  pace : Int
def clG (s : Gs) : Cl := match s.sort with | 0 => .Gauge | 1 => .CoarseGauge | 2 => .LateGauge | _ => .LateCoarseGauge
def fsG (s : Gs) : List Fd := match s.sort with | 0 => [.name, .radius] | 1 => [.name, .radius, .step] | 2 => [.name, .radius, .late, .pace] | _ => [.name, .radius, .late, .pace, .step]
def dsG (s : Gs) : List D := match s.sort with
  | 0 => [.str s.name, .int s.radius] | 1 => [.str s.name, .int s.radius, .int s.step] | 2 => [.str s.name, .int s.radius, .int s.late, .int s.pace] | _ => [.str s.name, .int s.radius, .int s.late, .int s.pace, .int s.step]
def gaugeD (s : Gs) : D := .obj (clG s) (fsG s) (dsG s)
def specD (s : Gs) : D := .tup [.str s.name, .int (s.sort : Int), .int s.radius, .int s.step, .int s.late, .int s.pace]
/-- how far the level may be below, above -/
def lateG (s : Gs) : Int := if 2 ≤ s.sort then s.late * s.pace else 0
def stepG (s : Gs) : Int := if s.sort = 1 ∨ s.sort = 3 then s.step - 1 else 0
def sbG (s : Gs) : Int := s.radius + lateG s
def saG (s : Gs) : Int := s.radius + lateG s + stepG s
structure okG (s : Gs) : Prop where
  nm : okN s.name
  so : s.sort ≤ 3
  ra : 0 ≤ s.radius
  st : 1 ≤ s.step
  la : 0 ≤ s.late
  pa : 0 ≤ s.pace
  lb : s.late < 2 ^ 64
theorem lateG_nn {s : Gs} (h : okG s) : 0 ≤ lateG s := by
  unfold lateG
  split
  · exact Int.mul_nonneg h.la h.pa
  · exact Int.le_refl _
theorem stepG_nn {s : Gs} (h : okG s) : 0 ≤ stepG s := by
  unfold stepG
  have := h.st
  split <;> omega
theorem sb_nn {s : Gs} (h : okG s) : 0 ≤ sbG s := by have := lateG_nn h; have := h.ra; unfold sbG; omega
theorem sa_nn {s : Gs} (h : okG s) : 0 ≤ saG s := by have := lateG_nn h; have := stepG_nn h; have := h.ra; unfold saG; omega
theorem obj_g {O : Sto} (s : Gs) : objOf O (gaugeD s) = some (clG s, fsG s, dsG s) := rfl
theorem cls_g {O : Sto} (s : Gs) : clsOf O (gaugeD s) = some (clG s) := rfl
theorem sort4 {s : Gs} (h : okG s) : s.sort = 0 ∨ s.sort = 1 ∨ s.sort = 2 ∨ s.sort = 3 := by have := h.so; omega
theorem gf_name (s : Gs) : getF .name (fsG s) (dsG s) = some (.str s.name) := by
  unfold fsG dsG; split <;> simp [getF]
theorem gf_radius (s : Gs) : getF .radius (fsG s) (dsG s) = some (.int s.radius) := by
  unfold fsG dsG; split <;> simp [getF]
theorem gf_step {s : Gs} (h : s.sort = 1 ∨ s.sort = 3) : getF .step (fsG s) (dsG s) = some (.int s.step) := by
  unfold fsG dsG; rcases h with h | h <;> rw [h] <;> simp [getF]
theorem gf_late {s : Gs} (h : s.sort = 2 ∨ s.sort = 3) : getF .late (fsG s) (dsG s) = some (.int s.late) := by
  unfold fsG dsG; rcases h with h | h <;> rw [h] <;> simp [getF]
theorem gf_pace {s : Gs} (h : s.sort = 2 ∨ s.sort = 3) : getF .pace (fsG s) (dsG s) = some (.int s.pace) := by
  unfold fsG dsG; rcases h with h | h <;> rw [h] <;> simp [getF]
theorem clG_0 {s : Gs} (e : s.sort = 0) : clG s = .Gauge := by simp [clG, e]
theorem clG_1 {s : Gs} (e : s.sort = 1) : clG s = .CoarseGauge := by simp [clG, e]
theorem clG_2 {s : Gs} (e : s.sort = 2) : clG s = .LateGauge := by simp [clG, e]
theorem clG_3 {s : Gs} (e : s.sort = 3) : clG s = .LateCoarseGauge := by simp [clG, e]
def gaugeCs : List Cl := [.Gauge, .CoarseGauge, .LateGauge, .LateCoarseGauge]
theorem clG_mem (s : Gs) : clG s ∈ gaugeCs := by unfold clG; split <;> decide
def abcL : List Nat := (("abcdefghijklmnopqrstuvwxyz" : Str).cps.toList)
def validB (z : Str) : Bool := decide (1 ≤ z.length ∧ z.length ≤ 12) && !decide (z ∈ barred) && z.cps.toList.all fun c => decide (c ∈ abcL)
def validD : D → Bool
  | .str z => validB z
  | _ => false
theorem abc_mem : ∀ i : Fin 26, (97 + i.val) ∈ abcL := by decide +kernel
theorem valid_ok {z : Str} (h : okN z) : validB z = true := by
  obtain ⟨l, rfl, h1, h2, h3⟩ := h.ex
  unfold validB
  rw [str_len]
  simp only [Bool.and_eq_true, decide_eq_true_eq, Bool.not_eq_true', decide_eq_false_iff_not, List.all_eq_true]
  refine ⟨⟨⟨h1, h2⟩, h.nb⟩, fun c hc => ?_⟩
  have := h3 c (by simpa using hc)
  have z := abc_mem ⟨c - 97, by omega⟩
  have e : 97 + (c - 97) = c := by omega
  simpa only [e] using z
def nameLike (nd : D) : Prop := (∃ z : Str, nd = .str z ∧ z.length ≤ 1000) ∨ nd = .non ∨ (∃ i, nd = .int i) ∨ ∃ es, nd = .tup es
def S_valid_name : DSp := fun ds O P E => ∃ nd : D, ds = [nd] ∧ nameLike nd ∧ P (.bl (validD nd)) O
def N_valid_name : List Str := ["name", "sign"]
def T_valid_name_0 : DS := (dRet (dCB fAll (dCons (dLc (dItS (dVar 0)) (dgN 1) dYes (dOp fInS (dVar 1) (dC (.str "abcdefghijklmnopqrstuvwxyz"))) [1]) dNil)))
def T_valid_name : DS := (dSeq (dIfS (dOr (dNot (dTe (dIsB "str" (dVar 0)))) (dOr (dNot (dTe (dChain fLe fLe (dC (.int 1)) (dCB fLen (dCons (dVar 0) dNil)) (dC (.int 12))))) (dTe (dInK ["rank", "trim", "weigh", "together"] (dVar 0))))) (dRet (dC (.bl false))) dNext) T_valid_name_0)

theorem pure_valid_name : Pure N_valid_name 1 S_valid_name T_valid_name := by
  rintro ds O P E ⟨nd, rfl, h, k⟩
  refine ⟨rfl, Opn.now ?_⟩
  have hs : startD N_valid_name [nd] = [some nd, none] := rfl
  rw [hs]
  unfold T_valid_name
  rcases h with ⟨z, rfl, hz⟩ | rfl | ⟨i, rfl⟩ | ⟨es, rfl⟩
  · have hl : lenD O (.str z) = some z.length := by simp only [lenD]; rw [if_pos (by rw [sizeLine_eq]; omega)]
    have hsz : fLen [.str z] O = fun P => P (.int (z.length : Int)) O := by funext P; show (match lenD O (.str z) with | some n => P (.int (n : Int)) O | none => False) = _; rw [hl]
    push_cast [tyD, hsz]
    have k : P (.bl (validB z)) O := k
    by_cases h1 : 1 ≤ (z.length : Int)
    · rw [if_pos h1]
      by_cases h2 : (z.length : Int) ≤ 12
      · push_cast [h2, decide_true]
        have eb : ([("rank" : Str), "trim", "weigh", "together"] : List Str) = barred := rfl
        rw [eb]
        by_cases hb : z ∈ barred
        · have e : validB z = false := by simp [validB, hb]
          rw [if_pos hb, ← e]
          exact weak_now k
        · rw [if_neg hb]
          unfold T_valid_name_0
          push_cast [e_itS]
          have hcl : z.cps.toList.length ≤ 1000 := by have : z.cps.size = z.length := rfl; simp; omega
          refine ⟨by rw [Array.length_toList] at *; omega, fun p hp => lc_map (fun c => D.bl (decide (c ∈ abcL))) (fun c hc acc C h => ?_) ?_⟩
          · unfold lcStep
            push_cast [fInSQ, inB2]
            exact h
          have em : z.cps.toList.map (fun c => D.bl (decide (c ∈ abcL))) = (z.cps.toList.map fun c => decide (c ∈ abcL)).map D.bl := by rw [List.map_map]; rfl
          rw [em]
          push_cast
          have e : (z.cps.toList.map fun c => decide (c ∈ abcL)).all id = validB z := by
            have h12 : 1 ≤ z.length ∧ z.length ≤ 12 := by omega
            simp only [validB, hb, h12, List.all_map, decide_true, decide_false, Bool.not_false, Bool.true_and, and_self]
            rfl
          rw [e]
          exact weak_now k
      · have e : validB z = false := by
          have : ¬ (z.length ≤ 12) := by omega
          simp [validB, this]
        push_cast [h2, decide_false]
        rw [← e]
        exact weak_now k
    · have e : validB z = false := by
        have h : z.length = 0 := by omega
        simp [validB, h]
      rw [if_neg h1]
      push_cast
      rw [← e]
      exact weak_now k
  · push_cast [tyD]
    exact weak_now k
  · push_cast [tyD]
    exact weak_now k
  · have kt : kitB "tuple" "str" = some false := by decide +kernel
    push_cast [kt]
    exact weak_now k
theorem nameLike_ok {z : Str} (h : okN z) : nameLike (.str z) := .inl ⟨z, rfl, by have := h.len; omega⟩
def S_Gauge_init : DSp := fun ds O P E => ∃ (q : Addr) (nd : D) (r : Int) (c : Cl), ds = [.ptr q, nd, .int r] ∧ nameLike nd ∧ c ∈ gaugeCs ∧ getC O q = some (.ins c [] []) ∧ (validD nd = true ∧ 0 ≤ r → P .non (setC O q (.ins c [.name, .radius] [nd, .int r]))) ∧ (¬ (validD nd = true ∧ 0 ≤ r) → E ⟨.BadGauge, [.name], [nd]⟩ O)
def N_Gauge_init : List Str := ["self", "name", "radius"]
def T_Gauge_init_0 : DS := (dSetF [.Gauge, .CoarseGauge, .LateGauge, .LateCoarseGauge] .radius (dVar 0) (dVar 2))
def T_Gauge_init_1 : DS := (dSeq (dSetF [.Gauge, .CoarseGauge, .LateGauge, .LateCoarseGauge] .name (dVar 0) (dVar 1)) T_Gauge_init_0)
def T_Gauge_init : DS := (dSeq (dIfS (dOr (dNot (dTe (dCall S_valid_name (dCons (dVar 1) dNil)))) (dTe (dOp fLt (dVar 2) (dC (.int 0))))) (dRaise .BadGauge [.name] (dCons (dVar 1) dNil)) dNext) T_Gauge_init_1)

theorem pure_Gauge_init : Pure N_Gauge_init 3 S_Gauge_init T_Gauge_init := by
  rintro ds O P E ⟨q, nd, r, c, rfl, hn, hc, gq, k, kx⟩
  refine ⟨rfl, Opn.now ?_⟩
  have hs : startD N_Gauge_init [.ptr q, nd, .int r] = [some (.ptr q), some nd, some (.int r)] := rfl
  rw [hs]
  have gx : ∀ z, getC (setC O q z) q = some z := fun z => getC_setC gq
  unfold T_Gauge_init
  push_cast
  refine ⟨nd, rfl, hn, ?_⟩
  cases ev : validD nd with
  | false =>
    push_cast
    exact ⟨by decide, weak_now (kx (by rw [ev]; simp))⟩
  | true =>
    push_cast
    by_cases hr : r < 0
    · rw [if_pos hr]
      push_cast
      exact ⟨by decide, weak_now (kx (by omega))⟩
    · rw [if_neg hr]
      unfold T_Gauge_init_1
      push_cast [gq]
      refine ⟨hc, by decide, ?_⟩
      unfold T_Gauge_init_0
      push_cast [gx, setC_setC]
      exact ⟨hc, by decide, weak_now (k ⟨ev, by omega⟩)⟩
def S_CoarseGauge_init : DSp := fun ds O P E => ∃ (q : Addr) (nd : D) (r st : Int), ds = [.ptr q, nd, .int r, .int st] ∧ nameLike nd ∧ getC O q = some (.ins .CoarseGauge [] []) ∧ (validD nd = true ∧ 0 ≤ r ∧ 1 ≤ st → P .non (setC O q (.ins .CoarseGauge [.name, .radius, .step] [nd, .int r, .int st]))) ∧ (¬ (validD nd = true ∧ 0 ≤ r ∧ 1 ≤ st) → ∀ z, E ⟨.BadGauge, [.name], [nd]⟩ (setC O q z))
def N_CoarseGauge_init : List Str := ["self", "name", "radius", "step", "__class__"]
def T_CoarseGauge_init_0 : DS := (dSetF [.CoarseGauge, .LateCoarseGauge] .step (dVar 0) (dVar 3))
def T_CoarseGauge_init_1 : DS := (dSeq (dIfS (dTe (dOp fLt (dVar 3) (dC (.int 1)))) (dRaise .BadGauge [.name] (dCons (dVar 1) dNil)) dNext) T_CoarseGauge_init_0)
def T_CoarseGauge_init : DS := (dSeq (dExp (dMeth [(.CoarseGauge, S_Gauge_init)] (dVar 0) (dCons (dVar 1) (dCons (dVar 2) dNil)))) T_CoarseGauge_init_1)

theorem setC_same' {O : Sto} {q : Addr} {z : Cell} (h : getC O q = some z) : setC O q z = O := setC_same h
theorem pure_CoarseGauge_init : Pure N_CoarseGauge_init 4 S_CoarseGauge_init T_CoarseGauge_init := by
  rintro ds O P E ⟨q, nd, r, st, rfl, hn, gq, k, kx⟩
  refine ⟨rfl, Opn.now ?_⟩
  have hs : startD N_CoarseGauge_init [.ptr q, nd, .int r, .int st] = [some (.ptr q), some nd, some (.int r), some (.int st), none] := rfl
  rw [hs]
  have gx : ∀ z, getC (setC O q z) q = some z := fun z => getC_setC gq
  have cl : clsOf O (.ptr q) = some .CoarseGauge := clsP gq
  unfold T_CoarseGauge_init
  push_cast
  rw [cl]
  push_cast
  refine ⟨q, nd, r, .CoarseGauge, rfl, hn, by decide, gq, fun hv => ?_, fun hv => ?_⟩
  · unfold T_CoarseGauge_init_1
    push_cast
    by_cases hst : st < 1
    · rw [if_pos hst]
      push_cast
      exact ⟨by decide, weak_now (kx (by omega) _)⟩
    · rw [if_neg hst]
      unfold T_CoarseGauge_init_0
      push_cast [gx, setC_setC]
      exact ⟨by decide, by decide, weak_now (k ⟨hv.1, hv.2, by omega⟩)⟩
  · have := kx (fun z => hv ⟨z.1, z.2.1⟩) (.ins .CoarseGauge [] [])
    rw [setC_same gq] at this
    exact weak_now this
def S_LateGauge_init : DSp := fun ds O P E => ∃ (q : Addr) (nd : D) (r la pa : Int) (c : Cl), ds = [.ptr q, nd, .int r, .int la, .int pa] ∧ nameLike nd ∧ (c = .LateGauge ∨ c = .LateCoarseGauge) ∧ getC O q = some (.ins c [] []) ∧ (validD nd = true ∧ 0 ≤ r ∧ 0 ≤ la ∧ 0 ≤ pa → P .non (setC O q (.ins c [.name, .radius, .late, .pace] [nd, .int r, .int la, .int pa]))) ∧ (¬ (validD nd = true ∧ 0 ≤ r ∧ 0 ≤ la ∧ 0 ≤ pa) → ∀ z, E ⟨.BadGauge, [.name], [nd]⟩ (setC O q z))
def N_LateGauge_init : List Str := ["self", "name", "radius", "late", "pace"]
def T_LateGauge_init_0 : DS := (dSetF [.LateGauge, .LateCoarseGauge] .pace (dVar 0) (dVar 4))
def T_LateGauge_init_1 : DS := (dSeq (dSetF [.LateGauge, .LateCoarseGauge] .late (dVar 0) (dVar 3)) T_LateGauge_init_0)
def T_LateGauge_init_2 : DS := (dSeq (dIfS (dOr (dTe (dOp fLt (dVar 3) (dC (.int 0)))) (dTe (dOp fLt (dVar 4) (dC (.int 0))))) (dRaise .BadGauge [.name] (dCons (dVar 1) dNil)) dNext) T_LateGauge_init_1)
def T_LateGauge_init : DS := (dSeq (dExp (dCall S_Gauge_init (dCons (dVar 0) (dCons (dVar 1) (dCons (dVar 2) dNil))))) T_LateGauge_init_2)

theorem pure_LateGauge_init : Pure N_LateGauge_init 5 S_LateGauge_init T_LateGauge_init := by
  rintro ds O P E ⟨q, nd, r, la, pa, c, rfl, hn, hc, gq, k, kx⟩
  refine ⟨rfl, Opn.now ?_⟩
  have hs : startD N_LateGauge_init [.ptr q, nd, .int r, .int la, .int pa] = [some (.ptr q), some nd, some (.int r), some (.int la), some (.int pa)] := rfl
  rw [hs]
  have gx : ∀ z, getC (setC O q z) q = some z := fun z => getC_setC gq
  have hc1 : c ∈ gaugeCs := by rcases hc with rfl | rfl <;> decide
  have hc2 : c ∈ [Cl.LateGauge, Cl.LateCoarseGauge] := by rcases hc with rfl | rfl <;> decide
  unfold T_LateGauge_init
  push_cast
  refine ⟨q, nd, r, c, rfl, hn, hc1, gq, fun hv => ?_, fun hv => ?_⟩
  · unfold T_LateGauge_init_2
    push_cast
    by_cases h1 : la < 0
    · rw [if_pos h1]
      push_cast
      exact ⟨by decide, weak_now (kx (by omega) _)⟩
    · rw [if_neg h1]
      by_cases h2 : pa < 0
      · rw [if_pos h2]
        push_cast
        exact ⟨by decide, weak_now (kx (by omega) _)⟩
      · rw [if_neg h2]
        unfold T_LateGauge_init_1
        push_cast [gx, setC_setC]
        refine ⟨hc2, by decide, ?_⟩
        unfold T_LateGauge_init_0
        push_cast [gx, setC_setC]
        exact ⟨hc2, by decide, weak_now (k ⟨hv.1, hv.2, by omega, by omega⟩)⟩
  · have := kx (fun z => hv ⟨z.1, z.2.1⟩) (.ins c [] [])
    rw [setC_same gq] at this
    exact weak_now this
def S_LateCoarseGauge_init : DSp := fun ds O P E => ∃ (q : Addr) (nd : D) (r st la pa : Int), ds = [.ptr q, nd, .int r, .int st, .int la, .int pa] ∧ nameLike nd ∧ getC O q = some (.ins .LateCoarseGauge [] []) ∧ (validD nd = true ∧ 0 ≤ r ∧ 0 ≤ la ∧ 0 ≤ pa ∧ 1 ≤ st → P .non (setC O q (.ins .LateCoarseGauge [.name, .radius, .late, .pace, .step] [nd, .int r, .int la, .int pa, .int st]))) ∧ (¬ (validD nd = true ∧ 0 ≤ r ∧ 0 ≤ la ∧ 0 ≤ pa ∧ 1 ≤ st) → ∀ z, E ⟨.BadGauge, [.name], [nd]⟩ (setC O q z))
def N_LateCoarseGauge_init : List Str := ["self", "name", "radius", "step", "late", "pace"]
def T_LateCoarseGauge_init_0 : DS := (dSetF [.CoarseGauge, .LateCoarseGauge] .step (dVar 0) (dVar 3))
def T_LateCoarseGauge_init_1 : DS := (dSeq (dIfS (dTe (dOp fLt (dVar 3) (dC (.int 1)))) (dRaise .BadGauge [.name] (dCons (dVar 1) dNil)) dNext) T_LateCoarseGauge_init_0)
def T_LateCoarseGauge_init : DS := (dSeq (dExp (dCallK 3 2 [0, 1] S_LateGauge_init (dCons (dVar 0) (dCons (dVar 1) (dCons (dVar 2) dNil))) (dCons (dVar 4) (dCons (dVar 5) dNil)))) T_LateCoarseGauge_init_1)

theorem pure_LateCoarseGauge_init : Pure N_LateCoarseGauge_init 6 S_LateCoarseGauge_init T_LateCoarseGauge_init := by
  rintro ds O P E ⟨q, nd, r, st, la, pa, rfl, hn, gq, k, kx⟩
  refine ⟨rfl, Opn.now ?_⟩
  have hs : startD N_LateCoarseGauge_init [.ptr q, nd, .int r, .int st, .int la, .int pa] = [some (.ptr q), some nd, some (.int r), some (.int st), some (.int la), some (.int pa)] := rfl
  rw [hs]
  have gx : ∀ z, getC (setC O q z) q = some z := fun z => getC_setC gq
  unfold T_LateCoarseGauge_init
  push_cast
  refine ⟨q, nd, r, la, pa, .LateCoarseGauge, rfl, hn, .inr rfl, gq, fun hv => ?_, fun hv z => ⟨_, Weak.refl _, kx (fun w => hv ⟨w.1, w.2.1, w.2.2.1, w.2.2.2.1⟩) z⟩⟩
  unfold T_LateCoarseGauge_init_1
  push_cast
  by_cases h1 : st < 1
  · rw [if_pos h1]
    push_cast
    exact ⟨by decide, weak_now (kx (by omega) _)⟩
  · rw [if_neg h1]
    unfold T_LateCoarseGauge_init_0
    push_cast [gx, setC_setC]
    exact ⟨by decide, by decide, weak_now (k ⟨hv.1, hv.2.1, hv.2.2.1, hv.2.2.2, by omega⟩)⟩
def S_law_specs : DSp := fun ds O P E => ∃ (b : Addr) (ws : List Str), ds = [.ptr b, .lst (ws.map D.str)] ∧ getC O b = some .box ∧ ws.length ≤ 100 ∧ (∀ w ∈ ws, okN w) ∧ ∀ gs : List Gs, gs.map (·.name) = ws → (∀ s ∈ gs, okG s ∧ s.late ≤ 2 ∧ s.radius ≤ 10 ^ 8 ∧ s.step ≤ 10 ^ 8 ∧ s.pace ≤ 10 ^ 8) → ∀ p, freshC O p → P (.ptr p) ((p, .lst (gs.map specD)) :: O)
def N_law_specs : List Str := ["_law_box_here", "_law_words_here", "_law_unit", "_law_wide", "_law_specs_here", "_law_word_here", "_law_sort", "_law_grain", "_law_drift"]
def T_law_specs_0 : DS := (dExp (dApp (dVar 4) (dTup (dCons (dVar 5) (dCons (dVar 6) (dCons (dOp fMul (dVar 2) (dCall S_law_take (dCons (dVar 0) (dCons (dVar 3) dNil)))) (dCons (dVar 7) (dCons (dCall S_law_take (dCons (dVar 0) (dCons (dC (.int 3)) dNil))) (dCons (dVar 8) dNil)))))))))
def T_law_specs_1 : DS := (dSeq (dAsg 8 (dOp fMul (dVar 2) (dCall S_law_take (dCons (dVar 0) (dCons (dVar 3) dNil))))) T_law_specs_0)
def T_law_specs_2 : DS := (dSeq (dAsg 7 (dOp fAdd (dC (.int 1)) (dOp fMul (dVar 2) (dCall S_law_take (dCons (dVar 0) (dCons (dVar 3) dNil)))))) T_law_specs_1)
def T_law_specs_3 : DS := (dSeq (dAsg 6 (dOp fIx (dLst (dCons (dC (.int 0)) (dCons (dC (.int 0)) (dCons (dC (.int 1)) (dCons (dC (.int 2)) (dCons (dC (.int 3)) dNil)))))) (dCall S_law_take (dCons (dVar 0) (dCons (dC (.int 5)) dNil))))) T_law_specs_2)
def T_law_specs_4 : DS := (dSeq (dFor (dItL (dVar 1)) (dgN 5) T_law_specs_3) (dRet (dVar 4)))
def T_law_specs_5 : DS := (dSeq (dAsg 3 (dOp fIx (dLst (dCons (dC (.int 1)) (dCons (dC (.int 4)) (dCons (dC (.int 30)) dNil)))) (dCall S_law_take (dCons (dVar 0) (dCons (dC (.int 3)) dNil))))) (dSeq (dAsg 4 (dLstO dNil)) T_law_specs_4))
def T_law_specs : DS := (dSeq (dAsg 2 (dOp fIx (dLst (dCons (dC (.int 1)) (dCons (dC (.int 1)) (dCons (dC (.int 1)) (dCons (dOp fPow (dC (.int 10)) (dC (.int 6))) dNil))))) (dCall S_law_take (dCons (dVar 0) (dCons (dC (.int 4)) dNil))))) T_law_specs_5)

theorem five {a b c d e : D} {O : Sto} {P : KD} {r : Int} (h0 : 0 ≤ r) (h5 : r < 5) (ha : P a O) (hb : P b O) (hc : P c O) (hd : P d O) (he : P e O) : (match atI [a, b, c, d, e] r with | some d => P d O | none => False) := by
  have e : r = 0 ∨ r = 1 ∨ r = 2 ∨ r = 3 ∨ r = 4 := by omega
  rcases e with rfl | rfl | rfl | rfl | rfl
  · exact ha
  · exact hb
  · exact hc
  · exact hd
  · exact he
theorem three {a b c : D} {O : Sto} {P : KD} {r : Int} (h0 : 0 ≤ r) (h5 : r < 3) (ha : P a O) (hb : P b O) (hc : P c O) : (match atI [a, b, c] r with | some d => P d O | none => False) := by
  have e : r = 0 ∨ r = 1 ∨ r = 2 := by omega
  rcases e with rfl | rfl | rfl
  · exact ha
  · exact hb
  · exact hc
theorem pure_law_specs : Pure N_law_specs 2 S_law_specs T_law_specs := by
  rintro ds O P E ⟨b, ws, rfl, hb, hl, hok, k⟩
  refine ⟨rfl, Opn.now ?_⟩
  have hs : startD N_law_specs [.ptr b, .lst (ws.map D.str)] = [some (.ptr b), some (.lst (ws.map D.str)), none, none, none, none, none, none, none] := rfl
  rw [hs]
  unfold T_law_specs
  push_cast
  refine ⟨⟨by omega, by omega, by decide⟩, b, _, rfl, hb, by omega, by omega, fun r h0 h1 => ?_⟩
  push_cast
  have e6 : (10 : Int) ^ Int.toNat 6 = 1000000 := by decide
  rw [e6]
  have main : ∀ u : Int, 1 ≤ u → u ≤ 1000000 → T_law_specs_5 (endsD P E) [some (.ptr b), some (.lst (ws.map D.str)), some (.int u), none, none, none, none, none, none] O := by
    intro u u1 u2
    unfold T_law_specs_5
    push_cast
    refine ⟨b, _, rfl, hb, by omega, by omega, fun r h0 h1 => ?_⟩
    push_cast
    have main2 : ∀ wd : Int, 1 ≤ wd → wd ≤ 30 → ∀ p, freshC O p → T_law_specs_4 (endsD P E) [some (.ptr b), some (.lst (ws.map D.str)), some (.int u), some (.int wd), some (.ptr p), none, none, none, none] ((p, Cell.lst []) :: O) := by
      intro wd w1 w2 p hp
      have gb : ∀ c, getC ((p, c) :: O) b = some .box := fun c => getC_fresh hb hp
      have hmul : ∀ v : Int, 0 ≤ v → v < wd → 0 ≤ u * v ∧ u * v ≤ 30000000 := fun v v0 v1 => by
        refine ⟨Int.mul_nonneg (by omega) v0, ?_⟩
        have := Int.mul_le_mul u2 (show v ≤ 30 by omega) v0 (show (0 : Int) ≤ 1000000 by omega)
        omega
      unfold T_law_specs_4
      push_cast
      refine for_inv2 (emb := D.str) (I := fun l Δ O1 => ∃ (gs : List Gs) (z5 z6 z7 z8 : Option D), gs.map (·.name) = l ∧ (∀ s ∈ gs, okG s ∧ s.late ≤ 2 ∧ s.radius ≤ 10 ^ 8 ∧ s.step ≤ 10 ^ 8 ∧ s.pace ≤ 10 ^ 8) ∧ O1 = (p, .lst (gs.map specD)) :: O ∧ Δ = [some (.ptr b), some (.lst (ws.map D.str)), some (.int u), some (.int wd), some (.ptr p), z5, z6, z7, z8]) ⟨[], none, none, none, none, rfl, (by intro s hs; cases hs), rfl, rfl⟩ ?_ ?_
      · rintro Δ O1 ⟨gs, z5, z6, z7, z8, hn, hg, rfl, rfl⟩
        push_cast
        exact weak_now (k gs hn hg p hp)
      · rintro l x r' e Δ O1 K ⟨gs, z5, z6, z7, z8, hn, hg, rfl, rfl⟩ hK
        have hll : gs.length ≤ ws.length := by
          have := congrArg List.length hn
          rw [List.length_map] at this
          rw [this, e]; simp
        have hx : okN x := hok x (by rw [e]; simp)
        push_cast
        unfold T_law_specs_3
        push_cast
        refine ⟨b, _, rfl, gb _, by omega, by omega, fun r2 h20 h21 => ?_⟩
        push_cast
        have main3 : ∀ so : Nat, so ≤ 3 → T_law_specs_2 { endsD P E with nx := K, ct := K, bk := (fun Δ' O' => (dRet (dVar 4)) (endsD P E) Δ' O') } [some (.ptr b), some (.lst (ws.map D.str)), some (.int u), some (.int wd), some (.ptr p), some (.str x), some (.int (so : Int)), z7, z8] ((p, .lst (gs.map specD)) :: O) := by
          intro so hso
          unfold T_law_specs_2
          push_cast
          refine ⟨b, _, rfl, gb _, by omega, by omega, fun v1 a0 a1 => ?_⟩
          obtain ⟨q0, q1⟩ := hmul v1 a0 a1
          push_cast
          refine ⟨.inl ⟨by omega, by omega⟩, ?_⟩
          unfold T_law_specs_1
          push_cast
          refine ⟨b, _, rfl, gb _, by omega, by omega, fun v2 b0 b1 => ?_⟩
          obtain ⟨q2, q3⟩ := hmul v2 b0 b1
          push_cast
          refine ⟨.inl ⟨by omega, by omega⟩, ?_⟩
          unfold T_law_specs_0
          push_cast
          refine ⟨b, _, rfl, gb _, by omega, by omega, fun v3 c0 c1 => ?_⟩
          obtain ⟨q4, q5⟩ := hmul v3 c0 c1
          push_cast
          refine ⟨.inl ⟨by omega, by omega⟩, b, _, rfl, gb _, by omega, by omega, fun v4 d0 d1 => ?_⟩
          push_cast
          refine ⟨by rw [sizeLine_eq]; omega, hK _ _ ⟨gs ++ [⟨x, so, u * v3, 1 + u * v1, v4, u * v2⟩], _, _, _, _, by rw [List.map_append, hn]; rfl, ?_, ?_, rfl⟩⟩
          · intro s hs
            rcases List.mem_append.mp hs with hs | hs
            · exact hg s hs
            · rw [List.mem_singleton.mp hs]
              exact ⟨⟨hx, hso, q4, by show 1 ≤ 1 + u * v1; omega, d0, q2, by show v4 < 2 ^ 64; omega⟩, by show v4 ≤ 2; omega, by show u * v3 ≤ 10 ^ 8; omega, by show 1 + u * v1 ≤ 10 ^ 8; omega, by show u * v2 ≤ 10 ^ 8; omega⟩
          · rw [List.map_append]; rfl
        exact five (P := fun d O => T_law_specs_2 { endsD P E with nx := K, ct := K, bk := (fun Δ' O' => (dRet (dVar 4)) (endsD P E) Δ' O') } [some (.ptr b), some (.lst (ws.map D.str)), some (.int u), some (.int wd), some (.ptr p), some (.str x), some d, z7, z8] O) h20 h21 (main3 0 (by omega)) (main3 0 (by omega)) (main3 1 (by omega)) (main3 2 (by omega)) (main3 3 (by omega))
    exact three (P := fun d O => ∀ p, freshC O p → T_law_specs_4 (endsD P E) [some (.ptr b), some (.lst (ws.map D.str)), some (.int u), some d, some (.ptr p), none, none, none, none] ((p, Cell.lst []) :: O)) h0 h1 (main2 1 (by omega) (by omega)) (main2 4 (by omega) (by omega)) (main2 30 (by omega) (by omega))
  exact four (P := fun d O => T_law_specs_5 (endsD P E) [some (.ptr b), some (.lst (ws.map D.str)), some d, none, none, none, none, none, none] O) h0 h1 (main _ (by omega) (by omega)) (main _ (by omega) (by omega)) (main _ (by omega) (by omega)) (main _ (by omega) (by omega))
theorem ix0 {s : Gs} {O : Sto} {P : KD} : fIx (specD s) (.int 0) O P = P (.str s.name) O := propext Iff.rfl
theorem ix1 {s : Gs} {O : Sto} {P : KD} : fIx (specD s) (.int 1) O P = P (.int (s.sort : Int)) O := propext Iff.rfl
theorem ix2 {s : Gs} {O : Sto} {P : KD} : fIx (specD s) (.int 2) O P = P (.int s.radius) O := propext Iff.rfl
theorem ix3 {s : Gs} {O : Sto} {P : KD} : fIx (specD s) (.int 3) O P = P (.int s.step) O := propext Iff.rfl
theorem ix4 {s : Gs} {O : Sto} {P : KD} : fIx (specD s) (.int 4) O P = P (.int s.late) O := propext Iff.rfl
theorem ix5 {s : Gs} {O : Sto} {P : KD} : fIx (specD s) (.int 5) O P = P (.int s.pace) O := propext Iff.rfl
theorem f_intB {b : Bool} {O : Sto} {P : KD} : fInt [.bl b] O P = P (.int (if b then 1 else 0)) O := propext Iff.rfl
def S_law_gauge : DSp := fun ds O P E => ∃ s : Gs, ds = [specD s] ∧ okG s ∧ P (gaugeD s) O
def N_law_gauge : List Str := ["_law_spec"]
def T_law_gauge_0 : DS := (dRet (dMakeKw .CoarseGauge 2 1 [0] S_CoarseGauge_init (dCons (dOp fIx (dVar 0) (dC (.int 0))) (dCons (dOp fIx (dVar 0) (dC (.int 2))) dNil)) (dCons (dOp fIx (dVar 0) (dC (.int 3))) dNil)))
def T_law_gauge_1 : DS := (dRet (dMakeKw .LateGauge 2 2 [0, 1] S_LateGauge_init (dCons (dOp fIx (dVar 0) (dC (.int 0))) (dCons (dOp fIx (dVar 0) (dC (.int 2))) dNil)) (dCons (dOp fIx (dVar 0) (dC (.int 4))) (dCons (dOp fIx (dVar 0) (dC (.int 5))) dNil))))
def T_law_gauge_2 : DS := (dRet (dMakeKw .LateCoarseGauge 2 3 [1, 2, 0] S_LateCoarseGauge_init (dCons (dOp fIx (dVar 0) (dC (.int 0))) (dCons (dOp fIx (dVar 0) (dC (.int 2))) dNil)) (dCons (dOp fIx (dVar 0) (dC (.int 5))) (dCons (dOp fIx (dVar 0) (dC (.int 3))) (dCons (dOp fIx (dVar 0) (dC (.int 4))) dNil)))))
def T_law_gauge_3 : DS := (dRet (dMake .Gauge S_Gauge_init (dCons (dOp fIx (dVar 0) (dC (.int 0))) (dCons (dOp fIx (dVar 0) (dC (.int 2))) dNil))))
def T_law_gauge_4 : DS := (dSeq (dIfS (dTe (dOp fEq (dOp fIx (dVar 0) (dC (.int 1))) (dC (.int 3)))) T_law_gauge_2 dNext) T_law_gauge_3)
def T_law_gauge_5 : DS := (dSeq (dIfS (dTe (dOp fEq (dOp fIx (dVar 0) (dC (.int 1))) (dC (.int 2)))) T_law_gauge_1 dNext) T_law_gauge_4)
def T_law_gauge : DS := (dSeq (dIfS (dTe (dOp fEq (dOp fIx (dVar 0) (dC (.int 1))) (dC (.int 1)))) T_law_gauge_0 dNext) T_law_gauge_5)

theorem mk_gauge {s : Gs} (h : okG s) (e : s.sort = 0) {O : Sto} {P : KD} {E : KX} (k : P (gaugeD s) O) : mkK .Gauge S_Gauge_init [.str s.name, .int s.radius] O P E := by
  intro q hq
  refine ⟨q, .str s.name, s.radius, .Gauge, rfl, nameLike_ok h.nm, by decide, getC_self, fun _ => ⟨rfl, ?_⟩, fun w => absurd ⟨valid_ok h.nm, h.ra⟩ w⟩
  rw [setC_self, getC_self, delC_self]
  simp only [gaugeD, clG, fsG, dsG, e] at k
  exact k
theorem mk_coarse {s : Gs} (h : okG s) (e : s.sort = 1) {O : Sto} {P : KD} {E : KX} (k : P (gaugeD s) O) : mkK .CoarseGauge S_CoarseGauge_init [.str s.name, .int s.radius, .int s.step] O P E := by
  intro q hq
  refine ⟨q, .str s.name, s.radius, s.step, rfl, nameLike_ok h.nm, getC_self, fun _ => ⟨rfl, ?_⟩, fun w => absurd ⟨valid_ok h.nm, h.ra, h.st⟩ w⟩
  rw [setC_self, getC_self, delC_self]
  simp only [gaugeD, clG, fsG, dsG, e] at k
  exact k
theorem mk_late {s : Gs} (h : okG s) (e : s.sort = 2) {O : Sto} {P : KD} {E : KX} (k : P (gaugeD s) O) : mkK .LateGauge S_LateGauge_init [.str s.name, .int s.radius, .int s.late, .int s.pace] O P E := by
  intro q hq
  refine ⟨q, .str s.name, s.radius, s.late, s.pace, .LateGauge, rfl, nameLike_ok h.nm, .inl rfl, getC_self, fun _ => ⟨rfl, ?_⟩, fun w => absurd ⟨valid_ok h.nm, h.ra, h.la, h.pa⟩ w⟩
  rw [setC_self, getC_self, delC_self]
  simp only [gaugeD, clG, fsG, dsG, e] at k
  exact k
theorem mk_lateCoarse {s : Gs} (h : okG s) (e : s.sort = 3) {O : Sto} {P : KD} {E : KX} (k : P (gaugeD s) O) : mkK .LateCoarseGauge S_LateCoarseGauge_init [.str s.name, .int s.radius, .int s.step, .int s.late, .int s.pace] O P E := by
  intro q hq
  refine ⟨q, .str s.name, s.radius, s.step, s.late, s.pace, rfl, nameLike_ok h.nm, getC_self, fun _ => ⟨rfl, ?_⟩, fun w => absurd ⟨valid_ok h.nm, h.ra, h.la, h.pa, h.st⟩ w⟩
  rw [setC_self, getC_self, delC_self]
  simp only [gaugeD, clG, fsG, dsG, e] at k
  exact k
theorem pure_law_gauge : Pure N_law_gauge 1 S_law_gauge T_law_gauge := by
  rintro ds O P E ⟨s, rfl, ok, k⟩
  refine ⟨rfl, Opn.now ?_⟩
  have hs : startD N_law_gauge [specD s] = [some (specD s)] := rfl
  rw [hs]
  unfold T_law_gauge
  push_cast [ix1]
  rcases sort4 ok with e | e | e | e
  · rw [if_neg (by omega)]
    unfold T_law_gauge_5
    push_cast [ix1]
    rw [if_neg (by omega)]
    unfold T_law_gauge_4
    push_cast [ix1]
    rw [if_neg (by omega)]
    unfold T_law_gauge_3
    push_cast [ix0, ix2]
    exact mk_gauge ok e (weak_now k)
  · rw [if_pos (by omega)]
    unfold T_law_gauge_0
    push_cast [ix0, ix2, ix3]
    exact mk_coarse ok e (weak_now k)
  · rw [if_neg (by omega)]
    unfold T_law_gauge_5
    push_cast [ix1]
    rw [if_pos (by omega)]
    unfold T_law_gauge_1
    push_cast [ix0, ix2, ix4, ix5]
    exact mk_late ok e (weak_now k)
  · rw [if_neg (by omega)]
    unfold T_law_gauge_5
    push_cast [ix1]
    rw [if_neg (by omega)]
    unfold T_law_gauge_4
    push_cast [ix1]
    rw [if_pos (by omega)]
    unfold T_law_gauge_2
    push_cast [ix0, ix2, ix3, ix4, ix5]
    exact mk_lateCoarse ok e (weak_now k)
/-! ### numbers as texts -/
def numZ (i : Int) : Str := Str.ofString (toString i)
def dgtL : List Nat := ("0123456789" : Str).cps.toList
theorem mem_dgtL {c : Nat} : c ∈ dgtL ↔ 48 ≤ c ∧ c ≤ 57 := by
  have e : dgtL = [48, 49, 50, 51, 52, 53, 54, 55, 56, 57] := by decide
  rw [e]
  simp only [List.mem_cons, List.not_mem_nil, or_false]
  omega
def readN (w : Str) : Option Int := if (1 ≤ w.length ∧ w.length ≤ 18) ∧ (∀ c ∈ w.cps.toList, 48 ≤ c ∧ c ≤ 57) ∧ ¬ (w.cps.toList.head? = some 48 ∧ 1 < w.length) then some ((PySem.NumText.digitsVal w.cps.toList : Nat) : Int) else none
theorem numZ_signs (m : Nat) : (numZ (m : Int)).cps.toList = (Nat.toDigits 10 m).map Char.toNat := PySem.W.KIN.signs_num m
theorem numZ_digits (m : Nat) : ∀ c ∈ (numZ (m : Int)).cps.toList, 48 ≤ c ∧ c ≤ 57 := by
  intro c hc
  rw [numZ_signs] at hc
  obtain ⟨ch, hch, e⟩ := List.mem_map.mp hc
  have r := PyProof.Rows.digit_range (Nat.isDigit_of_mem_toDigits (by decide) (by decide) hch)
  rw [← e]
  exact r
theorem toDigits_ne (m : Nat) : Nat.toDigits 10 m ≠ [] := by
  intro e
  have := Nat.length_toDigits_pos (b := 10) (n := m)
  rw [e] at this
  simp at this
theorem toDigits_head : ∀ m : Nat, m ≠ 0 → (Nat.toDigits 10 m).head? ≠ some '0' := by
  intro m
  induction m using Nat.strongRecOn with
  | _ m ih =>
    intro h0
    by_cases h : m < 10
    · rw [Nat.toDigits_of_lt_base h]
      have : ∀ d < 10, d ≠ 0 → Nat.digitChar d ≠ '0' := by decide
      have := this m h h0
      simpa using this
    · have hm : m % 10 < 10 := Nat.mod_lt m (by decide)
      have t : Nat.toDigits 10 (m / 10) ++ Nat.toDigits 10 (m % 10) = Nat.toDigits 10 (10 * (m / 10) + m % 10) := Nat.toDigits_append_toDigits (by decide) (by omega) hm
      rw [Nat.div_add_mod] at t
      rw [← t, List.head?_append]
      have ih := ih (m / 10) (by omega) (by omega)
      cases e : Nat.toDigits 10 (m / 10) with
      | nil => exact absurd e (toDigits_ne _)
      | cons a r =>
        rw [e] at ih
        simpa using ih
theorem numZ_len {m : Nat} (h : m < 10 ^ 18) : (numZ (m : Int)).length ≤ 18 := PyProof.Rows.toString_length_le (by omega) (by omega) (by omega)
theorem readN_num {m : Nat} (h : m < 10 ^ 18) : readN (numZ (m : Int)) = some (m : Int) := by
  have e := numZ_signs m
  have hl : (numZ (m : Int)).length = (Nat.toDigits 10 m).length := by
    have : (numZ (m : Int)).cps.toList.length = (numZ (m : Int)).length := Array.length_toList
    rw [← this, e, List.length_map]
  have hp := Nat.length_toDigits_pos (b := 10) (n := m)
  unfold readN
  have hno : ¬ ((numZ (m : Int)).cps.toList.head? = some 48 ∧ 1 < (numZ (m : Int)).length) := fun q => by
    obtain ⟨q1, q2⟩ := q
    rw [e] at q1
    by_cases h0 : m = 0
    · subst h0
      have : Nat.toDigits 10 0 = ['0'] := rfl
      rw [hl, this] at q2
      simp at q2
    · have := toDigits_head m h0
      cases ed : Nat.toDigits 10 m with
      | nil => exact toDigits_ne m ed
      | cons a r =>
        rw [ed] at this q1
        simp only [List.map_cons, List.head?_cons, Option.some.injEq] at q1 this
        refine this (congrArg some (Char.toNat_inj.mp ?_))
        rw [q1]
        rfl
  rw [if_pos ⟨⟨by omega, numZ_len h⟩, numZ_digits m, hno⟩, e, PySem.W.KIN.val_back]
theorem feqTx {O : Sto} {P : KD} {a b : Str} {v : Bool} (h : decide (a = b) = v) (p : P (.bl v) O) : fEq (.str a) (.str b) O P := by
  subst h
  exact p
theorem fneTx {O : Sto} {P : KD} {a b : Str} {v : Bool} (h : decide (a = b) = v) (p : P (.bl (!v)) O) : fNe (.str a) (.str b) O P := by
  subst h
  exact p
def S_read_number : DSp := fun ds O P E => ∃ w t : Str, ds = [.str w, .str t] ∧ w.length ≤ 100000 ∧ (∀ n, readN w = some n → P (.int n) O) ∧ (readN w = none → E ⟨.BadText, [.text], [.str t]⟩ O)
def N_read_number : List Str := ["word", "text", "sign"]
def T_read_number_0 : DS := (dSeq (dIfS (dAnd (dTe (dOp fEq (dOp fIx (dVar 0) (dC (.int 0))) (dC (.str "0")))) (dTe (dOp fGt (dCB fLen (dCons (dVar 0) dNil)) (dC (.int 1))))) (dRaise .BadText [.text] (dCons (dVar 1) dNil)) dNext) (dRet (dCB fIntS (dCons (dVar 0) dNil))))
def T_read_number : DS := (dSeq (dIfS (dOr (dNot (dTe (dChain fLe fLe (dC (.int 1)) (dCB fLen (dCons (dVar 0) dNil)) (dC (.int 18))))) (dNot (dTe (dCB fAll (dCons (dLc (dItS (dVar 0)) (dgN 2) dYes (dOp fInS (dVar 2) (dC (.str "0123456789"))) [2]) dNil))))) (dRaise .BadText [.text] (dCons (dVar 1) dNil)) dNext) T_read_number_0)

theorem pure_read_number : Pure N_read_number 2 S_read_number T_read_number := by
  rintro ds O P E ⟨w, t, rfl, hw, k, kx⟩
  refine ⟨rfl, Opn.now ?_⟩
  have hs : startD N_read_number [.str w, .str t] = [some (.str w), some (.str t), none] := rfl
  rw [hs]
  unfold T_read_number
  have hl : lenD O (.str w) = some w.length := by simp only [lenD]; rw [if_pos (by rw [sizeLine_eq]; omega)]
  have hsz : ∀ O : Sto, fLen [.str w] O = fun P => P (.int (w.length : Int)) O := by intro O; funext P; have hl : lenD O (.str w) = some w.length := (by simp only [lenD]; rw [if_pos (by rw [sizeLine_eq]; omega)]); show (match lenD O (.str w) with | some n => P (.int (n : Int)) O | none => False) = _; rw [hl]
  push_cast [hsz]
  have bad : ∀ O1 : Sto, O1 = O → readN w = none → 0 + 1 ≤ 9 ∧ (endsD P E).xc ⟨.BadText, [.text], [.str t]⟩ [some (.str w), some (.str t), none] O1 := fun O1 e h => by
    subst e
    exact ⟨by decide, weak_now (kx h)⟩
  by_cases h1 : 1 ≤ (w.length : Int)
  · rw [if_pos h1]
    by_cases h2 : (w.length : Int) ≤ 18
    · rw [decide_eq_true h2, if_neg (by decide)]
      have hcl : w.cps.toList.length = w.length := Array.length_toList
      refine ⟨by omega, fun p hp => lc_map (fun c => D.bl (decide (c ∈ dgtL))) (fun c hc acc C h => ?_) ?_⟩
      · unfold lcStep
        push_cast [fInSQ, inB2]
        exact h
      have em : w.cps.toList.map (fun c => D.bl (decide (c ∈ dgtL))) = (w.cps.toList.map fun c => decide (c ∈ dgtL)).map D.bl := by rw [List.map_map]; rfl
      rw [em]
      push_cast
      by_cases h3 : ∀ c ∈ w.cps.toList, 48 ≤ c ∧ c ≤ 57
      · have ha : (w.cps.toList.map fun c => decide (c ∈ dgtL)).all id = true := by
          rw [List.all_map, List.all_eq_true]
          exact fun c hc => decide_eq_true (mem_dgtL.mpr (h3 c hc))
        rw [ha, if_neg (by decide)]
        unfold T_read_number_0
        push_cast [hsz]
        obtain ⟨c0, r0, e0⟩ : ∃ c0 r0, w.cps.toList = c0 :: r0 := by
          cases e : w.cps.toList with
          | nil => rw [e] at hcl; simp at hcl; omega
          | cons c r => exact ⟨c, r, rfl⟩
        refine ⟨by rw [sizeLine_eq]; omega, ?_⟩
        rw [e0, show atI (c0 :: r0) 0 = some c0 from atI_nat (j := 0) rfl]
        have z0 : ("0" : Str) = ⟨#[48]⟩ := by decide
        have num : readN w = some ((PySem.NumText.digitsVal w.cps.toList : Nat) : Int) → fIntS [D.str w] O (endsD P E).rt := fun h => by
          show (match PySem.intText? w with | some n => w.length ≤ 640 ∧ (endsD P E).rt (.int n) O | none => False)
          rw [PySem.intText_digits h3 (by rw [e0]; simp) (by omega)]
          exact ⟨by omega, weak_now (k _ h)⟩
        have hh : w.cps.toList.head? = some c0 := by rw [e0]; rfl
        by_cases h4 : c0 = 48
        · refine feqTx (v := true) (by rw [h4, z0]; exact decide_eq_true rfl) ?_
          push_cast
          by_cases h5 : 1 < (w.length : Int)
          · rw [if_pos h5]
            exact bad O rfl (by unfold readN; rw [if_neg fun q => q.2.2 ⟨by rw [hh, h4], by omega⟩])
          · rw [if_neg h5]
            exact num (by unfold readN; rw [if_pos ⟨⟨by omega, by omega⟩, h3, fun q => h5 (by omega)⟩])
        · refine feqTx (v := false) (decide_eq_false fun q => h4 ?_) ?_
          · rw [z0] at q
            injection q with q
            have := congrArg Array.toList q
            simpa using this
          · push_cast
            exact num (by unfold readN; rw [if_pos ⟨⟨by omega, by omega⟩, h3, fun q => h4 (by rw [hh] at q; exact Option.some.inj q.1)⟩])
      · have ha : (w.cps.toList.map fun c => decide (c ∈ dgtL)).all id = false := by
          rw [List.all_map, List.all_eq_false]
          obtain ⟨c, hc⟩ := Classical.not_forall.mp h3
          obtain ⟨hc, hn⟩ := Classical.not_imp.mp hc
          exact ⟨c, hc, by simpa using fun q => hn (mem_dgtL.mp q)⟩
        rw [ha, if_pos (by decide)]
        exact bad O rfl (by unfold readN; rw [if_neg fun q => h3 q.2.1])
    · rw [decide_eq_false h2, if_pos (by decide)]
      exact bad O rfl (by unfold readN; rw [if_neg fun q => h2 (by have := q.1.2; omega)])
  · rw [if_neg h1]
    exact bad O rfl (by unfold readN; rw [if_neg fun q => h1 (by have := q.1.1; omega)])
theorem enum_mapN {α : Type} (f : α → D) (xs : List α) : (xs.map f).mapIdx (fun i x => D.tup [.int (i : Int), x]) = xs.zipIdx.map fun q => D.tup [.int (q.2 : Int), f q.1] := by
  rw [List.mapIdx_eq_zipIdx_map, List.zipIdx_map, List.map_map]
  rfl
def numsA : List Str → List Str → Option (List Int)
  | [], [] => some []
  | w :: v :: r, l :: ls => if w = l then (match readN v with | some n => (numsA r ls).map (n :: ·) | none => none) else none
  | _, _ => none
theorem numsA_cons {w v l : Str} {r ls : List Str} : numsA (w :: v :: r) (l :: ls) = if w = l then (match readN v with | some n => (numsA r ls).map (n :: ·) | none => none) else none := rfl
theorem numsA_len : ∀ {ws ls : List Str} {ns : List Int}, numsA ws ls = some ns → ws.length = 2 * ls.length ∧ ns.length = ls.length
  | [], [], ns, h => by
    cases h
    exact ⟨rfl, rfl⟩
  | [], l :: ls, ns, h => by cases h
  | [w], ls, ns, h => by cases ls <;> cases h
  | w :: v :: r, [], ns, h => by cases h
  | w :: v :: r, l :: ls, ns, h => by
    unfold numsA at h
    by_cases c : w = l
    · rw [if_pos c] at h
      cases e : readN v with
      | none => rw [e] at h; cases h
      | some n =>
        rw [e] at h
        cases e2 : numsA r ls with
        | none => rw [e2] at h; cases h
        | some ms =>
          rw [e2] at h
          cases h
          obtain ⟨h1, h2⟩ := numsA_len e2
          simp only [List.length_cons]
          omega
    · rw [if_neg c] at h
      cases h
def S_numbers_after : DSp := fun ds O P E => ∃ (ws ls : List Str) (t : Str), ds = [.lst (ws.map D.str), .tup (ls.map D.str), .str t] ∧ ws.length ≤ 100000 ∧ ls.length ≤ 1000 ∧ (∀ w ∈ ws, w.length ≤ 100000) ∧ (∀ ns, numsA ws ls = some ns → P (.lst (ns.map D.int)) O) ∧ (numsA ws ls = none → E ⟨.BadText, [.text], [.str t]⟩ O)
def N_numbers_after : List Str := ["words", "labels", "line", "numbers", "at", "label"]
def T_numbers_after_0 : DS := (dExp (dApp (dVar 3) (dCall S_read_number (dCons (dOp fIx (dVar 0) (dOp fAdd (dOp fMul (dC (.int 2)) (dVar 4)) (dC (.int 1)))) (dCons (dVar 2) dNil)))))
def T_numbers_after_1 : DS := (dSeq (dIfS (dTe (dOp fNe (dOp fIx (dVar 0) (dOp fMul (dC (.int 2)) (dVar 4))) (dVar 5))) (dRaise .BadText [.text] (dCons (dVar 2) dNil)) dNext) T_numbers_after_0)
def T_numbers_after_2 : DS := (dSeq (dFor (dEnumU (dCons (dVar 1) dNil)) (dgT [4, 5]) T_numbers_after_1) (dRet (dFrz (dVar 3))))
def T_numbers_after : DS := (dSeq (dIfS (dTe (dOp fNe (dCB fLen (dCons (dVar 0) dNil)) (dOp fMul (dC (.int 2)) (dCB fLen (dCons (dVar 1) dNil))))) (dRaise .BadText [.text] (dCons (dVar 2) dNil)) dNext) (dSeq (dAsg 3 (dLstO dNil)) T_numbers_after_2))

theorem pure_numbers_after : Pure N_numbers_after 3 S_numbers_after T_numbers_after := by
  rintro ds O P E ⟨ws, ls, t, rfl, hw, hls, hwl, k, kx⟩
  refine ⟨rfl, Opn.now ?_⟩
  have hs : startD N_numbers_after [.lst (ws.map D.str), .tup (ls.map D.str), .str t] = [some (.lst (ws.map D.str)), some (.tup (ls.map D.str)), some (.str t), none, none, none] := rfl
  rw [hs]
  unfold T_numbers_after
  push_cast
  refine ⟨.inl ⟨by omega, by omega⟩, ?_⟩
  by_cases hl : (ws.length : Int) = 2 * (ls.length : Int)
  · rw [decide_eq_true hl, if_neg (by decide)]
    intro p hp
    unfold T_numbers_after_2
    push_cast
    rw [enum_mapN]
    have hzl : ls.zipIdx.length = ls.length := List.length_zipIdx
    refine for_inv2 (emb := fun q : Str × Nat => D.tup [.int (q.2 : Int), .str q.1]) (I := fun m Δ O1 => ∃ (ns : List Int) (z4 z5 : Option D), ns.length = m.length ∧ O1 = (p, .lst (ns.map D.int)) :: O ∧ (numsA ws ls = (numsA (ws.drop (2 * m.length)) (ls.drop m.length)).map (ns ++ ·)) ∧ Δ = [some (.lst (ws.map D.str)), some (.tup (ls.map D.str)), some (.str t), some (.ptr p), z4, z5]) ⟨[], none, none, rfl, rfl, by simp, rfl⟩ ?_ ?_
    · rintro Δ O1 ⟨ns, z4, z5, e1, rfl, e2, rfl⟩
      rw [hzl] at e2
      have d1 : ws.drop (2 * ls.length) = [] := List.drop_eq_nil_of_le (by omega)
      have d2 : ls.drop ls.length = [] := List.drop_eq_nil_of_le (Nat.le_refl _)
      rw [d1, d2] at e2
      push_cast
      exact weak_now (k ns (by rw [e2]; simp [numsA]))
    · rintro m ⟨l, i⟩ r e Δ O1 K ⟨ns, z4, z5, e1, rfl, e2, rfl⟩ hK
      have hi : m.length < ls.length := by
        have := congrArg List.length e
        rw [hzl] at this
        simp at this
        omega
      have hat : ls.zipIdx[m.length]? = some (l, i) := by
        rw [e, List.getElem?_append_right (Nat.le_refl _)]
        simp
      rw [List.getElem?_zipIdx] at hat
      obtain ⟨l', hl', e9⟩ := Option.map_eq_some_iff.mp hat
      obtain ⟨rfl, rfl⟩ : l' = l ∧ i = m.length := by
        have h1 := congrArg Prod.fst e9
        have h2 := congrArg Prod.snd e9
        simp only at h1 h2
        exact ⟨h1, by omega⟩
      have ew : ws.drop (2 * m.length) = ws[2 * m.length]'(by omega) :: ws[2 * m.length + 1]'(by omega) :: ws.drop (2 * (m.length + 1)) := by
        rw [List.drop_eq_getElem_cons (by omega), List.drop_eq_getElem_cons (by omega)]
        congr 2
      have el : ls.drop m.length = l' :: ls.drop (m.length + 1) := by
        rw [List.drop_eq_getElem_cons hi]
        congr 1
        rw [List.getElem?_eq_getElem hi] at hl'
        exact Option.some.inj hl'
      rw [ew, el] at e2
      have hm1 : ws[2 * m.length]'(by omega) ∈ ws := List.getElem_mem _
      have hm2 : ws[2 * m.length + 1]'(by omega) ∈ ws := List.getElem_mem _
      have a1 : atI (ws.map D.str) (2 * (m.length : Int)) = some (.str (ws[2 * m.length]'(by omega))) := by
        rw [show (2 * (m.length : Int)) = ((2 * m.length : Nat) : Int) by omega]
        exact atI_nat (by rw [List.getElem?_map, List.getElem?_eq_getElem (by omega)]; rfl)
      have a2 : atI (ws.map D.str) (2 * (m.length : Int) + 1) = some (.str (ws[2 * m.length + 1]'(by omega))) := by
        rw [show (2 * (m.length : Int) + 1) = ((2 * m.length + 1 : Nat) : Int) by omega]
        exact atI_nat (by rw [List.getElem?_map, List.getElem?_eq_getElem (by omega)]; rfl)
      generalize ws[2 * m.length]'(by omega) = w at *
      generalize ws[2 * m.length + 1]'(by omega) = v at *
      push_cast
      unfold T_numbers_after_1
      push_cast [a1, a2]
      refine ⟨.inl ⟨by omega, by omega⟩, ?_⟩
      rw [numsA_cons] at e2
      by_cases c : w = l'
      · rw [if_pos c] at e2
        refine fneTx (v := true) (decide_eq_true c) ?_
        push_cast
        unfold T_numbers_after_0
        push_cast [a1, a2]
        refine ⟨.inl ⟨by omega, by omega⟩, v, t, rfl, hwl v hm2, fun n hn => ?_, fun hn => ?_⟩
        · rw [hn] at e2
          have gp : getC ((p, Cell.lst (ns.map D.int)) :: O) p = some (.lst (ns.map D.int)) := getC_self
          push_cast [gp]
          refine ⟨by rw [sizeLine_eq]; omega, ?_⟩
          refine hK _ _ ⟨ns ++ [n], _, _, by rw [List.length_append, List.length_append]; simp [e1], by simp [setC], ?_, rfl⟩
          rw [e2, List.length_append, List.length_singleton]
          cases numsA (ws.drop (2 * (m.length + 1))) (ls.drop (m.length + 1)) <;> simp
        · rw [hn] at e2
          exact ⟨O, Weak.cons, kx e2⟩
      · rw [if_neg c] at e2
        refine fneTx (v := false) (decide_eq_false c) ?_
        push_cast
        exact ⟨by decide, O, Weak.cons, kx e2⟩
  · rw [decide_eq_false hl, if_pos (by decide)]
    refine ⟨by decide, weak_now (kx ?_)⟩
    cases e : numsA ws ls with
    | none => rfl
    | some ns => exact absurd (by have := (numsA_len e).1; omega) hl

def restW (nm : Str) (r : Int) (rest : List Str) : Option Gs :=
  if rest.length = 0 then some ⟨nm, 0, r, 1, 0, 0⟩
  else if rest.length = 2 then (match numsA rest ["step"] with | some [s] => some ⟨nm, 1, r, s, 0, 0⟩ | _ => none)
  else if rest.length = 4 then (match numsA rest ["late", "pace"] with | some [l, p] => some ⟨nm, 2, r, 1, l, p⟩ | _ => none)
  else (match numsA rest ["step", "late", "pace"] with | some [s, l, p] => some ⟨nm, 3, r, s, l, p⟩ | _ => none)
def gdB (s : Gs) : Bool := validB s.name && decide (1 ≤ s.step)
theorem gd_iff {s : Gs} : gdB s = true ↔ validD (.str s.name) = true ∧ 1 ≤ s.step := by
  unfold gdB
  rw [Bool.and_eq_true, decide_eq_true_eq]
  rfl
/-- the gauge that a line's words write -/
def rdW : List Str → Option Gs
  | nm :: rd :: rest => (match readN rd with
    | some r => (match restW nm r rest with | some s => if gdB s = true then some s else none | none => none)
    | none => none)
  | _ => none
theorem rdW_eq {nm rd : Str} {rest : List Str} {r : Int} (h : readN rd = some r) : rdW (nm :: rd :: rest) = (match restW nm r rest with | some s => if gdB s = true then some s else none | none => none) := by
  show (match readN rd with | some r => _ | none => _) = _
  rw [h]
theorem readN_nn {w : Str} {r : Int} (h : readN w = some r) : 0 ≤ r := by
  unfold readN at h
  split at h
  · cases h
    omega
  · cases h
theorem numsA_nn : ∀ {ws ls : List Str} {ns : List Int}, numsA ws ls = some ns → ∀ n ∈ ns, 0 ≤ n
  | [], [], _, h => by cases h; simp
  | [], _ :: _, _, h => by cases h
  | [_], [], _, h => by cases h
  | [_], _ :: _, _, h => by cases h
  | _ :: _ :: _, [], _, h => by cases h
  | w :: v :: r, l :: ls, ns, h => by
    rw [numsA_cons] at h
    split at h
    · cases hv : readN v with
      | none => rw [hv] at h; cases h
      | some n =>
        rw [hv] at h
        simp only at h
        cases hr : numsA r ls with
        | none => rw [hr] at h; cases h
        | some ms =>
          rw [hr] at h
          cases h
          intro z hz
          rcases List.mem_cons.mp hz with rfl | hz
          · exact readN_nn hv
          · exact numsA_nn hr z hz
    · cases h
theorem split_spN {ws : List Str} (hne : ws ≠ []) (h : ∀ w ∈ ws, ∀ c ∈ w.cps.toList, c ≠ 32) : PySem.Txt.split (PySem.Txt.join " " ws) " " = ws :=
  TL.split_join (s := 32) (S := []) (by decide +kernel) (by decide +kernel) hne fun p hp hc => h p hp 32 hc rfl
theorem join_lenN (sep : Str) : ∀ ts : List Str, (PySem.Txt.join sep ts).length ≤ (ts.map (·.length)).sum + ts.length * sep.length := by
  intro ts
  unfold PySem.Txt.join
  rw [PySem.StrLaws.glued_eq_join]
  induction ts with
  | nil => simp [PySem.Str.join]; rfl
  | cons x r ih =>
    cases r with
    | nil => simp only [PySem.Str.join, List.map_cons, List.map_nil, List.sum_cons, List.sum_nil, List.length_singleton]; omega
    | cons y r =>
      show (x ++ sep ++ PySem.Str.join sep (y :: r)).length ≤ _
      rw [strLen_append, strLen_append]
      simp only [List.map_cons, List.sum_cons, List.length_cons, Nat.add_mul] at ih ⊢
      omega
theorem sum_lenN {l : List Str} {k : Nat} (h : ∀ z ∈ l, z.length ≤ k) : (l.map (·.length)).sum ≤ l.length * k := by
  induction l with
  | nil => simp
  | cons a r ih =>
    have h1 := h a List.mem_cons_self
    have h2 := ih fun z hz => h z (List.mem_cons_of_mem _ hz)
    simp only [List.map_cons, List.sum_cons, List.length_cons, Nat.add_mul]
    omega
theorem mkg0 {nd : D} {r : Int} {O : Sto} {P : KD} {E : KX} (hn : nameLike nd) (k : validD nd = true ∧ 0 ≤ r → P (.obj .Gauge [.name, .radius] [nd, .int r]) O) (kx : ¬ (validD nd = true ∧ 0 ≤ r) → E ⟨.BadGauge, [.name], [nd]⟩ O) : mkK .Gauge S_Gauge_init [nd, .int r] O P E := by
  intro q hq
  refine ⟨q, nd, r, .Gauge, rfl, hn, by decide, getC_self, fun h => ⟨rfl, ?_⟩, fun w => ?_⟩
  · rw [setC_self, getC_self, delC_self]; exact k h
  · show E _ (delC _ q); rw [delC_self]; exact kx w
theorem mkg1 {nd : D} {r t : Int} {O : Sto} {P : KD} {E : KX} (hn : nameLike nd) (k : validD nd = true ∧ 0 ≤ r ∧ 1 ≤ t → P (.obj .CoarseGauge [.name, .radius, .step] [nd, .int r, .int t]) O) (kx : ¬ (validD nd = true ∧ 0 ≤ r ∧ 1 ≤ t) → E ⟨.BadGauge, [.name], [nd]⟩ O) : mkK .CoarseGauge S_CoarseGauge_init [nd, .int r, .int t] O P E := by
  intro q hq
  refine ⟨q, nd, r, t, rfl, hn, getC_self, fun h => ⟨rfl, ?_⟩, fun w z => ?_⟩
  · rw [setC_self, getC_self, delC_self]; exact k h
  · show E _ (delC _ q); rw [setC_self, delC_self]; exact kx w
theorem mkg2 {nd : D} {r la pa : Int} {O : Sto} {P : KD} {E : KX} (hn : nameLike nd) (k : validD nd = true ∧ 0 ≤ r ∧ 0 ≤ la ∧ 0 ≤ pa → P (.obj .LateGauge [.name, .radius, .late, .pace] [nd, .int r, .int la, .int pa]) O) (kx : ¬ (validD nd = true ∧ 0 ≤ r ∧ 0 ≤ la ∧ 0 ≤ pa) → E ⟨.BadGauge, [.name], [nd]⟩ O) : mkK .LateGauge S_LateGauge_init [nd, .int r, .int la, .int pa] O P E := by
  intro q hq
  refine ⟨q, nd, r, la, pa, .LateGauge, rfl, hn, .inl rfl, getC_self, fun h => ⟨rfl, ?_⟩, fun w z => ?_⟩
  · rw [setC_self, getC_self, delC_self]; exact k h
  · show E _ (delC _ q); rw [setC_self, delC_self]; exact kx w
theorem mkg3 {nd : D} {r t la pa : Int} {O : Sto} {P : KD} {E : KX} (hn : nameLike nd) (k : validD nd = true ∧ 0 ≤ r ∧ 0 ≤ la ∧ 0 ≤ pa ∧ 1 ≤ t → P (.obj .LateCoarseGauge [.name, .radius, .late, .pace, .step] [nd, .int r, .int la, .int pa, .int t]) O) (kx : ¬ (validD nd = true ∧ 0 ≤ r ∧ 0 ≤ la ∧ 0 ≤ pa ∧ 1 ≤ t) → E ⟨.BadGauge, [.name], [nd]⟩ O) : mkK .LateCoarseGauge S_LateCoarseGauge_init [nd, .int r, .int t, .int la, .int pa] O P E := by
  intro q hq
  refine ⟨q, nd, r, t, la, pa, rfl, hn, getC_self, fun h => ⟨rfl, ?_⟩, fun w z => ?_⟩
  · rw [setC_self, getC_self, delC_self]; exact k h
  · show E _ (delC _ q); rw [setC_self, delC_self]; exact kx w
def S_read_gauge : DSp := fun ds O P E => ∃ (ws : List Str) (line : Str), ds = [.str line] ∧ line = PySem.Txt.join " " ws ∧ ws ≠ [] ∧ ws.length ≤ 1000 ∧ (∀ w ∈ ws, (∀ c ∈ w.cps.toList, c ≠ 32) ∧ w.length ≤ 1000) ∧ (∀ s, rdW ws = some s → P (gaugeD s) O) ∧ (rdW ws = none → E ⟨.BadText, [.text], [.str line]⟩ O)
def N_read_gauge : List Str := ["line", "words", "name", "radius", "rest", "size", "numbers", "late", "pace", "step", "e"]
def T_read_gauge_0 : DS := (dRet (dMakeKw .LateCoarseGauge 2 3 [0, 1, 2] S_LateCoarseGauge_init (dCons (dVar 2) (dCons (dVar 5) dNil)) (dCons (dVar 9) (dCons (dVar 7) (dCons (dVar 8) dNil)))))
def T_read_gauge_1 : DS := (dSeq (dAsgG (dgTL [9, 7, 8]) (dCall S_numbers_after (dCons (dVar 4) (dCons (dTup (dCons (dC (.str "step")) (dCons (dC (.str "late")) (dCons (dC (.str "pace")) dNil)))) (dCons (dVar 0) dNil))))) T_read_gauge_0)
def T_read_gauge_2 : DS := (dRet (dMakeKw .LateGauge 2 2 [0, 1] S_LateGauge_init (dCons (dVar 2) (dCons (dVar 5) dNil)) (dCons (dVar 7) (dCons (dVar 8) dNil))))
def T_read_gauge_3 : DS := (dSeq (dAsgG (dgTL [7, 8]) (dCall S_numbers_after (dCons (dVar 4) (dCons (dTup (dCons (dC (.str "late")) (dCons (dC (.str "pace")) dNil))) (dCons (dVar 0) dNil))))) T_read_gauge_2)
def T_read_gauge_4 : DS := (dRet (dMakeKw .CoarseGauge 2 1 [0] S_CoarseGauge_init (dCons (dVar 2) (dCons (dVar 5) dNil)) (dCons (dOp fIx (dVar 6) (dC (.int 0))) dNil)))
def T_read_gauge_5 : DS := (dSeq (dAsg 6 (dCall S_numbers_after (dCons (dVar 4) (dCons (dTup (dCons (dC (.str "step")) dNil)) (dCons (dVar 0) dNil))))) T_read_gauge_4)
def T_read_gauge_6 : DS := (dRet (dMake .Gauge S_Gauge_init (dCons (dVar 2) (dCons (dVar 5) dNil))))
def T_read_gauge_7 : DS := (dMat (dVar 4) [(some 0, T_read_gauge_6), (some 2, T_read_gauge_5), (some 4, T_read_gauge_3), (none, T_read_gauge_1)])
def T_read_gauge_8 : DS := (dTryF 10 catBadGauge T_read_gauge_7 .BadText [.text] (dCons (dVar 0) dNil))
def T_read_gauge_9 : DS := (dSeq (dAsg 5 (dCall S_read_number (dCons (dVar 3) (dCons (dVar 0) dNil)))) T_read_gauge_8)
def T_read_gauge_10 : DS := (dSeq (dIfS (dTe (dOp fLt (dCB fLen (dCons (dVar 1) dNil)) (dC (.int 2)))) (dRaise .BadText [.text] (dCons (dVar 0) dNil)) dNext) (dSeq (dStarL [2, 3, 4] 2 (dVar 1)) T_read_gauge_9))
def T_read_gauge : DS := (dSeq (dAsg 1 (dS1 fSplit (dVar 0) (dC (.str " ")))) T_read_gauge_10)

theorem pure_read_gauge : Pure N_read_gauge 1 S_read_gauge T_read_gauge := by
  rintro ds O P E ⟨ws, line, rfl, eline, hne, hwl, hw, k, kx⟩
  refine ⟨rfl, Opn.now ?_⟩
  have hs : startD N_read_gauge [.str line] = [some (.str line), none, none, none, none, none, none, none, none, none, none] := rfl
  rw [hs]
  have hsp : PySem.Txt.split line " " = ws := by rw [eline]; exact split_spN hne fun w h => (hw w h).1
  have hln : line.length ≤ 1001000 := by
    have h1 := join_lenN " " ws
    have h2 := sum_lenN (l := ws) (k := 1000) fun z hz => (hw z hz).2
    have c1 : (" " : Str).length = 1 := by decide
    rw [← eline, c1] at h1
    omega
  unfold T_read_gauge
  push_cast
  refine ⟨by decide, by rw [sizeLine_eq]; omega, ?_⟩
  rw [hsp]
  unfold T_read_gauge_10
  push_cast
  match ws, hne, hwl, hw, k, kx with
  | [w], _, _, _, _, kx =>
    push_cast
    rw [if_pos (by omega)]
    exact ⟨by omega, weak_now (kx rfl)⟩
  | nm :: rd :: rest, _, hwl, hw, k, kx =>
    push_cast
    rw [if_neg (by omega)]
    simp only [List.length_cons] at hwl
    refine ⟨by omega, by omega, ?_⟩
    have hk : rest.length + 1 + 1 + 1 - (0 + 1 + 1 + 1) = (rest.map D.str).length := by rw [List.length_map]; omega
    rw [hk, List.map_cons, List.map_cons]
    simp only [List.take_succ_cons, List.take_zero, List.drop_succ_cons, List.drop_zero, List.take_length, List.drop_length, List.append_nil]
    show T_read_gauge_9 (endsD P E) [some (.str line), some (.lst (.str nm :: .str rd :: rest.map D.str)), some (.str nm), some (.str rd), some (.lst (rest.map D.str)), none, none, none, none, none, none] O
    generalize (D.lst (.str nm :: .str rd :: rest.map D.str)) = dl
    have wnm := hw nm (by simp)
    have wrd := hw rd (by simp)
    have bl : ∀ w ∈ rest, w.length ≤ 100000 := fun w h => by have := (hw w (by simp [h])).2; omega
    have nl : nameLike (.str nm) := .inl ⟨nm, rfl, wnm.2⟩
    unfold T_read_gauge_9
    push_cast
    refine ⟨_, _, rfl, by omega, fun r hr => ?_, fun hn => weak_now (kx (by show (match readN rd with | some r => _ | none => none) = none; rw [hn]))⟩
    have r0 := readN_nn hr
    have k := fun s h => k s ((rdW_eq hr).trans h)
    have kx := fun h => kx ((rdW_eq hr).trans h)
    have catG : catBadGauge .BadGauge = some true := rfl
    have catT : catBadGauge .BadText = some false := rfl
    push_cast
    unfold T_read_gauge_8
    push_cast [catG, catT]
    unfold T_read_gauge_7
    push_cast
    have cs : ∀ (D1 : DEnds) (Δ : Sl) (n : Nat) (T : DS) (r : List (Option Nat × DS)), dCases ((some n, T) :: r) (.lst (rest.map D.str)) D1 Δ O = if rest.length = n then T D1 Δ O else dCases r (.lst (rest.map D.str)) D1 Δ O := fun D1 Δ n T r => by
      show (if (rest.map D.str).length = n then _ else _) = _
      rw [List.length_map]
    have csn : ∀ (D1 : DEnds) (Δ : Sl) (T : DS), dCases [(none, T)] (.lst (rest.map D.str)) D1 Δ O = T D1 Δ O := fun D1 Δ T => rfl
    rw [cs, cs, cs, csn]
    by_cases c0 : rest.length = 0
    · rw [if_pos c0]
      have er : restW nm r rest = some ⟨nm, 0, r, 1, 0, 0⟩ := by unfold restW; rw [if_pos c0]
      simp only [er] at k kx
      unfold T_read_gauge_6
      push_cast
      refine mkg0 nl (fun h => ?_) fun h => ?_
      · exact weak_now (k ⟨nm, 0, r, 1, 0, 0⟩ (if_pos (gd_iff.mpr ⟨h.1, (show (1 : Int) ≤ 1 by decide)⟩)))
      · exact fun a d _ => ⟨by omega, weak_now (kx (if_neg fun q => h ⟨(gd_iff.mp q).1, r0⟩))⟩
    · rw [if_neg c0]
      by_cases c2 : rest.length = 2
      · rw [if_pos c2]
        unfold T_read_gauge_5
        push_cast [catG, catT]
        refine ⟨rest, [("step" : Str)], line, rfl, by omega, by decide, bl, fun ns h => ?_, fun h => weak_now (kx ?_)⟩
        · have hl := (numsA_len h).2
          match ns, hl, h with
          | [st], _, h =>
            have er : restW nm r rest = some ⟨nm, 1, r, st, 0, 0⟩ := by unfold restW; rw [if_neg c0, if_pos c2, h]
            simp only [er] at k kx
            unfold T_read_gauge_4
            have a0 : atI ([st].map D.int) 0 = some (.int st) := at_0
            push_cast [a0, catG, catT]
            refine mkg1 nl (fun h => ?_) fun h => ?_
            · exact weak_now (k ⟨nm, 1, r, st, 0, 0⟩ (if_pos (gd_iff.mpr ⟨h.1, h.2.2⟩)))
            · exact fun a d _ => ⟨by omega, weak_now (kx (if_neg fun q => h ⟨(gd_iff.mp q).1, r0, (gd_iff.mp q).2⟩))⟩
        · unfold restW
          rw [if_neg c0, if_pos c2, h]
      · rw [if_neg c2]
        by_cases c4 : rest.length = 4
        · rw [if_pos c4]
          unfold T_read_gauge_3
          push_cast [catG, catT]
          refine ⟨rest, [("late" : Str), ("pace" : Str)], line, rfl, by omega, by decide, bl, fun ns h => ?_, fun h => weak_now (kx ?_)⟩
          · have hl := (numsA_len h).2
            have hn := numsA_nn h
            match ns, hl, h, hn with
            | [la, pa], _, h, hn =>
              have er : restW nm r rest = some ⟨nm, 2, r, 1, la, pa⟩ := by unfold restW; rw [if_neg c0, if_neg c2, if_pos c4, h]
              simp only [er] at k kx
              simp only [List.map_cons, List.map_nil]
              push_cast
              unfold T_read_gauge_2
              push_cast [catG, catT]
              refine mkg2 nl (fun h => ?_) fun h => ?_
              · exact weak_now (k ⟨nm, 2, r, 1, la, pa⟩ (if_pos (gd_iff.mpr ⟨h.1, (show (1 : Int) ≤ 1 by decide)⟩)))
              · exact fun a d _ => ⟨by omega, weak_now (kx (if_neg fun q => h ⟨(gd_iff.mp q).1, r0, hn la (by simp), hn pa (by simp)⟩))⟩
          · unfold restW
            rw [if_neg c0, if_neg c2, if_pos c4, h]
        · rw [if_neg c4]
          unfold T_read_gauge_1
          push_cast [catG, catT]
          refine ⟨rest, [("step" : Str), ("late" : Str), ("pace" : Str)], line, rfl, by omega, by decide, bl, fun ns h => ?_, fun h => weak_now (kx ?_)⟩
          · have hl := (numsA_len h).2
            have hn := numsA_nn h
            match ns, hl, h, hn with
            | [st, la, pa], _, h, hn =>
              have er : restW nm r rest = some ⟨nm, 3, r, st, la, pa⟩ := by unfold restW; rw [if_neg c0, if_neg c2, if_neg c4, h]
              simp only [er] at k kx
              simp only [List.map_cons, List.map_nil]
              push_cast
              unfold T_read_gauge_0
              push_cast [catG, catT]
              refine mkg3 nl (fun h => ?_) fun h => ?_
              · exact weak_now (k ⟨nm, 3, r, st, la, pa⟩ (if_pos (gd_iff.mpr ⟨h.1, h.2.2.2.2⟩)))
              · exact fun a d _ => ⟨by omega, weak_now (kx (if_neg fun q => h ⟨(gd_iff.mp q).1, r0, hn la (by simp), hn pa (by simp), (gd_iff.mp q).2⟩))⟩
          · unfold restW
            rw [if_neg c0, if_neg c2, if_neg c4, h]

/-- the words behind a gauge's name and radius -/
def restG (s : Gs) : List Str := (if s.sort = 1 ∨ s.sort = 3 then [("step" : Str), numZ s.step] else []) ++ (if 2 ≤ s.sort then [("late" : Str), numZ s.late, ("pace" : Str), numZ s.pace] else [])
def wordsG (s : Gs) : List Str := s.name :: numZ s.radius :: restG s
def lineG (s : Gs) : Str := PySem.Txt.join " " (wordsG s)
/-- a gauge's numbers can be written -/
structure smG (s : Gs) : Prop where
  ra : s.radius < 10 ^ 18
  st : s.step < 10 ^ 18
  la : s.late < 10 ^ 18
  pa : s.pace < 10 ^ 18
theorem readN_int {i : Int} (h0 : 0 ≤ i) (h1 : i < 10 ^ 18) : readN (numZ i) = some i := by
  obtain ⟨m, rfl⟩ := Int.eq_ofNat_of_zero_le h0
  exact readN_num (by omega)
theorem numZ_int {i : Int} (h0 : 0 ≤ i) (h1 : i < 10 ^ 18) : (∀ c ∈ (numZ i).cps.toList, 48 ≤ c ∧ c ≤ 57) ∧ (numZ i).length ≤ 18 := by
  obtain ⟨m, rfl⟩ := Int.eq_ofNat_of_zero_le h0
  exact ⟨numZ_digits m, numZ_len (by omega)⟩
theorem words_free {s : Gs} (ok : okG s) (sm : smG s) : ∀ w ∈ wordsG s, (∀ c ∈ w.cps.toList, 33 ≤ c) ∧ w.length ≤ 18 := by
  have hn : (∀ c ∈ s.name.cps.toList, 33 ≤ c) ∧ s.name.length ≤ 18 := by
    obtain ⟨l, e, h1, h2, h3⟩ := ok.nm.ex
    rw [e]
    exact ⟨fun c hc => by have := h3 c (by simpa using hc); omega, by rw [str_len]; omega⟩
  have num : ∀ i : Int, 0 ≤ i → i < 10 ^ 18 → (∀ c ∈ (numZ i).cps.toList, 33 ≤ c) ∧ (numZ i).length ≤ 18 := fun i h0 h1 => by
    obtain ⟨a, b⟩ := numZ_int h0 h1
    exact ⟨fun c hc => by have := a c hc; omega, b⟩
  have lit : ∀ w ∈ (["step", "late", "pace"] : List Str), (∀ c ∈ w.cps.toList, 33 ≤ c) ∧ w.length ≤ 18 := by decide +kernel
  have r := num s.radius ok.ra sm.ra
  have st := num s.step (by have := ok.st; omega) sm.st
  have la := num s.late ok.la sm.la
  have pa := num s.pace ok.pa sm.pa
  have l1 := lit "step" (by simp)
  have l2 := lit "late" (by simp)
  have l3 := lit "pace" (by simp)
  intro w hw
  unfold wordsG restG at hw
  rcases List.mem_cons.mp hw with rfl | hw
  · exact hn
  · rcases List.mem_cons.mp hw with rfl | hw
    · exact r
    · rcases List.mem_append.mp hw with hw | hw
      · split at hw
        · simp only [List.mem_cons, List.not_mem_nil, or_false] at hw
          rcases hw with rfl | rfl
          · exact l1
          · exact st
        · cases hw
      · split at hw
        · simp only [List.mem_cons, List.not_mem_nil, or_false] at hw
          rcases hw with rfl | rfl | rfl | rfl
          · exact l2
          · exact la
          · exact l3
          · exact pa
        · cases hw
theorem split_sp {ws : List Str} (hne : ws ≠ []) (h : ∀ w ∈ ws, ∀ c ∈ w.cps.toList, 33 ≤ c) : PySem.Txt.split (PySem.Txt.join " " ws) " " = ws := by
  refine TL.split_join (s := 32) (S := []) (by decide +kernel) (by decide +kernel) hne fun p hp hc => ?_
  have := h p hp 32 hc
  omega
theorem words_le {s : Gs} : (wordsG s).length ≤ 8 := by
  unfold wordsG restG
  split <;> split <;> simp
theorem line_len {s : Gs} (ok : okG s) (sm : smG s) : (lineG s).length ≤ 200 := by
  have h1 := join_lenN " " (wordsG s)
  have h2 := sum_lenN (l := wordsG s) (k := 18) fun w hw => (words_free ok sm w hw).2
  have h3 := words_le (s := s)
  have h4 : (" " : Str).length = 1 := rfl
  rw [h4] at h1
  unfold lineG
  omega
theorem line_eq {s : Gs} (ok : okG s) : lineG s = s.name ++ " " ++ numZ s.radius ++ (if s.sort = 1 ∨ s.sort = 3 then (" step " : Str) ++ numZ s.step else "") ++ (if 2 ≤ s.sort then (" late " : Str) ++ numZ s.late ++ " pace " ++ numZ s.pace else "") := by
  have b1 : TL.tl (" step " : Str) = TL.tl " " ++ TL.tl "step" ++ TL.tl " " := by decide
  have b2 : TL.tl (" late " : Str) = TL.tl " " ++ TL.tl "late" ++ TL.tl " " := by decide
  have b3 : TL.tl (" pace " : Str) = TL.tl " " ++ TL.tl "pace" ++ TL.tl " " := by decide
  have b4 : TL.tl ("" : Str) = [] := by decide
  unfold lineG wordsG restG
  rw [TL.join_eq]
  refine TL.ext_tl ?_
  rcases sort4 ok with e | e | e | e <;> rw [e] <;> simp [PySem.Str.join, TL.tl_append, b1, b2, b3, b4]
theorem log_ok {i : Int} (h0 : 0 ≤ i) (h1 : i < 10 ^ 18) : i.natAbs.log2 < 1920 := by
  by_cases c : i.natAbs = 0
  · rw [c]; decide
  · have : i.natAbs.log2 < 64 := (Nat.log2_lt c).mpr (by omega)
    omega
theorem c_sp : (" " : Str).length = 1 ∧ (" step " : Str).length = 6 ∧ (" late " : Str).length = 6 ∧ (" pace " : Str).length = 6 := by decide
def S_write_gauge : DSp := fun ds O P E => ∃ s : Gs, ds = [gaugeD s] ∧ okG s ∧ smG s ∧ P (.str (lineG s)) O
def N_write_gauge : List Str := ["gauge", "line"]
def T_write_gauge_0 : DS := (dAug 1 fAddTx (dJoined ((dC (.str " step ")) :: ((dFmt (dFld [.CoarseGauge, .LateCoarseGauge] .step (dVar 0))) :: []))))
def T_write_gauge_1 : DS := (dAug 1 fAddTx (dJoined ((dC (.str " late ")) :: ((dFmt (dFld [.LateGauge, .LateCoarseGauge] .late (dVar 0))) :: ((dC (.str " pace ")) :: ((dFmt (dFld [.LateGauge, .LateCoarseGauge] .pace (dVar 0))) :: []))))))
def T_write_gauge_2 : DS := (dSeq (dIfS (dTe (dIsO isoLateGauge (dVar 0))) T_write_gauge_1 dNext) (dRet (dVar 1)))
def T_write_gauge_3 : DS := (dSeq (dIfS (dTe (dIsO isoCoarseGauge (dVar 0))) T_write_gauge_0 dNext) T_write_gauge_2)
def T_write_gauge : DS := (dSeq (dAsg 1 (dJoined ((dFmt (dFld [.Gauge, .CoarseGauge, .LateGauge, .LateCoarseGauge] .name (dVar 0))) :: ((dC (.str " ")) :: ((dFmt (dFld [.Gauge, .CoarseGauge, .LateGauge, .LateCoarseGauge] .radius (dVar 0))) :: []))))) T_write_gauge_3)

theorem pure_write_gauge : Pure N_write_gauge 1 S_write_gauge T_write_gauge := by
  rintro ds O P E ⟨s, rfl, ok, sm, k⟩
  refine ⟨rfl, Opn.now ?_⟩
  have hs : startD N_write_gauge [gaugeD s] = [some (gaugeD s), none] := rfl
  rw [hs]
  rw [line_eq ok] at k
  have r0 := numZ_int ok.ra sm.ra
  have r1 := numZ_int (i := s.step) (by have := ok.st; omega) sm.st
  have r2 := numZ_int ok.la sm.la
  have r3 := numZ_int ok.pa sm.pa
  have nl := ok.nm.len
  have l0 := log_ok ok.ra sm.ra
  have l1 := log_ok (i := s.step) (by have := ok.st; omega) sm.st
  have l2 := log_ok ok.la sm.la
  have l3 := log_ok ok.pa sm.pa
  obtain ⟨c1, c2, c3, c4⟩ := c_sp
  have q0 : (Str.ofString (toString s.radius)).length ≤ 18 := r0.2
  have q1 : (Str.ofString (toString s.step)).length ≤ 18 := r1.2
  have q2 : (Str.ofString (toString s.late)).length ≤ 18 := r2.2
  have q3 : (Str.ofString (toString s.pace)).length ≤ 18 := r3.2
  have i0 : isoCoarseGauge (.c .Gauge) = some false ∧ isoCoarseGauge (.c .CoarseGauge) = some true ∧ isoCoarseGauge (.c .LateGauge) = some false ∧ isoCoarseGauge (.c .LateCoarseGauge) = some true := ⟨rfl, rfl, rfl, rfl⟩
  have j0 : isoLateGauge (.c .Gauge) = some false ∧ isoLateGauge (.c .CoarseGauge) = some false ∧ isoLateGauge (.c .LateGauge) = some true ∧ isoLateGauge (.c .LateCoarseGauge) = some true := ⟨rfl, rfl, rfl, rfl⟩
  obtain ⟨i1, i2, i3, i4⟩ := i0
  obtain ⟨j1, j2, j3, j4⟩ := j0
  have nz : ∀ i : Int, numZ i = Str.ofString (toString i) := fun _ => rfl
  simp only [nz] at k
  have em : ∀ x : Str, x ++ ("" : Str) = x := fun x => TL.ext_tl (by rw [TL.tl_append]; show _ ++ [] = _; rw [List.append_nil])
  have as : ∀ x y z : Str, x ++ (y ++ z) = x ++ y ++ z := fun x y z => TL.ext_tl (by simp [TL.tl_append])
  rcases sort4 ok with e | e | e | e
  all_goals
    unfold T_write_gauge
    simp only [gaugeD, clG, fsG, dsG, e]
    rw [e] at k
    push_cast [Str.empty_append, strLen_append, c1]
    refine ⟨by simp, by rw [sizeLine_eq]; omega, by rw [sizeLine_eq]; omega, by rw [sizeLine_eq]; omega, by simp, l0, by rw [sizeLine_eq]; omega, ?_⟩
    unfold T_write_gauge_3
    push_cast [i1, i2, i3, i4]
  · unfold T_write_gauge_2
    push_cast [j1]
    rw [if_neg (by omega), if_neg (by omega), em, em] at k
    exact weak_now k
  · unfold T_write_gauge_0
    push_cast [Str.empty_append, strLen_append, c1, c2]
    refine ⟨by simp, l1, by rw [sizeLine_eq]; omega, by rw [sizeLine_eq]; omega, ?_⟩
    unfold T_write_gauge_2
    push_cast [j2]
    rw [if_pos (by omega), if_neg (by omega), em] at k
    exact weak_now k
  · unfold T_write_gauge_2
    push_cast [j3]
    unfold T_write_gauge_1
    push_cast [Str.empty_append, strLen_append, c1, c3, c4]
    rw [if_neg (by omega), if_pos (by omega), em] at k
    exact ⟨by simp, l2, by rw [sizeLine_eq]; omega, by rw [sizeLine_eq]; omega, by simp, l3, by rw [sizeLine_eq]; omega, by rw [sizeLine_eq]; omega, weak_now k⟩
  · unfold T_write_gauge_0
    push_cast [Str.empty_append, strLen_append, c1, c2]
    refine ⟨by simp, l1, by rw [sizeLine_eq]; omega, by rw [sizeLine_eq]; omega, ?_⟩
    unfold T_write_gauge_2
    push_cast [j4]
    unfold T_write_gauge_1
    push_cast [Str.empty_append, strLen_append, c1, c2, c3, c4]
    rw [if_pos (by omega), if_pos (by omega)] at k
    exact ⟨by simp, l2, by rw [sizeLine_eq]; omega, by rw [sizeLine_eq]; omega, by simp, l3, by rw [sizeLine_eq]; omega, by rw [sizeLine_eq]; omega, weak_now k⟩
def S_law_line : DSp := fun ds O P E => ∃ s : Gs, ds = [specD s] ∧ okG s ∧ smG s ∧ P (.str (lineG s)) O
def N_law_line : List Str := ["_law_spec", "_law_line_here"]
def T_law_line_0 : DS := (dAsg 1 (dOp fAdd (dOp fAdd (dVar 1) (dC (.str " step "))) (dCB fStrI (dCons (dOp fIx (dVar 0) (dC (.int 3))) dNil))))
def T_law_line_1 : DS := (dAsg 1 (dOp fAdd (dOp fAdd (dOp fAdd (dOp fAdd (dVar 1) (dC (.str " late "))) (dCB fStrI (dCons (dOp fIx (dVar 0) (dC (.int 4))) dNil))) (dC (.str " pace "))) (dCB fStrI (dCons (dOp fIx (dVar 0) (dC (.int 5))) dNil))))
def T_law_line_2 : DS := (dSeq (dIfS (dTe (dOp fGe (dOp fIx (dVar 0) (dC (.int 1))) (dC (.int 2)))) T_law_line_1 dNext) (dRet (dVar 1)))
def T_law_line_3 : DS := (dSeq (dIfS (dTe (dOp fIn (dOp fIx (dVar 0) (dC (.int 1))) (dLst (dCons (dC (.int 1)) (dCons (dC (.int 3)) dNil))))) T_law_line_0 dNext) T_law_line_2)
def T_law_line : DS := (dSeq (dAsg 1 (dOp fAdd (dOp fAdd (dOp fIx (dVar 0) (dC (.int 0))) (dC (.str " "))) (dCB fStrI (dCons (dOp fIx (dVar 0) (dC (.int 2))) dNil)))) T_law_line_3)

theorem pure_law_line : Pure N_law_line 1 S_law_line T_law_line := by
  rintro ds O P E ⟨s, rfl, ok, sm, k⟩
  refine ⟨rfl, Opn.now ?_⟩
  have hs : startD N_law_line [specD s] = [some (specD s), none] := rfl
  rw [hs]
  rw [line_eq ok] at k
  have r0 := numZ_int ok.ra sm.ra
  have r1 := numZ_int (i := s.step) (by have := ok.st; omega) sm.st
  have r2 := numZ_int ok.la sm.la
  have r3 := numZ_int ok.pa sm.pa
  have nl := ok.nm.len
  have l0 := log_ok ok.ra sm.ra
  have l1 := log_ok (i := s.step) (by have := ok.st; omega) sm.st
  have l2 := log_ok ok.la sm.la
  have l3 := log_ok ok.pa sm.pa
  obtain ⟨c1, c2, c3, c4⟩ := c_sp
  have q0 : (Str.ofString (toString s.radius)).length ≤ 18 := r0.2
  have q1 : (Str.ofString (toString s.step)).length ≤ 18 := r1.2
  have q2 : (Str.ofString (toString s.late)).length ≤ 18 := r2.2
  have q3 : (Str.ofString (toString s.pace)).length ≤ 18 := r3.2
  unfold T_law_line
  push_cast [ix0, ix2, strLen_append, c1]
  refine ⟨by rw [sizeLine_eq]; omega, l0, by rw [sizeLine_eq]; omega, ?_⟩
  have nz : ∀ i : Int, numZ i = Str.ofString (toString i) := fun _ => rfl
  simp only [nz] at k
  have em : ∀ x : Str, x ++ ("" : Str) = x := fun x => TL.ext_tl (by rw [TL.tl_append]; show _ ++ [] = _; rw [List.append_nil])
  have as : ∀ x y z : Str, x ++ (y ++ z) = x ++ y ++ z := fun x y z => TL.ext_tl (by simp [TL.tl_append])
  have in13 : ∀ (O : Sto) (P : KD), fIn (.int (s.sort : Int)) (.lst [.int 1, .int 3]) O P = P (.bl (decide (s.sort = 1 ∨ s.sort = 3))) O := fun O P => by
    have e := f_inI (neg := false) (i := (s.sort : Int)) (ns := [1, 3]) (O := O) (P := P)
    have e2 : decide ((s.sort : Int) ∈ ([1, 3] : List Int)) = decide (s.sort = 1 ∨ s.sort = 3) := decide_eq_decide.mpr (by simp; omega)
    rw [← e2]
    exact e
  unfold T_law_line_3
  push_cast [ix1, in13]
  have tail : ∀ x : Str, x.length ≤ 100 → x ++ (if 2 ≤ s.sort then (" late " : Str) ++ Str.ofString (toString s.late) ++ " pace " ++ Str.ofString (toString s.pace) else "") = s.name ++ " " ++ Str.ofString (toString s.radius) ++ (if s.sort = 1 ∨ s.sort = 3 then (" step " : Str) ++ Str.ofString (toString s.step) else "") ++ (if 2 ≤ s.sort then (" late " : Str) ++ Str.ofString (toString s.late) ++ " pace " ++ Str.ofString (toString s.pace) else "") → T_law_line_2 (endsD P E) [some (specD s), some (.str x)] O := fun x hx ex => by
    rw [← ex] at k
    unfold T_law_line_2
    push_cast [ix1]
    by_cases c : 2 ≤ s.sort
    · rw [if_pos c] at k
      rw [if_pos (by omega)]
      unfold T_law_line_1
      push_cast [ix4, ix5, strLen_append, c3, c4]
      refine ⟨by rw [sizeLine_eq]; omega, l2, by rw [sizeLine_eq]; omega, by rw [sizeLine_eq]; omega, l3, by rw [sizeLine_eq]; omega, ?_⟩
      rw [as, as, as] at k
      exact weak_now k
    · rw [if_neg c, em] at k
      rw [if_neg (by omega)]
      exact weak_now k
  have rl : (s.name ++ (" " : Str) ++ Str.ofString (toString s.radius)).length ≤ 31 := by rw [strLen_append, strLen_append, c1]; omega
  by_cases c : s.sort = 1 ∨ s.sort = 3
  · rw [if_pos c]
    unfold T_law_line_0
    push_cast [ix3, strLen_append, c2]
    rw [strLen_append, strLen_append, c1] at rl
    refine ⟨by rw [sizeLine_eq]; simp only [strLen_append, c1]; omega, l1, by rw [sizeLine_eq]; simp only [strLen_append, c1, c2]; omega, tail _ (by simp only [strLen_append, c1, c2]; omega) ?_⟩
    rw [if_pos c, as (_ ++ _) _ _]
  · rw [if_neg c]
    exact tail _ (by omega) (by rw [if_neg c, em])
def lnS (ws : List Str) : Str := PySem.Txt.join " " ws
theorem join_mem : ∀ {ws : List Str} {y : Str}, ∀ c ∈ TL.tl (PySem.Str.join y ws), c ∈ TL.tl y ∨ ∃ w ∈ ws, c ∈ TL.tl w
  | [], y, c, h => by
    have : TL.tl (PySem.Str.join y []) = [] := rfl
    rw [this] at h
    cases h
  | [a], y, c, h => .inr ⟨a, List.mem_singleton.mpr rfl, h⟩
  | a :: b :: r, y, c, h => by
    have e : PySem.Str.join y (a :: b :: r) = a ++ y ++ PySem.Str.join y (b :: r) := rfl
    rw [e, TL.tl_append, TL.tl_append] at h
    rcases List.mem_append.mp h with h | h
    · rcases List.mem_append.mp h with h | h
      · exact .inr ⟨a, List.mem_cons_self, h⟩
      · exact .inl h
    · rcases join_mem c h with q | ⟨w, hw, q⟩
      · exact .inl q
      · exact .inr ⟨w, List.mem_cons_of_mem _ hw, q⟩
theorem joinT_mem {ws : List Str} {c : Nat} (h : c ∈ (PySem.Txt.join " " ws).cps.toList) : c = 32 ∨ ∃ w ∈ ws, c ∈ w.cps.toList := by
  rw [TL.join_eq] at h
  rcases join_mem c h with q | q
  · left
    have : TL.tl (" " : Str) = [32] := by decide
    rw [this] at q
    exact List.mem_singleton.mp q
  · exact .inr q
theorem restW_name {nm : Str} {r : Int} {rest : List Str} {s : Gs} (h : restW nm r rest = some s) : s.name = nm ∧ s.sort ≤ 3 := by
  unfold restW at h
  split at h
  · cases h; exact ⟨rfl, by simp⟩
  · split at h
    · split at h
      · cases h; exact ⟨rfl, by simp⟩
      · cases h
    · split at h
      · split at h
        · cases h; exact ⟨rfl, by simp⟩
        · cases h
      · split at h
        · cases h; exact ⟨rfl, by simp⟩
        · cases h
def dueD (s : Gs) : D := .lst ([.str s.name, .int (s.sort : Int), .int s.radius] ++ (if s.sort = 1 ∨ s.sort = 3 then [.int s.step] else []) ++ (if 2 ≤ s.sort then [.int s.late, .int s.pace] else []) ++ [.bl (decide (s.sort = 3))])
/-- words that a line can hold -/
structure WsOk (ws : List Str) : Prop where
  ne : ws ≠ []
  len : ws.length ≤ 1000
  wd : ∀ w ∈ ws, (∀ c ∈ w.cps.toList, c ≠ 32 ∧ c < 1114112) ∧ w.length ≤ 1000
def S_law_read : DSp := fun ds O P E => ∃ ws : List Str, ds = [.str (lnS ws)] ∧ WsOk ws ∧ (∀ s, rdW ws = some s → P (dueD s) O) ∧ (rdW ws = none → P (.lst [.str (lnS ws), .bl false]) O)
theorem f_addP {O : Sto} {P : KD} {p : Addr} {l m : List D} (h : getC O p = some (.lst l)) : fAdd (.ptr p) (.lst m) O P = (l.length + m.length ≤ sizeLine ∧ P (.lst (l ++ m)) O) := by
  simp only [fAdd, lstOf, h]
theorem rdW_sort {ws : List Str} {s : Gs} (h : rdW ws = some s) : s.sort ≤ 3 := by
  match ws, h with
  | [], h => cases h
  | [_], h => cases h
  | nm :: rd :: rest, h =>
    have h : (match readN rd with
      | some r => (match restW nm r rest with | some s => if gdB s = true then some s else none | none => none)
      | none => none) = some s := h
    cases q1 : readN rd with
    | none => rw [q1] at h; cases h
    | some r =>
      rw [q1] at h
      simp only at h
      cases q2 : restW nm r rest with
      | none => rw [q2] at h; cases h
      | some s2 =>
        rw [q2] at h
        simp only at h
        split at h
        · cases h
          exact (restW_name q2).2
        · cases h
def N_law_read : List Str := ["_law_line_here", "_law_gauge_here", "e", "_law_sort", "_law_found"]
def T_law_read_0 : DH := fun a ec d => (dRet (dLst (dCons (dXf [.BadText] .text a ec d (dVar 2)) (dCons (dIsX isxBadGauge a ec d (dVar 2)) dNil))))
def T_law_read_1 : DS := (dExp (dApp (dVar 4) (dFld [.CoarseGauge, .LateCoarseGauge] .step (dVar 1))))
def T_law_read_2 : DS := (dAsg 4 (dOp fAdd (dVar 4) (dLst (dCons (dFld [.LateGauge, .LateCoarseGauge] .late (dVar 1)) (dCons (dFld [.LateGauge, .LateCoarseGauge] .pace (dVar 1)) dNil)))))
def T_law_read_3 : DS := (dRet (dOp fAdd (dVar 4) (dLst (dCons (dIsO isoLateCoarseGauge (dVar 1)) dNil))))
def T_law_read_4 : DS := (dSeq (dIfS (dTe (dOp fGe (dVar 3) (dC (.int 2)))) T_law_read_2 dNext) T_law_read_3)
def T_law_read_5 : DS := (dSeq (dIfS (dTe (dOp fIn (dVar 3) (dLst (dCons (dC (.int 1)) (dCons (dC (.int 3)) dNil))))) T_law_read_1 dNext) T_law_read_4)
def T_law_read_6 : DS := (dSeq (dAsg 4 (dLstO (dCons (dFld [.Gauge, .CoarseGauge, .LateGauge, .LateCoarseGauge] .name (dVar 1)) (dCons (dVar 3) (dCons (dFld [.Gauge, .CoarseGauge, .LateGauge, .LateCoarseGauge] .radius (dVar 1)) dNil))))) T_law_read_5)
def T_law_read_7 : DS := (dSeq (dAsg 3 (dOp fAdd (dCB fInt (dCons (dIsO isoCoarseGauge (dVar 1)) dNil)) (dOp fMul (dC (.int 2)) (dCB fInt (dCons (dIsO isoLateGauge (dVar 1)) dNil))))) T_law_read_6)
def T_law_read : DS := (dSeq (dTry 2 catBadText (dAsg 1 (dCall S_read_gauge (dCons (dVar 0) dNil))) T_law_read_0) T_law_read_7)

theorem pure_law_read : Pure N_law_read 1 S_law_read T_law_read := by
  rintro ds O P E ⟨ws, rfl, wo, k, kx⟩
  refine ⟨rfl, Opn.now ?_⟩
  have hs : startD N_law_read [.str (lnS ws)] = [some (.str (lnS ws)), none, none, none, none] := rfl
  rw [hs]
  have cat : catBadText .BadText = some true := rfl
  unfold T_law_read
  push_cast [cat]
  refine ⟨ws, lnS ws, rfl, rfl, wo.ne, wo.len, fun w hw => ⟨fun c hc => ((wo.wd w hw).1 c hc).1, (wo.wd w hw).2⟩, fun s hs => ?_, fun hn => ?_⟩
  · have so := rdW_sort hs
    have k := k s hs
    have i0 : isoCoarseGauge (.c .Gauge) = some false ∧ isoCoarseGauge (.c .CoarseGauge) = some true ∧ isoCoarseGauge (.c .LateGauge) = some false ∧ isoCoarseGauge (.c .LateCoarseGauge) = some true := ⟨rfl, rfl, rfl, rfl⟩
    have j0 : isoLateGauge (.c .Gauge) = some false ∧ isoLateGauge (.c .CoarseGauge) = some false ∧ isoLateGauge (.c .LateGauge) = some true ∧ isoLateGauge (.c .LateCoarseGauge) = some true := ⟨rfl, rfl, rfl, rfl⟩
    have k0 : isoLateCoarseGauge (.c .Gauge) = some false ∧ isoLateCoarseGauge (.c .CoarseGauge) = some false ∧ isoLateCoarseGauge (.c .LateGauge) = some false ∧ isoLateCoarseGauge (.c .LateCoarseGauge) = some true := ⟨rfl, rfl, rfl, rfl⟩
    obtain ⟨i1, i2, i3, i4⟩ := i0
    obtain ⟨j1, j2, j3, j4⟩ := j0
    obtain ⟨k1, k2, k3, k4⟩ := k0
    have in0 : ∀ (O : Sto) (P : KD), fIn (.int 0) (.lst [.int 1, .int 3]) O P = P (.bl false) O := fun O P => f_inI (neg := false) (i := 0) (ns := [1, 3])
    have in1 : ∀ (O : Sto) (P : KD), fIn (.int 1) (.lst [.int 1, .int 3]) O P = P (.bl true) O := fun O P => f_inI (neg := false) (i := 1) (ns := [1, 3])
    have in2 : ∀ (O : Sto) (P : KD), fIn (.int 2) (.lst [.int 1, .int 3]) O P = P (.bl false) O := fun O P => f_inI (neg := false) (i := 2) (ns := [1, 3])
    have in3 : ∀ (O : Sto) (P : KD), fIn (.int 3) (.lst [.int 1, .int 3]) O P = P (.bl true) O := fun O P => f_inI (neg := false) (i := 3) (ns := [1, 3])
    have e4 : s.sort = 0 ∨ s.sort = 1 ∨ s.sort = 2 ∨ s.sort = 3 := by omega
    unfold dueD at k
    rcases e4 with e | e | e | e
    all_goals
      simp only [gaugeD, clG, fsG, dsG, e]
      rw [e] at k
      unfold T_law_read_7
      push_cast [i1, i2, i3, i4, j1, j2, j3, j4]
      unfold T_law_read_6
      push_cast
      simp only [fInt, f_mul, f_add, Bool.false_eq_true, if_false, if_true]
      refine ⟨by unfold CMul; omega, by simp, by simp, fun p hp => ?_⟩
      simp only [Int.mul_zero, Int.mul_one, Int.add_zero, Int.zero_add, show (1 : Int) + 2 = 3 from rfl, show (0 : Int) + 2 = 2 from rfl]
      unfold T_law_read_5
      push_cast [in0, in1, in2, in3]
    · unfold T_law_read_4 T_law_read_3
      push_cast [k1]
      rw [if_neg (by omega), f_addP getC_self]
      refine ⟨by rw [sizeLine_eq]; simp, _, Weak.cons, ?_⟩
      simpa using k
    · unfold T_law_read_1
      push_cast
      unfold T_law_read_4 T_law_read_3
      push_cast [k2]
      rw [if_neg (by omega), f_addP getC_self]
      refine ⟨by simp, by rw [sizeLine_eq]; omega, by rw [sizeLine_eq]; simp, _, Weak.cons, ?_⟩
      simpa using k
    · unfold T_law_read_4
      push_cast
      unfold T_law_read_2 T_law_read_3
      push_cast [k3]
      rw [if_pos (by omega), f_addP getC_self]
      refine ⟨by simp, by simp, by rw [sizeLine_eq]; simp, ?_⟩
      rw [f_addL]
      refine ⟨by rw [sizeLine_eq]; simp, _, Weak.cons, ?_⟩
      simpa using k
    · unfold T_law_read_1
      push_cast
      unfold T_law_read_4
      push_cast
      unfold T_law_read_2 T_law_read_3
      push_cast [k4]
      rw [if_pos (by omega), f_addP getC_self]
      refine ⟨by simp, by rw [sizeLine_eq]; omega, by simp, by simp, by rw [sizeLine_eq]; simp, ?_⟩
      rw [f_addL]
      refine ⟨by rw [sizeLine_eq]; simp, _, Weak.cons, ?_⟩
      simpa using k
  · push_cast [cat]
    intro a d ha
    have i1 : isxBadGauge .BadText = some false := rfl
    unfold T_law_read_0
    push_cast [i1]
    exact weak_now (kx hn)
theorem str_assoc (a b c : Str) : a ++ b ++ c = a ++ (b ++ c) := TL.ext_tl (by simp only [TL.tl_append, List.append_assoc])
theorem lnS_one (a : Str) : lnS [a] = a := by
  unfold lnS
  rw [TL.join_eq]
  rfl
theorem lnS_cons (a b : Str) (r : List Str) : lnS (a :: b :: r) = a ++ " " ++ lnS (b :: r) := by
  unfold lnS
  rw [TL.join_eq, TL.join_eq]
  rfl
theorem strok_iff {z : Str} : PyData.strOk z = true ↔ ∀ c ∈ z.cps.toList, c < 0x110000 := by
  unfold PyData.strOk
  rw [← Array.all_toList, List.all_eq_true]
  simp
theorem WsOk.str {ws : List Str} (h : WsOk ws) : PyData.strOk (lnS ws) = true := by
  rw [strok_iff]
  intro c hc
  rcases joinT_mem (ws := ws) (c := c) hc with q | ⟨w, hw, q⟩
  · omega
  · exact ((h.wd w hw).1 c q).2
theorem eq_bad {z : Str} {b : Bool} (h : PyData.strOk z = true) : eqB (.lst [.str z, .bl b]) (.lst [.str z, .bl b]) = some true := by
  cases b <;> simp [eqB, py, pys, SeqAt.shaped, PyData.canLay0, PyData.depth, PyData.eqvAll, PyData.eqv, PyData.canLayAll0, PyData.depthAll, h]
theorem okN.str {z : Str} (h : okN z) : PyData.strOk z = true := by
  obtain ⟨l, rfl, _, _, h3⟩ := h.ex
  rw [strok_iff]
  intro c hc
  have := h3 c (by simpa using hc)
  omega
theorem eq_due {s : Gs} (h : PyData.strOk s.name = true) : eqB (dueD s) (dueD s) = some true := by
  unfold dueD
  split <;> split <;> simp [eqB, py, pys, SeqAt.shaped, PyData.canLay0, PyData.depth, PyData.eqvAll, PyData.eqv, PyData.canLayAll0, PyData.depthAll, h]
theorem fneN9 {O : Sto} {P : KD} {x y : D} {k : Bool} (h : eqB x y = some k) (p : P (.bl (!k)) O) : fNe x y O P := by
  unfold fNe
  rw [h]
  exact p
def BadG (w : Str) : Prop := ∃ ws, w = lnS ws ∧ WsOk ws ∧ rdW ws = none
theorem restW_step {nm : Str} {r : Int} {rest : List Str} {s : Gs} (h : restW nm r rest = some s) : ∃ s', restW "a" r rest = some s' ∧ s'.name = "a" ∧ s'.step = s.step := by
  unfold restW at h ⊢
  by_cases c0 : rest.length = 0
  · rw [if_pos c0] at h ⊢
    cases h
    exact ⟨_, rfl, rfl, rfl⟩
  · rw [if_neg c0] at h ⊢
    by_cases c1 : rest.length = 2
    · rw [if_pos c1] at h ⊢
      split at h
      · cases h; exact ⟨_, rfl, rfl, rfl⟩
      · cases h
    · rw [if_neg c1] at h ⊢
      by_cases c2 : rest.length = 4
      · rw [if_pos c2] at h ⊢
        split at h
        · cases h; exact ⟨_, rfl, rfl, rfl⟩
        · cases h
      · rw [if_neg c2] at h ⊢
        split at h
        · cases h; exact ⟨_, rfl, rfl, rfl⟩
        · cases h
theorem rdW_nm {nm : Str} {r : List Str} {s : Gs} (h : rdW (nm :: r) = some s) : ∃ s', rdW ("a" :: r) = some s' := by
  cases r with
  | nil => cases h
  | cons rd rest =>
    cases q1 : readN rd with
    | none =>
      have h : (match readN rd with
        | some r => (match restW nm r rest with | some s => if gdB s = true then some s else none | none => none)
        | none => none) = some s := h
      rw [q1] at h
      cases h
    | some r =>
      rw [rdW_eq q1] at h ⊢
      cases q2 : restW nm r rest with
      | none => rw [q2] at h; cases h
      | some s2 =>
        rw [q2] at h
        simp only at h
        split at h
        · rename_i hgd
          obtain ⟨s3, e3, e4, e5⟩ := restW_step q2
          rw [e3]
          simp only
          rw [if_pos (gd_iff.mpr ⟨by rw [e4]; decide +kernel, by rw [e5]; exact (gd_iff.mp hgd).2⟩)]
          exact ⟨_, rfl⟩
        · cases h
theorem rdW_bad {nm rd : Str} {rest : List Str} (h : readN rd = none) : rdW (nm :: rd :: rest) = none := by
  show (match readN rd with | some r => _ | none => none) = none
  rw [h]
def wdB (r : List Str) : Bool := r.all fun w => w.cps.toList.all (fun c => decide (c ≠ 32 ∧ c < 1114112)) && decide (w.length ≤ 1000)
theorem wdB_ok {r : List Str} (h : wdB r = true) : ∀ w ∈ r, (∀ c ∈ w.cps.toList, c ≠ 32 ∧ c < 1114112) ∧ w.length ≤ 1000 := by
  intro w hw
  have := List.all_eq_true.mp h w hw
  rw [Bool.and_eq_true, List.all_eq_true] at this
  exact ⟨fun c hc => of_decide_eq_true (this.1 c hc), of_decide_eq_true this.2⟩
theorem okN.wd {w : Str} (h : okN w) : (∀ c ∈ w.cps.toList, c ≠ 32 ∧ c < 1114112) ∧ w.length ≤ 1000 := by
  refine ⟨?_, by have := h.len; omega⟩
  obtain ⟨l, e, h1, h2, h3⟩ := h.ex
  rw [e]
  exact fun c hc => by have := h3 c (by simpa using hc); omega
theorem bad_sfx {nm sfx : Str} (ok : okN nm) (a : Str) (r : List Str) (e : (" " : Str) ++ lnS (a :: r) = sfx) (hl : r.length ≤ 100) (hw : wdB (a :: r) = true) (hb : (rdW ("a" :: a :: r)).isNone = true) : BadG (nm ++ sfx) := by
  refine ⟨nm :: a :: r, by rw [lnS_cons, ← e, str_assoc], ⟨by simp, by simp; omega, fun w hw' => ?_⟩, ?_⟩
  · rcases List.mem_cons.mp hw' with rfl | hw'
    · exact ok.wd
    · exact wdB_ok hw w hw'
  · cases q : rdW (nm :: a :: r) with
    | none => rfl
    | some s =>
      obtain ⟨s', q'⟩ := rdW_nm q
      rw [q'] at hb
      cases hb
theorem bad_lit {w : Str} (r : List Str) (e : w = lnS r) (hne : r ≠ []) (hl : r.length ≤ 100) (hw : wdB r = true) (hb : (rdW r).isNone = true) : BadG w :=
  ⟨r, e, ⟨hne, by omega, wdB_ok hw⟩, by simpa using hb⟩
theorem readN_dig {w : Str} {n : Int} (h : readN w = some n) : ∀ c ∈ w.cps.toList, 48 ≤ c ∧ c ≤ 57 := by
  unfold readN at h
  split at h
  · rename_i q
    exact q.2.1
  · cases h
theorem readN_nm {w : Str} (h : okN w) : readN w = none := by
  cases q : readN w with
  | none => rfl
  | some n =>
    have hd := readN_dig q
    obtain ⟨l, e, h1, h2, h3⟩ := h.ex
    rw [e] at hd
    cases l with
    | nil => simp at h1
    | cons a r =>
      have := hd a (by simp)
      have := h3 a (by simp)
      omega
theorem readN_nl (w : Str) : readN (w ++ "\n") = none := by
  cases q : readN (w ++ "\n") with
  | none => rfl
  | some n =>
    have hd := readN_dig q 10 (by
      show 10 ∈ TL.tl (w ++ "\n")
      rw [TL.tl_append]
      exact List.mem_append_right _ (by decide))
    omega
theorem numsA_bad {v : Str} (h : readN v = none) : ∀ (ws : List Str) (l : Str) (ls : List Str), ws.length % 2 = 0 → numsA (ws ++ [l, v]) ls = none
  | [], l, [], _ => rfl
  | [], l, a :: ls, _ => by
    show numsA (l :: v :: []) (a :: ls) = none
    rw [numsA_cons, h]
    split <;> rfl
  | [a], l, ls, q => by simp at q
  | a :: b :: r, l, [], _ => rfl
  | a :: b :: r, l, c :: ls, q => by
    show numsA (a :: b :: (r ++ [l, v])) (c :: ls) = none
    rw [numsA_cons, numsA_bad h r l ls (by simp at q; omega)]
    split
    · cases readN b <;> rfl
    · rfl
theorem restW_bad {nm v : Str} {r : Int} (h : readN v = none) (ws : List Str) (l : Str) (q : ws.length % 2 = 0) : restW nm r (ws ++ [l, v]) = none := by
  unfold restW
  rw [if_neg (by simp), numsA_bad h ws l _ q, numsA_bad h ws l _ q, numsA_bad h ws l _ q]
  split
  · rfl
  · split <;> rfl
theorem restW_odd {nm : Str} {r : Int} {rest : List Str} (h : rest.length % 2 = 1) : restW nm r rest = none := by
  unfold restW
  rw [if_neg (by omega), if_neg (by omega), if_neg (by omega)]
  cases q : numsA rest ["step", "late", "pace"] with
  | none => rfl
  | some ns =>
    have := (numsA_len q).1
    simp at this
    omega
section
variable {s : Gs}
theorem words_wd (ok : okG s) (sm : smG s) : ∀ w ∈ wordsG s, (∀ c ∈ w.cps.toList, c ≠ 32 ∧ c < 1114112) ∧ w.length ≤ 1000 := by
  intro w hw
  refine ⟨fun c hc => ⟨by have := (words_free ok sm w hw).1 c hc; omega, ?_⟩, by have := (words_free ok sm w hw).2; omega⟩
  have num : ∀ i : Int, 0 ≤ i → i < 10 ^ 18 → ∀ c ∈ (numZ i).cps.toList, c < 1114112 := fun i h0 h1 c hc => by
    have := (numZ_int h0 h1).1 c hc
    omega
  have lit : ∀ w ∈ (["step", "late", "pace"] : List Str), ∀ c ∈ w.cps.toList, c < 1114112 := by decide +kernel
  have r := num s.radius ok.ra sm.ra
  have st := num s.step (by have := ok.st; omega) sm.st
  have la := num s.late ok.la sm.la
  have pa := num s.pace ok.pa sm.pa
  have l1 := lit "step" (by simp)
  have l2 := lit "late" (by simp)
  have l3 := lit "pace" (by simp)
  unfold wordsG restG at hw
  rcases List.mem_cons.mp hw with rfl | hw
  · exact (ok.nm.wd.1 c hc).2
  · rcases List.mem_cons.mp hw with rfl | hw
    · exact r c hc
    · rcases List.mem_append.mp hw with hw | hw
      · split at hw
        · simp only [List.mem_cons, List.not_mem_nil, or_false] at hw
          rcases hw with rfl | rfl
          · exact l1 c hc
          · exact st c hc
        · cases hw
      · split at hw
        · simp only [List.mem_cons, List.not_mem_nil, or_false] at hw
          rcases hw with rfl | rfl | rfl | rfl
          · exact l2 c hc
          · exact la c hc
          · exact l3 c hc
          · exact pa c hc
        · cases hw
theorem words_ok (ok : okG s) (sm : smG s) : WsOk (wordsG s) := ⟨by unfold wordsG; simp, by have := words_le (s := s); omega, words_wd ok sm⟩
theorem rd_line (ok : okG s) (sm : smG s) : ∃ s', rdW (wordsG s) = some s' ∧ dueD s' = dueD s := by
  have r0 := readN_int ok.ra sm.ra
  have r1 := readN_int (i := s.step) (by have := ok.st; omega) sm.st
  have r2 := readN_int ok.la sm.la
  have r3 := readN_int ok.pa sm.pa
  have hv := valid_ok ok.nm
  have gd : ∀ (so : Nat) (st la pa : Int), 1 ≤ st → gdB ⟨s.name, so, s.radius, st, la, pa⟩ = true := fun so st la pa h => gd_iff.mpr ⟨hv, h⟩
  unfold wordsG
  rw [rdW_eq r0]
  unfold restG
  rcases sort4 ok with e | e | e | e
  · rw [if_neg (by omega), if_neg (by omega)]
    show ∃ s', (if gdB ⟨s.name, 0, s.radius, 1, 0, 0⟩ = true then _ else _) = some s' ∧ _
    rw [if_pos (gd _ _ _ _ (by omega))]
    refine ⟨_, rfl, ?_⟩
    unfold dueD
    simp [e]
  · rw [if_pos (by omega), if_neg (by omega)]
    have en : restW s.name s.radius ([("step" : Str), numZ s.step] ++ []) = some ⟨s.name, 1, s.radius, s.step, 0, 0⟩ := by
      have q : numsA [("step" : Str), numZ s.step] ["step"] = some [s.step] := by rw [numsA_cons, if_pos rfl, r1]; rfl
      unfold restW
      rw [if_neg (by simp), if_pos (by rfl), List.append_nil, q]
    rw [en]
    simp only
    rw [if_pos (gd _ _ _ _ ok.st)]
    refine ⟨_, rfl, ?_⟩
    unfold dueD
    simp [e]
  · rw [if_neg (by omega), if_pos (by omega)]
    have en : restW s.name s.radius ([] ++ [("late" : Str), numZ s.late, ("pace" : Str), numZ s.pace]) = some ⟨s.name, 2, s.radius, 1, s.late, s.pace⟩ := by
      have q : numsA [("late" : Str), numZ s.late, ("pace" : Str), numZ s.pace] ["late", "pace"] = some [s.late, s.pace] := by
        rw [numsA_cons, if_pos rfl, r2]
        simp only
        rw [numsA_cons, if_pos rfl, r3]
        rfl
      unfold restW
      rw [if_neg (by simp), if_neg (by simp), if_pos (by rfl), List.nil_append, q]
    rw [en]
    simp only
    rw [if_pos (gd _ _ _ _ (by omega))]
    refine ⟨_, rfl, ?_⟩
    unfold dueD
    simp [e]
  · rw [if_pos (by omega), if_pos (by omega)]
    have en : restW s.name s.radius ([("step" : Str), numZ s.step] ++ [("late" : Str), numZ s.late, ("pace" : Str), numZ s.pace]) = some ⟨s.name, 3, s.radius, s.step, s.late, s.pace⟩ := by
      have q : numsA ([("step" : Str), numZ s.step] ++ [("late" : Str), numZ s.late, ("pace" : Str), numZ s.pace]) ["step", "late", "pace"] = some [s.step, s.late, s.pace] := by
        show numsA [("step" : Str), numZ s.step, ("late" : Str), numZ s.late, ("pace" : Str), numZ s.pace] ["step", "late", "pace"] = _
        rw [numsA_cons, if_pos rfl, r1]
        simp only
        rw [numsA_cons, if_pos rfl, r2]
        simp only
        rw [numsA_cons, if_pos rfl, r3]
        rfl
      unfold restW
      rw [if_neg (by simp), if_neg (by simp), if_neg (by simp), q]
    rw [en]
    simp only
    rw [if_pos (gd _ _ _ _ ok.st)]
    refine ⟨_, rfl, ?_⟩
    unfold dueD
    simp [e]
theorem bad_pre (ok : okG s) (sm : smG s) : BadG ((" " : Str) ++ lineG s) := by
  refine ⟨"" :: wordsG s, ?_, ⟨by simp, by have := words_le (s := s); simp; omega, fun w hw => ?_⟩, rdW_bad (readN_nm ok.nm)⟩
  · unfold wordsG
    rw [lnS_cons]
    exact TL.ext_tl (by rw [TL.tl_append, TL.tl_append, TL.tl_append]; rfl)
  · rcases List.mem_cons.mp hw with rfl | hw
    · exact ⟨by decide, by decide⟩
    · exact words_wd ok sm w hw
theorem lnS_snoc : ∀ (ws : List Str) (w : Str), ws ≠ [] → lnS (ws ++ [w]) = lnS ws ++ " " ++ w
  | [], w, h => absurd rfl h
  | [a], w, _ => by
    show lnS [a, w] = _
    rw [lnS_cons, lnS_one, lnS_one]
  | a :: b :: r, w, _ => by
    show lnS (a :: b :: (r ++ [w])) = _
    have ih := lnS_snoc (b :: r) w (by simp)
    rw [lnS_cons, lnS_cons]
    have ih : lnS (b :: (r ++ [w])) = _ := ih
    rw [ih, str_assoc, str_assoc, str_assoc, str_assoc, str_assoc]
theorem str_nil (a : Str) : a ++ ("" : Str) = a := TL.ext_tl (by rw [TL.tl_append]; exact List.append_nil _)
theorem bad_sp (ok : okG s) (sm : smG s) : BadG (lineG s ++ " ") := by
  refine ⟨wordsG s ++ [("" : Str)], ?_, ⟨by simp, by have := words_le (s := s); simp; omega, fun w hw => ?_⟩, ?_⟩
  · rw [lnS_snoc _ _ (words_ok ok sm).ne, str_nil]
    rfl
  · rcases List.mem_append.mp hw with hw | hw
    · exact words_wd ok sm w hw
    · rw [List.mem_singleton.mp hw]
      exact ⟨by decide, by decide⟩
  · show rdW (s.name :: numZ s.radius :: (restG s ++ [("" : Str)])) = none
    rw [rdW_eq (readN_int ok.ra sm.ra), restW_odd (by unfold restG; split <;> split <;> simp)]
/-- the last word -/
theorem words_last (ok : okG s) (sm : smG s) : ∃ (ini : List Str) (i : Int), wordsG s = ini ++ [numZ i] ∧ 0 < ini.length ∧ rdW (ini ++ [numZ i ++ "\n"]) = none := by
  have r0 := readN_int ok.ra sm.ra
  unfold wordsG restG
  rcases sort4 ok with e | e | e | e
  · rw [if_neg (by omega), if_neg (by omega)]
    exact ⟨[s.name], s.radius, rfl, by simp, rdW_bad (readN_nl _)⟩
  · rw [if_pos (by omega), if_neg (by omega)]
    refine ⟨[s.name, numZ s.radius, "step"], s.step, rfl, by simp, ?_⟩
    show rdW (s.name :: numZ s.radius :: ([] ++ [("step" : Str), numZ s.step ++ "\n"])) = none
    rw [rdW_eq r0, restW_bad (readN_nl _) [] _ (by simp)]
  · rw [if_neg (by omega), if_pos (by omega)]
    refine ⟨[s.name, numZ s.radius, "late", numZ s.late, "pace"], s.pace, rfl, by simp, ?_⟩
    show rdW (s.name :: numZ s.radius :: ([("late" : Str), numZ s.late] ++ [("pace" : Str), numZ s.pace ++ "\n"])) = none
    rw [rdW_eq r0, restW_bad (readN_nl _) [_, _] _ (by simp)]
  · rw [if_pos (by omega), if_pos (by omega)]
    refine ⟨[s.name, numZ s.radius, "step", numZ s.step, "late", numZ s.late, "pace"], s.pace, rfl, by simp, ?_⟩
    show rdW (s.name :: numZ s.radius :: ([("step" : Str), numZ s.step, ("late" : Str), numZ s.late] ++ [("pace" : Str), numZ s.pace ++ "\n"])) = none
    rw [rdW_eq r0, restW_bad (readN_nl _) [_, _, _, _] _ (by simp)]
theorem bad_nl (ok : okG s) (sm : smG s) : BadG (lineG s ++ "\n") := by
  obtain ⟨ini, i, e, h0, hr⟩ := words_last ok sm
  have hi : ini ≠ [] := List.length_pos_iff.mp h0
  refine ⟨ini ++ [numZ i ++ "\n"], ?_, ⟨by simp, by have := words_le (s := s); rw [e] at this; simp at this ⊢; omega, fun w hw => ?_⟩, hr⟩
  · have el : lineG s = lnS (wordsG s) := rfl
    rw [el, e, lnS_snoc _ _ hi, lnS_snoc _ _ hi]
    simp only [str_assoc]
  · have hwd := words_wd ok sm
    rw [e] at hwd
    rcases List.mem_append.mp hw with hw | hw
    · exact hwd w (List.mem_append_left _ hw)
    · rw [List.mem_singleton.mp hw]
      have q := hwd (numZ i) (by simp)
      have f := words_free ok sm (numZ i) (by rw [e]; simp)
      refine ⟨fun c hc => ?_, by rw [strLen_append]; have : ("\n" : Str).length = 1 := by decide
                                 omega⟩
      have hc : c ∈ TL.tl (numZ i ++ "\n") := hc
      rw [TL.tl_append] at hc
      rcases List.mem_append.mp hc with hc | hc
      · exact q.1 c hc
      · have : ∀ c ∈ TL.tl ("\n" : Str), c ≠ 32 ∧ c < 1114112 := by decide
        exact this c hc
theorem repl1_sp {x : Str} {l t : List Nat} (e : TL.tl x = l ++ 32 :: t) (h : 32 ∉ l) : TL.tl (PySem.repl1 x " " "  ") = l ++ 32 :: 32 :: t := by
  have hy : TL.tl (" " : Str) = [32] := by decide
  have hny : TL.tl (" " : Str) ≠ [] := by rw [hy]; simp
  have hz : TL.tl ("  " : Str) = [32, 32] := by decide
  have key : PySem.Builtin.Str.occurrences x " " 0 x.length 1 = [l.length] := by
    have hle := PySem.StrLaws.occ_length_le x " " 0 x.length 1
    have at0 : PySem.StrLaws.At x " " x.length l.length := (TL.at_iff hny _).mpr (by rw [hy, e, List.drop_left]; rfl)
    rcases PySem.StrLaws.occ_head x " " 1 (by omega) with ⟨_, hn⟩ | ⟨i, r, er, ha, hb⟩
    · exact absurd at0 (hn _)
    · have hr : r = [] := by
        rw [er, List.length_cons] at hle
        exact List.length_eq_zero_iff.mp (by omega)
      have hi : i = l.length := by
        rcases Nat.lt_trichotomy i l.length with c | c | c
        · have q := (TL.at_iff hny i).mp ha
          rw [hy, e] at q
          have q2 : ((l ++ 32 :: t).drop i).take 1 = [32] := eq_of_beq q
          have q3 := congrArg List.head? q2
          have q4 : (l ++ 32 :: t)[i]? = some 32 := by rw [List.head?_take, if_neg (by omega), List.head?_drop] at q3; exact q3
          rw [List.getElem?_append_left c] at q4
          exact absurd (List.mem_of_getElem? q4) h
        · exact c
        · exact absurd at0 (hb _ c)
      rw [er, hr, hi]
  unfold PySem.repl1
  rw [key, if_neg (by simp; decide)]
  show TL.tl (PySem.Builtin.Str.glued "  " [PySem.Builtin.Str.strSub x 0 l.length, PySem.Builtin.Str.strSub x (l.length + (" " : Str).length) x.length]) = _
  have hl1 : (" " : Str).length = 1 := by decide
  have e1 := TL.tl_strSub x 0 l.length
  have e2 := TL.tl_strSub_end x (l.length + 1)
  rw [e] at e1 e2
  rw [PySem.StrLaws.glued_eq_join, hl1]
  show TL.tl (PySem.Builtin.Str.strSub x 0 l.length ++ "  " ++ PySem.Builtin.Str.strSub x (l.length + 1) x.length) = _
  rw [TL.tl_append, TL.tl_append, e1, e2, hz]
  have e3 : (l ++ 32 :: t).drop (l.length + 1) = t := by
    rw [← List.drop_drop, List.drop_left]
    rfl
  rw [e3]
  simp
theorem repl_len (ok : okG s) (sm : smG s) : (PySem.repl1 (lineG s) " " "  ").length ≤ 201 := by
  have el : lineG s = s.name ++ " " ++ lnS (numZ s.radius :: restG s) := by
    show lnS (s.name :: numZ s.radius :: restG s) = _
    exact lnS_cons _ _ _
  have et : TL.tl (lineG s) = TL.tl s.name ++ 32 :: TL.tl (lnS (numZ s.radius :: restG s)) := by
    rw [el, TL.tl_append, TL.tl_append, List.append_assoc]
    rfl
  have h1 := line_len ok sm
  rw [TL.len_tl, et] at h1
  rw [TL.len_tl, repl1_sp et (fun q => (ok.nm.wd.1 32 q).1 rfl)]
  simp only [List.length_append, List.length_cons] at h1 ⊢
  omega
theorem bad_repl (ok : okG s) (sm : smG s) : BadG (PySem.repl1 (lineG s) " " "  ") := by
  refine ⟨s.name :: "" :: numZ s.radius :: restG s, ?_, ⟨by simp, by have := words_le (s := s); unfold wordsG at this; simp at this ⊢; omega, fun w hw => ?_⟩, rdW_bad (by decide +kernel)⟩
  · refine TL.ext_tl ?_
    have el : lineG s = s.name ++ " " ++ lnS (numZ s.radius :: restG s) := by
      show lnS (s.name :: numZ s.radius :: restG s) = _
      exact lnS_cons _ _ _
    have et : TL.tl (lineG s) = TL.tl s.name ++ 32 :: TL.tl (lnS (numZ s.radius :: restG s)) := by
      rw [el, TL.tl_append, TL.tl_append, List.append_assoc]
      rfl
    rw [repl1_sp et (fun q => (ok.nm.wd.1 32 q).1 rfl), lnS_cons, lnS_cons, TL.tl_append, TL.tl_append, TL.tl_append, TL.tl_append]
    simp
    rfl
  · rcases List.mem_cons.mp hw with rfl | hw
    · exact ok.nm.wd
    · rcases List.mem_cons.mp hw with rfl | hw
      · exact ⟨by decide, by decide⟩
      · exact words_wd ok sm w (List.mem_cons_of_mem _ hw)
theorem bad_up {w : Str} (ok : okN w) : BadG (PySem.Txt.upper w ++ " 1") ∧ (PySem.Txt.upper w).length ≤ 100 := by
  obtain ⟨l, e, h1, h2, h3⟩ := ok.ex
  have eu : TL.tl (PySem.Txt.upper w) = l.map PyProof.Rows.up1 := by
    rw [PyProof.Rows.upper_ascii (x := w) (fun c hc => by rw [e] at hc; have := h3 c (by simpa using hc); omega), e]
    show (l.toArray.map PyProof.Rows.up1).toList = _
    simp
  have hlen : (PySem.Txt.upper w).length = l.length := by rw [TL.len_tl, eu, List.length_map]
  have hc : ∀ c ∈ (PySem.Txt.upper w).cps.toList, 65 ≤ c ∧ c ≤ 90 := fun c hc => by
    have hc : c ∈ TL.tl (PySem.Txt.upper w) := hc
    rw [eu] at hc
    obtain ⟨a, ha, rfl⟩ := List.mem_map.mp hc
    have := h3 a ha
    unfold PyProof.Rows.up1
    rw [if_pos this]
    omega
  refine ⟨⟨[PySem.Txt.upper w, "1"], by rw [lnS_cons, lnS_one, str_assoc]; rfl, ⟨by simp, by simp, fun z hz => ?_⟩, ?_⟩, by omega⟩
  · rcases List.mem_cons.mp hz with rfl | hz
    · exact ⟨fun c h => by have := hc c h; omega, by omega⟩
    · rw [List.mem_singleton.mp hz]
      exact ⟨by decide, by decide⟩
  · rw [rdW_eq (r := 1) (by decide +kernel)]
    show (if gdB ⟨PySem.Txt.upper w, 0, 1, 1, 0, 0⟩ = true then _ else none) = none
    refine if_neg fun q => ?_
    have q : validB (PySem.Txt.upper w) = true := (gd_iff.mp q).1
    unfold validB at q
    rw [Bool.and_eq_true, List.all_eq_true] at q
    have ha : ∀ c ∈ abcL, 97 ≤ c := by decide
    cases l with
    | nil => simp at h1
    | cons a r =>
      have hm : PyProof.Rows.up1 a ∈ (PySem.Txt.upper w).cps.toList := by
        show _ ∈ TL.tl (PySem.Txt.upper w)
        rw [eu]
        simp
      have := ha _ (of_decide_eq_true (q.2 _ hm))
      have := hc _ hm
      omega
end
def badL (nm line : Str) : List Str := [("" : Str), nm, nm ++ (" " : Str), (" " : Str) ++ line, line ++ (" " : Str), line ++ ("\n" : Str)] ++ [PySem.repl1 line " " "  ", nm ++ (" +1" : Str)] ++ [nm ++ (" 01" : Str), nm ++ (" -1" : Str), nm ++ (" 1 step 0" : Str), nm ++ (" 1 step" : Str)] ++ [nm ++ (" 1 late 2" : Str), nm ++ (" 1 x" : Str)] ++ [nm ++ (" 1 pace 2 late 3" : Str), nm ++ (" 1 late 2 step 3" : Str)] ++ [nm ++ (" 1 late 1 pace 1 step 1" : Str), ("A 1" : Str), ("rank 1" : Str)] ++ [nm ++ (" 1000000000000000000" : Str), nm ++ (" 1 step 1 late 1 pace" : Str), nm ++ (" 1 step 01" : Str)] ++ [PySem.Txt.upper nm ++ (" 1" : Str)] ++ [nm ++ (" 1 step 1 late 1 pace 1 x" : Str), nm ++ (" 1 step 1 late 1 pace 1 step 1" : Str)] ++ [nm ++ (" 1 Step 1" : Str), ("together 1" : Str)]
theorem badL_map (nm line : Str) : (badL nm line).map D.str = [D.str (("" : Str)), D.str (nm), D.str (nm ++ (" " : Str)), D.str ((" " : Str) ++ line), D.str (line ++ (" " : Str)), D.str (line ++ ("\n" : Str))] ++ [D.str (PySem.repl1 line " " "  "), D.str (nm ++ (" +1" : Str))] ++ [D.str (nm ++ (" 01" : Str)), D.str (nm ++ (" -1" : Str)), D.str (nm ++ (" 1 step 0" : Str)), D.str (nm ++ (" 1 step" : Str))] ++ [D.str (nm ++ (" 1 late 2" : Str)), D.str (nm ++ (" 1 x" : Str))] ++ [D.str (nm ++ (" 1 pace 2 late 3" : Str)), D.str (nm ++ (" 1 late 2 step 3" : Str))] ++ [D.str (nm ++ (" 1 late 1 pace 1 step 1" : Str)), D.str (("A 1" : Str)), D.str (("rank 1" : Str))] ++ [D.str (nm ++ (" 1000000000000000000" : Str)), D.str (nm ++ (" 1 step 1 late 1 pace" : Str)), D.str (nm ++ (" 1 step 01" : Str))] ++ [D.str (PySem.Txt.upper nm ++ (" 1" : Str))] ++ [D.str (nm ++ (" 1 step 1 late 1 pace 1 x" : Str)), D.str (nm ++ (" 1 step 1 late 1 pace 1 step 1" : Str))] ++ [D.str (nm ++ (" 1 Step 1" : Str)), D.str (("together 1" : Str))] := by
  unfold badL
  simp only [List.map_append, List.map_cons, List.map_nil]
theorem bad_all {s : Gs} (ok : okG s) (sm : smG s) : ∀ w ∈ badL s.name (lineG s), BadG w := by
  intro w hw
  unfold badL at hw
  simp only [List.cons_append, List.nil_append, List.append_assoc, List.mem_cons, List.mem_nil_iff, or_false] at hw
  rcases hw with rfl | rfl | rfl | rfl | rfl | rfl | rfl | rfl | rfl | rfl | rfl | rfl | rfl | rfl | rfl | rfl | rfl | rfl | rfl | rfl | rfl | rfl | rfl | rfl | rfl | rfl | rfl
  · exact bad_lit [""] (by decide +kernel) (by simp) (by simp) (by decide +kernel) (by decide +kernel)
  · exact ⟨[s.name], (lnS_one _).symm, ⟨by simp, by simp, fun w hw => by rw [List.mem_singleton.mp hw]; exact ok.nm.wd⟩, rfl⟩
  · exact bad_sfx ok.nm "" [] (by decide +kernel) (by simp) (by decide +kernel) (by decide +kernel)
  · exact bad_pre ok sm
  · exact bad_sp ok sm
  · exact bad_nl ok sm
  · exact bad_repl ok sm
  · exact bad_sfx ok.nm "+1" [] (by decide +kernel) (by simp) (by decide +kernel) (by decide +kernel)
  · exact bad_sfx ok.nm "01" [] (by decide +kernel) (by simp) (by decide +kernel) (by decide +kernel)
  · exact bad_sfx ok.nm "-1" [] (by decide +kernel) (by simp) (by decide +kernel) (by decide +kernel)
  · exact bad_sfx ok.nm "1" ["step", "0"] (by decide +kernel) (by simp) (by decide +kernel) (by decide +kernel)
  · exact bad_sfx ok.nm "1" ["step"] (by decide +kernel) (by simp) (by decide +kernel) (by decide +kernel)
  · exact bad_sfx ok.nm "1" ["late", "2"] (by decide +kernel) (by simp) (by decide +kernel) (by decide +kernel)
  · exact bad_sfx ok.nm "1" ["x"] (by decide +kernel) (by simp) (by decide +kernel) (by decide +kernel)
  · exact bad_sfx ok.nm "1" ["pace", "2", "late", "3"] (by decide +kernel) (by simp) (by decide +kernel) (by decide +kernel)
  · exact bad_sfx ok.nm "1" ["late", "2", "step", "3"] (by decide +kernel) (by simp) (by decide +kernel) (by decide +kernel)
  · exact bad_sfx ok.nm "1" ["late", "1", "pace", "1", "step", "1"] (by decide +kernel) (by simp) (by decide +kernel) (by decide +kernel)
  · exact bad_lit ["A", "1"] (by decide +kernel) (by simp) (by simp) (by decide +kernel) (by decide +kernel)
  · exact bad_lit ["rank", "1"] (by decide +kernel) (by simp) (by simp) (by decide +kernel) (by decide +kernel)
  · exact bad_sfx ok.nm "1000000000000000000" [] (by decide +kernel) (by simp) (by decide +kernel) (by decide +kernel)
  · exact bad_sfx ok.nm "1" ["step", "1", "late", "1", "pace"] (by decide +kernel) (by simp) (by decide +kernel) (by decide +kernel)
  · exact bad_sfx ok.nm "1" ["step", "01"] (by decide +kernel) (by simp) (by decide +kernel) (by decide +kernel)
  · exact (bad_up ok.nm).1
  · exact bad_sfx ok.nm "1" ["step", "1", "late", "1", "pace", "1", "x"] (by decide +kernel) (by simp) (by decide +kernel) (by decide +kernel)
  · exact bad_sfx ok.nm "1" ["step", "1", "late", "1", "pace", "1", "step", "1"] (by decide +kernel) (by simp) (by decide +kernel) (by decide +kernel)
  · exact bad_sfx ok.nm "1" ["Step", "1"] (by decide +kernel) (by simp) (by decide +kernel) (by decide +kernel)
  · exact bad_lit ["together", "1"] (by decide +kernel) (by simp) (by simp) (by decide +kernel) (by decide +kernel)
def N_law : List Str := ["_law_script", "_law_box_here", "_law_words_here", "_law_specs_here", "_law_spec", "_law_far", "_law_line_here", "_law_gauge_here", "_law_due", "_law_name", "_law_bad", "_law_one"]
def T_law_0 : DS := (dIfS (dTe (dOp fNe (dCall S_law_read (dCons (dVar 11) dNil)) (dLst (dCons (dVar 11) (dCons (dC (.bl false)) dNil))))) (dRet (dC (.bl false))) dNext)
def T_law_1 : DS := (dSeq (dAsg 10 (dOp fAdd (dVar 10) (dLst (dCons (dOp fAdd (dVar 9) (dC (.str " 1 Step 1"))) (dCons (dC (.str "together 1")) dNil))))) (dFor (dItL (dVar 10)) (dgN 11) T_law_0))
def T_law_2 : DS := (dSeq (dAsg 10 (dOp fAdd (dVar 10) (dLst (dCons (dOp fAdd (dVar 9) (dC (.str " 1 step 1 late 1 pace 1 x"))) (dCons (dOp fAdd (dVar 9) (dC (.str " 1 step 1 late 1 pace 1 step 1"))) dNil))))) T_law_1)
def T_law_3 : DS := (dSeq (dAsg 10 (dOp fAdd (dVar 10) (dLst (dCons (dOp fAdd (dS0 fUpper (dVar 9)) (dC (.str " 1"))) dNil)))) T_law_2)
def T_law_4 : DS := (dSeq (dAsg 10 (dOp fAdd (dVar 10) (dLst (dCons (dOp fAdd (dVar 9) (dC (.str " 1000000000000000000"))) (dCons (dOp fAdd (dVar 9) (dC (.str " 1 step 1 late 1 pace"))) (dCons (dOp fAdd (dVar 9) (dC (.str " 1 step 01"))) dNil)))))) T_law_3)
def T_law_5 : DS := (dSeq (dAsg 10 (dOp fAdd (dVar 10) (dLst (dCons (dOp fAdd (dVar 9) (dC (.str " 1 late 1 pace 1 step 1"))) (dCons (dC (.str "A 1")) (dCons (dC (.str "rank 1")) dNil)))))) T_law_4)
def T_law_6 : DS := (dSeq (dAsg 10 (dOp fAdd (dVar 10) (dLst (dCons (dOp fAdd (dVar 9) (dC (.str " 1 pace 2 late 3"))) (dCons (dOp fAdd (dVar 9) (dC (.str " 1 late 2 step 3"))) dNil))))) T_law_5)
def T_law_7 : DS := (dSeq (dAsg 10 (dOp fAdd (dVar 10) (dLst (dCons (dOp fAdd (dVar 9) (dC (.str " 1 late 2"))) (dCons (dOp fAdd (dVar 9) (dC (.str " 1 x"))) dNil))))) T_law_6)
def T_law_8 : DS := (dSeq (dAsg 10 (dOp fAdd (dVar 10) (dLst (dCons (dOp fAdd (dVar 9) (dC (.str " 01"))) (dCons (dOp fAdd (dVar 9) (dC (.str " -1"))) (dCons (dOp fAdd (dVar 9) (dC (.str " 1 step 0"))) (dCons (dOp fAdd (dVar 9) (dC (.str " 1 step"))) dNil))))))) T_law_7)
def T_law_9 : DS := (dSeq (dAsg 10 (dOp fAdd (dVar 10) (dLst (dCons (dRepl1 (dVar 6) " " "  ") (dCons (dOp fAdd (dVar 9) (dC (.str " +1"))) dNil))))) T_law_8)
def T_law_10 : DS := (dSeq (dAsg 10 (dLst (dCons (dC (.str "")) (dCons (dVar 9) (dCons (dOp fAdd (dVar 9) (dC (.str " "))) (dCons (dOp fAdd (dC (.str " ")) (dVar 6)) (dCons (dOp fAdd (dVar 6) (dC (.str " "))) (dCons (dOp fAdd (dVar 6) (dC (.str "\n"))) dNil)))))))) T_law_9)
def T_law_11 : DS := (dSeq (dIfS (dOr (dTe (dOp fNe (dCall S_write_gauge (dCons (dVar 7) dNil)) (dVar 6))) (dTe (dOp fNe (dCall S_law_read (dCons (dVar 6) dNil)) (dVar 8)))) (dRet (dC (.bl false))) dNext) (dSeq (dAsg 9 (dOp fIx (dVar 4) (dC (.int 0)))) T_law_10))
def T_law_12 : DS := (dSeq (dAsg 8 (dOp fAdd (dOp fAdd (dVar 8) (dOp fRep (dLst (dCons (dOp fIx (dVar 4) (dC (.int 4))) (dCons (dOp fIx (dVar 4) (dC (.int 5))) dNil))) (dCB fInt (dCons (dOp fGe (dOp fIx (dVar 4) (dC (.int 1))) (dC (.int 2))) dNil)))) (dLst (dCons (dOp fEq (dOp fIx (dVar 4) (dC (.int 1))) (dC (.int 3))) dNil)))) T_law_11)
def T_law_13 : DS := (dSeq (dAsg 8 (dOp fAdd (dLst (dCons (dOp fIx (dVar 4) (dC (.int 0))) (dCons (dOp fIx (dVar 4) (dC (.int 1))) (dCons (dOp fIx (dVar 4) (dC (.int 2))) dNil)))) (dOp fRep (dLst (dCons (dOp fIx (dVar 4) (dC (.int 3))) dNil)) (dCB fInt (dCons (dOp fIn (dOp fIx (dVar 4) (dC (.int 1))) (dLst (dCons (dC (.int 1)) (dCons (dC (.int 3)) dNil)))) dNil))))) T_law_12)
def T_law_14 : DS := (dSeq (dAsg 7 (dCall S_law_gauge (dCons (dVar 4) dNil))) T_law_13)
def T_law_15 : DS := (dSeq (dAsg 6 (dCall S_law_line (dCons (dVar 4) dNil))) T_law_14)
def T_law_16 : DS := (dSeq (dFor (dItL (dFrz (dVar 3))) (dgN 4) T_law_15) (dRet (dC (.bl true))))
def T_law_17 : DS := (dSeq (dExp (dApp (dVar 3) (dTup (dCons (dOp fIx (dVar 4) (dC (.int 0))) (dCons (dOp fIx (dVar 4) (dC (.int 1))) (dCons (dVar 5) (dCons (dOp fSub (dVar 5) (dOp fIx (dVar 4) (dC (.int 3)))) (dCons (dOp fDiv (dVar 5) (dC (.int 7))) (dCons (dOp fSub (dVar 5) (dC (.int 5))) dNil))))))))) T_law_16)
def T_law_18 : DS := (dSeq (dAsg 5 (dOp fSub (dOp fSub (dOp fPow (dC (.int 10)) (dC (.int 18))) (dC (.int 1))) (dCall S_law_take (dCons (dVar 1) (dCons (dC (.int 1000)) dNil))))) T_law_17)
def T_law_19 : DS := (dSeq (dAsg 4 (dOp fIx (dVar 3) (dCall S_law_take (dCons (dVar 1) (dCons (dCB fLen (dCons (dVar 3) dNil)) dNil))))) T_law_18)
def T_law_20 : DS := (dSeq (dAsg 3 (dCall S_law_specs (dCons (dVar 1) (dCons (dVar 2) dNil)))) T_law_19)
def T_law_21 : DS := (dSeq (dAsg 2 (dCall S_law_words (dCons (dVar 1) (dCons (dOp fAdd (dC (.int 1)) (dCall S_law_take (dCons (dVar 1) (dCons (dC (.int 5)) dNil)))) dNil)))) T_law_20)
def T_law : DS := (dSeq (dAsg 1 (dCall S_law_box (dCons (dVar 0) (dCons (dC (.int 128)) dNil)))) T_law_21)

theorem pure_law : Pure N_law 1 SLaw T_law := by
  rintro ds O P E ⟨ns, rfl, rfl, k⟩
  refine ⟨rfl, Opn.now ?_⟩
  have hs : startD N_law [.scr ns] = [some (.scr ns), none, none, none, none, none, none, none, none, none, none, none] := rfl
  rw [hs]
  unfold T_law
  push_cast
  refine ⟨ns, 128, rfl, fun b hb => ?_⟩
  have gb : getC [(b, Cell.box)] b = some .box := getC_self
  unfold T_law_21
  push_cast
  refine ⟨b, _, rfl, gb, by omega, by omega, fun r h0 h1 => ?_⟩
  obtain ⟨m, rfl⟩ : ∃ m : Nat, r = (m : Int) := ⟨r.toNat, by omega⟩
  push_cast
  refine ⟨b, 1 + m, by simp, gb, by omega, fun ws hl nd hok => ?_⟩
  unfold T_law_20
  push_cast
  refine ⟨b, ws, rfl, gb, by omega, hok, fun gs hgs hg p hp => ?_⟩
  have g2 : ∀ c, getC ((p, c) :: [(b, Cell.box)]) b = some .box := fun c => getC_fresh gb hp
  have hgl : gs.length = ws.length := by rw [← hgs, List.length_map]
  have lp : lenD ((p, Cell.lst (gs.map specD)) :: [(b, Cell.box)]) (.ptr p) = some gs.length := by rw [n_ptr getC_self, List.length_map]
  have ll : lstOf ((p, Cell.lst (gs.map specD)) :: [(b, Cell.box)]) (.ptr p) = some (gs.map specD) := l_ptr getC_self
  unfold T_law_19
  push_cast [lp]
  refine ⟨b, _, rfl, g2 _, by omega, by omega, fun r r0 r1 => ?_⟩
  obtain ⟨rn, rfl⟩ : ∃ m : Nat, r = (m : Int) := ⟨r.toNat, by omega⟩
  have hr : rn < gs.length := by omega
  obtain ⟨s0, e0⟩ : ∃ s0, gs[rn]? = some s0 := ⟨_, List.getElem?_eq_getElem hr⟩
  have at0 : atI (gs.map specD) (rn : Int) = some (specD s0) := atI_nat (by rw [List.getElem?_map, e0]; rfl)
  have hm0 : s0 ∈ gs := List.mem_of_getElem? e0
  push_cast [ll, at0]
  unfold T_law_18
  push_cast
  have e18 : (10 : Int) ^ Int.toNat 18 = 1000000000000000000 := by decide
  refine ⟨⟨by omega, by omega, by decide⟩, b, _, rfl, g2 _, by omega, by omega, fun t t0 t1 => ?_⟩
  rw [e18]
  push_cast
  unfold T_law_17
  push_cast [ix0, ix1, ix3]
  refine ⟨by unfold CDiv; omega, by rw [sizeLine_eq]; omega, ?_⟩
  have hg0 := hg s0 hm0
  have okA : ∀ s ∈ gs ++ [(⟨s0.name, s0.sort, 1000000000000000000 - 1 - t, 1000000000000000000 - 1 - t - s0.step, (1000000000000000000 - 1 - t) / 7, 1000000000000000000 - 1 - t - 5⟩ : Gs)], okG s ∧ smG s := by
    intro s hs
    rcases List.mem_append.mp hs with hs | hs
    · obtain ⟨q1, q2, q3, q4, q5⟩ := hg s hs
      exact ⟨q1, by omega, by omega, by omega, by omega⟩
    · rw [List.mem_singleton.mp hs]
      obtain ⟨q1, q2, q3, q4, q5⟩ := hg0
      exact ⟨⟨q1.nm, q1.so, by show 0 ≤ 1000000000000000000 - 1 - t; omega, by show 1 ≤ 1000000000000000000 - 1 - t - s0.step; omega, by show 0 ≤ (1000000000000000000 - 1 - t) / 7; omega, by show 0 ≤ 1000000000000000000 - 1 - t - 5; omega, by show (1000000000000000000 - 1 - t) / 7 < 2 ^ 64; omega⟩, by show 1000000000000000000 - 1 - t < 10 ^ 18; omega, by show 1000000000000000000 - 1 - t - s0.step < 10 ^ 18; have := q1.st; omega, by show (1000000000000000000 - 1 - t) / 7 < 10 ^ 18; omega, by show 1000000000000000000 - 1 - t - 5 < 10 ^ 18; omega⟩
  have ea : List.map specD gs ++ [D.tup [.str s0.name, .int (s0.sort : Int), .int (1000000000000000000 - 1 - t), .int (1000000000000000000 - 1 - t - s0.step), .int ((1000000000000000000 - 1 - t) / 7), .int (1000000000000000000 - 1 - t - 5)]] = (gs ++ [(⟨s0.name, s0.sort, 1000000000000000000 - 1 - t, 1000000000000000000 - 1 - t - s0.step, (1000000000000000000 - 1 - t) / 7, 1000000000000000000 - 1 - t - 5⟩ : Gs)]).map specD := by rw [List.map_append]; rfl
  rw [ea]
  generalize gs ++ [(⟨s0.name, s0.sort, 1000000000000000000 - 1 - t, 1000000000000000000 - 1 - t - s0.step, (1000000000000000000 - 1 - t) / 7, 1000000000000000000 - 1 - t - 5⟩ : Gs)] = ga at *
  unfold T_law_16
  push_cast [getC_self]
  refine for_inv2 (emb := specD) (I := fun l Δ O1 => O1 = [(b, Cell.box)] ∧ ∃ z4 z6 z7 z8 z9 z10 z11, Δ = [some (.scr ns), some (.ptr b), some (.lst (ws.map D.str)), some (.ptr p), z4, some (.int (1000000000000000000 - 1 - t)), z6, z7, z8, z9, z10, z11]) ⟨rfl, _, _, _, _, _, _, _, rfl⟩ ?_ ?_
  · rintro Δ O1 ⟨rfl, z4, z6, z7, z8, z9, z10, z11, rfl⟩
    push_cast
    exact weak_now (k _)
  · rintro l s r e Δ O1 K ⟨rfl, z4, z6, z7, z8, z9, z10, z11, rfl⟩ hK
    obtain ⟨ok, sm⟩ := okA s (by rw [e]; simp)
    have in13 : ∀ (O : Sto) (P : KD), fIn (.int (s.sort : Int)) (.lst [.int 1, .int 3]) O P = P (.bl (decide (s.sort = 1 ∨ s.sort = 3))) O := fun O P => by
      have e := f_inI (neg := false) (i := (s.sort : Int)) (ns := [1, 3]) (O := O) (P := P)
      have e2 : decide ((s.sort : Int) ∈ ([1, 3] : List Int)) = decide (s.sort = 1 ∨ s.sort = 3) := decide_eq_decide.mpr (by simp; omega)
      rw [← e2]
      exact e
    push_cast
    unfold T_law_15
    push_cast
    refine ⟨s, rfl, ok, sm, ?_⟩
    unfold T_law_14
    push_cast
    refine ⟨s, rfl, ok, ?_⟩
    unfold T_law_13
    push_cast [ix0, ix1, ix2, ix3, in13, f_intB, f_rep]
    unfold T_law_12
    push_cast [ix0, ix1, ix2, ix3, ix4, ix5, in13, f_intB, f_rep]
    have rp : ∀ (c : Prop) [Decidable c] (xs : List D), (List.replicate (if c then (1 : Int) else 0).toNat xs).flatten = if c then xs else [] := by intro c _ xs; split <;> simp
    rw [rp, rp]
    have c2 : (2 ≤ (s.sort : Int)) ↔ 2 ≤ s.sort := by omega
    have c3 : ((s.sort : Int) = 3) ↔ s.sort = 3 := by omega
    simp only [c2, c3]
    have ed : D.lst ([D.str s.name, D.int (s.sort : Int), D.int s.radius] ++ (if s.sort = 1 ∨ s.sort = 3 then [D.int s.step] else []) ++ (if 2 ≤ s.sort then [D.int s.late, D.int s.pace] else []) ++ [D.bl (decide (s.sort = 3))]) = dueD s := rfl
    rw [ed]
    have hle : ∀ (c : Prop) [Decidable c] (xs : List D), xs.length ≤ 2 → (if c then xs else []).length ≤ 2 := by intro c _ xs h; split <;> simp [h]
    have h1 := hle (s.sort = 1 ∨ s.sort = 3) [D.int s.step] (by simp)
    have h2 := hle (2 ≤ s.sort) [D.int s.late, D.int s.pace] (by simp)
    refine ⟨by split <;> omega, by split <;> omega, by rw [sizeLine_eq]; split <;> simp, by rw [sizeLine_eq]; omega, by split <;> omega, by split <;> omega, by rw [sizeLine_eq]; split <;> simp, by rw [sizeLine_eq, List.length_append]; simp only [List.length_cons, List.length_nil]; omega, by rw [sizeLine_eq, List.length_append, List.length_append]; simp only [List.length_cons, List.length_nil]; omega, ?_⟩
    unfold T_law_11
    push_cast
    refine ⟨s, rfl, ok, sm, ?_⟩
    refine fneTx (v := true) (decide_eq_true rfl) ?_
    push_cast
    obtain ⟨s', e', ed'⟩ := rd_line ok sm
    refine ⟨wordsG s, rfl, words_ok ok sm, fun s2 q2 => ?_, fun hn => by rw [hn] at e'; cases e'⟩
    rw [e'] at q2
    cases q2
    rw [ed']
    refine fneN9 (eq_due ok.nm.str) ?_
    push_cast [ix0]
    have l1 : (" " : Str).length = 1 := by decide
    have l2 : ("\n" : Str).length = 1 := by decide
    have l3 : (" +1" : Str).length = 3 := by decide
    have l4 : (" 01" : Str).length = 3 := by decide
    have l5 : (" -1" : Str).length = 3 := by decide
    have l6 : (" 1 step 0" : Str).length = 9 := by decide
    have l7 : (" 1 step" : Str).length = 7 := by decide
    have l8 : (" 1 late 2" : Str).length = 9 := by decide
    have l9 : (" 1 x" : Str).length = 4 := by decide
    have l10 : (" 1 pace 2 late 3" : Str).length = 16 := by decide
    have l11 : (" 1 late 2 step 3" : Str).length = 16 := by decide
    have l12 : (" 1 late 1 pace 1 step 1" : Str).length = 23 := by decide
    have l13 : (" 1000000000000000000" : Str).length = 20 := by decide
    have l14 : (" 1 step 1 late 1 pace" : Str).length = 21 := by decide
    have l15 : (" 1 step 01" : Str).length = 10 := by decide
    have l16 : (" 1" : Str).length = 2 := by decide
    have l17 : (" 1 step 1 late 1 pace 1 x" : Str).length = 25 := by decide
    have l18 : (" 1 step 1 late 1 pace 1 step 1" : Str).length = 30 := by decide
    have l19 : (" 1 Step 1" : Str).length = 9 := by decide
    have hn := ok.nm.len
    have hln := line_len ok sm
    have hup := (bad_up ok.nm).2
    have hrl := repl_len ok sm
    have z2 : ("  " : Str).length = 2 := by decide
    unfold T_law_10
    push_cast [l1, l2, l3, l4, l5, l6, l7, l8, l9, l10, l11, l12, l13, l14, l15, l16, l17, l18, l19]
    repeat (with_reducible refine And.intro (by first | omega | (rw [sizeLine_eq]; omega) | (rw [sizeLine_eq]; simp)) ?_)
    unfold T_law_9
    push_cast [e_repl1, z2, l1, l2, l3, l4, l5, l6, l7, l8, l9, l10, l11, l12, l13, l14, l15, l16, l17, l18, l19]
    repeat (with_reducible refine And.intro (by first | omega | (rw [sizeLine_eq]; omega) | (rw [sizeLine_eq]; simp)) ?_)
    unfold T_law_8
    push_cast [l1, l2, l3, l4, l5, l6, l7, l8, l9, l10, l11, l12, l13, l14, l15, l16, l17, l18, l19]
    repeat (with_reducible refine And.intro (by first | omega | (rw [sizeLine_eq]; omega) | (rw [sizeLine_eq]; simp)) ?_)
    unfold T_law_7
    push_cast [l1, l2, l3, l4, l5, l6, l7, l8, l9, l10, l11, l12, l13, l14, l15, l16, l17, l18, l19]
    repeat (with_reducible refine And.intro (by first | omega | (rw [sizeLine_eq]; omega) | (rw [sizeLine_eq]; simp)) ?_)
    unfold T_law_6
    push_cast [l1, l2, l3, l4, l5, l6, l7, l8, l9, l10, l11, l12, l13, l14, l15, l16, l17, l18, l19]
    repeat (with_reducible refine And.intro (by first | omega | (rw [sizeLine_eq]; omega) | (rw [sizeLine_eq]; simp)) ?_)
    unfold T_law_5
    push_cast [l1, l2, l3, l4, l5, l6, l7, l8, l9, l10, l11, l12, l13, l14, l15, l16, l17, l18, l19]
    repeat (with_reducible refine And.intro (by first | omega | (rw [sizeLine_eq]; omega) | (rw [sizeLine_eq]; simp)) ?_)
    unfold T_law_4
    push_cast [l1, l2, l3, l4, l5, l6, l7, l8, l9, l10, l11, l12, l13, l14, l15, l16, l17, l18, l19]
    repeat (with_reducible refine And.intro (by first | omega | (rw [sizeLine_eq]; omega) | (rw [sizeLine_eq]; simp)) ?_)
    unfold T_law_3
    push_cast [f_upper, l1, l2, l3, l4, l5, l6, l7, l8, l9, l10, l11, l12, l13, l14, l15, l16, l17, l18, l19]
    repeat (with_reducible refine And.intro (by first | omega | (rw [sizeLine_eq]; omega) | (rw [sizeLine_eq]; simp)) ?_)
    unfold T_law_2
    push_cast [l1, l2, l3, l4, l5, l6, l7, l8, l9, l10, l11, l12, l13, l14, l15, l16, l17, l18, l19]
    repeat (with_reducible refine And.intro (by first | omega | (rw [sizeLine_eq]; omega) | (rw [sizeLine_eq]; simp)) ?_)
    unfold T_law_1
    push_cast [l1, l2, l3, l4, l5, l6, l7, l8, l9, l10, l11, l12, l13, l14, l15, l16, l17, l18, l19]
    repeat (with_reducible refine And.intro (by first | omega | (rw [sizeLine_eq]; omega) | (rw [sizeLine_eq]; simp)) ?_)
    rw [← badL_map]
    have hB := bad_all ok sm
    generalize badL s.name (lineG s) = bl at *
    generalize D.str s.name = z9'
    refine for_inv2 (emb := D.str) (I := fun l Δ O1 => O1 = [(b, Cell.box)] ∧ ∃ z11, Δ = [some (.scr ns), some (.ptr b), some (.lst (ws.map D.str)), some (.ptr p), some (specD s), some (.int (1000000000000000000 - 1 - t)), some (.str (lineG s)), some (gaugeD s), some (dueD s), some z9', some (.lst (bl.map D.str)), z11]) ⟨rfl, _, rfl⟩ ?_ ?_
    · rintro Δ O1 ⟨rfl, z11, rfl⟩
      exact hK _ _ ⟨rfl, _, _, _, _, _, _, _, rfl⟩
    · rintro l' w r' e3 Δ O1 K' ⟨rfl, z11, rfl⟩ hK'
      obtain ⟨wds, rfl, wo, hnone⟩ := hB w (by rw [e3]; simp)
      push_cast
      unfold T_law_0
      push_cast
      refine ⟨wds, rfl, wo, fun s2 q2 => (by rw [hnone] at q2; cases q2), fun _ => ?_⟩
      refine fneN9 (eq_bad wo.str) ?_
      push_cast
      exact hK' _ _ ⟨rfl, _, rfl⟩

section
variable {g : Gm} {P : Program} {w : World} {mg : Str → Option Value} {base : Heap}
theorem sc_law_take : FnScope N_law_take ["_law_box_here", "_law_many"] (defScope s_law_take) := ⟨rfl, rfl, rfl, by decide +kernel, rfl, by decide +kernel, by decide +kernel⟩
theorem b_law_take (B : Bt mg)  : BodyOk g P w g.K mg base 0 N_law_take "_law_take" s_law_take T_law_take := fun f cdv A outer s H E hr =>
  (qss_cons (qs_asg 2 sc_law_take.nd (q_ix (q_var 0) q_int)) (qss_cons (qs_if (PW.pt (qw_and (qt_cmp (op_eqA hr.units) lk_eq (q_ix (q_var 0) q_int) q_int (nomark _)) (qw_and (qt_cmp op_lt lk_lt (q_ix (q_var 0) q_int) (q_callB call_lenA lk_len B.len (qa_cons (q_var 2) qa_nil)) (nomark _)) (qw_and1 (qt_cmp op_gt lk_gt (q_ix (q_var 2) (q_ix (q_var 0) q_int)) (q_op op_pow lk_pow q_int q_int) (nomark _)))))) (qss_cons (qs_setIx (q_var 0) q_int (q_op op_sub lk_sub (q_ix (q_var 2) (q_ix (q_var 0) q_int)) (q_op op_pow lk_pow q_int q_int))) (qss_one (qs_setIx (q_var 0) q_int (q_op op_addA lk_add (q_ix (q_var 0) q_int) q_int)))) qss_nil) (qss_cons (qs_if (qt_cmp op_gt lk_gt (q_ix (q_var 0) q_int) q_int (nomark _)) (qss_cons (qs_asg 3 sc_law_take.nd (q_op op_mod lk_mod (q_callTy call_int1 lk_int B.int (qa_cons (q_ix (q_var 0) q_int) qa_nil)) (q_var 1))) (qss_cons (qs_setIx (q_var 0) q_int (q_op op_fdiv lk_div (q_callTy call_int1 lk_int B.int (qa_cons (q_ix (q_var 0) q_int) qa_nil)) (q_var 1))) (qss_one (qs_ret (q_var 3))))) qss_nil) (qss_cons (qs_asg 4 sc_law_take.nd q_int) (qss_cons (qs_if (qt_cmp op_lt lk_lt (q_ix (q_var 0) q_int) (q_callB call_lenA lk_len B.len (qa_cons (q_var 2) qa_nil)) (nomark _)) (qss_one (qs_asg 4 sc_law_take.nd (q_callTy call_int1 lk_int B.int (qa_cons (q_ix (q_var 2) (q_ix (q_var 0) q_int)) qa_nil)))) qss_nil) (qss_cons (qs_setIx (q_var 0) q_int (q_op op_addA lk_add (q_ix (q_var 0) q_int) q_int)) (qss_cons (qs_setIx (q_var 0) q_int (q_op op_mod lk_mod (q_callTy call_int1 lk_int B.int (qa_cons (q_op op_addA lk_add (q_op op_addA lk_add (q_op op_mul lk_mul (q_ix (q_var 0) q_int) q_int) (q_op op_mul lk_mul (q_var 4) q_int)) (q_ix (q_var 0) q_int)) qa_nil)) q_int)) (qss_one (qs_ret (q_op op_mod lk_mod (q_op op_mod lk_mod (q_callTy call_int1 lk_int B.int (qa_cons (q_op op_addA lk_add (q_op op_mul lk_mul (q_op op_fdiv lk_div (q_ix (q_var 0) q_int) q_int) q_int) (q_op op_mod lk_mod (q_callTy call_int1 lk_int B.int (qa_cons (q_ix (q_var 0) q_int) qa_nil)) q_int)) qa_nil)) q_int) (q_var 1)))))))))))

theorem sc_law_box : FnScope N_law_box ["_law_script", "_law_salt"] (defScope s_law_box) := ⟨rfl, rfl, rfl, by decide +kernel, rfl, by decide +kernel, by decide +kernel⟩
theorem b_law_box (B : Bt mg)  : BodyOk g P w g.K mg base 0 N_law_box "_law_box" s_law_box T_law_box := fun f cdv A outer s H E hr =>
  (qss_one (qs_ret (q_lstO (qa_cons (q_lc (own := [("_law_cell", 2)]) sc_law_box.nd (qi_list (q_slice (q_var 0) qo_none (qo_some q_int))) (blkOk_by (N := N_law_box) (sc := defScope s_law_box) (by decide +kernel)) (fun _ _ _ _ _ => pg_name (i := 2) sc_law_box.nd rfl (by first | exact Or.inl rfl | exact Or.inr rfl)) (lkg_name 2) (fun _ _ _ _ _ => qts_nil) (fun _ _ _ _ _ => (q_callTy call_int1 lk_int B.int (qa_cons (q_var 2) qa_nil)))) (qa_cons q_int (qa_cons q_int (qa_cons (q_var 1) qa_nil)))))))

theorem sc_law_word : FnScope N_law_word ["_law_number", "_law_many", "_law_back"] (defScope s_law_word) := ⟨rfl, rfl, rfl, by decide +kernel, rfl, by decide +kernel, by decide +kernel⟩
theorem b_law_word (B : Bt mg)  : BodyOk g P w g.K mg base 0 N_law_word "_law_word" s_law_word T_law_word := fun f cdv A outer s H E hr =>
  (qss_cons (qs_asg 3 sc_law_word.nd q_str) (qss_cons (qs_for (passes_of rfl) (qi_range1 B.range (qa_cons (q_var 1) qa_nil)) (pg_name (i := 4) sc_law_word.nd rfl (by first | exact Or.inl rfl | exact Or.inr rfl)) (lkg_name 4) (qss_cons (qs_asg 3 sc_law_word.nd (q_op op_addA lk_add (q_var 3) (q_ix q_str (q_op op_mod lk_mod (q_callTy call_int1 lk_int B.int (qa_cons (q_var 0) qa_nil)) q_int)))) (qss_one (qs_asg 0 sc_law_word.nd (q_op op_fdiv lk_div (q_callTy call_int1 lk_int B.int (qa_cons (q_var 0) qa_nil)) q_int))))) (qss_cons (qs_if (qt_tru (q_var 2)) (qss_one (qs_ret (q_revS (q_var 3)))) qss_nil) (qss_one (qs_ret (q_var 3))))))

theorem sc_law_words : FnScope N_law_words ["_law_box_here", "_law_many"] (defScope s_law_words) := ⟨rfl, rfl, rfl, by decide +kernel, rfl, by decide +kernel, by decide +kernel⟩
theorem b_law_words (B : Bt mg) (gd_law_take : GD g P w g.K mg base 1 "_law_take" S_law_take) (gd_law_word : GD g P w g.K mg base 1 "_law_word" S_law_word) : BodyOk g P w g.K mg base 1 N_law_words "_law_words" s_law_words T_law_words := fun f cdv A outer s H E hr =>
  (qss_cons (qs_asg 2 sc_law_words.nd (q_lstO qa_nil)) (qss_cons (qs_asg 3 sc_law_words.nd (q_cmp (op_eqA hr.units) lk_eq (q_gcall gd_law_take hr (takes_of rfl rfl rfl rfl) (qa_cons (q_var 0) (qa_cons q_int qa_nil))) q_int (nomark _))) (qss_cons (qs_for (passes_of rfl) (qi_range1 B.range (qa_cons (q_var 1) qa_nil)) (pg_name (i := 4) sc_law_words.nd rfl (by first | exact Or.inl rfl | exact Or.inr rfl)) (lkg_name 4) (qss_cons (qs_asg 5 sc_law_words.nd (q_ix (q_lst (qa_cons q_int (qa_cons q_int (qa_cons q_int (qa_cons q_int (qa_cons q_int (qa_cons q_int qa_nil))))))) (q_gcall gd_law_take hr (takes_of rfl rfl rfl rfl) (qa_cons (q_var 0) (qa_cons q_int qa_nil))))) (qss_cons (qs_asg 6 sc_law_words.nd (q_gcall gd_law_take hr (takes_of rfl rfl rfl rfl) (qa_cons (q_var 0) (qa_cons q_int qa_nil)))) (qss_cons (qs_asg 7 sc_law_words.nd (q_gcall gd_law_word hr (takes_of rfl rfl rfl rfl) (qa_cons (q_var 6) (qa_cons (q_var 5) (qa_cons (q_var 3) qa_nil))))) (qss_cons (qs_for (passes_of rfl) (qi_range1 B.range (qa_cons q_int qa_nil)) (pg_name (i := 8) sc_law_words.nd rfl (by first | exact Or.inl rfl | exact Or.inr rfl)) (lkg_name 8) (qss_one (qs_if (PW.pt (qw_or (qt_cmp op_in_seq lk_in (q_var 7) (q_var 2) (by rfl)) (qw_or1 (qt_cmp op_in_seq lk_in (q_var 7) (q_lst (qa_cons q_str (qa_cons q_str (qa_cons q_str (qa_cons q_str qa_nil))))) (by rfl))))) (qss_cons (qs_asg 6 sc_law_words.nd (q_op op_addA lk_add (q_var 6) q_int)) (qss_one (qs_asg 7 sc_law_words.nd (q_gcall gd_law_word hr (takes_of rfl rfl rfl rfl) (qa_cons (q_var 6) (qa_cons (q_var 5) (qa_cons (q_var 3) qa_nil))))))) qss_nil))) (qss_one (qs_expr (q_app (pe_bm PySem.F.plainAttrs_list PySem.F.slot_list_append PySem.F.type_list_append mt_append (q_var 2) (pa_cons (q_var 7) pa_nil)))))))))) (qss_one (qs_ret (q_frz (q_var 2)))))))

theorem sc_valid_name : FnScope N_valid_name ["name"] (defScope s_valid_name) := ⟨rfl, rfl, rfl, by decide +kernel, rfl, by decide +kernel, by decide +kernel⟩
theorem b_valid_name (B : Bt mg) (cvi_Gauge_LONGEST : CVI g g.K .Gauge "LONGEST" 12) (mgc_Gauge : mg "Gauge" = some (.ref (g.ca .Gauge))) (kt_WORDS : KTup g.K mg "WORDS" ["rank", "trim", "weigh", "together"]) (gs_LETTERS : ∃ t : Tok, mg "LETTERS" = some (.str "abcdefghijklmnopqrstuvwxyz" t)) : BodyOkA 0 g P w g.K mg base 0 N_valid_name "valid_name" s_valid_name T_valid_name := fun f cdv A outer s H E hr =>
  (qss_cons (qs_if (PW.pt (qw_or (qt_not (qt_val (q_isB (n := "str") B.isinstance B.str (q_var 0)))) (qw_or (qt_not (qt_chain op_le op_le lk_le lk_le q_int (q_callB call_lenA lk_len B.len (qa_cons (q_var 0) qa_nil)) (q_cvalI cvi_Gauge_LONGEST mgc_Gauge))) (qw_or1 (qt_inK kt_WORDS (q_var 0)))))) (qss_one (qs_ret q_bl)) qss_nil) (qss_one (qs_ret (q_callB (cr_all rfl) lk_all B.all (qa_cons (q_lc (own := [("sign", 1)]) sc_valid_name.nd (qi_str (q_var 0)) (blkOk_by (N := N_valid_name) (sc := defScope s_valid_name) (by decide +kernel)) (fun _ _ _ _ _ => pg_name (i := 1) sc_valid_name.nd rfl (by first | exact Or.inl rfl | exact Or.inr rfl)) (lkg_name 1) (fun _ _ _ _ _ => qts_nil) (fun _ _ _ _ _ => (q_cmp op_in_sign lk_sign (q_var 1) (q_gStr gs_LETTERS.choose_spec) (by rfl)))) qa_nil)))))

theorem sc_Gauge_init : FnScope N_Gauge_init ["self", "name", "radius"] (defScope s_Gauge_init) := ⟨rfl, rfl, rfl, by decide +kernel, rfl, by decide +kernel, by decide +kernel⟩
theorem b_Gauge_init (B : Bt mg) (gdA_valid_name : GDA 0 g P w g.K mg base 1 "valid_name" S_valid_name) (gx_BadGauge : GX g P w g.K mg base .BadGauge "BadGauge" [.name]) (fl_name : Flds g [.Gauge, .CoarseGauge, .LateGauge, .LateCoarseGauge] .name) (fl_radius : Flds g [.Gauge, .CoarseGauge, .LateGauge, .LateCoarseGauge] .radius) : BodyOkA 0 g P w g.K mg base 2 N_Gauge_init "Gauge.__init__" s_Gauge_init T_Gauge_init := fun f cdv A outer s H E hr =>
  (qss_cons (qs_if (PW.pt (qw_or (qt_not (qt_val (q_gcallA gdA_valid_name hr (AX.takes_of (n := 0) rfl rfl rfl rfl) (qa_cons (q_var 1) qa_nil)))) (qw_or1 (qt_cmp op_lt lk_lt (q_var 2) q_int (nomark _))))) (qss_one (qs_raiseA gx_BadGauge hr (AX.takes_of (n := 0) rfl rfl rfl rfl) (qa_cons (q_var 1) qa_nil))) qss_nil) (qss_cons (qs_setF fl_name (q_var 0) (q_var 1)) (qss_one (qs_setF fl_radius (q_var 0) (q_var 2)))))

theorem sc_CoarseGauge_init : NdefX.NScope N_CoarseGauge_init ["self", "name", "radius", "step"] ["__class__"] (defScope s_CoarseGauge_init) := NdefX.nscope_by (by decide +kernel)
theorem b_CoarseGauge_init {f cc cda D : Addr} {fd : FuncData} {file : Str} (B : Bt mg) (FS : FunS g.K "__init__" "CoarseGauge.__init__" s_CoarseGauge_init f fd cc cda D file) (PG : Pg P file) (stbA_CoarseGauge_init : STabA 0 g P w g.K mg base 3 D "__init__" [(.CoarseGauge, S_Gauge_init)]) (gx_BadGauge : GX g P w g.K mg base .BadGauge "BadGauge" [.name]) (fl_step : Flds g [.CoarseGauge, .LateCoarseGauge] .step) : BodyOkSA 0 g P w g.K mg base 3 N_CoarseGauge_init "__init__" "CoarseGauge.__init__" s_CoarseGauge_init f cc cda T_CoarseGauge_init := fun A outer s H E hr =>
  (qf_exp (q_supA FS PG ⟨rfl, rfl, ⟨_, rfl, rfl⟩, rfl, rfl, rfl⟩ B.super stbA_CoarseGauge_init (hr.mono (by decide)) (AX.takes_of (n := 0) rfl rfl rfl rfl) (qa_cons (q_var 1) (qa_cons (q_var 2) qa_nil))) (qf_cons (qs_if (qt_cmp op_lt lk_lt (q_var 3) q_int (nomark _)) (qss_one (qs_raiseA gx_BadGauge hr (AX.takes_of (n := 0) rfl rfl rfl rfl) (qa_cons (q_var 1) qa_nil))) qss_nil) (qf_of (qss_one (qs_setF fl_step (q_var 0) (q_var 3))))))

theorem sc_LateGauge_init : FnScope N_LateGauge_init ["self", "name", "radius", "late", "pace"] (defScope s_LateGauge_init) := ⟨rfl, rfl, rfl, by decide +kernel, rfl, by decide +kernel, by decide +kernel⟩
theorem b_LateGauge_init (B : Bt mg) (mgc_Gauge : mg "Gauge" = some (.ref (g.ca .Gauge))) (uaA_Gauge_init : UAtA 0 g P w g.K mg base 3 .Gauge "__init__" S_Gauge_init) (gx_BadGauge : GX g P w g.K mg base .BadGauge "BadGauge" [.name]) (fl_late : Flds g [.LateGauge, .LateCoarseGauge] .late) (fl_pace : Flds g [.LateGauge, .LateCoarseGauge] .pace) : BodyOkA 0 g P w g.K mg base 3 N_LateGauge_init "LateGauge.__init__" s_LateGauge_init T_LateGauge_init := fun f cdv A outer s H E hr =>
  (qss_cons (qs_expr (q_ucallA uaA_Gauge_init mgc_Gauge hr (AX.takes_of (n := 0) rfl rfl rfl rfl) (qa_cons (q_var 0) (qa_cons (q_var 1) (qa_cons (q_var 2) qa_nil))))) (qss_cons (qs_if (PW.pt (qw_or (qt_cmp op_lt lk_lt (q_var 3) q_int (nomark _)) (qw_or1 (qt_cmp op_lt lk_lt (q_var 4) q_int (nomark _))))) (qss_one (qs_raiseA gx_BadGauge hr (AX.takes_of (n := 0) rfl rfl rfl rfl) (qa_cons (q_var 1) qa_nil))) qss_nil) (qss_cons (qs_setF fl_late (q_var 0) (q_var 3)) (qss_one (qs_setF fl_pace (q_var 0) (q_var 4))))))

theorem sc_LateCoarseGauge_init : FnScope N_LateCoarseGauge_init ["self", "name", "radius", "step", "late", "pace"] (defScope s_LateCoarseGauge_init) := ⟨rfl, rfl, rfl, by decide +kernel, rfl, by decide +kernel, by decide +kernel⟩
theorem b_LateCoarseGauge_init (B : Bt mg) (mgc_LateGauge : mg "LateGauge" = some (.ref (g.ca .LateGauge))) (uakA_LateGauge_init_late_pace : UAtKA 0 g P w g.K mg base 4 .LateGauge "__init__" 3 ["late", "pace"] [0, 1] S_LateGauge_init) (gx_BadGauge : GX g P w g.K mg base .BadGauge "BadGauge" [.name]) (fl_step : Flds g [.CoarseGauge, .LateCoarseGauge] .step) : BodyOkA 0 g P w g.K mg base 4 N_LateCoarseGauge_init "LateCoarseGauge.__init__" s_LateCoarseGauge_init T_LateCoarseGauge_init := fun f cdv A outer s H E hr =>
  (qss_cons (qs_expr (q_ucallKA uakA_LateGauge_init_late_pace mgc_LateGauge hr (AX.takes_of (n := 0) rfl rfl rfl rfl) (qa_cons (q_var 0) (qa_cons (q_var 1) (qa_cons (q_var 2) qa_nil))) (qk_cons (q_var 4) (qk_cons (q_var 5) qk_nil)))) (qss_cons (qs_if (qt_cmp op_lt lk_lt (q_var 3) q_int (nomark _)) (qss_one (qs_raiseA gx_BadGauge hr (AX.takes_of (n := 0) rfl rfl rfl rfl) (qa_cons (q_var 1) qa_nil))) qss_nil) (qss_one (qs_setF fl_step (q_var 0) (q_var 3)))))

theorem sc_law_specs : FnScope N_law_specs ["_law_box_here", "_law_words_here"] (defScope s_law_specs) := ⟨rfl, rfl, rfl, by decide +kernel, rfl, by decide +kernel, by decide +kernel⟩
theorem b_law_specs (B : Bt mg) (gd_law_take : GD g P w g.K mg base 1 "_law_take" S_law_take) : BodyOk g P w g.K mg base 1 N_law_specs "_law_specs" s_law_specs T_law_specs := fun f cdv A outer s H E hr =>
  (qss_cons (qs_asg 2 sc_law_specs.nd (q_ix (q_lst (qa_cons q_int (qa_cons q_int (qa_cons q_int (qa_cons (q_op op_pow lk_pow q_int q_int) qa_nil))))) (q_gcall gd_law_take hr (takes_of rfl rfl rfl rfl) (qa_cons (q_var 0) (qa_cons q_int qa_nil))))) (qss_cons (qs_asg 3 sc_law_specs.nd (q_ix (q_lst (qa_cons q_int (qa_cons q_int (qa_cons q_int qa_nil)))) (q_gcall gd_law_take hr (takes_of rfl rfl rfl rfl) (qa_cons (q_var 0) (qa_cons q_int qa_nil))))) (qss_cons (qs_asg 4 sc_law_specs.nd (q_lstO qa_nil)) (qss_cons (qs_for (passes_of rfl) (qi_list (q_var 1)) (pg_name (i := 5) sc_law_specs.nd rfl (by first | exact Or.inl rfl | exact Or.inr rfl)) (lkg_name 5) (qss_cons (qs_asg 6 sc_law_specs.nd (q_ix (q_lst (qa_cons q_int (qa_cons q_int (qa_cons q_int (qa_cons q_int (qa_cons q_int qa_nil)))))) (q_gcall gd_law_take hr (takes_of rfl rfl rfl rfl) (qa_cons (q_var 0) (qa_cons q_int qa_nil))))) (qss_cons (qs_asg 7 sc_law_specs.nd (q_op op_addA lk_add q_int (q_op op_mul lk_mul (q_var 2) (q_gcall gd_law_take hr (takes_of rfl rfl rfl rfl) (qa_cons (q_var 0) (qa_cons (q_var 3) qa_nil)))))) (qss_cons (qs_asg 8 sc_law_specs.nd (q_op op_mul lk_mul (q_var 2) (q_gcall gd_law_take hr (takes_of rfl rfl rfl rfl) (qa_cons (q_var 0) (qa_cons (q_var 3) qa_nil))))) (qss_one (qs_expr (q_app (pe_bm PySem.F.plainAttrs_list PySem.F.slot_list_append PySem.F.type_list_append mt_append (q_var 4) (pa_cons (q_tup (qa_cons (q_var 5) (qa_cons (q_var 6) (qa_cons (q_op op_mul lk_mul (q_var 2) (q_gcall gd_law_take hr (takes_of rfl rfl rfl rfl) (qa_cons (q_var 0) (qa_cons (q_var 3) qa_nil)))) (qa_cons (q_var 7) (qa_cons (q_gcall gd_law_take hr (takes_of rfl rfl rfl rfl) (qa_cons (q_var 0) (qa_cons q_int qa_nil))) (qa_cons (q_var 8) qa_nil))))))) pa_nil))))))))) (qss_one (qs_ret (q_var 4)))))))

theorem sc_law_gauge : FnScope N_law_gauge ["_law_spec"] (defScope s_law_gauge) := ⟨rfl, rfl, rfl, by decide +kernel, rfl, by decide +kernel, by decide +kernel⟩
theorem b_law_gauge (B : Bt mg) (gck_CoarseGauge_step : GCK g P w g.K mg base 4 .CoarseGauge "CoarseGauge" 2 ["step"] [0] S_CoarseGauge_init) (gck_LateGauge_late_pace : GCK g P w g.K mg base 4 .LateGauge "LateGauge" 2 ["late", "pace"] [0, 1] S_LateGauge_init) (gck_LateCoarseGauge_pace_step_late : GCK g P w g.K mg base 5 .LateCoarseGauge "LateCoarseGauge" 2 ["pace", "step", "late"] [1, 2, 0] S_LateCoarseGauge_init) (gc_Gauge : GC g P w g.K mg base 3 .Gauge "Gauge" S_Gauge_init) : BodyOk g P w g.K mg base 6 N_law_gauge "_law_gauge" s_law_gauge T_law_gauge := fun f cdv A outer s H E hr =>
  (qss_cons (qs_if (qt_cmp (op_eqA hr.units) lk_eq (q_ix (q_var 0) q_int) q_int (nomark _)) (qss_one (qs_ret (q_makeKw gck_CoarseGauge_step hr (takes_of rfl rfl rfl rfl) (qa_cons (q_ix (q_var 0) q_int) (qa_cons (q_ix (q_var 0) q_int) qa_nil)) (qk_cons (q_ix (q_var 0) q_int) qk_nil)))) qss_nil) (qss_cons (qs_if (qt_cmp (op_eqA hr.units) lk_eq (q_ix (q_var 0) q_int) q_int (nomark _)) (qss_one (qs_ret (q_makeKw gck_LateGauge_late_pace hr (takes_of rfl rfl rfl rfl) (qa_cons (q_ix (q_var 0) q_int) (qa_cons (q_ix (q_var 0) q_int) qa_nil)) (qk_cons (q_ix (q_var 0) q_int) (qk_cons (q_ix (q_var 0) q_int) qk_nil))))) qss_nil) (qss_cons (qs_if (qt_cmp (op_eqA hr.units) lk_eq (q_ix (q_var 0) q_int) q_int (nomark _)) (qss_one (qs_ret (q_makeKw gck_LateCoarseGauge_pace_step_late hr (takes_of rfl rfl rfl rfl) (qa_cons (q_ix (q_var 0) q_int) (qa_cons (q_ix (q_var 0) q_int) qa_nil)) (qk_cons (q_ix (q_var 0) q_int) (qk_cons (q_ix (q_var 0) q_int) (qk_cons (q_ix (q_var 0) q_int) qk_nil)))))) qss_nil) (qss_one (qs_ret (q_gmake gc_Gauge hr (takes_of rfl rfl rfl rfl) (qa_cons (q_ix (q_var 0) q_int) (qa_cons (q_ix (q_var 0) q_int) qa_nil))))))))

theorem sc_read_number : FnScope N_read_number ["word", "text"] (defScope s_read_number) := ⟨rfl, rfl, rfl, by decide +kernel, rfl, by decide +kernel, by decide +kernel⟩
theorem b_read_number (B : Bt mg) (gi_LONGEST : ∃ t : Tok, mg "LONGEST" = some (.int 18 t)) (gs_DIGITS : ∃ t : Tok, mg "DIGITS" = some (.str "0123456789" t)) (gx_BadText : GX g P w g.K mg base .BadText "BadText" [.text]) : BodyOkA 0 g P w g.K mg base 2 N_read_number "read_number" s_read_number T_read_number := fun f cdv A outer s H E hr =>
  (qss_cons (qs_if (PW.pt (qw_or (qt_not (qt_chain op_le op_le lk_le lk_le q_int (q_callB call_lenA lk_len B.len (qa_cons (q_var 0) qa_nil)) (q_gInt gi_LONGEST.choose_spec))) (qw_or1 (qt_not (qt_val (q_callB (cr_all rfl) lk_all B.all (qa_cons (q_lc (own := [("sign", 2)]) sc_read_number.nd (qi_str (q_var 0)) (blkOk_by (N := N_read_number) (sc := defScope s_read_number) (by decide +kernel)) (fun _ _ _ _ _ => pg_name (i := 2) sc_read_number.nd rfl (by first | exact Or.inl rfl | exact Or.inr rfl)) (lkg_name 2) (fun _ _ _ _ _ => qts_nil) (fun _ _ _ _ _ => (q_cmp op_in_sign lk_sign (q_var 2) (q_gStr gs_DIGITS.choose_spec) (by rfl)))) qa_nil))))))) (qss_one (qs_raiseA gx_BadText hr (AX.takes_of (n := 0) rfl rfl rfl rfl) (qa_cons (q_var 1) qa_nil))) qss_nil) (qss_cons (qs_if (PW.pt (qw_and (qt_cmp (op_eqA hr.units) lk_eq (q_ix (q_var 0) q_int) q_str (nomark _)) (qw_and1 (qt_cmp op_gt lk_gt (q_callB call_lenA lk_len B.len (qa_cons (q_var 0) qa_nil)) q_int (nomark _))))) (qss_one (qs_raiseA gx_BadText hr (AX.takes_of (n := 0) rfl rfl rfl rfl) (qa_cons (q_var 1) qa_nil))) qss_nil) (qss_one (qs_ret (q_callTy call_int_str lk_intS B.int (qa_cons (q_var 0) qa_nil))))))

theorem sc_numbers_after : FnScope N_numbers_after ["words", "labels", "line"] (defScope s_numbers_after) := ⟨rfl, rfl, rfl, by decide +kernel, rfl, by decide +kernel, by decide +kernel⟩
theorem b_numbers_after (B : Bt mg) (gx_BadText : GX g P w g.K mg base .BadText "BadText" [.text]) (gdA_read_number : GDA 0 g P w g.K mg base 3 "read_number" S_read_number) : BodyOkA 0 g P w g.K mg base 3 N_numbers_after "numbers_after" s_numbers_after T_numbers_after := fun f cdv A outer s H E hr =>
  (qss_cons (qs_if (qt_cmp (op_neA hr.units) lk_ne (q_callB call_lenA lk_len B.len (qa_cons (q_var 0) qa_nil)) (q_op op_mul lk_mul q_int (q_callB call_lenA lk_len B.len (qa_cons (q_var 1) qa_nil))) (nomark _)) (qss_one (qs_raiseA gx_BadText hr (AX.takes_of (n := 0) rfl rfl rfl rfl) (qa_cons (q_var 2) qa_nil))) qss_nil) (qss_cons (qs_asg 3 sc_numbers_after.nd (q_lstO qa_nil)) (qss_cons (qs_for (passes_of rfl) (qi_enumU B.enumerate (qa_cons (q_var 1) qa_nil)) ((pg_tup rfl (pgs_cons (pg_name (i := 4) sc_numbers_after.nd rfl (by first | exact Or.inl rfl | exact Or.inr rfl)) (pgs_cons (pg_name (i := 5) sc_numbers_after.nd rfl (by first | exact Or.inl rfl | exact Or.inr rfl)) pgs_nil)))) (lkg_tup [4, 5]) (qss_cons (qs_if (qt_cmp (op_neA hr.units) lk_ne (q_ix (q_var 0) (q_op op_mul lk_mul q_int (q_var 4))) (q_var 5) (nomark _)) (qss_one (qs_raiseA gx_BadText hr (AX.takes_of (n := 0) rfl rfl rfl rfl) (qa_cons (q_var 2) qa_nil))) qss_nil) (qss_one (qs_expr (q_app (pe_bm PySem.F.plainAttrs_list PySem.F.slot_list_append PySem.F.type_list_append mt_append (q_var 3) (pa_cons (q_gcallA gdA_read_number hr (AX.takes_of (n := 0) rfl rfl rfl rfl) (qa_cons (q_ix (q_var 0) (q_op op_addA lk_add (q_op op_mul lk_mul q_int (q_var 4)) q_int)) (qa_cons (q_var 2) qa_nil))) pa_nil))))))) (qss_one (qs_ret (q_frz (q_var 3)))))))

theorem sc_read_gauge : FnScope N_read_gauge ["line"] (defScope s_read_gauge) := ⟨rfl, rfl, rfl, by decide +kernel, rfl, by decide +kernel, by decide +kernel⟩
theorem b_read_gauge (B : Bt mg) (gx_BadText : GX g P w g.K mg base .BadText "BadText" [.text]) (gd_read_number : GD g P w g.K mg base 3 "read_number" S_read_number) (gdA_numbers_after : GDA 0 g P w g.K mg base 4 "numbers_after" S_numbers_after) (gckA_LateCoarseGauge_step_late_pace : GCKA 0 g P w g.K mg base 5 .LateCoarseGauge "LateCoarseGauge" 2 ["step", "late", "pace"] [0, 1, 2] S_LateCoarseGauge_init) (gckA_LateGauge_late_pace : GCKA 0 g P w g.K mg base 4 .LateGauge "LateGauge" 2 ["late", "pace"] [0, 1] S_LateGauge_init) (gckA_CoarseGauge_step : GCKA 0 g P w g.K mg base 4 .CoarseGauge "CoarseGauge" 2 ["step"] [0] S_CoarseGauge_init) (gcA_Gauge : GCA 0 g P w g.K mg base 3 .Gauge "Gauge" S_Gauge_init) (mg_BadGauge : mg "BadGauge" = some (.ref (g.ea .BadGauge))) (ct_BadGauge : Cat g g.K (.ref (g.ea .BadGauge)) catBadGauge) (xbe_BadGauge : ∀ ec, catBadGauge ec = some true → PySem.W.subIn g.K (.ref (g.ea ec)) (.type "BaseException") = some true) (gxw_BadText : GXW g P w g.K mg base .BadText "BadText" [.text]) : BodyOk g P w g.K mg base 6 N_read_gauge "read_gauge" s_read_gauge T_read_gauge := fun f cdv A outer s H E hr =>
  (qss_cons (qs_asg 1 sc_read_gauge.nd (q_split (q_var 0) q_str)) (qss_cons (qs_if (qt_cmp op_lt lk_lt (q_callB call_lenA lk_len B.len (qa_cons (q_var 1) qa_nil)) q_int (nomark _)) (qss_one (qs_raise gx_BadText hr (takes_of rfl rfl rfl rfl) (qa_cons (q_var 0) qa_nil))) qss_nil) (qss_cons (qs_starL (n := 0) (js := [2, 3, 4]) 2 rfl (q_var 1) (pgs_cons (pg_name (i := 2) sc_read_gauge.nd rfl (by first | exact Or.inl rfl | exact Or.inr rfl)) (pgs_cons (pg_name (i := 3) sc_read_gauge.nd rfl (by first | exact Or.inl rfl | exact Or.inr rfl)) (pgs_star (pg_name (i := 4) sc_read_gauge.nd rfl (by first | exact Or.inl rfl | exact Or.inr rfl)) pgs_nil)))) (qss_cons (qs_asg 5 sc_read_gauge.nd (q_gcall gd_read_number hr (takes_of rfl rfl rfl rfl) (qa_cons (q_var 3) (qa_cons (q_var 0) qa_nil)))) (qss_one (qs_tryF 10 (cn := 0) (by decide) sc_read_gauge.nd ⟨rfl, by decide, .inl mg_BadGauge⟩ (AX.Takes.of_old (takes_of rfl rfl rfl rfl)) ct_BadGauge xbe_BadGauge (fun hd => L2H.passesAt_of rfl hd) (fun W' pn xe tk hp => (qss_one (qs_match (q_var 4) (qm_len (n := 0) (qss_one (qs_ret (q_gmakeA gcA_Gauge hr tk (qa_cons (q_var 2) (qa_cons (q_var 5) qa_nil))))) (qm_len (n := 2) (qss_cons (qs_asg 6 sc_read_gauge.nd (q_gcallA gdA_numbers_after hr tk (qa_cons (q_var 4) (qa_cons (q_tup (qa_cons q_str qa_nil)) (qa_cons (q_var 0) qa_nil))))) (qss_one (qs_ret (q_makeKwA gckA_CoarseGauge_step hr tk (qa_cons (q_var 2) (qa_cons (q_var 5) qa_nil)) (qk_cons (q_ix (q_var 6) q_int) qk_nil))))) (qm_len (n := 4) (qss_cons (qs_asgG (q_gcallA gdA_numbers_after hr tk (qa_cons (q_var 4) (qa_cons (q_tup (qa_cons q_str (qa_cons q_str qa_nil))) (qa_cons (q_var 0) qa_nil)))) (pg_tupL rfl (pgs_cons (pg_name (i := 7) sc_read_gauge.nd rfl (by first | exact Or.inl rfl | exact Or.inr rfl)) (pgs_cons (pg_name (i := 8) sc_read_gauge.nd rfl (by first | exact Or.inl rfl | exact Or.inr rfl)) pgs_nil))) (lkg_tupL [7, 8])) (qss_one (qs_ret (q_makeKwA gckA_LateGauge_late_pace hr tk (qa_cons (q_var 2) (qa_cons (q_var 5) qa_nil)) (qk_cons (q_var 7) (qk_cons (q_var 8) qk_nil)))))) (qm_wild (qss_cons (qs_asgG (q_gcallA gdA_numbers_after hr tk (qa_cons (q_var 4) (qa_cons (q_tup (qa_cons q_str (qa_cons q_str (qa_cons q_str qa_nil)))) (qa_cons (q_var 0) qa_nil)))) (pg_tupL rfl (pgs_cons (pg_name (i := 9) sc_read_gauge.nd rfl (by first | exact Or.inl rfl | exact Or.inr rfl)) (pgs_cons (pg_name (i := 7) sc_read_gauge.nd rfl (by first | exact Or.inl rfl | exact Or.inr rfl)) (pgs_cons (pg_name (i := 8) sc_read_gauge.nd rfl (by first | exact Or.inl rfl | exact Or.inr rfl)) pgs_nil)))) (lkg_tupL [9, 7, 8])) (qss_one (qs_ret (q_makeKwA gckA_LateCoarseGauge_step_late_pace hr tk (qa_cons (q_var 2) (qa_cons (q_var 5) qa_nil)) (qk_cons (q_var 9) (qk_cons (q_var 7) (qk_cons (q_var 8) qk_nil)))))))))))))) gxw_BadText hr (fun a pn xe W' => (qa_cons (q_var 0) qa_nil))))))))

theorem sc_write_gauge : FnScope N_write_gauge ["gauge"] (defScope s_write_gauge) := ⟨rfl, rfl, rfl, by decide +kernel, rfl, by decide +kernel, by decide +kernel⟩
theorem b_write_gauge (B : Bt mg) (fl_radius : Flds g [.Gauge, .CoarseGauge, .LateGauge, .LateCoarseGauge] .radius) (fl_name : Flds g [.Gauge, .CoarseGauge, .LateGauge, .LateCoarseGauge] .name) (iso_CoarseGauge : IsO g (.ref (g.ca .CoarseGauge)) isoCoarseGauge) (mgc_CoarseGauge : mg "CoarseGauge" = some (.ref (g.ca .CoarseGauge))) (fl_step : Flds g [.CoarseGauge, .LateCoarseGauge] .step) (iso_LateGauge : IsO g (.ref (g.ca .LateGauge)) isoLateGauge) (mgc_LateGauge : mg "LateGauge" = some (.ref (g.ca .LateGauge))) (fl_pace : Flds g [.LateGauge, .LateCoarseGauge] .pace) (fl_late : Flds g [.LateGauge, .LateCoarseGauge] .late) : BodyOk g P w g.K mg base 0 N_write_gauge "write_gauge" s_write_gauge T_write_gauge := fun f cdv A outer s H E hr =>
  (qss_cons (qs_asg 1 sc_write_gauge.nd (q_joined (qj_cons (q_fmt (q_fld fl_name (q_var 0))) (qj_cons q_str (qj_cons (q_fmt (q_fld fl_radius (q_var 0))) qj_nil))))) (qss_cons (qs_if (qt_val (q_isO iso_CoarseGauge B.isinstance mgc_CoarseGauge (q_var 0))) (qss_one (qs_aug 1 iop_add_str lk_addTx sc_write_gauge.nd (q_joined (qj_cons q_str (qj_cons (q_fmt (q_fld fl_step (q_var 0))) qj_nil))) rfl (by first | exact Or.inl rfl | exact Or.inr rfl) (by first | exact Or.inr rfl | exact Or.inl rfl))) qss_nil) (qss_cons (qs_if (qt_val (q_isO iso_LateGauge B.isinstance mgc_LateGauge (q_var 0))) (qss_one (qs_aug 1 iop_add_str lk_addTx sc_write_gauge.nd (q_joined (qj_cons q_str (qj_cons (q_fmt (q_fld fl_late (q_var 0))) (qj_cons q_str (qj_cons (q_fmt (q_fld fl_pace (q_var 0))) qj_nil))))) rfl (by first | exact Or.inl rfl | exact Or.inr rfl) (by first | exact Or.inr rfl | exact Or.inl rfl))) qss_nil) (qss_one (qs_ret (q_var 1))))))

theorem sc_law_line : FnScope N_law_line ["_law_spec"] (defScope s_law_line) := ⟨rfl, rfl, rfl, by decide +kernel, rfl, by decide +kernel, by decide +kernel⟩
theorem b_law_line (B : Bt mg)  : BodyOk g P w g.K mg base 0 N_law_line "_law_line" s_law_line T_law_line := fun f cdv A outer s H E hr =>
  (qss_cons (qs_asg 1 sc_law_line.nd (q_op op_addA lk_add (q_op op_addA lk_add (q_ix (q_var 0) q_int) q_str) (q_callTy call_str_int lk_strI B.str (qa_cons (q_ix (q_var 0) q_int) qa_nil)))) (qss_cons (qs_if (qt_cmp op_in_seq lk_in (q_ix (q_var 0) q_int) (q_lst (qa_cons q_int (qa_cons q_int qa_nil))) (by rfl)) (qss_one (qs_asg 1 sc_law_line.nd (q_op op_addA lk_add (q_op op_addA lk_add (q_var 1) q_str) (q_callTy call_str_int lk_strI B.str (qa_cons (q_ix (q_var 0) q_int) qa_nil))))) qss_nil) (qss_cons (qs_if (qt_cmp op_ge lk_ge (q_ix (q_var 0) q_int) q_int (nomark _)) (qss_one (qs_asg 1 sc_law_line.nd (q_op op_addA lk_add (q_op op_addA lk_add (q_op op_addA lk_add (q_op op_addA lk_add (q_var 1) q_str) (q_callTy call_str_int lk_strI B.str (qa_cons (q_ix (q_var 0) q_int) qa_nil))) q_str) (q_callTy call_str_int lk_strI B.str (qa_cons (q_ix (q_var 0) q_int) qa_nil))))) qss_nil) (qss_one (qs_ret (q_var 1))))))

theorem sc_law_read : FnScope N_law_read ["_law_line_here"] (defScope s_law_read) := ⟨rfl, rfl, rfl, by decide +kernel, rfl, by decide +kernel, by decide +kernel⟩
theorem b_law_read (B : Bt mg) (gd_read_gauge : GD g P w g.K mg base 7 "read_gauge" S_read_gauge) (isx_BadGauge : IsTab g (.ref (g.ea .BadGauge)) isxBadGauge) (mg_BadGauge : mg "BadGauge" = some (.ref (g.ea .BadGauge))) (xf_text_BadText : XFl g [.BadText] .text) (mg_BadText : mg "BadText" = some (.ref (g.ea .BadText))) (ct_BadText : Cat g g.K (.ref (g.ea .BadText)) catBadText) (iso_CoarseGauge : IsO g (.ref (g.ca .CoarseGauge)) isoCoarseGauge) (mgc_CoarseGauge : mg "CoarseGauge" = some (.ref (g.ca .CoarseGauge))) (iso_LateGauge : IsO g (.ref (g.ca .LateGauge)) isoLateGauge) (mgc_LateGauge : mg "LateGauge" = some (.ref (g.ca .LateGauge))) (fl_radius : Flds g [.Gauge, .CoarseGauge, .LateGauge, .LateCoarseGauge] .radius) (fl_name : Flds g [.Gauge, .CoarseGauge, .LateGauge, .LateCoarseGauge] .name) (fl_step : Flds g [.CoarseGauge, .LateCoarseGauge] .step) (fl_pace : Flds g [.LateGauge, .LateCoarseGauge] .pace) (fl_late : Flds g [.LateGauge, .LateCoarseGauge] .late) (iso_LateCoarseGauge : IsO g (.ref (g.ca .LateCoarseGauge)) isoLateCoarseGauge) (mgc_LateCoarseGauge : mg "LateCoarseGauge" = some (.ref (g.ca .LateCoarseGauge))) : BodyOk g P w g.K mg base 7 N_law_read "_law_read" s_law_read T_law_read := fun f cdv A outer s H E hr =>
  (qss_cons (qs_try 2 sc_law_read.nd ⟨rfl, by decide, .inl mg_BadText⟩ (takes_of rfl rfl rfl rfl) ct_BadText (fun W' pn xe tk hp => (qss_one (qs_asg 1 sc_law_read.nd (q_gcall gd_read_gauge hr tk (qa_cons (q_var 0) qa_nil))))) (fun a oe ec d pn hz hv => (qss_one (qs_ret (q_lst (qa_cons (q_xf xf_text_BadText hz hv (q_var 2)) (qa_cons (q_isX (vv := .ref (g.ea .BadGauge)) isx_BadGauge hz hv B.isinstance (q_var 2) (pe_glob rfl mg_BadGauge rfl) (fun _ h => h)) qa_nil))))))) (qss_cons (qs_asg 3 sc_law_read.nd (q_op op_addA lk_add (q_callTy call_int1 lk_int B.int (qa_cons (q_isO iso_CoarseGauge B.isinstance mgc_CoarseGauge (q_var 1)) qa_nil)) (q_op op_mul lk_mul q_int (q_callTy call_int1 lk_int B.int (qa_cons (q_isO iso_LateGauge B.isinstance mgc_LateGauge (q_var 1)) qa_nil))))) (qss_cons (qs_asg 4 sc_law_read.nd (q_lstO (qa_cons (q_fld fl_name (q_var 1)) (qa_cons (q_var 3) (qa_cons (q_fld fl_radius (q_var 1)) qa_nil))))) (qss_cons (qs_if (qt_cmp op_in_seq lk_in (q_var 3) (q_lst (qa_cons q_int (qa_cons q_int qa_nil))) (by rfl)) (qss_one (qs_expr (q_app (pe_bm PySem.F.plainAttrs_list PySem.F.slot_list_append PySem.F.type_list_append mt_append (q_var 4) (pa_cons (q_fld fl_step (q_var 1)) pa_nil))))) qss_nil) (qss_cons (qs_if (qt_cmp op_ge lk_ge (q_var 3) q_int (nomark _)) (qss_one (qs_asg 4 sc_law_read.nd (q_op op_addA lk_add (q_var 4) (q_lst (qa_cons (q_fld fl_late (q_var 1)) (qa_cons (q_fld fl_pace (q_var 1)) qa_nil)))))) qss_nil) (qss_one (qs_ret (q_op op_addA lk_add (q_var 4) (q_lst (qa_cons (q_isO iso_LateCoarseGauge B.isinstance mgc_LateCoarseGauge (q_var 1)) qa_nil))))))))))

theorem sc_law : FnScope N_law ["_law_script"] (defScope s_law) := ⟨rfl, rfl, rfl, by decide +kernel, rfl, by decide +kernel, by decide +kernel⟩
theorem b_law (B : Bt mg) (gd_law_box : GD g P w g.K mg base 1 "_law_box" S_law_box) (gd_law_words : GD g P w g.K mg base 2 "_law_words" S_law_words) (gd_law_take : GD g P w g.K mg base 1 "_law_take" S_law_take) (gd_law_specs : GD g P w g.K mg base 2 "_law_specs" S_law_specs) (gd_law_line : GD g P w g.K mg base 1 "_law_line" S_law_line) (gd_law_gauge : GD g P w g.K mg base 7 "_law_gauge" S_law_gauge) (gd_write_gauge : GD g P w g.K mg base 1 "write_gauge" S_write_gauge) (gd_law_read : GD g P w g.K mg base 8 "_law_read" S_law_read) : BodyOk g P w g.K mg base 8 N_law "law" s_law T_law := fun f cdv A outer s H E hr =>
  (qss_cons (qs_asg 1 sc_law.nd (q_gcall gd_law_box hr (takes_of rfl rfl rfl rfl) (qa_cons (q_var 0) (qa_cons q_int qa_nil)))) (qss_cons (qs_asg 2 sc_law.nd (q_gcall gd_law_words hr (takes_of rfl rfl rfl rfl) (qa_cons (q_var 1) (qa_cons (q_op op_addA lk_add q_int (q_gcall gd_law_take hr (takes_of rfl rfl rfl rfl) (qa_cons (q_var 1) (qa_cons q_int qa_nil)))) qa_nil)))) (qss_cons (qs_asg 3 sc_law.nd (q_gcall gd_law_specs hr (takes_of rfl rfl rfl rfl) (qa_cons (q_var 1) (qa_cons (q_var 2) qa_nil)))) (qss_cons (qs_asg 4 sc_law.nd (q_ix (q_var 3) (q_gcall gd_law_take hr (takes_of rfl rfl rfl rfl) (qa_cons (q_var 1) (qa_cons (q_callB call_lenA lk_len B.len (qa_cons (q_var 3) qa_nil)) qa_nil))))) (qss_cons (qs_asg 5 sc_law.nd (q_op op_sub lk_sub (q_op op_sub lk_sub (q_op op_pow lk_pow q_int q_int) q_int) (q_gcall gd_law_take hr (takes_of rfl rfl rfl rfl) (qa_cons (q_var 1) (qa_cons q_int qa_nil))))) (qss_cons (qs_expr (q_app (pe_bm PySem.F.plainAttrs_list PySem.F.slot_list_append PySem.F.type_list_append mt_append (q_var 3) (pa_cons (q_tup (qa_cons (q_ix (q_var 4) q_int) (qa_cons (q_ix (q_var 4) q_int) (qa_cons (q_var 5) (qa_cons (q_op op_sub lk_sub (q_var 5) (q_ix (q_var 4) q_int)) (qa_cons (q_op op_fdiv lk_div (q_var 5) q_int) (qa_cons (q_op op_sub lk_sub (q_var 5) q_int) qa_nil))))))) pa_nil)))) (qss_cons (qs_for (passes_of rfl) (qi_list (q_frz (q_var 3))) (pg_name (i := 4) sc_law.nd rfl (by first | exact Or.inl rfl | exact Or.inr rfl)) (lkg_name 4) (qss_cons (qs_asg 6 sc_law.nd (q_gcall gd_law_line hr (takes_of rfl rfl rfl rfl) (qa_cons (q_var 4) qa_nil))) (qss_cons (qs_asg 7 sc_law.nd (q_gcall gd_law_gauge hr (takes_of rfl rfl rfl rfl) (qa_cons (q_var 4) qa_nil))) (qss_cons (qs_asg 8 sc_law.nd (q_op op_addA lk_add (q_lst (qa_cons (q_ix (q_var 4) q_int) (qa_cons (q_ix (q_var 4) q_int) (qa_cons (q_ix (q_var 4) q_int) qa_nil)))) (q_op op_rep lk_rep (q_lst (qa_cons (q_ix (q_var 4) q_int) qa_nil)) (q_callTy call_int1 lk_int B.int (qa_cons (q_cmp op_in_seq lk_in (q_ix (q_var 4) q_int) (q_lst (qa_cons q_int (qa_cons q_int qa_nil))) (by rfl)) qa_nil))))) (qss_cons (qs_asg 8 sc_law.nd (q_op op_addA lk_add (q_op op_addA lk_add (q_var 8) (q_op op_rep lk_rep (q_lst (qa_cons (q_ix (q_var 4) q_int) (qa_cons (q_ix (q_var 4) q_int) qa_nil))) (q_callTy call_int1 lk_int B.int (qa_cons (q_cmp op_ge lk_ge (q_ix (q_var 4) q_int) q_int (nomark _)) qa_nil)))) (q_lst (qa_cons (q_cmp (op_eqA hr.units) lk_eq (q_ix (q_var 4) q_int) q_int (nomark _)) qa_nil)))) (qss_cons (qs_if (PW.pt (qw_or (qt_cmp (op_neA hr.units) lk_ne (q_gcall gd_write_gauge hr (takes_of rfl rfl rfl rfl) (qa_cons (q_var 7) qa_nil)) (q_var 6) (nomark _)) (qw_or1 (qt_cmp (op_neA hr.units) lk_ne (q_gcall gd_law_read hr (takes_of rfl rfl rfl rfl) (qa_cons (q_var 6) qa_nil)) (q_var 8) (nomark _))))) (qss_one (qs_ret q_bl)) qss_nil) (qss_cons (qs_asg 9 sc_law.nd (q_ix (q_var 4) q_int)) (qss_lstc 10 sc_law.nd (qa_cons (q_var 9) (qa_cons (q_op op_addA lk_add (q_var 9) q_str) (qa_cons (q_op op_addA lk_add q_str (q_var 6)) (qa_cons (q_op op_addA lk_add (q_var 6) q_str) (qa_cons (q_op op_addA lk_add (q_var 6) q_str) qa_nil))))) (qssT_cons (qsT_asg 10 sc_law.nd (qT_op op_addA lk_add (q_var 10) (qT_lst (qaT_cons1 (qT_repl1 (q_var 6)) (qa_cons (q_op op_addA lk_add (q_var 9) q_str) qa_nil))))) (PSsT.of (qss_cons (qs_asg 10 sc_law.nd (q_op op_addA lk_add (q_var 10) (q_lst (qa_cons (q_op op_addA lk_add (q_var 9) q_str) (qa_cons (q_op op_addA lk_add (q_var 9) q_str) (qa_cons (q_op op_addA lk_add (q_var 9) q_str) (qa_cons (q_op op_addA lk_add (q_var 9) q_str) qa_nil))))))) (qss_cons (qs_asg 10 sc_law.nd (q_op op_addA lk_add (q_var 10) (q_lst (qa_cons (q_op op_addA lk_add (q_var 9) q_str) (qa_cons (q_op op_addA lk_add (q_var 9) q_str) qa_nil))))) (qss_cons (qs_asg 10 sc_law.nd (q_op op_addA lk_add (q_var 10) (q_lst (qa_cons (q_op op_addA lk_add (q_var 9) q_str) (qa_cons (q_op op_addA lk_add (q_var 9) q_str) qa_nil))))) (qss_cons (qs_asg 10 sc_law.nd (q_op op_addA lk_add (q_var 10) (q_lst (qa_cons (q_op op_addA lk_add (q_var 9) q_str) (qa_cons q_str (qa_cons q_str qa_nil)))))) (qss_cons (qs_asg 10 sc_law.nd (q_op op_addA lk_add (q_var 10) (q_lst (qa_cons (q_op op_addA lk_add (q_var 9) q_str) (qa_cons (q_op op_addA lk_add (q_var 9) q_str) (qa_cons (q_op op_addA lk_add (q_var 9) q_str) qa_nil)))))) (qss_cons (qs_asg 10 sc_law.nd (q_op op_addA lk_add (q_var 10) (q_lst (qa_cons (q_op op_addA lk_add (q_upper (q_var 9)) q_str) qa_nil)))) (qss_cons (qs_asg 10 sc_law.nd (q_op op_addA lk_add (q_var 10) (q_lst (qa_cons (q_op op_addA lk_add (q_var 9) q_str) (qa_cons (q_op op_addA lk_add (q_var 9) q_str) qa_nil))))) (qss_cons (qs_asg 10 sc_law.nd (q_op op_addA lk_add (q_var 10) (q_lst (qa_cons (q_op op_addA lk_add (q_var 9) q_str) (qa_cons q_str qa_nil))))) (qss_one (qs_for (passes_of rfl) (qi_list (q_var 10)) (pg_name (i := 11) sc_law.nd rfl (by first | exact Or.inl rfl | exact Or.inr rfl)) (lkg_name 11) (qss_one (qs_if (qt_cmp (op_neA hr.units) lk_ne (q_gcall gd_law_read hr (takes_of rfl rfl rfl rfl) (qa_cons (q_var 11) qa_nil)) (q_lst (qa_cons (q_var 11) (qa_cons q_bl qa_nil))) (nomark _)) (qss_one (qs_ret q_bl)) qss_nil)))))))))))))))))))))) (qss_one (qs_ret q_bl)))))))))

end
theorem x_BadGauge {P : Program} {w : World} {K : PySem.W.Frag} {mg : Str → Option Value} {base : Heap} {f cc cda C : Addr} {fd : FuncData} {file : Str} (F : FunS K "__init__" "BadGauge.__init__" s_BadGauge_init f fd cc cda C file) (PG : Pg P file) (hm : mg "super" = none) (XC : ExC K C) (n1 : PySem.W.findIn K (.ref C) "name" = some none) : FnOk P w K mg base (L2.CX P w) 1 f fd ["self", "name"] (spX C ["name"]) :=
  fn_super (N := ["self", "name", "__class__"]) (k := 0) F (NdefX.nscope_by (by decide +kernel)) (fun vs H Q E h => by obtain ⟨a, ws, rfl, hl, _⟩ := h; simp [hl]) fun A outer s H vs Q E hr h => ⟨_, pf_supX F PG ⟨rfl, rfl, ⟨_, rfl, rfl⟩, rfl, rfl, rfl⟩ hm XC (pa_cons pe_str pa_nil) (pf_of (pss_one (ps_ost (pe_var (i := 0) rfl (Or.inl rfl)) (pe_var (i := 1) rfl (Or.inl rfl))))), tx1 XC.ox n1 h⟩
theorem x_BadText {P : Program} {w : World} {K : PySem.W.Frag} {mg : Str → Option Value} {base : Heap} {f cc cda C : Addr} {fd : FuncData} {file : Str} (F : FunS K "__init__" "BadText.__init__" s_BadText_init f fd cc cda C file) (PG : Pg P file) (hm : mg "super" = none) (XC : ExC K C) (n1 : PySem.W.findIn K (.ref C) "text" = some none) : FnOk P w K mg base (L2.CX P w) 1 f fd ["self", "text"] (spX C ["text"]) :=
  fn_super (N := ["self", "text", "__class__"]) (k := 0) F (NdefX.nscope_by (by decide +kernel)) (fun vs H Q E h => by obtain ⟨a, ws, rfl, hl, _⟩ := h; simp [hl]) fun A outer s H vs Q E hr h => ⟨_, pf_supX F PG ⟨rfl, rfl, ⟨_, rfl, rfl⟩, rfl, rfl, rfl⟩ hm XC (pa_cons pe_str pa_nil) (pf_of (pss_one (ps_ost (pe_var (i := 0) rfl (Or.inl rfl)) (pe_var (i := 1) rfl (Or.inl rfl))))), tx1 XC.ox n1 h⟩
theorem xw_BadText {P : Program} {w : World} {K : PySem.W.Frag} {mg : Str → Option Value} {base : Heap} {f cc cda C : Addr} {fd : FuncData} {file : Str} (F : FunS K "__init__" "BadText.__init__" s_BadText_init f fd cc cda C file) (PG : Pg P file) (hm : mg "super" = none) (XC : ExC K C) (n1 : PySem.W.findIn K (.ref C) "text" = some none) : AX.FnW P w K mg base (L2.CX P w) 1 f fd ["self", "text"] (spX C ["text"]) :=
  fn_superW (N := ["self", "text", "__class__"]) (k := 0) F (NdefX.nscope_by (by decide +kernel)) (fun vs H Q E h => by obtain ⟨a, ws, rfl, hl, _⟩ := h; simp [hl]) fun A outer s H vs Q E q0 h => ⟨_, pf_supXW F PG ⟨rfl, rfl, ⟨_, rfl, rfl⟩, rfl, rfl, rfl⟩ hm XC (pa_cons pe_str pa_nil) (pf_of (pss_one (ps_ost (pe_var (i := 0) rfl (Or.inl rfl)) (pe_var (i := 1) rfl (Or.inl rfl))))), tx1 XC.ox n1 h⟩
theorem all_mk {l : PySem.W.OpenLaw} {w : World} {K : PySem.W.Frag} {h : Heap} {mg : Str → Option Value} {fa C_Gauge C_CoarseGauge C_LateGauge C_LateCoarseGauge E_BadGauge E_BadText A_BadGauge_init cc_BadGauge cda_BadGauge A_BadText_init cc_BadText cda_BadText A_law_take A_law_box A_law_word A_law_words A_valid_name A_Gauge_init A_CoarseGauge_init cc_CoarseGauge_init cda_CoarseGauge_init A_LateGauge_init A_LateCoarseGauge_init A_law_specs A_law_gauge A_read_number A_numbers_after A_read_gauge A_write_gauge A_law_line A_law_read A_law A_kt_WORDS : Addr} (X : K.In h) (G : h.Ns mainGlobals mg) (hfa : mg "law" = some (.ref fa))
    {nm_BadGauge q_BadGauge : Str} {N_BadGauge : Addr} {bs_BadGauge bm_BadGauge sub_BadGauge : List Value} {sn_BadGauge : List Str} {ab_BadGauge : Bool} {col_BadGauge : Option Bool} {dd_BadGauge : Option Addr} {k0_BadGauge k1_BadGauge k2_BadGauge k3_BadGauge k5_BadGauge : Option Value}
    {oc_BadGauge kV_BadGauge dc_BadGauge pm_BadGauge ct_BadGauge ccl_BadGauge cl_BadGauge : Value} {od_BadGauge an_BadGauge cdd_BadGauge cld_BadGauge : Option Addr} {sl_BadGauge ccs_BadGauge csl_BadGauge : Array (Option Value)} {vs_BadGauge : Array Value} {file_BadGauge : Str} {tf_BadGauge : Tok} {cdD_BadGauge : ClassData}
    {nm_BadText q_BadText : Str} {N_BadText : Addr} {bs_BadText bm_BadText sub_BadText : List Value} {sn_BadText : List Str} {ab_BadText : Bool} {col_BadText : Option Bool} {dd_BadText : Option Addr} {k0_BadText k1_BadText k2_BadText k3_BadText k5_BadText : Option Value}
    {oc_BadText kV_BadText dc_BadText pm_BadText ct_BadText ccl_BadText cl_BadText : Value} {od_BadText an_BadText cdd_BadText cld_BadText : Option Addr} {sl_BadText ccs_BadText csl_BadText : Array (Option Value)} {vs_BadText : Array Value} {file_BadText : Str} {tf_BadText : Tok} {cdD_BadText : ClassData}
    {oc_law_take kV_law_take dc_law_take pm_law_take cd_law_take ct_law_take : Value} {od_law_take an_law_take : Option Addr} {sl_law_take : Array (Option Value)}
    {oc_law_box kV_law_box dc_law_box pm_law_box cd_law_box ct_law_box : Value} {od_law_box an_law_box : Option Addr} {sl_law_box : Array (Option Value)}
    {oc_law_word kV_law_word dc_law_word pm_law_word cd_law_word ct_law_word : Value} {od_law_word an_law_word : Option Addr} {sl_law_word : Array (Option Value)}
    {oc_law_words kV_law_words dc_law_words pm_law_words cd_law_words ct_law_words : Value} {od_law_words an_law_words : Option Addr} {sl_law_words : Array (Option Value)}
    {oc_valid_name kV_valid_name dc_valid_name pm_valid_name cd_valid_name ct_valid_name : Value} {od_valid_name an_valid_name : Option Addr} {sl_valid_name : Array (Option Value)}
    {oc_Gauge_init kV_Gauge_init dc_Gauge_init pm_Gauge_init cd_Gauge_init ct_Gauge_init : Value} {od_Gauge_init an_Gauge_init : Option Addr} {sl_Gauge_init : Array (Option Value)}
    {oc_CoarseGauge_init kV_CoarseGauge_init dc_CoarseGauge_init pm_CoarseGauge_init ct_CoarseGauge_init ccl_CoarseGauge_init cl_CoarseGauge_init : Value} {od_CoarseGauge_init an_CoarseGauge_init cdd_CoarseGauge_init cld_CoarseGauge_init : Option Addr} {sl_CoarseGauge_init ccs_CoarseGauge_init csl_CoarseGauge_init : Array (Option Value)} {vs_CoarseGauge_init : Array Value} {file_CoarseGauge_init : Str} {tf_CoarseGauge_init : Tok} {cdD_CoarseGauge_init : ClassData}
    {oc_LateGauge_init kV_LateGauge_init dc_LateGauge_init pm_LateGauge_init cd_LateGauge_init ct_LateGauge_init : Value} {od_LateGauge_init an_LateGauge_init : Option Addr} {sl_LateGauge_init : Array (Option Value)}
    {oc_LateCoarseGauge_init kV_LateCoarseGauge_init dc_LateCoarseGauge_init pm_LateCoarseGauge_init cd_LateCoarseGauge_init ct_LateCoarseGauge_init : Value} {od_LateCoarseGauge_init an_LateCoarseGauge_init : Option Addr} {sl_LateCoarseGauge_init : Array (Option Value)}
    {oc_law_specs kV_law_specs dc_law_specs pm_law_specs cd_law_specs ct_law_specs : Value} {od_law_specs an_law_specs : Option Addr} {sl_law_specs : Array (Option Value)}
    {oc_law_gauge kV_law_gauge dc_law_gauge pm_law_gauge cd_law_gauge ct_law_gauge : Value} {od_law_gauge an_law_gauge : Option Addr} {sl_law_gauge : Array (Option Value)}
    {oc_read_number kV_read_number dc_read_number pm_read_number cd_read_number ct_read_number : Value} {od_read_number an_read_number : Option Addr} {sl_read_number : Array (Option Value)}
    {oc_numbers_after kV_numbers_after dc_numbers_after pm_numbers_after cd_numbers_after ct_numbers_after : Value} {od_numbers_after an_numbers_after : Option Addr} {sl_numbers_after : Array (Option Value)}
    {oc_read_gauge kV_read_gauge dc_read_gauge pm_read_gauge cd_read_gauge ct_read_gauge : Value} {od_read_gauge an_read_gauge : Option Addr} {sl_read_gauge : Array (Option Value)}
    {oc_write_gauge kV_write_gauge dc_write_gauge pm_write_gauge cd_write_gauge ct_write_gauge : Value} {od_write_gauge an_write_gauge : Option Addr} {sl_write_gauge : Array (Option Value)}
    {oc_law_line kV_law_line dc_law_line pm_law_line cd_law_line ct_law_line : Value} {od_law_line an_law_line : Option Addr} {sl_law_line : Array (Option Value)}
    {oc_law_read kV_law_read dc_law_read pm_law_read cd_law_read ct_law_read : Value} {od_law_read an_law_read : Option Addr} {sl_law_read : Array (Option Value)}
    {oc_law kV_law dc_law pm_law cd_law ct_law : Value} {od_law an_law : Option Addr} {sl_law : Array (Option Value)}
    {tcvi_Gauge_LONGEST : Tok}
    {tkt_WORDS_0 tkt_WORDS_1 tkt_WORDS_2 tkt_WORDS_3 : Tok} {odkt_WORDS : Option Addr} {nkt_WORDS : Nat} {slkt_WORDS : Array (Option Value)}
    {tgs_LETTERS : Tok}
    {tgi_LONGEST : Tok}
    {tgs_DIGITS : Tok}
    (a_Gauge : PySem.W.nsIn K mainGlobals "Gauge" = some (some (.ref C_Gauge)))
    (pg_Gauge : PySem.W.plainGet K C_Gauge Str.empty = true)
    (hd_Gauge : PySem.W.hasDictIn K C_Gauge = true)
    (po_Gauge : PySem.W.plainOver K C_Gauge = true)
    (sa_Gauge : PySem.W.findIn K (.ref C_Gauge) "__setattr__" = some (some (.builtin "object.__setattr__")))
    (mk_Gauge : PySem.W.makesIn K C_Gauge = true)
    (kc_Gauge : PySem.W.keepIn K (.ref C_Gauge) = true)
    (a_CoarseGauge : PySem.W.nsIn K mainGlobals "CoarseGauge" = some (some (.ref C_CoarseGauge)))
    (pg_CoarseGauge : PySem.W.plainGet K C_CoarseGauge Str.empty = true)
    (hd_CoarseGauge : PySem.W.hasDictIn K C_CoarseGauge = true)
    (po_CoarseGauge : PySem.W.plainOver K C_CoarseGauge = true)
    (sa_CoarseGauge : PySem.W.findIn K (.ref C_CoarseGauge) "__setattr__" = some (some (.builtin "object.__setattr__")))
    (mk_CoarseGauge : PySem.W.makesIn K C_CoarseGauge = true)
    (kc_CoarseGauge : PySem.W.keepIn K (.ref C_CoarseGauge) = true)
    (a_LateGauge : PySem.W.nsIn K mainGlobals "LateGauge" = some (some (.ref C_LateGauge)))
    (pg_LateGauge : PySem.W.plainGet K C_LateGauge Str.empty = true)
    (hd_LateGauge : PySem.W.hasDictIn K C_LateGauge = true)
    (po_LateGauge : PySem.W.plainOver K C_LateGauge = true)
    (sa_LateGauge : PySem.W.findIn K (.ref C_LateGauge) "__setattr__" = some (some (.builtin "object.__setattr__")))
    (mk_LateGauge : PySem.W.makesIn K C_LateGauge = true)
    (kc_LateGauge : PySem.W.keepIn K (.ref C_LateGauge) = true)
    (a_LateCoarseGauge : PySem.W.nsIn K mainGlobals "LateCoarseGauge" = some (some (.ref C_LateCoarseGauge)))
    (pg_LateCoarseGauge : PySem.W.plainGet K C_LateCoarseGauge Str.empty = true)
    (hd_LateCoarseGauge : PySem.W.hasDictIn K C_LateCoarseGauge = true)
    (po_LateCoarseGauge : PySem.W.plainOver K C_LateCoarseGauge = true)
    (sa_LateCoarseGauge : PySem.W.findIn K (.ref C_LateCoarseGauge) "__setattr__" = some (some (.builtin "object.__setattr__")))
    (mk_LateCoarseGauge : PySem.W.makesIn K C_LateCoarseGauge = true)
    (kc_LateCoarseGauge : PySem.W.keepIn K (.ref C_LateCoarseGauge) = true)
    (a_BadGauge : PySem.W.nsIn K mainGlobals "BadGauge" = some (some (.ref E_BadGauge)))
    (xb_BadGauge : PySem.W.subIn K (.ref E_BadGauge) (.type "BaseException") = some true)
    (ty_BadGauge : PySem.W.typeIn K (.ref E_BadGauge) = some (.type "type"))
    (kc_BadGauge : PySem.W.keepIn K (.ref E_BadGauge) = true)
    (hd_BadGauge : PySem.W.hasDictIn K E_BadGauge = true)
    (a_BadText : PySem.W.nsIn K mainGlobals "BadText" = some (some (.ref E_BadText)))
    (xb_BadText : PySem.W.subIn K (.ref E_BadText) (.type "BaseException") = some true)
    (ty_BadText : PySem.W.typeIn K (.ref E_BadText) = some (.type "type"))
    (kc_BadText : PySem.W.keepIn K (.ref E_BadText) = true)
    (hd_BadText : PySem.W.hasDictIn K E_BadText = true)
    (lk_BadGauge : K.lookup E_BadGauge = some (excClassObj nm_BadGauge q_BadGauge E_BadGauge N_BadGauge bs_BadGauge bm_BadGauge true sn_BadGauge sub_BadGauge ab_BadGauge col_BadGauge dd_BadGauge k0_BadGauge k1_BadGauge k2_BadGauge k3_BadGauge k5_BadGauge "ValueError.__new__"))
    (rv_BadGauge : PySem.HandSPX.refsVE bm_BadGauge = true)
    (sa_BadGauge : PySem.W.findIn K (.ref E_BadGauge) "__setattr__" = some (some (.builtin "object.__setattr__")))
    (fi_BadGauge : PySem.W.findIn K (.ref E_BadGauge) "__init__" = some (some (.ref A_BadGauge_init)))
    (ti_BadGauge : PySem.W.typeIn K (.ref A_BadGauge_init) = some (.type "function"))
    (l_BadGauge : K.lookup A_BadGauge_init = some ⟨oc_BadGauge, od_BadGauge, .func (PySem.W.ksFn "__init__" "BadGauge.__init__" (defArgs s_BadGauge_init) (defBody s_BadGauge_init) (defScope s_BadGauge_init) .none kV_BadGauge dc_BadGauge pm_BadGauge an_BadGauge (.ref cda_BadGauge) ct_BadGauge cc_BadGauge), sl_BadGauge⟩)
    (c_BadGauge : PySem.W.codeIn K (.ref cda_BadGauge) "BadGauge.__init__" = true)
    (k_BadGauge : PySem.W.keepIn K (.ref A_BadGauge_init) = true)
    (fl_BadGauge : K.lookup cda_BadGauge = some ⟨ccl_BadGauge, cdd_BadGauge, .fields vs_BadGauge, ccs_BadGauge⟩)
    (fv_BadGauge : vs_BadGauge[2]? = some (.str file_BadGauge tf_BadGauge))
    (pf_BadGauge : ((l.prog.main.file : Str) == file_BadGauge) = true)
    (ce_BadGauge : K.lookup cc_BadGauge = some ⟨cl_BadGauge, cld_BadGauge, .cell (some (.ref E_BadGauge)), csl_BadGauge⟩)
    (dc_BadGauge : PySem.W.clsIn K E_BadGauge = some cdD_BadGauge)
    (mr_BadGauge : PySem.W.mroIn K E_BadGauge (.ref E_BadGauge) = some true)
    (su_BadGauge : PySem.W.ks_superIn K E_BadGauge E_BadGauge "__init__" = some (some (.builtin "ValueError.__init__")))
    (ve_BadGauge : PySem.W.subIn K (.ref E_BadGauge) (.type "ValueError") = some true)
    (lk_BadText : K.lookup E_BadText = some (excClassObj nm_BadText q_BadText E_BadText N_BadText bs_BadText bm_BadText true sn_BadText sub_BadText ab_BadText col_BadText dd_BadText k0_BadText k1_BadText k2_BadText k3_BadText k5_BadText "ValueError.__new__"))
    (rv_BadText : PySem.HandSPX.refsVE bm_BadText = true)
    (sa_BadText : PySem.W.findIn K (.ref E_BadText) "__setattr__" = some (some (.builtin "object.__setattr__")))
    (fi_BadText : PySem.W.findIn K (.ref E_BadText) "__init__" = some (some (.ref A_BadText_init)))
    (ti_BadText : PySem.W.typeIn K (.ref A_BadText_init) = some (.type "function"))
    (l_BadText : K.lookup A_BadText_init = some ⟨oc_BadText, od_BadText, .func (PySem.W.ksFn "__init__" "BadText.__init__" (defArgs s_BadText_init) (defBody s_BadText_init) (defScope s_BadText_init) .none kV_BadText dc_BadText pm_BadText an_BadText (.ref cda_BadText) ct_BadText cc_BadText), sl_BadText⟩)
    (c_BadText : PySem.W.codeIn K (.ref cda_BadText) "BadText.__init__" = true)
    (k_BadText : PySem.W.keepIn K (.ref A_BadText_init) = true)
    (fl_BadText : K.lookup cda_BadText = some ⟨ccl_BadText, cdd_BadText, .fields vs_BadText, ccs_BadText⟩)
    (fv_BadText : vs_BadText[2]? = some (.str file_BadText tf_BadText))
    (pf_BadText : ((l.prog.main.file : Str) == file_BadText) = true)
    (ce_BadText : K.lookup cc_BadText = some ⟨cl_BadText, cld_BadText, .cell (some (.ref E_BadText)), csl_BadText⟩)
    (dc_BadText : PySem.W.clsIn K E_BadText = some cdD_BadText)
    (mr_BadText : PySem.W.mroIn K E_BadText (.ref E_BadText) = some true)
    (su_BadText : PySem.W.ks_superIn K E_BadText E_BadText "__init__" = some (some (.builtin "ValueError.__init__")))
    (ve_BadText : PySem.W.subIn K (.ref E_BadText) (.type "ValueError") = some true)
    (th : PySem.W.nsIn K cStatics "thirdparty.any" = some none)
    (ps : (l.prog.main.scope.names.lookup ("super" : Str)).isSome = false)
    (ga_BadGauge : PySem.W.findIn K (.ref E_BadGauge) "__getattribute__" = some (some (.builtin "BaseException.__getattribute__")))
    (gg_BadGauge : PySem.W.findIn K (.ref E_BadGauge) "__getattr__" = some none)
    (ga_BadText : PySem.W.findIn K (.ref E_BadText) "__getattribute__" = some (some (.builtin "BaseException.__getattribute__")))
    (gg_BadText : PySem.W.findIn K (.ref E_BadText) "__getattr__" = some none)
    (n_name_BadGauge : PySem.W.findIn K (.ref E_BadGauge) "name" = some none)
    (n_text_BadText : PySem.W.findIn K (.ref E_BadText) "text" = some none)
    (su_BadGauge_BadGauge : PySem.W.subIn K (.ref E_BadGauge) (.ref E_BadGauge) = some true)
    (su_BadText_BadGauge : PySem.W.subIn K (.ref E_BadText) (.ref E_BadGauge) = some false)
    (su_BadGauge_BadText : PySem.W.subIn K (.ref E_BadGauge) (.ref E_BadText) = some false)
    (su_BadText_BadText : PySem.W.subIn K (.ref E_BadText) (.ref E_BadText) = some true)
    (kx_BadGauge_BadGauge : PySem.W.kitOne K (.ref E_BadGauge) (.ref E_BadGauge) = some true)
    (kx_BadText_BadGauge : PySem.W.kitOne K (.ref E_BadText) (.ref E_BadGauge) = some false)
    (xc_BadGauge : PySem.W.findIn K (.ref E_BadGauge) "__class__" = some (some (.builtin "object.__class__")))
    (xm_BadGauge : PySem.W.mroIn K E_BadGauge (.type "object") = some true)
    (xc_BadText : PySem.W.findIn K (.ref E_BadText) "__class__" = some (some (.builtin "object.__class__")))
    (xm_BadText : PySem.W.mroIn K E_BadText (.type "object") = some true)
    (ko_Gauge_CoarseGauge : PySem.W.kitOne K (.ref C_Gauge) (.ref C_CoarseGauge) = some false)
    (ko_CoarseGauge_CoarseGauge : PySem.W.kitOne K (.ref C_CoarseGauge) (.ref C_CoarseGauge) = some true)
    (ko_LateGauge_CoarseGauge : PySem.W.kitOne K (.ref C_LateGauge) (.ref C_CoarseGauge) = some false)
    (ko_LateCoarseGauge_CoarseGauge : PySem.W.kitOne K (.ref C_LateCoarseGauge) (.ref C_CoarseGauge) = some true)
    (ko_Gauge_LateGauge : PySem.W.kitOne K (.ref C_Gauge) (.ref C_LateGauge) = some false)
    (ko_CoarseGauge_LateGauge : PySem.W.kitOne K (.ref C_CoarseGauge) (.ref C_LateGauge) = some false)
    (ko_LateGauge_LateGauge : PySem.W.kitOne K (.ref C_LateGauge) (.ref C_LateGauge) = some true)
    (ko_LateCoarseGauge_LateGauge : PySem.W.kitOne K (.ref C_LateCoarseGauge) (.ref C_LateGauge) = some true)
    (ko_Gauge_LateCoarseGauge : PySem.W.kitOne K (.ref C_Gauge) (.ref C_LateCoarseGauge) = some false)
    (ko_CoarseGauge_LateCoarseGauge : PySem.W.kitOne K (.ref C_CoarseGauge) (.ref C_LateCoarseGauge) = some false)
    (ko_LateGauge_LateCoarseGauge : PySem.W.kitOne K (.ref C_LateGauge) (.ref C_LateCoarseGauge) = some false)
    (ko_LateCoarseGauge_LateCoarseGauge : PySem.W.kitOne K (.ref C_LateCoarseGauge) (.ref C_LateCoarseGauge) = some true)
    (oc_CoarseGauge : PySem.W.findIn K (.ref C_CoarseGauge) "__class__" = some (some (.builtin "object.__class__")))
    (om_CoarseGauge : PySem.W.mroIn K C_CoarseGauge (.type "object") = some true)
    (oc_Gauge : PySem.W.findIn K (.ref C_Gauge) "__class__" = some (some (.builtin "object.__class__")))
    (om_Gauge : PySem.W.mroIn K C_Gauge (.type "object") = some true)
    (oc_LateCoarseGauge : PySem.W.findIn K (.ref C_LateCoarseGauge) "__class__" = some (some (.builtin "object.__class__")))
    (om_LateCoarseGauge : PySem.W.mroIn K C_LateCoarseGauge (.type "object") = some true)
    (oc_LateGauge : PySem.W.findIn K (.ref C_LateGauge) "__class__" = some (some (.builtin "object.__class__")))
    (om_LateGauge : PySem.W.mroIn K C_LateGauge (.type "object") = some true)
    (og : PySem.W.specialIn K (.builtin "object.__class__") "__get__" = some (some (.builtin "getset_descriptor.__get__")))
    (ot : PySem.W.takesIn K (.builtin "object.__class__") = some true)
    (n_name_Gauge : PySem.W.findIn K (.ref C_Gauge) "name" = some none)
    (n_name_CoarseGauge : PySem.W.findIn K (.ref C_CoarseGauge) "name" = some none)
    (n_name_LateGauge : PySem.W.findIn K (.ref C_LateGauge) "name" = some none)
    (n_name_LateCoarseGauge : PySem.W.findIn K (.ref C_LateCoarseGauge) "name" = some none)
    (n_radius_Gauge : PySem.W.findIn K (.ref C_Gauge) "radius" = some none)
    (n_radius_CoarseGauge : PySem.W.findIn K (.ref C_CoarseGauge) "radius" = some none)
    (n_radius_LateGauge : PySem.W.findIn K (.ref C_LateGauge) "radius" = some none)
    (n_radius_LateCoarseGauge : PySem.W.findIn K (.ref C_LateCoarseGauge) "radius" = some none)
    (n_step_CoarseGauge : PySem.W.findIn K (.ref C_CoarseGauge) "step" = some none)
    (n_step_LateCoarseGauge : PySem.W.findIn K (.ref C_LateCoarseGauge) "step" = some none)
    (n_late_LateGauge : PySem.W.findIn K (.ref C_LateGauge) "late" = some none)
    (n_late_LateCoarseGauge : PySem.W.findIn K (.ref C_LateCoarseGauge) "late" = some none)
    (n_pace_LateGauge : PySem.W.findIn K (.ref C_LateGauge) "pace" = some none)
    (n_pace_LateCoarseGauge : PySem.W.findIn K (.ref C_LateCoarseGauge) "pace" = some none)
    (f_law_take : PySem.W.nsIn K mainGlobals "_law_take" = some (some (.ref A_law_take)))
    (l_law_take : K.lookup A_law_take = some ⟨oc_law_take, od_law_take, .func (PySem.W.fnOf "_law_take" "_law_take" (defArgs s_law_take) (defBody s_law_take) (defScope s_law_take) .none kV_law_take dc_law_take pm_law_take an_law_take cd_law_take ct_law_take), sl_law_take⟩)
    (c_law_take : PySem.W.codeIn K cd_law_take "_law_take" = true)
    (k_law_take : PySem.W.keepIn K (.ref A_law_take) = true)
    (f_law_box : PySem.W.nsIn K mainGlobals "_law_box" = some (some (.ref A_law_box)))
    (l_law_box : K.lookup A_law_box = some ⟨oc_law_box, od_law_box, .func (PySem.W.fnOf "_law_box" "_law_box" (defArgs s_law_box) (defBody s_law_box) (defScope s_law_box) .none kV_law_box dc_law_box pm_law_box an_law_box cd_law_box ct_law_box), sl_law_box⟩)
    (c_law_box : PySem.W.codeIn K cd_law_box "_law_box" = true)
    (k_law_box : PySem.W.keepIn K (.ref A_law_box) = true)
    (f_law_word : PySem.W.nsIn K mainGlobals "_law_word" = some (some (.ref A_law_word)))
    (l_law_word : K.lookup A_law_word = some ⟨oc_law_word, od_law_word, .func (PySem.W.fnOf "_law_word" "_law_word" (defArgs s_law_word) (defBody s_law_word) (defScope s_law_word) .none kV_law_word dc_law_word pm_law_word an_law_word cd_law_word ct_law_word), sl_law_word⟩)
    (c_law_word : PySem.W.codeIn K cd_law_word "_law_word" = true)
    (k_law_word : PySem.W.keepIn K (.ref A_law_word) = true)
    (f_law_words : PySem.W.nsIn K mainGlobals "_law_words" = some (some (.ref A_law_words)))
    (l_law_words : K.lookup A_law_words = some ⟨oc_law_words, od_law_words, .func (PySem.W.fnOf "_law_words" "_law_words" (defArgs s_law_words) (defBody s_law_words) (defScope s_law_words) .none kV_law_words dc_law_words pm_law_words an_law_words cd_law_words ct_law_words), sl_law_words⟩)
    (c_law_words : PySem.W.codeIn K cd_law_words "_law_words" = true)
    (k_law_words : PySem.W.keepIn K (.ref A_law_words) = true)
    (f_valid_name : PySem.W.nsIn K mainGlobals "valid_name" = some (some (.ref A_valid_name)))
    (l_valid_name : K.lookup A_valid_name = some ⟨oc_valid_name, od_valid_name, .func (PySem.W.fnOf "valid_name" "valid_name" (defArgs s_valid_name) (defBody s_valid_name) (defScope s_valid_name) .none kV_valid_name dc_valid_name pm_valid_name an_valid_name cd_valid_name ct_valid_name), sl_valid_name⟩)
    (c_valid_name : PySem.W.codeIn K cd_valid_name "valid_name" = true)
    (k_valid_name : PySem.W.keepIn K (.ref A_valid_name) = true)
    (f_Gauge_init : PySem.W.findIn K (.ref C_Gauge) "__init__" = some (some (.ref A_Gauge_init)))
    (i_Gauge_init : PySem.W.isFn K (.ref A_Gauge_init) = true)
    (l_Gauge_init : K.lookup A_Gauge_init = some ⟨oc_Gauge_init, od_Gauge_init, .func (PySem.W.fnOf "__init__" "Gauge.__init__" (defArgs s_Gauge_init) (defBody s_Gauge_init) (defScope s_Gauge_init) .none kV_Gauge_init dc_Gauge_init pm_Gauge_init an_Gauge_init cd_Gauge_init ct_Gauge_init), sl_Gauge_init⟩)
    (c_Gauge_init : PySem.W.codeIn K cd_Gauge_init "Gauge.__init__" = true)
    (k_Gauge_init : PySem.W.keepIn K (.ref A_Gauge_init) = true)
    (f_CoarseGauge_init : PySem.W.findIn K (.ref C_CoarseGauge) "__init__" = some (some (.ref A_CoarseGauge_init)))
    (i_CoarseGauge_init : PySem.W.isFn K (.ref A_CoarseGauge_init) = true)
    (l_CoarseGauge_init : K.lookup A_CoarseGauge_init = some ⟨oc_CoarseGauge_init, od_CoarseGauge_init, .func (PySem.W.ksFn "__init__" "CoarseGauge.__init__" (defArgs s_CoarseGauge_init) (defBody s_CoarseGauge_init) (defScope s_CoarseGauge_init) .none kV_CoarseGauge_init dc_CoarseGauge_init pm_CoarseGauge_init an_CoarseGauge_init (.ref cda_CoarseGauge_init) ct_CoarseGauge_init cc_CoarseGauge_init), sl_CoarseGauge_init⟩)
    (c_CoarseGauge_init : PySem.W.codeIn K (.ref cda_CoarseGauge_init) "CoarseGauge.__init__" = true)
    (k_CoarseGauge_init : PySem.W.keepIn K (.ref A_CoarseGauge_init) = true)
    (fl_CoarseGauge_init : K.lookup cda_CoarseGauge_init = some ⟨ccl_CoarseGauge_init, cdd_CoarseGauge_init, .fields vs_CoarseGauge_init, ccs_CoarseGauge_init⟩)
    (fv_CoarseGauge_init : vs_CoarseGauge_init[2]? = some (.str file_CoarseGauge_init tf_CoarseGauge_init))
    (pf_CoarseGauge_init : ((l.prog.main.file : Str) == file_CoarseGauge_init) = true)
    (ce_CoarseGauge_init : K.lookup cc_CoarseGauge_init = some ⟨cl_CoarseGauge_init, cld_CoarseGauge_init, .cell (some (.ref C_CoarseGauge)), csl_CoarseGauge_init⟩)
    (dc_CoarseGauge_init : PySem.W.clsIn K C_CoarseGauge = some cdD_CoarseGauge_init)
    (f_LateGauge_init : PySem.W.findIn K (.ref C_LateGauge) "__init__" = some (some (.ref A_LateGauge_init)))
    (i_LateGauge_init : PySem.W.isFn K (.ref A_LateGauge_init) = true)
    (l_LateGauge_init : K.lookup A_LateGauge_init = some ⟨oc_LateGauge_init, od_LateGauge_init, .func (PySem.W.fnOf "__init__" "LateGauge.__init__" (defArgs s_LateGauge_init) (defBody s_LateGauge_init) (defScope s_LateGauge_init) .none kV_LateGauge_init dc_LateGauge_init pm_LateGauge_init an_LateGauge_init cd_LateGauge_init ct_LateGauge_init), sl_LateGauge_init⟩)
    (c_LateGauge_init : PySem.W.codeIn K cd_LateGauge_init "LateGauge.__init__" = true)
    (k_LateGauge_init : PySem.W.keepIn K (.ref A_LateGauge_init) = true)
    (f_LateCoarseGauge_init : PySem.W.findIn K (.ref C_LateCoarseGauge) "__init__" = some (some (.ref A_LateCoarseGauge_init)))
    (i_LateCoarseGauge_init : PySem.W.isFn K (.ref A_LateCoarseGauge_init) = true)
    (l_LateCoarseGauge_init : K.lookup A_LateCoarseGauge_init = some ⟨oc_LateCoarseGauge_init, od_LateCoarseGauge_init, .func (PySem.W.fnOf "__init__" "LateCoarseGauge.__init__" (defArgs s_LateCoarseGauge_init) (defBody s_LateCoarseGauge_init) (defScope s_LateCoarseGauge_init) .none kV_LateCoarseGauge_init dc_LateCoarseGauge_init pm_LateCoarseGauge_init an_LateCoarseGauge_init cd_LateCoarseGauge_init ct_LateCoarseGauge_init), sl_LateCoarseGauge_init⟩)
    (c_LateCoarseGauge_init : PySem.W.codeIn K cd_LateCoarseGauge_init "LateCoarseGauge.__init__" = true)
    (k_LateCoarseGauge_init : PySem.W.keepIn K (.ref A_LateCoarseGauge_init) = true)
    (f_law_specs : PySem.W.nsIn K mainGlobals "_law_specs" = some (some (.ref A_law_specs)))
    (l_law_specs : K.lookup A_law_specs = some ⟨oc_law_specs, od_law_specs, .func (PySem.W.fnOf "_law_specs" "_law_specs" (defArgs s_law_specs) (defBody s_law_specs) (defScope s_law_specs) .none kV_law_specs dc_law_specs pm_law_specs an_law_specs cd_law_specs ct_law_specs), sl_law_specs⟩)
    (c_law_specs : PySem.W.codeIn K cd_law_specs "_law_specs" = true)
    (k_law_specs : PySem.W.keepIn K (.ref A_law_specs) = true)
    (f_law_gauge : PySem.W.nsIn K mainGlobals "_law_gauge" = some (some (.ref A_law_gauge)))
    (l_law_gauge : K.lookup A_law_gauge = some ⟨oc_law_gauge, od_law_gauge, .func (PySem.W.fnOf "_law_gauge" "_law_gauge" (defArgs s_law_gauge) (defBody s_law_gauge) (defScope s_law_gauge) .none kV_law_gauge dc_law_gauge pm_law_gauge an_law_gauge cd_law_gauge ct_law_gauge), sl_law_gauge⟩)
    (c_law_gauge : PySem.W.codeIn K cd_law_gauge "_law_gauge" = true)
    (k_law_gauge : PySem.W.keepIn K (.ref A_law_gauge) = true)
    (f_read_number : PySem.W.nsIn K mainGlobals "read_number" = some (some (.ref A_read_number)))
    (l_read_number : K.lookup A_read_number = some ⟨oc_read_number, od_read_number, .func (PySem.W.fnOf "read_number" "read_number" (defArgs s_read_number) (defBody s_read_number) (defScope s_read_number) .none kV_read_number dc_read_number pm_read_number an_read_number cd_read_number ct_read_number), sl_read_number⟩)
    (c_read_number : PySem.W.codeIn K cd_read_number "read_number" = true)
    (k_read_number : PySem.W.keepIn K (.ref A_read_number) = true)
    (f_numbers_after : PySem.W.nsIn K mainGlobals "numbers_after" = some (some (.ref A_numbers_after)))
    (l_numbers_after : K.lookup A_numbers_after = some ⟨oc_numbers_after, od_numbers_after, .func (PySem.W.fnOf "numbers_after" "numbers_after" (defArgs s_numbers_after) (defBody s_numbers_after) (defScope s_numbers_after) .none kV_numbers_after dc_numbers_after pm_numbers_after an_numbers_after cd_numbers_after ct_numbers_after), sl_numbers_after⟩)
    (c_numbers_after : PySem.W.codeIn K cd_numbers_after "numbers_after" = true)
    (k_numbers_after : PySem.W.keepIn K (.ref A_numbers_after) = true)
    (f_read_gauge : PySem.W.nsIn K mainGlobals "read_gauge" = some (some (.ref A_read_gauge)))
    (l_read_gauge : K.lookup A_read_gauge = some ⟨oc_read_gauge, od_read_gauge, .func (PySem.W.fnOf "read_gauge" "read_gauge" (defArgs s_read_gauge) (defBody s_read_gauge) (defScope s_read_gauge) .none kV_read_gauge dc_read_gauge pm_read_gauge an_read_gauge cd_read_gauge ct_read_gauge), sl_read_gauge⟩)
    (c_read_gauge : PySem.W.codeIn K cd_read_gauge "read_gauge" = true)
    (k_read_gauge : PySem.W.keepIn K (.ref A_read_gauge) = true)
    (f_write_gauge : PySem.W.nsIn K mainGlobals "write_gauge" = some (some (.ref A_write_gauge)))
    (l_write_gauge : K.lookup A_write_gauge = some ⟨oc_write_gauge, od_write_gauge, .func (PySem.W.fnOf "write_gauge" "write_gauge" (defArgs s_write_gauge) (defBody s_write_gauge) (defScope s_write_gauge) .none kV_write_gauge dc_write_gauge pm_write_gauge an_write_gauge cd_write_gauge ct_write_gauge), sl_write_gauge⟩)
    (c_write_gauge : PySem.W.codeIn K cd_write_gauge "write_gauge" = true)
    (k_write_gauge : PySem.W.keepIn K (.ref A_write_gauge) = true)
    (f_law_line : PySem.W.nsIn K mainGlobals "_law_line" = some (some (.ref A_law_line)))
    (l_law_line : K.lookup A_law_line = some ⟨oc_law_line, od_law_line, .func (PySem.W.fnOf "_law_line" "_law_line" (defArgs s_law_line) (defBody s_law_line) (defScope s_law_line) .none kV_law_line dc_law_line pm_law_line an_law_line cd_law_line ct_law_line), sl_law_line⟩)
    (c_law_line : PySem.W.codeIn K cd_law_line "_law_line" = true)
    (k_law_line : PySem.W.keepIn K (.ref A_law_line) = true)
    (f_law_read : PySem.W.nsIn K mainGlobals "_law_read" = some (some (.ref A_law_read)))
    (l_law_read : K.lookup A_law_read = some ⟨oc_law_read, od_law_read, .func (PySem.W.fnOf "_law_read" "_law_read" (defArgs s_law_read) (defBody s_law_read) (defScope s_law_read) .none kV_law_read dc_law_read pm_law_read an_law_read cd_law_read ct_law_read), sl_law_read⟩)
    (c_law_read : PySem.W.codeIn K cd_law_read "_law_read" = true)
    (k_law_read : PySem.W.keepIn K (.ref A_law_read) = true)
    (f_law : PySem.W.nsIn K mainGlobals "law" = some (some (.ref A_law)))
    (l_law : K.lookup A_law = some ⟨oc_law, od_law, .func (PySem.W.fnOf "law" "law" (defArgs s_law) (defBody s_law) (defScope s_law) .none kV_law dc_law pm_law an_law cd_law ct_law), sl_law⟩)
    (c_law : PySem.W.codeIn K cd_law "law" = true)
    (k_law : PySem.W.keepIn K (.ref A_law) = true)
    (cr_Gauge : PySem.W.readsIn K C_Gauge (.type "type") = true)
    (cg_Gauge : PySem.W.specialIn K (.ref C_Gauge) "__getattribute__" = some (some (.builtin "type.__getattribute__")))
    (uf_Gauge_init : PySem.W.findCls K (.ref C_Gauge) (.type "type") "__init__" = some (.val (.ref A_Gauge_init)))
    (cr_LateGauge : PySem.W.readsIn K C_LateGauge (.type "type") = true)
    (cg_LateGauge : PySem.W.specialIn K (.ref C_LateGauge) "__getattribute__" = some (some (.builtin "type.__getattribute__")))
    (uf_LateGauge_init : PySem.W.findCls K (.ref C_LateGauge) (.type "type") "__init__" = some (.val (.ref A_LateGauge_init)))
    (fcvi_Gauge_LONGEST : PySem.W.findCls K (.ref C_Gauge) (.type "type") "LONGEST" = some (.val (.int 12 tcvi_Gauge_LONGEST)))
    (fkt_WORDS : PySem.W.nsIn K mainGlobals "WORDS" = some (some (.ref A_kt_WORDS)))
    (gkt_WORDS : K.lookup A_kt_WORDS = some ⟨.type "tuple", odkt_WORDS, .seq #[.str "rank" tkt_WORDS_0, .str "trim" tkt_WORDS_1, .str "weigh" tkt_WORDS_2, .str "together" tkt_WORDS_3] nkt_WORDS, slkt_WORDS⟩)
    (fgs_LETTERS : PySem.W.nsIn K mainGlobals "LETTERS" = some (some (.str "abcdefghijklmnopqrstuvwxyz" tgs_LETTERS)))
    (fgi_LONGEST : PySem.W.nsIn K mainGlobals "LONGEST" = some (some (.int 18 tgi_LONGEST)))
    (fgs_DIGITS : PySem.W.nsIn K mainGlobals "DIGITS" = some (some (.str "0123456789" tgs_DIGITS)))
    (sup_CoarseGauge_CoarseGauge___init__ : PySem.W.ks_superIn K C_CoarseGauge C_CoarseGauge "__init__" = some (some (.ref A_Gauge_init)))
    (smr_CoarseGauge_CoarseGauge : PySem.W.mroIn K C_CoarseGauge (.ref C_CoarseGauge) = some true)
    (sty_Gauge_init : PySem.W.typeIn K (.ref A_Gauge_init) = some (.type "function"))
    (sfn_Gauge_init : PySem.W.fnIn K A_Gauge_init = true)
    (z_len : PySem.W.nsIn K mainGlobals "len" = some none)
    (z_int : PySem.W.nsIn K mainGlobals "int" = some none)
    (z_bool : PySem.W.nsIn K mainGlobals "bool" = some none)
    (z_str : PySem.W.nsIn K mainGlobals "str" = some none)
    (z_isinstance : PySem.W.nsIn K mainGlobals "isinstance" = some none)
    (z_range : PySem.W.nsIn K mainGlobals "range" = some none)
    (z_max : PySem.W.nsIn K mainGlobals "max" = some none)
    (z_min : PySem.W.nsIn K mainGlobals "min" = some none)
    (z_abs : PySem.W.nsIn K mainGlobals "abs" = some none)
    (z_sorted : PySem.W.nsIn K mainGlobals "sorted" = some none)
    (z_sum : PySem.W.nsIn K mainGlobals "sum" = some none)
    (z_any : PySem.W.nsIn K mainGlobals "any" = some none)
    (z_all : PySem.W.nsIn K mainGlobals "all" = some none)
    (z_list : PySem.W.nsIn K mainGlobals "list" = some none)
    (z_dict : PySem.W.nsIn K mainGlobals "dict" = some none)
    (z_tuple : PySem.W.nsIn K mainGlobals "tuple" = some none)
    (z_enumerate : PySem.W.nsIn K mainGlobals "enumerate" = some none)
    (z_zip : PySem.W.nsIn K mainGlobals "zip" = some none)
    (z_repr : PySem.W.nsIn K mainGlobals "repr" = some none)
    (z_iter : PySem.W.nsIn K mainGlobals "iter" = some none)
    (z_super : PySem.W.nsIn K mainGlobals "super" = some none) :
    ∃ fd : FuncData, (∀ (s : Shared) (v : Value), BindsTo s fd ⟨[v], []⟩ [("_law_script", v)]) ∧ ∀ base : Heap, K.In base → base.Ns mainGlobals mg → FnOk l.prog w K mg base (L2.CX l.prog w) 9 fa fd ["_law_script"] (spLaw K) := by
  have e := hfa.symm.trans (PySem.W.mg_of X G f_law)
  cases e
  let g : Gm := ⟨K, fun c => match c with | .Gauge => C_Gauge | .CoarseGauge => C_CoarseGauge | .LateGauge => C_LateGauge | .LateCoarseGauge => C_LateCoarseGauge | _ => 0, fun c => match c with | .BadGauge => E_BadGauge | .BadText => E_BadText | _ => 0⟩
  have B : Bt mg := ⟨PySem.W.mg_none_of X G z_len, PySem.W.mg_none_of X G z_int, PySem.W.mg_none_of X G z_bool, PySem.W.mg_none_of X G z_str, PySem.W.mg_none_of X G z_isinstance, PySem.W.mg_none_of X G z_range, PySem.W.mg_none_of X G z_max, PySem.W.mg_none_of X G z_min, PySem.W.mg_none_of X G z_abs, PySem.W.mg_none_of X G z_sorted, PySem.W.mg_none_of X G z_sum, PySem.W.mg_none_of X G z_any, PySem.W.mg_none_of X G z_all, PySem.W.mg_none_of X G z_list, PySem.W.mg_none_of X G z_dict, PySem.W.mg_none_of X G z_tuple, PySem.W.mg_none_of X G z_enumerate, PySem.W.mg_none_of X G z_zip, PySem.W.mg_none_of X G z_repr, PySem.W.mg_none_of X G z_iter, PySem.W.mg_none_of X G z_super⟩
  have cls_Gauge : Cls g.K (g.ca .Gauge) := ⟨pg_Gauge, hd_Gauge, po_Gauge, sa_Gauge⟩
  have cls_CoarseGauge : Cls g.K (g.ca .CoarseGauge) := ⟨pg_CoarseGauge, hd_CoarseGauge, po_CoarseGauge, sa_CoarseGauge⟩
  have cls_LateGauge : Cls g.K (g.ca .LateGauge) := ⟨pg_LateGauge, hd_LateGauge, po_LateGauge, sa_LateGauge⟩
  have cls_LateCoarseGauge : Cls g.K (g.ca .LateCoarseGauge) := ⟨pg_LateCoarseGauge, hd_LateCoarseGauge, po_LateCoarseGauge, sa_LateCoarseGauge⟩
  have fl_name : Flds g [.Gauge, .CoarseGauge, .LateGauge, .LateCoarseGauge] .name := (flds_cons (c := .Gauge) cls_Gauge n_name_Gauge (flds_cons (c := .CoarseGauge) cls_CoarseGauge n_name_CoarseGauge (flds_cons (c := .LateGauge) cls_LateGauge n_name_LateGauge (flds_cons (c := .LateCoarseGauge) cls_LateCoarseGauge n_name_LateCoarseGauge flds_nil))))
  have fl_radius : Flds g [.Gauge, .CoarseGauge, .LateGauge, .LateCoarseGauge] .radius := (flds_cons (c := .Gauge) cls_Gauge n_radius_Gauge (flds_cons (c := .CoarseGauge) cls_CoarseGauge n_radius_CoarseGauge (flds_cons (c := .LateGauge) cls_LateGauge n_radius_LateGauge (flds_cons (c := .LateCoarseGauge) cls_LateCoarseGauge n_radius_LateCoarseGauge flds_nil))))
  have fl_step : Flds g [.CoarseGauge, .LateCoarseGauge] .step := (flds_cons (c := .CoarseGauge) cls_CoarseGauge n_step_CoarseGauge (flds_cons (c := .LateCoarseGauge) cls_LateCoarseGauge n_step_LateCoarseGauge flds_nil))
  have fl_late : Flds g [.LateGauge, .LateCoarseGauge] .late := (flds_cons (c := .LateGauge) cls_LateGauge n_late_LateGauge (flds_cons (c := .LateCoarseGauge) cls_LateCoarseGauge n_late_LateCoarseGauge flds_nil))
  have fl_pace : Flds g [.LateGauge, .LateCoarseGauge] .pace := (flds_cons (c := .LateGauge) cls_LateGauge n_pace_LateGauge (flds_cons (c := .LateCoarseGauge) cls_LateCoarseGauge n_pace_LateCoarseGauge flds_nil))
  have oty_CoarseGauge : OwnTy g .CoarseGauge := ⟨cls_CoarseGauge, oc_CoarseGauge, og, ot, om_CoarseGauge⟩
  have oty_Gauge : OwnTy g .Gauge := ⟨cls_Gauge, oc_Gauge, og, ot, om_Gauge⟩
  have oty_LateCoarseGauge : OwnTy g .LateCoarseGauge := ⟨cls_LateCoarseGauge, oc_LateCoarseGauge, og, ot, om_LateCoarseGauge⟩
  have oty_LateGauge : OwnTy g .LateGauge := ⟨cls_LateGauge, oc_LateGauge, og, ot, om_LateGauge⟩
  have xfc_BadGauge : XfC g.K (g.ea .BadGauge) := ⟨ga_BadGauge, gg_BadGauge, xb_BadGauge, hd_BadGauge⟩
  have xfc_BadText : XfC g.K (g.ea .BadText) := ⟨ga_BadText, gg_BadText, xb_BadText, hd_BadText⟩
  have cvi_Gauge_LONGEST : CVI g g.K .Gauge "LONGEST" 12 := ⟨.type "type", _, ⟨cr_Gauge, cg_Gauge⟩, fcvi_Gauge_LONGEST⟩
  have mgc_Gauge : mg "Gauge" = some (.ref (g.ca .Gauge)) := PySem.W.mg_of X G a_Gauge
  have kt_WORDS : KTup g.K mg "WORDS" ["rank", "trim", "weigh", "together"] := ⟨A_kt_WORDS, _, _, _, PySem.W.mg_of X G fkt_WORDS, gkt_WORDS, rfl, rfl, by rw [sizeLine_eq]; simp, (.cons ⟨_, rfl⟩ (.cons ⟨_, rfl⟩ (.cons ⟨_, rfl⟩ (.cons ⟨_, rfl⟩ .nil))))⟩
  have gs_LETTERS : ∃ t : Tok, mg "LETTERS" = some (.str "abcdefghijklmnopqrstuvwxyz" t) := ⟨_, PySem.W.mg_of X G fgs_LETTERS⟩
  have mgc_LateGauge : mg "LateGauge" = some (.ref (g.ca .LateGauge)) := PySem.W.mg_of X G a_LateGauge
  have gi_LONGEST : ∃ t : Tok, mg "LONGEST" = some (.int 18 t) := ⟨_, PySem.W.mg_of X G fgi_LONGEST⟩
  have gs_DIGITS : ∃ t : Tok, mg "DIGITS" = some (.str "0123456789" t) := ⟨_, PySem.W.mg_of X G fgs_DIGITS⟩
  have mg_BadGauge : mg "BadGauge" = some (.ref (g.ea .BadGauge)) := PySem.W.mg_of X G a_BadGauge
  have ct_BadGauge : Cat g g.K (.ref (g.ea .BadGauge)) catBadGauge := (look_cons (PySem.W.exm_ref xb_BadGauge hd_BadGauge ty_BadGauge su_BadGauge_BadGauge) (look_cons (PySem.W.exm_ref xb_BadGauge hd_BadGauge ty_BadGauge su_BadText_BadGauge) look_nil))
  have xbe_BadGauge : ∀ ec, catBadGauge ec = some true → PySem.W.subIn g.K (.ref (g.ea ec)) (.type "BaseException") = some true := fun ec e => (show ∀ ec b, catBadGauge ec = some b → b = true → PySem.W.subIn g.K (.ref (g.ea ec)) (.type "BaseException") = some true from (look_cons (Pp := fun ec b => b = true → PySem.W.subIn g.K (.ref (g.ea ec)) (.type "BaseException") = some true) (fun _ => xb_BadGauge) (look_cons (Pp := fun ec b => b = true → PySem.W.subIn g.K (.ref (g.ea ec)) (.type "BaseException") = some true) (fun _ => xb_BadText) look_nil))) ec true e rfl
  have iso_CoarseGauge : IsO g (.ref (g.ca .CoarseGauge)) isoCoarseGauge := isO_mk (look_cons ⟨ko_Gauge_CoarseGauge, an_own oty_Gauge⟩ (look_cons ⟨ko_CoarseGauge_CoarseGauge, an_own oty_CoarseGauge⟩ (look_cons ⟨ko_LateGauge_CoarseGauge, an_own oty_LateGauge⟩ (look_cons ⟨ko_LateCoarseGauge_CoarseGauge, an_own oty_LateCoarseGauge⟩ look_nil))))
  have mgc_CoarseGauge : mg "CoarseGauge" = some (.ref (g.ca .CoarseGauge)) := PySem.W.mg_of X G a_CoarseGauge
  have iso_LateGauge : IsO g (.ref (g.ca .LateGauge)) isoLateGauge := isO_mk (look_cons ⟨ko_Gauge_LateGauge, an_own oty_Gauge⟩ (look_cons ⟨ko_CoarseGauge_LateGauge, an_own oty_CoarseGauge⟩ (look_cons ⟨ko_LateGauge_LateGauge, an_own oty_LateGauge⟩ (look_cons ⟨ko_LateCoarseGauge_LateGauge, an_own oty_LateCoarseGauge⟩ look_nil))))
  have isx_BadGauge : IsTab g (.ref (g.ea .BadGauge)) isxBadGauge := isX_mk (look_cons ⟨kx_BadGauge_BadGauge, xfc_BadGauge, xc_BadGauge, og, ot, xm_BadGauge⟩ (look_cons ⟨kx_BadText_BadGauge, xfc_BadText, xc_BadText, og, ot, xm_BadText⟩ look_nil))
  have xf_text_BadText : XFl g [.BadText] .text := xfl_mk (mem_cons' ⟨xfc_BadText, n_text_BadText⟩ mem_nil)
  have mg_BadText : mg "BadText" = some (.ref (g.ea .BadText)) := PySem.W.mg_of X G a_BadText
  have ct_BadText : Cat g g.K (.ref (g.ea .BadText)) catBadText := (look_cons (PySem.W.exm_ref xb_BadText hd_BadText ty_BadText su_BadGauge_BadText) (look_cons (PySem.W.exm_ref xb_BadText hd_BadText ty_BadText su_BadText_BadText) look_nil))
  have iso_LateCoarseGauge : IsO g (.ref (g.ca .LateCoarseGauge)) isoLateCoarseGauge := isO_mk (look_cons ⟨ko_Gauge_LateCoarseGauge, an_own oty_Gauge⟩ (look_cons ⟨ko_CoarseGauge_LateCoarseGauge, an_own oty_CoarseGauge⟩ (look_cons ⟨ko_LateGauge_LateCoarseGauge, an_own oty_LateGauge⟩ (look_cons ⟨ko_LateCoarseGauge_LateCoarseGauge, an_own oty_LateCoarseGauge⟩ look_nil))))
  have mgc_LateCoarseGauge : mg "LateCoarseGauge" = some (.ref (g.ca .LateCoarseGauge)) := PySem.W.mg_of X G a_LateCoarseGauge
  have ox_BadGauge : OexC g.K (g.ea .BadGauge) := ⟨⟨_, _, _, _, _, _, _, _, _, _, _, _, _, _, _, lk_BadGauge, rv_BadGauge⟩, sa_BadGauge, xb_BadGauge, ty_BadGauge, kc_BadGauge⟩
  have FS_BadGauge : FunS K "__init__" "BadGauge.__init__" s_BadGauge_init A_BadGauge_init _ cc_BadGauge cda_BadGauge E_BadGauge file_BadGauge := ⟨⟨_, _, _, _, _, _, _, _, rfl, l_BadGauge⟩, c_BadGauge, k_BadGauge, ⟨_, _, _, _, _, fl_BadGauge, fv_BadGauge⟩, ⟨_, _, _, ce_BadGauge⟩, ⟨_, dc_BadGauge⟩⟩
  have ox_BadText : OexC g.K (g.ea .BadText) := ⟨⟨_, _, _, _, _, _, _, _, _, _, _, _, _, _, _, lk_BadText, rv_BadText⟩, sa_BadText, xb_BadText, ty_BadText, kc_BadText⟩
  have FS_BadText : FunS K "__init__" "BadText.__init__" s_BadText_init A_BadText_init _ cc_BadText cda_BadText E_BadText file_BadText := ⟨⟨_, _, _, _, _, _, _, _, rfl, l_BadText⟩, c_BadText, k_BadText, ⟨_, _, _, _, _, fl_BadText, fv_BadText⟩, ⟨_, _, _, ce_BadText⟩, ⟨_, dc_BadText⟩⟩
  have F_law_take := fun_mk (st := s_law_take) l_law_take c_law_take k_law_take
  have bd_law_take := F_law_take.binds (ps := ["_law_box_here", "_law_many"]) fun _ _ _ _ _ _ us hl => match us, hl with | [_, _], _ => rfl
  have F_law_box := fun_mk (st := s_law_box) l_law_box c_law_box k_law_box
  have bd_law_box := F_law_box.binds (ps := ["_law_script", "_law_salt"]) fun _ _ _ _ _ _ us hl => match us, hl with | [_, _], _ => rfl
  have F_law_word := fun_mk (st := s_law_word) l_law_word c_law_word k_law_word
  have bd_law_word := F_law_word.binds (ps := ["_law_number", "_law_many", "_law_back"]) fun _ _ _ _ _ _ us hl => match us, hl with | [_, _, _], _ => rfl
  have F_law_words := fun_mk (st := s_law_words) l_law_words c_law_words k_law_words
  have bd_law_words := F_law_words.binds (ps := ["_law_box_here", "_law_many"]) fun _ _ _ _ _ _ us hl => match us, hl with | [_, _], _ => rfl
  have F_valid_name := fun_mk (st := s_valid_name) l_valid_name c_valid_name k_valid_name
  have bd_valid_name := F_valid_name.binds (ps := ["name"]) fun _ _ _ _ _ _ us hl => match us, hl with | [_], _ => rfl
  have F_Gauge_init := fun_mk (st := s_Gauge_init) l_Gauge_init c_Gauge_init k_Gauge_init
  have bd_Gauge_init := F_Gauge_init.binds (ps := ["self", "name", "radius"]) fun _ _ _ _ _ _ us hl => match us, hl with | [_, _, _], _ => rfl
  have FS_CoarseGauge_init : FunS K "__init__" "CoarseGauge.__init__" s_CoarseGauge_init A_CoarseGauge_init _ cc_CoarseGauge_init cda_CoarseGauge_init C_CoarseGauge file_CoarseGauge_init := ⟨⟨_, _, _, _, _, _, _, _, rfl, l_CoarseGauge_init⟩, c_CoarseGauge_init, k_CoarseGauge_init, ⟨_, _, _, _, _, fl_CoarseGauge_init, fv_CoarseGauge_init⟩, ⟨_, _, _, ce_CoarseGauge_init⟩, ⟨_, dc_CoarseGauge_init⟩⟩
  have F_LateGauge_init := fun_mk (st := s_LateGauge_init) l_LateGauge_init c_LateGauge_init k_LateGauge_init
  have F_LateCoarseGauge_init := fun_mk (st := s_LateCoarseGauge_init) l_LateCoarseGauge_init c_LateCoarseGauge_init k_LateCoarseGauge_init
  have F_law_specs := fun_mk (st := s_law_specs) l_law_specs c_law_specs k_law_specs
  have bd_law_specs := F_law_specs.binds (ps := ["_law_box_here", "_law_words_here"]) fun _ _ _ _ _ _ us hl => match us, hl with | [_, _], _ => rfl
  have F_law_gauge := fun_mk (st := s_law_gauge) l_law_gauge c_law_gauge k_law_gauge
  have bd_law_gauge := F_law_gauge.binds (ps := ["_law_spec"]) fun _ _ _ _ _ _ us hl => match us, hl with | [_], _ => rfl
  have F_read_number := fun_mk (st := s_read_number) l_read_number c_read_number k_read_number
  have bd_read_number := F_read_number.binds (ps := ["word", "text"]) fun _ _ _ _ _ _ us hl => match us, hl with | [_, _], _ => rfl
  have F_numbers_after := fun_mk (st := s_numbers_after) l_numbers_after c_numbers_after k_numbers_after
  have bd_numbers_after := F_numbers_after.binds (ps := ["words", "labels", "line"]) fun _ _ _ _ _ _ us hl => match us, hl with | [_, _, _], _ => rfl
  have F_read_gauge := fun_mk (st := s_read_gauge) l_read_gauge c_read_gauge k_read_gauge
  have bd_read_gauge := F_read_gauge.binds (ps := ["line"]) fun _ _ _ _ _ _ us hl => match us, hl with | [_], _ => rfl
  have F_write_gauge := fun_mk (st := s_write_gauge) l_write_gauge c_write_gauge k_write_gauge
  have bd_write_gauge := F_write_gauge.binds (ps := ["gauge"]) fun _ _ _ _ _ _ us hl => match us, hl with | [_], _ => rfl
  have F_law_line := fun_mk (st := s_law_line) l_law_line c_law_line k_law_line
  have bd_law_line := F_law_line.binds (ps := ["_law_spec"]) fun _ _ _ _ _ _ us hl => match us, hl with | [_], _ => rfl
  have F_law_read := fun_mk (st := s_law_read) l_law_read c_law_read k_law_read
  have bd_law_read := F_law_read.binds (ps := ["_law_line_here"]) fun _ _ _ _ _ _ us hl => match us, hl with | [_], _ => rfl
  have F_law := fun_mk (st := s_law) l_law c_law k_law
  refine ⟨PySem.W.fnOf "law" "law" (defArgs s_law) (defBody s_law) (defScope s_law) .none kV_law dc_law pm_law an_law cd_law ct_law, fun s v => .of_eq rfl, fun base _ _ => ?_⟩
  have gx_BadGauge : GX g l.prog w g.K mg base .BadGauge "BadGauge" [.name] := gx_mk (PySem.W.mg_of X G a_BadGauge) ox_BadGauge fi_BadGauge ti_BadGauge (x_BadGauge (w := w) (mg := mg) (base := base) FS_BadGauge ⟨pf_BadGauge, ps⟩ B.super ⟨ox_BadGauge, mr_BadGauge, su_BadGauge, ve_BadGauge, th⟩ n_name_BadGauge) (FS_BadGauge.binds (ps := ["self", "name"]) fun _ _ _ _ _ us hl => match us, hl with | [_, _], _ => rfl)
  have gx_BadText : GX g l.prog w g.K mg base .BadText "BadText" [.text] := gx_mk (PySem.W.mg_of X G a_BadText) ox_BadText fi_BadText ti_BadText (x_BadText (w := w) (mg := mg) (base := base) FS_BadText ⟨pf_BadText, ps⟩ B.super ⟨ox_BadText, mr_BadText, su_BadText, ve_BadText, th⟩ n_text_BadText) (FS_BadText.binds (ps := ["self", "text"]) fun _ _ _ _ _ us hl => match us, hl with | [_, _], _ => rfl)
  have gxw_BadText : GXW g l.prog w g.K mg base .BadText "BadText" [.text] := gxw_mk (PySem.W.mg_of X G a_BadText) ox_BadText fi_BadText ti_BadText (xw_BadText (w := w) (mg := mg) (base := base) FS_BadText ⟨pf_BadText, ps⟩ B.super ⟨ox_BadText, mr_BadText, su_BadText, ve_BadText, th⟩ n_text_BadText) (FS_BadText.binds (ps := ["self", "text"]) fun _ _ _ _ _ us hl => match us, hl with | [_, _], _ => rfl)
  have fn_law_take := fnF (g := g) (K := g.K) (mg := mg) (P := l.prog) (w := w) (base := base) F_law_take bd_law_take sc_law_take (b_law_take B ) pure_law_take
  have gd_law_take : GD g l.prog w g.K mg base _ "_law_take" _ := ⟨A_law_take, PySem.W.mg_of X G f_law_take, k_law_take, fn_law_take⟩
  have fn_law_box := fnF (g := g) (K := g.K) (mg := mg) (P := l.prog) (w := w) (base := base) F_law_box bd_law_box sc_law_box (b_law_box B ) pure_law_box
  have gd_law_box : GD g l.prog w g.K mg base _ "_law_box" _ := ⟨A_law_box, PySem.W.mg_of X G f_law_box, k_law_box, fn_law_box⟩
  have fn_law_word := fnF (g := g) (K := g.K) (mg := mg) (P := l.prog) (w := w) (base := base) F_law_word bd_law_word sc_law_word (b_law_word B ) pure_law_word
  have gd_law_word : GD g l.prog w g.K mg base _ "_law_word" _ := ⟨A_law_word, PySem.W.mg_of X G f_law_word, k_law_word, fn_law_word⟩
  have fn_law_words := fnF (g := g) (K := g.K) (mg := mg) (P := l.prog) (w := w) (base := base) F_law_words bd_law_words sc_law_words (b_law_words B gd_law_take gd_law_word) pure_law_words
  have gd_law_words : GD g l.prog w g.K mg base _ "_law_words" _ := ⟨A_law_words, PySem.W.mg_of X G f_law_words, k_law_words, fn_law_words⟩
  have fnA_valid_name := fnFA (cn := 0) (g := g) (K := g.K) (mg := mg) (P := l.prog) (w := w) (base := base) F_valid_name bd_valid_name sc_valid_name (b_valid_name B cvi_Gauge_LONGEST mgc_Gauge kt_WORDS gs_LETTERS) pure_valid_name
  have fn_valid_name := FNA.old fnA_valid_name
  have gdA_valid_name : GDA 0 g l.prog w g.K mg base _ "valid_name" _ := ⟨A_valid_name, PySem.W.mg_of X G f_valid_name, k_valid_name, fnA_valid_name⟩
  have gd_valid_name : GD g l.prog w g.K mg base _ "valid_name" _ := ⟨A_valid_name, PySem.W.mg_of X G f_valid_name, k_valid_name, fn_valid_name⟩
  have fnA_Gauge_init := fnFA (cn := 0) (g := g) (K := g.K) (mg := mg) (P := l.prog) (w := w) (base := base) F_Gauge_init bd_Gauge_init sc_Gauge_init (b_Gauge_init B gdA_valid_name gx_BadGauge fl_name fl_radius) pure_Gauge_init
  have fn_Gauge_init := FNA.old fnA_Gauge_init
  have gcA_Gauge : GCA 0 g l.prog w g.K mg base _ .Gauge "Gauge" _ := ⟨PySem.W.mg_of X G a_Gauge, A_Gauge_init, ⟨mk_Gauge, f_Gauge_init, i_Gauge_init, kc_Gauge⟩, fnA_Gauge_init⟩
  have gc_Gauge : GC g l.prog w g.K mg base _ .Gauge "Gauge" _ := ⟨PySem.W.mg_of X G a_Gauge, A_Gauge_init, ⟨mk_Gauge, f_Gauge_init, i_Gauge_init, kc_Gauge⟩, fn_Gauge_init⟩
  have mo_Gauge_init : MOk g l.prog w g.K mg base _ .Gauge "__init__" _ := ⟨cls_Gauge, A_Gauge_init, ⟨f_Gauge_init, i_Gauge_init, k_Gauge_init⟩, fn_Gauge_init⟩
  have stbA_CoarseGauge_init : STabA 0 g l.prog w g.K mg base 3 C_CoarseGauge "__init__" [(.CoarseGauge, S_Gauge_init)] := (st_consA ⟨sup_CoarseGauge_CoarseGauge___init__, sty_Gauge_init, sfn_Gauge_init, smr_CoarseGauge_CoarseGauge, th⟩ (FNA.mono fnA_Gauge_init (by decide)) st_nilA)
  have stb_CoarseGauge_init : STab g l.prog w g.K mg base 3 C_CoarseGauge "__init__" [(.CoarseGauge, S_Gauge_init)] := (st_cons ⟨sup_CoarseGauge_CoarseGauge___init__, sty_Gauge_init, sfn_Gauge_init, smr_CoarseGauge_CoarseGauge, th⟩ (FN.mono fn_Gauge_init (by decide)) st_nil)
  have uaA_Gauge_init : UAtA 0 g l.prog w g.K mg base 3 .Gauge "__init__" S_Gauge_init := ⟨.type "type", A_Gauge_init, ⟨cr_Gauge, cg_Gauge⟩, uf_Gauge_init, k_Gauge_init, FNA.mono fnA_Gauge_init (by decide)⟩
  have ua_Gauge_init : UAt g l.prog w g.K mg base 3 .Gauge "__init__" S_Gauge_init := ⟨.type "type", A_Gauge_init, ⟨cr_Gauge, cg_Gauge⟩, uf_Gauge_init, k_Gauge_init, FN.mono fn_Gauge_init (by decide)⟩
  have uakA_LateGauge_init_late_pace : UAtKA 0 g l.prog w g.K mg base 4 .LateGauge "__init__" 3 ["late", "pace"] [0, 1] S_LateGauge_init := ⟨.type "type", A_LateGauge_init, ⟨cr_LateGauge, cg_LateGauge⟩, uf_LateGauge_init, k_LateGauge_init, FNKA.mono (fnFKA (cn := 0) (g := g) (K := g.K) (mg := mg) (P := l.prog) (w := w) (base := base) (n := 3) (ks := ["late", "pace"]) (idx := [0, 1]) F_LateGauge_init sc_LateGauge_init (b_LateGauge_init B mgc_Gauge uaA_Gauge_init gx_BadGauge fl_late fl_pace) pure_LateGauge_init fun _ _ _ _ _ _ us ws h1 h2 => match us, ws, h1, h2 with | [_, _, _], [_, _], _, _ => rfl) (by decide)⟩
  have uak_LateGauge_init_late_pace : UAtK g l.prog w g.K mg base 4 .LateGauge "__init__" 3 ["late", "pace"] [0, 1] S_LateGauge_init := UAtKA.old uakA_LateGauge_init_late_pace
  have fn_law_specs := fnF (g := g) (K := g.K) (mg := mg) (P := l.prog) (w := w) (base := base) F_law_specs bd_law_specs sc_law_specs (b_law_specs B gd_law_take) pure_law_specs
  have gd_law_specs : GD g l.prog w g.K mg base _ "_law_specs" _ := ⟨A_law_specs, PySem.W.mg_of X G f_law_specs, k_law_specs, fn_law_specs⟩
  have gckA_CoarseGauge_step : GCKA 0 g l.prog w g.K mg base 4 .CoarseGauge "CoarseGauge" 2 ["step"] [0] S_CoarseGauge_init := ⟨PySem.W.mg_of X G a_CoarseGauge, A_CoarseGauge_init, ⟨mk_CoarseGauge, f_CoarseGauge_init, i_CoarseGauge_init, kc_CoarseGauge⟩, FNKA.mono (fnSKA (cn := 0) (g := g) (K := g.K) (mg := mg) (P := l.prog) (w := w) (base := base) (n := 3) (ks := ["step"]) (idx := [0]) FS_CoarseGauge_init sc_CoarseGauge_init (b_CoarseGauge_init B FS_CoarseGauge_init ⟨pf_CoarseGauge_init, ps⟩ stbA_CoarseGauge_init gx_BadGauge fl_step) pure_CoarseGauge_init (by decide) fun _ _ _ _ _ us ws h1 h2 => match us, ws, h1, h2 with | [_, _, _], [_], _, _ => rfl) (by decide)⟩
  have gck_CoarseGauge_step : GCK g l.prog w g.K mg base 4 .CoarseGauge "CoarseGauge" 2 ["step"] [0] S_CoarseGauge_init := GCKA.old gckA_CoarseGauge_step
  have gckA_LateGauge_late_pace : GCKA 0 g l.prog w g.K mg base 4 .LateGauge "LateGauge" 2 ["late", "pace"] [0, 1] S_LateGauge_init := ⟨PySem.W.mg_of X G a_LateGauge, A_LateGauge_init, ⟨mk_LateGauge, f_LateGauge_init, i_LateGauge_init, kc_LateGauge⟩, FNKA.mono (fnFKA (cn := 0) (g := g) (K := g.K) (mg := mg) (P := l.prog) (w := w) (base := base) (n := 3) (ks := ["late", "pace"]) (idx := [0, 1]) F_LateGauge_init sc_LateGauge_init (b_LateGauge_init B mgc_Gauge uaA_Gauge_init gx_BadGauge fl_late fl_pace) pure_LateGauge_init fun _ _ _ _ _ _ us ws h1 h2 => match us, ws, h1, h2 with | [_, _, _], [_, _], _, _ => rfl) (by decide)⟩
  have gck_LateGauge_late_pace : GCK g l.prog w g.K mg base 4 .LateGauge "LateGauge" 2 ["late", "pace"] [0, 1] S_LateGauge_init := GCKA.old gckA_LateGauge_late_pace
  have gckA_LateCoarseGauge_pace_step_late : GCKA 0 g l.prog w g.K mg base 5 .LateCoarseGauge "LateCoarseGauge" 2 ["pace", "step", "late"] [1, 2, 0] S_LateCoarseGauge_init := ⟨PySem.W.mg_of X G a_LateCoarseGauge, A_LateCoarseGauge_init, ⟨mk_LateCoarseGauge, f_LateCoarseGauge_init, i_LateCoarseGauge_init, kc_LateCoarseGauge⟩, FNKA.mono (fnFKA (cn := 0) (g := g) (K := g.K) (mg := mg) (P := l.prog) (w := w) (base := base) (n := 3) (ks := ["pace", "step", "late"]) (idx := [1, 2, 0]) F_LateCoarseGauge_init sc_LateCoarseGauge_init (b_LateCoarseGauge_init B mgc_LateGauge uakA_LateGauge_init_late_pace gx_BadGauge fl_step) pure_LateCoarseGauge_init fun _ _ _ _ _ _ us ws h1 h2 => match us, ws, h1, h2 with | [_, _, _], [_, _, _], _, _ => rfl) (by decide)⟩
  have gck_LateCoarseGauge_pace_step_late : GCK g l.prog w g.K mg base 5 .LateCoarseGauge "LateCoarseGauge" 2 ["pace", "step", "late"] [1, 2, 0] S_LateCoarseGauge_init := GCKA.old gckA_LateCoarseGauge_pace_step_late
  have fn_law_gauge := fnF (g := g) (K := g.K) (mg := mg) (P := l.prog) (w := w) (base := base) F_law_gauge bd_law_gauge sc_law_gauge (b_law_gauge B gck_CoarseGauge_step gck_LateGauge_late_pace gck_LateCoarseGauge_pace_step_late gc_Gauge) pure_law_gauge
  have gd_law_gauge : GD g l.prog w g.K mg base _ "_law_gauge" _ := ⟨A_law_gauge, PySem.W.mg_of X G f_law_gauge, k_law_gauge, fn_law_gauge⟩
  have fnA_read_number := fnFA (cn := 0) (g := g) (K := g.K) (mg := mg) (P := l.prog) (w := w) (base := base) F_read_number bd_read_number sc_read_number (b_read_number B gi_LONGEST gs_DIGITS gx_BadText) pure_read_number
  have fn_read_number := FNA.old fnA_read_number
  have gdA_read_number : GDA 0 g l.prog w g.K mg base _ "read_number" _ := ⟨A_read_number, PySem.W.mg_of X G f_read_number, k_read_number, fnA_read_number⟩
  have gd_read_number : GD g l.prog w g.K mg base _ "read_number" _ := ⟨A_read_number, PySem.W.mg_of X G f_read_number, k_read_number, fn_read_number⟩
  have fnA_numbers_after := fnFA (cn := 0) (g := g) (K := g.K) (mg := mg) (P := l.prog) (w := w) (base := base) F_numbers_after bd_numbers_after sc_numbers_after (b_numbers_after B gx_BadText gdA_read_number) pure_numbers_after
  have fn_numbers_after := FNA.old fnA_numbers_after
  have gdA_numbers_after : GDA 0 g l.prog w g.K mg base _ "numbers_after" _ := ⟨A_numbers_after, PySem.W.mg_of X G f_numbers_after, k_numbers_after, fnA_numbers_after⟩
  have gd_numbers_after : GD g l.prog w g.K mg base _ "numbers_after" _ := ⟨A_numbers_after, PySem.W.mg_of X G f_numbers_after, k_numbers_after, fn_numbers_after⟩
  have gckA_LateCoarseGauge_step_late_pace : GCKA 0 g l.prog w g.K mg base 5 .LateCoarseGauge "LateCoarseGauge" 2 ["step", "late", "pace"] [0, 1, 2] S_LateCoarseGauge_init := ⟨PySem.W.mg_of X G a_LateCoarseGauge, A_LateCoarseGauge_init, ⟨mk_LateCoarseGauge, f_LateCoarseGauge_init, i_LateCoarseGauge_init, kc_LateCoarseGauge⟩, FNKA.mono (fnFKA (cn := 0) (g := g) (K := g.K) (mg := mg) (P := l.prog) (w := w) (base := base) (n := 3) (ks := ["step", "late", "pace"]) (idx := [0, 1, 2]) F_LateCoarseGauge_init sc_LateCoarseGauge_init (b_LateCoarseGauge_init B mgc_LateGauge uakA_LateGauge_init_late_pace gx_BadGauge fl_step) pure_LateCoarseGauge_init fun _ _ _ _ _ _ us ws h1 h2 => match us, ws, h1, h2 with | [_, _, _], [_, _, _], _, _ => rfl) (by decide)⟩
  have gck_LateCoarseGauge_step_late_pace : GCK g l.prog w g.K mg base 5 .LateCoarseGauge "LateCoarseGauge" 2 ["step", "late", "pace"] [0, 1, 2] S_LateCoarseGauge_init := GCKA.old gckA_LateCoarseGauge_step_late_pace
  have fn_read_gauge := fnF (g := g) (K := g.K) (mg := mg) (P := l.prog) (w := w) (base := base) F_read_gauge bd_read_gauge sc_read_gauge (b_read_gauge B gx_BadText gd_read_number gdA_numbers_after gckA_LateCoarseGauge_step_late_pace gckA_LateGauge_late_pace gckA_CoarseGauge_step gcA_Gauge mg_BadGauge ct_BadGauge xbe_BadGauge gxw_BadText) pure_read_gauge
  have gd_read_gauge : GD g l.prog w g.K mg base _ "read_gauge" _ := ⟨A_read_gauge, PySem.W.mg_of X G f_read_gauge, k_read_gauge, fn_read_gauge⟩
  have fn_write_gauge := fnF (g := g) (K := g.K) (mg := mg) (P := l.prog) (w := w) (base := base) F_write_gauge bd_write_gauge sc_write_gauge (b_write_gauge B fl_radius fl_name iso_CoarseGauge mgc_CoarseGauge fl_step iso_LateGauge mgc_LateGauge fl_pace fl_late) pure_write_gauge
  have gd_write_gauge : GD g l.prog w g.K mg base _ "write_gauge" _ := ⟨A_write_gauge, PySem.W.mg_of X G f_write_gauge, k_write_gauge, fn_write_gauge⟩
  have fn_law_line := fnF (g := g) (K := g.K) (mg := mg) (P := l.prog) (w := w) (base := base) F_law_line bd_law_line sc_law_line (b_law_line B ) pure_law_line
  have gd_law_line : GD g l.prog w g.K mg base _ "_law_line" _ := ⟨A_law_line, PySem.W.mg_of X G f_law_line, k_law_line, fn_law_line⟩
  have fn_law_read := fnF (g := g) (K := g.K) (mg := mg) (P := l.prog) (w := w) (base := base) F_law_read bd_law_read sc_law_read (b_law_read B gd_read_gauge isx_BadGauge mg_BadGauge xf_text_BadText mg_BadText ct_BadText iso_CoarseGauge mgc_CoarseGauge iso_LateGauge mgc_LateGauge fl_radius fl_name fl_step fl_pace fl_late iso_LateCoarseGauge mgc_LateCoarseGauge) pure_law_read
  have gd_law_read : GD g l.prog w g.K mg base _ "_law_read" _ := ⟨A_law_read, PySem.W.mg_of X G f_law_read, k_law_read, fn_law_read⟩
  exact (fn_okF (g := g) F_law sc_law (fun ds O P E h => (pure_law ds O P E h).1) (b_law B gd_law_box gd_law_words gd_law_take gd_law_specs gd_law_line gd_law_gauge gd_write_gauge gd_law_read _) fun ds O P E h => (pure_law ds O P E h).2).imp fun vs H Q E h => spLaw_of (g := g) h
theorem hfk0 {K : PySem.W.Frag} (h : Hd.okAll (hck0 K) = true) : (Hd.cdS K 104 103) = true ∧ (Hd.cdS K 125 124) = true ∧ (Hd.cdQ K 451 "_law_take") = true ∧ (Hd.cdQ K 444 "_law_box") = true ∧ (Hd.cdQ K 458 "_law_word") = true ∧ (Hd.cdQ K 465 "_law_words") = true ∧ (Hd.cdQ K 415 "valid_name") = true ∧ (Hd.cdQ K 276 "Gauge.__init__") = true ∧ (Hd.cdS K 342 341) = true ∧ (Hd.cdQ K 370 "LateGauge.__init__") = true ∧ (Hd.cdQ K 405 "LateCoarseGauge.__init__") = true ∧ (Hd.cdQ K 472 "_law_specs") = true ∧ (Hd.cdQ K 479 "_law_gauge") = true ∧ (Hd.cdQ K 420 "read_number") = true ∧ (Hd.cdQ K 434 "numbers_after") = true ∧ (Hd.cdQ K 439 "read_gauge") = true ∧ (Hd.cdQ K 427 "write_gauge") = true ∧ (Hd.cdQ K 486 "_law_line") = true ∧ (Hd.cdQ K 493 "_law_read") = true ∧ (Hd.cdQ K 500 "law") = true := by
  unfold hck0 at h
  obtain ⟨h0, h⟩ := Hd.okc h
  obtain ⟨h1, h⟩ := Hd.okc h
  obtain ⟨h2, h⟩ := Hd.okc h
  obtain ⟨h3, h⟩ := Hd.okc h
  obtain ⟨h4, h⟩ := Hd.okc h
  obtain ⟨h5, h⟩ := Hd.okc h
  obtain ⟨h6, h⟩ := Hd.okc h
  obtain ⟨h7, h⟩ := Hd.okc h
  obtain ⟨h8, h⟩ := Hd.okc h
  obtain ⟨h9, h⟩ := Hd.okc h
  obtain ⟨h10, h⟩ := Hd.okc h
  obtain ⟨h11, h⟩ := Hd.okc h
  obtain ⟨h12, h⟩ := Hd.okc h
  obtain ⟨h13, h⟩ := Hd.okc h
  obtain ⟨h14, h⟩ := Hd.okc h
  obtain ⟨h15, h⟩ := Hd.okc h
  obtain ⟨h16, h⟩ := Hd.okc h
  obtain ⟨h17, h⟩ := Hd.okc h
  obtain ⟨h18, h⟩ := Hd.okc h
  obtain ⟨h19, h⟩ := Hd.okc h
  exact ⟨h0, h1, h2, h3, h4, h5, h6, h7, h8, h9, h10, h11, h12, h13, h14, h15, h16, h17, h18, h19⟩
theorem hfk1 {K : PySem.W.Frag} (h : Hd.okAll (hck1 K) = true) : (decide (PySem.W.nsIn K mainGlobals "Gauge" = some (some (.ref 322)))) = true ∧ (PySem.W.plainGet K 322 Str.empty) = true ∧ (PySem.W.hasDictIn K 322) = true ∧ (PySem.W.plainOver K 322) = true ∧ (decide (PySem.W.findIn K (.ref 322) "__setattr__" = some (some (.builtin "object.__setattr__")))) = true ∧ (PySem.W.makesIn K 322) = true ∧ (PySem.W.keepIn K (.ref 322)) = true ∧ (decide (PySem.W.nsIn K mainGlobals "CoarseGauge" = some (some (.ref 353)))) = true ∧ (PySem.W.plainGet K 353 Str.empty) = true ∧ (PySem.W.hasDictIn K 353) = true ∧ (PySem.W.plainOver K 353) = true ∧ (decide (PySem.W.findIn K (.ref 353) "__setattr__" = some (some (.builtin "object.__setattr__")))) = true ∧ (PySem.W.makesIn K 353) = true ∧ (PySem.W.keepIn K (.ref 353)) = true ∧ (decide (PySem.W.nsIn K mainGlobals "LateGauge" = some (some (.ref 389)))) = true ∧ (PySem.W.plainGet K 389 Str.empty) = true ∧ (PySem.W.hasDictIn K 389) = true ∧ (PySem.W.plainOver K 389) = true ∧ (decide (PySem.W.findIn K (.ref 389) "__setattr__" = some (some (.builtin "object.__setattr__")))) = true ∧ (PySem.W.makesIn K 389) = true := by
  unfold hck1 at h
  obtain ⟨h0, h⟩ := Hd.okc h
  obtain ⟨h1, h⟩ := Hd.okc h
  obtain ⟨h2, h⟩ := Hd.okc h
  obtain ⟨h3, h⟩ := Hd.okc h
  obtain ⟨h4, h⟩ := Hd.okc h
  obtain ⟨h5, h⟩ := Hd.okc h
  obtain ⟨h6, h⟩ := Hd.okc h
  obtain ⟨h7, h⟩ := Hd.okc h
  obtain ⟨h8, h⟩ := Hd.okc h
  obtain ⟨h9, h⟩ := Hd.okc h
  obtain ⟨h10, h⟩ := Hd.okc h
  obtain ⟨h11, h⟩ := Hd.okc h
  obtain ⟨h12, h⟩ := Hd.okc h
  obtain ⟨h13, h⟩ := Hd.okc h
  obtain ⟨h14, h⟩ := Hd.okc h
  obtain ⟨h15, h⟩ := Hd.okc h
  obtain ⟨h16, h⟩ := Hd.okc h
  obtain ⟨h17, h⟩ := Hd.okc h
  obtain ⟨h18, h⟩ := Hd.okc h
  obtain ⟨h19, h⟩ := Hd.okc h
  exact ⟨h0, h1, h2, h3, h4, h5, h6, h7, h8, h9, h10, h11, h12, h13, h14, h15, h16, h17, h18, h19⟩
theorem hfk2 {K : PySem.W.Frag} (h : Hd.okAll (hck2 K) = true) : (PySem.W.keepIn K (.ref 389)) = true ∧ (decide (PySem.W.nsIn K mainGlobals "LateCoarseGauge" = some (some (.ref 408)))) = true ∧ (PySem.W.plainGet K 408 Str.empty) = true ∧ (PySem.W.hasDictIn K 408) = true ∧ (PySem.W.plainOver K 408) = true ∧ (decide (PySem.W.findIn K (.ref 408) "__setattr__" = some (some (.builtin "object.__setattr__")))) = true ∧ (PySem.W.makesIn K 408) = true ∧ (PySem.W.keepIn K (.ref 408)) = true ∧ (decide (PySem.W.nsIn K mainGlobals "BadGauge" = some (some (.ref 107)))) = true ∧ (decide (PySem.W.subIn K (.ref 107) (.type "BaseException") = some true)) = true ∧ (decide (PySem.W.typeIn K (.ref 107) = some (.type "type"))) = true ∧ (PySem.W.keepIn K (.ref 107)) = true ∧ (PySem.W.hasDictIn K 107) = true ∧ (decide (PySem.W.nsIn K mainGlobals "BadText" = some (some (.ref 128)))) = true ∧ (decide (PySem.W.subIn K (.ref 128) (.type "BaseException") = some true)) = true ∧ (decide (PySem.W.typeIn K (.ref 128) = some (.type "type"))) = true ∧ (PySem.W.keepIn K (.ref 128)) = true ∧ (PySem.W.hasDictIn K 128) = true ∧ (Hd.lkQ K 107) = true ∧ (decide (PySem.W.findIn K (.ref 107) "__setattr__" = some (some (.builtin "object.__setattr__")))) = true := by
  unfold hck2 at h
  obtain ⟨h0, h⟩ := Hd.okc h
  obtain ⟨h1, h⟩ := Hd.okc h
  obtain ⟨h2, h⟩ := Hd.okc h
  obtain ⟨h3, h⟩ := Hd.okc h
  obtain ⟨h4, h⟩ := Hd.okc h
  obtain ⟨h5, h⟩ := Hd.okc h
  obtain ⟨h6, h⟩ := Hd.okc h
  obtain ⟨h7, h⟩ := Hd.okc h
  obtain ⟨h8, h⟩ := Hd.okc h
  obtain ⟨h9, h⟩ := Hd.okc h
  obtain ⟨h10, h⟩ := Hd.okc h
  obtain ⟨h11, h⟩ := Hd.okc h
  obtain ⟨h12, h⟩ := Hd.okc h
  obtain ⟨h13, h⟩ := Hd.okc h
  obtain ⟨h14, h⟩ := Hd.okc h
  obtain ⟨h15, h⟩ := Hd.okc h
  obtain ⟨h16, h⟩ := Hd.okc h
  obtain ⟨h17, h⟩ := Hd.okc h
  obtain ⟨h18, h⟩ := Hd.okc h
  obtain ⟨h19, h⟩ := Hd.okc h
  exact ⟨h0, h1, h2, h3, h4, h5, h6, h7, h8, h9, h10, h11, h12, h13, h14, h15, h16, h17, h18, h19⟩
theorem hfk3 {K : PySem.W.Frag} (h : Hd.okAll (hck3 K) = true) : (decide (PySem.W.findIn K (.ref 107) "__init__" = some (some (.ref 104)))) = true ∧ (decide (PySem.W.typeIn K (.ref 104) = some (.type "function"))) = true ∧ (PySem.W.codeIn K (.ref 103) "BadGauge.__init__") = true ∧ (PySem.W.keepIn K (.ref 104)) = true ∧ (Hd.flQ K 103 (PySem.W.OpenLaw.row PySem.Challenge.rw_gaugemiss_k28_gauge_lines).prog.main.file) = true ∧ (Hd.ceQ K 92 107) = true ∧ ((PySem.W.clsIn K 107).isSome) = true ∧ (decide (PySem.W.mroIn K 107 (.ref 107) = some true)) = true ∧ (decide (PySem.W.ks_superIn K 107 107 "__init__" = some (some (.builtin "ValueError.__init__")))) = true ∧ (decide (PySem.W.subIn K (.ref 107) (.type "ValueError") = some true)) = true ∧ (Hd.lkQ K 128) = true ∧ (decide (PySem.W.findIn K (.ref 128) "__setattr__" = some (some (.builtin "object.__setattr__")))) = true ∧ (decide (PySem.W.findIn K (.ref 128) "__init__" = some (some (.ref 125)))) = true ∧ (decide (PySem.W.typeIn K (.ref 125) = some (.type "function"))) = true ∧ (PySem.W.codeIn K (.ref 124) "BadText.__init__") = true ∧ (PySem.W.keepIn K (.ref 125)) = true ∧ (Hd.flQ K 124 (PySem.W.OpenLaw.row PySem.Challenge.rw_gaugemiss_k28_gauge_lines).prog.main.file) = true ∧ (Hd.ceQ K 113 128) = true ∧ ((PySem.W.clsIn K 128).isSome) = true ∧ (decide (PySem.W.mroIn K 128 (.ref 128) = some true)) = true := by
  unfold hck3 at h
  obtain ⟨h0, h⟩ := Hd.okc h
  obtain ⟨h1, h⟩ := Hd.okc h
  obtain ⟨h2, h⟩ := Hd.okc h
  obtain ⟨h3, h⟩ := Hd.okc h
  obtain ⟨h4, h⟩ := Hd.okc h
  obtain ⟨h5, h⟩ := Hd.okc h
  obtain ⟨h6, h⟩ := Hd.okc h
  obtain ⟨h7, h⟩ := Hd.okc h
  obtain ⟨h8, h⟩ := Hd.okc h
  obtain ⟨h9, h⟩ := Hd.okc h
  obtain ⟨h10, h⟩ := Hd.okc h
  obtain ⟨h11, h⟩ := Hd.okc h
  obtain ⟨h12, h⟩ := Hd.okc h
  obtain ⟨h13, h⟩ := Hd.okc h
  obtain ⟨h14, h⟩ := Hd.okc h
  obtain ⟨h15, h⟩ := Hd.okc h
  obtain ⟨h16, h⟩ := Hd.okc h
  obtain ⟨h17, h⟩ := Hd.okc h
  obtain ⟨h18, h⟩ := Hd.okc h
  obtain ⟨h19, h⟩ := Hd.okc h
  exact ⟨h0, h1, h2, h3, h4, h5, h6, h7, h8, h9, h10, h11, h12, h13, h14, h15, h16, h17, h18, h19⟩
theorem hfk4 {K : PySem.W.Frag} (h : Hd.okAll (hck4 K) = true) : (decide (PySem.W.ks_superIn K 128 128 "__init__" = some (some (.builtin "ValueError.__init__")))) = true ∧ (decide (PySem.W.subIn K (.ref 128) (.type "ValueError") = some true)) = true ∧ (decide (PySem.W.nsIn K cStatics "thirdparty.any" = some none)) = true ∧ (decide (PySem.W.findIn K (.ref 107) "__getattribute__" = some (some (.builtin "BaseException.__getattribute__")))) = true ∧ (decide (PySem.W.findIn K (.ref 107) "__getattr__" = some none)) = true ∧ (decide (PySem.W.findIn K (.ref 128) "__getattribute__" = some (some (.builtin "BaseException.__getattribute__")))) = true ∧ (decide (PySem.W.findIn K (.ref 128) "__getattr__" = some none)) = true ∧ (decide (PySem.W.findIn K (.ref 107) "name" = some none)) = true ∧ (decide (PySem.W.findIn K (.ref 128) "text" = some none)) = true ∧ (decide (PySem.W.subIn K (.ref 107) (.ref 107) = some true)) = true ∧ (decide (PySem.W.subIn K (.ref 128) (.ref 107) = some false)) = true ∧ (decide (PySem.W.subIn K (.ref 107) (.ref 128) = some false)) = true ∧ (decide (PySem.W.subIn K (.ref 128) (.ref 128) = some true)) = true ∧ (decide (PySem.W.kitOne K (.ref 107) (.ref 107) = some true)) = true ∧ (decide (PySem.W.kitOne K (.ref 128) (.ref 107) = some false)) = true ∧ (decide (PySem.W.findIn K (.ref 107) "__class__" = some (some (.builtin "object.__class__")))) = true ∧ (decide (PySem.W.mroIn K 107 (.type "object") = some true)) = true ∧ (decide (PySem.W.findIn K (.ref 128) "__class__" = some (some (.builtin "object.__class__")))) = true ∧ (decide (PySem.W.mroIn K 128 (.type "object") = some true)) = true ∧ (decide (PySem.W.kitOne K (.ref 322) (.ref 353) = some false)) = true := by
  unfold hck4 at h
  obtain ⟨h0, h⟩ := Hd.okc h
  obtain ⟨h1, h⟩ := Hd.okc h
  obtain ⟨h2, h⟩ := Hd.okc h
  obtain ⟨h3, h⟩ := Hd.okc h
  obtain ⟨h4, h⟩ := Hd.okc h
  obtain ⟨h5, h⟩ := Hd.okc h
  obtain ⟨h6, h⟩ := Hd.okc h
  obtain ⟨h7, h⟩ := Hd.okc h
  obtain ⟨h8, h⟩ := Hd.okc h
  obtain ⟨h9, h⟩ := Hd.okc h
  obtain ⟨h10, h⟩ := Hd.okc h
  obtain ⟨h11, h⟩ := Hd.okc h
  obtain ⟨h12, h⟩ := Hd.okc h
  obtain ⟨h13, h⟩ := Hd.okc h
  obtain ⟨h14, h⟩ := Hd.okc h
  obtain ⟨h15, h⟩ := Hd.okc h
  obtain ⟨h16, h⟩ := Hd.okc h
  obtain ⟨h17, h⟩ := Hd.okc h
  obtain ⟨h18, h⟩ := Hd.okc h
  obtain ⟨h19, h⟩ := Hd.okc h
  exact ⟨h0, h1, h2, h3, h4, h5, h6, h7, h8, h9, h10, h11, h12, h13, h14, h15, h16, h17, h18, h19⟩
theorem hfk5 {K : PySem.W.Frag} (h : Hd.okAll (hck5 K) = true) : (decide (PySem.W.kitOne K (.ref 353) (.ref 353) = some true)) = true ∧ (decide (PySem.W.kitOne K (.ref 389) (.ref 353) = some false)) = true ∧ (decide (PySem.W.kitOne K (.ref 408) (.ref 353) = some true)) = true ∧ (decide (PySem.W.kitOne K (.ref 322) (.ref 389) = some false)) = true ∧ (decide (PySem.W.kitOne K (.ref 353) (.ref 389) = some false)) = true ∧ (decide (PySem.W.kitOne K (.ref 389) (.ref 389) = some true)) = true ∧ (decide (PySem.W.kitOne K (.ref 408) (.ref 389) = some true)) = true ∧ (decide (PySem.W.kitOne K (.ref 322) (.ref 408) = some false)) = true ∧ (decide (PySem.W.kitOne K (.ref 353) (.ref 408) = some false)) = true ∧ (decide (PySem.W.kitOne K (.ref 389) (.ref 408) = some false)) = true ∧ (decide (PySem.W.kitOne K (.ref 408) (.ref 408) = some true)) = true ∧ (decide (PySem.W.findIn K (.ref 353) "__class__" = some (some (.builtin "object.__class__")))) = true ∧ (decide (PySem.W.mroIn K 353 (.type "object") = some true)) = true ∧ (decide (PySem.W.findIn K (.ref 322) "__class__" = some (some (.builtin "object.__class__")))) = true ∧ (decide (PySem.W.mroIn K 322 (.type "object") = some true)) = true ∧ (decide (PySem.W.findIn K (.ref 408) "__class__" = some (some (.builtin "object.__class__")))) = true ∧ (decide (PySem.W.mroIn K 408 (.type "object") = some true)) = true ∧ (decide (PySem.W.findIn K (.ref 389) "__class__" = some (some (.builtin "object.__class__")))) = true ∧ (decide (PySem.W.mroIn K 389 (.type "object") = some true)) = true ∧ (decide (PySem.W.specialIn K (.builtin "object.__class__") "__get__" = some (some (.builtin "getset_descriptor.__get__")))) = true := by
  unfold hck5 at h
  obtain ⟨h0, h⟩ := Hd.okc h
  obtain ⟨h1, h⟩ := Hd.okc h
  obtain ⟨h2, h⟩ := Hd.okc h
  obtain ⟨h3, h⟩ := Hd.okc h
  obtain ⟨h4, h⟩ := Hd.okc h
  obtain ⟨h5, h⟩ := Hd.okc h
  obtain ⟨h6, h⟩ := Hd.okc h
  obtain ⟨h7, h⟩ := Hd.okc h
  obtain ⟨h8, h⟩ := Hd.okc h
  obtain ⟨h9, h⟩ := Hd.okc h
  obtain ⟨h10, h⟩ := Hd.okc h
  obtain ⟨h11, h⟩ := Hd.okc h
  obtain ⟨h12, h⟩ := Hd.okc h
  obtain ⟨h13, h⟩ := Hd.okc h
  obtain ⟨h14, h⟩ := Hd.okc h
  obtain ⟨h15, h⟩ := Hd.okc h
  obtain ⟨h16, h⟩ := Hd.okc h
  obtain ⟨h17, h⟩ := Hd.okc h
  obtain ⟨h18, h⟩ := Hd.okc h
  obtain ⟨h19, h⟩ := Hd.okc h
  exact ⟨h0, h1, h2, h3, h4, h5, h6, h7, h8, h9, h10, h11, h12, h13, h14, h15, h16, h17, h18, h19⟩
theorem hfk6 {K : PySem.W.Frag} (h : Hd.okAll (hck6 K) = true) : (decide (PySem.W.takesIn K (.builtin "object.__class__") = some true)) = true ∧ (decide (PySem.W.findIn K (.ref 322) "name" = some none)) = true ∧ (decide (PySem.W.findIn K (.ref 353) "name" = some none)) = true ∧ (decide (PySem.W.findIn K (.ref 389) "name" = some none)) = true ∧ (decide (PySem.W.findIn K (.ref 408) "name" = some none)) = true ∧ (decide (PySem.W.findIn K (.ref 322) "radius" = some none)) = true ∧ (decide (PySem.W.findIn K (.ref 353) "radius" = some none)) = true ∧ (decide (PySem.W.findIn K (.ref 389) "radius" = some none)) = true ∧ (decide (PySem.W.findIn K (.ref 408) "radius" = some none)) = true ∧ (decide (PySem.W.findIn K (.ref 353) "step" = some none)) = true ∧ (decide (PySem.W.findIn K (.ref 408) "step" = some none)) = true ∧ (decide (PySem.W.findIn K (.ref 389) "late" = some none)) = true ∧ (decide (PySem.W.findIn K (.ref 408) "late" = some none)) = true ∧ (decide (PySem.W.findIn K (.ref 389) "pace" = some none)) = true ∧ (decide (PySem.W.findIn K (.ref 408) "pace" = some none)) = true ∧ (decide (PySem.W.nsIn K mainGlobals "_law_take" = some (some (.ref 451)))) = true ∧ (PySem.W.keepIn K (.ref 451)) = true ∧ (decide (PySem.W.nsIn K mainGlobals "_law_box" = some (some (.ref 444)))) = true ∧ (PySem.W.keepIn K (.ref 444)) = true ∧ (decide (PySem.W.nsIn K mainGlobals "_law_word" = some (some (.ref 458)))) = true := by
  unfold hck6 at h
  obtain ⟨h0, h⟩ := Hd.okc h
  obtain ⟨h1, h⟩ := Hd.okc h
  obtain ⟨h2, h⟩ := Hd.okc h
  obtain ⟨h3, h⟩ := Hd.okc h
  obtain ⟨h4, h⟩ := Hd.okc h
  obtain ⟨h5, h⟩ := Hd.okc h
  obtain ⟨h6, h⟩ := Hd.okc h
  obtain ⟨h7, h⟩ := Hd.okc h
  obtain ⟨h8, h⟩ := Hd.okc h
  obtain ⟨h9, h⟩ := Hd.okc h
  obtain ⟨h10, h⟩ := Hd.okc h
  obtain ⟨h11, h⟩ := Hd.okc h
  obtain ⟨h12, h⟩ := Hd.okc h
  obtain ⟨h13, h⟩ := Hd.okc h
  obtain ⟨h14, h⟩ := Hd.okc h
  obtain ⟨h15, h⟩ := Hd.okc h
  obtain ⟨h16, h⟩ := Hd.okc h
  obtain ⟨h17, h⟩ := Hd.okc h
  obtain ⟨h18, h⟩ := Hd.okc h
  obtain ⟨h19, h⟩ := Hd.okc h
  exact ⟨h0, h1, h2, h3, h4, h5, h6, h7, h8, h9, h10, h11, h12, h13, h14, h15, h16, h17, h18, h19⟩
theorem hfk7 {K : PySem.W.Frag} (h : Hd.okAll (hck7 K) = true) : (PySem.W.keepIn K (.ref 458)) = true ∧ (decide (PySem.W.nsIn K mainGlobals "_law_words" = some (some (.ref 465)))) = true ∧ (PySem.W.keepIn K (.ref 465)) = true ∧ (decide (PySem.W.nsIn K mainGlobals "valid_name" = some (some (.ref 415)))) = true ∧ (PySem.W.keepIn K (.ref 415)) = true ∧ (decide (PySem.W.findIn K (.ref 322) "__init__" = some (some (.ref 276)))) = true ∧ (PySem.W.isFn K (.ref 276)) = true ∧ (PySem.W.keepIn K (.ref 276)) = true ∧ (decide (PySem.W.findIn K (.ref 353) "__init__" = some (some (.ref 342)))) = true ∧ (PySem.W.isFn K (.ref 342)) = true ∧ (PySem.W.codeIn K (.ref 341) "CoarseGauge.__init__") = true ∧ (PySem.W.keepIn K (.ref 342)) = true ∧ (Hd.flQ K 341 (PySem.W.OpenLaw.row PySem.Challenge.rw_gaugemiss_k28_gauge_lines).prog.main.file) = true ∧ (Hd.ceQ K 330 353) = true ∧ ((PySem.W.clsIn K 353).isSome) = true ∧ (decide (PySem.W.findIn K (.ref 389) "__init__" = some (some (.ref 370)))) = true ∧ (PySem.W.isFn K (.ref 370)) = true ∧ (PySem.W.keepIn K (.ref 370)) = true ∧ (decide (PySem.W.findIn K (.ref 408) "__init__" = some (some (.ref 405)))) = true ∧ (PySem.W.isFn K (.ref 405)) = true := by
  unfold hck7 at h
  obtain ⟨h0, h⟩ := Hd.okc h
  obtain ⟨h1, h⟩ := Hd.okc h
  obtain ⟨h2, h⟩ := Hd.okc h
  obtain ⟨h3, h⟩ := Hd.okc h
  obtain ⟨h4, h⟩ := Hd.okc h
  obtain ⟨h5, h⟩ := Hd.okc h
  obtain ⟨h6, h⟩ := Hd.okc h
  obtain ⟨h7, h⟩ := Hd.okc h
  obtain ⟨h8, h⟩ := Hd.okc h
  obtain ⟨h9, h⟩ := Hd.okc h
  obtain ⟨h10, h⟩ := Hd.okc h
  obtain ⟨h11, h⟩ := Hd.okc h
  obtain ⟨h12, h⟩ := Hd.okc h
  obtain ⟨h13, h⟩ := Hd.okc h
  obtain ⟨h14, h⟩ := Hd.okc h
  obtain ⟨h15, h⟩ := Hd.okc h
  obtain ⟨h16, h⟩ := Hd.okc h
  obtain ⟨h17, h⟩ := Hd.okc h
  obtain ⟨h18, h⟩ := Hd.okc h
  obtain ⟨h19, h⟩ := Hd.okc h
  exact ⟨h0, h1, h2, h3, h4, h5, h6, h7, h8, h9, h10, h11, h12, h13, h14, h15, h16, h17, h18, h19⟩
theorem hfk8 {K : PySem.W.Frag} (h : Hd.okAll (hck8 K) = true) : (PySem.W.keepIn K (.ref 405)) = true ∧ (decide (PySem.W.nsIn K mainGlobals "_law_specs" = some (some (.ref 472)))) = true ∧ (PySem.W.keepIn K (.ref 472)) = true ∧ (decide (PySem.W.nsIn K mainGlobals "_law_gauge" = some (some (.ref 479)))) = true ∧ (PySem.W.keepIn K (.ref 479)) = true ∧ (decide (PySem.W.nsIn K mainGlobals "read_number" = some (some (.ref 420)))) = true ∧ (PySem.W.keepIn K (.ref 420)) = true ∧ (decide (PySem.W.nsIn K mainGlobals "numbers_after" = some (some (.ref 434)))) = true ∧ (PySem.W.keepIn K (.ref 434)) = true ∧ (decide (PySem.W.nsIn K mainGlobals "read_gauge" = some (some (.ref 439)))) = true ∧ (PySem.W.keepIn K (.ref 439)) = true ∧ (decide (PySem.W.nsIn K mainGlobals "write_gauge" = some (some (.ref 427)))) = true ∧ (PySem.W.keepIn K (.ref 427)) = true ∧ (decide (PySem.W.nsIn K mainGlobals "_law_line" = some (some (.ref 486)))) = true ∧ (PySem.W.keepIn K (.ref 486)) = true ∧ (decide (PySem.W.nsIn K mainGlobals "_law_read" = some (some (.ref 493)))) = true ∧ (PySem.W.keepIn K (.ref 493)) = true ∧ (decide (PySem.W.nsIn K mainGlobals "law" = some (some (.ref 500)))) = true ∧ (PySem.W.keepIn K (.ref 500)) = true ∧ (PySem.W.readsIn K 322 (.type "type")) = true := by
  unfold hck8 at h
  obtain ⟨h0, h⟩ := Hd.okc h
  obtain ⟨h1, h⟩ := Hd.okc h
  obtain ⟨h2, h⟩ := Hd.okc h
  obtain ⟨h3, h⟩ := Hd.okc h
  obtain ⟨h4, h⟩ := Hd.okc h
  obtain ⟨h5, h⟩ := Hd.okc h
  obtain ⟨h6, h⟩ := Hd.okc h
  obtain ⟨h7, h⟩ := Hd.okc h
  obtain ⟨h8, h⟩ := Hd.okc h
  obtain ⟨h9, h⟩ := Hd.okc h
  obtain ⟨h10, h⟩ := Hd.okc h
  obtain ⟨h11, h⟩ := Hd.okc h
  obtain ⟨h12, h⟩ := Hd.okc h
  obtain ⟨h13, h⟩ := Hd.okc h
  obtain ⟨h14, h⟩ := Hd.okc h
  obtain ⟨h15, h⟩ := Hd.okc h
  obtain ⟨h16, h⟩ := Hd.okc h
  obtain ⟨h17, h⟩ := Hd.okc h
  obtain ⟨h18, h⟩ := Hd.okc h
  obtain ⟨h19, h⟩ := Hd.okc h
  exact ⟨h0, h1, h2, h3, h4, h5, h6, h7, h8, h9, h10, h11, h12, h13, h14, h15, h16, h17, h18, h19⟩
theorem hfk9 {K : PySem.W.Frag} (h : Hd.okAll (hck9 K) = true) : (decide (PySem.W.specialIn K (.ref 322) "__getattribute__" = some (some (.builtin "type.__getattribute__")))) = true ∧ (Hd.cfvQ K (.ref 322) (.type "type") "__init__" (.ref 276)) = true ∧ (PySem.W.readsIn K 389 (.type "type")) = true ∧ (decide (PySem.W.specialIn K (.ref 389) "__getattribute__" = some (some (.builtin "type.__getattribute__")))) = true ∧ (Hd.cfvQ K (.ref 389) (.type "type") "__init__" (.ref 370)) = true ∧ (Hd.cfiQ K (.ref 322) (.type "type") "LONGEST" 12) = true ∧ (decide (PySem.W.nsIn K mainGlobals "WORDS" = some (some (.ref 262)))) = true ∧ (Hd.tsQ K 262 ["rank", "trim", "weigh", "together"]) = true ∧ (Hd.strQ K "LETTERS" "abcdefghijklmnopqrstuvwxyz") = true ∧ (Hd.nsiQ K mainGlobals "LONGEST" 18) = true ∧ (Hd.strQ K "DIGITS" "0123456789") = true ∧ (decide (PySem.W.ks_superIn K 353 353 "__init__" = some (some (.ref 276)))) = true ∧ (decide (PySem.W.mroIn K 353 (.ref 353) = some true)) = true ∧ (decide (PySem.W.typeIn K (.ref 276) = some (.type "function"))) = true ∧ (PySem.W.fnIn K 276) = true ∧ (decide (PySem.W.nsIn K mainGlobals "len" = some none)) = true ∧ (decide (PySem.W.nsIn K mainGlobals "int" = some none)) = true ∧ (decide (PySem.W.nsIn K mainGlobals "bool" = some none)) = true ∧ (decide (PySem.W.nsIn K mainGlobals "str" = some none)) = true ∧ (decide (PySem.W.nsIn K mainGlobals "isinstance" = some none)) = true := by
  unfold hck9 at h
  obtain ⟨h0, h⟩ := Hd.okc h
  obtain ⟨h1, h⟩ := Hd.okc h
  obtain ⟨h2, h⟩ := Hd.okc h
  obtain ⟨h3, h⟩ := Hd.okc h
  obtain ⟨h4, h⟩ := Hd.okc h
  obtain ⟨h5, h⟩ := Hd.okc h
  obtain ⟨h6, h⟩ := Hd.okc h
  obtain ⟨h7, h⟩ := Hd.okc h
  obtain ⟨h8, h⟩ := Hd.okc h
  obtain ⟨h9, h⟩ := Hd.okc h
  obtain ⟨h10, h⟩ := Hd.okc h
  obtain ⟨h11, h⟩ := Hd.okc h
  obtain ⟨h12, h⟩ := Hd.okc h
  obtain ⟨h13, h⟩ := Hd.okc h
  obtain ⟨h14, h⟩ := Hd.okc h
  obtain ⟨h15, h⟩ := Hd.okc h
  obtain ⟨h16, h⟩ := Hd.okc h
  obtain ⟨h17, h⟩ := Hd.okc h
  obtain ⟨h18, h⟩ := Hd.okc h
  obtain ⟨h19, h⟩ := Hd.okc h
  exact ⟨h0, h1, h2, h3, h4, h5, h6, h7, h8, h9, h10, h11, h12, h13, h14, h15, h16, h17, h18, h19⟩
theorem hfk10 {K : PySem.W.Frag} (h : Hd.okAll (hck10 K) = true) : (decide (PySem.W.nsIn K mainGlobals "range" = some none)) = true ∧ (decide (PySem.W.nsIn K mainGlobals "max" = some none)) = true ∧ (decide (PySem.W.nsIn K mainGlobals "min" = some none)) = true ∧ (decide (PySem.W.nsIn K mainGlobals "abs" = some none)) = true ∧ (decide (PySem.W.nsIn K mainGlobals "sorted" = some none)) = true ∧ (decide (PySem.W.nsIn K mainGlobals "sum" = some none)) = true ∧ (decide (PySem.W.nsIn K mainGlobals "any" = some none)) = true ∧ (decide (PySem.W.nsIn K mainGlobals "all" = some none)) = true ∧ (decide (PySem.W.nsIn K mainGlobals "list" = some none)) = true ∧ (decide (PySem.W.nsIn K mainGlobals "dict" = some none)) = true ∧ (decide (PySem.W.nsIn K mainGlobals "tuple" = some none)) = true ∧ (decide (PySem.W.nsIn K mainGlobals "enumerate" = some none)) = true ∧ (decide (PySem.W.nsIn K mainGlobals "zip" = some none)) = true ∧ (decide (PySem.W.nsIn K mainGlobals "repr" = some none)) = true ∧ (decide (PySem.W.nsIn K mainGlobals "iter" = some none)) = true ∧ (decide (PySem.W.nsIn K mainGlobals "super" = some none)) = true := by
  unfold hck10 at h
  obtain ⟨h0, h⟩ := Hd.okc h
  obtain ⟨h1, h⟩ := Hd.okc h
  obtain ⟨h2, h⟩ := Hd.okc h
  obtain ⟨h3, h⟩ := Hd.okc h
  obtain ⟨h4, h⟩ := Hd.okc h
  obtain ⟨h5, h⟩ := Hd.okc h
  obtain ⟨h6, h⟩ := Hd.okc h
  obtain ⟨h7, h⟩ := Hd.okc h
  obtain ⟨h8, h⟩ := Hd.okc h
  obtain ⟨h9, h⟩ := Hd.okc h
  obtain ⟨h10, h⟩ := Hd.okc h
  obtain ⟨h11, h⟩ := Hd.okc h
  obtain ⟨h12, h⟩ := Hd.okc h
  obtain ⟨h13, h⟩ := Hd.okc h
  obtain ⟨h14, h⟩ := Hd.okc h
  obtain ⟨h15, h⟩ := Hd.okc h
  exact ⟨h0, h1, h2, h3, h4, h5, h6, h7, h8, h9, h10, h11, h12, h13, h14, h15⟩
end G
open PySem PySem.W PyProof.Rows
set_option maxRecDepth 100000 in
set_option maxHeartbeats 0 in
theorem PySem.Challenge.cw_gaugemiss_k28_gauge_lines_holds : PySem.Challenge.rw_gaugemiss_k28_gauge_lines.Holds := by
  w_on; o_law
  refine HandSHeadRun.head_any (r := OpenLaw.row PySem.Challenge.rw_gaugemiss_k28_gauge_lines) (q := G.hQ) (H := G.hHk) (ob := G.hOb) (M := 60000) (loose := G.hNames) (d := HandSHeadRun.topDef (OpenLaw.row PySem.Challenge.rw_gaugemiss_k28_gauge_lines).prog 34) (kwd := []) G.hOb_eq (by kernel_rfl) (fun s => by kernel_rfl) G.hRun (by kernel_rfl) (by kernel_rfl) (by kernel_rfl) (by rfl) (by first | assumption | decide +kernel) (by decide +kernel) ⟨rfl, rfl, rfl, rfl, rfl, by decide +kernel⟩ ?hw ?hc
  case hw => w_witness2
  case hc =>
    refine G.walkE (l := PySem.Challenge.rw_gaugemiss_k28_gauge_lines) (x := "_law_script") 9 (by decide) rfl rfl ?F
    intro w mg fa h Y GX hmg0
    obtain ⟨K, KX, hb, hf⟩ := Y
    have hmg : mg ("law" : PySem.Str) = some (.ref fa) := by
      have e : (HandSHeadRun.topDef (OpenLaw.row PySem.Challenge.rw_gaugemiss_k28_gauge_lines).prog 34).name = ("law" : PySem.Str) := by kernel_rfl
      rw [← e]
      exact hmg0
    unfold G.hck at hb
    obtain ⟨q0, hb⟩ := Hd.oka hb
    obtain ⟨q1, hb⟩ := Hd.oka hb
    obtain ⟨q2, hb⟩ := Hd.oka hb
    obtain ⟨q3, hb⟩ := Hd.oka hb
    obtain ⟨q4, hb⟩ := Hd.oka hb
    obtain ⟨q5, hb⟩ := Hd.oka hb
    obtain ⟨q6, hb⟩ := Hd.oka hb
    obtain ⟨q7, hb⟩ := Hd.oka hb
    obtain ⟨q8, hb⟩ := Hd.oka hb
    obtain ⟨q9, hb⟩ := Hd.oka hb
    have q10 := hb
    obtain ⟨_, _, _, _, _, _, _, _, hl_BadGauge⟩ := Hd.fn_getS (Hd.fnAt hf 0) ((G.hfk0 q0).1)
    obtain ⟨_, _, _, _, _, _, _, _, hl_BadText⟩ := Hd.fn_getS (Hd.fnAt hf 1) ((G.hfk0 q0).2.1)
    obtain ⟨_, _, _, _, _, _, _, _, _, hl_law_take, hc_law_take⟩ := Hd.fn_get (Hd.fnAt hf 2) ((G.hfk0 q0).2.2.1)
    obtain ⟨_, _, _, _, _, _, _, _, _, hl_law_box, hc_law_box⟩ := Hd.fn_get (Hd.fnAt hf 3) ((G.hfk0 q0).2.2.2.1)
    obtain ⟨_, _, _, _, _, _, _, _, _, hl_law_word, hc_law_word⟩ := Hd.fn_get (Hd.fnAt hf 4) ((G.hfk0 q0).2.2.2.2.1)
    obtain ⟨_, _, _, _, _, _, _, _, _, hl_law_words, hc_law_words⟩ := Hd.fn_get (Hd.fnAt hf 5) ((G.hfk0 q0).2.2.2.2.2.1)
    obtain ⟨_, _, _, _, _, _, _, _, _, hl_valid_name, hc_valid_name⟩ := Hd.fn_get (Hd.fnAt hf 6) ((G.hfk0 q0).2.2.2.2.2.2.1)
    obtain ⟨_, _, _, _, _, _, _, _, _, hl_Gauge_init, hc_Gauge_init⟩ := Hd.fn_get (Hd.fnAt hf 7) ((G.hfk0 q0).2.2.2.2.2.2.2.1)
    obtain ⟨_, _, _, _, _, _, _, _, hl_CoarseGauge_init⟩ := Hd.fn_getS (Hd.fnAt hf 8) ((G.hfk0 q0).2.2.2.2.2.2.2.2.1)
    obtain ⟨_, _, _, _, _, _, _, _, _, hl_LateGauge_init, hc_LateGauge_init⟩ := Hd.fn_get (Hd.fnAt hf 9) ((G.hfk0 q0).2.2.2.2.2.2.2.2.2.1)
    obtain ⟨_, _, _, _, _, _, _, _, _, hl_LateCoarseGauge_init, hc_LateCoarseGauge_init⟩ := Hd.fn_get (Hd.fnAt hf 10) ((G.hfk0 q0).2.2.2.2.2.2.2.2.2.2.1)
    obtain ⟨_, _, _, _, _, _, _, _, _, hl_law_specs, hc_law_specs⟩ := Hd.fn_get (Hd.fnAt hf 11) ((G.hfk0 q0).2.2.2.2.2.2.2.2.2.2.2.1)
    obtain ⟨_, _, _, _, _, _, _, _, _, hl_law_gauge, hc_law_gauge⟩ := Hd.fn_get (Hd.fnAt hf 12) ((G.hfk0 q0).2.2.2.2.2.2.2.2.2.2.2.2.1)
    obtain ⟨_, _, _, _, _, _, _, _, _, hl_read_number, hc_read_number⟩ := Hd.fn_get (Hd.fnAt hf 13) ((G.hfk0 q0).2.2.2.2.2.2.2.2.2.2.2.2.2.1)
    obtain ⟨_, _, _, _, _, _, _, _, _, hl_numbers_after, hc_numbers_after⟩ := Hd.fn_get (Hd.fnAt hf 14) ((G.hfk0 q0).2.2.2.2.2.2.2.2.2.2.2.2.2.2.1)
    obtain ⟨_, _, _, _, _, _, _, _, _, hl_read_gauge, hc_read_gauge⟩ := Hd.fn_get (Hd.fnAt hf 15) ((G.hfk0 q0).2.2.2.2.2.2.2.2.2.2.2.2.2.2.2.1)
    obtain ⟨_, _, _, _, _, _, _, _, _, hl_write_gauge, hc_write_gauge⟩ := Hd.fn_get (Hd.fnAt hf 16) ((G.hfk0 q0).2.2.2.2.2.2.2.2.2.2.2.2.2.2.2.2.1)
    obtain ⟨_, _, _, _, _, _, _, _, _, hl_law_line, hc_law_line⟩ := Hd.fn_get (Hd.fnAt hf 17) ((G.hfk0 q0).2.2.2.2.2.2.2.2.2.2.2.2.2.2.2.2.2.1)
    obtain ⟨_, _, _, _, _, _, _, _, _, hl_law_read, hc_law_read⟩ := Hd.fn_get (Hd.fnAt hf 18) ((G.hfk0 q0).2.2.2.2.2.2.2.2.2.2.2.2.2.2.2.2.2.2.1)
    obtain ⟨_, _, _, _, _, _, _, _, _, hl_law, hc_law⟩ := Hd.fn_get (Hd.fnAt hf 19) ((G.hfk0 q0).2.2.2.2.2.2.2.2.2.2.2.2.2.2.2.2.2.2.2)
    obtain ⟨_, _, _, _, _, _, _, _, _, _, _, _, _, _, _, hlk_BadGauge, hrv_BadGauge⟩ := Hd.lk_get ((G.hfk2 q2).2.2.2.2.2.2.2.2.2.2.2.2.2.2.2.2.2.2.1)
    obtain ⟨_, _, _, _, _, _, hfl_BadGauge, hfv_BadGauge, hpf_BadGauge⟩ := Hd.fl_get ((G.hfk3 q3).2.2.2.2.1)
    obtain ⟨_, _, _, hce_BadGauge⟩ := Hd.ce_get ((G.hfk3 q3).2.2.2.2.2.1)
    obtain ⟨_, hdc_BadGauge⟩ := Hd.dc_get ((G.hfk3 q3).2.2.2.2.2.2.1)
    obtain ⟨_, _, _, _, _, _, _, _, _, _, _, _, _, _, _, hlk_BadText, hrv_BadText⟩ := Hd.lk_get ((G.hfk3 q3).2.2.2.2.2.2.2.2.2.2.1)
    obtain ⟨_, _, _, _, _, _, hfl_BadText, hfv_BadText, hpf_BadText⟩ := Hd.fl_get ((G.hfk3 q3).2.2.2.2.2.2.2.2.2.2.2.2.2.2.2.2.1)
    obtain ⟨_, _, _, hce_BadText⟩ := Hd.ce_get ((G.hfk3 q3).2.2.2.2.2.2.2.2.2.2.2.2.2.2.2.2.2.1)
    obtain ⟨_, hdc_BadText⟩ := Hd.dc_get ((G.hfk3 q3).2.2.2.2.2.2.2.2.2.2.2.2.2.2.2.2.2.2.1)
    obtain ⟨_, _, _, _, _, _, hfl_CoarseGauge_init, hfv_CoarseGauge_init, hpf_CoarseGauge_init⟩ := Hd.fl_get ((G.hfk7 q7).2.2.2.2.2.2.2.2.2.2.2.2.1)
    obtain ⟨_, _, _, hce_CoarseGauge_init⟩ := Hd.ce_get ((G.hfk7 q7).2.2.2.2.2.2.2.2.2.2.2.2.2.1)
    obtain ⟨_, hdc_CoarseGauge_init⟩ := Hd.dc_get ((G.hfk7 q7).2.2.2.2.2.2.2.2.2.2.2.2.2.2.1)
    obtain ⟨_, hfcvi_Gauge_LONGEST⟩ := Hd.cfi_get ((G.hfk9 q9).2.2.2.2.2.1)
    obtain ⟨tsgkt_WORDS, _, _, _, hlgkt_WORDS, hgkt_WORDS⟩ := Hd.ts_get ((G.hfk9 q9).2.2.2.2.2.2.2.1)
    obtain ⟨tgkt_WORDS_0, tgkt_WORDS_1, tgkt_WORDS_2, tgkt_WORDS_3, rfl⟩ : ∃ tgkt_WORDS_0 tgkt_WORDS_1 tgkt_WORDS_2 tgkt_WORDS_3, tsgkt_WORDS = [tgkt_WORDS_0, tgkt_WORDS_1, tgkt_WORDS_2, tgkt_WORDS_3] := by
      match tsgkt_WORDS, hlgkt_WORDS with
      | [a0, a1, a2, a3], _ => exact ⟨a0, a1, a2, a3, rfl⟩
    obtain ⟨_, hfgs_LETTERS⟩ := Hd.str_get ((G.hfk9 q9).2.2.2.2.2.2.2.2.1)
    obtain ⟨_, hfgi_LONGEST⟩ := Hd.nsi_get ((G.hfk9 q9).2.2.2.2.2.2.2.2.2.1)
    obtain ⟨_, hfgs_DIGITS⟩ := Hd.str_get ((G.hfk9 q9).2.2.2.2.2.2.2.2.2.2.1)
    have zz := G.all_mk (l := PySem.Challenge.rw_gaugemiss_k28_gauge_lines) (w := w) (K := K) KX GX hmg ((of_decide_eq_true ((G.hfk1 q1).1))) (((G.hfk1 q1).2.1)) (((G.hfk1 q1).2.2.1)) (((G.hfk1 q1).2.2.2.1)) ((of_decide_eq_true ((G.hfk1 q1).2.2.2.2.1))) (((G.hfk1 q1).2.2.2.2.2.1)) (((G.hfk1 q1).2.2.2.2.2.2.1)) ((of_decide_eq_true ((G.hfk1 q1).2.2.2.2.2.2.2.1))) (((G.hfk1 q1).2.2.2.2.2.2.2.2.1)) (((G.hfk1 q1).2.2.2.2.2.2.2.2.2.1)) (((G.hfk1 q1).2.2.2.2.2.2.2.2.2.2.1)) ((of_decide_eq_true ((G.hfk1 q1).2.2.2.2.2.2.2.2.2.2.2.1))) (((G.hfk1 q1).2.2.2.2.2.2.2.2.2.2.2.2.1)) (((G.hfk1 q1).2.2.2.2.2.2.2.2.2.2.2.2.2.1)) ((of_decide_eq_true ((G.hfk1 q1).2.2.2.2.2.2.2.2.2.2.2.2.2.2.1))) (((G.hfk1 q1).2.2.2.2.2.2.2.2.2.2.2.2.2.2.2.1)) (((G.hfk1 q1).2.2.2.2.2.2.2.2.2.2.2.2.2.2.2.2.1)) (((G.hfk1 q1).2.2.2.2.2.2.2.2.2.2.2.2.2.2.2.2.2.1)) ((of_decide_eq_true ((G.hfk1 q1).2.2.2.2.2.2.2.2.2.2.2.2.2.2.2.2.2.2.1))) (((G.hfk1 q1).2.2.2.2.2.2.2.2.2.2.2.2.2.2.2.2.2.2.2)) (((G.hfk2 q2).1)) ((of_decide_eq_true ((G.hfk2 q2).2.1))) (((G.hfk2 q2).2.2.1)) (((G.hfk2 q2).2.2.2.1)) (((G.hfk2 q2).2.2.2.2.1)) ((of_decide_eq_true ((G.hfk2 q2).2.2.2.2.2.1))) (((G.hfk2 q2).2.2.2.2.2.2.1)) (((G.hfk2 q2).2.2.2.2.2.2.2.1)) ((of_decide_eq_true ((G.hfk2 q2).2.2.2.2.2.2.2.2.1))) ((of_decide_eq_true ((G.hfk2 q2).2.2.2.2.2.2.2.2.2.1))) ((of_decide_eq_true ((G.hfk2 q2).2.2.2.2.2.2.2.2.2.2.1))) (((G.hfk2 q2).2.2.2.2.2.2.2.2.2.2.2.1)) (((G.hfk2 q2).2.2.2.2.2.2.2.2.2.2.2.2.1)) ((of_decide_eq_true ((G.hfk2 q2).2.2.2.2.2.2.2.2.2.2.2.2.2.1))) ((of_decide_eq_true ((G.hfk2 q2).2.2.2.2.2.2.2.2.2.2.2.2.2.2.1))) ((of_decide_eq_true ((G.hfk2 q2).2.2.2.2.2.2.2.2.2.2.2.2.2.2.2.1))) (((G.hfk2 q2).2.2.2.2.2.2.2.2.2.2.2.2.2.2.2.2.1)) (((G.hfk2 q2).2.2.2.2.2.2.2.2.2.2.2.2.2.2.2.2.2.1)) (hlk_BadGauge) (hrv_BadGauge) ((of_decide_eq_true ((G.hfk2 q2).2.2.2.2.2.2.2.2.2.2.2.2.2.2.2.2.2.2.2))) ((of_decide_eq_true ((G.hfk3 q3).1))) ((of_decide_eq_true ((G.hfk3 q3).2.1))) (hl_BadGauge) (((G.hfk3 q3).2.2.1)) (((G.hfk3 q3).2.2.2.1)) (hfl_BadGauge) (hfv_BadGauge) (hpf_BadGauge) (hce_BadGauge) (hdc_BadGauge) ((of_decide_eq_true ((G.hfk3 q3).2.2.2.2.2.2.2.1))) ((of_decide_eq_true ((G.hfk3 q3).2.2.2.2.2.2.2.2.1))) ((of_decide_eq_true ((G.hfk3 q3).2.2.2.2.2.2.2.2.2.1))) (hlk_BadText) (hrv_BadText) ((of_decide_eq_true ((G.hfk3 q3).2.2.2.2.2.2.2.2.2.2.2.1))) ((of_decide_eq_true ((G.hfk3 q3).2.2.2.2.2.2.2.2.2.2.2.2.1))) ((of_decide_eq_true ((G.hfk3 q3).2.2.2.2.2.2.2.2.2.2.2.2.2.1))) (hl_BadText) (((G.hfk3 q3).2.2.2.2.2.2.2.2.2.2.2.2.2.2.1)) (((G.hfk3 q3).2.2.2.2.2.2.2.2.2.2.2.2.2.2.2.1)) (hfl_BadText) (hfv_BadText) (hpf_BadText) (hce_BadText) (hdc_BadText) ((of_decide_eq_true ((G.hfk3 q3).2.2.2.2.2.2.2.2.2.2.2.2.2.2.2.2.2.2.2))) ((of_decide_eq_true ((G.hfk4 q4).1))) ((of_decide_eq_true ((G.hfk4 q4).2.1))) ((of_decide_eq_true ((G.hfk4 q4).2.2.1))) ((by decide +kernel)) ((of_decide_eq_true ((G.hfk4 q4).2.2.2.1))) ((of_decide_eq_true ((G.hfk4 q4).2.2.2.2.1))) ((of_decide_eq_true ((G.hfk4 q4).2.2.2.2.2.1))) ((of_decide_eq_true ((G.hfk4 q4).2.2.2.2.2.2.1))) ((of_decide_eq_true ((G.hfk4 q4).2.2.2.2.2.2.2.1))) ((of_decide_eq_true ((G.hfk4 q4).2.2.2.2.2.2.2.2.1))) ((of_decide_eq_true ((G.hfk4 q4).2.2.2.2.2.2.2.2.2.1))) ((of_decide_eq_true ((G.hfk4 q4).2.2.2.2.2.2.2.2.2.2.1))) ((of_decide_eq_true ((G.hfk4 q4).2.2.2.2.2.2.2.2.2.2.2.1))) ((of_decide_eq_true ((G.hfk4 q4).2.2.2.2.2.2.2.2.2.2.2.2.1))) ((of_decide_eq_true ((G.hfk4 q4).2.2.2.2.2.2.2.2.2.2.2.2.2.1))) ((of_decide_eq_true ((G.hfk4 q4).2.2.2.2.2.2.2.2.2.2.2.2.2.2.1))) ((of_decide_eq_true ((G.hfk4 q4).2.2.2.2.2.2.2.2.2.2.2.2.2.2.2.1))) ((of_decide_eq_true ((G.hfk4 q4).2.2.2.2.2.2.2.2.2.2.2.2.2.2.2.2.1))) ((of_decide_eq_true ((G.hfk4 q4).2.2.2.2.2.2.2.2.2.2.2.2.2.2.2.2.2.1))) ((of_decide_eq_true ((G.hfk4 q4).2.2.2.2.2.2.2.2.2.2.2.2.2.2.2.2.2.2.1))) ((of_decide_eq_true ((G.hfk4 q4).2.2.2.2.2.2.2.2.2.2.2.2.2.2.2.2.2.2.2))) ((of_decide_eq_true ((G.hfk5 q5).1))) ((of_decide_eq_true ((G.hfk5 q5).2.1))) ((of_decide_eq_true ((G.hfk5 q5).2.2.1))) ((of_decide_eq_true ((G.hfk5 q5).2.2.2.1))) ((of_decide_eq_true ((G.hfk5 q5).2.2.2.2.1))) ((of_decide_eq_true ((G.hfk5 q5).2.2.2.2.2.1))) ((of_decide_eq_true ((G.hfk5 q5).2.2.2.2.2.2.1))) ((of_decide_eq_true ((G.hfk5 q5).2.2.2.2.2.2.2.1))) ((of_decide_eq_true ((G.hfk5 q5).2.2.2.2.2.2.2.2.1))) ((of_decide_eq_true ((G.hfk5 q5).2.2.2.2.2.2.2.2.2.1))) ((of_decide_eq_true ((G.hfk5 q5).2.2.2.2.2.2.2.2.2.2.1))) ((of_decide_eq_true ((G.hfk5 q5).2.2.2.2.2.2.2.2.2.2.2.1))) ((of_decide_eq_true ((G.hfk5 q5).2.2.2.2.2.2.2.2.2.2.2.2.1))) ((of_decide_eq_true ((G.hfk5 q5).2.2.2.2.2.2.2.2.2.2.2.2.2.1))) ((of_decide_eq_true ((G.hfk5 q5).2.2.2.2.2.2.2.2.2.2.2.2.2.2.1))) ((of_decide_eq_true ((G.hfk5 q5).2.2.2.2.2.2.2.2.2.2.2.2.2.2.2.1))) ((of_decide_eq_true ((G.hfk5 q5).2.2.2.2.2.2.2.2.2.2.2.2.2.2.2.2.1))) ((of_decide_eq_true ((G.hfk5 q5).2.2.2.2.2.2.2.2.2.2.2.2.2.2.2.2.2.1))) ((of_decide_eq_true ((G.hfk5 q5).2.2.2.2.2.2.2.2.2.2.2.2.2.2.2.2.2.2.1))) ((of_decide_eq_true ((G.hfk5 q5).2.2.2.2.2.2.2.2.2.2.2.2.2.2.2.2.2.2.2))) ((of_decide_eq_true ((G.hfk6 q6).1))) ((of_decide_eq_true ((G.hfk6 q6).2.1))) ((of_decide_eq_true ((G.hfk6 q6).2.2.1))) ((of_decide_eq_true ((G.hfk6 q6).2.2.2.1))) ((of_decide_eq_true ((G.hfk6 q6).2.2.2.2.1))) ((of_decide_eq_true ((G.hfk6 q6).2.2.2.2.2.1))) ((of_decide_eq_true ((G.hfk6 q6).2.2.2.2.2.2.1))) ((of_decide_eq_true ((G.hfk6 q6).2.2.2.2.2.2.2.1))) ((of_decide_eq_true ((G.hfk6 q6).2.2.2.2.2.2.2.2.1))) ((of_decide_eq_true ((G.hfk6 q6).2.2.2.2.2.2.2.2.2.1))) ((of_decide_eq_true ((G.hfk6 q6).2.2.2.2.2.2.2.2.2.2.1))) ((of_decide_eq_true ((G.hfk6 q6).2.2.2.2.2.2.2.2.2.2.2.1))) ((of_decide_eq_true ((G.hfk6 q6).2.2.2.2.2.2.2.2.2.2.2.2.1))) ((of_decide_eq_true ((G.hfk6 q6).2.2.2.2.2.2.2.2.2.2.2.2.2.1))) ((of_decide_eq_true ((G.hfk6 q6).2.2.2.2.2.2.2.2.2.2.2.2.2.2.1))) ((of_decide_eq_true ((G.hfk6 q6).2.2.2.2.2.2.2.2.2.2.2.2.2.2.2.1))) (hl_law_take) (hc_law_take) (((G.hfk6 q6).2.2.2.2.2.2.2.2.2.2.2.2.2.2.2.2.1)) ((of_decide_eq_true ((G.hfk6 q6).2.2.2.2.2.2.2.2.2.2.2.2.2.2.2.2.2.1))) (hl_law_box) (hc_law_box) (((G.hfk6 q6).2.2.2.2.2.2.2.2.2.2.2.2.2.2.2.2.2.2.1)) ((of_decide_eq_true ((G.hfk6 q6).2.2.2.2.2.2.2.2.2.2.2.2.2.2.2.2.2.2.2))) (hl_law_word) (hc_law_word) (((G.hfk7 q7).1)) ((of_decide_eq_true ((G.hfk7 q7).2.1))) (hl_law_words) (hc_law_words) (((G.hfk7 q7).2.2.1)) ((of_decide_eq_true ((G.hfk7 q7).2.2.2.1))) (hl_valid_name) (hc_valid_name) (((G.hfk7 q7).2.2.2.2.1)) ((of_decide_eq_true ((G.hfk7 q7).2.2.2.2.2.1))) (((G.hfk7 q7).2.2.2.2.2.2.1)) (hl_Gauge_init) (hc_Gauge_init) (((G.hfk7 q7).2.2.2.2.2.2.2.1)) ((of_decide_eq_true ((G.hfk7 q7).2.2.2.2.2.2.2.2.1))) (((G.hfk7 q7).2.2.2.2.2.2.2.2.2.1)) (hl_CoarseGauge_init) (((G.hfk7 q7).2.2.2.2.2.2.2.2.2.2.1)) (((G.hfk7 q7).2.2.2.2.2.2.2.2.2.2.2.1)) (hfl_CoarseGauge_init) (hfv_CoarseGauge_init) (hpf_CoarseGauge_init) (hce_CoarseGauge_init) (hdc_CoarseGauge_init) ((of_decide_eq_true ((G.hfk7 q7).2.2.2.2.2.2.2.2.2.2.2.2.2.2.2.1))) (((G.hfk7 q7).2.2.2.2.2.2.2.2.2.2.2.2.2.2.2.2.1)) (hl_LateGauge_init) (hc_LateGauge_init) (((G.hfk7 q7).2.2.2.2.2.2.2.2.2.2.2.2.2.2.2.2.2.1)) ((of_decide_eq_true ((G.hfk7 q7).2.2.2.2.2.2.2.2.2.2.2.2.2.2.2.2.2.2.1))) (((G.hfk7 q7).2.2.2.2.2.2.2.2.2.2.2.2.2.2.2.2.2.2.2)) (hl_LateCoarseGauge_init) (hc_LateCoarseGauge_init) (((G.hfk8 q8).1)) ((of_decide_eq_true ((G.hfk8 q8).2.1))) (hl_law_specs) (hc_law_specs) (((G.hfk8 q8).2.2.1)) ((of_decide_eq_true ((G.hfk8 q8).2.2.2.1))) (hl_law_gauge) (hc_law_gauge) (((G.hfk8 q8).2.2.2.2.1)) ((of_decide_eq_true ((G.hfk8 q8).2.2.2.2.2.1))) (hl_read_number) (hc_read_number) (((G.hfk8 q8).2.2.2.2.2.2.1)) ((of_decide_eq_true ((G.hfk8 q8).2.2.2.2.2.2.2.1))) (hl_numbers_after) (hc_numbers_after) (((G.hfk8 q8).2.2.2.2.2.2.2.2.1)) ((of_decide_eq_true ((G.hfk8 q8).2.2.2.2.2.2.2.2.2.1))) (hl_read_gauge) (hc_read_gauge) (((G.hfk8 q8).2.2.2.2.2.2.2.2.2.2.1)) ((of_decide_eq_true ((G.hfk8 q8).2.2.2.2.2.2.2.2.2.2.2.1))) (hl_write_gauge) (hc_write_gauge) (((G.hfk8 q8).2.2.2.2.2.2.2.2.2.2.2.2.1)) ((of_decide_eq_true ((G.hfk8 q8).2.2.2.2.2.2.2.2.2.2.2.2.2.1))) (hl_law_line) (hc_law_line) (((G.hfk8 q8).2.2.2.2.2.2.2.2.2.2.2.2.2.2.1)) ((of_decide_eq_true ((G.hfk8 q8).2.2.2.2.2.2.2.2.2.2.2.2.2.2.2.1))) (hl_law_read) (hc_law_read) (((G.hfk8 q8).2.2.2.2.2.2.2.2.2.2.2.2.2.2.2.2.1)) ((of_decide_eq_true ((G.hfk8 q8).2.2.2.2.2.2.2.2.2.2.2.2.2.2.2.2.2.1))) (hl_law) (hc_law) (((G.hfk8 q8).2.2.2.2.2.2.2.2.2.2.2.2.2.2.2.2.2.2.1)) (((G.hfk8 q8).2.2.2.2.2.2.2.2.2.2.2.2.2.2.2.2.2.2.2)) ((of_decide_eq_true ((G.hfk9 q9).1))) ((Hd.cfv_get ((G.hfk9 q9).2.1))) (((G.hfk9 q9).2.2.1)) ((of_decide_eq_true ((G.hfk9 q9).2.2.2.1))) ((Hd.cfv_get ((G.hfk9 q9).2.2.2.2.1))) (hfcvi_Gauge_LONGEST) ((of_decide_eq_true ((G.hfk9 q9).2.2.2.2.2.2.1))) (hgkt_WORDS) (hfgs_LETTERS) (hfgi_LONGEST) (hfgs_DIGITS) ((of_decide_eq_true ((G.hfk9 q9).2.2.2.2.2.2.2.2.2.2.2.1))) ((of_decide_eq_true ((G.hfk9 q9).2.2.2.2.2.2.2.2.2.2.2.2.1))) ((of_decide_eq_true ((G.hfk9 q9).2.2.2.2.2.2.2.2.2.2.2.2.2.1))) (((G.hfk9 q9).2.2.2.2.2.2.2.2.2.2.2.2.2.2.1)) ((of_decide_eq_true ((G.hfk9 q9).2.2.2.2.2.2.2.2.2.2.2.2.2.2.2.1))) ((of_decide_eq_true ((G.hfk9 q9).2.2.2.2.2.2.2.2.2.2.2.2.2.2.2.2.1))) ((of_decide_eq_true ((G.hfk9 q9).2.2.2.2.2.2.2.2.2.2.2.2.2.2.2.2.2.1))) ((of_decide_eq_true ((G.hfk9 q9).2.2.2.2.2.2.2.2.2.2.2.2.2.2.2.2.2.2.1))) ((of_decide_eq_true ((G.hfk9 q9).2.2.2.2.2.2.2.2.2.2.2.2.2.2.2.2.2.2.2))) ((of_decide_eq_true ((G.hfk10 q10).1))) ((of_decide_eq_true ((G.hfk10 q10).2.1))) ((of_decide_eq_true ((G.hfk10 q10).2.2.1))) ((of_decide_eq_true ((G.hfk10 q10).2.2.2.1))) ((of_decide_eq_true ((G.hfk10 q10).2.2.2.2.1))) ((of_decide_eq_true ((G.hfk10 q10).2.2.2.2.2.1))) ((of_decide_eq_true ((G.hfk10 q10).2.2.2.2.2.2.1))) ((of_decide_eq_true ((G.hfk10 q10).2.2.2.2.2.2.2.1))) ((of_decide_eq_true ((G.hfk10 q10).2.2.2.2.2.2.2.2.1))) ((of_decide_eq_true ((G.hfk10 q10).2.2.2.2.2.2.2.2.2.1))) ((of_decide_eq_true ((G.hfk10 q10).2.2.2.2.2.2.2.2.2.2.1))) ((of_decide_eq_true ((G.hfk10 q10).2.2.2.2.2.2.2.2.2.2.2.1))) ((of_decide_eq_true ((G.hfk10 q10).2.2.2.2.2.2.2.2.2.2.2.2.1))) ((of_decide_eq_true ((G.hfk10 q10).2.2.2.2.2.2.2.2.2.2.2.2.2.1))) ((of_decide_eq_true ((G.hfk10 q10).2.2.2.2.2.2.2.2.2.2.2.2.2.2.1))) ((of_decide_eq_true ((G.hfk10 q10).2.2.2.2.2.2.2.2.2.2.2.2.2.2.2)))
    obtain ⟨fd, z1, z2⟩ := zz
    exact ⟨K, fd, KX, z1, z2⟩
#print axioms PySem.Challenge.cw_gaugemiss_k28_gauge_lines_holds
