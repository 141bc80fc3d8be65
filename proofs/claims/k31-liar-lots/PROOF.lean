import PyProof.Rows.All
import Wide.All
import OpenK.AllK
import Wide.FinOn
import HandS.Words
import HandS.Exc
import HandS.ExcInit
import HandS.Head0
import HandS.Head1
import HandS.Head2
import HandS.HeadHook1
import KE.KSuper
import KE.KIsAll
import KE.KExcSuper
import HandS.ForMost
import HandS.ForExc
import HandS.CallSlots
import HandS.Iter
import HandS.More
import HandS.Star
import HandS.IsInst
import KE.Datum
import HandS.Nested
import HandS.ExcSuper
import HandS.TryOnly
import HandS.ExcField
import HandS.ExcOwn
import KE.KExcIs
import KE.KOpsOwn
import HandS.SortInts
import HandS.ExcIs
import KE.KStar
import HandS.WordsDict
import HandS.Property
import HandS.ClsMeth
import KE.KCallOwn
import HandS.SortRule
import HandS.FStr
import HandS.OwnEq
import HandS.TryMany
import HandS.Style
import HandS.RaiseMore
import KE.KRevSl
import HandS.Defaults
import HandS.Deep
import HandS.TupAny
import HandS.SortOrd
import HandS.DictTup
import KE.KDictZip
import KE.KSortTup
import PyProof.WalksMore
import PyProof.Rows.SumAny
import HandS.DictComp
import HandS.IterVal
import HandS.GenOver
import KE.KOwnIter
import HandS.GenList
import KE.DatumMore
import HandS.HeadEnd
import HandS.StrMore
import KE.KxField
import PyProof.FString3
import HandS.Conv
import HandS.Finally
import KE.GoesRaise
import HandS.DeepEq
import PyProof.NeKinds
import HandS.Set
import HandS.Strs
import HandS.SetBool
import HandS.WideBits
import KE.KEqNest
import PySem.Challenge.RW_gaugemiss_k31_liar_lots
set_option Elab.async false
set_option linter.all false
set_option maxRecDepth 100000
set_option maxHeartbeats 4000000
/-! ## a head whose facts are read within the one run of the top -/
namespace Hd
open PySem PySem.W
/-- the objects at some addresses, each one opened -/
def frK {α : Type} (g : Addr → Option Obj) : List Addr → (Frag → α) → α
  | [], k => k []
  | a :: r, k => match g a with
    | some ⟨c, d, dt, sl⟩ => frK g r fun K => k ((a, ⟨c, d, dt, sl⟩) :: K)
    | none => frK g r k
theorem frK_eq {α : Type} (g : Addr → Option Obj) : ∀ (as : List Addr) (k : Frag → α), frK g as k = k (He.frG g as)
  | [], _ => rfl
  | a :: r, k => by
    have e : He.frG g (a :: r) = (match (g a).map fun o => (a, o) with | some p => p :: He.frG g r | none => He.frG g r) := by
      unfold He.frG
      rw [List.filterMap_cons]
      cases g a <;> rfl
    rw [e]
    show (match g a with
      | some ⟨c, d, dt, sl⟩ => frK g r fun K => k ((a, ⟨c, d, dt, sl⟩) :: K)
      | none => frK g r k) = _
    cases g a with
    | none => exact frK_eq g r k
    | some o =>
      obtain ⟨c, d, dt, sl⟩ := o
      exact frK_eq g r _
def okAll : List Bool → Bool
  | [] => true
  | true :: r => okAll r
  | false :: _ => false
theorem okc {b : Bool} {r : List Bool} (h : okAll (b :: r) = true) : b = true ∧ okAll r = true := by
  cases b with
  | true => exact ⟨rfl, h⟩
  | false => cases h
theorem oka {l r : List Bool} (h : okAll (l ++ r) = true) : okAll l = true ∧ okAll r = true := by
  induction l with
  | nil => exact ⟨rfl, h⟩
  | cons b l ih =>
    obtain ⟨h1, h2⟩ := okc h
    subst h1
    exact ih h2
abbrev FnQ : Type := Option (Str × Str × Arguments × FuncBody × Scope × Addr × List (Str × Addr) × Value × Addr)
def fnQ (K : Frag) (A : Addr) : FnQ := match K.lookup A with
  | some ⟨_, _, .func fd, _⟩ => some (fd.name, fd.qualname, fd.params, fd.body, fd.scope, fd.globals, fd.closure, fd.defaults, fd.builtins)
  | _ => none
def fnV (nm q : Str) (st : Stmt) (cl : List (Str × Addr)) (dV : Value) : FnQ := some (nm, q, L2.defArgs st, .stmts (L2.defBody st), L2.defScope st, mainGlobals, cl, dV, builtinsNs)
def hookF (as : List Addr) (ck : Frag → List Bool) (fs : Frag → List FnQ) (vs : List FnQ) : Hook where
  α := Bool × List FnQ
  obs := fun s => (okAll (ck (He.frG s.heap.get? as)), fs (He.frG s.heap.get? as))
  val := fun _ => (true, vs)
  says := fun _ h => ∃ K : Frag, K.In h ∧ okAll (ck K) = true ∧ fs K = vs
  of := fun _ _ e => ⟨_, He.frG_in, congrArg Prod.fst e, congrArg Prod.snd e⟩
  keeps := fun _ _ _ ⟨K, hK, c⟩ k => ⟨K, Frag.In.keeps hK k, c⟩
def obF (as : List Addr) (ck : Frag → List Bool) (fs : Frag → List FnQ) (g : Addr → Option Obj) : Bool × List FnQ := frK g as fun K => (okAll (ck K), fs K)
theorem obF_eq {as : List Addr} {ck : Frag → List Bool} {fs : Frag → List FnQ} {vs : List FnQ} (s : SharedT) : obF as ck fs (HandSHeadRun.getT s) = (hookF as ck fs vs).obs s.abs := by
  have e : HandSHeadRun.getT s = s.abs.heap.get? := funext fun a => HandSHeadRun.getT_eq s a
  unfold obF
  rw [frK_eq, e]
  rfl
/-! ### facts with parts that no one names -/
def cdQ (K : Frag) (A : Addr) (q : Str) : Bool := match K.lookup A with
  | some ⟨_, _, .func fd, _⟩ => codeIn K fd.code q
  | _ => false
def cdS (K : Frag) (A cda : Addr) : Bool := match K.lookup A with
  | some ⟨_, _, .func fd, _⟩ => decide (fd.code = .ref cda)
  | _ => false
def kwQ (K : Frag) (A : Addr) (kV : Value) : Bool := match K.lookup A with
  | some ⟨_, _, .func fd, _⟩ => decide (fd.kwdefaults = kV)
  | _ => false
section
variable {K : Frag} {A cda cc : Addr} {nm q : Str} {st : Stmt} {cl : List (Str × Addr)} {dV kV : Value}
theorem fn_any (e : fnQ K A = fnV nm q st cl dV) : ∃ oc od kV dc pm an cd ct sl, K.lookup A = some ⟨oc, od, .func ⟨nm, q, L2.defArgs st, .stmts (L2.defBody st), L2.defScope st, mainGlobals, cl, dV, kV, dc, pm, an, cd, ct, builtinsNs⟩, sl⟩ := by
  unfold fnQ fnV at e
  cases z : K.lookup A with
  | none =>
    rw [z] at e
    cases e
  | some o =>
    obtain ⟨oc, od, dt, osl⟩ := o
    rw [z] at e
    cases dt with
    | func fd =>
      obtain ⟨n1, n2, n3, n4, n5, n6, n7, n8, n9, n10, n11, n12, n13, n14, n15⟩ := fd
      have e2 : (some (n1, n2, n3, n4, n5, n6, n7, n8, n15) : FnQ) = some (nm, q, L2.defArgs st, .stmts (L2.defBody st), L2.defScope st, mainGlobals, cl, dV, builtinsNs) := e
      simp only [Option.some.injEq, Prod.mk.injEq] at e2
      obtain ⟨h1, h2, h3, h4, h5, h6, h7, h8, h9⟩ := e2
      subst h1 h2 h3 h4 h5 h6 h7 h8 h9
      exact ⟨_, _, _, _, _, _, _, _, _, rfl⟩
    | _ => cases e
theorem fn_get (e : fnQ K A = fnV nm q st [] dV) (c : cdQ K A q = true) : ∃ oc od kV dc pm an cd ct sl, K.lookup A = some ⟨oc, od, .func (fnOf nm q (L2.defArgs st) (L2.defBody st) (L2.defScope st) dV kV dc pm an cd ct), sl⟩ ∧ codeIn K cd q = true := by
  obtain ⟨oc, od, kV, dc, pm, an, cd, ct, sl, z⟩ := fn_any e
  unfold cdQ at c
  rw [z] at c
  exact ⟨oc, od, kV, dc, pm, an, cd, ct, sl, z, c⟩
theorem fn_getK (e : fnQ K A = fnV nm q st [] dV) (c : cdQ K A q = true) (k : kwQ K A kV = true) : ∃ oc od dc pm an cd ct sl, K.lookup A = some ⟨oc, od, .func (fnOf nm q (L2.defArgs st) (L2.defBody st) (L2.defScope st) dV kV dc pm an cd ct), sl⟩ ∧ codeIn K cd q = true := by
  obtain ⟨oc, od, kV', dc, pm, an, cd, ct, sl, z⟩ := fn_any e
  unfold cdQ at c
  unfold kwQ at k
  rw [z] at c k
  have ek : kV' = kV := of_decide_eq_true k
  subst ek
  exact ⟨oc, od, dc, pm, an, cd, ct, sl, z, c⟩
theorem fn_getS (e : fnQ K A = fnV nm q st [("__class__", cc)] dV) (c : cdS K A cda = true) : ∃ oc od kV dc pm an ct sl, K.lookup A = some ⟨oc, od, .func (ksFn nm q (L2.defArgs st) (L2.defBody st) (L2.defScope st) dV kV dc pm an (.ref cda) ct cc), sl⟩ := by
  obtain ⟨oc, od, kV', dc, pm, an, cd, ct, sl, z⟩ := fn_any e
  unfold cdS at c
  rw [z] at c
  have ec : cd = .ref cda := of_decide_eq_true c
  subst ec
  exact ⟨oc, od, kV', dc, pm, an, ct, sl, z⟩
theorem fn_getSK (e : fnQ K A = fnV nm q st [("__class__", cc)] dV) (c : cdS K A cda = true) (k : kwQ K A kV = true) : ∃ oc od dc pm an ct sl, K.lookup A = some ⟨oc, od, .func (ksFn nm q (L2.defArgs st) (L2.defBody st) (L2.defScope st) dV kV dc pm an (.ref cda) ct cc), sl⟩ := by
  obtain ⟨oc, od, kV', dc, pm, an, cd, ct, sl, z⟩ := fn_any e
  unfold cdS at c
  unfold kwQ at k
  rw [z] at c k
  have ec : cd = .ref cda := of_decide_eq_true c
  have ek : kV' = kV := of_decide_eq_true k
  subst ec ek
  exact ⟨oc, od, dc, pm, an, ct, sl, z⟩
end
def flQ (K : Frag) (cda : Addr) (file : Str) : Bool := match K.lookup cda with
  | some ⟨_, _, .fields vs, _⟩ => (match (vs[2]? : Option Value) with | some (.str f _) => file == f | _ => false)
  | _ => false
theorem fl_get {K : Frag} {cda : Addr} {file : Str} (h : flQ K cda file = true) : ∃ ccl cdd vs ccs f tf, K.lookup cda = some ⟨ccl, cdd, .fields vs, ccs⟩ ∧ vs[2]? = some (.str f tf) ∧ (file == f) = true := by
  unfold flQ at h
  cases z : K.lookup cda with
  | none => rw [z] at h; cases h
  | some o =>
    obtain ⟨oc, od, dt, osl⟩ := o
    rw [z] at h
    cases dt with
    | fields vs =>
      cases y : vs[2]? with
      | none => simp only [y] at h; cases h
      | some v =>
        cases v with
        | str f t => simp only [y] at h; exact ⟨_, _, vs, _, f, t, rfl, y, h⟩
        | _ => simp only [y] at h; cases h
    | _ => cases h
def ceQ (K : Frag) (cc D : Addr) : Bool := match K.lookup cc with
  | some ⟨_, _, .cell (some (.ref x)), _⟩ => decide (x = D)
  | _ => false
theorem ce_get {K : Frag} {cc D : Addr} (h : ceQ K cc D = true) : ∃ cl cld csl, K.lookup cc = some ⟨cl, cld, .cell (some (.ref D)), csl⟩ := by
  unfold ceQ at h
  cases z : K.lookup cc with
  | none => rw [z] at h; cases h
  | some o =>
    obtain ⟨oc, od, dt, osl⟩ := o
    rw [z] at h
    cases dt with
    | cell v =>
      cases v with
      | none => cases h
      | some v =>
        cases v with
        | ref x =>
          have e : x = D := of_decide_eq_true h
          subst e
          exact ⟨_, _, _, rfl⟩
        | _ => cases h
    | _ => cases h
theorem dc_get {K : Frag} {D : Addr} (h : (clsIn K D).isSome = true) : ∃ cd, clsIn K D = some cd := Option.isSome_iff_exists.mp h
def lkQ (K : Frag) (E : Addr) : Bool := match K.lookup E with
  | some ⟨.type T, _, .cls cd, sl⟩ => (match cd.mro, sl.toList with
    | .ref C :: bm, [_, _, _, _, some (.builtin n), _] => decide (T = "type") && (decide (C = E) && (decide (n = "ValueError.__new__") && (!cd.hasDel && (cd.hasDict && PySem.HandSPX.refsVE bm))))
    | _, _ => false)
  | _ => false
theorem lk_get {K : Frag} {E : Addr} (h : lkQ K E = true) : ∃ nm q N bs bm sn sub ab col dd k0 k1 k2 k3 k5, K.lookup E = some (excClassObj nm q E N bs bm true sn sub ab col dd k0 k1 k2 k3 k5 "ValueError.__new__") ∧ PySem.HandSPX.refsVE bm = true := by
  unfold lkQ at h
  cases z : K.lookup E with
  | none => rw [z] at h; cases h
  | some o =>
    obtain ⟨oc, od, dt, osl⟩ := o
    rw [z] at h
    cases oc with
    | type T =>
      cases dt with
      | cls cd =>
        obtain ⟨n1, bs, mro, N, qn, hd, sn, sub, ab, col, hdel⟩ := cd
        simp only at h
        split at h
        · rename_i C bm k0 k1 k2 k3 n k5 es
          simp only [Bool.and_eq_true, decide_eq_true_eq, Bool.not_eq_true'] at h
          obtain ⟨h1, h2, h3, h4, h5, h6⟩ := h
          subst h1 h2 h3 h4 h5
          have e7 : osl = #[k0, k1, k2, k3, some (.builtin "ValueError.__new__"), k5] := by
            rw [← Array.toList_inj, es]
          subst e7
          exact ⟨_, _, _, _, _, _, _, _, _, _, _, _, _, _, _, rfl, h6⟩
        · cases h
      | _ => cases h
    | _ => cases dt <;> cases h
def recQ (K : Frag) (P : Addr) (T : String) (A : Addr) : Bool := match recIn K P T with
  | some (.ref a :: _) => decide (a = A)
  | _ => false
theorem rec_get {K : Frag} {P A : Addr} {T : String} (h : recQ K P T A = true) : ∃ rest, recIn K P T = some (.ref A :: rest) := by
  unfold recQ at h
  split at h
  · rename_i a r e
    have := of_decide_eq_true h
    subst this
    exact ⟨r, e⟩
  · cases h
def strQ (K : Frag) (x z : Str) : Bool := match nsIn K mainGlobals x with
  | some (some (.str y _)) => decide (y = z)
  | _ => false
theorem str_get {K : Frag} {x z : Str} (h : strQ K x z = true) : ∃ t, nsIn K mainGlobals x = some (some (.str z t)) := by
  unfold strQ at h
  split at h
  · rename_i a t e
    have := of_decide_eq_true h
    subst this
    exact ⟨t, e⟩
  · cases h
def nssQ (K : Frag) (D : Addr) (x z : Str) : Bool := match nsIn K D x with
  | some (some (.str y _)) => decide (y = z)
  | _ => false
theorem nss_get {K : Frag} {D : Addr} {x z : Str} (h : nssQ K D x z = true) : ∃ t, nsIn K D x = some (some (.str z t)) := by
  unfold nssQ at h
  split at h
  · rename_i a t e
    have := of_decide_eq_true h
    subst this
    exact ⟨t, e⟩
  · cases h
def nsiQ (K : Frag) (D : Addr) (x : Str) (z : Int) : Bool := match nsIn K D x with
  | some (some (.int y _)) => decide (y = z)
  | _ => false
theorem nsi_get {K : Frag} {D : Addr} {x : Str} {z : Int} (h : nsiQ K D x z = true) : ∃ t, nsIn K D x = some (some (.int z t)) := by
  unfold nsiQ at h
  split at h
  · rename_i a t e
    have := of_decide_eq_true h
    subst this
    exact ⟨t, e⟩
  · cases h
def cfiQ (K : Frag) (c mc : Value) (x : Str) (i : Int) : Bool := match findCls K c mc x with
  | some (.val (.int j _)) => decide (j = i)
  | _ => false
theorem cfi_get {K : Frag} {c mc : Value} {x : Str} {i : Int} (h : cfiQ K c mc x i = true) : ∃ t, findCls K c mc x = some (.val (.int i t)) := by
  unfold cfiQ at h
  split at h
  · rename_i a t e
    have := of_decide_eq_true h
    subst this
    exact ⟨t, e⟩
  · cases h
def cfvQ (K : Frag) (c mc : Value) (x : Str) (v : Value) : Bool := match findCls K c mc x with
  | some (.val u) => decide (u = v)
  | _ => false
theorem cfv_get {K : Frag} {c mc v : Value} {x : Str} (h : cfvQ K c mc x v = true) : findCls K c mc x = some (.val v) := by
  unfold cfvQ at h
  split at h
  · rename_i a e
    have := of_decide_eq_true h
    subst this
    exact e
  · cases h
def cfgQ (K : Frag) (c mc : Value) (x : Str) (g a o t : Value) : Bool := match findCls K c mc x with
  | some (.get g' a' o' t') => decide (g' = g) && (decide (a' = a) && (decide (o' = o) && decide (t' = t)))
  | _ => false
theorem cfg_get {K : Frag} {c mc g a o t : Value} {x : Str} (h : cfgQ K c mc x g a o t = true) : findCls K c mc x = some (.get g a o t) := by
  unfold cfgQ at h
  split at h
  · rename_i g' a' o' t' e
    simp only [Bool.and_eq_true, decide_eq_true_eq] at h
    obtain ⟨h1, h2, h3, h4⟩ := h
    subst h1 h2 h3 h4
    exact e
  · cases h
def teQ (K : Frag) (KT : Addr) : Bool := match K.lookup KT with
  | some ⟨.type T, _, .seq its _, _⟩ => decide (T = "tuple") && its.toList.isEmpty
  | _ => false
theorem te_get {K : Frag} {KT : Addr} (h : teQ K KT = true) : ∃ od n sl, K.lookup KT = some ⟨.type "tuple", od, .seq #[] n, sl⟩ := by
  unfold teQ at h
  cases z : K.lookup KT with
  | none => rw [z] at h; cases h
  | some o =>
    obtain ⟨oc, od, dt, osl⟩ := o
    rw [z] at h
    cases oc with
    | type T =>
      cases dt with
      | seq its n =>
        have h : (decide (T = "tuple") && its.toList.isEmpty) = true := h
        simp only [Bool.and_eq_true, decide_eq_true_eq, List.isEmpty_iff] at h
        obtain ⟨rfl, h2⟩ := h
        have e : its = #[] := by rw [← Array.toList_inj, h2]
        subst e
        exact ⟨_, _, _, rfl⟩
      | _ => cases h
    | _ => cases dt <;> cases h
def seQ (K : Frag) (KD KT : Addr) : Bool := match K.lookup KD with
  | some ⟨_, _, .seq its _, _⟩ => (match its.toList with | [.ref x] => decide (x = KT) | _ => false)
  | _ => false
theorem se_get {K : Frag} {KD KT : Addr} (h : seQ K KD KT = true) : ∃ oc od n sl, K.lookup KD = some ⟨oc, od, .seq #[.ref KT] n, sl⟩ := by
  unfold seQ at h
  cases z : K.lookup KD with
  | none => rw [z] at h; cases h
  | some o =>
    obtain ⟨oc, od, dt, osl⟩ := o
    rw [z] at h
    cases dt with
    | seq its n =>
      dsimp only at h
      split at h
      · rename_i x e
        have e1 := of_decide_eq_true h
        subst e1
        have e : its = #[.ref x] := by rw [← Array.toList_inj, e]
        subst e
        exact ⟨_, _, _, _, rfl⟩
      · cases h
    | _ => cases h
/-- a tuple of texts -/
def strsB : List Str → List Value → Bool
  | [], [] => true
  | w :: ws, .str x _ :: vs => decide (x = w) && strsB ws vs
  | _, _ => false
def strsV : List Str → List Tok → List Value
  | w :: ws, t :: ts => .str w t :: strsV ws ts
  | _, _ => []
theorem strs_get : ∀ {ws : List Str} {vs : List Value}, strsB ws vs = true → ∃ ts : List Tok, ts.length = ws.length ∧ vs = strsV ws ts
  | [], [], _ => ⟨[], rfl, rfl⟩
  | [], _ :: _, h => by cases h
  | w :: ws, [], h => by cases h
  | w :: ws, v :: vs, h => by
    cases v with
    | str x t =>
      have h : (decide (x = w) && strsB ws vs) = true := h
      simp only [Bool.and_eq_true, decide_eq_true_eq] at h
      obtain ⟨rfl, h2⟩ := h
      obtain ⟨ts, e1, e2⟩ := strs_get h2
      exact ⟨t :: ts, by simp [e1], by rw [e2]; rfl⟩
    | _ => cases h
def tsQ (K : Frag) (A : Addr) (ws : List Str) : Bool := match K.lookup A with
  | some ⟨.type T, _, .seq its _, _⟩ => decide (T = "tuple") && strsB ws its.toList
  | _ => false
theorem ts_get {K : Frag} {A : Addr} {ws : List Str} (h : tsQ K A ws = true) : ∃ ts od n sl, ts.length = ws.length ∧ K.lookup A = some ⟨.type "tuple", od, .seq (strsV ws ts).toArray n, sl⟩ := by
  unfold tsQ at h
  cases z : K.lookup A with
  | none => rw [z] at h; cases h
  | some o =>
    obtain ⟨oc, od, dt, osl⟩ := o
    rw [z] at h
    cases oc with
    | type T =>
      cases dt with
      | seq its n =>
        have h : (decide (T = "tuple") && strsB ws its.toList) = true := h
        simp only [Bool.and_eq_true, decide_eq_true_eq] at h
        obtain ⟨rfl, h2⟩ := h
        obtain ⟨ts, e1, e2⟩ := strs_get h2
        have e : its = (strsV ws ts).toArray := by rw [← Array.toList_inj, e2]
        subst e
        exact ⟨ts, _, _, _, e1, rfl⟩
      | _ => cases h
    | _ => cases dt <;> cases h
theorem fnAt {l vs : List FnQ} (e : l = vs) (i : Nat) {x y : FnQ} (h : l[i]? = some x := by rfl) (h' : vs[i]? = some y := by rfl) : x = y := by
  subst e
  exact Option.some.inj (h.symm.trans h')
end Hd

set_option Elab.async false
set_option linter.all false
set_option maxRecDepth 100000
set_option maxHeartbeats 4000000
namespace G
open PySem PySem.W L2 Hd
def top (i : Nat) : Stmt := PySem.Challenge.pw_gaugemiss_k31_liar_lots.main.body.getD i (.Pass ⟨0, 0, 0, 0⟩)
abbrev s_law_take : Stmt := top 27
abbrev s_law_box : Stmt := top 26
abbrev s_law_word : Stmt := top 28
abbrev s_law_words : Stmt := top 29
abbrev s_valid_name : Stmt := top 23
abbrev s_Gauge_init : Stmt := inClass (top 19) 1
abbrev s_CoarseGauge_init : Stmt := inClass (top 20) 0
abbrev s_LateGauge_init : Stmt := inClass (top 21) 0
abbrev s_LateCoarseGauge_init : Stmt := inClass (top 22) 0
abbrev s_law_specs : Stmt := top 30
abbrev s_law_gauge : Stmt := top 31
abbrev s_Rack_init : Stmt := inClass (top 24) 0
abbrev s_Rack_of : Stmt := inClass (top 24) 1
abbrev s_Rack_names : Stmt := inClass (top 24) 4
abbrev s_law_gauges : Stmt := top 32
abbrev s_law_groups : Stmt := top 33
abbrev s_law_faults : Stmt := top 34
abbrev s_Rack_faults : Stmt := inClass (top 24) 6
abbrev s_picks : Stmt := top 10
abbrev s_law_picks : Stmt := top 35
abbrev s_law_lots : Stmt := top 36
abbrev s_liar_lots : Stmt := top 11
abbrev s_law : Stmt := top 37
abbrev s_BadGauge_init : Stmt := inClass (top 6) 0
abbrev s_DuplicateGauge_init : Stmt := inClass (top 7) 0
abbrev s_UnknownGauge_init : Stmt := inClass (top 8) 0
abbrev hR : OpenRow := OpenLaw.row PySem.Challenge.rw_gaugemiss_k31_liar_lots
abbrev hQ : Program := view hR.prog [37]
def hNames : List Str := (hR.prog.main.body.take 37).filterMap fun s => match s with | .FunctionDef n .. => some n | .ClassDef n .. => some n | .Assign [.Name n _] .. => some n | _ => none
def hAs : List Addr := [3, 2, 521, 552, 588, 607, 723, 107, 128, 149, 104, 103, 92, 125, 124, 113, 146, 145, 134, 739, 732, 746, 753, 614, 475, 541, 540, 529, 569, 604, 760, 767, 628, 623, 622, 639, 637, 630, 629, 661, 772, 777, 782, 673, 156, 787, 792, 161, 797, 461, 520, 551, 587, 606, 722, 106, 31, 127, 148, 738, 731, 745, 752, 613, 474, 568, 603, 759, 766, 627, 636, 660, 771, 776, 781, 672, 155, 786, 791, 160, 796, 30]
def hck0 (K : Frag) : List Bool := [Hd.cdS K 104 103,
  Hd.cdS K 125 124,
  Hd.cdS K 146 145,
  Hd.cdQ K 739 "_law_take",
  Hd.cdQ K 732 "_law_box",
  Hd.cdQ K 746 "_law_word",
  Hd.cdQ K 753 "_law_words",
  Hd.cdQ K 614 "valid_name",
  Hd.cdQ K 475 "Gauge.__init__",
  Hd.cdS K 541 540,
  Hd.cdQ K 569 "LateGauge.__init__",
  Hd.cdQ K 604 "LateCoarseGauge.__init__",
  Hd.cdQ K 760 "_law_specs",
  Hd.cdQ K 767 "_law_gauge",
  Hd.cdQ K 628 "Rack.__init__",
  Hd.kwQ K 628 (.ref 623),
  Hd.cdQ K 637 "Rack.of",
  Hd.cdQ K 661 "Rack.names",
  Hd.cdQ K 772 "_law_gauges",
  Hd.cdQ K 777 "_law_groups"]
def hck1 (K : Frag) : List Bool := [Hd.cdQ K 782 "_law_faults",
  Hd.cdQ K 673 "Rack.faults",
  Hd.cdQ K 156 "picks",
  Hd.cdQ K 787 "_law_picks",
  Hd.cdQ K 792 "_law_lots",
  Hd.cdQ K 161 "liar_lots",
  Hd.cdQ K 797 "law",
  decide (PySem.W.nsIn K mainGlobals "Gauge" = some (some (.ref 521))),
  PySem.W.plainGet K 521 Str.empty,
  PySem.W.hasDictIn K 521,
  PySem.W.plainOver K 521,
  decide (PySem.W.findIn K (.ref 521) "__setattr__" = some (some (.builtin "object.__setattr__"))),
  PySem.W.makesIn K 521,
  PySem.W.keepIn K (.ref 521),
  decide (PySem.W.nsIn K mainGlobals "CoarseGauge" = some (some (.ref 552))),
  PySem.W.plainGet K 552 Str.empty,
  PySem.W.hasDictIn K 552,
  PySem.W.plainOver K 552,
  decide (PySem.W.findIn K (.ref 552) "__setattr__" = some (some (.builtin "object.__setattr__"))),
  PySem.W.makesIn K 552]
def hck2 (K : Frag) : List Bool := [PySem.W.keepIn K (.ref 552),
  decide (PySem.W.nsIn K mainGlobals "LateGauge" = some (some (.ref 588))),
  PySem.W.plainGet K 588 Str.empty,
  PySem.W.hasDictIn K 588,
  PySem.W.plainOver K 588,
  decide (PySem.W.findIn K (.ref 588) "__setattr__" = some (some (.builtin "object.__setattr__"))),
  PySem.W.makesIn K 588,
  PySem.W.keepIn K (.ref 588),
  decide (PySem.W.nsIn K mainGlobals "LateCoarseGauge" = some (some (.ref 607))),
  PySem.W.plainGet K 607 Str.empty,
  PySem.W.hasDictIn K 607,
  PySem.W.plainOver K 607,
  decide (PySem.W.findIn K (.ref 607) "__setattr__" = some (some (.builtin "object.__setattr__"))),
  PySem.W.makesIn K 607,
  PySem.W.keepIn K (.ref 607),
  decide (PySem.W.nsIn K mainGlobals "Rack" = some (some (.ref 723))),
  PySem.W.plainGet K 723 Str.empty,
  PySem.W.hasDictIn K 723,
  PySem.W.plainOver K 723,
  decide (PySem.W.findIn K (.ref 723) "__setattr__" = some (some (.builtin "object.__setattr__")))]
def hck3 (K : Frag) : List Bool := [PySem.W.makesIn K 723,
  PySem.W.keepIn K (.ref 723),
  decide (PySem.W.nsIn K mainGlobals "BadGauge" = some (some (.ref 107))),
  decide (PySem.W.subIn K (.ref 107) (.type "BaseException") = some true),
  decide (PySem.W.typeIn K (.ref 107) = some (.type "type")),
  PySem.W.keepIn K (.ref 107),
  PySem.W.hasDictIn K 107,
  decide (PySem.W.nsIn K mainGlobals "DuplicateGauge" = some (some (.ref 128))),
  decide (PySem.W.subIn K (.ref 128) (.type "BaseException") = some true),
  decide (PySem.W.typeIn K (.ref 128) = some (.type "type")),
  PySem.W.keepIn K (.ref 128),
  PySem.W.hasDictIn K 128,
  decide (PySem.W.nsIn K mainGlobals "UnknownGauge" = some (some (.ref 149))),
  decide (PySem.W.subIn K (.ref 149) (.type "BaseException") = some true),
  decide (PySem.W.typeIn K (.ref 149) = some (.type "type")),
  PySem.W.keepIn K (.ref 149),
  PySem.W.hasDictIn K 149,
  Hd.lkQ K 107,
  decide (PySem.W.findIn K (.ref 107) "__setattr__" = some (some (.builtin "object.__setattr__"))),
  decide (PySem.W.findIn K (.ref 107) "__init__" = some (some (.ref 104)))]
def hck4 (K : Frag) : List Bool := [decide (PySem.W.typeIn K (.ref 104) = some (.type "function")),
  PySem.W.codeIn K (.ref 103) "BadGauge.__init__",
  PySem.W.keepIn K (.ref 104),
  Hd.flQ K 103 (PySem.W.OpenLaw.row PySem.Challenge.rw_gaugemiss_k31_liar_lots).prog.main.file,
  Hd.ceQ K 92 107,
  (PySem.W.clsIn K 107).isSome,
  decide (PySem.W.mroIn K 107 (.ref 107) = some true),
  decide (PySem.W.ks_superIn K 107 107 "__init__" = some (some (.builtin "ValueError.__init__"))),
  decide (PySem.W.subIn K (.ref 107) (.type "ValueError") = some true),
  Hd.lkQ K 128,
  decide (PySem.W.findIn K (.ref 128) "__setattr__" = some (some (.builtin "object.__setattr__"))),
  decide (PySem.W.findIn K (.ref 128) "__init__" = some (some (.ref 125))),
  decide (PySem.W.typeIn K (.ref 125) = some (.type "function")),
  PySem.W.codeIn K (.ref 124) "DuplicateGauge.__init__",
  PySem.W.keepIn K (.ref 125),
  Hd.flQ K 124 (PySem.W.OpenLaw.row PySem.Challenge.rw_gaugemiss_k31_liar_lots).prog.main.file,
  Hd.ceQ K 113 128,
  (PySem.W.clsIn K 128).isSome,
  decide (PySem.W.mroIn K 128 (.ref 128) = some true),
  decide (PySem.W.ks_superIn K 128 128 "__init__" = some (some (.builtin "ValueError.__init__")))]
def hck5 (K : Frag) : List Bool := [decide (PySem.W.subIn K (.ref 128) (.type "ValueError") = some true),
  Hd.lkQ K 149,
  decide (PySem.W.findIn K (.ref 149) "__setattr__" = some (some (.builtin "object.__setattr__"))),
  decide (PySem.W.findIn K (.ref 149) "__init__" = some (some (.ref 146))),
  decide (PySem.W.typeIn K (.ref 146) = some (.type "function")),
  PySem.W.codeIn K (.ref 145) "UnknownGauge.__init__",
  PySem.W.keepIn K (.ref 146),
  Hd.flQ K 145 (PySem.W.OpenLaw.row PySem.Challenge.rw_gaugemiss_k31_liar_lots).prog.main.file,
  Hd.ceQ K 134 149,
  (PySem.W.clsIn K 149).isSome,
  decide (PySem.W.mroIn K 149 (.ref 149) = some true),
  decide (PySem.W.ks_superIn K 149 149 "__init__" = some (some (.builtin "ValueError.__init__"))),
  decide (PySem.W.subIn K (.ref 149) (.type "ValueError") = some true),
  decide (PySem.W.nsIn K cStatics "thirdparty.any" = some none),
  decide (PySem.W.findIn K (.ref 107) "name" = some none),
  decide (PySem.W.findIn K (.ref 128) "name" = some none),
  decide (PySem.W.findIn K (.ref 149) "name" = some none),
  decide (PySem.W.findIn K (.ref 521) "name" = some none),
  decide (PySem.W.findIn K (.ref 552) "name" = some none),
  decide (PySem.W.findIn K (.ref 588) "name" = some none)]
def hck6 (K : Frag) : List Bool := [decide (PySem.W.findIn K (.ref 607) "name" = some none),
  decide (PySem.W.findIn K (.ref 521) "radius" = some none),
  decide (PySem.W.findIn K (.ref 552) "radius" = some none),
  decide (PySem.W.findIn K (.ref 588) "radius" = some none),
  decide (PySem.W.findIn K (.ref 607) "radius" = some none),
  decide (PySem.W.findIn K (.ref 552) "step" = some none),
  decide (PySem.W.findIn K (.ref 607) "step" = some none),
  decide (PySem.W.findIn K (.ref 588) "late" = some none),
  decide (PySem.W.findIn K (.ref 607) "late" = some none),
  decide (PySem.W.findIn K (.ref 588) "pace" = some none),
  decide (PySem.W.findIn K (.ref 607) "pace" = some none),
  decide (PySem.W.findIn K (.ref 723) "gauges" = some none),
  decide (PySem.W.findIn K (.ref 723) "groups" = some none),
  decide (PySem.W.nsIn K mainGlobals "_law_take" = some (some (.ref 739))),
  PySem.W.keepIn K (.ref 739),
  decide (PySem.W.nsIn K mainGlobals "_law_box" = some (some (.ref 732))),
  PySem.W.keepIn K (.ref 732),
  decide (PySem.W.nsIn K mainGlobals "_law_word" = some (some (.ref 746))),
  PySem.W.keepIn K (.ref 746),
  decide (PySem.W.nsIn K mainGlobals "_law_words" = some (some (.ref 753)))]
def hck7 (K : Frag) : List Bool := [PySem.W.keepIn K (.ref 753),
  decide (PySem.W.nsIn K mainGlobals "valid_name" = some (some (.ref 614))),
  PySem.W.keepIn K (.ref 614),
  decide (PySem.W.findIn K (.ref 521) "__init__" = some (some (.ref 475))),
  PySem.W.isFn K (.ref 475),
  PySem.W.keepIn K (.ref 475),
  decide (PySem.W.findIn K (.ref 552) "__init__" = some (some (.ref 541))),
  PySem.W.isFn K (.ref 541),
  PySem.W.codeIn K (.ref 540) "CoarseGauge.__init__",
  PySem.W.keepIn K (.ref 541),
  Hd.flQ K 540 (PySem.W.OpenLaw.row PySem.Challenge.rw_gaugemiss_k31_liar_lots).prog.main.file,
  Hd.ceQ K 529 552,
  (PySem.W.clsIn K 552).isSome,
  decide (PySem.W.findIn K (.ref 588) "__init__" = some (some (.ref 569))),
  PySem.W.isFn K (.ref 569),
  PySem.W.keepIn K (.ref 569),
  decide (PySem.W.findIn K (.ref 607) "__init__" = some (some (.ref 604))),
  PySem.W.isFn K (.ref 604),
  PySem.W.keepIn K (.ref 604),
  decide (PySem.W.nsIn K mainGlobals "_law_specs" = some (some (.ref 760)))]
def hck8 (K : Frag) : List Bool := [PySem.W.keepIn K (.ref 760),
  decide (PySem.W.nsIn K mainGlobals "_law_gauge" = some (some (.ref 767))),
  PySem.W.keepIn K (.ref 767),
  decide (PySem.W.findIn K (.ref 723) "__init__" = some (some (.ref 628))),
  PySem.W.isFn K (.ref 628),
  decide (PySem.W.nsIn K 623 "together" = some (some (.ref 622))),
  Hd.teQ K 622,
  PySem.W.keepIn K (.ref 628),
  PySem.W.readsIn K 723 (.type "type"),
  decide (PySem.W.specialIn K (.ref 723) "__getattribute__" = some (some (.builtin "type.__getattribute__"))),
  Hd.cfgQ K (.ref 723) (.type "type") "of" (.builtin "classmethod.__get__") (.ref 639) .none (.ref 723),
  Hd.recQ K 639 "classmethod" 637,
  PySem.W.fnIn K 637,
  Hd.seQ K 630 629,
  Hd.teQ K 629,
  PySem.W.keepIn K (.ref 637),
  decide (PySem.W.findIn K (.ref 723) "names" = some (some (.ref 661))),
  PySem.W.isFn K (.ref 661),
  PySem.W.keepIn K (.ref 661),
  decide (PySem.W.nsIn K mainGlobals "_law_gauges" = some (some (.ref 772)))]
def hck9 (K : Frag) : List Bool := [PySem.W.keepIn K (.ref 772),
  decide (PySem.W.nsIn K mainGlobals "_law_groups" = some (some (.ref 777))),
  PySem.W.keepIn K (.ref 777),
  decide (PySem.W.nsIn K mainGlobals "_law_faults" = some (some (.ref 782))),
  PySem.W.keepIn K (.ref 782),
  decide (PySem.W.findIn K (.ref 723) "faults" = some (some (.ref 673))),
  PySem.W.isFn K (.ref 673),
  PySem.W.keepIn K (.ref 673),
  decide (PySem.W.nsIn K mainGlobals "picks" = some (some (.ref 156))),
  PySem.W.keepIn K (.ref 156),
  decide (PySem.W.nsIn K mainGlobals "_law_picks" = some (some (.ref 787))),
  PySem.W.keepIn K (.ref 787),
  decide (PySem.W.nsIn K mainGlobals "_law_lots" = some (some (.ref 792))),
  PySem.W.keepIn K (.ref 792),
  decide (PySem.W.nsIn K mainGlobals "liar_lots" = some (some (.ref 161))),
  PySem.W.keepIn K (.ref 161),
  decide (PySem.W.nsIn K mainGlobals "law" = some (some (.ref 797))),
  PySem.W.keepIn K (.ref 797),
  PySem.W.readsIn K 521 (.type "type"),
  decide (PySem.W.specialIn K (.ref 521) "__getattribute__" = some (some (.builtin "type.__getattribute__")))]
def hck10 (K : Frag) : List Bool := [Hd.cfvQ K (.ref 521) (.type "type") "__init__" (.ref 475),
  PySem.W.readsIn K 588 (.type "type"),
  decide (PySem.W.specialIn K (.ref 588) "__getattribute__" = some (some (.builtin "type.__getattribute__"))),
  Hd.cfvQ K (.ref 588) (.type "type") "__init__" (.ref 569),
  Hd.cfiQ K (.ref 521) (.type "type") "LONGEST" 12,
  decide (PySem.W.nsIn K mainGlobals "WORDS" = some (some (.ref 461))),
  Hd.tsQ K 461 ["rank", "trim", "weigh", "together"],
  Hd.strQ K "LETTERS" "abcdefghijklmnopqrstuvwxyz",
  decide (PySem.W.ks_superIn K 552 552 "__init__" = some (some (.ref 475))),
  decide (PySem.W.mroIn K 552 (.ref 552) = some true),
  decide (PySem.W.typeIn K (.ref 475) = some (.type "function")),
  PySem.W.fnIn K 475,
  decide (PySem.W.nsIn K mainGlobals "len" = some none),
  decide (PySem.W.nsIn K mainGlobals "int" = some none),
  decide (PySem.W.nsIn K mainGlobals "bool" = some none),
  decide (PySem.W.nsIn K mainGlobals "str" = some none),
  decide (PySem.W.nsIn K mainGlobals "isinstance" = some none),
  decide (PySem.W.nsIn K mainGlobals "range" = some none),
  decide (PySem.W.nsIn K mainGlobals "max" = some none),
  decide (PySem.W.nsIn K mainGlobals "min" = some none)]
def hck11 (K : Frag) : List Bool := [decide (PySem.W.nsIn K mainGlobals "abs" = some none),
  decide (PySem.W.nsIn K mainGlobals "sorted" = some none),
  decide (PySem.W.nsIn K mainGlobals "sum" = some none),
  decide (PySem.W.nsIn K mainGlobals "any" = some none),
  decide (PySem.W.nsIn K mainGlobals "all" = some none),
  decide (PySem.W.nsIn K mainGlobals "list" = some none),
  decide (PySem.W.nsIn K mainGlobals "dict" = some none),
  decide (PySem.W.nsIn K mainGlobals "tuple" = some none),
  decide (PySem.W.nsIn K mainGlobals "enumerate" = some none),
  decide (PySem.W.nsIn K mainGlobals "zip" = some none),
  decide (PySem.W.nsIn K mainGlobals "repr" = some none),
  decide (PySem.W.nsIn K mainGlobals "iter" = some none),
  decide (PySem.W.nsIn K mainGlobals "super" = some none)]
def hck (K : Frag) : List Bool := hck0 K ++ (hck1 K ++ (hck2 K ++ (hck3 K ++ (hck4 K ++ (hck5 K ++ (hck6 K ++ (hck7 K ++ (hck8 K ++ (hck9 K ++ (hck10 K ++ (hck11 K)))))))))))
def hfs (K : Frag) : List FnQ := [fnQ K 104, fnQ K 125, fnQ K 146, fnQ K 739, fnQ K 732, fnQ K 746, fnQ K 753, fnQ K 614, fnQ K 475, fnQ K 541, fnQ K 569, fnQ K 604, fnQ K 760, fnQ K 767, fnQ K 628, fnQ K 637, fnQ K 661, fnQ K 772, fnQ K 777, fnQ K 782, fnQ K 673, fnQ K 156, fnQ K 787, fnQ K 792, fnQ K 161, fnQ K 797]
def hvs : List FnQ := [fnV "__init__" "BadGauge.__init__" s_BadGauge_init [(("__class__" : Str), 92)] .none,
  fnV "__init__" "DuplicateGauge.__init__" s_DuplicateGauge_init [(("__class__" : Str), 113)] .none,
  fnV "__init__" "UnknownGauge.__init__" s_UnknownGauge_init [(("__class__" : Str), 134)] .none,
  fnV "_law_take" "_law_take" s_law_take [] .none,
  fnV "_law_box" "_law_box" s_law_box [] .none,
  fnV "_law_word" "_law_word" s_law_word [] .none,
  fnV "_law_words" "_law_words" s_law_words [] .none,
  fnV "valid_name" "valid_name" s_valid_name [] .none,
  fnV "__init__" "Gauge.__init__" s_Gauge_init [] .none,
  fnV "__init__" "CoarseGauge.__init__" s_CoarseGauge_init [(("__class__" : Str), 529)] .none,
  fnV "__init__" "LateGauge.__init__" s_LateGauge_init [] .none,
  fnV "__init__" "LateCoarseGauge.__init__" s_LateCoarseGauge_init [] .none,
  fnV "_law_specs" "_law_specs" s_law_specs [] .none,
  fnV "_law_gauge" "_law_gauge" s_law_gauge [] .none,
  fnV "__init__" "Rack.__init__" s_Rack_init [] .none,
  fnV "of" "Rack.of" s_Rack_of [] (.ref 630),
  fnV "names" "Rack.names" s_Rack_names [] .none,
  fnV "_law_gauges" "_law_gauges" s_law_gauges [] .none,
  fnV "_law_groups" "_law_groups" s_law_groups [] .none,
  fnV "_law_faults" "_law_faults" s_law_faults [] .none,
  fnV "faults" "Rack.faults" s_Rack_faults [] .none,
  fnV "picks" "picks" s_picks [] .none,
  fnV "_law_picks" "_law_picks" s_law_picks [] .none,
  fnV "_law_lots" "_law_lots" s_law_lots [] .none,
  fnV "liar_lots" "liar_lots" s_liar_lots [] .none,
  fnV "law" "law" s_law [] .none]
abbrev hHk : Hook := hookF hAs hck hfs hvs
def hOb (s : SharedT) : Bool × List FnQ := obF hAs hck hfs (HandSHeadRun.getT s)
theorem hOb_eq (s : SharedT) : hOb s = hHk.obs s.abs := obF_eq s
set_option maxHeartbeats 0 in
theorem hRun (w : World) : HandSHeadRun.RunEq hR hQ hHk hOb 60000 hNames w := by
  intro os
  kernel_rfl
end G
set_option Elab.async false
set_option linter.all false
set_option maxRecDepth 100000
set_option maxHeartbeats 4000000
namespace G
open PySem L2

/-! ## Plain data -/
inductive Cl where
  | Stretch | Levels | Gauge | CoarseGauge | LateGauge | LateCoarseGauge | Rack | Rule | Leaf | Rank | Trim | Weigh | Miss | Case | Twins | Keeper | Desk | SteadyDesk | Finder
  deriving DecidableEq
inductive Ec where
  | GaugeError | BadStretch | NoLevel | Apart | BadNeed | BadLiars | BadGauge | DuplicateGauge | UnknownGauge | MissingReading | BadRule | BadText | BadLine | SharedFault | BadPaper | NoBound | BadLimit | NoCase | NoTruth | NoTick
  | NotPossible | NothingToUndo | NothingToRedo | NotRanked | NoRule
  deriving DecidableEq
inductive Fd where
  | low | high | pieces | name | radius | step | late | pace | gauges | groups | written | parts | ranked | place | cut | weights | above | below | level | readings | lot | reply
  | low_level | low_lot | high_level | high_lot | bound | order | gone | rack | start | rows | many | lines | past | future | rules | places | first | second | number | kind | text | line | row | tick
  deriving DecidableEq
def Fd.str : Fd → Str
  | .low => "low" | .high => "high" | .pieces => "pieces" | .name => "name" | .radius => "radius" | .step => "step" | .late => "late" | .pace => "pace" | .gauges => "gauges" | .groups => "groups"
  | .written => "written" | .parts => "parts" | .ranked => "ranked" | .place => "place" | .cut => "cut" | .weights => "weights" | .above => "above" | .below => "below" | .level => "level" | .readings => "readings"
  | .lot => "lot" | .reply => "reply" | .low_level => "low_level" | .low_lot => "low_lot" | .high_level => "high_level" | .high_lot => "high_lot" | .bound => "bound" | .order => "order" | .gone => "gone"
  | .rack => "rack" | .start => "start" | .rows => "rows" | .many => "many" | .lines => "lines" | .past => "past" | .future => "future" | .rules => "rules" | .places => "places" | .first => "first" | .second => "second"
  | .number => "number" | .kind => "kind" | .text => "text" | .line => "line" | .row => "row" | .tick => "tick"
def Fd.all : List Fd := [.low, .high, .pieces, .name, .radius, .step, .late, .pace, .gauges, .groups, .written, .parts, .ranked, .place, .cut, .weights, .above, .below, .level, .readings, .lot, .reply,
  .low_level, .low_lot, .high_level, .high_lot, .bound, .order, .gone, .rack, .start, .rows, .many, .lines, .past, .future, .rules, .places, .first, .second, .number, .kind, .text, .line, .row, .tick]
def Fd.of (x : Str) : Option Fd := Fd.all.find? fun f => decide (f.str = x)
theorem Fd.of_str (f : Fd) : Fd.of f.str = some f := by
  cases f <;> decide +kernel
theorem Fd.inj {f g : Fd} (h : f.str = g.str) : f = g := by
  have e := Fd.of_str f
  rw [h, Fd.of_str g] at e
  exact (Option.some.inj e).symm

inductive D where
  | non | bl (b : Bool) | int (i : Int) | str (x : Str)
  | lst (l : List D) | tup (l : List D) | obj (c : Cl) (fs : List Fd) (ds : List D) | dic (ks : List Key) (ds : List D)
  | ptr (a : Addr) | scr (ns : List Int) | cls (c : Cl) | xcp (a : Addr) (d : Option Addr) (fs : List Fd) (ds : List D)

/-- an error that flies: its class, its fields -/
structure Exn where
  c : Ec
  fs : List Fd
  ds : List D

/-- where the classes stand -/
structure Gm where
  K : PySem.W.Frag
  ca : Cl → Addr
  ea : Ec → Addr

def zipF (fs : List Fd) (vs : List V) : List (Str × V) := (fs.map Fd.str).zip vs
def zipK (ks : List Key) (vs : List V) : List (Key × V) := ks.zip vs
/-- the fields of an error stand in its dict -/
def XFs (F : Hp) (d : Option Addr) (fs : List Fd) (vs : List V) : Prop := (∀ dd, d = some dd → ∃ vfs, F dd = some (.xd vfs)) ∧ ∀ (f : Fd) (w : V), (zipF fs vs).lookup f.str = some w → ∃ a vfs, d = some a ∧ F a = some (.xd vfs) ∧ vfs.lookup f.str = some w
theorem XFs.mono {F F' : Hp} {d : Option Addr} {fs : List Fd} {vs : List V} (h : XFs F d fs vs) (e : Same F F') : XFs F' d fs vs := ⟨fun dd q => by
  obtain ⟨vfs, h1⟩ := h.1 dd q
  exact ⟨vfs, e _ _ h1⟩, fun f w q => by
  obtain ⟨a, vfs, h1, h2, h3⟩ := h.2 f w q
  exact ⟨a, vfs, h1, e _ _ h2, h3⟩⟩

mutual
def Rep (g : Gm) (F : Hp) : D → V → Prop
  | .non, v => v = .non
  | .bl b, v => v = .bl b
  | .int i, v => v = .int i
  | .str x, v => v = .str x
  | .ptr a, v => v = .ref a
  | .cls c, v => v = .ref (g.ca c)
  | .scr ns, v => ∃ p, v = .ref p ∧ SqL g.K F p (ns.map V.int)
  | .lst ds, v => ∃ p vs, v = .ref p ∧ F p = some (.lst vs) ∧ Reps g F ds vs
  | .tup ds, v => ∃ p vs, v = .ref p ∧ (F p = some (.tup vs) ∨ vs = [] ∧ SqT g.K F p []) ∧ Reps g F ds vs
  | .obj c fs ds, v => ∃ p dx vs, v = .ref p ∧ F p = some (.ins (g.ca c) dx (zipF fs vs)) ∧ fs.length = ds.length ∧ Reps g F ds vs
  | .dic ks ds, v => ∃ p od vs, v = .ref p ∧ F p = some (.frz od (.dK (zipK ks vs))) ∧ ks.length = ds.length ∧ Reps g F ds vs
  | .xcp a d fs ds, v => v = .ref a ∧ ∃ vs, XFs F d fs vs ∧ Reps g F ds vs
def Reps (g : Gm) (F : Hp) : List D → List V → Prop
  | [], [] => True
  | d :: ds, v :: vs => Rep g F d v ∧ Reps g F ds vs
  | _, _ => False
end

theorem sqt_same {K : PySem.W.Frag} {H H' : Hp} {a : Addr} {xs : List V} (e : Same H H') (h : SqT K H a xs) : SqT K H' a xs := by
  rcases h with (h | ⟨o, h⟩) | h
  · exact .inl (.inl (e _ _ h))
  · exact .inl (.inr ⟨o, e _ _ h⟩)
  · exact .inr h

mutual
theorem Rep.mono {g : Gm} {F F' : Hp} (e : Same F F') : ∀ {d : D} {v : V}, Rep g F d v → Rep g F' d v
  | .non, _, h => by simpa only [Rep] using h
  | .bl _, _, h => by simpa only [Rep] using h
  | .int _, _, h => by simpa only [Rep] using h
  | .str _, _, h => by simpa only [Rep] using h
  | .ptr _, _, h => by simpa only [Rep] using h
  | .cls _, _, h => by simpa only [Rep] using h
  | .lst ds, v, h => by
    simp only [Rep] at h ⊢
    obtain ⟨p, vs, h1, h2, h3⟩ := h
    exact ⟨p, vs, h1, e _ _ h2, Reps.mono e h3⟩
  | .scr ns, v, h => by
    simp only [Rep] at h ⊢
    obtain ⟨p, h1, h2⟩ := h
    exact ⟨p, h1, e.seq h2⟩
  | .tup ds, v, h => by
    simp only [Rep] at h ⊢
    obtain ⟨p, vs, h1, h2, h3⟩ := h
    exact ⟨p, vs, h1, h2.imp (e _ _) fun z => ⟨z.1, sqt_same e z.2⟩, Reps.mono e h3⟩
  | .obj c fs ds, v, h => by
    simp only [Rep] at h ⊢
    obtain ⟨p, dx, vs, h1, h2, h3, h4⟩ := h
    exact ⟨p, dx, vs, h1, e _ _ h2, h3, Reps.mono e h4⟩
  | .dic ks ds, v, h => by
    simp only [Rep] at h ⊢
    obtain ⟨p, od, vs, h1, h2, h3, h4⟩ := h
    exact ⟨p, od, vs, h1, e _ _ h2, h3, Reps.mono e h4⟩
  | .xcp a d fs ds, v, h => by
    simp only [Rep] at h ⊢
    obtain ⟨h1, vs, h2, h3⟩ := h
    exact ⟨h1, vs, h2.mono e, Reps.mono e h3⟩
theorem Reps.mono {g : Gm} {F F' : Hp} (e : Same F F') : ∀ {ds : List D} {vs : List V}, Reps g F ds vs → Reps g F' ds vs
  | [], [], h => by simp only [Reps]
  | d :: ds, v :: vs, h => by
    simp only [Reps] at h ⊢
    exact ⟨Rep.mono e h.1, Reps.mono e h.2⟩
  | [], _ :: _, h => by simp only [Reps] at h
  | _ :: _, [], h => by simp only [Reps] at h
end

section
variable {g : Gm} {F : Hp}
theorem Rep.non_iff {v : V} : Rep g F .non v ↔ v = .non := by simp only [Rep]
theorem Rep.bl_iff {b : Bool} {v : V} : Rep g F (.bl b) v ↔ v = .bl b := by simp only [Rep]
theorem Rep.int_iff {i : Int} {v : V} : Rep g F (.int i) v ↔ v = .int i := by simp only [Rep]
theorem Rep.str_iff {x : Str} {v : V} : Rep g F (.str x) v ↔ v = .str x := by simp only [Rep]
theorem Rep.ptr_iff {a : Addr} {v : V} : Rep g F (.ptr a) v ↔ v = .ref a := by simp only [Rep]
theorem Rep.cls_iff {c : Cl} {v : V} : Rep g F (.cls c) v ↔ v = .ref (g.ca c) := by simp only [Rep]
theorem Rep.scr_iff {ns : List Int} {v : V} : Rep g F (.scr ns) v ↔ ∃ p, v = .ref p ∧ SqL g.K F p (ns.map V.int) := by simp only [Rep]
theorem Rep.lst_iff {ds : List D} {v : V} : Rep g F (.lst ds) v ↔ ∃ p vs, v = .ref p ∧ F p = some (.lst vs) ∧ Reps g F ds vs := by simp only [Rep]
theorem Rep.tup_iff {ds : List D} {v : V} : Rep g F (.tup ds) v ↔ ∃ p vs, v = .ref p ∧ (F p = some (.tup vs) ∨ vs = [] ∧ SqT g.K F p []) ∧ Reps g F ds vs := by simp only [Rep]
theorem Rep.tup_sq {ds : List D} {v : V} (h : Rep g F (.tup ds) v) : ∃ p vs, v = .ref p ∧ SqT g.K F p vs ∧ Reps g F ds vs := by
  obtain ⟨p, vs, h1, h2, h3⟩ := Rep.tup_iff.mp h
  rcases h2 with h2 | ⟨rfl, h2⟩
  · exact ⟨p, vs, h1, SqT.of h2, h3⟩
  · exact ⟨p, [], h1, h2, h3⟩
theorem Rep.obj_iff {c : Cl} {fs : List Fd} {ds : List D} {v : V} : Rep g F (.obj c fs ds) v ↔ ∃ p dx vs, v = .ref p ∧ F p = some (.ins (g.ca c) dx (zipF fs vs)) ∧ fs.length = ds.length ∧ Reps g F ds vs := by simp only [Rep]
theorem Rep.dic_iff {ks : List Key} {ds : List D} {v : V} : Rep g F (.dic ks ds) v ↔ ∃ p od vs, v = .ref p ∧ F p = some (.frz od (.dK (zipK ks vs))) ∧ ks.length = ds.length ∧ Reps g F ds vs := by simp only [Rep]
theorem Rep.xcp_iff {a : Addr} {d : Option Addr} {fs : List Fd} {ds : List D} {v : V} : Rep g F (.xcp a d fs ds) v ↔ v = .ref a ∧ ∃ vs, XFs F d fs vs ∧ Reps g F ds vs := by simp only [Rep]
theorem Reps.nil : Reps g F [] [] := by simp only [Reps]
theorem Reps.cons {d : D} {v : V} {ds : List D} {vs : List V} (h : Rep g F d v) (r : Reps g F ds vs) : Reps g F (d :: ds) (v :: vs) := by
  simp only [Reps]
  exact ⟨h, r⟩
theorem Reps.nil_iff {vs : List V} : Reps g F [] vs ↔ vs = [] := by
  cases vs <;> simp only [Reps, reduceCtorEq]
theorem Reps.cons_iff {d : D} {ds : List D} {vs : List V} : Reps g F (d :: ds) vs ↔ ∃ v r, vs = v :: r ∧ Rep g F d v ∧ Reps g F ds r := by
  cases vs with
  | nil => simp [Reps]
  | cons v r =>
    simp only [Reps]
    constructor
    · intro h
      exact ⟨v, r, rfl, h.1, h.2⟩
    · rintro ⟨v1, r1, e, h1, h2⟩
      cases e
      exact ⟨h1, h2⟩
theorem Reps.length {ds : List D} : ∀ {vs : List V}, Reps g F ds vs → ds.length = vs.length := by
  induction ds with
  | nil =>
    intro vs h
    rw [Reps.nil_iff] at h
    rw [h]
    rfl
  | cons d ds ih =>
    intro vs h
    obtain ⟨v, r, rfl, _, h2⟩ := Reps.cons_iff.mp h
    rw [List.length_cons, List.length_cons, ih h2]
theorem Reps.get {ds : List D} : ∀ {vs : List V} {i : Nat} {d : D}, Reps g F ds vs → ds[i]? = some d → ∃ v, vs[i]? = some v ∧ Rep g F d v := by
  induction ds with
  | nil =>
    intro vs i d h e
    simp at e
  | cons d0 ds ih =>
    intro vs i d h e
    obtain ⟨v, r, rfl, h1, h2⟩ := Reps.cons_iff.mp h
    cases i with
    | zero =>
      simp at e
      subst e
      exact ⟨v, rfl, h1⟩
    | succ i =>
      simp at e
      obtain ⟨w, q1, q2⟩ := ih h2 e
      exact ⟨w, by simpa using q1, q2⟩
theorem Reps.append {ds es : List D} : ∀ {vs ws : List V}, Reps g F ds vs → Reps g F es ws → Reps g F (ds ++ es) (vs ++ ws) := by
  induction ds with
  | nil =>
    intro vs ws h h'
    rw [Reps.nil_iff] at h
    subst h
    exact h'
  | cons d ds ih =>
    intro vs ws h h'
    obtain ⟨v, r, rfl, h1, h2⟩ := Reps.cons_iff.mp h
    exact Reps.cons h1 (ih h2 h')
theorem Reps.take {ds : List D} : ∀ {vs : List V} (n : Nat), Reps g F ds vs → Reps g F (ds.take n) (vs.take n) := by
  induction ds with
  | nil =>
    intro vs n h
    rw [Reps.nil_iff] at h
    subst h
    simpa using Reps.nil
  | cons d ds ih =>
    intro vs n h
    obtain ⟨v, r, rfl, h1, h2⟩ := Reps.cons_iff.mp h
    cases n with
    | zero => exact Reps.nil
    | succ n => exact Reps.cons h1 (ih n h2)
theorem Reps.drop {ds : List D} : ∀ {vs : List V} (n : Nat), Reps g F ds vs → Reps g F (ds.drop n) (vs.drop n) := by
  induction ds with
  | nil =>
    intro vs n h
    rw [Reps.nil_iff] at h
    subst h
    simpa using Reps.nil
  | cons d ds ih =>
    intro vs n h
    obtain ⟨v, r, rfl, h1, h2⟩ := Reps.cons_iff.mp h
    cases n with
    | zero => exact Reps.cons h1 h2
    | succ n => exact ih n h2
theorem Reps.set {ds : List D} {d : D} {v : V} (hv : Rep g F d v) : ∀ {vs : List V} (n : Nat), Reps g F ds vs → Reps g F (ds.set n d) (vs.set n v) := by
  induction ds with
  | nil =>
    intro vs n h
    rw [Reps.nil_iff] at h
    subst h
    exact Reps.nil
  | cons d0 ds ih =>
    intro vs n h
    obtain ⟨w, r, rfl, h1, h2⟩ := Reps.cons_iff.mp h
    cases n with
    | zero => exact Reps.cons hv h2
    | succ n => exact Reps.cons h1 (ih n h2)
theorem Reps.reverse {ds : List D} : ∀ {vs : List V}, Reps g F ds vs → Reps g F ds.reverse vs.reverse := by
  induction ds with
  | nil =>
    intro vs h
    rw [Reps.nil_iff] at h
    subst h
    exact Reps.nil
  | cons d ds ih =>
    intro vs h
    obtain ⟨v, r, rfl, h1, h2⟩ := Reps.cons_iff.mp h
    rw [List.reverse_cons, List.reverse_cons]
    exact (ih h2).append (Reps.cons h1 Reps.nil)
theorem Reps.one {d : D} {v : V} (h : Rep g F d v) : Reps g F [d] [v] := Reps.cons h Reps.nil
theorem Reps.split {ds es : List D} : ∀ {vs : List V}, Reps g F (ds ++ es) vs → ∃ v1 v2, vs = v1 ++ v2 ∧ Reps g F ds v1 ∧ Reps g F es v2 := by
  induction ds with
  | nil =>
    intro vs h
    exact ⟨[], vs, rfl, Reps.nil, h⟩
  | cons d ds ih =>
    intro vs h
    obtain ⟨v, r, rfl, h1, h2⟩ := Reps.cons_iff.mp h
    obtain ⟨v1, v2, rfl, q1, q2⟩ := ih h2
    exact ⟨v :: v1, v2, rfl, Reps.cons h1 q1, q2⟩
theorem Reps.ints {ns : List Int} : ∀ {vs : List V}, Reps g F (ns.map D.int) vs ↔ vs = ns.map V.int := by
  induction ns with
  | nil => intro vs; exact Reps.nil_iff
  | cons n ns ih =>
    intro vs
    rw [List.map_cons, Reps.cons_iff]
    constructor
    · rintro ⟨v, r, rfl, h1, h2⟩
      rw [Rep.int_iff] at h1
      rw [ih] at h2
      rw [h1, h2]
      rfl
    · intro e
      subst e
      exact ⟨_, _, rfl, Rep.int_iff.mpr rfl, ih.mpr rfl⟩
theorem Reps.strs {ns : List Str} : ∀ {vs : List V}, Reps g F (ns.map D.str) vs ↔ vs = ns.map V.str := by
  induction ns with
  | nil => intro vs; exact Reps.nil_iff
  | cons n ns ih =>
    intro vs
    rw [List.map_cons, Reps.cons_iff]
    constructor
    · rintro ⟨v, r, rfl, h1, h2⟩
      rw [Rep.str_iff] at h1
      rw [ih] at h2
      rw [h1, h2]
      rfl
    · intro e
      subst e
      exact ⟨_, _, rfl, Rep.str_iff.mpr rfl, ih.mpr rfl⟩
theorem Reps.bls {ns : List Bool} : ∀ {vs : List V}, Reps g F (ns.map D.bl) vs ↔ vs = ns.map V.bl := by
  induction ns with
  | nil => intro vs; exact Reps.nil_iff
  | cons n ns ih =>
    intro vs
    rw [List.map_cons, Reps.cons_iff]
    constructor
    · rintro ⟨v, r, rfl, h1, h2⟩
      rw [Rep.bl_iff] at h1
      rw [ih] at h2
      rw [h1, h2]
      rfl
    · intro e
      subst e
      exact ⟨_, _, rfl, Rep.bl_iff.mpr rfl, ih.mpr rfl⟩
end

/-! ## fields -/
def getF (f : Fd) : List Fd → List D → Option D
  | h :: hs, d :: ds => if f = h then some d else getF f hs ds
  | _, _ => none
/-- a store into a field: the names, the values -/
def putFs (f : Fd) : List Fd → List Fd
  | [] => [f]
  | h :: hs => if f = h then h :: hs else h :: putFs f hs
def putDs (f : Fd) (d : D) : List Fd → List D → List D
  | h :: hs, e :: es => if f = h then d :: es else e :: putDs f d hs es
  | _, _ => [d]
theorem zipF_cons {h : Fd} {hs : List Fd} {v : V} {vs : List V} : zipF (h :: hs) (v :: vs) = (h.str, v) :: zipF hs vs := rfl
theorem getF_look {g : Gm} {F : Hp} {f : Fd} : ∀ {fs : List Fd} {ds : List D} {vs : List V} {d : D}, Reps g F ds vs → getF f fs ds = some d → ∃ v, (zipF fs vs).lookup f.str = some v ∧ Rep g F d v := by
  intro fs
  induction fs with
  | nil =>
    intro ds vs d h e
    cases ds <;> simp [getF] at e
  | cons h0 hs ih =>
    intro ds vs d h e
    cases ds with
    | nil => simp [getF] at e
    | cons d0 ds =>
      obtain ⟨v, r, rfl, h1, h2⟩ := Reps.cons_iff.mp h
      rw [zipF_cons, List.lookup_cons]
      by_cases q : f = h0
      · subst q
        simp [getF] at e
        subst e
        exact ⟨v, by simp, h1⟩
      · have q' : (f.str == h0.str) = false := by
          rw [beq_eq_false_iff_ne]
          exact fun z => q (Fd.inj z)
        rw [q']
        simp [getF, q] at e
        exact ih h2 e
theorem getF_none {f : Str} : ∀ {fs : List Fd} {vs : List V}, (∀ h ∈ fs, ¬ f = h.str) → (zipF fs vs).lookup f = none := by
  intro fs
  induction fs with
  | nil => intro vs _; rfl
  | cons h0 hs ih =>
    intro vs hn
    cases vs with
    | nil => rfl
    | cons v vs =>
      rw [zipF_cons, List.lookup_cons]
      have q' : (f == h0.str) = false := by
        rw [beq_eq_false_iff_ne]
        exact hn h0 List.mem_cons_self
      rw [q']
      exact ih fun h hh => hn h (List.mem_cons_of_mem _ hh)
theorem putF_zip {g : Gm} {F : Hp} {f : Fd} {d : D} {v : V} (hv : Rep g F d v) : ∀ {fs : List Fd} {ds : List D} {vs : List V}, fs.length = ds.length → Reps g F ds vs →
    ∃ ws, L2.putF f.str v (zipF fs vs) = zipF (putFs f fs) ws ∧ Reps g F (putDs f d fs ds) ws ∧ (putFs f fs).length = (putDs f d fs ds).length := by
  intro fs
  induction fs with
  | nil =>
    intro ds vs hl h
    cases ds with
    | nil =>
      rw [Reps.nil_iff] at h
      subst h
      exact ⟨[v], rfl, Reps.one hv, rfl⟩
    | cons d0 ds => simp at hl
  | cons h0 hs ih =>
    intro ds vs hl h
    cases ds with
    | nil => simp at hl
    | cons d0 ds =>
      obtain ⟨v0, r, rfl, h1, h2⟩ := Reps.cons_iff.mp h
      rw [zipF_cons]
      by_cases q : f = h0
      · subst q
        refine ⟨v :: r, ?_, ?_, ?_⟩
        · show (if f.str = f.str then _ else _) = _
          rw [if_pos rfl]
          simp [putFs, zipF_cons]
        · simp [putDs]
          exact Reps.cons hv h2
        · simp [putFs, putDs]
          simpa using hl
      · have hl' : hs.length = ds.length := by simpa using hl
        obtain ⟨ws, e1, e2, e3⟩ := ih hl' h2
        refine ⟨v0 :: ws, ?_, ?_, ?_⟩
        · show (if h0.str = f.str then _ else _) = _
          rw [if_neg (fun z => q (Fd.inj z).symm), e1]
          simp [putFs, q, zipF_cons]
        · simp [putDs, q]
          exact Reps.cons h1 e2
        · simp [putFs, putDs, q]
          exact e3

/-! ## owned cells -/
inductive Cell where
  | lst (ds : List D) | ins (c : Cl) (fs : List Fd) (ds : List D) | dic (ks : List Key) (ds : List D) | box
abbrev Sto := List (Addr × Cell)
def CRep (g : Gm) (F : Hp) : Cell → HO → Prop
  | .lst ds, .lst vs => Reps g F ds vs
  | .ins c fs ds, .ins C _ vfs => C = g.ca c ∧ fs.length = ds.length ∧ ∃ vs, vfs = zipF fs vs ∧ Reps g F ds vs
  | .dic ks ds, .dK kvs => ks.length = ds.length ∧ ∃ vs, kvs = zipK ks vs ∧ Reps g F ds vs
  | .box, .lst vs => ∃ (cs : List Int) (i a s : Int), Reps g F [.lst (cs.map D.int), .int i, .int a, .int s] vs ∧ cs.length ≤ 63 ∧ 0 ≤ i ∧ 0 ≤ a
  | _, _ => False
theorem CRep.mono {g : Gm} {F F' : Hp} (e : Same F F') : ∀ {c : Cell} {o : HO}, CRep g F c o → CRep g F' c o := by
  intro c o h
  cases c with
  | lst ds => cases o <;> first | exact Reps.mono e h | exact h.elim
  | ins c fs ds =>
    cases o with
    | ins C dx vfs =>
      obtain ⟨h1, h2, vs, h3, h4⟩ := h
      exact ⟨h1, h2, vs, h3, Reps.mono e h4⟩
    | _ => exact h.elim
  | dic ks ds =>
    cases o with
    | dK kvs =>
      obtain ⟨h2, vs, h3, h4⟩ := h
      exact ⟨h2, vs, h3, Reps.mono e h4⟩
    | _ => exact h.elim
  | box =>
    cases o with
    | lst vs =>
      obtain ⟨cs, i, a, s, h1, h2⟩ := h
      exact ⟨cs, i, a, s, Reps.mono e h1, h2⟩
    | _ => exact h.elim

def getC : Sto → Addr → Option Cell
  | [], _ => none
  | (b, c) :: r, a => if a = b then some c else getC r a
def setC : Sto → Addr → Cell → Sto
  | [], _, _ => []
  | (b, c0) :: r, a, c => if a = b then (b, c) :: r else (b, c0) :: setC r a c
def delC : Sto → Addr → Sto
  | [], _ => []
  | (b, c0) :: r, a => if a = b then r else (b, c0) :: delC r a
def freshC (O : Sto) (p : Addr) : Prop := ∀ q ∈ O, q.1 ≠ p

structure Wd (g : Gm) (F : Hp) (O : Sto) (H : Hp) : Prop where
  same : Same F H
  nd : (O.map (·.1)).Nodup
  cel : ∀ q ∈ O, F q.1 = none ∧ ∃ o, H q.1 = some o ∧ CRep g F q.2 o

theorem getC_mem {O : Sto} {a : Addr} {c : Cell} (h : getC O a = some c) : (a, c) ∈ O := by
  induction O with
  | nil => simp [getC] at h
  | cons q r ih =>
    obtain ⟨b, c0⟩ := q
    simp only [getC] at h
    by_cases e : a = b
    · subst e
      simp at h
      subst h
      exact List.mem_cons_self
    · rw [if_neg e] at h
      exact List.mem_cons_of_mem _ (ih h)
theorem same_upd {H : Hp} {p : Addr} {o : HO} (h : H p = none) : Same H (upd H p o) := fun a u e => by
  rw [upd_ne (ne_of_none e h)]
  exact e
theorem same_upd2 {F H : Hp} {p : Addr} {o : HO} (s : Same F H) (h : H p = none) : Same (upd F p o) (upd H p o) := fun a u e => by
  by_cases q : a = p
  · subst q
    rw [upd_same] at e ⊢
    exact e
  · rw [upd_ne q] at e ⊢
    exact s _ _ e
section
variable {g : Gm} {F : Hp} {O : Sto} {H : Hp}
theorem Wd.get (w : Wd g F O H) {a : Addr} {c : Cell} (h : getC O a = some c) : F a = none ∧ ∃ o, H a = some o ∧ CRep g F c o := w.cel _ (getC_mem h)
theorem Wd.fresh (w : Wd g F O H) {p : Addr} (h : H p = none) : freshC O p := fun q hq e => by
  obtain ⟨_, o, ho, _⟩ := w.cel q hq
  rw [e, h] at ho
  cases ho
/-- a new thing that stays as it is -/
theorem Wd.frozen (w : Wd g F O H) {p : Addr} {o : HO} (h : H p = none) : Wd g (upd F p o) O (upd H p o) := by
  have fp : F p = none := w.same.free h
  refine ⟨same_upd2 w.same h, w.nd, fun q hq => ?_⟩
  obtain ⟨h1, u, h2, h3⟩ := w.cel q hq
  have ne : q.1 ≠ p := ne_of_none h2 h
  exact ⟨by rw [upd_ne ne]; exact h1, u, by rw [upd_ne ne]; exact h2, h3.mono (same_upd fp)⟩
theorem Wd.fsame (w : Wd g F O H) {p : Addr} {o : HO} (h : H p = none) : Same F (upd F p o) := same_upd (w.same.free h)
/-- a new thing that is owned -/
theorem Wd.own (w : Wd g F O H) {p : Addr} {o : HO} {c : Cell} (h : H p = none) (hc : CRep g F c o) : Wd g F ((p, c) :: O) (upd H p o) := by
  refine ⟨w.same.trans (same_upd h), ?_, fun q hq => ?_⟩
  · rw [List.map_cons, List.nodup_cons]
    refine ⟨fun hm => ?_, w.nd⟩
    obtain ⟨q, hq, e⟩ := List.mem_map.mp hm
    exact w.fresh h q hq e
  · rcases List.mem_cons.mp hq with e | hq
    · subst e
      exact ⟨w.same.free h, o, upd_same, hc⟩
    · obtain ⟨h1, u, h2, h3⟩ := w.cel q hq
      exact ⟨h1, u, by rw [upd_ne (ne_of_none h2 h)]; exact h2, h3⟩
theorem setC_keys (O : Sto) (a : Addr) (c : Cell) : (setC O a c).map (·.1) = O.map (·.1) := by
  induction O with
  | nil => rfl
  | cons q r ih =>
    obtain ⟨b, c0⟩ := q
    simp only [setC]
    by_cases e : a = b
    · rw [if_pos e]
      rfl
    · rw [if_neg e]
      simp [ih]
theorem setC_mem : ∀ {O : Sto} {a : Addr} {c : Cell} {q : Addr × Cell}, (O.map (·.1)).Nodup → q ∈ setC O a c → q = (a, c) ∨ (q ∈ O ∧ q.1 ≠ a) := by
  intro O
  induction O with
  | nil => intro a c q _ h; simp [setC] at h
  | cons p r ih =>
    obtain ⟨b, c0⟩ := p
    intro a c q nd h
    rw [List.map_cons, List.nodup_cons] at nd
    simp only [setC] at h
    by_cases e : a = b
    · rw [if_pos e] at h
      rcases List.mem_cons.mp h with z | z
      · rw [e]
        exact .inl z
      · refine .inr ⟨List.mem_cons_of_mem _ z, fun y => nd.1 ?_⟩
        show b ∈ _
        rw [← e, ← y]
        exact List.mem_map_of_mem z
    · rw [if_neg e] at h
      rcases List.mem_cons.mp h with z | z
      · refine .inr ⟨by rw [z]; exact List.mem_cons_self, ?_⟩
        rw [z]
        exact fun y => e y.symm
      · rcases ih nd.2 z with y | ⟨y1, y2⟩
        · exact .inl y
        · exact .inr ⟨List.mem_cons_of_mem _ y1, y2⟩
/-- an owned thing changes -/
theorem Wd.set (w : Wd g F O H) {a : Addr} {c c' : Cell} {o : HO} (h : getC O a = some c) (hc : CRep g F c' o) : Wd g F (setC O a c') (upd H a o) := by
  obtain ⟨fa, _⟩ := w.get h
  refine ⟨fun b u e => ?_, by rw [setC_keys]; exact w.nd, fun q hq => ?_⟩
  · rw [upd_ne (ne_of_none e fa)]
    exact w.same _ _ e
  · rcases setC_mem w.nd hq with e | ⟨e1, e2⟩
    · subst e
      exact ⟨fa, o, upd_same, hc⟩
    · obtain ⟨h1, u, h2, h3⟩ := w.cel q e1
      exact ⟨h1, u, by rw [upd_ne e2]; exact h2, h3⟩
theorem Wd.sub (w : Wd g F O H) {O' : Sto} (s : O'.Sublist O) : Wd g F O' H :=
  ⟨w.same, (s.map _).nodup w.nd, fun q hq => w.cel q (s.subset hq)⟩
theorem delC_sub (O : Sto) (a : Addr) : (delC O a).Sublist O := by
  induction O with
  | nil => exact .slnil
  | cons p r ih =>
    obtain ⟨b, c0⟩ := p
    simp only [delC]
    by_cases e : a = b
    · rw [if_pos e]
      exact List.sublist_cons_self _ _
    · rw [if_neg e]
      exact ih.cons_cons _
theorem delC_ne : ∀ {O : Sto} {a : Addr} {q : Addr × Cell}, (O.map (·.1)).Nodup → q ∈ delC O a → q.1 ≠ a := by
  intro O
  induction O with
  | nil => intro a q _ h; simp [delC] at h
  | cons p r ih =>
    obtain ⟨b, c0⟩ := p
    intro a q nd h
    rw [List.map_cons, List.nodup_cons] at nd
    simp only [delC] at h
    by_cases e : a = b
    · rw [if_pos e] at h
      intro y
      refine nd.1 ?_
      show b ∈ _
      rw [← e, ← y]
      exact List.mem_map_of_mem h
    · rw [if_neg e] at h
      rcases List.mem_cons.mp h with z | z
      · rw [z]
        exact fun y => e y.symm
      · exact ih nd.2 z
/-- an owned thing is let go: from now on it stays as it is -/
theorem Wd.freeze (w : Wd g F O H) {a : Addr} {c : Cell} (h : getC O a = some c) : ∃ o, H a = some o ∧ CRep g F c o ∧ Same F (upd F a o) ∧ Wd g (upd F a o) (delC O a) H := by
  obtain ⟨fa, o, ho, hc⟩ := w.get h
  refine ⟨o, ho, hc, same_upd fa, fun b u e => ?_, (w.sub (delC_sub O a)).nd, fun q hq => ?_⟩
  · by_cases z : b = a
    · subst z
      rw [upd_same] at e
      cases e
      exact ho
    · rw [upd_ne z] at e
      exact w.same _ _ e
  · obtain ⟨h1, u, h2, h3⟩ := w.cel q ((delC_sub O a).subset hq)
    have ne : q.1 ≠ a := delC_ne w.nd hq
    exact ⟨by rw [upd_ne ne]; exact h1, u, h2, h3.mono (same_upd fa)⟩
/-- an owned dict is let go: from now on it stays as it is, locked -/
theorem Wd.freezeL (w : Wd g F O H) {a : Addr} {ks : List Key} {ds : List D} (h : getC O a = some (.dic ks ds)) : ∃ vs, H a = some (.dK (zipK ks vs)) ∧ ∀ od, Same F (upd F a (.frz od (.dK (zipK ks vs)))) ∧ Wd g (upd F a (.frz od (.dK (zipK ks vs)))) (delC O a) (upd H a (.frz od (.dK (zipK ks vs)))) ∧ Rep g (upd F a (.frz od (.dK (zipK ks vs)))) (.dic ks ds) (.ref a) := by
  obtain ⟨fa, o, ho, hc⟩ := w.get h
  cases o with
  | dK kvs =>
    obtain ⟨h2, vs, rfl, h4⟩ := hc
    refine ⟨vs, ho, fun od => ⟨same_upd fa, ⟨fun b u e => ?_, (w.sub (delC_sub O a)).nd, fun q hq => ?_⟩, Rep.dic_iff.mpr ⟨a, od, vs, rfl, upd_same, h2, h4.mono (same_upd fa)⟩⟩⟩
    · by_cases z : b = a
      · subst z
        rw [upd_same] at e ⊢
        exact e
      · rw [upd_ne z] at e ⊢
        exact w.same _ _ e
    · obtain ⟨h1, u, h2, h3⟩ := w.cel q ((delC_sub O a).subset hq)
      have ne : q.1 ≠ a := delC_ne w.nd hq
      exact ⟨by rw [upd_ne ne]; exact h1, u, by rw [upd_ne ne]; exact h2, h3.mono (same_upd fa)⟩
  | _ => exact hc.elim
end
end G

set_option Elab.async false
set_option linter.all false
set_option maxRecDepth 100000
set_option maxHeartbeats 4000000
namespace G
open PySem L2

/-! ## transformers over plain data -/
abbrev Sl := List (Option D)
abbrev KD := D → Sto → Prop
abbrev KX := Exn → Sto → Prop
abbrev DE := Sl → Sto → KD → KX → Prop
abbrev DT := Sl → Sto → (Bool → Sto → Prop) → KX → Prop
abbrev DA := Sl → Sto → (List D → Sto → Prop) → KX → Prop
structure DEnds where
  nx : Sl → Sto → Prop
  rt : KD
  bk : Sl → Sto → Prop := fun _ _ => False
  ct : Sl → Sto → Prop := fun _ _ => False
  xc : Exn → Sl → Sto → Prop := fun _ _ _ => False
abbrev DS := DEnds → Sl → Sto → Prop

def SRel (g : Gm) (F : Hp) (σ : St) (Δ : Sl) : Prop := σ.length = Δ.length ∧ ∀ (i : Nat) (d : D), Δ[i]? = some (some d) → ∃ v, σ[i]? = some (some v) ∧ Rep g F d v
theorem SRel.mono {g : Gm} {F F' : Hp} {σ : St} {Δ : Sl} (h : SRel g F σ Δ) (e : Same F F') : SRel g F' σ Δ := ⟨h.1, fun i d q => by
  obtain ⟨v, h1, h2⟩ := h.2 i d q
  exact ⟨v, h1, h2.mono e⟩⟩
theorem SRel.set {g : Gm} {F : Hp} {σ : St} {Δ : Sl} (h : SRel g F σ Δ) {d : D} {v : V} (hv : Rep g F d v) (i : Nat) : SRel g F (σ.set i (some v)) (Δ.set i (some d)) := by
  refine ⟨by rw [List.length_set, List.length_set, h.1], fun j e q => ?_⟩
  rw [List.getElem?_set] at q ⊢
  by_cases z : i = j
  · subst z
    rw [if_pos rfl] at q ⊢
    by_cases y : i < Δ.length
    · rw [if_pos y] at q
      rw [if_pos (by rw [h.1]; exact y)]
      cases q
      exact ⟨v, rfl, hv⟩
    · rw [if_neg y] at q
      cases q
  · rw [if_neg z] at q ⊢
    exact h.2 j e q

def RelX (g : Gm) (F : Hp) (cls : Value) (dd : Option Addr) (x : Exn) : Prop := cls = .ref (g.ea x.c) ∧ ∃ vs, XFs F dd x.fs vs ∧ Reps g F x.ds vs
theorem RelX.mono {g : Gm} {F F' : Hp} {cls : Value} {dd : Option Addr} {x : Exn} (h : RelX g F cls dd x) (e : Same F F') : RelX g F' cls dd x := by
  obtain ⟨h1, vs, h2, h3⟩ := h
  exact ⟨h1, vs, h2.mono e, h3.mono e⟩

/-- what is wanted of an error, over plain data and over the heap -/
def XOk (g : Gm) (F : Hp) (W : WX) (σ : St) (E : KX) : Prop := ∀ x O cls dd F' H, E x O → Same F F' → Wd g F' O H → RelX g F' cls dd x → W cls dd σ H
theorem XOk.mono {g : Gm} {F F' : Hp} {W : WX} {σ : St} {E : KX} (h : XOk g F W σ E) (e : Same F F') : XOk g F' W σ E := fun x O cls dd F1 H q s w r => h x O cls dd F1 H q (e.trans s) w r
def VOk (g : Gm) (F : Hp) (P : KD) (Q : VK) : Prop := ∀ d O v F' H, P d O → Same F F' → Wd g F' O H → Rep g F' d v → Q v H
theorem VOk.mono {g : Gm} {F F' : Hp} {P : KD} {Q : VK} (h : VOk g F P Q) (e : Same F F') : VOk g F' P Q := fun d O v F1 H q s w r => h d O v F1 H q (e.trans s) w r
def BOk (g : Gm) (F : Hp) (P : Bool → Sto → Prop) (Q : Bool → Hp → Prop) : Prop := ∀ b O F' H, P b O → Same F F' → Wd g F' O H → Q b H
theorem BOk.mono {g : Gm} {F F' : Hp} {P : Bool → Sto → Prop} {Q : Bool → Hp → Prop} (h : BOk g F P Q) (e : Same F F') : BOk g F' P Q := fun d O F1 H q s w => h d O F1 H q (e.trans s) w
def AOk (g : Gm) (F : Hp) (P : List D → Sto → Prop) (Q : List V → Hp → Prop) : Prop := ∀ ds O vs F' H, P ds O → Same F F' → Wd g F' O H → Reps g F' ds vs → Q vs H
theorem AOk.mono {g : Gm} {F F' : Hp} {P : List D → Sto → Prop} {Q : List V → Hp → Prop} (h : AOk g F P Q) (e : Same F F') : AOk g F' P Q := fun d O v F1 H q s w r => h d O v F1 H q (e.trans s) w r

def le (g : Gm) (W : WX) (T : DE) : TE := fun σ H Q => ∃ Δ O P E F, T Δ O P E ∧ SRel g F σ Δ ∧ Wd g F O H ∧ VOk g F P Q ∧ XOk g F W σ E
def lt (g : Gm) (W : WX) (T : DT) : TT := fun σ H Q => ∃ Δ O P E F, T Δ O P E ∧ SRel g F σ Δ ∧ Wd g F O H ∧ BOk g F P Q ∧ XOk g F W σ E
def la (g : Gm) (W : WX) (T : DA) : TA := fun σ H Q => ∃ Δ O P E F, T Δ O P E ∧ SRel g F σ Δ ∧ Wd g F O H ∧ AOk g F P Q ∧ XOk g F W σ E
structure EOk (g : Gm) (F : Hp) (W : WX) (D : DEnds) (E : Ends) : Prop where
  nx : ∀ Δ O F' σ H, D.nx Δ O → Same F F' → SRel g F' σ Δ → Wd g F' O H → E.nx σ H
  rt : VOk g F D.rt E.rt
  bk : ∀ Δ O F' σ H, D.bk Δ O → Same F F' → SRel g F' σ Δ → Wd g F' O H → E.bk σ H
  ct : ∀ Δ O F' σ H, D.ct Δ O → Same F F' → SRel g F' σ Δ → Wd g F' O H → E.ct σ H
  xc : ∀ x Δ O cls dd F' σ H, D.xc x Δ O → Same F F' → SRel g F' σ Δ → Wd g F' O H → RelX g F' cls dd x → W cls dd σ H
theorem EOk.mono {g : Gm} {F F' : Hp} {W : WX} {D : DEnds} {E : Ends} (h : EOk g F W D E) (e : Same F F') : EOk g F' W D E :=
  ⟨fun Δ O F1 σ H q s => h.nx Δ O F1 σ H q (e.trans s), h.rt.mono e, fun Δ O F1 σ H q s => h.bk Δ O F1 σ H q (e.trans s), fun Δ O F1 σ H q s => h.ct Δ O F1 σ H q (e.trans s), fun x Δ O c d F1 σ H q s => h.xc x Δ O c d F1 σ H q (e.trans s)⟩
def ls (g : Gm) (W : WX) (T : DS) : TS := fun E σ H => ∃ D Δ O F, T D Δ O ∧ SRel g F σ Δ ∧ Wd g F O H ∧ EOk g F W D E

theorem pe_imp {X : Cx} {e : Expr} {t t' : TE} (h : PE X e t) (k : ∀ σ H Q, t' σ H Q → t σ H Q) : PE X e t' := ⟨fun pins s σ H Q I q => h.run pins s σ H Q I (k _ _ _ q)⟩
theorem pt_imp {X : Cx} {e : Expr} {t t' : TT} (h : PT X e t) (k : ∀ σ H Q, t' σ H Q → t σ H Q) : PT X e t' := ⟨fun pins s σ H Q I q => h.run pins s σ H Q I (k _ _ _ q)⟩
theorem pw_imp {X : Cx} {e : Expr} {t t' : TT} (h : PW X e t) (k : ∀ σ H Q, t' σ H Q → t σ H Q) : PW X e t' := ⟨fun w pins s σ H Q I q => h.run w pins s σ H Q I (k _ _ _ q)⟩
theorem pa_imp {X : Cx} {e : List Expr} {t t' : TA} (h : PA X e t) (k : ∀ σ H Q, t' σ H Q → t σ H Q) : PA X e t' := ⟨fun pos pins s σ H Q I q => h.run pos pins s σ H Q I (k _ _ _ q)⟩
theorem ps_imp {X : Cx} {e : Stmt} {t t' : TS} (h : PS X e t) (k : ∀ D σ H, t' D σ H → t D σ H) : PS X e t' := ⟨fun pins s σ H D I q => h.run pins s σ H D I (k _ _ _ q)⟩
theorem pss_imp {X : Cx} {e : List Stmt} {t t' : TS} (h : PSs X e t) (k : ∀ D σ H, t' D σ H → t D σ H) : PSs X e t' := ⟨fun pins s σ H D I q => h.run pins s σ H D I (k _ _ _ q)⟩

section
variable {g : Gm} {W : WX} {σ : St} {H : Hp} {Δ : Sl} {O : Sto} {F : Hp}
/-- go on behind an expression -/
theorem le_bind {T : DE} {P : KD} {E : KX} {Q : VK} (hT : T Δ O P E) (sr : SRel g F σ Δ) (w : Wd g F O H) (x : XOk g F W σ E)
    (k : ∀ d O1 v F1 H1, P d O1 → Same F F1 → SRel g F1 σ Δ → Wd g F1 O1 H1 → Rep g F1 d v → XOk g F1 W σ E → Q v H1) : le g W T σ H Q :=
  ⟨Δ, O, P, E, F, hT, sr, w, fun d O1 v F1 H1 hp s w1 r => k d O1 v F1 H1 hp s (sr.mono s) w1 r (x.mono s), x⟩
theorem lt_bind {T : DT} {P : Bool → Sto → Prop} {E : KX} {Q : Bool → Hp → Prop} (hT : T Δ O P E) (sr : SRel g F σ Δ) (w : Wd g F O H) (x : XOk g F W σ E)
    (k : ∀ b O1 F1 H1, P b O1 → Same F F1 → SRel g F1 σ Δ → Wd g F1 O1 H1 → XOk g F1 W σ E → Q b H1) : lt g W T σ H Q :=
  ⟨Δ, O, P, E, F, hT, sr, w, fun d O1 F1 H1 hp s w1 => k d O1 F1 H1 hp s (sr.mono s) w1 (x.mono s), x⟩
theorem la_bind {T : DA} {P : List D → Sto → Prop} {E : KX} {Q : List V → Hp → Prop} (hT : T Δ O P E) (sr : SRel g F σ Δ) (w : Wd g F O H) (x : XOk g F W σ E)
    (k : ∀ ds O1 vs F1 H1, P ds O1 → Same F F1 → SRel g F1 σ Δ → Wd g F1 O1 H1 → Reps g F1 ds vs → XOk g F1 W σ E → Q vs H1) : la g W T σ H Q :=
  ⟨Δ, O, P, E, F, hT, sr, w, fun d O1 v F1 H1 hp s w1 r => k d O1 v F1 H1 hp s (sr.mono s) w1 r (x.mono s), x⟩
theorem VOk.now {P : KD} {Q : VK} (h : VOk g F P Q) {d : D} {v : V} (hp : P d O) (w : Wd g F O H) (r : Rep g F d v) : Q v H := h d O v F H hp (Same.refl F) w r
theorem BOk.now {P : Bool → Sto → Prop} {Q : Bool → Hp → Prop} (h : BOk g F P Q) {b : Bool} (hp : P b O) (w : Wd g F O H) : Q b H := h b O F H hp (Same.refl F) w
theorem AOk.now {P : List D → Sto → Prop} {Q : List V → Hp → Prop} (h : AOk g F P Q) {ds : List D} {vs : List V} (hp : P ds O) (w : Wd g F O H) (r : Reps g F ds vs) : Q vs H := h ds O vs F H hp (Same.refl F) w r
end

section
variable {g : Gm} {X : Cx} {W : WX} {pos : Pos} {a b c : Expr}

/-! ### names, constants -/
def dVar (i : Nat) : DE := fun Δ O P _ => match Δ[i]? with | some (some d) => P d O | _ => False
theorem q_var (i : Nat) {x : Str} (hN : X.N[i]? = some x := by rfl) (hv : Vis X.env.scope x := by first | exact Or.inl rfl | exact Or.inr (Or.inl rfl) | exact Or.inr (Or.inr rfl)) (hd : (x == ("__debug__" : Str)) = false := by decide)
    (hcd : (x == ("__classdict__" : Str)) = false := by decide) : PE X (.Name x pos) (le g W (dVar i)) := by
  refine pe_imp (pe_var (i := i) hN hv hd hcd) fun σ H Q h => ?_
  obtain ⟨Δ, O, P, E, F, hT, sr, w, hv, hx⟩ := h
  unfold dVar at hT
  split at hT
  · rename_i d e
    obtain ⟨v, e1, r⟩ := sr.2 i d e
    exact ⟨v, e1, hv.now hT w r⟩
  · exact hT.elim
def dC (d : D) : DE := fun _ O P _ => P d O
theorem q_int {i : Int} {j : Nat} : PE X (.Constant (.int i) j pos) (le g W (dC (.int i))) := pe_imp pe_int fun σ H Q ⟨Δ, O, P, E, F, hT, sr, w, hv, hx⟩ => hv.now (d := .int i) hT w (Rep.int_iff.mpr rfl)
theorem q_bl {i : Bool} {j : Nat} : PE X (.Constant (.bool i) j pos) (le g W (dC (.bl i))) := pe_imp pe_bl fun σ H Q ⟨Δ, O, P, E, F, hT, sr, w, hv, hx⟩ => hv.now (d := .bl i) hT w (Rep.bl_iff.mpr rfl)
theorem q_str {x : Str} {j : Nat} : PE X (.Constant (.str x) j pos) (le g W (dC (.str x))) := pe_imp pe_str fun σ H Q ⟨Δ, O, P, E, F, hT, sr, w, hv, hx⟩ => hv.now (d := .str x) hT w (Rep.str_iff.mpr rfl)

/-! ### operators -/
abbrev B2 := D → D → Sto → KD → Prop
def dOp (f : B2) (Ta Tb : DE) : DE := fun Δ O P E => Ta Δ O (fun x O1 => Tb Δ O1 (fun y O2 => f x y O2 P) E) E
def Lk2 (g : Gm) (r : R2) (f : B2) : Prop := ∀ x y O P F H vx vy Q, f x y O P → Rep g F x vx → Rep g F y vy → Wd g F O H → VOk g F P Q → r vx vy H Q
theorem top_of {r : R2} {f : B2} {Ta Tb : DE} (lk : Lk2 g r f) {σ : St} {H : Hp} {Q : VK} (h : le g W (dOp f Ta Tb) σ H Q) : tOp r (le g W Ta) (le g W Tb) σ H Q := by
  obtain ⟨Δ, O, P, E, F, hT, sr, w, hv, hx⟩ := h
  refine le_bind hT sr w hx fun x O1 vx F1 H1 hT1 s1 sr1 w1 rx hx1 => le_bind hT1 sr1 w1 hx1 fun y O2 vy F2 H2 hT2 s2 sr2 w2 ry hx2 => ?_
  exact lk x y O2 P F2 H2 vx vy Q hT2 (rx.mono s2) ry w2 (hv.mono (s1.trans s2))
theorem q_op {op : Operator} {r : R2} {f : B2} {Ta Tb : DE} (ho : OpR X (binaryOp op) r) (lk : Lk2 g r f) (ha : PE X a (le g W Ta)) (hb : PE X b (le g W Tb)) : PE X (.BinOp a op b pos) (le g W (dOp f Ta Tb)) :=
  pe_imp (pe_op ho ha hb) fun σ H Q h => top_of lk h
theorem q_cmp {op : CmpOp} {r : R2} {f : B2} {Ta Tb : DE} (ho : OpR X (compareOp op) r) (lk : Lk2 g r f) (ha : PE X a (le g W Ta)) (hb : PE X b (le g W Tb)) (hm : behindInMarks op b = false) : PE X (.Compare a [op] [b] pos) (le g W (dOp f Ta Tb)) :=
  pe_imp (pe_cmpR ho ha hb hm) fun σ H Q h => top_of lk h
def dTe (T : DE) : DT := fun Δ O P E => T Δ O (fun d O1 => match d with | .bl k => P k O1 | _ => False) E
theorem test_of {T : DE} {σ : St} {H : Hp} {Q : Bool → Hp → Prop} (h : lt g W (dTe T) σ H Q) : le g W T σ H fun x H' => ∃ k, x = .bl k ∧ Q k H' := by
  obtain ⟨Δ, O, P, E, F, hT, sr, w, hv, hx⟩ := h
  refine le_bind hT sr w hx fun x O1 vx F1 H1 hT1 s1 sr1 w1 rx hx1 => ?_
  cases x with
  | bl k => exact ⟨k, Rep.bl_iff.mp rx, (hv.mono s1).now hT1 w1⟩
  | _ => exact hT1.elim
theorem qt_cmp {op : CmpOp} {r : R2} {f : B2} {Ta Tb : DE} (ho : OpR X (compareOp op) r) (lk : Lk2 g r f) (ha : PE X a (le g W Ta)) (hb : PE X b (le g W Tb)) (hm : behindInMarks op b = false) : PT X (.Compare a [op] [b] pos) (lt g W (dTe (dOp f Ta Tb))) :=
  pt_imp (pt_cmpR ho ha hb hm) fun σ H Q h => top_of lk (test_of h)
theorem qt_val {T : DE} (h : PE X a (le g W T)) (he : ∀ whole, isTrue a X.env whole = (do let v ← whole; standAt a.pos; holding [v] (truthy v)) := by intro _; rfl) : PT X a (lt g W (dTe T)) :=
  pt_imp (pt_val h he) fun σ H Q h => test_of h
/-- a < b < c -/
def dChain (f f' : B2) (Ta Tb Tc : DE) : DE := fun Δ O P E => Ta Δ O (fun x O1 => Tb Δ O1 (fun y O2 => f x y O2 (fun z O3 => match z with | .bl k => (if k = true then Tc Δ O3 (fun t O4 => f' y t O4 P) E else P (.bl false) O3) | _ => False)) E) E
theorem tchain_of {r r' : R2} {f f' : B2} {Ta Tb Tc : DE} (lk : Lk2 g r f) (lk' : Lk2 g r' f') {σ : St} {H : Hp} {Q : VK} (h : le g W (dChain f f' Ta Tb Tc) σ H Q) : tChain r r' (le g W Ta) (le g W Tb) (le g W Tc) σ H Q := by
  obtain ⟨Δ, O, P, E, F, hT, sr, w, hv, hx⟩ := h
  refine le_bind hT sr w hx fun x O1 vx F1 H1 hT1 s1 sr1 w1 rx hx1 => le_bind hT1 sr1 w1 hx1 fun y O2 vy F2 H2 hT2 s2 sr2 w2 ry hx2 => ?_
  refine lk x y O2 _ F2 H2 vx vy _ hT2 (rx.mono s2) ry w2 fun z O3 vz F3 H3 hT3 s3 w3 rz => ?_
  cases z with
  | bl k =>
    refine ⟨k, Rep.bl_iff.mp rz, ?_⟩
    cases k with
    | true =>
      rw [if_pos rfl]
      have hT3 : Tc Δ O3 (fun t O4 => f' y t O4 P) E := by simpa using hT3
      refine le_bind hT3 (sr2.mono s3) w3 (hx2.mono s3) fun t O4 vt F4 H4 hT4 s4 sr4 w4 rt hx4 => ?_
      exact lk' y t O4 P F4 H4 vy vt Q hT4 (ry.mono (s3.trans s4)) rt w4 (hv.mono (s1.trans (s2.trans (s3.trans s4))))
    | false =>
      rw [if_neg Bool.false_ne_true]
      have hT3 : P (.bl false) O3 := by simpa using hT3
      exact hv _ _ _ _ _ hT3 (s1.trans (s2.trans s3)) w3 (Rep.bl_iff.mpr rfl)
  | _ => exact hT3.elim
theorem qt_chain {op op' : CmpOp} {r r' : R2} {f f' : B2} {Ta Tb Tc : DE} (ho : OpR X (compareOp op) r) (ho' : OpR X (compareOp op') r') (lk : Lk2 g r f) (lk' : Lk2 g r' f') (ha : PE X a (le g W Ta)) (hb : PE X b (le g W Tb)) (hc : PE X c (le g W Tc))
    (hm : lastMarks [op, op'] [b, c] = false := by with_unfolding_all rfl) : PT X (.Compare a [op, op'] [b, c] pos) (lt g W (dTe (dChain f f' Ta Tb Tc))) :=
  pt_imp (pt_chain ho ho' ha hb hc hm) fun σ H Q h => tchain_of lk lk' (test_of h)

/-! ### truth, and, or, not -/
def truD (O : Sto) : D → Option Bool
  | .non => some false
  | .bl b => some b
  | .int i => some (i != 0)
  | .str x => if x.length ≤ sizeLine then some ((x.length : Int) != 0) else none
  | .lst ds => some (!ds.isEmpty)
  | .tup ds => some (!ds.isEmpty)
  | .ptr a => match getC O a with
    | some (.lst ds) => some (!ds.isEmpty)
    | some (.dic ks _) => some (!ks.isEmpty)
    | _ => none
  | _ => none
theorem empty_of {F : Hp} {ds : List D} {vs : List V} (h : Reps g F ds vs) : ds.isEmpty = vs.isEmpty := by
  have e := h.length
  cases ds <;> cases vs <;> simp_all
theorem empty_zipK {F : Hp} {ks : List Key} {ds : List D} {vs : List V} (h : Reps g F ds vs) (hl : ks.length = ds.length) : ks.isEmpty = (zipK ks vs).isEmpty := by
  have e := h.length
  cases ks <;> cases vs <;> simp_all [zipK]
theorem tru_of {F : Hp} {O : Sto} {H : Hp} {d : D} {v : V} {k : Bool} (h : truD O d = some k) (r : Rep g F d v) (w : Wd g F O H) : TruV g.K v H k := by
  cases d with
  | non => rw [Rep.non_iff.mp r]; exact (Option.some.inj h).symm
  | bl b => rw [Rep.bl_iff.mp r]; exact (Option.some.inj h).symm
  | int b => rw [Rep.int_iff.mp r]; exact (Option.some.inj h).symm
  | str x =>
    rw [Rep.str_iff.mp r]
    simp only [truD] at h
    split at h
    · rename_i hl
      exact ⟨hl, (Option.some.inj h).symm⟩
    · cases h
  | lst ds =>
    obtain ⟨p, vs, rfl, h1, h2⟩ := Rep.lst_iff.mp r
    simp only [truD] at h
    exact .inl ⟨vs, SqL.of (w.same _ _ h1), by rw [← empty_of h2]; exact (Option.some.inj h).symm⟩
  | tup ds =>
    obtain ⟨p, vs, rfl, h1, h2⟩ := Rep.tup_sq r
    simp only [truD] at h
    exact .inr (.inl ⟨vs, sqt_same w.same h1, by rw [← empty_of h2]; exact (Option.some.inj h).symm⟩)
  | ptr a =>
    rw [Rep.ptr_iff] at r
    subst r
    simp only [truD] at h
    split at h
    · rename_i ds e
      obtain ⟨_, o, h1, h2⟩ := w.get e
      cases o with
      | lst vs =>
        exact .inl ⟨vs, SqL.of h1, by rw [← empty_of (show Reps g F ds vs from h2)]; exact (Option.some.inj h).symm⟩
      | _ => exact h2.elim
    · rename_i ks ds e
      obtain ⟨_, o, h1, h2⟩ := w.get e
      cases o with
      | dK kvs =>
        obtain ⟨h3, vs, rfl, h4⟩ := h2
        exact .inr (.inr ⟨_, h1, by rw [← empty_zipK h4 h3]; exact (Option.some.inj h).symm⟩)
      | _ => exact h2.elim
    · cases h
  | _ => simp [truD] at h
end
end G

set_option Elab.async false
set_option linter.all false
set_option maxRecDepth 100000
set_option maxHeartbeats 4000000
namespace G
open PySem L2
section
variable {g : Gm} {X : Cx} {W : WX} {pos : Pos} {a b c : Expr}
/-! ### tests -/
def dTru (T : DE) : DT := fun Δ O P E => T Δ O (fun d O1 => match truD O1 d with | some k => P k O1 | none => False) E
theorem qt_tru {T : DE} (h : PE X a (le g W T)) (hK : X.K = g.K := by rfl) (he : ∀ whole, isTrue a X.env whole = (do let v ← whole; standAt a.pos; holding [v] (truthy v)) := by intro _; rfl) : PT X a (lt g W (dTru T)) := by
  refine pt_imp (pt_truth h he) fun σ H Q h => ?_
  obtain ⟨Δ, O, P, E, F, hT, sr, w, hv, hx⟩ := h
  refine le_bind hT sr w hx fun x O1 vx F1 H1 hT1 s1 sr1 w1 rx hx1 => ?_
  split at hT1
  · rename_i k e
    exact ⟨k, by rw [hK]; exact tru_of e rx w1, (hv.mono s1).now hT1 w1⟩
  · exact hT1.elim
def dAnd (t u : DT) : DT := fun Δ O P E => t Δ O (fun k O1 => if k = true then u Δ O1 P E else P false O1) E
def dOr (t u : DT) : DT := fun Δ O P E => t Δ O (fun k O1 => if k = true then P true O1 else u Δ O1 P E) E
def dNot (t : DT) : DT := fun Δ O P E => t Δ O (fun k O1 => P (!k) O1) E
variable {tA tB : DT} {rest : List Expr} {Ta Tb : DE}
theorem qw_and1 (ha : PT X a (lt g W tA)) : PW X (.BoolOp .And [a] pos) (lt g W tA) := pw_and1 ha
theorem qw_or1 (ha : PT X a (lt g W tA)) : PW X (.BoolOp .Or [a] pos) (lt g W tA) := pw_or1 ha
theorem qw_and (ha : PT X a (lt g W tA)) (hb : PW X (.BoolOp .And (b :: rest) pos) (lt g W tB)) : PW X (.BoolOp .And (a :: b :: rest) pos) (lt g W (dAnd tA tB)) := by
  refine pw_imp (pw_and ha hb) fun σ H Q h => ?_
  obtain ⟨Δ, O, P, E, F, hT, sr, w, hv, hx⟩ := h
  refine lt_bind hT sr w hx fun k O1 F1 H1 hT1 s1 sr1 w1 hx1 => ?_
  cases k with
  | true =>
    rw [if_pos rfl] at hT1 ⊢
    exact ⟨Δ, O1, P, E, F1, hT1, sr1, w1, hv.mono s1, hx1⟩
  | false =>
    rw [if_neg Bool.false_ne_true] at hT1 ⊢
    exact (hv.mono s1).now hT1 w1
theorem qw_or (ha : PT X a (lt g W tA)) (hb : PW X (.BoolOp .Or (b :: rest) pos) (lt g W tB)) : PW X (.BoolOp .Or (a :: b :: rest) pos) (lt g W (dOr tA tB)) := by
  refine pw_imp (pw_or ha hb) fun σ H Q h => ?_
  obtain ⟨Δ, O, P, E, F, hT, sr, w, hv, hx⟩ := h
  refine lt_bind hT sr w hx fun k O1 F1 H1 hT1 s1 sr1 w1 hx1 => ?_
  cases k with
  | true =>
    rw [if_pos rfl] at hT1 ⊢
    exact (hv.mono s1).now hT1 w1
  | false =>
    rw [if_neg Bool.false_ne_true] at hT1 ⊢
    exact ⟨Δ, O1, P, E, F1, hT1, sr1, w1, hv.mono s1, hx1⟩
theorem qt_not (ha : PT X a (lt g W tA)) : PT X (.UnaryOp .Not a pos) (lt g W (dNot tA)) := by
  refine pt_imp (pt_not ha) fun σ H Q h => ?_
  obtain ⟨Δ, O, P, E, F, hT, sr, w, hv, hx⟩ := h
  exact lt_bind hT sr w hx fun k O1 F1 H1 hT1 s1 sr1 w1 hx1 => (hv.mono s1).now hT1 w1
/-- as values -/
def dAndV (Ta Tb : DE) : DE := fun Δ O P E => Ta Δ O (fun d O1 => match d with | .bl k => (if k = true then Tb Δ O1 P E else P (.bl false) O1) | _ => False) E
def dOrV (Ta Tb : DE) : DE := fun Δ O P E => Ta Δ O (fun d O1 => match d with | .bl k => (if k = true then P (.bl true) O1 else Tb Δ O1 P E) | _ => False) E
def dNotV (Ta : DE) : DE := fun Δ O P E => Ta Δ O (fun d O1 => match d with | .bl k => P (.bl (!k)) O1 | _ => False) E
def dIf (t : DT) (Ta Tb : DE) : DE := fun Δ O P E => t Δ O (fun k O1 => if k = true then Ta Δ O1 P E else Tb Δ O1 P E) E
/-! ### ints -/
def fI0 (h : Int → Int → D) : B2 := fun x y O P => match x, y with | .int i, .int j => P (h i j) O | _, _ => False
def fI (C : Int → Int → Prop) (h : Int → Int → D) : B2 := fun x y O P => match x, y with | .int i, .int j => C i j ∧ P (h i j) O | _, _ => False
theorem lkI0 {h : Int → Int → D} {h' : Int → Int → V} (e : ∀ F i j, Rep g F (h i j) (h' i j)) : Lk2 g (rI0 h') (fI0 h) := by
  intro x y O P F H vx vy Q hf rx ry w hv
  cases x <;> cases y <;> first | exact hf.elim | skip
  rename_i i j
  exact ⟨i, j, Rep.int_iff.mp rx, Rep.int_iff.mp ry, hv.now hf w (e F i j)⟩
theorem lkI {C : Int → Int → Prop} {h : Int → Int → D} {h' : Int → Int → V} (e : ∀ F i j, Rep g F (h i j) (h' i j)) : Lk2 g (rI C h') (fI C h) := by
  intro x y O P F H vx vy Q hf rx ry w hv
  cases x <;> cases y <;> first | exact hf.elim | skip
  rename_i i j
  exact ⟨i, j, Rep.int_iff.mp rx, Rep.int_iff.mp ry, hf.1, hv.now hf.2 w (e F i j)⟩
theorem rint {F : Hp} {i : Int} : Rep g F (.int i) (.int i) := Rep.int_iff.mpr rfl
theorem rbl {F : Hp} {i : Bool} : Rep g F (.bl i) (.bl i) := Rep.bl_iff.mpr rfl
def fSub : B2 := fI0 fun i j => .int (i - j)
def fMul : B2 := fI CMul fun i j => .int (i * j)
def fMod : B2 := fI (fun _ j => 0 < j) fun i j => .int (i % j)
def fDiv : B2 := fI CDiv fun i j => .int (i / j)
def fPow : B2 := fI CPow fun i j => .int (i ^ j.toNat)
def fLt : B2 := fI0 fun i j => .bl (decide (i < j))
def fLe : B2 := fI0 fun i j => .bl (decide (i ≤ j))
def fGt : B2 := fI0 fun i j => .bl (decide (j < i))
def fGe : B2 := fI0 fun i j => .bl (decide (j ≤ i))
theorem lk_sub : Lk2 g (rI0 fun i j => .int (i - j)) fSub := lkI0 fun _ _ _ => rint
theorem lk_mul : Lk2 g (rI CMul fun i j => .int (i * j)) fMul := lkI fun _ _ _ => rint
theorem lk_mod : Lk2 g (rI (fun _ j => 0 < j) fun i j => .int (i % j)) fMod := lkI fun _ _ _ => rint
theorem lk_div : Lk2 g (rI CDiv fun i j => .int (i / j)) fDiv := lkI fun _ _ _ => rint
theorem lk_pow : Lk2 g (rI CPow fun i j => .int (i ^ j.toNat)) fPow := lkI fun _ _ _ => rint
theorem lk_lt : Lk2 g (rI0 fun i j => .bl (decide (i < j))) fLt := lkI0 fun _ _ _ => rbl
theorem lk_le : Lk2 g (rI0 fun i j => .bl (decide (i ≤ j))) fLe := lkI0 fun _ _ _ => rbl
theorem lk_gt : Lk2 g (rI0 fun i j => .bl (decide (j < i))) fGt := lkI0 fun _ _ _ => rbl
theorem OpR.or {f : Value → Value → Sem Value} {r r' : R2} (h : OpR X f r) (h' : OpR X f r') : OpR X f (fun x y H Q => r x y H Q ∨ r' x y H Q) := by
  intro pins s σ H x y v u Q I rx ry q
  rcases q with q | q
  · exact h pins s σ H x y v u Q I rx ry q
  · exact h' pins s σ H x y v u Q I rx ry q

/-! ### + of ints, texts, lists -/
/-- the list that a datum is, as a list object -/
def lstOf (O : Sto) : D → Option (List D)
  | .lst ds => some ds
  | .ptr a => match getC O a with | some (.lst ds) => some ds | _ => none
  | _ => none
theorem lst_of {F : Hp} {O : Sto} {H : Hp} {d : D} {v : V} {ds : List D} (h : lstOf O d = some ds) (r : Rep g F d v) (w : Wd g F O H) : ∃ p vs, v = .ref p ∧ H p = some (.lst vs) ∧ Reps g F ds vs := by
  cases d with
  | lst l =>
    obtain ⟨p, vs, rfl, h1, h2⟩ := Rep.lst_iff.mp r
    cases h
    exact ⟨p, vs, rfl, w.same _ _ h1, h2⟩
  | ptr a =>
    rw [Rep.ptr_iff] at r
    subst r
    simp only [lstOf] at h
    split at h
    · rename_i l e
      cases h
      obtain ⟨_, o, h1, h2⟩ := w.get e
      cases o with
      | lst vs => exact ⟨a, vs, rfl, h1, h2⟩
      | _ => exact h2.elim
    · cases h
  | _ => simp [lstOf] at h
def fAdd : B2 := fun x y O P => match x, y with
  | .int i, .int j => P (.int (i + j)) O
  | .str i, .str j => i.length + j.length ≤ sizeLine ∧ P (.str (i ++ j)) O
  | _, _ => match lstOf O x, lstOf O y with
    | some l, some m => l.length + m.length ≤ sizeLine ∧ P (.lst (l ++ m)) O
    | _, _ => False
def rAddA : R2 := fun x y H Q => (∃ i j, x = .int i ∧ y = .int j ∧ Q (.int (i + j)) H) ∨ (∃ i j, x = .str i ∧ y = .str j ∧ i.length + j.length ≤ sizeLine ∧ Q (.str (i ++ j)) H) ∨ rCat x y H Q
theorem op_addA : OpR X (binaryOp .Add) rAddA := OpR.or op_add (OpR.or op_add_str op_cat)
theorem Reps.newL {F : Hp} {ds : List D} {vs : List V} {p : Addr} (h : Reps g F ds vs) : F p = none → Rep g (upd F p (.lst vs)) (.lst ds) (.ref p) := fun hp => Rep.lst_iff.mpr ⟨p, vs, rfl, upd_same, h.mono (same_upd hp)⟩
theorem Reps.newT {F : Hp} {ds : List D} {vs : List V} {p : Addr} (h : Reps g F ds vs) : F p = none → Rep g (upd F p (.tup vs)) (.tup ds) (.ref p) := fun hp => Rep.tup_iff.mpr ⟨p, vs, rfl, .inl upd_same, h.mono (same_upd hp)⟩
theorem lk_add : Lk2 g rAddA fAdd := by
  intro x y O P F H vx vy Q hf rx ry w hv
  have key : (match lstOf O x, lstOf O y with
    | some l, some m => l.length + m.length ≤ sizeLine ∧ P (.lst (l ++ m)) O
    | _, _ => False) → rCat vx vy H Q := by
    intro hf
    split at hf
    · rename_i l m e1 e2
      obtain ⟨p, vs, rfl, h1, h2⟩ := lst_of e1 rx w
      obtain ⟨q, us, rfl, h3, h4⟩ := lst_of e2 ry w
      refine ⟨p, q, vs, us, rfl, rfl, h1, h3, by rw [← h2.length, ← h4.length]; exact hf.1, fun t ht => ?_⟩
      exact hv _ _ _ _ _ hf.2 (w.fsame ht) (w.frozen ht) ((h2.append h4).newL (w.same.free ht))
    · exact hf.elim
  cases x <;> cases y <;> first | exact .inr (.inr (key hf)) | skip
  · rename_i i j
    exact .inl ⟨i, j, Rep.int_iff.mp rx, Rep.int_iff.mp ry, hv.now hf w rint⟩
  · rename_i i j
    exact .inr (.inl ⟨i, j, Rep.str_iff.mp rx, Rep.str_iff.mp ry, hf.1, hv.now hf.2 w (Rep.str_iff.mpr rfl)⟩)

/-! ### subscripts -/
def fIx : B2 := fun x y O P => match y with
  | .int i => match x with
    | .tup ds => (match atI ds i with | some d => P d O | none => False)
    | .str z => z.length ≤ sizeLine ∧ (match atI z.cps.toList i with | some c => P (.str ⟨#[c]⟩) O | none => False)
    | _ => (match lstOf O x with | some ds => (match atI ds i with | some d => P d O | none => False) | none => False)
  | _ => False
theorem atI_rep {F : Hp} {ds : List D} {vs : List V} {i : Int} {d : D} (h : Reps g F ds vs) (e : atI ds i = some d) : ∃ v, atI vs i = some v ∧ Rep g F d v := by
  unfold atI at e ⊢
  rw [← h.length]
  cases q : ixN ds.length i with
  | none => rw [q] at e; cases e
  | some j =>
    rw [q] at e
    exact h.get (show ds[j]? = some d from e)
theorem lk_ix : Lk2 g (rIx g.K) fIx := by
  intro x y O P F H vx vy Q hf rx ry w hv
  cases y with
  | int i =>
    have ey := Rep.int_iff.mp ry
    subst ey
    have key : (match lstOf O x with | some ds => (match atI ds i with | some d => P d O | none => False) | none => False) → rIx g.K vx (.int i) H Q := by
      intro hf
      split at hf
      · rename_i l e1
        obtain ⟨p, vs, rfl, h1, h2⟩ := lst_of e1 rx w
        split at hf
        · rename_i d e2
          obtain ⟨v, e3, r3⟩ := atI_rep h2 e2
          exact .inl ⟨p, vs, i, v, rfl, rfl, SqL.of h1, e3, hv.now hf w r3⟩
        · exact hf.elim
      · exact hf.elim
    cases x with
    | tup ds =>
      obtain ⟨p, vs, rfl, h1, h2⟩ := Rep.tup_sq rx
      have hf : (match atI ds i with | some d => P d O | none => False) := hf
      split at hf
      · rename_i d e2
        obtain ⟨v, e3, r3⟩ := atI_rep h2 e2
        exact .inr (.inl ⟨p, vs, i, v, rfl, rfl, sqt_same w.same h1, e3, hv.now hf w r3⟩)
      · exact hf.elim
    | str z =>
      obtain ⟨hl, hf⟩ : z.length ≤ sizeLine ∧ (match atI z.cps.toList i with | some c => P (.str ⟨#[c]⟩) O | none => False) := hf
      split at hf
      · rename_i ch e2
        exact .inr (.inr ⟨z, i, ch, Rep.str_iff.mp rx, rfl, hl, e2, hv.now hf w (Rep.str_iff.mpr rfl)⟩)
      · exact hf.elim
    | _ => exact key hf
  | _ => exact hf.elim
theorem q_ix (ha : PE X a (le g W Ta)) (hb : PE X b (le g W Tb)) (hs : PlainIx b := by exact fun _ _ => rfl) (hK : X.K = g.K := by rfl) : PE X (.Subscript a b pos) (le g W (dOp fIx Ta Tb)) :=
  pe_imp (pe_ix (r := rIx g.K) (by rw [← hK]; exact ix_seq) ha hb hs) fun σ H Q h => top_of lk_ix h

/-! ### argument lists, displays -/
def dNil : DA := fun _ O P _ => P [] O
def dCons (T : DE) (R : DA) : DA := fun Δ O P E => T Δ O (fun d O1 => R Δ O1 (fun ds O2 => P (d :: ds) O2) E) E
theorem qa_nil : PA X [] (la g W dNil) := pa_imp pa_nil fun σ H Q ⟨Δ, O, P, E, F, hT, sr, w, hv, hx⟩ => hv.now hT w Reps.nil
theorem qa_cons {es : List Expr} {R : DA} (ha : PE X a (le g W Ta)) (hr : PA X es (la g W R)) (hs : starEach (a :: es) X.env = (false, eval a X.env) :: starEach es X.env := by rfl) : PA X (a :: es) (la g W (dCons Ta R)) := by
  refine pa_imp (pa_cons ha hr hs) fun σ H Q h => ?_
  obtain ⟨Δ, O, P, E, F, hT, sr, w, hv, hx⟩ := h
  refine le_bind hT sr w hx fun d O1 v F1 H1 hT1 s1 sr1 w1 rx hx1 => la_bind hT1 sr1 w1 hx1 fun ds O2 vs F2 H2 hT2 s2 sr2 w2 rs hx2 => ?_
  exact hv _ _ _ _ _ hT2 (s1.trans s2) w2 (Reps.cons (rx.mono s2) rs)
def dTup (R : DA) : DE := fun Δ O P E => R Δ O (fun ds O1 => ds.length ≤ sizeLine ∧ P (.tup ds) O1) E
def dLst (R : DA) : DE := fun Δ O P E => R Δ O (fun ds O1 => ds.length ≤ sizeLine ∧ P (.lst ds) O1) E
/-- a list that will change -/
def dLstO (R : DA) : DE := fun Δ O P E => R Δ O (fun ds O1 => ds.length ≤ sizeLine ∧ ∀ p, freshC O1 p → P (.ptr p) ((p, .lst ds) :: O1)) E
theorem q_tup {es : List Expr} {R : DA} {x1} (h : PA X es (la g W R)) : PE X (.Tuple es x1 pos) (le g W (dTup R)) := by
  refine pe_imp (pe_tup h) fun σ H Q h => ?_
  obtain ⟨Δ, O, P, E, F, hT, sr, w, hv, hx⟩ := h
  refine la_bind hT sr w hx fun ds O1 vs F1 H1 hT1 s1 sr1 w1 rs hx1 => ⟨by rw [← rs.length]; exact hT1.1, fun p hp => ?_⟩
  exact hv _ _ _ _ _ hT1.2 (s1.trans (w1.fsame hp)) (w1.frozen hp) (rs.newT (w1.same.free hp))
theorem q_lst {es : List Expr} {R : DA} (h : PA X es (la g W R)) : PE X (.List es pos) (le g W (dLst R)) := by
  refine pe_imp (pe_lst h) fun σ H Q h => ?_
  obtain ⟨Δ, O, P, E, F, hT, sr, w, hv, hx⟩ := h
  refine la_bind hT sr w hx fun ds O1 vs F1 H1 hT1 s1 sr1 w1 rs hx1 => ⟨by rw [← rs.length]; exact hT1.1, fun p hp => ?_⟩
  exact hv _ _ _ _ _ hT1.2 (s1.trans (w1.fsame hp)) (w1.frozen hp) (rs.newL (w1.same.free hp))
theorem q_lstO {es : List Expr} {R : DA} (h : PA X es (la g W R)) : PE X (.List es pos) (le g W (dLstO R)) := by
  refine pe_imp (pe_lst h) fun σ H Q h => ?_
  obtain ⟨Δ, O, P, E, F, hT, sr, w, hv, hx⟩ := h
  refine la_bind hT sr w hx fun ds O1 vs F1 H1 hT1 s1 sr1 w1 rs hx1 => ⟨by rw [← rs.length]; exact hT1.1, fun p hp => ?_⟩
  exact hv _ _ _ _ _ (hT1.2 p (w1.fresh hp)) s1 (w1.own (c := .lst ds) (o := .lst vs) hp rs) (Rep.ptr_iff.mpr rfl)

/-- an owned thing is let go -/
def frzD : Cell → Option D
  | .lst ds => some (.lst ds)
  | .ins c fs ds => some (.obj c fs ds)
  | .dic ks ds => some (.dic ks ds)
  | .box => none
def dFrz (T : DE) : DE := fun Δ O P E => T Δ O (fun d O1 => match d with
  | .ptr a => (match getC O1 a with | some c => (match frzD c with | some d' => P d' (delC O1 a) | none => False) | none => False)
  | _ => False) E
def Cell.isDic : Cell → Bool
  | .dic _ _ => true
  | _ => false
theorem frz_rep {F : Hp} {a : Addr} {c : Cell} {o : HO} {d : D} (hf : frzD c = some d) (h : CRep g F c o) (fa : F a = none) (nd : c.isDic = false := by rfl) : Rep g (upd F a o) d (.ref a) := by
  cases c with
  | lst ds =>
    cases hf
    cases o with
    | lst vs => exact Reps.newL (show Reps g F ds vs from h) fa
    | _ => exact h.elim
  | ins c fs ds =>
    cases hf
    cases o with
    | ins C dx vfs =>
      obtain ⟨rfl, h2, vs, rfl, h4⟩ := h
      exact Rep.obj_iff.mpr ⟨a, dx, vs, rfl, upd_same, h2, h4.mono (same_upd fa)⟩
    | _ => exact h.elim
  | dic ks ds => cases nd
  | box => cases hf
/-- the thing may be locked behind the reading -/
def tLk (t : TE) : TE := fun σ H Q => t σ H fun v H1 => Q v H1 ∨ ∃ d kvs, H1 d = some (.dK kvs) ∧ ∀ od, Q v (upd H1 d (.frz od (.dK kvs)))
theorem pe_lk {t : TE} (h : PE X a t) : PE X a (tLk t) := ⟨fun pins s σ H Q I hq => thn (h.run pins s σ H _ I hq) fun u s1 ⟨x, H1, I1, r, q⟩ => by
  rcases q with q | ⟨d, kvs, hd, q⟩
  · exact ⟨x, H1, I1, r, q⟩
  · obtain ⟨od, I2⟩ := I1.lock hd True.intro
    exact ⟨x, _, I2, r, q od⟩⟩
theorem q_frz (ha : PE X a (le g W Ta)) : PE X a (le g W (dFrz Ta)) := by
  refine pe_imp (pe_lk ha) fun σ H Q h => ?_
  obtain ⟨Δ, O, P, E, F, hT, sr, w, hv, hx⟩ := h
  refine le_bind hT sr w hx fun d O1 v F1 H1 hT1 s1 sr1 w1 rx hx1 => ?_
  cases d with
  | ptr p =>
    have ev := Rep.ptr_iff.mp rx
    subst ev
    have hT1 : (match getC O1 p with | some c => (match frzD c with | some d' => P d' (delC O1 p) | none => False) | none => False) := hT1
    split at hT1
    · rename_i c e
      split at hT1
      · rename_i d' e'
        cases ec : c.isDic with
        | false =>
          obtain ⟨o, ho, hc, s2, w2⟩ := w1.freeze e
          exact .inl (hv _ _ _ _ _ hT1 (s1.trans s2) w2 (frz_rep e' hc (w1.get e).1 ec))
        | true =>
          cases c with
          | dic ks ds =>
            cases e'
            obtain ⟨vs, h1, h2⟩ := w1.freezeL e
            exact .inr ⟨p, _, h1, fun od => hv _ _ _ _ _ hT1 (s1.trans (h2 od).1) (h2 od).2.1 (h2 od).2.2⟩
          | _ => cases ec
      · exact hT1.elim
    · exact hT1.elim
  | _ => exact hT1.elim

/-! ### fields -/
/-- the fields of a datum: its class, its names, its values -/
def objOf (O : Sto) : D → Option (Cl × List Fd × List D)
  | .obj c fs ds => some (c, fs, ds)
  | .ptr a => match getC O a with | some (.ins c fs ds) => some (c, fs, ds) | _ => none
  | _ => none
theorem obj_of {F : Hp} {O : Sto} {H : Hp} {d : D} {v : V} {t : Cl × List Fd × List D} (h : objOf O d = some t) (r : Rep g F d v) (w : Wd g F O H) : ∃ p dx vs, v = .ref p ∧ H p = some (.ins (g.ca t.1) dx (zipF t.2.1 vs)) ∧ t.2.1.length = t.2.2.length ∧ Reps g F t.2.2 vs := by
  cases d with
  | obj c fs ds =>
    obtain ⟨p, dx, vs, rfl, h1, h2, h3⟩ := Rep.obj_iff.mp r
    cases h
    exact ⟨p, dx, vs, rfl, w.same _ _ h1, h2, h3⟩
  | ptr a =>
    rw [Rep.ptr_iff] at r
    subst r
    simp only [objOf] at h
    split at h
    · rename_i c fs ds e
      cases h
      obtain ⟨_, o, h1, h2⟩ := w.get e
      cases o with
      | ins C dx vfs =>
        obtain ⟨rfl, h3, vs, rfl, h4⟩ := h2
        exact ⟨a, dx, vs, rfl, h1, h3, h4⟩
      | _ => exact h2.elim
    · cases h
  | _ => simp [objOf] at h
/-- what the walk asks of the classes: fields that no class hides -/
structure Flds (g : Gm) (cs : List Cl) (f : Fd) : Prop where
  cl : ∀ c ∈ cs, Cls g.K (g.ca c)
  no : ∀ c ∈ cs, NoAttr g.K (g.ca c) f.str
def dFld (cs : List Cl) (f : Fd) (T : DE) : DE := fun Δ O P E => T Δ O (fun d O1 => match objOf O1 d with
  | some t => t.1 ∈ cs ∧ (match getF f t.2.1 t.2.2 with | some e => P e O1 | none => False)
  | none => False) E
theorem q_fld {cs : List Cl} {f : Fd} {x : Str} (A : Flds g cs f) (ha : PE X a (le g W Ta)) (hx : x = f.str := by rfl) (hK : X.K = g.K := by rfl) (hb : attributeBase a x X.env (eval a X.env) = eval a X.env := by rfl) :
    PE X (.Attribute a x pos) (le g W (dFld cs f Ta)) := by
  subst hx
  refine pe_imp (pe_fld ha hb) fun σ H Q h => ?_
  obtain ⟨Δ, O, P, E, F, hT, sr, w, hv, hx⟩ := h
  refine le_bind hT sr w hx fun d O1 v F1 H1 hT1 s1 sr1 w1 rx hx1 => ?_
  split at hT1
  · rename_i t e
    obtain ⟨p, dx, vs, rfl, h1, h2, h3⟩ := obj_of e rx w1
    obtain ⟨hc, hT1⟩ := hT1
    split at hT1
    · rename_i d' e'
      obtain ⟨u, hu, ru⟩ := getF_look h3 e'
      exact ⟨p, g.ca t.1, dx, _, u, rfl, h1, by rw [hK]; exact A.cl _ hc, by rw [hK]; exact A.no _ hc, hu, (hv.mono s1).now hT1 w1 ru⟩
    · exact hT1.elim
  · exact hT1.elim

/-! ### builtins by values -/
abbrev BC := List D → Sto → KD → Prop
def LkC (g : Gm) (r : List V → Hp → VK → Prop) (f : BC) : Prop := ∀ ds O P F H vs Q, f ds O P → Reps g F ds vs → Wd g F O H → VOk g F P Q → r vs H Q
def dCB (f : BC) (R : DA) : DE := fun Δ O P E => R Δ O (fun ds O1 => f ds O1 P) E
theorem tcb_of {r : List V → Hp → VK → Prop} {f : BC} {R : DA} (lk : LkC g r f) {σ : St} {H : Hp} {Q : VK} (h : le g W (dCB f R) σ H Q) : tCB r (la g W R) σ H Q := by
  obtain ⟨Δ, O, P, E, F, hT, sr, w, hv, hx⟩ := h
  exact la_bind hT sr w hx fun ds O1 vs F1 H1 hT1 s1 sr1 w1 rs hx1 => lk _ _ _ _ _ _ _ hT1 rs w1 (hv.mono s1)
variable {es : List Expr} {R : DA} {x : Str} {p : Pos}
theorem q_callB {id : String} {r : List V → Hp → VK → Prop} {f : BC} (hc : CallR X (.builtin id) r) (lk : LkC g r f) (hm : X.mg x = none) (ha : PA X (a :: es) (la g W R)) (hv : bootBuiltins x = some (.builtin id) := by decide +kernel) (hg : Gl X x := by rfl) (hn : x ≠ "__name__" := by decide) (hdb : (x == ("__debug__" : Str)) = false := by decide)
    (he : starEach (a :: es) X.env = (false, eval a X.env) :: starEach es X.env := by rfl) (hpl : (backTo pos (starEach es X.env)).any (·.1) = false := by rfl) : PE X (.Call (.Name x p) (a :: es) [] pos) (le g W (dCB f R)) :=
  pe_imp (pe_callB hc hg hm hv ha hn hdb he hpl) fun σ H Q h => tcb_of lk h
theorem q_callTy {T : String} {r : List V → Hp → VK → Prop} {f : BC} (hc : CallR X (.type T) r) (lk : LkC g r f) (hm : X.mg x = none) (ha : PA X (a :: es) (la g W R)) (hv : bootBuiltins x = some (.type T) := by decide +kernel) (hg : Gl X x := by rfl) (hn : x ≠ "__name__" := by decide) (hdb : (x == ("__debug__" : Str)) = false := by decide)
    (he : starEach (a :: es) X.env = (false, eval a X.env) :: starEach es X.env := by rfl) (hpl : (backTo pos (starEach es X.env)).any (·.1) = false := by rfl) : PE X (.Call (.Name x p) (a :: es) [] pos) (le g W (dCB f R)) :=
  pe_imp (pe_callTy hc hg hm hv ha hn hdb he hpl) fun σ H Q h => tcb_of lk h
end
end G

set_option Elab.async false
set_option linter.all false
set_option maxRecDepth 100000
set_option maxHeartbeats 4000000
namespace G
open PySem L2
/-! ## statements -/
theorem EOk.toX {g : Gm} {F : Hp} {W : WX} {D : DEnds} {E : Ends} {σ : St} {Δ : Sl} (h : EOk g F W D E) (sr : SRel g F σ Δ) : XOk g F W σ (fun x O => D.xc x Δ O) :=
  fun x O cls dd F' H q s w r => h.xc x Δ O cls dd F' σ H q s (sr.mono s) w r
section
variable {g : Gm} {X : Cx} {W : WX} {pos pos' : Pos} {a b c : Expr} {Ta Tb : DE} {tA tB : DT} {T U : DS} {st : Stmt} {rest : List Stmt}
def dNext : DS := fun D Δ O => D.nx Δ O
def dSeq (T U : DS) : DS := fun D Δ O => T { D with nx := U D } Δ O
theorem qss_nil : PSs X [] (ls g W dNext) := pss_imp pss_nil fun E σ H ⟨D, Δ, O, F, hT, sr, w, he⟩ => he.nx _ _ _ _ _ hT (Same.refl F) sr w
theorem qss_one (h : PS X st (ls g W T)) : PSs X [st] (ls g W T) := pss_one h
theorem qss_cons (h1 : PS X st (ls g W T)) (h2 : PSs X rest (ls g W U)) : PSs X (st :: rest) (ls g W (dSeq T U)) := by
  refine pss_imp (pss_cons h1 h2) fun E σ H ⟨D, Δ, O, F, hT, sr, w, he⟩ => ?_
  refine ⟨{ D with nx := U D }, Δ, O, F, hT, sr, w, ⟨fun Δ' O' F' σ' H' q s sr' w' => ?_, he.rt, he.bk, he.ct, he.xc⟩⟩
  exact ⟨D, Δ', O', F', q, sr', w', he.mono s⟩
def dAsg (i : Nat) (T : DE) : DS := fun D Δ O => T Δ O (fun d O1 => D.nx (Δ.set i (some d)) O1) (fun x O1 => D.xc x Δ O1)
theorem qs_asg (i : Nat) {x : Str} (hN : X.N.Nodup) (he : PE X a (le g W Ta)) (hi : X.N[i]? = some x := by rfl) (hx : Loc X.env.scope x := by first | exact Or.inl rfl | exact Or.inr rfl) (hs : swapsWith a (some (.Name x pos')) pos.line X.env = pure false := by rfl)
    (hf : X.fn x = true ∨ X.env.scope.names.lookup x = some .local := by first | exact .inl rfl | exact .inr rfl) : PS X (.Assign [.Name x pos'] a pos) (ls g W (dAsg i Ta)) := by
  refine ps_imp (ps_set (i := i) hN hi hx he hs hf) fun E σ H ⟨D, Δ, O, F, hT, sr, w, ho⟩ => ?_
  exact le_bind hT sr w (ho.toX sr) fun d O1 v F1 H1 hT1 s1 sr1 w1 rx hx1 => ho.nx _ _ _ _ _ hT1 s1 (sr1.set rx i) w1
def dExp (T : DE) : DS := fun D Δ O => T Δ O (fun _ O1 => D.nx Δ O1) (fun x O1 => D.xc x Δ O1)
theorem qs_expr (he : PE X a (le g W Ta)) (hs : swapsWith a none pos.line X.env = pure false := by rfl) : PS X (.Expr a pos) (ls g W (dExp Ta)) := by
  refine ps_imp (ps_expr he hs) fun E σ H ⟨D, Δ, O, F, hT, sr, w, ho⟩ => ?_
  exact le_bind hT sr w (ho.toX sr) fun d O1 v F1 H1 hT1 s1 sr1 w1 rx hx1 => ho.nx _ _ _ _ _ hT1 s1 sr1 w1
def dRet (T : DE) : DS := fun D Δ O => T Δ O D.rt (fun x O1 => D.xc x Δ O1)
theorem qs_ret (he : PE X a (le g W Ta)) : PS X (.Return (some a) pos) (ls g W (dRet Ta)) := by
  refine ps_imp (ps_ret he) fun E σ H ⟨D, Δ, O, F, hT, sr, w, ho⟩ => ?_
  exact le_bind hT sr w (ho.toX sr) fun d O1 v F1 H1 hT1 s1 sr1 w1 rx hx1 => ho.rt _ _ _ _ _ hT1 s1 w1 rx
def dRetN : DS := fun D _ O => D.rt .non O
def dIfS (t : DT) (T U : DS) : DS := fun D Δ O => t Δ O (fun k O1 => if k = true then T D Δ O1 else U D Δ O1) (fun x O1 => D.xc x Δ O1)
theorem qs_if {xs ys : List Stmt} (hc : PT X c (lt g W tA)) (ha : PSs X xs (ls g W T)) (hb : PSs X ys (ls g W U)) : PS X (.If c xs ys pos) (ls g W (dIfS tA T U)) := by
  refine ps_imp (ps_if hc ha hb) fun E σ H ⟨D, Δ, O, F, hT, sr, w, ho⟩ => ?_
  refine lt_bind hT sr w (ho.toX sr) fun k O1 F1 H1 hT1 s1 sr1 w1 hx1 => ?_
  cases k with
  | true =>
    rw [if_pos rfl] at hT1 ⊢
    exact ⟨D, Δ, O1, F1, hT1, sr1, w1, ho.mono s1⟩
  | false =>
    rw [if_neg Bool.false_ne_true] at hT1 ⊢
    exact ⟨D, Δ, O1, F1, hT1, sr1, w1, ho.mono s1⟩
def dBrk : DS := fun D Δ O => D.bk Δ O
def dCnt : DS := fun D Δ O => D.ct Δ O
def dNev : DS := fun _ _ _ => False
/-- x += e -/
def dAug (i : Nat) (f : B2) (T : DE) : DS := fun D Δ O => match Δ[i]? with
  | some (some x) => T Δ O (fun y O1 => f x y O1 fun z O2 => D.nx (Δ.set i (some z)) O2) (fun x O1 => D.xc x Δ O1)
  | _ => False
def fAddI : B2 := fI0 fun i j => .int (i + j)
/-- o.f = e -/
def dSetF (cs : List Cl) (f : Fd) (To Tv : DE) : DS := fun D Δ O => Tv Δ O (fun d O1 => To Δ O1 (fun o O2 => match o with
  | .ptr p => (match getC O2 p with
    | some (.ins c fs ds) => c ∈ cs ∧ fs.length < 900 ∧ D.nx Δ (setC O2 p (.ins c (putFs f fs) (putDs f d fs ds)))
    | _ => False)
  | _ => False) (fun x O1 => D.xc x Δ O1)) (fun x O1 => D.xc x Δ O1)
theorem qs_setF {cs : List Cl} {f : Fd} {x : Str} (A : Flds g cs f) (ha : PE X a (le g W Ta)) (hb : PE X b (le g W Tb)) (hx : x = f.str := by rfl) (hK : X.K = g.K := by rfl) (hs : swapsWith b (some (.Attribute a x pos')) pos.line X.env = pure false := by rfl) :
    PS X (.Assign [.Attribute a x pos'] b pos) (ls g W (dSetF cs f Ta Tb)) := by
  subst hx
  refine ps_imp (ps_fld ha hb hs) fun E σ H ⟨D, Δ, O, F, hT, sr, w, ho⟩ => ?_
  refine le_bind hT sr w (ho.toX sr) fun d O1 v F1 H1 hT1 s1 sr1 w1 rx hx1 => le_bind hT1 sr1 w1 hx1 fun o O2 vo F2 H2 hT2 s2 sr2 w2 ro hx2 => ?_
  cases o with
  | ptr p =>
    have ev := Rep.ptr_iff.mp ro
    subst ev
    have hT2 : (match getC O2 p with
      | some (.ins c fs ds) => c ∈ cs ∧ fs.length < 900 ∧ D.nx Δ (setC O2 p (.ins c (putFs f fs) (putDs f d fs ds)))
      | _ => False) := hT2
    split at hT2
    · rename_i c fs ds e
      obtain ⟨hc, hl, hT2⟩ := hT2
      obtain ⟨fa, ob, h1, h2⟩ := w2.get e
      cases ob with
      | ins C dx vfs =>
        obtain ⟨rfl, h3, vs, rfl, h4⟩ := h2
        obtain ⟨ws, e1, e2, e3⟩ := putF_zip (f := f) (rx.mono s2) h3 h4
        refine ⟨p, g.ca c, dx, _, rfl, h1, by rw [hK]; exact A.cl _ hc, by rw [hK]; exact A.no _ hc, ?_, ?_⟩
        · unfold zipF
          rw [List.length_zip, List.length_map]
          omega
        · rw [e1]
          exact ho.nx _ _ _ _ _ hT2 (s1.trans s2) sr2 (w2.set e (c' := .ins c (putFs f fs) (putDs f d fs ds)) (o := .ins (g.ca c) dx (zipF (putFs f fs) ws)) ⟨rfl, e3, ws, rfl, e2⟩)
      | _ => exact h2.elim
    · exact hT2.elim
  | _ => exact hT2.elim
/-- a list with one place written -/
def setI (ds : List D) (k : Int) (d : D) : Option (List D) := match ixN ds.length k with | some j => some (ds.set j d) | none => none
/-- xs[i] = e, xs a list that is owned -/
def dSetIx (To Ti Tv : DE) : DS := fun D Δ O => Tv Δ O (fun d O1 => To Δ O1 (fun o O2 => Ti Δ O2 (fun i O3 => match o, i with
  | .ptr p, .int k => (match getC O3 p with
    | some (.lst ds) => (match setI ds k d with | some es => D.nx Δ (setC O3 p (.lst es)) | none => False)
    | _ => False)
  | _, _ => False) (fun x O1 => D.xc x Δ O1)) (fun x O1 => D.xc x Δ O1)) (fun x O1 => D.xc x Δ O1)
theorem qs_setIx {Tc : DE} (ha : PE X a (le g W Ta)) (hb : PE X b (le g W Tb)) (hc : PE X c (le g W Tc))
    (ha' : ∀ v, assign (.Subscript a b pos') X.env v = (do
      let ov ← holding [v] (eval a X.env)
      let iv ← holding [v, ov] (eval b X.env)
      standAt pos'
      holding [v, ov, iv] (setItem ov iv v)
      release [v, ov, iv] []) := by intro _; rfl) (hs : swapsWithSole [.Subscript a b pos'] c pos.line X.env = pure false := by rfl) (hw : swappedStores [.Subscript a b pos'] c X.env = pure none := by rfl)
    (h1 : (assignEach [.Subscript a b pos'] X.env).map (·.2) = [assign (.Subscript a b pos') X.env] := by rfl) : PS X (.Assign [.Subscript a b pos'] c pos) (ls g W (dSetIx Ta Tb Tc)) := by
  refine ps_imp (ps_asg hc (pg_sub ha hb set_list ha') hs hw h1) fun E σ H ⟨D, Δ, O, F, hT, sr, w, ho⟩ => ?_
  refine le_bind hT sr w (ho.toX sr) fun d O1 v F1 H1 hT1 s1 sr1 w1 rx hx1 => le_bind hT1 sr1 w1 hx1 fun o O2 vo F2 H2 hT2 s2 sr2 w2 ro hx2 => le_bind hT2 sr2 w2 hx2 fun i O3 vi F3 H3 hT3 s3 sr3 w3 ri hx3 => ?_
  cases o <;> cases i <;> first | exact hT3.elim | skip
  rename_i p k
  have ev := Rep.ptr_iff.mp ro
  subst ev
  have hT3 : (match getC O3 p with
    | some (.lst ds) => (match setI ds k d with | some es => D.nx Δ (setC O3 p (.lst es)) | none => False)
    | _ => False) := hT3
  split at hT3
  · rename_i ds e
    split at hT3
    · rename_i es eS
      unfold setI at eS
      split at eS
      rotate_left
      · cases eS
      rename_i j ej
      cases eS
      obtain ⟨fa, ob, h1, h2⟩ := w3.get e
      cases ob with
      | lst vs =>
        have h2 : Reps g F3 ds vs := h2
        refine ⟨p, vs, k, j, rfl, Rep.int_iff.mp ri, h1, by rw [← h2.length]; exact ej, ?_⟩
        exact ho.nx _ _ _ _ _ hT3 (s1.trans (s2.trans s3)) sr3 (w3.set e (c' := .lst (ds.set j d)) (o := .lst (vs.set j v)) (h2.set (rx.mono (s2.trans s3)) j))
      | _ => exact h2.elim
    · exact hT3.elim
  · exact hT3.elim
/-- xs.append(e) -/
def dApp (To Tv : DE) : DE := fun Δ O P E => To Δ O (fun o O1 => match o with
  | .ptr p => (match getC O1 p with
    | some (.lst _) => Tv Δ O1 (fun d O2 => match getC O2 p with
      | some (.lst ds) => ds.length < sizeLine ∧ P .non (setC O2 p (.lst (ds ++ [d])))
      | _ => False) E
    | _ => False)
  | _ => False) E
/-- give: pe_bm PySem.F.plainAttrs_list PySem.F.slot_list_append PySem.F.type_list_append mt_append HA (pa_cons HB pa_nil) -/
theorem q_app (h : PE X c (tBM X.K "list" rAppend (le g W Ta) (tCons (le g W Tb) tNil))) : PE X c (le g W (dApp Ta Tb)) := by
  refine pe_imp h fun σ H Q h => ?_
  obtain ⟨Δ, O, P, E, F, hT, sr, w, hv, hx⟩ := h
  refine le_bind hT sr w hx fun o O1 vo F1 H1 hT1 s1 sr1 w1 ro hx1 => ?_
  cases o with
  | ptr p =>
    have ev := Rep.ptr_iff.mp ro
    subst ev
    have hT1 : (match getC O1 p with
      | some (.lst _) => Tb Δ O1 (fun d O2 => match getC O2 p with
        | some (.lst ds) => ds.length < sizeLine ∧ P .non (setC O2 p (.lst (ds ++ [d])))
        | _ => False) E
      | _ => False) := hT1
    split at hT1
    · rename_i ds0 e0
      obtain ⟨_, ob, h1, h2⟩ := w1.get e0
      cases ob with
      | lst vs0 =>
        refine ⟨.inl ⟨rfl, _, SqL.of h1⟩, ?_⟩
        refine le_bind hT1 sr1 w1 hx1 fun d O2 vd F2 H2 hT2 s2 sr2 w2 rd hx2 => ?_
        split at hT2
        · rename_i ds e
          obtain ⟨_, ob, h3, h4⟩ := w2.get e
          cases ob with
          | lst vs =>
            have h4 : Reps g F2 ds vs := h4
            refine ⟨p, vs, vd, rfl, rfl, h3, by rw [← h4.length]; exact hT2.1, ?_⟩
            exact hv _ _ _ _ _ hT2.2 (s1.trans s2) (w2.set e (c' := .lst (ds ++ [d])) (o := .lst (vs ++ [vd])) (h4.append (Reps.one rd))) (Rep.non_iff.mpr rfl)
          | _ => exact h4.elim
        · exact hT2.elim
      | _ => exact h2.elim
    · exact hT1.elim
  | _ => exact hT1.elim
end

/-! ## loops -/
/-- what a walk gives: the data of its turns -/
structure Gives (g : Gm) (F : Hp) (J : It) (ds : List D) : Prop where
  go : ∀ (i : Nat) (d : D) F' O H, ds[i]? = some d → Same F F' → Wd g F' O H → J.go i H ∧ ∀ x H', J.yld i H x H' → ∃ F2, Same F' F2 ∧ Wd g F2 O H' ∧ Rep g F2 d x
  stop : ∀ (i : Nat) F' O H, ds.length ≤ i → Same F F' → Wd g F' O H → J.stop i H
theorem Gives.mono {g : Gm} {F F1 : Hp} {J : It} {ds : List D} (h : Gives g F J ds) (e : Same F F1) : Gives g F1 J ds := ⟨fun i d F' O H q s => h.go i d F' O H q (e.trans s), fun i F' O H q s => h.stop i F' O H q (e.trans s)⟩
def li (g : Gm) (W : WX) (T : DA) : TI := fun σ H R => ∃ Δ O P E F, T Δ O P E ∧ SRel g F σ Δ ∧ Wd g F O H ∧ (∀ ds O' F' H' J, P ds O' → Same F F' → Wd g F' O' H' → Gives g F' J ds → R J H') ∧ XOk g F W σ E
theorem pi_imp {X : Cx} {tg e : Expr} {t t' : TI} (h : PI X tg e t) (k : ∀ σ H Q, t' σ H Q → t σ H Q) : PI X tg e t' := ⟨fun pins s σ H R I q => h.run pins s σ H R I (k _ _ _ q)⟩
section
variable {g : Gm} {X : Cx} {W : WX} {pos pos' : Pos} {a b c tg : Expr} {Ta Tb : DE} {tA tB : DT} {R : DA}
theorem gives_list {F : Hp} {p : Addr} {vs : List V} {ds : List D} (h : F p = some (.lst vs)) (r : Reps g F ds vs) : Gives g F (Itl g.K p) ds := by
  refine ⟨fun i d F' O H q s w => ?_, fun i F' O H q s w => ⟨vs, SqL.of (w.same _ _ (s _ _ h)), by rw [← r.length]; exact q⟩⟩
  obtain ⟨v, hv, rv⟩ := r.get q
  have hs : SqL g.K H p vs := SqL.of (w.same _ _ (s _ _ h))
  refine ⟨⟨vs, v, hs, hv⟩, fun x H' ⟨e, y⟩ => ⟨F', Same.refl F', by rw [e]; exact w, ?_⟩⟩
  have z := y vs hs
  rw [hv] at z
  cases z
  exact rv.mono s
theorem gives_tup {F : Hp} {p : Addr} {vs : List V} {ds : List D} (h : SqT g.K F p vs) (r : Reps g F ds vs) : Gives g F (Itt g.K p) ds := by
  refine ⟨fun i d F' O H q s w => ?_, fun i F' O H q s w => ⟨vs, sqt_same w.same (sqt_same s h), by rw [← r.length]; exact q⟩⟩
  obtain ⟨v, hv, rv⟩ := r.get q
  have hs : SqT g.K H p vs := sqt_same w.same (sqt_same s h)
  refine ⟨⟨vs, v, hs, hv⟩, fun x H' ⟨e, y⟩ => ⟨F', Same.refl F', by rw [e]; exact w, ?_⟩⟩
  have z := y vs hs
  rw [hv] at z
  cases z
  exact rv.mono s
/-- the items of a list that stands still -/
def dItL (T : DE) : DA := fun Δ O P E => T Δ O (fun d O1 => match d with | .lst ds => P ds O1 | _ => False) E
def dItT (T : DE) : DA := fun Δ O P E => T Δ O (fun d O1 => match d with | .tup ds => P ds O1 | _ => False) E
theorem qi_list (ha : PE X a (le g W Ta)) (hK : X.K = g.K := by rfl) : PI X tg a (li g W (dItL Ta)) := by
  refine pi_imp (pi_list ha) fun σ H R h => ?_
  obtain ⟨Δ, O, P, E, F, hT, sr, w, hR, hx⟩ := h
  refine le_bind hT sr w hx fun d O1 v F1 H1 hT1 s1 sr1 w1 rx hx1 => ?_
  cases d with
  | lst ds =>
    obtain ⟨p, vs, rfl, h1, h2⟩ := Rep.lst_iff.mp rx
    exact ⟨p, rfl, ⟨vs, SqL.of (w1.same _ _ h1)⟩, hR _ _ _ _ _ hT1 s1 w1 (by rw [hK]; exact gives_list h1 h2)⟩
  | _ => exact hT1.elim
theorem qi_tup (ha : PE X a (le g W Ta)) (hK : X.K = g.K := by rfl) : PI X tg a (li g W (dItT Ta)) := by
  refine pi_imp (pi_tup ha) fun σ H R h => ?_
  obtain ⟨Δ, O, P, E, F, hT, sr, w, hR, hx⟩ := h
  refine le_bind hT sr w hx fun d O1 v F1 H1 hT1 s1 sr1 w1 rx hx1 => ?_
  cases d with
  | tup ds =>
    obtain ⟨p, vs, rfl, h1, h2⟩ := Rep.tup_sq rx
    exact ⟨p, rfl, ⟨vs, by rw [hK]; exact sqt_same w1.same h1⟩, hR _ _ _ _ _ hT1 s1 w1 (by rw [hK]; exact gives_tup h1 h2)⟩
  | _ => exact hT1.elim
def rangeD (lo : Int) (n : Nat) : List D := (List.range n).map fun (i : Nat) => .int (lo + (i : Int))
theorem gives_range {F : Hp} (lo : Int) (n : Nat) : Gives g F (Itr lo n) (rangeD lo n) := by
  refine ⟨fun i d F' O H q s w => ?_, fun i F' O H q s w => (show n ≤ i by simpa [rangeD] using q)⟩
  have hi : i < n := by
    have z := (List.getElem?_eq_some_iff.mp q).1
    simpa [rangeD] using z
  refine ⟨hi, fun x H' ⟨e, y⟩ => ⟨F', Same.refl F', by rw [e]; exact w, ?_⟩⟩
  have ed : d = .int (lo + (i : Int)) := by
    unfold rangeD at q
    rw [List.getElem?_map, List.getElem?_range hi] at q
    exact (Option.some.inj q).symm
  rw [ed, y]
  exact rint
def dRng1 (R : DA) : DA := fun Δ O P E => R Δ O (fun ds O1 => match ds with | [.int j] => -(2 ^ 62) ≤ j ∧ j < 2 ^ 62 ∧ P (rangeD 0 j.toNat) O1 | _ => False) E
def dRng2 (R : DA) : DA := fun Δ O P E => R Δ O (fun ds O1 => match ds with | [.int i, .int j] => (-(2 ^ 62) ≤ i ∧ i < 2 ^ 62 ∧ -(2 ^ 62) ≤ j ∧ j < 2 ^ 62) ∧ P (rangeD i (j - i).toNat) O1 | _ => False) E
theorem qi_range1 {p : Pos} (hm : X.mg "range" = none) (ha : PA X [a] (la g W R)) (hg : Gl X "range" := by rfl) (hs : starEach [a] X.env = [(false, eval a X.env)] := by rfl) : PI X tg (.Call (.Name "range" p) [a] [] pos) (li g W (dRng1 R)) := by
  refine pi_imp (pi_range1 hg hm ha hs) fun σ H Rr h => ?_
  obtain ⟨Δ, O, P, E, F, hT, sr, w, hR, hx⟩ := h
  refine la_bind hT sr w hx fun ds O1 vs F1 H1 hT1 s1 sr1 w1 rx hx1 => ?_
  split at hT1
  · rename_i j
    obtain ⟨v, r, rfl, h1, h2⟩ := Reps.cons_iff.mp rx
    rw [Reps.nil_iff] at h2
    subst h2
    exact ⟨j, by rw [Rep.int_iff.mp h1], hT1.1, hT1.2.1, hR _ _ _ _ _ hT1.2.2 s1 w1 (gives_range 0 _)⟩
  · exact hT1.elim
/-! ### targets -/
abbrev DG := D → Sl → (Sl → Prop) → Prop
/-- a name; a tuple of names -/
def dgN (i : Nat) : DG := fun d Δ Q => Q (Δ.set i (some d))
def setAll : List Nat → List D → Sl → Option Sl
  | [], [], Δ => some Δ
  | i :: is, d :: ds, Δ => setAll is ds (Δ.set i (some d))
  | _, _, _ => none
def dgT (is : List Nat) : DG := fun d Δ Q => match d with | .tup ds => (match setAll is ds Δ with | some Δ' => Q Δ' | none => False) | _ => False
/-- the heap's target and the data's target belong together, and touch the slots js alone -/
def LkG (g : Gm) (t : TG) (G : DG) (js : List Nat) : Prop := ∀ d v σ Δ F O H (P : Sl → Prop) (Q : St → Hp → Prop), G d Δ P → Rep g F d v → SRel g F σ Δ → Wd g F O H →
  (∀ Δ' σ', P Δ' → SRel g F σ' Δ' → (∀ i : Nat, i ∉ js → σ'[i]? = σ[i]?) → σ'.length = σ.length → Q σ' H) → t v σ H Q
theorem lkg_name (i : Nat) : LkG g (gName i) (dgN i) [i] := fun d v σ Δ F O H P Q hG rv sr w k => k _ _ hG (sr.set rv i) (fun j hj => by
  rw [List.getElem?_set_ne]
  intro e
  exact hj (by simp [e])) (by simp)
/-! ### for -/
def forD (Gd : DG) (B : DS) (E : DEnds) : List D → Sl → Sto → Prop
  | [], Δ, O => E.nx Δ O
  | d :: r, Δ, O => Gd d Δ fun Δ' => B { E with nx := forD Gd B E r, ct := forD Gd B E r, bk := E.nx } Δ' O
def dFor (R : DA) (G : DG) (B : DS) : DS := fun D Δ O => R Δ O (fun ds O1 => forD G B D ds Δ O1) (fun x O1 => D.xc x Δ O1)
theorem qs_for {iter : Expr} {body : List Stmt} {t : TG} {Gd : DG} {js : List Nat} {B : DS} (hp : PassesOwn (model X.prog X.w) X.A X.env X.xe) (hi : PI X tg iter (li g W R)) (hg : PG X tg t) (lk : LkG g t Gd js) (hb : PSs X body (ls g W B)) (hc : X.calm = true := by rfl)
    (hs : ∀ x, foldedSetIterable iter X.env x = pure x := by intro _; rfl) : PS X (.For tg iter body [] pos) (ls g W (dFor R Gd B)) := by
  refine ps_imp (ps_for hp hc hi hg hb hs) fun E σ H ⟨D, Δ, O, F, hT, sr, w, ho⟩ => ?_
  refine ⟨Δ, O, _, _, F, hT, sr, w, fun ds O1 F1 H1 J hP s1 w1 gv => ?_, ho.toX sr⟩
  refine ⟨fun i m σ H => m = ds.length - i ∧ i ≤ ds.length ∧ ∃ Δ O F', Same F1 F' ∧ SRel g F' σ Δ ∧ Wd g F' O H ∧ forD Gd B D (ds.drop i) Δ O, ⟨ds.length, by simp, Nat.zero_le _, Δ, O1, F1, Same.refl F1, sr.mono s1, w1, by simpa using hP⟩, ?_⟩
  rintro i m σ2 H2 ⟨rfl, hi, Δ2, O2, F2, s2, sr2, w2, hF⟩
  by_cases hlt : i < ds.length
  · obtain ⟨go, yl⟩ := gv.go i ds[i] F2 O2 H2 (List.getElem?_eq_getElem hlt) s2 w2
    refine .inr ⟨go, fun σ' H' => ∃ Δ O F', Same F1 F' ∧ SRel g F' σ' Δ ∧ Wd g F' O H' ∧ forD Gd B D (ds.drop (i + 1)) Δ O, fun σ' H' q => ⟨ds.length - (i + 1), by omega, rfl, hlt, q⟩, fun x H' y => ?_⟩
    obtain ⟨F3, s3, w3, r3⟩ := yl x H' y
    rw [List.drop_eq_getElem_cons hlt] at hF
    refine lk ds[i] x σ2 Δ2 F3 O2 H' _ _ hF r3 (sr2.mono s3) w3 fun Δ' σ' hB sr' _ _ => ?_
    have s03 : Same F F3 := s1.trans (s2.trans s3)
    refine ⟨_, Δ', O2, F3, hB, sr', w3, ?_⟩
    have nx : ∀ Δ O F' σ H, forD Gd B D (ds.drop (i + 1)) Δ O → Same F3 F' → SRel g F' σ Δ → Wd g F' O H → ∃ Δ O F', Same F1 F' ∧ SRel g F' σ Δ ∧ Wd g F' O H ∧ forD Gd B D (ds.drop (i + 1)) Δ O :=
      fun Δ O F' σ H q s sr w => ⟨Δ, O, F', (s2.trans s3).trans s, sr, w, q⟩
    exact ⟨nx, ho.rt.mono s03, fun Δ O F' σ H q s => (ho.mono s03).nx Δ O F' σ H q s, nx, (ho.mono s03).xc⟩
  · have e : i = ds.length := by omega
    subst e
    refine .inl ⟨gv.stop _ F2 O2 H2 (Nat.le_refl _) s2 w2, ?_⟩
    rw [List.drop_length] at hF
    exact ho.nx _ _ _ _ _ hF (s1.trans s2) sr2 w2
end
end G

set_option Elab.async false
set_option linter.all false
set_option maxRecDepth 100000
set_option maxHeartbeats 4000000
namespace G
open PySem L2
/-! ## comprehensions -/
def wipeD (Δ : Sl) : List Nat → Sl
  | [] => Δ
  | v :: vs => (wipeD Δ vs).set v none
theorem SRel.setNone {g : Gm} {F : Hp} {σ : St} {Δ : Sl} (h : SRel g F σ Δ) (i : Nat) : SRel g F (σ.set i none) (Δ.set i none) := by
  refine ⟨by rw [List.length_set, List.length_set, h.1], fun j e q => ?_⟩
  rw [List.getElem?_set] at q ⊢
  by_cases z : i = j
  · subst z
    rw [if_pos rfl] at q
    by_cases y : i < Δ.length
    · rw [if_pos y] at q
      cases q
    · rw [if_neg y] at q
      cases q
  · rw [if_neg z] at q ⊢
    exact h.2 j e q
theorem SRel.wipe {g : Gm} {F : Hp} {σ : St} {Δ : Sl} (h : SRel g F σ Δ) : ∀ vs : List Nat, SRel g F (L2.wipe σ vs) (wipeD Δ vs)
  | [] => h
  | v :: vs => (SRel.wipe h vs).setNone v
theorem wipe_at (σ : St) : ∀ (vs : List Nat) (i : Nat), (L2.wipe σ vs)[i]? = if i ∈ vs then (if i < σ.length then some none else none) else σ[i]?
  | [], i => by simp [L2.wipe]
  | v :: vs, i => by
    show ((L2.wipe σ vs).set v none)[i]? = _
    rw [List.getElem?_set]
    by_cases z : v = i
    · subst z
      rw [if_pos rfl, L2.wipe_length]
      simp
    · rw [if_neg z, wipe_at σ vs i]
      have e : (i ∈ v :: vs) ↔ i ∈ vs := by
        rw [List.mem_cons]
        exact ⟨fun h => h.elim (fun q => absurd q.symm z) id, .inr⟩
      simp only [e]
theorem wipe_wipe {σ τ : St} {vs : List Nat} (hl : τ.length = (L2.wipe σ vs).length) (h : ∀ i : Nat, i ∉ vs → τ[i]? = (L2.wipe σ vs)[i]?) : L2.wipe τ vs = L2.wipe σ vs := by
  apply List.ext_getElem?
  intro i
  rw [wipe_at, wipe_at]
  rw [L2.wipe_length] at hl
  by_cases z : i ∈ vs
  · rw [if_pos z, if_pos z, hl]
  · rw [if_neg z, if_neg z, h i z, wipe_at, if_neg z]

/-- [e for t in .. if c]: what is left to walk, what has been made (it stands at p) -/
def lcD (Gd : DG) (Tt : DT) (Te : DE) (p : Addr) (P : List D → Sto → Prop) : List D → List D → Sl → Sto → Prop
  | [], acc, _, O => P acc O
  | x :: r, acc, Δ, O => Gd x Δ fun Δ' => Tt Δ' ((p, .lst acc) :: O) (fun k O1 => if k = true
      then Te Δ' O1 (fun y O2 => ∃ O3, O2 = (p, .lst acc) :: O3 ∧ lcD Gd Tt Te p P r (acc ++ [y]) Δ O3) (fun _ _ => False)
      else ∃ O3, O1 = (p, .lst acc) :: O3 ∧ lcD Gd Tt Te p P r acc Δ O3) (fun _ _ => False)
def dLc (R : DA) (Gd : DG) (Tt : DT) (Te : DE) (vs : List Nat) : DE := fun Δ O P E => R Δ O (fun ds O1 => ds.length ≤ 1000000 ∧ ∀ p, freshC O1 p → lcD Gd Tt Te p (fun acc O2 => P (.lst acc) O2) ds [] (wipeD Δ vs) O1) E
/-- the list made is owned -/
def dLcO (R : DA) (Gd : DG) (Tt : DT) (Te : DE) (vs : List Nat) : DE := fun Δ O P E => R Δ O (fun ds O1 => ds.length ≤ 1000000 ∧ ∀ p, freshC O1 p → lcD Gd Tt Te p (fun acc O2 => P (.ptr p) ((p, .lst acc) :: O2)) ds [] (wipeD Δ vs) O1) E
abbrev W0 : WX := fun _ _ _ _ => False
section
variable {g : Gm} {X : Cx} {W : WX} {pos pos' : Pos} {a b c tg : Expr} {Ta Tb : DE} {tA tB : DT} {R : DA}
theorem xok0 {F : Hp} {σ : St} : XOk g F W0 σ (fun _ _ => False) := fun x O cls dd F' H q _ _ _ => q
theorem tlc_of {t : TG} {Gd : DG} {js vs : List Nat} {Tt : DT} {Te : DE} (lk : LkG g t Gd js) (hjs : ∀ j ∈ js, j ∈ vs) {PL : Addr → List D → Sto → Prop} {σ : St} {H : Hp} {Q : VK} {Δ : Sl} {O : Sto} {F : Hp} {J : It} {ds : List D}
    (hT : ds.length ≤ 1000000 ∧ ∀ p, freshC O p → lcD Gd Tt Te p (PL p) ds [] (wipeD Δ vs) O) (sr : SRel g F σ Δ) (w : Wd g F O H) (gv : Gives g F J ds)
    (hQ : ∀ p acc O1 F1 H1, PL p acc O1 → Same F F1 → Wd g F1 ((p, .lst acc) :: O1) H1 → Q (.ref p) H1) :
    ∀ Dl, H Dl = none → ∃ W : Nat → Nat → Hp → Prop, (∃ m, W 0 m (upd H Dl (.lst []))) ∧ ∀ i m H, W i m H →
      (J.stop i H ∧ Q (.ref Dl) H) ∨ (J.go i H ∧ ∃ Nx : Hp → Prop, (∀ H', Nx H' → ∃ m', m' < m ∧ W (i + 1) m' H') ∧ ∀ x H', J.yld i H x H' → t x (L2.wipe σ vs) H' fun σ2 H2 => L2.wipe σ2 vs = L2.wipe σ vs ∧ lt g W0 Tt σ2 H2 fun b H3 =>
        if b = true then le g W0 Te σ2 H3 fun y H4 => ∃ acc, H4 Dl = some (.lst acc) ∧ acc.length < sizeLine ∧ Nx (upd H4 Dl (.lst (acc ++ [y]))) else Nx H3) := by
  intro p hp
  obtain ⟨hz, hT⟩ := hT
  have hT := hT p (w.fresh hp)
  refine ⟨fun i m H => m = ds.length - i ∧ i ≤ ds.length ∧ ∃ acc O1 F', acc.length ≤ i ∧ Same F F' ∧ Wd g F' ((p, .lst acc) :: O1) H ∧ lcD Gd Tt Te p (PL p) (ds.drop i) acc (wipeD Δ vs) O1,
    ⟨ds.length, by simp, Nat.zero_le _, [], O, F, Nat.le_refl _, Same.refl F, w.own (c := .lst []) (o := .lst []) hp (Reps.nil (g := g) (F := F)), by simpa using hT⟩, ?_⟩
  rintro i m H2 ⟨rfl, hi, acc, O2, F2, ha, s2, w2, hL⟩
  by_cases hlt : i < ds.length
  · obtain ⟨go, yl⟩ := gv.go i ds[i] F2 _ H2 (List.getElem?_eq_getElem hlt) s2 w2
    refine .inr ⟨go, fun H' => ∃ acc O1 F', acc.length ≤ i + 1 ∧ Same F F' ∧ Wd g F' ((p, .lst acc) :: O1) H' ∧ lcD Gd Tt Te p (PL p) (ds.drop (i + 1)) acc (wipeD Δ vs) O1, fun H' q => ⟨ds.length - (i + 1), by omega, rfl, hlt, q⟩, fun x H' y => ?_⟩
    obtain ⟨F3, s3, w3, r3⟩ := yl x H' y
    rw [List.drop_eq_getElem_cons hlt] at hL
    refine lk ds[i] x (L2.wipe σ vs) (wipeD Δ vs) F3 _ H' _ _ hL r3 ((sr.wipe vs).mono (s2.trans s3)) w3 fun Δ' σ' hB sr' ho hl => ⟨wipe_wipe hl fun j hj => ho j fun q => hj (hjs j q), ?_⟩
    refine lt_bind hB sr' w3 xok0 fun k O4 F4 H4 hT4 s4 sr4 w4 hx4 => ?_
    cases k with
    | true =>
      rw [if_pos rfl] at hT4 ⊢
      refine le_bind hT4 sr4 w4 hx4 fun y O5 vy F5 H5 hT5 s5 sr5 w5 ry hx5 => ?_
      obtain ⟨O6, e6, hT6⟩ := hT5
      subst e6
      obtain ⟨_, ob, h1, h2⟩ := w5.cel (p, .lst acc) List.mem_cons_self
      cases ob with
      | lst vs' =>
        have h2 : Reps g F5 acc vs' := h2
        refine ⟨vs', h1, ?_, acc ++ [y], O6, F5, ?_, s2.trans (s3.trans (s4.trans s5)), ?_, hT6⟩
        · rw [← h2.length, sizeLine_eq]
          omega
        · rw [List.length_append, List.length_singleton]
          omega
        · have z := w5.set (a := p) (c := .lst acc) (c' := .lst (acc ++ [y])) (o := .lst (vs' ++ [vy])) (by simp [getC]) (h2.append (Reps.one ry))
          simpa [setC] using z
      | _ => exact h2.elim
    | false =>
      rw [if_neg Bool.false_ne_true] at hT4 ⊢
      obtain ⟨O6, e6, hT6⟩ := hT4
      subst e6
      exact ⟨acc, O6, F4, by omega, s2.trans (s3.trans s4), w4, hT6⟩
  · have e : i = ds.length := by omega
    subst e
    rw [List.drop_length] at hL
    exact .inl ⟨gv.stop _ F2 _ H2 (Nat.le_refl _) s2 w2, hQ p acc O2 F2 H2 hL s2 w2⟩
theorem q_lc {elt iter : Expr} {ifs : List Expr} {scope : Scope} {own : List (Str × Nat)} {t : TG} {Gd : DG} {js : List Nat} {Tt : DT} {Te : DE} (hN : X.N.Nodup) (hi : PI X tg iter (li g W R)) (ok : BlkOk X.N X.env.scope scope own)
    (hg : ∀ (s : Shared) (H : Hp) (C : Addr) (cl : List (Str × Addr)) (fp : List Addr), PG (X.blk s H scope (compEnvC scope cl C X.env) fp) tg t) (lk : LkG g t Gd js) (ht : ∀ (s : Shared) (H : Hp) (C : Addr) (cl : List (Str × Addr)) (fp : List Addr), PTs (X.blk s H scope (compEnvC scope cl C X.env) fp) ifs (lt g W0 Tt))
    (he : ∀ (s : Shared) (H : Hp) (C : Addr) (cl : List (Str × Addr)) (fp : List Addr), PE (X.blk s H scope (compEnvC scope cl C X.env) fp) elt (le g W0 Te)) (hc : X.calm = true := by rfl) (hjs : ∀ j ∈ js, j ∈ own.map (·.2) := by decide) (hs : ∀ x, foldedSetIterable iter X.env x = pure x := by intro _; rfl) :
    PE X (.ListComp elt [⟨tg, iter, ifs, 0⟩] scope pos) (le g W (dLc R Gd Tt Te (own.map (·.2)))) := by
  refine pe_imp (pe_lc hc hN hi ok hg ht he hs) fun σ H Q h => ?_
  obtain ⟨Δ, O, P, E, F, hT, sr, w, hv, hx⟩ := h
  refine ⟨Δ, O, _, _, F, hT, sr, w, fun ds O1 F1 H1 J hP s1 w1 gv => ?_, hx⟩
  refine tlc_of (PL := fun _ acc O2 => P (.lst acc) O2) lk hjs hP (sr.mono s1) w1 gv fun p acc O2 F2 H2 hp s2 w2 => ?_
  obtain ⟨o, ho, hc, s3, w3⟩ := w2.freeze (a := p) (c := .lst acc) (by simp [getC])
  exact hv _ _ _ _ _ hp (s1.trans (s2.trans s3)) (by simpa [delC] using w3) (frz_rep rfl hc (w2.cel _ List.mem_cons_self).1)
theorem q_lcO {elt iter : Expr} {ifs : List Expr} {scope : Scope} {own : List (Str × Nat)} {t : TG} {Gd : DG} {js : List Nat} {Tt : DT} {Te : DE} (hN : X.N.Nodup) (hi : PI X tg iter (li g W R)) (ok : BlkOk X.N X.env.scope scope own)
    (hg : ∀ (s : Shared) (H : Hp) (C : Addr) (cl : List (Str × Addr)) (fp : List Addr), PG (X.blk s H scope (compEnvC scope cl C X.env) fp) tg t) (lk : LkG g t Gd js) (ht : ∀ (s : Shared) (H : Hp) (C : Addr) (cl : List (Str × Addr)) (fp : List Addr), PTs (X.blk s H scope (compEnvC scope cl C X.env) fp) ifs (lt g W0 Tt))
    (he : ∀ (s : Shared) (H : Hp) (C : Addr) (cl : List (Str × Addr)) (fp : List Addr), PE (X.blk s H scope (compEnvC scope cl C X.env) fp) elt (le g W0 Te)) (hc : X.calm = true := by rfl) (hjs : ∀ j ∈ js, j ∈ own.map (·.2) := by decide) (hs : ∀ x, foldedSetIterable iter X.env x = pure x := by intro _; rfl) :
    PE X (.ListComp elt [⟨tg, iter, ifs, 0⟩] scope pos) (le g W (dLcO R Gd Tt Te (own.map (·.2)))) := by
  refine pe_imp (pe_lc hc hN hi ok hg ht he hs) fun σ H Q h => ?_
  obtain ⟨Δ, O, P, E, F, hT, sr, w, hv, hx⟩ := h
  refine ⟨Δ, O, _, _, F, hT, sr, w, fun ds O1 F1 H1 J hP s1 w1 gv => ?_, hx⟩
  refine tlc_of (PL := fun p acc O2 => P (.ptr p) ((p, .lst acc) :: O2)) lk hjs hP (sr.mono s1) w1 gv fun p acc O2 F2 H2 hp s2 w2 => ?_
  exact hv _ _ _ _ _ hp (s1.trans s2) w2 (Rep.ptr_iff.mpr rfl)
def dYes : DT := fun _ O P _ => P true O
theorem qts_nil : PTs X [] (lt g W dYes) := ⟨fun pins s σ H Q I h => pts_nil.run pins s σ H Q I (by
  obtain ⟨Δ, O, P, E, F, hT, sr, w, hv, hx⟩ := h
  exact hv.now hT w)⟩
theorem qts_one (h : PT X c (lt g W tA)) : PTs X [c] (lt g W tA) := pts_one h
/-- y = [..] on one line -/
theorem qs_asgLc {i : Nat} {y : Str} {py spos : Pos} {elt iter : Expr} {ifs : List Expr} {scope : Scope} {own : List (Str × Nat)} {t : TG} {Gd : DG} {js : List Nat} {Tt : DT} {Te : DE} (hN : X.N.Nodup) (hi : PI X tg iter (li g W R)) (ok : BlkOk X.N X.env.scope scope own)
    (hg : ∀ (s : Shared) (H : Hp) (C : Addr) (cl : List (Str × Addr)) (fp : List Addr), PG (X.blk s H scope (compEnvC scope cl C X.env) fp) tg t) (lk : LkG g t Gd js) (ht : ∀ (s : Shared) (H : Hp) (C : Addr) (cl : List (Str × Addr)) (fp : List Addr), PTs (X.blk s H scope (compEnvC scope cl C X.env) fp) ifs (lt g W0 Tt))
    (he : ∀ (s : Shared) (H : Hp) (C : Addr) (cl : List (Str × Addr)) (fp : List Addr), PE (X.blk s H scope (compEnvC scope cl C X.env) fp) elt (le g W0 Te))
    (h : PS X (.Assign [.Name y py] (.ListComp elt [⟨tg, iter, ifs, 0⟩] scope pos) spos) (tAsg (tLc (li g W R) t (lt g W0 Tt) (le g W0 Te) (own.map (·.2))) (gName i))) (hjs : ∀ j ∈ js, j ∈ own.map (·.2) := by decide) :
    PS X (.Assign [.Name y py] (.ListComp elt [⟨tg, iter, ifs, 0⟩] scope pos) spos) (ls g W (dAsg i (dLc R Gd Tt Te (own.map (·.2))))) := by
  refine ps_imp h fun En σ H ⟨D, Δ, O, F, hT, sr, w, ho⟩ => ?_
  refine ⟨Δ, O, _, _, F, hT, sr, w, fun ds O1 F1 H1 J hP s1 w1 gv => ?_, ho.toX sr⟩
  refine tlc_of (Q := fun x H1 => gName i x σ H1 En.nx) (PL := fun _ acc O2 => D.nx (Δ.set i (some (.lst acc))) O2) lk hjs hP (sr.mono s1) w1 gv fun p acc O2 F2 H2 hp s2 w2 => ?_
  obtain ⟨o, ho', hc, s3, w3⟩ := w2.freeze (a := p) (c := .lst acc) (by simp [getC])
  have s := s1.trans (s2.trans s3)
  exact ho.nx _ _ _ _ _ hp s ((sr.mono s).set (frz_rep rfl hc (w2.cel _ List.mem_cons_self).1) i) (by simpa [delC] using w3)
end

/-! ## calls -/
abbrev DSp := List D → Sto → KD → KX → Prop
def toSp (g : Gm) (S : DSp) : Sp := fun vs H Q E => ∃ F O ds P EX, Reps g F ds vs ∧ Wd g F O H ∧ S ds O P EX ∧ VOk g F P Q ∧ ∀ x O' cls dd F' H', EX x O' → Same F F' → Wd g F' O' H' → RelX g F' cls dd x → E cls dd H'
/-- the def at f keeps the promise S, by level k -/
def FN (g : Gm) (P : Program) (w : World) (K : PySem.W.Frag) (mg : Str → Option Value) (base : Heap) (k : Nat) (f : Addr) (S : DSp) : Prop := FnR P w K mg base (L2.CX P w) k f (toSp g S)
theorem FN.mono {g : Gm} {P : Program} {w : World} {K : PySem.W.Frag} {mg : Str → Option Value} {base : Heap} {j k : Nat} {f : Addr} {S : DSp} (h : FN g P w K mg base j f S) (hj : j ≤ k) : FN g P w K mg base k f S :=
  fun A outer s H us vs Q E hr => h A outer s H us vs Q E (hr.mono hj)
theorem FN.imp {g : Gm} {P : Program} {w : World} {K : PySem.W.Frag} {mg : Str → Option Value} {base : Heap} {k : Nat} {f : Addr} {S S' : DSp} (h : FN g P w K mg base k f S) (hS : ∀ ds O P E, S' ds O P E → S ds O P E) : FN g P w K mg base k f S' :=
  fun A outer s H us vs Q E hr e0 hv ⟨F, O, ds, P, EX, h1, h2, h3, h4⟩ => h A outer s H us vs Q E hr e0 hv ⟨F, O, ds, P, EX, h1, h2, hS _ _ _ _ h3, h4⟩
section
variable {g : Gm} {X : Cx} {W : WX} {pos pos' p apos : Pos} {a b c o : Expr} {es : List Expr} {Ta Tb : DE} {R : DA} {k : Nat} {f : Addr} {S : DSp} {x m : Str}
theorem run_FN {pins : List (Addr × Obj)} {σ : St} {H : Hp} {s : Shared} {Q : VK} {us : List Value} {vs : List V} (Fn : FN g X.prog X.w X.K X.mg X.base k f S) (hr : Room k X.A) (tk : Takes X W) (I : Inv X pins σ H s) (r : Vals vs us)
    (h : toSp g S vs H Q (fun cls dd H' => W cls dd σ H')) : codeAny (model X.prog X.w) X.A (.call (.ref f) ⟨us, []⟩) (fun r s' => match r with | .ok (.ret v) => EP X pins σ Q v s' | .ok _ => False | .error e => X.xe e s') s := by
  refine codeAny_mono (Fn X.A X.stack s H us vs Q _ hr I.env0 r h) fun r s' hq => ?_
  cases r with
  | error e => exact passAt tk σ pins H s e s' I hq
  | ok fl =>
    cases fl with
    | ret u => exact I.after hq
    | next => exact False.elim hq
    | brk => exact False.elim hq
    | cont => exact False.elim hq
def dCall (S : DSp) (R : DA) : DE := fun Δ O P E => R Δ O (fun ds O1 => S ds O1 P E) E
theorem sp_of {σ : St} {H1 : Hp} {Q : VK} {P : KD} {E : KX} {F F1 : Hp} {O1 : Sto} {ds : List D} {vs : List V} (h : S ds O1 P E) (rs : Reps g F1 ds vs) (w1 : Wd g F1 O1 H1) (hv : VOk g F P Q) (s1 : Same F F1) (hx : XOk g F1 W σ E) :
    toSp g S vs H1 Q (fun cls dd H' => W cls dd σ H') := ⟨F1, O1, ds, P, E, rs, w1, h, hv.mono s1, hx⟩
theorem q_call (Fn : FN g X.prog X.w X.K X.mg X.base k f S) (hr : Room k X.A) (tk : Takes X W) (hm : X.mg x = some (.ref f)) (hk : PySem.W.keepIn X.K (.ref f) = true) (ha : PA X (a :: es) (la g W R)) (hg : Gl X x := by rfl)
    (hdb : (x == ("__debug__" : Str)) = false := by decide) (he : starEach (a :: es) X.env = (false, eval a X.env) :: starEach es X.env := by rfl) (hpl : (backTo pos (starEach es X.env)).any (·.1) = false := by rfl) :
    PE X (.Call (.Name x p) (a :: es) [] pos) (le g W (dCall S R)) := by
  refine ⟨fun pins s σ H Q I h => ?_⟩
  obtain ⟨Δ, O, P, E, F, hT, sr, w, hv, hx⟩ := h
  refine wpAny_Call_Name_kw (ld_glob I hg hm ?_ hdb)
  refine PySem.W.callWith_K (h₀ := X.base) I.ok.mod.kin hk (thn (ha.run pos pins s σ H _ I (la_bind (Q := fun vs H1 => toSp g S vs H1 Q fun cls dd H' => W cls dd σ H') hT sr w hx fun ds O1 vs F1 H1 hT1 s1 sr1 w1 rs hx1 => sp_of hT1 rs w1 hv s1 hx1)) fun us s1 ⟨vs, H1, I1, r, q⟩ => ⟨I1.kIn, ?_⟩) he hpl
  exact wpAny_call (run_FN Fn hr tk I1 r q)
/-! ### a new object -/
def dMake (cl : Cl) (S : DSp) (R : DA) : DE := fun Δ O P E => R Δ O (fun ds O1 => ∀ q, freshC O1 q → S (.ptr q :: ds) ((q, .ins cl [] []) :: O1)
  (fun r O2 => r = .non ∧ (match getC O2 q with | some (.ins c' fs ds') => P (.obj c' fs ds') (delC O2 q) | _ => False)) (fun x O2 => E x (delC O2 q))) E
/-- .. that will change -/
def dMakeO (cl : Cl) (S : DSp) (R : DA) : DE := fun Δ O P E => R Δ O (fun ds O1 => ∀ q, freshC O1 q → S (.ptr q :: ds) ((q, .ins cl [] []) :: O1)
  (fun r O2 => r = .non ∧ P (.ptr q) O2) (fun x O2 => E x (delC O2 q))) E
theorem wd_made {F : Hp} {O : Sto} {H : Hp} (w : Wd g F O H) {x dx : Addr} (hx : H x = none) (hd : H dx = none) (ne : dx ≠ x) (cl : Cl) :
    Same F (upd F dx (.own x)) ∧ Wd g (upd F dx (.own x)) ((x, .ins cl [] []) :: O) (upd (upd H dx (.own x)) x (.ins (g.ca cl) dx [])) :=
  ⟨w.fsame hd, (w.frozen (o := .own x) hd).own (c := .ins cl [] []) (o := .ins (g.ca cl) dx []) (by rw [upd_ne ne.symm]; exact hx) ⟨rfl, rfl, [], rfl, Reps.nil (g := g)⟩⟩
theorem run_mk {C : Addr} {pins : List (Addr × Obj)} {σ : St} {H : Hp} {s : Shared} {Q : VK} {us : List Value} {vs : List V} (M : Mk X.K C f) (Fn : FN g X.prog X.w X.K X.mg X.base k f S) (hr : Room (k + 1) X.A) (tk : Takes X W) (I : Inv X pins σ H s) (r : Vals vs us)
    (h : ∀ x dx, H x = Option.none → H dx = Option.none → dx ≠ x → toSp g S (V.ref x :: vs) (upd (upd H dx (.own x)) x (.ins C dx [])) (fun v H2 => v = .non ∧ Q (.ref x) H2) (fun cls dd H' => W cls dd σ H')) :
    wpAny (model X.prog X.w) X.A (call (.ref C) us) (EP X pins σ Q) X.xe s := by
  have hq := h (s.heap.objs.size + 1) s.heap.objs.size (I.hok.fresh (Nat.le_succ _)) (I.hok.fresh (Nat.le_refl _)) (Nat.ne_of_lt (Nat.lt_succ_self _))
  have I2 := Inv.made (C := C) I
  have r2 : Vals (V.ref (s.heap.objs.size + 1) :: vs) (Value.ref (s.heap.objs.size + 1) :: us) := .cons rfl r
  refine wpAny_call (make_map (f := f) I.kIn M.makes M.init (beq_iff_eq.mp M.fn) (codeAny_mono (Fn _ X.stack _ _ (Value.ref (s.heap.objs.size + 1) :: us) _ _ _ (hr.make C us []) (I2.env0.make C us []) r2 hq) fun r s' hq' => ?_))
  cases r with
  | error e => exact passAt tk σ pins _ _ e s' I2 hq'
  | ok fl =>
    cases fl with
    | ret u =>
      obtain ⟨v, H', I3, rv, ev, q3⟩ := I2.after hq'
      subst ev
      exact ⟨rv, ⟨V.ref (s.heap.objs.size + 1), H', I3, rfl, q3⟩⟩
    | next => exact False.elim hq'
    | brk => exact False.elim hq'
    | cont => exact False.elim hq'
theorem mk_sp {cl : Cl} {σ : St} {H1 : Hp} {Q : VK} {P : KD} {E : KX} {F F1 : Hp} {O1 : Sto} {ds : List D} {vs : List V}
    (h : ∀ q, freshC O1 q → S (.ptr q :: ds) ((q, .ins cl [] []) :: O1) (fun r O2 => r = .non ∧ (match getC O2 q with | some (.ins c' fs ds') => P (.obj c' fs ds') (delC O2 q) | _ => False)) (fun x O2 => E x (delC O2 q)))
    (rs : Reps g F1 ds vs) (w1 : Wd g F1 O1 H1) (hv : VOk g F P Q) (s1 : Same F F1) (hx : XOk g F1 W σ E) (x dx : Addr) (nx : H1 x = none) (nd : H1 dx = none) (ne : dx ≠ x) :
    toSp g S (V.ref x :: vs) (upd (upd H1 dx (.own x)) x (.ins (g.ca cl) dx [])) (fun v H2 => v = .non ∧ Q (.ref x) H2) (fun cls dd H' => W cls dd σ H') := by
  obtain ⟨s2, w2⟩ := wd_made w1 nx nd ne cl
  refine ⟨_, _, _, _, _, Reps.cons (Rep.ptr_iff.mpr rfl) (rs.mono s2), w2, h x (w1.fresh nx), fun d O3 v F3 H3 hd s3 w3 rd => ?_, fun y O3 cls dd F3 H3 hE s3 w3 rx => ?_⟩
  · obtain ⟨e, hd⟩ := hd
    subst e
    refine ⟨Rep.non_iff.mp rd, ?_⟩
    split at hd
    · rename_i c' fs ds' eg
      obtain ⟨ob, ho, hc, s4, w4⟩ := w3.freeze eg
      exact hv _ _ _ _ _ hd (s1.trans (s2.trans (s3.trans s4))) w4 (frz_rep rfl hc (w3.get eg).1)
    · exact hd.elim
  · exact hx _ _ _ _ _ _ hE (s2.trans s3) (w3.sub (delC_sub _ _)) rx
theorem q_make {cl : Cl} (M : Mk X.K (g.ca cl) f) (Fn : FN g X.prog X.w X.K X.mg X.base k f S) (hr : Room (k + 1) X.A) (tk : Takes X W) (hm : X.mg x = some (.ref (g.ca cl))) (ha : PA X (a :: es) (la g W R)) (hg : Gl X x := by rfl)
    (hdb : (x == ("__debug__" : Str)) = false := by decide) (he : starEach (a :: es) X.env = (false, eval a X.env) :: starEach es X.env := by rfl) (hpl : (backTo pos (starEach es X.env)).any (·.1) = false := by rfl) :
    PE X (.Call (.Name x p) (a :: es) [] pos) (le g W (dMake cl S R)) := by
  refine ⟨fun pins s σ H Q I h => ?_⟩
  obtain ⟨Δ, O, P, E, F, hT, sr, w, hv, hx⟩ := h
  refine wpAny_Call_Name_kw (ld_glob I hg hm ?_ hdb)
  refine PySem.W.callWith_K (h₀ := X.base) I.ok.mod.kin M.kp (thn (ha.run pos pins s σ H _ I (la_bind (Q := fun vs H1 => ∀ x dx, H1 x = none → H1 dx = none → dx ≠ x → toSp g S (V.ref x :: vs) (upd (upd H1 dx (.own x)) x (.ins (g.ca cl) dx [])) (fun v H2 => v = .non ∧ Q (.ref x) H2) fun cls dd H' => W cls dd σ H') hT sr w hx
    fun ds O1 vs F1 H1 hT1 s1 sr1 w1 rs hx1 x dx nx nd ne => mk_sp hT1 rs w1 hv s1 hx1 x dx nx nd ne)) fun us s1 ⟨vs, H1, I1, r, q⟩ => ⟨I1.kIn, ?_⟩) he hpl
  exact run_mk M Fn hr tk I1 r q

/-! ### a method, by the class of its object -/
def clsOf (O : Sto) (d : D) : Option Cl := (objOf O d).map (·.1)
/-- class and method: the def that serves it keeps S -/
structure MOk (g : Gm) (P : Program) (w : World) (K : PySem.W.Frag) (mg : Str → Option Value) (base : Heap) (k : Nat) (cl : Cl) (m : Str) (S : DSp) : Prop where
  cls : Cls K (g.ca cl)
  ex : ∃ f, Meth K (g.ca cl) m f ∧ FN g P w K mg base k f S
def tabAt : List (Cl × DSp) → Cl → Option DSp
  | [], _ => none
  | (c, S) :: r, d => if d = c then some S else tabAt r d
def MTab (g : Gm) (P : Program) (w : World) (K : PySem.W.Frag) (mg : Str → Option Value) (base : Heap) (k : Nat) (m : Str) (tab : List (Cl × DSp)) : Prop := ∀ c S, tabAt tab c = some S → MOk g P w K mg base k c m S
def dMeth (tab : List (Cl × DSp)) (To : DE) (R : DA) : DE := fun Δ O P E => To Δ O (fun o O1 => match clsOf O1 o with
  | some c => (match tabAt tab c with | some S => R Δ O1 (fun ds O2 => S (o :: ds) O2 P E) E | none => False)
  | none => False) E
theorem obj_look {F : Hp} {O : Sto} {H : Hp} {d : D} {v : V} {c : Cl} (h : clsOf O d = some c) (r : Rep g F d v) (w : Wd g F O H) (hm : Fd.of m = none) : ∃ q dx fs, v = .ref q ∧ H q = some (.ins (g.ca c) dx fs) ∧ fs.lookup m = none := by
  unfold clsOf at h
  cases e : objOf O d with
  | none => rw [e] at h; cases h
  | some t =>
    rw [e] at h
    cases h
    obtain ⟨q, dx, vs, rfl, h1, h2, h3⟩ := obj_of e r w
    refine ⟨q, dx, _, rfl, h1, getF_none fun f _ z => ?_⟩
    rw [z, Fd.of_str] at hm
    cases hm
end
end G

set_option Elab.async false
set_option linter.all false
set_option maxRecDepth 100000
set_option maxHeartbeats 4000000
namespace G
open PySem L2
/-! ## a def keeps its promise -/
def Weak (O O' : Sto) : Prop := ∀ g F H, Wd g F O H → Wd g F O' H
def Opn (O : Sto) (R : Sto → Prop) : Prop := ∀ g F H, Wd g F O H → ∃ O', Wd g F O' H ∧ R O'
theorem Weak.refl (O : Sto) : Weak O O := fun _ _ _ w => w
theorem Weak.sub {O O' : Sto} (h : O'.Sublist O) : Weak O O' := fun _ _ _ w => w.sub h
theorem Weak.trans {O O1 O2 : Sto} (h : Weak O O1) (h' : Weak O1 O2) : Weak O O2 := fun g F H w => h' g F H (h g F H w)
theorem Weak.cons {O : Sto} {c : Addr × Cell} : Weak (c :: O) O := Weak.sub (List.sublist_cons_self _ _)
theorem Weak.cons2 {O O' : Sto} {c : Addr × Cell} (h : Weak O O') : Weak (c :: O) O' := Weak.cons.trans h
theorem Opn.now {O : Sto} {R : Sto → Prop} (h : R O) : Opn O R := fun _ _ _ w => ⟨O, w, h⟩
def boxC (cs : List Int) (i a s : Int) : Cell := .lst [.lst (cs.map D.int), .int i, .int a, .int s]
theorem setC_same {O : Sto} {a : Addr} {c : Cell} (h : getC O a = some c) : setC O a c = O := by
  induction O with
  | nil => rfl
  | cons q r ih =>
    obtain ⟨b, c0⟩ := q
    simp only [getC] at h
    simp only [setC]
    by_cases e : a = b
    · subst e
      simp at h
      subst h
      simp
    · rw [if_neg e] at h ⊢
      rw [ih h]
theorem setC_setC (O : Sto) (a : Addr) (c c' : Cell) : setC (setC O a c) a c' = setC O a c' := by
  induction O with
  | nil => rfl
  | cons q r ih =>
    obtain ⟨b, c0⟩ := q
    simp only [setC]
    by_cases e : a = b
    · subst e
      simp [setC]
    · rw [if_neg e, if_neg e]
      simp [setC, e, ih]
theorem getC_setC {O : Sto} {a : Addr} {c c' : Cell} (h : getC O a = some c) : getC (setC O a c') a = some c' := by
  induction O with
  | nil => simp [getC] at h
  | cons q r ih =>
    obtain ⟨b, c0⟩ := q
    simp only [getC] at h
    simp only [setC]
    by_cases e : a = b
    · subst e
      simp [getC]
    · rw [if_neg e] at h ⊢
      simp only [getC]
      rw [if_neg e]
      exact ih h
theorem getC_setC_ne {O : Sto} {a b : Addr} {c' : Cell} (h : b ≠ a) : getC (setC O a c') b = getC O b := by
  induction O with
  | nil => rfl
  | cons q r ih =>
    obtain ⟨d, c0⟩ := q
    simp only [setC]
    by_cases e : a = d
    · subst e
      simp [getC, h]
    · rw [if_neg e]
      simp only [getC]
      by_cases e2 : b = d
      · rw [if_pos e2, if_pos e2]
      · rw [if_neg e2, if_neg e2]
        exact ih
/-- the box opened: what is in it -/
theorem Opn.box {O : Sto} {b : Addr} {R : Sto → Prop} (h : getC O b = some .box) (k : ∀ cs i a s, cs.length ≤ 63 → 0 ≤ i → 0 ≤ a → R (setC O b (boxC cs i a s))) : Opn O R := fun g F H w => by
  obtain ⟨fa, o, ho, hc⟩ := w.get h
  cases o with
  | lst vs =>
    obtain ⟨cs, i, a, s, h1, h2, h3, h4⟩ := hc
    refine ⟨_, ?_, k cs i a s h2 h3 h4⟩
    have z := w.set h (c' := boxC cs i a s) (o := .lst vs) h1
    have e : upd H b (.lst vs) = H := by
      funext q
      by_cases z : q = b
      · rw [z, upd_same, ho]
      · rw [upd_ne z]
    rw [e] at z
    exact z
  | _ => exact hc.elim
/-- .. and shut again -/
theorem Weak.box {O : Sto} {b : Addr} {cs : List Int} {i a s : Int} (h : getC O b = some (boxC cs i a s)) (h2 : cs.length ≤ 63) (h3 : 0 ≤ i) (h4 : 0 ≤ a) : Weak O (setC O b .box) := fun g F H w => by
  obtain ⟨fa, o, ho, hc⟩ := w.get h
  cases o with
  | lst vs =>
    have z := w.set h (c' := .box) (o := .lst vs) ⟨cs, i, a, s, hc, h2, h3, h4⟩
    have e : upd H b (.lst vs) = H := by
      funext q
      by_cases z : q = b
      · rw [z, upd_same, ho]
      · rw [upd_ne z]
    rw [e] at z
    exact z
  | _ => exact hc.elim
/-- a fresh list becomes the box -/
theorem Weak.toBox {O : Sto} {b : Addr} {cs : List Int} {i a s : Int} (h2 : cs.length ≤ 63) (h3 : 0 ≤ i) (h4 : 0 ≤ a) : Weak ((b, boxC cs i a s) :: O) ((b, .box) :: O) := by
  have z := Weak.box (O := (b, boxC cs i a s) :: O) (b := b) (cs := cs) (i := i) (a := a) (s := s) (by simp [getC]) h2 h3 h4
  simpa [setC] using z

def endsD (P : KD) (E : KX) : DEnds where
  nx := fun _ O' => ∃ O1, Weak O' O1 ∧ P .non O1
  rt := fun d O' => ∃ O1, Weak O' O1 ∧ P d O1
  xc := fun x _ O' => ∃ O1, Weak O' O1 ∧ E x O1
def startD (N : List Str) (ds : List D) : Sl := ds.map some ++ List.replicate (N.length - ds.length) none
theorem srel_start {g : Gm} {F : Hp} {N : List Str} {ds : List D} {vs : List V} (h : Reps g F ds vs) : SRel g F (L2.start N vs) (startD N ds) := by
  have hl := h.length
  refine ⟨by simp [L2.start, startD, hl], fun i d q => ?_⟩
  unfold startD at q
  unfold L2.start
  by_cases hi : i < ds.length
  · rw [List.getElem?_append_left (by simpa using hi), List.getElem?_map] at q
    cases e : ds[i]? with
    | none => rw [e] at q; cases q
    | some d' =>
      rw [e] at q
      cases q
      obtain ⟨v, hv, rv⟩ := h.get e
      refine ⟨v, ?_, rv⟩
      rw [List.getElem?_append_left (by simpa [← hl] using hi), List.getElem?_map, hv]
      rfl
  · rw [List.getElem?_append_right (by simpa using hi)] at q
    have z := List.mem_of_getElem? q
    rw [List.mem_replicate] at z
    exact absurd z.2 (by simp)
section
variable {P : Program} {w : World} {K : PySem.W.Frag} {mg : Str → Option Value} {base : Heap}
abbrev wE (E : XK) : WX := fun cls dd _ H => E cls dd H
theorem fn_okF {g : Gm} {x qual : Str} {st : Stmt} {f : Addr} {fd : FuncData} {N ps : List Str} {k : Nat} {S : DSp} {T : DS} (Fn : Fun K x qual st f fd) (Sc : FnScope N ps (defScope st)) (len : ∀ ds O P E, S ds O P E → ds.length = ps.length)
    (body : ∀ (cdv : Value) (A : Around) (outer : List Env) (s : Shared) (H : Hp) (E : XK), Room k (A.deeper (PyProof.Rows.envOfC qual (defScope st) s.heap.objs.size f cdv)) →
      PSs (cxOf (L2.CX P w) P w K mg base N qual (defScope st) f cdv A outer s H E) (defBody st) (ls g (wE E) T))
    (pure : ∀ ds O P E, S ds O P E → Opn O fun O' => T (endsD P E) (startD N ds) O') : FnOk P w K mg base (L2.CX P w) (k + 1) f fd ps (toSp g S) := by
  refine Fn.okX Sc (fun vs H Q E h => ?_) fun cdv A outer s H vs Q E hr h => ⟨_, body cdv A outer s H E hr, ?_⟩
  · obtain ⟨F, O, ds, P', EX, h1, h2, h3, _⟩ := h
    rw [← h1.length]
    exact len _ _ _ _ h3
  · obtain ⟨F, O, ds, P', EX, h1, h2, h3, h4, h5⟩ := h
    obtain ⟨O', w', hT⟩ := pure ds O P' EX h3 g F H h2
    refine ⟨endsD P' EX, startD N ds, O', F, hT, srel_start h1, w', ⟨fun Δ O1 F1 σ H1 ⟨O2, wk, q⟩ s1 sr1 w1 => ?_, fun d O1 v F1 H1 ⟨O2, wk, q⟩ s1 w1 r1 => ?_, fun _ _ _ _ _ q => q.elim, fun _ _ _ _ _ q => q.elim, fun y Δ O1 cls dd F1 σ H1 ⟨O2, wk, q⟩ s1 sr1 w1 r1 => ?_⟩⟩
    · exact h4 _ _ _ _ _ q s1 (wk _ _ _ w1) (Rep.non_iff.mpr rfl)
    · exact h4 _ _ _ _ _ q s1 (wk _ _ _ w1) r1
    · exact h5 _ _ _ _ _ _ q s1 (wk _ _ _ w1) r1
theorem fn_FN {g : Gm} {f : Addr} {fd : FuncData} {ps : List Str} {k : Nat} {S : DSp} (F : FnOk P w K mg base (L2.CX P w) k f fd ps (toSp g S)) (hb : Binds K fd ps []) : FN g P w K mg base k f S :=
  fun A outer s H us vs Q E hr e0 hv h => F.run A outer s H ⟨us, []⟩ us vs Q E hr e0 (by
    have hl : us.length = ps.length := by rw [← hv.length]; exact F.len _ _ _ _ h
    have z := hb s us (e0.mod.kin.keeps fun b o e => (e0.bs b o e).1) (by rw [List.append_nil]; exact hl)
    rw [List.append_nil] at z
    exact z) hv h
end

/-! ## builtins -/
section
variable {g : Gm} {X : Cx} {W : WX} {pos pos' p : Pos} {a b c : Expr} {Ta Tb : DE}
def seqOf (O : Sto) : D → Option (List D)
  | .tup ds => some ds
  | d => lstOf O d
def lenD (O : Sto) : D → Option Nat
  | .str x => if x.length ≤ sizeLine then some x.length else none
  | .dic ks _ => some ks.length
  | .tup ds => some ds.length
  | .ptr q => match getC O q with
    | some (.lst ds) => some ds.length
    | some (.dic ks _) => some ks.length
    | _ => none
  | .lst ds => some ds.length
  | _ => none
def fLen : BC := fun ds O P => match ds with | [d] => (match lenD O d with | some n => P (.int (n : Int)) O | none => False) | _ => False
def rLenA (K : PySem.W.Frag) : List V → Hp → VK → Prop := fun xs H Q => (∃ p ys, xs = [.ref p] ∧ (SqL K H p ys ∨ SqT K H p ys) ∧ Q (.int ys.length) H) ∨ (∃ z, xs = [.str z] ∧ z.length ≤ sizeLine ∧ Q (.int z.length) H) ∨ ∃ d kvs, xs = [.ref d] ∧ Rd H d (.dK kvs) ∧ Q (.int kvs.length) H
theorem call_lenRd : CallR X (.builtin "len") (fun xs H Q => ∃ a kvs, xs = [V.ref a] ∧ Rd H a (.dK kvs) ∧ Q (.int kvs.length) H) := by
  intro pins s σ H xs us Q I r h
  obtain ⟨a, kvs, rfl, e, q⟩ := h
  obtain ⟨u, rfl, rx⟩ := vals1 r
  obtain rfl : u = Value.ref a := rx
  exact d_len I e fun t s' I' => ⟨V.int kvs.length, H, I', ⟨t, rfl⟩, q⟩
theorem call_lenA : CallR X (.builtin "len") (rLenA X.K) := CallR.or call_len_seq (CallR.or call_len_str call_lenRd)
theorem zipK_len {F : Hp} {ks : List Key} {ds : List D} {vs : List V} (h : Reps g F ds vs) (hl : ks.length = ds.length) : (zipK ks vs).length = ks.length := by
  unfold zipK
  rw [List.length_zip, ← h.length]
  omega
theorem lk_len : LkC g (rLenA g.K) fLen := by
  intro ds O P F H vs Q hf rs w hv
  unfold fLen at hf
  split at hf
  · rename_i d
    obtain ⟨v, r, rfl, h1, h2⟩ := Reps.cons_iff.mp rs
    rw [Reps.nil_iff] at h2
    subst h2
    split at hf
    · rename_i n e
      cases d with
      | str x =>
        simp only [lenD] at e
        split at e
        · rename_i hl
          cases e
          rw [Rep.str_iff.mp h1]
          exact .inr (.inl ⟨x, rfl, hl, hv.now hf w rint⟩)
        · cases e
      | tup ds =>
        obtain ⟨q, vs, rfl, h3, h4⟩ := Rep.tup_sq h1
        cases e
        exact .inl ⟨q, vs, rfl, .inr (sqt_same w.same h3), by rw [← h4.length]; exact hv.now hf w rint⟩
      | lst ds =>
        obtain ⟨q, vs, rfl, h3, h4⟩ := Rep.lst_iff.mp h1
        cases e
        exact .inl ⟨q, vs, rfl, .inl (SqL.of (w.same _ _ h3)), by rw [← h4.length]; exact hv.now hf w rint⟩
      | dic ks ds =>
        obtain ⟨q, od, vs, rfl, h3, h5, h4⟩ := Rep.dic_iff.mp h1
        cases e
        exact .inr (.inr ⟨q, _, rfl, .inr ⟨od, w.same _ _ h3⟩, by rw [zipK_len h4 h5]; exact hv.now hf w rint⟩)
      | ptr q =>
        have ev := Rep.ptr_iff.mp h1
        subst ev
        simp only [lenD] at e
        split at e
        · rename_i ds eg
          cases e
          obtain ⟨_, ob, h3, h4⟩ := w.get eg
          cases ob with
          | lst vs =>
            have h4 : Reps g F ds vs := h4
            exact .inl ⟨q, vs, rfl, .inl (SqL.of h3), by rw [← h4.length]; exact hv.now hf w rint⟩
          | _ => exact h4.elim
        · rename_i ks ds eg
          cases e
          obtain ⟨_, ob, h3, h4⟩ := w.get eg
          cases ob with
          | dK kvs =>
            obtain ⟨h5, vs, rfl, h6⟩ := h4
            exact .inr (.inr ⟨q, _, rfl, .inl h3, by rw [zipK_len h6 h5]; exact hv.now hf w rint⟩)
          | _ => exact h4.elim
        · cases e
      | _ => simp [lenD] at e
    · exact hf.elim
  · exact hf.elim
def fInt : BC := fun ds O P => match ds with | [.int i] => P (.int i) O | [.bl k] => P (.int (if k then 1 else 0)) O | _ => False
theorem lk_int : LkC g (fun xs H Q => (∃ i, xs = [.int i] ∧ Q (.int i) H) ∨ ∃ k, xs = [.bl k] ∧ Q (.int (if k then 1 else 0)) H) fInt := by
  intro ds O P F H vs Q hf rs w hv
  unfold fInt at hf
  split at hf
  · rename_i i
    obtain ⟨v, r, rfl, h1, h2⟩ := Reps.cons_iff.mp rs
    rw [Reps.nil_iff] at h2
    subst h2
    exact .inl ⟨i, by rw [Rep.int_iff.mp h1], hv.now hf w rint⟩
  · rename_i k
    obtain ⟨v, r, rfl, h1, h2⟩ := Reps.cons_iff.mp rs
    rw [Reps.nil_iff] at h2
    subst h2
    exact .inr ⟨k, by rw [Rep.bl_iff.mp h1], hv.now hf w rint⟩
  · exact hf.elim
def fNeg : D → Sto → KD → Prop := fun x O P => match x with | .int i => P (.int (-i)) O | _ => False
def dUn (f : D → Sto → KD → Prop) (T : DE) : DE := fun Δ O P E => T Δ O (fun x O1 => f x O1 P) E
theorem q_neg (ha : PE X a (le g W Ta)) : PE X (.UnaryOp .USub a pos) (le g W (dUn fNeg Ta)) := by
  refine pe_imp (pe_un un_neg ha) fun σ H Q h => ?_
  obtain ⟨Δ, O, P, E, F, hT, sr, w, hv, hx⟩ := h
  refine le_bind hT sr w hx fun d O1 v F1 H1 hT1 s1 sr1 w1 rx hx1 => ?_
  cases d with
  | int i => exact ⟨i, Rep.int_iff.mp rx, (hv.mono s1).now hT1 w1 rint⟩
  | _ => exact hT1.elim
/-- isinstance(x, T), T a built-in class -/
def tyD (O : Sto) : D → Option String
  | .non => some "NoneType"
  | .bl _ => some "bool"
  | .int _ => some "int"
  | .str _ => some "str"
  | .lst _ => some "list"
  | .ptr q => match getC O q with | some (.lst _) => some "list" | some (.dic _ _) => some "dict" | _ => none
  | .dic _ _ => some "dict"
  | _ => none
theorem ty_of {F : Hp} {O : Sto} {H : Hp} {d : D} {v : V} {n : String} (h : tyD O d = some n) (r : Rep g F d v) (w : Wd g F O H) : TyX g.K H v (.type n) := by
  cases d with
  | non => cases h; rw [Rep.non_iff.mp r]; exact .base .non
  | bl b => cases h; rw [Rep.bl_iff.mp r]; exact .base (.bl b)
  | int i => cases h; rw [Rep.int_iff.mp r]; exact .base (.int i)
  | str x => cases h; rw [Rep.str_iff.mp r]; exact .base (.str x)
  | lst ds =>
    cases h
    obtain ⟨q, vs, rfl, h3, h4⟩ := Rep.lst_iff.mp r
    exact .base (.lst (w.same _ _ h3))
  | dic ks ds =>
    cases h
    obtain ⟨q, od, vs, rfl, h3, h4⟩ := Rep.dic_iff.mp r
    exact .fDict (w.same _ _ h3)
  | ptr q =>
    rw [Rep.ptr_iff] at r
    subst r
    simp only [tyD] at h
    split at h
    · rename_i ds eg
      cases h
      obtain ⟨_, ob, h3, h4⟩ := w.get eg
      cases ob with
      | lst vs => exact .base (.lst h3)
      | _ => exact h4.elim
    · rename_i ks ds eg
      cases h
      obtain ⟨_, ob, h3, h4⟩ := w.get eg
      cases ob with
      | dK vs => exact .base (.dK h3)
      | _ => exact h4.elim
    · cases h
  | _ => simp [tyD] at h
def dIsT (n : String) (T : DE) : DE := fun Δ O P E => T Δ O (fun d O1 => match tyD O1 d with
  | some m => (match kitB m n with | some k => P (.bl k) O1 | none => False)
  | none => False) E
/-! ### slices -/
def cutD (xs : List D) (lo hi : Option Int) : List D := (xs.drop (HT.sIx xs.length 0 lo)).take (HT.sIx xs.length xs.length hi - HT.sIx xs.length 0 lo)
abbrev DO := Sl → Sto → (Option Int → Sto → Prop) → KX → Prop
def dNoP : DO := fun _ O P _ => P none O
def dPart (T : DE) : DO := fun Δ O P E => T Δ O (fun d O1 => match d with | .int i => P (some i) O1 | _ => False) E
def lo' (g : Gm) (W : WX) (T : DO) : TO := fun σ H Q => ∃ Δ O P E F, T Δ O P E ∧ SRel g F σ Δ ∧ Wd g F O H ∧ (∀ i O' F' H', P i O' → Same F F' → Wd g F' O' H' → Q i H') ∧ XOk g F W σ E
theorem po_imp {X : Cx} {e : Option Expr} {t t' : TO} (h : PO X e t) (k : ∀ σ H Q, t' σ H Q → t σ H Q) : PO X e t' := ⟨fun pins s σ H Q I q => h.run pins s σ H Q I (k _ _ _ q)⟩
theorem qo_none : PO X none (lo' g W dNoP) := po_imp po_none fun σ H Q ⟨Δ, O, P, E, F, hT, sr, w, hv, hx⟩ => hv _ _ _ _ hT (Same.refl F) w
theorem qo_some (h : PE X a (le g W Ta)) : PO X (some a) (lo' g W (dPart Ta)) := by
  refine po_imp (po_some h) fun σ H Q h => ?_
  obtain ⟨Δ, O, P, E, F, hT, sr, w, hv, hx⟩ := h
  refine le_bind hT sr w hx fun d O1 v F1 H1 hT1 s1 sr1 w1 rx hx1 => ?_
  cases d with
  | int i => exact ⟨i, Rep.int_iff.mp rx, hv _ _ _ _ hT1 s1 w1⟩
  | _ => exact hT1.elim
def dSlice (T : DE) (L U : DO) : DE := fun Δ O P E => T Δ O (fun d O1 => L Δ O1 (fun l O2 => U Δ O2 (fun u O3 => match d with
  | .scr ns => P (.lst (cutD (ns.map D.int) l u)) O3
  | _ => match lstOf O3 d with | some ds => P (.lst (cutD ds l u)) O3 | none => False) E) E) E
theorem Reps.cut {F : Hp} {ds : List D} {vs : List V} (h : Reps g F ds vs) (lo hi : Option Int) : Reps g F (cutD ds lo hi) (cutV vs lo hi) := by
  unfold cutD cutV
  rw [h.length]
  exact (h.drop _).take _
theorem q_slice {lo hi : Option Expr} {L U : DO} {p2 : Pos} (ha : PE X a (le g W Ta)) (hl : PO X lo (lo' g W L)) (hu : PO X hi (lo' g W U)) (hK : X.K = g.K := by rfl) : PE X (.Subscript a (.Slice lo hi none p2) pos) (le g W (dSlice Ta L U)) := by
  refine pe_imp (pe_slice sl_list ha hl hu) fun σ H Q h => ?_
  obtain ⟨Δ, O, P, E, F, hT, sr, w, hv, hx⟩ := h
  refine le_bind hT sr w hx fun d O1 v F1 H1 hT1 s1 sr1 w1 rx hx1 => ⟨Δ, O1, _, E, F1, hT1, sr1, w1, fun l O2 F2 H2 hT2 s2 w2 => ⟨Δ, O2, _, E, F2, hT2, sr1.mono s2, w2, fun u O3 F3 H3 hT3 s3 w3 => ?_, hx1.mono s2⟩, hx1⟩
  have s13 : Same F F3 := s1.trans (s2.trans s3)
  have r3 := rx.mono (s2.trans s3)
  have key : (match lstOf O3 d with | some ds => P (.lst (cutD ds l u)) O3 | none => False) → rSlL X.K v l u H3 Q := by
    intro hf
    split at hf
    · rename_i ds e
      obtain ⟨q, vs, rfl, h1, h2⟩ := lst_of e r3 w3
      exact ⟨q, vs, rfl, SqL.of h1, fun t ht => hv _ _ _ _ _ hf (s13.trans (w3.fsame ht)) (w3.frozen ht) ((h2.cut l u).newL (w3.same.free ht))⟩
    · exact hf.elim
  cases d with
  | scr ns =>
    obtain ⟨q, rfl, h1⟩ := Rep.scr_iff.mp r3
    refine ⟨q, ns.map V.int, rfl, by rw [hK]; exact w3.same.seq h1, fun t ht => hv _ _ _ _ _ hT3 (s13.trans (w3.fsame ht)) (w3.frozen ht) ?_⟩
    exact ((Reps.ints (g := g) (F := F3)).mpr rfl |>.cut l u).newL (w3.same.free ht)
  | _ => exact key hT3
end
end G

set_option Elab.async false
set_option linter.all false
set_option maxRecDepth 100000
set_option maxHeartbeats 4000000
namespace G
open PySem L2
/-! ## == of plain data -/
mutual
def py : D → Option PyData
  | .non => some .none
  | .bl b => some (.bool b)
  | .int i => some (.int i)
  | .str x => some (.str x)
  | .lst ds => (pys ds).map .list
  | .tup ds => (pys ds).map .tuple
  | _ => none
def pys : List D → Option (List PyData)
  | [] => some []
  | d :: ds => match py d, pys ds with | some x, some xs => some (x :: xs) | _, _ => none
end
section
variable {g : Gm}
mutual
theorem py_dp {F : Hp} {O : Sto} {H : Hp} (w : Wd g F O H) : ∀ {d : D} {v : V} {x : PyData}, py d = some x → Rep g F d v → Dp g.K H v x
  | .non, v, x, h, r => by simp only [py] at h; cases h; rw [Rep.non_iff.mp r]; exact .non
  | .bl b, v, x, h, r => by simp only [py] at h; cases h; rw [Rep.bl_iff.mp r]; exact .bl b
  | .int b, v, x, h, r => by simp only [py] at h; cases h; rw [Rep.int_iff.mp r]; exact .int b
  | .str b, v, x, h, r => by simp only [py] at h; cases h; rw [Rep.str_iff.mp r]; exact .str b
  | .lst ds, v, x, h, r => by
    simp only [py] at h
    obtain ⟨p, vs, rfl, h1, h2⟩ := Rep.lst_iff.mp r
    cases e : pys ds with
    | none => rw [e] at h; cases h
    | some xs =>
      rw [e] at h
      cases h
      exact .lst (SqL.of (w.same _ _ h1)) (pys_dp w e h2)
  | .tup ds, v, x, h, r => by
    simp only [py] at h
    obtain ⟨p, vs, rfl, h1, h2⟩ := Rep.tup_sq r
    cases e : pys ds with
    | none => rw [e] at h; cases h
    | some xs =>
      rw [e] at h
      cases h
      exact .tup (sqt_same w.same h1) (pys_dp w e h2)
  | .obj _ _ _, v, x, h, r => by simp [py] at h
  | .dic _ _, v, x, h, r => by simp [py] at h
  | .ptr _, v, x, h, r => by simp [py] at h
  | .scr _, v, x, h, r => by simp [py] at h
  | .cls _, v, x, h, r => by simp [py] at h
  | .xcp _ _ _ _, v, x, h, r => by simp [py] at h
theorem pys_dp {F : Hp} {O : Sto} {H : Hp} (w : Wd g F O H) : ∀ {ds : List D} {vs : List V} {xs : List PyData}, pys ds = some xs → Reps g F ds vs → DpAll g.K H vs xs
  | [], vs, xs, h, r => by
    simp only [pys] at h
    cases h
    rw [Reps.nil_iff] at r
    subst r
    exact .nil
  | d :: ds, vs, xs, h, r => by
    obtain ⟨v, rr, rfl, h1, h2⟩ := Reps.cons_iff.mp r
    simp only [pys] at h
    cases e1 : py d with
    | none => rw [e1] at h; cases h
    | some x =>
      cases e2 : pys ds with
      | none => rw [e1, e2] at h; cases h
      | some xs' =>
        rw [e1, e2] at h
        cases h
        exact .cons (py_dp w e1 h1) (pys_dp w e2 h2)
end
end
/-- the answer of x == y -/
def eqB (x y : D) : Option Bool := match x, y with
  | .int i, .int j => some (decide (i = j))
  | .bl i, .bl j => some (decide (i = j))
  | .str i, .str j => some (decide (i = j))
  | _, _ => match py x, py y with
    | some a, some b => if SeqAt.shaped a = true ∧ SeqAt.shaped b = true then some (PyData.eqv a b) else none
    | _, _ => none
def fEq : B2 := fun x y O P => match eqB x y with | some k => P (.bl k) O | none => False
def fNe : B2 := fun x y O P => match eqB x y with | some k => P (.bl (!k)) O | none => False
def rEqA (K : PySem.W.Frag) : R2 := fun x y H Q => rEq x y H Q ∨ rEqD K x y H Q
def rNeA (K : PySem.W.Frag) : R2 := fun x y H Q => rNe x y H Q ∨ rNeD K x y H Q
section
variable {g : Gm} {X : Cx} {W : WX} {pos pos' p : Pos} {a b c : Expr} {Ta Tb : DE}
theorem op_eqA (hu : X.A.units + 64 < cLine) (hK : X.K = g.K := by rfl) : OpR X (compareOp .Eq) (rEqA g.K) := by
  rw [← hK]
  exact OpR.or op_eq (op_eqD hu)
theorem op_neA (hu : X.A.units + 64 < cLine) (hK : X.K = g.K := by rfl) : OpR X (compareOp .NotEq) (rNeA g.K) := by
  rw [← hK]
  exact OpR.or op_ne (op_neD hu)
theorem eqB_cases {x y : D} {k : Bool} (h : eqB x y = some k) : (∃ i j, x = .int i ∧ y = .int j ∧ k = decide (i = j)) ∨ (∃ i j, x = .bl i ∧ y = .bl j ∧ k = decide (i = j)) ∨ (∃ i j, x = .str i ∧ y = .str j ∧ k = decide (i = j)) ∨
    ∃ d e, py x = some d ∧ py y = some e ∧ SeqAt.shaped d = true ∧ SeqAt.shaped e = true ∧ k = PyData.eqv d e := by
  unfold eqB at h
  split at h
  · exact .inl ⟨_, _, rfl, rfl, (Option.some.inj h).symm⟩
  · exact .inr (.inl ⟨_, _, rfl, rfl, (Option.some.inj h).symm⟩)
  · exact .inr (.inr (.inl ⟨_, _, rfl, rfl, (Option.some.inj h).symm⟩))
  · split at h
    · rename_i d e h1 h2
      split at h
      · rename_i hs
        exact .inr (.inr (.inr ⟨d, e, h1, h2, hs.1, hs.2, (Option.some.inj h).symm⟩))
      · cases h
    · cases h
theorem lk_eq : Lk2 g (rEqA g.K) fEq := by
  intro x y O P F H vx vy Q hf rx ry w hv
  unfold fEq at hf
  split at hf
  · rename_i k e
    rcases eqB_cases e with ⟨i, j, rfl, rfl, rfl⟩ | ⟨i, j, rfl, rfl, rfl⟩ | ⟨i, j, rfl, rfl, rfl⟩ | ⟨d, e', h1, h2, h3, h4, rfl⟩
    · rw [Rep.int_iff.mp rx, Rep.int_iff.mp ry]
      refine .inl ⟨rfl, ?_⟩
      have z : decide (V.int i = V.int j) = decide (i = j) := by simp
      rw [z]
      exact hv.now hf w rbl
    · rw [Rep.bl_iff.mp rx, Rep.bl_iff.mp ry]
      refine .inl ⟨rfl, ?_⟩
      have z : decide (V.bl i = V.bl j) = decide (i = j) := by simp
      rw [z]
      exact hv.now hf w rbl
    · rw [Rep.str_iff.mp rx, Rep.str_iff.mp ry]
      refine .inl ⟨rfl, ?_⟩
      have z : decide (V.str i = V.str j) = decide (i = j) := by simp
      rw [z]
      exact hv.now hf w rbl
    · exact .inr ⟨d, e', py_dp w h1 rx, py_dp w h2 ry, h3, h4, hv.now hf w rbl⟩
  · exact hf.elim
theorem lk_ne : Lk2 g (rNeA g.K) fNe := by
  intro x y O P F H vx vy Q hf rx ry w hv
  unfold fNe at hf
  split at hf
  · rename_i k e
    rcases eqB_cases e with ⟨i, j, rfl, rfl, rfl⟩ | ⟨i, j, rfl, rfl, rfl⟩ | ⟨i, j, rfl, rfl, rfl⟩ | ⟨d, e', h1, h2, h3, h4, rfl⟩
    · rw [Rep.int_iff.mp rx, Rep.int_iff.mp ry]
      refine .inl ⟨rfl, ?_⟩
      have z : decide (V.int i = V.int j) = decide (i = j) := by simp
      rw [z]
      exact hv.now hf w rbl
    · rw [Rep.bl_iff.mp rx, Rep.bl_iff.mp ry]
      refine .inl ⟨rfl, ?_⟩
      have z : decide (V.bl i = V.bl j) = decide (i = j) := by simp
      rw [z]
      exact hv.now hf w rbl
    · rw [Rep.str_iff.mp rx, Rep.str_iff.mp ry]
      refine .inl ⟨rfl, ?_⟩
      have z : decide (V.str i = V.str j) = decide (i = j) := by simp
      rw [z]
      exact hv.now hf w rbl
    · exact .inr ⟨d, e', py_dp w h1 rx, py_dp w h2 ry, h3, h4, hv.now hf w rbl⟩
  · exact hf.elim
end

/-! ## what the top has written -/
/-- the names of builtins that the program's top leaves alone -/
structure Bt (mg : Str → Option Value) : Prop where
  len : mg "len" = none
  int : mg "int" = none
  bool : mg "bool" = none
  str : mg "str" = none
  isinstance : mg "isinstance" = none
  range : mg "range" = none
  max : mg "max" = none
  min : mg "min" = none
  abs : mg "abs" = none
  sorted : mg "sorted" = none
  sum : mg "sum" = none
  any : mg "any" = none
  all : mg "all" = none
  list : mg "list" = none
  dict : mg "dict" = none
  tuple : mg "tuple" = none
  enumerate : mg "enumerate" = none
  zip : mg "zip" = none
  repr : mg "repr" = none
  iter : mg "iter" = none
  super : mg "super" = none
section
variable (g : Gm) (P : Program) (w : World) (K : PySem.W.Frag) (mg : Str → Option Value) (base : Heap)
/-- the def of that name keeps S -/
def GD (k : Nat) (name : Str) (S : DSp) : Prop := ∃ f, mg name = some (.ref f) ∧ PySem.W.keepIn K (.ref f) = true ∧ FN g P w K mg base k f S
/-- the class of that name can be made, its __init__ keeps S -/
def GC (k : Nat) (cl : Cl) (name : Str) (S : DSp) : Prop := mg name = some (.ref (g.ca cl)) ∧ ∃ f, Mk K (g.ca cl) f ∧ FN g P w K mg base k f S
end
section
variable {g : Gm} {P : Program} {w : World} {K : PySem.W.Frag} {mg : Str → Option Value} {base : Heap}
/-- what a def's body needs: its walk, for every place it stands at -/
def BodyOk (g : Gm) (P : Program) (w : World) (K : PySem.W.Frag) (mg : Str → Option Value) (base : Heap) (k : Nat) (N : List Str) (qual : Str) (st : Stmt) (T : DS) : Prop :=
  ∀ (f : Addr) (cdv : Value) (A : Around) (outer : List Env) (s : Shared) (H : Hp) (E : XK), Room k (A.deeper (PyProof.Rows.envOfC qual (defScope st) s.heap.objs.size f cdv)) →
      PSs (cxOf (L2.CX P w) P w K mg base N qual (defScope st) f cdv A outer s H E) (defBody st) (ls g (wE E) T)
/-- the promise follows from the body's reading -/
def Pure (N : List Str) (n : Nat) (S : DSp) (T : DS) : Prop := ∀ ds O P E, S ds O P E → ds.length = n ∧ Opn O fun O' => T (endsD P E) (startD N ds) O'
theorem GD.mono {j k : Nat} {name : Str} {S : DSp} (h : GD g P w K mg base j name S) (hj : j ≤ k) : GD g P w K mg base k name S := by
  obtain ⟨f, h1, h2, h3⟩ := h
  exact ⟨f, h1, h2, h3.mono hj⟩
theorem MOk.mono {j k : Nat} {cl : Cl} {name : Str} {S : DSp} (h : MOk g P w K mg base j cl name S) (hj : j ≤ k) : MOk g P w K mg base k cl name S := by
  obtain ⟨h1, f, h2, h3⟩ := h
  exact ⟨h1, f, h2, h3.mono hj⟩
theorem mt_nil {k : Nat} {m : Str} : MTab g P w K mg base k m [] := fun c S h => by simp [tabAt] at h
theorem mt_cons {k : Nat} {m : Str} {cl : Cl} {S : DSp} {r : List (Cl × DSp)} (h : MOk g P w K mg base k cl m S) (t : MTab g P w K mg base k m r) : MTab g P w K mg base k m ((cl, S) :: r) := fun c S' e => by
  simp only [tabAt] at e
  by_cases q : c = cl
  · rw [if_pos q] at e
    cases e
    rw [q]
    exact h
  · rw [if_neg q] at e
    exact t c S' e
end
section
variable {g : Gm} {X : Cx} {W : WX} {pos pos' p : Pos} {a b c : Expr} {es : List Expr} {R : DA} {k j : Nat} {x : Str} {S : DSp} {cl : Cl}
theorem q_gcall (h : GD g X.prog X.w X.K X.mg X.base k x S) (hr : Room j X.A) (tk : Takes X W) (ha : PA X (a :: es) (la g W R)) (hkj : k ≤ j := by first | decide | omega) (hg : Gl X x := by rfl)
    (hdb : (x == ("__debug__" : Str)) = false := by decide) (he : starEach (a :: es) X.env = (false, eval a X.env) :: starEach es X.env := by rfl) (hpl : (backTo pos (starEach es X.env)).any (·.1) = false := by rfl) :
    PE X (.Call (.Name x p) (a :: es) [] pos) (le g W (dCall S R)) := by
  obtain ⟨f, hm, hk, Fn⟩ := h
  exact q_call Fn (hr.mono hkj) tk hm hk ha hg hdb he hpl
theorem q_gmake (h : GC g X.prog X.w X.K X.mg X.base k cl x S) (hr : Room j X.A) (tk : Takes X W) (ha : PA X (a :: es) (la g W R)) (hkj : k + 1 ≤ j := by first | decide | omega) (hg : Gl X x := by rfl)
    (hdb : (x == ("__debug__" : Str)) = false := by decide) (he : starEach (a :: es) X.env = (false, eval a X.env) :: starEach es X.env := by rfl) (hpl : (backTo pos (starEach es X.env)).any (·.1) = false := by rfl) :
    PE X (.Call (.Name x p) (a :: es) [] pos) (le g W (dMake cl S R)) := by
  obtain ⟨hm, f, mk, Fn⟩ := h
  exact q_make mk Fn (hr.mono hkj) tk hm ha hg hdb he hpl
/-- a statement's list is frozen ahead of it -/
def dFrzS (i : Nat) (T : DS) : DS := fun D Δ O => match Δ[i]? with
  | some (some (.ptr q)) => (match getC O q with | some c => (match frzD c with | some d => T D (Δ.set i (some d)) (delC O q) | none => False) | none => False)
  | _ => False
end
end G

set_option Elab.async false
set_option linter.all false
set_option maxRecDepth 100000
set_option maxHeartbeats 4000000
namespace G
open PySem L2
/-! ## reading by rewriting -/
section
variable {Δ : Sl} {O : Sto} {P : KD} {E : KX} {En : DEnds} {Ta Tb Tc : DE} {T U : DS} {R : DA} {t u : DT} {i j : Nat} {d x y : D} {PB : Bool → Sto → Prop} {PA : List D → Sto → Prop}
/-- the value in a slot -/
def sl (Δ : Sl) (i : Nat) : Option D := match Δ[i]? with | some o => o | none => none
theorem e_v0 {r : Sl} : dVar 0 (some d :: r) O P E = P d O := propext Iff.rfl
theorem e_vS {o : Option D} {r : Sl} : dVar (i + 1) (o :: r) O P E = dVar i r O P E := by
  unfold dVar
  rw [List.getElem?_cons_succ]
theorem e_seq : dSeq T U En Δ O = T { En with nx := U En } Δ O := propext Iff.rfl
theorem e_asg : dAsg i Ta En Δ O = Ta Δ O (fun d O1 => En.nx (Δ.set i (some d)) O1) (fun x O1 => En.xc x Δ O1) := propext Iff.rfl
theorem e_exp : dExp Ta En Δ O = Ta Δ O (fun _ O1 => En.nx Δ O1) (fun x O1 => En.xc x Δ O1) := propext Iff.rfl
theorem e_ret : dRet Ta En Δ O = Ta Δ O En.rt (fun x O1 => En.xc x Δ O1) := propext Iff.rfl
theorem e_retN : dRetN En Δ O = En.rt .non O := propext Iff.rfl
theorem e_ifS : dIfS t T U En Δ O = t Δ O (fun k O1 => if k = true then T En Δ O1 else U En Δ O1) (fun x O1 => En.xc x Δ O1) := propext Iff.rfl
theorem e_next : dNext En Δ O = En.nx Δ O := propext Iff.rfl
theorem e_nev : dNev En Δ O = False := propext Iff.rfl
theorem e_c : dC d Δ O P E = P d O := propext Iff.rfl
theorem e_op {f : B2} : dOp f Ta Tb Δ O P E = Ta Δ O (fun x O1 => Tb Δ O1 (fun y O2 => f x y O2 P) E) E := propext Iff.rfl
theorem e_un {f : D → Sto → KD → Prop} : dUn f Ta Δ O P E = Ta Δ O (fun x O1 => f x O1 P) E := propext Iff.rfl
theorem e_te : dTe Ta Δ O PB E = Ta Δ O (fun d O1 => match d with | .bl k => PB k O1 | _ => False) E := propext Iff.rfl
theorem e_tru : dTru Ta Δ O PB E = Ta Δ O (fun d O1 => match truD O1 d with | some k => PB k O1 | none => False) E := propext Iff.rfl
theorem e_and : dAnd t u Δ O PB E = t Δ O (fun k O1 => if k = true then u Δ O1 PB E else PB false O1) E := propext Iff.rfl
theorem e_or : dOr t u Δ O PB E = t Δ O (fun k O1 => if k = true then PB true O1 else u Δ O1 PB E) E := propext Iff.rfl
theorem e_not : dNot t Δ O PB E = t Δ O (fun k O1 => PB (!k) O1) E := propext Iff.rfl
theorem e_andV : dAndV Ta Tb Δ O P E = Ta Δ O (fun d O1 => match d with | .bl k => (if k = true then Tb Δ O1 P E else P (.bl false) O1) | _ => False) E := propext Iff.rfl
theorem e_orV : dOrV Ta Tb Δ O P E = Ta Δ O (fun d O1 => match d with | .bl k => (if k = true then P (.bl true) O1 else Tb Δ O1 P E) | _ => False) E := propext Iff.rfl
theorem e_notV : dNotV Ta Δ O P E = Ta Δ O (fun d O1 => match d with | .bl k => P (.bl (!k)) O1 | _ => False) E := propext Iff.rfl
theorem e_if : dIf t Ta Tb Δ O P E = t Δ O (fun k O1 => if k = true then Ta Δ O1 P E else Tb Δ O1 P E) E := propext Iff.rfl
theorem e_chain {f f' : B2} : dChain f f' Ta Tb Tc Δ O P E = Ta Δ O (fun x O1 => Tb Δ O1 (fun y O2 => f x y O2 (fun z O3 => match z with | .bl k => (if k = true then Tc Δ O3 (fun t O4 => f' y t O4 P) E else P (.bl false) O3) | _ => False)) E) E := propext Iff.rfl
theorem e_nil : dNil Δ O PA E = PA [] O := propext Iff.rfl
theorem e_cons : dCons Ta R Δ O PA E = Ta Δ O (fun d O1 => R Δ O1 (fun ds O2 => PA (d :: ds) O2) E) E := propext Iff.rfl
theorem e_tup : dTup R Δ O P E = R Δ O (fun ds O1 => ds.length ≤ sizeLine ∧ P (.tup ds) O1) E := propext Iff.rfl
theorem e_lst : dLst R Δ O P E = R Δ O (fun ds O1 => ds.length ≤ sizeLine ∧ P (.lst ds) O1) E := propext Iff.rfl
theorem e_lstO : dLstO R Δ O P E = R Δ O (fun ds O1 => ds.length ≤ sizeLine ∧ ∀ p, freshC O1 p → P (.ptr p) ((p, .lst ds) :: O1)) E := propext Iff.rfl
theorem e_cb {f : BC} : dCB f R Δ O P E = R Δ O (fun ds O1 => f ds O1 P) E := propext Iff.rfl
theorem e_call {S : DSp} : dCall S R Δ O P E = R Δ O (fun ds O1 => S ds O1 P E) E := propext Iff.rfl
theorem e_fld {cs : List Cl} {f : Fd} : dFld cs f Ta Δ O P E = Ta Δ O (fun d O1 => match objOf O1 d with
  | some t => t.1 ∈ cs ∧ (match getF f t.2.1 t.2.2 with | some e => P e O1 | none => False)
  | none => False) E := propext Iff.rfl
theorem e_frz : dFrz Ta Δ O P E = Ta Δ O (fun d O1 => match d with
  | .ptr a => (match getC O1 a with | some c => (match frzD c with | some d' => P d' (delC O1 a) | none => False) | none => False)
  | _ => False) E := propext Iff.rfl
theorem e_app : dApp Ta Tb Δ O P E = Ta Δ O (fun o O1 => match o with
  | .ptr p => (match getC O1 p with
    | some (.lst _) => Tb Δ O1 (fun d O2 => match getC O2 p with
      | some (.lst ds) => ds.length < sizeLine ∧ P .non (setC O2 p (.lst (ds ++ [d])))
      | _ => False) E
    | _ => False)
  | _ => False) E := propext Iff.rfl
theorem e_setIx : dSetIx Ta Tb Tc En Δ O = Tc Δ O (fun d O1 => Ta Δ O1 (fun o O2 => Tb Δ O2 (fun i O3 => match o, i with
  | .ptr p, .int k => (match getC O3 p with
    | some (.lst ds) => (match setI ds k d with | some es => En.nx Δ (setC O3 p (.lst es)) | none => False)
    | _ => False)
  | _, _ => False) (fun x O1 => En.xc x Δ O1)) (fun x O1 => En.xc x Δ O1)) (fun x O1 => En.xc x Δ O1) := propext Iff.rfl
theorem set_0 {a d : D} {r : List D} : setI (a :: r) 0 d = some (d :: r) := by
  have h : ixN (a :: r).length 0 = some 0 := by unfold ixN; rw [if_pos (by omega), if_pos (by simp only [List.length_cons]; omega)]; rfl
  unfold setI
  rw [h]
  rfl
theorem set_1 {a b d : D} {r : List D} : setI (a :: b :: r) 1 d = some (a :: d :: r) := by
  have h : ixN (a :: b :: r).length 1 = some 1 := by unfold ixN; rw [if_pos (by omega), if_pos (by simp only [List.length_cons]; omega)]; rfl
  unfold setI
  rw [h]
  rfl
theorem set_2 {a b c d : D} {r : List D} : setI (a :: b :: c :: r) 2 d = some (a :: b :: d :: r) := by
  have h : ixN (a :: b :: c :: r).length 2 = some 2 := by unfold ixN; rw [if_pos (by omega), if_pos (by simp only [List.length_cons]; omega)]; rfl
  unfold setI
  rw [h]
  rfl
theorem set_3 {a b c e d : D} {r : List D} : setI (a :: b :: c :: e :: r) 3 d = some (a :: b :: c :: d :: r) := by
  have h : ixN (a :: b :: c :: e :: r).length 3 = some 3 := by unfold ixN; rw [if_pos (by omega), if_pos (by simp only [List.length_cons]; omega)]; rfl
  unfold setI
  rw [h]
  rfl
theorem e_setF {cs : List Cl} {f : Fd} : dSetF cs f Ta Tb En Δ O = Tb Δ O (fun d O1 => Ta Δ O1 (fun o O2 => match o with
  | .ptr p => (match getC O2 p with
    | some (.ins c fs ds) => c ∈ cs ∧ fs.length < 900 ∧ En.nx Δ (setC O2 p (.ins c (putFs f fs) (putDs f d fs ds)))
    | _ => False)
  | _ => False) (fun x O1 => En.xc x Δ O1)) (fun x O1 => En.xc x Δ O1) := propext Iff.rfl
theorem e_isT {n : String} : dIsT n Ta Δ O P E = Ta Δ O (fun d O1 => match tyD O1 d with
  | some m => (match kitB m n with | some k => P (.bl k) O1 | none => False)
  | none => False) E := propext Iff.rfl
/-! ### operations on made data -/
theorem f_ixT {ds : List D} {i : Int} : fIx (.tup ds) (.int i) O P = (match atI ds i with | some d => P d O | none => False) := propext Iff.rfl
theorem f_ixL {ds : List D} {i : Int} : fIx (.lst ds) (.int i) O P = (match atI ds i with | some d => P d O | none => False) := propext Iff.rfl
theorem f_ixP {a : Addr} {i : Int} : fIx (.ptr a) (.int i) O P = (match lstOf O (.ptr a) with | some ds => (match atI ds i with | some d => P d O | none => False) | none => False) := propext Iff.rfl
theorem f_add {i j : Int} : fAdd (.int i) (.int j) O P = P (.int (i + j)) O := propext Iff.rfl
theorem f_sub {i j : Int} : fSub (.int i) (.int j) O P = P (.int (i - j)) O := propext Iff.rfl
theorem f_mul {i j : Int} : fMul (.int i) (.int j) O P = (CMul i j ∧ P (.int (i * j)) O) := propext Iff.rfl
theorem f_mod {i j : Int} : fMod (.int i) (.int j) O P = (0 < j ∧ P (.int (i % j)) O) := propext Iff.rfl
theorem f_div {i j : Int} : fDiv (.int i) (.int j) O P = (CDiv i j ∧ P (.int (i / j)) O) := propext Iff.rfl
theorem f_pow {i j : Int} : fPow (.int i) (.int j) O P = (CPow i j ∧ P (.int (i ^ j.toNat)) O) := propext Iff.rfl
theorem f_lt {i j : Int} : fLt (.int i) (.int j) O P = P (.bl (decide (i < j))) O := propext Iff.rfl
theorem f_le {i j : Int} : fLe (.int i) (.int j) O P = P (.bl (decide (i ≤ j))) O := propext Iff.rfl
theorem f_gt {i j : Int} : fGt (.int i) (.int j) O P = P (.bl (decide (j < i))) O := propext Iff.rfl
theorem f_ge {i j : Int} : fGe (.int i) (.int j) O P = P (.bl (decide (j ≤ i))) O := propext Iff.rfl
theorem f_eq {i j : Int} : fEq (.int i) (.int j) O P = P (.bl (decide (i = j))) O := propext Iff.rfl
theorem f_ne {i j : Int} : fNe (.int i) (.int j) O P = P (.bl (!decide (i = j))) O := propext Iff.rfl
theorem f_int {i : Int} : fInt [.int i] O P = P (.int i) O := propext Iff.rfl
theorem f_neg {i : Int} : fNeg (.int i) O P = P (.int (-i)) O := propext Iff.rfl
theorem f_lenL {ds : List D} : fLen [.lst ds] O P = P (.int (ds.length : Int)) O := propext Iff.rfl
theorem f_lenT {ds : List D} : fLen [.tup ds] O P = P (.int (ds.length : Int)) O := propext Iff.rfl
theorem f_lenP {a : Addr} : fLen [.ptr a] O P = (match lenD O (.ptr a) with | some n => P (.int (n : Int)) O | none => False) := propext Iff.rfl
theorem l_ptr {a : Addr} {ds : List D} (h : getC O a = some (.lst ds)) : lstOf O (.ptr a) = some ds := by simp only [lstOf, h]
theorem getC_self {a : Addr} {c : Cell} : getC ((a, c) :: O) a = some c := by simp [getC]
theorem getC_other {a b : Addr} {c : Cell} (h : a ≠ b) : getC ((b, c) :: O) a = getC O a := by simp [getC, h]
theorem setC_self {a : Addr} {c c' : Cell} : setC ((a, c) :: O) a c' = (a, c') :: O := by simp [setC]
theorem delC_self {a : Addr} {c : Cell} : delC ((a, c) :: O) a = O := by simp [delC]
theorem setC_other {a b : Addr} {c c' : Cell} (h : a ≠ b) : setC ((b, c) :: O) a c' = (b, c) :: setC O a c' := by simp [setC, h]
theorem delC_other {a b : Addr} {c : Cell} (h : a ≠ b) : delC ((b, c) :: O) a = (b, c) :: delC O a := by simp [delC, h]
theorem at_0 {a : D} {r : List D} : atI (a :: r) 0 = some a := atI_nat (j := 0) rfl
theorem at_1 {a b : D} {r : List D} : atI (a :: b :: r) 1 = some b := atI_nat (j := 1) rfl
theorem at_2 {a b c : D} {r : List D} : atI (a :: b :: c :: r) 2 = some c := atI_nat (j := 2) rfl
theorem at_3 {a b c e : D} {r : List D} : atI (a :: b :: c :: e :: r) 3 = some e := atI_nat (j := 3) rfl
theorem f_ixT0 {a : D} {r : List D} : fIx (.tup (a :: r)) (.int 0) O P = P a O := by rw [f_ixT, at_0]
theorem f_ixT1 {a b : D} {r : List D} : fIx (.tup (a :: b :: r)) (.int 1) O P = P b O := by rw [f_ixT, at_1]
theorem f_ixT2 {a b c : D} {r : List D} : fIx (.tup (a :: b :: c :: r)) (.int 2) O P = P c O := by rw [f_ixT, at_2]
theorem f_ixL0 {a : D} {r : List D} : fIx (.lst (a :: r)) (.int 0) O P = P a O := by rw [f_ixL, at_0]
theorem f_ixL1 {a b : D} {r : List D} : fIx (.lst (a :: b :: r)) (.int 1) O P = P b O := by rw [f_ixL, at_1]
theorem f_ixL2 {a b c : D} {r : List D} : fIx (.lst (a :: b :: c :: r)) (.int 2) O P = P c O := by rw [f_ixL, at_2]
theorem f_ixL3 {a b c e : D} {r : List D} : fIx (.lst (a :: b :: c :: e :: r)) (.int 3) O P = P e O := by rw [f_ixL, at_3]
theorem at_m1 {l : List D} {a : D} : atI (l ++ [a]) (-1) = some a := atI_last l a
end
end G

set_option Elab.async false
set_option linter.all false
set_option maxRecDepth 100000
set_option maxHeartbeats 4000000
namespace G
open PySem L2
/-! ## loops over plain data -/
inductive All2 {α β : Type} (R : α → β → Prop) : List α → List β → Prop
  | nil : All2 R [] []
  | cons {a : α} {b : β} {as : List α} {bs : List β} : R a b → All2 R as bs → All2 R (a :: as) (b :: bs)
theorem All2.length {α β : Type} {R : α → β → Prop} {as : List α} {bs : List β} (h : All2 R as bs) : as.length = bs.length := by
  induction h with
  | nil => rfl
  | cons _ _ ih => simp [ih]
section
variable {Δ : Sl} {O : Sto} {P : KD} {E : KX} {En : DEnds} {Ta Tb Tc : DE} {T U : DS} {R : DA} {t u : DT} {i j : Nat} {d x y : D} {PB : Bool → Sto → Prop} {PA : List D → Sto → Prop}
  {Gd : DG} {Tt : DT} {Te : DE} {p : Addr} {vs : List Nat}
theorem e_itL : dItL Ta Δ O PA E = Ta Δ O (fun d O1 => match d with | .lst ds => PA ds O1 | _ => False) E := propext Iff.rfl
theorem e_itT : dItT Ta Δ O PA E = Ta Δ O (fun d O1 => match d with | .tup ds => PA ds O1 | _ => False) E := propext Iff.rfl
theorem e_rng1 : dRng1 R Δ O PA E = R Δ O (fun ds O1 => match ds with | [.int j] => -(2 ^ 62) ≤ j ∧ j < 2 ^ 62 ∧ PA (rangeD 0 j.toNat) O1 | _ => False) E := propext Iff.rfl
theorem e_rng2 : dRng2 R Δ O PA E = R Δ O (fun ds O1 => match ds with | [.int i, .int j] => (-(2 ^ 62) ≤ i ∧ i < 2 ^ 62 ∧ -(2 ^ 62) ≤ j ∧ j < 2 ^ 62) ∧ PA (rangeD i (j - i).toNat) O1 | _ => False) E := propext Iff.rfl
theorem e_yes : dYes Δ O PB E = PB true O := propext Iff.rfl
theorem e_gn {Q : Sl → Prop} : dgN i d Δ Q = Q (Δ.set i (some d)) := propext Iff.rfl
theorem e_lc : dLc R Gd Tt Te vs Δ O P E = R Δ O (fun ds O1 => ds.length ≤ 1000000 ∧ ∀ p, freshC O1 p → lcD Gd Tt Te p (fun acc O2 => P (.lst acc) O2) ds [] (wipeD Δ vs) O1) E := propext Iff.rfl
theorem e_lcO : dLcO R Gd Tt Te vs Δ O P E = R Δ O (fun ds O1 => ds.length ≤ 1000000 ∧ ∀ p, freshC O1 p → lcD Gd Tt Te p (fun acc O2 => P (.ptr p) ((p, .lst acc) :: O2)) ds [] (wipeD Δ vs) O1) E := propext Iff.rfl
theorem e_for : dFor R Gd T En Δ O = R Δ O (fun ds O1 => forD Gd T En ds Δ O1) (fun x O1 => En.xc x Δ O1) := propext Iff.rfl
theorem e_brk : dBrk En Δ O = En.bk Δ O := propext Iff.rfl
theorem e_cnt : dCnt En Δ O = En.ct Δ O := propext Iff.rfl
theorem e_wipe0 : wipeD Δ [] = Δ := rfl
theorem e_wipe1 : wipeD Δ (i :: vs) = (wipeD Δ vs).set i none := rfl
theorem ex_c {c : Cell} {C : Sto → Prop} : (∃ O3, (p, c) :: O = (p, c) :: O3 ∧ C O3) = C O := by
  apply propext
  constructor
  · rintro ⟨O3, e, h⟩
    cases e
    exact h
  · intro h
    exact ⟨O, rfl, h⟩
theorem freshC_ne {b : Addr} {c : Cell} (h : getC O b = some c) (hp : freshC O p) : b ≠ p := hp _ (getC_mem h)
theorem getC_fresh {b : Addr} {c c' : Cell} (h : getC O b = some c) (hp : freshC O p) : getC ((p, c') :: O) b = some c := by rw [getC_other (freshC_ne h hp)]; exact h
/-- one pass -/
def lcStep (Gd : DG) (Tt : DT) (Te : DE) (p : Addr) (acc : List D) (Δ : Sl) (O : Sto) (x : D) (C : Option D → Sto → Prop) : Prop :=
  Gd x Δ fun Δ' => Tt Δ' ((p, .lst acc) :: O) (fun k O1 => if k = true
      then Te Δ' O1 (fun y O2 => ∃ O3, O2 = (p, .lst acc) :: O3 ∧ C (some y) O3) (fun _ _ => False)
      else ∃ O3, O1 = (p, .lst acc) :: O3 ∧ C none O3) (fun _ _ => False)
theorem lc_all {α : Type} {emb : α → D} {St : α → Option D → Prop} {Q : List D → Sto → Prop} : ∀ {xs : List α} {acc : List D}, (∀ x ∈ xs, ∀ acc C, (∀ o, St x o → C o O) → lcStep Gd Tt Te p acc Δ O (emb x) C) → (∀ os, All2 St xs os → Q (acc ++ os.filterMap id) O) → lcD Gd Tt Te p Q (xs.map emb) acc Δ O := by
  intro xs
  induction xs with
  | nil =>
    intro acc _ fin
    have z := fin [] .nil
    rw [List.filterMap_nil, List.append_nil] at z
    exact z
  | cons x xs ih =>
    intro acc step fin
    refine step x List.mem_cons_self acc (fun o O3 => match o with | some y => lcD Gd Tt Te p Q (xs.map emb) (acc ++ [y]) Δ O3 | none => lcD Gd Tt Te p Q (xs.map emb) acc Δ O3) fun o ho => ?_
    cases o with
    | some y =>
      refine ih (fun x hx => step x (List.mem_cons_of_mem _ hx)) fun os hos => ?_
      have z := fin (some y :: os) (.cons ho hos)
      rw [List.filterMap_cons_some (f := id) (b := y) rfl] at z
      rw [List.append_assoc]
      exact z
    | none =>
      refine ih (fun x hx => step x (List.mem_cons_of_mem _ hx)) fun os hos => ?_
      have z := fin (none :: os) (.cons ho hos)
      rw [List.filterMap_cons_none (f := id) rfl] at z
      exact z
theorem lc_det {α : Type} {emb : α → D} (f : α → Option D) {Q : List D → Sto → Prop} {xs : List α} {acc : List D} (step : ∀ x ∈ xs, ∀ acc C, C (f x) O → lcStep Gd Tt Te p acc Δ O (emb x) C) (fin : Q (acc ++ xs.filterMap f) O) : lcD Gd Tt Te p Q (xs.map emb) acc Δ O := by
  refine lc_all (St := fun x o => o = f x) (fun x hx acc C h => step x hx acc C (h _ rfl)) fun os h => ?_
  have e : os.filterMap id = xs.filterMap f := by
    clear fin step
    induction h with
    | nil => rfl
    | cons h _ ih => subst h; rw [List.filterMap_cons, List.filterMap_cons, ih]; rfl
  rw [e]
  exact fin
/-- [e(x) for x in xs] -/
theorem lc_map {α : Type} {emb : α → D} (f : α → D) {Q : List D → Sto → Prop} {xs : List α} (step : ∀ x ∈ xs, ∀ acc C, C (some (f x)) O → lcStep Gd Tt Te p acc Δ O (emb x) C) (fin : Q (xs.map f) O) : lcD Gd Tt Te p Q (xs.map emb) [] Δ O := by
  refine lc_det (fun x => some (f x)) step ?_
  rw [List.nil_append, List.filterMap_eq_map']
  exact fin
/-- [e(x) for x in xs if c(x)] -/
theorem lc_filter {α : Type} {emb : α → D} (f : α → D) (c : α → Bool) {Q : List D → Sto → Prop} {xs : List α} (step : ∀ x ∈ xs, ∀ acc C, C (if c x = true then some (f x) else none) O → lcStep Gd Tt Te p acc Δ O (emb x) C) (fin : Q ((xs.filter c).map f) O) : lcD Gd Tt Te p Q (xs.map emb) [] Δ O := by
  refine lc_det (fun x => if c x = true then some (f x) else none) step ?_
  have e : xs.filterMap (fun x => if c x = true then some (f x) else none) = (xs.filter c).map f := by
    clear fin step
    induction xs with
    | nil => rfl
    | cons x xs ih =>
      by_cases h : c x = true
      · rw [List.filterMap_cons_some (b := f x) (by simp [h]), List.filter_cons_of_pos h, List.map_cons, ih]
      · rw [List.filterMap_cons_none (by simp [h]), List.filter_cons_of_neg h, ih]
  rw [List.nil_append, e]
  exact fin
/-- drawn: each element answers R -/
theorem lc_draw {α β : Type} {emb : α → D} {em : β → D} {St : α → β → Prop} {Q : List D → Sto → Prop} {xs : List α} (step : ∀ x ∈ xs, ∀ acc C, (∀ y, St x y → C (some (em y)) O) → lcStep Gd Tt Te p acc Δ O (emb x) C) (fin : ∀ ys, All2 St xs ys → Q (ys.map em) O) : lcD Gd Tt Te p Q (xs.map emb) [] Δ O := by
  refine lc_all (St := fun x o => ∃ y, St x y ∧ o = some (em y)) (fun x hx acc C h => step x hx acc C fun y hy => h _ ⟨y, hy, rfl⟩) fun os h => ?_
  have e : ∃ ys, All2 St xs ys ∧ os.filterMap id = ys.map em := by
    clear fin step
    induction h with
    | nil => exact ⟨[], .nil, rfl⟩
    | cons h _ ih =>
      obtain ⟨y, hy, rfl⟩ := h
      obtain ⟨ys, h1, h2⟩ := ih
      exact ⟨y :: ys, .cons hy h1, by rw [List.filterMap_cons_some (f := id) (b := em y) rfl, h2]; rfl⟩
  obtain ⟨ys, h1, h2⟩ := e
  rw [h2, List.nil_append]
  exact fin ys h1
/-- .. and what has been walked is known -/
theorem for_inv2 {α : Type} {emb : α → D} (I : List α → Sl → Sto → Prop) {xs : List α} {Δ : Sl} {O : Sto} (h0 : I [] Δ O) (hend : ∀ Δ O, I xs Δ O → En.nx Δ O)
    (step : ∀ l x r, xs = l ++ x :: r → ∀ Δ O (K : Sl → Sto → Prop), I l Δ O → (∀ Δ' O', I (l ++ [x]) Δ' O' → K Δ' O') → Gd (emb x) Δ fun Δ' => T { En with nx := K, ct := K, bk := En.nx } Δ' O) : forD Gd T En (xs.map emb) Δ O := by
  have key : ∀ (r l : List α) (Δ : Sl) (O : Sto), xs = l ++ r → I l Δ O → forD Gd T En (r.map emb) Δ O := by
    intro r
    induction r with
    | nil =>
      intro l Δ O e h
      rw [List.append_nil] at e
      subst e
      exact hend _ _ h
    | cons x r ih =>
      intro l Δ O e h
      exact step l x r e Δ O _ h fun Δ' O' h' => ih (l ++ [x]) Δ' O' (by rw [e, List.append_assoc]; rfl) h'
  exact key xs [] Δ O rfl h0
end
/-! ## Lean types as data -/
class Em (α : Type) [DecidableEq α] [PySem.W.Datum α] where
  em : α → D
  py_em : ∀ a, py (em a) = some (PySem.W.Datum.toD a)
  lay : ∀ a : α, (PySem.W.Datum.toD a).canLay0 = true

end G
namespace G
open PySem L2
instance : Em Int := ⟨.int, fun _ => rfl, fun _ => rfl⟩
instance : Em Bool := ⟨.bl, fun _ => rfl, fun _ => rfl⟩
section
variable {α β : Type} [DecidableEq α] [PySem.W.Datum α] [Em α] [DecidableEq β] [PySem.W.Datum β] [Em β]
theorem pys_em : ∀ xs : List α, pys (xs.map Em.em) = some (xs.map PySem.W.Datum.toD)
  | [] => rfl
  | x :: xs => by
    rw [List.map_cons, pys, Em.py_em, pys_em xs]
    rfl
theorem lays_em : ∀ xs : List α, PyData.canLayAll0 (xs.map PySem.W.Datum.toD) = true
  | [] => rfl
  | x :: xs => by
    rw [List.map_cons, PyData.canLayAll0, Em.lay, lays_em xs]
    rfl
instance : Em (List α) := ⟨fun xs => .lst (xs.map Em.em), fun xs => by rw [py, pys_em]; rfl, fun xs => by
  show PyData.canLay0 (.list (xs.map PySem.W.Datum.toD)) = true
  rw [PyData.canLay0, lays_em]⟩
instance : Em (PySem.W.Tup α) := ⟨fun xs => .tup (xs.items.map Em.em), fun xs => by rw [py, pys_em]; rfl, fun xs => by
  show PyData.canLay0 (.tuple (xs.items.map PySem.W.Datum.toD)) = true
  rw [PyData.canLay0, lays_em]⟩
instance : Em (α × β) := ⟨fun x => .tup [Em.em x.1, Em.em x.2], fun x => by
  rw [py, pys, pys, pys, Em.py_em, Em.py_em]; rfl, fun x => by
  show PyData.canLay0 (.tuple [PySem.W.Datum.toD x.1, PySem.W.Datum.toD x.2]) = true
  rw [PyData.canLay0, PyData.canLayAll0, PyData.canLayAll0, PyData.canLayAll0, Em.lay, Em.lay]
  rfl⟩
theorem shaped_em (h : PySem.W.Datum.depth α ≤ 64) (a : α) : SeqAt.shaped (PySem.W.Datum.toD a) = true := by
  unfold SeqAt.shaped
  rw [Em.lay, Bool.true_and]
  exact decide_eq_true (Nat.le_trans (PySem.W.Datum.depth_le a) h)
/-- == of data that a Lean type says -/
theorem eqB_em (a b : α) (h : PySem.W.Datum.depth α ≤ 64 := by decide) : eqB (Em.em a) (Em.em b) = some (decide (a = b)) := by
  have e := PySem.W.Datum.eqv a b
  have s1 := shaped_em h a
  have s2 := shaped_em h b
  have p1 := Em.py_em a
  have p2 := Em.py_em b
  unfold eqB
  split
  · rename_i i j e1 e2
    rw [e1] at p1
    rw [e2] at p2
    simp only [py, Option.some.injEq] at p1 p2
    rw [← p1, ← p2] at e
    simp only [PyData.eqv] at e
    rw [← e]
    congr 1
  · rename_i i j e1 e2
    rw [e1] at p1
    rw [e2] at p2
    simp only [py, Option.some.injEq] at p1 p2
    rw [← p1, ← p2] at e
    simp only [PyData.eqv] at e
    rw [← e]
    congr 1
  · rename_i i j e1 e2
    rw [e1] at p1
    rw [e2] at p2
    simp only [py, Option.some.injEq] at p1 p2
    rw [← p1, ← p2] at e
    simp only [PyData.eqv] at e
    rw [← e]
    congr 1
  · rw [p1, p2]
    simp only [s1, s2, and_self, ↓reduceIte, e]
end
/-- a tuple of two whole numbers -/
abbrev pr (x : Int × Int) : D := .tup [.int x.1, .int x.2]
theorem eq_prs (xs ys : List (Int × Int)) : eqB (.lst (xs.map pr)) (.lst (ys.map pr)) = some (decide (xs = ys)) := eqB_em (α := List (Int × Int)) xs ys
theorem eq_pr (x y : Int × Int) : eqB (pr x) (pr y) = some (decide (x = y)) := eqB_em (α := Int × Int) x y
theorem eq_ints (xs ys : List Int) : eqB (.lst (xs.map .int)) (.lst (ys.map .int)) = some (decide (xs = ys)) := eqB_em (α := List Int) xs ys
end G
namespace G
open PySem L2
section
variable {O : Sto} {P : KD} {PB : Bool → Sto → Prop}
theorem f_addL {l m : List D} : fAdd (.lst l) (.lst m) O P = (l.length + m.length ≤ sizeLine ∧ P (.lst (l ++ m)) O) := propext Iff.rfl
theorem f_addS {l m : Str} : fAdd (.str l) (.str m) O P = (l.length + m.length ≤ sizeLine ∧ P (.str (l ++ m)) O) := propext Iff.rfl
theorem truL {ds : List D} : truD O (.lst ds) = some (!ds.isEmpty) := rfl
theorem truT {ds : List D} : truD O (.tup ds) = some (!ds.isEmpty) := rfl
theorem truI {i : Int} : truD O (.int i) = some (i != 0) := rfl
theorem truB {i : Bool} : truD O (.bl i) = some i := rfl
theorem truN : truD O .non = some false := rfl
theorem objO {c : Cl} {fs : List Fd} {ds : List D} : objOf O (.obj c fs ds) = some (c, fs, ds) := rfl
theorem objP {a : Addr} {c : Cl} {fs : List Fd} {ds : List D} (h : getC O a = some (.ins c fs ds)) : objOf O (.ptr a) = some (c, fs, ds) := by simp only [objOf, h]
theorem clsO {c : Cl} {fs : List Fd} {ds : List D} : clsOf O (.obj c fs ds) = some c := rfl
theorem clsP {a : Addr} {c : Cl} {fs : List Fd} {ds : List D} (h : getC O a = some (.ins c fs ds)) : clsOf O (.ptr a) = some c := by simp only [clsOf, objP h, Option.map]
end
end G
namespace G
open PySem L2
theorem cut_map {α : Type} (f : α → D) (ns : List α) (lo hi : Option Int) : cutD (ns.map f) lo hi = ((ns.drop (HT.sIx ns.length 0 lo)).take (HT.sIx ns.length ns.length hi - HT.sIx ns.length 0 lo)).map f := by
  unfold cutD
  rw [List.length_map, List.map_take, List.map_drop]
theorem cut_box (ns : List Int) : ∃ ms : List Int, cutD (ns.map D.int) none (some 63) = ms.map D.int ∧ ms.length ≤ 63 := by
  refine ⟨_, cut_map D.int ns none (some 63), ?_⟩
  rw [List.length_take]
  have h : HT.sIx ns.length ns.length (some 63) = min 63 ns.length := HT.sIx_nat ns.length ns.length 63
  rw [h]
  omega
end G

set_option Elab.async false
set_option linter.all false
set_option maxRecDepth 100000
set_option maxHeartbeats 4000000
namespace G
open PySem L2
/-! ## an own __contains__ -/
def boolK (P : Bool → Sto → Prop) : KD := fun r O => match r with | .bl k => P k O | _ => False
def dInOwn (tab : List (Cl × DSp)) (Ta Tb : DE) : DE := fun Δ O P E => Ta Δ O (fun x O1 => Tb Δ O1 (fun y O2 => match clsOf O2 y with
  | some c => (match tabAt tab c with | some S => S [y, x] O2 (boolK fun k O3 => P (.bl k) O3) E | none => False)
  | none => False) E) E
def dNotInOwn (tab : List (Cl × DSp)) (Ta Tb : DE) : DE := fun Δ O P E => Ta Δ O (fun x O1 => Tb Δ O1 (fun y O2 => match clsOf O2 y with
  | some c => (match tabAt tab c with | some S => S [y, x] O2 (boolK fun k O3 => P (.bl (!k)) O3) E | none => False)
  | none => False) E) E
section
variable {g : Gm} {X : Cx} {W : WX} {pos pos' p apos : Pos} {a b c o : Expr} {es : List Expr} {Ta Tb : DE} {R : DA} {k : Nat} {f : Addr} {S : DSp} {x m : Str} {tab : List (Cl × DSp)}
theorem e_inOwn {Δ : Sl} {O : Sto} {P : KD} {E : KX} : dInOwn tab Ta Tb Δ O P E = Ta Δ O (fun x O1 => Tb Δ O1 (fun y O2 => match clsOf O2 y with
  | some c => (match tabAt tab c with | some S => S [y, x] O2 (boolK fun k O3 => P (.bl k) O3) E | none => False)
  | none => False) E) E := propext Iff.rfl
end
end G

set_option Elab.async false
set_option linter.all false
set_option maxRecDepth 100000
set_option maxHeartbeats 4000000
namespace G
open PySem L2
/-! ## the end of a law -/
section
variable {K : PySem.W.Frag} {h : Heap} {mg : Str → Option Value} {g : Gm}
theorem flds_nil {f : Fd} : Flds g [] f := ⟨fun _ h => absurd h List.not_mem_nil, fun _ h => absurd h List.not_mem_nil⟩
theorem flds_cons {c : Cl} {cs : List Cl} {f : Fd} (h : Cls g.K (g.ca c)) (n : PySem.W.findIn g.K (.ref (g.ca c)) f.str = some none) (r : Flds g cs f) : Flds g (c :: cs) f :=
  ⟨fun d hd => by rcases List.mem_cons.mp hd with e | e; exact e ▸ h; exact r.cl d e, fun d hd => by rcases List.mem_cons.mp hd with e | e; exact e ▸ n; exact r.no d e⟩
end
/-- the law's promise -/
def spLaw (K : PySem.W.Frag) : Sp := fun vs H Q _ => ∃ (a : Addr) (ns : List Int), vs = [.ref a] ∧ SqL K H a (ns.map V.int) ∧ ns.length ≤ 63 ∧ ∀ H', Q (.bl true) H'
def SLaw : DSp := fun ds O P E => ∃ ns, ds = [.scr ns] ∧ O = [] ∧ ∀ O1, P (.bl true) O1
theorem spLaw_of {g : Gm} {vs : List V} {H : Hp} {Q : VK} {E : XK} (h : spLaw g.K vs H Q E) : toSp g SLaw vs H Q E := by
  obtain ⟨a, ns, rfl, hS, hl, k⟩ := h
  refine ⟨H, [], [.scr ns], fun d O => d = .bl true, fun _ _ => False, Reps.one (Rep.scr_iff.mpr ⟨a, rfl, hS⟩), ⟨Same.refl H, by simp, fun q hq => absurd hq List.not_mem_nil⟩, ⟨ns, rfl, rfl, fun _ => rfl⟩, fun d O v F' H' e s w r => ?_, fun _ _ _ _ _ _ z => z.elim⟩
  subst e
  rw [Rep.bl_iff.mp r]
  exact k H'
theorem walk {l : PySem.W.OpenLaw} {q : Program} {loose : List Str} {XP : (Str → Option Value) → Heap → Prop} {YP : World → Heap → Prop} {d : DefRec} {K : Params → PySem.W.Frag} {x : Str} (k : Nat) (hk : k ≤ 40) (hn : l.most = some 63) (hdf : d.params.defaults = [])
    (hY : ∀ (w : World) (h : Heap), YP w h → (K w.params).In h)
    (F : ∀ (w : World) (mg : Str → Option Value) (fa : Addr) (h : Heap), (K w.params).In h → h.Ns mainGlobals mg → mg d.name = some (.ref fa) →
      ∃ fd : FuncData, (∀ (s : Shared) (u : Value), BindsTo s fd ⟨[u], []⟩ [(x, u)]) ∧ ∀ base : Heap, (K w.params).In base → base.Ns mainGlobals mg → FnOk l.prog w (K w.params) mg base (L2.CX l.prog w) k fa fd [x] (spLaw (K w.params))) :
    PySem.W.WalkO q loose XP YP l.row.toRowW d [] (fun f vs => PySem.call f vs) :=
  L2.walk_of (n := 63) (k := k) (x := x) (CX := fun w => L2.CX l.prog w) (sp := fun w => spLaw (K w.params)) hn (by decide) hdf (Room.mono (k := 40) ⟨rfl, by decide, by decide⟩ hk) hY F (fun _ _ a ns hl _ hS => ⟨a, ns, rfl, hS, hl, fun _ => rfl⟩) fun w H s e s' z => by
    obtain ⟨_, _, _, _, _, _, _, _, _, _, _, _, z⟩ := z
    exact z
end G

set_option Elab.async false
set_option linter.all false
set_option maxRecDepth 100000
set_option maxHeartbeats 4000000
namespace G
open PySem L2
/-! ## a def that says super() -/
/-- statements of a def's own body -/
structure PF (X : Cx) (sts : List Stmt) (t : TS) : Prop where
  run : ∀ (body : List Stmt) (pins : List (Addr × Obj)) (s : Shared) (σ : St) (H : Hp) (D : Ends), Inv X pins σ H s → t D σ H → _root_.PySem.wpAt (model X.prog X.w) X.A (.func body X.env) (execs sts X.env) (SP X pins D) X.xe s
section
variable {X : Cx} {st : Stmt} {sts : List Stmt} {t u : TS}
theorem pf_of (h : PSs X sts t) : PF X sts t := ⟨fun body pins s σ H D I q => _root_.PySem.wpAt_of_wpAny (h.run pins s σ H D I q)⟩
theorem pf_cons (h : PS X st t) (k : PF X sts u) : PF X (st :: sts) (tSeq t u) := by
  refine ⟨fun body pins s σ H D I q => PySem.ks_wpAt_execs_cons (_root_.PySem.wpAt_of_wpAny (thn (h.run pins s σ H { D with nx := u D } I q) fun f s1 z => ?_))⟩
  cases f with
  | next =>
    obtain ⟨σ1, H1, I1, z⟩ := z
    exact k.run body pins s1 σ1 H1 D I1 z
  | brk => exact z
  | cont => exact z
  | ret v => exact z
end
/-- the program's own text: its file, super is the kit's -/
structure Pg (P : Program) (file : Str) : Prop where
  file : ((P.main.file : Str) == file) = true
  sup : (P.main.scope.names.lookup ("super" : Str)).isSome = false
structure FunS (K : PySem.W.Frag) (x qual : Str) (st : Stmt) (f : Addr) (fd : FuncData) (cc cda D : Addr) (file : Str) : Prop where
  ex : ∃ (oc : Value) (od : Option Addr) (kV doc pm : Value) (an : Option Addr) (ct : Value) (osl : Array (Option Value)), fd = PySem.W.ksFn x qual (defArgs st) (defBody st) (defScope st) .none kV doc pm an (.ref cda) ct cc ∧ K.lookup f = some ⟨oc, od, .func fd, osl⟩
  code : PySem.W.codeIn K (.ref cda) qual = true
  kp : PySem.W.keepIn K (.ref f) = true
  fl : ∃ (ccl : Value) (cdd : Option Addr) (vs : Array Value) (ccs : Array (Option Value)) (tf : Tok), K.lookup cda = some ⟨ccl, cdd, .fields vs, ccs⟩ ∧ vs[2]? = some (.str file tf)
  cell : ∃ (cl : Value) (cld : Option Addr) (csl : Array (Option Value)), K.lookup cc = some ⟨cl, cld, .cell (some (.ref D)), csl⟩
  dcl : ∃ cdD, PySem.W.clsIn K D = some cdD
abbrev sNF (x qual : Str) (st : Stmt) (cc cda : Addr) : NdefX.NF := ⟨x, qual, defArgs st, defBody st, defScope st, [("__class__", cc)], cda⟩
abbrev scx (P : Program) (w : World) (K : PySem.W.Frag) (mg : Str → Option Value) (base : Heap) (N : List Str) (x qual : Str) (st : Stmt) (f cc cda : Addr) (A : Around) (outer : List Env) (s : Shared) (H : Hp) (E : XK) : Cx :=
  NdefX.ncx (L2.CX P w) P w K mg base N (sNF x qual st cc cda) f A outer s H E
section
variable {P : Program} {w : World} {K : PySem.W.Frag} {mg : Str → Option Value} {base : Heap} {N ps : List Str} {x qual : Str} {st : Stmt} {f cc cda D : Addr} {fd : FuncData} {file : Str} {k : Nat} {sp : Sp}
theorem fn_super (F : FunS K x qual st f fd cc cda D file) (S : NdefX.NScope N ps ["__class__"] (defScope st)) (len : ∀ vs H Q E, sp vs H Q E → vs.length = ps.length)
    (hbody : ∀ (A : Around) (outer : List Env) (s : Shared) (H : Hp) (vs : List V) (Q : VK) (E : XK), Room k (A.deeper (NdefX.envF (sNF x qual st cc cda) f s.heap.objs.size)) → sp vs H Q E →
      ∃ t, PF (scx P w K mg base N x qual st f cc cda A outer s H E) (defBody st) t ∧ t { nx := fun _ H' => Q .non H', rt := Q } (NdefX.startF N vs [none]) H) :
    FnOk P w K mg base (L2.CX P w) (k + 1) f fd ps sp := by
  refine ⟨len, fun A outer s H args us vs Q E hr e0 hb r hsp => ?_⟩
  obtain ⟨oc, od, kV, doc, pm, an, ct, osl, rfl, lk⟩ := F.ex
  obtain ⟨cl, cld, csl, hcell⟩ := F.cell
  have hl := len _ _ _ _ hsp
  have kp0 : ∀ b o, base.get? b = some o → s.heap.get? b = some o := fun b o e => (e0.bs b o e).1
  have KI : K.In s.heap := e0.mod.kin.keeps kp0
  have lim : s.heap.NoLimit := e0.mod.nolimit.keeps kp0
  refine PySem.ks_codeAny_call_defAt (fd := PySem.W.ksFn x qual (defArgs st) (defBody st) (defScope st) .none kV doc pm an (.ref cda) ct cc) hr.depth (KI _ _ lk) rfl lim (PySem.W.codeRec_of KI F.code) rfl hb S.nocell (fun ⟨n, _⟩ hy => S.par n (List.of_mem_zip hy).1) (fun h₁ hns kp => ?_) S.co S.gen S.kind
  obtain ⟨t, ht, hq⟩ := hbody A outer s H vs Q E (hr.deeper _) hsp
  have C : NdefX.CellsAt [("__class__", cc)] ["__class__"] [none] s.heap H := by
    have key : ∀ (y : Str) (c : Addr), [(("__class__" : Str), cc)].lookup y = some c → y = "__class__" ∧ c = cc := fun y c e => by
      rw [List.lookup_cons] at e
      split at e
      · rename_i q
        cases e
        exact ⟨beq_iff_eq.mp q, rfl⟩
      · cases e
    refine ⟨rfl, fun y c e => ?_, fun a b c e1 e2 => (key a c e1).1.trans (key b c e2).1.symm, fun i y e => ?_⟩
    · obtain ⟨_, rfl⟩ := key y c e
      exact ⟨(e0.bs _ _ (e0.mod.kin _ _ hcell)).2, some (.ref D), ⟨_, KI _ _ hcell, rfl⟩⟩
    · cases i with
      | zero =>
        cases e
        exact ⟨cc, rfl, fun v z => by cases z⟩
      | succ n => cases e
  have I : Inv (scx P w K mg base N x qual st f cc cda A outer s H E) [] (NdefX.startF N vs [none]) H { s with heap := h₁, toks := s.toks + (ps.zip us).length } := NdefX.inv_startN S hr.hd e0 hl r C hns kp
  refine _root_.PySem.wpAt_mono (ht.run (defBody st) [] _ (NdefX.startF N vs [none]) H _ I hq) (fun fl s' hs => ?_) fun e s' hs => hs
  have fin : ∀ {σ' : L2.St} {H' : Hp} {v : V} {u : Value}, Inv (scx P w K mg base N x qual st f cc cda A outer s H E) [] σ' H' s' → L2.RelV v u → Q v H' → CE outer P w H s Q u s' :=
    fun {σ' H' v u} J rv q => ⟨v, H', J.os, J.bare, J.base, J.hok, rv, q⟩
  cases fl with
  | ret u =>
    obtain ⟨v, σ', H', J, rv, q⟩ := hs
    exact fin J rv q
  | next =>
    obtain ⟨σ', H', J, q⟩ := hs
    exact fin (v := V.non) (u := Value.none) J rfl q
  | brk =>
    obtain ⟨_, _, _, q⟩ := hs
    exact False.elim q
  | cont =>
    obtain ⟨_, _, _, q⟩ := hs
    exact False.elim q
end

section
variable {P : Program} {w : World} {K : PySem.W.Frag} {mg : Str → Option Value} {base : Heap} {N ps : List Str} {x qual : Str} {st : Stmt} {f cc cda D : Addr} {fd : FuncData} {file : Str} {k : Nat} {A : Around} {outer : List Env} {s0 : Shared} {H0 : Hp} {E0 : XK}
/-- what the text says of the def -/
structure SupTx (N : List Str) (st : Stmt) (ar : Str) : Prop where
  ks : (defScope st).names.lookup ("super" : Str) = some .globalImplicit
  kc : (defScope st).names.lookup ("__class__" : Str) = some .free
  fst : ∃ r : Arg, ((defArgs st).posonlyargs ++ (defArgs st).args).head? = some r ∧ r.arg = ar
  n0 : N[0]? = some ar
  ka : (defScope st).names.lookup ar = some .local
  kind : (defScope st).kind = .function
theorem super_node {ar attr : Str} {body : List Stmt} {p0 p1 : Pos} {whole : Sem Value} {pins : List (Addr × Obj)} {σ : St} {H : Hp} {s : Shared} {a C : Addr} {ox : Obj} {od : Option Obj} {Q : Value → Shared → Prop} {E : Value → Shared → Prop}
    (F : FunS K x qual st f fd cc cda D file) (PG : Pg P file) (T : SupTx N st ar) (hm : mg "super" = none) (hat : (attr == ("__class__" : Str)) = false) (I : Inv (scx P w K mg base N x qual st f cc cda A outer s0 H0 E0) pins σ H s) (es : σ[0]? = some (some (.ref a)))
    (J : PySem.W.InstAt s.heap a ox C od) (hsub : PySem.W.mroIn K C (.ref D) = some true)
    (h : ∀ so s', Inv (scx P w K mg base N x qual st f cc cda A outer s0 H0 E0) pins σ H s' → s'.heap.get? so = some (PySem.W.ks_superObj D a C) → (∀ b o, s.heap.get? b = some o → s'.heap.get? b = some o) → Q (.ref so) s') :
    _root_.PySem.wpAt (model P w) (scx P w K mg base N x qual st f cc cda A outer s0 H0 E0).A (.func body (scx P w K mg base N x qual st f cc cda A outer s0 H0 E0).env) (attributeBase (.Call (.Name "super" p0) [] [] p1) attr (scx P w K mg base N x qual st f cc cda A outer s0 H0 E0).env whole) Q E s := by
  have KI : K.In s.heap := I.kIn
  obtain ⟨oc, odd, kV, doc, pm, an, ct, osl, rfl, lk⟩ := F.ex
  obtain ⟨ccl, cdd, vs, ccs, tf, hcode, hvs⟩ := F.fl
  obtain ⟨cl, cld, csl, hcell⟩ := F.cell
  obtain ⟨cdD, hD⟩ := F.dcl
  obtain ⟨r, hr, har⟩ := T.fst
  obtain ⟨oD, hD1, hD2⟩ : ∃ oD, s.heap.get? D = some oD ∧ oD.data = .cls cdD := by
    unfold PySem.W.clsIn at hD
    split at hD
    · rename_i c d cd' sl ho
      cases hD
      exact ⟨_, KI _ _ ho, rfl⟩
    · cases hD
  refine PySem.ks_wpAt_super_base (env := (scx P w K mg base N x qual st f cc cda A outer s0 H0 E0).env) T.ks T.kc hat rfl (KI _ _ lk) rfl hr rfl (KI _ _ hcode) rfl hvs PG.file PG.sup ?_
  obtain ⟨mb, h1, h2⟩ := I.mod.blt
  refine PySem.W.ks_loadName_global T.kind T.ks (Calls.loadGlobal_builtin (I.mod.glob.keeps I.bk) hm (h1.keeps I.bk) ((h2 "super" (by decide)).trans (by decide +kernel : bootBuiltins "super" = some (.type "super"))) ⟨rfl, ?_⟩)
  refine wpAny_loadName_free T.kind T.kc rfl ⟨_, KI _ _ hcell, rfl⟩ ?_
  obtain ⟨m, hn, hl⟩ := I.loc
  obtain ⟨u, ru, l⟩ := hl 0 ar (.ref a) T.n0 es (.inl T.ka)
  obtain rfl : u = Value.ref a := ru
  have hlo : m ar = some (.ref a) := by
    rcases l with ⟨_, hm⟩ | ⟨hk, _⟩
    · exact hm
    · rcases hk with hk | hk
      · have z := T.ka.symm.trans hk; cases z
      · have z := T.ka.symm.trans hk; cases z
  rw [har]
  refine wpAny_loadName_local T.kind T.ka hn hlo ?_
  obtain ⟨hh, g, d, t, os⟩ := s
  refine PySem.ks_wpAny_isType_cls hD1 hD2 ⟨rfl, ?_⟩
  refine PySem.ks_wpAny_call_super hD1 hD2 J.at_ J.cls (fun c e => ?_) (PySem.W.looks_mroIn KI hsub) (fun h' e k => ?_)
  · have := J.no
    unfold PySem.W.notCls at this
    rw [e] at this
    exact Bool.noConfusion this
  · exact h _ _ (I.kept k) e k
end

/-! ### super().__init__(..) of an own exception -/
section
open PySem.W
variable {prog : Program} {w : World} {A : Around} {E : Value → Shared → Prop} {h : Heap} {g : Array GenState} {d : Drawn} {t : Nat} {os : OsState}
variable {nm q : Str} {C N : Addr} {bs bm : List Value} {hdct : Bool} {sn : List Str} {sub : List Value} {ab : Bool} {col : Option Bool} {dd : Option Addr} {k0 k1 k2 k3 k5 : Option Value}
theorem call_wrap {u e t0 : Addr} {rest : List Value} {Q : Value → Shared → Prop}
    (hC : h.get? C = some (excClassObj nm q C N bs bm hdct sn sub ab col dd k0 k1 k2 k3 k5 "ValueError.__new__")) (he : h.get? e = some (HandSPX.excO C t0)) (hu : h.get? u = some (kxs_mw "ValueError.__init__" e)) (hrest : rest.length ≤ sizeLine)
    (hq : ∀ h' t1, (∀ b o, b ≠ e → h.get? b = some o → h'.get? b = some o) → h'.get? e = some (HandSPX.excO C t1) → Q .none ⟨h', g, d, t, os⟩) :
    wpAny (model prog w) A (call (.ref u) rest) Q E ⟨h, g, d, t, os⟩ := by
  refine wpAny_call (codeAny_of_tree ?_)
  show wpAny _ A.in1 (callAny (.ref u) ⟨rest, []⟩) _ _ _
  simp only [callAny]
  refine wpAny_bind (wpAny_load hu ?_)
  simp only [kxs_mw, show (Value.type "method-wrapper" == Value.type "method" || Value.type "method-wrapper" == Value.type "builtin_function_or_method" || Value.type "method-wrapper" == Value.type "method-wrapper") = true by decide, if_true]
  refine W.KFB.if_so (by decide) ?_
  refine wpAny_bind (ESX.check_bound F.excBase_ValueError hC he rfl ?_)
  refine wpAny_bind (wpAny_pure (wpAny_pure ?_))
  refine ⟨Code.quiet_builtin _ (by decide +kernel), codeAny_builtin F.excBase_ValueError.initEntry ?_⟩
  rw [Around.under_plainId F.excBase_ValueError.init.plain _]
  wp_walk
  refine hq _ h.objs.size (fun b o hb ho => ?_) ?_
  · rw [Heap.get?_update_other _ _ (Ne.symm hb)]
    exact Heap.get?_push_of_some _ ho
  · rw [Heap.get?_update_self _ (Heap.get?_push_of_some _ he) rfl]
    rfl
end
/-- what the written part says of an own exception class -/
structure ExC (K : PySem.W.Frag) (C : Addr) : Prop where
  ox : OexC K C
  mr : PySem.W.mroIn K C (.ref C) = some true
  su : PySem.W.ks_superIn K C C "__init__" = some (some (.builtin "ValueError.__init__"))
  ve : PySem.W.subIn K (.ref C) (.type "ValueError") = some true
  th : PySem.W.nsIn K cStatics "thirdparty.any" = some none
def tSupX (C : Addr) (ta : TA) (u : TS) : TS := fun D σ H => ∃ a, σ[0]? = some (some (.ref a)) ∧ H a = some (exo a C none) ∧ ta σ H fun vs H1 => vs.length ≤ 1000 ∧ H1 a = some (exo a C none) ∧ u D σ H1
section
variable {P : Program} {w : World} {K : PySem.W.Frag} {mg : Str → Option Value} {base : Heap} {N ps : List Str} {x qual : Str} {st : Stmt} {f cc cda C : Addr} {fd : FuncData} {file : Str} {k : Nat} {A : Around} {outer : List Env} {s0 : Shared} {H0 : Hp} {E0 : XK}
theorem pf_supX {ar : Str} {e : Expr} {es : List Expr} {ta : TA} {rest : List Stmt} {u : TS} {p0 p1 p2 p3 p4 : Pos} {pl : Sem Bool} (F : FunS K x qual st f fd cc cda C file) (PG : Pg P file) (T : SupTx N st ar) (hm : mg "super" = none) (XC : ExC K C)
    (ha : PA (scx P w K mg base N x qual st f cc cda A outer s0 H0 E0) (e :: es) ta) (hu : PF (scx P w K mg base N x qual st f cc cda A outer s0 H0 E0) rest u)
    (he : starEach (e :: es) (scx P w K mg base N x qual st f cc cda A outer s0 H0 E0).env = (false, eval e (scx P w K mg base N x qual st f cc cda A outer s0 H0 E0).env) :: starEach es (scx P w K mg base N x qual st f cc cda A outer s0 H0 E0).env := by rfl)
    (hpl : (backTo p3 (starEach es (scx P w K mg base N x qual st f cc cda A outer s0 H0 E0).env)).any (·.1) = false := by rfl)
    (ht : eval (.Call (.Attribute (.Call (.Name "super" p0) [] [] p1) "__init__" p2) (e :: es) [] p3) (scx P w K mg base N x qual st f cc cda A outer s0 H0 E0).env = (do
      let ov ← attributeBase (.Call (.Name "super" p0) [] [] p1) "__init__" (scx P w K mg base N x qual st f cc cda A outer s0 H0 E0).env (eval (.Call (.Name "super" p0) [] [] p1) (scx P w K mg base N x qual st f cc cda A outer s0 H0 E0).env)
      standAt p2.atName
      let (ff, first) ← holding [ov] (getMethod ov "__init__" pl)
      callWith p3 ff first (backTo p3 (starEach (e :: es) (scx P w K mg base N x qual st f cc cda A outer s0 H0 E0).env)) []) := by rfl)
    (hi : interactive (scx P w K mg base N x qual st f cc cda A outer s0 H0 E0).env = false := by rfl) (hs : swapsWith (.Call (.Attribute (.Call (.Name "super" p0) [] [] p1) "__init__" p2) (e :: es) [] p3) none p4.line (scx P w K mg base N x qual st f cc cda A outer s0 H0 E0).env = pure false := by rfl) :
    PF (scx P w K mg base N x qual st f cc cda A outer s0 H0 E0) (.Expr (.Call (.Attribute (.Call (.Name "super" p0) [] [] p1) "__init__" p2) (e :: es) [] p3) p4 :: rest) (tSupX C ta u) := by
  refine ⟨fun body pins s σ H Dn I ⟨a, eσ, ea, hta⟩ => ?_⟩
  obtain ⟨t1, ho⟩ := exo_at I.hok ea
  have J : PySem.W.InstAt s.heap a (HandSPX.excO C t1) C none := ⟨ho, rfl, rfl, trivial⟩
  refine PySem.ks_wpAt_execs_cons (PySem.ks_wpAt_Expr_any (PySem.ks_wpAt_MethodCall (pl := pl) (super_node F PG T hm (by decide) I eσ J XC.mr fun so s1 I1 hso k1 => ?_) ht) hi hs)
  obtain ⟨nm, q, Nn, bs, bm, sn, sub, ab, col, dd, k0, k1', k2, k3, k5, hC, hbm⟩ := XC.ox.cls
  have hcl : PySem.W.clsIn K C = some { name := nm, bases := bs, mro := .ref C :: bm, ns := Nn, qualname := q, hasDict := true, slotNames := sn, subclasses := sub, abstract := ab, collection := col, hasDel := false } := by unfold PySem.W.clsIn; rw [hC] <;> rfl
  have KI : K.In s1.heap := I1.kIn
  have J1 : PySem.W.InstAt s1.heap a (HandSPX.excO C t1) C none := ⟨k1 _ _ ho, rfl, rfl, trivial⟩
  have hal := XC.su
  unfold PySem.W.ks_superIn at hal
  rw [hcl, Option.bind_some] at hal
  have hI : PySem.W.Looks (model P w) s1.heap (isInstance (.ref a) (.type "ValueError")) true := J1.type.andThen (PySem.W.looks_subIn KI XC.ve)
  obtain ⟨hh, gs, d, t, os⟩ := s1
  refine PySem.W.kxs_getMethod PySem.W.kxs_ValueError hso (PySem.W.looks_opaque KI XC.th) (l₀ := .ref C :: bm) (fun A Q E s k q => wpAny_bind ((PySem.W.looks_clsIn KI hcl) A _ E s k (wpAny_pure q))) rfl KI hal hI (PySem.W.ks_ne KI J1 hcl) (by decide) ?_
  have I2 : Inv (scx P w K mg base N x qual st f cc cda A outer s0 H0 E0) pins σ H ⟨hh.push (PySem.W.kxs_mw "ValueError.__init__" a), gs, d, t + 1, os⟩ := I1.kept fun b o e => Heap.get?_push_of_some _ e
  have I3 : Inv (scx P w K mg base N x qual st f cc cda A outer s0 H0 E0) ((hh.objs.size, PySem.W.kxs_mw "ValueError.__init__" a) :: pins) σ H ⟨hh.push (PySem.W.kxs_mw "ValueError.__init__" a), gs, d, t + 1, os⟩ := I2.pins_of fun p hp => by
    rcases List.mem_cons.mp hp with rfl | hp
    · exact ⟨Heap.get?_push_size _ rfl, I1.hok.fresh (Nat.le_refl _), Nat.ne_of_gt I1.lt, I1.nofs (Nat.le_refl _), fun v z => by cases z⟩
    · exact I2.pin p (List.mem_append_right _ hp)
  rw [he]
  refine PySem.W.kxs_callWith (i := "ValueError.__init__") (x := a) (by show (false || (backTo p3 (starEach es _)).any (·.1)) = false; rw [hpl]; rfl) ?_
  have z3 := ha.run p3 _ _ σ H _ I3 hta
  rw [he] at z3
  refine PySem.Calls.evalArgs_plain (thn z3 fun us s4 ⟨vs, H1, I4, r4, hl4, ea4, q4⟩ => ?_)
  have hpin := (I4.pin (hh.objs.size, PySem.W.kxs_mw "ValueError.__init__" a) (List.mem_append_right _ List.mem_cons_self)).1
  refine ⟨hpin, ?_⟩
  obtain ⟨t4, ho4⟩ := exo_at I4.hok ea4
  have hlen : us.length ≤ sizeLine := by
    rw [← Paired.length r4, sizeLine_eq]
    omega
  obtain ⟨hp4, g4, d4, t4', os4⟩ := s4
  show wpAny _ _ (call (.ref hh.objs.size) ([] ++ us) []) _ _ _
  refine call_wrap (I4.kIn _ _ hC) ho4 hpin hlen fun h' t5 kk hx => ?_
  have I5 := I4.write (t' := t4') (x := a) (e := a) (o := exo a C none) (by rw [ea4]; exact True.intro) (.inl rfl) kk ⟨_, hx⟩ (exo_ok hx)
  have eu : upd H1 a (exo a C none) = H1 := by
    funext b
    by_cases hb : b = a
    · rw [hb, upd_same, ea4]
    · rw [upd_ne hb]
  rw [eu] at I5
  exact hu.run body pins _ σ H1 Dn (I5.pins_of fun p hp => I5.pin p (List.mem_append_right _ (List.mem_cons_of_mem _ hp))) q4
end
end G

set_option Elab.async false
set_option linter.all false
set_option maxRecDepth 100000
set_option maxHeartbeats 4000000
namespace G
open PySem L2
/-! ## own exceptions -/
/-- what an exception's __init__ keeps -/
def spX (C : Addr) (fns : List Str) : Sp := fun vs H Q _ => ∃ a ws, vs = .ref a :: ws ∧ ws.length = fns.length ∧ H a = some (exo a C none) ∧ ∀ d, H d = none → d ≠ a → Q .non (upd (upd H d (exd d (fns.zip ws).reverse)) a (exo a C (some d)))
section
variable {K : PySem.W.Frag} {C : Addr} {f1 f2 : Str} {vs : List V} {H : Hp} {Q : VK} {E : XK} {N : List Str} {txt : Str}
theorem tx1 (ox : OexC K C) (n1 : PySem.W.findIn K (.ref C) f1 = some none) (h : spX C [f1] vs H Q E) : tSupX C (tCons (tC (.str txt)) tNil) (tOst K f1 (tVar 0) (tVar 1)) { nx := fun _ H' => Q .non H', rt := Q } (NdefX.startF N vs [none]) H := by
  obtain ⟨a, ws, rfl, hl, ha, k⟩ := h
  match ws, hl with
  | [w1], _ => exact ⟨a, rfl, ha, by simp, ha, _, rfl, _, rfl, a, C, rfl, ox, n1, .inl ⟨ha, fun d hd ne => k d hd ne⟩⟩
end
/-- the exception class of that name can be made -/
def GX (g : Gm) (P : Program) (w : World) (K : PySem.W.Frag) (mg : Str → Option Value) (base : Heap) (ec : Ec) (name : Str) (fs : List Fd) : Prop :=
  mg name = some (.ref (g.ea ec)) ∧ OexC K (g.ea ec) ∧ ∃ f fd ps, PySem.W.findIn K (.ref (g.ea ec)) "__init__" = some (some (.ref f)) ∧ PySem.W.typeIn K (.ref f) = some (.type "function") ∧ FnOk P w K mg base (L2.CX P w) 1 f fd ps (spX (g.ea ec) (fs.map Fd.str)) ∧ Binds K fd ps []
def dRaise (ec : Ec) (fs : List Fd) (R : DA) : DS := fun D Δ O => R Δ O (fun ds O1 => ds.length = fs.length ∧ ds.length ≤ 9 ∧ D.xc ⟨ec, fs, ds⟩ Δ O1) (fun x O1 => D.xc x Δ O1)
theorem look_rev : ∀ {fs : List Fd} {vs : List V}, fs.Nodup → fs.length = vs.length → ∀ f : Fd, ((fs.map Fd.str).zip vs).reverse.lookup f.str = (zipF fs vs).lookup f.str := by
  intro fs
  induction fs with
  | nil => intro vs _ _ f; rfl
  | cons h hs ih =>
    intro vs nd hl f
    cases vs with
    | nil => simp at hl
    | cons v vs =>
      have nd' := List.nodup_cons.mp nd
      rw [List.map_cons, List.zip_cons_cons, List.reverse_cons, List.lookup_append, ih nd'.2 (by simpa using hl), zipF_cons]
      by_cases q : f = h
      · subst q
        rw [getF_none fun x hx z => nd'.1 (by rw [Fd.inj z]; exact hx)]
        simp [List.lookup]
      · have q' : (f.str == h.str) = false := by
          rw [beq_eq_false_iff_ne]
          exact fun z => q (Fd.inj z)
        have z : List.lookup f.str [(h.str, v)] = none := by rw [List.lookup_cons, q']; rfl
        rw [z, List.lookup_cons, q']
        simp
section
variable {g : Gm} {X : Cx} {W : WX} {pos pos' p p2 : Pos} {a b c e : Expr} {es : List Expr} {R : DA} {Ta Tb : DE} {k j : Nat} {x : Str}
theorem qs_raise {ec : Ec} {fs : List Fd} (h : GX g X.prog X.w X.K X.mg X.base ec x fs) (hr : Room j X.A) (tk : Takes X W) (ha : PA X (e :: es) (la g W R)) (hj : 2 ≤ j := by decide) (nd : fs.Nodup := by decide) (hc : X.calm = true := by rfl) (hg : Gl X x := by rfl)
    (hdb : (x == ("__debug__" : Str)) = false := by decide) (he : starEach (e :: es) X.env = (false, eval e X.env) :: starEach es X.env := by rfl) (hpl : (backTo pos (starEach es X.env)).any (·.1) = false := by rfl) :
    PS X (.Raise (some (.Call (.Name x p) (e :: es) [] pos)) none pos') (ls g W (dRaise ec fs R)) := by
  obtain ⟨hm, T, f, fd, ps, iC, tI, F1, hb⟩ := h
  refine ps_imp (ps_raise hc tk (pmk_oex T iC tI F1 (hr.mono hj) hb .nil (fun _ _ _ _ _ _ _ z => by obtain ⟨_, _, _, _, _, _, _, _, _, _, _, _, z⟩ := z; exact z.elim) hg hm ha hdb he hpl)) fun En σ H ⟨D, Δ, O, F, hT, sr, w, ho⟩ => ?_
  refine la_bind hT sr w (ho.toX sr) fun ds O1 vs F1' H1 hT1 s1 sr1 w1 rs hx1 => ?_
  obtain ⟨hl, h9, hT1⟩ := hT1
  have hlv : vs.length = fs.length := by rw [← rs.length, hl]
  refine ⟨by omega, fun q hq => ⟨q, vs, by simp, by simp [hlv], upd_same, fun d hd ne => ⟨rfl, d, ((fs.map Fd.str).zip vs).reverse, upd_same, ?_, ?_, ?_⟩⟩⟩
  · rw [upd_ne ne]
    exact upd_same
  · rw [upd_ne ne] at hd
    exact hd
  · have hd1 : H1 d = none := by rw [upd_ne ne] at hd; exact hd
    have eH : upd (del (upd (upd (upd H1 q (exo q (g.ea ec) none)) d (exd d ((fs.map Fd.str).zip vs).reverse)) q (exo q (g.ea ec) (some d))) q) d (.xd ((fs.map Fd.str).zip vs).reverse) = upd H1 d (.xd ((fs.map Fd.str).zip vs).reverse) := by
      funext b
      by_cases h1 : b = d
      · subst h1
        rw [upd_same, upd_same]
      · rw [upd_ne h1, upd_ne h1]
        by_cases h2 : b = q
        · subst h2
          rw [del_same, hq]
        · rw [del_ne h2, upd_ne h2, upd_ne h1, upd_ne h2]
    rw [eH]
    have w2 := w1.frozen (o := .xd ((fs.map Fd.str).zip vs).reverse) hd1
    have s2 := w1.fsame (o := .xd ((fs.map Fd.str).zip vs).reverse) hd1
    exact ho.xc _ _ _ _ _ _ _ _ hT1 (s1.trans s2) (sr1.mono s2) w2 ⟨rfl, vs, ⟨fun dd e => by cases e; exact ⟨_, upd_same⟩, fun f w hw => ⟨d, _, rfl, upd_same, by rw [look_rev nd hlv.symm]; exact hw⟩⟩, rs.mono s2⟩
def dRaiseT (ec : Ec) : DS := fun D Δ O => D.xc ⟨ec, [], []⟩ Δ O
/-! ## try -/
/-- which errors a clause catches -/
def Cat (g : Gm) (K : PySem.W.Frag) (c : Value) (cat : Ec → Option Bool) : Prop := ∀ ec b, cat ec = some b → PySem.W.exmOne K (.ref (g.ea ec)) c = some b
abbrev DH := Addr → Ec → Option Addr → DS
def dTry (i : Nat) (cat : Ec → Option Bool) (Tb : DS) (Th : DH) : DS := fun D Δ O => Tb { D with xc := fun x Δ1 O1 => match cat x.c with
  | some true => ∀ a d, freshC O1 a → Th a x.c d { nx := fun Δ' O' => D.nx (Δ'.set i none) O', rt := D.rt, bk := fun Δ' O' => D.bk (Δ'.set i none) O', ct := fun Δ' O' => D.ct (Δ'.set i none) O' } (Δ1.set i (some (.xcp a d x.fs x.ds))) O1
  | some false => D.xc x Δ1 O1
  | none => False } Δ O
/-- .. with no name for the error -/
def dTryN (cat : Ec → Option Bool) (Tb : DS) (Th : DH) : DS := fun D Δ O => Tb { D with xc := fun x Δ1 O1 => match cat x.c with
  | some true => ∀ a d, freshC O1 a → Th a x.c d { nx := D.nx, rt := D.rt, bk := D.bk, ct := D.ct } Δ1 O1
  | some false => D.xc x Δ1 O1
  | none => False } Δ O
theorem eok_out {F : Hp} {D : DEnds} {E : Ends} {i : Nat} (h : EOk g F W D E) : EOk g F W0 { nx := fun Δ' O' => D.nx (Δ'.set i none) O', rt := D.rt, bk := fun Δ' O' => D.bk (Δ'.set i none) O', ct := fun Δ' O' => D.ct (Δ'.set i none) O' }
    { nx := fun σ' H' => E.nx (σ'.set i none) H', rt := E.rt, bk := fun σ' H' => E.bk (σ'.set i none) H', ct := fun σ' H' => E.ct (σ'.set i none) H' } :=
  ⟨fun Δ O F' σ H q s sr w => h.nx _ _ _ _ _ q s (sr.setNone i) w, h.rt, fun Δ O F' σ H q s sr w => h.bk _ _ _ _ _ q s (sr.setNone i) w, fun Δ O F' σ H q s sr w => h.ct _ _ _ _ _ q s (sr.setNone i) w, fun _ _ _ _ _ _ _ _ q => q.elim⟩
theorem eok_outN {F : Hp} {D : DEnds} {E : Ends} (h : EOk g F W D E) : EOk g F W0 { nx := D.nx, rt := D.rt, bk := D.bk, ct := D.ct } E :=
  ⟨h.nx, h.rt, h.bk, h.ct, fun _ _ _ _ _ _ _ _ q => q.elim⟩
/-- e.f, e the error that is handled -/
def dXf (cs : List Ec) (f : Fd) (a : Addr) (ec : Ec) (d : Option Addr) (T : DE) : DE := fun Δ O P E => T Δ O (fun v O1 => match v with
  | .xcp a' d' fs ds => a' = a ∧ d' = d ∧ ec ∈ cs ∧ (match getF f fs ds with | some e => P e O1 | none => False)
  | _ => False) E
def dIsX (tab : Ec → Option Bool) (q : Addr) (ec : Ec) (d : Option Addr) (T : DE) : DE := fun Δ O P E => T Δ O (fun v O1 => match v with
  | .xcp a' d' _ _ => a' = q ∧ d' = d ∧ (match tab ec with | some b => P (.bl b) O1 | none => False)
  | _ => False) E
end
end G

set_option Elab.async false
set_option linter.all false
set_option maxRecDepth 100000
set_option maxHeartbeats 4000000
namespace G
open PySem L2
/-! ## types of data, isinstance of an own class -/
inductive Tg where
  | b (s : String) | c (cl : Cl)
  deriving DecidableEq
def Tg.val (g : Gm) : Tg → Value
  | .b s => .type s
  | .c cl => .ref (g.ca cl)
def tgD (O : Sto) (d : D) : Option Tg := match d with
  | .tup _ => some (.b "tuple")
  | .obj c _ _ => some (.c c)
  | .ptr q => (match getC O q with | some (.ins c _ _) => some (.c c) | some (.lst _) => some (.b "list") | some (.dic _ _) => some (.b "dict") | _ => none)
  | d => (tyD O d).map Tg.b
structure OwnTy (g : Gm) (c : Cl) : Prop where
  cl : Cls g.K (g.ca c)
  ha : PySem.W.findIn g.K (.ref (g.ca c)) "__class__" = some (some (.builtin "object.__class__"))
  hn : PySem.W.specialIn g.K (.builtin "object.__class__") "__get__" = some (some (.builtin "getset_descriptor.__get__"))
  ht : PySem.W.takesIn g.K (.builtin "object.__class__") = some true
  hm : PySem.W.mroIn g.K (g.ca c) (.type "object") = some true
section
variable {g : Gm}
theorem sqt_ty {K : PySem.W.Frag} {H : Hp} {a : Addr} {vs : List V} (h : SqT K H a vs) : TyX K H (.ref a) (.type "tuple") := by
  rcases h with (h | ⟨o, h⟩) | h
  · exact .base (.tup h)
  · exact .fTuple h
  · obtain ⟨o, h1, h2⟩ : ∃ o, K.lookup a = some o ∧ o.cls = .type "tuple" := by
      obtain ⟨o, us, n, h1, h2, h3⟩ := h
      exact ⟨o, h1, h2⟩
    exact .kTuple h1 h2
theorem tg_of {F : Hp} {O : Sto} {H : Hp} {d : D} {v : V} {t : Tg} (h : tgD O d = some t) (r : Rep g F d v) (w : Wd g F O H) (ow : ∀ c, t = .c c → OwnTy g c) : TyX g.K H v (t.val g) := by
  have ins : ∀ {a dx : Addr} {fs : List (Str × V)} {c : Cl}, OwnTy g c → H a = some (.ins (g.ca c) dx fs) → TyX g.K H (.ref a) (.ref (g.ca c)) := fun o e => .base (.ins e o.cl o.ha o.hn o.ht o.hm)
  cases d with
  | tup ds =>
    cases h
    obtain ⟨q, vs, rfl, h3, h4⟩ := Rep.tup_sq r
    exact sqt_ty (sqt_same w.same h3)
  | obj c fs ds =>
    cases h
    obtain ⟨p, dx, vs, rfl, h1, h2, h3⟩ := Rep.obj_iff.mp r
    exact ins (ow c rfl) (w.same _ _ h1)
  | ptr q =>
    rw [Rep.ptr_iff] at r
    subst r
    simp only [tgD] at h
    split at h
    · rename_i c fs ds eg
      cases h
      obtain ⟨_, ob, h3, h4⟩ := w.get eg
      cases ob with
      | ins C dx vfs =>
        obtain ⟨h5, _⟩ := h4
        subst h5
        exact ins (ow c rfl) h3
      | _ => exact h4.elim
    · rename_i ds eg
      cases h
      exact ty_of (O := O) (d := .ptr q) (by simp only [tyD, eg]) (Rep.ptr_iff.mpr rfl) w
    · rename_i ks ds eg
      cases h
      exact ty_of (O := O) (d := .ptr q) (by simp only [tyD, eg]) (Rep.ptr_iff.mpr rfl) w
    · cases h
  | non => cases h; exact ty_of (O := O) rfl r w
  | bl b => cases h; exact ty_of (O := O) rfl r w
  | int b => cases h; exact ty_of (O := O) rfl r w
  | str b => cases h; exact ty_of (O := O) rfl r w
  | lst b => cases h; exact ty_of (O := O) rfl r w
  | dic b c => cases h; exact ty_of (O := O) rfl r w
  | scr b => cases h
  | cls b => cases h
  | xcp _ _ _ _ => cases h
end
def dIsO (tab : Tg → Option Bool) (T : DE) : DE := fun Δ O P E => T Δ O (fun d O1 => match tgD O1 d with
  | some t => (match tab t with | some b => P (.bl b) O1 | none => False)
  | none => False) E
section
variable {g : Gm} {X : Cx} {W : WX} {pos pos' p q apos : Pos} {a b c o : Expr} {es : List Expr} {Ta Tb : DE} {R : DA} {k j : Nat} {f : Addr} {S : DSp} {x m : Str} {tab : List (Cl × DSp)}
/-! ## own operators -/
/-- the operator's name, the class of the left operand: the def that serves it -/
def dBin (tab : List (Cl × DSp)) (ok : Cl → Sto → D → Prop) (Ta Tb : DE) : DE := fun Δ O P E => Ta Δ O (fun x O1 => Tb Δ O1 (fun y O2 => match clsOf O2 x with
  | some c => (match tabAt tab c with | some S => ok c O2 y ∧ S [x, y] O2 P E | none => False)
  | none => False) E) E
def dUno (tab : List (Cl × DSp)) (Ta : DE) : DE := fun Δ O P E => Ta Δ O (fun x O1 => match clsOf O1 x with
  | some c => (match tabAt tab c with | some S => S [x] O1 P E | none => False)
  | none => False) E
end
end G

set_option Elab.async false
set_option linter.all false
set_option maxRecDepth 100000
set_option maxHeartbeats 4000000
namespace G
open PySem L2
/-! ## == and != by an own __eq__ -/
section
variable {prog : Program} {w : World} {M : Model} {A : Around} {E : Value → Shared → Prop} {s : Shared} {K : PySem.W.Frag} {x C f : Addr} {ox : Obj} {od : Option Obj} {b tb : Value}
end
/-- x == y, x of an own class: nf tells which classes may stand at the right -/
def dEqOwn (neg : Bool) (tab : List (Cl × DSp)) (nf : Cl → Tg → Bool) (Ta Tb : DE) : DE := fun Δ O P E => Ta Δ O (fun x O1 => Tb Δ O1 (fun y O2 => match clsOf O2 x, tgD O2 y with
  | some c, some t => (match tabAt tab c with | some S => nf c t = true ∧ S [x, y] O2 (boolK fun k O3 => P (.bl (if neg = true then !k else k)) O3) E | none => False)
  | _, _ => False) E) E
section
variable {g : Gm} {X : Cx} {W : WX} {pos pos' p apos : Pos} {a b c o : Expr} {es : List Expr} {Ta Tb : DE} {R : DA} {k j : Nat} {f : Addr} {S : DSp} {x m : Str} {tab : List (Cl × DSp)}
end
end G

set_option Elab.async false
set_option linter.all false
set_option maxRecDepth 100000
set_option maxHeartbeats 4000000
namespace G
open PySem L2
/-! ## more builtins -/
def fMax2 : BC := fun ds O P => match ds with | [.int i, .int j] => P (.int (max i j)) O | _ => False
def fMin2 : BC := fun ds O P => match ds with | [.int i, .int j] => P (.int (min i j)) O | _ => False
def fAbs : BC := fun ds O P => match ds with | [.int i] => P (.int (i.natAbs : Int)) O | _ => False
def intsOf : List D → Option (List Int)
  | [] => some []
  | .int i :: r => (intsOf r).map (i :: ·)
  | _ => none
theorem intsOf_map (ns : List Int) : intsOf (ns.map D.int) = some ns := by
  induction ns with
  | nil => rfl
  | cons n ns ih => rw [List.map_cons, intsOf, ih]; rfl
theorem intsOf_eq : ∀ {ds : List D} {ns : List Int}, intsOf ds = some ns → ds = ns.map D.int := by
  intro ds
  induction ds with
  | nil => intro ns h; cases h; rfl
  | cons d ds ih =>
    intro ns h
    cases d with
    | int i =>
      rw [intsOf] at h
      cases e : intsOf ds with
      | none => rw [e] at h; cases h
      | some r =>
        rw [e] at h
        cases h
        rw [ih e]
        rfl
    | _ => simp [intsOf] at h
/-- the numbers in ascending order -/
def srtI (ns : List Int) : List Int := ns.mergeSort fun a b => decide (a ≤ b)
def fSortI : BC := fun ds O P => match ds with | [d] => (match lstOf O d with | some es => (match intsOf es with | some ns => P (.lst ((srtI ns).map D.int)) O | none => False) | none => False) | _ => False
section
variable {g : Gm}
theorem reps1 {F : Hp} {a : D} {vs : List V} (h : Reps g F [a] vs) : ∃ u, vs = [u] ∧ Rep g F a u := by
  obtain ⟨u, r, rfl, h1, h2⟩ := Reps.cons_iff.mp h
  rw [Reps.nil_iff] at h2
  subst h2
  exact ⟨u, rfl, h1⟩
end
theorem sz0 : (0 ≤ sizeLine) = True := by simp
theorem sz1 : (0 + 1 ≤ sizeLine) = True := by rw [sizeLine_eq]; simp
theorem sz2 : (0 + 1 + 1 ≤ sizeLine) = True := by rw [sizeLine_eq]; simp
theorem sz3 : (0 + 1 + 1 + 1 ≤ sizeLine) = True := by rw [sizeLine_eq]; simp
theorem sz4 : (0 + 1 + 1 + 1 + 1 ≤ sizeLine) = True := by rw [sizeLine_eq]; simp
theorem sz5 : (0 + 1 + 1 + 1 + 1 + 1 ≤ sizeLine) = True := by rw [sizeLine_eq]; simp
theorem sz6 : (0 + 1 + 1 + 1 + 1 + 1 + 1 ≤ sizeLine) = True := by rw [sizeLine_eq]; simp
theorem sz7 : (0 + 1 + 1 + 1 + 1 + 1 + 1 + 1 ≤ sizeLine) = True := by rw [sizeLine_eq]; simp
theorem sz8 : (0 + 1 + 1 + 1 + 1 + 1 + 1 + 1 + 1 ≤ sizeLine) = True := by rw [sizeLine_eq]; simp
theorem sz9 : (0 + 1 + 1 + 1 + 1 + 1 + 1 + 1 + 1 + 1 ≤ sizeLine) = True := by rw [sizeLine_eq]; simp
theorem sz10 : (0 + 1 + 1 + 1 + 1 + 1 + 1 + 1 + 1 + 1 + 1 ≤ sizeLine) = True := by rw [sizeLine_eq]; simp
theorem sz11 : (0 + 1 + 1 + 1 + 1 + 1 + 1 + 1 + 1 + 1 + 1 + 1 ≤ sizeLine) = True := by rw [sizeLine_eq]; simp
theorem sz12 : (0 + 1 + 1 + 1 + 1 + 1 + 1 + 1 + 1 + 1 + 1 + 1 + 1 ≤ sizeLine) = True := by rw [sizeLine_eq]; simp
def isN : D → Bool
  | .non => true
  | _ => false
def fIsN : B2 := fun x y O P => match y with | .non => P (.bl (isN x)) O | _ => False
def fNotN : B2 := fun x y O P => match y with | .non => P (.bl (!isN x)) O | _ => False
theorem f_isN {O : Sto} {P : KD} {x : D} : fIsN x .non O P = P (.bl (isN x)) O := propext Iff.rfl
theorem f_notN {O : Sto} {P : KD} {x : D} : fNotN x .non O P = P (.bl (!isN x)) O := propext Iff.rfl
mutual
theorem eqv_self : ∀ d : PyData, d.canLay0 = true → PyData.eqv d d = true
  | .none, _ => by simp only [PyData.eqv]
  | .bool b, _ => by simp only [PyData.eqv]; simp
  | .int b, _ => by simp only [PyData.eqv]; simp
  | .str b, _ => by simp only [PyData.eqv]; simp
  | .list xs, h => by simp only [PyData.eqv]; exact eqv_selfs xs (by simpa only [PyData.canLay0] using h)
  | .tuple xs, h => by simp only [PyData.eqv]; exact eqv_selfs xs (by simpa only [PyData.canLay0] using h)
  | .dict xs, h => by simp [PyData.canLay0] at h
theorem eqv_selfs : ∀ xs : List PyData, PyData.canLayAll0 xs = true → PyData.eqvAll xs xs = true
  | [], _ => by simp only [PyData.eqvAll]
  | x :: xs, h => by
    have h' : x.canLay0 = true ∧ PyData.canLayAll0 xs = true := by simpa only [PyData.canLayAll0, Bool.and_eq_true] using h
    simp only [PyData.eqvAll, eqv_self x h'.1, eqv_selfs xs h'.2, Bool.and_self]
end
/-- a thing is equal to itself -/
theorem eqB_self {d : D} {x : PyData} (h : py d = some x) (hs : SeqAt.shaped x = true) : eqB d d = some true := by
  have e := eqv_self x (SeqAt.canLay_of_shaped hs)
  cases d with
  | int i => simp [eqB]
  | bl i => simp [eqB]
  | str i => simp [eqB]
  | _ =>
    unfold eqB
    simp only [h, hs, and_self, ↓reduceIte, e]
theorem f_max {O : Sto} {P : KD} {i j : Int} : fMax2 [.int i, .int j] O P = P (.int (max i j)) O := propext Iff.rfl
theorem f_min {O : Sto} {P : KD} {i j : Int} : fMin2 [.int i, .int j] O P = P (.int (min i j)) O := propext Iff.rfl
theorem f_abs {O : Sto} {P : KD} {i : Int} : fAbs [.int i] O P = P (.int (i.natAbs : Int)) O := propext Iff.rfl
theorem f_eqT {O : Sto} {P : KD} {a b c d : Int} : fEq (.tup [.int a, .int b]) (.tup [.int c, .int d]) O P = P (.bl (decide (a = c ∧ b = d))) O := by
  have e : eqB (.tup [.int a, .int b]) (.tup [.int c, .int d]) = some (decide (a = c ∧ b = d)) := by
    have z := eq_pr (a, b) (c, d)
    simp only [Prod.mk.injEq] at z
    exact z
  unfold fEq
  rw [e]
theorem f_neT {O : Sto} {P : KD} {a b c d : Int} : fNe (.tup [.int a, .int b]) (.tup [.int c, .int d]) O P = P (.bl (!decide (a = c ∧ b = d))) O := by
  have e : eqB (.tup [.int a, .int b]) (.tup [.int c, .int d]) = some (decide (a = c ∧ b = d)) := by
    have z := eq_pr (a, b) (c, d)
    simp only [Prod.mk.injEq] at z
    exact z
  unfold fNe
  rw [e]
theorem f_sortI {O : Sto} {P : KD} {ns : List Int} : fSortI [.lst (ns.map D.int)] O P = P (.lst ((srtI ns).map D.int)) O := by simp only [fSortI, lstOf, intsOf_map]
section
variable {Δ : Sl} {O : Sto} {P : KD} {E : KX} {En : DEnds} {Ta Tb Tc : DE} {T U : DS} {R : DA} {t u : DT} {i j : Nat} {d x y : D} {PB : Bool → Sto → Prop} {PA : List D → Sto → Prop} {tab : List (Cl × DSp)}
theorem e_raise {ec : Ec} {fs : List Fd} : dRaise ec fs R En Δ O = R Δ O (fun ds O1 => ds.length = fs.length ∧ ds.length ≤ 9 ∧ En.xc ⟨ec, fs, ds⟩ Δ O1) (fun x O1 => En.xc x Δ O1) := propext Iff.rfl
theorem e_raiseT {ec : Ec} : dRaiseT ec En Δ O = En.xc ⟨ec, [], []⟩ Δ O := propext Iff.rfl
theorem e_try {cat : Ec → Option Bool} {Th : DH} : dTry i cat T Th En Δ O = T { En with xc := fun x Δ1 O1 => match cat x.c with
  | some true => ∀ a d, freshC O1 a → Th a x.c d { nx := fun Δ' O' => En.nx (Δ'.set i none) O', rt := En.rt, bk := fun Δ' O' => En.bk (Δ'.set i none) O', ct := fun Δ' O' => En.ct (Δ'.set i none) O' } (Δ1.set i (some (.xcp a d x.fs x.ds))) O1
  | some false => En.xc x Δ1 O1
  | none => False } Δ O := propext Iff.rfl
theorem e_tryN {cat : Ec → Option Bool} {Th : DH} : dTryN cat T Th En Δ O = T { En with xc := fun x Δ1 O1 => match cat x.c with
  | some true => ∀ a d, freshC O1 a → Th a x.c d { nx := En.nx, rt := En.rt, bk := En.bk, ct := En.ct } Δ1 O1
  | some false => En.xc x Δ1 O1
  | none => False } Δ O := propext Iff.rfl
theorem e_xf {cs : List Ec} {f : Fd} {a : Addr} {ec : Ec} {dd : Option Addr} : dXf cs f a ec dd Ta Δ O P E = Ta Δ O (fun v O1 => match v with
  | .xcp a' d' fs ds => a' = a ∧ d' = dd ∧ ec ∈ cs ∧ (match getF f fs ds with | some e => P e O1 | none => False)
  | _ => False) E := propext Iff.rfl
theorem e_isX {tb : Ec → Option Bool} {a : Addr} {ec : Ec} {dd : Option Addr} : dIsX tb a ec dd Ta Δ O P E = Ta Δ O (fun v O1 => match v with
  | .xcp a' d' _ _ => a' = a ∧ d' = dd ∧ (match tb ec with | some b => P (.bl b) O1 | none => False)
  | _ => False) E := propext Iff.rfl
theorem e_isO {tb : Tg → Option Bool} : dIsO tb Ta Δ O P E = Ta Δ O (fun d O1 => match tgD O1 d with
  | some t => (match tb t with | some b => P (.bl b) O1 | none => False)
  | none => False) E := propext Iff.rfl
theorem e_bin {ok : Cl → Sto → D → Prop} : dBin tab ok Ta Tb Δ O P E = Ta Δ O (fun x O1 => Tb Δ O1 (fun y O2 => match clsOf O2 x with
  | some c => (match tabAt tab c with | some S => ok c O2 y ∧ S [x, y] O2 P E | none => False)
  | none => False) E) E := propext Iff.rfl
theorem e_uno : dUno tab Ta Δ O P E = Ta Δ O (fun x O1 => match clsOf O1 x with
  | some c => (match tabAt tab c with | some S => S [x] O1 P E | none => False)
  | none => False) E := propext Iff.rfl
theorem e_eqOwn {neg : Bool} {nf : Cl → Tg → Bool} : dEqOwn neg tab nf Ta Tb Δ O P E = Ta Δ O (fun x O1 => Tb Δ O1 (fun y O2 => match clsOf O2 x, tgD O2 y with
  | some c, some t => (match tabAt tab c with | some S => nf c t = true ∧ S [x, y] O2 (boolK fun k O3 => P (.bl (if neg = true then !k else k)) O3) E | none => False)
  | _, _ => False) E) E := propext Iff.rfl
theorem e_meth : dMeth tab Ta R Δ O P E = Ta Δ O (fun o O1 => match clsOf O1 o with
  | some c => (match tabAt tab c with | some S => R Δ O1 (fun ds O2 => S (o :: ds) O2 P E) E | none => False)
  | none => False) E := propext Iff.rfl
theorem tgI {n : Int} : tgD O (.int n) = some (.b "int") := rfl
theorem tgN : tgD O .non = some (.b "NoneType") := rfl
theorem tgB {n : Bool} : tgD O (.bl n) = some (.b "bool") := rfl
theorem tgS {n : Str} : tgD O (.str n) = some (.b "str") := rfl
theorem tgL {n : List D} : tgD O (.lst n) = some (.b "list") := rfl
theorem tgT {n : List D} : tgD O (.tup n) = some (.b "tuple") := rfl
theorem tgO {c : Cl} {fs : List Fd} {ds : List D} : tgD O (.obj c fs ds) = some (.c c) := rfl
end
end G

set_option Elab.async false
set_option linter.all false
set_option maxRecDepth 100000
set_option maxHeartbeats 4000000
namespace G
open PySem L2
/-! ## tables -/
section
variable {g : Gm} {tab : List (Cl × DSp)}
end
section
variable {g : Gm} {P : Program} {w : World} {mg : Str → Option Value} {base : Heap}
theorem gx_mk {ec : Ec} {name : Str} {fs : List Fd} {f : Addr} {fd : FuncData} {ps : List Str} (hm : mg name = some (.ref (g.ea ec))) (ox : OexC g.K (g.ea ec)) (iC : PySem.W.findIn g.K (.ref (g.ea ec)) "__init__" = some (some (.ref f))) (tI : PySem.W.typeIn g.K (.ref f) = some (.type "function"))
    (F : FnOk P w g.K mg base (L2.CX P w) 1 f fd ps (spX (g.ea ec) (fs.map Fd.str))) (hb : Binds g.K fd ps []) : GX g P w g.K mg base ec name fs := ⟨hm, ox, f, fd, ps, iC, tI, F, hb⟩
theorem FunS.binds {K : PySem.W.Frag} {x qual : Str} {st : Stmt} {f : Addr} {fd : FuncData} {cc cda D : Addr} {file : Str} {ps : List Str} (F : FunS K x qual st f fd cc cda D file)
    (h : ∀ (kV doc pm : Value) (an : Option Addr) (ct : Value) (us : List Value), us.length = ps.length → bindArgs (PySem.W.ksFn x qual (defArgs st) (defBody st) (defScope st) .none kV doc pm an (.ref cda) ct cc) ⟨us, []⟩ = pure (ps.zip us)) : Binds K fd ps [] := by
  obtain ⟨oc, od, kV, doc, pm, an, ct, osl, rfl, lk⟩ := F.ex
  exact .all (h kV doc pm an ct)
end
end G

set_option Elab.async false
set_option linter.all false
set_option maxRecDepth 100000
set_option maxHeartbeats 4000000
namespace G
open PySem L2
/-! ## star arguments, classes as values -/
def dStar (Ta : DE) (R : DA) : DA := fun Δ O P E => Ta Δ O (fun d O1 => match seqOf O1 d with | some xs => R Δ O1 (fun ys O2 => P (xs ++ ys) O2) E | none => False) E
/-- a new object of the class c -/
def mkK (c : Cl) (S : DSp) (ds : List D) (O1 : Sto) (P : KD) (E : KX) : Prop := ∀ q, freshC O1 q → S (.ptr q :: ds) ((q, .ins c [] []) :: O1)
  (fun r O2 => r = .non ∧ (match getC O2 q with | some (.ins c' fs ds') => P (.obj c' fs ds') (delC O2 q) | _ => False)) (fun x O2 => E x (delC O2 q))
def dMakeC (tab : List (Cl × DSp)) (Tf : DE) (R : DA) : DE := fun Δ O P E => Tf Δ O (fun f O1 => match f with
  | .cls c => (match tabAt tab c with | some S => R Δ O1 (fun ds O2 => mkK c S ds O2 P E) E | none => False)
  | _ => False) E
section
variable {g : Gm} {X : Cx} {W : WX} {pos pos' p p2 : Pos} {a b c e : Expr} {es : List Expr} {R : DA} {Ta Tb Tf : DE} {k j : Nat} {x : Str} {tab : List (Cl × DSp)}
theorem seq_of {F : Hp} {O : Sto} {H : Hp} {d : D} {v : V} {xs : List D} (h : seqOf O d = some xs) (r : Rep g F d v) (w : Wd g F O H) : ∃ q vs, v = .ref q ∧ (SqT g.K H q vs ∨ SqL g.K H q vs) ∧ Reps g F xs vs := by
  cases d with
  | tup ds =>
    cases h
    obtain ⟨q, vs, rfl, h3, h4⟩ := Rep.tup_sq r
    exact ⟨q, vs, rfl, .inl (sqt_same w.same h3), h4⟩
  | lst ds =>
    obtain ⟨q, vs, rfl, h1, h2⟩ := lst_of (show lstOf O (.lst ds) = some xs from h) r w
    exact ⟨q, vs, rfl, .inr (SqL.of h1), h2⟩
  | ptr q =>
    obtain ⟨q, vs, rfl, h1, h2⟩ := lst_of (show lstOf O (.ptr q) = some xs from h) r w
    exact ⟨q, vs, rfl, .inr (SqL.of h1), h2⟩
  | _ => simp [seqOf, lstOf] at h
end
/-! ### a def with a star parameter -/
section
variable {g : Gm} {P : Program} {w : World} {K : PySem.W.Frag} {mg : Str → Option Value} {base : Heap}
end
section
variable {Δ : Sl} {O : Sto} {P : KD} {E : KX} {Ta Tf : DE} {R : DA} {PA : List D → Sto → Prop} {tab : List (Cl × DSp)}
theorem e_star : dStar Ta R Δ O PA E = Ta Δ O (fun d O1 => match seqOf O1 d with | some xs => R Δ O1 (fun ys O2 => PA (xs ++ ys) O2) E | none => False) E := propext Iff.rfl
theorem e_makeC : dMakeC tab Tf R Δ O P E = Tf Δ O (fun f O1 => match f with
  | .cls c => (match tabAt tab c with | some S => R Δ O1 (fun ds O2 => mkK c S ds O2 P E) E | none => False)
  | _ => False) E := propext Iff.rfl
end
end G

set_option Elab.async false
set_option linter.all false
set_option maxRecDepth 100000
set_option maxHeartbeats 4000000
namespace G
open PySem L2
/-! ## dicts -/
def keyD : D → Option Key
  | .int i => some (.inl i)
  | .str x => some (.inr x)
  | _ => none
def dicOf (O : Sto) : D → Option (List Key × List D)
  | .dic ks ds => some (ks, ds)
  | .ptr q => match getC O q with | some (.dic ks ds) => some (ks, ds) | _ => none
  | _ => none
/-- what stands at the key -/
def getK (k : Key) : List Key → List D → Option D
  | h :: hs, d :: ds => if h = k then some d else getK k hs ds
  | _, _ => none
def putKs (k : Key) : List Key → List Key
  | [] => [k]
  | h :: hs => if h = k then h :: hs else h :: putKs k hs
def putKd (k : Key) (d : D) : List Key → List D → List D
  | h :: hs, e :: es => if h = k then d :: es else e :: putKd k d hs es
  | _, _ => [d]
theorem putKs_len (k : Key) (d : D) : ∀ (ks : List Key) (ds : List D), ks.length = ds.length → (putKs k ks).length = (putKd k d ks ds).length := by
  intro ks
  induction ks with
  | nil => intro ds h; cases ds <;> first | rfl | simp at h
  | cons h hs ih =>
    intro ds hl
    cases ds with
    | nil => simp at hl
    | cons e es =>
      simp only [putKs, putKd]
      by_cases q : h = k
      · rw [if_pos q, if_pos q]; simpa using hl
      · rw [if_neg q, if_neg q]; simp only [List.length_cons]; rw [ih es (by simpa using hl)]
section
variable {g : Gm}
theorem zipK_cons {k : Key} {ks : List Key} {v : V} {vs : List V} : zipK (k :: ks) (v :: vs) = (k, v) :: zipK ks vs := rfl
theorem getK_val {F : Hp} {k : Key} : ∀ {ks : List Key} {ds : List D} {vs : List V}, ks.length = ds.length → Reps g F ds vs → (∀ d, getK k ks ds = some d → ∃ v, valV (zipK ks vs) k = some v ∧ Rep g F d v) ∧ (getK k ks ds = none → valV (zipK ks vs) k = none) := by
  intro ks
  induction ks with
  | nil => intro ds vs hl h; exact ⟨fun d e => by cases ds <;> simp [getK] at e, fun _ => rfl⟩
  | cons h hs ih =>
    intro ds vs hl r
    cases ds with
    | nil => simp at hl
    | cons e es =>
      obtain ⟨v, r', rfl, h1, h2⟩ := Reps.cons_iff.mp r
      have ih' := ih (ds := es) (by simpa using hl) h2
      rw [zipK_cons]
      by_cases q : h = k
      · simp only [getK, if_pos q]
        exact ⟨fun d ed => by cases ed; exact ⟨v, valV_pos q, h1⟩, fun z => by cases z⟩
      · simp only [getK, if_neg q]
        rw [valV_neg q]
        exact ih'
theorem putK_zip {F : Hp} {k : Key} {d : D} {v : V} (hv : Rep g F d v) : ∀ {ks : List Key} {ds : List D} {vs : List V}, ks.Nodup → ks.length = ds.length → Reps g F ds vs → ∃ ws, putK (zipK ks vs) k v = zipK (putKs k ks) ws ∧ Reps g F (putKd k d ks ds) ws := by
  intro ks
  induction ks with
  | nil =>
    intro ds vs _ hl r
    cases ds with
    | nil =>
      rw [Reps.nil_iff] at r
      subst r
      exact ⟨[v], rfl, Reps.one hv⟩
    | cons _ _ => simp at hl
  | cons h hs ih =>
    intro ds vs nd hl r
    have nd' := List.nodup_cons.mp nd
    cases ds with
    | nil => simp at hl
    | cons e es =>
      obtain ⟨u, r', rfl, h1, h2⟩ := Reps.cons_iff.mp r
      rw [zipK_cons]
      by_cases q : h = k
      · subst q
        simp only [putKs, putKd, ↓reduceIte]
        refine ⟨v :: r', ?_, Reps.cons hv h2⟩
        have e0 : (zipK hs r').map (fun kv => if kv.1 = h then (kv.1, v) else kv) = zipK hs r' := by
          have e1 : (zipK hs r').map (fun kv => if kv.1 = h then (kv.1, v) else kv) = (zipK hs r').map id := by
            apply List.map_congr_left
            intro kv hkv
            rw [if_neg]
            · rfl
            · intro z
              exact nd'.1 (z ▸ (List.of_mem_zip (show (kv.1, kv.2) ∈ hs.zip r' from hkv)).1)
          rw [e1, List.map_id]
        simp only [putK, List.any_cons, decide_true, Bool.true_or, ↓reduceIte, List.map_cons, e0, zipK_cons]
      · obtain ⟨ws, e1, e2⟩ := ih nd'.2 (ds := es) (by simpa using hl) h2
        simp only [putKs, putKd, if_neg q]
        refine ⟨u :: ws, ?_, Reps.cons h1 e2⟩
        rw [zipK_cons, ← e1]
        unfold putK
        simp only [List.any_cons, q, decide_false, Bool.false_or, List.map_cons, ↓reduceIte]
        split <;> simp
theorem dic_of {F : Hp} {O : Sto} {H : Hp} {d : D} {v : V} {ks : List Key} {ds : List D} (h : dicOf O d = some (ks, ds)) (r : Rep g F d v) (w : Wd g F O H) : ∃ q vs, v = .ref q ∧ Rd H q (.dK (zipK ks vs)) ∧ ks.length = ds.length ∧ Reps g F ds vs := by
  cases d with
  | dic ks' ds' =>
    cases h
    obtain ⟨q, od, vs, rfl, h1, h2, h3⟩ := Rep.dic_iff.mp r
    exact ⟨q, vs, rfl, .inr ⟨od, w.same _ _ h1⟩, h2, h3⟩
  | ptr q =>
    rw [Rep.ptr_iff] at r
    subst r
    simp only [dicOf] at h
    split at h
    · rename_i ks' ds' eg
      cases h
      obtain ⟨_, ob, h3, h4⟩ := w.get eg
      cases ob with
      | dK kvs =>
        obtain ⟨h5, vs, rfl, h6⟩ := h4
        exact ⟨q, vs, rfl, .inl h3, h5, h6⟩
      | _ => exact h4.elim
    · cases h
  | _ => simp [dicOf] at h
theorem key_of {F : Hp} {d : D} {v : V} {k : Key} (h : keyD d = some k) (r : Rep g F d v) : v = kV k := by
  cases d with
  | int i => cases h; exact Rep.int_iff.mp r
  | str i => cases h; exact Rep.str_iff.mp r
  | _ => simp [keyD] at h
theorem dget_of {F : Hp} {O : Sto} {H : Hp} {d y : D} {v u : V} {ks : List Key} {ds : List D} {k : Key} (h : dicOf O d = some (ks, ds)) (hk : keyD y = some k) (r : Rep g F d v) (ry : Rep g F y u) (w : Wd g F O H) :
    ∃ q, v = .ref q ∧ IsD H q ∧ ((∀ e, getK k ks ds = some e → ∃ z, DGet H q u (some z) ∧ Rep g F e z) ∧ (getK k ks ds = none → DGet H q u none)) := by
  obtain ⟨q, vs, rfl, h1, h2, h3⟩ := dic_of h r w
  have g1 := getK_val (k := k) h2 h3
  refine ⟨q, rfl, .inl ⟨_, h1⟩, fun e he => ?_, fun hn => ?_⟩
  · obtain ⟨z, e1, e2⟩ := g1.1 e he
    exact ⟨z, .inl ⟨_, k, h1, key_of hk ry, e1.symm⟩, e2⟩
  · exact .inl ⟨_, k, h1, key_of hk ry, (g1.2 hn).symm⟩
end
/-- d[k] -/
def dDix (Td Tk : DE) : DE := fun Δ O P E => Td Δ O (fun d O1 => Tk Δ O1 (fun y O2 => match dicOf O2 d, keyD y with
  | some t, some k => (match getK k t.1 t.2 with | some e => P e O2 | none => False)
  | _, _ => False) E) E
/-- k in d -/
def dInD (neg : Bool) (Tk Td : DE) : DE := fun Δ O P E => Tk Δ O (fun y O1 => Td Δ O1 (fun d O2 => match dicOf O2 d, keyD y with
  | some t, some k => P (.bl (if neg = true then !(getK k t.1 t.2).isSome else (getK k t.1 t.2).isSome)) O2
  | _, _ => False) E) E
/-- d.get(k, x) -/
def dDget2 (Td Tk Tx : DE) : DE := fun Δ O P E => Td Δ O (fun d O1 => match dicOf O1 d with
  | some _ => Tk Δ O1 (fun y O2 => Tx Δ O2 (fun x O3 => match dicOf O3 d, keyD y with
    | some t, some k => P ((getK k t.1 t.2).getD x) O3
    | _, _ => False) E) E
  | none => False) E
/-- d[k] = v, d owned -/
def dSetD (Td Tk Tv : DE) : DS := fun En Δ O => Tv Δ O (fun v O1 => Td Δ O1 (fun d O2 => Tk Δ O2 (fun y O3 => match d, keyD y with
  | .ptr q, some k => (match getC O3 q with
    | some (.dic ks ds) => ks.Nodup ∧ ks.length < 1000000 ∧ En.nx Δ (setC O3 q (.dic (putKs k ks) (putKd k v ks ds)))
    | _ => False)
  | _, _ => False) (fun x O1 => En.xc x Δ O1)) (fun x O1 => En.xc x Δ O1)) (fun x O1 => En.xc x Δ O1)
def dDNew : DE := fun _ O P _ => ∀ p, freshC O p → P (.ptr p) ((p, .dic [] []) :: O)
section
variable {g : Gm} {X : Cx} {W : WX} {pos pos' p p2 apos cpos : Pos} {a b c e o i f value : Expr} {es : List Expr} {R : DA} {Ta Tb Tc Td Tk Tx Tv : DE} {k j : Nat} {x : Str}
theorem q_dnew : PE X (.Dict [] [] pos) (le g W dDNew) := pe_imp pe_dnewK fun σ H Q ⟨Δ, O, P, E, F, hT, sr, w, hv, hx⟩ => fun p hp =>
  hv _ _ _ _ _ (hT p (w.fresh hp)) (Same.refl F) (w.own (c := .dic [] []) (o := .dK []) hp ⟨rfl, [], rfl, Reps.nil⟩) (Rep.ptr_iff.mpr rfl)
theorem qs_setD (hu : X.A.units + 1 < cLine) (ho : PE X o (le g W Td)) (hi : PE X i (le g W Tk)) (hv : PE X value (le g W Tv)) (hs : swapsWith value (some (.Subscript o i pos')) pos.line X.env = pure false := by rfl) :
    PS X (.Assign [.Subscript o i pos'] value pos) (ls g W (dSetD Td Tk Tv)) := by
  refine ps_imp (ps_dput hu ho hi hv hs) fun E σ H ⟨D, Δ, O, F, hT, sr, w, ho⟩ => ?_
  refine le_bind hT sr w (ho.toX sr) fun v O1 vv F1 H1 hT1 s1 sr1 w1 rv hx1 => le_bind hT1 sr1 w1 hx1 fun d O2 vd F2 H2 hT2 s2 sr2 w2 rd hx2 => le_bind hT2 sr2 w2 hx2 fun y O3 vy F3 H3 hT3 s3 sr3 w3 ry hx3 => ?_
  split at hT3
  · rename_i q k ek
    have ev := Rep.ptr_iff.mp rd
    subst ev
    split at hT3
    · rename_i ks ds eg
      obtain ⟨nd, hl, hT3⟩ := hT3
      obtain ⟨_, ob, h3, h4⟩ := w3.get eg
      cases ob with
      | dK kvs =>
        obtain ⟨h5, vs, rfl, h6⟩ := h4
        obtain ⟨ws, e1, e2⟩ := putK_zip (k := k) (rv.mono (s2.trans s3)) nd h5 h6
        refine ⟨q, _, rfl, .inl ⟨_, k, h3, key_of ek ry, ?_, rfl⟩, ?_⟩
        · rw [zipK_len h6 h5, sizeLine_eq]; omega
        · rw [e1]
          exact ho.nx _ _ _ _ _ hT3 (s1.trans (s2.trans s3)) sr3 (w3.set eg (c' := .dic (putKs k ks) (putKd k v ks ds)) (o := .dK (zipK (putKs k ks) ws)) ⟨putKs_len k v ks ds h5, ws, rfl, e2⟩)
      | _ => exact h4.elim
    · exact hT3.elim
  · exact hT3.elim
end
end G

set_option Elab.async false
set_option linter.all false
set_option maxRecDepth 100000
set_option maxHeartbeats 4000000
namespace G
open PySem L2
/-! ## lists of numbers and of truth values -/
def blsOf : List D → Option (List Bool)
  | [] => some []
  | .bl i :: r => (blsOf r).map (i :: ·)
  | _ => none
theorem blsOf_map (ns : List Bool) : blsOf (ns.map D.bl) = some ns := by
  induction ns with
  | nil => rfl
  | cons n ns ih => rw [List.map_cons, blsOf, ih]; rfl
theorem blsOf_eq : ∀ {ds : List D} {ns : List Bool}, blsOf ds = some ns → ds = ns.map D.bl := by
  intro ds
  induction ds with
  | nil => intro ns h; cases h; rfl
  | cons d ds ih =>
    intro ns h
    cases d with
    | bl i =>
      rw [blsOf] at h
      cases e : blsOf ds with
      | none => rw [e] at h; cases h
      | some r =>
        rw [e] at h
        cases h
        rw [ih e]
        rfl
    | _ => simp [blsOf] at h
/-- the greatest, the least -/
def maxL : List Int → Int
  | [] => 0
  | [x] => x
  | x :: r => max x (maxL r)
def minL : List Int → Int
  | [] => 0
  | [x] => x
  | x :: r => min x (minL r)
/-- one argument, a list of whole numbers -/
def fInts (C : List Int → Prop) (h : List Int → D) : BC := fun ds O P => match ds with | [d] => (match lstOf O d with | some es => (match intsOf es with | some ns => C ns ∧ P (h ns) O | none => False) | none => False) | _ => False
def fBls (h : List Bool → D) : BC := fun ds O P => match ds with | [d] => (match lstOf O d with | some es => (match blsOf es with | some ns => P (h ns) O | none => False) | none => False) | _ => False
def fSum : BC := fInts (fun _ => True) fun ns => .int ns.sum
def fMaxL : BC := fInts (fun ns => 0 < ns.length) fun ns => .int (maxL ns)
def fMinL : BC := fInts (fun ns => 0 < ns.length) fun ns => .int (minL ns)
def fAny : BC := fBls fun bs => .bl (bs.any id)
def fAll : BC := fBls fun bs => .bl (bs.all id)
section
variable {g : Gm}
theorem lst_bls {F : Hp} {O : Sto} {H : Hp} {d : D} {v : V} {es : List D} {ns : List Bool} (e : lstOf O d = some es) (ei : blsOf es = some ns) (r : Rep g F d v) (w : Wd g F O H) : ∃ q, v = .ref q ∧ SqL g.K H q (ns.map V.bl) := by
  obtain ⟨q, vs, rfl, h1, h2⟩ := lst_of e r w
  rw [blsOf_eq ei] at h2
  rw [Reps.bls] at h2
  subst h2
  exact ⟨q, rfl, SqL.of h1⟩
theorem bls_of {h : List Bool → D} {ds : List D} {O : Sto} {P : KD} {F : Hp} {H : Hp} {vs : List V} (hf : fBls h ds O P) (rs : Reps g F ds vs) (w : Wd g F O H) : ∃ q ns, vs = [.ref q] ∧ SqL g.K H q (ns.map V.bl) ∧ P (h ns) O := by
  unfold fBls at hf
  split at hf
  · split at hf
    · rename_i es e
      split at hf
      · rename_i ns ei
        obtain ⟨u, rfl, h1⟩ := reps1 rs
        obtain ⟨q, rfl, hs⟩ := lst_bls e ei h1 w
        exact ⟨q, ns, rfl, hs, hf⟩
      · exact hf.elim
    · exact hf.elim
  · exact hf.elim
theorem lk_all : LkC g (rAll g.K) fAll := by
  intro ds O P F H vs Q hf rs w hv
  obtain ⟨q, ns, rfl, hs, hp⟩ := bls_of hf rs w
  exact ⟨q, ns, rfl, hs, hv.now hp w rbl⟩
end
section
variable {O : Sto} {P : KD} {ns : List Int} {bs : List Bool}
theorem f_sum : fSum [.lst (ns.map D.int)] O P = P (.int ns.sum) O := by simp only [fSum, fInts, lstOf, intsOf_map, true_and]
theorem f_maxL : fMaxL [.lst (ns.map D.int)] O P = (0 < ns.length ∧ P (.int (maxL ns)) O) := by simp only [fMaxL, fInts, lstOf, intsOf_map]
theorem f_minL : fMinL [.lst (ns.map D.int)] O P = (0 < ns.length ∧ P (.int (minL ns)) O) := by simp only [fMinL, fInts, lstOf, intsOf_map]
theorem f_any : fAny [.lst (bs.map D.bl)] O P = P (.bl (bs.any id)) O := by simp only [fAny, fBls, lstOf, blsOf_map]
theorem f_all : fAll [.lst (bs.map D.bl)] O P = P (.bl (bs.all id)) O := by simp only [fAll, fBls, lstOf, blsOf_map]
end
/-! ## list(x), list(d), dict(d) -/
def kD : Key → D
  | .inl i => .int i
  | .inr x => .str x
def fListS : BC := fun ds O P => match ds with | [d] => (match seqOf O d with | some es => P (.lst es) O | none => False) | _ => False
def fListD : BC := fun ds O P => match ds with | [d] => (match dicOf O d with | some t => P (.lst (t.1.map kD)) O | none => False) | _ => False
def fDictD : BC := fun ds O P => match ds with | [d] => (match dicOf O d with | some t => ∀ p, freshC O p → P (.ptr p) ((p, .dic t.1 t.2) :: O) | none => False) | _ => False
section
variable {g : Gm} {X : Cx} {W : WX} {pos pos' p p2 : Pos} {a b c e : Expr} {es : List Expr} {R : DA} {Ta Tb : DE} {k j : Nat} {x : Str}
theorem lk_listS : LkC g (fun xs H Q => ∃ p ys, xs = [.ref p] ∧ (SqL g.K H p ys ∨ SqT g.K H p ys) ∧ ∀ l, H l = none → Q (.ref l) (upd H l (.lst ys))) fListS := by
  intro ds O P F H vs Q hf rs w hv
  unfold fListS at hf
  split at hf
  · split at hf
    · rename_i es e
      obtain ⟨u, rfl, h1⟩ := reps1 rs
      obtain ⟨q, us, rfl, hs, h2⟩ := seq_of e h1 w
      exact ⟨q, us, rfl, hs.elim .inr .inl, fun l hl => hv _ _ _ _ _ hf (w.fsame hl) (w.frozen hl) (h2.newL (w.same.free hl))⟩
    · exact hf.elim
  · exact hf.elim
theorem keys_rep {F : Hp} : ∀ {ks : List Key} {vs : List V}, ks.length = vs.length → Reps g F (ks.map kD) ((zipK ks vs).map fun kv => kV kv.1) := by
  intro ks
  induction ks with
  | nil => intro vs _; exact Reps.nil
  | cons k ks ih =>
    intro vs hl
    cases vs with
    | nil => simp at hl
    | cons v vs =>
      rw [zipK_cons, List.map_cons, List.map_cons]
      refine Reps.cons ?_ (ih (by simpa using hl))
      cases k with
      | inl i => exact rint
      | inr i => exact Rep.str_iff.mpr rfl
theorem lk_listD : LkC g (fun xs H Q => ∃ (a : Addr) (kvs : List (Key × V)), xs = [.ref a] ∧ Rd H a (.dK kvs) ∧ ∀ p, H p = none → Q (.ref p) (upd H p (.lst (kvs.map fun kv => kV kv.1)))) fListD := by
  intro ds O P F H vs Q hf rs w hv
  unfold fListD at hf
  split at hf
  · split at hf
    · rename_i t e
      obtain ⟨u, rfl, h1⟩ := reps1 rs
      obtain ⟨ks, dd⟩ := t
      obtain ⟨q, us, rfl, hs, h2, h3⟩ := dic_of e h1 w
      exact ⟨q, _, rfl, hs, fun l hl => hv _ _ _ _ _ hf (w.fsame hl) (w.frozen hl) ((keys_rep (by rw [h2, h3.length])).newL (w.same.free hl))⟩
    · exact hf.elim
  · exact hf.elim
/-! ## x += e -/
end
/-! ## enumerate -/
def dEnum (R : DA) : DA := fun Δ O P E => R Δ O (fun ds O1 => match ds with
  | [d] => (match d with | .lst xs => P (xs.mapIdx fun i x => .tup [.int (i : Int), x]) O1 | _ => False)
  | _ => False) E
section
variable {g : Gm} {X : Cx} {W : WX} {pos pos' p p2 tpos : Pos} {a b c e : Expr} {elts : List Expr} {kk : Nat} {R : DA}
end
end G

set_option Elab.async false
set_option linter.all false
set_option maxRecDepth 100000
set_option maxHeartbeats 4000000
namespace G
open PySem L2
/-! ## own specials: truth, len, repr, str, [] -/
/-- what stands behind an own def of one object: its answer through h -/
def dSp1 (tab : List (Cl × DSp)) (h : D → Sto → KD → Prop) (Ta : DE) : DE := fun Δ O P E => Ta Δ O (fun x O1 => match clsOf O1 x with
  | some c => (match tabAt tab c with | some S => S [x] O1 (fun d O2 => h d O2 P) (fun _ _ => False) | none => False)
  | none => False) E
def hLen : D → Sto → KD → Prop := fun d O P => match d with | .int n => (0 ≤ n ∧ n < 2 ^ 63) ∧ P (.int n) O | _ => False
def hStr : D → Sto → KD → Prop := fun d O P => match d with | .str n => P (.str n) O | _ => False
def hAny : D → Sto → KD → Prop := fun d O P => P d O
def dTruO (tab : List (Cl × DSp)) (Ta : DE) : DT := fun Δ O P E => Ta Δ O (fun x O1 => match clsOf O1 x with
  | some c => (match tabAt tab c with | some S => S [x] O1 (boolK P) (fun _ _ => False) | none => False)
  | none => False) E
section
variable {g : Gm} {X : Cx} {W : WX} {pos pos' p apos : Pos} {a b c o : Expr} {es : List Expr} {Ta Tb : DE} {R : DA} {k j : Nat} {f : Addr} {S : DSp} {x m : Str} {tab : List (Cl × DSp)}
/-! ## a method without arguments; a property -/
theorem q_gmeth0 {pl : Sem Bool} (M : MTab g X.prog X.w X.K X.mg X.base k m tab) (hr : Room j X.A) (tk : Takes X W) (ho : PE X o (le g W Ta)) (hkj : k ≤ j := by first | decide | omega) (hmf : Fd.of m = none := by decide +kernel) (hK : X.K = g.K := by rfl)
    (ht : eval (.Call (.Attribute o m apos) [] [] pos) X.env = (do
      let ov ← eval o X.env
      standAt apos.atName
      let (f, first) ← holding [ov] (getMethod ov m pl)
      callWith pos f first (backTo pos (starEach [] X.env)) (backToKw pos (keywordEach [] X.env))) := by rfl) :
    PE X (.Call (.Attribute o m apos) [] [] pos) (le g W (dMeth tab Ta dNil)) := by
  refine ⟨fun pins s σ H Q I h => ?_⟩
  obtain ⟨Δ, O, P, E, F, hT, sr, w, hv, hx⟩ := h
  refine PySem.W.methodCall_KW (pl := pl) (thn (ho.run pins s σ H _ I (le_bind (Q := fun v H1 => ∃ c q dx fs S, v = .ref q ∧ H1 q = some (.ins (g.ca c) dx fs) ∧ fs.lookup m = none ∧ tabAt tab c = some S ∧ toSp g S [v] H1 Q fun cls dd H' => W cls dd σ H') hT sr w hx
    fun d O1 v F1 H1 hT1 s1 sr1 w1 rx hx1 => ?_)) fun u s1 ⟨v, H1, I1, rv, c, q, dx, fs, S, ev, eq1, l, eS, qa⟩ => ?_) ht
  · split at hT1
    · rename_i c e
      obtain ⟨q, dx, fs, rfl, h1, h2⟩ := obj_look e rx w1 hmf
      split at hT1
      · rename_i S eS
        exact ⟨c, q, dx, fs, S, rfl, h1, h2, eS, sp_of hT1 (Reps.one rx) w1 hv s1 hx1⟩
      · exact hT1.elim
    · exact hT1.elim
  · subst ev
    obtain rfl : u = Value.ref q := rv
    obtain ⟨cls, f, mt, Fn⟩ := M c S eS
    refine getmeth_ok I1 eq1 cls mt l ?_
    exact PySem.W.callWith_K0 (first := [.ref q]) I1.kIn mt.kp (wpAny_call (run_FN (us := [.ref q]) (vs := [.ref q]) Fn (hr.mono hkj) tk I1 (.cons rfl .nil) qa))
/-! ## classmethods, staticmethods -/
theorem run_cmG {pins : List (Addr × Obj)} {σ : St} {H : Hp} {s : Shared} {Q : VK} {us : List Value} {vs : List V} {q C : Addr} (Fn : FN g X.prog X.w X.K X.mg X.base k f S) (hr : Room k X.A) (tk : Takes X W) (I : Inv X ((q, PySem.W.methodObj (.ref f) (.ref C)) :: pins) σ H s) (r : Vals vs us)
    (h : toSp g S (.ref C :: vs) H Q (fun cls dd H' => W cls dd σ H')) : wpAny (model X.prog X.w) X.A (call (.ref q) us) (EP X pins σ Q) X.xe s := by
  have z : wpAny (model X.prog X.w) X.A (call (.ref q) us) (EP X ((q, PySem.W.methodObj (.ref f) (.ref C)) :: pins) σ Q) X.xe s :=
    wpAny_call (PySem.W.method_call (ClX.pin_at I) (run_FN (us := .ref C :: us) (vs := .ref C :: vs) Fn hr tk I (.cons rfl r) h))
  exact thn z fun _ _ y => ClX.unpinE y
def dCMeth (c : Cl) (S : DSp) (R : DA) : DE := fun Δ O P E => R Δ O (fun ds O1 => S (.cls c :: ds) O1 P E) E
def CmAt (g : Gm) (P : Program) (w : World) (K : PySem.W.Frag) (mg : Str → Option Value) (base : Heap) (k : Nat) (c : Cl) (m : Str) (S : DSp) : Prop := ∃ mc p f, ClX.CRead K (g.ca c) mc ∧ ClX.CMet K (g.ca c) mc m p f ∧ FN g P w K mg base k f S
theorem q_cmeth {pl : Sem Bool} {cl : Cl} (M : CmAt g X.prog X.w X.K X.mg X.base k cl m S) (hm : X.mg x = some (.ref (g.ca cl))) (hr : Room j X.A) (tk : Takes X W) (ha : PA X (a :: es) (la g W R)) (hkj : k ≤ j := by first | decide | omega) (hg : Gl X x := by rfl) (hd : (x == ("__debug__" : Str)) = false := by decide)
    (hst : starEach (a :: es) X.env = (false, eval a X.env) :: starEach es X.env := by rfl) (hpl : (backTo pos (starEach es X.env)).any (·.1) = false := by rfl)
    (ht : eval (.Call (.Attribute (.Name x p) m apos) (a :: es) [] pos) X.env = (do
      let ov ← eval (.Name x p) X.env
      standAt apos.atName
      let (f, first) ← holding [ov] (getMethod ov m pl)
      callWith pos f first (backTo pos (starEach (a :: es) X.env)) (backToKw pos (keywordEach [] X.env))) := by rfl) :
    PE X (.Call (.Attribute (.Name x p) m apos) (a :: es) [] pos) (le g W (dCMeth cl S R)) := by
  refine ⟨fun pins s σ H Q I h => ?_⟩
  obtain ⟨Δ, O, P, E, F, hT, sr, w, hv, hx⟩ := h
  obtain ⟨mc, pp, f, rd, cm, Fn⟩ := M
  refine PySem.W.methodCall_KW (pl := pl) (thn ((pe_glob (v := .ref (g.ca cl)) hg hm rfl hd).run pins s σ H (fun v H1 => v = .ref (g.ca cl) ∧ H1 = H) I ⟨rfl, rfl⟩) fun u s1 ⟨v, H1, I1, rv, ev, eH⟩ => ?_) ht
  subst ev
  subst eH
  obtain rfl : u = Value.ref (g.ca cl) := rv
  refine ClX.getmethcm_ok I1 rd cm fun s2 I2 => ?_
  refine ClX.callwith_cm I2 (ClX.base_none I1 (Nat.le_refl _)) cm.fi (thn (ha.run pos _ s2 σ H1 _ I2 (la_bind (Q := fun vs H2 => toSp g S (.ref (g.ca cl) :: vs) H2 Q fun cls dd H' => W cls dd σ H') hT sr w hx fun ds O1 vs F1 H2 hT1 s1 sr1 w1 rs hx1 => sp_of hT1 (Reps.cons (Rep.cls_iff.mpr rfl) rs) w1 hv s1 hx1)) fun us s3 ⟨vs, H2, I3, rv, q2⟩ => ⟨⟨ClX.pin_at I3, I3.kIn⟩, ?_⟩) hst hpl
  exact run_cmG Fn (hr.mono hkj) tk I3 rv q2
end
section
variable {Δ : Sl} {O : Sto} {P : KD} {E : KX} {Ta Tf : DE} {R : DA} {PB : Bool → Sto → Prop} {tab : List (Cl × DSp)} {h : D → Sto → KD → Prop}
theorem e_sp1 : dSp1 tab h Ta Δ O P E = Ta Δ O (fun x O1 => match clsOf O1 x with
  | some c => (match tabAt tab c with | some S => S [x] O1 (fun d O2 => h d O2 P) (fun _ _ => False) | none => False)
  | none => False) E := propext Iff.rfl
theorem e_truO : dTruO tab Ta Δ O PB E = Ta Δ O (fun x O1 => match clsOf O1 x with
  | some c => (match tabAt tab c with | some S => S [x] O1 (boolK PB) (fun _ _ => False) | none => False)
  | none => False) E := propext Iff.rfl
theorem e_cmeth {c : Cl} {S : DSp} : dCMeth c S R Δ O P E = R Δ O (fun ds O1 => S (.cls c :: ds) O1 P E) E := propext Iff.rfl
theorem h_len {n : Int} : hLen (.int n) O P = ((0 ≤ n ∧ n < 2 ^ 63) ∧ P (.int n) O) := propext Iff.rfl
theorem h_str {n : Str} : hStr (.str n) O P = P (.str n) O := propext Iff.rfl
theorem h_any {d : D} : hAny d O P = P d O := propext Iff.rfl
end
end G

set_option Elab.async false
set_option linter.all false
set_option maxRecDepth 100000
set_option maxHeartbeats 4000000
namespace G
open PySem L2
/-! ## sorted of pairs -/
def lexLe (a b : Int × Int) : Bool := decide (a.1 < b.1 ∨ (a.1 = b.1 ∧ a.2 ≤ b.2))
def srtP (xs : List (Int × Int)) : List (Int × Int) := xs.mergeSort lexLe
def prsOf : List D → Option (List (Int × Int))
  | [] => some []
  | .tup [.int i, .int j] :: r => (prsOf r).map ((i, j) :: ·)
  | _ => none
theorem prsOf_map (ns : List (Int × Int)) : prsOf (ns.map pr) = some ns := by
  induction ns with
  | nil => rfl
  | cons n ns ih => rw [List.map_cons, prsOf, ih]; rfl
def fSortP : BC := fun ds O P => match ds with | [d] => (match lstOf O d with | some es => (match prsOf es with | some ns => P (.lst ((srtP ns).map pr)) O | none => False) | none => False) | _ => False
section
variable {g : Gm}
theorem f_sortP {O : Sto} {P : KD} {ns : List (Int × Int)} : fSortP [.lst (ns.map pr)] O P = P (.lst ((srtP ns).map pr)) O := by simp only [fSortP, lstOf, prsOf_map]
/-! ## texts -/
def fStrI : BC := fun ds O P => match ds with | [.int i] => i.natAbs.log2 < 1920 ∧ P (.str (toString i)) O | _ => False
theorem f_strI {O : Sto} {P : KD} {i : Int} : fStrI [.int i] O P = (i.natAbs.log2 < 1920 ∧ P (.str (toString i)) O) := propext Iff.rfl
def strsOf : List D → Option (List Str)
  | [] => some []
  | .str i :: r => (strsOf r).map (i :: ·)
  | _ => none
theorem strsOf_map (ns : List Str) : strsOf (ns.map D.str) = some ns := by
  induction ns with
  | nil => rfl
  | cons n ns ih => rw [List.map_cons, strsOf, ih]; rfl
theorem strsOf_eq : ∀ {ds : List D} {ns : List Str}, strsOf ds = some ns → ds = ns.map D.str := by
  intro ds
  induction ds with
  | nil => intro ns h; cases h; rfl
  | cons d ds ih =>
    intro ns h
    cases d with
    | str i =>
      rw [strsOf] at h
      cases e : strsOf ds with
      | none => rw [e] at h; cases h
      | some r => rw [e] at h; cases h; rw [ih e]; rfl
    | _ => simp [strsOf] at h
def dJoin (Ta Tb : DE) : DE := fun Δ O P E => Ta Δ O (fun x O1 => match x with
  | .str a => Tb Δ O1 (fun y O2 => match seqOf O2 y with
    | some es => (match strsOf es with | some ys => (ys.map (·.length)).sum + ys.length * a.length ≤ 16777216 ∧ P (.str (Txt.join a ys)) O2 | none => False)
    | none => False) E
  | _ => False) E
variable {X : Cx} {W : WX} {pos pos' p apos : Pos} {a b c o : Expr} {es : List Expr} {Ta Tb : DE} {R : DA} {k j : Nat} {f : Addr} {S : DSp} {x m : Str} {tab : List (Cl × DSp)}
/-! ## f-strings -/
def dFmt (Ta : DE) : DE := fun Δ O P E => Ta Δ O (fun x O1 => match x with
  | .str y => y.length ≤ sizeLine ∧ P (.str y) O1
  | .int i => i.natAbs.log2 < 1920 ∧ P (.str (toString i)) O1
  | _ => False) E
def dJs : List DE → Str → Sl → Sto → (Str → Sto → Prop) → KX → Prop
  | [], acc, _, O, P, _ => P acc O
  | T :: Ts, acc, Δ, O, P, E => T Δ O (fun x O1 => match x with | .str y => (acc ++ y).length ≤ sizeLine ∧ dJs Ts (acc ++ y) Δ O1 P E | _ => False) E
def dJoined (Ts : List DE) : DE := fun Δ O P E => dJs Ts Str.empty Δ O (fun out O1 => P (.str out) O1) E
end
section
variable {Δ : Sl} {O : Sto} {P : KD} {E : KX} {Ta Tb Tc Tf : DE} {R : DA} {En : DEnds} {T : DS} {i j : Nat} {PA : List D → Sto → Prop}
theorem e_join : dJoin Ta Tb Δ O P E = Ta Δ O (fun x O1 => match x with
  | .str a => Tb Δ O1 (fun y O2 => match seqOf O2 y with
    | some es => (match strsOf es with | some ys => (ys.map (·.length)).sum + ys.length * a.length ≤ 16777216 ∧ P (.str (Txt.join a ys)) O2 | none => False)
    | none => False) E
  | _ => False) E := propext Iff.rfl
theorem e_fmt : dFmt Ta Δ O P E = Ta Δ O (fun x O1 => match x with
  | .str y => y.length ≤ sizeLine ∧ P (.str y) O1
  | .int i => i.natAbs.log2 < 1920 ∧ P (.str (toString i)) O1
  | _ => False) E := propext Iff.rfl
theorem e_joined {Ts : List DE} : dJoined Ts Δ O P E = dJs Ts Str.empty Δ O (fun out O1 => P (.str out) O1) E := propext Iff.rfl
theorem e_js0 {acc : Str} {Q : Str → Sto → Prop} : dJs [] acc Δ O Q E = Q acc O := propext Iff.rfl
theorem e_js1 {T : DE} {Ts : List DE} {acc : Str} {Q : Str → Sto → Prop} : dJs (T :: Ts) acc Δ O Q E = T Δ O (fun x O1 => match x with | .str y => (acc ++ y).length ≤ sizeLine ∧ dJs Ts (acc ++ y) Δ O1 Q E | _ => False) E := propext Iff.rfl
theorem e_gt2 {a b : D} {Q : Sl → Prop} : dgT [i, j] (.tup [a, b]) Δ Q = Q ((Δ.set i (some a)).set j (some b)) := propext Iff.rfl
theorem e_gt3 {k : Nat} {a b c : D} {Q : Sl → Prop} : dgT [i, j, k] (.tup [a, b, c]) Δ Q = Q (((Δ.set i (some a)).set j (some b)).set k (some c)) := propext Iff.rfl
theorem e_enum : dEnum R Δ O PA E = R Δ O (fun ds O1 => match ds with
  | [d] => (match d with | .lst xs => PA (xs.mapIdx fun i x => .tup [.int (i : Int), x]) O1 | _ => False)
  | _ => False) E := propext Iff.rfl
theorem f_addI {i j : Int} : fAddI (.int i) (.int j) O P = P (.int (i + j)) O := propext Iff.rfl
theorem e_dnew : dDNew Δ O P E = ∀ p, freshC O p → P (.ptr p) ((p, .dic [] []) :: O) := propext Iff.rfl
theorem seqT {ds : List D} : seqOf O (.tup ds) = some ds := rfl
theorem seqL {ds : List D} : seqOf O (.lst ds) = some ds := rfl
theorem seqP {a : Addr} {ds : List D} (h : getC O a = some (.lst ds)) : seqOf O (.ptr a) = some ds := by simp only [seqOf, lstOf, h]
end
/-! ## == of lists of own objects -/
section
open PySem.SeqAt
open AutoSeq1 (wpAny_loadPart')
open MeetsSeq MeetsSeq2 MeetsSeq3 SeqRoads2
variable {prog : Program} {w : World} {A : Around} {R : Result → Shared → Prop}
end
end G

set_option Elab.async false
set_option linter.all false
set_option maxRecDepth 100000
set_option maxHeartbeats 4000000
namespace G
open PySem L2
/-! ## == of lists of stretches -/
abbrev st (x : Int × Int) : D := .obj .Stretch [.low, .high] [.int x.1, .int x.2]
def stsOf : List D → Option (List (Int × Int))
  | [] => some []
  | .obj .Stretch [.low, .high] [.int i, .int j] :: r => (stsOf r).map ((i, j) :: ·)
  | _ => none
theorem stsOf_map (ns : List (Int × Int)) : stsOf (ns.map st) = some ns := by
  induction ns with
  | nil => rfl
  | cons n ns ih => rw [List.map_cons, stsOf, ih]; rfl
def dEqSts (Ta Tb : DE) : DE := fun Δ O P E => Ta Δ O (fun x O1 => Tb Δ O1 (fun y O2 => match x, y with
  | .lst xs, .lst ys => (match stsOf xs, stsOf ys with | some as, some bs => P (.bl (decide (as = bs))) O2 | _, _ => False)
  | _, _ => False) E) E
section
variable {g : Gm} {X : Cx} {W : WX} {pos pos' p apos : Pos} {a b c o : Expr} {es : List Expr} {Ta Tb : DE} {R : DA} {k j : Nat} {f : Addr} {S : DSp} {x m : Str}
theorem e_eqSts {Δ : Sl} {O : Sto} {P : KD} {E : KX} : dEqSts Ta Tb Δ O P E = Ta Δ O (fun x O1 => Tb Δ O1 (fun y O2 => match x, y with
  | .lst xs, .lst ys => (match stsOf xs, stsOf ys with | some as, some bs => P (.bl (decide (as = bs))) O2 | _, _ => False)
  | _, _ => False) E) E := propext Iff.rfl
end
end G
namespace G
open PySem L2
section
variable {g : Gm} {P : Program} {w : World} {K : PySem.W.Frag} {mg : Str → Option Value} {base : Heap}
theorem fnF {x qual : Str} {st : Stmt} {f : Addr} {fd : FuncData} {N ps : List Str} {k : Nat} {S : DSp} {T : DS} (Fn : Fun K x qual st f fd) (hb : Binds K fd ps []) (Sc : FnScope N ps (defScope st)) (body : BodyOk g P w K mg base k N qual st T) (pure : Pure N ps.length S T) : FN g P w K mg base (k + 1) f S :=
  fn_FN (fn_okF Fn Sc (fun ds O P E h => (pure ds O P E h).1) (body f) fun ds O P E h => (pure ds O P E h).2) hb
end
end G

set_option Elab.async false
set_option linter.all false
set_option maxRecDepth 100000
set_option maxHeartbeats 4000000
namespace G
open PySem L2
section
variable {Δ : Sl} {O : Sto} {P : KD} {E : KX} {Ta Tb Tc Td Tk Tx Tv Tf : DE} {R : DA} {En : DEnds} {T : DS} {i j : Nat} {PA : List D → Sto → Prop}
theorem e_aug {f : B2} : dAug i f Ta En Δ O = dVar i Δ O (fun x O0 => Ta Δ O0 (fun y O1 => f x y O1 fun z O2 => En.nx (Δ.set i (some z)) O2) (fun x O1 => En.xc x Δ O1)) (fun _ _ => False) := by
  unfold dAug dVar
  cases Δ[i]? with
  | none => rfl
  | some o => cases o <;> rfl
theorem e_frzS : dFrzS i T En Δ O = dVar i Δ O (fun d O1 => match d with
  | .ptr q => (match getC O1 q with | some c => (match frzD c with | some d' => T En (Δ.set i (some d')) (delC O1 q) | none => False) | none => False)
  | _ => False) (fun _ _ => False) := by
  unfold dFrzS dVar
  cases Δ[i]? with
  | none => rfl
  | some o =>
    cases o with
    | none => rfl
    | some d => cases d <;> rfl
theorem e_dix : dDix Td Tk Δ O P E = Td Δ O (fun d O1 => Tk Δ O1 (fun y O2 => match dicOf O2 d, keyD y with
  | some t, some k => (match getK k t.1 t.2 with | some e => P e O2 | none => False)
  | _, _ => False) E) E := propext Iff.rfl
theorem e_inD {neg : Bool} : dInD neg Tk Td Δ O P E = Tk Δ O (fun y O1 => Td Δ O1 (fun d O2 => match dicOf O2 d, keyD y with
  | some t, some k => P (.bl (if neg = true then !(getK k t.1 t.2).isSome else (getK k t.1 t.2).isSome)) O2
  | _, _ => False) E) E := propext Iff.rfl
theorem e_dget2 : dDget2 Td Tk Tx Δ O P E = Td Δ O (fun d O1 => match dicOf O1 d with
  | some _ => Tk Δ O1 (fun y O2 => Tx Δ O2 (fun x O3 => match dicOf O3 d, keyD y with
    | some t, some k => P ((getK k t.1 t.2).getD x) O3
    | _, _ => False) E) E
  | none => False) E := propext Iff.rfl
theorem e_setD : dSetD Td Tk Tv En Δ O = Tv Δ O (fun v O1 => Td Δ O1 (fun d O2 => Tk Δ O2 (fun y O3 => match d, keyD y with
  | .ptr q, some k => (match getC O3 q with
    | some (.dic ks ds) => ks.Nodup ∧ ks.length < 1000000 ∧ En.nx Δ (setC O3 q (.dic (putKs k ks) (putKd k v ks ds)))
    | _ => False)
  | _, _ => False) (fun x O1 => En.xc x Δ O1)) (fun x O1 => En.xc x Δ O1)) (fun x O1 => En.xc x Δ O1) := propext Iff.rfl
theorem dicP {a : Addr} {ks : List Key} {ds : List D} (h : getC O a = some (.dic ks ds)) : dicOf O (.ptr a) = some (ks, ds) := by simp only [dicOf, h]
theorem dicD {ks : List Key} {ds : List D} : dicOf O (.dic ks ds) = some (ks, ds) := rfl
theorem keyI {n : Int} : keyD (.int n) = some (.inl n) := rfl
theorem keyS {n : Str} : keyD (.str n) = some (.inr n) := rfl
end
/-! ## dicts as functions -/
noncomputable instance memKey (k : Key) (ks : List Key) : Decidable (k ∈ ks) := by
  induction ks with
  | nil => exact isFalse (by simp)
  | cons h hs ih =>
    cases (inferInstance : Decidable (k = h)) with
    | isTrue e => exact isTrue (by rw [e]; exact List.mem_cons_self)
    | isFalse e =>
      cases ih with
      | isTrue q => exact isTrue (List.mem_cons_of_mem _ q)
      | isFalse q => exact isFalse (fun z => (List.mem_cons.mp z).elim e q)
section
variable {f : Key → D} {k : Key} {v : D}
end
end G

set_option Elab.async false
set_option linter.all false
set_option maxRecDepth 100000
set_option maxHeartbeats 4000000
namespace G
open PySem L2
/-! ## sets of levels, in plain words -/
def inB (l : Int) (x : Int × Int) : Bool := decide (x.1 ≤ l) && decide (l ≤ x.2)
theorem inB_iff {l : Int} {x : Int × Int} : inB l x = true ↔ x.1 ≤ l ∧ l ≤ x.2 := by simp [inB]
def mem (xs : List (Int × Int)) (l : Int) : Bool := xs.any (inB l)
theorem mem_iff {xs : List (Int × Int)} {l : Int} : mem xs l = true ↔ ∃ x ∈ xs, x.1 ≤ l ∧ l ≤ x.2 := by
  simp only [mem, List.any_eq_true, inB_iff]
structure Norm (ys : List (Int × Int)) : Prop where
  gap : ys.Pairwise fun a b => a.2 + 1 < b.1
  ok : ∀ y ∈ ys, y.1 ≤ y.2
theorem Norm.nil : Norm [] := ⟨.nil, fun y h => by cases h⟩
theorem Norm.tail {y : Int × Int} {ys : List (Int × Int)} (h : Norm (y :: ys)) : Norm ys := ⟨(List.pairwise_cons.mp h.gap).2, fun z hz => h.ok z (List.mem_cons_of_mem _ hz)⟩
theorem Norm.one {x : Int × Int} (h : x.1 ≤ x.2) : Norm [x] := ⟨List.pairwise_singleton _ _, fun y hy => by rw [List.mem_singleton.mp hy]; exact h⟩
/-! ### merging -/
/-! ### depth -/
def dep (xs : List (Int × Int)) (l : Int) : Nat := (xs.filter (inB l)).length
def raw (xs : List (Int × Int)) (need : Int) (sp : List Int) (l : List (Int × Nat)) : List (Int × Int) := l.filterMap fun p => if need ≤ (dep xs p.1 : Int) then some (p.1, sp.getD (p.2 + 1) 0 - 1) else none
section
variable {xs : List (Int × Int)} {sp : List Int} {need : Int}
end
end G

set_option Elab.async false
set_option linter.all false
set_option maxRecDepth 100000
set_option maxHeartbeats 4000000
namespace G
open PySem L2
theorem kit_int_int : kitB "int" "int" = some true := by decide +kernel
theorem kit_int_bool : kitB "int" "bool" = some false := by decide +kernel
theorem kit_int_str : kitB "int" "str" = some false := by decide +kernel
theorem kit_list_list : kitB "list" "list" = some true := by decide +kernel
theorem kit_tuple_tuple : kitB "tuple" "tuple" = some true := by decide +kernel
theorem kit_str_str : kitB "str" "str" = some true := by decide +kernel
theorem kit_dict_dict : kitB "dict" "dict" = some true := by decide +kernel
theorem kit_bool_bool : kitB "bool" "bool" = some true := by decide +kernel
theorem kit_list_tuple : kitB "list" "tuple" = some false := by decide +kernel
theorem kit_none_str : kitB "NoneType" "str" = some false := by decide +kernel
theorem kit_none_int : kitB "NoneType" "int" = some false := by decide +kernel
theorem eqB_int {i j : Int} : eqB (.int i) (.int j) = some (decide (i = j)) := rfl
theorem eqB_bl {i j : Bool} : eqB (.bl i) (.bl j) = some (decide (i = j)) := rfl
theorem eqB_str {i j : Str} : eqB (.str i) (.str j) = some (decide (i = j)) := rfl
theorem emp_prs (xs : List (Int × Int)) : eqB (.lst (xs.map pr)) (.lst []) = some (decide (xs = [])) := eq_prs xs []
end G

set_option Elab.async false
set_option linter.all false
set_option maxRecDepth 100000
set_option maxHeartbeats 4000000
namespace G
open PySem L2
/-! ## x in a list -/
def inB2 (neg b : Bool) : Bool := if neg = true then !b else b
def fInQ (neg : Bool) : B2 := fun x y O P => match seqOf O y with
  | some es => (match x with
    | .int i => (match intsOf es with | some ns => P (.bl (inB2 neg (decide (i ∈ ns)))) O | none => False)
    | .str i => (match strsOf es with | some ns => P (.bl (inB2 neg (decide (i ∈ ns)))) O | none => False)
    | _ => False)
  | none => False
abbrev fIn : B2 := fInQ false
abbrev fNotIn : B2 := fInQ true
section
variable {g : Gm}
theorem inV_int {i : Int} {ns : List Int} : inV (.int i) (ns.map V.int) = decide (i ∈ ns) := by
  unfold inV
  rw [List.any_map, Bool.eq_iff_iff, List.any_eq_true, decide_eq_true_eq]
  constructor
  · rintro ⟨y, hy, e⟩
    have e : (y == i) = true := e
    rw [← beq_iff_eq.mp e]; exact hy
  · intro h
    exact ⟨i, h, by show (i == i) = true; simp⟩
theorem inV_str {i : Str} {ns : List Str} : inV (.str i) (ns.map V.str) = decide (i ∈ ns) := by
  unfold inV
  rw [List.any_map, Bool.eq_iff_iff, List.any_eq_true, decide_eq_true_eq]
  constructor
  · rintro ⟨y, hy, e⟩
    have e : (y == i) = true := e
    rw [← beq_iff_eq.mp e]; exact hy
  · intro h
    exact ⟨i, h, by show (i == i) = true; simp⟩
theorem lk_inQ {neg : Bool} : Lk2 g (rIn g.K neg) (fInQ neg) := by
  intro x y O P F H vx vy Q hf rx ry w hv
  unfold fInQ at hf
  split at hf
  · rename_i es e
    obtain ⟨q, vs, rfl, h1, h2⟩ := seq_of e ry w
    cases x with
    | int i =>
      have hf : (match intsOf es with | some ns => P (.bl (inB2 neg (decide (i ∈ ns)))) O | none => False) := hf
      split at hf
      · rename_i ns en
        rw [intsOf_eq en, Reps.ints] at h2
        subst h2
        rw [Rep.int_iff.mp rx]
        refine ⟨q, _, rfl, h1.elim .inr .inl, rfl, by simp [flatV], ?_⟩
        rw [inV_int]
        exact hv.now hf w rbl
      · exact hf.elim
    | str i =>
      have hf : (match strsOf es with | some ns => P (.bl (inB2 neg (decide (i ∈ ns)))) O | none => False) := hf
      split at hf
      · rename_i ns en
        rw [strsOf_eq en, Reps.strs] at h2
        subst h2
        rw [Rep.str_iff.mp rx]
        refine ⟨q, _, rfl, h1.elim .inr .inl, rfl, by simp [flatV], ?_⟩
        rw [inV_str]
        exact hv.now hf w rbl
      · exact hf.elim
    | _ => exact hf.elim
  · exact hf.elim
theorem lk_in : Lk2 g (rIn g.K false) fIn := lk_inQ
theorem lk_notin : Lk2 g (rIn g.K true) fNotIn := lk_inQ
theorem op_notin_seq {X : Cx} : OpR X (compareOp .NotIn) (rIn X.K true) := op_notIn_seq
/-- one sign in a text -/
def fInSQ (neg : Bool) : B2 := fun x y O P => match x, y with
  | .str c, .str z => (match c.cps.toList with | [n] => P (.bl (inB2 neg (decide (n ∈ z.cps.toList)))) O | _ => False)
  | _, _ => False
abbrev fInS : B2 := fInSQ false
theorem one_sign {c : Str} {n : Nat} (h : c.cps.toList = [n]) : c = ⟨#[n]⟩ := by
  obtain ⟨a⟩ := c
  have : a = #[n] := by
    apply Array.ext'
    simpa using h
  rw [this]
theorem lk_sign : Lk2 g (fun x y H Q => ∃ (c : Nat) (z : Str), x = .str ⟨#[c]⟩ ∧ y = .str z ∧ Q (.bl (decide (c ∈ z.cps.toList))) H) fInS := by
  intro x y O P F H vx vy Q hf rx ry w hv
  unfold fInS fInSQ at hf
  split at hf
  · rename_i c z
    split at hf
    · rename_i n e
      rw [one_sign e] at rx
      exact ⟨n, z, Rep.str_iff.mp rx, Rep.str_iff.mp ry, hv.now hf w rbl⟩
    · exact hf.elim
  · exact hf.elim
theorem f_inI {neg : Bool} {O : Sto} {P : KD} {i : Int} {ns : List Int} : fInQ neg (.int i) (.lst (ns.map D.int)) O P = P (.bl (inB2 neg (decide (i ∈ ns)))) O := by simp only [fInQ, seqOf, lstOf, intsOf_map]
theorem f_inS {neg : Bool} {O : Sto} {P : KD} {i : Str} {ns : List Str} : fInQ neg (.str i) (.lst (ns.map D.str)) O P = P (.bl (inB2 neg (decide (i ∈ ns)))) O := by simp only [fInQ, seqOf, lstOf, strsOf_map]
theorem inB2_t {b : Bool} : inB2 true b = !b := rfl
theorem inB2_f {b : Bool} : inB2 false b = b := rfl
/-! ## isinstance of a built-in type -/
def dIsB (n : String) (T : DE) : DE := fun Δ O P E => T Δ O (fun d O1 => match tgD O1 d with
  | some (.b m) => (match kitB m n with | some k => P (.bl k) O1 | none => False)
  | _ => False) E
variable {X : Cx} {W : WX} {pos pos' p apos : Pos} {a b c o : Expr} {es : List Expr} {Ta Tb : DE} {R : DA} {k j : Nat} {f : Addr} {S : DSp}
theorem q_isB {n : String} {x : Str} {q : Pos} (hm : X.mg "isinstance" = none) (hm' : X.mg x = none) (ha : PE X a (le g W Ta)) (hv : bootBuiltins x = some (.type n) := by decide +kernel) (hg : Gl X "isinstance" := by rfl) (hg' : Gl X x := by rfl)
    (hn : x ≠ "__name__" := by decide) (hd : (x == ("__debug__" : Str)) = false := by decide) (hK : X.K = g.K := by rfl)
    (hs : starEach (a :: [.Name x q]) X.env = (false, eval a X.env) :: starEach [.Name x q] X.env := by rfl) (hs' : starEach [.Name x q] X.env = (false, eval (.Name x q) X.env) :: starEach [] X.env := by rfl) (hpl : (backTo pos (starEach [.Name x q] X.env)).any (·.1) = false := by rfl) :
    PE X (.Call (.Name "isinstance" p) [a, .Name x q] [] pos) (le g W (dIsB n Ta)) := by
  have hb : PE X (.Name x q) (tC (.ty n)) := pe_bltn hg' hm' hv rfl hn hd
  refine pe_imp (pe_callB call_isi hg hm (by decide +kernel) (pa_cons ha (pa_cons hb pa_nil hs') hs) (by decide) (by decide) hs hpl) fun σ H Q h => ?_
  obtain ⟨Δ, O, P, E, F, hT, sr, w, hv, hx⟩ := h
  refine le_bind hT sr w hx fun d O1 v F1 H1 hT1 s1 sr1 w1 rx hx1 => ?_
  split at hT1
  · rename_i m e
    split at hT1
    · rename_i k ek
      refine ⟨v, .ty n, .type m, .type n, k, rfl, .ty n, by rw [hK]; exact tg_of e rx w1 (fun c ec => by cases ec), kit_ty ek, (hv.mono s1).now hT1 w1 rbl⟩
    · exact hT1.elim
  · exact hT1.elim
theorem e_isB {n : String} {Δ : Sl} {O : Sto} {P : KD} {E : KX} : dIsB n Ta Δ O P E = Ta Δ O (fun d O1 => match tgD O1 d with
  | some (.b m) => (match kitB m n with | some k => P (.bl k) O1 | none => False)
  | _ => False) E := propext Iff.rfl
end
end G

set_option Elab.async false
set_option linter.all false
set_option maxRecDepth 100000
set_option maxHeartbeats 4000000
namespace G
open PySem L2
/-! ## signs between sets of levels -/
/-! ### difference -/
/-! ### moves -/
end G

set_option Elab.async false
set_option linter.all false
set_option maxRecDepth 100000
set_option maxHeartbeats 4000000
namespace G
open PySem L2
/-! ## several except clauses, each with the same name -/
abbrev HTs := List (Value × (Addr → Value → Option Addr → TS))
def offE (i : Nat) (D : Ends) : Ends := ⟨fun σ' H' => D.nx (σ'.set i none) H', D.rt, fun σ' H' => D.bk (σ'.set i none) H', fun σ' H' => D.ct (σ'.set i none) H'⟩
def wNm (K : PySem.W.Frag) (Wo : WX) (i : Nat) (D : Ends) : HTs → WX
  | [] => Wo
  | p :: r => fun cl d σ H => ∃ q, PySem.W.exmOne K cl p.1 = some q ∧ (q = true → ∀ b, H b = none → p.2 b cl d (offE i D) (σ.set i (some (.ref b))) H) ∧ (q = false → wNm K Wo i D r cl d σ H)
inductive HdN (X : Cx) (n : Str) : List ExceptHandler → HTs → Prop
  | nil : HdN X n [] []
  | cons {y : Str} {v : Value} {tz : Addr → Value → Option Addr → TS} {t0 : Stmt} {su : List Stmt} {p1 p2 : Pos} {hl : List ExceptHandler} {l : HTs} (nm : Names X y v)
      (hu : ∀ (b : Addr) (ob : Obj) (cl : Value) (d : Option Addr) (ps : List (Addr × Obj)), Zc cl d ob → (∃ vs, ob.data = .fields vs) → PSs (X.suite b ((b, ob) :: ps)) (t0 :: su) (tz b cl d)) (r : HdN X n hl l) :
      HdN X n (.ExceptHandler (some (.Name y p1)) (some n) (t0 :: su) p2 :: hl) ((v, tz) :: l)
section
variable {X : Cx} {n : Str} {i : Nat} {body : List Stmt} {h0 : ExceptHandler} {hl : List ExceptHandler} {l : HTs} {pos : Pos} {tb : WX → TS} {Wo : WX}
end
/-- the clauses, over plain data -/
abbrev HDs := List ((Ec → Option Bool) × DH)
def xcM (i : Nat) (D : DEnds) : HDs → Exn → Sl → Sto → Prop
  | [] => D.xc
  | p :: r => fun x Δ1 O1 => match p.1 x.c with
    | some true => ∀ a d, freshC O1 a → p.2 a x.c d { nx := fun Δ' O' => D.nx (Δ'.set i none) O', rt := D.rt, bk := fun Δ' O' => D.bk (Δ'.set i none) O', ct := fun Δ' O' => D.ct (Δ'.set i none) O' } (Δ1.set i (some (.xcp a d x.fs x.ds))) O1
    | some false => xcM i D r x Δ1 O1
    | none => False
def dTryM (i : Nat) (Tb : DS) (hs : HDs) : DS := fun D Δ O => Tb { D with xc := xcM i D hs } Δ O
section
variable {g : Gm} {X : Cx} {W : WX} {pos pos' p : Pos} {n : Str} {i : Nat} {body : List Stmt}
inductive QHs (g : Gm) (X : Cx) (n : Str) : List ExceptHandler → HDs → List Value → Prop
  | nil : QHs g X n [] [] []
  | cons {y : Str} {v : Value} {cat : Ec → Option Bool} {Th : DH} {t0 : Stmt} {su : List Stmt} {p1 p2 : Pos} {hl : List ExceptHandler} {l : HDs} {vs : List Value} (nm : Names X y v) (ct : Cat g X.K v cat)
      (hu : ∀ (a : Addr) (oe : Obj) (ec : Ec) (d : Option Addr) (pn : List (Addr × Obj)), Zc (.ref (g.ea ec)) d oe → (∃ vs, oe.data = .fields vs) → PSs (X.suite a ((a, oe) :: pn)) (t0 :: su) (ls g W0 (Th a ec d))) (r : QHs g X n hl l vs) :
      QHs g X n (.ExceptHandler (some (.Name y p1)) (some n) (t0 :: su) p2 :: hl) ((cat, Th) :: l) (v :: vs)
def toHTs (g : Gm) : HDs → List Value → HTs
  | p :: r, v :: vs => (v, fun a cls d E σ H => ∃ ec, cls = .ref (g.ea ec) ∧ ls g W0 (p.2 a ec d) E σ H) :: toHTs g r vs
  | _, _ => []
theorem QHs.hd {hl : List ExceptHandler} {l : HDs} {vs : List Value} (h : QHs g X n hl l vs) : HdN X n hl (toHTs g l vs) := by
  induction h with
  | nil => exact .nil
  | cons nm ct hu r ih =>
    refine .cons nm (fun b ob cl d ps hz hv => ⟨fun pins s σ H E I ⟨ec, e, h⟩ => ?_⟩) ih
    subst e
    exact (hu b ob ec d ps hz hv).run pins s σ H E I h
theorem QHs.wish {hl : List ExceptHandler} {l : HDs} {vs : List Value} {F F1 : Hp} {D : DEnds} {En : Ends} {y : Exn} {Δ1 : Sl} {O1 : Sto} {cls : Value} {dd : Option Addr} {σ1 : St} {H1 : Hp} (h : QHs g X n hl l vs) (ho : EOk g F W D En) (s1 : Same F F1) (sr1 : SRel g F1 σ1 Δ1) (w1 : Wd g F1 O1 H1) (rx : RelX g F1 cls dd y)
    (hq : xcM i D l y Δ1 O1) : wNm X.K W i En (toHTs g l vs) cls dd σ1 H1 := by
  induction h with
  | nil => exact ho.xc _ _ _ _ _ _ _ _ hq s1 sr1 w1 rx
  | @cons _ v cat Th _ _ _ _ _ _ _ nm ct hu r ih =>
    have hq : (match cat y.c with
      | some true => ∀ a d, freshC O1 a → Th a y.c d { nx := fun Δ' O' => D.nx (Δ'.set i none) O', rt := D.rt, bk := fun Δ' O' => D.bk (Δ'.set i none) O', ct := fun Δ' O' => D.ct (Δ'.set i none) O' } (Δ1.set i (some (.xcp a d y.fs y.ds))) O1
      | some false => xcM i D _ y Δ1 O1
      | none => False) := hq
    split at hq
    · rename_i e
      have em := ct _ _ e
      rw [← rx.1] at em
      exact ⟨true, em, fun _ a ha => ⟨y.c, rx.1, _, _, _, F1, hq a dd (w1.fresh ha), sr1.set (Rep.xcp_iff.mpr ⟨rfl, rx.2⟩) i, w1, eok_out (ho.mono s1)⟩, fun z => by cases z⟩
    · rename_i e
      have em := ct _ _ e
      rw [← rx.1] at em
      exact ⟨false, em, fun z => (by cases z), fun _ => ih hq⟩
    · exact hq.elim
theorem e_tryM {T : DS} {hs : HDs} {En : DEnds} {Δ : Sl} {O : Sto} : dTryM i T hs En Δ O = T { En with xc := xcM i En hs } Δ O := propext Iff.rfl
theorem e_xcM0 {En : DEnds} {x : Exn} {Δ : Sl} {O : Sto} : xcM i En [] x Δ O = En.xc x Δ O := propext Iff.rfl
theorem e_xcM1 {En : DEnds} {cat : Ec → Option Bool} {Th : DH} {r : HDs} {x : Exn} {Δ : Sl} {O : Sto} : xcM i En ((cat, Th) :: r) x Δ O = (match cat x.c with
    | some true => ∀ a d, freshC O a → Th a x.c d { nx := fun Δ' O' => En.nx (Δ'.set i none) O', rt := En.rt, bk := fun Δ' O' => En.bk (Δ'.set i none) O', ct := fun Δ' O' => En.ct (Δ'.set i none) O' } (Δ.set i (some (.xcp a d x.fs x.ds))) O
    | some false => xcM i En r x Δ O
    | none => False) := propext Iff.rfl
end
end G

set_option Elab.async false
set_option linter.all false
set_option maxRecDepth 100000
set_option maxHeartbeats 4000000
namespace G
open PySem L2
/-! ## a property that may raise -/
def dPropX (ok : Ec → Bool) (tab : List (Cl × DSp)) (Ta : DE) : DE := fun Δ O P E => Ta Δ O (fun x O1 => match clsOf O1 x with
  | some c => (match tabAt tab c with | some S => S [x] O1 P (fun y O2 => ok y.c = true ∧ E y O2) | none => False)
  | none => False) E
section
variable {g : Gm} {X : Cx} {W : WX} {pos pos' p apos : Pos} {a b c o : Expr} {es : List Expr} {Ta Tb : DE} {R : DA} {k j : Nat} {f : Addr} {S : DSp} {x m : Str} {tab : List (Cl × DSp)} {ok : Ec → Bool}
theorem e_propX {Δ : Sl} {O : Sto} {P : KD} {E : KX} : dPropX ok tab Ta Δ O P E = Ta Δ O (fun x O1 => match clsOf O1 x with
  | some c => (match tabAt tab c with | some S => S [x] O1 P (fun y O2 => ok y.c = true ∧ E y O2) | none => False)
  | none => False) E := propext Iff.rfl
/-! ## tuples of whole numbers, in order -/
def fLtT : B2 := fun x y O P => match x, y with
  | .tup xs, .tup ys => (match intsOf xs, intsOf ys with | some ns, some ms => P (.bl (HT.lexLt ns ms)) O | _, _ => False)
  | _, _ => False
theorem f_ltT {O : Sto} {P : KD} {a b c d : Int} : fLtT (.tup [.int a, .int b]) (.tup [.int c, .int d]) O P = P (.bl (HT.lexLt [a, b] [c, d])) O := propext Iff.rfl
end
end G

set_option Elab.async false
set_option linter.all false
set_option maxRecDepth 100000
set_option maxHeartbeats 4000000
namespace G
open PySem L2
/-! ## a sum of lists that is owned -/
def fAddO : B2 := fun x y O P => match lstOf O x, lstOf O y with
  | some l, some m => l.length + m.length ≤ sizeLine ∧ ∀ p, freshC O p → P (.ptr p) ((p, .lst (l ++ m)) :: O)
  | _, _ => False
/-! ## a, b = .. -/
def dAsgG (Gd : DG) (Ta : DE) : DS := fun D Δ O => Ta Δ O (fun d O1 => Gd d Δ fun Δ' => D.nx Δ' O1) (fun x O1 => D.xc x Δ O1)
section
variable {g : Gm} {X : Cx} {W : WX} {pos pos' p apos : Pos} {a b c o tg : Expr} {es : List Expr} {Ta Tb : DE} {R : DA} {k j : Nat} {f : Addr} {S : DSp} {x m : Str} {tab : List (Cl × DSp)}
theorem f_addO {O : Sto} {P : KD} {l m : List D} : fAddO (.lst l) (.lst m) O P = (l.length + m.length ≤ sizeLine ∧ ∀ p, freshC O p → P (.ptr p) ((p, .lst (l ++ m)) :: O)) := propext Iff.rfl
theorem e_asgG {Gd : DG} {En : DEnds} {Δ : Sl} {O : Sto} : dAsgG Gd Ta En Δ O = Ta Δ O (fun d O1 => Gd d Δ fun Δ' => En.nx Δ' O1) (fun x O1 => En.xc x Δ O1) := propext Iff.rfl
end
end G

set_option Elab.async false
set_option linter.all false
set_option maxRecDepth 100000
set_option maxHeartbeats 4000000
namespace G
open PySem L2
/-! ## own classes: super().m(..) -/
/-- an expression of a def's own body -/
structure PEA (X : Cx) (e : Expr) (t : TE) : Prop where
  run : ∀ (body : List Stmt) (pins : List (Addr × Obj)) (s : Shared) (σ : St) (H : Hp) (Q : VK), Inv X pins σ H s → t σ H Q → _root_.PySem.wpAt (model X.prog X.w) X.A (.func body X.env) (eval e X.env) (EP X pins σ Q) X.xe s
section
variable {g : Gm} {X : Cx} {W : WX} {pos pos' : Pos} {a b e : Expr} {st : Stmt} {sts : List Stmt} {t u : TE} {Ta Tb : DE} {T U : DS}
theorem pf_imp {ts ts' : TS} (h : PF X sts ts) (k : ∀ D σ H, ts' D σ H → ts D σ H) : PF X sts ts' := ⟨fun body pins s σ H D I q => h.run body pins s σ H D I (k _ _ _ q)⟩
theorem qf_of (h : PSs X sts (ls g W T)) : PF X sts (ls g W T) := pf_of h
theorem qf_cons (h1 : PS X st (ls g W T)) (h2 : PF X sts (ls g W U)) : PF X (st :: sts) (ls g W (dSeq T U)) := by
  refine pf_imp (pf_cons h1 h2) fun E σ H ⟨D, Δ, O, F, hT, sr, w, he⟩ => ?_
  refine ⟨{ D with nx := U D }, Δ, O, F, hT, sr, w, ⟨fun Δ' O' F' σ' H' q s sr' w' => ?_, he.rt, he.bk, he.ct, he.xc⟩⟩
  exact ⟨D, Δ', O', F', q, sr', w', he.mono s⟩
theorem pf_exp {ts : TS} (h : PEA X e t) (k : PF X sts ts) (hs : swapsWith e none pos.line X.env = pure false := by rfl) : PF X (.Expr e pos :: sts) (fun D σ H => t σ H fun _ H1 => ts D σ H1) := by
  refine ⟨fun body pins s σ H D I q => PySem.ks_wpAt_execs_cons (PySem.ks_wpAt_Expr_any (_root_.PySem.wpAt_mono (h.run body pins s σ H _ I q) (fun v s1 ⟨x, H1, I1, r1, q1⟩ => ?_) fun _ _ z => z) I.quiet hs)⟩
  exact k.run body pins s1 σ H1 D I1 q1
theorem qf_exp (h : PEA X e (le g W Ta)) (k : PF X sts (ls g W U)) (hs : swapsWith e none pos.line X.env = pure false := by rfl) : PF X (.Expr e pos :: sts) (ls g W (dSeq (dExp Ta) U)) := by
  refine pf_imp (pf_exp h k hs) fun E σ H ⟨D, Δ, O, F, hT, sr, w, ho⟩ => ?_
  refine le_bind hT sr w (ho.toX sr) fun d O1 v F1 H1 hT1 s1 sr1 w1 rx hx1 => ?_
  exact ⟨D, Δ, O1, F1, hT1, sr1, w1, ho.mono s1⟩
end
/-- the def that super().m of the class D finds for an object of the class c -/
structure SupAt (K : PySem.W.Frag) (C D : Addr) (m : Str) (f : Addr) : Prop where
  fnd : PySem.W.ks_superIn K C D m = some (some (.ref f))
  ty : PySem.W.typeIn K (.ref f) = some (.type "function")
  fn : PySem.W.fnIn K f = true
  mr : PySem.W.mroIn K C (.ref D) = some true
  th : PySem.W.nsIn K cStatics "thirdparty.any" = some none
def STab (g : Gm) (P : Program) (w : World) (K : PySem.W.Frag) (mg : Str → Option Value) (base : Heap) (k : Nat) (D : Addr) (m : Str) (tab : List (Cl × DSp)) : Prop := ∀ c S, tabAt tab c = some S → ∃ f, SupAt K (g.ca c) D m f ∧ FN g P w K mg base k f S
theorem st_nil {g : Gm} {P : Program} {w : World} {K : PySem.W.Frag} {mg : Str → Option Value} {base : Heap} {k : Nat} {D : Addr} {m : Str} : STab g P w K mg base k D m [] := fun c S h => by simp [tabAt] at h
theorem st_cons {g : Gm} {P : Program} {w : World} {K : PySem.W.Frag} {mg : Str → Option Value} {base : Heap} {k : Nat} {D : Addr} {m : Str} {cl : Cl} {f : Addr} {S : DSp} {r : List (Cl × DSp)} (h1 : SupAt K (g.ca cl) D m f) (h2 : FN g P w K mg base k f S) (t : STab g P w K mg base k D m r) : STab g P w K mg base k D m ((cl, S) :: r) := fun c S' e => by
  simp only [tabAt] at e
  by_cases q : c = cl
  · rw [if_pos q] at e
    cases e
    rw [q]
    exact ⟨f, h1, h2⟩
  · rw [if_neg q] at e
    exact t c S' e
section
variable {g : Gm} {P : Program} {w : World} {K : PySem.W.Frag} {mg : Str → Option Value} {base : Heap} {N ps : List Str} {x qual : Str} {st : Stmt} {f cc cda D : Addr} {fd : FuncData} {file : Str} {k : Nat} {A : Around} {outer : List Env} {s0 : Shared} {H0 : Hp} {E0 : XK}
theorem getsup {so a C f2 : Addr} {m : Str} {pl : Sem Bool} {X : Cx} {pins : List (Addr × Obj)} {σ : St} {H : Hp} {s : Shared} {ox : Obj} {od : Option Obj} {Q : Value × List Value → Shared → Prop} {E : Value → Shared → Prop}
    (S : SupAt X.K C D m f2) (I : Inv X pins σ H s) (hso : s.heap.get? so = some (PySem.W.ks_superObj D a C)) (J : PySem.W.InstAt s.heap a ox C od) (hat : (m == ("__class__" : Str)) = false)
    (h : ∀ q s', H q = none → Inv X pins σ (upd H q (.met f2 a)) s' → Q (.ref q, []) s') : wpAny (model X.prog X.w) X.A (getMethod (.ref so) m pl) Q E s := by
  have KI : X.K.In s.heap := I.kIn
  obtain ⟨hh, gs, d, t, os⟩ := s
  have hm := S.fnd
  cases hc : PySem.W.clsIn X.K C with
  | none => unfold PySem.W.ks_superIn at hm; rw [hc] at hm; cases hm
  | some cd =>
    unfold PySem.W.ks_superIn at hm
    rw [hc] at hm
    obtain ⟨of, hof, hofc⟩ : ∃ of, hh.get? f2 = some of ∧ of.cls = .type "function" := by
      have ht' : (X.K.lookup f2).map (·.cls) = some (.type "function") := S.ty
      cases z : X.K.lookup f2 with
      | none => rw [z] at ht'; cases ht'
      | some of => rw [z] at ht'; exact ⟨of, KI _ _ z, Option.some.inj ht'⟩
    refine PySem.ks_wpAny_getMethod_super hso (PySem.W.looks_opaque KI S.th) (l₀ := cd.mro) ?_ rfl KI hm hof hofc (PySem.W.ks_ne KI J hc) hat ?_
    · exact fun A Q E s k q => wpAny_bind ((PySem.W.looks_clsIn KI hc) A _ E s k (wpAny_pure q))
    · refine h _ _ (I.hok.fresh (Nat.le_refl _)) ?_
      exact I.laid (t' := t + 1) (a := hh.objs.size) (o := .met f2 a) (fun b u z => Heap.get?_push_of_some _ z) (Nat.le_refl _)
        (show (hh.push (PySem.W.methodObj (.ref f2) (.ref a))).get? hh.objs.size = some (PySem.W.methodObj (.ref f2) (.ref a)) from Heap.get?_push_size hh rfl)
theorem supcall {ar m : Str} {es : List Expr} {R : DA} {p0 p1 p2 p3 : Pos} {pl : Sem Bool} {tab : List (Cl × DSp)} {W : WX} {body : List Stmt} {pins : List (Addr × Obj)} {s : Shared} {σ : St} {H : Hp} {Q : VK} (F : FunS K x qual st f fd cc cda D file) (PG : Pg P file) (T : SupTx N st ar) (hm : mg "super" = none) (M : STab g P w g.K mg base k D m tab)
    (hK : K = g.K) (hr : Room k (scx P w K mg base N x qual st f cc cda A outer s0 H0 E0).A) (tk : Takes (scx P w K mg base N x qual st f cc cda A outer s0 H0 E0) W) (hmf : Fd.of m = none) (hat : (m == ("__class__" : Str)) = false)
    (hargs : ∀ (q : Addr) (pins : List (Addr × Obj)) (s1 : Shared) (σ : St) (H1 : Hp) (Qa : List V → Hp → Prop), Inv (scx P w K mg base N x qual st f cc cda A outer s0 H0 E0) pins σ H1 s1 → la g W R σ H1 Qa →
      wpAny (model P w) (scx P w K mg base N x qual st f cc cda A outer s0 H0 E0).A (evalArgs (.ref q) true (backTo p3 (starEach es (scx P w K mg base N x qual st f cc cda A outer s0 H0 E0).env)) []) (fun z s' => z.kw = [] ∧ AP (scx P w K mg base N x qual st f cc cda A outer s0 H0 E0) pins σ Qa z.pos s') (scx P w K mg base N x qual st f cc cda A outer s0 H0 E0).xe s1)
    (hpl : (backTo p3 (starEach es (scx P w K mg base N x qual st f cc cda A outer s0 H0 E0).env)).any (·.1) = false)
    (ht : eval (.Call (.Attribute (.Call (.Name "super" p0) [] [] p1) m p2) es [] p3) (scx P w K mg base N x qual st f cc cda A outer s0 H0 E0).env = (do
      let ov ← attributeBase (.Call (.Name "super" p0) [] [] p1) m (scx P w K mg base N x qual st f cc cda A outer s0 H0 E0).env (eval (.Call (.Name "super" p0) [] [] p1) (scx P w K mg base N x qual st f cc cda A outer s0 H0 E0).env)
      standAt p2.atName
      let (ff, first) ← holding [ov] (getMethod ov m pl)
      callWith p3 ff first (backTo p3 (starEach es (scx P w K mg base N x qual st f cc cda A outer s0 H0 E0).env)) []))
    (I : Inv (scx P w K mg base N x qual st f cc cda A outer s0 H0 E0) pins σ H s) (h : le g W (dMeth tab (dVar 0) R) σ H Q) :
    _root_.PySem.wpAt (model P w) (scx P w K mg base N x qual st f cc cda A outer s0 H0 E0).A (.func body (scx P w K mg base N x qual st f cc cda A outer s0 H0 E0).env) (eval (.Call (.Attribute (.Call (.Name "super" p0) [] [] p1) m p2) es [] p3) (scx P w K mg base N x qual st f cc cda A outer s0 H0 E0).env)
      (EP (scx P w K mg base N x qual st f cc cda A outer s0 H0 E0) pins σ Q) (scx P w K mg base N x qual st f cc cda A outer s0 H0 E0).xe s := by
  subst hK
  obtain ⟨Δ, O, PP, EE, Fr, hT, sr, wd, hv, hx⟩ := h
  unfold dMeth dVar at hT
  split at hT
  · rename_i d e
    obtain ⟨v, e1, rv⟩ := sr.2 0 d e
    split at hT
    · rename_i c ec
      obtain ⟨a, dx, fs, rfl, ea, l⟩ := obj_look ec rv wd hmf
      split at hT
      · rename_i S eS
        obtain ⟨f2, SA, Fn⟩ := M c S eS
        obtain ⟨mA, OA, _, _, _, _⟩ := ins_get I.hok ea
        obtain ⟨od, J, _⟩ := OA.look
        refine PySem.ks_wpAt_MethodCall (pl := pl) (super_node F PG T hm hat I e1 J SA.mr fun so s1 I1 hso k1 => ?_) ht
        obtain ⟨mA1, OA1, _, _, _, _⟩ := ins_get I1.hok ea
        obtain ⟨od1, J1, _⟩ := OA1.look
        refine getsup SA I1 hso J1 hat fun q s2 hq I2 => ?_
        refine callwith_met (X := scx P w g.K mg base N x qual st f cc cda A outer s0 H0 E0) (g := f2) (a := a) (by rw [hpl]; rfl) SA.fn ?_
        have z := hargs q pins s2 σ (upd H q (.met f2 a)) (fun vs H2 => H2 q = some (.met f2 a) ∧ toSp g S (.ref a :: vs) H2 Q fun cls dd H' => W cls dd σ H') I2
          (la_bind (F := upd Fr q (.met f2 a)) hT (sr.mono (wd.fsame hq)) (wd.frozen hq) (hx.mono (wd.fsame hq)) fun ds O2 vs F2 H2 hT2 s2 sr2 w2 rs hx2 =>
            ⟨w2.same _ _ (s2 _ _ upd_same), sp_of hT2 (Reps.cons (rv.mono ((wd.fsame hq).trans s2)) rs) w2 hv ((wd.fsame hq).trans s2) hx2⟩)
        refine thn z fun zz s3 hz => ?_
        obtain ⟨hkw, vs, H2, I3, r, hq2, q2⟩ := hz
        refine ⟨met_P I3 hq2, ?_⟩
        rw [hkw]
        exact wpAny_call (call_met I3 hq2 (run_FN (us := .ref a :: zz.pos) (vs := .ref a :: vs) Fn hr tk I3 (.cons rfl r) q2))
      · exact hT.elim
    · exact hT.elim
  · exact hT.elim
theorem q_sup {ar m : Str} {e : Expr} {es : List Expr} {R : DA} {p0 p1 p2 p3 : Pos} {pl : Sem Bool} {tab : List (Cl × DSp)} {W : WX} (F : FunS K x qual st f fd cc cda D file) (PG : Pg P file) (T : SupTx N st ar) (hm : mg "super" = none) (M : STab g P w g.K mg base k D m tab)
    (hr : Room k (scx P w K mg base N x qual st f cc cda A outer s0 H0 E0).A) (tk : Takes (scx P w K mg base N x qual st f cc cda A outer s0 H0 E0) W) (ha : PA (scx P w K mg base N x qual st f cc cda A outer s0 H0 E0) (e :: es) (la g W R)) (hK : K = g.K := by rfl) (hmf : Fd.of m = none := by decide +kernel) (hat : (m == ("__class__" : Str)) = false := by decide)
    (he : starEach (e :: es) (scx P w K mg base N x qual st f cc cda A outer s0 H0 E0).env = (false, eval e (scx P w K mg base N x qual st f cc cda A outer s0 H0 E0).env) :: starEach es (scx P w K mg base N x qual st f cc cda A outer s0 H0 E0).env := by rfl)
    (hpl : (backTo p3 (starEach es (scx P w K mg base N x qual st f cc cda A outer s0 H0 E0).env)).any (·.1) = false := by rfl)
    (ht : eval (.Call (.Attribute (.Call (.Name "super" p0) [] [] p1) m p2) (e :: es) [] p3) (scx P w K mg base N x qual st f cc cda A outer s0 H0 E0).env = (do
      let ov ← attributeBase (.Call (.Name "super" p0) [] [] p1) m (scx P w K mg base N x qual st f cc cda A outer s0 H0 E0).env (eval (.Call (.Name "super" p0) [] [] p1) (scx P w K mg base N x qual st f cc cda A outer s0 H0 E0).env)
      standAt p2.atName
      let (ff, first) ← holding [ov] (getMethod ov m pl)
      callWith p3 ff first (backTo p3 (starEach (e :: es) (scx P w K mg base N x qual st f cc cda A outer s0 H0 E0).env)) []) := by rfl) :
    PEA (scx P w K mg base N x qual st f cc cda A outer s0 H0 E0) (.Call (.Attribute (.Call (.Name "super" p0) [] [] p1) m p2) (e :: es) [] p3) (le g W (dMeth tab (dVar 0) R)) :=
  ⟨fun body pins s σ H Q I h => supcall (P := P) (w := w) F PG T hm M hK hr tk hmf hat (fun q pins s1 σ H1 Qa I1 hq => by
    have z := ha.run p3 pins s1 σ H1 _ I1 hq
    rw [he] at z ⊢
    exact PySem.Calls.evalArgs_plain (thn z fun us s' hz => ⟨rfl, hz⟩)) (by rw [he]; show (false || (backTo p3 (starEach es _)).any (·.1)) = false; rw [hpl]; rfl) ht I h⟩
end
/-- the body of a def that says super() -/
def BodyOkS (g : Gm) (P : Program) (w : World) (K : PySem.W.Frag) (mg : Str → Option Value) (base : Heap) (k : Nat) (N : List Str) (x qual : Str) (st : Stmt) (f cc cda : Addr) (T : DS) : Prop :=
  ∀ (A : Around) (outer : List Env) (s : Shared) (H : Hp) (E : XK), Room k (A.deeper (NdefX.envF (sNF x qual st cc cda) f s.heap.objs.size)) →
      PF (scx P w K mg base N x qual st f cc cda A outer s H E) (defBody st) (ls g (wE E) T)
theorem srel_startF {g : Gm} {F : Hp} {N : List Str} {ds : List D} {vs : List V} (h : Reps g F ds vs) (hN : ds.length + 1 ≤ N.length) : SRel g F (NdefX.startF N vs [none]) (startD N ds) := by
  have e : NdefX.startF N vs [none] = L2.start N vs := by
    have hl := h.length
    unfold NdefX.startF L2.start
    have : N.length - vs.length = (N.length - vs.length - [none (α := V)].length) + 1 := by simp only [List.length_singleton]; omega
    rw [this, List.replicate_succ]
    simp
  rw [e]
  exact srel_start h
section
variable {g : Gm} {P : Program} {w : World} {K : PySem.W.Frag} {mg : Str → Option Value} {base : Heap} {N ps : List Str} {x qual : Str} {st : Stmt} {f cc cda D : Addr} {fd : FuncData} {file : Str} {k : Nat} {S : DSp} {T : DS}
theorem pureS {vs : List V} {H : Hp} {Q : VK} {E : XK} {n : Nat} (pure : Pure N n S T) (hN : n + 1 ≤ N.length) (h : toSp g S vs H Q E) : ls g (wE E) T { nx := fun _ H' => Q .non H', rt := Q } (NdefX.startF N vs [none]) H := by
  obtain ⟨F, O, ds, P', EX, h1, h2, h3, h4, h5⟩ := h
  obtain ⟨hl, hp⟩ := pure ds O P' EX h3
  obtain ⟨O', w', hT⟩ := hp g F H h2
  refine ⟨endsD P' EX, startD N ds, O', F, hT, srel_startF h1 (by omega), w', ⟨fun Δ O1 F1 σ H1 ⟨O2, wk, q⟩ s1 sr1 w1 => ?_, fun d O1 v F1 H1 ⟨O2, wk, q⟩ s1 w1 r1 => ?_, fun _ _ _ _ _ q => q.elim, fun _ _ _ _ _ q => q.elim, fun y Δ O1 cls dd F1 σ H1 ⟨O2, wk, q⟩ s1 sr1 w1 r1 => ?_⟩⟩
  · exact h4 _ _ _ _ _ q s1 (wk _ _ _ w1) (Rep.non_iff.mpr rfl)
  · exact h4 _ _ _ _ _ q s1 (wk _ _ _ w1) r1
  · exact h5 _ _ _ _ _ _ q s1 (wk _ _ _ w1) r1
theorem fn_okS (F : FunS K x qual st f fd cc cda D file) (Sc : NdefX.NScope N ps ["__class__"] (defScope st)) (body : BodyOkS g P w K mg base k N x qual st f cc cda T) (pure : Pure N ps.length S T) (hN : ps.length + 1 ≤ N.length) : FnOk P w K mg base (L2.CX P w) (k + 1) f fd ps (toSp g S) :=
  fn_super F Sc (fun vs H Q E h => by
    obtain ⟨F, O, ds, P', EX, h1, h2, h3, _⟩ := h
    rw [← h1.length]
    exact (pure _ _ _ _ h3).1) fun A outer s H vs Q E hr h => ⟨_, body A outer s H E hr, pureS pure hN h⟩
end
end G

set_option Elab.async false
set_option linter.all false
set_option maxRecDepth 100000
set_option maxHeartbeats 4000000
namespace G
open PySem L2
/-! ## text[::-1] -/
section
open PySem.Spec PyProof.Rows
def revT (z : Str) : Str := ⟨z.cps.toList.reverse.toArray⟩
def tRevS (te : TE) : TE := fun σ H Q => te σ H fun x H1 => ∃ z, x = .str z ∧ z.length ≤ sizeLine ∧ Q (.str (revT z)) H1
theorem revS_ix (z : Str) : (⟨((Builtin.Str.strSliceIndices none none (-1) z.length).filterMap (z.cps[·]?)).toArray⟩ : Str) = revT z := by
  unfold Builtin.Str.strSliceIndices revT
  show (⟨((sliceRange ((z.cps.size : Int) - 1) (-1) (-1)).filterMap (z.cps[·]?)).toArray⟩ : Str) = _
  rw [PySem.W.krv_sliceRange, PySem.W.krv_range, List.filterMap_reverse, PySem.W.krv_all]
theorem pe_revS {X : Cx} {e : Expr} {te : TE} {k : Nat} {p1 p2 p3 pos : Pos} (he : PE X e te) : PE X (.Subscript e (.Slice none none (some (.UnaryOp .USub (.Constant (.int 1) k p1) p2)) p3) pos) (tRevS te) := by
  refine ⟨fun pins s σ H Q I h => ?_⟩
  refine Subscript_ (thn (he.run pins s σ H _ I h) fun v s1 ⟨x, H1, I1, r1, q1⟩ => ?_)
  obtain ⟨z, ex, hz, q⟩ := q1
  subst ex
  obtain ⟨t, rfl⟩ := r1
  have hst : PO X (some (.UnaryOp .USub (.Constant (.int 1) k p1) p2)) (tPart (tUn (rU fun i => .int (-i)) (tC (.int 1)))) := po_some (pe_un un_neg pe_int)
  refine wpAny_Slice (thn (po_none.run pins s1 σ H1 (fun o H2 => o = none ∧ H2 = H1) I1 ⟨rfl, rfl⟩) fun vl s2 ⟨l, H2, I2, pl, el, e2⟩ => ?_)
  subst el e2
  refine thn (po_none.run pins s2 σ H2 (fun o H3 => o = none ∧ H3 = H2) I2 ⟨rfl, rfl⟩) fun vu s3 ⟨u, H3, I3, pu, eu, e3⟩ => ?_
  subst eu e3
  refine thn (hst.run pins s3 σ H3 (fun o H4 => o = some (-1) ∧ H4 = H3) I3 ⟨1, rfl, -1, rfl, rfl, rfl⟩) fun vs s4 ⟨o, H4, I4, ps, eo, e4⟩ => ?_
  subst eo e4
  obtain ⟨l, rfl, el⟩ := IsPart.raw pl
  obtain ⟨u, rfl, eu⟩ := IsPart.raw pu
  obtain ⟨st, rfl, es⟩ := IsPart.raw ps
  have I5 : Inv X pins σ H4 { s4 with heap := s4.heap.push { cls := .type "slice", data := .fields #[partValue l, partValue u, partValue st] } } := I4.kept (t' := s4.toks) fun b ob q => Heap.get?_push_of_some _ q
  refine tail_any (ops := [.ref s4.heap.objs.size, .str z t]) (typeIs_str _ _ _) (F.slot_str_getitem.lookup) ?_ (by with_unfolding_all rfl)
  have e0 : (st.map (·.1)).getD 1 = -1 := by rw [es]; rfl
  refine wpAny_getItem_str_slice (l := l) (u := u) (st := st) ⟨_, Heap.get?_push_size _ rfl, rfl, rfl⟩ (by rw [e0]; rfl) ?_
  unfold sliceMade
  have ep : slicePicked z l u st = Builtin.Str.strSliceIndices none none (-1) z.length := by unfold slicePicked; rw [e0, el, eu]
  rw [e0, ep]
  have ez := revS_ix z
  show Made.post (if ((-1 : Int) == 1 && (Builtin.Str.strSliceIndices none none (-1) z.length).length == z.length) = true then Made.val (.str z t)
    else Made.str ⟨((Builtin.Str.strSliceIndices none none (-1) z.length).filterMap (z.cps[·]?)).toArray⟩) (EP X pins σ Q) _
  rw [if_neg (by simp), ez]
  refine ⟨?_, .str _, H4, I5.tok _, ⟨_, rfl⟩, q⟩
  show (revT z).cps.size ≤ sizeLine
  unfold revT
  have hz' : z.cps.size ≤ sizeLine := hz
  simpa using hz'
end
def dRevS (T : DE) : DE := fun Δ O P E => T Δ O (fun d O1 => match d with | .str z => z.length ≤ sizeLine ∧ P (.str (revT z)) O1 | _ => False) E
section
variable {g : Gm} {X : Cx} {W : WX} {pos pos' p : Pos} {a b c : Expr} {Ta Tb : DE}
theorem q_revS {k : Nat} {p1 p2 p3 : Pos} (ha : PE X a (le g W Ta)) : PE X (.Subscript a (.Slice none none (some (.UnaryOp .USub (.Constant (.int 1) k p1) p2)) p3) pos) (le g W (dRevS Ta)) := by
  refine pe_imp (pe_revS ha) fun σ H Q ⟨Δ, O, P, E, F, hT, sr, w, hv, hx⟩ => ?_
  refine le_bind hT sr w hx fun d O1 v F1 H1 hT1 s1 sr1 w1 rx hx1 => ?_
  cases d with
  | str z => exact ⟨z, Rep.str_iff.mp rx, hT1.1, hv _ _ _ _ _ hT1.2 s1 w1 (Rep.str_iff.mpr rfl)⟩
  | _ => exact hT1.elim
end
theorem e_revS {Ta : DE} {Δ : Sl} {O : Sto} {P : KD} {E : KX} : dRevS Ta Δ O P E = Ta Δ O (fun d O1 => match d with | .str z => z.length ≤ sizeLine ∧ P (.str (revT z)) O1 | _ => False) E := propext Iff.rfl
/-! ## str(text) -/
def fStrS : BC := fun ds O P => match ds with | [.str z] => P (.str z) O | _ => False
theorem f_strS {z : Str} {O : Sto} {P : KD} : fStrS [.str z] O P = P (.str z) O := propext Iff.rfl
/-! ## two fors -/
def lc2D (Gd : DG) (Tt : DT) (R1 : DA) (Gd1 : DG) (Tt1 : DT) (Te : DE) (vs1 : List Nat) (p : Addr) (P : List D → Sto → Prop) : List D → List D → Sl → Sto → Prop
  | [], acc, _, O => P acc O
  | x :: r, acc, Δ, O => Gd x Δ fun Δ' => Tt Δ' ((p, .lst acc) :: O) (fun k O1 => if k = true
      then R1 Δ' O1 (fun ds O2 => ∃ O3, O2 = (p, .lst acc) :: O3 ∧ ds.length ≤ 1000000 ∧ acc.length ≤ 1000000 ∧ lcD Gd1 Tt1 Te p (fun acc' O4 => lc2D Gd Tt R1 Gd1 Tt1 Te vs1 p P r acc' Δ O4) ds acc (wipeD Δ' vs1) O3) (fun _ _ => False)
      else ∃ O3, O1 = (p, .lst acc) :: O3 ∧ lc2D Gd Tt R1 Gd1 Tt1 Te vs1 p P r acc Δ O3) (fun _ _ => False)
def dLc2 (R : DA) (Gd : DG) (Tt : DT) (R1 : DA) (Gd1 : DG) (Tt1 : DT) (Te : DE) (vs vs1 : List Nat) : DE := fun Δ O P E => R Δ O (fun ds O1 => ∀ p, freshC O1 p → lc2D Gd Tt R1 Gd1 Tt1 Te vs1 p (fun acc O2 => P (.lst acc) O2) ds [] (wipeD Δ vs) O1) E
section
variable {g : Gm} {X : Cx} {W : WX} {pos pos' : Pos} {a b c tg tg1 : Expr} {R R1 : DA}
theorem tlc2_of {t t1 : TG} {Gd Gd1 : DG} {js js1 vs vs1 : List Nat} {Tt Tt1 : DT} {Te : DE} (lk : LkG g t Gd js) (lk1 : LkG g t1 Gd1 js1) (hjs : ∀ j ∈ js, j ∈ vs) (hjs1 : ∀ j ∈ js1, j ∈ vs1) {PL : Addr → List D → Sto → Prop} {σ : St} {H : Hp} {Q : VK} {Δ : Sl} {O : Sto} {F : Hp} {J : It} {ds : List D}
    (hT : ∀ p, freshC O p → lc2D Gd Tt R1 Gd1 Tt1 Te vs1 p (PL p) ds [] (wipeD Δ vs) O) (sr : SRel g F σ Δ) (w : Wd g F O H) (gv : Gives g F J ds)
    (hQ : ∀ p acc O1 F1 H1, PL p acc O1 → Same F F1 → Wd g F1 ((p, .lst acc) :: O1) H1 → Q (.ref p) H1) :
    ∀ Dl, H Dl = none → ∃ W : Nat → Nat → Hp → Prop, (∃ m, W 0 m (upd H Dl (.lst []))) ∧ ∀ i m H, W i m H →
      (J.stop i H ∧ Q (.ref Dl) H) ∨ (J.go i H ∧ ∃ Nx : Hp → Prop, (∀ H', Nx H' → ∃ m', m' < m ∧ W (i + 1) m' H') ∧ ∀ x H', J.yld i H x H' → t x (L2.wipe σ vs) H' fun σ2 H2 => L2.wipe σ2 vs = L2.wipe σ vs ∧ lt g W0 Tt σ2 H2 fun b H3 =>
        if b = true then li g W0 R1 σ2 H3 fun J1 H4 => ∃ W1 : Nat → Nat → Hp → Prop, (∃ m, W1 0 m H4) ∧ ∀ j k H, W1 j k H →
          (J1.stop j H ∧ Nx H) ∨ (J1.go j H ∧ ∃ Nx1 : Hp → Prop, (∀ H', Nx1 H' → ∃ k', k' < k ∧ W1 (j + 1) k' H') ∧ ∀ x H', J1.yld j H x H' → t1 x (L2.wipe σ2 vs1) H' fun σ3 H5 => L2.wipe σ3 vs1 = L2.wipe σ2 vs1 ∧ lt g W0 Tt1 σ3 H5 fun b H6 =>
            if b = true then le g W0 Te σ3 H6 fun y H7 => ∃ acc, H7 Dl = some (.lst acc) ∧ acc.length < sizeLine ∧ Nx1 (upd H7 Dl (.lst (acc ++ [y]))) else Nx1 H6)
        else Nx H3) := by
  intro p hp
  have hT := hT p (w.fresh hp)
  refine ⟨fun i m H => m = ds.length - i ∧ i ≤ ds.length ∧ ∃ acc O1 F', Same F F' ∧ Wd g F' ((p, .lst acc) :: O1) H ∧ lc2D Gd Tt R1 Gd1 Tt1 Te vs1 p (PL p) (ds.drop i) acc (wipeD Δ vs) O1,
    ⟨ds.length, by simp, Nat.zero_le _, [], O, F, Same.refl F, w.own (c := .lst []) (o := .lst []) hp (Reps.nil (g := g) (F := F)), by simpa using hT⟩, ?_⟩
  rintro i m H2 ⟨rfl, hi, acc, O2, F2, s2, w2, hL⟩
  by_cases hlt : i < ds.length
  · obtain ⟨go, yl⟩ := gv.go i ds[i] F2 _ H2 (List.getElem?_eq_getElem hlt) s2 w2
    refine .inr ⟨go, fun H' => ∃ acc O1 F', Same F F' ∧ Wd g F' ((p, .lst acc) :: O1) H' ∧ lc2D Gd Tt R1 Gd1 Tt1 Te vs1 p (PL p) (ds.drop (i + 1)) acc (wipeD Δ vs) O1, fun H' q => ⟨ds.length - (i + 1), by omega, rfl, hlt, q⟩, fun x H' y => ?_⟩
    obtain ⟨F3, s3, w3, r3⟩ := yl x H' y
    rw [List.drop_eq_getElem_cons hlt] at hL
    refine lk ds[i] x (L2.wipe σ vs) (wipeD Δ vs) F3 _ H' _ _ hL r3 ((sr.wipe vs).mono (s2.trans s3)) w3 fun Δ' σ' hB sr' ho hl => ⟨wipe_wipe hl fun j hj => ho j fun q => hj (hjs j q), ?_⟩
    refine lt_bind hB sr' w3 xok0 fun k O4 F4 H4 hT4 s4 sr4 w4 hx4 => ?_
    cases k with
    | true =>
      rw [if_pos rfl] at hT4 ⊢
      refine ⟨Δ', O4, _, _, F4, hT4, sr4, w4, fun es O5 F5 H5 J1 hP5 s5 w5 gv1 => ?_, hx4⟩
      obtain ⟨O6, e6, hle, hla, hT6⟩ := hP5
      subst e6
      refine ⟨fun j m H => m = es.length - j ∧ j ≤ es.length ∧ ∃ acc1 O1 F', acc1.length ≤ 1000000 + j ∧ Same F5 F' ∧ Wd g F' ((p, .lst acc1) :: O1) H ∧ lcD Gd1 Tt1 Te p (fun acc' O4 => lc2D Gd Tt R1 Gd1 Tt1 Te vs1 p (PL p) (ds.drop (i + 1)) acc' (wipeD Δ vs) O4) (es.drop j) acc1 (wipeD Δ' vs1) O1,
        ⟨es.length, by simp, Nat.zero_le _, acc, O6, F5, by omega, Same.refl F5, w5, by simpa using hT6⟩, ?_⟩
      rintro j m1 H6 ⟨rfl, hj, acc1, O7, F6, ha1, s6, w6, hL1⟩
      by_cases hlt1 : j < es.length
      · obtain ⟨go1, yl1⟩ := gv1.go j es[j] F6 _ H6 (List.getElem?_eq_getElem hlt1) s6 w6
        refine .inr ⟨go1, fun H' => ∃ acc1 O1 F', acc1.length ≤ 1000000 + (j + 1) ∧ Same F5 F' ∧ Wd g F' ((p, .lst acc1) :: O1) H' ∧ lcD Gd1 Tt1 Te p (fun acc' O4 => lc2D Gd Tt R1 Gd1 Tt1 Te vs1 p (PL p) (ds.drop (i + 1)) acc' (wipeD Δ vs) O4) (es.drop (j + 1)) acc1 (wipeD Δ' vs1) O1, fun H' q => ⟨es.length - (j + 1), by omega, rfl, hlt1, q⟩, fun x1 H7 y1 => ?_⟩
        obtain ⟨F7, s7, w7, r7⟩ := yl1 x1 H7 y1
        rw [List.drop_eq_getElem_cons hlt1] at hL1
        refine lk1 es[j] x1 (L2.wipe σ' vs1) (wipeD Δ' vs1) F7 _ H7 _ _ hL1 r7 ((sr4.wipe vs1).mono (s5.trans (s6.trans s7))) w7 fun Δ8 σ8 hB8 sr8 ho8 hl8 => ⟨wipe_wipe hl8 fun j hj => ho8 j fun q => hj (hjs1 j q), ?_⟩
        refine lt_bind hB8 sr8 w7 xok0 fun k8 O8 F8 H8 hT8 s8 sr8' w8 hx8 => ?_
        cases k8 with
        | true =>
          rw [if_pos rfl] at hT8 ⊢
          refine le_bind hT8 sr8' w8 hx8 fun y O9 vy F9 H9 hT9 s9 sr9 w9 ry hx9 => ?_
          obtain ⟨O10, e10, hT10⟩ := hT9
          subst e10
          obtain ⟨_, ob, h1, h2⟩ := w9.cel (p, .lst acc1) List.mem_cons_self
          cases ob with
          | lst vs' =>
            have h2 : Reps g F9 acc1 vs' := h2
            refine ⟨vs', h1, ?_, acc1 ++ [y], O10, F9, ?_, s6.trans (s7.trans (s8.trans s9)), ?_, hT10⟩
            · rw [← h2.length, sizeLine_eq]
              omega
            · rw [List.length_append, List.length_singleton]
              omega
            · have z := w9.set (a := p) (c := .lst acc1) (c' := .lst (acc1 ++ [y])) (o := .lst (vs' ++ [vy])) (by simp [getC]) (h2.append (Reps.one ry))
              simpa [setC] using z
          | _ => exact h2.elim
        | false =>
          rw [if_neg Bool.false_ne_true] at hT8 ⊢
          obtain ⟨O10, e10, hT10⟩ := hT8
          subst e10
          exact ⟨acc1, O10, F8, by omega, s6.trans (s7.trans s8), w8, hT10⟩
      · have e : j = es.length := by omega
        subst e
        rw [List.drop_length] at hL1
        exact .inl ⟨gv1.stop _ F6 _ H6 (Nat.le_refl _) s6 w6, acc1, O7, F6, s2.trans (s3.trans (s4.trans (s5.trans s6))), w6, hL1⟩
    | false =>
      rw [if_neg Bool.false_ne_true] at hT4 ⊢
      obtain ⟨O6, e6, hT6⟩ := hT4
      subst e6
      exact ⟨acc, O6, F4, s2.trans (s3.trans s4), w4, hT6⟩
  · have e : i = ds.length := by omega
    subst e
    rw [List.drop_length] at hL
    exact .inl ⟨gv.stop _ F2 _ H2 (Nat.le_refl _) s2 w2, hQ p acc O2 F2 H2 hL s2 w2⟩
theorem q_lc2 {elt iter iter1 : Expr} {ifs ifs1 : List Expr} {scope : Scope} {own : List (Str × Nat)} {vs1 : List Nat} {t t1 : TG} {Gd Gd1 : DG} {js js1 : List Nat} {Tt Tt1 : DT} {Te : DE} (hN : X.N.Nodup) (hi : PI X tg iter (li g W R)) (ok : BlkOk X.N X.env.scope scope own)
    (hg : ∀ (s : Shared) (H : Hp) (C : Addr) (cl : List (Str × Addr)) (fp : List Addr), PG (X.blk s H scope (compEnvC scope cl C X.env) fp) tg t) (lk : LkG g t Gd js) (ht : ∀ (s : Shared) (H : Hp) (C : Addr) (cl : List (Str × Addr)) (fp : List Addr), PTs (X.blk s H scope (compEnvC scope cl C X.env) fp) ifs (lt g W0 Tt))
    (hi1 : ∀ (s : Shared) (H : Hp) (C : Addr) (cl : List (Str × Addr)) (fp : List Addr), PI (X.blk s H scope (compEnvC scope cl C X.env) fp) tg1 iter1 (li g W0 R1))
    (hg1 : ∀ (s : Shared) (H : Hp) (C : Addr) (cl : List (Str × Addr)) (fp : List Addr), PG (X.blk s H scope (compEnvC scope cl C X.env) fp) tg1 t1) (lk1 : LkG g t1 Gd1 js1) (ht1 : ∀ (s : Shared) (H : Hp) (C : Addr) (cl : List (Str × Addr)) (fp : List Addr), PTs (X.blk s H scope (compEnvC scope cl C X.env) fp) ifs1 (lt g W0 Tt1))
    (he : ∀ (s : Shared) (H : Hp) (C : Addr) (cl : List (Str × Addr)) (fp : List Addr), PE (X.blk s H scope (compEnvC scope cl C X.env) fp) elt (le g W0 Te)) (hc : X.calm = true := by rfl) (hjs : ∀ j ∈ js, j ∈ own.map (·.2) := by decide) (hjs1 : ∀ j ∈ js1, j ∈ vs1 := by decide) (hv : ∀ i ∈ vs1, i ∈ own.map (·.2) := by decide) (hs : ∀ x, foldedSetIterable iter X.env x = pure x := by intro _; rfl) (hs1 : ∀ env x, foldedSetIterable iter1 env x = pure x := by intro _ _; rfl) :
    PE X (.ListComp elt [⟨tg, iter, ifs, 0⟩, ⟨tg1, iter1, ifs1, 0⟩] scope pos) (le g W (dLc2 R Gd Tt R1 Gd1 Tt1 Te (own.map (·.2)) vs1)) := by
  refine pe_imp (pe_lc2 (vs1 := vs1) hc hN hi ok hv hg ht hi1 hg1 ht1 he hs hs1) fun σ H Q h => ?_
  obtain ⟨Δ, O, P, E, F, hT, sr, w, hv, hx⟩ := h
  refine ⟨Δ, O, _, _, F, hT, sr, w, fun ds O1 F1 H1 J hP s1 w1 gv => ?_, hx⟩
  refine tlc2_of (PL := fun _ acc O2 => P (.lst acc) O2) lk lk1 hjs hjs1 hP (sr.mono s1) w1 gv fun p acc O2 F2 H2 hp s2 w2 => ?_
  obtain ⟨o, ho, hc, s3, w3⟩ := w2.freeze (a := p) (c := .lst acc) (by simp [getC])
  exact hv _ _ _ _ _ hp (s1.trans (s2.trans s3)) (by simpa [delC] using w3) (frz_rep rfl hc (w2.cel _ List.mem_cons_self).1)
end
section
variable {Δ : Sl} {O : Sto} {P : KD} {E : KX} {R R1 : DA} {Gd Gd1 : DG} {Tt Tt1 : DT} {Te : DE} {vs vs1 : List Nat} {p : Addr} {Q : List D → Sto → Prop}
theorem e_lc2 : dLc2 R Gd Tt R1 Gd1 Tt1 Te vs vs1 Δ O P E = R Δ O (fun ds O1 => ∀ p, freshC O1 p → lc2D Gd Tt R1 Gd1 Tt1 Te vs1 p (fun acc O2 => P (.lst acc) O2) ds [] (wipeD Δ vs) O1) E := propext Iff.rfl
def lc2Step (Gd : DG) (Tt : DT) (R1 : DA) (Gd1 : DG) (Tt1 : DT) (Te : DE) (vs1 : List Nat) (p : Addr) (acc : List D) (Δ : Sl) (O : Sto) (x : D) (C : List D → Sto → Prop) : Prop :=
  Gd x Δ fun Δ' => Tt Δ' ((p, .lst acc) :: O) (fun k O1 => if k = true
      then R1 Δ' O1 (fun ds O2 => ∃ O3, O2 = (p, .lst acc) :: O3 ∧ ds.length ≤ 1000000 ∧ acc.length ≤ 1000000 ∧ lcD Gd1 Tt1 Te p (fun acc' O4 => C acc' O4) ds acc (wipeD Δ' vs1) O3) (fun _ _ => False)
      else ∃ O3, O1 = (p, .lst acc) :: O3 ∧ C acc O3) (fun _ _ => False)
/-- [e for x in xs for y in ys(x)]: each x gives the list f x -/
theorem lc2_map {α : Type} {emb : α → D} (f : α → List D) {xs : List α} : ∀ {acc : List D}, (∀ l x r, xs = l ++ x :: r → ∀ C, C (acc ++ l.flatMap f ++ f x) O → lc2Step Gd Tt R1 Gd1 Tt1 Te vs1 p (acc ++ l.flatMap f) Δ O (emb x) C) → Q (acc ++ xs.flatMap f) O → lc2D Gd Tt R1 Gd1 Tt1 Te vs1 p Q (xs.map emb) acc Δ O := by
  induction xs with
  | nil => intro acc _ h; simpa [lc2D] using h
  | cons x xs ih =>
    intro acc step h
    have z := step [] x xs rfl (fun acc' O4 => lc2D Gd Tt R1 Gd1 Tt1 Te vs1 p Q (xs.map emb) acc' Δ O4)
    simp only [List.flatMap_nil, List.append_nil] at z
    refine z (ih (fun l y r e C hC => ?_) (by simpa [List.append_assoc] using h))
    have z2 := step (x :: l) y r (by rw [e]; rfl) C
    simp only [List.flatMap_cons] at z2
    rw [← List.append_assoc] at z2
    exact z2 hC
/-- the inner walk from acc on -/
theorem lc_mapA {α : Type} {emb : α → D} (f : α → D) {xs : List α} {acc : List D} (step : ∀ x ∈ xs, ∀ acc C, C (some (f x)) O → lcStep Gd Tt Te p acc Δ O (emb x) C) (fin : Q (acc ++ xs.map f) O) : lcD Gd Tt Te p Q (xs.map emb) acc Δ O := by
  refine lc_det (fun x => some (f x)) step ?_
  rw [List.filterMap_eq_map']
  exact fin
end
/-! ## {"a": x, ..} -/
def dDisp (ks : List Str) (R : DA) : DE := fun Δ O P E => ∀ p, freshC O p → R Δ ((p, .dic [] []) :: O) (fun ds O1 => ∃ O2, O1 = (p, .dic [] []) :: O2 ∧ ds.length = ks.length ∧ ks.Nodup ∧ P (.ptr p) ((p, .dic (ks.map Sum.inr) ds) :: O2)) (fun x O1 => E x (delC O1 p))
theorem e_disp {ks : List Str} {R : DA} {Δ : Sl} {O : Sto} {P : KD} {E : KX} : dDisp ks R Δ O P E = ∀ p, freshC O p → R Δ ((p, .dic [] []) :: O) (fun ds O1 => ∃ O2, O1 = (p, .dic [] []) :: O2 ∧ ds.length = ks.length ∧ ks.Nodup ∧ P (.ptr p) ((p, .dic (ks.map Sum.inr) ds) :: O2)) (fun x O1 => E x (delC O1 p)) := propext Iff.rfl
section
variable {g : Gm} {X : Cx} {W : WX} {pos pos' : Pos} {keys : List (Option Expr)} {values : List Expr} {ks : List Str} {R : DA}
end
end G
namespace G
open PySem L2
end G
namespace G
open PySem L2
theorem e_makeK {cl : Cl} {S : DSp} {R : DA} {Δ : Sl} {O : Sto} {P : KD} {E : KX} : dMake cl S R Δ O P E = R Δ O (fun ds O1 => mkK cl S ds O1 P E) E := propext Iff.rfl
end G
namespace G
open PySem L2
section
variable {g : Gm} {X : Cx} {W : WX} {pos : Pos} {i o : Expr} {Tk Td : DE}
theorem tdin_of {σ : St} {H : Hp} {Q : VK} (h : le g W (dInD false Tk Td) σ H Q) : tDIn (le g W Tk) (le g W Td) σ H Q := by
  obtain ⟨Δ, O, P, E, F, hT, sr, w, hv, hx⟩ := h
  refine le_bind hT sr w hx fun y O1 u F1 H1 hT1 s1 sr1 w1 ry hx1 => le_bind hT1 sr1 w1 hx1 fun d O2 v F2 H2 hT2 s2 sr2 w2 rx hx2 => ?_
  split at hT2
  · rename_i t k e1 e2
    obtain ⟨q, rfl, _, h1, h2⟩ := dget_of e1 e2 rx (ry.mono s2) w2
    cases ez : getK k t.1 t.2 with
    | none => rw [ez] at hT2; exact ⟨q, none, rfl, h2 ez, hv _ _ _ _ _ hT2 (s1.trans s2) w2 rbl⟩
    | some z =>
      obtain ⟨zz, hz, _⟩ := h1 z ez
      rw [ez] at hT2
      exact ⟨q, some zz, rfl, hz, hv _ _ _ _ _ hT2 (s1.trans s2) w2 rbl⟩
  · exact hT2.elim
theorem tdnotin_of {σ : St} {H : Hp} {Q : VK} (h : le g W (dInD true Tk Td) σ H Q) : tDNotIn (le g W Tk) (le g W Td) σ H Q := by
  obtain ⟨Δ, O, P, E, F, hT, sr, w, hv, hx⟩ := h
  refine le_bind hT sr w hx fun y O1 u F1 H1 hT1 s1 sr1 w1 ry hx1 => le_bind hT1 sr1 w1 hx1 fun d O2 v F2 H2 hT2 s2 sr2 w2 rx hx2 => ?_
  split at hT2
  · rename_i t k e1 e2
    obtain ⟨q, rfl, _, h1, h2⟩ := dget_of e1 e2 rx (ry.mono s2) w2
    cases ez : getK k t.1 t.2 with
    | none => rw [ez] at hT2; exact ⟨q, none, rfl, h2 ez, hv _ _ _ _ _ hT2 (s1.trans s2) w2 rbl⟩
    | some z =>
      obtain ⟨zz, hz, _⟩ := h1 z ez
      rw [ez] at hT2
      exact ⟨q, some zz, rfl, hz, hv _ _ _ _ _ hT2 (s1.trans s2) w2 rbl⟩
  · exact hT2.elim
theorem qt_inD (hu : X.A.units + 1 < cLine) (hi : PE X i (le g W Tk)) (ho : PE X o (le g W Td)) (hm : behindInMarks .In o = false := by rfl) : PT X (.Compare i [.In] [o] pos) (lt g W (dTe (dInD false Tk Td))) :=
  pt_imp (pt_cmp (pc_din hu hi ho) hm) fun σ H Q h => tdin_of (test_of h)
theorem qt_notInD (hu : X.A.units + 1 < cLine) (hi : PE X i (le g W Tk)) (ho : PE X o (le g W Td)) (hm : behindInMarks .NotIn o = false := by rfl) : PT X (.Compare i [.NotIn] [o] pos) (lt g W (dTe (dInD true Tk Td))) :=
  pt_imp (pt_cmp (pc_dnotin hu hi ho) hm) fun σ H Q h => tdnotin_of (test_of h)
end
end G

set_option Elab.async false
set_option linter.all false
set_option maxRecDepth 100000
set_option maxHeartbeats 4000000
namespace G
open PySem L2
/-! ## methods of an owned list -/
abbrev LOp := Sto → List D → List D → (D → List D → Prop) → Prop
def dLm (op : LOp) (Ta : DE) (R : DA) : DE := fun Δ O P E => Ta Δ O (fun o O1 => match o with
  | .ptr p => (match getC O1 p with
    | some (.lst _) => R Δ O1 (fun as O2 => match getC O2 p with
      | some (.lst ds) => op O2 ds as (fun r ds' => P r (setC O2 p (.lst ds')))
      | _ => False) E
    | _ => False)
  | _ => False) E
def LkM (g : Gm) (r : V → List V → Hp → VK → Prop) (op : LOp) : Prop := ∀ (p : Addr) (O : Sto) (ds as : List D) (K : D → List D → Prop) (F H : Hp) (vs us : List V) (Q : VK), op O ds as K → H p = some (.lst vs) → Reps g F ds vs → Reps g F as us → Wd g F O H →
  (∀ d ds' v vs', K d ds' → Rep g F d v → Reps g F ds' vs' → Q v (upd H p (.lst vs'))) → r (.ref p) us H Q
section
variable {g : Gm} {X : Cx} {W : WX} {pos : Pos} {a c : Expr} {Ta : DE} {R : DA} {op : LOp} {r : V → List V → Hp → VK → Prop}
theorem lm_of {K : PySem.W.Frag} {σ : St} {H : Hp} {Q : VK} (lk : LkM g r op) (h : le g W (dLm op Ta R) σ H Q) : tBM K "list" r (le g W Ta) (la g W R) σ H Q := by
  obtain ⟨Δ, O, P, E, F, hT, sr, w, hv, hx⟩ := h
  refine le_bind hT sr w hx fun o O1 vo F1 H1 hT1 s1 sr1 w1 ro hx1 => ?_
  cases o with
  | ptr p =>
    have ev := Rep.ptr_iff.mp ro
    subst ev
    have hT1 : (match getC O1 p with
      | some (.lst _) => R Δ O1 (fun as O2 => match getC O2 p with
        | some (.lst ds) => op O2 ds as (fun r ds' => P r (setC O2 p (.lst ds')))
        | _ => False) E
      | _ => False) := hT1
    split at hT1
    · rename_i ds0 e0
      obtain ⟨_, ob, h1, h2⟩ := w1.get e0
      cases ob with
      | lst vs0 =>
        refine ⟨.inl ⟨rfl, _, SqL.of h1⟩, ?_⟩
        refine la_bind hT1 sr1 w1 hx1 fun as O2 us F2 H2 hT2 s2 sr2 w2 ra hx2 => ?_
        split at hT2
        · rename_i ds e
          obtain ⟨_, ob, h3, h4⟩ := w2.get e
          cases ob with
          | lst vs =>
            have h4 : Reps g F2 ds vs := h4
            exact lk p O2 ds as _ F2 H2 vs us Q hT2 h3 h4 ra w2 fun d ds' v vs' hP rd rs => hv _ _ _ _ _ hP (s1.trans s2) (w2.set e (c' := .lst ds') (o := .lst vs') rs) rd
          | _ => exact h4.elim
        · exact hT2.elim
      | _ => exact h2.elim
    · exact hT1.elim
  | _ => exact hT1.elim
theorem q_lm (lk : LkM g r op) (h : PE X c (tBM X.K "list" r (le g W Ta) (la g W R))) : PE X c (le g W (dLm op Ta R)) := pe_imp h fun σ H Q h => lm_of lk h
end
def opPop : LOp := fun _ ds as K => as = [] ∧ ∃ l y, ds = l ++ [y] ∧ K y l
def opIns : LOp := fun _ ds as K => match as with
  | [.int i, d] => 0 ≤ i ∧ i < 2 ^ 63 ∧ ds.length < sizeLine ∧ K .non (ds.take i.toNat ++ [d] ++ ds.drop i.toNat)
  | _ => False
def opExt : LOp := fun O ds as K => match as with
  | [d] => (match lstOf O d with | some es => ds.length + es.length ≤ sizeLine ∧ K .non (ds ++ es) | none => False)
  | _ => False
section
variable {g : Gm}
theorem lk_ext : LkM g rExtend opExt := by
  intro p O ds as K F H vs us Q ho hp rs ra w k
  unfold opExt at ho
  split at ho
  · rename_i d
    split at ho
    · rename_i es ee
      obtain ⟨v, r, rfl, rv, rr⟩ := Reps.cons_iff.mp ra
      rw [Reps.nil_iff] at rr
      subst rr
      obtain ⟨b, zs, rfl, hb, rz⟩ := lst_of ee rv w
      exact ⟨p, b, vs, zs, rfl, rfl, hp, hb, by rw [← rs.length, ← rz.length]; exact ho.1, k _ _ _ _ ho.2 (Rep.non_iff.mpr rfl) (rs.append rz)⟩
    · exact ho.elim
  · exact ho.elim
end
theorem e_lm {op : LOp} {Ta : DE} {R : DA} {Δ : Sl} {O : Sto} {P : KD} {E : KX} : dLm op Ta R Δ O P E = Ta Δ O (fun o O1 => match o with
  | .ptr p => (match getC O1 p with
    | some (.lst _) => R Δ O1 (fun as O2 => match getC O2 p with
      | some (.lst ds) => op O2 ds as (fun r ds' => P r (setC O2 p (.lst ds')))
      | _ => False) E
    | _ => False)
  | _ => False) E := propext Iff.rfl
section
variable {Δ : Sl} {O : Sto} {P : KD} {E : KX} {Ta : DE} {L U : DO} {PO : Option Int → Sto → Prop} {K : D → List D → Prop}
theorem f_pop {ds as : List D} : opPop O ds as K = (as = [] ∧ ∃ l y, ds = l ++ [y] ∧ K y l) := propext Iff.rfl
theorem f_ins {ds : List D} {i : Int} {d : D} : opIns O ds [.int i, d] K = (0 ≤ i ∧ i < 2 ^ 63 ∧ ds.length < sizeLine ∧ K .non (ds.take i.toNat ++ [d] ++ ds.drop i.toNat)) := propext Iff.rfl
theorem f_ext {ds : List D} {d : D} : opExt O ds [d] K = (match lstOf O d with | some es => ds.length + es.length ≤ sizeLine ∧ K .non (ds ++ es) | none => False) := propext Iff.rfl
theorem e_slice : dSlice Ta L U Δ O P E = Ta Δ O (fun d O1 => L Δ O1 (fun l O2 => U Δ O2 (fun u O3 => match d with
  | .scr ns => P (.lst (cutD (ns.map D.int) l u)) O3
  | _ => match lstOf O3 d with | some ds => P (.lst (cutD ds l u)) O3 | none => False) E) E) E := propext Iff.rfl
theorem e_noP : dNoP Δ O PO E = PO none O := propext Iff.rfl
theorem e_part : dPart Ta Δ O PO E = Ta Δ O (fun d O1 => match d with | .int i => PO (some i) O1 | _ => False) E := propext Iff.rfl
theorem f_dictD {d : D} : fDictD [d] O P = (match dicOf O d with | some t => ∀ p, freshC O p → P (.ptr p) ((p, .dic t.1 t.2) :: O) | none => False) := propext Iff.rfl
theorem lstL {ds : List D} : lstOf O (.lst ds) = some ds := rfl
end
end G

set_option Elab.async false
set_option linter.all false
set_option maxRecDepth 100000
set_option maxHeartbeats 4000000
namespace G
open PySem L2
/-! ## keywords -/
def pick {α : Type} (idx : List Nat) (zs : List α) : List α := idx.filterMap fun i => zs[i]?
theorem Reps.pick {g : Gm} {F : Hp} {ds : List D} {vs : List V} (h : Reps g F ds vs) : ∀ idx : List Nat, Reps g F (G.pick idx ds) (G.pick idx vs)
  | [] => Reps.nil
  | i :: idx => by
    unfold G.pick
    rw [List.filterMap_cons, List.filterMap_cons]
    cases e : ds[i]? with
    | none =>
      have e2 : vs[i]? = none := by
        rw [List.getElem?_eq_none_iff] at e ⊢
        rw [← h.length]; exact e
      rw [e2]
      exact Reps.pick h idx
    | some d =>
      obtain ⟨v, e2, r⟩ := h.get e
      rw [e2]
      exact Reps.cons r (Reps.pick h idx)
theorem vals_pick {vs : List V} {us : List Value} (h : Vals vs us) : ∀ idx : List Nat, Vals (G.pick idx vs) (G.pick idx us)
  | [] => .nil
  | i :: idx => by
    unfold G.pick
    rw [List.filterMap_cons, List.filterMap_cons]
    have key : (vs[i]? = none ∧ us[i]? = none) ∨ ∃ v u, vs[i]? = some v ∧ us[i]? = some u ∧ RelV v u := by
      clear vals_pick
      induction h generalizing i with
      | nil => exact .inl ⟨rfl, rfl⟩
      | @cons a b as bs r _ ih =>
        cases i with
        | zero => exact .inr ⟨a, b, rfl, rfl, r⟩
        | succ i => simpa using ih i
    rcases key with ⟨e1, e2⟩ | ⟨v, u, e1, e2, r⟩
    · rw [e1, e2]; exact vals_pick h idx
    · rw [e1, e2]; exact .cons r (vals_pick h idx)
def FNK (g : Gm) (P : Program) (w : World) (K : PySem.W.Frag) (mg : Str → Option Value) (base : Heap) (k : Nat) (f : Addr) (n : Nat) (ks : List Str) (idx : List Nat) (S : DSp) : Prop :=
  ∀ (A : Around) (outer : List Env) (s : Shared) (H : Hp) (us ws : List Value) (vs zs : List V) (Q : VK) (E : XK), Room k A → Env0 P w K mg base A outer s H → Vals vs us → Vals zs ws → vs.length = n → zs.length = ks.length → toSp g S (vs ++ pick idx zs) H Q E →
    codeAny (model P w) A (.call (.ref f) ⟨us, ks.zip ws⟩) (CR (L2.CX P w) outer P w H s Q E) s
theorem FNK.mono {g : Gm} {P : Program} {w : World} {K : PySem.W.Frag} {mg : Str → Option Value} {base : Heap} {j k : Nat} {f : Addr} {n : Nat} {ks : List Str} {idx : List Nat} {S : DSp} (h : FNK g P w K mg base j f n ks idx S) (hj : j ≤ k) : FNK g P w K mg base k f n ks idx S :=
  fun A outer s H us ws vs zs Q E hr => h A outer s H us ws vs zs Q E (hr.mono hj)
theorem fn_FNK {g : Gm} {P : Program} {w : World} {K : PySem.W.Frag} {mg : Str → Option Value} {base : Heap} {k : Nat} {f : Addr} {fd : FuncData} {ps : List Str} {n : Nat} {ks : List Str} {idx : List Nat} {S : DSp} (F : FnOk P w K mg base (L2.CX P w) k f fd ps (toSp g S))
    (hb : ∀ us ws : List Value, us.length = n → ws.length = ks.length → bindArgs fd ⟨us, ks.zip ws⟩ = Pure.pure (ps.zip (us ++ pick idx ws))) : FNK g P w K mg base k f n ks idx S :=
  fun A outer s H us ws vs zs Q E hr e0 r1 r2 l1 l2 h => F.run A outer s H ⟨us, ks.zip ws⟩ (us ++ pick idx ws) (vs ++ pick idx zs) Q E hr e0 (.of_eq (hb us ws (by rw [← r1.length]; exact l1) (by rw [← r2.length]; exact l2))) (r1.append (vals_pick r2 idx)) h
section
variable {g : Gm} {X : Cx} {W : WX} {pos pos' p apos kpos : Pos} {a b c o e : Expr} {es : List Expr} {Ta Tb : DE} {R Rk : DA} {k j n : Nat} {f : Addr} {S : DSp} {x m : Str} {kws : List Keyword} {ks : List Str} {idx : List Nat} {nm : Option Str}
theorem qk_nil : PK X [] (la g W dNil) := ⟨fun pos pins s σ H Q I h => pk_nil.run pos pins s σ H Q I (by
  obtain ⟨Δ, O, P, E, F, hT, sr, w, hv, hx⟩ := h
  exact hv.now hT w Reps.nil)⟩
theorem qk_cons (ha : PE X e (le g W Ta)) (hr : PK X kws (la g W R)) : PK X (⟨nm, e, kpos⟩ :: kws) (la g W (dCons Ta R)) := ⟨fun pos pins s σ H Q I h => (pk_cons ha hr).run pos pins s σ H Q I (by
  obtain ⟨Δ, O, P, E, F, hT, sr, w, hv, hx⟩ := h
  refine le_bind hT sr w hx fun d O1 v F1 H1 hT1 s1 sr1 w1 rx hx1 => la_bind hT1 sr1 w1 hx1 fun ds O2 vs F2 H2 hT2 s2 sr2 w2 rs hx2 => ?_
  exact hv _ _ _ _ _ hT2 (s1.trans s2) w2 (Reps.cons (rx.mono s2) rs))⟩
theorem run_FNK {pins : List (Addr × Obj)} {σ : St} {H : Hp} {s : Shared} {Q : VK} {us ws : List Value} {vs zs : List V} (Fn : FNK g X.prog X.w X.K X.mg X.base k f n ks idx S) (hr : Room k X.A) (tk : Takes X W) (I : Inv X pins σ H s) (r : Vals vs us) (rz : Vals zs ws) (l1 : vs.length = n) (l2 : zs.length = ks.length)
    (h : toSp g S (vs ++ pick idx zs) H Q (fun cls dd H' => W cls dd σ H')) : codeAny (model X.prog X.w) X.A (.call (.ref f) ⟨us, ks.zip ws⟩) (fun r s' => match r with | .ok (.ret v) => EP X pins σ Q v s' | .ok _ => False | .error e => X.xe e s') s := by
  refine codeAny_mono (Fn X.A X.stack s H us ws vs zs Q _ hr I.env0 r rz l1 l2 h) fun r s' hq => ?_
  cases r with
  | error e => exact passAt tk σ pins H s e s' I hq
  | ok fl =>
    cases fl with
    | ret u => exact I.after hq
    | next => exact False.elim hq
    | brk => exact False.elim hq
    | cont => exact False.elim hq
def dCallK (n m : Nat) (idx : List Nat) (S : DSp) (R Rk : DA) : DE := fun Δ O P E => R Δ O (fun ds O1 => Rk Δ O1 (fun es O2 => ds.length = n ∧ es.length = m ∧ S (ds ++ pick idx es) O2 P E) E) E
/-- the class C's own def m: C.m(..) -/
def UAt (g : Gm) (P : Program) (w : World) (K : PySem.W.Frag) (mg : Str → Option Value) (base : Heap) (k : Nat) (c : Cl) (m : Str) (S : DSp) : Prop := ∃ mc f, ClX.CRead K (g.ca c) mc ∧ PySem.W.findCls K (.ref (g.ca c)) mc m = some (.val (.ref f)) ∧ PySem.W.keepIn K (.ref f) = true ∧ FN g P w K mg base k f S
def UAtK (g : Gm) (P : Program) (w : World) (K : PySem.W.Frag) (mg : Str → Option Value) (base : Heap) (k : Nat) (c : Cl) (m : Str) (n : Nat) (ks : List Str) (idx : List Nat) (S : DSp) : Prop := ∃ mc f, ClX.CRead K (g.ca c) mc ∧ PySem.W.findCls K (.ref (g.ca c)) mc m = some (.val (.ref f)) ∧ PySem.W.keepIn K (.ref f) = true ∧ FNK g P w K mg base k f n ks idx S
theorem q_ucall {pl : Sem Bool} {cl : Cl} (M : UAt g X.prog X.w X.K X.mg X.base k cl m S) (hm : X.mg x = some (.ref (g.ca cl))) (hr : Room j X.A) (tk : Takes X W) (ha : PA X (a :: es) (la g W R)) (hkj : k ≤ j := by first | decide | omega) (hg : Gl X x := by rfl) (hd : (x == ("__debug__" : Str)) = false := by decide)
    (hst : starEach (a :: es) X.env = (false, eval a X.env) :: starEach es X.env := by rfl) (hpl : (backTo pos (starEach es X.env)).any (·.1) = false := by rfl)
    (ht : eval (.Call (.Attribute (.Name x p) m apos) (a :: es) [] pos) X.env = (do
      let ov ← eval (.Name x p) X.env
      standAt apos.atName
      let (f, first) ← holding [ov] (getMethod ov m pl)
      callWith pos f first (backTo pos (starEach (a :: es) X.env)) (backToKw pos (keywordEach [] X.env))) := by rfl) :
    PE X (.Call (.Attribute (.Name x p) m apos) (a :: es) [] pos) (le g W (dCall S R)) := by
  refine ⟨fun pins s σ H Q I h => ?_⟩
  obtain ⟨Δ, O, P, E, F, hT, sr, w, hv, hx⟩ := h
  obtain ⟨mc, f, rd, fc, kp, Fn⟩ := M
  refine PySem.W.methodCall_KW (pl := pl) (thn ((pe_glob (v := .ref (g.ca cl)) hg hm rfl hd).run pins s σ H (fun v H1 => v = .ref (g.ca cl) ∧ H1 = H) I ⟨rfl, rfl⟩) fun u s1 ⟨v, H1, I1, rv, ev, eH⟩ => ?_) ht
  subst ev
  subst eH
  obtain rfl : u = Value.ref (g.ca cl) := rv
  refine PySem.W.method_cls I1.kIn rd.ga (PySem.W.cls_value I1.kIn rd.rd fc rfl ?_)
  have I2 := I1.tok (s1.toks + 1)
  refine PySem.W.callWith_K (h₀ := X.base) I.ok.mod.kin kp (thn (ha.run pos pins _ σ H1 _ I2 (la_bind (Q := fun vs H1 => toSp g S vs H1 Q fun cls dd H' => W cls dd σ H') hT sr w hx fun ds O1 vs F1 H1 hT1 s1 sr1 w1 rs hx1 => sp_of hT1 rs w1 hv s1 hx1)) fun us s1 ⟨vs, H1, I1, r, q⟩ => ⟨I1.kIn, ?_⟩) hst hpl
  exact wpAny_call (run_FN Fn (hr.mono hkj) tk I1 r q)
theorem q_ucallK {pl : Sem Bool} {cl : Cl} {nk : Nat} (M : UAtK g X.prog X.w X.K X.mg X.base k cl m n ks idx S) (hm : X.mg x = some (.ref (g.ca cl))) (hr : Room j X.A) (tk : Takes X W) (ha : PA X (a :: es) (la g W R)) (hkw : PK X kws (la g W Rk)) (hkj : k ≤ j := by first | decide | omega) (hg : Gl X x := by rfl) (hd : (x == ("__debug__" : Str)) = false := by decide)
    (hall : (backToKw pos (keywordEach kws X.env)).all (·.1.isSome) = true := by rfl) (hks : (backToKw pos (keywordEach kws X.env)).filterMap (·.1) = ks := by rfl)
    (hst : starEach (a :: es) X.env = (false, eval a X.env) :: starEach es X.env := by rfl) (hpl : ((backTo pos (starEach (a :: es) X.env)).any (·.1) || (backToKw pos (keywordEach kws X.env)).any (·.1.isNone)) = false := by rfl)
    (ht : eval (.Call (.Attribute (.Name x p) m apos) (a :: es) kws pos) X.env = (do
      let ov ← eval (.Name x p) X.env
      standAt apos.atName
      let (f, first) ← holding [ov] (getMethod ov m pl)
      callWith pos f first (backTo pos (starEach (a :: es) X.env)) (backToKw pos (keywordEach kws X.env))) := by rfl) (hnk : ks.length = nk := by rfl) :
    PE X (.Call (.Attribute (.Name x p) m apos) (a :: es) kws pos) (le g W (dCallK n nk idx S R Rk)) := by
  subst hnk
  refine ⟨fun pins s σ H Q I h => ?_⟩
  obtain ⟨Δ, O, P, E, F, hT, sr, w, hv, hx⟩ := h
  obtain ⟨mc, f, rd, fc, kp, Fn⟩ := M
  refine PySem.W.methodCall_KW (pl := pl) (thn ((pe_glob (v := .ref (g.ca cl)) hg hm rfl hd).run pins s σ H (fun v H1 => v = .ref (g.ca cl) ∧ H1 = H) I ⟨rfl, rfl⟩) fun u s1 ⟨v, H1, I1, rv, ev, eH⟩ => ?_) ht
  subst ev
  subst eH
  obtain rfl : u = Value.ref (g.ca cl) := rv
  refine PySem.W.method_cls I1.kIn rd.ga (PySem.W.cls_value I1.kIn rd.rd fc rfl ?_)
  have I2 := I1.tok (s1.toks + 1)
  refine PySem.W.callWith_KW (h₀ := X.base) I.ok.mod.kin kp hall (thn (ha.run pos pins _ σ H1 _ I2 (la_bind (Q := fun vs H1 => la g W Rk σ H1 fun zs H2 => vs.length = n ∧ zs.length = ks.length ∧ toSp g S (vs ++ pick idx zs) H2 Q fun cls dd H' => W cls dd σ H') hT sr w hx
    fun ds O1 vs F1 H1 hT1 s1 sr1 w1 rs hx1 => la_bind hT1 sr1 w1 hx1 fun es O2 zs F2 H2 hT2 s2 sr2 w2 rz hx2 => ?_)) fun us s1 ⟨vs, H1, I1, r, q⟩ => ?_) hpl hst
  · obtain ⟨l1, l2, hS⟩ := hT2
    exact ⟨by rw [← rs.length]; exact l1, by rw [← rz.length]; exact l2, sp_of hS ((rs.mono s2).append (rz.pick idx)) w2 hv (s1.trans s2) hx2⟩
  · refine thn (hkw.run pos pins s1 σ H1 _ I1 q) fun ws s2 ⟨zs, H2, I2, rz, l1, l2, q2⟩ => ⟨I2.kIn, ?_⟩
    rw [hks]
    exact wpAny_call (run_FNK Fn (hr.mono hkj) tk I2 r rz l1 l2 q2)
/-! ### C(.., k = v) -/
def dMakeKw (cl : Cl) (n m : Nat) (idx : List Nat) (S : DSp) (R Rk : DA) : DE := fun Δ O P E => R Δ O (fun ds O1 => Rk Δ O1 (fun es O2 => ds.length = n ∧ es.length = m ∧ mkK cl S (ds ++ pick idx es) O2 P E) E) E
def GCK (g : Gm) (P : Program) (w : World) (K : PySem.W.Frag) (mg : Str → Option Value) (base : Heap) (k : Nat) (cl : Cl) (name : Str) (n : Nat) (ks : List Str) (idx : List Nat) (S : DSp) : Prop := mg name = some (.ref (g.ca cl)) ∧ ∃ f, Mk K (g.ca cl) f ∧ FNK g P w K mg base k f (n + 1) ks idx S
theorem run_mkK {C : Addr} {pins : List (Addr × Obj)} {σ : St} {H : Hp} {s : Shared} {Q : VK} {us ws : List Value} {vs zs : List V} (M : Mk X.K C f) (Fn : FNK g X.prog X.w X.K X.mg X.base k f (n + 1) ks idx S) (hr : Room (k + 1) X.A) (tk : Takes X W) (I : Inv X pins σ H s) (r : Vals vs us) (rz : Vals zs ws) (l1 : vs.length = n) (l2 : zs.length = ks.length)
    (h : ∀ x dx, H x = Option.none → H dx = Option.none → dx ≠ x → toSp g S (V.ref x :: (vs ++ pick idx zs)) (upd (upd H dx (.own x)) x (.ins C dx [])) (fun v H2 => v = .non ∧ Q (.ref x) H2) (fun cls dd H' => W cls dd σ H')) :
    wpAny (model X.prog X.w) X.A (call (.ref C) us (ks.zip ws)) (EP X pins σ Q) X.xe s := by
  have hq := h (s.heap.objs.size + 1) s.heap.objs.size (I.hok.fresh (Nat.le_succ _)) (I.hok.fresh (Nat.le_refl _)) (Nat.ne_of_lt (Nat.lt_succ_self _))
  have I2 := Inv.made (C := C) I
  have r2 : Vals (V.ref (s.heap.objs.size + 1) :: vs) (Value.ref (s.heap.objs.size + 1) :: us) := .cons rfl r
  refine wpAny_call (make_map (f := f) I.kIn M.makes M.init (beq_iff_eq.mp M.fn) (codeAny_mono (Fn _ X.stack _ _ (Value.ref (s.heap.objs.size + 1) :: us) ws _ zs _ _ (hr.make C us (ks.zip ws)) (I2.env0.make C us (ks.zip ws)) r2 rz (by rw [List.length_cons, l1]) l2 hq) fun r s' hq' => ?_))
  cases r with
  | error e => exact passAt tk σ pins _ _ e s' I2 hq'
  | ok fl =>
    cases fl with
    | ret u =>
      obtain ⟨v, H', I3, rv, ev, q3⟩ := I2.after hq'
      subst ev
      exact ⟨rv, ⟨V.ref (s.heap.objs.size + 1), H', I3, rfl, q3⟩⟩
    | next => exact False.elim hq'
    | brk => exact False.elim hq'
    | cont => exact False.elim hq'
theorem q_makeKw {cl : Cl} {nk : Nat} (M : GCK g X.prog X.w X.K X.mg X.base k cl x n ks idx S) (hr : Room j X.A) (tk : Takes X W) (ha : PA X (a :: es) (la g W R)) (hkw : PK X kws (la g W Rk)) (hkj : k + 1 ≤ j := by first | decide | omega) (hg : Gl X x := by rfl)
    (hall : (backToKw pos (keywordEach kws X.env)).all (·.1.isSome) = true := by rfl) (hks : (backToKw pos (keywordEach kws X.env)).filterMap (·.1) = ks := by rfl) (hdb : (x == ("__debug__" : Str)) = false := by decide)
    (he : starEach (a :: es) X.env = (false, eval a X.env) :: starEach es X.env := by rfl) (hpl : ((backTo pos (starEach (a :: es) X.env)).any (·.1) || (backToKw pos (keywordEach kws X.env)).any (·.1.isNone)) = false := by rfl) (hnk : ks.length = nk := by rfl) :
    PE X (.Call (.Name x p) (a :: es) kws pos) (le g W (dMakeKw cl n nk idx S R Rk)) := by
  subst hnk
  refine ⟨fun pins s σ H Q I h => ?_⟩
  obtain ⟨Δ, O, P, E, F, hT, sr, w, hv, hx⟩ := h
  obtain ⟨hm, f, Mk, Fn⟩ := M
  refine wpAny_Call_Name_kw (ld_glob I hg hm ?_ hdb)
  refine PySem.W.callWith_KW (h₀ := X.base) I.ok.mod.kin Mk.kp hall (thn (ha.run pos pins s σ H _ I (la_bind (Q := fun vs H1 => la g W Rk σ H1 fun zs H2 => vs.length = n ∧ zs.length = ks.length ∧ ∀ x dx, H2 x = none → H2 dx = none → dx ≠ x → toSp g S (V.ref x :: (vs ++ pick idx zs)) (upd (upd H2 dx (.own x)) x (.ins (g.ca cl) dx [])) (fun v H2 => v = .non ∧ Q (.ref x) H2) fun cls dd H' => W cls dd σ H') hT sr w hx
    fun ds O1 vs F1 H1 hT1 s1 sr1 w1 rs hx1 => la_bind hT1 sr1 w1 hx1 fun es O2 zs F2 H2 hT2 s2 sr2 w2 rz hx2 => ?_)) fun us s1 ⟨vs, H1, I1, r, q⟩ => ?_) hpl he
  · obtain ⟨l1, l2, hS⟩ := hT2
    exact ⟨by rw [← rs.length]; exact l1, by rw [← rz.length]; exact l2, fun x dx nx nd ne => mk_sp hS ((rs.mono s2).append (rz.pick idx)) w2 hv (s1.trans s2) hx2 x dx nx nd ne⟩
  · refine thn (hkw.run pos pins s1 σ H1 _ I1 q) fun ws s2 ⟨zs, H2, I2, rz, l1, l2, q2⟩ => ⟨I2.kIn, ?_⟩
    rw [hks]
    exact run_mkK Mk Fn (hr.mono hkj) tk I2 r rz l1 l2 q2
/-! ## constants -/
theorem q_gStr {z : Str} {t : Tok} (hm : X.mg x = some (.str z t)) (hg : Gl X x := by rfl) (hd : (x == ("__debug__" : Str)) = false := by decide) : PE X (.Name x p) (le g W (dC (.str z))) :=
  pe_imp (pe_glob (v := .str z) hg hm ⟨t, rfl⟩ hd) fun σ H Q ⟨Δ, O, P, E, F, hT, sr, w, hv, hx⟩ => hv.now (d := .str z) hT w (Rep.str_iff.mpr rfl)
/-- x in TUPLE, of texts, of the module -/
structure KTup (K : PySem.W.Frag) (mg : Str → Option Value) (x : Str) (ws : List Str) : Prop where
  ex : ∃ (a : Addr) (o : Obj) (its : Array Value) (n : Nat), mg x = some (.ref a) ∧ K.lookup a = some o ∧ o.cls = .type "tuple" ∧ o.data = .seq its n ∧ its.size ≤ sizeLine ∧ Vals (ws.map V.str) its.toList
def dInK (ws : List Str) (Ta : DE) : DE := fun Δ O P E => Ta Δ O (fun d O1 => match d with | .str z => P (.bl (decide (z ∈ ws))) O1 | _ => False) E
theorem ink_of {ws : List Str} {aa : Addr} {oo : Obj} {its : Array Value} {nn : Nat} (h1 : g.K.lookup aa = some oo) (h2 : oo.cls = .type "tuple") (h3 : oo.data = .seq its nn) (h4 : its.size ≤ sizeLine) (h5 : Vals (ws.map V.str) its.toList) {σ : St} {H : Hp} {Q : VK} (h : le g W (dInK ws Ta) σ H Q) :
    tOp (rIn g.K false) (le g W Ta) (tC (.ref aa)) σ H Q := by
  obtain ⟨Δ, O, P, E, F, hT, sr, w, hv, hx⟩ := h
  refine le_bind hT sr w hx fun d O1 v F1 H1 hT1 s1 sr1 w1 rx hx1 => ?_
  cases d with
  | str z =>
    rw [Rep.str_iff.mp rx]
    refine ⟨aa, _, rfl, .inr (.inr ⟨oo, its, nn, h1, h2, h3, h4, h5⟩), rfl, by simp [flatV], ?_⟩
    rw [inV_str]
    exact hv _ _ _ _ _ hT1 s1 w1 rbl
  | _ => exact hT1.elim
theorem qt_inK {ws : List Str} (T : KTup g.K X.mg x ws) (ha : PE X a (le g W Ta)) (hK : X.K = g.K := by rfl) (hg : Gl X x := by rfl) (hd : (x == ("__debug__" : Str)) = false := by decide) : PT X (.Compare a [.In] [.Name x p] pos) (lt g W (dTe (dInK ws Ta))) := by
  obtain ⟨aa, oo, its, nn, hm, h1, h2, h3, h4, h5⟩ := T.ex
  refine pt_imp (pt_cmpR (op := .In) (r := rIn X.K false) op_in_seq ha (pe_glob (v := .ref aa) hg hm rfl hd) rfl) fun σ H Q h => ?_
  rw [hK]
  exact ink_of h1 h2 h3 h4 h5 (test_of h)
/-- C.CONSTANT, an int -/
def CVI (g : Gm) (K : PySem.W.Frag) (c : Cl) (f : Str) (i : Int) : Prop := ∃ mc t, ClX.CRead K (g.ca c) mc ∧ PySem.W.findCls K (.ref (g.ca c)) mc f = some (.val (.int i t))
theorem q_cvalI {cl : Cl} {i : Int} {ff : Str} (T : CVI g g.K cl ff i) (hm : X.mg x = some (.ref (g.ca cl))) (hK : X.K = g.K := by rfl) (hg : Gl X x := by rfl) (hd : (x == ("__debug__" : Str)) = false := by decide) (hb : attributeBase (.Name x p) ff X.env (eval (.Name x p) X.env) = eval (.Name x p) X.env := by rfl) : PE X (.Attribute (.Name x p) ff pos) (le g W (dC (.int i))) := by
  obtain ⟨mc, t, rd, fc⟩ := T
  refine pe_imp (ClX.pe_cval (pe_glob (v := .ref (g.ca cl)) hg hm rfl hd) hb) fun σ H Q ⟨Δ, O, P, E, F, hT, sr, w, hv, hx⟩ => ?_
  exact ⟨g.ca cl, mc, .int i, .int i t, rfl, by rw [hK]; exact rd, by rw [hK]; exact ⟨fc, ⟨t, rfl⟩⟩, hv.now (d := .int i) hT w (Rep.int_iff.mpr rfl)⟩
/-! ## for sign in text -/
def dItS (Ta : DE) : DA := fun Δ O P E => Ta Δ O (fun d O1 => match d with | .str z => P (z.cps.toList.map fun c => .str ⟨#[c]⟩) O1 | _ => False) E
theorem gives_str {F : Hp} (z : Str) : Gives g F (Its z) (z.cps.toList.map fun c => D.str ⟨#[c]⟩) := by
  refine ⟨fun i d F' O H q s w => ?_, fun i F' O H q s w => by show z.cps.size ≤ i; simpa using q⟩
  rw [List.getElem?_map] at q
  cases e : z.cps.toList[i]? with
  | none => rw [e] at q; cases q
  | some c =>
    rw [e] at q
    cases q
    have hi : i < z.cps.size := by
      have := (List.getElem?_eq_some_iff.mp e).1
      simpa using this
    refine ⟨hi, fun x H' ⟨eH, c', ec, ex⟩ => ⟨F', Same.refl F', by rw [eH]; exact w, ?_⟩⟩
    rw [ex, Rep.str_iff]
    have : z.cps[i]? = some c := by simpa using e
    rw [this] at ec
    cases ec
    rfl
theorem qi_str {tg : Expr} (ha : PE X a (le g W Ta)) : PI X tg a (li g W (dItS Ta)) := by
  refine pi_imp (pi_str ha) fun σ H R h => ?_
  obtain ⟨Δ, O, P, E, F, hT, sr, w, hR, hx⟩ := h
  refine le_bind hT sr w hx fun d O1 v F1 H1 hT1 s1 sr1 w1 rx hx1 => ?_
  cases d with
  | str z => exact ⟨z, Rep.str_iff.mp rx, hR _ _ _ _ _ hT1 s1 w1 (gives_str z)⟩
  | _ => exact hT1.elim
end
section
variable {Δ : Sl} {O : Sto} {P : KD} {E : KX} {Ta : DE} {R Rk : DA} {n m : Nat} {idx : List Nat} {S : DSp} {cl : Cl} {PA : List D → Sto → Prop}
theorem e_callK : dCallK n m idx S R Rk Δ O P E = R Δ O (fun ds O1 => Rk Δ O1 (fun es O2 => ds.length = n ∧ es.length = m ∧ S (ds ++ pick idx es) O2 P E) E) E := propext Iff.rfl
theorem e_makeKw : dMakeKw cl n m idx S R Rk Δ O P E = R Δ O (fun ds O1 => Rk Δ O1 (fun es O2 => ds.length = n ∧ es.length = m ∧ mkK cl S (ds ++ pick idx es) O2 P E) E) E := propext Iff.rfl
theorem e_inK {ws : List Str} : dInK ws Ta Δ O P E = Ta Δ O (fun d O1 => match d with | .str z => P (.bl (decide (z ∈ ws))) O1 | _ => False) E := propext Iff.rfl
theorem e_itS : dItS Ta Δ O PA E = Ta Δ O (fun d O1 => match d with | .str z => PA (z.cps.toList.map fun c => .str ⟨#[c]⟩) O1 | _ => False) E := propext Iff.rfl
end
section
variable {g : Gm} {P : Program} {w : World} {K : PySem.W.Frag} {mg : Str → Option Value} {base : Heap} {N ps : List Str} {x qual : Str} {st : Stmt} {f cc cda D : Addr} {fd : FuncData} {file : Str} {k n : Nat} {S : DSp} {T : DS} {ks : List Str} {idx : List Nat}
/-- a def called with keywords -/
theorem fnFK (Fn : Fun K x qual st f fd) (Sc : FnScope N ps (defScope st)) (body : BodyOk g P w K mg base k N qual st T) (pure : Pure N ps.length S T)
    (hb : ∀ (kV doc pm : Value) (an : Option Addr) (cdv ct : Value) (us ws : List Value), us.length = n → ws.length = ks.length → bindArgs (PySem.W.fnOf x qual (defArgs st) (defBody st) (defScope st) .none kV doc pm an cdv ct) ⟨us, ks.zip ws⟩ = Pure.pure (ps.zip (us ++ pick idx ws))) : FNK g P w K mg base (k + 1) f n ks idx S := by
  obtain ⟨oc, od, kV, doc, pm, an, cdv, ct, osl, rfl, lk, hcd⟩ := Fn.ex
  exact fn_FNK (fn_okF Fn Sc (fun ds O P E h => (pure ds O P E h).1) (body f) fun ds O P E h => (pure ds O P E h).2) (hb kV doc pm an cdv ct)
theorem fnSK (F : FunS K x qual st f fd cc cda D file) (Sc : NdefX.NScope N ps ["__class__"] (defScope st)) (body : BodyOkS g P w K mg base k N x qual st f cc cda T) (pure : Pure N ps.length S T) (hN : ps.length + 1 ≤ N.length)
    (hb : ∀ (kV doc pm : Value) (an : Option Addr) (ct : Value) (us ws : List Value), us.length = n → ws.length = ks.length → bindArgs (PySem.W.ksFn x qual (defArgs st) (defBody st) (defScope st) .none kV doc pm an (.ref cda) ct cc) ⟨us, ks.zip ws⟩ = Pure.pure (ps.zip (us ++ pick idx ws))) : FNK g P w K mg base (k + 1) f n ks idx S := by
  obtain ⟨oc, od, kV, doc, pm, an, ct, osl, rfl, lk⟩ := F.ex
  exact fn_FNK (fn_okS F Sc body pure hN) (hb kV doc pm an ct)
end
end G

set_option Elab.async false
set_option linter.all false
set_option maxRecDepth 100000
set_option maxHeartbeats 4000000
namespace G
open PySem L2
/-! ## text[lo:hi], an owned copy list(x) -/
def dSliceS (T : DE) (L U : DO) : DE := fun Δ O P E => T Δ O (fun d O1 => L Δ O1 (fun l O2 => U Δ O2 (fun u O3 => match d with
  | .str z => z.length ≤ sizeLine ∧ P (.str (cutS z l u)) O3
  | _ => False) E) E) E
def fListO : BC := fun ds O P => match ds with | [d] => (match seqOf O d with | some es => ∀ p, freshC O p → P (.ptr p) ((p, .lst es) :: O) | none => False) | _ => False
section
variable {g : Gm} {X : Cx} {W : WX} {pos pos' p p2 : Pos} {a b c e : Expr} {es : List Expr} {R : DA} {Ta Tb : DE} {k j : Nat} {x : Str}
end
section
variable {Δ : Sl} {O : Sto} {P : KD} {E : KX} {Ta : DE} {L U : DO}
theorem e_sliceS : dSliceS Ta L U Δ O P E = Ta Δ O (fun d O1 => L Δ O1 (fun l O2 => U Δ O2 (fun u O3 => match d with
  | .str z => z.length ≤ sizeLine ∧ P (.str (cutS z l u)) O3
  | _ => False) E) E) E := propext Iff.rfl
theorem f_listOL {ds : List D} : fListO [.lst ds] O P = (∀ p, freshC O p → P (.ptr p) ((p, .lst ds) :: O)) := propext Iff.rfl
theorem f_listOT {ds : List D} : fListO [.tup ds] O P = (∀ p, freshC O p → P (.ptr p) ((p, .lst ds) :: O)) := propext Iff.rfl
end
end G

set_option Elab.async false
set_option linter.all false
set_option maxRecDepth 100000
set_option maxHeartbeats 4000000
namespace G
open PySem L2
/-! ## for k in d: a dict that is let go -/
def dItD (T : DE) : DA := fun Δ O P E => T Δ O (fun d O1 => match d with | .dic ks _ => P (ks.map kD) O1 | _ => False) E
section
variable {g : Gm} {X : Cx} {W : WX} {pos pos' p p2 : Pos} {a b c e : Expr} {es : List Expr} {R : DA} {Ta Tb : DE} {k j : Nat} {x : Str}
theorem gives_keys {F : Hp} {p : Addr} {od : Obj} {vs : List V} {ks : List Key} (h : F p = some (.frz od (.dK (zipK ks vs)))) (hl : ks.length = vs.length) : Gives g F (Itk p od (zipK ks vs)) (ks.map kD) := by
  have hz : (zipK ks vs).length = ks.length := by unfold zipK; rw [List.length_zip]; omega
  refine ⟨fun i d F' O H q s w => ?_, fun i F' O H q s w => ⟨w.same _ _ (s _ _ h), by rw [hz]; simpa using q⟩⟩
  rw [List.getElem?_map] at q
  cases ek : ks[i]? with
  | none => rw [ek] at q; cases q
  | some k =>
    rw [ek] at q
    cases q
    have hi : i < ks.length := (List.getElem?_eq_some_iff.mp ek).1
    refine ⟨⟨w.same _ _ (s _ _ h), by rw [hz]; exact hi⟩, fun x H' ⟨eH, k', v', ekv, ex⟩ => ⟨F', Same.refl F', by rw [eH]; exact w, ?_⟩⟩
    unfold zipK at ekv
    rw [List.getElem?_zip_eq_some] at ekv
    rw [ek] at ekv
    cases ekv.1
    rw [ex]
    show Rep g F' (kD k') (kV k')
    cases k' with
    | inl i => exact rint
    | inr i => exact Rep.str_iff.mpr rfl
theorem qi_keys {tg : Expr} (ha : PE X a (le g W Ta)) : PI X tg a (li g W (dItD Ta)) := by
  refine pi_imp (pi_keys ha) fun σ H R h => ?_
  obtain ⟨Δ, O, P, E, F, hT, sr, w, hR, hx⟩ := h
  refine le_bind hT sr w hx fun d O1 v F1 H1 hT1 s1 sr1 w1 rx hx1 => ?_
  cases d with
  | dic ks ds =>
    obtain ⟨p, od, vs, rfl, h1, h2, h3⟩ := Rep.dic_iff.mp rx
    exact ⟨p, od, rfl, .inl ⟨_, w1.same _ _ h1, hR _ _ _ _ _ hT1 s1 w1 (gives_keys h1 (by rw [h2, h3.length]))⟩⟩
  | _ => exact hT1.elim
end
section
variable {Δ : Sl} {O : Sto} {E : KX} {Ta : DE} {PA : List D → Sto → Prop}
theorem e_itD : dItD Ta Δ O PA E = Ta Δ O (fun d O1 => match d with | .dic ks _ => PA (ks.map kD) O1 | _ => False) E := propext Iff.rfl
end
/-! ## an owned thing is let go where it stands: in variables and in fields -/
def subD (a : Addr) (x : D) : D → D
  | .ptr b => if b = a then x else .ptr b
  | d => d
def subCell (a : Addr) (x : D) : Cell → Cell
  | .lst ds => .lst (ds.map (subD a x))
  | .ins c fs ds => .ins c fs (ds.map (subD a x))
  | .dic ks ds => .dic ks (ds.map (subD a x))
  | .box => .box
def subSto (a : Addr) (x : D) (O : Sto) : Sto := O.map fun q => (q.1, subCell a x q.2)
def subSl (a : Addr) (x : D) (Δ : Sl) : Sl := Δ.map (Option.map (subD a x))
section
variable {g : Gm} {F : Hp} {a : Addr} {x : D}
theorem Rep.subst (hx : Rep g F x (.ref a)) {d : D} {v : V} (h : Rep g F d v) : Rep g F (subD a x d) v := by
  cases d with
  | ptr b =>
    simp only [subD]
    split
    · rename_i e
      subst e
      rw [Rep.ptr_iff.mp h]
      exact hx
    · exact h
  | _ => exact h
theorem Reps.subst (hx : Rep g F x (.ref a)) : ∀ {ds : List D} {vs : List V}, Reps g F ds vs → Reps g F (ds.map (subD a x)) vs
  | [], vs, h => h
  | d :: ds, vs, h => by
    obtain ⟨v, r, rfl, h1, h2⟩ := Reps.cons_iff.mp h
    exact Reps.cons (Rep.subst hx h1) (Reps.subst hx h2)
theorem CRep.subst (hx : Rep g F x (.ref a)) {c : Cell} {o : HO} (h : CRep g F c o) : CRep g F (subCell a x c) o := by
  cases c with
  | lst ds => cases o <;> first | exact Reps.subst hx (show Reps g F ds _ from h) | exact h.elim
  | ins c fs ds =>
    cases o with
    | ins C dx vfs =>
      obtain ⟨h1, h2, vs, h3, h4⟩ := h
      exact ⟨h1, by rw [List.length_map]; exact h2, vs, h3, Reps.subst hx h4⟩
    | _ => exact h.elim
  | dic ks ds =>
    cases o with
    | dK kvs =>
      obtain ⟨h2, vs, h3, h4⟩ := h
      exact ⟨by rw [List.length_map]; exact h2, vs, h3, Reps.subst hx h4⟩
    | _ => exact h.elim
  | box => exact h
theorem SRel.subst {σ : St} {Δ : Sl} (hx : Rep g F x (.ref a)) (h : SRel g F σ Δ) : SRel g F σ (subSl a x Δ) := by
  refine ⟨by unfold subSl; rw [List.length_map]; exact h.1, fun i d q => ?_⟩
  unfold subSl at q
  rw [List.getElem?_map] at q
  cases e : Δ[i]? with
  | none => rw [e] at q; cases q
  | some o =>
    cases o with
    | none => rw [e] at q; cases q
    | some d' =>
      rw [e] at q
      cases q
      obtain ⟨v, h1, h2⟩ := h.2 i d' e
      exact ⟨v, h1, Rep.subst hx h2⟩
theorem Wd.subst {O : Sto} {H : Hp} (hx : Rep g F x (.ref a)) (w : Wd g F O H) : Wd g F (subSto a x O) H := by
  refine ⟨w.same, ?_, fun q hq => ?_⟩
  · have e : (subSto a x O).map (·.1) = O.map (·.1) := by unfold subSto; rw [List.map_map]; rfl
    rw [e]
    exact w.nd
  · unfold subSto at hq
    obtain ⟨q', h1, rfl⟩ := List.mem_map.mp hq
    obtain ⟨h2, o, h3, h4⟩ := w.cel q' h1
    exact ⟨h2, o, h3, CRep.subst hx h4⟩
end
theorem upd_eq {H : Hp} {q : Addr} {o : HO} (h : H q = some o) : upd H q o = H := by
  funext b
  by_cases z : b = q
  · subst z; rw [upd_same, h]
  · rw [upd_ne z]
/-- behind the statement an owned thing is let go where it stands: in the cell at q -/
def meltK (K : Sl → Sto → Prop) : Sl → Sto → Prop := fun Δ O => ∃ a c x q cq, getC O a = some c ∧ frzD c = some x ∧ getC (delC O a) q = some cq ∧ K Δ (setC (delC O a) q (subCell a x cq))
def dMelt (T : DS) : DS := fun D Δ O => T { D with nx := meltK D.nx } Δ O
section
variable {g : Gm} {X : Cx} {W : WX} {st : Stmt} {T : DS}
theorem Wd.meltC {F : Hp} {O : Sto} {H : Hp} {a q : Addr} {x : D} {cq : Cell} (w : Wd g F O H) (hx : Rep g F x (.ref a)) (h : getC O q = some cq) : Wd g F (setC O q (subCell a x cq)) H := by
  obtain ⟨h2, o, h3, h4⟩ := w.get h
  have z := w.set h (c' := subCell a x cq) (o := o) (CRep.subst hx h4)
  rwa [upd_eq h3] at z
def tLkN (t : TS) : TS := fun D σ H => t ⟨fun σ' H' => D.nx σ' H' ∨ ∃ d kvs, H' d = some (.dK kvs) ∧ ∀ od, D.nx σ' (upd H' d (.frz od (.dK kvs))), D.rt, D.bk, D.ct⟩ σ H
theorem ps_lkN {t : TS} (h : PS X st t) : PS X st (tLkN t) := ⟨fun pins s σ H D I hq => thn (h.run pins s σ H _ I hq) fun f s1 q => by
  cases f with
  | next =>
    obtain ⟨σ', H', I2, q⟩ := q
    rcases q with q | ⟨d, kvs, hd, q⟩
    · exact ⟨σ', H', I2, q⟩
    · obtain ⟨od, I3⟩ := I2.lock hd True.intro
      exact ⟨σ', _, I3, q od⟩
  | brk => exact q
  | cont => exact q
  | ret v => exact q⟩
theorem qs_melt (h : PS X st (ls g W T)) : PS X st (ls g W (dMelt T)) := by
  refine ps_imp (ps_lkN h) fun E σ H ⟨D, Δ, O, F, hT, sr, w, ho⟩ => ?_
  refine ⟨_, Δ, O, F, hT, sr, w, fun Δ1 O1 F1 σ1 H1 hm s1 sr1 w1 => ?_, ho.rt, ho.bk, ho.ct, ho.xc⟩
  obtain ⟨a, c, x, q, cq, ec, ed, eq, hK⟩ := hm
  cases ek : c.isDic with
  | false =>
    obtain ⟨o, h1, hc, s2, w2⟩ := w1.freeze ec
    have hx := frz_rep ed hc (w1.get ec).1 ek
    exact .inl (ho.nx _ _ _ _ _ hK (s1.trans s2) (sr1.mono s2) (w2.meltC hx eq))
  | true =>
    cases c with
    | dic ks ds =>
      cases ed
      obtain ⟨vs, h1, h2⟩ := w1.freezeL ec
      exact .inr ⟨a, _, h1, fun od => ho.nx _ _ _ _ _ hK (s1.trans (h2 od).1) (sr1.mono (h2 od).1) ((h2 od).2.1.meltC (h2 od).2.2 eq)⟩
    | _ => cases ek
theorem e_melt {En : DEnds} {Δ : Sl} {O : Sto} : dMelt T En Δ O = T { En with nx := meltK En.nx } Δ O := propext Iff.rfl
theorem melt {K : Sl → Sto → Prop} {Δ : Sl} {O : Sto} (a q : Addr) {c cq : Cell} {x : D} (h1 : getC O a = some c) (h2 : frzD c = some x) (h3 : getC (delC O a) q = some cq) (h : K Δ (setC (delC O a) q (subCell a x cq))) : meltK K Δ O := ⟨a, c, x, q, cq, h1, h2, h3, h⟩
end
end G

set_option Elab.async false
set_option linter.all false
set_option maxRecDepth 100000
set_option maxHeartbeats 4000000
namespace G
open PySem L2
/-! ## f(*x, k = v) -/
section
open PySem.Calls PyProof.Rows
variable {M : Model} {A : Around} {E : Value → Shared → Prop} {s : Shared}
theorem ks_loneK {f : Value} {x : Sem Value} {pos : Pos} {kws : List (Option Str × Sem Value)} {Q : Args → Shared → Prop} (hall : kws.all (·.1.isSome) = true)
    (h : wpAny M A x (fun v s₁ => wpAny M A (evalAll (kws.map (·.2))) (fun ks s₂ => PySem.W.StarOf M A E v (fun vs s₃ => Q ⟨vs, (kws.filterMap (·.1)).zip ks⟩ s₃) s₂) E s₁) E s) :
    wpAny M A (evalArgs f true [(true, (do let v ← x; standAt pos; pure v))] kws) Q E s := by
  unfold evalArgs
  refine wpAny_bind (wpAny_bind (wpAny_mono h (fun v s₁ h₁ => wpAny_bind (wpAny_standAt (wpAny_pure ?_))) fun _ _ x => x))
  refine wpAny_holding ?_
  simp only [hall, if_true]
  refine wpAny_bind (wpAny_mono h₁ (fun ks s₂ h₂ => ?_) fun _ _ x => x)
  unfold PySem.W.StarOf at h₂
  refine wpAny_bind (wpAny_bind (wpAny_mono h₂ (fun b s₃ h₃ => ?_) fun _ _ x => x))
  obtain ⟨rfl, h₃⟩ := h₃
  have z := wpAny_holding (vs := List.map (fun x => x.snd) ((List.filterMap (fun x => x.fst) kws).zip ks)) (wpAny_mono h₃ (fun vs s₄ h₄ => (wpAny_pure h₄ : wpAny M A (pure (⟨vs, (List.filterMap (fun x => x.fst) kws).zip ks⟩ : Args)) Q E s₄)) fun _ _ x => x)
  try simp only [Bool.false_eq_true, if_false]
  exact z
theorem ks_callK {f : Value} {first : List Value} {pos : Pos} {Q : Value → Shared → Prop} {P : Heap → Prop} {args : List (Bool × Sem Value)} {kws : List (Option Str × Sem Value)} (hst : args.any (·.1) = true)
    (hk : ∀ h, P h → ∃ k, (k = Keeper.frame ∨ k = Keeper.machine ∨ k = Keeper.boundFrame) ∧ PySem.W.Looks M h (keeperOf f) k)
    (h : wpAny M A (evalArgs f true args kws) (fun a s₁ => P s₁.heap ∧ wpAny M A (call f (first ++ a.pos) a.kw) Q E s₁) E s) : wpAny M A (callWith pos f first args kws) Q E s := by
  unfold callWith
  refine wpAny_bind (wpAny_holding (wpAny_mono h (fun a s₁ h₁ => wpAny_bind (wpAny_standAt ?_)) fun _ _ x => x))
  obtain ⟨k, hk', L⟩ := hk _ h₁.1
  simp only [hst, Bool.true_or]
  refine wpAny_bind (L.here ?_)
  have tail : ∀ {t : Sem Value}, wpAny M A t Q E s₁ → wpAny M A (t >>= fun r => holding [r] point >>= fun _ => pure r) Q E s₁ :=
    fun ht => wpAny_bind (wpAny_mono ht (fun r s₂ hr => wpAny_bind (wpAny_holding (wpAny_point (wpAny_pure hr)))) fun _ _ x => x)
  have marked (mk : Value) : wpAny M A (callMarked mk f (first ++ a.pos) a.kw) Q E s₁ := by unfold callMarked; exact Calls.wpAny_keep h₁.2
  rcases hk' with rfl | rfl | rfl <;> dsimp only <;> first | exact tail (marked _) | exact tail (wpAny_operating h₁.2)
end
/-! ## a def with a star parameter and keyword-only ones -/
def FNV (g : Gm) (P : Program) (w : World) (K : PySem.W.Frag) (mg : Str → Option Value) (base : Heap) (k : Nat) (f : Addr) (ks : List Str) (S : DSp) : Prop :=
  ∀ (A : Around) (outer : List Env) (s : Shared) (H : Hp) (us ws : List Value) (vs zs : List V) (Q : VK) (E : XK), Room k A → Env0 P w K mg base A outer s H → Vals vs us → Vals zs ws → zs.length = ks.length → toSp g S (zs ++ vs) H Q E →
    codeAny (model P w) A (.call (.ref f) ⟨us, ks.zip ws⟩) (CR (L2.CX P w) outer P w H s Q E) s
theorem FNV.mono {g : Gm} {P : Program} {w : World} {K : PySem.W.Frag} {mg : Str → Option Value} {base : Heap} {j k : Nat} {f : Addr} {ks : List Str} {S : DSp} (h : FNV g P w K mg base j f ks S) (hj : j ≤ k) : FNV g P w K mg base k f ks S :=
  fun A outer s H us ws vs zs Q E hr => h A outer s H us ws vs zs Q E (hr.mono hj)
/-- m keywords, then n parameters, then the rest as a tuple -/
def starV (n m : Nat) (S : DSp) : DSp := fun ds O P E => m + n ≤ ds.length ∧ ds.length ≤ 100000 ∧ S ((ds.drop m).take n ++ ds.take m ++ [.tup ((ds.drop m).drop n)]) O P E
/-- .. the keyword is () -/
def starD (n : Nat) (S : DSp) : DSp := fun ds O P E => n ≤ ds.length ∧ ds.length ≤ 100000 ∧ S (ds.take n ++ [.tup []] ++ [.tup (ds.drop n)]) O P E
section
variable {g : Gm} {P : Program} {w : World} {K : PySem.W.Frag} {mg : Str → Option Value} {base : Heap} {x qual : Str} {st : Stmt} {f : Addr} {N ps ks : List Str} {pv kn : Str} {k n : Nat} {S : DSp} {T : DS} {oc dV kV doc pm cdv ct : Value} {od an : Option Addr} {osl : Array (Option Value)}
theorem pureB (pure : Pure N n S T) {vs : List V} {H : Hp} {Q : VK} {E : XK} (h : toSp g S vs H Q E) : ls g (wE E) T { nx := fun _ H' => Q .non H', rt := Q } (start N vs) H := by
  obtain ⟨F, O, ds, P', EX, h1, h2, h3, h4, h5⟩ := h
  obtain ⟨O', w', hT⟩ := (pure ds O P' EX h3).2 g F H h2
  refine ⟨endsD P' EX, startD N ds, O', F, hT, srel_start h1, w', ⟨fun Δ O1 F1 σ H1 ⟨O2, wk, q⟩ s1 sr1 w1 => ?_, fun d O1 v F1 H1 ⟨O2, wk, q⟩ s1 w1 r1 => ?_, fun _ _ _ _ _ q => q.elim, fun _ _ _ _ _ q => q.elim, fun y Δ O1 cls dd F1 σ H1 ⟨O2, wk, q⟩ s1 sr1 w1 r1 => ?_⟩⟩
  · exact h4 _ _ _ _ _ q s1 (wk _ _ _ w1) (Rep.non_iff.mpr rfl)
  · exact h4 _ _ _ _ _ q s1 (wk _ _ _ w1) r1
  · exact h5 _ _ _ _ _ _ q s1 (wk _ _ _ w1) r1
theorem fn_starV (lk : K.lookup f = some ⟨oc, od, .func (PySem.W.fnOf x qual (defArgs st) (defBody st) (defScope st) dV kV doc pm an cdv ct), osl⟩) (hcd : PySem.W.codeIn K cdv qual = true) (Sc : FnScope N (ps ++ ks ++ [pv]) (defScope st)) (body : BodyOk g P w K mg base k N qual st T) (pure : Pure N (ps.length + ks.length + 1) S T)
    (hb : ∀ us rest ws : List Value, us.length = ps.length → ws.length = ks.length → bindArgs (PySem.W.fnOf x qual (defArgs st) (defBody st) (defScope st) dV kV doc pm an cdv ct) ⟨us ++ rest, ks.zip ws⟩ = (newTuple rest >>= fun t => Pure.pure ((ps ++ ks).zip (us ++ ws) ++ [(pv, t)]))) :
    FNV g P w K mg base (k + 1) f ks (starV ps.length ks.length S) := by
  intro A outer s H us ws vs zs Q E hr e0 r rz l2 h
  obtain ⟨F, O, ds, P', EX, h1, h2, ⟨h3, h3', h4⟩, h5, h6⟩ := h
  have hl := h1.length
  have hl' : zs.length + vs.length = ds.length := by rw [hl, List.length_append]
  obtain ⟨u1, u2, eu, r1, r2⟩ := StX.vals_split (ws := vs.take ps.length) (rest := vs.drop ps.length) (us := us) (by rw [List.take_append_drop]; exact r)
  subst eu
  have hl1 : u1.length = ps.length := by rw [← r1.length, List.length_take]; omega
  have hw : ws.length = ks.length := by rw [← rz.length]; exact l2
  have hz : (vs.drop ps.length).length ≤ sizeLine := by rw [List.length_drop, sizeLine_eq]; omega
  have hl2 : u2.length ≤ sizeLine := by rw [← r2.length]; exact hz
  have hn : H s.heap.objs.size = Option.none := e0.hok.fresh (Nat.le_refl _)
  have ed : ds.drop ks.length = ds.drop zs.length := by rw [l2]
  have r0 : Reps g F (ds.take ks.length) zs := by
    have z := h1.take ks.length
    have e : (zs ++ vs).take ks.length = zs := by rw [← l2]; exact List.take_left
    rwa [e] at z
  have rv : Reps g F (ds.drop ks.length) vs := by
    have z := h1.drop ks.length
    rwa [← l2, List.drop_left, l2] at z
  refine StX.run_bnd lk hcd Sc hr e0 (G := fun xs H2 => ∃ p, H p = Option.none ∧ xs = vs.take ps.length ++ zs ++ [V.ref p] ∧ H2 = upd H p (.tup (vs.drop ps.length))) (fun A' Ex Q' h => ?_) fun s2 H2 xs ⟨p, hp, ex, eH⟩ hr' => ?_
  · rw [hb u1 u2 ws hl1 hw]
    refine wpAny_bind (wpAny_newTuple (wpAny_pure ?_) hl2)
    have new : ObjOk P w (upd H s.heap.objs.size (.tup (vs.drop ps.length))) (s.heap.push ({ cls := .type "tuple", data := .seq u2.toArray } : Obj)) s.heap.objs.size (.tup (vs.drop ps.length)) := ⟨hz, u2, r2, ⟨_, Heap.get?_push_size _ rfl, rfl, _, rfl⟩⟩
    have un := StX.un_laid (fs := frs outer) (s := s) (o := ({ cls := .type "tuple", data := .seq u2.toArray } : Obj)) (u := .tup (vs.drop ps.length)) hn
    have z := h _ _ (vs.take ps.length ++ zs ++ [V.ref s.heap.objs.size]) (u1 ++ ws ++ [Value.ref s.heap.objs.size]) (StX.env0_laid e0 new) un rfl (fun e s' => StX.cxUp outer s H _ _ E e s' un (fun b o q => Heap.get?_push_of_some _ q) rfl) ((r1.append rz).append (.cons rfl .nil))
      (by simp only [List.length_append, List.length_take, List.length_singleton]; omega) ⟨_, hn, rfl, rfl⟩
    rw [List.zip_append (by rw [List.length_append, List.length_append, hl1, hw])] at z
    exact z
  · subst ex eH
    refine ⟨_, body f cdv A outer s2 _ E hr', pureB pure ?_⟩
    have s2' := h2.fsame (o := .tup (vs.drop ps.length)) hp
    exact ⟨_, O, _, P', EX, (((rv.take _).append r0).mono s2').append (Reps.one ((rv.drop _).newT (h2.same.free hp))), h2.frozen hp, h4, h5.mono s2', fun x O' cls dd F' H' q s' w' r' => h6 x O' cls dd F' H' q (s2'.trans s') w' r'⟩
theorem rep_tup0 (hK : K = g.K) {F : Hp} {Ta : Addr} {oT : Obj} {m : Nat} (hT : K.lookup Ta = some oT) (hc : oT.cls = .type "tuple") (hd : oT.data = .seq #[] m) : Rep g F (.tup []) (.ref Ta) :=
  Rep.tup_iff.mpr ⟨Ta, [], rfl, .inr ⟨rfl, .inr ⟨oT, #[], m, by rw [← hK]; exact hT, hc, hd, Nat.zero_le _, .nil⟩⟩, Reps.nil⟩
theorem fn_starD {Dk Ta : Addr} {oT : Obj} {m : Nat} (hK : K = g.K) (lk : K.lookup f = some ⟨oc, od, .func (PySem.W.fnOf x qual (defArgs st) (defBody st) (defScope st) dV kV doc pm an cdv ct), osl⟩) (hcd : PySem.W.codeIn K cdv qual = true) (Sc : FnScope N (ps ++ [kn] ++ [pv]) (defScope st)) (body : BodyOk g P w K mg base k N qual st T) (pure : Pure N n S T)
    (hD : PySem.W.nsIn K Dk kn = some (some (.ref Ta))) (hT : K.lookup Ta = some oT) (hc : oT.cls = .type "tuple") (hd : oT.data = .seq #[] m)
    (hb : ∀ us rest : List Value, us.length = ps.length → ∃ (β γ : Type) (k1 : Option Value → Sem β) (k2 : β → Sem γ) (k3 : γ → Sem (List (Str × Value))) (a : β), bindArgs (PySem.W.fnOf x qual (defArgs st) (defBody st) (defScope st) dV kV doc pm an cdv ct) ⟨us ++ rest, []⟩ = ((nsGet Dk kn >>= k1) >>= k2) >>= k3 ∧ k1 (some (.ref Ta)) = Pure.pure a ∧ (k2 a >>= k3) = (newTuple rest >>= fun t => Pure.pure ((ps ++ [kn]).zip (us ++ [.ref Ta]) ++ [(pv, t)]))) :
    FN g P w K mg base (k + 1) f (starD ps.length S) := by
  intro A outer s H us vs Q E hr e0 r h
  obtain ⟨F, O, ds, P', EX, h1, h2, ⟨h3, h3', h4⟩, h5, h6⟩ := h
  have hl := h1.length
  obtain ⟨u1, u2, eu, r1, r2⟩ := StX.vals_split (ws := vs.take ps.length) (rest := vs.drop ps.length) (us := us) (by rw [List.take_append_drop]; exact r)
  subst eu
  have hl1 : u1.length = ps.length := by rw [← r1.length, List.length_take]; omega
  have hz : (vs.drop ps.length).length ≤ sizeLine := by rw [List.length_drop, sizeLine_eq]; omega
  have hl2 : u2.length ≤ sizeLine := by rw [← r2.length]; exact hz
  have hn : H s.heap.objs.size = Option.none := e0.hok.fresh (Nat.le_refl _)
  have KI : K.In s.heap := e0.mod.kin.keeps fun b o e => (e0.bs b o e).1
  refine StX.run_bnd lk hcd Sc hr e0 (G := fun xs H2 => ∃ p, H p = Option.none ∧ xs = vs.take ps.length ++ [V.ref Ta] ++ [V.ref p] ∧ H2 = upd H p (.tup (vs.drop ps.length))) (fun A' Ex Q' h => ?_) fun s2 H2 xs ⟨p, hp, ex, eH⟩ hr' => ?_
  · obtain ⟨β, γ, k1, k2, k3, a, e1, e2, e3⟩ := hb u1 u2 hl1
    have l1 : PySem.W.Looks (model P w) s.heap (nsGet Dk kn >>= k1) a := (PySem.W.looks_nsIn KI hD).andThen (PySem.W.Looks.of_pure e2)
    rw [e1, bind_assoc]
    refine wpAny_bind (l1.here ?_)
    rw [e3]
    refine wpAny_bind (wpAny_newTuple (wpAny_pure ?_) hl2)
    have new : ObjOk P w (upd H s.heap.objs.size (.tup (vs.drop ps.length))) (s.heap.push ({ cls := .type "tuple", data := .seq u2.toArray } : Obj)) s.heap.objs.size (.tup (vs.drop ps.length)) := ⟨hz, u2, r2, ⟨_, Heap.get?_push_size _ rfl, rfl, _, rfl⟩⟩
    have un := StX.un_laid (fs := frs outer) (s := s) (o := ({ cls := .type "tuple", data := .seq u2.toArray } : Obj)) (u := .tup (vs.drop ps.length)) hn
    have z := h _ _ (vs.take ps.length ++ [V.ref Ta] ++ [V.ref s.heap.objs.size]) (u1 ++ [Value.ref Ta] ++ [Value.ref s.heap.objs.size]) (StX.env0_laid e0 new) un rfl (fun e s' => StX.cxUp outer s H _ _ E e s' un (fun b o q => Heap.get?_push_of_some _ q) rfl) ((r1.append (.cons (show RelV (V.ref Ta) (Value.ref Ta) from rfl) .nil)).append (.cons (show RelV (V.ref s.heap.objs.size) (Value.ref s.heap.objs.size) from rfl) .nil))
      (by simp only [List.length_append, List.length_take, List.length_singleton]; omega) ⟨_, hn, rfl, rfl⟩
    rw [List.zip_append (by rw [List.length_append, List.length_append, hl1] <;> rfl)] at z
    exact z
  · subst ex eH
    refine ⟨_, body f cdv A outer s2 _ E hr', pureB pure ?_⟩
    have s2' := h2.fsame (o := .tup (vs.drop ps.length)) hp
    exact ⟨_, O, _, P', EX, (((h1.take _).append (Reps.one (rep_tup0 hK hT hc hd))).mono s2').append (Reps.one ((h1.drop _).newT (h2.same.free hp))), h2.frozen hp, h4, h5.mono s2', fun x O' cls dd F' H' q s' w' r' => h6 x O' cls dd F' H' q (s2'.trans s') w' r'⟩
end
/-! ## a def with a default at its end -/
def dflS (S : DSp) : DSp := fun ds O P E => S (ds ++ [.tup []]) O P E
section
variable {g : Gm} {P : Program} {w : World} {K : PySem.W.Frag} {mg : Str → Option Value} {base : Heap} {x qual : Str} {st : Stmt} {f : Addr} {N ps ks : List Str} {pv kn : Str} {k n : Nat} {S : DSp} {T : DS} {oc dV kV doc pm cdv ct : Value} {od an : Option Addr} {osl : Array (Option Value)}
theorem fn_okG (lk : K.lookup f = some ⟨oc, od, .func (PySem.W.fnOf x qual (defArgs st) (defBody st) (defScope st) dV kV doc pm an cdv ct), osl⟩) (hcd : PySem.W.codeIn K cdv qual = true) (Sc : FnScope N ps (defScope st)) (body : BodyOk g P w K mg base k N qual st T) (pure : Pure N ps.length S T) :
    FnOk P w K mg base (L2.CX P w) (k + 1) f (PySem.W.fnOf x qual (defArgs st) (defBody st) (defScope st) dV kV doc pm an cdv ct) ps (toSp g S) :=
  fn_of lk hcd Sc (fun vs H Q E h => by
    obtain ⟨F, O, ds, P', EX, h1, h2, h3, _⟩ := h
    rw [← h1.length]
    exact (pure ds O P' EX h3).1) fun A outer s H vs Q E hr h => ⟨_, body f cdv A outer s H E hr, pureB pure h⟩
theorem fn_dflA {Td : Addr} {its : Array Value} {oD : Obj} {m : Nat} (lk : K.lookup f = some ⟨oc, od, .func (PySem.W.fnOf x qual (defArgs st) (defBody st) (defScope st) (.ref Td) kV doc pm an cdv ct), osl⟩) (hcd : PySem.W.codeIn K cdv qual = true) (Sc : FnScope N ps (defScope st)) (body : BodyOk g P w K mg base k N qual st T) (pure : Pure N ps.length S T)
    (hD : K.lookup Td = some oD) (hd : oD.data = .seq its m)
    (hb : ∀ us : List Value, us.length = ps.length → ∃ kk, bindArgs (PySem.W.fnOf x qual (defArgs st) (defBody st) (defScope st) (.ref Td) kV doc pm an cdv ct) ⟨us, []⟩ = seqItems? (.ref Td) >>= kk ∧ kk (some its) = Pure.pure (ps.zip us)) : FN g P w K mg base (k + 1) f S := by
  have F := fn_okG lk hcd Sc body pure
  intro A outer s H us vs Q E hr e0 hv h
  have KI : K.In s.heap := e0.mod.kin.keeps fun b o e => (e0.bs b o e).1
  have hl : us.length = ps.length := by rw [← hv.length]; exact F.len _ _ _ _ h
  obtain ⟨kk, e1, e2⟩ := hb us hl
  exact F.run A outer s H ⟨us, []⟩ us vs Q E hr e0 (L2.BindsTo.of_looks fun M => by rw [e1]; exact looks_items KI hD hd (.of_pure e2)) hv h
theorem fn_dfl1 {Td Ta : Addr} {oD oT : Obj} {m m' : Nat} (hK : K = g.K) (lk : K.lookup f = some ⟨oc, od, .func (PySem.W.fnOf x qual (defArgs st) (defBody st) (defScope st) (.ref Td) kV doc pm an cdv ct), osl⟩) (hcd : PySem.W.codeIn K cdv qual = true) (Sc : FnScope N ps (defScope st)) (body : BodyOk g P w K mg base k N qual st T) (pure : Pure N ps.length S T)
    (hD : K.lookup Td = some oD) (hd : oD.data = .seq #[.ref Ta] m) (hT : K.lookup Ta = some oT) (hc : oT.cls = .type "tuple") (hd' : oT.data = .seq #[] m')
    (hb : ∀ us : List Value, us.length + 1 = ps.length → ∃ kk, bindArgs (PySem.W.fnOf x qual (defArgs st) (defBody st) (defScope st) (.ref Td) kV doc pm an cdv ct) ⟨us, []⟩ = seqItems? (.ref Td) >>= kk ∧ kk (some #[.ref Ta]) = Pure.pure (ps.zip (us ++ [.ref Ta]))) : FN g P w K mg base (k + 1) f (dflS S) := by
  have F := fn_okG lk hcd Sc body pure
  intro A outer s H us vs Q E hr e0 hv h
  have KI : K.In s.heap := e0.mod.kin.keeps fun b o e => (e0.bs b o e).1
  obtain ⟨Fr, O, ds, P', EX, h1, h2, h3, h4, h5⟩ := h
  have h' : toSp g S (vs ++ [V.ref Ta]) H Q E := ⟨Fr, O, ds ++ [.tup []], P', EX, h1.append (Reps.one (rep_tup0 hK hT hc hd')), h2, (show S (ds ++ [.tup []]) O P' EX from h3), h4, h5⟩
  have hl : us.length + 1 = ps.length := by
    have z := F.len _ _ _ _ h'
    rw [List.length_append] at z
    rw [← hv.length]
    exact z
  obtain ⟨kk, e1, e2⟩ := hb us hl
  exact F.run A outer s H ⟨us, []⟩ (us ++ [.ref Ta]) (vs ++ [V.ref Ta]) Q E hr e0 (L2.BindsTo.of_looks fun M => by rw [e1]; exact looks_items KI hD hd (.of_pure e2)) (hv.append (.cons (show RelV (V.ref Ta) (Value.ref Ta) from rfl) .nil)) h'
end
/-! ## cls(*x, k = v), C(x, .., k = v) -/
def dMakeCV (nk : Nat) (tab : List (Cl × DSp)) (Tf Ta : DE) (Rk : DA) : DE := fun Δ O P E => Tf Δ O (fun f O1 => match f with
  | .cls c => (match tabAt tab c with
    | some S => Ta Δ O1 (fun d O2 => Rk Δ O2 (fun es O3 => match seqOf O3 d with | some xs => es.length = nk ∧ mkK c (fun ds => S (es ++ ds)) xs O3 P E | none => False) E) E
    | none => False)
  | _ => False) E
def dMakeKV (cl : Cl) (nk : Nat) (S : DSp) (R Rk : DA) : DE := fun Δ O P E => R Δ O (fun ds O1 => Rk Δ O1 (fun es O2 => es.length = nk ∧ mkK cl (fun ds => S (es ++ ds)) ds O2 P E) E) E
def GCVs (g : Gm) (P : Program) (w : World) (K : PySem.W.Frag) (mg : Str → Option Value) (base : Heap) (k : Nat) (ks : List Str) (tab : List (Cl × DSp)) : Prop := ∀ c S, tabAt tab c = some S → ∃ f, Mk K (g.ca c) f ∧ FNV g P w K mg base k f ks S
section
variable {g : Gm} {X : Cx} {W : WX} {pos pos' p p2 : Pos} {a b c e : Expr} {es : List Expr} {R Rk : DA} {Ta Tb Tf : DE} {k j nk : Nat} {x : Str} {tab : List (Cl × DSp)} {kws : List Keyword} {ks : List Str} {S : DSp} {f : Addr}
theorem mk_spP {cl : Cl} {σ : St} {H1 : Hp} {Q : VK} {P : KD} {E : KX} {F F1 : Hp} {O1 : Sto} {ds es : List D} {vs zs : List V} (h : mkK cl (fun ds => S (es ++ ds)) ds O1 P E)
    (res : Reps g F1 es zs) (rs : Reps g F1 ds vs) (w1 : Wd g F1 O1 H1) (hv : VOk g F P Q) (s1 : Same F F1) (hx : XOk g F1 W σ E) (x dx : Addr) (nx : H1 x = none) (nd : H1 dx = none) (ne : dx ≠ x) :
    toSp g S (zs ++ V.ref x :: vs) (upd (upd H1 dx (.own x)) x (.ins (g.ca cl) dx [])) (fun v H2 => v = .non ∧ Q (.ref x) H2) (fun cls dd H' => W cls dd σ H') := by
  obtain ⟨s2, w2⟩ := wd_made w1 nx nd ne cl
  refine ⟨_, _, _, _, _, (res.mono s2).append (Reps.cons (Rep.ptr_iff.mpr rfl) (rs.mono s2)), w2, h x (w1.fresh nx), fun d O3 v F3 H3 hd s3 w3 rd => ?_, fun y O3 cls dd F3 H3 hE s3 w3 rx => ?_⟩
  · obtain ⟨e, hd⟩ := hd
    subst e
    refine ⟨Rep.non_iff.mp rd, ?_⟩
    split at hd
    · rename_i c' fs ds' eg
      obtain ⟨ob, ho, hc, s4, w4⟩ := w3.freeze eg
      exact hv _ _ _ _ _ hd (s1.trans (s2.trans (s3.trans s4))) w4 (frz_rep rfl hc (w3.get eg).1)
    · exact hd.elim
  · exact hx _ _ _ _ _ _ hE (s2.trans s3) (w3.sub (delC_sub _ _)) rx
theorem run_mkV {C : Addr} {pins : List (Addr × Obj)} {σ : St} {H : Hp} {s : Shared} {Q : VK} {us ws : List Value} {vs zs : List V} (M : Mk X.K C f) (Fn : FNV g X.prog X.w X.K X.mg X.base k f ks S) (hr : Room (k + 1) X.A) (tk : Takes X W) (I : Inv X pins σ H s) (r : Vals vs us) (rz : Vals zs ws) (l2 : zs.length = ks.length)
    (h : ∀ x dx, H x = Option.none → H dx = Option.none → dx ≠ x → toSp g S (zs ++ V.ref x :: vs) (upd (upd H dx (.own x)) x (.ins C dx [])) (fun v H2 => v = .non ∧ Q (.ref x) H2) (fun cls dd H' => W cls dd σ H')) :
    wpAny (model X.prog X.w) X.A (call (.ref C) us (ks.zip ws)) (EP X pins σ Q) X.xe s := by
  have hq := h (s.heap.objs.size + 1) s.heap.objs.size (I.hok.fresh (Nat.le_succ _)) (I.hok.fresh (Nat.le_refl _)) (Nat.ne_of_lt (Nat.lt_succ_self _))
  have I2 := Inv.made (C := C) I
  have r2 : Vals (V.ref (s.heap.objs.size + 1) :: vs) (Value.ref (s.heap.objs.size + 1) :: us) := .cons rfl r
  refine wpAny_call (make_map (f := f) I.kIn M.makes M.init (beq_iff_eq.mp M.fn) (codeAny_mono (Fn _ X.stack _ _ (Value.ref (s.heap.objs.size + 1) :: us) ws _ zs _ _ (hr.make C us (ks.zip ws)) (I2.env0.make C us (ks.zip ws)) r2 rz l2 hq) fun r s' hq' => ?_))
  cases r with
  | error e => exact passAt tk σ pins _ _ e s' I2 hq'
  | ok fl =>
    cases fl with
    | ret u =>
      obtain ⟨v, H', I3, rv, ev, q3⟩ := I2.after hq'
      subst ev
      exact ⟨rv, ⟨V.ref (s.heap.objs.size + 1), H', I3, rfl, q3⟩⟩
    | next => exact False.elim hq'
    | brk => exact False.elim hq'
    | cont => exact False.elim hq'
theorem q_makeCV (M : GCVs g X.prog X.w X.K X.mg X.base k ks tab) (hr : Room j X.A) (tk : Takes X W) (hf : PE X (.Name x p) (le g W Tf)) (ha : PE X e (le g W Ta)) (hkw : PK X kws (la g W Rk)) (hkj : k + 1 ≤ j := by first | decide | omega) (hK : X.K = g.K := by rfl)
    (hall : (backToKw pos (keywordEach kws X.env)).all (·.1.isSome) = true := by rfl) (hks : (backToKw pos (keywordEach kws X.env)).filterMap (·.1) = ks := by rfl)
    (hst : starEach [.Starred e p2] X.env = [(true, eval e X.env)] := by rfl) (hnk : ks.length = nk := by rfl) :
    PE X (.Call (.Name x p) [.Starred e p2] kws pos) (le g W (dMakeCV nk tab Tf Ta Rk)) := by
  subst hnk
  refine ⟨fun pins s σ H Q I h => ?_⟩
  obtain ⟨Δ, O, P, E, F, hT, sr, w, hv, hx⟩ := h
  refine wpAny_Call_Name_kw (thn (hf.run pins s σ H (fun v H1 => ∃ c S, v = .ref (g.ca c) ∧ tabAt tab c = some S ∧ le g W Ta σ H1 fun y H2 => la g W Rk σ H2 fun zs H3 => ∃ q xs, y = .ref q ∧ (SqT g.K H3 q xs ∨ SqL g.K H3 q xs) ∧ zs.length = ks.length ∧ ∀ x dx, H3 x = none → H3 dx = none → dx ≠ x → toSp g S (zs ++ V.ref x :: xs) (upd (upd H3 dx (.own x)) x (.ins (g.ca c) dx [])) (fun v H2 => v = .non ∧ Q (.ref x) H2) fun cls dd H' => W cls dd σ H') I ?_) fun u s1 ⟨v, H1, I1, r1, c, S, ev, eS, q1⟩ => ?_)
  · refine le_bind hT sr w hx fun d O1 v F1 H1 hT1 s1 sr1 w1 rx hx1 => ?_
    cases d with
    | cls c =>
      have hT1 : (match tabAt tab c with | some S => Ta Δ O1 (fun d O2 => Rk Δ O2 (fun es O3 => match seqOf O3 d with | some xs => es.length = ks.length ∧ mkK c (fun ds => S (es ++ ds)) xs O3 P E | none => False) E) E | none => False) := hT1
      split at hT1
      · rename_i S eS
        refine ⟨c, S, Rep.cls_iff.mp rx, eS, ?_⟩
        refine le_bind hT1 sr1 w1 hx1 fun d O2 vd F2 H2 hT2 s2 sr2 w2 rd hx2 => la_bind hT2 sr2 w2 hx2 fun es O3 zs F3 H3 hT3 s3 sr3 w3 rz hx3 => ?_
        split at hT3
        · rename_i xs exs
          obtain ⟨q, us, rfl, h1, h2⟩ := seq_of exs (rd.mono s3) w3
          obtain ⟨l2, hS⟩ := hT3
          exact ⟨q, us, rfl, h1, by rw [← rz.length]; exact l2, fun x dx nx nd ne => mk_spP hS rz h2 w3 hv (s1.trans (s2.trans s3)) hx3 x dx nx nd ne⟩
        · exact hT3.elim
      · exact hT1.elim
    | _ => exact hT1.elim
  · subst ev
    obtain rfl : u = Value.ref (g.ca c) := r1
    obtain ⟨f, mk, Fn⟩ := M c S eS
    rw [hst]
    refine ks_callK (P := fun h => X.K.In h) rfl (PySem.W.keeps_K mk.kp) (ks_loneK hall (thn (ha.run pins s1 σ H1 _ I1 q1) fun vy s2 ⟨y, H2, I2, ry, q2⟩ => thn (hkw.run pos pins s2 σ H2 _ I2 q2) fun ws s3 ⟨zs, H3, I3, rz, q, xs, ey, hxs, l2, hq⟩ => ?_))
    subst ey
    obtain rfl : vy = Value.ref q := ry
    refine StX.star_any I3 (by rw [hK]; exact hxs) fun us s4 I4 rv => ⟨I4.kIn, ?_⟩
    rw [hks]
    exact run_mkV mk Fn (hr.mono hkj) tk I4 rv rz l2 hq
end
section
variable {Δ : Sl} {O : Sto} {P : KD} {E : KX} {Ta Tf : DE} {R Rk : DA} {nk : Nat} {tab : List (Cl × DSp)} {S : DSp} {cl : Cl}
theorem e_makeKV : dMakeKV cl nk S R Rk Δ O P E = R Δ O (fun ds O1 => Rk Δ O1 (fun es O2 => es.length = nk ∧ mkK cl (fun ds => S (es ++ ds)) ds O2 P E) E) E := propext Iff.rfl
theorem e_makeCV : dMakeCV nk tab Tf Ta Rk Δ O P E = Tf Δ O (fun f O1 => match f with
  | .cls c => (match tabAt tab c with
    | some S => Ta Δ O1 (fun d O2 => Rk Δ O2 (fun es O3 => match seqOf O3 d with | some xs => es.length = nk ∧ mkK c (fun ds => S (es ++ ds)) xs O3 P E | none => False) E) E
    | none => False)
  | _ => False) E := propext Iff.rfl
end
section
variable {g : Gm} {P : Program} {w : World} {K : PySem.W.Frag} {mg : Str → Option Value} {base : Heap} {ks : List Str}
theorem gcvs_nil {k : Nat} : GCVs g P w K mg base k ks [] := fun c S h => by simp [tabAt] at h
theorem gcvs_cons {k : Nat} {cl : Cl} {f : Addr} {S : DSp} {r : List (Cl × DSp)} (h1 : Mk K (g.ca cl) f) (h2 : FNV g P w K mg base k f ks S) (t : GCVs g P w K mg base k ks r) : GCVs g P w K mg base k ks ((cl, S) :: r) := fun c S' e => by
  simp only [tabAt] at e
  by_cases q : c = cl
  · rw [if_pos q] at e
    cases e
    rw [q]
    exact ⟨f, h1, h2⟩
  · rw [if_neg q] at e
    exact t c S' e
end
end G

set_option Elab.async false
set_option linter.all false
set_option maxRecDepth 100000
set_option maxHeartbeats 4000000
namespace G
open PySem L2
/-! ## x not in an own thing -/
section
variable {g : Gm} {X : Cx} {W : WX} {pos pos' p apos : Pos} {a b c o : Expr} {es : List Expr} {Ta Tb : DE} {R : DA} {k : Nat} {f : Addr} {S : DSp} {x m : Str} {tab : List (Cl × DSp)}
theorem e_notInOwn {Δ : Sl} {O : Sto} {P : KD} {E : KX} : dNotInOwn tab Ta Tb Δ O P E = Ta Δ O (fun x O1 => Tb Δ O1 (fun y O2 => match clsOf O2 y with
  | some c => (match tabAt tab c with | some S => S [y, x] O2 (boolK fun k O3 => P (.bl (!k)) O3) E | none => False)
  | none => False) E) E := propext Iff.rfl
end
/-! ## == of owned lists; an owned list(d) -/
section
variable {g : Gm} {X : Cx}
theorem op_neO (hu : X.A.units + 64 < cLine) (hK : X.K = g.K := by rfl) : OpR X (compareOp .NotEq) (rNeD g.K) := by
  rw [← hK]
  exact op_neD hu
end
def fListDO : BC := fun ds O P => match ds with | [d] => (match dicOf O d with | some t => ∀ p, freshC O p → P (.ptr p) ((p, .lst (t.1.map kD)) :: O) | none => False) | _ => False
section
variable {g : Gm}
theorem f_listDO {O : Sto} {P : KD} {d : D} : fListDO [d] O P = (match dicOf O d with | some t => ∀ p, freshC O p → P (.ptr p) ((p, .lst (t.1.map kD)) :: O) | none => False) := propext Iff.rfl
theorem pys_strs : ∀ xs : List Str, pys (xs.map D.str) = some (xs.map PyData.str)
  | [] => rfl
  | x :: xs => by simp only [List.map_cons, pys, py, pys_strs xs]
theorem lay_strs : ∀ xs : List Str, (∀ z ∈ xs, PyData.strOk z = true) → PyData.canLayAll0 (xs.map PyData.str) = true
  | [], _ => rfl
  | x :: xs, h => by
    simp only [List.map_cons, PyData.canLayAll0, PyData.canLay0, Bool.and_eq_true]
    exact ⟨h x (by simp), lay_strs xs fun z hz => h z (by simp [hz])⟩
theorem dep_strs : ∀ xs : List Str, PyData.depthAll (xs.map PyData.str) ≤ 1
  | [] => by simp [PyData.depthAll]
  | x :: xs => by
    have := dep_strs xs
    simp only [List.map_cons, PyData.depthAll, PyData.depth]
    omega
theorem eqv_strs : ∀ xs ys : List Str, PyData.eqvAll (xs.map PyData.str) (ys.map PyData.str) = decide (xs = ys)
  | [], [] => rfl
  | [], y :: ys => by simp [PyData.eqvAll]
  | x :: xs, [] => by simp [PyData.eqvAll]
  | x :: xs, y :: ys => by
    simp only [List.map_cons, PyData.eqvAll, eqv_strs xs ys, PyData.eqv, List.cons.injEq]
    rw [Bool.eq_iff_iff]
    simp
theorem shaped_strs {xs : List Str} (h : ∀ z ∈ xs, PyData.strOk z = true) : SeqAt.shaped (.list (xs.map PyData.str)) = true := by
  have := dep_strs xs
  simp only [SeqAt.shaped, PyData.canLay0, PyData.depth, Bool.and_eq_true, decide_eq_true_eq]
  exact ⟨lay_strs xs h, decide_eq_true (by omega)⟩
end
/-! ## C.m() of a classmethod with no argument -/
section
variable {g : Gm} {X : Cx} {W : WX} {pos p apos : Pos} {k j : Nat} {S : DSp} {x m : Str}
end
end G

set_option Elab.async false
set_option linter.all false
set_option maxRecDepth 100000
set_option maxHeartbeats 4000000
namespace G
open PySem L2
/-! ## xs[::-1] of a list, tuple(xs), t + u, t[a:b] of tuples -/
def dRevL (T : DE) : DE := fun Δ O P E => T Δ O (fun d O1 => match lstOf O1 d with | some ds => P (.lst ds.reverse) O1 | none => False) E
section
variable {g : Gm} {X : Cx} {W : WX} {pos pos' p : Pos} {a b c : Expr} {Ta Tb : DE}
theorem q_revL {k : Nat} {p1 p2 p3 : Pos} (ha : PE X a (le g W Ta)) (hK : X.K = g.K := by rfl) : PE X (.Subscript a (.Slice none none (some (.UnaryOp .USub (.Constant (.int 1) k p1) p2)) p3) pos) (le g W (dRevL Ta)) := by
  refine pe_imp (pe_revL ha) fun σ H Q ⟨Δ, O, P, E, F, hT, sr, w, hv, hx⟩ => ?_
  refine le_bind hT sr w hx fun d O1 v F1 H1 hT1 s1 sr1 w1 rx hx1 => ?_
  split at hT1
  · rename_i ds e
    obtain ⟨q, vs, rfl, h1, h2⟩ := lst_of e rx w1
    exact ⟨q, vs, rfl, SqL.of h1, fun t ht => hv _ _ _ _ _ hT1 (s1.trans (w1.fsame ht)) (w1.frozen ht) (h2.reverse.newL (w1.same.free ht))⟩
  · exact hT1.elim
end
theorem e_revL {Ta : DE} {Δ : Sl} {O : Sto} {P : KD} {E : KX} : dRevL Ta Δ O P E = Ta Δ O (fun d O1 => match lstOf O1 d with | some ds => P (.lst ds.reverse) O1 | none => False) E := propext Iff.rfl
def fTup : BC := fun ds O P => match ds with | [d] => (match d with | .tup es => P (.tup es) O | _ => match lstOf O d with | some es => P (.tup es) O | none => False) | _ => False
section
variable {g : Gm} {X : Cx}
theorem lk_tupO : LkC g (fun xs H Q => ∃ p ys, xs = [.ref p] ∧ ((SqL g.K H p ys ∧ ∀ l, H l = none → Q (.ref l) (upd H l (.tup ys))) ∨ (SqT g.K H p ys ∧ Q (.ref p) H))) fTup := by
  intro ds O P F H vs Q hf rs w hv
  unfold fTup at hf
  split at hf
  · rename_i d
    obtain ⟨u, rfl, h1⟩ := reps1 rs
    split at hf
    · rename_i es
      obtain ⟨q, us, rfl, h2, h3⟩ := Rep.tup_sq h1
      exact ⟨q, us, rfl, .inr ⟨sqt_same w.same h2, hv.now hf w h1⟩⟩
    · split at hf
      · rename_i es e
        obtain ⟨q, us, rfl, h2, h3⟩ := lst_of e h1 w
        exact ⟨q, us, rfl, .inl ⟨SqL.of h2, fun l hl => hv _ _ _ _ _ hf (w.fsame hl) (w.frozen hl) (h3.newT (w.same.free hl))⟩⟩
      · exact hf.elim
  · exact hf.elim
end
theorem f_tupL {l : List D} {O : Sto} {P : KD} : fTup [.lst l] O P = P (.tup l) O := propext Iff.rfl
theorem f_tupT {l : List D} {O : Sto} {P : KD} : fTup [.tup l] O P = P (.tup l) O := propext Iff.rfl
theorem f_tupP {a : Addr} {l : List D} {O : Sto} {P : KD} (h : getC O a = some (.lst l)) : fTup [.ptr a] O P = P (.tup l) O := by
  show (match lstOf O (.ptr a) with | some es => P (.tup es) O | none => False) = _
  rw [l_ptr h]
def fAddT : B2 := fun x y O P => match x, y with | .tup xs, .tup ys => xs.length + ys.length ≤ sizeLine ∧ P (.tup (xs ++ ys)) O | _, _ => False
theorem f_addT {xs ys : List D} {O : Sto} {P : KD} : fAddT (.tup xs) (.tup ys) O P = (xs.length + ys.length ≤ sizeLine ∧ P (.tup (xs ++ ys)) O) := propext Iff.rfl
section
variable {g : Gm} {X : Cx}
theorem lk_addT : Lk2 g (rCatA g.K) fAddT := by
  intro x y O P F H vx vy Q hf rx ry w hv
  unfold fAddT at hf
  split at hf
  · rename_i xs ys
    obtain ⟨q1, us, rfl, h1, h2⟩ := Rep.tup_sq rx
    obtain ⟨q2, ws, rfl, h3, h4⟩ := Rep.tup_sq ry
    have e1 := h2.length
    have e2 := h4.length
    refine ⟨q1, q2, us, ws, rfl, rfl, sqt_same w.same h1, sqt_same w.same h3, by rw [← e1, ← e2]; exact hf.1, fun z => ?_, fun z1 z2 => ?_, fun z1 z2 t ht => ?_⟩
    · have : xs = [] := by rw [z] at e1; exact List.eq_nil_of_length_eq_zero e1
      subst this
      exact hv.now hf.2 w ry
    · have : ys = [] := by rw [z2] at e2; exact List.eq_nil_of_length_eq_zero e2
      subst this
      have q := hf.2
      rw [List.append_nil] at q
      exact hv.now q w rx
    · exact hv _ _ _ _ _ hf.2 (w.fsame ht) (w.frozen ht) ((h2.append h4).newT (w.same.free ht))
  · exact hf.elim
end
def dSliceT (T : DE) (L U : DO) : DE := fun Δ O P E => T Δ O (fun d O1 => L Δ O1 (fun l O2 => U Δ O2 (fun u O3 => match d with
  | .tup ds => P (.tup (cutD ds l u)) O3
  | _ => False) E) E) E
section
variable {g : Gm} {X : Cx} {W : WX} {pos pos' p : Pos} {a b c : Expr} {Ta Tb : DE}
end
theorem e_sliceT {Ta : DE} {L U : DO} {Δ : Sl} {O : Sto} {P : KD} {E : KX} : dSliceT Ta L U Δ O P E = Ta Δ O (fun d O1 => L Δ O1 (fun l O2 => U Δ O2 (fun u O3 => match d with
  | .tup ds => P (.tup (cutD ds l u)) O3
  | _ => False) E) E) E := propext Iff.rfl
/-! ## data with owned lists within: ==, in -/
mutual
/-- the plain data that d stands for, if the owned lists are read as they are now -/
inductive IsPy (O : Sto) : D → PyData → Prop
  | non : IsPy O .non .none
  | bl (b : Bool) : IsPy O (.bl b) (.bool b)
  | int (i : Int) : IsPy O (.int i) (.int i)
  | str (x : Str) : IsPy O (.str x) (.str x)
  | lst {ds : List D} {xs : List PyData} : IsPys O ds xs → IsPy O (.lst ds) (.list xs)
  | tup {ds : List D} {xs : List PyData} : IsPys O ds xs → IsPy O (.tup ds) (.tuple xs)
  | ptr {a : Addr} {ds : List D} {xs : List PyData} : getC O a = some (.lst ds) → IsPys O ds xs → IsPy O (.ptr a) (.list xs)
inductive IsPys (O : Sto) : List D → List PyData → Prop
  | nil : IsPys O [] []
  | cons {d : D} {ds : List D} {x : PyData} {xs : List PyData} : IsPy O d x → IsPys O ds xs → IsPys O (d :: ds) (x :: xs)
end
section
variable {g : Gm} {F : Hp} {O : Sto} {H : Hp}
mutual
theorem isPy_dp (w : Wd g F O H) : ∀ {d : D} {v : V} {x : PyData}, IsPy O d x → Rep g F d v → Dp g.K H v x
  | _, _, _, .non, r => by rw [Rep.non_iff.mp r]; exact .non
  | _, _, _, .bl b, r => by rw [Rep.bl_iff.mp r]; exact .bl b
  | _, _, _, .int b, r => by rw [Rep.int_iff.mp r]; exact .int b
  | _, _, _, .str b, r => by rw [Rep.str_iff.mp r]; exact .str b
  | _, _, _, .lst h, r => by
    obtain ⟨p, vs, rfl, h1, h2⟩ := Rep.lst_iff.mp r
    exact .lst (SqL.of (w.same _ _ h1)) (isPys_dp w h h2)
  | _, _, _, .tup h, r => by
    obtain ⟨p, vs, rfl, h1, h2⟩ := Rep.tup_sq r
    exact .tup (sqt_same w.same h1) (isPys_dp w h h2)
  | _, _, _, .ptr (ds := ds) e h, r => by
    rw [Rep.ptr_iff.mp r]
    obtain ⟨_, o, h1, h2⟩ := w.get e
    cases o with
    | lst vs => exact .lst (SqL.of h1) (isPys_dp w h (show Reps g F ds vs from h2))
    | _ => exact h2.elim
theorem isPys_dp (w : Wd g F O H) : ∀ {ds : List D} {vs : List V} {xs : List PyData}, IsPys O ds xs → Reps g F ds vs → DpAll g.K H vs xs
  | _, _, _, .nil, r => by
    rw [Reps.nil_iff] at r
    subst r
    exact .nil
  | _, _, _, .cons h1 h2, r => by
    obtain ⟨v, rr, rfl, q1, q2⟩ := Reps.cons_iff.mp r
    exact .cons (isPy_dp w h1 q1) (isPys_dp w h2 q2)
end
end
def fNeN : B2 := fun x y O P => ∃ a b, IsPy O x a ∧ IsPy O y b ∧ SeqAt.shaped a = true ∧ SeqAt.shaped b = true ∧ P (.bl (!PyData.eqv a b)) O
def fInN (neg : Bool) : B2 := fun x y O P => ∃ a ds, IsPy O x a ∧ IsPy O y (.list ds) ∧ SeqAt.shaped a = true ∧ SeqAt.shaped (.list ds) = true ∧ P (.bl (if neg = true then !(ds.any fun z => PyData.eqv z a) else ds.any fun z => PyData.eqv z a)) O
section
variable {g : Gm} {X : Cx}
theorem lk_neN : Lk2 g (rNeD g.K) fNeN := by
  rintro x y O P F H vx vy Q ⟨a, b, h1, h2, h3, h4, h5⟩ rx ry w hv
  exact ⟨a, b, isPy_dp w h1 rx, isPy_dp w h2 ry, h3, h4, hv.now h5 w rbl⟩
theorem op_notInN (hu : X.A.units + 65 < cLine) (hK : X.K = g.K := by rfl) : OpR X (compareOp .NotIn) (rNotInD g.K) := by
  rw [← hK]
  exact op_notInD hu
theorem lk_notInN : Lk2 g (rNotInD g.K) (fInN true) := by
  rintro x y O P F H vx vy Q ⟨a, b, h1, h2, h3, h4, h5⟩ rx ry w hv
  exact ⟨a, b, isPy_dp w h1 rx, isPy_dp w h2 ry, h3, h4, hv.now h5 w rbl⟩
end
/-! ## the store in another order -/
theorem Wd.perm {g : Gm} {F : Hp} {O O' : Sto} {H : Hp} (w : Wd g F O H) (h : O'.Perm O) : Wd g F O' H := ⟨w.same, (h.map _).nodup_iff.mpr w.nd, fun q hq => w.cel q (h.mem_iff.mp hq)⟩
def dPerm (T : DE) : DE := fun Δ O P E => T Δ O (fun d O1 => ∃ O2, O2.Perm O1 ∧ P d O2) E
theorem e_perm {Ta : DE} {Δ : Sl} {O : Sto} {P : KD} {E : KX} : dPerm Ta Δ O P E = Ta Δ O (fun d O1 => ∃ O2, O2.Perm O1 ∧ P d O2) E := propext Iff.rfl
/-! ## a walk over a list that is owned: it must stay as it is -/
def forC (C : Sto → Prop) (Gd : DG) (B : DS) (E : DEnds) : List D → Sl → Sto → Prop
  | [], Δ, O => C O ∧ E.nx Δ O
  | d :: r, Δ, O => C O ∧ Gd d Δ fun Δ' => B { E with nx := forC C Gd B E r, ct := forC C Gd B E r, bk := E.nx } Δ' O
def heldL (p : Addr) (ds : List D) (O : Sto) : Prop := getC O p = some (.lst ds)
/-- for x in xs, xs an owned list -/
def dForP (T : DE) (G : DG) (B : DS) : DS := fun D Δ O => T Δ O (fun d O1 => match d with
  | .ptr p => (match getC O1 p with | some (.lst ds) => forC (heldL p ds) G B D ds Δ O1 | _ => False)
  | _ => False) (fun x O1 => D.xc x Δ O1)
section
variable {g : Gm} {X : Cx} {W : WX} {pos pos' : Pos} {a b c tg : Expr} {Ta Tb : DE}
end
theorem e_forP {Ta : DE} {Gd : DG} {B : DS} {En : DEnds} {Δ : Sl} {O : Sto} : dForP Ta Gd B En Δ O = Ta Δ O (fun d O1 => match d with
  | .ptr p => (match getC O1 p with | some (.lst ds) => forC (heldL p ds) Gd B En ds Δ O1 | _ => False)
  | _ => False) (fun x O1 => En.xc x Δ O1) := propext Iff.rfl
/-! ### a comprehension over an owned list -/
def lcC (C : Sto → Prop) (Gd : DG) (Tt : DT) (Te : DE) (p : Addr) (P : List D → Sto → Prop) : List D → List D → Sl → Sto → Prop
  | [], acc, _, O => C ((p, .lst acc) :: O) ∧ P acc O
  | x :: r, acc, Δ, O => C ((p, .lst acc) :: O) ∧ Gd x Δ fun Δ' => Tt Δ' ((p, .lst acc) :: O) (fun k O1 => if k = true
      then Te Δ' O1 (fun y O2 => ∃ O3, O2 = (p, .lst acc) :: O3 ∧ lcC C Gd Tt Te p P r (acc ++ [y]) Δ O3) (fun _ _ => False)
      else ∃ O3, O1 = (p, .lst acc) :: O3 ∧ lcC C Gd Tt Te p P r acc Δ O3) (fun _ _ => False)
def dLcP (T : DE) (Gd : DG) (Tt : DT) (Te : DE) (vs : List Nat) : DE := fun Δ O P E => T Δ O (fun d O1 => match d with
  | .ptr q => (match getC O1 q with | some (.lst ds) => ds.length ≤ 1000000 ∧ ∀ p, freshC O1 p → lcC (heldL q ds) Gd Tt Te p (fun acc O2 => P (.lst acc) O2) ds [] (wipeD Δ vs) O1 | _ => False)
  | _ => False) E
section
variable {g : Gm} {X : Cx} {W : WX} {pos pos' : Pos} {a b c tg : Expr} {Ta Tb : DE} {tA tB : DT} {R : DA}
end
theorem e_lcP {Ta : DE} {Gd : DG} {Tt : DT} {Te : DE} {vs : List Nat} {Δ : Sl} {O : Sto} {P : KD} {E : KX} : dLcP Ta Gd Tt Te vs Δ O P E = Ta Δ O (fun d O1 => match d with
  | .ptr q => (match getC O1 q with | some (.lst ds) => ds.length ≤ 1000000 ∧ ∀ p, freshC O1 p → lcC (heldL q ds) Gd Tt Te p (fun acc O2 => P (.lst acc) O2) ds [] (wipeD Δ vs) O1 | _ => False)
  | _ => False) E := propext Iff.rfl
/-! ## C.m(.., k = v) of a classmethod -/
section
variable {g : Gm} {P : Program} {w : World} {K : PySem.W.Frag} {mg : Str → Option Value} {base : Heap} {k n : Nat} {f : Addr} {x qual : Str} {st : Stmt} {N ps ks : List Str} {idx : List Nat} {S : DSp} {T : DS} {oc kV doc pm cdv ct : Value} {od an : Option Addr} {osl : Array (Option Value)}
end
def dCMethK (c : Cl) (n m : Nat) (idx : List Nat) (S : DSp) (R Rk : DA) : DE := fun Δ O P E => R Δ O (fun ds O1 => Rk Δ O1 (fun es O2 => ds.length = n ∧ es.length = m ∧ S (.cls c :: ds ++ pick idx es) O2 P E) E) E
theorem e_cmethK {c : Cl} {n m : Nat} {idx : List Nat} {S : DSp} {R Rk : DA} {Δ : Sl} {O : Sto} {P : KD} {E : KX} : dCMethK c n m idx S R Rk Δ O P E = R Δ O (fun ds O1 => Rk Δ O1 (fun es O2 => ds.length = n ∧ es.length = m ∧ S (.cls c :: ds ++ pick idx es) O2 P E) E) E := propext Iff.rfl
section
variable {g : Gm} {X : Cx} {W : WX} {pos pos' p apos kpos : Pos} {a b c o e : Expr} {es : List Expr} {R Rk : DA} {k j n : Nat} {f : Addr} {S : DSp} {x m : Str} {kws : List Keyword} {ks : List Str} {idx : List Nat}
end
theorem hu65 {k : Nat} {A : Around} (h : Room k A) : A.units + 65 < cLine := by have := h.un; omega
theorem f_listSL {ds : List D} {O : Sto} {P : KD} : fListS [.lst ds] O P = P (.lst ds) O := propext Iff.rfl
theorem f_listST {ds : List D} {O : Sto} {P : KD} : fListS [.tup ds] O P = P (.lst ds) O := propext Iff.rfl
end G

set_option Elab.async false
set_option linter.all false
set_option maxRecDepth 100000
set_option maxHeartbeats 4000000
namespace G
open PySem L2 PySem.Spec PyProof.Rows
/-! ## sorted(zip(pairs, numbers)) -/
abbrev T3 := (Int × Int) × Int
/-- v stands for ((x, y), z) -/
def IsTri (h : Heap) (v : Value) (k : T3) : Prop := ∃ (a b : Addr) (o o2 : Obj) (t t1 t2 : Tok) (n m : Nat), v = .ref a ∧ h.get? a = some o ∧ o.cls = .type "tuple" ∧ o.data = .seq #[.ref b, .int k.2 t] n ∧
  h.get? b = some o2 ∧ o2.cls = .type "tuple" ∧ o2.data = .seq #[.int k.1.1 t1, .int k.1.2 t2] m
theorem IsTri.keeps {h h' : Heap} {v : Value} {k : T3} (x : IsTri h v k) (e : ∀ b o, h.get? b = some o → o.cls = .type "tuple" → h'.get? b = some o) : IsTri h' v k := by
  obtain ⟨a, b, o, o2, t, t1, t2, n, m, h1, h2, h3, h4, h5, h6, h7⟩ := x
  exact ⟨a, b, o, o2, t, t1, t2, n, m, h1, e _ _ h2 h3, h3, h4, e _ _ h5 h6, h6, h7⟩
section
variable {prog : Program} {w : World} {A : Around} {E : Value → Shared → Prop} {s : Shared}
end
/-! ### the pairs of zip, gathered -/
structure ZMade (xs ys : Array Value) (lo : Addr) (h : Heap) (as : List Addr) : Prop where
  rise : as.Pairwise (· < ·)
  above : ∀ a ∈ as, lo < a
  pairs : ∀ (j : Nat) (a : Addr), as[j]? = some a → ∃ x y, xs[j]? = some x ∧ ys[j]? = some y ∧ IsPair h a x y
theorem ZMade.there {xs ys : Array Value} {lo : Addr} {h : Heap} {as : List Addr} (g : ZMade xs ys lo h as) {a : Addr} (ha : a ∈ as) : a < h.objs.size := by
  obtain ⟨j, hj⟩ := List.mem_iff_getElem?.mp ha
  obtain ⟨_, _, _, _, e⟩ := g.pairs j a hj
  exact Heap.lt_size e
/-- where the zip stands behind i pairs; S: the list that is filled -/
structure ZSt (xs ys : Array Value) (z TI TO i1 i2 l1 l2 S : Addr) (i : Nat) (h : Heap) : Prop where
  ti : IsPair h TI (.ref i1) (.ref i2)
  a1 : h.IsListIter i1 l1 i
  a2 : h.IsListIter i2 l2 i
  b1 : h.IsList l1 xs
  b2 : h.IsList l2 ys
  zz : (IsZip h z TI TO .none ∧ ∃ a b, IsPair h TO a b) ∨ ∃ T f oT, IsZipHeld h z TI TO T f ∧ h.get? T = some oT ∧ T ≠ z ∧ T ≠ i1 ∧ T ≠ i2 ∧ T ≠ S
structure ZOff (z TI TO i1 i2 l1 l2 S : Addr) : Prop where
  z : z ≠ S
  ti : TI ≠ S
  to : TO ≠ S
  i1 : i1 ≠ S
  i2 : i2 ≠ S
  l1 : l1 ≠ S
  l2 : l2 ≠ S
section
variable {prog : Program} {w : World} {A : Around} {E : Value → Shared → Prop} {s : Shared} {xs ys : Array Value} {z TI TO i1 i2 l1 l2 S : Addr}
theorem ZSt.frame {i : Nat} {h h' : Heap} (st : ZSt xs ys z TI TO i1 i2 l1 l2 S i h) (d : ZOff z TI TO i1 i2 l1 l2 S) (hk : ∀ b o, b ≠ S → h.get? b = some o → h'.get? b = some o) : ZSt xs ys z TI TO i1 i2 l1 l2 S i h' := by
  refine ⟨hk _ _ d.ti st.ti, st.a1.at fun o e => hk _ o d.i1 e, st.a2.at fun o e => hk _ o d.i2 e, st.b1.at fun o e => hk _ o d.l1 e, st.b2.at fun o e => hk _ o d.l2 e, ?_⟩
  rcases st.zz with ⟨hz, a, b, hTO⟩ | ⟨T, f, oT, hz, hT, r1, r2, r3, r4⟩
  · exact .inl ⟨hk _ _ d.z hz, a, b, hk _ _ d.to hTO⟩
  · exact .inr ⟨T, f, oT, hk _ _ d.z hz, hk _ _ r4 hT, r1, r2, r3, r4⟩
theorem ZSt.next {i : Nat} {Q : Option Value → Shared → Prop} (D : ZipApart z TI TO i1 i2 l1 l2) (d : ZOff z TI TO i1 i2 l1 l2 S) (st : ZSt xs ys z TI TO i1 i2 l1 l2 S i s.heap) (hS : S < s.heap.objs.size) {x y : Value} (ex : xs[i]? = some x) (ey : ys[i]? = some y)
    (hQ : ∀ h', ZSt xs ys z TI TO i1 i2 l1 l2 S (i + 1) h' → IsPair h' s.heap.objs.size x y → (∀ c o, c ≠ z → c ≠ TO → c ≠ i1 → c ≠ i2 → s.heap.get? c = some o → h'.get? c = some o) → Q (some (.ref s.heap.objs.size)) { s with heap := h' }) :
    wpAny (model prog w) A (pyNext (.ref z)) Q E s := by
  have lt : ∀ {c o}, s.heap.get? c = some o → s.heap.objs.size ≠ c := fun e => Nat.ne_of_gt (Heap.lt_size e)
  have n1 : s.heap.objs.size ≠ i1 := let ⟨_, e, _⟩ := st.a1; lt e
  have n2 : s.heap.objs.size ≠ i2 := let ⟨_, e, _⟩ := st.a2; lt e
  rcases st.zz with ⟨hz, a, b, hTO⟩ | ⟨T, f, oT, hz, hT, r1, r2, r3, r4⟩
  · refine wpAny_pyNext_zip_item D hz st.ti hTO st.a1 st.a2 st.b1 st.b2 ex ey fun h' a1 a2 a3 a4 a5 a6 hk => ?_
    exact hQ h' ⟨hk _ _ D.TIz D.TITO D.TIi1 D.TIi2 st.ti, a3, a4, st.b1.at fun o e => hk _ o D.l1z D.l1TO D.l1i1 D.l1i2 e, st.b2.at fun o e => hk _ o D.l2z D.l2TO D.l2i1 D.l2i2 e, .inr ⟨s.heap.objs.size, false, _, a1, a5, lt hz, n1, n2, Nat.ne_of_gt hS⟩⟩ a5 hk
  · refine wpAny_pyNext_zip_item_held D hz hT st.ti st.a1 st.a2 st.b1 st.b2 ex ey fun h' a1 a3 a4 a5 a6 hk => ?_
    exact hQ h' ⟨hk _ _ D.TIz D.TIi1 D.TIi2 st.ti, a3, a4, st.b1.at fun o e => hk _ o D.l1z D.l1i1 D.l1i2 e, st.b2.at fun o e => hk _ o D.l2z D.l2i1 D.l2i2 e, .inr ⟨T, true, _, a1, hk _ _ r1 r2 r3 hT, r1, r2, r3, r4⟩⟩ a5 fun c o q1 _ q3 q4 e => hk c o q1 q3 q4 e
theorem ZSt.done {i : Nat} {Q : Option Value → Shared → Prop} (hh : A.handled = none) (D : ZipApart z TI TO i1 i2 l1 l2) (st : ZSt xs ys z TI TO i1 i2 l1 l2 S i s.heap) (he : xs[i]? = none ∨ ys[i]? = none)
    (hQ : ∀ h', (∀ c o, c ≠ z → c ≠ TO → c ≠ i1 → c ≠ i2 → s.heap.get? c = some o → h'.get? c = some o) → Q none { s with heap := h' }) : wpAny (model prog w) A (pyNext (.ref z)) Q E s := by
  rcases st.zz with ⟨hz, a, b, hTO⟩ | ⟨T, f, oT, hz, hT, r1, r2, r3, r4⟩
  · exact wpAny_pyNext_zip_end hh D hz st.ti hTO st.a1 st.a2 st.b1 st.b2 he hQ
  · exact wpAny_pyNext_zip_end_held hh D hz hT st.ti st.a1 st.a2 st.b1 st.b2 he fun h' hk => hQ h' fun c o q1 _ q3 q4 e => hk c o q1 q3 q4 e
end
/-! ### the sort of the triples, as plain data -/
def lexTe (a b : T3) : Bool := decide (a.1.1 < b.1.1 ∨ (a.1.1 = b.1.1 ∧ (a.1.2 < b.1.2 ∨ (a.1.2 = b.1.2 ∧ a.2 ≤ b.2))))
def srtT (xs : List T3) : List T3 := xs.mergeSort lexTe
abbrev triD (x : T3) : D := .tup [pr x.1, .int x.2]
def dSortZ (R : DA) : DE := fun Δ O P E => R Δ O (fun ds O1 => ∃ (vs : List (Int × Int)) (ws : List Int), ds = [.lst (vs.map pr), .lst (ws.map D.int)] ∧ vs.length = ws.length ∧ vs.length ≤ 1000 ∧ P (.lst ((srtT (vs.zip ws)).map triD)) O1) E
theorem e_sortZ {R : DA} {Δ : Sl} {O : Sto} {P : KD} {E : KX} : dSortZ R Δ O P E = R Δ O (fun ds O1 => ∃ (vs : List (Int × Int)) (ws : List Int), ds = [.lst (vs.map pr), .lst (ws.map D.int)] ∧ vs.length = ws.length ∧ vs.length ≤ 1000 ∧ P (.lst ((srtT (vs.zip ws)).map triD)) O1) E := propext Iff.rfl
section
variable {g : Gm} {X : Cx} {W : WX} {pos pos2 p p2 : Pos} {a b : Expr} {R : DA}
end
end G

set_option Elab.async false
set_option linter.all false
set_option maxRecDepth 100000
set_option maxHeartbeats 4000000
/-! ## sum of a tuple of whole numbers -/
namespace PySem
section
variable {prog : Program} {w : World} {A : Around} {E : Value → Shared → Prop} {s : Shared} {l : Addr} {xs : Array (Int × Tok)}
end
end PySem
namespace G
open PySem PyProof.Rows L2
def fSumT : BC := fun ds O P => match ds with | [.tup es] => (match intsOf es with | some ns => P (.int ns.sum) O | none => False) | _ => False
theorem f_sumT2 {O : Sto} {P : KD} {a b : Int} : fSumT [.tup [.int a, .int b]] O P = P (.int (a + b)) O := by
  show P (.int ([a, b].sum)) O = _
  rw [show [a, b].sum = a + b by simp]
end G

set_option Elab.async false
set_option linter.all false
set_option maxRecDepth 100000
set_option maxHeartbeats 4000000
namespace G
open PySem L2
/-! ## d.pop(k), d.pop(k, x) of an owned dict; == and != of owned dicts that are equal -/
def dropKs (k : Key) : List Key → List Key
  | [] => []
  | h :: ks => if h = k then dropKs k ks else h :: dropKs k ks
def dropKd (k : Key) : List Key → List D → List D
  | h :: ks, d :: ds => if h = k then dropKd k ks ds else d :: dropKd k ks ds
  | _, _ => []
section
variable {g : Gm}
end
def dPop1 (Td Tk : DE) : DE := fun Δ O P E => Td Δ O (fun d O1 => match dicOf O1 d with
  | some _ => Tk Δ O1 (fun y O2 => match d, keyD y with
    | .ptr q, some k => (match getC O2 q with
      | some (.dic ks ds) => (match getK k ks ds with | some e => P e (setC O2 q (.dic (dropKs k ks) (dropKd k ks ds))) | none => False)
      | _ => False)
    | _, _ => False) E
  | none => False) E
def dPop2 (Td Tk Tx : DE) : DE := fun Δ O P E => Td Δ O (fun d O1 => match dicOf O1 d with
  | some _ => Tk Δ O1 (fun y O2 => Tx Δ O2 (fun x O3 => match d, keyD y with
    | .ptr q, some k => (match getC O3 q with
      | some (.dic ks ds) => (match getK k ks ds with | some e => P e (setC O3 q (.dic (dropKs k ks) (dropKd k ks ds))) | none => P x O3)
      | _ => False)
    | _, _ => False) E) E
  | none => False) E
section
variable {g : Gm} {X : Cx} {W : WX} {pos pos' p p2 apos cpos : Pos} {a b c e o i f value : Expr} {Ta Tb Tc Td Tk Tx Tv : DE}
end
section
variable {g : Gm}
end
section
variable {Ta Tb Td Tk Tx : DE} {Δ : Sl} {O : Sto} {P : KD} {E : KX}
theorem e_pop1 : dPop1 Td Tk Δ O P E = Td Δ O (fun d O1 => match dicOf O1 d with
  | some _ => Tk Δ O1 (fun y O2 => match d, keyD y with
    | .ptr q, some k => (match getC O2 q with
      | some (.dic ks ds) => (match getK k ks ds with | some e => P e (setC O2 q (.dic (dropKs k ks) (dropKd k ks ds))) | none => False)
      | _ => False)
    | _, _ => False) E
  | none => False) E := propext Iff.rfl
theorem e_pop2 : dPop2 Td Tk Tx Δ O P E = Td Δ O (fun d O1 => match dicOf O1 d with
  | some _ => Tk Δ O1 (fun y O2 => Tx Δ O2 (fun x O3 => match d, keyD y with
    | .ptr q, some k => (match getC O3 q with
      | some (.dic ks ds) => (match getK k ks ds with | some e => P e (setC O3 q (.dic (dropKs k ks) (dropKd k ks ds))) | none => P x O3)
      | _ => False)
    | _, _ => False) E) E
  | none => False) E := propext Iff.rfl
end
end G

set_option Elab.async false
set_option linter.all false
set_option maxRecDepth 100000
set_option maxHeartbeats 4000000
namespace G
open PySem L2
/-! ## a new list that the caller takes as it likes: owned or frozen -/
def dMay (T : DE) : DE := fun Δ O P E => T Δ O (fun d O1 => match d with
  | .ptr a => P (.ptr a) O1 ∨ (match getC O1 a with | some (.lst l) => P (.lst l) (delC O1 a) | _ => False)
  | _ => False) E
def dLc2O (R : DA) (Gd : DG) (Tt : DT) (R1 : DA) (Gd1 : DG) (Tt1 : DT) (Te : DE) (vs vs1 : List Nat) : DE := fun Δ O P E => R Δ O (fun ds O1 => ∀ p, freshC O1 p → lc2D Gd Tt R1 Gd1 Tt1 Te vs1 p (fun acc O2 => P (.ptr p) ((p, .lst acc) :: O2)) ds [] (wipeD Δ vs) O1) E
section
variable {g : Gm} {X : Cx} {W W0 : WX} {pos pos' : Pos} {a tg tg1 : Expr} {Ta : DE} {R R1 : DA}
theorem q_may (ha : PE X a (le g W Ta)) : PE X a (le g W (dMay Ta)) := by
  refine pe_imp ha fun σ H Q h => ?_
  obtain ⟨Δ, O, P, E, F, hT, sr, w, hv, hx⟩ := h
  refine le_bind hT sr w hx fun d O1 v F1 H1 hT1 s1 sr1 w1 rx hx1 => ?_
  cases d with
  | ptr p =>
    have ev := Rep.ptr_iff.mp rx
    subst ev
    have hT1 : P (.ptr p) O1 ∨ (match getC O1 p with | some (.lst l) => P (.lst l) (delC O1 p) | _ => False) := hT1
    rcases hT1 with hT1 | hT1
    · exact hv _ _ _ _ _ hT1 s1 w1 rx
    · split at hT1
      · rename_i l e
        obtain ⟨o, ho, hc, s2, w2⟩ := w1.freeze e
        exact hv _ _ _ _ _ hT1 (s1.trans s2) w2 (frz_rep rfl hc (w1.get e).1 rfl)
      · exact hT1.elim
  | _ => exact hT1.elim
end
section
variable {Δ : Sl} {O : Sto} {P : KD} {E : KX} {R R1 : DA} {Gd Gd1 : DG} {Tt Tt1 : DT} {Ta Te : DE} {vs vs1 : List Nat} {p : Addr} {Q : List D → Sto → Prop}
theorem e_lc2O : dLc2O R Gd Tt R1 Gd1 Tt1 Te vs vs1 Δ O P E = R Δ O (fun ds O1 => ∀ p, freshC O1 p → lc2D Gd Tt R1 Gd1 Tt1 Te vs1 p (fun acc O2 => P (.ptr p) ((p, .lst acc) :: O2)) ds [] (wipeD Δ vs) O1) E := propext Iff.rfl
theorem e_may : dMay Ta Δ O P E = Ta Δ O (fun d O1 => match d with
  | .ptr a => P (.ptr a) O1 ∨ (match getC O1 a with | some (.lst l) => P (.lst l) (delC O1 a) | _ => False)
  | _ => False) E := propext Iff.rfl
end
end G

set_option Elab.async false
set_option linter.all false
set_option maxRecDepth 100000
set_option maxHeartbeats 4000000
namespace G
open PySem L2
open Sem (wp)
/-! ## what is gone stays gone -/
structure Dead (h h' : Heap) : Prop where
  sz : h.objs.size ≤ h'.objs.size
  no : ∀ a, a < h.objs.size → h.get? a = none → h'.get? a = none
theorem Dead.refl (h : Heap) : Dead h h := ⟨Nat.le_refl _, fun _ _ q => q⟩
theorem Dead.trans {a b c : Heap} (x : Dead a b) (y : Dead b c) : Dead a c := ⟨Nat.le_trans x.sz y.sz, fun i hi q => y.no i (Nat.lt_of_lt_of_le hi x.sz) (x.no i hi q)⟩
/-! ## an own __iter__ that hands out the iterator of a list in a field -/
section
variable {g : Gm} {P : Program} {w : World} {K : PySem.W.Frag} {mg : Str → Option Value} {base : Heap}
end
def dItO (cl : Cl) (f : Fd) (T : DE) : DA := fun Δ O P E => T Δ O (fun d O1 => match objOf O1 d with
  | some t => t.1 = cl ∧ (match getF f t.2.1 t.2.2 with | some (.lst ds) => P ds O1 | _ => False)
  | none => False) E
section
variable {g : Gm} {X : Cx} {W : WX} {a tg : Expr} {Ta : DE} {cl : Cl} {x : Fd} {k j : Nat}
end
section
variable {Δ : Sl} {O : Sto} {P : List D → Sto → Prop} {E : KX} {cl : Cl} {f : Fd} {T : DE}
theorem e_itO : dItO cl f T Δ O P E = T Δ O (fun d O1 => match objOf O1 d with
  | some t => t.1 = cl ∧ (match getF f t.2.1 t.2.2 with | some (.lst ds) => P ds O1 | _ => False)
  | none => False) E := propext Iff.rfl
end
end G

set_option Elab.async false
set_option linter.all false
set_option maxRecDepth 100000
set_option maxHeartbeats 4000000
namespace G
open PySem L2
/-! ## an owned dict is locked while an expression is read -/
section
variable {g : Gm} {F : Hp} {p : Addr} {od : Obj} {kvs : List (Key × V)}
end
section
variable {g : Gm} {X : Cx} {W : WX} {a : Expr} {T : DE}
end
section
variable {O : Sto} {P : KD} {E : KX} {T : DE}
end
end G

set_option Elab.async false
set_option linter.all false
set_option maxRecDepth 100000
set_option maxHeartbeats 4000000
namespace G
open PySem L2
/-! ## x is True, x is not True -/
def fIsB : B2 := fun x y O P => match x, y with | .bl a, .bl b => P (.bl (decide (a = b))) O | _, _ => False
def fNotB : B2 := fun x y O P => match x, y with | .bl a, .bl b => P (.bl (!decide (a = b))) O | _, _ => False
section
variable {O : Sto} {P : KD} {a b : Bool}
theorem f_isB : fIsB (.bl a) (.bl b) O P = P (.bl (decide (a = b))) O := propext Iff.rfl
theorem f_notB : fNotB (.bl a) (.bl b) O P = P (.bl (!decide (a = b))) O := propext Iff.rfl
end
end G
namespace G
open PySem L2 PySem.Spec
/-! ## sorted texts -/
open PyProof.Rows PySem.Spec in
def leS (a b : Str) : Bool := !ltCps b.cps.toList a.cps.toList
def srtS (xs : List Str) : List Str := xs.mergeSort leS
open PyProof.Rows PySem.Spec in
open PyProof.Rows PySem.Spec in
def fSortS : BC := fun ds O P => match ds with | [d] => (match lstOf O d with | some es => (match strsOf es with | some ns => ns.length < 64 ∧ P (.lst ((srtS ns).map D.str)) O | none => False) | none => False) | _ => False
section
variable {g : Gm}
theorem f_sortS {O : Sto} {P : KD} {ns : List Str} : fSortS [.lst (ns.map D.str)] O P = (ns.length < 64 ∧ P (.lst ((srtS ns).map D.str)) O) := by simp only [fSortS, lstOf, strsOf_map]
end
end G

set_option Elab.async false
set_option linter.all false
set_option maxRecDepth 100000
set_option maxHeartbeats 4000000
namespace G
open PySem L2
open Sem (wp)
/-! ## sleeping generators stay as they are: none of them can be gone on with -/
def slp : GenState → Bool
  | .suspended .. => true
  | _ => false
/-- the same to see, but it can't be gone on with -/
def pz : GenState → GenState
  | .suspended _ l c p fs cl => .suspended (fun _ => .unsupported "") l c p fs cl
  | x => x
theorem pz_seen (x : GenState) : (pz x).seen = x.seen := by cases x <;> rfl
theorem pz_bare (x : GenState) : (pz x).bare = x.bare := by cases x <;> rfl
/-- asleep at i, in G0 -/
def Asl (G0 : Array GenState) (i : Nat) : Prop := ∃ x, G0[i]? = some x ∧ slp x = true
structure RelP (G0 G1 G2 : Array GenState) : Prop where
  size : G1.size = G2.size
  «at» : ∀ (i : Nat) (x : GenState), G0[i]? = some x → slp x = true → G1[i]? = some (pz x) ∧ G2[i]? = some x
  ot : ∀ i : Nat, ¬ Asl G0 i → G1[i]? = G2[i]?
/-- what sleeps anew has no generator's frame -/
def NGs (G0 G1 : Array GenState) : Prop := ∀ (i : Nat) (k : Resume → Sem PySem.Fin) (l : List Value) (c : Code) (p : Pos) (fs : List Frame) (cl : Bool), ¬ Asl G0 i → G1[i]? = some (.suspended k l c p fs cl) → splitAtGen fs = none
theorem RelP.lt {G0 G1 G2 : Array GenState} (h : RelP G0 G1 G2) {i : Nat} (a : Asl G0 i) : i < G1.size := by
  obtain ⟨x, h1, h2⟩ := a
  exact (Array.getElem?_eq_some_iff.mp (h.at i x h1 h2).1).1
theorem pz_slp (x : GenState) : slp (pz x) = slp x := by cases x <;> rfl
theorem RelP.awake {G0 G1 G2 : Array GenState} (h : RelP G0 G1 G2) {i : Nat} {x : GenState} (e : G1[i]? = some x) (n : slp x = false) : ¬ Asl G0 i := fun ⟨y, h1, h2⟩ => by
  rw [(h.at i y h1 h2).1] at e
  cases e
  rw [pz_slp, h2] at n
  cases n
theorem RelP.seen {G0 G1 G2 : Array GenState} (h : RelP G0 G1 G2) {i : Nat} {x : GenState} (e : G1[i]? = some x) : ∃ y, G2[i]? = some y ∧ y.seen = x.seen := by
  by_cases a : Asl G0 i
  · obtain ⟨z, h1, h2⟩ := a
    obtain ⟨e1, e2⟩ := h.at i z h1 h2
    rw [e1] at e
    cases e
    exact ⟨z, e2, (pz_seen z).symm⟩
  · exact ⟨x, by rw [← h.ot i a]; exact e, rfl⟩
theorem RelP.set {G0 G1 G2 : Array GenState} (h : RelP G0 G1 G2) {g : Nat} (x : GenState) (n : ¬ Asl G0 g) : RelP G0 (G1.setIfInBounds g x) (G2.setIfInBounds g x) := by
  refine ⟨by simp only [Array.size_setIfInBounds]; exact h.size, fun i y h1 h2 => ?_, fun i hi => ?_⟩
  · have ne : g ≠ i := fun z => n (by rw [z]; exact ⟨y, h1, h2⟩)
    rw [Array.getElem?_setIfInBounds_ne ne, Array.getElem?_setIfInBounds_ne ne]
    exact h.at i y h1 h2
  · by_cases e : g = i
    · subst e
      rw [Array.getElem?_setIfInBounds_self, Array.getElem?_setIfInBounds_self, h.size]
    · rw [Array.getElem?_setIfInBounds_ne e, Array.getElem?_setIfInBounds_ne e]
      exact h.ot i hi
theorem NGs.set {G0 G1 : Array GenState} (h : NGs G0 G1) {g : Nat} {x : GenState} (hx : ∀ k l c p fs cl, x = .suspended k l c p fs cl → splitAtGen fs = none) : NGs G0 (G1.setIfInBounds g x) := by
  intro i k l c p fs cl hi e
  by_cases z : g = i
  · subst z
    rw [Array.getElem?_setIfInBounds_self] at e
    split at e
    · cases e; exact hx _ _ _ _ _ _ rfl
    · cases e
  · rw [Array.getElem?_setIfInBounds_ne z] at e
    exact h i k l c p fs cl hi e
theorem RelP.push {G0 G1 G2 : Array GenState} (h : RelP G0 G1 G2) (x : GenState) : RelP G0 (G1.push x) (G2.push x) := by
  refine ⟨by simp only [Array.size_push]; rw [h.size], fun i y h1 h2 => ?_, fun i hi => ?_⟩
  · have l1 := h.lt ⟨y, h1, h2⟩
    have l2 : i < G2.size := by rw [← h.size]; exact l1
    rw [Array.getElem?_push, Array.getElem?_push, if_neg (Nat.ne_of_lt l1), if_neg (Nat.ne_of_lt l2)]
    exact h.at i y h1 h2
  · rw [Array.getElem?_push, Array.getElem?_push, h.size, h.ot i hi]
theorem NGs.push {G0 G1 : Array GenState} (h : NGs G0 G1) (c : Code) : NGs G0 (G1.push (.fresh c)) := by
  intro i k l c p fs cl hi e
  rw [Array.getElem?_push] at e
  split at e
  · cases e
  · exact h i k l c p fs cl hi e
theorem runs_uns {M : Model} {Γ : Ctx} {p : Pos} {w : String} {s s' : Shared} {e : End} : ∀ fs : List Frame, ¬ Runs M Γ p (.unsupported w) fs s e s'
  | [], h => by cases h
  | _ :: _, h => by
    cases h with
    | segRet h1 _ => exact runs_uns [] h1
    | segGen h1 _ => exact runs_uns [] h1
    | segSuspOut _ h1 => exact runs_uns [] h1
    | segSuspGen _ h1 _ _ => exact runs_uns [] h1
termination_by fs => fs.length
theorem split_snoc {fs gs : List Frame} (h1 : splitAtGen fs = none) (h2 : splitAtGen gs = none) : splitAtGen (fs ++ gs) = none := by
  rw [splitAtGen_append_none _ h1, h2]; rfl
theorem split_tail {k : Result → Sem PySem.Fin} {h : Option Value} {g : Bool} {l kp : List Value} {c : Code} {p : Pos} {fs : List Frame} (e : splitAtGen (.ret k h g l c p kp :: fs) = none) : splitAtGen fs = none := by
  simp only [splitAtGen, Option.map_eq_none_iff] at e
  exact e
theorem split_gen {k : GenResult → Sem PySem.Fin} {g : Nat} {l : List Value} {c : Code} {p : Pos} {fs : List Frame} : splitAtGen (.gen g k l c p :: fs) ≠ none := by
  simp [splitAtGen]
/-- no generator's frame lies in the end -/
def eNG : End → Prop
  | .ret _ => True
  | .susp _ _ _ _ _ _ fs => splitAtGen fs = none
theorem eNG.gen {e : End} (h : eNG e) : ∀ k l c p fs cl, e.genState = .suspended k l c p fs cl → splitAtGen fs = none := by
  intro k l c p fs cl q
  cases e with
  | ret r => cases q
  | susp v g l0 k0 c0 p0 fs0 =>
    cases q
    exact h
theorem runs_pz {M : Model} {G0 : Array GenState} {Γ : Ctx} {p : Pos} {t : Sem PySem.Fin} {fs : List Frame} {s s' : Shared} {e : End} (h : Runs M Γ p t fs s e s') : splitAtGen fs = none → NGs G0 s.gens → ∀ G2, RelP G0 s.gens G2 →
    ∃ G3, RelP G0 s'.gens G3 ∧ NGs G0 s'.gens ∧ eNG e ∧ Runs M Γ p t fs { s with gens := G2 } e { s' with gens := G3 } := by
  induction h with
  | done => intro _ ng G2 r; exact ⟨G2, r, ng, True.intro, .done⟩
  | raise => intro _ ng G2 r; exact ⟨G2, r, ng, True.intro, .raise⟩
  | again q _ ih => intro f ng G2 r; obtain ⟨G3, r3, n3, e3, h3⟩ := ih f ng G2 r; exact ⟨G3, r3, n3, e3, .again q h3⟩
  | rule _ ih => intro f ng G2 r; obtain ⟨G3, r3, n3, e3, h3⟩ := ih f ng G2 r; exact ⟨G3, r3, n3, e3, .rule h3⟩
  | «at» _ ih => intro f ng G2 r; obtain ⟨G3, r3, n3, e3, h3⟩ := ih f ng G2 r; exact ⟨G3, r3, n3, e3, .at h3⟩
  | load q _ ih => intro f ng G2 r; obtain ⟨G3, r3, n3, e3, h3⟩ := ih f ng G2 r; exact ⟨G3, r3, n3, e3, .load q h3⟩
  | update q _ ih => intro f ng G2 r; obtain ⟨G3, r3, n3, e3, h3⟩ := ih f ng G2 r; exact ⟨G3, r3, n3, e3, .update q h3⟩
  | loadIfAlive _ ih => intro f ng G2 r; obtain ⟨G3, r3, n3, e3, h3⟩ := ih f ng G2 r; exact ⟨G3, r3, n3, e3, .loadIfAlive h3⟩
  | point _ ih => intro f ng G2 r; obtain ⟨G3, r3, n3, e3, h3⟩ := ih f ng G2 r; exact ⟨G3, r3, n3, e3, .point h3⟩
  | alloc _ ih => intro f ng G2 r; obtain ⟨G3, r3, n3, e3, h3⟩ := ih f ng G2 r; exact ⟨G3, r3, n3, e3, .alloc h3⟩
  | fresh _ ih => intro f ng G2 r; obtain ⟨G3, r3, n3, e3, h3⟩ := ih f ng G2 r; exact ⟨G3, r3, n3, e3, .fresh h3⟩
  | ask _ ih => intro f ng G2 r; obtain ⟨G3, r3, n3, e3, h3⟩ := ih f ng G2 r; exact ⟨G3, r3, n3, e3, .ask h3⟩
  | choose q _ ih => intro f ng G2 r; obtain ⟨G3, r3, n3, e3, h3⟩ := ih f ng G2 r; exact ⟨G3, r3, n3, e3, .choose q h3⟩
  | os _ ih => intro f ng G2 r; obtain ⟨G3, r3, n3, e3, h3⟩ := ih f ng G2 r; exact ⟨G3, r3, n3, e3, .os h3⟩
  | handled _ ih => intro f ng G2 r; obtain ⟨G3, r3, n3, e3, h3⟩ := ih f ng G2 r; exact ⟨G3, r3, n3, e3, .handled h3⟩
  | stack _ ih => intro f ng G2 r; obtain ⟨G3, r3, n3, e3, h3⟩ := ih f ng G2 r; exact ⟨G3, r3, n3, e3, .stack h3⟩
  | thread _ ih => intro f ng G2 r; obtain ⟨G3, r3, n3, e3, h3⟩ := ih f ng G2 r; exact ⟨G3, r3, n3, e3, .thread h3⟩
  | genState q _ ih =>
    intro f ng G2 r
    obtain ⟨y, hy, hs⟩ := r.seen q
    obtain ⟨G3, r3, n3, e3, h3⟩ := ih f ng G2 r
    exact ⟨G3, r3, n3, e3, .genState (st := y) hy (by rw [hs]; exact h3)⟩
  | newGen _ ih =>
    intro f ng G2 r
    obtain ⟨G3, r3, n3, e3, h3⟩ := ih f (ng.push _) _ (r.push _)
    exact ⟨G3, r3, n3, e3, .newGen (by rw [r.size] at h3; exact h3)⟩
  | call _ _ i1 i2 =>
    intro f ng G2 r
    obtain ⟨G3, r3, n3, _, h3⟩ := i1 rfl ng G2 r
    obtain ⟨G4, r4, n4, e4, h4⟩ := i2 f n3 G3 r3
    exact ⟨G4, r4, n4, e4, .call h3 h4⟩
  | callSusp _ ih =>
    intro f ng G2 r
    obtain ⟨G3, r3, n3, e3, h3⟩ := ih rfl ng G2 r
    exact ⟨G3, r3, n3, split_snoc e3 rfl, .callSusp h3⟩
  | yield => intro _ ng G2 r; exact ⟨G2, r, ng, rfl, .yield⟩
  | @resumeFresh Γ p g l k s c e₁ s₁ e s' q _ hq _ i1 i2 =>
    intro f ng G2 r
    have na := r.awake q rfl
    have q2 : G2[g]? = some (.fresh c) := by rw [← r.ot g na]; exact q
    obtain ⟨G3, r3, n3, e3, h3⟩ := i1 rfl (ng.set (x := .running) fun _ _ _ _ _ _ z => by cases z) _ (r.set .running na)
    obtain ⟨G4, r4, n4, e4, h4⟩ := i2 f (n3.set e3.gen) _ (r3.set e₁.genState na)
    exact ⟨G4, r4, n4, e4, .resumeFresh q2 h3 hq h4⟩
  | @resumeSuspended Γ p g r0 l k s k₀ l₀ c₀ p₀ fs cl e₁ s₁ e s' q h1 hq _ i1 i2 =>
    intro f ng G2 r
    by_cases a : Asl G0 g
    · obtain ⟨x, z1, z2⟩ := a
      rw [(r.at g x z1 z2).1] at q
      cases x with
      | suspended k2 l2 c2 p2 fs2 cl2 =>
        cases q
        exact absurd h1 (runs_uns _)
      | _ => cases z2
    · have q2 : G2[g]? = some (.suspended k₀ l₀ c₀ p₀ fs cl) := by rw [← r.ot g a]; exact q
      obtain ⟨G3, r3, n3, e3, h3⟩ := i1 (ng g _ _ _ _ _ _ a q) (ng.set (x := .running) fun _ _ _ _ _ _ z => by cases z) _ (r.set .running a)
      obtain ⟨G4, r4, n4, e4, h4⟩ := i2 f (n3.set e3.gen) _ (r3.set e₁.genState a)
      exact ⟨G4, r4, n4, e4, .resumeSuspended q2 h3 hq h4⟩
  | resumeJustStarted q hv _ ih =>
    intro f ng G2 r
    have na := r.awake q rfl
    obtain ⟨G3, r3, n3, e3, h3⟩ := ih f ng G2 r
    exact ⟨G3, r3, n3, e3, .resumeJustStarted (by rw [← r.ot _ na]; exact q) hv h3⟩
  | resumeThrowFresh q _ ih =>
    intro f ng G2 r
    have na := r.awake q rfl
    obtain ⟨G3, r3, n3, e3, h3⟩ := ih f (ng.set (x := .finished) fun _ _ _ _ _ _ z => by cases z) _ (r.set .finished na)
    exact ⟨G3, r3, n3, e3, .resumeThrowFresh (by rw [← r.ot _ na]; exact q) h3⟩
  | resumeRunning q _ ih =>
    intro f ng G2 r
    have na := r.awake q rfl
    obtain ⟨G3, r3, n3, e3, h3⟩ := ih f ng G2 r
    exact ⟨G3, r3, n3, e3, .resumeRunning (by rw [← r.ot _ na]; exact q) h3⟩
  | resumeFinished q _ ih =>
    intro f ng G2 r
    have na := r.awake q rfl
    obtain ⟨G3, r3, n3, e3, h3⟩ := ih f ng G2 r
    exact ⟨G3, r3, n3, e3, .resumeFinished (by rw [← r.ot _ na]; exact q) h3⟩
  | segRet _ _ i1 i2 =>
    intro f ng G2 r
    obtain ⟨G3, r3, n3, _, h3⟩ := i1 rfl ng G2 r
    obtain ⟨G4, r4, n4, e4, h4⟩ := i2 (split_tail f) n3 G3 r3
    exact ⟨G4, r4, n4, e4, .segRet h3 h4⟩
  | segGen _ _ _ _ => intro f; exact absurd f split_gen
  | segSuspOut q _ ih =>
    intro f ng G2 r
    obtain ⟨G3, r3, n3, e3, h3⟩ := ih rfl ng G2 r
    exact ⟨G3, r3, n3, split_snoc e3 q, .segSuspOut q h3⟩
  | segSuspGen q _ _ _ _ _ => intro f; rw [f] at q; cases q
end G

set_option Elab.async false
set_option linter.all false
set_option maxRecDepth 100000
set_option maxHeartbeats 4000000
namespace G
open PySem L2 PyProof.Rows
open Sem (wp)
theorem returns_pz {M : Model} {G0 : Array GenState} {Γ : Ctx} {p : Pos} {s s' : Shared} {r : Result} (h : Returns M Γ p s r s') (ng : NGs G0 s.gens) {G2 : Array GenState} (rl : RelP G0 s.gens G2) :
    ∃ G3, RelP G0 s'.gens G3 ∧ NGs G0 s'.gens ∧ Returns M Γ p { s with gens := G2 } r { s' with gens := G3 } := by
  obtain ⟨G3, r3, n3, _, h3⟩ := runs_pz h rfl ng G2 rl
  exact ⟨G3, r3, n3, h3⟩
theorem wakes_pz {M : Model} {G0 : Array GenState} {Γ : Ctx} {p : Pos} {g : Nat} {r : Resume} {s s' : Shared} {res : GenResult} (h : Wakes M Γ p g r s res s') (ng : NGs G0 s.gens) {G2 : Array GenState} (rl : RelP G0 s.gens G2) :
    ∃ G3, RelP G0 s'.gens G3 ∧ NGs G0 s'.gens ∧ Wakes M Γ p g r { s with gens := G2 } res { s' with gens := G3 } := by
  cases q : s.gens[g]? with
  | none =>
    unfold Wakes at h
    rw [q] at h
    exact h.elim
  | some x =>
    cases x with
    | fresh c =>
      have na := rl.awake q rfl
      have q2 : ({ s with gens := G2 } : Shared).gens[g]? = some (.fresh c) := by
        show G2[g]? = _
        rw [← rl.ot _ na]; exact q
      unfold Wakes at h ⊢
      rw [q] at h
      rw [q2]
      have run : (∃ e₁ s₁, Runs M (Γ.wake c p) p (M.den c) [] (s.setGen g .running) e₁ s₁ ∧ e₁.quiet = true ∧ res = e₁.result ∧ s' = s₁.setGen g e₁.genState) → ∃ G3, RelP G0 s'.gens G3 ∧ NGs G0 s'.gens ∧
          ∃ e₁ s₁, Runs M (Γ.wake c p) p (M.den c) [] (({ s with gens := G2 } : Shared).setGen g .running) e₁ s₁ ∧ e₁.quiet = true ∧ res = e₁.result ∧ ({ s' with gens := G3 } : Shared) = s₁.setGen g e₁.genState := by
        rintro ⟨e1, s1, hr, hq, rfl, rfl⟩
        obtain ⟨G3, r3, n3, e3, h3⟩ := runs_pz hr rfl (ng.set (x := .running) fun _ _ _ _ _ _ z => by cases z) _ (rl.set .running na)
        exact ⟨_, r3.set e1.genState na, n3.set e3.gen, e1, _, h3, hq, rfl, rfl⟩
      dsimp only at h ⊢
      split at h
      · exact run h
      · obtain ⟨rfl, rfl⟩ := h
        exact ⟨G2, rl, ng, rfl, rfl⟩
      · obtain ⟨rfl, rfl⟩ := h
        exact ⟨_, rl.set .finished na, ng.set (fun _ _ _ _ _ _ z => (by cases z)), rfl, rfl⟩
    | suspended k₀ l₀ c₀ p₀ fs cl =>
      unfold Wakes at h
      rw [q] at h
      obtain ⟨e1, s1, hr, hq, rfl, rfl⟩ := h
      by_cases a : Asl G0 g
      · obtain ⟨x, z1, z2⟩ := a
        rw [(rl.at g x z1 z2).1] at q
        cases x with
        | suspended k2 l2 c2 p2 fs2 cl2 =>
          cases q
          exact absurd hr (runs_uns _)
        | _ => cases z2
      · have q2 : ({ s with gens := G2 } : Shared).gens[g]? = some (.suspended k₀ l₀ c₀ p₀ fs cl) := by
          show G2[g]? = _
          rw [← rl.ot g a]; exact q
        obtain ⟨G3, r3, n3, e3, h3⟩ := runs_pz hr (ng g _ _ _ _ _ _ a q) (ng.set (x := .running) fun _ _ _ _ _ _ z => by cases z) _ (rl.set .running a)
        refine ⟨_, r3.set e1.genState a, n3.set e3.gen, ?_⟩
        unfold Wakes
        rw [q2]
        exact ⟨e1, _, h3, hq, rfl, rfl⟩
    | running =>
      have na := rl.awake q rfl
      have q2 : ({ s with gens := G2 } : Shared).gens[g]? = some .running := by
        show G2[g]? = _
        rw [← rl.ot _ na]; exact q
      unfold Wakes at h ⊢
      rw [q] at h
      rw [q2]
      obtain ⟨rfl, rfl⟩ := h
      exact ⟨G2, rl, ng, rfl, rfl⟩
    | finished =>
      have na := rl.awake q rfl
      have q2 : ({ s with gens := G2 } : Shared).gens[g]? = some .finished := by
        show G2[g]? = _
        rw [← rl.ot _ na]; exact q
      unfold Wakes at h ⊢
      rw [q] at h
      rw [q2]
      obtain ⟨rfl, rfl⟩ := h
      exact ⟨G2, rl, ng, rfl, rfl⟩
/-- what holds behind a run with the sleepers put off, told of the run itself -/
def Bk {α : Type} (G0 : Array GenState) (Q : α → Pos → Shared → Prop) : α → Pos → Shared → Prop := fun a p s => ∃ s1 G, s = { s1 with gens := G } ∧ RelP G0 s1.gens G ∧ Q a p s1
theorem wp_pz {α : Type} (M : Model) (Γ : Ctx) (G0 : Array GenState) (t : Sem α) : ∀ (Q : α → Pos → Shared → Prop) (E : Value → Pos → Shared → Prop) (p : Pos) (s : Shared) (G2 : Array GenState), NGs G0 s.gens → RelP G0 s.gens G2 → wp M Γ t Q E p s →
    wp M Γ t (Bk G0 Q) (Bk G0 E) p { s with gens := G2 } := by
  induction t with
  | pure a => intro Q E p s G2 ng r q; exact ⟨s, G2, rfl, r, q⟩
  | raise e => intro Q E p s G2 ng r q; exact ⟨s, G2, rfl, r, q⟩
  | load a _ k ih => intro Q E p s G2 ng r q; obtain ⟨o, ho, q⟩ := q; exact ⟨o, ho, ih o Q E p s G2 ng r q⟩
  | update a _ f k ih => intro Q E p s G2 ng r q; exact ⟨q.1, ih () Q E p { s with heap := s.heap.update a f } G2 ng r q.2⟩
  | alloc o k ih => intro Q E p s G2 ng r q; exact ih _ Q E p { s with heap := s.heap.push o } G2 ng r q
  | choose src m k ih => intro Q E p s G2 ng r q; exact ⟨q.1, ih _ Q E p { s with drawn := s.drawn.bump src } G2 ng r q.2⟩
  | call c hd _ _ k ih =>
    intro Q E p s G2 ng r q
    obtain ⟨res, s', hr, q⟩ := q
    obtain ⟨G3, r3, n3, h3⟩ := returns_pz hr ng r
    exact ⟨res, _, h3, ih res Q E p s' G3 n3 r3 q⟩
  | genState g k ih =>
    intro Q E p s G2 ng r q
    obtain ⟨st, hs, q⟩ := q
    obtain ⟨y, hy, he⟩ := r.seen hs
    exact ⟨y, hy, by rw [he]; exact ih _ Q E p s G2 ng r q⟩
  | resume g r0 _ k ih =>
    intro Q E p s G2 ng r q
    obtain ⟨res, s', hw, q⟩ := q
    obtain ⟨G3, r3, n3, h3⟩ := wakes_pz hw ng r
    exact ⟨res, _, h3, ih res Q E p s' G3 n3 r3 q⟩
  | newGen c k ih =>
    intro Q E p s G2 ng r q
    have z := ih s.gens.size Q E p { s with gens := s.gens.push (.fresh c) } _ (ng.push c) (r.push (.fresh c)) q
    rw [r.size] at z
    exact z
  | unsupported _ => intro Q E p s _ _ _ q; exact q
  | finish _ => intro Q E p s _ _ _ q; exact q
  | register _ _ => intro Q E p s _ _ _ q; exact q
  | yield _ _ _ _ => intro Q E p s _ _ _ q; exact q
  | fork _ _ => intro Q E p s _ _ _ q; exact q
  | await _ _ _ _ _ => intro Q E p s _ _ _ q; exact q
  | rule _ k ih => intro Q E p s G2 ng r q; exact ih _ Q E p s G2 ng r q
  | «at» p' k ih => intro Q E p s G2 ng r q; exact ih _ Q E p' s G2 ng r q
  | loadIfAlive a k ih => intro Q E p s G2 ng r q; exact ih _ Q E p s G2 ng r q
  | point _ k ih => intro Q E p s G2 ng r q; exact ih _ Q E p s G2 ng r q
  | fresh k ih => intro Q E p s G2 ng r q; exact ih _ Q E p { s with toks := s.toks + 1 } G2 ng r q
  | ask k ih => intro Q E p s G2 ng r q; exact ih _ Q E p s G2 ng r q
  | os q0 _ k ih => intro Q E p s G2 ng r q; exact ih _ Q E p { s with os := (Os.step s.os q0).1 } G2 ng r q
  | handled _ k ih => intro Q E p s G2 ng r q; exact ih _ Q E p s G2 ng r q
  | stack k ih => intro Q E p s G2 ng r q; exact ih _ Q E p s G2 ng r q
  | thread k ih => intro Q E p s G2 ng r q; exact ih _ Q E p s G2 ng r q
def BkS {α : Type} (G0 : Array GenState) (Q : α → Shared → Prop) : α → Shared → Prop := fun a s => ∃ s1 G, s = { s1 with gens := G } ∧ RelP G0 s1.gens G ∧ Q a s1
/-- a run with all sleepers put off, and the run as it is -/
theorem wpAny_pz {α : Type} {M : Model} {A : Around} {t : Sem α} {Q : α → Shared → Prop} {E : Value → Shared → Prop} {s : Shared} (h : wpAny M A t Q E { s with gens := s.gens.map pz }) : wpAny M A t (BkS s.gens Q) (BkS s.gens E) s := by
  have r : RelP s.gens (s.gens.map pz) s.gens := by
    refine ⟨Array.size_map, fun i x h1 h2 => ⟨by rw [Array.getElem?_map, h1]; rfl, h1⟩, fun i hi => ?_⟩
    rw [Array.getElem?_map]
    cases e : s.gens[i]? with
    | none => rfl
    | some x =>
      cases x with
      | suspended => exact absurd ⟨_, e, rfl⟩ hi
      | _ => rfl
  have ng : NGs s.gens (s.gens.map pz) := by
    intro i k l c p fs cl hi e
    rw [Array.getElem?_map] at e
    cases q : s.gens[i]? with
    | none => rw [q] at e; cases e
    | some x =>
      cases x with
      | suspended => exact absurd ⟨_, q, rfl⟩ hi
      | _ => rw [q] at e; cases e
  exact fun Γ p hΓ => wp_pz M Γ s.gens t _ _ p { s with gens := s.gens.map pz } s.gens ng r (h Γ p hΓ)
theorem bare_pz {G : Array GenState} (h : AllBare G) : AllBare (G.map pz) := by
  intro x hx
  obtain ⟨y, hy, rfl⟩ := Array.mem_map.mp hx
  rw [pz_bare]
  exact h y hy
theorem RelP.bare {G0 G1 G2 : Array GenState} (r : RelP G0 G1 G2) (h : AllBare G1) : AllBare G2 := by
  intro x hx
  obtain ⟨i, hi, e⟩ := Array.mem_iff_getElem.mp hx
  have q : G2[i]? = some x := by rw [Array.getElem?_eq_getElem hi, e]
  by_cases a : Asl G0 i
  · obtain ⟨y, h1, h2⟩ := a
    obtain ⟨e1, e2⟩ := r.at i y h1 h2
    rw [q] at e2
    cases e2
    rw [← pz_bare]
    exact h _ (Array.mem_of_getElem? e1)
  · rw [← r.ot i a] at q
    exact h x (Array.mem_of_getElem? q)
/-- what is told of a state does not look at its generators, but that they are bare -/
theorem inv_gens {X : Cx} {pins : List (Addr × Obj)} {σ : L2.St} {H : Hp} {s : Shared} {G : Array GenState} (I : Inv X pins σ H s) (h : AllBare G) : Inv X pins σ H { s with gens := G } :=
  ⟨I.ok, I.os, h, I.base, I.loc, I.cell, I.free, I.freeC, I.pin, I.hok, I.len⟩
end G

set_option Elab.async false
set_option linter.all false
set_option maxRecDepth 100000
set_option maxHeartbeats 4000000
namespace G
open PySem L2
open Sem (wp)
/-! ## the heap below an address -/
def cutH (L : Nat) (h : Heap) : Heap := { h with objs := h.objs.take L }
theorem cutH_lt {L b : Nat} {h : Heap} (q : b < L) : (cutH L h).get? b = h.get? b := by
  unfold cutH Heap.get?
  simp only
  have e : (h.objs.take L)[b]? = h.objs[b]? := by
    rw [Array.take_eq_extract, Array.getElem?_extract]
    by_cases c : b < h.objs.size
    · rw [if_pos (by omega)]
      simp
    · rw [if_neg (by omega), Array.getElem?_eq_none (by omega)]
  rw [e]
theorem cutH_ge {L b : Nat} {h : Heap} (q : L ≤ b) : (cutH L h).get? b = none := by
  unfold cutH Heap.get?
  simp only
  have e : (h.objs.take L)[b]? = none := by
    rw [Array.take_eq_extract, Array.getElem?_extract, if_neg (by omega)]
  rw [e]
theorem cutH_size {L : Nat} {h : Heap} (q : L ≤ h.objs.size) : (cutH L h).objs.size = L := by
  unfold cutH
  simp only [Array.take_eq_extract, Array.size_extract]
  omega
theorem cutH_some {L b : Nat} {h : Heap} {o : Obj} (q : (cutH L h).get? b = some o) : h.get? b = some o ∧ b < L := by
  by_cases c : b < L
  · rw [cutH_lt c] at q
    exact ⟨q, c⟩
  · rw [cutH_ge (by omega)] at q
    cases q
def cutS (L : Nat) (s : Shared) : Shared := { s with heap := cutH L s.heap }
theorem fun_cut {L : Nat} {h base : Heap} : ∀ {l : List Env}, h.FunFrames base l → (∀ b ∈ frs l, b < L) → (cutH L h).FunFrames base l
  | [], _, _ => True.intro
  | e :: r, ⟨h1, ⟨a, o, h2, h3, h4, h5⟩, h6⟩, lt => by
    refine ⟨h1, ⟨a, o, h2, h3, ?_, h5⟩, fun_cut h6 fun b hb => lt b ?_⟩
    · rw [cutH_lt (lt a ?_)]
      · exact h4
      · unfold frs
        rw [List.filterMap_cons, h2]
        exact List.mem_cons_self
    · unfold frs at hb ⊢
      rw [List.filterMap_cons, h2]
      exact List.mem_cons_of_mem _ hb
/-! ## a def's context, begun anew at a later state -/
section
variable {P : Program} {w : World} {K : PySem.W.Frag} {mg : Str → Option Value} {base : Heap} {N : List Str} {qual : Str} {sc : Scope} {f : Addr} {cd : Value} {A A' : Around} {outer outer' : List Env} {s1 s s' : Shared} {H1 H H' : Hp} {E E' : XK} {σ : L2.St} {pins pins' : List (Addr × Obj)}
abbrev gX (P : Program) (w : World) (K : PySem.W.Frag) (mg : Str → Option Value) (base : Heap) (N : List Str) (qual : Str) (sc : Scope) (f : Addr) (cd : Value) (A : Around) (outer : List Env) (s : Shared) (H : Hp) : Cx := cxOf (L2.CX P w) P w K mg base N qual sc f cd A outer s H fun _ _ _ => False
/-- the def's own objects: its frame and its cells -/
def ownF (qual : Str) (sc : Scope) (L f : Addr) (cd : Value) (b : Addr) : Prop := b = L ∨ ∃ x, (PyProof.Rows.envOfC qual sc L f cd).cells.lookup x = some b
theorem inv_again {L : Nat} (hL : s1.heap.objs.size = L) (I : Inv (gX P w K mg base N qual sc f cd A outer s1 H1) pins σ H s) (e0 : Env0 P w K mg base A' outer' s' H') (hd : A'.handled = none) (hfl : ∀ b ∈ frs outer', b < L) (hbl : base.objs.size ≤ L) (hsz : L < s'.heap.objs.size)
    (kp : ∀ b o, ownF qual sc L f cd b → s.heap.get? b = some o → s'.heap.get? b = some o) (nn : ∀ b, ownF qual sc L f cd b → H' b = none) (hp : ∀ p ∈ pins', s'.heap.get? p.1 = some p.2 ∧ H' p.1 = none ∧ p.1 ≠ L ∧ p.1 ∉ frs outer' ∧ ∀ v, p.2.data ≠ .cell v) :
    Inv (gX P w K mg base N qual sc f cd A' outer' (cutS L s') H') pins' σ H' s' := by
  subst hL
  have eS : (cutS s1.heap.objs.size s').heap.objs.size = s1.heap.objs.size := cutH_size (Nat.le_of_lt hsz)
  have ok := I.ok
  have eV : (gX P w K mg base N qual sc f cd A' outer' (cutS s1.heap.objs.size s') H').env = PyProof.Rows.envOfC qual sc s1.heap.objs.size f cd := by
    show PyProof.Rows.envOfC qual sc (cutS s1.heap.objs.size s').heap.objs.size f cd = _
    rw [eS]
  have lt0 : ∀ b o, base.get? b = some o → b < s1.heap.objs.size := fun b o e => Nat.lt_of_lt_of_le (Heap.lt_size e) hbl
  refine ⟨⟨e0.mod, ok.kind, rfl, rfl, ?_, ?_, ?_, ?_, fun _ => hd, ?_, .inr ⟨rfl, rfl⟩, fun b z => (by cases z), fun b o e => ⟨?_, (e0.bs b o e).2⟩, ?_, fun b o _ z => (by cases z), fun b z => (by cases z), fun_cut e0.funs hfl, e0.frf⟩, rfl, e0.bare, ?_, ?_, ?_, ?_, ?_, ?_, e0.hok, I.len⟩
  · exact Nat.le_refl _
  · rw [eV]; exact ok.inj
  · rw [eV]; exact ok.has
  · rw [eV]
    intro x c h1 h2
    show (cutS s1.heap.objs.size s').heap.objs.size ≤ c
    rw [eS]
    exact ok.cab x c h1 h2
  · exact Around.frames_deeper e0.frames
  · show (cutH _ s'.heap).get? b = some o
    rw [cutH_lt (lt0 b o e)]
    exact (e0.bs b o e).1
  · show base.objs.size ≤ (cutS s1.heap.objs.size s').heap.objs.size
    rw [eS]; exact hbl
  · exact ⟨fun b o e _ _ _ => (cutH_some e).1, fun b o e _ _ _ => ⟨o.slots, (cutH_some e).1⟩, fun b o _ n _ => n, fun b o e _ => ⟨o, (cutH_some e).1⟩, fun _ _ e => e, fun _ _ _ e => e, fun _ _ e => ⟨#[], by rw [Array.append_empty]; exact e⟩⟩
  · obtain ⟨m, hn, hl⟩ := I.loc
    rw [eV]
    refine ⟨m, ?_, fun i x v h1 h2 h3 => ?_⟩
    · obtain ⟨ob, es, ep, ho, r⟩ := hn
      exact ⟨ob, es, ep, kp _ _ (.inl rfl) ho, r⟩
    · obtain ⟨u, r, lk⟩ := hl i x v h1 h2 h3
      refine ⟨u, r, lk.imp (fun z => z) fun ⟨z, c, e, ob, ho, q⟩ => ⟨z, c, e, ob, kp _ _ (.inr ⟨x, e⟩) ho, q⟩⟩
  · rw [eV]
    intro x c e
    obtain ⟨v, ob, ho, q⟩ := I.cell x c e
    exact ⟨v, ob, kp _ _ (.inr ⟨x, e⟩) ho, q⟩
  · rw [eV]; exact nn _ (.inl rfl)
  · rw [eV]
    intro x c e
    exact nn _ (.inr ⟨x, e⟩)
  · rw [eV]
    intro p hpp
    have hpp : p ∈ [] ++ pins' := hpp
    exact hp p (by simpa using hpp)
end
/-! ## a run of a generator's code to its next halt -/
def Rt (M : Model) (A : Around) (Φ : End → Shared → Prop) (c : Code) (t : Sem PySem.Fin) (fs : List Frame) (s : Shared) : Prop := ∀ (Γ : Ctx) (p : Pos), Γ.code = c → Γ.Woken A → ∃ (e : End) (z : Shared), Runs M Γ p t fs s e z ∧ Φ e z
section
variable {M : Model} {A : Around} {Φ : End → Shared → Prop} {c : Code} {fs : List Frame} {s : Shared}
theorem rt_wrap {α : Type} {m : Sem α} {K : α → Sem PySem.Fin} {J : Value → Sem PySem.Fin} {gd : Bool → Bool} {lv : List Value → List Value}
    (h : wpAny M (A.over c fs) m (fun a s' => Rt M A Φ c (K a) fs s') (fun x s' => Rt M A Φ c (J x) fs s') s) : Rt M A Φ c (m.wrap K J gd lv) fs s := by
  intro Γ p e hΓ
  subst e
  exact runs_wrap_of_wp K J gd lv m (h (Γ.over fs) p (hΓ.over fs)) (fun a q z y => y Γ q rfl hΓ) fun x q z y => y Γ q rfl hΓ
theorem rt_at {q : Pos} {k : Unit → Sem PySem.Fin} (h : Rt M A Φ c (k ()) fs s) : Rt M A Φ c (.at q k) fs s := fun Γ p e hΓ => by
  obtain ⟨x, z, hr, y⟩ := h Γ q e hΓ
  exact ⟨x, z, Runs.head' (fun _ _ u => .at u) hr, y⟩
theorem rt_point {l : List Value} {k : Unit → Sem PySem.Fin} (h : Rt M A Φ c (k ()) fs s) : Rt M A Φ c (.point l k) fs s := fun Γ p e hΓ => by
  obtain ⟨x, z, hr, y⟩ := h Γ p e hΓ
  exact ⟨x, z, Runs.head' (fun _ _ u => .point u) hr, y⟩
theorem rt_call {c' : Code} {h : Option Value} {g : Bool} {l : List Value} {k : Result → Sem PySem.Fin} (hc : ∀ p, Rt M A Φ c' (M.den c') (.ret k h g l c p [] :: fs) s) : Rt M A Φ c (.call c' h g l k) fs s := fun Γ p e hΓ => by
  subst e
  obtain ⟨x, z, hr, y⟩ := hc p (Γ.goto c') p rfl (hΓ.goto c')
  exact ⟨x, z, runs_call_seg hr, y⟩
theorem rt_leaf {k : Result → Sem PySem.Fin} {h : Option Value} {g : Bool} {l kp : List Value} {c₁ : Code} {p₁ : Pos} (r : Result) (hk : Rt M A Φ c₁ (k r) fs s) : Rt M A Φ c (leafOf r) (.ret k h g l c₁ p₁ kp :: fs) s := fun Γ p e hΓ => by
  subst e
  obtain ⟨x, z, hr, y⟩ := hk (Γ.goto c₁) p₁ rfl (hΓ.goto c₁)
  exact ⟨x, z, Runs.pop r hr, y⟩
theorem rt_again {c' : Code} (hq : c'.quiet = true) (hc : Rt M A Φ c' (M.den c') fs s) : Rt M A Φ c (.pure (.again c')) fs s := fun Γ p e hΓ => by
  subst e
  obtain ⟨x, z, hr, y⟩ := hc (Γ.goto c') p rfl (hΓ.goto c')
  exact ⟨x, z, Runs.head (c₁ := c') (fun _ _ u => .again hq u) hr, y⟩
theorem rt_end (r : Result) (h : Φ (.ret r) s) : Rt M A Φ c (leafOf r) [] s := fun Γ p e _ => ⟨.ret r, s, Runs.leaf r, h⟩
theorem rt_yield {v : Value} {g : Bool} {l : List Value} {k : Resume → Sem PySem.Fin} (hfs : splitAtGen fs = none) (h : ∀ p, Φ (.susp v g l k c p fs) s) : Rt M A Φ c (.yield v g l k) fs s := fun Γ p e _ => by
  subst e
  exact ⟨_, s, Runs.yield' fs hfs, h p⟩
/-- the run of a generator in that state, once it is woken -/
def Rg (M : Model) (A : Around) (gs : GenState) (s : Shared) (Φ : End → Shared → Prop) : Prop := match gs with
  | .fresh c => Rt M A Φ c (M.den c) [] s
  | .suspended k _ c _ fs _ => Rt M A Φ c (k (.send .none)) fs s
  | _ => False
theorem wpAny_wake {α : Type} {E : Value → Shared → Prop} {g : Nat} {gs : GenState} {l : List Value} {k : GenResult → Sem α} {Q : α → Shared → Prop} (hg : s.gens[g]? = some gs) (hgo : Rg M A gs (s.setGen g .running) Φ)
    (hq : ∀ e z, Φ e z → e.quiet = true) (hk : ∀ e z, Φ e z → wpAny M A (k e.result) Q E (z.setGen g e.genState)) : wpAny M A (.resume g (.send .none) l k) Q E s := by
  intro Γ p hΓ
  rw [Sem.wp_resume]
  cases gs with
  | fresh c =>
    obtain ⟨e, z, hr, he⟩ := hgo (Γ.wake c p) p rfl (hΓ.wake c p)
    exact ⟨_, _, by unfold Wakes; rw [hg]; exact ⟨e, z, hr, hq e z he, rfl, rfl⟩, hk e z he Γ p hΓ⟩
  | suspended k₀ l₀ c₀ p₀ fs₀ cl =>
    obtain ⟨e, z, hr, he⟩ := hgo (Γ.wake c₀ p) p₀ rfl (hΓ.wake c₀ p)
    exact ⟨_, _, by unfold Wakes; rw [hg]; exact ⟨e, z, hr, hq e z he, rfl, rfl⟩, hk e z he Γ p hΓ⟩
  | running => exact hgo.elim
  | finished => exact hgo.elim
end
section
variable {P : Program} {w : World} {A : Around} {E : Value → Shared → Prop} {s : Shared}
theorem next_rg {a : Addr} {g : Nat} {gs : GenState} {Φ : End → Shared → Prop} {Q : Option Value → Shared → Prop} (hh : A.handled = none) (hl : s.heap.NoLimit) (hroom : A.depth < recursionLimit) (hg : s.heap.IsGen a g) (hgs : s.gens[g]? = some gs)
    (hgo : Rg (model P w) A.in1 gs (s.setGen g .running) Φ)
    (hΦ : ∀ e z, Φ e z → (∃ v, e.result = .yielded v ∧ e.quiet = true ∧ Q (some v) (z.setGen g e.genState)) ∨ (e = .ret (.ok (.ret .none)) ∧ ∀ h', (∀ b o, z.heap.get? b = some o → h'.get? b = some o) → Q none { z.setGen g .finished with heap := h' })) :
    wpAny (model P w) A (pyNext (.ref a)) Q E s := by
  unfold pyNext
  refine wpAny_bind (wpAny_attempt (wpAny_callSpecial?_slot (name := Str.ofString "__next__") hg.typeIs slot_gen_next (wpAny_call_entry slot_gen_next hg.typeIs entry_gen_next ?_ (args_gen_next _))))
  show wpAny _ A.in1 (Builtin.Generator.genWake (.ref a) (.send .none)) _ _ s
  unfold Builtin.Generator.genWake
  refine wpAny_bind (wpAny_holding (wpAny_genNumber hg (wpAny_bind (wpAny_genState hgs ?_))))
  cases gs with
  | running => exact hgo.elim
  | finished => exact hgo.elim
  | _ =>
    refine wpAny_bind (wpAny_roomToWake hl hroom ?_)
    show wpAny _ A.in1 (.resume g (.send .none) [] _) _ _ s
    refine wpAny_wake hgs hgo (fun e z hz => ?_) (fun e z hz => ?_)
    · rcases hΦ e z hz with ⟨_, _, q, _⟩ | ⟨rfl, _⟩
      · exact q
      · rfl
    · rcases hΦ e z hz with ⟨v, hv, _, q⟩ | ⟨rfl, hp⟩
      · rw [hv]
        exact wpAny_pure ⟨v, rfl, wpAny_pure q⟩
      · show wpAny _ A.in1 (newExc (.type "StopIteration") [] >>= _) _ _ _
        refine wpAny_bind ?_
        simp only [newExc, newTuple]
        refine wpAny_bind (wpAny_newObj_type ?_ (by size_fits))
        refine wpAny_bind (m := firstArgMember _ _) (wpAny_of_eq (a := Value.none) (by first | rfl | (simp only [firstArgMember]; rfl)) ?_)
        refine wpAny_newObj_type ?_ (by size_fits)
        simp only [raiseNew]
        refine wpAny_bind (wpAny_bind (wpAny_handled ?_))
        first | rw [show A.in1.handled = none from hh] | rw [hh]
        refine wpAny_throw ?_
        refine wpAny_bind (wpAny_isInstance (T := "StopIteration") (b := true) ⟨_, Heap.get?_push_size _ rfl, rfl⟩ isSubtype_stop ?_)
        exact wpAny_pure (hp _ fun b o hb => Heap.get?_push_of_some _ (Heap.get?_push_of_some _ hb))
end
end G

set_option Elab.async false
set_option linter.all false
set_option maxRecDepth 100000
set_option maxHeartbeats 4000000
namespace G
open PySem L2
open Sem (wp)
/-! ## the statements of a generator -/
/-- a run has an end -/
theorem wp_no {α : Type} {M : Model} {Γ : Ctx} (t : Sem α) : ∀ (Q : α → Pos → Shared → Prop) (E : Value → Pos → Shared → Prop) (p : Pos) (s : Shared), (∀ a p s, ¬ Q a p s) → (∀ a p s, ¬ E a p s) → ¬ wp M Γ t Q E p s := by
  induction t with
  | pure a => intro Q E p s h1 h2 q; exact h1 _ _ _ q
  | raise e => intro Q E p s h1 h2 q; exact h2 _ _ _ q
  | load a _ k ih => intro Q E p s h1 h2 q; obtain ⟨o, _, q⟩ := q; exact ih o Q E p s h1 h2 q
  | update a _ f k ih => intro Q E p s h1 h2 q; exact ih () Q E p _ h1 h2 q.2
  | alloc o k ih => intro Q E p s h1 h2 q; exact ih _ Q E p _ h1 h2 q
  | choose src m k ih => intro Q E p s h1 h2 q; exact ih _ Q E p _ h1 h2 q.2
  | call c hd _ _ k ih => intro Q E p s h1 h2 q; obtain ⟨r, s', _, q⟩ := q; exact ih r Q E p s' h1 h2 q
  | genState g k ih => intro Q E p s h1 h2 q; obtain ⟨st, _, q⟩ := q; exact ih _ Q E p s h1 h2 q
  | resume g r _ k ih => intro Q E p s h1 h2 q; obtain ⟨res, s', _, q⟩ := q; exact ih res Q E p s' h1 h2 q
  | unsupported _ => intro Q E p s _ _ q; exact q
  | finish _ => intro Q E p s _ _ q; exact q
  | register _ _ => intro Q E p s _ _ q; exact q
  | yield _ _ _ _ => intro Q E p s _ _ q; exact q
  | fork _ _ => intro Q E p s _ _ q; exact q
  | await _ _ _ _ _ => intro Q E p s _ _ q; exact q
  | rule _ k ih => intro Q E p s h1 h2 q; exact ih _ Q E p s h1 h2 q
  | «at» p' k ih => intro Q E p s h1 h2 q; exact ih _ Q E p' s h1 h2 q
  | loadIfAlive a k ih => intro Q E p s h1 h2 q; exact ih _ Q E p s h1 h2 q
  | point _ k ih => intro Q E p s h1 h2 q; exact ih _ Q E p s h1 h2 q
  | fresh k ih => intro Q E p s h1 h2 q; exact ih _ Q E p _ h1 h2 q
  | ask k ih => intro Q E p s h1 h2 q; exact ih _ Q E p s h1 h2 q
  | os _ _ k ih => intro Q E p s h1 h2 q; exact ih _ Q E p _ h1 h2 q
  | handled _ k ih => intro Q E p s h1 h2 q; exact ih _ Q E p s h1 h2 q
  | newGen _ k ih => intro Q E p s h1 h2 q; exact ih _ Q E p _ h1 h2 q
  | stack k ih => intro Q E p s h1 h2 q; exact ih _ Q E p s h1 h2 q
  | thread k ih => intro Q E p s h1 h2 q; exact ih _ Q E p s h1 h2 q
section
variable {M : Model} {A : Around} {Φ : End → Shared → Prop} {c : Code} {fs : List Frame} {s : Shared} {env : Env} {K : Flow → Sem PySem.Fin} {J : Value → Sem PySem.Fin} {gd : Bool → Bool} {lv : List Value → List Value}
theorem rt_no {α : Type} {t : Sem α} {u : Sem PySem.Fin} (h : wpAny M (A.over c fs) t (fun _ _ => False) (fun _ _ => False) s) : Rt M A Φ c u fs s := fun Γ p e hΓ => by
  subst e
  exact absurd (h (Γ.over fs) p (hΓ.over fs)) (wp_no t _ _ _ _ (fun _ _ _ q => q) fun _ _ _ q => q)
theorem rt_bindw {α β : Type} {m : Sem α} {f : α → Sem β} {K : β → Sem PySem.Fin} (h : wpAny M (A.over c fs) m (fun a s' => Rt M A Φ c ((f a).wrap K J gd lv) fs s') (fun x s' => Rt M A Φ c (J x) fs s') s) : Rt M A Φ c ((m >>= f).wrap K J gd lv) fs s := by
  rw [Sem.bind_eq_wrap', Sem.wrap_wrap]
  exact rt_wrap h
theorem rt_bind2 {α β γ : Type} {m : Sem α} {f : α → Sem β} {f2 : β → Sem γ} {K : γ → Sem PySem.Fin}
    (h : wpAny M (A.over c fs) m (fun a s' => Rt M A Φ c ((f a).wrap (fun b => (f2 b).wrap K J gd lv) J gd lv) fs s') (fun x s' => Rt M A Φ c (J x) fs s') s) : Rt M A Φ c (((m >>= f) >>= f2).wrap K J gd lv) fs s := by
  rw [Sem.bind_eq_wrap' (m >>= f) f2, Sem.wrap_wrap]
  exact rt_bindw h
theorem rt_execs {st : Stmt} {rest : List Stmt} (h : Rt M A Φ c ((exec st env).wrap (fun f => match f with | .next => (execs rest env).wrap K J gd lv | f => K f) J gd lv) fs s) : Rt M A Φ c ((execs (st :: rest) env).wrap K J gd lv) fs s := by
  rw [execs_cons_wrap]; exact h
theorem execs_app (xs ys : List Stmt) : (execs (xs ++ ys) env).wrap K J gd lv = (execs xs env).wrap (fun f => match f with | .next => (execs ys env).wrap K J gd lv | f => K f) J gd lv := by
  induction xs generalizing K with
  | nil => rfl
  | cons x xs ih =>
    rw [List.cons_append, execs_cons_wrap, execs_cons_wrap]
    refine Sem.wrap_congr _ _ _ (fun f => ?_) fun _ => rfl
    cases f with
    | next => exact ih
    | _ => rfl
theorem rt_yieldS {e : Expr} {yp pos : Pos} (hfs : splitAtGen fs = none) (hfg : fs.any Frame.guarded = false) (hgd : gd false = false)
    (h : wpAny M (A.over c fs) (eval e env) (fun v s' => ∀ (k : Resume → Sem PySem.Fin) (l : List Value) (p : Pos), k (.send .none) = K .next → Φ (.susp v false l k c p fs) s') (fun x s' => Rt M A Φ c (J x) fs s') s)
    (hco : env.scope.isCoroutine = false := by rfl) (hi : interactive env = false := by rfl) : Rt M A Φ c ((exec (.Expr (.Yield (some e) yp) pos) env).wrap K J gd lv) fs s := by
  rw [exec_Expr env _ pos hi rfl]
  show Rt M A Φ c (.at pos fun _ => ((eval e env >>= fun v => (standAt yp >>= fun _ => yieldOut env v)) >>= fun x => dropValue (.Yield (some e) yp) pos x).wrap K J gd lv) fs s
  have hy : ∀ v, yieldOut env v = yieldValue v := fun v => by simp only [yieldOut, hco, Bool.false_eq_true, if_false]
  simp only [hy]
  refine rt_at (rt_bind2 (wpAny_mono h (fun v s' h' => ?_) fun _ _ x => x))
  refine rt_at ?_
  show Rt M A Φ c (.yield v (gd false) _ _) fs s'
  rw [hgd]
  exact rt_yield hfs fun p => h' _ _ p rfl
end
end G

set_option Elab.async false
set_option linter.all false
set_option maxRecDepth 100000
set_option maxHeartbeats 4000000
namespace G
open PySem L2 PyProof.Rows
open Sem (wp)
/-! ## generators: a loop whose turns end with a yield -/
/-- it is woken here -/
structure Wk (g : Gm) (P : Program) (w : World) (K : PySem.W.Frag) (mg : Str → Option Value) (base : Heap) (A : Around) (outer : List Env) (z : Addr → Option Obj) (F : Hp) (s : Shared) (H F' : Hp) (O : Sto) : Prop where
  e0 : Env0 P w K mg base A outer s H
  sm : Same F F'
  wd : Wd g F' O H
  zz : ∀ b o, z b = some o → s.heap.get? b = some o ∧ H b = none
/-- what a run of it does to all else -/
structure Eff (g : Gm) (P : Program) (w : World) (outer : List Env) (L : Nat) (s : Shared) (H F : Hp) (O : Sto) (s1 : Shared) (H1 F1 : Hp) : Prop where
  os : s1.os = s.os
  bare : AllBare s1.gens
  sm : Same F F1
  wd : Wd g F1 O H1
  un : Un (frs outer) (List.range' L (s.heap.objs.size - L)) H H1 s.heap s1.heap
  hok : HOk P w H1 s1.heap
def PhiS (g : Gm) (P : Program) (w : World) (K : PySem.W.Frag) (mg : Str → Option Value) (base : Heap) (A : Around) (outer : List Env) (L : Nat) (pins : List (Addr × Obj)) : List D → Shared → Hp → Hp → Sto → End → Shared → Prop
  | [], s, H, F, O => fun e s1 => e = .ret (.ok (.ret .none)) ∧ ∃ H1 F1, Eff g P w outer L s H F O s1 H1 F1
  | d :: r, s, H, F, O => fun e s1 => ∃ (v : Value) (u : V) (z : Addr → Option Obj) (H1 F1 : Hp), e.result = .yielded v ∧ e.quiet = true ∧ slp e.genState = true ∧ RelV u v ∧ Rep g F1 d u ∧ Eff g P w outer L s H F O s1 H1 F1 ∧ (∀ b o, z b = some o → s1.heap.get? b = some o ∧ H1 b = none ∧ L ≤ b) ∧ (∀ q ∈ pins, z q.1 = some q.2) ∧
    ∀ s' H' F' O', Wk g P w K mg base A outer z F1 s' H' F' O' → Rg (model P w) A e.genState s' (PhiS g P w K mg base A outer L pins r s' H' F' O')
/-- the generator in this state hands out ys -/
abbrev Slp (g : Gm) (P : Program) (w : World) (K : PySem.W.Frag) (mg : Str → Option Value) (base : Heap) (A : Around) (outer : List Env) (L : Nat) (pins : List (Addr × Obj)) (ys : List D) (gs : GenState) (z : Addr → Option Obj) (F : Hp) : Prop :=
  ∀ s H F' O, Wk g P w K mg base A outer z F s H F' O → Rg (model P w) A gs s (PhiS g P w K mg base A outer L pins ys s H F' O)
section
variable {g : Gm} {P : Program} {w : World} {K : PySem.W.Frag} {mg : Str → Option Value} {base : Heap} {N : List Str} {qual : Str} {sc : Scope} {f : Addr} {cd : Value} {A : Around} {outer : List Env} {L : Nat}
abbrev gE (qual : Str) (sc : Scope) (L f : Addr) (cd : Value) : Env := envOfC qual sc L f cd
/-- the context, its frame at L -/
abbrev gY (P : Program) (w : World) (K : PySem.W.Frag) (mg : Str → Option Value) (base : Heap) (N : List Str) (qual : Str) (sc : Scope) (f : Addr) (cd : Value) (L : Nat) (A : Around) (outer : List Env) (s : Shared) (H : Hp) : Cx :=
  { gX P w K mg base N qual sc f cd A outer s H with
    A := A.deeper (gE qual sc L f cd), env := gE qual sc L f cd, stack := gE qual sc L f cd :: outer,
    xe := fun e s' => wpAny (model P w) (A.deeper (gE qual sc L f cd)) (leaving (gE qual sc L f cd) e) (fun _ s'' => L2.CX P w outer H s (fun _ _ _ => False) e s'') (fun e' s'' => L2.CX P w outer H s (fun _ _ _ => False) e' s'') s' }
theorem gX_eq {s : Shared} {H : Hp} (h : s.heap.objs.size = L) : gX P w K mg base N qual sc f cd A outer s H = gY P w K mg base N qual sc f cd L A outer s H := by
  subst h; rfl
theorem cx_no {s s' : Shared} {H : Hp} {e : Value} : ¬ L2.CX P w outer H s (fun _ _ _ => False) e s' := fun ⟨_, _, _, _, _, _, _, _, _, _, _, _, q⟩ => q
theorem xe_no {s s' : Shared} {H : Hp} {e : Value} (h : (gY P w K mg base N qual sc f cd L A outer s H).xe e s') : wpAny (model P w) (A.deeper (gE qual sc L f cd)) (leaving (gE qual sc L f cd) e) (fun _ _ => False) (fun _ _ => False) s' :=
  wpAny_mono h (fun _ _ q => cx_no q) fun _ _ q => cx_no q
/-- the walk of a turn -/
structure GWalk (g : Gm) (X : Cx) (tg : Expr) (t : TG) (b : List Stmt) (e : Expr) (B : DS) (Te : DE) : Prop where
  pg : PG X tg t
  ps : PSs X b (ls g (wE fun _ _ _ => False) B)
  pe : PE X e (le g (wE fun _ _ _ => False) Te)
theorem le_sub (a b : Nat) : b ≤ a + (b - a) := by omega
theorem eff_of {s0 s1 : Shared} {H0 F0 H1 F1 : Hp} {O0 : Sto} {pins : List (Addr × Obj)} {σ : L2.St} (I : Inv (gY P w K mg base N qual sc f cd L A outer (cutS L s0) H0) pins σ H1 s1) (sm : Same F0 F1) (wd : Wd g F1 O0 H1) : Eff g P w outer L s0 H0 F0 O0 s1 H1 F1 := by
  have u : Un (frs outer) [] H0 H1 (cutH L s0.heap) s1.heap := I.base
  have lt : ∀ b o, s0.heap.get? b = some o → b ∉ List.range' L (s0.heap.objs.size - L) → (cutH L s0.heap).get? b = some o := fun b o e n => by
    have h1 : (b : Nat) < s0.heap.objs.size := Heap.lt_size e
    have h2 : b < L := by
      rcases Nat.lt_or_ge b L with c | c
      · exact c
      · exact absurd (List.mem_range'_1.mpr ⟨c, Nat.lt_of_lt_of_le h1 (le_sub L _)⟩) n
    rw [cutH_lt h2]; exact e
  exact ⟨I.os, I.bare, sm, wd, ⟨fun b o e n h1 h2 => u.keep b o (lt b o e h2) n h1 (by simp), fun b o e n h1 h2 => u.slot b o (lt b o e h2) n h1 (by simp), fun b o e n h2 => u.free b o (lt b o e h2) n (by simp), fun b o e h2 => u.there b o (lt b o e h2) (by simp), u.tups, u.frzs, u.tbls⟩, I.hok⟩
end
end G

set_option Elab.async false
set_option linter.all false
set_option maxRecDepth 100000
set_option maxHeartbeats 4000000
namespace G
open PySem L2 PyProof.Rows
open Sem (wp)
section
variable {M : Model} {A : Around} {Φ : End → Shared → Prop} {c : Code} {fs : List Frame} {s : Shared} {env : Env} {K : Flow → Sem PySem.Fin} {J : Value → Sem PySem.Fin} {gd : Bool → Bool} {lv : List Value → List Value}
/-- what comes of a loop's end -/
abbrev kFor (env : Env) (K : Flow → Sem PySem.Fin) (J : Value → Sem PySem.Fin) (gd : Bool → Bool) (lv : List Value → List Value) : Result → Sem PySem.Fin := fun r => ((match r with | .ok f => (.pure f : Sem Flow) | .error e => .raise e).onRaise (L2.cameBack env)).wrap K J gd lv
theorem rt_For {tg iter : Expr} {body : List Stmt} {pos : Pos} (hs : ∀ x, foldedSetIterable iter env x = pure x)
    (h : wpAny M (A.over c fs) (eval iter env) (fun x s1 => wpAny M (A.over c fs) (pyIter x) (fun itv s2 => ∀ p, Rt M A Φ (.forLoop tg itv body [] env) (M.den (.forLoop tg itv body [] env)) (.ret (kFor env K J gd lv) none (gd false) (lv []) c p [] :: fs) s2) (fun x s' => Rt M A Φ c (J x) fs s') s1) (fun x s' => Rt M A Φ c (J x) fs s') s) :
    Rt M A Φ c ((exec (.For tg iter body [] pos) env).wrap K J gd lv) fs s := by
  rw [exec_For]
  refine rt_bindw (wpAny_standAt ?_)
  refine rt_bindw (wpAny_mono h (fun x s1 h1 => ?_) fun _ _ q => q)
  refine rt_bindw (wpAny_of_eq (hs x) ?_)
  refine rt_bindw (wpAny_standAt ?_)
  refine rt_bindw (wpAny_holding (wpAny_mono h1 (fun itv s2 h2 => ?_) fun _ _ q => q))
  exact rt_call h2
theorem rt_func {prog : Program} {w : World} {body : List Stmt} (h : Rt (model prog w) A Φ (.func body env) ((execs body env).wrap (fun f => .pure (.done (.ret (match f with | .ret v => v | _ => .none)))) (fun e => (leaving env e).wrap (fun _ => .raise e) .raise id id) id id) fs s) :
    Rt (model prog w) A Φ (.func body env) ((model prog w).den (.func body env)) fs s := by
  show Rt _ A Φ (.func body env) (.point [] fun _ => ((execs body env).onRaise (leaving env)) >>= _) fs s
  refine rt_point ?_
  rw [Sem.onRaise_eq_wrap, Sem.bind_eq_wrap', Sem.wrap_wrap]
  rw [Sem.wrap_congr (execs body env) _ _ (K' := fun f => .pure (.done (.ret (match f with | .ret v => v | _ => .none)))) (H' := fun e => (leaving env e).wrap (fun _ => .raise e) .raise id id) (fun f => by cases f <;> rfl) (fun e => by rw [Sem.bind_eq_wrap, Sem.wrap_wrap]; rfl)]
  exact h
end
/-! ## a generator def -/
/-- what its call gives -/
def GMd (g : Gm) (P : Program) (w : World) (K : PySem.W.Frag) (mg : Str → Option Value) (base : Heap) (k : Nat) (outer : List Env) (ys : List D) (F H : Hp) (s : Shared) (u : Value) (s' : Shared) : Prop :=
  ∃ (a : Addr) (gi : Nat) (gs : GenState) (go : Obj) (z : Addr → Option Obj), u = .ref a ∧ s'.os = s.os ∧ AllBare s'.gens ∧ (∀ b o, s.heap.get? b = some o → s'.heap.get? b = some o) ∧ s'.gens[gi]? = some gs ∧ (∀ h : Heap, h.get? a = some go → h.IsGen a gi) ∧
    (∀ b o, z b = some o → s'.heap.get? b = some o ∧ H b = none ∧ s.heap.objs.size ≤ b) ∧ z a = some go ∧
    ∀ A', Room (k + 1) A' → A'.frames = some outer → Slp g P w K mg base A' outer s.heap.objs.size [(a, go)] ys gs z F
section
variable {g : Gm} {P : Program} {w : World} {K : PySem.W.Frag} {mg : Str → Option Value} {base : Heap} {N ps : List Str} {x qual : Str} {st : Stmt} {f : Addr} {fd : FuncData} {k : Nat}
/-- its walk -/
structure GBody (g : Gm) (X : Cx) (pre : List Stmt) (tg iter : Expr) (t : TG) (b : List Stmt) (e : Expr) (Tp : DS) (R : DA) (B : DS) (Te : DE) : Prop where
  pr : PSs X pre (ls g (wE fun _ _ _ => False) Tp)
  pi : PI X tg iter (li g (wE fun _ _ _ => False) R)
  gw : GWalk g X tg t b e B Te
end
end G

set_option Elab.async false
set_option linter.all false
set_option maxRecDepth 100000
set_option maxHeartbeats 4000000
namespace G
open PySem L2 PyProof.Rows
open Sem (wp)
/-! ## things that must stay as they are for a while -/
def extO (z : Addr → Option Obj) (H : Hp) : Hp := fun b => match z b with | some o => some (.ext fun h => h.get? b = some o) | none => H b
def drpO (z : Addr → Option Obj) (H : Hp) : Hp := fun b => match z b with | some _ => none | none => H b
section
variable {z : Addr → Option Obj} {H F : Hp} {b : Addr} {o : Obj} {u : HO}
theorem extO_at (h : z b = some o) : extO z H b = some (.ext fun h => h.get? b = some o) := by simp only [extO, h]
theorem extO_no (h : z b = none) : extO z H b = H b := by simp only [extO, h]
theorem drpO_at (h : z b = some o) : drpO z H b = none := by simp only [drpO, h]
theorem drpO_no (h : z b = none) : drpO z H b = H b := by simp only [drpO, h]
theorem extO_same (h : ∀ b o, z b = some o → H b = none) : Same H (extO z H) := fun c u e => by
  cases q : z c with
  | none => rw [extO_no q]; exact e
  | some o => rw [h c o q] at e; cases e
theorem wd_ext {g : Gm} {O : Sto} (w : Wd g F O H) (h : ∀ b o, z b = some o → H b = none) : Wd g (extO z F) O (extO z H) := by
  have hF : ∀ b o, z b = some o → F b = none := fun b o e => w.same.free (h b o e)
  refine ⟨fun c u e => ?_, w.nd, fun q hq => ?_⟩
  · cases y : z c with
    | none => rw [extO_no y] at e ⊢; exact w.same c u e
    | some o => rw [extO_at y] at e ⊢; exact e
  · obtain ⟨h1, v, h2, h3⟩ := w.cel q hq
    have ny : z q.1 = none := by
      cases y : z q.1 with
      | none => rfl
      | some o => rw [h q.1 o y] at h2; cases h2
    exact ⟨by rw [extO_no ny]; exact h1, v, by rw [extO_no ny]; exact h2, h3.mono (extO_same hF)⟩
/-- these are tracked so -/
def Zx (z : Addr → Option Obj) (F : Hp) : Prop := ∀ b o, z b = some o → ∃ φ, F b = some (.ext φ)
theorem drp_of (hz : Zx z F) (h : F b = some u) (n : ∀ φ, u ≠ .ext φ) : drpO z F b = some u := by
  cases y : z b with
  | none => rw [drpO_no y]; exact h
  | some o =>
    obtain ⟨φ, e⟩ := hz b o y
    rw [e] at h
    exact absurd (Option.some.inj h).symm (n φ)
theorem drp_none (h : H b = none) : drpO z H b = none := by
  cases y : z b with
  | none => rw [drpO_no y]; exact h
  | some o => exact drpO_at y
theorem drp_some (h : drpO z H b = some u) : H b = some u ∧ z b = none := by
  cases y : z b with
  | none => rw [drpO_no y] at h; exact ⟨h, rfl⟩
  | some o => rw [drpO_at y] at h; cases h
end
section
variable {g : Gm} {F : Hp} {z : Addr → Option Obj}
theorem sql_drp {a : Addr} {xs : List V} (hz : Zx z F) (h : SqL g.K F a xs) : SqL g.K (drpO z F) a xs := by
  rcases h with (h | ⟨o, h⟩) | h
  · exact .inl (.inl (drp_of hz h fun _ q => nomatch q))
  · exact .inl (.inr ⟨o, drp_of hz h fun _ q => nomatch q⟩)
  · exact .inr h
theorem sqt_drp {a : Addr} {xs : List V} (hz : Zx z F) (h : SqT g.K F a xs) : SqT g.K (drpO z F) a xs := by
  rcases h with (h | ⟨o, h⟩) | h
  · exact .inl (.inl (drp_of hz h fun _ q => nomatch q))
  · exact .inl (.inr ⟨o, drp_of hz h fun _ q => nomatch q⟩)
  · exact .inr h
theorem xfs_drp {d : Option Addr} {fs : List Fd} {vs : List V} (hz : Zx z F) (h : XFs F d fs vs) : XFs (drpO z F) d fs vs := ⟨fun dd q => by
  obtain ⟨vfs, h1⟩ := h.1 dd q
  exact ⟨vfs, drp_of hz h1 fun _ q => nomatch q⟩, fun f w q => by
  obtain ⟨a, vfs, h1, h2, h3⟩ := h.2 f w q
  exact ⟨a, vfs, h1, drp_of hz h2 (fun _ q => nomatch q), h3⟩⟩
mutual
theorem Rep.drp (hz : Zx z F) : ∀ {d : D} {v : V}, Rep g F d v → Rep g (drpO z F) d v
  | .non, _, h => by simpa only [Rep] using h
  | .bl _, _, h => by simpa only [Rep] using h
  | .int _, _, h => by simpa only [Rep] using h
  | .str _, _, h => by simpa only [Rep] using h
  | .ptr _, _, h => by simpa only [Rep] using h
  | .cls _, _, h => by simpa only [Rep] using h
  | .lst ds, v, h => by
    simp only [Rep] at h ⊢
    obtain ⟨q, vs, h1, h2, h3⟩ := h
    exact ⟨q, vs, h1, drp_of hz h2 (fun _ q => nomatch q), Reps.drp hz h3⟩
  | .scr ns, v, h => by
    simp only [Rep] at h ⊢
    obtain ⟨q, h1, h2⟩ := h
    exact ⟨q, h1, sql_drp hz h2⟩
  | .tup ds, v, h => by
    simp only [Rep] at h ⊢
    obtain ⟨q, vs, h1, h2, h3⟩ := h
    exact ⟨q, vs, h1, h2.imp (fun y => drp_of hz y fun _ q => nomatch q) fun y => ⟨y.1, sqt_drp hz y.2⟩, Reps.drp hz h3⟩
  | .obj cl fs ds, v, h => by
    simp only [Rep] at h ⊢
    obtain ⟨q, dx, vs, h1, h2, h3, h4⟩ := h
    exact ⟨q, dx, vs, h1, drp_of hz h2 (fun _ q => nomatch q), h3, Reps.drp hz h4⟩
  | .dic ks ds, v, h => by
    simp only [Rep] at h ⊢
    obtain ⟨q, od, vs, h1, h2, h3, h4⟩ := h
    exact ⟨q, od, vs, h1, drp_of hz h2 (fun _ q => nomatch q), h3, Reps.drp hz h4⟩
  | .xcp a d fs ds, v, h => by
    simp only [Rep] at h ⊢
    obtain ⟨h1, vs, h2, h3⟩ := h
    exact ⟨h1, vs, xfs_drp hz h2, Reps.drp hz h3⟩
theorem Reps.drp (hz : Zx z F) : ∀ {ds : List D} {vs : List V}, Reps g F ds vs → Reps g (drpO z F) ds vs
  | [], [], h => by simp only [Reps]
  | d :: ds, v :: vs, h => by
    simp only [Reps] at h ⊢
    exact ⟨Rep.drp hz h.1, Reps.drp hz h.2⟩
  | [], _ :: _, h => by simp only [Reps] at h
  | _ :: _, [], h => by simp only [Reps] at h
end
theorem CRep.drp (hz : Zx z F) {c : Cell} {o : HO} (h : CRep g F c o) : CRep g (drpO z F) c o := by
  cases c with
  | lst ds => cases o <;> first | exact Reps.drp hz h | exact h.elim
  | ins c fs ds =>
    cases o with
    | ins C dx vfs =>
      obtain ⟨h1, h2, vs, h3, h4⟩ := h
      exact ⟨h1, h2, vs, h3, Reps.drp hz h4⟩
    | _ => exact h.elim
  | dic ks ds =>
    cases o with
    | dK kvs =>
      obtain ⟨h2, vs, h3, h4⟩ := h
      exact ⟨h2, vs, h3, Reps.drp hz h4⟩
    | _ => exact h.elim
  | box =>
    cases o with
    | lst vs =>
      obtain ⟨cs, i, a, s, h1, h2⟩ := h
      exact ⟨cs, i, a, s, Reps.drp hz h1, h2⟩
    | _ => exact h.elim
theorem wd_drp {O : Sto} {H : Hp} (hz : Zx z F) (w : Wd g F O H) : Wd g (drpO z F) O (drpO z H) := by
  refine ⟨fun c u e => ?_, w.nd, fun q hq => ?_⟩
  · obtain ⟨h1, h2⟩ := drp_some e
    rw [drpO_no h2]
    exact w.same c u h1
  · obtain ⟨h1, v, h2, h3⟩ := w.cel q hq
    have ny : z q.1 = none := by
      cases y : z q.1 with
      | none => rfl
      | some o =>
        obtain ⟨φ, e⟩ := hz q.1 o y
        rw [h1] at e
        cases e
    exact ⟨by rw [drpO_no ny]; exact h1, v, by rw [drpO_no ny]; exact h2, h3.drp hz⟩
theorem same_drp {F0 : Hp} (hn : ∀ b o, z b = some o → F0 b = none) (h : Same (extO z F0) F) : Same F0 (drpO z F) := fun c u e => by
  cases y : z c with
  | some o => rw [hn c o y] at e; cases e
  | none =>
    rw [drpO_no y]
    exact h c u (by rw [extO_no y]; exact e)
end
section
variable {X : Cx} {pins : List (Addr × Obj)} {σ : L2.St} {H : Hp} {s : Shared} {z : Addr → Option Obj}
theorem inv_ext (I : Inv X pins σ H s) {l : List Addr} (hl : ∀ b o, z b = some o → b ∈ l) (h : ∀ b o, z b = some o → s.heap.get? b = some o ∧ H b = none)
    (hf : ∀ b ∈ l, (b ∈ X.ex ∨ X.s_0.heap.objs.size ≤ b) ∧ b ≠ X.env.locals ∧ (∀ x c, X.env.cells.lookup x = some c → c ≠ b) ∧ ∀ p ∈ X.pn ++ pins, p.1 ≠ b) : Inv X pins σ (extO z H) s := by
  have keep : ∀ b u, H b = some u → extO z H b = some u := fun b u e => extO_same (fun b o q => (h b o q).2) b u e
  refine I.call' (ch := l) rfl ⟨fun _ _ e _ _ _ => e, fun _ o e _ _ _ => ⟨o.slots, e⟩, fun b o _ n hb => ?_, fun _ o e _ => ⟨o, e⟩, fun b xs e => keep b _ e, fun b o u e => keep b _ e, fun b ps e => ⟨#[], by rw [Array.append_empty]; exact keep b _ e⟩⟩ (fun b u e => ?_) I.bare hf
  · cases y : z b with
    | none => rw [extO_no y]; exact n
    | some o => exact absurd (hl b o y) hb
  · cases y : z b with
    | none =>
      rw [extO_no y] at e
      exact (I.hok b u e).stay (fun _ _ _ q => q) (fun c q => keep c _ q) fun c xs q => keep c _ q
    | some o =>
      rw [extO_at y] at e
      cases e
      exact ⟨(h b o y).1, ⟨_, (h b o y).1⟩, fun h1 h2 q k => k _ q⟩
theorem inv_drpO (I : Inv X pins σ H s) (hz : Zx z H) : Inv X pins σ (drpO z H) s := by
  have other : ∀ b u, H b = some u → (∀ ψ, u ≠ .ext ψ) → drpO z H b = some u := fun b u e n => drp_of hz e n
  have hok : HOk X.prog X.w (drpO z H) s.heap := fun b u e => by
    obtain ⟨h1, _⟩ := drp_some e
    exact (I.hok b u h1).stay (fun _ _ _ q => q) (fun c q => other c _ q fun _ w => (nomatch w)) fun c xs q => other c _ q fun _ w => (nomatch w)
  have u : Un X.fs [] H (drpO z H) s.heap s.heap := ⟨fun _ _ e _ _ _ => e, fun _ o e _ _ _ => ⟨o.slots, e⟩, fun b _ _ q _ => drp_none q, fun _ o e _ => ⟨o, e⟩, fun b xs q => other b _ q fun _ w => (nomatch w),
    fun b o x q => other b _ q fun _ w => (nomatch w), fun b ps q => ⟨#[], by rw [Array.append_empty]; exact other b _ q fun _ w => (nomatch w)⟩⟩
  exact I.un (t' := s.toks) u hok
end
end G

set_option Elab.async false
set_option linter.all false
set_option maxRecDepth 100000
set_option maxHeartbeats 4000000
namespace G
open PySem L2 PyProof.Rows
open Sem (wp)
/-! ## for x in g(..) -/
/-- an expression that makes a generator -/
structure PGn (g : Gm) (X : Cx) (W : WX) (k : Nat) (e : Expr) (T : DA) : Prop where
  run : ∀ (pins : List (Addr × Obj)) (s : Shared) (σ : L2.St) (H : Hp) (Δ : Sl) (O : Sto) (P : List D → Sto → Prop) (E : KX) (F : Hp), Inv X pins σ H s → T Δ O P E → SRel g F σ Δ → Wd g F O H → XOk g F W σ E →
    wpAny (model X.prog X.w) X.A (eval e X.env) (fun u s' => ∃ ys O1 F1 H1 sc, P ys O1 ∧ Same F F1 ∧ Wd g F1 O1 H1 ∧ Inv X pins σ H1 sc ∧ GMd g X.prog X.w X.K X.mg X.base k X.stack ys F1 H1 sc u s') X.xe s
def dGen (SG : List D → List D → Prop) (R : DA) : DA := fun Δ O P E => R Δ O (fun ds O1 => ∃ ys, SG ds ys ∧ P ys O1) E
section
variable {g : Gm} {X : Cx} {W : WX} {k j : Nat} {pos p : Pos} {a : Expr} {es : List Expr} {R : DA} {SG : List D → List D → Prop} {x : Str}
end
/-- a loop over what a generator hands out: the body raises nothing and does not leave it by return -/
def dForG (R : DA) (G : DG) (B : DS) : DS := fun D Δ O => R Δ O (fun ys O1 => forD G B { nx := D.nx, rt := fun _ _ => False } ys Δ O1) (fun x O1 => D.xc x Δ O1)
section
variable {g : Gm} {P : Program} {w : World} {K : PySem.W.Frag} {mg : Str → Option Value} {base : Heap} {A : Around} {outer : List Env} {L : Nat} {pins : List (Addr × Obj)} {ys : List D} {gs : GenState} {z : Addr → Option Obj} {F F' : Hp}
theorem Slp.mono (h : Slp g P w K mg base A outer L pins ys gs z F) (e : Same F F') : Slp g P w K mg base A outer L pins ys gs z F' := fun s H F2 O wk => h s H F2 O ⟨wk.e0, e.trans wk.sm, wk.wd, wk.zz⟩
end
section
variable {g : Gm} {X : Cx} {W : WX} {k j : Nat} {pos : Pos} {tg iter : Expr} {body : List Stmt} {t : TG} {Gd : DG} {js : List Nat} {R : DA} {B : DS}
/-- behind a run of the generator, for its consumer -/
theorem inv_eff {pins : List (Addr × Obj)} {σ : L2.St} {H F : Hp} {O : Sto} {s s1 s2 : Shared} {H1 F1 : Hp} {L : Nat} (I : Inv X pins σ H s) (h : Eff g X.prog X.w X.stack L s H F O s1 H1 F1) (os : s2.os = s1.os) (bare : AllBare s2.gens) (kp : ∀ b o, s1.heap.get? b = some o → s2.heap.get? b = some o)
    (hL : ∀ b, L ≤ b → (b ∈ X.ex ∨ X.s_0.heap.objs.size ≤ b) ∧ b ≠ X.env.locals ∧ (∀ x c, X.env.cells.lookup x = some c → c ≠ b) ∧ ∀ p ∈ X.pn ++ pins, p.1 ≠ b) : Inv X pins σ H1 s2 := by
  have u2 : Un (frs X.stack) (List.range' L (s.heap.objs.size - L)) H H1 s.heap s2.heap := by
    refine ⟨fun b o e n h1 h2 => kp _ _ (h.un.keep b o e n h1 h2), fun b o e n h1 h2 => ?_, h.un.free, fun b o e h2 => ?_, h.un.tups, h.un.frzs, h.un.tbls⟩
    · obtain ⟨sl, q⟩ := h.un.slot b o e n h1 h2
      exact ⟨sl, kp _ _ q⟩
    · obtain ⟨o', q⟩ := h.un.there b o e h2
      exact ⟨o', kp _ _ q⟩
  exact I.call' (os.trans h.os) u2 (h.hok.kept kp) bare fun b hb => hL b (List.mem_range'_1.mp hb).1
theorem inv_young {pins : List (Addr × Obj)} {σ : L2.St} {H : Hp} {s : Shared} (I : Inv X pins σ H s) {b : Addr} (hb : s.heap.objs.size ≤ b) : (b ∈ X.ex ∨ X.s_0.heap.objs.size ≤ b) ∧ b ≠ X.env.locals ∧ (∀ x c, X.env.cells.lookup x = some c → c ≠ b) ∧ ∀ p ∈ X.pn ++ pins, p.1 ≠ b := by
  have h := I.fpOk (H' := H) hb (I.hok.fresh hb)
  exact ⟨h.2.2.2.1, h.2.1, h.2.2.2.2.1, h.2.2.2.2.2⟩
end
end G

set_option Elab.async false
set_option linter.all false
set_option maxRecDepth 100000
set_option maxHeartbeats 4000000
namespace G
open PySem L2 PyProof.Rows
open Sem (wp)
/-! ## list(g(..)) -/
def dLiG (R : DA) : DE := fun Δ O P E => R Δ O (fun ys O1 => ys.length ≤ sizeLine ∧ ∀ p, freshC O1 p → P (.ptr p) ((p, .lst ys) :: O1)) E
theorem Reps.snoc {g : Gm} {F : Hp} : ∀ {ds : List D} {vs : List V} {d : D} {u : V}, Reps g F ds vs → Rep g F d u → Reps g F (ds ++ [d]) (vs ++ [u]) := by
  intro ds
  induction ds with
  | nil => intro vs d u h r; rw [Reps.nil_iff] at h; subst h; exact Reps.cons r Reps.nil
  | cons x ds ih =>
    intro vs d u h r
    obtain ⟨v, w, rfl, h1, h2⟩ := Reps.cons_iff.mp h
    exact Reps.cons h1 (ih h2 r)
section
variable {g : Gm} {X : Cx} {k j : Nat}
theorem drain_to {pins : List (Addr × Obj)} {σ : L2.St} {L : Nat} {a : Addr} {gi : Nat} {go : Obj} {S : Addr} {F0 : Hp} {O : Sto} {A : Around} {Rz : Result → Shared → Prop} {res : Value} {all : List D} (hh : A.handled = none) (hd : A.depth < recursionLimit) (hAf : A.in1.in1.frames = some X.stack) (hig : ∀ h : Heap, h.get? a = some go → h.IsGen a gi)
    (yg : ∀ b, L ≤ b → (b ∈ X.ex ∨ X.s_0.heap.objs.size ≤ b) ∧ b ≠ X.env.locals ∧ (∀ x c, X.env.cells.lookup x = some c → c ≠ b) ∧ ∀ p ∈ X.pn ++ pins, p.1 ≠ b) (hall : all.length ≤ sizeLine)
    (hend : ∀ s' H F, Inv X pins σ H s' → Same F0 F → Wd g F ((S, .lst all) :: O) H → Rz (.ok (.ret res)) s') :
    ∀ (r dn : List D) (H F : Hp) (gs : GenState) (z : Addr → Option Obj) (s : Shared), dn ++ r = all → Inv X pins σ H s → s.gens[gi]? = some gs → Slp g X.prog X.w X.K X.mg X.base A.in1.in1 X.stack L [(a, go)] r gs z F → Same F0 F → Wd g F ((S, .lst dn) :: O) H →
      (∀ b o, z b = some o → s.heap.get? b = some o ∧ H b = none ∧ L ≤ b) → z a = some go → codeAny (model X.prog X.w) A (.builtin "list.extend.loop" ⟨[.ref S, .ref a, res], []⟩) Rz s := by
  intro r
  induction r with
  | nil =>
    intro dn H F gs z s hdn I hgs sl sm wd hz hza
    rw [List.append_nil] at hdn
    subst hdn
    refine codeAny_builtin PySem.F.entry_extend_loop ?_
    rw [Around.under_plainId PySem.F.plain_extend_loop _]
    show wpAny _ A.in1 (pyNext (.ref a) >>= _) _ _ s
    have hgo := sl (s.setGen gi .running) H F _ ⟨⟨hAf, I.ok.mod, I.bs, Nat.le_trans I.ok.bsz I.sz, I.stack, I.stkFree, I.hok, allBare_setGen I.bare rfl⟩, Same.refl _, wd, fun b o e => ⟨(hz b o e).1, (hz b o e).2.1⟩⟩
    have Ir : Inv X pins σ H (s.setGen gi .running) := inv_gens I (allBare_setGen I.bare rfl)
    refine wpAny_bind (next_rg (A := A.in1) hh I.nolimit hd (hig _ (hz a go hza).1) hgs hgo (fun e z1 hΦ => ?_))
    obtain ⟨rfl, H3, F3, ef⟩ := hΦ
    refine .inr ⟨rfl, fun h' hk => ?_⟩
    exact wpAny_pure (hend _ H3 F3 (inv_eff Ir ef rfl (allBare_setGen ef.bare rfl) hk yg) (sm.trans ef.sm) ef.wd)
  | cons d r ih =>
    intro dn H F gs z s hdn I hgs sl sm wd hz hza
    refine codeAny_builtin PySem.F.entry_extend_loop ?_
    rw [Around.under_plainId PySem.F.plain_extend_loop _]
    show wpAny _ A.in1 (pyNext (.ref a) >>= _) _ _ s
    have hgl : gi + 1 ≤ s.gens.size := (Array.getElem?_eq_some_iff.mp hgs).1
    have hgo := sl (s.setGen gi .running) H F _ ⟨⟨hAf, I.ok.mod, I.bs, Nat.le_trans I.ok.bsz I.sz, I.stack, I.stkFree, I.hok, allBare_setGen I.bare rfl⟩, Same.refl _, wd, fun b o e => ⟨(hz b o e).1, (hz b o e).2.1⟩⟩
    have Ir : Inv X pins σ H (s.setGen gi .running) := inv_gens I (allBare_setGen I.bare rfl)
    refine wpAny_bind (GenW.wpAny_gsz hgl (next_rg (A := A.in1) hh I.nolimit hd (hig _ (hz a go hza).1) hgs hgo (fun e z1 hΦ => ?_)))
    obtain ⟨v, u, z3, H3, F3, hv, hq, hsl, ru, rd, ef, hz3, hp3, slp3⟩ := hΦ
    refine .inl ⟨v, hv, hq, fun hsz => ?_⟩
    have hza3 : z3 a = some go := hp3 (a, go) (List.mem_singleton.mpr rfl)
    have hgz : gi < z1.gens.size := by
      have q : (z1.setGen gi e.genState).gens.size = z1.gens.size := GenW.setGen_size _ _ _
      rw [q] at hsz
      exact hsz
    have I3 : Inv X pins σ H3 (z1.setGen gi e.genState) := inv_eff Ir ef rfl (allBare_setGen ef.bare (End.bare_of_quiet hq)) (fun _ _ q => q) yg
    obtain ⟨fS, oS, hS, cS⟩ := ef.wd.cel (S, .lst dn) List.mem_cons_self
    cases oS with
    | lst vs =>
      have cS : Reps g F3 dn vs := cS
      obtain ⟨hlen, its, nn, rv, hl, eS⟩ := I3.lstM hS
      have lr := cS.length
      have le1 : dn.length + 1 ≤ sizeLine := by
        have := congrArg List.length hdn
        simp at this
        omega
      show wpAny _ A.in1 (updateSeq S (·.push v) >>= _) _ _ _
      refine wpAny_bind (wpAny_updateSeq eS rfl (wpAny_pure ⟨plainId_quiet PySem.F.plain_extend_loop _, ?_⟩) (by rw [List.size_toArray]; omega) (by show (its.toArray.push v).size ≤ _; rw [Array.size_push, List.size_toArray]; omega))
      have I4 : Inv X pins σ (upd H3 S (.lst (vs ++ [u]))) { z1.setGen gi e.genState with heap := z1.heap.update S (Obj.mapSeq (·.push v)) } :=
        I3.lset (t' := z1.toks) (its := its) (its' := its ++ [v]) (n := nn) (f := (·.push v)) hS eS (by simp) (rv.append (.cons ru .nil)) (by rw [List.length_append, List.length_singleton]; omega)
      have w4 : Wd g F3 ((S, .lst (dn ++ [d])) :: O) (upd H3 S (.lst (vs ++ [u]))) := by
        have := ef.wd.set (a := S) (c := .lst dn) (c' := .lst (dn ++ [d])) (o := .lst (vs ++ [u])) getC_self (cS.snoc rd)
        rw [setC_self] at this
        exact this
      have zS : ∀ b o, z3 b = some o → b ≠ S := fun b o q e => by
        have := (hz3 b o q).2.1
        rw [e, hS] at this
        cases this
      exact ih (dn ++ [d]) _ F3 e.genState z3 _ (by rw [← hdn]; simp) I4 (setGen_at hgz) slp3 (sm.trans ef.sm) w4 (fun b o q => ⟨(Heap.get?_update_other _ _ (Ne.symm (zS b o q))).trans (hz3 b o q).1, by rw [upd_ne (zS b o q)]; exact (hz3 b o q).2.1, (hz3 b o q).2.2⟩) hza3
    | _ => exact cS.elim
theorem q_liG {W : WX} {e : Expr} {R : DA} {nm : Str} {p pos : Pos} (hg : PGn g X W k e R) (hr : Room j X.A) (hc : X.calm = true) (hmg : X.mg nm = none) (hv : bootBuiltins nm = some (.type "list")) (hkj : k + 3 ≤ j := by first | decide | omega) (hgl : Gl X nm := by rfl) (hnm : nm ≠ "__name__" := by decide) (hdb : (nm == ("__debug__" : Str)) = false := by decide)
    (he : starEach [e] X.env = (false, eval e X.env) :: starEach [] X.env := by rfl) : PE X (.Call (.Name nm p) [e] [] pos) (le g W (dLiG R)) := by
  refine ⟨fun pins s σ H Q I h => ?_⟩
  obtain ⟨Δ, O, P, E, F, hT, sr, wd, hP, hx⟩ := h
  refine wpAny_Call_Name_kw (ld_blt I hgl hmg hv ?_ hnm hdb)
  refine PyProof.Rows.callWith_type1 ?_ he rfl
  rw [he]
  show wpAny _ _ (spliced ((false, eval e X.env) :: backTo pos (starEach [] X.env))) _ _ s
  refine Calls.spliced_cons (wpAny_mono (hg.run pins s σ H Δ O _ E F I hT sr wd hx) (fun u s1 h1 => ?_) fun _ _ q => q)
  refine Calls.spliced_nil ?_
  obtain ⟨ys, O1, F1, H1, sc, ⟨hlen, hQ⟩, sm1, wd1, Ic, a, gi, gs, go, z, rfl, os1, bare1, kp1, hgs, hig, hz, hza, slp0⟩ := h1
  have I1 : Inv X pins σ H1 s1 := Ic.call' (ch := []) os1 (Un.kept kp1) (Ic.hok.kept kp1) bare1 fun b hb => (by cases hb)
  have yg : ∀ b, sc.heap.objs.size ≤ b → (b ∈ X.ex ∨ X.s_0.heap.objs.size ≤ b) ∧ b ≠ X.env.locals ∧ (∀ x c, X.env.cells.lookup x = some c → c ≠ b) ∧ ∀ p ∈ X.pn ++ pins, p.1 ≠ b := fun b hb => inv_young Ic hb
  have hSa : s1.heap.objs.size ≠ a := Nat.ne_of_gt (Heap.lt_size (hz a go hza).1)
  have hga : s1.heap.IsGen a gi := hig _ (hz a go hza).1
  refine callType_codes (Q₁ := fun obj t => obj = .ref s1.heap.objs.size ∧ t = { s1 with heap := s1.heap.push { cls := .type "list", data := .seq #[] } }) PySem.F.called_list (PySem.F.typeCall_list_1 _) PySem.F.entry_list_init
    (code_list_new _ ⟨rfl, rfl⟩) fun obj t ht => ?_
  obtain ⟨rfl, rfl⟩ := ht
  have hS : (s1.heap.push { cls := .type "list", data := .seq #[] }).get? s1.heap.objs.size = some { cls := .type "list", data := .seq #[] } := Heap.get?_push_size _ rfl
  refine ⟨⟨_, hS, rfl⟩, PySem.F.args_list_init_2 _ _, ?_⟩
  show wpAny _ X.A.in1.in1 (do let old ← Builtin.List.listItems (.ref s1.heap.objs.size); Builtin.List.listUpdate (.ref s1.heap.objs.size) (fun _ => #[]); letGo old.toList.reverse; Builtin.List.listExtendWith (.ref s1.heap.objs.size) (.ref a) .none) _ _ _
  refine wpAny_bind ?_
  unfold Builtin.List.listItems
  refine wpAny_bind (wpAny_seqItems hS rfl (wpAny_pure ?_))
  show wpAny _ X.A.in1.in1 (updateSeq s1.heap.objs.size (fun _ => #[]) >>= fun _ => letGo (#[] : Array Value).toList.reverse >>= fun _ => Builtin.List.listExtendWith (.ref s1.heap.objs.size) (.ref a) .none) _ _ _
  refine wpAny_bind (wpAny_updateSeq hS rfl ?_)
  have hS2 := Heap.get?_update_self (Obj.mapSeq (fun _ => (#[] : Array Value))) hS rfl
  refine wpAny_bind (wpAny_letGo ?_)
  unfold Builtin.List.listExtendWith
  have up : ∀ (h : Heap) (f : Obj → Obj), (∀ b o, s1.heap.get? b = some o → h.get? b = some o) → ∀ b o, s1.heap.get? b = some o → (h.update s1.heap.objs.size f).get? b = some o := fun h f q b o y =>
    (Heap.get?_update_other _ _ (Ne.symm (Nat.ne_of_lt (Heap.lt_size y)))).trans (q b o y)
  have k1 : ∀ b o, s1.heap.get? b = some o → (s1.heap.push { cls := .type "list", data := .seq #[] }).get? b = some o := fun b o y => Heap.get?_push_of_some _ y
  have k2 := up _ (Obj.mapSeq (fun _ => (#[] : Array Value))) k1
  have gty : ∀ {h : Heap}, (∀ b o, s1.heap.get? b = some o → h.get? b = some o) → h.IsGen a gi := fun {h} q => hga.keeps q
  refine wpAny_bind (wpAny_typeOf (Heap.IsGen.typeIs (s := { s1 with heap := _ }) (gty k2)) ?_)
  have e1 : Builtin.List.listSameRef (.ref s1.heap.objs.size) (.ref a) = false := by simp [Builtin.List.listSameRef, hSa]
  have e2 : (Value.type "generator" == Value.type "list") = false := by decide
  have e3 : (Value.type "generator" == Value.type "tuple") = false := by decide
  simp only [e1, e2, e3, Bool.or_false, Bool.false_eq_true, if_false]
  refine wpAny_bind (wpAny_pyIter_gen (s := { s1 with heap := _ }) (gty k2) ?_)
  refine wpAny_bind (wpAny_holding ?_)
  unfold Builtin.List.listLengthHint
  refine wpAny_bind (wpAny_specialOf (Heap.IsGen.typeIs (s := { s1 with heap := _ }) (gty k2)) PySem.F.gen_no_len ?_)
  show wpAny _ X.A.in1.in1 (specialOf (Value.ref a) (Str.ofString "__length_hint__") >>= _) _ _ _
  refine wpAny_bind (wpAny_specialOf (Heap.IsGen.typeIs (s := { s1 with heap := _ }) (gty k2)) PySem.F.gen_no_hint ?_)
  refine wpAny_pure ?_
  show wpAny _ X.A.in1.in1 (rule "list.extend.makes-room" >>= fun _ => Builtin.List.listTouch (.ref s1.heap.objs.size) >>= fun _ => again (.builtin "list.extend.loop" ⟨[.ref s1.heap.objs.size, .ref a, .none], []⟩)) _ _ _
  refine wpAny_bind (wpAny_rule ?_)
  refine wpAny_bind ?_
  show wpAny _ X.A.in1.in1 (updateSeq s1.heap.objs.size (·.push .none) >>= fun _ => updateSeq s1.heap.objs.size (·.pop)) _ _ _
  refine wpAny_bind (wpAny_updateSeq hS2 rfl ?_)
  have hS3 := Heap.get?_update_self (Obj.mapSeq (·.push Value.none)) hS2 rfl
  refine wpAny_updateSeq (hz := by seq_fits) hS3 rfl ?_
  have hS4 := Heap.get?_update_self (Obj.mapSeq (·.pop)) hS3 rfl
  have k4 := up _ (Obj.mapSeq (·.pop)) (up _ (Obj.mapSeq (·.push Value.none)) k2)
  refine wpAny_pure ⟨plainId_quiet PySem.F.plain_extend_loop _, ?_⟩
  have fS : H1 s1.heap.objs.size = none := I1.hok.fresh (Nat.le_refl _)
  have I4 : Inv X pins σ (upd H1 s1.heap.objs.size (.lst [])) { s1 with heap := _ } := I1.laid (t' := s1.toks) k4 (Nat.le_refl _) ⟨Nat.zero_le _, [], _, .nil, hS4⟩
  have w4 : Wd g F1 ((s1.heap.objs.size, .lst []) :: O1) (upd H1 s1.heap.objs.size (.lst [])) := wd1.own (c := .lst []) (o := .lst []) fS (Reps.nil (g := g) (F := F1))
  have zS : ∀ b o, z b = some o → b ≠ s1.heap.objs.size := fun b o q => Nat.ne_of_lt (Heap.lt_size (hz b o q).1)
  have hA : Room (k + 1) X.A.in1.in1.in1 := ⟨hr.hd, by have := hr.dp; show X.A.depth + 3 * (k + 1) + 5 < _; omega, by have := hr.un; show X.A.units + 1 + 1 + 1 + 16 * (k + 1) + 200 < _; omega⟩
  refine drain_to (A := X.A.in1) (S := s1.heap.objs.size) (F0 := F1) (O := O1) (all := ys) (L := sc.heap.objs.size) (go := go) (gi := gi) (pins := pins) (σ := σ) (g := g) (I.ok.hd hc) (by have := hr.dp; show X.A.depth < _; omega) I.ok.frames hig yg hlen (fun s' H' F' I' sm' w' => ?_) ys [] _ F1 gs z _ rfl I4 hgs
    (slp0 _ hA I.ok.frames) (Same.refl _) w4 (fun b o q => ⟨k4 b o (hz b o q).1, by rw [upd_ne (zS b o q)]; exact (hz b o q).2.1, (hz b o q).2.2⟩) hza
  refine ⟨rfl, .ref s1.heap.objs.size, H', I', rfl, ?_⟩
  exact hP _ _ _ _ _ (hQ _ (wd1.fresh fS)) (sm1.trans sm') w' (Rep.ptr_iff.mpr rfl)
end
end G

set_option Elab.async false
set_option linter.all false
set_option maxRecDepth 100000
set_option maxHeartbeats 4000000
namespace G
open PySem L2 PyProof.Rows
/-! ## the parts of a generator def -/
def gPz : Pos := ⟨0, 0, 0, 0⟩
def gPre (st : Stmt) : List Stmt := (defBody st).dropLast
def gFor (st : Stmt) : Stmt := match (defBody st).getLast? with | some s => s | none => .Pass gPz
def gTg (st : Stmt) : Expr := match gFor st with | .For t _ _ _ _ => t | _ => .Constant .none 0 gPz
def gIt (st : Stmt) : Expr := match gFor st with | .For _ i _ _ _ => i | _ => .Constant .none 0 gPz
def gFb (st : Stmt) : List Stmt := match gFor st with | .For _ _ b _ _ => b | _ => []
def gFp (st : Stmt) : Pos := match gFor st with | .For _ _ _ _ p => p | _ => gPz
def gBd (st : Stmt) : List Stmt := (gFb st).dropLast
def gYs (st : Stmt) : Stmt := match (gFb st).getLast? with | some s => s | none => .Pass gPz
def gYe (st : Stmt) : Expr := match gYs st with | .Expr (.Yield (some e) _) _ => e | _ => .Constant .none 0 gPz
def gYp (st : Stmt) : Pos := match gYs st with | .Expr (.Yield (some _) p) _ => p | _ => gPz
def gYq (st : Stmt) : Pos := match gYs st with | .Expr (.Yield (some _) _) q => q | _ => gPz
section
variable {g : Gm} {P : Program} {w : World} {K : PySem.W.Frag} {mg : Str → Option Value} {base : Heap} {N ps : List Str} {x qual : Str} {st : Stmt} {f : Addr} {fd : FuncData} {k : Nat} {t : TG} {Gd : DG} {js : List Nat} {Tp B : DS} {R : DA} {Te : DE} {SG : List D → List D → Prop}
end
section
variable {Δ : Sl} {O : Sto} {E : KX} {P : KD} {D0 : DEnds} {R : DA} {Gd : DG} {B : DS} {SG : List D → List D → Prop} {Q : List D → Sto → Prop}
theorem e_forG : dForG R Gd B D0 Δ O = R Δ O (fun ys O1 => forD Gd B { nx := D0.nx, rt := fun _ _ => False } ys Δ O1) (fun x O1 => D0.xc x Δ O1) := propext Iff.rfl
theorem e_gen : dGen SG R Δ O Q E = R Δ O (fun ds O1 => ∃ ys, SG ds ys ∧ Q ys O1) E := propext Iff.rfl
theorem e_liG : dLiG R Δ O P E = R Δ O (fun ys O1 => ys.length ≤ sizeLine ∧ ∀ p, freshC O1 p → P (.ptr p) ((p, .lst ys) :: O1)) E := propext Iff.rfl
end
end G

set_option Elab.async false
set_option linter.all false
set_option maxRecDepth 100000
set_option maxHeartbeats 4000000
namespace G
open PySem L2
/-! ## xs.pop(i) -/
section
variable {O : Sto} {K : D → List D → Prop} {l r : List D} {y : D} {i : Int}
end
/-! ## None in a list of whole numbers and None -/
def ionsOf : List D → Option (List (Option Int))
  | [] => some []
  | .int i :: r => (ionsOf r).map (some i :: ·)
  | .non :: r => (ionsOf r).map (none :: ·)
  | _ => none
def ionD : Option Int → D
  | some i => .int i
  | none => .non
theorem ionsOf_map (ns : List (Option Int)) : ionsOf (ns.map ionD) = some ns := by
  induction ns with
  | nil => rfl
  | cons n ns ih => cases n <;> (rw [List.map_cons]; simp only [ionD, ionsOf, ih]; rfl)
def fInNQ (neg : Bool) : B2 := fun x y O P => match x, seqOf O y with
  | .non, some es => (match ionsOf es with | some ns => P (.bl (inB2 neg (ns.any (·.isNone)))) O | none => False)
  | _, _ => False
theorem f_inNon {neg : Bool} {O : Sto} {P : KD} {ns : List (Option Int)} : fInNQ neg .non (.lst (ns.map ionD)) O P = P (.bl (inB2 neg (ns.any (·.isNone)))) O := by simp only [fInNQ, seqOf, lstOf, ionsOf_map]
end G

set_option Elab.async false
set_option linter.all false
set_option maxRecDepth 100000
set_option maxHeartbeats 4000000
namespace G
open PySem L2
/-! ## y = [.. for .. in .. for .. in ..] on one line -/
section
variable {g : Gm} {X : Cx} {W W0 : WX} {pos pos' : Pos} {a tg tg1 : Expr} {Ta : DE} {R R1 : DA}
theorem qs_asgLc2 {i : Nat} {y : Str} {py spos : Pos} {elt iter iter1 : Expr} {ifs ifs1 : List Expr} {scope : Scope} {own : List (Str × Nat)} {vs1 : List Nat} {t t1 : TG} {Gd Gd1 : DG} {js js1 : List Nat} {Tt Tt1 : DT} {Te : DE} (hN : X.N.Nodup) (hi : PI X tg iter (li g W R)) (ok : BlkOk X.N X.env.scope scope own)
    (hg : ∀ (s : Shared) (H : Hp) (C : Addr) (cl : List (Str × Addr)) (fp : List Addr), PG (X.blk s H scope (compEnvC scope cl C X.env) fp) tg t) (lk : LkG g t Gd js) (ht : ∀ (s : Shared) (H : Hp) (C : Addr) (cl : List (Str × Addr)) (fp : List Addr), PTs (X.blk s H scope (compEnvC scope cl C X.env) fp) ifs (lt g G.W0 Tt))
    (hi1 : ∀ (s : Shared) (H : Hp) (C : Addr) (cl : List (Str × Addr)) (fp : List Addr), PI (X.blk s H scope (compEnvC scope cl C X.env) fp) tg1 iter1 (li g G.W0 R1))
    (hg1 : ∀ (s : Shared) (H : Hp) (C : Addr) (cl : List (Str × Addr)) (fp : List Addr), PG (X.blk s H scope (compEnvC scope cl C X.env) fp) tg1 t1) (lk1 : LkG g t1 Gd1 js1) (ht1 : ∀ (s : Shared) (H : Hp) (C : Addr) (cl : List (Str × Addr)) (fp : List Addr), PTs (X.blk s H scope (compEnvC scope cl C X.env) fp) ifs1 (lt g G.W0 Tt1))
    (he : ∀ (s : Shared) (H : Hp) (C : Addr) (cl : List (Str × Addr)) (fp : List Addr), PE (X.blk s H scope (compEnvC scope cl C X.env) fp) elt (le g G.W0 Te))
    (h : PS X (.Assign [.Name y py] (.ListComp elt [⟨tg, iter, ifs, 0⟩, ⟨tg1, iter1, ifs1, 0⟩] scope pos) spos) (tAsg (tLc2 (li g W R) t (lt g G.W0 Tt) (li g G.W0 R1) t1 (lt g G.W0 Tt1) (le g G.W0 Te) (own.map (·.2)) vs1) (gName i))) (hjs : ∀ j ∈ js, j ∈ own.map (·.2) := by decide) (hjs1 : ∀ j ∈ js1, j ∈ vs1 := by decide) :
    PS X (.Assign [.Name y py] (.ListComp elt [⟨tg, iter, ifs, 0⟩, ⟨tg1, iter1, ifs1, 0⟩] scope pos) spos) (ls g W (dAsg i (dLc2 R Gd Tt R1 Gd1 Tt1 Te (own.map (·.2)) vs1))) := by
  refine ps_imp h fun En σ H ⟨D, Δ, O, F, hT, sr, w, ho⟩ => ?_
  refine ⟨Δ, O, _, _, F, hT, sr, w, fun ds O1 F1 H1 J hP s1 w1 gv => ?_, ho.toX sr⟩
  refine tlc2_of (Q := fun x H1 => gName i x σ H1 En.nx) (PL := fun _ acc O2 => D.nx (Δ.set i (some (.lst acc))) O2) lk lk1 hjs hjs1 hP (sr.mono s1) w1 gv fun p acc O2 F2 H2 hp s2 w2 => ?_
  obtain ⟨o, ho', hc, s3, w3⟩ := w2.freeze (a := p) (c := .lst acc) (by simp [getC])
  have s := s1.trans (s2.trans s3)
  exact ho.nx _ _ _ _ _ hp s ((sr.mono s).set (frz_rep rfl hc (w2.cel _ List.mem_cons_self).1) i) (by simpa [delC] using w3)
end
end G

set_option Elab.async false
set_option linter.all false
set_option maxRecDepth 100000
set_option maxHeartbeats 4000000
namespace G
open PySem L2
/-! ## C.m(*xs), m a classmethod -/
section
variable {g : Gm} {X : Cx} {W : WX} {k j : Nat} {x m : Str} {e : Expr} {S : DSp} {Ta : DE} {p p2 pos apos : Pos}
end
end G

set_option Elab.async false
set_option linter.all false
set_option maxRecDepth 100000
set_option maxHeartbeats 4000000
namespace G
open PySem L2
/-! ## a list times a whole number -/
def fRep : B2 := fun x y O P => match lstOf O x, y with
  | some ds, .int k => -(2 ^ 63) ≤ k ∧ k < 2 ^ 63 ∧ ds.length * k.toNat ≤ sizeLine ∧ P (.lst (List.replicate k.toNat ds).flatten) O
  | _, _ => False
section
variable {g : Gm}
end
theorem f_rep {O : Sto} {P : KD} {ds : List D} {k : Int} : fRep (.lst ds) (.int k) O P = (-(2 ^ 63) ≤ k ∧ k < 2 ^ 63 ∧ ds.length * k.toNat ≤ sizeLine ∧ P (.lst (List.replicate k.toNat ds).flatten) O) := propext Iff.rfl
/-- a whole number or None, and lists and pairs of such -/
instance : Em (Option Int) := ⟨ionD, fun a => by cases a <;> rfl, fun a => by cases a <;> rfl⟩
end G

set_option Elab.async false
set_option linter.all false
set_option maxRecDepth 100000
set_option maxHeartbeats 4000000
namespace G
open PySem L2
/-! ## while: so many turns at most -/
section
variable {g : Gm} {X : Cx} {W : WX} {c : Expr} {body : List Stmt} {Tt : DT} {B : DS} {pos : Pos}
end
end G

set_option Elab.async false
set_option linter.all false
set_option maxRecDepth 100000
set_option maxHeartbeats 4000000
namespace G
open PySem L2
/-! ## the end of a law over a head that tells its facts -/
theorem walkE {l : PySem.W.OpenLaw} {q : Program} {loose : List Str} {XP : (Str → Option Value) → Heap → Prop} {YP : World → Heap → Prop} {d : DefRec} {x : Str} (k : Nat) (hk : k ≤ 40) (hn : l.most = some 63) (hdf : d.params.defaults = [])
    (F : ∀ (w : World) (mg : Str → Option Value) (fa : Addr) (h : Heap), YP w h → h.Ns mainGlobals mg → mg d.name = some (.ref fa) →
      ∃ (K : PySem.W.Frag) (fd : FuncData), K.In h ∧ (∀ (s : Shared) (u : Value), BindsTo s fd ⟨[u], []⟩ [(x, u)]) ∧ ∀ base : Heap, K.In base → base.Ns mainGlobals mg → FnOk l.prog w K mg base (L2.CX l.prog w) k fa fd [x] (spLaw K)) :
    PySem.W.WalkO q loose XP YP l.row.toRowW d [] (fun f vs => PySem.call f vs) := by
  refine _root_.Att.attach_call hn hdf fun w s₀ s₁ mg mb fa o pm cd doc a vs ns G Y ho hd hcd hmg hobj hints hlen hg => ?_
  obtain ⟨K, fd, KX, hb, hF⟩ := F w mg fa _ Y G.T.g hmg
  exact law_call KX G.T.g G.T.b G.T.builtins G.T.nolimit hg hobj hints (Nat.le_trans hlen (by decide)) (Room.mono (k := 40) ⟨rfl, by decide, by decide⟩ hk) hF hb (fun H hO hS => ⟨a, ns, rfl, hS, hlen, fun _ => rfl⟩) fun H e s' z => by
    obtain ⟨_, _, _, _, _, _, _, _, _, _, _, _, z⟩ := z
    exact z
end G

set_option Elab.async false
set_option linter.all false
set_option maxRecDepth 100000
set_option maxHeartbeats 4000000
namespace G
open PySem L2
/-! ## keyword-only parameters with defaults -/
inductive Fl where
  | at (i : Nat) | int (i : Int) | str (x : Str) | bl (b : Bool) | non
def Fl.d : Fl → D
  | .at _ => .non | .int i => .int i | .str x => .str x | .bl b => .bl b | .non => .non
def Fl.v : Fl → V
  | .at _ => .non | .int i => .int i | .str x => .str x | .bl b => .bl b | .non => .non
def fillD : List Fl → List D → List D
  | [], _ => []
  | .at i :: r, es => (match es[i]? with | some e => e :: fillD r es | none => fillD r es)
  | f :: r, es => f.d :: fillD r es
def fillV : List Fl → List V → List V
  | [], _ => []
  | .at i :: r, es => (match es[i]? with | some e => e :: fillV r es | none => fillV r es)
  | f :: r, es => f.v :: fillV r es
def FNM (g : Gm) (P : Program) (w : World) (K : PySem.W.Frag) (mg : Str → Option Value) (base : Heap) (k : Nat) (f : Addr) (n : Nat) (ks : List Str) (fl : List Fl) (S : DSp) : Prop :=
  ∀ (A : Around) (outer : List Env) (s : Shared) (H : Hp) (us ws : List Value) (vs zs : List V) (Q : VK) (E : XK), Room k A → Env0 P w K mg base A outer s H → Vals vs us → Vals zs ws → vs.length = n → zs.length = ks.length → toSp g S (vs ++ fillV fl zs) H Q E →
    codeAny (model P w) A (.call (.ref f) ⟨us, ks.zip ws⟩) (CR (L2.CX P w) outer P w H s Q E) s
theorem FNM.mono {g : Gm} {P : Program} {w : World} {K : PySem.W.Frag} {mg : Str → Option Value} {base : Heap} {j k : Nat} {f : Addr} {n : Nat} {ks : List Str} {fl : List Fl} {S : DSp} (h : FNM g P w K mg base j f n ks fl S) (hj : j ≤ k) : FNM g P w K mg base k f n ks fl S :=
  fun A outer s H us ws vs zs Q E hr => h A outer s H us ws vs zs Q E (hr.mono hj)
section
variable {g : Gm} {P : Program} {w : World} {K : PySem.W.Frag} {mg : Str → Option Value} {base : Heap} {x qual : Str} {st : Stmt} {f : Addr} {N ps ks : List Str} {k n : Nat} {S : DSp} {T : DS} {oc dV doc pm cdv ct : Value} {od an : Option Addr} {osl : Array (Option Value)}
end
def dCallM (n m : Nat) (fl : List Fl) (S : DSp) (R Rk : DA) : DE := fun Δ O P E => R Δ O (fun ds O1 => Rk Δ O1 (fun es O2 => ds.length = n ∧ es.length = m ∧ S (ds ++ fillD fl es) O2 P E) E) E
def dMakeM (cl : Cl) (n m : Nat) (fl : List Fl) (S : DSp) (R Rk : DA) : DE := fun Δ O P E => R Δ O (fun ds O1 => Rk Δ O1 (fun es O2 => ds.length = n ∧ es.length = m ∧ mkK cl S (ds ++ fillD fl es) O2 P E) E) E
section
variable {g : Gm} {X : Cx} {W : WX} {pos p : Pos} {a : Expr} {es : List Expr} {R Rk : DA} {k j n : Nat} {f : Addr} {S : DSp} {x : Str} {kws : List Keyword} {ks : List Str} {fl : List Fl}
end
section
variable {Δ : Sl} {O : Sto} {P : KD} {E : KX} {R Rk : DA} {n m : Nat} {fl : List Fl} {S : DSp} {cl : Cl}
theorem e_callM : dCallM n m fl S R Rk Δ O P E = R Δ O (fun ds O1 => Rk Δ O1 (fun es O2 => ds.length = n ∧ es.length = m ∧ S (ds ++ fillD fl es) O2 P E) E) E := propext Iff.rfl
theorem e_makeM : dMakeM cl n m fl S R Rk Δ O P E = R Δ O (fun ds O1 => Rk Δ O1 (fun es O2 => ds.length = n ∧ es.length = m ∧ mkK cl S (ds ++ fillD fl es) O2 P E) E) E := propext Iff.rfl
end
end G

set_option Elab.async false
set_option linter.all false
set_option maxRecDepth 100000
set_option maxHeartbeats 4000000
namespace G
open PySem L2
section
variable {g : Gm} {X : Cx} {W : WX} {p : Pos} {x : Str}
end
section
variable {es : List D} {a b c e : D} {r : List Fl}
theorem fl_nil : fillD [] es = [] := by simp only [fillD]
theorem fl_int {i : Int} : fillD (.int i :: r) es = .int i :: fillD r es := by simp only [fillD, Fl.d]
theorem fl_str {i : Str} : fillD (.str i :: r) es = .str i :: fillD r es := by simp only [fillD, Fl.d]
theorem fl_bl {i : Bool} : fillD (.bl i :: r) es = .bl i :: fillD r es := by simp only [fillD, Fl.d]
theorem fl_non : fillD (.non :: r) es = .non :: fillD r es := by simp only [fillD, Fl.d]
theorem fl_a0 : fillD (.at 0 :: r) (a :: es) = a :: fillD r (a :: es) := by simp [fillD]
theorem fl_a1 : fillD (.at 1 :: r) (a :: b :: es) = b :: fillD r (a :: b :: es) := by simp [fillD]
theorem fl_a2 : fillD (.at 2 :: r) (a :: b :: c :: es) = c :: fillD r (a :: b :: c :: es) := by simp [fillD]
end
end G

set_option Elab.async false
set_option linter.all false
set_option maxRecDepth 100000
set_option maxHeartbeats 4000000
namespace G
open PySem L2
/-! ## f'{x:>8}': texts and small numbers to the right -/
/-- as wide as n, filled by blanks -/
def rjS (n : Nat) (y : Str) : Str := if n ≤ y.length then y else ⟨Array.replicate (n - y.length) 32 ++ y.cps⟩
section
variable {prog : Program} {w : World} {A : Around} {E : Value → Shared → Prop} {s : Shared}
end
/-- {x:>8} of a text -/
def dFmt8 (T : DE) : DE := fun Δ O P E => T Δ O (fun d O1 => match d with | .str y => y.length ≤ 1000 ∧ P (.str (rjS 8 y)) O1 | _ => False) E
/-- {n:>2} of a small number -/
def dFmt2 (T : DE) : DE := fun Δ O P E => T Δ O (fun d O1 => match d with | .int i => (0 ≤ i ∧ i < 16) ∧ P (.str (rjS 2 (Str.ofString (toString i)))) O1 | _ => False) E
section
variable {g : Gm} {X : Cx} {W : WX} {e : Expr} {T : DE} {pos p1 p2 : Pos} {j : Nat}
theorem e_fmt8 {Δ : Sl} {O : Sto} {P : KD} {E : KX} : dFmt8 T Δ O P E = T Δ O (fun d O1 => match d with | .str y => y.length ≤ 1000 ∧ P (.str (rjS 8 y)) O1 | _ => False) E := propext Iff.rfl
theorem e_fmt2 {Δ : Sl} {O : Sto} {P : KD} {E : KX} : dFmt2 T Δ O P E = T Δ O (fun d O1 => match d with | .int i => (0 ≤ i ∧ i < 16) ∧ P (.str (rjS 2 (Str.ofString (toString i)))) O1 | _ => False) E := propext Iff.rfl
end
/-! ## x.rjust(n) -/
/-! ## text * n -/
def repS (n : Int) (i : Str) : Str := if n < 1 then Str.empty else if (n == 1 || i.length == 0) = true then i else ⟨(List.replicate n.toNat i.cps).foldl (· ++ ·) #[]⟩
def fMulS : B2 := fun x y O P => match x, y with
  | .str i, .int n => (-(2 ^ 62) ≤ n ∧ n ≤ 1000 ∧ i.length ≤ 1000) ∧ P (.str (repS n i)) O
  | _, _ => False
theorem f_mulS {i : Str} {n : Int} {O : Sto} {P : KD} : fMulS (.str i) (.int n) O P = ((-(2 ^ 62) ≤ n ∧ n ≤ 1000 ∧ i.length ≤ 1000) ∧ P (.str (repS n i)) O) := propext Iff.rfl
end G

set_option Elab.async false
set_option linter.all false
set_option maxRecDepth 100000
set_option maxHeartbeats 4000000
open PySem L2
namespace G
/-! ## x.rjust(n) -/
def dRjust (Ta Tb : DE) : DE := fun Δ O P E => Ta Δ O (fun x O1 => match x with
  | .str a => Tb Δ O1 (fun y O2 => match y with
    | .int n => (0 ≤ n ∧ n ≤ 1000) ∧ P (.str (rjS n.toNat a)) O2
    | _ => False) E
  | _ => False) E
section
variable {g : Gm} {X : Cx} {W : WX} {o : Expr} {Ta Tb : DE}
theorem e_rjust {Δ : Sl} {O : Sto} {P : KD} {E : KX} : dRjust Ta Tb Δ O P E = Ta Δ O (fun x O1 => match x with
  | .str a => Tb Δ O1 (fun y O2 => match y with
    | .int n => (0 ≤ n ∧ n ≤ 1000) ∧ P (.str (rjS n.toNat a)) O2
    | _ => False) E
  | _ => False) E := propext Iff.rfl
end
end G

set_option Elab.async false
set_option linter.all false
set_option maxRecDepth 100000
set_option maxHeartbeats 4000000
namespace G
open PySem L2
/-! ## list(range(n)) -/
def dLsR (T : DE) : DE := fun Δ O P E => T Δ O (fun d O1 => match d with | .int j => (0 ≤ j ∧ j ≤ 1000000) ∧ P (.lst ((List.range j.toNat).map fun i : Nat => D.int (i : Int))) O1 | _ => False) E
section
variable {g : Gm} {X : Cx} {W : WX} {a : Expr} {T : DE} {p p2 pos pos2 : Pos}
theorem e_lsR {Δ : Sl} {O : Sto} {P : KD} {E : KX} : dLsR T Δ O P E = T Δ O (fun d O1 => match d with | .int j => (0 ≤ j ∧ j ≤ 1000000) ∧ P (.lst ((List.range j.toNat).map fun i : Nat => D.int (i : Int))) O1 | _ => False) E := propext Iff.rfl
end
/-! ## dict(a list of pairs (text, x)), the texts all different -/
def kvsOf : List D → Option (List (Str × D))
  | [] => some []
  | .tup [.str k, x] :: r => (kvsOf r).map ((k, x) :: ·)
  | _ => none
def fDictP : BC := fun ds O P => match ds with
  | [d] => (match lstOf O d with
    | some es => (match kvsOf es with | some kvs => (kvs.map (·.1)).Nodup ∧ ∀ p, freshC O p → P (.ptr p) ((p, .dic (kvs.map fun kv => .inr kv.1) (kvs.map (·.2))) :: O) | none => False)
    | none => False)
  | _ => False
section
variable {g : Gm}
theorem f_dictP {d : D} {O : Sto} {P : KD} : fDictP [d] O P = (match lstOf O d with
    | some es => (match kvsOf es with | some kvs => (kvs.map (·.1)).Nodup ∧ ∀ p, freshC O p → P (.ptr p) ((p, .dic (kvs.map fun kv => .inr kv.1) (kvs.map (·.2))) :: O) | none => False)
    | none => False) := propext Iff.rfl
end
/-! ## an owned slice -/
def dSliceO (T : DE) (L U : DO) : DE := fun Δ O P E => T Δ O (fun d O1 => L Δ O1 (fun l O2 => U Δ O2 (fun u O3 => match lstOf O3 d with | some ds => ∀ p, freshC O3 p → P (.ptr p) ((p, .lst (cutD ds l u)) :: O3) | none => False) E) E) E
section
variable {g : Gm} {X : Cx} {W : WX} {a : Expr} {Ta : DE} {p p2 pos pos2 : Pos}
theorem e_sliceO {L U : DO} {Δ : Sl} {O : Sto} {P : KD} {E : KX} : dSliceO Ta L U Δ O P E = Ta Δ O (fun d O1 => L Δ O1 (fun l O2 => U Δ O2 (fun u O3 => match lstOf O3 d with | some ds => ∀ p, freshC O3 p → P (.ptr p) ((p, .lst (cutD ds l u)) :: O3) | none => False) E) E) E := propext Iff.rfl
end
end G

set_option Elab.async false
set_option linter.all false
set_option maxRecDepth 100000
set_option maxHeartbeats 4000000
namespace G
open PySem L2 PySem.Spec PyProof.Rows
/-! ## sorted(a list of pairs (number, text)) -/
abbrev NT := Int × Str
def lexN (a b : NT) : Bool := if a.1 = b.1 then decide (a.2.cps.toList < b.2.cps.toList) else decide (a.1 < b.1)
def IsNT (h : Heap) (v : Value) (q : NT) : Prop := ∃ (a : Addr) (o : Obj) (t u : Tok) (n : Nat), v = .ref a ∧ h.get? a = some o ∧ o.cls = .type "tuple" ∧ o.data = .seq #[.int q.1 t, .str q.2 u] n
theorem IsNT.keeps {h h' : Heap} {v : Value} {q : NT} (x : IsNT h v q) (e : ∀ b o, h.get? b = some o → o.cls = .type "tuple" → h'.get? b = some o) : IsNT h' v q := by
  obtain ⟨a, o, t, u, n, h1, h2, h3, h4⟩ := x
  exact ⟨a, o, t, u, n, h1, e _ _ h2 h3, h3, h4⟩
section
variable {prog : Program} {w : World} {A : Around} {E : Value → Shared → Prop} {s : Shared}
end
section
variable {X : Cx}
end
/-! ### over plain data -/
def ntD (q : NT) : D := .tup [.int q.1, .str q.2]
def ntsOf : List D → Option (List NT)
  | [] => some []
  | .tup [.int i, .str y] :: r => (ntsOf r).map ((i, y) :: ·)
  | _ => none
theorem ntsOf_map : ∀ ns : List NT, ntsOf (ns.map ntD) = some ns
  | [] => rfl
  | q :: r => by
    rw [List.map_cons]
    show (ntsOf (r.map ntD)).map ((q.1, q.2) :: ·) = _
    rw [ntsOf_map r]
    rfl
def leN (a b : NT) : Bool := !lexN b a
def srtN (ns : List NT) : List NT := ns.mergeSort leN
def fSortN : BC := fun ds O P => match ds with | [d] => (match lstOf O d with | some es => (match ntsOf es with | some ns => (∀ q ∈ ns, PyData.strOk q.2 = true) ∧ P (.lst ((srtN ns).map ntD)) O | none => False) | none => False) | _ => False
section
variable {g : Gm}
theorem f_sortN {O : Sto} {P : KD} {ns : List NT} : fSortN [.lst (ns.map ntD)] O P = ((∀ q ∈ ns, PyData.strOk q.2 = true) ∧ P (.lst ((srtN ns).map ntD)) O) := by simp only [fSortN, lstOf, ntsOf_map]
end
end G

set_option Elab.async false
set_option linter.all false
set_option maxRecDepth 100000
set_option maxHeartbeats 4000000
namespace G
open PySem PySem.Spec L2
open PyProof.Rows hiding St
/-! ## {k: v for x in xs}: an owned dict -/
def dcD (Gd : DG) (Tt : DT) (Tk Tv : DE) (p : Addr) (P : List Key → List D → Sto → Prop) : List D → List Key → List D → Sl → Sto → Prop
  | [], ks, es, _, O => P ks es O
  | x :: r, ks, es, Δ, O => Gd x Δ fun Δ' => Tt Δ' ((p, .dic ks es) :: O) (fun b O1 => if b = true
      then Tk Δ' O1 (fun y O2 => Tv Δ' O2 (fun z O3 => ∃ O4, O3 = (p, .dic ks es) :: O4 ∧ match keyD y with
        | some k => ks.Nodup ∧ dcD Gd Tt Tk Tv p P r (putKs k ks) (putKd k z ks es) Δ O4
        | none => False) (fun _ _ => False)) (fun _ _ => False)
      else ∃ O3, O1 = (p, .dic ks es) :: O3 ∧ dcD Gd Tt Tk Tv p P r ks es Δ O3) (fun _ _ => False)
def dDcO (R : DA) (Gd : DG) (Tt : DT) (Tk Tv : DE) (vs : List Nat) : DE := fun Δ O P E => R Δ O (fun ds O1 => ds.length ≤ 1000000 ∧ ∀ p, freshC O1 p → dcD Gd Tt Tk Tv p (fun ks es O2 => P (.ptr p) ((p, .dic ks es) :: O2)) ds [] [] (wipeD Δ vs) O1) E
theorem e_dcO {R : DA} {Gd : DG} {Tt : DT} {Tk Tv : DE} {vs : List Nat} {Δ : Sl} {O : Sto} {P : KD} {E : KX} : dDcO R Gd Tt Tk Tv vs Δ O P E = R Δ O (fun ds O1 => ds.length ≤ 1000000 ∧ ∀ p, freshC O1 p → dcD Gd Tt Tk Tv p (fun ks es O2 => P (.ptr p) ((p, .dic ks es) :: O2)) ds [] [] (wipeD Δ vs) O1) E := propext Iff.rfl
section
variable {g : Gm} {X : Cx} {W : WX} {pos pos' : Pos} {tg : Expr} {R : DA}
end
/-! ## xs.index(text) -/
def dIdx (Ta : DE) (R : DA) : DE := fun Δ O P E => Ta Δ O (fun o O1 => match lstOf O1 o with
  | some _ => R Δ O1 (fun as O2 => match lstOf O2 o, as with
    | some ds, [.str z] => (match strsOf ds with | some ns => z ∈ ns ∧ P (.int (ns.idxOf z : Int)) O2 | none => False)
    | _, _ => False) E
  | none => False) E
theorem e_idx {Ta : DE} {R : DA} {Δ : Sl} {O : Sto} {P : KD} {E : KX} : dIdx Ta R Δ O P E = Ta Δ O (fun o O1 => match lstOf O1 o with
  | some _ => R Δ O1 (fun as O2 => match lstOf O2 o, as with
    | some ds, [.str z] => (match strsOf ds with | some ns => z ∈ ns ∧ P (.int (ns.idxOf z : Int)) O2 | none => False)
    | _, _ => False) E
  | none => False) E := propext Iff.rfl
section
variable {g : Gm} {X : Cx} {W : WX} {c : Expr} {Ta : DE} {R : DA}
end

theorem e_gt4 {i j k l : Nat} {a b c d : D} {Δ : Sl} {Q : Sl → Prop} : dgT [i, j, k, l] (.tup [a, b, c, d]) Δ Q = Q ((((Δ.set i (some a)).set j (some b)).set k (some c)).set l (some d)) := propext Iff.rfl
end G

set_option Elab.async false
set_option linter.all false
set_option maxRecDepth 100000
set_option maxHeartbeats 4000000
namespace G
open PySem L2
/-! ## an exception that keeps a copy of a list -/
section
variable {K : PySem.W.Frag} {C : Addr} {f1 : Str} {vs : List V} {H : Hp} {Q : VK} {E : XK} {N : List Str} {txt : Str}
end
def dRaiseL (ec : Ec) (f1 : Fd) (R : DA) : DS := fun D Δ O => R Δ O (fun ds O1 => match ds with | [.lst es] => D.xc ⟨ec, [f1], [.lst es]⟩ Δ O1 | _ => False) (fun x O1 => D.xc x Δ O1)
theorem e_raiseL {ec : Ec} {f1 : Fd} {R : DA} {D : DEnds} {Δ : Sl} {O : Sto} : dRaiseL ec f1 R D Δ O = R Δ O (fun ds O1 => match ds with | [.lst es] => D.xc ⟨ec, [f1], [.lst es]⟩ Δ O1 | _ => False) (fun x O1 => D.xc x Δ O1) := propext Iff.rfl
section
variable {g : Gm} {X : Cx} {W : WX} {pos pos' p p2 : Pos} {a b c e : Expr} {es : List Expr} {R : DA} {Ta Tb : DE} {k j : Nat} {x : Str}
end
end G

set_option Elab.async false
set_option linter.all false
set_option maxRecDepth 100000
set_option maxHeartbeats 4000000
namespace G
open PySem L2
/-! ## a new object that will change -/
section
variable {g : Gm} {X : Cx} {W : WX} {pos pos' p p2 : Pos} {a b c e : Expr} {es : List Expr} {R : DA} {Ta Tb : DE} {k j : Nat} {x m : Str} {f : Addr} {S : DSp}
theorem e_makeO {cl : Cl} {Δ : Sl} {O : Sto} {P : KD} {E : KX} : dMakeO cl S R Δ O P E = R Δ O (fun ds O1 => ∀ q, freshC O1 q → S (.ptr q :: ds) ((q, .ins cl [] []) :: O1)
  (fun r O2 => r = .non ∧ P (.ptr q) O2) (fun x O2 => E x (delC O2 q))) E := propext Iff.rfl
/-! ## o.m = e, m a property with a setter -/
def dSetP (tab : List (Cl × DSp)) (To Tv : DE) : DS := fun D Δ O => Tv Δ O (fun d O1 => To Δ O1 (fun o O2 => match clsOf O2 o with
  | some c => (match tabAt tab c with | some S => S [o, d] O2 (fun _ O3 => D.nx Δ O3) (fun x O3 => D.xc x Δ O3) | none => False)
  | none => False) (fun x O1 => D.xc x Δ O1)) (fun x O1 => D.xc x Δ O1)
theorem e_setP {tab : List (Cl × DSp)} {D : DEnds} {Δ : Sl} {O : Sto} : dSetP tab Ta Tb D Δ O = Tb Δ O (fun d O1 => Ta Δ O1 (fun o O2 => match clsOf O2 o with
  | some c => (match tabAt tab c with | some S => S [o, d] O2 (fun _ O3 => D.nx Δ O3) (fun x O3 => D.xc x Δ O3) | none => False)
  | none => False) (fun x O1 => D.xc x Δ O1)) (fun x O1 => D.xc x Δ O1) := propext Iff.rfl
section
variable {P : Program} {w : World} {K : PySem.W.Frag} {mg : Str → Option Value} {base : Heap}
end
end
end G

set_option Elab.async false
set_option linter.all false
set_option maxRecDepth 100000
set_option maxHeartbeats 4000000
namespace G
open PySem L2
/-! ## a new object that will change, keyword-only parameters -/
def dMakeMO (cl : Cl) (n m : Nat) (fl : List Fl) (S : DSp) (R Rk : DA) : DE := fun Δ O P E => R Δ O (fun ds O1 => Rk Δ O1 (fun es O2 => ds.length = n ∧ es.length = m ∧ ∀ q, freshC O2 q → S (.ptr q :: (ds ++ fillD fl es)) ((q, .ins cl [] []) :: O2)
  (fun r O3 => r = .non ∧ P (.ptr q) O3) (fun x O3 => E x (delC O3 q))) E) E
section
variable {g : Gm} {X : Cx} {W : WX} {pos p : Pos} {a : Expr} {es : List Expr} {R Rk : DA} {k j n : Nat} {f : Addr} {S : DSp} {x : Str} {kws : List Keyword} {ks : List Str} {fl : List Fl}
theorem e_makeMO {Δ : Sl} {O : Sto} {P : KD} {E : KX} {m : Nat} {cl : Cl} : dMakeMO cl n m fl S R Rk Δ O P E = R Δ O (fun ds O1 => Rk Δ O1 (fun es O2 => ds.length = n ∧ es.length = m ∧ ∀ q, freshC O2 q → S (.ptr q :: (ds ++ fillD fl es)) ((q, .ins cl [] []) :: O2)
  (fun r O3 => r = .non ∧ P (.ptr q) O3) (fun x O3 => E x (delC O3 q))) E) E := propext Iff.rfl
end
/-! ## self.a, self.b = e -/
def putsFs : List Fd → List Fd → List Fd
  | [], fs => fs
  | f :: r, fs => putsFs r (putFs f fs)
def putsDs : List Fd → List D → List Fd → List D → List D
  | f :: r, d :: ds, fs, es => putsDs r ds (putFs f fs) (putDs f d fs es)
  | _, _, _, es => es
def dSetT (cs : List Cl) (i : Nat) (fl : List Fd) (Ta : DE) : DS := fun D Δ O => Ta Δ O (fun d O1 => match d, Δ[i]? with
  | .tup ds, some (some (.ptr p)) => (match getC O1 p with
    | some (.ins c fs es) => c ∈ cs ∧ fs.length + fl.length < 900 ∧ ds.length = fl.length ∧ D.nx Δ (setC O1 p (.ins c (putsFs fl fs) (putsDs fl ds fs es)))
    | _ => False)
  | _, _ => False) (fun x O1 => D.xc x Δ O1)
section
variable {g : Gm} {X : Cx} {W : WX} {pos pos' p : Pos} {a o : Expr} {es : List Expr} {Ta : DE} {x : Str} {i : Nat}
theorem e_setT {cs : List Cl} {fl : List Fd} {En : DEnds} {Δ : Sl} {O : Sto} : dSetT cs i fl Ta En Δ O = Ta Δ O (fun d O1 => match d, Δ[i]? with
  | .tup ds, some (some (.ptr p)) => (match getC O1 p with
    | some (.ins c fs es) => c ∈ cs ∧ fs.length + fl.length < 900 ∧ ds.length = fl.length ∧ En.nx Δ (setC O1 p (.ins c (putsFs fl fs) (putsDs fl ds fs es)))
    | _ => False)
  | _, _ => False) (fun x O1 => En.xc x Δ O1) := propext Iff.rfl
/-! ## d.clear() -/
def dClr (To : DE) : DE := fun Δ O P E => To Δ O (fun o O1 => match o with
  | .ptr q => (match getC O1 q with | some (.dic _ _) => P .non (setC O1 q (.dic [] [])) | _ => False)
  | _ => False) E
theorem e_clr {Δ : Sl} {O : Sto} {P : KD} {E : KX} : dClr Ta Δ O P E = Ta Δ O (fun o O1 => match o with
  | .ptr q => (match getC O1 q with | some (.dic _ _) => P .non (setC O1 q (.dic [] [])) | _ => False)
  | _ => False) E := propext Iff.rfl
end
end G

set_option Elab.async false
set_option linter.all false
set_option maxRecDepth 100000
set_option maxHeartbeats 4000000
namespace G
open PySem L2
/-! ## [.. for k in d], d an owned dict: it is locked the while, and nothing else of the store is looked at -/
section
variable {g : Gm}
open Classical in
open Classical in
end
section
variable {g : Gm} {X : Cx} {W : WX} {pos p0 : Pos} {tg : Expr} {x : Str}
end
end G

set_option Elab.async false
set_option linter.all false
set_option maxRecDepth 100000
set_option maxHeartbeats 4000000
namespace G
open PySem L2
/-! ## range(i, j, -1) -/
section
variable {g : Gm} {X : Cx} {W : WX} {a b c tg : Expr} {R : DA}
def rangeN (lo : Int) (n : Nat) : List D := (List.range n).map fun (i : Nat) => .int (lo - (i : Int))
def dRng3 (R : DA) : DA := fun Δ O P E => R Δ O (fun ds O1 => match ds with | [.int i, .int j, .int c] => (-(2 ^ 62) ≤ i ∧ i < 2 ^ 62 ∧ -(2 ^ 62) ≤ j ∧ j < 2 ^ 62 ∧ c = -1) ∧ P (rangeN i (i - j).toNat) O1 | _ => False) E
theorem e_rng3 {Δ : Sl} {O : Sto} {PA : List D → Sto → Prop} {E : KX} : dRng3 R Δ O PA E = R Δ O (fun ds O1 => match ds with | [.int i, .int j, .int c] => (-(2 ^ 62) ≤ i ∧ i < 2 ^ 62 ∧ -(2 ^ 62) ≤ j ∧ j < 2 ^ 62 ∧ c = -1) ∧ PA (rangeN i (i - j).toNat) O1 | _ => False) E := propext Iff.rfl
end
end G

set_option Elab.async false
set_option linter.all false
set_option maxRecDepth 100000
set_option maxHeartbeats 4000000
namespace G
open PySem L2
/-! ## several except clauses without a name -/
def wNmN (K : PySem.W.Frag) (Wo : WX) (D : Ends) : HTs → WX
  | [] => Wo
  | p :: r => fun cl d σ H => ∃ q, PySem.W.exmOne K cl p.1 = some q ∧ (q = true → ∀ b, H b = none → p.2 b cl d D σ H) ∧ (q = false → wNmN K Wo D r cl d σ H)
inductive HdNN (X : Cx) : List ExceptHandler → HTs → Prop
  | nil : HdNN X [] []
  | cons {y : Str} {v : Value} {tz : Addr → Value → Option Addr → TS} {t0 : Stmt} {su : List Stmt} {p1 p2 : Pos} {hl : List ExceptHandler} {l : HTs} (nm : Names X y v)
      (hu : ∀ (b : Addr) (ob : Obj) (cl : Value) (d : Option Addr) (ps : List (Addr × Obj)), Zc cl d ob → (∃ vs, ob.data = .fields vs) → PSs (X.suite b ((b, ob) :: ps)) (t0 :: su) (tz b cl d)) (r : HdNN X hl l) :
      HdNN X (.ExceptHandler (some (.Name y p1)) none (t0 :: su) p2 :: hl) ((v, tz) :: l)
section
variable {X : Cx} {body : List Stmt} {h0 : ExceptHandler} {hl : List ExceptHandler} {l : HTs} {pos : Pos} {tb : WX → TS} {Wo : WX}
end
/-- the clauses, over plain data -/
def xcMN (D : DEnds) : HDs → Exn → Sl → Sto → Prop
  | [] => D.xc
  | p :: r => fun x Δ1 O1 => match p.1 x.c with
    | some true => ∀ a d, freshC O1 a → p.2 a x.c d { nx := D.nx, rt := D.rt, bk := D.bk, ct := D.ct } Δ1 O1
    | some false => xcMN D r x Δ1 O1
    | none => False
def dTryMN (Tb : DS) (hs : HDs) : DS := fun D Δ O => Tb { D with xc := xcMN D hs } Δ O
section
variable {g : Gm} {X : Cx} {W : WX} {pos pos' p : Pos} {body : List Stmt}
inductive QHsN (g : Gm) (X : Cx) : List ExceptHandler → HDs → List Value → Prop
  | nil : QHsN g X [] [] []
  | cons {y : Str} {v : Value} {cat : Ec → Option Bool} {Th : DH} {t0 : Stmt} {su : List Stmt} {p1 p2 : Pos} {hl : List ExceptHandler} {l : HDs} {vs : List Value} (nm : Names X y v) (ct : Cat g X.K v cat)
      (hu : ∀ (a : Addr) (oe : Obj) (ec : Ec) (d : Option Addr) (pn : List (Addr × Obj)), Zc (.ref (g.ea ec)) d oe → (∃ vs, oe.data = .fields vs) → PSs (X.suite a ((a, oe) :: pn)) (t0 :: su) (ls g W0 (Th a ec d))) (r : QHsN g X hl l vs) :
      QHsN g X (.ExceptHandler (some (.Name y p1)) none (t0 :: su) p2 :: hl) ((cat, Th) :: l) (v :: vs)
theorem QHsN.hd {hl : List ExceptHandler} {l : HDs} {vs : List Value} (h : QHsN g X hl l vs) : HdNN X hl (toHTs g l vs) := by
  induction h with
  | nil => exact .nil
  | cons nm ct hu r ih =>
    refine .cons nm (fun b ob cl d ps hz hv => ⟨fun pins s σ H E I ⟨ec, e, h⟩ => ?_⟩) ih
    subst e
    exact (hu b ob ec d ps hz hv).run pins s σ H E I h
theorem QHsN.wish {hl : List ExceptHandler} {l : HDs} {vs : List Value} {F F1 : Hp} {D : DEnds} {En : Ends} {y : Exn} {Δ1 : Sl} {O1 : Sto} {cls : Value} {dd : Option Addr} {σ1 : St} {H1 : Hp} (h : QHsN g X hl l vs) (ho : EOk g F W D En) (s1 : Same F F1) (sr1 : SRel g F1 σ1 Δ1) (w1 : Wd g F1 O1 H1) (rx : RelX g F1 cls dd y)
    (hq : xcMN D l y Δ1 O1) : wNmN X.K W En (toHTs g l vs) cls dd σ1 H1 := by
  induction h with
  | nil => exact ho.xc _ _ _ _ _ _ _ _ hq s1 sr1 w1 rx
  | @cons _ v cat Th _ _ _ _ _ _ _ nm ct hu r ih =>
    have hq : (match cat y.c with
      | some true => ∀ a d, freshC O1 a → Th a y.c d { nx := D.nx, rt := D.rt, bk := D.bk, ct := D.ct } Δ1 O1
      | some false => xcMN D _ y Δ1 O1
      | none => False) := hq
    split at hq
    · rename_i e
      have em := ct _ _ e
      rw [← rx.1] at em
      exact ⟨true, em, fun _ a ha => ⟨y.c, rx.1, _, _, _, F1, hq a dd (w1.fresh ha), sr1, w1, eok_outN (ho.mono s1)⟩, fun z => by cases z⟩
    · rename_i e
      have em := ct _ _ e
      rw [← rx.1] at em
      exact ⟨false, em, fun z => (by cases z), fun _ => ih hq⟩
    · exact hq.elim
theorem e_tryMN {T : DS} {hs : HDs} {En : DEnds} {Δ : Sl} {O : Sto} : dTryMN T hs En Δ O = T { En with xc := xcMN En hs } Δ O := propext Iff.rfl
theorem e_xcMN0 {En : DEnds} {x : Exn} {Δ : Sl} {O : Sto} : xcMN En [] x Δ O = En.xc x Δ O := propext Iff.rfl
theorem e_xcMN1 {En : DEnds} {cat : Ec → Option Bool} {Th : DH} {r : HDs} {x : Exn} {Δ : Sl} {O : Sto} : xcMN En ((cat, Th) :: r) x Δ O = (match cat x.c with
    | some true => ∀ a d, freshC O a → Th a x.c d { nx := En.nx, rt := En.rt, bk := En.bk, ct := En.ct } Δ O
    | some false => xcMN En r x Δ O
    | none => False) := propext Iff.rfl
end
end G

set_option Elab.async false
set_option linter.all false
set_option maxRecDepth 100000
set_option maxHeartbeats 4000000
namespace G
open PySem L2
/-! ## == of lists of objects of one own class: the equal case -/
def EqLs (C : Cl) (S : DSp) (xs ys : List D) (O : Sto) : Prop := xs.length = ys.length ∧ ∀ (i : Nat) (x y : D), xs[i]? = some x → ys[i]? = some y → clsOf O x = some C ∧ tgD O y = some (.c C) ∧ S [x, y] O (fun d O' => d = .bl true ∧ O' = O) (fun _ _ => False)
def dEqLs (C : Cl) (S : DSp) (Ta Tb : DE) : DE := fun Δ O P E => Ta Δ O (fun x O1 => Tb Δ O1 (fun y O2 => match x, y with
  | .lst xs, .lst ys => EqLs C S xs ys O2 ∧ P (.bl true) O2
  | _, _ => False) E) E
section
variable {g : Gm} {X : Cx} {W : WX} {pos pos' p apos : Pos} {a b c o : Expr} {es : List Expr} {Ta Tb : DE} {R : DA} {k j : Nat} {f : Addr} {S : DSp} {x m : Str} {C : Cl}
theorem e_eqLs {Δ : Sl} {O : Sto} {P : KD} {E : KX} : dEqLs C S Ta Tb Δ O P E = Ta Δ O (fun x O1 => Tb Δ O1 (fun y O2 => match x, y with
  | .lst xs, .lst ys => EqLs C S xs ys O2 ∧ P (.bl true) O2
  | _, _ => False) E) E := propext Iff.rfl
end
end G

set_option Elab.async false
set_option linter.all false
set_option maxRecDepth 100000
set_option maxHeartbeats 4000000
namespace G
open PySem L2
/-! ## bool(own); own[i] -/
def hBl : D → Sto → KD → Prop := fun d O P => match d with | .bl b => P (.bl b) O | _ => False
def dSubO (tab : List (Cl × DSp)) (Ta Tb : DE) : DE := fun Δ O P E => Ta Δ O (fun x O1 => Tb Δ O1 (fun y O2 => match clsOf O2 x with
  | some c => (match tabAt tab c with | some S => S [x, y] O2 P (fun _ _ => False) | none => False)
  | none => False) E) E
section
variable {g : Gm} {X : Cx} {W : WX} {pos pos' p apos : Pos} {a b c o : Expr} {es : List Expr} {Ta Tb : DE} {R : DA} {k j : Nat} {f : Addr} {S : DSp} {x m : Str} {tab : List (Cl × DSp)}
theorem e_subO {Δ : Sl} {O : Sto} {P : KD} {E : KX} : dSubO tab Ta Tb Δ O P E = Ta Δ O (fun x O1 => Tb Δ O1 (fun y O2 => match clsOf O2 x with
  | some c => (match tabAt tab c with | some S => S [x, y] O2 P (fun _ _ => False) | none => False)
  | none => False) E) E := propext Iff.rfl
theorem h_bl {b : Bool} {O : Sto} {P : KD} : hBl (.bl b) O P = P (.bl b) O := propext Iff.rfl
end
end G

set_option Elab.async false
set_option linter.all false
set_option maxRecDepth 100000
set_option maxHeartbeats 4000000
namespace G
open PySem L2
/-! ## y = [.. for .. in an owned list] on one line -/
section
variable {g : Gm} {X : Cx} {W : WX} {pos : Pos} {tg : Expr} {Ta : DE}
end
end G

set_option Elab.async false
set_option linter.all false
set_option maxRecDepth 100000
set_option maxHeartbeats 4000000
namespace G
open PySem L2
/-! ## a new thing that is taken as the proof likes: owned or frozen -/
def dMayZ (T : DE) : DE := fun Δ O P E => T Δ O (fun d O1 => match d with
  | .ptr a => P (.ptr a) O1 ∨ (match getC O1 a with | some c => (match frzD c with | some d' => P d' (delC O1 a) | none => False) | none => False)
  | _ => False) E
section
variable {g : Gm} {X : Cx} {W : WX} {a : Expr} {Ta : DE}
end
section
variable {Δ : Sl} {O : Sto} {P : KD} {E : KX} {Ta : DE}
theorem e_mayZ : dMayZ Ta Δ O P E = Ta Δ O (fun d O1 => match d with
  | .ptr a => P (.ptr a) O1 ∨ (match getC O1 a with | some c => (match frzD c with | some d' => P d' (delC O1 a) | none => False) | none => False)
  | _ => False) E := propext Iff.rfl
end
end G

set_option Elab.async false
set_option linter.all false
set_option maxRecDepth 100000
set_option maxHeartbeats 4000000
namespace G
open PySem PySem.Spec L2
open PyProof.Rows hiding St
/-! ## xs.index(x) of data -/
def dIdxN (Ta : DE) (R : DA) : DE := fun Δ O P E => Ta Δ O (fun o O1 => match lstOf O1 o with
  | some _ => R Δ O1 (fun as O2 => match as with
    | [y] => ∃ (d : PyData) (ds : List PyData) (j : Nat) (z : PyData), IsPy O2 o (.list ds) ∧ IsPy O2 y d ∧ SeqAt.shaped (.list ds) = true ∧ SeqAt.shaped d = true ∧ ds[j]? = some z ∧ PyData.eqv z d = true ∧ (∀ (m : Nat) (z' : PyData), m < j → ds[m]? = some z' → PyData.eqv z' d = false) ∧ P (.int (j : Int)) O2
    | _ => False) E
  | none => False) E
theorem e_idxN {Ta : DE} {R : DA} {Δ : Sl} {O : Sto} {P : KD} {E : KX} : dIdxN Ta R Δ O P E = Ta Δ O (fun o O1 => match lstOf O1 o with
  | some _ => R Δ O1 (fun as O2 => match as with
    | [y] => ∃ (d : PyData) (ds : List PyData) (j : Nat) (z : PyData), IsPy O2 o (.list ds) ∧ IsPy O2 y d ∧ SeqAt.shaped (.list ds) = true ∧ SeqAt.shaped d = true ∧ ds[j]? = some z ∧ PyData.eqv z d = true ∧ (∀ (m : Nat) (z' : PyData), m < j → ds[m]? = some z' → PyData.eqv z' d = false) ∧ P (.int (j : Int)) O2
    | _ => False) E
  | none => False) E := propext Iff.rfl
section
variable {g : Gm} {X : Cx} {W : WX} {c : Expr} {Ta : DE} {R : DA}
end
end G

set_option Elab.async false
set_option linter.all false
set_option maxRecDepth 100000
set_option maxHeartbeats 4000000
namespace G
open PySem PySem.Spec L2
open PyProof.Rows hiding St
open PySem.Sem (wp)
/-! ## list comprehensions whose element may raise -/
section
variable {M : Model} {A : Around} {E : Value → Shared → Prop} {s : Shared} {Z : Obj → Prop} {base : Heap} {env : Env} {outer l : List Env} {L C e : Addr}
end
section
variable {X : Cx} {Wo : WX} {pins : List (Addr × Obj)} {σ : St} {H3 : Hp} {s3 : Shared} {scope : Scope} {ce : Env} {fp : List Addr} {C : Addr}
end
/-- a comprehension's block over X: where it began, what its iterator is made of -/
structure Blk (X : Cx) (pins : List (Addr × Obj)) (σ : St) (H0 : Hp) (z : Shared) (scope : Scope) (ce : Env) (fp : List Addr) : Prop where
  inv : Inv X pins σ H0 z
  out : ∀ b ∈ fp, FpOk X pins H0 b ∧ b < z.heap.objs.size
  loc : ce.locals = z.heap.objs.size
  frm : ce.frame = X.env.frame
section
variable {X : Cx} {pins : List (Addr × Obj)} {σ : St} {H0 : Hp} {z : Shared} {scope : Scope} {ce : Env} {fp : List Addr}
theorem Blk.ch (B : Blk X pins σ H0 z scope ce fp) : ∀ b ∈ fp, (b ∈ X.ex ∨ X.s_0.heap.objs.size ≤ b) ∧ b ≠ X.env.locals ∧ (∀ x c, X.env.cells.lookup x = some c → c ≠ b) ∧ ∀ p ∈ X.pn ++ pins, p.1 ≠ b := fun b m =>
  let f := (B.out b m).1
  ⟨f.2.2.2.1, f.2.1, f.2.2.2.2.1, f.2.2.2.2.2⟩
/-- what the iterator is made of stands free in the block -/
theorem Blk.free {τ : St} {H : Hp} {s : Shared} (J : Inv (X.blk z H0 scope ce fp) [] τ H s) (h : ∀ b ∈ fp, H b = none) : ∀ b ∈ fp, FpOk (X.blk z H0 scope ce fp) [] H b := fun b m => by
  refine ⟨h b m, (J.ok.exf b m).1, J.ok.exfs b m, .inl m, fun x c e => (J.ok.exf b m).2 x c e, fun p hp => ?_⟩
  cases (show p ∈ ([] : List (Addr × Obj)) from by simpa using hp)
end
/-- .. over plain data -/
def lcDX (Gd : DG) (Tt : DT) (Te : DE) (p : Addr) (P : List D → Sto → Prop) (E : KX) : List D → List D → Sl → Sto → Prop
  | [], acc, _, O => P acc O
  | x :: r, acc, Δ, O => Gd x Δ fun Δ' => Tt Δ' ((p, .lst acc) :: O) (fun k O1 => if k = true
      then Te Δ' O1 (fun y O2 => ∃ O3, O2 = (p, .lst acc) :: O3 ∧ lcDX Gd Tt Te p P E r (acc ++ [y]) Δ O3) (fun x O2 => ∃ O3, Weak O2 O3 ∧ E x O3)
      else ∃ O3, O1 = (p, .lst acc) :: O3 ∧ lcDX Gd Tt Te p P E r acc Δ O3) (fun _ _ => False)
def dLcX (R : DA) (Gd : DG) (Tt : DT) (Te : DE) (vs : List Nat) : DE := fun Δ O P E => R Δ O (fun ds O1 => ds.length ≤ 1000000 ∧ ∀ p, freshC O1 p → lcDX Gd Tt Te p (fun acc O2 => P (.lst acc) O2) E ds [] (wipeD Δ vs) O1) E
section
variable {g : Gm} {X : Cx} {W : WX} {pos pos' : Pos} {a b c tg : Expr} {R : DA}
end
section
variable {Δ : Sl} {O : Sto} {P : KD} {E : KX} {R : DA} {Gd : DG} {Tt : DT} {Te : DE} {vs : List Nat}
theorem e_lcX : dLcX R Gd Tt Te vs Δ O P E = R Δ O (fun ds O1 => ds.length ≤ 1000000 ∧ ∀ p, freshC O1 p → lcDX Gd Tt Te p (fun acc O2 => P (.lst acc) O2) E ds [] (wipeD Δ vs) O1) E := propext Iff.rfl
end
/-! ## try: return e finally: suite -/
def dRetFin (T : DE) (Tf : DS) : DS := fun D Δ O => T Δ O (fun d O1 => Tf { nx := fun _ O2 => D.rt d O2, rt := fun _ _ => False } Δ O1) (fun x O1 => Tf { nx := fun Δ2 O2 => D.xc x Δ2 O2, rt := fun _ _ => False } Δ O1)
section
variable {g : Gm} {X : Cx} {W : WX} {pos rp : Pos} {e : Expr} {f₀ : Stmt} {fs : List Stmt} {T : DE} {Tf : DS}
theorem e_retFin {D : DEnds} {Δ : Sl} {O : Sto} : dRetFin T Tf D Δ O = T Δ O (fun d O1 => Tf { nx := fun _ O2 => D.rt d O2, rt := fun _ _ => False } Δ O1) (fun x O1 => Tf { nx := fun Δ2 O2 => D.xc x Δ2 O2, rt := fun _ _ => False } Δ O1) := propext Iff.rfl
end
end G

set_option Elab.async false
set_option linter.all false
set_option maxRecDepth 100000
set_option maxHeartbeats 4000000
namespace G
open PySem L2
/-! ## all owned dicts of a list are frozen ahead of a statement -/
def frzA : List D → Sto → (List D → Sto → Prop) → Prop
  | [], O, K => K [] O
  | .ptr q :: r, O, K => match getC O q with
    | some (.dic ks ds) => frzA r (delC O q) fun r' O' => K (.dic ks ds :: r') O'
    | _ => False
  | d :: r, O, K => frzA r O fun r' O' => K (d :: r') O'
def dFrzA (i : Nat) (T : DS) : DS := fun D Δ O => match Δ[i]? with
  | some (some (.lst ds)) => frzA ds O fun ds' O' => T D (Δ.set i (some (.lst ds'))) O'
  | _ => False
section
variable {g : Gm} {X : Cx} {W : WX}
end
section
variable {En : DEnds} {Δ : Sl} {O : Sto} {i : Nat} {T : DS}
theorem e_frzA : dFrzA i T En Δ O = dVar i Δ O (fun d O1 => match d with
  | .lst ds => frzA ds O1 fun ds' O' => T En (Δ.set i (some (.lst ds'))) O'
  | _ => False) (fun _ _ => False) := by
  unfold dFrzA dVar
  cases Δ[i]? with
  | none => rfl
  | some o =>
    cases o with
    | none => rfl
    | some d => cases d <;> rfl
end
section
variable {Gd : DG} {Tt : DT} {Te : DE} {p : Addr} {E : KX} {Δ : Sl} {O : Sto}
end
end G

set_option Elab.async false
set_option linter.all false
set_option maxRecDepth 100000
set_option maxHeartbeats 4000000
namespace G
open PySem L2
/-! ## for x in xs, xs a variable that holds an owned or a frozen list -/
def dForB (i : Nat) (G : DG) (B : DS) : DS := fun D Δ O => match Δ[i]? with
  | some (some (.ptr q)) => dForP (dVar i) G B D Δ O
  | _ => dFor (dItL (dVar i)) G B D Δ O
def forB (d : D) (Gd : DG) (B : DS) (En : DEnds) (Δ : Sl) (O : Sto) : Prop := match d with
  | .ptr p => (match getC O p with | some (.lst ds) => forC (heldL p ds) Gd B En ds Δ O | _ => False)
  | .lst ds => forD Gd B En ds Δ O
  | _ => False
theorem e_forB {i : Nat} {Gd : DG} {B : DS} {En : DEnds} {Δ : Sl} {O : Sto} : dForB i Gd B En Δ O = dVar i Δ O (fun d O1 => forB d Gd B En Δ O1) (fun _ _ => False) := by
  unfold dForB dForP dFor dItL dVar forB
  cases e : Δ[i]? with
  | none => simp only [e]
  | some o =>
    cases o with
    | none => simp only [e]
    | some d =>
      cases d with
      | ptr a => first | (simp only [e]; done) | (simp only [e]; rfl)
      | _ => simp only [e]
end G

set_option Elab.async false
set_option linter.all false
set_option maxRecDepth 100000
set_option maxHeartbeats 4000000
namespace PySem.SeqAt
open PySem.AutoSeq1 (wpAny_loadPart')
open MeetsSeq MeetsSeq2 MeetsSeq3
end PySem.SeqAt
namespace G
open PySem L2
/-! ## == and != of lists and frozen dicts, nested: the equal case -/
section
variable {g : Gm} {X : Cx} {pins : List (Addr × Obj)} {σ : St} {H F : Hp} {O : Sto} {s : Shared}
end
section
variable {g : Gm}
end
end G

set_option Elab.async false
set_option linter.all false
set_option maxRecDepth 100000
set_option maxHeartbeats 4000000
namespace G
open PySem PySem.Spec L2
open PyProof.Rows hiding St
/-! ## a set of texts: its members in the order in which they came -/
def tx (e : Int × Value) : PySem.Str := match e.2 with | .str z _ => z | _ => ⟨#[]⟩
def TxOk (w : World) (e : Int × Value) : Prop := ∃ z t, e.2 = Value.str z t ∧ e.1 = hashStr w z
structure TxTab (w : World) (es : Array (Int × Value)) (t : SetTable) (xs : List PySem.Str) : Prop where
  ok : ∀ e ∈ es.toList, TxOk w e
  pm : (es.toList.map tx).Perm xs
  nd : xs.Nodup
  sz : es.size < scanBound
  fit : t.fits es.size = true
  ris : Ris t.place.toList
  led : w.params.followText "set-order" = true ∨ t.led = true
def SetT (w : World) (h : Heap) (a : Addr) (xs : List PySem.Str) : Prop := ∃ o es ep t, h.get? a = some o ∧ o.ExactSet ∧ o.data = .set es ep t ∧ TxTab w es t xs
def addT (xs : List PySem.Str) (z : PySem.Str) : List PySem.Str := if z ∈ xs then xs else xs ++ [z]
section
variable {P : Program} {w : World} {A : Around} {E : Value → Shared → Prop} {s : Shared} {a : Addr} {xs : List PySem.Str} {es : Array (Int × Value)} {t : SetTable}
theorem SetT.stay {h h' : Heap} (R : SetT w h a xs) (k : ∀ o, h.get? a = some o → h'.get? a = some o) : SetT w h' a xs := by
  obtain ⟨o, es, ep, t, ho, r⟩ := R
  exact ⟨o, es, ep, t, k o ho, r⟩
theorem TxOk.is {e : Int × Value} (h : TxOk w e) (z : PySem.Str) : (PySem.strKind P w).is z e.2 = true ↔ tx e = z := by
  obtain ⟨y, tk, h1, _⟩ := h
  unfold tx
  rw [h1]
  constructor
  · intro q
    exact (PySem.strKind P w).inj (.str y tk) y z (strKind_is P w y tk) q
  · rintro rfl
    exact strKind_is P w y tk
theorem TxTab.len (h : TxTab w es t xs) : es.size = xs.length := by rw [← h.pm.length_eq, List.length_map, Array.length_toList]
end
end G

set_option Elab.async false
set_option linter.all false
set_option maxRecDepth 100000
set_option maxHeartbeats 4000000
namespace G
open PySem PySem.Spec L2
open PyProof.Rows hiding St
/-! ## {elt for .. in .. for .. in ..}, elt a text -/
section
variable {P : Program} {w : World} {A : Around} {R : Result → Shared → Prop} {s : Shared} {elt t0 i0 t1 i1 : Expr} {f0 f1 : List Expr} {scope : Scope} {pos : Pos} {it acc : Value} {env : Env}
end
/-! ### as a tracked thing -/
section
variable {X : Cx}
/-! ### the comprehension -/
variable {Y : Cx} {ps : List (Addr × Obj)} {σ τ : L2.St} {H : Hp} {s s1 : Shared} {vs : List Nat} {fp : List Addr}
end
end G

set_option Elab.async false
set_option linter.all false
set_option maxRecDepth 100000
set_option maxHeartbeats 4000000
namespace G
open PySem L2
open PyProof.Rows hiding St
/-! ## sorted({elt for .. in .. for .. in a list}), elt a text -/
section
variable {g : Gm} {F H : Hp} {O : Sto} {C : Addr} {φ ψ : Heap → Prop}
end
def ssD (Gd : DG) (Tt : DT) (Te : DE) (Q : List PySem.Str → Sto → Prop) : List D → List PySem.Str → Sl → Sto → Prop
  | [], xs, _, O => Q xs O
  | x :: r, xs, Δ, O => Gd x Δ fun Δ' => Tt Δ' O (fun k O1 => if k = true
      then Te Δ' O1 (fun y O2 => ∃ z, y = .str z ∧ xs.length < 4000 ∧ ssD Gd Tt Te Q r (addT xs z) Δ O2) (fun _ _ => False)
      else ssD Gd Tt Te Q r xs Δ O1) (fun _ _ => False)
def ss2D (Gd : DG) (Tt : DT) (T1 : DE) (Gd1 : DG) (Tt1 : DT) (Te : DE) (vs1 : List Nat) (P : List PySem.Str → Sto → Prop) : List D → List PySem.Str → Sl → Sto → Prop
  | [], xs, _, O => P xs O
  | x :: r, xs, Δ, O => Gd x Δ fun Δ' => Tt Δ' O (fun k O1 => if k = true
      then T1 Δ' O1 (fun d O2 => match d with
        | .lst ds => ssD Gd1 Tt1 Te (fun xs' O4 => ss2D Gd Tt T1 Gd1 Tt1 Te vs1 P r xs' Δ O4) ds xs (wipeD Δ' vs1) O2
        | _ => False) (fun _ _ => False)
      else ss2D Gd Tt T1 Gd1 Tt1 Te vs1 P r xs Δ O1) (fun _ _ => False)
def dSs2 (R : DA) (Gd : DG) (Tt : DT) (T1 : DE) (Gd1 : DG) (Tt1 : DT) (Te : DE) (vs vs1 : List Nat) : DE := fun Δ O P E => R Δ O (fun ds O1 => ss2D Gd Tt T1 Gd1 Tt1 Te vs1 (fun xs O2 => xs.length < 64 ∧ P (.lst ((srtS xs).map D.str)) O2) ds [] (wipeD Δ vs) O1) E
section
variable {g : Gm} {X : Cx} {W : WX} {pos pos' p : Pos} {a b c tg tg1 : Expr} {R : DA}
end
section
variable {Δ : Sl} {O : Sto} {P : KD} {E : KX} {R : DA} {Gd Gd1 : DG} {Tt Tt1 : DT} {T1 Te : DE} {vs vs1 : List Nat} {p : Addr} {Q : List PySem.Str → Sto → Prop}
theorem e_ss2 : dSs2 R Gd Tt T1 Gd1 Tt1 Te vs vs1 Δ O P E = R Δ O (fun ds O1 => ss2D Gd Tt T1 Gd1 Tt1 Te vs1 (fun xs O2 => xs.length < 64 ∧ P (.lst ((srtS xs).map D.str)) O2) ds [] (wipeD Δ vs) O1) E := propext Iff.rfl
end
end G

set_option Elab.async false
set_option linter.all false
set_option maxRecDepth 100000
set_option maxHeartbeats 4000000
namespace G
open PySem L2
/-! ## i & 1, i >> j, i << j -/
def fAnd1 : B2 := fun x y O P => match x, y with | .int i, .int j => j = 1 ∧ P (.int (i % 2)) O | _, _ => False
def fShr : B2 := fI (fun _ j => 0 ≤ j) fun i j => .int (i / 2 ^ j.toNat)
def fShl : B2 := fI CPow fun i j => .int (i * 2 ^ j.toNat)
section
variable {g : Gm} {X : Cx}
end
section
variable {O : Sto} {P : KD}
theorem f_and1 {i j : Int} : fAnd1 (.int i) (.int j) O P = (j = 1 ∧ P (.int (i % 2)) O) := propext Iff.rfl
theorem f_shr {i j : Int} : fShr (.int i) (.int j) O P = (0 ≤ j ∧ P (.int (i / 2 ^ j.toNat)) O) := propext Iff.rfl
theorem f_shl {i j : Int} : fShl (.int i) (.int j) O P = (CPow i j ∧ P (.int (i * 2 ^ j.toNat)) O) := propext Iff.rfl
end
end G

set_option Elab.async false
set_option linter.all false
set_option maxRecDepth 100000
set_option maxHeartbeats 4000000
namespace G
open PySem L2
/-! ## == and != of dicts of whole numbers, owned or frozen, that are equal; or of None twice -/
section
variable {X : Cx} {pins : List (Addr × Obj)} {σ : L2.St} {H : Hp} {s : Shared} {a : Addr} {ks : List (Key × V)}
end
section
variable {g : Gm}
end
section
variable {O : Sto} {P : KD} {x y : D} {ks : List Key} {ds : List D}
end
end G

set_option Elab.async false
set_option linter.all false
set_option maxRecDepth 100000
set_option maxHeartbeats 4000000
namespace G
open PySem L2
/-! ## cls(*xs), cls(), cls a variable: an object that changes -/
def mkKO (c : Cl) (S : DSp) (ds : List D) (O1 : Sto) (P : KD) (E : KX) : Prop := ∀ q, freshC O1 q → S (.ptr q :: ds) ((q, .ins c [] []) :: O1) (fun r O2 => r = .non ∧ P (.ptr q) O2) (fun x O2 => E x (delC O2 q))
def dMakeCO (tab : List (Cl × DSp)) (Tf : DE) (R : DA) : DE := fun Δ O P E => Tf Δ O (fun f O1 => match f with
  | .cls c => (match tabAt tab c with | some S => R Δ O1 (fun ds O2 => mkKO c S ds O2 P E) E | none => False)
  | _ => False) E
section
variable {g : Gm} {X : Cx} {W : WX} {pos pos' p p2 : Pos} {a b c e : Expr} {es : List Expr} {R : DA} {Ta Tb Tf : DE} {k j : Nat} {x : Str} {tab : List (Cl × DSp)}
end
section
variable {tab : List (Cl × DSp)} {Tf : DE} {R : DA} {Δ : Sl} {O : Sto} {P : KD} {E : KX}
theorem e_makeCO : dMakeCO tab Tf R Δ O P E = Tf Δ O (fun f O1 => match f with
  | .cls c => (match tabAt tab c with | some S => R Δ O1 (fun ds O2 => mkKO c S ds O2 P E) E | none => False)
  | _ => False) E := propext Iff.rfl
end
/-! ## for x in xs, xs a variable that holds a frozen list or a tuple -/
def dForS (i : Nat) (G : DG) (B : DS) : DS := fun D Δ O => match Δ[i]? with
  | some (some (.tup _)) => dFor (dItT (dVar i)) G B D Δ O
  | _ => dFor (dItL (dVar i)) G B D Δ O
def forS (d : D) (Gd : DG) (B : DS) (En : DEnds) (Δ : Sl) (O : Sto) : Prop := match d with
  | .tup ds => forD Gd B En ds Δ O
  | .lst ds => forD Gd B En ds Δ O
  | _ => False
theorem e_forS {i : Nat} {Gd : DG} {B : DS} {En : DEnds} {Δ : Sl} {O : Sto} : dForS i Gd B En Δ O = dVar i Δ O (fun d O1 => forS d Gd B En Δ O1) (fun _ _ => False) := by
  unfold dForS dFor dItL dItT dVar forS
  cases e : Δ[i]? with
  | none => simp only [e]
  | some o =>
    cases o with
    | none => simp only [e]
    | some d =>
      cases d <;> first | (simp only [e]; done) | (simp only [e]; rfl)
end G

set_option Elab.async false
set_option linter.all false
set_option maxRecDepth 100000
set_option maxHeartbeats 4000000
namespace G
open PySem PySem.Spec L2
open PyProof.Rows hiding St
/-! ## list comprehensions whose test may raise -/
section
variable {X : Cx} {pins : List (Addr × Obj)} {σ : St} {H0 : Hp} {z : Shared} {scope : Scope} {ce : Env} {fp : List Addr}
end
/-- .. over plain data -/
def lcDT (Gd : DG) (Tt : DT) (Te : DE) (p : Addr) (P : List D → Sto → Prop) (E : KX) : List D → List D → Sl → Sto → Prop
  | [], acc, _, O => P acc O
  | x :: r, acc, Δ, O => Gd x Δ fun Δ' => Tt Δ' ((p, .lst acc) :: O) (fun k O1 => if k = true
      then Te Δ' O1 (fun y O2 => ∃ O3, O2 = (p, .lst acc) :: O3 ∧ lcDT Gd Tt Te p P E r (acc ++ [y]) Δ O3) (fun x O2 => ∃ O3, Weak O2 O3 ∧ E x O3)
      else ∃ O3, O1 = (p, .lst acc) :: O3 ∧ lcDT Gd Tt Te p P E r acc Δ O3) (fun x O2 => ∃ O3, Weak O2 O3 ∧ E x O3)
def dLcT (R : DA) (Gd : DG) (Tt : DT) (Te : DE) (vs : List Nat) : DE := fun Δ O P E => R Δ O (fun ds O1 => ds.length ≤ 1000000 ∧ ∀ p, freshC O1 p → lcDT Gd Tt Te p (fun acc O2 => P (.lst acc) O2) E ds [] (wipeD Δ vs) O1) E
section
variable {g : Gm} {X : Cx} {W : WX} {pos pos' : Pos} {a b c tg : Expr} {R : DA}
end
section
variable {Δ : Sl} {O : Sto} {P : KD} {E : KX} {R : DA} {Gd : DG} {Tt : DT} {Te : DE} {vs : List Nat}
theorem e_lcT : dLcT R Gd Tt Te vs Δ O P E = R Δ O (fun ds O1 => ds.length ≤ 1000000 ∧ ∀ p, freshC O1 p → lcDT Gd Tt Te p (fun acc O2 => P (.lst acc) O2) E ds [] (wipeD Δ vs) O1) E := propext Iff.rfl
end
end G

set_option Elab.async false
set_option linter.all false
set_option maxRecDepth 100000
set_option maxHeartbeats 4000000
namespace G
open PySem L2
/-! ## == of two dicts of whole numbers that may differ, or of a dict and None -/
section
variable {prog : Program} {w : World} {A : Around} {s : Shared}
end
section
variable {X : Cx}
end
section
variable {g : Gm}
end
end G

set_option Elab.async false
set_option linter.all false
set_option maxRecDepth 100000
set_option maxHeartbeats 4000000
namespace G
open PySem L2 PyProof.Rows
open PySem.Sem (wp)
/-! ## generators that look at their consumer's cells and hand out things with a new cell -/
/-- what is handed out: a thing, or a thing with a new cell -/
structure Yd where
  c : Option Cell
  f : Addr → D
def Yd.ok (y : Yd) (q : Addr) (O : Sto) : Prop := match y.c with | none => True | some _ => freshC O q
def Yd.st (y : Yd) (q : Addr) (O : Sto) : Sto := match y.c with | none => O | some c => (q, c) :: O
def ydP (d : D) : Yd := ⟨none, fun _ => d⟩
/-- from these items on, it hands out these things -/
def slpC (CO : Sto → Prop) (Gd : DG) (B : DS) (Te : DE) : List D → List Yd → Sl → Prop
  | [], [], _ => True
  | x :: r, y :: ys, Δ => ∀ O, CO O → Gd x Δ fun Δ' => B { nx := fun Δ1 O1 => Te Δ1 O1 (fun d O2 => (∃ q, y.ok q O ∧ d = y.f q ∧ Weak O2 (y.st q O)) ∧ slpC CO Gd B Te r ys Δ1) (fun _ _ => False), rt := fun _ _ => False } Δ' O
  | _, _, _ => False
/-- it is woken, these things of its consumer's standing by -/
structure WkX (g : Gm) (P : Program) (w : World) (K : PySem.W.Frag) (mg : Str → Option Value) (base : Heap) (A : Around) (outer : List Env) (z : Addr → Option Obj) (L : Nat) (F : Hp) (s : Shared) (H F' : Hp) (O : Sto) (xp : List (Addr × Obj)) : Prop where
  wk : Wk g P w K mg base A outer z F s H F' O
  xs : ∀ p ∈ xp, s.heap.get? p.1 = some p.2 ∧ H p.1 = none ∧ z p.1 = none ∧ L ≤ p.1 ∧ ∀ v, p.2.data ≠ .cell v
def PhiC (g : Gm) (P : Program) (w : World) (K : PySem.W.Frag) (mg : Str → Option Value) (base : Heap) (A : Around) (outer : List Env) (L : Nat) (pins : List (Addr × Obj)) (CO : Sto → Prop) : List Yd → Shared → Hp → Hp → Sto → List (Addr × Obj) → End → Shared → Prop
  | [], s, H, F, O, xp => fun e s1 => e = .ret (.ok (.ret .none)) ∧ ∃ H1 F1, Eff g P w outer L s H F O s1 H1 F1 ∧ ∀ p ∈ xp, s1.heap.get? p.1 = some p.2 ∧ H1 p.1 = none
  | d :: r, s, H, F, O, xp => fun e s1 => ∃ (v : Value) (u : V) (z : Addr → Option Obj) (H1 F1 : Hp) (q : Addr), e.result = .yielded v ∧ e.quiet = true ∧ slp e.genState = true ∧ RelV u v ∧ Rep g F1 (d.f q) u ∧ d.ok q O ∧ Eff g P w outer L s H F (d.st q O) s1 H1 F1 ∧ (∀ p ∈ xp, s1.heap.get? p.1 = some p.2 ∧ H1 p.1 = none ∧ z p.1 = none) ∧ (∀ b o, z b = some o → s1.heap.get? b = some o ∧ H1 b = none ∧ L ≤ b) ∧ (∀ q ∈ pins, z q.1 = some q.2) ∧
    ∀ s' H' F' O' xp', CO O' → WkX g P w K mg base A outer z L F1 s' H' F' O' xp' → Rg (model P w) A e.genState s' (PhiC g P w K mg base A outer L pins CO r s' H' F' O' xp')
/-- the generator in this state hands out ys -/
abbrev SlpC (g : Gm) (P : Program) (w : World) (K : PySem.W.Frag) (mg : Str → Option Value) (base : Heap) (A : Around) (outer : List Env) (L : Nat) (pins : List (Addr × Obj)) (CO : Sto → Prop) (ys : List Yd) (gs : GenState) (z : Addr → Option Obj) (F : Hp) : Prop :=
  ∀ s H F' O xp, CO O → WkX g P w K mg base A outer z L F s H F' O xp → Rg (model P w) A gs s (PhiC g P w K mg base A outer L pins CO ys s H F' O xp)
section
variable {g : Gm} {P : Program} {w : World} {K : PySem.W.Frag} {mg : Str → Option Value} {base : Heap} {N : List Str} {qual : Str} {sc : Scope} {f : Addr} {cd : Value} {A : Around} {outer : List Env} {L : Nat}
/-- the loop of a generator -/
theorem gen_turnC {CO : Sto → Prop} {tg e : Expr} {t : TG} {b : List Stmt} {yp p1 : Pos} {Gd : DG} {js : List Nat} {B : DS} {Te : DE} {it : Addr} {fp : List Addr} {J : It} {tn : Nat → Heap → Prop} {Fj : Hp} {all : List D} {pins : List (Addr × Obj)} {fs : List Frame}
    (hw : ∀ s H, s.heap.objs.size = L → GWalk g (gY P w K mg base N qual sc f cd L A outer s H) tg t b e B Te) (lk : LkG g t Gd js) (hd : A.handled = none) (hfl : ∀ c ∈ frs outer, c < L) (hbl : base.objs.size ≤ L) (hco : sc.isCoroutine = false) (hia : interactive (gE qual sc L f cd) = false)
    (T : Turn P w K tg J fp it tn) (gv : Gives g Fj J all) (hpL : ∀ q ∈ pins, L ≤ q.1)
    (hov : A.over (.forLoop tg (.ref it) (b ++ [.Expr (.Yield (some e) yp) p1]) [] (gE qual sc L f cd)) fs = A.deeper (gE qual sc L f cd)) (hsp : splitAtGen fs = none) (hfg : fs.any Frame.guarded = false)
    (hend : ∀ Φ c s, Φ (.ret (.ok (.ret .none))) s → Rt (model P w) A Φ c (leafOf (.ok .next)) fs s) :
    ∀ (items : List D) (ys : List Yd) (i : Nat) (Δ : Sl), items = all.drop i → slpC CO Gd B Te items ys Δ → ∀ (s0 : Shared) (H0 F0 : Hp) (O0 : Sto) (s2 : Shared) (H2 F2 : Hp) (σ : L2.St) (xp : List (Addr × Obj)), (∀ p ∈ xp, ∀ q ∈ pins, p.1 ≠ q.1) → CO O0 → L ≤ s0.heap.objs.size →
      Inv (gY P w K mg base N qual sc f cd L A outer (cutS L s0) H0) (pins ++ xp) σ H2 s2 → Same F0 F2 → SRel g F2 σ Δ → Wd g F2 O0 H2 → Same Fj F2 → tn i s2.heap → (∀ c ∈ fp, FpOk (gY P w K mg base N qual sc f cd L A outer (cutS L s0) H0) (pins ++ xp) H2 c) →
      Rt (model P w) A (PhiC g P w K mg base A outer L pins CO ys s0 H0 F0 O0 xp) (.forLoop tg (.ref it) (b ++ [.Expr (.Yield (some e) yp) p1]) [] (gE qual sc L f cd)) ((model P w).den (.forLoop tg (.ref it) (b ++ [.Expr (.Yield (some e) yp) p1]) [] (gE qual sc L f cd))) fs s2 := by
  intro items
  induction items with
  | nil =>
    intro ys i Δ hi hS s0 H0 F0 O0 s2 H2 F2 σ xp hdis hCO hL I2 sm sr wd sj st ff
    cases ys with
    | cons y ys => exact hS.elim
    | nil =>
      have hle : all.length ≤ i := by
        have := congrArg List.length hi
        simp at this
        omega
      have stop := gv.stop i F2 O0 H2 hle sj wd
      show Rt _ A _ _ ((forTurn tg (.ref it) (b ++ [.Expr (.Yield (some e) yp) p1]) [] (gE qual sc L f cd)).onRaise (fun x => do noteFrame x (gE qual sc L f cd); theTreesLotGoes x)) fs s2
      rw [Sem.onRaise_eq_wrap]
      unfold forTurn
      refine rt_bindw (wpAny_standAt ?_)
      refine rt_bindw ?_
      rw [hov]
      refine wpAny_onRaise (wpAny_mono (T.done (gY P w K mg base N qual sc f cd L A outer (cutS L s0) H0) rfl rfl rfl rfl i (pins ++ xp) s2 σ H2 (fun _ _ => False) I2 ff st stop) (fun r s4 ⟨hr, I4⟩ => ?_) fun _ _ q => q.elim)
      subst hr
      refine rt_again rfl ?_
      refine hend _ _ s4 ⟨rfl, H2, F2, eff_of I4 sm wd, fun p hp => ⟨(I4.pin p (List.mem_append_right _ (List.mem_append_right _ hp))).1, (I4.pin p (List.mem_append_right _ (List.mem_append_right _ hp))).2.1⟩⟩
  | cons x items ih =>
    intro ys i Δ hi hS s0 H0 F0 O0 s2 H2 F2 σ xp hdis hCO hL I2 sm sr wd sj st ff
    cases ys with
    | nil => exact hS.elim
    | cons y ys =>
      have hlt : i < all.length := by
        rcases Nat.lt_or_ge i all.length with c | c
        · exact c
        · rw [List.drop_eq_nil_of_le c] at hi; cases hi
      have hx : all[i]? = some x := by
        have : (all.drop i)[0]? = some x := by rw [← hi]; rfl
        rw [List.getElem?_drop] at this
        simpa using this
      have hi' : items = all.drop (i + 1) := by
        have := congrArg List.tail hi
        simpa using this
      obtain ⟨go, yl⟩ := gv.go i x F2 O0 H2 hx sj wd
      have eS : (cutS L s0).heap.objs.size = L := cutH_size hL
      have W := hw (cutS L s0) H0 eS
      have XN : ∀ {e' : Value} {s' : Shared} {u : Sem PySem.Fin} {c' : Code} {Φ : End → Shared → Prop}, (gY P w K mg base N qual sc f cd L A outer (cutS L s0) H0).xe e' s' → A.over c' fs = A.deeper (gE qual sc L f cd) → Rt (model P w) A Φ c' u fs s' := fun hx ho => rt_no (by rw [ho]; exact xe_no hx)
      show Rt _ A _ _ ((forTurn tg (.ref it) (b ++ [.Expr (.Yield (some e) yp) p1]) [] (gE qual sc L f cd)).onRaise (fun x => do noteFrame x (gE qual sc L f cd); theTreesLotGoes x)) fs s2
      rw [Sem.onRaise_eq_wrap]
      unfold forTurn
      refine rt_bindw (wpAny_standAt ?_)
      refine rt_bindw ?_
      rw [hov]
      refine wpAny_onRaise (wpAny_mono (T.item (gY P w K mg base N qual sc f cd L A outer (cutS L s0) H0) rfl rfl rfl rfl i (pins ++ xp) s2 σ H2 (fun _ _ => False) I2 ff st go) (fun r s4 ⟨u, hr, h4⟩ => ?_) fun _ _ q => q.elim)
      subst hr
      refine rt_bindw ?_
      rw [hov]
      refine wpAny_mono h4 (fun _ s5 ⟨x5, H5, I5, r5, y5, st5, fr5⟩ => ?_) fun _ _ q => q.elim
      obtain ⟨F3, s3, w3, r3⟩ := yl x5 H5 y5
      have ff5 : ∀ c ∈ fp, FpOk (gY P w K mg base N qual sc f cd L A outer (cutS L s0) H0) (pins ++ xp) H5 c := fun c hc => ⟨fr5 c hc, (ff c hc).2⟩
      have I5' := I5.pinned ff5 (T.obj _ _ st5)
      refine rt_bindw ?_
      rw [hov]
      refine wpAny_mono (W.pg.run _ s5 σ H5 x5 u (fun σ6 H6 => ls g (wE fun _ _ _ => False) B
        { nx := fun σ7 H7 => ∃ Δ1 O1 F7, Same F3 F7 ∧ SRel g F7 σ7 Δ1 ∧ Wd g F7 O1 H7 ∧ Te Δ1 O1 (fun d O2 => (∃ q, y.ok q O0 ∧ d = y.f q ∧ Weak O2 (y.st q O0)) ∧ slpC CO Gd B Te items ys Δ1) (fun _ _ => False), rt := fun _ _ => False } σ6 H6) I5' r5 ?_) (fun _ s6 ⟨σ6, H6, I6, q6⟩ => ?_) fun _ _ q => XN q hov
      · refine lk x x5 σ Δ F3 O0 H5 _ _ (hS O0 hCO) r3 (sr.mono s3) w3 fun Δ' σ' hB sr' _ _ => ?_
        exact ⟨_, Δ', O0, F3, hB, sr', w3, ⟨fun Δ1 O1 F7 σ7 H7 q s sr w => ⟨Δ1, O1, F7, s, sr, w, q⟩, fun _ _ _ _ _ q => q.elim, fun _ _ _ _ _ q => q.elim, fun _ _ _ _ _ q => q.elim, fun _ _ _ _ _ _ _ _ q => q.elim⟩⟩
      · rw [Sem.bind_eq_wrap', Sem.wrap_wrap, execs_app]
        refine rt_wrap ?_
        rw [hov]
        refine wpAny_mono (W.ps.run _ s6 σ6 H6 _ I6 q6) (fun fl s7 q7 => ?_) fun _ _ q => XN q hov
        cases fl with
        | brk => obtain ⟨_, _, _, q⟩ := q7; exact q.elim
        | cont => obtain ⟨_, _, _, q⟩ := q7; exact q.elim
        | ret v => obtain ⟨_, _, _, _, _, q⟩ := q7; exact q.elim
        | next =>
          obtain ⟨σ7, H7, I7, Δ1, O1, F7, sm7, sr7, wd7, hTe⟩ := q7
          refine rt_execs (rt_yieldS hsp hfg rfl ?_ hco hia)
          rw [hov]
          have hle : le g (wE fun _ _ _ => False) Te σ7 H7 (fun v H8 => ∃ F8 q, Same F7 F8 ∧ y.ok q O0 ∧ Wd g F8 (y.st q O0) H8 ∧ Rep g F8 (y.f q) v ∧ slpC CO Gd B Te items ys Δ1) :=
            ⟨Δ1, O1, _, _, F7, hTe, sr7, wd7, fun d O2 v F8 H8 ⟨⟨q, ok, ed, wk⟩, hs⟩ s8 w8 r8 => ⟨F8, q, s8, ok, wk _ _ _ w8, by rw [← ed]; exact r8, hs⟩, fun _ _ _ _ _ _ q => q.elim⟩
          refine wpAny_mono (W.pe.run _ s7 σ7 H7 _ I7 hle) (fun v s8 ⟨u8, H8, I8, r8, F8, q8, s78, ok8, wd8, rp8, hs8⟩ => ?_) fun _ _ q => XN q hov
          intro k l p hk
          have I8' : Inv (gY P w K mg base N qual sc f cd L A outer (cutS L s0) H0) (pins ++ xp) σ7 H8 s8 := I8.unpinned
          have sm8 : Same F0 F8 := sm.trans (s3.trans (sm7.trans s78))
          have sj8 : Same Fj F8 := sj.trans (s3.trans (sm7.trans s78))
          have st8 : tn (i + 1) s8.heap := T.keep _ _ _ st5 fun c hc o e => (I8.pin (c, o) (List.mem_append_right _ (List.mem_append_right _ (mem_pinsAt hc e)))).1
          have fr8 : ∀ c ∈ fp, H8 c = none := fun c hc => by
            obtain ⟨o, e, d⟩ := T.obj _ _ st5 c hc
            exact (I8.pin (c, o) (List.mem_append_right _ (List.mem_append_right _ (mem_pinsAt hc e)))).2.1
          let own : Addr → Prop := fun c => ownF qual sc L f cd c ∨ c ∈ fp ∨ ∃ q ∈ pins, q.1 = c
          have dec : ∀ c, Decidable (own c) := fun c => Classical.propDecidable _
          let z : Addr → Option Obj := fun c => @ite _ (own c) (dec c) (s8.heap.get? c) none
          have zy : ∀ c, own c → z c = s8.heap.get? c := fun c h => if_pos h
          have zn : ∀ c, ¬ own c → z c = none := fun c h => if_neg h
          obtain ⟨m8, ⟨oL, eL1, eL2, hoL, hL8⟩, _⟩ := id I8'.loc
          have zL : ∀ q ∈ pins, z q.1 = some q.2 := fun q hq => by
            rw [zy q.1 (.inr (.inr ⟨q, hq, rfl⟩))]
            exact (I8'.pin q (List.mem_append_right _ (List.mem_append_left _ hq))).1
          have cab : ∀ x c, (gE qual sc L f cd).cells.lookup x = some c → L ≤ c := fun x c h => by
            have := I8'.ok.cab x c rfl h
            have e2 : (gY P w K mg base N qual sc f cd L A outer (cutS L s0) H0).s_0.heap.objs.size = L := eS
            rw [e2] at this
            exact this
          have zp : ∀ c o, z c = some o → s8.heap.get? c = some o ∧ H8 c = none ∧ L ≤ c := fun c o h => by
            by_cases hc : own c
            · rw [zy c hc] at h
              refine ⟨h, ?_⟩
              rcases hc with (rfl | ⟨x, hx⟩) | hc | ⟨q, hq, rfl⟩
              · exact ⟨I8'.free, Nat.le_refl _⟩
              · exact ⟨I8'.freeC x c hx, cab x c hx⟩
              · refine ⟨fr8 c hc, ?_⟩
                rcases (ff c hc).2.2.2.1 with y | y
                · cases y
                · have e2 : (gY P w K mg base N qual sc f cd L A outer (cutS L s0) H0).s_0.heap.objs.size = L := eS
                  rw [e2] at y
                  exact y
              · exact ⟨(I8'.pin q (List.mem_append_right _ (List.mem_append_left _ hq))).2.1, hpL q hq⟩
            · rw [zn c hc] at h; cases h
          have xno : ∀ p ∈ xp, ¬ own p.1 := fun p hp ho => by
            obtain ⟨p1, p2, p3, p4, p5⟩ := I8'.pin p (List.mem_append_right _ (List.mem_append_right _ hp))
            rcases ho with (ho | ⟨x, hx⟩) | ho | ⟨q, hq, ho⟩
            · exact p3 ho
            · obtain ⟨v9, ob, ho2, hd9⟩ := I8'.cell x p.1 hx
              rw [p1] at ho2
              cases ho2
              exact p5 _ hd9
            · exact (ff p.1 ho).2.2.2.2.2 p (List.mem_append_right _ (List.mem_append_right _ hp)) rfl
            · exact hdis p hp q hq ho.symm
          refine ⟨v, u8, z, H8, F8, q8, rfl, ?_, rfl, r8, rp8, ok8, eff_of I8 sm8 wd8, fun p hp => ⟨(I8'.pin p (List.mem_append_right _ (List.mem_append_right _ hp))).1, (I8'.pin p (List.mem_append_right _ (List.mem_append_right _ hp))).2.1, zn p.1 (xno p hp)⟩, zp, zL, fun s' H' F' O' xp' hCO' wkx => ?_⟩
          · simp only [End.quiet, hfg, Bool.or_false, Bool.not_false]
          · have wk := wkx.wk
            show Rt _ A _ _ (k (.send .none)) fs s'
            rw [hk]
            show Rt _ A _ _ (.pure (.again (.forLoop tg (.ref it) (b ++ [.Expr (.Yield (some e) yp) p1]) [] (gE qual sc L f cd)))) fs s'
            have zk : ∀ c o, own c → s8.heap.get? c = some o → s'.heap.get? c = some o ∧ H' c = none := fun c o h e => wk.zz c o (by rw [zy c h]; exact e)
            have hsz : L < s'.heap.objs.size := Heap.lt_size (zk L oL (.inl (.inl rfl)) hoL).1
            refine rt_again rfl (ih ys (i + 1) Δ1 hi' hs8 s' H' F' O' s' H' F' σ7 xp' (fun p hp q hq e => by
              have x3 := (wkx.xs p hp).2.2.1
              rw [e, zL q hq] at x3
              cases x3) hCO' (Nat.le_of_lt hsz) ?_ (Same.refl _) (sr7.mono (s78.trans wk.sm)) wk.wd (sj8.trans wk.sm) ?_ ?_)
            · rw [← gX_eq (cutH_size (Nat.le_of_lt hsz) : (cutS L s').heap.objs.size = L)]
              refine inv_again (s1 := cutS L s0) (H1 := H0) (A := A) (outer := outer) (pins := pins ++ xp) (pins' := pins ++ xp') eS (by rw [gX_eq eS]; exact I8') wk.e0 hd hfl hbl hsz (fun c o h e => (zk c o (.inl h) e).1) (fun c h => ?_) fun q hq => ?_
              · rcases h with rfl | ⟨x, hx⟩
                · exact (zk _ oL (.inl (.inl rfl)) hoL).2
                · obtain ⟨v9, ob, ho, _⟩ := I8'.cell x c hx
                  exact (zk c ob (.inl (.inr ⟨x, hx⟩)) ho).2
              · rcases List.mem_append.mp hq with hq | hq
                · obtain ⟨p1, p2, p3, p4, p5⟩ := I8'.pin q (List.mem_append_right _ (List.mem_append_left _ hq))
                  obtain ⟨y1, y2⟩ := zk q.1 q.2 (.inr (.inr ⟨q, hq, rfl⟩)) p1
                  exact ⟨y1, y2, p3, p4, p5⟩
                · obtain ⟨x1, x2, x3, x4, x5⟩ := wkx.xs q hq
                  refine ⟨x1, x2, fun e => ?_, fun hf => absurd (hfl _ hf) (Nat.not_lt.mpr x4), x5⟩
                  rw [e, zy L (.inl (.inl rfl))] at x3
                  have hoL' : s8.heap.get? L = some oL := hoL
                  rw [hoL'] at x3
                  cases x3
            · exact T.keep _ _ _ st8 fun c hc o e => (zk c o (.inr (.inl hc)) e).1
            · intro c hc
              obtain ⟨o, e, d⟩ := T.obj _ _ st8 c hc
              have f0 := (ff c hc).2
              refine ⟨(zk c o (.inr (.inl hc)) e).2, f0.1, f0.2.1, .inr ?_, f0.2.2.2.1, fun p hp => ?_⟩
              rotate_left 1
              · rcases List.mem_append.mp hp with h | h
                · exact f0.2.2.2.2 p (List.mem_append_left _ h)
                · rcases List.mem_append.mp h with h | h
                  · exact f0.2.2.2.2 p (List.mem_append_right _ (List.mem_append_left _ h))
                  · intro ep
                    have x3 := (wkx.xs p h).2.2.1
                    rw [ep, zy c (.inr (.inl hc)), e] at x3
                    cases x3
              have e2 : (gY P w K mg base N qual sc f cd L A outer (cutS L s') H').s_0.heap.objs.size = L := cutH_size (Nat.le_of_lt hsz)
              rw [e2]
              exact (zp c o (by rw [zy c (.inr (.inl hc))]; exact e)).2.2
end
end G

set_option Elab.async false
set_option linter.all false
set_option maxRecDepth 100000
set_option maxHeartbeats 4000000
namespace G
open PySem L2 PyProof.Rows
open PySem.Sem (wp)
/-! ## a generator def -/
/-- what its call gives -/
def GMdC (g : Gm) (P : Program) (w : World) (K : PySem.W.Frag) (mg : Str → Option Value) (base : Heap) (k : Nat) (outer : List Env) (CO : Sto → Prop) (ys : List Yd) (F H : Hp) (s : Shared) (u : Value) (s' : Shared) : Prop :=
  ∃ (a : Addr) (gi : Nat) (gs : GenState) (go : Obj) (z : Addr → Option Obj), u = .ref a ∧ s'.os = s.os ∧ AllBare s'.gens ∧ (∀ b o, s.heap.get? b = some o → s'.heap.get? b = some o) ∧ s'.gens[gi]? = some gs ∧ (∀ h : Heap, h.get? a = some go → h.IsGen a gi) ∧
    (∀ b o, z b = some o → s'.heap.get? b = some o ∧ H b = none ∧ s.heap.objs.size ≤ b) ∧ z a = some go ∧
    ∀ A', Room (k + 1) A' → A'.frames = some outer → SlpC g P w K mg base A' outer s.heap.objs.size [(a, go)] CO ys gs z F
def GFNC (g : Gm) (P : Program) (w : World) (K : PySem.W.Frag) (mg : Str → Option Value) (base : Heap) (k : Nat) (f : Addr) (SG : List D → (Sto → Prop) → List Yd → Prop) : Prop :=
  ∀ (A : Around) (outer : List Env) (s : Shared) (H : Hp) (us : List Value) (vs : List V) (ds : List D) (F : Hp) (O : Sto) (CO : Sto → Prop) (ys : List Yd), Room (k + 1) A → Env0 P w K mg base A outer s H → Vals vs us → Reps g F ds vs → Wd g F O H → SG ds CO ys →
    codeAny (model P w) A (.call (.ref f) ⟨us, []⟩) (fun r s' => match r with | .ok (.ret u) => GMdC g P w K mg base k outer CO ys F H s u s' | _ => False) s
section
variable {g : Gm} {P : Program} {w : World} {K : PySem.W.Frag} {mg : Str → Option Value} {base : Heap} {N ps : List Str} {x qual : Str} {st : Stmt} {f : Addr} {fd : FuncData} {k : Nat}
/-- its reading -/
def PureGC (N : List Str) (n : Nat) (SG : List D → (Sto → Prop) → List Yd → Prop) (Tp : DS) (R : DA) (Gd : DG) (B : DS) (Te : DE) : Prop := ∀ ds CO ys, SG ds CO ys → ds.length = n ∧ ∀ O, CO O → Opn O fun O' =>
  Tp { nx := fun Δ O1 => R Δ O1 (fun items O2 => Weak O2 O ∧ slpC CO Gd B Te items ys Δ) (fun _ _ => False), rt := fun _ _ => False } (startD N ds) O'
theorem gen_fnC {pre b : List Stmt} {tg iter e : Expr} {t : TG} {Gd : DG} {js : List Nat} {Tp B : DS} {R : DA} {Te : DE} {yp p1 p2 : Pos} {SG : List D → (Sto → Prop) → List Yd → Prop} (Fn : Fun K x qual st f fd) (S : GScope N ps (defScope st)) (hb : Binds K fd ps [])
    (hst : defBody st = pre ++ [.For tg iter (b ++ [.Expr (.Yield (some e) yp) p1]) [] p2]) (lk : LkG g t Gd js) (hs : ∀ env x, foldedSetIterable iter env x = pure x) (hia : ∀ L f cd, interactive (gE qual (defScope st) L f cd) = false)
    (body : ∀ (cdv : Value) (A : Around) (outer : List Env) (s : Shared) (H : Hp), Room k (A.deeper (envOfC qual (defScope st) s.heap.objs.size f cdv)) → GBody g (gX P w K mg base N qual (defScope st) f cdv A outer s H) pre tg iter t b e Tp R B Te)
    (pure : PureGC N ps.length SG Tp R Gd B Te) : GFNC g P w K mg base k f SG := by
  intro A outer s H us vs ds F O CO ys hr e0 rv rd wd hS
  obtain ⟨hlen, hp⟩ := pure ds CO ys hS
  have hl : vs.length = ps.length := by rw [← rd.length]; exact hlen
  obtain ⟨oc, od, kV, doc, pm, an, cdv, ct, osl, rfl, lkf, hcd⟩ := Fn.ex
  have KX : K.In s.heap := e0.mod.kin.keeps fun b o e => (e0.bs b o e).1
  have lim : s.heap.NoLimit := e0.mod.nolimit.keeps fun b o e => (e0.bs b o e).1
  have hb' := hb s us KX (by rw [List.append_nil, ← rv.length]; exact hl)
  rw [List.append_nil] at hb'
  have hkind : ∀ y ∈ ps.zip us, (defScope st).names.lookup y.1 = some .local ∨ ((defScope st).names.lookup y.1 = some .cell ∧ ((cellsFrom (s.heap.objs.size + 1) (defScope st).names []).lookup y.1).isSome = true) := fun ⟨n, v⟩ hy => by
    rcases S.par n (List.of_mem_zip hy).1 with q | q
    · exact .inl q
    · exact .inr ⟨q, PySem.W.cellsFrom_some _ _ _ (.inl q)⟩
  refine codeAny_call_generator hr.depth (KX _ _ lkf) rfl S.co S.gen rfl (PySem.W.codeRec_of KX hcd) (hb' _ _ _ _ ?_)
  refine wpAny_newFunctionEnv_cells S.kind hkind fun env he s1 x1 => ?_
  subst he
  refine ⟨lim.keeps x1.toInCall.keep, ?_⟩
  obtain ⟨h1, tk, es1, hk1⟩ := x1.done
  have os1 : s1.os = s.os := by rw [es1]
  have gen1 : s1.gens = s.gens := by rw [es1]
  have lt1 : s.heap.objs.size < s1.heap.objs.size := x1.toInCall.ns.lt
  have kp1 : ∀ b o, s.heap.get? b = some o → s1.heap.get? b = some o := x1.toInCall.keep
  have I0 : Inv (gX P w K mg base N qual (defScope st) f cdv A outer s H) [] (start N vs) H s1 := (inv_startG (E := fun _ _ _ => False) S hr.hd e0 hl rv x1).wish (gX P w K mg base N qual (defScope st) f cdv A outer s H).xe
  have main : ∀ (go : Obj) (nm qn : Value) (tk2 : Nat), go.cls = .type "generator" → go.data = .fields #[.int s1.gens.size 0, nm, qn] → go.slots = #[] → (∀ h : Heap, (h.push go).get? h.objs.size = some go) →
      GMdC g P w K mg base k outer CO ys F H s (.ref s1.heap.objs.size) { s1 with gens := s1.gens.push (.fresh (.func (defBody st) (gE qual (defScope st) s.heap.objs.size f cdv))), toks := tk2, heap := s1.heap.push go } := by
    intro go nm qn tk2 hgc hgd0 hgs hgp
    have hgen : ∀ h : Heap, h.get? s1.heap.objs.size = some go → h.IsGen s1.heap.objs.size s1.gens.size := fun h e => ⟨go, nm, qn, e, hgc, hgd0, hgs⟩
    have hgd : ∀ v, go.data ≠ .cell v := fun v q => by rw [hgd0] at q; cases q
    let own : Addr → Prop := fun c => ownF qual (defScope st) s.heap.objs.size f cdv c ∨ c = s1.heap.objs.size
    have dec : ∀ c, Decidable (own c) := fun c => Classical.propDecidable _
    let z : Addr → Option Obj := fun c => @ite _ (own c) (dec c) ((s1.heap.push go).get? c) none
    have zy : ∀ c, own c → z c = (s1.heap.push go).get? c := fun c h => if_pos h
    have zn : ∀ c, ¬ own c → z c = none := fun c h => if_neg h
    obtain ⟨m8, ⟨oL, eL1, eL2, hoL, hL8⟩, _⟩ := id I0.loc
    have hoL : s1.heap.get? s.heap.objs.size = some oL := hoL
    have up : ∀ c o, s1.heap.get? c = some o → (s1.heap.push go).get? c = some o := fun c o e => Heap.get?_push_of_some _ e
    refine ⟨s1.heap.objs.size, s1.gens.size, _, go, z, rfl, os1, AllBare.push (by rw [gen1]; exact e0.bare) rfl, fun b o e => Heap.get?_push_of_some _ (kp1 b o e), Array.getElem?_push_size .., hgen, fun c o h => ?_, ?_, fun A' hr' hf' s' H' F' O' xp hCO' wkx => ?_⟩
    · by_cases hc : own c
      · rw [zy c hc] at h
        refine ⟨h, ?_⟩
        rcases hc with (rfl | ⟨x, hx⟩) | rfl
        · exact ⟨I0.free, Nat.le_refl _⟩
        · exact ⟨I0.freeC x c hx, I0.ok.cab x c rfl hx⟩
        · exact ⟨I0.hok.fresh (Nat.le_refl _), Nat.le_of_lt lt1⟩
      · rw [zn c hc] at h; cases h
    · rw [zy _ (.inr rfl)]; exact hgp _
    · have wk := wkx.wk
      have zk : ∀ c o, own c → (s1.heap.push go).get? c = some o → s'.heap.get? c = some o ∧ H' c = none := fun c o h e => wk.zz c o (by rw [zy c h]; exact e)
      have hsz : s.heap.objs.size < s'.heap.objs.size := Heap.lt_size (zk _ oL (.inl (.inl rfl)) (up _ _ hoL)).1
      have eS : (cutS s.heap.objs.size s').heap.objs.size = s.heap.objs.size := cutH_size (Nat.le_of_lt hsz)
      have hfl : ∀ c ∈ frs outer, c < s.heap.objs.size := fun c hc => by
        obtain ⟨_, o, ho, _⟩ := e0.funs.mem hc
        exact Heap.lt_size ho
      have I1 : Inv (gX P w K mg base N qual (defScope st) f cdv A' outer (cutS s.heap.objs.size s') H') ([(s1.heap.objs.size, go)] ++ xp) (start N vs) H' s' := by
        refine inv_again rfl I0 wk.e0 hr'.hd hfl e0.bsz hsz (fun c o h e => (zk c o (.inl h) (up _ _ e)).1) (fun c h => ?_) fun q hq => ?_
        · rcases h with rfl | ⟨x, hx⟩
          · exact (zk _ oL (.inl (.inl rfl)) (up _ _ hoL)).2
          · obtain ⟨v9, ob, ho, _⟩ := I0.cell x c hx
            exact (zk c ob (.inl (.inr ⟨x, hx⟩)) (up _ _ ho)).2
        · rcases List.mem_append.mp hq with hq | hq
          · have eq := List.mem_singleton.mp hq
            subst eq
            obtain ⟨y1, y2⟩ := zk s1.heap.objs.size go (.inr rfl) (hgp _)
            exact ⟨y1, y2, Nat.ne_of_gt lt1, fun hm => absurd (hfl _ hm) (Nat.not_lt_of_le (Nat.le_of_lt lt1)), hgd⟩
          · obtain ⟨x1, x2, x3, x4, x5⟩ := wkx.xs q hq
            refine ⟨x1, x2, fun e => ?_, fun hf => absurd (hfl _ hf) (Nat.not_lt.mpr x4), x5⟩
            rw [e, zy _ (.inl (.inl rfl)), up _ _ hoL] at x3
            cases x3
      rw [gX_eq eS] at I1
      have hbd := body cdv A' outer (cutS s.heap.objs.size s') H' (by rw [eS]; exact hr'.deeper _)
      rw [gX_eq eS] at hbd
      obtain ⟨O1, wd1, hT⟩ := hp O' hCO' g F' H' wk.wd
      have XN : ∀ {e' : Value} {s9 : Shared} {u : Sem PySem.Fin} {c' : Code} {fs : List Frame} {Φ : End → Shared → Prop}, (gY P w K mg base N qual (defScope st) f cdv s.heap.objs.size A' outer (cutS s.heap.objs.size s') H').xe e' s9 → A'.over c' fs = A'.deeper (gE qual (defScope st) s.heap.objs.size f cdv) → Rt (model P w) A' Φ c' u fs s9 := fun hx ho => rt_no (by rw [ho]; exact xe_no hx)
      have hov0 : A'.over (.func (defBody st) (gE qual (defScope st) s.heap.objs.size f cdv)) [] = A'.deeper (gE qual (defScope st) s.heap.objs.size f cdv) := GenW.over_func
      show Rt (model P w) A' _ (.func (defBody st) (gE qual (defScope st) s.heap.objs.size f cdv)) ((model P w).den (.func (defBody st) (gE qual (defScope st) s.heap.objs.size f cdv))) [] s'
      refine rt_func ?_
      have ex : ∀ (K' : Flow → Sem PySem.Fin) (J' : Value → Sem PySem.Fin) (gd' : Bool → Bool) (lv' : List Value → List Value), (execs (defBody st) (gE qual (defScope st) s.heap.objs.size f cdv)).wrap K' J' gd' lv' = (execs (pre ++ [.For tg iter (b ++ [.Expr (.Yield (some e) yp) p1]) [] p2]) (gE qual (defScope st) s.heap.objs.size f cdv)).wrap K' J' gd' lv' := fun _ _ _ _ => by rw [← hst]
      rw [ex, execs_app]
      refine rt_wrap ?_
      rw [hov0]
      have hpre : ls g (wE fun _ _ _ => False) Tp { nx := fun σ2 H2 => ∃ Δ2 O2 F2, Same F' F2 ∧ SRel g F2 σ2 Δ2 ∧ Wd g F2 O2 H2 ∧ R Δ2 O2 (fun items O3 => Weak O3 O' ∧ slpC CO Gd B Te items ys Δ2) (fun _ _ => False), rt := fun _ _ => False } (start N vs) H' :=
        ⟨_, _, O1, F', hT, srel_start (rd.mono wk.sm), wd1, ⟨fun Δ2 O2 F2 σ2 H2 q s sr w => ⟨Δ2, O2, F2, s, sr, w, q⟩, fun _ _ _ _ _ q => q.elim, fun _ _ _ _ _ q => q.elim, fun _ _ _ _ _ q => q.elim, fun _ _ _ _ _ _ _ _ q => q.elim⟩⟩
      refine wpAny_mono (hbd.pr.run _ s' _ H' _ I1 hpre) (fun fl s2 q2 => ?_) fun _ _ q => XN q hov0
      cases fl with
      | brk => obtain ⟨_, _, _, q⟩ := q2; exact q.elim
      | cont => obtain ⟨_, _, _, q⟩ := q2; exact q.elim
      | ret v => obtain ⟨_, _, _, _, _, q⟩ := q2; exact q.elim
      | next =>
        obtain ⟨σ2, H2, I2, Δ2, O2, F2, sm2, sr2, wd2, hR⟩ := q2
        refine rt_execs (rt_For (hs _) ?_)
        rw [hov0]
        have hli : li g (wE fun _ _ _ => False) R σ2 H2 (fun J H3 => ∃ items F3, Same F2 F3 ∧ Wd g F3 O' H3 ∧ Gives g F3 J items ∧ slpC CO Gd B Te items ys Δ2) :=
          ⟨Δ2, O2, _, _, F2, hR, sr2, wd2, fun items O3 F3 H3 J ⟨wkk, hs3⟩ s3 w3 gv => ⟨items, F3, s3, wkk _ _ _ w3, gv, hs3⟩, fun _ _ _ _ _ _ q => q.elim⟩
        refine wpAny_mono (hbd.pi.run _ s2 σ2 H2 _ I2 hli) (fun v s3 h3 => ?_) fun _ _ q => XN q hov0
        refine wpAny_mono h3 (fun itv s4 ⟨it, fp, tn, J, H4, eit, I4, T, st4, ff, items, F4, sm4, wd4, gv, hs4⟩ => ?_) fun _ _ q => XN q hov0
        subst eit
        intro pp
        refine gen_turnC (fun s9 H9 h9 => ?_) lk hr'.hd hfl e0.bsz S.co (hia _ _ _) T gv (fun q hq => ?_) ((GenW.over_loop rfl rfl).trans hov0) rfl rfl (fun Φ c s9 h9 => ?_) items ys 0 Δ2 rfl hs4 s' H' F' O' s4 H4 F4 σ2 xp (fun p hp q hq e => by
          have x3 := (wkx.xs p hp).2.2.1
          rw [e, List.mem_singleton.mp hq, zy _ (.inr rfl), hgp] at x3
          cases x3) hCO' (Nat.le_of_lt hsz) I4 (sm2.trans sm4) (sr2.mono sm4) wd4 (Same.refl _) st4 ff
        · have := (body cdv A' outer s9 H9 (by rw [h9]; exact hr'.deeper _)).gw
          rw [gX_eq h9] at this
          exact this
        · rw [List.mem_singleton.mp hq]
          exact Nat.le_of_lt lt1
        · refine rt_leaf (.ok .next) ?_
          show Rt _ _ _ _ (leafOf (.ok (.ret .none))) [] s9
          exact rt_end _ h9
  exact main _ _ _ _ rfl rfl rfl fun h => Heap.get?_push_size _ rfl
end
section
variable {g : Gm} {P : Program} {w : World} {K : PySem.W.Frag} {mg : Str → Option Value} {base : Heap} {N ps : List Str} {x qual : Str} {st : Stmt} {f : Addr} {fd : FuncData} {k : Nat} {t : TG} {Gd : DG} {js : List Nat} {Tp B : DS} {R : DA} {Te : DE} {SG : List D → (Sto → Prop) → List Yd → Prop}
theorem gen_atC (Fn : Fun K x qual st f fd) (S : GScope N ps (defScope st)) (hb : Binds K fd ps []) (lk : LkG g t Gd js)
    (body : ∀ (cdv : Value) (A : Around) (outer : List Env) (s : Shared) (H : Hp), Room k (A.deeper (envOfC qual (defScope st) s.heap.objs.size f cdv)) → GBody g (gX P w K mg base N qual (defScope st) f cdv A outer s H) (gPre st) (gTg st) (gIt st) t (gBd st) (gYe st) Tp R B Te)
    (pure : PureGC N ps.length SG Tp R Gd B Te) (hst : defBody st = gPre st ++ [.For (gTg st) (gIt st) (gBd st ++ [.Expr (.Yield (some (gYe st)) (gYp st)) (gYq st)]) [] (gFp st)] := by rfl)
    (hs : ∀ env x, foldedSetIterable (gIt st) env x = Pure.pure x := by intro _ _; rfl) (hia : ∀ L f cd, interactive (gE qual (defScope st) L f cd) = false := by intro _ _ _; rfl) : GFNC g P w K mg base k f SG :=
  gen_fnC Fn S hb hst lk hs hia body pure
end
end G

set_option Elab.async false
set_option linter.all false
set_option maxRecDepth 100000
set_option maxHeartbeats 4000000
namespace G
open PySem L2 PyProof.Rows
open PySem.Sem (wp)
/-! ## [e for x in g(..)] -/
abbrev DAY := Sl → Sto → ((Sto → Prop) → List Yd → Sto → Prop) → KX → Prop
/-- an expression that makes a generator -/
structure PGnC (g : Gm) (X : Cx) (W : WX) (k : Nat) (e : Expr) (T : DAY) : Prop where
  run : ∀ (pins : List (Addr × Obj)) (s : Shared) (σ : L2.St) (H : Hp) (Δ : Sl) (O : Sto) (P : (Sto → Prop) → List Yd → Sto → Prop) (E : KX) (F : Hp), Inv X pins σ H s → T Δ O P E → SRel g F σ Δ → Wd g F O H → XOk g F W σ E →
    wpAny (model X.prog X.w) X.A (eval e X.env) (fun u s' => ∃ CO ys O1 F1 H1 sc, P CO ys O1 ∧ Same F F1 ∧ Wd g F1 O1 H1 ∧ Inv X pins σ H1 sc ∧ GMdC g X.prog X.w X.K X.mg X.base k X.stack CO ys F1 H1 sc u s') X.xe s
abbrev DSG := List D → (Sto → Prop) → List Yd → Prop
def dGenC (SG : DSG) (R : DA) : DAY := fun Δ O P E => R Δ O (fun ds O1 => ∃ CO ys, SG ds CO ys ∧ P CO ys O1) E
def dGenM (cs : List Cl) (SG : DSG) (To : DE) : DAY := fun Δ O P E => To Δ O (fun o O1 => ∃ c, clsOf O1 o = some c ∧ c ∈ cs ∧ ∃ CO ys, SG [o] CO ys ∧ P CO ys O1) E
def GGenC (g : Gm) (P : Program) (w : World) (K : PySem.W.Frag) (mg : Str → Option Value) (base : Heap) (k : Nat) (name : Str) (SG : DSG) : Prop := ∃ f, mg name = some (.ref f) ∧ PySem.W.keepIn K (.ref f) = true ∧ GFNC g P w K mg base k f SG
section
variable {g : Gm} {X : Cx} {W : WX} {k j : Nat} {pos p apos : Pos} {a o : Expr} {es : List Expr} {R : DA} {To : DE} {SG : DSG} {x m : Str} {cs : List Cl}
theorem q_genC (h : GGenC g X.prog X.w X.K X.mg X.base k x SG) (hr : Room j X.A) (ha : PA X (a :: es) (la g W R)) (hkj : k + 1 ≤ j := by first | decide | omega) (hg : Gl X x := by rfl) (hdb : (x == ("__debug__" : Str)) = false := by decide)
    (he : starEach (a :: es) X.env = (false, eval a X.env) :: starEach es X.env := by rfl) (hpl : (backTo pos (starEach es X.env)).any (·.1) = false := by rfl) : PGnC g X W k (.Call (.Name x p) (a :: es) [] pos) (dGenC SG R) := by
  refine ⟨fun pins s σ H Δ O P E F I hT sr w hx => ?_⟩
  obtain ⟨f, hm, hk, Fn⟩ := h
  refine wpAny_Call_Name_kw (ld_glob I hg hm ?_ hdb)
  refine PySem.W.callWith_K (h₀ := X.base) I.ok.mod.kin hk (thn (ha.run pos pins s σ H _ I (la_bind (Q := fun vs H1 => ∃ ds CO ys O1 F1, P CO ys O1 ∧ SG ds CO ys ∧ Same F F1 ∧ Wd g F1 O1 H1 ∧ Reps g F1 ds vs) hT sr w hx fun ds O1 vs F1 H1 hT1 s1 sr1 w1 rs hx1 => ?_)) fun us s1 ⟨vs, H1, I1, r, q⟩ => ⟨I1.kIn, ?_⟩) he hpl
  · obtain ⟨CO, ys, h1, h2⟩ := hT1
    exact ⟨ds, CO, ys, O1, F1, h2, h1, s1, w1, rs⟩
  · obtain ⟨ds, CO, ys, O1, F1, hP, hS, s1', w1, rs⟩ := q
    refine wpAny_call (codeAny_mono (Fn X.A X.stack s1 H1 us vs ds F1 O1 CO ys (hr.mono hkj) I1.env0 r rs w1 hS) fun r s' hq => ?_)
    cases r with
    | error e => exact hq.elim
    | ok fl =>
      cases fl with
      | ret u => exact ⟨CO, ys, O1, F1, H1, s1, hP, s1', w1, I1, hq⟩
      | next => exact hq.elim
      | brk => exact hq.elim
      | cont => exact hq.elim
end
def lcY (CO : Sto → Prop) (Gd : DG) (Te : DE) (p : Addr) (P : List D → Sto → Prop) : List Yd → List D → Sl → Sto → Prop
  | [], acc, _, O => CO ((p, .lst acc) :: O) ∧ P acc O
  | y :: r, acc, Δ, O => CO ((p, .lst acc) :: O) ∧ ∀ q, y.ok q ((p, .lst acc) :: O) → Gd (y.f q) Δ fun Δ' => Te Δ' ((p, .lst acc) :: y.st q O) (fun d O2 => ∃ O3, O2 = (p, .lst acc) :: O3 ∧ lcY CO Gd Te p P r (acc ++ [d]) Δ O3) (fun _ _ => False)
def dLcY (RY : DAY) (Gd : DG) (Te : DE) (vs : List Nat) : DE := fun Δ O P E => RY Δ O (fun CO ys O1 => ys.length ≤ 1000000 ∧ ∀ p, freshC O1 p → lcY CO Gd Te p (fun acc O2 => P (.lst acc) O2) ys [] (wipeD Δ vs) O1) E
section
variable {g : Gm} {X : Cx}
/-- a block that may change all from L on but its own frame -/
theorem blk_ex {s3 : Shared} {H3 : Hp} {scope : Scope} {ce : Env} {σ : L2.St} {H : Hp} {s : Shared} {ex ex' : List Addr} (I : Inv (X.blk s3 H3 scope ce ex) [] σ H s) (hsub : ∀ b ∈ ex, b ∈ ex') (h : ∀ b ∈ ex', b ≠ ce.locals ∧ (∀ x c, ce.cells.lookup x = some c → c ≠ b) ∧ b ∉ frs X.stack ∧ ∀ o, X.base.get? b ≠ some o) :
    Inv (X.blk s3 H3 scope ce ex') [] σ H s := by
  obtain ⟨ok, os, bare, base, loc, cell, free, freeC, pin, hok, len⟩ := I
  obtain ⟨mod, kind, glob, blt, above, inj, has, cab, hd, frames, stk, exf, bs, bsz, noex, exfs, funs, frf⟩ := ok
  exact ⟨⟨mod, kind, glob, blt, above, inj, has, cab, hd, frames, stk, fun b hb => ⟨(h b hb).1, (h b hb).2.1⟩, bs, bsz, fun b o e hb => (h b hb).2.2.2 o e, fun b hb => (h b hb).2.2.1, funs, frf⟩, os, bare,
    ⟨fun b o e n hf hx => base.keep b o e n hf fun q => hx (hsub b q), fun b o e n hf hx => base.slot b o e n hf fun q => hx (hsub b q), fun b o e n hx => base.free b o e n fun q => hx (hsub b q), fun b o e hx => base.there b o e fun q => hx (hsub b q), base.tups, base.frzs, base.tbls⟩, loc, cell, free, freeC, pin, hok, len⟩
/-- behind a wake of a generator, for a block that is younger than it -/
theorem inv_blk {Y : Cx} {σ : L2.St} {H H6 F : Hp} {O : Sto} {s s1 s2 : Shared} {F6 : Hp} {L : Nat} {oL : Obj} (I : Inv Y [] σ H s) (hpn : Y.pn = []) (hloc : s.heap.get? Y.env.locals = some oL)
    (hcell : ∀ x c, Y.env.cells.lookup x = some c → c < L) (hex : ∀ b, L ≤ b → b ∈ Y.ex ∨ Y.s_0.heap.objs.size ≤ b)
    (h : Eff g Y.prog Y.w Y.stack L s H F O s1 H6 F6) (hxp : s1.heap.get? Y.env.locals = some oL ∧ H6 Y.env.locals = none) (os : s2.os = s1.os) (bare : AllBare s2.gens) (kp : ∀ b o, s1.heap.get? b = some o → s2.heap.get? b = some o) : Inv Y [] σ H6 s2 := by
  let ch : List Addr := (List.range' L (s.heap.objs.size - L)).filter fun b => !decide (b = Y.env.locals)
  have chm : ∀ b, b ∈ ch ↔ b ∈ List.range' L (s.heap.objs.size - L) ∧ b ≠ Y.env.locals := fun b => by
    rw [List.mem_filter]
    simp
  have split : ∀ b, b ∉ ch → b = Y.env.locals ∨ b ∉ List.range' L (s.heap.objs.size - L) := fun b hb => by
    by_cases e : b = Y.env.locals
    · exact .inl e
    · exact .inr fun hr => hb ((chm b).mpr ⟨hr, e⟩)
  have loc : ∀ o, s.heap.get? Y.env.locals = some o → s2.heap.get? Y.env.locals = some o := fun o e => by
    rw [hloc] at e
    exact kp _ _ ((Option.some.inj e) ▸ hxp.1)
  have u : Un (frs Y.stack) ch H H6 s.heap s2.heap := by
    refine ⟨fun b o e n h1 h2 => ?_, fun b o e n h1 h2 => ?_, fun b o e n h2 => ?_, fun b o e h2 => ?_, h.un.tups, h.un.frzs, h.un.tbls⟩
    · rcases split b h2 with rfl | hr
      · exact loc o e
      · exact kp _ _ (h.un.keep b o e n h1 hr)
    · rcases split b h2 with rfl | hr
      · exact ⟨o.slots, loc o e⟩
      · obtain ⟨sl, q⟩ := h.un.slot b o e n h1 hr
        exact ⟨sl, kp _ _ q⟩
    · rcases split b h2 with rfl | hr
      · exact hxp.2
      · exact h.un.free b o e n hr
    · rcases split b h2 with rfl | hr
      · exact ⟨o, loc o e⟩
      · obtain ⟨o', q⟩ := h.un.there b o e hr
        exact ⟨o', kp _ _ q⟩
  refine I.call' (ch := ch) (os.trans h.os) u (h.hok.kept kp) bare fun b hb => ?_
  obtain ⟨h1, h2⟩ := (chm b).mp hb
  have hL := (List.mem_range'_1.mp h1).1
  refine ⟨hex b hL, h2, fun x c e1 e2 => ?_, fun p hp => ?_⟩
  · rw [e2] at e1
    exact absurd (hcell x b e1) (Nat.not_lt.mpr hL)
  · rw [hpn] at hp
    cases hp
end
end G

set_option Elab.async false
set_option linter.all false
set_option maxRecDepth 100000
set_option maxHeartbeats 4000000
namespace G
open PySem L2 PyProof.Rows
open PySem.Sem (wp)
theorem pushCells_no : ∀ {names : List (Str × NameKind)} {h : Heap}, (∀ y ∈ names, y.2 ≠ .cell) → pushCells h names = h
  | [], _, _ => rfl
  | (x, kind) :: r, h, hn => by
    have h1 : kind ≠ .cell := hn (x, kind) List.mem_cons_self
    unfold pushCells
    rw [if_neg (by simpa using h1)]
    exact pushCells_no fun y hy => hn y (List.mem_cons_of_mem _ hy)
theorem Wd.swap {g : Gm} {F : Hp} {O : Sto} {H : Hp} {a b : Addr × Cell} (w : Wd g F (a :: b :: O) H) : Wd g F (b :: a :: O) H := by
  refine ⟨w.same, ?_, fun q hq => w.cel q ?_⟩
  · have := w.nd
    simp only [List.map_cons, List.nodup_cons, List.mem_cons, not_or] at this ⊢
    exact ⟨⟨fun e => this.1.1 e.symm, this.2.1⟩, this.1.2, this.2.2⟩
  · simp only [List.mem_cons] at hq ⊢
    rcases hq with h | h | h
    · exact .inr (.inl h)
    · exact .inl h
    · exact .inr (.inr h)
section
variable {g : Gm} {X : Cx} {W : WX} {k j : Nat}
theorem lcY_core {pins : List (Addr × Obj)} {s : Shared} {σ : L2.St} {H F : Hp} {elt tg iter : Expr} {scope : Scope} {own : List (Str × Nat)} {pos pos' : Pos} {t : TG} {Gd : DG} {js : List Nat} {Te : DE} {RY : DAY} {use : Option (Value → Sem Unit)} {Qf : Value → Shared → Prop} {Δ : Sl} {O : Sto} {E : KX} {PL : Addr → List D → Sto → Prop}
    (hc : X.calm = true) (hN : X.N.Nodup) (I : Inv X pins σ H s) (hi : PGnC g X W k iter RY) (hr : Room j X.A) (hkj : k + 3 ≤ j) (ok : BlkOk X.N X.env.scope scope own)
    (hg : ∀ (s : Shared) (H : Hp) (C : Addr) (cl : List (Str × Addr)) (fp : List Addr), PG (X.blk s H scope (compEnvC scope cl C X.env) fp) tg t) (lk : LkG g t Gd js) (hjs : ∀ j ∈ js, j ∈ own.map (·.2))
    (he : ∀ (s : Shared) (H : Hp) (C : Addr) (cl : List (Str × Addr)) (fp : List Addr), PE (X.blk s H scope (compEnvC scope cl C X.env) fp) elt (le g W0 Te)) (hs : ∀ x, foldedSetIterable iter X.env x = pure x) (hnc : ∀ y ∈ scope.names, y.2 ≠ .cell)
    (hT : RY Δ O (fun CO ys O1 => ys.length ≤ 1000000 ∧ ∀ p, freshC O1 p → lcY CO Gd Te p (PL p) ys [] (wipeD Δ (own.map (·.2))) O1) E) (sr : SRel g F σ Δ) (w : Wd g F O H) (hx : XOk g F W σ E)
    (hRR : ∀ D C s' m H' F' acc O', Inv X pins σ H' s' → PL D acc O' → Same F F' → Wd g F' ((D, .lst acc) :: O') H' → s'.heap.Ns C m → FpOk X pins H' C → compPost (model X.prog X.w) X.A X.xe use Qf (.ref D) C (.ok .next) s') :
    wpAny (model X.prog X.w) X.A (comprehension (.ListComp elt [⟨tg, iter, [], 0⟩] scope pos) scope X.env pos' (newList []) false (eval iter X.env) use) Qf X.xe s := by
  have hfree : ∀ y ∈ scope.names, y.2 = .free → ∃ c, X.env.cells.lookup y.1 = some c := fun y hy e => by
    rcases ok.free y hy e with k | k
    · exact I.ok.has _ (.inl k)
    · exact I.ok.has _ (.inr k)
  refine wpAny_comprehension_free (use := use) rfl hs (closure_ok hfree) ok.kind (fun y hy e => by rw [ok.uniq y hy, e])
    (wpAny_mono (hi.run pins s σ H Δ O _ E F I hT sr w hx) (fun u s1 h1 => ?_) fun _ _ q => q)
  obtain ⟨CO, ys, O1, F1, H1, sc, ⟨hlen, hP⟩, sm1, wd1, Ic, a, gi, gs, go, z, rfl, os1, bare1, kp1, hgs, hig, hz, hza, slp0⟩ := h1
  have I1 : Inv X pins σ H1 s1 := Ic.call' (ch := []) os1 (Un.kept kp1) (Ic.hok.kept kp1) bare1 fun b hb => (by cases hb)
  have hA : Room (k + 1) X.A.in1 := ⟨hr.hd, by have := hr.dp; show X.A.depth + 3 * (k + 1) + 5 < _; omega, by have := hr.un; show X.A.units + 1 + 16 * (k + 1) + 200 < _; omega⟩
  have hAf : X.A.in1.frames = some X.stack := I.ok.frames
  have slp0 := slp0 _ hA hAf
  clear hA
  generalize hL : sc.heap.objs.size = L at *
  have yg : ∀ b, L ≤ b → (b ∈ X.ex ∨ X.s_0.heap.objs.size ≤ b) ∧ b ≠ X.env.locals ∧ (∀ x c, X.env.cells.lookup x = some c → c ≠ b) ∧ ∀ p ∈ X.pn ++ pins, p.1 ≠ b := fun b hb => inv_young Ic (by rw [hL]; exact hb)
  have szc : X.base.objs.size ≤ L := by rw [← hL]; exact Ic.env0.bsz
  have flt : ∀ c ∈ frs X.stack, c < L := fun c hcm => by
    obtain ⟨_, o, ho, _⟩ := Ic.env0.funs.mem hcm
    rw [← hL]
    exact Heap.lt_size ho
  have hLs : L ≤ s1.heap.objs.size := by
    rcases Nat.lt_or_ge a s1.heap.objs.size with q | q
    · exact Nat.le_of_lt (Nat.lt_of_le_of_lt (hz a go hza).2.2 q)
    · exact absurd (Heap.lt_size (hz a go hza).1) (Nat.not_lt.mpr q)
  refine wpAny_pyIter_gen (g := gi) (hig _ (hz a go hza).1) ?_
  refine wpAny_newObj_type (newEnv_comp ?_) (by show 0 ≤ sizeLine; decide)
  generalize hD : s1.heap.objs.size = Dl
  have hDn : H1 Dl = none := I1.hok.fresh (Nat.le_of_eq hD)
  have hP := hP Dl (wd1.fresh hDn)
  generalize hs3 : ({ s1 with heap := s1.heap.push { cls := .type "list", data := .seq ([] : List Value).toArray } } : Shared) = s3
  have I3 : Inv X pins σ (upd H1 Dl (.lst [])) s3 := by
    rw [← hs3]
    refine I1.laid (t' := s1.toks) (fun b o e => Heap.get?_push_of_some _ e) (Nat.le_of_eq hD) ⟨Nat.zero_le _, [], 0, .nil, ?_⟩
    rw [← hD]
    exact Heap.get?_push_size _ rfl
  have w3 : Wd g F1 ((Dl, .lst []) :: O1) (upd H1 Dl (.lst [])) := wd1.own (c := .lst []) (o := .lst []) hDn (Reps.nil (g := g) (F := F1))
  have h3 : s3.heap = s1.heap.push { cls := .type "list", data := .seq ([] : List Value).toArray } := by rw [← hs3]
  have g3 : s3.gens = s1.gens := by rw [← hs3]
  have kp3 : ∀ b o, s1.heap.get? b = some o → s3.heap.get? b = some o := fun b o e => by rw [h3]; exact Heap.get?_push_of_some _ e
  have z3 : ∀ b o, z b = some o → s3.heap.get? b = some o ∧ (upd H1 Dl (.lst [])) b = none ∧ L ≤ b ∧ b < s3.heap.objs.size := fun b o e => by
    obtain ⟨q1, q2, q3⟩ := hz b o e
    have q4 := Heap.lt_size q1
    refine ⟨kp3 _ _ q1, ?_, q3, Heap.lt_size (kp3 _ _ q1)⟩
    rw [upd_ne (by rw [← hD]; exact Nat.ne_of_lt q4)]
    exact q2
  have hL3 : L ≤ s3.heap.objs.size := by rw [h3, Heap.size_push]; exact Nat.le_succ_of_le hLs
  clear hDn
  generalize hH3 : upd H1 Dl (.lst []) = H3 at I3 w3 z3
  -- the block: all from L on may change
  have dec : ∀ b : Addr, Decidable (H3 b = none) := fun b => Classical.propDecidable _
  let ex0 : List Addr := (List.range' L (s3.heap.objs.size - L)).filter fun b => @decide _ (dec b)
  let ex1 : List Addr := List.range' L (s3.heap.objs.size - L)
  have m1 : ∀ b, b ∈ ex1 ↔ L ≤ b ∧ b < s3.heap.objs.size := fun b => by
    show b ∈ List.range' L (s3.heap.objs.size - L) ↔ _
    rw [List.mem_range'_1]
    have : L + (s3.heap.objs.size - L) = s3.heap.objs.size := Nat.add_sub_cancel' hL3
    rw [this]
  have m0 : ∀ b, b ∈ ex0 ↔ b ∈ ex1 ∧ H3 b = none := fun b => by
    show b ∈ (List.range' L (s3.heap.objs.size - L)).filter _ ↔ _
    rw [List.mem_filter, @decide_eq_true_iff _ (dec b)]
  have f3 : ∀ b ∈ ex0, FpOk X pins H3 b ∧ b < s3.heap.objs.size := fun b hb => by
    obtain ⟨q1, q2⟩ := (m0 b).mp hb
    obtain ⟨q3, q4⟩ := (m1 b).mp q1
    obtain ⟨y1, y2, y3, y4⟩ := yg b q3
    exact ⟨⟨q2, y2, Ic.nofs (by rw [hL]; exact q3), y1, y3, y4⟩, q4⟩
  have I40 := block_start I3 ok hN f3
  have pg := hg s3 H3 s3.heap.objs.size (cellsFrom (s3.heap.objs.size + 1) scope.names (cloFrom X.env.cells scope.names [])) ex1
  have pe := he s3 H3 s3.heap.objs.size (cellsFrom (s3.heap.objs.size + 1) scope.names (cloFrom X.env.cells scope.names [])) ex1
  show codeAny _ _ (.compStart (.ListComp elt [⟨tg, iter, [], 0⟩] scope pos) 0 (.ref a) (.ref Dl) (compEnvC scope (cellsFrom (s3.heap.objs.size + 1) scope.names (cloFrom X.env.cells scope.names [])) s3.heap.objs.size X.env)) (compPost (model X.prog X.w) X.A X.xe use Qf (.ref Dl) s3.heap.objs.size) { s3 with heap := pushCells (s3.heap.push { cls := .type "dict", data := .dict #[] }) scope.names }
  generalize hce : compEnvC scope (cellsFrom (s3.heap.objs.size + 1) scope.names (cloFrom X.env.cells scope.names [])) s3.heap.objs.size X.env = ce at I40 pg pe ⊢
  have cL : ce.locals = s3.heap.objs.size := by subst hce; rfl
  generalize hs4 : ({ s3 with heap := pushCells (s3.heap.push { cls := .type "dict", data := .dict #[] }) scope.names } : Shared) = s4 at I40 ⊢
  have g4 : s4.gens = s1.gens := by rw [← hs4]; exact g3
  have kp4 : ∀ b o, s3.heap.get? b = some o → s4.heap.get? b = some o := fun b o e => by rw [← hs4]; exact pushCells_keeps _ _ _ _ (Heap.get?_push_of_some _ e)
  have I4 : Inv (X.blk s3 H3 scope ce ex1) [] (wipe σ (own.map (·.2))) H3 s4 := by
    refine blk_ex I40 (fun b hb => ((m0 b).mp hb).1) fun b hb => ?_
    have hbL := ((m1 b).mp hb).1
    refine ⟨fun e => ?_, fun x c e1 e2 => ?_, fun hf => absurd (flt b hf) (Nat.not_lt.mpr hbL), fun o e => absurd (Nat.lt_of_lt_of_le (Heap.lt_size e) szc) (Nat.not_lt.mpr hbL)⟩
    · have := ((m1 b).mp hb).2
      rw [e, cL] at this
      exact Nat.lt_irrefl _ this
    · by_cases hn : H3 b = none
      · exact (I40.ok.exf b ((m0 b).mpr ⟨hb, hn⟩)).2 x c e1 e2
      · have := I40.freeC x c e1
        rw [e2] at this
        exact hn this
  clear I40 f3
  have hLc : L ≤ ce.locals := by rw [cL]; exact hL3
  have hcl : ∀ x c, ce.cells.lookup x = some c → c < L := fun x c e => by
    rcases Nat.lt_or_ge c L with q | q
    · exact q
    · exfalso
      obtain ⟨v, hv⟩ := I4.cell x c e
      have h4 : s4.heap.objs.size = s3.heap.objs.size + 1 := by
        rw [← hs4]
        show (pushCells _ _).objs.size = _
        rw [pushCells_no hnc, Heap.size_push]
      have hlt : c < s3.heap.objs.size + 1 := by rw [← h4]; exact hv.lt
      have hne : c ≠ s3.heap.objs.size := by rw [← cL]; exact I4.cne x c e
      exact (I4.ok.exf c ((m1 c).mpr ⟨q, Nat.lt_of_le_of_ne (Nat.lt_succ_iff.mp hlt) hne⟩)).2 x c e rfl
  have hexb : ∀ b, L ≤ b → b ∈ (X.blk s3 H3 scope ce ex1).ex ∨ (X.blk s3 H3 scope ce ex1).s_0.heap.objs.size ≤ b := fun b hb => by
    rcases Nat.lt_or_ge b s3.heap.objs.size with q | q
    · exact .inl ((m1 b).mpr ⟨hb, q⟩)
    · exact .inr q
  have loop : codeAny (model X.prog X.w) X.A (.compLoop (.ListComp elt [⟨tg, iter, [], 0⟩] scope pos) 0 (.ref a) (.ref Dl) ce) (compPost (model X.prog X.w) X.A X.xe use Qf (.ref Dl) s3.heap.objs.size) s4 := by
    refine compLoop_any (fun n s' => ∃ (r : List Yd) (acc : List D) (gs : GenState) (z : Addr → Option Obj) (Ob : Sto) (F2 H2 : Hp), n = r.length ∧ Inv (X.blk s3 H3 scope ce ex1) [] (wipe σ (own.map (·.2))) H2 s' ∧ s'.gens[gi]? = some gs ∧ SlpC g X.prog X.w X.K X.mg X.base X.A.in1 X.stack L [(a, go)] CO r gs z F2 ∧ Same F1 F2 ∧ Wd g F2 ((Dl, .lst acc) :: Ob) H2 ∧
      lcY CO Gd Te Dl (PL Dl) r acc (wipeD Δ (own.map (·.2))) Ob ∧ acc.length + r.length ≤ 1000000 ∧ (∀ b o, z b = some o → s'.heap.get? b = some o ∧ H2 b = none ∧ L ≤ b ∧ b ≠ ce.locals) ∧ z a = some go) ?_ ys.length ⟨ys, [], gs, z, O1, F1, H3, rfl, I4, by rw [g4]; exact hgs, slp0, Same.refl _, w3, hP, by simpa using hlen, fun b o e => ?_, hza⟩
    rotate_left 1
    · obtain ⟨q1, q2, q3, q4⟩ := z3 b o e
      exact ⟨kp4 _ _ q1, q2, q3, by rw [cL]; exact Nat.ne_of_lt q4⟩
    rintro n s5 ⟨r, acc, gs5, z5, Ob, F5, H5, rfl, I5, hgs5, slp5, sm5, wd5, hL5, hacc, hz5, hza5⟩
    have hgl : gi + 1 ≤ s5.gens.size := (Array.getElem?_eq_some_iff.mp hgs5).1
    have e5 : Env0 X.prog X.w X.K X.mg X.base X.A X.stack s5 H5 := I5.env0
    obtain ⟨m5, ⟨oL, eL1, eL2, hoL, hL8⟩, _⟩ := id I5.loc
    have hoL : s5.heap.get? ce.locals = some oL := hoL
    have oLd : ∀ v, oL.data ≠ .cell v := fun v e => by
      have q := hL8.1
      rw [e] at q
      cases q
    have hCO : CO ((Dl, .lst acc) :: Ob) := by
      cases r with
      | nil => exact hL5.1
      | cons y r => exact hL5.1
    have wk : WkX g X.prog X.w X.K X.mg X.base X.A.in1 X.stack z5 L F5 (s5.setGen gi .running) H5 F5 ((Dl, .lst acc) :: Ob) [(ce.locals, oL)] := by
      refine ⟨⟨⟨hAf, e5.mod, e5.bs, e5.bsz, e5.funs, e5.frf, e5.hok, allBare_setGen e5.bare rfl⟩, Same.refl _, wd5, fun b o e => ⟨(hz5 b o e).1, (hz5 b o e).2.1⟩⟩, fun p hp => ?_⟩
      rw [List.mem_singleton.mp hp]
      refine ⟨hoL, I5.free, ?_, hLc, oLd⟩
      cases q : z5 ce.locals with
      | none => rfl
      | some o => exact absurd rfl (hz5 _ o q).2.2.2
    have hgo := slp5 (s5.setGen gi .running) H5 F5 _ _ hCO wk
    have Ir : Inv (X.blk s3 H3 scope ce ex1) [] (wipe σ (own.map (·.2))) H5 (s5.setGen gi .running) := inv_gens I5 (allBare_setGen I5.bare rfl)
    refine GenW.wpAny_gsz hgl (next_rg (I.ok.hd hc) I5.nolimit (by have := hr.dp; show X.A.depth < _; omega) (hig _ (hz5 a go hza5).1) hgs5 hgo (fun e z1 hΦ => ?_))
    cases r with
    | nil =>
      obtain ⟨rfl, H6, F6, ef, hxp⟩ := hΦ
      refine .inr ⟨rfl, fun h' hk _ => ?_⟩
      have I6 : Inv (X.blk s3 H3 scope ce ex1) [] (wipe σ (own.map (·.2))) H6 { z1.setGen gi .finished with heap := h' } := inv_blk (s1 := z1) Ir rfl hoL hcl hexb ef (hxp (ce.locals, oL) (List.mem_singleton.mpr rfl)) rfl (allBare_setGen ef.bare rfl) hk
      have I7 : Inv X pins σ H6 { z1.setGen gi .finished with heap := h' } := I3.call' (ch := ex1) I6.os I6.base I6.hok I6.bare fun b hb => yg b ((m1 b).mp hb).1
      have nC : H6 s3.heap.objs.size = none := by
        have z : H6 ce.locals = none := I6.free
        rw [cL] at z
        exact z
      obtain ⟨m, hn, _⟩ := I6.loc
      have hn : Heap.Ns h' ce.locals m := hn
      rw [cL] at hn
      exact hRR Dl s3.heap.objs.size _ m H6 F6 acc Ob I7 hL5.2 (sm1.trans (sm5.trans ef.sm)) ef.wd hn (I3.fpOk (Nat.le_refl _) nC)
    | cons y r =>
      obtain ⟨v, u, z6, H6, F6, q, hv, hq, hsl, ru, rd, yok, ef, hxp, hz6, hp6, slp6⟩ := hΦ
      refine .inl ⟨v, hv, hq, fun hsz => ?_⟩
      have hza6 : z6 a = some go := hp6 (a, go) (List.mem_singleton.mpr rfl)
      have hgz : gi < z1.gens.size := by
        have q : (z1.setGen gi e.genState).gens.size = z1.gens.size := GenW.setGen_size _ _ _
        rw [q] at hsz
        exact hsz
      have I6 : Inv (X.blk s3 H3 scope ce ex1) [] (wipe σ (own.map (·.2))) H6 (z1.setGen gi e.genState) := inv_blk (s1 := z1) Ir rfl hoL hcl hexb ef (let h := hxp (ce.locals, oL) (List.mem_singleton.mpr rfl); ⟨h.1, h.2.1⟩) rfl (allBare_setGen ef.bare (End.bare_of_quiet hq)) (fun _ _ q => q)
      have g6 : (z1.setGen gi e.genState).gens[gi]? = some e.genState := setGen_at hgz
      have nl6 : ∀ b o, z6 b = some o → b ≠ ce.locals := fun b o e1 e2 => by
        have q9 := (hxp (ce.locals, oL) (List.mem_singleton.mpr rfl)).2.2
        rw [e2] at e1
        rw [e1] at q9
        cases q9
      let l6 : List Addr := (List.range' L z1.heap.objs.size).filter fun b => (z6 b).isSome
      have hl6 : ∀ b o, z6 b = some o → b ∈ l6 := fun b o e1 => by
        obtain ⟨q1, _, q3⟩ := hz6 b o e1
        have q1 : (b : Nat) < z1.heap.objs.size := Heap.lt_size q1
        exact List.mem_filter.mpr ⟨List.mem_range'_1.mpr ⟨q3, Nat.lt_of_lt_of_le q1 (Nat.le_add_left _ _)⟩, by rw [e1]; rfl⟩
      have hf6 : ∀ b ∈ l6, (b ∈ (X.blk s3 H3 scope ce ex1).ex ∨ (X.blk s3 H3 scope ce ex1).s_0.heap.objs.size ≤ b) ∧ b ≠ (X.blk s3 H3 scope ce ex1).env.locals ∧ (∀ x c, (X.blk s3 H3 scope ce ex1).env.cells.lookup x = some c → c ≠ b) ∧ ∀ p ∈ (X.blk s3 H3 scope ce ex1).pn ++ [], p.1 ≠ b := fun b hb => by
        obtain ⟨h1, h2⟩ := List.mem_filter.mp hb
        obtain ⟨o, ho⟩ := Option.isSome_iff_exists.mp h2
        have hLb := (List.mem_range'_1.mp h1).1
        refine ⟨hexb b hLb, nl6 b o ho, fun x c e1 e2 => ?_, fun p hp => by cases hp⟩
        rw [e2] at e1
        exact absurd (hcl x b e1) (Nat.not_lt.mpr hLb)
      have I6e : Inv (X.blk s3 H3 scope ce ex1) [] (wipe σ (own.map (·.2))) (extO z6 H6) (z1.setGen gi e.genState) := inv_ext I6 hl6 (fun b o q => ⟨(hz6 b o q).1, (hz6 b o q).2.1⟩) hf6
      have hF6 : ∀ b o, z6 b = some o → F6 b = none := fun b o q => ef.wd.same.free (hz6 b o q).2.1
      have wsw : Wd g F6 ((Dl, .lst acc) :: y.st q Ob) H6 := by
        have w0 := ef.wd
        unfold Yd.st at w0 ⊢
        cases q9 : y.c with
        | none => rw [q9] at w0; exact w0
        | some c => rw [q9] at w0; exact w0.swap
      have wd6 := wd_ext wsw (fun b o q => (hz6 b o q).2.1)
      have sm6 : Same F6 (extO z6 F6) := extO_same hF6
      obtain ⟨og, nm, qn, ho1, ho2, ho3, _⟩ := hig _ (hz6 a go hza6).1
      refine go_of (s := z1.setGen gi e.genState) (n := "generator") ho1 ho2 ho3 (by decide) ?_
      have hGd := hL5.2 q yok
      have hst : t u (wipe σ (own.map (·.2))) (extO z6 H6) (fun σ7 H7 => wipe σ7 (own.map (·.2)) = wipe σ (own.map (·.2)) ∧ le g W0 Te σ7 H7 fun yv H8 => ∃ xs F8 d O8, H8 Dl = some (.lst xs) ∧ xs.length < sizeLine ∧ Same (extO z6 F6) F8 ∧ Wd g F8 ((Dl, .lst (acc ++ [d])) :: O8) (upd H8 Dl (.lst (xs ++ [yv]))) ∧ lcY CO Gd Te Dl (PL Dl) r (acc ++ [d]) (wipeD Δ (own.map (·.2))) O8) := by
        refine lk (y.f q) u _ (wipeD Δ (own.map (·.2))) (extO z6 F6) _ (extO z6 H6) _ _ hGd (rd.mono sm6) ((sr.wipe _).mono (sm1.trans (sm5.trans (ef.sm.trans sm6)))) wd6 fun Δ' σ' hB sr' ho hl => ⟨wipe_wipe hl fun j hj => ho j fun q => hj (hjs j q), ?_⟩
        refine le_bind hB sr' wd6 xok0 fun d O7 vy F7 H7 hT7 s7 sr7 w7 ry hx7 => ?_
        obtain ⟨O8, e8, hL8⟩ := hT7
        subst e8
        obtain ⟨_, ob, h1, h2⟩ := w7.cel (Dl, .lst acc) List.mem_cons_self
        cases ob with
        | lst vs' =>
          have h2 : Reps g F7 acc vs' := h2
          refine ⟨vs', F7, d, O8, h1, ?_, s7, ?_, hL8⟩
          · rw [← h2.length, sizeLine_eq]
            simp only [List.length_cons] at hacc
            omega
          · have z := w7.set (a := Dl) (c := .lst acc) (c' := .lst (acc ++ [d])) (o := .lst (vs' ++ [vy])) (by simp [getC]) (h2.append (Reps.one ry))
            simpa [setC] using z
        | _ => exact h2.elim
      refine wpAny_mono (wpAny_pz (pg.run [] _ _ _ u v _ (inv_gens I6e (bare_pz I6e.bare)) ru hst)) (fun _ s7 hq7 => ?_) fun _ _ hq7 => ?_
      rotate_left 1
      · obtain ⟨_, _, _, _, q⟩ := hq7; exact q.elim
      obtain ⟨s7, G7, rfl, rl7, σ7, H7, I7, hw7, q7⟩ := hq7
      have g7 : G7[gi]? = some e.genState := (rl7.at gi _ g6 hsl).2
      have b7 := rl7.bare I7.bare
      refine wpAny_tests_nil ?_
      rw [if_pos rfl]
      refine wpAny_mono (wpAny_pz (pe.run [] _ σ7 H7 _ (inv_gens (s := s7) I7 (bare_pz b7) : Inv (X.blk s3 H3 scope ce ex1) [] σ7 H7 { s7 with gens := G7.map pz }) q7)) (fun v8 s8 hq8 => ?_) fun _ _ hq8 => ?_
      rotate_left 1
      · obtain ⟨_, _, _, _, q⟩ := hq8; exact q.elim
      obtain ⟨s8, G8, rfl, rl8, u8, H8, I8, r8, xs, F8, d, O8, hD8, hz8, sm8, wd8, hL8⟩ := hq8
      have g8 : G8[gi]? = some e.genState := (rl8.at gi _ g7 hsl).2
      have b8 := rl8.bare I8.bare
      refine wpAny_mono (wpAny_pz (app_ok (X := X.blk s3 H3 scope ce ex1) (E := fun _ _ => False) (Q := fun _ s' => Inv (X.blk s3 H3 scope ce ex1) [] σ7 (upd H8 Dl (.lst (xs ++ [u8]))) s') (inv_gens (s := s8) I8 (bare_pz b8) : Inv (X.blk s3 H3 scope ce ex1) [] σ7 H8 { s8 with gens := G8.map pz }) hD8 hz8 r8 fun s' I' => I')) (fun _ s9 hq9 => ?_) fun _ _ hq9 => ?_
      rotate_left 1
      · obtain ⟨_, _, _, _, q⟩ := hq9; exact q.elim
      obtain ⟨s9, G9, rfl, rl9, I9⟩ := hq9
      have g9 : G9[gi]? = some e.genState := (rl9.at gi _ g8 hsl).2
      have ex8 : ∀ b o, z6 b = some o → F8 b = some (.ext fun h => h.get? b = some o) := fun b o q => sm8 b _ (extO_at q)
      have zx8 : Zx z6 F8 := fun b o q => ⟨_, ex8 b o q⟩
      have zxH : Zx z6 (upd H8 Dl (.lst (xs ++ [u8]))) := fun b o q => ⟨_, wd8.same _ _ (ex8 b o q)⟩
      have s68 : Same F6 (drpO z6 F8) := same_drp hF6 sm8
      have hl : (wipe σ (own.map (·.2))).length = σ7.length := by rw [← hw7, wipe_length]
      refine ⟨r.length, Nat.lt_succ_self _, r, acc ++ [d], e.genState, z6, O8, drpO z6 F8, drpO z6 (upd H8 Dl (.lst (xs ++ [u8]))), rfl, (inv_drpO (inv_gens (s := s9) I9 (rl9.bare I9.bare)) zxH).weak hl (fun j v e => ?_), g9, fun s' H' F' O' xp' h1 h2 => slp6 s' H' F' O' xp' h1 ⟨⟨h2.wk.e0, s68.trans h2.wk.sm, h2.wk.wd, h2.wk.zz⟩, h2.xs⟩, sm5.trans (ef.sm.trans s68), wd_drp zx8 wd8, hL8, ?_, fun b o q => ⟨(I9.hok b _ (wd8.same _ _ (ex8 b o q))).1, drpO_at q, (hz6 b o q).2.2, nl6 b o q⟩, hza6⟩
      · rw [← hw7] at e
        exact (wipe_some e).1
      · rw [List.length_append, List.length_singleton]
        simp only [List.length_cons] at hacc
        omega
  obtain ⟨ig1, ig2⟩ : True ∧ s4.heap.IsGen a gi := ⟨trivial, hig _ (kp4 _ _ (z3 a go hza).1)⟩
  exact codeAny_compStart_list loop (wpAny_pyIter_gen (g := gi) ig2 loop)
end
end G

set_option Elab.async false
set_option linter.all false
set_option maxRecDepth 100000
set_option maxHeartbeats 4000000
namespace G
open PySem L2 PyProof.Rows
open PySem.Sem (wp)
section
variable {g : Gm} {X : Cx} {W : WX} {k j : Nat}
/-- y = [..] on one line -/
theorem qs_asgLcY {i : Nat} {y : Str} {py spos : Pos} {elt tg iter : Expr} {scope : Scope} {own : List (Str × Nat)} {pos : Pos} {t : TG} {Gd : DG} {js : List Nat} {Te : DE} {RY : DAY}
    (hy : X.N[i]? = some y) (hN : X.N.Nodup) (hyl : X.env.scope.names.lookup y = some .local) (hsw : swapsWith (.ListComp elt [⟨tg, iter, [], 0⟩] scope pos) (some (.Name y py)) spos.line X.env = pure true)
    (hi : PGnC g X W k iter RY) (hr : Room j X.A) (ok : BlkOk X.N X.env.scope scope own)
    (hg : ∀ (s : Shared) (H : Hp) (C : Addr) (cl : List (Str × Addr)) (fp : List Addr), PG (X.blk s H scope (compEnvC scope cl C X.env) fp) tg t) (lk : LkG g t Gd js)
    (he : ∀ (s : Shared) (H : Hp) (C : Addr) (cl : List (Str × Addr)) (fp : List Addr), PE (X.blk s H scope (compEnvC scope cl C X.env) fp) elt (le g W0 Te)) (hkj : k + 3 ≤ j := by first | decide | omega) (hc : X.calm = true := by rfl) (hjs : ∀ j ∈ js, j ∈ own.map (·.2) := by decide)
    (hs : ∀ x, foldedSetIterable iter X.env x = pure x := by intro _; rfl) (hnc : ∀ y ∈ scope.names, y.2 ≠ .cell := by decide +kernel) :
    PS X (.Assign [.Name y py] (.ListComp elt [⟨tg, iter, [], 0⟩] scope pos) spos) (ls g W (dAsg i (dLcY RY Gd Te (own.map (·.2))))) := by
  refine ⟨fun pins s σ H En I h => ?_⟩
  obtain ⟨D0, Δ, O, F, hT, sr, w, ho⟩ := h
  rw [exec_Assign_Name_used _ _ _ _ hsw]
  refine wpAny_bind (wpAny_standAt (wpAny_bind ?_))
  show wpAny _ X.A (do let _ ← comprehension (.ListComp elt [⟨tg, iter, [], 0⟩] scope pos) scope X.env (firstIterPos [⟨tg, iter, [], 0⟩] pos) (newList []) false (eval iter X.env) (some (assign (.Name y py) X.env))) _ _ s
  refine wpAny_bind (thn (lcY_core (Qf := fun _ s' => SP X pins En .next s') (PL := fun _ acc O2 => D0.nx (Δ.set i (some (.lst acc))) O2) hc hN I hi hr hkj ok hg lk hjs he hs hnc hT sr w (ho.toX sr) fun Dl C s' m H' F' acc O' I' hp sm wd hn f => ?_) fun _ s' hq => wpAny_pure (wpAny_pure hq))
  obtain ⟨o, ho', hc', s3, w3⟩ := wd.freeze (a := Dl) (c := .lst acc) (by simp [getC])
  have q : En.nx (σ.set i (some (.ref Dl))) H' := ho.nx _ _ _ _ _ hp (sm.trans s3) ((sr.mono (sm.trans s3)).set (frz_rep rfl hc' (wd.cel _ List.mem_cons_self).1) i) (by simpa [delC] using w3)
  show wpAny _ _ (assign (.Name y py) X.env (.ref Dl)) _ _ _
  refine wpAny_assign_Name (store_ok2 (v := V.ref Dl) I' hN hy (.inl hyl) rfl (fun s2 I2 ⟨a, sb, ha⟩ => ?_) (.inr hyl))
  obtain ⟨f0, f1, f2, f3, f4, f5⟩ := f
  have haC : C ≠ a := by
    rcases ha with z | z
    · rw [z]; exact f1
    · exact fun e => f4 y a z e.symm
  refine ⟨m, hn.sameBut sb haC, fun h3 sb3 => ?_⟩
  exact ⟨_, H', I2.turned (t' := s2.toks) (fun b o hb e => (sb3.2 b hb).trans e) f0 f1 f3 f4 f5, q⟩
end
/-! ## those that hand out things without cells of their own -/
theorem Rg.mono {M : Model} {A : Around} {gs : GenState} {s : Shared} {Φ Φ' : End → Shared → Prop} (h : Rg M A gs s Φ) (hΦ : ∀ e z, Φ e z → Φ' e z) : Rg M A gs s Φ' := by
  have key : ∀ {c : Code} {t : Sem PySem.Fin} {fs : List Frame}, Rt M A Φ c t fs s → Rt M A Φ' c t fs s := fun h Γ p h1 h2 => by
    obtain ⟨e, z, r, q⟩ := h Γ p h1 h2
    exact ⟨e, z, r, hΦ e z q⟩
  cases gs with
  | fresh c => exact key h
  | suspended k a c d fs e => exact key h
  | running => exact h
  | finished => exact h
section
variable {g : Gm} {P : Program} {w : World} {K : PySem.W.Frag} {mg : Str → Option Value} {base : Heap} {A : Around} {outer : List Env} {L : Nat} {pins : List (Addr × Obj)} {CO : Sto → Prop}
theorem phi_plain (hCO : ∀ O, CO O) : ∀ (ds : List D) (s : Shared) (H F : Hp) (O : Sto) (e : End) (z : Shared), PhiC g P w K mg base A outer L pins CO (ds.map ydP) s H F O [] e z → PhiS g P w K mg base A outer L pins ds s H F O e z
  | [], s, H, F, O, e, z, h => by
    obtain ⟨rfl, H1, F1, ef, _⟩ := h
    exact ⟨rfl, H1, F1, ef⟩
  | d :: ds, s, H, F, O, e, z1, h => by
    obtain ⟨v, u, z, H1, F1, q, h1, h2, h3, h4, h5, h6, h7, h8, h9, h10, h11⟩ := h
    exact ⟨v, u, z, H1, F1, h1, h2, h3, h4, h5, h7, h9, h10, fun s' H' F' O' wk => (h11 s' H' F' O' [] (hCO O') ⟨wk, fun p hp => by cases hp⟩).mono fun e z q => phi_plain hCO ds s' H' F' O' e z q⟩
theorem slp_plain {ds : List D} {gs : GenState} {z : Addr → Option Obj} {F : Hp} (hCO : ∀ O, CO O) (h : SlpC g P w K mg base A outer L pins CO (ds.map ydP) gs z F) : Slp g P w K mg base A outer L pins ds gs z F :=
  fun s H F' O wk => (h s H F' O [] (hCO O) ⟨wk, fun p hp => by cases hp⟩).mono fun e z q => phi_plain hCO ds s H F' O e z q
end
def dPl (RY : DAY) : DA := fun Δ O P E => RY Δ O (fun CO ys O1 => ∃ ds, ys = ds.map ydP ∧ (∀ O, CO O) ∧ P ds O1) E
section
variable {g : Gm} {X : Cx} {W : WX} {k j : Nat} {e : Expr} {RY : DAY}
theorem q_plain (h : PGnC g X W k e RY) : PGn g X W k e (dPl RY) := ⟨fun pins s σ H Δ O P E F I hT sr w hx => wpAny_mono (h.run pins s σ H Δ O _ E F I hT sr w hx) (fun u s' hq => by
  obtain ⟨CO, ys, O1, F1, H1, sc, ⟨ds, rfl, hCO, hP⟩, sm1, wd1, Ic, a, gi, gs, go, z, rfl, os1, bare1, kp1, hgs, hig, hz, hza, slp0⟩ := hq
  exact ⟨ds, O1, F1, H1, sc, hP, sm1, wd1, Ic, a, gi, gs, go, z, rfl, os1, bare1, kp1, hgs, hig, hz, hza, fun A' hr hf => slp_plain hCO (slp0 A' hr hf)⟩) fun _ _ q => q⟩
end
section
variable {Δ : Sl} {O : Sto} {E : KX} {P : KD} {R : DA} {RY : DAY} {Gd : DG} {Te To : DE} {SG : DSG} {cs : List Cl} {Q : (Sto → Prop) → List Yd → Sto → Prop} {Q1 : List D → Sto → Prop} {vs : List Nat}
theorem e_genC : dGenC SG R Δ O Q E = R Δ O (fun ds O1 => ∃ CO ys, SG ds CO ys ∧ Q CO ys O1) E := propext Iff.rfl
theorem e_genM : dGenM cs SG To Δ O Q E = To Δ O (fun o O1 => ∃ c, clsOf O1 o = some c ∧ c ∈ cs ∧ ∃ CO ys, SG [o] CO ys ∧ Q CO ys O1) E := propext Iff.rfl
theorem e_pl : dPl RY Δ O Q1 E = RY Δ O (fun CO ys O1 => ∃ ds, ys = ds.map ydP ∧ (∀ O, CO O) ∧ Q1 ds O1) E := propext Iff.rfl
theorem e_lcY : dLcY RY Gd Te vs Δ O P E = RY Δ O (fun CO ys O1 => ys.length ≤ 1000000 ∧ ∀ p, freshC O1 p → lcY CO Gd Te p (fun acc O2 => P (.lst acc) O2) ys [] (wipeD Δ vs) O1) E := propext Iff.rfl
end
/-- the turns of a generator, one by one -/
theorem slpC_map {α : Type} {CO : Sto → Prop} {Gd : DG} {B : DS} {Te : DE} {emb : α → D} {out : α → Yd} (I : List α → Sl → Prop) {xs : List α} (step : ∀ l x r Δ O, CO O → xs = l ++ x :: r → I l Δ → ∀ K : Sl → Prop, (∀ Δ1, I (l ++ [x]) Δ1 → K Δ1) → Gd (emb x) Δ fun Δ' => B { nx := fun Δ1 O1 => Te Δ1 O1 (fun d O2 => (∃ q, (out x).ok q O ∧ d = (out x).f q ∧ Weak O2 ((out x).st q O)) ∧ K Δ1) (fun _ _ => False), rt := fun _ _ => False } Δ' O) :
    ∀ (r l : List α) (Δ : Sl), xs = l ++ r → I l Δ → slpC CO Gd B Te (r.map emb) (r.map out) Δ := by
  intro r
  induction r with
  | nil => intro l Δ _ _; exact True.intro
  | cons x r ih =>
    intro l Δ e h O hCO
    exact step l x r Δ O hCO e h (fun Δ1 => slpC CO Gd B Te (r.map emb) (r.map out) Δ1) fun Δ1 h1 => ih (l ++ [x]) Δ1 (by rw [e]; simp) h1
end G

set_option Elab.async false
set_option linter.all false
set_option maxRecDepth 100000
set_option maxHeartbeats 4000000
namespace G
open PySem L2
/-! ## == and != of lists, tuples and dicts, nested, owned or frozen: the equal case -/
section
variable {g : Gm} {X : Cx} {pins : List (Addr × Obj)} {σ : St} {H F : Hp} {O : Sto} {s : Shared}
end
section
variable {g : Gm}
end
end G

set_option Elab.async false
set_option linter.all false
set_option maxRecDepth 100000
set_option maxHeartbeats 4000000
namespace G
open PySem L2
local macro_rules
  | `(tactic| push_cast) => `(tactic| simp -failIfUnchanged only [↓e_v0, ↓e_vS, ↓e_asg, ↓e_exp, ↓e_ret, ↓e_retN, ↓e_ifS, ↓e_next, ↓e_nev, ↓e_c, ↓e_op, ↓e_un, ↓e_te, ↓e_tru, ↓e_and, ↓e_or, ↓e_not, ↓e_andV, ↓e_orV, ↓e_notV, ↓e_if, ↓e_chain, ↓e_nil, ↓e_cons, ↓e_tup, ↓e_lst, ↓e_lstO, ↓e_cb, ↓e_call, ↓e_fld, ↓e_frz, ↓e_app, ↓e_setIx, ↓e_setF, ↓e_isT, ↓e_makeK, ↓e_itL, ↓e_rng3, ↓e_itT, ↓e_rng1, ↓e_rng2, ↓e_yes, ↓e_gn, ↓e_lc, ↓e_lcO, ↓e_for, ↓e_brk, ↓e_cnt, ↓e_inOwn, ↓e_raise, ↓e_raiseT, ↓e_try, ↓e_tryN, ↓e_xf, ↓e_isX, ↓e_isO, ↓e_bin, ↓e_uno, ↓e_eqOwn, ↓e_meth, ↓f_max, ↓f_min, ↓f_abs, ↓f_sortI, ↓f_isN, ↓f_notN, ↓f_eqT, ↓f_neT, sz0, sz1, sz2, sz3, sz4, sz5, sz6, sz7, sz8, sz9, sz10, sz11, sz12, tgI, tgN, tgB, tgS, tgL, tgT, tgO, ↓f_ixT0, ↓f_ixT1, ↓f_ixT2, ↓f_ixL0, ↓f_ixL1, ↓f_ixL2, ↓f_ixL3, ↓f_ixT, ↓f_ixL, ↓f_ixP, ↓f_add, ↓f_addL, ↓f_addS, ↓f_sub, ↓f_mul, ↓f_mod, ↓f_div, ↓f_pow, ↓f_lt, ↓f_le, ↓f_gt, ↓f_ge, ↓f_eq, ↓f_ne, ↓f_int, ↓f_neg, ↓f_lenL, ↓f_lenT, ↓f_lenP, truL, truT, truI, truB, truN, objO, clsO, getF, putFs, putDs, tabAt, boolK, reduceCtorEq, List.mem_singleton, true_and, and_true, e_wipe0, e_wipe1, ex_c, getC_self, setC_self, delC_self, lstOf, List.set_cons_zero, List.set_cons_succ, setC_setC, at_0, at_1, at_2, at_3, set_0, set_1, set_2, set_3, List.length_cons, List.length_nil, List.length_map, ↓reduceIte, Bool.false_eq_true, decide_eq_true_eq, ↓e_aug, ↓e_frzS, ↓e_dix, ↓e_inD, ↓e_dget2, ↓e_setD, dicD, keyI, keyS, ↓e_sp1, ↓e_truO, ↓e_cmeth, ↓h_len, ↓h_str, ↓h_any, ↓e_join, ↓e_fmt, ↓e_joined, ↓e_js0, ↓e_js1, ↓e_gt2, ↓e_gt3, ↓e_enum, ↓e_dnew, ↓e_star, ↓e_makeC, seqT, seqL, ↓f_sortP, ↓f_strI, ↓f_addI, ↓f_sum, ↓f_maxL, ↓f_minL, ↓f_any, ↓f_all, ↓e_eqSts, strsOf_map, stsOf_map, frzD, eqB_int, eqB_bl, eqB_str, eq_prs, eq_ints, emp_prs, Bool.not_true, Bool.not_false, Bool.not_not, ↓e_isB, ↓f_inI, ↓f_inS, inB2_t, inB2_f, kit_int_int, kit_int_bool, kit_int_str, kit_list_list, kit_tuple_tuple, kit_str_str, kit_dict_dict, kit_bool_bool, kit_list_tuple, kit_none_str, kit_none_int, ↓e_tryM, ↓e_tryMN, ↓e_xcMN0, ↓e_xcMN1, ↓e_xcM0, ↓e_xcM1, ↓e_propX, ↓f_ltT, ↓f_addO, ↓e_asgG, ↓e_seq, ↓e_revS, ↓f_strS, ↓e_lc2, ↓e_disp, ↓e_lm, ↓f_pop, ↓f_ins, ↓f_ext, ↓e_slice, ↓e_noP, ↓e_part, ↓f_dictD, lstL, ↓e_callK, ↓e_makeKw, ↓e_inK, ↓e_itS, ↓e_sliceS, ↓f_listOL, ↓f_listOT, ↓e_itD, ↓e_melt, ↓e_makeKV, ↓e_makeCV, ↓e_notInOwn, ↓f_listDO, ↓e_revL, ↓f_tupL, ↓f_tupT, ↓f_addT, ↓e_sliceT, ↓e_perm, ↓e_forP, ↓e_lcP, ↓e_cmethK, ↓f_listSL, ↓f_listST, ↓e_sortZ, ↓f_sumT2, ↓e_pop1, ↓e_pop2, ↓e_may, ↓e_lc2O, ↓e_itO, ↓f_isB, ↓f_notB, ↓f_sortS, ↓e_forG, ↓e_gen, ↓e_liG, ↓f_inNon, ↓f_rep, ↓e_callM, ↓e_makeM, fl_nil, fl_int, fl_str, fl_bl, fl_non, fl_a0, fl_a1, fl_a2, ↓e_fmt8, ↓e_fmt2, ↓f_mulS, ↓e_rjust, ↓e_lsR, ↓f_dictP, ↓e_sliceO, ↓f_sortN, ↓e_dcO, ↓e_idx, ↓e_gt4, ↓e_raiseL, ↓e_makeO, ↓e_setP, ↓e_makeMO, ↓e_setT, putsFs, putsDs, ↓e_clr, ↓e_eqLs, ↓e_subO, ↓h_bl, ↓e_mayZ, ↓e_idxN, ↓e_lcX, ↓e_retFin, ↓e_frzA, ↓e_forB, f_and1, f_shr, f_shl, ↓e_ss2, ↓e_makeCO, ↓e_forS, ↓e_lcT, ↓e_genC, ↓e_genM, ↓e_pl, ↓e_lcY])
  | `(tactic| push_cast [$xs,*]) => `(tactic| simp -failIfUnchanged only [↓e_v0, ↓e_vS, ↓e_asg, ↓e_exp, ↓e_ret, ↓e_retN, ↓e_ifS, ↓e_next, ↓e_nev, ↓e_c, ↓e_op, ↓e_un, ↓e_te, ↓e_tru, ↓e_and, ↓e_or, ↓e_not, ↓e_andV, ↓e_orV, ↓e_notV, ↓e_if, ↓e_chain, ↓e_nil, ↓e_cons, ↓e_tup, ↓e_lst, ↓e_lstO, ↓e_cb, ↓e_call, ↓e_fld, ↓e_frz, ↓e_app, ↓e_setIx, ↓e_setF, ↓e_isT, ↓e_makeK, ↓e_itL, ↓e_rng3, ↓e_itT, ↓e_rng1, ↓e_rng2, ↓e_yes, ↓e_gn, ↓e_lc, ↓e_lcO, ↓e_for, ↓e_brk, ↓e_cnt, ↓e_inOwn, ↓e_raise, ↓e_raiseT, ↓e_try, ↓e_tryN, ↓e_xf, ↓e_isX, ↓e_isO, ↓e_bin, ↓e_uno, ↓e_eqOwn, ↓e_meth, ↓f_max, ↓f_min, ↓f_abs, ↓f_sortI, ↓f_isN, ↓f_notN, ↓f_eqT, ↓f_neT, sz0, sz1, sz2, sz3, sz4, sz5, sz6, sz7, sz8, sz9, sz10, sz11, sz12, tgI, tgN, tgB, tgS, tgL, tgT, tgO, ↓f_ixT0, ↓f_ixT1, ↓f_ixT2, ↓f_ixL0, ↓f_ixL1, ↓f_ixL2, ↓f_ixL3, ↓f_ixT, ↓f_ixL, ↓f_ixP, ↓f_add, ↓f_addL, ↓f_addS, ↓f_sub, ↓f_mul, ↓f_mod, ↓f_div, ↓f_pow, ↓f_lt, ↓f_le, ↓f_gt, ↓f_ge, ↓f_eq, ↓f_ne, ↓f_int, ↓f_neg, ↓f_lenL, ↓f_lenT, ↓f_lenP, truL, truT, truI, truB, truN, objO, clsO, getF, putFs, putDs, tabAt, boolK, reduceCtorEq, List.mem_singleton, true_and, and_true, e_wipe0, e_wipe1, ex_c, getC_self, setC_self, delC_self, lstOf, List.set_cons_zero, List.set_cons_succ, setC_setC, at_0, at_1, at_2, at_3, set_0, set_1, set_2, set_3, List.length_cons, List.length_nil, List.length_map, ↓reduceIte, Bool.false_eq_true, decide_eq_true_eq, ↓e_aug, ↓e_frzS, ↓e_dix, ↓e_inD, ↓e_dget2, ↓e_setD, dicD, keyI, keyS, ↓e_sp1, ↓e_truO, ↓e_cmeth, ↓h_len, ↓h_str, ↓h_any, ↓e_join, ↓e_fmt, ↓e_joined, ↓e_js0, ↓e_js1, ↓e_gt2, ↓e_gt3, ↓e_enum, ↓e_dnew, ↓e_star, ↓e_makeC, seqT, seqL, ↓f_sortP, ↓f_strI, ↓f_addI, ↓f_sum, ↓f_maxL, ↓f_minL, ↓f_any, ↓f_all, ↓e_eqSts, strsOf_map, stsOf_map, frzD, eqB_int, eqB_bl, eqB_str, eq_prs, eq_ints, emp_prs, Bool.not_true, Bool.not_false, Bool.not_not, ↓e_isB, ↓f_inI, ↓f_inS, inB2_t, inB2_f, kit_int_int, kit_int_bool, kit_int_str, kit_list_list, kit_tuple_tuple, kit_str_str, kit_dict_dict, kit_bool_bool, kit_list_tuple, kit_none_str, kit_none_int, ↓e_tryM, ↓e_tryMN, ↓e_xcMN0, ↓e_xcMN1, ↓e_xcM0, ↓e_xcM1, ↓e_propX, ↓f_ltT, ↓f_addO, ↓e_asgG, ↓e_seq, ↓e_revS, ↓f_strS, ↓e_lc2, ↓e_disp, ↓e_lm, ↓f_pop, ↓f_ins, ↓f_ext, ↓e_slice, ↓e_noP, ↓e_part, ↓f_dictD, lstL, ↓e_callK, ↓e_makeKw, ↓e_inK, ↓e_itS, ↓e_sliceS, ↓f_listOL, ↓f_listOT, ↓e_itD, ↓e_melt, ↓e_makeKV, ↓e_makeCV, ↓e_notInOwn, ↓f_listDO, ↓e_revL, ↓f_tupL, ↓f_tupT, ↓f_addT, ↓e_sliceT, ↓e_perm, ↓e_forP, ↓e_lcP, ↓e_cmethK, ↓f_listSL, ↓f_listST, ↓e_sortZ, ↓f_sumT2, ↓e_pop1, ↓e_pop2, ↓e_may, ↓e_lc2O, ↓e_itO, ↓f_isB, ↓f_notB, ↓f_sortS, ↓e_forG, ↓e_gen, ↓e_liG, ↓f_inNon, ↓f_rep, ↓e_callM, ↓e_makeM, fl_nil, fl_int, fl_str, fl_bl, fl_non, fl_a0, fl_a1, fl_a2, ↓e_fmt8, ↓e_fmt2, ↓f_mulS, ↓e_rjust, ↓e_lsR, ↓f_dictP, ↓e_sliceO, ↓f_sortN, ↓e_dcO, ↓e_idx, ↓e_gt4, ↓e_raiseL, ↓e_makeO, ↓e_setP, ↓e_makeMO, ↓e_setT, putsFs, putsDs, ↓e_clr, ↓e_eqLs, ↓e_subO, ↓h_bl, ↓e_mayZ, ↓e_idxN, ↓e_lcX, ↓e_retFin, ↓e_frzA, ↓e_forB, f_and1, f_shr, f_shl, ↓e_ss2, ↓e_makeCO, ↓e_forS, ↓e_lcT, ↓e_genC, ↓e_genM, ↓e_pl, ↓e_lcY, $xs,*])
theorem weak_now {O : Sto} {Q : Sto → Prop} (h : Q O) : ∃ O1, Weak O O1 ∧ Q O1 := ⟨O, fun _ _ _ w => w, h⟩
theorem four {a b c d : D} {O : Sto} {P : KD} {r : Int} (h0 : 0 ≤ r) (h4 : r < 4) (ha : P a O) (hb : P b O) (hc : P c O) (hd : P d O) : (match atI [a, b, c, d] r with | some d => P d O | none => False) := by
  have e : r = 0 ∨ r = 1 ∨ r = 2 ∨ r = 3 := by omega
  rcases e with rfl | rfl | rfl | rfl
  · rw [at_0]; exact ha
  · rw [at_1]; exact hb
  · rw [at_2]; exact hc
  · rw [at_3]; exact hd
theorem all2_len {α β : Type} {R : α → β → Prop} {Q : β → Prop} {as : List α} {bs : List β} (h : All2 R as bs) (k : ∀ a b, R a b → Q b) : ∀ b ∈ bs, Q b := by
  induction h with
  | nil => intro b hb; cases hb
  | cons h _ ih =>
    intro b hb
    rcases List.mem_cons.mp hb with rfl | hb
    · exact k _ _ h
    · exact ih b hb
/-- a loop whose turns keep I; the item is one of the list -/
theorem for_mem {α : Type} {emb : α → D} {Gd : DG} {T : DS} {En : DEnds} (I : Sl → Sto → Prop) {xs : List α} {Δ : Sl} {O : Sto} (h0 : I Δ O) (hend : ∀ Δ O, I Δ O → En.nx Δ O)
    (step : ∀ x ∈ xs, ∀ Δ O (K : Sl → Sto → Prop), I Δ O → (∀ Δ' O', I Δ' O' → K Δ' O') → Gd (emb x) Δ fun Δ' => T { En with nx := K, ct := K, bk := En.nx } Δ' O) : forD Gd T En (xs.map emb) Δ O :=
  for_inv2 (I := fun _ Δ O => I Δ O) h0 hend fun l x r e Δ O K hI hK => step x (by rw [e]; simp) Δ O K hI hK
theorem rangeD_emb (i : Int) (n : Nat) : rangeD i n = (List.range n).map fun j : Nat => D.int (i + (j : Int)) := rfl
theorem at_get {α : Type} {f : α → D} {xs : List α} {i : Nat} {d : α} (h : i < xs.length) : atI (xs.map f) (i : Int) = some (f (xs.getD i d)) := by
  refine atI_nat ?_
  rw [List.getElem?_map, List.getElem?_eq_getElem h, List.getD_eq_getElem?_getD, List.getElem?_eq_getElem h]
  rfl
theorem range_pre {n : Nat} {l r : List Nat} {x : Nat} (h : List.range n = l ++ x :: r) : x = l.length ∧ l.length < n ∧ l = List.range l.length := by
  have e1 : (List.range n)[l.length]? = some x := by rw [h]; simp
  have hl : l.length < n := by
    have := congrArg List.length h
    simp at this
    omega
  rw [List.getElem?_range hl] at e1
  have e2 : l = (List.range n).take l.length := by rw [h]; simp
  refine ⟨(Option.some.inj e1).symm, hl, ?_⟩
  rw [List.take_range] at e2
  rw [Nat.min_eq_left (by omega)] at e2
  exact e2
theorem for_memD {Gd : DG} {T : DS} {En : DEnds} (I : Sl → Sto → Prop) {xs : List D} {Δ : Sl} {O : Sto} (h0 : I Δ O) (hend : ∀ Δ O, I Δ O → En.nx Δ O)
    (step : ∀ x ∈ xs, ∀ Δ O (K : Sl → Sto → Prop), I Δ O → (∀ Δ' O', I Δ' O' → K Δ' O') → Gd x Δ fun Δ' => T { En with nx := K, ct := K, bk := En.nx } Δ' O) : forD Gd T En xs Δ O := by
  have z := for_mem (emb := id) (xs := xs) (Gd := Gd) (T := T) (En := En) I h0 hend step
  rwa [List.map_id] at z

def S_law_take : DSp := fun ds O P E => ∃ b m, ds = [.ptr b, .int m] ∧ getC O b = some .box ∧ 0 < m ∧ m < 1073741824 ∧ ∀ r, 0 ≤ r → r < m → P (.int r) O
def N_law_take : List Str := ["_law_box_here", "_law_many", "_law_cells", "_law_digit", "_law_cell"]
def T_law_take_0 : DS := (dSetIx (dVar 0) (dC (.int 1)) (dOp fAdd (dOp fIx (dVar 0) (dC (.int 1))) (dC (.int 1))))
def T_law_take_1 : DS := (dSeq (dSetIx (dVar 0) (dC (.int 2)) (dOp fSub (dOp fIx (dVar 2) (dOp fIx (dVar 0) (dC (.int 1)))) (dOp fPow (dC (.int 10)) (dC (.int 18))))) T_law_take_0)
def T_law_take_2 : DS := (dSeq (dSetIx (dVar 0) (dC (.int 2)) (dOp fDiv (dCB fInt (dCons (dOp fIx (dVar 0) (dC (.int 2))) dNil)) (dVar 1))) (dRet (dVar 3)))
def T_law_take_3 : DS := (dSeq (dAsg 3 (dOp fMod (dCB fInt (dCons (dOp fIx (dVar 0) (dC (.int 2))) dNil)) (dVar 1))) T_law_take_2)
def T_law_take_4 : DS := (dAsg 4 (dCB fInt (dCons (dOp fIx (dVar 2) (dOp fIx (dVar 0) (dC (.int 1)))) dNil)))
def T_law_take_5 : DS := (dRet (dOp fMod (dOp fMod (dCB fInt (dCons (dOp fAdd (dOp fMul (dOp fDiv (dOp fIx (dVar 0) (dC (.int 3))) (dC (.int 8))) (dC (.int 31))) (dOp fMod (dCB fInt (dCons (dOp fIx (dVar 0) (dC (.int 3))) dNil)) (dC (.int 65537)))) dNil)) (dC (.int 1000003))) (dVar 1)))
def T_law_take_6 : DS := (dSeq (dSetIx (dVar 0) (dC (.int 3)) (dOp fMod (dCB fInt (dCons (dOp fAdd (dOp fAdd (dOp fMul (dOp fIx (dVar 0) (dC (.int 3))) (dC (.int 48271))) (dOp fMul (dVar 4) (dC (.int 7)))) (dOp fIx (dVar 0) (dC (.int 1)))) dNil)) (dC (.int 2147483647)))) T_law_take_5)
def T_law_take_7 : DS := (dSeq (dSetIx (dVar 0) (dC (.int 1)) (dOp fAdd (dOp fIx (dVar 0) (dC (.int 1))) (dC (.int 1)))) T_law_take_6)
def T_law_take_8 : DS := (dSeq (dIfS (dTe (dOp fLt (dOp fIx (dVar 0) (dC (.int 1))) (dCB fLen (dCons (dVar 2) dNil)))) T_law_take_4 dNext) T_law_take_7)
def T_law_take_9 : DS := (dSeq (dIfS (dTe (dOp fGt (dOp fIx (dVar 0) (dC (.int 2))) (dC (.int 0)))) T_law_take_3 dNext) (dSeq (dAsg 4 (dC (.int 0))) T_law_take_8))
def T_law_take_10 : DS := (dSeq (dIfS (dAnd (dTe (dOp fEq (dOp fIx (dVar 0) (dC (.int 2))) (dC (.int 0)))) (dAnd (dTe (dOp fLt (dOp fIx (dVar 0) (dC (.int 1))) (dCB fLen (dCons (dVar 2) dNil)))) (dTe (dOp fGt (dOp fIx (dVar 2) (dOp fIx (dVar 0) (dC (.int 1)))) (dOp fPow (dC (.int 10)) (dC (.int 18))))))) T_law_take_1 dNext) T_law_take_9)
def T_law_take : DS := (dSeq (dAsg 2 (dOp fIx (dVar 0) (dC (.int 0)))) T_law_take_10)

theorem pure_law_take : Pure N_law_take 2 S_law_take T_law_take := by
  rintro ds O P E ⟨b, m, rfl, hb, h0, h1, k⟩
  refine ⟨rfl, Opn.box hb fun cs i a s hc hi ha => ?_⟩
  have gx : ∀ c, getC (setC O b c) b = some c := fun c => getC_setC hb
  have hs : startD N_law_take [.ptr b, .int m] = [some (.ptr b), some (.int m), none, none, none] := rfl
  have fin : ∀ (r : Int) (cs : List Int) (i a s : Int), cs.length ≤ 63 → 0 ≤ i → 0 ≤ a → 0 ≤ r → r < m → ∃ O1, Weak (setC O b (.lst [.lst (cs.map D.int), .int i, .int a, .int s])) O1 ∧ P (.int r) O1 := fun r cs i a s q1 q2 q3 q4 q5 => by
    refine ⟨_, Weak.box (gx _) q1 q2 q3, ?_⟩
    rw [setC_setC, setC_same hb]
    exact k r q4 q5
  have c8 : CDiv 1 8 := by unfold CDiv; omega
  have mk : ∀ x y : Int, -(2 ^ 64) < y → y < 2 ^ 64 → CMul x y := fun x y p q => .inr ⟨p, q⟩
  have t7 : ∀ (i s c : Int), 0 ≤ i → T_law_take_7 (endsD P E) [some (.ptr b), some (.int m), some (.lst (cs.map D.int)), none, some (.int c)] (setC O b (.lst [.lst (cs.map D.int), .int i, .int 0, .int s])) := fun i s c hi => by
    unfold T_law_take_7 T_law_take_6 T_law_take_5
    push_cast [gx, mk]
    refine ⟨mk _ _ (by omega) (by omega), mk _ _ (by omega) (by omega), by omega, ⟨by omega, by omega⟩, mk _ _ (by omega) (by omega), by omega, by omega, h0, ?_⟩
    exact fin _ cs _ _ _ hc (by omega) (by omega) (Int.emod_nonneg _ (by omega)) (Int.emod_lt_of_pos _ h0)
  have t9 : ∀ (i a s : Int), 0 ≤ i → 0 ≤ a → T_law_take_9 (endsD P E) [some (.ptr b), some (.int m), some (.lst (cs.map D.int)), none, none] (setC O b (.lst [.lst (cs.map D.int), .int i, .int a, .int s])) := fun i a s hi ha => by
    unfold T_law_take_9
    push_cast [gx]
    by_cases c : 0 < a
    · rw [if_pos c]
      unfold T_law_take_3 T_law_take_2
      push_cast [gx]
      refine ⟨h0, ⟨h0, h1⟩, ?_⟩
      exact fin _ cs _ _ _ hc hi (Int.ediv_nonneg ha (by omega)) (Int.emod_nonneg _ (by omega)) (Int.emod_lt_of_pos _ h0)
    · rw [if_neg c]
      have e : a = 0 := by omega
      subst e
      unfold T_law_take_8
      push_cast [gx]
      by_cases c : i < (cs.length : Int)
      · rw [if_pos c]
        unfold T_law_take_4
        obtain ⟨n, rfl⟩ := Int.eq_ofNat_of_zero_le hi
        have hn : n < cs.length := by omega
        have ea : atI (cs.map D.int) (n : Int) = some (.int cs[n]) := atI_nat (by rw [List.getElem?_map, List.getElem?_eq_getElem hn]; rfl)
        push_cast [gx, ea]
        exact t7 _ _ _ hi
      · rw [if_neg c]
        exact t7 _ _ _ hi
  rw [hs]
  unfold T_law_take boxC
  push_cast [gx]
  unfold T_law_take_10
  push_cast [gx]
  by_cases c : a = 0
  · subst c
    rw [if_pos rfl]
    by_cases c : i < (cs.length : Int)
    · rw [if_pos c]
      obtain ⟨n, rfl⟩ := Int.eq_ofNat_of_zero_le hi
      have hn : n < cs.length := by omega
      have ea : atI (cs.map D.int) (n : Int) = some (.int cs[n]) := atI_nat (by rw [List.getElem?_map, List.getElem?_eq_getElem hn]; rfl)
      have p18 : CPow 10 18 := ⟨by omega, by omega, by decide⟩
      push_cast [gx, ea]
      refine ⟨p18, ?_⟩
      have e18 : (10 : Int) ^ Int.toNat 18 = 1000000000000000000 := by decide
      rw [e18]
      by_cases c : 1000000000000000000 < cs[n]
      · rw [if_pos c]
        unfold T_law_take_1 T_law_take_0
        push_cast [gx, ea, e18]
        exact ⟨p18, t9 _ _ _ (by omega) (by omega)⟩
      · rw [if_neg c]
        exact t9 _ _ _ hi ha
    · rw [if_neg c]
      push_cast
      exact t9 _ _ _ hi ha
  · rw [if_neg c]
    push_cast
    exact t9 _ _ _ hi ha
def S_law_box : DSp := fun ds O P E => ∃ ns salt, ds = [.scr ns, .int salt] ∧ ∀ b, freshC O b → P (.ptr b) ((b, .box) :: O)
def N_law_box : List Str := ["_law_script", "_law_salt", "_law_cell"]
def T_law_box : DS := (dRet (dLstO (dCons (dLc (dItL (dSlice (dVar 0) dNoP (dPart (dC (.int 63))))) (dgN 2) dYes (dCB fInt (dCons (dVar 2) dNil)) [2]) (dCons (dC (.int 0)) (dCons (dC (.int 0)) (dCons (dVar 1) dNil))))))

theorem pure_law_box : Pure N_law_box 2 S_law_box T_law_box := by
  rintro ds O P E ⟨ns, salt, rfl, k⟩
  refine ⟨rfl, Opn.now ?_⟩
  have hs : startD N_law_box [.scr ns, .int salt] = [some (.scr ns), some (.int salt), none] := rfl
  rw [hs]
  unfold T_law_box
  obtain ⟨ms, e, hm⟩ := cut_box ns
  push_cast [dSlice, dNoP, dPart, e]
  refine ⟨by omega, fun p hp => lc_map D.int (fun x hx acc C h => ?_) (fun q hq => ⟨_, Weak.toBox hm (Int.le_refl 0) (Int.le_refl 0), k q hq⟩)⟩
  unfold lcStep
  push_cast
  exact h
theorem nodup_lenS {α : Type} [BEq α] [LawfulBEq α] {as : List α} : ∀ {bs : List α}, as.Nodup → (∀ a ∈ as, a ∈ bs) → as.length ≤ bs.length := by
  induction as with
  | nil => intro bs _ _; simp
  | cons a as ih =>
    intro bs nd h
    have nd' := List.nodup_cons.mp nd
    have hb := h a List.mem_cons_self
    have z := ih (bs := bs.erase a) nd'.2 fun x hx => (List.mem_erase_of_ne (fun e : x = a => nd'.1 (by rw [← e]; exact hx))).mpr (h x (List.mem_cons_of_mem _ hx))
    rw [List.length_erase_of_mem hb] at z
    have := List.length_pos_of_mem hb
    simp only [List.length_cons]
    omega
def digL (n m : Nat) : List Nat := (List.range m).map fun j => 97 + (n / 26 ^ j) % 26
def wordL (n m : Nat) (b : Bool) : List Nat := if b = true then (digL n m).reverse else digL n m
def wordT (n m : Nat) (b : Bool) : Str := ⟨(wordL n m b).toArray⟩
theorem abc_at : ∀ i : Fin 26, atI (("abcdefghijklmnopqrstuvwxyz" : Str).cps.toList) (i.val : Int) = some (97 + i.val) := by decide +kernel
theorem abc_len : (("abcdefghijklmnopqrstuvwxyz" : Str).length) ≤ sizeLine := by rw [sizeLine_eq]; decide +kernel
theorem str_app (a b : List Nat) : (⟨a.toArray⟩ : Str) ++ (⟨b.toArray⟩ : Str) = ⟨(a ++ b).toArray⟩ := by
  show (⟨a.toArray ++ b.toArray⟩ : Str) = _
  rw [List.append_toArray]
theorem str_len (a : List Nat) : (⟨a.toArray⟩ : Str).length = a.length := by
  show a.toArray.size = a.length
  simp
def S_law_word : DSp := fun ds O P E => ∃ (n m : Nat) (b : Bool), ds = [.int (n : Int), .int (m : Int), .bl b] ∧ m ≤ 12 ∧ P (.str (wordT n m b)) O
def N_law_word : List Str := ["_law_number", "_law_many", "_law_back", "_law_word_here", "_law_turn"]
def T_law_word_0 : DS := (dAsg 0 (dOp fDiv (dCB fInt (dCons (dVar 0) dNil)) (dC (.int 26))))
def T_law_word_1 : DS := (dSeq (dAsg 3 (dOp fAdd (dVar 3) (dOp fIx (dC (.str "abcdefghijklmnopqrstuvwxyz")) (dOp fMod (dCB fInt (dCons (dVar 0) dNil)) (dC (.int 26)))))) T_law_word_0)
def T_law_word_2 : DS := (dSeq (dIfS (dTru (dVar 2)) (dRet (dRevS (dVar 3))) dNext) (dRet (dVar 3)))
def T_law_word_3 : DS := (dSeq (dFor (dRng1 (dCons (dVar 1) dNil)) (dgN 4) T_law_word_1) T_law_word_2)
def T_law_word : DS := (dSeq (dAsg 3 (dC (.str ""))) T_law_word_3)

theorem pure_law_word : Pure N_law_word 3 S_law_word T_law_word := by
  rintro ds O P E ⟨n, m, b, rfl, hm, k⟩
  refine ⟨rfl, Opn.now ?_⟩
  have hs : startD N_law_word [.int (n : Int), .int (m : Int), .bl b] = [some (.int (n : Int)), some (.int (m : Int)), some (.bl b), none, none] := rfl
  rw [hs]
  unfold T_law_word
  push_cast
  unfold T_law_word_3
  push_cast [rangeD_emb]
  refine ⟨by omega, by omega, ?_⟩
  refine for_inv2 (emb := fun j : Nat => D.int (0 + (j : Int))) (I := fun l Δ O1 => O1 = O ∧ ∃ z, Δ = [some (.int ((n / 26 ^ l.length : Nat) : Int)), some (.int (m : Int)), some (.bl b), some (.str ⟨(digL n l.length).toArray⟩), z]) ⟨rfl, none, by simp [digL]; rfl⟩ ?_ ?_
  · rintro Δ O1 ⟨rfl, z, rfl⟩
    have el : (List.range (Int.toNat (m : Int))).length = m := by simp
    rw [el]
    have hz : (⟨(digL n m).toArray⟩ : Str).length ≤ sizeLine := by rw [str_len, sizeLine_eq]; simp [digL]; omega
    unfold T_law_word_2
    cases b with
    | true =>
      push_cast [truB, e_revS]
      refine ⟨hz, weak_now ?_⟩
      have e : revT ⟨(digL n m).toArray⟩ = wordT n m true := by simp [revT, wordT, wordL]
      rw [e]
      exact k
    | false =>
      push_cast [truB]
      exact weak_now k
  · rintro l x r e Δ O1 K ⟨rfl, z, rfl⟩ hK
    have hl : l.length < m := by
      have := congrArg List.length e
      simp at this
      omega
    push_cast [Int.zero_add]
    unfold T_law_word_1
    push_cast
    refine ⟨by omega, ?_⟩
    have em : (((n / 26 ^ l.length : Nat) : Int) % 26) = (((n / 26 ^ l.length) % 26 : Nat) : Int) := by omega
    have ea := abc_at ⟨(n / 26 ^ l.length) % 26, Nat.mod_lt _ (by omega)⟩
    simp only at ea
    rw [em]
    simp only [fIx, ea]
    refine ⟨abc_len, ?_⟩
    push_cast
    have ez := str_app (digL n l.length) [97 + n / 26 ^ l.length % 26]
    refine ⟨?_, ?_⟩
    · rw [str_len, sizeLine_eq]
      have : (⟨#[97 + n / 26 ^ l.length % 26]⟩ : Str).length = 1 := rfl
      rw [this]
      simp [digL]
      omega
    unfold T_law_word_0
    push_cast
    refine ⟨⟨by omega, by omega⟩, hK _ _ ⟨rfl, some (D.int (x : Int)), ?_⟩⟩
    have e1 : (((n / 26 ^ l.length : Nat) : Int) / 26) = ((n / 26 ^ (l ++ [x]).length : Nat) : Int) := by
      rw [List.length_append, List.length_singleton, Nat.pow_succ, ← Nat.div_div_eq_div_mul]
      omega
    have e2 : (⟨(digL n l.length).toArray⟩ : Str) ++ (⟨#[97 + n / 26 ^ l.length % 26]⟩ : Str) = ⟨(digL n (l ++ [x]).length).toArray⟩ := by
      refine Eq.trans ez ?_
      rw [List.length_append, List.length_singleton]
      unfold digL
      rw [List.range_succ, List.map_append]
      rfl
    rw [e1, e2]
def barred : List Str := ["rank", "trim", "weigh", "together"]
structure okN (w : Str) : Prop where
  ex : ∃ l : List Nat, w = ⟨l.toArray⟩ ∧ 1 ≤ l.length ∧ l.length ≤ 12 ∧ ∀ c ∈ l, 97 ≤ c ∧ c ≤ 122
  nb : w ∉ barred
theorem okN.len {w : Str} (h : okN w) : w.length ≤ 12 := by
  obtain ⟨l, rfl, _, h2, _⟩ := h.ex
  rw [str_len]; exact h2
theorem okN.pos {w : Str} (h : okN w) : 1 ≤ w.length := by
  obtain ⟨l, rfl, h2, _⟩ := h.ex
  rw [str_len]; exact h2
theorem word_ex {n m : Nat} {b : Bool} (h1 : 1 ≤ m) (h2 : m ≤ 12) : ∃ l : List Nat, wordT n m b = ⟨l.toArray⟩ ∧ 1 ≤ l.length ∧ l.length ≤ 12 ∧ ∀ c ∈ l, 97 ≤ c ∧ c ≤ 122 := by
  have key : ∀ c ∈ digL n m, 97 ≤ c ∧ c ≤ 122 := by
    intro c hc
    obtain ⟨j, _, rfl⟩ := List.mem_map.mp hc
    have := Nat.mod_lt (n / 26 ^ j) (show 26 > 0 by omega)
    omega
  have len : (digL n m).length = m := by simp [digL]
  cases b with
  | true => exact ⟨(digL n m).reverse, rfl, by rw [List.length_reverse]; omega, by rw [List.length_reverse]; omega, fun c hc => key c (List.mem_reverse.mp hc)⟩
  | false => exact ⟨digL n m, rfl, by omega, by omega, key⟩
theorem word_inj {n n' m : Nat} {b : Bool} (h1 : 1 ≤ m) (h : wordT n m b = wordT n' m b) : n % 26 = n' % 26 := by
  have e : wordL n m b = wordL n' m b := by
    have := congrArg (fun s : Str => s.cps.toList) h
    simpa [wordT] using this
  have e2 : digL n m = digL n' m := by
    unfold wordL at e
    cases b with
    | true => simpa using e
    | false => simpa using e
  obtain ⟨m, rfl⟩ : ∃ k, m = k + 1 := ⟨m - 1, by omega⟩
  unfold digL at e2
  rw [List.range_succ_eq_map, List.map_cons, List.map_cons] at e2
  have z := (List.cons.inj e2).1
  simp at z
  omega
theorem words_pig {B : List Str} {n m : Nat} {b : Bool} (h1 : 1 ≤ m) (hB : B.length ≤ 18) : ¬ ∀ i, i < 20 → wordT (n + i) m b ∈ B := by
  intro h
  have nd : ((List.range 20).map fun i => wordT (n + i) m b).Nodup := by
    rw [List.nodup_iff_pairwise_ne, List.pairwise_map]
    refine List.Pairwise.imp_of_mem ?_ List.nodup_range
    intro a c ha hc ne e
    have := word_inj h1 e
    have := List.mem_range.mp ha
    have := List.mem_range.mp hc
    omega
  have z := nodup_lenS nd (bs := B) (fun a ha => by
    obtain ⟨i, hi, rfl⟩ := List.mem_map.mp ha
    exact h i (List.mem_range.mp hi))
  rw [List.length_map, List.length_range] at z
  omega
def S_law_words : DSp := fun ds O P E => ∃ (b : Addr) (m : Nat), ds = [.ptr b, .int (m : Int)] ∧ getC O b = some .box ∧ m ≤ 15 ∧ ∀ ws : List Str, ws.length = m → ws.Nodup → (∀ w ∈ ws, okN w) → P (.lst (ws.map D.str)) O
def N_law_words : List Str := ["_law_box_here", "_law_many", "_law_words_here", "_law_back", "_law_turn", "_law_wide", "_law_number", "_law_word_here", "_law_again"]
def T_law_words_0 : DS := (dAsg 7 (dCall S_law_word (dCons (dVar 6) (dCons (dVar 5) (dCons (dVar 3) dNil)))))
def T_law_words_1 : DS := (dSeq (dAsg 6 (dOp fAdd (dVar 6) (dC (.int 1)))) T_law_words_0)
def T_law_words_2 : DS := (dIfS (dOr (dTe (dOp fIn (dVar 7) (dVar 2))) (dTe (dOp fIn (dVar 7) (dLst (dCons (dC (.str "rank")) (dCons (dC (.str "trim")) (dCons (dC (.str "weigh")) (dCons (dC (.str "together")) dNil)))))))) T_law_words_1 dNext)
def T_law_words_3 : DS := (dSeq (dFor (dRng1 (dCons (dC (.int 20)) dNil)) (dgN 8) T_law_words_2) (dExp (dApp (dVar 2) (dVar 7))))
def T_law_words_4 : DS := (dSeq (dAsg 7 (dCall S_law_word (dCons (dVar 6) (dCons (dVar 5) (dCons (dVar 3) dNil))))) T_law_words_3)
def T_law_words_5 : DS := (dSeq (dAsg 6 (dCall S_law_take (dCons (dVar 0) (dCons (dC (.int 500000)) dNil)))) T_law_words_4)
def T_law_words_6 : DS := (dSeq (dAsg 5 (dOp fIx (dLst (dCons (dC (.int 1)) (dCons (dC (.int 1)) (dCons (dC (.int 2)) (dCons (dC (.int 3)) (dCons (dC (.int 5)) (dCons (dC (.int 12)) dNil))))))) (dCall S_law_take (dCons (dVar 0) (dCons (dC (.int 6)) dNil))))) T_law_words_5)
def T_law_words_7 : DS := (dSeq (dFor (dRng1 (dCons (dVar 1) dNil)) (dgN 4) T_law_words_6) (dRet (dFrz (dVar 2))))
def T_law_words_8 : DS := (dSeq (dAsg 3 (dOp fEq (dCall S_law_take (dCons (dVar 0) (dCons (dC (.int 2)) dNil))) (dC (.int 1)))) T_law_words_7)
def T_law_words : DS := (dSeq (dAsg 2 (dLstO dNil)) T_law_words_8)

theorem six {a b c d e f : D} {O : Sto} {P : KD} {r : Int} (h0 : 0 ≤ r) (h6 : r < 6) (ha : P a O) (hb : P b O) (hc : P c O) (hd : P d O) (he : P e O) (hf : P f O) : (match atI [a, b, c, d, e, f] r with | some d => P d O | none => False) := by
  have e : r = 0 ∨ r = 1 ∨ r = 2 ∨ r = 3 ∨ r = 4 ∨ r = 5 := by omega
  rcases e with rfl | rfl | rfl | rfl | rfl | rfl
  · exact ha
  · exact hb
  · exact hc
  · exact hd
  · exact he
  · exact hf
theorem pure_law_words : Pure N_law_words 2 S_law_words T_law_words := by
  rintro ds O P E ⟨b, m, rfl, hb, hm, k⟩
  refine ⟨rfl, Opn.now ?_⟩
  have hs : startD N_law_words [.ptr b, .int (m : Int)] = [some (.ptr b), some (.int (m : Int)), none, none, none, none, none, none, none] := rfl
  rw [hs]
  unfold T_law_words
  push_cast
  intro p hp
  have gb : ∀ c, getC ((p, c) :: O) b = some .box := fun c => getC_fresh hb hp
  unfold T_law_words_8
  push_cast
  refine ⟨b, _, rfl, gb _, by omega, by omega, fun r h0 h1 => ?_⟩
  push_cast
  generalize decide (r = 1) = bk
  unfold T_law_words_7
  push_cast [rangeD_emb]
  refine ⟨by omega, by omega, ?_⟩
  refine for_inv2 (emb := fun j : Nat => D.int (0 + (j : Int))) (I := fun l Δ O1 => ∃ (ws : List Str) (z4 z5 z6 z7 z8 : Option D), ws.length = l.length ∧ ws.Nodup ∧ (∀ w ∈ ws, okN w) ∧ O1 = (p, .lst (ws.map D.str)) :: O ∧ Δ = [some (.ptr b), some (.int (m : Int)), some (.ptr p), some (.bl bk), z4, z5, z6, z7, z8]) ⟨[], none, none, none, none, none, rfl, List.nodup_nil, (by intro w hw; cases hw), rfl, rfl⟩ ?_ ?_
  · rintro Δ O1 ⟨ws, z4, z5, z6, z7, z8, hl, hn, hok, rfl, rfl⟩
    push_cast
    exact weak_now (k ws (by rw [hl]; simp) hn hok)
  · rintro l x r' e Δ O1 K ⟨ws, z4, z5, z6, z7, z8, hl, hn, hok, rfl, rfl⟩ hK
    have hlm : l.length < m := by
      have := congrArg List.length e
      simp at this
      omega
    push_cast
    unfold T_law_words_6
    push_cast
    refine ⟨b, _, rfl, gb _, by omega, by omega, fun r2 h20 h21 => ?_⟩
    push_cast
    have main : ∀ wd : Nat, 1 ≤ wd → wd ≤ 12 → T_law_words_5 { endsD P E with nx := K, ct := K, bk := (fun Δ' O' => (dRet (dFrz (dVar 2))) (endsD P E) Δ' O') } [some (.ptr b), some (.int (m : Int)), some (.ptr p), some (.bl bk), some (.int (0 + (x : Int))), some (.int (wd : Int)), z6, z7, z8] ((p, .lst (ws.map D.str)) :: O) := by
      intro wd w1 w2
      unfold T_law_words_5
      push_cast
      refine ⟨b, _, rfl, gb _, by omega, by omega, fun n hn0 hn1 => ?_⟩
      obtain ⟨n, rfl⟩ := Int.eq_ofNat_of_zero_le hn0
      unfold T_law_words_4
      push_cast
      refine ⟨n, wd, bk, rfl, w2, ?_⟩
      unfold T_law_words_3
      push_cast [rangeD_emb]
      refine ⟨by omega, by omega, ?_⟩
      refine for_inv2 (emb := fun j : Nat => D.int (0 + (j : Int))) (I := fun l2 Δ O1 => ∃ (c : Nat) (z8 : Option D), c ≤ l2.length ∧ (∀ i, i < c → wordT (n + i) wd bk ∈ ws ++ barred) ∧ (c = l2.length ∨ wordT (n + c) wd bk ∉ ws ++ barred) ∧ O1 = (p, .lst (ws.map D.str)) :: O ∧ Δ = [some (.ptr b), some (.int (m : Int)), some (.ptr p), some (.bl bk), some (.int (0 + (x : Int))), some (.int (wd : Int)), some (.int ((n + c : Nat) : Int)), some (.str (wordT (n + c) wd bk)), z8]) ⟨0, _, Nat.le_refl _, fun i hi => absurd hi (by omega), .inl rfl, rfl, rfl⟩ ?_ ?_
      · rintro Δ O1 ⟨c, z8, hc, hin, hor, rfl, rfl⟩
        have el : (List.range (Int.toNat 20)).length = 20 := by decide
        rw [el] at hc hor
        have nin : wordT (n + c) wd bk ∉ ws ++ barred := by
          rcases hor with rfl | h
          · exact absurd hin (words_pig w1 (by rw [List.length_append]; simp [barred]; omega))
          · exact h
        have nin1 : wordT (n + c) wd bk ∉ ws := fun q => nin (List.mem_append.mpr (.inl q))
        have nin2 : wordT (n + c) wd bk ∉ barred := fun q => nin (List.mem_append.mpr (.inr q))
        push_cast
        refine ⟨by rw [sizeLine_eq]; omega, hK _ _ ⟨ws ++ [wordT (n + c) wd bk], _, _, _, _, _, by rw [List.length_append, List.length_append, hl]; rfl, ?_, ?_, ?_, rfl⟩⟩
        · rw [List.nodup_append]
          refine ⟨hn, by simp, fun a ha b hb e => ?_⟩
          rw [List.mem_singleton.mp hb] at e
          exact nin1 (by rw [← e]; exact ha)
        · intro w hw
          rcases List.mem_append.mp hw with hw | hw
          · exact hok w hw
          · rw [List.mem_singleton.mp hw]
            exact ⟨word_ex w1 w2, nin2⟩
        · rw [List.map_append]; rfl
      · rintro l2 x2 r2 e2 Δ O1 K2 ⟨c, z8, hc, hin, hor, rfl, rfl⟩ hK2
        push_cast
        unfold T_law_words_2
        have sq : seqOf ((p, Cell.lst (ws.map D.str)) :: O) (.ptr p) = some (ws.map D.str) := seqP getC_self
        have eb : [D.str "rank", D.str "trim", D.str "weigh", D.str "together"] = barred.map D.str := rfl
        push_cast [fInQ, sq, inB2]
        have again : wordT (n + c) wd bk ∈ ws ++ barred → T_law_words_1 { endsD P E with nx := K2, ct := K2, bk := (fun Δ' O' => (dExp (dApp (dVar 2) (dVar 7))) { endsD P E with nx := K, ct := K, bk := (fun Δ' O' => (dRet (dFrz (dVar 2))) (endsD P E) Δ' O') } Δ' O') } [some (.ptr b), some (.int (m : Int)), some (.ptr p), some (.bl bk), some (.int (0 + (x : Int))), some (.int (wd : Int)), some (.int ((n + c : Nat) : Int)), some (.str (wordT (n + c) wd bk)), some (.int (0 + (x2 : Int)))] ((p, .lst (ws.map D.str)) :: O) := by
          intro q
          have ec : c = l2.length := by
            rcases hor with h | h
            · exact h
            · exact absurd q h
          unfold T_law_words_1
          push_cast
          unfold T_law_words_0
          push_cast
          refine ⟨n + c + 1, wd, bk, ?_, w2, ?_⟩
          · have : ((n + c : Nat) : Int) + 1 = ((n + c + 1 : Nat) : Int) := by omega
            rw [this]
          refine hK2 _ _ ⟨c + 1, some (.int (0 + (x2 : Int))), by rw [List.length_append, List.length_singleton]; omega, fun i hi => ?_, .inl (by rw [List.length_append, List.length_singleton]; omega), rfl, ?_⟩
          · by_cases ei : i < c
            · exact hin i ei
            · have : i = c := by omega
              rw [this]; exact q
          · have : ((n + c : Nat) : Int) + 1 = ((n + (c + 1) : Nat) : Int) := by omega
            rw [this]
            rfl
        by_cases q1 : wordT (n + c) wd bk ∈ ws
        · rw [if_pos q1]
          exact again (List.mem_append.mpr (.inl q1))
        · rw [if_neg q1]
          rw [eb]
          push_cast [fInQ, inB2]
          by_cases q2 : wordT (n + c) wd bk ∈ barred
          · rw [if_pos q2]
            exact again (List.mem_append.mpr (.inr q2))
          · rw [if_neg q2]
            refine hK2 _ _ ⟨c, some (.int (0 + (x2 : Int))), by rw [List.length_append, List.length_singleton]; omega, hin, .inr fun q => (List.mem_append.mp q).elim q1 q2, rfl, rfl⟩
    exact six (P := fun d O => T_law_words_5 { endsD P E with nx := K, ct := K, bk := (fun Δ' O' => (dRet (dFrz (dVar 2))) (endsD P E) Δ' O') } [some (.ptr b), some (.int (m : Int)), some (.ptr p), some (.bl bk), some (.int (0 + (x : Int))), some d, z6, z7, z8] O) h20 h21 (main 1 (by omega) (by omega)) (main 1 (by omega) (by omega)) (main 2 (by omega) (by omega)) (main 3 (by omega) (by omega)) (main 5 (by omega) (by omega)) (main 12 (by omega) (by omega))
/-- readings: a dict of names -/
def rdF (ws : List Str) (f : Str → Int) : D := .dic (ws.map Sum.inr) (ws.map fun w => .int (f w))
theorem getK_map {α : Type} [DecidableEq α] {h : α → Key} (hi : ∀ a b, h a = h b → a = b) {g : α → D} {ws : List α} {w : α} (hw : w ∈ ws) : getK (h w) (ws.map h) (ws.map g) = some (g w) := by
  induction ws with
  | nil => cases hw
  | cons x ws ih =>
    simp only [List.map_cons, getK]
    by_cases e : x = w
    · rw [if_pos (by rw [e]), e]
    · rw [if_neg fun q => e (hi _ _ q)]
      rcases List.mem_cons.mp hw with q | q
      · exact absurd q.symm e
      · exact ih q
theorem getK_no {α : Type} [DecidableEq α] {h : α → Key} (hi : ∀ a b, h a = h b → a = b) {g : α → D} {ws : List α} {w : α} (hw : w ∉ ws) : getK (h w) (ws.map h) (ws.map g) = none := by
  induction ws with
  | nil => rfl
  | cons x ws ih =>
    simp only [List.map_cons, getK]
    rw [if_neg fun q => hw (by rw [hi _ _ q]; exact List.mem_cons_self), ih fun q => hw (List.mem_cons_of_mem _ q)]
theorem inr_inj (a b : Str) (h : (Sum.inr a : Key) = Sum.inr b) : a = b := Sum.inr.inj h
theorem putK_new {ws : List Str} {w : Str} {d : D} {g : Str → D} (hw : w ∉ ws) : putKs (.inr w) (ws.map Sum.inr) = (ws ++ [w]).map Sum.inr ∧ putKd (.inr w) d (ws.map Sum.inr) (ws.map g) = ws.map g ++ [d] := by
  induction ws with
  | nil => exact ⟨rfl, rfl⟩
  | cons x ws ih =>
    obtain ⟨h1, h2⟩ := ih fun q => hw (List.mem_cons_of_mem _ q)
    have ne : ¬ (Sum.inr x : Key) = Sum.inr w := fun q => hw (by rw [inr_inj _ _ q]; exact List.mem_cons_self)
    simp only [List.map_cons, putKs, putKd, if_neg ne, List.cons_append]
    exact ⟨by rw [h1], by rw [h2]⟩
theorem inr_nodup {ws : List Str} (h : ws.Nodup) : (ws.map (Sum.inr : Str → Key)).Nodup := List.Pairwise.map _ (fun a b q e => q (inr_inj _ _ e)) h
def updF (g : Str → Int) (x : Str) (v : Int) (w : Str) : Int := if w = x then v else g w
theorem updF_self (g : Str → Int) (x : Str) (v : Int) : updF g x v x = v := by simp [updF]
theorem updF_ne {g : Str → Int} {x w : Str} {v : Int} (h : w ≠ x) : updF g x v w = g w := by simp [updF, h]
theorem putF_new {l : List Str} {x : Str} {v : Int} {g : Str → Int} (nx : x ∉ l) : putKs (.inr x) (l.map Sum.inr) = (l ++ [x]).map Sum.inr ∧ putKd (.inr x) (.int v) (l.map Sum.inr) (l.map fun w => .int (g w)) = (l ++ [x]).map fun w => D.int (updF g x v w) := by
  obtain ⟨p1, p2⟩ := putK_new (d := .int v) (g := fun w => .int (g w)) nx
  refine ⟨p1, ?_⟩
  rw [p2, List.map_append]
  have : l.map (fun w => D.int (updF g x v w)) = l.map fun w => D.int (g w) := List.map_congr_left fun w hw => by rw [updF_ne fun q => nx (by rw [← q]; exact hw)]
  rw [this]
  simp [updF]
theorem getF_in {ws : List Str} {f : Str → Int} {w : Str} (h : w ∈ ws) : getK (.inr w) (ws.map Sum.inr) (ws.map fun w => D.int (f w)) = some (.int (f w)) := getK_map (h := Sum.inr) (g := fun w => D.int (f w)) inr_inj h
theorem dic_rd {O : Sto} {ws : List Str} {f : Str → Int} : dicOf O (rdF ws f) = some (ws.map Sum.inr, ws.map fun w => .int (f w)) := rfl

/-- the numbers of a gauge -/
structure Gs where
  name : Str
  sort : Nat
  radius : Int
  step : Int
  late : Int
  pace : Int
def clG (s : Gs) : Cl := match s.sort with | 0 => .Gauge | 1 => .CoarseGauge | 2 => .LateGauge | _ => .LateCoarseGauge
def fsG (s : Gs) : List Fd := match s.sort with | 0 => [.name, .radius] | 1 => [.name, .radius, .step] | 2 => [.name, .radius, .late, .pace] | _ => [.name, .radius, .late, .pace, .step]
def dsG (s : Gs) : List D := match s.sort with
  | 0 => [.str s.name, .int s.radius] | 1 => [.str s.name, .int s.radius, .int s.step] | 2 => [.str s.name, .int s.radius, .int s.late, .int s.pace] | _ => [.str s.name, .int s.radius, .int s.late, .int s.pace, .int s.step]
def gaugeD (s : Gs) : D := .obj (clG s) (fsG s) (dsG s)
def specD (s : Gs) : D := .tup [.str s.name, .int (s.sort : Int), .int s.radius, .int s.step, .int s.late, .int s.pace]
/-- how far the level may be below, above -/
def lateG (s : Gs) : Int := if 2 ≤ s.sort then s.late * s.pace else 0
def stepG (s : Gs) : Int := if s.sort = 1 ∨ s.sort = 3 then s.step - 1 else 0
def sbG (s : Gs) : Int := s.radius + lateG s
def saG (s : Gs) : Int := s.radius + lateG s + stepG s
structure okG (s : Gs) : Prop where
  nm : okN s.name
  so : s.sort ≤ 3
  ra : 0 ≤ s.radius
  st : 1 ≤ s.step
  la : 0 ≤ s.late
  pa : 0 ≤ s.pace
  lb : s.late < 2 ^ 64
theorem lateG_nn {s : Gs} (h : okG s) : 0 ≤ lateG s := by
  unfold lateG
  split
  · exact Int.mul_nonneg h.la h.pa
  · exact Int.le_refl _
theorem stepG_nn {s : Gs} (h : okG s) : 0 ≤ stepG s := by
  unfold stepG
  have := h.st
  split <;> omega
theorem sb_nn {s : Gs} (h : okG s) : 0 ≤ sbG s := by have := lateG_nn h; have := h.ra; unfold sbG; omega
theorem sa_nn {s : Gs} (h : okG s) : 0 ≤ saG s := by have := lateG_nn h; have := stepG_nn h; have := h.ra; unfold saG; omega
theorem obj_g {O : Sto} (s : Gs) : objOf O (gaugeD s) = some (clG s, fsG s, dsG s) := rfl
theorem cls_g {O : Sto} (s : Gs) : clsOf O (gaugeD s) = some (clG s) := rfl
theorem sort4 {s : Gs} (h : okG s) : s.sort = 0 ∨ s.sort = 1 ∨ s.sort = 2 ∨ s.sort = 3 := by have := h.so; omega
theorem gf_name (s : Gs) : getF .name (fsG s) (dsG s) = some (.str s.name) := by
  unfold fsG dsG; split <;> simp [getF]
theorem gf_radius (s : Gs) : getF .radius (fsG s) (dsG s) = some (.int s.radius) := by
  unfold fsG dsG; split <;> simp [getF]
theorem gf_step {s : Gs} (h : s.sort = 1 ∨ s.sort = 3) : getF .step (fsG s) (dsG s) = some (.int s.step) := by
  unfold fsG dsG; rcases h with h | h <;> rw [h] <;> simp [getF]
theorem gf_late {s : Gs} (h : s.sort = 2 ∨ s.sort = 3) : getF .late (fsG s) (dsG s) = some (.int s.late) := by
  unfold fsG dsG; rcases h with h | h <;> rw [h] <;> simp [getF]
theorem gf_pace {s : Gs} (h : s.sort = 2 ∨ s.sort = 3) : getF .pace (fsG s) (dsG s) = some (.int s.pace) := by
  unfold fsG dsG; rcases h with h | h <;> rw [h] <;> simp [getF]
theorem clG_0 {s : Gs} (e : s.sort = 0) : clG s = .Gauge := by simp [clG, e]
theorem clG_1 {s : Gs} (e : s.sort = 1) : clG s = .CoarseGauge := by simp [clG, e]
theorem clG_2 {s : Gs} (e : s.sort = 2) : clG s = .LateGauge := by simp [clG, e]
theorem clG_3 {s : Gs} (e : s.sort = 3) : clG s = .LateCoarseGauge := by simp [clG, e]
def gaugeCs : List Cl := [.Gauge, .CoarseGauge, .LateGauge, .LateCoarseGauge]
theorem clG_mem (s : Gs) : clG s ∈ gaugeCs := by unfold clG; split <;> decide
def abcL : List Nat := (("abcdefghijklmnopqrstuvwxyz" : Str).cps.toList)
def validB (z : Str) : Bool := decide (1 ≤ z.length ∧ z.length ≤ 12) && !decide (z ∈ barred) && z.cps.toList.all fun c => decide (c ∈ abcL)
def validD : D → Bool
  | .str z => validB z
  | _ => false
theorem abc_mem : ∀ i : Fin 26, (97 + i.val) ∈ abcL := by decide +kernel
theorem valid_ok {z : Str} (h : okN z) : validB z = true := by
  obtain ⟨l, rfl, h1, h2, h3⟩ := h.ex
  unfold validB
  rw [str_len]
  simp only [Bool.and_eq_true, decide_eq_true_eq, Bool.not_eq_true', decide_eq_false_iff_not, List.all_eq_true]
  refine ⟨⟨⟨h1, h2⟩, h.nb⟩, fun c hc => ?_⟩
  have := h3 c (by simpa using hc)
  have z := abc_mem ⟨c - 97, by omega⟩
  have e : 97 + (c - 97) = c := by omega
  simpa only [e] using z
def nameLike (nd : D) : Prop := (∃ z : Str, nd = .str z ∧ z.length ≤ 1000) ∨ nd = .non ∨ (∃ i, nd = .int i) ∨ ∃ es, nd = .tup es
def S_valid_name : DSp := fun ds O P E => ∃ nd : D, ds = [nd] ∧ nameLike nd ∧ P (.bl (validD nd)) O
def N_valid_name : List Str := ["name", "sign"]
def T_valid_name_0 : DS := (dRet (dCB fAll (dCons (dLc (dItS (dVar 0)) (dgN 1) dYes (dOp fInS (dVar 1) (dC (.str "abcdefghijklmnopqrstuvwxyz"))) [1]) dNil)))
def T_valid_name : DS := (dSeq (dIfS (dOr (dNot (dTe (dIsB "str" (dVar 0)))) (dOr (dNot (dTe (dChain fLe fLe (dC (.int 1)) (dCB fLen (dCons (dVar 0) dNil)) (dC (.int 12))))) (dTe (dInK ["rank", "trim", "weigh", "together"] (dVar 0))))) (dRet (dC (.bl false))) dNext) T_valid_name_0)

theorem pure_valid_name : Pure N_valid_name 1 S_valid_name T_valid_name := by
  rintro ds O P E ⟨nd, rfl, h, k⟩
  refine ⟨rfl, Opn.now ?_⟩
  have hs : startD N_valid_name [nd] = [some nd, none] := rfl
  rw [hs]
  unfold T_valid_name
  rcases h with ⟨z, rfl, hz⟩ | rfl | ⟨i, rfl⟩ | ⟨es, rfl⟩
  · have hl : lenD O (.str z) = some z.length := by simp only [lenD]; rw [if_pos (by rw [sizeLine_eq]; omega)]
    have hsz : fLen [.str z] O = fun P => P (.int (z.length : Int)) O := by funext P; show (match lenD O (.str z) with | some n => P (.int (n : Int)) O | none => False) = _; rw [hl]
    push_cast [tyD, hsz]
    have k : P (.bl (validB z)) O := k
    by_cases h1 : 1 ≤ (z.length : Int)
    · rw [if_pos h1]
      by_cases h2 : (z.length : Int) ≤ 12
      · push_cast [h2, decide_true]
        have eb : ([("rank" : Str), "trim", "weigh", "together"] : List Str) = barred := rfl
        rw [eb]
        by_cases hb : z ∈ barred
        · have e : validB z = false := by simp [validB, hb]
          rw [if_pos hb, ← e]
          exact weak_now k
        · rw [if_neg hb]
          unfold T_valid_name_0
          push_cast [e_itS]
          have hcl : z.cps.toList.length ≤ 1000 := by have : z.cps.size = z.length := rfl; simp; omega
          refine ⟨by rw [Array.length_toList] at *; omega, fun p hp => lc_map (fun c => D.bl (decide (c ∈ abcL))) (fun c hc acc C h => ?_) ?_⟩
          · unfold lcStep
            push_cast [fInSQ, inB2]
            exact h
          have em : z.cps.toList.map (fun c => D.bl (decide (c ∈ abcL))) = (z.cps.toList.map fun c => decide (c ∈ abcL)).map D.bl := by rw [List.map_map]; rfl
          rw [em]
          push_cast
          have e : (z.cps.toList.map fun c => decide (c ∈ abcL)).all id = validB z := by
            have h12 : 1 ≤ z.length ∧ z.length ≤ 12 := by omega
            simp only [validB, hb, h12, List.all_map, decide_true, decide_false, Bool.not_false, Bool.true_and, and_self]
            rfl
          rw [e]
          exact weak_now k
      · have e : validB z = false := by
          have : ¬ (z.length ≤ 12) := by omega
          simp [validB, this]
        push_cast [h2, decide_false]
        rw [← e]
        exact weak_now k
    · have e : validB z = false := by
        have h : z.length = 0 := by omega
        simp [validB, h]
      rw [if_neg h1]
      push_cast
      rw [← e]
      exact weak_now k
  · push_cast [tyD]
    exact weak_now k
  · push_cast [tyD]
    exact weak_now k
  · have kt : kitB "tuple" "str" = some false := by decide +kernel
    push_cast [kt]
    exact weak_now k
theorem nameLike_ok {z : Str} (h : okN z) : nameLike (.str z) := .inl ⟨z, rfl, by have := h.len; omega⟩
def S_Gauge_init : DSp := fun ds O P E => ∃ (q : Addr) (nd : D) (r : Int) (c : Cl), ds = [.ptr q, nd, .int r] ∧ nameLike nd ∧ c ∈ gaugeCs ∧ getC O q = some (.ins c [] []) ∧ (validD nd = true ∧ 0 ≤ r → P .non (setC O q (.ins c [.name, .radius] [nd, .int r]))) ∧ (¬ (validD nd = true ∧ 0 ≤ r) → E ⟨.BadGauge, [.name], [nd]⟩ O)
def N_Gauge_init : List Str := ["self", "name", "radius"]
def T_Gauge_init_0 : DS := (dSetF [.Gauge, .CoarseGauge, .LateGauge, .LateCoarseGauge] .radius (dVar 0) (dVar 2))
def T_Gauge_init_1 : DS := (dSeq (dSetF [.Gauge, .CoarseGauge, .LateGauge, .LateCoarseGauge] .name (dVar 0) (dVar 1)) T_Gauge_init_0)
def T_Gauge_init : DS := (dSeq (dIfS (dOr (dNot (dTe (dCall S_valid_name (dCons (dVar 1) dNil)))) (dTe (dOp fLt (dVar 2) (dC (.int 0))))) (dRaise .BadGauge [.name] (dCons (dVar 1) dNil)) dNext) T_Gauge_init_1)

theorem pure_Gauge_init : Pure N_Gauge_init 3 S_Gauge_init T_Gauge_init := by
  rintro ds O P E ⟨q, nd, r, c, rfl, hn, hc, gq, k, kx⟩
  refine ⟨rfl, Opn.now ?_⟩
  have hs : startD N_Gauge_init [.ptr q, nd, .int r] = [some (.ptr q), some nd, some (.int r)] := rfl
  rw [hs]
  have gx : ∀ z, getC (setC O q z) q = some z := fun z => getC_setC gq
  unfold T_Gauge_init
  push_cast
  refine ⟨nd, rfl, hn, ?_⟩
  cases ev : validD nd with
  | false =>
    push_cast
    exact ⟨by decide, weak_now (kx (by rw [ev]; simp))⟩
  | true =>
    push_cast
    by_cases hr : r < 0
    · rw [if_pos hr]
      push_cast
      exact ⟨by decide, weak_now (kx (by omega))⟩
    · rw [if_neg hr]
      unfold T_Gauge_init_1
      push_cast [gq]
      refine ⟨hc, by decide, ?_⟩
      unfold T_Gauge_init_0
      push_cast [gx, setC_setC]
      exact ⟨hc, by decide, weak_now (k ⟨ev, by omega⟩)⟩
def S_CoarseGauge_init : DSp := fun ds O P E => ∃ (q : Addr) (nd : D) (r st : Int), ds = [.ptr q, nd, .int r, .int st] ∧ nameLike nd ∧ getC O q = some (.ins .CoarseGauge [] []) ∧ (validD nd = true ∧ 0 ≤ r ∧ 1 ≤ st → P .non (setC O q (.ins .CoarseGauge [.name, .radius, .step] [nd, .int r, .int st]))) ∧ (¬ (validD nd = true ∧ 0 ≤ r ∧ 1 ≤ st) → ∀ z, E ⟨.BadGauge, [.name], [nd]⟩ (setC O q z))
def N_CoarseGauge_init : List Str := ["self", "name", "radius", "step", "__class__"]
def T_CoarseGauge_init_0 : DS := (dSetF [.CoarseGauge, .LateCoarseGauge] .step (dVar 0) (dVar 3))
def T_CoarseGauge_init_1 : DS := (dSeq (dIfS (dTe (dOp fLt (dVar 3) (dC (.int 1)))) (dRaise .BadGauge [.name] (dCons (dVar 1) dNil)) dNext) T_CoarseGauge_init_0)
def T_CoarseGauge_init : DS := (dSeq (dExp (dMeth [(.CoarseGauge, S_Gauge_init)] (dVar 0) (dCons (dVar 1) (dCons (dVar 2) dNil)))) T_CoarseGauge_init_1)

theorem setC_same' {O : Sto} {q : Addr} {z : Cell} (h : getC O q = some z) : setC O q z = O := setC_same h
theorem pure_CoarseGauge_init : Pure N_CoarseGauge_init 4 S_CoarseGauge_init T_CoarseGauge_init := by
  rintro ds O P E ⟨q, nd, r, st, rfl, hn, gq, k, kx⟩
  refine ⟨rfl, Opn.now ?_⟩
  have hs : startD N_CoarseGauge_init [.ptr q, nd, .int r, .int st] = [some (.ptr q), some nd, some (.int r), some (.int st), none] := rfl
  rw [hs]
  have gx : ∀ z, getC (setC O q z) q = some z := fun z => getC_setC gq
  have cl : clsOf O (.ptr q) = some .CoarseGauge := clsP gq
  unfold T_CoarseGauge_init
  push_cast
  rw [cl]
  push_cast
  refine ⟨q, nd, r, .CoarseGauge, rfl, hn, by decide, gq, fun hv => ?_, fun hv => ?_⟩
  · unfold T_CoarseGauge_init_1
    push_cast
    by_cases hst : st < 1
    · rw [if_pos hst]
      push_cast
      exact ⟨by decide, weak_now (kx (by omega) _)⟩
    · rw [if_neg hst]
      unfold T_CoarseGauge_init_0
      push_cast [gx, setC_setC]
      exact ⟨by decide, by decide, weak_now (k ⟨hv.1, hv.2, by omega⟩)⟩
  · have := kx (fun z => hv ⟨z.1, z.2.1⟩) (.ins .CoarseGauge [] [])
    rw [setC_same gq] at this
    exact weak_now this
def S_LateGauge_init : DSp := fun ds O P E => ∃ (q : Addr) (nd : D) (r la pa : Int) (c : Cl), ds = [.ptr q, nd, .int r, .int la, .int pa] ∧ nameLike nd ∧ (c = .LateGauge ∨ c = .LateCoarseGauge) ∧ getC O q = some (.ins c [] []) ∧ (validD nd = true ∧ 0 ≤ r ∧ 0 ≤ la ∧ 0 ≤ pa → P .non (setC O q (.ins c [.name, .radius, .late, .pace] [nd, .int r, .int la, .int pa]))) ∧ (¬ (validD nd = true ∧ 0 ≤ r ∧ 0 ≤ la ∧ 0 ≤ pa) → ∀ z, E ⟨.BadGauge, [.name], [nd]⟩ (setC O q z))
def N_LateGauge_init : List Str := ["self", "name", "radius", "late", "pace"]
def T_LateGauge_init_0 : DS := (dSetF [.LateGauge, .LateCoarseGauge] .pace (dVar 0) (dVar 4))
def T_LateGauge_init_1 : DS := (dSeq (dSetF [.LateGauge, .LateCoarseGauge] .late (dVar 0) (dVar 3)) T_LateGauge_init_0)
def T_LateGauge_init_2 : DS := (dSeq (dIfS (dOr (dTe (dOp fLt (dVar 3) (dC (.int 0)))) (dTe (dOp fLt (dVar 4) (dC (.int 0))))) (dRaise .BadGauge [.name] (dCons (dVar 1) dNil)) dNext) T_LateGauge_init_1)
def T_LateGauge_init : DS := (dSeq (dExp (dCall S_Gauge_init (dCons (dVar 0) (dCons (dVar 1) (dCons (dVar 2) dNil))))) T_LateGauge_init_2)

theorem pure_LateGauge_init : Pure N_LateGauge_init 5 S_LateGauge_init T_LateGauge_init := by
  rintro ds O P E ⟨q, nd, r, la, pa, c, rfl, hn, hc, gq, k, kx⟩
  refine ⟨rfl, Opn.now ?_⟩
  have hs : startD N_LateGauge_init [.ptr q, nd, .int r, .int la, .int pa] = [some (.ptr q), some nd, some (.int r), some (.int la), some (.int pa)] := rfl
  rw [hs]
  have gx : ∀ z, getC (setC O q z) q = some z := fun z => getC_setC gq
  have hc1 : c ∈ gaugeCs := by rcases hc with rfl | rfl <;> decide
  have hc2 : c ∈ [Cl.LateGauge, Cl.LateCoarseGauge] := by rcases hc with rfl | rfl <;> decide
  unfold T_LateGauge_init
  push_cast
  refine ⟨q, nd, r, c, rfl, hn, hc1, gq, fun hv => ?_, fun hv => ?_⟩
  · unfold T_LateGauge_init_2
    push_cast
    by_cases h1 : la < 0
    · rw [if_pos h1]
      push_cast
      exact ⟨by decide, weak_now (kx (by omega) _)⟩
    · rw [if_neg h1]
      by_cases h2 : pa < 0
      · rw [if_pos h2]
        push_cast
        exact ⟨by decide, weak_now (kx (by omega) _)⟩
      · rw [if_neg h2]
        unfold T_LateGauge_init_1
        push_cast [gx, setC_setC]
        refine ⟨hc2, by decide, ?_⟩
        unfold T_LateGauge_init_0
        push_cast [gx, setC_setC]
        exact ⟨hc2, by decide, weak_now (k ⟨hv.1, hv.2, by omega, by omega⟩)⟩
  · have := kx (fun z => hv ⟨z.1, z.2.1⟩) (.ins c [] [])
    rw [setC_same gq] at this
    exact weak_now this
def S_LateCoarseGauge_init : DSp := fun ds O P E => ∃ (q : Addr) (nd : D) (r st la pa : Int), ds = [.ptr q, nd, .int r, .int st, .int la, .int pa] ∧ nameLike nd ∧ getC O q = some (.ins .LateCoarseGauge [] []) ∧ (validD nd = true ∧ 0 ≤ r ∧ 0 ≤ la ∧ 0 ≤ pa ∧ 1 ≤ st → P .non (setC O q (.ins .LateCoarseGauge [.name, .radius, .late, .pace, .step] [nd, .int r, .int la, .int pa, .int st]))) ∧ (¬ (validD nd = true ∧ 0 ≤ r ∧ 0 ≤ la ∧ 0 ≤ pa ∧ 1 ≤ st) → ∀ z, E ⟨.BadGauge, [.name], [nd]⟩ (setC O q z))
def N_LateCoarseGauge_init : List Str := ["self", "name", "radius", "step", "late", "pace"]
def T_LateCoarseGauge_init_0 : DS := (dSetF [.CoarseGauge, .LateCoarseGauge] .step (dVar 0) (dVar 3))
def T_LateCoarseGauge_init_1 : DS := (dSeq (dIfS (dTe (dOp fLt (dVar 3) (dC (.int 1)))) (dRaise .BadGauge [.name] (dCons (dVar 1) dNil)) dNext) T_LateCoarseGauge_init_0)
def T_LateCoarseGauge_init : DS := (dSeq (dExp (dCallK 3 2 [0, 1] S_LateGauge_init (dCons (dVar 0) (dCons (dVar 1) (dCons (dVar 2) dNil))) (dCons (dVar 4) (dCons (dVar 5) dNil)))) T_LateCoarseGauge_init_1)

theorem pure_LateCoarseGauge_init : Pure N_LateCoarseGauge_init 6 S_LateCoarseGauge_init T_LateCoarseGauge_init := by
  rintro ds O P E ⟨q, nd, r, st, la, pa, rfl, hn, gq, k, kx⟩
  refine ⟨rfl, Opn.now ?_⟩
  have hs : startD N_LateCoarseGauge_init [.ptr q, nd, .int r, .int st, .int la, .int pa] = [some (.ptr q), some nd, some (.int r), some (.int st), some (.int la), some (.int pa)] := rfl
  rw [hs]
  have gx : ∀ z, getC (setC O q z) q = some z := fun z => getC_setC gq
  unfold T_LateCoarseGauge_init
  push_cast
  refine ⟨q, nd, r, la, pa, .LateCoarseGauge, rfl, hn, .inr rfl, gq, fun hv => ?_, fun hv z => ⟨_, Weak.refl _, kx (fun w => hv ⟨w.1, w.2.1, w.2.2.1, w.2.2.2.1⟩) z⟩⟩
  unfold T_LateCoarseGauge_init_1
  push_cast
  by_cases h1 : st < 1
  · rw [if_pos h1]
    push_cast
    exact ⟨by decide, weak_now (kx (by omega) _)⟩
  · rw [if_neg h1]
    unfold T_LateCoarseGauge_init_0
    push_cast [gx, setC_setC]
    exact ⟨by decide, by decide, weak_now (k ⟨hv.1, hv.2.1, hv.2.2.1, hv.2.2.2, by omega⟩)⟩
def S_law_specs : DSp := fun ds O P E => ∃ (b : Addr) (ws : List Str), ds = [.ptr b, .lst (ws.map D.str)] ∧ getC O b = some .box ∧ ws.length ≤ 100 ∧ (∀ w ∈ ws, okN w) ∧ ∀ gs : List Gs, gs.map (·.name) = ws → (∀ s ∈ gs, okG s ∧ s.late ≤ 2 ∧ s.radius ≤ 10 ^ 8 ∧ s.step ≤ 10 ^ 8 ∧ s.pace ≤ 10 ^ 8) → P (.lst (gs.map specD)) O
def N_law_specs : List Str := ["_law_box_here", "_law_words_here", "_law_unit", "_law_wide", "_law_specs_here", "_law_word_here", "_law_sort", "_law_grain", "_law_drift"]
def T_law_specs_0 : DS := (dExp (dApp (dVar 4) (dTup (dCons (dVar 5) (dCons (dVar 6) (dCons (dOp fMul (dVar 2) (dCall S_law_take (dCons (dVar 0) (dCons (dVar 3) dNil)))) (dCons (dVar 7) (dCons (dCall S_law_take (dCons (dVar 0) (dCons (dC (.int 3)) dNil))) (dCons (dVar 8) dNil)))))))))
def T_law_specs_1 : DS := (dSeq (dAsg 8 (dOp fMul (dVar 2) (dCall S_law_take (dCons (dVar 0) (dCons (dVar 3) dNil))))) T_law_specs_0)
def T_law_specs_2 : DS := (dSeq (dAsg 7 (dOp fAdd (dC (.int 1)) (dOp fMul (dVar 2) (dCall S_law_take (dCons (dVar 0) (dCons (dVar 3) dNil)))))) T_law_specs_1)
def T_law_specs_3 : DS := (dSeq (dAsg 6 (dOp fIx (dLst (dCons (dC (.int 0)) (dCons (dC (.int 0)) (dCons (dC (.int 1)) (dCons (dC (.int 2)) (dCons (dC (.int 3)) dNil)))))) (dCall S_law_take (dCons (dVar 0) (dCons (dC (.int 5)) dNil))))) T_law_specs_2)
def T_law_specs_4 : DS := (dSeq (dFor (dItL (dVar 1)) (dgN 5) T_law_specs_3) (dRet (dFrz (dVar 4))))
def T_law_specs_5 : DS := (dSeq (dAsg 3 (dOp fIx (dLst (dCons (dC (.int 1)) (dCons (dC (.int 4)) (dCons (dC (.int 30)) dNil)))) (dCall S_law_take (dCons (dVar 0) (dCons (dC (.int 3)) dNil))))) (dSeq (dAsg 4 (dLstO dNil)) T_law_specs_4))
def T_law_specs : DS := (dSeq (dAsg 2 (dOp fIx (dLst (dCons (dC (.int 1)) (dCons (dC (.int 1)) (dCons (dC (.int 1)) (dCons (dOp fPow (dC (.int 10)) (dC (.int 6))) dNil))))) (dCall S_law_take (dCons (dVar 0) (dCons (dC (.int 4)) dNil))))) T_law_specs_5)

theorem five {a b c d e : D} {O : Sto} {P : KD} {r : Int} (h0 : 0 ≤ r) (h5 : r < 5) (ha : P a O) (hb : P b O) (hc : P c O) (hd : P d O) (he : P e O) : (match atI [a, b, c, d, e] r with | some d => P d O | none => False) := by
  have e : r = 0 ∨ r = 1 ∨ r = 2 ∨ r = 3 ∨ r = 4 := by omega
  rcases e with rfl | rfl | rfl | rfl | rfl
  · exact ha
  · exact hb
  · exact hc
  · exact hd
  · exact he
theorem three {a b c : D} {O : Sto} {P : KD} {r : Int} (h0 : 0 ≤ r) (h5 : r < 3) (ha : P a O) (hb : P b O) (hc : P c O) : (match atI [a, b, c] r with | some d => P d O | none => False) := by
  have e : r = 0 ∨ r = 1 ∨ r = 2 := by omega
  rcases e with rfl | rfl | rfl
  · exact ha
  · exact hb
  · exact hc
theorem pure_law_specs : Pure N_law_specs 2 S_law_specs T_law_specs := by
  rintro ds O P E ⟨b, ws, rfl, hb, hl, hok, k⟩
  refine ⟨rfl, Opn.now ?_⟩
  have hs : startD N_law_specs [.ptr b, .lst (ws.map D.str)] = [some (.ptr b), some (.lst (ws.map D.str)), none, none, none, none, none, none, none] := rfl
  rw [hs]
  unfold T_law_specs
  push_cast
  refine ⟨⟨by omega, by omega, by decide⟩, b, _, rfl, hb, by omega, by omega, fun r h0 h1 => ?_⟩
  push_cast
  have e6 : (10 : Int) ^ Int.toNat 6 = 1000000 := by decide
  rw [e6]
  have main : ∀ u : Int, 1 ≤ u → u ≤ 1000000 → T_law_specs_5 (endsD P E) [some (.ptr b), some (.lst (ws.map D.str)), some (.int u), none, none, none, none, none, none] O := by
    intro u u1 u2
    unfold T_law_specs_5
    push_cast
    refine ⟨b, _, rfl, hb, by omega, by omega, fun r h0 h1 => ?_⟩
    push_cast
    have main2 : ∀ wd : Int, 1 ≤ wd → wd ≤ 30 → ∀ p, freshC O p → T_law_specs_4 (endsD P E) [some (.ptr b), some (.lst (ws.map D.str)), some (.int u), some (.int wd), some (.ptr p), none, none, none, none] ((p, Cell.lst []) :: O) := by
      intro wd w1 w2 p hp
      have gb : ∀ c, getC ((p, c) :: O) b = some .box := fun c => getC_fresh hb hp
      have hmul : ∀ v : Int, 0 ≤ v → v < wd → 0 ≤ u * v ∧ u * v ≤ 30000000 := fun v v0 v1 => by
        refine ⟨Int.mul_nonneg (by omega) v0, ?_⟩
        have := Int.mul_le_mul u2 (show v ≤ 30 by omega) v0 (show (0 : Int) ≤ 1000000 by omega)
        omega
      unfold T_law_specs_4
      push_cast
      refine for_inv2 (emb := D.str) (I := fun l Δ O1 => ∃ (gs : List Gs) (z5 z6 z7 z8 : Option D), gs.map (·.name) = l ∧ (∀ s ∈ gs, okG s ∧ s.late ≤ 2 ∧ s.radius ≤ 10 ^ 8 ∧ s.step ≤ 10 ^ 8 ∧ s.pace ≤ 10 ^ 8) ∧ O1 = (p, .lst (gs.map specD)) :: O ∧ Δ = [some (.ptr b), some (.lst (ws.map D.str)), some (.int u), some (.int wd), some (.ptr p), z5, z6, z7, z8]) ⟨[], none, none, none, none, rfl, (by intro s hs; cases hs), rfl, rfl⟩ ?_ ?_
      · rintro Δ O1 ⟨gs, z5, z6, z7, z8, hn, hg, rfl, rfl⟩
        push_cast
        exact weak_now (k gs hn hg)
      · rintro l x r' e Δ O1 K ⟨gs, z5, z6, z7, z8, hn, hg, rfl, rfl⟩ hK
        have hll : gs.length ≤ ws.length := by
          have := congrArg List.length hn
          rw [List.length_map] at this
          rw [this, e]; simp
        have hx : okN x := hok x (by rw [e]; simp)
        push_cast
        unfold T_law_specs_3
        push_cast
        refine ⟨b, _, rfl, gb _, by omega, by omega, fun r2 h20 h21 => ?_⟩
        push_cast
        have main3 : ∀ so : Nat, so ≤ 3 → T_law_specs_2 { endsD P E with nx := K, ct := K, bk := (fun Δ' O' => (dRet (dFrz (dVar 4))) (endsD P E) Δ' O') } [some (.ptr b), some (.lst (ws.map D.str)), some (.int u), some (.int wd), some (.ptr p), some (.str x), some (.int (so : Int)), z7, z8] ((p, .lst (gs.map specD)) :: O) := by
          intro so hso
          unfold T_law_specs_2
          push_cast
          refine ⟨b, _, rfl, gb _, by omega, by omega, fun v1 a0 a1 => ?_⟩
          obtain ⟨q0, q1⟩ := hmul v1 a0 a1
          push_cast
          refine ⟨.inl ⟨by omega, by omega⟩, ?_⟩
          unfold T_law_specs_1
          push_cast
          refine ⟨b, _, rfl, gb _, by omega, by omega, fun v2 b0 b1 => ?_⟩
          obtain ⟨q2, q3⟩ := hmul v2 b0 b1
          push_cast
          refine ⟨.inl ⟨by omega, by omega⟩, ?_⟩
          unfold T_law_specs_0
          push_cast
          refine ⟨b, _, rfl, gb _, by omega, by omega, fun v3 c0 c1 => ?_⟩
          obtain ⟨q4, q5⟩ := hmul v3 c0 c1
          push_cast
          refine ⟨.inl ⟨by omega, by omega⟩, b, _, rfl, gb _, by omega, by omega, fun v4 d0 d1 => ?_⟩
          push_cast
          refine ⟨by rw [sizeLine_eq]; omega, hK _ _ ⟨gs ++ [⟨x, so, u * v3, 1 + u * v1, v4, u * v2⟩], _, _, _, _, by rw [List.map_append, hn]; rfl, ?_, ?_, rfl⟩⟩
          · intro s hs
            rcases List.mem_append.mp hs with hs | hs
            · exact hg s hs
            · rw [List.mem_singleton.mp hs]
              exact ⟨⟨hx, hso, q4, by show 1 ≤ 1 + u * v1; omega, d0, q2, by show v4 < 2 ^ 64; omega⟩, by show v4 ≤ 2; omega, by show u * v3 ≤ 10 ^ 8; omega, by show 1 + u * v1 ≤ 10 ^ 8; omega, by show u * v2 ≤ 10 ^ 8; omega⟩
          · rw [List.map_append]; rfl
        exact five (P := fun d O => T_law_specs_2 { endsD P E with nx := K, ct := K, bk := (fun Δ' O' => (dRet (dFrz (dVar 4))) (endsD P E) Δ' O') } [some (.ptr b), some (.lst (ws.map D.str)), some (.int u), some (.int wd), some (.ptr p), some (.str x), some d, z7, z8] O) h20 h21 (main3 0 (by omega)) (main3 0 (by omega)) (main3 1 (by omega)) (main3 2 (by omega)) (main3 3 (by omega))
    exact three (P := fun d O => ∀ p, freshC O p → T_law_specs_4 (endsD P E) [some (.ptr b), some (.lst (ws.map D.str)), some (.int u), some d, some (.ptr p), none, none, none, none] ((p, Cell.lst []) :: O)) h0 h1 (main2 1 (by omega) (by omega)) (main2 4 (by omega) (by omega)) (main2 30 (by omega) (by omega))
  exact four (P := fun d O => T_law_specs_5 (endsD P E) [some (.ptr b), some (.lst (ws.map D.str)), some d, none, none, none, none, none, none] O) h0 h1 (main _ (by omega) (by omega)) (main _ (by omega) (by omega)) (main _ (by omega) (by omega)) (main _ (by omega) (by omega))
theorem ix0 {s : Gs} {O : Sto} {P : KD} : fIx (specD s) (.int 0) O P = P (.str s.name) O := propext Iff.rfl
theorem ix1 {s : Gs} {O : Sto} {P : KD} : fIx (specD s) (.int 1) O P = P (.int (s.sort : Int)) O := propext Iff.rfl
theorem ix2 {s : Gs} {O : Sto} {P : KD} : fIx (specD s) (.int 2) O P = P (.int s.radius) O := propext Iff.rfl
theorem ix3 {s : Gs} {O : Sto} {P : KD} : fIx (specD s) (.int 3) O P = P (.int s.step) O := propext Iff.rfl
theorem ix4 {s : Gs} {O : Sto} {P : KD} : fIx (specD s) (.int 4) O P = P (.int s.late) O := propext Iff.rfl
theorem ix5 {s : Gs} {O : Sto} {P : KD} : fIx (specD s) (.int 5) O P = P (.int s.pace) O := propext Iff.rfl
theorem f_intB {b : Bool} {O : Sto} {P : KD} : fInt [.bl b] O P = P (.int (if b then 1 else 0)) O := propext Iff.rfl
def S_law_gauge : DSp := fun ds O P E => ∃ s : Gs, ds = [specD s] ∧ okG s ∧ P (gaugeD s) O
def N_law_gauge : List Str := ["_law_spec"]
def T_law_gauge_0 : DS := (dRet (dMakeKw .CoarseGauge 2 1 [0] S_CoarseGauge_init (dCons (dOp fIx (dVar 0) (dC (.int 0))) (dCons (dOp fIx (dVar 0) (dC (.int 2))) dNil)) (dCons (dOp fIx (dVar 0) (dC (.int 3))) dNil)))
def T_law_gauge_1 : DS := (dRet (dMakeKw .LateGauge 2 2 [0, 1] S_LateGauge_init (dCons (dOp fIx (dVar 0) (dC (.int 0))) (dCons (dOp fIx (dVar 0) (dC (.int 2))) dNil)) (dCons (dOp fIx (dVar 0) (dC (.int 4))) (dCons (dOp fIx (dVar 0) (dC (.int 5))) dNil))))
def T_law_gauge_2 : DS := (dRet (dMakeKw .LateCoarseGauge 2 3 [1, 2, 0] S_LateCoarseGauge_init (dCons (dOp fIx (dVar 0) (dC (.int 0))) (dCons (dOp fIx (dVar 0) (dC (.int 2))) dNil)) (dCons (dOp fIx (dVar 0) (dC (.int 5))) (dCons (dOp fIx (dVar 0) (dC (.int 3))) (dCons (dOp fIx (dVar 0) (dC (.int 4))) dNil)))))
def T_law_gauge_3 : DS := (dRet (dMake .Gauge S_Gauge_init (dCons (dOp fIx (dVar 0) (dC (.int 0))) (dCons (dOp fIx (dVar 0) (dC (.int 2))) dNil))))
def T_law_gauge_4 : DS := (dSeq (dIfS (dTe (dOp fEq (dOp fIx (dVar 0) (dC (.int 1))) (dC (.int 3)))) T_law_gauge_2 dNext) T_law_gauge_3)
def T_law_gauge_5 : DS := (dSeq (dIfS (dTe (dOp fEq (dOp fIx (dVar 0) (dC (.int 1))) (dC (.int 2)))) T_law_gauge_1 dNext) T_law_gauge_4)
def T_law_gauge : DS := (dSeq (dIfS (dTe (dOp fEq (dOp fIx (dVar 0) (dC (.int 1))) (dC (.int 1)))) T_law_gauge_0 dNext) T_law_gauge_5)

theorem mk_gauge {s : Gs} (h : okG s) (e : s.sort = 0) {O : Sto} {P : KD} {E : KX} (k : P (gaugeD s) O) : mkK .Gauge S_Gauge_init [.str s.name, .int s.radius] O P E := by
  intro q hq
  refine ⟨q, .str s.name, s.radius, .Gauge, rfl, nameLike_ok h.nm, by decide, getC_self, fun _ => ⟨rfl, ?_⟩, fun w => absurd ⟨valid_ok h.nm, h.ra⟩ w⟩
  rw [setC_self, getC_self, delC_self]
  simp only [gaugeD, clG, fsG, dsG, e] at k
  exact k
theorem mk_coarse {s : Gs} (h : okG s) (e : s.sort = 1) {O : Sto} {P : KD} {E : KX} (k : P (gaugeD s) O) : mkK .CoarseGauge S_CoarseGauge_init [.str s.name, .int s.radius, .int s.step] O P E := by
  intro q hq
  refine ⟨q, .str s.name, s.radius, s.step, rfl, nameLike_ok h.nm, getC_self, fun _ => ⟨rfl, ?_⟩, fun w => absurd ⟨valid_ok h.nm, h.ra, h.st⟩ w⟩
  rw [setC_self, getC_self, delC_self]
  simp only [gaugeD, clG, fsG, dsG, e] at k
  exact k
theorem mk_late {s : Gs} (h : okG s) (e : s.sort = 2) {O : Sto} {P : KD} {E : KX} (k : P (gaugeD s) O) : mkK .LateGauge S_LateGauge_init [.str s.name, .int s.radius, .int s.late, .int s.pace] O P E := by
  intro q hq
  refine ⟨q, .str s.name, s.radius, s.late, s.pace, .LateGauge, rfl, nameLike_ok h.nm, .inl rfl, getC_self, fun _ => ⟨rfl, ?_⟩, fun w => absurd ⟨valid_ok h.nm, h.ra, h.la, h.pa⟩ w⟩
  rw [setC_self, getC_self, delC_self]
  simp only [gaugeD, clG, fsG, dsG, e] at k
  exact k
theorem mk_lateCoarse {s : Gs} (h : okG s) (e : s.sort = 3) {O : Sto} {P : KD} {E : KX} (k : P (gaugeD s) O) : mkK .LateCoarseGauge S_LateCoarseGauge_init [.str s.name, .int s.radius, .int s.step, .int s.late, .int s.pace] O P E := by
  intro q hq
  refine ⟨q, .str s.name, s.radius, s.step, s.late, s.pace, rfl, nameLike_ok h.nm, getC_self, fun _ => ⟨rfl, ?_⟩, fun w => absurd ⟨valid_ok h.nm, h.ra, h.la, h.pa, h.st⟩ w⟩
  rw [setC_self, getC_self, delC_self]
  simp only [gaugeD, clG, fsG, dsG, e] at k
  exact k
theorem pure_law_gauge : Pure N_law_gauge 1 S_law_gauge T_law_gauge := by
  rintro ds O P E ⟨s, rfl, ok, k⟩
  refine ⟨rfl, Opn.now ?_⟩
  have hs : startD N_law_gauge [specD s] = [some (specD s)] := rfl
  rw [hs]
  unfold T_law_gauge
  push_cast [ix1]
  rcases sort4 ok with e | e | e | e
  · rw [if_neg (by omega)]
    unfold T_law_gauge_5
    push_cast [ix1]
    rw [if_neg (by omega)]
    unfold T_law_gauge_4
    push_cast [ix1]
    rw [if_neg (by omega)]
    unfold T_law_gauge_3
    push_cast [ix0, ix2]
    exact mk_gauge ok e (weak_now k)
  · rw [if_pos (by omega)]
    unfold T_law_gauge_0
    push_cast [ix0, ix2, ix3]
    exact mk_coarse ok e (weak_now k)
  · rw [if_neg (by omega)]
    unfold T_law_gauge_5
    push_cast [ix1]
    rw [if_pos (by omega)]
    unfold T_law_gauge_1
    push_cast [ix0, ix2, ix4, ix5]
    exact mk_late ok e (weak_now k)
  · rw [if_neg (by omega)]
    unfold T_law_gauge_5
    push_cast [ix1]
    rw [if_neg (by omega)]
    unfold T_law_gauge_4
    push_cast [ix1]
    rw [if_pos (by omega)]
    unfold T_law_gauge_2
    push_cast [ix0, ix2, ix3, ix4, ix5]
    exact mk_lateCoarse ok e (weak_now k)
/-- the names of gauges -/
def nmG (gs : List Gs) : List Str := gs.map (·.name)
def dicG (gs : List Gs) : D := .dic ((nmG gs).map Sum.inr) (gs.map gaugeD)
def grpD (gr : List (List Str)) : D := .lst (gr.map fun g => .lst (g.map D.str))
def togD (gr : List (List Str)) : D := .tup (gr.map fun g => .tup (g.map D.str))
def rackD (gs : List Gs) (gr : List (List Str)) : D := .obj .Rack [.gauges, .groups] [dicG gs, grpD gr]
/-- the first name that comes again -/
def firstDup : List Str → List Str → Option Str
  | _, [] => none
  | seen, n :: r => if n ∈ seen then some n else firstDup (seen ++ [n]) r
/-- the names of the groups, in their order: one that is unknown, or comes again -/
def useW (names : List Str) : List Str → List Str → Option (Ec × Str)
  | _, [] => none
  | used, n :: r => if n ∉ names then some (.UnknownGauge, n) else if n ∈ used then some (.DuplicateGauge, n) else useW names (used ++ [n]) r
def groupOf (names : List Str) (tg : List (List Str)) (n : Str) : List Str := tg.foldl (fun g f => if n ∈ f then names.filter (fun o => decide (o ∈ f)) else g) [n]
def groupsW (names : List Str) (tg : List (List Str)) : List (List Str) × List Str → List Str → List (List Str) × List Str
  | gp, [] => gp
  | gp, n :: r => groupsW names tg (if n ∈ gp.2 then gp else (gp.1 ++ [groupOf names tg n], gp.2 ++ groupOf names tg n)) r
def groupsR (names : List Str) (tg : List (List Str)) : List (List Str) := (groupsW names tg ([], []) names).1
theorem getK_nm {gs : List Gs} {n : Str} : (getK (.inr n) ((nmG gs).map Sum.inr) (gs.map gaugeD)).isSome = decide (n ∈ nmG gs) := by
  induction gs with
  | nil => simp [nmG, getK]
  | cons g gs ih =>
    unfold nmG at ih ⊢
    simp only [List.map_cons, getK]
    by_cases c : g.name = n
    · rw [if_pos (by rw [c])]
      simp [c]
    · have c' : ¬ (Sum.inr g.name : Key) = Sum.inr n := fun e => c (Sum.inr.inj e)
      have c2 : ¬ n = g.name := fun e => c e.symm
      rw [if_neg c', ih]
      simp only [List.mem_cons, c2, false_or]
theorem getK_at {gs : List Gs} {n : Str} (h : n ∈ nmG gs) : ∃ s ∈ gs, s.name = n ∧ getK (.inr n) ((nmG gs).map Sum.inr) (gs.map gaugeD) = some (gaugeD s) := by
  induction gs with
  | nil => simp [nmG] at h
  | cons g gs ih =>
    unfold nmG at ih h ⊢
    simp only [List.map_cons, getK]
    by_cases c : g.name = n
    · exact ⟨g, List.mem_cons_self, c, by rw [if_pos (by rw [c])]⟩
    · have c' : ¬ (Sum.inr g.name : Key) = Sum.inr n := fun e => c (Sum.inr.inj e)
      rw [List.map_cons, List.mem_cons] at h
      obtain ⟨s, h1, h2, h3⟩ := ih (h.resolve_left fun e => c e.symm)
      exact ⟨s, List.mem_cons_of_mem _ h1, h2, by rw [if_neg c']; exact h3⟩
theorem putK_nm {gs : List Gs} {n : Str} {d : D} (h : n ∉ nmG gs) : putKs (.inr n) ((nmG gs).map Sum.inr) = (nmG gs ++ [n]).map Sum.inr ∧ putKd (.inr n) d ((nmG gs).map Sum.inr) (gs.map gaugeD) = gs.map gaugeD ++ [d] := by
  induction gs with
  | nil => exact ⟨rfl, rfl⟩
  | cons g gs ih =>
    unfold nmG at ih h ⊢
    rw [List.map_cons] at h
    obtain ⟨h1, h2⟩ := ih fun q => h (List.mem_cons_of_mem _ q)
    have ne : ¬ (Sum.inr g.name : Key) = Sum.inr n := fun q => h (by rw [← Sum.inr.inj q]; exact List.mem_cons_self)
    simp only [List.map_cons, putKs, putKd, if_neg ne, List.cons_append]
    exact ⟨by rw [h1], by rw [h2]⟩
theorem firstDup_nd : ∀ (seen l : List Str), firstDup seen l = none → l.Nodup ∧ ∀ x ∈ l, x ∉ seen
  | _, [], _ => ⟨List.nodup_nil, fun x hx => by cases hx⟩
  | seen, n :: r, h => by
    simp only [firstDup] at h
    split at h
    · cases h
    · rename_i hn
      obtain ⟨h1, h2⟩ := firstDup_nd _ _ h
      refine ⟨List.nodup_cons.mpr ⟨fun q => h2 n q (by simp), h1⟩, fun x hx => ?_⟩
      rcases List.mem_cons.mp hx with rfl | hx
      · exact hn
      · exact fun q => h2 x hx (by simp [q])
theorem firstDup_mid : ∀ (seen l : List Str) (n : Str) (r : List Str), firstDup seen l = none → n ∈ seen ++ l → firstDup seen (l ++ n :: r) = some n
  | seen, [], n, r, _, h => by
    have h' : n ∈ seen := by simpa using h
    simp only [List.nil_append, firstDup, if_pos h']
  | seen, a :: l, n, r, h0, h => by
    simp only [firstDup] at h0
    simp only [List.cons_append, firstDup]
    split at h0
    · cases h0
    · rename_i ha
      rw [if_neg ha]
      exact firstDup_mid (seen ++ [a]) l n r h0 (by simpa using h)
theorem useW_mid (names : List Str) : ∀ (used l : List Str) (n : Str) (r : List Str) (x : Ec × Str), useW names used l = none → useW names (used ++ l) [n] = some x → useW names used (l ++ n :: r) = some x
  | used, [], n, r, x, _, h => by
    simp only [List.append_nil, useW] at h
    simp only [List.nil_append, useW]
    split at h
    · rename_i c; rw [if_pos c]; exact h
    · rename_i c
      rw [if_neg c]
      split at h
      · rename_i c2; rw [if_pos c2]; exact h
      · cases h
  | used, a :: l, n, r, x, h0, h => by
    simp only [useW] at h0
    simp only [List.cons_append, useW]
    split at h0
    · cases h0
    · rename_i c
      rw [if_neg c]
      split at h0
      · cases h0
      · rename_i c2
        rw [if_neg c2]
        exact useW_mid names (used ++ [a]) l n r x h0 (by simpa using h)
theorem firstDup_app : ∀ (seen l : List Str) (n : Str), firstDup seen (l ++ [n]) = (match firstDup seen l with | some m => some m | none => if n ∈ seen ++ l then some n else none)
  | seen, [], n => by simp [firstDup]
  | seen, a :: l, n => by
    simp only [List.cons_append, firstDup]
    split
    · rfl
    · rw [firstDup_app (seen ++ [a]) l n]
      simp
theorem useW_app (names : List Str) : ∀ (used l : List Str) (n : Str), useW names used (l ++ [n]) = (match useW names used l with | some m => some m | none => if n ∉ names then some (.UnknownGauge, n) else if n ∈ used ++ l then some (.DuplicateGauge, n) else none)
  | used, [], n => by simp [useW]
  | used, a :: l, n => by
    simp only [List.cons_append, useW]
    split
    · rfl
    · split
      · rfl
      · rw [useW_app names (used ++ [a]) l n]
        simp
theorem foldl_le {α : Type} {m : Nat} (f : List Str → α → List Str) (hf : ∀ g a, g.length ≤ m → (f g a).length ≤ m) : ∀ (l : List α) (g : List Str), g.length ≤ m → (l.foldl f g).length ≤ m
  | [], g, h => h
  | a :: l, g, h => foldl_le f hf l _ (hf g a h)
theorem groupOf_le (names : List Str) (tg : List (List Str)) (n : Str) : (groupOf names tg n).length ≤ names.length + 1 := by
  unfold groupOf
  refine foldl_le _ (fun g a h => ?_) tg [n] (by simp)
  split
  · have := List.length_filter_le (fun o => decide (o ∈ a)) names
    omega
  · exact h
theorem groupsW_le (names : List Str) (tg : List (List Str)) : ∀ (gp : List (List Str) × List Str) (l : List Str), (groupsW names tg gp l).1.length ≤ gp.1.length + l.length ∧ (groupsW names tg gp l).2.length ≤ gp.2.length + l.length * (names.length + 1)
  | gp, [] => by simp [groupsW]
  | gp, n :: r => by
    simp only [groupsW]
    have h := groupsW_le names tg (if n ∈ gp.2 then gp else (gp.1 ++ [groupOf names tg n], gp.2 ++ groupOf names tg n)) r
    have hg := groupOf_le names tg n
    have e : (r.length + 1) * (names.length + 1) = r.length * (names.length + 1) + (names.length + 1) := by rw [Nat.add_mul, Nat.one_mul]
    by_cases c : n ∈ gp.2
    · rw [if_pos c] at h ⊢
      simp only [List.length_cons]
      omega
    · rw [if_neg c] at h ⊢
      simp only [List.length_append, List.length_singleton, List.length_cons, List.length_nil] at h ⊢
      omega
theorem groupsW_app (names : List Str) (tg : List (List Str)) : ∀ (gp : List (List Str) × List Str) (l : List Str) (n : Str), groupsW names tg gp (l ++ [n]) = groupsW names tg (groupsW names tg gp l) [n]
  | gp, [], n => rfl
  | gp, a :: l, n => by
    simp only [List.cons_append, groupsW]
    rw [groupsW_app names tg _ l n]
    rfl
theorem filt_strs (f : List Str) : ∀ names : List Str, names.filterMap (fun o => if o ∈ f then some (D.str o) else none) = (names.filter fun o => decide (o ∈ f)).map D.str
  | [] => rfl
  | a :: as => by
    simp only [List.filterMap_cons, List.filter_cons]
    by_cases c5 : a ∈ f
    · simp only [c5, if_true, decide_true, List.map_cons, filt_strs f as]
    · simp only [c5, if_false, decide_false, Bool.false_eq_true, filt_strs f as]
theorem firstDup_ok : ∀ (seen l : List Str), l.Nodup → (∀ x ∈ l, x ∉ seen) → firstDup seen l = none
  | _, [], _, _ => rfl
  | seen, n :: r, h, h2 => by
    simp only [firstDup]
    rw [if_neg (h2 n List.mem_cons_self)]
    rw [List.nodup_cons] at h
    refine firstDup_ok _ r h.2 fun x hx hm => ?_
    rcases List.mem_append.mp hm with hm | hm
    · exact h2 x (List.mem_cons_of_mem _ hx) hm
    · rw [List.mem_singleton.mp hm] at hx; exact h.1 hx
theorem nd_none {l : List Str} (h : l.Nodup) : firstDup [] l = none := firstDup_ok [] l h fun _ _ z => by cases z
theorem firstDup_ins {l r : List Str} {n : Str} (h : (l ++ r).Nodup) (hn : n ∈ l ++ r) : firstDup [] (l ++ n :: r) = some n := by
  by_cases c : n ∈ l
  · exact firstDup_mid [] l n r (nd_none (List.nodup_append.mp h).1) (by simpa using c)
  · obtain ⟨r1, r2, rfl⟩ := List.append_of_mem ((List.mem_append.mp hn).resolve_left c)
    have e : l ++ n :: (r1 ++ n :: r2) = (l ++ n :: r1) ++ n :: r2 := by simp
    rw [e]
    refine firstDup_mid [] _ n r2 (nd_none ?_) (by simp)
    have hp : (l ++ (r1 ++ n :: r2)).Perm ((l ++ n :: r1) ++ r2) := by
      rw [List.append_assoc]
      exact List.Perm.append_left l (by simpa using List.perm_middle)
    exact (List.nodup_append.mp (hp.nodup_iff.mp h)).1
theorem cut_take {α : Type} {f : α → D} {l : List α} {k : Nat} (h : k ≤ l.length) : cutD (l.map f) none (some (k : Int)) = (l.take k).map f := by
  unfold cutD
  rw [HT.sIx_none, HT.sIx_nat, List.length_map, Nat.min_eq_left h, List.drop_zero, Nat.sub_zero, List.map_take]
theorem cut_take' {α : Type} {f : α → D} {l : List α} {k : Nat} : cutD (l.map f) none (some (k : Int)) = (l.take k).map f := by
  unfold cutD
  rw [HT.sIx_none, HT.sIx_nat, List.length_map, List.drop_zero, Nat.sub_zero, List.map_take]
  rcases Nat.le_total k l.length with h | h
  · rw [Nat.min_eq_left h]
  · rw [Nat.min_eq_right h, List.take_of_length_le (by simp), List.take_of_length_le (by simpa using h)]
theorem cut_drop {α : Type} {f : α → D} {l : List α} {k : Nat} (h : k ≤ l.length) : cutD (l.map f) (some (k : Int)) none = (l.drop k).map f := by
  unfold cutD
  rw [HT.sIx_none, HT.sIx_nat, List.length_map, Nat.min_eq_left h, List.map_drop]
  exact List.take_of_length_le (by simp)
theorem gs_uniq {gs : List Gs} (nd : (nmG gs).Nodup) {a b : Gs} (ha : a ∈ gs) (hb : b ∈ gs) (e : a.name = b.name) : a = b := by
  induction gs with
  | nil => cases ha
  | cons g gs ih =>
    unfold nmG at nd ih
    rw [List.map_cons, List.nodup_cons] at nd
    rcases List.mem_cons.mp ha with h1 | h1
    · rcases List.mem_cons.mp hb with h2 | h2
      · rw [h1, h2]
      · exact absurd (List.mem_map.mpr ⟨b, h2, by rw [← e, h1]⟩) nd.1
    · rcases List.mem_cons.mp hb with h2 | h2
      · exact absurd (List.mem_map.mpr ⟨a, h1, by rw [e, h2]⟩) nd.1
      · exact ih nd.2 h1 h2
theorem strok_iff {z : Str} : PyData.strOk z = true ↔ ∀ c ∈ z.cps.toList, c < 0x110000 := by
  unfold PyData.strOk
  rw [← Array.all_toList, List.all_eq_true]
  simp
theorem ok_word {z : Str} (h : okN z) : PyData.strOk z = true := by
  obtain ⟨l, rfl, _, _, h3⟩ := h.ex
  rw [strok_iff]
  intro c hc
  have := h3 c (by simpa using hc)
  omega
theorem eq_ans {z : Str} {a b : Bool} (h : PyData.strOk z = true) : eqB (.lst [.str z, .bl a, .bl b]) (.lst [.str z, .bl a, .bl b]) = some true := by
  cases a <;> cases b <;> simp [eqB, py, pys, SeqAt.shaped, PyData.canLay0, PyData.depth, PyData.eqvAll, PyData.eqv, PyData.canLayAll0, PyData.depthAll, h]
def S_Rack_init : DSp := fun ds O P E => ∃ (q : Addr) (tg : List (List Str)) (gs : List Gs), ds = [.ptr q, togD tg, .tup (gs.map gaugeD)] ∧ getC O q = some (.ins .Rack [] []) ∧ gs.length ≤ 1000 ∧ tg.length ≤ 1000 ∧ (∀ g ∈ tg, g.length ≤ 1000) ∧
  (∀ n, firstDup [] (nmG gs) = some n → ∀ z, E ⟨.DuplicateGauge, [.name], [.str n]⟩ (setC O q z)) ∧
  (firstDup [] (nmG gs) = none → (∀ ec n, useW (nmG gs) [] tg.flatten = some (ec, n) → ∀ z, E ⟨ec, [.name], [.str n]⟩ (setC O q z)) ∧
    (useW (nmG gs) [] tg.flatten = none → P .non (setC O q (.ins .Rack [.gauges, .groups] [dicG gs, grpD (groupsR (nmG gs) tg)]))))
def N_Rack_init : List Str := ["self", "together", "gauges", "gauge", "used", "group", "name", "placed", "found", "other"]
def T_Rack_init_0 : DS := (dRaise .DuplicateGauge [.name] (dCons (dFld [.Gauge, .CoarseGauge, .LateGauge, .LateCoarseGauge] .name (dVar 3)) dNil))
def T_Rack_init_1 : DS := (dSetD (dFld [.Rack] .gauges (dVar 0)) (dFld [.Gauge, .CoarseGauge, .LateGauge, .LateCoarseGauge] .name (dVar 3)) (dVar 3))
def T_Rack_init_2 : DS := (dSeq (dIfS (dTe (dInD false (dFld [.Gauge, .CoarseGauge, .LateGauge, .LateCoarseGauge] .name (dVar 3)) (dFld [.Rack] .gauges (dVar 0)))) T_Rack_init_0 dNext) T_Rack_init_1)
def T_Rack_init_3 : DS := (dSeq (dIfS (dTe (dOp fIn (dVar 6) (dVar 4))) (dRaise .DuplicateGauge [.name] (dCons (dVar 6) dNil)) dNext) (dExp (dApp (dVar 4) (dVar 6))))
def T_Rack_init_4 : DS := (dSeq (dIfS (dTe (dInD true (dVar 6) (dFld [.Rack] .gauges (dVar 0)))) (dRaise .UnknownGauge [.name] (dCons (dVar 6) dNil)) dNext) T_Rack_init_3)
def T_Rack_init_5 : DS := (dAsg 5 (dLc (dItD (dFld [.Rack] .gauges (dVar 0))) (dgN 9) (dTe (dOp fIn (dVar 9) (dVar 8))) (dVar 9) [9]))
def T_Rack_init_6 : DS := (dSeq (dExp (dApp (dFld [.Rack] .groups (dVar 0)) (dVar 5))) (dExp (dLm opExt (dVar 7) (dCons (dVar 5) dNil))))
def T_Rack_init_7 : DS := (dSeq (dFor (dItT (dVar 1)) (dgN 8) (dIfS (dTe (dOp fIn (dVar 6) (dVar 8))) T_Rack_init_5 dNext)) T_Rack_init_6)
def T_Rack_init_8 : DS := (dIfS (dTe (dOp fNotIn (dVar 6) (dVar 7))) (dSeq (dAsg 5 (dLst (dCons (dVar 6) dNil))) T_Rack_init_7) dNext)
def T_Rack_init_9 : DS := (dMelt (dFor (dItD (dFld [.Rack] .gauges (dVar 0))) (dgN 6) T_Rack_init_8))
def T_Rack_init_10 : DS := (dSeq (dSetF [.Rack] .groups (dVar 0) (dLstO dNil)) (dSeq (dAsg 7 (dLstO dNil)) T_Rack_init_9))
def T_Rack_init_11 : DS := (dSeq (dFor (dItT (dVar 1)) (dgN 5) (dFor (dItT (dVar 5)) (dgN 6) T_Rack_init_4)) T_Rack_init_10)
def T_Rack_init_12 : DS := (dSeq (dMelt (dFor (dItT (dVar 2)) (dgN 3) T_Rack_init_2)) (dSeq (dAsg 4 (dLstO dNil)) T_Rack_init_11))
def T_Rack_init : DS := (dSeq (dSetF [.Rack] .gauges (dVar 0) dDNew) T_Rack_init_12)

theorem pure_Rack_init : Pure N_Rack_init 3 S_Rack_init T_Rack_init := by
  rintro ds O P E ⟨q, tg, gs, rfl, gq, hl1, hl2, hl3, kd, ku⟩
  refine ⟨rfl, Opn.now ?_⟩
  have hs : startD N_Rack_init [.ptr q, togD tg, .tup (gs.map gaugeD)] = [some (.ptr q), some (togD tg), some (.tup (gs.map gaugeD)), none, none, none, none, none, none, none] := rfl
  rw [hs]
  have gx : ∀ z, getC (setC O q z) q = some z := fun z => getC_setC gq
  unfold T_Rack_init
  push_cast [gq]
  intro p hp
  have qp : q ≠ p := freshC_ne gq hp
  rw [getC_other qp, gq]
  push_cast [setC_other qp]
  refine ⟨by decide, ?_⟩
  unfold T_Rack_init_12
  push_cast
  refine for_inv2 (emb := gaugeD) (I := fun l Δ O1 => firstDup [] (nmG l) = none ∧ O1 = (p, .dic ((nmG l).map Sum.inr) (l.map gaugeD)) :: setC O q (.ins .Rack [.gauges] [.ptr p]) ∧ ∃ z3, Δ = [some (.ptr q), some (togD tg), some (.tup (gs.map gaugeD)), z3, none, none, none, none, none, none]) ⟨rfl, rfl, none, rfl⟩ ?_ ?_
  · rintro Δ O1 ⟨hd, rfl, z3, rfl⟩
    refine melt p q getC_self rfl (by rw [delC_self]; exact gx _) ?_
    rw [delC_self, setC_setC]
    have es : subCell p (.dic ((nmG gs).map Sum.inr) (gs.map gaugeD)) (.ins .Rack [.gauges] [.ptr p]) = .ins .Rack [.gauges] [dicG gs] := by simp [subCell, subD, dicG]
    rw [es]
    obtain ⟨kx, kp⟩ := ku hd
    clear ku kd
    have hnl : (nmG gs).length ≤ 1000 := by unfold nmG; rw [List.length_map]; exact hl1
    push_cast
    intro p2 hp2
    have q2 : q ≠ p2 := freshC_ne (gx _) hp2
    have gq2 : ∀ c, getC ((p2, c) :: setC O q (.ins .Rack [.gauges] [dicG gs])) q = some (.ins .Rack [.gauges] [dicG gs]) := fun c => by rw [getC_other q2]; exact gx _
    have dG : ∀ {O : Sto}, dicOf O (dicG gs) = some ((nmG gs).map Sum.inr, gs.map gaugeD) := rfl
    unfold T_Rack_init_11
    push_cast [togD]
    refine for_inv2 (emb := fun g : List Str => D.tup (g.map D.str)) (I := fun l Δ O1 => useW (nmG gs) [] l.flatten = none ∧ O1 = (p2, .lst (l.flatten.map D.str)) :: setC O q (.ins .Rack [.gauges] [dicG gs]) ∧ ∃ z5 z6, Δ = [some (.ptr q), some (.tup (tg.map fun g => .tup (g.map D.str))), some (.tup (gs.map gaugeD)), z3, some (.ptr p2), z5, z6, none, none, none]) ⟨rfl, rfl, none, none, rfl⟩ ?_ ?_
    · rintro Δ O1 ⟨hu, rfl, z5, z6, rfl⟩
      have kp := kp hu
      generalize tg.flatten.map D.str = U
      generalize hC : nmG gs = names at *
      unfold T_Rack_init_10
      push_cast
      intro p3 hp3
      have q3 : q ≠ p3 := freshC_ne (gq2 _) hp3
      have e3 : getC ((p3, Cell.lst []) :: (p2, Cell.lst U) :: setC O q (.ins .Rack [.gauges] [dicG gs])) q = some (.ins .Rack [.gauges] [dicG gs]) := by rw [getC_other q3]; exact gq2 _
      rw [e3]
      push_cast [setC_other q3, setC_other q2, setC_setC]
      refine ⟨by decide, ?_⟩
      intro p4 hp4
      have gx2 : ∀ c, getC ((p2, c) :: setC O q (.ins .Rack [.gauges, .groups] [dicG gs, .ptr p3])) q = some (.ins .Rack [.gauges, .groups] [dicG gs, .ptr p3]) := fun c => by rw [getC_other q2]; exact gx _
      have gx3 : ∀ c c', getC ((p3, c) :: (p2, c') :: setC O q (.ins .Rack [.gauges, .groups] [dicG gs, .ptr p3])) q = some (.ins .Rack [.gauges, .groups] [dicG gs, .ptr p3]) := fun c c' => by rw [getC_other q3]; exact gx2 _
      have q4 : q ≠ p4 := freshC_ne (gx3 _ _) hp4
      have p34 : p3 ≠ p4 := fun e => hp4 _ List.mem_cons_self e
      have gx4 : ∀ c c' c2, getC ((p4, c2) :: (p3, c) :: (p2, c') :: setC O q (.ins .Rack [.gauges, .groups] [dicG gs, .ptr p3])) q = some (.ins .Rack [.gauges, .groups] [dicG gs, .ptr p3]) := fun c c' c2 => by rw [getC_other q4]; exact gx3 _ _
      have gp3 : ∀ c c' c2, getC ((p4, c2) :: (p3, c) :: (p2, c') :: setC O q (.ins .Rack [.gauges, .groups] [dicG gs, .ptr p3])) p3 = some c := fun c c' c2 => by rw [getC_other p34]; exact getC_self
      have eD : dicG gs = .dic (names.map Sum.inr) (gs.map gaugeD) := by unfold dicG; rw [hC]
      have ek : (names.map (Sum.inr : Str → Key)).map kD = names.map D.str := by rw [List.map_map]; rfl
      unfold T_Rack_init_9
      push_cast [objP (gx4 _ _ _)]
      rw [eD]
      push_cast [ek]
      rw [← eD]
      refine for_inv2 (emb := D.str) (I := fun l Δ O1 => O1 = (p4, .lst ((groupsW names tg ([], []) l).2.map D.str)) :: (p3, .lst ((groupsW names tg ([], []) l).1.map fun g => .lst (g.map D.str))) :: (p2, .lst U) :: setC O q (.ins .Rack [.gauges, .groups] [dicG gs, .ptr p3]) ∧ ∃ z5 z6 z8 z9, Δ = [some (.ptr q), some (.tup (tg.map fun g => .tup (g.map D.str))), some (.tup (gs.map gaugeD)), z3, some (.ptr p2), z5, z6, some (.ptr p4), z8, z9]) ⟨rfl, _, _, _, _, rfl⟩ ?_ ?_
      · rintro Δ O1 ⟨rfl, z5, z6, z8, z9, rfl⟩
        refine melt p3 q (gp3 _ _ _) rfl (by rw [delC_other p34, delC_self, getC_other q4]; exact gx2 _) ?_
        rw [delC_other p34, delC_self, setC_other q4, setC_other q2, setC_setC]
        have es2 : subCell p3 (.lst ((groupsW names tg ([], []) names).1.map fun g => .lst (g.map D.str))) (.ins .Rack [.gauges, .groups] [dicG gs, .ptr p3]) = .ins .Rack [.gauges, .groups] [dicG gs, grpD (groupsR names tg)] := by
          simp only [subCell, List.map_cons, List.map_nil, eD, subD, if_true, grpD, groupsR]
        rw [es2]
        exact ⟨_, Weak.cons2 Weak.cons, kp⟩
      · rintro l n r e Δ O1 K ⟨rfl, z5, z6, z8, z9, rfl⟩ hK
        obtain ⟨b1, b2⟩ := groupsW_le names tg ([], []) l
        have hl : l.length < names.length := by rw [e]; simp
        have hm : l.length * (names.length + 1) ≤ 1000 * 1001 := Nat.mul_le_mul (by omega) (by omega)
        have hgo := groupOf_le names tg n
        have happ := groupsW_app names tg ([], []) l n
        generalize groupsW names tg ([], []) l = gp at *
        obtain ⟨gr, pl⟩ := gp
        simp only [List.length_nil, Nat.zero_add] at b1 b2
        push_cast
        unfold T_Rack_init_8
        have eN : ∀ {P : KD} {O : Sto}, fNotIn (.str n) (.ptr p4) ((p4, .lst (pl.map D.str)) :: O) P = P (.bl (!decide (n ∈ pl))) ((p4, .lst (pl.map D.str)) :: O) := by
          intro P O
          show fInQ true _ _ _ _ = _
          simp only [fInQ, seqP getC_self, strsOf_map, inB2, if_true]
        push_cast [eN]
        by_cases c : n ∈ pl
        · rw [if_neg (by simp [c])]
          refine hK _ _ ⟨?_, _, _, _, _, rfl⟩
          rw [happ]
          simp only [groupsW, c, if_true]
        · rw [if_pos (by simp [c])]
          push_cast
          unfold T_Rack_init_7
          push_cast
          refine for_inv2 (emb := fun g : List Str => D.tup (g.map D.str)) (I := fun l' Δ O1 => O1 = (p4, .lst (pl.map D.str)) :: (p3, .lst (gr.map fun g => .lst (g.map D.str))) :: (p2, .lst U) :: setC O q (.ins .Rack [.gauges, .groups] [dicG gs, .ptr p3]) ∧ ∃ z8 z9, Δ = [some (.ptr q), some (.tup (tg.map fun g => .tup (g.map D.str))), some (.tup (gs.map gaugeD)), z3, some (.ptr p2), some (.lst ((groupOf names l' n).map D.str)), some (.str n), some (.ptr p4), z8, z9]) ⟨rfl, _, _, rfl⟩ ?_ ?_
          · rintro Δ O1 ⟨rfl, z8, z9, rfl⟩
            unfold T_Rack_init_6
            push_cast [objP (gx4 _ _ _), gp3]
            have s3 : ∀ (c c' c2 z : Cell), setC ((p4, c2) :: (p3, c) :: (p2, c') :: setC O q (.ins .Rack [.gauges, .groups] [dicG gs, .ptr p3])) p3 z = (p4, c2) :: (p3, z) :: (p2, c') :: setC O q (.ins .Rack [.gauges, .groups] [dicG gs, .ptr p3]) := fun c c' c2 z => by rw [setC_other p34, setC_self]
            push_cast [s3]
            refine ⟨by rw [sizeLine_eq]; omega, by rw [sizeLine_eq]; omega, hK _ _ ⟨?_, _, _, _, _, rfl⟩⟩
            rw [happ]
            simp only [groupsW, c, if_false, List.map_append, List.map_cons, List.map_nil]
          · rintro l' f r' e' Δ O1 K2 ⟨rfl, z8, z9, rfl⟩ hK2
            have hg : groupOf names (l' ++ [f]) n = if n ∈ f then names.filter (fun o => decide (o ∈ f)) else groupOf names l' n := by unfold groupOf; rw [List.foldl_append]; rfl
            have eI : ∀ {P : KD} {O : Sto} {m : Str}, fIn (.str m) (.tup (f.map D.str)) O P = P (.bl (decide (m ∈ f))) O := by
              intro P O m
              show fInQ false _ _ _ _ = _
              simp only [fInQ, seqT, strsOf_map, inB2, Bool.false_eq_true, if_false]
            push_cast [eI]
            by_cases c3 : n ∈ f
            · rw [if_pos c3]
              rw [if_pos c3] at hg
              unfold T_Rack_init_5
              push_cast [objP (gx4 _ _ _)]
              rw [eD]
              push_cast [ek]
              rw [← eD]
              refine ⟨by omega, fun p5 hp5 => lc_det (fun o => if o ∈ f then some (.str o) else none) (fun o ho acc C h => ?_) (hK2 _ _ ⟨rfl, some (.tup (f.map D.str)), z9, ?_⟩)⟩
              · unfold lcStep
                push_cast [eI]
                by_cases c4 : o ∈ f
                · rw [if_pos c4] at h ⊢
                  exact h
                · rw [if_neg c4] at h ⊢
                  exact h
              · rw [hg, List.nil_append]
                rw [filt_strs]
            · rw [if_neg c3]
              rw [if_neg c3] at hg
              exact hK2 _ _ ⟨rfl, _, _, by rw [hg]⟩
    · rintro l x r e Δ O1 K ⟨hu, rfl, z5, z6, rfl⟩ hK
      have ex : x.length ≤ 1000 := hl3 x (by rw [e]; simp)
      have elf : l.flatten.length ≤ 1000 * 1000 := by
        have h1 : l.length ≤ 1000 := by rw [e] at hl2; simp at hl2; omega
        have h2 : ∀ g ∈ l, g.length ≤ 1000 := fun g hg => hl3 g (by rw [e]; simp [hg])
        clear hK hu e hl3 hl2
        have h3 : l.flatten.length ≤ l.length * 1000 := by
          clear h1
          induction l with
          | nil => simp
          | cons a l ih =>
            have := h2 a (by simp)
            have := ih fun g hg => h2 g (by simp [hg])
            simp only [List.flatten_cons, List.length_append, List.length_cons]
            omega
        omega
      push_cast
      refine for_inv2 (emb := D.str) (I := fun l' Δ O1 => useW (nmG gs) [] (l.flatten ++ l') = none ∧ O1 = (p2, .lst ((l.flatten ++ l').map D.str)) :: setC O q (.ins .Rack [.gauges] [dicG gs]) ∧ ∃ z6, Δ = [some (.ptr q), some (.tup (tg.map fun g => .tup (g.map D.str))), some (.tup (gs.map gaugeD)), z3, some (.ptr p2), some (.tup (x.map D.str)), z6, none, none, none]) ⟨by simpa using hu, by simp, z6, rfl⟩ ?_ ?_
      · rintro Δ O1 ⟨hu1, rfl, z6, rfl⟩
        exact hK _ _ ⟨by simpa using hu1, by simp, _, _, rfl⟩
      · rintro l' n r' e' Δ O1 K1 ⟨hu1, rfl, z6, rfl⟩ hK1
        have hfl : tg.flatten = (l.flatten ++ l') ++ n :: (r' ++ r.flatten) := by rw [e, e']; simp
        have hl' : l'.length < x.length := by rw [e']; simp
        push_cast
        unfold T_Rack_init_4
        push_cast [objP (gq2 _), dG, getK_nm]
        by_cases c : n ∈ nmG gs
        · rw [if_neg (by simp [c])]
          unfold T_Rack_init_3
          push_cast [fInQ, seqP getC_self, inB2]
          by_cases c2 : n ∈ l.flatten ++ l'
          · rw [if_pos c2]
            push_cast
            exact ⟨by decide, _, Weak.cons, kx _ _ (by rw [hfl]; exact useW_mid _ _ _ _ _ _ hu1 (by simp only [useW, List.nil_append, c, c2, not_true, if_false, if_true])) _⟩
          · rw [if_neg c2]
            push_cast
            refine ⟨by rw [List.length_append, sizeLine_eq]; omega, hK1 _ _ ⟨?_, ?_, _, rfl⟩⟩
            · rw [← List.append_assoc, useW_app, hu1]
              simp only [List.nil_append, c, c2, not_true, if_false]
            · simp
        · rw [if_pos (by simp [c])]
          push_cast
          exact ⟨by decide, _, Weak.cons, kx _ _ (by rw [hfl]; exact useW_mid _ _ _ _ _ _ hu1 (by simp only [useW, List.nil_append, c, not_false_eq_true, if_true])) _⟩
  · rintro l x r e Δ O1 K ⟨hd, rfl, z3, rfl⟩ hK
    have hn : nmG gs = nmG l ++ x.name :: nmG r := by rw [e]; simp [nmG]
    have ll : l.length ≤ 1000 := by rw [e] at hl1; simp at hl1; omega
    have gq1 : ∀ c, getC ((p, c) :: setC O q (.ins .Rack [.gauges] [.ptr p])) q = some (.ins .Rack [.gauges] [.ptr p]) := fun c => by rw [getC_other qp]; exact gx _
    unfold T_Rack_init_2
    push_cast [obj_g, gf_name, objP (gq1 _), dicP getC_self, getK_nm]
    refine ⟨clG_mem x, ?_⟩
    by_cases c : x.name ∈ nmG l
    · rw [if_pos c]
      unfold T_Rack_init_0
      push_cast [obj_g, gf_name]
      exact ⟨clG_mem x, by decide, _, Weak.cons, kd _ (by rw [hn]; exact firstDup_mid _ _ _ _ hd (by simpa using c)) _⟩
    · rw [if_neg c]
      unfold T_Rack_init_1
      push_cast [obj_g, gf_name, objP (gq1 _)]
      obtain ⟨e1, e2⟩ := putK_nm (d := gaugeD x) c
      refine ⟨clG_mem x, inr_nodup (firstDup_nd _ _ hd).1, by unfold nmG; rw [List.length_map]; omega, hK _ _ ⟨?_, ?_, _, rfl⟩⟩
      · have : nmG (l ++ [x]) = nmG l ++ [x.name] := by simp [nmG]
        rw [this, firstDup_app, hd]
        simp [c]
      · rw [e1, e2]
        simp [nmG]
theorem mkR_V {gs : List Gs} {tg : List (List Str)} {O : Sto} {P : KD} {E : KX} (h1 : gs.length ≤ 1000) (h2 : tg.length ≤ 1000) (h3 : ∀ g ∈ tg, g.length ≤ 1000)
    (kd : ∀ n, firstDup [] (nmG gs) = some n → E ⟨.DuplicateGauge, [.name], [.str n]⟩ O)
    (ku : firstDup [] (nmG gs) = none → (∀ ec n, useW (nmG gs) [] tg.flatten = some (ec, n) → E ⟨ec, [.name], [.str n]⟩ O) ∧ (useW (nmG gs) [] tg.flatten = none → P (rackD gs (groupsR (nmG gs) tg)) O)) :
    mkK .Rack (fun ds => starV 1 1 S_Rack_init ([togD tg] ++ ds)) (gs.map gaugeD) O P E := by
  intro q hq
  refine ⟨by simp only [List.length_append, List.length_cons, List.length_nil, List.length_map]; omega, by simp only [List.length_append, List.length_cons, List.length_nil, List.length_map]; omega, q, tg, gs, rfl, getC_self, h1, h2, h3, fun n hn z => ?_, fun hn => ⟨fun ec n hu z => ?_, fun hu => ⟨rfl, ?_⟩⟩⟩
  · show E _ (delC _ q); rw [setC_self, delC_self]; exact kd n hn
  · show E _ (delC _ q); rw [setC_self, delC_self]; exact (ku hn).1 ec n hu
  · rw [setC_self, getC_self, delC_self]; exact (ku hn).2 hu
theorem mkR_D {gs : List Gs} {O : Sto} {P : KD} {E : KX} (h1 : gs.length ≤ 1000)
    (kd : ∀ n, firstDup [] (nmG gs) = some n → E ⟨.DuplicateGauge, [.name], [.str n]⟩ O)
    (ku : firstDup [] (nmG gs) = none → P (rackD gs (groupsR (nmG gs) [])) O) :
    mkK .Rack (starD 1 S_Rack_init) (gs.map gaugeD) O P E := by
  intro q hq
  refine ⟨by simp only [List.length_cons, List.length_map]; omega, by simp only [List.length_cons, List.length_map]; omega, q, [], gs, rfl, getC_self, h1, by simp, by simp, fun n hn z => ?_, fun hn => ⟨fun ec n hu z => ?_, fun hu => ⟨rfl, ?_⟩⟩⟩
  · show E _ (delC _ q); rw [setC_self, delC_self]; exact kd n hn
  · simp [useW] at hu
  · rw [setC_self, getC_self, delC_self]; exact ku hn
def S_Rack_of : DSp := fun ds O P E => ∃ (d : D) (tg : List (List Str)) (gs : List Gs), ds = [.cls .Rack, d, togD tg] ∧ seqOf O d = some (gs.map gaugeD) ∧ gs.length ≤ 1000 ∧ tg.length ≤ 1000 ∧ (∀ g ∈ tg, g.length ≤ 1000) ∧
  (∀ n, firstDup [] (nmG gs) = some n → E ⟨.DuplicateGauge, [.name], [.str n]⟩ O) ∧
  (firstDup [] (nmG gs) = none → (∀ ec n, useW (nmG gs) [] tg.flatten = some (ec, n) → E ⟨ec, [.name], [.str n]⟩ O) ∧ (useW (nmG gs) [] tg.flatten = none → P (rackD gs (groupsR (nmG gs) tg)) O))
def N_Rack_of : List Str := ["cls", "gauges", "together"]
def T_Rack_of : DS := (dRet (dMakeCV 1 [(.Rack, (starV 1 1 S_Rack_init))] (dVar 0) (dVar 1) (dCons (dVar 2) dNil)))

theorem pure_Rack_of : Pure N_Rack_of 3 S_Rack_of T_Rack_of := by
  rintro ds O P E ⟨d, tg, gs, rfl, hd, h1, h2, h3, kd, ku⟩
  refine ⟨rfl, Opn.now ?_⟩
  have hs : startD N_Rack_of [.cls .Rack, d, togD tg] = [some (.cls .Rack), some d, some (togD tg)] := rfl
  rw [hs]
  unfold T_Rack_of
  push_cast [hd]
  exact mkR_V h1 h2 h3 (fun n hn => weak_now (kd n hn)) fun hn => ⟨fun ec n hu => weak_now ((ku hn).1 ec n hu), fun hu => weak_now ((ku hn).2 hu)⟩
theorem obj_r {O : Sto} {gs : List Gs} {gr : List (List Str)} : objOf O (rackD gs gr) = some (.Rack, [.gauges, .groups], [dicG gs, grpD gr]) := rfl
theorem cls_r {O : Sto} {gs : List Gs} {gr : List (List Str)} : clsOf O (rackD gs gr) = some .Rack := rfl
theorem dic_g {O : Sto} {gs : List Gs} : dicOf O (dicG gs) = some ((nmG gs).map Sum.inr, gs.map gaugeD) := rfl
theorem len_g {O : Sto} {gs : List Gs} {P : KD} : fLen [dicG gs] O P = P (.int ((nmG gs).length : Int)) O := by
  show P (.int ((((nmG gs).map Sum.inr : List Key)).length : Int)) O = _
  rw [List.length_map]
def S_Rack_names : DSp := fun ds O P E => ∃ (gs : List Gs) (gr : List (List Str)), ds = [rackD gs gr] ∧ P (.lst ((nmG gs).map D.str)) O
def N_Rack_names : List Str := ["self"]
def T_Rack_names : DS := (dRet (dCB fListD (dCons (dFld [.Rack] .gauges (dVar 0)) dNil)))

theorem pure_Rack_names : Pure N_Rack_names 1 S_Rack_names T_Rack_names := by
  rintro ds O P E ⟨gs, gr, rfl, k⟩
  refine ⟨rfl, Opn.now ?_⟩
  have hs : startD N_Rack_names [rackD gs gr] = [some (rackD gs gr)] := rfl
  rw [hs]
  have ek : ((nmG gs).map (Sum.inr : Str → Key)).map kD = (nmG gs).map D.str := by rw [List.map_map]; rfl
  unfold T_Rack_names
  push_cast [obj_r, dic_g, ek]
  refine weak_now ?_
  show P (.lst (((nmG gs).map Sum.inr).map kD)) O
  rw [ek]
  exact k
def S_law_gauges : DSp := fun ds O P E => ∃ gs : List Gs, ds = [.lst (gs.map specD)] ∧ gs.length ≤ 1000 ∧ (∀ s ∈ gs, okG s) ∧ ∀ p, freshC O p → P (.ptr p) ((p, .lst (gs.map gaugeD)) :: O)
def N_law_gauges : List Str := ["_law_specs_here", "_law_spec"]
def T_law_gauges : DS := (dRet (dLcO (dItL (dVar 0)) (dgN 1) dYes (dCall S_law_gauge (dCons (dVar 1) dNil)) [1]))

theorem pure_law_gauges : Pure N_law_gauges 1 S_law_gauges T_law_gauges := by
  rintro ds O P E ⟨gs, rfl, hl, ok, k⟩
  refine ⟨rfl, Opn.now ?_⟩
  have hs : startD N_law_gauges [.lst (gs.map specD)] = [some (.lst (gs.map specD)), none] := rfl
  rw [hs]
  unfold T_law_gauges
  push_cast
  refine ⟨by omega, fun p hp => lc_map gaugeD (fun s hs acc C h => ?_) (weak_now (k p hp))⟩
  unfold lcStep
  push_cast
  exact ⟨s, rfl, ok s hs, _, rfl, h⟩

theorem shaped_strss {xs : List (List Str)} (h : ∀ g ∈ xs, ∀ z ∈ g, PyData.strOk z = true) : SeqAt.shaped (.list (xs.map fun g => PyData.list (g.map PyData.str))) = true := by
  have hd : PyData.depthAll (xs.map fun g => PyData.list (g.map PyData.str)) ≤ 2 := by
    clear h
    induction xs with
    | nil => simp [PyData.depthAll]
    | cons g xs ih =>
      have := dep_strs g
      simp only [List.map_cons, PyData.depthAll, PyData.depth]
      omega
  have hl : PyData.canLayAll0 (xs.map fun g => PyData.list (g.map PyData.str)) = true := by
    clear hd
    induction xs with
    | nil => rfl
    | cons g xs ih =>
      simp only [List.map_cons, PyData.canLayAll0, PyData.canLay0, Bool.and_eq_true]
      exact ⟨lay_strs g (h g (by simp)), ih fun g' hg => h g' (by simp [hg])⟩
  simp only [SeqAt.shaped, PyData.canLay0, PyData.depth, Bool.and_eq_true, decide_eq_true_eq]
  exact ⟨hl, decide_eq_true (by omega)⟩
theorem eqv_strss : ∀ xs ys : List (List Str), PyData.eqvAll (xs.map fun g => PyData.list (g.map PyData.str)) (ys.map fun g => PyData.list (g.map PyData.str)) = decide (xs = ys)
  | [], [] => rfl
  | [], y :: ys => by simp [PyData.eqvAll]
  | x :: xs, [] => by simp [PyData.eqvAll]
  | x :: xs, y :: ys => by
    simp only [List.map_cons, PyData.eqvAll, eqv_strss xs ys, PyData.eqv, eqv_strs, List.cons.injEq]
    rw [Bool.eq_iff_iff]
    simp
theorem any_strss (xs : List (List Str)) (m : List Str) : ((xs.map fun g => PyData.list (g.map PyData.str)).any fun z => PyData.eqv z (.list (m.map PyData.str))) = decide (m ∈ xs) := by
  induction xs with
  | nil => simp
  | cons g xs ih =>
    rw [List.map_cons, List.any_cons, ih]
    simp only [PyData.eqv, eqv_strs, List.mem_cons]
    rw [Bool.eq_iff_iff]
    simp only [Bool.or_eq_true, decide_eq_true_eq]
    constructor
    · rintro (h | h)
      · exact .inl h.symm
      · exact .inr h
    · rintro (h | h)
      · exact .inl h.symm
      · exact .inr h
theorem eq_strsL {xs ys : List Str} (h1 : ∀ z ∈ xs, PyData.strOk z = true) (h2 : ∀ z ∈ ys, PyData.strOk z = true) : eqB (.lst (xs.map D.str)) (.lst (ys.map D.str)) = some (decide (xs = ys)) := by
  simp only [eqB, py, pys_strs, Option.map_some, shaped_strs h1, shaped_strs h2, and_self, if_true, PyData.eqv, eqv_strs]
theorem isPys_strs {O : Sto} : ∀ xs : List Str, IsPys O (xs.map D.str) (xs.map PyData.str)
  | [] => .nil
  | x :: xs => .cons (.str x) (isPys_strs xs)
theorem isPys_strss {O : Sto} : ∀ xs : List (List Str), IsPys O (xs.map fun g => D.lst (g.map D.str)) (xs.map fun g => PyData.list (g.map PyData.str))
  | [] => .nil
  | x :: xs => .cons (.lst (isPys_strs x)) (isPys_strss xs)
theorem in_strss {O : Sto} {P : KD} {neg : Bool} {p : Addr} {m : List Str} {fd : List (List Str)} (hp : getC O p = some (.lst (fd.map fun g => D.lst (g.map D.str)))) (h1 : ∀ z ∈ m, PyData.strOk z = true) (h2 : ∀ g ∈ fd, ∀ z ∈ g, PyData.strOk z = true)
    (h : P (.bl (if neg = true then !decide (m ∈ fd) else decide (m ∈ fd))) O) : fInN neg (.lst (m.map D.str)) (.ptr p) O P :=
  ⟨_, _, .lst (isPys_strs m), .ptr hp (isPys_strss fd), shaped_strs h1, shaped_strss h2, by rw [any_strss]; exact h⟩
theorem in_tupS {O : Sto} {P : KD} {n : Str} {f : List Str} : fIn (.str n) (.tup (f.map D.str)) O P = P (.bl (decide (n ∈ f))) O := by
  show fInQ false _ _ _ _ = _
  simp only [fInQ, seqT, strsOf_map, inB2, Bool.false_eq_true, if_false]
theorem in_lstS {O : Sto} {P : KD} {n : Str} {f : List Str} : fIn (.str n) (.lst (f.map D.str)) O P = P (.bl (decide (n ∈ f))) O := by
  show fInQ false _ _ _ _ = _
  simp only [fInQ, seqL, strsOf_map, inB2, Bool.false_eq_true, if_false]
theorem notin_lstS {O : Sto} {P : KD} {n : Str} {f : List Str} : fNotIn (.str n) (.lst (f.map D.str)) O P = P (.bl (!decide (n ∈ f))) O := by
  show fInQ true _ _ _ _ = _
  simp only [fInQ, seqL, strsOf_map, inB2, if_true]
theorem in_ptrS {O : Sto} {P : KD} {n : Str} {f : List Str} {p : Addr} (h : getC O p = some (.lst (f.map D.str))) : fIn (.str n) (.ptr p) O P = P (.bl (decide (n ∈ f))) O := by
  show fInQ false _ _ _ _ = _
  simp only [fInQ, seqP h, strsOf_map, inB2, Bool.false_eq_true, if_false]
theorem notin_ptrS {O : Sto} {P : KD} {n : Str} {f : List Str} {p : Addr} (h : getC O p = some (.lst (f.map D.str))) : fNotIn (.str n) (.ptr p) O P = P (.bl (!decide (n ∈ f))) O := by
  show fInQ true _ _ _ _ = _
  simp only [fInQ, seqP h, strsOf_map, inB2, if_true]
/-! the groups' mathematics -/
def faultsW (names : List Str) (tg : List (List Str)) : List (List Str) → List Str → List (List Str)
  | fd, [] => fd
  | fd, w :: r => faultsW names tg (if groupOf names tg w ∈ fd then fd else fd ++ [groupOf names tg w]) r
theorem faultsW_app (names : List Str) (tg : List (List Str)) : ∀ (fd : List (List Str)) (l : List Str) (n : Str), faultsW names tg fd (l ++ [n]) = faultsW names tg (faultsW names tg fd l) [n]
  | fd, [], n => rfl
  | fd, a :: l, n => by
    simp only [List.cons_append, faultsW]
    rw [faultsW_app names tg _ l n]
    rfl
/-- the groups are parts of the names, apart from each other -/
structure GrOk (names : List Str) (tg : List (List Str)) : Prop where
  nd : names.Nodup
  gn : tg.flatten.Nodup
  sub : ∀ x ∈ tg.flatten, x ∈ names
theorem groupOf_none (names : List Str) (n : Str) : ∀ (tg : List (List Str)) (g : List Str), (∀ f ∈ tg, n ∉ f) → tg.foldl (fun g f => if n ∈ f then names.filter (fun o => decide (o ∈ f)) else g) g = g
  | [], g, _ => rfl
  | f :: tg, g, h => by
    rw [List.foldl_cons, if_neg (h f (by simp))]
    exact groupOf_none names n tg g fun f' hf => h f' (by simp [hf])
theorem groupOf_in {names : List Str} {n : Str} {f : List Str} : ∀ {tg : List (List Str)} {g : List Str}, tg.flatten.Nodup → f ∈ tg → n ∈ f → tg.foldl (fun g f => if n ∈ f then names.filter (fun o => decide (o ∈ f)) else g) g = names.filter (fun o => decide (o ∈ f))
  | [], g, _, h, _ => by cases h
  | f0 :: tg, g, nd, h, hn => by
    rw [List.flatten_cons, List.nodup_append] at nd
    rw [List.foldl_cons]
    rcases List.mem_cons.mp h with rfl | h
    · rw [if_pos hn]
      exact groupOf_none names n tg _ fun f' hf q => nd.2.2 n hn n (List.mem_flatten.mpr ⟨f', hf, q⟩) rfl
    · exact groupOf_in nd.2.1 h hn
theorem groupOf_cases {names : List Str} {tg : List (List Str)} (h : GrOk names tg) (n : Str) : (groupOf names tg n = [n] ∧ ∀ f ∈ tg, n ∉ f) ∨ ∃ f ∈ tg, n ∈ f ∧ groupOf names tg n = names.filter (fun o => decide (o ∈ f)) := by
  by_cases c : ∃ f ∈ tg, n ∈ f
  · obtain ⟨f, hf, hn⟩ := c
    exact .inr ⟨f, hf, hn, groupOf_in h.gn hf hn⟩
  · have c' : ∀ f ∈ tg, n ∉ f := fun f hf q => c ⟨f, hf, q⟩
    exact .inl ⟨groupOf_none names n tg [n] c', c'⟩
theorem groupOf_self {names : List Str} {tg : List (List Str)} (h : GrOk names tg) {n : Str} (hn : n ∈ names) : n ∈ groupOf names tg n := by
  rcases groupOf_cases h n with ⟨e, _⟩ | ⟨f, hf, hn', e⟩
  · rw [e]; simp
  · rw [e]; simp [hn, hn']
theorem groupOf_sub {names : List Str} {tg : List (List Str)} (h : GrOk names tg) {n m : Str} (hn : n ∈ names) (hm : m ∈ groupOf names tg n) : m ∈ names := by
  rcases groupOf_cases h n with ⟨e, _⟩ | ⟨f, hf, hn', e⟩
  · rw [e] at hm; rw [List.mem_singleton.mp hm]; exact hn
  · rw [e] at hm; exact (List.mem_filter.mp hm).1
theorem groupOf_eq {names : List Str} {tg : List (List Str)} (h : GrOk names tg) {n m : Str} (hm : m ∈ groupOf names tg n) : groupOf names tg m = groupOf names tg n := by
  rcases groupOf_cases h n with ⟨e, _⟩ | ⟨f, hf, hn', e⟩
  · rw [e] at hm; rw [List.mem_singleton.mp hm]
  · rw [e] at hm
    have hmf : m ∈ f := by simpa using (List.mem_filter.mp hm).2
    rw [e]
    exact groupOf_in h.gn hf hmf
theorem groupOf_nd {names : List Str} {tg : List (List Str)} (h : GrOk names tg) (n : Str) : (groupOf names tg n).Nodup := by
  rcases groupOf_cases h n with ⟨e, _⟩ | ⟨f, hf, hn', e⟩
  · rw [e]; simp
  · rw [e]; exact h.nd.filter _
/-- both ways to find the faults give the same -/
theorem faults_same {names : List Str} {tg : List (List Str)} (h : GrOk names tg) : ∀ (l : List Str) (gr : List (List Str)) (pl : List Str), (∀ x ∈ l, x ∈ names) → pl = gr.flatten → (∀ g ∈ gr, ∃ n ∈ names, g = groupOf names tg n) → faultsW names tg gr l = (groupsW names tg (gr, pl) l).1
  | [], gr, pl, _, _, _ => rfl
  | n :: r, gr, pl, hs, hp, hg => by
    have hn := hs n (by simp)
    have key : groupOf names tg n ∈ gr ↔ n ∈ pl := by
      constructor
      · intro q
        rw [hp]
        exact List.mem_flatten.mpr ⟨_, q, groupOf_self h hn⟩
      · intro q
        rw [hp] at q
        obtain ⟨g, hg1, hg2⟩ := List.mem_flatten.mp q
        obtain ⟨m, hm, rfl⟩ := hg g hg1
        rw [groupOf_eq h hg2]
        exact hg1
    simp only [faultsW, groupsW]
    by_cases c : n ∈ pl
    · rw [if_pos (key.mpr c), if_pos c]
      exact faults_same h r gr pl (fun x hx => hs x (by simp [hx])) hp hg
    · rw [if_neg (fun q => c (key.mp q)), if_neg c]
      refine faults_same h r _ _ (fun x hx => hs x (by simp [hx])) (by rw [hp]; simp) fun g hg' => ?_
      rcases List.mem_append.mp hg' with q | q
      · exact hg g q
      · exact ⟨n, hn, List.mem_singleton.mp q⟩
theorem faults_eq {names : List Str} {tg : List (List Str)} (h : GrOk names tg) : faultsW names tg [] names = groupsR names tg := faults_same h names [] [] (fun _ q => q) rfl (by simp)
/-- what the faults are: they part the names -/
structure FaOk (names : List Str) (gr : List (List Str)) : Prop where
  nd : names.Nodup
  perm : gr.flatten.Perm names
  ne : ∀ g ∈ gr, g ≠ []
  sub : ∀ g ∈ gr, g.Sublist names
theorem groupOf_sublist {names : List Str} {tg : List (List Str)} (h : GrOk names tg) {n : Str} (hn : n ∈ names) : (groupOf names tg n).Sublist names := by
  rcases groupOf_cases h n with ⟨e, _⟩ | ⟨f, hf, hn', e⟩
  · rw [e]; exact List.singleton_sublist.mpr hn
  · rw [e]; exact List.filter_sublist
theorem groupsW_ok {names : List Str} {tg : List (List Str)} (h : GrOk names tg) : ∀ (l : List Str) (gp : List (List Str) × List Str), (∀ x ∈ l, x ∈ names) → gp.2 = gp.1.flatten → gp.2.Nodup → (∀ g ∈ gp.1, ∃ n ∈ names, g = groupOf names tg n) →
    (groupsW names tg gp l).2 = (groupsW names tg gp l).1.flatten ∧ (groupsW names tg gp l).2.Nodup ∧ (∀ g ∈ (groupsW names tg gp l).1, ∃ n ∈ names, g = groupOf names tg n) ∧ (∀ x ∈ gp.2, x ∈ (groupsW names tg gp l).2) ∧ ∀ x ∈ l, x ∈ (groupsW names tg gp l).2
  | [], gp, _, h1, h2, h3 => ⟨h1, h2, h3, fun _ q => q, fun _ q => by cases q⟩
  | n :: r, gp, hs, h1, h2, h3 => by
    have hn := hs n (by simp)
    simp only [groupsW]
    by_cases c : n ∈ gp.2
    · rw [if_pos c]
      obtain ⟨q1, q2, q3, q4, q5⟩ := groupsW_ok h r gp (fun x hx => hs x (by simp [hx])) h1 h2 h3
      refine ⟨q1, q2, q3, q4, fun x hx => ?_⟩
      rcases List.mem_cons.mp hx with rfl | hx
      · exact q4 _ c
      · exact q5 x hx
    · rw [if_neg c]
      have dis : ∀ a ∈ gp.2, ∀ b ∈ groupOf names tg n, a ≠ b := by
        rintro a ha b hb rfl
        rw [h1] at ha
        obtain ⟨g, hg1, hg2⟩ := List.mem_flatten.mp ha
        obtain ⟨m, hm, rfl⟩ := h3 g hg1
        have e : groupOf names tg n = groupOf names tg m := by rw [← groupOf_eq h hb, groupOf_eq h hg2]
        refine c ?_
        rw [h1]
        exact List.mem_flatten.mpr ⟨_, hg1, by rw [← e]; exact groupOf_self h hn⟩
      obtain ⟨q1, q2, q3, q4, q5⟩ := groupsW_ok h r (gp.1 ++ [groupOf names tg n], gp.2 ++ groupOf names tg n) (fun x hx => hs x (by simp [hx])) (by simp [h1]) (List.nodup_append.mpr ⟨h2, groupOf_nd h n, dis⟩) (fun g hg' => by
        rcases List.mem_append.mp hg' with q | q
        · exact h3 g q
        · exact ⟨n, hn, List.mem_singleton.mp q⟩)
      refine ⟨q1, q2, q3, fun x hx => q4 x (by simp [hx]), fun x hx => ?_⟩
      rcases List.mem_cons.mp hx with rfl | hx
      · exact q4 _ (by simp [groupOf_self h hn])
      · exact q5 x hx
theorem groupsR_ok {names : List Str} {tg : List (List Str)} (h : GrOk names tg) : FaOk names (groupsR names tg) := by
  obtain ⟨q1, q2, q3, _, q5⟩ := groupsW_ok h names ([], []) (fun _ q => q) rfl (by simp) (by simp)
  have sb : ∀ g ∈ groupsR names tg, g.Sublist names := fun g hg => by
    obtain ⟨n, hn, rfl⟩ := q3 g hg
    exact groupOf_sublist h hn
  refine ⟨h.nd, ?_, fun g hg => ?_, sb⟩
  · show ((groupsW names tg ([], []) names).1.flatten).Perm names
    rw [← q1]
    refine (List.perm_ext_iff_of_nodup q2 h.nd).mpr fun a => ⟨fun ha => ?_, q5 a⟩
    rw [q1] at ha
    obtain ⟨g, hg1, hg2⟩ := List.mem_flatten.mp ha
    exact (sb g hg1).subset hg2
  · obtain ⟨n, hn, rfl⟩ := q3 g hg
    exact List.ne_nil_of_mem (groupOf_self h hn)
theorem useW_ok (names : List Str) : ∀ (l used : List Str), (∀ x ∈ l, x ∈ names) → (used ++ l).Nodup → useW names used l = none
  | [], _, _, _ => rfl
  | n :: r, used, h1, h2 => by
    simp only [useW]
    rw [if_neg (by simp [h1 n (by simp)]), if_neg ?_]
    · exact useW_ok names r (used ++ [n]) (fun x hx => h1 x (by simp [hx])) (by simpa using h2)
    · intro q
      exact (List.nodup_append.mp h2).2.2 n q n (by simp) rfl
theorem GrOk.use {names : List Str} {tg : List (List Str)} (h : GrOk names tg) : useW names [] tg.flatten = none := useW_ok names _ _ h.sub (by simpa using h.gn)
theorem GrOk.len {names : List Str} {tg : List (List Str)} (h : GrOk names tg) {f : List Str} (hf : f ∈ tg) : f.length ≤ names.length :=
  nodup_lenS (h.gn.sublist (List.sublist_flatten_of_mem hf)) fun a ha => h.sub a (List.mem_flatten.mpr ⟨f, hf, ha⟩)
def S_law_groups : DSp := fun ds O P E => ∃ (b : Addr) (ws : List Str), ds = [.ptr b, .lst (ws.map D.str)] ∧ getC O b = some .box ∧ ws.Nodup ∧ ws.length ≤ 1000 ∧ ∀ g0 g1 : List Str, GrOk ws [g0, g1] → P (togD [g0, g1]) O
def N_law_groups : List Str := ["_law_box_here", "_law_words_here", "_law_marks", "_law_groups_here", "_law_mark", "_law_group", "_law_word_here", "_law_k"]
def T_law_groups_0 : DS := (dSeq (dIfS (dTe (dOp fEq (dCall S_law_take (dCons (dVar 0) (dCons (dC (.int 2)) dNil))) (dC (.int 1)))) (dAsg 5 (dRevL (dVar 5))) dNext) (dExp (dApp (dVar 3) (dCB fTup (dCons (dVar 5) dNil)))))
def T_law_groups_1 : DS := (dSeq (dAsg 5 (dLc (dRng1 (dCons (dCB fLen (dCons (dVar 1) dNil)) dNil)) (dgN 7) (dTe (dOp fEq (dOp fIx (dVar 2) (dVar 7)) (dVar 4))) (dOp fIx (dVar 1) (dVar 7)) [7])) T_law_groups_0)
def T_law_groups_2 : DS := (dSeq (dFor (dRng1 (dCons (dC (.int 2)) dNil)) (dgN 4) T_law_groups_1) (dRet (dCB fTup (dCons (dVar 3) dNil))))
def T_law_groups : DS := (dSeq (dAsg 2 (dLc (dItL (dVar 1)) (dgN 6) dYes (dCall S_law_take (dCons (dVar 0) (dCons (dC (.int 4)) dNil))) [6])) (dSeq (dAsg 3 (dLstO dNil)) T_law_groups_2))

def selW (ws : List Str) (ks : List Int) (j : Int) : List Str := ((ws.zip ks).filter fun p => decide (p.2 = j)).map (·.1)
theorem sel_range : ∀ (ws : List Str) (ks : List Int) (j : Int), ws.length = ks.length → (List.range ws.length).filterMap (fun i => if ks.getD i 0 = j then some (D.str (ws.getD i "")) else none) = (selW ws ks j).map D.str
  | [], _, _, _ => rfl
  | w :: ws, [], _, h => by simp at h
  | w :: ws, k :: ks, j, h => by
    have ih := sel_range ws ks j (by simpa using h)
    rw [List.length_cons, List.range_succ_eq_map, List.filterMap_cons, List.filterMap_map]
    have e : ((fun i => if (k :: ks).getD i 0 = j then some (D.str ((w :: ws).getD i "")) else none) ∘ Nat.succ) = (fun i => if ks.getD i 0 = j then some (D.str (ws.getD i "")) else none) := by
      funext i
      simp only [Function.comp, List.getD_cons_succ]
    rw [e, ih]
    unfold selW
    rw [List.zip_cons_cons, List.filter_cons]
    by_cases c : k = j
    · simp [c]
    · simp [c]
theorem sel_sub {ws : List Str} {ks : List Int} {j : Int} (h : ws.length = ks.length) : (selW ws ks j).Sublist ws := by
  have e : (ws.zip ks).map (·.1) = ws := by rw [List.map_fst_zip]; omega
  have z : ((((ws.zip ks).filter fun p => decide (p.2 = j))).map (·.1)).Sublist ((ws.zip ks).map (·.1)) := List.filter_sublist.map _
  rw [e] at z
  exact z
theorem zip_key {ws : List Str} {x : Str} {a b : Int} : ∀ {ks : List Int}, ws.Nodup → (x, a) ∈ ws.zip ks → (x, b) ∈ ws.zip ks → a = b := by
  induction ws with
  | nil => intro ks _ h; simp at h
  | cons w ws ih =>
    intro ks nd h1 h2
    cases ks with
    | nil => simp at h1
    | cons k ks =>
      rw [List.nodup_cons] at nd
      rw [List.zip_cons_cons, List.mem_cons] at h1 h2
      rcases h1 with h1 | h1 <;> rcases h2 with h2 | h2
      · rw [(Prod.mk.inj h1).2, (Prod.mk.inj h2).2]
      · exact absurd ((Prod.mk.inj h1).1 ▸ (List.of_mem_zip h2).1) nd.1
      · exact absurd ((Prod.mk.inj h2).1 ▸ (List.of_mem_zip h1).1) nd.1
      · exact ih nd.2 h1 h2
theorem sel_apart {ws : List Str} {ks : List Int} (nd : ws.Nodup) (h : ws.length = ks.length) : GrOk ws [selW ws ks 0, selW ws ks 1] := by
  refine ⟨nd, ?_, ?_⟩
  · simp only [List.flatten_cons, List.flatten_nil, List.append_nil]
    refine List.nodup_append.mpr ⟨(sel_sub h).nodup nd, (sel_sub h).nodup nd, ?_⟩
    rintro x hx y hy rfl
    obtain ⟨p, hp, e1⟩ := List.mem_map.mp hx
    obtain ⟨q, hq, e2⟩ := List.mem_map.mp hy
    rw [List.mem_filter] at hp hq
    obtain ⟨p1, p2⟩ := p
    obtain ⟨q1, q2⟩ := q
    simp only at e1 e2
    subst e1
    have z := zip_key nd hp.1 (by rw [← e2]; exact hq.1)
    simp at hp hq
    omega
  · intro x hx
    simp only [List.flatten_cons, List.flatten_nil, List.append_nil, List.mem_append] at hx
    rcases hx with hx | hx
    · exact (sel_sub h).subset hx
    · exact (sel_sub h).subset hx
theorem GrOk.perm2 {ws a b c d : List Str} (h : GrOk ws [a, b]) (h1 : c.Perm a) (h2 : d.Perm b) : GrOk ws [c, d] := by
  have p : ([c, d] : List (List Str)).flatten.Perm ([a, b] : List (List Str)).flatten := by simpa using h1.append h2
  exact ⟨h.nd, p.nodup_iff.mpr h.gn, fun x hx => h.sub x (p.mem_iff.mp hx)⟩
theorem pure_law_groups : Pure N_law_groups 2 S_law_groups T_law_groups := by
  rintro ds O P E ⟨b, ws, rfl, gb, nd, hl, k⟩
  refine ⟨rfl, Opn.now ?_⟩
  have hs : startD N_law_groups [.ptr b, .lst (ws.map D.str)] = [some (.ptr b), some (.lst (ws.map D.str)), none, none, none, none, none, none] := rfl
  rw [hs]
  unfold T_law_groups
  push_cast
  refine ⟨by omega, fun p hp => lc_draw (em := D.int) (St := fun _ _ => True) (fun x hx acc C h => ?_) fun ks hks => ?_⟩
  · unfold lcStep
    push_cast
    exact ⟨b, 4, rfl, getC_fresh gb hp, by omega, by omega, fun r _ _ => ⟨_, rfl, h r trivial⟩⟩
  have hk : ws.length = ks.length := hks.length
  push_cast
  intro p2 hp2
  have g2 : ∀ c, getC ((p2, c) :: O) b = some .box := fun c => getC_fresh gb hp2
  unfold T_law_groups_2
  push_cast [rangeD_emb]
  refine ⟨by omega, by omega, ?_⟩
  refine for_inv2 (emb := fun j : Nat => D.int (0 + (j : Int))) (I := fun l Δ O1 => ∃ gl : List (List Str), gl.length = l.length ∧ (∀ (i : Nat) g, gl[i]? = some g → g.Perm (selW ws ks i)) ∧ O1 = (p2, .lst (gl.map fun g => D.tup (g.map D.str))) :: O ∧ ∃ z4 z5, Δ = [some (.ptr b), some (.lst (ws.map D.str)), some (.lst (ks.map D.int)), some (.ptr p2), z4, z5, none, none]) ⟨[], rfl, by simp, rfl, none, none, rfl⟩ ?_ ?_
  · rintro Δ O1 ⟨gl, h1, h2, rfl, z4, z5, rfl⟩
    push_cast [f_tupP getC_self]
    match gl, h1, h2 with
    | [g0, g1], _, h2 => exact ⟨_, Weak.cons, k g0 g1 ((sel_apart nd hk).perm2 (h2 0 g0 rfl) (h2 1 g1 rfl))⟩
  · rintro l x r e Δ O1 K ⟨gl, h1, h2, rfl, z4, z5, rfl⟩ hK
    obtain ⟨ex, hx2, _⟩ := range_pre e
    unfold T_law_groups_1
    push_cast [Int.zero_add, rangeD_emb]
    refine ⟨by omega, by omega, by simp; omega, fun p3 hp3 => lc_det (emb := fun j : Nat => D.int (j : Int)) (fun i => if ks.getD i 0 = (x : Int) then some (D.str (ws.getD i "")) else none) (fun i hi acc C h => ?_) ?_⟩
    · have hi' : i < ws.length := by simpa using hi
      unfold lcStep
      push_cast [at_get (f := D.int) (d := 0) (show i < ks.length by omega), at_get (f := D.str) (d := "") hi']
      by_cases c : ks.getD i 0 = (x : Int)
      · rw [if_pos c] at h ⊢
        exact h
      · rw [if_neg c] at h ⊢
        exact h
    · have el : (List.range (Int.toNat (ws.length : Int))) = List.range ws.length := by simp
      rw [List.nil_append, el, sel_range ws ks _ hk]
      unfold T_law_groups_0
      push_cast
      refine ⟨b, 2, rfl, g2 _, by omega, by omega, fun t _ _ => ?_⟩
      have fin : ∀ g : List Str, g.Perm (selW ws ks (x : Int)) → ∃ gl' : List (List Str), gl'.length = (l ++ [x]).length ∧ (∀ (i : Nat) g, gl'[i]? = some g → g.Perm (selW ws ks i)) ∧ (gl.map fun g => D.tup (g.map D.str)) ++ [D.tup (g.map D.str)] = gl'.map fun g => D.tup (g.map D.str) := by
        intro g hg
        refine ⟨gl ++ [g], by simp [h1], fun i g' hi => ?_, by simp⟩
        rcases Nat.lt_or_ge i gl.length with c | c
        · rw [List.getElem?_append_left c] at hi
          exact h2 i g' hi
        · rw [List.getElem?_append_right c] at hi
          have : i - gl.length = 0 := by
            have := (List.getElem?_eq_some_iff.mp hi).1
            simp at this
            omega
          rw [this] at hi
          simp at hi
          subst hi
          have : i = x := by omega
          rw [this]
          exact hg
      have hz : gl.length < sizeLine := by rw [sizeLine_eq]; omega
      by_cases c : t = 1
      · push_cast [c, e_revL, ← List.map_reverse]
        obtain ⟨gl', q1, q2, q3⟩ := fin _ (List.reverse_perm _)
        exact ⟨hz, hK _ _ ⟨gl', q1, q2, by rw [q3], _, _, rfl⟩⟩
      · push_cast [c]
        obtain ⟨gl', q1, q2, q3⟩ := fin _ (List.Perm.refl _)
        exact ⟨hz, hK _ _ ⟨gl', q1, q2, by rw [q3], _, _, rfl⟩⟩
def S_law_faults : DSp := fun ds O P E => ∃ (ws : List Str) (tg : List (List Str)), ds = [.lst (ws.map D.str), togD tg] ∧ ws.length ≤ 1000 ∧ (∀ w ∈ ws, PyData.strOk w = true) ∧ GrOk ws tg ∧ P (grpD (groupsR ws tg)) O
def N_law_faults : List Str := ["_law_words_here", "_law_groups_here", "_law_found", "_law_word_here", "_law_mine", "_law_group", "_law_other"]
def T_law_faults_0 : DS := (dAsg 4 (dLc (dItL (dVar 0)) (dgN 6) (dTe (dOp fIn (dVar 6) (dVar 5))) (dVar 6) [6]))
def T_law_faults_1 : DS := (dIfS (dTe (dOp fIn (dVar 3) (dVar 5))) T_law_faults_0 dNext)
def T_law_faults_2 : DS := (dIfS (dTe (dOp (fInN true) (dVar 4) (dVar 2))) (dExp (dApp (dVar 2) (dVar 4))) dNext)
def T_law_faults_3 : DS := (dSeq (dFor (dItT (dVar 1)) (dgN 5) T_law_faults_1) T_law_faults_2)
def T_law_faults_4 : DS := (dSeq (dFor (dItL (dVar 0)) (dgN 3) (dSeq (dAsg 4 (dLst (dCons (dVar 3) dNil))) T_law_faults_3)) (dRet (dFrz (dVar 2))))
def T_law_faults : DS := (dSeq (dAsg 2 (dLstO dNil)) T_law_faults_4)

theorem pure_law_faults : Pure N_law_faults 2 S_law_faults T_law_faults := by
  rintro ds O P E ⟨ws, tg, rfl, hl, ok, gr, k⟩
  refine ⟨rfl, Opn.now ?_⟩
  have hs : startD N_law_faults [.lst (ws.map D.str), togD tg] = [some (.lst (ws.map D.str)), some (togD tg), none, none, none, none, none] := rfl
  rw [hs]
  unfold T_law_faults
  push_cast
  intro p hp
  unfold T_law_faults_4
  push_cast
  refine for_inv2 (emb := D.str) (I := fun l Δ O1 => O1 = (p, .lst ((faultsW ws tg [] l).map fun g => D.lst (g.map D.str))) :: O ∧ ((faultsW ws tg [] l).length ≤ l.length ∧ ∀ g ∈ faultsW ws tg [] l, ∀ z ∈ g, z ∈ ws) ∧ ∃ z3 z4 z5 z6, Δ = [some (.lst (ws.map D.str)), some (togD tg), some (.ptr p), z3, z4, z5, z6]) ⟨rfl, by simp [faultsW], none, none, none, none, rfl⟩ ?_ ?_
  · rintro Δ O1 ⟨rfl, _, z3, z4, z5, z6, rfl⟩
    push_cast
    refine weak_now ?_
    have k' := k
    rw [← faults_eq gr] at k'
    exact k'
  · rintro l w r e Δ O1 K ⟨rfl, ⟨hfl, hfs⟩, z3, z4, z5, z6, rfl⟩ hK
    have hw : w ∈ ws := by rw [e]; simp
    push_cast
    unfold T_law_faults_3
    push_cast [togD]
    refine for_inv2 (emb := fun g : List Str => D.tup (g.map D.str)) (I := fun l' Δ O1 => O1 = (p, .lst ((faultsW ws tg [] l).map fun g => D.lst (g.map D.str))) :: O ∧ ∃ z5 z6, Δ = [some (.lst (ws.map D.str)), some (togD tg), some (.ptr p), some (.str w), some (.lst ((groupOf ws l' w).map D.str)), z5, z6]) ⟨rfl, _, _, rfl⟩ ?_ ?_
    · rintro Δ O1 ⟨rfl, z5, z6, rfl⟩
      have hgs : ∀ z ∈ groupOf ws tg w, z ∈ ws := fun z hz => groupOf_sub gr hw hz
      have happ : faultsW ws tg [] (l ++ [w]) = if groupOf ws tg w ∈ faultsW ws tg [] l then faultsW ws tg [] l else faultsW ws tg [] l ++ [groupOf ws tg w] := by rw [faultsW_app]; rfl
      unfold T_law_faults_2
      push_cast
      refine in_strss getC_self (fun z hz => ok z (hgs z hz)) (fun g hg z hz => ok z (hfs g hg z hz)) ?_
      push_cast
      by_cases c : groupOf ws tg w ∈ faultsW ws tg [] l
      · rw [if_neg (by simp [c])]
        rw [if_pos c] at happ
        exact hK _ _ ⟨by rw [happ], ⟨by rw [happ]; simp; omega, by rw [happ]; exact hfs⟩, _, _, _, _, rfl⟩
      · rw [if_pos (by simp [c])]
        rw [if_neg c] at happ
        push_cast
        refine ⟨by rw [sizeLine_eq]; have : l.length < ws.length := (by rw [e]; simp); omega, hK _ _ ⟨by rw [happ]; simp, ⟨by rw [happ]; simp; omega, ?_⟩, _, _, _, _, rfl⟩⟩
        rw [happ]
        intro g hg z hz
        rcases List.mem_append.mp hg with q | q
        · exact hfs g q z hz
        · rw [List.mem_singleton.mp q] at hz
          exact hgs z hz
    · rintro l' f r' e' Δ O1 K2 ⟨rfl, z5, z6, rfl⟩ hK2
      have hg : groupOf ws (l' ++ [f]) w = if w ∈ f then ws.filter (fun o => decide (o ∈ f)) else groupOf ws l' w := by unfold groupOf; rw [List.foldl_append]; rfl
      unfold T_law_faults_1
      push_cast [in_tupS]
      by_cases c3 : w ∈ f
      · rw [if_pos c3]
        rw [if_pos c3] at hg
        unfold T_law_faults_0
        push_cast
        refine ⟨by omega, fun p5 hp5 => lc_det (fun o => if o ∈ f then some (.str o) else none) (fun o ho acc C h => ?_) (hK2 _ _ ⟨rfl, some (.tup (f.map D.str)), z6, ?_⟩)⟩
        · unfold lcStep
          push_cast [in_tupS]
          by_cases c4 : o ∈ f
          · rw [if_pos c4] at h ⊢
            exact h
          · rw [if_neg c4] at h ⊢
            exact h
        · rw [hg, List.nil_append, filt_strs]
      · rw [if_neg c3]
        rw [if_neg c3] at hg
        exact hK2 _ _ ⟨rfl, _, _, by rw [hg]⟩
def S_Rack_faults : DSp := fun ds O P E => ∃ (gs : List Gs) (gr : List (List Str)), ds = [rackD gs gr] ∧ gr.length ≤ 1000 ∧ P (grpD gr) O
def N_Rack_faults : List Str := ["self", "group"]
def T_Rack_faults : DS := (dRet (dLc (dItL (dFld [.Rack] .groups (dVar 0))) (dgN 1) dYes (dCB fListS (dCons (dVar 1) dNil)) [1]))

theorem pure_Rack_faults : Pure N_Rack_faults 1 S_Rack_faults T_Rack_faults := by
  rintro ds O P E ⟨gs, gr, rfl, hl, k⟩
  refine ⟨rfl, Opn.now ?_⟩
  have hs : startD N_Rack_faults [rackD gs gr] = [some (rackD gs gr), none] := rfl
  rw [hs]
  unfold T_Rack_faults
  push_cast [obj_r, grpD]
  refine ⟨by omega, fun p hp => lc_map (fun g : List Str => D.lst (g.map D.str)) (fun g hg acc C h => ?_) (weak_now k)⟩
  unfold lcStep
  push_cast [f_listSL]
  exact h

/-! the choices of so many of n things -/
def stR (row : List Nat) : Nat := match row.getLast? with | none => 0 | some l => l + 1
def picksN (n : Nat) : Nat → List (List Nat)
  | 0 => [[]]
  | k + 1 => (picksN n k).flatMap fun row => ((List.range n).filter fun a => decide (stR row ≤ a)).map fun a => row ++ [a]
theorem tail_sum (s : Nat) : ∀ n : Nat, (((List.range n).filter fun a => decide (s ≤ a)).map fun a => 2 ^ (n - (a + 1))).sum + 1 ≤ 2 ^ (n - s)
  | 0 => by simp
  | n + 1 => by
    have ih := tail_sum s n
    have e : (((List.range n).filter fun a => decide (s ≤ a)).map fun a => 2 ^ (n + 1 - (a + 1))).sum = 2 * (((List.range n).filter fun a => decide (s ≤ a)).map fun a => 2 ^ (n - (a + 1))).sum := by
      have : ∀ l : List Nat, (∀ a ∈ l, a < n) → (l.map fun a => 2 ^ (n + 1 - (a + 1))).sum = 2 * (l.map fun a => 2 ^ (n - (a + 1))).sum := fun l => by
        induction l with
        | nil => intro _; rfl
        | cons a l ih =>
          intro h
          have ha := h a (by simp)
          have e1 : n + 1 - (a + 1) = (n - (a + 1)) + 1 := by omega
          simp only [List.map_cons, List.sum_cons, ih fun x hx => h x (by simp [hx]), e1, Nat.pow_succ]
          omega
      exact this _ fun a ha => List.mem_range.mp (List.mem_filter.mp ha).1
    rw [List.range_succ, List.filter_append, List.map_append, List.sum_append, e]
    by_cases c : s ≤ n
    · have e2 : n + 1 - s = (n - s) + 1 := by omega
      rw [List.filter_cons_of_pos (by simpa using c), e2, Nat.pow_succ]
      simp
      omega
    · have e2 : n + 1 - s = 0 := by omega
      have e3 : n - s = 0 := by omega
      rw [List.filter_cons_of_neg (by simpa using c), e2]
      rw [e3] at ih
      simp at ih ⊢
      omega
theorem stR_snoc (row : List Nat) (a : Nat) : stR (row ++ [a]) = a + 1 := by simp [stR]
theorem picks_sum (n : Nat) : ∀ k : Nat, ((picksN n k).map fun row => 2 ^ (n - stR row)).sum ≤ 2 ^ n
  | 0 => by simp [picksN, stR]
  | k + 1 => by
    have ih := picks_sum n k
    have : ∀ l : List (List Nat), ((l.flatMap fun row => ((List.range n).filter fun a => decide (stR row ≤ a)).map fun a => row ++ [a]).map fun row => 2 ^ (n - stR row)).sum ≤ (l.map fun row => 2 ^ (n - stR row)).sum := fun l => by
      induction l with
      | nil => simp
      | cons row l ih2 =>
        rw [List.flatMap_cons, List.map_append, List.sum_append, List.map_cons, List.sum_cons, List.map_map]
        have e : (((List.range n).filter fun a => decide (stR row ≤ a)).map ((fun row => 2 ^ (n - stR row)) ∘ fun a => row ++ [a])) = (((List.range n).filter fun a => decide (stR row ≤ a)).map fun a => 2 ^ (n - (a + 1))) := List.map_congr_left fun a _ => by simp only [Function.comp, stR_snoc]
        rw [e]
        have := tail_sum (stR row) n
        omega
    have h := this (picksN n k)
    simp only [picksN]
    omega
theorem picks_len (n k : Nat) : (picksN n k).length ≤ 2 ^ n := by
  have : ∀ l : List (List Nat), l.length ≤ (l.map fun row => 2 ^ (n - stR row)).sum := fun l => by
    induction l with
    | nil => simp
    | cons row l ih =>
      have := Nat.pow_pos (n := n - stR row) (show 0 < 2 by omega)
      simp only [List.length_cons, List.map_cons, List.sum_cons]
      omega
  exact Nat.le_trans (this _) (picks_sum n k)
theorem picks_lt (n : Nat) : ∀ (k : Nat) (row : List Nat), row ∈ picksN n k → (∀ a ∈ row, a < n) ∧ row.length = k
  | 0, row, h => by
    simp [picksN] at h
    subst h
    simp
  | k + 1, row, h => by
    simp only [picksN, List.mem_flatMap] at h
    obtain ⟨r, hr, hm⟩ := h
    obtain ⟨a, ha, rfl⟩ := List.mem_map.mp hm
    obtain ⟨h1, h2⟩ := picks_lt n k r hr
    refine ⟨fun x hx => ?_, by simp [h2]⟩
    rcases List.mem_append.mp hx with q | q
    · exact h1 x q
    · rw [List.mem_singleton.mp q]
      exact List.mem_range.mp (List.mem_filter.mp ha).1
theorem pow15 {n : Nat} (h : n ≤ 15) : 2 ^ n ≤ 32768 := by
  have := Nat.pow_le_pow_right (show 0 < 2 by omega) h
  simpa using this
def rowT (row : List Nat) : D := .tup (row.map fun i : Nat => D.int (i : Int))
def rowL (row : List Nat) : D := .lst (row.map fun i : Nat => D.int (i : Int))
/-- the gauges of each choice -/
def lotsN (names : List Str) (gr : List (List Str)) (k : Nat) : List (List Str) := (picksN gr.length k).map fun pick => names.filter fun n => decide (n ∈ pick.flatMap fun i => gr.getD i [])
def lotD (l : List Str) : D := .lst (l.map D.str)
def S_picks : DSp := fun ds O P E => ∃ (n k : Nat), ds = [.int (n : Int), .int (k : Int)] ∧ n ≤ 15 ∧ k ≤ 1000 ∧ P (.lst ((picksN n k).map rowT)) O
def N_picks : List Str := ["many", "count", "found", "turn", "row", "at"]
def T_picks_0 : DS := (dAsg 2 (dLc2 (dItL (dVar 2)) (dgN 4) dYes (dRng1 (dCons (dVar 0) dNil)) (dgN 5) (dOr (dNot (dTru (dVar 4))) (dTe (dOp fGt (dVar 5) (dOp fIx (dVar 4) (dUn fNeg (dC (.int 1))))))) (dOp fAddT (dVar 4) (dTup (dCons (dVar 5) dNil))) [4, 5] [5]))
def T_picks_1 : DS := (dSeq (dFor (dRng1 (dCons (dVar 1) dNil)) (dgN 3) T_picks_0) (dRet (dVar 2)))
def T_picks : DS := (dSeq (dAsg 2 (dLst (dCons (dTup dNil) dNil))) T_picks_1)

theorem pure_picks : Pure N_picks 2 S_picks T_picks := by
  rintro ds O P E ⟨n, k, rfl, hn, hk, kk⟩
  refine ⟨rfl, Opn.now ?_⟩
  have hs : startD N_picks [.int (n : Int), .int (k : Int)] = [some (.int (n : Int)), some (.int (k : Int)), none, none, none, none] := rfl
  rw [hs]
  unfold T_picks
  push_cast
  unfold T_picks_1
  push_cast [rangeD_emb]
  refine ⟨by omega, by omega, ?_⟩
  refine for_inv2 (emb := fun j : Nat => D.int (0 + (j : Int))) (I := fun l Δ O1 => O1 = O ∧ ∃ z3 z4 z5, Δ = [some (.int (n : Int)), some (.int (k : Int)), some (.lst ((picksN n l.length).map rowT)), z3, z4, z5]) ⟨rfl, none, none, none, rfl⟩ ?_ ?_
  · rintro Δ O1 ⟨rfl, z3, z4, z5, rfl⟩
    push_cast
    simp only [Int.toNat_natCast, List.length_range]
    exact weak_now kk
  · rintro l x r e Δ O1 K ⟨rfl, z3, z4, z5, rfl⟩ hK
    unfold T_picks_0
    push_cast
    intro p hp
    have e1 : (l ++ [x]).length = l.length + 1 := by simp
    refine lc2_map (emb := rowT) (fun row => ((List.range n).filter fun a => decide (stR row ≤ a)).map fun a => rowT (row ++ [a])) (fun l1 row r1 e2 C hC => ?_) ?_
    · have hacc : ([] ++ l1.flatMap fun row => ((List.range n).filter fun a => decide (stR row ≤ a)).map fun a => rowT (row ++ [a])).length ≤ 32768 := by
        have h1 := picks_len n (l.length + 1)
        have h2 := pow15 hn
        simp only [picksN, e2, List.flatMap_append, List.length_append] at h1
        rw [List.nil_append]
        have h3 : (l1.flatMap fun row => ((List.range n).filter fun a => decide (stR row ≤ a)).map fun a => rowT (row ++ [a])).length = (l1.flatMap fun row => ((List.range n).filter fun a => decide (stR row ≤ a)).map fun a => row ++ [a]).length := by
          rw [List.length_flatMap, List.length_flatMap]
          congr 1
          exact List.map_congr_left fun row _ => by simp
        omega
      unfold lc2Step
      push_cast [rangeD_emb]
      refine ⟨by omega, by omega, by simp; omega, by omega, ?_⟩
      refine lc_det (emb := fun j : Nat => D.int (0 + (j : Int))) (fun a => if stR row ≤ a then some (rowT (row ++ [a])) else none) (fun a ha acc C2 h2 => ?_) ?_
      · unfold lcStep
        have ha' : a < n := by simpa using ha
        rcases List.eq_nil_or_concat row with rfl | ⟨ini, z, rfl⟩
        · push_cast [rowT]
          simpa [rowT, stR] using h2
        · rw [List.concat_eq_append]
          rw [List.concat_eq_append] at h2 e2
          have hln : (ini ++ [z]).length = l.length := (picks_lt n l.length (ini ++ [z]) (by rw [e2]; simp)).2
          have hll : l.length < k := by
            have := congrArg List.length e
            simp at this
            omega
          push_cast [rowT]
          have e3 : (List.map (fun i : Nat => D.int (i : Int)) (ini ++ [z])).isEmpty = false := by simp
          have e4 : atI (List.map (fun i : Nat => D.int (i : Int)) (ini ++ [z])) (-1) = some (.int (z : Int)) := by rw [List.map_append]; exact at_m1
          rw [e3, e4]
          push_cast
          by_cases c : z + 1 ≤ a
          · simp only [stR_snoc, if_pos c] at h2
            rw [if_pos (by omega)]
            refine ⟨by rw [hln]; simp only [sizeLine]; omega, ?_⟩
            simpa [rowT] using h2
          · simp only [stR_snoc, if_neg c] at h2
            rw [if_neg (by omega)]
            exact h2
      · have e3 : List.filterMap (fun a => if stR row ≤ a then some (rowT (row ++ [a])) else none) (List.range (n : Int).toNat) = ((List.range n).filter fun a => decide (stR row ≤ a)).map fun a => rowT (row ++ [a]) := by
          rw [Int.toNat_natCast]
          generalize List.range n = ys
          induction ys with
          | nil => rfl
          | cons y ys ih =>
            by_cases c : stR row ≤ y
            · rw [List.filterMap_cons, if_pos c, List.filter_cons_of_pos (by simpa using c), List.map_cons, ih]
            · rw [List.filterMap_cons, if_neg c, List.filter_cons_of_neg (by simpa using c), ih]
        rw [e3]
        exact hC
    · refine hK _ _ ⟨rfl, some (.int (0 + (x : Int))), z4, z5, ?_⟩
      rw [e1, picksN, List.map_flatMap]
      simp only [List.nil_append, List.map_map]
      rfl
def S_law_picks : DSp := fun ds O P E => ∃ (n k : Nat), ds = [.int (n : Int), .int (k : Int)] ∧ n ≤ 15 ∧ k ≤ 1000 ∧ P (.lst ((picksN n k).map rowL)) O
def N_law_picks : List Str := ["_law_many", "_law_count", "_law_rows", "_law_turn", "_law_longer", "_law_row", "_law_at"]
def T_law_picks_0 : DS := (dAsg 4 (dOp fAdd (dVar 4) (dLc (dRng1 (dCons (dVar 0) dNil)) (dgN 6) (dOr (dNot (dTru (dVar 5))) (dTe (dOp fGt (dVar 6) (dOp fIx (dVar 5) (dUn fNeg (dC (.int 1))))))) (dOp fAdd (dVar 5) (dLst (dCons (dVar 6) dNil))) [6])))
def T_law_picks_1 : DS := (dSeq (dFor (dItL (dVar 2)) (dgN 5) T_law_picks_0) (dAsg 2 (dVar 4)))
def T_law_picks_2 : DS := (dSeq (dFor (dRng1 (dCons (dVar 1) dNil)) (dgN 3) (dSeq (dAsg 4 (dLst dNil)) T_law_picks_1)) (dRet (dVar 2)))
def T_law_picks : DS := (dSeq (dAsg 2 (dLst (dCons (dLst dNil) dNil))) T_law_picks_2)

theorem pure_law_picks : Pure N_law_picks 2 S_law_picks T_law_picks := by
  rintro ds O P E ⟨n, k, rfl, hn, hk, kk⟩
  refine ⟨rfl, Opn.now ?_⟩
  have hs : startD N_law_picks [.int (n : Int), .int (k : Int)] = [some (.int (n : Int)), some (.int (k : Int)), none, none, none, none, none] := rfl
  rw [hs]
  unfold T_law_picks
  push_cast
  unfold T_law_picks_2
  push_cast [rangeD_emb]
  refine ⟨by omega, by omega, ?_⟩
  refine for_inv2 (emb := fun j : Nat => D.int (0 + (j : Int))) (I := fun l Δ O1 => O1 = O ∧ ∃ z3 z4 z5 z6, Δ = [some (.int (n : Int)), some (.int (k : Int)), some (.lst ((picksN n l.length).map rowL)), z3, z4, z5, z6]) ⟨rfl, none, none, none, none, rfl⟩ ?_ ?_
  · rintro Δ O1 ⟨rfl, z3, z4, z5, z6, rfl⟩
    push_cast
    simp only [Int.toNat_natCast, List.length_range]
    exact weak_now kk
  · rintro l x r e Δ O1 K ⟨rfl, z3, z4, z5, z6, rfl⟩ hK
    have e1 : (l ++ [x]).length = l.length + 1 := by simp
    have hll : l.length < k := by
      have := congrArg List.length e
      simp at this
      omega
    push_cast
    unfold T_law_picks_1
    push_cast
    refine for_inv2 (emb := rowL) (I := fun l1 Δ O2 => O2 = O1 ∧ ∃ z5 z6, Δ = [some (.int (n : Int)), some (.int (k : Int)), some (.lst ((picksN n l.length).map rowL)), some (.int (0 + (x : Int))), some (.lst (l1.flatMap fun row => ((List.range n).filter fun a => decide (stR row ≤ a)).map fun a => rowL (row ++ [a]))), z5, z6]) ⟨rfl, _, _, rfl⟩ ?_ ?_
    · rintro Δ O2 ⟨rfl, z5, z6, rfl⟩
      push_cast
      refine hK _ _ ⟨rfl, some (.int (0 + (x : Int))), some (.lst ((picksN n l.length).flatMap fun row => ((List.range n).filter fun a => decide (stR row ≤ a)).map fun a => rowL (row ++ [a]))), z5, z6, ?_⟩
      rw [e1, picksN, List.map_flatMap]
      simp only [List.map_map]
      rfl
    · rintro l1 row r1 e2 Δ O2 K2 ⟨rfl, z5, z6, rfl⟩ hK2
      have hall : ∀ l2 : List (List Nat), (∃ r2, picksN n l.length = l2 ++ r2) → (l2.flatMap fun row => ((List.range n).filter fun a => decide (stR row ≤ a)).map fun a => rowL (row ++ [a])).length ≤ 32768 := by
        rintro l2 ⟨r2, e3⟩
        have h1 := picks_len n (l.length + 1)
        have h2 := pow15 hn
        simp only [picksN, e3, List.flatMap_append, List.length_append] at h1
        have h3 : (l2.flatMap fun row => ((List.range n).filter fun a => decide (stR row ≤ a)).map fun a => rowL (row ++ [a])).length = (l2.flatMap fun row => ((List.range n).filter fun a => decide (stR row ≤ a)).map fun a => row ++ [a]).length := by
          rw [List.length_flatMap, List.length_flatMap]
          congr 1
          exact List.map_congr_left fun row _ => by simp
        omega
      have hacc := hall (l1 ++ [row]) ⟨r1, by rw [e2]; simp⟩
      unfold T_law_picks_0
      push_cast [rangeD_emb]
      refine ⟨by omega, by omega, by simp; omega, fun p hp => ?_⟩
      refine lc_det (emb := fun j : Nat => D.int (0 + (j : Int))) (fun a => if stR row ≤ a then some (rowL (row ++ [a])) else none) (fun a ha acc C2 h2 => ?_) ?_
      · unfold lcStep
        have ha' : a < n := by simpa using ha
        rcases List.eq_nil_or_concat row with rfl | ⟨ini, z, rfl⟩
        · push_cast [rowL]
          simpa [rowL, stR] using h2
        · rw [List.concat_eq_append]
          rw [List.concat_eq_append] at h2 e2
          have hln : (ini ++ [z]).length = l.length := (picks_lt n l.length (ini ++ [z]) (by rw [e2]; simp)).2
          push_cast [rowL]
          have e3 : (List.map (fun i : Nat => D.int (i : Int)) (ini ++ [z])).isEmpty = false := by simp
          have e4 : atI (List.map (fun i : Nat => D.int (i : Int)) (ini ++ [z])) (-1) = some (.int (z : Int)) := by rw [List.map_append]; exact at_m1
          rw [e3, e4]
          push_cast
          by_cases c : z + 1 ≤ a
          · simp only [stR_snoc, if_pos c] at h2
            rw [if_pos (by omega)]
            refine ⟨by rw [hln]; simp only [sizeLine]; omega, ?_⟩
            simpa [rowL] using h2
          · simp only [stR_snoc, if_neg c] at h2
            rw [if_neg (by omega)]
            exact h2
      · have e3 : List.filterMap (fun a => if stR row ≤ a then some (rowL (row ++ [a])) else none) (List.range (n : Int).toNat) = ((List.range n).filter fun a => decide (stR row ≤ a)).map fun a => rowL (row ++ [a]) := by
          rw [Int.toNat_natCast]
          generalize List.range n = ys
          induction ys with
          | nil => rfl
          | cons y ys ih =>
            by_cases c : stR row ≤ y
            · rw [List.filterMap_cons, if_pos c, List.filter_cons_of_pos (by simpa using c), List.map_cons, ih]
            · rw [List.filterMap_cons, if_neg c, List.filter_cons_of_neg (by simpa using c), ih]
        rw [e3]
        simp only [List.flatMap_append, List.flatMap_cons, List.flatMap_nil, List.append_nil, List.length_append] at hacc
        refine ⟨by rw [List.nil_append, sizeLine_eq]; omega, hK2 _ _ ⟨rfl, some (rowL row), z6, ?_⟩⟩
        simp only [List.flatMap_append, List.flatMap_cons, List.flatMap_nil, List.append_nil, List.nil_append]
def S_law_lots : DSp := fun ds O P E => ∃ (ws : List Str) (gr : List (List Str)) (k : Nat), ds = [.lst (ws.map D.str), grpD gr, .int (k : Int)] ∧ gr.length ≤ 15 ∧ k ≤ 1000 ∧ ws.length ≤ 1000 ∧ (∀ g ∈ gr, g.length ≤ 1000) ∧ P (.lst ((lotsN ws gr k).map lotD)) O
def N_law_lots : List Str := ["_law_words_here", "_law_faults_here", "_law_count", "_law_lots_here", "_law_row", "_law_chosen", "_law_at", "_law_word_here"]
def T_law_lots_0 : DS := (dExp (dApp (dVar 3) (dLc (dItL (dVar 0)) (dgN 7) (dTe (dOp fIn (dVar 7) (dVar 5))) (dVar 7) [7])))
def T_law_lots_1 : DS := (dSeq (dFor (dItL (dVar 4)) (dgN 6) (dAsg 5 (dOp fAdd (dVar 5) (dOp fIx (dVar 1) (dVar 6))))) T_law_lots_0)
def T_law_lots_2 : DS := (dSeq (dFor (dItL (dCall S_law_picks (dCons (dCB fLen (dCons (dVar 1) dNil)) (dCons (dVar 2) dNil)))) (dgN 4) (dSeq (dAsg 5 (dLst dNil)) T_law_lots_1)) (dRet (dFrz (dVar 3))))
def T_law_lots : DS := (dSeq (dAsg 3 (dLstO dNil)) T_law_lots_2)

theorem pure_law_lots : Pure N_law_lots 3 S_law_lots T_law_lots := by
  rintro ds O P E ⟨ws, gr, k, rfl, h15, hk, hwl, hgr, kk⟩
  refine ⟨rfl, Opn.now ?_⟩
  have hs : startD N_law_lots [.lst (ws.map D.str), grpD gr, .int (k : Int)] = [some (.lst (ws.map D.str)), some (grpD gr), some (.int (k : Int)), none, none, none, none, none] := rfl
  rw [hs]
  unfold T_law_lots
  push_cast
  intro p hp
  unfold T_law_lots_2
  push_cast [grpD]
  refine ⟨gr.length, k, rfl, h15, hk, ?_⟩
  refine for_inv2 (emb := rowL) (I := fun l Δ O1 => O1 = (p, .lst (l.map fun pick => lotD (ws.filter fun n => decide (n ∈ pick.flatMap fun i => gr.getD i [])))) :: O ∧ ∃ z4 z5 z6 z7, Δ = [some (.lst (ws.map D.str)), some (grpD gr), some (.int (k : Int)), some (.ptr p), z4, z5, z6, z7]) ⟨rfl, none, none, none, none, rfl⟩ ?_ ?_
  · rintro Δ O1 ⟨rfl, z4, z5, z6, z7, rfl⟩
    push_cast
    refine weak_now ?_
    have k' := kk
    rw [lotsN, List.map_map] at k'
    exact k'
  · rintro l row r e Δ O1 K ⟨rfl, z4, z5, z6, z7, rfl⟩ hK
    obtain ⟨hr1, hr2⟩ := picks_lt gr.length k row (by rw [e]; simp)
    have hcnt : l.length < 32768 := by
      have h1 := picks_len gr.length k
      have h2 := pow15 h15
      rw [e, List.length_append, List.length_cons] at h1
      omega
    push_cast
    unfold T_law_lots_1
    push_cast [rowL]
    refine for_inv2 (emb := fun i : Nat => D.int (i : Int)) (I := fun l1 Δ O2 => O2 = (p, .lst (l.map fun pick => lotD (ws.filter fun n => decide (n ∈ pick.flatMap fun i => gr.getD i [])))) :: O ∧ ∃ z6 z7, Δ = [some (.lst (ws.map D.str)), some (grpD gr), some (.int (k : Int)), some (.ptr p), some (rowL row), some (.lst ((l1.flatMap fun i => gr.getD i []).map D.str)), z6, z7]) ⟨rfl, _, _, rfl⟩ ?_ ?_
    · rintro Δ O2 ⟨rfl, z6, z7, rfl⟩
      unfold T_law_lots_0
      push_cast [in_lstS]
      refine ⟨by omega, fun p2 hp2 => ?_⟩
      refine lc_filter (emb := D.str) D.str (fun n => decide (n ∈ row.flatMap fun i => gr.getD i [])) (fun s hs acc C3 h3 => ?_) ?_
      · unfold lcStep
        push_cast [in_lstS]
        by_cases c : s ∈ row.flatMap fun i => gr.getD i []
        · simp only [c, decide_true, if_true] at h3 ⊢
          exact h3
        · simp only [c, decide_false] at h3 ⊢
          exact h3
      · push_cast
        refine ⟨by rw [sizeLine_eq]; omega, hK _ _ ⟨?_, _, _, _, _, rfl⟩⟩
        rw [List.map_append]
        rfl
    · rintro l1 a r1 e2 Δ O2 K2 ⟨rfl, z6, z7, rfl⟩ hK2
      have ha : a < gr.length := hr1 a (by rw [e2]; simp)
      have hacc : (l1.flatMap fun i => gr.getD i []).length ≤ l1.length * 1000 := by
        clear hK2 e2
        induction l1 with
        | nil => simp
        | cons i l1 ih =>
          rw [List.flatMap_cons, List.length_append, List.length_cons]
          have : (gr.getD i []).length ≤ 1000 := by
            rw [List.getD_eq_getElem?_getD]
            cases q : gr[i]? with
            | none => simp
            | some g => exact hgr g (List.mem_of_getElem? q)
          omega
      have hlr := congrArg List.length e2
      rw [List.length_append, List.length_cons, hr2] at hlr
      have eg : gr[a]? = some (gr.getD a []) := by rw [List.getD_eq_getElem?_getD, List.getElem?_eq_getElem ha]; rfl
      have hga : (gr.getD a []).length ≤ 1000 := hgr _ (List.mem_of_getElem? eg)
      have ei : ∀ O : Sto, fIx (grpD gr) (.int (a : Int)) O = fun P => P (.lst ((gr.getD a []).map D.str)) O := by
        intro O
        funext P
        have e9 : atI (gr.map fun g => D.lst (g.map D.str)) (a : Int) = some (.lst ((gr.getD a []).map D.str)) := at_get ha
        show (match atI (gr.map fun g => D.lst (g.map D.str)) (a : Int) with | some d => P d _ | none => False) = _
        rw [e9]
      push_cast [ei]
      refine ⟨by rw [sizeLine_eq]; omega, hK2 _ _ ⟨rfl, some (.int (a : Int)), z7, ?_⟩⟩
      simp only [List.flatMap_append, List.flatMap_cons, List.flatMap_nil, List.append_nil, List.map_append]
/-- a lot that is handed out: as it is, or as an own list -/
def lotY (b : Bool) (l : List Str) : Yd := if b = true then ⟨some (.lst (l.map D.str)), D.ptr⟩ else ydP (lotD l)
def S_liar_lots : DSG := fun ds CO ys => ∃ (gs : List Gs) (gr : List (List Str)) (k : Nat) (b : Bool), ds = [rackD gs gr, .int (k : Int)] ∧ gr.length ≤ 15 ∧ k ≤ 1000 ∧ gs.length ≤ 1000 ∧ (∀ g ∈ gr, g.length ≤ 1000) ∧ (∀ O, CO O) ∧ ys = (lotsN (nmG gs) gr k).map (lotY b)
def N_liar_lots : List Str := ["rack", "liars", "groups", "pick", "chosen", "at", "name"]
def T_liar_lots_0 : DS := (dAsg 4 (dLc2 (dItT (dVar 3)) (dgN 5) dYes (dItL (dOp fIx (dVar 2) (dVar 5))) (dgN 6) dYes (dVar 6) [5, 6] [6]))
def Tp_liar_lots : DS := (dAsg 2 (dMeth [(.Rack, S_Rack_faults)] (dVar 0) dNil))
def R_liar_lots : DA := (dItL (dCall S_picks (dCons (dCB fLen (dCons (dVar 2) dNil)) (dCons (dVar 1) dNil))))
def Gd_liar_lots : DG := (dgN 3)
def B_liar_lots : DS := T_liar_lots_0
def Te_liar_lots : DE := (dMay (dLcO (dItL (dMeth [(.Rack, S_Rack_names)] (dVar 0) dNil)) (dgN 6) (dTe (dOp fIn (dVar 6) (dVar 4))) (dVar 6) [6]))

theorem pure_liar_lots : PureGC N_liar_lots 2 S_liar_lots Tp_liar_lots R_liar_lots Gd_liar_lots B_liar_lots Te_liar_lots := by
  rintro ds CO ys ⟨gs, gr, k, b, rfl, h15, hk, hgl, hgr, hCO, rfl⟩
  refine ⟨rfl, fun O _ => Opn.now ?_⟩
  have hs : startD N_liar_lots [rackD gs gr, .int (k : Int)] = [some (rackD gs gr), some (.int (k : Int)), none, none, none, none, none] := rfl
  rw [hs]
  unfold Tp_liar_lots
  push_cast [cls_r]
  refine ⟨gs, gr, rfl, by omega, ?_⟩
  unfold R_liar_lots
  push_cast [grpD]
  refine ⟨gr.length, k, rfl, h15, hk, ?_⟩
  refine ⟨fun _ _ _ w => w, ?_⟩
  have h0 : (lotsN (nmG gs) gr k).map (lotY b) = (picksN gr.length k).map fun pick => lotY b ((nmG gs).filter fun n => decide (n ∈ pick.flatMap fun i => gr.getD i [])) := by rw [lotsN, List.map_map]; rfl
  rw [h0]
  have h := slpC_map (CO := CO) (Gd := Gd_liar_lots) (B := B_liar_lots) (Te := Te_liar_lots) (emb := rowT) (out := fun pick => lotY b ((nmG gs).filter fun n => decide (n ∈ pick.flatMap fun i => gr.getD i []))) (I := fun _ Δ => ∃ z3 z4 z5 z6, Δ = [some (rackD gs gr), some (.int (k : Int)), some (grpD gr), z3, z4, z5, z6]) (xs := picksN gr.length k) ?_ (picksN gr.length k) [] _ rfl ⟨none, none, none, none, rfl⟩
  · exact h
  rintro l row r Δ O1 _ e ⟨z3, z4, z5, z6, rfl⟩ K hK
  unfold Gd_liar_lots B_liar_lots T_liar_lots_0
  push_cast
  obtain ⟨hr1, hr2⟩ := picks_lt gr.length k row (by rw [e]; simp)
  show ∀ p : Addr, _
  intro p hp
  refine lc2_map (emb := fun i : Nat => D.int (i : Int)) (fun i => (gr.getD i []).map D.str) (fun l1 a r1 e2 C hC => ?_) ?_
  · have ha : a < gr.length := hr1 a (by rw [e2]; simp)
    have hacc : ([] ++ l1.flatMap fun i => (gr.getD i []).map D.str).length ≤ l1.length * 1000 := by
      rw [List.nil_append]
      clear hC e2
      induction l1 with
      | nil => simp
      | cons i l1 ih =>
        rw [List.flatMap_cons, List.length_append, List.length_map, List.length_cons]
        have : (gr.getD i []).length ≤ 1000 := by
          rw [List.getD_eq_getElem?_getD]
          cases q : gr[i]? with
          | none => simp
          | some g => exact hgr g (List.mem_of_getElem? q)
        omega
    have hlr := congrArg List.length e2
    rw [List.length_append, List.length_cons, hr2] at hlr
    unfold lc2Step
    have eg : gr[a]? = some (gr.getD a []) := by rw [List.getD_eq_getElem?_getD, List.getElem?_eq_getElem ha]; rfl
    have hga : (gr.getD a []).length ≤ 1000 := hgr _ (List.mem_of_getElem? eg)
    have ei : fIx (grpD gr) (.int (a : Int)) ((p, .lst ([] ++ l1.flatMap fun i => (gr.getD i []).map D.str)) :: O1) = fun P => P (.lst ((gr.getD a []).map D.str)) ((p, .lst ([] ++ l1.flatMap fun i => (gr.getD i []).map D.str)) :: O1) := by
      funext P
      have e9 : atI (gr.map fun g => D.lst (g.map D.str)) (a : Int) = some (.lst ((gr.getD a []).map D.str)) := at_get ha
      show (match atI (gr.map fun g => D.lst (g.map D.str)) (a : Int) with | some d => P d _ | none => False) = _
      rw [e9]
    push_cast [ei]
    refine ⟨by omega, by omega, ?_⟩
    refine lc_mapA (fun s : Str => D.str s) (fun s hs acc C3 h3 => ?_) hC
    unfold lcStep
    push_cast
    exact h3
  · rw [List.nil_append]
    unfold Te_liar_lots
    push_cast [cls_r]
    refine ⟨gs, gr, rfl, ?_⟩
    push_cast
    refine ⟨by rw [nmG, List.length_map]; omega, fun p2 hp2 => ?_⟩
    have ec : (row.flatMap fun i => (gr.getD i []).map D.str) = (row.flatMap fun i => gr.getD i []).map D.str := by rw [List.map_flatMap]
    rw [ec]
    refine lc_filter (emb := D.str) D.str (fun n => decide (n ∈ row.flatMap fun i => gr.getD i [])) (fun s hs acc C3 h3 => ?_) ?_
    · unfold lcStep
      push_cast [in_lstS]
      by_cases c : s ∈ row.flatMap fun i => gr.getD i []
      · simp only [c, decide_true, if_true] at h3 ⊢
        exact h3
      · simp only [c, decide_false] at h3 ⊢
        exact h3
    · cases b with
      | true => exact .inl ⟨⟨p2, hp2, rfl, fun _ _ _ w => w⟩, hK _ ⟨_, _, _, _, rfl⟩⟩
      | false => exact .inr ⟨⟨p2, trivial, rfl, fun _ _ _ w => w⟩, hK _ ⟨_, _, _, _, rfl⟩⟩

def SelfD (n : Nat) (d : D) : Prop := ∃ x, py d = some x ∧ PyData.canLay0 x = true ∧ PyData.depth x ≤ n
theorem self_int {i : Int} {n : Nat} : SelfD n (.int i) := ⟨_, rfl, rfl, Nat.zero_le _⟩
theorem self_str {z : Str} {n : Nat} (h : PyData.strOk z = true) : SelfD n (.str z) := ⟨_, rfl, h, Nat.zero_le _⟩
theorem self_all {n : Nat} : ∀ {ds : List D}, (∀ d ∈ ds, SelfD n d) → ∃ xs, pys ds = some xs ∧ PyData.canLayAll0 xs = true ∧ PyData.depthAll xs ≤ n
  | [], _ => ⟨[], rfl, rfl, Nat.zero_le _⟩
  | d :: ds, h => by
    obtain ⟨x, h1, h2, h3⟩ := h d List.mem_cons_self
    obtain ⟨xs, q1, q2, q3⟩ := self_all fun z hz => h z (List.mem_cons_of_mem _ hz)
    refine ⟨x :: xs, by rw [pys, h1, q1], ?_, ?_⟩
    · simp only [PyData.canLayAll0, h2, q2, Bool.and_self]
    · simp only [PyData.depthAll]
      omega
theorem self_lst {n : Nat} {ds : List D} (h : ∀ d ∈ ds, SelfD n d) : SelfD (n + 1) (.lst ds) := by
  obtain ⟨xs, h1, h2, h3⟩ := self_all h
  refine ⟨.list xs, by rw [py, h1]; rfl, ?_, ?_⟩
  · simp only [PyData.canLay0, h2]
  · simp only [PyData.depth]
    omega
theorem self_tup {n : Nat} {ds : List D} (h : ∀ d ∈ ds, SelfD n d) : SelfD (n + 1) (.tup ds) := by
  obtain ⟨xs, h1, h2, h3⟩ := self_all h
  refine ⟨.tuple xs, by rw [py, h1]; rfl, ?_, ?_⟩
  · simp only [PyData.canLay0, h2]
  · simp only [PyData.depth]
    omega
theorem eqB_sel {n : Nat} {d : D} (h : SelfD n d) (hn : n ≤ 64 := by decide) : eqB d d = some true := by
  obtain ⟨x, h1, h2, h3⟩ := h
  refine eqB_self h1 ?_
  unfold SeqAt.shaped
  rw [h2, Bool.true_and]
  exact decide_eq_true (Nat.le_trans h3 hn)

def N_law : List Str := ["_law_script", "_law_box_here", "_law_words_here", "_law_specs_here", "_law_groups_here", "_law_faults_here", "_law_rack", "_law_count", "_law_due", "_law_told", "_law_lot"]
def T_law_0 : DS := (dIfS (dTe (dOp fNe (dFrz (dLiG (dPl (dGenC S_liar_lots (dCons (dVar 6) (dCons (dVar 7) dNil)))))) (dVar 8))) (dRet (dC (.bl false))) dNext)
def T_law_1 : DS := (dSeq (dFor (dItL (dVar 9)) (dgN 10) (dExp (dApp (dVar 10) (dC (.str "A"))))) T_law_0)
def T_law_2 : DS := (dSeq (dIfS (dOr (dTe (dOp fNeN (dVar 9) (dVar 8))) (dNot (dTe (dCB fAll (dCons (dLc (dItL (dVar 9)) (dgN 10) dYes (dIsB "list" (dVar 10)) [10]) dNil))))) (dRet (dC (.bl false))) dNext) T_law_1)
def T_law_3 : DS := (dSeq (dAsg 9 (dLcY (dGenC S_liar_lots (dCons (dVar 6) (dCons (dVar 7) dNil))) (dgN 10) (dVar 10) [10])) T_law_2)
def T_law_4 : DS := (dSeq (dAsg 8 (dCall S_law_lots (dCons (dVar 2) (dCons (dVar 5) (dCons (dVar 7) dNil))))) T_law_3)
def T_law_5 : DS := (dRet (dOp fEq (dMeth [(.Rack, S_Rack_faults)] (dVar 6) dNil) (dVar 5)))
def T_law_6 : DS := (dSeq (dFor (dRng1 (dCons (dOp fAdd (dCB fLen (dCons (dVar 5) dNil)) (dC (.int 1))) dNil)) (dgN 7) T_law_4) T_law_5)
def T_law_7 : DS := (dSeq (dAsg 6 (dCMeth .Rack S_Rack_of (dCons (dCall S_law_gauges (dCons (dVar 3) dNil)) (dCons (dVar 4) dNil)))) T_law_6)
def T_law_8 : DS := (dSeq (dAsg 5 (dCall S_law_faults (dCons (dVar 2) (dCons (dVar 4) dNil)))) T_law_7)
def T_law_9 : DS := (dSeq (dAsg 4 (dCall S_law_groups (dCons (dVar 1) (dCons (dVar 2) dNil)))) T_law_8)
def T_law_10 : DS := (dSeq (dAsg 3 (dCall S_law_specs (dCons (dVar 1) (dCons (dVar 2) dNil)))) T_law_9)
def T_law_11 : DS := (dSeq (dAsg 2 (dCall S_law_words (dCons (dVar 1) (dCons (dCall S_law_take (dCons (dVar 1) (dCons (dC (.int 8)) dNil))) dNil)))) T_law_10)
def T_law : DS := (dSeq (dAsg 1 (dCall S_law_box (dCons (dVar 0) (dCons (dC (.int 131)) dNil)))) T_law_11)

def HeldS (O : Sto) (qs : List Addr) (gr : List (List Str)) : Prop := All2 (fun q g => getC O q = some (.lst (g.map D.str))) qs gr
theorem isPys_held {O : Sto} {qs : List Addr} {gr : List (List Str)} (h : HeldS O qs gr) : IsPys O (qs.map D.ptr) (gr.map fun g => PyData.list (g.map PyData.str)) := by
  unfold HeldS at h
  induction h with
  | nil => exact .nil
  | cons h _ ih => exact .cons (.ptr h (isPys_strs _)) ih
theorem held_mem {O : Sto} {qs : List Addr} {gr : List (List Str)} (h : HeldS O qs gr) : ∀ q ∈ qs, ∃ g : List Str, getC O q = some (.lst (g.map D.str)) ∧ g ∈ gr := by
  unfold HeldS at h
  induction h with
  | nil => intro q hq; cases hq
  | @cons q' g' qs' gr' h1 h2 ih =>
    intro q hq
    rcases List.mem_cons.mp hq with rfl | hq
    · exact ⟨_, h1, List.mem_cons_self⟩
    · obtain ⟨g, a, b⟩ := ih q hq
      exact ⟨g, a, List.mem_cons_of_mem _ b⟩
theorem held_snoc {O : Sto} {qs : List Addr} {gr : List (List Str)} {q : Addr} {l : List Str} (h : HeldS O qs gr) (hq : freshC O q) : HeldS ((q, .lst (l.map D.str)) :: O) (qs ++ [q]) (gr ++ [l]) := by
  unfold HeldS at h ⊢
  induction h with
  | nil => exact .cons getC_self .nil
  | cons h1 _ ih => exact .cons (getC_fresh h1 hq) ih
theorem lcY_own {CO : Sto → Prop} (hCO : ∀ O, CO O) {p : Addr} {Q : List D → Sto → Prop} {a0 a1 a2 a3 a4 a5 a6 a7 a8 a9 : Option D} : ∀ (ls : List (List Str)) (qs : List Addr) (gr : List (List Str)) (O : Sto), HeldS O qs gr → qs.Nodup → (∀ qs' O', HeldS O' qs' (gr ++ ls) → qs'.Nodup → Q (qs'.map D.ptr) O') →
    lcY CO (dgN 10) (dVar 10) p Q (ls.map (lotY true)) (qs.map D.ptr) [a0, a1, a2, a3, a4, a5, a6, a7, a8, a9, none] O
  | [], qs, gr, O, h, nd, k => ⟨hCO _, k qs O (by rw [List.append_nil]; exact h) nd⟩
  | l :: ls, qs, gr, O, h, nd, k => by
    refine ⟨hCO _, fun q hq => ?_⟩
    have hq : freshC ((p, Cell.lst (qs.map D.ptr)) :: O) q := hq
    have hqO : freshC O q := fun x hx => hq x (List.mem_cons_of_mem _ hx)
    show ∃ O3, _ = _ :: O3 ∧ _
    refine ⟨_, rfl, ?_⟩
    have h2 := held_snoc (l := l) h hqO
    have nq : q ∉ qs := fun hm => by
      obtain ⟨g, hg, _⟩ := held_mem h q hm
      exact hqO _ (getC_mem hg) rfl
    have := lcY_own (p := p) hCO (Q := Q) (a0 := a0) (a1 := a1) (a2 := a2) (a3 := a3) (a4 := a4) (a5 := a5) (a6 := a6) (a7 := a7) (a8 := a8) (a9 := a9) ls (qs ++ [q]) (gr ++ [l]) _ h2 (List.nodup_append.mpr ⟨nd, by simp, fun a ha b hb e => by rw [List.mem_singleton.mp hb] at e; rw [e] at ha; exact nq ha⟩) (by simpa using k)
    rw [List.map_append] at this
    exact this
theorem len_flat : ∀ l : List (List Str), (∀ g ∈ l, g ≠ []) → l.length ≤ l.flatten.length
  | [], _ => Nat.le_refl _
  | g :: l, h => by
    have h1 := len_flat l fun x hx => h x (List.mem_cons_of_mem _ hx)
    have h2 := List.length_pos_iff.mpr (h g List.mem_cons_self)
    rw [List.flatten_cons, List.length_append, List.length_cons]
    omega
theorem pure_law : Pure N_law 1 SLaw T_law := by
  rintro ds O P E ⟨ns, rfl, rfl, k⟩
  refine ⟨rfl, Opn.now ?_⟩
  have hs : startD N_law [.scr ns] = [some (.scr ns), none, none, none, none, none, none, none, none, none, none] := rfl
  rw [hs]
  unfold T_law
  push_cast
  refine ⟨ns, 131, rfl, fun b hb => ?_⟩
  have gb : getC [(b, Cell.box)] b = some .box := getC_self
  unfold T_law_11
  push_cast
  refine ⟨b, _, rfl, gb, by omega, by omega, fun r h0 h1 => ?_⟩
  obtain ⟨m, rfl⟩ : ∃ m : Nat, r = (m : Int) := ⟨r.toNat, by omega⟩
  refine ⟨b, m, by simp, gb, by omega, fun ws hl nd hok => ?_⟩
  unfold T_law_10
  push_cast
  refine ⟨b, ws, rfl, gb, by omega, hok, fun gs hgs hg => ?_⟩
  have hgs : nmG gs = ws := hgs
  subst hgs
  have hgl : (nmG gs).length = gs.length := by unfold nmG; rw [List.length_map]
  have okS : ∀ z ∈ nmG gs, PyData.strOk z = true := fun z hz => ok_word (hok z hz)
  have fd := nd_none nd
  unfold T_law_9
  push_cast
  refine ⟨b, _, rfl, gb, nd, by omega, fun g0 g1 grk => ?_⟩
  unfold T_law_8
  push_cast
  refine ⟨_, [g0, g1], rfl, by omega, okS, grk, ?_⟩
  have tgl : ∀ g ∈ [g0, g1], g.length ≤ 1000 := fun g hg' => by have := grk.len hg'; omega
  have fa := groupsR_ok grk
  unfold T_law_7
  push_cast
  refine ⟨gs, rfl, by omega, fun s hs => (hg s hs).1, fun p1 hp1 => ?_⟩
  refine ⟨.ptr p1, [g0, g1], gs, rfl, seqP getC_self, by omega, by simp, tgl, fun n hn => (by rw [fd] at hn; cases hn), fun _ => ⟨fun ec n hu => (by rw [grk.use] at hu; cases hu), fun _ => ?_⟩⟩
  generalize [(p1, Cell.lst (gs.map gaugeD)), (b, Cell.box)] = O2
  generalize groupsR (nmG gs) [g0, g1] = gr at *
  have wend : ∀ {O : Sto}, (endsD P E).rt (.bl true) O := fun {O} => ⟨_, Weak.sub (List.nil_sublist _), k _⟩
  unfold T_law_6
  push_cast [grpD, rangeD_emb]
  have hgr7 : gr.length ≤ 7 := by
    have h1 := len_flat gr fa.ne
    have h2 := fa.perm.length_eq
    omega
  have hgl2 : ∀ g ∈ gr, g.length ≤ 1000 := fun g hg' => by
    have := (fa.sub g hg').length_le
    omega
  have okL : ∀ (c : Nat), ∀ l ∈ lotsN (nmG gs) gr c, ∀ z ∈ l, PyData.strOk z = true := fun c l hl z hz => by
    obtain ⟨pick, _, rfl⟩ := List.mem_map.mp hl
    exact okS z (List.mem_filter.mp hz).1
  have lenL : ∀ c : Nat, (lotsN (nmG gs) gr c).length ≤ 1000 := fun c => by
    unfold lotsN
    rw [List.length_map]
    have h1 := picks_len gr.length c
    have h2 : 2 ^ gr.length ≤ 2 ^ 7 := Nat.pow_le_pow_right (by omega) hgr7
    omega
  refine ⟨by omega, by omega, ?_⟩
  refine for_inv2 (emb := fun j : Nat => D.int (0 + (j : Int))) (I := fun l Δ O1 => ∃ z7 z8 z9 z10 : Option D, Δ = [some (.scr ns), some (.ptr b), some (.lst ((nmG gs).map D.str)), some (.lst (gs.map specD)), some (togD [g0, g1]), some (.lst (gr.map fun g => .lst (g.map D.str))), some (rackD gs gr), z7, z8, z9, z10]) ⟨none, none, none, none, rfl⟩ ?_ ?_
  · rintro Δ O1 ⟨z7, z8, z9, z10, rfl⟩
    unfold T_law_5
    push_cast [cls_r]
    refine ⟨gs, gr, rfl, by omega, ?_⟩
    have eg : eqB (grpD gr) (.lst (gr.map fun g => .lst (g.map D.str))) = some true := by
      refine eqB_sel (n := 2) (self_lst fun d hd => ?_)
      obtain ⟨g, hg', rfl⟩ := List.mem_map.mp hd
      refine self_lst fun d hd => ?_
      obtain ⟨z, hz, rfl⟩ := List.mem_map.mp hd
      exact self_str (okS z ((fa.sub g hg').subset hz))
    show (match eqB (grpD gr) (.lst (gr.map fun g => .lst (g.map D.str))) with | some k => (endsD P E).rt (D.bl k) O1 | none => False)
    rw [eg]
    exact wend
  · rintro l c rr e Δ O1 K ⟨z7, z8, z9, z10, rfl⟩ hK
    have hc : c ≤ gr.length := by
      have : c ∈ List.range ((gr.length : Int) + 1).toNat := by rw [e]; simp
      have := List.mem_range.mp this
      omega
    push_cast
    unfold T_law_4
    push_cast [Int.zero_add]
    refine ⟨nmG gs, gr, c, rfl, by omega, by omega, by omega, hgl2, ?_⟩
    unfold T_law_3
    push_cast
    refine ⟨fun _ => True, _, ⟨gs, gr, c, true, rfl, by omega, by omega, by omega, hgl2, fun _ => trivial, rfl⟩, by rw [List.length_map]; have := lenL c; omega, fun p9 hp9 => ?_⟩
    refine lcY_own (fun _ => trivial) (lotsN (nmG gs) gr c) [] [] O1 .nil List.nodup_nil fun qs O3 hh nq => ?_
    rw [List.nil_append] at hh
    unfold T_law_2
    push_cast
    refine ⟨_, _, .lst (isPys_held hh), .lst (isPys_strss (lotsN (nmG gs) gr c)), shaped_strss (okL c), shaped_strss (okL c), ?_⟩
    have ee : PyData.eqv (.list ((lotsN (nmG gs) gr c).map fun g => PyData.list (g.map PyData.str))) (.list ((lotsN (nmG gs) gr c).map fun g => PyData.list (g.map PyData.str))) = true := by
      simp only [PyData.eqv, eqv_strss, decide_true]
    rw [ee]
    push_cast
    have lq : qs.length = (lotsN (nmG gs) gr c).length := hh.length
    have hl1 := lenL c
    refine ⟨by omega, fun p10 hp10 => lc_map (emb := D.ptr) (fun _ => D.bl true) (fun q hq acc C hC => ?_) ?_⟩
    · obtain ⟨g, hg', _⟩ := held_mem hh q hq
      unfold lcStep
      push_cast [tgD, getC_fresh hg' hp10]
      exact hC
    have efm : (qs.map fun _ => D.bl true) = (qs.map fun _ => true).map D.bl := by rw [List.map_map]; rfl
    have ec : ((qs.map fun _ => true).all id) = true := by rw [List.all_eq_true]; intro b hb; obtain ⟨a, ha, rfl⟩ := List.mem_map.mp hb; rfl
    rw [efm, f_all, ec]
    push_cast
    unfold T_law_1
    push_cast
    refine for_inv2 (emb := D.ptr) (I := fun l2 Δ O4 => (∀ q ∈ qs, q ∉ l2 → ∃ g : List Str, getC O4 q = some (.lst (g.map D.str)) ∧ g.length ≤ 1000) ∧ ∃ z10 : Option D, Δ = [some (.scr ns), some (.ptr b), some (.lst ((nmG gs).map D.str)), some (.lst (gs.map specD)), some (togD [g0, g1]), some (.lst (gr.map fun g => .lst (g.map D.str))), some (rackD gs gr), some (.int (c : Int)), some (.lst ((lotsN (nmG gs) gr c).map lotD)), some (.lst (qs.map D.ptr)), z10]) ⟨fun q hq _ => ?_, _, rfl⟩ ?_ ?_
    · obtain ⟨g, h1, h2⟩ := held_mem hh q hq
      refine ⟨g, h1, ?_⟩
      obtain ⟨pick, _, rfl⟩ := List.mem_map.mp h2
      have := List.length_filter_le (fun n => decide (n ∈ pick.flatMap fun i => gr.getD i [])) (nmG gs)
      omega
    · rintro Δ O4 ⟨_, z10, rfl⟩
      unfold T_law_0
      push_cast
      refine ⟨fun _ => True, _, ⟨gs, gr, c, false, rfl, by omega, by omega, by omega, hgl2, fun _ => trivial, rfl⟩, (lotsN (nmG gs) gr c).map lotD, by rw [List.map_map]; rfl, fun _ => trivial, by rw [List.length_map, sizeLine_eq]; omega, fun p11 hp11 => ?_⟩
      push_cast [getC_self, delC_self]
      have el : eqB (.lst ((lotsN (nmG gs) gr c).map lotD)) (.lst ((lotsN (nmG gs) gr c).map lotD)) = some true := by
        refine eqB_sel (n := 2) (self_lst fun d hd => ?_)
        obtain ⟨g, hg', rfl⟩ := List.mem_map.mp hd
        refine self_lst fun d hd => ?_
        obtain ⟨z, hz, rfl⟩ := List.mem_map.mp hd
        exact self_str (okL c g hg' z hz)
      unfold fNe
      rw [el]
      push_cast
      exact hK _ _ ⟨_, _, _, _, rfl⟩
    · rintro l2 q r2 e2 Δ O4 K2 ⟨hq4, z10, rfl⟩ hK2
      have hqm : q ∈ qs := by rw [e2]; simp
      have hql : q ∉ l2 := by
        rw [e2] at nq
        exact fun h => (List.nodup_append.mp nq).2.2 _ h _ List.mem_cons_self rfl
      obtain ⟨g, h1, h2⟩ := hq4 q hqm hql
      push_cast [h1]
      refine ⟨by rw [sizeLine_eq]; omega, hK2 _ _ ⟨fun q' hq' hn => ?_, _, rfl⟩⟩
      have hne : q' ≠ q := fun e => hn (by rw [e]; simp)
      obtain ⟨g', h3, h4⟩ := hq4 q' hq' fun h => hn (by simp [h])
      exact ⟨g', by rw [getC_setC_ne hne]; exact h3, h4⟩

section
variable {g : Gm} {P : Program} {w : World} {mg : Str → Option Value} {base : Heap}
theorem sc_law_take : FnScope N_law_take ["_law_box_here", "_law_many"] (defScope s_law_take) := ⟨rfl, rfl, rfl, by decide +kernel, rfl, by decide +kernel, by decide +kernel⟩
theorem b_law_take (B : Bt mg)  : BodyOk g P w g.K mg base 0 N_law_take "_law_take" s_law_take T_law_take := fun f cdv A outer s H E hr =>
  (qss_cons (qs_asg 2 sc_law_take.nd (q_ix (q_var 0) q_int)) (qss_cons (qs_if (PW.pt (qw_and (qt_cmp (op_eqA hr.units) lk_eq (q_ix (q_var 0) q_int) q_int (nomark _)) (qw_and (qt_cmp op_lt lk_lt (q_ix (q_var 0) q_int) (q_callB call_lenA lk_len B.len (qa_cons (q_var 2) qa_nil)) (nomark _)) (qw_and1 (qt_cmp op_gt lk_gt (q_ix (q_var 2) (q_ix (q_var 0) q_int)) (q_op op_pow lk_pow q_int q_int) (nomark _)))))) (qss_cons (qs_setIx (q_var 0) q_int (q_op op_sub lk_sub (q_ix (q_var 2) (q_ix (q_var 0) q_int)) (q_op op_pow lk_pow q_int q_int))) (qss_one (qs_setIx (q_var 0) q_int (q_op op_addA lk_add (q_ix (q_var 0) q_int) q_int)))) qss_nil) (qss_cons (qs_if (qt_cmp op_gt lk_gt (q_ix (q_var 0) q_int) q_int (nomark _)) (qss_cons (qs_asg 3 sc_law_take.nd (q_op op_mod lk_mod (q_callTy call_int1 lk_int B.int (qa_cons (q_ix (q_var 0) q_int) qa_nil)) (q_var 1))) (qss_cons (qs_setIx (q_var 0) q_int (q_op op_fdiv lk_div (q_callTy call_int1 lk_int B.int (qa_cons (q_ix (q_var 0) q_int) qa_nil)) (q_var 1))) (qss_one (qs_ret (q_var 3))))) qss_nil) (qss_cons (qs_asg 4 sc_law_take.nd q_int) (qss_cons (qs_if (qt_cmp op_lt lk_lt (q_ix (q_var 0) q_int) (q_callB call_lenA lk_len B.len (qa_cons (q_var 2) qa_nil)) (nomark _)) (qss_one (qs_asg 4 sc_law_take.nd (q_callTy call_int1 lk_int B.int (qa_cons (q_ix (q_var 2) (q_ix (q_var 0) q_int)) qa_nil)))) qss_nil) (qss_cons (qs_setIx (q_var 0) q_int (q_op op_addA lk_add (q_ix (q_var 0) q_int) q_int)) (qss_cons (qs_setIx (q_var 0) q_int (q_op op_mod lk_mod (q_callTy call_int1 lk_int B.int (qa_cons (q_op op_addA lk_add (q_op op_addA lk_add (q_op op_mul lk_mul (q_ix (q_var 0) q_int) q_int) (q_op op_mul lk_mul (q_var 4) q_int)) (q_ix (q_var 0) q_int)) qa_nil)) q_int)) (qss_one (qs_ret (q_op op_mod lk_mod (q_op op_mod lk_mod (q_callTy call_int1 lk_int B.int (qa_cons (q_op op_addA lk_add (q_op op_mul lk_mul (q_op op_fdiv lk_div (q_ix (q_var 0) q_int) q_int) q_int) (q_op op_mod lk_mod (q_callTy call_int1 lk_int B.int (qa_cons (q_ix (q_var 0) q_int) qa_nil)) q_int)) qa_nil)) q_int) (q_var 1)))))))))))

theorem sc_law_box : FnScope N_law_box ["_law_script", "_law_salt"] (defScope s_law_box) := ⟨rfl, rfl, rfl, by decide +kernel, rfl, by decide +kernel, by decide +kernel⟩
theorem b_law_box (B : Bt mg)  : BodyOk g P w g.K mg base 0 N_law_box "_law_box" s_law_box T_law_box := fun f cdv A outer s H E hr =>
  (qss_one (qs_ret (q_lstO (qa_cons (q_lc (own := [("_law_cell", 2)]) sc_law_box.nd (qi_list (q_slice (q_var 0) qo_none (qo_some q_int))) (blkOk_by (N := N_law_box) (sc := defScope s_law_box) (by decide +kernel)) (fun _ _ _ _ _ => pg_name (i := 2) sc_law_box.nd rfl (by first | exact Or.inl rfl | exact Or.inr rfl)) (lkg_name 2) (fun _ _ _ _ _ => qts_nil) (fun _ _ _ _ _ => (q_callTy call_int1 lk_int B.int (qa_cons (q_var 2) qa_nil)))) (qa_cons q_int (qa_cons q_int (qa_cons (q_var 1) qa_nil)))))))

theorem sc_law_word : FnScope N_law_word ["_law_number", "_law_many", "_law_back"] (defScope s_law_word) := ⟨rfl, rfl, rfl, by decide +kernel, rfl, by decide +kernel, by decide +kernel⟩
theorem b_law_word (B : Bt mg)  : BodyOk g P w g.K mg base 0 N_law_word "_law_word" s_law_word T_law_word := fun f cdv A outer s H E hr =>
  (qss_cons (qs_asg 3 sc_law_word.nd q_str) (qss_cons (qs_for (passes_of rfl) (qi_range1 B.range (qa_cons (q_var 1) qa_nil)) (pg_name (i := 4) sc_law_word.nd rfl (by first | exact Or.inl rfl | exact Or.inr rfl)) (lkg_name 4) (qss_cons (qs_asg 3 sc_law_word.nd (q_op op_addA lk_add (q_var 3) (q_ix q_str (q_op op_mod lk_mod (q_callTy call_int1 lk_int B.int (qa_cons (q_var 0) qa_nil)) q_int)))) (qss_one (qs_asg 0 sc_law_word.nd (q_op op_fdiv lk_div (q_callTy call_int1 lk_int B.int (qa_cons (q_var 0) qa_nil)) q_int))))) (qss_cons (qs_if (qt_tru (q_var 2)) (qss_one (qs_ret (q_revS (q_var 3)))) qss_nil) (qss_one (qs_ret (q_var 3))))))

theorem sc_law_words : FnScope N_law_words ["_law_box_here", "_law_many"] (defScope s_law_words) := ⟨rfl, rfl, rfl, by decide +kernel, rfl, by decide +kernel, by decide +kernel⟩
theorem b_law_words (B : Bt mg) (gd_law_take : GD g P w g.K mg base 1 "_law_take" S_law_take) (gd_law_word : GD g P w g.K mg base 1 "_law_word" S_law_word) : BodyOk g P w g.K mg base 1 N_law_words "_law_words" s_law_words T_law_words := fun f cdv A outer s H E hr =>
  (qss_cons (qs_asg 2 sc_law_words.nd (q_lstO qa_nil)) (qss_cons (qs_asg 3 sc_law_words.nd (q_cmp (op_eqA hr.units) lk_eq (q_gcall gd_law_take hr (takes_of rfl rfl rfl rfl) (qa_cons (q_var 0) (qa_cons q_int qa_nil))) q_int (nomark _))) (qss_cons (qs_for (passes_of rfl) (qi_range1 B.range (qa_cons (q_var 1) qa_nil)) (pg_name (i := 4) sc_law_words.nd rfl (by first | exact Or.inl rfl | exact Or.inr rfl)) (lkg_name 4) (qss_cons (qs_asg 5 sc_law_words.nd (q_ix (q_lst (qa_cons q_int (qa_cons q_int (qa_cons q_int (qa_cons q_int (qa_cons q_int (qa_cons q_int qa_nil))))))) (q_gcall gd_law_take hr (takes_of rfl rfl rfl rfl) (qa_cons (q_var 0) (qa_cons q_int qa_nil))))) (qss_cons (qs_asg 6 sc_law_words.nd (q_gcall gd_law_take hr (takes_of rfl rfl rfl rfl) (qa_cons (q_var 0) (qa_cons q_int qa_nil)))) (qss_cons (qs_asg 7 sc_law_words.nd (q_gcall gd_law_word hr (takes_of rfl rfl rfl rfl) (qa_cons (q_var 6) (qa_cons (q_var 5) (qa_cons (q_var 3) qa_nil))))) (qss_cons (qs_for (passes_of rfl) (qi_range1 B.range (qa_cons q_int qa_nil)) (pg_name (i := 8) sc_law_words.nd rfl (by first | exact Or.inl rfl | exact Or.inr rfl)) (lkg_name 8) (qss_one (qs_if (PW.pt (qw_or (qt_cmp op_in_seq lk_in (q_var 7) (q_var 2) (by rfl)) (qw_or1 (qt_cmp op_in_seq lk_in (q_var 7) (q_lst (qa_cons q_str (qa_cons q_str (qa_cons q_str (qa_cons q_str qa_nil))))) (by rfl))))) (qss_cons (qs_asg 6 sc_law_words.nd (q_op op_addA lk_add (q_var 6) q_int)) (qss_one (qs_asg 7 sc_law_words.nd (q_gcall gd_law_word hr (takes_of rfl rfl rfl rfl) (qa_cons (q_var 6) (qa_cons (q_var 5) (qa_cons (q_var 3) qa_nil))))))) qss_nil))) (qss_one (qs_expr (q_app (pe_bm PySem.F.plainAttrs_list PySem.F.slot_list_append PySem.F.type_list_append mt_append (q_var 2) (pa_cons (q_var 7) pa_nil)))))))))) (qss_one (qs_ret (q_frz (q_var 2)))))))

theorem sc_valid_name : FnScope N_valid_name ["name"] (defScope s_valid_name) := ⟨rfl, rfl, rfl, by decide +kernel, rfl, by decide +kernel, by decide +kernel⟩
theorem b_valid_name (B : Bt mg) (cvi_Gauge_LONGEST : CVI g g.K .Gauge "LONGEST" 12) (mgc_Gauge : mg "Gauge" = some (.ref (g.ca .Gauge))) (kt_WORDS : KTup g.K mg "WORDS" ["rank", "trim", "weigh", "together"]) (gs_LETTERS : ∃ t : Tok, mg "LETTERS" = some (.str "abcdefghijklmnopqrstuvwxyz" t)) : BodyOk g P w g.K mg base 0 N_valid_name "valid_name" s_valid_name T_valid_name := fun f cdv A outer s H E hr =>
  (qss_cons (qs_if (PW.pt (qw_or (qt_not (qt_val (q_isB (n := "str") B.isinstance B.str (q_var 0)))) (qw_or (qt_not (qt_chain op_le op_le lk_le lk_le q_int (q_callB call_lenA lk_len B.len (qa_cons (q_var 0) qa_nil)) (q_cvalI cvi_Gauge_LONGEST mgc_Gauge))) (qw_or1 (qt_inK kt_WORDS (q_var 0)))))) (qss_one (qs_ret q_bl)) qss_nil) (qss_one (qs_ret (q_callB (cr_all rfl) lk_all B.all (qa_cons (q_lc (own := [("sign", 1)]) sc_valid_name.nd (qi_str (q_var 0)) (blkOk_by (N := N_valid_name) (sc := defScope s_valid_name) (by decide +kernel)) (fun _ _ _ _ _ => pg_name (i := 1) sc_valid_name.nd rfl (by first | exact Or.inl rfl | exact Or.inr rfl)) (lkg_name 1) (fun _ _ _ _ _ => qts_nil) (fun _ _ _ _ _ => (q_cmp op_in_sign lk_sign (q_var 1) (q_gStr gs_LETTERS.choose_spec) (by rfl)))) qa_nil)))))

theorem sc_Gauge_init : FnScope N_Gauge_init ["self", "name", "radius"] (defScope s_Gauge_init) := ⟨rfl, rfl, rfl, by decide +kernel, rfl, by decide +kernel, by decide +kernel⟩
theorem b_Gauge_init (B : Bt mg) (gd_valid_name : GD g P w g.K mg base 1 "valid_name" S_valid_name) (gx_BadGauge : GX g P w g.K mg base .BadGauge "BadGauge" [.name]) (fl_name : Flds g [.Gauge, .CoarseGauge, .LateGauge, .LateCoarseGauge] .name) (fl_radius : Flds g [.Gauge, .CoarseGauge, .LateGauge, .LateCoarseGauge] .radius) : BodyOk g P w g.K mg base 2 N_Gauge_init "Gauge.__init__" s_Gauge_init T_Gauge_init := fun f cdv A outer s H E hr =>
  (qss_cons (qs_if (PW.pt (qw_or (qt_not (qt_val (q_gcall gd_valid_name hr (takes_of rfl rfl rfl rfl) (qa_cons (q_var 1) qa_nil)))) (qw_or1 (qt_cmp op_lt lk_lt (q_var 2) q_int (nomark _))))) (qss_one (qs_raise gx_BadGauge hr (takes_of rfl rfl rfl rfl) (qa_cons (q_var 1) qa_nil))) qss_nil) (qss_cons (qs_setF fl_name (q_var 0) (q_var 1)) (qss_one (qs_setF fl_radius (q_var 0) (q_var 2)))))

theorem sc_CoarseGauge_init : NdefX.NScope N_CoarseGauge_init ["self", "name", "radius", "step"] ["__class__"] (defScope s_CoarseGauge_init) := NdefX.nscope_by (by decide +kernel)
theorem b_CoarseGauge_init {f cc cda D : Addr} {fd : FuncData} {file : Str} (B : Bt mg) (FS : FunS g.K "__init__" "CoarseGauge.__init__" s_CoarseGauge_init f fd cc cda D file) (PG : Pg P file) (stb_CoarseGauge_init : STab g P w g.K mg base 3 D "__init__" [(.CoarseGauge, S_Gauge_init)]) (gx_BadGauge : GX g P w g.K mg base .BadGauge "BadGauge" [.name]) (fl_step : Flds g [.CoarseGauge, .LateCoarseGauge] .step) : BodyOkS g P w g.K mg base 3 N_CoarseGauge_init "__init__" "CoarseGauge.__init__" s_CoarseGauge_init f cc cda T_CoarseGauge_init := fun A outer s H E hr =>
  (qf_exp (q_sup FS PG ⟨rfl, rfl, ⟨_, rfl, rfl⟩, rfl, rfl, rfl⟩ B.super stb_CoarseGauge_init (hr.mono (by decide)) (takes_of rfl rfl rfl rfl) (qa_cons (q_var 1) (qa_cons (q_var 2) qa_nil))) (qf_cons (qs_if (qt_cmp op_lt lk_lt (q_var 3) q_int (nomark _)) (qss_one (qs_raise gx_BadGauge hr (takes_of rfl rfl rfl rfl) (qa_cons (q_var 1) qa_nil))) qss_nil) (qf_of (qss_one (qs_setF fl_step (q_var 0) (q_var 3))))))

theorem sc_LateGauge_init : FnScope N_LateGauge_init ["self", "name", "radius", "late", "pace"] (defScope s_LateGauge_init) := ⟨rfl, rfl, rfl, by decide +kernel, rfl, by decide +kernel, by decide +kernel⟩
theorem b_LateGauge_init (B : Bt mg) (mgc_Gauge : mg "Gauge" = some (.ref (g.ca .Gauge))) (ua_Gauge_init : UAt g P w g.K mg base 3 .Gauge "__init__" S_Gauge_init) (gx_BadGauge : GX g P w g.K mg base .BadGauge "BadGauge" [.name]) (fl_late : Flds g [.LateGauge, .LateCoarseGauge] .late) (fl_pace : Flds g [.LateGauge, .LateCoarseGauge] .pace) : BodyOk g P w g.K mg base 3 N_LateGauge_init "LateGauge.__init__" s_LateGauge_init T_LateGauge_init := fun f cdv A outer s H E hr =>
  (qss_cons (qs_expr (q_ucall ua_Gauge_init mgc_Gauge hr (takes_of rfl rfl rfl rfl) (qa_cons (q_var 0) (qa_cons (q_var 1) (qa_cons (q_var 2) qa_nil))))) (qss_cons (qs_if (PW.pt (qw_or (qt_cmp op_lt lk_lt (q_var 3) q_int (nomark _)) (qw_or1 (qt_cmp op_lt lk_lt (q_var 4) q_int (nomark _))))) (qss_one (qs_raise gx_BadGauge hr (takes_of rfl rfl rfl rfl) (qa_cons (q_var 1) qa_nil))) qss_nil) (qss_cons (qs_setF fl_late (q_var 0) (q_var 3)) (qss_one (qs_setF fl_pace (q_var 0) (q_var 4))))))

theorem sc_LateCoarseGauge_init : FnScope N_LateCoarseGauge_init ["self", "name", "radius", "step", "late", "pace"] (defScope s_LateCoarseGauge_init) := ⟨rfl, rfl, rfl, by decide +kernel, rfl, by decide +kernel, by decide +kernel⟩
theorem b_LateCoarseGauge_init (B : Bt mg) (mgc_LateGauge : mg "LateGauge" = some (.ref (g.ca .LateGauge))) (uak_LateGauge_init_late_pace : UAtK g P w g.K mg base 4 .LateGauge "__init__" 3 ["late", "pace"] [0, 1] S_LateGauge_init) (gx_BadGauge : GX g P w g.K mg base .BadGauge "BadGauge" [.name]) (fl_step : Flds g [.CoarseGauge, .LateCoarseGauge] .step) : BodyOk g P w g.K mg base 4 N_LateCoarseGauge_init "LateCoarseGauge.__init__" s_LateCoarseGauge_init T_LateCoarseGauge_init := fun f cdv A outer s H E hr =>
  (qss_cons (qs_expr (q_ucallK uak_LateGauge_init_late_pace mgc_LateGauge hr (takes_of rfl rfl rfl rfl) (qa_cons (q_var 0) (qa_cons (q_var 1) (qa_cons (q_var 2) qa_nil))) (qk_cons (q_var 4) (qk_cons (q_var 5) qk_nil)))) (qss_cons (qs_if (qt_cmp op_lt lk_lt (q_var 3) q_int (nomark _)) (qss_one (qs_raise gx_BadGauge hr (takes_of rfl rfl rfl rfl) (qa_cons (q_var 1) qa_nil))) qss_nil) (qss_one (qs_setF fl_step (q_var 0) (q_var 3)))))

theorem sc_law_specs : FnScope N_law_specs ["_law_box_here", "_law_words_here"] (defScope s_law_specs) := ⟨rfl, rfl, rfl, by decide +kernel, rfl, by decide +kernel, by decide +kernel⟩
theorem b_law_specs (B : Bt mg) (gd_law_take : GD g P w g.K mg base 1 "_law_take" S_law_take) : BodyOk g P w g.K mg base 1 N_law_specs "_law_specs" s_law_specs T_law_specs := fun f cdv A outer s H E hr =>
  (qss_cons (qs_asg 2 sc_law_specs.nd (q_ix (q_lst (qa_cons q_int (qa_cons q_int (qa_cons q_int (qa_cons (q_op op_pow lk_pow q_int q_int) qa_nil))))) (q_gcall gd_law_take hr (takes_of rfl rfl rfl rfl) (qa_cons (q_var 0) (qa_cons q_int qa_nil))))) (qss_cons (qs_asg 3 sc_law_specs.nd (q_ix (q_lst (qa_cons q_int (qa_cons q_int (qa_cons q_int qa_nil)))) (q_gcall gd_law_take hr (takes_of rfl rfl rfl rfl) (qa_cons (q_var 0) (qa_cons q_int qa_nil))))) (qss_cons (qs_asg 4 sc_law_specs.nd (q_lstO qa_nil)) (qss_cons (qs_for (passes_of rfl) (qi_list (q_var 1)) (pg_name (i := 5) sc_law_specs.nd rfl (by first | exact Or.inl rfl | exact Or.inr rfl)) (lkg_name 5) (qss_cons (qs_asg 6 sc_law_specs.nd (q_ix (q_lst (qa_cons q_int (qa_cons q_int (qa_cons q_int (qa_cons q_int (qa_cons q_int qa_nil)))))) (q_gcall gd_law_take hr (takes_of rfl rfl rfl rfl) (qa_cons (q_var 0) (qa_cons q_int qa_nil))))) (qss_cons (qs_asg 7 sc_law_specs.nd (q_op op_addA lk_add q_int (q_op op_mul lk_mul (q_var 2) (q_gcall gd_law_take hr (takes_of rfl rfl rfl rfl) (qa_cons (q_var 0) (qa_cons (q_var 3) qa_nil)))))) (qss_cons (qs_asg 8 sc_law_specs.nd (q_op op_mul lk_mul (q_var 2) (q_gcall gd_law_take hr (takes_of rfl rfl rfl rfl) (qa_cons (q_var 0) (qa_cons (q_var 3) qa_nil))))) (qss_one (qs_expr (q_app (pe_bm PySem.F.plainAttrs_list PySem.F.slot_list_append PySem.F.type_list_append mt_append (q_var 4) (pa_cons (q_tup (qa_cons (q_var 5) (qa_cons (q_var 6) (qa_cons (q_op op_mul lk_mul (q_var 2) (q_gcall gd_law_take hr (takes_of rfl rfl rfl rfl) (qa_cons (q_var 0) (qa_cons (q_var 3) qa_nil)))) (qa_cons (q_var 7) (qa_cons (q_gcall gd_law_take hr (takes_of rfl rfl rfl rfl) (qa_cons (q_var 0) (qa_cons q_int qa_nil))) (qa_cons (q_var 8) qa_nil))))))) pa_nil))))))))) (qss_one (qs_ret (q_frz (q_var 4))))))))

theorem sc_law_gauge : FnScope N_law_gauge ["_law_spec"] (defScope s_law_gauge) := ⟨rfl, rfl, rfl, by decide +kernel, rfl, by decide +kernel, by decide +kernel⟩
theorem b_law_gauge (B : Bt mg) (gck_CoarseGauge_step : GCK g P w g.K mg base 4 .CoarseGauge "CoarseGauge" 2 ["step"] [0] S_CoarseGauge_init) (gck_LateGauge_late_pace : GCK g P w g.K mg base 4 .LateGauge "LateGauge" 2 ["late", "pace"] [0, 1] S_LateGauge_init) (gck_LateCoarseGauge_pace_step_late : GCK g P w g.K mg base 5 .LateCoarseGauge "LateCoarseGauge" 2 ["pace", "step", "late"] [1, 2, 0] S_LateCoarseGauge_init) (gc_Gauge : GC g P w g.K mg base 3 .Gauge "Gauge" S_Gauge_init) : BodyOk g P w g.K mg base 6 N_law_gauge "_law_gauge" s_law_gauge T_law_gauge := fun f cdv A outer s H E hr =>
  (qss_cons (qs_if (qt_cmp (op_eqA hr.units) lk_eq (q_ix (q_var 0) q_int) q_int (nomark _)) (qss_one (qs_ret (q_makeKw gck_CoarseGauge_step hr (takes_of rfl rfl rfl rfl) (qa_cons (q_ix (q_var 0) q_int) (qa_cons (q_ix (q_var 0) q_int) qa_nil)) (qk_cons (q_ix (q_var 0) q_int) qk_nil)))) qss_nil) (qss_cons (qs_if (qt_cmp (op_eqA hr.units) lk_eq (q_ix (q_var 0) q_int) q_int (nomark _)) (qss_one (qs_ret (q_makeKw gck_LateGauge_late_pace hr (takes_of rfl rfl rfl rfl) (qa_cons (q_ix (q_var 0) q_int) (qa_cons (q_ix (q_var 0) q_int) qa_nil)) (qk_cons (q_ix (q_var 0) q_int) (qk_cons (q_ix (q_var 0) q_int) qk_nil))))) qss_nil) (qss_cons (qs_if (qt_cmp (op_eqA hr.units) lk_eq (q_ix (q_var 0) q_int) q_int (nomark _)) (qss_one (qs_ret (q_makeKw gck_LateCoarseGauge_pace_step_late hr (takes_of rfl rfl rfl rfl) (qa_cons (q_ix (q_var 0) q_int) (qa_cons (q_ix (q_var 0) q_int) qa_nil)) (qk_cons (q_ix (q_var 0) q_int) (qk_cons (q_ix (q_var 0) q_int) (qk_cons (q_ix (q_var 0) q_int) qk_nil)))))) qss_nil) (qss_one (qs_ret (q_gmake gc_Gauge hr (takes_of rfl rfl rfl rfl) (qa_cons (q_ix (q_var 0) q_int) (qa_cons (q_ix (q_var 0) q_int) qa_nil))))))))

theorem sc_Rack_init : FnScope N_Rack_init ["self", "together", "gauges"] (defScope s_Rack_init) := ⟨rfl, rfl, rfl, by decide +kernel, rfl, by decide +kernel, by decide +kernel⟩
theorem b_Rack_init (B : Bt mg) (fl_gauges : Flds g [.Rack] .gauges) (fl_name : Flds g [.Gauge, .CoarseGauge, .LateGauge, .LateCoarseGauge] .name) (gx_DuplicateGauge : GX g P w g.K mg base .DuplicateGauge "DuplicateGauge" [.name]) (gx_UnknownGauge : GX g P w g.K mg base .UnknownGauge "UnknownGauge" [.name]) (fl_groups : Flds g [.Rack] .groups) : BodyOk g P w g.K mg base 2 N_Rack_init "Rack.__init__" s_Rack_init T_Rack_init := fun f cdv A outer s H E hr =>
  (qss_cons (qs_setF fl_gauges (q_var 0) q_dnew) (qss_cons (qs_melt (qs_for (passes_of rfl) (qi_tup (q_var 2)) (pg_name (i := 3) sc_Rack_init.nd rfl (by first | exact Or.inl rfl | exact Or.inr rfl)) (lkg_name 3) (qss_cons (qs_if (qt_inD (hu_of hr) (q_fld fl_name (q_var 3)) (q_fld fl_gauges (q_var 0))) (qss_one (qs_raise gx_DuplicateGauge hr (takes_of rfl rfl rfl rfl) (qa_cons (q_fld fl_name (q_var 3)) qa_nil))) qss_nil) (qss_one (qs_setD (hu_of hr) (q_fld fl_gauges (q_var 0)) (q_fld fl_name (q_var 3)) (q_var 3)))))) (qss_cons (qs_asg 4 sc_Rack_init.nd (q_lstO qa_nil)) (qss_cons (qs_for (passes_of rfl) (qi_tup (q_var 1)) (pg_name (i := 5) sc_Rack_init.nd rfl (by first | exact Or.inl rfl | exact Or.inr rfl)) (lkg_name 5) (qss_one (qs_for (passes_of rfl) (qi_tup (q_var 5)) (pg_name (i := 6) sc_Rack_init.nd rfl (by first | exact Or.inl rfl | exact Or.inr rfl)) (lkg_name 6) (qss_cons (qs_if (qt_notInD (hu_of hr) (q_var 6) (q_fld fl_gauges (q_var 0))) (qss_one (qs_raise gx_UnknownGauge hr (takes_of rfl rfl rfl rfl) (qa_cons (q_var 6) qa_nil))) qss_nil) (qss_cons (qs_if (qt_cmp op_in_seq lk_in (q_var 6) (q_var 4) (by rfl)) (qss_one (qs_raise gx_DuplicateGauge hr (takes_of rfl rfl rfl rfl) (qa_cons (q_var 6) qa_nil))) qss_nil) (qss_one (qs_expr (q_app (pe_bm PySem.F.plainAttrs_list PySem.F.slot_list_append PySem.F.type_list_append mt_append (q_var 4) (pa_cons (q_var 6) pa_nil)))))))))) (qss_cons (qs_setF fl_groups (q_var 0) (q_lstO qa_nil)) (qss_cons (qs_asg 7 sc_Rack_init.nd (q_lstO qa_nil)) (qss_one (qs_melt (qs_for (passes_of rfl) (qi_keys (q_fld fl_gauges (q_var 0))) (pg_name (i := 6) sc_Rack_init.nd rfl (by first | exact Or.inl rfl | exact Or.inr rfl)) (lkg_name 6) (qss_one (qs_if (qt_cmp op_notin_seq lk_notin (q_var 6) (q_var 7) (by rfl)) (qss_cons (qs_asg 5 sc_Rack_init.nd (q_lst (qa_cons (q_var 6) qa_nil))) (qss_cons (qs_for (passes_of rfl) (qi_tup (q_var 1)) (pg_name (i := 8) sc_Rack_init.nd rfl (by first | exact Or.inl rfl | exact Or.inr rfl)) (lkg_name 8) (qss_one (qs_if (qt_cmp op_in_seq lk_in (q_var 6) (q_var 8) (by rfl)) (qss_one (qs_asgLc (i := 5) (own := [("other", 9)]) sc_Rack_init.nd (qi_keys (q_fld fl_gauges (q_var 0))) (blkOk_by (N := N_Rack_init) (sc := defScope s_Rack_init) (by decide +kernel)) (fun _ _ _ _ _ => pg_name (i := 9) sc_Rack_init.nd rfl (by first | exact Or.inl rfl | exact Or.inr rfl)) (lkg_name 9) (fun _ _ _ _ _ => (qts_one (qt_cmp op_in_seq lk_in (q_var 9) (q_var 8) (by rfl)))) (fun _ _ _ _ _ => (q_var 9)) (ps_setLc (i := 5) (own := [("other", 9)]) rfl sc_Rack_init.nd rfl rfl (sw_true rfl rfl rfl (by decide +kernel)) (qi_keys (q_fld fl_gauges (q_var 0))) (blkOk_by (N := N_Rack_init) (sc := defScope s_Rack_init) (by decide +kernel)) (fun _ _ _ _ _ => pg_name (i := 9) sc_Rack_init.nd rfl (by first | exact Or.inl rfl | exact Or.inr rfl)) (fun _ _ _ _ _ => (qts_one (qt_cmp op_in_seq lk_in (q_var 9) (q_var 8) (by rfl)))) (fun _ _ _ _ _ => (q_var 9))))) qss_nil))) (qss_cons (qs_expr (q_app (pe_bm PySem.F.plainAttrs_list PySem.F.slot_list_append PySem.F.type_list_append mt_append (q_fld fl_groups (q_var 0)) (pa_cons (q_var 5) pa_nil)))) (qss_one (qs_expr (q_lm lk_ext (pe_bm PySem.F.plainAttrs_list PySem.F.slot_list_extend PySem.F.type_list_extend mt_extend (q_var 7) (qa_cons (q_var 5) qa_nil)))))))) qss_nil)))))))))))

theorem sc_Rack_of : FnScope N_Rack_of ["cls", "gauges", "together"] (defScope s_Rack_of) := ⟨rfl, rfl, rfl, by decide +kernel, rfl, by decide +kernel, by decide +kernel⟩
theorem b_Rack_of (B : Bt mg) (gvs_Rack : GCVs g P w g.K mg base 3 ["together"] [(.Rack, (starV 1 1 S_Rack_init))]) : BodyOk g P w g.K mg base 4 N_Rack_of "Rack.of" s_Rack_of T_Rack_of := fun f cdv A outer s H E hr =>
  (qss_one (qs_ret (q_makeCV gvs_Rack hr (takes_of rfl rfl rfl rfl) (q_var 0) (q_var 1) (qk_cons (q_var 2) qk_nil))))

theorem sc_Rack_names : FnScope N_Rack_names ["self"] (defScope s_Rack_names) := ⟨rfl, rfl, rfl, by decide +kernel, rfl, by decide +kernel, by decide +kernel⟩
theorem b_Rack_names (B : Bt mg) (fl_gauges : Flds g [.Rack] .gauges) : BodyOk g P w g.K mg base 0 N_Rack_names "Rack.names" s_Rack_names T_Rack_names := fun f cdv A outer s H E hr =>
  (qss_one (qs_ret (q_callTy (call_listD rfl) lk_listD B.list (qa_cons (q_fld fl_gauges (q_var 0)) qa_nil))))

theorem sc_law_gauges : FnScope N_law_gauges ["_law_specs_here"] (defScope s_law_gauges) := ⟨rfl, rfl, rfl, by decide +kernel, rfl, by decide +kernel, by decide +kernel⟩
theorem b_law_gauges (B : Bt mg) (gd_law_gauge : GD g P w g.K mg base 7 "_law_gauge" S_law_gauge) : BodyOk g P w g.K mg base 7 N_law_gauges "_law_gauges" s_law_gauges T_law_gauges := fun f cdv A outer s H E hr =>
  (qss_one (qs_ret (q_lcO (own := [("_law_spec", 1)]) sc_law_gauges.nd (qi_list (q_var 0)) (blkOk_by (N := N_law_gauges) (sc := defScope s_law_gauges) (by decide +kernel)) (fun _ _ _ _ _ => pg_name (i := 1) sc_law_gauges.nd rfl (by first | exact Or.inl rfl | exact Or.inr rfl)) (lkg_name 1) (fun _ _ _ _ _ => qts_nil) (fun _ _ _ _ _ => (q_gcall gd_law_gauge hr takes0 (qa_cons (q_var 1) qa_nil))))))

theorem sc_law_groups : FnScope N_law_groups ["_law_box_here", "_law_words_here"] (defScope s_law_groups) := ⟨rfl, rfl, rfl, by decide +kernel, rfl, by decide +kernel, by decide +kernel⟩
theorem b_law_groups (B : Bt mg) (gd_law_take : GD g P w g.K mg base 1 "_law_take" S_law_take) : BodyOk g P w g.K mg base 1 N_law_groups "_law_groups" s_law_groups T_law_groups := fun f cdv A outer s H E hr =>
  (qss_cons (qs_asg 2 sc_law_groups.nd (q_lc (own := [("_law_word_here", 6)]) sc_law_groups.nd (qi_list (q_var 1)) (blkOk_by (N := N_law_groups) (sc := defScope s_law_groups) (by decide +kernel)) (fun _ _ _ _ _ => pg_name (i := 6) sc_law_groups.nd rfl (by first | exact Or.inl rfl | exact Or.inr rfl)) (lkg_name 6) (fun _ _ _ _ _ => qts_nil) (fun _ _ _ _ _ => (q_gcall gd_law_take hr takes0 (qa_cons (q_var 0) (qa_cons q_int qa_nil)))))) (qss_cons (qs_asg 3 sc_law_groups.nd (q_lstO qa_nil)) (qss_cons (qs_for (passes_of rfl) (qi_range1 B.range (qa_cons q_int qa_nil)) (pg_name (i := 4) sc_law_groups.nd rfl (by first | exact Or.inl rfl | exact Or.inr rfl)) (lkg_name 4) (qss_cons (qs_asgLc (i := 5) (own := [("_law_k", 7)]) sc_law_groups.nd (qi_range1 B.range (qa_cons (q_callB call_lenA lk_len B.len (qa_cons (q_var 1) qa_nil)) qa_nil)) (blkOk_by (N := N_law_groups) (sc := defScope s_law_groups) (by decide +kernel)) (fun _ _ _ _ _ => pg_name (i := 7) sc_law_groups.nd rfl (by first | exact Or.inl rfl | exact Or.inr rfl)) (lkg_name 7) (fun _ _ _ _ _ => (qts_one (qt_cmp (op_eqA hr.units) lk_eq (q_ix (q_var 2) (q_var 7)) (q_var 4) (nomark _)))) (fun _ _ _ _ _ => (q_ix (q_var 1) (q_var 7))) (ps_setLc (i := 5) (own := [("_law_k", 7)]) rfl sc_law_groups.nd rfl rfl (sw_true rfl rfl rfl (by decide +kernel)) (qi_range1 B.range (qa_cons (q_callB call_lenA lk_len B.len (qa_cons (q_var 1) qa_nil)) qa_nil)) (blkOk_by (N := N_law_groups) (sc := defScope s_law_groups) (by decide +kernel)) (fun _ _ _ _ _ => pg_name (i := 7) sc_law_groups.nd rfl (by first | exact Or.inl rfl | exact Or.inr rfl)) (fun _ _ _ _ _ => (qts_one (qt_cmp (op_eqA hr.units) lk_eq (q_ix (q_var 2) (q_var 7)) (q_var 4) (nomark _)))) (fun _ _ _ _ _ => (q_ix (q_var 1) (q_var 7))))) (qss_cons (qs_if (qt_cmp (op_eqA hr.units) lk_eq (q_gcall gd_law_take hr (takes_of rfl rfl rfl rfl) (qa_cons (q_var 0) (qa_cons q_int qa_nil))) q_int (nomark _)) (qss_one (qs_asg 5 sc_law_groups.nd (q_revL (q_var 5)))) qss_nil) (qss_one (qs_expr (q_app (pe_bm PySem.F.plainAttrs_list PySem.F.slot_list_append PySem.F.type_list_append mt_append (q_var 3) (pa_cons (q_callTy call_tuple_of lk_tupO B.tuple (qa_cons (q_var 5) qa_nil)) pa_nil)))))))) (qss_one (qs_ret (q_callTy call_tuple_of lk_tupO B.tuple (qa_cons (q_var 3) qa_nil)))))))

theorem sc_law_faults : FnScope N_law_faults ["_law_words_here", "_law_groups_here"] (defScope s_law_faults) := ⟨rfl, rfl, rfl, by decide +kernel, rfl, by decide +kernel, by decide +kernel⟩
theorem b_law_faults (B : Bt mg)  : BodyOk g P w g.K mg base 0 N_law_faults "_law_faults" s_law_faults T_law_faults := fun f cdv A outer s H E hr =>
  (qss_cons (qs_asg 2 sc_law_faults.nd (q_lstO qa_nil)) (qss_cons (qs_for (passes_of rfl) (qi_list (q_var 0)) (pg_name (i := 3) sc_law_faults.nd rfl (by first | exact Or.inl rfl | exact Or.inr rfl)) (lkg_name 3) (qss_cons (qs_asg 4 sc_law_faults.nd (q_lst (qa_cons (q_var 3) qa_nil))) (qss_cons (qs_for (passes_of rfl) (qi_tup (q_var 1)) (pg_name (i := 5) sc_law_faults.nd rfl (by first | exact Or.inl rfl | exact Or.inr rfl)) (lkg_name 5) (qss_one (qs_if (qt_cmp op_in_seq lk_in (q_var 3) (q_var 5) (by rfl)) (qss_one (qs_asgLc (i := 4) (own := [("_law_other", 6)]) sc_law_faults.nd (qi_list (q_var 0)) (blkOk_by (N := N_law_faults) (sc := defScope s_law_faults) (by decide +kernel)) (fun _ _ _ _ _ => pg_name (i := 6) sc_law_faults.nd rfl (by first | exact Or.inl rfl | exact Or.inr rfl)) (lkg_name 6) (fun _ _ _ _ _ => (qts_one (qt_cmp op_in_seq lk_in (q_var 6) (q_var 5) (by rfl)))) (fun _ _ _ _ _ => (q_var 6)) (ps_setLc (i := 4) (own := [("_law_other", 6)]) rfl sc_law_faults.nd rfl rfl (sw_true rfl rfl rfl (by decide +kernel)) (qi_list (q_var 0)) (blkOk_by (N := N_law_faults) (sc := defScope s_law_faults) (by decide +kernel)) (fun _ _ _ _ _ => pg_name (i := 6) sc_law_faults.nd rfl (by first | exact Or.inl rfl | exact Or.inr rfl)) (fun _ _ _ _ _ => (qts_one (qt_cmp op_in_seq lk_in (q_var 6) (q_var 5) (by rfl)))) (fun _ _ _ _ _ => (q_var 6))))) qss_nil))) (qss_one (qs_if (qt_cmp (op_notInN (hu65 hr)) lk_notInN (q_var 4) (q_var 2) (by rfl)) (qss_one (qs_expr (q_app (pe_bm PySem.F.plainAttrs_list PySem.F.slot_list_append PySem.F.type_list_append mt_append (q_var 2) (pa_cons (q_var 4) pa_nil))))) qss_nil))))) (qss_one (qs_ret (q_frz (q_var 2))))))

theorem sc_Rack_faults : FnScope N_Rack_faults ["self"] (defScope s_Rack_faults) := ⟨rfl, rfl, rfl, by decide +kernel, rfl, by decide +kernel, by decide +kernel⟩
theorem b_Rack_faults (B : Bt mg) (fl_groups : Flds g [.Rack] .groups) : BodyOk g P w g.K mg base 0 N_Rack_faults "Rack.faults" s_Rack_faults T_Rack_faults := fun f cdv A outer s H E hr =>
  (qss_one (qs_ret (q_lc (own := [("group", 1)]) sc_Rack_faults.nd (qi_list (q_fld fl_groups (q_var 0))) (blkOk_by (N := N_Rack_faults) (sc := defScope s_Rack_faults) (by decide +kernel)) (fun _ _ _ _ _ => pg_name (i := 1) sc_Rack_faults.nd rfl (by first | exact Or.inl rfl | exact Or.inr rfl)) (lkg_name 1) (fun _ _ _ _ _ => qts_nil) (fun _ _ _ _ _ => (q_callTy call_list_of lk_listS B.list (qa_cons (q_var 1) qa_nil))))))

theorem sc_picks : FnScope N_picks ["many", "count"] (defScope s_picks) := ⟨rfl, rfl, rfl, by decide +kernel, rfl, by decide +kernel, by decide +kernel⟩
theorem b_picks (B : Bt mg)  : BodyOk g P w g.K mg base 0 N_picks "picks" s_picks T_picks := fun f cdv A outer s H E hr =>
  (qss_cons (qs_asg 2 sc_picks.nd (q_lst (qa_cons (q_tup qa_nil) qa_nil))) (qss_cons (qs_for (passes_of rfl) (qi_range1 B.range (qa_cons (q_var 1) qa_nil)) (pg_name (i := 3) sc_picks.nd rfl (by first | exact Or.inl rfl | exact Or.inr rfl)) (lkg_name 3) (qss_one (qs_asgLc2 (i := 2) (own := [("row", 4), ("at", 5)]) (vs1 := [5]) sc_picks.nd (qi_list (q_var 2)) (blkOk_by (N := N_picks) (sc := defScope s_picks) (by decide +kernel)) (fun _ _ _ _ _ => pg_name (i := 4) sc_picks.nd rfl (by first | exact Or.inl rfl | exact Or.inr rfl)) (lkg_name 4) (fun _ _ _ _ _ => qts_nil) (fun _ _ _ _ _ => (qi_range1 B.range (qa_cons (q_var 0) qa_nil))) (fun _ _ _ _ _ => pg_name (i := 5) sc_picks.nd rfl (by first | exact Or.inl rfl | exact Or.inr rfl)) (lkg_name 5) (fun _ _ _ _ _ => (qts_one (PW.pt (qw_or (qt_not (qt_tru (q_var 4))) (qw_or1 (qt_cmp op_gt lk_gt (q_var 5) (q_ix (q_var 4) (q_neg q_int)) (nomark _))))))) (fun _ _ _ _ _ => (q_op op_catA lk_addT (q_var 4) (q_tup (qa_cons (q_var 5) qa_nil)))) (ps_setLc2 (i := 2) (own := [("row", 4), ("at", 5)]) (vs1 := [5]) rfl sc_picks.nd rfl rfl (sw_true rfl rfl rfl (by decide +kernel)) (qi_list (q_var 2)) (blkOk_by (N := N_picks) (sc := defScope s_picks) (by decide +kernel)) (by decide) (fun _ _ _ _ _ => pg_name (i := 4) sc_picks.nd rfl (by first | exact Or.inl rfl | exact Or.inr rfl)) (fun _ _ _ _ _ => qts_nil) (fun _ _ _ _ _ => (qi_range1 B.range (qa_cons (q_var 0) qa_nil))) (fun _ _ _ _ _ => pg_name (i := 5) sc_picks.nd rfl (by first | exact Or.inl rfl | exact Or.inr rfl)) (fun _ _ _ _ _ => (qts_one (PW.pt (qw_or (qt_not (qt_tru (q_var 4))) (qw_or1 (qt_cmp op_gt lk_gt (q_var 5) (q_ix (q_var 4) (q_neg q_int)) (nomark _))))))) (fun _ _ _ _ _ => (q_op op_catA lk_addT (q_var 4) (q_tup (qa_cons (q_var 5) qa_nil)))))))) (qss_one (qs_ret (q_var 2)))))

theorem sc_law_picks : FnScope N_law_picks ["_law_many", "_law_count"] (defScope s_law_picks) := ⟨rfl, rfl, rfl, by decide +kernel, rfl, by decide +kernel, by decide +kernel⟩
theorem b_law_picks (B : Bt mg)  : BodyOk g P w g.K mg base 0 N_law_picks "_law_picks" s_law_picks T_law_picks := fun f cdv A outer s H E hr =>
  (qss_cons (qs_asg 2 sc_law_picks.nd (q_lst (qa_cons (q_lst qa_nil) qa_nil))) (qss_cons (qs_for (passes_of rfl) (qi_range1 B.range (qa_cons (q_var 1) qa_nil)) (pg_name (i := 3) sc_law_picks.nd rfl (by first | exact Or.inl rfl | exact Or.inr rfl)) (lkg_name 3) (qss_cons (qs_asg 4 sc_law_picks.nd (q_lst qa_nil)) (qss_cons (qs_for (passes_of rfl) (qi_list (q_var 2)) (pg_name (i := 5) sc_law_picks.nd rfl (by first | exact Or.inl rfl | exact Or.inr rfl)) (lkg_name 5) (qss_one (qs_asg 4 sc_law_picks.nd (q_op op_addA lk_add (q_var 4) (q_lc (own := [("_law_at", 6)]) sc_law_picks.nd (qi_range1 B.range (qa_cons (q_var 0) qa_nil)) (blkOk_by (N := N_law_picks) (sc := defScope s_law_picks) (by decide +kernel)) (fun _ _ _ _ _ => pg_name (i := 6) sc_law_picks.nd rfl (by first | exact Or.inl rfl | exact Or.inr rfl)) (lkg_name 6) (fun _ _ _ _ _ => (qts_one (PW.pt (qw_or (qt_not (qt_tru (q_var 5))) (qw_or1 (qt_cmp op_gt lk_gt (q_var 6) (q_ix (q_var 5) (q_neg q_int)) (nomark _))))))) (fun _ _ _ _ _ => (q_op op_addA lk_add (q_var 5) (q_lst (qa_cons (q_var 6) qa_nil))))))))) (qss_one (qs_asg 2 sc_law_picks.nd (q_var 4)))))) (qss_one (qs_ret (q_var 2)))))

theorem sc_law_lots : FnScope N_law_lots ["_law_words_here", "_law_faults_here", "_law_count"] (defScope s_law_lots) := ⟨rfl, rfl, rfl, by decide +kernel, rfl, by decide +kernel, by decide +kernel⟩
theorem b_law_lots (B : Bt mg) (gd_law_picks : GD g P w g.K mg base 1 "_law_picks" S_law_picks) : BodyOk g P w g.K mg base 1 N_law_lots "_law_lots" s_law_lots T_law_lots := fun f cdv A outer s H E hr =>
  (qss_cons (qs_asg 3 sc_law_lots.nd (q_lstO qa_nil)) (qss_cons (qs_for (passes_of rfl) (qi_list (q_gcall gd_law_picks hr (takes_of rfl rfl rfl rfl) (qa_cons (q_callB call_lenA lk_len B.len (qa_cons (q_var 1) qa_nil)) (qa_cons (q_var 2) qa_nil)))) (pg_name (i := 4) sc_law_lots.nd rfl (by first | exact Or.inl rfl | exact Or.inr rfl)) (lkg_name 4) (qss_cons (qs_asg 5 sc_law_lots.nd (q_lst qa_nil)) (qss_cons (qs_for (passes_of rfl) (qi_list (q_var 4)) (pg_name (i := 6) sc_law_lots.nd rfl (by first | exact Or.inl rfl | exact Or.inr rfl)) (lkg_name 6) (qss_one (qs_asg 5 sc_law_lots.nd (q_op op_addA lk_add (q_var 5) (q_ix (q_var 1) (q_var 6)))))) (qss_one (qs_expr (q_app (pe_bm PySem.F.plainAttrs_list PySem.F.slot_list_append PySem.F.type_list_append mt_append (q_var 3) (pa_cons (q_lc (own := [("_law_word_here", 7)]) sc_law_lots.nd (qi_list (q_var 0)) (blkOk_by (N := N_law_lots) (sc := defScope s_law_lots) (by decide +kernel)) (fun _ _ _ _ _ => pg_name (i := 7) sc_law_lots.nd rfl (by first | exact Or.inl rfl | exact Or.inr rfl)) (lkg_name 7) (fun _ _ _ _ _ => (qts_one (qt_cmp op_in_seq lk_in (q_var 7) (q_var 5) (by rfl)))) (fun _ _ _ _ _ => (q_var 7))) pa_nil)))))))) (qss_one (qs_ret (q_frz (q_var 3))))))

theorem sc_liar_lots : GScope N_liar_lots ["rack", "liars"] (defScope s_liar_lots) := ⟨rfl, rfl, rfl, by decide +kernel, rfl, by decide +kernel, by decide +kernel⟩
theorem gb_liar_lots {f : Addr} (B : Bt mg) (mt_faults_Rack : MTab g P w g.K mg base 1 "faults" [(.Rack, S_Rack_faults)]) (gd_picks : GD g P w g.K mg base 1 "picks" S_picks) (mt_names_Rack : MTab g P w g.K mg base 1 "names" [(.Rack, S_Rack_names)]) : ∀ (cdv : Value) (A : Around) (outer : List Env) (s : Shared) (H : Hp), Room 1 (A.deeper (PyProof.Rows.envOfC "liar_lots" (defScope s_liar_lots) s.heap.objs.size f cdv)) → GBody g (gX P w g.K mg base N_liar_lots "liar_lots" (defScope s_liar_lots) f cdv A outer s H) (gPre s_liar_lots) (gTg s_liar_lots) (gIt s_liar_lots) (gName 3) (gBd s_liar_lots) (gYe s_liar_lots) Tp_liar_lots R_liar_lots B_liar_lots Te_liar_lots := fun cdv A outer s H hr =>
  ⟨(qss_one (qs_asg 2 sc_liar_lots.nd (q_gmeth0 mt_faults_Rack hr takes0 (q_var 0)))), (qi_list (q_gcall gd_picks hr takes0 (qa_cons (q_callB call_lenA lk_len B.len (qa_cons (q_var 2) qa_nil)) (qa_cons (q_var 1) qa_nil)))), ⟨pg_name (i := 3) sc_liar_lots.nd rfl (by first | exact Or.inl rfl | exact Or.inr rfl), (qss_one (qs_asg 4 sc_liar_lots.nd (q_lc2 (own := [("at", 5), ("name", 6)]) (vs1 := [6]) sc_liar_lots.nd (qi_tup (q_var 3)) (blkOk_by (N := N_liar_lots) (sc := defScope s_liar_lots) (by decide +kernel)) (fun _ _ _ _ _ => pg_name (i := 5) sc_liar_lots.nd rfl (by first | exact Or.inl rfl | exact Or.inr rfl)) (lkg_name 5) (fun _ _ _ _ _ => qts_nil) (fun _ _ _ _ _ => (qi_list (q_ix (q_var 2) (q_var 5)))) (fun _ _ _ _ _ => pg_name (i := 6) sc_liar_lots.nd rfl (by first | exact Or.inl rfl | exact Or.inr rfl)) (lkg_name 6) (fun _ _ _ _ _ => qts_nil) (fun _ _ _ _ _ => (q_var 6))))), (q_may (q_lcO (own := [("name", 6)]) sc_liar_lots.nd (qi_list (q_gmeth0 mt_names_Rack hr takes0 (q_var 0))) (blkOk_by (N := N_liar_lots) (sc := defScope s_liar_lots) (by decide +kernel)) (fun _ _ _ _ _ => pg_name (i := 6) sc_liar_lots.nd rfl (by first | exact Or.inl rfl | exact Or.inr rfl)) (lkg_name 6) (fun _ _ _ _ _ => (qts_one (qt_cmp op_in_seq lk_in (q_var 6) (q_var 4) (by rfl)))) (fun _ _ _ _ _ => (q_var 6))))⟩⟩

theorem sc_law : FnScope N_law ["_law_script"] (defScope s_law) := ⟨rfl, rfl, rfl, by decide +kernel, rfl, by decide +kernel, by decide +kernel⟩
theorem b_law (B : Bt mg) (gd_law_box : GD g P w g.K mg base 1 "_law_box" S_law_box) (gd_law_words : GD g P w g.K mg base 2 "_law_words" S_law_words) (gd_law_take : GD g P w g.K mg base 1 "_law_take" S_law_take) (gd_law_specs : GD g P w g.K mg base 2 "_law_specs" S_law_specs) (gd_law_groups : GD g P w g.K mg base 2 "_law_groups" S_law_groups) (gd_law_faults : GD g P w g.K mg base 1 "_law_faults" S_law_faults) (mgc_Rack : mg "Rack" = some (.ref (g.ca .Rack))) (cm_Rack_of : CmAt g P w g.K mg base 5 .Rack "of" S_Rack_of) (gd_law_gauges : GD g P w g.K mg base 8 "_law_gauges" S_law_gauges) (gd_law_lots : GD g P w g.K mg base 2 "_law_lots" S_law_lots) (gc_liar_lots : GGenC g P w g.K mg base 1 "liar_lots" S_liar_lots) (mt_faults_Rack : MTab g P w g.K mg base 1 "faults" [(.Rack, S_Rack_faults)]) : BodyOk g P w g.K mg base 8 N_law "law" s_law T_law := fun f cdv A outer s H E hr =>
  (qss_cons (qs_asg 1 sc_law.nd (q_gcall gd_law_box hr (takes_of rfl rfl rfl rfl) (qa_cons (q_var 0) (qa_cons q_int qa_nil)))) (qss_cons (qs_asg 2 sc_law.nd (q_gcall gd_law_words hr (takes_of rfl rfl rfl rfl) (qa_cons (q_var 1) (qa_cons (q_gcall gd_law_take hr (takes_of rfl rfl rfl rfl) (qa_cons (q_var 1) (qa_cons q_int qa_nil))) qa_nil)))) (qss_cons (qs_asg 3 sc_law.nd (q_gcall gd_law_specs hr (takes_of rfl rfl rfl rfl) (qa_cons (q_var 1) (qa_cons (q_var 2) qa_nil)))) (qss_cons (qs_asg 4 sc_law.nd (q_gcall gd_law_groups hr (takes_of rfl rfl rfl rfl) (qa_cons (q_var 1) (qa_cons (q_var 2) qa_nil)))) (qss_cons (qs_asg 5 sc_law.nd (q_gcall gd_law_faults hr (takes_of rfl rfl rfl rfl) (qa_cons (q_var 2) (qa_cons (q_var 4) qa_nil)))) (qss_cons (qs_asg 6 sc_law.nd (q_cmeth cm_Rack_of mgc_Rack hr (takes_of rfl rfl rfl rfl) (qa_cons (q_gcall gd_law_gauges hr (takes_of rfl rfl rfl rfl) (qa_cons (q_var 3) qa_nil)) (qa_cons (q_var 4) qa_nil)))) (qss_cons (qs_for (passes_of rfl) (qi_range1 B.range (qa_cons (q_op op_addA lk_add (q_callB call_lenA lk_len B.len (qa_cons (q_var 5) qa_nil)) q_int) qa_nil)) (pg_name (i := 7) sc_law.nd rfl (by first | exact Or.inl rfl | exact Or.inr rfl)) (lkg_name 7) (qss_cons (qs_asg 8 sc_law.nd (q_gcall gd_law_lots hr (takes_of rfl rfl rfl rfl) (qa_cons (q_var 2) (qa_cons (q_var 5) (qa_cons (q_var 7) qa_nil))))) (qss_cons (qs_asgLcY (i := 9) (own := [("_law_lot", 10)]) rfl sc_law.nd rfl (sw_true rfl rfl rfl (by decide +kernel)) (q_genC gc_liar_lots hr (qa_cons (q_var 6) (qa_cons (q_var 7) qa_nil))) hr (blkOk_by (N := N_law) (sc := defScope s_law) (by decide +kernel)) (fun _ _ _ _ _ => pg_name (i := 10) sc_law.nd rfl (by first | exact Or.inl rfl | exact Or.inr rfl)) (lkg_name 10) (fun _ _ _ _ _ => (q_var 10))) (qss_cons (qs_if (PW.pt (qw_or (qt_cmp (op_neO hr.units) lk_neN (q_var 9) (q_var 8) (nomark _)) (qw_or1 (qt_not (qt_val (q_callB (cr_all rfl) lk_all B.all (qa_cons (q_lc (own := [("_law_lot", 10)]) sc_law.nd (qi_list (q_var 9)) (blkOk_by (N := N_law) (sc := defScope s_law) (by decide +kernel)) (fun _ _ _ _ _ => pg_name (i := 10) sc_law.nd rfl (by first | exact Or.inl rfl | exact Or.inr rfl)) (lkg_name 10) (fun _ _ _ _ _ => qts_nil) (fun _ _ _ _ _ => (q_isB (n := "list") B.isinstance B.list (q_var 10)))) qa_nil))))))) (qss_one (qs_ret q_bl)) qss_nil) (qss_cons (qs_for (passes_of rfl) (qi_list (q_var 9)) (pg_name (i := 10) sc_law.nd rfl (by first | exact Or.inl rfl | exact Or.inr rfl)) (lkg_name 10) (qss_one (qs_expr (q_app (pe_bm PySem.F.plainAttrs_list PySem.F.slot_list_append PySem.F.type_list_append mt_append (q_var 10) (pa_cons q_str pa_nil)))))) (qss_one (qs_if (qt_cmp (op_neA hr.units) lk_ne (q_frz (q_liG (q_plain (q_genC gc_liar_lots hr (qa_cons (q_var 6) (qa_cons (q_var 7) qa_nil)))) hr rfl B.list (by decide +kernel))) (q_var 8) (nomark _)) (qss_one (qs_ret q_bl)) qss_nil))))))) (qss_one (qs_ret (q_cmp (op_eqA hr.units) lk_eq (q_gmeth0 mt_faults_Rack hr (takes_of rfl rfl rfl rfl) (q_var 6)) (q_var 5) (nomark _)))))))))))

end
theorem x_BadGauge {P : Program} {w : World} {K : PySem.W.Frag} {mg : Str → Option Value} {base : Heap} {f cc cda C : Addr} {fd : FuncData} {file : Str} (F : FunS K "__init__" "BadGauge.__init__" s_BadGauge_init f fd cc cda C file) (PG : Pg P file) (hm : mg "super" = none) (XC : ExC K C) (n1 : PySem.W.findIn K (.ref C) "name" = some none) : FnOk P w K mg base (L2.CX P w) 1 f fd ["self", "name"] (spX C ["name"]) :=
  fn_super (N := ["self", "name", "__class__"]) (k := 0) F (NdefX.nscope_by (by decide +kernel)) (fun vs H Q E h => by obtain ⟨a, ws, rfl, hl, _⟩ := h; simp [hl]) fun A outer s H vs Q E hr h => ⟨_, pf_supX F PG ⟨rfl, rfl, ⟨_, rfl, rfl⟩, rfl, rfl, rfl⟩ hm XC (pa_cons pe_str pa_nil) (pf_of (pss_one (ps_ost (pe_var (i := 0) rfl (Or.inl rfl)) (pe_var (i := 1) rfl (Or.inl rfl))))), tx1 XC.ox n1 h⟩
theorem x_DuplicateGauge {P : Program} {w : World} {K : PySem.W.Frag} {mg : Str → Option Value} {base : Heap} {f cc cda C : Addr} {fd : FuncData} {file : Str} (F : FunS K "__init__" "DuplicateGauge.__init__" s_DuplicateGauge_init f fd cc cda C file) (PG : Pg P file) (hm : mg "super" = none) (XC : ExC K C) (n1 : PySem.W.findIn K (.ref C) "name" = some none) : FnOk P w K mg base (L2.CX P w) 1 f fd ["self", "name"] (spX C ["name"]) :=
  fn_super (N := ["self", "name", "__class__"]) (k := 0) F (NdefX.nscope_by (by decide +kernel)) (fun vs H Q E h => by obtain ⟨a, ws, rfl, hl, _⟩ := h; simp [hl]) fun A outer s H vs Q E hr h => ⟨_, pf_supX F PG ⟨rfl, rfl, ⟨_, rfl, rfl⟩, rfl, rfl, rfl⟩ hm XC (pa_cons pe_str pa_nil) (pf_of (pss_one (ps_ost (pe_var (i := 0) rfl (Or.inl rfl)) (pe_var (i := 1) rfl (Or.inl rfl))))), tx1 XC.ox n1 h⟩
theorem x_UnknownGauge {P : Program} {w : World} {K : PySem.W.Frag} {mg : Str → Option Value} {base : Heap} {f cc cda C : Addr} {fd : FuncData} {file : Str} (F : FunS K "__init__" "UnknownGauge.__init__" s_UnknownGauge_init f fd cc cda C file) (PG : Pg P file) (hm : mg "super" = none) (XC : ExC K C) (n1 : PySem.W.findIn K (.ref C) "name" = some none) : FnOk P w K mg base (L2.CX P w) 1 f fd ["self", "name"] (spX C ["name"]) :=
  fn_super (N := ["self", "name", "__class__"]) (k := 0) F (NdefX.nscope_by (by decide +kernel)) (fun vs H Q E h => by obtain ⟨a, ws, rfl, hl, _⟩ := h; simp [hl]) fun A outer s H vs Q E hr h => ⟨_, pf_supX F PG ⟨rfl, rfl, ⟨_, rfl, rfl⟩, rfl, rfl, rfl⟩ hm XC (pa_cons pe_str pa_nil) (pf_of (pss_one (ps_ost (pe_var (i := 0) rfl (Or.inl rfl)) (pe_var (i := 1) rfl (Or.inl rfl))))), tx1 XC.ox n1 h⟩
theorem all_mk {l : PySem.W.OpenLaw} {w : World} {K : PySem.W.Frag} {h : Heap} {mg : Str → Option Value} {fa C_Gauge C_CoarseGauge C_LateGauge C_LateCoarseGauge C_Rack E_BadGauge E_DuplicateGauge E_UnknownGauge A_BadGauge_init cc_BadGauge cda_BadGauge A_DuplicateGauge_init cc_DuplicateGauge cda_DuplicateGauge A_UnknownGauge_init cc_UnknownGauge cda_UnknownGauge A_law_take A_law_box A_law_word A_law_words A_valid_name A_Gauge_init A_CoarseGauge_init cc_CoarseGauge_init cda_CoarseGauge_init A_LateGauge_init A_LateCoarseGauge_init A_law_specs A_law_gauge A_Rack_init KD_Rack_init KT_Rack_init A_Rack_of P_Rack_of KD_Rack_of KT_Rack_of A_Rack_names A_law_gauges A_law_groups A_law_faults A_Rack_faults A_picks A_law_picks A_law_lots A_liar_lots A_law A_kt_WORDS : Addr} (X : K.In h) (G : h.Ns mainGlobals mg) (hfa : mg "law" = some (.ref fa))
    {nm_BadGauge q_BadGauge : Str} {N_BadGauge : Addr} {bs_BadGauge bm_BadGauge sub_BadGauge : List Value} {sn_BadGauge : List Str} {ab_BadGauge : Bool} {col_BadGauge : Option Bool} {dd_BadGauge : Option Addr} {k0_BadGauge k1_BadGauge k2_BadGauge k3_BadGauge k5_BadGauge : Option Value}
    {oc_BadGauge kV_BadGauge dc_BadGauge pm_BadGauge ct_BadGauge ccl_BadGauge cl_BadGauge : Value} {od_BadGauge an_BadGauge cdd_BadGauge cld_BadGauge : Option Addr} {sl_BadGauge ccs_BadGauge csl_BadGauge : Array (Option Value)} {vs_BadGauge : Array Value} {file_BadGauge : Str} {tf_BadGauge : Tok} {cdD_BadGauge : ClassData}
    {nm_DuplicateGauge q_DuplicateGauge : Str} {N_DuplicateGauge : Addr} {bs_DuplicateGauge bm_DuplicateGauge sub_DuplicateGauge : List Value} {sn_DuplicateGauge : List Str} {ab_DuplicateGauge : Bool} {col_DuplicateGauge : Option Bool} {dd_DuplicateGauge : Option Addr} {k0_DuplicateGauge k1_DuplicateGauge k2_DuplicateGauge k3_DuplicateGauge k5_DuplicateGauge : Option Value}
    {oc_DuplicateGauge kV_DuplicateGauge dc_DuplicateGauge pm_DuplicateGauge ct_DuplicateGauge ccl_DuplicateGauge cl_DuplicateGauge : Value} {od_DuplicateGauge an_DuplicateGauge cdd_DuplicateGauge cld_DuplicateGauge : Option Addr} {sl_DuplicateGauge ccs_DuplicateGauge csl_DuplicateGauge : Array (Option Value)} {vs_DuplicateGauge : Array Value} {file_DuplicateGauge : Str} {tf_DuplicateGauge : Tok} {cdD_DuplicateGauge : ClassData}
    {nm_UnknownGauge q_UnknownGauge : Str} {N_UnknownGauge : Addr} {bs_UnknownGauge bm_UnknownGauge sub_UnknownGauge : List Value} {sn_UnknownGauge : List Str} {ab_UnknownGauge : Bool} {col_UnknownGauge : Option Bool} {dd_UnknownGauge : Option Addr} {k0_UnknownGauge k1_UnknownGauge k2_UnknownGauge k3_UnknownGauge k5_UnknownGauge : Option Value}
    {oc_UnknownGauge kV_UnknownGauge dc_UnknownGauge pm_UnknownGauge ct_UnknownGauge ccl_UnknownGauge cl_UnknownGauge : Value} {od_UnknownGauge an_UnknownGauge cdd_UnknownGauge cld_UnknownGauge : Option Addr} {sl_UnknownGauge ccs_UnknownGauge csl_UnknownGauge : Array (Option Value)} {vs_UnknownGauge : Array Value} {file_UnknownGauge : Str} {tf_UnknownGauge : Tok} {cdD_UnknownGauge : ClassData}
    {oc_law_take kV_law_take dc_law_take pm_law_take cd_law_take ct_law_take : Value} {od_law_take an_law_take : Option Addr} {sl_law_take : Array (Option Value)}
    {oc_law_box kV_law_box dc_law_box pm_law_box cd_law_box ct_law_box : Value} {od_law_box an_law_box : Option Addr} {sl_law_box : Array (Option Value)}
    {oc_law_word kV_law_word dc_law_word pm_law_word cd_law_word ct_law_word : Value} {od_law_word an_law_word : Option Addr} {sl_law_word : Array (Option Value)}
    {oc_law_words kV_law_words dc_law_words pm_law_words cd_law_words ct_law_words : Value} {od_law_words an_law_words : Option Addr} {sl_law_words : Array (Option Value)}
    {oc_valid_name kV_valid_name dc_valid_name pm_valid_name cd_valid_name ct_valid_name : Value} {od_valid_name an_valid_name : Option Addr} {sl_valid_name : Array (Option Value)}
    {oc_Gauge_init kV_Gauge_init dc_Gauge_init pm_Gauge_init cd_Gauge_init ct_Gauge_init : Value} {od_Gauge_init an_Gauge_init : Option Addr} {sl_Gauge_init : Array (Option Value)}
    {oc_CoarseGauge_init kV_CoarseGauge_init dc_CoarseGauge_init pm_CoarseGauge_init ct_CoarseGauge_init ccl_CoarseGauge_init cl_CoarseGauge_init : Value} {od_CoarseGauge_init an_CoarseGauge_init cdd_CoarseGauge_init cld_CoarseGauge_init : Option Addr} {sl_CoarseGauge_init ccs_CoarseGauge_init csl_CoarseGauge_init : Array (Option Value)} {vs_CoarseGauge_init : Array Value} {file_CoarseGauge_init : Str} {tf_CoarseGauge_init : Tok} {cdD_CoarseGauge_init : ClassData}
    {oc_LateGauge_init kV_LateGauge_init dc_LateGauge_init pm_LateGauge_init cd_LateGauge_init ct_LateGauge_init : Value} {od_LateGauge_init an_LateGauge_init : Option Addr} {sl_LateGauge_init : Array (Option Value)}
    {oc_LateCoarseGauge_init kV_LateCoarseGauge_init dc_LateCoarseGauge_init pm_LateCoarseGauge_init cd_LateCoarseGauge_init ct_LateCoarseGauge_init : Value} {od_LateCoarseGauge_init an_LateCoarseGauge_init : Option Addr} {sl_LateCoarseGauge_init : Array (Option Value)}
    {oc_law_specs kV_law_specs dc_law_specs pm_law_specs cd_law_specs ct_law_specs : Value} {od_law_specs an_law_specs : Option Addr} {sl_law_specs : Array (Option Value)}
    {oc_law_gauge kV_law_gauge dc_law_gauge pm_law_gauge cd_law_gauge ct_law_gauge : Value} {od_law_gauge an_law_gauge : Option Addr} {sl_law_gauge : Array (Option Value)}
    {oc_Rack_init dc_Rack_init pm_Rack_init cd_Rack_init ct_Rack_init : Value} {od_Rack_init an_Rack_init : Option Addr} {sl_Rack_init : Array (Option Value)}
    {odk_Rack_init : Option Addr} {nk_Rack_init : Nat} {slk_Rack_init : Array (Option Value)}
    {rest_Rack_of : List Value}
    {oc_Rack_of kV_Rack_of dc_Rack_of pm_Rack_of cd_Rack_of ct_Rack_of : Value} {od_Rack_of an_Rack_of : Option Addr} {sl_Rack_of : Array (Option Value)}
    {odk_Rack_of : Option Addr} {nk_Rack_of : Nat} {slk_Rack_of : Array (Option Value)}
    {ocd_Rack_of : Value} {odd_Rack_of : Option Addr} {nd_Rack_of : Nat} {sld_Rack_of : Array (Option Value)}
    {oc_Rack_names kV_Rack_names dc_Rack_names pm_Rack_names cd_Rack_names ct_Rack_names : Value} {od_Rack_names an_Rack_names : Option Addr} {sl_Rack_names : Array (Option Value)}
    {oc_law_gauges kV_law_gauges dc_law_gauges pm_law_gauges cd_law_gauges ct_law_gauges : Value} {od_law_gauges an_law_gauges : Option Addr} {sl_law_gauges : Array (Option Value)}
    {oc_law_groups kV_law_groups dc_law_groups pm_law_groups cd_law_groups ct_law_groups : Value} {od_law_groups an_law_groups : Option Addr} {sl_law_groups : Array (Option Value)}
    {oc_law_faults kV_law_faults dc_law_faults pm_law_faults cd_law_faults ct_law_faults : Value} {od_law_faults an_law_faults : Option Addr} {sl_law_faults : Array (Option Value)}
    {oc_Rack_faults kV_Rack_faults dc_Rack_faults pm_Rack_faults cd_Rack_faults ct_Rack_faults : Value} {od_Rack_faults an_Rack_faults : Option Addr} {sl_Rack_faults : Array (Option Value)}
    {oc_picks kV_picks dc_picks pm_picks cd_picks ct_picks : Value} {od_picks an_picks : Option Addr} {sl_picks : Array (Option Value)}
    {oc_law_picks kV_law_picks dc_law_picks pm_law_picks cd_law_picks ct_law_picks : Value} {od_law_picks an_law_picks : Option Addr} {sl_law_picks : Array (Option Value)}
    {oc_law_lots kV_law_lots dc_law_lots pm_law_lots cd_law_lots ct_law_lots : Value} {od_law_lots an_law_lots : Option Addr} {sl_law_lots : Array (Option Value)}
    {oc_liar_lots kV_liar_lots dc_liar_lots pm_liar_lots cd_liar_lots ct_liar_lots : Value} {od_liar_lots an_liar_lots : Option Addr} {sl_liar_lots : Array (Option Value)}
    {oc_law kV_law dc_law pm_law cd_law ct_law : Value} {od_law an_law : Option Addr} {sl_law : Array (Option Value)}
    {tcvi_Gauge_LONGEST : Tok}
    {tkt_WORDS_0 tkt_WORDS_1 tkt_WORDS_2 tkt_WORDS_3 : Tok} {odkt_WORDS : Option Addr} {nkt_WORDS : Nat} {slkt_WORDS : Array (Option Value)}
    {tgs_LETTERS : Tok}
    (a_Gauge : PySem.W.nsIn K mainGlobals "Gauge" = some (some (.ref C_Gauge)))
    (pg_Gauge : PySem.W.plainGet K C_Gauge Str.empty = true)
    (hd_Gauge : PySem.W.hasDictIn K C_Gauge = true)
    (po_Gauge : PySem.W.plainOver K C_Gauge = true)
    (sa_Gauge : PySem.W.findIn K (.ref C_Gauge) "__setattr__" = some (some (.builtin "object.__setattr__")))
    (mk_Gauge : PySem.W.makesIn K C_Gauge = true)
    (kc_Gauge : PySem.W.keepIn K (.ref C_Gauge) = true)
    (a_CoarseGauge : PySem.W.nsIn K mainGlobals "CoarseGauge" = some (some (.ref C_CoarseGauge)))
    (pg_CoarseGauge : PySem.W.plainGet K C_CoarseGauge Str.empty = true)
    (hd_CoarseGauge : PySem.W.hasDictIn K C_CoarseGauge = true)
    (po_CoarseGauge : PySem.W.plainOver K C_CoarseGauge = true)
    (sa_CoarseGauge : PySem.W.findIn K (.ref C_CoarseGauge) "__setattr__" = some (some (.builtin "object.__setattr__")))
    (mk_CoarseGauge : PySem.W.makesIn K C_CoarseGauge = true)
    (kc_CoarseGauge : PySem.W.keepIn K (.ref C_CoarseGauge) = true)
    (a_LateGauge : PySem.W.nsIn K mainGlobals "LateGauge" = some (some (.ref C_LateGauge)))
    (pg_LateGauge : PySem.W.plainGet K C_LateGauge Str.empty = true)
    (hd_LateGauge : PySem.W.hasDictIn K C_LateGauge = true)
    (po_LateGauge : PySem.W.plainOver K C_LateGauge = true)
    (sa_LateGauge : PySem.W.findIn K (.ref C_LateGauge) "__setattr__" = some (some (.builtin "object.__setattr__")))
    (mk_LateGauge : PySem.W.makesIn K C_LateGauge = true)
    (kc_LateGauge : PySem.W.keepIn K (.ref C_LateGauge) = true)
    (a_LateCoarseGauge : PySem.W.nsIn K mainGlobals "LateCoarseGauge" = some (some (.ref C_LateCoarseGauge)))
    (pg_LateCoarseGauge : PySem.W.plainGet K C_LateCoarseGauge Str.empty = true)
    (hd_LateCoarseGauge : PySem.W.hasDictIn K C_LateCoarseGauge = true)
    (po_LateCoarseGauge : PySem.W.plainOver K C_LateCoarseGauge = true)
    (sa_LateCoarseGauge : PySem.W.findIn K (.ref C_LateCoarseGauge) "__setattr__" = some (some (.builtin "object.__setattr__")))
    (mk_LateCoarseGauge : PySem.W.makesIn K C_LateCoarseGauge = true)
    (kc_LateCoarseGauge : PySem.W.keepIn K (.ref C_LateCoarseGauge) = true)
    (a_Rack : PySem.W.nsIn K mainGlobals "Rack" = some (some (.ref C_Rack)))
    (pg_Rack : PySem.W.plainGet K C_Rack Str.empty = true)
    (hd_Rack : PySem.W.hasDictIn K C_Rack = true)
    (po_Rack : PySem.W.plainOver K C_Rack = true)
    (sa_Rack : PySem.W.findIn K (.ref C_Rack) "__setattr__" = some (some (.builtin "object.__setattr__")))
    (mk_Rack : PySem.W.makesIn K C_Rack = true)
    (kc_Rack : PySem.W.keepIn K (.ref C_Rack) = true)
    (a_BadGauge : PySem.W.nsIn K mainGlobals "BadGauge" = some (some (.ref E_BadGauge)))
    (xb_BadGauge : PySem.W.subIn K (.ref E_BadGauge) (.type "BaseException") = some true)
    (ty_BadGauge : PySem.W.typeIn K (.ref E_BadGauge) = some (.type "type"))
    (kc_BadGauge : PySem.W.keepIn K (.ref E_BadGauge) = true)
    (hd_BadGauge : PySem.W.hasDictIn K E_BadGauge = true)
    (a_DuplicateGauge : PySem.W.nsIn K mainGlobals "DuplicateGauge" = some (some (.ref E_DuplicateGauge)))
    (xb_DuplicateGauge : PySem.W.subIn K (.ref E_DuplicateGauge) (.type "BaseException") = some true)
    (ty_DuplicateGauge : PySem.W.typeIn K (.ref E_DuplicateGauge) = some (.type "type"))
    (kc_DuplicateGauge : PySem.W.keepIn K (.ref E_DuplicateGauge) = true)
    (hd_DuplicateGauge : PySem.W.hasDictIn K E_DuplicateGauge = true)
    (a_UnknownGauge : PySem.W.nsIn K mainGlobals "UnknownGauge" = some (some (.ref E_UnknownGauge)))
    (xb_UnknownGauge : PySem.W.subIn K (.ref E_UnknownGauge) (.type "BaseException") = some true)
    (ty_UnknownGauge : PySem.W.typeIn K (.ref E_UnknownGauge) = some (.type "type"))
    (kc_UnknownGauge : PySem.W.keepIn K (.ref E_UnknownGauge) = true)
    (hd_UnknownGauge : PySem.W.hasDictIn K E_UnknownGauge = true)
    (lk_BadGauge : K.lookup E_BadGauge = some (excClassObj nm_BadGauge q_BadGauge E_BadGauge N_BadGauge bs_BadGauge bm_BadGauge true sn_BadGauge sub_BadGauge ab_BadGauge col_BadGauge dd_BadGauge k0_BadGauge k1_BadGauge k2_BadGauge k3_BadGauge k5_BadGauge "ValueError.__new__"))
    (rv_BadGauge : PySem.HandSPX.refsVE bm_BadGauge = true)
    (sa_BadGauge : PySem.W.findIn K (.ref E_BadGauge) "__setattr__" = some (some (.builtin "object.__setattr__")))
    (fi_BadGauge : PySem.W.findIn K (.ref E_BadGauge) "__init__" = some (some (.ref A_BadGauge_init)))
    (ti_BadGauge : PySem.W.typeIn K (.ref A_BadGauge_init) = some (.type "function"))
    (l_BadGauge : K.lookup A_BadGauge_init = some ⟨oc_BadGauge, od_BadGauge, .func (PySem.W.ksFn "__init__" "BadGauge.__init__" (defArgs s_BadGauge_init) (defBody s_BadGauge_init) (defScope s_BadGauge_init) .none kV_BadGauge dc_BadGauge pm_BadGauge an_BadGauge (.ref cda_BadGauge) ct_BadGauge cc_BadGauge), sl_BadGauge⟩)
    (c_BadGauge : PySem.W.codeIn K (.ref cda_BadGauge) "BadGauge.__init__" = true)
    (k_BadGauge : PySem.W.keepIn K (.ref A_BadGauge_init) = true)
    (fl_BadGauge : K.lookup cda_BadGauge = some ⟨ccl_BadGauge, cdd_BadGauge, .fields vs_BadGauge, ccs_BadGauge⟩)
    (fv_BadGauge : vs_BadGauge[2]? = some (.str file_BadGauge tf_BadGauge))
    (pf_BadGauge : ((l.prog.main.file : Str) == file_BadGauge) = true)
    (ce_BadGauge : K.lookup cc_BadGauge = some ⟨cl_BadGauge, cld_BadGauge, .cell (some (.ref E_BadGauge)), csl_BadGauge⟩)
    (dc_BadGauge : PySem.W.clsIn K E_BadGauge = some cdD_BadGauge)
    (mr_BadGauge : PySem.W.mroIn K E_BadGauge (.ref E_BadGauge) = some true)
    (su_BadGauge : PySem.W.ks_superIn K E_BadGauge E_BadGauge "__init__" = some (some (.builtin "ValueError.__init__")))
    (ve_BadGauge : PySem.W.subIn K (.ref E_BadGauge) (.type "ValueError") = some true)
    (lk_DuplicateGauge : K.lookup E_DuplicateGauge = some (excClassObj nm_DuplicateGauge q_DuplicateGauge E_DuplicateGauge N_DuplicateGauge bs_DuplicateGauge bm_DuplicateGauge true sn_DuplicateGauge sub_DuplicateGauge ab_DuplicateGauge col_DuplicateGauge dd_DuplicateGauge k0_DuplicateGauge k1_DuplicateGauge k2_DuplicateGauge k3_DuplicateGauge k5_DuplicateGauge "ValueError.__new__"))
    (rv_DuplicateGauge : PySem.HandSPX.refsVE bm_DuplicateGauge = true)
    (sa_DuplicateGauge : PySem.W.findIn K (.ref E_DuplicateGauge) "__setattr__" = some (some (.builtin "object.__setattr__")))
    (fi_DuplicateGauge : PySem.W.findIn K (.ref E_DuplicateGauge) "__init__" = some (some (.ref A_DuplicateGauge_init)))
    (ti_DuplicateGauge : PySem.W.typeIn K (.ref A_DuplicateGauge_init) = some (.type "function"))
    (l_DuplicateGauge : K.lookup A_DuplicateGauge_init = some ⟨oc_DuplicateGauge, od_DuplicateGauge, .func (PySem.W.ksFn "__init__" "DuplicateGauge.__init__" (defArgs s_DuplicateGauge_init) (defBody s_DuplicateGauge_init) (defScope s_DuplicateGauge_init) .none kV_DuplicateGauge dc_DuplicateGauge pm_DuplicateGauge an_DuplicateGauge (.ref cda_DuplicateGauge) ct_DuplicateGauge cc_DuplicateGauge), sl_DuplicateGauge⟩)
    (c_DuplicateGauge : PySem.W.codeIn K (.ref cda_DuplicateGauge) "DuplicateGauge.__init__" = true)
    (k_DuplicateGauge : PySem.W.keepIn K (.ref A_DuplicateGauge_init) = true)
    (fl_DuplicateGauge : K.lookup cda_DuplicateGauge = some ⟨ccl_DuplicateGauge, cdd_DuplicateGauge, .fields vs_DuplicateGauge, ccs_DuplicateGauge⟩)
    (fv_DuplicateGauge : vs_DuplicateGauge[2]? = some (.str file_DuplicateGauge tf_DuplicateGauge))
    (pf_DuplicateGauge : ((l.prog.main.file : Str) == file_DuplicateGauge) = true)
    (ce_DuplicateGauge : K.lookup cc_DuplicateGauge = some ⟨cl_DuplicateGauge, cld_DuplicateGauge, .cell (some (.ref E_DuplicateGauge)), csl_DuplicateGauge⟩)
    (dc_DuplicateGauge : PySem.W.clsIn K E_DuplicateGauge = some cdD_DuplicateGauge)
    (mr_DuplicateGauge : PySem.W.mroIn K E_DuplicateGauge (.ref E_DuplicateGauge) = some true)
    (su_DuplicateGauge : PySem.W.ks_superIn K E_DuplicateGauge E_DuplicateGauge "__init__" = some (some (.builtin "ValueError.__init__")))
    (ve_DuplicateGauge : PySem.W.subIn K (.ref E_DuplicateGauge) (.type "ValueError") = some true)
    (lk_UnknownGauge : K.lookup E_UnknownGauge = some (excClassObj nm_UnknownGauge q_UnknownGauge E_UnknownGauge N_UnknownGauge bs_UnknownGauge bm_UnknownGauge true sn_UnknownGauge sub_UnknownGauge ab_UnknownGauge col_UnknownGauge dd_UnknownGauge k0_UnknownGauge k1_UnknownGauge k2_UnknownGauge k3_UnknownGauge k5_UnknownGauge "ValueError.__new__"))
    (rv_UnknownGauge : PySem.HandSPX.refsVE bm_UnknownGauge = true)
    (sa_UnknownGauge : PySem.W.findIn K (.ref E_UnknownGauge) "__setattr__" = some (some (.builtin "object.__setattr__")))
    (fi_UnknownGauge : PySem.W.findIn K (.ref E_UnknownGauge) "__init__" = some (some (.ref A_UnknownGauge_init)))
    (ti_UnknownGauge : PySem.W.typeIn K (.ref A_UnknownGauge_init) = some (.type "function"))
    (l_UnknownGauge : K.lookup A_UnknownGauge_init = some ⟨oc_UnknownGauge, od_UnknownGauge, .func (PySem.W.ksFn "__init__" "UnknownGauge.__init__" (defArgs s_UnknownGauge_init) (defBody s_UnknownGauge_init) (defScope s_UnknownGauge_init) .none kV_UnknownGauge dc_UnknownGauge pm_UnknownGauge an_UnknownGauge (.ref cda_UnknownGauge) ct_UnknownGauge cc_UnknownGauge), sl_UnknownGauge⟩)
    (c_UnknownGauge : PySem.W.codeIn K (.ref cda_UnknownGauge) "UnknownGauge.__init__" = true)
    (k_UnknownGauge : PySem.W.keepIn K (.ref A_UnknownGauge_init) = true)
    (fl_UnknownGauge : K.lookup cda_UnknownGauge = some ⟨ccl_UnknownGauge, cdd_UnknownGauge, .fields vs_UnknownGauge, ccs_UnknownGauge⟩)
    (fv_UnknownGauge : vs_UnknownGauge[2]? = some (.str file_UnknownGauge tf_UnknownGauge))
    (pf_UnknownGauge : ((l.prog.main.file : Str) == file_UnknownGauge) = true)
    (ce_UnknownGauge : K.lookup cc_UnknownGauge = some ⟨cl_UnknownGauge, cld_UnknownGauge, .cell (some (.ref E_UnknownGauge)), csl_UnknownGauge⟩)
    (dc_UnknownGauge : PySem.W.clsIn K E_UnknownGauge = some cdD_UnknownGauge)
    (mr_UnknownGauge : PySem.W.mroIn K E_UnknownGauge (.ref E_UnknownGauge) = some true)
    (su_UnknownGauge : PySem.W.ks_superIn K E_UnknownGauge E_UnknownGauge "__init__" = some (some (.builtin "ValueError.__init__")))
    (ve_UnknownGauge : PySem.W.subIn K (.ref E_UnknownGauge) (.type "ValueError") = some true)
    (th : PySem.W.nsIn K cStatics "thirdparty.any" = some none)
    (ps : (l.prog.main.scope.names.lookup ("super" : Str)).isSome = false)
    (n_name_BadGauge : PySem.W.findIn K (.ref E_BadGauge) "name" = some none)
    (n_name_DuplicateGauge : PySem.W.findIn K (.ref E_DuplicateGauge) "name" = some none)
    (n_name_UnknownGauge : PySem.W.findIn K (.ref E_UnknownGauge) "name" = some none)
    (n_name_Gauge : PySem.W.findIn K (.ref C_Gauge) "name" = some none)
    (n_name_CoarseGauge : PySem.W.findIn K (.ref C_CoarseGauge) "name" = some none)
    (n_name_LateGauge : PySem.W.findIn K (.ref C_LateGauge) "name" = some none)
    (n_name_LateCoarseGauge : PySem.W.findIn K (.ref C_LateCoarseGauge) "name" = some none)
    (n_radius_Gauge : PySem.W.findIn K (.ref C_Gauge) "radius" = some none)
    (n_radius_CoarseGauge : PySem.W.findIn K (.ref C_CoarseGauge) "radius" = some none)
    (n_radius_LateGauge : PySem.W.findIn K (.ref C_LateGauge) "radius" = some none)
    (n_radius_LateCoarseGauge : PySem.W.findIn K (.ref C_LateCoarseGauge) "radius" = some none)
    (n_step_CoarseGauge : PySem.W.findIn K (.ref C_CoarseGauge) "step" = some none)
    (n_step_LateCoarseGauge : PySem.W.findIn K (.ref C_LateCoarseGauge) "step" = some none)
    (n_late_LateGauge : PySem.W.findIn K (.ref C_LateGauge) "late" = some none)
    (n_late_LateCoarseGauge : PySem.W.findIn K (.ref C_LateCoarseGauge) "late" = some none)
    (n_pace_LateGauge : PySem.W.findIn K (.ref C_LateGauge) "pace" = some none)
    (n_pace_LateCoarseGauge : PySem.W.findIn K (.ref C_LateCoarseGauge) "pace" = some none)
    (n_gauges_Rack : PySem.W.findIn K (.ref C_Rack) "gauges" = some none)
    (n_groups_Rack : PySem.W.findIn K (.ref C_Rack) "groups" = some none)
    (f_law_take : PySem.W.nsIn K mainGlobals "_law_take" = some (some (.ref A_law_take)))
    (l_law_take : K.lookup A_law_take = some ⟨oc_law_take, od_law_take, .func (PySem.W.fnOf "_law_take" "_law_take" (defArgs s_law_take) (defBody s_law_take) (defScope s_law_take) .none kV_law_take dc_law_take pm_law_take an_law_take cd_law_take ct_law_take), sl_law_take⟩)
    (c_law_take : PySem.W.codeIn K cd_law_take "_law_take" = true)
    (k_law_take : PySem.W.keepIn K (.ref A_law_take) = true)
    (f_law_box : PySem.W.nsIn K mainGlobals "_law_box" = some (some (.ref A_law_box)))
    (l_law_box : K.lookup A_law_box = some ⟨oc_law_box, od_law_box, .func (PySem.W.fnOf "_law_box" "_law_box" (defArgs s_law_box) (defBody s_law_box) (defScope s_law_box) .none kV_law_box dc_law_box pm_law_box an_law_box cd_law_box ct_law_box), sl_law_box⟩)
    (c_law_box : PySem.W.codeIn K cd_law_box "_law_box" = true)
    (k_law_box : PySem.W.keepIn K (.ref A_law_box) = true)
    (f_law_word : PySem.W.nsIn K mainGlobals "_law_word" = some (some (.ref A_law_word)))
    (l_law_word : K.lookup A_law_word = some ⟨oc_law_word, od_law_word, .func (PySem.W.fnOf "_law_word" "_law_word" (defArgs s_law_word) (defBody s_law_word) (defScope s_law_word) .none kV_law_word dc_law_word pm_law_word an_law_word cd_law_word ct_law_word), sl_law_word⟩)
    (c_law_word : PySem.W.codeIn K cd_law_word "_law_word" = true)
    (k_law_word : PySem.W.keepIn K (.ref A_law_word) = true)
    (f_law_words : PySem.W.nsIn K mainGlobals "_law_words" = some (some (.ref A_law_words)))
    (l_law_words : K.lookup A_law_words = some ⟨oc_law_words, od_law_words, .func (PySem.W.fnOf "_law_words" "_law_words" (defArgs s_law_words) (defBody s_law_words) (defScope s_law_words) .none kV_law_words dc_law_words pm_law_words an_law_words cd_law_words ct_law_words), sl_law_words⟩)
    (c_law_words : PySem.W.codeIn K cd_law_words "_law_words" = true)
    (k_law_words : PySem.W.keepIn K (.ref A_law_words) = true)
    (f_valid_name : PySem.W.nsIn K mainGlobals "valid_name" = some (some (.ref A_valid_name)))
    (l_valid_name : K.lookup A_valid_name = some ⟨oc_valid_name, od_valid_name, .func (PySem.W.fnOf "valid_name" "valid_name" (defArgs s_valid_name) (defBody s_valid_name) (defScope s_valid_name) .none kV_valid_name dc_valid_name pm_valid_name an_valid_name cd_valid_name ct_valid_name), sl_valid_name⟩)
    (c_valid_name : PySem.W.codeIn K cd_valid_name "valid_name" = true)
    (k_valid_name : PySem.W.keepIn K (.ref A_valid_name) = true)
    (f_Gauge_init : PySem.W.findIn K (.ref C_Gauge) "__init__" = some (some (.ref A_Gauge_init)))
    (i_Gauge_init : PySem.W.isFn K (.ref A_Gauge_init) = true)
    (l_Gauge_init : K.lookup A_Gauge_init = some ⟨oc_Gauge_init, od_Gauge_init, .func (PySem.W.fnOf "__init__" "Gauge.__init__" (defArgs s_Gauge_init) (defBody s_Gauge_init) (defScope s_Gauge_init) .none kV_Gauge_init dc_Gauge_init pm_Gauge_init an_Gauge_init cd_Gauge_init ct_Gauge_init), sl_Gauge_init⟩)
    (c_Gauge_init : PySem.W.codeIn K cd_Gauge_init "Gauge.__init__" = true)
    (k_Gauge_init : PySem.W.keepIn K (.ref A_Gauge_init) = true)
    (f_CoarseGauge_init : PySem.W.findIn K (.ref C_CoarseGauge) "__init__" = some (some (.ref A_CoarseGauge_init)))
    (i_CoarseGauge_init : PySem.W.isFn K (.ref A_CoarseGauge_init) = true)
    (l_CoarseGauge_init : K.lookup A_CoarseGauge_init = some ⟨oc_CoarseGauge_init, od_CoarseGauge_init, .func (PySem.W.ksFn "__init__" "CoarseGauge.__init__" (defArgs s_CoarseGauge_init) (defBody s_CoarseGauge_init) (defScope s_CoarseGauge_init) .none kV_CoarseGauge_init dc_CoarseGauge_init pm_CoarseGauge_init an_CoarseGauge_init (.ref cda_CoarseGauge_init) ct_CoarseGauge_init cc_CoarseGauge_init), sl_CoarseGauge_init⟩)
    (c_CoarseGauge_init : PySem.W.codeIn K (.ref cda_CoarseGauge_init) "CoarseGauge.__init__" = true)
    (k_CoarseGauge_init : PySem.W.keepIn K (.ref A_CoarseGauge_init) = true)
    (fl_CoarseGauge_init : K.lookup cda_CoarseGauge_init = some ⟨ccl_CoarseGauge_init, cdd_CoarseGauge_init, .fields vs_CoarseGauge_init, ccs_CoarseGauge_init⟩)
    (fv_CoarseGauge_init : vs_CoarseGauge_init[2]? = some (.str file_CoarseGauge_init tf_CoarseGauge_init))
    (pf_CoarseGauge_init : ((l.prog.main.file : Str) == file_CoarseGauge_init) = true)
    (ce_CoarseGauge_init : K.lookup cc_CoarseGauge_init = some ⟨cl_CoarseGauge_init, cld_CoarseGauge_init, .cell (some (.ref C_CoarseGauge)), csl_CoarseGauge_init⟩)
    (dc_CoarseGauge_init : PySem.W.clsIn K C_CoarseGauge = some cdD_CoarseGauge_init)
    (f_LateGauge_init : PySem.W.findIn K (.ref C_LateGauge) "__init__" = some (some (.ref A_LateGauge_init)))
    (i_LateGauge_init : PySem.W.isFn K (.ref A_LateGauge_init) = true)
    (l_LateGauge_init : K.lookup A_LateGauge_init = some ⟨oc_LateGauge_init, od_LateGauge_init, .func (PySem.W.fnOf "__init__" "LateGauge.__init__" (defArgs s_LateGauge_init) (defBody s_LateGauge_init) (defScope s_LateGauge_init) .none kV_LateGauge_init dc_LateGauge_init pm_LateGauge_init an_LateGauge_init cd_LateGauge_init ct_LateGauge_init), sl_LateGauge_init⟩)
    (c_LateGauge_init : PySem.W.codeIn K cd_LateGauge_init "LateGauge.__init__" = true)
    (k_LateGauge_init : PySem.W.keepIn K (.ref A_LateGauge_init) = true)
    (f_LateCoarseGauge_init : PySem.W.findIn K (.ref C_LateCoarseGauge) "__init__" = some (some (.ref A_LateCoarseGauge_init)))
    (i_LateCoarseGauge_init : PySem.W.isFn K (.ref A_LateCoarseGauge_init) = true)
    (l_LateCoarseGauge_init : K.lookup A_LateCoarseGauge_init = some ⟨oc_LateCoarseGauge_init, od_LateCoarseGauge_init, .func (PySem.W.fnOf "__init__" "LateCoarseGauge.__init__" (defArgs s_LateCoarseGauge_init) (defBody s_LateCoarseGauge_init) (defScope s_LateCoarseGauge_init) .none kV_LateCoarseGauge_init dc_LateCoarseGauge_init pm_LateCoarseGauge_init an_LateCoarseGauge_init cd_LateCoarseGauge_init ct_LateCoarseGauge_init), sl_LateCoarseGauge_init⟩)
    (c_LateCoarseGauge_init : PySem.W.codeIn K cd_LateCoarseGauge_init "LateCoarseGauge.__init__" = true)
    (k_LateCoarseGauge_init : PySem.W.keepIn K (.ref A_LateCoarseGauge_init) = true)
    (f_law_specs : PySem.W.nsIn K mainGlobals "_law_specs" = some (some (.ref A_law_specs)))
    (l_law_specs : K.lookup A_law_specs = some ⟨oc_law_specs, od_law_specs, .func (PySem.W.fnOf "_law_specs" "_law_specs" (defArgs s_law_specs) (defBody s_law_specs) (defScope s_law_specs) .none kV_law_specs dc_law_specs pm_law_specs an_law_specs cd_law_specs ct_law_specs), sl_law_specs⟩)
    (c_law_specs : PySem.W.codeIn K cd_law_specs "_law_specs" = true)
    (k_law_specs : PySem.W.keepIn K (.ref A_law_specs) = true)
    (f_law_gauge : PySem.W.nsIn K mainGlobals "_law_gauge" = some (some (.ref A_law_gauge)))
    (l_law_gauge : K.lookup A_law_gauge = some ⟨oc_law_gauge, od_law_gauge, .func (PySem.W.fnOf "_law_gauge" "_law_gauge" (defArgs s_law_gauge) (defBody s_law_gauge) (defScope s_law_gauge) .none kV_law_gauge dc_law_gauge pm_law_gauge an_law_gauge cd_law_gauge ct_law_gauge), sl_law_gauge⟩)
    (c_law_gauge : PySem.W.codeIn K cd_law_gauge "_law_gauge" = true)
    (k_law_gauge : PySem.W.keepIn K (.ref A_law_gauge) = true)
    (f_Rack_init : PySem.W.findIn K (.ref C_Rack) "__init__" = some (some (.ref A_Rack_init)))
    (i_Rack_init : PySem.W.isFn K (.ref A_Rack_init) = true)
    (l_Rack_init : K.lookup A_Rack_init = some ⟨oc_Rack_init, od_Rack_init, .func (PySem.W.fnOf "__init__" "Rack.__init__" (defArgs s_Rack_init) (defBody s_Rack_init) (defScope s_Rack_init) .none (.ref KD_Rack_init) dc_Rack_init pm_Rack_init an_Rack_init cd_Rack_init ct_Rack_init), sl_Rack_init⟩)
    (kd_Rack_init : PySem.W.nsIn K KD_Rack_init "together" = some (some (.ref KT_Rack_init)))
    (ke_Rack_init : K.lookup KT_Rack_init = some ⟨.type "tuple", odk_Rack_init, .seq #[] nk_Rack_init, slk_Rack_init⟩)
    (c_Rack_init : PySem.W.codeIn K cd_Rack_init "Rack.__init__" = true)
    (k_Rack_init : PySem.W.keepIn K (.ref A_Rack_init) = true)
    (cr_Rack : PySem.W.readsIn K C_Rack (.type "type") = true)
    (cg_Rack : PySem.W.specialIn K (.ref C_Rack) "__getattribute__" = some (some (.builtin "type.__getattribute__")))
    (cf_Rack_of : PySem.W.findCls K (.ref C_Rack) (.type "type") "of" = some (.get (.builtin "classmethod.__get__") (.ref P_Rack_of) .none (.ref C_Rack)))
    (cc_Rack_of : PySem.W.recIn K P_Rack_of "classmethod" = some (.ref A_Rack_of :: rest_Rack_of))
    (ci_Rack_of : PySem.W.fnIn K A_Rack_of = true)
    (l_Rack_of : K.lookup A_Rack_of = some ⟨oc_Rack_of, od_Rack_of, .func (PySem.W.fnOf "of" "Rack.of" (defArgs s_Rack_of) (defBody s_Rack_of) (defScope s_Rack_of) (.ref KD_Rack_of) kV_Rack_of dc_Rack_of pm_Rack_of an_Rack_of cd_Rack_of ct_Rack_of), sl_Rack_of⟩)
    (kd_Rack_of : K.lookup KD_Rack_of = some ⟨ocd_Rack_of, odd_Rack_of, .seq #[.ref KT_Rack_of] nd_Rack_of, sld_Rack_of⟩)
    (ke_Rack_of : K.lookup KT_Rack_of = some ⟨.type "tuple", odk_Rack_of, .seq #[] nk_Rack_of, slk_Rack_of⟩)
    (c_Rack_of : PySem.W.codeIn K cd_Rack_of "Rack.of" = true)
    (k_Rack_of : PySem.W.keepIn K (.ref A_Rack_of) = true)
    (f_Rack_names : PySem.W.findIn K (.ref C_Rack) "names" = some (some (.ref A_Rack_names)))
    (i_Rack_names : PySem.W.isFn K (.ref A_Rack_names) = true)
    (l_Rack_names : K.lookup A_Rack_names = some ⟨oc_Rack_names, od_Rack_names, .func (PySem.W.fnOf "names" "Rack.names" (defArgs s_Rack_names) (defBody s_Rack_names) (defScope s_Rack_names) .none kV_Rack_names dc_Rack_names pm_Rack_names an_Rack_names cd_Rack_names ct_Rack_names), sl_Rack_names⟩)
    (c_Rack_names : PySem.W.codeIn K cd_Rack_names "Rack.names" = true)
    (k_Rack_names : PySem.W.keepIn K (.ref A_Rack_names) = true)
    (f_law_gauges : PySem.W.nsIn K mainGlobals "_law_gauges" = some (some (.ref A_law_gauges)))
    (l_law_gauges : K.lookup A_law_gauges = some ⟨oc_law_gauges, od_law_gauges, .func (PySem.W.fnOf "_law_gauges" "_law_gauges" (defArgs s_law_gauges) (defBody s_law_gauges) (defScope s_law_gauges) .none kV_law_gauges dc_law_gauges pm_law_gauges an_law_gauges cd_law_gauges ct_law_gauges), sl_law_gauges⟩)
    (c_law_gauges : PySem.W.codeIn K cd_law_gauges "_law_gauges" = true)
    (k_law_gauges : PySem.W.keepIn K (.ref A_law_gauges) = true)
    (f_law_groups : PySem.W.nsIn K mainGlobals "_law_groups" = some (some (.ref A_law_groups)))
    (l_law_groups : K.lookup A_law_groups = some ⟨oc_law_groups, od_law_groups, .func (PySem.W.fnOf "_law_groups" "_law_groups" (defArgs s_law_groups) (defBody s_law_groups) (defScope s_law_groups) .none kV_law_groups dc_law_groups pm_law_groups an_law_groups cd_law_groups ct_law_groups), sl_law_groups⟩)
    (c_law_groups : PySem.W.codeIn K cd_law_groups "_law_groups" = true)
    (k_law_groups : PySem.W.keepIn K (.ref A_law_groups) = true)
    (f_law_faults : PySem.W.nsIn K mainGlobals "_law_faults" = some (some (.ref A_law_faults)))
    (l_law_faults : K.lookup A_law_faults = some ⟨oc_law_faults, od_law_faults, .func (PySem.W.fnOf "_law_faults" "_law_faults" (defArgs s_law_faults) (defBody s_law_faults) (defScope s_law_faults) .none kV_law_faults dc_law_faults pm_law_faults an_law_faults cd_law_faults ct_law_faults), sl_law_faults⟩)
    (c_law_faults : PySem.W.codeIn K cd_law_faults "_law_faults" = true)
    (k_law_faults : PySem.W.keepIn K (.ref A_law_faults) = true)
    (f_Rack_faults : PySem.W.findIn K (.ref C_Rack) "faults" = some (some (.ref A_Rack_faults)))
    (i_Rack_faults : PySem.W.isFn K (.ref A_Rack_faults) = true)
    (l_Rack_faults : K.lookup A_Rack_faults = some ⟨oc_Rack_faults, od_Rack_faults, .func (PySem.W.fnOf "faults" "Rack.faults" (defArgs s_Rack_faults) (defBody s_Rack_faults) (defScope s_Rack_faults) .none kV_Rack_faults dc_Rack_faults pm_Rack_faults an_Rack_faults cd_Rack_faults ct_Rack_faults), sl_Rack_faults⟩)
    (c_Rack_faults : PySem.W.codeIn K cd_Rack_faults "Rack.faults" = true)
    (k_Rack_faults : PySem.W.keepIn K (.ref A_Rack_faults) = true)
    (f_picks : PySem.W.nsIn K mainGlobals "picks" = some (some (.ref A_picks)))
    (l_picks : K.lookup A_picks = some ⟨oc_picks, od_picks, .func (PySem.W.fnOf "picks" "picks" (defArgs s_picks) (defBody s_picks) (defScope s_picks) .none kV_picks dc_picks pm_picks an_picks cd_picks ct_picks), sl_picks⟩)
    (c_picks : PySem.W.codeIn K cd_picks "picks" = true)
    (k_picks : PySem.W.keepIn K (.ref A_picks) = true)
    (f_law_picks : PySem.W.nsIn K mainGlobals "_law_picks" = some (some (.ref A_law_picks)))
    (l_law_picks : K.lookup A_law_picks = some ⟨oc_law_picks, od_law_picks, .func (PySem.W.fnOf "_law_picks" "_law_picks" (defArgs s_law_picks) (defBody s_law_picks) (defScope s_law_picks) .none kV_law_picks dc_law_picks pm_law_picks an_law_picks cd_law_picks ct_law_picks), sl_law_picks⟩)
    (c_law_picks : PySem.W.codeIn K cd_law_picks "_law_picks" = true)
    (k_law_picks : PySem.W.keepIn K (.ref A_law_picks) = true)
    (f_law_lots : PySem.W.nsIn K mainGlobals "_law_lots" = some (some (.ref A_law_lots)))
    (l_law_lots : K.lookup A_law_lots = some ⟨oc_law_lots, od_law_lots, .func (PySem.W.fnOf "_law_lots" "_law_lots" (defArgs s_law_lots) (defBody s_law_lots) (defScope s_law_lots) .none kV_law_lots dc_law_lots pm_law_lots an_law_lots cd_law_lots ct_law_lots), sl_law_lots⟩)
    (c_law_lots : PySem.W.codeIn K cd_law_lots "_law_lots" = true)
    (k_law_lots : PySem.W.keepIn K (.ref A_law_lots) = true)
    (f_liar_lots : PySem.W.nsIn K mainGlobals "liar_lots" = some (some (.ref A_liar_lots)))
    (l_liar_lots : K.lookup A_liar_lots = some ⟨oc_liar_lots, od_liar_lots, .func (PySem.W.fnOf "liar_lots" "liar_lots" (defArgs s_liar_lots) (defBody s_liar_lots) (defScope s_liar_lots) .none kV_liar_lots dc_liar_lots pm_liar_lots an_liar_lots cd_liar_lots ct_liar_lots), sl_liar_lots⟩)
    (c_liar_lots : PySem.W.codeIn K cd_liar_lots "liar_lots" = true)
    (k_liar_lots : PySem.W.keepIn K (.ref A_liar_lots) = true)
    (f_law : PySem.W.nsIn K mainGlobals "law" = some (some (.ref A_law)))
    (l_law : K.lookup A_law = some ⟨oc_law, od_law, .func (PySem.W.fnOf "law" "law" (defArgs s_law) (defBody s_law) (defScope s_law) .none kV_law dc_law pm_law an_law cd_law ct_law), sl_law⟩)
    (c_law : PySem.W.codeIn K cd_law "law" = true)
    (k_law : PySem.W.keepIn K (.ref A_law) = true)
    (cr_Gauge : PySem.W.readsIn K C_Gauge (.type "type") = true)
    (cg_Gauge : PySem.W.specialIn K (.ref C_Gauge) "__getattribute__" = some (some (.builtin "type.__getattribute__")))
    (uf_Gauge_init : PySem.W.findCls K (.ref C_Gauge) (.type "type") "__init__" = some (.val (.ref A_Gauge_init)))
    (cr_LateGauge : PySem.W.readsIn K C_LateGauge (.type "type") = true)
    (cg_LateGauge : PySem.W.specialIn K (.ref C_LateGauge) "__getattribute__" = some (some (.builtin "type.__getattribute__")))
    (uf_LateGauge_init : PySem.W.findCls K (.ref C_LateGauge) (.type "type") "__init__" = some (.val (.ref A_LateGauge_init)))
    (fcvi_Gauge_LONGEST : PySem.W.findCls K (.ref C_Gauge) (.type "type") "LONGEST" = some (.val (.int 12 tcvi_Gauge_LONGEST)))
    (fkt_WORDS : PySem.W.nsIn K mainGlobals "WORDS" = some (some (.ref A_kt_WORDS)))
    (gkt_WORDS : K.lookup A_kt_WORDS = some ⟨.type "tuple", odkt_WORDS, .seq #[.str "rank" tkt_WORDS_0, .str "trim" tkt_WORDS_1, .str "weigh" tkt_WORDS_2, .str "together" tkt_WORDS_3] nkt_WORDS, slkt_WORDS⟩)
    (fgs_LETTERS : PySem.W.nsIn K mainGlobals "LETTERS" = some (some (.str "abcdefghijklmnopqrstuvwxyz" tgs_LETTERS)))
    (sup_CoarseGauge_CoarseGauge___init__ : PySem.W.ks_superIn K C_CoarseGauge C_CoarseGauge "__init__" = some (some (.ref A_Gauge_init)))
    (smr_CoarseGauge_CoarseGauge : PySem.W.mroIn K C_CoarseGauge (.ref C_CoarseGauge) = some true)
    (sty_Gauge_init : PySem.W.typeIn K (.ref A_Gauge_init) = some (.type "function"))
    (sfn_Gauge_init : PySem.W.fnIn K A_Gauge_init = true)
    (z_len : PySem.W.nsIn K mainGlobals "len" = some none)
    (z_int : PySem.W.nsIn K mainGlobals "int" = some none)
    (z_bool : PySem.W.nsIn K mainGlobals "bool" = some none)
    (z_str : PySem.W.nsIn K mainGlobals "str" = some none)
    (z_isinstance : PySem.W.nsIn K mainGlobals "isinstance" = some none)
    (z_range : PySem.W.nsIn K mainGlobals "range" = some none)
    (z_max : PySem.W.nsIn K mainGlobals "max" = some none)
    (z_min : PySem.W.nsIn K mainGlobals "min" = some none)
    (z_abs : PySem.W.nsIn K mainGlobals "abs" = some none)
    (z_sorted : PySem.W.nsIn K mainGlobals "sorted" = some none)
    (z_sum : PySem.W.nsIn K mainGlobals "sum" = some none)
    (z_any : PySem.W.nsIn K mainGlobals "any" = some none)
    (z_all : PySem.W.nsIn K mainGlobals "all" = some none)
    (z_list : PySem.W.nsIn K mainGlobals "list" = some none)
    (z_dict : PySem.W.nsIn K mainGlobals "dict" = some none)
    (z_tuple : PySem.W.nsIn K mainGlobals "tuple" = some none)
    (z_enumerate : PySem.W.nsIn K mainGlobals "enumerate" = some none)
    (z_zip : PySem.W.nsIn K mainGlobals "zip" = some none)
    (z_repr : PySem.W.nsIn K mainGlobals "repr" = some none)
    (z_iter : PySem.W.nsIn K mainGlobals "iter" = some none)
    (z_super : PySem.W.nsIn K mainGlobals "super" = some none) :
    ∃ fd : FuncData, (∀ (s : Shared) (v : Value), BindsTo s fd ⟨[v], []⟩ [("_law_script", v)]) ∧ ∀ base : Heap, K.In base → base.Ns mainGlobals mg → FnOk l.prog w K mg base (L2.CX l.prog w) 9 fa fd ["_law_script"] (spLaw K) := by
  have e := hfa.symm.trans (PySem.W.mg_of X G f_law)
  cases e
  let g : Gm := ⟨K, fun c => match c with | .Gauge => C_Gauge | .CoarseGauge => C_CoarseGauge | .LateGauge => C_LateGauge | .LateCoarseGauge => C_LateCoarseGauge | .Rack => C_Rack | _ => 0, fun c => match c with | .BadGauge => E_BadGauge | .DuplicateGauge => E_DuplicateGauge | .UnknownGauge => E_UnknownGauge | _ => 0⟩
  have B : Bt mg := ⟨PySem.W.mg_none_of X G z_len, PySem.W.mg_none_of X G z_int, PySem.W.mg_none_of X G z_bool, PySem.W.mg_none_of X G z_str, PySem.W.mg_none_of X G z_isinstance, PySem.W.mg_none_of X G z_range, PySem.W.mg_none_of X G z_max, PySem.W.mg_none_of X G z_min, PySem.W.mg_none_of X G z_abs, PySem.W.mg_none_of X G z_sorted, PySem.W.mg_none_of X G z_sum, PySem.W.mg_none_of X G z_any, PySem.W.mg_none_of X G z_all, PySem.W.mg_none_of X G z_list, PySem.W.mg_none_of X G z_dict, PySem.W.mg_none_of X G z_tuple, PySem.W.mg_none_of X G z_enumerate, PySem.W.mg_none_of X G z_zip, PySem.W.mg_none_of X G z_repr, PySem.W.mg_none_of X G z_iter, PySem.W.mg_none_of X G z_super⟩
  have cls_Gauge : Cls g.K (g.ca .Gauge) := ⟨pg_Gauge, hd_Gauge, po_Gauge, sa_Gauge⟩
  have cls_CoarseGauge : Cls g.K (g.ca .CoarseGauge) := ⟨pg_CoarseGauge, hd_CoarseGauge, po_CoarseGauge, sa_CoarseGauge⟩
  have cls_LateGauge : Cls g.K (g.ca .LateGauge) := ⟨pg_LateGauge, hd_LateGauge, po_LateGauge, sa_LateGauge⟩
  have cls_LateCoarseGauge : Cls g.K (g.ca .LateCoarseGauge) := ⟨pg_LateCoarseGauge, hd_LateCoarseGauge, po_LateCoarseGauge, sa_LateCoarseGauge⟩
  have cls_Rack : Cls g.K (g.ca .Rack) := ⟨pg_Rack, hd_Rack, po_Rack, sa_Rack⟩
  have fl_name : Flds g [.Gauge, .CoarseGauge, .LateGauge, .LateCoarseGauge] .name := (flds_cons (c := .Gauge) cls_Gauge n_name_Gauge (flds_cons (c := .CoarseGauge) cls_CoarseGauge n_name_CoarseGauge (flds_cons (c := .LateGauge) cls_LateGauge n_name_LateGauge (flds_cons (c := .LateCoarseGauge) cls_LateCoarseGauge n_name_LateCoarseGauge flds_nil))))
  have fl_radius : Flds g [.Gauge, .CoarseGauge, .LateGauge, .LateCoarseGauge] .radius := (flds_cons (c := .Gauge) cls_Gauge n_radius_Gauge (flds_cons (c := .CoarseGauge) cls_CoarseGauge n_radius_CoarseGauge (flds_cons (c := .LateGauge) cls_LateGauge n_radius_LateGauge (flds_cons (c := .LateCoarseGauge) cls_LateCoarseGauge n_radius_LateCoarseGauge flds_nil))))
  have fl_step : Flds g [.CoarseGauge, .LateCoarseGauge] .step := (flds_cons (c := .CoarseGauge) cls_CoarseGauge n_step_CoarseGauge (flds_cons (c := .LateCoarseGauge) cls_LateCoarseGauge n_step_LateCoarseGauge flds_nil))
  have fl_late : Flds g [.LateGauge, .LateCoarseGauge] .late := (flds_cons (c := .LateGauge) cls_LateGauge n_late_LateGauge (flds_cons (c := .LateCoarseGauge) cls_LateCoarseGauge n_late_LateCoarseGauge flds_nil))
  have fl_pace : Flds g [.LateGauge, .LateCoarseGauge] .pace := (flds_cons (c := .LateGauge) cls_LateGauge n_pace_LateGauge (flds_cons (c := .LateCoarseGauge) cls_LateCoarseGauge n_pace_LateCoarseGauge flds_nil))
  have fl_gauges : Flds g [.Rack] .gauges := (flds_cons (c := .Rack) cls_Rack n_gauges_Rack flds_nil)
  have fl_groups : Flds g [.Rack] .groups := (flds_cons (c := .Rack) cls_Rack n_groups_Rack flds_nil)
  have cvi_Gauge_LONGEST : CVI g g.K .Gauge "LONGEST" 12 := ⟨.type "type", _, ⟨cr_Gauge, cg_Gauge⟩, fcvi_Gauge_LONGEST⟩
  have mgc_Gauge : mg "Gauge" = some (.ref (g.ca .Gauge)) := PySem.W.mg_of X G a_Gauge
  have kt_WORDS : KTup g.K mg "WORDS" ["rank", "trim", "weigh", "together"] := ⟨A_kt_WORDS, _, _, _, PySem.W.mg_of X G fkt_WORDS, gkt_WORDS, rfl, rfl, by rw [sizeLine_eq]; simp, (.cons ⟨_, rfl⟩ (.cons ⟨_, rfl⟩ (.cons ⟨_, rfl⟩ (.cons ⟨_, rfl⟩ .nil))))⟩
  have gs_LETTERS : ∃ t : Tok, mg "LETTERS" = some (.str "abcdefghijklmnopqrstuvwxyz" t) := ⟨_, PySem.W.mg_of X G fgs_LETTERS⟩
  have mgc_LateGauge : mg "LateGauge" = some (.ref (g.ca .LateGauge)) := PySem.W.mg_of X G a_LateGauge
  have mgc_Rack : mg "Rack" = some (.ref (g.ca .Rack)) := PySem.W.mg_of X G a_Rack
  have ox_BadGauge : OexC g.K (g.ea .BadGauge) := ⟨⟨_, _, _, _, _, _, _, _, _, _, _, _, _, _, _, lk_BadGauge, rv_BadGauge⟩, sa_BadGauge, xb_BadGauge, ty_BadGauge, kc_BadGauge⟩
  have FS_BadGauge : FunS K "__init__" "BadGauge.__init__" s_BadGauge_init A_BadGauge_init _ cc_BadGauge cda_BadGauge E_BadGauge file_BadGauge := ⟨⟨_, _, _, _, _, _, _, _, rfl, l_BadGauge⟩, c_BadGauge, k_BadGauge, ⟨_, _, _, _, _, fl_BadGauge, fv_BadGauge⟩, ⟨_, _, _, ce_BadGauge⟩, ⟨_, dc_BadGauge⟩⟩
  have ox_DuplicateGauge : OexC g.K (g.ea .DuplicateGauge) := ⟨⟨_, _, _, _, _, _, _, _, _, _, _, _, _, _, _, lk_DuplicateGauge, rv_DuplicateGauge⟩, sa_DuplicateGauge, xb_DuplicateGauge, ty_DuplicateGauge, kc_DuplicateGauge⟩
  have FS_DuplicateGauge : FunS K "__init__" "DuplicateGauge.__init__" s_DuplicateGauge_init A_DuplicateGauge_init _ cc_DuplicateGauge cda_DuplicateGauge E_DuplicateGauge file_DuplicateGauge := ⟨⟨_, _, _, _, _, _, _, _, rfl, l_DuplicateGauge⟩, c_DuplicateGauge, k_DuplicateGauge, ⟨_, _, _, _, _, fl_DuplicateGauge, fv_DuplicateGauge⟩, ⟨_, _, _, ce_DuplicateGauge⟩, ⟨_, dc_DuplicateGauge⟩⟩
  have ox_UnknownGauge : OexC g.K (g.ea .UnknownGauge) := ⟨⟨_, _, _, _, _, _, _, _, _, _, _, _, _, _, _, lk_UnknownGauge, rv_UnknownGauge⟩, sa_UnknownGauge, xb_UnknownGauge, ty_UnknownGauge, kc_UnknownGauge⟩
  have FS_UnknownGauge : FunS K "__init__" "UnknownGauge.__init__" s_UnknownGauge_init A_UnknownGauge_init _ cc_UnknownGauge cda_UnknownGauge E_UnknownGauge file_UnknownGauge := ⟨⟨_, _, _, _, _, _, _, _, rfl, l_UnknownGauge⟩, c_UnknownGauge, k_UnknownGauge, ⟨_, _, _, _, _, fl_UnknownGauge, fv_UnknownGauge⟩, ⟨_, _, _, ce_UnknownGauge⟩, ⟨_, dc_UnknownGauge⟩⟩
  have F_law_take := fun_mk (st := s_law_take) l_law_take c_law_take k_law_take
  have bd_law_take := F_law_take.binds (ps := ["_law_box_here", "_law_many"]) fun _ _ _ _ _ _ us hl => match us, hl with | [_, _], _ => rfl
  have F_law_box := fun_mk (st := s_law_box) l_law_box c_law_box k_law_box
  have bd_law_box := F_law_box.binds (ps := ["_law_script", "_law_salt"]) fun _ _ _ _ _ _ us hl => match us, hl with | [_, _], _ => rfl
  have F_law_word := fun_mk (st := s_law_word) l_law_word c_law_word k_law_word
  have bd_law_word := F_law_word.binds (ps := ["_law_number", "_law_many", "_law_back"]) fun _ _ _ _ _ _ us hl => match us, hl with | [_, _, _], _ => rfl
  have F_law_words := fun_mk (st := s_law_words) l_law_words c_law_words k_law_words
  have bd_law_words := F_law_words.binds (ps := ["_law_box_here", "_law_many"]) fun _ _ _ _ _ _ us hl => match us, hl with | [_, _], _ => rfl
  have F_valid_name := fun_mk (st := s_valid_name) l_valid_name c_valid_name k_valid_name
  have bd_valid_name := F_valid_name.binds (ps := ["name"]) fun _ _ _ _ _ _ us hl => match us, hl with | [_], _ => rfl
  have F_Gauge_init := fun_mk (st := s_Gauge_init) l_Gauge_init c_Gauge_init k_Gauge_init
  have bd_Gauge_init := F_Gauge_init.binds (ps := ["self", "name", "radius"]) fun _ _ _ _ _ _ us hl => match us, hl with | [_, _, _], _ => rfl
  have FS_CoarseGauge_init : FunS K "__init__" "CoarseGauge.__init__" s_CoarseGauge_init A_CoarseGauge_init _ cc_CoarseGauge_init cda_CoarseGauge_init C_CoarseGauge file_CoarseGauge_init := ⟨⟨_, _, _, _, _, _, _, _, rfl, l_CoarseGauge_init⟩, c_CoarseGauge_init, k_CoarseGauge_init, ⟨_, _, _, _, _, fl_CoarseGauge_init, fv_CoarseGauge_init⟩, ⟨_, _, _, ce_CoarseGauge_init⟩, ⟨_, dc_CoarseGauge_init⟩⟩
  have F_LateGauge_init := fun_mk (st := s_LateGauge_init) l_LateGauge_init c_LateGauge_init k_LateGauge_init
  have F_LateCoarseGauge_init := fun_mk (st := s_LateCoarseGauge_init) l_LateCoarseGauge_init c_LateCoarseGauge_init k_LateCoarseGauge_init
  have F_law_specs := fun_mk (st := s_law_specs) l_law_specs c_law_specs k_law_specs
  have bd_law_specs := F_law_specs.binds (ps := ["_law_box_here", "_law_words_here"]) fun _ _ _ _ _ _ us hl => match us, hl with | [_, _], _ => rfl
  have F_law_gauge := fun_mk (st := s_law_gauge) l_law_gauge c_law_gauge k_law_gauge
  have bd_law_gauge := F_law_gauge.binds (ps := ["_law_spec"]) fun _ _ _ _ _ _ us hl => match us, hl with | [_], _ => rfl
  have F_Rack_init := fun_mk (st := s_Rack_init) l_Rack_init c_Rack_init k_Rack_init
  have F_Rack_names := fun_mk (st := s_Rack_names) l_Rack_names c_Rack_names k_Rack_names
  have bd_Rack_names := F_Rack_names.binds (ps := ["self"]) fun _ _ _ _ _ _ us hl => match us, hl with | [_], _ => rfl
  have F_law_gauges := fun_mk (st := s_law_gauges) l_law_gauges c_law_gauges k_law_gauges
  have bd_law_gauges := F_law_gauges.binds (ps := ["_law_specs_here"]) fun _ _ _ _ _ _ us hl => match us, hl with | [_], _ => rfl
  have F_law_groups := fun_mk (st := s_law_groups) l_law_groups c_law_groups k_law_groups
  have bd_law_groups := F_law_groups.binds (ps := ["_law_box_here", "_law_words_here"]) fun _ _ _ _ _ _ us hl => match us, hl with | [_, _], _ => rfl
  have F_law_faults := fun_mk (st := s_law_faults) l_law_faults c_law_faults k_law_faults
  have bd_law_faults := F_law_faults.binds (ps := ["_law_words_here", "_law_groups_here"]) fun _ _ _ _ _ _ us hl => match us, hl with | [_, _], _ => rfl
  have F_Rack_faults := fun_mk (st := s_Rack_faults) l_Rack_faults c_Rack_faults k_Rack_faults
  have bd_Rack_faults := F_Rack_faults.binds (ps := ["self"]) fun _ _ _ _ _ _ us hl => match us, hl with | [_], _ => rfl
  have F_picks := fun_mk (st := s_picks) l_picks c_picks k_picks
  have bd_picks := F_picks.binds (ps := ["many", "count"]) fun _ _ _ _ _ _ us hl => match us, hl with | [_, _], _ => rfl
  have F_law_picks := fun_mk (st := s_law_picks) l_law_picks c_law_picks k_law_picks
  have bd_law_picks := F_law_picks.binds (ps := ["_law_many", "_law_count"]) fun _ _ _ _ _ _ us hl => match us, hl with | [_, _], _ => rfl
  have F_law_lots := fun_mk (st := s_law_lots) l_law_lots c_law_lots k_law_lots
  have bd_law_lots := F_law_lots.binds (ps := ["_law_words_here", "_law_faults_here", "_law_count"]) fun _ _ _ _ _ _ us hl => match us, hl with | [_, _, _], _ => rfl
  have F_liar_lots := fun_mk (st := s_liar_lots) l_liar_lots c_liar_lots k_liar_lots
  have bd_liar_lots := F_liar_lots.binds (ps := ["rack", "liars"]) fun _ _ _ _ _ _ us hl => match us, hl with | [_, _], _ => rfl
  have F_law := fun_mk (st := s_law) l_law c_law k_law
  refine ⟨PySem.W.fnOf "law" "law" (defArgs s_law) (defBody s_law) (defScope s_law) .none kV_law dc_law pm_law an_law cd_law ct_law, fun s v => .of_eq rfl, fun base _ _ => ?_⟩
  have gx_BadGauge : GX g l.prog w g.K mg base .BadGauge "BadGauge" [.name] := gx_mk (PySem.W.mg_of X G a_BadGauge) ox_BadGauge fi_BadGauge ti_BadGauge (x_BadGauge (w := w) (mg := mg) (base := base) FS_BadGauge ⟨pf_BadGauge, ps⟩ B.super ⟨ox_BadGauge, mr_BadGauge, su_BadGauge, ve_BadGauge, th⟩ n_name_BadGauge) (FS_BadGauge.binds (ps := ["self", "name"]) fun _ _ _ _ _ us hl => match us, hl with | [_, _], _ => rfl)
  have gx_DuplicateGauge : GX g l.prog w g.K mg base .DuplicateGauge "DuplicateGauge" [.name] := gx_mk (PySem.W.mg_of X G a_DuplicateGauge) ox_DuplicateGauge fi_DuplicateGauge ti_DuplicateGauge (x_DuplicateGauge (w := w) (mg := mg) (base := base) FS_DuplicateGauge ⟨pf_DuplicateGauge, ps⟩ B.super ⟨ox_DuplicateGauge, mr_DuplicateGauge, su_DuplicateGauge, ve_DuplicateGauge, th⟩ n_name_DuplicateGauge) (FS_DuplicateGauge.binds (ps := ["self", "name"]) fun _ _ _ _ _ us hl => match us, hl with | [_, _], _ => rfl)
  have gx_UnknownGauge : GX g l.prog w g.K mg base .UnknownGauge "UnknownGauge" [.name] := gx_mk (PySem.W.mg_of X G a_UnknownGauge) ox_UnknownGauge fi_UnknownGauge ti_UnknownGauge (x_UnknownGauge (w := w) (mg := mg) (base := base) FS_UnknownGauge ⟨pf_UnknownGauge, ps⟩ B.super ⟨ox_UnknownGauge, mr_UnknownGauge, su_UnknownGauge, ve_UnknownGauge, th⟩ n_name_UnknownGauge) (FS_UnknownGauge.binds (ps := ["self", "name"]) fun _ _ _ _ _ us hl => match us, hl with | [_, _], _ => rfl)
  have fn_law_take := fnF (g := g) (K := g.K) (mg := mg) (P := l.prog) (w := w) (base := base) F_law_take bd_law_take sc_law_take (b_law_take B ) pure_law_take
  have gd_law_take : GD g l.prog w g.K mg base _ "_law_take" _ := ⟨A_law_take, PySem.W.mg_of X G f_law_take, k_law_take, fn_law_take⟩
  have fn_law_box := fnF (g := g) (K := g.K) (mg := mg) (P := l.prog) (w := w) (base := base) F_law_box bd_law_box sc_law_box (b_law_box B ) pure_law_box
  have gd_law_box : GD g l.prog w g.K mg base _ "_law_box" _ := ⟨A_law_box, PySem.W.mg_of X G f_law_box, k_law_box, fn_law_box⟩
  have fn_law_word := fnF (g := g) (K := g.K) (mg := mg) (P := l.prog) (w := w) (base := base) F_law_word bd_law_word sc_law_word (b_law_word B ) pure_law_word
  have gd_law_word : GD g l.prog w g.K mg base _ "_law_word" _ := ⟨A_law_word, PySem.W.mg_of X G f_law_word, k_law_word, fn_law_word⟩
  have fn_law_words := fnF (g := g) (K := g.K) (mg := mg) (P := l.prog) (w := w) (base := base) F_law_words bd_law_words sc_law_words (b_law_words B gd_law_take gd_law_word) pure_law_words
  have gd_law_words : GD g l.prog w g.K mg base _ "_law_words" _ := ⟨A_law_words, PySem.W.mg_of X G f_law_words, k_law_words, fn_law_words⟩
  have fn_valid_name := fnF (g := g) (K := g.K) (mg := mg) (P := l.prog) (w := w) (base := base) F_valid_name bd_valid_name sc_valid_name (b_valid_name B cvi_Gauge_LONGEST mgc_Gauge kt_WORDS gs_LETTERS) pure_valid_name
  have gd_valid_name : GD g l.prog w g.K mg base _ "valid_name" _ := ⟨A_valid_name, PySem.W.mg_of X G f_valid_name, k_valid_name, fn_valid_name⟩
  have fn_Gauge_init := fnF (g := g) (K := g.K) (mg := mg) (P := l.prog) (w := w) (base := base) F_Gauge_init bd_Gauge_init sc_Gauge_init (b_Gauge_init B gd_valid_name gx_BadGauge fl_name fl_radius) pure_Gauge_init
  have gc_Gauge : GC g l.prog w g.K mg base _ .Gauge "Gauge" _ := ⟨PySem.W.mg_of X G a_Gauge, A_Gauge_init, ⟨mk_Gauge, f_Gauge_init, i_Gauge_init, kc_Gauge⟩, fn_Gauge_init⟩
  have mo_Gauge_init : MOk g l.prog w g.K mg base _ .Gauge "__init__" _ := ⟨cls_Gauge, A_Gauge_init, ⟨f_Gauge_init, i_Gauge_init, k_Gauge_init⟩, fn_Gauge_init⟩
  have stb_CoarseGauge_init : STab g l.prog w g.K mg base 3 C_CoarseGauge "__init__" [(.CoarseGauge, S_Gauge_init)] := (st_cons ⟨sup_CoarseGauge_CoarseGauge___init__, sty_Gauge_init, sfn_Gauge_init, smr_CoarseGauge_CoarseGauge, th⟩ (FN.mono fn_Gauge_init (by decide)) st_nil)
  have ua_Gauge_init : UAt g l.prog w g.K mg base 3 .Gauge "__init__" S_Gauge_init := ⟨.type "type", A_Gauge_init, ⟨cr_Gauge, cg_Gauge⟩, uf_Gauge_init, k_Gauge_init, FN.mono fn_Gauge_init (by decide)⟩
  have uak_LateGauge_init_late_pace : UAtK g l.prog w g.K mg base 4 .LateGauge "__init__" 3 ["late", "pace"] [0, 1] S_LateGauge_init := ⟨.type "type", A_LateGauge_init, ⟨cr_LateGauge, cg_LateGauge⟩, uf_LateGauge_init, k_LateGauge_init, FNK.mono (fnFK (g := g) (K := g.K) (mg := mg) (P := l.prog) (w := w) (base := base) (n := 3) (ks := ["late", "pace"]) (idx := [0, 1]) F_LateGauge_init sc_LateGauge_init (b_LateGauge_init B mgc_Gauge ua_Gauge_init gx_BadGauge fl_late fl_pace) pure_LateGauge_init fun _ _ _ _ _ _ us ws h1 h2 => match us, ws, h1, h2 with | [_, _, _], [_, _], _, _ => rfl) (by decide)⟩
  have fn_law_specs := fnF (g := g) (K := g.K) (mg := mg) (P := l.prog) (w := w) (base := base) F_law_specs bd_law_specs sc_law_specs (b_law_specs B gd_law_take) pure_law_specs
  have gd_law_specs : GD g l.prog w g.K mg base _ "_law_specs" _ := ⟨A_law_specs, PySem.W.mg_of X G f_law_specs, k_law_specs, fn_law_specs⟩
  have gck_CoarseGauge_step : GCK g l.prog w g.K mg base 4 .CoarseGauge "CoarseGauge" 2 ["step"] [0] S_CoarseGauge_init := ⟨PySem.W.mg_of X G a_CoarseGauge, A_CoarseGauge_init, ⟨mk_CoarseGauge, f_CoarseGauge_init, i_CoarseGauge_init, kc_CoarseGauge⟩, FNK.mono (fnSK (g := g) (K := g.K) (mg := mg) (P := l.prog) (w := w) (base := base) (n := 3) (ks := ["step"]) (idx := [0]) FS_CoarseGauge_init sc_CoarseGauge_init (b_CoarseGauge_init B FS_CoarseGauge_init ⟨pf_CoarseGauge_init, ps⟩ stb_CoarseGauge_init gx_BadGauge fl_step) pure_CoarseGauge_init (by decide) fun _ _ _ _ _ us ws h1 h2 => match us, ws, h1, h2 with | [_, _, _], [_], _, _ => rfl) (by decide)⟩
  have gck_LateGauge_late_pace : GCK g l.prog w g.K mg base 4 .LateGauge "LateGauge" 2 ["late", "pace"] [0, 1] S_LateGauge_init := ⟨PySem.W.mg_of X G a_LateGauge, A_LateGauge_init, ⟨mk_LateGauge, f_LateGauge_init, i_LateGauge_init, kc_LateGauge⟩, FNK.mono (fnFK (g := g) (K := g.K) (mg := mg) (P := l.prog) (w := w) (base := base) (n := 3) (ks := ["late", "pace"]) (idx := [0, 1]) F_LateGauge_init sc_LateGauge_init (b_LateGauge_init B mgc_Gauge ua_Gauge_init gx_BadGauge fl_late fl_pace) pure_LateGauge_init fun _ _ _ _ _ _ us ws h1 h2 => match us, ws, h1, h2 with | [_, _, _], [_, _], _, _ => rfl) (by decide)⟩
  have gck_LateCoarseGauge_pace_step_late : GCK g l.prog w g.K mg base 5 .LateCoarseGauge "LateCoarseGauge" 2 ["pace", "step", "late"] [1, 2, 0] S_LateCoarseGauge_init := ⟨PySem.W.mg_of X G a_LateCoarseGauge, A_LateCoarseGauge_init, ⟨mk_LateCoarseGauge, f_LateCoarseGauge_init, i_LateCoarseGauge_init, kc_LateCoarseGauge⟩, FNK.mono (fnFK (g := g) (K := g.K) (mg := mg) (P := l.prog) (w := w) (base := base) (n := 3) (ks := ["pace", "step", "late"]) (idx := [1, 2, 0]) F_LateCoarseGauge_init sc_LateCoarseGauge_init (b_LateCoarseGauge_init B mgc_LateGauge uak_LateGauge_init_late_pace gx_BadGauge fl_step) pure_LateCoarseGauge_init fun _ _ _ _ _ _ us ws h1 h2 => match us, ws, h1, h2 with | [_, _, _], [_, _, _], _, _ => rfl) (by decide)⟩
  have fn_law_gauge := fnF (g := g) (K := g.K) (mg := mg) (P := l.prog) (w := w) (base := base) F_law_gauge bd_law_gauge sc_law_gauge (b_law_gauge B gck_CoarseGauge_step gck_LateGauge_late_pace gck_LateCoarseGauge_pace_step_late gc_Gauge) pure_law_gauge
  have gd_law_gauge : GD g l.prog w g.K mg base _ "_law_gauge" _ := ⟨A_law_gauge, PySem.W.mg_of X G f_law_gauge, k_law_gauge, fn_law_gauge⟩
  have fn_Rack_init := fn_starD (g := g) (K := g.K) (mg := mg) (P := l.prog) (w := w) (base := base) (ps := ["self"]) (kn := "together") (pv := "gauges") rfl l_Rack_init c_Rack_init sc_Rack_init (b_Rack_init B fl_gauges fl_name gx_DuplicateGauge gx_UnknownGauge fl_groups) pure_Rack_init kd_Rack_init ke_Rack_init rfl rfl (fun us rest hl => by
    match us, rest, hl with
    | [_], [], _ => exact ⟨_, _, _, _, _, _, rfl, rfl, rfl⟩
    | [_], _ :: _, _ => exact ⟨_, _, _, _, _, _, rfl, rfl, rfl⟩)
  have fnv_Rack_init := fn_starV (g := g) (K := g.K) (mg := mg) (P := l.prog) (w := w) (base := base) (ps := ["self"]) (ks := ["together"]) (pv := "gauges") l_Rack_init c_Rack_init sc_Rack_init (b_Rack_init B fl_gauges fl_name gx_DuplicateGauge gx_UnknownGauge fl_groups) pure_Rack_init (fun us rest ws h1 h2 => match us, rest, ws, h1, h2 with | [_], [], [_], _, _ => rfl | [_], _ :: _, [_], _, _ => rfl)
  have gc_Rack : GC g l.prog w g.K mg base _ .Rack "Rack" _ := ⟨PySem.W.mg_of X G a_Rack, A_Rack_init, ⟨mk_Rack, f_Rack_init, i_Rack_init, kc_Rack⟩, fn_Rack_init⟩
  have mo_Rack_init : MOk g l.prog w g.K mg base _ .Rack "__init__" _ := ⟨cls_Rack, A_Rack_init, ⟨f_Rack_init, i_Rack_init, k_Rack_init⟩, fn_Rack_init⟩
  have gvs_Rack : GCVs g l.prog w g.K mg base 3 ["together"] [(.Rack, (starV 1 1 S_Rack_init))] := (gcvs_cons ⟨mk_Rack, f_Rack_init, i_Rack_init, kc_Rack⟩ (FNV.mono fnv_Rack_init (by decide)) gcvs_nil)
  have fn_Rack_of := fn_dflA (g := g) (K := g.K) (mg := mg) (P := l.prog) (w := w) (base := base) l_Rack_of c_Rack_of sc_Rack_of (b_Rack_of B gvs_Rack) pure_Rack_of kd_Rack_of rfl (fun us hl => match us, hl with | [_, _, _], _ => ⟨_, rfl, rfl⟩)
  have fnd_Rack_of := fn_dfl1 (g := g) (K := g.K) (mg := mg) (P := l.prog) (w := w) (base := base) rfl l_Rack_of c_Rack_of sc_Rack_of (b_Rack_of B gvs_Rack) pure_Rack_of kd_Rack_of rfl ke_Rack_of rfl rfl (fun us hl => match us, hl with | [_, _], _ => ⟨_, rfl, rfl⟩)
  have fn_Rack_names := fnF (g := g) (K := g.K) (mg := mg) (P := l.prog) (w := w) (base := base) F_Rack_names bd_Rack_names sc_Rack_names (b_Rack_names B fl_gauges) pure_Rack_names
  have mo_Rack_names : MOk g l.prog w g.K mg base _ .Rack "names" _ := ⟨cls_Rack, A_Rack_names, ⟨f_Rack_names, i_Rack_names, k_Rack_names⟩, fn_Rack_names⟩
  have fn_law_gauges := fnF (g := g) (K := g.K) (mg := mg) (P := l.prog) (w := w) (base := base) F_law_gauges bd_law_gauges sc_law_gauges (b_law_gauges B gd_law_gauge) pure_law_gauges
  have gd_law_gauges : GD g l.prog w g.K mg base _ "_law_gauges" _ := ⟨A_law_gauges, PySem.W.mg_of X G f_law_gauges, k_law_gauges, fn_law_gauges⟩
  have fn_law_groups := fnF (g := g) (K := g.K) (mg := mg) (P := l.prog) (w := w) (base := base) F_law_groups bd_law_groups sc_law_groups (b_law_groups B gd_law_take) pure_law_groups
  have gd_law_groups : GD g l.prog w g.K mg base _ "_law_groups" _ := ⟨A_law_groups, PySem.W.mg_of X G f_law_groups, k_law_groups, fn_law_groups⟩
  have fn_law_faults := fnF (g := g) (K := g.K) (mg := mg) (P := l.prog) (w := w) (base := base) F_law_faults bd_law_faults sc_law_faults (b_law_faults B ) pure_law_faults
  have gd_law_faults : GD g l.prog w g.K mg base _ "_law_faults" _ := ⟨A_law_faults, PySem.W.mg_of X G f_law_faults, k_law_faults, fn_law_faults⟩
  have fn_Rack_faults := fnF (g := g) (K := g.K) (mg := mg) (P := l.prog) (w := w) (base := base) F_Rack_faults bd_Rack_faults sc_Rack_faults (b_Rack_faults B fl_groups) pure_Rack_faults
  have mo_Rack_faults : MOk g l.prog w g.K mg base _ .Rack "faults" _ := ⟨cls_Rack, A_Rack_faults, ⟨f_Rack_faults, i_Rack_faults, k_Rack_faults⟩, fn_Rack_faults⟩
  have fn_picks := fnF (g := g) (K := g.K) (mg := mg) (P := l.prog) (w := w) (base := base) F_picks bd_picks sc_picks (b_picks B ) pure_picks
  have gd_picks : GD g l.prog w g.K mg base _ "picks" _ := ⟨A_picks, PySem.W.mg_of X G f_picks, k_picks, fn_picks⟩
  have fn_law_picks := fnF (g := g) (K := g.K) (mg := mg) (P := l.prog) (w := w) (base := base) F_law_picks bd_law_picks sc_law_picks (b_law_picks B ) pure_law_picks
  have gd_law_picks : GD g l.prog w g.K mg base _ "_law_picks" _ := ⟨A_law_picks, PySem.W.mg_of X G f_law_picks, k_law_picks, fn_law_picks⟩
  have fn_law_lots := fnF (g := g) (K := g.K) (mg := mg) (P := l.prog) (w := w) (base := base) F_law_lots bd_law_lots sc_law_lots (b_law_lots B gd_law_picks) pure_law_lots
  have gd_law_lots : GD g l.prog w g.K mg base _ "_law_lots" _ := ⟨A_law_lots, PySem.W.mg_of X G f_law_lots, k_law_lots, fn_law_lots⟩
  have mt_faults_Rack : MTab g l.prog w g.K mg base 1 "faults" [(.Rack, S_Rack_faults)] := (mt_cons (MOk.mono mo_Rack_faults (by decide)) mt_nil)
  have mt_names_Rack : MTab g l.prog w g.K mg base 1 "names" [(.Rack, S_Rack_names)] := (mt_cons (MOk.mono mo_Rack_names (by decide)) mt_nil)
  have gc_liar_lots : GGenC g l.prog w g.K mg base 1 "liar_lots" _ := ⟨A_liar_lots, PySem.W.mg_of X G f_liar_lots, k_liar_lots, gen_atC F_liar_lots sc_liar_lots bd_liar_lots (lkg_name 3) (gb_liar_lots (P := l.prog) (w := w) (base := base) (g := g) B mt_faults_Rack gd_picks mt_names_Rack) pure_liar_lots⟩
  have cm_Rack_of : CmAt g l.prog w g.K mg base 5 .Rack "of" S_Rack_of := ⟨.type "type", P_Rack_of, A_Rack_of, ⟨cr_Rack, cg_Rack⟩, ⟨cf_Rack_of, ⟨_, cc_Rack_of⟩, ci_Rack_of⟩, FN.mono fn_Rack_of (by decide)⟩
  exact (fn_okF (g := g) F_law sc_law (fun ds O P E h => (pure_law ds O P E h).1) (b_law B gd_law_box gd_law_words gd_law_take gd_law_specs gd_law_groups gd_law_faults mgc_Rack cm_Rack_of gd_law_gauges gd_law_lots gc_liar_lots mt_faults_Rack _) fun ds O P E h => (pure_law ds O P E h).2).imp fun vs H Q E h => spLaw_of (g := g) h
theorem hfk0 {K : PySem.W.Frag} (h : Hd.okAll (hck0 K) = true) : (Hd.cdS K 104 103) = true ∧ (Hd.cdS K 125 124) = true ∧ (Hd.cdS K 146 145) = true ∧ (Hd.cdQ K 739 "_law_take") = true ∧ (Hd.cdQ K 732 "_law_box") = true ∧ (Hd.cdQ K 746 "_law_word") = true ∧ (Hd.cdQ K 753 "_law_words") = true ∧ (Hd.cdQ K 614 "valid_name") = true ∧ (Hd.cdQ K 475 "Gauge.__init__") = true ∧ (Hd.cdS K 541 540) = true ∧ (Hd.cdQ K 569 "LateGauge.__init__") = true ∧ (Hd.cdQ K 604 "LateCoarseGauge.__init__") = true ∧ (Hd.cdQ K 760 "_law_specs") = true ∧ (Hd.cdQ K 767 "_law_gauge") = true ∧ (Hd.cdQ K 628 "Rack.__init__") = true ∧ (Hd.kwQ K 628 (.ref 623)) = true ∧ (Hd.cdQ K 637 "Rack.of") = true ∧ (Hd.cdQ K 661 "Rack.names") = true ∧ (Hd.cdQ K 772 "_law_gauges") = true ∧ (Hd.cdQ K 777 "_law_groups") = true := by
  unfold hck0 at h
  obtain ⟨h0, h⟩ := Hd.okc h
  obtain ⟨h1, h⟩ := Hd.okc h
  obtain ⟨h2, h⟩ := Hd.okc h
  obtain ⟨h3, h⟩ := Hd.okc h
  obtain ⟨h4, h⟩ := Hd.okc h
  obtain ⟨h5, h⟩ := Hd.okc h
  obtain ⟨h6, h⟩ := Hd.okc h
  obtain ⟨h7, h⟩ := Hd.okc h
  obtain ⟨h8, h⟩ := Hd.okc h
  obtain ⟨h9, h⟩ := Hd.okc h
  obtain ⟨h10, h⟩ := Hd.okc h
  obtain ⟨h11, h⟩ := Hd.okc h
  obtain ⟨h12, h⟩ := Hd.okc h
  obtain ⟨h13, h⟩ := Hd.okc h
  obtain ⟨h14, h⟩ := Hd.okc h
  obtain ⟨h15, h⟩ := Hd.okc h
  obtain ⟨h16, h⟩ := Hd.okc h
  obtain ⟨h17, h⟩ := Hd.okc h
  obtain ⟨h18, h⟩ := Hd.okc h
  obtain ⟨h19, h⟩ := Hd.okc h
  exact ⟨h0, h1, h2, h3, h4, h5, h6, h7, h8, h9, h10, h11, h12, h13, h14, h15, h16, h17, h18, h19⟩
theorem hfk1 {K : PySem.W.Frag} (h : Hd.okAll (hck1 K) = true) : (Hd.cdQ K 782 "_law_faults") = true ∧ (Hd.cdQ K 673 "Rack.faults") = true ∧ (Hd.cdQ K 156 "picks") = true ∧ (Hd.cdQ K 787 "_law_picks") = true ∧ (Hd.cdQ K 792 "_law_lots") = true ∧ (Hd.cdQ K 161 "liar_lots") = true ∧ (Hd.cdQ K 797 "law") = true ∧ (decide (PySem.W.nsIn K mainGlobals "Gauge" = some (some (.ref 521)))) = true ∧ (PySem.W.plainGet K 521 Str.empty) = true ∧ (PySem.W.hasDictIn K 521) = true ∧ (PySem.W.plainOver K 521) = true ∧ (decide (PySem.W.findIn K (.ref 521) "__setattr__" = some (some (.builtin "object.__setattr__")))) = true ∧ (PySem.W.makesIn K 521) = true ∧ (PySem.W.keepIn K (.ref 521)) = true ∧ (decide (PySem.W.nsIn K mainGlobals "CoarseGauge" = some (some (.ref 552)))) = true ∧ (PySem.W.plainGet K 552 Str.empty) = true ∧ (PySem.W.hasDictIn K 552) = true ∧ (PySem.W.plainOver K 552) = true ∧ (decide (PySem.W.findIn K (.ref 552) "__setattr__" = some (some (.builtin "object.__setattr__")))) = true ∧ (PySem.W.makesIn K 552) = true := by
  unfold hck1 at h
  obtain ⟨h0, h⟩ := Hd.okc h
  obtain ⟨h1, h⟩ := Hd.okc h
  obtain ⟨h2, h⟩ := Hd.okc h
  obtain ⟨h3, h⟩ := Hd.okc h
  obtain ⟨h4, h⟩ := Hd.okc h
  obtain ⟨h5, h⟩ := Hd.okc h
  obtain ⟨h6, h⟩ := Hd.okc h
  obtain ⟨h7, h⟩ := Hd.okc h
  obtain ⟨h8, h⟩ := Hd.okc h
  obtain ⟨h9, h⟩ := Hd.okc h
  obtain ⟨h10, h⟩ := Hd.okc h
  obtain ⟨h11, h⟩ := Hd.okc h
  obtain ⟨h12, h⟩ := Hd.okc h
  obtain ⟨h13, h⟩ := Hd.okc h
  obtain ⟨h14, h⟩ := Hd.okc h
  obtain ⟨h15, h⟩ := Hd.okc h
  obtain ⟨h16, h⟩ := Hd.okc h
  obtain ⟨h17, h⟩ := Hd.okc h
  obtain ⟨h18, h⟩ := Hd.okc h
  obtain ⟨h19, h⟩ := Hd.okc h
  exact ⟨h0, h1, h2, h3, h4, h5, h6, h7, h8, h9, h10, h11, h12, h13, h14, h15, h16, h17, h18, h19⟩
theorem hfk2 {K : PySem.W.Frag} (h : Hd.okAll (hck2 K) = true) : (PySem.W.keepIn K (.ref 552)) = true ∧ (decide (PySem.W.nsIn K mainGlobals "LateGauge" = some (some (.ref 588)))) = true ∧ (PySem.W.plainGet K 588 Str.empty) = true ∧ (PySem.W.hasDictIn K 588) = true ∧ (PySem.W.plainOver K 588) = true ∧ (decide (PySem.W.findIn K (.ref 588) "__setattr__" = some (some (.builtin "object.__setattr__")))) = true ∧ (PySem.W.makesIn K 588) = true ∧ (PySem.W.keepIn K (.ref 588)) = true ∧ (decide (PySem.W.nsIn K mainGlobals "LateCoarseGauge" = some (some (.ref 607)))) = true ∧ (PySem.W.plainGet K 607 Str.empty) = true ∧ (PySem.W.hasDictIn K 607) = true ∧ (PySem.W.plainOver K 607) = true ∧ (decide (PySem.W.findIn K (.ref 607) "__setattr__" = some (some (.builtin "object.__setattr__")))) = true ∧ (PySem.W.makesIn K 607) = true ∧ (PySem.W.keepIn K (.ref 607)) = true ∧ (decide (PySem.W.nsIn K mainGlobals "Rack" = some (some (.ref 723)))) = true ∧ (PySem.W.plainGet K 723 Str.empty) = true ∧ (PySem.W.hasDictIn K 723) = true ∧ (PySem.W.plainOver K 723) = true ∧ (decide (PySem.W.findIn K (.ref 723) "__setattr__" = some (some (.builtin "object.__setattr__")))) = true := by
  unfold hck2 at h
  obtain ⟨h0, h⟩ := Hd.okc h
  obtain ⟨h1, h⟩ := Hd.okc h
  obtain ⟨h2, h⟩ := Hd.okc h
  obtain ⟨h3, h⟩ := Hd.okc h
  obtain ⟨h4, h⟩ := Hd.okc h
  obtain ⟨h5, h⟩ := Hd.okc h
  obtain ⟨h6, h⟩ := Hd.okc h
  obtain ⟨h7, h⟩ := Hd.okc h
  obtain ⟨h8, h⟩ := Hd.okc h
  obtain ⟨h9, h⟩ := Hd.okc h
  obtain ⟨h10, h⟩ := Hd.okc h
  obtain ⟨h11, h⟩ := Hd.okc h
  obtain ⟨h12, h⟩ := Hd.okc h
  obtain ⟨h13, h⟩ := Hd.okc h
  obtain ⟨h14, h⟩ := Hd.okc h
  obtain ⟨h15, h⟩ := Hd.okc h
  obtain ⟨h16, h⟩ := Hd.okc h
  obtain ⟨h17, h⟩ := Hd.okc h
  obtain ⟨h18, h⟩ := Hd.okc h
  obtain ⟨h19, h⟩ := Hd.okc h
  exact ⟨h0, h1, h2, h3, h4, h5, h6, h7, h8, h9, h10, h11, h12, h13, h14, h15, h16, h17, h18, h19⟩
theorem hfk3 {K : PySem.W.Frag} (h : Hd.okAll (hck3 K) = true) : (PySem.W.makesIn K 723) = true ∧ (PySem.W.keepIn K (.ref 723)) = true ∧ (decide (PySem.W.nsIn K mainGlobals "BadGauge" = some (some (.ref 107)))) = true ∧ (decide (PySem.W.subIn K (.ref 107) (.type "BaseException") = some true)) = true ∧ (decide (PySem.W.typeIn K (.ref 107) = some (.type "type"))) = true ∧ (PySem.W.keepIn K (.ref 107)) = true ∧ (PySem.W.hasDictIn K 107) = true ∧ (decide (PySem.W.nsIn K mainGlobals "DuplicateGauge" = some (some (.ref 128)))) = true ∧ (decide (PySem.W.subIn K (.ref 128) (.type "BaseException") = some true)) = true ∧ (decide (PySem.W.typeIn K (.ref 128) = some (.type "type"))) = true ∧ (PySem.W.keepIn K (.ref 128)) = true ∧ (PySem.W.hasDictIn K 128) = true ∧ (decide (PySem.W.nsIn K mainGlobals "UnknownGauge" = some (some (.ref 149)))) = true ∧ (decide (PySem.W.subIn K (.ref 149) (.type "BaseException") = some true)) = true ∧ (decide (PySem.W.typeIn K (.ref 149) = some (.type "type"))) = true ∧ (PySem.W.keepIn K (.ref 149)) = true ∧ (PySem.W.hasDictIn K 149) = true ∧ (Hd.lkQ K 107) = true ∧ (decide (PySem.W.findIn K (.ref 107) "__setattr__" = some (some (.builtin "object.__setattr__")))) = true ∧ (decide (PySem.W.findIn K (.ref 107) "__init__" = some (some (.ref 104)))) = true := by
  unfold hck3 at h
  obtain ⟨h0, h⟩ := Hd.okc h
  obtain ⟨h1, h⟩ := Hd.okc h
  obtain ⟨h2, h⟩ := Hd.okc h
  obtain ⟨h3, h⟩ := Hd.okc h
  obtain ⟨h4, h⟩ := Hd.okc h
  obtain ⟨h5, h⟩ := Hd.okc h
  obtain ⟨h6, h⟩ := Hd.okc h
  obtain ⟨h7, h⟩ := Hd.okc h
  obtain ⟨h8, h⟩ := Hd.okc h
  obtain ⟨h9, h⟩ := Hd.okc h
  obtain ⟨h10, h⟩ := Hd.okc h
  obtain ⟨h11, h⟩ := Hd.okc h
  obtain ⟨h12, h⟩ := Hd.okc h
  obtain ⟨h13, h⟩ := Hd.okc h
  obtain ⟨h14, h⟩ := Hd.okc h
  obtain ⟨h15, h⟩ := Hd.okc h
  obtain ⟨h16, h⟩ := Hd.okc h
  obtain ⟨h17, h⟩ := Hd.okc h
  obtain ⟨h18, h⟩ := Hd.okc h
  obtain ⟨h19, h⟩ := Hd.okc h
  exact ⟨h0, h1, h2, h3, h4, h5, h6, h7, h8, h9, h10, h11, h12, h13, h14, h15, h16, h17, h18, h19⟩
theorem hfk4 {K : PySem.W.Frag} (h : Hd.okAll (hck4 K) = true) : (decide (PySem.W.typeIn K (.ref 104) = some (.type "function"))) = true ∧ (PySem.W.codeIn K (.ref 103) "BadGauge.__init__") = true ∧ (PySem.W.keepIn K (.ref 104)) = true ∧ (Hd.flQ K 103 (PySem.W.OpenLaw.row PySem.Challenge.rw_gaugemiss_k31_liar_lots).prog.main.file) = true ∧ (Hd.ceQ K 92 107) = true ∧ ((PySem.W.clsIn K 107).isSome) = true ∧ (decide (PySem.W.mroIn K 107 (.ref 107) = some true)) = true ∧ (decide (PySem.W.ks_superIn K 107 107 "__init__" = some (some (.builtin "ValueError.__init__")))) = true ∧ (decide (PySem.W.subIn K (.ref 107) (.type "ValueError") = some true)) = true ∧ (Hd.lkQ K 128) = true ∧ (decide (PySem.W.findIn K (.ref 128) "__setattr__" = some (some (.builtin "object.__setattr__")))) = true ∧ (decide (PySem.W.findIn K (.ref 128) "__init__" = some (some (.ref 125)))) = true ∧ (decide (PySem.W.typeIn K (.ref 125) = some (.type "function"))) = true ∧ (PySem.W.codeIn K (.ref 124) "DuplicateGauge.__init__") = true ∧ (PySem.W.keepIn K (.ref 125)) = true ∧ (Hd.flQ K 124 (PySem.W.OpenLaw.row PySem.Challenge.rw_gaugemiss_k31_liar_lots).prog.main.file) = true ∧ (Hd.ceQ K 113 128) = true ∧ ((PySem.W.clsIn K 128).isSome) = true ∧ (decide (PySem.W.mroIn K 128 (.ref 128) = some true)) = true ∧ (decide (PySem.W.ks_superIn K 128 128 "__init__" = some (some (.builtin "ValueError.__init__")))) = true := by
  unfold hck4 at h
  obtain ⟨h0, h⟩ := Hd.okc h
  obtain ⟨h1, h⟩ := Hd.okc h
  obtain ⟨h2, h⟩ := Hd.okc h
  obtain ⟨h3, h⟩ := Hd.okc h
  obtain ⟨h4, h⟩ := Hd.okc h
  obtain ⟨h5, h⟩ := Hd.okc h
  obtain ⟨h6, h⟩ := Hd.okc h
  obtain ⟨h7, h⟩ := Hd.okc h
  obtain ⟨h8, h⟩ := Hd.okc h
  obtain ⟨h9, h⟩ := Hd.okc h
  obtain ⟨h10, h⟩ := Hd.okc h
  obtain ⟨h11, h⟩ := Hd.okc h
  obtain ⟨h12, h⟩ := Hd.okc h
  obtain ⟨h13, h⟩ := Hd.okc h
  obtain ⟨h14, h⟩ := Hd.okc h
  obtain ⟨h15, h⟩ := Hd.okc h
  obtain ⟨h16, h⟩ := Hd.okc h
  obtain ⟨h17, h⟩ := Hd.okc h
  obtain ⟨h18, h⟩ := Hd.okc h
  obtain ⟨h19, h⟩ := Hd.okc h
  exact ⟨h0, h1, h2, h3, h4, h5, h6, h7, h8, h9, h10, h11, h12, h13, h14, h15, h16, h17, h18, h19⟩
theorem hfk5 {K : PySem.W.Frag} (h : Hd.okAll (hck5 K) = true) : (decide (PySem.W.subIn K (.ref 128) (.type "ValueError") = some true)) = true ∧ (Hd.lkQ K 149) = true ∧ (decide (PySem.W.findIn K (.ref 149) "__setattr__" = some (some (.builtin "object.__setattr__")))) = true ∧ (decide (PySem.W.findIn K (.ref 149) "__init__" = some (some (.ref 146)))) = true ∧ (decide (PySem.W.typeIn K (.ref 146) = some (.type "function"))) = true ∧ (PySem.W.codeIn K (.ref 145) "UnknownGauge.__init__") = true ∧ (PySem.W.keepIn K (.ref 146)) = true ∧ (Hd.flQ K 145 (PySem.W.OpenLaw.row PySem.Challenge.rw_gaugemiss_k31_liar_lots).prog.main.file) = true ∧ (Hd.ceQ K 134 149) = true ∧ ((PySem.W.clsIn K 149).isSome) = true ∧ (decide (PySem.W.mroIn K 149 (.ref 149) = some true)) = true ∧ (decide (PySem.W.ks_superIn K 149 149 "__init__" = some (some (.builtin "ValueError.__init__")))) = true ∧ (decide (PySem.W.subIn K (.ref 149) (.type "ValueError") = some true)) = true ∧ (decide (PySem.W.nsIn K cStatics "thirdparty.any" = some none)) = true ∧ (decide (PySem.W.findIn K (.ref 107) "name" = some none)) = true ∧ (decide (PySem.W.findIn K (.ref 128) "name" = some none)) = true ∧ (decide (PySem.W.findIn K (.ref 149) "name" = some none)) = true ∧ (decide (PySem.W.findIn K (.ref 521) "name" = some none)) = true ∧ (decide (PySem.W.findIn K (.ref 552) "name" = some none)) = true ∧ (decide (PySem.W.findIn K (.ref 588) "name" = some none)) = true := by
  unfold hck5 at h
  obtain ⟨h0, h⟩ := Hd.okc h
  obtain ⟨h1, h⟩ := Hd.okc h
  obtain ⟨h2, h⟩ := Hd.okc h
  obtain ⟨h3, h⟩ := Hd.okc h
  obtain ⟨h4, h⟩ := Hd.okc h
  obtain ⟨h5, h⟩ := Hd.okc h
  obtain ⟨h6, h⟩ := Hd.okc h
  obtain ⟨h7, h⟩ := Hd.okc h
  obtain ⟨h8, h⟩ := Hd.okc h
  obtain ⟨h9, h⟩ := Hd.okc h
  obtain ⟨h10, h⟩ := Hd.okc h
  obtain ⟨h11, h⟩ := Hd.okc h
  obtain ⟨h12, h⟩ := Hd.okc h
  obtain ⟨h13, h⟩ := Hd.okc h
  obtain ⟨h14, h⟩ := Hd.okc h
  obtain ⟨h15, h⟩ := Hd.okc h
  obtain ⟨h16, h⟩ := Hd.okc h
  obtain ⟨h17, h⟩ := Hd.okc h
  obtain ⟨h18, h⟩ := Hd.okc h
  obtain ⟨h19, h⟩ := Hd.okc h
  exact ⟨h0, h1, h2, h3, h4, h5, h6, h7, h8, h9, h10, h11, h12, h13, h14, h15, h16, h17, h18, h19⟩
theorem hfk6 {K : PySem.W.Frag} (h : Hd.okAll (hck6 K) = true) : (decide (PySem.W.findIn K (.ref 607) "name" = some none)) = true ∧ (decide (PySem.W.findIn K (.ref 521) "radius" = some none)) = true ∧ (decide (PySem.W.findIn K (.ref 552) "radius" = some none)) = true ∧ (decide (PySem.W.findIn K (.ref 588) "radius" = some none)) = true ∧ (decide (PySem.W.findIn K (.ref 607) "radius" = some none)) = true ∧ (decide (PySem.W.findIn K (.ref 552) "step" = some none)) = true ∧ (decide (PySem.W.findIn K (.ref 607) "step" = some none)) = true ∧ (decide (PySem.W.findIn K (.ref 588) "late" = some none)) = true ∧ (decide (PySem.W.findIn K (.ref 607) "late" = some none)) = true ∧ (decide (PySem.W.findIn K (.ref 588) "pace" = some none)) = true ∧ (decide (PySem.W.findIn K (.ref 607) "pace" = some none)) = true ∧ (decide (PySem.W.findIn K (.ref 723) "gauges" = some none)) = true ∧ (decide (PySem.W.findIn K (.ref 723) "groups" = some none)) = true ∧ (decide (PySem.W.nsIn K mainGlobals "_law_take" = some (some (.ref 739)))) = true ∧ (PySem.W.keepIn K (.ref 739)) = true ∧ (decide (PySem.W.nsIn K mainGlobals "_law_box" = some (some (.ref 732)))) = true ∧ (PySem.W.keepIn K (.ref 732)) = true ∧ (decide (PySem.W.nsIn K mainGlobals "_law_word" = some (some (.ref 746)))) = true ∧ (PySem.W.keepIn K (.ref 746)) = true ∧ (decide (PySem.W.nsIn K mainGlobals "_law_words" = some (some (.ref 753)))) = true := by
  unfold hck6 at h
  obtain ⟨h0, h⟩ := Hd.okc h
  obtain ⟨h1, h⟩ := Hd.okc h
  obtain ⟨h2, h⟩ := Hd.okc h
  obtain ⟨h3, h⟩ := Hd.okc h
  obtain ⟨h4, h⟩ := Hd.okc h
  obtain ⟨h5, h⟩ := Hd.okc h
  obtain ⟨h6, h⟩ := Hd.okc h
  obtain ⟨h7, h⟩ := Hd.okc h
  obtain ⟨h8, h⟩ := Hd.okc h
  obtain ⟨h9, h⟩ := Hd.okc h
  obtain ⟨h10, h⟩ := Hd.okc h
  obtain ⟨h11, h⟩ := Hd.okc h
  obtain ⟨h12, h⟩ := Hd.okc h
  obtain ⟨h13, h⟩ := Hd.okc h
  obtain ⟨h14, h⟩ := Hd.okc h
  obtain ⟨h15, h⟩ := Hd.okc h
  obtain ⟨h16, h⟩ := Hd.okc h
  obtain ⟨h17, h⟩ := Hd.okc h
  obtain ⟨h18, h⟩ := Hd.okc h
  obtain ⟨h19, h⟩ := Hd.okc h
  exact ⟨h0, h1, h2, h3, h4, h5, h6, h7, h8, h9, h10, h11, h12, h13, h14, h15, h16, h17, h18, h19⟩
theorem hfk7 {K : PySem.W.Frag} (h : Hd.okAll (hck7 K) = true) : (PySem.W.keepIn K (.ref 753)) = true ∧ (decide (PySem.W.nsIn K mainGlobals "valid_name" = some (some (.ref 614)))) = true ∧ (PySem.W.keepIn K (.ref 614)) = true ∧ (decide (PySem.W.findIn K (.ref 521) "__init__" = some (some (.ref 475)))) = true ∧ (PySem.W.isFn K (.ref 475)) = true ∧ (PySem.W.keepIn K (.ref 475)) = true ∧ (decide (PySem.W.findIn K (.ref 552) "__init__" = some (some (.ref 541)))) = true ∧ (PySem.W.isFn K (.ref 541)) = true ∧ (PySem.W.codeIn K (.ref 540) "CoarseGauge.__init__") = true ∧ (PySem.W.keepIn K (.ref 541)) = true ∧ (Hd.flQ K 540 (PySem.W.OpenLaw.row PySem.Challenge.rw_gaugemiss_k31_liar_lots).prog.main.file) = true ∧ (Hd.ceQ K 529 552) = true ∧ ((PySem.W.clsIn K 552).isSome) = true ∧ (decide (PySem.W.findIn K (.ref 588) "__init__" = some (some (.ref 569)))) = true ∧ (PySem.W.isFn K (.ref 569)) = true ∧ (PySem.W.keepIn K (.ref 569)) = true ∧ (decide (PySem.W.findIn K (.ref 607) "__init__" = some (some (.ref 604)))) = true ∧ (PySem.W.isFn K (.ref 604)) = true ∧ (PySem.W.keepIn K (.ref 604)) = true ∧ (decide (PySem.W.nsIn K mainGlobals "_law_specs" = some (some (.ref 760)))) = true := by
  unfold hck7 at h
  obtain ⟨h0, h⟩ := Hd.okc h
  obtain ⟨h1, h⟩ := Hd.okc h
  obtain ⟨h2, h⟩ := Hd.okc h
  obtain ⟨h3, h⟩ := Hd.okc h
  obtain ⟨h4, h⟩ := Hd.okc h
  obtain ⟨h5, h⟩ := Hd.okc h
  obtain ⟨h6, h⟩ := Hd.okc h
  obtain ⟨h7, h⟩ := Hd.okc h
  obtain ⟨h8, h⟩ := Hd.okc h
  obtain ⟨h9, h⟩ := Hd.okc h
  obtain ⟨h10, h⟩ := Hd.okc h
  obtain ⟨h11, h⟩ := Hd.okc h
  obtain ⟨h12, h⟩ := Hd.okc h
  obtain ⟨h13, h⟩ := Hd.okc h
  obtain ⟨h14, h⟩ := Hd.okc h
  obtain ⟨h15, h⟩ := Hd.okc h
  obtain ⟨h16, h⟩ := Hd.okc h
  obtain ⟨h17, h⟩ := Hd.okc h
  obtain ⟨h18, h⟩ := Hd.okc h
  obtain ⟨h19, h⟩ := Hd.okc h
  exact ⟨h0, h1, h2, h3, h4, h5, h6, h7, h8, h9, h10, h11, h12, h13, h14, h15, h16, h17, h18, h19⟩
theorem hfk8 {K : PySem.W.Frag} (h : Hd.okAll (hck8 K) = true) : (PySem.W.keepIn K (.ref 760)) = true ∧ (decide (PySem.W.nsIn K mainGlobals "_law_gauge" = some (some (.ref 767)))) = true ∧ (PySem.W.keepIn K (.ref 767)) = true ∧ (decide (PySem.W.findIn K (.ref 723) "__init__" = some (some (.ref 628)))) = true ∧ (PySem.W.isFn K (.ref 628)) = true ∧ (decide (PySem.W.nsIn K 623 "together" = some (some (.ref 622)))) = true ∧ (Hd.teQ K 622) = true ∧ (PySem.W.keepIn K (.ref 628)) = true ∧ (PySem.W.readsIn K 723 (.type "type")) = true ∧ (decide (PySem.W.specialIn K (.ref 723) "__getattribute__" = some (some (.builtin "type.__getattribute__")))) = true ∧ (Hd.cfgQ K (.ref 723) (.type "type") "of" (.builtin "classmethod.__get__") (.ref 639) .none (.ref 723)) = true ∧ (Hd.recQ K 639 "classmethod" 637) = true ∧ (PySem.W.fnIn K 637) = true ∧ (Hd.seQ K 630 629) = true ∧ (Hd.teQ K 629) = true ∧ (PySem.W.keepIn K (.ref 637)) = true ∧ (decide (PySem.W.findIn K (.ref 723) "names" = some (some (.ref 661)))) = true ∧ (PySem.W.isFn K (.ref 661)) = true ∧ (PySem.W.keepIn K (.ref 661)) = true ∧ (decide (PySem.W.nsIn K mainGlobals "_law_gauges" = some (some (.ref 772)))) = true := by
  unfold hck8 at h
  obtain ⟨h0, h⟩ := Hd.okc h
  obtain ⟨h1, h⟩ := Hd.okc h
  obtain ⟨h2, h⟩ := Hd.okc h
  obtain ⟨h3, h⟩ := Hd.okc h
  obtain ⟨h4, h⟩ := Hd.okc h
  obtain ⟨h5, h⟩ := Hd.okc h
  obtain ⟨h6, h⟩ := Hd.okc h
  obtain ⟨h7, h⟩ := Hd.okc h
  obtain ⟨h8, h⟩ := Hd.okc h
  obtain ⟨h9, h⟩ := Hd.okc h
  obtain ⟨h10, h⟩ := Hd.okc h
  obtain ⟨h11, h⟩ := Hd.okc h
  obtain ⟨h12, h⟩ := Hd.okc h
  obtain ⟨h13, h⟩ := Hd.okc h
  obtain ⟨h14, h⟩ := Hd.okc h
  obtain ⟨h15, h⟩ := Hd.okc h
  obtain ⟨h16, h⟩ := Hd.okc h
  obtain ⟨h17, h⟩ := Hd.okc h
  obtain ⟨h18, h⟩ := Hd.okc h
  obtain ⟨h19, h⟩ := Hd.okc h
  exact ⟨h0, h1, h2, h3, h4, h5, h6, h7, h8, h9, h10, h11, h12, h13, h14, h15, h16, h17, h18, h19⟩
theorem hfk9 {K : PySem.W.Frag} (h : Hd.okAll (hck9 K) = true) : (PySem.W.keepIn K (.ref 772)) = true ∧ (decide (PySem.W.nsIn K mainGlobals "_law_groups" = some (some (.ref 777)))) = true ∧ (PySem.W.keepIn K (.ref 777)) = true ∧ (decide (PySem.W.nsIn K mainGlobals "_law_faults" = some (some (.ref 782)))) = true ∧ (PySem.W.keepIn K (.ref 782)) = true ∧ (decide (PySem.W.findIn K (.ref 723) "faults" = some (some (.ref 673)))) = true ∧ (PySem.W.isFn K (.ref 673)) = true ∧ (PySem.W.keepIn K (.ref 673)) = true ∧ (decide (PySem.W.nsIn K mainGlobals "picks" = some (some (.ref 156)))) = true ∧ (PySem.W.keepIn K (.ref 156)) = true ∧ (decide (PySem.W.nsIn K mainGlobals "_law_picks" = some (some (.ref 787)))) = true ∧ (PySem.W.keepIn K (.ref 787)) = true ∧ (decide (PySem.W.nsIn K mainGlobals "_law_lots" = some (some (.ref 792)))) = true ∧ (PySem.W.keepIn K (.ref 792)) = true ∧ (decide (PySem.W.nsIn K mainGlobals "liar_lots" = some (some (.ref 161)))) = true ∧ (PySem.W.keepIn K (.ref 161)) = true ∧ (decide (PySem.W.nsIn K mainGlobals "law" = some (some (.ref 797)))) = true ∧ (PySem.W.keepIn K (.ref 797)) = true ∧ (PySem.W.readsIn K 521 (.type "type")) = true ∧ (decide (PySem.W.specialIn K (.ref 521) "__getattribute__" = some (some (.builtin "type.__getattribute__")))) = true := by
  unfold hck9 at h
  obtain ⟨h0, h⟩ := Hd.okc h
  obtain ⟨h1, h⟩ := Hd.okc h
  obtain ⟨h2, h⟩ := Hd.okc h
  obtain ⟨h3, h⟩ := Hd.okc h
  obtain ⟨h4, h⟩ := Hd.okc h
  obtain ⟨h5, h⟩ := Hd.okc h
  obtain ⟨h6, h⟩ := Hd.okc h
  obtain ⟨h7, h⟩ := Hd.okc h
  obtain ⟨h8, h⟩ := Hd.okc h
  obtain ⟨h9, h⟩ := Hd.okc h
  obtain ⟨h10, h⟩ := Hd.okc h
  obtain ⟨h11, h⟩ := Hd.okc h
  obtain ⟨h12, h⟩ := Hd.okc h
  obtain ⟨h13, h⟩ := Hd.okc h
  obtain ⟨h14, h⟩ := Hd.okc h
  obtain ⟨h15, h⟩ := Hd.okc h
  obtain ⟨h16, h⟩ := Hd.okc h
  obtain ⟨h17, h⟩ := Hd.okc h
  obtain ⟨h18, h⟩ := Hd.okc h
  obtain ⟨h19, h⟩ := Hd.okc h
  exact ⟨h0, h1, h2, h3, h4, h5, h6, h7, h8, h9, h10, h11, h12, h13, h14, h15, h16, h17, h18, h19⟩
theorem hfk10 {K : PySem.W.Frag} (h : Hd.okAll (hck10 K) = true) : (Hd.cfvQ K (.ref 521) (.type "type") "__init__" (.ref 475)) = true ∧ (PySem.W.readsIn K 588 (.type "type")) = true ∧ (decide (PySem.W.specialIn K (.ref 588) "__getattribute__" = some (some (.builtin "type.__getattribute__")))) = true ∧ (Hd.cfvQ K (.ref 588) (.type "type") "__init__" (.ref 569)) = true ∧ (Hd.cfiQ K (.ref 521) (.type "type") "LONGEST" 12) = true ∧ (decide (PySem.W.nsIn K mainGlobals "WORDS" = some (some (.ref 461)))) = true ∧ (Hd.tsQ K 461 ["rank", "trim", "weigh", "together"]) = true ∧ (Hd.strQ K "LETTERS" "abcdefghijklmnopqrstuvwxyz") = true ∧ (decide (PySem.W.ks_superIn K 552 552 "__init__" = some (some (.ref 475)))) = true ∧ (decide (PySem.W.mroIn K 552 (.ref 552) = some true)) = true ∧ (decide (PySem.W.typeIn K (.ref 475) = some (.type "function"))) = true ∧ (PySem.W.fnIn K 475) = true ∧ (decide (PySem.W.nsIn K mainGlobals "len" = some none)) = true ∧ (decide (PySem.W.nsIn K mainGlobals "int" = some none)) = true ∧ (decide (PySem.W.nsIn K mainGlobals "bool" = some none)) = true ∧ (decide (PySem.W.nsIn K mainGlobals "str" = some none)) = true ∧ (decide (PySem.W.nsIn K mainGlobals "isinstance" = some none)) = true ∧ (decide (PySem.W.nsIn K mainGlobals "range" = some none)) = true ∧ (decide (PySem.W.nsIn K mainGlobals "max" = some none)) = true ∧ (decide (PySem.W.nsIn K mainGlobals "min" = some none)) = true := by
  unfold hck10 at h
  obtain ⟨h0, h⟩ := Hd.okc h
  obtain ⟨h1, h⟩ := Hd.okc h
  obtain ⟨h2, h⟩ := Hd.okc h
  obtain ⟨h3, h⟩ := Hd.okc h
  obtain ⟨h4, h⟩ := Hd.okc h
  obtain ⟨h5, h⟩ := Hd.okc h
  obtain ⟨h6, h⟩ := Hd.okc h
  obtain ⟨h7, h⟩ := Hd.okc h
  obtain ⟨h8, h⟩ := Hd.okc h
  obtain ⟨h9, h⟩ := Hd.okc h
  obtain ⟨h10, h⟩ := Hd.okc h
  obtain ⟨h11, h⟩ := Hd.okc h
  obtain ⟨h12, h⟩ := Hd.okc h
  obtain ⟨h13, h⟩ := Hd.okc h
  obtain ⟨h14, h⟩ := Hd.okc h
  obtain ⟨h15, h⟩ := Hd.okc h
  obtain ⟨h16, h⟩ := Hd.okc h
  obtain ⟨h17, h⟩ := Hd.okc h
  obtain ⟨h18, h⟩ := Hd.okc h
  obtain ⟨h19, h⟩ := Hd.okc h
  exact ⟨h0, h1, h2, h3, h4, h5, h6, h7, h8, h9, h10, h11, h12, h13, h14, h15, h16, h17, h18, h19⟩
theorem hfk11 {K : PySem.W.Frag} (h : Hd.okAll (hck11 K) = true) : (decide (PySem.W.nsIn K mainGlobals "abs" = some none)) = true ∧ (decide (PySem.W.nsIn K mainGlobals "sorted" = some none)) = true ∧ (decide (PySem.W.nsIn K mainGlobals "sum" = some none)) = true ∧ (decide (PySem.W.nsIn K mainGlobals "any" = some none)) = true ∧ (decide (PySem.W.nsIn K mainGlobals "all" = some none)) = true ∧ (decide (PySem.W.nsIn K mainGlobals "list" = some none)) = true ∧ (decide (PySem.W.nsIn K mainGlobals "dict" = some none)) = true ∧ (decide (PySem.W.nsIn K mainGlobals "tuple" = some none)) = true ∧ (decide (PySem.W.nsIn K mainGlobals "enumerate" = some none)) = true ∧ (decide (PySem.W.nsIn K mainGlobals "zip" = some none)) = true ∧ (decide (PySem.W.nsIn K mainGlobals "repr" = some none)) = true ∧ (decide (PySem.W.nsIn K mainGlobals "iter" = some none)) = true ∧ (decide (PySem.W.nsIn K mainGlobals "super" = some none)) = true := by
  unfold hck11 at h
  obtain ⟨h0, h⟩ := Hd.okc h
  obtain ⟨h1, h⟩ := Hd.okc h
  obtain ⟨h2, h⟩ := Hd.okc h
  obtain ⟨h3, h⟩ := Hd.okc h
  obtain ⟨h4, h⟩ := Hd.okc h
  obtain ⟨h5, h⟩ := Hd.okc h
  obtain ⟨h6, h⟩ := Hd.okc h
  obtain ⟨h7, h⟩ := Hd.okc h
  obtain ⟨h8, h⟩ := Hd.okc h
  obtain ⟨h9, h⟩ := Hd.okc h
  obtain ⟨h10, h⟩ := Hd.okc h
  obtain ⟨h11, h⟩ := Hd.okc h
  obtain ⟨h12, h⟩ := Hd.okc h
  exact ⟨h0, h1, h2, h3, h4, h5, h6, h7, h8, h9, h10, h11, h12⟩
end G
open PySem PySem.W PyProof.Rows
set_option maxRecDepth 100000 in
set_option maxHeartbeats 0 in
theorem PySem.Challenge.cw_gaugemiss_k31_liar_lots_holds : PySem.Challenge.rw_gaugemiss_k31_liar_lots.Holds := by
  w_on; o_law
  refine HandSHeadRun.head_any (r := OpenLaw.row PySem.Challenge.rw_gaugemiss_k31_liar_lots) (q := G.hQ) (H := G.hHk) (ob := G.hOb) (M := 60000) (loose := G.hNames) (d := HandSHeadRun.topDef (OpenLaw.row PySem.Challenge.rw_gaugemiss_k31_liar_lots).prog 37) (kwd := []) G.hOb_eq (by kernel_rfl) (fun s => by kernel_rfl) G.hRun (by kernel_rfl) (by kernel_rfl) (by kernel_rfl) (by rfl) (by first | assumption | decide +kernel) (by decide +kernel) ⟨rfl, rfl, rfl, rfl, rfl, by decide +kernel⟩ ?hw ?hc
  case hw => w_witness2
  case hc =>
    refine G.walkE (l := PySem.Challenge.rw_gaugemiss_k31_liar_lots) (x := "_law_script") 9 (by decide) rfl rfl ?F
    intro w mg fa h Y GX hmg0
    obtain ⟨K, KX, hb, hf⟩ := Y
    have hmg : mg ("law" : PySem.Str) = some (.ref fa) := by
      have e : (HandSHeadRun.topDef (OpenLaw.row PySem.Challenge.rw_gaugemiss_k31_liar_lots).prog 37).name = ("law" : PySem.Str) := by kernel_rfl
      rw [← e]
      exact hmg0
    unfold G.hck at hb
    obtain ⟨q0, hb⟩ := Hd.oka hb
    obtain ⟨q1, hb⟩ := Hd.oka hb
    obtain ⟨q2, hb⟩ := Hd.oka hb
    obtain ⟨q3, hb⟩ := Hd.oka hb
    obtain ⟨q4, hb⟩ := Hd.oka hb
    obtain ⟨q5, hb⟩ := Hd.oka hb
    obtain ⟨q6, hb⟩ := Hd.oka hb
    obtain ⟨q7, hb⟩ := Hd.oka hb
    obtain ⟨q8, hb⟩ := Hd.oka hb
    obtain ⟨q9, hb⟩ := Hd.oka hb
    obtain ⟨q10, hb⟩ := Hd.oka hb
    have q11 := hb
    obtain ⟨_, _, _, _, _, _, _, _, hl_BadGauge⟩ := Hd.fn_getS (Hd.fnAt hf 0) ((G.hfk0 q0).1)
    obtain ⟨_, _, _, _, _, _, _, _, hl_DuplicateGauge⟩ := Hd.fn_getS (Hd.fnAt hf 1) ((G.hfk0 q0).2.1)
    obtain ⟨_, _, _, _, _, _, _, _, hl_UnknownGauge⟩ := Hd.fn_getS (Hd.fnAt hf 2) ((G.hfk0 q0).2.2.1)
    obtain ⟨_, _, _, _, _, _, _, _, _, hl_law_take, hc_law_take⟩ := Hd.fn_get (Hd.fnAt hf 3) ((G.hfk0 q0).2.2.2.1)
    obtain ⟨_, _, _, _, _, _, _, _, _, hl_law_box, hc_law_box⟩ := Hd.fn_get (Hd.fnAt hf 4) ((G.hfk0 q0).2.2.2.2.1)
    obtain ⟨_, _, _, _, _, _, _, _, _, hl_law_word, hc_law_word⟩ := Hd.fn_get (Hd.fnAt hf 5) ((G.hfk0 q0).2.2.2.2.2.1)
    obtain ⟨_, _, _, _, _, _, _, _, _, hl_law_words, hc_law_words⟩ := Hd.fn_get (Hd.fnAt hf 6) ((G.hfk0 q0).2.2.2.2.2.2.1)
    obtain ⟨_, _, _, _, _, _, _, _, _, hl_valid_name, hc_valid_name⟩ := Hd.fn_get (Hd.fnAt hf 7) ((G.hfk0 q0).2.2.2.2.2.2.2.1)
    obtain ⟨_, _, _, _, _, _, _, _, _, hl_Gauge_init, hc_Gauge_init⟩ := Hd.fn_get (Hd.fnAt hf 8) ((G.hfk0 q0).2.2.2.2.2.2.2.2.1)
    obtain ⟨_, _, _, _, _, _, _, _, hl_CoarseGauge_init⟩ := Hd.fn_getS (Hd.fnAt hf 9) ((G.hfk0 q0).2.2.2.2.2.2.2.2.2.1)
    obtain ⟨_, _, _, _, _, _, _, _, _, hl_LateGauge_init, hc_LateGauge_init⟩ := Hd.fn_get (Hd.fnAt hf 10) ((G.hfk0 q0).2.2.2.2.2.2.2.2.2.2.1)
    obtain ⟨_, _, _, _, _, _, _, _, _, hl_LateCoarseGauge_init, hc_LateCoarseGauge_init⟩ := Hd.fn_get (Hd.fnAt hf 11) ((G.hfk0 q0).2.2.2.2.2.2.2.2.2.2.2.1)
    obtain ⟨_, _, _, _, _, _, _, _, _, hl_law_specs, hc_law_specs⟩ := Hd.fn_get (Hd.fnAt hf 12) ((G.hfk0 q0).2.2.2.2.2.2.2.2.2.2.2.2.1)
    obtain ⟨_, _, _, _, _, _, _, _, _, hl_law_gauge, hc_law_gauge⟩ := Hd.fn_get (Hd.fnAt hf 13) ((G.hfk0 q0).2.2.2.2.2.2.2.2.2.2.2.2.2.1)
    obtain ⟨_, _, _, _, _, _, _, _, hl_Rack_init, hc_Rack_init⟩ := Hd.fn_getK (Hd.fnAt hf 14) ((G.hfk0 q0).2.2.2.2.2.2.2.2.2.2.2.2.2.2.1) ((G.hfk0 q0).2.2.2.2.2.2.2.2.2.2.2.2.2.2.2.1)
    obtain ⟨_, _, _, _, _, _, _, _, _, hl_Rack_of, hc_Rack_of⟩ := Hd.fn_get (Hd.fnAt hf 15) ((G.hfk0 q0).2.2.2.2.2.2.2.2.2.2.2.2.2.2.2.2.1)
    obtain ⟨_, _, _, _, _, _, _, _, _, hl_Rack_names, hc_Rack_names⟩ := Hd.fn_get (Hd.fnAt hf 16) ((G.hfk0 q0).2.2.2.2.2.2.2.2.2.2.2.2.2.2.2.2.2.1)
    obtain ⟨_, _, _, _, _, _, _, _, _, hl_law_gauges, hc_law_gauges⟩ := Hd.fn_get (Hd.fnAt hf 17) ((G.hfk0 q0).2.2.2.2.2.2.2.2.2.2.2.2.2.2.2.2.2.2.1)
    obtain ⟨_, _, _, _, _, _, _, _, _, hl_law_groups, hc_law_groups⟩ := Hd.fn_get (Hd.fnAt hf 18) ((G.hfk0 q0).2.2.2.2.2.2.2.2.2.2.2.2.2.2.2.2.2.2.2)
    obtain ⟨_, _, _, _, _, _, _, _, _, hl_law_faults, hc_law_faults⟩ := Hd.fn_get (Hd.fnAt hf 19) ((G.hfk1 q1).1)
    obtain ⟨_, _, _, _, _, _, _, _, _, hl_Rack_faults, hc_Rack_faults⟩ := Hd.fn_get (Hd.fnAt hf 20) ((G.hfk1 q1).2.1)
    obtain ⟨_, _, _, _, _, _, _, _, _, hl_picks, hc_picks⟩ := Hd.fn_get (Hd.fnAt hf 21) ((G.hfk1 q1).2.2.1)
    obtain ⟨_, _, _, _, _, _, _, _, _, hl_law_picks, hc_law_picks⟩ := Hd.fn_get (Hd.fnAt hf 22) ((G.hfk1 q1).2.2.2.1)
    obtain ⟨_, _, _, _, _, _, _, _, _, hl_law_lots, hc_law_lots⟩ := Hd.fn_get (Hd.fnAt hf 23) ((G.hfk1 q1).2.2.2.2.1)
    obtain ⟨_, _, _, _, _, _, _, _, _, hl_liar_lots, hc_liar_lots⟩ := Hd.fn_get (Hd.fnAt hf 24) ((G.hfk1 q1).2.2.2.2.2.1)
    obtain ⟨_, _, _, _, _, _, _, _, _, hl_law, hc_law⟩ := Hd.fn_get (Hd.fnAt hf 25) ((G.hfk1 q1).2.2.2.2.2.2.1)
    obtain ⟨_, _, _, _, _, _, _, _, _, _, _, _, _, _, _, hlk_BadGauge, hrv_BadGauge⟩ := Hd.lk_get ((G.hfk3 q3).2.2.2.2.2.2.2.2.2.2.2.2.2.2.2.2.2.1)
    obtain ⟨_, _, _, _, _, _, hfl_BadGauge, hfv_BadGauge, hpf_BadGauge⟩ := Hd.fl_get ((G.hfk4 q4).2.2.2.1)
    obtain ⟨_, _, _, hce_BadGauge⟩ := Hd.ce_get ((G.hfk4 q4).2.2.2.2.1)
    obtain ⟨_, hdc_BadGauge⟩ := Hd.dc_get ((G.hfk4 q4).2.2.2.2.2.1)
    obtain ⟨_, _, _, _, _, _, _, _, _, _, _, _, _, _, _, hlk_DuplicateGauge, hrv_DuplicateGauge⟩ := Hd.lk_get ((G.hfk4 q4).2.2.2.2.2.2.2.2.2.1)
    obtain ⟨_, _, _, _, _, _, hfl_DuplicateGauge, hfv_DuplicateGauge, hpf_DuplicateGauge⟩ := Hd.fl_get ((G.hfk4 q4).2.2.2.2.2.2.2.2.2.2.2.2.2.2.2.1)
    obtain ⟨_, _, _, hce_DuplicateGauge⟩ := Hd.ce_get ((G.hfk4 q4).2.2.2.2.2.2.2.2.2.2.2.2.2.2.2.2.1)
    obtain ⟨_, hdc_DuplicateGauge⟩ := Hd.dc_get ((G.hfk4 q4).2.2.2.2.2.2.2.2.2.2.2.2.2.2.2.2.2.1)
    obtain ⟨_, _, _, _, _, _, _, _, _, _, _, _, _, _, _, hlk_UnknownGauge, hrv_UnknownGauge⟩ := Hd.lk_get ((G.hfk5 q5).2.1)
    obtain ⟨_, _, _, _, _, _, hfl_UnknownGauge, hfv_UnknownGauge, hpf_UnknownGauge⟩ := Hd.fl_get ((G.hfk5 q5).2.2.2.2.2.2.2.1)
    obtain ⟨_, _, _, hce_UnknownGauge⟩ := Hd.ce_get ((G.hfk5 q5).2.2.2.2.2.2.2.2.1)
    obtain ⟨_, hdc_UnknownGauge⟩ := Hd.dc_get ((G.hfk5 q5).2.2.2.2.2.2.2.2.2.1)
    obtain ⟨_, _, _, _, _, _, hfl_CoarseGauge_init, hfv_CoarseGauge_init, hpf_CoarseGauge_init⟩ := Hd.fl_get ((G.hfk7 q7).2.2.2.2.2.2.2.2.2.2.1)
    obtain ⟨_, _, _, hce_CoarseGauge_init⟩ := Hd.ce_get ((G.hfk7 q7).2.2.2.2.2.2.2.2.2.2.2.1)
    obtain ⟨_, hdc_CoarseGauge_init⟩ := Hd.dc_get ((G.hfk7 q7).2.2.2.2.2.2.2.2.2.2.2.2.1)
    obtain ⟨_, _, _, hke_Rack_init⟩ := Hd.te_get ((G.hfk8 q8).2.2.2.2.2.2.1)
    obtain ⟨_, hcc_Rack_of⟩ := Hd.rec_get ((G.hfk8 q8).2.2.2.2.2.2.2.2.2.2.2.1)
    obtain ⟨_, _, _, _, hkd_Rack_of⟩ := Hd.se_get ((G.hfk8 q8).2.2.2.2.2.2.2.2.2.2.2.2.2.1)
    obtain ⟨_, _, _, hke_Rack_of⟩ := Hd.te_get ((G.hfk8 q8).2.2.2.2.2.2.2.2.2.2.2.2.2.2.1)
    obtain ⟨_, hfcvi_Gauge_LONGEST⟩ := Hd.cfi_get ((G.hfk10 q10).2.2.2.2.1)
    obtain ⟨tsgkt_WORDS, _, _, _, hlgkt_WORDS, hgkt_WORDS⟩ := Hd.ts_get ((G.hfk10 q10).2.2.2.2.2.2.1)
    obtain ⟨tgkt_WORDS_0, tgkt_WORDS_1, tgkt_WORDS_2, tgkt_WORDS_3, rfl⟩ : ∃ tgkt_WORDS_0 tgkt_WORDS_1 tgkt_WORDS_2 tgkt_WORDS_3, tsgkt_WORDS = [tgkt_WORDS_0, tgkt_WORDS_1, tgkt_WORDS_2, tgkt_WORDS_3] := by
      match tsgkt_WORDS, hlgkt_WORDS with
      | [a0, a1, a2, a3], _ => exact ⟨a0, a1, a2, a3, rfl⟩
    obtain ⟨_, hfgs_LETTERS⟩ := Hd.str_get ((G.hfk10 q10).2.2.2.2.2.2.2.1)
    have zz := G.all_mk (l := PySem.Challenge.rw_gaugemiss_k31_liar_lots) (w := w) (K := K) KX GX hmg ((of_decide_eq_true ((G.hfk1 q1).2.2.2.2.2.2.2.1))) (((G.hfk1 q1).2.2.2.2.2.2.2.2.1)) (((G.hfk1 q1).2.2.2.2.2.2.2.2.2.1)) (((G.hfk1 q1).2.2.2.2.2.2.2.2.2.2.1)) ((of_decide_eq_true ((G.hfk1 q1).2.2.2.2.2.2.2.2.2.2.2.1))) (((G.hfk1 q1).2.2.2.2.2.2.2.2.2.2.2.2.1)) (((G.hfk1 q1).2.2.2.2.2.2.2.2.2.2.2.2.2.1)) ((of_decide_eq_true ((G.hfk1 q1).2.2.2.2.2.2.2.2.2.2.2.2.2.2.1))) (((G.hfk1 q1).2.2.2.2.2.2.2.2.2.2.2.2.2.2.2.1)) (((G.hfk1 q1).2.2.2.2.2.2.2.2.2.2.2.2.2.2.2.2.1)) (((G.hfk1 q1).2.2.2.2.2.2.2.2.2.2.2.2.2.2.2.2.2.1)) ((of_decide_eq_true ((G.hfk1 q1).2.2.2.2.2.2.2.2.2.2.2.2.2.2.2.2.2.2.1))) (((G.hfk1 q1).2.2.2.2.2.2.2.2.2.2.2.2.2.2.2.2.2.2.2)) (((G.hfk2 q2).1)) ((of_decide_eq_true ((G.hfk2 q2).2.1))) (((G.hfk2 q2).2.2.1)) (((G.hfk2 q2).2.2.2.1)) (((G.hfk2 q2).2.2.2.2.1)) ((of_decide_eq_true ((G.hfk2 q2).2.2.2.2.2.1))) (((G.hfk2 q2).2.2.2.2.2.2.1)) (((G.hfk2 q2).2.2.2.2.2.2.2.1)) ((of_decide_eq_true ((G.hfk2 q2).2.2.2.2.2.2.2.2.1))) (((G.hfk2 q2).2.2.2.2.2.2.2.2.2.1)) (((G.hfk2 q2).2.2.2.2.2.2.2.2.2.2.1)) (((G.hfk2 q2).2.2.2.2.2.2.2.2.2.2.2.1)) ((of_decide_eq_true ((G.hfk2 q2).2.2.2.2.2.2.2.2.2.2.2.2.1))) (((G.hfk2 q2).2.2.2.2.2.2.2.2.2.2.2.2.2.1)) (((G.hfk2 q2).2.2.2.2.2.2.2.2.2.2.2.2.2.2.1)) ((of_decide_eq_true ((G.hfk2 q2).2.2.2.2.2.2.2.2.2.2.2.2.2.2.2.1))) (((G.hfk2 q2).2.2.2.2.2.2.2.2.2.2.2.2.2.2.2.2.1)) (((G.hfk2 q2).2.2.2.2.2.2.2.2.2.2.2.2.2.2.2.2.2.1)) (((G.hfk2 q2).2.2.2.2.2.2.2.2.2.2.2.2.2.2.2.2.2.2.1)) ((of_decide_eq_true ((G.hfk2 q2).2.2.2.2.2.2.2.2.2.2.2.2.2.2.2.2.2.2.2))) (((G.hfk3 q3).1)) (((G.hfk3 q3).2.1)) ((of_decide_eq_true ((G.hfk3 q3).2.2.1))) ((of_decide_eq_true ((G.hfk3 q3).2.2.2.1))) ((of_decide_eq_true ((G.hfk3 q3).2.2.2.2.1))) (((G.hfk3 q3).2.2.2.2.2.1)) (((G.hfk3 q3).2.2.2.2.2.2.1)) ((of_decide_eq_true ((G.hfk3 q3).2.2.2.2.2.2.2.1))) ((of_decide_eq_true ((G.hfk3 q3).2.2.2.2.2.2.2.2.1))) ((of_decide_eq_true ((G.hfk3 q3).2.2.2.2.2.2.2.2.2.1))) (((G.hfk3 q3).2.2.2.2.2.2.2.2.2.2.1)) (((G.hfk3 q3).2.2.2.2.2.2.2.2.2.2.2.1)) ((of_decide_eq_true ((G.hfk3 q3).2.2.2.2.2.2.2.2.2.2.2.2.1))) ((of_decide_eq_true ((G.hfk3 q3).2.2.2.2.2.2.2.2.2.2.2.2.2.1))) ((of_decide_eq_true ((G.hfk3 q3).2.2.2.2.2.2.2.2.2.2.2.2.2.2.1))) (((G.hfk3 q3).2.2.2.2.2.2.2.2.2.2.2.2.2.2.2.1)) (((G.hfk3 q3).2.2.2.2.2.2.2.2.2.2.2.2.2.2.2.2.1)) (hlk_BadGauge) (hrv_BadGauge) ((of_decide_eq_true ((G.hfk3 q3).2.2.2.2.2.2.2.2.2.2.2.2.2.2.2.2.2.2.1))) ((of_decide_eq_true ((G.hfk3 q3).2.2.2.2.2.2.2.2.2.2.2.2.2.2.2.2.2.2.2))) ((of_decide_eq_true ((G.hfk4 q4).1))) (hl_BadGauge) (((G.hfk4 q4).2.1)) (((G.hfk4 q4).2.2.1)) (hfl_BadGauge) (hfv_BadGauge) (hpf_BadGauge) (hce_BadGauge) (hdc_BadGauge) ((of_decide_eq_true ((G.hfk4 q4).2.2.2.2.2.2.1))) ((of_decide_eq_true ((G.hfk4 q4).2.2.2.2.2.2.2.1))) ((of_decide_eq_true ((G.hfk4 q4).2.2.2.2.2.2.2.2.1))) (hlk_DuplicateGauge) (hrv_DuplicateGauge) ((of_decide_eq_true ((G.hfk4 q4).2.2.2.2.2.2.2.2.2.2.1))) ((of_decide_eq_true ((G.hfk4 q4).2.2.2.2.2.2.2.2.2.2.2.1))) ((of_decide_eq_true ((G.hfk4 q4).2.2.2.2.2.2.2.2.2.2.2.2.1))) (hl_DuplicateGauge) (((G.hfk4 q4).2.2.2.2.2.2.2.2.2.2.2.2.2.1)) (((G.hfk4 q4).2.2.2.2.2.2.2.2.2.2.2.2.2.2.1)) (hfl_DuplicateGauge) (hfv_DuplicateGauge) (hpf_DuplicateGauge) (hce_DuplicateGauge) (hdc_DuplicateGauge) ((of_decide_eq_true ((G.hfk4 q4).2.2.2.2.2.2.2.2.2.2.2.2.2.2.2.2.2.2.1))) ((of_decide_eq_true ((G.hfk4 q4).2.2.2.2.2.2.2.2.2.2.2.2.2.2.2.2.2.2.2))) ((of_decide_eq_true ((G.hfk5 q5).1))) (hlk_UnknownGauge) (hrv_UnknownGauge) ((of_decide_eq_true ((G.hfk5 q5).2.2.1))) ((of_decide_eq_true ((G.hfk5 q5).2.2.2.1))) ((of_decide_eq_true ((G.hfk5 q5).2.2.2.2.1))) (hl_UnknownGauge) (((G.hfk5 q5).2.2.2.2.2.1)) (((G.hfk5 q5).2.2.2.2.2.2.1)) (hfl_UnknownGauge) (hfv_UnknownGauge) (hpf_UnknownGauge) (hce_UnknownGauge) (hdc_UnknownGauge) ((of_decide_eq_true ((G.hfk5 q5).2.2.2.2.2.2.2.2.2.2.1))) ((of_decide_eq_true ((G.hfk5 q5).2.2.2.2.2.2.2.2.2.2.2.1))) ((of_decide_eq_true ((G.hfk5 q5).2.2.2.2.2.2.2.2.2.2.2.2.1))) ((of_decide_eq_true ((G.hfk5 q5).2.2.2.2.2.2.2.2.2.2.2.2.2.1))) ((by decide +kernel)) ((of_decide_eq_true ((G.hfk5 q5).2.2.2.2.2.2.2.2.2.2.2.2.2.2.1))) ((of_decide_eq_true ((G.hfk5 q5).2.2.2.2.2.2.2.2.2.2.2.2.2.2.2.1))) ((of_decide_eq_true ((G.hfk5 q5).2.2.2.2.2.2.2.2.2.2.2.2.2.2.2.2.1))) ((of_decide_eq_true ((G.hfk5 q5).2.2.2.2.2.2.2.2.2.2.2.2.2.2.2.2.2.1))) ((of_decide_eq_true ((G.hfk5 q5).2.2.2.2.2.2.2.2.2.2.2.2.2.2.2.2.2.2.1))) ((of_decide_eq_true ((G.hfk5 q5).2.2.2.2.2.2.2.2.2.2.2.2.2.2.2.2.2.2.2))) ((of_decide_eq_true ((G.hfk6 q6).1))) ((of_decide_eq_true ((G.hfk6 q6).2.1))) ((of_decide_eq_true ((G.hfk6 q6).2.2.1))) ((of_decide_eq_true ((G.hfk6 q6).2.2.2.1))) ((of_decide_eq_true ((G.hfk6 q6).2.2.2.2.1))) ((of_decide_eq_true ((G.hfk6 q6).2.2.2.2.2.1))) ((of_decide_eq_true ((G.hfk6 q6).2.2.2.2.2.2.1))) ((of_decide_eq_true ((G.hfk6 q6).2.2.2.2.2.2.2.1))) ((of_decide_eq_true ((G.hfk6 q6).2.2.2.2.2.2.2.2.1))) ((of_decide_eq_true ((G.hfk6 q6).2.2.2.2.2.2.2.2.2.1))) ((of_decide_eq_true ((G.hfk6 q6).2.2.2.2.2.2.2.2.2.2.1))) ((of_decide_eq_true ((G.hfk6 q6).2.2.2.2.2.2.2.2.2.2.2.1))) ((of_decide_eq_true ((G.hfk6 q6).2.2.2.2.2.2.2.2.2.2.2.2.1))) ((of_decide_eq_true ((G.hfk6 q6).2.2.2.2.2.2.2.2.2.2.2.2.2.1))) (hl_law_take) (hc_law_take) (((G.hfk6 q6).2.2.2.2.2.2.2.2.2.2.2.2.2.2.1)) ((of_decide_eq_true ((G.hfk6 q6).2.2.2.2.2.2.2.2.2.2.2.2.2.2.2.1))) (hl_law_box) (hc_law_box) (((G.hfk6 q6).2.2.2.2.2.2.2.2.2.2.2.2.2.2.2.2.1)) ((of_decide_eq_true ((G.hfk6 q6).2.2.2.2.2.2.2.2.2.2.2.2.2.2.2.2.2.1))) (hl_law_word) (hc_law_word) (((G.hfk6 q6).2.2.2.2.2.2.2.2.2.2.2.2.2.2.2.2.2.2.1)) ((of_decide_eq_true ((G.hfk6 q6).2.2.2.2.2.2.2.2.2.2.2.2.2.2.2.2.2.2.2))) (hl_law_words) (hc_law_words) (((G.hfk7 q7).1)) ((of_decide_eq_true ((G.hfk7 q7).2.1))) (hl_valid_name) (hc_valid_name) (((G.hfk7 q7).2.2.1)) ((of_decide_eq_true ((G.hfk7 q7).2.2.2.1))) (((G.hfk7 q7).2.2.2.2.1)) (hl_Gauge_init) (hc_Gauge_init) (((G.hfk7 q7).2.2.2.2.2.1)) ((of_decide_eq_true ((G.hfk7 q7).2.2.2.2.2.2.1))) (((G.hfk7 q7).2.2.2.2.2.2.2.1)) (hl_CoarseGauge_init) (((G.hfk7 q7).2.2.2.2.2.2.2.2.1)) (((G.hfk7 q7).2.2.2.2.2.2.2.2.2.1)) (hfl_CoarseGauge_init) (hfv_CoarseGauge_init) (hpf_CoarseGauge_init) (hce_CoarseGauge_init) (hdc_CoarseGauge_init) ((of_decide_eq_true ((G.hfk7 q7).2.2.2.2.2.2.2.2.2.2.2.2.2.1))) (((G.hfk7 q7).2.2.2.2.2.2.2.2.2.2.2.2.2.2.1)) (hl_LateGauge_init) (hc_LateGauge_init) (((G.hfk7 q7).2.2.2.2.2.2.2.2.2.2.2.2.2.2.2.1)) ((of_decide_eq_true ((G.hfk7 q7).2.2.2.2.2.2.2.2.2.2.2.2.2.2.2.2.1))) (((G.hfk7 q7).2.2.2.2.2.2.2.2.2.2.2.2.2.2.2.2.2.1)) (hl_LateCoarseGauge_init) (hc_LateCoarseGauge_init) (((G.hfk7 q7).2.2.2.2.2.2.2.2.2.2.2.2.2.2.2.2.2.2.1)) ((of_decide_eq_true ((G.hfk7 q7).2.2.2.2.2.2.2.2.2.2.2.2.2.2.2.2.2.2.2))) (hl_law_specs) (hc_law_specs) (((G.hfk8 q8).1)) ((of_decide_eq_true ((G.hfk8 q8).2.1))) (hl_law_gauge) (hc_law_gauge) (((G.hfk8 q8).2.2.1)) ((of_decide_eq_true ((G.hfk8 q8).2.2.2.1))) (((G.hfk8 q8).2.2.2.2.1)) (hl_Rack_init) ((of_decide_eq_true ((G.hfk8 q8).2.2.2.2.2.1))) (hke_Rack_init) (hc_Rack_init) (((G.hfk8 q8).2.2.2.2.2.2.2.1)) (((G.hfk8 q8).2.2.2.2.2.2.2.2.1)) ((of_decide_eq_true ((G.hfk8 q8).2.2.2.2.2.2.2.2.2.1))) ((Hd.cfg_get ((G.hfk8 q8).2.2.2.2.2.2.2.2.2.2.1))) (hcc_Rack_of) (((G.hfk8 q8).2.2.2.2.2.2.2.2.2.2.2.2.1)) (hl_Rack_of) (hkd_Rack_of) (hke_Rack_of) (hc_Rack_of) (((G.hfk8 q8).2.2.2.2.2.2.2.2.2.2.2.2.2.2.2.1)) ((of_decide_eq_true ((G.hfk8 q8).2.2.2.2.2.2.2.2.2.2.2.2.2.2.2.2.1))) (((G.hfk8 q8).2.2.2.2.2.2.2.2.2.2.2.2.2.2.2.2.2.1)) (hl_Rack_names) (hc_Rack_names) (((G.hfk8 q8).2.2.2.2.2.2.2.2.2.2.2.2.2.2.2.2.2.2.1)) ((of_decide_eq_true ((G.hfk8 q8).2.2.2.2.2.2.2.2.2.2.2.2.2.2.2.2.2.2.2))) (hl_law_gauges) (hc_law_gauges) (((G.hfk9 q9).1)) ((of_decide_eq_true ((G.hfk9 q9).2.1))) (hl_law_groups) (hc_law_groups) (((G.hfk9 q9).2.2.1)) ((of_decide_eq_true ((G.hfk9 q9).2.2.2.1))) (hl_law_faults) (hc_law_faults) (((G.hfk9 q9).2.2.2.2.1)) ((of_decide_eq_true ((G.hfk9 q9).2.2.2.2.2.1))) (((G.hfk9 q9).2.2.2.2.2.2.1)) (hl_Rack_faults) (hc_Rack_faults) (((G.hfk9 q9).2.2.2.2.2.2.2.1)) ((of_decide_eq_true ((G.hfk9 q9).2.2.2.2.2.2.2.2.1))) (hl_picks) (hc_picks) (((G.hfk9 q9).2.2.2.2.2.2.2.2.2.1)) ((of_decide_eq_true ((G.hfk9 q9).2.2.2.2.2.2.2.2.2.2.1))) (hl_law_picks) (hc_law_picks) (((G.hfk9 q9).2.2.2.2.2.2.2.2.2.2.2.1)) ((of_decide_eq_true ((G.hfk9 q9).2.2.2.2.2.2.2.2.2.2.2.2.1))) (hl_law_lots) (hc_law_lots) (((G.hfk9 q9).2.2.2.2.2.2.2.2.2.2.2.2.2.1)) ((of_decide_eq_true ((G.hfk9 q9).2.2.2.2.2.2.2.2.2.2.2.2.2.2.1))) (hl_liar_lots) (hc_liar_lots) (((G.hfk9 q9).2.2.2.2.2.2.2.2.2.2.2.2.2.2.2.1)) ((of_decide_eq_true ((G.hfk9 q9).2.2.2.2.2.2.2.2.2.2.2.2.2.2.2.2.1))) (hl_law) (hc_law) (((G.hfk9 q9).2.2.2.2.2.2.2.2.2.2.2.2.2.2.2.2.2.1)) (((G.hfk9 q9).2.2.2.2.2.2.2.2.2.2.2.2.2.2.2.2.2.2.1)) ((of_decide_eq_true ((G.hfk9 q9).2.2.2.2.2.2.2.2.2.2.2.2.2.2.2.2.2.2.2))) ((Hd.cfv_get ((G.hfk10 q10).1))) (((G.hfk10 q10).2.1)) ((of_decide_eq_true ((G.hfk10 q10).2.2.1))) ((Hd.cfv_get ((G.hfk10 q10).2.2.2.1))) (hfcvi_Gauge_LONGEST) ((of_decide_eq_true ((G.hfk10 q10).2.2.2.2.2.1))) (hgkt_WORDS) (hfgs_LETTERS) ((of_decide_eq_true ((G.hfk10 q10).2.2.2.2.2.2.2.2.1))) ((of_decide_eq_true ((G.hfk10 q10).2.2.2.2.2.2.2.2.2.1))) ((of_decide_eq_true ((G.hfk10 q10).2.2.2.2.2.2.2.2.2.2.1))) (((G.hfk10 q10).2.2.2.2.2.2.2.2.2.2.2.1)) ((of_decide_eq_true ((G.hfk10 q10).2.2.2.2.2.2.2.2.2.2.2.2.1))) ((of_decide_eq_true ((G.hfk10 q10).2.2.2.2.2.2.2.2.2.2.2.2.2.1))) ((of_decide_eq_true ((G.hfk10 q10).2.2.2.2.2.2.2.2.2.2.2.2.2.2.1))) ((of_decide_eq_true ((G.hfk10 q10).2.2.2.2.2.2.2.2.2.2.2.2.2.2.2.1))) ((of_decide_eq_true ((G.hfk10 q10).2.2.2.2.2.2.2.2.2.2.2.2.2.2.2.2.1))) ((of_decide_eq_true ((G.hfk10 q10).2.2.2.2.2.2.2.2.2.2.2.2.2.2.2.2.2.1))) ((of_decide_eq_true ((G.hfk10 q10).2.2.2.2.2.2.2.2.2.2.2.2.2.2.2.2.2.2.1))) ((of_decide_eq_true ((G.hfk10 q10).2.2.2.2.2.2.2.2.2.2.2.2.2.2.2.2.2.2.2))) ((of_decide_eq_true ((G.hfk11 q11).1))) ((of_decide_eq_true ((G.hfk11 q11).2.1))) ((of_decide_eq_true ((G.hfk11 q11).2.2.1))) ((of_decide_eq_true ((G.hfk11 q11).2.2.2.1))) ((of_decide_eq_true ((G.hfk11 q11).2.2.2.2.1))) ((of_decide_eq_true ((G.hfk11 q11).2.2.2.2.2.1))) ((of_decide_eq_true ((G.hfk11 q11).2.2.2.2.2.2.1))) ((of_decide_eq_true ((G.hfk11 q11).2.2.2.2.2.2.2.1))) ((of_decide_eq_true ((G.hfk11 q11).2.2.2.2.2.2.2.2.1))) ((of_decide_eq_true ((G.hfk11 q11).2.2.2.2.2.2.2.2.2.1))) ((of_decide_eq_true ((G.hfk11 q11).2.2.2.2.2.2.2.2.2.2.1))) ((of_decide_eq_true ((G.hfk11 q11).2.2.2.2.2.2.2.2.2.2.2.1))) ((of_decide_eq_true ((G.hfk11 q11).2.2.2.2.2.2.2.2.2.2.2.2)))
    obtain ⟨fd, z1, z2⟩ := zz
    exact ⟨K, fd, KX, z1, z2⟩
#print axioms PySem.Challenge.cw_gaugemiss_k31_liar_lots_holds
