import PyProof.Rows.All
import Wide.All
import OpenK.AllK
import Wide.FinOn
import HandS.ForMost
import HandS.Evl
import HandS.IsInst
import HandS.Deep
import PyProof.StrLawsLast
import PyProof.StrLawsFirst
import HandS.IterVal
import HandS.OwnEq
import HandS.OwnIter
import HandS.SlotsOwn
import KE.KOpsOwn
import HandS.TupAny
import PyProof.P3In
import HandS.Defaults
import PyProof.StrOps2
import KE.KExcSuper
import HandS.Exc
import HandS.ExcOwn
import HandS.TryOnly
import HandS.ExcField
import HandS.ExcIs
import HandS.WordsExc
import HandS.ExcCtx
import HandS.Star
import HandS.Property
import KE.KCallOwn
import HandS.IterNext
import KE.GoesEnumKw
import HandS.Iter
import HandS.ClsMeth
import HandS.Strs
import HandS.SetFor
import PyProof.Rows.SortShellAny
import HandS.RaiseMore
import HandS.TryMany
import HandS.NoneIn
import HandS.FStr
import HandS.StrMore
import PyProof.FString3
import HandS.DictEq
import PyProof.EqLayable
import HandS.List
import HandS.RevTup
import HandS.Rev
import HandS.Style
import PyProof.EqAt
import PyProof.EqKinds
import HandS.MakeKwOnly
import HandS.DictComp
import KE.KStateDown
import HandS.Head0
import HandS.Head1
import HandS.Head2
import HandS.HeadEnd
import HandS.HeadHook1
import HandS.HeadHook2
import HandS.ExcInit
import HandS.HotCalls
import HandS.Flow
import HandS.TupLen
import HandS.RaiseFrom
import HandS.ExcValue
import HandS.GenCall
import HandS.GenList
import PySem.Challenge.RW_guesttongues_k04_bad_lines
set_option Elab.async false
set_option linter.all false
set_option maxRecDepth 100000
set_option maxHeartbeats 4000000
namespace Gt
open PySem PySem.Spec PyProof.Rows L2
section
open PySem PySem.Spec PyProof.Rows L2
def refsY (o : Obj) : List Addr := (match o.dict with
  | some d => [d]
  | none => []) ++ match o.data with
  | .seq its _ => its.toList.flatMap He.refV
  | .dict es _ => es.toList.flatMap fun e => He.refV e.val
  | .func fd => He.refV fd.code ++ He.refV fd.defaults ++ He.refV fd.kwdefaults ++ fd.closure.map (·.2)
  | .cls cd => [cd.ns]
  | .fields vs => vs.toList.flatMap He.refV
  | .cell (some v) => He.refV v
  | _ => []
def lvY (g : Addr → Option Obj) (as : List Addr) : List Addr := as.flatMap fun a => match g a with
  | some o => refsY o
  | none => []
def asY (g : Addr → Option Obj) : Nat → List Addr → List Addr
  | 0, as => as
  | n + 1, as => as ++ asY g n (lvY g as)
def fdOf (K : PySem.W.Frag) (a : Addr) : Option FuncData := match K.lookup a with
  | some ⟨_, _, .func fd, _⟩ => some fd
  | _ => none
abbrev FnY : Type := Option (Str × Str × Arguments × FuncBody × Scope × Addr × List Str × Addr)
def fnY (K : PySem.W.Frag) (a : Addr) : FnY := (fdOf K a).map fun fd => (fd.name, fd.qualname, fd.params, fd.body, fd.scope, fd.globals, fd.closure.map (·.1), fd.builtins)
structure FnAt where
  at_ : PySem.W.Frag → Addr
  name : Str
  qual : Str
  params : Arguments
  body : List Stmt
  scope : Scope
  clo : List Str
def FnAt.val (d : FnAt) : FnY := some (d.name, d.qual, d.params, .stmts d.body, d.scope, mainGlobals, d.clo, builtinsNs)
abbrev AlY : Type := Bool × List FnY
def obsY (ok : PySem.W.Frag → Bool) (fn : List FnAt) (K : PySem.W.Frag) : AlY := (ok K, fn.map fun d => fnY K (d.at_ K))
def valY (fn : List FnAt) : AlY := (true, fn.map FnAt.val)
def SaysY (ok : PySem.W.Frag → Bool) (fn : List FnAt) (K : PySem.W.Frag) : Prop := obsY ok fn K = valY fn
def obsYG (n : Nat) (ok : PySem.W.Frag → Bool) (fn : List FnAt) (g : Addr → Option Obj) : AlY := obsY ok fn (He.frG g (cStatics :: asY g n [mainGlobals]))
def hookY (n : Nat) (ok : PySem.W.Frag → Bool) (fn : List FnAt) : PySem.W.Hook where
  α := AlY
  obs := fun s => obsYG n ok fn s.heap.get?
  val := fun _ => valY fn
  says := fun _ h => ∃ K : PySem.W.Frag, K.In h ∧ SaysY ok fn K
  of := fun _ _ e => ⟨_, He.frG_in, e⟩
  keeps := fun _ _ _ ⟨K, hK, c⟩ k => ⟨K, PySem.W.Frag.In.keeps hK k, c⟩
theorem obsYG_eq {n : Nat} {ok : PySem.W.Frag → Bool} {fn : List FnAt} {g : Addr → Option Obj} {s : Shared} (h : ∀ a, g a = s.heap.get? a) : obsYG n ok fn g = (hookY n ok fn).obs s := by
  have e : g = s.heap.get? := funext h
  rw [e] <;> rfl
section
variable {fn : List FnAt} {K : PySem.W.Frag} {f C : Addr}
theorem atB {l : List Bool} {b : Bool} (h : l.all id = true) (i : Nat) (e : l[i]? = some b) : b = true := List.all_eq_true.mp h b (List.mem_of_getElem? e)
theorem SaysY.fact {fa : PySem.W.Frag → List Bool} (c : SaysY (fun K => (fa K).all id) fn K) {b : Bool} (i : Nat) (h : (fa K)[i]? = some b) : b = true := by
  have c1 : (fa K).all id = true := congrArg (fun z : AlY => z.1) c
  exact List.all_eq_true.mp c1 b (List.mem_of_getElem? h)
theorem SaysY.dat {ok : PySem.W.Frag → Bool} (c : SaysY ok fn K) {d : FnAt} (i : Nat) (h : fn[i]? = some d) : fnY K (d.at_ K) = d.val := by
  have e : fn.map (fun d => fnY K (d.at_ K)) = fn.map FnAt.val := congrArg (fun z : AlY => z.2) c
  have e2 : (fn.map fun d => fnY K (d.at_ K))[i]? = (fn.map FnAt.val)[i]? := by rw [e]
  rw [List.getElem?_map, List.getElem?_map, h] at e2
  exact Option.some.inj e2
theorem fdOf_at {fd : FuncData} (h : fdOf K f = some fd) : ∃ oc od sl, K.lookup f = some ⟨oc, od, .func fd, sl⟩ := by
  unfold fdOf at h
  cases q : K.lookup f with
  | none => rw [q] at h; cases h
  | some o =>
    obtain ⟨oc, od, dt, sl⟩ := o
    rw [q] at h
    cases dt with
    | func fd' => cases h; exact ⟨oc, od, sl, rfl⟩
    | _ => cases h
def fdB (K : PySem.W.Frag) (f : Addr) (p : FuncData → Bool) : Bool := match fdOf K f with
  | some fd => p fd
  | none => false
def isNon : Value → Bool
  | .none => true
  | _ => false
theorem isNon_ok {v : Value} (h : isNon v = true) : v = .none := by cases v <;> first | rfl | cases h
def itsOf (K : PySem.W.Frag) (T : Addr) : Option (List Value) := match K.lookup T with
  | some ⟨_, _, .seq its _, _⟩ => some its.toList
  | _ => none
theorem itsOf_at {T : Addr} {vs : List Value} (h : itsOf K T = some vs) : ∃ tc td tn ts, K.lookup T = some ⟨tc, td, .seq vs.toArray tn, ts⟩ := by
  unfold itsOf at h
  cases q : K.lookup T with
  | none => rw [q] at h; cases h
  | some o =>
    obtain ⟨oc, od, dt, sl⟩ := o
    rw [q] at h
    cases dt with
    | seq its n => cases h; exact ⟨oc, od, n, sl, by simp⟩
    | _ => cases h
section
variable {d : FnAt}
theorem fn_at (e : fnY K (d.at_ K) = d.val) (hc : d.clo = []) : ∃ dV kV doc pm an cdv ct, fdOf K (d.at_ K) = some (PySem.W.fnOf d.name d.qual d.params d.body d.scope dV kV doc pm an cdv ct) := by
  unfold fnY FnAt.val at e
  cases q : fdOf K (d.at_ K) with
  | none => rw [q] at e; cases e
  | some fd =>
    obtain ⟨n1, n2, n3, n4, n5, n6, n7, n8, n9, n10, n11, n12, n13, n14, n15⟩ := fd
    rw [q, hc] at e
    have e2 : (some (n1, n2, n3, n4, n5, n6, n7.map (·.1), n15) : FnY) = some (d.name, d.qual, d.params, .stmts d.body, d.scope, mainGlobals, [], builtinsNs) := e
    simp only [Option.some.injEq, Prod.mk.injEq, List.map_eq_nil_iff] at e2
    obtain ⟨h1, h2, h3, h4, h5, h6, h7, h8⟩ := e2
    subst h1 h2 h3 h4 h5 h6 h7 h8
    exact ⟨n8, n9, n10, n11, n12, n13, n14, rfl⟩
def okF0 (K : PySem.W.Frag) (q : Str) (fd : FuncData) : Bool := isNon fd.defaults && PySem.W.codeIn K fd.code q
theorem fn_0 (e : fnY K (d.at_ K) = d.val) (hc : d.clo = []) (b : fdB K (d.at_ K) (okF0 K d.qual) = true) :
    ∃ oc od kV doc pm an cdv ct sl, K.lookup (d.at_ K) = some ⟨oc, od, .func (PySem.W.fnOf d.name d.qual d.params d.body d.scope .none kV doc pm an cdv ct), sl⟩ ∧ PySem.W.codeIn K cdv d.qual = true := by
  obtain ⟨dV, kV, doc, pm, an, cdv, ct, h⟩ := fn_at e hc
  unfold fdB at b
  rw [h] at b
  obtain ⟨b1, b2⟩ := He.ba (show (isNon dV && PySem.W.codeIn K cdv d.qual) = true from b)
  cases isNon_ok b1
  obtain ⟨oc, od, sl, l⟩ := fdOf_at h
  exact ⟨oc, od, kV, doc, pm, an, cdv, ct, sl, l, b2⟩
def its1 (p : Value → Bool) : Option (List Value) → Bool
  | some [v] => p v
  | _ => false
theorem its1_ok {p : Value → Bool} {o : Option (List Value)} (h : its1 p o = true) : ∃ v, o = some [v] ∧ p v = true := by
  unfold its1 at h
  split at h
  · rename_i v; exact ⟨v, rfl, h⟩
  · cases h
def dfl1 (K : PySem.W.Frag) (p : Value → Bool) : Value → Bool
  | .ref T => its1 p (itsOf K T)
  | _ => false
def okF1 (K : PySem.W.Frag) (q : Str) (p : Value → Bool) (fd : FuncData) : Bool := dfl1 K p fd.defaults && PySem.W.codeIn K fd.code q
theorem fn_1 {p : Value → Bool} (e : fnY K (d.at_ K) = d.val) (hc : d.clo = []) (b : fdB K (d.at_ K) (okF1 K d.qual p) = true) :
    ∃ oc od kV doc pm an cdv ct sl T tc td tn ts v, K.lookup (d.at_ K) = some ⟨oc, od, .func (PySem.W.fnOf d.name d.qual d.params d.body d.scope (.ref T) kV doc pm an cdv ct), sl⟩ ∧ PySem.W.codeIn K cdv d.qual = true ∧
      K.lookup T = some ⟨tc, td, .seq #[v] tn, ts⟩ ∧ p v = true := by
  obtain ⟨dV, kV, doc, pm, an, cdv, ct, h⟩ := fn_at e hc
  unfold fdB at b
  rw [h] at b
  obtain ⟨b1, b2⟩ := He.ba (show (dfl1 K p dV && PySem.W.codeIn K cdv d.qual) = true from b)
  obtain ⟨oc, od, sl, l⟩ := fdOf_at h
  cases dV with
  | ref T =>
    obtain ⟨v, hv, pv⟩ := its1_ok (show its1 p (itsOf K T) = true from b1)
    obtain ⟨tc, td, tn, ts, lT⟩ := itsOf_at hv
    exact ⟨oc, od, kV, doc, pm, an, cdv, ct, sl, T, tc, td, tn, ts, v, l, b2, lT, pv⟩
  | _ => cases b1
def isNil (K : PySem.W.Frag) : Value → Bool
  | .ref E => (match K.lookup E with
    | some ⟨.type "tuple", none, .seq its _, _⟩ => its.toList.isEmpty
    | _ => false)
  | _ => false
theorem isNil_ok {v : Value} (h : isNil K v = true) : ∃ E ed en es, v = .ref E ∧ K.lookup E = some ⟨.type "tuple", ed, .seq #[] en, es⟩ ∧ ed = none := by
  cases v with
  | ref E =>
    have h1 : (match K.lookup E with
      | some ⟨.type "tuple", none, .seq its _, _⟩ => its.toList.isEmpty
      | _ => false) = true := h
    split at h1
    · rename_i o its n sl q
      have e0 : its = #[] := by
        rw [List.isEmpty_iff] at h1
        exact Array.toList_inj.mp (by rw [h1])
      rw [e0] at q
      exact ⟨E, _, _, _, rfl, q, rfl⟩
    · cases h1
  | _ => cases h
theorem fn_clo (e : fnY K (d.at_ K) = d.val) (hc : d.clo = [("__class__" : Str)]) : ∃ dV kV doc pm an cdv ct cc, fdOf K (d.at_ K) = some (PySem.W.ksFn d.name d.qual d.params d.body d.scope dV kV doc pm an cdv ct cc) := by
  unfold fnY FnAt.val at e
  cases q : fdOf K (d.at_ K) with
  | none => rw [q] at e; cases e
  | some fd =>
    obtain ⟨n1, n2, n3, n4, n5, n6, n7, n8, n9, n10, n11, n12, n13, n14, n15⟩ := fd
    rw [q, hc] at e
    have e2 : (some (n1, n2, n3, n4, n5, n6, n7.map (·.1), n15) : FnY) = some (d.name, d.qual, d.params, .stmts d.body, d.scope, mainGlobals, [("__class__" : Str)], builtinsNs) := e
    simp only [Option.some.injEq, Prod.mk.injEq] at e2
    obtain ⟨h1, h2, h3, h4, h5, h6, h7, h8⟩ := e2
    match n7, h7 with
    | [(x, cc)], h7 =>
      have hx : x = "__class__" := by simpa using h7
      subst h1 h2 h3 h4 h5 h6 h8 hx
      exact ⟨n8, n9, n10, n11, n12, n13, n14, cc, rfl⟩
def fileB (pf : Str) : Option Value → Bool
  | some (.str file _) => pf == file
  | _ => false
theorem fileB_ok {pf : Str} {o : Option Value} (h : fileB pf o = true) : ∃ file tf, o = some (.str file tf) ∧ (pf == file) = true := by
  unfold fileB at h
  split at h
  · rename_i file tf; exact ⟨file, tf, rfl, h⟩
  · cases h
def fldsB (pf : Str) : Option Obj → Bool
  | some ⟨_, _, .fields vs, _⟩ => fileB pf vs[2]?
  | _ => false
theorem fldsB_ok {pf : Str} {o : Option Obj} (h : fldsB pf o = true) : ∃ c d vs s file tf, o = some ⟨c, d, .fields vs, s⟩ ∧ vs[2]? = some (.str file tf) ∧ (pf == file) = true := by
  unfold fldsB at h
  split at h
  · rename_i c d vs s
    obtain ⟨file, tf, h1, h2⟩ := fileB_ok h
    exact ⟨c, d, vs, s, file, tf, rfl, h1, h2⟩
  · cases h
def codeB (K : PySem.W.Frag) (pf q : Str) : Value → Bool
  | .ref cd => PySem.W.codeIn K (.ref cd) q && fldsB pf (K.lookup cd)
  | _ => false
def cellB (C : Addr) : Option Obj → Bool
  | some ⟨_, _, .cell (some v), _⟩ => decide (v = .ref C)
  | _ => false
theorem cellB_ok {o : Option Obj} (h : cellB C o = true) : ∃ c d s, o = some ⟨c, d, .cell (some (.ref C)), s⟩ := by
  unfold cellB at h
  split at h
  · rename_i c d v s
    cases of_decide_eq_true h
    exact ⟨c, d, s, rfl⟩
  · cases h
def closB (K : PySem.W.Frag) (C : Addr) : List (Str × Addr) → Bool
  | [(_, cc)] => cellB C (K.lookup cc)
  | _ => false
def okFX (K : PySem.W.Frag) (pf q : Str) (C : Addr) (fd : FuncData) : Bool := isNon fd.defaults && (isNon fd.kwdefaults && (codeB K pf q fd.code && closB K C fd.closure))
theorem fn_X {pf : Str} (e : fnY K (d.at_ K) = d.val) (hc : d.clo = [("__class__" : Str)]) (b : fdB K (d.at_ K) (okFX K pf d.qual C) = true) :
    ∃ oc od doc pm an cd ct cc sl cl cld csl cl2 cld2 vs csl2 file tf, K.lookup (d.at_ K) = some ⟨oc, od, .func (PySem.W.ksFn d.name d.qual d.params d.body d.scope .none .none doc pm an (.ref cd) ct cc), sl⟩ ∧ PySem.W.codeIn K (.ref cd) d.qual = true ∧
      K.lookup cc = some ⟨cl, cld, .cell (some (.ref C)), csl⟩ ∧ K.lookup cd = some ⟨cl2, cld2, .fields vs, csl2⟩ ∧ vs[2]? = some (.str file tf) ∧ (pf == file) = true := by
  obtain ⟨dV, kV, doc, pm, an, cdv, ct, cc, h⟩ := fn_clo e hc
  unfold fdB at b
  rw [h] at b
  obtain ⟨b1, b2⟩ := He.ba (show (isNon dV && (isNon kV && (codeB K pf d.qual cdv && cellB C (K.lookup cc)))) = true from b)
  obtain ⟨b2, b3⟩ := He.ba b2
  obtain ⟨b3, b4⟩ := He.ba b3
  cases isNon_ok b1
  cases isNon_ok b2
  obtain ⟨oc, od, sl, l⟩ := fdOf_at h
  cases cdv with
  | ref cd =>
    obtain ⟨b5, b6⟩ := He.ba (show (PySem.W.codeIn K (.ref cd) d.qual && fldsB pf (K.lookup cd)) = true from b3)
    obtain ⟨cl2, cld2, vs, csl2, file, tf, q2, q3, q4⟩ := fldsB_ok b6
    obtain ⟨cl, cld, csl, q5⟩ := cellB_ok b4
    exact ⟨oc, od, doc, pm, an, cd, ct, cc, sl, cl, cld, csl, cl2, cld2, vs, csl2, file, tf, l, b5, q5, q2, q3, q4⟩
  | _ => cases b3
end
def okC (K : PySem.W.Frag) (C : Addr) : Bool := match K.lookup C with
  | some ⟨.type "type", _, .cls cd, sl⟩ => (match cd.mro, sl.toList with
    | .ref C' :: bm, [_, _, _, _, some (.builtin n), _] => decide (C' = C) && (n == "ValueError.__new__" && (!cd.hasDel && (cd.hasDict && PySem.HandSPX.refsVE bm)))
    | _, _ => false)
  | _ => false
theorem okC_at (h : okC K C = true) : ∃ nm q N bs bm sn sub ab col dd k0 k1 k2 k3 k5, K.lookup C = some (excClassObj nm q C N bs bm true sn sub ab col dd k0 k1 k2 k3 k5 "ValueError.__new__") ∧ PySem.HandSPX.refsVE bm = true := by
  unfold okC at h
  split at h
  · rename_i dd cd sl ho
    split at h
    · rename_i C' bm k0 k1 k2 k3 n k5 hm hs
      simp only [Bool.and_eq_true, beq_iff_eq, Bool.not_eq_true', decide_eq_true_eq] at h
      obtain ⟨h1, h2, h3, h4, h5⟩ := h
      obtain ⟨nm, bs, mro, ns, qn, hd, sn, sub, ab, col, del⟩ := cd
      dsimp only at hm h3 h4
      subst hm h1 h2 h3 h4
      have hsl : sl = #[k0, k1, k2, k3, some (.builtin "ValueError.__new__"), k5] := by
        obtain ⟨l⟩ := sl
        have hs : l = _ := hs
        rw [hs]
      subst hsl
      exact ⟨nm, qn, ns, bs, bm, sn, sub, ab, col, dd, k0, k1, k2, k3, k5, ho, h5⟩
    · cases h
  · cases h
def strB (K : PySem.W.Frag) (x z : Str) : Bool := match PySem.W.nsIn K mainGlobals x with
  | some (some (.str y _)) => decide (y = z)
  | _ => false
theorem strB_ok {x z : Str} (h : strB K x z = true) : ∃ t, PySem.W.nsIn K mainGlobals x = some (some (.str z t)) := by
  unfold strB at h
  split at h
  · rename_i y t q
    cases of_decide_eq_true h
    exact ⟨t, q⟩
  · cases h
def intB (K : PySem.W.Frag) (x : Str) (i : Int) : Bool := match PySem.W.nsIn K mainGlobals x with
  | some (some (.int y _)) => decide (y = i)
  | _ => false
theorem intB_ok {x : Str} {i : Int} (h : intB K x i = true) : ∃ t, PySem.W.nsIn K mainGlobals x = some (some (.int i t)) := by
  unfold intB at h
  split at h
  · rename_i y t q
    cases of_decide_eq_true h
    exact ⟨t, q⟩
  · cases h
def recA (K : PySem.W.Frag) (p : Addr) (t : String) : Addr := match PySem.W.recIn K p t with
  | some (.ref f :: _) => f
  | _ => 0
def recB (K : PySem.W.Frag) (p : Addr) (t : String) : Bool := match PySem.W.recIn K p t with
  | some (.ref _ :: _) => true
  | _ => false
theorem recB_ok {p : Addr} {t : String} (h : recB K p t = true) : ∃ r, PySem.W.recIn K p t = some (.ref (recA K p t) :: r) := by
  unfold recB at h
  split at h
  · rename_i f r q
    refine ⟨r, ?_⟩
    unfold recA
    rw [q]
  · cases h
def getB (K : PySem.W.Frag) (C : Addr) (x : Str) (p : Addr) : Bool := match PySem.W.findCls K (.ref C) (.type "type") x with
  | some (.get g a o t) => decide (g = .builtin "classmethod.__get__") && (decide (a = .ref p) && (isNon o && decide (t = .ref C)))
  | _ => false
theorem getB_ok {x : Str} {p : Addr} (h : getB K C x p = true) : PySem.W.findCls K (.ref C) (.type "type") x = some (.get (.builtin "classmethod.__get__") (.ref p) .none (.ref C)) := by
  unfold getB at h
  split at h
  · rename_i g a o t q
    obtain ⟨h1, h⟩ := He.ba h
    obtain ⟨h2, h⟩ := He.ba h
    obtain ⟨h3, h4⟩ := He.ba h
    rw [q, of_decide_eq_true h1, of_decide_eq_true h2, isNon_ok h3, of_decide_eq_true h4]
  · cases h
end
end
section
def topS (i : Nat) : Stmt := PySem.Challenge.pw_guesttongues_k04_bad_lines.main.body.getD i (.Pass ⟨0, 0, 0, 0⟩)
abbrev s_is_owner : Stmt := topS 10
abbrev s_is_plain : Stmt := topS 11
abbrev s_is_sign : Stmt := topS 12
abbrev s_is_token : Stmt := topS 13
abbrev s_parse_rule : Stmt := topS 15
abbrev s_grouped : Stmt := topS 16
abbrev s__law_cell : Stmt := topS 19
abbrev s__law_draws : Stmt := topS 20
abbrev s__law_name : Stmt := topS 21
abbrev s__law_rules : Stmt := topS 22
abbrev s__law_grouped : Stmt := topS 23
abbrev s__law_same : Stmt := topS 24
abbrev s__law_all_same : Stmt := topS 25
abbrev s__law_odd : Stmt := topS 26
abbrev s_law : Stmt := topS 27
abbrev s_Grammar___init__ : Stmt := inClass (topS 17) 0
abbrev s_Grammar_from_string : Stmt := inClass (topS 17) 1
abbrev s_Grammar___iter__ : Stmt := inClass (topS 17) 3
abbrev s_BadLine___init__ : Stmt := inClass (topS 4) 0
def dt0 : FnAt := ⟨fun K => (He.ga K "is_owner"), "is_owner", "is_owner", defArgs s_is_owner, defBody s_is_owner, defScope s_is_owner, []⟩
def dt1 : FnAt := ⟨fun K => (He.ga K "is_plain"), "is_plain", "is_plain", defArgs s_is_plain, defBody s_is_plain, defScope s_is_plain, []⟩
def dt2 : FnAt := ⟨fun K => (He.ga K "is_sign"), "is_sign", "is_sign", defArgs s_is_sign, defBody s_is_sign, defScope s_is_sign, []⟩
def dt3 : FnAt := ⟨fun K => (He.ga K "is_token"), "is_token", "is_token", defArgs s_is_token, defBody s_is_token, defScope s_is_token, []⟩
def dt4 : FnAt := ⟨fun K => (He.ga K "parse_rule"), "parse_rule", "parse_rule", defArgs s_parse_rule, defBody s_parse_rule, defScope s_parse_rule, []⟩
def dt5 : FnAt := ⟨fun K => (He.ga K "grouped"), "grouped", "grouped", defArgs s_grouped, defBody s_grouped, defScope s_grouped, []⟩
def dt6 : FnAt := ⟨fun K => (He.ga K "_law_cell"), "_law_cell", "_law_cell", defArgs s__law_cell, defBody s__law_cell, defScope s__law_cell, []⟩
def dt7 : FnAt := ⟨fun K => (He.ga K "_law_draws"), "_law_draws", "_law_draws", defArgs s__law_draws, defBody s__law_draws, defScope s__law_draws, []⟩
def dt8 : FnAt := ⟨fun K => (He.ga K "_law_name"), "_law_name", "_law_name", defArgs s__law_name, defBody s__law_name, defScope s__law_name, []⟩
def dt9 : FnAt := ⟨fun K => (He.ga K "_law_rules"), "_law_rules", "_law_rules", defArgs s__law_rules, defBody s__law_rules, defScope s__law_rules, []⟩
def dt10 : FnAt := ⟨fun K => (He.ga K "_law_grouped"), "_law_grouped", "_law_grouped", defArgs s__law_grouped, defBody s__law_grouped, defScope s__law_grouped, []⟩
def dt11 : FnAt := ⟨fun K => (He.ga K "_law_same"), "_law_same", "_law_same", defArgs s__law_same, defBody s__law_same, defScope s__law_same, []⟩
def dt12 : FnAt := ⟨fun K => (He.ga K "_law_all_same"), "_law_all_same", "_law_all_same", defArgs s__law_all_same, defBody s__law_all_same, defScope s__law_all_same, []⟩
def dt13 : FnAt := ⟨fun K => (He.ga K "_law_odd"), "_law_odd", "_law_odd", defArgs s__law_odd, defBody s__law_odd, defScope s__law_odd, []⟩
def dt14 : FnAt := ⟨fun K => (He.ga K "law"), "law", "law", defArgs s_law, defBody s_law, defScope s_law, []⟩
def dt15 : FnAt := ⟨fun K => (He.ma K (He.ga K "Grammar") "__init__"), "__init__", "Grammar.__init__", defArgs s_Grammar___init__, defBody s_Grammar___init__, defScope s_Grammar___init__, []⟩
def dt16 : FnAt := ⟨fun K => (recA K (He.ma K (He.ga K "Grammar") "from_string") "classmethod"), "from_string", "Grammar.from_string", defArgs s_Grammar_from_string, defBody s_Grammar_from_string, defScope s_Grammar_from_string, []⟩
def dt17 : FnAt := ⟨fun K => (He.ma K (He.ga K "Grammar") "__iter__"), "__iter__", "Grammar.__iter__", defArgs s_Grammar___iter__, defBody s_Grammar___iter__, defScope s_Grammar___iter__, []⟩
def dt18 : FnAt := ⟨fun K => (He.ma K (He.ga K "BadLine") "__init__"), "__init__", "BadLine.__init__", defArgs s_BadLine___init__, defBody s_BadLine___init__, defScope s_BadLine___init__, ["__class__"]⟩
def dts : List FnAt := [dt0, dt1, dt2, dt3, dt4, dt5, dt6, dt7, dt8, dt9, dt10, dt11, dt12, dt13, dt14, dt15, dt16, dt17, dt18]
abbrev P0 : Program := PySem.Challenge.rw_guesttongues_k04_bad_lines.prog
theorem aD {l : List Bool} {p : Prop} [Decidable p] (h : l.all id = true) (i : Nat) (e : l[i]? = some (decide p)) : p := of_decide_eq_true (atB h i e)
abbrev R0 : PySem.W.OpenRow := PySem.W.OpenLaw.row PySem.Challenge.rw_guesttongues_k04_bad_lines
def gb0 (K : PySem.W.Frag) : List Bool := [fdB K (He.ga K "is_owner") (okF0 K "is_owner"),
  fdB K (He.ga K "is_plain") (okF0 K "is_plain"),
  fdB K (He.ga K "is_sign") (okF0 K "is_sign"),
  fdB K (He.ga K "is_token") (okF0 K "is_token"),
  fdB K (He.ga K "parse_rule") (okF0 K "parse_rule"),
  fdB K (He.ga K "grouped") (okF0 K "grouped"),
  fdB K (He.ga K "_law_cell") (okF0 K "_law_cell"),
  fdB K (He.ga K "_law_draws") (okF0 K "_law_draws"),
  fdB K (He.ga K "_law_name") (okF0 K "_law_name"),
  fdB K (He.ga K "_law_rules") (okF0 K "_law_rules"),
  fdB K (He.ga K "_law_grouped") (okF0 K "_law_grouped"),
  fdB K (He.ga K "_law_same") (okF0 K "_law_same"),
  fdB K (He.ga K "_law_all_same") (okF0 K "_law_all_same"),
  fdB K (He.ga K "_law_odd") (okF0 K "_law_odd"),
  fdB K (He.ga K "law") (okF0 K "law"),
  fdB K (He.ma K (He.ga K "Grammar") "__init__") (okF1 K "Grammar.__init__" (isNil K)),
  recB K (He.ma K (He.ga K "Grammar") "from_string") "classmethod",
  fdB K (recA K (He.ma K (He.ga K "Grammar") "from_string") "classmethod") (okF0 K "Grammar.from_string"),
  fdB K (He.ma K (He.ga K "Grammar") "__iter__") (okF0 K "Grammar.__iter__"),
  okC K (He.ga K "BadLine")]
def gb1 (K : PySem.W.Frag) : List Bool := [fdB K (He.ma K (He.ga K "BadLine") "__init__") (okFX K (R0.prog.main.file) "BadLine.__init__" (He.ga K "BadLine")),
  decide (PySem.W.nsIn K mainGlobals "Grammar" = some (some (.ref (He.ga K "Grammar")))),
  PySem.W.plainGet K (He.ga K "Grammar") Str.empty,
  PySem.W.hasDictIn K (He.ga K "Grammar"),
  PySem.W.plainOver K (He.ga K "Grammar"),
  decide (PySem.W.findIn K (.ref (He.ga K "Grammar")) "__setattr__" = some (some (.builtin "object.__setattr__"))),
  PySem.W.selfFirst K (He.ga K "Grammar"),
  PySem.W.noSeq K (He.ga K "Grammar"),
  PySem.W.makesIn K (He.ga K "Grammar"),
  PySem.W.keepIn K (.ref (He.ga K "Grammar")),
  decide (PySem.W.findIn K (.ref (He.ga K "Grammar")) "rows" = some none),
  decide (PySem.W.findIn K (.ref (He.ga K "Grammar")) "__len__" = some none),
  decide (PySem.W.findIn K (.ref (He.ga K "Grammar")) "__length_hint__" = some none),
  decide (PySem.W.nsIn K mainGlobals "is_owner" = some (some (.ref (He.ga K "is_owner")))),
  PySem.W.keepIn K (.ref (He.ga K "is_owner")),
  decide (PySem.W.nsIn K mainGlobals "is_plain" = some (some (.ref (He.ga K "is_plain")))),
  PySem.W.keepIn K (.ref (He.ga K "is_plain")),
  decide (PySem.W.nsIn K mainGlobals "is_sign" = some (some (.ref (He.ga K "is_sign")))),
  PySem.W.keepIn K (.ref (He.ga K "is_sign")),
  decide (PySem.W.nsIn K mainGlobals "is_token" = some (some (.ref (He.ga K "is_token"))))]
def gb2 (K : PySem.W.Frag) : List Bool := [PySem.W.keepIn K (.ref (He.ga K "is_token")),
  decide (PySem.W.nsIn K mainGlobals "parse_rule" = some (some (.ref (He.ga K "parse_rule")))),
  PySem.W.keepIn K (.ref (He.ga K "parse_rule")),
  decide (PySem.W.nsIn K mainGlobals "grouped" = some (some (.ref (He.ga K "grouped")))),
  PySem.W.keepIn K (.ref (He.ga K "grouped")),
  decide (PySem.W.nsIn K mainGlobals "_law_cell" = some (some (.ref (He.ga K "_law_cell")))),
  PySem.W.keepIn K (.ref (He.ga K "_law_cell")),
  decide (PySem.W.nsIn K mainGlobals "_law_draws" = some (some (.ref (He.ga K "_law_draws")))),
  PySem.W.keepIn K (.ref (He.ga K "_law_draws")),
  decide (PySem.W.nsIn K mainGlobals "_law_name" = some (some (.ref (He.ga K "_law_name")))),
  PySem.W.keepIn K (.ref (He.ga K "_law_name")),
  decide (PySem.W.nsIn K mainGlobals "_law_rules" = some (some (.ref (He.ga K "_law_rules")))),
  PySem.W.keepIn K (.ref (He.ga K "_law_rules")),
  decide (PySem.W.nsIn K mainGlobals "_law_grouped" = some (some (.ref (He.ga K "_law_grouped")))),
  PySem.W.keepIn K (.ref (He.ga K "_law_grouped")),
  decide (PySem.W.nsIn K mainGlobals "_law_same" = some (some (.ref (He.ga K "_law_same")))),
  PySem.W.keepIn K (.ref (He.ga K "_law_same")),
  decide (PySem.W.nsIn K mainGlobals "_law_all_same" = some (some (.ref (He.ga K "_law_all_same")))),
  PySem.W.keepIn K (.ref (He.ga K "_law_all_same")),
  decide (PySem.W.nsIn K mainGlobals "_law_odd" = some (some (.ref (He.ga K "_law_odd"))))]
def gb3 (K : PySem.W.Frag) : List Bool := [PySem.W.keepIn K (.ref (He.ga K "_law_odd")),
  decide (PySem.W.nsIn K mainGlobals "law" = some (some (.ref (He.ga K "law")))),
  PySem.W.keepIn K (.ref (He.ga K "law")),
  decide (PySem.W.findIn K (.ref (He.ga K "Grammar")) "__init__" = some (some (.ref (He.ma K (He.ga K "Grammar") "__init__")))),
  PySem.W.isFn K (.ref (He.ma K (He.ga K "Grammar") "__init__")),
  PySem.W.keepIn K (.ref (He.ma K (He.ga K "Grammar") "__init__")),
  getB K (He.ga K "Grammar") "from_string" (He.ma K (He.ga K "Grammar") "from_string"),
  PySem.W.fnIn K (recA K (He.ma K (He.ga K "Grammar") "from_string") "classmethod"),
  PySem.W.readsIn K (He.ga K "Grammar") (.type "type"),
  decide (PySem.W.specialIn K (.ref (He.ga K "Grammar")) "__getattribute__" = some (some (.builtin "type.__getattribute__"))),
  PySem.W.keepIn K (.ref (recA K (He.ma K (He.ga K "Grammar") "from_string") "classmethod")),
  decide (PySem.W.findIn K (.ref (He.ga K "Grammar")) "__iter__" = some (some (.ref (He.ma K (He.ga K "Grammar") "__iter__")))),
  PySem.W.isFn K (.ref (He.ma K (He.ga K "Grammar") "__iter__")),
  PySem.W.keepIn K (.ref (He.ma K (He.ga K "Grammar") "__iter__")),
  decide (PySem.W.nsIn K mainGlobals "len" = some none),
  decide (PySem.W.nsIn K mainGlobals "all" = some none),
  decide (PySem.W.nsIn K mainGlobals "tuple" = some none),
  decide (PySem.W.nsIn K mainGlobals "enumerate" = some none),
  decide (PySem.W.nsIn K mainGlobals "iter" = some none),
  decide (PySem.W.nsIn K mainGlobals "int" = some none)]
def gb4 (K : PySem.W.Frag) : List Bool := [decide (PySem.W.nsIn K mainGlobals "range" = some none),
  decide (PySem.W.nsIn K mainGlobals "isinstance" = some none),
  decide (PySem.W.nsIn K mainGlobals "str" = some none),
  decide (PySem.W.nsIn K mainGlobals "ValueError" = some none),
  decide (PySem.W.nsIn K mainGlobals "bool" = some none),
  decide (PySem.W.nsIn K mainGlobals "list" = some none),
  intB K "LONGEST" (8),
  strB K "SMALL" "abcdefghijklmnopqrstuvwxyz",
  strB K "DIGITS" "0123456789",
  strB K "CAPITAL" "ABCDEFGHIJKLMNOPQRSTUVWXYZ",
  decide (PySem.W.nsIn K mainGlobals "BadLine" = some (some (.ref (He.ga K "BadLine")))),
  decide (PySem.W.findIn K (.ref (He.ga K "BadLine")) "__setattr__" = some (some (.builtin "object.__setattr__"))),
  decide (PySem.W.findIn K (.ref (He.ga K "BadLine")) "__getattribute__" = some (some (.builtin "BaseException.__getattribute__"))),
  decide (PySem.W.findIn K (.ref (He.ga K "BadLine")) "__getattr__" = some none),
  decide (PySem.W.findIn K (.ref (He.ga K "BadLine")) "number" = some none),
  decide (PySem.W.findIn K (.ref (He.ga K "BadLine")) "__init__" = some (some (.ref (He.ma K (He.ga K "BadLine") "__init__")))),
  decide (PySem.W.typeIn K (.ref (He.ma K (He.ga K "BadLine") "__init__")) = some (.type "function")),
  PySem.W.keepIn K (.ref (He.ga K "BadLine")),
  decide (PySem.W.subIn K (.ref (He.ga K "BadLine")) (.type "BaseException") = some true),
  decide (PySem.W.typeIn K (.ref (He.ga K "BadLine")) = some (.type "type"))]
def gb5 (K : PySem.W.Frag) : List Bool := [PySem.W.hasDictIn K (He.ga K "BadLine"),
  decide (PySem.W.ks_superIn K (He.ga K "BadLine") (He.ga K "BadLine") "__init__" = some (some (.builtin "ValueError.__init__"))),
  decide (PySem.W.subIn K (.ref (He.ga K "BadLine")) (.type "ValueError") = some true),
  decide (PySem.W.mroIn K (He.ga K "BadLine") (.ref (He.ga K "BadLine")) = some true),
  decide (PySem.W.nsIn K cStatics "thirdparty.any" = some none),
  decide (PySem.W.nsIn K mainGlobals "super" = some none),
  PySem.W.isClsIn K (He.ga K "BadLine"),
  decide (PySem.W.subIn K (.ref (He.ga K "BadLine")) (.ref (He.ga K "BadLine")) = some true),
  decide (PySem.W.findIn K (.ref (He.ga K "BadLine")) "__class__" = some (some (.builtin "object.__class__"))),
  decide (PySem.W.specialIn K (.builtin "object.__class__") "__get__" = some (some (.builtin "getset_descriptor.__get__"))),
  decide (PySem.W.takesIn K (.builtin "object.__class__") = some true),
  decide (PySem.W.mroIn K (He.ga K "BadLine") (.type "object") = some true),
  decide (PySem.W.nsIn K mainGlobals "TongueError" = some (some (.ref (He.ga K "TongueError")))),
  decide (PySem.W.kitOne K (.ref (He.ga K "BadLine")) (.ref (He.ga K "TongueError")) = some true),
  decide (PySem.W.kitOne K (.ref (He.ga K "BadLine")) (.type "ValueError") = some true)]
def gbs (K : PySem.W.Frag) : List Bool := [(gb0 K).all id, (gb1 K).all id, (gb2 K).all id, (gb3 K).all id, (gb4 K).all id, (gb5 K).all id]
def others : List Str := (["_wall", "TongueError", "NoRule", "BadLine", "SMALL", "CAPITAL", "DIGITS", "LONGEST", "is_owner", "is_plain", "is_sign", "is_token", "format_rule", "parse_rule", "grouped", "Grammar", "_law_cell", "_law_draws", "_law_name", "_law_rules", "_law_grouped", "_law_same", "_law_all_same", "_law_odd"] : List Str)
abbrev hkR : PySem.W.Hook := hookY 6 (fun K => (gbs K).all id) dts
def obR (s : PySem.W.SharedT) : AlY := obsYG 6 (fun K => (gbs K).all id) dts (HandSHeadRun.getT s)
theorem obR_eq (s : PySem.W.SharedT) : obR s = hkR.obs s.abs := obsYG_eq (HandSHeadRun.getT_eq s)
set_option maxHeartbeats 0 in
theorem runR (w : World) : HandSHeadRun.RunEq R0 (PySem.W.view R0.prog [27]) hkR obR 40000 others w := by
  intro os
  kernel_rfl
end
end Gt
open PySem PySem.W PySem.Calls PyProof.Rows in
set_option maxRecDepth 100000 in
set_option maxHeartbeats 0 in
theorem Gt.headR (call : WalkO (view Gt.R0.prog [27]) Gt.others (XL (view Gt.R0.prog [27]) []) Gt.hkR.says Gt.R0.toRowW (HandSHeadRun.topDef Gt.R0.prog 27) [] fun f vs => PySem.call f vs) : PySem.Challenge.rw_guesttongues_k04_bad_lines.Holds := by
  w_on; o_law
  refine HandSHeadRun.head_any (r := Gt.R0) (q := view Gt.R0.prog [27]) (H := Gt.hkR) (ob := Gt.obR) (M := 40000) (loose := Gt.others) (d := HandSHeadRun.topDef Gt.R0.prog 27) (kwd := []) Gt.obR_eq
    (by kernel_rfl) (fun s => by kernel_rfl) Gt.runR (by kernel_rfl) (by kernel_rfl) (by kernel_rfl) (by rfl) (by first | assumption | decide +kernel) (by decide +kernel) ⟨rfl, rfl, rfl, rfl, rfl, by decide +kernel⟩ ?hw call
  case hw => w_witness2
namespace Gt
open PySem PySem.Spec PyProof.Rows L2
section
open PySem PySem.Spec PyProof.Rows L2
inductive A2 {α β : Type} (r : α → β → Prop) : List α → List β → Prop
  | nil : A2 r [] []
  | cons {a : α} {b : β} {as : List α} {bs : List β} : r a b → A2 r as bs → A2 r (a :: as) (b :: bs)
theorem A2.imp {α β : Type} {r q : α → β → Prop} (f : ∀ a b, r a b → q a b) : ∀ {as : List α} {bs : List β}, A2 r as bs → A2 q as bs
  | _, _, .nil => .nil
  | _, _, .cons h t => .cons (f _ _ h) (A2.imp f t)
theorem A2.len {α β : Type} {r : α → β → Prop} : ∀ {as : List α} {bs : List β}, A2 r as bs → as.length = bs.length
  | _, _, .nil => rfl
  | _, _, .cons _ t => by rw [List.length_cons, List.length_cons, A2.len t]
theorem A2.get {α β : Type} {r : α → β → Prop} : ∀ {as : List α} {bs : List β} {i : Nat} {a : α}, A2 r as bs → as[i]? = some a → ∃ b, bs[i]? = some b ∧ r a b
  | _, _, _, _, .nil, e => by simp at e
  | _, _, 0, _, .cons h _, e => by simp at e; subst e; exact ⟨_, rfl, h⟩
  | _, _, i + 1, a, .cons _ t, e => by
    obtain ⟨b, h1, h2⟩ := A2.get (i := i) (a := a) t (by simpa using e)
    exact ⟨b, by simpa using h1, h2⟩
theorem A2.get' {α β : Type} {r : α → β → Prop} : ∀ {as : List α} {bs : List β} {i : Nat} {b : β}, A2 r as bs → bs[i]? = some b → ∃ a, as[i]? = some a ∧ r a b
  | _, _, _, _, .nil, e => by simp at e
  | _, _, 0, _, .cons h _, e => by simp at e; subst e; exact ⟨_, rfl, h⟩
  | _, _, i + 1, b, .cons _ t, e => by
    obtain ⟨a, h1, h2⟩ := A2.get' (i := i) (b := b) t (by simpa using e)
    exact ⟨a, by simpa using h1, h2⟩
theorem A2.app {α β : Type} {r : α → β → Prop} {cs : List α} {ds : List β} (t : A2 r cs ds) : ∀ {as : List α} {bs : List β}, A2 r as bs → A2 r (as ++ cs) (bs ++ ds)
  | _, _, .nil => t
  | _, _, .cons h u => .cons h (A2.app t u)
theorem A2.one {α β : Type} {r : α → β → Prop} {a : α} {b : β} (h : r a b) : A2 r [a] [b] := .cons h .nil
theorem A2.drop {α β : Type} {r : α → β → Prop} : ∀ {as : List α} {bs : List β} (n : Nat), A2 r as bs → A2 r (as.drop n) (bs.drop n)
  | _, _, 0, h => h
  | _, _, _ + 1, .nil => .nil
  | _, _, n + 1, .cons _ t => A2.drop n t
theorem A2.take {α β : Type} {r : α → β → Prop} : ∀ {as : List α} {bs : List β} (n : Nat), A2 r as bs → A2 r (as.take n) (bs.take n)
  | _, _, 0, _ => .nil
  | _, _, _ + 1, .nil => .nil
  | _, _, n + 1, .cons h t => .cons h (A2.take n t)
theorem A2.rev {α β : Type} {r : α → β → Prop} : ∀ {as : List α} {bs : List β}, A2 r as bs → A2 r as.reverse bs.reverse
  | _, _, .nil => .nil
  | _, _, .cons h t => by
    rw [List.reverse_cons, List.reverse_cons]
    exact A2.app (.one h) (A2.rev t)
theorem A2.set {α β : Type} {r : α → β → Prop} {a : α} {b : β} (h : r a b) : ∀ {as : List α} {bs : List β} (i : Nat), A2 r as bs → A2 r (as.set i a) (bs.set i b)
  | _, _, _, .nil => .nil
  | _, _, 0, .cons _ t => .cons h t
  | _, _, i + 1, .cons q t => .cons q (A2.set h i t)
theorem A2.map_eq {α β : Type} {f : β → α} : ∀ {as : List α} {bs : List β}, A2 (fun a b => a = f b) as bs → as = bs.map f
  | _, _, .nil => rfl
  | _, _, .cons h t => by rw [List.map_cons, ← A2.map_eq t, h]
theorem A2.of_map {α β : Type} {f : β → α} : ∀ (bs : List β), A2 (fun a b => a = f b) (bs.map f) bs
  | [] => .nil
  | _ :: r => .cons rfl (A2.of_map r)
def SqD (K : PySem.W.Frag) (H : Hp) (a : Addr) (xs : List V) : Prop :=
  (∃ o, H a = some (.frz o (.tup xs)) ∧ o.dict = none) ∨
    ∃ (o : Obj) (its : Array Value) (n : Nat), K.lookup a = some o ∧ o.dict = none ∧ o.cls = .type "tuple" ∧ o.data = .seq its n ∧ its.size ≤ sizeLine ∧ Vals xs its.toList
theorem SqD.t {K : PySem.W.Frag} {H : Hp} {a : Addr} {xs : List V} (h : SqD K H a xs) : SqT K H a xs := by
  rcases h with ⟨o, h, _⟩ | ⟨o, its, n, h1, _, h2, h3⟩
  · exact .inl (.inr ⟨o, h⟩)
  · exact .inr ⟨o, its, n, h1, h2, h3⟩
instance {K : PySem.W.Frag} {H : Hp} {a : Addr} {xs : List V} : Coe (SqD K H a xs) (SqT K H a xs) := ⟨SqD.t⟩
theorem SqD.of {K : PySem.W.Frag} {H : Hp} {a : Addr} {o : Obj} {xs : List V} (h : H a = some (.frz o (.tup xs))) (hd : o.dict = none) : SqD K H a xs := .inl ⟨o, h, hd⟩
def isTup : HO → Prop
  | .tup _ => True
  | .frz _ _ => True
  | _ => False
def isT : HO → Prop
  | .tup _ => True
  | .frz _ (.tup _) => True
  | _ => False
theorem isT.up : ∀ {o : HO}, isT o → isTup o
  | .tup _, _ => trivial
  | .frz _ _, _ => trivial
structure ExT (K : PySem.W.Frag) (H H' : Hp) : Prop where
  t : ∀ a xs, SqT K H a xs → SqT K H' a xs
  d : ∀ a xs, SqD K H a xs → SqD K H' a xs
instance {K : PySem.W.Frag} {H H' : Hp} : CoeFun (ExT K H H') (fun _ => ∀ a xs, SqT K H a xs → SqT K H' a xs) := ⟨ExT.t⟩
theorem ExT.refl {K : PySem.W.Frag} (H : Hp) : ExT K H H := ⟨fun _ _ h => h, fun _ _ h => h⟩
theorem ExT.trans {K : PySem.W.Frag} {H H1 H2 : Hp} (a : ExT K H H1) (b : ExT K H1 H2) : ExT K H H2 := ⟨fun x o h => b.t x o (a.t x o h), fun x o h => b.d x o (a.d x o h)⟩
theorem ExT.mk' {K : PySem.W.Frag} {H H' : Hp} (f : ∀ a o, isT o → H a = some o → H' a = some o) : ExT K H H' := by
  refine ⟨fun a xs h => ?_, fun a xs h => ?_⟩
  · rcases h with (h | ⟨o, h⟩) | h
    · exact .inl (.inl (f _ _ trivial h))
    · exact .inl (.inr ⟨o, f _ _ trivial h⟩)
    · exact .inr h
  · rcases h with ⟨o, h, hd⟩ | h
    · exact .inl ⟨o, f _ _ trivial h, hd⟩
    · exact .inr h
theorem ext_same {K : PySem.W.Frag} {H H' : Hp} (e : Same H H') : ExT K H H' := .mk' fun _ _ _ h => e _ _ h
theorem ext_upd {K : PySem.W.Frag} {H : Hp} {p : Addr} {o u : HO} (h : H p = some o) (n : ¬ isTup o) : ExT K H (upd H p u) := .mk' fun a w t e => by
  have hne : a ≠ p := fun z => by
    subst z
    rw [h] at e
    cases e
    exact n t.up
  rw [upd_ne hne]
  exact e
abbrev Rp (β : Type) := Hp → V → β → Prop
class Mono {β : Type} (r : Rp β) : Prop where
  up : ∀ {H H' : Hp} {v : V} {b : β}, Same H H' → r H v b → r H' v b
class Frz (K : PySem.W.Frag) {β : Type} (r : Rp β) : Prop where
  up : ∀ {H H' : Hp} {v : V} {b : β}, ExT K H H' → r H v b → r H' v b
theorem Frz.mono {K : PySem.W.Frag} {β : Type} {r : Rp β} [F : Frz K r] {H H' : Hp} {v : V} {b : β} (e : Same H H') (h : r H v b) : r H' v b := F.up (ext_same e) h
def rI : Rp Int := fun _ v n => v = .int n
def rB : Rp Bool := fun _ v n => v = .bl n
def okS (s : Str) : Prop := s.length ≤ 100000 ∧ s.cps.all (fun c => decide (c < 0x110000)) = true
instance (s : Str) : Decidable (okS s) := by unfold okS; infer_instance
theorem okS_chr {s : Str} {c : Nat} (h : okS s) (hc : c ∈ s.cps.toList) : okS ⟨#[c]⟩ := by
  refine ⟨by show 1 ≤ 100000; decide, ?_⟩
  have := h.2
  rw [← Array.all_toList, List.all_eq_true] at this
  show (#[c].all fun c => decide (c < 0x110000)) = true
  rw [← Array.all_toList]
  simpa using this c hc
theorem okS_app {s t : Str} (h : okS s) (h' : okS t) (hz : s.length + t.length ≤ 100000) : okS (s ++ t) := by
  refine ⟨?_, ?_⟩
  · show (s.cps ++ t.cps).size ≤ 100000
    rw [Array.size_append]
    exact hz
  · show (s.cps ++ t.cps).all (fun c => decide (c < 0x110000)) = true
    rw [Array.all_append, h.2, h'.2]
    rfl
def rS : Rp Str := fun _ v n => v = .str n ∧ okS n
def rN : Rp Unit := fun _ v _ => v = .non
def rV : Rp V := fun _ v w => v = w
def rO {β : Type} (r : Rp β) : Rp (Option β) := fun H v o => match o with
  | .none => v = .non
  | .some b => r H v b
def rT (K : PySem.W.Frag) {β : Type} (r : Rp β) : Rp (List β) := fun H v xs => ∃ a vs, v = .ref a ∧ SqD K H a vs ∧ A2 (r H) vs xs
def rY (K : PySem.W.Frag) {β : Type} (r : Rp β) : Rp (List β) := fun H v xs => ∃ a vs, v = .ref a ∧ SqT K H a vs ∧ A2 (r H) vs xs
def rP (K : PySem.W.Frag) {α β : Type} (r : Rp α) (q : Rp β) : Rp (α × β) := fun H v p => ∃ a x y, v = .ref a ∧ SqT K H a [x, y] ∧ r H x p.1 ∧ q H y p.2
def rL {β : Type} (r : Rp β) : Rp (List β) := fun H v xs => ∃ a vs, v = .ref a ∧ H a = some (.lst vs) ∧ A2 (r H) vs xs
section
variable {K : PySem.W.Frag} {α β : Type}
instance : Mono rI := ⟨fun _ h => h⟩
instance : Mono rB := ⟨fun _ h => h⟩
instance : Mono rS := ⟨fun _ h => h⟩
instance : Mono rN := ⟨fun _ h => h⟩
instance : Mono rV := ⟨fun _ h => h⟩
instance : Frz K rI := ⟨fun _ h => h⟩
instance : Frz K rB := ⟨fun _ h => h⟩
instance : Frz K rS := ⟨fun _ h => h⟩
instance : Frz K rN := ⟨fun _ h => h⟩
instance : Frz K rV := ⟨fun _ h => h⟩
instance {r : Rp β} [M : Mono r] : Mono (rO r) := ⟨fun {_ _ _ b} e h => match b, h with
  | .none, h => h
  | .some _, h => M.up (v := _) e h⟩
instance {r : Rp β} [M : Frz K r] : Frz K (rO r) := ⟨fun {_ _ _ b} e h => match b, h with
  | .none, h => h
  | .some _, h => M.up (v := _) e h⟩
instance {r : Rp β} [M : Mono r] : Mono (rT K r) := ⟨fun e ⟨a, vs, ev, h, q⟩ => ⟨a, vs, ev, (ext_same e).d _ _ h, q.imp fun _ _ z => M.up e z⟩⟩
instance {r : Rp β} [M : Mono r] : Mono (rY K r) := ⟨fun e ⟨a, vs, ev, h, q⟩ => ⟨a, vs, ev, ext_same e _ _ h, q.imp fun _ _ z => M.up e z⟩⟩
instance {r : Rp β} [M : Frz K r] : Frz K (rT K r) := ⟨fun e ⟨a, vs, ev, h, q⟩ => ⟨a, vs, ev, e.d _ _ h, q.imp fun _ _ z => M.up e z⟩⟩
instance {r : Rp β} [M : Frz K r] : Frz K (rY K r) := ⟨fun e ⟨a, vs, ev, h, q⟩ => ⟨a, vs, ev, e _ _ h, q.imp fun _ _ z => M.up e z⟩⟩
instance {r : Rp α} {q : Rp β} [M : Mono r] [N : Mono q] : Mono (rP K r q) := ⟨fun e ⟨a, x, y, ev, h, h1, h2⟩ => ⟨a, x, y, ev, ext_same e _ _ h, M.up e h1, N.up e h2⟩⟩
instance {r : Rp α} {q : Rp β} [M : Frz K r] [N : Frz K q] : Frz K (rP K r q) := ⟨fun e ⟨a, x, y, ev, h, h1, h2⟩ => ⟨a, x, y, ev, e _ _ h, M.up e h1, N.up e h2⟩⟩
instance {r : Rp β} [M : Mono r] : Mono (rL r) := ⟨fun e ⟨a, vs, ev, h, q⟩ => ⟨a, vs, ev, e _ _ h, q.imp fun _ _ z => M.up e z⟩⟩
end
structure Rs (K : PySem.W.Frag) (β : Type) where
  rep : Hp → V → β → List Addr → Prop
  stay : ∀ {H H' : Hp} {v : V} {b : β} {as : List Addr}, rep H v b as → ExT K H H' → (∀ p, p ∈ as → ∀ o, H p = some o → H' p = some o) → rep H' v b as
  there : ∀ {H : Hp} {v : V} {b : β} {as : List Addr}, rep H v b as → ∀ p, p ∈ as → ∃ o, H p = some o ∧ ¬ isTup o
def Stb (K : PySem.W.Frag) {β : Type} (r : Rp β) : Rp β := fun H v b => ∀ H', ExT K H H' → r H' v b
theorem Stb.up {K : PySem.W.Frag} {β : Type} {r : Rp β} {H H' : Hp} {v : V} {b : β} (x : ExT K H H') (h : Stb K r H v b) : Stb K r H' v b := fun H2 y => h H2 (x.trans y)
theorem Stb.now {K : PySem.W.Frag} {β : Type} {r : Rp β} {H : Hp} {v : V} {b : β} (h : Stb K r H v b) : r H v b := h H (ExT.refl H)
theorem stb {K : PySem.W.Frag} {β : Type} {r : Rp β} [F : Frz K r] {H : Hp} {v : V} {b : β} (h : r H v b) : Stb K r H v b := fun _ x => F.up x h
theorem stbs {K : PySem.W.Frag} {β : Type} {r : Rp β} [F : Frz K r] {H : Hp} {vs : List V} {bs : List β} (h : A2 (r H) vs bs) : A2 (Stb K r H) vs bs := h.imp fun _ _ z => stb z
theorem nows {K : PySem.W.Frag} {β : Type} {r : Rp β} {H : Hp} {vs : List V} {bs : List β} (h : A2 (Stb K r H) vs bs) : A2 (r H) vs bs := h.imp fun _ _ z => z.now
def fz (K : PySem.W.Frag) {β : Type} (r : Rp β) : Rs K β where
  rep := fun H v b as => as = [] ∧ Stb K r H v b
  stay := fun ⟨e, h⟩ x _ => ⟨e, h.up x⟩
  there := fun ⟨e, _⟩ p hp => by rw [e] at hp; cases hp
def nl (K : PySem.W.Frag) {β : Type} (r : Rp β) : Rs K (List β) where
  rep := fun H v xs as => ∃ p vs, as = [p] ∧ v = .ref p ∧ H p = some (.lst vs) ∧ A2 (Stb K r H) vs xs
  stay := fun ⟨p, vs, e, ev, h, q⟩ x k => ⟨p, vs, e, ev, k p (by rw [e]; exact List.mem_singleton.mpr rfl) _ h, q.imp fun _ _ z => z.up x⟩
  there := fun ⟨p, vs, e, _, h, _⟩ b hb => by
    rw [e] at hb
    cases List.mem_singleton.mp hb
    exact ⟨_, h, fun z => z⟩
def nd (K : PySem.W.Frag) {β : Type} (r : Rp β) : Rs K (List (Str × β)) where
  rep := fun H v xs as => ∃ p kvs, as = [p] ∧ v = .ref p ∧ H p = some (.dK kvs) ∧ A2 (fun (x : Key × V) (y : Str × β) => (x.1 = Sum.inr y.1 ∧ okS y.1) ∧ Stb K r H x.2 y.2) kvs xs
  stay := fun ⟨p, vs, e, ev, h, q⟩ x k => ⟨p, vs, e, ev, k p (by rw [e]; exact List.mem_singleton.mpr rfl) _ h, q.imp fun _ _ z => ⟨z.1, z.2.up x⟩⟩
  there := fun ⟨p, vs, e, _, h, _⟩ b hb => by
    rw [e] at hb
    cases List.mem_singleton.mp hb
    exact ⟨_, h, fun z => z⟩
inductive Cell (K : PySem.W.Frag) : Type 1
  | ow {β : Type} (R : Rs K β) (b : β)
  | ro {β : Type} (r : Rp β) (m : Mono r) (b : β)
def Cell.ok {K : PySem.W.Frag} (H0 H : Hp) (v : V) (as : List Addr) : Cell K → Prop
  | .ow R b => R.rep H v b as
  | .ro r _ b => as = [] ∧ r H0 v b
abbrev fc {K : PySem.W.Frag} {β : Type} (r : Rp β) (b : β) : Option (Cell K) := some (.ow (fz K r) b)
abbrev rc {K : PySem.W.Frag} {β : Type} (r : Rp β) [m : Mono r] (b : β) : Option (Cell K) := some (.ro r m b)
abbrev Cells (K : PySem.W.Frag) := List (Option (Cell K))
structure Env {K : PySem.W.Frag} (H0 : Hp) (σ : L2.St) (H : Hp) (G : Cells K) : Prop where
  old : Same H0 H
  len : σ.length = G.length
  at_ : ∃ own : Nat → List Addr, (∀ i p, p ∈ own i → H0 p = none ∧ ∃ o, H p = some o ∧ ¬ isTup o) ∧ (∀ i j p, p ∈ own i → p ∈ own j → i = j) ∧
    ∀ (i : Nat) (c : Cell K), G[i]? = some (some c) → ∃ v, σ[i]? = some (some v) ∧ c.ok H0 H v (own i)
section
variable {K : PySem.W.Frag} {H0 H H' : Hp} {σ : L2.St} {G G' : Cells K} {α β γ : Type}
theorem cell_stay {c : Cell K} {v : V} {as : List Addr} (h : c.ok H0 H v as) (x : ExT K H H') (k : ∀ p, p ∈ as → ∀ o, H p = some o → H' p = some o) : c.ok H0 H' v as := by
  cases c with
  | ow R b => exact R.stay h x k
  | ro r m b => exact h
theorem Env.grow (E : Env H0 σ H G) (e : Same H H') : Env H0 σ H' G := by
  obtain ⟨own, h1, h2, h3⟩ := E.at_
  refine ⟨E.old.trans e, E.len, own, fun i p hp => ⟨(h1 i p hp).1, ?_⟩, h2, fun i c hc => ?_⟩
  · obtain ⟨o, ho, nt⟩ := (h1 i p hp).2
    exact ⟨o, e _ _ ho, nt⟩
  · obtain ⟨v, hv, hk⟩ := h3 i c hc
    exact ⟨v, hv, cell_stay hk (ext_same e) fun p _ o ho => e _ _ ho⟩
inductive Sub : Cells K → Cells K → Prop
  | nil : Sub [] []
  | keep {c : Option (Cell K)} {G G' : Cells K} : Sub G G' → Sub (c :: G) (c :: G')
  | drop {c : Option (Cell K)} {G G' : Cells K} : Sub G G' → Sub (c :: G) (none :: G')
theorem Sub.get : ∀ {G G' : Cells K} {i : Nat} {c : Cell K}, Sub G G' → G'[i]? = some (some c) → G[i]? = some (some c)
  | _, _, _, _, .nil, h => by simp at h
  | _, _, 0, _, .keep _, h => h
  | _, _, i + 1, c, .keep s, h => by
    have := Sub.get (i := i) (c := c) s (by simpa using h)
    simpa using this
  | _, _, 0, _, .drop _, h => by simp at h
  | _, _, i + 1, c, .drop s, h => by
    have := Sub.get (i := i) (c := c) s (by simpa using h)
    simpa using this
theorem Sub.len : ∀ {G G' : Cells K}, Sub G G' → G.length = G'.length
  | _, _, .nil => rfl
  | _, _, .keep s => by rw [List.length_cons, List.length_cons, Sub.len s]
  | _, _, .drop s => by rw [List.length_cons, List.length_cons, Sub.len s]
theorem Sub.refl : ∀ G : Cells K, Sub G G
  | [] => .nil
  | _ :: G => .keep (Sub.refl G)
theorem Env.less (E : Env H0 σ H G) (s : Sub G G') : Env H0 σ H G' := by
  obtain ⟨own, h1, h2, h3⟩ := E.at_
  exact ⟨E.old, E.len.trans s.len, own, h1, h2, fun i c hc => h3 i c (s.get hc)⟩
theorem Env.put {i : Nat} {v : V} {R : Rs K β} {b : β} {as : List Addr} (E : Env H0 σ H G) (e : Same H H') (hn : ∀ p, p ∈ as → H p = none) (h : R.rep H' v b as) : Env H0 (σ.set i (some v)) H' (G.set i (some (.ow R b))) := by
  have E' := E.grow e
  obtain ⟨own, h1, h2, h3⟩ := E.at_
  have hf : ∀ j p, p ∈ own j → H p ≠ none := fun j p hp z => by
    obtain ⟨o, ho, _⟩ := (h1 j p hp).2
    rw [z] at ho
    cases ho
  refine ⟨E'.old, by rw [List.length_set, List.length_set]; exact E.len, fun j => if j = i then as else own j, fun j p hp => ?_, fun j k p hj hk => ?_, fun j c hc => ?_⟩
  · by_cases hji : j = i
    · simp only [hji, if_true] at hp
      refine ⟨?_, R.there h p hp⟩
      cases q : H0 p with
      | none => rfl
      | some o =>
        have := E.old p o q
        rw [hn p hp] at this
        cases this
    · simp only [hji, if_false] at hp
      obtain ⟨o, ho, nt⟩ := (h1 j p hp).2
      exact ⟨(h1 j p hp).1, o, e _ _ ho, nt⟩
  · by_cases hji : j = i <;> by_cases hki : k = i
    · rw [hji, hki]
    · simp only [hji, hki, if_true, if_false] at hj hk
      exact absurd (hn p hj) (hf k p hk)
    · simp only [hji, hki, if_true, if_false] at hj hk
      exact absurd (hn p hk) (hf j p hj)
    · simp only [hji, hki, if_false] at hj hk
      exact h2 j k p hj hk
  · by_cases hji : j = i
    · subst hji
      have hl : j < σ.length := by
        have := (List.getElem?_eq_some_iff.mp hc).1
        rw [List.length_set] at this
        rw [E.len]
        exact this
      rw [List.getElem?_set_self (by rw [← E.len]; exact hl)] at hc
      cases hc
      refine ⟨v, List.getElem?_set_self hl, ?_⟩
      simp only [if_true]
      exact h
    · rw [List.getElem?_set_ne (Ne.symm hji)] at hc
      obtain ⟨w, hw, hk⟩ := h3 j c hc
      refine ⟨w, by rw [List.getElem?_set_ne (Ne.symm hji)]; exact hw, ?_⟩
      simp only [hji, if_false]
      exact cell_stay hk (ext_same e) fun p _ o ho => e _ _ ho
theorem Env.mut {i : Nat} {R : Rs K β} {R' : Rs K γ} {b : β} {b' : γ} {v : V} {as : List Addr} (E : Env H0 σ H G) (hi : G[i]? = some (some (.ow R b))) (hv : σ[i]? = some (some v))
    (x : ExT K H H') (k : ∀ p o, p ∉ as → H p = some o → H' p = some o) (th : ∀ w bs, σ[i]? = some (some w) → R.rep H w b bs → bs = as) (h : R'.rep H' v b' as) : Env H0 σ H' (G.set i (some (.ow R' b'))) := by
  obtain ⟨own, h1, h2, h3⟩ := E.at_
  obtain ⟨w, hw, hk⟩ := h3 i _ hi
  have eas : own i = as := th w _ hw hk
  have nas : ∀ j p, j ≠ i → p ∈ own j → p ∉ as := fun j p hj hp z => hj (h2 j i p hp (by rw [eas]; exact z))
  refine ⟨fun p o ho => k p o (fun z => ?_) (E.old p o ho), by rw [List.length_set]; exact E.len, own, fun j p hp => ⟨(h1 j p hp).1, ?_⟩, h2, fun j c hc => ?_⟩
  · have := (h1 i p (by rw [eas]; exact z)).1
    rw [this] at ho
    cases ho
  · by_cases hj : j = i
    · rw [hj, eas] at hp
      exact R'.there h p hp
    · obtain ⟨o, ho, nt⟩ := (h1 j p hp).2
      exact ⟨o, k p o (nas j p hj hp) ho, nt⟩
  · by_cases hj : j = i
    · subst hj
      have hl : j < G.length := (List.getElem?_eq_some_iff.mp hi).1
      rw [List.getElem?_set_self hl] at hc
      cases hc
      exact ⟨v, hv, by rw [eas]; exact h⟩
    · rw [List.getElem?_set_ne (Ne.symm hj)] at hc
      obtain ⟨u, hu, hk'⟩ := h3 j c hc
      exact ⟨u, hu, cell_stay hk' x fun p hp o ho => k p o (nas j p hj hp) ho⟩
def Ev (r : Rp β) (te : TE) (G : Cells K) (b : β) : Prop := ∀ H0 σ H, Env H0 σ H G → ∀ Q : VK, (∀ v H', Same H H' → r H' v b → Q v H') → te σ H Q
def Nw (R : Rs K β) (te : TE) (G : Cells K) (b : β) : Prop := ∀ H0 σ H, Env H0 σ H G → ∀ Q : VK, (∀ v H' as, Same H H' → (∀ p, p ∈ as → H p = none) → R.rep H' v b as → Q v H') → te σ H Q
def EvT (tt : TT) (G : Cells K) (b : Bool) : Prop := ∀ H0 σ H, Env H0 σ H G → ∀ Q : Bool → Hp → Prop, (∀ H', Same H H' → Q b H') → tt σ H Q
abbrev Ra (α : Type) := Hp → List V → α → Prop
class MonoA {α : Type} (A : Ra α) : Prop where
  up : ∀ {H H' : Hp} {vs : List V} {a : α}, Same H H' → A H vs a → A H' vs a
def aN : Ra Unit := fun _ vs _ => vs = []
def aC {α β : Type} (r : Rp α) (A : Ra β) : Ra (α × β) := fun H vs p => ∃ v ws, vs = v :: ws ∧ r H v p.1 ∧ A H ws p.2
instance : MonoA aN := ⟨fun _ h => h⟩
instance {α β : Type} {r : Rp α} {A : Ra β} [M : Mono r] [N : MonoA A] : MonoA (aC r A) := ⟨fun e ⟨v, ws, ev, h1, h2⟩ => ⟨v, ws, ev, M.up e h1, N.up e h2⟩⟩
def EvA (A : Ra α) (ta : TA) (G : Cells K) (a : α) : Prop := ∀ H0 σ H, Env H0 σ H G → ∀ Q : List V → Hp → Prop, (∀ vs H', Same H H' → A H' vs a → Q vs H') → ta σ H Q
def spF (A : Ra α) (pre : α → Prop) (r : Rp β) (f : α → β) : Sp := fun vs H Q _ => ∃ a, A H vs a ∧ pre a ∧ ∀ v H', Same H H' → r H' v (f a) → Q v H'
def spN (A : Ra α) (pre : α → Prop) (R : Rs K β) (f : α → β) : Sp := fun vs H Q _ => ∃ a, A H vs a ∧ pre a ∧ ∀ v H' as, Same H H' → (∀ p, p ∈ as → H p = none) → R.rep H' v (f a) as → Q v H'
variable {r : Rp α} {q : Rp β} {R : Rs K α} {te ta tb tc : TE} {a x : α} {b y : β}
theorem Ev.nw [F : Frz K r] (h : Ev r te G a) : Nw (fz K r) te G a := fun H0 σ H E Q k => h H0 σ H E Q fun v H' e z => k v H' [] e (fun _ hp => nomatch hp) ⟨rfl, stb z⟩
theorem Nw.fz (h : Nw (fz K r) te G a) : Ev r te G a := fun H0 σ H E Q k => h H0 σ H E Q fun v H' _ e _ z => k v H' e z.2.now
theorem Nw.lst {r : Rp α} {xs : List α} (h : Nw (nl K r) te G xs) : Ev (rL r) te G xs := fun H0 σ H E Q k => h H0 σ H E Q fun v H' _ e _ ⟨p, vs, _, ev, hp, z⟩ => k v H' e ⟨p, vs, ev, hp, nows z⟩
theorem Ev.imp {q : Rp α} (h : Ev r te G a) (f : ∀ H v, r H v a → q H v a) : Ev q te G a := fun H0 σ H E Q k => h H0 σ H E Q fun v H' e z => k v H' e (f _ _ z)
theorem Ev.eq (h : Ev r te G a) (e : a = x) : Ev r te G x := e ▸ h
theorem Nw.eq (h : Nw R te G a) (e : a = x) : Nw R te G x := e ▸ h
theorem EvT.eq {tt : TT} {c d : Bool} (h : EvT tt G c) (e : c = d) : EvT tt G d := e ▸ h
theorem ev_fz {i : Nat} (h : G[i]? = some (some (.ow (fz K r) a)) := by rfl) : Ev r (tVar i) G a := fun H0 σ H E Q k => by
  obtain ⟨own, _, _, h3⟩ := E.at_
  obtain ⟨v, hv, hk⟩ := h3 i _ h
  exact ⟨v, hv, k v H (Same.refl H) hk.2.now⟩
theorem ev_lst {i : Nat} {r : Rp α} {xs : List α} (h : G[i]? = some (some (.ow (nl K r) xs)) := by rfl) : Ev (rL r) (tVar i) G xs := fun H0 σ H E Q k => by
  obtain ⟨own, _, _, h3⟩ := E.at_
  obtain ⟨v, hv, p, vs, _, ev, hp, z⟩ := h3 i _ h
  exact ⟨v, hv, k v H (Same.refl H) ⟨p, vs, ev, hp, nows z⟩⟩
theorem ev_ro {i : Nat} {M : Mono r} (h : G[i]? = some (some (.ro r M a)) := by rfl) : Ev r (tVar i) G a := fun H0 σ H E Q k => by
  obtain ⟨own, _, _, h3⟩ := E.at_
  obtain ⟨v, hv, hk⟩ := h3 i _ h
  exact ⟨v, hv, k v H (Same.refl H) (M.up E.old hk.2)⟩
theorem ev_c {v : V} (h : ∀ H, r H v a) : Ev r (tC v) G a := fun _ _ H _ _ k => k v H (Same.refl H) (h H)
theorem ev_int {n : Int} : Ev rI (tC (.int n)) G n := ev_c fun _ => rfl
theorem ev_str {n : Str} (h : okS n) : Ev rS (tC (.str n)) G n := ev_c fun _ => ⟨rfl, h⟩
theorem ev_bl {n : Bool} : Ev rB (tC (.bl n)) G n := ev_c fun _ => rfl
theorem ev_non : Ev (rO r) (tC .non) G Option.none := ev_c fun _ => rfl
theorem Ev.some (h : Ev r te G a) : Ev (rO r) te G (Option.some a) := fun H0 σ H E Q k => h H0 σ H E Q fun v H' e z => k v H' e z
def OpE (o : R2) (r : Rp α) (q : Rp β) (z : Rp γ) (x : α) (y : β) (c : γ) : Prop := ∀ H u v, r H u x → q H v y → ∀ Q : VK, (∀ w H', Same H H' → z H' w c → Q w H') → o u v H Q
def OpN (o : R2) (r : Rp α) (q : Rp β) (Z : Rs K γ) (x : α) (y : β) (c : γ) : Prop := ∀ H u v, r H u x → q H v y → ∀ Q : VK, (∀ w H' as, Same H H' → (∀ p, p ∈ as → H p = none) → Z.rep H' w c as → Q w H') → o u v H Q
theorem ev_op {o : R2} {z : Rp γ} {c : γ} [M : Mono r] (ha : Ev r ta G x) (hb : Ev q tb G y) (ho : OpE o r q z x y c) : Ev z (tOp o ta tb) G c := fun H0 σ H E Q k =>
  ha H0 σ H E _ fun u H1 e1 h1 => hb H0 σ H1 (E.grow e1) _ fun v H2 e2 h2 => ho H2 u v (M.up e2 h1) h2 Q fun w H3 e3 h3 => k w H3 ((e1.trans e2).trans e3) h3
theorem free_back {p : Addr} (e : Same H H') (h : H' p = none) : H p = none := e.free h
theorem nw_op {o : R2} {Z : Rs K γ} {c : γ} [M : Mono r] (ha : Ev r ta G x) (hb : Ev q tb G y) (ho : OpN o r q Z x y c) : Nw Z (tOp o ta tb) G c := fun H0 σ H E Q k =>
  ha H0 σ H E _ fun u H1 e1 h1 => hb H0 σ H1 (E.grow e1) _ fun v H2 e2 h2 => ho H2 u v (M.up e2 h1) h2 Q fun w H3 as e3 hn h3 => k w H3 as ((e1.trans e2).trans e3) (fun p hp => free_back (e1.trans e2) (hn p hp)) h3
theorem op_I0 {g : Int → Int → V} {z : Rp γ} {c : γ} {i j : Int} (h : ∀ H, z H (g i j) c) : OpE (rI0 g) rI rI z i j c := fun H u v hu hv Q k => by
  cases hu; cases hv
  exact ⟨i, j, rfl, rfl, k _ H (Same.refl H) (h H)⟩
theorem op_I {C : Int → Int → Prop} {g : Int → Int → V} {z : Rp γ} {c : γ} {i j : Int} (hc : C i j) (h : ∀ H, z H (g i j) c) : OpE (L2.rI C g) rI rI z i j c := fun H u v hu hv Q k => by
  cases hu; cases hv
  exact ⟨i, j, rfl, rfl, hc, k _ H (Same.refl H) (h H)⟩
end
end
section
structure Cal (P : Program) (w : World) (K : PySem.W.Frag) (mg : Str → Option Value) (base : Heap) (CX : CXT) (x : Str) (k : Nat) (ps : List Str) (sp : Sp) : Prop where
  ex : ∃ (f : Addr) (fd : FuncData), FnOk P w K mg base CX k f fd ps sp ∧ mg x = some (.ref f) ∧ PySem.W.keepIn K (.ref f) = true ∧ Binds K fd ps []
structure Df (K : PySem.W.Frag) (mg : Str → Option Value) (x : Str) (st : Stmt) : Prop where
  ex : ∃ (f : Addr) (fd : FuncData), Fun K x x st f fd ∧ mg x = some (.ref f)
theorem pe_fn {X : Cx} {x : Str} {k : Nat} {ps : List Str} {sp : Sp} {p pos : Pos} {e : Expr} {es : List Expr} {t : TA} (C : Cal X.prog X.w X.K X.mg X.base CX0 x k ps sp) (hr : Room k X.A) (ha : PA X (e :: es) t) (hg : Gl X x := by rfl)
    (hdb : (x == Str.ofString "__debug__") = false := by decide) (he : starEach (e :: es) X.env = (false, eval e X.env) :: starEach es X.env := by rfl) (hpl : (backTo pos (starEach es X.env)).any (·.1) = false := by rfl) :
    PE X (.Call (.Name x p) (e :: es) [] pos) (tCall sp [] E0 t) := by
  obtain ⟨f, fd, F, m, kp, b⟩ := C.ex
  exact pe_call F hr hg m kp b .nil pass0 ha hdb he hpl
class LenA {α : Type} (A : Ra α) (n : outParam Nat) : Prop where
  len : ∀ {H : Hp} {vs : List V} {a : α}, A H vs a → vs.length = n
instance : LenA aN 0 := ⟨fun h => by rw [show _ = [] from h]; rfl⟩
instance {α β : Type} {r : Rp α} {A : Ra β} {n : Nat} [L : LenA A n] : LenA (aC r A) (n + 1) := ⟨fun ⟨_, ws, e, _, h⟩ => by rw [e, List.length_cons, L.len h]⟩
variable {P : Program} {w : World} {K : PySem.W.Frag} {mg : Str → Option Value} {base : Heap}
theorem cal_of {x : Str} {st : Stmt} {N ps : List Str} {k : Nat} {sp : Sp} (F : Df K mg x st) (S : FnScope N ps (defScope st)) (len : ∀ vs H Q E, sp vs H Q E → vs.length = ps.length)
    (hb : ∀ (kV doc pm : Value) (an : Option Addr) (cdv ct : Value) (us : List Value), us.length = ps.length → bindArgs (PySem.W.fnOf x x (defArgs st) (defBody st) (defScope st) .none kV doc pm an cdv ct) ⟨us, []⟩ = pure (ps.zip us))
    (hbody : ∀ (cdv : Value) (f : Addr) (A : Around) (outer : List PySem.Env) (s : Shared) (H : Hp) (vs : List V) (Q : VK) (E : XK), Room k (A.deeper (envOfC x (defScope st) s.heap.objs.size f cdv)) → sp vs H Q E →
      ∃ t, PSs (cxOf CX0 P w K mg base N x (defScope st) f cdv A outer s H E).nox (defBody st) t ∧ t { nx := fun _ H' => Q .non H', rt := Q } (start N vs) H) : Cal P w K mg base CX0 x (k + 1) ps sp := by
  obtain ⟨f, fd, F, g⟩ := F.ex
  exact ⟨f, fd, F.ok S len (fun cdv A outer s H vs Q E hr h => hbody cdv f A outer s H vs Q E hr h), g, F.kp, F.binds hb⟩
section
variable {H0 H H' : Hp} {σ : L2.St} {G G' G'' : Cells K} {α β γ S : Type}
def Have (H0 : Hp) (G : Cells K) (σ : L2.St) (H : Hp) : Prop := ∃ H1, Same H0 H1 ∧ Env H1 σ H G
def Sv (H0 : Hp) (G : Cells K) (t : TS) (D : Ends) : Prop := ∀ σ H, Have H0 G σ H → t D σ H
def Nx (H0 : Hp) (G : Cells K) (P : L2.St → Hp → Prop) : Prop := ∀ σ H, Have H0 G σ H → P σ H
inductive Pw (H0 : Hp) : L2.St → Cells K → Prop
  | nil : Pw H0 [] []
  | skip {o : Option V} {σ : L2.St} {G : Cells K} : Pw H0 σ G → Pw H0 (o :: σ) (none :: G)
  | fz {β : Type} {r : Rp β} [Frz K r] {b : β} {v : V} {σ : L2.St} {G : Cells K} : r H0 v b → Pw H0 σ G → Pw H0 (some v :: σ) (fc r b :: G)
  | ro {β : Type} {r : Rp β} [Mono r] {b : β} {v : V} {σ : L2.St} {G : Cells K} : r H0 v b → Pw H0 σ G → Pw H0 (some v :: σ) (rc r b :: G)
theorem Pw.len (h : Pw H0 σ G) : σ.length = G.length := by
  induction h with
  | nil => rfl
  | skip _ ih => rw [List.length_cons, List.length_cons, ih]
  | fz _ _ ih => rw [List.length_cons, List.length_cons, ih]
  | ro _ _ ih => rw [List.length_cons, List.length_cons, ih]
theorem Pw.get (h : Pw H0 σ G) : ∀ {i : Nat} {c : Cell K}, G[i]? = some (some c) → ∃ v, σ[i]? = some (some v) ∧ c.ok H0 H0 v [] := by
  induction h with
  | nil => intro i c e; simp at e
  | skip _ ih =>
    intro i c e
    cases i with
    | zero => simp at e
    | succ i => simpa using ih (i := i) (c := c) (by simpa using e)
  | fz h _ ih =>
    intro i c e
    cases i with
    | zero =>
      simp at e
      subst e
      exact ⟨_, rfl, rfl, stb h⟩
    | succ i => simpa using ih (i := i) (c := c) (by simpa using e)
  | ro h _ ih =>
    intro i c e
    cases i with
    | zero =>
      simp at e
      subst e
      exact ⟨_, rfl, rfl, h⟩
    | succ i => simpa using ih (i := i) (c := c) (by simpa using e)
theorem Pw.env (p : Pw H0 σ G) : Env H0 σ H0 G := ⟨Same.refl H0, p.len, fun _ => [], fun _ _ h => (nomatch h), fun _ _ _ h => (nomatch h), fun i c h => p.get h⟩
theorem Sv.run {t : TS} {D : Ends} (s : Sv H0 G t D) (p : Pw H0 σ G) : t D σ H0 := s σ H0 ⟨H0, Same.refl H0, p.env⟩
variable {D : Ends} {t u tb : TS} {te ta : TE} {tt : TT} {r : Rp β} {q : Rp α} {R : Rs K β} {b : β} {a : α}
theorem Have.less (h : Have H0 G σ H) (s : Sub G G') : Have H0 G' σ H := let ⟨H1, e, E⟩ := h; ⟨H1, e, E.less s⟩
theorem Sv.less (s : Sub G G') (h : Sv H0 G' t D) : Sv H0 G t D := fun σ H g => h σ H (g.less s)
theorem q_asg {i : Nat} {b' : β} (h : Nw R te G b) (eb : b = b') (k : Sv H0 (G.set i (some (.ow R b'))) u D) : Sv H0 G (tSeq (tAsg te (gName i)) u) D := fun σ H ⟨H1, e, E⟩ =>
  h H1 σ H E _ fun v H' as e' hn z => k _ _ ⟨H1, e, E.put e' hn (eb ▸ z)⟩
theorem q_set {i : Nat} {b' : β} (h : Ev r te G b) (eb : b = b') (k : Sv H0 (G.set i (fc r b')) u D) (F : Frz K r := by infer_instance) : Sv H0 G (tSeq (tAsg te (gName i)) u) D := q_asg h.nw eb k
theorem l_asg {i : Nat} {b' : β} (h : Nw R te G b) (eb : b = b') (k : Nx H0 (G.set i (some (.ow R b'))) D.nx) : Sv H0 G (tAsg te (gName i)) D := fun σ H ⟨H1, e, E⟩ =>
  h H1 σ H E _ fun v H' as e' hn z => k _ _ ⟨H1, e, E.put e' hn (eb ▸ z)⟩
theorem l_set {i : Nat} {b' : β} (h : Ev r te G b) (eb : b = b') (k : Nx H0 (G.set i (fc r b')) D.nx) (F : Frz K r := by infer_instance) : Sv H0 G (tAsg te (gName i)) D := l_asg h.nw eb k
theorem l_ret {b' : β} (k : ∀ v H', Same H0 H' → r H' v b' → D.rt v H') (h : Ev r te G b) (eb : b = b') : Sv H0 G (tRet te) D := fun σ H ⟨H1, e, E⟩ =>
  h H1 σ H E _ fun v H' e' z => k v H' ((e.trans E.old).trans e') (eb ▸ z)
theorem l_retN {b' : β} (k : ∀ v H' as, Same H0 H' → (∀ p, p ∈ as → H0 p = none) → R.rep H' v b' as → D.rt v H') (h : Nw R te G b) (eb : b = b') : Sv H0 G (tRet te) D := fun σ H ⟨H1, e, E⟩ =>
  h H1 σ H E _ fun v H' as e' hn z => k v H' as ((e.trans E.old).trans e') (fun p hp => (e.trans E.old).free (hn p hp)) (eb ▸ z)
theorem l_retO {i : Nat} {xs' : β} (k : ∀ v H' as, Same H0 H' → (∀ p, p ∈ as → H0 p = none) → R.rep H' v xs' as → D.rt v H') (hi : G[i]? = some (some (.ow R b))) (eb : b = xs') : Sv H0 G (tRet (tVar i)) D := fun σ H ⟨H1, e, E⟩ => by
  obtain ⟨own, h1, h2, h3⟩ := E.at_
  obtain ⟨v, hv, hk⟩ := h3 i _ hi
  exact ⟨v, hv, k v H (own i) (e.trans E.old) (fun p hp => e.free (h1 i p hp).1) (eb ▸ hk)⟩
theorem l_if {c : Bool} (h : EvT tt G c) (h1 : c = true → Sv H0 G t D) (h2 : c = false → Sv H0 G u D) : Sv H0 G (tIfS tt t u) D := fun σ H ⟨H1, e, E⟩ =>
  h H1 σ H E _ fun H' e' => by
    cases c with
    | true => exact iteT (h1 rfl σ H' ⟨H1, e, E.grow e'⟩)
    | false => exact iteF (h2 rfl σ H' ⟨H1, e, E.grow e'⟩)
theorem q_if {c : Bool} {v : TS} (h : EvT tt G c) (h1 : c = true → Sv H0 G t { D with nx := v D }) (h2 : c = false → Sv H0 G u { D with nx := v D }) : Sv H0 G (tSeq (tIfS tt t u) v) D := l_if h h1 h2
theorem cutK (G2 : Cells K) {v : TS} (f : Sv H0 G2 v D → Sv H0 G (tSeq t v) D) (k : Sv H0 G2 v D) : Sv H0 G (tSeq t v) D := f k
theorem q_next (k : Sv H0 G u D) : Sv H0 G tNext { D with nx := u D } := k
theorem nx_have (s : Sub G G') : Nx H0 G (Have H0 G') := fun _ _ h => h.less s
theorem app_env {i : Nat} {r : Rp α} {xs : List α} {x : α} {H1 : Hp} {p : Addr} {vs : List V} {v : V} (E : Env H1 σ H G) (hi : G[i]? = some (some (.ow (nl K r) xs))) (hv : σ[i]? = some (some (.ref p))) (hp : H p = some (.lst vs)) (hxs : A2 (Stb K r H) vs xs) (hx : Stb K r H v x) :
    Env H1 σ (upd H p (.lst (vs ++ [v]))) (G.set i (some (.ow (nl K r) (xs ++ [x])))) := by
  have x0 : ExT K H (upd H p (.lst (vs ++ [v]))) := ext_upd hp fun z => z
  refine E.mut (as := [p]) (R := nl K r) (R' := nl K r) hi hv x0 (fun c o hc ho => ?_) (fun w bs hw ⟨p', vs', e1, e2, _, _⟩ => ?_) ⟨p, _, rfl, rfl, upd_same, A2.app (A2.one (hx.up x0)) (hxs.imp fun _ _ z => z.up x0)⟩
  · rw [upd_ne fun z => hc (by rw [z]; exact List.mem_singleton.mpr rfl)]
    exact ho
  · rw [hv] at hw
    cases hw
    cases e2
    exact e1
end
end
section
section
variable {K : PySem.W.Frag} {H0 H1 H H' : Hp} {σ : L2.St} {G G' Gx : Cells K} {α β γ S β' : Type}
def cutH (H : Hp) (X : Addr → Prop) [DecidablePred X] : Hp := fun b => if X b then none else H b
open Classical in
theorem Env.rebase (E : Env H1 σ H G) (e : Same H H') : ∃ H2, Same H1 H2 ∧ Same H2 H' ∧ ExT K H' H2 ∧ Env H2 σ H' G ∧ ∀ b o, H b = none → H' b = some o → H2 b = some o := by
  have E' := E.grow e
  obtain ⟨own, h1, h2, h3⟩ := E'.at_
  obtain ⟨own0, g1, g2, g3⟩ := E.at_
  let X : Addr → Prop := fun b => (∃ i, b ∈ own0 i)
  have hX : ∀ b, H1 b ≠ none → ¬ X b := fun b hb ⟨i, hi⟩ => hb (g1 i b hi).1
  have key : ∀ b, cutH H' X b = if X b then none else H' b := fun b => rfl
  have s12 : Same H1 (cutH H' X) := fun b o ho => by
    rw [key, if_neg (hX b (by rw [ho]; exact fun z => nomatch z))]
    exact E'.old b o ho
  have s2 : Same (cutH H' X) H' := fun b o ho => by
    rw [key] at ho
    split at ho
    · cases ho
    · exact ho
  refine ⟨cutH H' X, s12, s2, .mk' fun a o9 t9 q => ?_, ⟨s2, E'.len, own0, fun i p hp => ?_, g2, fun i c hc => ?_⟩, fun b o hn ho => ?_⟩
  · have nX : ∀ o, H' a = some o → isTup o → ¬ X a := fun o ho t ⟨i, hi⟩ => by
      obtain ⟨u, hu, nu⟩ := (g1 i a hi).2
      have := e _ _ hu
      rw [ho] at this
      cases this
      exact nu t
    exact by rw [key, if_neg (nX _ q t9.up)]; exact q
  · obtain ⟨o, ho, nt⟩ := (g1 i p hp).2
    exact ⟨by rw [key, if_pos ⟨i, hp⟩], o, e _ _ ho, nt⟩
  · obtain ⟨v, hv, hk⟩ := g3 i c hc
    refine ⟨v, hv, ?_⟩
    cases c with
    | ow R b => exact R.stay hk (ext_same e) fun p _ o ho => e _ _ ho
    | ro r m b => exact ⟨hk.1, m.up s12 hk.2⟩
  · rw [key, if_neg fun ⟨i, hi⟩ => by
      obtain ⟨u, hu, _⟩ := (g1 i b hi).2
      rw [hn] at hu
      cases hu]
    exact ho
theorem Env.freeze {i : Nat} {r : Rp α} {xs : List α} (E : Env H1 σ H G) (hi : G[i]? = some (some (.ow (nl K r) xs))) (M : Mono r) : ∃ H2, Same H1 H2 ∧ ExT K H H2 ∧ Env H2 σ H (G.set i (rc (rL r) xs)) := by
  classical
  obtain ⟨own, h1, h2, h3⟩ := E.at_
  let X : Addr → Prop := fun b => (∃ j, j ≠ i ∧ b ∈ own j)
  have hX : ∀ b, H1 b ≠ none → ¬ X b := fun b hb ⟨j, _, hj⟩ => hb (h1 j b hj).1
  have key : ∀ b, cutH H X b = if X b then none else H b := fun b => rfl
  have s12 : Same H1 (cutH H X) := fun b o ho => by
    rw [key, if_neg (hX b (by rw [ho]; exact fun z => nomatch z))]
    exact E.old b o ho
  have s2 : Same (cutH H X) H := fun b o ho => by
    rw [key] at ho
    split at ho
    · cases ho
    · exact ho
  have xt : ExT K H (cutH H X) := .mk' fun a o9 t9 q => by
    have nX : ∀ o, H a = some o → isTup o → ¬ X a := fun o ho t ⟨j, _, hj⟩ => by
      obtain ⟨u, hu, nu⟩ := (h1 j a hj).2
      rw [ho] at hu
      cases hu
      exact nu t
    exact by rw [key, if_neg (nX _ q t9.up)]; exact q
  refine ⟨cutH H X, s12, xt, s2, by rw [List.length_set]; exact E.len, fun j => if j = i then [] else own j, fun j p hp => ?_, fun j k p hj hk => ?_, fun j c hc => ?_⟩
  · by_cases hj : j = i
    · simp only [hj, if_true] at hp
      cases hp
    · simp only [hj, if_false] at hp
      exact ⟨by rw [key, if_pos ⟨j, hj, hp⟩], (h1 j p hp).2⟩
  · by_cases hji : j = i
    · simp only [hji, if_true] at hj
      cases hj
    · by_cases hki : k = i
      · simp only [hki, if_true] at hk
        cases hk
      · simp only [hji, hki, if_false] at hj hk
        exact h2 j k p hj hk
  · by_cases hj : j = i
    · subst hj
      have hl : j < G.length := (List.getElem?_eq_some_iff.mp hi).1
      rw [List.getElem?_set_self hl] at hc
      cases hc
      obtain ⟨v, hv, p, vs, e1, e2, e3, e4⟩ := h3 j _ hi
      refine ⟨v, hv, by simp, p, vs, e2, ?_, e4.imp fun _ _ z => (z.up xt).now⟩
      rw [key, if_neg fun ⟨k, hk, hp⟩ => hk (h2 k j p hp (by rw [e1]; exact List.mem_singleton.mpr rfl))]
      exact e3
    · rw [List.getElem?_set_ne (Ne.symm hj)] at hc
      obtain ⟨v, hv, hk⟩ := h3 j c hc
      refine ⟨v, hv, ?_⟩
      simp only [hj, if_false]
      cases c with
      | ow R b => exact hk
      | ro r m b => exact ⟨hk.1, m.up s12 hk.2⟩
structure Wj (J : It) (r : Rp α) (H1 : Hp) (xs : List α) : Prop where
  go : ∀ (H : Hp) (i : Nat) (x : α), Same H1 H → xs[i]? = some x → J.go i H ∧ ∀ v H', J.yld i H v H' → Same H H' ∧ r H' v x
  stop : ∀ H : Hp, Same H1 H → J.stop xs.length H
def Wk (wi : TI) (r : Rp α) (G G' : Cells K) (xs : List α) : Prop := ∀ H1 σ H, Env H1 σ H G → ∀ R : It → Hp → Prop, (∀ J H2 H', Same H1 H2 → Same H H' → Env H2 σ H' G' → Wj J r H2 xs → R J H') → wi σ H R
theorem wj_list {r : Rp α} [M : Mono r] {a : Addr} {vs : List V} {xs : List α} (h : H1 a = some (.lst vs)) (q : A2 (r H1) vs xs) : Wj (Itl K a) r H1 xs where
  go := fun H i x e hx => by
    obtain ⟨v, hv, z⟩ := q.get' hx
    refine ⟨⟨vs, v, SqL.of (e _ _ h), hv⟩, fun w H' ⟨e1, e2⟩ => ?_⟩
    subst e1
    have := e2 vs (SqL.of (e _ _ h))
    rw [hv] at this
    cases this
    exact ⟨Same.refl _, M.up e z⟩
  stop := fun H e => ⟨vs, SqL.of (e _ _ h), Nat.le_of_eq q.len⟩
theorem wj_tup {r : Rp α} [M : Mono r] {a : Addr} {vs : List V} {xs : List α} (h : SqT K H1 a vs) (q : A2 (r H1) vs xs) : Wj (Itt K a) r H1 xs where
  go := fun H i x e hx => by
    obtain ⟨v, hv, z⟩ := q.get' hx
    refine ⟨⟨vs, v, ext_same e _ _ h, hv⟩, fun w H' ⟨e1, e2⟩ => ?_⟩
    subst e1
    have := e2 vs (ext_same e _ _ h)
    rw [hv] at this
    cases this
    exact ⟨Same.refl _, M.up e z⟩
  stop := fun H e => ⟨vs, ext_same e _ _ h, Nat.le_of_eq q.len⟩
theorem wj_rng {lo : Int} {n : Nat} : Wj (Itr lo n) rI H1 ((List.range n).map fun (i : Nat) => lo + (i : Int)) where
  go := fun H i x e hx => by
    rw [List.getElem?_map] at hx
    by_cases hi : i < n
    · rw [List.getElem?_range hi] at hx
      cases hx
      exact ⟨hi, fun v H' ⟨e1, e2⟩ => by subst e1; exact ⟨Same.refl _, e2⟩⟩
    · rw [List.getElem?_eq_none (by rw [List.length_range]; omega)] at hx
      cases hx
  stop := fun H e => by
    show n ≤ _
    rw [List.length_map, List.length_range]
    exact Nat.le_refl _
theorem wj_str {z : Str} (hz : okS z) : Wj (Its z) rS H1 (z.cps.toList.map fun c => (⟨#[c]⟩ : Str)) where
  go := fun H i x e hx => by
    rw [List.getElem?_map] at hx
    cases q : z.cps.toList[i]? with
    | none => rw [q] at hx; cases hx
    | some c =>
      rw [q] at hx
      cases hx
      have q' : z.cps[i]? = some c := by simpa using q
      have hi : i < z.cps.size := (Array.getElem?_eq_some_iff.mp q').1
      refine ⟨hi, fun v H' ⟨e1, c', e2, e3⟩ => ?_⟩
      subst e1
      rw [q'] at e2
      cases e2
      exact ⟨Same.refl _, e3, okS_chr hz (List.mem_of_getElem? q)⟩
  stop := fun H e => by
    show z.cps.size ≤ _
    simp
theorem wk_new {r : Rp α} [M : Mono r] {tl : TE} {xs : List α} (h : Nw (nl K r) tl G xs) : Wk (iList K tl) r G G xs := fun H1 σ H E R k =>
  h H1 σ H E _ fun v H' as e hn ⟨p, vs, e1, e2, e3, e4⟩ => by
    obtain ⟨H2, s1, s2, x, E2, ho⟩ := E.rebase e
    have hp : H2 p = some (.lst vs) := ho p _ (hn p (by rw [e1]; exact List.mem_singleton.mpr rfl)) e3
    exact ⟨p, e2, ⟨vs, SqL.of e3⟩, k _ H2 H' s1 e E2 (wj_list hp (e4.imp fun _ _ z => (z.up x).now))⟩
theorem wk_own {r : Rp α} [M : Mono r] {i : Nat} {xs : List α} (h : G[i]? = some (some (.ow (nl K r) xs)) := by rfl) : Wk (iList K (tVar i)) r G (G.set i (rc (rL r) xs)) xs := fun H1 σ H E R k => by
  obtain ⟨H2, s1, x, E2⟩ := E.freeze h M
  obtain ⟨own, _, _, h3⟩ := E2.at_
  have hl : i < G.length := (List.getElem?_eq_some_iff.mp h).1
  obtain ⟨v, hv, _, p, vs, e2, e3, e4⟩ := h3 i _ (List.getElem?_set_self hl)
  exact ⟨v, hv, p, e2, ⟨vs, SqL.of (E2.old _ _ e3)⟩, k _ H2 H s1 (Same.refl _) E2 (wj_list e3 e4)⟩
theorem wk_tup {r : Rp α} [F : Frz K r] [M : Mono r] {tl : TE} {xs : List α} (h : Ev (rT K r) tl G xs) : Wk (iTup K tl) r G G xs := fun H1 σ H E R k =>
  h H1 σ H E _ fun v H' e ⟨p, vs, e2, e3, e4⟩ => by
    obtain ⟨H2, s1, s2, x, E2, ho⟩ := E.rebase e
    exact ⟨p, e2, ⟨vs, e3⟩, k _ H2 H' s1 e E2 (wj_tup (x _ _ e3) (e4.imp fun _ _ z => F.up x z))⟩
def ups (n : Nat) : List Int := (List.range n).map fun (i : Nat) => (i : Int)
theorem ups_len (n : Nat) : (ups n).length = n := by unfold ups; rw [List.length_map, List.length_range]
theorem wk_rng1 {ta : TE} {n : Int} (h : Ev rI ta G n) (hn : -12000000 ≤ n ∧ n ≤ 12000000) : Wk (iRng1 (tCons ta tNil)) rI G G (ups n.toNat) := fun H1 σ H E R k =>
  h H1 σ H E _ fun v H' e z => ⟨n, by rw [show v = .int n from z], by omega, by omega, k (Itr 0 n.toNat) H1 H' (Same.refl _) e (E.grow e) (by
      have w := wj_rng (H1 := H1) (lo := 0) (n := n.toNat)
      have e0 : ((List.range n.toNat).map fun (i : Nat) => (0 : Int) + (i : Int)) = ups n.toNat := by
        unfold ups
        exact List.map_congr_left fun i _ => Int.zero_add _
      rw [e0] at w
      exact w)⟩
theorem wk_str {ta : TE} {z : Str} (h : Ev rS ta G z) : Wk (iStr ta) rS G G (z.cps.toList.map fun c => (⟨#[c]⟩ : Str)) := fun H1 σ H E R k =>
  h H1 σ H E _ fun v H' e z' => ⟨z, z'.1, k (Its z) H1 H' (Same.refl _) e (E.grow e) (wj_str z'.2)⟩
def Tg (g : TG) (r : Rp α) (x : α) (G G' : Cells K) : Prop := ∀ H1 σ H v, Env H1 σ H G → r H v x → ∀ P : L2.St → Hp → Prop, (∀ σ', Env H1 σ' H G' → P σ' H) → g v σ H P
theorem tg_name {r : Rp α} [F : Frz K r] {x : α} {i : Nat} : Tg (gName i) r x G (G.set i (fc r x)) := fun H1 σ H v E h P k =>
  k _ (E.put (R := fz K r) (as := []) (Same.refl H) (fun _ z => nomatch z) ⟨rfl, stb h⟩)
theorem tg_pair {r : Rp α} {q : Rp β} [F : Frz K r] [F' : Frz K q] {p : α × β} {i j : Nat} : Tg (gTup K 2 (gCons (gName i) (gCons (gName j) gNil))) (rP K r q) p G ((G.set i (fc r p.1)).set j (fc q p.2)) := fun H1 σ H v E ⟨a, x, y, e, h, h1, h2⟩ P k =>
  ⟨a, [x, y], e, h, rfl, x, [y], rfl, y, [], rfl, rfl, k _ ((E.put (R := fz K r) (as := []) (Same.refl H) (fun _ z => nomatch z) ⟨rfl, stb h1⟩).put (R := fz K q) (as := []) (Same.refl H) (fun _ z => nomatch z) ⟨rfl, stb h2⟩)⟩
variable {D : Ends} {t u tb : TS} {wi : TI} {g : TG} {te : TE} {tt : TT} {r : Rp α} {q : Rp β}
theorem l_forI {xs : List α} (st : S → Cells K) (I : List α → S → Prop) (s0 : S) (hw : Wk wi r G G' xs) (h0 : Sub G' (st s0)) (i0 : I [] s0)
    (body : ∀ H0', Same H0 H0' → ∀ pre x post s, xs = pre ++ x :: post → I pre s → ∃ Gx, Tg g r x (st s) Gx ∧
      Sv H0' Gx tb { D with nx := fun σ H => ∃ s', I (pre ++ [x]) s' ∧ Have H0' (st s') σ H, ct := fun σ H => ∃ s', I (pre ++ [x]) s' ∧ Have H0' (st s') σ H, bk := D.nx })
    (after : ∀ s, I xs s → Nx H0 (st s) D.nx) : Sv H0 G (tFor wi g tb) D := fun σ H ⟨H1, e1, E⟩ => by
  refine hw H1 σ H E _ fun J H2 H' s1 sH E2 W => ?_
  refine ⟨fun i m σ' Hh => i + m = xs.length ∧ ∃ s, I (xs.take i) s ∧ Have H2 (st s) σ' Hh, ⟨xs.length, Nat.zero_add _, s0, i0, H2, Same.refl _, E2.less h0⟩, ?_⟩
  rintro i m σ' Hh ⟨hi, s, hI, H3, s3, E3⟩
  by_cases hl : i < xs.length
  · have hx : xs[i]? = some xs[i] := List.getElem?_eq_getElem hl
    have hs : Same H2 Hh := s3.trans E3.old
    obtain ⟨g1, g2⟩ := W.go Hh i _ hs hx
    have etk : xs.take i ++ [xs[i]] = xs.take (i + 1) := by rw [List.take_add_one, hx]; rfl
    refine .inr ⟨g1, fun σ2 Hh2 => ∃ s', I (xs.take i ++ [xs[i]]) s' ∧ Have H2 (st s') σ2 Hh2, fun σ2 Hh2 ⟨s', hI', hv⟩ => ⟨m - 1, by omega, by omega, s', by rw [← etk]; exact hI', hv⟩, fun v Hh2 hy => ?_⟩
    · obtain ⟨e2, z⟩ := g2 v Hh2 hy
      have hsp : xs = xs.take i ++ xs[i] :: xs.drop (i + 1) := by
        rw [List.getElem_cons_drop, List.take_append_drop]
      obtain ⟨Gx, ht, hb⟩ := body H2 (e1.trans s1) (xs.take i) xs[i] (xs.drop (i + 1)) s hsp hI
      exact ht H3 σ' Hh2 v (E3.grow e2) z _ fun σ2 E4 => hb σ2 Hh2 ⟨H3, s3, E4⟩
  · have hi' : i = xs.length := by omega
    subst hi'
    rw [List.take_length] at hI
    exact .inl ⟨W.stop Hh (s3.trans E3.old), after s hI σ' Hh ⟨H3, (e1.trans s1).trans s3, E3⟩⟩
theorem l_for {xs : List α} (st : S → Cells K) (f : S → α → S) (s0 : S) (hw : Wk wi r G G' xs) (h0 : Sub G' (st s0))
    (body : ∀ H0', Same H0 H0' → ∀ pre x post, xs = pre ++ x :: post → ∃ Gx, Tg g r x (st (pre.foldl f s0)) Gx ∧
      Sv H0' Gx tb { D with nx := Have H0' (st (f (pre.foldl f s0) x)), ct := Have H0' (st (f (pre.foldl f s0) x)), bk := D.nx })
    (after : Nx H0 (st (xs.foldl f s0)) D.nx) : Sv H0 G (tFor wi g tb) D :=
  l_forI st (fun pre s => s = pre.foldl f s0) s0 hw h0 rfl (fun H0' e pre x post s hx hs => by
    subst hs
    obtain ⟨Gx, ht, hb⟩ := body H0' e pre x post hx
    have key : (fun σ H => ∃ s', s' = (pre ++ [x]).foldl f s0 ∧ Have H0' (st s') σ H) = Have H0' (st (f (pre.foldl f s0) x)) := by
      funext σ H
      have e0 : (pre ++ [x]).foldl f s0 = f (pre.foldl f s0) x := by rw [List.foldl_append]; rfl
      refine propext ⟨fun ⟨s', hs', h⟩ => ?_, fun h => ⟨_, e0.symm, h⟩⟩
      rw [hs', e0] at h
      exact h
    exact ⟨Gx, ht, by rw [key]; exact hb⟩) fun s hs => by subst hs; exact after
theorem q_for {xs : List α} (st : S → Cells K) (f : S → α → S) (s0 : S) (hw : Wk wi r G G' xs) (h0 : Sub G' (st s0))
    (body : ∀ H0', Same H0 H0' → ∀ pre x post, xs = pre ++ x :: post → ∃ Gx, Tg g r x (st (pre.foldl f s0)) Gx ∧
      Sv H0' Gx tb { nx := Have H0' (st (f (pre.foldl f s0) x)), rt := D.rt, bk := u D, ct := Have H0' (st (f (pre.foldl f s0) x)) })
    (after : Sv H0 (st (xs.foldl f s0)) u D) : Sv H0 G (tSeq (tFor wi g tb) u) D := l_for (D := { D with nx := u D }) st f s0 hw h0 body after
def wipeG (G : Cells K) : List Nat → Cells K
  | [] => G
  | v :: vs => (wipeG G vs).set v none
theorem wipeG_get {i : Nat} {c : Cell K} : ∀ {vs : List Nat}, (wipeG G vs)[i]? = some (some c) → G[i]? = some (some c) ∧ i ∉ vs
  | [], h => ⟨h, by simp⟩
  | v :: vs, h => by
    unfold wipeG at h
    by_cases hi : v = i
    · subst hi
      by_cases hv : v < (wipeG G vs).length
      · rw [List.getElem?_set_self hv] at h; cases h
      · rw [List.getElem?_eq_none (by simpa using hv)] at h; cases h
    · rw [List.getElem?_set_ne hi] at h
      obtain ⟨h1, h2⟩ := wipeG_get h
      exact ⟨h1, by simp only [List.mem_cons, not_or]; exact ⟨fun e => hi e.symm, h2⟩⟩
theorem wipeG_len : ∀ vs : List Nat, (wipeG G vs).length = G.length
  | [] => rfl
  | v :: vs => by unfold wipeG; rw [List.length_set, wipeG_len vs]
theorem wipe_out' {i : Nat} : ∀ {vs : List Nat}, i ∉ vs → (wipe σ vs)[i]? = σ[i]?
  | [], _ => rfl
  | v :: vs, h => by
    have h1 : v ≠ i := fun e => h (by rw [e]; exact List.mem_cons_self)
    unfold wipe
    rw [List.getElem?_set_ne h1]
    exact wipe_out' fun z => h (List.mem_cons_of_mem _ z)
theorem wipe_in {i : Nat} : ∀ {vs : List Nat}, i ∈ vs → i < σ.length → (wipe σ vs)[i]? = some none
  | [], h, _ => by cases h
  | v :: vs, h, hl => by
    unfold wipe
    by_cases hv : v = i
    · subst hv
      rw [List.getElem?_set_self (by rw [wipe_length]; exact hl)]
    · rw [List.getElem?_set_ne hv]
      rcases List.mem_cons.mp h with e | e
      · exact absurd e.symm hv
      · exact wipe_in e hl
theorem wipe_set {i : Nat} {v : Option V} {vs : List Nat} (h : i ∈ vs) : wipe ((wipe σ vs).set i v) vs = wipe σ vs := by
  apply List.ext_getElem?
  intro j
  by_cases hj : j ∈ vs
  · by_cases hl : j < σ.length
    · rw [wipe_in hj hl, wipe_in hj (by rw [List.length_set, wipe_length]; exact hl)]
    · rw [List.getElem?_eq_none (by rw [wipe_length, List.length_set, wipe_length]; omega), List.getElem?_eq_none (by rw [wipe_length]; omega)]
  · rw [wipe_out' hj, List.getElem?_set_ne fun e => hj (by rw [← e]; exact h)]
theorem Env.wipe (E : Env H1 σ H G) (vs : List Nat) : Env H1 (L2.wipe σ vs) H (wipeG G vs) := by
  obtain ⟨own, h1, h2, h3⟩ := E.at_
  refine ⟨E.old, by rw [wipe_length, wipeG_len]; exact E.len, own, h1, h2, fun i c hc => ?_⟩
  obtain ⟨a, b⟩ := wipeG_get hc
  obtain ⟨v, hv, hk⟩ := h3 i c a
  exact ⟨v, by rw [wipe_out' b]; exact hv, hk⟩
def Tb (g : TG) (r : Rp α) (x : α) (vs : List Nat) (G G' : Cells K) : Prop := ∀ H1 σ σ0 H v, σ = wipe σ0 vs → Env H1 σ H G → r H v x → ∀ P : L2.St → Hp → Prop, (∀ σ', Env H1 σ' H G' → wipe σ' vs = wipe σ0 vs → P σ' H) → g v σ H P
theorem tb_name {r : Rp α} [F : Frz K r] {x : α} {i : Nat} {vs : List Nat} (hi : i ∈ vs := by decide) : Tb (gName i) r x vs G (G.set i (fc r x)) := fun H1 σ σ0 H v e E h P k => by
  subst e
  exact k _ (E.put (R := fz K r) (as := []) (Same.refl H) (fun _ z => nomatch z) ⟨rfl, stb h⟩) (wipe_set hi)
theorem wipe_set2 {i : Nat} {v : Option V} {vs : List Nat} (h : i ∈ vs) : wipe (σ.set i v) vs = wipe σ vs := by
  apply List.ext_getElem?
  intro j
  by_cases hj : j ∈ vs
  · by_cases hl : j < σ.length
    · rw [wipe_in hj hl, wipe_in hj (by rw [List.length_set]; exact hl)]
    · rw [List.getElem?_eq_none (by rw [wipe_length, List.length_set]; omega), List.getElem?_eq_none (by rw [wipe_length]; omega)]
  · rw [wipe_out' hj, List.getElem?_set_ne (fun e => hj (by rw [← e]; exact h)), wipe_out' hj]
theorem getE_last {X : Type _} {l : List X} {x : X} : (l ++ [x])[l.length]? = some x := by simp
theorem getE_old {X : Type _} {l : List X} {x y : X} {i : Nat} (h : l[i]? = some y) : (l ++ [x])[i]? = some y := by
  rw [List.getElem?_append_left (List.getElem?_eq_some_iff.mp h).1]
  exact h
theorem Env.pad (E : Env H1 σ H G) : Env H1 (σ ++ [none]) H (G ++ [none]) := by
  obtain ⟨own, g1, g2, g3⟩ := E.at_
  refine ⟨E.old, by rw [List.length_append, List.length_append, E.len]; rfl, own, g1, g2, fun i c hc => ?_⟩
  by_cases hi : i < G.length
  · rw [List.getElem?_append_left hi] at hc
    obtain ⟨v, hv, hk⟩ := g3 i c hc
    exact ⟨v, getE_old hv, hk⟩
  · rw [List.getElem?_append_right (by omega)] at hc
    cases h : i - G.length with
    | zero => rw [h] at hc; simp at hc
    | succ n => rw [h] at hc; simp at hc
theorem Env.trunc {x : Option V} {c : Option (Cell K)} (E : Env H1 (σ ++ [x]) H (G ++ [c])) : Env H1 σ H G := by
  obtain ⟨own, g1, g2, g3⟩ := E.at_
  have hl : σ.length = G.length := by
    have := E.len
    rw [List.length_append, List.length_append] at this
    simpa using this
  refine ⟨E.old, hl, own, g1, g2, fun i c hc => ?_⟩
  obtain ⟨v, hv, hk⟩ := g3 i c (getE_old hc)
  have hi : i < σ.length := by rw [hl]; exact (List.getElem?_eq_some_iff.mp hc).1
  rw [List.getElem?_append_left hi] at hv
  exact ⟨v, hv, hk⟩
theorem set_last {X : Type _} {l : List X} {x y : X} : (l ++ [x]).set l.length y = l ++ [y] := by simp
theorem Env.push {D : Addr} {q : Rp β} (E : Env H1 σ H G) (hD : H D = none) : Env H1 (σ ++ [some (.ref D)]) (upd H D (.lst [])) (G ++ [some (.ow (nl K q) [])]) := by
  have e : Same H (upd H D (.lst [])) := fun b o hb => by rw [upd_ne (ne_of_none hb hD)]; exact hb
  have E2 := E.pad.put (i := G.length) (v := .ref D) (R := nl K q) (b := []) (as := [D]) e (fun p hp => by rw [List.mem_singleton.mp hp]; exact hD) ⟨D, [], rfl, rfl, upd_same, .nil⟩
  have e1 : (σ ++ [none]).set G.length (some (V.ref D)) = σ ++ [some (.ref D)] := by rw [← E.len]; exact set_last
  rw [e1, set_last] at E2
  exact E2
theorem nw_lc {vs : List Nat} {f : β' → γ} {p : β' → Bool} {q : Rp γ} [F : Frz K q] {r : Rp β'} {ys : List β'} (hw : Wk wi r G G' ys) (hlen : ys.length ≤ 12000000)
    (turn : ∀ pre x post, ys = pre ++ x :: post → ∃ Gx, Tb g r x vs (wipeG G' vs) Gx ∧ EvT tt Gx (p x) ∧ (p x = true → Ev q te Gx (f x))) :
    Nw (nl K q) (tLc wi g tt te vs) G ((ys.filter p).map f) := fun H1 σ H E Q k => by
  refine hw H1 σ H E _ fun J H2 Hs s1 sH E2 W => ?_
  intro D hD
  have E3 := (E2.wipe vs).push (q := q) hD
  have Mk : ∀ h, Env H2 (L2.wipe σ vs ++ [some (.ref D)]) h (wipeG G' vs ++ [some (.ow (nl K q) ((ys.filter p).map f))]) → Same Hs h → Q (.ref D) h := fun h Eh sh => by
    obtain ⟨own, g1, g2, g3⟩ := Eh.at_
    have hlg : (L2.wipe σ vs).length = (wipeG G' vs).length := (E2.wipe vs).len
    obtain ⟨v, hv, p', ws, e1, e2, e3, e4⟩ := g3 _ _ getE_last
    rw [← hlg, getE_last] at hv
    cases hv
    cases e2
    exact k _ h [D] (sH.trans sh) (fun b hb => by rw [List.mem_singleton.mp hb]; exact sH.free hD) ⟨D, ws, rfl, rfl, e3, e4⟩
  have same0 : Same Hs (upd Hs D (.lst [])) := fun b o hb => by rw [upd_ne (ne_of_none hb hD)]; exact hb
  refine ⟨fun i m h => i + m = ys.length ∧ Same Hs h ∧ Env H2 (L2.wipe σ vs ++ [some (.ref D)]) h (wipeG G' vs ++ [some (.ow (nl K q) (((ys.take i).filter p).map f))]), ⟨ys.length, Nat.zero_add _, same0, E3⟩, ?_⟩
  rintro i m h ⟨hi, sh, Eh⟩
  by_cases hl : i < ys.length
  · have hx : ys[i]? = some ys[i] := List.getElem?_eq_getElem hl
    have etk : ys.take (i + 1) = ys.take i ++ [ys[i]] := by rw [List.take_add_one, hx]; rfl
    obtain ⟨g1, g2⟩ := W.go h i _ (E2.old.trans sh) hx
    refine .inr ⟨g1, fun h' => Same Hs h' ∧ Env H2 (L2.wipe σ vs ++ [some (.ref D)]) h' (wipeG G' vs ++ [some (.ow (nl K q) (((ys.take (i + 1)).filter p).map f))]), fun h' z => ⟨m - 1, by omega, by omega, z⟩, fun v h2 hy => ?_⟩
    obtain ⟨e2, z⟩ := g2 v h2 hy
    have hsp : ys = ys.take i ++ ys[i] :: ys.drop (i + 1) := by rw [List.getElem_cons_drop, List.take_append_drop]
    obtain ⟨Gx, ht, hb, he⟩ := turn (ys.take i) ys[i] (ys.drop (i + 1)) hsp
    refine ht H2 _ σ h2 v rfl (Eh.trunc.grow e2) z _ fun σ2 E4 hwp => ⟨hwp, hb H2 σ2 h2 E4 _ fun h3 e3 => ?_⟩
    cases hp : p ys[i] with
    | false =>
      refine iteF ⟨(sh.trans e2).trans e3, ?_⟩
      have : ((ys.take (i + 1)).filter p).map f = ((ys.take i).filter p).map f := by
        rw [etk, List.filter_append, List.filter_cons, if_neg (by rw [hp]; exact Bool.false_ne_true), List.filter_nil, List.append_nil]
      rw [this]
      exact Eh.grow (e2.trans e3)
    | true =>
      refine iteT (he hp H2 σ2 h3 (E4.grow e3) _ fun y h4 e4 hq => ?_)
      have E5 := Eh.grow ((e2.trans e3).trans e4)
      obtain ⟨own, k1, k2, k3⟩ := id E5.at_
      have hlg : (L2.wipe σ vs).length = (wipeG G' vs).length := (E2.wipe vs).len
      obtain ⟨w, hw', p', ws, a1, a2, a3, a4⟩ := k3 _ _ getE_last
      have hw2 := hw'
      rw [← hlg, getE_last] at hw'
      cases hw'
      cases a2
      have hlw : ws.length ≤ 12000000 := by
        rw [a4.len, List.length_map]
        exact Nat.le_trans (List.length_filter_le _ _) (Nat.le_trans (by rw [List.length_take]; exact Nat.min_le_right _ _) hlen)
      refine ⟨ws, a3, Nat.lt_of_le_of_lt hlw (by decide), ?_, ?_⟩
      · intro b o hb
        rw [upd_ne (ne_of_none hb hD)]
        exact e4 _ _ (e3 _ _ (e2 _ _ (sh _ _ hb)))
      · have E6 := app_env (x := f ys[i]) E5 getE_last hw2 a3 a4 (stb hq)
        rw [set_last] at E6
        have : ((ys.take (i + 1)).filter p).map f = ((ys.take i).filter p).map f ++ [f ys[i]] := by
          rw [etk, List.filter_append, List.filter_cons, if_pos hp, List.filter_nil, List.map_append]
          rfl
        rw [this]
        exact E6
  · have hi' : i = ys.length := by omega
    subst hi'
    rw [List.take_length] at Eh
    exact .inl ⟨W.stop h (E2.old.trans sh), Mk h Eh sh⟩
theorem et_yes : EvT tYes G true := fun H1 σ H E Q k => k H (Same.refl H)
end
end
section
theorem sz {n m : Nat} (h : n ≤ m) (hm : m ≤ sizeLine := by decide) : n ≤ sizeLine := Nat.le_trans h hm
theorem szS {n : Nat} (h : n ≤ 100000) : n ≤ sizeLine := Nat.le_trans h (by decide)
section
variable {K : PySem.W.Frag} {H0 H1 H H' : Hp} {σ : L2.St} {G G' Gx : Cells K} {α β γ S : Type}
variable {ta tb tc te : TE} {tt tu tv : TT} {r : Rp α} {q : Rp β} {a x : α} {b y : β} {i j n m : Int} {s t : Str} {c d : Bool}
theorem ev_add (ha : Ev rI ta G i) (hb : Ev rI tb G j) : Ev rI (tOp (rI0 fun i j => .int (i + j)) ta tb) G (i + j) := ev_op ha hb (op_I0 fun _ => rfl)
theorem ev_sub (ha : Ev rI ta G i) (hb : Ev rI tb G j) : Ev rI (tOp (rI0 fun i j => .int (i - j)) ta tb) G (i - j) := ev_op ha hb (op_I0 fun _ => rfl)
theorem ev_mul (ha : Ev rI ta G i) (hb : Ev rI tb G j) (h : CMul i j) : Ev rI (tOp (L2.rI CMul fun i j => .int (i * j)) ta tb) G (i * j) := ev_op ha hb (op_I h fun _ => rfl)
theorem ev_div (ha : Ev rI ta G i) (hb : Ev rI tb G j) (h : CDiv i j) : Ev rI (tOp (L2.rI CDiv fun i j => .int (i / j)) ta tb) G (i / j) := ev_op ha hb (op_I h fun _ => rfl)
theorem ev_mod (ha : Ev rI ta G i) (hb : Ev rI tb G j) (h : 0 < j) : Ev rI (tOp (L2.rI (fun _ j => 0 < j) fun i j => .int (i % j)) ta tb) G (i % j) := ev_op ha hb (op_I h fun _ => rfl)
theorem ev_pow (ha : Ev rI ta G i) (hb : Ev rI tb G j) (h : CPow i j) : Ev rI (tOp (L2.rI CPow fun i j => .int (i ^ j.toNat)) ta tb) G (i ^ j.toNat) := ev_op ha hb (op_I h fun _ => rfl)
theorem ev_lt (ha : Ev rI ta G i) (hb : Ev rI tb G j) : Ev rB (tOp (rI0 fun i j => .bl (decide (i < j))) ta tb) G (decide (i < j)) := ev_op ha hb (op_I0 fun _ => rfl)
theorem ev_le (ha : Ev rI ta G i) (hb : Ev rI tb G j) : Ev rB (tOp (rI0 fun i j => .bl (decide (i ≤ j))) ta tb) G (decide (i ≤ j)) := ev_op ha hb (op_I0 fun _ => rfl)
theorem ev_gt (ha : Ev rI ta G i) (hb : Ev rI tb G j) : Ev rB (tOp (rI0 fun i j => .bl (decide (j < i))) ta tb) G (decide (j < i)) := ev_op ha hb (op_I0 fun _ => rfl)
theorem ev_ge (ha : Ev rI ta G i) (hb : Ev rI tb G j) : Ev rB (tOp (rI0 fun i j => .bl (decide (j ≤ i))) ta tb) G (decide (j ≤ i)) := ev_op ha hb (op_I0 fun _ => rfl)
theorem ev_neg (ha : Ev rI ta G i) : Ev rI (tUn (rU fun i => .int (-i)) ta) G (-i) := fun H0 σ H E Q k => ha H0 σ H E _ fun u H' e h => ⟨i, h, k _ H' e rfl⟩
theorem ev_chain {o o' : Int → Int → V} {f f' : Int → Int → Bool} (h1 : ∀ i j, o i j = .bl (f i j)) (h2 : ∀ i j, o' i j = .bl (f' i j)) (ha : Ev rI ta G i) (hb : Ev rI tb G j) (hc : Ev rI tc G n) : Ev rB (tChain (rI0 o) (rI0 o') ta tb tc) G (f i j && f' j n) := fun H0 σ H E Q k =>
  ha H0 σ H E _ fun u H1 e1 z1 => hb H0 σ H1 (E.grow e1) _ fun v H2 e2 z2 => ⟨i, j, z1, z2, f i j, h1 i j, by
    cases hf : f i j with
    | false => exact iteF (k _ H2 (e1.trans e2) (by rw [hf]; rfl))
    | true => exact iteT (hc H0 σ H2 (E.grow (e1.trans e2)) _ fun w H3 e3 z3 => ⟨j, n, z2, z3, k _ H3 ((e1.trans e2).trans e3) (by rw [hf, h2]; rfl)⟩)⟩
theorem ev_chain_le (ha : Ev rI ta G i) (hb : Ev rI tb G j) (hc : Ev rI tc G n) : Ev rB (tChain (rI0 fun i j => .bl (decide (i ≤ j))) (rI0 fun i j => .bl (decide (i ≤ j))) ta tb tc) G (decide (i ≤ j) && decide (j ≤ n)) :=
  ev_chain (f := fun i j => decide (i ≤ j)) (f' := fun i j => decide (i ≤ j)) (fun _ _ => rfl) (fun _ _ => rfl) ha hb hc
theorem ev_chain_lelt (ha : Ev rI ta G i) (hb : Ev rI tb G j) (hc : Ev rI tc G n) : Ev rB (tChain (rI0 fun i j => .bl (decide (i ≤ j))) (rI0 fun i j => .bl (decide (i < j))) ta tb tc) G (decide (i ≤ j) && decide (j < n)) :=
  ev_chain (f := fun i j => decide (i ≤ j)) (f' := fun i j => decide (i < j)) (fun _ _ => rfl) (fun _ _ => rfl) ha hb hc
theorem ev_eqI (ha : Ev rI ta G i) (hb : Ev rI tb G j) : Ev rB (tOp rEq ta tb) G (decide (i = j)) := ev_op ha hb fun H u v hu hv Q k => by
  cases hu; cases hv
  exact ⟨rfl, k _ H (Same.refl H) (by show V.bl _ = V.bl _; congr 1; exact decide_eq_decide.mpr ⟨fun h => V.int.inj h, fun h => by rw [h]⟩)⟩
theorem ev_neI (ha : Ev rI ta G i) (hb : Ev rI tb G j) : Ev rB (tOp rNe ta tb) G (!decide (i = j)) := ev_op ha hb fun H u v hu hv Q k => by
  cases hu; cases hv
  exact ⟨rfl, k _ H (Same.refl H) (by show V.bl _ = V.bl _; congr 2; exact decide_eq_decide.mpr ⟨fun h => V.int.inj h, fun h => by rw [h]⟩)⟩
theorem ev_eqS (ha : Ev rS ta G s) (hb : Ev rS tb G t) : Ev rB (tOp rEq ta tb) G (decide (s = t)) := ev_op ha hb fun H u v ⟨hu, _⟩ ⟨hv, _⟩ Q k => by
  cases hu; cases hv
  exact ⟨rfl, k _ H (Same.refl H) (by show V.bl _ = V.bl _; congr 1; exact decide_eq_decide.mpr ⟨fun h => V.str.inj h, fun h => by rw [h]⟩)⟩
theorem ev_neS (ha : Ev rS ta G s) (hb : Ev rS tb G t) : Ev rB (tOp rNe ta tb) G (!decide (s = t)) := ev_op ha hb fun H u v ⟨hu, _⟩ ⟨hv, _⟩ Q k => by
  cases hu; cases hv
  exact ⟨rfl, k _ H (Same.refl H) (by show V.bl _ = V.bl _; congr 2; exact decide_eq_decide.mpr ⟨fun h => V.str.inj h, fun h => by rw [h]⟩)⟩
theorem ev_eqB (ha : Ev rB ta G c) (hb : Ev rB tb G d) : Ev rB (tOp rEq ta tb) G (decide (c = d)) := ev_op ha hb fun H u v hu hv Q k => by
  cases hu; cases hv
  exact ⟨rfl, k _ H (Same.refl H) (by show V.bl _ = V.bl _; congr 1; exact decide_eq_decide.mpr ⟨fun h => V.bl.inj h, fun h => by rw [h]⟩)⟩
theorem ev_neB (ha : Ev rB ta G c) (hb : Ev rB tb G d) : Ev rB (tOp rNe ta tb) G (!decide (c = d)) := ev_op ha hb fun H u v hu hv Q k => by
  cases hu; cases hv
  exact ⟨rfl, k _ H (Same.refl H) (by show V.bl _ = V.bl _; congr 2; exact decide_eq_decide.mpr ⟨fun h => V.bl.inj h, fun h => by rw [h]⟩)⟩
def isNone' {α : Type} : Option α → Bool
  | .none => true
  | .some _ => false
class NotNon {α : Type} (r : Rp α) : Prop where
  nn : ∀ {H : Hp} {v : V} {a : α}, r H v a → v ≠ .non
instance : NotNon rI := ⟨fun h z => by rw [z] at h; cases h⟩
instance : NotNon rS := ⟨fun h z => by rw [z] at h; exact nomatch h.1⟩
instance : NotNon rB := ⟨fun h z => by rw [z] at h; cases h⟩
instance {r : Rp α} : NotNon (rT K r) := ⟨fun ⟨_, _, e, _⟩ z => by rw [z] at e; cases e⟩
instance {r : Rp α} {q : Rp β} : NotNon (rP K r q) := ⟨fun ⟨_, _, _, e, _⟩ z => by rw [z] at e; cases e⟩
instance {r : Rp α} : NotNon (rL r) := ⟨fun ⟨_, _, e, _⟩ z => by rw [z] at e; cases e⟩
theorem isNone_of {r : Rp α} [N : NotNon r] {v : V} {o : Option α} (h : rO r H v o) : decide (v = .non) = isNone' o := by
  cases o with
  | none => exact decide_eq_true h
  | some a => exact decide_eq_false (N.nn (r := r) (H := H) (a := a) h)
theorem ev_isN [N : NotNon r] [M : Mono r] {o : Option α} (ha : Ev (rO r) ta G o) : Ev rB (tOp (fun x y H Q => y = .non ∧ Q (.bl (decide (x = .non))) H) ta (tC .non)) G (isNone' o) := fun H0 σ H E Q k =>
  ha H0 σ H E _ fun u H1 e1 z => ⟨rfl, k _ H1 e1 (by show V.bl _ = V.bl _; rw [isNone_of z])⟩
theorem ev_notN [N : NotNon r] [M : Mono r] {o : Option α} (ha : Ev (rO r) ta G o) : Ev rB (tOp (fun x y H Q => y = .non ∧ Q (.bl (!decide (x = .non))) H) ta (tC .non)) G (!isNone' o) := fun H0 σ H E Q k =>
  ha H0 σ H E _ fun u H1 e1 z => ⟨rfl, k _ H1 e1 (by show V.bl _ = V.bl _; rw [isNone_of z])⟩
theorem et_test (h : Ev rB te G c) : EvT (tTest te) G c := fun H0 σ H E Q k => h H0 σ H E _ fun v H' e z => ⟨c, z, k H' e⟩
theorem et_B (h : Ev rB te G c) : EvT (tB te) G c := fun H0 σ H E Q k => h H0 σ H E _ fun v H' e z => ⟨c, z, k H' e⟩
theorem et_and (h1 : EvT tt G c) (h2 : c = true → EvT tu G d) : EvT (tAnd tt tu) G (c && d) := fun H0 σ H E Q k => h1 H0 σ H E _ fun H1 e1 => by
  cases c with
  | true => exact iteT (h2 rfl H0 σ H1 (E.grow e1) _ fun H2 e2 => k H2 (e1.trans e2))
  | false => exact iteF (k H1 e1)
theorem et_or (h1 : EvT tt G c) (h2 : c = false → EvT tu G d) : EvT (tOr tt tu) G (c || d) := fun H0 σ H E Q k => h1 H0 σ H E _ fun H1 e1 => by
  cases c with
  | true => exact iteT (k H1 e1)
  | false => exact iteF (h2 rfl H0 σ H1 (E.grow e1) _ fun H2 e2 => k H2 (e1.trans e2))
theorem et_not (h1 : EvT tt G c) : EvT (tNot tt) G (!c) := fun H0 σ H E Q k => h1 H0 σ H E _ fun H1 e1 => k H1 e1
theorem ev_and (h1 : Ev rB ta G c) (h2 : c = true → Ev rB tb G d) : Ev rB (tAndV ta tb) G (c && d) := fun H0 σ H E Q k => h1 H0 σ H E _ fun v H1 e1 z => ⟨c, z, by
  cases c with
  | true => exact iteT (h2 rfl H0 σ H1 (E.grow e1) _ fun w H2 e2 z2 => k w H2 (e1.trans e2) z2)
  | false => exact iteF (k _ H1 e1 rfl)⟩
theorem ev_or (h1 : Ev rB ta G c) (h2 : c = false → Ev rB tb G d) : Ev rB (tOrV ta tb) G (c || d) := fun H0 σ H E Q k => h1 H0 σ H E _ fun v H1 e1 z => ⟨c, z, by
  cases c with
  | true => exact iteT (k _ H1 e1 rfl)
  | false => exact iteF (h2 rfl H0 σ H1 (E.grow e1) _ fun w H2 e2 z2 => k w H2 (e1.trans e2) z2)⟩
theorem ev_not (h1 : Ev rB ta G c) : Ev rB (tNotV ta) G (!c) := fun H0 σ H E Q k => h1 H0 σ H E _ fun v H1 e1 z => ⟨c, z, k _ H1 e1 rfl⟩
theorem ev_if (h : EvT tt G c) (h1 : c = true → Ev r ta G a) (h2 : c = false → Ev r tb G x) : Ev r (tIf tt ta tb) G (bif c then a else x) := fun H0 σ H E Q k => h H0 σ H E _ fun H1 e1 => by
  cases c with
  | true => exact iteT (h1 rfl H0 σ H1 (E.grow e1) _ fun w H2 e2 z2 => k w H2 (e1.trans e2) z2)
  | false => exact iteF (h2 rfl H0 σ H1 (E.grow e1) _ fun w H2 e2 z2 => k w H2 (e1.trans e2) z2)
abbrev tTru (K : PySem.W.Frag) (ta : TE) : TT := fun σ H Q => ta σ H fun x H' => ∃ k, TruV K x H' k ∧ Q k H'
theorem a2_empty {r : α → β → Prop} {xs : List α} {ys : List β} (h : A2 r xs ys) : xs.isEmpty = ys.isEmpty := by cases h <;> rfl
theorem et_truL {xs : List α} (h : Ev (rL r) ta G xs) : EvT (tTru K ta) G (!xs.isEmpty) := fun H0 σ H E Q k => h H0 σ H E _ fun v H1 e1 ⟨p, vs, ev, hp, z⟩ => ⟨!xs.isEmpty, by rw [ev]; exact .inl ⟨vs, SqL.of hp, by rw [a2_empty z]⟩, k H1 e1⟩
theorem et_truT {xs : List α} (h : Ev (rT K r) ta G xs) : EvT (tTru K ta) G (!xs.isEmpty) := fun H0 σ H E Q k => h H0 σ H E _ fun v H1 e1 ⟨p, vs, ev, hp, z⟩ => ⟨!xs.isEmpty, by rw [ev]; exact .inr (.inl ⟨vs, hp, by rw [a2_empty z]⟩), k H1 e1⟩
theorem ea_nil : EvA aN tNil G () := fun H0 σ H E Q k => k [] H (Same.refl H) rfl
theorem ea_cons {A : Ra γ} {g : γ} {tr : TA} [M : Mono r] (h : Ev r te G a) (hr : EvA A tr G g) : EvA (aC r A) (tCons te tr) G (a, g) := fun H0 σ H E Q k =>
  h H0 σ H E _ fun v H1 e1 z1 => hr H0 σ H1 (E.grow e1) _ fun vs H2 e2 z2 => k _ H2 (e1.trans e2) ⟨v, vs, rfl, M.up e2 z1, z2⟩
theorem ev_call {A : Ra γ} {g : γ} {pre : γ → Prop} {f : γ → β} {E' : XK} {t : TA} (h : EvA A t G g) (hp : pre g) (e : f g = b) : Ev q (tCall (spF A pre q f) [] E' t) G b := fun H0 σ H E Q k =>
  h H0 σ H E _ fun vs H1 e1 z1 => by
    rw [List.append_nil]
    exact ⟨g, z1, hp, fun v H2 e2 z2 => k v H2 (e1.trans e2) (e ▸ z2)⟩
theorem nw_call {A : Ra γ} {g : γ} {pre : γ → Prop} {R : Rs K β} {f : γ → β} {E' : XK} {t : TA} (h : EvA A t G g) (hp : pre g) (e : f g = b) : Nw R (tCall (spN A pre R f) [] E' t) G b := fun H0 σ H E Q k =>
  h H0 σ H E _ fun vs H1 e1 z1 => by
    rw [List.append_nil]
    exact ⟨g, z1, hp, fun v H2 as e2 hn z2 => k v H2 as (e1.trans e2) (fun p hp => free_back e1 (hn p hp)) (e ▸ z2)⟩
def CbE (o : List V → Hp → VK → Prop) (A : Ra γ) (q : Rp β) (g : γ) (b : β) : Prop := ∀ H vs, A H vs g → ∀ Q : VK, (∀ w H', Same H H' → q H' w b → Q w H') → o vs H Q
def CbN (o : List V → Hp → VK → Prop) (A : Ra γ) (R : Rs K β) (g : γ) (b : β) : Prop := ∀ H vs, A H vs g → ∀ Q : VK, (∀ w H' as, Same H H' → (∀ p, p ∈ as → H p = none) → R.rep H' w b as → Q w H') → o vs H Q
theorem ev_cb {o : List V → Hp → VK → Prop} {A : Ra γ} {g : γ} {t : TA} (h : EvA A t G g) (ho : CbE o A q g b) : Ev q (tCB o t) G b := fun H0 σ H E Q k =>
  h H0 σ H E _ fun vs H1 e1 z1 => ho H1 vs z1 Q fun v H2 e2 z2 => k v H2 (e1.trans e2) z2
theorem nw_cb {o : List V → Hp → VK → Prop} {A : Ra γ} {g : γ} {t : TA} {R : Rs K β} (h : EvA A t G g) (ho : CbN o A R g b) : Nw R (tCB o t) G b := fun H0 σ H E Q k =>
  h H0 σ H E _ fun vs H1 e1 z1 => ho H1 vs z1 Q fun v H2 as e2 hn z2 => k v H2 as (e1.trans e2) (fun p hp => free_back e1 (hn p hp)) z2
abbrev rLenU (K : PySem.W.Frag) : List V → Hp → VK → Prop := fun xs H Q => ∃ x n, xs = [x] ∧ LenV K x H n ∧ Q (.int n) H
abbrev rIntU : List V → Hp → VK → Prop := fun xs H Q => (∃ i, xs = [.int i] ∧ Q (.int i) H) ∨ ∃ k, xs = [.bl k] ∧ Q (.int (if k then 1 else 0)) H
theorem ev_intI (h : Ev rI te G i) : Ev rI (tCB rIntU (tCons te tNil)) G i := ev_cb (ea_cons h ea_nil) fun H vs ⟨v, ws, e, hv, e2⟩ Q k =>
  .inl ⟨i, by rw [e, show ws = [] from e2, show v = .int i from hv], k _ H (Same.refl H) rfl⟩
def b2 (c : Bool) : Int := bif c then 1 else 0
theorem b2_small (c : Bool) : -(2 ^ 64) < b2 c ∧ b2 c < 2 ^ 64 := by cases c <;> decide
theorem ev_intB (h : Ev rB te G c) : Ev rI (tCB rIntU (tCons te tNil)) G (b2 c) := ev_cb (ea_cons h ea_nil) fun H vs ⟨v, ws, e, hv, e2⟩ Q k =>
  .inr ⟨c, by rw [e, show ws = [] from e2, show v = .bl c from hv], k _ H (Same.refl H) (by cases c <;> rfl)⟩
theorem bls {vs : List V} {bs : List Bool} (z : A2 (rB H) vs bs) : vs = bs.map V.bl := A2.map_eq z
theorem ev_all {bs : List Bool} (h : Ev (rL rB) te G bs) : Ev rB (tCB (rAll K) (tCons te tNil)) G (bs.all id) := ev_cb (ea_cons h ea_nil) fun H vs ⟨v, ws, e, ⟨p, us, ev, hp, z⟩, e2⟩ Q k =>
  ⟨p, bs, by rw [e, show ws = [] from e2, ev], by rw [← bls z]; exact SqL.of hp, k _ H (Same.refl H) rfl⟩
theorem ev_any {bs : List Bool} (h : Ev (rL rB) te G bs) : Ev rB (tCB (rAny K) (tCons te tNil)) G (bs.any id) := ev_cb (ea_cons h ea_nil) fun H vs ⟨v, ws, e, ⟨p, us, ev, hp, z⟩, e2⟩ Q k =>
  ⟨p, bs, by rw [e, show ws = [] from e2, ev], by rw [← bls z]; exact SqL.of hp, k _ H (Same.refl H) rfl⟩
theorem ev_sum {ns : List Int} (h : Ev (rL rI) te G ns) : Ev rI (tCB (rSum K) (tCons te tNil)) G ns.sum := ev_cb (ea_cons h ea_nil) fun H vs ⟨v, ws, e, ⟨p, us, ev, hp, z⟩, e2⟩ Q k =>
  ⟨p, ns, by rw [e, show ws = [] from e2, ev], by rw [show us = ns.map V.int from A2.map_eq z] at hp; exact SqL.of hp, k _ H (Same.refl H) rfl⟩
abbrev rListU (K : PySem.W.Frag) : List V → Hp → VK → Prop := fun xs H Q => ∃ p ys, xs = [.ref p] ∧ (SqL K H p ys ∨ SqT K H p ys) ∧ ∀ l, H l = none → Q (.ref l) (upd H l (.lst ys))
theorem same_new {p : Addr} {o : HO} (h : H p = none) : Same H (upd H p o) := fun b u e => by rw [upd_ne (ne_of_none e h)]; exact e
def NewT (H : Hp) (Q : VK) (ys : List V) : Prop := ∀ l o, H l = none → o.dict = none → Q (.ref l) (upd H l (.frz o (.tup ys)))
abbrev rTupU (K : PySem.W.Frag) : List V → Hp → VK → Prop := fun xs H Q => ∃ p ys, xs = [.ref p] ∧ ((SqL K H p ys ∧ NewT H Q ys) ∨ (SqT K H p ys ∧ Q (.ref p) H))
def tTupD (t : TA) : TE := fun σ H Q => t σ H fun xs H1 => xs.length ≤ sizeLine ∧ NewT H1 Q xs
def aAll (r : Rp α) : Ra (List α) := fun H vs xs => A2 (r H) vs xs
instance [M : Mono r] : MonoA (aAll r) := ⟨fun e h => h.imp fun _ _ z => M.up e z⟩
theorem el_nil : EvA (aAll r) tNil G [] := fun H0 σ H E Q k => k [] H (Same.refl H) .nil
theorem el_cons {tr : TA} {xs : List α} [M : Mono r] (h : Ev r te G x) (hr : EvA (aAll r) tr G xs) : EvA (aAll r) (tCons te tr) G (x :: xs) := fun H0 σ H E Q k =>
  h H0 σ H E _ fun v H1 e1 z1 => hr H0 σ H1 (E.grow e1) _ fun vs H2 e2 z2 => k _ H2 (e1.trans e2) (.cons (M.up e2 z1) z2)
theorem nw_lst {ta : TA} {xs : List α} [M : Mono r] [F : Frz K r] (h : EvA (aAll r) ta G xs) (hz : xs.length ≤ 12000000) : Nw (nl K r) (tLst ta) G xs := fun H0 σ H E Q k =>
  h H0 σ H E _ fun vs H1 e1 z => ⟨by rw [A2.len z]; exact sz hz, fun p hp => k _ _ [p] (e1.trans (same_new hp)) (fun b hb => by rw [List.mem_singleton.mp hb]; exact free_back e1 hp) ⟨p, vs, rfl, rfl, upd_same, A2.imp (fun _ _ q => stb (M.up (same_new hp) q)) z⟩⟩
theorem ev_tup {ta : TA} {xs : List α} [M : Mono r] (h : EvA (aAll r) ta G xs) (hz : xs.length ≤ 12000000) : Ev (rT K r) (tTupD ta) G xs := fun H0 σ H E Q k =>
  h H0 σ H E _ fun vs H1 e1 z => ⟨by rw [A2.len z]; exact sz hz, fun p o hp hd => k _ _ (e1.trans (same_new hp)) ⟨p, vs, rfl, SqD.of upd_same hd, A2.imp (fun _ _ q => M.up (same_new hp) q) z⟩⟩
theorem ev_pair [M : Mono r] [N : Mono q] (h : Ev r ta G a) (h' : Ev q tb G b) : Ev (rP K r q) (tTupD (tCons ta (tCons tb tNil))) G (a, b) := fun H0 σ H E Q k =>
  h H0 σ H E _ fun v H1 e1 z1 => h' H0 σ H1 (E.grow e1) _ fun w H2 e2 z2 => ⟨by show 2 ≤ sizeLine; decide, fun p o hp hd => k _ _ ((e1.trans e2).trans (same_new hp)) ⟨p, v, w, rfl, (SqD.of upd_same hd).t, M.up (e2.trans (same_new hp)) z1, N.up (same_new hp) z2⟩⟩
theorem atI_A2 {f : V → α → Prop} {vs : List V} {xs : List α} {i : Int} {x : α} (z : A2 f vs xs) (h : atI xs i = some x) : ∃ v, atI vs i = some v ∧ f v x := by
  unfold atI at h ⊢
  rw [z.len]
  cases e : ixN xs.length i with
  | none => rw [e] at h; cases h
  | some j =>
    rw [e] at h
    exact z.get' (i := j) h
theorem atI_mem {xs : List α} {i : Int} {x : α} (h : atI xs i = some x) : x ∈ xs := by
  unfold atI at h
  cases e : ixN xs.length i with
  | none => rw [e] at h; cases h
  | some j => rw [e] at h; exact List.mem_of_getElem? h
theorem ev_fst [M : Mono r] [N : Mono q] {p : α × β} (h : Ev (rP K r q) ta G p) : Ev r (tOp (rIx K) ta (tC (.int 0))) G p.1 := fun H0 σ H E Q k =>
  h H0 σ H E _ fun v H1 e1 ⟨c, x, y, ev, hc, z1, z2⟩ => .inr (.inl ⟨c, [x, y], 0, x, ev, rfl, hc, rfl, k x H1 e1 z1⟩)
theorem ev_snd [M : Mono r] [N : Mono q] {p : α × β} (h : Ev (rP K r q) ta G p) : Ev q (tOp (rIx K) ta (tC (.int 1))) G p.2 := fun H0 σ H E Q k =>
  h H0 σ H E _ fun v H1 e1 ⟨c, x, y, ev, hc, z1, z2⟩ => .inr (.inl ⟨c, [x, y], 1, y, ev, rfl, hc, rfl, k y H1 e1 z2⟩)
def EvO (to : TO) (G : Cells K) (o : Option Int) : Prop := ∀ H0 σ H, Env H0 σ H G → ∀ Q : Option Int → Hp → Prop, (∀ H', Same H H' → Q o H') → to σ H Q
theorem eo_none : EvO tNoPart G Option.none := fun H0 σ H E Q k => k H (Same.refl H)
theorem eo_some (h : Ev rI te G i) : EvO (tPart te) G (Option.some i) := fun H0 σ H E Q k => h H0 σ H E _ fun v H' e z => ⟨i, z, k H' e⟩
def cut (xs : List α) (lo hi : Option Int) : List α := (xs.drop (HT.sIx xs.length 0 lo)).take (HT.sIx xs.length xs.length hi - HT.sIx xs.length 0 lo)
theorem cut_A2 {f : V → α → Prop} {vs : List V} {xs : List α} (z : A2 f vs xs) (lo hi : Option Int) : A2 f (cutV vs lo hi) (cut xs lo hi) := by
  unfold cutV cut
  rw [z.len]
  exact (z.drop _).take _
theorem nw_slL {xs : List α} {lo hi : Option Int} {tl th : TO} [M : Mono r] [F : Frz K r] (h : Ev (rL r) ta G xs) (hl : EvO tl G lo) (hh : EvO th G hi) : Nw (nl K r) (tSl (rSlL K) ta tl th) G (cut xs lo hi) := fun H0 σ H E Q k =>
  h H0 σ H E _ fun v H1 e1 ⟨p, vs, ev, hp, z⟩ => hl H0 σ H1 (E.grow e1) _ fun H2 e2 => hh H0 σ H2 (E.grow (e1.trans e2)) _ fun H3 e3 =>
    ⟨p, vs, ev, SqL.of (e3 _ _ (e2 _ _ hp)), fun l hn => k _ _ [l] (((e1.trans e2).trans e3).trans (same_new hn)) (fun b hb => by rw [List.mem_singleton.mp hb]; exact free_back ((e1.trans e2).trans e3) hn)
      ⟨l, _, rfl, rfl, upd_same, (cut_A2 z lo hi).imp fun _ _ q => stb (M.up ((e2.trans e3).trans (same_new hn)) q)⟩⟩
theorem okS_cut {s : Str} (h : okS s) (lo hi : Option Int) : okS (cutS s lo hi) := by
  have sub : ∀ c ∈ (s.cps.toList.drop (HT.sIx s.length 0 lo)).take (HT.sIx s.length s.length hi - HT.sIx s.length 0 lo), c ∈ s.cps.toList := fun c hc => List.mem_of_mem_drop (List.mem_of_mem_take hc)
  refine ⟨?_, ?_⟩
  · show ((s.cps.toList.drop (HT.sIx s.length 0 lo)).take (HT.sIx s.length s.length hi - HT.sIx s.length 0 lo)).toArray.size ≤ 100000
    rw [List.size_toArray, List.length_take, List.length_drop]
    have : s.cps.toList.length = s.length := rfl
    have := h.1
    omega
  · have := h.2
    rw [← Array.all_toList, List.all_eq_true] at this ⊢
    exact fun c hc => this c (sub c (by simpa [cutS] using hc))
theorem ev_slS {lo hi : Option Int} {tl th : TO} (h : Ev rS ta G s) (hl : EvO tl G lo) (hh : EvO th G hi) : Ev rS (tSl rSlS ta tl th) G (cutS s lo hi) := fun H0 σ H E Q k =>
  h H0 σ H E _ fun v H1 e1 z => hl H0 σ H1 (E.grow e1) _ fun H2 e2 => hh H0 σ H2 (E.grow (e1.trans e2)) _ fun H3 e3 => ⟨s, z.1, sz z.2.1, k _ H3 ((e1.trans e2).trans e3) ⟨rfl, okS_cut z.2 lo hi⟩⟩
abbrev rAddS : R2 := fun x y H Q => ∃ i j, x = .str i ∧ y = .str j ∧ i.length + j.length ≤ sizeLine ∧ Q (.str (i ++ j)) H
theorem ev_addS (h : Ev rS ta G s) (h' : Ev rS tb G t) (hz : s.length + t.length ≤ 100000) : Ev rS (tOp rAddS ta tb) G (s ++ t) := ev_op h h' fun H u v hu hv Q k => ⟨s, t, hu.1, hv.1, sz hz, k _ H (Same.refl H) ⟨rfl, okS_app hu.2 hv.2 hz⟩⟩
theorem nw_cat {xs ys : List α} [M : Mono r] [F : Frz K r] (h : Ev (rL r) ta G xs) (h' : Ev (rL r) tb G ys) (hz : xs.length + ys.length ≤ 12000000) : Nw (nl K r) (tOp rCat ta tb) G (xs ++ ys) := nw_op h h' fun H u v ⟨p, vs, ev, hp, z⟩ ⟨p', vs', ev', hp', z'⟩ Q k =>
  ⟨p, p', vs, vs', ev, ev', hp, hp', by rw [z.len, z'.len]; exact sz hz, fun l hl => k _ _ [l] (same_new hl) (fun b hb => by rw [List.mem_singleton.mp hb]; exact hl) ⟨l, _, rfl, rfl, upd_same, (A2.app z' z).imp fun _ _ q => stb (M.up (same_new hl) q)⟩⟩
theorem dot_eq : (Str.ofString ".") = ⟨#[46]⟩ := by decide +kernel
theorem atI_zero {x : α} {l : List α} : atI (x :: l) 0 = some x := by
  unfold atI ixN
  rw [if_pos (by omega), if_pos (by rw [List.length_cons]; omega)]
  rfl
theorem atI_pos {xs : List α} {i : Int} {x : α} (h0 : 0 ≤ i) (h : xs[i.toNat]? = some x) : atI xs i = some x := by
  have hl := (List.getElem?_eq_some_iff.mp h).1
  unfold atI ixN
  rw [if_pos h0, if_pos (by omega)]
  exact h
theorem ev_inSign {z : Nat} (h : Ev rS ta G t) (e : t = ⟨#[z]⟩) (h' : Ev rS tb G s) : Ev rB (tOp (fun x y H Q => ∃ (c : Nat) (z : Str), x = .str ⟨#[c]⟩ ∧ y = .str z ∧ Q (.bl (decide (c ∈ z.cps.toList))) H) ta tb) G (decide (z ∈ s.cps.toList)) := ev_op h h' fun H u v hu hv Q k => ⟨z, s, by rw [← e]; exact hu.1, hv.1, k _ H (Same.refl H) rfl⟩
theorem ev_ninSign {z : Nat} (h : Ev rS ta G t) (e : t = ⟨#[z]⟩) (h' : Ev rS tb G s) : Ev rB (tOp (fun x y H Q => ∃ (c : Nat) (z : Str), x = .str ⟨#[c]⟩ ∧ y = .str z ∧ Q (.bl (!decide (c ∈ z.cps.toList))) H) ta tb) G (!decide (z ∈ s.cps.toList)) := ev_op h h' fun H u v hu hv Q k => ⟨z, s, by rw [← e]; exact hu.1, hv.1, k _ H (Same.refl H) rfl⟩
theorem inV_strs {xs : List Str} : inV (.str s) (xs.map V.str) = decide (s ∈ xs) := by
  unfold inV
  induction xs with
  | nil => simp
  | cons a l ih =>
    rw [List.map_cons, List.any_cons, ih]
    show ((a == s) || decide (s ∈ l)) = decide (s ∈ a :: l)
    by_cases h : a = s
    · subst h; simp
    · have : (a == s) = false := beq_eq_false_iff_ne.mpr h
      rw [this, Bool.false_or]
      apply decide_eq_decide.mpr
      rw [List.mem_cons]
      exact ⟨Or.inr, fun z => z.resolve_left fun e => h e.symm⟩
theorem flat_strs : ∀ xs : List Str, (xs.map V.str).all flatV = true
  | [] => rfl
  | _ :: r => by rw [List.map_cons, List.all_cons, flat_strs r]; rfl
theorem a2_strs {H : Hp} : ∀ {xs : List Str}, (∀ x ∈ xs, okS x) → A2 (rS H) (xs.map V.str) xs
  | [], _ => .nil
  | x :: xs, h => .cons ⟨rfl, h x (List.mem_cons_self ..)⟩ (a2_strs fun y hy => h y (List.mem_cons_of_mem _ hy))
theorem strs_a2 {H : Hp} {vs : List V} {xs : List Str} (z : A2 (rS H) vs xs) : vs = xs.map V.str := A2.map_eq (z.imp fun _ _ q => q.1)
theorem nw_split (h : Ev rS ta G s) (h' : Ev rS tb G t) (ht : (t.length == 0) = false) (hz : s.length ≤ 1000) (hk : ∀ x ∈ Txt.split s t, okS x) :
    Nw (nl K rS) (tM1 (fun x xs H Q => ∃ a b, x = .str a ∧ xs = [.str b] ∧ (b.length == 0) = false ∧ a.length + 2 ≤ sizeLine ∧ rNewStrs (Txt.split a b) H Q) ta tb) G (Txt.split s t) := fun H0 σ H E Q k =>
  h H0 σ H E _ fun v H1 e1 z1 => ⟨⟨s, z1.1⟩, h' H0 σ H1 (E.grow e1) _ fun w H2 e2 z2 => ⟨s, t, z1.1, by rw [show w = .str t from z2.1], ht, sz (m := 100000) (by omega), fun p hp => k _ _ [p] ((e1.trans e2).trans (same_new hp)) (fun b hb => by rw [List.mem_singleton.mp hb]; exact free_back (e1.trans e2) hp) ⟨p, _, rfl, rfl, upd_same, stbs (a2_strs hk)⟩⟩⟩
theorem ev_upper (h : Ev rS ta G s) (hk : okS (Txt.upper s)) : Ev rS (tM0 (fun x xs H Q => ∃ a, x = .str a ∧ xs = [] ∧ a.length ≤ 5592405 ∧ Q (.str (Txt.upper a)) H) ta) G (Txt.upper s) := fun H0 σ H E Q k =>
  h H0 σ H E _ fun v H1 e1 z1 => ⟨⟨s, z1.1⟩, s, z1.1, rfl, by have := z1.2.1; omega, k _ H1 e1 ⟨rfl, hk⟩⟩
theorem ev_join {xs : List Str} (h : Ev rS ta G s) (h' : Ev (rL rS) tb G xs) (hz : (xs.map (·.length)).sum + xs.length * s.length ≤ 16777216) (hk : okS (Txt.join s xs)) :
    Ev rS (tM1 (fun x xs H Q => ∃ a p, ∃ ys : List Str, x = .str a ∧ xs = [.ref p] ∧ (SqL K H p (ys.map V.str) ∨ SqT K H p (ys.map V.str)) ∧ (ys.map (·.length)).sum + ys.length * a.length ≤ 16777216 ∧ Q (.str (Txt.join a ys)) H) ta tb) G (Txt.join s xs) := fun H0 σ H E Q k =>
  h H0 σ H E _ fun v H1 e1 z1 => ⟨⟨s, z1.1⟩, h' H0 σ H1 (E.grow e1) _ fun w H2 e2 ⟨p, vs, ev, hp, z2⟩ => ⟨s, p, xs, z1.1, by rw [ev], .inl (by rw [← strs_a2 z2]; exact SqL.of hp), hz, k _ H2 (e1.trans e2) ⟨rfl, hk⟩⟩⟩
theorem ev_partition (h : Ev rS ta G s) (h' : Ev rS tb G t) (ht : (t.length == 0) = false) (hk : okS (Txt.partition s t).1 ∧ okS (Txt.partition s t).2.1 ∧ okS (Txt.partition s t).2.2) :
    Ev (rY K rS) (tM1 (fun x xs H Q => ∃ a b, x = .str a ∧ xs = [.str b] ∧ (b.length == 0) = false ∧ a.length ≤ sizeLine ∧
      ∀ p, H p = none → Q (.ref p) (upd H p (.tup [.str (Txt.partition a b).1, .str (Txt.partition a b).2.1, .str (Txt.partition a b).2.2]))) ta tb) G [(Txt.partition s t).1, (Txt.partition s t).2.1, (Txt.partition s t).2.2] := fun H0 σ H E Q k =>
  h H0 σ H E _ fun v H1 e1 z1 => ⟨⟨s, z1.1⟩, h' H0 σ H1 (E.grow e1) _ fun w H2 e2 z2 => ⟨s, t, z1.1, by rw [show w = .str t from z2.1], ht, sz z1.2.1, fun p hp => k _ _ ((e1.trans e2).trans (same_new hp)) ⟨p, _, rfl, SqT.of upd_same, .cons ⟨rfl, hk.1⟩ (.cons ⟨rfl, hk.2.1⟩ (.cons ⟨rfl, hk.2.2⟩ .nil))⟩⟩⟩
end
section
variable {X : Cx} {o e : Expr} {to te : TE}
abbrev rRpart : V → List V → Hp → VK → Prop := fun x xs H Q => ∃ a b, x = .str a ∧ xs = [.str b] ∧ (b.length == 0) = false ∧ a.length ≤ sizeLine ∧
    ∀ p, H p = none → Q (.ref p) (upd H p (.tup [.str (Txt.rpartition a b).1, .str (Txt.rpartition a b).2.1, .str (Txt.rpartition a b).2.2]))
theorem mt_rpartition : MtR X "str.rpartition" rRpart := by
  intro pins s σ H x xs v us Q I rx rs h
  obtain ⟨a, b, rfl, rfl, hb, hz, h⟩ := h
  obtain ⟨t, rfl⟩ := rx
  cases rs with
  | cons r1 rs =>
    cases rs
    obtain ⟨u, rfl⟩ := r1
    refine call_meets F.slot_str_rpartition (typeIs_str _ _ _) F.entry_str_rpartition (F.args_str_rpartition_2 _ _) (meets_str_rpartition a b t u hb hz) ?_
    unfold Txt.rpartition at h
    revert h
    cases hl : Builtin.Str.lastOccurrence a b 0 a.length with
    | none => exact fun h => laid_parts I h
    | some i => exact fun h => laid_parts I h
theorem pe_rpartition {apos pos : Pos} (ho : PE X o to) (he : PE X e te) (hs : starEach [e] X.env = [(false, eval e X.env)] := by rfl) (hbase : attributeBase o "rpartition" X.env (eval o X.env) = eval o X.env := by rfl) (hline : (apos.endLine == pos.line) = true := by rfl) :
    PE X (.Call (.Attribute o "rpartition" apos) [e] [] pos) (tM1 rRpart to te) := pe_m1 F.slot_str_rpartition F.type_str_rpartition mt_rpartition ho he hs hbase hline
end
theorem ev_rpartition {K : PySem.W.Frag} {G : Cells K} {ta tb : TE} {s t : Str} (h : Ev rS ta G s) (h' : Ev rS tb G t) (ht : (t.length == 0) = false) (hk : okS (Txt.rpartition s t).1 ∧ okS (Txt.rpartition s t).2.1 ∧ okS (Txt.rpartition s t).2.2) :
    Ev (rY K rS) (tM1 rRpart ta tb) G [(Txt.rpartition s t).1, (Txt.rpartition s t).2.1, (Txt.rpartition s t).2.2] := fun H0 σ H E Q k =>
  h H0 σ H E _ fun v H1 e1 z1 => ⟨⟨s, z1.1⟩, h' H0 σ H1 (E.grow e1) _ fun w H2 e2 z2 => ⟨s, t, z1.1, by rw [show w = .str t from z2.1], ht, sz z1.2.1, fun p hp => k _ _ ((e1.trans e2).trans (same_new hp)) ⟨p, _, rfl, SqT.of upd_same, .cons ⟨rfl, hk.1⟩ (.cons ⟨rfl, hk.2.1⟩ (.cons ⟨rfl, hk.2.2⟩ .nil))⟩⟩⟩
end
section
section
variable {K : PySem.W.Frag} {H0 H1 H H' : Hp} {σ : L2.St} {G G' Gx : Cells K} {α β γ S : Type}
variable {ta tb tc te : TE} {tt tu tv : TT} {r : Rp α} {q : Rp β} {R : Rp γ} {a x : α} {b y : β} {i j n m : Int} {s t : Str} {c d : Bool} {z w : γ}
class EqF {α : Type} (r : Rp α) where
  enc : α → V
  dec : DecidableEq α
  inj : ∀ {x y : α}, enc x = enc y → x = y
  rep : ∀ {H : Hp} {v : V} {a : α}, r H v a → v = enc a
  sc : ∀ x y : α, scal (enc x) (enc y) = true
instance : EqF rI := ⟨V.int, inferInstance, fun h => V.int.inj h, fun h => h, fun _ _ => rfl⟩
instance : EqF rS := ⟨V.str, inferInstance, fun h => V.str.inj h, fun h => h.1, fun _ _ => rfl⟩
instance : EqF rB := ⟨V.bl, inferInstance, fun h => V.bl.inj h, fun h => h, fun _ _ => rfl⟩
def encO {α : Type} (f : α → V) : Option α → V
  | .none => .non
  | .some a => f a
instance : EqF (rO rS) := ⟨encO V.str, inferInstance, fun {x y} h => match x, y, h with
  | .none, .none, _ => rfl
  | .some _, .some _, h => by rw [V.str.inj h], fun {_ _ a} h => match a, h with
  | .none, h => h
  | .some _, h => h.1, fun x y => match x, y with
  | .none, .none => rfl
  | .none, .some _ => rfl
  | .some _, .none => rfl
  | .some _, .some _ => rfl⟩
theorem ev_eq [F : EqF r] [M : Mono r] (ha : Ev r ta G a) (hb : Ev r tb G x) : Ev rB (tOp rEq ta tb) G (@decide (a = x) (F.dec a x)) := ev_op ha hb fun H u v hu hv Q k => by
  have e1 := F.rep hu
  have e2 := F.rep hv
  subst e1; subst e2
  refine ⟨F.sc _ _, k _ H (Same.refl H) ?_⟩
  show V.bl _ = V.bl _
  congr 1
  by_cases h : a = x
  · subst h
    rw [decide_eq_true rfl]
    exact (@decide_eq_true _ (F.dec _ _) rfl).symm
  · rw [decide_eq_false fun e => h (F.inj e)]
    exact (@decide_eq_false _ (F.dec _ _) h).symm
theorem ev_ne [F : EqF r] [M : Mono r] (ha : Ev r ta G a) (hb : Ev r tb G x) : Ev rB (tOp rNe ta tb) G (!@decide (a = x) (F.dec a x)) := ev_op ha hb fun H u v hu hv Q k => by
  have e1 := F.rep hu
  have e2 := F.rep hv
  subst e1; subst e2
  refine ⟨F.sc _ _, k _ H (Same.refl H) ?_⟩
  show V.bl _ = V.bl _
  congr 2
  by_cases h : a = x
  · subst h
    rw [decide_eq_true rfl]
    exact (@decide_eq_true _ (F.dec _ _) rfl).symm
  · rw [decide_eq_false fun e => h (F.inj e)]
    exact (@decide_eq_false _ (F.dec _ _) h).symm
def rQ (K : PySem.W.Frag) {β : Type} (r : Rp β) : Rp (List β) := fun H v xs => ∃ a vs, v = .ref a ∧ SqL K H a vs ∧ A2 (r H) vs xs
instance [M : Mono r] : Mono (rQ K r) := ⟨fun e ⟨a, vs, ev, h, q⟩ => ⟨a, vs, ev, e.seq h, q.imp fun _ _ z => M.up e z⟩⟩
class Ixd (K : PySem.W.Frag) {γ α : Type} (R : Rp γ) (z : γ) (r : outParam (Rp α)) (its : outParam (List α)) (ok : outParam Prop) : Prop where
  ix : ∀ {H : Hp} {u : V} {i : Int} {x : α} {Q : VK}, R H u z → ok → atI its i = some x → (∀ v, r H v x → Q v H) → rIx K u (.int i) H Q
instance {xs : List α} [M : Mono r] : Ixd K (rL r) xs r xs True := ⟨fun {H u i x Q} ⟨p, vs, ev, hp, h⟩ _ hx k => by
  obtain ⟨w, hw, hr⟩ := atI_A2 h hx
  exact .inl ⟨p, vs, i, w, ev, rfl, SqL.of hp, hw, k w hr⟩⟩
instance {xs : List α} [M : Mono r] : Ixd K (rQ K r) xs r xs True := ⟨fun {H u i x Q} ⟨p, vs, ev, hp, h⟩ _ hx k => by
  obtain ⟨w, hw, hr⟩ := atI_A2 h hx
  exact .inl ⟨p, vs, i, w, ev, rfl, hp, hw, k w hr⟩⟩
instance {xs : List α} [M : Mono r] : Ixd K (rT K r) xs r xs True := ⟨fun {H u i x Q} ⟨p, vs, ev, hp, h⟩ _ hx k => by
  obtain ⟨w, hw, hr⟩ := atI_A2 h hx
  exact .inr (.inl ⟨p, vs, i, w, ev, rfl, hp, hw, k w hr⟩)⟩
instance {xs : List α} [M : Mono r] : Ixd K (rY K r) xs r xs True := ⟨fun {H u i x Q} ⟨p, vs, ev, hp, h⟩ _ hx k => by
  obtain ⟨w, hw, hr⟩ := atI_A2 h hx
  exact .inr (.inl ⟨p, vs, i, w, ev, rfl, hp, hw, k w hr⟩)⟩
def chs (s : Str) : List Str := s.cps.toList.map fun c => (⟨#[c]⟩ : Str)
theorem chs_len (s : Str) : (chs s).length = s.length := by unfold chs; rw [List.length_map]; exact Array.length_toList
theorem atI_map {f : α → β} {l : List α} {i : Int} : atI (l.map f) i = (atI l i).map f := by
  unfold atI
  rw [List.length_map]
  cases ixN l.length i with
  | none => rfl
  | some j => show (l.map f)[j]? = _; rw [List.getElem?_map]; rfl
instance {z : Str} : Ixd K rS z rS (chs z) True := ⟨fun {H u i x Q} hu _ hx k => by
  unfold chs at hx
  rw [atI_map] at hx
  cases e : atI z.cps.toList i with
  | none => rw [e] at hx; cases hx
  | some c =>
    rw [e] at hx
    cases hx
    exact .inr (.inr ⟨z, i, c, hu.1, rfl, sz hu.2.1, e, k _ ⟨rfl, okS_chr hu.2 (atI_mem e)⟩⟩)⟩
theorem ev_ix {its : List α} {ok : Prop} [I : Ixd K R z r its ok] [M : Mono R] (h : Ev R ta G z) (hi : Ev rI tb G i) (hk : ok) (hx : atI its i = some x) : Ev r (tOp (rIx K) ta tb) G x := ev_op h hi fun H u v hu hv Q k => by
  rw [show v = .int i from hv]
  exact I.ix hu hk hx fun w hw => k w H (Same.refl H) hw
class Lnd (K : PySem.W.Frag) {γ : Type} (R : Rp γ) (z : γ) (ln : outParam Nat) (ok : outParam Prop) : Prop where
  len : ∀ {H : Hp} {u : V}, R H u z → ok → LenV K u H ln
instance {z : List α} : Lnd K (rL r) z z.length True := ⟨fun {H u} ⟨p, vs, ev, hp, h⟩ _ => by rw [ev, ← h.len]; exact .inl ⟨vs, SqL.of hp, rfl⟩⟩
instance {z : List α} : Lnd K (rQ K r) z z.length True := ⟨fun {H u} ⟨p, vs, ev, hp, h⟩ _ => by rw [ev, ← h.len]; exact .inl ⟨vs, hp, rfl⟩⟩
instance {z : List α} : Lnd K (rT K r) z z.length True := ⟨fun {H u} ⟨p, vs, ev, hp, h⟩ _ => by rw [ev, ← h.len]; exact .inr ⟨vs, hp, rfl⟩⟩
instance {z : α × β} : Lnd K (rP K r q) z 2 True := ⟨fun {H u} ⟨p, x, y, ev, hp, _⟩ _ => by rw [ev]; exact .inr ⟨_, hp, rfl⟩⟩
instance {z : Str} : Lnd K rS z z.length True := ⟨fun {H u} hu _ => by rw [show u = .str z from hu.1]; exact ⟨sz hu.2.1, rfl⟩⟩
theorem ev_len {ln : Nat} {ok : Prop} [L : Lnd K R z ln ok] [M : Mono R] (h : Ev R te G z) (hk : ok) : Ev rI (tCB (rLenU K) (tCons te tNil)) G (ln : Int) := ev_cb (ea_cons h ea_nil) fun H vs ⟨v, ws, e, hv, e2⟩ Q k =>
  ⟨v, ln, by rw [e, show ws = [] from e2], L.len hv hk, k _ H (Same.refl H) rfl⟩
class Tru (K : PySem.W.Frag) {γ : Type} (R : Rp γ) (z : γ) (f : outParam Bool) (ok : outParam Prop) : Prop where
  tru : ∀ {H : Hp} {u : V}, R H u z → ok → TruV K u H f
instance {z : List α} : Tru K (rL r) z (!z.isEmpty) True := ⟨fun {H u} ⟨p, vs, ev, hp, h⟩ _ => by rw [ev]; exact .inl ⟨vs, SqL.of hp, by rw [a2_empty h]⟩⟩
instance {z : List α} : Tru K (rT K r) z (!z.isEmpty) True := ⟨fun {H u} ⟨p, vs, ev, hp, h⟩ _ => by rw [ev]; exact .inr (.inl ⟨vs, hp, by rw [a2_empty h]⟩)⟩
instance {z : Int} : Tru K rI z (z != 0) True := ⟨fun {H u} hu _ => by rw [show u = .int z from hu]; exact rfl⟩
instance {z : Str} : Tru K rS z ((z.length : Int) != 0) True := ⟨fun {H u} hu _ => by rw [show u = .str z from hu.1]; exact ⟨sz hu.2.1, rfl⟩⟩
theorem et_tru {f : Bool} {ok : Prop} [L : Tru K R z f ok] (h : Ev R ta G z) (hk : ok) : EvT (tTru K ta) G f := fun H0 σ H E Q k => h H0 σ H E _ fun v H1 e1 hv => ⟨f, L.tru hv hk, k H1 e1⟩
class InS (K : PySem.W.Frag) (R : Rp (List Str)) : Prop where
  seq : ∀ {H : Hp} {u : V} {xs : List Str}, R H u xs → ∃ p, u = .ref p ∧ (SqL K H p (xs.map V.str) ∨ SqT K H p (xs.map V.str))
instance : InS K (rL rS) := ⟨fun ⟨p, vs, ev, hp, h⟩ => ⟨p, ev, .inl (by rw [← strs_a2 h]; exact SqL.of hp)⟩⟩
instance : InS K (rQ K rS) := ⟨fun ⟨p, vs, ev, hp, h⟩ => ⟨p, ev, .inl (by rw [← strs_a2 h]; exact hp)⟩⟩
instance : InS K (rT K rS) := ⟨fun ⟨p, vs, ev, hp, h⟩ => ⟨p, ev, .inr (by rw [← strs_a2 h]; exact hp.t)⟩⟩
theorem ev_in {R : Rp (List Str)} {xs : List Str} [I : InS K R] [M : Mono R] (h : Ev rS ta G s) (h' : Ev R tb G xs) : Ev rB (tOp (rIn K false) ta tb) G (decide (s ∈ xs)) := ev_op h h' fun H u v hu hv Q k => by
  obtain ⟨p, ev, hp⟩ := I.seq hv
  rw [show u = .str s from hu.1]
  exact ⟨p, _, ev, hp, rfl, flat_strs xs, k _ H (Same.refl H) (by show V.bl (inV _ _) = _; rw [inV_strs])⟩
theorem ev_nin {R : Rp (List Str)} {xs : List Str} [I : InS K R] [M : Mono R] (h : Ev rS ta G s) (h' : Ev R tb G xs) : Ev rB (tOp (rIn K true) ta tb) G (!decide (s ∈ xs)) := ev_op h h' fun H u v hu hv Q k => by
  obtain ⟨p, ev, hp⟩ := I.seq hv
  rw [show u = .str s from hu.1]
  exact ⟨p, _, ev, hp, rfl, flat_strs xs, k _ H (Same.refl H) (by show V.bl (!inV _ _) = _; rw [inV_strs])⟩
class Seq (K : PySem.W.Frag) {α : Type} (r : outParam (Rp α)) (R : Rp (List α)) : Prop where
  seq : ∀ {H : Hp} {u : V} {xs : List α}, R H u xs → ∃ p vs, u = .ref p ∧ (SqL K H p vs ∨ SqD K H p vs) ∧ A2 (r H) vs xs
instance : Seq K r (rL r) := ⟨fun ⟨p, vs, ev, hp, h⟩ => ⟨p, vs, ev, .inl (SqL.of hp), h⟩⟩
instance : Seq K r (rQ K r) := ⟨fun ⟨p, vs, ev, hp, h⟩ => ⟨p, vs, ev, .inl hp, h⟩⟩
instance : Seq K r (rT K r) := ⟨fun ⟨p, vs, ev, hp, h⟩ => ⟨p, vs, ev, .inr hp, h⟩⟩
theorem nw_list {R : Rp (List α)} {xs : List α} [I : Seq K r R] [N : Mono R] [M : Mono r] [F : Frz K r] (h : Ev R te G xs) : Nw (nl K r) (tCB (rListU K) (tCons te tNil)) G xs := nw_cb (ea_cons h ea_nil) fun H vs ⟨v, ws, e, hv, e2⟩ Q k => by
  obtain ⟨p, us, ev, hp, h⟩ := I.seq hv
  exact ⟨p, us, by rw [e, show ws = [] from e2, ev], hp.imp id SqD.t, fun l hl => k _ _ [l] (same_new hl) (fun b hb => by rw [List.mem_singleton.mp hb]; exact hl) ⟨l, us, rfl, rfl, upd_same, h.imp fun _ _ q => stb (M.up (same_new hl) q)⟩⟩
theorem ev_tupC {R : Rp (List α)} {xs : List α} [I : Seq K r R] [N : Mono R] [M : Mono r] (h : Ev R te G xs) : Ev (rT K r) (tCB (rTupU K) (tCons te tNil)) G xs := ev_cb (ea_cons h ea_nil) fun H vs ⟨v, ws, e, hv, e2⟩ Q k => by
  obtain ⟨p, us, ev, hp, h⟩ := I.seq hv
  refine ⟨p, us, by rw [e, show ws = [] from e2, ev], ?_⟩
  rcases hp with hp | hp
  · exact .inl ⟨hp, fun l o hl hd => k _ _ (same_new hl) ⟨l, us, rfl, SqD.of upd_same hd, h.imp fun _ _ q => M.up (same_new hl) q⟩⟩
  · exact .inr ⟨hp, k _ H (Same.refl H) ⟨p, us, rfl, hp, h⟩⟩
class TyN (K : PySem.W.Frag) {γ : Type} (R : Rp γ) (T : outParam String) : Prop where
  ty : ∀ {H : Hp} {u : V} {z : γ}, R H u z → TyX K H u (.type T)
instance : TyN K rS "str" := ⟨fun h => by rw [h.1]; exact .base (.str _)⟩
instance : TyN K rI "int" := ⟨fun h => by rw [h]; exact .base (.int _)⟩
instance : TyN K rB "bool" := ⟨fun h => by rw [h]; exact .base (.bl _)⟩
instance : TyN K (rL r) "list" := ⟨fun ⟨p, vs, ev, hp, _⟩ => by rw [ev]; exact .base (.lst hp)⟩
theorem ty_tup {p : Addr} {vs : List V} (h : SqT K H p vs) : TyX K H (.ref p) (.type "tuple") := by
  rcases h with (h | ⟨o, h⟩) | ⟨o, its, n, h1, h2, _⟩
  · exact .base (.tup h)
  · exact .fTuple h
  · exact .kTuple h1 h2
instance : TyN K (rT K r) "tuple" := ⟨fun ⟨p, vs, ev, hp, _⟩ => by rw [ev]; exact ty_tup hp.t⟩
instance : TyN K (rP K r q) "tuple" := ⟨fun ⟨p, x, y, ev, hp, _⟩ => by rw [ev]; exact ty_tup hp⟩
theorem ev_isi {T T' : String} {f : Bool} [N : TyN K R T] [M : Mono R] (h : Ev R te G z) (hb : kitB T T' = some f) : Ev rB (tCB (rIsi K) (tCons te (tCons (tC (.ty T')) tNil))) G f := fun H0 σ H E Q k =>
  h H0 σ H E _ fun v H1 e1 hv => ⟨v, .ty T', .type T, .type T', f, rfl, .ty T', N.ty hv, kit_ty hb, k _ H1 e1 rfl⟩
end
end
section
theorem tup_laid {X : Cx} {pins : List (Addr × Obj)} {σ : L2.St} {H : Hp} {s : Shared} {h : Heap} {xs : List V} {its : List Value} (J : L2.Inv X pins σ H { s with heap := h }) (r : Vals xs its) (z : xs.length ≤ sizeLine) :
    L2.Inv X pins σ (upd H h.objs.size (.frz { cls := .type "tuple", data := .seq its.toArray } (.tup xs))) { s with heap := h.push { cls := .type "tuple", data := .seq its.toArray } } :=
  J.laid (t' := s.toks) (fun _ _ w => Heap.get?_push_of_some _ w) (Nat.le_refl _) (by
    refine ⟨Heap.get?_push_size _ rfl, ?_⟩
    exact ⟨z, its, r, ⟨_, Heap.get?_push_size _ rfl, rfl, _, rfl⟩⟩)
theorem call_tupleD {X : Cx} : CallR X (.type "tuple") (rTupU X.K) := by
  intro pins s σ H xs us Q I rv hw
  obtain ⟨p, ys, rfl, hw⟩ := hw
  obtain ⟨u, rfl, ru⟩ := Vals.one rv
  cases ru
  rcases hw with ⟨hq, q⟩ | ⟨hq, q⟩
  · obtain ⟨its, rr, pl, hz⟩ := I.list hq
    refine call_tuple_list pl.isList (fun h2 kp => ?_) (by rw [List.size_toArray, ← rr.length]; exact hz)
    have J : L2.Inv X pins σ H { s with heap := h2 } := I.kept (t' := s.toks) kp
    exact ⟨.ref h2.objs.size, _, tup_laid J rr hz, rfl, q _ _ (J.hok.fresh (Nat.le_refl _)) rfl⟩
  · obtain ⟨its, rr, pl, hz⟩ := I.tuple hq
    exact call_tuple_same pl ⟨.ref p, H, I, rfl, q⟩
theorem pe_tupD {X : Cx} {es : List Expr} {t : TA} {x1 : Nat} {pos : Pos} (h : PA X es t) : PE X (.Tuple es x1 pos) (tTupD t) := by
  refine ⟨fun pins s σ H Q I w => ?_⟩
  refine wpAny_Tuple_spliced (thn (h.run pos pins s σ H _ I w) fun us s2 ⟨xs, H2, I2, rr, z, q⟩ => ⟨by rw [← rr.length]; exact z, ?_⟩)
  exact ⟨.ref s2.heap.objs.size, _, tup_laid I2 rr z, rfl, q _ _ (I2.hok.fresh (Nat.le_refl _)) rfl⟩
section
variable {X : Cx} (K : PySem.W.Frag) {e o l : Expr} {es : List Expr} {te ta tl to : TE} {t : TA} {pos apos cpos : Pos} {tg : Expr}
theorem k_ix (h : X.K = K := by rfl) : IxR X (rIx K) := by subst h; exact ix_seq
theorem k_slL (h : X.K = K := by rfl) : SlR X (rSlL K) := by subst h; exact sl_list
theorem k_len (h : X.K = K := by rfl) : CallR X (.builtin "len") (rLenU K) := by subst h; exact call_len
theorem k_tuple (h : X.K = K := by rfl) : CallR X (.type "tuple") (rTupU K) := by subst h; exact call_tupleD
theorem k_nin (h : X.K = K := by rfl) : OpR X (compareOp .NotIn) (rIn K true) := by subst h; exact op_notIn_seq
theorem k_all (hc : X.calm = true) (h : X.K = K := by rfl) : CallR X (.builtin "all") (rAll K) := by subst h; exact cr_all hc
theorem k_isi (h : X.K = K := by rfl) : CallR X (.builtin "isinstance") (rIsi K) := by subst h; exact call_isi
theorem k_eqD (hu : X.A.units + 64 < cLine) (h : X.K = K := by rfl) : OpR X (compareOp .Eq) (rEqD K) := by subst h; exact op_eqD hu
theorem k_ninD (hu : X.A.units + 65 < cLine) (h : X.K = K := by rfl) : OpR X (compareOp .NotIn) (rNotInD K) := by subst h; exact op_notInD hu
theorem pi_listK (hl : PE X l tl) (h : X.K = K := by rfl) : PI X tg l (iList K tl) := by subst h; exact pi_list hl
theorem pi_tupK (hl : PE X l tl) (h : X.K = K := by rfl) : PI X tg l (iTup K tl) := by subst h; exact pi_tup hl
theorem pg_tupK {k n : Nat} {t : TGs} (hc : X.calm = true) (ht : PGs X es t) (h : X.K = K := by rfl) (hn : (assignEach es X.env).length = n := by rfl) (hst : (assignEach es X.env).findIdx? (·.1) = none := by rfl) : PG X (.Tuple es k pos) (gTup K n t) := by subst h; exact pg_tup hc ht hn hst
theorem pt_tru (ha : PE X e te) (h : X.K = K := by rfl) (he : ∀ whole, isTrue e X.env whole = (do let v ← whole; standAt e.pos; holding [v] (truthy v)) := by intro _; rfl) : PT X e (tTru K te) := by subst h; exact pt_truth ha he
theorem pe_joinK (ho : PE X o to) (he : PE X e te) (h : X.K = K := by rfl) (hs : starEach [e] X.env = [(false, eval e X.env)] := by rfl) (hbase : attributeBase o "join" X.env (eval o X.env) = eval o X.env := by rfl) (hline : (apos.endLine == pos.line) = true := by rfl) :
    PE X (.Call (.Attribute o "join" apos) [e] [] pos) (tM1 (fun x xs H Q => ∃ a p, ∃ ys : List Str, x = .str a ∧ xs = [.ref p] ∧ (SqL K H p (ys.map V.str) ∨ SqT K H p (ys.map V.str)) ∧
      (ys.map (·.length)).sum + ys.length * a.length ≤ 16777216 ∧ Q (.str (Txt.join a ys)) H) to te) := by subst h; exact pe_join ho he hs hbase hline
theorem pe_app (ho : PE X o to) (ha : PA X (e :: es) t) (h : X.K = K := by rfl) (hbase : attributeBase o "append" X.env (eval o X.env) = eval o X.env := by rfl)
    (hfew : ((backTo cpos (starEach (e :: es) X.env)).all (fun x => !x.1) && (backToKw cpos (keywordEach [] X.env)).all (fun x => x.1.isSome)
      && decide ((e :: es).length + ([] : List Keyword).length + (if ([] : List Keyword).isEmpty then 0 else 1) < 30)) = true := by rfl)
    (hline : (apos.endLine == cpos.line) = true := by rfl) (hs : starEach (e :: es) X.env = (false, eval e X.env) :: starEach es X.env := by rfl) (hplain : (backTo cpos (starEach es X.env)).any (·.1) = false := by rfl) :
    PE X (.Call (.Attribute o "append" apos) (e :: es) [] cpos) (tBM K "list" rAppend to t) := by subst h; exact pe_bm PySem.F.plainAttrs_list PySem.F.slot_list_append PySem.F.type_list_append mt_append ho ha hbase hfew hline hs hplain
theorem pe_fldK {f : Str} (he : PE X e ta) (h : X.K = K := by rfl) (hb : attributeBase e f X.env (eval e X.env) = eval e X.env := by rfl) : PE X (.Attribute e f pos) (tFld K ta f) := by subst h; exact pe_fld he hb
end
section
variable {K : PySem.W.Frag} {H0 : Hp} {G : Cells K} {α : Type} {r : Rp α} {te : TE} {u : TS} {D : Ends} {i : Nat} {xs : List α} {x : α}
theorem l_app {x' : α} (hi : G[i]? = some (some (.ow (nl K r) xs))) (h : Ev r te G x') (ex : x' = x) (hz : xs.length < 12000000) (k : Nx H0 (G.set i (some (.ow (nl K r) (xs ++ [x])))) D.nx) (F : Frz K r := by infer_instance) :
    Sv H0 G (tDrop (tBM K "list" rAppend (tVar i) (tCons te tNil))) D := fun σ H ⟨H1, e1, E⟩ => by
  subst ex
  obtain ⟨own, h1, h2, h3⟩ := id E.at_
  obtain ⟨v, hv, p, vs, ea, ev, hp, z⟩ := h3 i _ hi
  subst ev
  refine ⟨_, hv, .inl ⟨rfl, vs, SqL.of hp⟩, h H1 σ H E _ fun w H2 e2 hw => ?_⟩
  have z2 : A2 (Stb K r H2) vs xs := z.imp fun _ _ q => q.up (ext_same e2)
  exact ⟨p, vs, w, rfl, rfl, e2 _ _ hp, Nat.lt_of_le_of_lt (by rw [z.len]; omega) (by decide : 12000000 < sizeLine), k _ _ ⟨H1, e1, app_env (E.grow e2) hi hv (e2 _ _ hp) z2 (stb hw)⟩⟩
theorem q_app {x' : α} (hi : G[i]? = some (some (.ow (nl K r) xs))) (h : Ev r te G x') (ex : x' = x) (hz : xs.length < 12000000) (k : Sv H0 (G.set i (some (.ow (nl K r) (xs ++ [x])))) u D) (F : Frz K r := by infer_instance) :
    Sv H0 G (tSeq (tDrop (tBM K "list" rAppend (tVar i) (tCons te tNil))) u) D := l_app hi h ex hz k F
end
end
section
section
variable {K : PySem.W.Frag} {H0 H1 H H' : Hp} {σ : L2.St} {G G' Gx : Cells K} {α β γ S : Type}
variable {ta tb tc te : TE} {tt tu tv : TT} {r : Rp α} {q : Rp β} {R : Rp γ} {a x : α} {b y : β} {i j n m : Int} {s t : Str} {c d : Bool} {z w : γ}
theorem a_fz {i : Nat} (h : G[i]? = some (some (.ow (fz K r) a))) : Ev r (tVar i) G a := ev_fz h
theorem a_lst {i : Nat} {xs : List α} (h : G[i]? = some (some (.ow (nl K r) xs))) : Ev (rL r) (tVar i) G xs := ev_lst h
theorem a_ro {i : Nat} {M : Mono r} (h : G[i]? = some (some (.ro r M a))) : Ev r (tVar i) G a := ev_ro h
def EqC (r : Rp α) (a x : α) (f : Bool) : Prop := ∀ (K : PySem.W.Frag) (G : Cells K) ta tb, Ev r ta G a → Ev r tb G x → Ev rB (tOp rEq ta tb) G f ∧ Ev rB (tOp rNe ta tb) G (!f)
theorem eqc_I : EqC rI i j (decide (i = j)) := fun K G ta tb h h' => ⟨ev_eqI h h', ev_neI h h'⟩
theorem eqc_S : EqC rS s t (decide (s = t)) := fun K G ta tb h h' => ⟨ev_eqS h h', ev_neS h h'⟩
theorem eqc_B : EqC rB c d (decide (c = d)) := fun K G ta tb h h' => ⟨ev_eqB h h', ev_neB h h'⟩
theorem eqc_O {s t : Option Str} : EqC (rO rS) s t (decide (s = t)) := fun K G ta tb h h' => ⟨ev_eq h h', ev_ne h h'⟩
theorem a_eq {f : Bool} (h : Ev r ta G a) (h' : Ev r tb G x) (e : EqC r a x f) : Ev rB (tOp rEq ta tb) G f := (e K G ta tb h h').1
theorem a_ne {f : Bool} (h : Ev r ta G a) (h' : Ev r tb G x) (e : EqC r a x f) : Ev rB (tOp rNe ta tb) G (!f) := (e K G ta tb h h').2
theorem a_in {R : Rp (List Str)} {xs : List Str} (h : Ev rS ta G s) (h' : Ev R tb G xs) (I : InS K R) (M : Mono R) : Ev rB (tOp (rIn K false) ta tb) G (decide (s ∈ xs)) := ev_in h h'
theorem a_nin {R : Rp (List Str)} {xs : List Str} (h : Ev rS ta G s) (h' : Ev R tb G xs) (I : InS K R) (M : Mono R) : Ev rB (tOp (rIn K true) ta tb) G (!decide (s ∈ xs)) := ev_nin h h'
def IxC (K : PySem.W.Frag) (R : Rp γ) (z : γ) (tb : TE) (G : Cells K) (r : Rp α) (x : α) : Prop := ∀ ta, Ev R ta G z → Ev r (tOp (rIx K) ta tb) G x
theorem a_ix (h : Ev R ta G z) (k : IxC K R z tb G r x) : Ev r (tOp (rIx K) ta tb) G x := k ta h
theorem ixc_L {xs : List α} [M : Mono r] (hi : Ev rI tb G i) (hx : atI xs i = some x) : IxC K (rL r) xs tb G r x := fun ta h => ev_ix h hi trivial hx
theorem ixc_Q {xs : List α} [M : Mono r] (hi : Ev rI tb G i) (hx : atI xs i = some x) : IxC K (rQ K r) xs tb G r x := fun ta h => ev_ix h hi trivial hx
theorem ixc_T {xs : List α} [M : Mono r] (hi : Ev rI tb G i) (hx : atI xs i = some x) : IxC K (rT K r) xs tb G r x := fun ta h => ev_ix h hi trivial hx
theorem ixc_S {t : Str} (hi : Ev rI tb G i) (hx : atI (chs s) i = some t) : IxC K rS s tb G rS t := fun ta h => ev_ix h hi trivial hx
theorem ixc_0 {p : α × β} [M : Mono r] [N : Mono q] : IxC K (rP K r q) p (tC (.int 0)) G r p.1 := fun ta h => ev_fst h
theorem ixc_1 {p : α × β} [M : Mono r] [N : Mono q] : IxC K (rP K r q) p (tC (.int 1)) G q p.2 := fun ta h => ev_snd h
def LnC (K : PySem.W.Frag) (R : Rp γ) (z : γ) (n : Nat) : Prop := ∀ (G : Cells K) te, Ev R te G z → Ev rI (tCB (rLenU K) (tCons te tNil)) G (n : Int)
theorem a_len {n : Nat} (h : Ev R te G z) (k : LnC K R z n) : Ev rI (tCB (rLenU K) (tCons te tNil)) G (n : Int) := k G te h
theorem lnc_L {xs : List α} [M : Mono r] : LnC K (rL r) xs xs.length := fun G te h => ev_len h trivial
theorem lnc_Q {xs : List α} [M : Mono r] : LnC K (rQ K r) xs xs.length := fun G te h => ev_len h trivial
theorem lnc_T {xs : List α} [M : Mono r] : LnC K (rT K r) xs xs.length := fun G te h => ev_len h trivial
theorem lnc_P {p : α × β} [M : Mono r] [N : Mono q] : LnC K (rP K r q) p 2 := fun G te h => ev_len h trivial
theorem lnc_S : LnC K rS s s.length := fun G te h => ev_len h trivial
def IntC (R : Rp γ) (z : γ) (n : Int) : Prop := ∀ (K : PySem.W.Frag) (G : Cells K) te, Ev R te G z → Ev rI (tCB rIntU (tCons te tNil)) G n
theorem a_int (h : Ev R te G z) (k : IntC R z n) : Ev rI (tCB rIntU (tCons te tNil)) G n := k K G te h
theorem intc_I : IntC rI i i := fun K G te h => ev_intI h
theorem intc_B : IntC rB c (b2 c) := fun K G te h => ev_intB h
def TrC (K : PySem.W.Frag) (R : Rp γ) (z : γ) (f : Bool) : Prop := ∀ (G : Cells K) te, Ev R te G z → EvT (tTru K te) G f
theorem a_tru {f : Bool} (h : Ev R ta G z) (k : TrC K R z f) : EvT (tTru K ta) G f := k G ta h
theorem trc_L {xs : List α} : TrC K (rL r) xs (!xs.isEmpty) := fun G te h => et_tru h trivial
theorem trc_T {xs : List α} : TrC K (rT K r) xs (!xs.isEmpty) := fun G te h => et_tru h trivial
theorem trc_I : TrC K rI i (i != 0) := fun G te h => et_tru h trivial
theorem trc_S : TrC K rS s ((s.length : Int) != 0) := fun G te h => et_tru h trivial
theorem a_tupC {R : Rp (List α)} {xs : List α} (h : Ev R te G xs) (N : Mono R) (I : Seq K r R) (M : Mono r) : Ev (rT K r) (tCB (rTupU K) (tCons te tNil)) G xs := ev_tupC h
theorem a_list {R : Rp (List α)} {xs : List α} (h : Ev R te G xs) (N : Mono R) (I : Seq K r R) (M : Mono r) (F : Frz K r) : Nw (nl K r) (tCB (rListU K) (tCons te tNil)) G xs := nw_list h
theorem a_isi {T T' : String} {f : Bool} (h : Ev R te G z) (M : Mono R) (N : TyN K R T) (hb : kitB T T' = some f) : Ev rB (tCB (rIsi K) (tCons te (tCons (tC (.ty T')) tNil))) G f := ev_isi h hb
theorem a_cons {A : Ra γ} {g : γ} {tr : TA} (h : Ev r te G a) (M : Mono r) (hr : EvA A tr G g) : EvA (aC r A) (tCons te tr) G (a, g) := ea_cons h hr
theorem a_el {tr : TA} {xs : List α} (h : Ev r te G x) (M : Mono r) (hr : EvA (aAll r) tr G xs) : EvA (aAll r) (tCons te tr) G (x :: xs) := el_cons h hr
theorem a_tup {ta : TA} {xs : List α} (h : EvA (aAll r) ta G xs) (M : Mono r) (hz : xs.length ≤ 12000000) : Ev (rT K r) (tTupD ta) G xs := ev_tup h hz
theorem a_lstD {ta : TA} {xs : List α} (h : EvA (aAll r) ta G xs) (M : Mono r) (F : Frz K r) (hz : xs.length ≤ 12000000) : Nw (nl K r) (tLst ta) G xs := nw_lst h hz
theorem a_pair (h : Ev r ta G a) (M : Mono r) (h' : Ev q tb G b) (N : Mono q) : Ev (rP K r q) (tTupD (tCons ta (tCons tb tNil))) G (a, b) := ev_pair h h'
theorem a_slL {xs : List α} {lo hi : Option Int} {tl th : TO} (h : Ev (rL r) ta G xs) (M : Mono r) (F : Frz K r) (hl : EvO tl G lo) (hh : EvO th G hi) : Nw (nl K r) (tSl (rSlL K) ta tl th) G (cut xs lo hi) := nw_slL h hl hh
theorem a_cat {xs ys : List α} (h : Ev (rL r) ta G xs) (M : Mono r) (F : Frz K r) (h' : Ev (rL r) tb G ys) (hz : xs.length + ys.length ≤ 12000000) : Nw (nl K r) (tOp rCat ta tb) G (xs ++ ys) := nw_cat h h' hz
theorem a_isN {o : Option α} (ha : Ev (rO r) ta G o) (N : NotNon r) (M : Mono r) : Ev rB (tOp (fun x y H Q => y = .non ∧ Q (.bl (decide (x = .non))) H) ta (tC .non)) G (isNone' o) := ev_isN ha
theorem a_notN {o : Option α} (ha : Ev (rO r) ta G o) (N : NotNon r) (M : Mono r) : Ev rB (tOp (fun x y H Q => y = .non ∧ Q (.bl (!decide (x = .non))) H) ta (tC .non)) G (!isNone' o) := ev_notN ha
def PreOk (pre : γ → Prop) (g : γ) : Prop := pre g
def AppEq (f : γ → β) (g : γ) (b : β) : Prop := f g = b
theorem a_call {A : Ra γ} {g : γ} {pre : γ → Prop} {f : γ → β} {E' : XK} {t : TA} (h : EvA A t G g) (hp : PreOk pre g) (e : AppEq f g b) : Ev q (tCall (spF A pre q f) [] E' t) G b := ev_call h hp e
theorem a_ncall {A : Ra γ} {g : γ} {pre : γ → Prop} {R : Rs K β} {f : γ → β} {E' : XK} {t : TA} (h : EvA A t G g) (hp : PreOk pre g) (e : AppEq f g b) : Nw R (tCall (spN A pre R f) [] E' t) G b := nw_call h hp e
theorem a_nl {xs : List α} (h : Nw (nl K r) te G xs) : Ev (rL r) te G xs := h.lst
end
end
section
structure CalI (P : Program) (w : World) (K : PySem.W.Frag) (mg : Str → Option Value) (base : Heap) (CX : CXT) (C : Addr) (k : Nat) (ps : List Str) (sp : Sp) : Prop where
  ex : ∃ (f : Addr) (fd : FuncData), FnOk P w K mg base CX k f fd ps sp ∧ Mk K C f ∧ Binds K fd ps []
section
variable {X : Cx} {CX : CXT} {pins : List (Addr × Obj)} {σ : L2.St} {H H' : Hp} {s s' : Shared} {C fi a it l : Addr} {k : Nat} {fd : FuncData} {ps : List Str} {sp : Sp} {E : XK} {e : Expr} {te : TE} {tg : Expr} {o : HO}
theorem run_from {P : Program} {w : World} {K : PySem.W.Frag} {mg : Str → Option Value} {base : Heap} {name qual : Str} {params : Arguments} {body : List Stmt} {scope : Scope} {dV kV doc pm cdv ct oc : Value} {an od : Option Addr} {osl : Array (Option Value)} {N : List Str}
    {A : Around} {outer : List PySem.Env} {args : Args} {us : List Value} {vs : List V} {Q : VK} {t : TS} {f : Addr}
    (lk : K.lookup f = some ⟨oc, od, .func (PySem.W.fnOf name qual params body scope dV kV doc pm an cdv ct), osl⟩) (hcd : PySem.W.codeIn K cdv qual = true) (S : FnScope N ps scope) (hl : vs.length = ps.length)
    (hr : Room (k + 1) A) (e0 : Env0 P w K mg base A outer s H) (hb : BindsTo s (PySem.W.fnOf name qual params body scope dV kV doc pm an cdv ct) args (ps.zip us)) (r : Vals vs us)
    (ht : PSs (cxOf CX P w K mg base N qual scope f cdv A outer s H E) body t) (q : t { nx := fun _ H' => Q .non H', rt := Q } (start N vs) H) : codeAny (model P w) A (.call (.ref f) args) (CR CX outer P w H s Q E) s := by
  have KX := e0.mod.kin.keeps fun b o e => (e0.bs b o e).1
  have cells : ∀ y ∈ ps.zip us, scope.names.lookup y.1 = some .local ∨
      (scope.names.lookup y.1 = some .cell ∧ ((cellsFrom (s.heap.objs.size + 1) scope.names []).lookup y.1).isSome = true) := fun ⟨n, v⟩ hy =>
    (S.par n (List.of_mem_zip hy).1).imp id fun z => ⟨z, PySem.W.cellsFrom_some _ _ _ (.inl z)⟩
  have inside : ∀ (u : Value) (s' : Shared) (σ' : L2.St) (H' : Hp) (v : V), L2.Inv (cxOf CX P w K mg base N qual scope f cdv A outer s H E) [] σ' H' s' → RelV v u → Q v H' → CE outer P w H s Q u s' := fun _ _ _ H' v J rv z =>
    ⟨v, H', J.os, J.bare, J.base, J.hok, rv, z⟩
  refine codeAny_call_function hr.depth (KX _ _ lk) rfl S.co S.gen rfl (PySem.W.codeRec_of KX hcd) (hb _ _ _ _ (wpAny_newFunctionEnv_cells S.kind cells ?_))
  intro env he s1 x
  subst he
  refine ⟨Heap.NoLimit.keeps (e0.mod.nolimit.keeps fun b o e => (e0.bs b o e).1) x.toInCall.keep, codeAny_func ?_⟩
  refine wpAny_mono (ht.run [] s1 (start N vs) H _ (inv_start S hr.hd e0 hl r x) q) (fun fl s' hs => ?_) fun _ _ z => z
  cases fl with
  | ret u => exact let ⟨v, σ', H', J, rv, z⟩ := hs; inside u s' σ' H' v J rv z
  | next => exact let ⟨σ', H', J, z⟩ := hs; inside .none s' σ' H' .non J rfl z
  | cont => exact let ⟨_, _, _, z⟩ := hs; False.elim z
  | brk => exact let ⟨_, _, _, z⟩ := hs; False.elim z
structure ItOk (P : Program) (w : World) (K : PySem.W.Frag) (mg : Str → Option Value) (base : Heap) (C : Addr) (g : Str) : Prop where
  ex : ∃ fi : Addr, PySem.W.findIn K (.ref C) "__iter__" = some (some (.ref fi)) ∧ PySem.W.isFn K (.ref fi) = true ∧
    ∀ (A : Around) (outer : List PySem.Env) (s : Shared) (H : Hp) (a dx l : Addr) (fs : List (Str × V)) (zs : List V) (Q : VK) (E : XK), Room 1 A → Env0 P w K mg base A outer s H → H a = some (.ins C dx fs) → fs.lookup g = some (.ref l) → SqL K H l zs →
      (∀ it, H it = none → s.heap.objs.size ≤ it → Q (.ref it) (upd H it (ItO l it 0))) → codeAny (model P w) A (.call (.ref fi) ⟨[.ref a], []⟩) (CR CX0 outer P w H s Q E) s
theorem run_iter {A : Around} {g : Str} {Q : Value → Shared → Prop} {dx : Addr} {fs : List (Str × V)} {zs : List V} (hrA : Room 1 A) (hfr : A.frames = X.A.frames) (O : ItOk X.prog X.w X.K X.mg X.base C g)
    (I : L2.Inv X pins σ H s) (ha : H a = some (.ins C dx fs)) (hl : fs.lookup g = some (.ref l)) (hz : SqL X.K H l zs)
    (h : ∀ it s2, L2.Inv X pins σ H s2 → s2.heap.IsListIter it l 0 → FpOk X pins H it → Q (.ref it) s2) :
    wpAny (model X.prog X.w) A (pyIter (.ref a)) Q X.xe s := by
  obtain ⟨mA, J, _⟩ := ins_get I.hok ha
  obtain ⟨od, J, _⟩ := J.look
  obtain ⟨m0, hF⟩ := I.fr
  obtain ⟨fi, hs, hf, F⟩ := O.ex
  refine PySem.W.owit_iter hF I.ok.mod.kin J hs hf ?_
  have e0 : Env0 X.prog X.w X.K X.mg X.base A X.stack s H := by
    have e := I.env0
    exact ⟨by rw [hfr]; exact e.frames, e.mod, e.bs, e.bsz, e.funs, e.frf, e.hok, e.bare⟩
  refine wpAny_call (codeAny_mono (F A X.stack s H a dx l fs zs (fun v H' => ∃ it, H it = none ∧ s.heap.objs.size ≤ it ∧ v = .ref it ∧ H' = upd H it (ItO l it 0)) (fun _ _ _ => False) hrA e0 ha hl hz fun it h0 h1 => ⟨it, h0, h1, rfl, rfl⟩) fun r s' hq => ?_)
  cases r with
  | error er => exact False.elim hq
  | ok fl =>
    cases fl with
    | next => exact False.elim hq
    | brk => exact False.elim hq
    | cont => exact False.elim hq
    | ret u =>
      obtain ⟨v, H2, I3, rv, it, h0, yg, ev, eH⟩ := I.after hq
      subst ev
      subst eH
      cases (show u = Value.ref it from rv)
      have ho := itO_get I3 upd_same
      have h1' : upd H it (ItO l it 0) it = some (.ext fun h => h.get? it = some (GNX.itObj l 0)) := upd_same
      have I4 := ItX.inv_drop I3 h1'
      have f4 := ItX.inv_fp I3 h1' (Nat.le_trans I.sz yg)
      rw [ItX.dropH_upd h0] at I4 f4
      show wpAny _ _ (specialOf (.ref it) "__next__") _ _ s'
      refine wpAny_specialOf (name := Str.ofString "__next__") ⟨_, ho, rfl⟩ slot_listiter_next.lookup ?_
      exact h it s' I4 ⟨_, ho, rfl, rfl⟩ f4
theorem fill_loop {A1 : Around} {q : Addr} {Rs : Result → Shared → Prop} {zs : List V} (hh : A1.in1.handled = none) (hlq : l ≠ q) (hzs : zs.length ≤ sizeLine) (hl : SqL X.K H l zs) (hdone : ∀ s, Inv X pins σ (upd H q (.lst zs)) s → Rs (.ok (.ret .none)) s) :
    ∀ (m i : Nat) (s : Shared), m + i = zs.length → Inv X pins σ (upd H q (.lst (zs.take i))) s → s.heap.IsListIter it l i → FpOk X pins (upd H q (.lst (zs.take i))) it → codeAny (model X.prog X.w) A1 (.builtin "list.extend.loop" ⟨[.ref q, .ref it, .none], []⟩) Rs s := by
  have rd : ∀ ys, SqL X.K (upd H q (.lst ys)) l zs := fun ys => by
    have e : upd H q (.lst ys) l = H l := upd_ne hlq
    unfold SqL Rd at hl ⊢
    simp only [e]
    exact hl
  intro m
  induction m with
  | zero =>
    intro i s hi I st fp
    have hi' : i = zs.length := by omega
    subst hi'
    rw [List.take_length] at I fp
    obtain ⟨its, rv, p, hz⟩ := I.list (rd _)
    obtain ⟨f0, f1, f2, f3, f4, f5⟩ := fp
    have hln := rv.length
    refine codeAny_builtin PySem.F.entry_extend_loop ?_
    rw [Around.under_plainId PySem.F.plain_extend_loop _]
    show wpAny _ A1.in1 (pyNext (.ref it) >>= _) _ _ s
    refine wpAny_bind (wpAny_pyNext_list_end hh st p.isList (by simp; omega) fun h' eb => ?_)
    exact wpAny_pure (hdone _ (I.turned (t' := s.toks) (fun b o hb e => eb b o hb e) f0 f1 f3 f4 f5))
  | succ m ih =>
    intro i s hi I st fp
    have hlt : i < zs.length := by omega
    have hx : zs[i]? = some zs[i] := List.getElem?_eq_getElem hlt
    obtain ⟨its, rv, p, hz⟩ := I.list (rd _)
    obtain ⟨u, hu, ru⟩ := rv.get hx
    obtain ⟨f0, f1, f2, f3, f4, f5⟩ := fp
    refine codeAny_builtin PySem.F.entry_extend_loop ?_
    rw [Around.under_plainId PySem.F.plain_extend_loop _]
    show wpAny _ A1.in1 (pyNext (.ref it) >>= _) _ _ s
    refine wpAny_bind (wpAny_pyNext_list_item st p.isList (x := u) (by simpa using hu) fun h' st' sb => ?_)
    have I1 : Inv X pins σ (upd H q (.lst (zs.take i))) { s with heap := h' } := I.turned (t' := s.toks) (fun b o hb e => (sb.2 b hb).trans e) f0 f1 f3 f4 f5
    show wpAny _ A1.in1 (updateSeq q (·.push u) >>= _) _ _ _
    obtain ⟨z, its2, k2, r2, hl2, e2⟩ := I1.lstM upd_same
    have etk : zs.take (i + 1) = zs.take i ++ [zs[i]] := by rw [List.take_add_one, hx]; rfl
    have hlen : (zs.take i).length < sizeLine := by rw [List.length_take]; omega
    have hl3 := r2.length
    have nq : it ≠ q := fun z => by
      rw [z, upd_same] at f0
      cases f0
    refine wpAny_bind (wpAny_updateSeq e2 rfl (wpAny_pure ⟨plainId_quiet PySem.F.plain_extend_loop _, ?_⟩) (by rw [List.size_toArray]; omega) (by show (its2.toArray.push u).size ≤ sizeLine + 1; rw [Array.size_push, List.size_toArray]; omega))
    have I2 := I1.lset (f := (·.push u)) (its' := its2 ++ [u]) (ys := zs.take i ++ [zs[i]]) (t' := s.toks) upd_same e2 (by simp) (r2.append (.cons ru .nil)) (by rw [List.length_append, List.length_singleton]; omega)
    rw [upd_upd, ← etk] at I2
    refine ih (i + 1) _ (by omega) I2 ?_ ?_
    · exact st'.at fun o e => (Heap.get?_update_ne _ _ _ _ nq).trans e
    · exact ⟨by rw [upd_ne nq]; rw [upd_ne nq] at f0; exact f0, f1, f2, f3, f4, f5⟩
structure NoLen (K : PySem.W.Frag) (C : Addr) : Prop where
  len : PySem.W.findIn K (.ref C) "__len__" = some none
  hint : PySem.W.findIn K (.ref C) "__length_hint__" = some none
theorem hint_yes {M : Model} {A : Around} {E : Value → Shared → Prop} {Q : Bool → Shared → Prop} {ox : Obj} {od : Option Obj} (n : NoLen X.K C) (hK : X.K.In s.heap) (J : PySem.W.InstAt s.heap a ox C od) (h : Q true s) : wpAny M A (Builtin.List.listLengthHint (.ref a)) Q E s := by
  unfold Builtin.List.listLengthHint
  refine wpAny_bind (wpAny_bind (J.type.here ((PySem.W.looks_findIn hK n.len).here ?_)))
  iterate 2 refine PySem.W.KFB.if_not rfl ?_
  exact wpAny_bind (wpAny_bind (J.type.here ((PySem.W.looks_findIn hK n.hint).here (wpAny_pure h))))
theorem fill_from {A1 : Around} {g : Str} {q dx : Addr} {Rs : Result → Shared → Prop} {fs : List (Str × V)} {zs : List V} (hr : Room 1 A1.in1) (hfr : A1.in1.frames = X.A.frames) (hh : A1.in1.handled = none) (O : ItOk X.prog X.w X.K X.mg X.base C g) (n : NoLen X.K C)
    (I : L2.Inv X pins σ (upd H q (.lst [])) s) (ha : H a = some (.ins C dx fs)) (hq : H q = none) (hl : fs.lookup g = some (.ref l)) (hz : SqL X.K H l zs) (hzs : zs.length ≤ sizeLine) (hlq : l ≠ q)
    (hdone : ∀ s, L2.Inv X pins σ (upd H q (.lst zs)) s → Rs (.ok (.ret .none)) s) (herr : ∀ e s, X.xe e s → Rs (.error e) s) :
    wpAny (model X.prog X.w) A1.in1 (Builtin.List.listExtendWith (.ref q) (.ref a) .none)
      (fun fin s' => match fin with | .done f => Rs (.ok f) s' | .again c => c.quiet = true ∧ codeAny (model X.prog X.w) A1 c Rs s') (fun e s' => Rs (.error e) s') s := by
  have nqa : q ≠ a := (ne_of_none ha hq).symm
  have ha2 : upd H q (.lst []) a = some (.ins C dx fs) := (upd_ne nqa.symm).trans ha
  have hz2 : SqL X.K (upd H q (.lst [])) l zs := by
    have e : upd H q (.lst []) l = H l := upd_ne hlq
    unfold SqL Rd at hz ⊢
    simp only [e]
    exact hz
  obtain ⟨mA, J, _⟩ := ins_get I.hok ha2
  obtain ⟨od, J, _⟩ := J.look
  unfold Builtin.List.listExtendWith
  refine wpAny_bind (J.type.here ?_)
  have same : Builtin.List.listSameRef (.ref q) (.ref a) = false := by simp [Builtin.List.listSameRef, nqa]
  have notL : (Value.ref C == Value.type "list") = false := rfl
  have notT : (Value.ref C == Value.type "tuple") = false := rfl
  simp only [same, notL, notT, Bool.or_false, Bool.false_eq_true, if_false]
  refine wpAny_bind (wpAny_mono (run_iter (X := X) (Q := fun v s' => ∃ it, v = .ref it ∧ L2.Inv X pins σ (upd H q (.lst [])) s' ∧ s'.heap.IsListIter it l 0 ∧ FpOk X pins (upd H q (.lst [])) it) hr hfr O I ha2 hl hz2 fun it s2 I2 st fp => ⟨it, rfl, I2, st, fp⟩) (fun v s2 ⟨it, ev, I2, st, fp⟩ => ?_) fun e s' he => herr e s' he)
  subst ev
  have sw : wpAny (model X.prog X.w) A1.in1 (holding [Value.ref it] (Builtin.List.listLengthHint (.ref a))) (fun b s' => b = true ∧ s' = s2) (fun e s' => Rs (.error e) s') s2 := by
    obtain ⟨mA, J, _⟩ := ins_get I2.hok ha2
    obtain ⟨od, J, _⟩ := J.look
    exact wpAny_holding (hint_yes n I2.kIn J ⟨rfl, rfl⟩)
  refine wpAny_bind (wpAny_mono sw (fun b s3 ⟨eb, es⟩ => ?_) fun _ _ z => z)
  subst eb
  subst es
  have go : ∀ s4, L2.Inv X pins σ (upd H q (.lst [])) s4 → s4.heap.IsListIter it l 0 → codeAny (model X.prog X.w) A1 (.builtin "list.extend.loop" ⟨[.ref q, .ref it, .none], []⟩) Rs s4 := fun s4 I4 st4 =>
    fill_loop hh hlq hzs hz hdone zs.length 0 s4 (by omega) I4 st4 fp
  refine PySem.W.KFB.if_so rfl ?_
  obtain ⟨z, its, k1, r3, hl3, e3⟩ := I2.lstM upd_same
  cases r3
  refine wpAny_bind (wpAny_rule (wpAny_bind ?_))
  show wpAny _ _ (updateSeq q (·.push .none) >>= fun _ => updateSeq q (·.pop)) _ _ _
  refine wpAny_bind (wpAny_updateSeq e3 rfl ?_)
  have I5 := I2.lset (f := (·.push Value.none)) (its' := [Value.none]) (ys := [.non]) (t' := s3.toks) upd_same e3 (by simp) (.cons rfl .nil) (by rw [List.length_singleton, sizeLine_eq]; decide)
  obtain ⟨z4, its4, k4, r4, hl4, e4⟩ := I5.lstM upd_same
  obtain ⟨u4, rfl, ru4⟩ := r4.one
  have nq : it ≠ q := fun z => by
    have := fp.1
    rw [z, upd_same] at this
    cases this
  refine wpAny_updateSeq e4 rfl ?_ (by show 1 ≤ sizeLine; rw [sizeLine_eq]; decide) (by show 0 ≤ sizeLine + 1; exact Nat.zero_le _)
  have I6 := I5.lset (f := (·.pop)) (its := [u4]) (its' := []) (ys := []) (t' := s3.toks) upd_same e4 (by rfl) .nil (Nat.zero_le _)
  rw [upd_upd, upd_upd] at I6
  exact wpAny_pure ⟨plainId_quiet PySem.F.plain_extend_loop _, go _ I6 (st.at fun o e => (Heap.get?_update_ne _ _ _ _ nq).trans ((Heap.get?_update_ne _ _ _ _ nq).trans e))⟩
def rListY (K : PySem.W.Frag) (C : Addr) (g : Str) : List V → Hp → VK → Prop := fun xs H Q => ∃ a dx fs l zs, xs = [.ref a] ∧ H a = some (.ins C dx fs) ∧ fs.lookup g = some (.ref l) ∧ SqL K H l zs ∧ zs.length ≤ sizeLine ∧ (∀ q, H q = none → l ≠ q) ∧ ∀ q, H q = none → Q (.ref q) (upd H q (.lst zs))
theorem call_listY {g : Str} (hc : X.calm = true) (O : ItOk X.prog X.w X.K X.mg X.base C g) (n : NoLen X.K C) (hr : Room 3 X.A) : CallR X (.type "list") (rListY X.K C g) := by
  intro pins s σ H xs us Q I rv h
  obtain ⟨a, dx, fs, l, zs, rfl, ha, hl, hz, hzs, hlq, hq⟩ := h
  obtain ⟨u, rfl, ru⟩ := rv.one
  cases ru
  refine callType_codes (Q₁ := fun obj s₁ => obj = .ref s.heap.objs.size ∧ s₁ = { s with heap := s.heap.push { cls := .type "list", data := .seq #[] } })
    PySem.F.called_list (PySem.F.typeCall_list_1 _) PySem.F.entry_list_init (code_list_new _ ⟨rfl, rfl⟩) ?_
  rintro obj s₁ ⟨rfl, rfl⟩
  have hS : (s.heap.push { cls := .type "list", data := .seq #[] }).get? s.heap.objs.size = some { cls := .type "list", data := .seq #[] } := Heap.get?_push_size _ rfl
  refine ⟨⟨_, hS, rfl⟩, PySem.F.args_list_init_2 _ _, ?_⟩
  have fr := I.hok.fresh (Nat.le_refl _)
  have I1 : L2.Inv X pins σ (upd H s.heap.objs.size (.lst [])) { s with heap := s.heap.push { cls := .type "list", data := .seq #[] } } := I.lnew (its := []) (t' := s.toks) .nil (Nat.zero_le _)
  show wpAny _ _ (do
    let old ← Builtin.List.listItems (.ref s.heap.objs.size)
    Builtin.List.listUpdate (.ref s.heap.objs.size) (fun _ => #[])
    letGo old.toList.reverse
    Builtin.List.listExtendWith (.ref s.heap.objs.size) (.ref a) .none) _ _ _
  unfold Builtin.List.listItems
  refine wpAny_bind (wpAny_bind (wpAny_seqItems hS rfl (wpAny_pure ?_)))
  show wpAny _ _ (updateSeq s.heap.objs.size (fun _ => #[]) >>= fun _ => letGo (#[] : Array Value).toList.reverse >>= fun _ =>
    Builtin.List.listExtendWith (.ref s.heap.objs.size) (.ref a) .none) _ _ _
  refine wpAny_bind (wpAny_updateSeq hS rfl (wpAny_bind (wpAny_letGo ?_)))
  have I2 := I1.lset (f := fun _ => #[]) (its := []) (its' := []) (ys := []) (t' := s.toks) upd_same hS rfl .nil (Nat.zero_le _)
  rw [upd_upd] at I2
  have hr1 : Room 1 X.A.in1.in1 := Room.in1 (Room.in1 hr)
  exact fill_from (A1 := X.A.in1) (Rs := wants (fun r s₂ => r = .none ∧ EP X pins σ Q (.ref s.heap.objs.size) s₂) X.xe) hr1 rfl (by have := I.ok.hd hc; exact this) O n I2 ha fr hl hz hzs (hlq _ fr)
    (fun s' I' => ⟨rfl, .ref s.heap.objs.size, _, I', rfl, hq _ fr⟩) fun e s' he => he
def rOwnOp (C : Addr) (sp : Sp) (E : XK) : R2 := fun x y H Q => ∃ a dx fs b dy gs, x = .ref a ∧ y = .ref b ∧ H a = some (.ins C dx fs) ∧ H b = some (.ins C dy gs) ∧ sp [x, y] H Q E
def rOwnIn (C : Addr) (neg : Bool) (sp : Sp) (E : XK) : R2 := fun x o H Q => ∃ a dx fs, o = .ref a ∧ H a = some (.ins C dx fs) ∧ sp [o, x] H (fun v H' => ∃ b, v = .bl b ∧ Q (.bl (xor neg b)) H') E
end
end
section
structure Dat (K : PySem.W.Frag) {β : Type} (r : Rp β) where
  dec : DecidableEq β
  enc : β → PyData
  dep : Nat
  dp : ∀ {H : Hp} {v : V} {b : β}, r H v b → Dp K H v (enc b)
  lay : ∀ {H : Hp} {v : V} {b : β}, r H v b → (enc b).canLay0 = true
  dpt : ∀ b, (enc b).depth ≤ dep
  eqv : ∀ a b, PyData.eqv (enc a) (enc b) = @decide (a = b) (dec a b)
section
variable {K : PySem.W.Frag} {α β : Type}
def datS : Dat K rS where
  dec := inferInstance
  enc := .str
  dep := 0
  dp := fun h => by rw [h.1]; exact .str _
  lay := fun h => by simp only [PyData.canLay0]; exact h.2.2
  dpt := fun b => by simp [PyData.depth]
  eqv := fun a b => by
    simp only [PyData.eqv]
    by_cases h : a = b
    · subst h; simp
    · rw [decide_eq_false h]
      exact beq_eq_false_iff_ne.mpr h
def datI : Dat K rI where
  dec := inferInstance
  enc := .int
  dep := 0
  dp := fun h => by rw [show _ = _ from h]; exact .int _
  lay := fun _ => by simp [PyData.canLay0]
  dpt := fun b => by simp [PyData.depth]
  eqv := fun a b => by
    simp only [PyData.eqv]
    by_cases h : a = b
    · subst h; simp
    · rw [decide_eq_false h]
      exact beq_eq_false_iff_ne.mpr h
def datB : Dat K rB where
  dec := inferInstance
  enc := .bool
  dep := 0
  dp := fun h => by rw [show _ = _ from h]; exact .bl _
  lay := fun _ => by simp [PyData.canLay0]
  dpt := fun b => by simp [PyData.depth]
  eqv := fun a b => by cases a <;> cases b <;> simp [PyData.eqv]
def encO' (f : α → PyData) : Option α → PyData
  | .none => .none
  | .some a => f a
def datO : Dat K (rO rS) where
  dec := inferInstance
  enc := encO' .str
  dep := 0
  dp := fun {H v b} h => match b, h with
    | .none, h => by rw [show v = _ from h]; exact .non
    | .some _, h => by rw [show v = _ from h.1]; exact .str _
  lay := fun {H v b} h => match b, h with
    | .none, _ => by simp [PyData.canLay0, encO']
    | .some _, h => by simp only [PyData.canLay0, encO']; exact h.2.2
  dpt := fun b => by cases b <;> simp [PyData.depth, encO']
  eqv := fun a b => by
    cases a with
    | none => cases b <;> simp [PyData.eqv, encO']
    | some a =>
      cases b with
      | none => simp [PyData.eqv, encO']
      | some b =>
        simp only [PyData.eqv, encO']
        by_cases h : a = b
        · subst h; simp
        · rw [decide_eq_false fun e => h (Option.some.inj e)]
          exact beq_eq_false_iff_ne.mpr h
theorem enc_lays {e : β → PyData} {r : Rp β} {H : Hp} (h : ∀ {v : V} {b : β}, r H v b → (e b).canLay0 = true) : ∀ {vs : List V} {xs : List β}, A2 (r H) vs xs → PyData.canLayAll0 (xs.map e) = true
  | _, _, .nil => by simp [PyData.canLayAll0]
  | _, _, .cons a t => by simp [PyData.canLayAll0, h a, enc_lays h t]
theorem enc_deps {e : β → PyData} {n : Nat} (h : ∀ b, (e b).depth ≤ n) : ∀ xs : List β, PyData.depthAll (xs.map e) ≤ n
  | [] => by simp [PyData.depthAll]
  | x :: xs => by
    have h1 := enc_deps h xs
    have h2 := h x
    simp only [List.map_cons, PyData.depthAll]
    omega
theorem enc_eqs {e : β → PyData} {d : DecidableEq β} (h : ∀ a b, PyData.eqv (e a) (e b) = decide (a = b)) : ∀ xs ys : List β, PyData.eqvAll (xs.map e) (ys.map e) = decide (xs = ys)
  | [], [] => by simp [PyData.eqvAll]
  | [], _ :: _ => by simp [PyData.eqvAll]
  | _ :: _, [] => by simp [PyData.eqvAll]
  | x :: xs, y :: ys => by
    simp only [List.map_cons, PyData.eqvAll, h x y, enc_eqs h xs ys]
    by_cases e1 : x = y <;> by_cases e2 : xs = ys <;> simp [e1, e2]
theorem enc_dps {e : β → PyData} {r : Rp β} {H : Hp} (h : ∀ {v : V} {b : β}, r H v b → Dp K H v (e b)) : ∀ {vs : List V} {xs : List β}, A2 (r H) vs xs → DpAll K H vs (xs.map e)
  | _, _, .nil => .nil
  | _, _, .cons a t => .cons (h a) (enc_dps h t)
def datT {r : Rp β} (D : Dat K r) : Dat K (rT K r) where
  dec := by have := D.dec; infer_instance
  enc := fun xs => .tuple (xs.map D.enc)
  dep := D.dep + 1
  dp := fun ⟨a, vs, ev, h, q⟩ => by rw [ev]; exact .tup h (enc_dps D.dp q)
  lay := fun ⟨a, vs, ev, h, q⟩ => by simp only [PyData.canLay0]; exact enc_lays D.lay q
  dpt := fun b => by simp only [PyData.depth]; have := enc_deps D.dpt b; omega
  eqv := fun a b => by simp only [PyData.eqv]; exact enc_eqs (d := D.dec) D.eqv a b
def datL {r : Rp β} (D : Dat K r) : Dat K (rL r) where
  dec := by have := D.dec; infer_instance
  enc := fun xs => .list (xs.map D.enc)
  dep := D.dep + 1
  dp := fun ⟨a, vs, ev, h, q⟩ => by rw [ev]; exact .lst (SqL.of h) (enc_dps D.dp q)
  lay := fun ⟨a, vs, ev, h, q⟩ => by simp only [PyData.canLay0]; exact enc_lays D.lay q
  dpt := fun b => by simp only [PyData.depth]; have := enc_deps D.dpt b; omega
  eqv := fun a b => by simp only [PyData.eqv]; exact enc_eqs (d := D.dec) D.eqv a b
def datP {r : Rp α} {q : Rp β} (D : Dat K r) (E : Dat K q) : Dat K (rP K r q) where
  dec := by have := D.dec; have := E.dec; infer_instance
  enc := fun p => .tuple [D.enc p.1, E.enc p.2]
  dep := max D.dep E.dep + 1
  dp := fun ⟨a, x, y, ev, h, h1, h2⟩ => by rw [ev]; exact .tup h (.cons (D.dp h1) (.cons (E.dp h2) .nil))
  lay := fun ⟨a, x, y, ev, h, h1, h2⟩ => by simp [PyData.canLay0, PyData.canLayAll0, D.lay h1, E.lay h2]
  dpt := fun b => by
    have h1 := D.dpt b.1
    have h2 := E.dpt b.2
    simp only [PyData.depth, PyData.depthAll]
    omega
  eqv := fun a b => by
    obtain ⟨a1, a2⟩ := a
    obtain ⟨b1, b2⟩ := b
    simp only [PyData.eqv, PyData.eqvAll, D.eqv, E.eqv, Bool.and_true]
    have := D.dec; have := E.dec
    by_cases h1 : a1 = b1 <;> by_cases h2 : a2 = b2 <;> simp [h1, h2]
theorem dat_shaped {r : Rp β} (D : Dat K r) (h : D.dep ≤ 64) {H : Hp} {v : V} {b : β} (hv : r H v b) : SeqAt.shaped (D.enc b) = true := by
  have h1 := D.dpt b
  show ((D.enc b).canLay0 && decide ((D.enc b).depth ≤ 64)) = true
  rw [Bool.and_eq_true]
  exact ⟨D.lay hv, decide_eq_true (by omega)⟩
end
def DatC (K : PySem.W.Frag) {β : Type} (r : Rp β) : Prop := ∃ D : Dat K r, D.dep < 64
class DatN (K : PySem.W.Frag) {β : Type} (r : Rp β) (n : outParam Nat) : Prop where
  ex : ∃ D : Dat K r, D.dep ≤ n
instance {K : PySem.W.Frag} : DatN K rS 0 := ⟨datS, Nat.le_refl _⟩
instance {K : PySem.W.Frag} : DatN K rI 0 := ⟨datI, Nat.le_refl _⟩
instance {K : PySem.W.Frag} : DatN K rB 0 := ⟨datB, Nat.le_refl _⟩
instance {K : PySem.W.Frag} : DatN K (rO rS) 0 := ⟨datO, Nat.le_refl _⟩
instance {K : PySem.W.Frag} {β : Type} {r : Rp β} {n : Nat} [d : DatN K r n] : DatN K (rT K r) (n + 1) := ⟨let ⟨D, h⟩ := d.ex; ⟨datT D, Nat.succ_le_succ h⟩⟩
instance {K : PySem.W.Frag} {β : Type} {r : Rp β} {n : Nat} [d : DatN K r n] : DatN K (rL r) (n + 1) := ⟨let ⟨D, h⟩ := d.ex; ⟨datL D, Nat.succ_le_succ h⟩⟩
instance {K : PySem.W.Frag} {α β : Type} {r : Rp α} {q : Rp β} {n m : Nat} [d : DatN K r n] [e : DatN K q m] : DatN K (rP K r q) (n + m + 1) := ⟨let ⟨D, h⟩ := d.ex; let ⟨E, h'⟩ := e.ex; ⟨datP D E, by show max D.dep E.dep + 1 ≤ _; omega⟩⟩
theorem datC_of {K : PySem.W.Frag} {β : Type} {r : Rp β} {n : Nat} [d : DatN K r n] (h : n < 64) : DatC K r := let ⟨D, e⟩ := d.ex; ⟨D, Nat.lt_of_le_of_lt e h⟩
noncomputable def eqB {α : Type} (a b : α) : Bool := @decide (a = b) (Classical.propDecidable _)
noncomputable def memB {α : Type} (a : α) (l : List α) : Bool := @decide (a ∈ l) (Classical.propDecidable _)
theorem eqB_iff {α : Type} {a b : α} : eqB a b = true ↔ a = b := by unfold eqB; rw [@decide_eq_true_iff]
theorem memB_iff {α : Type} {a : α} {l : List α} : memB a l = true ↔ a ∈ l := by unfold memB; rw [@decide_eq_true_iff]
theorem eqB_not {α : Type} {a b : α} : eqB a b = false ↔ ¬ a = b := ⟨fun h e => (by rw [eqB_iff.mpr e] at h; cases h), fun h => by
  cases q : eqB a b with
  | false => rfl
  | true => exact absurd (eqB_iff.mp q) h⟩
theorem memB_not {α : Type} {a : α} {l : List α} : memB a l = false ↔ a ∉ l := ⟨fun h e => (by rw [memB_iff.mpr e] at h; cases h), fun h => by
  cases q : memB a l with
  | false => rfl
  | true => exact absurd (memB_iff.mp q) h⟩
section
variable {X : Cx} (K : PySem.W.Frag)
def rInTD (K : PySem.W.Frag) (neg : Bool) : R2 := fun x y H Q => ∃ d ds, Dp K H x d ∧ Dp K H y (.tuple ds) ∧ SeqAt.shaped d = true ∧ SeqAt.shaped (.tuple ds) = true ∧ Q (.bl (xor neg (ds.any fun z => PyData.eqv z d))) H
theorem k_ninTD (hu : X.A.units + 65 < cLine) (hK : X.K = K := by rfl) : OpR X (compareOp .NotIn) (rInTD K true) := by
  subst hK
  intro pins s σ H x y v u Q I rx ry h
  obtain ⟨d, ds, hd, he, sd, se, q⟩ := h
  obtain ⟨as, r1⟩ := Dp.reads I d x v hd rx
  obtain ⟨bs, r2⟩ := Dp.reads I (.tuple ds) y u he ry
  exact SeqAt.notIn_tuple_reads r2 r1 (SeqAt.canLay_of_shaped se) (SeqAt.canLay_of_shaped sd) (room_in_shaped sd hu) ⟨.bl _, H, I, rfl, by simpa using q⟩
def rCatD (K : PySem.W.Frag) : R2 := fun x y H Q => ∃ a b xs ys, x = .ref a ∧ y = .ref b ∧ SqT K H a xs ∧ SqT K H b ys ∧ xs.length + ys.length ≤ sizeLine ∧
  (xs = [] → Q (.ref b) H) ∧ (xs ≠ [] → ys = [] → Q (.ref a) H) ∧ (xs ≠ [] → ys ≠ [] → NewT H Q (xs ++ ys))
theorem op_catD : OpR X (binaryOp .Add) (rCatD X.K) := by
  intro pins s σ H x y v u Q I rx ry hw
  obtain ⟨a, b, xs, ys, rfl, rfl, ha, hb, hz, q0, q1, q2⟩ := hw
  cases rx
  cases ry
  obtain ⟨its, t1, p1, _⟩ := I.tuple ha
  obtain ⟨jts, t2, p2, _⟩ := I.tuple hb
  by_cases hx : xs = []
  · subst hx
    cases t1
    exact cat_tup0 p1 p2 ⟨.ref b, H, I, rfl, q0 rfl⟩
  · refine HT.cat_tup p1 p2 (fun z => hx (t1.nil_iff.mp z)) (fun z => ⟨.ref a, H, I, rfl, q1 hx (t2.nil_iff.mp z)⟩) (fun z => ?_) (by rw [← t1.length, ← t2.length]; exact hz)
    have J := tup_laid (h := s.heap) (s := s) I (t1.append t2) (by rw [List.length_append]; exact hz)
    exact ⟨.ref s.heap.objs.size, _, J, rfl, q2 hx (fun w => z (t2.nil_iff.mpr w)) _ _ (I.hok.fresh (Nat.le_refl _)) rfl⟩
def rSlD (K : PySem.W.Frag) : V → Option Int → Option Int → Hp → VK → Prop := fun x lo hi H Q => ∃ a xs, x = .ref a ∧ SqT K H a xs ∧
  (HT.sIx xs.length 0 lo = 0 ∧ HT.sIx xs.length xs.length hi = xs.length → Q (.ref a) H) ∧ (¬ (HT.sIx xs.length 0 lo = 0 ∧ HT.sIx xs.length xs.length hi = xs.length) → NewT H Q (cutV xs lo hi))
theorem k_catA (hK : X.K = K := by rfl) : OpR X (binaryOp .Add) (rCatD K) := by subst hK; exact op_catD
end
section
variable {K : PySem.W.Frag} {H0 H1 H H' : Hp} {σ : L2.St} {G G' Gx : Cells K} {α β γ : Type}
variable {ta tb tc te : TE} {r : Rp α} {q : Rp β} {a x : α} {b y : β}
theorem a_eqD (h : Ev r ta G a) (h' : Ev r tb G x) (M : Mono r) (DD : DatC K r) : Ev rB (tOp (rEqD K) ta tb) G (eqB a x) := let ⟨D, hd⟩ := DD; ev_op h h' fun H u v hu hv Q k =>
  ⟨_, _, D.dp hu, D.dp hv, dat_shaped D (Nat.le_of_lt hd) hu, dat_shaped D (Nat.le_of_lt hd) hv, k _ H (Same.refl H) (by show V.bl _ = V.bl _; rw [D.eqv]; unfold eqB; congr)⟩
theorem a_neD (h : Ev r ta G a) (h' : Ev r tb G x) (M : Mono r) (DD : DatC K r) : Ev rB (tOp (rNeD K) ta tb) G (!eqB a x) := let ⟨D, hd⟩ := DD; ev_op h h' fun H u v hu hv Q k =>
  ⟨_, _, D.dp hu, D.dp hv, dat_shaped D (Nat.le_of_lt hd) hu, dat_shaped D (Nat.le_of_lt hd) hv, k _ H (Same.refl H) (by show V.bl _ = V.bl _; rw [D.eqv]; unfold eqB; congr)⟩
def memD {r : Rp α} (D : Dat K r) (x : α) (xs : List α) : Bool := xs.any fun z => @decide (z = x) (D.dec z x)
theorem memD_iff {r : Rp α} {D : Dat K r} {x : α} {xs : List α} : memD D x xs = true ↔ x ∈ xs := by
  unfold memD
  rw [List.any_eq_true]
  constructor
  · rintro ⟨z, hz, e⟩
    rw [@decide_eq_true_iff _ (D.dec z x)] at e
    exact e ▸ hz
  · exact fun h => ⟨x, h, @decide_eq_true _ (D.dec x x) rfl⟩
theorem memD_enc {r : Rp α} (D : Dat K r) (x : α) (xs : List α) : ((xs.map D.enc).any fun z => PyData.eqv z (D.enc x)) = memD D x xs := by
  unfold memD
  rw [List.any_map]
  congr 1
  funext z
  exact D.eqv z x
theorem memD_dec {r : Rp α} (D : Dat K r) (x : α) (xs : List α) : memD D x xs = memB x xs := by
  rw [Bool.eq_iff_iff, memD_iff, memB_iff]
theorem a_inLD {xs : List α} (h' : Ev (rL r) tb G xs) (h : Ev r ta G x) (M : Mono r) (DD : DatC K r) : Ev rB (tOp (rInD K) ta tb) G (memB x xs) := let ⟨D, hd⟩ := DD; ev_op h h' fun H u v hu hv Q k =>
  ⟨_, _, D.dp hu, (datL D).dp hv, dat_shaped D (by omega) hu, dat_shaped (datL D) (by show D.dep + 1 ≤ 64; omega) hv, k _ H (Same.refl H) (by show V.bl _ = V.bl _; rw [memD_enc, memD_dec])⟩
theorem a_ninLD {xs : List α} (h' : Ev (rL r) tb G xs) (h : Ev r ta G x) (M : Mono r) (DD : DatC K r) : Ev rB (tOp (rNotInD K) ta tb) G (!memB x xs) := let ⟨D, hd⟩ := DD; ev_op h h' fun H u v hu hv Q k =>
  ⟨_, _, D.dp hu, (datL D).dp hv, dat_shaped D (by omega) hu, dat_shaped (datL D) (by show D.dep + 1 ≤ 64; omega) hv, k _ H (Same.refl H) (by show V.bl _ = V.bl _; rw [memD_enc, memD_dec])⟩
theorem a_inTD {xs : List α} (h' : Ev (rT K r) tb G xs) (h : Ev r ta G x) (M : Mono r) (DD : DatC K r) : Ev rB (tOp (rInTD K false) ta tb) G (memB x xs) := let ⟨D, hd⟩ := DD; ev_op h h' fun H u v hu hv Q k =>
  ⟨_, _, D.dp hu, (datT D).dp hv, dat_shaped D (by omega) hu, dat_shaped (datT D) (by show D.dep + 1 ≤ 64; omega) hv, k _ H (Same.refl H) (by show V.bl _ = V.bl _; rw [memD_enc, Bool.false_xor, memD_dec])⟩
theorem a_ninTD {xs : List α} (h' : Ev (rT K r) tb G xs) (h : Ev r ta G x) (M : Mono r) (DD : DatC K r) : Ev rB (tOp (rInTD K true) ta tb) G (!memB x xs) := let ⟨D, hd⟩ := DD; ev_op h h' fun H u v hu hv Q k =>
  ⟨_, _, D.dp hu, (datT D).dp hv, dat_shaped D (by omega) hu, dat_shaped (datT D) (by show D.dep + 1 ≤ 64; omega) hv, k _ H (Same.refl H) (by show V.bl _ = V.bl _; rw [memD_enc, Bool.true_xor, memD_dec])⟩
theorem ev_catT {xs ys : List α} (h : Ev (rT K r) ta G xs) (h' : Ev (rT K r) tb G ys) (hz : xs.length + ys.length ≤ 12000000) (M : Mono r) : Ev (rT K r) (tOp (rCatD K) ta tb) G (xs ++ ys) := ev_op h h' fun H u v ⟨p, vs, ev, hp, z⟩ ⟨p', vs', ev', hp', z'⟩ Q k =>
  ⟨p, p', vs, vs', ev, ev', hp, hp', by rw [z.len, z'.len]; exact sz hz, fun e => by
      subst e
      cases z
      exact k _ H (Same.refl H) ⟨p', vs', rfl, hp', z'⟩, fun _ e => by
      subst e
      cases z'
      exact k _ H (Same.refl H) ⟨p, vs, rfl, hp, by rw [List.append_nil]; exact z⟩, fun _ _ l o hl hd => k _ _ (same_new hl) ⟨l, _, rfl, SqD.of upd_same hd, (A2.app z' z).imp fun _ _ q => M.up (same_new hl) q⟩⟩
theorem ev_slT {xs : List α} {lo hi : Option Int} {tl th : TO} (h : Ev (rT K r) ta G xs) (hl : EvO tl G lo) (hh : EvO th G hi) (M : Mono r) : Ev (rT K r) (tSl (rSlD K) ta tl th) G (cut xs lo hi) := fun H0 σ H E Q k =>
  h H0 σ H E _ fun v H1 e1 ⟨p, vs, ev, hp, z⟩ => hl H0 σ H1 (E.grow e1) _ fun H2 e2 => hh H0 σ H2 (E.grow (e1.trans e2)) _ fun H3 e3 => by
    have s13 := (e1.trans e2).trans e3
    have z3 := z.imp fun _ _ q => M.up (e2.trans e3) q
    refine ⟨p, vs, ev, ((ext_same (e2.trans e3)).d _ _ hp).t, fun ⟨c1, c2⟩ => ?_, fun _ l o hl hd => k _ _ (s13.trans (same_new hl)) ⟨l, _, rfl, SqD.of upd_same hd, (cut_A2 z3 lo hi).imp fun _ _ q => M.up (same_new hl) q⟩⟩
    have e : cut xs lo hi = xs := by
      unfold cut
      rw [← z.len, c1, c2, List.drop_zero, Nat.sub_zero, z.len, List.take_length]
    exact k _ H3 s13 (by rw [e]; exact ⟨p, vs, rfl, (ext_same (e2.trans e3)).d _ _ hp, z3⟩)
end
end
section
section
variable {K : PySem.W.Frag} {H0 H1 H H' : Hp} {σ : L2.St} {G G' Gx : Cells K} {α β γ δ ε : Type}
variable {ta tb tc te td ty tx : TE} {r : Rp α} {q : Rp β} {x : α} {k : Str}
def dkey {α : Type} (xs : List (Str × α)) (k : Str) : Option α := (xs.find? fun kv => decide (kv.1 = k)).map (·.2)
def dput {α : Type} (xs : List (Str × α)) (k : Str) (v : α) : List (Str × α) := if (xs.any fun kv => decide (kv.1 = k)) = true then xs.map (fun kv => if kv.1 = k then (kv.1, v) else kv) else xs ++ [(k, v)]
abbrev Kv (P : V → α → Prop) (x : Key × V) (y : Str × α) : Prop := (x.1 = Sum.inr y.1 ∧ okS y.1) ∧ P x.2 y.2
theorem kv_key {P : V → α → Prop} {kvs : List (Key × V)} {xs : List (Str × α)} (h : A2 (Kv P) kvs xs) (k : Str) : (∃ v b, valV kvs (Sum.inr k : Key) = some v ∧ dkey xs k = some b ∧ P v b) ∨ (valV kvs (Sum.inr k : Key) = none ∧ dkey xs k = none) := by
  induction h with
  | nil => exact .inr ⟨rfl, rfl⟩
  | @cons a b as bs h1 h2 ih =>
    by_cases e : b.1 = k
    · refine .inl ⟨a.2, b.2, ?_, ?_, h1.2⟩
      · exact valV_pos (by rw [h1.1.1, e])
      · unfold dkey
        rw [List.find?_cons, decide_eq_true e]
        rfl
    · have ea : ¬ a.1 = (Sum.inr k : Key) := fun z => e (by rw [h1.1.1] at z; exact Sum.inr.inj z)
      have eb : dkey (b :: bs) k = dkey bs k := by
        unfold dkey
        rw [List.find?_cons, decide_eq_false e]
      rw [valV_neg ea, eb]
      exact ih
theorem kv_any {P : V → α → Prop} {kvs : List (Key × V)} {xs : List (Str × α)} (h : A2 (Kv P) kvs xs) (k : Str) : (kvs.any fun kv => decide (kv.1 = (Sum.inr k : Key))) = xs.any fun kv => decide (kv.1 = k) := by
  induction h with
  | nil => rfl
  | @cons a b as bs h1 h2 ih =>
    rw [List.any_cons, List.any_cons, ih]
    congr 1
    exact decide_eq_decide.mpr ⟨fun z => Sum.inr.inj (h1.1.1.symm.trans z), fun z => by rw [h1.1.1, z]⟩
theorem kv_map {P : V → α → Prop} {kvs : List (Key × V)} {xs : List (Str × α)} (h : A2 (Kv P) kvs xs) {k : Str} {v : V} {b : α} (hv : P v b) : A2 (Kv P) (kvs.map fun kv => if kv.1 = (Sum.inr k : Key) then (kv.1, v) else kv) (xs.map fun kv => if kv.1 = k then (kv.1, b) else kv) := by
  induction h with
  | nil => exact .nil
  | @cons a c as bs h1 h2 ih =>
    rw [List.map_cons, List.map_cons]
    refine .cons ?_ ih
    by_cases e : c.1 = k
    · rw [if_pos (show a.1 = (Sum.inr k : Key) by rw [h1.1.1, e]), if_pos e]
      exact ⟨h1.1, hv⟩
    · rw [if_neg fun z => e (by rw [h1.1.1] at z; exact Sum.inr.inj z), if_neg e]
      exact h1
theorem kv_put {P : V → α → Prop} {kvs : List (Key × V)} {xs : List (Str × α)} (h : A2 (Kv P) kvs xs) {k : Str} {v : V} {b : α} (hk : okS k) (hv : P v b) : A2 (Kv P) (putK kvs (Sum.inr k : Key) v) (dput xs k b) := by
  unfold putK dput
  rw [kv_any h k]
  split
  · exact kv_map h hv
  · exact A2.app (.one ⟨⟨rfl, hk⟩, hv⟩) h
def rD {α : Type} (r : Rp α) : Rp (List (Str × α)) := fun H v xs => ∃ a kvs, v = .ref a ∧ L2.Rd H a (.dK kvs) ∧ A2 (Kv (r H)) kvs xs
def rLk {α : Type} (r : Rp α) : Rp (List (Str × α)) := fun H v xs => ∃ a o kvs, v = .ref a ∧ H a = some (.frz o (.dK kvs)) ∧ A2 (Kv (r H)) kvs xs
theorem Rd_up {o : HO} {a : Addr} (e : Same H H') (h : L2.Rd H a o) : L2.Rd H' a o := by
  rcases h with h | ⟨u, h⟩
  · exact .inl (e _ _ h)
  · exact .inr ⟨u, e _ _ h⟩
instance [M : Mono r] : Mono (rD r) := ⟨fun e ⟨a, kvs, ev, h, z⟩ => ⟨a, kvs, ev, Rd_up e h, z.imp fun _ _ w => ⟨w.1, M.up e w.2⟩⟩⟩
instance [M : Mono r] : Mono (rLk r) := ⟨fun e ⟨a, o, kvs, ev, h, z⟩ => ⟨a, o, kvs, ev, e _ _ h, z.imp fun _ _ w => ⟨w.1, M.up e w.2⟩⟩⟩
theorem a_dct {i : Nat} {xs : List (Str × α)} (h : G[i]? = some (some (.ow (nd K r) xs))) : Ev (rD r) (tVar i) G xs := fun H0 σ H E Q k => by
  obtain ⟨own, _, _, h3⟩ := E.at_
  obtain ⟨v, hv, p, kvs, _, ev, hp, z⟩ := h3 i _ h
  exact ⟨v, hv, k v H (Same.refl H) ⟨p, kvs, ev, .inl hp, z.imp fun _ _ w => ⟨w.1, w.2.now⟩⟩⟩
theorem a_lkd {i : Nat} {M : Mono (rLk r)} {xs : List (Str × α)} (h : G[i]? = some (some (.ro (rLk r) M xs))) : Ev (rD r) (tVar i) G xs := (a_ro h).imp fun H v ⟨a, o, kvs, ev, hp, z⟩ => ⟨a, kvs, ev, .inr ⟨o, hp⟩, z⟩
theorem nw_dnew [M : Mono r] : Nw (nd K r) tDNewK G [] := fun H0 σ H E Q k p hp => k _ _ [p] (same_new hp) (fun b hb => by rw [List.mem_singleton.mp hb]; exact hp) ⟨p, [], rfl, rfl, upd_same, .nil⟩
theorem a_dget2 {xs : List (Str × α)} (h : Ev (rD r) td G xs) (h' : Ev rS ty G k) (h2 : Ev r tx G x) (M : Mono r) : Ev r (tDGet2 td ty tx) G ((dkey xs k).getD x) := fun H0 σ H E Q c =>
  h H0 σ H E _ fun v H1 e1 ⟨a, kvs, ev, hr, z⟩ => ⟨a, ev, .inl ⟨kvs, hr⟩, h' H0 σ H1 (E.grow e1) _ fun w H2 e2 hw => h2 H0 σ H2 (E.grow (e1.trans e2)) _ fun y H3 e3 hy => by
    have hr3 := Rd_up (e2.trans e3) hr
    have z3 := z.imp fun _ _ w => (⟨w.1, M.up (e2.trans e3) w.2⟩ : Kv (r H3) _ _)
    refine ⟨valV kvs (Sum.inr k : Key), .inl ⟨kvs, Sum.inr k, hr3, hw.1, rfl⟩, ?_⟩
    rcases kv_key z3 k with ⟨v', b', e5, e6, hq⟩ | ⟨e5, e6⟩
    · rw [e5]; exact c _ H3 ((e1.trans e2).trans e3) (by rw [e6]; exact hq)
    · rw [e5]; exact c _ H3 ((e1.trans e2).trans e3) (by rw [e6]; exact hy)⟩
theorem a_dget {xs : List (Str × α)} (h : Ev (rD r) td G xs) (h' : Ev rS ty G k) (M : Mono r) (hx : dkey xs k = some x) : Ev r (tDGet td ty) G x := fun H0 σ H E Q c =>
  h H0 σ H E _ fun v H1 e1 ⟨a, kvs, ev, hr, z⟩ => h' H0 σ H1 (E.grow e1) _ fun w H2 e2 hw => by
    rcases kv_key z k with ⟨v', b', e5, e6, hq⟩ | ⟨e5, e6⟩
    · rw [hx] at e6
      cases e6
      exact ⟨a, v', ev, .inl ⟨kvs, Sum.inr k, Rd_up e2 hr, hw.1, e5.symm⟩, c _ H2 (e1.trans e2) (M.up e2 hq)⟩
    · rw [hx] at e6
      cases e6
theorem l_dput {i : Nat} {xs : List (Str × α)} {tv : TE} {D : Ends} {x' : α} (hi : G[i]? = some (some (.ow (nd K r) xs))) (hk : Ev rS ty G k) (h : Ev r tv G x') (ex : x' = x) (hz : xs.length < 12000000) (c : Nx H0 (G.set i (some (.ow (nd K r) (dput xs k x)))) D.nx) (F : Frz K r := by infer_instance) :
    Sv H0 G (sDPut (tVar i) ty tv) D := fun σ H ⟨H1, e1, E⟩ => by
  subst ex
  refine h H1 σ H E _ fun w H2 e2 hw => ?_
  have E2 := E.grow e2
  obtain ⟨own, h1, h2, h3⟩ := id E2.at_
  obtain ⟨v, hv, p, kvs, ea, ev, hp, z⟩ := h3 i _ hi
  subst ev
  refine ⟨_, hv, hk H1 σ H2 E2 _ fun y H3 e3 hy => ?_⟩
  have E3 := E2.grow e3
  have hp3 := e3 _ _ hp
  have hl : kvs.length < sizeLine := Nat.lt_of_le_of_lt (by rw [z.len]; omega) (by decide : 12000000 < sizeLine)
  refine ⟨p, _, rfl, .inl ⟨kvs, Sum.inr k, hp3, hy.1, hl, rfl⟩, c _ _ ⟨H1, e1, ?_⟩⟩
  have x0 : ExT K H3 (upd H3 p (.dK (putK kvs (Sum.inr k : Key) w))) := ext_upd hp3 fun z => z
  have z3 : A2 (Kv (Stb K r (upd H3 p (.dK (putK kvs (Sum.inr k : Key) w))))) kvs xs := z.imp fun _ _ q => ⟨q.1, (q.2.up (ext_same e3)).up x0⟩
  refine E3.mut (as := [p]) (R := nd K r) (R' := nd K r) hi hv x0 (fun c o hc ho => ?_) (fun w' bs hw' ⟨p', _, e6, e7, _, _⟩ => ?_) ⟨p, _, rfl, rfl, upd_same, kv_put z3 hy.2 ((stb (F.up (ext_same e3) hw)).up x0)⟩
  · rw [upd_ne fun z => hc (by rw [z]; exact List.mem_singleton.mpr rfl)]
    exact ho
  · rw [hv] at hw'
    cases hw'
    cases e7
    exact e6
theorem Env.lock {i : Nat} {xs : List (Str × α)} [M : Mono r] (E : Env H1 σ H G) (hi : G[i]? = some (some (.ow (nd K r) xs))) : ∃ p kvs, σ[i]? = some (some (.ref p)) ∧ H p = some (.dK kvs) ∧ H1 p = none ∧
    ∀ od, ExT K H (upd H p (.frz od (.dK kvs))) ∧ ∃ H2, Same H1 H2 ∧ Env H2 σ (upd H p (.frz od (.dK kvs))) (G.set i (rc (rLk r) xs)) := by
  classical
  obtain ⟨own, h1, h2, h3⟩ := E.at_
  obtain ⟨v, hv, p, kvs, ea, ev, hp, z⟩ := h3 i _ hi
  subst ev
  have hp1 : H1 p = none := (h1 i p (by rw [ea]; exact List.mem_singleton.mpr rfl)).1
  refine ⟨p, kvs, hv, hp, hp1, fun od => ?_⟩
  let L := upd H p (.frz od (.dK kvs))
  have xt0 : ExT K H L := ext_upd hp fun z => z
  refine ⟨xt0, ?_⟩
  let X : Addr → Prop := fun b => (∃ j, j ≠ i ∧ b ∈ own j)
  have hX : ∀ b, H1 b ≠ none → ¬ X b := fun b hb ⟨j, _, hj⟩ => hb (h1 j b hj).1
  have hXp : ¬ X p := fun ⟨j, hj, hpj⟩ => hj (h2 j i p hpj (by rw [ea]; exact List.mem_singleton.mpr rfl))
  have key : ∀ b, cutH L X b = if X b then none else L b := fun b => rfl
  have keep : ∀ b o, b ≠ p → H b = some o → L b = some o := fun b o hb ho => by
    show upd H p _ b = _
    rw [upd_ne hb]
    exact ho
  have s12 : Same H1 (cutH L X) := fun b o ho => by
    rw [key, if_neg (hX b (by rw [ho]; exact fun z => nomatch z))]
    exact keep b o (fun e => by rw [e, hp1] at ho; cases ho) (E.old b o ho)
  have s2 : Same (cutH L X) L := fun b o ho => by
    rw [key] at ho
    split at ho
    · cases ho
    · exact ho
  have xt : ExT K L (cutH L X) := .mk' fun a o9 t9 q => by
    have nX : ∀ o, L a = some o → isTup o → ¬ X a := fun o ho t ⟨j, hj, hja⟩ => by
      obtain ⟨u, hu, nu⟩ := (h1 j a hja).2
      have hne : a ≠ p := fun e => hj (h2 j i a hja (by rw [ea, e]; exact List.mem_singleton.mpr rfl))
      rw [keep a u hne hu] at ho
      cases ho
      exact nu t
    exact by rw [key, if_neg (nX _ q t9.up)]; exact q
  refine ⟨cutH L X, s12, s2, by rw [List.length_set]; exact E.len, fun j => if j = i then [] else own j, fun j b hb => ?_, fun j k b hj hk => ?_, fun j c hc => ?_⟩
  · by_cases hj : j = i
    · simp only [hj, if_true] at hb
      cases hb
    · simp only [hj, if_false] at hb
      obtain ⟨o, ho, nt⟩ := (h1 j b hb).2
      exact ⟨by rw [key, if_pos ⟨j, hj, hb⟩], o, keep b o (fun e => hXp ⟨j, hj, by rw [← e]; exact hb⟩) ho, nt⟩
  · by_cases hji : j = i
    · simp only [hji, if_true] at hj
      cases hj
    · by_cases hki : k = i
      · simp only [hki, if_true] at hk
        cases hk
      · simp only [hji, hki, if_false] at hj hk
        exact h2 j k b hj hk
  · by_cases hj : j = i
    · subst hj
      have hl : j < G.length := (List.getElem?_eq_some_iff.mp hi).1
      rw [List.getElem?_set_self hl] at hc
      cases hc
      refine ⟨_, hv, by simp, p, od, kvs, rfl, ?_, z.imp fun _ _ w => ⟨w.1, ((w.2.up xt0).up xt).now⟩⟩
      rw [key, if_neg hXp]
      exact upd_same
    · rw [List.getElem?_set_ne (Ne.symm hj)] at hc
      obtain ⟨v, hv, hk⟩ := h3 j c hc
      refine ⟨v, hv, ?_⟩
      simp only [hj, if_false]
      cases c with
      | ow R b => exact R.stay hk xt0 fun b hb o ho => keep b o (fun e => hXp ⟨j, hj, by rw [← e]; exact hb⟩) ho
      | ro r m b => exact ⟨hk.1, m.up s12 hk.2⟩
theorem nw_lock {i : Nat} {xs : List (Str × α)} {t : TE} {R : Rs K β} {b : β} [M : Mono r] (hi : G[i]? = some (some (.ow (nd K r) xs))) (h : Nw R t (G.set i (rc (rLk r) xs)) b) : Nw R (tLockE t) G b := fun H0 σ H E Q k => by
  obtain ⟨p, kvs, hv, hp, hp1, L⟩ := E.lock hi
  refine ⟨p, _, hp, trivial, fun od => ?_⟩
  obtain ⟨xt0, H2, s12, E2⟩ := L od
  refine h H2 σ _ E2 _ fun v H' as e hn hr => ?_
  have hl := e _ _ (show upd H p (.frz od (.dK kvs)) p = _ from upd_same)
  have xb : ExT K H' (upd H' p (.dK kvs)) := .mk' fun a o9 t9 q => by
    have hne : ∀ w, H' a = some w → (∀ z, w ≠ .frz od (.dK z)) → a ≠ p := fun w e1 n z => by
      rw [z, hl] at e1
      exact n _ (Option.some.inj e1).symm
    exact by rw [upd_ne (hne _ q fun _ z => by rw [z] at t9; exact t9)]; exact q
  have np : ∀ c ∈ as, c ≠ p := fun c hc z => by
    have := hn c hc
    rw [z, upd_same] at this
    cases this
  refine ⟨hl, k v _ as (fun c o ho => ?_) (fun c hc => ?_) (R.stay hr xb fun c hc o ho => by rw [upd_ne (np c hc)]; exact ho)⟩
  · by_cases hc : c = p
    · subst hc
      rw [hp] at ho
      cases ho
      exact upd_same
    · rw [upd_ne hc]
      exact e _ _ (by rw [upd_ne hc]; exact ho)
  · have := hn c hc
    rw [upd_ne (np c hc)] at this
    exact this
theorem wj_items {a : Addr} {o : Obj} {kvs : List (Key × V)} {xs : List (Str × α)} [M : Mono r] (h : H1 a = some (.frz o (.dK kvs))) (z : A2 (Kv (r H1)) kvs xs) : Wj (Iti a o kvs) (rP K rS r) H1 xs where
  go := fun H i x e hx => by
    obtain ⟨v, hv, w⟩ := z.get' hx
    refine ⟨⟨e _ _ h, (List.getElem?_eq_some_iff.mp hv).1⟩, fun u H' ⟨T, k, v', hk, eu, hT, eH⟩ => ?_⟩
    rw [hv] at hk
    cases hk
    subst eH
    refine ⟨same_new hT, T, kV k, v', eu, SqT.of upd_same, ⟨?_, w.1.2⟩, M.up (e.trans (same_new hT)) w.2⟩
    rw [show k = Sum.inr x.1 from w.1.1]
    rfl
  stop := fun H e => ⟨e _ _ h, Nat.le_of_eq z.len⟩
theorem wk_items {i : Nat} {M' : Mono (rLk r)} {xs : List (Str × α)} [M : Mono r] (h : G[i]? = some (some (.ro (rLk r) M' xs)) := by rfl) : Wk (iItems (tVar i)) (rP K rS r) G G xs := fun H1 σ H E R k => by
  obtain ⟨own, _, _, h3⟩ := E.at_
  obtain ⟨v, hv, _, p, o, kvs, e2, e3, e4⟩ := h3 i _ h
  exact ⟨v, hv, p, o, kvs, e2, E.old _ _ e3, k _ H1 H (Same.refl _) (Same.refl _) E (wj_items e3 e4)⟩
end
end
section
section
variable {K : PySem.W.Frag} {H0 H1 H H' : Hp} {σ : L2.St} {G G' Gx : Cells K} {α β γ δ β' : Type}
variable {te : TE} {wi wi1 : TI} {g g1 : TG} {tt tt1 : TT} {r : Rp α} {q : Rp β}
theorem Env.front {ρ : L2.St} {C : Cells K} (hl : σ.length = G.length) (E : Env H1 (σ ++ ρ) H (G ++ C)) : Env H1 σ H G := by
  obtain ⟨own, g1, g2, g3⟩ := E.at_
  refine ⟨E.old, hl, own, g1, g2, fun i c hc => ?_⟩
  have hi : i < G.length := (List.getElem?_eq_some_iff.mp hc).1
  obtain ⟨v, hv, hk⟩ := g3 i c (by rw [List.getElem?_append_left hi]; exact hc)
  rw [List.getElem?_append_left (by rw [hl]; exact hi)] at hv
  exact ⟨v, hv, hk⟩
def TbP (g : TG) (r : Rp α) (x : α) (vs : List Nat) (G G' : Cells K) : Prop := ∀ H1 σ σ0 ρ C H v, σ = wipe σ0 vs → σ.length = G.length → Env H1 (σ ++ ρ) H (G ++ C) → r H v x → ∀ P : L2.St → Hp → Prop,
  (∀ σ', σ'.length = G'.length → Env H1 (σ' ++ ρ) H (G' ++ C) → wipe σ' vs = wipe σ0 vs → P σ' H) → g v σ H P
theorem set_front {X : Type _} {l m : List X} {i : Nat} {x : X} (h : i < l.length) : (l ++ m).set i x = l.set i x ++ m := by
  rw [List.set_append_left _ _ h]
theorem tbp_name {r : Rp α} [F : Frz K r] {x : α} {i : Nat} {vs : List Nat} (hi : i ∈ vs := by decide) (hl : i < G.length := by exact Nat.le_of_ble_eq_true rfl) : TbP (gName i) r x vs G (G.set i (fc r x)) := fun H1 σ σ0 ρ C H v e ln E h P k => by
  subst e
  have E2 := E.put (i := i) (v := v) (R := fz K r) (as := []) (Same.refl H) (fun _ z => nomatch z) ⟨rfl, stb h⟩
  rw [set_front (by rw [ln]; exact hl), set_front hl] at E2
  exact k _ (by rw [List.length_set, List.length_set]; exact ln) E2 (wipe_set hi)
theorem tbp_pair {r : Rp α} {q : Rp β} [F : Frz K r] [F' : Frz K q] {p : α × β} {i j : Nat} {vs : List Nat} (hi : i ∈ vs := by decide) (hj : j ∈ vs := by decide) (hl : i < G.length ∧ j < G.length := by exact ⟨Nat.le_of_ble_eq_true rfl, Nat.le_of_ble_eq_true rfl⟩) :
    TbP (gTup K 2 (gCons (gName i) (gCons (gName j) gNil))) (rP K r q) p vs G ((G.set i (fc r p.1)).set j (fc q p.2)) := fun H1 σ σ0 ρ C H v e0 ln E ⟨a, x, y, e, h, h1, h2⟩ P k => by
  subst e0
  have E2 := (E.put (i := i) (v := x) (R := fz K r) (as := []) (Same.refl H) (fun _ z => nomatch z) ⟨rfl, stb h1⟩).put (i := j) (v := y) (R := fz K q) (as := []) (Same.refl H) (fun _ z => nomatch z) ⟨rfl, stb h2⟩
  rw [set_front (by rw [ln]; exact hl.1), set_front hl.1, set_front (by rw [List.length_set, ln]; exact hl.2), set_front (by rw [List.length_set]; exact hl.2)] at E2
  exact ⟨a, [x, y], e, h, rfl, x, [y], rfl, y, [], rfl, rfl, k _ (by rw [List.length_set, List.length_set, List.length_set, List.length_set]; exact ln) E2 (by rw [wipe_set2 hj, wipe_set hi])⟩
def WkP (wi : TI) (r : Rp α) (G : Cells K) (xs : List α) : Prop := ∀ H1 σ ρ C H, σ.length = G.length → Env H1 (σ ++ ρ) H (G ++ C) → ∀ R : It → Hp → Prop, (∀ J H2 H', Same H1 H2 → Same H H' → Env H2 (σ ++ ρ) H' (G ++ C) → Wj J r H2 xs → R J H') → wi σ H R
theorem wkp_tup {r : Rp α} [F : Frz K r] [M : Mono r] {tl : TE} {xs : List α} (h : Ev (rT K r) tl G xs) : WkP (iTup K tl) r G xs := fun H1 σ ρ C H ln E R k =>
  h H1 σ H (E.front ln) _ fun v H' e ⟨p, vs, e2, e3, e4⟩ => by
    obtain ⟨H2, s1, s2, x, E2, ho⟩ := E.rebase e
    exact ⟨p, e2, ⟨vs, e3⟩, k _ H2 H' s1 e E2 (wj_tup (x _ _ e3) (e4.imp fun _ _ z => F.up x z))⟩
theorem Env.fill {D : Addr} {q : Rp γ} [F : Frz K q] {acc : List γ} {y : γ} {v : V} (hl : σ.length = G.length) (E : Env H1 (σ ++ [some (.ref D)]) H (G ++ [some (.ow (nl K q) acc)])) (hv : q H v y) :
    ∃ ws, H D = some (.lst ws) ∧ ws.length = acc.length ∧ Env H1 (σ ++ [some (.ref D)]) (upd H D (.lst (ws ++ [v]))) (G ++ [some (.ow (nl K q) (acc ++ [y]))]) := by
  obtain ⟨own, k1, k2, k3⟩ := id E.at_
  obtain ⟨w, hw, p', ws, a1, a2, a3, a4⟩ := k3 _ _ getE_last
  have hw2 := hw
  rw [← hl, getE_last] at hw
  cases hw
  cases a2
  have E6 := app_env (x := y) E getE_last hw2 a3 a4 (stb hv)
  rw [set_last] at E6
  exact ⟨ws, a3, a4.len, E6⟩
def flat2 (ys : List β') (zs : β' → List δ) (p : β' → δ → Bool) (f : β' → δ → γ) : List γ := ys.flatMap fun x => ((zs x).filter (p x)).map (f x)
theorem nw_lc2 {vs vs1 : List Nat} {q : Rp γ} [F : Frz K q] {r : Rp β'} {r1 : Rp δ} {ys : List β'} (zs : β' → List δ) (p : β' → δ → Bool) (f : β' → δ → γ) (hw : Wk wi r G G' ys) (hlen : (flat2 ys zs p f).length ≤ 12000000)
    (turn : ∀ pre x post, ys = pre ++ x :: post → ∃ Gx, TbP g r x vs (wipeG G' vs) Gx ∧ WkP wi1 r1 Gx (zs x) ∧ ∀ pre1 y post1, zs x = pre1 ++ y :: post1 → ∃ Gy, TbP g1 r1 y vs1 (wipeG Gx vs1) Gy ∧ EvT tt1 Gy (p x y) ∧ (p x y = true → Ev q te Gy (f x y))) :
    Nw (nl K q) (tLc2 wi g tYes wi1 g1 tt1 te vs vs1) G (flat2 ys zs p f) := fun H1 σ H E Q k => by
  refine hw H1 σ H E _ fun J H2 Hs s1 sH E2 W => ?_
  intro D hD
  have E3 := (E2.wipe vs).push (q := q) hD
  have lw : (L2.wipe σ vs).length = (wipeG G' vs).length := (E2.wipe vs).len
  have Fin : ∀ h, Env H2 (L2.wipe σ vs ++ [some (.ref D)]) h (wipeG G' vs ++ [some (.ow (nl K q) (flat2 ys zs p f))]) → Same Hs h → Q (.ref D) h := fun h Eh sh => by
    obtain ⟨own, k1, k2, k3⟩ := Eh.at_
    obtain ⟨v, hv, p', ws, e1, e2, e3, e4⟩ := k3 _ _ getE_last
    rw [← lw, getE_last] at hv
    cases hv
    cases e2
    exact k _ h [D] (sH.trans sh) (fun b hb => by rw [List.mem_singleton.mp hb]; exact sH.free hD) ⟨D, ws, rfl, rfl, e3, e4⟩
  have same0 : Same Hs (upd Hs D (.lst [])) := fun b o hb => by rw [upd_ne (ne_of_none hb hD)]; exact hb
  refine ⟨fun i m h => i + m = ys.length ∧ Same Hs h ∧ Env H2 (L2.wipe σ vs ++ [some (.ref D)]) h (wipeG G' vs ++ [some (.ow (nl K q) (flat2 (ys.take i) zs p f))]), ⟨ys.length, Nat.zero_add _, same0, E3⟩, ?_⟩
  rintro i m h ⟨hi, sh, Eh⟩
  by_cases hl : i < ys.length
  · have hx : ys[i]? = some ys[i] := List.getElem?_eq_getElem hl
    have etk : ys.take (i + 1) = ys.take i ++ [ys[i]] := by rw [List.take_add_one, hx]; rfl
    obtain ⟨g1', g2'⟩ := W.go h i _ (E2.old.trans sh) hx
    refine .inr ⟨g1', fun h' => Same Hs h' ∧ Env H2 (L2.wipe σ vs ++ [some (.ref D)]) h' (wipeG G' vs ++ [some (.ow (nl K q) (flat2 (ys.take (i + 1)) zs p f))]), fun h' z => ⟨m - 1, by omega, by omega, z⟩, fun v h2 hy => ?_⟩
    obtain ⟨e2, z⟩ := g2' v h2 hy
    have hsp : ys = ys.take i ++ ys[i] :: ys.drop (i + 1) := by rw [List.getElem_cons_drop, List.take_append_drop]
    obtain ⟨Gx, ht, hwk, hin⟩ := turn (ys.take i) ys[i] (ys.drop (i + 1)) hsp
    refine ht H2 _ σ [some (.ref D)] _ h2 v rfl lw (Eh.grow e2) z _ fun σ2 ln2 E4 hwp => ⟨hwp, et_yes H2 σ2 h2 (E4.front ln2) _ fun h3 e3 => ?_⟩
    refine iteT ?_
    refine hwk H2 σ2 _ _ h3 ln2 (E4.grow e3) _ fun J1 H3 h4 s3 e4 E5 W1 => ?_
    have total : flat2 (ys.take (i + 1)) zs p f = flat2 (ys.take i) zs p f ++ ((zs ys[i]).filter (p ys[i])).map (f ys[i]) := by
      unfold flat2
      rw [etk, List.flatMap_append, List.flatMap_cons, List.flatMap_nil, List.append_nil]
    have cap : (flat2 (ys.take (i + 1)) zs p f).length ≤ 12000000 := by
      refine Nat.le_trans ?_ hlen
      have : flat2 ys zs p f = flat2 (ys.take (i + 1)) zs p f ++ flat2 (ys.drop (i + 1)) zs p f := by
        unfold flat2
        rw [← List.flatMap_append, List.take_append_drop]
      rw [this, List.length_append]
      exact Nat.le_add_right _ _
    rw [total, List.length_append, List.length_map] at cap
    refine ⟨fun j m1 h => j + m1 = (zs ys[i]).length ∧ Same Hs h ∧ Env H2 (L2.wipe σ vs ++ [some (.ref D)]) h (wipeG G' vs ++ [some (.ow (nl K q) (flat2 (ys.take i) zs p f ++ (((zs ys[i]).take j).filter (p ys[i])).map (f ys[i])))]) ∧
      Env H3 (σ2 ++ [some (.ref D)]) h (Gx ++ [some (.ow (nl K q) (flat2 (ys.take i) zs p f ++ (((zs ys[i]).take j).filter (p ys[i])).map (f ys[i])))]),
      ⟨(zs ys[i]).length, Nat.zero_add _, ((sh.trans e2).trans e3).trans e4, ?_, ?_⟩, ?_⟩
    · rw [List.take_zero, List.filter_nil, List.map_nil, List.append_nil]
      exact Eh.grow ((e2.trans e3).trans e4)
    · rw [List.take_zero, List.filter_nil, List.map_nil, List.append_nil]
      exact E5
    rintro j m1 h ⟨hj, sh5, EO, EI⟩
    by_cases hl1 : j < (zs ys[i]).length
    · have hx1 : (zs ys[i])[j]? = some (zs ys[i])[j] := List.getElem?_eq_getElem hl1
      have etk1 : (zs ys[i]).take (j + 1) = (zs ys[i]).take j ++ [(zs ys[i])[j]] := by rw [List.take_add_one, hx1]; rfl
      obtain ⟨k1, k2⟩ := W1.go h j _ EI.old hx1
      refine .inr ⟨k1, fun h' => Same Hs h' ∧ Env H2 (L2.wipe σ vs ++ [some (.ref D)]) h' (wipeG G' vs ++ [some (.ow (nl K q) (flat2 (ys.take i) zs p f ++ (((zs ys[i]).take (j + 1)).filter (p ys[i])).map (f ys[i])))]) ∧
        Env H3 (σ2 ++ [some (.ref D)]) h' (Gx ++ [some (.ow (nl K q) (flat2 (ys.take i) zs p f ++ (((zs ys[i]).take (j + 1)).filter (p ys[i])).map (f ys[i])))]), fun h' z => ⟨m1 - 1, by omega, by omega, z⟩, fun v1 h6 hy1 => ?_⟩
      obtain ⟨e6, z1⟩ := k2 v1 h6 hy1
      have hsp1 : zs ys[i] = (zs ys[i]).take j ++ (zs ys[i])[j] :: (zs ys[i]).drop (j + 1) := by rw [List.getElem_cons_drop, List.take_append_drop]
      obtain ⟨Gy, ht1, hb1, he1⟩ := hin ((zs ys[i]).take j) (zs ys[i])[j] ((zs ys[i]).drop (j + 1)) hsp1
      have EIw : Env H3 (L2.wipe σ2 vs1 ++ [some (.ref D)]) h6 (wipeG Gx vs1 ++ [some (.ow (nl K q) (flat2 (ys.take i) zs p f ++ (((zs ys[i]).take j).filter (p ys[i])).map (f ys[i])))]) := by
        obtain ⟨own, o1, o2, o3⟩ := (EI.grow e6).at_
        refine ⟨(EI.grow e6).old, by simp only [List.length_append, wipe_length, wipeG_len, ln2, List.length_singleton], own, o1, o2, fun a c hc => ?_⟩
        have lwx : (wipeG Gx vs1).length = Gx.length := wipeG_len _
        by_cases ha : a < Gx.length
        · rw [List.getElem?_append_left (by rw [lwx]; exact ha)] at hc
          obtain ⟨w1, w2⟩ := wipeG_get hc
          obtain ⟨u, hu, hk⟩ := o3 a c (by rw [List.getElem?_append_left ha]; exact w1)
          refine ⟨u, ?_, hk⟩
          rw [List.getElem?_append_left (by rw [ln2]; exact ha)] at hu
          rw [List.getElem?_append_left (by rw [wipe_length, ln2]; exact ha), wipe_out' w2]
          exact hu
        · rw [List.getElem?_append_right (by rw [lwx]; omega), lwx] at hc
          obtain ⟨u, hu, hk⟩ := o3 a c (by rw [List.getElem?_append_right (by omega)]; exact hc)
          refine ⟨u, ?_, hk⟩
          rw [List.getElem?_append_right (by rw [ln2]; omega), ln2] at hu
          rw [List.getElem?_append_right (by rw [wipe_length, ln2]; omega), wipe_length, ln2]
          exact hu
      refine ht1 H3 _ σ2 [some (.ref D)] _ h6 v1 rfl (by rw [wipe_length, wipeG_len, ln2]) EIw z1 _ fun σ3 ln3 E7 hwp1 => ⟨hwp1, hb1 H3 σ3 h6 (E7.front ln3) _ fun h7 e7 => ?_⟩
      cases hp : p ys[i] (zs ys[i])[j] with
      | false =>
        refine iteF ?_
        have same : ((((zs ys[i]).take (j + 1)).filter (p ys[i])).map (f ys[i])) = ((((zs ys[i]).take j).filter (p ys[i])).map (f ys[i])) := by
          rw [etk1, List.filter_append, List.filter_cons, if_neg (by rw [hp]; exact Bool.false_ne_true), List.filter_nil, List.append_nil]
        rw [same]
        exact ⟨(sh5.trans e6).trans e7, EO.grow (e6.trans e7), EI.grow (e6.trans e7)⟩
      | true =>
        refine iteT (he1 hp H3 σ3 h7 ((E7.grow e7).front ln3) _ fun y h8 e8 hq => ?_)
        have ee := (e6.trans e7).trans e8
        obtain ⟨ws, hws, hwl, EO2⟩ := (EO.grow ee).fill lw (y := f ys[i] (zs ys[i])[j]) hq
        obtain ⟨ws', hws', hwl', EI2⟩ := (EI.grow ee).fill ln2 (y := f ys[i] (zs ys[i])[j]) hq
        rw [hws] at hws'
        cases hws'
        have more : (((zs ys[i]).take (j + 1)).filter (p ys[i])).map (f ys[i]) = (((zs ys[i]).take j).filter (p ys[i])).map (f ys[i]) ++ [f ys[i] (zs ys[i])[j]] := by
          rw [etk1, List.filter_append, List.filter_cons, if_pos hp, List.filter_nil, List.map_append]
          rfl
        have few : (((zs ys[i]).take j).filter (p ys[i])).length ≤ ((zs ys[i]).filter (p ys[i])).length := ((List.take_sublist j (zs ys[i])).filter (p ys[i])).length_le
        refine ⟨ws, hws, ?_, fun b o hb => ?_, ?_, ?_⟩
        · rw [hwl, List.length_append, List.length_map]
          exact Nat.lt_of_le_of_lt (Nat.le_trans (Nat.add_le_add_left few _) cap) (by decide : 12000000 < sizeLine)
        · rw [upd_ne (ne_of_none hb hD)]
          exact ee _ _ (sh5 _ _ hb)
        · rw [more, ← List.append_assoc]
          exact EO2
        · rw [more, ← List.append_assoc]
          exact EI2
    · have hj' : j = (zs ys[i]).length := by omega
      subst hj'
      rw [List.take_length] at EO
      refine .inl ⟨W1.stop h EI.old, sh5, ?_⟩
      rw [total]
      exact EO
  · have hi' : i = ys.length := by omega
    subst hi'
    rw [List.take_length] at Eh
    exact .inl ⟨W.stop h (E2.old.trans sh), Fin h Eh sh⟩
end
end
section
def cA (K : PySem.W.Frag) (x : Str) : Addr := match PySem.W.nsIn K mainGlobals x with
  | some (some (.ref C)) => C
  | _ => 0
theorem cA_eq {K : PySem.W.Frag} {x : Str} {C : Addr} (h : PySem.W.nsIn K mainGlobals x = some (some (.ref C))) : cA K x = C := by
  unfold cA
  rw [h]
structure ClsF (K : PySem.W.Frag) (mg : Str → Option Value) (x : Str) : Prop where
  cl : Cls K (cA K x)
  mg : mg x = some (.ref (cA K x))
  first : PySem.W.selfFirst K (cA K x) = true
  noseq : PySem.W.noSeq K (cA K x) = true
  makes : PySem.W.makesIn K (cA K x) = true
  kp : PySem.W.keepIn K (.ref (cA K x)) = true
section
variable {X : Cx} (K : PySem.W.Frag) {CX : CXT} {C : Addr} {k : Nat} {ps : List Str} {sp : Sp} {E : XK} {x m f : Str} {p pos apos pos' : Pos} {e o value : Expr} {es : List Expr} {ta tv : TE} {t : TA}
theorem ps_fldK (ha : PE X o ta) (hv : PE X value tv) (hK : X.K = K := by rfl) (hs : swapsWith value (some (.Attribute o f pos')) pos.line X.env = pure false := by rfl) : PS X (.Assign [.Attribute o f pos'] value pos) (sFld K ta tv f) := by subst hK; exact ps_fld ha hv hs
theorem k_listY {g : Str} (O : ItOk X.prog X.w X.K X.mg X.base C g) (n : NoLen X.K C) (hr : Room 3 X.A) (hc : X.calm = true := by rfl) (hK : X.K = K := by rfl) : CallR X (.type "list") (rListY K C g) := by subst hK; exact call_listY hc O n hr
end
structure InsR (K : PySem.W.Frag) {β : Type} (C : Addr) (r : Rp β) (names : List Str) : Prop where
  ins : ∀ {H : Hp} {v : V} {b : β}, r H v b → ∃ a dx fs, v = .ref a ∧ H a = some (.ins C dx fs) ∧ fs.map (·.1) = names
theorem lookup_no {names : List Str} {m : Str} : ∀ {fs : List (Str × V)}, fs.map (·.1) = names → m ∉ names → fs.lookup m = none := by
  intro fs h hm
  subst h
  induction fs with
  | nil => rfl
  | cons x r ih =>
    obtain ⟨a, b⟩ := x
    rw [List.map_cons, List.mem_cons, not_or] at hm
    rw [List.lookup_cons, show (m == a) = false from beq_eq_false_iff_ne.mpr hm.1]
    exact ih hm.2
section
variable {K : PySem.W.Frag} {H0 H1 H H' : Hp} {σ : L2.St} {G G' : Cells K} {α β γ δ : Type} {ta tb te : TE} {t : TA} {r : Rp α} {r' : Rp β} {q : Rp γ} {x : α} {y : β} {z : γ} {C : Addr} {names : List Str} {m : Str}
theorem a_cmpO {pre : α × β × Unit → Prop} {f : α × β × Unit → γ} {E : XK} (h : Ev r ta G x) (h' : Ev r' tb G y) (M : Mono r) (I : InsR K C r names) (I' : InsR K C r' names) (hp : PreOk pre (x, y, ())) (e : AppEq f (x, y, ()) z) :
    Ev q (tOp (rOwnOp C (spF (aC r (aC r' aN)) pre q f) E) ta tb) G z := ev_op h h' fun H u v hu hv Q k => by
  obtain ⟨a, dx, fs, ea, ha, _⟩ := I.ins hu
  obtain ⟨b, dy, gs, eb, hb, _⟩ := I'.ins hv
  exact ⟨a, dx, fs, b, dy, gs, ea, eb, ha, hb, (x, y, ()), ⟨u, _, rfl, hu, v, _, rfl, hv, rfl⟩, hp, fun w H' e' hw => k w H' e' (by rw [← show f (x, y, ()) = z from e]; exact hw)⟩
theorem nw_binO {R : Rs K γ} {pre : α × β × Unit → Prop} {f : α × β × Unit → γ} {E : XK} (h : Ev r ta G x) (h' : Ev r' tb G y) (M : Mono r) (I : InsR K C r names) (I' : InsR K C r' names) (hp : PreOk pre (x, y, ())) (e : AppEq f (x, y, ()) z) :
    Nw R (tOp (rOwnOp C (spN (aC r (aC r' aN)) pre R f) E) ta tb) G z := nw_op h h' fun H u v hu hv Q k => by
  obtain ⟨a, dx, fs, ea, ha, _⟩ := I.ins hu
  obtain ⟨b, dy, gs, eb, hb, _⟩ := I'.ins hv
  exact ⟨a, dx, fs, b, dy, gs, ea, eb, ha, hb, (x, y, ()), ⟨u, _, rfl, hu, v, _, rfl, hv, rfl⟩, hp, fun w H' as e' hn hw => k w H' as e' hn (by rw [← show f (x, y, ()) = z from e]; exact hw)⟩
theorem a_mth {A : Ra β} {b : β} {pre : α × β → Prop} {f : α × β → γ} {E : XK} (h : Ev r ta G x) (M : Mono r) (I : InsR K C r names) (hn : m ∉ names) (hA : EvA A t G b) (hp : PreOk pre (x, b)) (e : AppEq f (x, b) z) :
    Ev q (tMeth C m (spF (aC r A) pre q f) [] E ta t) G z := fun H0 σ H E1 Q k => h H0 σ H E1 _ fun v H1 e1 hv => by
  obtain ⟨a, dx, fs, ea, ha, hm⟩ := I.ins hv
  refine ⟨a, dx, fs, ea, ha, lookup_no hm hn, hA H0 σ H1 (E1.grow e1) _ fun vs H2 e2 hvs => ?_⟩
  exact ⟨(x, b), ⟨v, vs, by rw [List.append_nil], M.up e2 hv, hvs⟩, hp, fun w H' e' hw => k w H' ((e1.trans e2).trans e') (by rw [← show f (x, b) = z from e]; exact hw)⟩
theorem nw_mth {R : Rs K γ} {A : Ra β} {b : β} {pre : α × β → Prop} {f : α × β → γ} {E : XK} (h : Ev r ta G x) (M : Mono r) (I : InsR K C r names) (hn : m ∉ names) (hA : EvA A t G b) (hp : PreOk pre (x, b)) (e : AppEq f (x, b) z) :
    Nw R (tMeth C m (spN (aC r A) pre R f) [] E ta t) G z := fun H0 σ H E1 Q k => h H0 σ H E1 _ fun v H1 e1 hv => by
  obtain ⟨a, dx, fs, ea, ha, hm⟩ := I.ins hv
  refine ⟨a, dx, fs, ea, ha, lookup_no hm hn, hA H0 σ H1 (E1.grow e1) _ fun vs H2 e2 hvs => ?_⟩
  exact ⟨(x, b), ⟨v, vs, by rw [List.append_nil], M.up e2 hv, hvs⟩, hp, fun w H' as e' hf hw => k w H' as ((e1.trans e2).trans e') (fun p hp => free_back (e1.trans e2) (hf p hp)) (by rw [← show f (x, b) = z from e]; exact hw)⟩
end
abbrev Rule := Str × List Str
abbrev rRu (K : PySem.W.Frag) : Rp Rule := rP K rS (rT K rS)
def rOne (K : PySem.W.Frag) (C : Addr) (f : Str) {β : Type} (r : Rp β) : Rp (List β) := fun H v xs => (∃ a dx l vs, v = .ref a ∧ H a = some (.ins C dx [(f, .ref l)]) ∧ H l = some (.lst vs) ∧ A2 (r H) vs xs) ∧ xs.length ≤ 12000000
def nOne (K : PySem.W.Frag) (C : Addr) (f : Str) {β : Type} (r : Rp β) : Rs K (List β) where
  rep := fun H v xs as => (∃ a dx l vs, as = [a, l] ∧ v = .ref a ∧ a ≠ l ∧ H a = some (.ins C dx [(f, .ref l)]) ∧ H l = some (.lst vs) ∧ A2 (Stb K r H) vs xs) ∧ xs.length ≤ 12000000
  stay := fun ⟨⟨a, dx, l, vs, e, ev, ne, h1, h2, z⟩, hz⟩ x k => ⟨⟨a, dx, l, vs, e, ev, ne, k a (by rw [e]; simp) _ h1, k l (by rw [e]; simp) _ h2, z.imp fun _ _ w => w.up x⟩, hz⟩
  there := fun ⟨⟨a, dx, l, vs, e, ev, ne, h1, h2, z⟩, hz⟩ p hp => by
    rw [e] at hp
    rcases List.mem_cons.mp hp with q | q
    · exact ⟨.ins C dx [(f, .ref l)], by rw [q]; exact h1, fun z => z⟩
    · cases List.mem_singleton.mp q
      exact ⟨_, h2, fun z => z⟩
section
variable {K : PySem.W.Frag} {H0 H1 H H' : Hp} {σ : L2.St} {G G' : Cells K} {α β : Type} {ta te : TE} {r : Rp β} {C : Addr} {f : Str} {xs : List β}
instance [M : Mono r] : Mono (rOne K C f r) := ⟨fun e ⟨⟨a, dx, l, vs, ev, h1, h2, z⟩, hz⟩ => ⟨⟨a, dx, l, vs, ev, e _ _ h1, e _ _ h2, z.imp fun _ _ w => M.up e w⟩, hz⟩⟩
theorem one_ins : InsR K C (rOne K C f r) [f] := ⟨fun ⟨⟨a, dx, l, vs, ev, h1, _⟩, _⟩ => ⟨a, dx, _, ev, h1, rfl⟩⟩
theorem a_one {i : Nat} (h : G[i]? = some (some (.ow (nOne K C f r) xs))) : Ev (rOne K C f r) (tVar i) G xs := fun H0 σ H E Q k => by
  obtain ⟨own, _, _, h3⟩ := E.at_
  obtain ⟨v, hv, ⟨a, dx, l, vs, _, ev, _, h1, h2, z⟩, hz⟩ := h3 i _ h
  exact ⟨v, hv, k v H (Same.refl H) ⟨⟨a, dx, l, vs, ev, h1, h2, nows z⟩, hz⟩⟩
theorem a_oneF (h : Ev (rOne K C f r) ta G xs) (c : Cls K C) (n : NoAttr K C f) : Ev (rL r) (tFld K ta f) G xs := fun H0 σ H E Q k => h H0 σ H E _ fun v H1 e1 ⟨⟨a, dx, l, vs, ev, h1, h2, z⟩, hz⟩ =>
  ⟨a, C, dx, _, .ref l, ev, h1, c, n, by rw [List.lookup_cons, show (f == f) = true from beq_self_eq_true f], k _ H1 e1 ⟨l, vs, rfl, h2, z⟩⟩
theorem nw_oneL [M : Mono r] [F : Frz K r] (h : Ev (rOne K C f r) te G xs) : Nw (nl K r) (tCB (rListY K C f) (tCons te tNil)) G xs := nw_cb (ea_cons h ea_nil) fun H vs ⟨v, ws, e, ⟨⟨a, dx, l, us, ev, h1, h2, z⟩, hz⟩, e2⟩ Q k =>
  ⟨a, dx, _, l, us, by rw [e, show ws = [] from e2, ev], h1, by rw [List.lookup_cons, show (f == f) = true from beq_self_eq_true f], SqL.of h2, by rw [z.len]; exact sz hz, (fun q hq z => by
      rw [← z, h2] at hq
      cases hq), fun q hq => k _ _ [q] (same_new hq) (fun b hb => by rw [List.mem_singleton.mp hb]; exact hq) ⟨q, us, rfl, rfl, upd_same, z.imp fun _ _ w => stb (M.up (same_new hq) w)⟩⟩
def spOne (K : PySem.W.Frag) (C : Addr) (f : Str) (r : Rp β) {α : Type} (A : Ra α) (pre : α → Prop) (g : α → List β) : Sp := fun vs H Q _ => ∃ p dx ws a, vs = .ref p :: ws ∧ H p = some (.ins C dx []) ∧ A H ws a ∧ pre a ∧
  ∀ l us H', (∀ b o, b ≠ p → H b = some o → H' b = some o) → H l = none → H' p = some (.ins C dx [(f, .ref l)]) → H' l = some (.lst us) → A2 (Stb K r H') us (g a) → (g a).length ≤ 12000000 → Q .non H'
theorem nw_mkO {A : Ra α} {a : α} {pre : α → Prop} {g : α → List β} {E : XK} {t : TA} (hA : EvA A t G a) (M : MonoA A) (hp : PreOk pre a) (e : AppEq g a xs) : Nw (nOne K C f r) (tMake C (spOne K C f r A pre g) [] E t) G xs := fun H0 σ H E1 Q k =>
  hA H0 σ H E1 _ fun ws H1 e1 hws x dx hx hdx hne => by
    have s1 : Same H1 (upd (upd H1 dx (.own x)) x (.ins C dx [])) := fun b o hb => by rw [upd_ne (ne_of_none hb hx), upd_ne (ne_of_none hb hdx)]; exact hb
    refine ⟨x, dx, ws, a, by rw [List.append_nil], upd_same, M.up s1 hws, hp, fun l us H' keep hl h1 h2 z hz => ⟨rfl, ?_⟩⟩
    have hlx : x ≠ l := fun q => by rw [← q, upd_same] at hl; cases hl
    have hl1 : H1 l = none := s1.free hl
    refine k _ H' [x, l] (e1.trans fun b o hb => keep b o (ne_of_none hb hx) (s1 _ _ hb)) (fun b hb => ?_) ⟨⟨x, dx, l, us, rfl, rfl, hlx, h1, h2, by rw [← show g a = xs from e]; exact z⟩, by rw [← show g a = xs from e]; exact hz⟩
    rcases List.mem_cons.mp hb with q | q
    · rw [q]; exact free_back e1 hx
    · cases List.mem_singleton.mp q
      exact free_back e1 hl1
end
end
section
def DfV (K : PySem.W.Frag) (dV : Value) (m : Nat) : Prop := (m = 0 ∧ dV = .none) ∨ ∃ (T : Addr) (o : Obj) (its : List Value) (n : Nat), dV = .ref T ∧ K.lookup T = some o ∧ o.data = .seq its.toArray n ∧ its.length = m ∧ 0 < m
structure FunE (K : PySem.W.Frag) (x q : Str) (st : Stmt) (m : Nat) (f : Addr) (fd : FuncData) : Prop where
  ex : ∃ (oc : Value) (od : Option Addr) (dV kV doc pm : Value) (an : Option Addr) (cdv ct : Value) (osl : Array (Option Value)),
    fd = PySem.W.fnOf x q (defArgs st) (defBody st) (defScope st) dV kV doc pm an cdv ct ∧ K.lookup f = some ⟨oc, od, .func fd, osl⟩ ∧ PySem.W.codeIn K cdv q = true ∧ DfV K dV m
  kp : PySem.W.keepIn K (.ref f) = true
def BindE (x q : Str) (st : Stmt) (ps : List Str) (m : Nat) : Prop :=
  (m = 0 → ∀ (kV doc pm : Value) (an : Option Addr) (cdv ct : Value) (us : List Value), us.length = ps.length → bindArgs (PySem.W.fnOf x q (defArgs st) (defBody st) (defScope st) .none kV doc pm an cdv ct) ⟨us, []⟩ = pure (ps.zip us)) ∧
  (0 < m → ∀ (T : Addr) (kV doc pm : Value) (an : Option Addr) (cdv ct : Value) (us its : List Value), us.length = ps.length → its.length = m →
    ∃ k, bindArgs (PySem.W.fnOf x q (defArgs st) (defBody st) (defScope st) (.ref T) kV doc pm an cdv ct) ⟨us, []⟩ = seqItems? (.ref T) >>= k ∧ k (some its.toArray) = pure (ps.zip us))
section
variable {P : Program} {w : World} {K : PySem.W.Frag} {mg : Str → Option Value} {base : Heap} {CX : CXT} {x q : Str} {st : Stmt} {m k : Nat} {f C : Addr} {fd : FuncData} {ps N : List Str} {sp : Sp}
theorem FunE.ok (F : FunE K x q st m f fd) (S : FnScope N ps (defScope st)) (len : ∀ vs H Q E, sp vs H Q E → vs.length = ps.length)
    (hbody : ∀ (cdv : Value) (A : Around) (outer : List PySem.Env) (s : Shared) (H : Hp) (vs : List V) (Q : VK) (E : XK), Room k (A.deeper (envOfC q (defScope st) s.heap.objs.size f cdv)) → sp vs H Q E →
      ∃ t, PSs (cxOf CX P w K mg base N q (defScope st) f cdv A outer s H E) (defBody st) t ∧ t { nx := fun _ H' => Q .non H', rt := Q } (start N vs) H) : FnOk P w K mg base CX (k + 1) f fd ps sp := by
  obtain ⟨oc, od, dV, kV, doc, pm, an, cdv, ct, osl, rfl, lk, hcd, _⟩ := F.ex
  exact fn_of lk hcd S len fun A outer s H vs Q E hr h => hbody cdv A outer s H vs Q E hr h
theorem FunE.binds (F : FunE K x q st m f fd) (b : BindE x q st ps m) : L2.Binds K fd ps [] := by
  obtain ⟨oc, od, dV, kV, doc, pm, an, cdv, ct, osl, rfl, lk, hcd, hD⟩ := F.ex
  rcases hD with ⟨e, rfl⟩ | ⟨T, o, its, n, rfl, lT, oT, rT⟩
  · exact .all (b.1 e kV doc pm an cdv ct)
  · intro s us X hlen
    rw [List.append_nil] at hlen ⊢
    obtain ⟨k, e1, e2⟩ := b.2 rT.2 T kV doc pm an cdv ct us its hlen rT.1
    refine BindsTo.of_looks fun M => ?_
    rw [e1]
    exact looks_items X lT oT (.of_pure e2)
structure DfE (K : PySem.W.Frag) (C : Addr) (x q : Str) (st : Stmt) (m : Nat) : Prop where
  ex : ∃ (f : Addr) (fd : FuncData), FunE K x q st m f fd ∧ PySem.W.findIn K (.ref C) x = some (some (.ref f)) ∧ PySem.W.isFn K (.ref f) = true
theorem calI_of {c : Str} (T : ClsF K mg c) (F : DfE K (cA K c) "__init__" q st m) (S : FnScope N ps (defScope st)) (len : ∀ vs H Q E, sp vs H Q E → vs.length = ps.length) (b : BindE "__init__" q st ps m)
    (hbody : ∀ (cdv : Value) (f : Addr) (A : Around) (outer : List PySem.Env) (s : Shared) (H : Hp) (vs : List V) (Q : VK) (E : XK), Room k (A.deeper (envOfC q (defScope st) s.heap.objs.size f cdv)) → sp vs H Q E →
      ∃ t, PSs (cxOf CX0 P w K mg base N q (defScope st) f cdv A outer s H E).nox (defBody st) t ∧ t { nx := fun _ H' => Q .non H', rt := Q } (start N vs) H) : CalI P w K mg base CX0 (cA K c) (k + 1) ps sp := by
  obtain ⟨f, fd, F, h1, h2⟩ := F.ex
  exact ⟨f, fd, F.ok S len fun cdv A outer s H vs Q E hr h => (hbody cdv f A outer s H vs Q E hr h).imp fun t h => ⟨h.1.nox, h.2⟩, ⟨T.makes, h1, h2, T.kp⟩, F.binds b⟩
theorem itOk_of {g : Str} (F : DfE K C "__iter__" q st 0) (S : FnScope ["self"] ["self"] (defScope st)) (b : BindE "__iter__" q st ["self"] 0)
    (ht : ∀ (f : Addr) (cdv : Value) (A : Around) (outer : List PySem.Env) (s : Shared) (H : Hp) (E : XK), ∃ t, PSs (cxOf CX0 P w K mg base ["self"] q (defScope st) f cdv A outer s H E).nox (defBody st) t ∧
      ∀ (a dx l : Addr) (fs : List (Str × V)) (zs : List V) (Q : VK), H a = some (.ins C dx fs) → fs.lookup g = some (.ref l) → SqL K H l zs → (∀ it, H it = none → s.heap.objs.size ≤ it → Q (.ref it) (upd H it (ItO l it 0))) →
        t { nx := fun _ H' => Q .non H', rt := Q } (start ["self"] [.ref a]) H) : ItOk P w K mg base C g := by
  obtain ⟨f, fd, F, h1, h2⟩ := F.ex
  refine ⟨f, h1, h2, fun A outer s H a dx l fs zs Q E hr e0 ha hl hz hq => ?_⟩
  have hB := F.binds b
  obtain ⟨oc, od, dV, kV, doc, pm, an, cdv, ct, osl, rfl, lk, hcd, hD⟩ := F.ex
  obtain ⟨t, h, ht⟩ := ht f cdv A outer s H E
  have KX : K.In s.heap := e0.mod.kin.keeps fun b o e => (e0.bs b o e).1
  exact run_from (CX := CX0) (us := [.ref a]) (vs := [.ref a]) lk hcd S rfl hr e0 (by
    have := hB s [.ref a] KX rfl
    simpa using this) (.cons rfl .nil) h.nox (ht a dx l fs zs Q ha hl hz hq)
end
abbrev nG (K : PySem.W.Frag) : Rs K (List Rule) := nOne K (cA K "Grammar") "rows" (rRu K)
end
section
def repC (c : Array Nat) (n : Nat) : Array Nat := (List.replicate n c).foldl (· ++ ·) #[]
theorem foldC_size (c : Array Nat) : ∀ (n : Nat) (a : Array Nat), ((List.replicate n c).foldl (· ++ ·) a).size = a.size + n * c.size
  | 0, a => by simp
  | n + 1, a => by
    rw [List.replicate_succ, List.foldl_cons, foldC_size c n, Array.size_append, Nat.succ_mul]
    omega
theorem foldC_all (p : Nat → Bool) (c : Array Nat) (hc : c.all p = true) : ∀ (n : Nat) (a : Array Nat), a.all p = true → ((List.replicate n c).foldl (· ++ ·) a).all p = true
  | 0, a, h => by simpa using h
  | n + 1, a, h => by
    rw [List.replicate_succ, List.foldl_cons]
    exact foldC_all p c hc n _ (by rw [Array.all_append, h, hc]; rfl)
def repS (x : Str) (n : Int) : Str := if n < 1 then Str.empty else if (n == 1 || x.length == 0) = true then x else ⟨repC x.cps n.toNat⟩
theorem repS_len (x : Str) (n : Int) : (repS x n).length ≤ x.length * n.toNat := by
  unfold repS
  split
  · exact Nat.zero_le _
  · rename_i h1
    split
    · rename_i h2
      rcases Bool.or_eq_true_iff.mp h2 with e | e
      · have : n = 1 := by simpa using e
        subst this
        show x.length ≤ x.length * 1
        omega
      · have : x.length = 0 := by simpa using e
        omega
    · show (repC x.cps n.toNat).size ≤ _
      unfold repC
      rw [foldC_size, Nat.mul_comm]
      show (#[] : Array Nat).size + x.cps.size * n.toNat ≤ x.cps.size * n.toNat
      simp
theorem okS_rep {x : Str} {n : Int} (h : okS x) (hz : x.length * n.toNat ≤ 100000) : okS (repS x n) := by
  refine ⟨Nat.le_trans (repS_len x n) hz, ?_⟩
  unfold repS
  have e0 : (#[] : Array Nat).all (fun c => decide (c < 0x110000)) = true := by simp
  split
  · exact e0
  · split
    · exact h.2
    · exact foldC_all _ _ h.2 _ _ e0
abbrev rMulS : R2 := fun x y H Q => ∃ a n, x = .str a ∧ y = .int n ∧ 0 ≤ n ∧ n ≤ 1000 ∧ a.length ≤ 1000 ∧ Q (.str (repS a n)) H
theorem op_mulS {X : Cx} : OpR X (binaryOp .Mult) rMulS := by
  intro pins s σ H x y v u Q I rx ry h
  obtain ⟨a, n, rfl, rfl, h0, h1, ha, q⟩ := h
  obtain ⟨t, rfl⟩ := rx
  obtain ⟨t', rfl⟩ := ry
  have hb : a.length * n.toNat ≤ 1000 * 1000 := Nat.mul_le_mul ha (by omega)
  refine P.mul_str (by rw [decide_eq_false (by omega), decide_eq_false (by omega)]; rfl) (fun hn _ hq => ?_) (fun hn _ => ?_) ?_
  · have : (1000 : Int) ≤ (2 ^ 63 - 1) / n := by
      refine (Int.le_ediv_iff_mul_le (by omega)).mpr ?_
      omega
    omega
  · show decide _ = false
    exact decide_eq_false (by rw [sizeLine_eq]; omega)
  · have hlen := repS_len a n
    unfold repS at q hlen
    by_cases c1 : n < 1
    · rw [if_pos c1] at q ⊢
      exact ⟨by decide, .str Str.empty, H, I.tok _, ⟨_, rfl⟩, q⟩
    · rw [if_neg c1] at q hlen ⊢
      by_cases c2 : (n == 1 || a.length == 0) = true
      · rw [if_pos c2] at q ⊢
        exact ⟨.str a, H, I, ⟨_, rfl⟩, q⟩
      · rw [if_neg c2] at q hlen ⊢
        exact ⟨Nat.le_trans hlen (Nat.le_trans hb (by rw [sizeLine_eq]; decide)), .str _, H, I.tok _, ⟨_, rfl⟩, q⟩
section
variable {K : PySem.W.Frag} {G : Cells K} {ta tb te : TE} {s t : Str} {n : Int}
theorem ev_mulS (h : Ev rS ta G s) (h' : Ev rI tb G n) (hn : 0 ≤ n ∧ n ≤ 1000) (hz : s.length ≤ 50) : Ev rS (tOp rMulS ta tb) G (repS s n) := ev_op h h' fun H u v hu hv Q k =>
  ⟨s, n, hu.1, hv, hn.1, hn.2, by omega, k _ H (Same.refl H) ⟨rfl, okS_rep hu.2 (Nat.le_trans (Nat.mul_le_mul hz (show n.toNat ≤ 1000 by omega)) (by decide))⟩⟩
end
end
section
inductive Pay
  | s (o : Option Str)
  | i (n : Int)
  | r (x : Rule)
  | l (xs : List (Option Str))
  | t (xs : List Str)
  | q (x : List Rule × List Rule)
  | z
inductive Er
  | stuck
  | ex (cls : Str) (fs : List (Str × Pay))
abbrev M (α : Type) := Except Er α
def mb {α β : Type} (m : M α) (f : α → M β) : M β := match m with
  | .ok a => f a
  | .error e => .error e
theorem mb_ok {α β : Type} {m : M α} {f : α → M β} {b : β} (h : mb m f = .ok b) : ∃ a, m = .ok a ∧ f a = .ok b := by
  cases m with
  | ok a => exact ⟨a, rfl, h⟩
  | error e => cases h
theorem mb_of {α β : Type} {m : M α} {f : α → M β} {a : α} (h : m = .ok a) : mb m f = f a := by rw [h]; rfl
theorem mb_ret {α β : Type} {f : α → M β} {a : α} : mb (.ok a) f = f a := rfl
theorem ok_inj {α : Type} {a b : α} (h : (Except.ok a : M α) = .ok b) : a = b := by cases h; rfl
def oM {α : Type} : Option α → M α
  | some a => .ok a
  | none => .error .stuck
theorem oM_ok {α : Type} {o : Option α} {a : α} (h : oM o = .ok a) : o = some a := by
  cases o with
  | none => cases h
  | some b => cases h; rfl
theorem oM_of {α : Type} {o : Option α} {a : α} (h : o = some a) : oM o = .ok a := by rw [h]; rfl
def chk (c : Bool) : M Unit := bif c then .ok () else .error .stuck
theorem chk_ok {c : Bool} {u : Unit} (h : chk c = .ok u) : c = true := by
  cases c with
  | false => cases h
  | true => rfl
theorem chk_of {c : Bool} (h : c = true) : chk c = .ok () := by rw [h]; rfl
theorem bif_t {α : Type} {c : Bool} {a b x : α} (h : (bif c then a else b) = x) (hc : c = true) : a = x := by rw [hc] at h; exact h
theorem bif_f {α : Type} {c : Bool} {a b x : α} (h : (bif c then a else b) = x) (hc : c = false) : b = x := by rw [hc] at h; exact h
def mand (a : Bool) (m : M Bool) : M Bool := bif a then m else .ok false
def mor (a : Bool) (m : M Bool) : M Bool := bif a then .ok true else m
inductive Fl (σ ρ : Type)
  | nx (s : σ)
  | rt (r : ρ)
  | bk (s : σ)
def mfor {σ α : Type} (f : σ → α → M σ) : σ → List α → M σ
  | s, [] => .ok s
  | s, x :: xs => mb (f s x) fun s' => mfor f s' xs
def mforF {σ ρ α : Type} (f : σ → α → M (Fl σ ρ)) : σ → List α → M (Fl σ ρ)
  | s, [] => .ok (.nx s)
  | s, x :: xs => mb (f s x) fun o => match o with
    | .nx s' => mforF f s' xs
    | .rt r => .ok (.rt r)
    | .bk s' => .ok (.nx s')
theorem mfor_app {σ α : Type} {f : σ → α → M σ} : ∀ {xs ys : List α} {s r : σ}, mfor f s (xs ++ ys) = .ok r → ∃ t, mfor f s xs = .ok t ∧ mfor f t ys = .ok r
  | [], ys, s, r, h => ⟨s, rfl, h⟩
  | x :: xs, ys, s, r, h => by
    obtain ⟨t, h1, h2⟩ := mb_ok h
    obtain ⟨u, h3, h4⟩ := mfor_app h2
    exact ⟨u, by unfold mfor; rw [mb_of h1]; exact h3, h4⟩
theorem mforF_step {σ ρ α : Type} {f : σ → α → M (Fl σ ρ)} {s : σ} {x : α} {xs : List α} {o : Fl σ ρ} (h : mforF f s (x :: xs) = .ok o) : ∃ o1, f s x = .ok o1 ∧ (∀ s', o1 = .nx s' → mforF f s' xs = .ok o) ∧ (∀ r, o1 = .rt r → o = .rt r) ∧ (∀ s', o1 = .bk s' → o = .nx s') := by
  obtain ⟨o1, h1, h2⟩ := mb_ok h
  refine ⟨o1, h1, ?_, ?_, ?_⟩
  · rintro s' rfl; exact h2
  · rintro r rfl; cases h2; rfl
  · rintro s' rfl; cases h2; rfl
def mlc {α β : Type} (p : α → M Bool) (f : α → M β) : List α → M (List β)
  | [] => .ok []
  | x :: xs => mb (p x) fun b => bif b then mb (f x) fun y => mb (mlc p f xs) fun ys => .ok (y :: ys) else mlc p f xs
theorem mlc_app {α β : Type} {p : α → M Bool} {f : α → M β} : ∀ {xs ys : List α} {zs : List β}, mlc p f (xs ++ ys) = .ok zs → ∃ us vs, mlc p f xs = .ok us ∧ mlc p f ys = .ok vs ∧ zs = us ++ vs
  | [], ys, zs, h => ⟨[], zs, rfl, h, rfl⟩
  | x :: xs, ys, zs, h => by
    obtain ⟨b, h1, h⟩ := mb_ok h
    cases b with
    | false =>
      obtain ⟨us, vs, e1, e2, e3⟩ := mlc_app (xs := xs) h
      exact ⟨us, vs, by unfold mlc; rw [mb_of h1]; exact e1, e2, e3⟩
    | true =>
      obtain ⟨y, h2, h⟩ := mb_ok h
      obtain ⟨ws, h3, h⟩ := mb_ok h
      obtain ⟨us, vs, e1, e2, e3⟩ := mlc_app (xs := xs) h3
      cases h
      refine ⟨y :: us, vs, ?_, e2, by rw [e3]; rfl⟩
      unfold mlc
      rw [mb_of h1]
      show mb (f x) _ = _
      rw [mb_of h2, mb_of e1]
section
variable {K : PySem.W.Frag} {H0 H1 H H' : Hp} {σ : L2.St} {G G' G2 Gx : Cells K} {α β γ S T ρ : Type}
variable {D : Ends} {t u tb : TS} {wi : TI} {g : TG} {te ta tb' : TE} {tt tu tv : TT} {r : Rp α} {q : Rp β} {R : Rs K ρ} {a b c d : Bool}
def RtR (R : Rs K ρ) (H0 : Hp) (x : ρ) (v : V) (H : Hp) : Prop := ∃ as, Same H0 H ∧ (∀ p, p ∈ as → H0 p = none) ∧ R.rep H v x as
def RtOk (R : Rs K ρ) (H0 : Hp) (x : ρ) (D : Ends) : Prop := ∀ v H, RtR R H0 x v H → D.rt v H
theorem RtOk.up {x : ρ} (h : RtOk R H0 x D) (e : Same H0 H1) : RtOk R H1 x D := fun v H ⟨as, s, n, z⟩ => h v H ⟨as, e.trans s, fun p hp => e.free (n p hp), z⟩
theorem Have.up (e : Same H0 H1) (h : Have H1 G σ H) : Have H0 G σ H := let ⟨H2, s, E⟩ := h; ⟨H2, e.trans s, E⟩
theorem Nx.up {P : L2.St → Hp → Prop} (h : Nx H0 G P) (e : Same H0 H1) : Nx H1 G P := fun σ H z => h σ H (Have.up e z)
theorem Sv.up (h : Sv H0 G t D) (e : Same H0 H1) : Sv H1 G t D := fun σ H z => h σ H (Have.up e z)
def OutOk (H0 : Hp) (st : S → Cells K) (bk : S → Cells K) (R : Rs K ρ) (D : Ends) : Fl S ρ → Prop
  | .nx s => Nx H0 (st s) D.nx
  | .rt x => RtOk R H0 x D
  | .bk s => Nx H0 (bk s) D.bk
theorem OutOk.up {st bk : S → Cells K} {o : Fl S ρ} (h : OutOk H0 st bk R D o) (e : Same H0 H1) : OutOk H1 st bk R D o := match o, h with
  | .nx _, h => Nx.up h e
  | .rt _, h => RtOk.up h e
  | .bk _, h => Nx.up h e
theorem r_ret {x : α} (hD : RtOk (fz K r) H0 x D) (h : Ev r te G x) (F : Frz K r := by infer_instance) : Sv H0 G (tRet te) D := l_ret (b' := x) (fun v H' s z => hD v H' ⟨[], s, (fun p hp => nomatch hp), ⟨rfl, stb z⟩⟩) h rfl
theorem r_retN {x : ρ} (hD : RtOk R H0 x D) (h : Nw R te G x) : Sv H0 G (tRet te) D := l_retN (b' := x) (fun v H' as s n z => hD v H' ⟨as, s, n, z⟩) h rfl
theorem r_retO {i : Nat} {x : ρ} (hD : RtOk R H0 x D) (hi : G[i]? = some (some (.ow R x))) : Sv H0 G (tRet (tVar i)) D := l_retO (xs' := x) (fun v H' as s n z => hD v H' ⟨as, s, n, z⟩) hi rfl
theorem q_flow {st bk : S → Cells K} (o : Fl S ρ) (hn : ∀ s, o = .nx s → Sv H0 (st s) u D) (hr : ∀ x, o = .rt x → RtOk R H0 x D) (hb : ∀ s, o = .bk s → Nx H0 (bk s) D.bk)
    (k : OutOk H0 st bk R { D with nx := u D } o → Sv H0 G (tSeq t u) D) : Sv H0 G (tSeq t u) D := k (match o, hn, hr, hb with
  | .nx s, hn, _, _ => hn s rfl
  | .rt x, _, hr, _ => hr x rfl
  | .bk s, _, _, hb => hb s rfl)
theorem l_forM {f : S → α → M S} {xs : List α} {s0 s1 : S} (st : S → Cells K) (hm : mfor f s0 xs = .ok s1) (hw : Wk wi r G G' xs) (h0 : Sub G' (st s0))
    (body : ∀ H0', Same H0 H0' → ∀ x s s', f s x = .ok s' → ∃ Gx, Tg g r x (st s) Gx ∧ Sv H0' Gx tb { D with nx := Have H0' (st s'), ct := Have H0' (st s'), bk := D.nx })
    (after : Nx H0 (st s1) D.nx) : Sv H0 G (tFor wi g tb) D :=
  l_forI st (fun pre s => mfor f s0 pre = .ok s) s0 hw h0 rfl (fun H0' e pre x post s hx hI => by
    rw [hx] at hm
    obtain ⟨t, h1, h2⟩ := mfor_app hm
    rw [hI] at h1
    cases h1
    obtain ⟨s', h3, h4⟩ := mb_ok h2
    obtain ⟨Gx, ht, hb⟩ := body H0' e x s s' h3
    refine ⟨Gx, ht, ?_⟩
    have e2 : mfor f s0 (pre ++ [x]) = .ok s' := by
      have app : ∀ (l : List α) (a b : S), mfor f a l = .ok b → mfor f a (l ++ [x]) = mb (f b x) fun c => .ok c := by
        intro l
        induction l with
        | nil => intro a b h; cases h; rfl
        | cons y l ih =>
          intro a b h
          obtain ⟨c, h5, h6⟩ := mb_ok h
          show mb (f a y) _ = _
          rw [mb_of h5]
          exact ih c b h6
      rw [app pre s0 s hI, mb_of h3]
    have key : (fun σ H => ∃ s', mfor f s0 (pre ++ [x]) = .ok s' ∧ Have H0' (st s') σ H) = Have H0' (st s') := by
      funext σ H
      refine propext ⟨fun ⟨s2, h5, h6⟩ => ?_, fun h => ⟨_, e2, h⟩⟩
      rw [e2] at h5
      cases h5
      exact h6
    rw [key]
    exact hb) fun s hs => by rw [hm] at hs; cases hs; exact after
theorem q_forM {f : S → α → M S} {xs : List α} {s0 s1 : S} (st : S → Cells K) (hm : mfor f s0 xs = .ok s1) (hw : Wk wi r G G' xs) (h0 : Sub G' (st s0))
    (body : ∀ H0', Same H0 H0' → ∀ x s s', f s x = .ok s' → ∃ Gx, Tg g r x (st s) Gx ∧ Sv H0' Gx tb { nx := Have H0' (st s'), rt := D.rt, ct := Have H0' (st s'), bk := u D })
    (after : Sv H0 (st s1) u D) : Sv H0 G (tSeq (tFor wi g tb) u) D := l_forM (D := { D with nx := u D }) st hm hw h0 body after
theorem l_forF {f : S → α → M (Fl S ρ)} {xs : List α} {s0 : S} {o : Fl S ρ} (st : S → Cells K) (hm : mforF f s0 xs = .ok o) (hw : Wk wi r G G' xs) (h0 : Sub G' (st s0))
    (hn : ∀ s, o = .nx s → Nx H0 (st s) D.nx) (hr : ∀ x, o = .rt x → RtOk R H0 x D)
    (body : ∀ H0' D', Same H0 H0' → ∀ x s o', f s x = .ok o' → OutOk H0' st st R D' o' → ∃ Gx, Tg g r x (st s) Gx ∧ Sv H0' Gx tb D') : Sv H0 G (tFor wi g tb) D :=
  l_forI st (fun pre s => ∀ ys, xs = pre ++ ys → mforF f s ys = .ok o) s0 hw h0 (fun ys e => by rw [e] at hm; exact hm) (fun H0' e pre x post s hx hI => by
    obtain ⟨o1, h1, h2, h3, h4⟩ := mforF_step (hI _ hx)
    exact body H0' _ e x s o1 h1 (match o1, h1, h2, h3, h4 with
      | .nx s', _, h2, _, _ => fun σ H hv => ⟨s', fun ys ey => by
          have : ys = post := by
            have e3 := hx.symm.trans ey
            rw [List.append_assoc] at e3
            have := List.append_cancel_left e3
            cases this
            rfl
          rw [this]
          exact h2 s' rfl, hv⟩
      | .rt x', _, _, h3, _ => (hr x' (h3 x' rfl)).up e
      | .bk s', _, _, _, h4 => (hn s' (h4 s' rfl)).up e)) fun s hs => hn s (by
        have := hs [] (by rw [List.append_nil])
        cases this
        rfl)
theorem q_forF {f : S → α → M (Fl S ρ)} {xs : List α} {s0 : S} {o : Fl S ρ} (st : S → Cells K) (hm : mforF f s0 xs = .ok o) (hw : Wk wi r G G' xs) (h0 : Sub G' (st s0))
    (hn : ∀ s, o = .nx s → Sv H0 (st s) u D) (hr : ∀ x, o = .rt x → RtOk R H0 x D)
    (body : ∀ H0' D', Same H0 H0' → ∀ x s o', f s x = .ok o' → OutOk H0' st st R D' o' → ∃ Gx, Tg g r x (st s) Gx ∧ Sv H0' Gx tb D') : Sv H0 G (tSeq (tFor wi g tb) u) D := l_forF (D := { D with nx := u D }) st hm hw h0 hn hr body
theorem ev_andM {m : M Bool} (h1 : Ev rB ta G a) (h2 : ∀ b, m = .ok b → Ev rB tb' G b) (e : mand a m = .ok c) : Ev rB (tAndV ta tb') G c := by
  cases a with
  | true => exact (ev_and h1 fun _ => h2 c e).eq (Bool.true_and c)
  | false => cases e; exact (ev_and (d := false) h1 fun z => nomatch z)
theorem ev_orM {m : M Bool} (h1 : Ev rB ta G a) (h2 : ∀ b, m = .ok b → Ev rB tb' G b) (e : mor a m = .ok c) : Ev rB (tOrV ta tb') G c := by
  cases a with
  | false => exact (ev_or h1 fun _ => h2 c e).eq (Bool.false_or c)
  | true => cases e; exact (ev_or (d := false) h1 fun z => nomatch z)
theorem et_andM {m : M Bool} (h1 : EvT tt G a) (h2 : ∀ b, m = .ok b → EvT tu G b) (e : mand a m = .ok c) : EvT (tAnd tt tu) G c := by
  cases a with
  | true => exact (et_and h1 fun _ => h2 c e).eq (Bool.true_and c)
  | false => cases e; exact (et_and (d := false) h1 fun z => nomatch z)
theorem et_orM {m : M Bool} (h1 : EvT tt G a) (h2 : ∀ b, m = .ok b → EvT tu G b) (e : mor a m = .ok c) : EvT (tOr tt tu) G c := by
  cases a with
  | false => exact (et_or h1 fun _ => h2 c e).eq (Bool.false_or c)
  | true => cases e; exact (et_or (d := false) h1 fun z => nomatch z)
theorem ev_ifM {x : α} {m1 m2 : M α} (h : EvT tt G a) (h1 : ∀ y, m1 = .ok y → Ev r ta G y) (h2 : ∀ y, m2 = .ok y → Ev r tb' G y) (e : (bif a then m1 else m2) = .ok x) : Ev r (tIf tt ta tb') G x := by
  cases a with
  | true => exact (ev_if (x := x) h (fun _ => h1 x e) fun z => nomatch z)
  | false => exact (ev_if (a := x) h (fun z => nomatch z) fun _ => h2 x e)
theorem nw_lcM {vs : List Nat} {p : β → M Bool} {f : β → M γ} {q : Rp γ} [F : Frz K q] {r : Rp β} {ys : List β} {zs : List γ} [IN : Inhabited γ] (hw : Wk wi r G G' ys) (hlen : ys.length ≤ 12000000)
    (turn : ∀ x, ∃ Gx, Tb g r x vs (wipeG G' vs) Gx ∧ (∀ b, p x = .ok b → EvT tt Gx b) ∧ (∀ y, f x = .ok y → Ev q te Gx y)) (hm : mlc p f ys = .ok zs) :
    Nw (nl K q) (tLc wi g tt te vs) G zs := by
  have each : ∀ pre x post, ys = pre ++ x :: post → ∃ b, p x = .ok b ∧ (b = true → ∃ y, f x = .ok y) := fun pre x post e => by
    rw [e] at hm
    obtain ⟨us, vs', _, h2, _⟩ := mlc_app hm
    obtain ⟨b, hb, h2⟩ := mb_ok h2
    refine ⟨b, hb, fun e => ?_⟩
    subst e
    obtain ⟨y, hy, _⟩ := mb_ok h2
    exact ⟨y, hy⟩
  let P : β → Bool := fun x => match p x with | .ok b => b | .error _ => false
  let Fn : β → γ := fun x => match f x with | .ok y => y | .error _ => default
  have e : (ys.filter P).map Fn = zs := by
    have go : ∀ (l : List β) (us : List γ), mlc p f l = .ok us → (l.filter P).map Fn = us := by
      intro l
      induction l with
      | nil => intro us h; cases h; rfl
      | cons x l ih =>
        intro us h
        obtain ⟨b, hb, h⟩ := mb_ok h
        have eP : P x = b := by show (match p x with | .ok b => b | .error _ => false) = b; rw [hb]
        cases b with
        | false => rw [List.filter_cons, if_neg (by rw [eP]; exact Bool.false_ne_true)]; exact ih us h
        | true =>
          obtain ⟨y, hy, h⟩ := mb_ok h
          obtain ⟨ws, hws, h⟩ := mb_ok h
          cases h
          have eF : Fn x = y := by show (match f x with | .ok y => y | .error _ => default) = y; rw [hy]
          rw [List.filter_cons, if_pos eP, List.map_cons, ih ws hws, eF]
    exact go ys zs hm
  rw [← e]
  refine nw_lc hw hlen fun pre x post hx => ?_
  obtain ⟨Gx, h1, h2, h3⟩ := turn x
  obtain ⟨b, hb, hy⟩ := each pre x post hx
  have eP : P x = b := by show (match p x with | .ok b => b | .error _ => false) = b; rw [hb]
  refine ⟨Gx, h1, by rw [eP]; exact h2 b hb, fun hp => ?_⟩
  rw [eP] at hp
  obtain ⟨y, hy⟩ := hy hp
  have eF : Fn x = y := by show (match f x with | .ok y => y | .error _ => default) = y; rw [hy]
  rw [eF]
  exact h3 y hy
def spM (A : Ra α) (q : Rp β) (m : α → M β) : Sp := fun vs H Q _ => ∃ a b, A H vs a ∧ m a = .ok b ∧ ∀ v H', Same H H' → q H' v b → Q v H'
def spMN (A : Ra α) (R : Rs K β) (m : α → M β) : Sp := fun vs H Q _ => ∃ a b, A H vs a ∧ m a = .ok b ∧ ∀ v H' as, Same H H' → (∀ p, p ∈ as → H p = none) → R.rep H' v b as → Q v H'
def MOk {α β : Type} (m : α → M β) (g : α) (b : β) : Prop := m g = .ok b
theorem a_callM {A : Ra γ} {g : γ} {m : γ → M β} {b : β} {E' : XK} {t : TA} (h : EvA A t G g) (e : MOk m g b) : Ev q (tCall (spM A q m) [] E' t) G b := fun H0 σ H E Q k =>
  h H0 σ H E _ fun vs H1 e1 z1 => by
    rw [List.append_nil]
    exact ⟨g, b, z1, e, fun v H2 e2 z2 => k v H2 (e1.trans e2) z2⟩
theorem a_ncallM {A : Ra γ} {g : γ} {m : γ → M ρ} {b : ρ} {E' : XK} {t : TA} (h : EvA A t G g) (e : MOk m g b) : Nw R (tCall (spMN A R m) [] E' t) G b := fun H0 σ H E Q k =>
  h H0 σ H E _ fun vs H1 e1 z1 => by
    rw [List.append_nil]
    exact ⟨g, b, z1, e, fun v H2 as e2 hn z2 => k v H2 as (e1.trans e2) (fun p hp => free_back e1 (hn p hp)) z2⟩
end
end
section
instance {i j : Int} : Decidable (CMul i j) := by unfold CMul; infer_instance
instance {i j : Int} : Decidable (CDiv i j) := by unfold CDiv; infer_instance
instance : Inhabited Str := ⟨Str.empty⟩
def Fl.go {σ ρ β : Type} (o : Fl σ ρ) (kn : σ → M β) (kr : ρ → M β) (kb : σ → M β) : M β := match o with
  | .nx s => kn s
  | .rt r => kr r
  | .bk s => kb s
theorem go_nx {σ ρ β : Type} {s : σ} {kn : σ → M β} {kr : ρ → M β} {kb : σ → M β} {x : M β} (h : Fl.go (.nx s) kn kr kb = x) : kn s = x := h
theorem go_rt {σ ρ β : Type} {s : ρ} {kn : σ → M β} {kr : ρ → M β} {kb : σ → M β} {x : M β} (h : Fl.go (.rt s) kn kr kb = x) : kr s = x := h
theorem go_bk {σ ρ β : Type} {s : σ} {kn : σ → M β} {kr : ρ → M β} {kb : σ → M β} {x : M β} (h : Fl.go (.bk s) kn kr kb = x) : kb s = x := h
def sgn (s : Str) : Option Nat := match s.cps.toList with
  | [c] => some c
  | _ => none
theorem sgn_eq {s : Str} {c : Nat} (h : sgn s = some c) : s = ⟨#[c]⟩ := by
  unfold sgn at h
  obtain ⟨⟨l⟩⟩ := s
  match l, h with
  | [d], h => cases h; rfl
theorem sgn_one (c : Nat) : sgn ⟨#[c]⟩ = some c := rfl
section
variable {K : PySem.W.Frag} {H0 H1 H H' : Hp} {σ : L2.St} {G G' G2 Gx : Cells K} {α β γ S T ρ : Type}
variable {D : Ends} {t u tb : TS} {te ta tb' : TE} {r : Rp α} {q : Rp β} {R : Rs K ρ} {a b c d : Bool}
theorem RtR.none {H0 : Hp} (h : Have H0 G σ H) : RtR (fz K rN) H0 () .non H := let ⟨_, e, E⟩ := h; ⟨[], e.trans E.old, (fun p hp => nomatch hp), ⟨rfl, fun _ _ => rfl⟩⟩
theorem l_lset {ti : TE} {i : Nat} {xs : List α} {n : Int} {j : Nat} {x : α} (hi : G[i]? = some (some (.ow (nl K r) xs))) (h : Ev r te G x) (hn : Ev rI ti G n) (hj : ixN xs.length n = some j) (k : Nx H0 (G.set i (some (.ow (nl K r) (xs.set j x)))) D.nx) (F : Frz K r := by infer_instance) :
    Sv H0 G (tAsg te (gSub (tVar i) ti rSetL)) D := fun σ H ⟨H1, e1, E⟩ => by
  refine h H1 σ H E _ fun w H2 e2 hw => ?_
  obtain ⟨own, h1, h2, h3⟩ := id E.at_
  obtain ⟨v, hv, p, vs, ea, ev, hp, z⟩ := h3 i _ hi
  subst ev
  refine ⟨_, hv, hn H1 σ H2 (E.grow e2) _ fun y H3 e3 hy => ?_⟩
  have E3 := (E.grow e2).grow e3
  have hp3 := e3 _ _ (e2 _ _ hp)
  refine ⟨p, vs, n, j, rfl, hy, hp3, by rw [z.len]; exact hj, k _ _ ⟨H1, e1, ?_⟩⟩
  have x0 : ExT K H3 (upd H3 p (.lst (vs.set j w))) := ext_upd hp3 fun z => z
  have z3 : A2 (Stb K r (upd H3 p (.lst (vs.set j w)))) vs xs := z.imp fun _ _ q => (q.up (ext_same (e2.trans e3))).up x0
  refine E3.mut (as := [p]) (R := nl K r) (R' := nl K r) hi hv x0 (fun c o hc ho => ?_) (fun w' bs hw' ⟨p', _, e6, e7, _, _⟩ => ?_) ⟨p, _, rfl, rfl, upd_same, z3.set ((stb (F.up (ext_same e3) hw)).up x0) j⟩
  · rw [upd_ne fun z => hc (by rw [z]; exact List.mem_singleton.mpr rfl)]
    exact ho
  · rw [hv] at hw'
    cases hw'
    cases e7
    exact e6
theorem q_lset {ti : TE} {i : Nat} {xs : List α} {n : Int} {j : Nat} {x : α} (hi : G[i]? = some (some (.ow (nl K r) xs))) (h : Ev r te G x) (hn : Ev rI ti G n) (hj : ixN xs.length n = some j) (k : Sv H0 (G.set i (some (.ow (nl K r) (xs.set j x)))) u D) (F : Frz K r := by infer_instance) :
    Sv H0 G (tSeq (tAsg te (gSub (tVar i) ti rSetL)) u) D := l_lset (D := { D with nx := u D }) hi h hn hj k
abbrev rInSg : R2 := fun x y H Q => ∃ (c : Nat) (z : Str), x = .str ⟨#[c]⟩ ∧ y = .str z ∧ Q (.bl (decide (c ∈ z.cps.toList))) H
abbrev rNinSg : R2 := fun x y H Q => ∃ (c : Nat) (z : Str), x = .str ⟨#[c]⟩ ∧ y = .str z ∧ Q (.bl (!decide (c ∈ z.cps.toList))) H
def SgOk (s : Str) (c : Nat) : Prop := sgn s = some c
theorem a_inSg {s t : Str} {z : Nat} (h : Ev rS ta G t) (e : SgOk t z) (h' : Ev rS tb' G s) : Ev rB (tOp rInSg ta tb') G (decide (z ∈ s.cps.toList)) := ev_inSign h (sgn_eq e) h'
theorem a_ninSg {s t : Str} {z : Nat} (h : Ev rS ta G t) (e : SgOk t z) (h' : Ev rS tb' G s) : Ev rB (tOp rNinSg ta tb') G (!decide (z ∈ s.cps.toList)) := ev_ninSign h (sgn_eq e) h'
theorem a_cmpOM {C : Addr} {names : List Str} {r : Rp α} {r' : Rp β} {q : Rp γ} {x : α} {y : β} {z : γ} {m : α × β × Unit → M γ} {E : XK} (h : Ev r ta G x) (h' : Ev r' tb' G y) (M : Mono r) (I : InsR K C r names) (I' : InsR K C r' names) (e : MOk m (x, y, ()) z) :
    Ev q (tOp (rOwnOp C (spM (aC r (aC r' aN)) q m) E) ta tb') G z := ev_op h h' fun H u v hu hv Q k => by
  obtain ⟨a, dx, fs, ea, ha, _⟩ := I.ins hu
  obtain ⟨b, dy, gs, eb, hb, _⟩ := I'.ins hv
  exact ⟨a, dx, fs, b, dy, gs, ea, eb, ha, hb, (x, y, ()), z, ⟨u, _, rfl, hu, v, _, rfl, hv, rfl⟩, e, fun w H' e' hw => k w H' e' hw⟩
theorem nw_binOM {C : Addr} {names : List Str} {R : Rs K ρ} {r : Rp α} {r' : Rp β} {x : α} {y : β} {z : ρ} {m : α × β × Unit → M ρ} {E : XK} (h : Ev r ta G x) (h' : Ev r' tb' G y) (M : Mono r) (I : InsR K C r names) (I' : InsR K C r' names) (e : MOk m (x, y, ()) z) :
    Nw R (tOp (rOwnOp C (spMN (aC r (aC r' aN)) R m) E) ta tb') G z := nw_op h h' fun H u v hu hv Q k => by
  obtain ⟨a, dx, fs, ea, ha, _⟩ := I.ins hu
  obtain ⟨b, dy, gs, eb, hb, _⟩ := I'.ins hv
  exact ⟨a, dx, fs, b, dy, gs, ea, eb, ha, hb, (x, y, ()), z, ⟨u, _, rfl, hu, v, _, rfl, hv, rfl⟩, e, fun w H' as e' hn hw => k w H' as e' hn hw⟩
theorem a_mthM {C : Addr} {names : List Str} {mt : Str} {r : Rp α} {q : Rp γ} {x : α} {z : γ} {A : Ra β} {b : β} {m : α × β → M γ} {E : XK} {t : TA} (h : Ev r ta G x) (M : Mono r) (I : InsR K C r names) (hn : mt ∉ names) (hA : EvA A t G b) (e : MOk m (x, b) z) :
    Ev q (tMeth C mt (spM (aC r A) q m) [] E ta t) G z := fun H0 σ H E1 Q k => h H0 σ H E1 _ fun v H1 e1 hv => by
  obtain ⟨a, dx, fs, ea, ha, hm⟩ := I.ins hv
  refine ⟨a, dx, fs, ea, ha, lookup_no hm hn, hA H0 σ H1 (E1.grow e1) _ fun vs H2 e2 hvs => ?_⟩
  exact ⟨(x, b), z, ⟨v, vs, by rw [List.append_nil], M.up e2 hv, hvs⟩, e, fun w H' e' hw => k w H' ((e1.trans e2).trans e') hw⟩
theorem nw_mthM {C : Addr} {names : List Str} {mt : Str} {R : Rs K ρ} {r : Rp α} {x : α} {z : ρ} {A : Ra β} {b : β} {m : α × β → M ρ} {E : XK} {t : TA} (h : Ev r ta G x) (M : Mono r) (I : InsR K C r names) (hn : mt ∉ names) (hA : EvA A t G b) (e : MOk m (x, b) z) :
    Nw R (tMeth C mt (spMN (aC r A) R m) [] E ta t) G z := fun H0 σ H E1 Q k => h H0 σ H E1 _ fun v H1 e1 hv => by
  obtain ⟨a, dx, fs, ea, ha, hm⟩ := I.ins hv
  refine ⟨a, dx, fs, ea, ha, lookup_no hm hn, hA H0 σ H1 (E1.grow e1) _ fun vs H2 e2 hvs => ?_⟩
  exact ⟨(x, b), z, ⟨v, vs, by rw [List.append_nil], M.up e2 hv, hvs⟩, e, fun w H' as e' hf hw => k w H' as ((e1.trans e2).trans e') (fun p hp => free_back (e1.trans e2) (hf p hp)) hw⟩
def spOneM (K : PySem.W.Frag) (C : Addr) (f : Str) {β : Type} (r : Rp β) {α : Type} (A : Ra α) (m : α → M (List β)) : Sp := fun vs H Q _ => ∃ p dx ws a b, vs = .ref p :: ws ∧ H p = some (.ins C dx []) ∧ A H ws a ∧ m a = .ok b ∧
  ∀ l us H', (∀ c o, c ≠ p → H c = some o → H' c = some o) → H l = none → H' p = some (.ins C dx [(f, .ref l)]) → H' l = some (.lst us) → A2 (Stb K r H') us b → b.length ≤ 12000000 → Q .non H'
theorem spOneM_len {C : Addr} {f : Str} {α β : Type} {r : Rp β} {A : Ra α} {m : α → M (List β)} {n : Nat} [L : LenA A n] {vs : List V} {H : Hp} {Q : VK} {E : XK} (h : spOneM K C f r A m vs H Q E) : vs.length = n + 1 := by
  obtain ⟨p, dx, ws, a, b, rfl, _, hA, _⟩ := h
  rw [List.length_cons, L.len hA]
theorem nw_mkOM {C : Addr} {f : Str} {r : Rp β} {A : Ra α} {a : α} {m : α → M (List β)} {xs : List β} {E : XK} {t : TA} (hA : EvA A t G a) (M : MonoA A) (e : MOk m a xs) : Nw (nOne K C f r) (tMake C (spOneM K C f r A m) [] E t) G xs := fun H0 σ H E1 Q k =>
  hA H0 σ H E1 _ fun ws H1 e1 hws x dx hx hdx hne => by
    have s1 : Same H1 (upd (upd H1 dx (.own x)) x (.ins C dx [])) := fun b o hb => by rw [upd_ne (ne_of_none hb hx), upd_ne (ne_of_none hb hdx)]; exact hb
    refine ⟨x, dx, ws, a, xs, by rw [List.append_nil], upd_same, M.up s1 hws, e, fun l us H' keep hl h1 h2 z hz => ⟨rfl, ?_⟩⟩
    have hlx : x ≠ l := fun q => by rw [← q, upd_same] at hl; cases hl
    have hl1 : H1 l = none := s1.free hl
    refine k _ H' [x, l] (e1.trans fun b o hb => keep b o (ne_of_none hb hx) (s1 _ _ hb)) (fun b hb => ?_) ⟨⟨x, dx, l, us, rfl, rfl, hlx, h1, h2, z⟩, hz⟩
    rcases List.mem_cons.mp hb with q | q
    · rw [q]; exact free_back e1 hx
    · cases List.mem_singleton.mp q
      exact free_back e1 hl1
end
end
section
def Tt {α : Type} (m : M α) (P : α → Prop) : Prop := match m with
  | .ok a => P a
  | .error _ => False
section
variable {α β γ σ ρ : Type} {m : M α} {f : α → M β} {P P' : α → Prop} {Q : β → Prop} {a : α} {c : Bool} {o : Option α}
theorem Tt.ok (h : Tt m P) : ∃ a, m = .ok a ∧ P a := by
  cases m with
  | ok a => exact ⟨a, rfl, h⟩
  | error _ => exact h.elim
theorem Tt.eq (h : Tt m fun x => x = a) : m = .ok a := let ⟨_, e, h⟩ := h.ok; by rw [e, h]
theorem Tt.of (h : m = .ok a) (p : P a) : Tt m P := by rw [h]; exact p
theorem Tt.imp (h : Tt m P) (g : ∀ a, P a → P' a) : Tt m P' := let ⟨a, e, h⟩ := h.ok; .of e (g a h)
theorem Tt.bind (h : Tt m P) (g : ∀ a, P a → Tt (f a) Q) : Tt (mb m f) Q := by
  obtain ⟨a, e, h⟩ := h.ok
  rw [mb_of e]
  exact g a h
theorem Tt.by (h : m = .ok a) (g : Tt (f a) Q) : Tt (mb m f) Q := by rw [mb_of h]; exact g
theorem Tt.ret (h : P a) : Tt (.ok a) P := h
theorem Tt.let (g : Tt (f a) Q) : Tt (mb (.ok a) f) Q := g
theorem Tt.chk {f : Unit → M β} {p : Prop} [Decidable p] (h : p) (g : Tt (f ()) Q) : Tt (mb (chk (decide p)) f) Q := by rw [mb_of (chk_of (decide_eq_true h))]; exact g
theorem Tt.oM (h : o = some a) (g : Tt (f a) Q) : Tt (mb (oM o) f) Q := by rw [mb_of (oM_of h)]; exact g
theorem Tt.if {m' : M α} (h : c = true → Tt m P) (h' : c = false → Tt m' P) : Tt (bif c then m else m') P := by
  cases c with
  | true => exact h rfl
  | false => exact h' rfl
theorem Tt.mand {a : Bool} {m : M Bool} {b : Bool} (h : a = true → m = .ok b) : Gt.mand a m = .ok (a && b) := by
  cases a with
  | true => exact h rfl
  | false => rfl
theorem Tt.mor {a : Bool} {m : M Bool} {b : Bool} (h : a = false → m = .ok b) : Gt.mor a m = .ok (a || b) := by
  cases a with
  | false => exact h rfl
  | true => rfl
theorem Tt.for {f : σ → α → M σ} {xs : List α} {s0 : σ} (I : List α → σ → Prop) (h0 : I [] s0) (h : ∀ pre x post s, xs = pre ++ x :: post → I pre s → Tt (f s x) (I (pre ++ [x]))) : Tt (mfor f s0 xs) (I xs) := by
  have go : ∀ (post pre : List α) (s : σ), xs = pre ++ post → I pre s → Tt (mfor f s post) (I xs) := by
    intro post
    induction post with
    | nil => intro pre s e hI; rw [e, List.append_nil]; exact hI
    | cons x post ih =>
      intro pre s e hI
      exact (h pre x post s e hI).bind fun s' h' => ih (pre ++ [x]) s' (by rw [e, List.append_assoc]; rfl) h'
  exact go xs [] s0 rfl h0
theorem mforF_all {f : Unit → α → M (Fl Unit ρ)} {p : α → Bool} {r : ρ} : ∀ {xs : List α}, (∀ x ∈ xs, f () x = .ok (bif p x then .nx () else .rt r)) → mforF f () xs = .ok (bif xs.all p then .nx () else .rt r)
  | [], _ => rfl
  | x :: xs, h => by
    have h1 := h x (List.mem_cons_self ..)
    have ih := mforF_all (xs := xs) fun y hy => h y (List.mem_cons_of_mem _ hy)
    unfold mforF
    rw [mb_of h1, List.all_cons]
    cases p x with
    | true => exact ih
    | false => rfl
theorem mlc_eq {p : α → M Bool} {f : α → M β} {p' : α → Bool} {f' : α → β} : ∀ {xs : List α}, (∀ x ∈ xs, p x = .ok (p' x)) → (∀ x ∈ xs, p' x = true → f x = .ok (f' x)) → mlc p f xs = .ok ((xs.filter p').map f')
  | [], _, _ => rfl
  | x :: xs, h, h' => by
    have ih := mlc_eq (xs := xs) (fun y hy => h y (List.mem_cons_of_mem _ hy)) (fun y hy => h' y (List.mem_cons_of_mem _ hy))
    unfold mlc
    rw [mb_of (h x (List.mem_cons_self ..)), List.filter_cons]
    cases e : p' x with
    | true => rw [cond_true, mb_of (h' x (List.mem_cons_self ..) e), mb_of ih, if_pos rfl, List.map_cons]
    | false => rw [cond_false, ih, if_neg Bool.false_ne_true]
theorem mlc_map {f : α → M β} {f' : α → β} {xs : List α} (h : ∀ x ∈ xs, f x = .ok (f' x)) : mlc (fun _ => .ok true) f xs = .ok (xs.map f') := by
  have := mlc_eq (p := fun _ => .ok true) (p' := fun _ => true) (f := f) (f' := f') (xs := xs) (fun _ _ => rfl) fun x hx _ => h x hx
  rw [List.filter_eq_self.mpr fun _ _ => rfl] at this
  exact this
theorem Tt.lc {f : α → M β} {xs : List α} {P : β → Prop} (h : ∀ x ∈ xs, Tt (f x) P) : Tt (mlc (fun _ => .ok true) f xs) fun ys => ys.length = xs.length ∧ ∀ y ∈ ys, P y := by
  induction xs with
  | nil => exact ⟨rfl, fun _ h => nomatch h⟩
  | cons x xs ih =>
    unfold mlc
    refine Tt.let ?_
    show Tt (mb (f x) _) _
    refine (h x (List.mem_cons_self ..)).bind fun y hy => (ih fun z hz => h z (List.mem_cons_of_mem _ hz)).bind fun ys hys => Tt.ret ⟨by rw [List.length_cons, hys.1, List.length_cons], fun z hz => ?_⟩
    rcases List.mem_cons.mp hz with e | e
    · rw [e]; exact hy
    · exact hys.2 z e
theorem atI_in {xs : List α} {i : Int} (h0 : 0 ≤ i) (h1 : i < xs.length) : ∃ x, atI xs i = some x ∧ xs[i.toNat]? = some x ∧ x ∈ xs := by
  have hl : i.toNat < xs.length := by omega
  exact ⟨xs[i.toNat], atI_pos h0 (List.getElem?_eq_getElem hl), List.getElem?_eq_getElem hl, List.getElem_mem hl⟩
theorem Tt.ix {xs : List α} {i : Int} {f : α → M β} (h0 : 0 ≤ i) (h1 : i < xs.length) (g : ∀ x, x ∈ xs → xs[i.toNat]? = some x → Tt (f x) Q) : Tt (mb (Gt.oM (atI xs i)) f) Q := by
  obtain ⟨x, e, e2, hx⟩ := atI_in h0 h1
  exact Tt.oM e (g x hx e2)
theorem Tt.ixN {n : Nat} {i : Int} {f : Nat → M β} (h0 : 0 ≤ i) (h1 : i < n) (g : Tt (f i.toNat) Q) : Tt (mb (Gt.oM (L2.ixN n i)) f) Q := by
  refine Tt.oM ?_ g
  unfold L2.ixN
  rw [if_pos h0, if_pos h1]
theorem cut_le (xs : List α) (lo hi : Option Int) : (cut xs lo hi).length ≤ xs.length := by
  unfold cut
  rw [List.length_take, List.length_drop]
  omega
theorem sIx_in {n d : Nat} {i : Int} (h0 : 0 ≤ i) (h1 : i ≤ n) : HT.sIx n d (some i) = i.toNat := by
  obtain ⟨k, rfl⟩ := Int.eq_ofNat_of_zero_le h0
  rw [HT.sIx_nat]
  show min k n = k
  omega
theorem cut_in {xs : List α} {lo hi : Int} (h0 : 0 ≤ lo) (h1 : lo ≤ hi) (h2 : hi ≤ xs.length) : cut xs (some lo) (some hi) = (xs.drop lo.toNat).take (hi - lo).toNat := by
  unfold cut
  rw [sIx_in h0 (by omega), sIx_in (by omega) h2]
  congr 1
  omega
theorem cut_len_in {xs : List α} {lo hi : Int} (h0 : 0 ≤ lo) (h1 : lo ≤ hi) (h2 : hi ≤ xs.length) : (cut xs (some lo) (some hi)).length = (hi - lo).toNat := by
  rw [cut_in h0 h1 h2, List.length_take, List.length_drop]
  omega
theorem ups_mem {n : Nat} {i : Int} (h : i ∈ ups n) : 0 ≤ i ∧ i < n := by
  unfold ups at h
  obtain ⟨j, hj, e⟩ := List.mem_map.mp h
  have := List.mem_range.mp hj
  omega
end
end
end Gt
namespace Gt
open PySem PySem.Spec PyProof.Rows L2 PySem.W PySem.Calls PySem.HandSPX
structure ExcT (prog : Program) (K : PySem.W.Frag) (mg : Str → Option Value) (x fld : Str) (C fI : Addr) : Prop where
  gC : mg x = some (.ref C)
  cls : ∃ nm q N bs bm sn sub ab col dd k0 k1 k2 k3 k5, K.lookup C = some (excClassObj nm q C N bs bm true sn sub ab col dd k0 k1 k2 k3 k5 "ValueError.__new__") ∧ refsVE bm = true
  sa : findIn K (.ref C) "__setattr__" = some (some (.builtin "object.__setattr__"))
  ga : findIn K (.ref C) "__getattribute__" = some (some (.builtin "BaseException.__getattribute__"))
  gg : findIn K (.ref C) "__getattr__" = some none
  no : findIn K (.ref C) fld = some none
  iC : findIn K (.ref C) "__init__" = some (some (.ref fI))
  tI : typeIn K (.ref fI) = some (.type "function")
  kC : keepIn K (.ref C) = true
  exC : subIn K (.ref C) (.type "BaseException") = some true
  tyC : typeIn K (.ref C) = some (.type "type")
  hdC : hasDictIn K C = true
  su : ks_superIn K C C "__init__" = some (some (.builtin "ValueError.__init__"))
  sB : subIn K (.ref C) (.type "ValueError") = some true
  sS : mroIn K C (.ref C) = some true
  op : nsIn K cStatics "thirdparty.any" = some none
  nS : mg "super" = none
  fn : ∃ (oc : Value) (od : Option Addr) (qual : Str) (params : Arguments) (body : List Stmt) (scope : Scope) (doc pm : Value) (an : Option Addr) (cda cc : Addr) (ct : Value) (osl : Array (Option Value)),
    K.lookup fI = some ⟨oc, od, .func (ksFn "__init__" qual params body scope .none .none doc pm an (.ref cda) ct cc), osl⟩ ∧ codeIn K (.ref cda) qual = true ∧
    (∃ cl cld csl, K.lookup cc = some ⟨cl, cld, .cell (some (.ref C)), csl⟩) ∧ (∃ cl cld vs file tf csl, K.lookup cda = some ⟨cl, cld, .fields vs, csl⟩ ∧ vs[2]? = some (.str file tf) ∧ ((prog.main.file : Str) == file) = true) ∧
    (prog.main.scope.names.lookup ("super" : Str)).isSome = false ∧
    (∃ msg j q0 q1 q2 q3 q4 q5 q6 q7 q8 q9, body = [.Expr (.Call (.Attribute (.Call (.Name "super" q0) [] [] q1) "__init__" q2) [.Constant (.str msg) j q3] [] q4) q5, .Assign [.Attribute (.Name "self" q6) fld q7] (.Name fld q8) q9] ∧
      (∀ L cd c2, ∃ pl : Sem Bool, eval (.Call (.Attribute (.Call (.Name "super" q0) [] [] q1) "__init__" q2) [.Constant (.str msg) j q3] [] q4) (ksEnv qual scope L fI cd c2) = (do
        let ov ← attributeBase (.Call (.Name "super" q0) [] [] q1) "__init__" (ksEnv qual scope L fI cd c2) (eval (.Call (.Name "super" q0) [] [] q1) (ksEnv qual scope L fI cd c2))
        standAt q2.atName
        let (f, first) ← holding [ov] (getMethod ov "__init__" pl)
        callWith q4 f first (backTo q4 (starEach [.Constant (.str msg) j q3] (ksEnv qual scope L fI cd c2))) [])) ∧
      (∀ L cd c2, swapsWith (.Call (.Attribute (.Call (.Name "super" q0) [] [] q1) "__init__" q2) [.Constant (.str msg) j q3] [] q4) none q5.line (ksEnv qual scope L fI cd c2) = pure false) ∧
      (∀ L cd c2, swapsWith (.Name fld q8) (some (.Attribute (.Name "self" q6) fld q7)) q9.line (ksEnv qual scope L fI cd c2) = pure false)) ∧
    (∃ ar, (params.posonlyargs ++ params.args).head? = some ar ∧ ar.arg = "self") ∧
    (∀ (s : Shared) (u v : Value), BindsTo s (ksFn "__init__" qual params body scope .none .none doc pm an (.ref cda) ct cc) ⟨[u, v], []⟩ [("self", u), (fld, v)]) ∧
    scope.kind = .function ∧ scope.isGenerator = false ∧ scope.isCoroutine = false ∧ scope.names.lookup ("self" : Str) = some .local ∧ scope.names.lookup fld = some .local ∧ scope.names.lookup ("super" : Str) = some .globalImplicit ∧
    scope.names.lookup ("__class__" : Str) = some .free ∧ (∀ y ∈ scope.names, y.2 ≠ .cell) ∧ (fld == ("self" : Str)) = false ∧ (fld == ("__debug__" : Str)) = false
structure XEnd (h h' : Heap) (x C dx : Addr) (fld : Str) (v : Value) : Prop where
  keep : ∀ b o, b ≠ x → h.get? b = some o → h'.get? b = some o
  obj : ∃ t1 : Addr, h'.get? x = some { cls := .ref C, dict := some dx, data := .fields #[.ref t1, .none, .none, .none, .bool false, .none] }
  dbig : h.objs.size ≤ dx
  dne : dx ≠ x
  ns : h'.Ns1 dx (fun y => if y = fld then some v else none)
theorem xbound {prog : Program} {w : World} {A : Around} {E : Value → Shared → Prop} {h : Heap} {g : Array GenState} {d : Drawn} {t : Nat} {os : OsState} {nm q : Str} {C N : Addr} {bs bm : List Value} {sn : List Str} {sub : List Value} {ab : Bool} {col : Option Bool} {dd : Option Addr} {k0 k1 k2 k3 k5 : Option Value}
    {u e t0 : Addr} {rest : List Value} {Q : Value → Shared → Prop} (hm : refsVE bm = true) (cC : h.get? C = some (excClassObj nm q C N bs bm true sn sub ab col dd k0 k1 k2 k3 k5 "ValueError.__new__")) (ce : h.get? e = some (excO C t0)) (cu : h.get? u = some (kxs_mw "ValueError.__init__" e)) (hz : rest.length ≤ sizeLine)
    (fin : ∀ h' t1, (∀ b o, b ≠ e → h.get? b = some o → h'.get? b = some o) → h'.get? e = some (excO C t1) → Q .none ⟨h', g, d, t, os⟩) : wpAny (model prog w) A (call (.ref u) rest) Q E ⟨h, g, d, t, os⟩ := by
  have FB := PySem.F.excBase_ValueError
  refine wpAny_call (codeAny_of_tree ?_); show wpAny _ A.in1 (callAny (.ref u) ⟨rest, []⟩) _ _ _; simp only [callAny]; refine wpAny_bind (wpAny_load cu ?_)
  have mw : (Value.type "method-wrapper" == Value.type "method" || Value.type "method-wrapper" == Value.type "builtin_function_or_method" || Value.type "method-wrapper" == Value.type "method-wrapper") = true := by decide
  simp only [kxs_mw, mw, if_true]; refine KFB.if_so (by decide) (wpAny_bind (check_bound_init FB.toExcCallFacts cC ce rfl (wpAny_bind (wpAny_pure (wpAny_pure ?_)))))
  refine ⟨plainId_quiet FB.init.plain _, codeAny_builtin FB.initEntry ?_⟩; rw [Around.under_plainId FB.init.plain _]
  exact exc_init_tree (cls := .ref C) (t0 := t0) (dv := none) (c2 := .none) (c3 := .none) (b4 := .bool false) ce hz fun h' k e' _ => fin h' _ k e'
section
variable {prog : Program} {w : World} {A : Around} {R : Result → Shared → Prop} {K : PySem.W.Frag} {mg : Str → Option Value} {x fld : Str} {C fI : Addr}
def Grd (mg : Str → Option Value) (h : Heap) : Prop := h.Ns mainGlobals mg ∧ ∃ mb, h.Ns builtinsNs mb ∧ ∀ x : Str, x ≠ "__name__" → mb x = bootBuiltins x
theorem xinit (T : ExcT prog K mg x fld C fI) {h : Heap} {g : Array GenState} {d : Drawn} {t : Nat} {os : OsState} {a t0 : Addr} {v : Value} (X : K.In h) (hlim : h.NoLimit) (G : Grd mg h) (ha : h.get? a = some (excO C t0)) (haC : a ≠ C) (hnx : K.lookup a = none) (hroom : A.depth < recursionLimit)
    (fin : ∀ h' tk dx, XEnd h h' a C dx fld v → R (.ok (.ret .none)) ⟨h', g, d, tk, os⟩) : codeAny (model prog w) A (.call (.ref fI) ⟨[.ref a, v], []⟩) R ⟨h, g, d, t, os⟩ := by
  obtain ⟨oc, od, qual, params, body, scope, doc, pm, an, cda, cc, ct, osl, hfn, hcd, ⟨cl, cld, csl, hcell⟩, ⟨cl2, cld2, vs, file, tf, csl2, hco, hvs, hfile⟩, htop, ⟨msg, j, q0, q1, q2, q3, q4, q5, q6, q7, q8, q9, eb, hev, hsw1, hsw2⟩, ⟨ar, har, hself⟩, hbind, sk, sg, sco, l1, l2, l3, l4, l5, l6, l7⟩ := T.fn
  obtain ⟨nm, q, N, bs, bm, sn, sub, ab, col, dd, k0, k1, k2, k3, k5, hC, hbm⟩ := T.cls
  obtain ⟨gG, mb, gB, gb⟩ := G
  have hcl : clsIn K C = some { name := nm, bases := bs, mro := .ref C :: bm, ns := N, qualname := q, hasDict := true, slotNames := sn, subclasses := sub, abstract := ab, collection := col, hasDel := false } := by unfold clsIn; rw [hC] <;> rfl
  refine ks_codeAny_call_defAt (binds := [("self", .ref a), (fld, v)]) hroom (X _ _ hfn) rfl hlim (codeRec_of X hcd) rfl (hbind _ _ _) l5 (fun y hy => ?_) (fun h1 ns1 ke1 => ?_) sco sg sk
  · rcases List.mem_cons.mp hy with e | hy
    · rw [e]; exact l1
    · cases List.mem_singleton.mp hy; exact l2
  have X1 := X.keeps ke1
  subst eb
  have a1 := ke1 _ _ ha
  have nsA : (fun y => ([("self", Value.ref a), (fld, v)] : List (Str × Value)).reverse.lookup y) "self" = some (.ref a) := by
    show List.lookup _ [(fld, v), ("self", Value.ref a)] = _
    rw [List.lookup_cons, show (("self" : Str) == fld) = false from by rw [Bool.eq_false_iff]; intro z; rw [← beq_iff_eq.mp z] at l6; simp at l6]
    simp [List.lookup]
  have nsB : (fun y => ([("self", Value.ref a), (fld, v)] : List (Str × Value)).reverse.lookup y) fld = some v := by
    show List.lookup _ [(fld, v), ("self", Value.ref a)] = _
    rw [List.lookup_cons, beq_self_eq_true]
  have envE : callEnv (ksFn "__init__" qual params [.Expr (.Call (.Attribute (.Call (.Name "super" q0) [] [] q1) "__init__" q2) [.Constant (.str msg) j q3] [] q4) q5, .Assign [.Attribute (.Name "self" q6) fld q7] (.Name fld q8) q9] scope .none .none doc pm an (.ref cda) ct cc) h.objs.size fI = ksEnv qual scope h.objs.size fI (.ref cda) cc := rfl
  rw [envE]
  have hi : interactive (ksEnv qual scope h.objs.size fI (.ref cda) cc) = false := by simp [interactive, sk]
  obtain ⟨pl, hpl⟩ := hev h.objs.size (.ref cda) cc
  refine ks_wpAt_execs_cons (ks_wpAt_Expr_any (ks_wpAt_MethodCall ?_ hpl) hi (hsw1 _ _ _))
  refine ks_wpAt_super_base (env := ksEnv qual scope h.objs.size fI (.ref cda) cc) l3 l4 (by decide) rfl (X1 _ _ hfn) rfl har rfl (X1 _ _ hco) rfl hvs hfile htop ?_
  have gG1 := gG.keeps ke1
  have gB1 := gB.keeps ke1
  refine ks_loadName_global sk l3 (loadGlobal_builtin (env := ksEnv qual scope h.objs.size fI (.ref cda) cc) gG1 T.nS gB1 ((gb _ (by decide)).trans (by decide +kernel)) ⟨rfl, ?_⟩)
  refine wpAny_loadName_free sk l4 rfl ⟨_, X1 _ _ hcell, rfl⟩ ?_
  refine wpAny_loadName_local sk (by rw [hself]; exact l1) ns1 (by rw [hself]; exact nsA) ?_
  refine ks_wpAny_isType_cls (X1 _ _ hC) rfl ⟨rfl, ?_⟩
  refine ks_wpAny_call_super (X1 _ _ hC) rfl a1 rfl (fun c z => nomatch z) (looks_mroIn X1 T.sS) (fun h2 so2 ke2 => ?_)
  have X2 := X1.keeps ke2
  have a2 := ke2 _ _ a1
  have su := T.su
  unfold ks_superIn at su
  rw [hcl] at su
  have hI : Looks (model prog w) h2 (isInstance (.ref a) (.type "ValueError")) true := (show Looks (model prog w) h2 (typeOf (.ref a)) (.ref C) from fun A Q E s k q => wpAny_typeOf_ref (k _ _ a2) q).andThen (looks_subIn X2 T.sB)
  refine kxs_getMethod kxs_ValueError so2 (looks_opaque X2 T.op) (l₀ := .ref C :: bm) ?_ rfl X2 su hI haC (by decide) ?_
  · exact fun A Q E s k q => wpAny_bind ((looks_clsIn X2 hcl) A _ E s k (wpAny_pure q))
  have ne2 : ∀ b o, h2.get? b = some o → b ≠ h2.objs.size := fun b o z => Nat.ne_of_lt (Heap.lt_size z)
  have ke3 : ∀ b o, h2.get? b = some o → (h2.push (kxs_mw "ValueError.__init__" a)).get? b = some o := fun b o z => Heap.get?_push_of_some _ z
  have a3 := ke3 _ _ a2
  have u3 : (h2.push (kxs_mw "ValueError.__init__" a)).get? h2.objs.size = some (kxs_mw "ValueError.__init__" a) := Heap.get?_push_at rfl rfl
  refine kxs_callWith (i := "ValueError.__init__") (x := a) rfl ?_
  rw [show starEach [Expr.Constant (Const.str msg) j q3] (ksEnv qual scope h.objs.size fI (Value.ref cda) cc) = (false, eval (Expr.Constant (Const.str msg) j q3) (ksEnv qual scope h.objs.size fI (Value.ref cda) cc)) :: starEach [] (ksEnv qual scope h.objs.size fI (Value.ref cda) cc) from rfl]
  refine evalArgs_plain ?_
  show wpAny _ _ (spliced (backTo q4 (starEach [Expr.Constant (Const.str msg) j q3] (ksEnv qual scope h.objs.size fI (Value.ref cda) cc)))) _ _ _
  refine spliced_more (Constant_str (pos := q3) (spliced_none ⟨u3, ?_⟩))
  refine xbound hbm (ke3 _ _ (X2 _ _ hC)) a3 u3 (by show 1 ≤ sizeLine; rw [sizeLine_eq]; decide) fun h4 t4 ke4 a4 => ?_
  have nL : h.objs.size ≠ a := Nat.ne_of_gt (Heap.lt_size ha)
  have ke04 : ∀ b o, b ≠ a → h.get? b = some o → h4.get? b = some o := fun b o nb z => ke4 b o nb (ke3 _ _ (ke2 _ _ (ke1 _ _ z)))
  have X4 : K.In h4 := fun b o z => ke04 b o (fun e => by
    rw [e, hnx] at z
    cases z) (X _ _ z)
  have ns4 : h4.Ns h.objs.size (fun y => ([("self", Value.ref a), (fld, v)] : List (Str × Value)).reverse.lookup y) := by
    obtain ⟨o, es, ep, z1, z2⟩ := ns1
    exact ⟨o, es, ep, ke4 _ _ nL (ke3 _ _ (ke2 _ _ z1)), z2⟩
  refine wpAt_of_wpAny (wpAny_execs_cons (plainObj_wpAny_Assign_Attribute ?_ (hsw2 _ _ _)))
  refine wpAny_Name (wpAny_loadName_local sk l2 ns4 nsB ?_) l7
  refine wpAny_Name (wpAny_loadName_local sk l1 ns4 nsA ?_) (by decide)
  refine set_plain X4 (ox := excO C t4) (od := none) ⟨a4, rfl, rfl, trivial⟩ T.sa ?_
  refine exc_osa X4 a4 hcl (show refsVE (.ref C :: bm) = true from hbm) rfl T.no (fun h5 tk5 dx ke5 dn dne x5 n5 => ?_)
  refine wpAny_execs_nil (fin h5 tk5 dx ⟨fun b o nb z => ke5 b o nb (ke04 b o nb z), ⟨t4, x5⟩, Nat.le_of_lt (Nat.lt_of_lt_of_le ns4.lt dn), dne, n5⟩)
structure XMade (h h' : Heap) (e C d : Addr) (fld : Str) (v : Value) : Prop where
  keep : ∀ b o, h.get? b = some o → h'.get? b = some o
  new : h.objs.size ≤ e
  obj : ∃ oe vs, h'.get? e = some oe ∧ oe.cls = .ref C ∧ oe.dict = some d ∧ oe.data = .fields vs ∧ vs[1]? = some .none ∧ vs[2]? = some .none
  dbig : h.objs.size ≤ d
  dne : d ≠ e
  ns : h'.Ns1 d (fun y => if y = fld then some v else none)
theorem xmade (T : ExcT prog K mg x fld C fI) {h : Heap} {g : Array GenState} {d : Drawn} {t : Nat} {os : OsState} {v : Value} (X : K.In h) (hlim : h.NoLimit) (G : Grd mg h) (hroom : A.depth + 1 < recursionLimit)
    (fin : ∀ h' tk e d', XMade h h' e C d' fld v → R (.ok (.ret (.ref e))) ⟨h', g, d, tk, os⟩) : codeAny (model prog w) A (.call (.ref C) ⟨[v], []⟩) R ⟨h, g, d, t, os⟩ := by
  obtain ⟨nm, q, N, bs, bm, sn, sub, ab, col, dd, k0, k1, k2, k3, k5, hC, hbm⟩ := T.cls
  let H2 : Heap := (h.push (kdv_tup [v])).push (excO C h.objs.size)
  have kp : ∀ b o, h.get? b = some o → H2.get? b = some o := fun b o z => Heap.get?_push_of_some _ (Heap.get?_push_of_some _ z)
  have at2 : H2.get? (h.objs.size + 1) = some (excO C h.objs.size) := by show ((h.push (kdv_tup [v])).push (excO C h.objs.size)).get? _ = _; heap_get
  have lt2 : ∀ {b : Addr} {o : Obj}, h.get? b = some o → b ≠ h.objs.size + 1 := fun z => Nat.ne_of_lt (Nat.lt_succ_of_lt (Heap.lt_size z))
  have nK : K.lookup (h.objs.size + 1) = none := by
    cases z : K.lookup (h.objs.size + 1) with
    | none => rfl
    | some o => exact absurd rfl (lt2 (X _ _ z))
  refine call_own PySem.F.excBase_ValueError (fun Y => refsVE_contains Y bm hbm) (X _ _ hC) (looks_findIn X T.iC) (fun self => bind_fn X self T.tI) (by show 1 ≤ sizeLine; rw [sizeLine_eq]; decide) ?_
  refine xinit (h := H2) T (X.keeps kp) (hlim.keeps kp) ⟨G.1.keeps kp, let ⟨mb, z1, z2⟩ := G.2; ⟨mb, z1.keeps kp, z2⟩⟩ at2 (lt2 (X _ _ hC)).symm nK (show A.depth + 1 < recursionLimit from hroom) fun h' tk dx E => ?_
  have big : h.objs.size ≤ H2.objs.size := by show h.objs.size ≤ ((h.push _).push _).objs.size; rw [Heap.size_push, Heap.size_push]; omega
  obtain ⟨t1, eo⟩ := E.obj
  exact ⟨rfl, fin h' tk (h.objs.size + 1) dx ⟨fun b o z => E.keep b o (lt2 z) (kp b o z), Nat.le_succ _, ⟨_, _, eo, rfl, rfl, rfl, rfl, rfl⟩, Nat.le_trans big E.dbig, E.dne, E.ns⟩⟩
end
end Gt
namespace Gt
open PySem PySem.Spec PyProof.Rows L2 PySem.HandSPX
def calm {α : Type} (m : M α) : M α := match m with
  | .ok a => .ok a
  | .error _ => .error .stuck
theorem calm_of {α : Type} {m : M α} {a : α} (h : m = .ok a) : calm m = .ok a := by rw [h]; rfl
def NStk {α : Type} (o : M α) : Prop := o ≠ .error .stuck
theorem mbx_ok {α β : Type} {a : α} {f : α → M β} {o : M β} (h : mb (.ok a) f = o) : ∃ b, a = b ∧ f b = o := ⟨a, rfl, h⟩
theorem mbx_chk {β : Type} {c : Bool} {f : Unit → M β} {o : M β} (h : mb (chk c) f = o) (n : NStk o) : c = true ∧ f () = o := by
  cases c with
  | false => exact absurd h.symm n
  | true => exact ⟨rfl, h⟩
theorem mbx_oM {α β : Type} {m : Option α} {f : α → M β} {o : M β} (h : mb (oM m) f = o) (n : NStk o) : ∃ a, m = some a ∧ f a = o := by
  cases m with
  | none => exact absurd h.symm n
  | some a => exact ⟨a, rfl, h⟩
theorem mbx_calm {α β : Type} {m : M α} {f : α → M β} {o : M β} (h : mb (calm m) f = o) (n : NStk o) : ∃ a, m = .ok a ∧ f a = o := by
  cases m with
  | ok a => exact ⟨a, rfl, h⟩
  | error e => exact absurd h.symm n
theorem mbx_to {α β : Type} {m : M α} {f : α → M β} {o : M β} {a : α} (h : mb m f = o) (e : m = .ok a) : f a = o := by rw [e] at h; exact h
theorem mbx_er {α β : Type} {m : M α} {f : α → M β} {o : M β} {e : Er} (h : mb m f = o) (q : m = .error e) : o = .error e := by rw [q] at h; exact h.symm
section
variable {K : PySem.W.Frag} {H0 H1 H H' : Hp} {σ : L2.St} {G G' G2 Gx : Cells K} {α β γ S T ρ : Type}
variable {D : Ends} {t u tb : TS} {wi : TI} {g : TG} {te ta tb' : TE} {tt tu : TT} {r : Rp α} {q : Rp β} {R : Rs K ρ} {a b c d : Bool}
def rPay (K : PySem.W.Frag) : Rp Pay := fun H v p => match p with
  | .s o => rO rS H v o
  | .i n => rI H v n
  | .r x => rRu K H v x
  | .l xs => rT K (rO rS) H v xs
  | .t xs => rT K rS H v xs
  | .q x => rP K (rT K (rRu K)) (rT K (rRu K)) H v x
  | .z => True
instance : Frz K (rPay K) := ⟨fun {H H' v b} e h => match b, h with
  | .s o, h => Frz.up (K := K) (r := rO rS) e h
  | .i n, h => Frz.up (K := K) (r := rI) e h
  | .r x, h => Frz.up (K := K) (r := rRu K) e h
  | .l xs, h => Frz.up (K := K) (r := rT K (rO rS)) e h
  | .t xs, h => Frz.up (K := K) (r := rT K rS) e h
  | .q x, h => Frz.up (K := K) (r := rP K (rT K (rRu K)) (rT K (rRu K))) e h
  | .z, _ => trivial⟩
instance : Mono (rPay K) := ⟨fun e h => Frz.up (K := K) (ext_same e) h⟩
abbrev Fv (K : PySem.W.Frag) (H : Hp) (x : Str × V) (y : Str × Pay) : Prop := x.1 = y.1 ∧ rPay K H x.2 y.2
def XR (K : PySem.W.Frag) (H : Hp) (d : Addr) (fs : List (Str × Pay)) : Prop := ∃ vs, H d = some (.xd vs) ∧ A2 (Fv K H) vs fs
theorem XR.up {d : Addr} {fs : List (Str × Pay)} (h : XR K H d fs) (e : Same H H') : XR K H' d fs := let ⟨vs, h1, h2⟩ := h; ⟨vs, e _ _ h1, h2.imp fun _ _ z => ⟨z.1, Mono.up e z.2⟩⟩
theorem xr_get {fs : List (Str × Pay)} {vs : List (Str × V)} {f : Str} {p : Pay} (z : A2 (Fv K H) vs fs) (h : fs.lookup f = some p) : ∃ v, vs.lookup f = some v ∧ rPay K H v p := by
  induction z with
  | nil => cases h
  | @cons a b as bs h1 h2 ih =>
    obtain ⟨a1, a2⟩ := a
    obtain ⟨b1, b2⟩ := b
    obtain ⟨e1, e2⟩ := h1
    have e1 : a1 = b1 := e1
    subst e1
    rw [List.lookup_cons] at h ⊢
    cases q : f == a1 with
    | true =>
      rw [q] at h
      cases h
      exact ⟨a2, rfl, e2⟩
    | false =>
      rw [q] at h
      exact ih h
def XOk (K : PySem.W.Frag) (H0 : Hp) (E : XK) : Er → Prop
  | .stuck => False
  | .ex x fs => ∀ d H', Same H0 H' → H0 d = none → XR K H' d fs → E (.ref (cA K x)) (some d) H'
theorem XOk.up {E : XK} {e : Er} (h : XOk K H0 E e) (s : Same H0 H1) : XOk K H1 E e := match e, h with
  | .ex _ _, h => fun d H' s' n z => h d H' (s.trans s') (s.free n) z
theorem nstk_of {o : M α} {E : XK} (h : ∀ e, o = .error e → XOk K H0 E e) : NStk o := fun e => h _ e
def spX (A : Ra α) (q : Rp β) (m : α → M β) : Sp := fun vs H Q E => ∃ a, A H vs a ∧ NStk (m a) ∧ (∀ b, m a = .ok b → ∀ v H', Same H H' → q H' v b → Q v H') ∧
  ∀ x fs, m a = .error (.ex x fs) → ∀ d H', Same H H' → H d = none → XR K H' d fs → E (.ref (cA K x)) (some d) H'
def spXN (A : Ra α) (R : Rs K β) (m : α → M β) : Sp := fun vs H Q E => ∃ a, A H vs a ∧ NStk (m a) ∧ (∀ b, m a = .ok b → ∀ v H' as, Same H H' → (∀ p, p ∈ as → H p = none) → R.rep H' v b as → Q v H') ∧
  ∀ x fs, m a = .error (.ex x fs) → ∀ d H', Same H H' → H d = none → XR K H' d fs → E (.ref (cA K x)) (some d) H'
theorem nstk_ok {m : M α} {a : α} (h : m = .ok a) : NStk m := fun z => by rw [h] at z; cases z
theorem a_callX {A : Ra γ} {g : γ} {m : γ → M β} {b : β} {E' : XK} {t : TA} (h : EvA A t G g) (e : MOk m g b) : Ev q (tCall (spX (K := K) A q m) [] E' t) G b := fun H0 σ H E Q k =>
  h H0 σ H E _ fun vs H1 e1 z1 => by
    rw [List.append_nil]
    exact ⟨g, z1, nstk_ok e, fun c hc v H2 e2 z2 => k v H2 (e1.trans e2) (by rw [show m g = .ok b from e] at hc; cases hc; exact z2), fun x fs z => by rw [show m g = .ok b from e] at z; cases z⟩
theorem a_ncallX {A : Ra γ} {g : γ} {m : γ → M ρ} {b : ρ} {E' : XK} {t : TA} (h : EvA A t G g) (e : MOk m g b) : Nw R (tCall (spXN A R m) [] E' t) G b := fun H0 σ H E Q k =>
  h H0 σ H E _ fun vs H1 e1 z1 => by
    rw [List.append_nil]
    exact ⟨g, z1, nstk_ok e, fun c hc v H2 as e2 hn z2 => k v H2 as (e1.trans e2) (fun p hp => free_back e1 (hn p hp)) (by rw [show m g = .ok b from e] at hc; cases hc; exact z2), fun x fs z => by rw [show m g = .ok b from e] at z; cases z⟩
def WOk (H0 : Hp) (G : Cells K) (W : WX) (o : M α) : Prop := NStk o ∧ ∀ x fs, o = .error (.ex x fs) → ∀ σ H H', Have H0 G σ H → Same H H' → ∀ d, H d = none → XR K H' d fs → W (.ref (cA K x)) (some d) σ H'
def tMkX (C : Addr) (f : Str) (ta : TA) : L2.St → Hp → XK → Prop := fun σ H Q => ta σ H fun vs H1 => ∃ v, vs = [v] ∧ ∀ d, H1 d = none → Q (.ref C) (some d) (upd H1 d (.xd [(f, v)]))
theorem l_raise {x f : Str} {p : Pay} {tv : TE} {W : WX} (h : Ev (rPay K) tv G p) (w : ∀ σ H H', Have H0 G σ H → Same H H' → ∀ d, H d = none → XR K H' d [(f, p)] → W (.ref (cA K x)) (some d) σ H') :
    Sv H0 G (fun _ σ H => tMkX (cA K x) f (tCons tv tNil) σ H fun cls d H' => W cls d σ H') D := fun σ H ⟨H1, e1, E⟩ =>
  h H1 σ H E _ fun v H2 e2 z => ⟨v, rfl, fun d hd => w σ H2 _ ⟨H1, e1, E.grow e2⟩ (same_new hd) d hd ⟨_, upd_same, .one ⟨rfl, Mono.up (same_new hd) z⟩⟩⟩
theorem w_of {E : XK} {x : Str} {fs : List (Str × Pay)} (h : XOk K H0 E (.ex x fs)) : ∀ σ H H', Have H0 G σ H → Same H H' → ∀ d, H d = none → XR K H' d fs → (fun cls d (_ : L2.St) H => E cls d H) (.ref (cA K x)) (some d) σ H' := fun σ H H' ⟨H1, s, E1⟩ s' d n z => h d H' ((s.trans E1.old).trans s') ((s.trans E1.old).free n) z
theorem ev_pI {n : Int} (h : Ev rI te G n) : Ev (rPay K) te G (.i n) := h.imp fun _ _ z => z
theorem l_forX {f : S → α → M S} {xs : List α} {s0 : S} {o : M S} {E : XK} (st : S → Cells K) (hm : mfor f s0 xs = o) (hw : Wk wi r G G' xs) (h0 : Sub G' (st s0))
    (hn : ∀ s, o = .ok s → Nx H0 (st s) D.nx) (hX : ∀ e, o = .error e → XOk K H0 E e)
    (body : ∀ H0' D', Same H0 H0' → ∀ x s o', f s x = o' → (∀ s', o' = .ok s' → Nx H0' (st s') D'.nx) → (∀ e, o' = .error e → XOk K H0' E e) → ∃ Gx, Tg g r x (st s) Gx ∧ Sv H0' Gx tb D') : Sv H0 G (tFor wi g tb) D :=
  l_forI st (fun pre s => ∀ ys, xs = pre ++ ys → mfor f s ys = o) s0 hw h0 (fun ys e => by rw [e] at hm; exact hm) (fun H0' e pre x post s hx hI => by
    have h1 : mb (f s x) (fun s' => mfor f s' post) = o := hI _ hx
    refine body H0' _ e x s (f s x) rfl (fun s' es => fun σ H hv => ⟨s', fun ys ey => ?_, hv⟩) fun er ee => (hX er (mbx_er h1 ee)).up e
    have key : ys = post := by
      have e3 := hx.symm.trans ey
      rw [List.append_assoc] at e3
      have := List.append_cancel_left e3
      injection this with _ this
      exact this.symm
    rw [key]
    have q := mbx_to h1 es
    exact q) fun s hs => hn s (by
      have := hs [] (by rw [List.append_nil])
      exact this.symm)
theorem q_forX {f : S → α → M S} {xs : List α} {s0 : S} {o : M S} {E : XK} (st : S → Cells K) (hm : mfor f s0 xs = o) (hw : Wk wi r G G' xs) (h0 : Sub G' (st s0))
    (hn : ∀ s, o = .ok s → Sv H0 (st s) u D) (hX : ∀ e, o = .error e → XOk K H0 E e)
    (body : ∀ H0' D', Same H0 H0' → ∀ x s o', f s x = o' → (∀ s', o' = .ok s' → Nx H0' (st s') D'.nx) → (∀ e, o' = .error e → XOk K H0' E e) → ∃ Gx, Tg g r x (st s) Gx ∧ Sv H0' Gx tb D') : Sv H0 G (tSeq (tFor wi g tb) u) D := l_forX (D := { D with nx := u D }) st hm hw h0 hn hX body
theorem Have.unset {i : Nat} (h : Have H0 G σ H) : Have H0 (G.set i none) (σ.set i none) H := by
  obtain ⟨H1, e, E⟩ := h
  obtain ⟨own, h1, h2, h3⟩ := E.at_
  refine ⟨H1, e, E.old, by rw [List.length_set, List.length_set]; exact E.len, own, h1, h2, fun j c hc => ?_⟩
  by_cases hj : i = j
  · subst hj
    by_cases hl : i < G.length
    · rw [List.getElem?_set_self hl] at hc; cases hc
    · rw [List.getElem?_eq_none (by rw [List.length_set]; omega)] at hc; cases hc
  · rw [List.getElem?_set_ne hj] at hc
    obtain ⟨v, hv, hk⟩ := h3 j c hc
    exact ⟨v, by rw [List.getElem?_set_ne hj]; exact hv, hk⟩
def rExc (K : PySem.W.Frag) (a d : Addr) : Rp (List (Str × Pay)) := fun H v fs => v = .ref a ∧ XR K H d fs
instance {a d : Addr} : Mono (rExc K a d) := ⟨fun e h => ⟨h.1, h.2.up e⟩⟩
theorem Env.setro {i : Nat} {v : V} {b : β} {r : Rp β} [m : Mono r] (E : Env H1 σ H G) (h : r H1 v b) : Env H1 (σ.set i (some v)) H (G.set i (rc r b)) := by
  obtain ⟨own, h1, h2, h3⟩ := E.at_
  refine ⟨E.old, by rw [List.length_set, List.length_set]; exact E.len, fun j => if j = i then [] else own j, fun j p hp => ?_, fun j k p hj hk => ?_, fun j c hc => ?_⟩
  · by_cases hj : j = i
    · simp only [hj, if_true] at hp; cases hp
    · simp only [hj, if_false] at hp; exact h1 j p hp
  · by_cases hji : j = i
    · simp only [hji, if_true] at hj; cases hj
    · by_cases hki : k = i
      · simp only [hki, if_true] at hk; cases hk
      · simp only [hji, hki, if_false] at hj hk; exact h2 j k p hj hk
  · by_cases hj : i = j
    · subst hj
      have hl : i < G.length := by have := (List.getElem?_eq_some_iff.mp hc).1; rw [List.length_set] at this; exact this
      rw [List.getElem?_set_self hl] at hc
      cases hc
      exact ⟨v, List.getElem?_set_self (by rw [E.len]; exact hl), by simp, h⟩
    · rw [List.getElem?_set_ne hj] at hc
      obtain ⟨w, hw, hk⟩ := h3 j c hc
      refine ⟨w, by rw [List.getElem?_set_ne hj]; exact hw, ?_⟩
      have : ¬ j = i := fun e => hj e.symm
      simp only [this, if_false]
      exact hk
theorem catch_in {i : Nat} {a d : Addr} {fs : List (Str × Pay)} (h : Have H0 G σ H) (s : Same H H') (n : H d = none) (z : XR K H' d fs) :
    ∃ H2, Same H0 H2 ∧ Have H2 (G.set i (rc (rExc K a d) fs)) (σ.set i (some (.ref a))) H' := by
  obtain ⟨H1, e, E⟩ := h
  obtain ⟨H2, s1, s2, xt, E2, ho⟩ := E.rebase s
  obtain ⟨vs, hd, hz⟩ := z
  exact ⟨H2, e.trans s1, H2, Same.refl _, E2.setro (r := rExc K a d) ⟨rfl, vs, ho _ _ n hd, hz.imp fun _ _ w => ⟨w.1, Frz.up xt w.2⟩⟩⟩
abbrev exEnds (i : Nat) (D : Ends) : Ends := { nx := fun σ' H' => D.nx (σ'.set i none) H', rt := D.rt, bk := fun σ' H' => D.bk (σ'.set i none) H', ct := fun σ' H' => D.ct (σ'.set i none) H' }
theorem nx_exEnds {i : Nat} (h : Nx H0 (G.set i none) D.nx) : Nx H0 G (exEnds i D).nx := fun σ H z => h _ H z.unset
theorem wok_try {i : Nat} {x : Str} {c : Value} {ts : Addr → Value → Option Addr → TS} {Wout : WX} {o : M α} (n : NStk o) (cl : ∀ y fs, o = .error (.ex y fs) → PySem.W.exmOne K (.ref (cA K y)) c = some true)
    (k : ∀ y fs, o = .error (.ex y fs) → ∀ H2 a d, Same H0 H2 → Sv H2 (G.set i (rc (rExc K a d) fs)) (ts a (.ref (cA K y)) (some d)) (exEnds i D)) : WOk H0 G (wAs K c i ts Wout D) o := by
  refine ⟨n, fun y fs e σ H H' hv s d nd z => ⟨true, cl y fs e, fun _ a _ => ?_, fun q => nomatch q⟩⟩
  obtain ⟨H2, s2, hv2⟩ := catch_in (i := i) (a := a) hv s nd z
  exact k y fs e H2 a d s2 _ _ hv2
def payS (fs : List (Str × Pay)) (f : Str) : Option Str := match fs.lookup f with
  | some (.s (some s)) => some s
  | _ => none
def payO (fs : List (Str × Pay)) (f : Str) : Option (Option Str) := match fs.lookup f with
  | some (.s s) => some s
  | _ => none
def payI (fs : List (Str × Pay)) (f : Str) : Option Int := match fs.lookup f with
  | some (.i n) => some n
  | _ => none
theorem a_xf {i : Nat} {a d C : Addr} {m : Mono (rExc K a d)} {fs : List (Str × Pay)} {f : Str} {p : Pay} (h : G[i]? = some (some (.ro (rExc K a d) m fs))) (hf : fs.lookup f = some p) : Ev (rPay K) (tXf a (.ref C) (some d) C f (tVar i)) G p := fun H0 σ H E Q k => by
  obtain ⟨own, _, _, h3⟩ := E.at_
  obtain ⟨v, hv, _, ev, vs, hd, z⟩ := h3 i _ h
  subst ev
  obtain ⟨w, hw, hp⟩ := xr_get z hf
  exact ⟨_, hv, rfl, rfl, d, vs, w, rfl, E.old _ _ hd, hw, k w H (Same.refl H) (Mono.up E.old hp)⟩
def PayS (fs : List (Str × Pay)) (f : Str) (s : Str) : Prop := payS fs f = some s
def PayO (fs : List (Str × Pay)) (f : Str) (s : Option Str) : Prop := payO fs f = some s
def PayI (fs : List (Str × Pay)) (f : Str) (s : Int) : Prop := payI fs f = some s
theorem a_xfS {i : Nat} {a d C : Addr} {m : Mono (rExc K a d)} {fs : List (Str × Pay)} {f s : Str} (h : G[i]? = some (some (.ro (rExc K a d) m fs))) (hf : PayS fs f s) : Ev rS (tXf a (.ref C) (some d) C f (tVar i)) G s := by
  unfold PayS payS at hf
  split at hf
  · rename_i t e
    cases hf
    exact (a_xf h e).imp fun _ _ z => z
  · cases hf
theorem a_xfO {i : Nat} {a d C : Addr} {m : Mono (rExc K a d)} {fs : List (Str × Pay)} {f : Str} {s : Option Str} (h : G[i]? = some (some (.ro (rExc K a d) m fs))) (hf : PayO fs f s) : Ev (rO rS) (tXf a (.ref C) (some d) C f (tVar i)) G s := by
  unfold PayO payO at hf
  split at hf
  · rename_i t e
    cases hf
    exact (a_xf h e).imp fun _ _ z => z
  · cases hf
theorem a_xfI {i : Nat} {a d C : Addr} {m : Mono (rExc K a d)} {fs : List (Str × Pay)} {f : Str} {s : Int} (h : G[i]? = some (some (.ro (rExc K a d) m fs))) (hf : PayI fs f s) : Ev rI (tXf a (.ref C) (some d) C f (tVar i)) G s := by
  unfold PayI payI at hf
  split at hf
  · rename_i t e
    cases hf
    exact (a_xf h e).imp fun _ _ z => z
  · cases hf
end
section
variable {X : Cx} {x : Str} {k : Nat} {ps : List Str} {sp : Sp} {p pos : Pos} {e : Expr} {es : List Expr} {ta : TA} {W : WX}
structure ExcK (prog : Program) (K : PySem.W.Frag) (mg : Str → Option Value) (x fld : Str) : Prop where
  ex : ∃ fI, ExcT prog K mg x fld (cA K x) fI
theorem pmk_ex {fld : Str} (T : ExcK X.prog X.K X.mg x fld) (hr : Room k X.A) (ha : PA X [e] ta) (hg : Gl X x := by rfl) (hdb : (x == ("__debug__" : Str)) = false := by decide)
    (he : starEach (e :: []) X.env = (false, eval e X.env) :: starEach [] X.env := by rfl) (hpl : (backTo pos (starEach [] X.env)).any (·.1) = false := by rfl) : L2N.PMk X (.Call (.Name x p) [e] [] pos) (tMkX (cA X.K x) fld ta) := by
  obtain ⟨fI, T⟩ := T.ex
  intro pins s σ H Q I h
  refine wpAny_Call_Name_kw (ld_glob I hg T.gC ?_ hdb)
  refine PySem.W.callWith_K (h₀ := X.base) I.ok.mod.kin T.kC (thn (ha.run pos pins s σ H _ I h) fun us s1 hh => ?_) he hpl
  obtain ⟨vs, H1, I1, r1, v, ev, q1⟩ := hh
  subst ev
  refine ⟨I1.kIn, ?_⟩
  obtain ⟨u, rfl, rv⟩ := r1.one
  show wpAny _ _ (call (.ref (cA X.K x)) [u]) _ _ _
  have hlim := I1.nolimit
  have G1 : Grd X.mg s1.heap := ⟨I1.ok.mod.glob.keeps I1.bk, let ⟨mb, z1, z2⟩ := I1.ok.mod.blt; ⟨mb, z1.keeps I1.bk, z2⟩⟩
  obtain ⟨hp, g, d, t, os⟩ := s1
  refine wpAny_call (xmade T I1.kIn hlim G1 (by have := hr.dp; omega) fun h' tk' e d' M => ?_)
  show L2N.MkP X pins σ Q (.ref e) ⟨h', g, d, tk', os⟩
  obtain ⟨oe, fv, hoe, hc, hd, hdat, h1, h2⟩ := M.obj
  obtain ⟨G', g1, g2⟩ := restrict h' fun b => decide (b ≠ e)
  have gk : ∀ b, b ≠ e → G'.get? b = h'.get? b := fun b hb => g1 b (decide_eq_true hb)
  have ge : G'.get? e = none := g2 e (by simp)
  have ne_ : ∀ {b : Addr} {o : Obj}, hp.get? b = some o → b ≠ e := fun q => Nat.ne_of_lt (Nat.lt_of_lt_of_le (Heap.lt_size q) M.new)
  have old : ∀ b o, hp.get? b = some o → G'.get? b = some o := fun b o q => (gk b (ne_ q)).trans (M.keep b o q)
  have ob : ObjOk X.prog X.w (upd H1 d' (.xd [(fld, v)])) G' d' (.xd [(fld, v)]) := ⟨_, M.ns.at (fun o q => (gk d' M.dne).trans q), fun f => by
    by_cases hw : f = fld
    · subst hw
      rw [if_pos rfl, List.lookup_cons, beq_self_eq_true]
      exact rv
    · rw [if_neg hw, List.lookup_cons, show (f == fld) = false from by simpa using hw]
      trivial⟩
  have J : L2.Inv X pins σ (upd H1 d' (.xd [(fld, v)])) ⟨G', g, d, tk', os⟩ := I1.laid (t' := tk') old M.dbig ob
  refine ⟨e, oe, fv, ⟨G', g, d, tk', os⟩, _, .ref (cA X.K x), some d', rfl, J, fun b o q => ?_, ge, hoe, ⟨hc, hd, fun vs e => by rw [hdat] at e; cases e; exact h2⟩, hdat, h1, ?_, rfl, I1.bare, raises_own T.exC T.tyC, q1 d' (I1.hok.fresh M.dbig)⟩
  · by_cases hb : b = e
    · have q' : G'.get? b = some o := q
      rw [hb, ge] at q'
      cases q'
    · exact (gk b hb).symm.trans q
  · rw [upd_ne (Ne.symm M.dne)]
    exact I1.hok.fresh M.new
end
end Gt
namespace PySem.W
open PySem PySem.Spec PySem.Calls PyProof.Rows
section
variable {prog : Program} {w : World} {A : Around} {E : Value → Shared → Prop} {s : Shared} {K : Frag} {x D : Addr} {ox : Obj} {od : Option Obj}
theorem gx_find {C : Addr} {n : Str} {a g : Value} (h1 : (clsIn K C).isSome = true) (h2 : findIn K (.ref C) n = some (some a)) (h3 : specialIn K a "__get__" = some (some g)) (h4 : takesIn K a = some true) : findObj K C od n = some (.bind g a) := by
  obtain ⟨cd, q⟩ := Option.isSome_iff_exists.mp h1
  unfold findObj; rw [q, Option.bind_some, h2, Option.bind_some]; simp [h3, h4]
theorem gx_class {Q : Option Value → Shared → Prop} (h1 : findIn K (.ref D) "__getattribute__" = some (some (.builtin "BaseException.__getattribute__"))) (h2 : findIn K (.ref D) "__getattr__" = some none) (h3 : subIn K (.ref D) (.type "BaseException") = some true)
    (h4 : hasDictIn K D = true) (h5 : findIn K (.ref D) "__class__" = some (some (.builtin "object.__class__"))) (h6 : specialIn K (.builtin "object.__class__") "__get__" = some (some (.builtin "getset_descriptor.__get__")))
    (h7 : takesIn K (.builtin "object.__class__") = some true) (h8 : mroIn K D (.type "object") = some true) (X : K.In s.heap) (I : InstAt s.heap x ox D od) (fin : Q (some (.ref D)) { s with toks := s.toks + 1 }) : wpAny (model prog w) A (getAttr? (.ref x) "__class__") Q E s := by
  have fo : findObj K D od "__class__" = some (.bind (.builtin "getset_descriptor.__get__") (.builtin "object.__class__")) := gx_find (by obtain ⟨cd, hc, _⟩ := any_some h4; rw [hc]; rfl) h5 h6 h7
  obtain ⟨hp, g, d, t, os⟩ := s
  have Lt := I.type (M := model prog w); have La := looks_findIn (M := model prog w) X h1; have Lb := looks_findIn (M := model prog w) X h2; have Lc := looks_find (M := model prog w) X I fo
  have sb : Looks (model prog w) hp (isInstance (.ref x) (.type "BaseException")) true := Lt.andThen (looks_subIn X h3)
  have z2 : (Value.builtin "BaseException.__getattribute__" == Value.builtin "object.__getattribute__") = false := by decide +kernel
  have z1 : (onTheHeap (Value.ref D) && Value.builtin "BaseException.__getattribute__" == Value.builtin "object.__getattribute__") = false := by rw [z2]; rfl
  unfold getAttr? getAttrBy? getAttrBy; refine wpAny_bind (wpAny_mkText (wpAny_bind (wpAny_attempt (wpAny_holding (wpAny_bind (Lt.at (wpAny_bind (La.at ?_))))))))
  show wpAny _ _ (if (onTheHeap (Value.ref D) && Value.builtin "BaseException.__getattribute__" == Value.builtin "object.__getattribute__") = true then _ else _) _ _ _; rw [z1, if_neg Bool.false_ne_true]
  unfold getAttrByItsOwn hookBefore; refine wpAny_bind ?_; rw [if_pos (show onTheHeap (Value.ref D) = true from rfl)]
  refine Lb.at (wpAny_bind (wpAny_attempt (wpAny_holding ?_))); unfold callGetattribute; rw [show (false && onTheHeap (Value.builtin "BaseException.__getattribute__")) = false from rfl, if_neg Bool.false_ne_true]
  unfold boundAndCalled; rw [PySem.F.excAttr_ValueError.ga.bind (.ref x)]; refine wpAny_bind (wpAny_pure ?_); show wpAny _ _ (call (.builtin "BaseException.__getattribute__") [.ref x, .str "__class__" t]) _ _ _
  refine wpAny_call (codeAny_call_builtin PySem.F.excAttr_ValueError.ga.plain PySem.F.entry_bexc_ga (@check_slot (model prog w) _ _ ⟨hp, g, d, t + 1, os⟩ "BaseException.__getattribute__" "BaseException" "__getattribute__" (.ref x) [.str "__class__" t] [] _ (by decide +kernel) (by decide +kernel) sb (PySem.F.args_bexc_ga (.ref x) (.str "__class__" t)) ?_))
  unfold Builtin.«object.__getattribute__»; refine wpAny_bind (wpAny_of_eq (a := ((Value.ref x : Value), [Value.str "__class__" t])) (by first | rfl | (simp only [slotArgs]; rfl)) (wpAny_bind (wpAny_pure (wpAny_bind (Lt.at (wpAny_bind (Lc.at ?_)))))))
  show wpAny _ _ (holding [Value.builtin "object.__class__"] (call (.builtin "getset_descriptor.__get__") [.builtin "object.__class__", .ref x, .ref D]) >>= ret) _ _ _; refine wpAny_bind (wpAny_holding (wpAny_call (class_get (s := ⟨hp, g, d, t + 1, os⟩) (ox := ox) (od := od) X I h8 (wpAny_pure ?_))))
  show wpAny _ _ (handedOut (.ref D)) _ _ _; rw [handedOut_of (v := .ref D) rfl]
  first | exact wpAny_pure (wpAny_pure fin) | exact wpAny_pure fin | exact wpAny_pure (wpAny_bind (wpAny_pure (wpAny_pure fin)))
theorem gx_kit (h1 : findIn K (.ref D) "__getattribute__" = some (some (.builtin "BaseException.__getattribute__"))) (h2 : findIn K (.ref D) "__getattr__" = some none) (h3 : subIn K (.ref D) (.type "BaseException") = some true) (h4 : hasDictIn K D = true) (h5 : findIn K (.ref D) "__class__" = some (some (.builtin "object.__class__")))
    (h6 : specialIn K (.builtin "object.__class__") "__get__" = some (some (.builtin "getset_descriptor.__get__"))) (h7 : takesIn K (.builtin "object.__class__") = some true) (h8 : mroIn K D (.type "object") = some true) : KitX K (.ref x) (.ref D) (fun h => ∃ od, InstAt h x ox D od) where
  ty := fun _ _ _ ⟨_, I⟩ => I.type
  it := fun _ _ X _ => by
    obtain ⟨c1, q1, _⟩ := any_some h4; unfold clsIn at q1; split at q1
    · rename_i c' d' cd' sl' ho; intro A' Q' E' s' k q; unfold isType loadHead; exact wpAny_bind (wpAny_loadPart (k _ _ (X _ _ ho)) (wpAny_pure q))
    · cases q1
  ne := fun h tp dd its n sl X htp => by
    obtain ⟨c1, q1, _⟩ := any_some h4; refine Bool.eq_false_iff.mpr fun q => ?_; have e : D = tp := Value.ref.inj (beq_iff_eq.mp q); subst e; unfold clsIn at q1; split at q1
    · rename_i c' d' cd' sl' ho; have z := (X _ _ ho).symm.trans htp; cases z
    · cases q1
  ca := fun X ⟨_, I⟩ k => gx_class h1 h2 h3 h4 h5 h6 h7 h8 X I k
end
end PySem.W
namespace Gt
open PySem PySem.Spec PyProof.Rows L2
section
open PySem PySem.Spec PyProof.Rows L2 PySem.HandSPX
structure IsX (K : PySem.W.Frag) (x : Str) (v : V) (b : Bool) : Prop where
  c : ExcC K (cA K x)
  k : ∃ cv, (∀ u, RelV v u → u = cv) ∧ PySem.W.kitOne K (.ref (cA K x)) cv = some b
def rIsX (K : PySem.W.Frag) (a : Addr) (cls : Value) (d : Option Addr) : List V → Hp → VK → Prop := fun xs H Q => ∃ (x : Str) (v : V) (b : Bool) (dd : Addr) (fs : List (Str × V)), cls = .ref (cA K x) ∧ xs = [.ref a, v] ∧ IsX K x v b ∧ d = some dd ∧ H dd = some (.xd fs) ∧ Q (.bl b) H
theorem call_isX {X : Cx} {a : Addr} {cls : Value} {d : Option Addr} {oe : Obj} {pn : List (Addr × Obj)} (hz : L2N.Zn cls d oe) (hf : ∃ vs, oe.data = .fields vs) : CallR (X.suite a ((a, oe) :: pn)) (.builtin "isinstance") (rIsX X.K a cls d) := by
  intro pins s σ H xs us Q I r h
  obtain ⟨x, v, b, dd, fs, ec, rfl, ⟨C, cv, hcv, e⟩, ed, hd, q⟩ := h
  subst ec; subst ed
  cases r with
  | cons rx rr =>
    cases rr with
    | cons rt rr =>
    cases rr
    cases rx
    have eu := hcv _ rt
    subst eu
    obtain ⟨hget, _⟩ := I.pin (a, oe) (List.mem_append.mpr (.inl List.mem_cons_self))
    obtain ⟨vs, hv⟩ := hf
    have hx : ObjOk X.prog X.w H s.heap dd (.xd fs) := I.hok dd _ hd
    obtain ⟨mA, hns, hr⟩ := hx
    obtain ⟨od, ho, hl⟩ := lookIn_ns hns
    have J : PySem.W.InstAt s.heap a oe (cA X.K x) (some od) := ⟨hget, hz.1, by unfold PySem.W.notCls; rw [hv] <;> rfl, by rw [hz.2.1]; exact ho⟩
    exact PySem.W.kia_one (PySem.W.gx_kit C.hg C.hk C.hs C.hd C.ha C.hn C.ht C.hm) I.kIn ⟨_, J⟩ e (fun z => nomatch z) fun tk => ⟨.bl b, H, I.kept (t' := tk) fun _ _ z => z, rfl, q⟩
theorem k_isX {X : Cx} (K : PySem.W.Frag) {a : Addr} {cls : Value} {d : Option Addr} {oe : Obj} {pn : List (Addr × Obj)} (hz : L2N.Zn cls d oe) (hf : ∃ vs, oe.data = .fields vs) (h : X.K = K := by rfl) : CallR (X.suite a ((a, oe) :: pn)) (.builtin "isinstance") (rIsX K a cls d) := by subst h; exact call_isX hz hf
theorem pe_xfK {X : Cx} (K : PySem.W.Frag) {a C : Addr} {oe : Obj} {cls : Value} {d : Option Addr} {pn : List (Addr × Obj)} {e : Expr} {te : TE} {pos : Pos} {n : Str} (T : XfC X.K C) (hno : PySem.W.findIn X.K (.ref C) n = some none)
    (hz : L2N.Zn cls d oe) (hf : ∃ vs, oe.data = .fields vs) (he : PE (X.suite a ((a, oe) :: pn)) e te) (hb : attributeBase e n X.env (eval e X.env) = eval e X.env := by rfl) : PE (X.suite a ((a, oe) :: pn)) (.Attribute e n pos) (tXf a cls d C n te) := pe_xf T hno hz.zc hf he hb
section
variable {K : PySem.W.Frag} {H0 H1 H H' : Hp} {σ : L2.St} {G G' G2 Gx : Cells K} {α β γ S T ρ : Type}
variable {D : Ends} {t u tb : TS} {te ta tc : TE} {r : Rp α} {q : Rp β} {R : Rs K ρ} {b : Bool}
theorem a_isX {i : Nat} {a d : Addr} {m : Mono (rExc K a d)} {fs : List (Str × Pay)} {x : Str} {v : V} (h : G[i]? = some (some (.ro (rExc K a d) m fs))) (I : IsX K x v b) : Ev rB (tCB (rIsX K a (.ref (cA K x)) (some d)) (tCons (tVar i) (tCons (tC v) tNil))) G b := fun H0 σ H E Q k => by
  obtain ⟨own, _, _, h3⟩ := E.at_
  obtain ⟨w, hw, _, ev, vs, hd, z⟩ := h3 i _ h
  subst ev
  exact ⟨_, hw, x, v, b, d, vs, rfl, rfl, I, rfl, E.old _ _ hd, k _ H (Same.refl H) rfl⟩
def mtry (m : M α) (c : Str) (f : α → M β) (g : List (Str × Pay) → M β) : M β := match m with
  | .ok a => f a
  | .error .stuck => .error .stuck
  | .error (.ex x fs) => if x = c then g fs else .error .stuck
theorem mtry_ns {m : M α} {c : Str} {f : α → M β} {g : List (Str × Pay) → M β} {o : M β} (h : mtry m c f g = o) (n : NStk o) : NStk m := fun e => by rw [e] at h; exact n h.symm
theorem mtry_to {m : M α} {c : Str} {f : α → M β} {g : List (Str × Pay) → M β} {o : M β} {a : α} (h : mtry m c f g = o) (e : m = .ok a) : f a = o := by rw [e] at h; exact h
theorem mtry_cl {m : M α} {c : Str} {f : α → M β} {g : List (Str × Pay) → M β} {o : M β} {x : Str} {fs : List (Str × Pay)} (h : mtry m c f g = o) (n : NStk o) (e : m = .error (.ex x fs)) : x = c ∧ g fs = o := by
  rw [e] at h
  have h : (if x = c then g fs else .error .stuck) = o := h
  by_cases q : x = c
  · rw [if_pos q] at h; exact ⟨q, h⟩
  · rw [if_neg q] at h; exact absurd h.symm n
theorem ok_ns {a : α} : NStk (.ok a : M α) := fun z => nomatch z
theorem wok_clause {i : Nat} {x : Str} {ts : Addr → Value → Option Addr → TS} {Wout : WX} {m : M α} {f : α → M β} {g : List (Str × Pay) → M β} {o : M β} (h : mtry m x f g = o) (n : NStk o) (cl : PySem.W.exmOne K (.ref (cA K x)) (.ref (cA K x)) = some true)
    (k : ∀ fs, g fs = o → ∀ H2 a d, Same H0 H2 → Sv H2 (G.set i (rc (rExc K a d) fs)) (ts a (.ref (cA K x)) (some d)) (exEnds i D)) : WOk H0 G (wAs K (.ref (cA K x)) i ts Wout D) m :=
  wok_try (x := x) (mtry_ns h n) (fun y fs e => by obtain ⟨q, _⟩ := mtry_cl h n e; rw [q]; exact cl) fun y fs e H2 a d s => by
    obtain ⟨q, hg⟩ := mtry_cl h n e
    subst q
    exact k fs hg H2 a d s
end
end
section
def rOneA (K : PySem.W.Frag) (C : Addr) (f : Str) {β : Type} (r : Rp β) (p : Addr) : Rp (List β) := fun H v xs => v = .ref p ∧ rOne K C f r H v xs
instance {K : PySem.W.Frag} {C p : Addr} {f : Str} {β : Type} {r : Rp β} [M : Mono r] : Mono (rOneA K C f r p) := ⟨fun e h => ⟨h.1, Mono.up e h.2⟩⟩
def nOneA (K : PySem.W.Frag) (C : Addr) (f : Str) {β : Type} (r : Rp β) (p : Addr) : Rs K (List β) where
  rep := fun H v xs as => v = .ref p ∧ (nOne K C f r).rep H v xs as
  stay := fun h x k => ⟨h.1, (nOne K C f r).stay h.2 x k⟩
  there := fun h p hp => (nOne K C f r).there h.2 p hp
section
variable {K : PySem.W.Frag} {H0 H1 H H' : Hp} {σ : L2.St} {G G' G2 Gx : Cells K} {α β γ S T ρ : Type}
variable {D : Ends} {t u tb : TS} {te ta ti tc : TE} {r : Rp β} {C p : Addr} {f : Str} {xs b : List β}
theorem a_roA {i : Nat} {M : Mono (rOneA K C f r p)} (h : G[i]? = some (some (.ro (rOneA K C f r p) M xs))) : Ev (rOne K C f r) (tVar i) G xs := (a_ro h).imp fun _ _ z => z.2
theorem a_oneA {i : Nat} (h : G[i]? = some (some (.ow (nOneA K C f r p) xs))) : Ev (rOne K C f r) (tVar i) G xs := fun H0 σ H E Q k => by
  obtain ⟨own, _, _, h3⟩ := E.at_
  obtain ⟨v, hv, _, ⟨a, dx, l, vs, _, ev, _, h1, h2, z⟩, hz⟩ := h3 i _ h
  exact ⟨v, hv, k v H (Same.refl H) ⟨⟨a, dx, l, vs, ev, h1, h2, nows z⟩, hz⟩⟩
theorem a_no (h : Nw (nOne K C f r) te G xs) : Ev (rOne K C f r) te G xs := fun H0 σ H E Q k => h H0 σ H E Q fun v H' as e hn ⟨⟨a, dx, l, vs, _, ev, _, h1, h2, z⟩, hz⟩ => k v H' e ⟨⟨a, dx, l, vs, ev, h1, h2, nows z⟩, hz⟩
theorem a_nd {q : Rp α} {xs : List (Str × α)} (h : Nw (nd K q) te G xs) : Ev (rD q) te G xs := fun H0 σ H E Q k => h H0 σ H E Q fun v H' as e hn ⟨p, kvs, _, ev, hp, z⟩ => k v H' e ⟨p, kvs, ev, .inl hp, z.imp fun _ _ w => ⟨w.1, w.2.now⟩⟩
theorem a_alias {i j : Nat} (h : G[i]? = some (some (.ow (nOneA K C f r p) xs))) (h' : G[j]? = some (some (.ow (fz K rV) (.ref p)))) : Ev (rOne K C f r) (tVar j) G xs := fun H0 σ H E Q k => by
  obtain ⟨own, _, _, h3⟩ := E.at_
  obtain ⟨v, hv, e1, ⟨a, dx, l, vs, _, ev, _, h1, h2, z⟩, hz⟩ := h3 i _ h
  obtain ⟨w, hw, _, hs⟩ := h3 j _ h'
  have ew : w = .ref p := hs.now
  subst ew
  rw [e1] at ev
  cases ev
  exact ⟨_, hw, k _ H (Same.refl H) ⟨⟨p, dx, l, vs, rfl, h1, h2, nows z⟩, hz⟩⟩
theorem Have.name {i : Nat} (h : Have H0 G σ H) (hi : G[i]? = some (some (.ow (nOne K C f r) xs))) : ∃ q, σ[i]? = some (some (.ref q)) ∧ Have H0 (G.set i (some (.ow (nOneA K C f r q) xs))) σ H := by
  obtain ⟨H1, e, E⟩ := h
  obtain ⟨own, h1, h2, h3⟩ := id E.at_
  obtain ⟨v, hv, ⟨a, dx, l, vs, eas, ev, rest⟩, hz⟩ := h3 i _ hi
  subst ev
  refine ⟨a, hv, H1, e, E.mut (as := own i) (R := nOne K C f r) (R' := nOneA K C f r a) hi hv (ExT.refl _) (fun _ _ _ ho => ho) (fun w bs hw hr => ?_) ⟨rfl, ⟨a, dx, l, vs, eas, rfl, rest⟩, hz⟩⟩
  rw [hv] at hw
  cases hw
  obtain ⟨⟨a2, dx2, l2, vs2, e1, e2, _, e4, _⟩, _⟩ := hr
  cases e2
  rw [rest.2.1] at e4
  cases e4
  rw [e1, eas]
end
section
variable {X : Cx} {tg : Expr}
def iEi (K : PySem.W.Frag) (tl : TE) : TI := fun σ H R => tl σ H fun x H1 => ∃ a, x = .ref a ∧ (((∃ xs, SqL K H1 a xs) ∧ R (Itl K a) H1) ∨ ((∃ xs, SqT K H1 a xs) ∧ R (Itt K a) H1))
theorem pi_ei {l : Expr} {tl : TE} (hl : PE X l tl) : PI X tg l (iEi X.K tl) := by
  refine ⟨fun pins s σ H R I h => thn (hl.run pins s σ H _ I h) fun v s1 ⟨x, H1, I1, r1, a, ex, q1⟩ => ?_⟩
  subst ex
  have ev : v = Value.ref a := r1
  subst ev
  rcases q1 with ⟨⟨xs, hq⟩, q⟩ | ⟨⟨xs, hq⟩, q⟩
  · obtain ⟨its, rv, p, hz⟩ := I1.list hq
    refine wpAny_pyIter_list p.isList ⟨s1.heap.objs.size, [s1.heap.objs.size], _, _, H1, rfl, I1.kept (t' := s1.toks) fun b o e => Heap.get?_push_of_some _ e, turn_list a _, ⟨_, Heap.get?_push_size _ rfl, rfl, rfl⟩, fun b hb => ?_, q⟩
    rw [List.mem_singleton.mp hb]; exact I1.fpOk (Nat.le_refl _) (I1.hok.fresh (Nat.le_refl _))
  · obtain ⟨its, rv, p, hz⟩ := I1.tuple hq
    refine wpAny_pyIter_tuple (show s1.heap.IsTuple a its.toArray from p) ⟨s1.heap.objs.size, [s1.heap.objs.size], _, _, H1, rfl, I1.kept (t' := s1.toks) fun b o e => Heap.get?_push_of_some _ e, turn_tuple a _, ⟨_, Heap.get?_push_size _ rfl, rfl, rfl⟩, fun b hb => ?_, q⟩
    rw [List.mem_singleton.mp hb]; exact I1.fpOk (Nat.le_refl _) (I1.hok.fresh (Nat.le_refl _))
theorem pi_eiK (K : PySem.W.Frag) {l : Expr} {tl : TE} (hl : PE X l tl) (h : X.K = K := by rfl) : PI X tg l (iEi K tl) := by subst h; exact pi_ei hl
end
def rEi (K : PySem.W.Frag) {β : Type} (r : Rp β) : Rp (List β) := fun H v xs => ∃ a vs, v = .ref a ∧ (H a = some (.lst vs) ∨ SqD K H a vs) ∧ A2 (r H) vs xs
section
variable {K : PySem.W.Frag} {H0 H1 H H' : Hp} {σ : L2.St} {G G' : Cells K} {β : Type} {r : Rp β} {te : TE} {xs : List β}
instance [M : Mono r] : Mono (rEi K r) := ⟨fun e ⟨a, vs, ev, h, q⟩ => ⟨a, vs, ev, h.imp (e _ _) ((ext_same e).d _ _), q.imp fun _ _ z => M.up e z⟩⟩
theorem ei_L (h : Ev (rL r) te G xs) : Ev (rEi K r) te G xs := h.imp fun _ _ ⟨a, vs, ev, hp, z⟩ => ⟨a, vs, ev, .inl hp, z⟩
theorem ei_T (h : Ev (rT K r) te G xs) : Ev (rEi K r) te G xs := h.imp fun _ _ ⟨a, vs, ev, hp, z⟩ => ⟨a, vs, ev, .inr hp, z⟩
theorem wk_ei {M : Mono (rEi K r)} [N : Mono r] {i : Nat} (h : G[i]? = some (some (.ro (rEi K r) M xs)) := by rfl) : Wk (iEi K (tVar i)) r G G xs := fun H1 σ H E R k => by
  obtain ⟨own, _, _, h3⟩ := E.at_
  obtain ⟨v, hv, _, p, vs, e2, e3, e4⟩ := h3 i _ h
  refine ⟨v, hv, p, e2, ?_⟩
  rcases e3 with e3 | e3
  · exact .inl ⟨⟨vs, SqL.of (E.old _ _ e3)⟩, k _ H1 H (Same.refl _) (Same.refl _) E (wj_list e3 e4)⟩
  · exact .inr ⟨⟨vs, ext_same E.old _ _ e3⟩, k _ H1 H (Same.refl _) (Same.refl _) E (wj_tup e3 e4)⟩
def idxS (xs : List Str) (x : Str) : Option Nat := xs.findIdx? fun y => decide (y = x)
theorem idxS_ok {xs : List Str} {x : Str} {j : Nat} (h : idxS xs x = some j) : xs[j]? = some x ∧ ∀ m, m < j → ∀ y, xs[m]? = some y → y ≠ x := by
  unfold idxS at h
  rw [List.findIdx?_eq_some_iff_getElem] at h
  obtain ⟨hl, h1, h2⟩ := h
  refine ⟨by rw [List.getElem?_eq_getElem hl, of_decide_eq_true h1], fun m hm y hy e => ?_⟩
  have := h2 m hm
  rw [List.getElem?_eq_getElem (by omega)] at hy
  cases hy
  exact this (decide_eq_true e)
def IdxOk (xs : List Str) (x : Str) (j : Nat) : Prop := idxS xs x = some j
theorem ev_index {tl tx : TE} {x : Str} {xs : List Str} {j : Nat} (h : Ev (rL rS) tl G xs) (h' : Ev rS tx G x) (e : IdxOk xs x j) : Ev rI (tBM K "list" (rIndex K) tl (tCons tx tNil)) G (j : Int) := fun H0 σ H E Q k =>
  h H0 σ H E _ fun v H1 e1 ⟨p, vs, ev, hp, z⟩ => by
    subst ev
    refine ⟨.inl ⟨rfl, vs, SqL.of hp⟩, h' H0 σ H1 (E.grow e1) _ fun w H2 e2 hw => ?_⟩
    have es : vs = xs.map V.str := strs_a2 z
    obtain ⟨i1, i2⟩ := idxS_ok e
    refine ⟨p, vs, w, j, .str x, rfl, rfl, SqL.of (e2 _ _ hp), by rw [hw.1]; rfl, by rw [es]; exact flat_strs xs, by rw [es, List.getElem?_map, i1]; rfl, by rw [hw.1]; exact beq_self_eq_true x, fun m z' hm hz => ?_, k _ H2 (e1.trans e2) rfl⟩
    rw [es, List.getElem?_map] at hz
    cases q : xs[m]? with
    | none => rw [q] at hz; cases hz
    | some y =>
      rw [q] at hz
      cases hz
      rw [hw.1]
      exact beq_eq_false_iff_ne.mpr (i2 m hm y q)
end
end
end Gt
namespace Gt
open PySem PySem.Spec PyProof.Rows L2
section
open PySem PySem.Spec PyProof.Rows L2 PySem.W PySem.Calls PySem.HandSPX
structure XStat (st : Stmt) (qual : Str) (fld : Str) : Prop where
  bd : ∃ msg j q0 q1 q2 q3 q4 q5 q6 q7 q8 q9, defBody st = [.Expr (.Call (.Attribute (.Call (.Name "super" q0) [] [] q1) "__init__" q2) [.Constant (.str msg) j q3] [] q4) q5, .Assign [.Attribute (.Name "self" q6) fld q7] (.Name fld q8) q9] ∧
      (∀ fI L cd c2, ∃ pl : Sem Bool, eval (.Call (.Attribute (.Call (.Name "super" q0) [] [] q1) "__init__" q2) [.Constant (.str msg) j q3] [] q4) (ksEnv qual (defScope st) L fI cd c2) = (do
        let ov ← attributeBase (.Call (.Name "super" q0) [] [] q1) "__init__" (ksEnv qual (defScope st) L fI cd c2) (eval (.Call (.Name "super" q0) [] [] q1) (ksEnv qual (defScope st) L fI cd c2))
        standAt q2.atName
        let (f, first) ← holding [ov] (getMethod ov "__init__" pl)
        callWith q4 f first (backTo q4 (starEach [.Constant (.str msg) j q3] (ksEnv qual (defScope st) L fI cd c2))) [])) ∧
      (∀ fI L cd c2, swapsWith (.Call (.Attribute (.Call (.Name "super" q0) [] [] q1) "__init__" q2) [.Constant (.str msg) j q3] [] q4) none q5.line (ksEnv qual (defScope st) L fI cd c2) = pure false) ∧
      (∀ fI L cd c2, swapsWith (.Name fld q8) (some (.Attribute (.Name "self" q6) fld q7)) q9.line (ksEnv qual (defScope st) L fI cd c2) = pure false)
  ar : ∃ ar, ((defArgs st).posonlyargs ++ (defArgs st).args).head? = some ar ∧ ar.arg = "self"
  bi : ∀ (doc pm : Value) (an : Option Addr) (cda cc : Addr) (ct : Value) (s : Shared) (u v : Value), BindsTo s (ksFn "__init__" qual (defArgs st) (defBody st) (defScope st) .none .none doc pm an (.ref cda) ct cc) ⟨[u, v], []⟩ [("self", u), (fld, v)]
  s1 : (defScope st).kind = .function
  s2 : (defScope st).isGenerator = false
  s3 : (defScope st).isCoroutine = false
  n1 : (defScope st).names.lookup ("self" : Str) = some .local
  n2 : (defScope st).names.lookup fld = some .local
  n3 : (defScope st).names.lookup ("super" : Str) = some .globalImplicit
  n4 : (defScope st).names.lookup ("__class__" : Str) = some .free
  n5 : ∀ y ∈ (defScope st).names, y.2 ≠ .cell
  f1 : (fld == ("self" : Str)) = false
  f2 : (fld == ("__debug__" : Str)) = false
section
variable {prog : Program} {K : Frag} {mg : Str → Option Value} {x fld qual : Str} {st : Stmt} {C fI cda cc N : Addr} {oc doc pm ct cl cl2 : Value} {od cld cld2 an dd : Option Addr} {osl csl csl2 : Array (Option Value)} {vs : Array Value} {file q nm : Str} {tf : Tok}
  {bs bm sub : List Value} {sn : List Str} {ab : Bool} {col : Option Bool} {k0 k1 k2 k3 k5 : Option Value}
theorem excT_of (S : XStat st qual fld) (gC : mg x = some (.ref C)) (hC : K.lookup C = some (excClassObj nm q C N bs bm true sn sub ab col dd k0 k1 k2 k3 k5 "ValueError.__new__")) (hbm : refsVE bm = true)
    (sa : findIn K (.ref C) "__setattr__" = some (some (.builtin "object.__setattr__"))) (ga : findIn K (.ref C) "__getattribute__" = some (some (.builtin "BaseException.__getattribute__"))) (gg : findIn K (.ref C) "__getattr__" = some none) (no : findIn K (.ref C) fld = some none)
    (iC : findIn K (.ref C) "__init__" = some (some (.ref fI))) (tI : typeIn K (.ref fI) = some (.type "function")) (kC : keepIn K (.ref C) = true) (exC : subIn K (.ref C) (.type "BaseException") = some true) (tyC : typeIn K (.ref C) = some (.type "type")) (hdC : hasDictIn K C = true)
    (su : ks_superIn K C C "__init__" = some (some (.builtin "ValueError.__init__"))) (sB : subIn K (.ref C) (.type "ValueError") = some true) (sS : mroIn K C (.ref C) = some true) (op : nsIn K cStatics "thirdparty.any" = some none) (nS : mg "super" = none)
    (lf : K.lookup fI = some ⟨oc, od, .func (ksFn "__init__" qual (defArgs st) (defBody st) (defScope st) .none .none doc pm an (.ref cda) ct cc), osl⟩) (hcd : codeIn K (.ref cda) qual = true) (lcc : K.lookup cc = some ⟨cl, cld, .cell (some (.ref C)), csl⟩)
    (lco : K.lookup cda = some ⟨cl2, cld2, .fields vs, csl2⟩) (hvs : vs[2]? = some (.str file tf)) (hf : ((prog.main.file : Str) == file) = true) (htop : (prog.main.scope.names.lookup ("super" : Str)).isSome = false) : ExcT prog K mg x fld C fI :=
  { gC := gC, cls := ⟨nm, q, N, bs, bm, sn, sub, ab, col, dd, k0, k1, k2, k3, k5, hC, hbm⟩, sa := sa, ga := ga, gg := gg, no := no, iC := iC, tI := tI, kC := kC, exC := exC, tyC := tyC, hdC := hdC, su := su, sB := sB, sS := sS, op := op, nS := nS,
    fn := by
      obtain ⟨msg, j, q0, q1, q2, q3, q4, q5, q6, q7, q8, q9, eb, h1, h2, h3⟩ := S.bd
      exact ⟨oc, od, qual, defArgs st, defBody st, defScope st, doc, pm, an, cda, cc, ct, osl, lf, hcd, ⟨cl, cld, csl, lcc⟩, ⟨cl2, cld2, vs, file, tf, csl2, lco, hvs, hf⟩, htop, ⟨msg, j, q0, q1, q2, q3, q4, q5, q6, q7, q8, q9, eb, h1 fI, h2 fI, h3 fI⟩, S.ar, S.bi doc pm an cda cc ct,
        S.s1, S.s2, S.s3, S.n1, S.n2, S.n3, S.n4, S.n5, S.f1, S.f2⟩ }
end
theorem exm_self {K : Frag} {S : Addr} (h1 : subIn K (.ref S) (.type "BaseException") = some true) (h2 : isClsIn K S = true) (h3 : typeIn K (.ref S) = some (.type "type")) (h4 : subIn K (.ref S) (.ref S) = some true) : exmOne K (.ref S) (.ref S) = some true := by
  have e1 : (subIn K (.ref S) (.type "BaseException") == some true) = true := by rw [h1] <;> rfl
  have e2 : ((clsIn K S).isSome && typeIn K (.ref S) == some (.type "type")) = true := by
    have h2' : (clsIn K S).isSome = true := h2
    rw [h2', h3] <;> rfl
  unfold exmOne kitCls
  rw [if_pos e1]
  exact (if_pos e2).trans h4
section
variable {X : Cx} {P : Program} {w : World} {K : Frag} {mg : Str → Option Value} {base : Heap}
structure CatC (K : Frag) (mg : Str → Option Value) (x fld : Str) : Prop where
  mg : mg x = some (.ref (cA K x))
  ex : exmOne K (.ref (cA K x)) (.ref (cA K x)) = some true
  xf : XfC K (cA K x)
  no : findIn K (.ref (cA K x)) fld = some none
  ec : ExcC K (cA K x)
theorem nm_cat {x fld : Str} (T : CatC X.K X.mg x fld) (hg : Gl X x := by rfl) (hdb : (x == ("__debug__" : Str)) = false := by decide) : Names X x (.ref (cA X.K x)) := ⟨hg, hdb, .inl T.mg⟩
theorem takes_no : L2N.Takes X fun _ _ _ _ => False := fun _ _ ⟨_, _, _, _, _, _, _, _, _, _, _, _, _, _, _, _, z⟩ => z.elim
end
section
variable {K : Frag} {H0 H1 H2 H : Hp} {G : Cells K} {α γ β ρ : Type} {D : Ends} {u : TS} {q : Rp β} {R : Rs K ρ} {P Q : L2.St → Hp → Prop}
theorem rt_ex {i : Nat} {x : ρ} (h : RtOk R H0 x D) (e : Same H0 H2) : RtOk R H2 x (exEnds i D) := h.up e
theorem nx_ex {i : Nat} {G' : Cells K} (h : Nx H0 G' D.nx) (e : Same H0 H2) (s : Sub (G.set i none) G') : Nx H2 G (exEnds i D).nx := nx_exEnds fun σ H z => h σ H ((Have.up e z).less s)
theorem a_isiO {te : TE} {r : Rp α} {T T' : String} {o : Option α} (h : Ev (rO r) te G o) (M : Mono r) (N : TyN K r T) (hb : kitB T T' = some true) (hn : kitB "NoneType" T' = some false) : Ev rB (tCB (rIsi K) (tCons te (tCons (tC (.ty T')) tNil))) G (!isNone' o) := fun H0 σ H E Q k =>
  h H0 σ H E _ fun v H1 e1 hv => by
    cases o with
    | none =>
      have hv : v = .non := hv
      subst hv
      exact ⟨.non, .ty T', .type "NoneType", .type T', false, rfl, .ty T', .base .non, kit_ty hn, k _ H1 e1 rfl⟩
    | some z => exact ⟨v, .ty T', .type T, .type T', true, rfl, .ty T', N.ty hv, kit_ty hb, k _ H1 e1 rfl⟩
end
def aRest {β : Type} (r : Rp β) : Ra (List β) := fun H vs xs => aAll r H vs xs ∧ xs.length ≤ 10
section
variable {K : Frag} {H : Hp} {G : Cells K} {α : Type} {r : Rp α} {t : TA} {xs : List α}
theorem ea_rest (h : EvA (aAll r) t G xs) (hl : xs.length ≤ 10) : EvA (aRest r) t G xs := fun H0 σ H E Q k => h H0 σ H E _ fun vs H1 e1 z => k vs H1 e1 ⟨z, hl⟩
theorem a_some {i : Nat} {o : Option α} {b : α} (h : G[i]? = some (fc (rO r) o)) (e : o = some b) : Ev r (tVar i) G b := by
  subst e
  have z : Ev (rO r) (tVar i) G (some b) := a_fz h
  exact z.imp fun _ _ z => z
theorem ixc_O0 {β : Type} {q : Rp β} {o : Option (α × β)} {p : α × β} [M : Mono r] [N : Mono q] (e : o = some p) : IxC K (rO (rP K r q)) o (tC (.int 0)) G r p.1 := fun ta h => by subst e; exact ev_fst (h.imp fun _ _ z => z)
theorem ixc_O1 {β : Type} {q : Rp β} {o : Option (α × β)} {p : α × β} [M : Mono r] [N : Mono q] (e : o = some p) : IxC K (rO (rP K r q)) o (tC (.int 1)) G q p.2 := fun ta h => by subst e; exact ev_snd (h.imp fun _ _ z => z)
theorem lnc_O {β : Type} {q : Rp β} {o : Option (α × β)} {p : α × β} {n : Nat} [M : Mono r] [N : Mono q] (e : o = some p) (h : LnC K (rP K r q) p n) : LnC K (rO (rP K r q)) o n := fun G te z => by subst e; exact h G te (z.imp fun _ _ z => z)
end
end
section
theorem a_prop {K : PySem.W.Frag} {G : Cells K} {α β : Type} {C : Addr} {names : List Str} {r : Rp α} {q : Rp β} {x : α} {z : β} {m : α × Unit → M β} {ta : TE} (h : Ev r ta G x) (M : Mono r) (I : InsR K C r names) (e : MOk m (x, ()) z) : Ev q (tProp C (spM (aC r aN) q m) [] E0 ta) G z := fun H0 σ H E Q k => h H0 σ H E _ fun v H1 e1 hv => by
  obtain ⟨a, dx, fs, ea, ha, _⟩ := I.ins hv
  subst ea
  exact ⟨a, dx, fs, rfl, ha, (x, ()), z, ⟨_, _, rfl, hv, rfl⟩, e, fun w H2 e2 hw => k w H2 (e1.trans e2) hw⟩
structure CalD (P : Program) (w : World) (K : PySem.W.Frag) (mg : Str → Option Value) (base : Heap) (C : Addr) (k : Nat) (ps : List Str) (sp : Sp) (d : Addr) : Prop where
  ex : ∃ (f : Addr) (fd : FuncData), FnOk P w K mg base CX0 k f fd ps sp ∧ Mk K C f ∧ L2.Binds K fd ps [.ref d]
  tp : ∃ (o : Obj) (n : Nat), K.lookup d = some o ∧ o.dict = none ∧ o.cls = .type "tuple" ∧ o.data = .seq #[] n
def NilT (K : PySem.W.Frag) (d : Addr) : Prop := ∃ (o : Obj) (n : Nat), K.lookup d = some o ∧ o.dict = none ∧ o.cls = .type "tuple" ∧ o.data = .seq #[] n
theorem nw_mkOM0 {K : PySem.W.Frag} {G : Cells K} {α β : Type} {C d : Addr} {f : Str} {r : Rp β} {q : Rp α} {m : List α × Unit → M (List β)} {xs : List β} {E : XK} (hd : NilT K d) (e : MOk m ([], ()) xs) : Nw (nOne K C f r) (tMake C (spOneM K C f r (aC (rEi K q) aN) m) [.ref d] E tNil) G xs := fun H0 σ H E1 Q k x dx hx hdx hne => by
  have s1 : Same H (upd (upd H dx (.own x)) x (.ins C dx [])) := fun b o hb => by rw [upd_ne (ne_of_none hb hx), upd_ne (ne_of_none hb hdx)]; exact hb
  obtain ⟨o, n, h1, h0, h2, h3⟩ := hd
  refine ⟨x, dx, [.ref d], ([], ()), xs, rfl, upd_same, ⟨_, _, rfl, ⟨d, [], rfl, .inr (.inr ⟨o, #[], n, h1, h0, h2, h3, Nat.zero_le _, .nil⟩), .nil⟩, rfl⟩, e, fun l us H' keep hl h1 h2 z hz => ⟨rfl, ?_⟩⟩
  have hlx : x ≠ l := fun q => by rw [← q, upd_same] at hl; cases hl
  have hl1 : H l = none := s1.free hl
  refine k _ H' [x, l] (fun b o hb => keep b o (ne_of_none hb hx) (s1 _ _ hb)) (fun b hb => ?_) ⟨⟨x, dx, l, us, rfl, rfl, hlx, h1, h2, z⟩, hz⟩
  rcases List.mem_cons.mp hb with q | q
  · rw [q]; exact hx
  · cases List.mem_singleton.mp q
    exact hl1
def rStrO (C : Addr) (sp : Sp) : List V → Hp → VK → Prop := fun xs H Q => ∃ a dx fs, xs = [.ref a] ∧ H a = some (.ins C dx fs) ∧ sp [.ref a] H (fun v H' => (∃ z, v = .str z) ∧ Q v H') E0
theorem a_strO {K : PySem.W.Frag} {G : Cells K} {α : Type} {C : Addr} {names : List Str} {r : Rp α} {x : α} {z : Str} {m : α × Unit → M Str} {ta : TE} (h : Ev r ta G x) (M : Mono r) (I : InsR K C r names) (e : MOk m (x, ()) z) : Ev rS (tCB (rStrO C (spM (aC r aN) rS m)) (tCons ta tNil)) G z := fun H0 σ H E Q k => h H0 σ H E _ fun v H1 e1 hv => by
  obtain ⟨a, dx, fs, ea, ha, _⟩ := I.ins hv
  subst ea
  exact ⟨a, dx, fs, rfl, ha, (x, ()), z, ⟨_, _, rfl, hv, rfl⟩, e, fun w H2 e2 hw => ⟨⟨z, hw.1⟩, k w H2 (e1.trans e2) hw⟩⟩
section
variable {P : Program} {w : World} {K : PySem.W.Frag} {mg : Str → Option Value} {base : Heap} {x q c : Str} {st : Stmt} {m k : Nat} {C : Addr} {ps N : List Str} {sp : Sp}
structure DfE0 (K : PySem.W.Frag) (C : Addr) (q : Str) (st : Stmt) (d : Addr) : Prop where
  ex : ∃ (f T : Addr) (oc : Value) (od : Option Addr) (kV doc pm : Value) (an : Option Addr) (cdv ct : Value) (osl : Array (Option Value)) (oT o : Obj) (n n0 : Nat),
    K.lookup f = some ⟨oc, od, .func (PySem.W.fnOf "__init__" q (defArgs st) (defBody st) (defScope st) (.ref T) kV doc pm an cdv ct), osl⟩ ∧ PySem.W.codeIn K cdv q = true ∧ K.lookup T = some oT ∧ oT.data = .seq #[.ref d] n ∧
    K.lookup d = some o ∧ o.dict = none ∧ o.cls = .type "tuple" ∧ o.data = .seq #[] n0 ∧ PySem.W.keepIn K (.ref f) = true ∧ PySem.W.findIn K (.ref C) "__init__" = some (some (.ref f)) ∧ PySem.W.isFn K (.ref f) = true
theorem calD_of {d : Addr} {p1 p2 : Str} (T : ClsF K mg c) (F : DfE0 K (cA K c) q st d) (S : FnScope N [p1, p2] (defScope st)) (len : ∀ vs H Q E, sp vs H Q E → vs.length = ([p1, p2] : List Str).length)
    (bD : ∀ (T : Addr) (kV doc pm : Value) (an : Option Addr) (cdv ct u v : Value), ∃ k, bindArgs (PySem.W.fnOf "__init__" q (defArgs st) (defBody st) (defScope st) (.ref T) kV doc pm an cdv ct) ⟨[u], []⟩ = seqItems? (.ref T) >>= k ∧ k (some #[v]) = pure ([p1, p2].zip [u, v]))
    (hbody : ∀ (cdv : Value) (f : Addr) (A : Around) (outer : List PySem.Env) (s : Shared) (H : Hp) (vs : List V) (Q : VK) (E : XK), Room k (A.deeper (envOfC q (defScope st) s.heap.objs.size f cdv)) → sp vs H Q E →
      ∃ t, PSs (cxOf CX0 P w K mg base N q (defScope st) f cdv A outer s H E).nox (defBody st) t ∧ t { nx := fun _ H' => Q .non H', rt := Q } (start N vs) H) : CalD P w K mg base (cA K c) (k + 1) [p1, p2] sp d := by
  obtain ⟨f, T0, oc, od, kV, doc, pm, an, cdv, ct, osl, oT, o, n, n0, lk, hc, lT, dT, ld, dn, cd, dd, kp, h1, h2⟩ := F.ex
  have F2 : FunE K "__init__" q st 1 f (PySem.W.fnOf "__init__" q (defArgs st) (defBody st) (defScope st) (.ref T0) kV doc pm an cdv ct) := ⟨⟨_, _, _, _, _, _, _, _, _, _, rfl, lk, hc, .inr ⟨T0, oT, [.ref d], n, rfl, lT, dT, rfl, by decide⟩⟩, kp⟩
  refine ⟨⟨f, _, F2.ok S len fun cdv A outer s H vs Q E hr h => (hbody cdv f A outer s H vs Q E hr h).imp fun t h => ⟨h.1.nox, h.2⟩, ⟨T.makes, h1, h2, T.kp⟩, ?_⟩, o, n0, ld, dn, cd, dd⟩
  intro s us X hlen
  have hl1 : us.length = 1 := by
    rw [List.length_append] at hlen
    have hlen : us.length + 1 = 2 := hlen
    omega
  obtain ⟨u, rfl⟩ := List.length_eq_one_iff.mp hl1
  obtain ⟨k, e1, e2⟩ := bD T0 kV doc pm an cdv ct u (.ref d)
  refine BindsTo.of_looks fun M => ?_
  rw [e1]
  exact looks_items X lT dT (.of_pure e2)
end
end
section
structure RF (K : PySem.W.Frag) (α : Type) where
  names : List Str
  rep : Hp → List (Str × V) → α → List Addr → Prop
  ns : ∀ {H : Hp} {fs : List (Str × V)} {x : α} {as : List Addr}, rep H fs x as → fs.map (·.1) = names
  stay : ∀ {H H' : Hp} {fs : List (Str × V)} {x : α} {as : List Addr}, rep H fs x as → ExT K H H' → (∀ p, p ∈ as → ∀ o, H p = some o → H' p = some o) → rep H' fs x as
  there : ∀ {H : Hp} {fs : List (Str × V)} {x : α} {as : List Addr}, rep H fs x as → ∀ p, p ∈ as → ∃ o, H p = some o ∧ ¬ isTup o
section
variable {K : PySem.W.Frag} {α β γ ρ : Type}
def fN : RF K Unit where
  names := []
  rep := fun _ fs _ as => fs = [] ∧ as = []
  ns := fun h => by rw [h.1]; rfl
  stay := fun h _ _ => h
  there := fun h p hp => by rw [h.2] at hp; cases hp
def fC (f : Str) (R : Rs K α) (F : RF K β) : RF K (α × β) where
  names := f :: F.names
  rep := fun H fs x as => ∃ v rest a1 a2, fs = (f, v) :: rest ∧ as = a1 ++ a2 ∧ R.rep H v x.1 a1 ∧ F.rep H rest x.2 a2
  ns := fun ⟨v, rest, a1, a2, e1, _, _, h⟩ => by rw [e1, List.map_cons, F.ns h]
  stay := fun ⟨v, rest, a1, a2, e1, e2, h1, h2⟩ x k => ⟨v, rest, a1, a2, e1, e2, R.stay h1 x (fun p hp => k p (by rw [e2]; exact List.mem_append_left _ hp)), F.stay h2 x (fun p hp => k p (by rw [e2]; exact List.mem_append_right _ hp))⟩
  there := fun ⟨v, rest, a1, a2, e1, e2, h1, h2⟩ p hp => by
    rw [e2] at hp
    rcases List.mem_append.mp hp with q | q
    · exact R.there h1 p q
    · exact F.there h2 p q
def nRec (K : PySem.W.Frag) (C : Addr) (F : RF K α) : Rs K α where
  rep := fun H v x as => ∃ a dx fs bs, v = .ref a ∧ as = a :: bs ∧ H a = some (.ins C dx fs) ∧ F.rep H fs x bs
  stay := fun ⟨a, dx, fs, bs, e1, e2, h1, h2⟩ x k => ⟨a, dx, fs, bs, e1, e2, k a (by rw [e2]; exact List.mem_cons_self ..) _ h1, F.stay h2 x (fun p hp => k p (by rw [e2]; exact List.mem_cons_of_mem _ hp))⟩
  there := fun ⟨a, dx, fs, bs, e1, e2, h1, h2⟩ p hp => by
    rw [e2] at hp
    rcases List.mem_cons.mp hp with q | q
    · rw [q]; exact ⟨_, h1, fun z => z⟩
    · exact F.there h2 p q
def rRec (K : PySem.W.Frag) (C : Addr) (F : RF K α) : Rp α := fun H v x => ∃ as, (nRec K C F).rep H v x as
instance {C : Addr} {F : RF K α} : Mono (rRec K C F) := ⟨fun e ⟨as, h⟩ => ⟨as, (nRec K C F).stay h (ext_same e) fun p _ o ho => e p o ho⟩⟩
theorem rec_ins {C : Addr} {F : RF K α} : InsR K C (rRec K C F) F.names := ⟨fun ⟨as, a, dx, fs, bs, e1, _, h1, h2⟩ => ⟨a, dx, fs, e1, h1, F.ns h2⟩⟩
theorem rec_ins1 {C : Addr} {f : Str} {R : Rs K α} : InsR K C (rRec K C (fC f R fN)) [f] := rec_ins
variable {H0 H1 H2 H H' : Hp} {σ : L2.St} {G G' : Cells K} {r : Rp α} {q : Rp β} {D : Ends} {u : TS} {te ta : TE}
theorem a_noR {i : Nat} {C : Addr} {F : RF K α} {x : α} (h : G[i]? = some (some (.ow (nRec K C F) x))) : Ev (rRec K C F) (tVar i) G x := fun H0 σ H E Q k => by
  obtain ⟨own, _, _, h3⟩ := E.at_
  obtain ⟨v, hv, hr⟩ := h3 i _ h
  exact ⟨v, hv, k v H (Same.refl H) ⟨_, hr⟩⟩
class Bor (K : PySem.W.Frag) {α : Type} (R : Rs K α) (r : outParam (Rp α)) : Prop where
  look : ∀ {H : Hp} {v : V} {x : α} {as : List Addr}, R.rep H v x as → r H v x
instance {r : Rp α} : Bor K (fz K r) r := ⟨fun ⟨_, h⟩ => h _ (ExT.refl _)⟩
instance {C : Addr} {F : RF K α} : Bor K (nRec K C F) (rRec K C F) := ⟨fun h => ⟨_, h⟩⟩
def FldAt (F : RF K α) (f : Str) (R : Rs K β) (get : α → β) : Prop := ∀ H fs x as, F.rep H fs x as → ∃ v bs, fs.lookup f = some v ∧ R.rep H v (get x) bs
theorem fld_hd {f : Str} {R : Rs K α} {F : RF K β} : FldAt (fC f R F) f R (fun x => x.1) := fun H fs x as ⟨v, rest, a1, a2, e1, _, h1, _⟩ => ⟨v, a1, by rw [e1, List.lookup_cons, beq_self_eq_true], h1⟩
theorem fld_tl {f g : Str} {R : Rs K α} {S : Rs K γ} {F : RF K β} {get : β → γ} (h : FldAt F f S get) (ne : (f == g) = false) : FldAt (fC g R F) f S (fun x => get x.2) := fun H fs x as ⟨v, rest, a1, a2, e1, _, _, h2⟩ => by
  obtain ⟨w, bs, l, hr⟩ := h H rest x.2 a2 h2
  exact ⟨w, bs, by rw [e1, List.lookup_cons, ne]; exact l, hr⟩
theorem a_recF {C : Addr} {F : RF K α} {f : Str} {R : Rs K β} {get : α → β} {x : α} {z : β} (h : Ev (rRec K C F) te G x) (fa : FldAt F f R get) (B : Bor K R q) (c : Cls K C) (n : NoAttr K C f) (e : get x = z) : Ev q (tFld K te f) G z := fun H0 σ H E Q k =>
  h H0 σ H E _ fun v H1 e1 ⟨as, a, dx, fs, bs, ea, _, ha, hf⟩ => by
    obtain ⟨w, cs, hl, hw⟩ := fa _ _ _ _ hf
    exact ⟨a, C, dx, fs, w, ea, ha, c, n, hl, k w H1 e1 (e ▸ B.look hw)⟩
theorem a_recE {C : Addr} {F : RF K α} {f : Str} {rt : Rp β} {get : α → List β} {x : α} {z : List β} (h : Ev (rRec K C F) te G x) (fa : FldAt F f (fz K (rT K rt)) get) (c : Cls K C) (n : NoAttr K C f) (e : get x = z) : Ev (rEi K rt) (tFld K te f) G z := ei_T (a_recF (R := fz K (rT K rt)) h fa inferInstance c n e)
structure RecR (K : PySem.W.Frag) (C : Addr) (F : RF K α) (H : Hp) (p : Addr) (x : α) (H' : Hp) : Prop where
  ex : ∃ dx fs as, H' p = some (.ins C dx fs) ∧ F.rep H' fs x as ∧ (∀ q, q ∈ as → H q = none)
  keep : ∀ c o, c ≠ p → H c = some o → H' c = some o
def spRec (K : PySem.W.Frag) (C : Addr) (F : RF K β) (A : Ra α) (m : α → M β) : Sp := fun vs H Q E => ∃ p dx ws a, vs = .ref p :: ws ∧ H p = some (.ins C dx []) ∧ A H ws a ∧ NStk (m a) ∧ (∀ b, m a = .ok b → ∀ H', RecR K C F H p b H' → Q .non H') ∧
  ∀ x fs, m a = .error (.ex x fs) → ∀ d H', (∀ c o, c ≠ p → H c = some o → H' c = some o) → H d = none → XR K H' d fs → E (.ref (cA K x)) (some d) H'
def tMakeS (C : Addr) (sp : Sp) (E : L2.St → XK) (t : TA) : TE := fun σ H Q => t σ H fun vs H1 => ∀ x dx, H1 x = none → H1 dx = none → dx ≠ x →
  sp (.ref x :: vs) (upd (upd H1 dx (.own x)) x (.ins C dx [])) (fun v H2 => v = .non ∧ Q (.ref x) H2) (E σ)
def EvE (H0 : Hp) (R : Rs K α) (te : TE) (G : Cells K) (o : M α) : Prop := ∀ σ H, Have H0 G σ H → ∀ Q : VK, (∀ b, o = .ok b → ∀ v H' as, Same H H' → (∀ p, p ∈ as → H p = none) → R.rep H' v b as → Q v H') → te σ H Q
theorem same_made {x dx : Addr} {C : Addr} (hx : H x = none) (hdx : H dx = none) : Same H (upd (upd H dx (.own x)) x (.ins C dx [])) := fun b o hb => by rw [upd_ne (ne_of_none hb hx), upd_ne (ne_of_none hb hdx)]; exact hb
theorem l_asgE {i : Nat} {R : Rs K α} {o : M α} (h : EvE H0 R te G o) (k : ∀ b, o = .ok b → Nx H0 (G.set i (some (.ow R b))) D.nx) : Sv H0 G (tAsg te (gName i)) D := fun σ H ⟨H1, e1, E⟩ =>
  h σ H ⟨H1, e1, E⟩ _ fun b hb v H' as s hn hr => k b hb _ _ ⟨H1, e1, E.put s hn hr⟩
end
section
variable {K : PySem.W.Frag} {α β : Type} {H0 H : Hp} {σ : L2.St} {G : Cells K} {r : Rp α} {D : Ends} {te : TE} {t : TA}
theorem nw_mkR {C : Addr} {F : RF K β} {A : Ra α} {a : α} {m : α → M β} {b : β} {E' : L2.St → XK} (hA : EvA A t G a) (M : MonoA A) (e : MOk m a b) : Nw (nRec K C F) (tMakeS C (spRec K C F A m) E' t) G b := fun H0 σ H E Q k =>
  hA H0 σ H E _ fun vs H2 e2 hvs x dx hx hdx hne => by
    have e : m a = .ok b := e
    have s1 : Same H2 (upd (upd H2 dx (.own x)) x (.ins C dx [])) := same_made hx hdx
    refine ⟨x, dx, vs, a, rfl, upd_same, M.up s1 hvs, nstk_ok e, fun b' hb H' hr => ⟨rfl, ?_⟩, fun y fs hy => by rw [e] at hy; cases hy⟩
    rw [e] at hb
    cases hb
    obtain ⟨⟨dx', fs, as, h1, h2, h3⟩, kp⟩ := hr
    refine k _ H' (x :: as) (e2.trans fun b o hb => kp b o (ne_of_none hb hx) (s1 _ _ hb)) (fun p hp => ?_) ⟨x, dx', fs, as, rfl, rfl, h1, h2⟩
    rcases List.mem_cons.mp hp with z | z
    · rw [z]; exact free_back e2 hx
    · exact free_back (e2.trans s1) (h3 p z)
end
end
section
section
variable {X : Cx} {CX : CXT} {pins : List (Addr × Obj)} {σ : L2.St} {H H' : Hp} {s s' : Shared} {C fi a it l : Addr} {k : Nat} {fd : FuncData} {ps : List Str} {sp : Sp} {E : XK} {e : Expr} {te : TE} {tg : Expr} {o : HO} {i : Nat}
def rListYT (K : PySem.W.Frag) (C : Addr) (g : Str) : List V → Hp → VK → Prop := fun xs H Q => ∃ a dx fs l zs, xs = [.ref a] ∧ H a = some (.ins C dx fs) ∧ fs.lookup g = some (.ref l) ∧ SqT K H l zs ∧ ∀ q, H q = none → Q (.ref q) (upd H q (.lst zs))
end
theorem nw_recL {K : PySem.W.Frag} {G : Cells K} {α β : Type} {C : Addr} {f : Str} {F : RF K α} {r : Rp β} {get : α → List β} {x : α} {z : List β} {te : TE} (h : Ev (rRec K C F) te G x) (fa : FldAt F f (fz K (rT K r)) get) (e : get x = z) (M : Mono r) (Z : Frz K r) : Nw (nl K r) (tCB (rListYT K C f) (tCons te tNil)) G z := nw_cb (ea_cons h ea_nil) fun H vs ⟨v, ws, ev, ⟨as, a, dx, fs, bs, ea, _, h1, hf⟩, e2⟩ Q k => by
  obtain ⟨w, cs, hl, _, hw⟩ := fa _ _ _ _ hf
  obtain ⟨l, us, el, sq, hz⟩ := hw H (ExT.refl _)
  subst e
  exact ⟨a, dx, fs, l, us, by rw [ev, show ws = [] from e2, ea], h1, by rw [hl, el], sq, fun q hq => k _ _ [q] (same_new hq) (fun b hb => by rw [List.mem_singleton.mp hb]; exact hq) ⟨q, us, rfl, rfl, upd_same, hz.imp fun _ _ w => stb (M.up (same_new hq) w)⟩⟩
section
variable {K : PySem.W.Frag} {G : Cells K} {α : Type} {r : Rp α} {tb : TE} {i : Int} {x : α}
theorem ixc_E {xs : List α} [M : Mono r] (hi : Ev rI tb G i) (hx : atI xs i = some x) : IxC K (rEi K r) xs tb G r x := fun ta h => ev_op h hi fun H u v ⟨p, vs, ev, hp, z⟩ hv Q k => by
  obtain ⟨w, hw, hr⟩ := atI_A2 z hx
  rcases hp with hp | hp
  · exact .inl ⟨p, vs, i, w, ev, hv, SqL.of hp, hw, k w H (Same.refl H) hr⟩
  · exact .inr (.inl ⟨p, vs, i, w, ev, hv, hp, hw, k w H (Same.refl H) hr⟩)
theorem lnc_E {xs : List α} [M : Mono r] : LnC K (rEi K r) xs xs.length := fun G te h => ev_cb (ea_cons h ea_nil) fun H vs ⟨v, ws, e, ⟨p, us, ev, hp, z⟩, e2⟩ Q k =>
  ⟨v, us.length, by rw [e, show ws = [] from e2], by
    rw [ev]
    rcases hp with hp | hp
    · exact .inl ⟨us, SqL.of hp, rfl⟩
    · exact .inr ⟨us, hp, rfl⟩, k _ H (Same.refl H) (by rw [z.len]; rfl)⟩
end
end
section
section
variable {M : Model} {A : Around} {E : Value → Shared → Prop} {s : Shared} {env : PySem.Env}
theorem cw_typeKwB {pos : Pos} {T : String} {args : List (Bool × Sem Value)} {keywords : List (Option Str × Sem Value)} {Q : Value → Shared → Prop}
    (hplain : args.any (·.1) = false) (hkw : keywords.any (·.1.isNone) = false)
    (h : wpAny M A (evalArgs (.type T) true args keywords) (fun a s₁ => wpAny M A (call (.type T) a.pos a.kw) Q E s₁) E s) :
    wpAny M A (callWith pos (.type T) [] args keywords) Q E s := by
  unfold callWith
  refine wpAny_bind (wpAny_holding (wpAny_mono h (fun a s₁ h₁ => wpAny_bind (wpAny_standAt ?_)) fun _ _ x => x))
  simp only [hplain, hkw, Bool.or_false]
  refine wpAny_bind (wpAny_pure ?_)
  exact wpAny_bind (wpAny_mono h₁ (fun r s₂ hr => wpAny_bind (wpAny_holding (wpAny_point (wpAny_pure hr)))) fun _ _ x => x)
theorem cw_typeKw {pos : Pos} {T : String} {e : Expr} {rest : List Expr} {kws : List Keyword} {Q : Value → Shared → Prop}
    (h : wpAny M A (spliced (backTo pos (starEach (e :: rest) env))) (fun vs s₁ => wpAny M A (evalAll ((backToKw pos (keywordEach kws env)).map (·.2)))
      (fun kvs s₂ => wpAny M A (call (.type T) vs (((backToKw pos (keywordEach kws env)).filterMap (·.1)).zip kvs)) Q E s₂) E s₁) E s)
    (he : backTo pos (starEach (e :: rest) env) = (false, eval e env) :: backTo pos (starEach rest env))
    (hplain : (backTo pos (starEach (e :: rest) env)).any (·.1) = false)
    (hall : (backToKw pos (keywordEach kws env)).all (·.1.isSome) = true)
    (hkw : (backToKw pos (keywordEach kws env)).any (·.1.isNone) = false) :
    wpAny M A (callWith pos (.type T) [] (backTo pos (starEach (e :: rest) env)) (backToKw pos (keywordEach kws env))) Q E s := by
  refine cw_typeKwB hplain hkw ?_
  rw [he] at h ⊢
  exact PyProof.Rows.evalArgs_kwB hall h
end
def IteS (K : PySem.W.Frag) (a : Addr) (k : Int) : It :=
  ⟨fun i H => ∃ (xs : List V) (x : V), SqL K H a xs ∧ xs[i]? = some x, fun i H v H' => ∃ T x, v = .ref T ∧ H T = none ∧ H' = upd H T (.tup [.int (k + (i : Nat)), x]) ∧ ∀ xs, SqL K H a xs → xs[i]? = some x, fun i H => ∃ xs : List V, SqL K H a xs ∧ xs.length = i⟩
theorem turn_enumS {P : Program} {w : World} {K : PySem.W.Frag} {elts : List Expr} {kk : Nat} {tpos : Pos} (a e it : Addr) (k : Int) (hae : a ≠ it) (hee : e ≠ a) :
    Turn P w K (.Tuple elts kk tpos) (IteS K a k) [e, it] e (fun i h => (∃ old, IsEnum h e it (k + (i : Nat)) old) ∧ h.IsListIter it a i ∧ e ≠ it) where
  mem := by simp
  obj := fun i h st b hb => by
    obtain ⟨⟨old, he⟩, ⟨o, ho, hc, hd⟩, _⟩ := st
    have e' : b = e ∨ b = it := by simpa using hb
    rcases e' with z | z
    · rw [z]; exact ⟨_, he, fun v q => nomatch q⟩
    · rw [z]; exact ⟨o, ho, fun v q => by rw [hd] at q; cases q⟩
  keep := fun i h h' st k => let ⟨⟨old, he⟩, hi, hne⟩ := st; ⟨⟨old, k e (by simp) _ he⟩, hi.at fun o q => k it (by simp) o q, hne⟩
  item := by
    intro X hP hw hK hc i pins s σ H E I hf st hg
    subst hP hw hK
    obtain ⟨⟨old, he⟩, hit, hne⟩ := st
    obtain ⟨xs, x, hq, hx⟩ := hg
    obtain ⟨its, rv, p, hz⟩ := I.list hq
    obtain ⟨u, hu, ru⟩ := rv.get hx
    have hel : e < s.heap.objs.size := Heap.lt_size he
    have hil : it < s.heap.objs.size := by obtain ⟨_, q, _⟩ := hit; exact Heap.lt_size q
    have hlt : i < its.toArray.size := by
      have := (List.getElem?_eq_some_iff.mp hu).1
      simpa using this
    have hh : X.A.in1.handled = none := I.ok.hd hc
    refine wpAny_pyNext_enum_itemC (Draws.list (prog := X.prog) (w := X.w) (A := X.A.in1) hh it a hae its.toArray) he ⟨hit, p.isList⟩ hlt hne (by simp only [List.mem_cons, List.not_mem_nil, or_false, not_or]; exact ⟨hne, hee⟩) fun u' h' tk hP' ho hst' hT hsz hk => ?_
    have hu' : u' = u := by
      have q : its.toArray[i]? = some u' := hP'
      have q2 : its.toArray[i]? = some u := by simpa using hu
      rw [q2] at q
      cases q
      rfl
    subst hu'
    have hit' := hst'.1
    refine ⟨_, rfl, wpAny_letOwnedTupleGo_enum (s := { s with heap := h', toks := tk + 1 }) ho fun h'' he' sb => ?_⟩
    have hT2 : h''.get? s.heap.objs.size = some { cls := .type "tuple", data := .seq #[.int (k + (i : Nat)) tk, u'] } := (sb.2 _ (Nat.ne_of_gt hel)).trans hT
    have new : ObjOk X.prog X.w (upd H s.heap.objs.size (.tup [.int (k + (i : Nat)), x])) h'' s.heap.objs.size (.tup [.int (k + (i : Nat)), x]) :=
      ⟨by show 2 ≤ sizeLine; decide, [.int (k + (i : Nat)) tk, u'], .cons ⟨_, rfl⟩ (.cons ru .nil), ⟨_, hT2, rfl, _, rfl⟩⟩
    have I1 : Inv X pins σ (upd H s.heap.objs.size (.tup [.int (k + (i : Nat)), x])) { s with heap := h'', toks := tk + 1 } :=
      I.turnedNew (ch := [e, it]) (fun b ob hb q => (sb.2 b (fun z => hb (by simp [z]))).trans (hk b ob (fun z => hb (by simp [z])) (fun z => hb (by simp [z])) q)) hf (Nat.le_refl _) new
    refine ⟨.ref s.heap.objs.size, _, I1, rfl, ⟨_, x, rfl, I.hok.fresh (Nat.le_refl _), rfl, fun ys hy => by rw [I.list_inj hy hq]; exact hx⟩, ⟨⟨u', ?_⟩, hit'.at fun o q => (sb.2 it (Ne.symm hne)).trans q, hne⟩, fun b hb => ?_⟩
    · have e1 : k + ((i + 1 : Nat) : Int) = k + (i : Int) + 1 := by omega
      rw [e1]; exact he'
    · have hb' : b < s.heap.objs.size := by
        have e' : b = e ∨ b = it := by simpa using hb
        rcases e' with z | z
        · rw [z]; exact hel
        · rw [z]; exact hil
      rw [upd_ne (Nat.ne_of_lt hb')]
      exact (hf b hb).1
  done := by
    intro X hP hw hK hc i pins s σ H E I hf st hg
    subst hP hw hK
    obtain ⟨⟨old, he⟩, hit, hne⟩ := st
    obtain ⟨xs, hq, hx⟩ := hg
    obtain ⟨its, rv, p, hz⟩ := I.list hq
    obtain ⟨f0, f1, f2, f3, f4, f5⟩ := hf it (by simp)
    have hl := rv.length
    have hn : i = its.toArray.size := by simp; omega
    subst hn
    have hae : a ≠ it := hae
    exact wpAny_pyNext_enum_endD (Draws.list (prog := X.prog) (w := X.w) (A := X.A.in1) (I.ok.hd hc) it a hae its.toArray) he ⟨hit, p.isList⟩ fun h' eb => ⟨rfl, I.turned (t' := s.toks) (fun b o hb q => eb b o hb q) f0 f1 f3 f4 f5⟩
  self := fun A i s Q E st h => let ⟨⟨_, he⟩, _⟩ := st; wpAny_pyIter_enum he h
def iEnumS (K : PySem.W.Frag) (ta : TA) (tk : TE) : TI := fun σ H R => ta σ H fun vs H1 => tk σ H1 fun u H2 => ∃ a xs k, vs = [.ref a] ∧ u = .int k ∧ SqL K H2 a xs ∧ -(2 ^ 63) ≤ k ∧ k < 2 ^ 63 ∧ R (IteS K a k) H2
theorem pi_enumS (K : PySem.W.Frag) {X : Cx} {e ek : Expr} {ta : TA} {tk : TE} {p pos kpos tpos : Pos} {elts : List Expr} {kk : Nat} (hg : Gl X "enumerate") (hm : X.mg "enumerate" = none) (ha : PA X [e] ta) (hk : PE X ek tk)
    (hs : starEach [e] X.env = [(false, eval e X.env)] := by rfl) (hK : X.K = K := by rfl) :
    PI X (.Tuple elts kk tpos) (.Call (.Name "enumerate" p) [e] [⟨some (Str.ofString "start"), ek, kpos⟩] pos) (iEnumS K ta tk) := by
  subst hK
  refine ⟨fun pins s σ H R I h => ?_⟩
  refine wpAny_Call_Name_kw (ld_blt I hg hm boot_enumerate ?_)
  have hkw : PK X [⟨some (Str.ofString "start"), ek, kpos⟩] (tCons tk tNil) := pk_cons hk pk_nil
  refine cw_typeKw (thn (ha.run pos pins s σ H _ I h) fun us s1 ⟨vs, H1, I1, r1, q1⟩ => thn (hkw.run pos pins s1 σ H1 (fun ks H2 => match ks with | [u] => ∃ a xs k, vs = [.ref a] ∧ u = .int k ∧ SqL X.K H2 a xs ∧ -(2 ^ 63) ≤ k ∧ k < 2 ^ 63 ∧ R (IteS X.K a k) H2 | _ => False) I1 q1) fun ks s2 ⟨kv, H2, I2, r2, q2⟩ => ?_) (by rw [hs]; rfl) (by rw [hs]; rfl) rfl rfl
  · cases r2 with
    | nil => exact q2.elim
    | cons r' rr' =>
      cases rr' with
      | cons _ _ => exact q2.elim
      | nil =>
        obtain ⟨a, xs, k, ev, eu, hq, k0, k1, q⟩ := q2
        subst ev eu
        obtain ⟨ua, rfl, hra⟩ := r1.one
        obtain rfl : ua = Value.ref a := hra
        obtain ⟨t, rfl⟩ := r'
        obtain ⟨its, rv, p', hz⟩ := I2.list hq
        show wpAny _ _ (call (.type "enumerate") [.ref a] [(Str.ofString "start", .int k t)]) _ _ s2
        refine enum_begins_start (begins_list a its.toArray) p'.isList k0 k1 fun h' he hit hsz hk2 => wpAny_pyIter_enum he ?_
        have I3 : Inv X pins σ H2 { s2 with heap := h' } := I2.kept (t' := s2.toks) hk2
        have hal : a < s2.heap.objs.size := by
          obtain ⟨o, ho, _⟩ := p'.isList
          exact Heap.lt_size ho
        have e0 : k + ((0 : Nat) : Int) = k := by simp
        refine ⟨s2.heap.objs.size + 1, [s2.heap.objs.size + 1, s2.heap.objs.size], _, _, H2, rfl, I3, turn_enumS a (s2.heap.objs.size + 1) s2.heap.objs.size k (Nat.ne_of_lt hal) (Nat.ne_of_gt (Nat.lt_succ_of_lt hal)), ⟨⟨.none, by rw [e0]; exact he⟩, ⟨_, hit, rfl, rfl⟩, Nat.succ_ne_self _⟩, fun b hb => ?_, q⟩
        have e' : b = s2.heap.objs.size + 1 ∨ b = s2.heap.objs.size := by simpa using hb
        have hle : s2.heap.objs.size ≤ b := by
          rcases e' with z | z
          · rw [z]; exact Nat.le_add_right _ _
          · rw [z]; exact Nat.le_refl _
        exact I2.fpOk hle (I2.hok.fresh hle)
def enumFrom {α : Type} : Int → List α → List (Int × α)
  | _, [] => []
  | k, x :: xs => (k, x) :: enumFrom (k + 1) xs
theorem enumFrom_get {α : Type} : ∀ (xs : List α) (k : Int) (i : Nat), (enumFrom k xs)[i]? = xs[i]?.map fun x => (k + (i : Nat), x)
  | [], _, _ => rfl
  | x :: xs, k, 0 => by show some (k, x) = some (k + ((0 : Nat) : Int), x); rw [show k + ((0 : Nat) : Int) = k by simp]
  | x :: xs, k, i + 1 => by
    have h := enumFrom_get xs (k + 1) i
    show (enumFrom (k + 1) xs)[i]? = xs[i]?.map fun x => (k + ((i + 1 : Nat) : Int), x)
    rw [h, show k + 1 + (i : Int) = k + ((i + 1 : Nat) : Int) by omega]
theorem enumFrom_len {α : Type} : ∀ (xs : List α) (k : Int), (enumFrom k xs).length = xs.length
  | [], _ => rfl
  | x :: xs, k => by show (enumFrom (k + 1) xs).length + 1 = _; rw [enumFrom_len xs]; rfl
section
variable {K : PySem.W.Frag} {H0 H1 H2 H : Hp} {G G' : Cells K} {α β γ ρ : Type} {r : Rp α} {R : Rs K ρ} {D : Ends} {u : TS}
theorem wj_enumS [M : Mono r] {a : Addr} {vs : List V} {xs : List α} {k : Int} (h : H1 a = some (.lst vs)) (q : A2 (r H1) vs xs) : Wj (IteS K a k) (rP K rI r) H1 (enumFrom k xs) where
  go := fun H i x e hx => by
    rw [enumFrom_get] at hx
    cases hy : xs[i]? with
    | none => rw [hy] at hx; cases hx
    | some y =>
      rw [hy] at hx
      cases hx
      obtain ⟨v, hv, z⟩ := q.get' hy
      refine ⟨⟨vs, v, SqL.of (e _ _ h), hv⟩, fun w H' ⟨T, x', ew, hT, eH, hx'⟩ => ?_⟩
      have hx2 := hx' vs (SqL.of (e _ _ h))
      rw [hv] at hx2
      cases hx2
      subst eH
      exact ⟨same_new hT, T, _, _, ew, SqT.of upd_same, rfl, M.up (e.trans (same_new hT)) z⟩
  stop := fun H e => ⟨vs, SqL.of (e _ _ h), by rw [enumFrom_len]; exact q.len⟩
theorem wk_enumOwn {i : Nat} {xs : List α} {k : Int} [M : Mono r] (h : G[i]? = some (some (.ow (nl K r) xs))) (hk : -(2 ^ 63) ≤ k ∧ k < 2 ^ 63) : Wk (iEnumS K (tCons (tVar i) tNil) (tC (.int k))) (rP K rI r) G (G.set i (rc (rL r) xs)) (enumFrom k xs) := fun H1 σ H E R kk => by
  obtain ⟨H2, s1, x, E2⟩ := E.freeze h M
  obtain ⟨own, _, _, h3⟩ := E2.at_
  have hl : i < G.length := (List.getElem?_eq_some_iff.mp h).1
  obtain ⟨v, hv, _, p, vs, e2, e3, e4⟩ := h3 i _ (List.getElem?_set_self hl)
  refine ⟨v, hv, p, vs, k, by rw [e2], rfl, SqL.of (E2.old _ _ e3), hk.1, hk.2, kk _ H2 H s1 (Same.refl _) E2 (wj_enumS e3 e4)⟩
theorem a_starT {te : TE} {t : TA} {xs ys : List α} (h : Ev (rT K r) te G xs) (M : Mono r) (hr : EvA (aAll r) t G ys) : EvA (aAll r) (StX.tStar K te t) G (xs ++ ys) := fun H0 σ H E Q k =>
  h H0 σ H E _ fun v H1 e1 ⟨a, vs, ev, hq, z⟩ => ⟨a, vs, ev, .inl hq, hr H0 σ H1 (E.grow e1) _ fun ws H2 e2 z2 => k _ H2 (e1.trans e2) (A2.app z2 (z.imp fun _ _ w => M.up e2 w))⟩
theorem nw_if {tt : TT} {ta tb : TE} {c : Bool} {a b : ρ} (h : EvT tt G c) (h1 : c = true → Nw R ta G a) (h2 : c = false → Nw R tb G b) : Nw R (tIf tt ta tb) G (bif c then a else b) := fun H0 σ H E Q k => h H0 σ H E _ fun H1 e1 => by
  cases c with
  | true => exact iteT (h1 rfl H0 σ H1 (E.grow e1) _ fun w H2 as e2 hn z2 => k w H2 as (e1.trans e2) (fun p hp => free_back e1 (hn p hp)) z2)
  | false => exact iteF (h2 rfl H0 σ H1 (E.grow e1) _ fun w H2 as e2 hn z2 => k w H2 as (e1.trans e2) (fun p hp => free_back e1 (hn p hp)) z2)
theorem nw_ifM {tt : TT} {ta tb : TE} {c : Bool} {x : ρ} {m1 m2 : M ρ} (h : EvT tt G c) (h1 : ∀ y, m1 = .ok y → Nw R ta G y) (h2 : ∀ y, m2 = .ok y → Nw R tb G y) (e : (bif c then m1 else m2) = .ok x) : Nw R (tIf tt ta tb) G x := by
  cases c with
  | true => exact (nw_if (b := x) h (fun _ => h1 x e) fun z => nomatch z)
  | false => exact (nw_if (a := x) h (fun z => nomatch z) fun _ => h2 x e)
def rCls (C : Addr) : Rp Unit := fun _ v _ => v = .ref C
instance {C : Addr} : Mono (rCls C) := ⟨fun _ h => h⟩
instance {C : Addr} : Frz K (rCls C) := ⟨fun _ h => h⟩
theorem ev_cls {C : Addr} {y : Unit} : Ev (rCls C) (tC (.ref C)) G y := fun H0 σ H E Q k => k _ H (Same.refl H) rfl
def tMakeV (tv : TE) (C : Addr) (sp : Sp) (dvs : List V) (E : XK) (t : TA) : TE := fun σ H Q => tv σ H fun v H1 => v = .ref C ∧ tMake C sp dvs E t σ H1 Q
theorem nw_mkV {C : Addr} {tv : TE} {sp : Sp} {dvs : List V} {E' : XK} {t : TA} {xs : ρ} {y : Unit} (hv : Ev (rCls C) tv G y) (h : Nw R (tMake C sp dvs E' t) G xs) : Nw R (tMakeV tv C sp dvs E' t) G xs := fun H0 σ H E Q k =>
  hv H0 σ H E _ fun v H1 e1 z => ⟨z, h H0 σ H1 (E.grow e1) _ fun w H2 as e2 hn hw => k w H2 as (e1.trans e2) (fun p hp => free_back e1 (hn p hp)) hw⟩
theorem have_frz {σ : L2.St} {i : Nat} {xs : List α} [M : Mono r] (h : G[i]? = some (some (.ow (nl K r) xs))) (hv : Have H0 G σ H) : Have H0 (G.set i (rc (rL r) xs)) σ H := by
  obtain ⟨H1, e, E⟩ := hv
  obtain ⟨H2, s1, x, E2⟩ := E.freeze h M
  exact ⟨H2, e.trans s1, E2⟩
def tCMethS (C : Addr) (sp : Sp) (E : L2.St → XK) (ta : TE) (t : TA) : TE := fun σ H Q => ta σ H fun x H1 => x = .ref C ∧ t σ H1 fun vs H2 => sp (.ref C :: vs) H2 Q (E σ)
theorem nw_cm {C : Addr} {A : Ra γ} {g : γ} {m : Unit × γ → M ρ} {b : ρ} {E' : L2.St → XK} {ta : TE} {t : TA} (hc : Ev (rCls C) ta G ()) (h : EvA A t G g) (e : MOk m ((), g) b) : Nw R (tCMethS C (spXN (aC (rCls C) A) R m) E' ta t) G b := fun H0 σ H E Q k =>
  hc H0 σ H E _ fun v H1 e1 z => ⟨z, h H0 σ H1 (E.grow e1) _ fun vs H2 e2 hvs => ⟨((), g), ⟨_, vs, rfl, rfl, hvs⟩, nstk_ok e, fun c hc w H3 as e3 hn hw => k w H3 as ((e1.trans e2).trans e3) (fun p hp => free_back (e1.trans e2) (hn p hp)) (by rw [show m ((), g) = .ok b from e] at hc; cases hc; exact hw),
    fun x fs q => by rw [show m ((), g) = .ok b from e] at q; cases q⟩⟩
theorem ee_cm {C : Addr} {A : Ra γ} {g : γ} {m : Unit × γ → M ρ} {W : WX} {ta : TE} {t : TA} {o : M ρ} {y : Unit} (hc : Ev (rCls C) ta G y) (h : EvA A t G g) (e : m ((), g) = o) (w : WOk H0 G W o) : EvE H0 R (tCMethS C (spXN (aC (rCls C) A) R m) (WE W) ta t) G o := fun σ H ⟨H1, e1, E⟩ Q k =>
  hc H1 σ H E _ fun v H2 e2 z => ⟨z, h H1 σ H2 (E.grow e2) _ fun vs H3 e3 hvs => ⟨((), g), ⟨_, vs, rfl, rfl, hvs⟩, by rw [e]; exact w.1, fun b hb v H4 as e4 hn hv => k b (e ▸ hb) v H4 as ((e2.trans e3).trans e4) (fun p hp => free_back (e2.trans e3) (hn p hp)) hv,
    fun x fs he d H4 e4 hn hx => w.2 x fs (e ▸ he) σ H3 H4 ⟨H1, e1, (E.grow e2).grow e3⟩ e4 d hn hx⟩⟩
theorem q_tryCM {i j : Nat} {C : Addr} {c : Value} {ts : Addr → Value → Option Addr → TS} {Wout : WX} {A : Ra γ} {g : γ} {m : Unit × γ → M ρ} {ta : TE} {t : TA} {o : M ρ} {y : Unit} (hc : Ev (rCls C) ta G y) (h : EvA A t G g) (e : m ((), g) = o)
    (w : WOk H0 G (wAs K c j ts Wout { D with nx := u D }) o) (k : ∀ b, o = .ok b → Sv H0 (G.set i (some (.ow R b))) u D) :
    Sv H0 G (tSeq (fun D σ H => tAsg (tCMethS C (spXN (aC (rCls C) A) R m) (WE (wAs K c j ts Wout D)) ta t) (gName i) D σ H) u) D := l_asgE (D := { D with nx := u D }) (ee_cm hc h e w) k
end
structure CalC (P : Program) (w : World) (K : PySem.W.Frag) (mg : Str → Option Value) (base : Heap) (C : Addr) (m : Str) (k : Nat) (sp : Sp) : Prop where
  ex : ∃ p g, ClX.CRead K C (.type "type") ∧ ClX.CMet K C (.type "type") m p g ∧ FnR P w K mg base (L2N.CX P w) k g sp
structure DfC (K : PySem.W.Frag) (C : Addr) (x q : Str) (st : Stmt) : Prop where
  ex : ∃ (p f : Addr) (fd : FuncData), FunE K x q st 0 f fd ∧ ClX.CRead K C (.type "type") ∧ ClX.CMet K C (.type "type") x p f
section
variable {P : Program} {w : World} {K : PySem.W.Frag} {mg : Str → Option Value} {base : Heap} {C : Addr} {x q : Str} {st : Stmt} {N ps : List Str} {k : Nat} {sp : Sp}
theorem calC_of (F : DfC K C x q st) (S : FnScope N ps (defScope st)) (len : ∀ vs H Q E, sp vs H Q E → vs.length = ps.length) (b : BindE x q st ps 0)
    (hbody : ∀ (cdv : Value) (f : Addr) (A : Around) (outer : List PySem.Env) (s : Shared) (H : Hp) (vs : List V) (Q : VK) (E : XK), Room k (A.deeper (envOfC q (defScope st) s.heap.objs.size f cdv)) → sp vs H Q E →
      ∃ t, PSs (cxOf (L2N.CX P w) P w K mg base N q (defScope st) f cdv A outer s H E) (defBody st) t ∧ t { nx := fun _ H' => Q .non H', rt := Q } (start N vs) H) : CalC P w K mg base C x (k + 1) sp := by
  obtain ⟨p, f, fd, F, h1, h2⟩ := F.ex
  have F1 := F.ok (P := P) (w := w) (mg := mg) (base := base) S len fun cdv A outer s H vs Q E hr h => hbody cdv f A outer s H vs Q E hr h
  exact ⟨p, f, h1, h2, (F1.raw (F.binds b) .nil).imp fun vs H Q E h => by rw [List.append_nil]; exact h⟩
end
section
variable {X : Cx} {C : Addr} {k : Nat} {ps : List Str} {sp : Sp} {W : WX} {x m : Str} {o e : Expr} {es : List Expr} {tv ta : TE} {t : TA} {p pos apos : Pos} {pl : Sem Bool}
theorem pe_mkV (I : CalI X.prog X.w X.K X.mg X.base CX0 C k ps sp) (hr : Room (k + 1) X.A) (hv : PE X (.Name x p) tv) (ha : PA X (e :: es) t)
    (he : starEach (e :: es) X.env = (false, eval e X.env) :: starEach es X.env := by rfl) (hpl : (backTo pos (starEach es X.env)).any (·.1) = false := by rfl) : PE X (.Call (.Name x p) (e :: es) [] pos) (tMakeV tv C sp [] E0 t) := by
  obtain ⟨f, fd, F, M, b⟩ := I.ex
  refine ⟨fun pins s σ H Q I h => ?_⟩
  refine wpAny_Call_Name_kw (thn (hv.run pins s σ H _ I h) fun u s1 ⟨v, H1, I1, rv, ev, q⟩ => ?_)
  subst ev
  obtain rfl : u = Value.ref C := rv
  refine PySem.W.callWith_K (h₀ := X.base) I1.ok.mod.kin M.kp (thn (ha.run pos pins s1 σ H1 _ I1 q) fun us s2 ⟨vs, H2, I2, r, q⟩ => ⟨I2.kIn, ?_⟩) he hpl
  exact run_make M F hr b .nil pass0 I2 r q
theorem pe_cmS (M : CalC X.prog X.w X.K X.mg X.base C m k sp) (hr : Room k X.A) (tk : L2N.Takes X W) (he : PE X o ta) (ha : PA X (e :: es) t)
    (hst : starEach (e :: es) X.env = (false, eval e X.env) :: starEach es X.env := by rfl) (hpl : (backTo pos (starEach es X.env)).any (·.1) = false := by rfl)
    (ht : eval (.Call (.Attribute o m apos) (e :: es) [] pos) X.env = (do
      let ov ← eval o X.env
      standAt apos.atName
      let (f, first) ← holding [ov] (getMethod ov m pl)
      callWith pos f first (backTo pos (starEach (e :: es) X.env)) (backToKw pos (keywordEach [] X.env))) := by rfl) :
    PE X (.Call (.Attribute o m apos) (e :: es) [] pos) (tCMethS C sp (WE W) ta t) := by
  obtain ⟨p, g, r, c, F⟩ := M.ex
  refine ⟨fun pins s σ H Q I h => ?_⟩
  refine PySem.W.methodCall_KW (pl := pl) (thn (he.run pins s σ H _ I h) fun u s1 ⟨x, H1, I1, rx, ex, q⟩ => ?_) ht
  subst ex
  obtain rfl : u = Value.ref C := rx
  refine ClX.getmethcm_ok I1 r c fun s2 I2 => ?_
  refine ClX.callwith_cm I2 (ClX.base_none I1 (Nat.le_refl _)) c.fi (thn (ha.run pos _ s2 σ H1 _ I2 q) fun us s3 ⟨vs, H2, I3, rv, q2⟩ => ⟨⟨ClX.pin_at I3, I3.kIn⟩, ?_⟩) hst hpl
  have z : wpAny (model X.prog X.w) X.A (call (.ref s1.heap.objs.size) us) (EP X ((s1.heap.objs.size, PySem.W.methodObj (.ref g) (.ref C)) :: pins) σ Q) X.xe s3 := by
    refine wpAny_call (PySem.W.method_call (ClX.pin_at I3) (codeAny_mono (F X.A X.stack s3 H2 (.ref C :: us) (.ref C :: vs) Q (WE W σ) hr I3.env0 (.cons rfl rv) q2) fun r s' hq => ?_))
    cases r with
    | error er => exact L2N.passAt tk σ _ H2 s3 er s' I3 hq
    | ok fl =>
      cases fl with
      | ret u => exact I3.after hq
      | next => exact False.elim hq
      | brk => exact False.elim hq
      | cont => exact False.elim hq
  exact thn z fun _ _ y => ClX.unpinE y
end
end
section
inductive A3 {α β : Type} (r : α → β → List Addr → Prop) : List α → List β → List (List Addr) → Prop
  | nil : A3 r [] [] []
  | cons {a : α} {b : β} {s : List Addr} {as : List α} {bs : List β} {ss : List (List Addr)} : r a b s → A3 r as bs ss → A3 r (a :: as) (b :: bs) (s :: ss)
section
variable {α β : Type} {r q : α → β → List Addr → Prop} {as as' : List α} {bs bs' : List β} {ss ss' : List (List Addr)} {a : α} {b : β} {s : List Addr} {j : Nat}
theorem A3.imp (h : A3 r as bs ss) (f : ∀ a b s, s ∈ ss → r a b s → q a b s) : A3 q as bs ss := by
  induction h with
  | nil => exact .nil
  | cons h1 h2 ih => exact .cons (f _ _ _ (List.mem_cons_self ..) h1) (ih fun a b s hs => f a b s (List.mem_cons_of_mem _ hs))
theorem A3.len (h : A3 r as bs ss) : as.length = bs.length := by
  induction h with
  | nil => rfl
  | cons h1 h2 ih => rw [List.length_cons, List.length_cons, ih]
theorem A3.lens (h : A3 r as bs ss) : ss.length = bs.length := by
  induction h with
  | nil => rfl
  | cons h1 h2 ih => rw [List.length_cons, List.length_cons, ih]
theorem A3.get (h : A3 r as bs ss) (hb : bs[j]? = some b) : ∃ a s, as[j]? = some a ∧ ss[j]? = some s ∧ r a b s := by
  induction h generalizing j with
  | nil => simp at hb
  | cons h1 h2 ih =>
    cases j with
    | zero => cases hb; exact ⟨_, _, rfl, rfl, h1⟩
    | succ j => exact ih (j := j) (by simpa using hb)
theorem A3.put (h : A3 r as bs ss) (f : ∀ k a b s, k ≠ j → ss[k]? = some s → r a b s → q a b s) (n : q a b s) : A3 q (as.set j a) (bs.set j b) (ss.set j s) := by
  induction h generalizing j with
  | nil => exact .nil
  | @cons x y t as bs ss h1 h2 ih =>
    cases j with
    | zero => exact .cons n (h2.imp fun a b s hs => by
        obtain ⟨k, hk⟩ := List.mem_iff_getElem?.mp hs
        exact f (k + 1) a b s (Nat.succ_ne_zero k) (by simpa using hk))
    | succ j => exact .cons (f 0 _ _ _ (Nat.succ_ne_zero j).symm rfl h1) (ih fun k a b s hk hs => f (k + 1) a b s (fun e => hk (Nat.succ.inj e)) (by simpa using hs))
theorem A3.two (h : A3 r as bs ss) : A2 (fun a b => ∃ s, r a b s) as bs := by
  induction h with
  | nil => exact .nil
  | cons h1 h2 ih => exact .cons ⟨_, h1⟩ ih
end
def DJ (p : Addr) (ss : List (List Addr)) : Prop := (∀ (k : Nat) (s : List Addr), ss[k]? = some s → p ∉ s) ∧ ∀ (k l : Nat) (s t : List Addr) (q : Addr), ss[k]? = some s → ss[l]? = some t → q ∈ s → q ∈ t → k = l
theorem mem_flat {ss : List (List Addr)} {k : Nat} {s : List Addr} {q : Addr} (h : ss[k]? = some s) (hq : q ∈ s) : q ∈ ss.flatten := List.mem_flatten.mpr ⟨s, List.mem_of_getElem? h, hq⟩
theorem flat_mem {ss : List (List Addr)} {q : Addr} (h : q ∈ ss.flatten) : ∃ (k : Nat) (s : List Addr), ss[k]? = some s ∧ q ∈ s := by
  obtain ⟨s, hs, hq⟩ := List.mem_flatten.mp h
  obtain ⟨k, hk⟩ := List.mem_iff_getElem?.mp hs
  exact ⟨k, s, hk, hq⟩
theorem set_get {ss : List (List Addr)} {j k : Nat} {s t : List Addr} (h : (ss.set j s)[k]? = some t) : (k = j ∧ t = s) ∨ (k ≠ j ∧ ss[k]? = some t) := by
  by_cases e : j = k
  · subst e
    have hl : j < ss.length := by
      have := (List.getElem?_eq_some_iff.mp h).1
      rw [List.length_set] at this
      exact this
    rw [List.getElem?_set_self hl] at h
    cases h
    exact .inl ⟨rfl, rfl⟩
  · rw [List.getElem?_set_ne e] at h
    exact .inr ⟨fun z => e z.symm, h⟩
theorem DJ.put {p : Addr} {ss : List (List Addr)} {j : Nat} {s s' : List Addr} (h : DJ p ss) (hj : ss[j]? = some s) (hs : ∀ q ∈ s', q ∈ s ∨ (q ≠ p ∧ q ∉ ss.flatten)) : DJ p (ss.set j s') := by
  have out : ∀ q ∈ s', q ∈ s ∨ ∀ (k : Nat) (t : List Addr), ss[k]? = some t → q ∉ t := fun q hq => (hs q hq).imp id fun z k t ht hm => z.2 (mem_flat ht hm)
  refine ⟨fun k t ht hp => ?_, fun k l t u q hk hl ht hu => ?_⟩
  · rcases set_get ht with ⟨_, e⟩ | ⟨_, e⟩
    · subst e
      rcases hs p hp with z | z
      · exact h.1 j s hj z
      · exact z.1 rfl
    · exact h.1 k t e hp
  · rcases set_get hk with ⟨k1, k2⟩ | ⟨k1, k2⟩ <;> rcases set_get hl with ⟨l1, l2⟩ | ⟨l1, l2⟩
    · rw [k1, l1]
    · subst k2
      rcases out q ht with z | z
      · exact absurd (h.2 l j u s q l2 hj hu z) l1
      · exact absurd hu (z l u l2)
    · subst l2
      rcases out q hu with z | z
      · exact absurd (h.2 k j t s q k2 hj ht z) k1
      · exact absurd ht (z k t k2)
    · exact h.2 k l t u q k2 l2 ht hu
theorem flat_put {ss : List (List Addr)} {j : Nat} {s' : List Addr} {q : Addr} (h : q ∈ (ss.set j s').flatten) : q ∈ s' ∨ q ∈ ss.flatten := by
  obtain ⟨k, t, ht, hq⟩ := flat_mem h
  rcases set_get ht with ⟨_, e⟩ | ⟨_, e⟩
  · subst e; exact .inl hq
  · exact .inr (mem_flat e hq)
section
variable {K : PySem.W.Frag} {α β γ δ : Type}
def nlR (K : PySem.W.Frag) {β : Type} (R : Rs K β) : Rs K (List β) where
  rep := fun H v xs as => ∃ p vs ss, as = p :: ss.flatten ∧ v = .ref p ∧ H p = some (.lst vs) ∧ A3 (R.rep H) vs xs ss ∧ DJ p ss
  stay := by
    rintro H H' v b as ⟨p, vs, ss, e, ev, h, z, d⟩ x k
    refine ⟨p, vs, ss, e, ev, k p (by rw [e]; exact List.mem_cons_self ..) _ h, z.imp fun a b s hs w => ?_, d⟩
    exact R.stay w x fun q hq => k q (by rw [e]; exact List.mem_cons_of_mem _ (List.mem_flatten.mpr ⟨s, hs, hq⟩))
  there := fun {H v b as} ⟨p, vs, ss, e, _, h, z, _⟩ q hq => by
    rw [e] at hq
    rcases List.mem_cons.mp hq with c | c
    · rw [c]; exact ⟨_, h, fun z => z⟩
    · obtain ⟨k, s, hs, hq⟩ := flat_mem c
      have hl : k < b.length := by rw [← z.lens]; exact (List.getElem?_eq_some_iff.mp hs).1
      obtain ⟨a, s', _, h3, h4⟩ := z.get (List.getElem?_eq_getElem hl)
      rw [hs] at h3
      cases h3
      exact R.there h4 q hq
def nlRat (K : PySem.W.Frag) {β : Type} (R : Rs K β) (j : Nat) (w : V) : Rs K (List β) where
  rep := fun H v xs as => ∃ p vs ss, as = p :: ss.flatten ∧ v = .ref p ∧ H p = some (.lst vs) ∧ A3 (R.rep H) vs xs ss ∧ DJ p ss ∧ vs[j]? = some w
  stay := by
    rintro H H' v b as ⟨p, vs, ss, e, ev, h, z, d, hj⟩ x k
    refine ⟨p, vs, ss, e, ev, k p (by rw [e]; exact List.mem_cons_self ..) _ h, z.imp fun a b s hs w => ?_, d, hj⟩
    exact R.stay w x fun q hq => k q (by rw [e]; exact List.mem_cons_of_mem _ (List.mem_flatten.mpr ⟨s, hs, hq⟩))
  there := fun {H v b as} ⟨p, vs, ss, e, ev, h, z, d, _⟩ => (nlR K R).there (v := v) (b := b) ⟨p, vs, ss, e, ev, h, z, d⟩
abbrev KvR (K : PySem.W.Frag) {β : Type} (R : Rs K β) (H : Hp) (x : Key × V) (y : Str × β) (s : List Addr) : Prop := (x.1 = Sum.inr y.1 ∧ okS y.1) ∧ R.rep H x.2 y.2 s
def ndR (K : PySem.W.Frag) {β : Type} (R : Rs K β) : Rs K (List (Str × β)) where
  rep := fun H v xs as => ∃ p kvs ss, as = p :: ss.flatten ∧ v = .ref p ∧ H p = some (.dK kvs) ∧ A3 (KvR K R H) kvs xs ss ∧ DJ p ss ∧ (xs.map (·.1)).Nodup
  stay := by
    rintro H H' v b as ⟨p, vs, ss, e, ev, h, z, d, n⟩ x k
    refine ⟨p, vs, ss, e, ev, k p (by rw [e]; exact List.mem_cons_self ..) _ h, z.imp fun a b s hs w => ⟨w.1, ?_⟩, d, n⟩
    exact R.stay w.2 x fun q hq => k q (by rw [e]; exact List.mem_cons_of_mem _ (List.mem_flatten.mpr ⟨s, hs, hq⟩))
  there := fun {H v b as} ⟨p, vs, ss, e, _, h, z, _⟩ q hq => by
    rw [e] at hq
    rcases List.mem_cons.mp hq with c | c
    · rw [c]; exact ⟨_, h, fun z => z⟩
    · obtain ⟨k, s, hs, hq⟩ := flat_mem c
      have hl : k < b.length := by rw [← z.lens]; exact (List.getElem?_eq_some_iff.mp hs).1
      obtain ⟨a, s', _, h3, h4⟩ := z.get (List.getElem?_eq_getElem hl)
      rw [hs] at h3
      cases h3
      exact R.there h4.2 q hq
def nH3 (K : PySem.W.Frag) {α β γ : Type} (R : Rs K α) (R' : Rs K β) (R2 : Rs K γ) : Rs K (α × β × γ) where
  rep := fun H v x as => ∃ p a b c s t u, as = p :: [s, t, u].flatten ∧ v = .ref p ∧ H p = some (.lst [a, b, c]) ∧ (R.rep H a x.1 s ∧ R'.rep H b x.2.1 t ∧ R2.rep H c x.2.2 u) ∧ DJ p [s, t, u]
  stay := fun ⟨p, a, b, c, s, t, u, e, ev, h, z, d⟩ x k => ⟨p, a, b, c, s, t, u, e, ev, k p (by rw [e]; exact List.mem_cons_self ..) _ h, ⟨R.stay z.1 x fun q hq => k q (by rw [e]; exact List.mem_cons_of_mem _ (mem_flat (k := 0) rfl hq)), R'.stay z.2.1 x fun q hq => k q (by rw [e]; exact List.mem_cons_of_mem _ (mem_flat (k := 1) rfl hq)), R2.stay z.2.2 x fun q hq => k q (by rw [e]; exact List.mem_cons_of_mem _ (mem_flat (k := 2) rfl hq))⟩, d⟩
  there := fun ⟨p, a, b, c, s, t, u, e, _, h, z, _⟩ q hq => by
    rw [e] at hq
    rcases List.mem_cons.mp hq with y | y
    · rw [y]; exact ⟨_, h, fun z => z⟩
    · have y : q ∈ s ++ (t ++ (u ++ [])) := y
      rcases List.mem_append.mp y with y | y
      · exact R.there z.1 q y
      · rcases List.mem_append.mp y with y | y
        · exact R'.there z.2.1 q y
        · rw [List.append_nil] at y
          exact R2.there z.2.2 q y
structure EnvO {K : PySem.W.Frag} (own : Nat → List Addr) (H0 : Hp) (σ : L2.St) (H : Hp) (G : Cells K) : Prop where
  old : Same H0 H
  len : σ.length = G.length
  free : ∀ i p, p ∈ own i → H0 p = none ∧ ∃ o, H p = some o ∧ ¬ isTup o
  apart : ∀ i j p, p ∈ own i → p ∈ own j → i = j
  at_ : ∀ (i : Nat) (c : Cell K), G[i]? = some (some c) → ∃ v, σ[i]? = some (some v) ∧ c.ok H0 H v (own i)
variable {own : Nat → List Addr} {H0 H H1 H' : Hp} {σ : L2.St} {G G' : Cells K}
theorem Env.o (E : Env H0 σ H G) : ∃ own, EnvO own H0 σ H G := let ⟨own, h1, h2, h3⟩ := E.at_; ⟨own, E.old, E.len, h1, h2, h3⟩
theorem EnvO.e (E : EnvO own H0 σ H G) : Env H0 σ H G := ⟨E.old, E.len, own, E.free, E.apart, E.at_⟩
theorem EnvO.grow (E : EnvO own H0 σ H G) (e : Same H H') : EnvO own H0 σ H' G := ⟨E.old.trans e, E.len, fun i p hp => ⟨(E.free i p hp).1, let ⟨o, ho, nt⟩ := (E.free i p hp).2; ⟨o, e _ _ ho, nt⟩⟩, E.apart, fun i c hc => let ⟨v, hv, hk⟩ := E.at_ i c hc; ⟨v, hv, cell_stay hk (ext_same e) fun p _ o ho => e _ _ ho⟩⟩
def Fr (own : Nat → List Addr) (H0 : Hp) (q : Addr) : Prop := H0 q = none ∧ ∀ j, q ∉ own j
theorem EnvO.fr {q : Addr} (E : EnvO own H0 σ H G) (h : H q = none) : Fr own H0 q := ⟨free_back E.old h, fun j z => by obtain ⟨o, ho, _⟩ := (E.free j q z).2; rw [h] at ho; cases ho⟩
def But (as : List Addr) (H H' : Hp) : Prop := ∀ c o, c ∉ as → H c = some o → H' c = some o
theorem EnvO.ext {i : Nat} {as : List Addr} (E : EnvO own H0 σ H G) (ha : ∀ p ∈ as, p ∈ own i) (k : But as H H') : ExT K H H' := .mk' fun a o9 t9 h => by
  have ne : ∀ o, H a = some o → isTup o → a ∉ as := fun o ho ht z => by
    obtain ⟨o', ho', nt⟩ := (E.free i a (ha a z)).2
    rw [ho] at ho'
    cases ho'
    exact nt ht
  exact k _ _ (ne _ h t9.up) h
theorem EnvO.chg {i : Nat} {R' : Rs K γ} {b' : γ} {v : V} {as' : List Addr} (E : EnvO own H0 σ H G) (hl : i < G.length) (hv : σ[i]? = some (some v)) (k : But (own i) H H') (ha : ∀ p ∈ as', p ∈ own i ∨ Fr own H0 p) (h : R'.rep H' v b' as') : Env H0 σ H' (G.set i (some (.ow R' b'))) := by
  have x := E.ext (as := own i) (fun _ z => z) k
  have nas : ∀ j p, j ≠ i → p ∈ own j → p ∉ own i := fun j p hj hp z => hj (E.apart j i p hp z)
  refine ⟨fun p o ho => k p o (fun z => ?_) (E.old p o ho), by rw [List.length_set]; exact E.len, fun j => if j = i then as' else own j, fun j p hp => ?_, fun j l p hj hk => ?_, fun j c hc => ?_⟩
  · have := (E.free i p z).1
    rw [this] at ho
    cases ho
  · by_cases hj : j = i
    · simp only [hj, if_true] at hp
      exact ⟨(ha p hp).elim (fun z => (E.free i p z).1) fun z => z.1, R'.there h p hp⟩
    · simp only [hj, if_false] at hp
      obtain ⟨o, ho, nt⟩ := (E.free j p hp).2
      exact ⟨(E.free j p hp).1, o, k p o (nas j p hj hp) ho, nt⟩
  · by_cases hji : j = i <;> by_cases hki : l = i
    · rw [hji, hki]
    · simp only [hji, hki, if_true, if_false] at hj hk
      rcases ha p hj with z | z
      · exact absurd z (nas l p hki hk)
      · exact absurd hk (z.2 l)
    · simp only [hji, hki, if_true, if_false] at hj hk
      rcases ha p hk with z | z
      · exact absurd z (nas j p hji hj)
      · exact absurd hj (z.2 j)
    · simp only [hji, hki, if_false] at hj hk
      exact E.apart j l p hj hk
  · by_cases hj : j = i
    · subst hj
      rw [List.getElem?_set_self hl] at hc
      cases hc
      refine ⟨v, hv, ?_⟩
      simp only [if_true]
      exact h
    · rw [List.getElem?_set_ne (Ne.symm hj)] at hc
      obtain ⟨u, hu, hk'⟩ := E.at_ j c hc
      refine ⟨u, hu, ?_⟩
      simp only [hj, if_false]
      exact cell_stay hk' x fun p hp o ho => k p o (nas j p hj hp) ho
def Pl (te : TE) (G : Cells K) (i : Nat) (R : Rs K β) (b : β) (up : β → Cells K) : Prop :=
  ∀ own H0 σ H, EnvO own H0 σ H G → ∀ Q : VK, (∀ v as H1, Same H H1 → R.rep H1 v b as → (∀ p ∈ as, p ∈ own i) →
    (∀ H3 b' as', But as H1 H3 → (∀ p ∈ as', p ∈ as ∨ Fr own H0 p) → R.rep H3 v b' as' → Env H0 σ H3 (up b')) → Q v H1) → te σ H Q
variable {R : Rs K β} {te ti tk tx tv : TE} {i j : Nat} {b x : β} {n : Int}
theorem pl_var (h : G[i]? = some (some (.ow R b))) : Pl (tVar i) G i R b fun b' => G.set i (some (.ow R b')) := fun own H0 σ H E Q k => by
  obtain ⟨v, hv, hk⟩ := E.at_ i _ h
  have hl : i < G.length := (List.getElem?_eq_some_iff.mp h).1
  exact ⟨v, hv, k v (own i) H (Same.refl H) hk (fun _ z => z) fun H3 b' as' e1 e2 e3 => E.chg hl hv e1 e2 e3⟩
theorem But.less {as bs : List Addr} {H H' : Hp} (k : But as H H') (h : ∀ p ∈ as, p ∈ bs) : But bs H H' := fun c o hc ho => k c o (fun z => hc (h c z)) ho
end
end
section
section
variable {α : Type}
theorem set_self {l : List α} {j : Nat} {w : α} (h : l[j]? = some w) : l.set j w = l := by
  apply List.ext_getElem?
  intro k
  by_cases e : j = k
  · subst e
    rw [List.getElem?_set_self (List.getElem?_eq_some_iff.mp h).1, h]
  · rw [List.getElem?_set_ne e]
end
section
variable {K : PySem.W.Frag} {α β γ δ ρ : Type} {own : Nat → List Addr} {H0 H H1 H' : Hp} {σ : L2.St} {G G' G1 : Cells K} {D : Ends} {u : TS}
variable {R : Rs K β} {te ti tk tx tv ta tb : TE} {i j m : Nat} {b x : β} {n : Int} {r : Rp α} {q : Rp γ} {k : Str}
theorem Pl.ev {up : β → Cells K} {rv : Rp β} (h : Pl te G i R b up) (f : ∀ H v as, R.rep H v b as → rv H v b) : Ev rv te G b := fun H0 σ H E Q c => let ⟨own, E⟩ := E.o; h own H0 σ H E Q fun v as H1 e1 hr _ _ => c v H1 e1 (f _ _ _ hr)
theorem vw_nl {H : Hp} {v : V} {xs : List α} {as : List Addr} (h : (nl K r).rep H v xs as) : rL r H v xs := let ⟨p, vs, _, ev, hp, z⟩ := h; ⟨p, vs, ev, hp, nows z⟩
theorem A3.a2 {α β : Type} {r : α → β → List Addr → Prop} {q : α → β → Prop} {as : List α} {bs : List β} {ss : List (List Addr)} (h : A3 r as bs ss) (f : ∀ a b s, r a b s → q a b) : A2 q as bs := h.two.imp fun _ _ ⟨s, z⟩ => f _ _ s z
theorem vw_nlR {rv : Rp β} (f : ∀ H v b as, R.rep H v b as → rv H v b) {H : Hp} {v : V} {xs : List β} {as : List Addr} (h : (nlR K R).rep H v xs as) : rL rv H v xs := let ⟨p, vs, _, _, ev, hp, z, _⟩ := h; ⟨p, vs, ev, hp, z.a2 fun _ _ _ w => f _ _ _ _ w⟩
theorem vw_ndR {rv : Rp β} (f : ∀ H v b as, R.rep H v b as → rv H v b) {H : Hp} {v : V} {xs : List (Str × β)} {as : List Addr} (h : (ndR K R).rep H v xs as) : rD rv H v xs := let ⟨p, kvs, _, _, ev, hp, z, _⟩ := h; ⟨p, kvs, ev, .inl hp, z.a2 fun _ _ _ w => ⟨w.1, f _ _ _ _ w.2⟩⟩
def rH3 {α β γ : Type} (r : Rp α) (q : Rp β) (t : Rp γ) : Rp (α × β × γ) := fun H v x => ∃ p a b c, v = .ref p ∧ H p = some (.lst [a, b, c]) ∧ r H a x.1 ∧ q H b x.2.1 ∧ t H c x.2.2
instance {α β γ : Type} {r : Rp α} {q : Rp β} {t : Rp γ} [M : Mono r] [N : Mono q] [O : Mono t] : Mono (rH3 r q t) := ⟨fun e ⟨p, a, b, c, ev, h, h1, h2, h3⟩ => ⟨p, a, b, c, ev, e _ _ h, M.up e h1, N.up e h2, O.up e h3⟩⟩
theorem vw_nH3 {R' : Rs K γ} {R2 : Rs K δ} {r1 : Rp β} {r2 : Rp γ} {r3 : Rp δ} (f : ∀ H v b as, R.rep H v b as → r1 H v b) (g : ∀ H v b as, R'.rep H v b as → r2 H v b) (h : ∀ H v b as, R2.rep H v b as → r3 H v b) {H : Hp} {v : V} {y : β × γ × δ} {as : List Addr} (z : (nH3 K R R' R2).rep H v y as) : rH3 r1 r2 r3 H v y :=
  let ⟨p, a, b, c, s, t, u, _, ev, hp, z, _⟩ := z; ⟨p, a, b, c, ev, hp, f _ _ _ _ z.1, g _ _ _ _ z.2.1, h _ _ _ _ z.2.2⟩
section
variable {r1 : Rp β} {r2 : Rp γ} {r3 : Rp δ} {y : β × γ × δ}
theorem ev_h0 [M : Mono r1] (h : Ev (rH3 r1 r2 r3) ta G y) : Ev r1 (tOp (rIx K) ta (tC (.int 0))) G y.1 := fun H0 σ H E Q c => h H0 σ H E _ fun v H1 e1 ⟨p, a, b, d, ev, hp, h1, h2, h3⟩ => .inl ⟨p, [a, b, d], 0, a, ev, rfl, SqL.of hp, rfl, c a H1 e1 h1⟩
theorem ev_h1 [M : Mono r2] (h : Ev (rH3 r1 r2 r3) ta G y) : Ev r2 (tOp (rIx K) ta (tC (.int 1))) G y.2.1 := fun H0 σ H E Q c => h H0 σ H E _ fun v H1 e1 ⟨p, a, b, d, ev, hp, h1, h2, h3⟩ => .inl ⟨p, [a, b, d], 1, b, ev, rfl, SqL.of hp, rfl, c b H1 e1 h2⟩
theorem ev_h2 [M : Mono r3] (h : Ev (rH3 r1 r2 r3) ta G y) : Ev r3 (tOp (rIx K) ta (tC (.int 2))) G y.2.2 := fun H0 σ H E Q c => h H0 σ H E _ fun v H1 e1 ⟨p, a, b, d, ev, hp, h1, h2, h3⟩ => .inl ⟨p, [a, b, d], 2, d, ev, rfl, SqL.of hp, rfl, c d H1 e1 h3⟩
end
def rAl (i : Nat) : Rp V := fun _ v w => v = w
instance : Frz K (rAl i) := ⟨fun _ h => h⟩
instance : Mono (rAl i) := ⟨fun _ h => h⟩
theorem pl_at {xss : List β} {x : β} {w : V} (hm : G[m]? = some (fc (rAl i) w)) (hi : G[i]? = some (some (.ow (nlRat K R j w) xss))) (hx : xss[j]? = some x) : Pl (tVar m) G i R x fun x' => G.set i (some (.ow (nlRat K R j w) (xss.set j x'))) := fun own H0 σ H E Q c => by
  obtain ⟨v0, hv0, hr0⟩ := E.at_ m _ hm
  have ev0 : v0 = w := hr0.2 H (ExT.refl _)
  subst ev0
  obtain ⟨v, hv, p, vs, ss, ea, ev, hp, z, d, hw⟩ := E.at_ i _ hi
  have hl : i < G.length := (List.getElem?_eq_some_iff.mp hi).1
  obtain ⟨w', s, hw', hss, hrs⟩ := z.get hx
  rw [hw] at hw'
  cases hw'
  have hin : ∀ q ∈ s, q ∈ own i := fun q hq => by rw [ea]; exact List.mem_cons_of_mem _ (mem_flat hss hq)
  refine ⟨v0, hv0, c v0 s H (Same.refl H) hrs hin fun H3 b' s' k1 k2 k3 => ?_⟩
  have fresh : ∀ q ∈ s', q ∈ s ∨ (q ≠ p ∧ q ∉ ss.flatten) := fun q hq => (k2 q hq).imp id fun f => ⟨fun e => f.2 i (by rw [ea, e]; exact List.mem_cons_self ..), fun hm => f.2 i (by rw [ea]; exact List.mem_cons_of_mem _ hm)⟩
  have xT : ExT K H H3 := E.ext (i := i) hin k1
  refine E.chg hl hv (k1.less hin) (fun q hq => ?_) (R' := nlRat K R j v0) (as' := p :: (ss.set j s').flatten) ⟨p, vs, ss.set j s', rfl, ev, k1 p _ (d.1 j s hss) hp, ?_, d.put hss fresh, hw⟩
  · rcases List.mem_cons.mp hq with c | c
    · exact .inl (by rw [ea, c]; exact List.mem_cons_self ..)
    · rcases flat_put c with c | c
      · exact (k2 q c).imp (hin q) id
      · exact .inl (by rw [ea]; exact List.mem_cons_of_mem _ c)
  · have := z.put (q := R.rep H3) (j := j) (a := v0) (b := b') (s := s') (fun m a b t hm ht hr => R.stay hr xT fun q hq o ho => k1 q o (fun zz => hm (d.2 m j t s q ht hss hq zz)) ho) k3
    rw [set_self hw] at this
    exact this
theorem a_al {r : Rp α} {xss : List (List α)} {x : List α} {w : V} (hm : G[m]? = some (fc (rAl i) w)) (hi : G[i]? = some (some (.ow (nlRat K (nl K r) j w) xss))) (hx : xss[j]? = some x) : Ev (rL r) (tVar m) G x := (pl_at hm hi hx).ev fun _ _ _ z => vw_nl z
end
end
section
section
variable {K : PySem.W.Frag} {α β γ δ ρ : Type} {own : Nat → List Addr} {H0 H H1 H2 H' H'' : Hp} {σ : L2.St} {G G' G1 : Cells K} {D : Ends} {u : TS}
variable {R : Rs K β} {te ti tk tx tv ta tb : TE} {i j m : Nat} {b : β} {x : α} {n : Int} {r : Rp α} {q : Rp γ} {k : Str}
structure Gnd (K : PySem.W.Frag) (H1 H H' H2 : Hp) : Prop where
  low : Same H1 H2
  up : Same H2 H'
  new : ∀ b o, H b = none → H' b = some o → H2 b = some o
  ext : ExT K H' H2
theorem Gnd.self (h : Same H1 H) (e : Same H H') : Gnd K H1 H H' H' := ⟨h.trans e, Same.refl _, fun _ _ _ h => h, ExT.refl _⟩
def Rg (r : Rp α) (te : TE) (G : Cells K) (x : α) : Prop := ∀ H1 σ H, Env H1 σ H G → ∀ Q : VK, (∀ v H', Same H H' → (∀ H2, Gnd K H1 H H' H2 → r H2 v x) → Q v H') → te σ H Q
theorem Rg.ev (h : Rg r te G x) : Ev r te G x := fun H1 σ H E Q c => h H1 σ H E _ fun v H' e g => c v H' e (g H' (.self E.old e))
theorem EnvO.frz {rv : Rp β} [M : Mono rv] (E : EnvO own H1 σ H G) (hi : G[i]? = some (some (.ow R b))) (f : ∀ H v as, R.rep H v b as → rv H v b) : ∃ H2, Same H1 H2 ∧ Env H2 σ H (G.set i (rc rv b)) := by
  classical
  let X : Addr → Prop := fun b => (∃ j, j ≠ i ∧ b ∈ own j)
  have hX : ∀ b, H1 b ≠ none → ¬ X b := fun b hb ⟨j, _, hj⟩ => hb (E.free j b hj).1
  have key : ∀ b, cutH H X b = if X b then none else H b := fun b => rfl
  have s12 : Same H1 (cutH H X) := fun b o ho => by
    rw [key, if_neg (hX b (by rw [ho]; exact fun z => nomatch z))]
    exact E.old b o ho
  have s2 : Same (cutH H X) H := fun b o ho => by
    rw [key] at ho
    split at ho
    · cases ho
    · exact ho
  have xt : ExT K H (cutH H X) := .mk' fun a o9 t9 q => by
    have nX : ∀ o, H a = some o → isTup o → ¬ X a := fun o ho t ⟨j, _, hj⟩ => by
      obtain ⟨u, hu, nu⟩ := (E.free j a hj).2
      rw [ho] at hu
      cases hu
      exact nu t
    exact by rw [key, if_neg (nX _ q t9.up)]; exact q
  refine ⟨cutH H X, s12, s2, by rw [List.length_set]; exact E.len, fun j => if j = i then [] else own j, fun j p hp => ?_, fun j k p hj hk => ?_, fun j c hc => ?_⟩
  · by_cases hj : j = i
    · simp only [hj, if_true] at hp
      cases hp
    · simp only [hj, if_false] at hp
      exact ⟨by rw [key, if_pos ⟨j, hj, hp⟩], (E.free j p hp).2⟩
  · by_cases hji : j = i
    · simp only [hji, if_true] at hj
      cases hj
    · by_cases hki : k = i
      · simp only [hki, if_true] at hk
        cases hk
      · simp only [hji, hki, if_false] at hj hk
        exact E.apart j k p hj hk
  · by_cases hj : j = i
    · subst hj
      have hl : j < G.length := (List.getElem?_eq_some_iff.mp hi).1
      rw [List.getElem?_set_self hl] at hc
      cases hc
      obtain ⟨v, hv, hr⟩ := E.at_ j _ hi
      refine ⟨v, hv, by simp, ?_⟩
      refine f _ v (own j) (R.stay hr xt fun p hp o ho => ?_)
      rw [key, if_neg fun ⟨l, hl, hq⟩ => hl (E.apart l j p hq hp)]
      exact ho
    · rw [List.getElem?_set_ne (Ne.symm hj)] at hc
      obtain ⟨v, hv, hk⟩ := E.at_ j c hc
      refine ⟨v, hv, ?_⟩
      simp only [hj, if_false]
      cases c with
      | ow R b => exact hk
      | ro r m b => exact ⟨hk.1, m.up s12 hk.2⟩
def nlA (K : PySem.W.Frag) {β : Type} (r : Rp β) (p : Addr) : Rs K (List β) where
  rep := fun H v xs as => (nl K r).rep H v xs as ∧ v = .ref p
  stay := fun h x k => ⟨(nl K r).stay h.1 x k, h.2⟩
  there := fun h => (nl K r).there h.1
theorem pl_varA {xs : List α} {p : Addr} (h : G[i]? = some (some (.ow (nlA K r p) xs))) : Pl (tVar i) G i (nl K r) xs fun ys => G.set i (some (.ow (nlA K r p) ys)) := fun own H0 σ H E Q c => by
  obtain ⟨v, hv, hr⟩ := E.at_ i _ h
  have hl : i < G.length := (List.getElem?_eq_some_iff.mp h).1
  exact ⟨v, hv, c v (own i) H (Same.refl H) hr.1 (fun _ z => z) fun H3 b' as' e1 e2 e3 => E.chg hl hv e1 e2 (R' := nlA K r p) ⟨e3, hr.2⟩⟩
theorem a_nlA {xs : List α} {p : Addr} (h : G[i]? = some (some (.ow (nlA K r p) xs))) : Ev (rL r) (tVar i) G xs := (pl_varA h).ev fun _ _ _ z => vw_nl z
end
end
section
section
variable {K : PySem.W.Frag} {α β γ δ ρ : Type} {own : Nat → List Addr} {H0 H H1 H2 H' H'' : Hp} {σ : L2.St} {G G' Gx : Cells K} {D : Ends} {u : TS}
variable {R : Rs K β} {R' : Rs K γ} {R2 : Rs K δ} {te ti tk tx tv ta tb tc : TE} {i j m : Nat} {b : β} {x : α} {n : Int} {r : Rp α} {q : Rp γ} {k : Str}
theorem nw_nilR : Nw (nlR K R) (tLst tNil) G [] := fun H0 σ H E Q c => ⟨Nat.zero_le _, fun p hp => c _ _ [p] (same_new hp) (fun b hb => by rw [List.mem_singleton.mp hb]; exact hp) ⟨p, [], [], rfl, rfl, upd_same, .nil, fun k s h => by simp at h, fun k l s t q h => by simp at h⟩⟩
theorem nw_dnewR : Nw (ndR K R) tDNewK G [] := fun H0 σ H E Q c p hp => c _ _ [p] (same_new hp) (fun b hb => by rw [List.mem_singleton.mp hb]; exact hp) ⟨p, [], [], rfl, rfl, upd_same, .nil, ⟨fun k s h => by simp at h, fun k l s t q h => by simp at h⟩, List.nodup_nil⟩
theorem nw_H3 {c : γ} {d : δ} (h1 : Nw R ta G b) (h2 : Nw R' tb G c) (h3 : Nw R2 tc G d) : Nw (nH3 K R R' R2) (tLst (tCons ta (tCons tb (tCons tc tNil)))) G (b, c, d) := fun H0 σ H E Q kk =>
  h1 H0 σ H E _ fun v1 Ha a1 e1 n1 r1 => h2 H0 σ Ha (E.grow e1) _ fun v2 Hb a2 e2 n2 r2 => h3 H0 σ Hb ((E.grow e1).grow e2) _ fun v3 Hc a3 e3 n3 r3 => ⟨by show 3 ≤ sizeLine; decide, fun p hp => by
    have x12 := e2.trans e3
    have s1 := R.stay r1 (ext_same x12) fun q _ o ho => x12 _ _ ho
    have s2 := R'.stay r2 (ext_same e3) fun q _ o ho => e3 _ _ ho
    have np : Same Hc (upd Hc p (.lst [v1, v2, v3])) := same_new hp
    have t1 := R.stay s1 (ext_same np) fun q _ o ho => np _ _ ho
    have t2 := R'.stay s2 (ext_same np) fun q _ o ho => np _ _ ho
    have t3 := R2.stay r3 (ext_same np) fun q _ o ho => np _ _ ho
    have in1 : ∀ q ∈ a1, ∃ o, Ha q = some o := fun q hq => let ⟨o, ho, _⟩ := R.there r1 q hq; ⟨o, ho⟩
    have in2 : ∀ q ∈ a2, ∃ o, Hb q = some o := fun q hq => let ⟨o, ho, _⟩ := R'.there r2 q hq; ⟨o, ho⟩
    have in3 : ∀ q ∈ a3, ∃ o, Hc q = some o := fun q hq => let ⟨o, ho, _⟩ := R2.there r3 q hq; ⟨o, ho⟩
    have p1 : p ∉ a1 := fun z => by obtain ⟨o, ho⟩ := in1 p z; rw [x12 _ _ ho] at hp; cases hp
    have p2 : p ∉ a2 := fun z => by obtain ⟨o, ho⟩ := in2 p z; rw [e3 _ _ ho] at hp; cases hp
    have p3 : p ∉ a3 := fun z => by obtain ⟨o, ho⟩ := in3 p z; rw [ho] at hp; cases hp
    have d12 : ∀ q, q ∈ a1 → q ∉ a2 := fun q h h' => by obtain ⟨o, ho⟩ := in1 q h; rw [n2 q h'] at ho; cases ho
    have d13 : ∀ q, q ∈ a1 → q ∉ a3 := fun q h h' => by obtain ⟨o, ho⟩ := in1 q h; have := e2 _ _ ho; rw [n3 q h'] at this; cases this
    have d23 : ∀ q, q ∈ a2 → q ∉ a3 := fun q h h' => by obtain ⟨o, ho⟩ := in2 q h; rw [n3 q h'] at ho; cases ho
    have at_ : ∀ (l : Nat) (s : List Addr), [a1, a2, a3][l]? = some s → (l = 0 ∧ s = a1) ∨ (l = 1 ∧ s = a2) ∨ (l = 2 ∧ s = a3) := fun l s h => by
      match l, h with
      | 0, h => cases h; exact .inl ⟨rfl, rfl⟩
      | 1, h => cases h; exact .inr (.inl ⟨rfl, rfl⟩)
      | 2, h => cases h; exact .inr (.inr ⟨rfl, rfl⟩)
      | l + 3, h => simp at h
    refine kk _ _ (p :: [a1, a2, a3].flatten) (((e1.trans e2).trans e3).trans np) (fun q hq => ?_) ⟨p, v1, v2, v3, a1, a2, a3, rfl, rfl, upd_same, ⟨t1, t2, t3⟩, fun l s h => ?_, fun l l' s t q h h' hq hq' => ?_⟩
    · rcases List.mem_cons.mp hq with z | z
      · rw [z]; exact free_back ((e1.trans e2).trans e3) hp
      · obtain ⟨l, s, hs, hq⟩ := flat_mem z
        rcases at_ l s hs with ⟨_, e⟩ | ⟨_, e⟩ | ⟨_, e⟩
        · rw [e] at hq; exact n1 q hq
        · rw [e] at hq; exact free_back e1 (n2 q hq)
        · rw [e] at hq; exact free_back (e1.trans e2) (n3 q hq)
    · rcases at_ l s h with ⟨_, e⟩ | ⟨_, e⟩ | ⟨_, e⟩ <;> rw [e]
      · exact p1
      · exact p2
      · exact p3
    · rcases at_ l s h with ⟨e1, e⟩ | ⟨e1, e⟩ | ⟨e1, e⟩ <;> rcases at_ l' t h' with ⟨f1, f⟩ | ⟨f1, f⟩ | ⟨f1, f⟩ <;> rw [e] at hq <;> rw [f] at hq' <;> first | exact absurd hq' (d12 q hq) | exact absurd hq' (d13 q hq) | exact absurd hq' (d23 q hq) | exact absurd hq (d12 q hq') | exact absurd hq (d13 q hq') | exact absurd hq (d23 q hq') | (rw [e1, f1])⟩
theorem a_H3 {α β γ : Type} {r1 : Rp α} {r2 : Rp β} {r3 : Rp γ} {y : List α × List (Str × List β) × List (Str × List γ)} (h : G[i]? = some (some (.ow (nH3 K (nl K r1) (ndR K (nl K r2)) (ndR K (nl K r3))) y))) : Ev (rH3 (rL r1) (rD (rL r2)) (rD (rL r3))) (tVar i) G y := (pl_var h).ev fun _ _ _ z => vw_nH3 (fun _ _ _ _ z => vw_nl z) (fun _ _ _ _ z => vw_ndR (fun _ _ _ _ z => vw_nl z) z) (fun _ _ _ _ z => vw_ndR (fun _ _ _ _ z => vw_nl z) z) z
theorem a_nlR {α : Type} {r : Rp α} {xss : List (List α)} (h : G[i]? = some (some (.ow (nlR K (nl K r)) xss))) : Ev (rL (rL r)) (tVar i) G xss := (pl_var h).ev fun _ _ _ z => vw_nlR (fun _ _ _ _ z => vw_nl z) z
section
variable {r1 : Rp β} {r2 : Rp γ} {r3 : Rp δ} {y : β × γ × δ}
theorem ixc_h0 [M : Mono r1] : IxC K (rH3 r1 r2 r3) y (tC (.int 0)) G r1 y.1 := fun ta h => ev_h0 h
theorem ixc_h1 [M : Mono r2] : IxC K (rH3 r1 r2 r3) y (tC (.int 1)) G r2 y.2.1 := fun ta h => ev_h1 h
theorem ixc_h2 [M : Mono r3] : IxC K (rH3 r1 r2 r3) y (tC (.int 2)) G r3 y.2.2 := fun ta h => ev_h2 h
end
end
end
section
section
variable {K : PySem.W.Frag} {α β γ δ ρ : Type} {H0 H H1 H2 H' H'' : Hp} {σ : L2.St} {G G' Gx : Cells K} {D : Ends} {u : TS}
variable {te ti tk tx tv ta tb tc td ty : TE} {i j m : Nat} {x : α} {n : Int} {r : Rp α} {q : Rp γ} {k : Str}
theorem a_dIn {xs : List (Str × α)} (h : Ev rS ty G k) (h' : Ev (rD r) td G xs) (M : Mono r) : Ev rB (tDIn ty td) G (dkey xs k).isSome := fun H0 σ H E Q c =>
  h H0 σ H E _ fun v H1 e1 hv => h' H0 σ H1 (E.grow e1) _ fun w H2 e2 ⟨a, kvs, ew, hr, z⟩ => by
    rcases kv_key z k with ⟨v', b', e5, e6, _⟩ | ⟨e5, e6⟩
    · exact ⟨a, some v', ew, .inl ⟨kvs, Sum.inr k, hr, hv.1, e5.symm⟩, c _ H2 (e1.trans e2) (by rw [e6]; rfl)⟩
    · exact ⟨a, none, ew, .inl ⟨kvs, Sum.inr k, hr, hv.1, e5.symm⟩, c _ H2 (e1.trans e2) (by rw [e6]; rfl)⟩
theorem a_dNin {xs : List (Str × α)} (h : Ev rS ty G k) (h' : Ev (rD r) td G xs) (M : Mono r) : Ev rB (tDNotIn ty td) G (!(dkey xs k).isSome) := fun H0 σ H E Q c =>
  h H0 σ H E _ fun v H1 e1 hv => h' H0 σ H1 (E.grow e1) _ fun w H2 e2 ⟨a, kvs, ew, hr, z⟩ => by
    rcases kv_key z k with ⟨v', b', e5, e6, _⟩ | ⟨e5, e6⟩
    · exact ⟨a, some v', ew, .inl ⟨kvs, Sum.inr k, hr, hv.1, e5.symm⟩, c _ H2 (e1.trans e2) (by rw [e6]; rfl)⟩
    · exact ⟨a, none, ew, .inl ⟨kvs, Sum.inr k, hr, hv.1, e5.symm⟩, c _ H2 (e1.trans e2) (by rw [e6]; rfl)⟩
def rZ : Rp Unit := fun H v _ => ∃ a, v = .ref a ∧ H a = some (.dK [])
instance : Mono rZ := ⟨fun e ⟨a, ev, h⟩ => ⟨a, ev, e _ _ h⟩⟩
theorem ev_Z {y : Unit} : Ev rZ tDNewK G y := fun H0 σ H E Q c p hp => c _ _ (same_new hp) ⟨p, rfl, upd_same⟩
end
end
section
def keyT (e : Int × Value) : Str := match e.2 with | .str k _ => k | _ => Str.empty
def GoodT (w : World) (e : Int × Value) : Prop := ∃ k tk, e.2 = Value.str k tk ∧ e.1 = hashStr w k
def SetT (w : World) (h : Heap) (a : Addr) (S : Str → Bool) (n : Nat) : Prop :=
  ∃ o es ep t, h.get? a = some o ∧ o.ExactSet ∧ o.data = .set es ep t ∧ (∀ e ∈ es.toList, GoodT w e) ∧ (es.toList.map keyT).Nodup ∧ (∀ k, S k = true ↔ k ∈ es.toList.map keyT) ∧
    es.size < scanBound ∧ t.fits es.size = true ∧ es.size = n ∧ Ris t.place.toList ∧ (w.params.followText "set-order" = true ∨ t.led = true)
section
variable {P : Program} {w : World} {h h' : Heap} {a : Addr} {S : Str → Bool} {n : Nat}
theorem SetT.at (R : SetT w h a S n) (k : ∀ o, h.get? a = some o → h'.get? a = some o) : SetT w h' a S n := by
  obtain ⟨o, es, ep, t, ho, r⟩ := R
  exact ⟨o, es, ep, t, k o ho, r⟩
theorem SetT.lt (R : SetT w h a S n) : a < h.objs.size := by
  obtain ⟨o, es, ep, t, ho, r⟩ := R
  exact Heap.lt_size ho
end
def SetTO (w : World) (a : Addr) (S : Str → Bool) (n : Nat) : HO := .ext fun h => SetT w h a S n
section
variable {X : Cx}
def rSetLT (K : PySem.W.Frag) (w : World) : List V → Hp → VK → Prop := fun vs H Q => ∃ (a : Addr) (xs : List Str), vs = [V.ref a] ∧ SqL K H a (xs.map V.str) ∧ xs.length + 1 < scanBound ∧
  ∀ (p : Addr) (c : Nat), H p = none → Q (.ref p) (upd H p (SetTO w p (fun k => decide (k ∈ xs)) c))
def rSortedT (w : World) : List V → Hp → VK → Prop := fun vs H Q => ∃ (a : Addr) (S : Str → Bool) (n : Nat), vs = [V.ref a] ∧ H a = some (SetTO w a S n) ∧
  ∀ (ns : List Str) (p : Addr), sortedS ns = true → ns.Nodup → (∀ k : Str, k ∈ ns ↔ S k = true) → H p = none → Q (.ref p) (upd H p (.lst (ns.map V.str)))
end
def insU (k : Str) : List Str → List Str
  | [] => [k]
  | x :: r => if k = x then x :: r else if k.cps.toList < x.cps.toList then k :: x :: r else x :: insU k r
def srtU : List Str → List Str
  | [] => []
  | x :: r => insU x (srtU r)
abbrev LtS (a b : Str) : Prop := a.cps.toList < b.cps.toList
abbrev Asd (l : List Str) : Prop := l.Pairwise LtS
theorem str_eq {a b : Str} (h : a.cps.toList = b.cps.toList) : a = b := by
  obtain ⟨x⟩ := a
  obtain ⟨y⟩ := b
  have e : x = y := Array.toList_inj.mp h
  rw [e]
theorem ltS_irr (a : Str) : ¬ LtS a a := List.lt_irrefl _
theorem ltS_tr {a b c : Str} (h : LtS a b) (h' : LtS b c) : LtS a c := List.lt_trans h h'
theorem ltS_tot {a b : Str} (h : ¬ LtS a b) (n : a ≠ b) : LtS b a := by
  rcases Classical.em (LtS b a) with c | c
  · exact c
  · exact absurd (str_eq (List.le_antisymm (List.not_lt.mp c) (List.not_lt.mp h))) n
theorem mem_insU {k y : Str} : ∀ {l : List Str}, y ∈ insU k l ↔ y = k ∨ y ∈ l
  | [] => by simp [insU]
  | x :: r => by
    unfold insU
    by_cases e : k = x
    · rw [if_pos e, e, List.mem_cons]
      exact ⟨fun h => .inr h, fun h => h.elim .inl id⟩
    · rw [if_neg e]
      by_cases c : k.cps.toList < x.cps.toList
      · rw [if_pos c, List.mem_cons]
      · rw [if_neg c, List.mem_cons, mem_insU (l := r), List.mem_cons]
        exact ⟨fun h => h.elim (fun a => .inr (.inl a)) (fun a => a.elim .inl fun b => .inr (.inr b)), fun h => h.elim (fun a => .inr (.inl a)) (fun a => a.elim .inl fun b => .inr (.inr b))⟩
theorem asd_insU {k : Str} : ∀ {l : List Str}, Asd l → Asd (insU k l)
  | [], _ => by simp [insU]
  | x :: r, h => by
    obtain ⟨h1, h2⟩ := List.pairwise_cons.mp h
    unfold insU
    by_cases e : k = x
    · rw [if_pos e]; exact h
    · rw [if_neg e]
      by_cases c : k.cps.toList < x.cps.toList
      · rw [if_pos c]
        exact List.pairwise_cons.mpr ⟨fun y hy => (List.mem_cons.mp hy).elim (fun a => a ▸ c) fun a => ltS_tr c (h1 y a), h⟩
      · rw [if_neg c]
        refine List.pairwise_cons.mpr ⟨fun y hy => ?_, asd_insU h2⟩
        rcases mem_insU.mp hy with a | a
        · exact a ▸ ltS_tot c e
        · exact h1 y a
theorem mem_srtU {y : Str} : ∀ {l : List Str}, y ∈ srtU l ↔ y ∈ l
  | [] => Iff.rfl
  | x :: r => by
    show y ∈ insU x (srtU r) ↔ _
    rw [mem_insU, mem_srtU (l := r), List.mem_cons]
theorem asd_srtU : ∀ (l : List Str), Asd (srtU l)
  | [] => List.Pairwise.nil
  | x :: r => asd_insU (asd_srtU r)
theorem asd_ext : ∀ {l l' : List Str}, Asd l → Asd l' → (∀ k, k ∈ l ↔ k ∈ l') → l = l'
  | [], [], _, _, _ => rfl
  | [], y :: r, _, _, h => absurd ((h y).mpr List.mem_cons_self) (by simp)
  | x :: r, [], _, _, h => absurd ((h x).mp List.mem_cons_self) (by simp)
  | x :: r, y :: t, hl, hl', h => by
    obtain ⟨a1, a2⟩ := List.pairwise_cons.mp hl
    obtain ⟨b1, b2⟩ := List.pairwise_cons.mp hl'
    have e : x = y := by
      rcases List.mem_cons.mp ((h x).mp List.mem_cons_self) with c | c
      · exact c
      · rcases List.mem_cons.mp ((h y).mpr List.mem_cons_self) with d | d
        · exact d.symm
        · exact absurd (ltS_tr (a1 y d) (b1 x c)) (ltS_irr x)
    subst e
    rw [asd_ext a2 b2 fun k => ⟨fun hk => ?_, fun hk => ?_⟩]
    · rcases List.mem_cons.mp ((h k).mp (List.mem_cons_of_mem _ hk)) with c | c
      · exact absurd (a1 k hk) (c ▸ ltS_irr _)
      · exact c
    · rcases List.mem_cons.mp ((h k).mpr (List.mem_cons_of_mem _ hk)) with c | c
      · exact absurd (b1 k hk) (c ▸ ltS_irr _)
      · exact c
theorem asd_risingS : ∀ (p : Str) (l : List Str), risingS p l = true → (p :: l).Nodup → Asd (p :: l)
  | p, [], _, _ => by simp
  | p, x :: r, h, n => by
    have h0 : (!ltCps x.cps.toList p.cps.toList && risingS x r) = true := h
    rw [Bool.and_eq_true] at h0
    obtain ⟨h1, h2⟩ := h0
    obtain ⟨n1, n2⟩ := List.nodup_cons.mp n
    have ih := asd_risingS x r h2 n2
    have hx : LtS p x := by
      refine ltS_tot (a := x) (fun c => ?_) fun e => n1 (e ▸ List.mem_cons_self)
      rw [ltCps_eq] at h1
      have c' : decide (x.cps.toList < p.cps.toList) = true := decide_eq_true c
      rw [c'] at h1
      cases h1
    refine List.pairwise_cons.mpr ⟨fun y hy => ?_, ih⟩
    rcases List.mem_cons.mp hy with e | e
    · exact e ▸ hx
    · exact ltS_tr hx ((List.pairwise_cons.mp ih).1 y e)
theorem srtU_of {ns xs : List Str} (hs : sortedS ns = true) (hn : ns.Nodup) (hm : ∀ k : Str, k ∈ ns ↔ decide (k ∈ xs) = true) : ns = srtU xs := by
  refine asd_ext ?_ (asd_srtU xs) fun k => by rw [hm k, decide_eq_true_eq, mem_srtU]
  cases ns with
  | nil => exact List.Pairwise.nil
  | cons p l => exact asd_risingS p l hs hn
section
variable {K : PySem.W.Frag} {w : World} {G : Cells K} {ta : TE}
theorem strs_A2 {H : Hp} : ∀ {vs : List V} {xs : List Str}, A2 (rS H) vs xs → vs = xs.map V.str
  | _, _, .nil => rfl
  | _, _, .cons h t => by rw [h.1, strs_A2 t] <;> rfl
theorem A2_strs {H : Hp} : ∀ (xs : List Str), (∀ x ∈ xs, rS H (V.str x) x) → A2 (rS H) (xs.map V.str) xs
  | [], _ => .nil
  | x :: r, h => .cons (h x List.mem_cons_self) (A2_strs r fun y hy => h y (List.mem_cons_of_mem _ hy))
theorem A2_mem {H : Hp} {P : Str → Prop} : ∀ {vs : List V} {xs : List Str}, A2 (fun (_ : V) x => P x) vs xs → ∀ x ∈ xs, P x
  | _, _, .nil, x, h => absurd h (by simp)
  | _, _, .cons h t, x, hx => (List.mem_cons.mp hx).elim (fun e => e ▸ h) fun e => A2_mem (H := H) t x e
theorem a_srt {xs : List Str} (h : Ev (rL rS) ta G xs) (hb : xs.length + 1 < 4096) : Nw (nl K rS) (tCB (rSortedT w) (tCons (tCB (rSetLT K w) (tCons ta tNil)) tNil)) G (srtU xs) := fun H0 σ H E Q k =>
  h H0 σ H E _ fun v H1 e1 ⟨p, us, ev, hp, z⟩ => by
    have eu : us = xs.map V.str := strs_A2 z
    have ok : ∀ x ∈ xs, okS x := A2_mem (H := H1) (z.imp fun _ _ q => q.2)
    refine ⟨p, xs, by rw [ev], by rw [← eu]; exact SqL.of hp, by unfold scanBound; omega, fun q c hq => ?_⟩
    refine ⟨q, _, c, rfl, upd_same, fun ns l hs hn hm hl => ?_⟩
    have en : ns = srtU xs := srtU_of hs hn hm
    subst en
    have e2 : Same H1 (upd H1 q (SetTO w q (fun k => decide (k ∈ xs)) c)) := same_new hq
    refine k _ _ [l] ((e1.trans e2).trans (same_new hl)) (fun b hb => by rw [List.mem_singleton.mp hb]; exact free_back (e1.trans e2) hl) ⟨l, _, rfl, rfl, upd_same, ?_⟩
    exact (A2_strs (H := upd (upd H1 q (SetTO w q (fun k => decide (k ∈ xs)) c)) l (.lst ((srtU xs).map V.str))) (srtU xs) fun x hx => ⟨rfl, ok x (mem_srtU.mp hx)⟩).imp fun _ _ q => stb q
end
end
section
section
variable {K : PySem.W.Frag} {α β γ δ ρ : Type} {H0 H H1 H2 H' H'' : Hp} {σ : L2.St} {G G' Gx : Cells K} {D : Ends} {u : TS}
variable {te ti tk tx tv ta tb tc td ty : TE} {i j m : Nat} {x : α} {n : Int} {r : Rp α} {q : Rp γ} {k : Str}
abbrev rStrS : List V → Hp → VK → Prop := fun xs H Q => ∃ a, xs = [.str a] ∧ Q (.str a) H
theorem a_strS {x : Str} (h : Ev rS te G x) : Ev rS (tCB rStrS (tCons te tNil)) G x := ev_cb (ea_cons h ea_nil) fun H vs ⟨v, ws, e, hv, e2⟩ Q kk => by
  refine ⟨x, by rw [e, show ws = [] from e2, hv.1], kk _ H (Same.refl H) ⟨rfl, hv.2⟩⟩
end
end
section
section
variable {K : PySem.W.Frag} {α β γ ρ : Type}
def fA (F : RF K β) (f : Str) (R : Rs K α) : RF K (β × α) where
  names := F.names ++ [f]
  rep := fun H fs x as => ∃ gs v a1 a2, fs = gs ++ [(f, v)] ∧ as = a1 ++ a2 ∧ F.rep H gs x.1 a1 ∧ R.rep H v x.2 a2
  ns := fun ⟨gs, v, a1, a2, e1, _, h, _⟩ => by rw [e1, List.map_append, F.ns h]; rfl
  stay := fun ⟨gs, v, a1, a2, e1, e2, h1, h2⟩ x k => ⟨gs, v, a1, a2, e1, e2, F.stay h1 x (fun p hp => k p (by rw [e2]; exact List.mem_append_left _ hp)), R.stay h2 x (fun p hp => k p (by rw [e2]; exact List.mem_append_right _ hp))⟩
  there := fun ⟨gs, v, a1, a2, e1, e2, h1, h2⟩ p hp => by
    rw [e2] at hp
    rcases List.mem_append.mp hp with q | q
    · exact F.there h1 p q
    · exact R.there h2 p q
theorem lookup_snoc {f g : Str} {v : V} : ∀ {fs : List (Str × V)}, (fs ++ [(g, v)]).lookup f = match fs.lookup f with | some w => some w | none => if f == g then some v else none
  | [] => by
    show List.lookup f [(g, v)] = _
    rw [List.lookup_cons]
    cases f == g <;> rfl
  | (a, b) :: r => by
    show List.lookup f ((a, b) :: (r ++ [(g, v)])) = _
    rw [List.lookup_cons, List.lookup_cons]
    cases f == a with
    | true => rfl
    | false => exact lookup_snoc (fs := r)
theorem lookup_out {f : Str} : ∀ {fs : List (Str × V)}, f ∉ fs.map (·.1) → fs.lookup f = none
  | [], _ => rfl
  | (a, b) :: r, h => by
    rw [List.lookup_cons]
    have hn : (f == a) = false := by
      cases q : f == a with
      | false => rfl
      | true => exact absurd (List.mem_cons.mpr (.inl (beq_iff_eq.mp q))) h
    rw [hn]
    exact lookup_out fun z => h (List.mem_cons_of_mem _ z)
theorem fldA_hd {f : Str} {R : Rs K α} {F : RF K β} (nf : f ∉ F.names) : FldAt (fA F f R) f R (fun x => x.2) := fun H fs x as ⟨gs, v, a1, a2, e1, _, h1, h2⟩ => by
  refine ⟨v, a2, ?_, h2⟩
  rw [e1, lookup_snoc, lookup_out (by rw [F.ns h1]; exact nf)]
  show (if (f == f) = true then some v else none) = some v
  rw [if_pos (beq_self_eq_true f)]
theorem fldA_tl {f g : Str} {R : Rs K α} {S : Rs K γ} {F : RF K β} {get : β → γ} (h : FldAt F f S get) : FldAt (fA F g R) f S (fun x => get x.1) := fun H fs x as ⟨gs, v, a1, a2, e1, _, h1, h2⟩ => by
  obtain ⟨w, bs, l, hr⟩ := h H gs x.1 a1 h1
  exact ⟨w, bs, by rw [e1, lookup_snoc, l], hr⟩
def nGro (K : PySem.W.Frag) (p C : Addr) (F : RF K α) : Rs K α where
  rep := fun H v x as => ∃ dx fs bs, v = .ref p ∧ as = p :: bs ∧ p ∉ bs ∧ H p = some (.ins C dx fs) ∧ F.rep H fs x bs
  stay := fun ⟨dx, fs, bs, e1, e2, np, h1, h2⟩ x k => ⟨dx, fs, bs, e1, e2, np, k p (by rw [e2]; exact List.mem_cons_self ..) _ h1, F.stay h2 x (fun q hq => k q (by rw [e2]; exact List.mem_cons_of_mem _ hq))⟩
  there := fun ⟨dx, fs, bs, e1, e2, np, h1, h2⟩ q hq => by
    rw [e2] at hq
    rcases List.mem_cons.mp hq with z | z
    · rw [z]; exact ⟨_, h1, fun z => z⟩
    · exact F.there h2 q z
theorem gro_rec {p C : Addr} {F : RF K α} {H : Hp} {v : V} {x : α} {as : List Addr} (h : (nGro K p C F).rep H v x as) : (nRec K C F).rep H v x as := by
  obtain ⟨dx, fs, bs, e1, e2, _, h1, h2⟩ := h
  exact ⟨p, dx, fs, bs, e1, e2, h1, h2⟩
variable {H0 H1 H2 H H' : Hp} {σ : L2.St} {G G' : Cells K} {r : Rp α} {q : Rp β} {D : Ends} {u : TS} {te ta : TE} {R : Rs K γ} {b : γ}
theorem a_gro {i : Nat} {p C : Addr} {F : RF K α} {x : α} (h : G[i]? = some (some (.ow (nGro K p C F) x))) : Ev (rRec K C F) (tVar i) G x := fun H0 σ H E Q k => by
  obtain ⟨own, _, _, h3⟩ := E.at_
  obtain ⟨v, hv, hr⟩ := h3 i _ h
  exact ⟨v, hv, k v H (Same.refl H) ⟨_, gro_rec hr⟩⟩
def FAt (F : RF K α) (l : Addr) (r : Rp β) (get : α → List β) : Prop := ∀ H fs x as, F.rep H fs x as → rL r H (.ref l) (get x)
theorem fat_hd {F : RF K α} {f : Str} {l : Addr} : FAt (fA F f (nlA K q l)) l q (fun x => x.2) := fun H fs x as ⟨gs, v, a1, a2, _, _, _, ⟨⟨l', vs, _, ev, hl, z⟩, e⟩⟩ => by
  subst e
  cases ev
  exact ⟨l, vs, rfl, hl, z.imp fun _ _ w => w.now⟩
theorem fat_tl {F : RF K α} {f : Str} {l : Addr} {S : Rs K γ} {get : α → List β} (h : FAt F l q get) : FAt (fA F f S) l q (fun x => get x.1) := fun H fs x as ⟨gs, v, a1, a2, _, _, h1, _⟩ => h H gs x.1 a1 h1
theorem a_alF {i m : Nat} {p C l : Addr} {F : RF K α} {x : α} {z : List β} {get : α → List β} (hm : G[m]? = some (fc rV (.ref l))) (hi : G[i]? = some (some (.ow (nGro K p C F) x))) (h : FAt F l q get) (e : get x = z) : Ev (rL q) (tVar m) G z := fun H0 σ H E Q k => by
  subst e
  obtain ⟨own, _, _, h3⟩ := E.at_
  obtain ⟨v, hv, hr⟩ := h3 m _ hm
  obtain ⟨w, _, dx, fs, bs, _, _, _, _, hF⟩ := h3 i _ hi
  have ev : v = .ref l := hr.2 H (ExT.refl _)
  subst ev
  exact ⟨_, hv, k _ H (Same.refl H) (h _ _ _ _ hF)⟩
def spInit (K : PySem.W.Frag) (C : Addr) (F : RF K β) (A : Ra α) (m : α → M β) : Sp := fun vs H Q E => ∃ p dx ws a H1, vs = .ref p :: ws ∧ Same H1 H ∧ H1 p = none ∧ ExT K H1 H ∧ H p = some (.ins C dx []) ∧ A H1 ws a ∧ NStk (m a) ∧
  (∀ b, m a = .ok b → ∀ H' as, Same H1 H' → (∀ q, q ∈ as → H1 q = none) → (nRec K C F).rep H' (.ref p) b as → Q .non H') ∧
  ∀ x fs, m a = .error (.ex x fs) → ∀ d H', Same H1 H' → H1 d = none → XR K H' d fs → E (.ref (cA K x)) (some d) H'
theorem nw_mkI {C : Addr} {F : RF K β} {A : Ra α} {a : α} {m : α → M β} {b : β} {E' : L2.St → XK} {tq : TA} (hA : EvA A tq G a) (M : MonoA A) (e : MOk m a b) : Nw (nRec K C F) (tMakeS C (spInit K C F A m) E' tq) G b := fun H0 σ H E Q k =>
  hA H0 σ H E _ fun vs H2 e2 hvs x dx hx hdx hne => by
    have e : m a = .ok b := e
    have s1 : Same H2 (upd (upd H2 dx (.own x)) x (.ins C dx [])) := same_made hx hdx
    refine ⟨x, dx, vs, a, H2, rfl, s1, hx, ext_same s1, upd_same, hvs, nstk_ok e, fun b' hb H' as s2 hf hr => ⟨rfl, ?_⟩, fun y fs hy => by rw [e] at hy; cases hy⟩
    rw [e] at hb
    cases hb
    exact k _ H' as (e2.trans s2) (fun p hp => free_back e2 (hf p hp)) hr
end
end
section
def tArgN (t : TA) : TA := fun σ H Q => t σ H fun vs H1 => Q (vs ++ [.non]) H1
section
variable {K : PySem.W.Frag} {α β γ : Type} {G : Cells K} {r : Rp α} {q : Rp β} {t : TA} {te ta tb : TE} {x : α} {b : β}
theorem ea_argN1 (h : EvA (aC r aN) t G (x, ())) : EvA (aC r (aC rN aN)) (tArgN t) G (x, ((), ())) := fun H0 σ H E Q k =>
  h H0 σ H E _ fun vs H1 e1 ⟨v, ws, ev, hv, ew⟩ => k _ H1 e1 ⟨v, [.non], by rw [ev, show ws = [] from ew]; rfl, hv, .non, [], rfl, rfl, rfl⟩
theorem ev_nonN : Ev rN (tC .non) G () := fun H0 σ H E Q k => k _ H (Same.refl H) rfl
end
end
section
section
variable {K : PySem.W.Frag} {α β γ : Type} {r : Rp α}
instance bor_nl : Bor K (nl K r) (rL r) := ⟨fun ⟨p, vs, _, ev, hp, z⟩ => ⟨p, vs, ev, hp, z.imp fun _ _ w => w.now⟩⟩
instance bor_nlA {p : Addr} : Bor K (nlA K r p) (rL r) := ⟨fun ⟨⟨p, vs, _, ev, hp, z⟩, _⟩ => ⟨p, vs, ev, hp, z.imp fun _ _ w => w.now⟩⟩
instance bor_nd : Bor K (nd K r) (rD r) := ⟨fun ⟨p, kvs, _, ev, hp, z⟩ => ⟨p, kvs, ev, .inl hp, z.imp fun _ _ w => ⟨w.1, w.2.now⟩⟩⟩
end
end
section
def ltS (a b : Str) : Bool := decide (a.cps.toList < b.cps.toList)
section
variable {K : PySem.W.Frag} {G : Cells K} {ta tb : TE} {a b : Str}
theorem a_ltS (h : Ev rS ta G a) (h' : Ev rS tb G b) : Ev rB (tOp (fun x y H Q => ∃ i j, x = .str i ∧ y = .str j ∧ Q (.bl (decide (i.cps.toList < j.cps.toList))) H) ta tb) G (ltS a b) := fun H0 σ H E Q k =>
  h H0 σ H E _ fun v H1 e1 z => h' H0 σ H1 (E.grow e1) _ fun w H2 e2 z2 => ⟨a, b, z.1, z2.1, k _ H2 (e1.trans e2) rfl⟩
end
end
section
def tMethS (C : Addr) (m : Str) (sp : Sp) (E : L2.St → XK) (ta : TE) (t : TA) : TE := fun σ H Q => ta σ H fun x H1 => ∃ a dx fs, x = .ref a ∧ H1 a = some (.ins C dx fs) ∧ fs.lookup m = none ∧ t σ H1 fun vs H2 => sp (x :: vs) H2 Q (E σ)
section
variable {K : PySem.W.Frag} {α β γ δ ρ : Type} {H0 H1 H2 H H' : Hp} {σ : L2.St} {G G' : Cells K} {r : Rp α} {q : Rp γ} {D : Ends} {u : TS} {te ta : TE} {t : TA} {R : Rs K ρ}
theorem ev_mthX {C : Addr} {names : List Str} {mt : Str} {x : α} {A : Ra β} {b : β} {m : α × β → M γ} {E' : L2.St → XK} {c : γ} (h : Ev r ta G x) (M : Mono r) (I : InsR K C r names) (hn : mt ∉ names) (hA : EvA A t G b) (e : MOk m (x, b) c) :
    Ev q (tMethS C mt (spX (K := K) (aC r A) q m) E' ta t) G c := fun H0 σ H E Q k => h H0 σ H E _ fun v H2 e2 hv => by
  obtain ⟨a, dx, fs, ea, ha, hm⟩ := I.ins hv
  have e : m (x, b) = .ok c := e
  refine ⟨a, dx, fs, ea, ha, lookup_no hm hn, hA H0 σ H2 (E.grow e2) _ fun vs H3 e3 hvs => ?_⟩
  exact ⟨(x, b), ⟨v, vs, rfl, M.up e3 hv, hvs⟩, nstk_ok e, fun c' hc w' H4 e4 hw => k w' H4 ((e2.trans e3).trans e4) (by rw [e] at hc; cases hc; exact hw), fun y fs' he => by rw [e] at he; cases he⟩
theorem nw_mthX {C : Addr} {names : List Str} {mt : Str} {x : α} {A : Ra β} {b : β} {m : α × β → M ρ} {E' : L2.St → XK} {c : ρ} (h : Ev r ta G x) (M : Mono r) (I : InsR K C r names) (hn : mt ∉ names) (hA : EvA A t G b) (e : MOk m (x, b) c) :
    Nw R (tMethS C mt (spXN (aC r A) R m) E' ta t) G c := fun H0 σ H E Q k => h H0 σ H E _ fun v H2 e2 hv => by
  obtain ⟨a, dx, fs, ea, ha, hm⟩ := I.ins hv
  have e : m (x, b) = .ok c := e
  refine ⟨a, dx, fs, ea, ha, lookup_no hm hn, hA H0 σ H2 (E.grow e2) _ fun vs H3 e3 hvs => ?_⟩
  exact ⟨(x, b), ⟨v, vs, rfl, M.up e3 hv, hvs⟩, nstk_ok e, fun c' hc w' H4 as e4 hf hw => k w' H4 as ((e2.trans e3).trans e4) (fun p hp => free_back (e2.trans e3) (hf p hp)) (by rw [e] at hc; cases hc; exact hw), fun y fs' he => by rw [e] at he; cases he⟩
end
def Tgl (H H' : Hp) : Prop := ∃ p od kvs, (H p = some (.dK kvs) ∧ H' = upd H p (.frz od (.dK kvs))) ∨ (H p = some (.frz od (.dK kvs)) ∧ H' = upd H p (.dK kvs))
theorem tgl_at {H H' : Hp} (t : Tgl H H') {a : Addr} {o : HO} (h : H a = some o) (n : ∀ kvs, o ≠ .dK kvs) (n2 : ∀ od kvs, o ≠ .frz od (.dK kvs)) : H' a = some o := by
  obtain ⟨p, od, kvs, ⟨hp, e⟩ | ⟨hp, e⟩⟩ := t
  · have ne : a ≠ p := fun z => by rw [z, hp] at h; exact n kvs (Option.some.inj h).symm
    rw [e, upd_ne ne]; exact h
  · have ne : a ≠ p := fun z => by rw [z, hp] at h; exact n2 od kvs (Option.some.inj h).symm
    rw [e, upd_ne ne]; exact h
theorem tgl_ext {K : PySem.W.Frag} {H H' : Hp} (t : Tgl H H') : ExT K H H' := .mk' fun a o9 t9 q => tgl_at t q (fun _ z => by rw [z] at t9; exact t9) fun _ _ z => by rw [z] at t9; exact t9
theorem tgl_rd {H H' : Hp} (t : Tgl H H') {a : Addr} {kvs : List (Key × V)} (h : L2.Rd H a (.dK kvs)) : L2.Rd H' a (.dK kvs) := by
  obtain ⟨p, od, kv, ⟨hp, e⟩ | ⟨hp, e⟩⟩ := t
  · by_cases z : a = p
    · subst z
      rcases h with h | ⟨o, h⟩
      · rw [hp] at h; cases h
        exact .inr ⟨od, by rw [e, upd_same]⟩
      · rw [hp] at h; cases h
    · rcases h with h | ⟨o, h⟩
      · exact .inl (by rw [e, upd_ne z]; exact h)
      · exact .inr ⟨o, by rw [e, upd_ne z]; exact h⟩
  · by_cases z : a = p
    · subst z
      rcases h with h | ⟨o, h⟩
      · rw [hp] at h; cases h
      · rw [hp] at h; cases h
        exact .inl (by rw [e, upd_same])
    · rcases h with h | ⟨o, h⟩
      · exact .inl (by rw [e, upd_ne z]; exact h)
      · exact .inr ⟨o, by rw [e, upd_ne z]; exact h⟩
class Ulk {β : Type} (r : Rp β) : Prop where
  up : ∀ {H H' : Hp} {v : V} {b : β}, Tgl H H' → r H v b → r H' v b
section
variable {K : PySem.W.Frag} {α β : Type}
instance : Ulk rI := ⟨fun _ h => h⟩
instance : Ulk rB := ⟨fun _ h => h⟩
instance : Ulk rS := ⟨fun _ h => h⟩
instance : Ulk rN := ⟨fun _ h => h⟩
instance : Ulk rV := ⟨fun _ h => h⟩
instance {r : Rp β} [M : Ulk r] : Ulk (rO r) := ⟨fun {_ _ _ b} e h => match b, h with
  | .none, h => h
  | .some _, h => M.up (v := _) e h⟩
instance {r : Rp β} [M : Ulk r] : Ulk (rT K r) := ⟨fun e ⟨a, vs, ev, h, q⟩ => ⟨a, vs, ev, (tgl_ext e).d _ _ h, q.imp fun _ _ z => M.up e z⟩⟩
instance {r : Rp α} {q : Rp β} [M : Ulk r] [N : Ulk q] : Ulk (rP K r q) := ⟨fun e ⟨a, x, y, ev, h, h1, h2⟩ => ⟨a, x, y, ev, tgl_ext e _ _ h, M.up e h1, N.up e h2⟩⟩
instance {r : Rp β} [M : Ulk r] : Ulk (rL r) := ⟨fun e ⟨a, vs, ev, h, q⟩ => ⟨a, vs, ev, tgl_at e h (fun _ z => nomatch z) (fun _ _ z => nomatch z), q.imp fun _ _ z => M.up e z⟩⟩
instance {r : Rp β} [M : Ulk r] : Ulk (rD r) := ⟨fun e ⟨a, kvs, ev, h, q⟩ => ⟨a, kvs, ev, tgl_rd e h, q.imp fun _ _ z => ⟨z.1, M.up e z.2⟩⟩⟩
end
def rDp {α : Type} (r : Rp α) : Rp (List (Str × α)) := fun H v xs => ∃ a kvs, v = .ref a ∧ H a = some (.dK kvs) ∧ A2 (Kv (r H)) kvs xs
def rLkA {α : Type} (r : Rp α) (a : Addr) : Rp (List (Str × α)) := fun H v xs => ∃ od kvs, v = .ref a ∧ H a = some (.frz od (.dK kvs)) ∧ A2 (Kv (r H)) kvs xs
inductive LkG {K : PySem.W.Frag} : Cells K → Prop
  | nil : LkG []
  | non {G : Cells K} : LkG G → LkG (none :: G)
  | ow {G : Cells K} {β : Type} {R : Rs K β} {b : β} : LkG G → LkG (some (.ow R b) :: G)
  | ro {G : Cells K} {β : Type} {r : Rp β} {m : Mono r} {b : β} : Ulk r → LkG G → LkG (some (.ro r m b) :: G)
theorem LkG.at_ {K : PySem.W.Frag} {G : Cells K} (L : LkG G) : ∀ {j : Nat} {β : Type} {r : Rp β} {m : Mono r} {b : β}, G[j]? = some (some (.ro r m b)) → Ulk r := by
  induction L with
  | nil => intro j β r m b h; cases h
  | non _ ih => intro j β r m b h; cases j with
    | zero => cases h
    | succ j => exact ih (j := j) h
  | ow _ ih => intro j β r m b h; cases j with
    | zero => cases h
    | succ j => exact ih (j := j) h
  | ro U _ ih => intro j β r m b h; cases j with
    | zero => cases h; exact U
    | succ j => exact ih (j := j) h
section
variable {K : PySem.W.Frag} {α β γ : Type} {H0 H1 H2 H H' : Hp} {σ : L2.St} {G G' G2 : Cells K} {r : Rp α} {D : Ends} {u t : TS} {te : TE}
instance [M : Mono r] : Mono (rDp r) := ⟨fun e ⟨a, kvs, ev, h, q⟩ => ⟨a, kvs, ev, e _ _ h, q.imp fun _ _ z => ⟨z.1, M.up e z.2⟩⟩⟩
instance {a : Addr} [M : Mono r] : Mono (rLkA r a) := ⟨fun e ⟨od, kvs, ev, h, q⟩ => ⟨od, kvs, ev, e _ _ h, q.imp fun _ _ z => ⟨z.1, M.up e z.2⟩⟩⟩
theorem ev_dp {xs : List (Str × α)} (h : Ev (rDp r) te G xs) : Ev (rD r) te G xs := h.imp fun _ _ ⟨a, kvs, ev, h, q⟩ => ⟨a, kvs, ev, .inl h, q⟩
theorem ev_lkA {a : Addr} {xs : List (Str × α)} (h : Ev (rLkA r a) te G xs) : Ev (rD r) te G xs := h.imp fun _ _ ⟨od, kvs, ev, h, q⟩ => ⟨a, kvs, ev, .inr ⟨od, h⟩, q⟩
theorem ev_dp0 : Ev (rDp r) tDNewK G [] := fun H0 σ H E Q c p hp => c _ _ (same_new hp) ⟨p, [], rfl, upd_same, .nil⟩
theorem bor_ndp : Bor K (nd K r) (rDp r) := ⟨fun ⟨p, kvs, _, ev, hp, z⟩ => ⟨p, kvs, ev, hp, z.imp fun _ _ w => ⟨w.1, w.2.now⟩⟩⟩
end
end
section
section
variable {K : PySem.W.Frag} {α β γ δ ρ : Type} {H0 H1 H2 H H' : Hp} {σ : L2.St} {G G' : Cells K} {r : Rp α} {q : Rp γ} {D : Ends} {u : TS} {te ta : TE} {t : TA} {R : Rs K ρ}
instance {r : Rp α} : Seq K r (rEi K r) := ⟨fun ⟨p, vs, ev, hp, h⟩ => ⟨p, vs, ev, hp.imp SqL.of id, h⟩⟩
instance {C : Addr} {F : RF K α} : NotNon (rRec K C F) := ⟨fun ⟨_, _, _, _, _, e, _⟩ z => by rw [z] at e; cases e⟩
theorem ea_argNO {x : α} (h : EvA (aC r aN) t G (x, ())) : EvA (aC r (aC (rO q) aN)) (tArgN t) G (x, (none, ())) := fun H0 σ H E Q k =>
  h H0 σ H E _ fun vs H1 e1 ⟨v, ws, e, hv, hw⟩ => k _ H1 e1 ⟨v, [.non], by rw [e, hw]; rfl, hv, .non, [], rfl, rfl, rfl⟩
theorem a_roS {i : Nat} {m : Mono (rO r)} {o : Option α} {b : α} (h : G[i]? = some (some (.ro (rO r) m o))) (e : o = some b) : Ev r (tVar i) G b := fun H0 σ H E Q k => by
  obtain ⟨own, _, _, h3⟩ := E.at_
  obtain ⟨v, hv, _, hr⟩ := h3 i _ h
  subst e
  exact ⟨v, hv, k v H (Same.refl H) (m.up (b := some b) E.old hr)⟩
end
end
section
section
variable {K : PySem.W.Frag} {α β γ ρ : Type} {H0 H1 H2 H H' : Hp} {σ : L2.St} {G G' : Cells K} {D : Ends} {u : TS} {te ta : TE} {t : TA} {r : Rp α}
class FlF (F : RF K α) : Prop where
  fl : ∀ {H : Hp} {fs : List (Str × V)} {x : α} {as : List Addr}, F.rep H fs x as → as = []
instance : FlF (fN (K := K)) := ⟨fun ⟨_, e⟩ => e⟩
instance {F : RF K β} {f : Str} {r : Rp α} [L : FlF F] : FlF (fA F f (fz K r)) := ⟨fun ⟨gs, v, a1, a2, _, e, h1, h2⟩ => by rw [e, L.fl h1, h2.1]; rfl⟩
end
end
section
abbrev PKy := List (Option Key)
abbrev PEt := PKy × Addr × Value
def pkV : Option Key → V
  | none => .non
  | some k => kV k
def PDat (P : Program) (w : World) (a : Addr) (ep : Nat) (xs : List PEt) (h : Heap) : Prop :=
  ∃ o es, h.get? a = some o ∧ o.ExactDict ∧ o.data = .dict es ep ∧ es.toList = xs.map (entryOfKey (tupleKind (noneKind P w)))
def PDO (P : Program) (w : World) (a : Addr) (ep : Nat) (xs : List PEt) : HO := .ext (PDat P w a ep xs)
structure PdAt (P : Program) (w : World) (K : PySem.W.Frag) (H : Hp) (a : Addr) (ep : Nat) (xs : List PEt) : Prop where
  it : H a = some (PDO P w a ep xs)
  ks : ∀ x ∈ xs, SqT K H x.2.1 (x.1.map pkV)
  nd : (xs.map (·.1)).Nodup
  sz : xs.length ≤ sizeLine
  ne : (a == sysModules) = false
def tPNew (P : Program) (w : World) : TE := fun _ H Q => ∀ p ep, H p = none → (p == sysModules) = false → Q (.ref p) (upd H p (PDO P w p ep []))
def PLk (P : Program) (w : World) (K : PySem.W.Frag) (H : Hp) (x y : V) (R : Option (Addr × Value) → Prop) : Prop :=
  ∃ a ep xs b k, x = .ref a ∧ PdAt P w K H a ep xs ∧ y = .ref b ∧ SqT K H b (k.map pkV) ∧ R (atKey xs k)
def tPGet (P : Program) (w : World) (K : PySem.W.Frag) (td ty : TE) : TE := fun σ H Q => td σ H fun x H1 => ty σ H1 fun y H2 => PLk P w K H2 x y fun o => ∃ p v, o = some p ∧ RelV v p.2 ∧ Q v H2
def tPIn (P : Program) (w : World) (K : PySem.W.Frag) (ty td : TE) : TE := fun σ H Q => ty σ H fun y H1 => td σ H1 fun x H2 => PLk P w K H2 x y fun o => Q (.bl o.isSome) H2
def tPNotIn (P : Program) (w : World) (K : PySem.W.Frag) (ty td : TE) : TE := fun σ H Q => ty σ H fun y H1 => td σ H1 fun x H2 => PLk P w K H2 x y fun o => Q (.bl (!o.isSome)) H2
end
section
open Builtin Builtin.Str Builtin.Int Builtin.Float
def spW : Str := "<17"
def tFmtW (te ts : TE) : TE := fun σ H Q => te σ H fun x H1 => ts σ H1 fun y H2 => ∃ a : Str, x = .str a ∧ y = .str spW ∧ a.length ≤ 100000 ∧ Q (.str (Txt.ljust a 17)) H2
section
variable {K : PySem.W.Frag} {G : Cells K} {te ts : TE} {a : Str}
theorem okS_ljust (h : okS a) (hz : a.length ≤ 99000) : okS (Txt.ljust a 17) := by
  unfold Txt.ljust
  split
  · exact h
  · refine ⟨?_, ?_⟩
    · show (padded a 0 _ 32).length ≤ 100000
      have : (padded a 0 ((17 : Int).toNat - a.length) 32).length = a.length + ((17 : Int).toNat - a.length) := by
        unfold padded Str.length
        simp
      rw [this]
      have : (17 : Int).toNat = 17 := rfl
      omega
    · have h2 := h.2
      simp only [Array.all_eq_true] at h2 ⊢
      unfold padded
      simp [Array.all_eq_true] at h2 ⊢
      intro i hi
      rw [Array.getElem_append]
      split
      · exact h2 i (by assumption)
      · simp
theorem ev_fmtW (h : Ev rS te G a) (h2 : Ev rS ts G spW) (hz : a.length ≤ 99000) : Ev rS (tFmtW te ts) G (Txt.ljust a 17) := fun H0 σ H E Q k =>
  h H0 σ H E _ fun v H1 e1 ⟨ev, ok⟩ => h2 H0 σ H1 (E.grow e1) _ fun v2 H2 e2 ⟨ev2, ok2⟩ => ⟨a, ev, ev2, ok.1, k _ H2 (e1.trans e2) ⟨rfl, okS_ljust ok hz⟩⟩
end
end
end Gt
namespace Gt
open PySem PySem.Spec PyProof.Rows L2
section
open PySem PySem.W PySem.Calls PyProof.Rows PyProof.V PySem.Spec L2
inductive PHit (P : Program) (w : World) (K : PySem.W.Frag) (H : Hp) (ys : List PEt) : List PEt → Bool → Prop
  | nil : PHit P w K H ys [] true
  | miss {k : PKy} {a : Addr} {v : Value} {r : List PEt} : atKey ys k = none → PHit P w K H ys ((k, a, v) :: r) false
  | hit {k : PKy} {a : Addr} {v : Value} {p : Addr × Value} {r : List PEt} {b : Bool} {x y : V} {d e : PyData} : atKey ys k = some p → RelV x v → RelV y p.2 → Dp K H x d → Dp K H y e → SeqAt.shaped d = true → SeqAt.shaped e = true →
      PHit P w K H ys r b → PHit P w K H ys ((k, a, v) :: r) (PyData.eqv d e && b)
def rPEq (P : Program) (w : World) (K : PySem.W.Frag) : R2 := fun x y H Q => ∃ a b ep ep' xs ys r, x = .ref a ∧ y = .ref b ∧ PdAt P w K H a ep xs ∧ PdAt P w K H b ep' ys ∧ (xs.length = ys.length → PHit P w K H ys xs r) ∧ Q (.bl (xs.length == ys.length && r)) H
end
section
abbrev KP := Str × Option Str
def kP (k : KP) : PKy := [some (.inr k.1), k.2.map .inr]
def okP (k : KP) : Prop := okS k.1 ∧ ∀ t, k.2 = some t → okS t
def pkey {α : Type} (xs : List (KP × α)) (k : KP) : Option α := (xs.find? fun kv => decide (kv.1 = k)).map (·.2)
def pput {α : Type} (xs : List (KP × α)) (k : KP) (v : α) : List (KP × α) := if (pkey xs k).isSome = true then xs.map (fun kv => if kv.1 = k then (kv.1, v) else kv) else xs ++ [(k, v)]
theorem kP_inj {a b : KP} (h : kP a = kP b) : a = b := by
  obtain ⟨a1, a2⟩ := a
  obtain ⟨b1, b2⟩ := b
  unfold kP at h
  injection h with h1 h2
  injection h2 with h2 _
  have e1 : a1 = b1 := by injection h1 with h1; injection h1
  have e2 : a2 = b2 := by
    cases a2 <;> cases b2
    · rfl
    · exact nomatch h2
    · exact nomatch h2
    · have : (some (Sum.inr _) : Option Key) = some (Sum.inr _) := h2
      injection this with q
      injection q with q
      rw [q]
  rw [e1, e2]
structure Pe (K : PySem.W.Frag) {α : Type} (R : V → α → Prop) (H : Hp) (x : PEt) (y : KP × α) : Prop where
  key : x.1 = kP y.1
  ok : okP y.1
  at_ : SqT K H x.2.1 (x.1.map pkV)
  val : ∃ v, R v y.2 ∧ RelV v x.2.2
section
variable {K : PySem.W.Frag} {α : Type} {R R' : V → α → Prop} {H H' : Hp} {es : List PEt} {xs : List (KP × α)}
theorem Pe.up {x : PEt} {y : KP × α} (h : Pe K R H x y) (f : ∀ v b, R v b → R' v b) (e : ExT K H H') : Pe K R' H' x y := ⟨h.key, h.ok, e _ _ h.at_, let ⟨v, q, z⟩ := h.val; ⟨v, f _ _ q, z⟩⟩
theorem pe_at (h : A2 (Pe K R H) es xs) (k : KP) : (∃ p b v, atKey es (kP k) = some p ∧ pkey xs k = some b ∧ R v b ∧ RelV v p.2) ∨ (atKey es (kP k) = none ∧ pkey xs k = none) := by
  induction h with
  | nil => exact .inr ⟨rfl, rfl⟩
  | @cons x y l m h1 h2 ih =>
    by_cases e : y.1 = k
    · obtain ⟨v, q, z⟩ := h1.val
      refine .inl ⟨x.2, y.2, v, ?_, ?_, q, z⟩
      · unfold atKey
        rw [List.find?_cons, decide_eq_true (by rw [h1.key, e])]
        rfl
      · unfold pkey
        rw [List.find?_cons, decide_eq_true e]
        rfl
    · have ea : atKey (x :: l) (kP k) = atKey l (kP k) := by
        unfold atKey
        rw [List.find?_cons, decide_eq_false fun z => e (kP_inj (h1.key.symm.trans z))]
      have eb : pkey (y :: m) k = pkey m k := by
        unfold pkey
        rw [List.find?_cons, decide_eq_false e]
      rw [ea, eb]
      exact ih
theorem pe_map (h : A2 (Pe K R H) es xs) {k : KP} {u : Value} {v : V} {b : α} (hv : R v b) (ru : RelV v u) : A2 (Pe K R H) (es.map (putAt (kP k) u)) (xs.map fun kv => if kv.1 = k then (kv.1, b) else kv) := by
  induction h with
  | nil => exact .nil
  | @cons x y l m h1 h2 ih =>
    rw [List.map_cons, List.map_cons]
    refine .cons ?_ ih
    unfold putAt
    by_cases e : y.1 = k
    · rw [if_pos (by rw [h1.key, e]), if_pos e]
      exact ⟨h1.key, h1.ok, h1.at_, v, hv, ru⟩
    · rw [if_neg fun z => e (kP_inj (h1.key.symm.trans z)), if_neg e]
      exact h1
theorem pe_put (h : A2 (Pe K R H) es xs) {k : KP} {a : Addr} {u : Value} {v : V} {b : α} (hk : okP k) (ha : SqT K H a ((kP k).map pkV)) (hv : R v b) (ru : RelV v u) : A2 (Pe K R H) (storedH es (kP k) a u) (pput xs k b) := by
  unfold storedH pput
  rcases pe_at h k with ⟨p, b', v', e1, e2, _, _⟩ | ⟨e1, e2⟩
  · rw [e1, e2, if_pos (show (some p).isSome = true from rfl), if_pos (show (some b').isSome = true from rfl)]
    exact pe_map h hv ru
  · rw [e1, e2, if_neg (show ¬ (none : Option (Addr × Value)).isSome = true from fun z => nomatch z), if_neg (show ¬ (none : Option α).isSome = true from fun z => nomatch z)]
    exact A2.app (.one ⟨rfl, hk, ha, v, hv, ru⟩) h
theorem putAt_key {k : PKy} {u : Value} {l : List PEt} : (l.map (putAt k u)).map (·.1) = l.map (·.1) := by
  rw [List.map_map]
  refine List.map_congr_left fun x _ => ?_
  show (putAt k u x).1 = x.1
  unfold putAt
  split <;> rfl
theorem nd_put {k : PKy} {a : Addr} {u : Value} (h : (es.map (·.1)).Nodup) : ((storedH es k a u).map (·.1)).Nodup := by
  unfold storedH
  split
  · rw [putAt_key]; exact h
  · rename_i hn
    rw [List.map_append, List.map_cons, List.map_nil]
    refine List.nodup_append.mpr ⟨h, by simp, fun x hx y hy => ?_⟩
    rw [List.mem_singleton] at hy
    subst hy
    intro e
    subst e
    obtain ⟨z, hz, e⟩ := List.mem_map.mp hx
    refine hn ?_
    unfold atKey
    rw [Option.isSome_map, List.find?_isSome]
    exact ⟨z, hz, by simpa using e⟩
end
abbrev rKP (K : PySem.W.Frag) : Rp KP := rP K rS (rO rS)
theorem key_to {K : PySem.W.Frag} {H : Hp} {v : V} {k : KP} (h : rKP K H v k) : ∃ b, v = .ref b ∧ SqT K H b ((kP k).map pkV) ∧ okP k := by
  obtain ⟨a, x, y, ev, hs, ⟨hx, ox⟩, hy⟩ := h
  obtain ⟨k1, k2⟩ := k
  cases k2 with
  | none =>
    have hy' : y = .non := hy
    subst hx hy'
    exact ⟨a, ev, hs, ox, fun t z => nomatch z⟩
  | some t =>
    obtain ⟨hy', oy⟩ := (show y = .str t ∧ okS t from hy)
    subst hx hy'
    exact ⟨a, ev, hs, ox, fun t' z => by cases z; exact oy⟩
def npd (P : Program) (w : World) (K : PySem.W.Frag) {β : Type} (r : Rp β) : Rs K (List (KP × β)) where
  rep := fun H v xs as => ∃ (p : Addr) (ep : Nat) (es : List PEt), as = [p] ∧ v = .ref p ∧ H p = some (PDO P w p ep es) ∧ (p == sysModules) = false ∧ (es.map fun (x : PEt) => x.1).Nodup ∧ A2 (Pe K (Stb K r H) H) es xs
  stay := fun ⟨p, ep, es, e, ev, h, hs, nd, q⟩ x k => ⟨p, ep, es, e, ev, k p (by rw [e]; exact List.mem_singleton.mpr rfl) _ h, hs, nd, q.imp fun _ _ z => z.up (fun _ _ y => y.up x) x⟩
  there := fun ⟨p, ep, es, e, _, h, _⟩ b hb => by
    rw [e] at hb
    cases List.mem_singleton.mp hb
    exact ⟨_, h, fun z => z⟩
def rPD (P : Program) (w : World) (K : PySem.W.Frag) {β : Type} (r : Rp β) : Rp (List (KP × β)) := fun H v xs => ∃ (p : Addr) (ep : Nat) (es : List PEt), v = .ref p ∧ H p = some (PDO P w p ep es) ∧ (p == sysModules) = false ∧ (es.map fun (x : PEt) => x.1).Nodup ∧ A2 (Pe K (r H) H) es xs ∧ xs.length ≤ 12000000
section
variable {P : Program} {w : World} {K : PySem.W.Frag} {H0 H1 H H' : Hp} {σ : L2.St} {G G' : Cells K} {α β : Type} {D : Ends}
variable {ta tb te td ty tx tv : TE} {r : Rp α} {x x' : α} {k : KP} {i : Nat} {xs ys : List (KP × α)}
instance [M : Mono r] : Mono (rPD P w K r) := ⟨fun {H H' v xs} e h => by
  obtain ⟨p, ep, es, ev, h, hs, nd, q, hz⟩ := h
  exact ⟨p, ep, es, ev, e _ _ h, hs, nd, q.imp fun _ _ z => z.up (fun _ _ y => M.up e y) (ext_same e), hz⟩⟩
theorem pd_at {R : V → α → Prop} {p : Addr} {ep : Nat} {es : List PEt} (h : H p = some (PDO P w p ep es)) (hs : (p == sysModules) = false) (nd : (es.map (·.1)).Nodup) (q : A2 (Pe K R H) es xs) (hz : xs.length ≤ 12000000) : PdAt P w K H p ep es := by
  refine ⟨h, ?_, nd, by rw [q.len]; exact sz hz, hs⟩
  clear hz nd h
  induction q with
  | nil => exact fun x hx => nomatch hx
  | cons h1 _ ih =>
    intro x hx
    rcases List.mem_cons.mp hx with e | e
    · subst e; exact h1.at_
    · exact ih x e
theorem a_pdO (h : G[i]? = some (some (.ow (npd P w K r) xs))) (hz : xs.length ≤ 12000000) : Ev (rPD P w K r) (tVar i) G xs := fun H0 σ H E Q k => by
  obtain ⟨own, _, _, h3⟩ := E.at_
  obtain ⟨v, hv, p, ep, es, _, ev, hp, hs, nd, q⟩ := h3 i _ h
  exact ⟨v, hv, k v H (Same.refl H) ⟨p, ep, es, ev, hp, hs, nd, q.imp fun _ _ z => z.up (fun _ _ y => y.now) (ExT.refl _), hz⟩⟩
theorem nw_pnew : Nw (npd P w K r) (tPNew P w) G [] := fun H0 σ H E Q k p ep hp hs => k _ _ [p] (same_new hp) (fun b hb => by rw [List.mem_singleton.mp hb]; exact hp) ⟨p, ep, [], rfl, rfl, upd_same, hs, List.nodup_nil, .nil⟩
theorem a_pget (h : Ev (rPD P w K r) td G xs) (h' : Ev (rKP K) ty G k) (M : Mono r) (hx : pkey xs k = some x) : Ev r (tPGet P w K td ty) G x := fun H0 σ H E Q c =>
  h H0 σ H E _ fun v H1 e1 hd => h' H0 σ H1 (E.grow e1) _ fun y H2 e2 hy => by
    obtain ⟨p, ep, es, ev, hp, hs, nd, q, hz⟩ := (inferInstance : Mono (rPD P w K r)).up e2 hd
    obtain ⟨b, ey, hb, ok⟩ := key_to hy
    refine ⟨p, ep, es, b, kP k, ev, pd_at hp hs nd q hz, ey, hb, ?_⟩
    rcases pe_at q k with ⟨p', b', v', e5, e6, hq, rv⟩ | ⟨e5, e6⟩
    · rw [hx] at e6
      cases e6
      exact ⟨p', v', e5, rv, c _ H2 (e1.trans e2) hq⟩
    · rw [hx] at e6
      cases e6
theorem a_pIn (h : Ev (rKP K) ty G k) (h' : Ev (rPD P w K r) td G xs) (M : Mono r) : Ev rB (tPIn P w K ty td) G (pkey xs k).isSome := fun H0 σ H E Q c =>
  h H0 σ H E _ fun y H1 e1 hy => h' H0 σ H1 (E.grow e1) _ fun v H2 e2 ⟨p, ep, es, ev, hp, hs, nd, q, hz⟩ => by
    obtain ⟨b, ey, hb, ok⟩ := key_to hy
    refine ⟨p, ep, es, b, kP k, ev, pd_at hp hs nd q hz, ey, ext_same e2 _ _ hb, ?_⟩
    rcases pe_at q k with ⟨p', b', v', e5, e6, _, _⟩ | ⟨e5, e6⟩
    · rw [e5]; exact c _ H2 (e1.trans e2) (by rw [e6]; rfl)
    · rw [e5]; exact c _ H2 (e1.trans e2) (by rw [e6]; rfl)
theorem a_pNin (h : Ev (rKP K) ty G k) (h' : Ev (rPD P w K r) td G xs) (M : Mono r) : Ev rB (tPNotIn P w K ty td) G (!(pkey xs k).isSome) := fun H0 σ H E Q c =>
  h H0 σ H E _ fun y H1 e1 hy => h' H0 σ H1 (E.grow e1) _ fun v H2 e2 ⟨p, ep, es, ev, hp, hs, nd, q, hz⟩ => by
    obtain ⟨b, ey, hb, ok⟩ := key_to hy
    refine ⟨p, ep, es, b, kP k, ev, pd_at hp hs nd q hz, ey, ext_same e2 _ _ hb, ?_⟩
    rcases pe_at q k with ⟨p', b', v', e5, e6, _, _⟩ | ⟨e5, e6⟩
    · rw [e5]; exact c _ H2 (e1.trans e2) (by rw [e6]; rfl)
    · rw [e5]; exact c _ H2 (e1.trans e2) (by rw [e6]; rfl)
noncomputable def pdSame (xs ys : List (KP × α)) : Bool := xs.length == ys.length && xs.all fun kv => match pkey ys kv.1 with
  | none => false
  | some y => eqB kv.2 y
theorem phit_of (DD : DatC K r) {es fs : List PEt} (h : A2 (Pe K (r H) H) es xs) (h' : A2 (Pe K (r H) H) fs ys) : PHit P w K H fs es (xs.all fun kv => match pkey ys kv.1 with
  | none => false
  | some y => eqB kv.2 y) := by
  obtain ⟨D, hd⟩ := DD
  induction h with
  | nil => exact .nil
  | @cons x y l m h1 h2 ih =>
    obtain ⟨k, a, u⟩ := x
    obtain ⟨v, hv, rv⟩ := h1.val
    rw [List.all_cons]
    have hk : k = kP y.1 := h1.key
    rcases pe_at h' y.1 with ⟨p, b, v', e1, e2, hv', rv'⟩ | ⟨e1, e2⟩
    · rw [e2]
      have e3 : eqB y.2 b = PyData.eqv (D.enc y.2) (D.enc b) := by rw [D.eqv]; unfold eqB; congr
      show PHit P w K H fs ((k, a, u) :: l) (eqB y.2 b && _)
      rw [e3]
      exact .hit (by rw [hk]; exact e1) rv rv' (D.dp hv) (D.dp hv') (dat_shaped D (Nat.le_of_lt hd) hv) (dat_shaped D (Nat.le_of_lt hd) hv') ih
    · rw [e2]
      exact .miss (by rw [hk]; exact e1)
theorem a_peq (h : Ev (rPD P w K r) ta G xs) (h' : Ev (rPD P w K r) tb G ys) (M : Mono r) (DD : DatC K r) : Ev rB (tOp (rPEq P w K) ta tb) G (pdSame xs ys) := ev_op h h' fun H u v ⟨p, ep, es, eu, hp, hs, nd, q, hz⟩ ⟨p', ep', es', ev, hp', hs', nd', q', hz'⟩ Q k =>
  ⟨p, p', ep, ep', es, es', _, eu, ev, pd_at hp hs nd q hz, pd_at hp' hs' nd' q' hz', fun _ => phit_of DD q q', k _ H (Same.refl H) (by show V.bl _ = V.bl _; rw [q.len, q'.len]; rfl)⟩
end
end
section
def LeS (a b : Str) : Prop := ¬ LtS b a
theorem leS_tr {a b c : Str} (h : LeS a b) (h' : LeS b c) : LeS a c := fun z => by
  by_cases e : b = c
  · subst e; exact h z
  · exact h (ltS_tr (ltS_tot h' (Ne.symm e)) z)
theorem leS_as {a b : Str} (h : LeS a b) (h' : LeS b a) : a = b := by
  by_cases e : a = b
  · exact e
  · exact absurd (ltS_tot h' e) h
theorem leS_of {x p : Str} (h : (!ltCps x.cps.toList p.cps.toList) = true) : LeS p x := fun c => by
  rw [ltCps_eq] at h
  have c' : decide (x.cps.toList < p.cps.toList) = true := decide_eq_true c
  rw [c'] at h
  cases h
theorem rising_leS : ∀ (p : Str) (l : List Str), risingS p l = true → (p :: l).Pairwise LeS
  | p, [], _ => by simp
  | p, x :: r, h => by
    have h0 : (!ltCps x.cps.toList p.cps.toList && risingS x r) = true := h
    rw [Bool.and_eq_true] at h0
    have ih := rising_leS x r h0.2
    have hx := leS_of h0.1
    refine List.pairwise_cons.mpr ⟨fun y hy => ?_, ih⟩
    rcases List.mem_cons.mp hy with e | e
    · exact e ▸ hx
    · exact leS_tr hx ((List.pairwise_cons.mp ih).1 y e)
theorem sorted_leS {l : List Str} (h : sortedS l = true) : l.Pairwise LeS := by
  cases l with
  | nil => exact .nil
  | cons p r => exact rising_leS p r h
noncomputable def insL (x : Str) : List Str → List Str
  | [] => [x]
  | y :: r => @ite _ (LtS y x) (Classical.propDecidable _) (y :: insL x r) (x :: y :: r)
noncomputable def srtL : List Str → List Str
  | [] => []
  | x :: r => insL x (srtL r)
theorem insL_perm (x : Str) : ∀ l : List Str, (insL x l).Perm (x :: l)
  | [] => .refl _
  | y :: r => by
    unfold insL
    split
    · exact ((insL_perm x r).cons y).trans (.swap x y r)
    · exact .refl _
theorem srtL_perm : ∀ l : List Str, (srtL l).Perm l
  | [] => .refl _
  | x :: r => (insL_perm x _).trans ((srtL_perm r).cons x)
theorem insL_srt (x : Str) : ∀ l : List Str, l.Pairwise LeS → (insL x l).Pairwise LeS
  | [], _ => by unfold insL; simp
  | y :: r, h => by
    obtain ⟨h1, h2⟩ := List.pairwise_cons.mp h
    unfold insL
    split
    · rename_i c
      refine List.pairwise_cons.mpr ⟨fun z hz => ?_, insL_srt x r h2⟩
      rcases List.mem_cons.mp ((insL_perm x r).mem_iff.mp hz) with e | e
      · subst e
        exact fun d => ltS_irr _ (ltS_tr c d)
      · exact h1 z e
    · rename_i c
      refine List.pairwise_cons.mpr ⟨fun z hz => ?_, h⟩
      rcases List.mem_cons.mp hz with e | e
      · subst e; exact c
      · exact leS_tr c (h1 z e)
theorem srtL_srt : ∀ l : List Str, (srtL l).Pairwise LeS
  | [] => .nil
  | x :: r => insL_srt x _ (srtL_srt r)
theorem srtL_of {xs ys : List Str} (hp : ys.Perm xs) (hs : sortedS ys = true) : ys = srtL xs :=
  (hp.trans (srtL_perm xs).symm).eq_of_pairwise (fun a b _ _ h h' => leS_as h h') (sorted_leS hs) (srtL_srt xs)
section
variable {K : PySem.W.Frag} {G : Cells K} {ta tb te ts : TE} {a b s : Str} {i : Int}
theorem a_srtL {xs : List Str} (h : Ev (rL rS) ta G xs) (hb : xs.length < 64) : Nw (nl K rS) (tCB (rSortedS K) (tCons ta tNil)) G (srtL xs) := fun H0 σ H E Q k =>
  h H0 σ H E _ fun v H1 e1 ⟨p, us, ev, hp, z⟩ => by
    have eu : us = xs.map V.str := strs_A2 z
    have ok : ∀ x ∈ xs, okS x := A2_mem (H := H1) (z.imp fun _ _ q => q.2)
    refine ⟨p, xs, by rw [ev], by rw [← eu]; exact SqL.of hp, hb, fun ys q hpm hs hq => ?_⟩
    have en := srtL_of hpm hs
    subst en
    refine k _ _ [q] (e1.trans (same_new hq)) (fun b hb => by rw [List.mem_singleton.mp hb]; exact e1.free hq) ⟨q, _, rfl, rfl, upd_same, stbs (A2_strs (srtL xs) fun x hx => ⟨rfl, ok x (hpm.mem_iff.mp hx)⟩)⟩
theorem ev_ljust (h : Ev rS ta G a) (h' : Ev rI tb G i) (hp : PadOk i = true) (hk : okS (Txt.ljust a i)) :
    Ev rS (tM1 (fun x xs H Q => ∃ (a : Str) (i : Int), x = .str a ∧ xs = [.int i] ∧ PadOk i = true ∧ Q (.str (Txt.ljust a i)) H) ta tb) G (Txt.ljust a i) := fun H0 σ H E Q k =>
  h H0 σ H E _ fun v H1 e1 z1 => ⟨⟨a, z1.1⟩, h' H0 σ H1 (E.grow e1) _ fun w H2 e2 z2 => ⟨a, i, z1.1, by rw [show w = .int i from z2], hp, k _ H2 (e1.trans e2) ⟨rfl, hk⟩⟩⟩
theorem ev_joinT {xs : List Str} (h : Ev rS ta G s) (h' : Ev (rT K rS) tb G xs) (hz : (xs.map (·.length)).sum + xs.length * s.length ≤ 16777216) (hk : okS (Txt.join s xs)) :
    Ev rS (tM1 (fun x xs H Q => ∃ a p, ∃ ys : List Str, x = .str a ∧ xs = [.ref p] ∧ (SqL K H p (ys.map V.str) ∨ SqT K H p (ys.map V.str)) ∧ (ys.map (·.length)).sum + ys.length * a.length ≤ 16777216 ∧ Q (.str (Txt.join a ys)) H) ta tb) G (Txt.join s xs) := fun H0 σ H E Q k =>
  h H0 σ H E _ fun v H1 e1 z1 => ⟨⟨s, z1.1⟩, h' H0 σ H1 (E.grow e1) _ fun w H2 e2 ⟨p, vs, ev, hp, z2⟩ => ⟨s, p, xs, z1.1, by rw [ev], .inr (by rw [← strs_A2 z2]; exact hp.t), hz, k _ H2 (e1.trans e2) ⟨rfl, hk⟩⟩⟩
theorem ev_fmt (h : Ev rS te G a) : Ev rS (tFmt te) G a := fun H0 σ H E Q k => h H0 σ H E _ fun v H1 e1 z => .inl ⟨a, z.1, sz z.2.1, k _ H1 e1 ⟨rfl, z.2⟩⟩
inductive EJ (G : Cells K) : List TE → List Str → Prop
  | nil : EJ G [] []
  | cons {t : TE} {ts : List TE} {a : Str} {as : List Str} (h : Ev rS t G a) (r : EJ G ts as) : EJ G (t :: ts) (a :: as)
def catS (acc : Str) : List Str → Str
  | [] => acc
  | a :: as => catS (acc ++ a) as
theorem strApp_len (a b : Str) : (a ++ b).length = a.length + b.length := by
  show (a.cps ++ b.cps).size = a.cps.size + b.cps.size
  exact Array.size_append
theorem catS_len : ∀ (as : List Str) (acc : Str), acc.length ≤ (catS acc as).length
  | [], acc => Nat.le_refl _
  | a :: as, acc => by
    have := catS_len as (acc ++ a)
    rw [strApp_len] at this
    show acc.length ≤ (catS (acc ++ a) as).length
    omega
theorem ej_run {tl : List TE} {as : List Str} (h : EJ G tl as) : ∀ (acc : Str) (H0 : Hp) (σ : L2.St) (H : Hp) (Q : Str → Hp → Prop), Env H0 σ H G → (catS acc as).length ≤ 100000 → (∀ H', Same H H' → Q (catS acc as) H') → tJs tl acc σ H Q := by
  induction h with
  | nil => exact fun acc H0 σ H Q E hz k => k H (Same.refl H)
  | @cons t ts a as h r ih =>
    intro acc H0 σ H Q E hz k
    refine h H0 σ H E _ fun v H1 e1 z => ⟨a, z.1, szS ?_, ih (acc ++ a) H0 σ H1 Q (E.grow e1) hz fun H' e => k H' (e1.trans e)⟩
    exact Nat.le_trans (catS_len as (acc ++ a)) hz
theorem ev_js {tl : List TE} {as : List Str} (h : EJ G tl as) (hk : okS (catS Str.empty as)) : Ev rS (fun σ H Q => tJs tl Str.empty σ H fun out H1 => Q (.str out) H1) G (catS Str.empty as) := fun H0 σ H E Q k =>
  ej_run h Str.empty H0 σ H _ E hk.1 fun H' e => k _ H' e ⟨rfl, hk⟩
theorem ev_spW : Ev rS (tC (.str "<17")) G spW := ev_c fun _ => ⟨rfl, by decide +kernel⟩
end
end
section
class FrzA (K : PySem.W.Frag) {α : Type} (A : Ra α) : Prop where
  up {H H' : Hp} {vs : List V} {a : α} (x : ExT K H H') (h : A H vs a) : A H' vs a
instance {K : PySem.W.Frag} : FrzA K aN := ⟨fun _ h => h⟩
instance {K : PySem.W.Frag} {α β : Type} {r : Rp α} {A : Ra β} [F : Frz K r] [G : FrzA K A] : FrzA K (aC r A) := ⟨fun x ⟨v, ws, e, h, t⟩ => ⟨v, ws, e, F.up x h, G.up x t⟩⟩
def rW (K : PySem.W.Frag) {α : Type} (A : Ra α) : Rp α := fun H v a => ∃ p vs, v = .ref p ∧ SqT K H p vs ∧ A H vs a
instance {K : PySem.W.Frag} {α : Type} {A : Ra α} [M : MonoA A] : Mono (rW K A) := ⟨fun e ⟨p, vs, ev, h, z⟩ => ⟨p, vs, ev, ext_same e _ _ h, M.up e z⟩⟩
instance {K : PySem.W.Frag} {α : Type} {A : Ra α} [F : FrzA K A] : Frz K (rW K A) := ⟨fun x ⟨p, vs, ev, h, z⟩ => ⟨p, vs, ev, x _ _ h, F.up x z⟩⟩
def WIx {α β : Type} (A : Ra α) (j : Nat) (r : Rp β) (a : α) (b : β) : Prop := ∀ H vs, A H vs a → ∃ v, vs[j]? = some v ∧ r H v b
theorem wix_hd {α β : Type} {r : Rp α} {A : Ra β} {p : α × β} : WIx (aC r A) 0 r p p.1 := fun H vs ⟨v, ws, e, h, _⟩ => ⟨v, by rw [e]; rfl, h⟩
theorem wix_tl {α β γ : Type} {r : Rp α} {q : Rp γ} {A : Ra β} {p : α × β} {j : Nat} {b : γ} (h : WIx A j q p.2 b) : WIx (aC r A) (j + 1) q p b := fun H vs ⟨v, ws, e, _, t⟩ => by
  obtain ⟨u, hu, z⟩ := h H ws t
  exact ⟨u, by rw [e]; exact hu, z⟩
section
variable {K : PySem.W.Frag} {H0 H1 H H' : Hp} {σ : L2.St} {G G1 G' : Cells K} {α β γ : Type} {D : Ends} {u : TS}
variable {ta te : TE} {tl : TA} {r : Rp α} {q : Rp β} {A : Ra α} {B : Ra β} {a x : α} {b : β} {n j : Nat} {g : TG} {gs : TGs}
theorem a_tupW (h : EvA A tl G a) (M : MonoA A) (L : LenA A n) (hn : n ≤ 1000) : Ev (rW K A) (tTupD tl) G a := fun H0 σ H E Q k =>
  h H0 σ H E _ fun vs H1 e1 z => ⟨by rw [L.len z]; exact sz (m := 12000000) (by omega), fun p o hp hd => k _ _ (e1.trans (same_new hp)) ⟨p, vs, rfl, (SqD.of upd_same hd).t, M.up (same_new hp) z⟩⟩
instance : TyN K (rW K A) "tuple" := ⟨fun ⟨p, vs, ev, hp, _⟩ => by rw [ev]; exact ty_tup hp⟩
instance {z : α} [L : LenA A n] : Lnd K (rW K A) z n True := ⟨fun {H u} ⟨p, vs, ev, hp, h⟩ _ => by rw [ev, ← L.len h]; exact .inr ⟨vs, hp, rfl⟩⟩
theorem lnc_W [M : MonoA A] [L : LenA A n] : LnC K (rW K A) a n := fun G te h => ev_len h trivial
theorem at_nat {vs : List V} {v : V} (h : vs[j]? = some v) : atI vs ((j : Nat) : Int) = some v := atI_pos (by omega) (by simpa using h)
theorem ixc_W {i : Int} (h : WIx A j q a b) (ei : i = ((j : Nat) : Int)) : IxC K (rW K A) a (tC (.int i)) G q b := fun ta hh => fun H0 σ H E Q k => by
  subst ei
  refine hh H0 σ H E _ fun v H1 e1 ⟨p, vs, ev, hp, z⟩ => ?_
  obtain ⟨w, hw, hz⟩ := h H1 vs z
  exact .inr (.inl ⟨p, vs, ((j : Nat) : Int), w, ev, rfl, hp, at_nat hw, k w H1 e1 hz⟩)
end
end
end Gt
namespace RT
open PySem PySem.Calls PySem.Spec PyProof.Rows L2
def tListRev (K : PySem.W.Frag) (te : TE) : TE := fun σ H Q => te σ H fun v H1 => ∃ (a : Addr) (xs : List V), v = .ref a ∧ SqL K H1 a xs ∧ ∀ q, H1 q = none → Q (.ref q) (upd H1 q (.lst xs.reverse))
end RT
namespace Gt
open PySem PySem.Spec PyProof.Rows L2
section
open PySem PySem.Spec PyProof.Rows L2
section
variable {K : PySem.W.Frag} {G : Cells K} {α : Type} {te : TE} {r : Rp α}
theorem nw_listRev {xs : List α} [M : Mono r] [F : Frz K r] (h : Ev (rL r) te G xs) : Nw (nl K r) (RT.tListRev K te) G xs.reverse := fun H0 σ H E Q k =>
  h H0 σ H E _ fun v H1 e1 ⟨p, us, ev, hp, z⟩ => ⟨p, us, ev, SqL.of hp, fun q hq => k _ _ [q] (e1.trans (same_new hq)) (fun b hb => by rw [List.mem_singleton.mp hb]; exact e1.free hq) ⟨q, _, rfl, rfl, upd_same, stbs (A2.imp (fun _ _ y => M.up (same_new hq) y) z.rev)⟩⟩
end
end
section
abbrev PIn := PKy × Addr × V
def putsH (es : List PEt) : List PIn → List Value → List PEt
  | x :: ks, u :: us => putsH (storedH es x.1 x.2.1 u) ks us
  | _, _ => es
def tPDisp (P : Program) (w : World) (K : PySem.W.Frag) (trs : List (TE × TE)) : TE := fun σ H Q => ∀ p ep, H p = none → (p == sysModules) = false → tPairs trs σ (upd H p (PDO P w p ep [])) fun ps H2 => H2 p = some (PDO P w p ep []) ∧
  ∃ ks : List PIn, ps = ks.map (fun x => (V.ref x.2.1, x.2.2)) ∧ ks.length ≤ 15 ∧ (∀ x ∈ ks, SqT K H2 x.2.1 (x.1.map pkV)) ∧ ∀ us ep', A2 (fun (x : PIn) u => RelV x.2.2 u) ks us → Q (.ref p) (upd H2 p (PDO P w p ep' (putsH [] ks us)))
end
section
section
variable {P : Program} {w : World} {K : PySem.W.Frag} {H : Hp} {G : Cells K} {α : Type} {r : Rp α}
def EvD (r : Rp α) (trs : List (TE × TE)) (G : Cells K) (kvs : List (KP × α)) : Prop := ∀ H0 σ H, Env H0 σ H G → ∀ Q : List (V × V) → Hp → Prop, (∀ ps H', Same H H' → A2 (fun (p : V × V) (kv : KP × α) => rKP K H' p.1 kv.1 ∧ r H' p.2 kv.2) ps kvs → Q ps H') → tPairs trs σ H Q
theorem evd_nil : EvD r [] G [] := fun H0 σ H E Q k => k [] H (Same.refl H) .nil
theorem evd_cons {tk tv : TE} {trs : List (TE × TE)} {k : KP} {v : α} {kvs : List (KP × α)} (hk : Ev (rKP K) tk G k) (hv : Ev r tv G v) (M : Mono r) (h : EvD r trs G kvs) : EvD r ((tk, tv) :: trs) G ((k, v) :: kvs) := fun H0 σ H E Q q =>
  hk H0 σ H E _ fun x H1 e1 z1 => hv H0 σ H1 (E.grow e1) _ fun y H2 e2 z2 => h H0 σ H2 (E.grow (e1.trans e2)) _ fun ps H3 e3 z3 =>
    q _ H3 ((e1.trans e2).trans e3) (.cons ⟨(inferInstance : Mono (rKP K)).up (e2.trans e3) z1, M.up e3 z2⟩ z3)
abbrev KIn (K : PySem.W.Frag) (R : V → α → Prop) (H : Hp) (x : PIn) (kv : KP × α) : Prop := x.1 = kP kv.1 ∧ okP kv.1 ∧ SqT K H x.2.1 (x.1.map pkV) ∧ R x.2.2 kv.2
theorem kin_of {R : V → α → Prop} : ∀ {ps : List (V × V)} {kvs : List (KP × α)}, A2 (fun (p : V × V) (kv : KP × α) => rKP K H p.1 kv.1 ∧ R p.2 kv.2) ps kvs → ∃ ks : List PIn, ps = ks.map (fun x => (V.ref x.2.1, x.2.2)) ∧ A2 (KIn K R H) ks kvs
  | _, _, .nil => ⟨[], rfl, .nil⟩
  | _, _, @A2.cons _ _ _ p kv ps kvs h t => by
    obtain ⟨ks, e, z⟩ := kin_of t
    obtain ⟨b, eb, hb, ok⟩ := key_to h.1
    refine ⟨(kP kv.1, b, p.2) :: ks, ?_, .cons ⟨rfl, ok, hb, h.2⟩ z⟩
    rw [List.map_cons, ← e, ← eb]
theorem kin_sq {R : V → α → Prop} {ks : List PIn} {kvs : List (KP × α)} (h : A2 (KIn K R H) ks kvs) : ∀ x ∈ ks, SqT K H x.2.1 (x.1.map pkV) := by
  induction h with
  | nil => exact fun x hx => nomatch hx
  | cons h1 _ ih =>
    intro x hx
    rcases List.mem_cons.mp hx with e | e
    · subst e; exact h1.2.2.1
    · exact ih x e
def puts (xs : List (KP × α)) (kvs : List (KP × α)) : List (KP × α) := kvs.foldl (fun acc kv => pput acc kv.1 kv.2) xs
theorem puts_rel {R : V → α → Prop} : ∀ {ks : List PIn} {us : List Value} {kvs xs : List (KP × α)} {es : List PEt}, A2 (fun (x : PIn) u => RelV x.2.2 u) ks us → A2 (KIn K R H) ks kvs → A2 (Pe K R H) es xs → (es.map (·.1)).Nodup →
    A2 (Pe K R H) (putsH es ks us) (puts xs kvs) ∧ ((putsH es ks us).map (·.1)).Nodup
  | _, _, _, _, _, .nil, .nil, z, n => ⟨z, n⟩
  | _, _, _, xs, es, @A2.cons _ _ _ x u ks us hu tu, @A2.cons _ _ _ _ kv _ kvs hk tk, z, n => by
    obtain ⟨e, ok, sq, hr⟩ := hk
    have z2 : A2 (Pe K R H) (storedH es x.1 x.2.1 u) (pput xs kv.1 kv.2) := by
      rw [e] at sq ⊢
      exact pe_put z ok sq hr hu
    have z3 := puts_rel tu tk z2 (nd_put n)
    exact z3
theorem nw_pdisp {trs : List (TE × TE)} {kvs : List (KP × α)} (h : EvD r trs G kvs) (F : Frz K r) (hz : kvs.length ≤ 15) : Nw (npd P w K r) (tPDisp P w K trs) G (puts [] kvs) := fun H0 σ H E Q k p ep hp hs =>
  h H0 σ _ (E.grow (same_new hp)) _ fun ps H2 e2 z => by
    obtain ⟨ks, eps, zk⟩ := kin_of (R := r H2) z
    have hp2 := e2 _ _ upd_same
    refine ⟨hp2, ks, eps, by rw [zk.len]; exact hz, kin_sq zk, fun us ep' hus => ?_⟩
    have x0 : ExT K H2 (upd H2 p (PDO P w p ep' (putsH [] ks us))) := ext_upd hp2 fun z => z
    have zk2 : A2 (KIn K (Stb K r (upd H2 p (PDO P w p ep' (putsH [] ks us)))) (upd H2 p (PDO P w p ep' (putsH [] ks us)))) ks kvs := zk.imp fun _ _ q => ⟨q.1, q.2.1, x0 _ _ q.2.2.1, (stb q.2.2.2).up x0⟩
    obtain ⟨z3, n3⟩ := puts_rel (es := []) (xs := []) hus zk2 .nil List.nodup_nil
    refine k _ _ [p] (fun b o hb => ?_) (fun b hb => by rw [List.mem_singleton.mp hb]; exact hp) ⟨p, ep', _, rfl, rfl, upd_same, hs, n3, z3⟩
    have hb1 : b ≠ p := fun e => by rw [e, hp] at hb; cases hb
    rw [upd_ne hb1]
    exact e2 _ _ (same_new hp _ _ hb)
end
end
section
section
variable {K : PySem.W.Frag} {G : Cells K} {α : Type} {te : TE} {r : Rp α}
theorem nw_revL {xs : List α} [M : Mono r] [F : Frz K r] (h : Ev (rL r) te G xs) : Nw (nl K r) (tRevL K te) G xs.reverse := fun H0 σ H E Q k =>
  h H0 σ H E _ fun v H1 e1 ⟨p, us, ev, hp, z⟩ => ⟨p, us, ev, SqL.of hp, fun q hq => k _ _ [q] (e1.trans (same_new hq)) (fun b hb => by rw [List.mem_singleton.mp hb]; exact e1.free hq) ⟨q, _, rfl, rfl, upd_same, stbs (A2.imp (fun _ _ y => M.up (same_new hq) y) z.rev)⟩⟩
end
end
section
section
variable {K : PySem.W.Frag} {H0 : Hp} {G G' : Cells K} {α β : Type} {D : Ends} {u : TS} {R : Rs K α} {A : Ra β} {a a' : α} {b b' : β} {i n : Nat} {te : TE} {tl : TA} {gs : TGs}
theorem ev_unsome {r : Rp α} {o : Option α} {x : α} (h : Ev (rO r) te G o) (e : o = some x) : Ev r te G x := by subst e; exact h.imp fun _ _ z => z
end
end
section
def rCntT (K : PySem.W.Frag) : V → List V → Hp → VK → Prop := fun x xs H Q => ∃ (p : Addr) (ns : List Str) (k : Str), x = .ref p ∧ xs = [.str k] ∧ SqT K H p (ns.map V.str) ∧ Q (.int (ns.count k : Nat)) H
def rCntL (K : PySem.W.Frag) : V → List V → Hp → VK → Prop := fun x xs H Q => ∃ (p : Addr) (ns : List Str) (k : Str), x = .ref p ∧ xs = [.str k] ∧ SqL K H p (ns.map V.str) ∧ Q (.int (ns.count k : Nat)) H
section
variable {X : Cx}
def tTM (K : PySem.W.Frag) (r : V → List V → Hp → VK → Prop) (to : TE) (t : TA) : TE := fun σ H Q => to σ H fun x H1 => (∃ p xs, x = .ref p ∧ SqD K H1 p xs) ∧ t σ H1 fun xs H2 => r x xs H2 Q
variable {o e : Expr} {es : List Expr} {to : TE} {t : TA} {name : Str} {apos cpos : Pos} {id : String} {r : V → List V → Hp → VK → Prop}
end
section
variable {K : PySem.W.Frag} {H0 H1 H H' : Hp} {σ : L2.St} {G G' Gx : Cells K} {α β γ δ S ρ : Type}
variable {D : Ends} {t u tb : TS} {wi wi1 : TI} {g g1 : TG} {te ta : TE} {tt tt1 : TT} {r : Rp α} {q : Rp γ} {R : Rs K ρ} {xs : List Str} {s : Str}
theorem ev_tcount (h : Ev (rT K rS) te G xs) (h' : Ev rS ta G s) : Ev rI (tTM K (rCntT K) te (tCons ta tNil)) G (xs.count s : Nat) := fun H0 σ H E Q k =>
  h H0 σ H E _ fun v H1 e1 ⟨p, vs, ev, hp, z⟩ => ⟨⟨p, vs, ev, hp⟩, h' H0 σ H1 (E.grow e1) _ fun w H2 e2 hw => ⟨p, xs, s, ev, by rw [show w = .str s from hw.1], by
    rw [← strs_a2 z]; exact ((ext_same e2).d _ _ hp).t, k _ H2 (e1.trans e2) rfl⟩⟩
theorem ev_lcount (h : Ev (rL rS) te G xs) (h' : Ev rS ta G s) : Ev rI (tBM K "list" (rCntL K) te (tCons ta tNil)) G (xs.count s : Nat) := fun H0 σ H E Q k =>
  h H0 σ H E _ fun v H1 e1 ⟨p, vs, ev, hp, z⟩ => ⟨by rw [ev]; exact .inl ⟨rfl, vs, SqL.of hp⟩, h' H0 σ H1 (E.grow e1) _ fun w H2 e2 hw => ⟨p, xs, s, ev, by rw [show w = .str s from hw.1], by
    rw [← strs_a2 z]; exact SqL.of (e2 _ _ hp), k _ H2 (e1.trans e2) rfl⟩⟩
end
theorem ixc_Y {K : PySem.W.Frag} {G : Cells K} {α : Type} {r : Rp α} {tb : TE} {i : Int} {x : α} {xs : List α} [M : Mono r] (hi : Ev rI tb G i) (hx : atI xs i = some x) : IxC K (rY K r) xs tb G r x := fun ta h => ev_ix h hi trivial hx
def rAny : Rp Unit := fun _ _ _ => True
instance : Mono rAny := ⟨fun _ _ => trivial⟩
instance {K : PySem.W.Frag} : Frz K rAny := ⟨fun _ _ => trivial⟩
end
section
def tArgK (n : Nat) (t tk : TA) : TA := fun σ H Q => t σ H fun vs H1 => tk σ H1 fun zs H2 => vs.length = n ∧ zs.length = 1 ∧ Q (vs ++ zs) H2
section
variable {K : PySem.W.Frag} {α β γ δ : Type} {G : Cells K} {r : Rp α} {q : Rp β} {p : Rp γ} {s : Rp δ} {t tk : TA} {te : TE} {x : α} {b : β} {z : γ}
theorem ea_argK2 {p' : Rp γ} [M : MonoA (aC r (aC q aN))] (h : EvA (aC r (aC q aN)) t G (x, (b, ()))) (h' : Ev p' te G z) : EvA (aC r (aC q (aC p' aN))) (tArgK 2 t (tCons te tNil)) G (x, (b, (z, ()))) := fun H0 σ H E Q k =>
  h H0 σ H E _ fun vs H1 e1 hv => h' H0 σ H1 (E.grow e1) _ fun w H2 e2 hw => by
    obtain ⟨v1, w1, ev, hv1, v2, w2, ew, hv2, e0⟩ := M.up e2 hv
    subst ev
    subst ew
    rw [show w2 = [] from e0]
    exact ⟨rfl, rfl, k _ H2 (e1.trans e2) ⟨v1, _, rfl, hv1, v2, _, rfl, hv2, w, [], rfl, hw, rfl⟩⟩
theorem ea_argN2 {o : Rp γ} (h : EvA (aC r (aC q aN)) t G (x, (b, ()))) : EvA (aC r (aC q (aC (rO o) aN))) (tArgN t) G (x, (b, ((none : Option γ), ()))) := fun H0 σ H E Q k =>
  h H0 σ H E _ fun vs H1 e1 ⟨v1, w1, ev, hv1, v2, w2, ew, hv2, e0⟩ => by
    subst ev
    subst ew
    rw [show w2 = [] from e0]
    exact k _ H1 e1 ⟨v1, _, rfl, hv1, v2, _, rfl, hv2, .non, [], rfl, rfl, rfl⟩
end
end
section
def rIsB : R2 := fun x y H Q => ∃ a b, x = .bl a ∧ y = .bl b ∧ Q (.bl (decide (a = b))) H
theorem a_isB {K : PySem.W.Frag} {G : Cells K} {ta tb : TE} {a b : Bool} (h : Ev rB ta G a) (h' : Ev rB tb G b) : Ev rB (tOp rIsB ta tb) G (decide (a = b)) := ev_op h h' fun H u v hu hv Q k => ⟨a, b, hu, hv, k _ H (Same.refl H) rfl⟩
theorem a_nR {K : PySem.W.Frag} {G : Cells K} {α : Type} {C : Addr} {F : RF K α} {x : α} {te : TE} (h : Nw (nRec K C F) te G x) : Ev (rRec K C F) te G x := fun H0 σ H E Q k => h H0 σ H E Q fun v H' as e hn z => k v H' e ⟨as, z⟩
theorem a_noRs {K : PySem.W.Frag} {G : Cells K} {α : Type} {i : Nat} {C : Addr} {F : RF K α} {x : α} (h : G[i]? = some (some (.ow (nRec K C F) x))) : Ev (rO (rRec K C F)) (tVar i) G (some x) := (a_noR h).some
end
section
inductive Dm
  | s (x : Str)
  | r (x : Rule)
  | n
  | b (x : Bool)
  deriving DecidableEq
instance : Inhabited Dm := ⟨.n⟩
def rDm (K : PySem.W.Frag) : Rp Dm := fun H v d => match d with
  | .s x => rS H v x
  | .r x => rRu K H v x
  | .n => v = .non
  | .b x => v = .bl x
section
variable {K : PySem.W.Frag} {G : Cells K} {te : TE}
instance : Mono (rDm K) := ⟨fun {H H' v d} e h => match d, h with
  | .s _, h => h
  | .r _, h => Mono.up (r := rRu K) e h
  | .n, h => h
  | .b _, h => h⟩
instance : Frz K (rDm K) := ⟨fun {H H' v d} e h => match d, h with
  | .s _, h => h
  | .r _, h => Frz.up (K := K) (r := rRu K) e h
  | .n, h => h
  | .b _, h => h⟩
theorem ev_Ds {x : Str} (h : Ev rS te G x) : Ev (rDm K) te G (.s x) := h.imp fun _ _ z => z
theorem ev_Dr {x : Rule} (h : Ev (rRu K) te G x) : Ev (rDm K) te G (.r x) := h.imp fun _ _ z => z
theorem ev_Db {x : Bool} (h : Ev rB te G x) : Ev (rDm K) te G (.b x) := h.imp fun _ _ z => z
def datRl : Dat K (rRu K) := datP datS (datT datS)
def encD : Dm → PyData
  | .s x => .str x
  | .r x => (datRl (K := K)).enc x
  | .n => .none
  | .b x => .bool x
def datD : Dat K (rDm K) where
  dec := inferInstance
  enc := encD (K := K)
  dep := 2
  dp := fun {H v d} h => match d, h with
    | .s _, h => by rw [show v = _ from h.1]; exact .str _
    | .r _, h => (datRl (K := K)).dp h
    | .n, h => by rw [show v = _ from h]; exact .non
    | .b _, h => by rw [show v = _ from h]; exact .bl _
  lay := fun {H v d} h => match d, h with
    | .s _, h => by simp only [PyData.canLay0, encD]; exact h.2.2
    | .r _, h => (datRl (K := K)).lay h
    | .n, _ => by simp [PyData.canLay0, encD]
    | .b _, _ => by simp [PyData.canLay0, encD]
  dpt := fun d => match d with
    | .s _ => by simp [PyData.depth, encD]
    | .r x => (datRl (K := K)).dpt x
    | .n => by simp [PyData.depth, encD]
    | .b _ => by simp [PyData.depth, encD]
  eqv := fun a b => by
    cases a with
    | s x =>
      cases b with
      | s y =>
        simp only [PyData.eqv, encD]
        by_cases h : x = y
        · subst h; simp
        · rw [decide_eq_false fun e => h (by cases e; rfl)]
          exact beq_eq_false_iff_ne.mpr h
      | r y => simp [PyData.eqv, encD, datRl, datP]
      | n => simp [PyData.eqv, encD]
      | b y => simp [PyData.eqv, encD]
    | r x =>
      cases b with
      | s y => simp [PyData.eqv, encD, datRl, datP]
      | r y =>
        have := (datRl (K := K)).eqv x y
        refine this.trans ?_
        by_cases h : x = y
        · subst h; simp
        · exact (@decide_eq_false _ ((datRl (K := K)).dec x y) h).trans (decide_eq_false fun e => h (by cases e; rfl)).symm
      | n => simp [PyData.eqv, encD, datRl, datP]
      | b y => simp [PyData.eqv, encD, datRl, datP]
    | n =>
      cases b with
      | s y => simp [PyData.eqv, encD]
      | r y => simp [PyData.eqv, encD, datRl, datP]
      | n => simp [PyData.eqv, encD]
      | b y => simp [PyData.eqv, encD]
    | b x =>
      cases b with
      | s y => simp [PyData.eqv, encD]
      | r y => simp [PyData.eqv, encD, datRl, datP]
      | n => simp [PyData.eqv, encD]
      | b y => cases x <;> cases y <;> simp [PyData.eqv, encD]
instance : DatN K (rDm K) 2 := ⟨datD, Nat.le_refl _⟩
end
def payR (fs : List (Str × Pay)) (f : Str) : Option Rule := match fs.lookup f with
  | some (.r x) => some x
  | _ => none
def PayR (fs : List (Str × Pay)) (f : Str) (x : Rule) : Prop := payR fs f = some x
theorem a_xfR {K : PySem.W.Frag} {G : Cells K} {i : Nat} {a d C : Addr} {m : Mono (rExc K a d)} {fs : List (Str × Pay)} {f : Str} {x : Rule} (h : G[i]? = some (some (.ro (rExc K a d) m fs))) (hf : PayR fs f x) : Ev (rRu K) (tXf a (.ref C) (some d) C f (tVar i)) G x := by
  unfold PayR payR at hf
  split at hf
  · rename_i y e
    cases hf
    exact (a_xf h e).imp fun _ _ z => z
  · cases hf
end
section
def nO (K : PySem.W.Frag) {β : Type} (R : Rs K β) : Rs K (Option β) where
  rep := fun H v o as => match o with
    | .none => v = .non ∧ as = []
    | .some b => R.rep H v b as
  stay := fun {H H' v o as} h x k => match o, h with
    | .none, h => h
    | .some _, h => R.stay h x k
  there := fun {H v o as} h p hp => match o, h with
    | .none, h => by rw [h.2] at hp; cases hp
    | .some _, h => R.there h p hp
section
variable {K : PySem.W.Frag} {α β : Type} {G : Cells K} {R : Rs K β} {te : TE} {b : β} {o : Option β}
theorem nw_nonO : Nw (nO K R) (tC .non) G none := fun H0 σ H E Q k => k .non H [] (Same.refl H) (fun _ h => nomatch h) ⟨rfl, rfl⟩
theorem a_nO {i : Nat} {C : Addr} {F : RF K α} {o : Option α} (h : G[i]? = some (some (.ow (nO K (nRec K C F)) o))) : Ev (rO (rRec K C F)) (tVar i) G o := fun H0 σ H E Q k => by
  obtain ⟨own, _, _, h3⟩ := E.at_
  obtain ⟨v, hv, hr⟩ := h3 i _ h
  refine ⟨v, hv, k v H (Same.refl H) ?_⟩
  cases o with
  | none => exact hr.1
  | some b => exact ⟨_, hr⟩
theorem ev_Dn0 : Ev (rDm K) (tC .non) G .n := fun H0 σ H E Q k => k _ H (Same.refl H) rfl
end
end
section
structure InsK (K : PySem.W.Frag) (C : Addr) : Prop where
  cl : Cls K C
  ha : PySem.W.findIn K (.ref C) "__class__" = some (some (.builtin "object.__class__"))
  hn : PySem.W.specialIn K (.builtin "object.__class__") "__get__" = some (some (.builtin "getset_descriptor.__get__"))
  ht : PySem.W.takesIn K (.builtin "object.__class__") = some true
  hm : PySem.W.mroIn K C (.type "object") = some true
section
variable {K : PySem.W.Frag} {G : Cells K} {α : Type} {r : Rp α} {te : TE} {z : α} {C D : Addr} {names : List Str} {b : Bool}
theorem a_isiC (h : Ev r te G z) (M : Mono r) (I : InsR K C r names) (T : InsK K C) (e : PySem.W.kitOne K (.ref C) (.ref D) = some b) : Ev rB (tCB (rIsi K) (tCons te (tCons (tC (.ref D)) tNil))) G b := fun H0 σ H E Q k =>
  h H0 σ H E _ fun v H1 e1 hv => by
    obtain ⟨a, dx, fs, ev, ha, _⟩ := I.ins hv
    subst ev
    exact ⟨.ref a, .ref D, .ref C, .ref D, b, rfl, .own D, .base (.ins ha T.cl T.ha T.hn T.ht T.hm), e, k _ H1 e1 rfl⟩
instance {A : Ra α} : NotNon (rW K A) := ⟨fun ⟨_, _, e, _⟩ z => by rw [z] at e; cases e⟩
end
end
section
def tInsCall (C : Addr) (sp : Sp) (E : XK) (tf : TE) (t : TA) : TE := fun σ H Q => tf σ H fun y H1 => ∃ a, y = V.ref a ∧ t σ H1 fun vs H2 => (∃ dx fs, H2 a = some (.ins C dx fs)) ∧ sp (V.ref a :: vs) H2 Q E
section
variable {K : PySem.W.Frag} {G : Cells K} {α β γ ρ : Type} {tf : TE} {t : TA}
theorem a_insCall {C : Addr} {names : List Str} {r : Rp α} {q : Rp γ} {x : α} {z : γ} {A : Ra β} {b : β} {m : α × β → M γ} {E : XK} (h : Ev r tf G x) (M : Mono r) (I : InsR K C r names) (hA : EvA A t G b) (e : MOk m (x, b) z) :
    Ev q (tInsCall C (spM (aC r A) q m) E tf t) G z := fun H0 σ H E1 Q k => h H0 σ H E1 _ fun v H1 e1 hv => by
  obtain ⟨a, dx, fs, ea, ha, hm⟩ := I.ins hv
  refine ⟨a, ea, hA H0 σ H1 (E1.grow e1) _ fun vs H2 e2 hvs => ⟨⟨dx, fs, e2 _ _ ha⟩, ?_⟩⟩
  rw [← ea]
  exact ⟨(x, b), z, ⟨v, vs, rfl, M.up e2 hv, hvs⟩, e, fun w H' e' hw => k w H' ((e1.trans e2).trans e') hw⟩
end
def IsPd (P : Program) (w : World) (K : PySem.W.Frag) (H : Hp) (x : V) : Prop := ∃ a ep xs, x = .ref a ∧ PdAt P w K H a ep xs
def OrV (d : V) : Option (Addr × Value) → V → Prop
  | some p, v => RelV v p.2
  | none, v => v = d
def tPGet1 (P : Program) (w : World) (K : PySem.W.Frag) (td ty : TE) : TE := fun σ H Q => td σ H fun x H1 => IsPd P w K H1 x ∧ ty σ H1 fun y H2 => PLk P w K H2 x y fun o => ∃ v, OrV .non o v ∧ Q v H2
def tPGet2 (P : Program) (w : World) (K : PySem.W.Frag) (td ty tx : TE) : TE := fun σ H Q => td σ H fun x H1 => IsPd P w K H1 x ∧ ty σ H1 fun y H2 => tx σ H2 fun z H3 => PLk P w K H3 x y fun o => ∃ v, OrV z o v ∧ Q v H3
section
variable {P : Program} {w : World} {K : PySem.W.Frag} {H0 H1 H H' : Hp} {σ : L2.St} {G G1 : Cells K} {α β γ ρ : Type} {D : Ends}
variable {td ty tx te ta tb : TE} {tt tu : TT} {t u v : TS} {r : Rp α} {x : α} {k : KP} {i j : Nat} {xs : List (KP × α)} {o : Option α}
theorem pd_found {H : Hp} {es : List PEt} {d : V} (q : A2 (Pe K (r H) H) es xs) (k : KP) (hd : rO r H d o) : ∃ v, OrV d (atKey es (kP k)) v ∧ rO r H v ((pkey xs k).or o) := by
  rcases pe_at q k with ⟨p, b, v, e1, e2, hv, rv⟩ | ⟨e1, e2⟩
  · rw [e1, e2]; exact ⟨v, rv, hv⟩
  · rw [e1, e2]; exact ⟨d, rfl, hd⟩
theorem a_pget2 (h : Ev (rPD P w K r) td G xs) (h' : Ev (rKP K) ty G k) (hx : Ev (rO r) tx G o) (M : Mono r) : Ev (rO r) (tPGet2 P w K td ty tx) G ((pkey xs k).or o) := fun H0 σ H E Q c =>
  h H0 σ H E _ fun v H1 e1 hd => ⟨by
      obtain ⟨p, ep, es, ev, hp, hs, nd, q, hz⟩ := hd
      exact ⟨p, ep, es, ev, pd_at hp hs nd q hz⟩, h' H0 σ H1 (E.grow e1) _ fun y H2 e2 hy => hx H0 σ H2 (E.grow (e1.trans e2)) _ fun d H3 e3 hz3 => by
    obtain ⟨p, ep, es, ev, hp, hs, nd, q, hz⟩ := (inferInstance : Mono (rPD P w K r)).up (e2.trans e3) hd
    obtain ⟨b, ey, hb, ok⟩ := key_to hy
    obtain ⟨v', h1, h2⟩ := pd_found q k hz3
    exact ⟨p, ep, es, b, kP k, ev, pd_at hp hs nd q hz, ey, ext_same e3 _ _ hb, v', h1, c v' H3 ((e1.trans e2).trans e3) h2⟩⟩
theorem a_pget1 (h : Ev (rPD P w K r) td G xs) (h' : Ev (rKP K) ty G k) (M : Mono r) : Ev (rO r) (tPGet1 P w K td ty) G (pkey xs k) := fun H0 σ H E Q c =>
  h H0 σ H E _ fun v H1 e1 hd => ⟨by
      obtain ⟨p, ep, es, ev, hp, hs, nd, q, hz⟩ := hd
      exact ⟨p, ep, es, ev, pd_at hp hs nd q hz⟩, h' H0 σ H1 (E.grow e1) _ fun y H2 e2 hy => by
    obtain ⟨p, ep, es, ev, hp, hs, nd, q, hz⟩ := (inferInstance : Mono (rPD P w K r)).up e2 hd
    obtain ⟨b, ey, hb, ok⟩ := key_to hy
    obtain ⟨v', h1, h2⟩ := pd_found (o := none) (d := .non) q k (show rO r H2 .non none from rfl)
    rw [Option.or_none] at h2
    exact ⟨p, ep, es, b, kP k, ev, pd_at hp hs nd q hz, ey, hb, v', h1, c v' H2 (e1.trans e2) h2⟩⟩
theorem a_recFpd {C : Addr} {F : RF K β} {f : Str} {get : β → List (KP × α)} {y : β} (h : Ev (rRec K C F) te G y) (fa : FldAt F f (npd P w K r) get) (c : Cls K C) (n : NoAttr K C f) (e : get y = xs) (hz : xs.length ≤ 12000000) : Ev (rPD P w K r) (tFld K te f) G xs := fun H0 σ H E Q kk =>
  h H0 σ H E _ fun v H1 e1 ⟨as, a, dx, fs, bs, ea, _, ha, hf⟩ => by
    obtain ⟨z, cs, hl, hw⟩ := fa _ _ _ _ hf
    refine ⟨a, C, dx, fs, z, ea, ha, c, n, hl, kk z H1 e1 ?_⟩
    rw [e] at hw
    obtain ⟨p, ep, es, _, ev, hp, hs, nd, q⟩ := hw
    exact ⟨p, ep, es, ev, hp, hs, nd, q.imp fun _ _ z => z.up (fun _ _ y => y.now) (ExT.refl _), hz⟩
theorem a_nOv {R : Rs K ρ} {rv : Rp ρ} {o : Option ρ} (f : ∀ H v as b, R.rep H v b as → rv H v b) (h : G[i]? = some (some (.ow (nO K R) o))) : Ev (rO rv) (tVar i) G o := fun H0 σ H E Q k => by
  obtain ⟨own, _, _, h3⟩ := E.at_
  obtain ⟨v, hv, hr⟩ := h3 i _ h
  refine ⟨v, hv, k v H (Same.refl H) ?_⟩
  cases o with
  | none => exact hr.1
  | some b => exact f _ _ _ _ hr
theorem a_nOL {o : Option (List α)} (h : G[i]? = some (some (.ow (nO K (nl K r)) o))) : Ev (rO (rL r)) (tVar i) G o := a_nOv (fun _ _ _ _ z => vw_nl z) h
end
end
section
def rVal {α : Type} (v0 : V) (r : Rp α) : Rp α := fun H v x => v = v0 ∧ r H v x
instance {α : Type} {v0 : V} {r : Rp α} [M : Mono r] : Mono (rVal v0 r) := ⟨fun e ⟨h, z⟩ => ⟨h, M.up e z⟩⟩
section
variable {K : PySem.W.Frag} {H0 : Hp} {G : Cells K} {α β γ ρ : Type} {D : Ends} {u : TS} {t0 te : TE} {i n : Nat}
theorem a_roV {v0 : V} {r : Rp α} {x : α} {M : Mono (rVal v0 r)} (h : G[i]? = some (some (.ro (rVal v0 r) M x))) : Ev r (tVar i) G x := fun H1 σ H E Q k => a_ro h H1 σ H E Q fun v H' e z => k v H' e z.2
end
end
end Gt
namespace Gt
open PySem PySem.Spec PyProof.Rows L2
section
open PySem PySem.Spec PyProof.Rows L2 PySem.W PySem.Calls PySem.HandSPX
section
variable {K : Frag} {H0 : Hp} {G : Cells K} {D : Ends} {u : TS} {te : TE}
def payL (fs : List (Str × Pay)) (f : Str) : Option (List (Option Str)) := match fs.lookup f with
  | some (.l s) => some s
  | _ => none
def payT (fs : List (Str × Pay)) (f : Str) : Option (List Str) := match fs.lookup f with
  | some (.t s) => some s
  | _ => none
def PayL (fs : List (Str × Pay)) (f : Str) (s : List (Option Str)) : Prop := payL fs f = some s
def PayT (fs : List (Str × Pay)) (f : Str) (s : List Str) : Prop := payT fs f = some s
theorem a_xfL {i : Nat} {a d C : Addr} {m : Mono (rExc K a d)} {fs : List (Str × Pay)} {f : Str} {s : List (Option Str)} (h : G[i]? = some (some (.ro (rExc K a d) m fs))) (hf : PayL fs f s) : Ev (rT K (rO rS)) (tXf a (.ref C) (some d) C f (tVar i)) G s := by
  unfold PayL payL at hf
  split at hf
  · rename_i t e
    cases hf
    exact (a_xf h e).imp fun _ _ z => z
  · cases hf
theorem a_xfT {i : Nat} {a d C : Addr} {m : Mono (rExc K a d)} {fs : List (Str × Pay)} {f : Str} {s : List Str} (h : G[i]? = some (some (.ro (rExc K a d) m fs))) (hf : PayT fs f s) : Ev (rT K rS) (tXf a (.ref C) (some d) C f (tVar i)) G s := by
  unfold PayT payT at hf
  split at hf
  · rename_i t e
    cases hf
    exact (a_xf h e).imp fun _ _ z => z
  · cases hf
end
end
section
section
variable {K : PySem.W.Frag} {G : Cells K} {α : Type} {te : TE} {r : Rp α}
theorem a2_some {H : Hp} : ∀ {vs : List V} {xs : List α}, A2 (r H) vs xs → A2 (rO r H) vs (xs.map some)
  | _, _, .nil => .nil
  | _, _, .cons h t => .cons h (a2_some t)
theorem ev_TO {xs : List α} (h : Ev (rT K r) te G xs) : Ev (rT K (rO r)) te G (xs.map some) := fun H0 σ H E Q k => h H0 σ H E Q fun v H1 e1 ⟨a, vs, e, s, z⟩ => k v H1 e1 ⟨a, vs, e, s, a2_some z⟩
def allS : List (Option α) → Option (List α)
  | [] => some []
  | none :: _ => none
  | some x :: l => (allS l).map (x :: ·)
theorem a2_all {H : Hp} : ∀ {vs : List V} {os : List (Option α)} {xs : List α}, A2 (rO r H) vs os → allS os = some xs → A2 (r H) vs xs
  | _, _, _, .nil, e => by cases e; exact .nil
  | _, none :: _, _, .cons _ _, e => by cases e
  | _, some x :: l, _, .cons h t, e => by
    have e : (allS l).map (x :: ·) = some _ := e
    cases q : allS l with
    | none => rw [q] at e; cases e
    | some ys =>
      rw [q] at e
      cases e
      exact .cons h (a2_all t q)
theorem ev_TA {os : List (Option α)} {xs : List α} (h : Ev (rT K (rO r)) te G os) (e : allS os = some xs) : Ev (rT K r) te G xs := fun H0 σ H E Q k => h H0 σ H E Q fun v H1 e1 ⟨a, vs, ev, s, z⟩ => k v H1 e1 ⟨a, vs, ev, s, a2_all z e⟩
end
end
section
def nH2 (K : PySem.W.Frag) {α β : Type} (R : Rs K α) (R' : Rs K β) : Rs K (α × β) where
  rep := fun H v x as => ∃ p a b s t, as = p :: (s ++ t) ∧ v = .ref p ∧ H p = some (.lst [a, b]) ∧ R.rep H a x.1 s ∧ R'.rep H b x.2 t
  stay := fun ⟨p, a, b, s, t, e, ev, h, z1, z2⟩ x k => ⟨p, a, b, s, t, e, ev, k p (by rw [e]; exact List.mem_cons_self ..) _ h, R.stay z1 x fun q hq => k q (by rw [e]; exact List.mem_cons_of_mem _ (List.mem_append_left _ hq)), R'.stay z2 x fun q hq => k q (by rw [e]; exact List.mem_cons_of_mem _ (List.mem_append_right _ hq))⟩
  there := fun ⟨p, a, b, s, t, e, _, h, z1, z2⟩ q hq => by
    rw [e] at hq
    rcases List.mem_cons.mp hq with y | y
    · rw [y]; exact ⟨_, h, fun z => z⟩
    · rcases List.mem_append.mp y with y | y
      · exact R.there z1 q y
      · exact R'.there z2 q y
def rH2 {α β : Type} (r : Rp α) (q : Rp β) : Rp (α × β) := fun H v x => ∃ p a b, v = .ref p ∧ H p = some (.lst [a, b]) ∧ r H a x.1 ∧ q H b x.2
instance {α β : Type} {r : Rp α} {q : Rp β} [M : Mono r] [N : Mono q] : Mono (rH2 r q) := ⟨fun e ⟨p, a, b, ev, h, h1, h2⟩ => ⟨p, a, b, ev, e _ _ h, M.up e h1, N.up e h2⟩⟩
section
variable {K : PySem.W.Frag} {α β γ δ : Type} {H0 : Hp} {G : Cells K} {D : Ends} {R : Rs K α} {R' : Rs K β} {r : Rp α} {q : Rp β} {te ta tx : TE} {i : Nat}
instance [B : Bor K R r] [B' : Bor K R' q] : Bor K (nH2 K R R') (rH2 r q) := ⟨fun ⟨p, a, b, s, t, _, ev, h, z1, z2⟩ => ⟨p, a, b, ev, h, B.look z1, B'.look z2⟩⟩
theorem a_H2 [B : Bor K R r] [B' : Bor K R' q] {x : α × β} (h : G[i]? = some (some (.ow (nH2 K R R') x))) : Ev (rH2 r q) (tVar i) G x := fun H0 σ H E Q k => by
  obtain ⟨own, _, _, h3⟩ := E.at_
  obtain ⟨v, hv, hr⟩ := h3 i _ h
  exact ⟨v, hv, k v H (Same.refl H) (Bor.look (K := K) (R := nH2 K R R') hr)⟩
variable {y : α × β}
theorem ev_g0 [M : Mono r] (h : Ev (rH2 r q) ta G y) : Ev r (tOp (rIx K) ta (tC (.int 0))) G y.1 := fun H0 σ H E Q c => h H0 σ H E _ fun v H1 e1 ⟨p, a, b, ev, hp, h1, h2⟩ => .inl ⟨p, [a, b], 0, a, ev, rfl, SqL.of hp, rfl, c a H1 e1 h1⟩
theorem ev_g1 [M : Mono q] (h : Ev (rH2 r q) ta G y) : Ev q (tOp (rIx K) ta (tC (.int 1))) G y.2 := fun H0 σ H E Q c => h H0 σ H E _ fun v H1 e1 ⟨p, a, b, ev, hp, h1, h2⟩ => .inl ⟨p, [a, b], 1, b, ev, rfl, SqL.of hp, rfl, c b H1 e1 h2⟩
theorem ixc_g0 [M : Mono r] : IxC K (rH2 r q) y (tC (.int 0)) G r y.1 := fun ta h => ev_g0 h
theorem ixc_g1 [M : Mono q] : IxC K (rH2 r q) y (tC (.int 1)) G q y.2 := fun ta h => ev_g1 h
end
section
variable {K : PySem.W.Frag} {α β γ : Type} {G G1 : Cells K} {r : Rp α} {ta tb : TE} {i : Nat}
theorem ev_LO {xs : List α} (h : Ev (rL r) ta G xs) : Ev (rL (rO r)) ta G (xs.map some) := fun H0 σ H E Q k => h H0 σ H E Q fun v H1 e1 ⟨a, vs, e, s, z⟩ => k v H1 e1 ⟨a, vs, e, s, a2_some z⟩
theorem a_inLO {xs : List α} {o : Option α} (h' : Ev (rL r) tb G xs) (h : Ev (rO r) ta G o) (M : Mono (rO r)) (DD : DatC K (rO r)) : Ev rB (tOp (rInD K) ta tb) G (memB o (xs.map some)) := a_inLD (ev_LO h') h M DD
theorem a_ninLO {xs : List α} {o : Option α} (h' : Ev (rL r) tb G xs) (h : Ev (rO r) ta G o) (M : Mono (rO r)) (DD : DatC K (rO r)) : Ev rB (tOp (rNotInD K) ta tb) G (!memB o (xs.map some)) := a_ninLD (ev_LO h') h M DD
end
section
variable {K : PySem.W.Frag} {G : Cells K} {α β : Type} {R : Rp α} {r : Rp β} {tb : TE}
theorem ixc_Og {o : Option α} {z : α} {x : β} (e : o = some z) (h : IxC K R z tb G r x) : IxC K (rO R) o tb G r x := fun ta y => h ta (ev_unsome y e)
theorem lnc_Og {o : Option α} {z : α} {n : Nat} (e : o = some z) (h : LnC K R z n) : LnC K (rO R) o n := fun G te y => h G te (ev_unsome y e)
end
end
section
structure CalH (P : Program) (w : World) (K : PySem.W.Frag) (mg : Str → Option Value) (base : Heap) (CX : CXT) (x : Str) (k : Nat) (ps : List Str) (sp : Sp) : Prop where
  ex : ∃ (f : Addr) (fd : FuncData), L2H.FnH P w K mg base CX k f fd ps sp ∧ mg x = some (.ref f) ∧ PySem.W.keepIn K (.ref f) = true ∧ Binds K fd ps []
theorem hot_suite {X : Cx} {a : Addr} {oe : Obj} {cls : Value} {d : Option Addr} {pn : List (Addr × Obj)} (hz : L2N.Zn cls d oe) (hf : ∃ vs, oe.data = .fields vs) : L2H.HotC (X.suite a ((a, oe) :: pn)) :=
  let ⟨vs, e⟩ := hf; ⟨(a, oe), ⟨rfl, vs, e, hz.2.2 vs e⟩, List.mem_cons_self⟩
theorem room_suite {X : Cx} {k : Nat} {a : Addr} {pn : List (Addr × Obj)} (hr : Room k X.A) : L2H.RoomH k (X.suite a pn).A := ⟨hr.dp, hr.un⟩
theorem callS_call {sp : Sp} {E : XK} {t : TA} : tCallS sp (fun _ => E) t = tCall sp [] E t := by
  funext σ H Q
  show t σ H _ = t σ H _
  congr 1
  funext vs H1
  rw [List.append_nil]
section
variable {X : Cx} {x : Str} {k : Nat} {ps : List Str} {sp : Sp} {p pos : Pos} {e : Expr} {es : List Expr} {t : TA}
theorem pe_fnH (C : CalH X.prog X.w X.K X.mg X.base CX0 x k ps sp) (hr : L2H.RoomH k X.A) (hc : L2H.HotC X) (ha : PA X (e :: es) t) (hg : Gl X x := by rfl) (hdb : (x == ("__debug__" : Str)) = false := by decide)
    (he : starEach (e :: es) X.env = (false, eval e X.env) :: starEach es X.env := by rfl) (hpl : (backTo pos (starEach es X.env)).any (·.1) = false := by rfl) : PE X (.Call (.Name x p) (e :: es) [] pos) (tCall sp [] E0 t) := by
  obtain ⟨f, fd, F, m, kp, b⟩ := C.ex
  rw [← callS_call]
  exact L2H.pe_callH (E := fun _ => E0) F hr hc hg m kp b (fun σ => fun _ _ _ _ _ _ h => h.elim) ha hdb he hpl
end
section
variable {P : Program} {w : World} {K : PySem.W.Frag} {mg : Str → Option Value} {base : Heap}
theorem calH_of {x : Str} {st : Stmt} {N ps : List Str} {k : Nat} {sp : Sp} (F : Df K mg x st) (S : FnScope N ps (defScope st)) (len : ∀ vs H Q E, sp vs H Q E → vs.length = ps.length)
    (hb : ∀ (kV doc pm : Value) (an : Option Addr) (cdv ct : Value) (us : List Value), us.length = ps.length → bindArgs (PySem.W.fnOf x x (defArgs st) (defBody st) (defScope st) .none kV doc pm an cdv ct) ⟨us, []⟩ = pure (ps.zip us))
    (hbody : ∀ (cdv : Value) (f : Addr) (A : Around) (outer : List PySem.Env) (s : Shared) (H : Hp) (vs : List V) (Q : VK) (E : XK) (p : Addr × Obj), L2H.HotC (L2H.cxH CX0 P w K mg base N x (defScope st) f cdv A outer s H E p) → L2H.RoomH k (A.deeper (envOfC x (defScope st) s.heap.objs.size f cdv)) → sp vs H Q E →
      ∃ t, PSs (L2H.cxH CX0 P w K mg base N x (defScope st) f cdv A outer s H E p) (defBody st) t ∧ t { nx := fun _ H' => Q .non H', rt := Q } (start N vs) H) : CalH P w K mg base CX0 x (k + 1) ps sp := by
  obtain ⟨f, fd, F, g⟩ := F.ex
  have hk := F.kp
  have hbi := F.binds hb
  obtain ⟨oc, od, kV, doc, pm, an, cdv, ct, osl, rfl, lk, hcd⟩ := F.ex
  exact ⟨f, _, L2H.fn_ofH lk hcd S len (fun A outer s H vs Q E p hot hr hsp => hbody cdv f A outer s H vs Q E p ⟨p, hot, List.mem_cons_self⟩ hr hsp), g, hk, hbi⟩
end
end
section
variable {K : PySem.W.Frag} {β : Type}
def datOT {r : Rp β} (D : Dat K r) : Dat K (rO (rT K r)) where
  dec := by have := D.dec; infer_instance
  enc := encO' (datT D).enc
  dep := D.dep + 1
  dp := fun {H v b} h => match b, h with
    | .none, h => by rw [show v = _ from h]; exact .non
    | .some _, h => (datT D).dp h
  lay := fun {H v b} h => match b, h with
    | .none, _ => by simp [PyData.canLay0, encO']
    | .some _, h => (datT D).lay h
  dpt := fun b => by
    cases b with
    | none => simp [PyData.depth, encO']
    | some b => exact (datT D).dpt b
  eqv := fun a b => by
    cases a with
    | none => cases b <;> simp [PyData.eqv, encO', datT]
    | some a =>
      cases b with
      | none => simp [PyData.eqv, encO', datT]
      | some b =>
        show PyData.eqv ((datT D).enc a) ((datT D).enc b) = _
        rw [(datT D).eqv a b]
        have := D.dec
        by_cases h : a = b
        · subst h; simp
        · have h2 : ¬ (some a : Option (List β)) = some b := fun e => h (Option.some.inj e)
          rw [@decide_eq_false _ (_) h, @decide_eq_false _ (_) h2]
instance {r : Rp β} {n : Nat} [d : DatN K r n] : DatN K (rO (rT K r)) (n + 1) := ⟨let ⟨D, h⟩ := d.ex; ⟨datOT D, Nat.succ_le_succ h⟩⟩
end
section
variable {K : PySem.W.Frag} {G : Cells K} {α β : Type} {ta tb' : TE}
theorem a_inOM {C : Addr} {names : List Str} {r : Rp α} {r' : Rp β} {x : α} {o : β} {z : Bool} {m : β × α × Unit → M Bool} {E : XK} (h : Ev r ta G x) (h' : Ev r' tb' G o) (M : Mono r) (I : InsR K C r' names) (e : MOk m (o, x, ()) z) :
    Ev rB (tOp (rOwnIn C false (spM (aC r' (aC r aN)) rB m) E) ta tb') G z := ev_op h h' fun H u v hu hv Q k => by
  obtain ⟨a, dx, fs, ea, ha, _⟩ := I.ins hv
  exact ⟨a, dx, fs, ea, ha, (o, x, ()), z, ⟨v, _, rfl, hv, u, _, rfl, hu, rfl⟩, e, fun w H' e' hw => ⟨z, hw, by rw [Bool.false_xor]; exact k (.bl z) H' e' rfl⟩⟩
theorem a_ninOM {C : Addr} {names : List Str} {r : Rp α} {r' : Rp β} {x : α} {o : β} {z : Bool} {m : β × α × Unit → M Bool} {E : XK} (h : Ev r ta G x) (h' : Ev r' tb' G o) (M : Mono r) (I : InsR K C r' names) (e : MOk m (o, x, ()) z) :
    Ev rB (tOp (rOwnIn C true (spM (aC r' (aC r aN)) rB m) E) ta tb') G (!z) := ev_op h h' fun H u v hu hv Q k => by
  obtain ⟨a, dx, fs, ea, ha, _⟩ := I.ins hv
  exact ⟨a, dx, fs, ea, ha, (o, x, ()), z, ⟨v, _, rfl, hv, u, _, rfl, hu, rfl⟩, e, fun w H' e' hw => ⟨z, hw, by rw [Bool.true_xor]; exact k (.bl (!z)) H' e' rfl⟩⟩
theorem a_nOD {i : Nat} {r : Rp α} {o : Option (List (Str × α))} (h : G[i]? = some (some (.ow (nO K (nd K r)) o))) : Ev (rO (rD r)) (tVar i) G o := a_nOv (R := nd K r) (rv := rD r) (fun _ _ _ _ z => let ⟨p, kvs, _, ev, hp, z⟩ := z; ⟨p, kvs, ev, .inl hp, z.imp fun _ _ w => ⟨w.1, w.2.now⟩⟩) h
theorem a_propR {C C' : Addr} {names : List Str} {F : RF K α} {r : Rp β} {x : β} {z : α} {m : β × Unit → M α} {ta : TE} (h : Ev r ta G x) (M : Mono r) (I : InsR K C r names) (e : MOk m (x, ()) z) : Ev (rRec K C' F) (tProp C (spMN (aC r aN) (nRec K C' F) m) [] E0 ta) G z := fun H0 σ H E Q k => h H0 σ H E _ fun v H1 e1 hv => by
  obtain ⟨a, dx, fs, ea, ha, _⟩ := I.ins hv
  subst ea
  exact ⟨a, dx, fs, rfl, ha, (x, ()), z, ⟨_, _, rfl, hv, rfl⟩, e, fun w H' as e' _ hw => k w H' (e1.trans e') ⟨as, hw⟩⟩
end
section
variable {K : PySem.W.Frag} {G : Cells K} {α : Type} {ta : TE} {r : Rp α}
theorem ev_notTL {xs : List α} (h : Ev (rL r) ta G xs) : Ev rB (tNotT K ta) G (!(!xs.isEmpty)) := fun H0 σ H E Q k => et_truL h H0 σ H E (fun c H1 => Q (.bl (!c)) H1) fun H1 e1 => k (.bl _) H1 e1 rfl
theorem ev_notTT {xs : List α} (h : Ev (rT K r) ta G xs) : Ev rB (tNotT K ta) G (!(!xs.isEmpty)) := fun H0 σ H E Q k => et_truT h H0 σ H E (fun c H1 => Q (.bl (!c)) H1) fun H1 e1 => k (.bl _) H1 e1 rfl
instance notNon_rD {r : Rp α} : NotNon (rD r) := ⟨fun ⟨_, _, e, _⟩ z => by rw [z] at e; cases e⟩
theorem a_ndp {i : Nat} {r : Rp α} {x : List (Str × α)} (h : G[i]? = some (some (.ow (nd K r) x))) : Ev (rDp r) (tVar i) G x := fun H0 σ H E Q k => by
  obtain ⟨own, _, _, h3⟩ := E.at_
  obtain ⟨v, hv, hr⟩ := h3 i _ h
  exact ⟨v, hv, k v H (Same.refl H) (let ⟨p, kvs, _, ev, hp, z⟩ := hr; ⟨p, kvs, ev, hp, z.imp fun _ _ w => ⟨w.1, w.2.now⟩⟩)⟩
end
section
variable {K : PySem.W.Frag} {H0 H1 H2 H : Hp} {G : Cells K} {α β γ ρ : Type} {D : Ends} {u : TS} {q : Rp β} {R : Rs K ρ}
theorem a_pdOO {P : Program} {w : World} {r : Rp α} {i : Nat} {o : Option (List (KP × α))} {xs : List (KP × α)} (h : G[i]? = some (some (.ow (nO K (npd P w K r)) o))) (e : o = some xs) (hz : xs.length ≤ 12000000) : Ev (rPD P w K r) (tVar i) G xs := fun H0 σ H E Q k => by
  subst e
  obtain ⟨own, _, _, h3⟩ := E.at_
  obtain ⟨v, hv, p, ep, es, _, ev, hp, hs, nd, q⟩ := h3 i _ h
  exact ⟨v, hv, k v H (Same.refl H) ⟨p, ep, es, ev, hp, hs, nd, q.imp fun _ _ z => z.up (fun _ _ y => y.now) (ExT.refl _), hz⟩⟩
theorem Nw.pd {P : Program} {w : World} {r : Rp α} {te : TE} {xs : List (KP × α)} (h : Nw (npd P w K r) te G xs) (hz : xs.length ≤ 12000000) : Ev (rPD P w K r) te G xs := fun H0 σ H E Q k => h H0 σ H E Q fun v H' _ e _ ⟨p, ep, es, _, ev, hp, hs, nd, q⟩ => k v H' e ⟨p, ep, es, ev, hp, hs, nd, q.imp fun _ _ z => z.up (fun _ _ y => y.now) (ExT.refl _), hz⟩
end
section
def rIsiP (P : Program) (w : World) (K : PySem.W.Frag) : List V → Hp → VK → Prop := fun xs H Q => ∃ (a : Addr) (ep : Nat) (es : List PEt) (c : V) (u : Value) (b : Bool), xs = [.ref a, c] ∧ ClsV c u ∧ PdAt P w K H a ep es ∧ PySem.W.kitOne K (.type "dict") u = some b ∧ Q (.bl b) H
section
variable {P : Program} {w : World} {K : PySem.W.Frag} {G : Cells K} {α : Type} {r : Rp α} {te : TE} {xs : List (KP × α)}
theorem a_isiP {T' : String} {f : Bool} (h : Ev (rPD P w K r) te G xs) (hb : kitB "dict" T' = some f) : Ev rB (tCB (rIsiP P w K) (tCons te (tCons (tC (.ty T')) tNil))) G f := fun H0 σ H E Q k =>
  h H0 σ H E _ fun v H1 e1 ⟨p, ep, es, ev, hp, hs, nd, q, hz⟩ => ⟨p, ep, es, .ty T', .type T', f, by rw [ev], .ty T', pd_at hp hs nd q hz, kit_ty hb, k _ H1 e1 rfl⟩
end
def rLenP (P : Program) (w : World) (K : PySem.W.Frag) : List V → Hp → VK → Prop := fun xs H Q => ∃ (a : Addr) (ep : Nat) (es : List PEt), xs = [.ref a] ∧ PdAt P w K H a ep es ∧ Q (.int ((es.length : Nat) : Int)) H
section
variable {P : Program} {w : World} {K : PySem.W.Frag} {G : Cells K} {α : Type} {r : Rp α} {te : TE} {xs : List (KP × α)}
theorem a_lenP (h : Ev (rPD P w K r) te G xs) : Ev rI (tCB (rLenP P w K) (tCons te tNil)) G (xs.length : Int) := fun H0 σ H E Q k =>
  h H0 σ H E _ fun v H1 e1 ⟨p, ep, es, ev, hp, hs, nd, q, hz⟩ => ⟨p, ep, es, by rw [ev], pd_at hp hs nd q hz, k _ H1 e1 (by rw [q.len]; rfl)⟩
end
end
section
def rJ (K : PySem.W.Frag) {α : Type} (A : Ra α) : Rp α := fun H v a => ∃ p vs, v = .ref p ∧ H p = some (.lst vs) ∧ A H vs a
instance {K : PySem.W.Frag} {α : Type} {A : Ra α} [M : MonoA A] : Mono (rJ K A) := ⟨fun e ⟨p, vs, ev, h, z⟩ => ⟨p, vs, ev, e _ _ h, M.up e z⟩⟩
def nJ (K : PySem.W.Frag) {α : Type} (A : Ra α) : Rs K α where
  rep := fun H v a as => ∃ p vs, as = [p] ∧ v = .ref p ∧ H p = some (.lst vs) ∧ ∀ H', ExT K H H' → A H' vs a
  stay := fun ⟨p, vs, e, ev, h, z⟩ x k => ⟨p, vs, e, ev, k p (by rw [e]; exact List.mem_singleton.mpr rfl) _ h, fun H2 y => z H2 (x.trans y)⟩
  there := fun ⟨p, vs, e, _, h, _⟩ b hb => by
    rw [e] at hb
    cases List.mem_singleton.mp hb
    exact ⟨_, h, fun z => z⟩
section
variable {K : PySem.W.Frag} {H0 H1 H H' : Hp} {σ : L2.St} {G G' : Cells K} {α β γ : Type} {D : Ends} {u : TS} {A : Ra α} {a : α} {n i : Nat} {tl : TA} {te : TE} {gs : TGs} {R : Rs K β} {b : β} {rv : Rp β}
theorem vw_nJ {v : V} {as : List Addr} (h : (nJ K A).rep H v a as) : rJ K A H v a := let ⟨p, vs, _, ev, hp, z⟩ := h; ⟨p, vs, ev, hp, z H (ExT.refl H)⟩
end
end
section
def rAt {α : Type} (Hb : Hp) (r : Rp α) : Rp α := fun _ v x => r Hb v x
instance {α : Type} {Hb : Hp} {r : Rp α} : Mono (rAt Hb r) := ⟨fun _ h => h⟩
end
section
section
variable {P : Program} {w : World} {K : PySem.W.Frag} {H0 H1 H H' : Hp} {σ : L2.St} {G G' : Cells K} {α β γ : Type} {D : Ends} {u : TS} {te ta tb : TE} {r : Rp α} {R : Rs K β} {R' : Rs K β} {b : β} {i : Nat}
theorem a_ndR {xss : List (Str × List α)} (h : G[i]? = some (some (.ow (ndR K (nl K r)) xss))) : Ev (rD (rL r)) (tVar i) G xss := (pl_var h).ev fun _ _ _ z => vw_ndR (fun _ _ _ _ z => vw_nl z) z
instance {r : Rp α} [M : Ulk r] : Ulk (rEi K r) := ⟨fun e ⟨a, vs, ev, h, q⟩ => ⟨a, vs, ev, h.imp (fun h => tgl_at e h (fun _ z => nomatch z) (fun _ _ z => nomatch z)) ((tgl_ext e).d _ _), q.imp fun _ _ z => M.up e z⟩⟩
def npz (P : Program) (w : World) (K : PySem.W.Frag) {α : Type} (r : Rp α) : Rs K (List (KP × α)) where
  rep := fun H v xs as => (npd P w K r).rep H v xs as ∧ xs.length ≤ 12000000
  stay := fun ⟨h, z⟩ x k => ⟨(npd P w K r).stay h x k, z⟩
  there := fun ⟨h, _⟩ => (npd P w K r).there h
theorem vw_npd {xs : List (KP × α)} {v : V} {as : List Addr} (h : (npd P w K r).rep H v xs as) (hz : xs.length ≤ 12000000) : rPD P w K r H v xs :=
  let ⟨p, ep, es, _, ev, hp, hs, nd, q⟩ := h
  ⟨p, ep, es, ev, hp, hs, nd, q.imp fun _ _ z => z.up (fun _ _ y => y.now) (ExT.refl _), hz⟩
theorem vw_npz {xs : List (KP × α)} {v : V} {as : List Addr} (h : (npz P w K r).rep H v xs as) : rPD P w K r H v xs := vw_npd h.1 h.2
theorem a_nlRz {xss : List (List (KP × α))} (h : G[i]? = some (some (.ow (nlR K (npz P w K r)) xss))) : Ev (rL (rPD P w K r)) (tVar i) G xss := (pl_var h).ev fun _ _ _ z => vw_nlR (fun _ _ _ _ z => vw_npz z) z
end
end
section
section
variable {P : Program} {w : World} {K : PySem.W.Frag} {H0 H1 H2 H H' : Hp} {σ : L2.St} {G G' : Cells K} {α β γ : Type} {D : Ends} {u : TS} {te ta tb : TE} {r : Rp α} {R : Rs K β} {b : β} {i : Nat} {x : α}
def rPin {α : Type} (v0 : V) (b0 : α) : Rp α := fun _ v b => v = v0 ∧ b = b0
instance {v0 : V} {b0 : α} : Frz K (rPin v0 b0) := ⟨fun _ h => h⟩
instance {v0 : V} {b0 : α} : Mono (rPin v0 b0) := ⟨fun _ h => h⟩
def spInitM (K : PySem.W.Frag) (C : Addr) (F : RF K β) (A : Ra α) (m : α → M β) : Sp := fun vs H Q E => ∃ p dx ws a H1, vs = .ref p :: ws ∧ Same H1 H ∧ H1 p = none ∧ ExT K H1 H ∧ H p = some (.ins C dx []) ∧ A H1 ws a ∧ NStk (m a) ∧
  (∀ b, m a = .ok b → ∀ H', Same H1 H' → rRec K C F H' (.ref p) b → Q .non H') ∧
  ∀ x fs, m a = .error (.ex x fs) → ∀ d H', Same H1 H' → H1 d = none → XR K H' d fs → E (.ref (cA K x)) (some d) H'
theorem ev_mkM {C : Addr} {F : RF K β} {A : Ra α} {a : α} {m : α → M β} {b : β} {E' : L2.St → XK} {tq : TA} (hA : EvA A tq G a) (M : MonoA A) (e : MOk m a b) : Ev (rRec K C F) (tMakeS C (spInitM K C F A m) E' tq) G b := fun H0 σ H E Q k =>
  hA H0 σ H E _ fun vs H2 e2 hvs x dx hx hdx hne => by
    have e : m a = .ok b := e
    have s1 : Same H2 (upd (upd H2 dx (.own x)) x (.ins C dx [])) := same_made hx hdx
    refine ⟨x, dx, vs, a, H2, rfl, s1, hx, ext_same s1, upd_same, hvs, nstk_ok e, fun b' hb H' s2 hr => ⟨rfl, ?_⟩, fun y fs hy => by rw [e] at hy; cases hy⟩
    rw [e] at hb
    cases hb
    exact k _ H' (e2.trans s2) hr
def tArgD (d : Addr) (t : TA) : TA := fun σ H Q => t σ H fun vs H1 => Q (vs ++ [.ref d]) H1
theorem ea_argD1 {t : TA} {q : Rp γ} {d : Addr} (hd : NilT K d) (h : EvA (aC r aN) t G (x, ())) : EvA (aC r (aC (rEi K q) aN)) (tArgD d t) G (x, (([] : List γ), ())) := fun H0 σ H E Q k => by
  obtain ⟨o, n, h1, h0, h2, h3⟩ := hd
  exact h H0 σ H E _ fun vs H1 e1 ⟨v, ws, ev, hv, ew⟩ => k _ H1 e1 ⟨v, [.ref d], by rw [ev, show ws = [] from ew]; rfl, hv, .ref d, [], rfl, ⟨d, [], rfl, .inr (.inr ⟨o, #[], n, h1, h0, h2, h3, Nat.zero_le _, .nil⟩), .nil⟩, rfl⟩
def rNisB : R2 := fun x y H Q => ∃ a b, x = .bl a ∧ y = .bl b ∧ Q (.bl (!decide (a = b))) H
theorem a_nisB {a b : Bool} (h : Ev rB ta G a) (h' : Ev rB tb G b) : Ev rB (tOp rNisB ta tb) G (!(decide (a = b))) := ev_op h h' fun H u v hu hv Q k => ⟨a, b, hu, hv, k _ H (Same.refl H) rfl⟩
inductive FrzAll {K : PySem.W.Frag} : Cells K → Cells K → Prop
  | nil : FrzAll [] []
  | drop {c : Option (Cell K)} {G G' : Cells K} : FrzAll G G' → FrzAll (c :: G) (none :: G')
  | fz {β : Type} {r : Rp β} {b : β} {G G' : Cells K} : FrzAll G G' → FrzAll (fc r b :: G) (fc r b :: G')
  | ro {β : Type} {r : Rp β} {m : Mono r} {b : β} {G G' : Cells K} : FrzAll G G' → FrzAll (some (.ro r m b) :: G) (some (.ro r m b) :: G')
  | ow {β : Type} {R : Rs K β} {b : β} {rv : Rp β} {M : Mono rv} {G G' : Cells K} (f : ∀ H v as, R.rep H v b as → rv H v b) : FrzAll G G' → FrzAll (some (.ow R b) :: G) (some (.ro rv M b) :: G')
theorem FrzAll.len : ∀ {G G' : Cells K}, FrzAll G G' → G.length = G'.length
  | _, _, .nil => rfl
  | _, _, .drop h => by rw [List.length_cons, List.length_cons, h.len]
  | _, _, .fz h => by rw [List.length_cons, List.length_cons, h.len]
  | _, _, .ro h => by rw [List.length_cons, List.length_cons, h.len]
  | _, _, .ow _ h => by rw [List.length_cons, List.length_cons, h.len]
theorem FrzAll.get : ∀ {G G' : Cells K}, FrzAll G G' → ∀ {i : Nat} {c' : Cell K}, G'[i]? = some (some c') → ∃ c, G[i]? = some (some c) ∧ ∀ (H1 H : Hp) (v : V) (as : List Addr), Same H1 H → c.ok H1 H v as → c'.ok H H v []
  | _, _, .nil, i, c', e => by simp at e
  | _, _, .drop h, i, c', e => by
    cases i with
    | zero => simp at e
    | succ i => simpa using h.get (i := i) (c' := c') (by simpa using e)
  | _, _, .fz h, i, c', e => by
    cases i with
    | zero =>
      simp at e
      subst e
      exact ⟨_, rfl, fun H1 H v as s ⟨_, k⟩ => ⟨rfl, k⟩⟩
    | succ i => simpa using h.get (i := i) (c' := c') (by simpa using e)
  | _, _, .ro (m := m) h, i, c', e => by
    cases i with
    | zero =>
      simp at e
      subst e
      exact ⟨_, rfl, fun H1 H v as s ⟨_, k⟩ => ⟨rfl, m.up s k⟩⟩
    | succ i => simpa using h.get (i := i) (c' := c') (by simpa using e)
  | _, _, .ow f h, i, c', e => by
    cases i with
    | zero =>
      simp at e
      subst e
      exact ⟨_, rfl, fun H1 H v as s k => ⟨rfl, f _ _ _ k⟩⟩
    | succ i => simpa using h.get (i := i) (c' := c') (by simpa using e)
theorem ev_lstM {t : TA} {xs : List α} (h : EvA (aAll r) t G xs) (M : Mono r) (hz : xs.length ≤ 12000000) : Ev (rL r) (tLst t) G xs := fun H0 σ H E Q k =>
  h H0 σ H E _ fun vs H1 e1 z => ⟨by rw [A2.len z]; exact sz hz, fun p hp => k _ _ (e1.trans (same_new hp)) ⟨p, vs, rfl, upd_same, A2.imp (fun _ _ q => M.up (same_new hp) q) z⟩⟩
theorem ev_catM {xs ys : List α} (h : Ev (rL r) ta G xs) (h' : Ev (rL r) tb G ys) (M : Mono r) (hz : xs.length + ys.length ≤ 12000000) : Ev (rL r) (tOp rCat ta tb) G (xs ++ ys) := fun H0 σ H E Q k =>
  h H0 σ H E _ fun v Ha e ⟨p, vs, ev, hp, z⟩ => h' H0 σ Ha (E.grow e) _ fun y Hb e' ⟨p', vs', ev', hp', z'⟩ =>
    ⟨p, p', vs, vs', ev, ev', e' _ _ hp, hp', by rw [z.len, z'.len]; exact sz hz, fun l hl => k _ _ ((e.trans e').trans (same_new hl)) ⟨l, _, rfl, upd_same, A2.app (z'.imp fun _ _ w => M.up (same_new hl) w) (z.imp fun _ _ w => M.up (e'.trans (same_new hl)) w)⟩⟩
theorem ev_slM {xs : List α} {lo hi : Option Int} {tl th : TO} (h : Ev (rL r) ta G xs) (hl : EvO tl G lo) (hh : EvO th G hi) (M : Mono r) : Ev (rL r) (tSl (rSlL K) ta tl th) G (cut xs lo hi) := fun H0 σ H E Q k =>
  h H0 σ H E _ fun v H1 e1 ⟨p, vs, ev, hp, z⟩ => hl H0 σ H1 (E.grow e1) _ fun H2 e2 => hh H0 σ H2 (E.grow (e1.trans e2)) _ fun H3 e3 =>
    ⟨p, vs, ev, SqL.of (e3 _ _ (e2 _ _ hp)), fun l hn => k _ _ (((e1.trans e2).trans e3).trans (same_new hn)) ⟨l, _, rfl, upd_same, (cut_A2 z lo hi).imp fun _ _ q => M.up ((e2.trans e3).trans (same_new hn)) q⟩⟩
end
theorem a_nOe {K : PySem.W.Frag} {G : Cells K} {ρ : Type} {R : Rs K ρ} {rv : Rp ρ} {o : Option ρ} {te : TE} (f : ∀ H v as b, R.rep H v b as → rv H v b) (h : Nw (nO K R) te G o) : Ev (rO rv) te G o := fun H0 σ H E Q k => h H0 σ H E Q fun v H' as e hn z => k v H' e (match o, z with
  | none, z => z.1
  | some _, z => f _ _ _ _ z)
theorem a_nOeL {K : PySem.W.Frag} {G : Cells K} {α : Type} {r : Rp α} {o : Option (List α)} {te : TE} (h : Nw (nO K (nl K r)) te G o) : Ev (rO (rL r)) te G o := a_nOe (fun _ _ _ _ z => vw_nl z) h
end
section
theorem mb_chk {β : Type} {p : Prop} [Decidable p] {f : Unit → M β} {b : β} (h : mb (chk (decide p)) f = .ok b) : p ∧ f () = .ok b := by
  obtain ⟨u, h1, h2⟩ := mb_ok h
  exact ⟨of_decide_eq_true (chk_ok h1), h2⟩
theorem rtF {K : PySem.W.Frag} {β : Type} {r : Rp β} {H : Hp} {b : β} {Q : VK} (k : ∀ v H', Same H H' → r H' v b → Q v H') : RtOk (fz K r) H b { nx := fun _ H' => Q .non H', rt := Q } := fun v H' ⟨as, s, n, z⟩ => k v H' s z.2.now
theorem nxI {K : PySem.W.Frag} (H0 : Hp) {G : Cells K} : Nx H0 G (Have H0 G) := fun _ _ z => z
theorem hL {K : PySem.W.Frag} {H0 : Hp} {G G' : Cells K} {P : L2.St → Hp → Prop} (h : ∀ σ H, Have H0 G' σ H → P σ H) (s : Sub G G') : ∀ σ H, Have H0 G σ H → P σ H := fun σ H hv => h σ H (hv.less s)
theorem _root_.L2.Room.m {n m : Nat} {A : Around} (h : Room n A) (le : m ≤ n := by decide) : Room m A := h.mono le
theorem pa1 {X : Cx} {e : Expr} {te : TE} (h : PE X e te) (hs : starEach [e] X.env = (false, eval e X.env) :: starEach [] X.env := by rfl) : PA X [e] (tCons te tNil) := pa_cons h pa_nil hs
theorem pgN (i : Nat) {X : Cx} {x : Str} {pos : Pos} (hN : X.N.Nodup) (hi : X.N[i]? = some x := by rfl) (hx : Loc X.env.scope x := by first | exact Or.inl rfl | exact Or.inr rfl) (hf : X.fn x = true ∨ X.env.scope.names.lookup x = some .local := by first | exact .inl rfl | exact .inr rfl | assumption) : PG X (.Name x pos) (gName i) := pg_name hN hi hx hf
theorem psS (i : Nat) {X : Cx} {x : Str} {e : Expr} {te : TE} {pos pos' : Pos} (hN : X.N.Nodup) (he : PE X e te) (hi : X.N[i]? = some x := by rfl) (hx : Loc X.env.scope x := by first | exact Or.inl rfl | exact Or.inr rfl) (hs : swapsWith e (some (.Name x pos')) pos.line X.env = pure false := by rfl) (hf : X.fn x = true ∨ X.env.scope.names.lookup x = some .local := by first | exact .inl rfl | exact .inr rfl | assumption) :
    PS X (.Assign [.Name x pos'] e pos) (tAsg te (gName i)) := ps_set hN hi hx he hs hf
end
section
section
variable {K : PySem.W.Frag} {H0 H1 H2 H H' : Hp} {σ : L2.St} {G G' : Cells K} {α β : Type} {te ta tb : TE} {r : Rp α} {R : Rs K α} {i : Nat}
def nTR (K : PySem.W.Frag) {β : Type} (R : Rs K β) : Rs K (List β) where
  rep := fun H v xs as => ∃ a vs ss, as = ss.flatten ∧ v = .ref a ∧ SqD K H a vs ∧ A3 (R.rep H) vs xs ss
  stay := by
    rintro H H' v b as ⟨p, vs, ss, e, ev, h, z⟩ x k
    refine ⟨p, vs, ss, e, ev, x.d _ _ h, z.imp fun a b s hs w => ?_⟩
    exact R.stay w x fun q hq => k q (by rw [e]; exact List.mem_flatten.mpr ⟨s, hs, hq⟩)
  there := fun {H v b as} ⟨p, vs, ss, e, _, h, z⟩ q hq => by
    rw [e] at hq
    obtain ⟨k, s, hs, hq⟩ := flat_mem hq
    have hl : k < b.length := by rw [← z.lens]; exact (List.getElem?_eq_some_iff.mp hs).1
    obtain ⟨a, s', _, h3, h4⟩ := z.get (List.getElem?_eq_getElem hl)
    rw [hs] at h3
    cases h3
    exact R.there h4 q hq
instance {C : Addr} {F : RF K α} : Bor K (nTR K (nRec K C F)) (rT K (rRec K C F)) := ⟨fun ⟨a, vs, ss, _, ev, hp, z⟩ => ⟨a, vs, ev, hp, z.two.imp fun _ _ ⟨s, w⟩ => ⟨s, w⟩⟩⟩
def rEiV (K : PySem.W.Frag) {β : Type} (vs0 : List V) (r : Rp β) : Rp (List β) := fun H v xs => (∃ a, v = .ref a ∧ (H a = some (.lst vs0) ∨ SqD K H a vs0)) ∧ A2 (r H) vs0 xs
instance {vs0 : List V} [M : Mono r] : Mono (rEiV K vs0 r) := ⟨fun e ⟨⟨a, ev, h⟩, q⟩ => ⟨⟨a, ev, h.imp (e _ _) ((ext_same e).d _ _)⟩, q.imp fun _ _ z => M.up e z⟩⟩
def rTv (K : PySem.W.Frag) {β : Type} (vs0 : List V) (xs0 : List β) : Rp (List β) := fun H v xs => xs = xs0 ∧ ∃ a, v = .ref a ∧ SqD K H a vs0
instance {vs0 : List V} {xs0 : List β} : Frz K (rTv K vs0 xs0) := ⟨fun x ⟨e, a, ev, h⟩ => ⟨e, a, ev, x.d _ _ h⟩⟩
instance {vs0 : List V} {xs0 : List β} : Mono (rTv K vs0 xs0) := ⟨fun x ⟨e, a, ev, h⟩ => ⟨e, a, ev, (ext_same x).d _ _ h⟩⟩
end
theorem ev_newH1 {K : PySem.W.Frag} {α β : Type} {G : Cells K} {te : TE} {R : Rs K α} {R' : Rs K β} {q : Rp β} {x : α × β} (h : Nw (nH2 K R R') te G x) (B' : Bor K R' q) (M : Mono q) : Ev q (tOp (rIx K) te (tC (.int 1))) G x.2 := fun H0 σ H E Q c => h H0 σ H E _ fun v H1 as e1 _ ⟨p, a, b, s, t, _, ev, hp, _, h2⟩ => .inl ⟨p, [a, b], 1, b, ev, rfl, SqL.of hp, rfl, c b H1 e1 (B'.look h2)⟩
end
end Gt
namespace HotX
open PySem PySem.Spec PyProof.Rows
section
variable {prog : Program} {w : World} {A : Around} {E : Value → Shared → Prop} {s : Shared}
theorem pyNext_list_end_hot {jt l x1 : Addr} {i : Nat} {its : Array Value} {Q : Option Value → Shared → Prop} (hot : HotAt A x1 s.heap) (hne : x1 ≠ jt)
    (hjt : s.heap.IsListIter jt l i) (hlv : s.heap.IsList l its) (hxi : its[i]? = none)
    (hqq : ∀ h', Heap.ExtBut jt s.heap h' → Q none { s with heap := h' }) : wpAny (model prog w) A (pyNext (.ref jt)) Q E s := by
  obtain ⟨o, hjo, hjc, hjd⟩ := id hjt
  obtain ⟨olv, hlo, _, nl, hld⟩ := hlv
  obtain ⟨hh, o1, vs1, h1, d1, c1⟩ := hot
  unfold pyNext
  refine wpAny_bind (wpAny_attempt (wpAny_callSpecial?_slot (name := Str.ofString "__next__") hjt.typeIs slot_listiter_next
    (wpAny_call_entry slot_listiter_next hjt.typeIs entry_listiter_next ?_ (args_listiter_next _))))
  show wpAny _ _ (field (.ref jt) 0 >>= _) _ _ s
  refine wpAny_bind (wpAny_field hjo hjd (x := .ref l) rfl ?_)
  show wpAny _ _ (if (Value.ref l == Value.none) = true then _ else _) _ _ s
  rw [if_neg (show ¬ ((Value.ref l == Value.none) = true) from Bool.false_ne_true)]
  show wpAny _ _ (field (.ref jt) 1 >>= _) _ _ s
  refine wpAny_bind (wpAny_field hjo hjd (x := .int i 0) rfl ?_)
  show wpAny _ _ (seqItems? (.ref l) >>= _) _ _ s
  refine wpAny_bind (wpAny_seqItems hlo hld ?_)
  simp only [Int.toNat_natCast, hxi]
  refine wpAny_bind (wpAny_rule (wpAny_bind (wpAny_setField hjo hjd (by simp) ?_)))
  show wpAny _ _ (newExc (.type "StopIteration") [] >>= _) _ _ _
  refine wpAny_bind ?_
  simp only [newExc, newTuple]
  refine wpAny_bind (wpAny_newObj_type ?_ (by size_fits))
  refine wpAny_bind (m := firstArgMember _ _) (wpAny_of_eq (a := Value.none) (by first | rfl | (simp only [firstArgMember]; rfl)) ?_)
  refine wpAny_newObj_type ?_ (by size_fits)
  have h1u : (s.heap.update jt (Obj.mapFields fun x => x.setIfInBounds 0 Value.none)).get? x1 = some o1 := (Heap.SameBut.update s.heap jt _).extBut x1 o1 hne h1
  refine raiseNew_hot ⟨hh, o1, vs1, Heap.get?_push_of_some _ (Heap.get?_push_of_some _ h1u), d1, c1⟩ (Nat.ne_of_lt (Heap.lt_size (Heap.get?_push_of_some _ h1u))) (Heap.get?_push_size _ rfl) rfl (by first | (simp; done) | (simp; omega) | (simp only [Array.size_append]; simp; omega)) ?_
  refine wpAny_bind (wpAny_isInstance (T := "StopIteration") (b := true) ⟨_, Heap.get?_update_self _ (Heap.get?_push_size _ rfl) rfl, rfl⟩ isSubtype_stop ?_)
  refine wpAny_pure (hqq _ fun b o hb e => ?_)
  have eu : (s.heap.update jt (Obj.mapFields fun x => x.setIfInBounds 0 Value.none)).get? b = some o := (Heap.SameBut.update s.heap jt _).extBut b o hb e
  rw [Heap.get?_update_other _ _ (Nat.ne_of_gt (Heap.lt_size (Heap.get?_push_of_some _ eu)))]
  exact Heap.get?_push_of_some _ (Heap.get?_push_of_some _ eu)
theorem pyNext_tuple_end_hot {jt l x1 : Addr} {i : Nat} {its : Array Value} {Q : Option Value → Shared → Prop} (hot : HotAt A x1 s.heap) (hne : x1 ≠ jt)
    (hjt : s.heap.IsTupleIter jt l i) (hlv : s.heap.IsTuple l its) (hxi : its[i]? = none)
    (hqq : ∀ h', Heap.ExtBut jt s.heap h' → Q none { s with heap := h' }) : wpAny (model prog w) A (pyNext (.ref jt)) Q E s := by
  obtain ⟨o, hjo, hjc, hjd⟩ := id hjt
  obtain ⟨olv, hlo, _, nl, hld⟩ := hlv
  obtain ⟨hh, o1, vs1, h1, d1, c1⟩ := hot
  unfold pyNext
  refine wpAny_bind (wpAny_attempt (wpAny_callSpecial?_slot (name := Str.ofString "__next__") hjt.typeIs F.slot_tuple_iterator_next
    (wpAny_call_entry F.slot_tuple_iterator_next hjt.typeIs F.entry_tuple_iterator_next ?_ (F.args_tuple_iterator_next_1 _))))
  show wpAny _ _ (field (.ref jt) 0 >>= _) _ _ s
  refine wpAny_bind (wpAny_field hjo hjd (x := .ref l) rfl ?_)
  show wpAny _ _ (if (Value.ref l == Value.none) = true then _ else _) _ _ s
  rw [if_neg (show ¬ ((Value.ref l == Value.none) = true) from Bool.false_ne_true)]
  show wpAny _ _ (field (.ref jt) 1 >>= _) _ _ s
  refine wpAny_bind (wpAny_field hjo hjd (x := .int i 0) rfl ?_)
  show wpAny _ _ (seqItems? (.ref l) >>= _) _ _ s
  refine wpAny_bind (wpAny_seqItems hlo hld ?_)
  simp only [Int.toNat_natCast, hxi]
  refine wpAny_bind (wpAny_rule (wpAny_bind (wpAny_setField hjo hjd (by simp) ?_)))
  show wpAny _ _ (newExc (.type "StopIteration") [] >>= _) _ _ _
  refine wpAny_bind ?_
  simp only [newExc, newTuple]
  refine wpAny_bind (wpAny_newObj_type ?_ (by size_fits))
  refine wpAny_bind (m := firstArgMember _ _) (wpAny_of_eq (a := Value.none) (by first | rfl | (simp only [firstArgMember]; rfl)) ?_)
  refine wpAny_newObj_type ?_ (by size_fits)
  have h1u : (s.heap.update jt (Obj.mapFields fun x => x.setIfInBounds 0 Value.none)).get? x1 = some o1 := (Heap.SameBut.update s.heap jt _).extBut x1 o1 hne h1
  refine raiseNew_hot ⟨hh, o1, vs1, Heap.get?_push_of_some _ (Heap.get?_push_of_some _ h1u), d1, c1⟩ (Nat.ne_of_lt (Heap.lt_size (Heap.get?_push_of_some _ h1u))) (Heap.get?_push_size _ rfl) rfl (by first | (simp; done) | (simp; omega) | (simp only [Array.size_append]; simp; omega)) ?_
  refine wpAny_bind (wpAny_isInstance (T := "StopIteration") (b := true) ⟨_, Heap.get?_update_self _ (Heap.get?_push_size _ rfl) rfl, rfl⟩ isSubtype_stop ?_)
  refine wpAny_pure (hqq _ fun b o hb e => ?_)
  have eu : (s.heap.update jt (Obj.mapFields fun x => x.setIfInBounds 0 Value.none)).get? b = some o := (Heap.SameBut.update s.heap jt _).extBut b o hb e
  rw [Heap.get?_update_other _ _ (Nat.ne_of_gt (Heap.lt_size (Heap.get?_push_of_some _ eu)))]
  exact Heap.get?_push_of_some _ (Heap.get?_push_of_some _ eu)
end
end HotX
namespace L2H
open PySem PySem.Spec PyProof.Rows L2 HotX
theorem HotC.atF {X : Cx} {pins : List (Addr × Obj)} {σ : St} {H : Hp} {s : Shared} {it : Addr} (c : HotC X) (I : Inv X pins σ H s) (f : FpOk X pins H it) : ∃ x1, HotAt X.A x1 s.heap ∧ x1 ≠ it := by
  obtain ⟨p, ⟨hh, v1, e1, c1⟩, hp⟩ := c
  exact ⟨p.1, ⟨hh, p.2, v1, (I.pin p (List.mem_append_left _ hp)).1, e1, c1⟩, f.2.2.2.2.2 p (List.mem_append_left _ hp)⟩
theorem turn_listH {P : Program} {w : World} {K : PySem.W.Frag} {tg : Expr} (a it : Addr) : TurnH P w K tg (Itl K a) [it] it (fun i h => h.IsListIter it a i) where
  mem := by simp
  obj := fun i h stn b hbm => by
    have e : b = it := by simpa using hbm
    subst e
    obtain ⟨o, e, c, d⟩ := stn
    exact ⟨o, e, fun v z => by rw [d] at z; cases z⟩
  keep := fun i h h' stn k => stn.at fun o e => k it (by simp) o e
  item := by
    intro X ep ew eK hc i pins s σ H E I hfp stn hgo
    subst ep ew eK
    obtain ⟨xs, x, hsq, hxi⟩ := hgo
    obtain ⟨vls, rvs, p, hzs⟩ := I.list hsq
    obtain ⟨u, hui, rui⟩ := rvs.get hxi
    obtain ⟨k0, k1, k2, k3, k4, k5⟩ := hfp it (by simp)
    refine wpAny_pyNext_list_item stn p.isList (x := u) (by simpa using hui) fun h' st' sbt => ?_
    have J1 : Inv X pins σ H { s with heap := h' } := I.turned (t' := s.toks) (fun b o hbm e => (sbt.2 b hbm).trans e) k0 k1 k3 k4 k5
    obtain ⟨o, e, c, d⟩ := id st'
    exact ⟨u, rfl, go_of (s := { s with heap := h' }) e c d (by decide) ⟨x, H, J1, rui, ⟨rfl, fun ys hy => by rw [I.list_inj hy hsq]; exact hxi⟩, st', fun b hbm => (hfp b hbm).1⟩⟩
  done := by
    intro X ep ew eK hc i pins s σ H E I hfp stn hgo
    subst ep ew eK
    obtain ⟨xs, hsq, hxi⟩ := hgo
    obtain ⟨vls, rvs, p, hzs⟩ := I.list hsq
    obtain ⟨k0, k1, k2, k3, k4, k5⟩ := hfp it (by simp)
    have hl := rvs.length
    obtain ⟨x1, hot, hne⟩ := hc.atF I (hfp it (by simp))
    exact pyNext_list_end_hot hot hne stn p.isList (by simp; omega) fun h' eb => ⟨rfl, I.turned (t' := s.toks) (fun b o hbm e => eb b o hbm e) k0 k1 k3 k4 k5⟩
  self := fun _ _ _ _ _ stn h => wpAny_pyIter_listiter stn h
theorem turn_tupleH {P : Program} {w : World} {K : PySem.W.Frag} {tg : Expr} (a it : Addr) : TurnH P w K tg (Itt K a) [it] it (fun i h => h.IsTupleIter it a i) where
  mem := by simp
  obj := fun i h stn b hbm => by
    have e : b = it := by simpa using hbm
    subst e
    obtain ⟨o, e, c, d⟩ := stn
    exact ⟨o, e, fun v z => by rw [d] at z; cases z⟩
  keep := fun i h h' stn k => stn.at fun o e => k it (by simp) o e
  item := by
    intro X ep ew eK hc i pins s σ H E I hfp stn hgo
    subst ep ew eK
    obtain ⟨xs, x, hsq, hxi⟩ := hgo
    obtain ⟨vls, rvs, p, hzs⟩ := I.tuple hsq
    obtain ⟨u, hui, rui⟩ := rvs.get hxi
    obtain ⟨k0, k1, k2, k3, k4, k5⟩ := hfp it (by simp)
    refine wpAny_pyNext_tuple_item stn (show s.heap.IsTuple a vls.toArray from p) (x := u) (by simpa using hui) fun h' st' sbt => ?_
    have J1 : Inv X pins σ H { s with heap := h' } := I.turned (t' := s.toks) (fun b o hbm e => (sbt.2 b hbm).trans e) k0 k1 k3 k4 k5
    obtain ⟨o, e, c, d⟩ := id st'
    exact ⟨u, rfl, go_of (s := { s with heap := h' }) e c d (by decide) ⟨x, H, J1, rui, ⟨rfl, fun ys hy => by rw [I.tuple_inj hy hsq]; exact hxi⟩, st', fun b hbm => (hfp b hbm).1⟩⟩
  done := by
    intro X ep ew eK hc i pins s σ H E I hfp stn hgo
    subst ep ew eK
    obtain ⟨xs, hsq, hxi⟩ := hgo
    obtain ⟨vls, rvs, p, hzs⟩ := I.tuple hsq
    obtain ⟨k0, k1, k2, k3, k4, k5⟩ := hfp it (by simp)
    have hl := rvs.length
    obtain ⟨x1, hot, hne⟩ := hc.atF I (hfp it (by simp))
    exact pyNext_tuple_end_hot hot hne stn (show s.heap.IsTuple a vls.toArray from p) (by simp; omega) fun h' eb => ⟨rfl, I.turned (t' := s.toks) (fun b o hbm e => eb b o hbm e) k0 k1 k3 k4 k5⟩
  self := fun _ _ _ _ _ stn h => wpAny_pyIter_tupleiter stn h
theorem pi_tupH {X : Cx} {tg l : Expr} {tl : TE} (hl : PE X l tl) : PIH X tg l (iTup X.K tl) := by
  refine ⟨fun pins s σ H R I h => ?_⟩
  refine thn (hl.run pins s σ H _ I h) fun v s1 ⟨x, H1, J1, r1, q1⟩ => ?_
  obtain ⟨a, e, ⟨xs, hsq⟩, q⟩ := q1
  subst e
  cases r1
  obtain ⟨vls, rvs, p, hzs⟩ := J1.tuple hsq
  refine wpAny_pyIter_tuple (show s1.heap.IsTuple a vls.toArray from p) ?_
  refine ⟨s1.heap.objs.size, [s1.heap.objs.size], _, _, H1, rfl, J1.kept (t' := s1.toks) fun b o e => Heap.get?_push_of_some _ e, turn_tupleH a _, ⟨_, Heap.get?_push_size _ rfl, rfl, rfl⟩, fun b hbm => ?_, q⟩
  have e : b = s1.heap.objs.size := by simpa using hbm
  subst e
  exact J1.fpOk (Nat.le_refl _) (J1.hok.fresh (Nat.le_refl _))
theorem pi_tupHK {X : Cx} {tg l : Expr} {tl : TE} (K : PySem.W.Frag) (hl : PE X l tl) (h : X.K = K := by rfl) : PIH X tg l (iTup K tl) := by subst h; exact pi_tupH hl
end L2H
namespace Gt
open PySem PySem.Spec PyProof.Rows L2
section
open PySem PySem.Spec PyProof.Rows L2
abbrev RunT := List (Str × List Str)
abbrev ToT := (Str × RunT × Unit) ⊕ (Str × Int × Option Str × Unit)
end
section
abbrev aTo1 (K : PySem.W.Frag) : Ra (Str × RunT × Unit) := aC rS (aC (rT K (rP K rS (rT K rS))) aN)
abbrev aTo2 : Ra (Str × Int × Option Str × Unit) := aC rS (aC rI (aC (rO rS) aN))
def rTo (K : PySem.W.Frag) : Rp ToT := fun H v z => match z with
  | .inl a => rJ K (aTo1 K) H v a
  | .inr b => rJ K aTo2 H v b
instance {K : PySem.W.Frag} : Mono (rTo K) := ⟨fun {H H' v z} e h => match z, h with
  | .inl _, h => Mono.up (r := rJ K (aTo1 K)) e h
  | .inr _, h => Mono.up (r := rJ K aTo2) e h⟩
def nTo (K : PySem.W.Frag) : Rs K ToT where
  rep := fun H v z as => match z with
    | .inl a => (nJ K (aTo1 K)).rep H v a as
    | .inr b => (nJ K aTo2).rep H v b as
  stay := fun {H H' v z as} h x k => match z, h with
    | .inl _, h => (nJ K (aTo1 K)).stay h x k
    | .inr _, h => (nJ K aTo2).stay h x k
  there := fun {H v z as} h p hp => match z, h with
    | .inl _, h => (nJ K (aTo1 K)).there h p hp
    | .inr _, h => (nJ K aTo2).there h p hp
section
variable {K : PySem.W.Frag} {H0 H1 H H' : Hp} {σ : L2.St} {G G' : Cells K} {α β γ : Type} {D : Ends} {z : ToT} {i : Nat} {ta te tf : TE} {t : TA}
theorem vw_nTo {v : V} {as : List Addr} (h : (nTo K).rep H v z as) : rTo K H v z := match z, h with
  | .inl _, h => vw_nJ h
  | .inr _, h => vw_nJ h
instance : Bor K (nTo K) (rTo K) := ⟨vw_nTo⟩
def datRunT : Dat K (rT K (rP K rS (rT K rS))) := datT (datP datS (datT datS))
def encTo (K : PySem.W.Frag) : ToT → PyData
  | .inl a => .list [(datS (K := K)).enc a.1, (datRunT (K := K)).enc a.2.1]
  | .inr b => .list [(datS (K := K)).enc b.1, (datI (K := K)).enc b.2.1, (datO (K := K)).enc b.2.2.1]
def datTo : Dat K (rTo K) where
  dec := by have := (datRunT (K := K)).dec; infer_instance
  enc := encTo K
  dep := (datRunT (K := K)).dep + 1
  dp := fun {H v z} h => match z, h with
    | .inl _, ⟨p, vs, ev, hp, v1, ws, es, q1, v2, ws2, es2, q2, es3⟩ => by
      rw [ev]
      refine .lst (SqL.of hp) ?_
      rw [es, es2, show ws2 = [] from es3]
      exact .cons (datS.dp q1) (.cons (datRunT.dp q2) .nil)
    | .inr _, ⟨p, vs, ev, hp, v1, ws, es, q1, v2, ws2, es2, q2, v3, ws3, es3, q3, es4⟩ => by
      rw [ev]
      refine .lst (SqL.of hp) ?_
      rw [es, es2, es3, show ws3 = [] from es4]
      exact .cons (datS.dp q1) (.cons (datI.dp q2) (.cons (datO.dp q3) .nil))
  lay := fun {H v z} h => match z, h with
    | .inl _, ⟨p, vs, ev, hp, v1, ws, es, q1, v2, ws2, es2, q2, es3⟩ => by
      show (PyData.list _).canLay0 = true
      simp [PyData.canLay0, PyData.canLayAll0, datS.lay q1, (datRunT (K := K)).lay q2]
    | .inr _, ⟨p, vs, ev, hp, v1, ws, es, q1, v2, ws2, es2, q2, v3, ws3, es3, q3, es4⟩ => by
      show (PyData.list _).canLay0 = true
      simp [PyData.canLay0, PyData.canLayAll0, datS.lay q1, (datI (K := K)).lay q2, (datO (K := K)).lay q3]
  dpt := fun z => match z with
    | .inl a => by
      have h1 := (datS (K := K)).dpt a.1
      have h2 := (datRunT (K := K)).dpt a.2.1
      have e1 : (datS (K := K)).dep = 0 := rfl
      show (PyData.list _).depth ≤ _
      simp only [PyData.depth, PyData.depthAll]
      omega
    | .inr b => by
      have h1 := (datS (K := K)).dpt b.1
      have h2 := (datI (K := K)).dpt b.2.1
      have h3 := (datO (K := K)).dpt b.2.2.1
      have e1 : (datS (K := K)).dep = 0 := rfl
      have e2 : (datI (K := K)).dep = 0 := rfl
      have e3 : (datO (K := K)).dep = 0 := rfl
      show (PyData.list _).depth ≤ _
      simp only [PyData.depth, PyData.depthAll]
      omega
  eqv := fun a b => by
    have d1 := (datS (K := K)).eqv
    have d2 := (datRunT (K := K)).eqv
    have d3 := (datI (K := K)).eqv
    have d4 := (datO (K := K)).eqv
    have := (datRunT (K := K)).dec
    cases a with
    | inl a =>
      obtain ⟨a1, a2, _⟩ := a
      cases b with
      | inl b =>
        obtain ⟨b1, b2, _⟩ := b
        show PyData.eqv (.list _) (.list _) = _
        simp only [PyData.eqv, PyData.eqvAll, d1, d2, Bool.and_true]
        by_cases h1 : a1 = b1 <;> by_cases h2 : a2 = b2 <;> simp [h1, h2]
      | inr b =>
        show PyData.eqv (.list _) (.list _) = _
        simp [PyData.eqv, PyData.eqvAll]
    | inr a =>
      obtain ⟨a1, a2, a3, _⟩ := a
      cases b with
      | inl b =>
        show PyData.eqv (.list _) (.list _) = _
        simp [PyData.eqv, PyData.eqvAll]
      | inr b =>
        obtain ⟨b1, b2, b3, _⟩ := b
        show PyData.eqv (.list _) (.list _) = _
        simp only [PyData.eqv, PyData.eqvAll, d1, d3, d4, Bool.and_true]
        by_cases h1 : a1 = b1 <;> by_cases h2 : a2 = b2 <;> by_cases h3 : a3 = b3 <;> simp [h1, h2, h3]
instance : DatN K (rTo K) 8 := ⟨datTo, by show (datRunT (K := K)).dep + 1 ≤ 8; simp [datRunT, datT, datP, datS]⟩
end
end
end Gt
namespace L2H
open PySem PySem.Spec PyProof.Rows L2 HotX
theorem RoomH.m {n m : Nat} {A : Around} (h : RoomH n A) (le : m ≤ n := by decide) : RoomH m A := h.mono le
end L2H
namespace HotX
open PySem PySem.Spec PyProof.Rows
section
variable {prog : Program} {w : World} {A : Around} {E : Value → Shared → Prop} {s : Shared}
theorem unpackItems_hot {t x1 : Addr} {its : Array Value} {Q : List Value → Shared → Prop} (hot : HotAt A x1 s.heap) (ht : s.heap.IsTuple t its)
    (hq : ∀ h', Heap.ExtBut s.heap.objs.size s.heap h' → Q its.toList { s with heap := h' }) : wpAny (model prog w) A (unpackItems (.ref t) its.size none) Q E s := by
  obtain ⟨ol, hol, _⟩ := id ht
  have lt : t ≠ s.heap.objs.size := Nat.ne_of_lt (Heap.lt_size hol)
  obtain ⟨hh, o1, vs1, g1, d1, c1⟩ := hot
  have lx : x1 ≠ s.heap.objs.size := Nat.ne_of_lt (Heap.lt_size g1)
  unfold unpackItems
  refine wpAny_bind ?_
  unfold notIterableAtAll
  refine wpAny_bind (wpAny_specialOf ht.typeIs F.slot_tuple_iter.lookup (wpAny_pure ?_))
  simp only [Bool.false_eq_true, if_false]
  refine wpAny_bind (wpAny_holding (wpAny_pyIter_tuple ht (wpAny_bind (wpAny_holding (wpAny_draw_tuple lt its.size 0 _ _ ⟨_, Heap.get?_push_size _ rfl, rfl, rfl⟩ (ht.push _) (by omega) fun h1 it1 sb1 => ?_)))))
  rw [show List.take its.size (List.drop 0 its.toList) = its.toList by rw [List.drop_zero]; exact List.take_of_length_le (by simp)]
  rw [if_neg (by simp)]
  have ht1 : h1.IsTuple t its := (ht.push _).extBut sb1.extBut lt
  have gx : h1.get? x1 = some o1 := sb1.extBut x1 o1 lx (Heap.get?_push_of_some _ g1)
  refine wpAny_bind (wpAny_holding (pyNext_tuple_end_hot ⟨hh, o1, vs1, gx, d1, c1⟩ lx it1 ht1 (by simp) fun h2 e2 => ?_))
  simp only [Option.isSome_none, Bool.false_eq_true, if_false]
  exact wpAny_pure (hq h2 fun b o hb e => e2 b o hb (sb1.extBut b o hb (Heap.get?_push_of_some _ e)))
theorem assign_Tuple_hot {env : Env} {elts : List Expr} {c1 : Nat} {pos : Pos} {t x1 : Addr} {its : Array Value} {Q : Unit → Shared → Prop} (hot : HotAt A x1 s.heap) (ht : s.heap.IsTuple t its)
    (hn : (assignEach elts env).length = its.size) (hst : (assignEach elts env).findIdx? (·.1) = none)
    (h : ∀ h', Heap.ExtBut s.heap.objs.size s.heap h' → wpAny (model prog w) A (assignInOrder ((assignEach elts env).map (·.2)) its.toList) Q E { s with heap := h' }) :
    wpAny (model prog w) A (assign (.Tuple elts c1 pos) env (.ref t)) Q E s := by
  rw [arm_assign_Tuple]
  refine wpAny_bind (wpAny_standAt ?_)
  unfold unpack
  rw [hn, hst]
  exact wpAny_bind (wpAny_holding (unpackItems_hot hot ht h))
end
end HotX
namespace L2H
open PySem PySem.Spec PyProof.Rows L2 HotX
theorem pg_tupH {X : Cx} {es : List Expr} {k : Nat} {t : TGs} {n : Nat} {pos : Pos} (hc : HotC X) (h : PGs X es t)
    (hn : (assignEach es X.env).length = n := by rfl) (hst : (assignEach es X.env).findIdx? (·.1) = none := by rfl) : PG X (.Tuple es k pos) (gTup X.K n t) := by
  refine ⟨fun pins s σ H v u Q I r hw => ?_⟩
  obtain ⟨a, xs, e1, hq, hl, hw⟩ := hw
  subst e1
  cases r
  obtain ⟨its, rvs, ht, hz⟩ := I.tuple hq
  obtain ⟨x1, hot⟩ := hc.at I
  refine assign_Tuple_hot hot (show s.heap.IsTuple a its.toArray from ht) (by simp [hn, ← hl, rvs.length]) hst fun h' hx => ?_
  have I1 : Inv X pins σ H { s with heap := h' } := I.kept (t' := s.toks) fun b o e => hx b o (Nat.ne_of_lt (Heap.lt_size e)) e
  exact h.run pins _ σ H xs _ Q I1 (by simpa using rvs) hw
theorem pg_tupHK {X : Cx} {es : List Expr} {k n : Nat} {t : TGs} {pos : Pos} (K : PySem.W.Frag) (hc : HotC X) (ht : PGs X es t) (h : X.K = K := by rfl) (hn : (assignEach es X.env).length = n := by rfl) (hst : (assignEach es X.env).findIdx? (·.1) = none := by rfl) : PG X (.Tuple es k pos) (gTup K n t) := by subst h; exact pg_tupH hc ht hn hst
end L2H
namespace Gt
open PySem PySem.Spec PyProof.Rows L2
section
open PySem PySem.Spec PyProof.Rows L2
def two {α : Type} : List α → Option (α × α)
  | [a, b] => some (a, b)
  | _ => none
end
section
structure DatA (K : PySem.W.Frag) {α : Type} (A : Ra α) where
  dec : DecidableEq α
  encs : α → List PyData
  dep : Nat
  dp : ∀ {H : Hp} {vs : List V} {a : α}, A H vs a → DpAll K H vs (encs a)
  lay : ∀ {H : Hp} {vs : List V} {a : α}, A H vs a → PyData.canLayAll0 (encs a) = true
  dpt : ∀ a, PyData.depthAll (encs a) ≤ dep
  eqv : ∀ a b, PyData.eqvAll (encs a) (encs b) = decide (a = b)
section
variable {K : PySem.W.Frag} {α β : Type} {r : Rp α} {A : Ra β}
def datAN : DatA K aN where
  dec := inferInstance
  encs := fun _ => []
  dep := 0
  dp := fun h => by rw [show _ = [] from h]; exact .nil
  lay := fun _ => by simp [PyData.canLayAll0]
  dpt := fun _ => by simp [PyData.depthAll]
  eqv := fun _ _ => by simp [PyData.eqvAll]
def datAC (D : Dat K r) (E : DatA K A) : DatA K (aC r A) where
  dec := by have := D.dec; have := E.dec; infer_instance
  encs := fun p => D.enc p.1 :: E.encs p.2
  dep := max D.dep E.dep
  dp := fun ⟨v, ws, e, h, t⟩ => by rw [e]; exact .cons (D.dp h) (E.dp t)
  lay := fun ⟨v, ws, e, h, t⟩ => by simp [PyData.canLayAll0, D.lay h, E.lay t]
  dpt := fun b => by
    have h1 := D.dpt b.1
    have h2 := E.dpt b.2
    simp only [PyData.depthAll]
    omega
  eqv := fun a b => by
    obtain ⟨a1, a2⟩ := a
    obtain ⟨b1, b2⟩ := b
    simp only [PyData.eqvAll, D.eqv, E.eqv]
    have := D.dec; have := E.dec
    by_cases h1 : a1 = b1 <;> by_cases h2 : a2 = b2 <;> simp [h1, h2]
def datW (E : DatA K A) : Dat K (rW K A) where
  dec := E.dec
  enc := fun p => .tuple (E.encs p)
  dep := E.dep + 1
  dp := fun ⟨a, vs, ev, h, z⟩ => by rw [ev]; exact .tup h (E.dp z)
  lay := fun ⟨a, vs, ev, h, z⟩ => by simp only [PyData.canLay0]; exact E.lay z
  dpt := fun b => by simp only [PyData.depth]; have := E.dpt b; omega
  eqv := fun a b => by simp only [PyData.eqv]; exact E.eqv a b
end
class DatNA (K : PySem.W.Frag) {β : Type} (A : Ra β) (n : outParam Nat) : Prop where
  ex : ∃ D : DatA K A, D.dep ≤ n
instance {K : PySem.W.Frag} : DatNA K aN 0 := ⟨datAN, Nat.le_refl _⟩
instance {K : PySem.W.Frag} {α β : Type} {r : Rp α} {A : Ra β} {n m : Nat} [d : DatN K r n] [e : DatNA K A m] : DatNA K (aC r A) (n + m) := ⟨let ⟨D, h⟩ := d.ex; let ⟨E, h'⟩ := e.ex; ⟨datAC D E, by show max D.dep E.dep ≤ _; omega⟩⟩
instance {K : PySem.W.Frag} {β : Type} {A : Ra β} {n : Nat} [e : DatNA K A n] : DatN K (rW K A) (n + 1) := ⟨let ⟨E, h⟩ := e.ex; ⟨datW E, Nat.succ_le_succ h⟩⟩
end
section
section
variable {K : PySem.W.Frag} {H0 H1 H2 H H' : Hp} {σ : L2.St} {G G' : Cells K} {α β γ : Type} {D : Ends} {u : TS} {te ta tb : TE} {r : Rp α} {R : Rs K α} {a b : α} {i j : Nat} {x : α}
def rTop : Rp Unit := fun _ _ _ => True
instance : Frz K rTop := ⟨fun _ h => h⟩
instance : Mono rTop := ⟨fun _ h => h⟩
end
end
end Gt
namespace HotX
open PySem PySem.Spec PyProof.Rows
section
variable {prog : Program} {w : World} {A : Around} {E : Value → Shared → Prop} {s : Shared}
theorem HotAt.keep {x1 : Addr} {h h' : Heap} (z : HotAt A x1 h) (k : ∀ o, h.get? x1 = some o → h'.get? x1 = some o) : HotAt A x1 h' := by
  obtain ⟨hh, o, vs, e, d, c⟩ := z
  exact ⟨hh, o, vs, k o e, d, c⟩
end
end HotX
namespace Gt
open PySem PySem.Spec PyProof.Rows L2 GenW
section
variable {K : PySem.W.Frag} {α β S : Type}
def HaveY (q : Rp β) (H0 : Hp) (xs : List β) (G : Cells K) (ys : List V) (σ : L2.St) (H : Hp) : Prop := ∃ H1, Same H0 H1 ∧ Env H1 σ H G ∧ A2 (Stb K q H1) ys xs
def Gv (q : Rp β) (H0 : Hp) (xs : List β) (G : Cells K) (t : TGn) (D : GEnds) : Prop := ∀ ys σ H, HaveY q H0 xs G ys σ H → t D ys σ H
variable {q : Rp β} {H0 : Hp} {xs : List β} {G G' : Cells K} {t : TS} {u : TGn} {D : GEnds} {te : TE} {tc : TT} {tb tl : TGn} {wi : TI} {g : TG} {r : Rp α}
theorem HaveY.less (h0 : Sub G G') {ys : List V} {σ : L2.St} {H : Hp} (h : HaveY q H0 xs G ys σ H) : HaveY q H0 xs G' ys σ H := let ⟨H1, s, E, z⟩ := h; ⟨H1, s, E.less h0, z⟩
theorem Gv.run {σ : L2.St} (s : Gv q H0 [] G u D) (p : Pw H0 σ G) : u D [] σ H0 := s [] σ H0 ⟨H0, Same.refl H0, p.env, .nil⟩
end
end Gt
namespace L2H
open PySem PySem.Spec PyProof.Rows L2 HotX
abbrev blkH (X : Cx) (s : Shared) (H : Hp) (scope : Scope) (ce : Env) (fp : List Addr) : Cx := { X.blk s H scope ce fp with pn := X.pn }
section
variable {X Y : Cx} {pins : List (Addr × Obj)} {σ : St} {H : Hp} {s : Shared} {tg : Expr} {J : It} {fp : List Addr} {it : Addr} {tn : Nat → Heap → Prop}
theorem TurnH.back {P : Program} {w : World} {K : PySem.W.Frag} (T : TurnH P w K tg J fp it tn) {j : Nat} {s1 s' : Shared} {σ' : St} {H' : Hp} (st : tn j s1.heap) (I : Inv Y (pins ++ pinsAt fp s1.heap) σ' H' s') :
    Inv Y pins σ' H' s' ∧ tn j s'.heap ∧ ∀ b ∈ fp, H' b = none := by
  have still : ∀ b ∈ fp, ∀ o, s1.heap.get? b = some o → s'.heap.get? b = some o ∧ H' b = none := fun b hb o e => by
    have z := I.pin (b, o) (List.mem_append_right _ (List.mem_append_right _ (mem_pinsAt hb e)))
    exact ⟨z.1, z.2.1⟩
  refine ⟨I.unpinned, T.keep _ _ _ st fun b hb o e => (still b hb o e).1, fun b hb => ?_⟩
  obtain ⟨o, e, _⟩ := T.obj _ _ st b hb
  exact (still b hb o e).2
theorem TurnH.turn (T : TurnH Y.prog Y.w Y.K tg J fp it tn) (hc : HotC Y) {g : TG} (pg : PG Y tg g) (hx : Y.xe = fun _ _ => False) {i : Nat} (I : Inv Y pins σ H s) (st : tn i s.heap) (fo : ∀ b ∈ fp, FpOk Y pins H b)
    {Z : Shared → Prop} {Z2 : Unit → Shared → Prop} {E : Value → Shared → Prop}
    (h : (J.stop i H ∧ ∀ s1, Inv Y pins σ H s1 → Z s1) ∨ (J.go i H ∧ ∃ C : St → Hp → Prop, (∀ x H', J.yld i H x H' → g x σ H' C) ∧ ∀ (s7 s8 : Shared) (σ8 : St) (H8 : Hp), tn (i + 1) s7.heap → Inv Y (pins ++ pinsAt fp s7.heap) σ8 H8 s8 → C σ8 H8 → Z2 () s8)) :
    wpAny (model Y.prog Y.w) Y.A (pyNext (.ref it)) (fun r s₁ => match r with
      | none => Z s₁
      | some v => wpAny (model Y.prog Y.w) Y.A (letOwnedTupleGo tg (.ref it) v) (fun _ s₁' => wpAny (model Y.prog Y.w) Y.A (assign tg Y.env v) Z2 E s₁') E s₁) E s := by
  rcases h with ⟨stop, z⟩ | ⟨go, C, hg, z⟩
  · refine thnF (T.done Y rfl rfl rfl hc i pins s σ H (fun _ _ => False) I fo st stop) fun r s1 ⟨e, I1⟩ => ?_
    subst e
    exact z s1 I1
  · refine thnF (T.item Y rfl rfl rfl hc i pins s σ H (fun _ _ => False) I fo st go) fun r s1 ⟨u, e, h1⟩ => ?_
    subst e
    refine thnF h1 fun _ s7 ⟨x, H7, I7, r7, y7, st7, n7⟩ => ?_
    have I7' := I7.pinned (fun b hb => ⟨n7 b hb, (fo b hb).2⟩) (T.obj _ _ st7)
    have a := pg.run _ s7 σ H7 x u C I7' r7 (hg x H7 y7)
    rw [hx] at a
    exact thnF a fun _ s8 ⟨σ8, H8, I8, c8⟩ => z s7 s8 σ8 H8 st7 I8 c8
structure Opn (X : Cx) (pins : List (Addr × Obj)) (σ : St) (vs : List Nat) (scope : Scope) (fp : List Addr) (tn : Nat → Heap → Prop) (H3 : Hp) (s3 s4 : Shared) (ce : Env) : Prop where
  env : ∃ cl, ce = compEnvC scope cl s3.heap.objs.size X.env
  out : Inv X pins σ H3 s3
  ins : Inv (blkH X s3 H3 scope ce fp) [] (wipe σ vs) H3 s4
  fp : ∀ b ∈ fp, FpOk X pins H3 b ∧ b < s3.heap.objs.size
  tn : tn 0 s4.heap
variable {vs : List Nat} {scope : Scope} {H3 : Hp} {s3 s4 : Shared} {ce : Env}
theorem Opn.fo (O : Opn X pins σ vs scope fp tn H3 s3 s4 ce) {H' : Hp} (hn : ∀ b ∈ fp, H' b = none) : ∀ b ∈ fp, FpOk (blkH X s3 H3 scope ce fp) [] H' b := fun b hb =>
  ⟨hn b hb, (O.ins.ok.exf b hb).1, O.ins.ok.exfs b hb, .inl hb, (O.ins.ok.exf b hb).2, fun p hp => (O.fp b hb).1.2.2.2.2.2 p ((List.mem_append.mp hp).elim (fun q => List.mem_append_left _ q) fun q => nomatch q)⟩
theorem Opn.shut (O : Opn X pins σ vs scope fp tn H3 s3 s4 ce) {pins' : List (Addr × Obj)} {σ' : St} {H' : Hp} {s' : Shared} (I : Inv (blkH X s3 H3 scope ce fp) pins' σ' H' s') : Inv X pins σ H' s' ∧ (∃ m, s'.heap.Ns s3.heap.objs.size m) ∧ FpOk X pins H' s3.heap.objs.size := by
  obtain ⟨cl, e⟩ := O.env
  subst e
  obtain ⟨m, hn, _⟩ := I.loc
  exact ⟨O.out.call' (ch := fp) I.os I.base I.hok I.bare fun b hb => let z := (O.fp b hb).1; ⟨z.2.2.2.1, z.2.1, z.2.2.2.2.1, z.2.2.2.2.2⟩, ⟨m, hn⟩, O.out.fpOk (Nat.le_refl _) I.free⟩
theorem open_lcH {e : Expr} {gs : List Comprehension} {iter : Expr} {ifs : List Expr} {own : List (Str × Nat)} {pos' : Pos} {wi : TI} {use : Option (Value → Sem Unit)} {Qf : Value → Shared → Prop} (hcl : clausesOf e = ⟨tg, iter, ifs, 0⟩ :: gs)
    (hN : X.N.Nodup) (I : Inv X pins σ H s) (hi : PIH X tg iter wi) (ok : BlkOk X.N X.env.scope scope own) (hs : ∀ x, foldedSetIterable iter X.env x = pure x) {R : It → Hp → Prop} (h : wi σ H R)
    (k : ∀ (it : Addr) (fp : List Addr) (tn : Nat → Heap → Prop) (J : It) (H2 : Hp) (D : Addr) (s3 s4 : Shared) (ce : Env), TurnH X.prog X.w X.K tg J fp it tn → R J H2 → H2 D = none → Opn X pins σ (own.map (·.2)) scope fp tn (upd H2 D (.lst [])) s3 s4 ce →
      codeAny (model X.prog X.w) X.A (.compStart e 0 (.ref it) (.ref D) ce) (compPost (model X.prog X.w) X.A X.xe use Qf (.ref D) s3.heap.objs.size) s4) :
    wpAny (model X.prog X.w) X.A (comprehension e scope X.env pos' (newList []) false (eval iter X.env) use) Qf X.xe s := by
  refine wpAny_comprehension_free hcl hs (closure_ok fun y hy q => (ok.free y hy q).elim (fun z => I.ok.has _ (.inl z)) fun z => I.ok.has _ (.inr z)) ok.kind (fun y hy q => by rw [ok.uniq y hy, q])
    (thn (hi.run pins s σ H _ I h) fun v s1 h1 => thn h1 fun itv s2 ⟨it, fp, tn, J, H2, ei, I2, T, st2, f2, r⟩ => ?_)
  subst ei
  have n2 : H2 s2.heap.objs.size = none := I2.hok.fresh (Nat.le_refl _)
  refine wpAny_newObj_type (newEnv_comp ?_) (by show 0 ≤ sizeLine; decide)
  have I3 : Inv X pins σ (upd H2 s2.heap.objs.size (.lst [])) { s2 with heap := s2.heap.push { cls := .type "list", data := .seq ([] : List Value).toArray } } :=
    I2.laid (t' := s2.toks) (fun b o q => Heap.get?_push_of_some _ q) (Nat.le_refl _) ⟨Nat.zero_le _, [], 0, .nil, Heap.get?_push_size _ rfl⟩
  have f3 : ∀ b ∈ fp, FpOk X pins (upd H2 s2.heap.objs.size (.lst [])) b ∧ b < (s2.heap.push { cls := .type "list", data := .seq ([] : List Value).toArray }).objs.size := fun b hb => by
    obtain ⟨o, q, _⟩ := T.obj _ _ st2 b hb
    have lt := Heap.lt_size q
    exact ⟨⟨(upd_ne (Nat.ne_of_lt lt)).trans (f2 b hb).1, (f2 b hb).2⟩, by rw [Heap.size_push]; exact Nat.lt_succ_of_lt lt⟩
  refine k it fp tn J H2 s2.heap.objs.size _ _ _ T r n2 ⟨⟨_, rfl⟩, I3, ?_, f3, T.keep _ _ _ st2 fun b _ o q => pushCells_keeps _ _ _ _ (Heap.get?_push_of_some _ (Heap.get?_push_of_some _ q))⟩
  have B := block_start I3 ok hN f3
  refine ⟨⟨B.ok.mod, B.ok.kind, B.ok.glob, B.ok.blt, B.ok.above, B.ok.inj, B.ok.has, B.ok.cab, B.ok.hd, B.ok.frames, B.ok.stk, B.ok.exf, B.ok.bs, B.ok.bsz, B.ok.noex, B.ok.exfs, B.ok.funs, B.ok.frf⟩,
    B.os, B.bare, B.base, B.loc, B.cell, B.free, B.freeC, fun p hp => ?_, B.hok, B.len⟩
  obtain ⟨h1, h2, h3, h4, h5⟩ := I3.pin p (List.mem_append_left _ ((List.mem_append.mp hp).elim id fun q => nomatch q))
  exact ⟨pushCells_keeps _ _ _ _ (Heap.get?_push_of_some _ h1), h2, Nat.ne_of_lt (Heap.lt_size h1), fun z => (List.mem_cons.mp (I3.stkSub p.1 z)).elim h3 h4, h5⟩
end
section
variable {X : Cx} {elt tg iter tg1 iter1 : Expr} {ifs ifs1 : List Expr} {scope : Scope} {own : List (Str × Nat)} {vs1 : List Nat} {pos : Pos} {wi wi1 : TI} {g g1 : TG} {tt tt1 : TT} {te : TE}
theorem pe_lc2H (hc : HotC X) (hN : X.N.Nodup) (hi : PIH X tg iter wi) (ok : BlkOk X.N X.env.scope scope own) (hv : ∀ i ∈ vs1, i ∈ own.map (·.2))
    (hg : ∀ (s : Shared) (H : Hp) (C : Addr) (cl : List (Str × Addr)) (fp : List Addr), PG (blkH X s H scope (compEnvC scope cl C X.env) fp) tg g) (ht : ∀ (s : Shared) (H : Hp) (C : Addr) (cl : List (Str × Addr)) (fp : List Addr), PTs (blkH X s H scope (compEnvC scope cl C X.env) fp) ifs tt)
    (hi1 : ∀ (s : Shared) (H : Hp) (C : Addr) (cl : List (Str × Addr)) (fp : List Addr), PIH (blkH X s H scope (compEnvC scope cl C X.env) fp) tg1 iter1 wi1)
    (hg1 : ∀ (s : Shared) (H : Hp) (C : Addr) (cl : List (Str × Addr)) (fp : List Addr), PG (blkH X s H scope (compEnvC scope cl C X.env) fp) tg1 g1) (ht1 : ∀ (s : Shared) (H : Hp) (C : Addr) (cl : List (Str × Addr)) (fp : List Addr), PTs (blkH X s H scope (compEnvC scope cl C X.env) fp) ifs1 tt1)
    (he : ∀ (s : Shared) (H : Hp) (C : Addr) (cl : List (Str × Addr)) (fp : List Addr), PE (blkH X s H scope (compEnvC scope cl C X.env) fp) elt te) (hs : ∀ x, foldedSetIterable iter X.env x = pure x := by intro _; rfl) (hs1 : ∀ env x, foldedSetIterable iter1 env x = pure x := by intro _ _; rfl) :
    PE X (.ListComp elt [⟨tg, iter, ifs, 0⟩, ⟨tg1, iter1, ifs1, 0⟩] scope pos) (tLc2 wi g tt wi1 g1 tt1 te (own.map (·.2)) vs1) := by
  refine ⟨fun pins s σ H Q I h => ?_⟩
  rw [eval_ListComp]
  refine open_lcH rfl hN I hi ok hs h fun it fp tn J H2 D s3 s4 ce T q hD O => ?_
  obtain ⟨W, ⟨m0, w0⟩, turn⟩ := q D hD
  obtain ⟨cl, ec⟩ := O.env
  have pg := hg s3 (upd H2 D (.lst [])) s3.heap.objs.size cl fp
  have pt := ht s3 (upd H2 D (.lst [])) s3.heap.objs.size cl fp
  have pe := he s3 (upd H2 D (.lst [])) s3.heap.objs.size cl fp
  have pi1 := hi1 s3 (upd H2 D (.lst [])) s3.heap.objs.size cl fp
  have pg1 := hg1 s3 (upd H2 D (.lst [])) s3.heap.objs.size cl fp
  have pt1 := ht1 s3 (upd H2 D (.lst [])) s3.heap.objs.size cl fp
  rw [← ec] at pg pt pe pi1 pg1 pt1
  have loop : codeAny (model X.prog X.w) X.A (.compLoop (.ListComp elt [⟨tg, iter, ifs, 0⟩, ⟨tg1, iter1, ifs1, 0⟩] scope pos) 0 (.ref it) (.ref D) ce) (compPost (model X.prog X.w) X.A X.xe none (fun v s' => EP X pins σ Q v s') (.ref D) s3.heap.objs.size) s4 := by
    refine compLoop2_out (hs1 ce) (fun n s' => ∃ i H', Inv (blkH X s3 (upd H2 D (.lst [])) scope ce fp) [] (wipe σ (own.map (·.2))) H' s' ∧ tn i s'.heap ∧ (∀ b ∈ fp, H' b = none) ∧ W i n H') ?_ m0 ⟨0, _, O.ins, O.tn, fun b hb => (O.fp b hb).1.1, w0⟩
    rintro n s5 ⟨i, H5, I5, st5, n5, w5⟩
    refine T.turn (Y := blkH X s3 (upd H2 D (.lst [])) scope ce fp) hc pg rfl I5 st5 (O.fo n5) ?_
    rcases turn i n H5 w5 with ⟨stop, qq⟩ | ⟨go, Nx, hNx, step⟩
    · refine .inl ⟨stop, fun s6 I6 => ?_⟩
      obtain ⟨I7, ⟨m, hn⟩, f0, f1, f2, f3, f4, f5⟩ := O.shut I6
      exact ⟨m, hn, fun h'' sb => ⟨.ref D, H5, I7.turned (t' := s6.toks) (fun b o hb e => (sb.2 b hb).trans e) f0 f1 f3 f4 f5, rfl, qq⟩⟩
    · refine .inr ⟨go, _, step, fun s7 s8 σ8 H8 st7 I8 ⟨hw8, q8⟩ => thnF (pt.run _ s8 σ8 H8 _ I8 q8) fun b s9 ⟨H9, I9, q9⟩ => ?_⟩
      have fin : ∀ {σ9 : St} {s' : Shared} {H' : Hp}, Inv (blkH X s3 (upd H2 D (.lst [])) scope ce fp) ([] ++ pinsAt fp s7.heap) σ9 H' s' → σ9.length = σ8.length → (∀ (j : Nat) v, (wipe σ8 (own.map (·.2)))[j]? = some (some v) → σ9[j]? = some (some v)) → Nx H' →
          ∃ m, m < n ∧ ∃ i H', Inv (blkH X s3 (upd H2 D (.lst [])) scope ce fp) [] (wipe σ (own.map (·.2))) H' s' ∧ tn i s'.heap ∧ (∀ b ∈ fp, H' b = none) ∧ W i m H' := fun {σ9 s' H'} I' hl hk nx => by
        obtain ⟨m', hm, w'⟩ := hNx H' nx
        obtain ⟨J1, J2, J3⟩ := T.back st7 I'
        exact ⟨m', hm, i + 1, H', J1.weak (by rw [← hw8, wipe_length, hl]) (fun j v e => hk j v (by rw [hw8]; exact e)), J2, J3, w'⟩
      cases b with
      | false =>
        simp only [Bool.false_eq_true, if_false] at q9 ⊢
        exact fin I9 rfl (fun j v e => (wipe_some e).1) q9
      | true =>
        simp only [if_true] at q9 ⊢
        refine thnF (pi1.run _ s9 σ8 H9 _ I9 q9) fun xv s10 hx => thnF hx fun itv s11 ⟨it1, fp1, tn1, J1, H11, e1, I11, T1, st11, f11, W1, ⟨m1, w1⟩, turn1⟩ => ?_
        subst e1
        have loop1 : codeAny (model X.prog X.w) X.A (.compLoop (.ListComp elt [⟨tg, iter, ifs, 0⟩, ⟨tg1, iter1, ifs1, 0⟩] scope pos) 1 (.ref it1) (.ref D) ce)
            (fun r s' => match r with
              | .ok _ => ∃ m, m < n ∧ ∃ i H', Inv (blkH X s3 (upd H2 D (.lst [])) scope ce fp) [] (wipe σ (own.map (·.2))) H' s' ∧ tn i s'.heap ∧ (∀ b ∈ fp, H' b = none) ∧ W i m H'
              | .error _ => False) s11 := by
          refine compLoop2_in (fun k s' => ∃ j H', Inv (blkH X s3 (upd H2 D (.lst [])) scope ce fp) ([] ++ pinsAt fp s7.heap) (wipe σ8 vs1) H' s' ∧ tn1 j s'.heap ∧ (∀ b ∈ fp1, H' b = none) ∧ W1 j k H') ?_ m1 ⟨0, H11, I11.weak (wipe_length _ _) (fun j v e => (wipe_some e).1), st11, fun b hb => (f11 b hb).1, w1⟩
          rintro k s12 ⟨j, H12, I12, st12, n12, w12⟩
          refine T1.turn (Y := blkH X s3 (upd H2 D (.lst [])) scope ce fp) hc pg1 rfl I12 st12 (fun b hb => ⟨n12 b hb, (f11 b hb).2⟩) ?_
          rcases turn1 j k H12 w12 with ⟨stop1, nx1⟩ | ⟨go1, Nx1, hNx1, step1⟩
          · refine .inl ⟨stop1, fun s13 I13 => fin I13 (wipe_length σ8 vs1) (fun i v e => ?_) nx1⟩
            obtain ⟨e1, e2⟩ := wipe_some e
            rw [wipe_out fun z => e2 (hv i z)]
            exact e1
          · refine .inr ⟨go1, _, step1, fun s14 s15 σ15 H15 st14 I15 ⟨hw15, q15⟩ => thnF (pt1.run _ s15 σ15 H15 _ I15 q15) fun b1 s16 ⟨H16, I16, q16⟩ => ?_⟩
            have fin1 : ∀ {s' : Shared} {H' : Hp}, Inv (blkH X s3 (upd H2 D (.lst [])) scope ce fp) (([] ++ pinsAt fp s7.heap) ++ pinsAt fp1 s14.heap) σ15 H' s' → Nx1 H' → ∃ m, m < k ∧ ∃ j H', Inv (blkH X s3 (upd H2 D (.lst [])) scope ce fp) ([] ++ pinsAt fp s7.heap) (wipe σ8 vs1) H' s' ∧ tn1 j s'.heap ∧ (∀ b ∈ fp1, H' b = none) ∧ W1 j m H' := fun {s' H'} I' nx => by
              obtain ⟨m', hm, w'⟩ := hNx1 H' nx
              obtain ⟨K1, K2, K3⟩ := T1.back st14 I'
              exact ⟨m', hm, j + 1, H', K1.weak (by rw [← hw15, wipe_length]) (fun i v e => by rw [← hw15] at e; exact (wipe_some e).1), K2, K3, w'⟩
            cases b1 with
            | false =>
              simp only [Bool.false_eq_true, if_false] at q16 ⊢
              exact fin1 I16 q16
            | true =>
              simp only [if_true] at q16 ⊢
              exact thnF (pe.run _ s16 σ15 H16 _ I16 q16) fun z s17 ⟨yv, H17, I17, r17, acc, hD17, hz17, nx⟩ => app_ok (X := blkH X s3 (upd H2 D (.lst [])) scope ce fp) I17 hD17 hz17 r17 fun s18 I18 => fin1 I18 nx
        exact compStart1_ok loop1 (T1.self X.A 0 _ _ _ st11 loop1)
  exact codeAny_compStart_list loop (T.self X.A 0 _ _ _ O.tn loop)
end
end L2H
namespace HotX
open PySem PySem.Spec PyProof.Rows
section
variable {prog : Program} {w : World} {A : Around} {E : Value → Shared → Prop} {s : Shared}
theorem newStop_hot {α : Type} {Q : α → Shared → Prop} {x1 : Addr} (hot : HotAt A x1 s.heap)
    (hE : ∀ a h', (∀ b o, s.heap.get? b = some o → h'.get? b = some o) → ({ s with heap := h' } : Shared).TypeIs (.ref a) "StopIteration" → E (.ref a) { s with heap := h' }) :
    wpAny (model prog w) A (newExc (.type "StopIteration") [] >>= fun e => (raiseNew e : Sem α)) Q E s := by
  obtain ⟨hh, o1, vs1, h1, d1, c1⟩ := hot
  refine wpAny_bind ?_
  simp only [newExc, newTuple]
  refine wpAny_bind (wpAny_newObj_type ?_ (by size_fits))
  refine wpAny_bind (m := firstArgMember _ _) (wpAny_of_eq (a := Value.none) (by first | rfl | (simp only [firstArgMember]; rfl)) ?_)
  refine wpAny_newObj_type ?_ (by size_fits)
  refine raiseNew_hot ⟨hh, o1, vs1, Heap.get?_push_of_some _ (Heap.get?_push_of_some _ h1), d1, c1⟩ (Nat.ne_of_lt (Heap.lt_size (Heap.get?_push_of_some _ h1))) (Heap.get?_push_size _ rfl) rfl (by first | (simp; done) | (simp; omega) | (simp only [Array.size_append]; simp; omega)) ?_
  refine hE _ _ (fun b o e => ?_) ⟨_, Heap.get?_update_self _ (Heap.get?_push_size _ rfl) rfl, rfl⟩
  rw [Heap.get?_update_other _ _ (Nat.ne_of_gt (Heap.lt_size (Heap.get?_push_of_some _ e)))]
  exact Heap.get?_push_of_some _ (Heap.get?_push_of_some _ e)
theorem hot_upd {it x1 : Addr} {h : Heap} {f : Obj → Obj} (hot : HotAt A x1 h) (ne : x1 ≠ it) : HotAt A x1 (h.update it f) := by
  obtain ⟨hh, o1, vs1, h1, d1, c1⟩ := hot
  exact ⟨hh, o1, vs1, (Heap.SameBut.update h it _).extBut x1 o1 ne h1, d1, c1⟩
theorem items_end_hot {it d x1 : Addr} {i n ep : Nat} {od : Obj} {es : Array DictEntry} {ok ov : Value} {Q : Option Value → Shared → Prop} (hot : HotAt A x1 s.heap) (hne : x1 ≠ it) (hit : IsItemIter s.heap it d i n ep ok ov) (hod : s.heap.get? d = some od) (hdd : od.data = .dict es ep)
    (hsz : es.size = n) (hge : n ≤ i) (hQ : ∀ h', Heap.ExtBut it s.heap h' → Q none { s with heap := h' }) : wpAny (model prog w) A (pyNext (.ref it)) Q E s := by
  have hT : s.TypeIs (.ref it) "dict_itemiterator" := ⟨_, hit, rfl⟩
  unfold pyNext
  refine wpAny_bind (wpAny_attempt (wpAny_callSpecial?_slot (name := Str.ofString "__next__") hT F.slot_dict_itemiterator_next
    (wpAny_call_entry F.slot_dict_itemiterator_next hT F.entry_dict_itemiterator_next ?_ (F.args_dict_itemiterator_next_1 _))))
  refine wpAny_bind (wpAny_pure (wpAny_bind (wpAny_bind ?_)))
  first | refine wpAny_bind (wpAny_typeNameOfWhole_itemiter hT (wpAny_pure ?_)) | refine wpAny_bind (wpAny_typeNameOf_itemiter hT (wpAny_pure ?_))
  refine wpAny_bind (wpAny_fieldsOf hit rfl ?_)
  simp only [show Builtin.Dict_items.ownsTuple "dict_itemiterator" = true by decide, if_true]
  show wpAny _ _ (if (Value.ref d == Value.none) = true then _ else _) _ _ s
  rw [if_neg (show ¬ ((Value.ref d == Value.none) = true) from Bool.false_ne_true)]
  refine wpAny_bind (wpAny_pure (wpAny_bind (wpAny_dictEntries hod hdd ?_)))
  rw [if_neg (by rw [hsz]; simp)]
  refine wpAny_bind (wpAny_pure (wpAny_bind (wpAny_dictEpoch hod hdd ?_)))
  rw [if_neg (by simp)]
  refine wpAny_pure ?_
  have hge' : es.size ≤ i := by rw [hsz]; exact hge
  simp only [show ¬ ((i : Int) < 0) from by omega, if_false, Int.toNat_natCast, Array.getElem?_eq_none hge']
  refine wpAny_bind ?_
  first | refine wpAny_bind (wpAny_typeNameOfWhole_itemiter hT (wpAny_pure ?_)) | refine wpAny_bind (wpAny_typeNameOf_itemiter hT (wpAny_pure ?_))
  show wpAny _ _ (setField (.ref it) 2 .none >>= _) _ _ s
  refine wpAny_bind (wpAny_setField hit rfl (by simp) ?_)
  exact newStop_hot (s := { s with heap := s.heap.update it _ }) (hot_upd hot hne) fun a h' k hT => wpAny_bind (wpAny_isInstance (T := "StopIteration") (b := true) hT isSubtype_stop (wpAny_pure (hQ _ fun b u hb e => k b u ((Heap.SameBut.update s.heap it _).extBut b u hb e))))
end
end HotX
namespace L2H
open PySem PySem.Spec PyProof.Rows L2 HotX
section
variable {P : Program} {w : World} {K : PySem.W.Frag} {tg : Expr} {J : It} {it : Addr} {tn : Nat → Heap → Prop}
theorem pi_oneH {X : Cx} {pins : List (Addr × Obj)} {σ : St} {H : Hp} {s : Shared} {R : It → Hp → Prop} {tk : Nat} (I : Inv X pins σ H s) (o : Obj)
    (T : TurnH X.prog X.w X.K tg J [s.heap.objs.size] s.heap.objs.size tn) (st : tn 0 (s.heap.push o)) (q : R J H) : PIEH X pins σ tg R (.ref s.heap.objs.size) { s with heap := s.heap.push o, toks := tk } :=
  ⟨_, _, tn, J, H, rfl, I.kept fun b ob e => Heap.get?_push_of_some _ e, T, st, fun b hb => by
    rw [List.mem_singleton.mp hb]
    exact I.fpOk (Nat.le_refl _) (I.hok.fresh (Nat.le_refl _)), q⟩
variable {d : Addr} {o : Obj} {es : Array DictEntry} {ep : Nat}
theorem turn_itemsH {kvs : List (Key × V)} {elts : List Expr} {kk : Nat} {tpos : Pos} (it : Addr) (hod : o.data = .dict es ep) :
    TurnH P w K (.Tuple elts kk tpos) (Iti d o kvs) [it] it (fun i h => ∃ ok ov, IsItemIter h it d i kvs.length ep ok ov) where
  mem := List.mem_singleton.mpr rfl
  obj := fun i h st b hb => by
    obtain ⟨ok, ov, e⟩ := st
    rw [List.mem_singleton.mp hb]
    exact ⟨_, e, fun v z => nomatch z⟩
  keep := fun i h h' ⟨ok, ov, e⟩ k => ⟨ok, ov, k it (List.mem_singleton.mpr rfl) _ e⟩
  item := fun X hP hw hK _ i pins s σ H E I hf st hg => by
    subst hP hw hK
    obtain ⟨hd, hi⟩ := hg
    obtain ⟨hs, hgd, hx, es', ep', vs, hdt, hsz, kv, hm⟩ := I.frzK hd
    obtain ⟨rfl, rfl⟩ := dict_ep hod hdt
    have hl : kvs.length = vs.length := Paired.length kv
    have hkv : kvs[i]? = some (kvs[i].1, kvs[i].2) := List.getElem?_eq_getElem hi
    obtain ⟨u, hu, ru⟩ := kv_get kv hkv
    obtain ⟨ok, ov, he⟩ := st
    rw [hl] at he ⊢
    have lt : it < s.heap.objs.size := Heap.lt_size he
    refine wpAny_pyNext_items_item he hm hu fun key h' hkey ho hT hz hk => ⟨_, rfl, wpAny_letOwnedTupleGo_items (s := { s with heap := h' }) ho fun h2 he2 sb => ⟨.ref s.heap.objs.size, upd H s.heap.objs.size (.tup [kV kvs[i].1, kvs[i].2]), ?_, rfl, ⟨_, _, _, hkv, rfl, I.hok.fresh (Nat.le_refl _), rfl⟩, ⟨key, u, he2⟩, fun b hb => ?_⟩⟩
    · exact I.turnedNew (t' := s.toks) (ch := [it]) (fun b ob hb e => (sb.2 b (fun z => hb (List.mem_singleton.mpr z))).trans (hk b ob (fun z => hb (List.mem_singleton.mpr z)) e)) hf (Nat.le_refl _)
        ⟨by show 2 ≤ sizeLine; decide, [key, u], .cons (relV_key hkey) (.cons ru .nil), ⟨_, (sb.2 _ (Nat.ne_of_gt lt)).trans hT, rfl, _, rfl⟩⟩
    · rw [List.mem_singleton.mp hb, upd_ne (Nat.ne_of_lt lt)]
      exact (hf it (List.mem_singleton.mpr rfl)).1
  done := fun X hP hw hK hc i pins s σ H E I hf st hg => by
    subst hP hw hK
    obtain ⟨f0, f1, _, f3, f4, f5⟩ := hf it (List.mem_singleton.mpr rfl)
    obtain ⟨x1, hot, ne⟩ := hc.atF I (hf it (List.mem_singleton.mpr rfl))
    obtain ⟨hd, hi⟩ := hg
    obtain ⟨hs, hgd, hx, es', ep', vs, hdt, hsz, kv, hm⟩ := I.frzK hd
    obtain ⟨rfl, rfl⟩ := dict_ep hod hdt
    obtain ⟨ok, ov, he⟩ := st
    exact items_end_hot hot ne he hgd hdt hsz hi fun h' eb => ⟨rfl, I.turned (t' := s.toks) (fun b o hb e => eb b o hb e) f0 f1 f3 f4 f5⟩
  self := fun A i s Q E ⟨_, _, e⟩ h => PySem.W.kcp_self e h
end
section
variable {X : Cx} {tg e : Expr} {td : TE} {apos cpos : Pos}
theorem pi_itemsH {elts : List Expr} {kk : Nat} {tpos : Pos} (he : PE X e td) (hbase : attributeBase e "items" X.env (eval e X.env) = eval e X.env := by rfl) (hline : (apos.endLine == cpos.line) = true := by rfl) :
    PIH X (.Tuple elts kk tpos) (.Call (.Attribute e "items" apos) [] [] cpos) (iItems td) := by
  refine ⟨fun pins s σ H R I h => wpAny_Call_method (T := "dict") (id := "dict.items") hbase rfl hline F.plainAttrs_dict F.slot_dict_items F.type_dict_items (thn (he.run pins s σ H _ I h) fun u s1 ⟨x, H1, I1, rx, d, o, kvs, ex, hd, q⟩ => ?_)⟩
  subst ex
  obtain rfl : u = Value.ref d := rx
  obtain ⟨hs, hgd, hx, es, ep, vs, hdt, hsz, kv, hm⟩ := I1.frzK hd
  refine ⟨hm.dictOf.typeIs, hm.dictOf.mapOf.noDict, ?_⟩
  have I2 : Inv X pins σ H1 { s1 with heap := s1.heap.push { cls := .type "dict_items", data := .fields #[.ref d] } } := I1.kept (t' := s1.toks) fun b ob q => Heap.get?_push_of_some _ q
  show wpAny _ _ (callWith cpos (.builtin "dict.items") [.ref d] [] []) _ X.xe s1
  refine method_meetsIn F.slot_dict_items F.entry_dict_items rfl (PySem.evalArgs_none ⟨rfl, hm.dictOf.typeIs, F.args_dict_items_1 _, _, meets_dict_items (mixKind X.prog X.w) d hs, ⟨vs, hm.dictOf⟩, ?_⟩)
  refine wpAny_pyIter_items (d := d) (knd := mixKind X.prog X.w) ⟨_, Heap.get?_push_size _ rfl, rfl, rfl⟩ (hm.push _) (pi_oneH (tk := s1.toks) I2 _ (turn_itemsH _ hdt) ⟨.none, .none, ?_⟩ q)
  rw [Paired.length kv]
  exact Heap.get?_push_size _ rfl
theorem pi_eiH {l : Expr} {tl : TE} (hl : PE X l tl) : PIH X tg l (Gt.iEi X.K tl) := by
  refine ⟨fun pins s σ H R I h => thn (hl.run pins s σ H _ I h) fun v s1 ⟨x, H1, I1, r1, a, ex, q1⟩ => ?_⟩
  subst ex
  obtain rfl : v = Value.ref a := r1
  rcases q1 with ⟨⟨xs, hq⟩, q⟩ | ⟨⟨xs, hq⟩, q⟩
  · obtain ⟨its, rv, p, hz⟩ := I1.list hq
    exact wpAny_pyIter_list p.isList (pi_oneH (tk := s1.toks) I1 _ (turn_listH a _) ⟨_, Heap.get?_push_size _ rfl, rfl, rfl⟩ q)
  · obtain ⟨its, rv, p, hz⟩ := I1.tuple hq
    exact wpAny_pyIter_tuple (show s1.heap.IsTuple a its.toArray from p) (pi_oneH (tk := s1.toks) I1 _ (turn_tupleH a _) ⟨_, Heap.get?_push_size _ rfl, rfl, rfl⟩ q)
theorem pi_eiHK (K : PySem.W.Frag) {l : Expr} {tl : TE} (hl : PE X l tl) (h : X.K = K := by rfl) : PIH X tg l (Gt.iEi K tl) := by subst h; exact pi_eiH hl
end
end L2H
namespace L2H
open PySem PySem.Spec PyProof.Rows L2 HotX
theorem RoomH.make {k : Nat} {A : Around} (r : RoomH (k + 1) A) (C : Addr) (us : List Value) (kw : List (Str × Value)) : RoomH k (A.under (.builtin "type.__call__" ⟨.ref C :: us, kw⟩)) :=
  ⟨by have := r.dp; rw [make_depth]; omega, by have := r.un; rw [make_units]; omega⟩
section
variable {X : Cx} {CX : CXT} {k : Nat} {f C : Addr} {fd : FuncData} {ps : List Str} {sp : Sp} {E : XK} {dvs : List V} {ds : List Value} {pins : List (Addr × Obj)} {σ : St} {H : Hp} {s : Shared} {Q : VK} {us : List Value} {vs : List V} {x : Str} {p pos : Pos} {e : Expr} {es : List Expr} {t : TA}
theorem pinOk {q : Addr × Obj} (I : Inv X pins σ H s) (hp : q ∈ X.pn) : PinOk X.stack H s q := by
  obtain ⟨h1, h2, h3, h4, h5⟩ := I.pin q (List.mem_append_left _ hp)
  exact ⟨h1, h2, fun hm => (List.mem_cons.mp (I.stkSub q.1 hm)).elim h3 h4, h5⟩
theorem run_makeH (M : Mk X.K C f) (F : FnH X.prog X.w X.K X.mg X.base CX k f fd ps sp) (hr : RoomH (k + 1) X.A) (hc : HotC X) (hb : Binds X.K fd ps ds) (hd : Vals dvs ds) (hx : Passes CX X E) (I : Inv X pins σ H s) (r : Vals vs us)
    (h : ∀ x dx, H x = none → H dx = none → dx ≠ x → sp (.ref x :: (vs ++ dvs)) (upd (upd H dx (.own x)) x (.ins C dx [])) (fun v H2 => v = .non ∧ Q (.ref x) H2) E) : wpAny (model X.prog X.w) X.A (call (.ref C) us) (EP X pins σ Q) X.xe s := by
  obtain ⟨q, hot, hq⟩ := hc
  have J := Inv.made (C := C) I
  have hs := h (s.heap.objs.size + 1) s.heap.objs.size (I.hok.fresh (Nat.le_succ _)) (I.hok.fresh (Nat.le_refl _)) (Nat.ne_of_lt (Nat.lt_succ_self _))
  have vv : Vals (V.ref (s.heap.objs.size + 1) :: (vs ++ dvs)) (Value.ref (s.heap.objs.size + 1) :: (us ++ ds)) := .cons rfl (r.append hd)
  have ll : (Value.ref (s.heap.objs.size + 1) :: us ++ ds).length = ps.length := by rw [← F.len _ _ _ _ hs]; exact vv.length.symm
  refine wpAny_call (make_map (f := f) I.kIn M.makes M.init (beq_iff_eq.mp M.fn) (codeAny_mono (F.run _ X.stack _ _ ⟨Value.ref (s.heap.objs.size + 1) :: us, []⟩ (Value.ref (s.heap.objs.size + 1) :: (us ++ ds)) _ _ E q (hr.make C us []) ⟨hot.1, hot.2⟩ (pinOk J hq)
    (J.env0.make C us []) (hb _ (Value.ref (s.heap.objs.size + 1) :: us) J.kIn ll) vv hs) fun z s' hz => ?_))
  cases z with
  | error e => exact hx pins σ _ _ e s' J hz
  | ok fl =>
    cases fl with
    | ret u =>
      obtain ⟨v, H', J2, rv, ev, q3⟩ := J.after hz
      subst ev
      exact ⟨rv, ⟨V.ref (s.heap.objs.size + 1), H', J2, rfl, q3⟩⟩
    | next => exact False.elim hz
    | brk => exact False.elim hz
    | cont => exact False.elim hz
theorem pe_make0H (M : Mk X.K C f) (F : FnH X.prog X.w X.K X.mg X.base CX k f fd ps sp) (hr : RoomH (k + 1) X.A) (hc : HotC X) (hg : Gl X x) (hm : X.mg x = some (.ref C)) (hb : Binds X.K fd ps ds) (hd : Vals dvs ds) (hx : Passes CX X E)
    (hdb : (x == ("__debug__" : Str)) = false := by decide) : PE X (.Call (.Name x p) [] [] pos) (tMake C sp dvs E tNil) :=
  ⟨fun pins s σ H Q I h => wpAny_Call_Name_kw (ld_glob I hg hm (PySem.W.callWith_K0 I.kIn M.kp (run_makeH (us := []) M F hr hc hb hd hx I .nil h)) hdb)⟩
end
end L2H
namespace Gt
open PySem PySem.Spec PyProof.Rows L2
section
open PySem PySem.Spec PyProof.Rows L2
structure CalDH (P : Program) (w : World) (K : PySem.W.Frag) (mg : Str → Option Value) (base : Heap) (C : Addr) (k : Nat) (ps : List Str) (sp : Sp) (d : Addr) : Prop where
  ex : ∃ (f : Addr) (fd : FuncData), L2H.FnH P w K mg base CX0 k f fd ps sp ∧ Mk K C f ∧ L2.Binds K fd ps [.ref d]
  tp : ∃ (o : Obj) (n : Nat), K.lookup d = some o ∧ o.dict = none ∧ o.cls = .type "tuple" ∧ o.data = .seq #[] n
theorem pe_mkI0H {X : Cx} {C d : Addr} {k : Nat} {ps : List Str} {sp : Sp} {x : Str} {p pos : Pos} (I : CalDH X.prog X.w X.K X.mg X.base C k ps sp d) (hm : X.mg x = some (.ref C)) (hr : L2H.RoomH (k + 1) X.A) (hc : L2H.HotC X) (hg : Gl X x := by rfl) (hdb : (x == ("__debug__" : Str)) = false := by decide) : PE X (.Call (.Name x p) [] [] pos) (tMake C sp [.ref d] E0 tNil) := by
  obtain ⟨f, fd, F, M, b⟩ := I.ex
  exact L2H.pe_make0H M F hr hc hg hm b (.cons rfl .nil) pass0 hdb
section
variable {P : Program} {w : World} {K : PySem.W.Frag} {mg : Str → Option Value} {base : Heap} {c q : Str} {st : Stmt} {N : List Str} {k : Nat} {sp : Sp}
theorem calDH_of {d : Addr} {p1 p2 : Str} (T : ClsF K mg c) (F : DfE0 K (cA K c) q st d) (S : FnScope N [p1, p2] (defScope st)) (len : ∀ vs H Q E, sp vs H Q E → vs.length = ([p1, p2] : List Str).length)
    (bD : ∀ (T : Addr) (kV doc pm : Value) (an : Option Addr) (cdv ct u v : Value), ∃ k, bindArgs (PySem.W.fnOf "__init__" q (defArgs st) (defBody st) (defScope st) (.ref T) kV doc pm an cdv ct) ⟨[u], []⟩ = seqItems? (.ref T) >>= k ∧ k (some #[v]) = pure ([p1, p2].zip [u, v]))
    (hbody : ∀ (cdv : Value) (f : Addr) (A : Around) (outer : List PySem.Env) (s : Shared) (H : Hp) (vs : List V) (Q : VK) (E : XK) (p : Addr × Obj), L2H.HotC (L2H.cxH CX0 P w K mg base N q (defScope st) f cdv A outer s H E p) → L2H.RoomH k (A.deeper (envOfC q (defScope st) s.heap.objs.size f cdv)) → sp vs H Q E →
      ∃ t, PSs (L2H.cxH CX0 P w K mg base N q (defScope st) f cdv A outer s H E p) (defBody st) t ∧ t { nx := fun _ H' => Q .non H', rt := Q } (start N vs) H) : CalDH P w K mg base (cA K c) (k + 1) [p1, p2] sp d := by
  obtain ⟨f, T0, oc, od, kV, doc, pm, an, cdv, ct, osl, oT, o, n, n0, lk, hc, lT, dT, ld, dn, cd, dd, kp, h1, h2⟩ := F.ex
  refine ⟨⟨f, _, L2H.fn_ofH lk hc S len (fun A outer s H vs Q E p hot hr hsp => hbody cdv f A outer s H vs Q E p ⟨p, hot, List.mem_cons_self⟩ hr hsp), ⟨T.makes, h1, h2, T.kp⟩, fun s us X hlen => ?_⟩, o, n0, ld, dn, cd, dd⟩
  have hl1 : us.length = 1 := by
    rw [List.length_append] at hlen
    have hlen : us.length + 1 = 2 := hlen
    omega
  obtain ⟨u, rfl⟩ := List.length_eq_one_iff.mp hl1
  obtain ⟨k, e1, e2⟩ := bD T0 kV doc pm an cdv ct u (.ref d)
  refine BindsTo.of_looks fun M => ?_
  rw [e1]
  exact looks_items X lT dT (.of_pure e2)
end
end
section
noncomputable def m_is_owner (name1 : Str) : M Bool := mb (mand (decide ((1 : Int) ≤ (name1.length : Int)) && decide ((name1.length : Int) ≤ (8 : Int))) (mb (chk (decide ((chs name1).length ≤ 12000000))) fun _ => mb (mlc (fun (y2 : Str) => .ok true) (fun (y2 : Str) => mb (oM (sgn y2)) fun t3 => .ok (decide (t3 ∈ ("abcdefghijklmnopqrstuvwxyz" : Str).cps.toList))) (chs name1)) fun zs5 => .ok (zs5.all id))) fun c6 => .ok c6
noncomputable def m_is_plain (name1 : Str) : M Bool := mb (mor (!(decide ((1 : Int) ≤ (name1.length : Int)) && decide ((name1.length : Int) ≤ (8 : Int)))) (mb (oM (atI (chs name1) (0 : Int))) fun t2 => mb (oM (sgn t2)) fun t3 => .ok (decide (t3 ∈ ("0123456789" : Str).cps.toList)))) fun c4 => bif c4 then .ok false else mb (chk (decide ((chs name1).length ≤ 12000000))) fun _ => mb (mlc (fun (y5 : Str) => .ok true) (fun (y5 : Str) => mb (oM (sgn y5)) fun t6 => .ok ((decide (t6 ∈ ("abcdefghijklmnopqrstuvwxyz" : Str).cps.toList)) || ((decide (t6 ∈ ("ABCDEFGHIJKLMNOPQRSTUVWXYZ" : Str).cps.toList)) || (decide (t6 ∈ ("0123456789" : Str).cps.toList))))) (chs name1)) fun zs8 => .ok (zs8.all id)
noncomputable def m_is_sign (name1 : Str) : M Bool := mb (chk (decide ((("." : Str).length == 0) = false))) fun _ => mb (chk (decide (name1.length ≤ 1000))) fun _ => mb (chk (decide (∀ x ∈ Txt.split name1 ("." : Str), okS x))) fun _ => mb (.ok (Txt.split name1 ("." : Str))) fun parts5 => bif (decide ((parts5.length : Int) = (2 : Int))) then mb (oM (atI parts5 (0 : Int))) fun t6 => mb (m_is_owner t6) fun t7 => mb (mand t7 (mb (oM (atI parts5 (1 : Int))) fun t8 => mb (m_is_plain t8) fun t9 => .ok t9)) fun c10 => .ok c10 else mb (m_is_plain name1) fun t11 => .ok t11
noncomputable def m_is_token (sign1 : Str) : M Bool := mb (chk (decide ((("." : Str).length == 0) = false))) fun _ => mb (chk (decide (okS (Txt.rpartition sign1 ("." : Str)).1 ∧ okS (Txt.rpartition sign1 ("." : Str)).2.1 ∧ okS (Txt.rpartition sign1 ("." : Str)).2.2))) fun _ => mb (oM (atI ([(Txt.rpartition sign1 ("." : Str)).1, (Txt.rpartition sign1 ("." : Str)).2.1, (Txt.rpartition sign1 ("." : Str)).2.2]) (2 : Int))) fun t4 => mb (oM (atI (chs t4) (0 : Int))) fun t5 => mb (oM (sgn t5)) fun t6 => .ok (decide (t6 ∈ ("abcdefghijklmnopqrstuvwxyz" : Str).cps.toList))
noncomputable def m_parse_rule (line1 : Str) : M (Option (Str × (List Str))) := mb (chk (decide (((" " : Str).length == 0) = false))) fun _ => mb (chk (decide (line1.length ≤ 1000))) fun _ => mb (chk (decide (∀ x ∈ Txt.split line1 (" " : Str), okS x))) fun _ => mb (.ok (Txt.split line1 (" " : Str))) fun words5 => mb (mor (decide ((words5.length : Int) < (2 : Int))) (mb (oM (atI words5 (1 : Int))) fun t6 => mb (mor (!(decide (t6 = ("->" : Str)))) (mb (oM (atI words5 (0 : Int))) fun t7 => mb (m_is_sign t7) fun t8 => mb (mor (!t8) (mb (m_is_token t7) fun t9 => .ok t9)) fun c10 => .ok c10)) fun c11 => .ok c11)) fun c12 => bif c12 then .ok (none : (Option (Str × (List Str)))) else mb (chk (decide ((cut words5 (some (2 : Int)) none).length ≤ 12000000))) fun _ => mb (mlc (fun (y13 : Str) => .ok true) (fun (y13 : Str) => mb (m_is_sign y13) fun t14 => .ok t14) (cut words5 (some (2 : Int)) none)) fun zs16 => bif (!(zs16.all id)) then .ok (none : (Option (Str × (List Str)))) else mb (oM (atI words5 (0 : Int))) fun t17 => .ok (some (t17, (cut words5 (some (2 : Int)) none)))
abbrev Gs := List (Str × List (List Str))
noncomputable def grStep (g : Gs) (r : Rule) : Gs := bif memB r.2 ((dkey g r.1).getD []) then g else dput g r.1 ((dkey g r.1).getD [] ++ [r.2])
def grFlat (g : Gs) : List Rule := g.flatMap fun x => x.2.map fun s => (x.1, s)
noncomputable def grp (rs : List Rule) : List Rule := grFlat (rs.foldl grStep [])
def gsum (g : Gs) : Nat := (g.map fun x => x.2.length).sum
theorem grFlat_len : ∀ g : Gs, (grFlat g).length = gsum g
  | [] => rfl
  | x :: g => by
    have := grFlat_len g
    unfold grFlat gsum at *
    rw [List.flatMap_cons, List.length_append, List.length_map, this, List.map_cons, List.sum_cons]
theorem gsum_map (k : Str) (l : List (List Str)) (n : Nat) : ∀ g : Gs, (∀ x ∈ g, x.1 = k → l.length ≤ x.2.length + n) → (g.map (·.1)).Nodup → gsum (g.map fun kv => if kv.1 = k then (kv.1, l) else kv) ≤ gsum g + n
  | [], _, _ => Nat.zero_le _
  | x :: g, h, nd => by
    rw [List.map_cons] at nd
    have nd := List.nodup_cons.mp nd
    unfold gsum
    rw [List.map_cons, List.map_cons, List.sum_cons, List.map_cons, List.sum_cons]
    by_cases e : x.1 = k
    · have same : (g.map fun kv => if kv.1 = k then (kv.1, l) else kv) = g := by
        conv => rhs; rw [← List.map_id g]
        refine List.map_congr_left fun y hy => ?_
        rw [if_neg fun z => nd.1 (List.mem_map.mpr ⟨y, hy, by rw [z, e]⟩)]
        rfl
      rw [if_pos e, same]
      have := h x (List.mem_cons_self ..) e
      show l.length + _ ≤ _
      omega
    · rw [if_neg e]
      have := gsum_map k l n g (fun y hy => h y (List.mem_cons_of_mem _ hy)) nd.2
      unfold gsum at this
      omega
theorem dkey_mem {α : Type} {g : List (Str × α)} (nd : (g.map (·.1)).Nodup) {x : Str × α} (hx : x ∈ g) : dkey g x.1 = some x.2 := by
  induction g with
  | nil => cases hx
  | cons y g ih =>
    rw [List.map_cons] at nd
    have nd := List.nodup_cons.mp nd
    unfold dkey
    rw [List.find?_cons]
    rcases List.mem_cons.mp hx with e | e
    · subst e
      simp
    · have ne : ¬ y.1 = x.1 := fun z => nd.1 (List.mem_map.mpr ⟨x, e, z.symm⟩)
      rw [decide_eq_false ne]
      exact ih nd.2 e
theorem dput_keys {α : Type} (g : List (Str × α)) (k : Str) (v : α) : (dput g k v).map (·.1) = if k ∈ g.map (·.1) then g.map (·.1) else g.map (·.1) ++ [k] := by
  unfold dput
  by_cases h : k ∈ g.map (·.1)
  · have e : (g.any fun kv => decide (kv.1 = k)) = true := by
      obtain ⟨x, hx, rfl⟩ := List.mem_map.mp h
      exact List.any_eq_true.mpr ⟨x, hx, decide_eq_true rfl⟩
    rw [if_pos e, if_pos h, List.map_map]
    refine List.map_congr_left fun y _ => ?_
    show (if y.1 = k then (y.1, v) else y).1 = y.1
    split <;> rfl
  · have e : ¬ (g.any fun kv => decide (kv.1 = k)) = true := fun q => by
      obtain ⟨x, hx, hk⟩ := List.any_eq_true.mp q
      exact h (List.mem_map.mpr ⟨x, hx, of_decide_eq_true hk⟩)
    rw [if_neg e, if_neg h, List.map_append]
    rfl
theorem grStep_ok (g : Gs) (r : Rule) (nd : (g.map (·.1)).Nodup) : ((grStep g r).map (·.1)).Nodup ∧ gsum (grStep g r) ≤ gsum g + 1 ∧ (grStep g r).length ≤ g.length + 1 := by
  unfold grStep
  cases memB r.2 ((dkey g r.1).getD []) with
  | true => exact ⟨nd, Nat.le_add_right _ _, Nat.le_add_right _ _⟩
  | false =>
    refine ⟨?_, ?_, ?_⟩
    · rw [cond_false, dput_keys]
      split
      · exact nd
      · rename_i h
        rw [List.nodup_append]
        exact ⟨nd, by simp, fun a ha b hb e => h (by rw [List.mem_singleton.mp hb] at e; rw [← e]; exact ha)⟩
    · rw [cond_false]
      unfold dput
      split
      · refine gsum_map _ _ 1 g (fun x hx e => ?_) nd
        rw [← e, dkey_mem nd hx]
        show (x.2 ++ [r.2]).length ≤ _
        rw [List.length_append]
        exact Nat.le_refl _
      · rename_i h
        have none : dkey g r.1 = none := by
          unfold dkey
          cases q : g.find? fun kv => decide (kv.1 = r.1) with
          | none => rfl
          | some y => exact absurd (List.any_eq_true.mpr ⟨y, List.mem_of_find?_eq_some q, List.find?_some q⟩) h
        rw [none]
        unfold gsum
        rw [List.map_append, List.sum_append]
        exact Nat.le_refl _
    · rw [cond_false]
      unfold dput
      split
      · rw [List.length_map]; exact Nat.le_add_right _ _
      · rw [List.length_append]; exact Nat.le_refl _
theorem grFold_ok : ∀ (rs : List Rule) (g : Gs), (g.map (·.1)).Nodup → ((rs.foldl grStep g).map (·.1)).Nodup ∧ gsum (rs.foldl grStep g) ≤ gsum g + rs.length ∧ (rs.foldl grStep g).length ≤ g.length + rs.length
  | [], g, nd => ⟨nd, Nat.le_refl _, Nat.le_refl _⟩
  | r :: rs, g, nd => by
    obtain ⟨a, b, c⟩ := grStep_ok g r nd
    obtain ⟨d, e, f⟩ := grFold_ok rs _ a
    rw [List.foldl_cons, List.length_cons]
    exact ⟨d, by omega, by omega⟩
theorem mem_sum {n : Nat} : ∀ {l : List Nat}, n ∈ l → n ≤ l.sum
  | m :: l, h => by
    rw [List.sum_cons]
    rcases List.mem_cons.mp h with e | e
    · omega
    · have := mem_sum e; omega
theorem grp_len (rs : List Rule) : (grp rs).length ≤ rs.length := by
  unfold grp
  rw [grFlat_len]
  have := (grFold_ok rs [] .nil).2.1
  have e : gsum ([] : Gs) = 0 := rfl
  omega
noncomputable def m_grouped (rs : List Rule) : M (List Rule) := mb (chk (decide (rs.length ≤ 10000))) fun _ => .ok (grp rs)
theorem m_grouped_of {rs : List Rule} (h : rs.length ≤ 10000) : m_grouped rs = .ok (grp rs) := by unfold m_grouped; rw [mb_of (chk_of (decide_eq_true h))]
noncomputable def m_Grammar___init__ (rs : List Rule) : M (List Rule) := m_grouped rs
noncomputable def m_Grammar_from_string (cls1 : Unit) (string2 : Str) : M (List Rule) := mb (.ok ([] : (List (Str × (List Str))))) fun rules3 => mb (calm (bif ((string2.length : Int) != 0) then mb (chk (decide ((("\n" : Str).length == 0) = false))) fun _ => mb (chk (decide (string2.length ≤ 1000))) fun _ => mb (chk (decide (∀ x ∈ Txt.split string2 ("\n" : Str), okS x))) fun _ => .ok (Txt.split string2 ("\n" : Str)) else .ok ([] : (List Str)))) fun c7 => mb (mfor (fun (s8 : (List (Str × (List Str)))) (x9 : (Int × Str)) => mb (calm (m_parse_rule x9.2)) fun t11 => bif (isNone' t11) then .error (.ex "BadLine" [("number", (.i x9.1))]) else mb (oM t11) fun z12 => mb (chk (decide (s8.length < 12000000))) fun _ => mb (.ok (s8 ++ [z12])) fun rules14 => .ok rules14) rules3 (enumFrom (1 : Int) c7)) fun s10 => mb (calm (m_Grammar___init__ s10)) fun t15 => .ok t15
noncomputable def m__law_cell (script1 : (List Int)) (k2 : Int) : M Int := mb (bif (decide (k2 < (script1.length : Int))) then mb (oM (atI script1 k2)) fun t3 => .ok t3 else .ok (0 : Int)) fun c4 => .ok c4
noncomputable def m__law_draws (cellhere1 : Int) (many2 : Int) : M (List Int) := mb (.ok (cellhere1 * (b2 (decide (((10 : Int) ^ ((18 : Int)).toNat) ≤ cellhere1))))) fun rest3 => mb (.ok ([] : (List Int))) fun row4 => mb (chk (decide (-12000000 ≤ many2 ∧ many2 ≤ 12000000))) fun _ => mb (mfor (fun (s6 : (Int × (List Int))) (x7 : Int) => bif (decide ((0 : Int) < s6.1)) then mb (chk (decide (s6.2.length < 12000000))) fun _ => mb (.ok (s6.2 ++ [s6.1 % (840 : Int)])) fun row10 => mb (.ok (s6.1 / (840 : Int))) fun rest11 => .ok (rest11, row10) else mb (.ok ((((cellhere1 * (48271 : Int)) + (x7 * (6961 : Int))) + (1013 : Int)) % (1000003 : Int))) fun mixed12 => mb (chk (decide (CMul mixed12 mixed12))) fun _ => mb (.ok ((((mixed12 * mixed12) + ((11 : Int) * mixed12)) + x7) % (999983 : Int))) fun mixed14 => mb (chk (decide (CMul mixed14 mixed14))) fun _ => mb (chk (decide (s6.2.length < 12000000))) fun _ => mb (.ok (s6.2 ++ [(((mixed14 * mixed14) + ((3 : Int) * mixed14)) % (99991 : Int)) % (840 : Int)])) fun row17 => .ok (s6.1, row17)) (rest3, row4) (ups many2.toNat)) fun s8 => .ok s8.2
noncomputable def m__law_name (k1 : Int) (style2 : Int) (capital3 : Bool) : M Str := mb (oM (atI ([("abcdefgh" : Str), ("hgfedcba" : Str), ("dbgahcfe" : Str)]) (style2 % (3 : Int)))) fun t4 => mb (oM (atI (chs t4) k1)) fun t5 => mb (chk (decide (("t" : Str).length + t5.length ≤ 100000))) fun _ => mb (chk (decide (t5.length + ("7Q" : Str).length ≤ 100000))) fun _ => mb (chk (decide (0 ≤ ((1 : Int) + (k1 % (3 : Int))) ∧ ((1 : Int) + (k1 % (3 : Int))) ≤ 1000))) fun _ => mb (chk (decide (t5.length ≤ 50))) fun _ => mb (chk (decide (("k3" : Str).length + (repS t5 ((1 : Int) + (k1 % (3 : Int)))).length ≤ 100000))) fun _ => mb (oM (atI ([t5, ("t" : Str) ++ t5, t5 ++ ("7Q" : Str), ("k3" : Str) ++ (repS t5 ((1 : Int) + (k1 % (3 : Int))))]) ((style2 / (3 : Int)) % (4 : Int)))) fun t11 => mb (bif capital3 then mb (oM (atI (chs t11) (0 : Int))) fun t12 => mb (chk (decide (okS (Txt.upper t12)))) fun _ => mb (chk (decide ((Txt.upper t12).length + (cutS t11 (some (1 : Int)) none).length ≤ 100000))) fun _ => .ok ((Txt.upper t12) ++ (cutS t11 (some (1 : Int)) none)) else .ok t11) fun c15 => .ok c15
noncomputable def m__law_rules (cellhere1 : Int) (most2 : Int) : M (List (Str × (List Str))) := mb (m__law_draws cellhere1 ((2 : Int) + ((4 : Int) * most2))) fun t3 => mb (mlc (fun (y4 : Int) => .ok true) (fun (y4 : Int) => mb (oM (atI t3 (0 : Int))) fun t5 => mb (m__law_name y4 t5 true) fun t6 => .ok t6) (ups (4 : Int).toNat)) fun zs7 => mb (mlc (fun (y8 : Int) => .ok true) (fun (y8 : Int) => mb (oM (atI t3 (0 : Int))) fun t9 => mb (m__law_name y8 (t9 / (12 : Int)) false) fun t10 => .ok t10) (ups (4 : Int).toNat)) fun zs11 => mb (chk (decide (zs7.length + zs11.length ≤ 12000000))) fun _ => mb (.ok (zs7 ++ zs11)) fun signs13 => mb (oM (atI t3 (1 : Int))) fun t14 => mb (bif (decide ((t14 % (2 : Int)) = (1 : Int))) then mb (oM (atI zs7 (1 : Int))) fun t16 => mb (chk (decide (("x." : Str).length + t16.length ≤ 100000))) fun _ => mb (oM (ixN zs7.length (1 : Int))) fun j18 => mb (.ok (zs7.set j18 (("x." : Str) ++ t16))) fun heads19 => mb (oM (atI heads19 (1 : Int))) fun t20 => mb (oM (atI signs13 (5 : Int))) fun t21 => mb (chk (decide (("x." : Str).length + t21.length ≤ 100000))) fun _ => mb (chk (decide (signs13.length + ([t20, ("x." : Str) ++ t21]).length ≤ 12000000))) fun _ => mb (.ok (signs13 ++ ([t20, ("x." : Str) ++ t21]))) fun signs24 => .ok (heads19, signs24) else .ok (zs7, signs13)) fun (s15 : ((List Str) × (List Str))) => mb (.ok ([] : (List (Str × (List Str))))) fun ruleshere25 => mb (chk (decide (0 < (most2 + (1 : Int))))) fun _ => mb (chk (decide (-12000000 ≤ ((t14 / (2 : Int)) % (most2 + (1 : Int))) ∧ ((t14 / (2 : Int)) % (most2 + (1 : Int))) ≤ 12000000))) fun _ => mb (mfor (fun (s28 : (List (Str × (List Str)))) (x29 : Int) => mb (.ok (cut t3 (some ((2 : Int) + ((4 : Int) * x29))) (some ((6 : Int) + ((4 : Int) * x29))))) fun d31 => mb (oM (atI d31 (0 : Int))) fun t32 => mb (chk (decide ((cut d31 (some (1 : Int)) (some ((1 : Int) + ((t32 / (4 : Int)) % (4 : Int))))).length ≤ 12000000))) fun _ => mb (mlc (fun (y33 : Int) => .ok true) (fun (y33 : Int) => mb (chk (decide (0 < (s15.2.length : Int)))) fun _ => mb (oM (atI s15.2 (y33 % (s15.2.length : Int)))) fun t35 => .ok t35) (cut d31 (some (1 : Int)) (some ((1 : Int) + ((t32 / (4 : Int)) % (4 : Int)))))) fun zs37 => mb (oM (atI s15.1 (t32 % (4 : Int)))) fun t38 => mb (chk (decide (s28.length < 12000000))) fun _ => mb (.ok (s28 ++ [(t38, zs37)])) fun ruleshere40 => mb (oM (atI d31 (3 : Int))) fun t41 => bif (decide ((t41 % (5 : Int)) = (0 : Int))) then mb (oM (atI d31 (2 : Int))) fun t42 => mb (chk (decide (0 < (ruleshere40.length : Int)))) fun _ => mb (oM (atI ruleshere40 (t42 % (ruleshere40.length : Int)))) fun t44 => mb (chk (decide (ruleshere40.length < 12000000))) fun _ => mb (.ok (ruleshere40 ++ [t44])) fun ruleshere46 => .ok ruleshere46 else .ok ruleshere40) ruleshere25 (ups ((t14 / (2 : Int)) % (most2 + (1 : Int))).toNat)) fun s30 => .ok s30
noncomputable def m__law_grouped (ruleshere1 : (List (Str × (List Str)))) : M (List (Str × (List Str))) := mb (.ok ([] : (List Str))) fun heads2 => mb (mfor (fun (s3 : (List Str)) (x4 : (Str × (List Str))) => bif (!(decide (x4.1 ∈ s3))) then mb (chk (decide (s3.length < 12000000))) fun _ => mb (.ok (s3 ++ [x4.1])) fun heads7 => .ok heads7 else .ok s3) heads2 ruleshere1) fun s5 => mb (.ok ([] : (List (Str × (List Str))))) fun found8 => mb (mfor (fun (s9 : (List (Str × (List Str)))) (x10 : Str) => mb (mfor (fun (s12 : (List (Str × (List Str)))) (x13 : (Str × (List Str))) => bif ((decide (x13.1 = x10)) && (!(memB (x13.1, x13.2) s12))) then mb (chk (decide (s12.length < 12000000))) fun _ => mb (.ok (s12 ++ [(x13.1, x13.2)])) fun found16 => .ok found16 else .ok s12) s9 ruleshere1) fun s14 => .ok s14) found8 s5) fun s11 => .ok s11
noncomputable def m__law_same (told1 : (Str × (List Str))) (due2 : (Str × (List Str))) : M Bool := bif ((!true) || ((!decide (((2 : Nat) : Int) = (2 : Int))) || (!true))) then .ok false else bif (!true) then .ok false else mb (mforF (fun (s3 : Unit) (x4 : Str) => bif (!true) then .ok (.rt false) else .ok (.nx ())) () told1.2 : M (Fl Unit Bool)) fun o5 => Fl.go o5 (fun (s3 : Unit) => .ok (eqB told1 due2)) (fun x => .ok x) (fun _ => .error .stuck)
noncomputable def m__law_all_same (told1 : (List (Str × (List Str)))) (due2 : (List (Str × (List Str)))) : M Bool := bif (!decide ((told1.length : Int) = (due2.length : Int))) then .ok false else mb (chk (decide (-12000000 ≤ (due2.length : Int) ∧ (due2.length : Int) ≤ 12000000))) fun _ => mb (mforF (fun (s4 : Unit) (x5 : Int) => mb (oM (atI told1 x5)) fun t7 => mb (oM (atI due2 x5)) fun t8 => mb (m__law_same t7 t8) fun t9 => bif (!t9) then .ok (.rt false) else .ok (.nx ())) () (ups (due2.length : Int).toNat) : M (Fl Unit Bool)) fun o6 => Fl.go o6 (fun (s4 : Unit) => .ok true) (fun x => .ok x) (fun _ => .error .stuck)
noncomputable def m__law_odd (d1 : Int) : M Str := mb (.ok ([("" : Str), (" " : Str), ("A" : Str), ("A " : Str), ("A  -> b" : Str), ("A ->  b" : Str), ("A -> b " : Str), (" A -> b" : Str), ("A -> " : Str), ("a -> b" : Str)])) fun oddhere2 => mb (chk (decide (oddhere2.length + ([("A - > b" : Str), ("A => b" : Str)]).length ≤ 12000000))) fun _ => mb (.ok (oddhere2 ++ ([("A - > b" : Str), ("A => b" : Str)]))) fun oddhere4 => mb (chk (decide (oddhere4.length + ([("-> b" : Str), ("A -> b  C" : Str), ("A -> 9a" : Str), ("A -> b c." : Str), ("A -> b c d_e" : Str), ("A->b" : Str), ("x.a -> b" : Str), ("A -> b	c" : Str)]).length ≤ 12000000))) fun _ => mb (.ok (oddhere4 ++ ([("-> b" : Str), ("A -> b  C" : Str), ("A -> 9a" : Str), ("A -> b c." : Str), ("A -> b c d_e" : Str), ("A->b" : Str), ("x.a -> b" : Str), ("A -> b	c" : Str)]))) fun oddhere6 => mb (chk (decide (oddhere6.length + ([("9A -> b" : Str), ("A -> b ->" : Str), ("ABCDEFGHI -> b" : Str), ("A -> X.b" : Str)]).length ≤ 12000000))) fun _ => mb (.ok (oddhere6 ++ ([("9A -> b" : Str), ("A -> b ->" : Str), ("ABCDEFGHI -> b" : Str), ("A -> X.b" : Str)]))) fun oddhere8 => mb (oM (atI oddhere8 (d1 % (24 : Int)))) fun t9 => .ok t9
noncomputable def m_law (script1 : (List Int)) : M Bool := mb (m__law_cell script1 (0 : Int)) fun t2 => mb (m__law_rules t2 (9 : Int)) fun t3 => mb (m__law_cell script1 (1 : Int)) fun t4 => mb (m__law_draws t4 (6 : Int)) fun t5 => mb (bif (decide ((t3.length : Int) = (0 : Int))) then mb (.ok ([(("A" : Str), [("b" : Str)])])) fun ruleshere7 => .ok ruleshere7 else .ok t3) fun (s6 : (List (Str × (List Str)))) => mb (.ok ([] : (List Str))) fun lines8 => mb (mfor (fun (s9 : (List Str)) (x10 : (Str × (List Str))) => mb (chk (decide (x10.1.length + (" ->" : Str).length ≤ 100000))) fun _ => mb (chk (decide (x10.2.length ≤ 12000000))) fun _ => mb (mlc (fun (y13 : Str) => .ok true) (fun (y13 : Str) => mb (chk (decide ((" " : Str).length + y13.length ≤ 100000))) fun _ => .ok ((" " : Str) ++ y13)) x10.2) fun zs16 => mb (chk (decide ((zs16.map (·.length)).sum + zs16.length * ("" : Str).length ≤ 16777216))) fun _ => mb (chk (decide (okS (Txt.join ("" : Str) zs16)))) fun _ => mb (chk (decide ((x10.1 ++ (" ->" : Str)).length + (Txt.join ("" : Str) zs16).length ≤ 100000))) fun _ => mb (chk (decide (s9.length < 12000000))) fun _ => mb (.ok (s9 ++ [(x10.1 ++ (" ->" : Str)) ++ (Txt.join ("" : Str) zs16)])) fun lines21 => .ok lines21) lines8 s6) fun s11 => mb (.ok (0 : Int)) fun first22 => mb (oM (atI t5 (0 : Int))) fun t23 => mb (chk (decide (-12000000 ≤ (t23 % (3 : Int)) ∧ (t23 % (3 : Int)) ≤ 12000000))) fun _ => mb (mfor (fun (s25 : ((List Str) × Int)) (x26 : Int) => mb (oM (atI t5 ((1 : Int) + x26))) fun t28 => mb (chk (decide (0 < (s25.1.length : Int)))) fun _ => mb (.ok (t28 % (s25.1.length : Int))) fun place30 => mb (oM (atI t5 ((3 : Int) + x26))) fun t31 => mb (m__law_odd t31) fun t32 => mb (oM (ixN s25.1.length place30)) fun j33 => mb (.ok (s25.1.set j33 t32)) fun lines34 => bif ((decide (s25.2 = (0 : Int))) || (decide ((place30 + (1 : Int)) < s25.2))) then mb (.ok (place30 + (1 : Int))) fun first35 => .ok (lines34, first35) else .ok (lines34, s25.2)) (s11, first22) (ups (t23 % (3 : Int)).toNat)) fun s27 => mb (mand (decide ((0 : Int) < s27.2)) (mb (mand (decide ((s27.1.length : Int) = (1 : Int))) (mb (oM (atI s27.1 (0 : Int))) fun t36 => .ok (decide (t36 = ("" : Str))))) fun c37 => .ok c37)) fun c38 => mb (bif c38 then mb (.ok (0 : Int)) fun first40 => mb (.ok ([] : (List (Str × (List Str))))) fun ruleshere41 => .ok (ruleshere41, first40) else .ok (s6, s27.2)) fun (s39 : ((List (Str × (List Str))) × Int)) => mb (.ok (0 : Int)) fun told42 => mb (chk (decide ((s27.1.map (·.length)).sum + s27.1.length * ("\n" : Str).length ≤ 16777216))) fun _ => mb (chk (decide (okS (Txt.join ("\n" : Str) s27.1)))) fun _ => mb (mtry (m_Grammar_from_string () (Txt.join ("\n" : Str) s27.1)) "BadLine" (fun grammar45 => .ok (.nx (told42, grammar45))) (fun fs46 => bif ((!true) || (!true)) then .ok (.rt false) else mb (oM (payI fs46 "number")) fun t52 => bif ((!true) || false) then .ok (.rt false) else mb (m_Grammar___init__ ([] : List Rule)) fun t53 => .ok (.nx (t52, t53))) : M (Fl (Int × (List Rule)) Bool)) fun o48 => Fl.go o48 (fun (s47 : (Int × (List Rule))) => bif (!decide (s47.1 = s39.2)) then .ok false else mb (mor (decide ((0 : Int) < s39.2)) (mb (m__law_grouped s39.1) fun t49 => mb (m__law_all_same s47.2 t49) fun t50 => .ok t50)) fun c51 => .ok c51) (fun x => .ok x) (fun _ => .error .stuck)
end
section
def cellAt (ns : List Int) (k : Int) : Int := bif decide (k < (ns.length : Int)) then ns.getD k.toNat 0 else 0
theorem t_cell {ns : List Int} {k : Int} (h : 0 ≤ k) : m__law_cell ns k = .ok (cellAt ns k) := by
  unfold m__law_cell cellAt
  cases e : decide (k < (ns.length : Int)) with
  | false => rfl
  | true =>
    have h1 := of_decide_eq_true e
    obtain ⟨x, e1, e2, _⟩ := atI_in (xs := ns) h h1
    rw [cond_true, mb_of (mb_of (oM_of e1)), cond_true]
    show mb (.ok x) _ = _
    rw [List.getD_eq_getElem?_getD, e2]
    rfl
theorem t_draws {c n : Int} (h : 0 ≤ n ∧ n ≤ 1000) : Tt (m__law_draws c n) fun row => row.length = n.toNat ∧ ∀ d ∈ row, 0 ≤ d ∧ d < 840 := by
  unfold m__law_draws
  refine Tt.let (Tt.let (Tt.chk (by omega) ?_))
  refine (Tt.for (fun (pre : List Int) (s : Int × List Int) => s.2.length = pre.length ∧ ∀ d ∈ s.2, 0 ≤ d ∧ d < 840) ⟨rfl, by intro d hd; cases hd⟩ ?_).bind fun s hs => Tt.ret ⟨by rw [hs.1, ups_len], hs.2⟩
  intro pre x post s hx ⟨hl, hd⟩
  have h3 := congrArg List.length hx
  rw [ups_len, List.length_append, List.length_cons] at h3
  have app : ∀ v : Int, 0 ≤ v ∧ v < 840 → (s.2 ++ [v]).length = (pre ++ [x]).length ∧ ∀ d ∈ s.2 ++ [v], 0 ≤ d ∧ d < 840 := fun v hv => by
    refine ⟨by rw [List.length_append, List.length_append, hl]; rfl, fun d hm => ?_⟩
    rcases List.mem_append.mp hm with q | q
    · exact hd d q
    · rw [List.mem_singleton.mp q]; exact hv
  refine Tt.if (fun _ => ?_) fun _ => ?_
  · exact Tt.chk (by omega) (Tt.let (Tt.let (Tt.ret (app _ ⟨Int.emod_nonneg _ (by decide), Int.emod_lt_of_pos _ (by decide)⟩))))
  · refine Tt.let ?_
    have h1 : ∀ a : Int, CMul (a % 1000003) (a % 1000003) := fun a => .inl (by omega)
    have h2 : ∀ a : Int, CMul (a % 999983) (a % 999983) := fun a => .inl (by omega)
    refine Tt.chk (h1 _) (Tt.let (Tt.chk (h2 _) (Tt.chk (by omega) (Tt.let (Tt.ret (app _ ⟨?_, ?_⟩))))))
    · exact Int.emod_nonneg _ (by decide)
    · exact Int.emod_lt_of_pos _ (by decide)
end
section
noncomputable def nameT (k st : Int) (cap : Bool) : Str := match m__law_name k (st % 12) cap with
  | .ok s => s
  | .error _ => ""
theorem name12 (k st : Int) (cap : Bool) : m__law_name k st cap = m__law_name k (st % 12) cap := by
  unfold m__law_name
  rw [show st % 12 % 3 = st % 3 by omega, show st % 12 / 3 % 4 = st / 3 % 4 by omega]
def isOk {α : Type} : M α → Bool
  | .ok _ => true
  | .error _ => false
theorem name_tab : ∀ k < 8, ∀ st < 12, ∀ cap : Bool, isOk (m__law_name (k : Nat) (st : Nat) cap) = true ∧ (nameT (k : Nat) (st : Nat) cap).length ≤ 8 := by decide +kernel
theorem t_name {k st : Int} {cap : Bool} (h : 0 ≤ k ∧ k < 8) : m__law_name k st cap = .ok (nameT k st cap) ∧ (nameT k st cap).length ≤ 8 := by
  obtain ⟨k, rfl⟩ := Int.eq_ofNat_of_zero_le h.1
  have e0 : 0 ≤ st % 12 := Int.emod_nonneg _ (by decide)
  have e1 : st % 12 < 12 := Int.emod_lt_of_pos _ (by decide)
  have eN : nameT k st cap = nameT k (st % 12) cap := by unfold nameT; rw [Int.emod_emod_of_dvd _ (by decide)]
  rw [name12, eN]
  obtain ⟨s, hs⟩ := Int.eq_ofNat_of_zero_le e0
  rw [hs] at e1 ⊢
  obtain ⟨a, b⟩ := name_tab k (by omega) s (by omega) cap
  refine ⟨?_, b⟩
  unfold nameT
  rw [show ((s : Int)) % 12 = (s : Int) by omega]
  cases q : m__law_name (k : Int) (s : Int) cap with
  | ok v => rfl
  | error _ => rw [q] at a; cases a
noncomputable def names (cap : Bool) : List Str := (List.range 8).flatMap fun k => (List.range 12).map fun (st : Nat) => nameT (k : Nat) (st : Nat) cap
theorem name_in {k st : Int} {cap : Bool} (h : 0 ≤ k ∧ k < 8) : nameT k st cap ∈ names cap := by
  obtain ⟨k, rfl⟩ := Int.eq_ofNat_of_zero_le h.1
  have e0 : 0 ≤ st % 12 := Int.emod_nonneg _ (by decide)
  have e1 : st % 12 < 12 := Int.emod_lt_of_pos _ (by decide)
  have eN : nameT k st cap = nameT k (st % 12) cap := by unfold nameT; rw [Int.emod_emod_of_dvd _ (by decide)]
  obtain ⟨s, hs⟩ := Int.eq_ofNat_of_zero_le e0
  rw [eN, hs]
  rw [hs] at e1
  exact List.mem_flatMap.mpr ⟨k, List.mem_range.mpr (by omega), List.mem_map.mpr ⟨s, List.mem_range.mpr (by omega), rfl⟩⟩
noncomputable def AH : List Str := names true ++ (names true).map fun s => ("x." : Str) ++ s
noncomputable def AS : List Str := AH ++ (names false ++ (names false).map fun s => ("x." : Str) ++ s)
theorem AH_AS {s : Str} (h : s ∈ AH) : s ∈ AS := List.mem_append.mpr (.inl h)
theorem x_AH {s : Str} (h : s ∈ names true) : ("x." : Str) ++ s ∈ AH := List.mem_append.mpr (.inr (List.mem_map.mpr ⟨s, h, rfl⟩))
theorem n_AH {s : Str} (h : s ∈ names true) : s ∈ AH := List.mem_append.mpr (.inl h)
theorem x_AS {s : Str} (h : s ∈ names false) : ("x." : Str) ++ s ∈ AS := List.mem_append.mpr (.inr (List.mem_append.mpr (.inr (List.mem_map.mpr ⟨s, h, rfl⟩))))
theorem n_AS {s : Str} (h : s ∈ names false) : s ∈ AS := List.mem_append.mpr (.inr (List.mem_append.mpr (.inl h)))
theorem names_len : ∀ cap : Bool, ∀ s ∈ names cap, s.length ≤ 8 := by decide +kernel
end
section
theorem len_xdot (s : Str) (h : s.length ≤ 8) : ("x." : Str).length + s.length ≤ 100000 := by
  have : ("x." : Str).length = 2 := by decide +kernel
  omega
abbrev RulesOk3 (n : Nat) (rs : List (Str × List Str)) : Prop := rs.length ≤ n ∧ ∀ r ∈ rs, (r.1 ∈ AH ∧ ∀ s ∈ r.2, s ∈ AS) ∧ r.2.length ≤ 3
theorem t_rules3 {c most : Int} (hm : 0 ≤ most ∧ most ≤ 100) : Tt (m__law_rules c most) fun rs => RulesOk3 (2 * most.toNat) rs := by
  unfold m__law_rules
  refine (t_draws (by omega)).bind fun row ⟨hl, hd⟩ => ?_
  have four : ∀ x ∈ ups (4 : Int).toNat, 0 ≤ x ∧ x < 8 := fun x hx => by have := ups_mem hx; omega
  refine (Tt.lc (P := fun s : Str => s ∈ names true) fun k hk => Tt.ix (by omega) (by omega) fun st _ _ => ?_).bind fun heads ⟨hl1, hs1⟩ => ?_
  · rw [mb_of (t_name (four k hk)).1]
    exact name_in (four k hk)
  refine (Tt.lc (P := fun s : Str => s ∈ names false) fun k hk => Tt.ix (by omega) (by omega) fun st _ _ => ?_).bind fun toks ⟨hl2, hs2⟩ => ?_
  · rw [mb_of (t_name (four k hk)).1]
    exact name_in (four k hk)
  have u4 : (ups (4 : Int).toNat).length = 4 := ups_len _
  rw [u4] at hl1 hl2
  refine Tt.chk (by omega) (Tt.let (Tt.ix (by omega) (by omega) fun t _ _ => ?_))
  have hla : (heads ++ toks).length = 8 := by rw [List.length_append]; omega
  have sAS : ∀ s ∈ heads ++ toks, s ∈ AS := fun s hs => by
    rcases List.mem_append.mp hs with q | q
    · exact AH_AS (n_AH (hs1 s q))
    · exact n_AS (hs2 s q)
  refine Tt.bind (P := fun s : List Str × List Str => (s.1.length = 4 ∧ ∀ x ∈ s.1, x ∈ AH) ∧ (8 ≤ s.2.length ∧ s.2.length ≤ 10) ∧ ∀ x ∈ s.2, x ∈ AS) ?_ fun s ⟨⟨q1, q4⟩, ⟨q2, q3⟩, q5⟩ => ?_
  · refine Tt.if (fun _ => ?_) fun _ => Tt.ret ⟨⟨hl1, fun x hx => n_AH (hs1 x hx)⟩, by show 8 ≤ (heads ++ toks).length ∧ (heads ++ toks).length ≤ 10; omega, sAS⟩
    refine Tt.ix (by omega) (by omega) fun h1 hh1 _ => Tt.chk (len_xdot _ (names_len _ _ (hs1 _ hh1))) (Tt.ixN (by omega) (by omega) (Tt.let ?_))
    have hls : (heads.set (1 : Int).toNat (("x." : Str) ++ h1)).length = 4 := by rw [List.length_set]; exact hl1
    have hsA : ∀ x ∈ heads.set (1 : Int).toNat (("x." : Str) ++ h1), x ∈ AH := fun x hx => by
      rcases List.mem_or_eq_of_mem_set hx with q | q
      · exact n_AH (hs1 x q)
      · rw [q]; exact x_AH (hs1 _ hh1)
    refine Tt.ix (by omega) (by omega) fun h2 hh2 _ => Tt.ix (by omega) (by omega) fun s2 _ e5 => ?_
    have hs2' : s2 ∈ names false := by
      rw [List.getElem?_append_right (by rw [hl1]; decide)] at e5
      exact hs2 _ (List.mem_of_getElem? e5)
    refine Tt.chk (len_xdot _ (names_len _ _ hs2')) (Tt.chk ?_ (Tt.let (Tt.ret ⟨⟨hls, hsA⟩, ⟨?_, ?_⟩, ?_⟩)))
    · simp only [List.length_cons, List.length_nil]; omega
    · show 8 ≤ (heads ++ toks ++ [h2, _]).length; rw [List.length_append, hla]; exact Nat.le_add_right _ _
    · show (heads ++ toks ++ [h2, _]).length ≤ 10; rw [List.length_append, hla]; exact Nat.le_refl _
    · intro x hx
      rcases List.mem_append.mp hx with q | q
      · exact sAS x q
      · rcases List.mem_cons.mp q with q | q
        · rw [q]; exact AH_AS (hsA _ hh2)
        · rw [List.mem_singleton.mp q]; exact x_AS hs2'
  have hn0 : 0 ≤ t / 2 % (most + 1) := Int.emod_nonneg _ (by omega)
  have hn1 : t / 2 % (most + 1) < most + 1 := Int.emod_lt_of_pos _ (by omega)
  refine Tt.let (Tt.chk (by omega) (Tt.chk (by omega) ?_))
  generalize t / 2 % (most + 1) = n at hn0 hn1 ⊢
  refine (Tt.for (fun (pre : List Int) (rs : List (Str × List Str)) => rs.length ≤ 2 * pre.length ∧ ∀ r ∈ rs, (r.1 ∈ AH ∧ ∀ s ∈ r.2, s ∈ AS) ∧ r.2.length ≤ 3) ⟨Nat.le_refl _, by intro r hr; cases hr⟩ ?_).bind fun rs hrs => Tt.ret ?_
  · intro pre x post rs hx ⟨hrs, hrr⟩
    have hx1 : x ∈ ups n.toNat := by rw [hx]; simp
    have hx2 := ups_mem hx1
    have h3 := congrArg List.length hx
    rw [ups_len, List.length_append, List.length_cons] at h3
    refine Tt.let ?_
    have hc : (cut row (some (2 + 4 * x)) (some (6 + 4 * x))).length = 4 := by
      rw [cut_len_in (by omega) (by omega) (by omega)]; omega
    generalize cut row (some (2 + 4 * x)) (some (6 + 4 * x)) = d at hc
    refine Tt.ix (by omega) (by omega) fun d0 _ _ => Tt.chk (by have := cut_le d (some 1) (some (1 + d0 / 4 % 4)); omega) ?_
    refine (Tt.lc (P := fun y : Str => y ∈ AS) fun y _ => ?_).bind fun side hside => ?_
    · refine Tt.chk (by omega) (Tt.ix (Int.emod_nonneg _ (by omega)) (Int.emod_lt_of_pos _ (by omega)) fun y hy _ => Tt.ret (q5 y hy))
    refine Tt.ix (Int.emod_nonneg _ (by decide)) (by have := Int.emod_lt_of_pos d0 (b := 4) (by decide); omega) fun hd hhd _ => Tt.chk (by omega) (Tt.let (Tt.ix (by omega) (by omega) fun d3 _ _ => ?_))
    have hl9 : (rs ++ [(hd, side)]).length = rs.length + 1 := by rw [List.length_append]; rfl
    have hl8 : (pre ++ [x]).length = pre.length + 1 := by rw [List.length_append]; rfl
    have side3 : side.length ≤ 3 := by
      rw [hside.1]
      have e0 : 0 ≤ d0 / 4 % 4 := Int.emod_nonneg _ (by decide)
      have e1 : d0 / 4 % 4 < 4 := Int.emod_lt_of_pos _ (by decide)
      rw [cut_len_in (by omega) (by omega) (by omega)]
      omega
    have new : ∀ r ∈ rs ++ [(hd, side)], (r.1 ∈ AH ∧ ∀ s ∈ r.2, s ∈ AS) ∧ r.2.length ≤ 3 := fun r hr => by
      rcases List.mem_append.mp hr with q | q
      · exact hrr r q
      · rw [List.mem_singleton.mp q]; exact ⟨⟨q4 _ hhd, hside.2⟩, side3⟩
    refine Tt.if (fun _ => ?_) fun _ => Tt.ret ⟨by rw [hl9, hl8]; omega, new⟩
    refine Tt.ix (by omega) (by omega) fun d2 _ _ => Tt.chk (by rw [hl9]; omega) (Tt.ix (Int.emod_nonneg _ (by rw [hl9]; omega)) (Int.emod_lt_of_pos _ (by rw [hl9]; omega)) fun r hr _ => Tt.chk (by rw [hl9]; omega) (Tt.let (Tt.ret ⟨?_, ?_⟩)))
    · rw [List.length_append, hl9, hl8, List.length_singleton]
      omega
    · intro r' hr'
      rcases List.mem_append.mp hr' with q | q
      · exact new r' q
      · rw [List.mem_singleton.mp q]; exact new r hr
  · rw [ups_len] at hrs; exact ⟨by omega, hrs.2⟩
end
section
theorem dotL : TL.tl (Str.ofString ".") = [46] := by decide +kernel
theorem dotK : (Str.ofString ".").cps.all (· < 256) = true := by decide +kernel
theorem tl_inj {x y : Str} (h : TL.tl x = TL.tl y) : x = y := TL.ext_tl h
def mkS (l : List Nat) : Str := ⟨l.toArray⟩
theorem tl_mkS (l : List Nat) : TL.tl (mkS l) = l := rfl
theorem mkS_len (l : List Nat) : (mkS l).length = l.length := by rw [TL.len_tl]; rfl
theorem split_tl (s : Str) : (Txt.split s ".").map TL.tl = TL.spl [46] 0 [] (TL.tl s) := by
  rw [← dotL]
  exact TL.split_spl s "." (by rw [dotL]; exact fun h => nomatch h) (TL.kind_ok dotK)
theorem split_none {s : Str} (h : 46 ∉ TL.tl s) : Txt.split s "." = [s] := by
  apply TL.map_tl_inj
  rw [split_tl, TL.spl_last1 h]
  rfl
theorem split_one {s : Str} {p r : List Nat} (e : TL.tl s = p ++ 46 :: r) (hp : 46 ∉ p) : Txt.split s "." = mkS p :: Txt.split (mkS r) "." := by
  apply TL.map_tl_inj
  have h1 : TL.spl [46] 0 [] (p ++ ([46] ++ r)) = ([] ++ p) :: TL.spl [46] 0 [] r := TL.spl_part1 (s := 46) (S := []) hp
  rw [split_tl, e, show p ++ 46 :: r = p ++ ([46] ++ r) from rfl, h1, List.map_cons, split_tl, tl_mkS, tl_mkS]
  rfl
theorem split_pos (s : Str) : 1 ≤ (Txt.split s ".").length := by
  by_cases h : 46 ∈ TL.tl s
  · obtain ⟨p, r, e, hp⟩ := List.eq_append_cons_of_mem h
    rw [split_one e hp, List.length_cons]
    omega
  · rw [split_none h]
    exact Nat.le_refl _
theorem split_cases (s : Str) : (46 ∉ TL.tl s ∧ Txt.split s "." = [s]) ∨ (∃ p r, TL.tl s = p ++ 46 :: r ∧ 46 ∉ p ∧ 46 ∉ r ∧ Txt.split s "." = [mkS p, mkS r]) ∨ 3 ≤ (Txt.split s ".").length := by
  by_cases h : 46 ∈ TL.tl s
  · obtain ⟨p, r, e, hp⟩ := List.eq_append_cons_of_mem h
    by_cases h2 : 46 ∈ r
    · obtain ⟨p2, r2, e2, hp2⟩ := List.eq_append_cons_of_mem h2
      refine .inr (.inr ?_)
      rw [split_one e hp, split_one (s := mkS r) (p := p2) (r := r2) (by rw [tl_mkS]; exact e2) hp2, List.length_cons, List.length_cons]
      have := split_pos (mkS r2)
      omega
    · refine .inr (.inl ⟨p, r, e, hp, h2, ?_⟩)
      rw [split_one e hp, split_none (s := mkS r) (by rw [tl_mkS]; exact h2)]
  · exact .inl ⟨h, split_none h⟩
theorem at_dot {s : Str} {i : Nat} : StrLaws.At s (Str.ofString ".") s.length i ↔ (TL.tl s)[i]? = some 46 := by
  rw [TL.at_iff (by rw [dotL]; exact fun h => nomatch h), dotL]
  unfold TL.pre
  rw [show ([46] : List Nat).length = 1 from rfl]
  constructor
  · intro h
    have h := eq_of_beq h
    cases e : (TL.tl s).drop i with
    | nil => rw [e] at h; cases h
    | cons c r =>
      rw [e] at h
      have h2 : c = 46 := by injection h
      have := List.getElem?_drop (xs := TL.tl s) (i := i) (j := 0)
      rw [e, Nat.add_zero] at this
      rw [← this, h2]
      rfl
  · intro h
    have h2 := List.drop_eq_getElem_cons (List.getElem?_eq_some_iff.mp h).1
    rw [h2, (List.getElem?_eq_some_iff.mp h).2]
    rfl
theorem rpart_none {s : Str} (h : 46 ∉ TL.tl s) : (Txt.rpartition s ".").2.2 = s := by
  unfold Txt.rpartition
  rcases StrLaws.last_spec s (Str.ofString ".") with ⟨e, _⟩ | ⟨i, e, ha, _⟩
  · rw [e]
  · exact absurd (List.mem_of_getElem? (at_dot.mp ha)) h
theorem rpart_some {s : Str} {p r : List Nat} (e : TL.tl s = p ++ 46 :: r) (hr : 46 ∉ r) : (Txt.rpartition s ".").2.2 = mkS r := by
  unfold Txt.rpartition
  have hp : (TL.tl s)[p.length]? = some 46 := by rw [e, List.getElem?_append_right (Nat.le_refl _), Nat.sub_self]; rfl
  rcases StrLaws.last_spec s (Str.ofString ".") with ⟨_, n⟩ | ⟨i, ei, ha, hn⟩
  · exact absurd (at_dot.mpr hp) (n _)
  · have hi := at_dot.mp ha
    have h1 : i = p.length := by
      rcases Nat.lt_trichotomy i p.length with q | q | q
      · exact absurd (at_dot.mpr hp) (hn _ q)
      · exact q
      · rw [e, List.getElem?_append_right (by omega)] at hi
        obtain ⟨k, hk⟩ : ∃ k, i - p.length = k + 1 := ⟨i - p.length - 1, by omega⟩
        rw [hk, List.getElem?_cons_succ] at hi
        exact absurd (List.mem_of_getElem? hi) hr
    rw [ei]
    apply tl_inj
    show TL.tl (Builtin.Str.strSub s (i + (Str.ofString ".").length) s.length) = _
    rw [TL.tl_strSub_end, tl_mkS, e, h1, show (Str.ofString ".").length = 1 from rfl, List.drop_append]
    simp
end
section
abbrev azS : Str := "abcdefghijklmnopqrstuvwxyz"
abbrev AZS : Str := "ABCDEFGHIJKLMNOPQRSTUVWXYZ"
abbrev dgS : Str := "0123456789"
def cSm (x : Str) : Bool := match sgn x with | some c => decide (c ∈ azS.cps.toList) | none => false
def cDg (x : Str) : Bool := match sgn x with | some c => decide (c ∈ dgS.cps.toList) | none => false
def cAl (x : Str) : Bool := match sgn x with | some c => decide (c ∈ azS.cps.toList) || (decide (c ∈ AZS.cps.toList) || decide (c ∈ dgS.cps.toList)) | none => false
def Ln (t : Str) : Bool := decide ((1 : Int) ≤ (t.length : Int)) && decide ((t.length : Int) ≤ 8)
def hdOf (f : Str → Bool) (t : Str) : Bool := match chs t with | x :: _ => f x | [] => false
def ownW (t : Str) : Bool := Ln t && (chs t).all cSm
def plainW (t : Str) : Bool := bif !(Ln t) || hdOf cDg t then false else (chs t).all cAl
theorem chs_sgn {t x : Str} (h : x ∈ chs t) : ∃ c, sgn x = some c ∧ x = ⟨#[c]⟩ ∧ c ∈ t.cps.toList := by
  unfold chs at h
  obtain ⟨c, hc, e⟩ := List.mem_map.mp h
  exact ⟨c, by rw [← e]; exact sgn_one c, e.symm, hc⟩
theorem all_map {α : Type} (f : α → Bool) (xs : List α) : (xs.map f).all id = xs.all f := by
  rw [List.all_map]
  rfl
theorem hd_at {t : Str} (f : Str → Bool) (h : Ln t = true) : ∃ x c, chs t = x :: (chs t).tail ∧ atI (chs t) 0 = some x ∧ sgn x = some c ∧ hdOf f t = f x := by
  unfold Ln at h
  have h1 := of_decide_eq_true (Bool.and_eq_true_iff.mp h).1
  cases e : chs t with
  | nil => have := chs_len t; rw [e] at this; have : t.length = 0 := this.symm; omega
  | cons x xs =>
    obtain ⟨c, e2, _⟩ := chs_sgn (t := t) (x := x) (by rw [e]; exact List.mem_cons_self ..)
    exact ⟨x, c, rfl, atI_zero, e2, by unfold hdOf; rw [e]⟩
def Asc (w : Str) : Prop := w.length ≤ 600 ∧ ∀ c ∈ TL.tl w, c < 128
theorem asc_okS {w : Str} (h : Asc w) : okS w := by
  refine ⟨by have := h.1; omega, ?_⟩
  rw [← Array.all_toList, List.all_eq_true]
  intro c hc
  have := h.2 c hc
  exact decide_eq_true (by omega)
theorem split_in : ∀ (n : Nat) (s : Str), (TL.tl s).length ≤ n → ∀ x ∈ Txt.split s ".", x.length ≤ s.length ∧ ∀ c ∈ TL.tl x, c ∈ TL.tl s
  | n, s, hn, x, hx => by
    by_cases h : 46 ∈ TL.tl s
    · obtain ⟨p, r, e, hp⟩ := List.eq_append_cons_of_mem h
      have hl : s.length = p.length + (r.length + 1) := by rw [TL.len_tl, e, List.length_append, List.length_cons]
      rw [split_one e hp] at hx
      rcases List.mem_cons.mp hx with q | q
      · rw [q]
        refine ⟨by rw [mkS_len]; omega, fun c hc => ?_⟩
        rw [e]
        exact List.mem_append_left _ hc
      · cases n with
        | zero => rw [← TL.len_tl] at hn; omega
        | succ n =>
          obtain ⟨h1, h2⟩ := split_in n (mkS r) (by rw [tl_mkS]; rw [← TL.len_tl] at hn; omega) x q
          refine ⟨by rw [mkS_len] at h1; omega, fun c hc => ?_⟩
          rw [e]
          exact List.mem_append_right _ (List.mem_cons_of_mem _ (h2 c hc))
    · rw [split_none h] at hx
      cases List.mem_singleton.mp hx
      exact ⟨Nat.le_refl _, fun c hc => hc⟩
theorem split_asc {s : Str} (h : Asc s) : ∀ x ∈ Txt.split s ".", Asc x := fun x hx => by
  obtain ⟨h1, h2⟩ := split_in _ s (Nat.le_refl _) x hx
  exact ⟨Nat.le_trans h1 h.1, fun c hc => h.2 c (h2 c hc)⟩
def SG (w : Str) : Bool := bif decide (((Txt.split w ".").length : Int) = 2) then ownW ((Txt.split w ".").getD 0 "") && plainW ((Txt.split w ".").getD 1 "") else plainW w
theorem two_parts {xs : List Str} (h : (xs.length : Int) = 2) : ∃ a b, xs = [a, b] := by
  match xs, h with
  | [a, b], _ => exact ⟨a, b, rfl⟩
  | [], h => cases h
  | [_], h => simp at h
  | _ :: _ :: _ :: _, h => simp at h; omega
theorem dot_plain {w : Str} (h : 46 ∈ TL.tl w) : plainW w = false := by
  unfold plainW
  cases !(Ln w) || hdOf cDg w with
  | true => rfl
  | false =>
    rw [cond_false, Bool.eq_false_iff]
    intro q
    rw [List.all_eq_true] at q
    have := q ⟨#[46]⟩ (List.mem_map.mpr ⟨46, h, rfl⟩)
    exact absurd this (by decide +kernel)
def TK (w : Str) : Bool := bif decide (((Txt.split w ".").length : Int) = 2) then hdOf cSm ((Txt.split w ".").getD 1 "") else hdOf cSm w
theorem plain_ln {t : Str} (h : plainW t = true) : Ln t = true := by
  unfold plainW at h
  cases q : Ln t with
  | true => rfl
  | false => rw [q] at h; cases h
theorem rpart_ok {s : Str} (a : Asc s) (h : 46 ∉ TL.tl s) : okS (Txt.rpartition s ".").1 ∧ okS (Txt.rpartition s ".").2.1 ∧ okS (Txt.rpartition s ".").2.2 := by
  refine ⟨?_, ?_, by rw [rpart_none h]; exact asc_okS a⟩ <;>
  · unfold Txt.rpartition
    rcases StrLaws.last_spec s (Str.ofString ".") with ⟨e, _⟩ | ⟨i, e, ha, _⟩
    · rw [e]; exact (by decide +kernel : okS Str.empty)
    · exact absurd (List.mem_of_getElem? (at_dot.mp ha)) h
theorem rpart_ok2 {s : Str} {p r : List Nat} (a : Asc s) (e : TL.tl s = p ++ 46 :: r) (hr : 46 ∉ r) : okS (Txt.rpartition s ".").1 ∧ okS (Txt.rpartition s ".").2.1 ∧ okS (Txt.rpartition s ".").2.2 := by
  have ar : Asc (mkS r) := ⟨by have := a.1; rw [TL.len_tl, e, List.length_append, List.length_cons] at this; rw [mkS_len]; omega, fun c hc => a.2 c (by rw [e]; exact List.mem_append_right _ (List.mem_cons_of_mem _ hc))⟩
  refine ⟨?_, ?_, by rw [rpart_some e hr]; exact asc_okS ar⟩
  · unfold Txt.rpartition
    rcases StrLaws.last_spec s (Str.ofString ".") with ⟨e1, _⟩ | ⟨i, e1, _, _⟩
    · rw [e1]; exact (by decide +kernel : okS Str.empty)
    · rw [e1]
      refine asc_okS (w := Builtin.Str.strSub s 0 i) ⟨?_, fun c hc => a.2 c ?_⟩
      · rw [TL.len_tl, TL.tl_strSub, List.length_take, List.length_drop]
        have := a.1
        rw [TL.len_tl] at this
        omega
      · rw [TL.tl_strSub] at hc
        exact List.mem_of_mem_drop (List.mem_of_mem_take hc)
  · unfold Txt.rpartition
    rcases StrLaws.last_spec s (Str.ofString ".") with ⟨e1, _⟩ | ⟨i, e1, _, _⟩
    · rw [e1]; exact (by decide +kernel : okS Str.empty)
    · rw [e1]; exact (by decide +kernel : okS ("." : Str))
theorem sg_cases {w : Str} (h : SG w = true) : (46 ∉ TL.tl w ∧ Txt.split w "." = [w] ∧ plainW w = true ∧ TK w = hdOf cSm w) ∨ ∃ p r, TL.tl w = p ++ 46 :: r ∧ 46 ∉ p ∧ 46 ∉ r ∧ Txt.split w "." = [mkS p, mkS r] ∧ plainW (mkS r) = true ∧ ownW (mkS p) = true ∧ TK w = hdOf cSm (mkS r) := by
  unfold SG at h
  unfold TK
  rcases split_cases w with ⟨n, e⟩ | ⟨p, r, e0, hp, hr, e⟩ | h3
  · rw [e] at h ⊢
    exact .inl ⟨n, rfl, h, rfl⟩
  · rw [e] at h ⊢
    have h : (ownW (mkS p) && plainW (mkS r)) = true := h
    obtain ⟨h1, h2⟩ := Bool.and_eq_true_iff.mp h
    exact .inr ⟨p, r, e0, hp, hr, rfl, h2, h1, rfl⟩
  · rw [decide_eq_false (show ¬ ((Txt.split w ".").length : Int) = 2 by omega), cond_false] at h
    have d : 46 ∈ TL.tl w := Classical.byContradiction fun n => by rw [split_none n] at h3; exact absurd h3 (show ¬ 3 ≤ 1 by decide)
    rw [dot_plain d] at h
    cases h
end
section
theorem t_owner {t : Str} (h : t.length ≤ 12000000) : m_is_owner t = .ok (ownW t) := by
  unfold m_is_owner
  rw [mb_of (Tt.mand (b := (chs t).all cSm) fun _ => ?_)]
  · rfl
  · rw [mb_of (chk_of (decide_eq_true (by rw [chs_len]; exact h)))]
    rw [mb_of (mlc_map (f' := cSm) fun x hx => ?_)]
    · exact congrArg Except.ok (all_map cSm _)
    · obtain ⟨c, e, _⟩ := chs_sgn hx
      rw [mb_of (oM_of e)]
      unfold cSm
      rw [e]
theorem t_plain {t : Str} (h : t.length ≤ 12000000) : m_is_plain t = .ok (plainW t) := by
  unfold m_is_plain
  rw [mb_of (Tt.mor (b := hdOf cDg t) fun q => ?_)]
  · show (bif !(Ln t) || hdOf cDg t then _ else _) = _
    unfold plainW
    cases !(Ln t) || hdOf cDg t with
    | true => rfl
    | false =>
      rw [cond_false, cond_false, mb_of (chk_of (decide_eq_true (by rw [chs_len]; exact h)))]
      rw [mb_of (mlc_map (f' := cAl) fun x hx => ?_)]
      · exact congrArg Except.ok (all_map cAl _)
      · obtain ⟨c, e, _⟩ := chs_sgn hx
        rw [mb_of (oM_of e)]
        unfold cAl
        rw [e]
  · have q : Ln t = true := by
      have : (!(Ln t)) = false := q
      simpa using this
    obtain ⟨x, c, _, e1, e2, e3⟩ := hd_at cDg q
    rw [mb_of (oM_of e1), mb_of (oM_of e2), e3]
    unfold cDg
    rw [e2]
theorem t_sign {w : Str} (h : Asc w) : m_is_sign w = .ok (SG w) := by
  have hs := split_asc h
  unfold m_is_sign
  rw [mb_of (chk_of (by decide +kernel)), mb_of (chk_of (decide_eq_true (by have := h.1; omega))), mb_of (chk_of (decide_eq_true fun x hx => asc_okS (hs x hx))), mb_ret]
  unfold SG
  cases c : decide (((Txt.split w ".").length : Int) = 2) with
  | true =>
    obtain ⟨a, b, e⟩ := two_parts (of_decide_eq_true c)
    rw [e] at hs ⊢
    have ha := (hs a (List.mem_cons_self ..)).1
    have hb := (hs b (List.mem_cons_of_mem _ (List.mem_cons_self ..))).1
    rw [cond_true, cond_true]
    show mb (m_is_owner a) _ = _
    rw [mb_of (t_owner (by omega)), mb_of (Tt.mand (b := plainW b) fun _ => ?_)]
    · rfl
    · show mb (m_is_plain b) _ = _
      rw [mb_of (t_plain (by omega))]
  | false =>
    rw [cond_false, cond_false, mb_of (t_plain (by have := h.1; omega))]
theorem t_token {w : Str} (a : Asc w) (h : SG w = true) : m_is_token w = .ok (TK w) := by
  have go : ∀ t : Str, (Txt.rpartition w ".").2.2 = t → plainW t = true → (okS (Txt.rpartition w ".").1 ∧ okS (Txt.rpartition w ".").2.1 ∧ okS (Txt.rpartition w ".").2.2) → TK w = hdOf cSm t → m_is_token w = .ok (TK w) := by
    intro t e hp ok q
    unfold m_is_token
    obtain ⟨x, c, _, e1, e2, e3⟩ := hd_at cSm (plain_ln hp)
    rw [mb_of (chk_of (by decide +kernel)), mb_of (chk_of (decide_eq_true ok)), show atI [(Txt.rpartition w ".").1, (Txt.rpartition w ".").2.1, (Txt.rpartition w ".").2.2] (2 : Int) = some (Txt.rpartition w ".").2.2 from rfl, mb_of (oM_of rfl), e, mb_of (oM_of e1), mb_of (oM_of e2), q, e3]
    unfold cSm
    rw [e2]
  rcases sg_cases h with ⟨n, e, hp, q⟩ | ⟨p, r, e0, hp, hr, e, h1, _, q⟩
  · exact go w (rpart_none n) hp (rpart_ok a n) q
  · exact go (mkS r) (rpart_some e0 hr) h1 (rpart_ok2 a e0 hr) q
end
section
theorem eqB_self {α : Type} (x : α) : eqB x x = true := eqB_iff.mpr rfl
section
variable {α : Type}
noncomputable def ins (l : List α) (x : α) : List α := bif memB x l then l else l ++ [x]
noncomputable def dd (l : List α) : List α := l.foldl ins []
theorem ins_mem {l : List α} {x y : α} : y ∈ ins l x ↔ y ∈ l ∨ y = x := by
  unfold ins
  cases e : memB x l with
  | true =>
    have := memB_iff.mp e
    exact ⟨.inl, fun h => h.elim id fun q => by rw [q]; exact this⟩
  | false => rw [cond_false, List.mem_append, List.mem_singleton]
theorem ins_nodup {l : List α} {x : α} (h : l.Nodup) : (ins l x).Nodup := by
  unfold ins
  cases e : memB x l with
  | true => exact h
  | false =>
    have := memB_not.mp e
    rw [cond_false, List.nodup_append]
    exact ⟨h, by simp, fun a ha b hb q => this (by rw [← List.mem_singleton.mp hb, ← q]; exact ha)⟩
theorem ins_len {l : List α} {x : α} : (ins l x).length ≤ l.length + 1 := by
  unfold ins
  cases memB x l with
  | true => exact Nat.le_succ _
  | false => rw [cond_false, List.length_append]; exact Nat.le_refl _
theorem ins_no {l : List α} {x : α} (h : x ∉ l) : ins l x = l ++ [x] := by unfold ins; rw [memB_not.mpr h]; rfl
theorem ins_yes {l : List α} {x : α} (h : x ∈ l) : ins l x = l := by unfold ins; rw [memB_iff.mpr h]; rfl
theorem fold_mem {l m : List α} {y : α} : y ∈ l.foldl ins m ↔ y ∈ m ∨ y ∈ l := by
  induction l generalizing m with
  | nil => simp
  | cons x l ih =>
    rw [List.foldl_cons, ih, ins_mem, List.mem_cons]
    constructor
    · rintro ((h | h) | h)
      · exact .inl h
      · exact .inr (.inl h)
      · exact .inr (.inr h)
    · rintro (h | h | h)
      · exact .inl (.inl h)
      · exact .inl (.inr h)
      · exact .inr h
theorem fold_nodup {l m : List α} (h : m.Nodup) : (l.foldl ins m).Nodup := by
  induction l generalizing m with
  | nil => exact h
  | cons x l ih => exact ih (ins_nodup h)
theorem fold_len {l m : List α} : (l.foldl ins m).length ≤ m.length + l.length := by
  induction l generalizing m with
  | nil => exact Nat.le_refl _
  | cons x l ih =>
    have h1 := ih (m := ins m x)
    have h2 := ins_len (l := m) (x := x)
    rw [List.foldl_cons, List.length_cons]
    omega
theorem dd_mem {l : List α} {y : α} : y ∈ dd l ↔ y ∈ l := by
  unfold dd
  rw [fold_mem]
  simp
theorem dd_nodup (l : List α) : (dd l).Nodup := fold_nodup .nil
theorem dd_len (l : List α) : (dd l).length ≤ l.length := by
  have := fold_len (l := l) (m := [])
  unfold dd
  simpa using this
theorem dd_snoc (l : List α) (x : α) : dd (l ++ [x]) = ins (dd l) x := by unfold dd; rw [List.foldl_append]; rfl
end
section
variable {β : Type}
noncomputable def hds (rs : List (Str × β)) : List Str := dd (rs.map (·.1))
noncomputable def sds (h : Str) (rs : List (Str × β)) : List β := dd ((rs.filter fun r => decide (r.1 = h)).map (·.2))
noncomputable def grps (rs : List (Str × β)) : List (Str × β) := (hds rs).flatMap fun h => (sds h rs).map fun s => (h, s)
theorem hds_mem {rs : List (Str × β)} {h : Str} : h ∈ hds rs ↔ ∃ s, (h, s) ∈ rs := by
  unfold hds
  rw [dd_mem, List.mem_map]
  exact ⟨fun ⟨r, hr, e⟩ => ⟨r.2, by rw [← e]; exact hr⟩, fun ⟨s, hs⟩ => ⟨_, hs, rfl⟩⟩
theorem sds_mem {rs : List (Str × β)} {h : Str} {s : β} : s ∈ sds h rs ↔ (h, s) ∈ rs := by
  unfold sds
  rw [dd_mem, List.mem_map]
  constructor
  · rintro ⟨r, hr, e⟩
    obtain ⟨h1, h2⟩ := List.mem_filter.mp hr
    have := of_decide_eq_true h2
    rw [← e, ← this]
    exact h1
  · exact fun hs => ⟨_, List.mem_filter.mpr ⟨hs, decide_eq_true rfl⟩, rfl⟩
theorem grps_mem {rs : List (Str × β)} {r : Str × β} : r ∈ grps rs ↔ r ∈ rs := by
  unfold grps
  rw [List.mem_flatMap]
  constructor
  · rintro ⟨h, _, hr⟩
    obtain ⟨s, hs, e⟩ := List.mem_map.mp hr
    rw [← e]
    exact sds_mem.mp hs
  · exact fun h => ⟨r.1, hds_mem.mpr ⟨r.2, h⟩, List.mem_map.mpr ⟨r.2, sds_mem.mpr h, rfl⟩⟩
theorem nodup_map_mk {h : Str} {l : List β} (n : l.Nodup) : (l.map fun s => (h, s)).Nodup := by
  induction l with
  | nil => exact .nil
  | cons x l ih =>
    have n := List.nodup_cons.mp n
    rw [List.map_cons]
    refine List.nodup_cons.mpr ⟨fun z => ?_, ih n.2⟩
    obtain ⟨s, hs, e⟩ := List.mem_map.mp z
    cases e
    exact n.1 hs
theorem flat_nodup {f : Str → List β} : ∀ {hs : List Str}, hs.Nodup → (∀ h, (f h).Nodup) → (hs.flatMap fun h => (f h).map fun s => (h, s)).Nodup
  | [], _, _ => .nil
  | h :: hs, n, nf => by
    have n := List.nodup_cons.mp n
    rw [List.flatMap_cons, List.nodup_append]
    refine ⟨nodup_map_mk (nf h), flat_nodup n.2 nf, fun a ha b hb e => ?_⟩
    obtain ⟨s, _, e1⟩ := List.mem_map.mp ha
    obtain ⟨h', hh', hb⟩ := List.mem_flatMap.mp hb
    obtain ⟨s', _, e2⟩ := List.mem_map.mp hb
    rw [← e1, ← e2] at e
    cases e
    exact n.1 hh'
theorem grps_nodup (rs : List (Str × β)) : (grps rs).Nodup := flat_nodup (dd_nodup _) fun _ => dd_nodup _
theorem sds_snoc (h : Str) (rs : List (Str × β)) (r : Str × β) : sds h (rs ++ [r]) = if r.1 = h then ins (sds h rs) r.2 else sds h rs := by
  unfold sds
  rw [List.filter_append, List.map_append]
  by_cases e : r.1 = h
  · rw [if_pos e, List.filter_cons, if_pos (decide_eq_true e)]
    exact dd_snoc _ _
  · rw [if_neg e, List.filter_cons, if_neg (by simpa using e)]
    simp
theorem hds_snoc (rs : List (Str × β)) (r : Str × β) : hds (rs ++ [r]) = ins (hds rs) r.1 := by
  unfold hds
  rw [List.map_append]
  exact dd_snoc _ _
theorem sum_sub {α : Type} [DecidableEq α] : ∀ {l m : List α}, l.Nodup → (∀ x ∈ l, x ∈ m) → l.length ≤ m.length
  | [], _, _, _ => Nat.zero_le _
  | x :: l, m, n, h => by
    have n := List.nodup_cons.mp n
    have hx := h x (List.mem_cons_self ..)
    have := sum_sub (l := l) (m := m.erase x) n.2 fun y hy => (List.mem_erase_of_ne fun e => n.1 (by rw [← e]; exact hy)).mpr (h y (List.mem_cons_of_mem _ hy))
    rw [List.length_erase_of_mem hx] at this
    have := List.length_pos_of_mem hx
    rw [List.length_cons]
    omega
open Classical in
theorem sub_len {α : Type} {l m : List α} (n : l.Nodup) (h : ∀ x ∈ l, x ∈ m) : l.length ≤ m.length := sum_sub n h
theorem grps_len (rs : List (Str × β)) : (grps rs).length ≤ rs.length := sub_len (grps_nodup rs) fun _ h => grps_mem.mp h
end
end
section
theorem dkey_map {α : Type} {f : Str → α} : ∀ {hs : List Str} {h : Str}, dkey (hs.map fun h => (h, f h)) h = if h ∈ hs then some (f h) else none
  | [], h => by rw [if_neg (by simp)]; rfl
  | x :: hs, h => by
    unfold dkey
    rw [List.map_cons, List.find?_cons]
    by_cases e : x = h
    · subst e
      rw [decide_eq_true rfl, if_pos (List.mem_cons_self ..)]
      rfl
    · rw [decide_eq_false e]
      have ih := dkey_map (f := f) (hs := hs) (h := h)
      unfold dkey at ih
      rw [ih]
      by_cases m : h ∈ hs
      · rw [if_pos m, if_pos (List.mem_cons_of_mem _ m)]
      · rw [if_neg m, if_neg fun z => m ((List.mem_cons.mp z).resolve_left fun q => e q.symm)]
theorem dput_map {α : Type} {f : Str → α} {hs : List Str} {h : Str} {v : α} : dput (hs.map fun h => (h, f h)) h v = (if h ∈ hs then hs else hs ++ [h]).map fun x => (x, if x = h then v else f x) := by
  unfold dput
  have ea : ((hs.map fun h => (h, f h)).any fun kv => decide (kv.1 = h)) = decide (h ∈ hs) := by
    rw [Bool.eq_iff_iff, List.any_eq_true, decide_eq_true_iff]
    constructor
    · rintro ⟨y, hy, e⟩
      obtain ⟨x, hx, e2⟩ := List.mem_map.mp hy
      rw [← e2] at e
      rw [← of_decide_eq_true e]
      exact hx
    · exact fun m => ⟨_, List.mem_map.mpr ⟨h, m, rfl⟩, decide_eq_true rfl⟩
  rw [ea]
  by_cases m : h ∈ hs
  · rw [if_pos (decide_eq_true m), if_pos m, List.map_map]
    refine List.map_congr_left fun x _ => ?_
    show (if x = h then (x, v) else (x, f x)) = _
    split <;> rfl
  · rw [if_neg (by simpa using m), if_neg m, List.map_append]
    congr 1
    · refine List.map_congr_left fun x hx => ?_
      rw [if_neg fun e => m (by rw [← e]; exact hx)]
    · show _ = [(h, if h = h then v else f h)]
      rw [if_pos rfl]
theorem gr_fold (rs : List Rule) : rs.foldl grStep [] = (hds rs).map fun h => (h, sds h rs) := by
  have go : ∀ (post pre : List Rule), post.foldl grStep ((hds pre).map fun h => (h, sds h pre)) = (hds (pre ++ post)).map fun h => (h, sds h (pre ++ post)) := by
    intro post
    induction post with
    | nil => intro pre; rw [List.append_nil]; rfl
    | cons r post ih =>
      intro pre
      have step : grStep ((hds pre).map fun h => (h, sds h pre)) r = (hds (pre ++ [r])).map fun h => (h, sds h (pre ++ [r])) := by
        unfold grStep
        rw [dkey_map, hds_snoc]
        by_cases m : r.1 ∈ hds pre
        · rw [if_pos m, ins_yes m]
          show (bif memB r.2 (sds r.1 pre) then _ else dput _ r.1 (sds r.1 pre ++ [r.2])) = _
          cases e : memB r.2 (sds r.1 pre) with
          | true =>
            rw [cond_true]
            refine List.map_congr_left fun h _ => ?_
            rw [sds_snoc]
            split
            · rename_i e2
              rw [← e2, ins_yes (memB_iff.mp e)]
            · rfl
          | false =>
            rw [cond_false, dput_map, if_pos m]
            refine List.map_congr_left fun h _ => ?_
            rw [sds_snoc]
            by_cases q : h = r.1
            · rw [if_pos q, if_pos q.symm, q, ins_no (memB_not.mp e)]
            · rw [if_neg q, if_neg fun z => q z.symm]
        · rw [if_neg m, ins_no m]
          show (bif memB r.2 [] then _ else dput _ r.1 ([] ++ [r.2])) = _
          rw [memB_not.mpr (by simp), cond_false, dput_map, if_neg m]
          refine List.map_congr_left fun h hh => ?_
          rw [sds_snoc]
          by_cases q : h = r.1
          · have e0 : sds h pre = [] := by
              cases e : sds h pre with
              | nil => rfl
              | cons s l =>
                exfalso
                exact m (by rw [← q]; exact hds_mem.mpr ⟨s, sds_mem.mp (by rw [e]; exact List.mem_cons_self ..)⟩)
            rw [if_pos q, if_pos q.symm, e0, ins_no (by simp)]
          · rw [if_neg q, if_neg fun z => q z.symm]
      rw [List.foldl_cons, step, ih, List.append_assoc]
      rfl
  exact go rs []
theorem grp_grps (rs : List Rule) : grp rs = grps rs := by
  unfold grp grFlat
  rw [gr_fold, List.flatMap_map]
  rfl
theorem t_grouped {rs : List Rule} (h : rs.length ≤ 10000) : m_grouped rs = .ok (grps rs) := by rw [m_grouped_of h, grp_grps]
end
section
theorem spT : TL.tl (" " : Str) = [32] := by decide +kernel
theorem nlT : TL.tl ("\n" : Str) = [10] := by decide +kernel
theorem spK : ((" " : Str).cps.all (· < 256)) = true := by decide +kernel
theorem nlK : (("\n" : Str).cps.all (· < 256)) = true := by decide +kernel
theorem joinL_len {S : List Nat} {B : Nat} : ∀ {ps : List (List Nat)}, (∀ p ∈ ps, p.length ≤ B) → (TL.joinL S ps).length ≤ ps.length * (B + S.length)
  | [], _ => Nat.zero_le _
  | [p], h => by
    have := h p (List.mem_singleton.mpr rfl)
    show p.length ≤ 1 * (B + S.length)
    omega
  | p :: q :: r, h => by
    have h1 := h p (List.mem_cons_self ..)
    have h2 := joinL_len (S := S) (B := B) (ps := q :: r) fun z hz => h z (List.mem_cons_of_mem _ hz)
    show (p ++ (S ++ TL.joinL S (q :: r))).length ≤ _
    rw [List.length_append, List.length_append, List.length_cons, Nat.succ_mul]
    omega
theorem joinL_mem {S : List Nat} {c : Nat} : ∀ {ps : List (List Nat)}, c ∈ TL.joinL S ps → c ∈ S ∨ ∃ p ∈ ps, c ∈ p
  | [], h => nomatch h
  | [p], h => .inr ⟨p, List.mem_singleton.mpr rfl, h⟩
  | p :: q :: r, h => by
    have h : c ∈ p ++ (S ++ TL.joinL S (q :: r)) := h
    rcases List.mem_append.mp h with h | h
    · exact .inr ⟨p, List.mem_cons_self .., h⟩
    · rcases List.mem_append.mp h with h | h
      · exact .inl h
      · rcases joinL_mem h with h | ⟨z, hz, hc⟩
        · exact .inl h
        · exact .inr ⟨z, List.mem_cons_of_mem _ hz, hc⟩
theorem tl_tjoin (y : Str) (ps : List Str) : TL.tl (Txt.join y ps) = TL.joinL (TL.tl y) (ps.map TL.tl) := by rw [TL.join_eq, TL.tl_join]
theorem sum_le {B : Nat} : ∀ {ps : List Str}, (∀ p ∈ ps, p.length ≤ B) → (ps.map (·.length)).sum ≤ ps.length * B
  | [], _ => Nat.zero_le _
  | p :: ps, h => by
    have h1 := h p (List.mem_cons_self ..)
    have h2 := sum_le (B := B) (ps := ps) fun z hz => h z (List.mem_cons_of_mem _ hz)
    rw [List.map_cons, List.sum_cons, List.length_cons, Nat.succ_mul]
    omega
theorem tjoin_len {y : Str} {ps : List Str} {B : Nat} (h : ∀ p ∈ ps, p.length ≤ B) : (Txt.join y ps).length ≤ ps.length * (B + y.length) := by
  rw [TL.len_tl, tl_tjoin]
  have := joinL_len (S := TL.tl y) (B := B) (ps := ps.map TL.tl) fun p hp => by
    obtain ⟨z, hz, rfl⟩ := List.mem_map.mp hp
    have := h z hz
    rw [TL.len_tl] at this
    exact this
  rw [List.length_map, ← TL.len_tl] at this
  exact this
theorem ascn_okS {n : Nat} {w : Str} (hn : n ≤ 100000) (h : w.length ≤ n ∧ ∀ c ∈ TL.tl w, c < 128) : okS w := by
  refine ⟨by omega, ?_⟩
  rw [← Array.all_toList, List.all_eq_true]
  intro c hc
  have := h.2 c hc
  exact decide_eq_true (by omega)
end
section
theorem arT : TL.tl ("->" : Str) = [45, 62] := by decide +kernel
theorem sarT : TL.tl (" ->" : Str) = [32, 45, 62] := by decide +kernel
theorem AS_cl : ∀ s ∈ AS, s.length ≤ 8 ∧ 1 ≤ s.length ∧ ∀ c ∈ TL.tl s, c < 128 ∧ c ≠ 32 ∧ c ≠ 10 := by decide +kernel
theorem AS_sg : ∀ s ∈ AS, SG s = true := by decide +kernel
theorem AH_tk : ∀ s ∈ AH, TK s = false := by decide +kernel
theorem AS_asc {s : Str} (h : s ∈ AS) : Asc s := ⟨by have := (AS_cl s h).1; omega, fun c hc => ((AS_cl s h).2.2 c hc).1⟩
abbrev ROk (r : Rule) : Prop := (r.1 ∈ AH ∧ ∀ s ∈ r.2, s ∈ AS) ∧ r.2.length ≤ 3
def ln (r : Rule) : Str := Txt.join " " (r.1 :: "->" :: r.2)
abbrev Pc (s : Str) : Prop := s.length ≤ 8 ∧ 1 ≤ s.length ∧ ∀ c ∈ TL.tl s, c < 128 ∧ c ≠ 32 ∧ c ≠ 10
theorem ar_pc : Pc "->" := by decide +kernel
theorem ws_pc {r : Rule} (h : (r.1 ∈ AH ∧ ∀ s ∈ r.2, s ∈ AS)) : ∀ s ∈ r.1 :: "->" :: r.2, Pc s := fun s hs => by
  rcases List.mem_cons.mp hs with q | q
  · rw [q]; exact AS_cl _ (AH_AS h.1)
  · rcases List.mem_cons.mp q with q | q
    · rw [q]; exact ar_pc
    · exact AS_cl _ (h.2 s q)
theorem sp1 : (" " : Str).length = 1 := by decide +kernel
theorem nl1 : ("\n" : Str).length = 1 := by decide +kernel
theorem ln_ok {r : Rule} (h : ROk r) : (ln r).length ≤ 45 ∧ 1 ≤ (ln r).length ∧ ∀ c ∈ TL.tl (ln r), c < 128 ∧ c ≠ 10 := by
  have hp := ws_pc h.1
  refine ⟨?_, ?_, fun c hc => ?_⟩
  · have := tjoin_len (y := " ") (B := 8) (ps := r.1 :: "->" :: r.2) fun p hq => (hp p hq).1
    rw [sp1, List.length_cons, List.length_cons] at this
    have h3 := h.2
    show (Txt.join " " _).length ≤ 45
    omega
  · unfold ln
    rw [TL.len_tl, tl_tjoin]
    show 1 ≤ (TL.tl r.1 ++ (_ ++ _)).length
    have := (hp r.1 (List.mem_cons_self ..)).2.1
    rw [TL.len_tl] at this
    rw [List.length_append]
    omega
  · unfold ln at hc
    rw [tl_tjoin] at hc
    rcases joinL_mem hc with q | ⟨p, hq, hc⟩
    · rw [spT] at q
      rw [List.mem_singleton.mp q]
      decide
    · obtain ⟨z, hz, rfl⟩ := List.mem_map.mp hq
      have := (hp z hz).2.2 c hc
      exact ⟨this.1, this.2.2⟩
theorem cut2 {α : Type} {a b : α} {l : List α} : cut (a :: b :: l) (some 2) none = l := by
  unfold cut HT.sIx
  simp
theorem split_line {r : Rule} (h : (r.1 ∈ AH ∧ ∀ s ∈ r.2, s ∈ AS)) : Txt.split (ln r) " " = r.1 :: "->" :: r.2 :=
  TL.split_join spT spK (by simp) fun p hp hc => ((ws_pc h p hp).2.2 32 hc).2.1 rfl
theorem t_parse {r : Rule} (h : ROk r) : m_parse_rule (ln r) = .ok (some r) := by
  have hl := ln_ok h
  have h3 := h.2
  have hp := ws_pc h.1
  have hA := AH_AS h.1.1
  refine Tt.eq ?_
  unfold m_parse_rule
  rw [split_line h.1]
  refine Tt.chk (by decide +kernel) (Tt.chk (by omega) (Tt.chk (fun x hx => ascn_okS (n := 8) (by decide) ⟨(hp x hx).1, fun c hc => ((hp x hx).2.2 c hc).1⟩) (Tt.let ?_)))
  have a0 : atI (r.1 :: "->" :: r.2) 0 = some r.1 := atI_pos (by decide) rfl
  have a1 : atI (r.1 :: "->" :: r.2) 1 = some "->" := atI_pos (by decide) rfl
  refine Tt.by (a := false) (Tt.mor (b := false) (fun _ => ?_) |>.trans ?_) ?_
  · have q1 : mor (!true) (mb (m_is_token r.1) fun t9 => Except.ok t9) = .ok false := by
      unfold mor
      rw [Bool.not_true, cond_false, mb_of (t_token (AS_asc hA) (AS_sg _ hA)), AH_tk _ h.1.1]
    have q2 : mor (!true) (mb (oM (atI (r.1 :: "->" :: r.2) 0)) fun t7 => mb (m_is_sign t7) fun t8 => mb (mor (!t8) (mb (m_is_token t7) fun t9 => Except.ok t9)) fun c10 => Except.ok c10) = .ok false := by
      unfold mor
      rw [Bool.not_true, cond_false, mb_of (oM_of a0), mb_of (t_sign (AS_asc hA)), AS_sg _ hA]
      exact mb_of q1
    rw [mb_of (oM_of a1), decide_eq_true rfl]
    exact mb_of q2
  · rw [decide_eq_false (by rw [List.length_cons, List.length_cons]; omega)]
    rfl
  · rw [cond_false, cut2]
    refine Tt.chk (by omega) (Tt.by (mlc_map (f' := fun _ => true) fun x hx => ?_) ?_)
    · rw [mb_of (t_sign (AS_asc (h.1.2 x hx))), AS_sg _ (h.1.2 x hx)]
    · rw [show (r.2.map fun _ => true).all id = true by rw [List.all_eq_true]; intro b hb; obtain ⟨_, _, rfl⟩ := List.mem_map.mp hb; rfl]
      show Tt (mb (oM (atI _ 0)) _) _
      exact Tt.oM a0 rfl
theorem t_init3 {rs : List Rule} (h : rs.length ≤ 10000) : m_Grammar___init__ rs = .ok (grps rs) := t_grouped h
def txt (rs : List Rule) : Str := Txt.join "\n" (rs.map ln)
theorem txt_ok {rs : List Rule} (hl : rs.length ≤ 18) (h : ∀ r ∈ rs, ROk r) : ((rs.map ln).map (·.length)).sum + (rs.map ln).length * ("\n" : Str).length ≤ 16777216 ∧ okS (txt rs) ∧ (txt rs).length ≤ 1000 := by
  have hp : ∀ p ∈ rs.map ln, p.length ≤ 45 := fun p hp => by
    obtain ⟨r, hr, rfl⟩ := List.mem_map.mp hp
    exact (ln_ok (h r hr)).1
  have h1 := sum_le hp
  have h2 := tjoin_len (y := "\n") hp
  rw [nl1, List.length_map] at h2
  rw [List.length_map] at h1
  have h3 : (txt rs).length ≤ 828 := by show (Txt.join "\n" _).length ≤ 828; omega
  refine ⟨by rw [nl1, List.length_map]; omega, ascn_okS (n := 828) (by decide) ⟨h3, fun c hc => ?_⟩, by omega⟩
  unfold txt at hc
  rw [tl_tjoin] at hc
  rcases joinL_mem hc with q | ⟨p, hq, hc⟩
  · rw [nlT] at q
    rw [List.mem_singleton.mp q]
    decide
  · obtain ⟨z, hz, rfl⟩ := List.mem_map.mp hq
    obtain ⟨r, hr, rfl⟩ := List.mem_map.mp hz
    exact ((ln_ok (h r hr)).2.2 c hc).1
theorem from_loop {fs : List Rule → Int × Str → M (List Rule)} : ∀ {rs : List Rule} {k : Int} {acc : List Rule}, acc.length + rs.length ≤ 1000 → (∀ acc k, acc.length ≤ 999 → ∀ r ∈ rs, fs acc (k, ln r) = .ok (acc ++ [r])) → mfor fs acc (enumFrom k (rs.map ln)) = .ok (acc ++ rs)
  | [], k, acc, _, _ => by rw [List.append_nil]; rfl
  | r :: rs, k, acc, hl, h => by
    rw [List.length_cons] at hl
    show mb (fs acc (k, ln r)) _ = _
    rw [mb_of (h acc k (by omega) r (List.mem_cons_self ..))]
    have := from_loop (fs := fs) (rs := rs) (k := k + 1) (acc := acc ++ [r]) (by rw [List.length_append, List.length_singleton]; omega) fun acc k ha r hr => h acc k ha r (List.mem_cons_of_mem _ hr)
    rw [List.append_assoc] at this
    exact this
theorem txt_nil {rs : List Rule} (h : ∀ r ∈ rs, ROk r) : (((txt rs).length : Int) != 0) = !rs.isEmpty := by
  cases rs with
  | nil => decide +kernel
  | cons r rs =>
    have h1 := (ln_ok (h r (List.mem_cons_self ..))).2.1
    have : 1 ≤ (txt (r :: rs)).length := by
      unfold txt
      rw [TL.len_tl, tl_tjoin, List.map_cons, List.map_cons]
      rw [TL.len_tl] at h1
      cases rs with
      | nil => exact h1
      | cons q rs =>
        show 1 ≤ (TL.tl (ln r) ++ _).length
        rw [List.length_append]
        omega
    exact bne_iff_ne.mpr (by omega)
theorem t_from {rs : List Rule} (hl : rs.length ≤ 18) (h : ∀ r ∈ rs, ROk r) : m_Grammar_from_string () (txt rs) = .ok (grps rs) := by
  obtain ⟨h1, h2, h3⟩ := txt_ok hl h
  refine Tt.eq ?_
  unfold m_Grammar_from_string
  refine Tt.let (Tt.by (a := rs.map ln) ?_ ?_)
  · refine calm_of ?_
    rw [txt_nil h]
    cases rs with
    | nil => rfl
    | cons r rs =>
      have es : Txt.split (txt (r :: rs)) "\n" = (r :: rs).map ln := TL.split_join nlT nlK (by simp) fun p hp hc => by
        obtain ⟨z, hz, rfl⟩ := List.mem_map.mp hp
        exact ((ln_ok (h z hz)).2.2 10 hc).2 rfl
      refine Tt.eq ?_
      rw [es, List.isEmpty_cons, Bool.not_false, cond_true]
      refine Tt.chk (by decide +kernel) (Tt.chk h3 (Tt.chk (fun x hx => ?_) rfl))
      obtain ⟨z, hz, rfl⟩ := List.mem_map.mp hx
      have := ln_ok (h z hz)
      exact ascn_okS (n := 45) (by decide) ⟨this.1, fun c hc => (this.2.2 c hc).1⟩
  · refine Tt.by (from_loop (rs := rs) (by show 0 + rs.length ≤ 1000; omega) fun acc k ha r hr => ?_) (Tt.by (calm_of (t_init3 (by rw [List.nil_append]; omega))) (by rw [List.nil_append]; exact rfl))
    show mb (calm (m_parse_rule (ln r))) _ = _
    rw [mb_of (calm_of (t_parse (h r hr)))]
    show (bif isNone' (some r) then _ else _) = _
    rw [show isNone' (some r) = false from rfl, cond_false, mb_of (oM_of rfl), mb_of (chk_of (decide_eq_true (by omega)))]
    rfl
end
section
abbrev ODD : List Str := ((([("" : Str), (" " : Str), ("A" : Str), ("A " : Str), ("A  -> b" : Str), ("A ->  b" : Str), ("A -> b " : Str), (" A -> b" : Str), ("A -> " : Str), ("a -> b" : Str)]) ++ ([("A - > b" : Str), ("A => b" : Str)])) ++ ([("-> b" : Str), ("A -> b  C" : Str), ("A -> 9a" : Str), ("A -> b c." : Str), ("A -> b c d_e" : Str), ("A->b" : Str), ("x.a -> b" : Str), ("A -> b\tc" : Str)])) ++ ([("9A -> b" : Str), ("A -> b ->" : Str), ("ABCDEFGHI -> b" : Str), ("A -> X.b" : Str)])
def ascB (w : Str) : Bool := decide (w.length ≤ 600) && (TL.tl w).all fun c => decide (c < 128)
theorem ascB_iff {w : Str} (h : ascB w = true) : Asc w := by
  unfold ascB at h
  rw [Bool.and_eq_true, List.all_eq_true] at h
  exact ⟨of_decide_eq_true h.1, fun c hc => of_decide_eq_true (h.2 c hc)⟩
def badW : List Str → Bool
  | a :: b :: l => !(decide (b = "->")) || (!(SG a) || (TK a || !(l.all SG)))
  | _ => true
def oddB (o : Str) : Bool := decide (o.length ≤ 45) && (((TL.tl o).all fun c => decide (c < 128) && decide (c ≠ 10)) && ((Txt.split o " ").all ascB && (decide ((Txt.split o " ").length ≤ 100) && badW (Txt.split o " "))))
theorem ODD_odd : ∀ o ∈ ODD, oddB o = true := by decide +kernel
abbrev LnK (x : Str) : Prop := x.length ≤ 45 ∧ ∀ c ∈ TL.tl x, c < 128 ∧ c ≠ 10
theorem oddB_ln {o : Str} (h : oddB o = true) : LnK o := by
  unfold oddB at h
  rw [Bool.and_eq_true, Bool.and_eq_true, List.all_eq_true] at h
  refine ⟨of_decide_eq_true h.1, fun c hc => ?_⟩
  have := h.2.1 c hc
  rw [Bool.and_eq_true] at this
  exact ⟨of_decide_eq_true this.1, of_decide_eq_true this.2⟩
theorem t_parse_odd {o : Str} (h : oddB o = true) : m_parse_rule o = .ok none := by
  have hl := (oddB_ln h).1
  unfold oddB at h
  rw [Bool.and_eq_true, Bool.and_eq_true, Bool.and_eq_true, Bool.and_eq_true, List.all_eq_true (l := Txt.split o " ")] at h
  obtain ⟨_, _, h2, h4, h3⟩ := h
  have h4 := of_decide_eq_true h4
  refine Tt.eq ?_
  unfold m_parse_rule
  generalize Txt.split o " " = ws at *
  refine Tt.chk (by decide +kernel) (Tt.chk (by omega) (Tt.chk (fun x hx => asc_okS (ascB_iff (h2 x hx))) (Tt.let ?_)))
  match ws, h2, h3, h4 with
  | [], _, _, _ => exact rfl
  | [a], _, _, _ => exact rfl
  | a :: b :: l, h2, h3, h4 =>
    have aa := ascB_iff (h2 a List.mem_cons_self)
    have a0 : atI (a :: b :: l) 0 = some a := atI_pos (by decide) rfl
    have a1 : atI (a :: b :: l) 1 = some b := atI_pos (by decide) rfl
    have h3 : (!(decide (b = "->")) || (!(SG a) || (TK a || !(l.all SG)))) = true := h3
    have q2 : mor (!(decide (b = ("->" : Str)))) (mb (oM (atI (a :: b :: l) 0)) fun t7 => mb (m_is_sign t7) fun t8 => mb (mor (!t8) (mb (m_is_token t7) fun t9 => Except.ok t9)) fun c10 => Except.ok c10) = .ok (!(decide (b = "->")) || (!(SG a) || TK a)) :=
      Tt.mor (b := !(SG a) || TK a) fun _ => by
        rw [mb_of (oM_of a0), mb_of (t_sign aa), mb_of (Tt.mor (b := TK a) fun e => by rw [mb_of (t_token aa (by simpa using e))])]
    refine Tt.by (a := !(decide (b = "->")) || (!(SG a) || TK a)) ((Tt.mor (b := !(decide (b = "->")) || (!(SG a) || TK a)) fun _ => by rw [mb_of (oM_of a1), mb_of q2]).trans ?_) ?_
    · rw [decide_eq_false (by rw [List.length_cons, List.length_cons]; omega), Bool.false_or]
    · refine Tt.if (fun _ => Tt.ret rfl) fun c => ?_
      rw [Bool.or_eq_false_iff, Bool.or_eq_false_iff] at c
      obtain ⟨c1, c2, c3⟩ := c
      rw [c1, c2, c3, Bool.false_or, Bool.false_or, Bool.false_or] at h3
      rw [cut2]
      rw [List.length_cons, List.length_cons] at h4
      refine Tt.chk ?_ (Tt.by (mlc_map (f' := SG) fun x hx => by rw [mb_of (t_sign (ascB_iff (h2 x (List.mem_cons_of_mem _ (List.mem_cons_of_mem _ hx)))))]) ?_)
      · omega
      · have e : (l.map SG).all id = false := by
          rw [List.all_map]
          show l.all SG = false
          simpa using h3
        rw [e]
        exact rfl
theorem joinE_cons {x : List Nat} : ∀ {l : List (List Nat)}, TL.joinL [] (x :: l) = x ++ TL.joinL [] l
  | [] => (List.append_nil x).symm
  | _ :: _ => rfl
theorem joinL_sp {S : List Nat} : ∀ {b : List Nat} {l : List (List Nat)}, TL.joinL S (b :: l) = b ++ TL.joinL [] (l.map fun y => S ++ y)
  | b, [] => (List.append_nil b).symm
  | b, c :: l => by
    show b ++ (S ++ TL.joinL S (c :: l)) = b ++ TL.joinL [] ((S ++ c) :: l.map fun y => S ++ y)
    rw [joinE_cons, joinL_sp, List.append_assoc]
theorem ln_eq (r : Rule) : (r.1 ++ (" ->" : Str)) ++ Txt.join "" (r.2.map fun y => (" " : Str) ++ y) = ln r := by
  apply tl_inj
  unfold ln
  rw [TL.tl_append, TL.tl_append, tl_tjoin, tl_tjoin, sarT, show TL.tl ("" : Str) = [] by decide +kernel, spT, List.map_map]
  show _ = TL.joinL [32] (TL.tl r.1 :: TL.tl "->" :: r.2.map TL.tl)
  rw [joinL_sp, List.map_cons, joinE_cons, arT, List.map_map]
  have e : (TL.tl ∘ fun y => (" " : Str) ++ y) = ((fun y => [32] ++ y) ∘ TL.tl) := by
    funext y
    show TL.tl ((" " : Str) ++ y) = [32] ++ TL.tl y
    rw [TL.tl_append, spT]
  rw [e, List.append_assoc]
  rfl
theorem t_mkline {r : Rule} (h : ROk r) {s : List Str} (hs : s.length ≤ 1000) :
    (mb (chk (decide (r.1.length + (" ->" : Str).length ≤ 100000))) fun _ => mb (chk (decide (r.2.length ≤ 12000000))) fun _ => mb (mlc (fun (y13 : Str) => .ok true) (fun (y13 : Str) => mb (chk (decide ((" " : Str).length + y13.length ≤ 100000))) fun _ => .ok ((" " : Str) ++ y13)) r.2) fun zs16 => mb (chk (decide ((zs16.map (·.length)).sum + zs16.length * ("" : Str).length ≤ 16777216))) fun _ => mb (chk (decide (okS (Txt.join ("" : Str) zs16)))) fun _ => mb (chk (decide ((r.1 ++ (" ->" : Str)).length + (Txt.join ("" : Str) zs16).length ≤ 100000))) fun _ => mb (chk (decide (s.length < 12000000))) fun _ => mb (.ok (s ++ [(r.1 ++ (" ->" : Str)) ++ (Txt.join ("" : Str) zs16)])) fun lines21 => .ok lines21 : M (List Str)) = .ok (s ++ [ln r]) := by
  have hp := ws_pc h.1
  have h1 := (hp r.1 List.mem_cons_self).1
  have h3 := h.2
  have l3 : (" ->" : Str).length = 3 := by decide +kernel
  have l0 : ("" : Str).length = 0 := by decide +kernel
  have hy : ∀ y ∈ r.2, y.length ≤ 8 := fun y hy => (AS_cl y (h.1.2 y hy)).1
  have ly : ∀ y : Str, ((" " : Str) ++ y).length = 1 + y.length := fun y => by
    rw [TL.len_tl, TL.tl_append, List.length_append, ← TL.len_tl, ← TL.len_tl, sp1]
  have hz : ∀ p ∈ r.2.map (fun y => (" " : Str) ++ y), p.length ≤ 9 := fun p hp => by
    obtain ⟨y, h1, rfl⟩ := List.mem_map.mp hp
    have := hy y h1
    show ((" " : Str) ++ y).length ≤ 9
    rw [ly]; omega
  have s1 := sum_le hz
  have s2 := tjoin_len (y := "") hz
  rw [List.length_map] at s1 s2
  rw [l0] at s2
  refine Tt.eq (Tt.chk (by omega) (Tt.chk (by omega) (Tt.by (mlc_map (f' := fun y => (" " : Str) ++ y) fun y q => ?_) (Tt.chk ?_ (Tt.chk ?_ (Tt.chk ?_ (Tt.chk (by omega) ?_)))))))
  · have := hy y q
    rw [mb_of (chk_of (decide_eq_true (by rw [sp1]; omega)))]
  · rw [List.length_map, l0]; omega
  · refine ascn_okS (n := 27) (by decide) ⟨by omega, fun c hc => ?_⟩
    rw [tl_tjoin, show TL.tl ("" : Str) = [] by decide +kernel] at hc
    rcases joinL_mem hc with q | ⟨p, hq, hc⟩
    · cases q
    · obtain ⟨z, hz1, rfl⟩ := List.mem_map.mp hq
      obtain ⟨y, hy1, rfl⟩ := List.mem_map.mp hz1
      rw [TL.tl_append, spT] at hc
      rcases List.mem_append.mp hc with q | q
      · rw [List.mem_singleton.mp q]; decide
      · exact ((AS_cl y (h.1.2 y hy1)).2.2 c q).1
  · have : (r.1 ++ (" ->" : Str)).length = r.1.length + 3 := by rw [TL.len_tl, TL.tl_append, List.length_append, ← TL.len_tl, ← TL.len_tl, l3]
    omega
  · rw [ln_eq]
    exact rfl
theorem from_bad {fs : List Rule → Int × Str → M (List Rule)} {o : Str} {rest : List Str} {E : Int → Er} (bad : ∀ acc k, fs acc (k, o) = .error (E k)) : ∀ {gs : List Rule} {k : Int} {acc : List Rule}, acc.length + gs.length ≤ 1000 → (∀ acc k, acc.length ≤ 999 → ∀ r ∈ gs, fs acc (k, ln r) = .ok (acc ++ [r])) → mfor fs acc (enumFrom k (gs.map ln ++ o :: rest)) = .error (E (k + (gs.length : Int)))
  | [], k, acc, _, _ => by
    show mb (fs acc (k, o)) _ = _
    rw [bad, show k + (([] : List Rule).length : Int) = k by simp]
    rfl
  | r :: gs, k, acc, hl, h => by
    rw [List.length_cons] at hl
    show mb (fs acc (k, ln r)) _ = _
    rw [mb_of (h acc k (by omega) r List.mem_cons_self)]
    have := from_bad (rest := rest) bad (gs := gs) (k := k + 1) (acc := acc ++ [r]) (by rw [List.length_append, List.length_singleton]; omega) fun acc k ha r hr => h acc k ha r (List.mem_cons_of_mem _ hr)
    rw [show k + 1 + (gs.length : Int) = k + ((r :: gs).length : Int) by rw [List.length_cons]; omega] at this
    exact this
theorem text_ok {ls : List Str} (hl : ls.length ≤ 18) (h : ∀ x ∈ ls, LnK x) : (ls.map (·.length)).sum + ls.length * ("\n" : Str).length ≤ 16777216 ∧ okS (Txt.join "\n" ls) ∧ (Txt.join "\n" ls).length ≤ 1000 := by
  have hp : ∀ p ∈ ls, p.length ≤ 45 := fun p hp => (h p hp).1
  have h1 := sum_le hp
  have h2 := tjoin_len (y := "\n") hp
  rw [nl1] at h2
  refine ⟨by rw [nl1]; omega, ascn_okS (n := 828) (by decide) ⟨by omega, fun c hc => ?_⟩, by omega⟩
  rw [tl_tjoin] at hc
  rcases joinL_mem hc with q | ⟨p, hq, hc⟩
  · rw [nlT] at q
    rw [List.mem_singleton.mp q]
    decide
  · obtain ⟨z, hz, rfl⟩ := List.mem_map.mp hq
    exact ((h z hz).2 c hc).1
theorem t_from_bad {gs : List Rule} {o : Str} {rest : List Str} (hl : (gs.map ln ++ o :: rest).length ≤ 18) (hg : ∀ r ∈ gs, ROk r) (hc : ∀ x ∈ gs.map ln ++ o :: rest, LnK x) (ho : oddB o = true) (ne : Txt.join "\n" (gs.map ln ++ o :: rest) ≠ "") :
    m_Grammar_from_string () (Txt.join "\n" (gs.map ln ++ o :: rest)) = .error (.ex "BadLine" [("number", .i ((gs.length : Int) + 1))]) := by
  obtain ⟨h1, h2, h3⟩ := text_ok hl hc
  have lz : ((Txt.join "\n" (gs.map ln ++ o :: rest)).length : Int) ≠ 0 := fun q => ne (by
    apply tl_inj
    have : (TL.tl (Txt.join "\n" (gs.map ln ++ o :: rest))).length = 0 := by rw [← TL.len_tl]; omega
    rw [List.length_eq_zero_iff.mp this]
    decide +kernel)
  have es : Txt.split (Txt.join "\n" (gs.map ln ++ o :: rest)) "\n" = gs.map ln ++ o :: rest := TL.split_join nlT nlK (by simp) fun p hp q => ((hc p hp).2 10 q).2 rfl
  unfold m_Grammar_from_string
  rw [mb_ret]
  have c7 : (bif (((Txt.join "\n" (gs.map ln ++ o :: rest)).length : Int) != 0) then mb (chk (decide ((("\n" : Str).length == 0) = false))) fun _ => mb (chk (decide ((Txt.join "\n" (gs.map ln ++ o :: rest)).length ≤ 1000))) fun _ => mb (chk (decide (∀ x ∈ Txt.split (Txt.join "\n" (gs.map ln ++ o :: rest)) ("\n" : Str), okS x))) fun _ => .ok (Txt.split (Txt.join "\n" (gs.map ln ++ o :: rest)) ("\n" : Str)) else .ok ([] : (List Str)) : M (List Str)) = .ok (gs.map ln ++ o :: rest) := by
    refine Tt.eq ?_
    rw [bne_iff_ne.mpr lz, cond_true, es]
    exact Tt.chk (by decide +kernel) (Tt.chk h3 (Tt.chk (fun x hx => ascn_okS (n := 45) (by decide) ⟨(hc x hx).1, fun c q => ((hc x hx).2 c q).1⟩) rfl))
  rw [mb_of (calm_of c7)]
  have lg : gs.length ≤ 18 := by rw [List.length_append, List.length_map] at hl; omega
  rw [from_bad (E := fun k => .ex "BadLine" [("number", .i k)]) (fun acc k => ?_) (gs := gs) (k := 1) (acc := []) (by show 0 + gs.length ≤ 1000; omega) fun acc k ha r hr => ?_, show (1 : Int) + (gs.length : Int) = (gs.length : Int) + 1 by omega]
  · rfl
  · show mb (calm (m_parse_rule o)) _ = _
    rw [mb_of (calm_of (t_parse_odd ho))]
    rfl
  · show mb (calm (m_parse_rule (ln r))) _ = _
    rw [mb_of (calm_of (t_parse (hg r hr)))]
    show (bif isNone' (some r) then _ else _) = _
    rw [show isNone' (some r) = false from rfl, cond_false, mb_of (oM_of rfl), mb_of (chk_of (decide_eq_true (by omega)))]
    rfl
end
section
theorem lg_turn (h : Str) (f : List Rule) (nf : ∀ s, (h, s) ∉ f) : ∀ (post pre : List Rule), post.foldl (fun g r => bif decide (r.1 = h) && !memB r g then g ++ [r] else g) (f ++ (sds h pre).map fun s => (h, s)) = f ++ (sds h (pre ++ post)).map fun s => (h, s)
  | [], pre => by rw [List.append_nil]; rfl
  | r :: post, pre => by
    rw [List.foldl_cons]
    have step : (bif decide (r.1 = h) && !memB r (f ++ (sds h pre).map fun s => (h, s)) then (f ++ (sds h pre).map fun s => (h, s)) ++ [r] else (f ++ (sds h pre).map fun s => (h, s))) = f ++ (sds h (pre ++ [r])).map fun s => (h, s) := by
      rw [sds_snoc]
      by_cases e : r.1 = h
      · rw [decide_eq_true e, Bool.true_and, if_pos e]
        have er : r = (h, r.2) := by rw [← e]
        cases q : memB r (f ++ (sds h pre).map fun s => (h, s)) with
        | true =>
          have := memB_iff.mp q
          rw [er] at this
          have h2 := (List.mem_append.mp this).resolve_left (nf _)
          obtain ⟨s, hs, e2⟩ := List.mem_map.mp h2
          cases e2
          rw [ins_yes hs]
          rfl
        | false =>
          have h2 := memB_not.mp q
          have : r.2 ∉ sds h pre := fun z => h2 (List.mem_append.mpr (.inr (List.mem_map.mpr ⟨r.2, z, er.symm⟩)))
          rw [ins_no this, List.map_append, Bool.not_false, cond_true, List.append_assoc]
          congr 2
          show [r] = [(h, r.2)]
          rw [← er]
      · rw [decide_eq_false e, if_neg e]
        rfl
    rw [step, lg_turn h f nf post (pre ++ [r]), List.append_assoc]
    rfl
theorem sds_len (h : Str) (rs : List Rule) : (sds h rs).length ≤ rs.length := by
  have h1 := dd_len ((rs.filter fun r => decide (r.1 = h)).map (·.2))
  rw [List.length_map] at h1
  exact Nat.le_trans h1 (List.length_filter_le _ _)
theorem t_lgrouped {rs : List Rule} (hl : rs.length ≤ 300) : m__law_grouped rs = .ok (grps rs) := by
  refine Tt.eq ?_
  unfold m__law_grouped
  refine Tt.let ((Tt.for (fun (pre : List Rule) (s : List Str) => s = hds pre) rfl ?_).bind fun hs e => ?_)
  · rintro pre x post s hx rfl
    have h3 := congrArg List.length hx
    rw [List.length_append, List.length_cons] at h3
    have h4 : (hds pre).length ≤ pre.length := by have := dd_len (pre.map (·.1)); rw [List.length_map] at this; exact this
    rw [hds_snoc]
    refine Tt.if (fun c => ?_) fun c => ?_
    · have m : x.1 ∉ hds pre := by simpa using c
      exact Tt.chk (by omega) (Tt.let (Tt.ret (by rw [ins_no m])))
    · have m : x.1 ∈ hds pre := by simpa using c
      exact Tt.ret (by rw [ins_yes m])
  · subst e
    refine Tt.let ((Tt.for (fun (pre : List Str) (f : List Rule) => f = pre.flatMap fun h => (sds h rs).map fun s => (h, s)) rfl ?_).bind fun f e => Tt.ret (by rw [e]; rfl))
    rintro pre h post f hx rfl
    have nd : (hds rs).Nodup := dd_nodup _
    rw [hx, List.nodup_append] at nd
    have nh : h ∉ pre := fun z => nd.2.2 h z h (List.mem_cons_self ..) rfl
    have nf : ∀ s, (h, s) ∉ pre.flatMap fun h => (sds h rs).map fun s => (h, s) := fun s z => by
      obtain ⟨h2, hh, z⟩ := List.mem_flatMap.mp z
      obtain ⟨s2, _, e⟩ := List.mem_map.mp z
      cases e
      exact nh hh
    have lf : (pre.flatMap fun h => (sds h rs).map fun s => (h, s)).length ≤ 300 := by
      refine Nat.le_trans (sub_len (flat_nodup (f := fun h => sds h rs) nd.1 fun _ => dd_nodup _) (m := rs) fun r hr => ?_) hl
      obtain ⟨h2, _, z⟩ := List.mem_flatMap.mp hr
      obtain ⟨s2, hs, e⟩ := List.mem_map.mp z
      rw [← e]
      exact sds_mem.mp hs
    have tail : (pre ++ [h]).flatMap (fun h => (sds h rs).map fun s => (h, s)) = (pre.flatMap fun h => (sds h rs).map fun s => (h, s)) ++ (sds h rs).map fun s => (h, s) := by
      rw [List.flatMap_append]
      simp
    rw [tail]
    generalize (pre.flatMap fun h => (sds h rs).map fun s => (h, s)) = f at nf lf ⊢
    refine (Tt.for (fun (pre1 : List Rule) (g : List Rule) => g = f ++ (sds h pre1).map fun s => (h, s)) (by show f = f ++ []; rw [List.append_nil]) ?_).bind fun g e => Tt.ret e
    rintro pre1 x post1 g hx1 rfl
    have l1 := congrArg List.length hx1
    rw [List.length_append, List.length_cons] at l1
    have l2 := sds_len h pre1
    have lt := lg_turn h f nf [x] pre1
    rw [List.foldl_cons, List.foldl_nil] at lt
    rw [← lt]
    refine Tt.if (fun c => ?_) fun c => ?_
    · have c : (decide (x.1 = h) && !memB x (f ++ (sds h pre1).map fun s => (h, s))) = true := c
      rw [c]
      exact Tt.chk (by rw [List.length_append, List.length_map]; omega) (Tt.let (Tt.ret rfl))
    · have c : (decide (x.1 = h) && !memB x (f ++ (sds h pre1).map fun s => (h, s))) = false := c
      rw [c]
      exact Tt.ret rfl
end
section
theorem t_same (a b : Rule) : m__law_same a b = .ok (eqB a b) := by
  unfold m__law_same
  rw [mforF_all (p := fun _ => true) (r := false) fun _ _ => rfl]
  have e : (a.2.all fun _ => true) = true := List.all_eq_true.mpr fun _ _ => rfl
  rw [e]
  rfl
theorem ext_upto {α : Type} {xs ys : List α} (hl : xs.length = ys.length) : (∀ i : Nat, i < ys.length → xs[i]? = ys[i]?) ↔ xs = ys := by
  refine ⟨fun h => List.ext_getElem? fun i => ?_, fun h _ _ => by rw [h]⟩
  by_cases hi : i < ys.length
  · exact h i hi
  · rw [List.getElem?_eq_none (by omega), List.getElem?_eq_none (by omega)]
theorem t_all_same {xs ys : List Rule} (h : ys.length ≤ 12000000) : m__law_all_same xs ys = .ok (eqB xs ys) := by
  unfold m__law_all_same
  by_cases hl : xs.length = ys.length
  · rw [show (!(decide ((xs.length : Int) = (ys.length : Int)))) = false by rw [decide_eq_true (by omega)]; rfl, cond_false]
    show mb (chk (decide _)) _ = _
    rw [mb_of (chk_of (decide_eq_true (by omega)))]
    rw [mforF_all (p := fun i => match xs[i.toNat]?, ys[i.toNat]? with | some a, some b => eqB a b | _, _ => false) (r := false) fun i hi => ?_]
    · rw [mb_ret]
      have key : ((ups (ys.length : Int).toNat).all fun i => match xs[i.toNat]?, ys[i.toNat]? with | some a, some b => eqB a b | _, _ => false) = eqB xs ys := by
        rw [Bool.eq_iff_iff, List.all_eq_true, eqB_iff, ← ext_upto hl]
        constructor
        · intro q i hi
          have := q (i : Int) (List.mem_map.mpr ⟨i, List.mem_range.mpr hi, rfl⟩)
          rw [Int.toNat_natCast, List.getElem?_eq_getElem hi, List.getElem?_eq_getElem (by omega)] at this
          rw [List.getElem?_eq_getElem hi, List.getElem?_eq_getElem (by omega), eqB_iff.mp this]
        · intro q i hi
          have hi := ups_mem hi
          have := q i.toNat (by omega)
          rw [this, List.getElem?_eq_getElem (by omega)]
          exact eqB_self _
      rw [key]
      cases eqB xs ys <;> rfl
    · have hi := ups_mem hi
      obtain ⟨a, e1, e2, _⟩ := atI_in (xs := xs) hi.1 (by omega)
      obtain ⟨b, e3, e4, _⟩ := atI_in (xs := ys) hi.1 (by omega)
      rw [mb_of (oM_of e1), mb_of (oM_of e3), mb_of (t_same a b), e2, e4]
      show (bif !(eqB a b) then Except.ok (Fl.rt false) else Except.ok (Fl.nx ())) = Except.ok (bif eqB a b then Fl.nx () else Fl.rt false)
      cases eqB a b <;> rfl
  · rw [show (!(decide ((xs.length : Int) = (ys.length : Int)))) = true by rw [decide_eq_false (by omega)]; rfl, cond_true]
    rw [eqB_not.mpr fun e => hl (by rw [e])]
end
section
def LS (rs : List Rule) (ls : List Str) (fi : Int) : Prop := ls.length = rs.length ∧ (∀ x ∈ ls, LnK x) ∧ ((fi = 0 ∧ ls = rs.map ln) ∨ ∃ (gs : List Rule) (o : Str) (rest : List Str), ls = gs.map ln ++ o :: rest ∧ oddB o = true ∧ (∀ r ∈ gs, ROk r) ∧ fi = ((gs.length : Nat) : Int) + 1)
theorem LS.put {rs : List Rule} {ls : List Str} {fi : Int} (h : LS rs ls fi) (hr : ∀ r ∈ rs, ROk r) {j : Nat} (hj : j < ls.length) {o : Str} (ho : oddB o = true) {b : Bool} (c : (decide (fi = 0) || decide ((j : Int) + 1 < fi)) = b) : LS rs (ls.set j o) (bif b then (j : Int) + 1 else fi) := by
  obtain ⟨h1, h2, h3⟩ := h
  refine ⟨by rw [List.length_set]; exact h1, fun x hx => (List.mem_or_eq_of_mem_set hx).elim (h2 x) fun e => by rw [e]; exact oddB_ln ho, .inr ?_⟩
  rcases h3 with ⟨e, e2⟩ | ⟨gs, p, rest, e, hp, hg, ef⟩
  · subst e2
    subst e
    have c : true = b := c
    subst c
    have hj' : j < rs.length := by rw [List.length_map] at hj; exact hj
    refine ⟨rs.take j, o, (rs.map ln).drop (j + 1), ?_, ho, fun r q => hr r (List.mem_of_mem_take q), ?_⟩
    · rw [List.set_eq_take_append_cons_drop, if_pos hj, List.map_take]
    · rw [List.length_take, Nat.min_eq_left (by omega)]; rfl
  · subst e
    rw [List.length_append, List.length_map, List.length_cons] at hj
    rw [decide_eq_false (show ¬ fi = 0 by omega), Bool.false_or] at c
    subst c
    by_cases c : j < gs.length
    · rw [decide_eq_true (by omega), cond_true]
      refine ⟨gs.take j, o, (gs.map ln).drop (j + 1) ++ p :: rest, ?_, ho, fun r q => hg r (List.mem_of_mem_take q), ?_⟩
      · rw [List.set_append, if_pos (by rw [List.length_map]; exact c), List.set_eq_take_append_cons_drop, if_pos (by rw [List.length_map]; exact c), List.map_take, List.append_assoc]
        rfl
      · rw [List.length_take, Nat.min_eq_left (by omega)]
    · rw [decide_eq_false (by omega), cond_false, List.set_append, if_neg (by rw [List.length_map]; omega), List.length_map]
      by_cases d : j = gs.length
      · refine ⟨gs, o, rest, ?_, ho, hg, ef⟩
        rw [d, Nat.sub_self, List.set_cons_zero]
      · refine ⟨gs, p, rest.set (j - gs.length - 1) o, ?_, hp, hg, ef⟩
        rw [show j - gs.length = (j - gs.length - 1) + 1 by omega, List.set_cons_succ]
        rfl
theorem t_odd {d : Int} : Tt (m__law_odd d) fun o => oddB o = true := by
  unfold m__law_odd
  have d0 : 0 ≤ d % 24 := Int.emod_nonneg _ (by omega)
  have d1 : d % 24 < 24 := Int.emod_lt_of_pos _ (by omega)
  refine Tt.let (Tt.chk (by decide) (Tt.let (Tt.chk (by decide) (Tt.let (Tt.chk (by decide) (Tt.let (Tt.ix d0 ?_ fun o ho _ => Tt.ret (ODD_odd o ho))))))))
  show d % 24 < ((24 : Nat) : Int)
  omega
theorem mtry_er {α β : Type} {c : Str} {fs : List (Str × Pay)} {f : α → M β} {g : List (Str × Pay) → M β} : mtry (.error (.ex c fs)) c f g = g fs := if_pos rfl
theorem mtry_ok {α β : Type} {c : Str} {a : α} {f : α → M β} {g : List (Str × Pay) → M β} : mtry (.ok a) c f g = f a := rfl
theorem law_ok (ns : List Int) : m_law ns = .ok true := by
  refine Tt.eq ?_
  unfold m_law
  refine Tt.by (t_cell (by decide)) ((t_rules3 (by decide)).bind fun rs0 ⟨l0, hr0⟩ => Tt.by (t_cell (by decide)) ((t_draws (by decide)).bind fun row ⟨hl, hd⟩ => ?_))
  have l0 : rs0.length ≤ 18 := l0
  have hl : row.length = 6 := hl
  refine Tt.bind (P := fun (rs : List Rule) => rs.length ≤ 18 ∧ 1 ≤ rs.length ∧ ∀ r ∈ rs, ROk r) ?_ fun rs ⟨l1, l2, hr⟩ => ?_
  · refine Tt.if (fun _ => Tt.let (Tt.ret ⟨by decide, by decide, fun r h => ?_⟩)) fun c => Tt.ret ⟨l0, ?_, hr0⟩
    · rw [List.mem_singleton.mp h]
      refine ⟨⟨by decide +kernel, fun s hs => ?_⟩, by decide⟩
      rw [List.mem_singleton.mp hs]
      decide +kernel
    · have c := of_decide_eq_false c
      omega
  refine Tt.let (Tt.by (a := rs.map ln) (Tt.eq ?_) ?_)
  · refine Tt.for (fun (pre : List Rule) (s : List Str) => s = pre.map ln) rfl ?_
    rintro pre r post s e rfl
    have le := congrArg List.length e
    rw [List.length_append, List.length_cons] at le
    refine Tt.of (t_mkline (s := pre.map ln) (hr r (by rw [e]; exact List.mem_append_right _ List.mem_cons_self)) (by rw [List.length_map]; omega)) ?_
    rw [List.map_append]
    rfl
  refine Tt.let (Tt.ix (by omega) (by omega) fun d0 _ _ => ?_)
  have e0 : 0 ≤ d0 % 3 := Int.emod_nonneg _ (by omega)
  have e1 : d0 % 3 < 3 := Int.emod_lt_of_pos _ (by omega)
  refine Tt.chk (by omega) (Tt.bind (P := fun (s : List Str × Int) => LS rs s.1 s.2) ?_ ?_)
  · refine Tt.for (fun (pre : List Int) (s : List Str × Int) => LS rs s.1 s.2) ⟨List.length_map .., fun x hx => ?_, .inl ⟨rfl, rfl⟩⟩ ?_
    · obtain ⟨r, h, rfl⟩ := List.mem_map.mp hx
      have := ln_ok (hr r h)
      exact ⟨this.1, this.2.2⟩
    · rintro pre x post ⟨ls, fi⟩ e H
      have H : LS rs ls fi := H
      have hx := ups_mem (show x ∈ ups (d0 % 3).toNat by rw [e]; exact List.mem_append_right _ List.mem_cons_self)
      have ll : ls.length = rs.length := H.1
      refine Tt.ix (by omega) (by omega) fun d1 m1 _ => ?_
      have r1 := hd d1 m1
      have p0 : 0 ≤ d1 % (ls.length : Int) := Int.emod_nonneg _ (by omega)
      have p1 : d1 % (ls.length : Int) < (ls.length : Int) := Int.emod_lt_of_pos _ (by omega)
      refine Tt.chk (show (0 : Int) < (ls.length : Int) by omega) (Tt.let (Tt.ix (by omega) (by omega) fun d3 _ _ => t_odd.bind fun o ho => Tt.ixN p0 p1 (Tt.let ?_)))
      have ej : (((d1 % (ls.length : Int)).toNat : Nat) : Int) = d1 % (ls.length : Int) := Int.toNat_of_nonneg p0
      refine Tt.if (fun c => Tt.let (Tt.ret ?_)) fun c => Tt.ret ?_
      · have := H.put hr (j := (d1 % (ls.length : Int)).toNat) (by omega) ho (b := true) (by rw [ej]; exact c)
        rw [ej] at this
        exact this
      · exact H.put hr (j := (d1 % (ls.length : Int)).toNat) (by omega) ho (b := false) (by rw [ej]; exact c)
  · rintro ⟨ls, fi⟩ ⟨h1, h2, h3⟩
    have h1 : ls.length = rs.length := h1
    obtain ⟨q1, q2, q3⟩ := text_ok (ls := ls) (by omega) h2
    have gi : m_Grammar___init__ ([] : List Rule) = .ok [] := t_init3 (Nat.zero_le _)
    rcases h3 with ⟨e, e2⟩ | ⟨gs, o, rest, e, ho, hg, ef⟩
    · have e : fi = 0 := e
      have e2 : ls = rs.map ln := e2
      subst e e2
      refine Tt.by (a := false) rfl (Tt.by (a := (rs, (0 : Int))) rfl (Tt.let (Tt.chk q1 (Tt.chk q2 ?_))))
      have tf : m_Grammar_from_string () (Txt.join "\n" (rs.map ln)) = .ok (grps rs) := t_from l1 hr
      rw [tf, mtry_ok]
      refine Tt.let ?_
      show Tt (mb (mor (decide ((0 : Int) < 0)) (mb (m__law_grouped rs) fun t49 => mb (m__law_all_same (grps rs) t49) fun t50 => .ok t50)) fun c51 => .ok c51) _
      refine Tt.by (a := true) ?_ (Tt.ret rfl)
      refine (Tt.mor (b := true) fun _ => ?_).trans rfl
      rw [mb_of (t_lgrouped (by omega)), mb_of (t_all_same (by have := grps_len rs; omega)), eqB_self]
    · have ef : fi = ((gs.length : Nat) : Int) + 1 := ef
      have e : ls = gs.map ln ++ o :: rest := e
      have c0 : decide ((0 : Int) < fi) = true := decide_eq_true (by omega)
      by_cases sp : ls = [("" : Str)]
      · rw [sp] at q1 q2 ⊢
        refine Tt.by (a := true) ?_ ?_
        · refine (Tt.mand (b := true) fun _ => ?_).trans (by rw [c0]; rfl)
          rfl
        · refine Tt.by (a := (([] : List Rule), (0 : Int))) rfl (Tt.let (Tt.chk q1 (Tt.chk q2 ?_)))
          have tf : m_Grammar_from_string () (Txt.join "\n" ([("" : Str)] : List Str)) = .ok [] := by
            have : Txt.join "\n" ([("" : Str)] : List Str) = txt [] := by decide +kernel
            rw [this]
            exact t_from (by decide) (fun r h => nomatch h)
          rw [tf, mtry_ok]
          refine Tt.let ?_
          show Tt (mb (mor (decide ((0 : Int) < 0)) (mb (m__law_grouped []) fun t49 => mb (m__law_all_same [] t49) fun t50 => .ok t50)) fun c51 => .ok c51) _
          refine Tt.by (a := true) ?_ (Tt.ret rfl)
          refine (Tt.mor (b := true) fun _ => ?_).trans rfl
          rw [mb_of (t_lgrouped (Nat.zero_le _)), mb_of (t_all_same (Nat.zero_le _)), show grps ([] : List Rule) = [] from rfl, eqB_self]
      · have ne : Txt.join "\n" ls ≠ "" := fun q => by
          have q' : TL.tl (Txt.join "\n" ls) = [] := by rw [q]; decide +kernel
          rw [tl_tjoin, nlT] at q'
          match ls, sp, q', h1 with
          | [], _, _, h1 => rw [List.length_nil] at h1; omega
          | [x], sp, q', _ =>
            have q' : TL.tl x = [] := q'
            refine sp ?_
            rw [show x = "" from tl_inj (by rw [q']; decide +kernel)]
          | x :: y :: l, _, q', _ =>
            have q' : TL.tl x ++ ([10] ++ TL.joinL [10] ((y :: l).map TL.tl)) = [] := q'
            have := congrArg List.length q'
            rw [List.length_append, List.length_append, List.length_singleton, List.length_nil] at this
            omega
        refine Tt.by (a := false) ?_ ?_
        · refine (Tt.mand (b := false) fun _ => ?_).trans (by rw [c0]; rfl)
          refine (mb_of (Tt.mand (a := decide ((ls.length : Int) = 1)) (b := decide (ls = [("" : Str)])) fun c => ?_)).trans ?_
          · have c := of_decide_eq_true c
            obtain ⟨x, rfl⟩ := List.length_eq_one_iff.mp (show ls.length = 1 by omega)
            rw [mb_of (oM_of (atI_zero (x := x) (l := [])))]
            congr 1
            rw [decide_eq_false sp]
            exact decide_eq_false fun q => sp (by rw [q])
          · rw [decide_eq_false sp, Bool.and_false]
        · refine Tt.by (a := (rs, fi)) rfl (Tt.let (Tt.chk q1 (Tt.chk q2 ?_)))
          subst e
          rw [t_from_bad (by omega) hg h2 ho ne, mtry_er]
          refine Tt.by (a := .nx (((gs.length : Nat) : Int) + 1, ([] : List Rule))) ?_ ?_
          · rw [show ((!true) || (!true)) = false from rfl, cond_false, mb_of (oM_of (show payI [("number", .i (((gs.length : Nat) : Int) + 1))] "number" = some (((gs.length : Nat) : Int) + 1) from rfl))]
            rw [show ((!true) || false) = false from rfl, cond_false, mb_of gi]
          · show Tt (bif !decide ((((gs.length : Nat) : Int) + 1) = fi) then _ else _) _
            rw [decide_eq_true ef.symm]
            refine Tt.by (a := true) ((Tt.mor (b := true) fun q => ?_).trans rfl |>.trans ?_) (Tt.ret rfl)
            · exfalso
              have q : decide ((0 : Int) < fi) = false := q
              rw [c0] at q; cases q
            · rw [Bool.or_true]
end
section
local macro_rules
  | `(tactic| walk_at "ev_tVar") => `(tactic| (first
    | ((with_reducible show Ev (rL (rO _)) _ _ (List.map Option.some _)); apply ev_LO)
    | ((with_reducible show Ev (rT _ (rO _)) _ _ (List.map Option.some _)); apply ev_TO)
    | ((with_reducible show Ev (rEi _ _) _ _ _); first | exact a_ro (by rfl) | exact ei_T (a_fz (by rfl)) | apply ei_L)
    | ((with_reducible show Ev (rO _) (tVar _) _ _); first | exact a_noRs (by rfl) | exact a_nO (by rfl) | exact a_nOL (by rfl) | exact a_nOD (by rfl))
    | ((with_reducible show Ev (rH2 _ _) (tVar _) _ _); first | exact a_H2 (by rfl) | exact a_ro (by rfl))
    | ((with_reducible show Ev _ (tVar _) _ _); first | exact a_roV (by rfl) | exact ev_unsome (a_nOL (by rfl)) (by assumption) | exact ev_unsome (a_nOD (by rfl)) (by assumption))
    | ((with_reducible show Ev (rDm _) _ _ (Dm.s _)); apply ev_Ds)
    | ((with_reducible show Ev (rDm _) _ _ (Dm.r _)); apply ev_Dr)
    | ((with_reducible show Ev (rDm _) _ _ (Dm.b _)); apply ev_Db)
    | ((with_reducible show Ev (rDm _) _ _ Dm.n); exact ev_Dn0)
    | ((with_reducible show Ev (rRec _ _ _) (tVar _) _ _); first | exact a_ro (by rfl) | exact a_noR (by rfl) | exact a_gro (by rfl) | exact a_roV (by rfl) | exact ev_unsome (a_nO (by rfl)) (by assumption))
    | ((with_reducible show Ev (rDp _) (tVar _) _ _); first | exact a_ndp (by rfl) | exact a_ro (by rfl))
    | ((with_reducible show Ev (rPD _ _ _ _) (tVar _) _ _); first | exact a_ro (by rfl) | exact a_pdO (by rfl) (by assumption) | exact a_pdOO (by rfl) (by assumption) (by assumption))
    | ((with_reducible show Ev _ _ _ (catS _ _)); refine ev_js ?_ ?_)
    | ((with_reducible show Ev _ (tVar _) _ _); first | exact ev_lkA (a_ro (by rfl)) | exact ev_dp (a_ro (by rfl)) | exact a_roS (by rfl) (by assumption) | exact a_al (by rfl) (by rfl) (by assumption) | exact a_alF (i := 0) (by rfl) (by rfl) (by first | exact fat_hd | exact fat_tl fat_hd | exact fat_tl (fat_tl fat_hd) | exact fat_tl (fat_tl (fat_tl fat_hd))) (by exact rfl) | exact a_fz (by rfl) | exact a_lst (by rfl) | exact a_nlA (by rfl) | exact a_nlR (by rfl) | exact a_ndR (by rfl) | exact a_nlRz (by rfl) | exact a_H3 (by rfl) | exact a_ro (by rfl) | exact a_one (by rfl) | exact a_dct (by rfl) | exact a_lkd (by rfl) | exact a_roA (by rfl) | exact a_oneA (by rfl) | exact a_noR (by rfl) | exact a_some (by rfl) (by assumption) | exact a_alias (i := 0) (by rfl) (by rfl) | exact a_alias (i := 1) (by rfl) (by rfl) | exact a_alias (i := 2) (by rfl) (by rfl) | exact a_alias (i := 3) (by rfl) (by rfl) | exact a_alias (i := 4) (by rfl) (by rfl) | exact a_alias (i := 5) (by rfl) (by rfl) | exact a_alias (i := 6) (by rfl) (by rfl))
    | ((with_reducible show Ev (rO _) (tVar _) _ (Option.some _)); first | exact a_fz (by rfl) | exact a_noRs (by rfl) | apply Ev.some)
    | ((with_reducible show Ev _ _ _ _); with_reducible first | apply ev_chain_le | apply ev_chain_lelt | apply ev_neg | apply ev_and | apply ev_or | apply ev_not | apply ev_if | apply a_callM | apply a_callX | apply a_call | apply ev_upper | apply ev_partition | apply ev_rpartition | apply ev_join | apply ev_joinT | apply ev_ljust | apply ev_slS | apply ev_slT | apply a_pair | apply a_tup | apply a_dIn | apply a_dNin | exact ev_Z | apply a_dget2 | apply a_dget | apply ev_mthX | apply a_mthM | apply a_mth | apply a_nl | apply a_no | apply a_nd | apply a_nOeL | apply a_nR)
    | ((with_reducible show Ev (rT _ _) _ _ _); refine ev_TA ?_ (by assumption))))
  | `(tactic| walk_at "ev_tFld") => `(tactic| (first
    | ((with_reducible show Ev (rL (rO _)) _ _ (List.map Option.some _)); apply ev_LO)
    | ((with_reducible show Ev (rT _ (rO _)) _ _ (List.map Option.some _)); apply ev_TO)
    | ((with_reducible show Ev _ (tFld _ (tFld _ _ _) _) _ _); apply a_recF)
    | ((with_reducible show Ev (rEi _ _) (tFld _ _ _) _ _); exact a_recE (by first | exact a_ro (by rfl) | exact a_noR (by rfl) | exact a_gro (by rfl) | exact a_roS (by rfl) (by assumption)) (by first | exact fldA_hd (by simp only [fA, fN]; decide) | exact fldA_tl (fldA_hd (by simp only [fA, fN]; decide)) | exact fldA_tl (fldA_tl (fldA_hd (by simp only [fA, fN]; decide))) | exact fldA_tl (fldA_tl (fldA_tl (fldA_hd (by simp only [fA, fN]; decide)))) | exact fldA_tl (fldA_tl (fldA_tl (fldA_tl (fldA_hd (by simp only [fA, fN]; decide))))) | exact fld_hd | exact fld_tl fld_hd (by decide)) (by assumption) (by assumption) (by exact rfl))
    | ((with_reducible show Ev (rEi _ _) _ _ _); first | exact a_ro (by rfl) | exact ei_T (a_fz (by rfl)) | apply ei_L)
    | ((with_reducible show Ev (rPD _ _ _ _) (tFld _ _ _) _ _); refine a_recFpd (by first | exact a_ro (by rfl) | exact a_noR (by rfl) | exact a_roS (by rfl) (by assumption)) (by first | exact fldA_hd (by simp only [fA, fN]; decide) | exact fldA_tl (fldA_hd (by simp only [fA, fN]; decide)) | exact fldA_tl (fldA_tl (fldA_hd (by simp only [fA, fN]; decide)))) (by assumption) (by assumption) (by exact rfl) (by assumption))
    | ((with_reducible show Ev (rDm _) _ _ (Dm.s _)); apply ev_Ds)
    | ((with_reducible show Ev (rDm _) _ _ (Dm.r _)); apply ev_Dr)
    | ((with_reducible show Ev (rDm _) _ _ (Dm.b _)); apply ev_Db)
    | ((with_reducible show Ev (rDm _) _ _ Dm.n); exact ev_Dn0)
    | ((with_reducible show Ev (rDp _) (tFld _ _ _) _ _); exact a_recF (by first | exact a_ro (by rfl) | exact a_roS (by rfl) (by assumption)) (by first | exact fldA_hd (by simp only [fA, fN]; decide) | exact fldA_tl (fldA_hd (by simp only [fA, fN]; decide)) | exact fldA_tl (fldA_tl (fldA_hd (by simp only [fA, fN]; decide))) | exact fldA_tl (fldA_tl (fldA_tl (fldA_hd (by simp only [fA, fN]; decide)))) | exact fldA_tl (fldA_tl (fldA_tl (fldA_tl (fldA_hd (by simp only [fA, fN]; decide)))))) bor_ndp (by assumption) (by assumption) (by exact rfl))
    | ((with_reducible show Ev _ _ _ (catS _ _)); refine ev_js ?_ ?_)
    | ((with_reducible show Ev _ (tFld _ _ _) _ _); first | exact a_recF (by first | exact a_ro (by rfl) | exact a_noR (by rfl) | exact a_gro (by rfl) | exact a_roS (by rfl) (by assumption)) (by first | exact fldA_hd (by simp only [fA, fN]; decide) | exact fldA_tl (fldA_hd (by simp only [fA, fN]; decide)) | exact fldA_tl (fldA_tl (fldA_hd (by simp only [fA, fN]; decide))) | exact fldA_tl (fldA_tl (fldA_tl (fldA_hd (by simp only [fA, fN]; decide)))) | exact fldA_tl (fldA_tl (fldA_tl (fldA_tl (fldA_hd (by simp only [fA, fN]; decide))))) | exact fld_hd | exact fld_tl fld_hd (by decide)) inferInstance (by assumption) (by assumption) (by exact rfl) | with_reducible apply a_oneF | with_reducible apply a_recF)
    | ((with_reducible show Ev _ _ _ _); with_reducible first | apply ev_chain_le | apply ev_chain_lelt | apply ev_neg | apply ev_and | apply ev_or | apply ev_not | apply ev_if | apply a_callM | apply a_callX | apply a_call | apply ev_upper | apply ev_partition | apply ev_rpartition | apply ev_join | apply ev_joinT | apply ev_ljust | apply ev_slS | apply ev_slT | apply a_pair | apply a_tup | apply a_dIn | apply a_dNin | exact ev_Z | apply a_dget2 | apply a_dget | apply ev_mthX | apply a_mthM | apply a_mth | apply a_nl | apply a_no | apply a_nd | apply a_nOeL | apply a_nR)
    | ((with_reducible show Ev (rT _ _) _ _ _); refine ev_TA ?_ (by assumption))))
  | `(tactic| walk_at "ev_tOp") => `(tactic| (first
    | ((with_reducible show Ev _ (tOp (rIx _) (tVar _) (tC (.int 0))) _ _); exact ev_g0 (a_H2 (by rfl)))
    | ((with_reducible show Ev _ (tOp (rIx _) (tVar _) (tC (.int 1))) _ _); exact ev_g1 (a_H2 (by rfl)))
    | ((with_reducible show Ev _ (tOp (rOwnIn _ _ _ _) _ _) _ _); first | apply a_inOM | apply a_ninOM)
    | ((with_reducible show Ev (rL (rO _)) _ _ (List.map Option.some _)); apply ev_LO)
    | ((with_reducible show Ev (rT _ (rO _)) _ _ (List.map Option.some _)); apply ev_TO)
    | ((with_reducible show Ev _ (tOp (rInD _) _ _) _ (memB _ (List.map Option.some _))); apply a_inLO)
    | ((with_reducible show Ev _ (tOp (rNotInD _) _ _) _ (!memB _ (List.map Option.some _))); apply a_ninLO)
    | ((with_reducible show Ev rB (tOp (rIx _) (tCall _ _ _ _) _) _ (Prod.snd _)); apply ev_newH1)
    | ((with_reducible show Ev (rEi _ _) _ _ _); first | exact a_ro (by rfl) | exact ei_T (a_fz (by rfl)) | apply ei_L)
    | ((with_reducible show Ev (rDm _) _ _ (Dm.s _)); apply ev_Ds)
    | ((with_reducible show Ev (rDm _) _ _ (Dm.r _)); apply ev_Dr)
    | ((with_reducible show Ev (rDm _) _ _ (Dm.b _)); apply ev_Db)
    | ((with_reducible show Ev (rDm _) _ _ Dm.n); exact ev_Dn0)
    | ((with_reducible show Ev (rL (rRec _ _ _)) (tOp _ _ _) _ _); apply ev_catM)
    | ((with_reducible show Ev _ (tOp (rPEq _ _ _) _ _) _ _); apply a_peq)
    | ((with_reducible show Ev _ _ _ (catS _ _)); refine ev_js ?_ ?_)
    | ((with_reducible show Ev (rO _) (tOp (rIx _) _ _) _ (Option.some _)); apply Ev.some)
    | ((with_reducible show Ev _ (tOp _ _ _) _ _); with_reducible first | apply ev_add | apply ev_sub | apply ev_mul | apply ev_mulS | apply ev_div | apply ev_mod | apply ev_pow | apply ev_lt | apply ev_le | apply ev_gt | apply ev_ge | apply a_eq | apply a_ne | apply a_in | apply a_nin | apply a_inSg | apply a_ninSg | apply a_ix | apply ev_addS | apply a_isN | apply a_notN | apply a_eqD | apply a_neD | apply a_inLD | apply a_ninLD | apply a_inTD | apply a_ninTD | apply ev_catT | apply a_isB | apply a_nisB | apply a_ltS | apply a_cmpOM | apply a_cmpO | apply a_nl)
    | ((with_reducible show Ev _ _ _ _); with_reducible first | apply ev_chain_le | apply ev_chain_lelt | apply ev_neg | apply ev_and | apply ev_or | apply ev_not | apply ev_if | apply a_callM | apply a_callX | apply a_call | apply ev_upper | apply ev_partition | apply ev_rpartition | apply ev_join | apply ev_joinT | apply ev_ljust | apply ev_slS | apply ev_slT | apply a_pair | apply a_tup | apply a_dIn | apply a_dNin | exact ev_Z | apply a_dget2 | apply a_dget | apply ev_mthX | apply a_mthM | apply a_mth | apply a_nl | apply a_no | apply a_nd | apply a_nOeL | apply a_nR)
    | ((with_reducible show Ev (rT _ _) _ _ _); refine ev_TA ?_ (by assumption))))
  | `(tactic| walk_at "ev_tCB") => `(tactic| (first
    | ((with_reducible show Ev (rL (rO _)) _ _ (List.map Option.some _)); apply ev_LO)
    | ((with_reducible show Ev (rT _ (rO _)) _ _ (List.map Option.some _)); apply ev_TO)
    | ((with_reducible show Ev (rEi _ _) (tCB (rTupU _) _) _ _); apply ei_T)
    | ((with_reducible show Ev (rEi _ _) _ _ _); first | exact a_ro (by rfl) | exact ei_T (a_fz (by rfl)) | apply ei_L)
    | ((with_reducible show Ev (rDm _) _ _ (Dm.s _)); apply ev_Ds)
    | ((with_reducible show Ev (rDm _) _ _ (Dm.r _)); apply ev_Dr)
    | ((with_reducible show Ev (rDm _) _ _ (Dm.b _)); apply ev_Db)
    | ((with_reducible show Ev (rDm _) _ _ Dm.n); exact ev_Dn0)
    | ((with_reducible show Ev _ _ _ (catS _ _)); refine ev_js ?_ ?_)
    | ((with_reducible show Ev _ (tCB (rIsX _ _ _ _) _) _ _); exact a_isX (by rfl) (by assumption))
    | ((with_reducible show Ev _ (tCB (rIsi _) (tCons _ (tCons (tC (.ref _)) tNil))) _ _); apply a_isiC)
    | ((with_reducible show Ev _ (tCB (rIsi _) _) _ (!isNone' _)); apply a_isiO)
    | ((with_reducible show Ev _ (tCB (rIsiP _ _ _) _) _ _); apply a_isiP)
    | ((with_reducible show Ev _ (tCB (rLenP _ _ _) _) _ _); apply a_lenP)
    | ((with_reducible show Ev _ (tCB (rStrO _ _) _) _ _); apply a_strO)
    | ((with_reducible show Ev _ (tCB _ _) _ _); with_reducible first | apply a_len | apply a_strS | apply a_int | apply ev_all | apply ev_any | apply ev_sum | apply a_tupC | apply a_isi | apply a_nl)
    | ((with_reducible show Ev _ _ _ _); with_reducible first | apply ev_chain_le | apply ev_chain_lelt | apply ev_neg | apply ev_and | apply ev_or | apply ev_not | apply ev_if | apply a_callM | apply a_callX | apply a_call | apply ev_upper | apply ev_partition | apply ev_rpartition | apply ev_join | apply ev_joinT | apply ev_ljust | apply ev_slS | apply ev_slT | apply a_pair | apply a_tup | apply a_dIn | apply a_dNin | exact ev_Z | apply a_dget2 | apply a_dget | apply ev_mthX | apply a_mthM | apply a_mth | apply a_nl | apply a_no | apply a_nd | apply a_nOeL | apply a_nR)
    | ((with_reducible show Ev (rT _ _) _ _ _); refine ev_TA ?_ (by assumption))))
  | `(tactic| walk_at "ev_tC") => `(tactic| (first
    | ((with_reducible show Ev (rL (rO _)) _ _ (List.map Option.some _)); apply ev_LO)
    | ((with_reducible show Ev (rT _ (rO _)) _ _ (List.map Option.some _)); apply ev_TO)
    | ((with_reducible show Ev (rEi _ _) _ _ _); first | exact a_ro (by rfl) | exact ei_T (a_fz (by rfl)) | apply ei_L)
    | ((with_reducible show Ev (rDm _) _ _ (Dm.s _)); apply ev_Ds)
    | ((with_reducible show Ev (rDm _) _ _ (Dm.r _)); apply ev_Dr)
    | ((with_reducible show Ev (rDm _) _ _ (Dm.b _)); apply ev_Db)
    | ((with_reducible show Ev (rDm _) _ _ Dm.n); exact ev_Dn0)
    | ((with_reducible show Ev _ _ _ (catS _ _)); refine ev_js ?_ ?_)
    | ((with_reducible show Ev _ (tC _) _ _); first | with_reducible exact ev_int | exact ev_cls | (with_reducible refine ev_str ?_; decide +kernel) | with_reducible exact ev_bl | with_reducible exact ev_non | with_reducible exact ev_nonN)
    | ((with_reducible show Ev (rO _) (tC _) _ (Option.some _)); apply Ev.some)
    | ((with_reducible show Ev _ _ _ _); with_reducible first | apply ev_chain_le | apply ev_chain_lelt | apply ev_neg | apply ev_and | apply ev_or | apply ev_not | apply ev_if | apply a_callM | apply a_callX | apply a_call | apply ev_upper | apply ev_partition | apply ev_rpartition | apply ev_join | apply ev_joinT | apply ev_ljust | apply ev_slS | apply ev_slT | apply a_pair | apply a_tup | apply a_dIn | apply a_dNin | exact ev_Z | apply a_dget2 | apply a_dget | apply ev_mthX | apply a_mthM | apply a_mth | apply a_nl | apply a_no | apply a_nd | apply a_nOeL | apply a_nR)
    | ((with_reducible show Ev (rT _ _) _ _ _); refine ev_TA ?_ (by assumption))))
  | `(tactic| walk_at "ev_o") => `(tactic| (first
    | ((with_reducible show Ev _ (tNotT _ _) _ _); first | apply ev_notTL | apply ev_notTT)
    | ((with_reducible show Ev (rL (rO _)) _ _ (List.map Option.some _)); apply ev_LO)
    | ((with_reducible show Ev (rT _ (rO _)) _ _ (List.map Option.some _)); apply ev_TO)
    | ((with_reducible show Ev (rEi _ _) (tTupD _) _ _); apply ei_T)
    | ((with_reducible show Ev (rEi _ _) _ _ _); first | exact a_ro (by rfl) | exact ei_T (a_fz (by rfl)) | apply ei_L)
    | ((with_reducible show Ev _ (tBM _ "list" _ _ _) _ _); first | apply ev_index | apply ev_lcount)
    | ((with_reducible show Ev _ (tTM _ _ _ _) _ _); apply ev_tcount)
    | ((with_reducible show Ev _ (tInsCall _ _ _ _ _) _ _); apply a_insCall)
    | ((with_reducible show Ev _ (tPGet2 _ _ _ _ _ _) _ _); apply a_pget2)
    | ((with_reducible show Ev _ (tPGet1 _ _ _ _ _) _ _); apply a_pget1)
    | ((with_reducible show Ev (rDm _) _ _ (Dm.s _)); apply ev_Ds)
    | ((with_reducible show Ev (rDm _) _ _ (Dm.r _)); apply ev_Dr)
    | ((with_reducible show Ev (rDm _) _ _ (Dm.b _)); apply ev_Db)
    | ((with_reducible show Ev (rDm _) _ _ Dm.n); exact ev_Dn0)
    | ((with_reducible show Ev (rRec _ _ _) (tMakeS _ _ _ _) _ _); first | apply ev_mkM | apply a_nR)
    | ((with_reducible show Ev (rL (rRec _ _ _)) (tLst _) _ _); refine ev_lstM ?_ inferInstance (by simp only [List.length_cons, List.length_nil]; omega))
    | ((with_reducible show Ev (rL (rRec _ _ _)) (tSl _ _ _ _) _ _); apply ev_slM)
    | ((with_reducible show Ev (rDp _) tDNewK _ _); exact ev_dp0)
    | ((with_reducible show Ev (rPD _ _ _ _) (tCall _ _ _ _) _ _); refine Nw.pd ?_ ?_)
    | ((with_reducible show Ev _ (tM1 _ _ (tPGet _ _ _ _ _)) _ _); apply ev_joinT)
    | ((with_reducible show Ev _ (tPGet _ _ _ _ _) _ _); apply a_pget)
    | ((with_reducible show Ev _ (tPIn _ _ _ _ _) _ _); apply a_pIn)
    | ((with_reducible show Ev _ (tPNotIn _ _ _ _ _) _ _); apply a_pNin)
    | ((with_reducible show Ev _ (tFmtW _ _) _ _); refine ev_fmtW ?_ ev_spW ?_)
    | ((with_reducible show Ev _ (tFmt _) _ _); apply ev_fmt)
    | ((with_reducible show Ev _ _ _ (catS _ _)); refine ev_js ?_ ?_)
    | ((with_reducible show Ev (rW _ _) (tTupD _) _ _); apply a_tupW)
    | ((with_reducible show Ev _ (tXf _ _ _ _ _ _) _ _); first | exact a_xfS (by rfl) (by unfold PayS; assumption) | exact a_xfO (by rfl) (by unfold PayO; assumption) | exact a_xfI (by rfl) (by unfold PayI; assumption) | exact a_xfR (by rfl) (by unfold PayR; assumption) | exact a_xfL (by rfl) (by unfold PayL; assumption) | exact a_xfT (by rfl) (by unfold PayT; assumption))
    | ((with_reducible show Ev (rRec _ _ _) (tProp _ _ _ _ _) _ _); first | apply a_propR | apply a_prop)
    | ((with_reducible show Ev _ (tProp _ _ _ _ _) _ _); apply a_prop)
    | ((with_reducible show Ev _ _ _ _); with_reducible first | apply ev_chain_le | apply ev_chain_lelt | apply ev_neg | apply ev_and | apply ev_or | apply ev_not | apply ev_if | apply a_callM | apply a_callX | apply a_call | apply ev_upper | apply ev_partition | apply ev_rpartition | apply ev_join | apply ev_joinT | apply ev_ljust | apply ev_slS | apply ev_slT | apply a_pair | apply a_tup | apply a_dIn | apply a_dNin | exact ev_Z | apply a_dget2 | apply a_dget | apply ev_mthX | apply a_mthM | apply a_mth | apply a_nl | apply a_no | apply a_nd | apply a_nOeL | apply a_nR)
    | ((with_reducible show Ev (rT _ _) _ _ _); refine ev_TA ?_ (by assumption))))
  | `(tactic| walk_at "evE") => `(tactic| (first
    | ((with_reducible show Ev _ (tVar _) _ _); first | exact a_al (by rfl) (by rfl) (by assumption) | exact a_fz (by rfl) | exact a_ro (by rfl) | walk_at "ev_tVar")
    | ((with_reducible show Ev _ (tFld _ _ _) _ _); walk_at "ev_tFld")
    | ((with_reducible show Ev _ (tOp _ _ _) _ _); walk_at "ev_tOp")
    | ((with_reducible show Ev _ (tCB _ _) _ _); walk_at "ev_tCB")
    | ((with_reducible show Ev _ (tC _) _ _); walk_at "ev_tC")
    | walk_at "ev_o"))
  | `(tactic| walk_at "evEvA") => `(tactic| (first
    | ((with_reducible show EvA (aRest _) _ _ _); refine ea_rest ?_ (Nat.le_of_ble_eq_true rfl))
    | ((with_reducible show EvA _ _ _ _); with_reducible first | exact ea_nil | exact el_nil | apply a_cons | apply a_el | apply a_starT | apply ea_argK2 | apply ea_argN2 | apply ea_argN1 | apply ea_argD1 | apply ea_argNO)))
  | `(tactic| walk_at "evNw") => `(tactic| (first
    | ((with_reducible show Nw _ (tIf _ _ _) _ (bif _ then _ else _)); refine nw_if ?_ (fun _ => ?_) (fun _ => ?_))
    | ((with_reducible show Nw (nO _ _) _ _ none); exact nw_nonO)
    | ((with_reducible show Nw (npd _ _ _ _) (tPDisp _ _ _ _) _ _); refine nw_pdisp ?_ inferInstance (Nat.le_of_ble_eq_true rfl))
    | ((with_reducible show Nw _ _ _ _); with_reducible first | exact nw_pnew | apply nw_listRev | apply nw_revL | apply a_srtL | apply a_srt | apply a_ncallM | apply a_ncallX | apply a_ncall | apply a_lstD | apply a_list | apply a_slL | apply a_cat | apply nw_split | apply nw_oneL | apply nw_recL | apply nw_mkOM | apply nw_mkOM0 | apply nw_mkV | apply nw_cm | apply nw_mkR | apply nw_mkI | apply nw_mkO | apply nw_binOM | apply nw_binO | apply nw_mthX | apply nw_mthM | apply nw_mth | exact nw_dnew | exact nw_nilR | exact nw_dnewR | apply nw_H3)))
  | `(tactic| walk_at "evIxC") => `(tactic| (first
    | ((with_reducible show IxC _ (rW _ _) _ _ _ _ _); first | exact ixc_W wix_hd (by rfl) | exact ixc_W (wix_tl wix_hd) (by rfl) | exact ixc_W (wix_tl (wix_tl wix_hd)) (by rfl) | exact ixc_W (wix_tl (wix_tl (wix_tl wix_hd))) (by rfl) | exact ixc_W (wix_tl (wix_tl (wix_tl (wix_tl wix_hd)))) (by rfl) | exact ixc_W (wix_tl (wix_tl (wix_tl (wix_tl (wix_tl wix_hd))))) (by rfl) | exact fun ta h => ev_unsome (ixc_W wix_hd (by rfl) ta h) (by assumption) | exact fun ta h => ev_unsome (ixc_W (wix_tl wix_hd) (by rfl) ta h) (by assumption) | exact fun ta h => ev_unsome (ixc_W (wix_tl (wix_tl wix_hd)) (by rfl) ta h) (by assumption) | exact fun ta h => ev_unsome (ixc_W (wix_tl (wix_tl (wix_tl wix_hd))) (by rfl) ta h) (by assumption) | exact fun ta h => ev_unsome (ixc_W (wix_tl (wix_tl (wix_tl (wix_tl wix_hd)))) (by rfl) ta h) (by assumption) | exact fun ta h => ev_unsome (ixc_W (wix_tl (wix_tl (wix_tl (wix_tl (wix_tl wix_hd))))) (by rfl) ta h) (by assumption))
    | ((with_reducible show IxC _ (rO (rW _ _)) _ _ _ _ _); refine ixc_Og (by assumption) ?_; first | exact ixc_W wix_hd (by rfl) | exact ixc_W (wix_tl wix_hd) (by rfl) | exact ixc_W (wix_tl (wix_tl wix_hd)) (by rfl) | exact ixc_W (wix_tl (wix_tl (wix_tl wix_hd))) (by rfl) | exact ixc_W (wix_tl (wix_tl (wix_tl (wix_tl wix_hd)))) (by rfl) | exact ixc_W (wix_tl (wix_tl (wix_tl (wix_tl (wix_tl wix_hd))))) (by rfl))
    | ((with_reducible show IxC _ _ _ _ _ _ _); first | with_reducible exact ixc_0 | with_reducible exact ixc_1 | with_reducible exact ixc_h0 | with_reducible exact ixc_g0 | with_reducible exact ixc_g1 | with_reducible exact ixc_h1 | with_reducible exact ixc_h2 | exact ixc_O0 (by assumption) | (refine ixc_Og (by assumption) ?_; with_reducible apply ixc_T) | exact ixc_O1 (by assumption) | with_reducible apply ixc_L | with_reducible apply ixc_Q | with_reducible apply ixc_T | with_reducible apply ixc_Y | with_reducible apply ixc_S | with_reducible apply ixc_E)))
  | `(tactic| walk_at "evR") => `(tactic| (first
    | ((with_reducible show allS _ = some _); assumption)
    | ((with_reducible show IdxOk _ _ _); unfold IdxOk; assumption)
    | ((with_reducible show List.length _ ≤ 12000000); assumption)
    | ((with_reducible show EvD _ _ _ _); first | exact evd_nil | refine evd_cons ?_ ?_ inferInstance ?_)
    | ((with_reducible show LnC _ (rW _ _) _ _); exact lnc_W)
    | ((with_reducible show EJ _ _ _); first | exact EJ.nil | refine EJ.cons ?_ ?_)
    | ((with_reducible show pkey _ _ = some _); assumption)
    | ((with_reducible show PadOk _ = true); assumption)
    | ((with_reducible show _ ≤ 99000); assumption)
    | ((with_reducible show _ < 64); assumption)
    | ((with_reducible show FldAt _ _ _ _); first | exact fldA_hd (by simp only [fA, fN]; decide) | exact fldA_tl (fldA_hd (by simp only [fA, fN]; decide)) | exact fldA_tl (fldA_tl (fldA_hd (by simp only [fA, fN]; decide))) | exact fldA_tl (fldA_tl (fldA_tl (fldA_hd (by simp only [fA, fN]; decide)))) | exact fldA_tl (fldA_tl (fldA_tl (fldA_tl (fldA_hd (by simp only [fA, fN]; decide))))) | exact fld_hd | exact fld_tl fld_hd (by decide) | exact fld_tl (fld_tl fld_hd (by decide)) (by decide))
    | ((with_reducible show InsK _ _); assumption)
    | ((with_reducible show PySem.W.kitOne _ _ _ = some _); assumption)
    | ((with_reducible show EvO _ _ _); with_reducible first | exact eo_none | apply eo_some)
    | ((with_reducible show _ < 4096); first | assumption | omega)
    | ((with_reducible show kitB _ _ = some _); decide +kernel)
    | ((with_reducible show SgOk _ _); unfold SgOk; first | assumption | exact rfl)
    | ((with_reducible show AppEq _ _ _); unfold AppEq; first | (dsimp only; exact rfl) | dsimp only | exact rfl)
    | ((with_reducible show PreOk _ _); unfold PreOk; dsimp only; first | done | exact trivial | omega | assumption | (constructor <;> first | omega | assumption))
    | ((with_reducible show LnC _ _ _ _); first | exact lnc_O (by assumption) lnc_P | exact lnc_Og (by assumption) lnc_T | with_reducible exact lnc_E | with_reducible first | exact lnc_L | exact lnc_T | exact lnc_Q | exact lnc_P | exact lnc_S)
    | ((with_reducible show IntC _ _ _); with_reducible first | exact intc_I | exact intc_B)
    | ((with_reducible show TrC _ _ _ _); with_reducible first | exact trc_L | exact trc_T | exact trc_I | exact trc_S)
    | ((with_reducible show EqC _ _ _ _); with_reducible first | exact eqc_I | exact eqc_S | exact eqc_B | exact eqc_O)
    | ((with_reducible show okS _); assumption)
    | ((with_reducible show (_ = true → _)); intro _)
    | ((with_reducible show (_ = false → _)); intro _)
    | ((with_reducible show CMul _ _); first | assumption | exact .inr (by decide) | exact .inl (by decide) | exact .inr (by assumption) | exact .inl (by assumption) | exact .inr (b2_small _))
    | ((with_reducible show CDiv _ _); first | assumption | exact ⟨by decide, by decide⟩)
    | ((with_reducible show CPow _ _); exact ⟨by decide, by decide, by decide⟩)
    | ((with_reducible show (0 : Int) < _); first | assumption | decide | omega)
    | ((with_reducible show _ ≤ 12000000); first | omega | assumption | (simp only [List.length_append, List.length_cons, List.length_nil, List.length_map]; omega) | decide +kernel)
    | ((with_reducible show _ ≤ 100000); first | omega | assumption | (simp only [List.length_append, List.length_cons, List.length_nil, List.length_map]; omega) | decide +kernel)
    | ((with_reducible show _ ≤ 16777216); assumption)
    | ((with_reducible show _ ≤ 1000); first | assumption | omega)
    | ((with_reducible show _ ≤ 50); assumption)
    | ((with_reducible show _ ∧ _); assumption)
    | ((with_reducible show _ ∉ _); first | decide | (simp only [fA, fN]; decide))
    | ((with_reducible show ∀ _ ∈ _, okS _); assumption)
    | ((with_reducible show _ = false); assumption)
    | ((with_reducible show dkey _ _ = some _); assumption)
    | ((with_reducible show atI _ _ = some _); assumption)
    | ((with_reducible show atI (_ :: _) _ = some _); exact rfl)
    | ((with_reducible show ((Str.length _ == 0) = false)); exact rfl)
    | ((with_reducible show DatC _ _); exact datC_of (by decide))
    | ((with_reducible show InsR _ _ _ _); first | with_reducible exact one_ins | with_reducible exact rec_ins1 | exact rec_ins | assumption)
    | ((with_reducible show NilT _ _); assumption)
    | ((with_reducible show Cls _ _); assumption)
    | ((with_reducible show NoAttr _ _ _); assumption)
    | infer_instance
    | with_reducible exact rfl
    | exact dot_eq
    | with_reducible exact trivial))
  | `(tactic| walk_at "evX") => `(tactic| repeat' (first
    | ((with_reducible show Ev _ _ _ _); walk_at "evE")
    | ((with_reducible show EvA _ _ _ _); walk_at "evEvA")
    | ((with_reducible show Nw _ _ _ _); walk_at "evNw")
    | ((with_reducible show EvT _ _ _); with_reducible first | apply et_test | apply et_B | apply et_not | apply et_and | apply et_or | apply a_tru | exact et_yes)
    | ((with_reducible show IxC _ _ _ _ _ _ _); walk_at "evIxC")
    | ((with_reducible show MOk _ _ _); unfold MOk; assumption)
    | ((with_reducible show Mono _); infer_instance)
    | ((with_reducible show MonoA _); infer_instance)
    | ((with_reducible show Frz _ _); infer_instance)
    | ((with_reducible show Bor _ _ _); infer_instance)
    | ((with_reducible show Cls _ _); assumption)
    | ((with_reducible show NoAttr _ _ _); assumption)
    | walk_at "evR"))
  | `(tactic| walk_at "ev") => `(tactic| (walk_at "evX") <;> (walk_at "evX"))
  | `(tactic| walk_at "len") => `(tactic| (first | assumption | (rw [ups_len]; omega) | (rw [List.length_map, List.length_range]; omega) | (simp only [List.length_cons, List.length_nil]; omega)))
  | `(tactic| walk_at "sub") => `(tactic| (repeat' (first | exact .nil | apply Sub.keep | apply Sub.drop)))
variable {P : Program} {w : World} {K : PySem.W.Frag} {mg : Str → Option Value} {base : Heap}
abbrev n_is_owner : List Str := ["name", "char"]
abbrev p_is_owner : List Str := ["name"]
theorem sc_is_owner : FnScope n_is_owner p_is_owner (defScope s_is_owner) := ⟨rfl, rfl, rfl, by decide +kernel, rfl, by decide +kernel, by decide +kernel⟩
abbrev sp_is_owner (K : PySem.W.Frag) : Sp := spM (aC rS aN) rB fun a => m_is_owner a.1
theorem c_is_owner (F : Df K mg "is_owner" s_is_owner) (B_len : mg "len" = none) (B_all : mg "all" = none) (M_LONGEST : ∃ t, mg "LONGEST" = some (.int 8 t)) (M_SMALL : ∃ t, mg "SMALL" = some (.str "abcdefghijklmnopqrstuvwxyz" t)) : Cal P w K mg base CX0 "is_owner" 1 p_is_owner (sp_is_owner K) := by
  obtain ⟨t_LONGEST, M_LONGEST⟩ := M_LONGEST
  obtain ⟨t_SMALL, M_SMALL⟩ := M_SMALL
  refine cal_of F sc_is_owner (fun vs H Q E ⟨a, b, h, _⟩ => LenA.len h) (fun _ _ _ _ _ _ us hl => match us, hl with | [_], _ => rfl) fun cdv f A outer s H vs Q E hr h => ?_
  have sc := sc_is_owner
  refine ⟨_, (pss_one (ps_ret (pe_and (pe_chain op_le op_le pe_int (pe_callB (k_len K) (by rfl) B_len PySem.boot_len (pa1 (pv 0))) (pe_glob (v := .int 8) (by rfl) M_LONGEST ⟨_, rfl⟩)) (pe_one (pe_callB (k_all K rfl) (by rfl) B_all (by decide +kernel) (pa1 (pe_lc (own := [("char", 1)]) (g := gName 1) (tt := tYes) (by rfl) sc.nd (pi_str (pv 0)) (blkOk_by (own := [("char", 1)]) (N := n_is_owner) (sc := defScope s_is_owner) (by decide +kernel)) (fun _ _ _ _ _ => (pgN 1 sc.nd)) (fun _ _ _ _ _ => pts_nil) (fun _ _ _ _ _ => (pe_cmpR op_in_sign (pv 1) (pe_glob (v := .str "abcdefghijklmnopqrstuvwxyz") (by rfl) M_SMALL ⟨_, rfl⟩) rfl))))))))), ?_⟩
  obtain ⟨⟨name1, _⟩, r0, ⟨v_name1, _, rfl, w_name1, rfl⟩, h, k⟩ := h
  have hD := rtF (K := K) k
  refine Sv.run (K := K) (G := ([fc rS name1, none] : Cells K)) ?_ (.fz w_name1 (.skip .nil))
  have h : m_is_owner name1 = .ok r0 := h
  unfold m_is_owner at h
  obtain ⟨c6, e_c6, h⟩ := mb_ok h
  cases h
  refine r_ret hD ?_
  refine ev_andM ?_ (fun _ e => ?_) e_c6
  · walk_at "ev"
  obtain ⟨e_u4, e⟩ := mb_chk e
  obtain ⟨zs5, e_zs5, e⟩ := mb_ok e
  cases e
  refine ev_all ?_
  refine Nw.lst ?_
  refine nw_lcM (G' := ([fc rS name1, none] : Cells K)) (r := rS) ?_ (by walk_at "len") (fun y2 => ⟨_, tb_name, fun _ e => ?_, fun _ e => ?_⟩) e_zs5
  · refine wk_str ?_
    walk_at "ev"
  · cases e
    exact et_yes
  · obtain ⟨t3, e_t3, e⟩ := mb_ok e; have e_t3 := oM_ok e_t3
    cases e
    walk_at "ev"
abbrev n_is_plain : List Str := ["name", "char"]
abbrev p_is_plain : List Str := ["name"]
theorem sc_is_plain : FnScope n_is_plain p_is_plain (defScope s_is_plain) := ⟨rfl, rfl, rfl, by decide +kernel, rfl, by decide +kernel, by decide +kernel⟩
abbrev sp_is_plain (K : PySem.W.Frag) : Sp := spM (aC rS aN) rB fun a => m_is_plain a.1
theorem c_is_plain (F : Df K mg "is_plain" s_is_plain) (B_len : mg "len" = none) (B_all : mg "all" = none) (M_LONGEST : ∃ t, mg "LONGEST" = some (.int 8 t)) (M_DIGITS : ∃ t, mg "DIGITS" = some (.str "0123456789" t)) (M_SMALL : ∃ t, mg "SMALL" = some (.str "abcdefghijklmnopqrstuvwxyz" t)) (M_CAPITAL : ∃ t, mg "CAPITAL" = some (.str "ABCDEFGHIJKLMNOPQRSTUVWXYZ" t)) : Cal P w K mg base CX0 "is_plain" 1 p_is_plain (sp_is_plain K) := by
  obtain ⟨t_LONGEST, M_LONGEST⟩ := M_LONGEST
  obtain ⟨t_DIGITS, M_DIGITS⟩ := M_DIGITS
  obtain ⟨t_SMALL, M_SMALL⟩ := M_SMALL
  obtain ⟨t_CAPITAL, M_CAPITAL⟩ := M_CAPITAL
  refine cal_of F sc_is_plain (fun vs H Q E ⟨a, b, h, _⟩ => LenA.len h) (fun _ _ _ _ _ _ us hl => match us, hl with | [_], _ => rfl) fun cdv f A outer s H vs Q E hr h => ?_
  have sc := sc_is_plain
  refine ⟨_, (pss_cons (ps_if (PW.pt (pw_or (pt_not (pt_chain op_le op_le pe_int (pe_callB (k_len K) (by rfl) B_len PySem.boot_len (pa1 (pv 0))) (pe_glob (v := .int 8) (by rfl) M_LONGEST ⟨_, rfl⟩))) (pw_or1 (pt_cmpR op_in_sign (pe_ix (k_ix K) (pv 0) pe_int (fun _ _ => rfl)) (pe_glob (v := .str "0123456789") (by rfl) M_DIGITS ⟨_, rfl⟩) rfl))))
      (pss_one (ps_ret pe_bl)) pss_nil)
      (pss_one (ps_ret (pe_callB (k_all K rfl) (by rfl) B_all (by decide +kernel) (pa1 (pe_lc (own := [("char", 1)]) (g := gName 1) (tt := tYes) (by rfl) sc.nd (pi_str (pv 0)) (blkOk_by (own := [("char", 1)]) (N := n_is_plain) (sc := defScope s_is_plain) (by decide +kernel)) (fun _ _ _ _ _ => (pgN 1 sc.nd)) (fun _ _ _ _ _ => pts_nil) (fun _ _ _ _ _ => (pe_or (pe_cmpR op_in_sign (pv 1) (pe_glob (v := .str "abcdefghijklmnopqrstuvwxyz") (by rfl) M_SMALL ⟨_, rfl⟩) rfl) (pe_or (pe_cmpR op_in_sign (pv 1) (pe_glob (v := .str "ABCDEFGHIJKLMNOPQRSTUVWXYZ") (by rfl) M_CAPITAL ⟨_, rfl⟩) rfl) (pe_one (pe_cmpR op_in_sign (pv 1) (pe_glob (v := .str "0123456789") (by rfl) M_DIGITS ⟨_, rfl⟩) rfl))))))))))), ?_⟩
  obtain ⟨⟨name1, _⟩, r0, ⟨v_name1, _, rfl, w_name1, rfl⟩, h, k⟩ := h
  have hD := rtF (K := K) k
  refine Sv.run (K := K) (G := ([fc rS name1, none] : Cells K)) ?_ (.fz w_name1 (.skip .nil))
  have h : m_is_plain name1 = .ok r0 := h
  unfold m_is_plain at h
  obtain ⟨c4, e_c4, h⟩ := mb_ok h
  refine q_if (c := c4) ?_ ?_ ?_
  · refine et_orM ?_ (fun _ e => ?_) e_c4
    · walk_at "ev"
    obtain ⟨t2, e_t2, e⟩ := mb_ok e; have e_t2 := oM_ok e_t2
    obtain ⟨t3, e_t3, e⟩ := mb_ok e; have e_t3 := oM_ok e_t3
    cases e
    walk_at "ev"
  · intro hc; have h := bif_t h hc
    cases h
    refine r_ret hD ?_
    walk_at "ev"
  · intro hc; have h := bif_f h hc
    refine q_next ?_
    obtain ⟨e_u7, h⟩ := mb_chk h
    obtain ⟨zs8, e_zs8, h⟩ := mb_ok h
    cases h
    refine r_ret hD ?_
    refine ev_all ?_
    refine Nw.lst ?_
    refine nw_lcM (G' := ([fc rS name1, none] : Cells K)) (r := rS) ?_ (by walk_at "len") (fun y5 => ⟨_, tb_name, fun _ e => ?_, fun _ e => ?_⟩) e_zs8
    · refine wk_str ?_
      walk_at "ev"
    · cases e
      exact et_yes
    · obtain ⟨t6, e_t6, e⟩ := mb_ok e; have e_t6 := oM_ok e_t6
      cases e
      walk_at "ev"
abbrev n_is_sign : List Str := ["name", "parts"]
abbrev p_is_sign : List Str := ["name"]
theorem sc_is_sign : FnScope n_is_sign p_is_sign (defScope s_is_sign) := ⟨rfl, rfl, rfl, by decide +kernel, rfl, by decide +kernel, by decide +kernel⟩
abbrev sp_is_sign (K : PySem.W.Frag) : Sp := spM (aC rS aN) rB fun a => m_is_sign a.1
theorem c_is_sign (F : Df K mg "is_sign" s_is_sign) (B_len : mg "len" = none) (C_is_owner : Cal P w K mg base CX0 "is_owner" 1 p_is_owner (sp_is_owner K)) (C_is_plain : Cal P w K mg base CX0 "is_plain" 1 p_is_plain (sp_is_plain K)) : Cal P w K mg base CX0 "is_sign" 2 p_is_sign (sp_is_sign K) := by
  refine cal_of F sc_is_sign (fun vs H Q E ⟨a, b, h, _⟩ => LenA.len h) (fun _ _ _ _ _ _ us hl => match us, hl with | [_], _ => rfl) fun cdv f A outer s H vs Q E hr h => ?_
  have sc := sc_is_sign
  refine ⟨_, (pss_cons (psS 1 sc.nd (pe_split (pv 0) pe_str))
      (pss_cons (ps_if (pt_cmpR op_eq (pe_callB (k_len K) (by rfl) B_len PySem.boot_len (pa1 (pv 1))) pe_int (nomark _))
      (pss_one (ps_ret (pe_and (pe_fn C_is_owner hr.m (pa1 (pe_ix (k_ix K) (pv 1) pe_int (fun _ _ => rfl)))) (pe_one (pe_fn C_is_plain hr.m (pa1 (pe_ix (k_ix K) (pv 1) pe_int (fun _ _ => rfl)))))))) pss_nil)
      (pss_one (ps_ret (pe_fn C_is_plain hr.m (pa1 (pv 0))))))), ?_⟩
  obtain ⟨⟨name1, _⟩, r0, ⟨v_name1, _, rfl, w_name1, rfl⟩, h, k⟩ := h
  have hD := rtF (K := K) k
  refine Sv.run (K := K) (G := ([fc rS name1, none] : Cells K)) ?_ (.fz w_name1 (.skip .nil))
  have h : m_is_sign name1 = .ok r0 := h
  unfold m_is_sign at h
  obtain ⟨e_u2, h⟩ := mb_chk h
  obtain ⟨e_u3, h⟩ := mb_chk h
  obtain ⟨e_u4, h⟩ := mb_chk h
  obtain ⟨parts5, e_parts5, h⟩ := mb_ok h; have e_parts5 := ok_inj e_parts5
  refine q_asg (R := (nl K rS)) (b := Txt.split name1 ("." : Str)) (b' := parts5) ?_ e_parts5 ?_
  · walk_at "ev"
  refine q_if (c := (decide ((parts5.length : Int) = (2 : Int)))) ?_ ?_ ?_
  · walk_at "ev"
  · intro hc; have h := bif_t h hc
    obtain ⟨t6, e_t6, h⟩ := mb_ok h; have e_t6 := oM_ok e_t6
    obtain ⟨t7, e_t7, h⟩ := mb_ok h
    obtain ⟨c10, e_c10, h⟩ := mb_ok h
    cases h
    refine r_ret hD ?_
    refine ev_andM ?_ (fun _ e => ?_) e_c10
    · walk_at "ev"
    obtain ⟨t8, e_t8, e⟩ := mb_ok e; have e_t8 := oM_ok e_t8
    obtain ⟨t9, e_t9, e⟩ := mb_ok e
    cases e
    walk_at "ev"
  · intro hc; have h := bif_f h hc
    refine q_next ?_
    obtain ⟨t11, e_t11, h⟩ := mb_ok h
    cases h
    refine r_ret hD ?_
    walk_at "ev"
abbrev n_is_token : List Str := ["sign"]
abbrev p_is_token : List Str := ["sign"]
theorem sc_is_token : FnScope n_is_token p_is_token (defScope s_is_token) := ⟨rfl, rfl, rfl, by decide +kernel, rfl, by decide +kernel, by decide +kernel⟩
abbrev sp_is_token (K : PySem.W.Frag) : Sp := spM (aC rS aN) rB fun a => m_is_token a.1
theorem c_is_token (F : Df K mg "is_token" s_is_token) (M_SMALL : ∃ t, mg "SMALL" = some (.str "abcdefghijklmnopqrstuvwxyz" t)) : Cal P w K mg base CX0 "is_token" 1 p_is_token (sp_is_token K) := by
  obtain ⟨t_SMALL, M_SMALL⟩ := M_SMALL
  refine cal_of F sc_is_token (fun vs H Q E ⟨a, b, h, _⟩ => LenA.len h) (fun _ _ _ _ _ _ us hl => match us, hl with | [_], _ => rfl) fun cdv f A outer s H vs Q E hr h => ?_
  have sc := sc_is_token
  refine ⟨_, (pss_one (ps_ret (pe_cmpR op_in_sign (pe_ix (k_ix K) (pe_ix (k_ix K) (pe_rpartition (pv 0) pe_str) pe_int (fun _ _ => rfl)) pe_int (fun _ _ => rfl)) (pe_glob (v := .str "abcdefghijklmnopqrstuvwxyz") (by rfl) M_SMALL ⟨_, rfl⟩) rfl))), ?_⟩
  obtain ⟨⟨sign1, _⟩, r0, ⟨v_sign1, _, rfl, w_sign1, rfl⟩, h, k⟩ := h
  have hD := rtF (K := K) k
  refine Sv.run (K := K) (G := ([fc rS sign1] : Cells K)) ?_ (.fz w_sign1 .nil)
  have h : m_is_token sign1 = .ok r0 := h
  unfold m_is_token at h
  obtain ⟨e_u2, h⟩ := mb_chk h
  obtain ⟨e_u3, h⟩ := mb_chk h
  obtain ⟨t4, e_t4, h⟩ := mb_ok h; have e_t4 := oM_ok e_t4
  obtain ⟨t5, e_t5, h⟩ := mb_ok h; have e_t5 := oM_ok e_t5
  obtain ⟨t6, e_t6, h⟩ := mb_ok h; have e_t6 := oM_ok e_t6
  cases h
  refine r_ret hD ?_
  walk_at "ev"
abbrev n_parse_rule : List Str := ["line", "words", "word"]
abbrev p_parse_rule : List Str := ["line"]
theorem sc_parse_rule : FnScope n_parse_rule p_parse_rule (defScope s_parse_rule) := ⟨rfl, rfl, rfl, by decide +kernel, rfl, by decide +kernel, by decide +kernel⟩
abbrev sp_parse_rule (K : PySem.W.Frag) : Sp := spM (aC rS aN) (rO (rP K rS (rT K rS))) fun a => m_parse_rule a.1
theorem c_parse_rule (F : Df K mg "parse_rule" s_parse_rule) (B_len : mg "len" = none) (B_all : mg "all" = none) (B_tuple : mg "tuple" = none) (C_is_sign : Cal P w K mg base CX0 "is_sign" 2 p_is_sign (sp_is_sign K)) (C_is_token : Cal P w K mg base CX0 "is_token" 1 p_is_token (sp_is_token K)) : Cal P w K mg base CX0 "parse_rule" 3 p_parse_rule (sp_parse_rule K) := by
  refine cal_of F sc_parse_rule (fun vs H Q E ⟨a, b, h, _⟩ => LenA.len h) (fun _ _ _ _ _ _ us hl => match us, hl with | [_], _ => rfl) fun cdv f A outer s H vs Q E hr h => ?_
  have sc := sc_parse_rule
  refine ⟨_, (pss_cons (psS 1 sc.nd (pe_split (pv 0) pe_str))
      (pss_cons (ps_if (PW.pt (pw_or (pt_cmpR op_lt (pe_callB (k_len K) (by rfl) B_len PySem.boot_len (pa1 (pv 1))) pe_int (nomark _)) (pw_or (pt_cmpR op_ne (pe_ix (k_ix K) (pv 1) pe_int (fun _ _ => rfl)) pe_str (nomark _)) (pw_or (pt_not (pt_val (pe_fn C_is_sign hr.m (pa1 (pe_ix (k_ix K) (pv 1) pe_int (fun _ _ => rfl)))))) (pw_or1 (pt_val (pe_fn C_is_token hr.m (pa1 (pe_ix (k_ix K) (pv 1) pe_int (fun _ _ => rfl))))))))))
      (pss_one (ps_ret pe_non)) pss_nil)
      (pss_cons (ps_if (pt_not (pt_val (pe_callB (k_all K rfl) (by rfl) B_all (by decide +kernel) (pa1 (pe_lc (own := [("word", 2)]) (g := gName 2) (tt := tYes) (by rfl) sc.nd (pi_listK K (pe_slice (k_slL K) (pv 1) (po_some pe_int) po_none)) (blkOk_by (own := [("word", 2)]) (N := n_parse_rule) (sc := defScope s_parse_rule) (by decide +kernel)) (fun _ _ _ _ _ => (pgN 2 sc.nd)) (fun _ _ _ _ _ => pts_nil) (fun _ _ _ _ _ => (pe_fn C_is_sign hr.m (pa1 (pv 2)))))))))
      (pss_one (ps_ret pe_non)) pss_nil)
      (pss_one (ps_ret (pe_tupD (pa_cons (pe_ix (k_ix K) (pv 1) pe_int (fun _ _ => rfl)) (pa1 (pe_callTy (k_tuple K) (by rfl) B_tuple (by decide +kernel) (pa1 (pe_slice (k_slL K) (pv 1) (po_some pe_int) po_none))))))))))), ?_⟩
  obtain ⟨⟨line1, _⟩, r0, ⟨v_line1, _, rfl, w_line1, rfl⟩, h, k⟩ := h
  have hD := rtF (K := K) k
  refine Sv.run (K := K) (G := ([fc rS line1, none, none] : Cells K)) ?_ (.fz w_line1 (.skip (.skip .nil)))
  have h : m_parse_rule line1 = .ok r0 := h
  unfold m_parse_rule at h
  obtain ⟨e_u2, h⟩ := mb_chk h
  obtain ⟨e_u3, h⟩ := mb_chk h
  obtain ⟨e_u4, h⟩ := mb_chk h
  obtain ⟨words5, e_words5, h⟩ := mb_ok h; have e_words5 := ok_inj e_words5
  refine q_asg (R := (nl K rS)) (b := Txt.split line1 (" " : Str)) (b' := words5) ?_ e_words5 ?_
  · walk_at "ev"
  obtain ⟨c12, e_c12, h⟩ := mb_ok h
  refine q_if (c := c12) ?_ ?_ ?_
  · refine et_orM ?_ (fun _ e => ?_) e_c12
    · walk_at "ev"
    obtain ⟨t6, e_t6, e⟩ := mb_ok e; have e_t6 := oM_ok e_t6
    obtain ⟨c11, e_c11, e⟩ := mb_ok e
    cases e
    refine et_orM ?_ (fun _ e => ?_) e_c11
    · walk_at "ev"
    obtain ⟨t7, e_t7, e⟩ := mb_ok e; have e_t7 := oM_ok e_t7
    obtain ⟨t8, e_t8, e⟩ := mb_ok e
    obtain ⟨c10, e_c10, e⟩ := mb_ok e
    cases e
    refine et_orM ?_ (fun _ e => ?_) e_c10
    · walk_at "ev"
    obtain ⟨t9, e_t9, e⟩ := mb_ok e
    cases e
    walk_at "ev"
  · intro hc; have h := bif_t h hc
    cases h
    refine r_ret hD ?_
    walk_at "ev"
  · intro hc; have h := bif_f h hc
    refine q_next ?_
    obtain ⟨e_u15, h⟩ := mb_chk h
    obtain ⟨zs16, e_zs16, h⟩ := mb_ok h
    refine q_if (c := (!(zs16.all id))) ?_ ?_ ?_
    · refine et_not ?_
      first | refine et_test ?_ | refine et_B ?_ | refine a_tru ?_ ?_
      refine ev_all ?_
      refine Nw.lst ?_
      refine nw_lcM (G' := ([fc rS line1, some (.ow (nl K rS) words5), none] : Cells K)) (r := rS) ?_ (by walk_at "len") (fun y13 => ⟨_, tb_name, fun _ e => ?_, fun _ e => ?_⟩) e_zs16
      · refine wk_new ?_
        walk_at "ev"
      · cases e
        exact et_yes
      · obtain ⟨t14, e_t14, e⟩ := mb_ok e
        cases e
        walk_at "ev"
    · intro hc; have h := bif_t h hc
      cases h
      refine r_ret hD ?_
      walk_at "ev"
    · intro hc; have h := bif_f h hc
      refine q_next ?_
      obtain ⟨t17, e_t17, h⟩ := mb_ok h; have e_t17 := oM_ok e_t17
      cases h
      refine r_ret hD ?_
      refine Ev.some ?_
      walk_at "ev"
abbrev n_grouped : List Str := ["rules", "groups", "head", "side", "sides"]
abbrev p_grouped : List Str := ["rules"]
theorem sc_grouped : FnScope n_grouped p_grouped (defScope s_grouped) := ⟨rfl, rfl, rfl, by decide +kernel, rfl, by decide +kernel, by decide +kernel⟩
abbrev sp_grouped (K : PySem.W.Frag) : Sp := spMN (aC (rEi K (rRu K)) aN) (nl K (rRu K)) fun a => m_grouped a.1
theorem c_grouped (F : Df K mg "grouped" s_grouped) : Cal P w K mg base CX0 "grouped" 1 p_grouped (sp_grouped K) := by
  refine cal_of F sc_grouped (fun vs H Q E ⟨a, b, h, _⟩ => LenA.len h) (fun _ _ _ _ _ _ us hl => match us, hl with | [_], _ => rfl) fun cdv f A outer s H vs Q E hr h => ?_
  have sc := sc_grouped
  refine ⟨_, (pss_cons (psS 1 sc.nd pe_dnewK)
      (pss_cons (ps_for PassesOwn.never rfl (pi_eiK K (pv 0)) (pg_tupK K rfl (pgs_cons (pgN 2 sc.nd) (pgs_cons (pgN 3 sc.nd) pgs_nil)))
      (pss_cons (psS 4 sc.nd (pe_dget2 (Nat.lt_of_le_of_lt (Nat.add_le_add_left (by decide) _) hr.un) (pv 1) (pv 2) (pe_tupD pa_nil) ⟨rfl, rfl, rfl, rfl⟩))
      (pss_one (ps_if (pt_cmpR (k_ninTD K (Nat.lt_of_le_of_lt (Nat.add_le_add_left (by decide) _) hr.un)) (pv 3) (pv 4) rfl)
      (pss_one (ps_dput (Nat.lt_of_le_of_lt (Nat.add_le_add_left (by decide) _) hr.un) (pv 1) (pv 2) (pe_op (k_catA K) (pv 4) (pe_tupD (pa1 (pv 3)))) rfl)) pss_nil))))
      (pss_one (ps_ret (pe_lock (pe_lc2 (own := [("head", 2), ("side", 3), ("sides", 4)]) (g := gTup _ 2 (gCons (gName 2) (gCons (gName 4) gNil))) (tt := tYes) (vs1 := [3]) (g1 := gName 3) (tt1 := tYes) (by rfl) sc.nd (pi_items (pv 1)) (blkOk_by (own := [("head", 2), ("side", 3), ("sides", 4)]) (N := n_grouped) (sc := defScope s_grouped) (by decide +kernel)) (by decide) (fun _ _ _ _ _ => (pg_tupK K rfl (pgs_cons (pgN 2 sc.nd) (pgs_cons (pgN 4 sc.nd) pgs_nil)))) (fun _ _ _ _ _ => pts_nil) (fun _ _ _ _ _ => (pi_tupK K (pv 4))) (fun _ _ _ _ _ => (pgN 3 sc.nd)) (fun _ _ _ _ _ => pts_nil) (fun _ _ _ _ _ => (pe_tupD (pa_cons (pv 2) (pa1 (pv 3))))))))))), ?_⟩
  obtain ⟨⟨rs, _⟩, r0, ⟨v, _, rfl, hv, rfl⟩, hp, k⟩ := h
  have hp : m_grouped rs = .ok r0 := hp
  obtain ⟨_, e, hp⟩ := mb_ok hp
  cases hp
  have hp : rs.length ≤ 10000 := of_decide_eq_true (chk_ok e)
  refine Sv.run (K := K) (G := [rc (rEi K (rRu K)) rs, none, none, none, none]) ?_ (.ro hv (.skip (.skip (.skip (.skip .nil)))))
  refine q_asg (R := nd K (rT K (rT K rS))) (b' := ([] : Gs)) (by walk_at "ev") (by rfl) ?_
  refine q_for (S := Gs) (fun g => [rc (rEi K (rRu K)) rs, some (.ow (nd K (rT K (rT K rS))) g), none, none, none]) grStep [] (wk_ei (by rfl)) (.keep (.keep (.keep (.keep (.keep .nil))))) ?_ ?_
  · intro H0' e0 pre x post hx
    have hl := (grFold_ok pre [] .nil).2.2
    have hl2 := (grFold_ok pre [] .nil).2.1
    have h3 := congrArg List.length hx
    rw [List.length_append, List.length_cons] at h3
    generalize pre.foldl grStep [] = g at hl hl2 ⊢
    refine ⟨_, tg_pair, ?_⟩
    refine q_set (b' := (dkey g x.1).getD []) (by walk_at "ev") (by rfl) ?_
    have few : ∀ {l : List (List Str)}, dkey g x.1 = some l → l.length ≤ gsum g := fun {l} e => by
      unfold dkey at e
      cases q : g.find? fun kv => decide (kv.1 = x.1) with
      | none => rw [q] at e; cases e
      | some y =>
        rw [q] at e
        cases e
        have hy := List.mem_of_find?_eq_some q
        unfold gsum
        exact mem_sum (List.mem_map.mpr ⟨y, hy, rfl⟩)
    have few2 : ((dkey g x.1).getD []).length ≤ 10000 := by
      cases e : dkey g x.1 with
      | none => exact Nat.zero_le _
      | some l => have := few e; have z : gsum ([] : Gs) = 0 := rfl; show l.length ≤ _; omega
    apply l_if
    · walk_at "ev"
    · intro hc
      refine l_dput (xs := g) (x := (dkey g x.1).getD [] ++ [x.2]) rfl (by walk_at "ev") (by walk_at "ev") (by rfl) (by have z : ([] : Gs).length = 0 := rfl; omega) ?_
      have e1 : grStep g x = dput g x.1 ((dkey g x.1).getD [] ++ [x.2]) := by
        unfold grStep
        rw [show memB x.2 ((dkey g x.1).getD []) = false by simpa using hc]
        rfl
      rw [e1]
      exact nx_have (.keep (.keep (.drop (.drop (.drop .nil)))))
    · intro hc
      have e1 : grStep g x = g := by
        unfold grStep
        rw [show memB x.2 ((dkey g x.1).getD []) = true by simpa using hc]
        rfl
      rw [e1]
      exact nx_have (.keep (.keep (.drop (.drop (.drop .nil)))))
  have hg := grp_len rs
  unfold grp at hg
  have e2 : grFlat (rs.foldl grStep []) = flat2 (rs.foldl grStep []) (fun x => x.2) (fun _ _ => true) (fun x s => (x.1, s)) := by
    unfold grFlat flat2
    congr 1
    funext x
    rw [List.filter_eq_self.mpr fun _ _ => rfl]
  rw [e2] at hg
  refine l_retN k (nw_lock (i := 1) (r := rT K (rT K rS)) (xs := rs.foldl grStep []) rfl (nw_lc2 (r1 := rT K rS) (fun x => x.2) (fun _ _ => true) (fun x s => (x.1, s)) (wk_items) (by omega) ?_)) (by show _ = grFlat _; rw [e2])
  intro pre x post hx
  refine ⟨_, tbp_pair, wkp_tup (by walk_at "ev"), fun pre1 y post1 hy => ⟨_, tbp_name, et_yes, fun _ => by walk_at "ev"⟩⟩
theorem ch_grouped {P : Program} {w : World} {K : PySem.W.Frag} {mg : Str → Option Value} {base : Heap} (F : Df K mg "grouped" s_grouped) : CalH P w K mg base CX0 "grouped" 1 p_grouped (sp_grouped K) := by
  refine calH_of F sc_grouped (fun vs H Q E ⟨a, b, h, _⟩ => LenA.len h) (fun _ _ _ _ _ _ us hl => match us, hl with | [_], _ => rfl) fun cdv f A outer s H vs Q E p hc hr h => ?_
  have sc := sc_grouped
  refine ⟨_, (pss_cons (psS 1 sc.nd pe_dnewK)
      (pss_cons (L2H.ps_forH (passes_of rfl) hc (L2H.pi_eiHK K (pv 0)) (L2H.pg_tupHK K hc (pgs_cons (pgN 2 sc.nd) (pgs_cons (pgN 3 sc.nd) pgs_nil)))
      (pss_cons (psS 4 sc.nd (pe_dget2 (Nat.lt_of_le_of_lt (Nat.add_le_add_left (by decide) _) hr.un) (pv 1) (pv 2) (pe_tupD pa_nil) ⟨rfl, rfl, rfl, rfl⟩))
      (pss_one (ps_if (pt_cmpR (k_ninTD K (Nat.lt_of_le_of_lt (Nat.add_le_add_left (by decide) _) hr.un)) (pv 3) (pv 4) rfl)
      (pss_one (ps_dput (Nat.lt_of_le_of_lt (Nat.add_le_add_left (by decide) _) hr.un) (pv 1) (pv 2) (pe_op (k_catA K) (pv 4) (pe_tupD (pa1 (pv 3)))) rfl)) pss_nil))))
      (pss_one (ps_ret (pe_lock (L2H.pe_lc2H (own := [("head", 2), ("side", 3), ("sides", 4)]) (g := gTup _ 2 (gCons (gName 2) (gCons (gName 4) gNil))) (tt := tYes) (vs1 := [3]) (g1 := gName 3) (tt1 := tYes) hc sc.nd (L2H.pi_itemsH (pv 1)) (blkOk_by (own := [("head", 2), ("side", 3), ("sides", 4)]) (N := n_grouped) (sc := defScope s_grouped) (by decide +kernel)) (by decide) (fun _ _ _ _ _ => (L2H.pg_tupHK K hc (pgs_cons (pgN 2 sc.nd) (pgs_cons (pgN 4 sc.nd) pgs_nil)))) (fun _ _ _ _ _ => pts_nil) (fun _ _ _ _ _ => (L2H.pi_tupHK K (pv 4))) (fun _ _ _ _ _ => (pgN 3 sc.nd)) (fun _ _ _ _ _ => pts_nil) (fun _ _ _ _ _ => (pe_tupD (pa_cons (pv 2) (pa1 (pv 3))))))))))), ?_⟩
  obtain ⟨⟨rs, _⟩, r0, ⟨v, _, rfl, hv, rfl⟩, hp, k⟩ := h
  have hp : m_grouped rs = .ok r0 := hp
  obtain ⟨_, e, hp⟩ := mb_ok hp
  cases hp
  have hp : rs.length ≤ 10000 := of_decide_eq_true (chk_ok e)
  refine Sv.run (K := K) (G := [rc (rEi K (rRu K)) rs, none, none, none, none]) ?_ (.ro hv (.skip (.skip (.skip (.skip .nil)))))
  refine q_asg (R := nd K (rT K (rT K rS))) (b' := ([] : Gs)) (by walk_at "ev") (by rfl) ?_
  refine q_for (S := Gs) (fun g => [rc (rEi K (rRu K)) rs, some (.ow (nd K (rT K (rT K rS))) g), none, none, none]) grStep [] (wk_ei (by rfl)) (.keep (.keep (.keep (.keep (.keep .nil))))) ?_ ?_
  · intro H0' e0 pre x post hx
    have hl := (grFold_ok pre [] .nil).2.2
    have hl2 := (grFold_ok pre [] .nil).2.1
    have h3 := congrArg List.length hx
    rw [List.length_append, List.length_cons] at h3
    generalize pre.foldl grStep [] = g at hl hl2 ⊢
    refine ⟨_, tg_pair, ?_⟩
    refine q_set (b' := (dkey g x.1).getD []) (by walk_at "ev") (by rfl) ?_
    have few : ∀ {l : List (List Str)}, dkey g x.1 = some l → l.length ≤ gsum g := fun {l} e => by
      unfold dkey at e
      cases q : g.find? fun kv => decide (kv.1 = x.1) with
      | none => rw [q] at e; cases e
      | some y =>
        rw [q] at e
        cases e
        have hy := List.mem_of_find?_eq_some q
        unfold gsum
        exact mem_sum (List.mem_map.mpr ⟨y, hy, rfl⟩)
    have few2 : ((dkey g x.1).getD []).length ≤ 10000 := by
      cases e : dkey g x.1 with
      | none => exact Nat.zero_le _
      | some l => have := few e; have z : gsum ([] : Gs) = 0 := rfl; show l.length ≤ _; omega
    apply l_if
    · walk_at "ev"
    · intro hc
      refine l_dput (xs := g) (x := (dkey g x.1).getD [] ++ [x.2]) rfl (by walk_at "ev") (by walk_at "ev") (by rfl) (by have z : ([] : Gs).length = 0 := rfl; omega) ?_
      have e1 : grStep g x = dput g x.1 ((dkey g x.1).getD [] ++ [x.2]) := by
        unfold grStep
        rw [show memB x.2 ((dkey g x.1).getD []) = false by simpa using hc]
        rfl
      rw [e1]
      exact nx_have (.keep (.keep (.drop (.drop (.drop .nil)))))
    · intro hc
      have e1 : grStep g x = g := by
        unfold grStep
        rw [show memB x.2 ((dkey g x.1).getD []) = true by simpa using hc]
        rfl
      rw [e1]
      exact nx_have (.keep (.keep (.drop (.drop (.drop .nil)))))
  have hg := grp_len rs
  unfold grp at hg
  have e2 : grFlat (rs.foldl grStep []) = flat2 (rs.foldl grStep []) (fun x => x.2) (fun _ _ => true) (fun x s => (x.1, s)) := by
    unfold grFlat flat2
    congr 1
    funext x
    rw [List.filter_eq_self.mpr fun _ _ => rfl]
  rw [e2] at hg
  refine l_retN k (nw_lock (i := 1) (r := rT K (rT K rS)) (xs := rs.foldl grStep []) rfl (nw_lc2 (r1 := rT K rS) (fun x => x.2) (fun _ _ => true) (fun x s => (x.1, s)) (wk_items) (by omega) ?_)) (by show _ = grFlat _; rw [e2])
  intro pre x post hx
  refine ⟨_, tbp_pair, wkp_tup (by walk_at "ev"), fun pre1 y post1 hy => ⟨_, tbp_name, et_yes, fun _ => by walk_at "ev"⟩⟩
abbrev n_Grammar___init__ : List Str := ["self", "rules"]
abbrev p_Grammar___init__ : List Str := ["self", "rules"]
theorem sc_Grammar___init__ : FnScope n_Grammar___init__ p_Grammar___init__ (defScope s_Grammar___init__) := ⟨rfl, rfl, rfl, by decide +kernel, rfl, by decide +kernel, by decide +kernel⟩
abbrev sp_Grammar___init__ (K : PySem.W.Frag) : Sp := spOneM K (cA K "Grammar") "rows" (rRu K) (aC (rEi K (rRu K)) aN) fun a => m_Grammar___init__ a.1
theorem c_Grammar___init__ (F : DfE K (cA K "Grammar") "__init__" "Grammar.__init__" s_Grammar___init__ 1) (K_Grammar : ClsF K mg "Grammar") (N_Grammar_rows : NoAttr K (cA K "Grammar") "rows") (C_grouped : Cal P w K mg base CX0 "grouped" 1 p_grouped (sp_grouped K)) : CalI P w K mg base CX0 (cA K "Grammar") 2 p_Grammar___init__ (sp_Grammar___init__ K) ∧ ∀ d, DfE0 K (cA K "Grammar") "Grammar.__init__" s_Grammar___init__ d → CalD P w K mg base (cA K "Grammar") 2 p_Grammar___init__ (sp_Grammar___init__ K) d := by
  have cl_Grammar := K_Grammar.cl
  refine (fun B => ⟨calI_of K_Grammar F sc_Grammar___init__ (fun vs H Q E h => spOneM_len h) ⟨fun h => absurd h (by decide), fun _ _ _ _ _ _ _ _ us its hl hi => match us, hl, its, hi with | [_, _], _, [_], _ => ⟨_, rfl, rfl⟩⟩ B, fun d F0 => calD_of K_Grammar F0 sc_Grammar___init__ (fun vs H Q E h => spOneM_len h) (fun _ _ _ _ _ _ _ _ _ => ⟨_, rfl, rfl⟩) B⟩ : (∀ (cdv : Value) (f : Addr) (A : Around) (outer : List PySem.Env) (s : Shared) (H : Hp) (vs : List V) (Q : VK) (E : XK), Room 1 (A.deeper (envOfC "Grammar.__init__" (defScope s_Grammar___init__) s.heap.objs.size f cdv)) → sp_Grammar___init__ K vs H Q E → ∃ t, PSs (cxOf CX0 P w K mg base n_Grammar___init__ "Grammar.__init__" (defScope s_Grammar___init__) f cdv A outer s H E).nox (defBody s_Grammar___init__) t ∧ t { nx := fun _ H' => Q .non H', rt := Q } (start n_Grammar___init__ vs) H) → _) fun cdv f A outer s H vs Q E hr h => ?_
  have sc := sc_Grammar___init__
  refine ⟨_, (pss_one (ps_fldK K (pv 0) (pe_fn C_grouped hr.m (pa1 (pv 1))))), ?_⟩
  obtain ⟨p, dx, ws, ⟨rs, _⟩, b, rfl, hp, ⟨v, _, rfl, hv, rfl⟩, hm, k⟩ := h
  have hm : m_grouped rs = .ok b := hm
  refine ⟨_, rfl, (rs, ()), b, ⟨v, _, rfl, hv, rfl⟩, hm, fun y H1 as e hf ⟨l, us, ea, ey, hl, z⟩ => ?_⟩
  obtain ⟨_, e9, hm⟩ := mb_ok hm
  cases hm
  have hpre : rs.length ≤ 10000 := of_decide_eq_true (chk_ok e9)
  subst ey
  refine ⟨_, rfl, p, _, dx, [], rfl, e _ _ hp, cl_Grammar, N_Grammar_rows, by decide, ?_⟩
  have hl0 : H l = none := hf l (by rw [ea]; exact List.mem_singleton.mpr rfl)
  have npl : p ≠ l := ne_of_none hp hl0
  have hg := grp_len rs
  exact k l us _ (fun b o nb ho => by rw [upd_ne nb]; exact e _ _ ho) hl0 upd_same (by rw [upd_ne npl.symm]; exact hl) (z.imp fun _ _ w => w.up (ext_upd (e _ _ hp) fun z => z)) (by show (grp rs).length ≤ _; omega)
theorem ch_Grammar___init__ {P : Program} {w : World} {K : PySem.W.Frag} {mg : Str → Option Value} {base : Heap} {d : Addr} (F : DfE0 K (cA K "Grammar") "Grammar.__init__" s_Grammar___init__ d) (K_Grammar : ClsF K mg "Grammar") (N_Grammar_rows : NoAttr K (cA K "Grammar") "rows") (C_grouped : CalH P w K mg base CX0 "grouped" 1 p_grouped (sp_grouped K)) : CalDH P w K mg base (cA K "Grammar") 2 p_Grammar___init__ (sp_Grammar___init__ K) d := by
  have cl_Grammar := K_Grammar.cl
  refine calDH_of K_Grammar F sc_Grammar___init__ (fun vs H Q E h => spOneM_len h) (fun _ _ _ _ _ _ _ _ _ => ⟨_, rfl, rfl⟩) fun cdv f A outer s H vs Q E p hc hr h => ?_
  have sc := sc_Grammar___init__
  refine ⟨_, (pss_one (ps_fldK K (pv 0) (pe_fnH C_grouped hr.m hc (pa1 (pv 1))))), ?_⟩
  obtain ⟨p, dx, ws, ⟨rs, _⟩, b, rfl, hp, ⟨v, _, rfl, hv, rfl⟩, hm, k⟩ := h
  have hm : m_grouped rs = .ok b := hm
  refine ⟨_, rfl, (rs, ()), b, ⟨v, _, rfl, hv, rfl⟩, hm, fun y H1 as e hf ⟨l, us, ea, ey, hl, z⟩ => ?_⟩
  obtain ⟨_, e9, hm⟩ := mb_ok hm
  cases hm
  have hpre : rs.length ≤ 10000 := of_decide_eq_true (chk_ok e9)
  subst ey
  refine ⟨_, rfl, p, _, dx, [], rfl, e _ _ hp, cl_Grammar, N_Grammar_rows, by decide, ?_⟩
  have hl0 : H l = none := hf l (by rw [ea]; exact List.mem_singleton.mpr rfl)
  have npl : p ≠ l := ne_of_none hp hl0
  have hg := grp_len rs
  exact k l us _ (fun b o nb ho => by rw [upd_ne nb]; exact e _ _ ho) hl0 upd_same (by rw [upd_ne npl.symm]; exact hl) (z.imp fun _ _ w => w.up (ext_upd (e _ _ hp) fun z => z)) (by show (grp rs).length ≤ _; omega)
abbrev n_Grammar_from_string : List Str := ["cls", "string", "rules", "lines", "number", "line", "one"]
abbrev p_Grammar_from_string : List Str := ["cls", "string"]
theorem sc_Grammar_from_string : FnScope n_Grammar_from_string p_Grammar_from_string (defScope s_Grammar_from_string) := ⟨rfl, rfl, rfl, by decide +kernel, rfl, by decide +kernel, by decide +kernel⟩
abbrev sp_Grammar_from_string (K : PySem.W.Frag) : Sp := spXN (aC (rCls (cA K "Grammar")) (aC rS aN)) (nG K) fun a => m_Grammar_from_string a.1 a.2.1
theorem c_Grammar_from_string (F : DfC K (cA K "Grammar") "from_string" "Grammar.from_string" s_Grammar_from_string) (B_enumerate : mg "enumerate" = none) (K_Grammar : ClsF K mg "Grammar") (I_Grammar : CalI P w K mg base CX0 (cA K "Grammar") 2 p_Grammar___init__ (sp_Grammar___init__ K)) (E_BadLine : ExcK P K mg "BadLine" "number") (C_parse_rule : Cal P w K mg base CX0 "parse_rule" 3 p_parse_rule (sp_parse_rule K)) : CalC P w K mg base (cA K "Grammar") "from_string" 4 (sp_Grammar_from_string K) := by
  have cl_Grammar := K_Grammar.cl
  refine calC_of F sc_Grammar_from_string (fun vs H Q E ⟨a, h, _⟩ => LenA.len h) ⟨fun _ _ _ _ _ _ _ us hl => match us, hl with | [_, _], _ => rfl, fun h => absurd h (by decide)⟩ fun cdv f A outer s H vs Q E hr h => ?_
  have sc := sc_Grammar_from_string
  refine ⟨_, (pss_cons (psS 2 sc.nd (pe_lst pa_nil))
      (pss_cons (psS 3 sc.nd (pe_ifExp (pt_tru K (pv 1)) (pe_split (pv 1) pe_str) (pe_lst pa_nil)))
      (pss_cons (ps_for (passes_of rfl) rfl (pi_enumS K (by rfl) B_enumerate (pa1 (pv 3)) pe_int) (pg_tupK K rfl (pgs_cons (pgN 4 sc.nd) (pgs_cons (pgN 5 sc.nd) pgs_nil)))
      (pss_cons (psS 6 sc.nd (pe_fn C_parse_rule hr.m (pa1 (pv 5))))
      (pss_cons (ps_if (pt_cmpR op_isN (pv 6) pe_non (nomark _))
      (pss_one (L2N.ps_raise rfl (L2N.takes_of rfl rfl rfl rfl) (pmk_ex E_BadLine hr (pa1 (pv 4))))) pss_nil)
      (pss_one (ps_expr (pe_app K (pv 2) (pa1 (pv 6))))))))
      (pss_one (ps_ret (pe_mkV I_Grammar hr.m (pv 0) (pa1 (pv 2)))))))), ?_⟩
  obtain ⟨⟨cls1, string2, _⟩, ⟨v_cls1, _, rfl, w_cls1, ⟨v_string2, _, rfl, w_string2, rfl⟩⟩, hN, hok, hx⟩ := h
  have hD : ∀ r, m_Grammar_from_string cls1 string2 = .ok r → RtOk (nG K) H r { nx := fun _ H' => Q .non H', rt := Q } := fun r e v H' ⟨as, s, n, z⟩ => hok r e v H' as s n z
  have hX : ∀ e, m_Grammar_from_string cls1 string2 = .error e → XOk K H E e := fun e q => match e, q with | .stuck, q => absurd q hN | .ex x fs, q => fun d H' s n z => hx x fs q d H' s n z
  refine Sv.run (K := K) (G := ([fc (rCls (cA K "Grammar")) cls1, fc rS string2, none, none, none, none, none] : Cells K)) ?_ (.fz w_cls1 (.fz w_string2 (.skip (.skip (.skip (.skip (.skip .nil)))))))
  clear hN hok hx
  generalize h : m_Grammar_from_string cls1 string2 = o at hD hX
  have ns := nstk_of hX
  unfold m_Grammar_from_string at h
  obtain ⟨rules3, e_rules3, h⟩ := mbx_ok h
  refine q_asg (R := (nl K (rP K rS (rT K rS)))) (b := ([] : (List (Str × (List Str))))) (b' := rules3) ?_ e_rules3 ?_
  · walk_at "ev"
  obtain ⟨c7, e_c7, h⟩ := mbx_calm h ns
  refine q_asg (R := (nl K rS)) (b := c7) (b' := c7) ?_ rfl ?_
  · refine nw_ifM ?_ (fun _ e => ?_) (fun _ e => ?_) e_c7
    · walk_at "ev"
    · obtain ⟨e_u4, e⟩ := mb_chk e
      obtain ⟨e_u5, e⟩ := mb_chk e
      obtain ⟨e_u6, e⟩ := mb_chk e
      cases e
      walk_at "ev"
    · cases e
      walk_at "ev"
  refine q_forX (G' := ([fc (rCls (cA K "Grammar")) cls1, fc rS string2, some (.ow (nl K (rP K rS (rT K rS))) rules3), rc (rL rS) c7, none, none, none] : Cells K)) (r := (rP K rI rS)) (f := (fun (s8 : (List (Str × (List Str)))) (x9 : (Int × Str)) => mb (calm (m_parse_rule x9.2)) fun t11 => bif (isNone' t11) then .error (.ex "BadLine" [("number", (.i x9.1))]) else mb (oM t11) fun z12 => mb (chk (decide (s8.length < 12000000))) fun _ => mb (.ok (s8 ++ [z12])) fun rules14 => .ok rules14)) (s0 := rules3) (fun (s8 : (List (Str × (List Str)))) => ([fc (rCls (cA K "Grammar")) cls1, fc rS string2, some (.ow (nl K (rP K rS (rT K rS))) s8), rc (rL rS) c7, none, none, none] : Cells K)) rfl ?_ (.keep (.keep (.keep (.keep (.keep (.keep (.keep .nil))))))) (fun s10 ex => ?_) (fun e q => hX e (mbx_er h q)) (fun H0' D' e0 x9 s8 o' h hD hX => ⟨_, tg_pair, ?_⟩)
  · exact wk_enumOwn (i := 3) (by rfl) (by decide)
  · have h := mbx_to h ex
    obtain ⟨t15, e_t15, h⟩ := mbx_calm h ns
    have hD := hD _ h.symm
    refine r_retN hD ?_
    walk_at "ev"
  · have ns := nstk_of hX
    obtain ⟨t11, e_t11, h⟩ := mbx_calm h ns
    refine q_set (r := (rO (rP K rS (rT K rS)))) (b := t11) (b' := t11) ?_ rfl ?_
    · walk_at "ev"
    refine q_if (c := (isNone' t11)) ?_ ?_ ?_
    · walk_at "ev"
    · intro hc; have h := bif_t h hc
      refine l_raise ?_ (w_of (hX _ h.symm))
      refine ev_pI ?_
      walk_at "ev"
    · intro hc; have h := bif_f h hc
      refine q_next ?_
      obtain ⟨z12, e_z12, h⟩ := mbx_oM h ns
      obtain ⟨e_u13, h⟩ := mbx_chk h ns; have e_u13 := of_decide_eq_true e_u13
      obtain ⟨rules14, e_rules14, h⟩ := mbx_ok h
      refine l_app (x := z12) (xs := s8) (by rfl) (x' := z12) ?_ rfl (by assumption) ?_
      · walk_at "ev"
      rw [e_rules14]
      have hD := hD _ h.symm
      exact hL hD (by walk_at "sub")
abbrev n_Grammar___iter__ : List Str := ["self"]
abbrev p_Grammar___iter__ : List Str := ["self"]
theorem sc_Grammar___iter__ : FnScope n_Grammar___iter__ p_Grammar___iter__ (defScope s_Grammar___iter__) := ⟨rfl, rfl, rfl, by decide +kernel, rfl, by decide +kernel, by decide +kernel⟩
theorem c_Grammar___iter__ (F : DfE K (cA K "Grammar") "__iter__" "Grammar.__iter__" s_Grammar___iter__ 0) (c : Cls K (cA K "Grammar")) (n : NoAttr K (cA K "Grammar") "rows") (B_iter : mg "iter" = none) : ItOk P w K mg base (cA K "Grammar") "rows" := by
  refine itOk_of F sc_Grammar___iter__ ⟨fun _ _ _ _ _ _ _ us hl => match us, hl with | [_], _ => rfl, fun h => absurd h (by decide)⟩ fun f cdv A outer s H E => ⟨_, pss_one (ps_ret (pe_callB ItX.call_iterN (by rfl) B_iter (by decide +kernel) (pa_cons (pe_fldK K (pv 0)) pa_nil))), fun a dx l fs zs Q ha hl hz hq => ?_⟩
  exact ⟨_, rfl, a, _, dx, fs, _, rfl, ha, c, n, hl, l, zs, rfl, hz, hq⟩
abbrev n__law_cell : List Str := ["_law_script", "_law_k"]
abbrev p__law_cell : List Str := ["_law_script", "_law_k"]
theorem sc__law_cell : FnScope n__law_cell p__law_cell (defScope s__law_cell) := ⟨rfl, rfl, rfl, by decide +kernel, rfl, by decide +kernel, by decide +kernel⟩
abbrev sp__law_cell (K : PySem.W.Frag) : Sp := spM (aC (rQ K rI) (aC rI aN)) rI fun a => m__law_cell a.1 a.2.1
theorem c__law_cell (F : Df K mg "_law_cell" s__law_cell) (B_len : mg "len" = none) (B_int : mg "int" = none) : Cal P w K mg base CX0 "_law_cell" 1 p__law_cell (sp__law_cell K) := by
  refine cal_of F sc__law_cell (fun vs H Q E ⟨a, b, h, _⟩ => LenA.len h) (fun _ _ _ _ _ _ us hl => match us, hl with | [_, _], _ => rfl) fun cdv f A outer s H vs Q E hr h => ?_
  have sc := sc__law_cell
  refine ⟨_, (pss_one (ps_ret (pe_ifExp (pt_cmpR op_lt (pv 1) (pe_callB (k_len K) (by rfl) B_len PySem.boot_len (pa1 (pv 0))) (nomark _)) (pe_callTy call_int1 (by rfl) B_int (by decide +kernel) (pa1 (pe_ix (k_ix K) (pv 0) (pv 1) (fun _ _ => rfl)))) pe_int))), ?_⟩
  obtain ⟨⟨script1, k2, _⟩, r0, ⟨v_script1, _, rfl, w_script1, ⟨v_k2, _, rfl, w_k2, rfl⟩⟩, h, k⟩ := h
  have hD := rtF (K := K) k
  refine Sv.run (K := K) (G := ([rc (rQ K rI) script1, fc rI k2] : Cells K)) ?_ (.ro w_script1 (.fz w_k2 .nil))
  have h : m__law_cell script1 k2 = .ok r0 := h
  unfold m__law_cell at h
  obtain ⟨c4, e_c4, h⟩ := mb_ok h
  cases h
  refine r_ret hD ?_
  refine ev_ifM ?_ (fun _ e => ?_) (fun _ e => ?_) e_c4
  · walk_at "ev"
  · obtain ⟨t3, e_t3, e⟩ := mb_ok e; have e_t3 := oM_ok e_t3
    cases e
    walk_at "ev"
  · cases e
    walk_at "ev"
abbrev n__law_draws : List Str := ["_law_cell_here", "_law_many", "_law_rest", "_law_row", "_law_k", "_law_mixed"]
abbrev p__law_draws : List Str := ["_law_cell_here", "_law_many"]
theorem sc__law_draws : FnScope n__law_draws p__law_draws (defScope s__law_draws) := ⟨rfl, rfl, rfl, by decide +kernel, rfl, by decide +kernel, by decide +kernel⟩
abbrev sp__law_draws (K : PySem.W.Frag) : Sp := spMN (aC rI (aC rI aN)) (nl K rI) fun a => m__law_draws a.1 a.2.1
theorem c__law_draws (F : Df K mg "_law_draws" s__law_draws) (B_int : mg "int" = none) (B_range : mg "range" = none) : Cal P w K mg base CX0 "_law_draws" 1 p__law_draws (sp__law_draws K) := by
  refine cal_of F sc__law_draws (fun vs H Q E ⟨a, b, h, _⟩ => LenA.len h) (fun _ _ _ _ _ _ us hl => match us, hl with | [_, _], _ => rfl) fun cdv f A outer s H vs Q E hr h => ?_
  have sc := sc__law_draws
  refine ⟨_, (pss_cons (psS 2 sc.nd (pe_op op_mul (pv 0) (pe_callTy call_int1 (by rfl) B_int (by decide +kernel) (pa1 (pe_cmpR op_ge (pv 0) (pe_op op_pow pe_int pe_int) (nomark _))))))
      (pss_cons (psS 3 sc.nd (pe_lst pa_nil))
      (pss_cons (ps_for PassesOwn.never rfl (pi_range1 (by rfl) B_range (pa1 (pv 1))) (pgN 4 sc.nd)
      (pss_one (ps_if (pt_cmpR op_gt (pv 2) pe_int (nomark _))
      (pss_cons (ps_expr (pe_app K (pv 3) (pa1 (pe_op op_mod (pe_callTy call_int1 (by rfl) B_int (by decide +kernel) (pa1 (pv 2))) pe_int))))
      (pss_one (psS 2 sc.nd (pe_op op_fdiv (pv 2) pe_int)))) (pss_cons (psS 5 sc.nd (pe_op op_mod (pe_callTy call_int1 (by rfl) B_int (by decide +kernel) (pa1 (pe_op op_add (pe_op op_add (pe_op op_mul (pv 0) pe_int) (pe_op op_mul (pv 4) pe_int)) pe_int))) pe_int))
      (pss_cons (psS 5 sc.nd (pe_op op_mod (pe_callTy call_int1 (by rfl) B_int (by decide +kernel) (pa1 (pe_op op_add (pe_op op_add (pe_op op_mul (pv 5) (pv 5)) (pe_op op_mul pe_int (pv 5))) (pv 4)))) pe_int))
      (pss_one (ps_expr (pe_app K (pv 3) (pa1 (pe_op op_mod (pe_op op_mod (pe_callTy call_int1 (by rfl) B_int (by decide +kernel) (pa1 (pe_op op_add (pe_op op_mul (pv 5) (pv 5)) (pe_op op_mul pe_int (pv 5))))) pe_int) pe_int))))))))))
      (pss_one (ps_ret (pv 3)))))), ?_⟩
  obtain ⟨⟨cellhere1, many2, _⟩, r0, ⟨v_cellhere1, _, rfl, w_cellhere1, ⟨v_many2, _, rfl, w_many2, rfl⟩⟩, h, k⟩ := h
  have hD : RtOk (nl K rI) H r0 { nx := fun _ H' => Q .non H', rt := Q } := fun v H' ⟨as, s, n, z⟩ => k v H' as s n z
  refine Sv.run (K := K) (G := ([fc rI cellhere1, fc rI many2, none, none, none, none] : Cells K)) ?_ (.fz w_cellhere1 (.fz w_many2 (.skip (.skip (.skip (.skip .nil))))))
  have h : m__law_draws cellhere1 many2 = .ok r0 := h
  unfold m__law_draws at h
  obtain ⟨rest3, e_rest3, h⟩ := mb_ok h; have e_rest3 := ok_inj e_rest3
  refine q_set (r := rI) (b := cellhere1 * (b2 (decide (((10 : Int) ^ ((18 : Int)).toNat) ≤ cellhere1)))) (b' := rest3) ?_ e_rest3 ?_
  · walk_at "ev"
  obtain ⟨row4, e_row4, h⟩ := mb_ok h; have e_row4 := ok_inj e_row4
  refine q_asg (R := (nl K rI)) (b := ([] : (List Int))) (b' := row4) ?_ e_row4 ?_
  · walk_at "ev"
  obtain ⟨e_u5, h⟩ := mb_chk h
  obtain ⟨s8, hm, h⟩ := mb_ok h
  refine q_forM (G' := ([fc rI cellhere1, fc rI many2, fc rI rest3, some (.ow (nl K rI) row4), none, none] : Cells K)) (r := rI) (fun (s6 : (Int × (List Int))) => ([fc rI cellhere1, fc rI many2, fc rI s6.1, some (.ow (nl K rI) s6.2), none, none] : Cells K)) hm ?_ (.keep (.keep (.keep (.keep (.keep (.keep .nil)))))) (fun H0' e0 x7 s6 s' h => ⟨_, tg_name, ?_⟩) ?_
  · refine wk_rng1 ?_ ?_
    · walk_at "ev"
    · first | assumption | omega
  · have hD := @nxI K H0'
    refine l_if (c := (decide ((0 : Int) < s6.1))) ?_ ?_ ?_
    · walk_at "ev"
    · intro hc; have h := bif_t h hc
      obtain ⟨e_u9, h⟩ := mb_chk h
      obtain ⟨row10, e_row10, h⟩ := mb_ok h; have e_row10 := ok_inj e_row10
      refine q_app (x := s6.1 % (840 : Int)) (xs := s6.2) (by rfl) (x' := s6.1 % (840 : Int)) ?_ rfl (by assumption) ?_
      · walk_at "ev"
      rw [e_row10]
      obtain ⟨rest11, e_rest11, h⟩ := mb_ok h; have e_rest11 := ok_inj e_rest11
      refine l_set (r := rI) (b := s6.1 / (840 : Int)) (b' := rest11) ?_ e_rest11 ?_
      · walk_at "ev"
      cases h
      exact hL hD (by walk_at "sub")
    · intro hc; have h := bif_f h hc
      obtain ⟨mixed12, e_mixed12, h⟩ := mb_ok h; have e_mixed12 := ok_inj e_mixed12
      refine q_set (r := rI) (b := (((cellhere1 * (48271 : Int)) + (x7 * (6961 : Int))) + (1013 : Int)) % (1000003 : Int)) (b' := mixed12) ?_ e_mixed12 ?_
      · walk_at "ev"
      obtain ⟨e_u13, h⟩ := mb_chk h
      obtain ⟨mixed14, e_mixed14, h⟩ := mb_ok h; have e_mixed14 := ok_inj e_mixed14
      refine q_set (r := rI) (b := (((mixed12 * mixed12) + ((11 : Int) * mixed12)) + x7) % (999983 : Int)) (b' := mixed14) ?_ e_mixed14 ?_
      · walk_at "ev"
      obtain ⟨e_u15, h⟩ := mb_chk h
      obtain ⟨e_u16, h⟩ := mb_chk h
      obtain ⟨row17, e_row17, h⟩ := mb_ok h; have e_row17 := ok_inj e_row17
      refine l_app (x := (((mixed14 * mixed14) + ((3 : Int) * mixed14)) % (99991 : Int)) % (840 : Int)) (xs := s6.2) (by rfl) (x' := (((mixed14 * mixed14) + ((3 : Int) * mixed14)) % (99991 : Int)) % (840 : Int)) ?_ rfl (by assumption) ?_
      · walk_at "ev"
      rw [e_row17]
      cases h
      exact hL hD (by walk_at "sub")
  cases h
  exact r_retO (i := 3) hD (by rfl)
abbrev n__law_name : List Str := ["_law_k", "_law_style", "_law_capital", "_law_letter", "_law_word"]
abbrev p__law_name : List Str := ["_law_k", "_law_style", "_law_capital"]
theorem sc__law_name : FnScope n__law_name p__law_name (defScope s__law_name) := ⟨rfl, rfl, rfl, by decide +kernel, rfl, by decide +kernel, by decide +kernel⟩
abbrev sp__law_name (K : PySem.W.Frag) : Sp := spM (aC rI (aC rI (aC rB aN))) rS fun a => m__law_name a.1 a.2.1 a.2.2.1
theorem c__law_name (F : Df K mg "_law_name" s__law_name) (B_int : mg "int" = none) : Cal P w K mg base CX0 "_law_name" 1 p__law_name (sp__law_name K) := by
  refine cal_of F sc__law_name (fun vs H Q E ⟨a, b, h, _⟩ => LenA.len h) (fun _ _ _ _ _ _ us hl => match us, hl with | [_, _, _], _ => rfl) fun cdv f A outer s H vs Q E hr h => ?_
  have sc := sc__law_name
  refine ⟨_, (pss_cons (psS 3 sc.nd (pe_ix (k_ix K) (pe_ix (k_ix K) (pe_lst (pa_cons pe_str (pa_cons pe_str (pa1 pe_str)))) (pe_op op_mod (pe_callTy call_int1 (by rfl) B_int (by decide +kernel) (pa1 (pv 1))) pe_int) (fun _ _ => rfl)) (pv 0) (fun _ _ => rfl)))
      (pss_cons (psS 4 sc.nd (pe_ix (k_ix K) (pe_lst (pa_cons (pv 3) (pa_cons (pe_op op_add_str pe_str (pv 3)) (pa_cons (pe_op op_add_str (pv 3) pe_str) (pa1 (pe_op op_add_str pe_str (pe_op op_mulS (pv 3) (pe_op op_add pe_int (pe_op op_mod (pe_callTy call_int1 (by rfl) B_int (by decide +kernel) (pa1 (pv 0))) pe_int))))))))) (pe_op op_mod (pe_op op_fdiv (pe_callTy call_int1 (by rfl) B_int (by decide +kernel) (pa1 (pv 1))) pe_int) pe_int) (fun _ _ => rfl)))
      (pss_one (ps_ret (pe_ifExp (pt_val (pv 2)) (pe_op op_add_str (pe_upper (pe_ix (k_ix K) (pv 4) pe_int (fun _ _ => rfl))) (pe_slice sl_str (pv 4) (po_some pe_int) po_none)) (pv 4)))))), ?_⟩
  obtain ⟨⟨k1, style2, capital3, _⟩, r0, ⟨v_k1, _, rfl, w_k1, ⟨v_style2, _, rfl, w_style2, ⟨v_capital3, _, rfl, w_capital3, rfl⟩⟩⟩, h, k⟩ := h
  have hD := rtF (K := K) k
  refine Sv.run (K := K) (G := ([fc rI k1, fc rI style2, fc rB capital3, none, none] : Cells K)) ?_ (.fz w_k1 (.fz w_style2 (.fz w_capital3 (.skip (.skip .nil)))))
  have h : m__law_name k1 style2 capital3 = .ok r0 := h
  unfold m__law_name at h
  obtain ⟨t4, e_t4, h⟩ := mb_ok h; have e_t4 := oM_ok e_t4
  obtain ⟨t5, e_t5, h⟩ := mb_ok h; have e_t5 := oM_ok e_t5
  refine q_set (r := rS) (b := t5) (b' := t5) ?_ rfl ?_
  · walk_at "ev"
  obtain ⟨e_u6, h⟩ := mb_chk h
  obtain ⟨e_u7, h⟩ := mb_chk h
  obtain ⟨e_u8, h⟩ := mb_chk h
  obtain ⟨e_u9, h⟩ := mb_chk h
  obtain ⟨e_u10, h⟩ := mb_chk h
  obtain ⟨t11, e_t11, h⟩ := mb_ok h; have e_t11 := oM_ok e_t11
  refine q_set (r := rS) (b := t11) (b' := t11) ?_ rfl ?_
  · walk_at "ev"
  obtain ⟨c15, e_c15, h⟩ := mb_ok h
  cases h
  refine r_ret hD ?_
  refine ev_ifM ?_ (fun _ e => ?_) (fun _ e => ?_) e_c15
  · walk_at "ev"
  · obtain ⟨t12, e_t12, e⟩ := mb_ok e; have e_t12 := oM_ok e_t12
    obtain ⟨e_u13, e⟩ := mb_chk e
    obtain ⟨e_u14, e⟩ := mb_chk e
    cases e
    walk_at "ev"
  · cases e
    walk_at "ev"
abbrev n__law_rules : List Str := ["_law_cell_here", "_law_most", "_law_row", "_law_heads", "_law_k", "_law_signs", "_law_rules_here", "_law_d", "_law_side", "_law_one"]
abbrev p__law_rules : List Str := ["_law_cell_here", "_law_most"]
theorem sc__law_rules : FnScope n__law_rules p__law_rules (defScope s__law_rules) := ⟨rfl, rfl, rfl, by decide +kernel, rfl, by decide +kernel, by decide +kernel⟩
abbrev sp__law_rules (K : PySem.W.Frag) : Sp := spMN (aC rI (aC rI aN)) (nl K (rP K rS (rT K rS))) fun a => m__law_rules a.1 a.2.1
theorem c__law_rules (F : Df K mg "_law_rules" s__law_rules) (B_range : mg "range" = none) (B_int : mg "int" = none) (B_len : mg "len" = none) (B_tuple : mg "tuple" = none) (C__law_draws : Cal P w K mg base CX0 "_law_draws" 1 p__law_draws (sp__law_draws K)) (C__law_name : Cal P w K mg base CX0 "_law_name" 1 p__law_name (sp__law_name K)) : Cal P w K mg base CX0 "_law_rules" 2 p__law_rules (sp__law_rules K) := by
  refine cal_of F sc__law_rules (fun vs H Q E ⟨a, b, h, _⟩ => LenA.len h) (fun _ _ _ _ _ _ us hl => match us, hl with | [_, _], _ => rfl) fun cdv f A outer s H vs Q E hr h => ?_
  have sc := sc__law_rules
  refine ⟨_, (pss_cons (psS 2 sc.nd (pe_fn C__law_draws hr.m (pa_cons (pv 0) (pa1 (pe_op op_add pe_int (pe_op op_mul pe_int (pv 1)))))))
      (pss_cons (ps_setLc (i := 3) (own := [("_law_k", 4)]) (g := gName 4) (tt := tYes) (by rfl) sc.nd rfl rfl (sw_true rfl rfl rfl (by decide +kernel)) (pi_range1 (by rfl) B_range (pa1 pe_int)) (blkOk_by (own := [("_law_k", 4)]) (N := n__law_rules) (sc := defScope s__law_rules) (by decide +kernel)) (fun _ _ _ _ _ => (pgN 4 sc.nd)) (fun _ _ _ _ _ => pts_nil) (fun _ _ _ _ _ => (pe_fn C__law_name hr.m (pa_cons (pv 4) (pa_cons (pe_ix (k_ix K) (pv 2) pe_int (fun _ _ => rfl)) (pa1 pe_bl))))))
      (pss_cons (psS 5 sc.nd (pe_op op_cat (pv 3) (pe_lc (own := [("_law_k", 4)]) (g := gName 4) (tt := tYes) (by rfl) sc.nd (pi_range1 (by rfl) B_range (pa1 pe_int)) (blkOk_by (own := [("_law_k", 4)]) (N := n__law_rules) (sc := defScope s__law_rules) (by decide +kernel)) (fun _ _ _ _ _ => (pgN 4 sc.nd)) (fun _ _ _ _ _ => pts_nil) (fun _ _ _ _ _ => (pe_fn C__law_name hr.m (pa_cons (pv 4) (pa_cons (pe_op op_fdiv (pe_callTy call_int1 (by rfl) B_int (by decide +kernel) (pa1 (pe_ix (k_ix K) (pv 2) pe_int (fun _ _ => rfl)))) pe_int) (pa1 pe_bl))))))))
      (pss_cons (ps_if (pt_cmpR op_eq (pe_op op_mod (pe_callTy call_int1 (by rfl) B_int (by decide +kernel) (pa1 (pe_ix (k_ix K) (pv 2) pe_int (fun _ _ => rfl)))) pe_int) pe_int (nomark _))
      (pss_cons (ps_asg (pe_op op_add_str pe_str (pe_ix (k_ix K) (pv 3) pe_int (fun _ _ => rfl))) (pg_sub (pv 3) pe_int set_list))
      (pss_one (psS 5 sc.nd (pe_op op_cat (pv 5) (pe_lst (pa_cons (pe_ix (k_ix K) (pv 3) pe_int (fun _ _ => rfl)) (pa1 (pe_op op_add_str pe_str (pe_ix (k_ix K) (pv 5) pe_int (fun _ _ => rfl)))))))))) pss_nil)
      (pss_cons (psS 6 sc.nd (pe_lst pa_nil))
      (pss_cons (ps_for PassesOwn.never rfl (pi_range1 (by rfl) B_range (pa1 (pe_op op_mod (pe_op op_fdiv (pe_callTy call_int1 (by rfl) B_int (by decide +kernel) (pa1 (pe_ix (k_ix K) (pv 2) pe_int (fun _ _ => rfl)))) pe_int) (pe_op op_add (pv 1) pe_int)))) (pgN 4 sc.nd)
      (pss_cons (psS 7 sc.nd (pe_slice (k_slL K) (pv 2) (po_some (pe_op op_add pe_int (pe_op op_mul pe_int (pv 4)))) (po_some (pe_op op_add pe_int (pe_op op_mul pe_int (pv 4))))))
      (pss_cons (psS 8 sc.nd (pe_callTy (k_tuple K) (by rfl) B_tuple (by decide +kernel) (pa1 (pe_lc (own := [("_law_one", 9)]) (g := gName 9) (tt := tYes) (by rfl) sc.nd (pi_listK K (pe_slice (k_slL K) (pv 7) (po_some pe_int) (po_some (pe_op op_add pe_int (pe_op op_mod (pe_op op_fdiv (pe_callTy call_int1 (by rfl) B_int (by decide +kernel) (pa1 (pe_ix (k_ix K) (pv 7) pe_int (fun _ _ => rfl)))) pe_int) pe_int))))) (blkOk_by (own := [("_law_one", 9)]) (N := n__law_rules) (sc := defScope s__law_rules) (by decide +kernel)) (fun _ _ _ _ _ => (pgN 9 sc.nd)) (fun _ _ _ _ _ => pts_nil) (fun _ _ _ _ _ => (pe_ix (k_ix K) (pv 5) (pe_op op_mod (pe_callTy call_int1 (by rfl) B_int (by decide +kernel) (pa1 (pv 9))) (pe_callB (k_len K) (by rfl) B_len PySem.boot_len (pa1 (pv 5)))) (fun _ _ => rfl)))))))
      (pss_cons (ps_expr (pe_app K (pv 6) (pa1 (pe_tupD (pa_cons (pe_ix (k_ix K) (pv 3) (pe_op op_mod (pe_callTy call_int1 (by rfl) B_int (by decide +kernel) (pa1 (pe_ix (k_ix K) (pv 7) pe_int (fun _ _ => rfl)))) pe_int) (fun _ _ => rfl)) (pa1 (pv 8)))))))
      (pss_one (ps_if (pt_cmpR op_eq (pe_op op_mod (pe_callTy call_int1 (by rfl) B_int (by decide +kernel) (pa1 (pe_ix (k_ix K) (pv 7) pe_int (fun _ _ => rfl)))) pe_int) pe_int (nomark _))
      (pss_one (ps_expr (pe_app K (pv 6) (pa1 (pe_ix (k_ix K) (pv 6) (pe_op op_mod (pe_callTy call_int1 (by rfl) B_int (by decide +kernel) (pa1 (pe_ix (k_ix K) (pv 7) pe_int (fun _ _ => rfl)))) (pe_callB (k_len K) (by rfl) B_len PySem.boot_len (pa1 (pv 6)))) (fun _ _ => rfl)))))) pss_nil))))))
      (pss_one (ps_ret (pv 6))))))))), ?_⟩
  obtain ⟨⟨cellhere1, most2, _⟩, r0, ⟨v_cellhere1, _, rfl, w_cellhere1, ⟨v_most2, _, rfl, w_most2, rfl⟩⟩, h, k⟩ := h
  have hD : RtOk (nl K (rP K rS (rT K rS))) H r0 { nx := fun _ H' => Q .non H', rt := Q } := fun v H' ⟨as, s, n, z⟩ => k v H' as s n z
  refine Sv.run (K := K) (G := ([fc rI cellhere1, fc rI most2, none, none, none, none, none, none, none, none] : Cells K)) ?_ (.fz w_cellhere1 (.fz w_most2 (.skip (.skip (.skip (.skip (.skip (.skip (.skip (.skip .nil))))))))))
  have h : m__law_rules cellhere1 most2 = .ok r0 := h
  unfold m__law_rules at h
  obtain ⟨t3, e_t3, h⟩ := mb_ok h
  refine q_asg (R := (nl K rI)) (b := t3) (b' := t3) ?_ rfl ?_
  · walk_at "ev"
  obtain ⟨zs7, e_zs7, h⟩ := mb_ok h
  refine q_asg (R := (nl K rS)) (b := zs7) (b' := zs7) ?_ rfl ?_
  · refine nw_lcM (G' := ([fc rI cellhere1, fc rI most2, some (.ow (nl K rI) t3), none, none, none, none, none, none, none] : Cells K)) (r := rI) ?_ (by walk_at "len") (fun y4 => ⟨_, tb_name, fun _ e => ?_, fun _ e => ?_⟩) e_zs7
    · refine wk_rng1 ?_ ?_
      · walk_at "ev"
      · first | assumption | omega
    · cases e
      exact et_yes
    · obtain ⟨t5, e_t5, e⟩ := mb_ok e; have e_t5 := oM_ok e_t5
      obtain ⟨t6, e_t6, e⟩ := mb_ok e
      cases e
      walk_at "ev"
  obtain ⟨zs11, e_zs11, h⟩ := mb_ok h
  obtain ⟨e_u12, h⟩ := mb_chk h
  obtain ⟨signs13, e_signs13, h⟩ := mb_ok h; have e_signs13 := ok_inj e_signs13
  refine q_asg (R := (nl K rS)) (b := zs7 ++ zs11) (b' := signs13) ?_ e_signs13 ?_
  · refine a_cat ?_ inferInstance inferInstance ?_ (by first | assumption | omega)
    · walk_at "ev"
    · refine Nw.lst ?_
      refine nw_lcM (G' := ([fc rI cellhere1, fc rI most2, some (.ow (nl K rI) t3), some (.ow (nl K rS) zs7), none, none, none, none, none, none] : Cells K)) (r := rI) ?_ (by walk_at "len") (fun y8 => ⟨_, tb_name, fun _ e => ?_, fun _ e => ?_⟩) e_zs11
      · refine wk_rng1 ?_ ?_
        · walk_at "ev"
        · first | assumption | omega
      · cases e
        exact et_yes
      · obtain ⟨t9, e_t9, e⟩ := mb_ok e; have e_t9 := oM_ok e_t9
        obtain ⟨t10, e_t10, e⟩ := mb_ok e
        cases e
        walk_at "ev"
  obtain ⟨t14, e_t14, h⟩ := mb_ok h; have e_t14 := oM_ok e_t14
  obtain ⟨s15, h1, h⟩ := mb_ok h
  refine cutK ([fc rI cellhere1, fc rI most2, some (.ow (nl K rI) t3), some (.ow (nl K rS) s15.1), none, some (.ow (nl K rS) s15.2), none, none, none, none] : Cells K) (fun K1 => ?_) ?_
  · have h := h1; clear h1; have hD := K1
    refine q_if (c := (decide ((t14 % (2 : Int)) = (1 : Int)))) ?_ ?_ ?_
    · walk_at "ev"
    · intro hc; have h := bif_t h hc
      obtain ⟨t16, e_t16, h⟩ := mb_ok h; have e_t16 := oM_ok e_t16
      obtain ⟨e_u17, h⟩ := mb_chk h
      obtain ⟨j18, e_j18, h⟩ := mb_ok h; have e_j18 := oM_ok e_j18
      obtain ⟨heads19, e_heads19, h⟩ := mb_ok h; have e_heads19 := ok_inj e_heads19
      refine q_lset (xs := zs7) (x := ("x." : Str) ++ t16) (by rfl) ?_ ?_ e_j18 ?_
      · walk_at "ev"
      · walk_at "ev"
      rw [e_heads19]
      obtain ⟨t20, e_t20, h⟩ := mb_ok h; have e_t20 := oM_ok e_t20
      obtain ⟨t21, e_t21, h⟩ := mb_ok h; have e_t21 := oM_ok e_t21
      obtain ⟨e_u22, h⟩ := mb_chk h
      obtain ⟨e_u23, h⟩ := mb_chk h
      obtain ⟨signs24, e_signs24, h⟩ := mb_ok h; have e_signs24 := ok_inj e_signs24
      refine l_asg (R := (nl K rS)) (b := signs13 ++ ([t20, ("x." : Str) ++ t21])) (b' := signs24) ?_ e_signs24 ?_
      · walk_at "ev"
      cases h
      exact hL hD (by walk_at "sub")
    · intro hc; have h := bif_f h hc
      cases h
      exact hL hD (by walk_at "sub")
  obtain ⟨ruleshere25, e_ruleshere25, h⟩ := mb_ok h; have e_ruleshere25 := ok_inj e_ruleshere25
  refine q_asg (R := (nl K (rP K rS (rT K rS)))) (b := ([] : (List (Str × (List Str))))) (b' := ruleshere25) ?_ e_ruleshere25 ?_
  · walk_at "ev"
  obtain ⟨e_u26, h⟩ := mb_chk h
  obtain ⟨e_u27, h⟩ := mb_chk h
  obtain ⟨s30, hm, h⟩ := mb_ok h
  refine q_forM (G' := ([fc rI cellhere1, fc rI most2, some (.ow (nl K rI) t3), some (.ow (nl K rS) s15.1), none, some (.ow (nl K rS) s15.2), some (.ow (nl K (rP K rS (rT K rS))) ruleshere25), none, none, none] : Cells K)) (r := rI) (fun (s28 : (List (Str × (List Str)))) => ([fc rI cellhere1, fc rI most2, some (.ow (nl K rI) t3), some (.ow (nl K rS) s15.1), none, some (.ow (nl K rS) s15.2), some (.ow (nl K (rP K rS (rT K rS))) s28), none, none, none] : Cells K)) hm ?_ (.keep (.keep (.keep (.keep (.keep (.keep (.keep (.keep (.keep (.keep .nil)))))))))) (fun H0' e0 x29 s28 s' h => ⟨_, tg_name, ?_⟩) ?_
  · refine wk_rng1 ?_ ?_
    · walk_at "ev"
    · first | assumption | omega
  · have hD := @nxI K H0'
    obtain ⟨d31, e_d31, h⟩ := mb_ok h; have e_d31 := ok_inj e_d31
    refine q_asg (R := (nl K rI)) (b := cut t3 (some ((2 : Int) + ((4 : Int) * x29))) (some ((6 : Int) + ((4 : Int) * x29)))) (b' := d31) ?_ e_d31 ?_
    · walk_at "ev"
    obtain ⟨t32, e_t32, h⟩ := mb_ok h; have e_t32 := oM_ok e_t32
    obtain ⟨e_u36, h⟩ := mb_chk h
    obtain ⟨zs37, e_zs37, h⟩ := mb_ok h
    refine q_set (r := (rT K rS)) (b := zs37) (b' := zs37) ?_ rfl ?_
    · refine a_tupC (R := rL _) ?_ inferInstance inferInstance inferInstance
      refine Nw.lst ?_
      refine nw_lcM (G' := ([fc rI cellhere1, fc rI most2, some (.ow (nl K rI) t3), some (.ow (nl K rS) s15.1), fc rI x29, some (.ow (nl K rS) s15.2), some (.ow (nl K (rP K rS (rT K rS))) s28), some (.ow (nl K rI) d31), none, none] : Cells K)) (r := rI) ?_ (by walk_at "len") (fun y33 => ⟨_, tb_name, fun _ e => ?_, fun _ e => ?_⟩) e_zs37
      · refine wk_new ?_
        walk_at "ev"
      · cases e
        exact et_yes
      · obtain ⟨e_u34, e⟩ := mb_chk e
        obtain ⟨t35, e_t35, e⟩ := mb_ok e; have e_t35 := oM_ok e_t35
        cases e
        walk_at "ev"
    obtain ⟨t38, e_t38, h⟩ := mb_ok h; have e_t38 := oM_ok e_t38
    obtain ⟨e_u39, h⟩ := mb_chk h
    obtain ⟨ruleshere40, e_ruleshere40, h⟩ := mb_ok h; have e_ruleshere40 := ok_inj e_ruleshere40
    refine q_app (x := (t38, zs37)) (xs := s28) (by rfl) (x' := (t38, zs37)) ?_ rfl (by assumption) ?_
    · walk_at "ev"
    rw [e_ruleshere40]
    obtain ⟨t41, e_t41, h⟩ := mb_ok h; have e_t41 := oM_ok e_t41
    refine l_if (c := (decide ((t41 % (5 : Int)) = (0 : Int)))) ?_ ?_ ?_
    · walk_at "ev"
    · intro hc; have h := bif_t h hc
      obtain ⟨t42, e_t42, h⟩ := mb_ok h; have e_t42 := oM_ok e_t42
      obtain ⟨e_u43, h⟩ := mb_chk h
      obtain ⟨t44, e_t44, h⟩ := mb_ok h; have e_t44 := oM_ok e_t44
      obtain ⟨e_u45, h⟩ := mb_chk h
      obtain ⟨ruleshere46, e_ruleshere46, h⟩ := mb_ok h; have e_ruleshere46 := ok_inj e_ruleshere46
      refine l_app (x := t44) (xs := ruleshere40) (by rfl) (x' := t44) ?_ rfl (by assumption) ?_
      · walk_at "ev"
      rw [e_ruleshere46]
      cases h
      exact hL hD (by walk_at "sub")
    · intro hc; have h := bif_f h hc
      cases h
      exact hL hD (by walk_at "sub")
  cases h
  exact r_retO (i := 6) hD (by rfl)
abbrev n__law_grouped : List Str := ["_law_rules_here", "_law_heads", "_law_head", "_law_side", "_law_found", "_law_name_here"]
abbrev p__law_grouped : List Str := ["_law_rules_here"]
theorem sc__law_grouped : FnScope n__law_grouped p__law_grouped (defScope s__law_grouped) := ⟨rfl, rfl, rfl, by decide +kernel, rfl, by decide +kernel, by decide +kernel⟩
abbrev sp__law_grouped (K : PySem.W.Frag) : Sp := spMN (aC (rEi K (rP K rS (rT K rS))) aN) (nl K (rP K rS (rT K rS))) fun a => m__law_grouped a.1
theorem c__law_grouped (F : Df K mg "_law_grouped" s__law_grouped) : Cal P w K mg base CX0 "_law_grouped" 1 p__law_grouped (sp__law_grouped K) := by
  refine cal_of F sc__law_grouped (fun vs H Q E ⟨a, b, h, _⟩ => LenA.len h) (fun _ _ _ _ _ _ us hl => match us, hl with | [_], _ => rfl) fun cdv f A outer s H vs Q E hr h => ?_
  have sc := sc__law_grouped
  refine ⟨_, (pss_cons (psS 1 sc.nd (pe_lst pa_nil))
      (pss_cons (ps_for PassesOwn.never rfl (pi_eiK K (pv 0)) (pg_tupK K rfl (pgs_cons (pgN 2 sc.nd) (pgs_cons (pgN 3 sc.nd) pgs_nil)))
      (pss_one (ps_if (pt_cmpR (k_nin K) (pv 2) (pv 1) rfl)
      (pss_one (ps_expr (pe_app K (pv 1) (pa1 (pv 2))))) pss_nil)))
      (pss_cons (psS 4 sc.nd (pe_lst pa_nil))
      (pss_cons (ps_for PassesOwn.never rfl (pi_listK K (pv 1)) (pgN 5 sc.nd)
      (pss_one (ps_for PassesOwn.never rfl (pi_eiK K (pv 0)) (pg_tupK K rfl (pgs_cons (pgN 2 sc.nd) (pgs_cons (pgN 3 sc.nd) pgs_nil)))
      (pss_one (ps_if (PW.pt (pw_and (pt_cmpR op_eq (pv 2) (pv 5) (nomark _)) (pw_and1 (pt_cmpR (k_ninD K (Nat.lt_of_le_of_lt (Nat.add_le_add_left (by decide) _) hr.un)) (pe_tupD (pa_cons (pv 2) (pa1 (pv 3)))) (pv 4) rfl))))
      (pss_one (ps_expr (pe_app K (pv 4) (pa1 (pe_tupD (pa_cons (pv 2) (pa1 (pv 3)))))))) pss_nil)))))
      (pss_one (ps_ret (pv 4))))))), ?_⟩
  obtain ⟨⟨ruleshere1, _⟩, r0, ⟨v_ruleshere1, _, rfl, w_ruleshere1, rfl⟩, h, k⟩ := h
  have hD : RtOk (nl K (rP K rS (rT K rS))) H r0 { nx := fun _ H' => Q .non H', rt := Q } := fun v H' ⟨as, s, n, z⟩ => k v H' as s n z
  refine Sv.run (K := K) (G := ([rc (rEi K (rP K rS (rT K rS))) ruleshere1, none, none, none, none, none] : Cells K)) ?_ (.ro w_ruleshere1 (.skip (.skip (.skip (.skip (.skip .nil))))))
  have h : m__law_grouped ruleshere1 = .ok r0 := h
  unfold m__law_grouped at h
  obtain ⟨heads2, e_heads2, h⟩ := mb_ok h; have e_heads2 := ok_inj e_heads2
  refine q_asg (R := (nl K rS)) (b := ([] : (List Str))) (b' := heads2) ?_ e_heads2 ?_
  · walk_at "ev"
  obtain ⟨s5, hm, h⟩ := mb_ok h
  refine q_forM (G' := ([rc (rEi K (rP K rS (rT K rS))) ruleshere1, some (.ow (nl K rS) heads2), none, none, none, none] : Cells K)) (r := (rP K rS (rT K rS))) (fun (s3 : (List Str)) => ([rc (rEi K (rP K rS (rT K rS))) ruleshere1, some (.ow (nl K rS) s3), none, none, none, none] : Cells K)) hm ?_ (.keep (.keep (.keep (.keep (.keep (.keep .nil)))))) (fun H0' e0 x4 s3 s' h => ⟨_, tg_pair, ?_⟩) ?_
  · exact wk_ei (by rfl)
  · have hD := @nxI K H0'
    refine l_if (c := (!(decide (x4.1 ∈ s3)))) ?_ ?_ ?_
    · walk_at "ev"
    · intro hc; have h := bif_t h hc
      obtain ⟨e_u6, h⟩ := mb_chk h
      obtain ⟨heads7, e_heads7, h⟩ := mb_ok h; have e_heads7 := ok_inj e_heads7
      refine l_app (x := x4.1) (xs := s3) (by rfl) (x' := x4.1) ?_ rfl (by assumption) ?_
      · walk_at "ev"
      rw [e_heads7]
      cases h
      exact hL hD (by walk_at "sub")
    · intro hc; have h := bif_f h hc
      cases h
      exact hL hD (by walk_at "sub")
  obtain ⟨found8, e_found8, h⟩ := mb_ok h; have e_found8 := ok_inj e_found8
  refine q_asg (R := (nl K (rP K rS (rT K rS)))) (b := ([] : (List (Str × (List Str))))) (b' := found8) ?_ e_found8 ?_
  · walk_at "ev"
  obtain ⟨s11, hm, h⟩ := mb_ok h
  refine q_forM (G' := ([rc (rEi K (rP K rS (rT K rS))) ruleshere1, rc (rL rS) s5, none, none, some (.ow (nl K (rP K rS (rT K rS))) found8), none] : Cells K)) (r := rS) (fun (s9 : (List (Str × (List Str)))) => ([rc (rEi K (rP K rS (rT K rS))) ruleshere1, rc (rL rS) s5, none, none, some (.ow (nl K (rP K rS (rT K rS))) s9), none] : Cells K)) hm ?_ (.keep (.keep (.keep (.keep (.keep (.keep .nil)))))) (fun H0' e0 x10 s9 s' h => ⟨_, tg_name, ?_⟩) ?_
  · exact wk_own (i := 1) (by rfl)
  · have hD := @nxI K H0'
    obtain ⟨s14, hm, h⟩ := mb_ok h
    refine l_forM (G' := ([rc (rEi K (rP K rS (rT K rS))) ruleshere1, rc (rL rS) s5, none, none, some (.ow (nl K (rP K rS (rT K rS))) s9), fc rS x10] : Cells K)) (r := (rP K rS (rT K rS))) (fun (s12 : (List (Str × (List Str)))) => ([rc (rEi K (rP K rS (rT K rS))) ruleshere1, rc (rL rS) s5, none, none, some (.ow (nl K (rP K rS (rT K rS))) s12), fc rS x10] : Cells K)) hm ?_ (.keep (.keep (.keep (.keep (.keep (.keep .nil)))))) (fun H0' e0 x13 s12 s' h => ⟨_, tg_pair, ?_⟩) ?_
    · exact wk_ei (by rfl)
    · have hD := @nxI K H0'
      refine l_if (c := ((decide (x13.1 = x10)) && (!(memB (x13.1, x13.2) s12)))) ?_ ?_ ?_
      · walk_at "ev"
      · intro hc; have h := bif_t h hc
        obtain ⟨e_u15, h⟩ := mb_chk h
        obtain ⟨found16, e_found16, h⟩ := mb_ok h; have e_found16 := ok_inj e_found16
        refine l_app (x := (x13.1, x13.2)) (xs := s12) (by rfl) (x' := (x13.1, x13.2)) ?_ rfl (by assumption) ?_
        · walk_at "ev"
        rw [e_found16]
        cases h
        exact hL hD (by walk_at "sub")
      · intro hc; have h := bif_f h hc
        cases h
        exact hL hD (by walk_at "sub")
    cases h
    exact hL hD (by walk_at "sub")
  cases h
  exact r_retO (i := 4) hD (by rfl)
abbrev n__law_same : List Str := ["_law_told", "_law_due", "_law_sign"]
abbrev p__law_same : List Str := ["_law_told", "_law_due"]
theorem sc__law_same : FnScope n__law_same p__law_same (defScope s__law_same) := ⟨rfl, rfl, rfl, by decide +kernel, rfl, by decide +kernel, by decide +kernel⟩
abbrev sp__law_same (K : PySem.W.Frag) : Sp := spM (aC (rP K rS (rT K rS)) (aC (rP K rS (rT K rS)) aN)) rB fun a => m__law_same a.1 a.2.1
theorem c__law_same (F : Df K mg "_law_same" s__law_same) (B_tuple : mg "tuple" = none) (B_isinstance : mg "isinstance" = none) (B_len : mg "len" = none) (B_str : mg "str" = none) : Cal P w K mg base CX0 "_law_same" 1 p__law_same (sp__law_same K) := by
  refine cal_of F sc__law_same (fun vs H Q E ⟨a, b, h, _⟩ => LenA.len h) (fun _ _ _ _ _ _ us hl => match us, hl with | [_, _], _ => rfl) fun cdv f A outer s H vs Q E hr h => ?_
  have sc := sc__law_same
  refine ⟨_, (pss_cons (ps_if (PW.pt (pw_or (pt_not (pt_val (pe_callB (k_isi K) (by rfl) B_isinstance (by decide +kernel) (pa_cons (pv 0) (pa1 (pe_bltn (v := .ty "tuple") (u := .type "tuple") (by rfl) B_tuple (by decide +kernel) rfl)))))) (pw_or (pt_cmpR op_ne (pe_callB (k_len K) (by rfl) B_len PySem.boot_len (pa1 (pv 0))) pe_int (nomark _)) (pw_or1 (pt_not (pt_val (pe_callB (k_isi K) (by rfl) B_isinstance (by decide +kernel) (pa_cons (pe_ix (k_ix K) (pv 0) pe_int (fun _ _ => rfl)) (pa1 (pe_bltn (v := .ty "str") (u := .type "str") (by rfl) B_str (by decide +kernel) rfl))))))))))
      (pss_one (ps_ret pe_bl)) pss_nil)
      (pss_cons (ps_if (pt_not (pt_val (pe_callB (k_isi K) (by rfl) B_isinstance (by decide +kernel) (pa_cons (pe_ix (k_ix K) (pv 0) pe_int (fun _ _ => rfl)) (pa1 (pe_bltn (v := .ty "tuple") (u := .type "tuple") (by rfl) B_tuple (by decide +kernel) rfl))))))
      (pss_one (ps_ret pe_bl)) pss_nil)
      (pss_cons (ps_for PassesOwn.never rfl (pi_tupK K (pe_ix (k_ix K) (pv 0) pe_int (fun _ _ => rfl))) (pgN 2 sc.nd)
      (pss_one (ps_if (pt_not (pt_val (pe_callB (k_isi K) (by rfl) B_isinstance (by decide +kernel) (pa_cons (pv 2) (pa1 (pe_bltn (v := .ty "str") (u := .type "str") (by rfl) B_str (by decide +kernel) rfl))))))
      (pss_one (ps_ret pe_bl)) pss_nil)))
      (pss_one (ps_ret (pe_cmpR (k_eqD K (Nat.lt_of_le_of_lt (Nat.add_le_add_left (by decide) _) hr.un)) (pv 0) (pv 1) (nomark _))))))), ?_⟩
  obtain ⟨⟨told1, due2, _⟩, r0, ⟨v_told1, _, rfl, w_told1, ⟨v_due2, _, rfl, w_due2, rfl⟩⟩, h, k⟩ := h
  have hD := rtF (K := K) k
  refine Sv.run (K := K) (G := ([fc (rP K rS (rT K rS)) told1, fc (rP K rS (rT K rS)) due2, none] : Cells K)) ?_ (.fz w_told1 (.fz w_due2 (.skip .nil)))
  have h : m__law_same told1 due2 = .ok r0 := h
  unfold m__law_same at h
  refine q_if (c := ((!true) || ((!decide (((2 : Nat) : Int) = (2 : Int))) || (!true)))) ?_ ?_ ?_
  · walk_at "ev"
  · intro hc; have h := bif_t h hc
    cases h
    refine r_ret hD ?_
    walk_at "ev"
  · intro hc; have h := bif_f h hc
    refine q_next ?_
    refine q_if (c := (!true)) ?_ ?_ ?_
    · walk_at "ev"
    · intro hc; have h := bif_t h hc
      cases h
      refine r_ret hD ?_
      walk_at "ev"
    · intro hc; have h := bif_f h hc
      refine q_next ?_
      obtain ⟨o5, hm, h⟩ := mb_ok h
      refine q_forF (G' := ([fc (rP K rS (rT K rS)) told1, fc (rP K rS (rT K rS)) due2, none] : Cells K)) (r := rS) (R := (fz K rB)) (fun (s3 : Unit) => ([fc (rP K rS (rT K rS)) told1, fc (rP K rS (rT K rS)) due2, none] : Cells K)) hm ?_ (.keep (.keep (.keep .nil))) (fun s3 e => ?_) (fun x e => ?_) (fun H0' D' e0 x4 s3 o' h hD => ⟨_, tg_name, ?_⟩)
      · refine wk_tup ?_
        walk_at "ev"
      · subst e; have h := go_nx h
        cases h
        refine r_ret hD ?_
        walk_at "ev"
      · subst e; have h := go_rt h; cases h; exact hD
      · refine l_if (c := (!true)) ?_ ?_ ?_
        · walk_at "ev"
        · intro hc; have h := bif_t h hc
          cases h
          refine r_ret hD ?_
          walk_at "ev"
        · intro hc; have h := bif_f h hc
          cases h
          exact hL hD (by walk_at "sub")
abbrev n__law_all_same : List Str := ["_law_told", "_law_due", "_law_k"]
abbrev p__law_all_same : List Str := ["_law_told", "_law_due"]
theorem sc__law_all_same : FnScope n__law_all_same p__law_all_same (defScope s__law_all_same) := ⟨rfl, rfl, rfl, by decide +kernel, rfl, by decide +kernel, by decide +kernel⟩
abbrev sp__law_all_same (K : PySem.W.Frag) : Sp := spM (aC (rEi K (rP K rS (rT K rS))) (aC (rL (rP K rS (rT K rS))) aN)) rB fun a => m__law_all_same a.1 a.2.1
theorem c__law_all_same (F : Df K mg "_law_all_same" s__law_all_same) (B_len : mg "len" = none) (B_range : mg "range" = none) (C__law_same : Cal P w K mg base CX0 "_law_same" 1 p__law_same (sp__law_same K)) : Cal P w K mg base CX0 "_law_all_same" 2 p__law_all_same (sp__law_all_same K) := by
  refine cal_of F sc__law_all_same (fun vs H Q E ⟨a, b, h, _⟩ => LenA.len h) (fun _ _ _ _ _ _ us hl => match us, hl with | [_, _], _ => rfl) fun cdv f A outer s H vs Q E hr h => ?_
  have sc := sc__law_all_same
  refine ⟨_, (pss_cons (ps_if (pt_cmpR op_ne (pe_callB (k_len K) (by rfl) B_len PySem.boot_len (pa1 (pv 0))) (pe_callB (k_len K) (by rfl) B_len PySem.boot_len (pa1 (pv 1))) (nomark _))
      (pss_one (ps_ret pe_bl)) pss_nil)
      (pss_cons (ps_for PassesOwn.never rfl (pi_range1 (by rfl) B_range (pa1 (pe_callB (k_len K) (by rfl) B_len PySem.boot_len (pa1 (pv 1))))) (pgN 2 sc.nd)
      (pss_one (ps_if (pt_not (pt_val (pe_fn C__law_same hr.m (pa_cons (pe_ix (k_ix K) (pv 0) (pv 2) (fun _ _ => rfl)) (pa1 (pe_ix (k_ix K) (pv 1) (pv 2) (fun _ _ => rfl)))))))
      (pss_one (ps_ret pe_bl)) pss_nil)))
      (pss_one (ps_ret pe_bl)))), ?_⟩
  obtain ⟨⟨told1, due2, _⟩, r0, ⟨v_told1, _, rfl, w_told1, ⟨v_due2, _, rfl, w_due2, rfl⟩⟩, h, k⟩ := h
  have hD := rtF (K := K) k
  refine Sv.run (K := K) (G := ([rc (rEi K (rP K rS (rT K rS))) told1, rc (rL (rP K rS (rT K rS))) due2, none] : Cells K)) ?_ (.ro w_told1 (.ro w_due2 (.skip .nil)))
  have h : m__law_all_same told1 due2 = .ok r0 := h
  unfold m__law_all_same at h
  refine q_if (c := (!decide ((told1.length : Int) = (due2.length : Int)))) ?_ ?_ ?_
  · walk_at "ev"
  · intro hc; have h := bif_t h hc
    cases h
    refine r_ret hD ?_
    walk_at "ev"
  · intro hc; have h := bif_f h hc
    refine q_next ?_
    obtain ⟨e_u3, h⟩ := mb_chk h
    obtain ⟨o6, hm, h⟩ := mb_ok h
    refine q_forF (G' := ([rc (rEi K (rP K rS (rT K rS))) told1, rc (rL (rP K rS (rT K rS))) due2, none] : Cells K)) (r := rI) (R := (fz K rB)) (fun (s4 : Unit) => ([rc (rEi K (rP K rS (rT K rS))) told1, rc (rL (rP K rS (rT K rS))) due2, none] : Cells K)) hm ?_ (.keep (.keep (.keep .nil))) (fun s4 e => ?_) (fun x e => ?_) (fun H0' D' e0 x5 s4 o' h hD => ⟨_, tg_name, ?_⟩)
    · refine wk_rng1 ?_ ?_
      · walk_at "ev"
      · first | assumption | omega
    · subst e; have h := go_nx h
      cases h
      refine r_ret hD ?_
      walk_at "ev"
    · subst e; have h := go_rt h; cases h; exact hD
    · obtain ⟨t7, e_t7, h⟩ := mb_ok h; have e_t7 := oM_ok e_t7
      obtain ⟨t8, e_t8, h⟩ := mb_ok h; have e_t8 := oM_ok e_t8
      obtain ⟨t9, e_t9, h⟩ := mb_ok h
      refine l_if (c := (!t9)) ?_ ?_ ?_
      · walk_at "ev"
      · intro hc; have h := bif_t h hc
        cases h
        refine r_ret hD ?_
        walk_at "ev"
      · intro hc; have h := bif_f h hc
        cases h
        exact hL hD (by walk_at "sub")
abbrev n__law_odd : List Str := ["_law_d", "_law_odd_here"]
abbrev p__law_odd : List Str := ["_law_d"]
theorem sc__law_odd : FnScope n__law_odd p__law_odd (defScope s__law_odd) := ⟨rfl, rfl, rfl, by decide +kernel, rfl, by decide +kernel, by decide +kernel⟩
abbrev sp__law_odd (K : PySem.W.Frag) : Sp := spM (aC rI aN) rS fun a => m__law_odd a.1
theorem c__law_odd (F : Df K mg "_law_odd" s__law_odd) (B_int : mg "int" = none) : Cal P w K mg base CX0 "_law_odd" 1 p__law_odd (sp__law_odd K) := by
  refine cal_of F sc__law_odd (fun vs H Q E ⟨a, b, h, _⟩ => LenA.len h) (fun _ _ _ _ _ _ us hl => match us, hl with | [_], _ => rfl) fun cdv f A outer s H vs Q E hr h => ?_
  have sc := sc__law_odd
  refine ⟨_, (pss_cons (psS 1 sc.nd (pe_lst (pa_cons pe_str (pa_cons pe_str (pa_cons pe_str (pa_cons pe_str (pa_cons pe_str (pa_cons pe_str (pa_cons pe_str (pa_cons pe_str (pa_cons pe_str (pa1 pe_str))))))))))))
      (pss_cons (psS 1 sc.nd (pe_op op_cat (pv 1) (pe_lst (pa_cons pe_str (pa1 pe_str)))))
      (pss_cons (psS 1 sc.nd (pe_op op_cat (pv 1) (pe_lst (pa_cons pe_str (pa_cons pe_str (pa_cons pe_str (pa_cons pe_str (pa_cons pe_str (pa_cons pe_str (pa_cons pe_str (pa1 pe_str)))))))))))
      (pss_cons (psS 1 sc.nd (pe_op op_cat (pv 1) (pe_lst (pa_cons pe_str (pa_cons pe_str (pa_cons pe_str (pa1 pe_str)))))))
      (pss_one (ps_ret (pe_ix (k_ix K) (pv 1) (pe_op op_mod (pe_callTy call_int1 (by rfl) B_int (by decide +kernel) (pa1 (pv 0))) pe_int) (fun _ _ => rfl)))))))), ?_⟩
  obtain ⟨⟨d1, _⟩, r0, ⟨v_d1, _, rfl, w_d1, rfl⟩, h, k⟩ := h
  have hD := rtF (K := K) k
  refine Sv.run (K := K) (G := ([fc rI d1, none] : Cells K)) ?_ (.fz w_d1 (.skip .nil))
  have h : m__law_odd d1 = .ok r0 := h
  unfold m__law_odd at h
  obtain ⟨oddhere2, e_oddhere2, h⟩ := mb_ok h; have e_oddhere2 := ok_inj e_oddhere2
  refine q_asg (R := (nl K rS)) (b := [("" : Str), (" " : Str), ("A" : Str), ("A " : Str), ("A  -> b" : Str), ("A ->  b" : Str), ("A -> b " : Str), (" A -> b" : Str), ("A -> " : Str), ("a -> b" : Str)]) (b' := oddhere2) ?_ e_oddhere2 ?_
  · walk_at "ev"
  obtain ⟨e_u3, h⟩ := mb_chk h
  obtain ⟨oddhere4, e_oddhere4, h⟩ := mb_ok h; have e_oddhere4 := ok_inj e_oddhere4
  refine q_asg (R := (nl K rS)) (b := oddhere2 ++ ([("A - > b" : Str), ("A => b" : Str)])) (b' := oddhere4) ?_ e_oddhere4 ?_
  · walk_at "ev"
  obtain ⟨e_u5, h⟩ := mb_chk h
  obtain ⟨oddhere6, e_oddhere6, h⟩ := mb_ok h; have e_oddhere6 := ok_inj e_oddhere6
  refine q_asg (R := (nl K rS)) (b := oddhere4 ++ ([("-> b" : Str), ("A -> b  C" : Str), ("A -> 9a" : Str), ("A -> b c." : Str), ("A -> b c d_e" : Str), ("A->b" : Str), ("x.a -> b" : Str), ("A -> b	c" : Str)])) (b' := oddhere6) ?_ e_oddhere6 ?_
  · walk_at "ev"
  obtain ⟨e_u7, h⟩ := mb_chk h
  obtain ⟨oddhere8, e_oddhere8, h⟩ := mb_ok h; have e_oddhere8 := ok_inj e_oddhere8
  refine q_asg (R := (nl K rS)) (b := oddhere6 ++ ([("9A -> b" : Str), ("A -> b ->" : Str), ("ABCDEFGHI -> b" : Str), ("A -> X.b" : Str)])) (b' := oddhere8) ?_ e_oddhere8 ?_
  · walk_at "ev"
  obtain ⟨t9, e_t9, h⟩ := mb_ok h; have e_t9 := oM_ok e_t9
  cases h
  refine r_ret hD ?_
  walk_at "ev"
abbrev n_law : List Str := ["_law_script", "_law_rules_here", "_law_row", "_law_lines", "_law_head", "_law_side", "_law_sign", "_law_first", "_law_k", "_law_place", "_law_told", "_law_grammar", "e"]
abbrev p_law : List Str := ["_law_script"]
theorem sc_law : FnScope n_law p_law (defScope s_law) := ⟨rfl, rfl, rfl, by decide +kernel, rfl, by decide +kernel, by decide +kernel⟩
abbrev sp_law (K : PySem.W.Frag) : Sp := spM (aC (rQ K rI) aN) rB fun a => m_law a.1
theorem c_law {f : Addr} {fd : FuncData} (F : Fun K "law" "law" s_law f fd) (B_len : mg "len" = none) (B_int : mg "int" = none) (B_range : mg "range" = none) (B_isinstance : mg "isinstance" = none) (B_ValueError : mg "ValueError" = none) (B_bool : mg "bool" = none) (B_list : mg "list" = none) (K_Grammar : ClsF K mg "Grammar") (CM_Grammar_from_string : CalC P w K mg base (cA K "Grammar") "from_string" 4 (sp_Grammar_from_string K)) (IH0_Grammar : ∃ d, CalDH P w K mg base (cA K "Grammar") 2 p_Grammar___init__ (sp_Grammar___init__ K) d) (Y_Grammar : ItOk P w K mg base (cA K "Grammar") "rows") (L_Grammar : NoLen K (cA K "Grammar")) (T_BadLine : CatC K mg "BadLine" "number") (IS_BadLine_TongueError : IsX K "BadLine" (.ref (cA K "TongueError")) true) (J_TongueError : mg "TongueError" = some (.ref (cA K "TongueError"))) (IS_BadLine_ValueError : IsX K "BadLine" (.ty "ValueError") true) (C__law_cell : Cal P w K mg base CX0 "_law_cell" 1 p__law_cell (sp__law_cell K)) (C__law_rules : Cal P w K mg base CX0 "_law_rules" 2 p__law_rules (sp__law_rules K)) (C__law_draws : Cal P w K mg base CX0 "_law_draws" 1 p__law_draws (sp__law_draws K)) (C__law_odd : Cal P w K mg base CX0 "_law_odd" 1 p__law_odd (sp__law_odd K)) (C__law_grouped : Cal P w K mg base CX0 "_law_grouped" 1 p__law_grouped (sp__law_grouped K)) (C__law_all_same : Cal P w K mg base CX0 "_law_all_same" 2 p__law_all_same (sp__law_all_same K)) : FnOk P w K mg base CX0 5 f fd p_law (sp_law K) := by
  have cl_Grammar := K_Grammar.cl
  obtain ⟨dh_Grammar, IH0_Grammar⟩ := IH0_Grammar
  have NTH_Grammar : NilT K dh_Grammar := IH0_Grammar.tp
  refine F.ok sc_law (fun vs H Q E ⟨a, b, h, _⟩ => LenA.len h) fun cdv A outer s H vs Q E hr h => ?_
  have sc := sc_law
  refine ⟨_, (pss_cons (psS 1 sc.nd (pe_fn C__law_rules hr.m (pa_cons (pe_fn C__law_cell hr.m (pa_cons (pv 0) (pa1 pe_int))) (pa1 pe_int))))
      (pss_cons (psS 2 sc.nd (pe_fn C__law_draws hr.m (pa_cons (pe_fn C__law_cell hr.m (pa_cons (pv 0) (pa1 pe_int))) (pa1 pe_int))))
      (pss_cons (ps_if (pt_cmpR op_eq (pe_callB (k_len K) (by rfl) B_len PySem.boot_len (pa1 (pv 1))) pe_int (nomark _))
      (pss_one (psS 1 sc.nd (pe_lst (pa1 (pe_tupD (pa_cons pe_str (pa1 (pe_tupD (pa1 pe_str))))))))) pss_nil)
      (pss_cons (psS 3 sc.nd (pe_lst pa_nil))
      (pss_cons (ps_for PassesOwn.never rfl (pi_listK K (pv 1)) (pg_tupK K rfl (pgs_cons (pgN 4 sc.nd) (pgs_cons (pgN 5 sc.nd) pgs_nil)))
      (pss_one (ps_expr (pe_app K (pv 3) (pa1 (pe_op op_add_str (pe_op op_add_str (pv 4) pe_str) (pe_joinK K pe_str (pe_lc (own := [("_law_sign", 6)]) (g := gName 6) (tt := tYes) (by rfl) sc.nd (pi_tupK K (pv 5)) (blkOk_by (own := [("_law_sign", 6)]) (N := n_law) (sc := defScope s_law) (by decide +kernel)) (fun _ _ _ _ _ => (pgN 6 sc.nd)) (fun _ _ _ _ _ => pts_nil) (fun _ _ _ _ _ => (pe_op op_add_str pe_str (pv 6)))))))))))
      (pss_cons (psS 7 sc.nd pe_int)
      (pss_cons (ps_for PassesOwn.never rfl (pi_range1 (by rfl) B_range (pa1 (pe_op op_mod (pe_callTy call_int1 (by rfl) B_int (by decide +kernel) (pa1 (pe_ix (k_ix K) (pv 2) pe_int (fun _ _ => rfl)))) pe_int))) (pgN 8 sc.nd)
      (pss_cons (psS 9 sc.nd (pe_op op_mod (pe_callTy call_int1 (by rfl) B_int (by decide +kernel) (pa1 (pe_ix (k_ix K) (pv 2) (pe_op op_add pe_int (pv 8)) (fun _ _ => rfl)))) (pe_callB (k_len K) (by rfl) B_len PySem.boot_len (pa1 (pv 3)))))
      (pss_cons (ps_asg (pe_fn C__law_odd hr.m (pa1 (pe_ix (k_ix K) (pv 2) (pe_op op_add pe_int (pv 8)) (fun _ _ => rfl)))) (pg_sub (pv 3) (pv 9) set_list))
      (pss_one (ps_if (PW.pt (pw_or (pt_cmpR op_eq (pv 7) pe_int (nomark _)) (pw_or1 (pt_cmpR op_lt (pe_op op_add (pv 9) pe_int) (pv 7) (nomark _)))))
      (pss_one (psS 7 sc.nd (pe_op op_add (pv 9) pe_int))) pss_nil)))))
      (pss_cons (ps_if (PW.pt (pw_and (pt_cmpR op_gt (pv 7) pe_int (nomark _)) (pw_and (pt_cmpR op_eq (pe_callB (k_len K) (by rfl) B_len PySem.boot_len (pa1 (pv 3))) pe_int (nomark _)) (pw_and1 (pt_cmpR op_eq (pe_ix (k_ix K) (pv 3) pe_int (fun _ _ => rfl)) pe_str (nomark _))))))
      (pss_cons (psS 7 sc.nd pe_int)
      (pss_one (psS 1 sc.nd (pe_lst pa_nil)))) pss_nil)
      (pss_cons (psS 10 sc.nd pe_int)
      (pss_cons (L2N.ps_try_as (i := 12) rfl rfl sc.nd rfl rfl (nm_cat T_BadLine) takes_no (fun W pn xe tk pw =>
      (pss_one (psS 11 sc.nd (pe_cmS CM_Grammar_from_string hr.m tk (pe_glob (v := .ref (cA K "Grammar")) (by rfl) K_Grammar.mg rfl) (pa1 (pe_joinK K pe_str (pv 3)))))))
      (fun a oe cls d pn hz hf => (pss_cons (ps_if (PW.pt (pw_or (pt_not (pt_val (pe_callB (k_isX K hz hf) (by rfl) B_isinstance (by decide +kernel) (pa_cons (pv 12) (pa1 (pe_glob (v := .ref (cA K "TongueError")) (by rfl) J_TongueError rfl)))))) (pw_or1 (pt_not (pt_val (pe_callB (k_isX K hz hf) (by rfl) B_isinstance (by decide +kernel) (pa_cons (pv 12) (pa1 (pe_bltn (v := .ty "ValueError") (u := .type "ValueError") (by rfl) B_ValueError (by decide +kernel) rfl)))))))))
      (pss_one (ps_ret pe_bl)) pss_nil)
      (pss_cons (ps_if (PW.pt (pw_or (pt_not (pt_val (pe_callB (k_isi K) (by rfl) B_isinstance (by decide +kernel) (pa_cons (pe_xfK K T_BadLine.xf T_BadLine.no hz hf (pv 12)) (pa1 (pe_bltn (v := .ty "int") (u := .type "int") (by rfl) B_int (by decide +kernel) rfl)))))) (pw_or1 (pt_val (pe_callB (k_isi K) (by rfl) B_isinstance (by decide +kernel) (pa_cons (pe_xfK K T_BadLine.xf T_BadLine.no hz hf (pv 12)) (pa1 (pe_bltn (v := .ty "bool") (u := .type "bool") (by rfl) B_bool (by decide +kernel) rfl))))))))
      (pss_one (ps_ret pe_bl)) pss_nil)
      (pss_cons (psS 10 sc.nd (pe_xfK K T_BadLine.xf T_BadLine.no hz hf (pv 12)))
      (pss_one (psS 11 sc.nd (pe_mkI0H (k := 2) IH0_Grammar K_Grammar.mg (room_suite hr.m) (hot_suite hz hf)))))))))
      (pss_cons (ps_if (pt_cmpR op_ne (pv 10) (pv 7) (nomark _))
      (pss_one (ps_ret pe_bl)) pss_nil)
      (pss_one (ps_ret (pe_or (pe_cmpR op_gt (pv 7) pe_int (nomark _)) (pe_one (pe_fn C__law_all_same hr.m (pa_cons (pe_callTy (k_listY K Y_Grammar L_Grammar hr.m) (by rfl) B_list (by decide +kernel) (pa1 (pv 11))) (pa1 (pe_fn C__law_grouped hr.m (pa1 (pv 1))))))))))))))))))))), ?_⟩
  obtain ⟨⟨script1, _⟩, r0, ⟨v_script1, _, rfl, w_script1, rfl⟩, h, k⟩ := h
  have hD := rtF (K := K) k
  refine Sv.run (K := K) (G := ([rc (rQ K rI) script1, none, none, none, none, none, none, none, none, none, none, none, none] : Cells K)) ?_ (.ro w_script1 (.skip (.skip (.skip (.skip (.skip (.skip (.skip (.skip (.skip (.skip (.skip (.skip .nil)))))))))))))
  have h : m_law script1 = .ok r0 := h
  unfold m_law at h
  obtain ⟨t2, e_t2, h⟩ := mb_ok h
  obtain ⟨t3, e_t3, h⟩ := mb_ok h
  refine q_asg (R := (nl K (rP K rS (rT K rS)))) (b := t3) (b' := t3) ?_ rfl ?_
  · walk_at "ev"
  obtain ⟨t4, e_t4, h⟩ := mb_ok h
  obtain ⟨t5, e_t5, h⟩ := mb_ok h
  refine q_asg (R := (nl K rI)) (b := t5) (b' := t5) ?_ rfl ?_
  · walk_at "ev"
  obtain ⟨s6, h1, h⟩ := mb_ok h
  refine cutK ([rc (rQ K rI) script1, some (.ow (nl K (rP K rS (rT K rS))) s6), some (.ow (nl K rI) t5), none, none, none, none, none, none, none, none, none, none] : Cells K) (fun K1 => ?_) ?_
  · have h := h1; clear h1; have hD := K1
    refine q_if (c := (decide ((t3.length : Int) = (0 : Int)))) ?_ ?_ ?_
    · walk_at "ev"
    · intro hc; have h := bif_t h hc
      obtain ⟨ruleshere7, e_ruleshere7, h⟩ := mb_ok h; have e_ruleshere7 := ok_inj e_ruleshere7
      refine l_asg (R := (nl K (rP K rS (rT K rS)))) (b := [(("A" : Str), [("b" : Str)])]) (b' := ruleshere7) ?_ e_ruleshere7 ?_
      · walk_at "ev"
      cases h
      exact hL hD (by walk_at "sub")
    · intro hc; have h := bif_f h hc
      cases h
      exact hL hD (by walk_at "sub")
  obtain ⟨lines8, e_lines8, h⟩ := mb_ok h; have e_lines8 := ok_inj e_lines8
  refine q_asg (R := (nl K rS)) (b := ([] : (List Str))) (b' := lines8) ?_ e_lines8 ?_
  · walk_at "ev"
  obtain ⟨s11, hm, h⟩ := mb_ok h
  refine q_forM (G' := ([rc (rQ K rI) script1, rc (rL (rP K rS (rT K rS))) s6, some (.ow (nl K rI) t5), some (.ow (nl K rS) lines8), none, none, none, none, none, none, none, none, none] : Cells K)) (r := (rP K rS (rT K rS))) (fun (s9 : (List Str)) => ([rc (rQ K rI) script1, rc (rL (rP K rS (rT K rS))) s6, some (.ow (nl K rI) t5), some (.ow (nl K rS) s9), none, none, none, none, none, none, none, none, none] : Cells K)) hm ?_ (.keep (.keep (.keep (.keep (.keep (.keep (.keep (.keep (.keep (.keep (.keep (.keep (.keep .nil))))))))))))) (fun H0' e0 x10 s9 s' h => ⟨_, tg_pair, ?_⟩) ?_
  · exact wk_own (i := 1) (by rfl)
  · have hD := @nxI K H0'
    obtain ⟨e_u12, h⟩ := mb_chk h
    obtain ⟨e_u15, h⟩ := mb_chk h
    obtain ⟨zs16, e_zs16, h⟩ := mb_ok h
    obtain ⟨e_u17, h⟩ := mb_chk h
    obtain ⟨e_u18, h⟩ := mb_chk h
    obtain ⟨e_u19, h⟩ := mb_chk h
    obtain ⟨e_u20, h⟩ := mb_chk h
    obtain ⟨lines21, e_lines21, h⟩ := mb_ok h; have e_lines21 := ok_inj e_lines21
    refine l_app (x := (x10.1 ++ (" ->" : Str)) ++ (Txt.join ("" : Str) zs16)) (xs := s9) (by rfl) (x' := (x10.1 ++ (" ->" : Str)) ++ (Txt.join ("" : Str) zs16)) ?_ rfl (by assumption) ?_
    · refine ev_addS ?_ ?_ (by first | assumption | omega)
      · walk_at "ev"
      · refine ev_join ?_ ?_ (by assumption) (by assumption)
        · walk_at "ev"
        · refine Nw.lst ?_
          refine nw_lcM (G' := ([rc (rQ K rI) script1, rc (rL (rP K rS (rT K rS))) s6, some (.ow (nl K rI) t5), some (.ow (nl K rS) s9), fc rS x10.1, fc (rT K rS) x10.2, none, none, none, none, none, none, none] : Cells K)) (r := rS) ?_ (by walk_at "len") (fun y13 => ⟨_, tb_name, fun _ e => ?_, fun _ e => ?_⟩) e_zs16
          · refine wk_tup ?_
            walk_at "ev"
          · cases e
            exact et_yes
          · obtain ⟨e_u14, e⟩ := mb_chk e
            cases e
            walk_at "ev"
    rw [e_lines21]
    cases h
    exact hL hD (by walk_at "sub")
  obtain ⟨first22, e_first22, h⟩ := mb_ok h; have e_first22 := ok_inj e_first22
  refine q_set (r := rI) (b := (0 : Int)) (b' := first22) ?_ e_first22 ?_
  · walk_at "ev"
  obtain ⟨t23, e_t23, h⟩ := mb_ok h; have e_t23 := oM_ok e_t23
  obtain ⟨e_u24, h⟩ := mb_chk h
  obtain ⟨s27, hm, h⟩ := mb_ok h
  refine q_forM (G' := ([rc (rQ K rI) script1, rc (rL (rP K rS (rT K rS))) s6, some (.ow (nl K rI) t5), some (.ow (nl K rS) s11), none, none, none, fc rI first22, none, none, none, none, none] : Cells K)) (r := rI) (fun (s25 : ((List Str) × Int)) => ([rc (rQ K rI) script1, rc (rL (rP K rS (rT K rS))) s6, some (.ow (nl K rI) t5), some (.ow (nl K rS) s25.1), none, none, none, fc rI s25.2, none, none, none, none, none] : Cells K)) hm ?_ (.keep (.keep (.keep (.keep (.keep (.keep (.keep (.keep (.keep (.keep (.keep (.keep (.keep .nil))))))))))))) (fun H0' e0 x26 s25 s' h => ⟨_, tg_name, ?_⟩) ?_
  · refine wk_rng1 ?_ ?_
    · walk_at "ev"
    · first | assumption | omega
  · have hD := @nxI K H0'
    obtain ⟨t28, e_t28, h⟩ := mb_ok h; have e_t28 := oM_ok e_t28
    obtain ⟨e_u29, h⟩ := mb_chk h
    obtain ⟨place30, e_place30, h⟩ := mb_ok h; have e_place30 := ok_inj e_place30
    refine q_set (r := rI) (b := t28 % (s25.1.length : Int)) (b' := place30) ?_ e_place30 ?_
    · walk_at "ev"
    obtain ⟨t31, e_t31, h⟩ := mb_ok h; have e_t31 := oM_ok e_t31
    obtain ⟨t32, e_t32, h⟩ := mb_ok h
    obtain ⟨j33, e_j33, h⟩ := mb_ok h; have e_j33 := oM_ok e_j33
    obtain ⟨lines34, e_lines34, h⟩ := mb_ok h; have e_lines34 := ok_inj e_lines34
    refine q_lset (xs := s25.1) (x := t32) (by rfl) ?_ ?_ e_j33 ?_
    · walk_at "ev"
    · walk_at "ev"
    rw [e_lines34]
    refine l_if (c := ((decide (s25.2 = (0 : Int))) || (decide ((place30 + (1 : Int)) < s25.2)))) ?_ ?_ ?_
    · walk_at "ev"
    · intro hc; have h := bif_t h hc
      obtain ⟨first35, e_first35, h⟩ := mb_ok h; have e_first35 := ok_inj e_first35
      refine l_set (r := rI) (b := place30 + (1 : Int)) (b' := first35) ?_ e_first35 ?_
      · walk_at "ev"
      cases h
      exact hL hD (by walk_at "sub")
    · intro hc; have h := bif_f h hc
      cases h
      exact hL hD (by walk_at "sub")
  obtain ⟨c38, e_c38, h⟩ := mb_ok h
  obtain ⟨s39, h1, h⟩ := mb_ok h
  refine cutK ([rc (rQ K rI) script1, rc (rL (rP K rS (rT K rS))) s39.1, some (.ow (nl K rI) t5), some (.ow (nl K rS) s27.1), none, none, none, fc rI s39.2, none, none, none, none, none] : Cells K) (fun K1 => ?_) ?_
  · have h := h1; clear h1; have hD := K1
    refine q_if (c := c38) ?_ ?_ ?_
    · refine et_andM ?_ (fun _ e => ?_) e_c38
      · walk_at "ev"
      obtain ⟨c37, e_c37, e⟩ := mb_ok e
      cases e
      refine et_andM ?_ (fun _ e => ?_) e_c37
      · walk_at "ev"
      obtain ⟨t36, e_t36, e⟩ := mb_ok e; have e_t36 := oM_ok e_t36
      cases e
      walk_at "ev"
    · intro hc; have h := bif_t h hc
      obtain ⟨first40, e_first40, h⟩ := mb_ok h; have e_first40 := ok_inj e_first40
      refine q_set (r := rI) (b := (0 : Int)) (b' := first40) ?_ e_first40 ?_
      · walk_at "ev"
      obtain ⟨ruleshere41, e_ruleshere41, h⟩ := mb_ok h; have e_ruleshere41 := ok_inj e_ruleshere41
      refine l_asg (R := (nl K (rP K rS (rT K rS)))) (b := ([] : (List (Str × (List Str))))) (b' := ruleshere41) ?_ e_ruleshere41 ?_
      · walk_at "ev"
      cases h
      exact fun σ H hv => hD σ H ((have_frz (i := 1) (by rfl) hv).less (.keep (.keep (.keep (.keep (.keep (.keep (.keep (.keep (.keep (.keep (.keep (.keep (.keep .nil))))))))))))))
    · intro hc; have h := bif_f h hc
      cases h
      exact hL hD (by walk_at "sub")
  obtain ⟨told42, e_told42, h⟩ := mb_ok h; have e_told42 := ok_inj e_told42
  refine q_set (r := rI) (b := (0 : Int)) (b' := told42) ?_ e_told42 ?_
  · walk_at "ev"
  obtain ⟨e_u43, h⟩ := mb_chk h
  obtain ⟨e_u44, h⟩ := mb_chk h
  obtain ⟨o48, h1, h⟩ := mb_ok h
  refine q_flow (st := fun s47 => ([rc (rQ K rI) script1, rc (rL (rP K rS (rT K rS))) s39.1, some (.ow (nl K rI) t5), some (.ow (nl K rS) s27.1), none, none, none, fc rI s39.2, none, none, fc rI s47.1, some (.ow (nG K) s47.2), none] : Cells K)) (bk := fun s47 => ([rc (rQ K rI) script1, rc (rL (rP K rS (rT K rS))) s39.1, some (.ow (nl K rI) t5), some (.ow (nl K rS) s27.1), none, none, none, fc rI s39.2, none, none, fc rI s47.1, some (.ow (nG K) s47.2), none] : Cells K)) (R := (fz K rB)) o48 (fun s47 e => ?_) (fun x e => ?_) (fun s e => ?_) (fun hD => ?_)
  · subst e; have h := go_nx h
    refine q_if (c := (!decide (s47.1 = s39.2))) ?_ ?_ ?_
    · walk_at "ev"
    · intro hc; have h := bif_t h hc
      cases h
      refine r_ret hD ?_
      walk_at "ev"
    · intro hc; have h := bif_f h hc
      refine q_next ?_
      obtain ⟨c51, e_c51, h⟩ := mb_ok h
      cases h
      refine r_ret hD ?_
      refine ev_orM ?_ (fun _ e => ?_) e_c51
      · walk_at "ev"
      obtain ⟨t49, e_t49, e⟩ := mb_ok e
      obtain ⟨t50, e_t50, e⟩ := mb_ok e
      cases e
      walk_at "ev"
  · subst e; have h := go_rt h; cases h; exact hD
  · subst e; have h := go_bk h; cases h
  have h := h1
  refine q_tryCM (y := ()) (g := ((Txt.join ("\n" : Str) s27.1), ())) (R := (nG K)) ?_ ?_ rfl (wok_clause h ok_ns T_BadLine.ex fun fs46 h H2 a_fs46 d_fs46 s_fs46 => ?_) (fun grammar45 ex => ?_)
  · exact ev_cls
  · walk_at "ev"
  · refine q_if (c := ((!true) || (!true))) ?_ ?_ ?_
    · walk_at "ev"
    · intro hc; have h := bif_t h hc
      cases h
      refine r_ret (rt_ex (i := 12) hD s_fs46) ?_
      walk_at "ev"
    · intro hc; have h := bif_f h hc
      refine q_next ?_
      obtain ⟨t52, e_t52, h⟩ := mb_ok h; have e_t52 := oM_ok e_t52
      refine q_if (c := ((!true) || false)) ?_ ?_ ?_
      · walk_at "ev"
      · intro hc; have h := bif_t h hc
        cases h
        refine r_ret (rt_ex (i := 12) hD s_fs46) ?_
        walk_at "ev"
      · intro hc; have h := bif_f h hc
        refine q_next ?_
        refine q_set (r := rI) (b := t52) (b' := t52) ?_ rfl ?_
        · walk_at "ev"
        obtain ⟨t53, e_t53, h⟩ := mb_ok h
        refine l_asg (R := (nG K)) (b := t53) (b' := t53) ?_ rfl ?_
        · walk_at "ev"
        cases h
        exact nx_ex (fun σ H hv => hD σ H hv) s_fs46 (.keep (.keep (.keep (.keep (.keep (.keep (.keep (.keep (.keep (.keep (.keep (.keep (.keep .nil)))))))))))))
  have h := mtry_to h ex; cases h
  exact hL hD (by walk_at "sub")
theorem xs_BadLine : XStat s_BadLine___init__ "BadLine.__init__" "number" := ⟨⟨_, _, _, _, _, _, _, _, _, _, _, _, rfl, fun _ _ _ _ => ⟨_, rfl⟩, fun _ _ _ _ => rfl, fun _ _ _ _ => rfl⟩, ⟨_, rfl, rfl⟩, fun _ _ _ _ _ _ _ _ _ => .of_eq rfl, rfl, rfl, rfl, rfl, rfl, rfl, rfl, by decide +kernel, by decide, by decide⟩
theorem naD {K : PySem.W.Frag} {C : Addr} {f : Str} {l : List Bool} (h : l.all id = true) (i : Nat) (e : l[i]? = some (decide (PySem.W.findIn K (.ref C) f = some none))) : NoAttr K C f := aD (p := PySem.W.findIn K (.ref C) f = some none) h i e
set_option maxHeartbeats 0 in
theorem heads {w : World} {K : PySem.W.Frag} {h : Heap} {mg : Str → Option Value} {fa : Addr} (X : K.In h) (G : h.Ns mainGlobals mg) (hfa : mg "law" = some (.ref fa)) (c : SaysY (fun K => (gbs K).all id) dts K) :
    ∃ fd : FuncData, (∀ (s : Shared) (v : Value), BindsTo s fd ⟨[v], []⟩ [("_law_script", v)]) ∧ ∀ base : Heap, K.In base → base.Ns mainGlobals mg → FnOk P0 w K mg base CX0 5 fa fd ["_law_script"] (sp_law K) := by
  have b0 : (gb0 K).all id = true := c.fact (fa := gbs) 0 rfl
  have b1 : (gb1 K).all id = true := c.fact (fa := gbs) 1 rfl
  have b2 : (gb2 K).all id = true := c.fact (fa := gbs) 2 rfl
  have b3 : (gb3 K).all id = true := c.fact (fa := gbs) 3 rfl
  have b4 : (gb4 K).all id = true := c.fact (fa := gbs) 4 rfl
  have b5 : (gb5 K).all id = true := c.fact (fa := gbs) 5 rfl
  obtain ⟨oc0, od0, kV0, dc0, pm0, an0, cd0, ct0, sl0, l0, c0⟩ := fn_0 (d := dt0) (c.dat 0 rfl) rfl (atB b0 0 rfl)
  obtain ⟨oc1, od1, kV1, dc1, pm1, an1, cd1, ct1, sl1, l1, c1⟩ := fn_0 (d := dt1) (c.dat 1 rfl) rfl (atB b0 1 rfl)
  obtain ⟨oc2, od2, kV2, dc2, pm2, an2, cd2, ct2, sl2, l2, c2⟩ := fn_0 (d := dt2) (c.dat 2 rfl) rfl (atB b0 2 rfl)
  obtain ⟨oc3, od3, kV3, dc3, pm3, an3, cd3, ct3, sl3, l3, c3⟩ := fn_0 (d := dt3) (c.dat 3 rfl) rfl (atB b0 3 rfl)
  obtain ⟨oc4, od4, kV4, dc4, pm4, an4, cd4, ct4, sl4, l4, c4⟩ := fn_0 (d := dt4) (c.dat 4 rfl) rfl (atB b0 4 rfl)
  obtain ⟨oc5, od5, kV5, dc5, pm5, an5, cd5, ct5, sl5, l5, c5⟩ := fn_0 (d := dt5) (c.dat 5 rfl) rfl (atB b0 5 rfl)
  obtain ⟨oc6, od6, kV6, dc6, pm6, an6, cd6, ct6, sl6, l6, c6⟩ := fn_0 (d := dt6) (c.dat 6 rfl) rfl (atB b0 6 rfl)
  obtain ⟨oc7, od7, kV7, dc7, pm7, an7, cd7, ct7, sl7, l7, c7⟩ := fn_0 (d := dt7) (c.dat 7 rfl) rfl (atB b0 7 rfl)
  obtain ⟨oc8, od8, kV8, dc8, pm8, an8, cd8, ct8, sl8, l8, c8⟩ := fn_0 (d := dt8) (c.dat 8 rfl) rfl (atB b0 8 rfl)
  obtain ⟨oc9, od9, kV9, dc9, pm9, an9, cd9, ct9, sl9, l9, c9⟩ := fn_0 (d := dt9) (c.dat 9 rfl) rfl (atB b0 9 rfl)
  obtain ⟨oc10, od10, kV10, dc10, pm10, an10, cd10, ct10, sl10, l10, c10⟩ := fn_0 (d := dt10) (c.dat 10 rfl) rfl (atB b0 10 rfl)
  obtain ⟨oc11, od11, kV11, dc11, pm11, an11, cd11, ct11, sl11, l11, c11⟩ := fn_0 (d := dt11) (c.dat 11 rfl) rfl (atB b0 11 rfl)
  obtain ⟨oc12, od12, kV12, dc12, pm12, an12, cd12, ct12, sl12, l12, c12⟩ := fn_0 (d := dt12) (c.dat 12 rfl) rfl (atB b0 12 rfl)
  obtain ⟨oc13, od13, kV13, dc13, pm13, an13, cd13, ct13, sl13, l13, c13⟩ := fn_0 (d := dt13) (c.dat 13 rfl) rfl (atB b0 13 rfl)
  obtain ⟨oc14, od14, kV14, dc14, pm14, an14, cd14, ct14, sl14, l14, c14⟩ := fn_0 (d := dt14) (c.dat 14 rfl) rfl (atB b0 14 rfl)
  obtain ⟨oc15, od15, kV15, dc15, pm15, an15, cd15, ct15, sl15, T15, tc15, td15, tn15, ts15, v15_0, l15, c15, lT15, pv15⟩ := fn_1 (d := dt15) (c.dat 15 rfl) rfl (atB b0 15 rfl)
  obtain ⟨E15, ed15, en15, es15, x_v15, lE15, x_d15⟩ := isNil_ok pv15
  obtain ⟨r16, y_c16⟩ := recB_ok (atB b0 16 rfl)
  obtain ⟨oc16, od16, kV16, dc16, pm16, an16, cd16, ct16, sl16, l16, c16⟩ := fn_0 (d := dt16) (c.dat 16 rfl) rfl (atB b0 17 rfl)
  obtain ⟨oc17, od17, kV17, dc17, pm17, an17, cd17, ct17, sl17, l17, c17⟩ := fn_0 (d := dt17) (c.dat 17 rfl) rfl (atB b0 18 rfl)
  obtain ⟨x_BadLine_nm, x_BadLine_q, x_BadLine_N, x_BadLine_bs, x_BadLine_bm, x_BadLine_sn, x_BadLine_sub, x_BadLine_ab, x_BadLine_col, x_BadLine_dd, x_BadLine_k0, x_BadLine_k1, x_BadLine_k2, x_BadLine_k3, x_BadLine_k5, x_BadLine_h, x_BadLine_bmE⟩ := okC_at (atB b0 19 rfl)
  obtain ⟨x_BadLine_oc, x_BadLine_od, x_BadLine_dc, x_BadLine_pm, x_BadLine_an, x_BadLine_cd, x_BadLine_ct, x_BadLine_cc, x_BadLine_osl, x_BadLine_cl, x_BadLine_cld, x_BadLine_csl, x_BadLine_cl2, x_BadLine_cld2, x_BadLine_vs, x_BadLine_csl2, x_BadLine_file, x_BadLine_tf, x_BadLine_lf, x_BadLine_hc, x_BadLine_lc, x_BadLine_lo, x_BadLine_hv, x_BadLine_hf⟩ := fn_X (d := dt18) (c.dat 18 rfl) rfl (atB b1 0 rfl)
  obtain ⟨tc0, mc0⟩ := intB_ok (atB b4 6 rfl)
  obtain ⟨tc1, mc1⟩ := strB_ok (atB b4 7 rfl)
  obtain ⟨tc2, mc2⟩ := strB_ok (atB b4 8 rfl)
  obtain ⟨tc3, mc3⟩ := strB_ok (atB b4 9 rfl)
  have e : some (Value.ref fa) = some (.ref (cA K "law")) := hfa.symm.trans (PySem.W.mg_of X G (aD b3 1 rfl))
  cases e
  refine ⟨PySem.W.fnOf "law" "law" (defArgs s_law) (defBody s_law) (defScope s_law) .none kV14 dc14 pm14 an14 cd14 ct14, fun s v => .of_eq rfl, fun base _ _ => ?_⟩
  have K_Grammar : ClsF K mg "Grammar" := ⟨⟨(atB b1 2 rfl), (atB b1 3 rfl), (atB b1 4 rfl), (aD b1 5 rfl)⟩, PySem.W.mg_of X G (aD b1 1 rfl), (atB b1 6 rfl), (atB b1 7 rfl), (atB b1 8 rfl), (atB b1 9 rfl)⟩
  have N_Grammar_rows : NoAttr K (cA K "Grammar") "rows" := (naD b1 10 rfl)
  have L_Grammar : NoLen K (cA K "Grammar") := ⟨(aD b1 11 rfl), (aD b1 12 rfl)⟩
  have E_BadLine : ExcK P0 K mg "BadLine" "number" := ⟨_, excT_of xs_BadLine (PySem.W.mg_of X G (aD b4 10 rfl)) x_BadLine_h x_BadLine_bmE (aD b4 11 rfl) (aD b4 12 rfl) (aD b4 13 rfl) (aD b4 14 rfl) (aD b4 15 rfl) (aD b4 16 rfl) (atB b4 17 rfl) (aD b4 18 rfl) (aD b4 19 rfl) (atB b5 0 rfl) (aD b5 1 rfl) (aD b5 2 rfl) (aD b5 3 rfl) (aD b5 4 rfl) (PySem.W.mg_none_of X G (aD b5 5 rfl)) x_BadLine_lf x_BadLine_hc x_BadLine_lc x_BadLine_lo x_BadLine_hv x_BadLine_hf (by first | rfl | decide +kernel)⟩
  have T_BadLine : CatC K mg "BadLine" "number" := ⟨PySem.W.mg_of X G (aD b4 10 rfl), exm_self (aD b4 18 rfl) (atB b5 6 rfl) (aD b4 19 rfl) (aD b5 7 rfl), ⟨(aD b4 12 rfl), (aD b4 13 rfl), (aD b4 18 rfl), (atB b5 0 rfl)⟩, (aD b4 14 rfl), ⟨(aD b4 12 rfl), (aD b4 13 rfl), (aD b4 18 rfl), (atB b5 0 rfl), (aD b5 8 rfl), (aD b5 9 rfl), (aD b5 10 rfl), (aD b5 11 rfl)⟩⟩
  have eZ_BadLine_TongueError := cA_eq (aD b5 12 rfl)
  try subst eZ_BadLine_TongueError
  have J_TongueError : mg "TongueError" = some (.ref (cA K "TongueError")) := PySem.W.mg_of X G (aD b5 12 rfl)
  have IS_BadLine_TongueError : IsX K "BadLine" (.ref (cA K "TongueError")) true := ⟨T_BadLine.ec, _, fun _ h => h, (aD b5 13 rfl)⟩
  have IS_BadLine_ValueError : IsX K "BadLine" (.ty "ValueError") true := ⟨T_BadLine.ec, _, fun _ h => h, (aD b5 14 rfl)⟩
  have B_len : mg "len" = none := PySem.W.mg_none_of X G (aD b3 14 rfl)
  have B_all : mg "all" = none := PySem.W.mg_none_of X G (aD b3 15 rfl)
  have B_tuple : mg "tuple" = none := PySem.W.mg_none_of X G (aD b3 16 rfl)
  have B_enumerate : mg "enumerate" = none := PySem.W.mg_none_of X G (aD b3 17 rfl)
  have B_iter : mg "iter" = none := PySem.W.mg_none_of X G (aD b3 18 rfl)
  have B_int : mg "int" = none := PySem.W.mg_none_of X G (aD b3 19 rfl)
  have B_range : mg "range" = none := PySem.W.mg_none_of X G (aD b4 0 rfl)
  have B_isinstance : mg "isinstance" = none := PySem.W.mg_none_of X G (aD b4 1 rfl)
  have B_str : mg "str" = none := PySem.W.mg_none_of X G (aD b4 2 rfl)
  have B_ValueError : mg "ValueError" = none := PySem.W.mg_none_of X G (aD b4 3 rfl)
  have B_bool : mg "bool" = none := PySem.W.mg_none_of X G (aD b4 4 rfl)
  have B_list : mg "list" = none := PySem.W.mg_none_of X G (aD b4 5 rfl)
  have M_LONGEST : ∃ t, mg "LONGEST" = some (Value.int 8 t) := ⟨_, PySem.W.mg_of X G mc0⟩
  have M_SMALL : ∃ t, mg "SMALL" = some (Value.str "abcdefghijklmnopqrstuvwxyz" t) := ⟨_, PySem.W.mg_of X G mc1⟩
  have M_DIGITS : ∃ t, mg "DIGITS" = some (Value.str "0123456789" t) := ⟨_, PySem.W.mg_of X G mc2⟩
  have M_CAPITAL : ∃ t, mg "CAPITAL" = some (Value.str "ABCDEFGHIJKLMNOPQRSTUVWXYZ" t) := ⟨_, PySem.W.mg_of X G mc3⟩
  have D_is_owner : Df K mg "is_owner" s_is_owner := ⟨(cA K "is_owner"), _, fun_mk (st := s_is_owner) l0 c0 (atB b1 14 rfl), PySem.W.mg_of X G (aD b1 13 rfl)⟩
  have D_is_plain : Df K mg "is_plain" s_is_plain := ⟨(cA K "is_plain"), _, fun_mk (st := s_is_plain) l1 c1 (atB b1 16 rfl), PySem.W.mg_of X G (aD b1 15 rfl)⟩
  have D_is_sign : Df K mg "is_sign" s_is_sign := ⟨(cA K "is_sign"), _, fun_mk (st := s_is_sign) l2 c2 (atB b1 18 rfl), PySem.W.mg_of X G (aD b1 17 rfl)⟩
  have D_is_token : Df K mg "is_token" s_is_token := ⟨(cA K "is_token"), _, fun_mk (st := s_is_token) l3 c3 (atB b2 0 rfl), PySem.W.mg_of X G (aD b1 19 rfl)⟩
  have D_parse_rule : Df K mg "parse_rule" s_parse_rule := ⟨(cA K "parse_rule"), _, fun_mk (st := s_parse_rule) l4 c4 (atB b2 2 rfl), PySem.W.mg_of X G (aD b2 1 rfl)⟩
  have D_grouped : Df K mg "grouped" s_grouped := ⟨(cA K "grouped"), _, fun_mk (st := s_grouped) l5 c5 (atB b2 4 rfl), PySem.W.mg_of X G (aD b2 3 rfl)⟩
  have D__law_cell : Df K mg "_law_cell" s__law_cell := ⟨(cA K "_law_cell"), _, fun_mk (st := s__law_cell) l6 c6 (atB b2 6 rfl), PySem.W.mg_of X G (aD b2 5 rfl)⟩
  have D__law_draws : Df K mg "_law_draws" s__law_draws := ⟨(cA K "_law_draws"), _, fun_mk (st := s__law_draws) l7 c7 (atB b2 8 rfl), PySem.W.mg_of X G (aD b2 7 rfl)⟩
  have D__law_name : Df K mg "_law_name" s__law_name := ⟨(cA K "_law_name"), _, fun_mk (st := s__law_name) l8 c8 (atB b2 10 rfl), PySem.W.mg_of X G (aD b2 9 rfl)⟩
  have D__law_rules : Df K mg "_law_rules" s__law_rules := ⟨(cA K "_law_rules"), _, fun_mk (st := s__law_rules) l9 c9 (atB b2 12 rfl), PySem.W.mg_of X G (aD b2 11 rfl)⟩
  have D__law_grouped : Df K mg "_law_grouped" s__law_grouped := ⟨(cA K "_law_grouped"), _, fun_mk (st := s__law_grouped) l10 c10 (atB b2 14 rfl), PySem.W.mg_of X G (aD b2 13 rfl)⟩
  have D__law_same : Df K mg "_law_same" s__law_same := ⟨(cA K "_law_same"), _, fun_mk (st := s__law_same) l11 c11 (atB b2 16 rfl), PySem.W.mg_of X G (aD b2 15 rfl)⟩
  have D__law_all_same : Df K mg "_law_all_same" s__law_all_same := ⟨(cA K "_law_all_same"), _, fun_mk (st := s__law_all_same) l12 c12 (atB b2 18 rfl), PySem.W.mg_of X G (aD b2 17 rfl)⟩
  have D__law_odd : Df K mg "_law_odd" s__law_odd := ⟨(cA K "_law_odd"), _, fun_mk (st := s__law_odd) l13 c13 (atB b3 0 rfl), PySem.W.mg_of X G (aD b2 19 rfl)⟩
  have D_Grammar___init__ : DfE K (cA K "Grammar") "__init__" "Grammar.__init__" s_Grammar___init__ 1 := ⟨(He.ma K (cA K "Grammar") "__init__"), _, ⟨⟨_, _, _, _, _, _, _, _, _, _, rfl, l15, c15, .inr ⟨T15, _, [v15_0], _, rfl, lT15, rfl, rfl, by decide⟩⟩, (atB b3 5 rfl)⟩, (aD b3 3 rfl), (atB b3 4 rfl)⟩
  subst x_v15
  subst x_d15
  have D0_Grammar___init__ : DfE0 K (cA K "Grammar") "Grammar.__init__" s_Grammar___init__ E15 := ⟨(He.ma K (cA K "Grammar") "__init__"), T15, _, _, _, _, _, _, _, _, _, _, _, _, _, l15, c15, lT15, rfl, lE15, rfl, rfl, rfl, (atB b3 5 rfl), (aD b3 3 rfl), (atB b3 4 rfl)⟩
  have D_Grammar_from_string : DfC K (cA K "Grammar") "from_string" "Grammar.from_string" s_Grammar_from_string := ⟨(He.ma K (cA K "Grammar") "from_string"), (recA K (He.ma K (cA K "Grammar") "from_string") "classmethod"), _, ⟨⟨_, _, _, _, _, _, _, _, _, _, rfl, l16, c16, .inl ⟨rfl, rfl⟩⟩, (atB b3 10 rfl)⟩, ⟨(atB b3 8 rfl), (aD b3 9 rfl)⟩, ⟨(getB_ok (atB b3 6 rfl)), ⟨_, y_c16⟩, (atB b3 7 rfl)⟩⟩
  have D_Grammar___iter__ : DfE K (cA K "Grammar") "__iter__" "Grammar.__iter__" s_Grammar___iter__ 0 := ⟨(He.ma K (cA K "Grammar") "__iter__"), _, ⟨⟨_, _, _, _, _, _, _, _, _, _, rfl, l17, c17, .inl ⟨rfl, rfl⟩⟩, (atB b3 13 rfl)⟩, (aD b3 11 rfl), (atB b3 12 rfl)⟩
  have C__law_cell := c__law_cell (P := P0) (w := w) (base := base) D__law_cell B_len B_int
  have C__law_draws := c__law_draws (P := P0) (w := w) (base := base) D__law_draws B_int B_range
  have C__law_name := c__law_name (P := P0) (w := w) (base := base) D__law_name B_int
  have C__law_rules := c__law_rules (P := P0) (w := w) (base := base) D__law_rules B_range B_int B_len B_tuple C__law_draws C__law_name
  have C__law_odd := c__law_odd (P := P0) (w := w) (base := base) D__law_odd B_int
  have C_is_owner := c_is_owner (P := P0) (w := w) (base := base) D_is_owner B_len B_all M_LONGEST M_SMALL
  have C_is_plain := c_is_plain (P := P0) (w := w) (base := base) D_is_plain B_len B_all M_LONGEST M_DIGITS M_SMALL M_CAPITAL
  have C_is_sign := c_is_sign (P := P0) (w := w) (base := base) D_is_sign B_len C_is_owner C_is_plain
  have C_is_token := c_is_token (P := P0) (w := w) (base := base) D_is_token M_SMALL
  have C_parse_rule := c_parse_rule (P := P0) (w := w) (base := base) D_parse_rule B_len B_all B_tuple C_is_sign C_is_token
  have C_grouped := c_grouped (P := P0) (w := w) (base := base) D_grouped 
  have H_grouped : CalH P0 w K mg base CX0 "grouped" 1 p_grouped (sp_grouped K) := ch_grouped D_grouped 
  have I_Grammar := (c_Grammar___init__ (P := P0) (w := w) (base := base) D_Grammar___init__ K_Grammar N_Grammar_rows C_grouped).1
  have IH0_Grammar : ∃ d, CalDH P0 w K mg base (cA K "Grammar") 2 p_Grammar___init__ (sp_Grammar___init__ K) d := ⟨_, ch_Grammar___init__ D0_Grammar___init__ K_Grammar N_Grammar_rows H_grouped⟩
  have I0_Grammar : ∃ d, CalD P0 w K mg base (cA K "Grammar") 2 p_Grammar___init__ (sp_Grammar___init__ K) d := ⟨_, (c_Grammar___init__ D_Grammar___init__ K_Grammar N_Grammar_rows C_grouped).2 _ D0_Grammar___init__⟩
  have CM_Grammar_from_string := c_Grammar_from_string (P := P0) (w := w) (base := base) D_Grammar_from_string B_enumerate K_Grammar I_Grammar E_BadLine C_parse_rule
  have C__law_grouped := c__law_grouped (P := P0) (w := w) (base := base) D__law_grouped 
  have Y_Grammar : ItOk P0 w K mg base (cA K "Grammar") "rows" := c_Grammar___iter__ D_Grammar___iter__ K_Grammar.cl N_Grammar_rows B_iter
  have C__law_same := c__law_same (P := P0) (w := w) (base := base) D__law_same B_tuple B_isinstance B_len B_str
  have C__law_all_same := c__law_all_same (P := P0) (w := w) (base := base) D__law_all_same B_len B_range C__law_same
  exact c_law (fun_mk (st := s_law) l14 c14 (atB b3 2 rfl)) B_len B_int B_range B_isinstance B_ValueError B_bool B_list K_Grammar CM_Grammar_from_string IH0_Grammar Y_Grammar L_Grammar T_BadLine IS_BadLine_TongueError J_TongueError IS_BadLine_ValueError C__law_cell C__law_rules C__law_draws C__law_odd C__law_grouped C__law_all_same
end
end Gt
open PySem PySem.W PySem.Calls PyProof.Rows in
set_option maxRecDepth 100000 in
set_option maxHeartbeats 0 in
theorem PySem.Challenge.cw_guesttongues_k04_bad_lines_holds : PySem.Challenge.rw_guesttongues_k04_bad_lines.Holds := by
  refine Gt.headR ?_
  refine L2.walk_ofE (l := PySem.Challenge.rw_guesttongues_k04_bad_lines) (n := 63) (k := 5) (x := "_law_script") (CX := L2.CX0) rfl (by decide) (by kernel_rfl) ⟨rfl, by decide, by decide⟩ ?F (fun _ _ _ _ z => z)
  intro w mg fa h Y G hmg0
  obtain ⟨K, KX, c⟩ := Y
  have e : (HandSHeadRun.topDef Gt.R0.prog 27).name = ("law" : PySem.Str) := by kernel_rfl
  rw [e] at hmg0
  obtain ⟨fd, hb, hF⟩ := Gt.heads (w := w) KX G hmg0 c
  exact ⟨K, fd, Gt.sp_law K, KX, hb, fun H a ns hl _ hS => ⟨(ns, ()), true, ⟨_, _, rfl, ⟨a, _, rfl, hS, Gt.A2.of_map _⟩, rfl⟩, Gt.law_ok ns, fun v H' _ z => z⟩, hF⟩
#print axioms PySem.Challenge.cw_guesttongues_k04_bad_lines_holds
