import PyProof.Rows.All
import Wide.All
import OpenK.AllK
import Wide.FinOn
import HandS.ForMost
import HandS.Evl
import HandS.IsInst
import HandS.Deep
import PyProof.StrLawsLast
import PyProof.StrLawsFirst
import HandS.IterVal
import HandS.OwnEq
import HandS.OwnIter
import HandS.SlotsOwn
import KE.KOpsOwn
import HandS.TupAny
import PyProof.P3In
import HandS.Defaults
import PyProof.StrOps2
import KE.KExcSuper
import HandS.Exc
import HandS.ExcOwn
import HandS.TryOnly
import HandS.ExcField
import HandS.ExcIs
import HandS.WordsExc
import HandS.ExcCtx
import HandS.Star
import HandS.Property
import KE.KCallOwn
import HandS.IterNext
import KE.GoesEnumKw
import HandS.Iter
import HandS.ClsMeth
import HandS.Strs
import HandS.SetFor
import PyProof.Rows.SortShellAny
import HandS.RaiseMore
import HandS.TryMany
import HandS.NoneIn
import HandS.FStr
import HandS.StrMore
import PyProof.FString3
import HandS.DictEq
import PyProof.EqLayable
import HandS.List
import HandS.RevTup
import HandS.Rev
import HandS.Style
import PyProof.EqAt
import PyProof.EqKinds
import HandS.MakeKwOnly
import HandS.DictComp
import KE.KStateDown
import HandS.Head0
import HandS.Head1
import HandS.Head2
import HandS.HeadEnd
import HandS.HeadHook1
import HandS.HeadHook2
import HandS.ExcInit
import HandS.HotCalls
import HandS.Flow
import HandS.TupLen
import HandS.RaiseFrom
import HandS.ExcValue
import HandS.GenCall
import HandS.GenList
import PySem.Challenge.RW_guesttongues_k47_errors
set_option Elab.async false
set_option linter.all false
set_option maxRecDepth 100000
set_option maxHeartbeats 4000000
namespace Gt
open PySem PySem.Spec PyProof.Rows L2
section
open PySem PySem.Spec PyProof.Rows L2
def refsY (o : Obj) : List Addr := (match o.dict with
  | some d => [d]
  | none => []) ++ match o.data with
  | .seq its _ => its.toList.flatMap He.refV
  | .dict es _ => es.toList.flatMap fun e => He.refV e.val
  | .func fd => He.refV fd.code ++ He.refV fd.defaults ++ He.refV fd.kwdefaults ++ fd.closure.map (·.2)
  | .cls cd => [cd.ns]
  | .fields vs => vs.toList.flatMap He.refV
  | .cell (some v) => He.refV v
  | _ => []
def lvY (g : Addr → Option Obj) (as : List Addr) : List Addr := as.flatMap fun a => match g a with
  | some o => refsY o
  | none => []
def asY (g : Addr → Option Obj) : Nat → List Addr → List Addr
  | 0, as => as
  | n + 1, as => as ++ asY g n (lvY g as)
def fdOf (K : PySem.W.Frag) (a : Addr) : Option FuncData := match K.lookup a with
  | some ⟨_, _, .func fd, _⟩ => some fd
  | _ => none
abbrev FnY : Type := Option (Str × Str × Arguments × FuncBody × Scope × Addr × List Str × Addr)
def fnY (K : PySem.W.Frag) (a : Addr) : FnY := (fdOf K a).map fun fd => (fd.name, fd.qualname, fd.params, fd.body, fd.scope, fd.globals, fd.closure.map (·.1), fd.builtins)
structure FnAt where
  at_ : PySem.W.Frag → Addr
  name : Str
  qual : Str
  params : Arguments
  body : List Stmt
  scope : Scope
  clo : List Str
def FnAt.val (d : FnAt) : FnY := some (d.name, d.qual, d.params, .stmts d.body, d.scope, mainGlobals, d.clo, builtinsNs)
abbrev AlY : Type := Bool × List FnY
def obsY (ok : PySem.W.Frag → Bool) (fn : List FnAt) (K : PySem.W.Frag) : AlY := (ok K, fn.map fun d => fnY K (d.at_ K))
def valY (fn : List FnAt) : AlY := (true, fn.map FnAt.val)
def SaysY (ok : PySem.W.Frag → Bool) (fn : List FnAt) (K : PySem.W.Frag) : Prop := obsY ok fn K = valY fn
def obsYG (n : Nat) (ok : PySem.W.Frag → Bool) (fn : List FnAt) (g : Addr → Option Obj) : AlY := obsY ok fn (He.frG g (cStatics :: asY g n [mainGlobals]))
def hookY (n : Nat) (ok : PySem.W.Frag → Bool) (fn : List FnAt) : PySem.W.Hook where
  α := AlY
  obs := fun s => obsYG n ok fn s.heap.get?
  val := fun _ => valY fn
  says := fun _ h => ∃ K : PySem.W.Frag, K.In h ∧ SaysY ok fn K
  of := fun _ _ e => ⟨_, He.frG_in, e⟩
  keeps := fun _ _ _ ⟨K, hK, c⟩ k => ⟨K, PySem.W.Frag.In.keeps hK k, c⟩
theorem obsYG_eq {n : Nat} {ok : PySem.W.Frag → Bool} {fn : List FnAt} {g : Addr → Option Obj} {s : Shared} (h : ∀ a, g a = s.heap.get? a) : obsYG n ok fn g = (hookY n ok fn).obs s := by
  have e : g = s.heap.get? := funext h
  rw [e] <;> rfl
section
variable {fn : List FnAt} {K : PySem.W.Frag} {f C : Addr}
theorem atB {l : List Bool} {b : Bool} (h : l.all id = true) (i : Nat) (e : l[i]? = some b) : b = true := List.all_eq_true.mp h b (List.mem_of_getElem? e)
theorem SaysY.fact {fa : PySem.W.Frag → List Bool} (c : SaysY (fun K => (fa K).all id) fn K) {b : Bool} (i : Nat) (h : (fa K)[i]? = some b) : b = true := by
  have c1 : (fa K).all id = true := congrArg (fun z : AlY => z.1) c
  exact List.all_eq_true.mp c1 b (List.mem_of_getElem? h)
theorem SaysY.dat {ok : PySem.W.Frag → Bool} (c : SaysY ok fn K) {d : FnAt} (i : Nat) (h : fn[i]? = some d) : fnY K (d.at_ K) = d.val := by
  have e : fn.map (fun d => fnY K (d.at_ K)) = fn.map FnAt.val := congrArg (fun z : AlY => z.2) c
  have e2 : (fn.map fun d => fnY K (d.at_ K))[i]? = (fn.map FnAt.val)[i]? := by rw [e]
  rw [List.getElem?_map, List.getElem?_map, h] at e2
  exact Option.some.inj e2
theorem fdOf_at {fd : FuncData} (h : fdOf K f = some fd) : ∃ oc od sl, K.lookup f = some ⟨oc, od, .func fd, sl⟩ := by
  unfold fdOf at h
  cases q : K.lookup f with
  | none => rw [q] at h; cases h
  | some o =>
    obtain ⟨oc, od, dt, sl⟩ := o
    rw [q] at h
    cases dt with
    | func fd' => cases h; exact ⟨oc, od, sl, rfl⟩
    | _ => cases h
def fdB (K : PySem.W.Frag) (f : Addr) (p : FuncData → Bool) : Bool := match fdOf K f with
  | some fd => p fd
  | none => false
def isNon : Value → Bool
  | .none => true
  | _ => false
theorem isNon_ok {v : Value} (h : isNon v = true) : v = .none := by cases v <;> first | rfl | cases h
section
variable {d : FnAt}
theorem fn_at (e : fnY K (d.at_ K) = d.val) (hc : d.clo = []) : ∃ dV kV doc pm an cdv ct, fdOf K (d.at_ K) = some (PySem.W.fnOf d.name d.qual d.params d.body d.scope dV kV doc pm an cdv ct) := by
  unfold fnY FnAt.val at e
  cases q : fdOf K (d.at_ K) with
  | none => rw [q] at e; cases e
  | some fd =>
    obtain ⟨n1, n2, n3, n4, n5, n6, n7, n8, n9, n10, n11, n12, n13, n14, n15⟩ := fd
    rw [q, hc] at e
    have e2 : (some (n1, n2, n3, n4, n5, n6, n7.map (·.1), n15) : FnY) = some (d.name, d.qual, d.params, .stmts d.body, d.scope, mainGlobals, [], builtinsNs) := e
    simp only [Option.some.injEq, Prod.mk.injEq, List.map_eq_nil_iff] at e2
    obtain ⟨h1, h2, h3, h4, h5, h6, h7, h8⟩ := e2
    subst h1 h2 h3 h4 h5 h6 h7 h8
    exact ⟨n8, n9, n10, n11, n12, n13, n14, rfl⟩
def okF0 (K : PySem.W.Frag) (q : Str) (fd : FuncData) : Bool := isNon fd.defaults && PySem.W.codeIn K fd.code q
theorem fn_0 (e : fnY K (d.at_ K) = d.val) (hc : d.clo = []) (b : fdB K (d.at_ K) (okF0 K d.qual) = true) :
    ∃ oc od kV doc pm an cdv ct sl, K.lookup (d.at_ K) = some ⟨oc, od, .func (PySem.W.fnOf d.name d.qual d.params d.body d.scope .none kV doc pm an cdv ct), sl⟩ ∧ PySem.W.codeIn K cdv d.qual = true := by
  obtain ⟨dV, kV, doc, pm, an, cdv, ct, h⟩ := fn_at e hc
  unfold fdB at b
  rw [h] at b
  obtain ⟨b1, b2⟩ := He.ba (show (isNon dV && PySem.W.codeIn K cdv d.qual) = true from b)
  cases isNon_ok b1
  obtain ⟨oc, od, sl, l⟩ := fdOf_at h
  exact ⟨oc, od, kV, doc, pm, an, cdv, ct, sl, l, b2⟩
def kwN (K : PySem.W.Frag) (kn : Str) : Value → Bool
  | .ref D => decide (PySem.W.nsIn K D kn = some (some .none))
  | _ => false
def okFK (K : PySem.W.Frag) (q kn : Str) (fd : FuncData) : Bool := isNon fd.defaults && (PySem.W.codeIn K fd.code q && kwN K kn fd.kwdefaults)
theorem fn_K {kn : Str} (e : fnY K (d.at_ K) = d.val) (hc : d.clo = []) (b : fdB K (d.at_ K) (okFK K d.qual kn) = true) :
    ∃ oc od D doc pm an cdv ct sl, K.lookup (d.at_ K) = some ⟨oc, od, .func (PySem.W.fnOf d.name d.qual d.params d.body d.scope .none (.ref D) doc pm an cdv ct), sl⟩ ∧ PySem.W.codeIn K cdv d.qual = true ∧ PySem.W.nsIn K D kn = some (some .none) := by
  obtain ⟨dV, kV, doc, pm, an, cdv, ct, h⟩ := fn_at e hc
  unfold fdB at b
  rw [h] at b
  obtain ⟨b1, b2⟩ := He.ba (show (isNon dV && (PySem.W.codeIn K cdv d.qual && kwN K kn kV)) = true from b)
  obtain ⟨c2, c3⟩ := He.ba b2
  clear b b2
  cases isNon_ok b1
  obtain ⟨oc, od, sl, l⟩ := fdOf_at h
  cases kV with
  | ref D => exact ⟨oc, od, D, doc, pm, an, cdv, ct, sl, l, c2, of_decide_eq_true c3⟩
  | _ => cases c3
theorem fn_clo (e : fnY K (d.at_ K) = d.val) (hc : d.clo = [("__class__" : Str)]) : ∃ dV kV doc pm an cdv ct cc, fdOf K (d.at_ K) = some (PySem.W.ksFn d.name d.qual d.params d.body d.scope dV kV doc pm an cdv ct cc) := by
  unfold fnY FnAt.val at e
  cases q : fdOf K (d.at_ K) with
  | none => rw [q] at e; cases e
  | some fd =>
    obtain ⟨n1, n2, n3, n4, n5, n6, n7, n8, n9, n10, n11, n12, n13, n14, n15⟩ := fd
    rw [q, hc] at e
    have e2 : (some (n1, n2, n3, n4, n5, n6, n7.map (·.1), n15) : FnY) = some (d.name, d.qual, d.params, .stmts d.body, d.scope, mainGlobals, [("__class__" : Str)], builtinsNs) := e
    simp only [Option.some.injEq, Prod.mk.injEq] at e2
    obtain ⟨h1, h2, h3, h4, h5, h6, h7, h8⟩ := e2
    match n7, h7 with
    | [(x, cc)], h7 =>
      have hx : x = "__class__" := by simpa using h7
      subst h1 h2 h3 h4 h5 h6 h8 hx
      exact ⟨n8, n9, n10, n11, n12, n13, n14, cc, rfl⟩
def fileB (pf : Str) : Option Value → Bool
  | some (.str file _) => pf == file
  | _ => false
theorem fileB_ok {pf : Str} {o : Option Value} (h : fileB pf o = true) : ∃ file tf, o = some (.str file tf) ∧ (pf == file) = true := by
  unfold fileB at h
  split at h
  · rename_i file tf; exact ⟨file, tf, rfl, h⟩
  · cases h
def fldsB (pf : Str) : Option Obj → Bool
  | some ⟨_, _, .fields vs, _⟩ => fileB pf vs[2]?
  | _ => false
theorem fldsB_ok {pf : Str} {o : Option Obj} (h : fldsB pf o = true) : ∃ c d vs s file tf, o = some ⟨c, d, .fields vs, s⟩ ∧ vs[2]? = some (.str file tf) ∧ (pf == file) = true := by
  unfold fldsB at h
  split at h
  · rename_i c d vs s
    obtain ⟨file, tf, h1, h2⟩ := fileB_ok h
    exact ⟨c, d, vs, s, file, tf, rfl, h1, h2⟩
  · cases h
def codeB (K : PySem.W.Frag) (pf q : Str) : Value → Bool
  | .ref cd => PySem.W.codeIn K (.ref cd) q && fldsB pf (K.lookup cd)
  | _ => false
def cellB (C : Addr) : Option Obj → Bool
  | some ⟨_, _, .cell (some v), _⟩ => decide (v = .ref C)
  | _ => false
theorem cellB_ok {o : Option Obj} (h : cellB C o = true) : ∃ c d s, o = some ⟨c, d, .cell (some (.ref C)), s⟩ := by
  unfold cellB at h
  split at h
  · rename_i c d v s
    cases of_decide_eq_true h
    exact ⟨c, d, s, rfl⟩
  · cases h
def closB (K : PySem.W.Frag) (C : Addr) : List (Str × Addr) → Bool
  | [(_, cc)] => cellB C (K.lookup cc)
  | _ => false
def okFX (K : PySem.W.Frag) (pf q : Str) (C : Addr) (fd : FuncData) : Bool := isNon fd.defaults && (isNon fd.kwdefaults && (codeB K pf q fd.code && closB K C fd.closure))
theorem fn_X {pf : Str} (e : fnY K (d.at_ K) = d.val) (hc : d.clo = [("__class__" : Str)]) (b : fdB K (d.at_ K) (okFX K pf d.qual C) = true) :
    ∃ oc od doc pm an cd ct cc sl cl cld csl cl2 cld2 vs csl2 file tf, K.lookup (d.at_ K) = some ⟨oc, od, .func (PySem.W.ksFn d.name d.qual d.params d.body d.scope .none .none doc pm an (.ref cd) ct cc), sl⟩ ∧ PySem.W.codeIn K (.ref cd) d.qual = true ∧
      K.lookup cc = some ⟨cl, cld, .cell (some (.ref C)), csl⟩ ∧ K.lookup cd = some ⟨cl2, cld2, .fields vs, csl2⟩ ∧ vs[2]? = some (.str file tf) ∧ (pf == file) = true := by
  obtain ⟨dV, kV, doc, pm, an, cdv, ct, cc, h⟩ := fn_clo e hc
  unfold fdB at b
  rw [h] at b
  obtain ⟨b1, b2⟩ := He.ba (show (isNon dV && (isNon kV && (codeB K pf d.qual cdv && cellB C (K.lookup cc)))) = true from b)
  obtain ⟨b2, b3⟩ := He.ba b2
  obtain ⟨b3, b4⟩ := He.ba b3
  cases isNon_ok b1
  cases isNon_ok b2
  obtain ⟨oc, od, sl, l⟩ := fdOf_at h
  cases cdv with
  | ref cd =>
    obtain ⟨b5, b6⟩ := He.ba (show (PySem.W.codeIn K (.ref cd) d.qual && fldsB pf (K.lookup cd)) = true from b3)
    obtain ⟨cl2, cld2, vs, csl2, file, tf, q2, q3, q4⟩ := fldsB_ok b6
    obtain ⟨cl, cld, csl, q5⟩ := cellB_ok b4
    exact ⟨oc, od, doc, pm, an, cd, ct, cc, sl, cl, cld, csl, cl2, cld2, vs, csl2, file, tf, l, b5, q5, q2, q3, q4⟩
  | _ => cases b3
end
def okC (K : PySem.W.Frag) (C : Addr) : Bool := match K.lookup C with
  | some ⟨.type "type", _, .cls cd, sl⟩ => (match cd.mro, sl.toList with
    | .ref C' :: bm, [_, _, _, _, some (.builtin n), _] => decide (C' = C) && (n == "ValueError.__new__" && (!cd.hasDel && (cd.hasDict && PySem.HandSPX.refsVE bm)))
    | _, _ => false)
  | _ => false
theorem okC_at (h : okC K C = true) : ∃ nm q N bs bm sn sub ab col dd k0 k1 k2 k3 k5, K.lookup C = some (excClassObj nm q C N bs bm true sn sub ab col dd k0 k1 k2 k3 k5 "ValueError.__new__") ∧ PySem.HandSPX.refsVE bm = true := by
  unfold okC at h
  split at h
  · rename_i dd cd sl ho
    split at h
    · rename_i C' bm k0 k1 k2 k3 n k5 hm hs
      simp only [Bool.and_eq_true, beq_iff_eq, Bool.not_eq_true', decide_eq_true_eq] at h
      obtain ⟨h1, h2, h3, h4, h5⟩ := h
      obtain ⟨nm, bs, mro, ns, qn, hd, sn, sub, ab, col, del⟩ := cd
      dsimp only at hm h3 h4
      subst hm h1 h2 h3 h4
      have hsl : sl = #[k0, k1, k2, k3, some (.builtin "ValueError.__new__"), k5] := by
        obtain ⟨l⟩ := sl
        have hs : l = _ := hs
        rw [hs]
      subst hsl
      exact ⟨nm, qn, ns, bs, bm, sn, sub, ab, col, dd, k0, k1, k2, k3, k5, ho, h5⟩
    · cases h
  · cases h
def strB (K : PySem.W.Frag) (x z : Str) : Bool := match PySem.W.nsIn K mainGlobals x with
  | some (some (.str y _)) => decide (y = z)
  | _ => false
theorem strB_ok {x z : Str} (h : strB K x z = true) : ∃ t, PySem.W.nsIn K mainGlobals x = some (some (.str z t)) := by
  unfold strB at h
  split at h
  · rename_i y t q
    cases of_decide_eq_true h
    exact ⟨t, q⟩
  · cases h
def intB (K : PySem.W.Frag) (x : Str) (i : Int) : Bool := match PySem.W.nsIn K mainGlobals x with
  | some (some (.int y _)) => decide (y = i)
  | _ => false
theorem intB_ok {x : Str} {i : Int} (h : intB K x i = true) : ∃ t, PySem.W.nsIn K mainGlobals x = some (some (.int i t)) := by
  unfold intB at h
  split at h
  · rename_i y t q
    cases of_decide_eq_true h
    exact ⟨t, q⟩
  · cases h
def valB (K : PySem.W.Frag) (C : Addr) (x : Str) (f : Addr) : Bool := match PySem.W.findCls K (.ref C) (.type "type") x with
  | some (.val v) => decide (v = .ref f)
  | _ => false
theorem valB_ok {x : Str} (h : valB K C x f = true) : PySem.W.findCls K (.ref C) (.type "type") x = some (.val (.ref f)) := by
  unfold valB at h
  split at h
  · rename_i v q
    rw [q, of_decide_eq_true h]
  · cases h
end
end
section
theorem runEq3 {r : PySem.W.OpenRow} {q : Program} {n M : Nat} {fn : List FnAt} {f fa fb fc : PySem.W.Frag → List Bool} {loose : List PySem.Str} {w : World} {ob oa obb oc : PySem.W.SharedT → AlY}
    (e : ∀ K, f K = fa K ++ (fb K ++ fc K)) (eo : ∀ s, ob s = obsYG n (fun K => (f K).all id) fn (HandSHeadRun.getT s)) (ea : ∀ s, oa s = obsYG n (fun K => (fa K).all id) fn (HandSHeadRun.getT s))
    (eb : ∀ s, obb s = obsYG n (fun K => (fb K).all id) [] (HandSHeadRun.getT s)) (ec : ∀ s, oc s = obsYG n (fun K => (fc K).all id) [] (HandSHeadRun.getT s))
    (ha : HandSHeadRun.RunEq r q (hookY n (fun K => (fa K).all id) fn) oa M loose w) (hb : HandSHeadRun.RunEq r q (hookY n (fun K => (fb K).all id) []) obb M loose w) (hc : HandSHeadRun.RunEq r q (hookY n (fun K => (fc K).all id) []) oc M loose w) :
    HandSHeadRun.RunEq r q (hookY n (fun K => (f K).all id) fn) ob M loose w := by
  intro os
  have za := ha os
  have zb := hb os
  have zc := hc os
  generalize HandSHeadRun.endF _ M r.prog w os = o at za zb zc ⊢
  cases o with
  | none => exact nomatch za
  | some s =>
    have za := Option.some.inj za
    have zb := Option.some.inj zb
    have zc := Option.some.inj zc
    have b1 : oa s = valY fn := congrArg (fun z => z.2.2) za
    have b2 : obb s = valY [] := congrArg (fun z => z.2.2) zb
    have b3 : oc s = valY [] := congrArg (fun z => z.2.2) zc
    rw [ea] at b1
    rw [eb] at b2
    rw [ec] at b3
    have c0 : ob s = valY fn := by
      rw [eo]
      unfold obsYG obsY valY at b1 b2 b3 ⊢
      have t1 := congrArg Prod.fst b1
      have t2 := congrArg Prod.fst b2
      have t3 := congrArg Prod.fst b3
      have t4 := congrArg Prod.snd b1
      refine Prod.ext ?_ t4
      show (f _).all id = true
      rw [e, List.all_append, List.all_append]
      have t1 : (fa _).all id = true := t1
      have t2 : (fb _).all id = true := t2
      have t3 : (fc _).all id = true := t3
      rw [t1, t2, t3]
      rfl
    have h2 : ob s = oa s := by rw [c0, ea, b1]
    show some (_, _, ob s) = _
    rw [h2]
    exact congrArg some za
end
section
def topS (i : Nat) : Stmt := PySem.Challenge.pw_guesttongues_k47_errors.main.body.getD i (.Pass ⟨0, 0, 0, 0⟩)
abbrev s_is_owner : Stmt := topS 18
abbrev s_owner : Stmt := topS 19
abbrev s_is_token : Stmt := topS 20
abbrev s_distinct_v1 : Stmt := topS 23
abbrev s_finished_names : Stmt := topS 29
abbrev s_reached_names : Stmt := topS 30
abbrev s_is_own_head : Stmt := topS 32
abbrev s_check_signs : Stmt := topS 33
abbrev s_has_mark : Stmt := topS 34
abbrev s_check_marks : Stmt := topS 35
abbrev s_check_own : Stmt := topS 36
abbrev s__law_cell : Stmt := topS 39
abbrev s__law_draws : Stmt := topS 40
abbrev s__law_word : Stmt := topS 41
abbrev s__law_shown : Stmt := topS 43
abbrev s__law_raised : Stmt := topS 44
abbrev s_law : Stmt := topS 45
abbrev s_Named_init_Extension : Stmt := inClass (topS 25) 0
abbrev s_Ruled_init_Extension : Stmt := inClass (topS 26) 0
abbrev s_Extension___init__ : Stmt := inClass (topS 37) 0
abbrev s_BadLine___init__ : Stmt := inClass (topS 9) 0
abbrev s_BadMark___init__ : Stmt := inClass (topS 10) 0
abbrev s_BadMend___init__ : Stmt := inClass (topS 11) 0
abbrev s_BadName___init__ : Stmt := inClass (topS 3) 0
abbrev s_Clash___init__ : Stmt := inClass (topS 12) 0
abbrev s_Hollow___init__ : Stmt := inClass (topS 6) 0
abbrev s_NoRule___init__ : Stmt := inClass (topS 4) 0
abbrev s_Refused___init__ : Stmt := inClass (topS 13) 0
abbrev s_SameName___init__ : Stmt := inClass (topS 7) 0
abbrev s_UnknownName___init__ : Stmt := inClass (topS 8) 0
abbrev s_Useless___init__ : Stmt := inClass (topS 5) 0
abbrev s_WrongToken___init__ : Stmt := inClass (topS 14) 0
def dt0 : FnAt := ⟨fun K => (He.ga K "is_owner"), "is_owner", "is_owner", defArgs s_is_owner, defBody s_is_owner, defScope s_is_owner, []⟩
def dt1 : FnAt := ⟨fun K => (He.ga K "owner"), "owner", "owner", defArgs s_owner, defBody s_owner, defScope s_owner, []⟩
def dt2 : FnAt := ⟨fun K => (He.ga K "is_token"), "is_token", "is_token", defArgs s_is_token, defBody s_is_token, defScope s_is_token, []⟩
def dt3 : FnAt := ⟨fun K => (He.ga K "distinct"), "distinct", "distinct", defArgs s_distinct_v1, defBody s_distinct_v1, defScope s_distinct_v1, []⟩
def dt4 : FnAt := ⟨fun K => (He.ga K "finished_names"), "finished_names", "finished_names", defArgs s_finished_names, defBody s_finished_names, defScope s_finished_names, []⟩
def dt5 : FnAt := ⟨fun K => (He.ga K "reached_names"), "reached_names", "reached_names", defArgs s_reached_names, defBody s_reached_names, defScope s_reached_names, []⟩
def dt6 : FnAt := ⟨fun K => (He.ga K "is_own_head"), "is_own_head", "is_own_head", defArgs s_is_own_head, defBody s_is_own_head, defScope s_is_own_head, []⟩
def dt7 : FnAt := ⟨fun K => (He.ga K "check_signs"), "check_signs", "check_signs", defArgs s_check_signs, defBody s_check_signs, defScope s_check_signs, []⟩
def dt8 : FnAt := ⟨fun K => (He.ga K "has_mark"), "has_mark", "has_mark", defArgs s_has_mark, defBody s_has_mark, defScope s_has_mark, []⟩
def dt9 : FnAt := ⟨fun K => (He.ga K "check_marks"), "check_marks", "check_marks", defArgs s_check_marks, defBody s_check_marks, defScope s_check_marks, []⟩
def dt10 : FnAt := ⟨fun K => (He.ga K "check_own"), "check_own", "check_own", defArgs s_check_own, defBody s_check_own, defScope s_check_own, []⟩
def dt11 : FnAt := ⟨fun K => (He.ga K "_law_cell"), "_law_cell", "_law_cell", defArgs s__law_cell, defBody s__law_cell, defScope s__law_cell, []⟩
def dt12 : FnAt := ⟨fun K => (He.ga K "_law_draws"), "_law_draws", "_law_draws", defArgs s__law_draws, defBody s__law_draws, defScope s__law_draws, []⟩
def dt13 : FnAt := ⟨fun K => (He.ga K "_law_word"), "_law_word", "_law_word", defArgs s__law_word, defBody s__law_word, defScope s__law_word, []⟩
def dt14 : FnAt := ⟨fun K => (He.ga K "_law_shown"), "_law_shown", "_law_shown", defArgs s__law_shown, defBody s__law_shown, defScope s__law_shown, []⟩
def dt15 : FnAt := ⟨fun K => (He.ga K "_law_raised"), "_law_raised", "_law_raised", defArgs s__law_raised, defBody s__law_raised, defScope s__law_raised, []⟩
def dt16 : FnAt := ⟨fun K => (He.ga K "law"), "law", "law", defArgs s_law, defBody s_law, defScope s_law, []⟩
def dt17 : FnAt := ⟨fun K => (He.ma K (He.ga K "Named") "__init__"), "__init__", "Named.__init__", defArgs s_Named_init_Extension, defBody s_Named_init_Extension, defScope s_Named_init_Extension, []⟩
def dt18 : FnAt := ⟨fun K => (He.ma K (He.ga K "Ruled") "__init__"), "__init__", "Ruled.__init__", defArgs s_Ruled_init_Extension, defBody s_Ruled_init_Extension, defScope s_Ruled_init_Extension, []⟩
def dt19 : FnAt := ⟨fun K => (He.ma K (He.ga K "Extension") "__init__"), "__init__", "Extension.__init__", defArgs s_Extension___init__, defBody s_Extension___init__, defScope s_Extension___init__, []⟩
def dt20 : FnAt := ⟨fun K => (He.ma K (He.ga K "BadLine") "__init__"), "__init__", "BadLine.__init__", defArgs s_BadLine___init__, defBody s_BadLine___init__, defScope s_BadLine___init__, ["__class__"]⟩
def dt21 : FnAt := ⟨fun K => (He.ma K (He.ga K "BadMark") "__init__"), "__init__", "BadMark.__init__", defArgs s_BadMark___init__, defBody s_BadMark___init__, defScope s_BadMark___init__, ["__class__"]⟩
def dt22 : FnAt := ⟨fun K => (He.ma K (He.ga K "BadMend") "__init__"), "__init__", "BadMend.__init__", defArgs s_BadMend___init__, defBody s_BadMend___init__, defScope s_BadMend___init__, ["__class__"]⟩
def dt23 : FnAt := ⟨fun K => (He.ma K (He.ga K "BadName") "__init__"), "__init__", "BadName.__init__", defArgs s_BadName___init__, defBody s_BadName___init__, defScope s_BadName___init__, ["__class__"]⟩
def dt24 : FnAt := ⟨fun K => (He.ma K (He.ga K "Clash") "__init__"), "__init__", "Clash.__init__", defArgs s_Clash___init__, defBody s_Clash___init__, defScope s_Clash___init__, ["__class__"]⟩
def dt25 : FnAt := ⟨fun K => (He.ma K (He.ga K "Hollow") "__init__"), "__init__", "Hollow.__init__", defArgs s_Hollow___init__, defBody s_Hollow___init__, defScope s_Hollow___init__, ["__class__"]⟩
def dt26 : FnAt := ⟨fun K => (He.ma K (He.ga K "NoRule") "__init__"), "__init__", "NoRule.__init__", defArgs s_NoRule___init__, defBody s_NoRule___init__, defScope s_NoRule___init__, ["__class__"]⟩
def dt27 : FnAt := ⟨fun K => (He.ma K (He.ga K "Refused") "__init__"), "__init__", "Refused.__init__", defArgs s_Refused___init__, defBody s_Refused___init__, defScope s_Refused___init__, ["__class__"]⟩
def dt28 : FnAt := ⟨fun K => (He.ma K (He.ga K "SameName") "__init__"), "__init__", "SameName.__init__", defArgs s_SameName___init__, defBody s_SameName___init__, defScope s_SameName___init__, ["__class__"]⟩
def dt29 : FnAt := ⟨fun K => (He.ma K (He.ga K "UnknownName") "__init__"), "__init__", "UnknownName.__init__", defArgs s_UnknownName___init__, defBody s_UnknownName___init__, defScope s_UnknownName___init__, ["__class__"]⟩
def dt30 : FnAt := ⟨fun K => (He.ma K (He.ga K "Useless") "__init__"), "__init__", "Useless.__init__", defArgs s_Useless___init__, defBody s_Useless___init__, defScope s_Useless___init__, ["__class__"]⟩
def dt31 : FnAt := ⟨fun K => (He.ma K (He.ga K "WrongToken") "__init__"), "__init__", "WrongToken.__init__", defArgs s_WrongToken___init__, defBody s_WrongToken___init__, defScope s_WrongToken___init__, ["__class__"]⟩
def dts : List FnAt := [dt0, dt1, dt2, dt3, dt4, dt5, dt6, dt7, dt8, dt9, dt10, dt11, dt12, dt13, dt14, dt15, dt16, dt17, dt18, dt19, dt20, dt21, dt22, dt23, dt24, dt25, dt26, dt27, dt28, dt29, dt30, dt31]
abbrev P0 : Program := PySem.Challenge.rw_guesttongues_k47_errors.prog
theorem aD {l : List Bool} {p : Prop} [Decidable p] (h : l.all id = true) (i : Nat) (e : l[i]? = some (decide p)) : p := of_decide_eq_true (atB h i e)
abbrev R0 : PySem.W.OpenRow := PySem.W.OpenLaw.row PySem.Challenge.rw_guesttongues_k47_errors
def gb0 (K : PySem.W.Frag) : List Bool := [fdB K (He.ga K "is_owner") (okF0 K "is_owner"),
  fdB K (He.ga K "owner") (okF0 K "owner"),
  fdB K (He.ga K "is_token") (okF0 K "is_token"),
  fdB K (He.ga K "distinct") (okF0 K "distinct"),
  fdB K (He.ga K "finished_names") (okF0 K "finished_names"),
  fdB K (He.ga K "reached_names") (okF0 K "reached_names"),
  fdB K (He.ga K "is_own_head") (okF0 K "is_own_head"),
  fdB K (He.ga K "check_signs") (okF0 K "check_signs"),
  fdB K (He.ga K "has_mark") (okF0 K "has_mark"),
  fdB K (He.ga K "check_marks") (okF0 K "check_marks"),
  fdB K (He.ga K "check_own") (okF0 K "check_own"),
  fdB K (He.ga K "_law_cell") (okF0 K "_law_cell"),
  fdB K (He.ga K "_law_draws") (okF0 K "_law_draws"),
  fdB K (He.ga K "_law_word") (okF0 K "_law_word"),
  fdB K (He.ga K "_law_shown") (okF0 K "_law_shown"),
  fdB K (He.ga K "_law_raised") (okF0 K "_law_raised"),
  fdB K (He.ga K "law") (okF0 K "law"),
  fdB K (He.ma K (He.ga K "Named") "__init__") (okF0 K "Named.__init__"),
  fdB K (He.ma K (He.ga K "Ruled") "__init__") (okF0 K "Ruled.__init__"),
  fdB K (He.ma K (He.ga K "Extension") "__init__") (okFK K "Extension.__init__" "base")]
def gb1 (K : PySem.W.Frag) : List Bool := [okC K (He.ga K "BadLine"),
  fdB K (He.ma K (He.ga K "BadLine") "__init__") (okFX K (R0.prog.main.file) "BadLine.__init__" (He.ga K "BadLine")),
  okC K (He.ga K "BadMark"),
  fdB K (He.ma K (He.ga K "BadMark") "__init__") (okFX K (R0.prog.main.file) "BadMark.__init__" (He.ga K "BadMark")),
  okC K (He.ga K "BadMend"),
  fdB K (He.ma K (He.ga K "BadMend") "__init__") (okFX K (R0.prog.main.file) "BadMend.__init__" (He.ga K "BadMend")),
  okC K (He.ga K "BadName"),
  fdB K (He.ma K (He.ga K "BadName") "__init__") (okFX K (R0.prog.main.file) "BadName.__init__" (He.ga K "BadName")),
  okC K (He.ga K "Clash"),
  fdB K (He.ma K (He.ga K "Clash") "__init__") (okFX K (R0.prog.main.file) "Clash.__init__" (He.ga K "Clash")),
  okC K (He.ga K "Hollow"),
  fdB K (He.ma K (He.ga K "Hollow") "__init__") (okFX K (R0.prog.main.file) "Hollow.__init__" (He.ga K "Hollow")),
  okC K (He.ga K "NoRule"),
  fdB K (He.ma K (He.ga K "NoRule") "__init__") (okFX K (R0.prog.main.file) "NoRule.__init__" (He.ga K "NoRule")),
  okC K (He.ga K "Refused"),
  fdB K (He.ma K (He.ga K "Refused") "__init__") (okFX K (R0.prog.main.file) "Refused.__init__" (He.ga K "Refused")),
  okC K (He.ga K "SameName"),
  fdB K (He.ma K (He.ga K "SameName") "__init__") (okFX K (R0.prog.main.file) "SameName.__init__" (He.ga K "SameName")),
  okC K (He.ga K "UnknownName"),
  fdB K (He.ma K (He.ga K "UnknownName") "__init__") (okFX K (R0.prog.main.file) "UnknownName.__init__" (He.ga K "UnknownName"))]
def gb2 (K : PySem.W.Frag) : List Bool := [okC K (He.ga K "Useless"),
  fdB K (He.ma K (He.ga K "Useless") "__init__") (okFX K (R0.prog.main.file) "Useless.__init__" (He.ga K "Useless")),
  okC K (He.ga K "WrongToken"),
  fdB K (He.ma K (He.ga K "WrongToken") "__init__") (okFX K (R0.prog.main.file) "WrongToken.__init__" (He.ga K "WrongToken")),
  decide (PySem.W.nsIn K mainGlobals "Named" = some (some (.ref (He.ga K "Named")))),
  PySem.W.plainGet K (He.ga K "Named") Str.empty,
  PySem.W.hasDictIn K (He.ga K "Named"),
  PySem.W.plainOver K (He.ga K "Named"),
  decide (PySem.W.findIn K (.ref (He.ga K "Named")) "__setattr__" = some (some (.builtin "object.__setattr__"))),
  PySem.W.selfFirst K (He.ga K "Named"),
  PySem.W.noSeq K (He.ga K "Named"),
  PySem.W.makesIn K (He.ga K "Named"),
  PySem.W.keepIn K (.ref (He.ga K "Named")),
  decide (PySem.W.nsIn K mainGlobals "Extension" = some (some (.ref (He.ga K "Extension")))),
  PySem.W.plainGet K (He.ga K "Extension") Str.empty,
  PySem.W.hasDictIn K (He.ga K "Extension"),
  PySem.W.plainOver K (He.ga K "Extension"),
  decide (PySem.W.findIn K (.ref (He.ga K "Extension")) "__setattr__" = some (some (.builtin "object.__setattr__"))),
  PySem.W.selfFirst K (He.ga K "Extension"),
  PySem.W.noSeq K (He.ga K "Extension")]
def gb3 (K : PySem.W.Frag) : List Bool := [PySem.W.makesIn K (He.ga K "Extension"),
  PySem.W.keepIn K (.ref (He.ga K "Extension")),
  decide (PySem.W.nsIn K mainGlobals "Ruled" = some (some (.ref (He.ga K "Ruled")))),
  PySem.W.plainGet K (He.ga K "Ruled") Str.empty,
  PySem.W.hasDictIn K (He.ga K "Ruled"),
  PySem.W.plainOver K (He.ga K "Ruled"),
  decide (PySem.W.findIn K (.ref (He.ga K "Ruled")) "__setattr__" = some (some (.builtin "object.__setattr__"))),
  PySem.W.selfFirst K (He.ga K "Ruled"),
  PySem.W.noSeq K (He.ga K "Ruled"),
  PySem.W.makesIn K (He.ga K "Ruled"),
  PySem.W.keepIn K (.ref (He.ga K "Ruled")),
  decide (PySem.W.findIn K (.ref (He.ga K "Extension")) "name" = some none),
  decide (PySem.W.findIn K (.ref (He.ga K "Extension")) "rules" = some none),
  decide (PySem.W.findIn K (.ref (He.ga K "Extension")) "owners" = some none),
  decide (PySem.W.findIn K (.ref (He.ga K "Extension")) "base" = some none),
  decide (PySem.W.nsIn K mainGlobals "is_owner" = some (some (.ref (He.ga K "is_owner")))),
  PySem.W.keepIn K (.ref (He.ga K "is_owner")),
  decide (PySem.W.nsIn K mainGlobals "owner" = some (some (.ref (He.ga K "owner")))),
  PySem.W.keepIn K (.ref (He.ga K "owner")),
  decide (PySem.W.nsIn K mainGlobals "is_token" = some (some (.ref (He.ga K "is_token"))))]
def gb4 (K : PySem.W.Frag) : List Bool := [PySem.W.keepIn K (.ref (He.ga K "is_token")),
  decide (PySem.W.nsIn K mainGlobals "distinct" = some (some (.ref (He.ga K "distinct")))),
  PySem.W.keepIn K (.ref (He.ga K "distinct")),
  decide (PySem.W.nsIn K mainGlobals "finished_names" = some (some (.ref (He.ga K "finished_names")))),
  PySem.W.keepIn K (.ref (He.ga K "finished_names")),
  decide (PySem.W.nsIn K mainGlobals "reached_names" = some (some (.ref (He.ga K "reached_names")))),
  PySem.W.keepIn K (.ref (He.ga K "reached_names")),
  decide (PySem.W.nsIn K mainGlobals "is_own_head" = some (some (.ref (He.ga K "is_own_head")))),
  PySem.W.keepIn K (.ref (He.ga K "is_own_head")),
  decide (PySem.W.nsIn K mainGlobals "check_signs" = some (some (.ref (He.ga K "check_signs")))),
  PySem.W.keepIn K (.ref (He.ga K "check_signs")),
  decide (PySem.W.nsIn K mainGlobals "has_mark" = some (some (.ref (He.ga K "has_mark")))),
  PySem.W.keepIn K (.ref (He.ga K "has_mark")),
  decide (PySem.W.nsIn K mainGlobals "check_marks" = some (some (.ref (He.ga K "check_marks")))),
  PySem.W.keepIn K (.ref (He.ga K "check_marks")),
  decide (PySem.W.nsIn K mainGlobals "check_own" = some (some (.ref (He.ga K "check_own")))),
  PySem.W.keepIn K (.ref (He.ga K "check_own")),
  decide (PySem.W.nsIn K mainGlobals "_law_cell" = some (some (.ref (He.ga K "_law_cell")))),
  PySem.W.keepIn K (.ref (He.ga K "_law_cell")),
  decide (PySem.W.nsIn K mainGlobals "_law_draws" = some (some (.ref (He.ga K "_law_draws"))))]
def gb5 (K : PySem.W.Frag) : List Bool := [PySem.W.keepIn K (.ref (He.ga K "_law_draws")),
  decide (PySem.W.nsIn K mainGlobals "_law_word" = some (some (.ref (He.ga K "_law_word")))),
  PySem.W.keepIn K (.ref (He.ga K "_law_word")),
  decide (PySem.W.nsIn K mainGlobals "_law_shown" = some (some (.ref (He.ga K "_law_shown")))),
  PySem.W.keepIn K (.ref (He.ga K "_law_shown")),
  decide (PySem.W.nsIn K mainGlobals "_law_raised" = some (some (.ref (He.ga K "_law_raised")))),
  PySem.W.keepIn K (.ref (He.ga K "_law_raised")),
  decide (PySem.W.nsIn K mainGlobals "law" = some (some (.ref (He.ga K "law")))),
  PySem.W.keepIn K (.ref (He.ga K "law")),
  valB K (He.ga K "Named") "__init__" (He.ma K (He.ga K "Named") "__init__"),
  PySem.W.readsIn K (He.ga K "Named") (.type "type"),
  decide (PySem.W.specialIn K (.ref (He.ga K "Named")) "__getattribute__" = some (some (.builtin "type.__getattribute__"))),
  PySem.W.keepIn K (.ref (He.ma K (He.ga K "Named") "__init__")),
  valB K (He.ga K "Ruled") "__init__" (He.ma K (He.ga K "Ruled") "__init__"),
  PySem.W.readsIn K (He.ga K "Ruled") (.type "type"),
  decide (PySem.W.specialIn K (.ref (He.ga K "Ruled")) "__getattribute__" = some (some (.builtin "type.__getattribute__"))),
  PySem.W.keepIn K (.ref (He.ma K (He.ga K "Ruled") "__init__")),
  decide (PySem.W.findIn K (.ref (He.ga K "Extension")) "__init__" = some (some (.ref (He.ma K (He.ga K "Extension") "__init__")))),
  PySem.W.isFn K (.ref (He.ma K (He.ga K "Extension") "__init__")),
  PySem.W.keepIn K (.ref (He.ma K (He.ga K "Extension") "__init__"))]
def gb6 (K : PySem.W.Frag) : List Bool := [decide (PySem.W.nsIn K mainGlobals "len" = some none),
  decide (PySem.W.nsIn K mainGlobals "all" = some none),
  decide (PySem.W.nsIn K mainGlobals "tuple" = some none),
  decide (PySem.W.nsIn K mainGlobals "sum" = some none),
  decide (PySem.W.nsIn K mainGlobals "list" = some none),
  decide (PySem.W.nsIn K mainGlobals "int" = some none),
  decide (PySem.W.nsIn K mainGlobals "range" = some none),
  decide (PySem.W.nsIn K mainGlobals "isinstance" = some none),
  decide (PySem.W.nsIn K mainGlobals "ValueError" = some none),
  intB K "LONGEST" (8),
  strB K "SMALL" "abcdefghijklmnopqrstuvwxyz",
  decide (PySem.W.nsIn K mainGlobals "BadName" = some (some (.ref (He.ga K "BadName")))),
  decide (PySem.W.findIn K (.ref (He.ga K "BadName")) "__setattr__" = some (some (.builtin "object.__setattr__"))),
  decide (PySem.W.findIn K (.ref (He.ga K "BadName")) "__getattribute__" = some (some (.builtin "BaseException.__getattribute__"))),
  decide (PySem.W.findIn K (.ref (He.ga K "BadName")) "__getattr__" = some none),
  decide (PySem.W.findIn K (.ref (He.ga K "BadName")) "name" = some none),
  decide (PySem.W.findIn K (.ref (He.ga K "BadName")) "__init__" = some (some (.ref (He.ma K (He.ga K "BadName") "__init__")))),
  decide (PySem.W.typeIn K (.ref (He.ma K (He.ga K "BadName") "__init__")) = some (.type "function")),
  PySem.W.keepIn K (.ref (He.ga K "BadName")),
  decide (PySem.W.subIn K (.ref (He.ga K "BadName")) (.type "BaseException") = some true)]
def gb7 (K : PySem.W.Frag) : List Bool := [decide (PySem.W.typeIn K (.ref (He.ga K "BadName")) = some (.type "type")),
  PySem.W.hasDictIn K (He.ga K "BadName"),
  decide (PySem.W.ks_superIn K (He.ga K "BadName") (He.ga K "BadName") "__init__" = some (some (.builtin "ValueError.__init__"))),
  decide (PySem.W.subIn K (.ref (He.ga K "BadName")) (.type "ValueError") = some true),
  decide (PySem.W.mroIn K (He.ga K "BadName") (.ref (He.ga K "BadName")) = some true),
  decide (PySem.W.nsIn K cStatics "thirdparty.any" = some none),
  decide (PySem.W.nsIn K mainGlobals "super" = some none),
  PySem.W.isClsIn K (He.ga K "BadName"),
  decide (PySem.W.subIn K (.ref (He.ga K "BadName")) (.ref (He.ga K "BadName")) = some true),
  decide (PySem.W.findIn K (.ref (He.ga K "BadName")) "__class__" = some (some (.builtin "object.__class__"))),
  decide (PySem.W.specialIn K (.builtin "object.__class__") "__get__" = some (some (.builtin "getset_descriptor.__get__"))),
  decide (PySem.W.takesIn K (.builtin "object.__class__") = some true),
  decide (PySem.W.mroIn K (He.ga K "BadName") (.type "object") = some true),
  decide (PySem.W.nsIn K mainGlobals "BadMark" = some (some (.ref (He.ga K "BadMark")))),
  decide (PySem.W.findIn K (.ref (He.ga K "BadMark")) "__setattr__" = some (some (.builtin "object.__setattr__"))),
  decide (PySem.W.findIn K (.ref (He.ga K "BadMark")) "__getattribute__" = some (some (.builtin "BaseException.__getattribute__"))),
  decide (PySem.W.findIn K (.ref (He.ga K "BadMark")) "__getattr__" = some none),
  decide (PySem.W.findIn K (.ref (He.ga K "BadMark")) "rule" = some none),
  decide (PySem.W.findIn K (.ref (He.ga K "BadMark")) "__init__" = some (some (.ref (He.ma K (He.ga K "BadMark") "__init__")))),
  decide (PySem.W.typeIn K (.ref (He.ma K (He.ga K "BadMark") "__init__")) = some (.type "function"))]
def gb8 (K : PySem.W.Frag) : List Bool := [PySem.W.keepIn K (.ref (He.ga K "BadMark")),
  decide (PySem.W.subIn K (.ref (He.ga K "BadMark")) (.type "BaseException") = some true),
  decide (PySem.W.typeIn K (.ref (He.ga K "BadMark")) = some (.type "type")),
  PySem.W.hasDictIn K (He.ga K "BadMark"),
  decide (PySem.W.ks_superIn K (He.ga K "BadMark") (He.ga K "BadMark") "__init__" = some (some (.builtin "ValueError.__init__"))),
  decide (PySem.W.subIn K (.ref (He.ga K "BadMark")) (.type "ValueError") = some true),
  decide (PySem.W.mroIn K (He.ga K "BadMark") (.ref (He.ga K "BadMark")) = some true),
  decide (PySem.W.nsIn K cStatics "thirdparty.any" = some none),
  decide (PySem.W.nsIn K mainGlobals "super" = some none),
  PySem.W.isClsIn K (He.ga K "BadMark"),
  decide (PySem.W.subIn K (.ref (He.ga K "BadMark")) (.ref (He.ga K "BadMark")) = some true),
  decide (PySem.W.findIn K (.ref (He.ga K "BadMark")) "__class__" = some (some (.builtin "object.__class__"))),
  decide (PySem.W.specialIn K (.builtin "object.__class__") "__get__" = some (some (.builtin "getset_descriptor.__get__"))),
  decide (PySem.W.takesIn K (.builtin "object.__class__") = some true),
  decide (PySem.W.mroIn K (He.ga K "BadMark") (.type "object") = some true),
  decide (PySem.W.nsIn K mainGlobals "NoRule" = some (some (.ref (He.ga K "NoRule")))),
  decide (PySem.W.findIn K (.ref (He.ga K "NoRule")) "__setattr__" = some (some (.builtin "object.__setattr__"))),
  decide (PySem.W.findIn K (.ref (He.ga K "NoRule")) "__getattribute__" = some (some (.builtin "BaseException.__getattribute__"))),
  decide (PySem.W.findIn K (.ref (He.ga K "NoRule")) "__getattr__" = some none),
  decide (PySem.W.findIn K (.ref (He.ga K "NoRule")) "name" = some none)]
def gb9 (K : PySem.W.Frag) : List Bool := [decide (PySem.W.findIn K (.ref (He.ga K "NoRule")) "__init__" = some (some (.ref (He.ma K (He.ga K "NoRule") "__init__")))),
  decide (PySem.W.typeIn K (.ref (He.ma K (He.ga K "NoRule") "__init__")) = some (.type "function")),
  PySem.W.keepIn K (.ref (He.ga K "NoRule")),
  decide (PySem.W.subIn K (.ref (He.ga K "NoRule")) (.type "BaseException") = some true),
  decide (PySem.W.typeIn K (.ref (He.ga K "NoRule")) = some (.type "type")),
  PySem.W.hasDictIn K (He.ga K "NoRule"),
  decide (PySem.W.ks_superIn K (He.ga K "NoRule") (He.ga K "NoRule") "__init__" = some (some (.builtin "ValueError.__init__"))),
  decide (PySem.W.subIn K (.ref (He.ga K "NoRule")) (.type "ValueError") = some true),
  decide (PySem.W.mroIn K (He.ga K "NoRule") (.ref (He.ga K "NoRule")) = some true),
  decide (PySem.W.nsIn K cStatics "thirdparty.any" = some none),
  decide (PySem.W.nsIn K mainGlobals "super" = some none),
  PySem.W.isClsIn K (He.ga K "NoRule"),
  decide (PySem.W.subIn K (.ref (He.ga K "NoRule")) (.ref (He.ga K "NoRule")) = some true),
  decide (PySem.W.findIn K (.ref (He.ga K "NoRule")) "__class__" = some (some (.builtin "object.__class__"))),
  decide (PySem.W.specialIn K (.builtin "object.__class__") "__get__" = some (some (.builtin "getset_descriptor.__get__"))),
  decide (PySem.W.takesIn K (.builtin "object.__class__") = some true),
  decide (PySem.W.mroIn K (He.ga K "NoRule") (.type "object") = some true),
  decide (PySem.W.nsIn K mainGlobals "Useless" = some (some (.ref (He.ga K "Useless")))),
  decide (PySem.W.findIn K (.ref (He.ga K "Useless")) "__setattr__" = some (some (.builtin "object.__setattr__"))),
  decide (PySem.W.findIn K (.ref (He.ga K "Useless")) "__getattribute__" = some (some (.builtin "BaseException.__getattribute__")))]
def gb10 (K : PySem.W.Frag) : List Bool := [decide (PySem.W.findIn K (.ref (He.ga K "Useless")) "__getattr__" = some none),
  decide (PySem.W.findIn K (.ref (He.ga K "Useless")) "name" = some none),
  decide (PySem.W.findIn K (.ref (He.ga K "Useless")) "__init__" = some (some (.ref (He.ma K (He.ga K "Useless") "__init__")))),
  decide (PySem.W.typeIn K (.ref (He.ma K (He.ga K "Useless") "__init__")) = some (.type "function")),
  PySem.W.keepIn K (.ref (He.ga K "Useless")),
  decide (PySem.W.subIn K (.ref (He.ga K "Useless")) (.type "BaseException") = some true),
  decide (PySem.W.typeIn K (.ref (He.ga K "Useless")) = some (.type "type")),
  PySem.W.hasDictIn K (He.ga K "Useless"),
  decide (PySem.W.ks_superIn K (He.ga K "Useless") (He.ga K "Useless") "__init__" = some (some (.builtin "ValueError.__init__"))),
  decide (PySem.W.subIn K (.ref (He.ga K "Useless")) (.type "ValueError") = some true),
  decide (PySem.W.mroIn K (He.ga K "Useless") (.ref (He.ga K "Useless")) = some true),
  decide (PySem.W.nsIn K cStatics "thirdparty.any" = some none),
  decide (PySem.W.nsIn K mainGlobals "super" = some none),
  PySem.W.isClsIn K (He.ga K "Useless"),
  decide (PySem.W.subIn K (.ref (He.ga K "Useless")) (.ref (He.ga K "Useless")) = some true),
  decide (PySem.W.findIn K (.ref (He.ga K "Useless")) "__class__" = some (some (.builtin "object.__class__"))),
  decide (PySem.W.specialIn K (.builtin "object.__class__") "__get__" = some (some (.builtin "getset_descriptor.__get__"))),
  decide (PySem.W.takesIn K (.builtin "object.__class__") = some true),
  decide (PySem.W.mroIn K (He.ga K "Useless") (.type "object") = some true),
  decide (PySem.W.nsIn K mainGlobals "SameName" = some (some (.ref (He.ga K "SameName"))))]
def gb11 (K : PySem.W.Frag) : List Bool := [decide (PySem.W.findIn K (.ref (He.ga K "SameName")) "__setattr__" = some (some (.builtin "object.__setattr__"))),
  decide (PySem.W.findIn K (.ref (He.ga K "SameName")) "__getattribute__" = some (some (.builtin "BaseException.__getattribute__"))),
  decide (PySem.W.findIn K (.ref (He.ga K "SameName")) "__getattr__" = some none),
  decide (PySem.W.findIn K (.ref (He.ga K "SameName")) "name" = some none),
  decide (PySem.W.findIn K (.ref (He.ga K "SameName")) "__init__" = some (some (.ref (He.ma K (He.ga K "SameName") "__init__")))),
  decide (PySem.W.typeIn K (.ref (He.ma K (He.ga K "SameName") "__init__")) = some (.type "function")),
  PySem.W.keepIn K (.ref (He.ga K "SameName")),
  decide (PySem.W.subIn K (.ref (He.ga K "SameName")) (.type "BaseException") = some true),
  decide (PySem.W.typeIn K (.ref (He.ga K "SameName")) = some (.type "type")),
  PySem.W.hasDictIn K (He.ga K "SameName"),
  decide (PySem.W.ks_superIn K (He.ga K "SameName") (He.ga K "SameName") "__init__" = some (some (.builtin "ValueError.__init__"))),
  decide (PySem.W.subIn K (.ref (He.ga K "SameName")) (.type "ValueError") = some true),
  decide (PySem.W.mroIn K (He.ga K "SameName") (.ref (He.ga K "SameName")) = some true),
  decide (PySem.W.nsIn K cStatics "thirdparty.any" = some none),
  decide (PySem.W.nsIn K mainGlobals "super" = some none),
  PySem.W.isClsIn K (He.ga K "SameName"),
  decide (PySem.W.subIn K (.ref (He.ga K "SameName")) (.ref (He.ga K "SameName")) = some true),
  decide (PySem.W.findIn K (.ref (He.ga K "SameName")) "__class__" = some (some (.builtin "object.__class__"))),
  decide (PySem.W.specialIn K (.builtin "object.__class__") "__get__" = some (some (.builtin "getset_descriptor.__get__"))),
  decide (PySem.W.takesIn K (.builtin "object.__class__") = some true)]
def gb12 (K : PySem.W.Frag) : List Bool := [decide (PySem.W.mroIn K (He.ga K "SameName") (.type "object") = some true),
  decide (PySem.W.nsIn K mainGlobals "Hollow" = some (some (.ref (He.ga K "Hollow")))),
  decide (PySem.W.findIn K (.ref (He.ga K "Hollow")) "__setattr__" = some (some (.builtin "object.__setattr__"))),
  decide (PySem.W.findIn K (.ref (He.ga K "Hollow")) "__getattribute__" = some (some (.builtin "BaseException.__getattribute__"))),
  decide (PySem.W.findIn K (.ref (He.ga K "Hollow")) "__getattr__" = some none),
  decide (PySem.W.findIn K (.ref (He.ga K "Hollow")) "name" = some none),
  decide (PySem.W.findIn K (.ref (He.ga K "Hollow")) "__init__" = some (some (.ref (He.ma K (He.ga K "Hollow") "__init__")))),
  decide (PySem.W.typeIn K (.ref (He.ma K (He.ga K "Hollow") "__init__")) = some (.type "function")),
  PySem.W.keepIn K (.ref (He.ga K "Hollow")),
  decide (PySem.W.subIn K (.ref (He.ga K "Hollow")) (.type "BaseException") = some true),
  decide (PySem.W.typeIn K (.ref (He.ga K "Hollow")) = some (.type "type")),
  PySem.W.hasDictIn K (He.ga K "Hollow"),
  decide (PySem.W.ks_superIn K (He.ga K "Hollow") (He.ga K "Hollow") "__init__" = some (some (.builtin "ValueError.__init__"))),
  decide (PySem.W.subIn K (.ref (He.ga K "Hollow")) (.type "ValueError") = some true),
  decide (PySem.W.mroIn K (He.ga K "Hollow") (.ref (He.ga K "Hollow")) = some true),
  decide (PySem.W.nsIn K cStatics "thirdparty.any" = some none),
  decide (PySem.W.nsIn K mainGlobals "super" = some none),
  PySem.W.isClsIn K (He.ga K "Hollow"),
  decide (PySem.W.subIn K (.ref (He.ga K "Hollow")) (.ref (He.ga K "Hollow")) = some true),
  decide (PySem.W.findIn K (.ref (He.ga K "Hollow")) "__class__" = some (some (.builtin "object.__class__")))]
def gb13 (K : PySem.W.Frag) : List Bool := [decide (PySem.W.specialIn K (.builtin "object.__class__") "__get__" = some (some (.builtin "getset_descriptor.__get__"))),
  decide (PySem.W.takesIn K (.builtin "object.__class__") = some true),
  decide (PySem.W.mroIn K (He.ga K "Hollow") (.type "object") = some true),
  decide (PySem.W.nsIn K mainGlobals "UnknownName" = some (some (.ref (He.ga K "UnknownName")))),
  decide (PySem.W.findIn K (.ref (He.ga K "UnknownName")) "__setattr__" = some (some (.builtin "object.__setattr__"))),
  decide (PySem.W.findIn K (.ref (He.ga K "UnknownName")) "__getattribute__" = some (some (.builtin "BaseException.__getattribute__"))),
  decide (PySem.W.findIn K (.ref (He.ga K "UnknownName")) "__getattr__" = some none),
  decide (PySem.W.findIn K (.ref (He.ga K "UnknownName")) "name" = some none),
  decide (PySem.W.findIn K (.ref (He.ga K "UnknownName")) "__init__" = some (some (.ref (He.ma K (He.ga K "UnknownName") "__init__")))),
  decide (PySem.W.typeIn K (.ref (He.ma K (He.ga K "UnknownName") "__init__")) = some (.type "function")),
  PySem.W.keepIn K (.ref (He.ga K "UnknownName")),
  decide (PySem.W.subIn K (.ref (He.ga K "UnknownName")) (.type "BaseException") = some true),
  decide (PySem.W.typeIn K (.ref (He.ga K "UnknownName")) = some (.type "type")),
  PySem.W.hasDictIn K (He.ga K "UnknownName"),
  decide (PySem.W.ks_superIn K (He.ga K "UnknownName") (He.ga K "UnknownName") "__init__" = some (some (.builtin "ValueError.__init__"))),
  decide (PySem.W.subIn K (.ref (He.ga K "UnknownName")) (.type "ValueError") = some true),
  decide (PySem.W.mroIn K (He.ga K "UnknownName") (.ref (He.ga K "UnknownName")) = some true),
  decide (PySem.W.nsIn K cStatics "thirdparty.any" = some none),
  decide (PySem.W.nsIn K mainGlobals "super" = some none),
  PySem.W.isClsIn K (He.ga K "UnknownName")]
def gb14 (K : PySem.W.Frag) : List Bool := [decide (PySem.W.subIn K (.ref (He.ga K "UnknownName")) (.ref (He.ga K "UnknownName")) = some true),
  decide (PySem.W.findIn K (.ref (He.ga K "UnknownName")) "__class__" = some (some (.builtin "object.__class__"))),
  decide (PySem.W.specialIn K (.builtin "object.__class__") "__get__" = some (some (.builtin "getset_descriptor.__get__"))),
  decide (PySem.W.takesIn K (.builtin "object.__class__") = some true),
  decide (PySem.W.mroIn K (He.ga K "UnknownName") (.type "object") = some true),
  decide (PySem.W.nsIn K mainGlobals "BadLine" = some (some (.ref (He.ga K "BadLine")))),
  decide (PySem.W.findIn K (.ref (He.ga K "BadLine")) "__setattr__" = some (some (.builtin "object.__setattr__"))),
  decide (PySem.W.findIn K (.ref (He.ga K "BadLine")) "__getattribute__" = some (some (.builtin "BaseException.__getattribute__"))),
  decide (PySem.W.findIn K (.ref (He.ga K "BadLine")) "__getattr__" = some none),
  decide (PySem.W.findIn K (.ref (He.ga K "BadLine")) "number" = some none),
  decide (PySem.W.findIn K (.ref (He.ga K "BadLine")) "__init__" = some (some (.ref (He.ma K (He.ga K "BadLine") "__init__")))),
  decide (PySem.W.typeIn K (.ref (He.ma K (He.ga K "BadLine") "__init__")) = some (.type "function")),
  PySem.W.keepIn K (.ref (He.ga K "BadLine")),
  decide (PySem.W.subIn K (.ref (He.ga K "BadLine")) (.type "BaseException") = some true),
  decide (PySem.W.typeIn K (.ref (He.ga K "BadLine")) = some (.type "type")),
  PySem.W.hasDictIn K (He.ga K "BadLine"),
  decide (PySem.W.ks_superIn K (He.ga K "BadLine") (He.ga K "BadLine") "__init__" = some (some (.builtin "ValueError.__init__"))),
  decide (PySem.W.subIn K (.ref (He.ga K "BadLine")) (.type "ValueError") = some true),
  decide (PySem.W.mroIn K (He.ga K "BadLine") (.ref (He.ga K "BadLine")) = some true),
  decide (PySem.W.nsIn K cStatics "thirdparty.any" = some none)]
def gb15 (K : PySem.W.Frag) : List Bool := [decide (PySem.W.nsIn K mainGlobals "super" = some none),
  PySem.W.isClsIn K (He.ga K "BadLine"),
  decide (PySem.W.subIn K (.ref (He.ga K "BadLine")) (.ref (He.ga K "BadLine")) = some true),
  decide (PySem.W.findIn K (.ref (He.ga K "BadLine")) "__class__" = some (some (.builtin "object.__class__"))),
  decide (PySem.W.specialIn K (.builtin "object.__class__") "__get__" = some (some (.builtin "getset_descriptor.__get__"))),
  decide (PySem.W.takesIn K (.builtin "object.__class__") = some true),
  decide (PySem.W.mroIn K (He.ga K "BadLine") (.type "object") = some true),
  decide (PySem.W.nsIn K mainGlobals "BadMend" = some (some (.ref (He.ga K "BadMend")))),
  decide (PySem.W.findIn K (.ref (He.ga K "BadMend")) "__setattr__" = some (some (.builtin "object.__setattr__"))),
  decide (PySem.W.findIn K (.ref (He.ga K "BadMend")) "__getattribute__" = some (some (.builtin "BaseException.__getattribute__"))),
  decide (PySem.W.findIn K (.ref (He.ga K "BadMend")) "__getattr__" = some none),
  decide (PySem.W.findIn K (.ref (He.ga K "BadMend")) "mend" = some none),
  decide (PySem.W.findIn K (.ref (He.ga K "BadMend")) "__init__" = some (some (.ref (He.ma K (He.ga K "BadMend") "__init__")))),
  decide (PySem.W.typeIn K (.ref (He.ma K (He.ga K "BadMend") "__init__")) = some (.type "function")),
  PySem.W.keepIn K (.ref (He.ga K "BadMend")),
  decide (PySem.W.subIn K (.ref (He.ga K "BadMend")) (.type "BaseException") = some true),
  decide (PySem.W.typeIn K (.ref (He.ga K "BadMend")) = some (.type "type")),
  PySem.W.hasDictIn K (He.ga K "BadMend"),
  decide (PySem.W.ks_superIn K (He.ga K "BadMend") (He.ga K "BadMend") "__init__" = some (some (.builtin "ValueError.__init__"))),
  decide (PySem.W.subIn K (.ref (He.ga K "BadMend")) (.type "ValueError") = some true)]
def gb16 (K : PySem.W.Frag) : List Bool := [decide (PySem.W.mroIn K (He.ga K "BadMend") (.ref (He.ga K "BadMend")) = some true),
  decide (PySem.W.nsIn K cStatics "thirdparty.any" = some none),
  decide (PySem.W.nsIn K mainGlobals "super" = some none),
  PySem.W.isClsIn K (He.ga K "BadMend"),
  decide (PySem.W.subIn K (.ref (He.ga K "BadMend")) (.ref (He.ga K "BadMend")) = some true),
  decide (PySem.W.findIn K (.ref (He.ga K "BadMend")) "__class__" = some (some (.builtin "object.__class__"))),
  decide (PySem.W.specialIn K (.builtin "object.__class__") "__get__" = some (some (.builtin "getset_descriptor.__get__"))),
  decide (PySem.W.takesIn K (.builtin "object.__class__") = some true),
  decide (PySem.W.mroIn K (He.ga K "BadMend") (.type "object") = some true),
  decide (PySem.W.nsIn K mainGlobals "Clash" = some (some (.ref (He.ga K "Clash")))),
  decide (PySem.W.findIn K (.ref (He.ga K "Clash")) "__setattr__" = some (some (.builtin "object.__setattr__"))),
  decide (PySem.W.findIn K (.ref (He.ga K "Clash")) "__getattribute__" = some (some (.builtin "BaseException.__getattribute__"))),
  decide (PySem.W.findIn K (.ref (He.ga K "Clash")) "__getattr__" = some none),
  decide (PySem.W.findIn K (.ref (He.ga K "Clash")) "head" = some none),
  decide (PySem.W.findIn K (.ref (He.ga K "Clash")) "__init__" = some (some (.ref (He.ma K (He.ga K "Clash") "__init__")))),
  decide (PySem.W.typeIn K (.ref (He.ma K (He.ga K "Clash") "__init__")) = some (.type "function")),
  PySem.W.keepIn K (.ref (He.ga K "Clash")),
  decide (PySem.W.subIn K (.ref (He.ga K "Clash")) (.type "BaseException") = some true),
  decide (PySem.W.typeIn K (.ref (He.ga K "Clash")) = some (.type "type")),
  PySem.W.hasDictIn K (He.ga K "Clash")]
def gb17 (K : PySem.W.Frag) : List Bool := [decide (PySem.W.ks_superIn K (He.ga K "Clash") (He.ga K "Clash") "__init__" = some (some (.builtin "ValueError.__init__"))),
  decide (PySem.W.subIn K (.ref (He.ga K "Clash")) (.type "ValueError") = some true),
  decide (PySem.W.mroIn K (He.ga K "Clash") (.ref (He.ga K "Clash")) = some true),
  decide (PySem.W.nsIn K cStatics "thirdparty.any" = some none),
  decide (PySem.W.nsIn K mainGlobals "super" = some none),
  decide (PySem.W.findIn K (.ref (He.ga K "Clash")) "one" = some none),
  decide (PySem.W.findIn K (.ref (He.ga K "Clash")) "other" = some none),
  decide (PySem.W.findIn K (.ref (He.ga K "Clash")) "token" = some none),
  decide (PySem.W.findIn K (.ref (He.ga K "Clash")) "beginning" = some none),
  decide (PySem.W.findIn K (.ref (He.ga K "Clash")) "runs" = some none),
  PySem.W.isClsIn K (He.ga K "Clash"),
  decide (PySem.W.subIn K (.ref (He.ga K "Clash")) (.ref (He.ga K "Clash")) = some true),
  decide (PySem.W.findIn K (.ref (He.ga K "Clash")) "__class__" = some (some (.builtin "object.__class__"))),
  decide (PySem.W.specialIn K (.builtin "object.__class__") "__get__" = some (some (.builtin "getset_descriptor.__get__"))),
  decide (PySem.W.takesIn K (.builtin "object.__class__") = some true),
  decide (PySem.W.mroIn K (He.ga K "Clash") (.type "object") = some true),
  decide (PySem.W.nsIn K mainGlobals "Refused" = some (some (.ref (He.ga K "Refused")))),
  decide (PySem.W.findIn K (.ref (He.ga K "Refused")) "__setattr__" = some (some (.builtin "object.__setattr__"))),
  decide (PySem.W.findIn K (.ref (He.ga K "Refused")) "__getattribute__" = some (some (.builtin "BaseException.__getattribute__"))),
  decide (PySem.W.findIn K (.ref (He.ga K "Refused")) "__getattr__" = some none)]
def gb18 (K : PySem.W.Frag) : List Bool := [decide (PySem.W.findIn K (.ref (He.ga K "Refused")) "guest" = some none),
  decide (PySem.W.findIn K (.ref (He.ga K "Refused")) "__init__" = some (some (.ref (He.ma K (He.ga K "Refused") "__init__")))),
  decide (PySem.W.typeIn K (.ref (He.ma K (He.ga K "Refused") "__init__")) = some (.type "function")),
  PySem.W.keepIn K (.ref (He.ga K "Refused")),
  decide (PySem.W.subIn K (.ref (He.ga K "Refused")) (.type "BaseException") = some true),
  decide (PySem.W.typeIn K (.ref (He.ga K "Refused")) = some (.type "type")),
  PySem.W.hasDictIn K (He.ga K "Refused"),
  decide (PySem.W.ks_superIn K (He.ga K "Refused") (He.ga K "Refused") "__init__" = some (some (.builtin "ValueError.__init__"))),
  decide (PySem.W.subIn K (.ref (He.ga K "Refused")) (.type "ValueError") = some true),
  decide (PySem.W.mroIn K (He.ga K "Refused") (.ref (He.ga K "Refused")) = some true),
  decide (PySem.W.nsIn K cStatics "thirdparty.any" = some none),
  decide (PySem.W.nsIn K mainGlobals "super" = some none),
  decide (PySem.W.findIn K (.ref (He.ga K "Refused")) "rival" = some none),
  decide (PySem.W.findIn K (.ref (He.ga K "Refused")) "token" = some none),
  decide (PySem.W.findIn K (.ref (He.ga K "Refused")) "beginning" = some none),
  PySem.W.isClsIn K (He.ga K "Refused"),
  decide (PySem.W.subIn K (.ref (He.ga K "Refused")) (.ref (He.ga K "Refused")) = some true),
  decide (PySem.W.findIn K (.ref (He.ga K "Refused")) "__class__" = some (some (.builtin "object.__class__"))),
  decide (PySem.W.specialIn K (.builtin "object.__class__") "__get__" = some (some (.builtin "getset_descriptor.__get__"))),
  decide (PySem.W.takesIn K (.builtin "object.__class__") = some true)]
def gb19 (K : PySem.W.Frag) : List Bool := [decide (PySem.W.mroIn K (He.ga K "Refused") (.type "object") = some true),
  decide (PySem.W.nsIn K mainGlobals "WrongToken" = some (some (.ref (He.ga K "WrongToken")))),
  decide (PySem.W.findIn K (.ref (He.ga K "WrongToken")) "__setattr__" = some (some (.builtin "object.__setattr__"))),
  decide (PySem.W.findIn K (.ref (He.ga K "WrongToken")) "__getattribute__" = some (some (.builtin "BaseException.__getattribute__"))),
  decide (PySem.W.findIn K (.ref (He.ga K "WrongToken")) "__getattr__" = some none),
  decide (PySem.W.findIn K (.ref (He.ga K "WrongToken")) "index" = some none),
  decide (PySem.W.findIn K (.ref (He.ga K "WrongToken")) "__init__" = some (some (.ref (He.ma K (He.ga K "WrongToken") "__init__")))),
  decide (PySem.W.typeIn K (.ref (He.ma K (He.ga K "WrongToken") "__init__")) = some (.type "function")),
  PySem.W.keepIn K (.ref (He.ga K "WrongToken")),
  decide (PySem.W.subIn K (.ref (He.ga K "WrongToken")) (.type "BaseException") = some true),
  decide (PySem.W.typeIn K (.ref (He.ga K "WrongToken")) = some (.type "type")),
  PySem.W.hasDictIn K (He.ga K "WrongToken"),
  decide (PySem.W.ks_superIn K (He.ga K "WrongToken") (He.ga K "WrongToken") "__init__" = some (some (.builtin "ValueError.__init__"))),
  decide (PySem.W.subIn K (.ref (He.ga K "WrongToken")) (.type "ValueError") = some true),
  decide (PySem.W.mroIn K (He.ga K "WrongToken") (.ref (He.ga K "WrongToken")) = some true),
  decide (PySem.W.nsIn K cStatics "thirdparty.any" = some none),
  decide (PySem.W.nsIn K mainGlobals "super" = some none),
  decide (PySem.W.findIn K (.ref (He.ga K "WrongToken")) "token" = some none),
  decide (PySem.W.findIn K (.ref (He.ga K "WrongToken")) "expected" = some none),
  PySem.W.isClsIn K (He.ga K "WrongToken")]
def gb20 (K : PySem.W.Frag) : List Bool := [decide (PySem.W.subIn K (.ref (He.ga K "WrongToken")) (.ref (He.ga K "WrongToken")) = some true),
  decide (PySem.W.findIn K (.ref (He.ga K "WrongToken")) "__class__" = some (some (.builtin "object.__class__"))),
  decide (PySem.W.specialIn K (.builtin "object.__class__") "__get__" = some (some (.builtin "getset_descriptor.__get__"))),
  decide (PySem.W.takesIn K (.builtin "object.__class__") = some true),
  decide (PySem.W.mroIn K (He.ga K "WrongToken") (.type "object") = some true),
  decide (PySem.W.nsIn K mainGlobals "BadName" = some (some (.ref (He.ga K "BadName")))),
  decide (PySem.W.kitOne K (.ref (He.ga K "BadName")) (.ref (He.ga K "BadName")) = some true),
  decide (PySem.W.nsIn K mainGlobals "NoRule" = some (some (.ref (He.ga K "NoRule")))),
  decide (PySem.W.kitOne K (.ref (He.ga K "BadName")) (.ref (He.ga K "NoRule")) = some false),
  decide (PySem.W.nsIn K mainGlobals "Useless" = some (some (.ref (He.ga K "Useless")))),
  decide (PySem.W.kitOne K (.ref (He.ga K "BadName")) (.ref (He.ga K "Useless")) = some false),
  decide (PySem.W.nsIn K mainGlobals "Hollow" = some (some (.ref (He.ga K "Hollow")))),
  decide (PySem.W.kitOne K (.ref (He.ga K "BadName")) (.ref (He.ga K "Hollow")) = some false),
  decide (PySem.W.nsIn K mainGlobals "SameName" = some (some (.ref (He.ga K "SameName")))),
  decide (PySem.W.kitOne K (.ref (He.ga K "BadName")) (.ref (He.ga K "SameName")) = some false),
  decide (PySem.W.nsIn K mainGlobals "UnknownName" = some (some (.ref (He.ga K "UnknownName")))),
  decide (PySem.W.kitOne K (.ref (He.ga K "BadName")) (.ref (He.ga K "UnknownName")) = some false),
  decide (PySem.W.nsIn K mainGlobals "BadLine" = some (some (.ref (He.ga K "BadLine")))),
  decide (PySem.W.kitOne K (.ref (He.ga K "BadName")) (.ref (He.ga K "BadLine")) = some false),
  decide (PySem.W.nsIn K mainGlobals "BadMark" = some (some (.ref (He.ga K "BadMark"))))]
def gb21 (K : PySem.W.Frag) : List Bool := [decide (PySem.W.kitOne K (.ref (He.ga K "BadName")) (.ref (He.ga K "BadMark")) = some false),
  decide (PySem.W.nsIn K mainGlobals "BadMend" = some (some (.ref (He.ga K "BadMend")))),
  decide (PySem.W.kitOne K (.ref (He.ga K "BadName")) (.ref (He.ga K "BadMend")) = some false),
  decide (PySem.W.nsIn K mainGlobals "Clash" = some (some (.ref (He.ga K "Clash")))),
  decide (PySem.W.kitOne K (.ref (He.ga K "BadName")) (.ref (He.ga K "Clash")) = some false),
  decide (PySem.W.nsIn K mainGlobals "Refused" = some (some (.ref (He.ga K "Refused")))),
  decide (PySem.W.kitOne K (.ref (He.ga K "BadName")) (.ref (He.ga K "Refused")) = some false),
  decide (PySem.W.nsIn K mainGlobals "WrongToken" = some (some (.ref (He.ga K "WrongToken")))),
  decide (PySem.W.kitOne K (.ref (He.ga K "BadName")) (.ref (He.ga K "WrongToken")) = some false),
  decide (PySem.W.kitOne K (.ref (He.ga K "BadName")) (.type "ValueError") = some true),
  decide (PySem.W.nsIn K mainGlobals "BadName" = some (some (.ref (He.ga K "BadName")))),
  decide (PySem.W.kitOne K (.ref (He.ga K "NoRule")) (.ref (He.ga K "BadName")) = some false),
  decide (PySem.W.nsIn K mainGlobals "NoRule" = some (some (.ref (He.ga K "NoRule")))),
  decide (PySem.W.kitOne K (.ref (He.ga K "NoRule")) (.ref (He.ga K "NoRule")) = some true),
  decide (PySem.W.nsIn K mainGlobals "Useless" = some (some (.ref (He.ga K "Useless")))),
  decide (PySem.W.kitOne K (.ref (He.ga K "NoRule")) (.ref (He.ga K "Useless")) = some false),
  decide (PySem.W.nsIn K mainGlobals "Hollow" = some (some (.ref (He.ga K "Hollow")))),
  decide (PySem.W.kitOne K (.ref (He.ga K "NoRule")) (.ref (He.ga K "Hollow")) = some false),
  decide (PySem.W.nsIn K mainGlobals "SameName" = some (some (.ref (He.ga K "SameName")))),
  decide (PySem.W.kitOne K (.ref (He.ga K "NoRule")) (.ref (He.ga K "SameName")) = some false)]
def gb22 (K : PySem.W.Frag) : List Bool := [decide (PySem.W.nsIn K mainGlobals "UnknownName" = some (some (.ref (He.ga K "UnknownName")))),
  decide (PySem.W.kitOne K (.ref (He.ga K "NoRule")) (.ref (He.ga K "UnknownName")) = some false),
  decide (PySem.W.nsIn K mainGlobals "BadLine" = some (some (.ref (He.ga K "BadLine")))),
  decide (PySem.W.kitOne K (.ref (He.ga K "NoRule")) (.ref (He.ga K "BadLine")) = some false),
  decide (PySem.W.nsIn K mainGlobals "BadMark" = some (some (.ref (He.ga K "BadMark")))),
  decide (PySem.W.kitOne K (.ref (He.ga K "NoRule")) (.ref (He.ga K "BadMark")) = some false),
  decide (PySem.W.nsIn K mainGlobals "BadMend" = some (some (.ref (He.ga K "BadMend")))),
  decide (PySem.W.kitOne K (.ref (He.ga K "NoRule")) (.ref (He.ga K "BadMend")) = some false),
  decide (PySem.W.nsIn K mainGlobals "Clash" = some (some (.ref (He.ga K "Clash")))),
  decide (PySem.W.kitOne K (.ref (He.ga K "NoRule")) (.ref (He.ga K "Clash")) = some false),
  decide (PySem.W.nsIn K mainGlobals "Refused" = some (some (.ref (He.ga K "Refused")))),
  decide (PySem.W.kitOne K (.ref (He.ga K "NoRule")) (.ref (He.ga K "Refused")) = some false),
  decide (PySem.W.nsIn K mainGlobals "WrongToken" = some (some (.ref (He.ga K "WrongToken")))),
  decide (PySem.W.kitOne K (.ref (He.ga K "NoRule")) (.ref (He.ga K "WrongToken")) = some false),
  decide (PySem.W.kitOne K (.ref (He.ga K "NoRule")) (.type "ValueError") = some true),
  decide (PySem.W.nsIn K mainGlobals "BadName" = some (some (.ref (He.ga K "BadName")))),
  decide (PySem.W.kitOne K (.ref (He.ga K "Useless")) (.ref (He.ga K "BadName")) = some false),
  decide (PySem.W.nsIn K mainGlobals "NoRule" = some (some (.ref (He.ga K "NoRule")))),
  decide (PySem.W.kitOne K (.ref (He.ga K "Useless")) (.ref (He.ga K "NoRule")) = some false),
  decide (PySem.W.nsIn K mainGlobals "Useless" = some (some (.ref (He.ga K "Useless"))))]
def gb23 (K : PySem.W.Frag) : List Bool := [decide (PySem.W.kitOne K (.ref (He.ga K "Useless")) (.ref (He.ga K "Useless")) = some true),
  decide (PySem.W.nsIn K mainGlobals "Hollow" = some (some (.ref (He.ga K "Hollow")))),
  decide (PySem.W.kitOne K (.ref (He.ga K "Useless")) (.ref (He.ga K "Hollow")) = some false),
  decide (PySem.W.nsIn K mainGlobals "SameName" = some (some (.ref (He.ga K "SameName")))),
  decide (PySem.W.kitOne K (.ref (He.ga K "Useless")) (.ref (He.ga K "SameName")) = some false),
  decide (PySem.W.nsIn K mainGlobals "UnknownName" = some (some (.ref (He.ga K "UnknownName")))),
  decide (PySem.W.kitOne K (.ref (He.ga K "Useless")) (.ref (He.ga K "UnknownName")) = some false),
  decide (PySem.W.nsIn K mainGlobals "BadLine" = some (some (.ref (He.ga K "BadLine")))),
  decide (PySem.W.kitOne K (.ref (He.ga K "Useless")) (.ref (He.ga K "BadLine")) = some false),
  decide (PySem.W.nsIn K mainGlobals "BadMark" = some (some (.ref (He.ga K "BadMark")))),
  decide (PySem.W.kitOne K (.ref (He.ga K "Useless")) (.ref (He.ga K "BadMark")) = some false),
  decide (PySem.W.nsIn K mainGlobals "BadMend" = some (some (.ref (He.ga K "BadMend")))),
  decide (PySem.W.kitOne K (.ref (He.ga K "Useless")) (.ref (He.ga K "BadMend")) = some false),
  decide (PySem.W.nsIn K mainGlobals "Clash" = some (some (.ref (He.ga K "Clash")))),
  decide (PySem.W.kitOne K (.ref (He.ga K "Useless")) (.ref (He.ga K "Clash")) = some false),
  decide (PySem.W.nsIn K mainGlobals "Refused" = some (some (.ref (He.ga K "Refused")))),
  decide (PySem.W.kitOne K (.ref (He.ga K "Useless")) (.ref (He.ga K "Refused")) = some false),
  decide (PySem.W.nsIn K mainGlobals "WrongToken" = some (some (.ref (He.ga K "WrongToken")))),
  decide (PySem.W.kitOne K (.ref (He.ga K "Useless")) (.ref (He.ga K "WrongToken")) = some false),
  decide (PySem.W.kitOne K (.ref (He.ga K "Useless")) (.type "ValueError") = some true)]
def gb24 (K : PySem.W.Frag) : List Bool := [decide (PySem.W.nsIn K mainGlobals "BadName" = some (some (.ref (He.ga K "BadName")))),
  decide (PySem.W.kitOne K (.ref (He.ga K "Hollow")) (.ref (He.ga K "BadName")) = some false),
  decide (PySem.W.nsIn K mainGlobals "NoRule" = some (some (.ref (He.ga K "NoRule")))),
  decide (PySem.W.kitOne K (.ref (He.ga K "Hollow")) (.ref (He.ga K "NoRule")) = some false),
  decide (PySem.W.nsIn K mainGlobals "Useless" = some (some (.ref (He.ga K "Useless")))),
  decide (PySem.W.kitOne K (.ref (He.ga K "Hollow")) (.ref (He.ga K "Useless")) = some false),
  decide (PySem.W.nsIn K mainGlobals "Hollow" = some (some (.ref (He.ga K "Hollow")))),
  decide (PySem.W.kitOne K (.ref (He.ga K "Hollow")) (.ref (He.ga K "Hollow")) = some true),
  decide (PySem.W.nsIn K mainGlobals "SameName" = some (some (.ref (He.ga K "SameName")))),
  decide (PySem.W.kitOne K (.ref (He.ga K "Hollow")) (.ref (He.ga K "SameName")) = some false),
  decide (PySem.W.nsIn K mainGlobals "UnknownName" = some (some (.ref (He.ga K "UnknownName")))),
  decide (PySem.W.kitOne K (.ref (He.ga K "Hollow")) (.ref (He.ga K "UnknownName")) = some false),
  decide (PySem.W.nsIn K mainGlobals "BadLine" = some (some (.ref (He.ga K "BadLine")))),
  decide (PySem.W.kitOne K (.ref (He.ga K "Hollow")) (.ref (He.ga K "BadLine")) = some false),
  decide (PySem.W.nsIn K mainGlobals "BadMark" = some (some (.ref (He.ga K "BadMark")))),
  decide (PySem.W.kitOne K (.ref (He.ga K "Hollow")) (.ref (He.ga K "BadMark")) = some false),
  decide (PySem.W.nsIn K mainGlobals "BadMend" = some (some (.ref (He.ga K "BadMend")))),
  decide (PySem.W.kitOne K (.ref (He.ga K "Hollow")) (.ref (He.ga K "BadMend")) = some false),
  decide (PySem.W.nsIn K mainGlobals "Clash" = some (some (.ref (He.ga K "Clash")))),
  decide (PySem.W.kitOne K (.ref (He.ga K "Hollow")) (.ref (He.ga K "Clash")) = some false)]
def gb25 (K : PySem.W.Frag) : List Bool := [decide (PySem.W.nsIn K mainGlobals "Refused" = some (some (.ref (He.ga K "Refused")))),
  decide (PySem.W.kitOne K (.ref (He.ga K "Hollow")) (.ref (He.ga K "Refused")) = some false),
  decide (PySem.W.nsIn K mainGlobals "WrongToken" = some (some (.ref (He.ga K "WrongToken")))),
  decide (PySem.W.kitOne K (.ref (He.ga K "Hollow")) (.ref (He.ga K "WrongToken")) = some false),
  decide (PySem.W.kitOne K (.ref (He.ga K "Hollow")) (.type "ValueError") = some true),
  decide (PySem.W.nsIn K mainGlobals "BadName" = some (some (.ref (He.ga K "BadName")))),
  decide (PySem.W.kitOne K (.ref (He.ga K "SameName")) (.ref (He.ga K "BadName")) = some false),
  decide (PySem.W.nsIn K mainGlobals "NoRule" = some (some (.ref (He.ga K "NoRule")))),
  decide (PySem.W.kitOne K (.ref (He.ga K "SameName")) (.ref (He.ga K "NoRule")) = some false),
  decide (PySem.W.nsIn K mainGlobals "Useless" = some (some (.ref (He.ga K "Useless")))),
  decide (PySem.W.kitOne K (.ref (He.ga K "SameName")) (.ref (He.ga K "Useless")) = some false),
  decide (PySem.W.nsIn K mainGlobals "Hollow" = some (some (.ref (He.ga K "Hollow")))),
  decide (PySem.W.kitOne K (.ref (He.ga K "SameName")) (.ref (He.ga K "Hollow")) = some false),
  decide (PySem.W.nsIn K mainGlobals "SameName" = some (some (.ref (He.ga K "SameName")))),
  decide (PySem.W.kitOne K (.ref (He.ga K "SameName")) (.ref (He.ga K "SameName")) = some true),
  decide (PySem.W.nsIn K mainGlobals "UnknownName" = some (some (.ref (He.ga K "UnknownName")))),
  decide (PySem.W.kitOne K (.ref (He.ga K "SameName")) (.ref (He.ga K "UnknownName")) = some false),
  decide (PySem.W.nsIn K mainGlobals "BadLine" = some (some (.ref (He.ga K "BadLine")))),
  decide (PySem.W.kitOne K (.ref (He.ga K "SameName")) (.ref (He.ga K "BadLine")) = some false),
  decide (PySem.W.nsIn K mainGlobals "BadMark" = some (some (.ref (He.ga K "BadMark"))))]
def gb26 (K : PySem.W.Frag) : List Bool := [decide (PySem.W.kitOne K (.ref (He.ga K "SameName")) (.ref (He.ga K "BadMark")) = some false),
  decide (PySem.W.nsIn K mainGlobals "BadMend" = some (some (.ref (He.ga K "BadMend")))),
  decide (PySem.W.kitOne K (.ref (He.ga K "SameName")) (.ref (He.ga K "BadMend")) = some false),
  decide (PySem.W.nsIn K mainGlobals "Clash" = some (some (.ref (He.ga K "Clash")))),
  decide (PySem.W.kitOne K (.ref (He.ga K "SameName")) (.ref (He.ga K "Clash")) = some false),
  decide (PySem.W.nsIn K mainGlobals "Refused" = some (some (.ref (He.ga K "Refused")))),
  decide (PySem.W.kitOne K (.ref (He.ga K "SameName")) (.ref (He.ga K "Refused")) = some false),
  decide (PySem.W.nsIn K mainGlobals "WrongToken" = some (some (.ref (He.ga K "WrongToken")))),
  decide (PySem.W.kitOne K (.ref (He.ga K "SameName")) (.ref (He.ga K "WrongToken")) = some false),
  decide (PySem.W.kitOne K (.ref (He.ga K "SameName")) (.type "ValueError") = some true),
  decide (PySem.W.nsIn K mainGlobals "BadName" = some (some (.ref (He.ga K "BadName")))),
  decide (PySem.W.kitOne K (.ref (He.ga K "UnknownName")) (.ref (He.ga K "BadName")) = some false),
  decide (PySem.W.nsIn K mainGlobals "NoRule" = some (some (.ref (He.ga K "NoRule")))),
  decide (PySem.W.kitOne K (.ref (He.ga K "UnknownName")) (.ref (He.ga K "NoRule")) = some false),
  decide (PySem.W.nsIn K mainGlobals "Useless" = some (some (.ref (He.ga K "Useless")))),
  decide (PySem.W.kitOne K (.ref (He.ga K "UnknownName")) (.ref (He.ga K "Useless")) = some false),
  decide (PySem.W.nsIn K mainGlobals "Hollow" = some (some (.ref (He.ga K "Hollow")))),
  decide (PySem.W.kitOne K (.ref (He.ga K "UnknownName")) (.ref (He.ga K "Hollow")) = some false),
  decide (PySem.W.nsIn K mainGlobals "SameName" = some (some (.ref (He.ga K "SameName")))),
  decide (PySem.W.kitOne K (.ref (He.ga K "UnknownName")) (.ref (He.ga K "SameName")) = some false)]
def gb27 (K : PySem.W.Frag) : List Bool := [decide (PySem.W.nsIn K mainGlobals "UnknownName" = some (some (.ref (He.ga K "UnknownName")))),
  decide (PySem.W.kitOne K (.ref (He.ga K "UnknownName")) (.ref (He.ga K "UnknownName")) = some true),
  decide (PySem.W.nsIn K mainGlobals "BadLine" = some (some (.ref (He.ga K "BadLine")))),
  decide (PySem.W.kitOne K (.ref (He.ga K "UnknownName")) (.ref (He.ga K "BadLine")) = some false),
  decide (PySem.W.nsIn K mainGlobals "BadMark" = some (some (.ref (He.ga K "BadMark")))),
  decide (PySem.W.kitOne K (.ref (He.ga K "UnknownName")) (.ref (He.ga K "BadMark")) = some false),
  decide (PySem.W.nsIn K mainGlobals "BadMend" = some (some (.ref (He.ga K "BadMend")))),
  decide (PySem.W.kitOne K (.ref (He.ga K "UnknownName")) (.ref (He.ga K "BadMend")) = some false),
  decide (PySem.W.nsIn K mainGlobals "Clash" = some (some (.ref (He.ga K "Clash")))),
  decide (PySem.W.kitOne K (.ref (He.ga K "UnknownName")) (.ref (He.ga K "Clash")) = some false),
  decide (PySem.W.nsIn K mainGlobals "Refused" = some (some (.ref (He.ga K "Refused")))),
  decide (PySem.W.kitOne K (.ref (He.ga K "UnknownName")) (.ref (He.ga K "Refused")) = some false),
  decide (PySem.W.nsIn K mainGlobals "WrongToken" = some (some (.ref (He.ga K "WrongToken")))),
  decide (PySem.W.kitOne K (.ref (He.ga K "UnknownName")) (.ref (He.ga K "WrongToken")) = some false),
  decide (PySem.W.kitOne K (.ref (He.ga K "UnknownName")) (.type "ValueError") = some true),
  decide (PySem.W.nsIn K mainGlobals "BadName" = some (some (.ref (He.ga K "BadName")))),
  decide (PySem.W.kitOne K (.ref (He.ga K "BadLine")) (.ref (He.ga K "BadName")) = some false),
  decide (PySem.W.nsIn K mainGlobals "NoRule" = some (some (.ref (He.ga K "NoRule")))),
  decide (PySem.W.kitOne K (.ref (He.ga K "BadLine")) (.ref (He.ga K "NoRule")) = some false),
  decide (PySem.W.nsIn K mainGlobals "Useless" = some (some (.ref (He.ga K "Useless"))))]
def gb28 (K : PySem.W.Frag) : List Bool := [decide (PySem.W.kitOne K (.ref (He.ga K "BadLine")) (.ref (He.ga K "Useless")) = some false),
  decide (PySem.W.nsIn K mainGlobals "Hollow" = some (some (.ref (He.ga K "Hollow")))),
  decide (PySem.W.kitOne K (.ref (He.ga K "BadLine")) (.ref (He.ga K "Hollow")) = some false),
  decide (PySem.W.nsIn K mainGlobals "SameName" = some (some (.ref (He.ga K "SameName")))),
  decide (PySem.W.kitOne K (.ref (He.ga K "BadLine")) (.ref (He.ga K "SameName")) = some false),
  decide (PySem.W.nsIn K mainGlobals "UnknownName" = some (some (.ref (He.ga K "UnknownName")))),
  decide (PySem.W.kitOne K (.ref (He.ga K "BadLine")) (.ref (He.ga K "UnknownName")) = some false),
  decide (PySem.W.nsIn K mainGlobals "BadLine" = some (some (.ref (He.ga K "BadLine")))),
  decide (PySem.W.kitOne K (.ref (He.ga K "BadLine")) (.ref (He.ga K "BadLine")) = some true),
  decide (PySem.W.nsIn K mainGlobals "BadMark" = some (some (.ref (He.ga K "BadMark")))),
  decide (PySem.W.kitOne K (.ref (He.ga K "BadLine")) (.ref (He.ga K "BadMark")) = some false),
  decide (PySem.W.nsIn K mainGlobals "BadMend" = some (some (.ref (He.ga K "BadMend")))),
  decide (PySem.W.kitOne K (.ref (He.ga K "BadLine")) (.ref (He.ga K "BadMend")) = some false),
  decide (PySem.W.nsIn K mainGlobals "Clash" = some (some (.ref (He.ga K "Clash")))),
  decide (PySem.W.kitOne K (.ref (He.ga K "BadLine")) (.ref (He.ga K "Clash")) = some false),
  decide (PySem.W.nsIn K mainGlobals "Refused" = some (some (.ref (He.ga K "Refused")))),
  decide (PySem.W.kitOne K (.ref (He.ga K "BadLine")) (.ref (He.ga K "Refused")) = some false),
  decide (PySem.W.nsIn K mainGlobals "WrongToken" = some (some (.ref (He.ga K "WrongToken")))),
  decide (PySem.W.kitOne K (.ref (He.ga K "BadLine")) (.ref (He.ga K "WrongToken")) = some false),
  decide (PySem.W.kitOne K (.ref (He.ga K "BadLine")) (.type "ValueError") = some true)]
def gb29 (K : PySem.W.Frag) : List Bool := [decide (PySem.W.nsIn K mainGlobals "BadName" = some (some (.ref (He.ga K "BadName")))),
  decide (PySem.W.kitOne K (.ref (He.ga K "BadMark")) (.ref (He.ga K "BadName")) = some false),
  decide (PySem.W.nsIn K mainGlobals "NoRule" = some (some (.ref (He.ga K "NoRule")))),
  decide (PySem.W.kitOne K (.ref (He.ga K "BadMark")) (.ref (He.ga K "NoRule")) = some false),
  decide (PySem.W.nsIn K mainGlobals "Useless" = some (some (.ref (He.ga K "Useless")))),
  decide (PySem.W.kitOne K (.ref (He.ga K "BadMark")) (.ref (He.ga K "Useless")) = some false),
  decide (PySem.W.nsIn K mainGlobals "Hollow" = some (some (.ref (He.ga K "Hollow")))),
  decide (PySem.W.kitOne K (.ref (He.ga K "BadMark")) (.ref (He.ga K "Hollow")) = some false),
  decide (PySem.W.nsIn K mainGlobals "SameName" = some (some (.ref (He.ga K "SameName")))),
  decide (PySem.W.kitOne K (.ref (He.ga K "BadMark")) (.ref (He.ga K "SameName")) = some false),
  decide (PySem.W.nsIn K mainGlobals "UnknownName" = some (some (.ref (He.ga K "UnknownName")))),
  decide (PySem.W.kitOne K (.ref (He.ga K "BadMark")) (.ref (He.ga K "UnknownName")) = some false),
  decide (PySem.W.nsIn K mainGlobals "BadLine" = some (some (.ref (He.ga K "BadLine")))),
  decide (PySem.W.kitOne K (.ref (He.ga K "BadMark")) (.ref (He.ga K "BadLine")) = some false),
  decide (PySem.W.nsIn K mainGlobals "BadMark" = some (some (.ref (He.ga K "BadMark")))),
  decide (PySem.W.kitOne K (.ref (He.ga K "BadMark")) (.ref (He.ga K "BadMark")) = some true),
  decide (PySem.W.nsIn K mainGlobals "BadMend" = some (some (.ref (He.ga K "BadMend")))),
  decide (PySem.W.kitOne K (.ref (He.ga K "BadMark")) (.ref (He.ga K "BadMend")) = some false),
  decide (PySem.W.nsIn K mainGlobals "Clash" = some (some (.ref (He.ga K "Clash")))),
  decide (PySem.W.kitOne K (.ref (He.ga K "BadMark")) (.ref (He.ga K "Clash")) = some false)]
def gb30 (K : PySem.W.Frag) : List Bool := [decide (PySem.W.nsIn K mainGlobals "Refused" = some (some (.ref (He.ga K "Refused")))),
  decide (PySem.W.kitOne K (.ref (He.ga K "BadMark")) (.ref (He.ga K "Refused")) = some false),
  decide (PySem.W.nsIn K mainGlobals "WrongToken" = some (some (.ref (He.ga K "WrongToken")))),
  decide (PySem.W.kitOne K (.ref (He.ga K "BadMark")) (.ref (He.ga K "WrongToken")) = some false),
  decide (PySem.W.kitOne K (.ref (He.ga K "BadMark")) (.type "ValueError") = some true),
  decide (PySem.W.nsIn K mainGlobals "BadName" = some (some (.ref (He.ga K "BadName")))),
  decide (PySem.W.kitOne K (.ref (He.ga K "BadMend")) (.ref (He.ga K "BadName")) = some false),
  decide (PySem.W.nsIn K mainGlobals "NoRule" = some (some (.ref (He.ga K "NoRule")))),
  decide (PySem.W.kitOne K (.ref (He.ga K "BadMend")) (.ref (He.ga K "NoRule")) = some false),
  decide (PySem.W.nsIn K mainGlobals "Useless" = some (some (.ref (He.ga K "Useless")))),
  decide (PySem.W.kitOne K (.ref (He.ga K "BadMend")) (.ref (He.ga K "Useless")) = some false),
  decide (PySem.W.nsIn K mainGlobals "Hollow" = some (some (.ref (He.ga K "Hollow")))),
  decide (PySem.W.kitOne K (.ref (He.ga K "BadMend")) (.ref (He.ga K "Hollow")) = some false),
  decide (PySem.W.nsIn K mainGlobals "SameName" = some (some (.ref (He.ga K "SameName")))),
  decide (PySem.W.kitOne K (.ref (He.ga K "BadMend")) (.ref (He.ga K "SameName")) = some false),
  decide (PySem.W.nsIn K mainGlobals "UnknownName" = some (some (.ref (He.ga K "UnknownName")))),
  decide (PySem.W.kitOne K (.ref (He.ga K "BadMend")) (.ref (He.ga K "UnknownName")) = some false),
  decide (PySem.W.nsIn K mainGlobals "BadLine" = some (some (.ref (He.ga K "BadLine")))),
  decide (PySem.W.kitOne K (.ref (He.ga K "BadMend")) (.ref (He.ga K "BadLine")) = some false),
  decide (PySem.W.nsIn K mainGlobals "BadMark" = some (some (.ref (He.ga K "BadMark"))))]
def gb31 (K : PySem.W.Frag) : List Bool := [decide (PySem.W.kitOne K (.ref (He.ga K "BadMend")) (.ref (He.ga K "BadMark")) = some false),
  decide (PySem.W.nsIn K mainGlobals "BadMend" = some (some (.ref (He.ga K "BadMend")))),
  decide (PySem.W.kitOne K (.ref (He.ga K "BadMend")) (.ref (He.ga K "BadMend")) = some true),
  decide (PySem.W.nsIn K mainGlobals "Clash" = some (some (.ref (He.ga K "Clash")))),
  decide (PySem.W.kitOne K (.ref (He.ga K "BadMend")) (.ref (He.ga K "Clash")) = some false),
  decide (PySem.W.nsIn K mainGlobals "Refused" = some (some (.ref (He.ga K "Refused")))),
  decide (PySem.W.kitOne K (.ref (He.ga K "BadMend")) (.ref (He.ga K "Refused")) = some false),
  decide (PySem.W.nsIn K mainGlobals "WrongToken" = some (some (.ref (He.ga K "WrongToken")))),
  decide (PySem.W.kitOne K (.ref (He.ga K "BadMend")) (.ref (He.ga K "WrongToken")) = some false),
  decide (PySem.W.kitOne K (.ref (He.ga K "BadMend")) (.type "ValueError") = some true),
  decide (PySem.W.nsIn K mainGlobals "BadName" = some (some (.ref (He.ga K "BadName")))),
  decide (PySem.W.kitOne K (.ref (He.ga K "Clash")) (.ref (He.ga K "BadName")) = some false),
  decide (PySem.W.nsIn K mainGlobals "NoRule" = some (some (.ref (He.ga K "NoRule")))),
  decide (PySem.W.kitOne K (.ref (He.ga K "Clash")) (.ref (He.ga K "NoRule")) = some false),
  decide (PySem.W.nsIn K mainGlobals "Useless" = some (some (.ref (He.ga K "Useless")))),
  decide (PySem.W.kitOne K (.ref (He.ga K "Clash")) (.ref (He.ga K "Useless")) = some false),
  decide (PySem.W.nsIn K mainGlobals "Hollow" = some (some (.ref (He.ga K "Hollow")))),
  decide (PySem.W.kitOne K (.ref (He.ga K "Clash")) (.ref (He.ga K "Hollow")) = some false),
  decide (PySem.W.nsIn K mainGlobals "SameName" = some (some (.ref (He.ga K "SameName")))),
  decide (PySem.W.kitOne K (.ref (He.ga K "Clash")) (.ref (He.ga K "SameName")) = some false)]
def gb32 (K : PySem.W.Frag) : List Bool := [decide (PySem.W.nsIn K mainGlobals "UnknownName" = some (some (.ref (He.ga K "UnknownName")))),
  decide (PySem.W.kitOne K (.ref (He.ga K "Clash")) (.ref (He.ga K "UnknownName")) = some false),
  decide (PySem.W.nsIn K mainGlobals "BadLine" = some (some (.ref (He.ga K "BadLine")))),
  decide (PySem.W.kitOne K (.ref (He.ga K "Clash")) (.ref (He.ga K "BadLine")) = some false),
  decide (PySem.W.nsIn K mainGlobals "BadMark" = some (some (.ref (He.ga K "BadMark")))),
  decide (PySem.W.kitOne K (.ref (He.ga K "Clash")) (.ref (He.ga K "BadMark")) = some false),
  decide (PySem.W.nsIn K mainGlobals "BadMend" = some (some (.ref (He.ga K "BadMend")))),
  decide (PySem.W.kitOne K (.ref (He.ga K "Clash")) (.ref (He.ga K "BadMend")) = some false),
  decide (PySem.W.nsIn K mainGlobals "Clash" = some (some (.ref (He.ga K "Clash")))),
  decide (PySem.W.kitOne K (.ref (He.ga K "Clash")) (.ref (He.ga K "Clash")) = some true),
  decide (PySem.W.nsIn K mainGlobals "Refused" = some (some (.ref (He.ga K "Refused")))),
  decide (PySem.W.kitOne K (.ref (He.ga K "Clash")) (.ref (He.ga K "Refused")) = some false),
  decide (PySem.W.nsIn K mainGlobals "WrongToken" = some (some (.ref (He.ga K "WrongToken")))),
  decide (PySem.W.kitOne K (.ref (He.ga K "Clash")) (.ref (He.ga K "WrongToken")) = some false),
  decide (PySem.W.kitOne K (.ref (He.ga K "Clash")) (.type "ValueError") = some true),
  decide (PySem.W.nsIn K mainGlobals "BadName" = some (some (.ref (He.ga K "BadName")))),
  decide (PySem.W.kitOne K (.ref (He.ga K "Refused")) (.ref (He.ga K "BadName")) = some false),
  decide (PySem.W.nsIn K mainGlobals "NoRule" = some (some (.ref (He.ga K "NoRule")))),
  decide (PySem.W.kitOne K (.ref (He.ga K "Refused")) (.ref (He.ga K "NoRule")) = some false),
  decide (PySem.W.nsIn K mainGlobals "Useless" = some (some (.ref (He.ga K "Useless"))))]
def gb33 (K : PySem.W.Frag) : List Bool := [decide (PySem.W.kitOne K (.ref (He.ga K "Refused")) (.ref (He.ga K "Useless")) = some false),
  decide (PySem.W.nsIn K mainGlobals "Hollow" = some (some (.ref (He.ga K "Hollow")))),
  decide (PySem.W.kitOne K (.ref (He.ga K "Refused")) (.ref (He.ga K "Hollow")) = some false),
  decide (PySem.W.nsIn K mainGlobals "SameName" = some (some (.ref (He.ga K "SameName")))),
  decide (PySem.W.kitOne K (.ref (He.ga K "Refused")) (.ref (He.ga K "SameName")) = some false),
  decide (PySem.W.nsIn K mainGlobals "UnknownName" = some (some (.ref (He.ga K "UnknownName")))),
  decide (PySem.W.kitOne K (.ref (He.ga K "Refused")) (.ref (He.ga K "UnknownName")) = some false),
  decide (PySem.W.nsIn K mainGlobals "BadLine" = some (some (.ref (He.ga K "BadLine")))),
  decide (PySem.W.kitOne K (.ref (He.ga K "Refused")) (.ref (He.ga K "BadLine")) = some false),
  decide (PySem.W.nsIn K mainGlobals "BadMark" = some (some (.ref (He.ga K "BadMark")))),
  decide (PySem.W.kitOne K (.ref (He.ga K "Refused")) (.ref (He.ga K "BadMark")) = some false),
  decide (PySem.W.nsIn K mainGlobals "BadMend" = some (some (.ref (He.ga K "BadMend")))),
  decide (PySem.W.kitOne K (.ref (He.ga K "Refused")) (.ref (He.ga K "BadMend")) = some false),
  decide (PySem.W.nsIn K mainGlobals "Clash" = some (some (.ref (He.ga K "Clash")))),
  decide (PySem.W.kitOne K (.ref (He.ga K "Refused")) (.ref (He.ga K "Clash")) = some false),
  decide (PySem.W.nsIn K mainGlobals "Refused" = some (some (.ref (He.ga K "Refused")))),
  decide (PySem.W.kitOne K (.ref (He.ga K "Refused")) (.ref (He.ga K "Refused")) = some true),
  decide (PySem.W.nsIn K mainGlobals "WrongToken" = some (some (.ref (He.ga K "WrongToken")))),
  decide (PySem.W.kitOne K (.ref (He.ga K "Refused")) (.ref (He.ga K "WrongToken")) = some false),
  decide (PySem.W.kitOne K (.ref (He.ga K "Refused")) (.type "ValueError") = some true)]
def gb34 (K : PySem.W.Frag) : List Bool := [decide (PySem.W.nsIn K mainGlobals "BadName" = some (some (.ref (He.ga K "BadName")))),
  decide (PySem.W.kitOne K (.ref (He.ga K "WrongToken")) (.ref (He.ga K "BadName")) = some false),
  decide (PySem.W.nsIn K mainGlobals "NoRule" = some (some (.ref (He.ga K "NoRule")))),
  decide (PySem.W.kitOne K (.ref (He.ga K "WrongToken")) (.ref (He.ga K "NoRule")) = some false),
  decide (PySem.W.nsIn K mainGlobals "Useless" = some (some (.ref (He.ga K "Useless")))),
  decide (PySem.W.kitOne K (.ref (He.ga K "WrongToken")) (.ref (He.ga K "Useless")) = some false),
  decide (PySem.W.nsIn K mainGlobals "Hollow" = some (some (.ref (He.ga K "Hollow")))),
  decide (PySem.W.kitOne K (.ref (He.ga K "WrongToken")) (.ref (He.ga K "Hollow")) = some false),
  decide (PySem.W.nsIn K mainGlobals "SameName" = some (some (.ref (He.ga K "SameName")))),
  decide (PySem.W.kitOne K (.ref (He.ga K "WrongToken")) (.ref (He.ga K "SameName")) = some false),
  decide (PySem.W.nsIn K mainGlobals "UnknownName" = some (some (.ref (He.ga K "UnknownName")))),
  decide (PySem.W.kitOne K (.ref (He.ga K "WrongToken")) (.ref (He.ga K "UnknownName")) = some false),
  decide (PySem.W.nsIn K mainGlobals "BadLine" = some (some (.ref (He.ga K "BadLine")))),
  decide (PySem.W.kitOne K (.ref (He.ga K "WrongToken")) (.ref (He.ga K "BadLine")) = some false),
  decide (PySem.W.nsIn K mainGlobals "BadMark" = some (some (.ref (He.ga K "BadMark")))),
  decide (PySem.W.kitOne K (.ref (He.ga K "WrongToken")) (.ref (He.ga K "BadMark")) = some false),
  decide (PySem.W.nsIn K mainGlobals "BadMend" = some (some (.ref (He.ga K "BadMend")))),
  decide (PySem.W.kitOne K (.ref (He.ga K "WrongToken")) (.ref (He.ga K "BadMend")) = some false),
  decide (PySem.W.nsIn K mainGlobals "Clash" = some (some (.ref (He.ga K "Clash")))),
  decide (PySem.W.kitOne K (.ref (He.ga K "WrongToken")) (.ref (He.ga K "Clash")) = some false)]
def gb35 (K : PySem.W.Frag) : List Bool := [decide (PySem.W.nsIn K mainGlobals "Refused" = some (some (.ref (He.ga K "Refused")))),
  decide (PySem.W.kitOne K (.ref (He.ga K "WrongToken")) (.ref (He.ga K "Refused")) = some false),
  decide (PySem.W.nsIn K mainGlobals "WrongToken" = some (some (.ref (He.ga K "WrongToken")))),
  decide (PySem.W.kitOne K (.ref (He.ga K "WrongToken")) (.ref (He.ga K "WrongToken")) = some true),
  decide (PySem.W.kitOne K (.ref (He.ga K "WrongToken")) (.type "ValueError") = some true),
  decide (PySem.W.nsIn K mainGlobals "TongueError" = some (some (.ref (He.ga K "TongueError")))),
  decide (PySem.W.kitOne K (.ref (He.ga K "BadName")) (.ref (He.ga K "TongueError")) = some true),
  decide (PySem.W.nsIn K mainGlobals "TongueError" = some (some (.ref (He.ga K "TongueError")))),
  decide (PySem.W.kitOne K (.ref (He.ga K "NoRule")) (.ref (He.ga K "TongueError")) = some true),
  decide (PySem.W.nsIn K mainGlobals "TongueError" = some (some (.ref (He.ga K "TongueError")))),
  decide (PySem.W.kitOne K (.ref (He.ga K "Useless")) (.ref (He.ga K "TongueError")) = some true),
  decide (PySem.W.nsIn K mainGlobals "TongueError" = some (some (.ref (He.ga K "TongueError")))),
  decide (PySem.W.kitOne K (.ref (He.ga K "Hollow")) (.ref (He.ga K "TongueError")) = some true),
  decide (PySem.W.nsIn K mainGlobals "TongueError" = some (some (.ref (He.ga K "TongueError")))),
  decide (PySem.W.kitOne K (.ref (He.ga K "SameName")) (.ref (He.ga K "TongueError")) = some true),
  decide (PySem.W.nsIn K mainGlobals "TongueError" = some (some (.ref (He.ga K "TongueError")))),
  decide (PySem.W.kitOne K (.ref (He.ga K "UnknownName")) (.ref (He.ga K "TongueError")) = some true),
  decide (PySem.W.nsIn K mainGlobals "TongueError" = some (some (.ref (He.ga K "TongueError")))),
  decide (PySem.W.kitOne K (.ref (He.ga K "BadLine")) (.ref (He.ga K "TongueError")) = some true),
  decide (PySem.W.nsIn K mainGlobals "TongueError" = some (some (.ref (He.ga K "TongueError"))))]
def gb36 (K : PySem.W.Frag) : List Bool := [decide (PySem.W.kitOne K (.ref (He.ga K "BadMark")) (.ref (He.ga K "TongueError")) = some true),
  decide (PySem.W.nsIn K mainGlobals "TongueError" = some (some (.ref (He.ga K "TongueError")))),
  decide (PySem.W.kitOne K (.ref (He.ga K "BadMend")) (.ref (He.ga K "TongueError")) = some true),
  decide (PySem.W.nsIn K mainGlobals "TongueError" = some (some (.ref (He.ga K "TongueError")))),
  decide (PySem.W.kitOne K (.ref (He.ga K "Clash")) (.ref (He.ga K "TongueError")) = some true),
  decide (PySem.W.nsIn K mainGlobals "TongueError" = some (some (.ref (He.ga K "TongueError")))),
  decide (PySem.W.kitOne K (.ref (He.ga K "Refused")) (.ref (He.ga K "TongueError")) = some true),
  decide (PySem.W.nsIn K mainGlobals "TongueError" = some (some (.ref (He.ga K "TongueError")))),
  decide (PySem.W.kitOne K (.ref (He.ga K "WrongToken")) (.ref (He.ga K "TongueError")) = some true),
  decide (PySem.W.subIn K (.ref (He.ga K "TongueError")) (.type "BaseException") = some true),
  PySem.W.isClsIn K (He.ga K "TongueError"),
  decide (PySem.W.typeIn K (.ref (He.ga K "TongueError")) = some (.type "type")),
  decide (PySem.W.subIn K (.ref (He.ga K "BadName")) (.ref (He.ga K "TongueError")) = some true),
  decide (PySem.W.subIn K (.ref (He.ga K "NoRule")) (.ref (He.ga K "TongueError")) = some true),
  decide (PySem.W.subIn K (.ref (He.ga K "Useless")) (.ref (He.ga K "TongueError")) = some true),
  decide (PySem.W.subIn K (.ref (He.ga K "Hollow")) (.ref (He.ga K "TongueError")) = some true),
  decide (PySem.W.subIn K (.ref (He.ga K "SameName")) (.ref (He.ga K "TongueError")) = some true),
  decide (PySem.W.subIn K (.ref (He.ga K "UnknownName")) (.ref (He.ga K "TongueError")) = some true),
  decide (PySem.W.subIn K (.ref (He.ga K "BadLine")) (.ref (He.ga K "TongueError")) = some true),
  decide (PySem.W.subIn K (.ref (He.ga K "BadMark")) (.ref (He.ga K "TongueError")) = some true)]
def gb37 (K : PySem.W.Frag) : List Bool := [decide (PySem.W.subIn K (.ref (He.ga K "BadMend")) (.ref (He.ga K "TongueError")) = some true),
  decide (PySem.W.subIn K (.ref (He.ga K "Clash")) (.ref (He.ga K "TongueError")) = some true),
  decide (PySem.W.subIn K (.ref (He.ga K "Refused")) (.ref (He.ga K "TongueError")) = some true),
  decide (PySem.W.subIn K (.ref (He.ga K "WrongToken")) (.ref (He.ga K "TongueError")) = some true)]
def gbs (K : PySem.W.Frag) : List Bool := [(gb0 K).all id, (gb1 K).all id, (gb2 K).all id, (gb3 K).all id, (gb4 K).all id, (gb5 K).all id, (gb6 K).all id, (gb7 K).all id, (gb8 K).all id, (gb9 K).all id, (gb10 K).all id, (gb11 K).all id, (gb12 K).all id, (gb13 K).all id, (gb14 K).all id, (gb15 K).all id, (gb16 K).all id, (gb17 K).all id, (gb18 K).all id, (gb19 K).all id, (gb20 K).all id, (gb21 K).all id, (gb22 K).all id, (gb23 K).all id, (gb24 K).all id, (gb25 K).all id, (gb26 K).all id, (gb27 K).all id, (gb28 K).all id, (gb29 K).all id, (gb30 K).all id, (gb31 K).all id, (gb32 K).all id, (gb33 K).all id, (gb34 K).all id, (gb35 K).all id, (gb36 K).all id, (gb37 K).all id]
def others : List Str := (["_wall", "TongueError", "BadName", "NoRule", "Useless", "Hollow", "SameName", "UnknownName", "BadLine", "BadMark", "BadMend", "Clash", "Refused", "WrongToken", "SMALL", "LONGEST", "is_owner", "owner", "is_token", "format_rule", "grouped", "distinct", "Grammar", "Named", "Ruled", "contained", "finished_names", "reached_names", "is_own_head", "check_signs"] : List Str) ++ (["has_mark", "check_marks", "check_own", "Extension", "_law_cell", "_law_draws", "_law_word", "_law_is_sign", "_law_shown", "_law_raised"] : List Str)
abbrev hkR : PySem.W.Hook := hookY 6 (fun K => (gbs K).all id) dts
def obR (s : PySem.W.SharedT) : AlY := obsYG 6 (fun K => (gbs K).all id) dts (HandSHeadRun.getT s)
theorem obR_eq (s : PySem.W.SharedT) : obR s = hkR.obs s.abs := obsYG_eq (HandSHeadRun.getT_eq s)
def gbsA (K : PySem.W.Frag) : List Bool := [(gb0 K).all id, (gb1 K).all id, (gb2 K).all id, (gb3 K).all id]
abbrev hkA : PySem.W.Hook := hookY 6 (fun K => (gbsA K).all id) dts
def obA (s : PySem.W.SharedT) : AlY := obsYG 6 (fun K => (gbsA K).all id) dts (HandSHeadRun.getT s)
set_option maxHeartbeats 0 in
theorem runA (w : World) : HandSHeadRun.RunEq R0 (PySem.W.view R0.prog [45]) hkA obA 40000 others w := by
  intro os
  kernel_rfl
def gbsB (K : PySem.W.Frag) : List Bool := [(gb4 K).all id, (gb5 K).all id, (gb6 K).all id, (gb7 K).all id, (gb8 K).all id, (gb9 K).all id, (gb10 K).all id, (gb11 K).all id, (gb12 K).all id, (gb13 K).all id, (gb14 K).all id, (gb15 K).all id, (gb16 K).all id, (gb17 K).all id, (gb18 K).all id]
abbrev hkB : PySem.W.Hook := hookY 6 (fun K => (gbsB K).all id) []
def obB (s : PySem.W.SharedT) : AlY := obsYG 6 (fun K => (gbsB K).all id) [] (HandSHeadRun.getT s)
set_option maxHeartbeats 0 in
theorem runB (w : World) : HandSHeadRun.RunEq R0 (PySem.W.view R0.prog [45]) hkB obB 40000 others w := by
  intro os
  kernel_rfl
def gbsC (K : PySem.W.Frag) : List Bool := [(gb19 K).all id, (gb20 K).all id, (gb21 K).all id, (gb22 K).all id, (gb23 K).all id, (gb24 K).all id, (gb25 K).all id, (gb26 K).all id, (gb27 K).all id, (gb28 K).all id, (gb29 K).all id, (gb30 K).all id, (gb31 K).all id, (gb32 K).all id, (gb33 K).all id, (gb34 K).all id, (gb35 K).all id, (gb36 K).all id, (gb37 K).all id]
abbrev hkC : PySem.W.Hook := hookY 6 (fun K => (gbsC K).all id) []
def obC (s : PySem.W.SharedT) : AlY := obsYG 6 (fun K => (gbsC K).all id) [] (HandSHeadRun.getT s)
set_option maxHeartbeats 0 in
theorem runC (w : World) : HandSHeadRun.RunEq R0 (PySem.W.view R0.prog [45]) hkC obC 40000 others w := by
  intro os
  kernel_rfl
theorem runR (w : World) : HandSHeadRun.RunEq R0 (PySem.W.view R0.prog [45]) hkR obR 40000 others w := runEq3 (f := gbs) (fa := gbsA) (fb := gbsB) (fc := gbsC) (fun K => rfl) (fun s => rfl) (fun s => rfl) (fun s => rfl) (fun s => rfl) (runA w) (runB w) (runC w)
end
end Gt
open PySem PySem.W PySem.Calls PyProof.Rows in
set_option maxRecDepth 100000 in
set_option maxHeartbeats 0 in
theorem Gt.headR (call : WalkO (view Gt.R0.prog [45]) Gt.others (XL (view Gt.R0.prog [45]) []) Gt.hkR.says Gt.R0.toRowW (HandSHeadRun.topDef Gt.R0.prog 45) [] fun f vs => PySem.call f vs) : PySem.Challenge.rw_guesttongues_k47_errors.Holds := by
  w_on; o_law
  refine HandSHeadRun.head_any (r := Gt.R0) (q := view Gt.R0.prog [45]) (H := Gt.hkR) (ob := Gt.obR) (M := 40000) (loose := Gt.others) (d := HandSHeadRun.topDef Gt.R0.prog 45) (kwd := []) Gt.obR_eq
    (by kernel_rfl) (fun s => by kernel_rfl) Gt.runR (by kernel_rfl) (by kernel_rfl) (by kernel_rfl) (by rfl) (by first | assumption | decide +kernel) (by decide +kernel) ⟨rfl, rfl, rfl, rfl, rfl, by decide +kernel⟩ ?hw call
  case hw => w_witness2
namespace Gt
open PySem PySem.Spec PyProof.Rows L2
section
open PySem PySem.Spec PyProof.Rows L2
inductive A2 {α β : Type} (r : α → β → Prop) : List α → List β → Prop
  | nil : A2 r [] []
  | cons {a : α} {b : β} {as : List α} {bs : List β} : r a b → A2 r as bs → A2 r (a :: as) (b :: bs)
theorem A2.imp {α β : Type} {r q : α → β → Prop} (f : ∀ a b, r a b → q a b) : ∀ {as : List α} {bs : List β}, A2 r as bs → A2 q as bs
  | _, _, .nil => .nil
  | _, _, .cons h t => .cons (f _ _ h) (A2.imp f t)
theorem A2.len {α β : Type} {r : α → β → Prop} : ∀ {as : List α} {bs : List β}, A2 r as bs → as.length = bs.length
  | _, _, .nil => rfl
  | _, _, .cons _ t => by rw [List.length_cons, List.length_cons, A2.len t]
theorem A2.get {α β : Type} {r : α → β → Prop} : ∀ {as : List α} {bs : List β} {i : Nat} {a : α}, A2 r as bs → as[i]? = some a → ∃ b, bs[i]? = some b ∧ r a b
  | _, _, _, _, .nil, e => by simp at e
  | _, _, 0, _, .cons h _, e => by simp at e; subst e; exact ⟨_, rfl, h⟩
  | _, _, i + 1, a, .cons _ t, e => by
    obtain ⟨b, h1, h2⟩ := A2.get (i := i) (a := a) t (by simpa using e)
    exact ⟨b, by simpa using h1, h2⟩
theorem A2.get' {α β : Type} {r : α → β → Prop} : ∀ {as : List α} {bs : List β} {i : Nat} {b : β}, A2 r as bs → bs[i]? = some b → ∃ a, as[i]? = some a ∧ r a b
  | _, _, _, _, .nil, e => by simp at e
  | _, _, 0, _, .cons h _, e => by simp at e; subst e; exact ⟨_, rfl, h⟩
  | _, _, i + 1, b, .cons _ t, e => by
    obtain ⟨a, h1, h2⟩ := A2.get' (i := i) (b := b) t (by simpa using e)
    exact ⟨a, by simpa using h1, h2⟩
theorem A2.app {α β : Type} {r : α → β → Prop} {cs : List α} {ds : List β} (t : A2 r cs ds) : ∀ {as : List α} {bs : List β}, A2 r as bs → A2 r (as ++ cs) (bs ++ ds)
  | _, _, .nil => t
  | _, _, .cons h u => .cons h (A2.app t u)
theorem A2.one {α β : Type} {r : α → β → Prop} {a : α} {b : β} (h : r a b) : A2 r [a] [b] := .cons h .nil
theorem A2.drop {α β : Type} {r : α → β → Prop} : ∀ {as : List α} {bs : List β} (n : Nat), A2 r as bs → A2 r (as.drop n) (bs.drop n)
  | _, _, 0, h => h
  | _, _, _ + 1, .nil => .nil
  | _, _, n + 1, .cons _ t => A2.drop n t
theorem A2.take {α β : Type} {r : α → β → Prop} : ∀ {as : List α} {bs : List β} (n : Nat), A2 r as bs → A2 r (as.take n) (bs.take n)
  | _, _, 0, _ => .nil
  | _, _, _ + 1, .nil => .nil
  | _, _, n + 1, .cons h t => .cons h (A2.take n t)
theorem A2.rev {α β : Type} {r : α → β → Prop} : ∀ {as : List α} {bs : List β}, A2 r as bs → A2 r as.reverse bs.reverse
  | _, _, .nil => .nil
  | _, _, .cons h t => by
    rw [List.reverse_cons, List.reverse_cons]
    exact A2.app (.one h) (A2.rev t)
theorem A2.set {α β : Type} {r : α → β → Prop} {a : α} {b : β} (h : r a b) : ∀ {as : List α} {bs : List β} (i : Nat), A2 r as bs → A2 r (as.set i a) (bs.set i b)
  | _, _, _, .nil => .nil
  | _, _, 0, .cons _ t => .cons h t
  | _, _, i + 1, .cons q t => .cons q (A2.set h i t)
theorem A2.map_eq {α β : Type} {f : β → α} : ∀ {as : List α} {bs : List β}, A2 (fun a b => a = f b) as bs → as = bs.map f
  | _, _, .nil => rfl
  | _, _, .cons h t => by rw [List.map_cons, ← A2.map_eq t, h]
theorem A2.of_map {α β : Type} {f : β → α} : ∀ (bs : List β), A2 (fun a b => a = f b) (bs.map f) bs
  | [] => .nil
  | _ :: r => .cons rfl (A2.of_map r)
def SqD (K : PySem.W.Frag) (H : Hp) (a : Addr) (xs : List V) : Prop :=
  (∃ o, H a = some (.frz o (.tup xs)) ∧ o.dict = none) ∨
    ∃ (o : Obj) (its : Array Value) (n : Nat), K.lookup a = some o ∧ o.dict = none ∧ o.cls = .type "tuple" ∧ o.data = .seq its n ∧ its.size ≤ sizeLine ∧ Vals xs its.toList
theorem SqD.t {K : PySem.W.Frag} {H : Hp} {a : Addr} {xs : List V} (h : SqD K H a xs) : SqT K H a xs := by
  rcases h with ⟨o, h, _⟩ | ⟨o, its, n, h1, _, h2, h3⟩
  · exact .inl (.inr ⟨o, h⟩)
  · exact .inr ⟨o, its, n, h1, h2, h3⟩
instance {K : PySem.W.Frag} {H : Hp} {a : Addr} {xs : List V} : Coe (SqD K H a xs) (SqT K H a xs) := ⟨SqD.t⟩
theorem SqD.of {K : PySem.W.Frag} {H : Hp} {a : Addr} {o : Obj} {xs : List V} (h : H a = some (.frz o (.tup xs))) (hd : o.dict = none) : SqD K H a xs := .inl ⟨o, h, hd⟩
def isTup : HO → Prop
  | .tup _ => True
  | .frz _ _ => True
  | _ => False
def isT : HO → Prop
  | .tup _ => True
  | .frz _ (.tup _) => True
  | _ => False
theorem isT.up : ∀ {o : HO}, isT o → isTup o
  | .tup _, _ => trivial
  | .frz _ _, _ => trivial
structure ExT (K : PySem.W.Frag) (H H' : Hp) : Prop where
  t : ∀ a xs, SqT K H a xs → SqT K H' a xs
  d : ∀ a xs, SqD K H a xs → SqD K H' a xs
instance {K : PySem.W.Frag} {H H' : Hp} : CoeFun (ExT K H H') (fun _ => ∀ a xs, SqT K H a xs → SqT K H' a xs) := ⟨ExT.t⟩
theorem ExT.refl {K : PySem.W.Frag} (H : Hp) : ExT K H H := ⟨fun _ _ h => h, fun _ _ h => h⟩
theorem ExT.trans {K : PySem.W.Frag} {H H1 H2 : Hp} (a : ExT K H H1) (b : ExT K H1 H2) : ExT K H H2 := ⟨fun x o h => b.t x o (a.t x o h), fun x o h => b.d x o (a.d x o h)⟩
theorem ExT.mk' {K : PySem.W.Frag} {H H' : Hp} (f : ∀ a o, isT o → H a = some o → H' a = some o) : ExT K H H' := by
  refine ⟨fun a xs h => ?_, fun a xs h => ?_⟩
  · rcases h with (h | ⟨o, h⟩) | h
    · exact .inl (.inl (f _ _ trivial h))
    · exact .inl (.inr ⟨o, f _ _ trivial h⟩)
    · exact .inr h
  · rcases h with ⟨o, h, hd⟩ | h
    · exact .inl ⟨o, f _ _ trivial h, hd⟩
    · exact .inr h
theorem ext_same {K : PySem.W.Frag} {H H' : Hp} (e : Same H H') : ExT K H H' := .mk' fun _ _ _ h => e _ _ h
theorem ext_upd {K : PySem.W.Frag} {H : Hp} {p : Addr} {o u : HO} (h : H p = some o) (n : ¬ isTup o) : ExT K H (upd H p u) := .mk' fun a w t e => by
  have hne : a ≠ p := fun z => by
    subst z
    rw [h] at e
    cases e
    exact n t.up
  rw [upd_ne hne]
  exact e
abbrev Rp (β : Type) := Hp → V → β → Prop
class Mono {β : Type} (r : Rp β) : Prop where
  up : ∀ {H H' : Hp} {v : V} {b : β}, Same H H' → r H v b → r H' v b
class Frz (K : PySem.W.Frag) {β : Type} (r : Rp β) : Prop where
  up : ∀ {H H' : Hp} {v : V} {b : β}, ExT K H H' → r H v b → r H' v b
theorem Frz.mono {K : PySem.W.Frag} {β : Type} {r : Rp β} [F : Frz K r] {H H' : Hp} {v : V} {b : β} (e : Same H H') (h : r H v b) : r H' v b := F.up (ext_same e) h
def rI : Rp Int := fun _ v n => v = .int n
def rB : Rp Bool := fun _ v n => v = .bl n
def okS (s : Str) : Prop := s.length ≤ 100000 ∧ s.cps.all (fun c => decide (c < 0x110000)) = true
instance (s : Str) : Decidable (okS s) := by unfold okS; infer_instance
theorem okS_chr {s : Str} {c : Nat} (h : okS s) (hc : c ∈ s.cps.toList) : okS ⟨#[c]⟩ := by
  refine ⟨by show 1 ≤ 100000; decide, ?_⟩
  have := h.2
  rw [← Array.all_toList, List.all_eq_true] at this
  show (#[c].all fun c => decide (c < 0x110000)) = true
  rw [← Array.all_toList]
  simpa using this c hc
theorem okS_app {s t : Str} (h : okS s) (h' : okS t) (hz : s.length + t.length ≤ 100000) : okS (s ++ t) := by
  refine ⟨?_, ?_⟩
  · show (s.cps ++ t.cps).size ≤ 100000
    rw [Array.size_append]
    exact hz
  · show (s.cps ++ t.cps).all (fun c => decide (c < 0x110000)) = true
    rw [Array.all_append, h.2, h'.2]
    rfl
def rS : Rp Str := fun _ v n => v = .str n ∧ okS n
def rN : Rp Unit := fun _ v _ => v = .non
def rV : Rp V := fun _ v w => v = w
def rO {β : Type} (r : Rp β) : Rp (Option β) := fun H v o => match o with
  | .none => v = .non
  | .some b => r H v b
def rT (K : PySem.W.Frag) {β : Type} (r : Rp β) : Rp (List β) := fun H v xs => ∃ a vs, v = .ref a ∧ SqD K H a vs ∧ A2 (r H) vs xs
def rY (K : PySem.W.Frag) {β : Type} (r : Rp β) : Rp (List β) := fun H v xs => ∃ a vs, v = .ref a ∧ SqT K H a vs ∧ A2 (r H) vs xs
def rP (K : PySem.W.Frag) {α β : Type} (r : Rp α) (q : Rp β) : Rp (α × β) := fun H v p => ∃ a x y, v = .ref a ∧ SqT K H a [x, y] ∧ r H x p.1 ∧ q H y p.2
def rL {β : Type} (r : Rp β) : Rp (List β) := fun H v xs => ∃ a vs, v = .ref a ∧ H a = some (.lst vs) ∧ A2 (r H) vs xs
section
variable {K : PySem.W.Frag} {α β : Type}
instance : Mono rI := ⟨fun _ h => h⟩
instance : Mono rB := ⟨fun _ h => h⟩
instance : Mono rS := ⟨fun _ h => h⟩
instance : Mono rN := ⟨fun _ h => h⟩
instance : Mono rV := ⟨fun _ h => h⟩
instance : Frz K rI := ⟨fun _ h => h⟩
instance : Frz K rB := ⟨fun _ h => h⟩
instance : Frz K rS := ⟨fun _ h => h⟩
instance : Frz K rN := ⟨fun _ h => h⟩
instance : Frz K rV := ⟨fun _ h => h⟩
instance {r : Rp β} [M : Mono r] : Mono (rO r) := ⟨fun {_ _ _ b} e h => match b, h with
  | .none, h => h
  | .some _, h => M.up (v := _) e h⟩
instance {r : Rp β} [M : Frz K r] : Frz K (rO r) := ⟨fun {_ _ _ b} e h => match b, h with
  | .none, h => h
  | .some _, h => M.up (v := _) e h⟩
instance {r : Rp β} [M : Mono r] : Mono (rT K r) := ⟨fun e ⟨a, vs, ev, h, q⟩ => ⟨a, vs, ev, (ext_same e).d _ _ h, q.imp fun _ _ z => M.up e z⟩⟩
instance {r : Rp β} [M : Mono r] : Mono (rY K r) := ⟨fun e ⟨a, vs, ev, h, q⟩ => ⟨a, vs, ev, ext_same e _ _ h, q.imp fun _ _ z => M.up e z⟩⟩
instance {r : Rp β} [M : Frz K r] : Frz K (rT K r) := ⟨fun e ⟨a, vs, ev, h, q⟩ => ⟨a, vs, ev, e.d _ _ h, q.imp fun _ _ z => M.up e z⟩⟩
instance {r : Rp β} [M : Frz K r] : Frz K (rY K r) := ⟨fun e ⟨a, vs, ev, h, q⟩ => ⟨a, vs, ev, e _ _ h, q.imp fun _ _ z => M.up e z⟩⟩
instance {r : Rp α} {q : Rp β} [M : Mono r] [N : Mono q] : Mono (rP K r q) := ⟨fun e ⟨a, x, y, ev, h, h1, h2⟩ => ⟨a, x, y, ev, ext_same e _ _ h, M.up e h1, N.up e h2⟩⟩
instance {r : Rp α} {q : Rp β} [M : Frz K r] [N : Frz K q] : Frz K (rP K r q) := ⟨fun e ⟨a, x, y, ev, h, h1, h2⟩ => ⟨a, x, y, ev, e _ _ h, M.up e h1, N.up e h2⟩⟩
instance {r : Rp β} [M : Mono r] : Mono (rL r) := ⟨fun e ⟨a, vs, ev, h, q⟩ => ⟨a, vs, ev, e _ _ h, q.imp fun _ _ z => M.up e z⟩⟩
end
structure Rs (K : PySem.W.Frag) (β : Type) where
  rep : Hp → V → β → List Addr → Prop
  stay : ∀ {H H' : Hp} {v : V} {b : β} {as : List Addr}, rep H v b as → ExT K H H' → (∀ p, p ∈ as → ∀ o, H p = some o → H' p = some o) → rep H' v b as
  there : ∀ {H : Hp} {v : V} {b : β} {as : List Addr}, rep H v b as → ∀ p, p ∈ as → ∃ o, H p = some o ∧ ¬ isTup o
def Stb (K : PySem.W.Frag) {β : Type} (r : Rp β) : Rp β := fun H v b => ∀ H', ExT K H H' → r H' v b
theorem Stb.up {K : PySem.W.Frag} {β : Type} {r : Rp β} {H H' : Hp} {v : V} {b : β} (x : ExT K H H') (h : Stb K r H v b) : Stb K r H' v b := fun H2 y => h H2 (x.trans y)
theorem Stb.now {K : PySem.W.Frag} {β : Type} {r : Rp β} {H : Hp} {v : V} {b : β} (h : Stb K r H v b) : r H v b := h H (ExT.refl H)
theorem stb {K : PySem.W.Frag} {β : Type} {r : Rp β} [F : Frz K r] {H : Hp} {v : V} {b : β} (h : r H v b) : Stb K r H v b := fun _ x => F.up x h
theorem stbs {K : PySem.W.Frag} {β : Type} {r : Rp β} [F : Frz K r] {H : Hp} {vs : List V} {bs : List β} (h : A2 (r H) vs bs) : A2 (Stb K r H) vs bs := h.imp fun _ _ z => stb z
theorem nows {K : PySem.W.Frag} {β : Type} {r : Rp β} {H : Hp} {vs : List V} {bs : List β} (h : A2 (Stb K r H) vs bs) : A2 (r H) vs bs := h.imp fun _ _ z => z.now
def fz (K : PySem.W.Frag) {β : Type} (r : Rp β) : Rs K β where
  rep := fun H v b as => as = [] ∧ Stb K r H v b
  stay := fun ⟨e, h⟩ x _ => ⟨e, h.up x⟩
  there := fun ⟨e, _⟩ p hp => by rw [e] at hp; cases hp
def nl (K : PySem.W.Frag) {β : Type} (r : Rp β) : Rs K (List β) where
  rep := fun H v xs as => ∃ p vs, as = [p] ∧ v = .ref p ∧ H p = some (.lst vs) ∧ A2 (Stb K r H) vs xs
  stay := fun ⟨p, vs, e, ev, h, q⟩ x k => ⟨p, vs, e, ev, k p (by rw [e]; exact List.mem_singleton.mpr rfl) _ h, q.imp fun _ _ z => z.up x⟩
  there := fun ⟨p, vs, e, _, h, _⟩ b hb => by
    rw [e] at hb
    cases List.mem_singleton.mp hb
    exact ⟨_, h, fun z => z⟩
def nd (K : PySem.W.Frag) {β : Type} (r : Rp β) : Rs K (List (Str × β)) where
  rep := fun H v xs as => ∃ p kvs, as = [p] ∧ v = .ref p ∧ H p = some (.dK kvs) ∧ A2 (fun (x : Key × V) (y : Str × β) => (x.1 = Sum.inr y.1 ∧ okS y.1) ∧ Stb K r H x.2 y.2) kvs xs
  stay := fun ⟨p, vs, e, ev, h, q⟩ x k => ⟨p, vs, e, ev, k p (by rw [e]; exact List.mem_singleton.mpr rfl) _ h, q.imp fun _ _ z => ⟨z.1, z.2.up x⟩⟩
  there := fun ⟨p, vs, e, _, h, _⟩ b hb => by
    rw [e] at hb
    cases List.mem_singleton.mp hb
    exact ⟨_, h, fun z => z⟩
inductive Cell (K : PySem.W.Frag) : Type 1
  | ow {β : Type} (R : Rs K β) (b : β)
  | ro {β : Type} (r : Rp β) (m : Mono r) (b : β)
def Cell.ok {K : PySem.W.Frag} (H0 H : Hp) (v : V) (as : List Addr) : Cell K → Prop
  | .ow R b => R.rep H v b as
  | .ro r _ b => as = [] ∧ r H0 v b
abbrev fc {K : PySem.W.Frag} {β : Type} (r : Rp β) (b : β) : Option (Cell K) := some (.ow (fz K r) b)
abbrev rc {K : PySem.W.Frag} {β : Type} (r : Rp β) [m : Mono r] (b : β) : Option (Cell K) := some (.ro r m b)
abbrev Cells (K : PySem.W.Frag) := List (Option (Cell K))
structure Env {K : PySem.W.Frag} (H0 : Hp) (σ : L2.St) (H : Hp) (G : Cells K) : Prop where
  old : Same H0 H
  len : σ.length = G.length
  at_ : ∃ own : Nat → List Addr, (∀ i p, p ∈ own i → H0 p = none ∧ ∃ o, H p = some o ∧ ¬ isTup o) ∧ (∀ i j p, p ∈ own i → p ∈ own j → i = j) ∧
    ∀ (i : Nat) (c : Cell K), G[i]? = some (some c) → ∃ v, σ[i]? = some (some v) ∧ c.ok H0 H v (own i)
section
variable {K : PySem.W.Frag} {H0 H H' : Hp} {σ : L2.St} {G G' : Cells K} {α β γ : Type}
theorem cell_stay {c : Cell K} {v : V} {as : List Addr} (h : c.ok H0 H v as) (x : ExT K H H') (k : ∀ p, p ∈ as → ∀ o, H p = some o → H' p = some o) : c.ok H0 H' v as := by
  cases c with
  | ow R b => exact R.stay h x k
  | ro r m b => exact h
theorem Env.grow (E : Env H0 σ H G) (e : Same H H') : Env H0 σ H' G := by
  obtain ⟨own, h1, h2, h3⟩ := E.at_
  refine ⟨E.old.trans e, E.len, own, fun i p hp => ⟨(h1 i p hp).1, ?_⟩, h2, fun i c hc => ?_⟩
  · obtain ⟨o, ho, nt⟩ := (h1 i p hp).2
    exact ⟨o, e _ _ ho, nt⟩
  · obtain ⟨v, hv, hk⟩ := h3 i c hc
    exact ⟨v, hv, cell_stay hk (ext_same e) fun p _ o ho => e _ _ ho⟩
inductive Sub : Cells K → Cells K → Prop
  | nil : Sub [] []
  | keep {c : Option (Cell K)} {G G' : Cells K} : Sub G G' → Sub (c :: G) (c :: G')
  | drop {c : Option (Cell K)} {G G' : Cells K} : Sub G G' → Sub (c :: G) (none :: G')
theorem Sub.get : ∀ {G G' : Cells K} {i : Nat} {c : Cell K}, Sub G G' → G'[i]? = some (some c) → G[i]? = some (some c)
  | _, _, _, _, .nil, h => by simp at h
  | _, _, 0, _, .keep _, h => h
  | _, _, i + 1, c, .keep s, h => by
    have := Sub.get (i := i) (c := c) s (by simpa using h)
    simpa using this
  | _, _, 0, _, .drop _, h => by simp at h
  | _, _, i + 1, c, .drop s, h => by
    have := Sub.get (i := i) (c := c) s (by simpa using h)
    simpa using this
theorem Sub.len : ∀ {G G' : Cells K}, Sub G G' → G.length = G'.length
  | _, _, .nil => rfl
  | _, _, .keep s => by rw [List.length_cons, List.length_cons, Sub.len s]
  | _, _, .drop s => by rw [List.length_cons, List.length_cons, Sub.len s]
theorem Sub.refl : ∀ G : Cells K, Sub G G
  | [] => .nil
  | _ :: G => .keep (Sub.refl G)
theorem Env.less (E : Env H0 σ H G) (s : Sub G G') : Env H0 σ H G' := by
  obtain ⟨own, h1, h2, h3⟩ := E.at_
  exact ⟨E.old, E.len.trans s.len, own, h1, h2, fun i c hc => h3 i c (s.get hc)⟩
theorem Env.put {i : Nat} {v : V} {R : Rs K β} {b : β} {as : List Addr} (E : Env H0 σ H G) (e : Same H H') (hn : ∀ p, p ∈ as → H p = none) (h : R.rep H' v b as) : Env H0 (σ.set i (some v)) H' (G.set i (some (.ow R b))) := by
  have E' := E.grow e
  obtain ⟨own, h1, h2, h3⟩ := E.at_
  have hf : ∀ j p, p ∈ own j → H p ≠ none := fun j p hp z => by
    obtain ⟨o, ho, _⟩ := (h1 j p hp).2
    rw [z] at ho
    cases ho
  refine ⟨E'.old, by rw [List.length_set, List.length_set]; exact E.len, fun j => if j = i then as else own j, fun j p hp => ?_, fun j k p hj hk => ?_, fun j c hc => ?_⟩
  · by_cases hji : j = i
    · simp only [hji, if_true] at hp
      refine ⟨?_, R.there h p hp⟩
      cases q : H0 p with
      | none => rfl
      | some o =>
        have := E.old p o q
        rw [hn p hp] at this
        cases this
    · simp only [hji, if_false] at hp
      obtain ⟨o, ho, nt⟩ := (h1 j p hp).2
      exact ⟨(h1 j p hp).1, o, e _ _ ho, nt⟩
  · by_cases hji : j = i <;> by_cases hki : k = i
    · rw [hji, hki]
    · simp only [hji, hki, if_true, if_false] at hj hk
      exact absurd (hn p hj) (hf k p hk)
    · simp only [hji, hki, if_true, if_false] at hj hk
      exact absurd (hn p hk) (hf j p hj)
    · simp only [hji, hki, if_false] at hj hk
      exact h2 j k p hj hk
  · by_cases hji : j = i
    · subst hji
      have hl : j < σ.length := by
        have := (List.getElem?_eq_some_iff.mp hc).1
        rw [List.length_set] at this
        rw [E.len]
        exact this
      rw [List.getElem?_set_self (by rw [← E.len]; exact hl)] at hc
      cases hc
      refine ⟨v, List.getElem?_set_self hl, ?_⟩
      simp only [if_true]
      exact h
    · rw [List.getElem?_set_ne (Ne.symm hji)] at hc
      obtain ⟨w, hw, hk⟩ := h3 j c hc
      refine ⟨w, by rw [List.getElem?_set_ne (Ne.symm hji)]; exact hw, ?_⟩
      simp only [hji, if_false]
      exact cell_stay hk (ext_same e) fun p _ o ho => e _ _ ho
theorem Env.mut {i : Nat} {R : Rs K β} {R' : Rs K γ} {b : β} {b' : γ} {v : V} {as : List Addr} (E : Env H0 σ H G) (hi : G[i]? = some (some (.ow R b))) (hv : σ[i]? = some (some v))
    (x : ExT K H H') (k : ∀ p o, p ∉ as → H p = some o → H' p = some o) (th : ∀ w bs, σ[i]? = some (some w) → R.rep H w b bs → bs = as) (h : R'.rep H' v b' as) : Env H0 σ H' (G.set i (some (.ow R' b'))) := by
  obtain ⟨own, h1, h2, h3⟩ := E.at_
  obtain ⟨w, hw, hk⟩ := h3 i _ hi
  have eas : own i = as := th w _ hw hk
  have nas : ∀ j p, j ≠ i → p ∈ own j → p ∉ as := fun j p hj hp z => hj (h2 j i p hp (by rw [eas]; exact z))
  refine ⟨fun p o ho => k p o (fun z => ?_) (E.old p o ho), by rw [List.length_set]; exact E.len, own, fun j p hp => ⟨(h1 j p hp).1, ?_⟩, h2, fun j c hc => ?_⟩
  · have := (h1 i p (by rw [eas]; exact z)).1
    rw [this] at ho
    cases ho
  · by_cases hj : j = i
    · rw [hj, eas] at hp
      exact R'.there h p hp
    · obtain ⟨o, ho, nt⟩ := (h1 j p hp).2
      exact ⟨o, k p o (nas j p hj hp) ho, nt⟩
  · by_cases hj : j = i
    · subst hj
      have hl : j < G.length := (List.getElem?_eq_some_iff.mp hi).1
      rw [List.getElem?_set_self hl] at hc
      cases hc
      exact ⟨v, hv, by rw [eas]; exact h⟩
    · rw [List.getElem?_set_ne (Ne.symm hj)] at hc
      obtain ⟨u, hu, hk'⟩ := h3 j c hc
      exact ⟨u, hu, cell_stay hk' x fun p hp o ho => k p o (nas j p hj hp) ho⟩
def Ev (r : Rp β) (te : TE) (G : Cells K) (b : β) : Prop := ∀ H0 σ H, Env H0 σ H G → ∀ Q : VK, (∀ v H', Same H H' → r H' v b → Q v H') → te σ H Q
def Nw (R : Rs K β) (te : TE) (G : Cells K) (b : β) : Prop := ∀ H0 σ H, Env H0 σ H G → ∀ Q : VK, (∀ v H' as, Same H H' → (∀ p, p ∈ as → H p = none) → R.rep H' v b as → Q v H') → te σ H Q
def EvT (tt : TT) (G : Cells K) (b : Bool) : Prop := ∀ H0 σ H, Env H0 σ H G → ∀ Q : Bool → Hp → Prop, (∀ H', Same H H' → Q b H') → tt σ H Q
abbrev Ra (α : Type) := Hp → List V → α → Prop
class MonoA {α : Type} (A : Ra α) : Prop where
  up : ∀ {H H' : Hp} {vs : List V} {a : α}, Same H H' → A H vs a → A H' vs a
def aN : Ra Unit := fun _ vs _ => vs = []
def aC {α β : Type} (r : Rp α) (A : Ra β) : Ra (α × β) := fun H vs p => ∃ v ws, vs = v :: ws ∧ r H v p.1 ∧ A H ws p.2
instance : MonoA aN := ⟨fun _ h => h⟩
instance {α β : Type} {r : Rp α} {A : Ra β} [M : Mono r] [N : MonoA A] : MonoA (aC r A) := ⟨fun e ⟨v, ws, ev, h1, h2⟩ => ⟨v, ws, ev, M.up e h1, N.up e h2⟩⟩
def EvA (A : Ra α) (ta : TA) (G : Cells K) (a : α) : Prop := ∀ H0 σ H, Env H0 σ H G → ∀ Q : List V → Hp → Prop, (∀ vs H', Same H H' → A H' vs a → Q vs H') → ta σ H Q
def spF (A : Ra α) (pre : α → Prop) (r : Rp β) (f : α → β) : Sp := fun vs H Q _ => ∃ a, A H vs a ∧ pre a ∧ ∀ v H', Same H H' → r H' v (f a) → Q v H'
def spN (A : Ra α) (pre : α → Prop) (R : Rs K β) (f : α → β) : Sp := fun vs H Q _ => ∃ a, A H vs a ∧ pre a ∧ ∀ v H' as, Same H H' → (∀ p, p ∈ as → H p = none) → R.rep H' v (f a) as → Q v H'
variable {r : Rp α} {q : Rp β} {R : Rs K α} {te ta tb tc : TE} {a x : α} {b y : β}
theorem Ev.nw [F : Frz K r] (h : Ev r te G a) : Nw (fz K r) te G a := fun H0 σ H E Q k => h H0 σ H E Q fun v H' e z => k v H' [] e (fun _ hp => nomatch hp) ⟨rfl, stb z⟩
theorem Nw.fz (h : Nw (fz K r) te G a) : Ev r te G a := fun H0 σ H E Q k => h H0 σ H E Q fun v H' _ e _ z => k v H' e z.2.now
theorem Nw.lst {r : Rp α} {xs : List α} (h : Nw (nl K r) te G xs) : Ev (rL r) te G xs := fun H0 σ H E Q k => h H0 σ H E Q fun v H' _ e _ ⟨p, vs, _, ev, hp, z⟩ => k v H' e ⟨p, vs, ev, hp, nows z⟩
theorem Ev.imp {q : Rp α} (h : Ev r te G a) (f : ∀ H v, r H v a → q H v a) : Ev q te G a := fun H0 σ H E Q k => h H0 σ H E Q fun v H' e z => k v H' e (f _ _ z)
theorem Ev.eq (h : Ev r te G a) (e : a = x) : Ev r te G x := e ▸ h
theorem Nw.eq (h : Nw R te G a) (e : a = x) : Nw R te G x := e ▸ h
theorem EvT.eq {tt : TT} {c d : Bool} (h : EvT tt G c) (e : c = d) : EvT tt G d := e ▸ h
theorem ev_fz {i : Nat} (h : G[i]? = some (some (.ow (fz K r) a)) := by rfl) : Ev r (tVar i) G a := fun H0 σ H E Q k => by
  obtain ⟨own, _, _, h3⟩ := E.at_
  obtain ⟨v, hv, hk⟩ := h3 i _ h
  exact ⟨v, hv, k v H (Same.refl H) hk.2.now⟩
theorem ev_lst {i : Nat} {r : Rp α} {xs : List α} (h : G[i]? = some (some (.ow (nl K r) xs)) := by rfl) : Ev (rL r) (tVar i) G xs := fun H0 σ H E Q k => by
  obtain ⟨own, _, _, h3⟩ := E.at_
  obtain ⟨v, hv, p, vs, _, ev, hp, z⟩ := h3 i _ h
  exact ⟨v, hv, k v H (Same.refl H) ⟨p, vs, ev, hp, nows z⟩⟩
theorem ev_ro {i : Nat} {M : Mono r} (h : G[i]? = some (some (.ro r M a)) := by rfl) : Ev r (tVar i) G a := fun H0 σ H E Q k => by
  obtain ⟨own, _, _, h3⟩ := E.at_
  obtain ⟨v, hv, hk⟩ := h3 i _ h
  exact ⟨v, hv, k v H (Same.refl H) (M.up E.old hk.2)⟩
theorem ev_c {v : V} (h : ∀ H, r H v a) : Ev r (tC v) G a := fun _ _ H _ _ k => k v H (Same.refl H) (h H)
theorem ev_int {n : Int} : Ev rI (tC (.int n)) G n := ev_c fun _ => rfl
theorem ev_str {n : Str} (h : okS n) : Ev rS (tC (.str n)) G n := ev_c fun _ => ⟨rfl, h⟩
theorem ev_bl {n : Bool} : Ev rB (tC (.bl n)) G n := ev_c fun _ => rfl
theorem ev_non : Ev (rO r) (tC .non) G Option.none := ev_c fun _ => rfl
theorem Ev.some (h : Ev r te G a) : Ev (rO r) te G (Option.some a) := fun H0 σ H E Q k => h H0 σ H E Q fun v H' e z => k v H' e z
def OpE (o : R2) (r : Rp α) (q : Rp β) (z : Rp γ) (x : α) (y : β) (c : γ) : Prop := ∀ H u v, r H u x → q H v y → ∀ Q : VK, (∀ w H', Same H H' → z H' w c → Q w H') → o u v H Q
def OpN (o : R2) (r : Rp α) (q : Rp β) (Z : Rs K γ) (x : α) (y : β) (c : γ) : Prop := ∀ H u v, r H u x → q H v y → ∀ Q : VK, (∀ w H' as, Same H H' → (∀ p, p ∈ as → H p = none) → Z.rep H' w c as → Q w H') → o u v H Q
theorem ev_op {o : R2} {z : Rp γ} {c : γ} [M : Mono r] (ha : Ev r ta G x) (hb : Ev q tb G y) (ho : OpE o r q z x y c) : Ev z (tOp o ta tb) G c := fun H0 σ H E Q k =>
  ha H0 σ H E _ fun u H1 e1 h1 => hb H0 σ H1 (E.grow e1) _ fun v H2 e2 h2 => ho H2 u v (M.up e2 h1) h2 Q fun w H3 e3 h3 => k w H3 ((e1.trans e2).trans e3) h3
theorem free_back {p : Addr} (e : Same H H') (h : H' p = none) : H p = none := e.free h
theorem nw_op {o : R2} {Z : Rs K γ} {c : γ} [M : Mono r] (ha : Ev r ta G x) (hb : Ev q tb G y) (ho : OpN o r q Z x y c) : Nw Z (tOp o ta tb) G c := fun H0 σ H E Q k =>
  ha H0 σ H E _ fun u H1 e1 h1 => hb H0 σ H1 (E.grow e1) _ fun v H2 e2 h2 => ho H2 u v (M.up e2 h1) h2 Q fun w H3 as e3 hn h3 => k w H3 as ((e1.trans e2).trans e3) (fun p hp => free_back (e1.trans e2) (hn p hp)) h3
theorem op_I0 {g : Int → Int → V} {z : Rp γ} {c : γ} {i j : Int} (h : ∀ H, z H (g i j) c) : OpE (rI0 g) rI rI z i j c := fun H u v hu hv Q k => by
  cases hu; cases hv
  exact ⟨i, j, rfl, rfl, k _ H (Same.refl H) (h H)⟩
theorem op_I {C : Int → Int → Prop} {g : Int → Int → V} {z : Rp γ} {c : γ} {i j : Int} (hc : C i j) (h : ∀ H, z H (g i j) c) : OpE (L2.rI C g) rI rI z i j c := fun H u v hu hv Q k => by
  cases hu; cases hv
  exact ⟨i, j, rfl, rfl, hc, k _ H (Same.refl H) (h H)⟩
end
end
section
structure Cal (P : Program) (w : World) (K : PySem.W.Frag) (mg : Str → Option Value) (base : Heap) (CX : CXT) (x : Str) (k : Nat) (ps : List Str) (sp : Sp) : Prop where
  ex : ∃ (f : Addr) (fd : FuncData), FnOk P w K mg base CX k f fd ps sp ∧ mg x = some (.ref f) ∧ PySem.W.keepIn K (.ref f) = true ∧ Binds K fd ps []
structure Df (K : PySem.W.Frag) (mg : Str → Option Value) (x : Str) (st : Stmt) : Prop where
  ex : ∃ (f : Addr) (fd : FuncData), Fun K x x st f fd ∧ mg x = some (.ref f)
theorem pe_fn {X : Cx} {x : Str} {k : Nat} {ps : List Str} {sp : Sp} {p pos : Pos} {e : Expr} {es : List Expr} {t : TA} (C : Cal X.prog X.w X.K X.mg X.base CX0 x k ps sp) (hr : Room k X.A) (ha : PA X (e :: es) t) (hg : Gl X x := by rfl)
    (hdb : (x == Str.ofString "__debug__") = false := by decide) (he : starEach (e :: es) X.env = (false, eval e X.env) :: starEach es X.env := by rfl) (hpl : (backTo pos (starEach es X.env)).any (·.1) = false := by rfl) :
    PE X (.Call (.Name x p) (e :: es) [] pos) (tCall sp [] E0 t) := by
  obtain ⟨f, fd, F, m, kp, b⟩ := C.ex
  exact pe_call F hr hg m kp b .nil pass0 ha hdb he hpl
class LenA {α : Type} (A : Ra α) (n : outParam Nat) : Prop where
  len : ∀ {H : Hp} {vs : List V} {a : α}, A H vs a → vs.length = n
instance : LenA aN 0 := ⟨fun h => by rw [show _ = [] from h]; rfl⟩
instance {α β : Type} {r : Rp α} {A : Ra β} {n : Nat} [L : LenA A n] : LenA (aC r A) (n + 1) := ⟨fun ⟨_, ws, e, _, h⟩ => by rw [e, List.length_cons, L.len h]⟩
variable {P : Program} {w : World} {K : PySem.W.Frag} {mg : Str → Option Value} {base : Heap}
theorem cal_of {x : Str} {st : Stmt} {N ps : List Str} {k : Nat} {sp : Sp} (F : Df K mg x st) (S : FnScope N ps (defScope st)) (len : ∀ vs H Q E, sp vs H Q E → vs.length = ps.length)
    (hb : ∀ (kV doc pm : Value) (an : Option Addr) (cdv ct : Value) (us : List Value), us.length = ps.length → bindArgs (PySem.W.fnOf x x (defArgs st) (defBody st) (defScope st) .none kV doc pm an cdv ct) ⟨us, []⟩ = pure (ps.zip us))
    (hbody : ∀ (cdv : Value) (f : Addr) (A : Around) (outer : List PySem.Env) (s : Shared) (H : Hp) (vs : List V) (Q : VK) (E : XK), Room k (A.deeper (envOfC x (defScope st) s.heap.objs.size f cdv)) → sp vs H Q E →
      ∃ t, PSs (cxOf CX0 P w K mg base N x (defScope st) f cdv A outer s H E).nox (defBody st) t ∧ t { nx := fun _ H' => Q .non H', rt := Q } (start N vs) H) : Cal P w K mg base CX0 x (k + 1) ps sp := by
  obtain ⟨f, fd, F, g⟩ := F.ex
  exact ⟨f, fd, F.ok S len (fun cdv A outer s H vs Q E hr h => hbody cdv f A outer s H vs Q E hr h), g, F.kp, F.binds hb⟩
section
variable {H0 H H' : Hp} {σ : L2.St} {G G' G'' : Cells K} {α β γ S : Type}
def Have (H0 : Hp) (G : Cells K) (σ : L2.St) (H : Hp) : Prop := ∃ H1, Same H0 H1 ∧ Env H1 σ H G
def Sv (H0 : Hp) (G : Cells K) (t : TS) (D : Ends) : Prop := ∀ σ H, Have H0 G σ H → t D σ H
def Nx (H0 : Hp) (G : Cells K) (P : L2.St → Hp → Prop) : Prop := ∀ σ H, Have H0 G σ H → P σ H
inductive Pw (H0 : Hp) : L2.St → Cells K → Prop
  | nil : Pw H0 [] []
  | skip {o : Option V} {σ : L2.St} {G : Cells K} : Pw H0 σ G → Pw H0 (o :: σ) (none :: G)
  | fz {β : Type} {r : Rp β} [Frz K r] {b : β} {v : V} {σ : L2.St} {G : Cells K} : r H0 v b → Pw H0 σ G → Pw H0 (some v :: σ) (fc r b :: G)
  | ro {β : Type} {r : Rp β} [Mono r] {b : β} {v : V} {σ : L2.St} {G : Cells K} : r H0 v b → Pw H0 σ G → Pw H0 (some v :: σ) (rc r b :: G)
theorem Pw.len (h : Pw H0 σ G) : σ.length = G.length := by
  induction h with
  | nil => rfl
  | skip _ ih => rw [List.length_cons, List.length_cons, ih]
  | fz _ _ ih => rw [List.length_cons, List.length_cons, ih]
  | ro _ _ ih => rw [List.length_cons, List.length_cons, ih]
theorem Pw.get (h : Pw H0 σ G) : ∀ {i : Nat} {c : Cell K}, G[i]? = some (some c) → ∃ v, σ[i]? = some (some v) ∧ c.ok H0 H0 v [] := by
  induction h with
  | nil => intro i c e; simp at e
  | skip _ ih =>
    intro i c e
    cases i with
    | zero => simp at e
    | succ i => simpa using ih (i := i) (c := c) (by simpa using e)
  | fz h _ ih =>
    intro i c e
    cases i with
    | zero =>
      simp at e
      subst e
      exact ⟨_, rfl, rfl, stb h⟩
    | succ i => simpa using ih (i := i) (c := c) (by simpa using e)
  | ro h _ ih =>
    intro i c e
    cases i with
    | zero =>
      simp at e
      subst e
      exact ⟨_, rfl, rfl, h⟩
    | succ i => simpa using ih (i := i) (c := c) (by simpa using e)
theorem Pw.env (p : Pw H0 σ G) : Env H0 σ H0 G := ⟨Same.refl H0, p.len, fun _ => [], fun _ _ h => (nomatch h), fun _ _ _ h => (nomatch h), fun i c h => p.get h⟩
theorem Sv.run {t : TS} {D : Ends} (s : Sv H0 G t D) (p : Pw H0 σ G) : t D σ H0 := s σ H0 ⟨H0, Same.refl H0, p.env⟩
variable {D : Ends} {t u tb : TS} {te ta : TE} {tt : TT} {r : Rp β} {q : Rp α} {R : Rs K β} {b : β} {a : α}
theorem Have.less (h : Have H0 G σ H) (s : Sub G G') : Have H0 G' σ H := let ⟨H1, e, E⟩ := h; ⟨H1, e, E.less s⟩
theorem Sv.less (s : Sub G G') (h : Sv H0 G' t D) : Sv H0 G t D := fun σ H g => h σ H (g.less s)
theorem q_asg {i : Nat} {b' : β} (h : Nw R te G b) (eb : b = b') (k : Sv H0 (G.set i (some (.ow R b'))) u D) : Sv H0 G (tSeq (tAsg te (gName i)) u) D := fun σ H ⟨H1, e, E⟩ =>
  h H1 σ H E _ fun v H' as e' hn z => k _ _ ⟨H1, e, E.put e' hn (eb ▸ z)⟩
theorem q_set {i : Nat} {b' : β} (h : Ev r te G b) (eb : b = b') (k : Sv H0 (G.set i (fc r b')) u D) (F : Frz K r := by infer_instance) : Sv H0 G (tSeq (tAsg te (gName i)) u) D := q_asg h.nw eb k
theorem l_asg {i : Nat} {b' : β} (h : Nw R te G b) (eb : b = b') (k : Nx H0 (G.set i (some (.ow R b'))) D.nx) : Sv H0 G (tAsg te (gName i)) D := fun σ H ⟨H1, e, E⟩ =>
  h H1 σ H E _ fun v H' as e' hn z => k _ _ ⟨H1, e, E.put e' hn (eb ▸ z)⟩
theorem l_set {i : Nat} {b' : β} (h : Ev r te G b) (eb : b = b') (k : Nx H0 (G.set i (fc r b')) D.nx) (F : Frz K r := by infer_instance) : Sv H0 G (tAsg te (gName i)) D := l_asg h.nw eb k
theorem l_ret {b' : β} (k : ∀ v H', Same H0 H' → r H' v b' → D.rt v H') (h : Ev r te G b) (eb : b = b') : Sv H0 G (tRet te) D := fun σ H ⟨H1, e, E⟩ =>
  h H1 σ H E _ fun v H' e' z => k v H' ((e.trans E.old).trans e') (eb ▸ z)
theorem l_retN {b' : β} (k : ∀ v H' as, Same H0 H' → (∀ p, p ∈ as → H0 p = none) → R.rep H' v b' as → D.rt v H') (h : Nw R te G b) (eb : b = b') : Sv H0 G (tRet te) D := fun σ H ⟨H1, e, E⟩ =>
  h H1 σ H E _ fun v H' as e' hn z => k v H' as ((e.trans E.old).trans e') (fun p hp => (e.trans E.old).free (hn p hp)) (eb ▸ z)
theorem l_retO {i : Nat} {xs' : β} (k : ∀ v H' as, Same H0 H' → (∀ p, p ∈ as → H0 p = none) → R.rep H' v xs' as → D.rt v H') (hi : G[i]? = some (some (.ow R b))) (eb : b = xs') : Sv H0 G (tRet (tVar i)) D := fun σ H ⟨H1, e, E⟩ => by
  obtain ⟨own, h1, h2, h3⟩ := E.at_
  obtain ⟨v, hv, hk⟩ := h3 i _ hi
  exact ⟨v, hv, k v H (own i) (e.trans E.old) (fun p hp => e.free (h1 i p hp).1) (eb ▸ hk)⟩
theorem l_if {c : Bool} (h : EvT tt G c) (h1 : c = true → Sv H0 G t D) (h2 : c = false → Sv H0 G u D) : Sv H0 G (tIfS tt t u) D := fun σ H ⟨H1, e, E⟩ =>
  h H1 σ H E _ fun H' e' => by
    cases c with
    | true => exact iteT (h1 rfl σ H' ⟨H1, e, E.grow e'⟩)
    | false => exact iteF (h2 rfl σ H' ⟨H1, e, E.grow e'⟩)
theorem q_if {c : Bool} {v : TS} (h : EvT tt G c) (h1 : c = true → Sv H0 G t { D with nx := v D }) (h2 : c = false → Sv H0 G u { D with nx := v D }) : Sv H0 G (tSeq (tIfS tt t u) v) D := l_if h h1 h2
theorem cutK (G2 : Cells K) {v : TS} (f : Sv H0 G2 v D → Sv H0 G (tSeq t v) D) (k : Sv H0 G2 v D) : Sv H0 G (tSeq t v) D := f k
theorem q_next (k : Sv H0 G u D) : Sv H0 G tNext { D with nx := u D } := k
theorem app_env {i : Nat} {r : Rp α} {xs : List α} {x : α} {H1 : Hp} {p : Addr} {vs : List V} {v : V} (E : Env H1 σ H G) (hi : G[i]? = some (some (.ow (nl K r) xs))) (hv : σ[i]? = some (some (.ref p))) (hp : H p = some (.lst vs)) (hxs : A2 (Stb K r H) vs xs) (hx : Stb K r H v x) :
    Env H1 σ (upd H p (.lst (vs ++ [v]))) (G.set i (some (.ow (nl K r) (xs ++ [x])))) := by
  have x0 : ExT K H (upd H p (.lst (vs ++ [v]))) := ext_upd hp fun z => z
  refine E.mut (as := [p]) (R := nl K r) (R' := nl K r) hi hv x0 (fun c o hc ho => ?_) (fun w bs hw ⟨p', vs', e1, e2, _, _⟩ => ?_) ⟨p, _, rfl, rfl, upd_same, A2.app (A2.one (hx.up x0)) (hxs.imp fun _ _ z => z.up x0)⟩
  · rw [upd_ne fun z => hc (by rw [z]; exact List.mem_singleton.mpr rfl)]
    exact ho
  · rw [hv] at hw
    cases hw
    cases e2
    exact e1
end
end
section
section
variable {K : PySem.W.Frag} {H0 H1 H H' : Hp} {σ : L2.St} {G G' Gx : Cells K} {α β γ S β' : Type}
def cutH (H : Hp) (X : Addr → Prop) [DecidablePred X] : Hp := fun b => if X b then none else H b
open Classical in
theorem Env.rebase (E : Env H1 σ H G) (e : Same H H') : ∃ H2, Same H1 H2 ∧ Same H2 H' ∧ ExT K H' H2 ∧ Env H2 σ H' G ∧ ∀ b o, H b = none → H' b = some o → H2 b = some o := by
  have E' := E.grow e
  obtain ⟨own, h1, h2, h3⟩ := E'.at_
  obtain ⟨own0, g1, g2, g3⟩ := E.at_
  let X : Addr → Prop := fun b => (∃ i, b ∈ own0 i)
  have hX : ∀ b, H1 b ≠ none → ¬ X b := fun b hb ⟨i, hi⟩ => hb (g1 i b hi).1
  have key : ∀ b, cutH H' X b = if X b then none else H' b := fun b => rfl
  have s12 : Same H1 (cutH H' X) := fun b o ho => by
    rw [key, if_neg (hX b (by rw [ho]; exact fun z => nomatch z))]
    exact E'.old b o ho
  have s2 : Same (cutH H' X) H' := fun b o ho => by
    rw [key] at ho
    split at ho
    · cases ho
    · exact ho
  refine ⟨cutH H' X, s12, s2, .mk' fun a o9 t9 q => ?_, ⟨s2, E'.len, own0, fun i p hp => ?_, g2, fun i c hc => ?_⟩, fun b o hn ho => ?_⟩
  · have nX : ∀ o, H' a = some o → isTup o → ¬ X a := fun o ho t ⟨i, hi⟩ => by
      obtain ⟨u, hu, nu⟩ := (g1 i a hi).2
      have := e _ _ hu
      rw [ho] at this
      cases this
      exact nu t
    exact by rw [key, if_neg (nX _ q t9.up)]; exact q
  · obtain ⟨o, ho, nt⟩ := (g1 i p hp).2
    exact ⟨by rw [key, if_pos ⟨i, hp⟩], o, e _ _ ho, nt⟩
  · obtain ⟨v, hv, hk⟩ := g3 i c hc
    refine ⟨v, hv, ?_⟩
    cases c with
    | ow R b => exact R.stay hk (ext_same e) fun p _ o ho => e _ _ ho
    | ro r m b => exact ⟨hk.1, m.up s12 hk.2⟩
  · rw [key, if_neg fun ⟨i, hi⟩ => by
      obtain ⟨u, hu, _⟩ := (g1 i b hi).2
      rw [hn] at hu
      cases hu]
    exact ho
theorem Env.freeze {i : Nat} {r : Rp α} {xs : List α} (E : Env H1 σ H G) (hi : G[i]? = some (some (.ow (nl K r) xs))) (M : Mono r) : ∃ H2, Same H1 H2 ∧ ExT K H H2 ∧ Env H2 σ H (G.set i (rc (rL r) xs)) := by
  classical
  obtain ⟨own, h1, h2, h3⟩ := E.at_
  let X : Addr → Prop := fun b => (∃ j, j ≠ i ∧ b ∈ own j)
  have hX : ∀ b, H1 b ≠ none → ¬ X b := fun b hb ⟨j, _, hj⟩ => hb (h1 j b hj).1
  have key : ∀ b, cutH H X b = if X b then none else H b := fun b => rfl
  have s12 : Same H1 (cutH H X) := fun b o ho => by
    rw [key, if_neg (hX b (by rw [ho]; exact fun z => nomatch z))]
    exact E.old b o ho
  have s2 : Same (cutH H X) H := fun b o ho => by
    rw [key] at ho
    split at ho
    · cases ho
    · exact ho
  have xt : ExT K H (cutH H X) := .mk' fun a o9 t9 q => by
    have nX : ∀ o, H a = some o → isTup o → ¬ X a := fun o ho t ⟨j, _, hj⟩ => by
      obtain ⟨u, hu, nu⟩ := (h1 j a hj).2
      rw [ho] at hu
      cases hu
      exact nu t
    exact by rw [key, if_neg (nX _ q t9.up)]; exact q
  refine ⟨cutH H X, s12, xt, s2, by rw [List.length_set]; exact E.len, fun j => if j = i then [] else own j, fun j p hp => ?_, fun j k p hj hk => ?_, fun j c hc => ?_⟩
  · by_cases hj : j = i
    · simp only [hj, if_true] at hp
      cases hp
    · simp only [hj, if_false] at hp
      exact ⟨by rw [key, if_pos ⟨j, hj, hp⟩], (h1 j p hp).2⟩
  · by_cases hji : j = i
    · simp only [hji, if_true] at hj
      cases hj
    · by_cases hki : k = i
      · simp only [hki, if_true] at hk
        cases hk
      · simp only [hji, hki, if_false] at hj hk
        exact h2 j k p hj hk
  · by_cases hj : j = i
    · subst hj
      have hl : j < G.length := (List.getElem?_eq_some_iff.mp hi).1
      rw [List.getElem?_set_self hl] at hc
      cases hc
      obtain ⟨v, hv, p, vs, e1, e2, e3, e4⟩ := h3 j _ hi
      refine ⟨v, hv, by simp, p, vs, e2, ?_, e4.imp fun _ _ z => (z.up xt).now⟩
      rw [key, if_neg fun ⟨k, hk, hp⟩ => hk (h2 k j p hp (by rw [e1]; exact List.mem_singleton.mpr rfl))]
      exact e3
    · rw [List.getElem?_set_ne (Ne.symm hj)] at hc
      obtain ⟨v, hv, hk⟩ := h3 j c hc
      refine ⟨v, hv, ?_⟩
      simp only [hj, if_false]
      cases c with
      | ow R b => exact hk
      | ro r m b => exact ⟨hk.1, m.up s12 hk.2⟩
structure Wj (J : It) (r : Rp α) (H1 : Hp) (xs : List α) : Prop where
  go : ∀ (H : Hp) (i : Nat) (x : α), Same H1 H → xs[i]? = some x → J.go i H ∧ ∀ v H', J.yld i H v H' → Same H H' ∧ r H' v x
  stop : ∀ H : Hp, Same H1 H → J.stop xs.length H
def Wk (wi : TI) (r : Rp α) (G G' : Cells K) (xs : List α) : Prop := ∀ H1 σ H, Env H1 σ H G → ∀ R : It → Hp → Prop, (∀ J H2 H', Same H1 H2 → Same H H' → Env H2 σ H' G' → Wj J r H2 xs → R J H') → wi σ H R
theorem wj_list {r : Rp α} [M : Mono r] {a : Addr} {vs : List V} {xs : List α} (h : H1 a = some (.lst vs)) (q : A2 (r H1) vs xs) : Wj (Itl K a) r H1 xs where
  go := fun H i x e hx => by
    obtain ⟨v, hv, z⟩ := q.get' hx
    refine ⟨⟨vs, v, SqL.of (e _ _ h), hv⟩, fun w H' ⟨e1, e2⟩ => ?_⟩
    subst e1
    have := e2 vs (SqL.of (e _ _ h))
    rw [hv] at this
    cases this
    exact ⟨Same.refl _, M.up e z⟩
  stop := fun H e => ⟨vs, SqL.of (e _ _ h), Nat.le_of_eq q.len⟩
theorem wj_tup {r : Rp α} [M : Mono r] {a : Addr} {vs : List V} {xs : List α} (h : SqT K H1 a vs) (q : A2 (r H1) vs xs) : Wj (Itt K a) r H1 xs where
  go := fun H i x e hx => by
    obtain ⟨v, hv, z⟩ := q.get' hx
    refine ⟨⟨vs, v, ext_same e _ _ h, hv⟩, fun w H' ⟨e1, e2⟩ => ?_⟩
    subst e1
    have := e2 vs (ext_same e _ _ h)
    rw [hv] at this
    cases this
    exact ⟨Same.refl _, M.up e z⟩
  stop := fun H e => ⟨vs, ext_same e _ _ h, Nat.le_of_eq q.len⟩
theorem wj_rng {lo : Int} {n : Nat} : Wj (Itr lo n) rI H1 ((List.range n).map fun (i : Nat) => lo + (i : Int)) where
  go := fun H i x e hx => by
    rw [List.getElem?_map] at hx
    by_cases hi : i < n
    · rw [List.getElem?_range hi] at hx
      cases hx
      exact ⟨hi, fun v H' ⟨e1, e2⟩ => by subst e1; exact ⟨Same.refl _, e2⟩⟩
    · rw [List.getElem?_eq_none (by rw [List.length_range]; omega)] at hx
      cases hx
  stop := fun H e => by
    show n ≤ _
    rw [List.length_map, List.length_range]
    exact Nat.le_refl _
theorem wj_str {z : Str} (hz : okS z) : Wj (Its z) rS H1 (z.cps.toList.map fun c => (⟨#[c]⟩ : Str)) where
  go := fun H i x e hx => by
    rw [List.getElem?_map] at hx
    cases q : z.cps.toList[i]? with
    | none => rw [q] at hx; cases hx
    | some c =>
      rw [q] at hx
      cases hx
      have q' : z.cps[i]? = some c := by simpa using q
      have hi : i < z.cps.size := (Array.getElem?_eq_some_iff.mp q').1
      refine ⟨hi, fun v H' ⟨e1, c', e2, e3⟩ => ?_⟩
      subst e1
      rw [q'] at e2
      cases e2
      exact ⟨Same.refl _, e3, okS_chr hz (List.mem_of_getElem? q)⟩
  stop := fun H e => by
    show z.cps.size ≤ _
    simp
theorem wk_new {r : Rp α} [M : Mono r] {tl : TE} {xs : List α} (h : Nw (nl K r) tl G xs) : Wk (iList K tl) r G G xs := fun H1 σ H E R k =>
  h H1 σ H E _ fun v H' as e hn ⟨p, vs, e1, e2, e3, e4⟩ => by
    obtain ⟨H2, s1, s2, x, E2, ho⟩ := E.rebase e
    have hp : H2 p = some (.lst vs) := ho p _ (hn p (by rw [e1]; exact List.mem_singleton.mpr rfl)) e3
    exact ⟨p, e2, ⟨vs, SqL.of e3⟩, k _ H2 H' s1 e E2 (wj_list hp (e4.imp fun _ _ z => (z.up x).now))⟩
theorem wk_ro {r : Rp α} {M : Mono (rL r)} [N : Mono r] {i : Nat} {xs : List α} (h : G[i]? = some (some (.ro (rL r) M xs)) := by rfl) : Wk (iList K (tVar i)) r G G xs := fun H1 σ H E R k => by
  obtain ⟨own, _, _, h3⟩ := E.at_
  obtain ⟨v, hv, _, p, vs, e2, e3, e4⟩ := h3 i _ h
  exact ⟨v, hv, p, e2, ⟨vs, SqL.of (E.old _ _ e3)⟩, k _ H1 H (Same.refl _) (Same.refl _) E (wj_list e3 e4)⟩
theorem wk_own {r : Rp α} [M : Mono r] {i : Nat} {xs : List α} (h : G[i]? = some (some (.ow (nl K r) xs)) := by rfl) : Wk (iList K (tVar i)) r G (G.set i (rc (rL r) xs)) xs := fun H1 σ H E R k => by
  obtain ⟨H2, s1, x, E2⟩ := E.freeze h M
  obtain ⟨own, _, _, h3⟩ := E2.at_
  have hl : i < G.length := (List.getElem?_eq_some_iff.mp h).1
  obtain ⟨v, hv, _, p, vs, e2, e3, e4⟩ := h3 i _ (List.getElem?_set_self hl)
  exact ⟨v, hv, p, e2, ⟨vs, SqL.of (E2.old _ _ e3)⟩, k _ H2 H s1 (Same.refl _) E2 (wj_list e3 e4)⟩
theorem wk_tup {r : Rp α} [F : Frz K r] [M : Mono r] {tl : TE} {xs : List α} (h : Ev (rT K r) tl G xs) : Wk (iTup K tl) r G G xs := fun H1 σ H E R k =>
  h H1 σ H E _ fun v H' e ⟨p, vs, e2, e3, e4⟩ => by
    obtain ⟨H2, s1, s2, x, E2, ho⟩ := E.rebase e
    exact ⟨p, e2, ⟨vs, e3⟩, k _ H2 H' s1 e E2 (wj_tup (x _ _ e3) (e4.imp fun _ _ z => F.up x z))⟩
def ups (n : Nat) : List Int := (List.range n).map fun (i : Nat) => (i : Int)
theorem ups_len (n : Nat) : (ups n).length = n := by unfold ups; rw [List.length_map, List.length_range]
theorem wk_rng1 {ta : TE} {n : Int} (h : Ev rI ta G n) (hn : -12000000 ≤ n ∧ n ≤ 12000000) : Wk (iRng1 (tCons ta tNil)) rI G G (ups n.toNat) := fun H1 σ H E R k =>
  h H1 σ H E _ fun v H' e z => ⟨n, by rw [show v = .int n from z], by omega, by omega, k (Itr 0 n.toNat) H1 H' (Same.refl _) e (E.grow e) (by
      have w := wj_rng (H1 := H1) (lo := 0) (n := n.toNat)
      have e0 : ((List.range n.toNat).map fun (i : Nat) => (0 : Int) + (i : Int)) = ups n.toNat := by
        unfold ups
        exact List.map_congr_left fun i _ => Int.zero_add _
      rw [e0] at w
      exact w)⟩
theorem wk_str {ta : TE} {z : Str} (h : Ev rS ta G z) : Wk (iStr ta) rS G G (z.cps.toList.map fun c => (⟨#[c]⟩ : Str)) := fun H1 σ H E R k =>
  h H1 σ H E _ fun v H' e z' => ⟨z, z'.1, k (Its z) H1 H' (Same.refl _) e (E.grow e) (wj_str z'.2)⟩
def Tg (g : TG) (r : Rp α) (x : α) (G G' : Cells K) : Prop := ∀ H1 σ H v, Env H1 σ H G → r H v x → ∀ P : L2.St → Hp → Prop, (∀ σ', Env H1 σ' H G' → P σ' H) → g v σ H P
theorem tg_name {r : Rp α} [F : Frz K r] {x : α} {i : Nat} : Tg (gName i) r x G (G.set i (fc r x)) := fun H1 σ H v E h P k =>
  k _ (E.put (R := fz K r) (as := []) (Same.refl H) (fun _ z => nomatch z) ⟨rfl, stb h⟩)
theorem tg_pair {r : Rp α} {q : Rp β} [F : Frz K r] [F' : Frz K q] {p : α × β} {i j : Nat} : Tg (gTup K 2 (gCons (gName i) (gCons (gName j) gNil))) (rP K r q) p G ((G.set i (fc r p.1)).set j (fc q p.2)) := fun H1 σ H v E ⟨a, x, y, e, h, h1, h2⟩ P k =>
  ⟨a, [x, y], e, h, rfl, x, [y], rfl, y, [], rfl, rfl, k _ ((E.put (R := fz K r) (as := []) (Same.refl H) (fun _ z => nomatch z) ⟨rfl, stb h1⟩).put (R := fz K q) (as := []) (Same.refl H) (fun _ z => nomatch z) ⟨rfl, stb h2⟩)⟩
variable {D : Ends} {t u tb : TS} {wi : TI} {g : TG} {te : TE} {tt : TT} {r : Rp α} {q : Rp β}
theorem l_forI {xs : List α} (st : S → Cells K) (I : List α → S → Prop) (s0 : S) (hw : Wk wi r G G' xs) (h0 : Sub G' (st s0)) (i0 : I [] s0)
    (body : ∀ H0', Same H0 H0' → ∀ pre x post s, xs = pre ++ x :: post → I pre s → ∃ Gx, Tg g r x (st s) Gx ∧
      Sv H0' Gx tb { D with nx := fun σ H => ∃ s', I (pre ++ [x]) s' ∧ Have H0' (st s') σ H, ct := fun σ H => ∃ s', I (pre ++ [x]) s' ∧ Have H0' (st s') σ H, bk := D.nx })
    (after : ∀ s, I xs s → Nx H0 (st s) D.nx) : Sv H0 G (tFor wi g tb) D := fun σ H ⟨H1, e1, E⟩ => by
  refine hw H1 σ H E _ fun J H2 H' s1 sH E2 W => ?_
  refine ⟨fun i m σ' Hh => i + m = xs.length ∧ ∃ s, I (xs.take i) s ∧ Have H2 (st s) σ' Hh, ⟨xs.length, Nat.zero_add _, s0, i0, H2, Same.refl _, E2.less h0⟩, ?_⟩
  rintro i m σ' Hh ⟨hi, s, hI, H3, s3, E3⟩
  by_cases hl : i < xs.length
  · have hx : xs[i]? = some xs[i] := List.getElem?_eq_getElem hl
    have hs : Same H2 Hh := s3.trans E3.old
    obtain ⟨g1, g2⟩ := W.go Hh i _ hs hx
    have etk : xs.take i ++ [xs[i]] = xs.take (i + 1) := by rw [List.take_add_one, hx]; rfl
    refine .inr ⟨g1, fun σ2 Hh2 => ∃ s', I (xs.take i ++ [xs[i]]) s' ∧ Have H2 (st s') σ2 Hh2, fun σ2 Hh2 ⟨s', hI', hv⟩ => ⟨m - 1, by omega, by omega, s', by rw [← etk]; exact hI', hv⟩, fun v Hh2 hy => ?_⟩
    · obtain ⟨e2, z⟩ := g2 v Hh2 hy
      have hsp : xs = xs.take i ++ xs[i] :: xs.drop (i + 1) := by
        rw [List.getElem_cons_drop, List.take_append_drop]
      obtain ⟨Gx, ht, hb⟩ := body H2 (e1.trans s1) (xs.take i) xs[i] (xs.drop (i + 1)) s hsp hI
      exact ht H3 σ' Hh2 v (E3.grow e2) z _ fun σ2 E4 => hb σ2 Hh2 ⟨H3, s3, E4⟩
  · have hi' : i = xs.length := by omega
    subst hi'
    rw [List.take_length] at hI
    exact .inl ⟨W.stop Hh (s3.trans E3.old), after s hI σ' Hh ⟨H3, (e1.trans s1).trans s3, E3⟩⟩
def wipeG (G : Cells K) : List Nat → Cells K
  | [] => G
  | v :: vs => (wipeG G vs).set v none
theorem wipeG_get {i : Nat} {c : Cell K} : ∀ {vs : List Nat}, (wipeG G vs)[i]? = some (some c) → G[i]? = some (some c) ∧ i ∉ vs
  | [], h => ⟨h, by simp⟩
  | v :: vs, h => by
    unfold wipeG at h
    by_cases hi : v = i
    · subst hi
      by_cases hv : v < (wipeG G vs).length
      · rw [List.getElem?_set_self hv] at h; cases h
      · rw [List.getElem?_eq_none (by simpa using hv)] at h; cases h
    · rw [List.getElem?_set_ne hi] at h
      obtain ⟨h1, h2⟩ := wipeG_get h
      exact ⟨h1, by simp only [List.mem_cons, not_or]; exact ⟨fun e => hi e.symm, h2⟩⟩
theorem wipeG_len : ∀ vs : List Nat, (wipeG G vs).length = G.length
  | [] => rfl
  | v :: vs => by unfold wipeG; rw [List.length_set, wipeG_len vs]
theorem wipe_out' {i : Nat} : ∀ {vs : List Nat}, i ∉ vs → (wipe σ vs)[i]? = σ[i]?
  | [], _ => rfl
  | v :: vs, h => by
    have h1 : v ≠ i := fun e => h (by rw [e]; exact List.mem_cons_self)
    unfold wipe
    rw [List.getElem?_set_ne h1]
    exact wipe_out' fun z => h (List.mem_cons_of_mem _ z)
theorem wipe_in {i : Nat} : ∀ {vs : List Nat}, i ∈ vs → i < σ.length → (wipe σ vs)[i]? = some none
  | [], h, _ => by cases h
  | v :: vs, h, hl => by
    unfold wipe
    by_cases hv : v = i
    · subst hv
      rw [List.getElem?_set_self (by rw [wipe_length]; exact hl)]
    · rw [List.getElem?_set_ne hv]
      rcases List.mem_cons.mp h with e | e
      · exact absurd e.symm hv
      · exact wipe_in e hl
theorem wipe_set {i : Nat} {v : Option V} {vs : List Nat} (h : i ∈ vs) : wipe ((wipe σ vs).set i v) vs = wipe σ vs := by
  apply List.ext_getElem?
  intro j
  by_cases hj : j ∈ vs
  · by_cases hl : j < σ.length
    · rw [wipe_in hj hl, wipe_in hj (by rw [List.length_set, wipe_length]; exact hl)]
    · rw [List.getElem?_eq_none (by rw [wipe_length, List.length_set, wipe_length]; omega), List.getElem?_eq_none (by rw [wipe_length]; omega)]
  · rw [wipe_out' hj, List.getElem?_set_ne fun e => hj (by rw [← e]; exact h)]
theorem Env.wipe (E : Env H1 σ H G) (vs : List Nat) : Env H1 (L2.wipe σ vs) H (wipeG G vs) := by
  obtain ⟨own, h1, h2, h3⟩ := E.at_
  refine ⟨E.old, by rw [wipe_length, wipeG_len]; exact E.len, own, h1, h2, fun i c hc => ?_⟩
  obtain ⟨a, b⟩ := wipeG_get hc
  obtain ⟨v, hv, hk⟩ := h3 i c a
  exact ⟨v, by rw [wipe_out' b]; exact hv, hk⟩
def Tb (g : TG) (r : Rp α) (x : α) (vs : List Nat) (G G' : Cells K) : Prop := ∀ H1 σ σ0 H v, σ = wipe σ0 vs → Env H1 σ H G → r H v x → ∀ P : L2.St → Hp → Prop, (∀ σ', Env H1 σ' H G' → wipe σ' vs = wipe σ0 vs → P σ' H) → g v σ H P
theorem tb_name {r : Rp α} [F : Frz K r] {x : α} {i : Nat} {vs : List Nat} (hi : i ∈ vs := by decide) : Tb (gName i) r x vs G (G.set i (fc r x)) := fun H1 σ σ0 H v e E h P k => by
  subst e
  exact k _ (E.put (R := fz K r) (as := []) (Same.refl H) (fun _ z => nomatch z) ⟨rfl, stb h⟩) (wipe_set hi)
theorem wipe_set2 {i : Nat} {v : Option V} {vs : List Nat} (h : i ∈ vs) : wipe (σ.set i v) vs = wipe σ vs := by
  apply List.ext_getElem?
  intro j
  by_cases hj : j ∈ vs
  · by_cases hl : j < σ.length
    · rw [wipe_in hj hl, wipe_in hj (by rw [List.length_set]; exact hl)]
    · rw [List.getElem?_eq_none (by rw [wipe_length, List.length_set]; omega), List.getElem?_eq_none (by rw [wipe_length]; omega)]
  · rw [wipe_out' hj, List.getElem?_set_ne (fun e => hj (by rw [← e]; exact h)), wipe_out' hj]
theorem tb_pair {r : Rp α} {q : Rp β} [F : Frz K r] [F' : Frz K q] {p : α × β} {i j : Nat} {vs : List Nat} (hi : i ∈ vs := by decide) (hj : j ∈ vs := by decide) : Tb (gTup K 2 (gCons (gName i) (gCons (gName j) gNil))) (rP K r q) p vs G ((G.set i (fc r p.1)).set j (fc q p.2)) := fun H1 σ σ0 H v e0 E ⟨a, x, y, e, h, h1, h2⟩ P k => by
  subst e0
  exact ⟨a, [x, y], e, h, rfl, x, [y], rfl, y, [], rfl, rfl, k _ ((E.put (R := fz K r) (as := []) (Same.refl H) (fun _ z => nomatch z) ⟨rfl, stb h1⟩).put (R := fz K q) (as := []) (Same.refl H) (fun _ z => nomatch z) ⟨rfl, stb h2⟩) (by rw [wipe_set2 hj, wipe_set hi])⟩
theorem getE_last {X : Type _} {l : List X} {x : X} : (l ++ [x])[l.length]? = some x := by simp
theorem getE_old {X : Type _} {l : List X} {x y : X} {i : Nat} (h : l[i]? = some y) : (l ++ [x])[i]? = some y := by
  rw [List.getElem?_append_left (List.getElem?_eq_some_iff.mp h).1]
  exact h
theorem Env.pad (E : Env H1 σ H G) : Env H1 (σ ++ [none]) H (G ++ [none]) := by
  obtain ⟨own, g1, g2, g3⟩ := E.at_
  refine ⟨E.old, by rw [List.length_append, List.length_append, E.len]; rfl, own, g1, g2, fun i c hc => ?_⟩
  by_cases hi : i < G.length
  · rw [List.getElem?_append_left hi] at hc
    obtain ⟨v, hv, hk⟩ := g3 i c hc
    exact ⟨v, getE_old hv, hk⟩
  · rw [List.getElem?_append_right (by omega)] at hc
    cases h : i - G.length with
    | zero => rw [h] at hc; simp at hc
    | succ n => rw [h] at hc; simp at hc
theorem Env.trunc {x : Option V} {c : Option (Cell K)} (E : Env H1 (σ ++ [x]) H (G ++ [c])) : Env H1 σ H G := by
  obtain ⟨own, g1, g2, g3⟩ := E.at_
  have hl : σ.length = G.length := by
    have := E.len
    rw [List.length_append, List.length_append] at this
    simpa using this
  refine ⟨E.old, hl, own, g1, g2, fun i c hc => ?_⟩
  obtain ⟨v, hv, hk⟩ := g3 i c (getE_old hc)
  have hi : i < σ.length := by rw [hl]; exact (List.getElem?_eq_some_iff.mp hc).1
  rw [List.getElem?_append_left hi] at hv
  exact ⟨v, hv, hk⟩
theorem set_last {X : Type _} {l : List X} {x y : X} : (l ++ [x]).set l.length y = l ++ [y] := by simp
theorem Env.push {D : Addr} {q : Rp β} (E : Env H1 σ H G) (hD : H D = none) : Env H1 (σ ++ [some (.ref D)]) (upd H D (.lst [])) (G ++ [some (.ow (nl K q) [])]) := by
  have e : Same H (upd H D (.lst [])) := fun b o hb => by rw [upd_ne (ne_of_none hb hD)]; exact hb
  have E2 := E.pad.put (i := G.length) (v := .ref D) (R := nl K q) (b := []) (as := [D]) e (fun p hp => by rw [List.mem_singleton.mp hp]; exact hD) ⟨D, [], rfl, rfl, upd_same, .nil⟩
  have e1 : (σ ++ [none]).set G.length (some (V.ref D)) = σ ++ [some (.ref D)] := by rw [← E.len]; exact set_last
  rw [e1, set_last] at E2
  exact E2
theorem nw_lc {vs : List Nat} {f : β' → γ} {p : β' → Bool} {q : Rp γ} [F : Frz K q] {r : Rp β'} {ys : List β'} (hw : Wk wi r G G' ys) (hlen : ys.length ≤ 12000000)
    (turn : ∀ pre x post, ys = pre ++ x :: post → ∃ Gx, Tb g r x vs (wipeG G' vs) Gx ∧ EvT tt Gx (p x) ∧ (p x = true → Ev q te Gx (f x))) :
    Nw (nl K q) (tLc wi g tt te vs) G ((ys.filter p).map f) := fun H1 σ H E Q k => by
  refine hw H1 σ H E _ fun J H2 Hs s1 sH E2 W => ?_
  intro D hD
  have E3 := (E2.wipe vs).push (q := q) hD
  have Mk : ∀ h, Env H2 (L2.wipe σ vs ++ [some (.ref D)]) h (wipeG G' vs ++ [some (.ow (nl K q) ((ys.filter p).map f))]) → Same Hs h → Q (.ref D) h := fun h Eh sh => by
    obtain ⟨own, g1, g2, g3⟩ := Eh.at_
    have hlg : (L2.wipe σ vs).length = (wipeG G' vs).length := (E2.wipe vs).len
    obtain ⟨v, hv, p', ws, e1, e2, e3, e4⟩ := g3 _ _ getE_last
    rw [← hlg, getE_last] at hv
    cases hv
    cases e2
    exact k _ h [D] (sH.trans sh) (fun b hb => by rw [List.mem_singleton.mp hb]; exact sH.free hD) ⟨D, ws, rfl, rfl, e3, e4⟩
  have same0 : Same Hs (upd Hs D (.lst [])) := fun b o hb => by rw [upd_ne (ne_of_none hb hD)]; exact hb
  refine ⟨fun i m h => i + m = ys.length ∧ Same Hs h ∧ Env H2 (L2.wipe σ vs ++ [some (.ref D)]) h (wipeG G' vs ++ [some (.ow (nl K q) (((ys.take i).filter p).map f))]), ⟨ys.length, Nat.zero_add _, same0, E3⟩, ?_⟩
  rintro i m h ⟨hi, sh, Eh⟩
  by_cases hl : i < ys.length
  · have hx : ys[i]? = some ys[i] := List.getElem?_eq_getElem hl
    have etk : ys.take (i + 1) = ys.take i ++ [ys[i]] := by rw [List.take_add_one, hx]; rfl
    obtain ⟨g1, g2⟩ := W.go h i _ (E2.old.trans sh) hx
    refine .inr ⟨g1, fun h' => Same Hs h' ∧ Env H2 (L2.wipe σ vs ++ [some (.ref D)]) h' (wipeG G' vs ++ [some (.ow (nl K q) (((ys.take (i + 1)).filter p).map f))]), fun h' z => ⟨m - 1, by omega, by omega, z⟩, fun v h2 hy => ?_⟩
    obtain ⟨e2, z⟩ := g2 v h2 hy
    have hsp : ys = ys.take i ++ ys[i] :: ys.drop (i + 1) := by rw [List.getElem_cons_drop, List.take_append_drop]
    obtain ⟨Gx, ht, hb, he⟩ := turn (ys.take i) ys[i] (ys.drop (i + 1)) hsp
    refine ht H2 _ σ h2 v rfl (Eh.trunc.grow e2) z _ fun σ2 E4 hwp => ⟨hwp, hb H2 σ2 h2 E4 _ fun h3 e3 => ?_⟩
    cases hp : p ys[i] with
    | false =>
      refine iteF ⟨(sh.trans e2).trans e3, ?_⟩
      have : ((ys.take (i + 1)).filter p).map f = ((ys.take i).filter p).map f := by
        rw [etk, List.filter_append, List.filter_cons, if_neg (by rw [hp]; exact Bool.false_ne_true), List.filter_nil, List.append_nil]
      rw [this]
      exact Eh.grow (e2.trans e3)
    | true =>
      refine iteT (he hp H2 σ2 h3 (E4.grow e3) _ fun y h4 e4 hq => ?_)
      have E5 := Eh.grow ((e2.trans e3).trans e4)
      obtain ⟨own, k1, k2, k3⟩ := id E5.at_
      have hlg : (L2.wipe σ vs).length = (wipeG G' vs).length := (E2.wipe vs).len
      obtain ⟨w, hw', p', ws, a1, a2, a3, a4⟩ := k3 _ _ getE_last
      have hw2 := hw'
      rw [← hlg, getE_last] at hw'
      cases hw'
      cases a2
      have hlw : ws.length ≤ 12000000 := by
        rw [a4.len, List.length_map]
        exact Nat.le_trans (List.length_filter_le _ _) (Nat.le_trans (by rw [List.length_take]; exact Nat.min_le_right _ _) hlen)
      refine ⟨ws, a3, Nat.lt_of_le_of_lt hlw (by decide), ?_, ?_⟩
      · intro b o hb
        rw [upd_ne (ne_of_none hb hD)]
        exact e4 _ _ (e3 _ _ (e2 _ _ (sh _ _ hb)))
      · have E6 := app_env (x := f ys[i]) E5 getE_last hw2 a3 a4 (stb hq)
        rw [set_last] at E6
        have : ((ys.take (i + 1)).filter p).map f = ((ys.take i).filter p).map f ++ [f ys[i]] := by
          rw [etk, List.filter_append, List.filter_cons, if_pos hp, List.filter_nil, List.map_append]
          rfl
        rw [this]
        exact E6
  · have hi' : i = ys.length := by omega
    subst hi'
    rw [List.take_length] at Eh
    exact .inl ⟨W.stop h (E2.old.trans sh), Mk h Eh sh⟩
theorem et_yes : EvT tYes G true := fun H1 σ H E Q k => k H (Same.refl H)
theorem nw_lc1 {vs : List Nat} {f : β' → γ} {q : Rp γ} [F : Frz K q] {r : Rp β'} {ys : List β'} (hw : Wk wi r G G' ys) (hlen : ys.length ≤ 12000000)
    (turn : ∀ pre x post, ys = pre ++ x :: post → ∃ Gx, Tb g r x vs (wipeG G' vs) Gx ∧ Ev q te Gx (f x)) :
    Nw (nl K q) (tLc wi g tYes te vs) G (ys.map f) := by
  have := nw_lc (p := fun _ => true) (f := f) (tt := tYes) hw hlen fun pre x post h => by
    obtain ⟨Gx, h1, h2⟩ := turn pre x post h
    exact ⟨Gx, h1, et_yes, fun _ => h2⟩
  rw [List.filter_eq_self.mpr fun _ _ => rfl] at this
  exact this
end
end
section
theorem sz {n m : Nat} (h : n ≤ m) (hm : m ≤ sizeLine := by decide) : n ≤ sizeLine := Nat.le_trans h hm
theorem szS {n : Nat} (h : n ≤ 100000) : n ≤ sizeLine := Nat.le_trans h (by decide)
section
variable {K : PySem.W.Frag} {H0 H1 H H' : Hp} {σ : L2.St} {G G' Gx : Cells K} {α β γ S : Type}
variable {ta tb tc te : TE} {tt tu tv : TT} {r : Rp α} {q : Rp β} {a x : α} {b y : β} {i j n m : Int} {s t : Str} {c d : Bool}
theorem ev_add (ha : Ev rI ta G i) (hb : Ev rI tb G j) : Ev rI (tOp (rI0 fun i j => .int (i + j)) ta tb) G (i + j) := ev_op ha hb (op_I0 fun _ => rfl)
theorem ev_sub (ha : Ev rI ta G i) (hb : Ev rI tb G j) : Ev rI (tOp (rI0 fun i j => .int (i - j)) ta tb) G (i - j) := ev_op ha hb (op_I0 fun _ => rfl)
theorem ev_mul (ha : Ev rI ta G i) (hb : Ev rI tb G j) (h : CMul i j) : Ev rI (tOp (L2.rI CMul fun i j => .int (i * j)) ta tb) G (i * j) := ev_op ha hb (op_I h fun _ => rfl)
theorem ev_div (ha : Ev rI ta G i) (hb : Ev rI tb G j) (h : CDiv i j) : Ev rI (tOp (L2.rI CDiv fun i j => .int (i / j)) ta tb) G (i / j) := ev_op ha hb (op_I h fun _ => rfl)
theorem ev_mod (ha : Ev rI ta G i) (hb : Ev rI tb G j) (h : 0 < j) : Ev rI (tOp (L2.rI (fun _ j => 0 < j) fun i j => .int (i % j)) ta tb) G (i % j) := ev_op ha hb (op_I h fun _ => rfl)
theorem ev_pow (ha : Ev rI ta G i) (hb : Ev rI tb G j) (h : CPow i j) : Ev rI (tOp (L2.rI CPow fun i j => .int (i ^ j.toNat)) ta tb) G (i ^ j.toNat) := ev_op ha hb (op_I h fun _ => rfl)
theorem ev_lt (ha : Ev rI ta G i) (hb : Ev rI tb G j) : Ev rB (tOp (rI0 fun i j => .bl (decide (i < j))) ta tb) G (decide (i < j)) := ev_op ha hb (op_I0 fun _ => rfl)
theorem ev_le (ha : Ev rI ta G i) (hb : Ev rI tb G j) : Ev rB (tOp (rI0 fun i j => .bl (decide (i ≤ j))) ta tb) G (decide (i ≤ j)) := ev_op ha hb (op_I0 fun _ => rfl)
theorem ev_gt (ha : Ev rI ta G i) (hb : Ev rI tb G j) : Ev rB (tOp (rI0 fun i j => .bl (decide (j < i))) ta tb) G (decide (j < i)) := ev_op ha hb (op_I0 fun _ => rfl)
theorem ev_ge (ha : Ev rI ta G i) (hb : Ev rI tb G j) : Ev rB (tOp (rI0 fun i j => .bl (decide (j ≤ i))) ta tb) G (decide (j ≤ i)) := ev_op ha hb (op_I0 fun _ => rfl)
theorem ev_neg (ha : Ev rI ta G i) : Ev rI (tUn (rU fun i => .int (-i)) ta) G (-i) := fun H0 σ H E Q k => ha H0 σ H E _ fun u H' e h => ⟨i, h, k _ H' e rfl⟩
theorem ev_chain {o o' : Int → Int → V} {f f' : Int → Int → Bool} (h1 : ∀ i j, o i j = .bl (f i j)) (h2 : ∀ i j, o' i j = .bl (f' i j)) (ha : Ev rI ta G i) (hb : Ev rI tb G j) (hc : Ev rI tc G n) : Ev rB (tChain (rI0 o) (rI0 o') ta tb tc) G (f i j && f' j n) := fun H0 σ H E Q k =>
  ha H0 σ H E _ fun u H1 e1 z1 => hb H0 σ H1 (E.grow e1) _ fun v H2 e2 z2 => ⟨i, j, z1, z2, f i j, h1 i j, by
    cases hf : f i j with
    | false => exact iteF (k _ H2 (e1.trans e2) (by rw [hf]; rfl))
    | true => exact iteT (hc H0 σ H2 (E.grow (e1.trans e2)) _ fun w H3 e3 z3 => ⟨j, n, z2, z3, k _ H3 ((e1.trans e2).trans e3) (by rw [hf, h2]; rfl)⟩)⟩
theorem ev_chain_le (ha : Ev rI ta G i) (hb : Ev rI tb G j) (hc : Ev rI tc G n) : Ev rB (tChain (rI0 fun i j => .bl (decide (i ≤ j))) (rI0 fun i j => .bl (decide (i ≤ j))) ta tb tc) G (decide (i ≤ j) && decide (j ≤ n)) :=
  ev_chain (f := fun i j => decide (i ≤ j)) (f' := fun i j => decide (i ≤ j)) (fun _ _ => rfl) (fun _ _ => rfl) ha hb hc
theorem ev_chain_lelt (ha : Ev rI ta G i) (hb : Ev rI tb G j) (hc : Ev rI tc G n) : Ev rB (tChain (rI0 fun i j => .bl (decide (i ≤ j))) (rI0 fun i j => .bl (decide (i < j))) ta tb tc) G (decide (i ≤ j) && decide (j < n)) :=
  ev_chain (f := fun i j => decide (i ≤ j)) (f' := fun i j => decide (i < j)) (fun _ _ => rfl) (fun _ _ => rfl) ha hb hc
theorem ev_eqI (ha : Ev rI ta G i) (hb : Ev rI tb G j) : Ev rB (tOp rEq ta tb) G (decide (i = j)) := ev_op ha hb fun H u v hu hv Q k => by
  cases hu; cases hv
  exact ⟨rfl, k _ H (Same.refl H) (by show V.bl _ = V.bl _; congr 1; exact decide_eq_decide.mpr ⟨fun h => V.int.inj h, fun h => by rw [h]⟩)⟩
theorem ev_neI (ha : Ev rI ta G i) (hb : Ev rI tb G j) : Ev rB (tOp rNe ta tb) G (!decide (i = j)) := ev_op ha hb fun H u v hu hv Q k => by
  cases hu; cases hv
  exact ⟨rfl, k _ H (Same.refl H) (by show V.bl _ = V.bl _; congr 2; exact decide_eq_decide.mpr ⟨fun h => V.int.inj h, fun h => by rw [h]⟩)⟩
theorem ev_eqS (ha : Ev rS ta G s) (hb : Ev rS tb G t) : Ev rB (tOp rEq ta tb) G (decide (s = t)) := ev_op ha hb fun H u v ⟨hu, _⟩ ⟨hv, _⟩ Q k => by
  cases hu; cases hv
  exact ⟨rfl, k _ H (Same.refl H) (by show V.bl _ = V.bl _; congr 1; exact decide_eq_decide.mpr ⟨fun h => V.str.inj h, fun h => by rw [h]⟩)⟩
theorem ev_neS (ha : Ev rS ta G s) (hb : Ev rS tb G t) : Ev rB (tOp rNe ta tb) G (!decide (s = t)) := ev_op ha hb fun H u v ⟨hu, _⟩ ⟨hv, _⟩ Q k => by
  cases hu; cases hv
  exact ⟨rfl, k _ H (Same.refl H) (by show V.bl _ = V.bl _; congr 2; exact decide_eq_decide.mpr ⟨fun h => V.str.inj h, fun h => by rw [h]⟩)⟩
theorem ev_eqB (ha : Ev rB ta G c) (hb : Ev rB tb G d) : Ev rB (tOp rEq ta tb) G (decide (c = d)) := ev_op ha hb fun H u v hu hv Q k => by
  cases hu; cases hv
  exact ⟨rfl, k _ H (Same.refl H) (by show V.bl _ = V.bl _; congr 1; exact decide_eq_decide.mpr ⟨fun h => V.bl.inj h, fun h => by rw [h]⟩)⟩
theorem ev_neB (ha : Ev rB ta G c) (hb : Ev rB tb G d) : Ev rB (tOp rNe ta tb) G (!decide (c = d)) := ev_op ha hb fun H u v hu hv Q k => by
  cases hu; cases hv
  exact ⟨rfl, k _ H (Same.refl H) (by show V.bl _ = V.bl _; congr 2; exact decide_eq_decide.mpr ⟨fun h => V.bl.inj h, fun h => by rw [h]⟩)⟩
def isNone' {α : Type} : Option α → Bool
  | .none => true
  | .some _ => false
class NotNon {α : Type} (r : Rp α) : Prop where
  nn : ∀ {H : Hp} {v : V} {a : α}, r H v a → v ≠ .non
instance : NotNon rI := ⟨fun h z => by rw [z] at h; cases h⟩
instance : NotNon rS := ⟨fun h z => by rw [z] at h; exact nomatch h.1⟩
instance : NotNon rB := ⟨fun h z => by rw [z] at h; cases h⟩
instance {r : Rp α} : NotNon (rT K r) := ⟨fun ⟨_, _, e, _⟩ z => by rw [z] at e; cases e⟩
instance {r : Rp α} {q : Rp β} : NotNon (rP K r q) := ⟨fun ⟨_, _, _, e, _⟩ z => by rw [z] at e; cases e⟩
instance {r : Rp α} : NotNon (rL r) := ⟨fun ⟨_, _, e, _⟩ z => by rw [z] at e; cases e⟩
theorem isNone_of {r : Rp α} [N : NotNon r] {v : V} {o : Option α} (h : rO r H v o) : decide (v = .non) = isNone' o := by
  cases o with
  | none => exact decide_eq_true h
  | some a => exact decide_eq_false (N.nn (r := r) (H := H) (a := a) h)
theorem ev_isN [N : NotNon r] [M : Mono r] {o : Option α} (ha : Ev (rO r) ta G o) : Ev rB (tOp (fun x y H Q => y = .non ∧ Q (.bl (decide (x = .non))) H) ta (tC .non)) G (isNone' o) := fun H0 σ H E Q k =>
  ha H0 σ H E _ fun u H1 e1 z => ⟨rfl, k _ H1 e1 (by show V.bl _ = V.bl _; rw [isNone_of z])⟩
theorem ev_notN [N : NotNon r] [M : Mono r] {o : Option α} (ha : Ev (rO r) ta G o) : Ev rB (tOp (fun x y H Q => y = .non ∧ Q (.bl (!decide (x = .non))) H) ta (tC .non)) G (!isNone' o) := fun H0 σ H E Q k =>
  ha H0 σ H E _ fun u H1 e1 z => ⟨rfl, k _ H1 e1 (by show V.bl _ = V.bl _; rw [isNone_of z])⟩
theorem et_test (h : Ev rB te G c) : EvT (tTest te) G c := fun H0 σ H E Q k => h H0 σ H E _ fun v H' e z => ⟨c, z, k H' e⟩
theorem et_B (h : Ev rB te G c) : EvT (tB te) G c := fun H0 σ H E Q k => h H0 σ H E _ fun v H' e z => ⟨c, z, k H' e⟩
theorem et_and (h1 : EvT tt G c) (h2 : c = true → EvT tu G d) : EvT (tAnd tt tu) G (c && d) := fun H0 σ H E Q k => h1 H0 σ H E _ fun H1 e1 => by
  cases c with
  | true => exact iteT (h2 rfl H0 σ H1 (E.grow e1) _ fun H2 e2 => k H2 (e1.trans e2))
  | false => exact iteF (k H1 e1)
theorem et_or (h1 : EvT tt G c) (h2 : c = false → EvT tu G d) : EvT (tOr tt tu) G (c || d) := fun H0 σ H E Q k => h1 H0 σ H E _ fun H1 e1 => by
  cases c with
  | true => exact iteT (k H1 e1)
  | false => exact iteF (h2 rfl H0 σ H1 (E.grow e1) _ fun H2 e2 => k H2 (e1.trans e2))
theorem et_not (h1 : EvT tt G c) : EvT (tNot tt) G (!c) := fun H0 σ H E Q k => h1 H0 σ H E _ fun H1 e1 => k H1 e1
theorem ev_and (h1 : Ev rB ta G c) (h2 : c = true → Ev rB tb G d) : Ev rB (tAndV ta tb) G (c && d) := fun H0 σ H E Q k => h1 H0 σ H E _ fun v H1 e1 z => ⟨c, z, by
  cases c with
  | true => exact iteT (h2 rfl H0 σ H1 (E.grow e1) _ fun w H2 e2 z2 => k w H2 (e1.trans e2) z2)
  | false => exact iteF (k _ H1 e1 rfl)⟩
theorem ev_or (h1 : Ev rB ta G c) (h2 : c = false → Ev rB tb G d) : Ev rB (tOrV ta tb) G (c || d) := fun H0 σ H E Q k => h1 H0 σ H E _ fun v H1 e1 z => ⟨c, z, by
  cases c with
  | true => exact iteT (k _ H1 e1 rfl)
  | false => exact iteF (h2 rfl H0 σ H1 (E.grow e1) _ fun w H2 e2 z2 => k w H2 (e1.trans e2) z2)⟩
theorem ev_not (h1 : Ev rB ta G c) : Ev rB (tNotV ta) G (!c) := fun H0 σ H E Q k => h1 H0 σ H E _ fun v H1 e1 z => ⟨c, z, k _ H1 e1 rfl⟩
theorem ev_if (h : EvT tt G c) (h1 : c = true → Ev r ta G a) (h2 : c = false → Ev r tb G x) : Ev r (tIf tt ta tb) G (bif c then a else x) := fun H0 σ H E Q k => h H0 σ H E _ fun H1 e1 => by
  cases c with
  | true => exact iteT (h1 rfl H0 σ H1 (E.grow e1) _ fun w H2 e2 z2 => k w H2 (e1.trans e2) z2)
  | false => exact iteF (h2 rfl H0 σ H1 (E.grow e1) _ fun w H2 e2 z2 => k w H2 (e1.trans e2) z2)
abbrev tTru (K : PySem.W.Frag) (ta : TE) : TT := fun σ H Q => ta σ H fun x H' => ∃ k, TruV K x H' k ∧ Q k H'
theorem a2_empty {r : α → β → Prop} {xs : List α} {ys : List β} (h : A2 r xs ys) : xs.isEmpty = ys.isEmpty := by cases h <;> rfl
theorem et_truL {xs : List α} (h : Ev (rL r) ta G xs) : EvT (tTru K ta) G (!xs.isEmpty) := fun H0 σ H E Q k => h H0 σ H E _ fun v H1 e1 ⟨p, vs, ev, hp, z⟩ => ⟨!xs.isEmpty, by rw [ev]; exact .inl ⟨vs, SqL.of hp, by rw [a2_empty z]⟩, k H1 e1⟩
theorem et_truT {xs : List α} (h : Ev (rT K r) ta G xs) : EvT (tTru K ta) G (!xs.isEmpty) := fun H0 σ H E Q k => h H0 σ H E _ fun v H1 e1 ⟨p, vs, ev, hp, z⟩ => ⟨!xs.isEmpty, by rw [ev]; exact .inr (.inl ⟨vs, hp, by rw [a2_empty z]⟩), k H1 e1⟩
theorem ea_nil : EvA aN tNil G () := fun H0 σ H E Q k => k [] H (Same.refl H) rfl
theorem ea_cons {A : Ra γ} {g : γ} {tr : TA} [M : Mono r] (h : Ev r te G a) (hr : EvA A tr G g) : EvA (aC r A) (tCons te tr) G (a, g) := fun H0 σ H E Q k =>
  h H0 σ H E _ fun v H1 e1 z1 => hr H0 σ H1 (E.grow e1) _ fun vs H2 e2 z2 => k _ H2 (e1.trans e2) ⟨v, vs, rfl, M.up e2 z1, z2⟩
theorem ev_call {A : Ra γ} {g : γ} {pre : γ → Prop} {f : γ → β} {E' : XK} {t : TA} (h : EvA A t G g) (hp : pre g) (e : f g = b) : Ev q (tCall (spF A pre q f) [] E' t) G b := fun H0 σ H E Q k =>
  h H0 σ H E _ fun vs H1 e1 z1 => by
    rw [List.append_nil]
    exact ⟨g, z1, hp, fun v H2 e2 z2 => k v H2 (e1.trans e2) (e ▸ z2)⟩
theorem nw_call {A : Ra γ} {g : γ} {pre : γ → Prop} {R : Rs K β} {f : γ → β} {E' : XK} {t : TA} (h : EvA A t G g) (hp : pre g) (e : f g = b) : Nw R (tCall (spN A pre R f) [] E' t) G b := fun H0 σ H E Q k =>
  h H0 σ H E _ fun vs H1 e1 z1 => by
    rw [List.append_nil]
    exact ⟨g, z1, hp, fun v H2 as e2 hn z2 => k v H2 as (e1.trans e2) (fun p hp => free_back e1 (hn p hp)) (e ▸ z2)⟩
def CbE (o : List V → Hp → VK → Prop) (A : Ra γ) (q : Rp β) (g : γ) (b : β) : Prop := ∀ H vs, A H vs g → ∀ Q : VK, (∀ w H', Same H H' → q H' w b → Q w H') → o vs H Q
def CbN (o : List V → Hp → VK → Prop) (A : Ra γ) (R : Rs K β) (g : γ) (b : β) : Prop := ∀ H vs, A H vs g → ∀ Q : VK, (∀ w H' as, Same H H' → (∀ p, p ∈ as → H p = none) → R.rep H' w b as → Q w H') → o vs H Q
theorem ev_cb {o : List V → Hp → VK → Prop} {A : Ra γ} {g : γ} {t : TA} (h : EvA A t G g) (ho : CbE o A q g b) : Ev q (tCB o t) G b := fun H0 σ H E Q k =>
  h H0 σ H E _ fun vs H1 e1 z1 => ho H1 vs z1 Q fun v H2 e2 z2 => k v H2 (e1.trans e2) z2
theorem nw_cb {o : List V → Hp → VK → Prop} {A : Ra γ} {g : γ} {t : TA} {R : Rs K β} (h : EvA A t G g) (ho : CbN o A R g b) : Nw R (tCB o t) G b := fun H0 σ H E Q k =>
  h H0 σ H E _ fun vs H1 e1 z1 => ho H1 vs z1 Q fun v H2 as e2 hn z2 => k v H2 as (e1.trans e2) (fun p hp => free_back e1 (hn p hp)) z2
abbrev rLenU (K : PySem.W.Frag) : List V → Hp → VK → Prop := fun xs H Q => ∃ x n, xs = [x] ∧ LenV K x H n ∧ Q (.int n) H
abbrev rIntU : List V → Hp → VK → Prop := fun xs H Q => (∃ i, xs = [.int i] ∧ Q (.int i) H) ∨ ∃ k, xs = [.bl k] ∧ Q (.int (if k then 1 else 0)) H
theorem ev_intI (h : Ev rI te G i) : Ev rI (tCB rIntU (tCons te tNil)) G i := ev_cb (ea_cons h ea_nil) fun H vs ⟨v, ws, e, hv, e2⟩ Q k =>
  .inl ⟨i, by rw [e, show ws = [] from e2, show v = .int i from hv], k _ H (Same.refl H) rfl⟩
def b2 (c : Bool) : Int := bif c then 1 else 0
theorem b2_small (c : Bool) : -(2 ^ 64) < b2 c ∧ b2 c < 2 ^ 64 := by cases c <;> decide
theorem ev_intB (h : Ev rB te G c) : Ev rI (tCB rIntU (tCons te tNil)) G (b2 c) := ev_cb (ea_cons h ea_nil) fun H vs ⟨v, ws, e, hv, e2⟩ Q k =>
  .inr ⟨c, by rw [e, show ws = [] from e2, show v = .bl c from hv], k _ H (Same.refl H) (by cases c <;> rfl)⟩
theorem bls {vs : List V} {bs : List Bool} (z : A2 (rB H) vs bs) : vs = bs.map V.bl := A2.map_eq z
theorem ev_all {bs : List Bool} (h : Ev (rL rB) te G bs) : Ev rB (tCB (rAll K) (tCons te tNil)) G (bs.all id) := ev_cb (ea_cons h ea_nil) fun H vs ⟨v, ws, e, ⟨p, us, ev, hp, z⟩, e2⟩ Q k =>
  ⟨p, bs, by rw [e, show ws = [] from e2, ev], by rw [← bls z]; exact SqL.of hp, k _ H (Same.refl H) rfl⟩
theorem ev_any {bs : List Bool} (h : Ev (rL rB) te G bs) : Ev rB (tCB (rAny K) (tCons te tNil)) G (bs.any id) := ev_cb (ea_cons h ea_nil) fun H vs ⟨v, ws, e, ⟨p, us, ev, hp, z⟩, e2⟩ Q k =>
  ⟨p, bs, by rw [e, show ws = [] from e2, ev], by rw [← bls z]; exact SqL.of hp, k _ H (Same.refl H) rfl⟩
theorem ev_sum {ns : List Int} (h : Ev (rL rI) te G ns) : Ev rI (tCB (rSum K) (tCons te tNil)) G ns.sum := ev_cb (ea_cons h ea_nil) fun H vs ⟨v, ws, e, ⟨p, us, ev, hp, z⟩, e2⟩ Q k =>
  ⟨p, ns, by rw [e, show ws = [] from e2, ev], by rw [show us = ns.map V.int from A2.map_eq z] at hp; exact SqL.of hp, k _ H (Same.refl H) rfl⟩
abbrev rListU (K : PySem.W.Frag) : List V → Hp → VK → Prop := fun xs H Q => ∃ p ys, xs = [.ref p] ∧ (SqL K H p ys ∨ SqT K H p ys) ∧ ∀ l, H l = none → Q (.ref l) (upd H l (.lst ys))
theorem same_new {p : Addr} {o : HO} (h : H p = none) : Same H (upd H p o) := fun b u e => by rw [upd_ne (ne_of_none e h)]; exact e
def NewT (H : Hp) (Q : VK) (ys : List V) : Prop := ∀ l o, H l = none → o.dict = none → Q (.ref l) (upd H l (.frz o (.tup ys)))
abbrev rTupU (K : PySem.W.Frag) : List V → Hp → VK → Prop := fun xs H Q => ∃ p ys, xs = [.ref p] ∧ ((SqL K H p ys ∧ NewT H Q ys) ∨ (SqT K H p ys ∧ Q (.ref p) H))
def tTupD (t : TA) : TE := fun σ H Q => t σ H fun xs H1 => xs.length ≤ sizeLine ∧ NewT H1 Q xs
def aAll (r : Rp α) : Ra (List α) := fun H vs xs => A2 (r H) vs xs
instance [M : Mono r] : MonoA (aAll r) := ⟨fun e h => h.imp fun _ _ z => M.up e z⟩
theorem el_nil : EvA (aAll r) tNil G [] := fun H0 σ H E Q k => k [] H (Same.refl H) .nil
theorem el_cons {tr : TA} {xs : List α} [M : Mono r] (h : Ev r te G x) (hr : EvA (aAll r) tr G xs) : EvA (aAll r) (tCons te tr) G (x :: xs) := fun H0 σ H E Q k =>
  h H0 σ H E _ fun v H1 e1 z1 => hr H0 σ H1 (E.grow e1) _ fun vs H2 e2 z2 => k _ H2 (e1.trans e2) (.cons (M.up e2 z1) z2)
theorem nw_lst {ta : TA} {xs : List α} [M : Mono r] [F : Frz K r] (h : EvA (aAll r) ta G xs) (hz : xs.length ≤ 12000000) : Nw (nl K r) (tLst ta) G xs := fun H0 σ H E Q k =>
  h H0 σ H E _ fun vs H1 e1 z => ⟨by rw [A2.len z]; exact sz hz, fun p hp => k _ _ [p] (e1.trans (same_new hp)) (fun b hb => by rw [List.mem_singleton.mp hb]; exact free_back e1 hp) ⟨p, vs, rfl, rfl, upd_same, A2.imp (fun _ _ q => stb (M.up (same_new hp) q)) z⟩⟩
theorem ev_tup {ta : TA} {xs : List α} [M : Mono r] (h : EvA (aAll r) ta G xs) (hz : xs.length ≤ 12000000) : Ev (rT K r) (tTupD ta) G xs := fun H0 σ H E Q k =>
  h H0 σ H E _ fun vs H1 e1 z => ⟨by rw [A2.len z]; exact sz hz, fun p o hp hd => k _ _ (e1.trans (same_new hp)) ⟨p, vs, rfl, SqD.of upd_same hd, A2.imp (fun _ _ q => M.up (same_new hp) q) z⟩⟩
theorem ev_pair [M : Mono r] [N : Mono q] (h : Ev r ta G a) (h' : Ev q tb G b) : Ev (rP K r q) (tTupD (tCons ta (tCons tb tNil))) G (a, b) := fun H0 σ H E Q k =>
  h H0 σ H E _ fun v H1 e1 z1 => h' H0 σ H1 (E.grow e1) _ fun w H2 e2 z2 => ⟨by show 2 ≤ sizeLine; decide, fun p o hp hd => k _ _ ((e1.trans e2).trans (same_new hp)) ⟨p, v, w, rfl, (SqD.of upd_same hd).t, M.up (e2.trans (same_new hp)) z1, N.up (same_new hp) z2⟩⟩
theorem atI_A2 {f : V → α → Prop} {vs : List V} {xs : List α} {i : Int} {x : α} (z : A2 f vs xs) (h : atI xs i = some x) : ∃ v, atI vs i = some v ∧ f v x := by
  unfold atI at h ⊢
  rw [z.len]
  cases e : ixN xs.length i with
  | none => rw [e] at h; cases h
  | some j =>
    rw [e] at h
    exact z.get' (i := j) h
theorem ev_ixL {xs : List α} [M : Mono r] (h : Ev (rL r) ta G xs) (hi : Ev rI tb G i) (hx : atI xs i = some x) : Ev r (tOp (rIx K) ta tb) G x := ev_op h hi fun H u v ⟨p, vs, ev, hp, z⟩ hv Q k => by
  obtain ⟨w, hw, hr⟩ := atI_A2 z hx
  exact .inl ⟨p, vs, i, w, ev, hv, SqL.of hp, hw, k w H (Same.refl H) hr⟩
theorem atI_mem {xs : List α} {i : Int} {x : α} (h : atI xs i = some x) : x ∈ xs := by
  unfold atI at h
  cases e : ixN xs.length i with
  | none => rw [e] at h; cases h
  | some j => rw [e] at h; exact List.mem_of_getElem? h
theorem ev_fst [M : Mono r] [N : Mono q] {p : α × β} (h : Ev (rP K r q) ta G p) : Ev r (tOp (rIx K) ta (tC (.int 0))) G p.1 := fun H0 σ H E Q k =>
  h H0 σ H E _ fun v H1 e1 ⟨c, x, y, ev, hc, z1, z2⟩ => .inr (.inl ⟨c, [x, y], 0, x, ev, rfl, hc, rfl, k x H1 e1 z1⟩)
theorem ev_snd [M : Mono r] [N : Mono q] {p : α × β} (h : Ev (rP K r q) ta G p) : Ev q (tOp (rIx K) ta (tC (.int 1))) G p.2 := fun H0 σ H E Q k =>
  h H0 σ H E _ fun v H1 e1 ⟨c, x, y, ev, hc, z1, z2⟩ => .inr (.inl ⟨c, [x, y], 1, y, ev, rfl, hc, rfl, k y H1 e1 z2⟩)
def EvO (to : TO) (G : Cells K) (o : Option Int) : Prop := ∀ H0 σ H, Env H0 σ H G → ∀ Q : Option Int → Hp → Prop, (∀ H', Same H H' → Q o H') → to σ H Q
theorem eo_none : EvO tNoPart G Option.none := fun H0 σ H E Q k => k H (Same.refl H)
theorem eo_some (h : Ev rI te G i) : EvO (tPart te) G (Option.some i) := fun H0 σ H E Q k => h H0 σ H E _ fun v H' e z => ⟨i, z, k H' e⟩
def cut (xs : List α) (lo hi : Option Int) : List α := (xs.drop (HT.sIx xs.length 0 lo)).take (HT.sIx xs.length xs.length hi - HT.sIx xs.length 0 lo)
theorem cut_A2 {f : V → α → Prop} {vs : List V} {xs : List α} (z : A2 f vs xs) (lo hi : Option Int) : A2 f (cutV vs lo hi) (cut xs lo hi) := by
  unfold cutV cut
  rw [z.len]
  exact (z.drop _).take _
theorem nw_slL {xs : List α} {lo hi : Option Int} {tl th : TO} [M : Mono r] [F : Frz K r] (h : Ev (rL r) ta G xs) (hl : EvO tl G lo) (hh : EvO th G hi) : Nw (nl K r) (tSl (rSlL K) ta tl th) G (cut xs lo hi) := fun H0 σ H E Q k =>
  h H0 σ H E _ fun v H1 e1 ⟨p, vs, ev, hp, z⟩ => hl H0 σ H1 (E.grow e1) _ fun H2 e2 => hh H0 σ H2 (E.grow (e1.trans e2)) _ fun H3 e3 =>
    ⟨p, vs, ev, SqL.of (e3 _ _ (e2 _ _ hp)), fun l hn => k _ _ [l] (((e1.trans e2).trans e3).trans (same_new hn)) (fun b hb => by rw [List.mem_singleton.mp hb]; exact free_back ((e1.trans e2).trans e3) hn)
      ⟨l, _, rfl, rfl, upd_same, (cut_A2 z lo hi).imp fun _ _ q => stb (M.up ((e2.trans e3).trans (same_new hn)) q)⟩⟩
theorem okS_cut {s : Str} (h : okS s) (lo hi : Option Int) : okS (cutS s lo hi) := by
  have sub : ∀ c ∈ (s.cps.toList.drop (HT.sIx s.length 0 lo)).take (HT.sIx s.length s.length hi - HT.sIx s.length 0 lo), c ∈ s.cps.toList := fun c hc => List.mem_of_mem_drop (List.mem_of_mem_take hc)
  refine ⟨?_, ?_⟩
  · show ((s.cps.toList.drop (HT.sIx s.length 0 lo)).take (HT.sIx s.length s.length hi - HT.sIx s.length 0 lo)).toArray.size ≤ 100000
    rw [List.size_toArray, List.length_take, List.length_drop]
    have : s.cps.toList.length = s.length := rfl
    have := h.1
    omega
  · have := h.2
    rw [← Array.all_toList, List.all_eq_true] at this ⊢
    exact fun c hc => this c (sub c (by simpa [cutS] using hc))
theorem ev_slS {lo hi : Option Int} {tl th : TO} (h : Ev rS ta G s) (hl : EvO tl G lo) (hh : EvO th G hi) : Ev rS (tSl rSlS ta tl th) G (cutS s lo hi) := fun H0 σ H E Q k =>
  h H0 σ H E _ fun v H1 e1 z => hl H0 σ H1 (E.grow e1) _ fun H2 e2 => hh H0 σ H2 (E.grow (e1.trans e2)) _ fun H3 e3 => ⟨s, z.1, sz z.2.1, k _ H3 ((e1.trans e2).trans e3) ⟨rfl, okS_cut z.2 lo hi⟩⟩
abbrev rAddS : R2 := fun x y H Q => ∃ i j, x = .str i ∧ y = .str j ∧ i.length + j.length ≤ sizeLine ∧ Q (.str (i ++ j)) H
theorem ev_addS (h : Ev rS ta G s) (h' : Ev rS tb G t) (hz : s.length + t.length ≤ 100000) : Ev rS (tOp rAddS ta tb) G (s ++ t) := ev_op h h' fun H u v hu hv Q k => ⟨s, t, hu.1, hv.1, sz hz, k _ H (Same.refl H) ⟨rfl, okS_app hu.2 hv.2 hz⟩⟩
theorem nw_cat {xs ys : List α} [M : Mono r] [F : Frz K r] (h : Ev (rL r) ta G xs) (h' : Ev (rL r) tb G ys) (hz : xs.length + ys.length ≤ 12000000) : Nw (nl K r) (tOp rCat ta tb) G (xs ++ ys) := nw_op h h' fun H u v ⟨p, vs, ev, hp, z⟩ ⟨p', vs', ev', hp', z'⟩ Q k =>
  ⟨p, p', vs, vs', ev, ev', hp, hp', by rw [z.len, z'.len]; exact sz hz, fun l hl => k _ _ [l] (same_new hl) (fun b hb => by rw [List.mem_singleton.mp hb]; exact hl) ⟨l, _, rfl, rfl, upd_same, (A2.app z' z).imp fun _ _ q => stb (M.up (same_new hl) q)⟩⟩
theorem dot_eq : (Str.ofString ".") = ⟨#[46]⟩ := by decide +kernel
theorem atI_pos {xs : List α} {i : Int} {x : α} (h0 : 0 ≤ i) (h : xs[i.toNat]? = some x) : atI xs i = some x := by
  have hl := (List.getElem?_eq_some_iff.mp h).1
  unfold atI ixN
  rw [if_pos h0, if_pos (by omega)]
  exact h
theorem ev_inSign {z : Nat} (h : Ev rS ta G t) (e : t = ⟨#[z]⟩) (h' : Ev rS tb G s) : Ev rB (tOp (fun x y H Q => ∃ (c : Nat) (z : Str), x = .str ⟨#[c]⟩ ∧ y = .str z ∧ Q (.bl (decide (c ∈ z.cps.toList))) H) ta tb) G (decide (z ∈ s.cps.toList)) := ev_op h h' fun H u v hu hv Q k => ⟨z, s, by rw [← e]; exact hu.1, hv.1, k _ H (Same.refl H) rfl⟩
theorem ev_ninSign {z : Nat} (h : Ev rS ta G t) (e : t = ⟨#[z]⟩) (h' : Ev rS tb G s) : Ev rB (tOp (fun x y H Q => ∃ (c : Nat) (z : Str), x = .str ⟨#[c]⟩ ∧ y = .str z ∧ Q (.bl (!decide (c ∈ z.cps.toList))) H) ta tb) G (!decide (z ∈ s.cps.toList)) := ev_op h h' fun H u v hu hv Q k => ⟨z, s, by rw [← e]; exact hu.1, hv.1, k _ H (Same.refl H) rfl⟩
theorem inV_strs {xs : List Str} : inV (.str s) (xs.map V.str) = decide (s ∈ xs) := by
  unfold inV
  induction xs with
  | nil => simp
  | cons a l ih =>
    rw [List.map_cons, List.any_cons, ih]
    show ((a == s) || decide (s ∈ l)) = decide (s ∈ a :: l)
    by_cases h : a = s
    · subst h; simp
    · have : (a == s) = false := beq_eq_false_iff_ne.mpr h
      rw [this, Bool.false_or]
      apply decide_eq_decide.mpr
      rw [List.mem_cons]
      exact ⟨Or.inr, fun z => z.resolve_left fun e => h e.symm⟩
theorem flat_strs : ∀ xs : List Str, (xs.map V.str).all flatV = true
  | [] => rfl
  | _ :: r => by rw [List.map_cons, List.all_cons, flat_strs r]; rfl
theorem a2_strs {H : Hp} : ∀ {xs : List Str}, (∀ x ∈ xs, okS x) → A2 (rS H) (xs.map V.str) xs
  | [], _ => .nil
  | x :: xs, h => .cons ⟨rfl, h x (List.mem_cons_self ..)⟩ (a2_strs fun y hy => h y (List.mem_cons_of_mem _ hy))
theorem strs_a2 {H : Hp} {vs : List V} {xs : List Str} (z : A2 (rS H) vs xs) : vs = xs.map V.str := A2.map_eq (z.imp fun _ _ q => q.1)
theorem nw_split (h : Ev rS ta G s) (h' : Ev rS tb G t) (ht : (t.length == 0) = false) (hz : s.length ≤ 1000) (hk : ∀ x ∈ Txt.split s t, okS x) :
    Nw (nl K rS) (tM1 (fun x xs H Q => ∃ a b, x = .str a ∧ xs = [.str b] ∧ (b.length == 0) = false ∧ a.length + 2 ≤ sizeLine ∧ rNewStrs (Txt.split a b) H Q) ta tb) G (Txt.split s t) := fun H0 σ H E Q k =>
  h H0 σ H E _ fun v H1 e1 z1 => ⟨⟨s, z1.1⟩, h' H0 σ H1 (E.grow e1) _ fun w H2 e2 z2 => ⟨s, t, z1.1, by rw [show w = .str t from z2.1], ht, sz (m := 100000) (by omega), fun p hp => k _ _ [p] ((e1.trans e2).trans (same_new hp)) (fun b hb => by rw [List.mem_singleton.mp hb]; exact free_back (e1.trans e2) hp) ⟨p, _, rfl, rfl, upd_same, stbs (a2_strs hk)⟩⟩⟩
theorem ev_upper (h : Ev rS ta G s) (hk : okS (Txt.upper s)) : Ev rS (tM0 (fun x xs H Q => ∃ a, x = .str a ∧ xs = [] ∧ a.length ≤ 5592405 ∧ Q (.str (Txt.upper a)) H) ta) G (Txt.upper s) := fun H0 σ H E Q k =>
  h H0 σ H E _ fun v H1 e1 z1 => ⟨⟨s, z1.1⟩, s, z1.1, rfl, by have := z1.2.1; omega, k _ H1 e1 ⟨rfl, hk⟩⟩
theorem ev_join {xs : List Str} (h : Ev rS ta G s) (h' : Ev (rL rS) tb G xs) (hz : (xs.map (·.length)).sum + xs.length * s.length ≤ 16777216) (hk : okS (Txt.join s xs)) :
    Ev rS (tM1 (fun x xs H Q => ∃ a p, ∃ ys : List Str, x = .str a ∧ xs = [.ref p] ∧ (SqL K H p (ys.map V.str) ∨ SqT K H p (ys.map V.str)) ∧ (ys.map (·.length)).sum + ys.length * a.length ≤ 16777216 ∧ Q (.str (Txt.join a ys)) H) ta tb) G (Txt.join s xs) := fun H0 σ H E Q k =>
  h H0 σ H E _ fun v H1 e1 z1 => ⟨⟨s, z1.1⟩, h' H0 σ H1 (E.grow e1) _ fun w H2 e2 ⟨p, vs, ev, hp, z2⟩ => ⟨s, p, xs, z1.1, by rw [ev], .inl (by rw [← strs_a2 z2]; exact SqL.of hp), hz, k _ H2 (e1.trans e2) ⟨rfl, hk⟩⟩⟩
theorem ev_partition (h : Ev rS ta G s) (h' : Ev rS tb G t) (ht : (t.length == 0) = false) (hk : okS (Txt.partition s t).1 ∧ okS (Txt.partition s t).2.1 ∧ okS (Txt.partition s t).2.2) :
    Ev (rY K rS) (tM1 (fun x xs H Q => ∃ a b, x = .str a ∧ xs = [.str b] ∧ (b.length == 0) = false ∧ a.length ≤ sizeLine ∧
      ∀ p, H p = none → Q (.ref p) (upd H p (.tup [.str (Txt.partition a b).1, .str (Txt.partition a b).2.1, .str (Txt.partition a b).2.2]))) ta tb) G [(Txt.partition s t).1, (Txt.partition s t).2.1, (Txt.partition s t).2.2] := fun H0 σ H E Q k =>
  h H0 σ H E _ fun v H1 e1 z1 => ⟨⟨s, z1.1⟩, h' H0 σ H1 (E.grow e1) _ fun w H2 e2 z2 => ⟨s, t, z1.1, by rw [show w = .str t from z2.1], ht, sz z1.2.1, fun p hp => k _ _ ((e1.trans e2).trans (same_new hp)) ⟨p, _, rfl, SqT.of upd_same, .cons ⟨rfl, hk.1⟩ (.cons ⟨rfl, hk.2.1⟩ (.cons ⟨rfl, hk.2.2⟩ .nil))⟩⟩⟩
end
section
variable {X : Cx} {o e : Expr} {to te : TE}
abbrev rRpart : V → List V → Hp → VK → Prop := fun x xs H Q => ∃ a b, x = .str a ∧ xs = [.str b] ∧ (b.length == 0) = false ∧ a.length ≤ sizeLine ∧
    ∀ p, H p = none → Q (.ref p) (upd H p (.tup [.str (Txt.rpartition a b).1, .str (Txt.rpartition a b).2.1, .str (Txt.rpartition a b).2.2]))
theorem mt_rpartition : MtR X "str.rpartition" rRpart := by
  intro pins s σ H x xs v us Q I rx rs h
  obtain ⟨a, b, rfl, rfl, hb, hz, h⟩ := h
  obtain ⟨t, rfl⟩ := rx
  cases rs with
  | cons r1 rs =>
    cases rs
    obtain ⟨u, rfl⟩ := r1
    refine call_meets F.slot_str_rpartition (typeIs_str _ _ _) F.entry_str_rpartition (F.args_str_rpartition_2 _ _) (meets_str_rpartition a b t u hb hz) ?_
    unfold Txt.rpartition at h
    revert h
    cases hl : Builtin.Str.lastOccurrence a b 0 a.length with
    | none => exact fun h => laid_parts I h
    | some i => exact fun h => laid_parts I h
theorem pe_rpartition {apos pos : Pos} (ho : PE X o to) (he : PE X e te) (hs : starEach [e] X.env = [(false, eval e X.env)] := by rfl) (hbase : attributeBase o "rpartition" X.env (eval o X.env) = eval o X.env := by rfl) (hline : (apos.endLine == pos.line) = true := by rfl) :
    PE X (.Call (.Attribute o "rpartition" apos) [e] [] pos) (tM1 rRpart to te) := pe_m1 F.slot_str_rpartition F.type_str_rpartition mt_rpartition ho he hs hbase hline
end
theorem ev_rpartition {K : PySem.W.Frag} {G : Cells K} {ta tb : TE} {s t : Str} (h : Ev rS ta G s) (h' : Ev rS tb G t) (ht : (t.length == 0) = false) (hk : okS (Txt.rpartition s t).1 ∧ okS (Txt.rpartition s t).2.1 ∧ okS (Txt.rpartition s t).2.2) :
    Ev (rY K rS) (tM1 rRpart ta tb) G [(Txt.rpartition s t).1, (Txt.rpartition s t).2.1, (Txt.rpartition s t).2.2] := fun H0 σ H E Q k =>
  h H0 σ H E _ fun v H1 e1 z1 => ⟨⟨s, z1.1⟩, h' H0 σ H1 (E.grow e1) _ fun w H2 e2 z2 => ⟨s, t, z1.1, by rw [show w = .str t from z2.1], ht, sz z1.2.1, fun p hp => k _ _ ((e1.trans e2).trans (same_new hp)) ⟨p, _, rfl, SqT.of upd_same, .cons ⟨rfl, hk.1⟩ (.cons ⟨rfl, hk.2.1⟩ (.cons ⟨rfl, hk.2.2⟩ .nil))⟩⟩⟩
end
section
section
variable {K : PySem.W.Frag} {H0 H1 H H' : Hp} {σ : L2.St} {G G' Gx : Cells K} {α β γ S : Type}
variable {ta tb tc te : TE} {tt tu tv : TT} {r : Rp α} {q : Rp β} {R : Rp γ} {a x : α} {b y : β} {i j n m : Int} {s t : Str} {c d : Bool} {z w : γ}
class EqF {α : Type} (r : Rp α) where
  enc : α → V
  dec : DecidableEq α
  inj : ∀ {x y : α}, enc x = enc y → x = y
  rep : ∀ {H : Hp} {v : V} {a : α}, r H v a → v = enc a
  sc : ∀ x y : α, scal (enc x) (enc y) = true
instance : EqF rI := ⟨V.int, inferInstance, fun h => V.int.inj h, fun h => h, fun _ _ => rfl⟩
instance : EqF rS := ⟨V.str, inferInstance, fun h => V.str.inj h, fun h => h.1, fun _ _ => rfl⟩
instance : EqF rB := ⟨V.bl, inferInstance, fun h => V.bl.inj h, fun h => h, fun _ _ => rfl⟩
def encO {α : Type} (f : α → V) : Option α → V
  | .none => .non
  | .some a => f a
instance : EqF (rO rS) := ⟨encO V.str, inferInstance, fun {x y} h => match x, y, h with
  | .none, .none, _ => rfl
  | .some _, .some _, h => by rw [V.str.inj h], fun {_ _ a} h => match a, h with
  | .none, h => h
  | .some _, h => h.1, fun x y => match x, y with
  | .none, .none => rfl
  | .none, .some _ => rfl
  | .some _, .none => rfl
  | .some _, .some _ => rfl⟩
theorem ev_eq [F : EqF r] [M : Mono r] (ha : Ev r ta G a) (hb : Ev r tb G x) : Ev rB (tOp rEq ta tb) G (@decide (a = x) (F.dec a x)) := ev_op ha hb fun H u v hu hv Q k => by
  have e1 := F.rep hu
  have e2 := F.rep hv
  subst e1; subst e2
  refine ⟨F.sc _ _, k _ H (Same.refl H) ?_⟩
  show V.bl _ = V.bl _
  congr 1
  by_cases h : a = x
  · subst h
    rw [decide_eq_true rfl]
    exact (@decide_eq_true _ (F.dec _ _) rfl).symm
  · rw [decide_eq_false fun e => h (F.inj e)]
    exact (@decide_eq_false _ (F.dec _ _) h).symm
theorem ev_ne [F : EqF r] [M : Mono r] (ha : Ev r ta G a) (hb : Ev r tb G x) : Ev rB (tOp rNe ta tb) G (!@decide (a = x) (F.dec a x)) := ev_op ha hb fun H u v hu hv Q k => by
  have e1 := F.rep hu
  have e2 := F.rep hv
  subst e1; subst e2
  refine ⟨F.sc _ _, k _ H (Same.refl H) ?_⟩
  show V.bl _ = V.bl _
  congr 2
  by_cases h : a = x
  · subst h
    rw [decide_eq_true rfl]
    exact (@decide_eq_true _ (F.dec _ _) rfl).symm
  · rw [decide_eq_false fun e => h (F.inj e)]
    exact (@decide_eq_false _ (F.dec _ _) h).symm
def rQ (K : PySem.W.Frag) {β : Type} (r : Rp β) : Rp (List β) := fun H v xs => ∃ a vs, v = .ref a ∧ SqL K H a vs ∧ A2 (r H) vs xs
instance [M : Mono r] : Mono (rQ K r) := ⟨fun e ⟨a, vs, ev, h, q⟩ => ⟨a, vs, ev, e.seq h, q.imp fun _ _ z => M.up e z⟩⟩
class Ixd (K : PySem.W.Frag) {γ α : Type} (R : Rp γ) (z : γ) (r : outParam (Rp α)) (its : outParam (List α)) (ok : outParam Prop) : Prop where
  ix : ∀ {H : Hp} {u : V} {i : Int} {x : α} {Q : VK}, R H u z → ok → atI its i = some x → (∀ v, r H v x → Q v H) → rIx K u (.int i) H Q
instance {xs : List α} [M : Mono r] : Ixd K (rL r) xs r xs True := ⟨fun {H u i x Q} ⟨p, vs, ev, hp, h⟩ _ hx k => by
  obtain ⟨w, hw, hr⟩ := atI_A2 h hx
  exact .inl ⟨p, vs, i, w, ev, rfl, SqL.of hp, hw, k w hr⟩⟩
instance {xs : List α} [M : Mono r] : Ixd K (rQ K r) xs r xs True := ⟨fun {H u i x Q} ⟨p, vs, ev, hp, h⟩ _ hx k => by
  obtain ⟨w, hw, hr⟩ := atI_A2 h hx
  exact .inl ⟨p, vs, i, w, ev, rfl, hp, hw, k w hr⟩⟩
instance {xs : List α} [M : Mono r] : Ixd K (rT K r) xs r xs True := ⟨fun {H u i x Q} ⟨p, vs, ev, hp, h⟩ _ hx k => by
  obtain ⟨w, hw, hr⟩ := atI_A2 h hx
  exact .inr (.inl ⟨p, vs, i, w, ev, rfl, hp, hw, k w hr⟩)⟩
instance {xs : List α} [M : Mono r] : Ixd K (rY K r) xs r xs True := ⟨fun {H u i x Q} ⟨p, vs, ev, hp, h⟩ _ hx k => by
  obtain ⟨w, hw, hr⟩ := atI_A2 h hx
  exact .inr (.inl ⟨p, vs, i, w, ev, rfl, hp, hw, k w hr⟩)⟩
def chs (s : Str) : List Str := s.cps.toList.map fun c => (⟨#[c]⟩ : Str)
theorem atI_map {f : α → β} {l : List α} {i : Int} : atI (l.map f) i = (atI l i).map f := by
  unfold atI
  rw [List.length_map]
  cases ixN l.length i with
  | none => rfl
  | some j => show (l.map f)[j]? = _; rw [List.getElem?_map]; rfl
instance {z : Str} : Ixd K rS z rS (chs z) True := ⟨fun {H u i x Q} hu _ hx k => by
  unfold chs at hx
  rw [atI_map] at hx
  cases e : atI z.cps.toList i with
  | none => rw [e] at hx; cases hx
  | some c =>
    rw [e] at hx
    cases hx
    exact .inr (.inr ⟨z, i, c, hu.1, rfl, sz hu.2.1, e, k _ ⟨rfl, okS_chr hu.2 (atI_mem e)⟩⟩)⟩
theorem ev_ix {its : List α} {ok : Prop} [I : Ixd K R z r its ok] [M : Mono R] (h : Ev R ta G z) (hi : Ev rI tb G i) (hk : ok) (hx : atI its i = some x) : Ev r (tOp (rIx K) ta tb) G x := ev_op h hi fun H u v hu hv Q k => by
  rw [show v = .int i from hv]
  exact I.ix hu hk hx fun w hw => k w H (Same.refl H) hw
class Lnd (K : PySem.W.Frag) {γ : Type} (R : Rp γ) (z : γ) (ln : outParam Nat) (ok : outParam Prop) : Prop where
  len : ∀ {H : Hp} {u : V}, R H u z → ok → LenV K u H ln
instance {z : List α} : Lnd K (rL r) z z.length True := ⟨fun {H u} ⟨p, vs, ev, hp, h⟩ _ => by rw [ev, ← h.len]; exact .inl ⟨vs, SqL.of hp, rfl⟩⟩
instance {z : List α} : Lnd K (rQ K r) z z.length True := ⟨fun {H u} ⟨p, vs, ev, hp, h⟩ _ => by rw [ev, ← h.len]; exact .inl ⟨vs, hp, rfl⟩⟩
instance {z : List α} : Lnd K (rT K r) z z.length True := ⟨fun {H u} ⟨p, vs, ev, hp, h⟩ _ => by rw [ev, ← h.len]; exact .inr ⟨vs, hp, rfl⟩⟩
instance {z : α × β} : Lnd K (rP K r q) z 2 True := ⟨fun {H u} ⟨p, x, y, ev, hp, _⟩ _ => by rw [ev]; exact .inr ⟨_, hp, rfl⟩⟩
instance {z : Str} : Lnd K rS z z.length True := ⟨fun {H u} hu _ => by rw [show u = .str z from hu.1]; exact ⟨sz hu.2.1, rfl⟩⟩
theorem ev_len {ln : Nat} {ok : Prop} [L : Lnd K R z ln ok] [M : Mono R] (h : Ev R te G z) (hk : ok) : Ev rI (tCB (rLenU K) (tCons te tNil)) G (ln : Int) := ev_cb (ea_cons h ea_nil) fun H vs ⟨v, ws, e, hv, e2⟩ Q k =>
  ⟨v, ln, by rw [e, show ws = [] from e2], L.len hv hk, k _ H (Same.refl H) rfl⟩
class Tru (K : PySem.W.Frag) {γ : Type} (R : Rp γ) (z : γ) (f : outParam Bool) (ok : outParam Prop) : Prop where
  tru : ∀ {H : Hp} {u : V}, R H u z → ok → TruV K u H f
instance {z : List α} : Tru K (rL r) z (!z.isEmpty) True := ⟨fun {H u} ⟨p, vs, ev, hp, h⟩ _ => by rw [ev]; exact .inl ⟨vs, SqL.of hp, by rw [a2_empty h]⟩⟩
instance {z : List α} : Tru K (rT K r) z (!z.isEmpty) True := ⟨fun {H u} ⟨p, vs, ev, hp, h⟩ _ => by rw [ev]; exact .inr (.inl ⟨vs, hp, by rw [a2_empty h]⟩)⟩
instance {z : Int} : Tru K rI z (z != 0) True := ⟨fun {H u} hu _ => by rw [show u = .int z from hu]; exact rfl⟩
instance {z : Str} : Tru K rS z ((z.length : Int) != 0) True := ⟨fun {H u} hu _ => by rw [show u = .str z from hu.1]; exact ⟨sz hu.2.1, rfl⟩⟩
theorem et_tru {f : Bool} {ok : Prop} [L : Tru K R z f ok] (h : Ev R ta G z) (hk : ok) : EvT (tTru K ta) G f := fun H0 σ H E Q k => h H0 σ H E _ fun v H1 e1 hv => ⟨f, L.tru hv hk, k H1 e1⟩
class InS (K : PySem.W.Frag) (R : Rp (List Str)) : Prop where
  seq : ∀ {H : Hp} {u : V} {xs : List Str}, R H u xs → ∃ p, u = .ref p ∧ (SqL K H p (xs.map V.str) ∨ SqT K H p (xs.map V.str))
instance : InS K (rL rS) := ⟨fun ⟨p, vs, ev, hp, h⟩ => ⟨p, ev, .inl (by rw [← strs_a2 h]; exact SqL.of hp)⟩⟩
instance : InS K (rQ K rS) := ⟨fun ⟨p, vs, ev, hp, h⟩ => ⟨p, ev, .inl (by rw [← strs_a2 h]; exact hp)⟩⟩
instance : InS K (rT K rS) := ⟨fun ⟨p, vs, ev, hp, h⟩ => ⟨p, ev, .inr (by rw [← strs_a2 h]; exact hp.t)⟩⟩
theorem ev_in {R : Rp (List Str)} {xs : List Str} [I : InS K R] [M : Mono R] (h : Ev rS ta G s) (h' : Ev R tb G xs) : Ev rB (tOp (rIn K false) ta tb) G (decide (s ∈ xs)) := ev_op h h' fun H u v hu hv Q k => by
  obtain ⟨p, ev, hp⟩ := I.seq hv
  rw [show u = .str s from hu.1]
  exact ⟨p, _, ev, hp, rfl, flat_strs xs, k _ H (Same.refl H) (by show V.bl (inV _ _) = _; rw [inV_strs])⟩
theorem ev_nin {R : Rp (List Str)} {xs : List Str} [I : InS K R] [M : Mono R] (h : Ev rS ta G s) (h' : Ev R tb G xs) : Ev rB (tOp (rIn K true) ta tb) G (!decide (s ∈ xs)) := ev_op h h' fun H u v hu hv Q k => by
  obtain ⟨p, ev, hp⟩ := I.seq hv
  rw [show u = .str s from hu.1]
  exact ⟨p, _, ev, hp, rfl, flat_strs xs, k _ H (Same.refl H) (by show V.bl (!inV _ _) = _; rw [inV_strs])⟩
class Seq (K : PySem.W.Frag) {α : Type} (r : outParam (Rp α)) (R : Rp (List α)) : Prop where
  seq : ∀ {H : Hp} {u : V} {xs : List α}, R H u xs → ∃ p vs, u = .ref p ∧ (SqL K H p vs ∨ SqD K H p vs) ∧ A2 (r H) vs xs
instance : Seq K r (rL r) := ⟨fun ⟨p, vs, ev, hp, h⟩ => ⟨p, vs, ev, .inl (SqL.of hp), h⟩⟩
instance : Seq K r (rQ K r) := ⟨fun ⟨p, vs, ev, hp, h⟩ => ⟨p, vs, ev, .inl hp, h⟩⟩
instance : Seq K r (rT K r) := ⟨fun ⟨p, vs, ev, hp, h⟩ => ⟨p, vs, ev, .inr hp, h⟩⟩
theorem nw_list {R : Rp (List α)} {xs : List α} [I : Seq K r R] [N : Mono R] [M : Mono r] [F : Frz K r] (h : Ev R te G xs) : Nw (nl K r) (tCB (rListU K) (tCons te tNil)) G xs := nw_cb (ea_cons h ea_nil) fun H vs ⟨v, ws, e, hv, e2⟩ Q k => by
  obtain ⟨p, us, ev, hp, h⟩ := I.seq hv
  exact ⟨p, us, by rw [e, show ws = [] from e2, ev], hp.imp id SqD.t, fun l hl => k _ _ [l] (same_new hl) (fun b hb => by rw [List.mem_singleton.mp hb]; exact hl) ⟨l, us, rfl, rfl, upd_same, h.imp fun _ _ q => stb (M.up (same_new hl) q)⟩⟩
theorem ev_tupC {R : Rp (List α)} {xs : List α} [I : Seq K r R] [N : Mono R] [M : Mono r] (h : Ev R te G xs) : Ev (rT K r) (tCB (rTupU K) (tCons te tNil)) G xs := ev_cb (ea_cons h ea_nil) fun H vs ⟨v, ws, e, hv, e2⟩ Q k => by
  obtain ⟨p, us, ev, hp, h⟩ := I.seq hv
  refine ⟨p, us, by rw [e, show ws = [] from e2, ev], ?_⟩
  rcases hp with hp | hp
  · exact .inl ⟨hp, fun l o hl hd => k _ _ (same_new hl) ⟨l, us, rfl, SqD.of upd_same hd, h.imp fun _ _ q => M.up (same_new hl) q⟩⟩
  · exact .inr ⟨hp, k _ H (Same.refl H) ⟨p, us, rfl, hp, h⟩⟩
class TyN (K : PySem.W.Frag) {γ : Type} (R : Rp γ) (T : outParam String) : Prop where
  ty : ∀ {H : Hp} {u : V} {z : γ}, R H u z → TyX K H u (.type T)
instance : TyN K rS "str" := ⟨fun h => by rw [h.1]; exact .base (.str _)⟩
instance : TyN K rI "int" := ⟨fun h => by rw [h]; exact .base (.int _)⟩
instance : TyN K rB "bool" := ⟨fun h => by rw [h]; exact .base (.bl _)⟩
instance : TyN K (rL r) "list" := ⟨fun ⟨p, vs, ev, hp, _⟩ => by rw [ev]; exact .base (.lst hp)⟩
theorem ty_tup {p : Addr} {vs : List V} (h : SqT K H p vs) : TyX K H (.ref p) (.type "tuple") := by
  rcases h with (h | ⟨o, h⟩) | ⟨o, its, n, h1, h2, _⟩
  · exact .base (.tup h)
  · exact .fTuple h
  · exact .kTuple h1 h2
instance : TyN K (rT K r) "tuple" := ⟨fun ⟨p, vs, ev, hp, _⟩ => by rw [ev]; exact ty_tup hp.t⟩
instance : TyN K (rP K r q) "tuple" := ⟨fun ⟨p, x, y, ev, hp, _⟩ => by rw [ev]; exact ty_tup hp⟩
theorem ev_isi {T T' : String} {f : Bool} [N : TyN K R T] [M : Mono R] (h : Ev R te G z) (hb : kitB T T' = some f) : Ev rB (tCB (rIsi K) (tCons te (tCons (tC (.ty T')) tNil))) G f := fun H0 σ H E Q k =>
  h H0 σ H E _ fun v H1 e1 hv => ⟨v, .ty T', .type T, .type T', f, rfl, .ty T', N.ty hv, kit_ty hb, k _ H1 e1 rfl⟩
end
end
section
theorem tup_laid {X : Cx} {pins : List (Addr × Obj)} {σ : L2.St} {H : Hp} {s : Shared} {h : Heap} {xs : List V} {its : List Value} (J : L2.Inv X pins σ H { s with heap := h }) (r : Vals xs its) (z : xs.length ≤ sizeLine) :
    L2.Inv X pins σ (upd H h.objs.size (.frz { cls := .type "tuple", data := .seq its.toArray } (.tup xs))) { s with heap := h.push { cls := .type "tuple", data := .seq its.toArray } } :=
  J.laid (t' := s.toks) (fun _ _ w => Heap.get?_push_of_some _ w) (Nat.le_refl _) (by
    refine ⟨Heap.get?_push_size _ rfl, ?_⟩
    exact ⟨z, its, r, ⟨_, Heap.get?_push_size _ rfl, rfl, _, rfl⟩⟩)
theorem call_tupleD {X : Cx} : CallR X (.type "tuple") (rTupU X.K) := by
  intro pins s σ H xs us Q I rv hw
  obtain ⟨p, ys, rfl, hw⟩ := hw
  obtain ⟨u, rfl, ru⟩ := Vals.one rv
  cases ru
  rcases hw with ⟨hq, q⟩ | ⟨hq, q⟩
  · obtain ⟨its, rr, pl, hz⟩ := I.list hq
    refine call_tuple_list pl.isList (fun h2 kp => ?_) (by rw [List.size_toArray, ← rr.length]; exact hz)
    have J : L2.Inv X pins σ H { s with heap := h2 } := I.kept (t' := s.toks) kp
    exact ⟨.ref h2.objs.size, _, tup_laid J rr hz, rfl, q _ _ (J.hok.fresh (Nat.le_refl _)) rfl⟩
  · obtain ⟨its, rr, pl, hz⟩ := I.tuple hq
    exact call_tuple_same pl ⟨.ref p, H, I, rfl, q⟩
theorem pe_tupD {X : Cx} {es : List Expr} {t : TA} {x1 : Nat} {pos : Pos} (h : PA X es t) : PE X (.Tuple es x1 pos) (tTupD t) := by
  refine ⟨fun pins s σ H Q I w => ?_⟩
  refine wpAny_Tuple_spliced (thn (h.run pos pins s σ H _ I w) fun us s2 ⟨xs, H2, I2, rr, z, q⟩ => ⟨by rw [← rr.length]; exact z, ?_⟩)
  exact ⟨.ref s2.heap.objs.size, _, tup_laid I2 rr z, rfl, q _ _ (I2.hok.fresh (Nat.le_refl _)) rfl⟩
section
variable {X : Cx} (K : PySem.W.Frag) {e o l : Expr} {es : List Expr} {te ta tl to : TE} {t : TA} {pos apos cpos : Pos} {tg : Expr}
theorem k_ix (h : X.K = K := by rfl) : IxR X (rIx K) := by subst h; exact ix_seq
theorem k_slL (h : X.K = K := by rfl) : SlR X (rSlL K) := by subst h; exact sl_list
theorem k_len (h : X.K = K := by rfl) : CallR X (.builtin "len") (rLenU K) := by subst h; exact call_len
theorem k_list (h : X.K = K := by rfl) : CallR X (.type "list") (rListU K) := by subst h; exact call_list_of
theorem k_tuple (h : X.K = K := by rfl) : CallR X (.type "tuple") (rTupU K) := by subst h; exact call_tupleD
theorem k_in (h : X.K = K := by rfl) : OpR X (compareOp .In) (rIn K false) := by subst h; exact op_in_seq
theorem k_nin (h : X.K = K := by rfl) : OpR X (compareOp .NotIn) (rIn K true) := by subst h; exact op_notIn_seq
theorem k_all (hc : X.calm = true) (h : X.K = K := by rfl) : CallR X (.builtin "all") (rAll K) := by subst h; exact cr_all hc
theorem k_sum (hc : X.calm = true) (h : X.K = K := by rfl) : CallR X (.builtin "sum") (rSum K) := by subst h; exact cr_sum hc
theorem k_neD (hu : X.A.units + 64 < cLine) (h : X.K = K := by rfl) : OpR X (compareOp .NotEq) (rNeD K) := by subst h; exact op_neD hu
theorem k_ninD (hu : X.A.units + 65 < cLine) (h : X.K = K := by rfl) : OpR X (compareOp .NotIn) (rNotInD K) := by subst h; exact op_notInD hu
theorem pi_listK (hl : PE X l tl) (h : X.K = K := by rfl) : PI X tg l (iList K tl) := by subst h; exact pi_list hl
theorem pi_tupK (hl : PE X l tl) (h : X.K = K := by rfl) : PI X tg l (iTup K tl) := by subst h; exact pi_tup hl
theorem pg_tupK {k n : Nat} {t : TGs} (hc : X.calm = true) (ht : PGs X es t) (h : X.K = K := by rfl) (hn : (assignEach es X.env).length = n := by rfl) (hst : (assignEach es X.env).findIdx? (·.1) = none := by rfl) : PG X (.Tuple es k pos) (gTup K n t) := by subst h; exact pg_tup hc ht hn hst
theorem pt_tru (ha : PE X e te) (h : X.K = K := by rfl) (he : ∀ whole, isTrue e X.env whole = (do let v ← whole; standAt e.pos; holding [v] (truthy v)) := by intro _; rfl) : PT X e (tTru K te) := by subst h; exact pt_truth ha he
theorem pe_app (ho : PE X o to) (ha : PA X (e :: es) t) (h : X.K = K := by rfl) (hbase : attributeBase o "append" X.env (eval o X.env) = eval o X.env := by rfl)
    (hfew : ((backTo cpos (starEach (e :: es) X.env)).all (fun x => !x.1) && (backToKw cpos (keywordEach [] X.env)).all (fun x => x.1.isSome)
      && decide ((e :: es).length + ([] : List Keyword).length + (if ([] : List Keyword).isEmpty then 0 else 1) < 30)) = true := by rfl)
    (hline : (apos.endLine == cpos.line) = true := by rfl) (hs : starEach (e :: es) X.env = (false, eval e X.env) :: starEach es X.env := by rfl) (hplain : (backTo cpos (starEach es X.env)).any (·.1) = false := by rfl) :
    PE X (.Call (.Attribute o "append" apos) (e :: es) [] cpos) (tBM K "list" rAppend to t) := by subst h; exact pe_bm PySem.F.plainAttrs_list PySem.F.slot_list_append PySem.F.type_list_append mt_append ho ha hbase hfew hline hs hplain
theorem pe_fldK {f : Str} (he : PE X e ta) (h : X.K = K := by rfl) (hb : attributeBase e f X.env (eval e X.env) = eval e X.env := by rfl) : PE X (.Attribute e f pos) (tFld K ta f) := by subst h; exact pe_fld he hb
end
section
variable {K : PySem.W.Frag} {H0 : Hp} {G : Cells K} {α : Type} {r : Rp α} {te : TE} {u : TS} {D : Ends} {i : Nat} {xs : List α} {x : α}
theorem l_app {x' : α} (hi : G[i]? = some (some (.ow (nl K r) xs))) (h : Ev r te G x') (ex : x' = x) (hz : xs.length < 12000000) (k : Nx H0 (G.set i (some (.ow (nl K r) (xs ++ [x])))) D.nx) (F : Frz K r := by infer_instance) :
    Sv H0 G (tDrop (tBM K "list" rAppend (tVar i) (tCons te tNil))) D := fun σ H ⟨H1, e1, E⟩ => by
  subst ex
  obtain ⟨own, h1, h2, h3⟩ := id E.at_
  obtain ⟨v, hv, p, vs, ea, ev, hp, z⟩ := h3 i _ hi
  subst ev
  refine ⟨_, hv, .inl ⟨rfl, vs, SqL.of hp⟩, h H1 σ H E _ fun w H2 e2 hw => ?_⟩
  have z2 : A2 (Stb K r H2) vs xs := z.imp fun _ _ q => q.up (ext_same e2)
  exact ⟨p, vs, w, rfl, rfl, e2 _ _ hp, Nat.lt_of_le_of_lt (by rw [z.len]; omega) (by decide : 12000000 < sizeLine), k _ _ ⟨H1, e1, app_env (E.grow e2) hi hv (e2 _ _ hp) z2 (stb hw)⟩⟩
theorem q_app {x' : α} (hi : G[i]? = some (some (.ow (nl K r) xs))) (h : Ev r te G x') (ex : x' = x) (hz : xs.length < 12000000) (k : Sv H0 (G.set i (some (.ow (nl K r) (xs ++ [x])))) u D) (F : Frz K r := by infer_instance) :
    Sv H0 G (tSeq (tDrop (tBM K "list" rAppend (tVar i) (tCons te tNil))) u) D := l_app hi h ex hz k F
end
end
section
section
variable {K : PySem.W.Frag} {H0 H1 H H' : Hp} {σ : L2.St} {G G' Gx : Cells K} {α β γ S : Type}
variable {ta tb tc te : TE} {tt tu tv : TT} {r : Rp α} {q : Rp β} {R : Rp γ} {a x : α} {b y : β} {i j n m : Int} {s t : Str} {c d : Bool} {z w : γ}
theorem a_fz {i : Nat} (h : G[i]? = some (some (.ow (fz K r) a))) : Ev r (tVar i) G a := ev_fz h
theorem a_lst {i : Nat} {xs : List α} (h : G[i]? = some (some (.ow (nl K r) xs))) : Ev (rL r) (tVar i) G xs := ev_lst h
theorem a_ro {i : Nat} {M : Mono r} (h : G[i]? = some (some (.ro r M a))) : Ev r (tVar i) G a := ev_ro h
def EqC (r : Rp α) (a x : α) (f : Bool) : Prop := ∀ (K : PySem.W.Frag) (G : Cells K) ta tb, Ev r ta G a → Ev r tb G x → Ev rB (tOp rEq ta tb) G f ∧ Ev rB (tOp rNe ta tb) G (!f)
theorem eqc_I : EqC rI i j (decide (i = j)) := fun K G ta tb h h' => ⟨ev_eqI h h', ev_neI h h'⟩
theorem eqc_S : EqC rS s t (decide (s = t)) := fun K G ta tb h h' => ⟨ev_eqS h h', ev_neS h h'⟩
theorem eqc_B : EqC rB c d (decide (c = d)) := fun K G ta tb h h' => ⟨ev_eqB h h', ev_neB h h'⟩
theorem eqc_O {s t : Option Str} : EqC (rO rS) s t (decide (s = t)) := fun K G ta tb h h' => ⟨ev_eq h h', ev_ne h h'⟩
theorem a_eq {f : Bool} (h : Ev r ta G a) (h' : Ev r tb G x) (e : EqC r a x f) : Ev rB (tOp rEq ta tb) G f := (e K G ta tb h h').1
theorem a_ne {f : Bool} (h : Ev r ta G a) (h' : Ev r tb G x) (e : EqC r a x f) : Ev rB (tOp rNe ta tb) G (!f) := (e K G ta tb h h').2
theorem a_in {R : Rp (List Str)} {xs : List Str} (h : Ev rS ta G s) (h' : Ev R tb G xs) (I : InS K R) (M : Mono R) : Ev rB (tOp (rIn K false) ta tb) G (decide (s ∈ xs)) := ev_in h h'
theorem a_nin {R : Rp (List Str)} {xs : List Str} (h : Ev rS ta G s) (h' : Ev R tb G xs) (I : InS K R) (M : Mono R) : Ev rB (tOp (rIn K true) ta tb) G (!decide (s ∈ xs)) := ev_nin h h'
def IxC (K : PySem.W.Frag) (R : Rp γ) (z : γ) (tb : TE) (G : Cells K) (r : Rp α) (x : α) : Prop := ∀ ta, Ev R ta G z → Ev r (tOp (rIx K) ta tb) G x
theorem a_ix (h : Ev R ta G z) (k : IxC K R z tb G r x) : Ev r (tOp (rIx K) ta tb) G x := k ta h
theorem ixc_L {xs : List α} [M : Mono r] (hi : Ev rI tb G i) (hx : atI xs i = some x) : IxC K (rL r) xs tb G r x := fun ta h => ev_ix h hi trivial hx
theorem ixc_Q {xs : List α} [M : Mono r] (hi : Ev rI tb G i) (hx : atI xs i = some x) : IxC K (rQ K r) xs tb G r x := fun ta h => ev_ix h hi trivial hx
theorem ixc_T {xs : List α} [M : Mono r] (hi : Ev rI tb G i) (hx : atI xs i = some x) : IxC K (rT K r) xs tb G r x := fun ta h => ev_ix h hi trivial hx
theorem ixc_S {t : Str} (hi : Ev rI tb G i) (hx : atI (chs s) i = some t) : IxC K rS s tb G rS t := fun ta h => ev_ix h hi trivial hx
theorem ixc_0 {p : α × β} [M : Mono r] [N : Mono q] : IxC K (rP K r q) p (tC (.int 0)) G r p.1 := fun ta h => ev_fst h
theorem ixc_1 {p : α × β} [M : Mono r] [N : Mono q] : IxC K (rP K r q) p (tC (.int 1)) G q p.2 := fun ta h => ev_snd h
def LnC (K : PySem.W.Frag) (R : Rp γ) (z : γ) (n : Nat) : Prop := ∀ (G : Cells K) te, Ev R te G z → Ev rI (tCB (rLenU K) (tCons te tNil)) G (n : Int)
theorem a_len {n : Nat} (h : Ev R te G z) (k : LnC K R z n) : Ev rI (tCB (rLenU K) (tCons te tNil)) G (n : Int) := k G te h
theorem lnc_L {xs : List α} [M : Mono r] : LnC K (rL r) xs xs.length := fun G te h => ev_len h trivial
theorem lnc_Q {xs : List α} [M : Mono r] : LnC K (rQ K r) xs xs.length := fun G te h => ev_len h trivial
theorem lnc_T {xs : List α} [M : Mono r] : LnC K (rT K r) xs xs.length := fun G te h => ev_len h trivial
theorem lnc_P {p : α × β} [M : Mono r] [N : Mono q] : LnC K (rP K r q) p 2 := fun G te h => ev_len h trivial
theorem lnc_S : LnC K rS s s.length := fun G te h => ev_len h trivial
def IntC (R : Rp γ) (z : γ) (n : Int) : Prop := ∀ (K : PySem.W.Frag) (G : Cells K) te, Ev R te G z → Ev rI (tCB rIntU (tCons te tNil)) G n
theorem a_int (h : Ev R te G z) (k : IntC R z n) : Ev rI (tCB rIntU (tCons te tNil)) G n := k K G te h
theorem intc_I : IntC rI i i := fun K G te h => ev_intI h
theorem intc_B : IntC rB c (b2 c) := fun K G te h => ev_intB h
def TrC (K : PySem.W.Frag) (R : Rp γ) (z : γ) (f : Bool) : Prop := ∀ (G : Cells K) te, Ev R te G z → EvT (tTru K te) G f
theorem a_tru {f : Bool} (h : Ev R ta G z) (k : TrC K R z f) : EvT (tTru K ta) G f := k G ta h
theorem trc_L {xs : List α} : TrC K (rL r) xs (!xs.isEmpty) := fun G te h => et_tru h trivial
theorem trc_T {xs : List α} : TrC K (rT K r) xs (!xs.isEmpty) := fun G te h => et_tru h trivial
theorem trc_I : TrC K rI i (i != 0) := fun G te h => et_tru h trivial
theorem trc_S : TrC K rS s ((s.length : Int) != 0) := fun G te h => et_tru h trivial
theorem a_tupC {R : Rp (List α)} {xs : List α} (h : Ev R te G xs) (N : Mono R) (I : Seq K r R) (M : Mono r) : Ev (rT K r) (tCB (rTupU K) (tCons te tNil)) G xs := ev_tupC h
theorem a_list {R : Rp (List α)} {xs : List α} (h : Ev R te G xs) (N : Mono R) (I : Seq K r R) (M : Mono r) (F : Frz K r) : Nw (nl K r) (tCB (rListU K) (tCons te tNil)) G xs := nw_list h
theorem a_isi {T T' : String} {f : Bool} (h : Ev R te G z) (M : Mono R) (N : TyN K R T) (hb : kitB T T' = some f) : Ev rB (tCB (rIsi K) (tCons te (tCons (tC (.ty T')) tNil))) G f := ev_isi h hb
theorem a_cons {A : Ra γ} {g : γ} {tr : TA} (h : Ev r te G a) (M : Mono r) (hr : EvA A tr G g) : EvA (aC r A) (tCons te tr) G (a, g) := ea_cons h hr
theorem a_el {tr : TA} {xs : List α} (h : Ev r te G x) (M : Mono r) (hr : EvA (aAll r) tr G xs) : EvA (aAll r) (tCons te tr) G (x :: xs) := el_cons h hr
theorem a_tup {ta : TA} {xs : List α} (h : EvA (aAll r) ta G xs) (M : Mono r) (hz : xs.length ≤ 12000000) : Ev (rT K r) (tTupD ta) G xs := ev_tup h hz
theorem a_lstD {ta : TA} {xs : List α} (h : EvA (aAll r) ta G xs) (M : Mono r) (F : Frz K r) (hz : xs.length ≤ 12000000) : Nw (nl K r) (tLst ta) G xs := nw_lst h hz
theorem a_pair (h : Ev r ta G a) (M : Mono r) (h' : Ev q tb G b) (N : Mono q) : Ev (rP K r q) (tTupD (tCons ta (tCons tb tNil))) G (a, b) := ev_pair h h'
theorem a_slL {xs : List α} {lo hi : Option Int} {tl th : TO} (h : Ev (rL r) ta G xs) (M : Mono r) (F : Frz K r) (hl : EvO tl G lo) (hh : EvO th G hi) : Nw (nl K r) (tSl (rSlL K) ta tl th) G (cut xs lo hi) := nw_slL h hl hh
theorem a_cat {xs ys : List α} (h : Ev (rL r) ta G xs) (M : Mono r) (F : Frz K r) (h' : Ev (rL r) tb G ys) (hz : xs.length + ys.length ≤ 12000000) : Nw (nl K r) (tOp rCat ta tb) G (xs ++ ys) := nw_cat h h' hz
theorem a_isN {o : Option α} (ha : Ev (rO r) ta G o) (N : NotNon r) (M : Mono r) : Ev rB (tOp (fun x y H Q => y = .non ∧ Q (.bl (decide (x = .non))) H) ta (tC .non)) G (isNone' o) := ev_isN ha
theorem a_notN {o : Option α} (ha : Ev (rO r) ta G o) (N : NotNon r) (M : Mono r) : Ev rB (tOp (fun x y H Q => y = .non ∧ Q (.bl (!decide (x = .non))) H) ta (tC .non)) G (!isNone' o) := ev_notN ha
def PreOk (pre : γ → Prop) (g : γ) : Prop := pre g
def AppEq (f : γ → β) (g : γ) (b : β) : Prop := f g = b
theorem a_call {A : Ra γ} {g : γ} {pre : γ → Prop} {f : γ → β} {E' : XK} {t : TA} (h : EvA A t G g) (hp : PreOk pre g) (e : AppEq f g b) : Ev q (tCall (spF A pre q f) [] E' t) G b := ev_call h hp e
theorem a_ncall {A : Ra γ} {g : γ} {pre : γ → Prop} {R : Rs K β} {f : γ → β} {E' : XK} {t : TA} (h : EvA A t G g) (hp : PreOk pre g) (e : AppEq f g b) : Nw R (tCall (spN A pre R f) [] E' t) G b := nw_call h hp e
theorem a_nl {xs : List α} (h : Nw (nl K r) te G xs) : Ev (rL r) te G xs := h.lst
end
end
section
section
variable {X : Cx} {CX : CXT} {pins : List (Addr × Obj)} {σ : L2.St} {H H' : Hp} {s s' : Shared} {C fi a it l : Addr} {k : Nat} {fd : FuncData} {ps : List Str} {sp : Sp} {E : XK} {e : Expr} {te : TE} {tg : Expr} {o : HO}
def rListY (K : PySem.W.Frag) (C : Addr) (g : Str) : List V → Hp → VK → Prop := fun xs H Q => ∃ a dx fs l zs, xs = [.ref a] ∧ H a = some (.ins C dx fs) ∧ fs.lookup g = some (.ref l) ∧ SqL K H l zs ∧ zs.length ≤ sizeLine ∧ (∀ q, H q = none → l ≠ q) ∧ ∀ q, H q = none → Q (.ref q) (upd H q (.lst zs))
def rOwnOp (C : Addr) (sp : Sp) (E : XK) : R2 := fun x y H Q => ∃ a dx fs b dy gs, x = .ref a ∧ y = .ref b ∧ H a = some (.ins C dx fs) ∧ H b = some (.ins C dy gs) ∧ sp [x, y] H Q E
def rOwnIn (C : Addr) (neg : Bool) (sp : Sp) (E : XK) : R2 := fun x o H Q => ∃ a dx fs, o = .ref a ∧ H a = some (.ins C dx fs) ∧ sp [o, x] H (fun v H' => ∃ b, v = .bl b ∧ Q (.bl (xor neg b)) H') E
end
end
section
structure Dat (K : PySem.W.Frag) {β : Type} (r : Rp β) where
  dec : DecidableEq β
  enc : β → PyData
  dep : Nat
  dp : ∀ {H : Hp} {v : V} {b : β}, r H v b → Dp K H v (enc b)
  lay : ∀ {H : Hp} {v : V} {b : β}, r H v b → (enc b).canLay0 = true
  dpt : ∀ b, (enc b).depth ≤ dep
  eqv : ∀ a b, PyData.eqv (enc a) (enc b) = @decide (a = b) (dec a b)
section
variable {K : PySem.W.Frag} {α β : Type}
def datS : Dat K rS where
  dec := inferInstance
  enc := .str
  dep := 0
  dp := fun h => by rw [h.1]; exact .str _
  lay := fun h => by simp only [PyData.canLay0]; exact h.2.2
  dpt := fun b => by simp [PyData.depth]
  eqv := fun a b => by
    simp only [PyData.eqv]
    by_cases h : a = b
    · subst h; simp
    · rw [decide_eq_false h]
      exact beq_eq_false_iff_ne.mpr h
def datI : Dat K rI where
  dec := inferInstance
  enc := .int
  dep := 0
  dp := fun h => by rw [show _ = _ from h]; exact .int _
  lay := fun _ => by simp [PyData.canLay0]
  dpt := fun b => by simp [PyData.depth]
  eqv := fun a b => by
    simp only [PyData.eqv]
    by_cases h : a = b
    · subst h; simp
    · rw [decide_eq_false h]
      exact beq_eq_false_iff_ne.mpr h
def datB : Dat K rB where
  dec := inferInstance
  enc := .bool
  dep := 0
  dp := fun h => by rw [show _ = _ from h]; exact .bl _
  lay := fun _ => by simp [PyData.canLay0]
  dpt := fun b => by simp [PyData.depth]
  eqv := fun a b => by cases a <;> cases b <;> simp [PyData.eqv]
def encO' (f : α → PyData) : Option α → PyData
  | .none => .none
  | .some a => f a
def datO : Dat K (rO rS) where
  dec := inferInstance
  enc := encO' .str
  dep := 0
  dp := fun {H v b} h => match b, h with
    | .none, h => by rw [show v = _ from h]; exact .non
    | .some _, h => by rw [show v = _ from h.1]; exact .str _
  lay := fun {H v b} h => match b, h with
    | .none, _ => by simp [PyData.canLay0, encO']
    | .some _, h => by simp only [PyData.canLay0, encO']; exact h.2.2
  dpt := fun b => by cases b <;> simp [PyData.depth, encO']
  eqv := fun a b => by
    cases a with
    | none => cases b <;> simp [PyData.eqv, encO']
    | some a =>
      cases b with
      | none => simp [PyData.eqv, encO']
      | some b =>
        simp only [PyData.eqv, encO']
        by_cases h : a = b
        · subst h; simp
        · rw [decide_eq_false fun e => h (Option.some.inj e)]
          exact beq_eq_false_iff_ne.mpr h
theorem enc_lays {e : β → PyData} {r : Rp β} {H : Hp} (h : ∀ {v : V} {b : β}, r H v b → (e b).canLay0 = true) : ∀ {vs : List V} {xs : List β}, A2 (r H) vs xs → PyData.canLayAll0 (xs.map e) = true
  | _, _, .nil => by simp [PyData.canLayAll0]
  | _, _, .cons a t => by simp [PyData.canLayAll0, h a, enc_lays h t]
theorem enc_deps {e : β → PyData} {n : Nat} (h : ∀ b, (e b).depth ≤ n) : ∀ xs : List β, PyData.depthAll (xs.map e) ≤ n
  | [] => by simp [PyData.depthAll]
  | x :: xs => by
    have h1 := enc_deps h xs
    have h2 := h x
    simp only [List.map_cons, PyData.depthAll]
    omega
theorem enc_eqs {e : β → PyData} {d : DecidableEq β} (h : ∀ a b, PyData.eqv (e a) (e b) = decide (a = b)) : ∀ xs ys : List β, PyData.eqvAll (xs.map e) (ys.map e) = decide (xs = ys)
  | [], [] => by simp [PyData.eqvAll]
  | [], _ :: _ => by simp [PyData.eqvAll]
  | _ :: _, [] => by simp [PyData.eqvAll]
  | x :: xs, y :: ys => by
    simp only [List.map_cons, PyData.eqvAll, h x y, enc_eqs h xs ys]
    by_cases e1 : x = y <;> by_cases e2 : xs = ys <;> simp [e1, e2]
theorem enc_dps {e : β → PyData} {r : Rp β} {H : Hp} (h : ∀ {v : V} {b : β}, r H v b → Dp K H v (e b)) : ∀ {vs : List V} {xs : List β}, A2 (r H) vs xs → DpAll K H vs (xs.map e)
  | _, _, .nil => .nil
  | _, _, .cons a t => .cons (h a) (enc_dps h t)
def datT {r : Rp β} (D : Dat K r) : Dat K (rT K r) where
  dec := by have := D.dec; infer_instance
  enc := fun xs => .tuple (xs.map D.enc)
  dep := D.dep + 1
  dp := fun ⟨a, vs, ev, h, q⟩ => by rw [ev]; exact .tup h (enc_dps D.dp q)
  lay := fun ⟨a, vs, ev, h, q⟩ => by simp only [PyData.canLay0]; exact enc_lays D.lay q
  dpt := fun b => by simp only [PyData.depth]; have := enc_deps D.dpt b; omega
  eqv := fun a b => by simp only [PyData.eqv]; exact enc_eqs (d := D.dec) D.eqv a b
def datL {r : Rp β} (D : Dat K r) : Dat K (rL r) where
  dec := by have := D.dec; infer_instance
  enc := fun xs => .list (xs.map D.enc)
  dep := D.dep + 1
  dp := fun ⟨a, vs, ev, h, q⟩ => by rw [ev]; exact .lst (SqL.of h) (enc_dps D.dp q)
  lay := fun ⟨a, vs, ev, h, q⟩ => by simp only [PyData.canLay0]; exact enc_lays D.lay q
  dpt := fun b => by simp only [PyData.depth]; have := enc_deps D.dpt b; omega
  eqv := fun a b => by simp only [PyData.eqv]; exact enc_eqs (d := D.dec) D.eqv a b
def datP {r : Rp α} {q : Rp β} (D : Dat K r) (E : Dat K q) : Dat K (rP K r q) where
  dec := by have := D.dec; have := E.dec; infer_instance
  enc := fun p => .tuple [D.enc p.1, E.enc p.2]
  dep := max D.dep E.dep + 1
  dp := fun ⟨a, x, y, ev, h, h1, h2⟩ => by rw [ev]; exact .tup h (.cons (D.dp h1) (.cons (E.dp h2) .nil))
  lay := fun ⟨a, x, y, ev, h, h1, h2⟩ => by simp [PyData.canLay0, PyData.canLayAll0, D.lay h1, E.lay h2]
  dpt := fun b => by
    have h1 := D.dpt b.1
    have h2 := E.dpt b.2
    simp only [PyData.depth, PyData.depthAll]
    omega
  eqv := fun a b => by
    obtain ⟨a1, a2⟩ := a
    obtain ⟨b1, b2⟩ := b
    simp only [PyData.eqv, PyData.eqvAll, D.eqv, E.eqv, Bool.and_true]
    have := D.dec; have := E.dec
    by_cases h1 : a1 = b1 <;> by_cases h2 : a2 = b2 <;> simp [h1, h2]
theorem dat_shaped {r : Rp β} (D : Dat K r) (h : D.dep ≤ 64) {H : Hp} {v : V} {b : β} (hv : r H v b) : SeqAt.shaped (D.enc b) = true := by
  have h1 := D.dpt b
  show ((D.enc b).canLay0 && decide ((D.enc b).depth ≤ 64)) = true
  rw [Bool.and_eq_true]
  exact ⟨D.lay hv, decide_eq_true (by omega)⟩
end
def DatC (K : PySem.W.Frag) {β : Type} (r : Rp β) : Prop := ∃ D : Dat K r, D.dep < 64
class DatN (K : PySem.W.Frag) {β : Type} (r : Rp β) (n : outParam Nat) : Prop where
  ex : ∃ D : Dat K r, D.dep ≤ n
instance {K : PySem.W.Frag} : DatN K rS 0 := ⟨datS, Nat.le_refl _⟩
instance {K : PySem.W.Frag} : DatN K rI 0 := ⟨datI, Nat.le_refl _⟩
instance {K : PySem.W.Frag} : DatN K rB 0 := ⟨datB, Nat.le_refl _⟩
instance {K : PySem.W.Frag} : DatN K (rO rS) 0 := ⟨datO, Nat.le_refl _⟩
instance {K : PySem.W.Frag} {β : Type} {r : Rp β} {n : Nat} [d : DatN K r n] : DatN K (rT K r) (n + 1) := ⟨let ⟨D, h⟩ := d.ex; ⟨datT D, Nat.succ_le_succ h⟩⟩
instance {K : PySem.W.Frag} {β : Type} {r : Rp β} {n : Nat} [d : DatN K r n] : DatN K (rL r) (n + 1) := ⟨let ⟨D, h⟩ := d.ex; ⟨datL D, Nat.succ_le_succ h⟩⟩
instance {K : PySem.W.Frag} {α β : Type} {r : Rp α} {q : Rp β} {n m : Nat} [d : DatN K r n] [e : DatN K q m] : DatN K (rP K r q) (n + m + 1) := ⟨let ⟨D, h⟩ := d.ex; let ⟨E, h'⟩ := e.ex; ⟨datP D E, by show max D.dep E.dep + 1 ≤ _; omega⟩⟩
theorem datC_of {K : PySem.W.Frag} {β : Type} {r : Rp β} {n : Nat} [d : DatN K r n] (h : n < 64) : DatC K r := let ⟨D, e⟩ := d.ex; ⟨D, Nat.lt_of_le_of_lt e h⟩
noncomputable def eqB {α : Type} (a b : α) : Bool := @decide (a = b) (Classical.propDecidable _)
noncomputable def memB {α : Type} (a : α) (l : List α) : Bool := @decide (a ∈ l) (Classical.propDecidable _)
theorem eqB_iff {α : Type} {a b : α} : eqB a b = true ↔ a = b := by unfold eqB; rw [@decide_eq_true_iff]
theorem memB_iff {α : Type} {a : α} {l : List α} : memB a l = true ↔ a ∈ l := by unfold memB; rw [@decide_eq_true_iff]
section
variable {X : Cx} (K : PySem.W.Frag)
def rInTD (K : PySem.W.Frag) (neg : Bool) : R2 := fun x y H Q => ∃ d ds, Dp K H x d ∧ Dp K H y (.tuple ds) ∧ SeqAt.shaped d = true ∧ SeqAt.shaped (.tuple ds) = true ∧ Q (.bl (xor neg (ds.any fun z => PyData.eqv z d))) H
def rCatD (K : PySem.W.Frag) : R2 := fun x y H Q => ∃ a b xs ys, x = .ref a ∧ y = .ref b ∧ SqT K H a xs ∧ SqT K H b ys ∧ xs.length + ys.length ≤ sizeLine ∧
  (xs = [] → Q (.ref b) H) ∧ (xs ≠ [] → ys = [] → Q (.ref a) H) ∧ (xs ≠ [] → ys ≠ [] → NewT H Q (xs ++ ys))
theorem op_catD : OpR X (binaryOp .Add) (rCatD X.K) := by
  intro pins s σ H x y v u Q I rx ry hw
  obtain ⟨a, b, xs, ys, rfl, rfl, ha, hb, hz, q0, q1, q2⟩ := hw
  cases rx
  cases ry
  obtain ⟨its, t1, p1, _⟩ := I.tuple ha
  obtain ⟨jts, t2, p2, _⟩ := I.tuple hb
  by_cases hx : xs = []
  · subst hx
    cases t1
    exact cat_tup0 p1 p2 ⟨.ref b, H, I, rfl, q0 rfl⟩
  · refine HT.cat_tup p1 p2 (fun z => hx (t1.nil_iff.mp z)) (fun z => ⟨.ref a, H, I, rfl, q1 hx (t2.nil_iff.mp z)⟩) (fun z => ?_) (by rw [← t1.length, ← t2.length]; exact hz)
    have J := tup_laid (h := s.heap) (s := s) I (t1.append t2) (by rw [List.length_append]; exact hz)
    exact ⟨.ref s.heap.objs.size, _, J, rfl, q2 hx (fun w => z (t2.nil_iff.mpr w)) _ _ (I.hok.fresh (Nat.le_refl _)) rfl⟩
def rSlD (K : PySem.W.Frag) : V → Option Int → Option Int → Hp → VK → Prop := fun x lo hi H Q => ∃ a xs, x = .ref a ∧ SqT K H a xs ∧
  (HT.sIx xs.length 0 lo = 0 ∧ HT.sIx xs.length xs.length hi = xs.length → Q (.ref a) H) ∧ (¬ (HT.sIx xs.length 0 lo = 0 ∧ HT.sIx xs.length xs.length hi = xs.length) → NewT H Q (cutV xs lo hi))
theorem k_catA (hK : X.K = K := by rfl) : OpR X (binaryOp .Add) (rCatD K) := by subst hK; exact op_catD
end
section
variable {K : PySem.W.Frag} {H0 H1 H H' : Hp} {σ : L2.St} {G G' Gx : Cells K} {α β γ : Type}
variable {ta tb tc te : TE} {r : Rp α} {q : Rp β} {a x : α} {b y : β}
theorem a_eqD (h : Ev r ta G a) (h' : Ev r tb G x) (M : Mono r) (DD : DatC K r) : Ev rB (tOp (rEqD K) ta tb) G (eqB a x) := let ⟨D, hd⟩ := DD; ev_op h h' fun H u v hu hv Q k =>
  ⟨_, _, D.dp hu, D.dp hv, dat_shaped D (Nat.le_of_lt hd) hu, dat_shaped D (Nat.le_of_lt hd) hv, k _ H (Same.refl H) (by show V.bl _ = V.bl _; rw [D.eqv]; unfold eqB; congr)⟩
theorem a_neD (h : Ev r ta G a) (h' : Ev r tb G x) (M : Mono r) (DD : DatC K r) : Ev rB (tOp (rNeD K) ta tb) G (!eqB a x) := let ⟨D, hd⟩ := DD; ev_op h h' fun H u v hu hv Q k =>
  ⟨_, _, D.dp hu, D.dp hv, dat_shaped D (Nat.le_of_lt hd) hu, dat_shaped D (Nat.le_of_lt hd) hv, k _ H (Same.refl H) (by show V.bl _ = V.bl _; rw [D.eqv]; unfold eqB; congr)⟩
def memD {r : Rp α} (D : Dat K r) (x : α) (xs : List α) : Bool := xs.any fun z => @decide (z = x) (D.dec z x)
theorem memD_iff {r : Rp α} {D : Dat K r} {x : α} {xs : List α} : memD D x xs = true ↔ x ∈ xs := by
  unfold memD
  rw [List.any_eq_true]
  constructor
  · rintro ⟨z, hz, e⟩
    rw [@decide_eq_true_iff _ (D.dec z x)] at e
    exact e ▸ hz
  · exact fun h => ⟨x, h, @decide_eq_true _ (D.dec x x) rfl⟩
theorem memD_enc {r : Rp α} (D : Dat K r) (x : α) (xs : List α) : ((xs.map D.enc).any fun z => PyData.eqv z (D.enc x)) = memD D x xs := by
  unfold memD
  rw [List.any_map]
  congr 1
  funext z
  exact D.eqv z x
theorem memD_dec {r : Rp α} (D : Dat K r) (x : α) (xs : List α) : memD D x xs = memB x xs := by
  rw [Bool.eq_iff_iff, memD_iff, memB_iff]
theorem a_inLD {xs : List α} (h' : Ev (rL r) tb G xs) (h : Ev r ta G x) (M : Mono r) (DD : DatC K r) : Ev rB (tOp (rInD K) ta tb) G (memB x xs) := let ⟨D, hd⟩ := DD; ev_op h h' fun H u v hu hv Q k =>
  ⟨_, _, D.dp hu, (datL D).dp hv, dat_shaped D (by omega) hu, dat_shaped (datL D) (by show D.dep + 1 ≤ 64; omega) hv, k _ H (Same.refl H) (by show V.bl _ = V.bl _; rw [memD_enc, memD_dec])⟩
theorem a_ninLD {xs : List α} (h' : Ev (rL r) tb G xs) (h : Ev r ta G x) (M : Mono r) (DD : DatC K r) : Ev rB (tOp (rNotInD K) ta tb) G (!memB x xs) := let ⟨D, hd⟩ := DD; ev_op h h' fun H u v hu hv Q k =>
  ⟨_, _, D.dp hu, (datL D).dp hv, dat_shaped D (by omega) hu, dat_shaped (datL D) (by show D.dep + 1 ≤ 64; omega) hv, k _ H (Same.refl H) (by show V.bl _ = V.bl _; rw [memD_enc, memD_dec])⟩
theorem a_inTD {xs : List α} (h' : Ev (rT K r) tb G xs) (h : Ev r ta G x) (M : Mono r) (DD : DatC K r) : Ev rB (tOp (rInTD K false) ta tb) G (memB x xs) := let ⟨D, hd⟩ := DD; ev_op h h' fun H u v hu hv Q k =>
  ⟨_, _, D.dp hu, (datT D).dp hv, dat_shaped D (by omega) hu, dat_shaped (datT D) (by show D.dep + 1 ≤ 64; omega) hv, k _ H (Same.refl H) (by show V.bl _ = V.bl _; rw [memD_enc, Bool.false_xor, memD_dec])⟩
theorem a_ninTD {xs : List α} (h' : Ev (rT K r) tb G xs) (h : Ev r ta G x) (M : Mono r) (DD : DatC K r) : Ev rB (tOp (rInTD K true) ta tb) G (!memB x xs) := let ⟨D, hd⟩ := DD; ev_op h h' fun H u v hu hv Q k =>
  ⟨_, _, D.dp hu, (datT D).dp hv, dat_shaped D (by omega) hu, dat_shaped (datT D) (by show D.dep + 1 ≤ 64; omega) hv, k _ H (Same.refl H) (by show V.bl _ = V.bl _; rw [memD_enc, Bool.true_xor, memD_dec])⟩
theorem ev_catT {xs ys : List α} (h : Ev (rT K r) ta G xs) (h' : Ev (rT K r) tb G ys) (hz : xs.length + ys.length ≤ 12000000) (M : Mono r) : Ev (rT K r) (tOp (rCatD K) ta tb) G (xs ++ ys) := ev_op h h' fun H u v ⟨p, vs, ev, hp, z⟩ ⟨p', vs', ev', hp', z'⟩ Q k =>
  ⟨p, p', vs, vs', ev, ev', hp, hp', by rw [z.len, z'.len]; exact sz hz, fun e => by
      subst e
      cases z
      exact k _ H (Same.refl H) ⟨p', vs', rfl, hp', z'⟩, fun _ e => by
      subst e
      cases z'
      exact k _ H (Same.refl H) ⟨p, vs, rfl, hp, by rw [List.append_nil]; exact z⟩, fun _ _ l o hl hd => k _ _ (same_new hl) ⟨l, _, rfl, SqD.of upd_same hd, (A2.app z' z).imp fun _ _ q => M.up (same_new hl) q⟩⟩
theorem ev_slT {xs : List α} {lo hi : Option Int} {tl th : TO} (h : Ev (rT K r) ta G xs) (hl : EvO tl G lo) (hh : EvO th G hi) (M : Mono r) : Ev (rT K r) (tSl (rSlD K) ta tl th) G (cut xs lo hi) := fun H0 σ H E Q k =>
  h H0 σ H E _ fun v H1 e1 ⟨p, vs, ev, hp, z⟩ => hl H0 σ H1 (E.grow e1) _ fun H2 e2 => hh H0 σ H2 (E.grow (e1.trans e2)) _ fun H3 e3 => by
    have s13 := (e1.trans e2).trans e3
    have z3 := z.imp fun _ _ q => M.up (e2.trans e3) q
    refine ⟨p, vs, ev, ((ext_same (e2.trans e3)).d _ _ hp).t, fun ⟨c1, c2⟩ => ?_, fun _ l o hl hd => k _ _ (s13.trans (same_new hl)) ⟨l, _, rfl, SqD.of upd_same hd, (cut_A2 z3 lo hi).imp fun _ _ q => M.up (same_new hl) q⟩⟩
    have e : cut xs lo hi = xs := by
      unfold cut
      rw [← z.len, c1, c2, List.drop_zero, Nat.sub_zero, z.len, List.take_length]
    exact k _ H3 s13 (by rw [e]; exact ⟨p, vs, rfl, (ext_same (e2.trans e3)).d _ _ hp, z3⟩)
end
end
section
section
variable {K : PySem.W.Frag} {H0 H1 H H' : Hp} {σ : L2.St} {G G' Gx : Cells K} {α β γ δ ε : Type}
variable {ta tb tc te td ty tx : TE} {r : Rp α} {q : Rp β} {x : α} {k : Str}
def dkey {α : Type} (xs : List (Str × α)) (k : Str) : Option α := (xs.find? fun kv => decide (kv.1 = k)).map (·.2)
def dput {α : Type} (xs : List (Str × α)) (k : Str) (v : α) : List (Str × α) := if (xs.any fun kv => decide (kv.1 = k)) = true then xs.map (fun kv => if kv.1 = k then (kv.1, v) else kv) else xs ++ [(k, v)]
abbrev Kv (P : V → α → Prop) (x : Key × V) (y : Str × α) : Prop := (x.1 = Sum.inr y.1 ∧ okS y.1) ∧ P x.2 y.2
theorem kv_key {P : V → α → Prop} {kvs : List (Key × V)} {xs : List (Str × α)} (h : A2 (Kv P) kvs xs) (k : Str) : (∃ v b, valV kvs (Sum.inr k : Key) = some v ∧ dkey xs k = some b ∧ P v b) ∨ (valV kvs (Sum.inr k : Key) = none ∧ dkey xs k = none) := by
  induction h with
  | nil => exact .inr ⟨rfl, rfl⟩
  | @cons a b as bs h1 h2 ih =>
    by_cases e : b.1 = k
    · refine .inl ⟨a.2, b.2, ?_, ?_, h1.2⟩
      · exact valV_pos (by rw [h1.1.1, e])
      · unfold dkey
        rw [List.find?_cons, decide_eq_true e]
        rfl
    · have ea : ¬ a.1 = (Sum.inr k : Key) := fun z => e (by rw [h1.1.1] at z; exact Sum.inr.inj z)
      have eb : dkey (b :: bs) k = dkey bs k := by
        unfold dkey
        rw [List.find?_cons, decide_eq_false e]
      rw [valV_neg ea, eb]
      exact ih
theorem kv_any {P : V → α → Prop} {kvs : List (Key × V)} {xs : List (Str × α)} (h : A2 (Kv P) kvs xs) (k : Str) : (kvs.any fun kv => decide (kv.1 = (Sum.inr k : Key))) = xs.any fun kv => decide (kv.1 = k) := by
  induction h with
  | nil => rfl
  | @cons a b as bs h1 h2 ih =>
    rw [List.any_cons, List.any_cons, ih]
    congr 1
    exact decide_eq_decide.mpr ⟨fun z => Sum.inr.inj (h1.1.1.symm.trans z), fun z => by rw [h1.1.1, z]⟩
theorem kv_map {P : V → α → Prop} {kvs : List (Key × V)} {xs : List (Str × α)} (h : A2 (Kv P) kvs xs) {k : Str} {v : V} {b : α} (hv : P v b) : A2 (Kv P) (kvs.map fun kv => if kv.1 = (Sum.inr k : Key) then (kv.1, v) else kv) (xs.map fun kv => if kv.1 = k then (kv.1, b) else kv) := by
  induction h with
  | nil => exact .nil
  | @cons a c as bs h1 h2 ih =>
    rw [List.map_cons, List.map_cons]
    refine .cons ?_ ih
    by_cases e : c.1 = k
    · rw [if_pos (show a.1 = (Sum.inr k : Key) by rw [h1.1.1, e]), if_pos e]
      exact ⟨h1.1, hv⟩
    · rw [if_neg fun z => e (by rw [h1.1.1] at z; exact Sum.inr.inj z), if_neg e]
      exact h1
theorem kv_put {P : V → α → Prop} {kvs : List (Key × V)} {xs : List (Str × α)} (h : A2 (Kv P) kvs xs) {k : Str} {v : V} {b : α} (hk : okS k) (hv : P v b) : A2 (Kv P) (putK kvs (Sum.inr k : Key) v) (dput xs k b) := by
  unfold putK dput
  rw [kv_any h k]
  split
  · exact kv_map h hv
  · exact A2.app (.one ⟨⟨rfl, hk⟩, hv⟩) h
def rD {α : Type} (r : Rp α) : Rp (List (Str × α)) := fun H v xs => ∃ a kvs, v = .ref a ∧ L2.Rd H a (.dK kvs) ∧ A2 (Kv (r H)) kvs xs
def rLk {α : Type} (r : Rp α) : Rp (List (Str × α)) := fun H v xs => ∃ a o kvs, v = .ref a ∧ H a = some (.frz o (.dK kvs)) ∧ A2 (Kv (r H)) kvs xs
theorem Rd_up {o : HO} {a : Addr} (e : Same H H') (h : L2.Rd H a o) : L2.Rd H' a o := by
  rcases h with h | ⟨u, h⟩
  · exact .inl (e _ _ h)
  · exact .inr ⟨u, e _ _ h⟩
instance [M : Mono r] : Mono (rD r) := ⟨fun e ⟨a, kvs, ev, h, z⟩ => ⟨a, kvs, ev, Rd_up e h, z.imp fun _ _ w => ⟨w.1, M.up e w.2⟩⟩⟩
instance [M : Mono r] : Mono (rLk r) := ⟨fun e ⟨a, o, kvs, ev, h, z⟩ => ⟨a, o, kvs, ev, e _ _ h, z.imp fun _ _ w => ⟨w.1, M.up e w.2⟩⟩⟩
theorem a_dct {i : Nat} {xs : List (Str × α)} (h : G[i]? = some (some (.ow (nd K r) xs))) : Ev (rD r) (tVar i) G xs := fun H0 σ H E Q k => by
  obtain ⟨own, _, _, h3⟩ := E.at_
  obtain ⟨v, hv, p, kvs, _, ev, hp, z⟩ := h3 i _ h
  exact ⟨v, hv, k v H (Same.refl H) ⟨p, kvs, ev, .inl hp, z.imp fun _ _ w => ⟨w.1, w.2.now⟩⟩⟩
theorem a_lkd {i : Nat} {M : Mono (rLk r)} {xs : List (Str × α)} (h : G[i]? = some (some (.ro (rLk r) M xs))) : Ev (rD r) (tVar i) G xs := (a_ro h).imp fun H v ⟨a, o, kvs, ev, hp, z⟩ => ⟨a, kvs, ev, .inr ⟨o, hp⟩, z⟩
theorem nw_dnew [M : Mono r] : Nw (nd K r) tDNewK G [] := fun H0 σ H E Q k p hp => k _ _ [p] (same_new hp) (fun b hb => by rw [List.mem_singleton.mp hb]; exact hp) ⟨p, [], rfl, rfl, upd_same, .nil⟩
theorem a_dget2 {xs : List (Str × α)} (h : Ev (rD r) td G xs) (h' : Ev rS ty G k) (h2 : Ev r tx G x) (M : Mono r) : Ev r (tDGet2 td ty tx) G ((dkey xs k).getD x) := fun H0 σ H E Q c =>
  h H0 σ H E _ fun v H1 e1 ⟨a, kvs, ev, hr, z⟩ => ⟨a, ev, .inl ⟨kvs, hr⟩, h' H0 σ H1 (E.grow e1) _ fun w H2 e2 hw => h2 H0 σ H2 (E.grow (e1.trans e2)) _ fun y H3 e3 hy => by
    have hr3 := Rd_up (e2.trans e3) hr
    have z3 := z.imp fun _ _ w => (⟨w.1, M.up (e2.trans e3) w.2⟩ : Kv (r H3) _ _)
    refine ⟨valV kvs (Sum.inr k : Key), .inl ⟨kvs, Sum.inr k, hr3, hw.1, rfl⟩, ?_⟩
    rcases kv_key z3 k with ⟨v', b', e5, e6, hq⟩ | ⟨e5, e6⟩
    · rw [e5]; exact c _ H3 ((e1.trans e2).trans e3) (by rw [e6]; exact hq)
    · rw [e5]; exact c _ H3 ((e1.trans e2).trans e3) (by rw [e6]; exact hy)⟩
theorem a_dget {xs : List (Str × α)} (h : Ev (rD r) td G xs) (h' : Ev rS ty G k) (M : Mono r) (hx : dkey xs k = some x) : Ev r (tDGet td ty) G x := fun H0 σ H E Q c =>
  h H0 σ H E _ fun v H1 e1 ⟨a, kvs, ev, hr, z⟩ => h' H0 σ H1 (E.grow e1) _ fun w H2 e2 hw => by
    rcases kv_key z k with ⟨v', b', e5, e6, hq⟩ | ⟨e5, e6⟩
    · rw [hx] at e6
      cases e6
      exact ⟨a, v', ev, .inl ⟨kvs, Sum.inr k, Rd_up e2 hr, hw.1, e5.symm⟩, c _ H2 (e1.trans e2) (M.up e2 hq)⟩
    · rw [hx] at e6
      cases e6
theorem l_dput {i : Nat} {xs : List (Str × α)} {tv : TE} {D : Ends} {x' : α} (hi : G[i]? = some (some (.ow (nd K r) xs))) (hk : Ev rS ty G k) (h : Ev r tv G x') (ex : x' = x) (hz : xs.length < 12000000) (c : Nx H0 (G.set i (some (.ow (nd K r) (dput xs k x)))) D.nx) (F : Frz K r := by infer_instance) :
    Sv H0 G (sDPut (tVar i) ty tv) D := fun σ H ⟨H1, e1, E⟩ => by
  subst ex
  refine h H1 σ H E _ fun w H2 e2 hw => ?_
  have E2 := E.grow e2
  obtain ⟨own, h1, h2, h3⟩ := id E2.at_
  obtain ⟨v, hv, p, kvs, ea, ev, hp, z⟩ := h3 i _ hi
  subst ev
  refine ⟨_, hv, hk H1 σ H2 E2 _ fun y H3 e3 hy => ?_⟩
  have E3 := E2.grow e3
  have hp3 := e3 _ _ hp
  have hl : kvs.length < sizeLine := Nat.lt_of_le_of_lt (by rw [z.len]; omega) (by decide : 12000000 < sizeLine)
  refine ⟨p, _, rfl, .inl ⟨kvs, Sum.inr k, hp3, hy.1, hl, rfl⟩, c _ _ ⟨H1, e1, ?_⟩⟩
  have x0 : ExT K H3 (upd H3 p (.dK (putK kvs (Sum.inr k : Key) w))) := ext_upd hp3 fun z => z
  have z3 : A2 (Kv (Stb K r (upd H3 p (.dK (putK kvs (Sum.inr k : Key) w))))) kvs xs := z.imp fun _ _ q => ⟨q.1, (q.2.up (ext_same e3)).up x0⟩
  refine E3.mut (as := [p]) (R := nd K r) (R' := nd K r) hi hv x0 (fun c o hc ho => ?_) (fun w' bs hw' ⟨p', _, e6, e7, _, _⟩ => ?_) ⟨p, _, rfl, rfl, upd_same, kv_put z3 hy.2 ((stb (F.up (ext_same e3) hw)).up x0)⟩
  · rw [upd_ne fun z => hc (by rw [z]; exact List.mem_singleton.mpr rfl)]
    exact ho
  · rw [hv] at hw'
    cases hw'
    cases e7
    exact e6
theorem q_dput {i : Nat} {xs : List (Str × α)} {tv : TE} {u : TS} {D : Ends} {x' : α} (hi : G[i]? = some (some (.ow (nd K r) xs))) (hk : Ev rS ty G k) (h : Ev r tv G x') (ex : x' = x) (hz : xs.length < 12000000) (c : Sv H0 (G.set i (some (.ow (nd K r) (dput xs k x)))) u D) (F : Frz K r := by infer_instance) :
    Sv H0 G (tSeq (sDPut (tVar i) ty tv) u) D := l_dput (D := { D with nx := u D }) hi hk h ex hz c F
end
end
section
section
variable {K : PySem.W.Frag} {H0 H1 H H' : Hp} {σ : L2.St} {G G' Gx : Cells K} {α β γ δ β' : Type}
variable {te : TE} {wi wi1 : TI} {g g1 : TG} {tt tt1 : TT} {r : Rp α} {q : Rp β}
theorem Env.front {ρ : L2.St} {C : Cells K} (hl : σ.length = G.length) (E : Env H1 (σ ++ ρ) H (G ++ C)) : Env H1 σ H G := by
  obtain ⟨own, g1, g2, g3⟩ := E.at_
  refine ⟨E.old, hl, own, g1, g2, fun i c hc => ?_⟩
  have hi : i < G.length := (List.getElem?_eq_some_iff.mp hc).1
  obtain ⟨v, hv, hk⟩ := g3 i c (by rw [List.getElem?_append_left hi]; exact hc)
  rw [List.getElem?_append_left (by rw [hl]; exact hi)] at hv
  exact ⟨v, hv, hk⟩
def TbP (g : TG) (r : Rp α) (x : α) (vs : List Nat) (G G' : Cells K) : Prop := ∀ H1 σ σ0 ρ C H v, σ = wipe σ0 vs → σ.length = G.length → Env H1 (σ ++ ρ) H (G ++ C) → r H v x → ∀ P : L2.St → Hp → Prop,
  (∀ σ', σ'.length = G'.length → Env H1 (σ' ++ ρ) H (G' ++ C) → wipe σ' vs = wipe σ0 vs → P σ' H) → g v σ H P
theorem set_front {X : Type _} {l m : List X} {i : Nat} {x : X} (h : i < l.length) : (l ++ m).set i x = l.set i x ++ m := by
  rw [List.set_append_left _ _ h]
theorem tbp_name {r : Rp α} [F : Frz K r] {x : α} {i : Nat} {vs : List Nat} (hi : i ∈ vs := by decide) (hl : i < G.length := by exact Nat.le_of_ble_eq_true rfl) : TbP (gName i) r x vs G (G.set i (fc r x)) := fun H1 σ σ0 ρ C H v e ln E h P k => by
  subst e
  have E2 := E.put (i := i) (v := v) (R := fz K r) (as := []) (Same.refl H) (fun _ z => nomatch z) ⟨rfl, stb h⟩
  rw [set_front (by rw [ln]; exact hl), set_front hl] at E2
  exact k _ (by rw [List.length_set, List.length_set]; exact ln) E2 (wipe_set hi)
theorem tbp_pair {r : Rp α} {q : Rp β} [F : Frz K r] [F' : Frz K q] {p : α × β} {i j : Nat} {vs : List Nat} (hi : i ∈ vs := by decide) (hj : j ∈ vs := by decide) (hl : i < G.length ∧ j < G.length := by exact ⟨Nat.le_of_ble_eq_true rfl, Nat.le_of_ble_eq_true rfl⟩) :
    TbP (gTup K 2 (gCons (gName i) (gCons (gName j) gNil))) (rP K r q) p vs G ((G.set i (fc r p.1)).set j (fc q p.2)) := fun H1 σ σ0 ρ C H v e0 ln E ⟨a, x, y, e, h, h1, h2⟩ P k => by
  subst e0
  have E2 := (E.put (i := i) (v := x) (R := fz K r) (as := []) (Same.refl H) (fun _ z => nomatch z) ⟨rfl, stb h1⟩).put (i := j) (v := y) (R := fz K q) (as := []) (Same.refl H) (fun _ z => nomatch z) ⟨rfl, stb h2⟩
  rw [set_front (by rw [ln]; exact hl.1), set_front hl.1, set_front (by rw [List.length_set, ln]; exact hl.2), set_front (by rw [List.length_set]; exact hl.2)] at E2
  exact ⟨a, [x, y], e, h, rfl, x, [y], rfl, y, [], rfl, rfl, k _ (by rw [List.length_set, List.length_set, List.length_set, List.length_set]; exact ln) E2 (by rw [wipe_set2 hj, wipe_set hi])⟩
def WkP (wi : TI) (r : Rp α) (G : Cells K) (xs : List α) : Prop := ∀ H1 σ ρ C H, σ.length = G.length → Env H1 (σ ++ ρ) H (G ++ C) → ∀ R : It → Hp → Prop, (∀ J H2 H', Same H1 H2 → Same H H' → Env H2 (σ ++ ρ) H' (G ++ C) → Wj J r H2 xs → R J H') → wi σ H R
theorem wkp_tup {r : Rp α} [F : Frz K r] [M : Mono r] {tl : TE} {xs : List α} (h : Ev (rT K r) tl G xs) : WkP (iTup K tl) r G xs := fun H1 σ ρ C H ln E R k =>
  h H1 σ H (E.front ln) _ fun v H' e ⟨p, vs, e2, e3, e4⟩ => by
    obtain ⟨H2, s1, s2, x, E2, ho⟩ := E.rebase e
    exact ⟨p, e2, ⟨vs, e3⟩, k _ H2 H' s1 e E2 (wj_tup (x _ _ e3) (e4.imp fun _ _ z => F.up x z))⟩
theorem Env.fill {D : Addr} {q : Rp γ} [F : Frz K q] {acc : List γ} {y : γ} {v : V} (hl : σ.length = G.length) (E : Env H1 (σ ++ [some (.ref D)]) H (G ++ [some (.ow (nl K q) acc)])) (hv : q H v y) :
    ∃ ws, H D = some (.lst ws) ∧ ws.length = acc.length ∧ Env H1 (σ ++ [some (.ref D)]) (upd H D (.lst (ws ++ [v]))) (G ++ [some (.ow (nl K q) (acc ++ [y]))]) := by
  obtain ⟨own, k1, k2, k3⟩ := id E.at_
  obtain ⟨w, hw, p', ws, a1, a2, a3, a4⟩ := k3 _ _ getE_last
  have hw2 := hw
  rw [← hl, getE_last] at hw
  cases hw
  cases a2
  have E6 := app_env (x := y) E getE_last hw2 a3 a4 (stb hv)
  rw [set_last] at E6
  exact ⟨ws, a3, a4.len, E6⟩
def flat2 (ys : List β') (zs : β' → List δ) (p : β' → δ → Bool) (f : β' → δ → γ) : List γ := ys.flatMap fun x => ((zs x).filter (p x)).map (f x)
theorem nw_lc2 {vs vs1 : List Nat} {q : Rp γ} [F : Frz K q] {r : Rp β'} {r1 : Rp δ} {ys : List β'} (zs : β' → List δ) (p : β' → δ → Bool) (f : β' → δ → γ) (hw : Wk wi r G G' ys) (hlen : (flat2 ys zs p f).length ≤ 12000000)
    (turn : ∀ pre x post, ys = pre ++ x :: post → ∃ Gx, TbP g r x vs (wipeG G' vs) Gx ∧ WkP wi1 r1 Gx (zs x) ∧ ∀ pre1 y post1, zs x = pre1 ++ y :: post1 → ∃ Gy, TbP g1 r1 y vs1 (wipeG Gx vs1) Gy ∧ EvT tt1 Gy (p x y) ∧ (p x y = true → Ev q te Gy (f x y))) :
    Nw (nl K q) (tLc2 wi g tYes wi1 g1 tt1 te vs vs1) G (flat2 ys zs p f) := fun H1 σ H E Q k => by
  refine hw H1 σ H E _ fun J H2 Hs s1 sH E2 W => ?_
  intro D hD
  have E3 := (E2.wipe vs).push (q := q) hD
  have lw : (L2.wipe σ vs).length = (wipeG G' vs).length := (E2.wipe vs).len
  have Fin : ∀ h, Env H2 (L2.wipe σ vs ++ [some (.ref D)]) h (wipeG G' vs ++ [some (.ow (nl K q) (flat2 ys zs p f))]) → Same Hs h → Q (.ref D) h := fun h Eh sh => by
    obtain ⟨own, k1, k2, k3⟩ := Eh.at_
    obtain ⟨v, hv, p', ws, e1, e2, e3, e4⟩ := k3 _ _ getE_last
    rw [← lw, getE_last] at hv
    cases hv
    cases e2
    exact k _ h [D] (sH.trans sh) (fun b hb => by rw [List.mem_singleton.mp hb]; exact sH.free hD) ⟨D, ws, rfl, rfl, e3, e4⟩
  have same0 : Same Hs (upd Hs D (.lst [])) := fun b o hb => by rw [upd_ne (ne_of_none hb hD)]; exact hb
  refine ⟨fun i m h => i + m = ys.length ∧ Same Hs h ∧ Env H2 (L2.wipe σ vs ++ [some (.ref D)]) h (wipeG G' vs ++ [some (.ow (nl K q) (flat2 (ys.take i) zs p f))]), ⟨ys.length, Nat.zero_add _, same0, E3⟩, ?_⟩
  rintro i m h ⟨hi, sh, Eh⟩
  by_cases hl : i < ys.length
  · have hx : ys[i]? = some ys[i] := List.getElem?_eq_getElem hl
    have etk : ys.take (i + 1) = ys.take i ++ [ys[i]] := by rw [List.take_add_one, hx]; rfl
    obtain ⟨g1', g2'⟩ := W.go h i _ (E2.old.trans sh) hx
    refine .inr ⟨g1', fun h' => Same Hs h' ∧ Env H2 (L2.wipe σ vs ++ [some (.ref D)]) h' (wipeG G' vs ++ [some (.ow (nl K q) (flat2 (ys.take (i + 1)) zs p f))]), fun h' z => ⟨m - 1, by omega, by omega, z⟩, fun v h2 hy => ?_⟩
    obtain ⟨e2, z⟩ := g2' v h2 hy
    have hsp : ys = ys.take i ++ ys[i] :: ys.drop (i + 1) := by rw [List.getElem_cons_drop, List.take_append_drop]
    obtain ⟨Gx, ht, hwk, hin⟩ := turn (ys.take i) ys[i] (ys.drop (i + 1)) hsp
    refine ht H2 _ σ [some (.ref D)] _ h2 v rfl lw (Eh.grow e2) z _ fun σ2 ln2 E4 hwp => ⟨hwp, et_yes H2 σ2 h2 (E4.front ln2) _ fun h3 e3 => ?_⟩
    refine iteT ?_
    refine hwk H2 σ2 _ _ h3 ln2 (E4.grow e3) _ fun J1 H3 h4 s3 e4 E5 W1 => ?_
    have total : flat2 (ys.take (i + 1)) zs p f = flat2 (ys.take i) zs p f ++ ((zs ys[i]).filter (p ys[i])).map (f ys[i]) := by
      unfold flat2
      rw [etk, List.flatMap_append, List.flatMap_cons, List.flatMap_nil, List.append_nil]
    have cap : (flat2 (ys.take (i + 1)) zs p f).length ≤ 12000000 := by
      refine Nat.le_trans ?_ hlen
      have : flat2 ys zs p f = flat2 (ys.take (i + 1)) zs p f ++ flat2 (ys.drop (i + 1)) zs p f := by
        unfold flat2
        rw [← List.flatMap_append, List.take_append_drop]
      rw [this, List.length_append]
      exact Nat.le_add_right _ _
    rw [total, List.length_append, List.length_map] at cap
    refine ⟨fun j m1 h => j + m1 = (zs ys[i]).length ∧ Same Hs h ∧ Env H2 (L2.wipe σ vs ++ [some (.ref D)]) h (wipeG G' vs ++ [some (.ow (nl K q) (flat2 (ys.take i) zs p f ++ (((zs ys[i]).take j).filter (p ys[i])).map (f ys[i])))]) ∧
      Env H3 (σ2 ++ [some (.ref D)]) h (Gx ++ [some (.ow (nl K q) (flat2 (ys.take i) zs p f ++ (((zs ys[i]).take j).filter (p ys[i])).map (f ys[i])))]),
      ⟨(zs ys[i]).length, Nat.zero_add _, ((sh.trans e2).trans e3).trans e4, ?_, ?_⟩, ?_⟩
    · rw [List.take_zero, List.filter_nil, List.map_nil, List.append_nil]
      exact Eh.grow ((e2.trans e3).trans e4)
    · rw [List.take_zero, List.filter_nil, List.map_nil, List.append_nil]
      exact E5
    rintro j m1 h ⟨hj, sh5, EO, EI⟩
    by_cases hl1 : j < (zs ys[i]).length
    · have hx1 : (zs ys[i])[j]? = some (zs ys[i])[j] := List.getElem?_eq_getElem hl1
      have etk1 : (zs ys[i]).take (j + 1) = (zs ys[i]).take j ++ [(zs ys[i])[j]] := by rw [List.take_add_one, hx1]; rfl
      obtain ⟨k1, k2⟩ := W1.go h j _ EI.old hx1
      refine .inr ⟨k1, fun h' => Same Hs h' ∧ Env H2 (L2.wipe σ vs ++ [some (.ref D)]) h' (wipeG G' vs ++ [some (.ow (nl K q) (flat2 (ys.take i) zs p f ++ (((zs ys[i]).take (j + 1)).filter (p ys[i])).map (f ys[i])))]) ∧
        Env H3 (σ2 ++ [some (.ref D)]) h' (Gx ++ [some (.ow (nl K q) (flat2 (ys.take i) zs p f ++ (((zs ys[i]).take (j + 1)).filter (p ys[i])).map (f ys[i])))]), fun h' z => ⟨m1 - 1, by omega, by omega, z⟩, fun v1 h6 hy1 => ?_⟩
      obtain ⟨e6, z1⟩ := k2 v1 h6 hy1
      have hsp1 : zs ys[i] = (zs ys[i]).take j ++ (zs ys[i])[j] :: (zs ys[i]).drop (j + 1) := by rw [List.getElem_cons_drop, List.take_append_drop]
      obtain ⟨Gy, ht1, hb1, he1⟩ := hin ((zs ys[i]).take j) (zs ys[i])[j] ((zs ys[i]).drop (j + 1)) hsp1
      have EIw : Env H3 (L2.wipe σ2 vs1 ++ [some (.ref D)]) h6 (wipeG Gx vs1 ++ [some (.ow (nl K q) (flat2 (ys.take i) zs p f ++ (((zs ys[i]).take j).filter (p ys[i])).map (f ys[i])))]) := by
        obtain ⟨own, o1, o2, o3⟩ := (EI.grow e6).at_
        refine ⟨(EI.grow e6).old, by simp only [List.length_append, wipe_length, wipeG_len, ln2, List.length_singleton], own, o1, o2, fun a c hc => ?_⟩
        have lwx : (wipeG Gx vs1).length = Gx.length := wipeG_len _
        by_cases ha : a < Gx.length
        · rw [List.getElem?_append_left (by rw [lwx]; exact ha)] at hc
          obtain ⟨w1, w2⟩ := wipeG_get hc
          obtain ⟨u, hu, hk⟩ := o3 a c (by rw [List.getElem?_append_left ha]; exact w1)
          refine ⟨u, ?_, hk⟩
          rw [List.getElem?_append_left (by rw [ln2]; exact ha)] at hu
          rw [List.getElem?_append_left (by rw [wipe_length, ln2]; exact ha), wipe_out' w2]
          exact hu
        · rw [List.getElem?_append_right (by rw [lwx]; omega), lwx] at hc
          obtain ⟨u, hu, hk⟩ := o3 a c (by rw [List.getElem?_append_right (by omega)]; exact hc)
          refine ⟨u, ?_, hk⟩
          rw [List.getElem?_append_right (by rw [ln2]; omega), ln2] at hu
          rw [List.getElem?_append_right (by rw [wipe_length, ln2]; omega), wipe_length, ln2]
          exact hu
      refine ht1 H3 _ σ2 [some (.ref D)] _ h6 v1 rfl (by rw [wipe_length, wipeG_len, ln2]) EIw z1 _ fun σ3 ln3 E7 hwp1 => ⟨hwp1, hb1 H3 σ3 h6 (E7.front ln3) _ fun h7 e7 => ?_⟩
      cases hp : p ys[i] (zs ys[i])[j] with
      | false =>
        refine iteF ?_
        have same : ((((zs ys[i]).take (j + 1)).filter (p ys[i])).map (f ys[i])) = ((((zs ys[i]).take j).filter (p ys[i])).map (f ys[i])) := by
          rw [etk1, List.filter_append, List.filter_cons, if_neg (by rw [hp]; exact Bool.false_ne_true), List.filter_nil, List.append_nil]
        rw [same]
        exact ⟨(sh5.trans e6).trans e7, EO.grow (e6.trans e7), EI.grow (e6.trans e7)⟩
      | true =>
        refine iteT (he1 hp H3 σ3 h7 ((E7.grow e7).front ln3) _ fun y h8 e8 hq => ?_)
        have ee := (e6.trans e7).trans e8
        obtain ⟨ws, hws, hwl, EO2⟩ := (EO.grow ee).fill lw (y := f ys[i] (zs ys[i])[j]) hq
        obtain ⟨ws', hws', hwl', EI2⟩ := (EI.grow ee).fill ln2 (y := f ys[i] (zs ys[i])[j]) hq
        rw [hws] at hws'
        cases hws'
        have more : (((zs ys[i]).take (j + 1)).filter (p ys[i])).map (f ys[i]) = (((zs ys[i]).take j).filter (p ys[i])).map (f ys[i]) ++ [f ys[i] (zs ys[i])[j]] := by
          rw [etk1, List.filter_append, List.filter_cons, if_pos hp, List.filter_nil, List.map_append]
          rfl
        have few : (((zs ys[i]).take j).filter (p ys[i])).length ≤ ((zs ys[i]).filter (p ys[i])).length := ((List.take_sublist j (zs ys[i])).filter (p ys[i])).length_le
        refine ⟨ws, hws, ?_, fun b o hb => ?_, ?_, ?_⟩
        · rw [hwl, List.length_append, List.length_map]
          exact Nat.lt_of_le_of_lt (Nat.le_trans (Nat.add_le_add_left few _) cap) (by decide : 12000000 < sizeLine)
        · rw [upd_ne (ne_of_none hb hD)]
          exact ee _ _ (sh5 _ _ hb)
        · rw [more, ← List.append_assoc]
          exact EO2
        · rw [more, ← List.append_assoc]
          exact EI2
    · have hj' : j = (zs ys[i]).length := by omega
      subst hj'
      rw [List.take_length] at EO
      refine .inl ⟨W1.stop h EI.old, sh5, ?_⟩
      rw [total]
      exact EO
  · have hi' : i = ys.length := by omega
    subst hi'
    rw [List.take_length] at Eh
    exact .inl ⟨W.stop h (E2.old.trans sh), Fin h Eh sh⟩
end
end
section
def cA (K : PySem.W.Frag) (x : Str) : Addr := match PySem.W.nsIn K mainGlobals x with
  | some (some (.ref C)) => C
  | _ => 0
theorem cA_eq {K : PySem.W.Frag} {x : Str} {C : Addr} (h : PySem.W.nsIn K mainGlobals x = some (some (.ref C))) : cA K x = C := by
  unfold cA
  rw [h]
structure ClsF (K : PySem.W.Frag) (mg : Str → Option Value) (x : Str) : Prop where
  cl : Cls K (cA K x)
  mg : mg x = some (.ref (cA K x))
  first : PySem.W.selfFirst K (cA K x) = true
  noseq : PySem.W.noSeq K (cA K x) = true
  makes : PySem.W.makesIn K (cA K x) = true
  kp : PySem.W.keepIn K (.ref (cA K x)) = true
section
variable {X : Cx} (K : PySem.W.Frag) {CX : CXT} {C : Addr} {k : Nat} {ps : List Str} {sp : Sp} {E : XK} {x m f : Str} {p pos apos pos' : Pos} {e o value : Expr} {es : List Expr} {ta tv : TE} {t : TA}
theorem ps_fldK (ha : PE X o ta) (hv : PE X value tv) (hK : X.K = K := by rfl) (hs : swapsWith value (some (.Attribute o f pos')) pos.line X.env = pure false := by rfl) : PS X (.Assign [.Attribute o f pos'] value pos) (sFld K ta tv f) := by subst hK; exact ps_fld ha hv hs
end
structure InsR (K : PySem.W.Frag) {β : Type} (C : Addr) (r : Rp β) (names : List Str) : Prop where
  ins : ∀ {H : Hp} {v : V} {b : β}, r H v b → ∃ a dx fs, v = .ref a ∧ H a = some (.ins C dx fs) ∧ fs.map (·.1) = names
theorem lookup_no {names : List Str} {m : Str} : ∀ {fs : List (Str × V)}, fs.map (·.1) = names → m ∉ names → fs.lookup m = none := by
  intro fs h hm
  subst h
  induction fs with
  | nil => rfl
  | cons x r ih =>
    obtain ⟨a, b⟩ := x
    rw [List.map_cons, List.mem_cons, not_or] at hm
    rw [List.lookup_cons, show (m == a) = false from beq_eq_false_iff_ne.mpr hm.1]
    exact ih hm.2
section
variable {K : PySem.W.Frag} {H0 H1 H H' : Hp} {σ : L2.St} {G G' : Cells K} {α β γ δ : Type} {ta tb te : TE} {t : TA} {r : Rp α} {r' : Rp β} {q : Rp γ} {x : α} {y : β} {z : γ} {C : Addr} {names : List Str} {m : Str}
theorem a_cmpO {pre : α × β × Unit → Prop} {f : α × β × Unit → γ} {E : XK} (h : Ev r ta G x) (h' : Ev r' tb G y) (M : Mono r) (I : InsR K C r names) (I' : InsR K C r' names) (hp : PreOk pre (x, y, ())) (e : AppEq f (x, y, ()) z) :
    Ev q (tOp (rOwnOp C (spF (aC r (aC r' aN)) pre q f) E) ta tb) G z := ev_op h h' fun H u v hu hv Q k => by
  obtain ⟨a, dx, fs, ea, ha, _⟩ := I.ins hu
  obtain ⟨b, dy, gs, eb, hb, _⟩ := I'.ins hv
  exact ⟨a, dx, fs, b, dy, gs, ea, eb, ha, hb, (x, y, ()), ⟨u, _, rfl, hu, v, _, rfl, hv, rfl⟩, hp, fun w H' e' hw => k w H' e' (by rw [← show f (x, y, ()) = z from e]; exact hw)⟩
theorem nw_binO {R : Rs K γ} {pre : α × β × Unit → Prop} {f : α × β × Unit → γ} {E : XK} (h : Ev r ta G x) (h' : Ev r' tb G y) (M : Mono r) (I : InsR K C r names) (I' : InsR K C r' names) (hp : PreOk pre (x, y, ())) (e : AppEq f (x, y, ()) z) :
    Nw R (tOp (rOwnOp C (spN (aC r (aC r' aN)) pre R f) E) ta tb) G z := nw_op h h' fun H u v hu hv Q k => by
  obtain ⟨a, dx, fs, ea, ha, _⟩ := I.ins hu
  obtain ⟨b, dy, gs, eb, hb, _⟩ := I'.ins hv
  exact ⟨a, dx, fs, b, dy, gs, ea, eb, ha, hb, (x, y, ()), ⟨u, _, rfl, hu, v, _, rfl, hv, rfl⟩, hp, fun w H' as e' hn hw => k w H' as e' hn (by rw [← show f (x, y, ()) = z from e]; exact hw)⟩
theorem a_mth {A : Ra β} {b : β} {pre : α × β → Prop} {f : α × β → γ} {E : XK} (h : Ev r ta G x) (M : Mono r) (I : InsR K C r names) (hn : m ∉ names) (hA : EvA A t G b) (hp : PreOk pre (x, b)) (e : AppEq f (x, b) z) :
    Ev q (tMeth C m (spF (aC r A) pre q f) [] E ta t) G z := fun H0 σ H E1 Q k => h H0 σ H E1 _ fun v H1 e1 hv => by
  obtain ⟨a, dx, fs, ea, ha, hm⟩ := I.ins hv
  refine ⟨a, dx, fs, ea, ha, lookup_no hm hn, hA H0 σ H1 (E1.grow e1) _ fun vs H2 e2 hvs => ?_⟩
  exact ⟨(x, b), ⟨v, vs, by rw [List.append_nil], M.up e2 hv, hvs⟩, hp, fun w H' e' hw => k w H' ((e1.trans e2).trans e') (by rw [← show f (x, b) = z from e]; exact hw)⟩
theorem nw_mth {R : Rs K γ} {A : Ra β} {b : β} {pre : α × β → Prop} {f : α × β → γ} {E : XK} (h : Ev r ta G x) (M : Mono r) (I : InsR K C r names) (hn : m ∉ names) (hA : EvA A t G b) (hp : PreOk pre (x, b)) (e : AppEq f (x, b) z) :
    Nw R (tMeth C m (spN (aC r A) pre R f) [] E ta t) G z := fun H0 σ H E1 Q k => h H0 σ H E1 _ fun v H1 e1 hv => by
  obtain ⟨a, dx, fs, ea, ha, hm⟩ := I.ins hv
  refine ⟨a, dx, fs, ea, ha, lookup_no hm hn, hA H0 σ H1 (E1.grow e1) _ fun vs H2 e2 hvs => ?_⟩
  exact ⟨(x, b), ⟨v, vs, by rw [List.append_nil], M.up e2 hv, hvs⟩, hp, fun w H' as e' hf hw => k w H' as ((e1.trans e2).trans e') (fun p hp => free_back (e1.trans e2) (hf p hp)) (by rw [← show f (x, b) = z from e]; exact hw)⟩
end
abbrev Rule := Str × List Str
abbrev rRu (K : PySem.W.Frag) : Rp Rule := rP K rS (rT K rS)
def rOne (K : PySem.W.Frag) (C : Addr) (f : Str) {β : Type} (r : Rp β) : Rp (List β) := fun H v xs => (∃ a dx l vs, v = .ref a ∧ H a = some (.ins C dx [(f, .ref l)]) ∧ H l = some (.lst vs) ∧ A2 (r H) vs xs) ∧ xs.length ≤ 12000000
def nOne (K : PySem.W.Frag) (C : Addr) (f : Str) {β : Type} (r : Rp β) : Rs K (List β) where
  rep := fun H v xs as => (∃ a dx l vs, as = [a, l] ∧ v = .ref a ∧ a ≠ l ∧ H a = some (.ins C dx [(f, .ref l)]) ∧ H l = some (.lst vs) ∧ A2 (Stb K r H) vs xs) ∧ xs.length ≤ 12000000
  stay := fun ⟨⟨a, dx, l, vs, e, ev, ne, h1, h2, z⟩, hz⟩ x k => ⟨⟨a, dx, l, vs, e, ev, ne, k a (by rw [e]; simp) _ h1, k l (by rw [e]; simp) _ h2, z.imp fun _ _ w => w.up x⟩, hz⟩
  there := fun ⟨⟨a, dx, l, vs, e, ev, ne, h1, h2, z⟩, hz⟩ p hp => by
    rw [e] at hp
    rcases List.mem_cons.mp hp with q | q
    · exact ⟨.ins C dx [(f, .ref l)], by rw [q]; exact h1, fun z => z⟩
    · cases List.mem_singleton.mp q
      exact ⟨_, h2, fun z => z⟩
section
variable {K : PySem.W.Frag} {H0 H1 H H' : Hp} {σ : L2.St} {G G' : Cells K} {α β : Type} {ta te : TE} {r : Rp β} {C : Addr} {f : Str} {xs : List β}
instance [M : Mono r] : Mono (rOne K C f r) := ⟨fun e ⟨⟨a, dx, l, vs, ev, h1, h2, z⟩, hz⟩ => ⟨⟨a, dx, l, vs, ev, e _ _ h1, e _ _ h2, z.imp fun _ _ w => M.up e w⟩, hz⟩⟩
theorem one_ins : InsR K C (rOne K C f r) [f] := ⟨fun ⟨⟨a, dx, l, vs, ev, h1, _⟩, _⟩ => ⟨a, dx, _, ev, h1, rfl⟩⟩
theorem a_one {i : Nat} (h : G[i]? = some (some (.ow (nOne K C f r) xs))) : Ev (rOne K C f r) (tVar i) G xs := fun H0 σ H E Q k => by
  obtain ⟨own, _, _, h3⟩ := E.at_
  obtain ⟨v, hv, ⟨a, dx, l, vs, _, ev, _, h1, h2, z⟩, hz⟩ := h3 i _ h
  exact ⟨v, hv, k v H (Same.refl H) ⟨⟨a, dx, l, vs, ev, h1, h2, nows z⟩, hz⟩⟩
theorem a_oneF (h : Ev (rOne K C f r) ta G xs) (c : Cls K C) (n : NoAttr K C f) : Ev (rL r) (tFld K ta f) G xs := fun H0 σ H E Q k => h H0 σ H E _ fun v H1 e1 ⟨⟨a, dx, l, vs, ev, h1, h2, z⟩, hz⟩ =>
  ⟨a, C, dx, _, .ref l, ev, h1, c, n, by rw [List.lookup_cons, show (f == f) = true from beq_self_eq_true f], k _ H1 e1 ⟨l, vs, rfl, h2, z⟩⟩
theorem nw_oneL [M : Mono r] [F : Frz K r] (h : Ev (rOne K C f r) te G xs) : Nw (nl K r) (tCB (rListY K C f) (tCons te tNil)) G xs := nw_cb (ea_cons h ea_nil) fun H vs ⟨v, ws, e, ⟨⟨a, dx, l, us, ev, h1, h2, z⟩, hz⟩, e2⟩ Q k =>
  ⟨a, dx, _, l, us, by rw [e, show ws = [] from e2, ev], h1, by rw [List.lookup_cons, show (f == f) = true from beq_self_eq_true f], SqL.of h2, by rw [z.len]; exact sz hz, (fun q hq z => by
      rw [← z, h2] at hq
      cases hq), fun q hq => k _ _ [q] (same_new hq) (fun b hb => by rw [List.mem_singleton.mp hb]; exact hq) ⟨q, us, rfl, rfl, upd_same, z.imp fun _ _ w => stb (M.up (same_new hq) w)⟩⟩
def spOne (K : PySem.W.Frag) (C : Addr) (f : Str) (r : Rp β) {α : Type} (A : Ra α) (pre : α → Prop) (g : α → List β) : Sp := fun vs H Q _ => ∃ p dx ws a, vs = .ref p :: ws ∧ H p = some (.ins C dx []) ∧ A H ws a ∧ pre a ∧
  ∀ l us H', (∀ b o, b ≠ p → H b = some o → H' b = some o) → H l = none → H' p = some (.ins C dx [(f, .ref l)]) → H' l = some (.lst us) → A2 (Stb K r H') us (g a) → (g a).length ≤ 12000000 → Q .non H'
theorem nw_mkO {A : Ra α} {a : α} {pre : α → Prop} {g : α → List β} {E : XK} {t : TA} (hA : EvA A t G a) (M : MonoA A) (hp : PreOk pre a) (e : AppEq g a xs) : Nw (nOne K C f r) (tMake C (spOne K C f r A pre g) [] E t) G xs := fun H0 σ H E1 Q k =>
  hA H0 σ H E1 _ fun ws H1 e1 hws x dx hx hdx hne => by
    have s1 : Same H1 (upd (upd H1 dx (.own x)) x (.ins C dx [])) := fun b o hb => by rw [upd_ne (ne_of_none hb hx), upd_ne (ne_of_none hb hdx)]; exact hb
    refine ⟨x, dx, ws, a, by rw [List.append_nil], upd_same, M.up s1 hws, hp, fun l us H' keep hl h1 h2 z hz => ⟨rfl, ?_⟩⟩
    have hlx : x ≠ l := fun q => by rw [← q, upd_same] at hl; cases hl
    have hl1 : H1 l = none := s1.free hl
    refine k _ H' [x, l] (e1.trans fun b o hb => keep b o (ne_of_none hb hx) (s1 _ _ hb)) (fun b hb => ?_) ⟨⟨x, dx, l, us, rfl, rfl, hlx, h1, h2, by rw [← show g a = xs from e]; exact z⟩, by rw [← show g a = xs from e]; exact hz⟩
    rcases List.mem_cons.mp hb with q | q
    · rw [q]; exact free_back e1 hx
    · cases List.mem_singleton.mp q
      exact free_back e1 hl1
end
end
section
def DfV (K : PySem.W.Frag) (dV : Value) (m : Nat) : Prop := (m = 0 ∧ dV = .none) ∨ ∃ (T : Addr) (o : Obj) (its : List Value) (n : Nat), dV = .ref T ∧ K.lookup T = some o ∧ o.data = .seq its.toArray n ∧ its.length = m ∧ 0 < m
structure FunE (K : PySem.W.Frag) (x q : Str) (st : Stmt) (m : Nat) (f : Addr) (fd : FuncData) : Prop where
  ex : ∃ (oc : Value) (od : Option Addr) (dV kV doc pm : Value) (an : Option Addr) (cdv ct : Value) (osl : Array (Option Value)),
    fd = PySem.W.fnOf x q (defArgs st) (defBody st) (defScope st) dV kV doc pm an cdv ct ∧ K.lookup f = some ⟨oc, od, .func fd, osl⟩ ∧ PySem.W.codeIn K cdv q = true ∧ DfV K dV m
  kp : PySem.W.keepIn K (.ref f) = true
def BindE (x q : Str) (st : Stmt) (ps : List Str) (m : Nat) : Prop :=
  (m = 0 → ∀ (kV doc pm : Value) (an : Option Addr) (cdv ct : Value) (us : List Value), us.length = ps.length → bindArgs (PySem.W.fnOf x q (defArgs st) (defBody st) (defScope st) .none kV doc pm an cdv ct) ⟨us, []⟩ = pure (ps.zip us)) ∧
  (0 < m → ∀ (T : Addr) (kV doc pm : Value) (an : Option Addr) (cdv ct : Value) (us its : List Value), us.length = ps.length → its.length = m →
    ∃ k, bindArgs (PySem.W.fnOf x q (defArgs st) (defBody st) (defScope st) (.ref T) kV doc pm an cdv ct) ⟨us, []⟩ = seqItems? (.ref T) >>= k ∧ k (some its.toArray) = pure (ps.zip us))
section
variable {P : Program} {w : World} {K : PySem.W.Frag} {mg : Str → Option Value} {base : Heap} {CX : CXT} {x q : Str} {st : Stmt} {m k : Nat} {f C : Addr} {fd : FuncData} {ps N : List Str} {sp : Sp}
theorem FunE.ok (F : FunE K x q st m f fd) (S : FnScope N ps (defScope st)) (len : ∀ vs H Q E, sp vs H Q E → vs.length = ps.length)
    (hbody : ∀ (cdv : Value) (A : Around) (outer : List PySem.Env) (s : Shared) (H : Hp) (vs : List V) (Q : VK) (E : XK), Room k (A.deeper (envOfC q (defScope st) s.heap.objs.size f cdv)) → sp vs H Q E →
      ∃ t, PSs (cxOf CX P w K mg base N q (defScope st) f cdv A outer s H E) (defBody st) t ∧ t { nx := fun _ H' => Q .non H', rt := Q } (start N vs) H) : FnOk P w K mg base CX (k + 1) f fd ps sp := by
  obtain ⟨oc, od, dV, kV, doc, pm, an, cdv, ct, osl, rfl, lk, hcd, _⟩ := F.ex
  exact fn_of lk hcd S len fun A outer s H vs Q E hr h => hbody cdv A outer s H vs Q E hr h
theorem FunE.binds (F : FunE K x q st m f fd) (b : BindE x q st ps m) : L2.Binds K fd ps [] := by
  obtain ⟨oc, od, dV, kV, doc, pm, an, cdv, ct, osl, rfl, lk, hcd, hD⟩ := F.ex
  rcases hD with ⟨e, rfl⟩ | ⟨T, o, its, n, rfl, lT, oT, rT⟩
  · exact .all (b.1 e kV doc pm an cdv ct)
  · intro s us X hlen
    rw [List.append_nil] at hlen ⊢
    obtain ⟨k, e1, e2⟩ := b.2 rT.2 T kV doc pm an cdv ct us its hlen rT.1
    refine BindsTo.of_looks fun M => ?_
    rw [e1]
    exact looks_items X lT oT (.of_pure e2)
end
end
section
def repC (c : Array Nat) (n : Nat) : Array Nat := (List.replicate n c).foldl (· ++ ·) #[]
theorem foldC_size (c : Array Nat) : ∀ (n : Nat) (a : Array Nat), ((List.replicate n c).foldl (· ++ ·) a).size = a.size + n * c.size
  | 0, a => by simp
  | n + 1, a => by
    rw [List.replicate_succ, List.foldl_cons, foldC_size c n, Array.size_append, Nat.succ_mul]
    omega
theorem foldC_all (p : Nat → Bool) (c : Array Nat) (hc : c.all p = true) : ∀ (n : Nat) (a : Array Nat), a.all p = true → ((List.replicate n c).foldl (· ++ ·) a).all p = true
  | 0, a, h => by simpa using h
  | n + 1, a, h => by
    rw [List.replicate_succ, List.foldl_cons]
    exact foldC_all p c hc n _ (by rw [Array.all_append, h, hc]; rfl)
def repS (x : Str) (n : Int) : Str := if n < 1 then Str.empty else if (n == 1 || x.length == 0) = true then x else ⟨repC x.cps n.toNat⟩
theorem repS_len (x : Str) (n : Int) : (repS x n).length ≤ x.length * n.toNat := by
  unfold repS
  split
  · exact Nat.zero_le _
  · rename_i h1
    split
    · rename_i h2
      rcases Bool.or_eq_true_iff.mp h2 with e | e
      · have : n = 1 := by simpa using e
        subst this
        show x.length ≤ x.length * 1
        omega
      · have : x.length = 0 := by simpa using e
        omega
    · show (repC x.cps n.toNat).size ≤ _
      unfold repC
      rw [foldC_size, Nat.mul_comm]
      show (#[] : Array Nat).size + x.cps.size * n.toNat ≤ x.cps.size * n.toNat
      simp
theorem okS_rep {x : Str} {n : Int} (h : okS x) (hz : x.length * n.toNat ≤ 100000) : okS (repS x n) := by
  refine ⟨Nat.le_trans (repS_len x n) hz, ?_⟩
  unfold repS
  have e0 : (#[] : Array Nat).all (fun c => decide (c < 0x110000)) = true := by simp
  split
  · exact e0
  · split
    · exact h.2
    · exact foldC_all _ _ h.2 _ _ e0
abbrev rMulS : R2 := fun x y H Q => ∃ a n, x = .str a ∧ y = .int n ∧ 0 ≤ n ∧ n ≤ 1000 ∧ a.length ≤ 1000 ∧ Q (.str (repS a n)) H
section
variable {K : PySem.W.Frag} {G : Cells K} {ta tb te : TE} {s t : Str} {n : Int}
theorem ev_mulS (h : Ev rS ta G s) (h' : Ev rI tb G n) (hn : 0 ≤ n ∧ n ≤ 1000) (hz : s.length ≤ 50) : Ev rS (tOp rMulS ta tb) G (repS s n) := ev_op h h' fun H u v hu hv Q k =>
  ⟨s, n, hu.1, hv, hn.1, hn.2, by omega, k _ H (Same.refl H) ⟨rfl, okS_rep hu.2 (Nat.le_trans (Nat.mul_le_mul hz (show n.toNat ≤ 1000 by omega)) (by decide))⟩⟩
end
end
section
def two {α : Type} : List α → Option (α × α)
  | [a, b] => some (a, b)
  | _ => none
inductive Md
  | st (i : Int)
  | cl (i : Int) (t : Str)
  | fi (h t : Str)
  deriving DecidableEq
instance : Inhabited Md := ⟨.st 0⟩
end
section
abbrev Xt := ((((Unit × Str) × List Rule) × Unit) × List Str)
inductive Pay
  | s (o : Option Str)
  | i (n : Int)
  | r (x : Rule)
  | l (xs : List (Option Str))
  | t (xs : List Str)
  | q (x : List Rule × List Rule)
  | z
  | m (x : Md)
  | e (x : Xt)
inductive Er
  | stuck
  | ex (cls : Str) (fs : List (Str × Pay))
abbrev M (α : Type) := Except Er α
def mb {α β : Type} (m : M α) (f : α → M β) : M β := match m with
  | .ok a => f a
  | .error e => .error e
theorem mb_ok {α β : Type} {m : M α} {f : α → M β} {b : β} (h : mb m f = .ok b) : ∃ a, m = .ok a ∧ f a = .ok b := by
  cases m with
  | ok a => exact ⟨a, rfl, h⟩
  | error e => cases h
theorem mb_of {α β : Type} {m : M α} {f : α → M β} {a : α} (h : m = .ok a) : mb m f = f a := by rw [h]; rfl
theorem ok_inj {α : Type} {a b : α} (h : (Except.ok a : M α) = .ok b) : a = b := by cases h; rfl
def oM {α : Type} : Option α → M α
  | some a => .ok a
  | none => .error .stuck
theorem oM_ok {α : Type} {o : Option α} {a : α} (h : oM o = .ok a) : o = some a := by
  cases o with
  | none => cases h
  | some b => cases h; rfl
theorem oM_of {α : Type} {o : Option α} {a : α} (h : o = some a) : oM o = .ok a := by rw [h]; rfl
def chk (c : Bool) : M Unit := bif c then .ok () else .error .stuck
theorem chk_ok {c : Bool} {u : Unit} (h : chk c = .ok u) : c = true := by
  cases c with
  | false => cases h
  | true => rfl
theorem chk_of {c : Bool} (h : c = true) : chk c = .ok () := by rw [h]; rfl
theorem bif_t {α : Type} {c : Bool} {a b x : α} (h : (bif c then a else b) = x) (hc : c = true) : a = x := by rw [hc] at h; exact h
theorem bif_f {α : Type} {c : Bool} {a b x : α} (h : (bif c then a else b) = x) (hc : c = false) : b = x := by rw [hc] at h; exact h
def mand (a : Bool) (m : M Bool) : M Bool := bif a then m else .ok false
def mor (a : Bool) (m : M Bool) : M Bool := bif a then .ok true else m
inductive Fl (σ ρ : Type)
  | nx (s : σ)
  | rt (r : ρ)
  | bk (s : σ)
def mfor {σ α : Type} (f : σ → α → M σ) : σ → List α → M σ
  | s, [] => .ok s
  | s, x :: xs => mb (f s x) fun s' => mfor f s' xs
def mforF {σ ρ α : Type} (f : σ → α → M (Fl σ ρ)) : σ → List α → M (Fl σ ρ)
  | s, [] => .ok (.nx s)
  | s, x :: xs => mb (f s x) fun o => match o with
    | .nx s' => mforF f s' xs
    | .rt r => .ok (.rt r)
    | .bk s' => .ok (.nx s')
theorem mfor_app {σ α : Type} {f : σ → α → M σ} : ∀ {xs ys : List α} {s r : σ}, mfor f s (xs ++ ys) = .ok r → ∃ t, mfor f s xs = .ok t ∧ mfor f t ys = .ok r
  | [], ys, s, r, h => ⟨s, rfl, h⟩
  | x :: xs, ys, s, r, h => by
    obtain ⟨t, h1, h2⟩ := mb_ok h
    obtain ⟨u, h3, h4⟩ := mfor_app h2
    exact ⟨u, by unfold mfor; rw [mb_of h1]; exact h3, h4⟩
theorem mforF_step {σ ρ α : Type} {f : σ → α → M (Fl σ ρ)} {s : σ} {x : α} {xs : List α} {o : Fl σ ρ} (h : mforF f s (x :: xs) = .ok o) : ∃ o1, f s x = .ok o1 ∧ (∀ s', o1 = .nx s' → mforF f s' xs = .ok o) ∧ (∀ r, o1 = .rt r → o = .rt r) ∧ (∀ s', o1 = .bk s' → o = .nx s') := by
  obtain ⟨o1, h1, h2⟩ := mb_ok h
  refine ⟨o1, h1, ?_, ?_, ?_⟩
  · rintro s' rfl; exact h2
  · rintro r rfl; cases h2; rfl
  · rintro s' rfl; cases h2; rfl
def fuel : Nat := 1000000000000000000
def mwhile {σ : Type} (c : σ → M Bool) (f : σ → M σ) : Nat → σ → M σ
  | 0, _ => .error .stuck
  | n + 1, s => mb (c s) fun b => bif b then mb (f s) fun s' => mwhile c f n s' else .ok s
def mlc {α β : Type} (p : α → M Bool) (f : α → M β) : List α → M (List β)
  | [] => .ok []
  | x :: xs => mb (p x) fun b => bif b then mb (f x) fun y => mb (mlc p f xs) fun ys => .ok (y :: ys) else mlc p f xs
theorem mlc_app {α β : Type} {p : α → M Bool} {f : α → M β} : ∀ {xs ys : List α} {zs : List β}, mlc p f (xs ++ ys) = .ok zs → ∃ us vs, mlc p f xs = .ok us ∧ mlc p f ys = .ok vs ∧ zs = us ++ vs
  | [], ys, zs, h => ⟨[], zs, rfl, h, rfl⟩
  | x :: xs, ys, zs, h => by
    obtain ⟨b, h1, h⟩ := mb_ok h
    cases b with
    | false =>
      obtain ⟨us, vs, e1, e2, e3⟩ := mlc_app (xs := xs) h
      exact ⟨us, vs, by unfold mlc; rw [mb_of h1]; exact e1, e2, e3⟩
    | true =>
      obtain ⟨y, h2, h⟩ := mb_ok h
      obtain ⟨ws, h3, h⟩ := mb_ok h
      obtain ⟨us, vs, e1, e2, e3⟩ := mlc_app (xs := xs) h3
      cases h
      refine ⟨y :: us, vs, ?_, e2, by rw [e3]; rfl⟩
      unfold mlc
      rw [mb_of h1]
      show mb (f x) _ = _
      rw [mb_of h2, mb_of e1]
section
variable {K : PySem.W.Frag} {H0 H1 H H' : Hp} {σ : L2.St} {G G' G2 Gx : Cells K} {α β γ S T ρ : Type}
variable {D : Ends} {t u tb : TS} {wi : TI} {g : TG} {te ta tb' : TE} {tt tu tv : TT} {r : Rp α} {q : Rp β} {R : Rs K ρ} {a b c d : Bool}
def RtR (R : Rs K ρ) (H0 : Hp) (x : ρ) (v : V) (H : Hp) : Prop := ∃ as, Same H0 H ∧ (∀ p, p ∈ as → H0 p = none) ∧ R.rep H v x as
def RtOk (R : Rs K ρ) (H0 : Hp) (x : ρ) (D : Ends) : Prop := ∀ v H, RtR R H0 x v H → D.rt v H
theorem RtOk.up {x : ρ} (h : RtOk R H0 x D) (e : Same H0 H1) : RtOk R H1 x D := fun v H ⟨as, s, n, z⟩ => h v H ⟨as, e.trans s, fun p hp => e.free (n p hp), z⟩
theorem Have.up (e : Same H0 H1) (h : Have H1 G σ H) : Have H0 G σ H := let ⟨H2, s, E⟩ := h; ⟨H2, e.trans s, E⟩
theorem Nx.up {P : L2.St → Hp → Prop} (h : Nx H0 G P) (e : Same H0 H1) : Nx H1 G P := fun σ H z => h σ H (Have.up e z)
theorem Sv.up (h : Sv H0 G t D) (e : Same H0 H1) : Sv H1 G t D := fun σ H z => h σ H (Have.up e z)
def OutOk (H0 : Hp) (st : S → Cells K) (bk : S → Cells K) (R : Rs K ρ) (D : Ends) : Fl S ρ → Prop
  | .nx s => Nx H0 (st s) D.nx
  | .rt x => RtOk R H0 x D
  | .bk s => Nx H0 (bk s) D.bk
theorem OutOk.up {st bk : S → Cells K} {o : Fl S ρ} (h : OutOk H0 st bk R D o) (e : Same H0 H1) : OutOk H1 st bk R D o := match o, h with
  | .nx _, h => Nx.up h e
  | .rt _, h => RtOk.up h e
  | .bk _, h => Nx.up h e
theorem r_ret {x : α} (hD : RtOk (fz K r) H0 x D) (h : Ev r te G x) (F : Frz K r := by infer_instance) : Sv H0 G (tRet te) D := l_ret (b' := x) (fun v H' s z => hD v H' ⟨[], s, (fun p hp => nomatch hp), ⟨rfl, stb z⟩⟩) h rfl
theorem r_retN {x : ρ} (hD : RtOk R H0 x D) (h : Nw R te G x) : Sv H0 G (tRet te) D := l_retN (b' := x) (fun v H' as s n z => hD v H' ⟨as, s, n, z⟩) h rfl
theorem r_retO {i : Nat} {x : ρ} (hD : RtOk R H0 x D) (hi : G[i]? = some (some (.ow R x))) : Sv H0 G (tRet (tVar i)) D := l_retO (xs' := x) (fun v H' as s n z => hD v H' ⟨as, s, n, z⟩) hi rfl
theorem l_forM {f : S → α → M S} {xs : List α} {s0 s1 : S} (st : S → Cells K) (hm : mfor f s0 xs = .ok s1) (hw : Wk wi r G G' xs) (h0 : Sub G' (st s0))
    (body : ∀ H0', Same H0 H0' → ∀ x s s', f s x = .ok s' → ∃ Gx, Tg g r x (st s) Gx ∧ Sv H0' Gx tb { D with nx := Have H0' (st s'), ct := Have H0' (st s'), bk := D.nx })
    (after : Nx H0 (st s1) D.nx) : Sv H0 G (tFor wi g tb) D :=
  l_forI st (fun pre s => mfor f s0 pre = .ok s) s0 hw h0 rfl (fun H0' e pre x post s hx hI => by
    rw [hx] at hm
    obtain ⟨t, h1, h2⟩ := mfor_app hm
    rw [hI] at h1
    cases h1
    obtain ⟨s', h3, h4⟩ := mb_ok h2
    obtain ⟨Gx, ht, hb⟩ := body H0' e x s s' h3
    refine ⟨Gx, ht, ?_⟩
    have e2 : mfor f s0 (pre ++ [x]) = .ok s' := by
      have app : ∀ (l : List α) (a b : S), mfor f a l = .ok b → mfor f a (l ++ [x]) = mb (f b x) fun c => .ok c := by
        intro l
        induction l with
        | nil => intro a b h; cases h; rfl
        | cons y l ih =>
          intro a b h
          obtain ⟨c, h5, h6⟩ := mb_ok h
          show mb (f a y) _ = _
          rw [mb_of h5]
          exact ih c b h6
      rw [app pre s0 s hI, mb_of h3]
    have key : (fun σ H => ∃ s', mfor f s0 (pre ++ [x]) = .ok s' ∧ Have H0' (st s') σ H) = Have H0' (st s') := by
      funext σ H
      refine propext ⟨fun ⟨s2, h5, h6⟩ => ?_, fun h => ⟨_, e2, h⟩⟩
      rw [e2] at h5
      cases h5
      exact h6
    rw [key]
    exact hb) fun s hs => by rw [hm] at hs; cases hs; exact after
theorem q_forM {f : S → α → M S} {xs : List α} {s0 s1 : S} (st : S → Cells K) (hm : mfor f s0 xs = .ok s1) (hw : Wk wi r G G' xs) (h0 : Sub G' (st s0))
    (body : ∀ H0', Same H0 H0' → ∀ x s s', f s x = .ok s' → ∃ Gx, Tg g r x (st s) Gx ∧ Sv H0' Gx tb { nx := Have H0' (st s'), rt := D.rt, ct := Have H0' (st s'), bk := u D })
    (after : Sv H0 (st s1) u D) : Sv H0 G (tSeq (tFor wi g tb) u) D := l_forM (D := { D with nx := u D }) st hm hw h0 body after
theorem l_forF {f : S → α → M (Fl S ρ)} {xs : List α} {s0 : S} {o : Fl S ρ} (st : S → Cells K) (hm : mforF f s0 xs = .ok o) (hw : Wk wi r G G' xs) (h0 : Sub G' (st s0))
    (hn : ∀ s, o = .nx s → Nx H0 (st s) D.nx) (hr : ∀ x, o = .rt x → RtOk R H0 x D)
    (body : ∀ H0' D', Same H0 H0' → ∀ x s o', f s x = .ok o' → OutOk H0' st st R D' o' → ∃ Gx, Tg g r x (st s) Gx ∧ Sv H0' Gx tb D') : Sv H0 G (tFor wi g tb) D :=
  l_forI st (fun pre s => ∀ ys, xs = pre ++ ys → mforF f s ys = .ok o) s0 hw h0 (fun ys e => by rw [e] at hm; exact hm) (fun H0' e pre x post s hx hI => by
    obtain ⟨o1, h1, h2, h3, h4⟩ := mforF_step (hI _ hx)
    exact body H0' _ e x s o1 h1 (match o1, h1, h2, h3, h4 with
      | .nx s', _, h2, _, _ => fun σ H hv => ⟨s', fun ys ey => by
          have : ys = post := by
            have e3 := hx.symm.trans ey
            rw [List.append_assoc] at e3
            have := List.append_cancel_left e3
            cases this
            rfl
          rw [this]
          exact h2 s' rfl, hv⟩
      | .rt x', _, _, h3, _ => (hr x' (h3 x' rfl)).up e
      | .bk s', _, _, _, h4 => (hn s' (h4 s' rfl)).up e)) fun s hs => hn s (by
        have := hs [] (by rw [List.append_nil])
        cases this
        rfl)
theorem q_forF {f : S → α → M (Fl S ρ)} {xs : List α} {s0 : S} {o : Fl S ρ} (st : S → Cells K) (hm : mforF f s0 xs = .ok o) (hw : Wk wi r G G' xs) (h0 : Sub G' (st s0))
    (hn : ∀ s, o = .nx s → Sv H0 (st s) u D) (hr : ∀ x, o = .rt x → RtOk R H0 x D)
    (body : ∀ H0' D', Same H0 H0' → ∀ x s o', f s x = .ok o' → OutOk H0' st st R D' o' → ∃ Gx, Tg g r x (st s) Gx ∧ Sv H0' Gx tb D') : Sv H0 G (tSeq (tFor wi g tb) u) D := l_forF (D := { D with nx := u D }) st hm hw h0 hn hr body
theorem l_whileM {tc : TT} {c : S → M Bool} {f : S → M S} {n : Nat} {s0 s1 : S} (st : S → Cells K) (hm : mwhile c f n s0 = .ok s1) (h0 : Sub G (st s0))
    (test : ∀ s b, c s = .ok b → EvT tc (st s) b)
    (body : ∀ H0', Same H0 H0' → ∀ s s', f s = .ok s' → Sv H0' (st s) tb { D with nx := Have H0' (st s'), ct := Have H0' (st s'), bk := D.nx })
    (after : Nx H0 (st s1) D.nx) : Sv H0 G (tWhile tc tb) D := fun σ H ⟨H1, e1, E⟩ => by
  refine ⟨fun k σ' Hh => ∃ s, mwhile c f k s = .ok s1 ∧ Have H0 (st s) σ' Hh, ⟨n, s0, hm, H1, e1, E.less h0⟩, ?_⟩
  rintro k σ' Hh ⟨s, hI, H2, s2, E2⟩
  cases k with
  | zero => cases hI
  | succ k =>
    obtain ⟨b, hb, hI⟩ := mb_ok hI
    refine test s b hb H2 σ' Hh E2 _ fun H' e' => ?_
    cases b with
    | true =>
      obtain ⟨s', hs, hI⟩ := mb_ok hI
      refine iteT ⟨_, fun σ2 Hh2 hv => ⟨k, Nat.lt_succ_self k, s', hI, hv⟩, body H0 (Same.refl _) s s' hs σ' H' ⟨H2, s2, E2.grow e'⟩⟩
    | false =>
      cases hI
      exact iteF (after σ' H' ⟨H2, s2, E2.grow e'⟩)
theorem q_whileM {tc : TT} {c : S → M Bool} {f : S → M S} {n : Nat} {s0 s1 : S} (st : S → Cells K) (hm : mwhile c f n s0 = .ok s1) (h0 : Sub G (st s0))
    (test : ∀ s b, c s = .ok b → EvT tc (st s) b)
    (body : ∀ H0', Same H0 H0' → ∀ s s', f s = .ok s' → Sv H0' (st s) tb { nx := Have H0' (st s'), rt := D.rt, ct := Have H0' (st s'), bk := u D })
    (after : Sv H0 (st s1) u D) : Sv H0 G (tSeq (tWhile tc tb) u) D := l_whileM (D := { D with nx := u D }) st hm h0 test body after
theorem ev_andM {m : M Bool} (h1 : Ev rB ta G a) (h2 : ∀ b, m = .ok b → Ev rB tb' G b) (e : mand a m = .ok c) : Ev rB (tAndV ta tb') G c := by
  cases a with
  | true => exact (ev_and h1 fun _ => h2 c e).eq (Bool.true_and c)
  | false => cases e; exact (ev_and (d := false) h1 fun z => nomatch z)
theorem et_andM {m : M Bool} (h1 : EvT tt G a) (h2 : ∀ b, m = .ok b → EvT tu G b) (e : mand a m = .ok c) : EvT (tAnd tt tu) G c := by
  cases a with
  | true => exact (et_and h1 fun _ => h2 c e).eq (Bool.true_and c)
  | false => cases e; exact (et_and (d := false) h1 fun z => nomatch z)
theorem et_orM {m : M Bool} (h1 : EvT tt G a) (h2 : ∀ b, m = .ok b → EvT tu G b) (e : mor a m = .ok c) : EvT (tOr tt tu) G c := by
  cases a with
  | false => exact (et_or h1 fun _ => h2 c e).eq (Bool.false_or c)
  | true => cases e; exact (et_or (d := false) h1 fun z => nomatch z)
theorem ev_ifM {x : α} {m1 m2 : M α} (h : EvT tt G a) (h1 : ∀ y, m1 = .ok y → Ev r ta G y) (h2 : ∀ y, m2 = .ok y → Ev r tb' G y) (e : (bif a then m1 else m2) = .ok x) : Ev r (tIf tt ta tb') G x := by
  cases a with
  | true => exact (ev_if (x := x) h (fun _ => h1 x e) fun z => nomatch z)
  | false => exact (ev_if (a := x) h (fun z => nomatch z) fun _ => h2 x e)
theorem nw_lcM {vs : List Nat} {p : β → M Bool} {f : β → M γ} {q : Rp γ} [F : Frz K q] {r : Rp β} {ys : List β} {zs : List γ} [IN : Inhabited γ] (hw : Wk wi r G G' ys) (hlen : ys.length ≤ 12000000)
    (turn : ∀ x, ∃ Gx, Tb g r x vs (wipeG G' vs) Gx ∧ (∀ b, p x = .ok b → EvT tt Gx b) ∧ (∀ y, f x = .ok y → Ev q te Gx y)) (hm : mlc p f ys = .ok zs) :
    Nw (nl K q) (tLc wi g tt te vs) G zs := by
  have each : ∀ pre x post, ys = pre ++ x :: post → ∃ b, p x = .ok b ∧ (b = true → ∃ y, f x = .ok y) := fun pre x post e => by
    rw [e] at hm
    obtain ⟨us, vs', _, h2, _⟩ := mlc_app hm
    obtain ⟨b, hb, h2⟩ := mb_ok h2
    refine ⟨b, hb, fun e => ?_⟩
    subst e
    obtain ⟨y, hy, _⟩ := mb_ok h2
    exact ⟨y, hy⟩
  let P : β → Bool := fun x => match p x with | .ok b => b | .error _ => false
  let Fn : β → γ := fun x => match f x with | .ok y => y | .error _ => default
  have e : (ys.filter P).map Fn = zs := by
    have go : ∀ (l : List β) (us : List γ), mlc p f l = .ok us → (l.filter P).map Fn = us := by
      intro l
      induction l with
      | nil => intro us h; cases h; rfl
      | cons x l ih =>
        intro us h
        obtain ⟨b, hb, h⟩ := mb_ok h
        have eP : P x = b := by show (match p x with | .ok b => b | .error _ => false) = b; rw [hb]
        cases b with
        | false => rw [List.filter_cons, if_neg (by rw [eP]; exact Bool.false_ne_true)]; exact ih us h
        | true =>
          obtain ⟨y, hy, h⟩ := mb_ok h
          obtain ⟨ws, hws, h⟩ := mb_ok h
          cases h
          have eF : Fn x = y := by show (match f x with | .ok y => y | .error _ => default) = y; rw [hy]
          rw [List.filter_cons, if_pos eP, List.map_cons, ih ws hws, eF]
    exact go ys zs hm
  rw [← e]
  refine nw_lc hw hlen fun pre x post hx => ?_
  obtain ⟨Gx, h1, h2, h3⟩ := turn x
  obtain ⟨b, hb, hy⟩ := each pre x post hx
  have eP : P x = b := by show (match p x with | .ok b => b | .error _ => false) = b; rw [hb]
  refine ⟨Gx, h1, by rw [eP]; exact h2 b hb, fun hp => ?_⟩
  rw [eP] at hp
  obtain ⟨y, hy⟩ := hy hp
  have eF : Fn x = y := by show (match f x with | .ok y => y | .error _ => default) = y; rw [hy]
  rw [eF]
  exact h3 y hy
def spM (A : Ra α) (q : Rp β) (m : α → M β) : Sp := fun vs H Q _ => ∃ a b, A H vs a ∧ m a = .ok b ∧ ∀ v H', Same H H' → q H' v b → Q v H'
def spMN (A : Ra α) (R : Rs K β) (m : α → M β) : Sp := fun vs H Q _ => ∃ a b, A H vs a ∧ m a = .ok b ∧ ∀ v H' as, Same H H' → (∀ p, p ∈ as → H p = none) → R.rep H' v b as → Q v H'
def MOk {α β : Type} (m : α → M β) (g : α) (b : β) : Prop := m g = .ok b
theorem a_callM {A : Ra γ} {g : γ} {m : γ → M β} {b : β} {E' : XK} {t : TA} (h : EvA A t G g) (e : MOk m g b) : Ev q (tCall (spM A q m) [] E' t) G b := fun H0 σ H E Q k =>
  h H0 σ H E _ fun vs H1 e1 z1 => by
    rw [List.append_nil]
    exact ⟨g, b, z1, e, fun v H2 e2 z2 => k v H2 (e1.trans e2) z2⟩
theorem a_ncallM {A : Ra γ} {g : γ} {m : γ → M ρ} {b : ρ} {E' : XK} {t : TA} (h : EvA A t G g) (e : MOk m g b) : Nw R (tCall (spMN A R m) [] E' t) G b := fun H0 σ H E Q k =>
  h H0 σ H E _ fun vs H1 e1 z1 => by
    rw [List.append_nil]
    exact ⟨g, b, z1, e, fun v H2 as e2 hn z2 => k v H2 as (e1.trans e2) (fun p hp => free_back e1 (hn p hp)) z2⟩
end
end
section
instance {i j : Int} : Decidable (CMul i j) := by unfold CMul; infer_instance
instance {i j : Int} : Decidable (CDiv i j) := by unfold CDiv; infer_instance
instance : Inhabited Str := ⟨Str.empty⟩
def Fl.go {σ ρ β : Type} (o : Fl σ ρ) (kn : σ → M β) (kr : ρ → M β) (kb : σ → M β) : M β := match o with
  | .nx s => kn s
  | .rt r => kr r
  | .bk s => kb s
def sgn (s : Str) : Option Nat := match s.cps.toList with
  | [c] => some c
  | _ => none
theorem sgn_eq {s : Str} {c : Nat} (h : sgn s = some c) : s = ⟨#[c]⟩ := by
  unfold sgn at h
  obtain ⟨⟨l⟩⟩ := s
  match l, h with
  | [d], h => cases h; rfl
section
variable {K : PySem.W.Frag} {H0 H1 H H' : Hp} {σ : L2.St} {G G' G2 Gx : Cells K} {α β γ S T ρ : Type}
variable {D : Ends} {t u tb : TS} {te ta tb' : TE} {r : Rp α} {q : Rp β} {R : Rs K ρ} {a b c d : Bool}
theorem Sv.cont (k : Sv H0 G u D) : Nx H0 G (u D) := k
theorem RtR.none {H0 : Hp} (h : Have H0 G σ H) : RtR (fz K rN) H0 () .non H := let ⟨_, e, E⟩ := h; ⟨[], e.trans E.old, (fun p hp => nomatch hp), ⟨rfl, fun _ _ => rfl⟩⟩
theorem l_lset {ti : TE} {i : Nat} {xs : List α} {n : Int} {j : Nat} {x : α} (hi : G[i]? = some (some (.ow (nl K r) xs))) (h : Ev r te G x) (hn : Ev rI ti G n) (hj : ixN xs.length n = some j) (k : Nx H0 (G.set i (some (.ow (nl K r) (xs.set j x)))) D.nx) (F : Frz K r := by infer_instance) :
    Sv H0 G (tAsg te (gSub (tVar i) ti rSetL)) D := fun σ H ⟨H1, e1, E⟩ => by
  refine h H1 σ H E _ fun w H2 e2 hw => ?_
  obtain ⟨own, h1, h2, h3⟩ := id E.at_
  obtain ⟨v, hv, p, vs, ea, ev, hp, z⟩ := h3 i _ hi
  subst ev
  refine ⟨_, hv, hn H1 σ H2 (E.grow e2) _ fun y H3 e3 hy => ?_⟩
  have E3 := (E.grow e2).grow e3
  have hp3 := e3 _ _ (e2 _ _ hp)
  refine ⟨p, vs, n, j, rfl, hy, hp3, by rw [z.len]; exact hj, k _ _ ⟨H1, e1, ?_⟩⟩
  have x0 : ExT K H3 (upd H3 p (.lst (vs.set j w))) := ext_upd hp3 fun z => z
  have z3 : A2 (Stb K r (upd H3 p (.lst (vs.set j w)))) vs xs := z.imp fun _ _ q => (q.up (ext_same (e2.trans e3))).up x0
  refine E3.mut (as := [p]) (R := nl K r) (R' := nl K r) hi hv x0 (fun c o hc ho => ?_) (fun w' bs hw' ⟨p', _, e6, e7, _, _⟩ => ?_) ⟨p, _, rfl, rfl, upd_same, z3.set ((stb (F.up (ext_same e3) hw)).up x0) j⟩
  · rw [upd_ne fun z => hc (by rw [z]; exact List.mem_singleton.mpr rfl)]
    exact ho
  · rw [hv] at hw'
    cases hw'
    cases e7
    exact e6
abbrev rInSg : R2 := fun x y H Q => ∃ (c : Nat) (z : Str), x = .str ⟨#[c]⟩ ∧ y = .str z ∧ Q (.bl (decide (c ∈ z.cps.toList))) H
abbrev rNinSg : R2 := fun x y H Q => ∃ (c : Nat) (z : Str), x = .str ⟨#[c]⟩ ∧ y = .str z ∧ Q (.bl (!decide (c ∈ z.cps.toList))) H
def SgOk (s : Str) (c : Nat) : Prop := sgn s = some c
theorem a_inSg {s t : Str} {z : Nat} (h : Ev rS ta G t) (e : SgOk t z) (h' : Ev rS tb' G s) : Ev rB (tOp rInSg ta tb') G (decide (z ∈ s.cps.toList)) := ev_inSign h (sgn_eq e) h'
theorem a_ninSg {s t : Str} {z : Nat} (h : Ev rS ta G t) (e : SgOk t z) (h' : Ev rS tb' G s) : Ev rB (tOp rNinSg ta tb') G (!decide (z ∈ s.cps.toList)) := ev_ninSign h (sgn_eq e) h'
theorem a_cmpOM {C : Addr} {names : List Str} {r : Rp α} {r' : Rp β} {q : Rp γ} {x : α} {y : β} {z : γ} {m : α × β × Unit → M γ} {E : XK} (h : Ev r ta G x) (h' : Ev r' tb' G y) (M : Mono r) (I : InsR K C r names) (I' : InsR K C r' names) (e : MOk m (x, y, ()) z) :
    Ev q (tOp (rOwnOp C (spM (aC r (aC r' aN)) q m) E) ta tb') G z := ev_op h h' fun H u v hu hv Q k => by
  obtain ⟨a, dx, fs, ea, ha, _⟩ := I.ins hu
  obtain ⟨b, dy, gs, eb, hb, _⟩ := I'.ins hv
  exact ⟨a, dx, fs, b, dy, gs, ea, eb, ha, hb, (x, y, ()), z, ⟨u, _, rfl, hu, v, _, rfl, hv, rfl⟩, e, fun w H' e' hw => k w H' e' hw⟩
theorem nw_binOM {C : Addr} {names : List Str} {R : Rs K ρ} {r : Rp α} {r' : Rp β} {x : α} {y : β} {z : ρ} {m : α × β × Unit → M ρ} {E : XK} (h : Ev r ta G x) (h' : Ev r' tb' G y) (M : Mono r) (I : InsR K C r names) (I' : InsR K C r' names) (e : MOk m (x, y, ()) z) :
    Nw R (tOp (rOwnOp C (spMN (aC r (aC r' aN)) R m) E) ta tb') G z := nw_op h h' fun H u v hu hv Q k => by
  obtain ⟨a, dx, fs, ea, ha, _⟩ := I.ins hu
  obtain ⟨b, dy, gs, eb, hb, _⟩ := I'.ins hv
  exact ⟨a, dx, fs, b, dy, gs, ea, eb, ha, hb, (x, y, ()), z, ⟨u, _, rfl, hu, v, _, rfl, hv, rfl⟩, e, fun w H' as e' hn hw => k w H' as e' hn hw⟩
theorem a_mthM {C : Addr} {names : List Str} {mt : Str} {r : Rp α} {q : Rp γ} {x : α} {z : γ} {A : Ra β} {b : β} {m : α × β → M γ} {E : XK} {t : TA} (h : Ev r ta G x) (M : Mono r) (I : InsR K C r names) (hn : mt ∉ names) (hA : EvA A t G b) (e : MOk m (x, b) z) :
    Ev q (tMeth C mt (spM (aC r A) q m) [] E ta t) G z := fun H0 σ H E1 Q k => h H0 σ H E1 _ fun v H1 e1 hv => by
  obtain ⟨a, dx, fs, ea, ha, hm⟩ := I.ins hv
  refine ⟨a, dx, fs, ea, ha, lookup_no hm hn, hA H0 σ H1 (E1.grow e1) _ fun vs H2 e2 hvs => ?_⟩
  exact ⟨(x, b), z, ⟨v, vs, by rw [List.append_nil], M.up e2 hv, hvs⟩, e, fun w H' e' hw => k w H' ((e1.trans e2).trans e') hw⟩
theorem nw_mthM {C : Addr} {names : List Str} {mt : Str} {R : Rs K ρ} {r : Rp α} {x : α} {z : ρ} {A : Ra β} {b : β} {m : α × β → M ρ} {E : XK} {t : TA} (h : Ev r ta G x) (M : Mono r) (I : InsR K C r names) (hn : mt ∉ names) (hA : EvA A t G b) (e : MOk m (x, b) z) :
    Nw R (tMeth C mt (spMN (aC r A) R m) [] E ta t) G z := fun H0 σ H E1 Q k => h H0 σ H E1 _ fun v H1 e1 hv => by
  obtain ⟨a, dx, fs, ea, ha, hm⟩ := I.ins hv
  refine ⟨a, dx, fs, ea, ha, lookup_no hm hn, hA H0 σ H1 (E1.grow e1) _ fun vs H2 e2 hvs => ?_⟩
  exact ⟨(x, b), z, ⟨v, vs, by rw [List.append_nil], M.up e2 hv, hvs⟩, e, fun w H' as e' hf hw => k w H' as ((e1.trans e2).trans e') (fun p hp => free_back (e1.trans e2) (hf p hp)) hw⟩
def spOneM (K : PySem.W.Frag) (C : Addr) (f : Str) {β : Type} (r : Rp β) {α : Type} (A : Ra α) (m : α → M (List β)) : Sp := fun vs H Q _ => ∃ p dx ws a b, vs = .ref p :: ws ∧ H p = some (.ins C dx []) ∧ A H ws a ∧ m a = .ok b ∧
  ∀ l us H', (∀ c o, c ≠ p → H c = some o → H' c = some o) → H l = none → H' p = some (.ins C dx [(f, .ref l)]) → H' l = some (.lst us) → A2 (Stb K r H') us b → b.length ≤ 12000000 → Q .non H'
theorem nw_mkOM {C : Addr} {f : Str} {r : Rp β} {A : Ra α} {a : α} {m : α → M (List β)} {xs : List β} {E : XK} {t : TA} (hA : EvA A t G a) (M : MonoA A) (e : MOk m a xs) : Nw (nOne K C f r) (tMake C (spOneM K C f r A m) [] E t) G xs := fun H0 σ H E1 Q k =>
  hA H0 σ H E1 _ fun ws H1 e1 hws x dx hx hdx hne => by
    have s1 : Same H1 (upd (upd H1 dx (.own x)) x (.ins C dx [])) := fun b o hb => by rw [upd_ne (ne_of_none hb hx), upd_ne (ne_of_none hb hdx)]; exact hb
    refine ⟨x, dx, ws, a, xs, by rw [List.append_nil], upd_same, M.up s1 hws, e, fun l us H' keep hl h1 h2 z hz => ⟨rfl, ?_⟩⟩
    have hlx : x ≠ l := fun q => by rw [← q, upd_same] at hl; cases hl
    have hl1 : H1 l = none := s1.free hl
    refine k _ H' [x, l] (e1.trans fun b o hb => keep b o (ne_of_none hb hx) (s1 _ _ hb)) (fun b hb => ?_) ⟨⟨x, dx, l, us, rfl, rfl, hlx, h1, h2, z⟩, hz⟩
    rcases List.mem_cons.mp hb with q | q
    · rw [q]; exact free_back e1 hx
    · cases List.mem_singleton.mp q
      exact free_back e1 hl1
end
end
section
def Tt {α : Type} (m : M α) (P : α → Prop) : Prop := match m with
  | .ok a => P a
  | .error _ => False
section
variable {α β γ σ ρ : Type} {m : M α} {f : α → M β} {P P' : α → Prop} {Q : β → Prop} {a : α} {c : Bool} {o : Option α}
theorem Tt.ok (h : Tt m P) : ∃ a, m = .ok a ∧ P a := by
  cases m with
  | ok a => exact ⟨a, rfl, h⟩
  | error _ => exact h.elim
theorem Tt.eq (h : Tt m fun x => x = a) : m = .ok a := let ⟨_, e, h⟩ := h.ok; by rw [e, h]
theorem Tt.of (h : m = .ok a) (p : P a) : Tt m P := by rw [h]; exact p
theorem Tt.imp (h : Tt m P) (g : ∀ a, P a → P' a) : Tt m P' := let ⟨a, e, h⟩ := h.ok; .of e (g a h)
theorem Tt.bind (h : Tt m P) (g : ∀ a, P a → Tt (f a) Q) : Tt (mb m f) Q := by
  obtain ⟨a, e, h⟩ := h.ok
  rw [mb_of e]
  exact g a h
theorem Tt.by (h : m = .ok a) (g : Tt (f a) Q) : Tt (mb m f) Q := by rw [mb_of h]; exact g
theorem Tt.ret (h : P a) : Tt (.ok a) P := h
theorem Tt.let (g : Tt (f a) Q) : Tt (mb (.ok a) f) Q := g
theorem Tt.chk {f : Unit → M β} {p : Prop} [Decidable p] (h : p) (g : Tt (f ()) Q) : Tt (mb (chk (decide p)) f) Q := by rw [mb_of (chk_of (decide_eq_true h))]; exact g
theorem Tt.oM (h : o = some a) (g : Tt (f a) Q) : Tt (mb (oM o) f) Q := by rw [mb_of (oM_of h)]; exact g
theorem Tt.if {m' : M α} (h : c = true → Tt m P) (h' : c = false → Tt m' P) : Tt (bif c then m else m') P := by
  cases c with
  | true => exact h rfl
  | false => exact h' rfl
theorem Tt.for {f : σ → α → M σ} {xs : List α} {s0 : σ} (I : List α → σ → Prop) (h0 : I [] s0) (h : ∀ pre x post s, xs = pre ++ x :: post → I pre s → Tt (f s x) (I (pre ++ [x]))) : Tt (mfor f s0 xs) (I xs) := by
  have go : ∀ (post pre : List α) (s : σ), xs = pre ++ post → I pre s → Tt (mfor f s post) (I xs) := by
    intro post
    induction post with
    | nil => intro pre s e hI; rw [e, List.append_nil]; exact hI
    | cons x post ih =>
      intro pre s e hI
      exact (h pre x post s e hI).bind fun s' h' => ih (pre ++ [x]) s' (by rw [e, List.append_assoc]; rfl) h'
  exact go xs [] s0 rfl h0
theorem atI_in {xs : List α} {i : Int} (h0 : 0 ≤ i) (h1 : i < xs.length) : ∃ x, atI xs i = some x ∧ xs[i.toNat]? = some x ∧ x ∈ xs := by
  have hl : i.toNat < xs.length := by omega
  exact ⟨xs[i.toNat], atI_pos h0 (List.getElem?_eq_getElem hl), List.getElem?_eq_getElem hl, List.getElem_mem hl⟩
theorem Tt.ix {xs : List α} {i : Int} {f : α → M β} (h0 : 0 ≤ i) (h1 : i < xs.length) (g : ∀ x, x ∈ xs → xs[i.toNat]? = some x → Tt (f x) Q) : Tt (mb (Gt.oM (atI xs i)) f) Q := by
  obtain ⟨x, e, e2, hx⟩ := atI_in h0 h1
  exact Tt.oM e (g x hx e2)
theorem cut_le (xs : List α) (lo hi : Option Int) : (cut xs lo hi).length ≤ xs.length := by
  unfold cut
  rw [List.length_take, List.length_drop]
  omega
theorem sIx_in {n d : Nat} {i : Int} (h0 : 0 ≤ i) (h1 : i ≤ n) : HT.sIx n d (some i) = i.toNat := by
  obtain ⟨k, rfl⟩ := Int.eq_ofNat_of_zero_le h0
  rw [HT.sIx_nat]
  show min k n = k
  omega
theorem cut_in {xs : List α} {lo hi : Int} (h0 : 0 ≤ lo) (h1 : lo ≤ hi) (h2 : hi ≤ xs.length) : cut xs (some lo) (some hi) = (xs.drop lo.toNat).take (hi - lo).toNat := by
  unfold cut
  rw [sIx_in h0 (by omega), sIx_in (by omega) h2]
  congr 1
  omega
theorem cut_len_in {xs : List α} {lo hi : Int} (h0 : 0 ≤ lo) (h1 : lo ≤ hi) (h2 : hi ≤ xs.length) : (cut xs (some lo) (some hi)).length = (hi - lo).toNat := by
  rw [cut_in h0 h1 h2, List.length_take, List.length_drop]
  omega
end
end
end Gt
namespace Gt
open PySem PySem.Spec PyProof.Rows L2 PySem.W PySem.Calls PySem.HandSPX
structure ExcT (prog : Program) (K : PySem.W.Frag) (mg : Str → Option Value) (x fld : Str) (C fI : Addr) : Prop where
  gC : mg x = some (.ref C)
  cls : ∃ nm q N bs bm sn sub ab col dd k0 k1 k2 k3 k5, K.lookup C = some (excClassObj nm q C N bs bm true sn sub ab col dd k0 k1 k2 k3 k5 "ValueError.__new__") ∧ refsVE bm = true
  sa : findIn K (.ref C) "__setattr__" = some (some (.builtin "object.__setattr__"))
  ga : findIn K (.ref C) "__getattribute__" = some (some (.builtin "BaseException.__getattribute__"))
  gg : findIn K (.ref C) "__getattr__" = some none
  no : findIn K (.ref C) fld = some none
  iC : findIn K (.ref C) "__init__" = some (some (.ref fI))
  tI : typeIn K (.ref fI) = some (.type "function")
  kC : keepIn K (.ref C) = true
  exC : subIn K (.ref C) (.type "BaseException") = some true
  tyC : typeIn K (.ref C) = some (.type "type")
  hdC : hasDictIn K C = true
  su : ks_superIn K C C "__init__" = some (some (.builtin "ValueError.__init__"))
  sB : subIn K (.ref C) (.type "ValueError") = some true
  sS : mroIn K C (.ref C) = some true
  op : nsIn K cStatics "thirdparty.any" = some none
  nS : mg "super" = none
  fn : ∃ (oc : Value) (od : Option Addr) (qual : Str) (params : Arguments) (body : List Stmt) (scope : Scope) (doc pm : Value) (an : Option Addr) (cda cc : Addr) (ct : Value) (osl : Array (Option Value)),
    K.lookup fI = some ⟨oc, od, .func (ksFn "__init__" qual params body scope .none .none doc pm an (.ref cda) ct cc), osl⟩ ∧ codeIn K (.ref cda) qual = true ∧
    (∃ cl cld csl, K.lookup cc = some ⟨cl, cld, .cell (some (.ref C)), csl⟩) ∧ (∃ cl cld vs file tf csl, K.lookup cda = some ⟨cl, cld, .fields vs, csl⟩ ∧ vs[2]? = some (.str file tf) ∧ ((prog.main.file : Str) == file) = true) ∧
    (prog.main.scope.names.lookup ("super" : Str)).isSome = false ∧
    (∃ msg j q0 q1 q2 q3 q4 q5 q6 q7 q8 q9, body = [.Expr (.Call (.Attribute (.Call (.Name "super" q0) [] [] q1) "__init__" q2) [.Constant (.str msg) j q3] [] q4) q5, .Assign [.Attribute (.Name "self" q6) fld q7] (.Name fld q8) q9] ∧
      (∀ L cd c2, ∃ pl : Sem Bool, eval (.Call (.Attribute (.Call (.Name "super" q0) [] [] q1) "__init__" q2) [.Constant (.str msg) j q3] [] q4) (ksEnv qual scope L fI cd c2) = (do
        let ov ← attributeBase (.Call (.Name "super" q0) [] [] q1) "__init__" (ksEnv qual scope L fI cd c2) (eval (.Call (.Name "super" q0) [] [] q1) (ksEnv qual scope L fI cd c2))
        standAt q2.atName
        let (f, first) ← holding [ov] (getMethod ov "__init__" pl)
        callWith q4 f first (backTo q4 (starEach [.Constant (.str msg) j q3] (ksEnv qual scope L fI cd c2))) [])) ∧
      (∀ L cd c2, swapsWith (.Call (.Attribute (.Call (.Name "super" q0) [] [] q1) "__init__" q2) [.Constant (.str msg) j q3] [] q4) none q5.line (ksEnv qual scope L fI cd c2) = pure false) ∧
      (∀ L cd c2, swapsWith (.Name fld q8) (some (.Attribute (.Name "self" q6) fld q7)) q9.line (ksEnv qual scope L fI cd c2) = pure false)) ∧
    (∃ ar, (params.posonlyargs ++ params.args).head? = some ar ∧ ar.arg = "self") ∧
    (∀ (s : Shared) (u v : Value), BindsTo s (ksFn "__init__" qual params body scope .none .none doc pm an (.ref cda) ct cc) ⟨[u, v], []⟩ [("self", u), (fld, v)]) ∧
    scope.kind = .function ∧ scope.isGenerator = false ∧ scope.isCoroutine = false ∧ scope.names.lookup ("self" : Str) = some .local ∧ scope.names.lookup fld = some .local ∧ scope.names.lookup ("super" : Str) = some .globalImplicit ∧
    scope.names.lookup ("__class__" : Str) = some .free ∧ (∀ y ∈ scope.names, y.2 ≠ .cell) ∧ (fld == ("self" : Str)) = false ∧ (fld == ("__debug__" : Str)) = false
structure XEnd (h h' : Heap) (x C dx : Addr) (fld : Str) (v : Value) : Prop where
  keep : ∀ b o, b ≠ x → h.get? b = some o → h'.get? b = some o
  obj : ∃ t1 : Addr, h'.get? x = some { cls := .ref C, dict := some dx, data := .fields #[.ref t1, .none, .none, .none, .bool false, .none] }
  dbig : h.objs.size ≤ dx
  dne : dx ≠ x
  ns : h'.Ns1 dx (fun y => if y = fld then some v else none)
theorem xbound {prog : Program} {w : World} {A : Around} {E : Value → Shared → Prop} {h : Heap} {g : Array GenState} {d : Drawn} {t : Nat} {os : OsState} {nm q : Str} {C N : Addr} {bs bm : List Value} {sn : List Str} {sub : List Value} {ab : Bool} {col : Option Bool} {dd : Option Addr} {k0 k1 k2 k3 k5 : Option Value}
    {u e t0 : Addr} {rest : List Value} {Q : Value → Shared → Prop} (hm : refsVE bm = true) (cC : h.get? C = some (excClassObj nm q C N bs bm true sn sub ab col dd k0 k1 k2 k3 k5 "ValueError.__new__")) (ce : h.get? e = some (excO C t0)) (cu : h.get? u = some (kxs_mw "ValueError.__init__" e)) (hz : rest.length ≤ sizeLine)
    (fin : ∀ h' t1, (∀ b o, b ≠ e → h.get? b = some o → h'.get? b = some o) → h'.get? e = some (excO C t1) → Q .none ⟨h', g, d, t, os⟩) : wpAny (model prog w) A (call (.ref u) rest) Q E ⟨h, g, d, t, os⟩ := by
  have FB := PySem.F.excBase_ValueError
  refine wpAny_call (codeAny_of_tree ?_); show wpAny _ A.in1 (callAny (.ref u) ⟨rest, []⟩) _ _ _; simp only [callAny]; refine wpAny_bind (wpAny_load cu ?_)
  have mw : (Value.type "method-wrapper" == Value.type "method" || Value.type "method-wrapper" == Value.type "builtin_function_or_method" || Value.type "method-wrapper" == Value.type "method-wrapper") = true := by decide
  simp only [kxs_mw, mw, if_true]; refine KFB.if_so (by decide) (wpAny_bind (check_bound_init FB.toExcCallFacts cC ce rfl (wpAny_bind (wpAny_pure (wpAny_pure ?_)))))
  refine ⟨plainId_quiet FB.init.plain _, codeAny_builtin FB.initEntry ?_⟩; rw [Around.under_plainId FB.init.plain _]
  exact exc_init_tree (cls := .ref C) (t0 := t0) (dv := none) (c2 := .none) (c3 := .none) (b4 := .bool false) ce hz fun h' k e' _ => fin h' _ k e'
section
variable {prog : Program} {w : World} {A : Around} {R : Result → Shared → Prop} {K : PySem.W.Frag} {mg : Str → Option Value} {x fld : Str} {C fI : Addr}
def Grd (mg : Str → Option Value) (h : Heap) : Prop := h.Ns mainGlobals mg ∧ ∃ mb, h.Ns builtinsNs mb ∧ ∀ x : Str, x ≠ "__name__" → mb x = bootBuiltins x
theorem xinit (T : ExcT prog K mg x fld C fI) {h : Heap} {g : Array GenState} {d : Drawn} {t : Nat} {os : OsState} {a t0 : Addr} {v : Value} (X : K.In h) (hlim : h.NoLimit) (G : Grd mg h) (ha : h.get? a = some (excO C t0)) (haC : a ≠ C) (hnx : K.lookup a = none) (hroom : A.depth < recursionLimit)
    (fin : ∀ h' tk dx, XEnd h h' a C dx fld v → R (.ok (.ret .none)) ⟨h', g, d, tk, os⟩) : codeAny (model prog w) A (.call (.ref fI) ⟨[.ref a, v], []⟩) R ⟨h, g, d, t, os⟩ := by
  obtain ⟨oc, od, qual, params, body, scope, doc, pm, an, cda, cc, ct, osl, hfn, hcd, ⟨cl, cld, csl, hcell⟩, ⟨cl2, cld2, vs, file, tf, csl2, hco, hvs, hfile⟩, htop, ⟨msg, j, q0, q1, q2, q3, q4, q5, q6, q7, q8, q9, eb, hev, hsw1, hsw2⟩, ⟨ar, har, hself⟩, hbind, sk, sg, sco, l1, l2, l3, l4, l5, l6, l7⟩ := T.fn
  obtain ⟨nm, q, N, bs, bm, sn, sub, ab, col, dd, k0, k1, k2, k3, k5, hC, hbm⟩ := T.cls
  obtain ⟨gG, mb, gB, gb⟩ := G
  have hcl : clsIn K C = some { name := nm, bases := bs, mro := .ref C :: bm, ns := N, qualname := q, hasDict := true, slotNames := sn, subclasses := sub, abstract := ab, collection := col, hasDel := false } := by unfold clsIn; rw [hC] <;> rfl
  refine ks_codeAny_call_defAt (binds := [("self", .ref a), (fld, v)]) hroom (X _ _ hfn) rfl hlim (codeRec_of X hcd) rfl (hbind _ _ _) l5 (fun y hy => ?_) (fun h1 ns1 ke1 => ?_) sco sg sk
  · rcases List.mem_cons.mp hy with e | hy
    · rw [e]; exact l1
    · cases List.mem_singleton.mp hy; exact l2
  have X1 := X.keeps ke1
  subst eb
  have a1 := ke1 _ _ ha
  have nsA : (fun y => ([("self", Value.ref a), (fld, v)] : List (Str × Value)).reverse.lookup y) "self" = some (.ref a) := by
    show List.lookup _ [(fld, v), ("self", Value.ref a)] = _
    rw [List.lookup_cons, show (("self" : Str) == fld) = false from by rw [Bool.eq_false_iff]; intro z; rw [← beq_iff_eq.mp z] at l6; simp at l6]
    simp [List.lookup]
  have nsB : (fun y => ([("self", Value.ref a), (fld, v)] : List (Str × Value)).reverse.lookup y) fld = some v := by
    show List.lookup _ [(fld, v), ("self", Value.ref a)] = _
    rw [List.lookup_cons, beq_self_eq_true]
  have envE : callEnv (ksFn "__init__" qual params [.Expr (.Call (.Attribute (.Call (.Name "super" q0) [] [] q1) "__init__" q2) [.Constant (.str msg) j q3] [] q4) q5, .Assign [.Attribute (.Name "self" q6) fld q7] (.Name fld q8) q9] scope .none .none doc pm an (.ref cda) ct cc) h.objs.size fI = ksEnv qual scope h.objs.size fI (.ref cda) cc := rfl
  rw [envE]
  have hi : interactive (ksEnv qual scope h.objs.size fI (.ref cda) cc) = false := by simp [interactive, sk]
  obtain ⟨pl, hpl⟩ := hev h.objs.size (.ref cda) cc
  refine ks_wpAt_execs_cons (ks_wpAt_Expr_any (ks_wpAt_MethodCall ?_ hpl) hi (hsw1 _ _ _))
  refine ks_wpAt_super_base (env := ksEnv qual scope h.objs.size fI (.ref cda) cc) l3 l4 (by decide) rfl (X1 _ _ hfn) rfl har rfl (X1 _ _ hco) rfl hvs hfile htop ?_
  have gG1 := gG.keeps ke1
  have gB1 := gB.keeps ke1
  refine ks_loadName_global sk l3 (loadGlobal_builtin (env := ksEnv qual scope h.objs.size fI (.ref cda) cc) gG1 T.nS gB1 ((gb _ (by decide)).trans (by decide +kernel)) ⟨rfl, ?_⟩)
  refine wpAny_loadName_free sk l4 rfl ⟨_, X1 _ _ hcell, rfl⟩ ?_
  refine wpAny_loadName_local sk (by rw [hself]; exact l1) ns1 (by rw [hself]; exact nsA) ?_
  refine ks_wpAny_isType_cls (X1 _ _ hC) rfl ⟨rfl, ?_⟩
  refine ks_wpAny_call_super (X1 _ _ hC) rfl a1 rfl (fun c z => nomatch z) (looks_mroIn X1 T.sS) (fun h2 so2 ke2 => ?_)
  have X2 := X1.keeps ke2
  have a2 := ke2 _ _ a1
  have su := T.su
  unfold ks_superIn at su
  rw [hcl] at su
  have hI : Looks (model prog w) h2 (isInstance (.ref a) (.type "ValueError")) true := (show Looks (model prog w) h2 (typeOf (.ref a)) (.ref C) from fun A Q E s k q => wpAny_typeOf_ref (k _ _ a2) q).andThen (looks_subIn X2 T.sB)
  refine kxs_getMethod kxs_ValueError so2 (looks_opaque X2 T.op) (l₀ := .ref C :: bm) ?_ rfl X2 su hI haC (by decide) ?_
  · exact fun A Q E s k q => wpAny_bind ((looks_clsIn X2 hcl) A _ E s k (wpAny_pure q))
  have ne2 : ∀ b o, h2.get? b = some o → b ≠ h2.objs.size := fun b o z => Nat.ne_of_lt (Heap.lt_size z)
  have ke3 : ∀ b o, h2.get? b = some o → (h2.push (kxs_mw "ValueError.__init__" a)).get? b = some o := fun b o z => Heap.get?_push_of_some _ z
  have a3 := ke3 _ _ a2
  have u3 : (h2.push (kxs_mw "ValueError.__init__" a)).get? h2.objs.size = some (kxs_mw "ValueError.__init__" a) := Heap.get?_push_at rfl rfl
  refine kxs_callWith (i := "ValueError.__init__") (x := a) rfl ?_
  rw [show starEach [Expr.Constant (Const.str msg) j q3] (ksEnv qual scope h.objs.size fI (Value.ref cda) cc) = (false, eval (Expr.Constant (Const.str msg) j q3) (ksEnv qual scope h.objs.size fI (Value.ref cda) cc)) :: starEach [] (ksEnv qual scope h.objs.size fI (Value.ref cda) cc) from rfl]
  refine evalArgs_plain ?_
  show wpAny _ _ (spliced (backTo q4 (starEach [Expr.Constant (Const.str msg) j q3] (ksEnv qual scope h.objs.size fI (Value.ref cda) cc)))) _ _ _
  refine spliced_more (Constant_str (pos := q3) (spliced_none ⟨u3, ?_⟩))
  refine xbound hbm (ke3 _ _ (X2 _ _ hC)) a3 u3 (by show 1 ≤ sizeLine; rw [sizeLine_eq]; decide) fun h4 t4 ke4 a4 => ?_
  have nL : h.objs.size ≠ a := Nat.ne_of_gt (Heap.lt_size ha)
  have ke04 : ∀ b o, b ≠ a → h.get? b = some o → h4.get? b = some o := fun b o nb z => ke4 b o nb (ke3 _ _ (ke2 _ _ (ke1 _ _ z)))
  have X4 : K.In h4 := fun b o z => ke04 b o (fun e => by
    rw [e, hnx] at z
    cases z) (X _ _ z)
  have ns4 : h4.Ns h.objs.size (fun y => ([("self", Value.ref a), (fld, v)] : List (Str × Value)).reverse.lookup y) := by
    obtain ⟨o, es, ep, z1, z2⟩ := ns1
    exact ⟨o, es, ep, ke4 _ _ nL (ke3 _ _ (ke2 _ _ z1)), z2⟩
  refine wpAt_of_wpAny (wpAny_execs_cons (plainObj_wpAny_Assign_Attribute ?_ (hsw2 _ _ _)))
  refine wpAny_Name (wpAny_loadName_local sk l2 ns4 nsB ?_) l7
  refine wpAny_Name (wpAny_loadName_local sk l1 ns4 nsA ?_) (by decide)
  refine set_plain X4 (ox := excO C t4) (od := none) ⟨a4, rfl, rfl, trivial⟩ T.sa ?_
  refine exc_osa X4 a4 hcl (show refsVE (.ref C :: bm) = true from hbm) rfl T.no (fun h5 tk5 dx ke5 dn dne x5 n5 => ?_)
  refine wpAny_execs_nil (fin h5 tk5 dx ⟨fun b o nb z => ke5 b o nb (ke04 b o nb z), ⟨t4, x5⟩, Nat.le_of_lt (Nat.lt_of_lt_of_le ns4.lt dn), dne, n5⟩)
structure XMade (h h' : Heap) (e C d : Addr) (fld : Str) (v : Value) : Prop where
  keep : ∀ b o, h.get? b = some o → h'.get? b = some o
  new : h.objs.size ≤ e
  obj : ∃ oe vs, h'.get? e = some oe ∧ oe.cls = .ref C ∧ oe.dict = some d ∧ oe.data = .fields vs ∧ vs[1]? = some .none ∧ vs[2]? = some .none
  dbig : h.objs.size ≤ d
  dne : d ≠ e
  ns : h'.Ns1 d (fun y => if y = fld then some v else none)
theorem xmade (T : ExcT prog K mg x fld C fI) {h : Heap} {g : Array GenState} {d : Drawn} {t : Nat} {os : OsState} {v : Value} (X : K.In h) (hlim : h.NoLimit) (G : Grd mg h) (hroom : A.depth + 1 < recursionLimit)
    (fin : ∀ h' tk e d', XMade h h' e C d' fld v → R (.ok (.ret (.ref e))) ⟨h', g, d, tk, os⟩) : codeAny (model prog w) A (.call (.ref C) ⟨[v], []⟩) R ⟨h, g, d, t, os⟩ := by
  obtain ⟨nm, q, N, bs, bm, sn, sub, ab, col, dd, k0, k1, k2, k3, k5, hC, hbm⟩ := T.cls
  let H2 : Heap := (h.push (kdv_tup [v])).push (excO C h.objs.size)
  have kp : ∀ b o, h.get? b = some o → H2.get? b = some o := fun b o z => Heap.get?_push_of_some _ (Heap.get?_push_of_some _ z)
  have at2 : H2.get? (h.objs.size + 1) = some (excO C h.objs.size) := by show ((h.push (kdv_tup [v])).push (excO C h.objs.size)).get? _ = _; heap_get
  have lt2 : ∀ {b : Addr} {o : Obj}, h.get? b = some o → b ≠ h.objs.size + 1 := fun z => Nat.ne_of_lt (Nat.lt_succ_of_lt (Heap.lt_size z))
  have nK : K.lookup (h.objs.size + 1) = none := by
    cases z : K.lookup (h.objs.size + 1) with
    | none => rfl
    | some o => exact absurd rfl (lt2 (X _ _ z))
  refine call_own PySem.F.excBase_ValueError (fun Y => refsVE_contains Y bm hbm) (X _ _ hC) (looks_findIn X T.iC) (fun self => bind_fn X self T.tI) (by show 1 ≤ sizeLine; rw [sizeLine_eq]; decide) ?_
  refine xinit (h := H2) T (X.keeps kp) (hlim.keeps kp) ⟨G.1.keeps kp, let ⟨mb, z1, z2⟩ := G.2; ⟨mb, z1.keeps kp, z2⟩⟩ at2 (lt2 (X _ _ hC)).symm nK (show A.depth + 1 < recursionLimit from hroom) fun h' tk dx E => ?_
  have big : h.objs.size ≤ H2.objs.size := by show h.objs.size ≤ ((h.push _).push _).objs.size; rw [Heap.size_push, Heap.size_push]; omega
  obtain ⟨t1, eo⟩ := E.obj
  exact ⟨rfl, fin h' tk (h.objs.size + 1) dx ⟨fun b o z => E.keep b o (lt2 z) (kp b o z), Nat.le_succ _, ⟨_, _, eo, rfl, rfl, rfl, rfl, rfl⟩, Nat.le_trans big E.dbig, E.dne, E.ns⟩⟩
end
section
variable {P : Program} {w : World} {K : PySem.W.Frag} {mg : Str → Option Value} {base : Heap}
theorem okXN {x qual : Str} {st : Stmt} {f : Addr} {fd : FuncData} {N ps : List Str} {k : Nat} {sp : Sp} (F : Fun K x qual st f fd) (S : FnScope N ps (defScope st)) (len : ∀ vs H Q E, sp vs H Q E → vs.length = ps.length)
    (hbody : ∀ (cdv : Value) (A : Around) (outer : List PySem.Env) (s : Shared) (H : Hp) (vs : List V) (Q : VK) (E : XK), Room k (A.deeper (envOfC qual (defScope st) s.heap.objs.size f cdv)) → sp vs H Q E →
      ∃ t, PSs (cxOf (L2N.CX P w) P w K mg base N qual (defScope st) f cdv A outer s H E) (defBody st) t ∧ t { nx := fun _ H' => Q .non H', rt := Q } (start N vs) H) : FnOk P w K mg base (L2N.CX P w) (k + 1) f fd ps sp := by
  obtain ⟨oc, od, kV, doc, pm, an, cdv, ct, osl, rfl, lk, hcd⟩ := F.ex
  exact fn_of lk hcd S len fun A outer s H vs Q E hr hsp => hbody cdv A outer s H vs Q E hr hsp
end
end Gt
namespace Gt
open PySem PySem.Spec PyProof.Rows L2 PySem.HandSPX
def calm {α : Type} (m : M α) : M α := match m with
  | .ok a => .ok a
  | .error _ => .error .stuck
def NStk {α : Type} (o : M α) : Prop := o ≠ .error .stuck
theorem mbx_ok {α β : Type} {a : α} {f : α → M β} {o : M β} (h : mb (.ok a) f = o) : ∃ b, a = b ∧ f b = o := ⟨a, rfl, h⟩
theorem mbx_chk {β : Type} {c : Bool} {f : Unit → M β} {o : M β} (h : mb (chk c) f = o) (n : NStk o) : c = true ∧ f () = o := by
  cases c with
  | false => exact absurd h.symm n
  | true => exact ⟨rfl, h⟩
theorem mbx_oM {α β : Type} {m : Option α} {f : α → M β} {o : M β} (h : mb (oM m) f = o) (n : NStk o) : ∃ a, m = some a ∧ f a = o := by
  cases m with
  | none => exact absurd h.symm n
  | some a => exact ⟨a, rfl, h⟩
theorem mbx_calm {α β : Type} {m : M α} {f : α → M β} {o : M β} (h : mb (calm m) f = o) (n : NStk o) : ∃ a, m = .ok a ∧ f a = o := by
  cases m with
  | ok a => exact ⟨a, rfl, h⟩
  | error e => exact absurd h.symm n
theorem mbx_to {α β : Type} {m : M α} {f : α → M β} {o : M β} {a : α} (h : mb m f = o) (e : m = .ok a) : f a = o := by rw [e] at h; exact h
theorem mbx_er {α β : Type} {m : M α} {f : α → M β} {o : M β} {e : Er} (h : mb m f = o) (q : m = .error e) : o = .error e := by rw [q] at h; exact h.symm
section
variable {K : PySem.W.Frag} {H0 H1 H H' : Hp} {σ : L2.St} {G G' G2 Gx : Cells K} {α β γ S T ρ : Type}
variable {D : Ends} {t u tb : TS} {wi : TI} {g : TG} {te ta tb' : TE} {tt tu : TT} {r : Rp α} {q : Rp β} {R : Rs K ρ} {a b c d : Bool}
def rMp (K : PySem.W.Frag) : Rp Md := fun H v m => match m with
  | .st i => rP K rS rI H v ("strike", i)
  | .cl i t => ∃ p vs, v = .ref p ∧ SqT K H p vs ∧ aC rS (aC rI (aC rS aN)) H vs ("close", i, t, ())
  | .fi h t => ∃ p vs, v = .ref p ∧ SqT K H p vs ∧ aC rS (aC rS (aC rS aN)) H vs ("fill", h, t, ())
instance : Frz K (rMp K) := ⟨fun {H H' v b} e h => match b, h with
  | .st i, h => Frz.up (K := K) (r := rP K rS rI) e h
  | .cl _ _, ⟨p, vs, ev, h, v1, w1, e1, h1, v2, w2, e2, h2, v3, w3, e3, h3, h4⟩ => ⟨p, vs, ev, e _ _ h, v1, w1, e1, Frz.up (K := K) (r := rS) e h1, v2, w2, e2, Frz.up (K := K) (r := rI) e h2, v3, w3, e3, Frz.up (K := K) (r := rS) e h3, h4⟩
  | .fi _ _, ⟨p, vs, ev, h, v1, w1, e1, h1, v2, w2, e2, h2, v3, w3, e3, h3, h4⟩ => ⟨p, vs, ev, e _ _ h, v1, w1, e1, Frz.up (K := K) (r := rS) e h1, v2, w2, e2, Frz.up (K := K) (r := rS) e h2, v3, w3, e3, Frz.up (K := K) (r := rS) e h3, h4⟩⟩
def rPay (K : PySem.W.Frag) : Rp Pay := fun H v p => match p with
  | .s o => rO rS H v o
  | .i n => rI H v n
  | .r x => rRu K H v x
  | .l xs => rT K (rO rS) H v xs
  | .t xs => rT K rS H v xs
  | .q x => rP K (rT K (rRu K)) (rT K (rRu K)) H v x
  | .z => True
  | .m x => rMp K H v x
  | .e x => ∃ a dx v1 v2 v3 v4, v = .ref a ∧ H a = some (.ins (cA K "Extension") dx [("name", v1), ("rules", v2), ("base", v3), ("owners", v4)]) ∧ Stb K rS H v1 x.1.1.1.2 ∧ Stb K (rT K (rRu K)) H v2 x.1.1.2 ∧ Stb K (rT K rS) H v4 x.2
instance : Mono (rPay K) := ⟨fun {H H' v b} e0 h => let e := ext_same (K := K) e0; match b, h with
  | .s o, h => Frz.up (K := K) (r := rO rS) e h
  | .i n, h => Frz.up (K := K) (r := rI) e h
  | .r x, h => Frz.up (K := K) (r := rRu K) e h
  | .l xs, h => Frz.up (K := K) (r := rT K (rO rS)) e h
  | .t xs, h => Frz.up (K := K) (r := rT K rS) e h
  | .q x, h => Frz.up (K := K) (r := rP K (rT K (rRu K)) (rT K (rRu K))) e h
  | .z, _ => trivial
  | .m x, h => Frz.up (K := K) (r := rMp K) e h
  | .e x, ⟨a, dx, v1, v2, v3, v4, ev, h0, h1, h2, h3⟩ => ⟨a, dx, v1, v2, v3, v4, ev, e0 _ _ h0, h1.up e, h2.up e, h3.up e⟩⟩
def rPayW (K : PySem.W.Frag) : Rp Pay := fun H v p => match p with
  | .s o => rO rS H v o
  | .i n => rI H v n
  | .r x => rRu K H v x
  | .l xs => rT K (rO rS) H v xs
  | .t xs => rT K rS H v xs
  | .q x => rP K (rT K (rRu K)) (rT K (rRu K)) H v x
  | .z => True
  | .m x => rMp K H v x
  | .e _ => True
instance : Frz K (rPayW K) := ⟨fun {H H' v b} e h => match b, h with
  | .s o, h => Frz.up (K := K) (r := rO rS) e h
  | .i n, h => Frz.up (K := K) (r := rI) e h
  | .r x, h => Frz.up (K := K) (r := rRu K) e h
  | .l xs, h => Frz.up (K := K) (r := rT K (rO rS)) e h
  | .t xs, h => Frz.up (K := K) (r := rT K rS) e h
  | .q x, h => Frz.up (K := K) (r := rP K (rT K (rRu K)) (rT K (rRu K))) e h
  | .z, _ => trivial
  | .m x, h => Frz.up (K := K) (r := rMp K) e h
  | .e _, _ => trivial⟩
instance : Mono (rPayW K) := ⟨fun e h => Frz.up (K := K) (ext_same e) h⟩
abbrev Fv (K : PySem.W.Frag) (H : Hp) (x : Str × V) (y : Str × Pay) : Prop := x.1 = y.1 ∧ rPay K H x.2 y.2
def XR (K : PySem.W.Frag) (H : Hp) (d : Addr) (fs : List (Str × Pay)) : Prop := ∃ vs, H d = some (.xd vs) ∧ A2 (Fv K H) vs fs
theorem XR.up {d : Addr} {fs : List (Str × Pay)} (h : XR K H d fs) (e : Same H H') : XR K H' d fs := let ⟨vs, h1, h2⟩ := h; ⟨vs, e _ _ h1, h2.imp fun _ _ z => ⟨z.1, Mono.up e z.2⟩⟩
def XOk (K : PySem.W.Frag) (H0 : Hp) (E : XK) : Er → Prop
  | .stuck => False
  | .ex x fs => ∀ d H', Same H0 H' → H0 d = none → XR K H' d fs → E (.ref (cA K x)) (some d) H'
theorem XOk.up {E : XK} {e : Er} (h : XOk K H0 E e) (s : Same H0 H1) : XOk K H1 E e := match e, h with
  | .ex _ _, h => fun d H' s' n z => h d H' (s.trans s') (s.free n) z
theorem nstk_of {o : M α} {E : XK} (h : ∀ e, o = .error e → XOk K H0 E e) : NStk o := fun e => h _ e
def spX (A : Ra α) (q : Rp β) (m : α → M β) : Sp := fun vs H Q E => ∃ a, A H vs a ∧ NStk (m a) ∧ (∀ b, m a = .ok b → ∀ v H', Same H H' → q H' v b → Q v H') ∧
  ∀ x fs, m a = .error (.ex x fs) → ∀ d H', Same H H' → H d = none → XR K H' d fs → E (.ref (cA K x)) (some d) H'
def spXN (A : Ra α) (R : Rs K β) (m : α → M β) : Sp := fun vs H Q E => ∃ a, A H vs a ∧ NStk (m a) ∧ (∀ b, m a = .ok b → ∀ v H' as, Same H H' → (∀ p, p ∈ as → H p = none) → R.rep H' v b as → Q v H') ∧
  ∀ x fs, m a = .error (.ex x fs) → ∀ d H', Same H H' → H d = none → XR K H' d fs → E (.ref (cA K x)) (some d) H'
theorem nstk_ok {m : M α} {a : α} (h : m = .ok a) : NStk m := fun z => by rw [h] at z; cases z
theorem a_callX {A : Ra γ} {g : γ} {m : γ → M β} {b : β} {E' : XK} {t : TA} (h : EvA A t G g) (e : MOk m g b) : Ev q (tCall (spX (K := K) A q m) [] E' t) G b := fun H0 σ H E Q k =>
  h H0 σ H E _ fun vs H1 e1 z1 => by
    rw [List.append_nil]
    exact ⟨g, z1, nstk_ok e, fun c hc v H2 e2 z2 => k v H2 (e1.trans e2) (by rw [show m g = .ok b from e] at hc; cases hc; exact z2), fun x fs z => by rw [show m g = .ok b from e] at z; cases z⟩
theorem a_ncallX {A : Ra γ} {g : γ} {m : γ → M ρ} {b : ρ} {E' : XK} {t : TA} (h : EvA A t G g) (e : MOk m g b) : Nw R (tCall (spXN A R m) [] E' t) G b := fun H0 σ H E Q k =>
  h H0 σ H E _ fun vs H1 e1 z1 => by
    rw [List.append_nil]
    exact ⟨g, z1, nstk_ok e, fun c hc v H2 as e2 hn z2 => k v H2 as (e1.trans e2) (fun p hp => free_back e1 (hn p hp)) (by rw [show m g = .ok b from e] at hc; cases hc; exact z2), fun x fs z => by rw [show m g = .ok b from e] at z; cases z⟩
def WOk (H0 : Hp) (G : Cells K) (W : WX) (o : M α) : Prop := NStk o ∧ ∀ x fs, o = .error (.ex x fs) → ∀ σ H H', Have H0 G σ H → Same H H' → ∀ d, H d = none → XR K H' d fs → W (.ref (cA K x)) (some d) σ H'
theorem wok_E {E : XK} {o : M α} (h : ∀ e, o = .error e → XOk K H0 E e) : WOk H0 G (fun cls d _ H => E cls d H) o := ⟨nstk_of h, fun x fs e σ H H' ⟨H1, s, E1⟩ s' d n z => h _ e d H' ((s.trans E1.old).trans s') ((s.trans E1.old).free n) z⟩
theorem l_dropX {W : WX} {A : Ra γ} {g : γ} {m : γ → M β} {t : TA} {o : M β} (h : EvA A t G g) (e : m g = o) (w : WOk H0 G W o) (k : ∀ b, o = .ok b → Nx H0 G D.nx) :
    Sv H0 G (tDrop (tCallS (spX (K := K) A q m) (WE W) t)) D := fun σ H ⟨H1, e1, E⟩ =>
  h H1 σ H E _ fun vs H2 e2 z => ⟨g, z, by rw [e]; exact w.1, fun b hb v H3 e3 hv => k b (e ▸ hb) _ _ ⟨H1, e1, (E.grow e2).grow e3⟩,
    fun x fs he d H3 e3 hn hx => w.2 x fs (e ▸ he) σ H2 H3 ⟨H1, e1, E.grow e2⟩ e3 d hn hx⟩
theorem q_dropX {W : WX} {A : Ra γ} {g : γ} {m : γ → M β} {t : TA} {o : M β} (h : EvA A t G g) (e : m g = o) (w : WOk H0 G W o) (k : ∀ b, o = .ok b → Sv H0 G u D) :
    Sv H0 G (tSeq (tDrop (tCallS (spX (K := K) A q m) (WE W) t)) u) D := l_dropX (D := { D with nx := u D }) h e w k
def tMkX (C : Addr) (f : Str) (ta : TA) : L2.St → Hp → XK → Prop := fun σ H Q => ta σ H fun vs H1 => ∃ v, vs = [v] ∧ ∀ d, H1 d = none → Q (.ref C) (some d) (upd H1 d (.xd [(f, v)]))
theorem l_raise {x f : Str} {p : Pay} {tv : TE} {W : WX} (h : Ev (rPay K) tv G p) (w : ∀ σ H H', Have H0 G σ H → Same H H' → ∀ d, H d = none → XR K H' d [(f, p)] → W (.ref (cA K x)) (some d) σ H') :
    Sv H0 G (fun _ σ H => tMkX (cA K x) f (tCons tv tNil) σ H fun cls d H' => W cls d σ H') D := fun σ H ⟨H1, e1, E⟩ =>
  h H1 σ H E _ fun v H2 e2 z => ⟨v, rfl, fun d hd => w σ H2 _ ⟨H1, e1, E.grow e2⟩ (same_new hd) d hd ⟨_, upd_same, .one ⟨rfl, Mono.up (same_new hd) z⟩⟩⟩
theorem w_of {E : XK} {x : Str} {fs : List (Str × Pay)} (h : XOk K H0 E (.ex x fs)) : ∀ σ H H', Have H0 G σ H → Same H H' → ∀ d, H d = none → XR K H' d fs → (fun cls d (_ : L2.St) H => E cls d H) (.ref (cA K x)) (some d) σ H' := fun σ H H' ⟨H1, s, E1⟩ s' d n z => h d H' ((s.trans E1.old).trans s') ((s.trans E1.old).free n) z
theorem ev_pS {s : Str} (h : Ev rS te G s) : Ev (rPay K) te G (.s (some s)) := h.imp fun _ _ z => z
theorem ev_pR {x : Rule} (h : Ev (rRu K) te G x) : Ev (rPay K) te G (.r x) := h.imp fun _ _ z => z
theorem l_forX {f : S → α → M S} {xs : List α} {s0 : S} {o : M S} {E : XK} (st : S → Cells K) (hm : mfor f s0 xs = o) (hw : Wk wi r G G' xs) (h0 : Sub G' (st s0))
    (hn : ∀ s, o = .ok s → Nx H0 (st s) D.nx) (hX : ∀ e, o = .error e → XOk K H0 E e)
    (body : ∀ H0' D', Same H0 H0' → ∀ x s o', f s x = o' → (∀ s', o' = .ok s' → Nx H0' (st s') D'.nx) → (∀ e, o' = .error e → XOk K H0' E e) → ∃ Gx, Tg g r x (st s) Gx ∧ Sv H0' Gx tb D') : Sv H0 G (tFor wi g tb) D :=
  l_forI st (fun pre s => ∀ ys, xs = pre ++ ys → mfor f s ys = o) s0 hw h0 (fun ys e => by rw [e] at hm; exact hm) (fun H0' e pre x post s hx hI => by
    have h1 : mb (f s x) (fun s' => mfor f s' post) = o := hI _ hx
    refine body H0' _ e x s (f s x) rfl (fun s' es => fun σ H hv => ⟨s', fun ys ey => ?_, hv⟩) fun er ee => (hX er (mbx_er h1 ee)).up e
    have key : ys = post := by
      have e3 := hx.symm.trans ey
      rw [List.append_assoc] at e3
      have := List.append_cancel_left e3
      injection this with _ this
      exact this.symm
    rw [key]
    have q := mbx_to h1 es
    exact q) fun s hs => hn s (by
      have := hs [] (by rw [List.append_nil])
      exact this.symm)
theorem q_forX {f : S → α → M S} {xs : List α} {s0 : S} {o : M S} {E : XK} (st : S → Cells K) (hm : mfor f s0 xs = o) (hw : Wk wi r G G' xs) (h0 : Sub G' (st s0))
    (hn : ∀ s, o = .ok s → Sv H0 (st s) u D) (hX : ∀ e, o = .error e → XOk K H0 E e)
    (body : ∀ H0' D', Same H0 H0' → ∀ x s o', f s x = o' → (∀ s', o' = .ok s' → Nx H0' (st s') D'.nx) → (∀ e, o' = .error e → XOk K H0' E e) → ∃ Gx, Tg g r x (st s) Gx ∧ Sv H0' Gx tb D') : Sv H0 G (tSeq (tFor wi g tb) u) D := l_forX (D := { D with nx := u D }) st hm hw h0 hn hX body
def XRW (K : PySem.W.Frag) (H : Hp) (d : Addr) (fs : List (Str × Pay)) : Prop := ∃ vs, H d = some (.xd vs) ∧ A2 (fun (x : Str × V) (y : Str × Pay) => x.1 = y.1 ∧ rPayW K H x.2 y.2) vs fs
theorem XRW.up {d : Addr} {fs : List (Str × Pay)} (h : XRW K H d fs) (e : Same H H') : XRW K H' d fs := let ⟨vs, h1, h2⟩ := h; ⟨vs, e _ _ h1, h2.imp fun _ _ z => ⟨z.1, Mono.up e z.2⟩⟩
theorem xrw_get {fs : List (Str × Pay)} {vs : List (Str × V)} {f : Str} {p : Pay} (z : A2 (fun (x : Str × V) (y : Str × Pay) => x.1 = y.1 ∧ rPayW K H x.2 y.2) vs fs) (h : fs.lookup f = some p) : ∃ v, vs.lookup f = some v ∧ rPayW K H v p := by
  induction z with
  | nil => cases h
  | @cons a b as bs h1 h2 ih =>
    obtain ⟨a1, a2⟩ := a
    obtain ⟨b1, b2⟩ := b
    obtain ⟨e1, e2⟩ := h1
    have e1 : a1 = b1 := e1
    subst e1
    rw [List.lookup_cons] at h ⊢
    cases q : f == a1 with
    | true =>
      rw [q] at h
      cases h
      exact ⟨a2, rfl, e2⟩
    | false =>
      rw [q] at h
      exact ih h
def rExc (K : PySem.W.Frag) (a d : Addr) : Rp (List (Str × Pay)) := fun H v fs => v = .ref a ∧ XRW K H d fs
instance {a d : Addr} : Mono (rExc K a d) := ⟨fun e h => ⟨h.1, h.2.up e⟩⟩
def payS (fs : List (Str × Pay)) (f : Str) : Option Str := match fs.lookup f with
  | some (.s (some s)) => some s
  | _ => none
def payO (fs : List (Str × Pay)) (f : Str) : Option (Option Str) := match fs.lookup f with
  | some (.s s) => some s
  | _ => none
def payI (fs : List (Str × Pay)) (f : Str) : Option Int := match fs.lookup f with
  | some (.i n) => some n
  | _ => none
theorem a_xf {i : Nat} {a d C : Addr} {m : Mono (rExc K a d)} {fs : List (Str × Pay)} {f : Str} {p : Pay} (h : G[i]? = some (some (.ro (rExc K a d) m fs))) (hf : fs.lookup f = some p) : Ev (rPayW K) (tXf a (.ref C) (some d) C f (tVar i)) G p := fun H0 σ H E Q k => by
  obtain ⟨own, _, _, h3⟩ := E.at_
  obtain ⟨v, hv, _, ev, vs, hd, z⟩ := h3 i _ h
  subst ev
  obtain ⟨w, hw, hp⟩ := xrw_get z hf
  exact ⟨_, hv, rfl, rfl, d, vs, w, rfl, E.old _ _ hd, hw, k w H (Same.refl H) (Mono.up E.old hp)⟩
def PayS (fs : List (Str × Pay)) (f : Str) (s : Str) : Prop := payS fs f = some s
def PayO (fs : List (Str × Pay)) (f : Str) (s : Option Str) : Prop := payO fs f = some s
def PayI (fs : List (Str × Pay)) (f : Str) (s : Int) : Prop := payI fs f = some s
theorem a_xfS {i : Nat} {a d C : Addr} {m : Mono (rExc K a d)} {fs : List (Str × Pay)} {f s : Str} (h : G[i]? = some (some (.ro (rExc K a d) m fs))) (hf : PayS fs f s) : Ev rS (tXf a (.ref C) (some d) C f (tVar i)) G s := by
  unfold PayS payS at hf
  split at hf
  · rename_i t e
    cases hf
    exact (a_xf h e).imp fun _ _ z => z
  · cases hf
theorem a_xfO {i : Nat} {a d C : Addr} {m : Mono (rExc K a d)} {fs : List (Str × Pay)} {f : Str} {s : Option Str} (h : G[i]? = some (some (.ro (rExc K a d) m fs))) (hf : PayO fs f s) : Ev (rO rS) (tXf a (.ref C) (some d) C f (tVar i)) G s := by
  unfold PayO payO at hf
  split at hf
  · rename_i t e
    cases hf
    exact (a_xf h e).imp fun _ _ z => z
  · cases hf
theorem a_xfI {i : Nat} {a d C : Addr} {m : Mono (rExc K a d)} {fs : List (Str × Pay)} {f : Str} {s : Int} (h : G[i]? = some (some (.ro (rExc K a d) m fs))) (hf : PayI fs f s) : Ev rI (tXf a (.ref C) (some d) C f (tVar i)) G s := by
  unfold PayI payI at hf
  split at hf
  · rename_i t e
    cases hf
    exact (a_xf h e).imp fun _ _ z => z
  · cases hf
end
section
variable {X : Cx} {x : Str} {k : Nat} {ps : List Str} {sp : Sp} {p pos : Pos} {e : Expr} {es : List Expr} {ta : TA} {W : WX}
structure ExcK (prog : Program) (K : PySem.W.Frag) (mg : Str → Option Value) (x fld : Str) : Prop where
  ex : ∃ fI, ExcT prog K mg x fld (cA K x) fI
theorem pmk_ex {fld : Str} (T : ExcK X.prog X.K X.mg x fld) (hr : Room k X.A) (ha : PA X [e] ta) (hg : Gl X x := by rfl) (hdb : (x == ("__debug__" : Str)) = false := by decide)
    (he : starEach (e :: []) X.env = (false, eval e X.env) :: starEach [] X.env := by rfl) (hpl : (backTo pos (starEach [] X.env)).any (·.1) = false := by rfl) : L2N.PMk X (.Call (.Name x p) [e] [] pos) (tMkX (cA X.K x) fld ta) := by
  obtain ⟨fI, T⟩ := T.ex
  intro pins s σ H Q I h
  refine wpAny_Call_Name_kw (ld_glob I hg T.gC ?_ hdb)
  refine PySem.W.callWith_K (h₀ := X.base) I.ok.mod.kin T.kC (thn (ha.run pos pins s σ H _ I h) fun us s1 hh => ?_) he hpl
  obtain ⟨vs, H1, I1, r1, v, ev, q1⟩ := hh
  subst ev
  refine ⟨I1.kIn, ?_⟩
  obtain ⟨u, rfl, rv⟩ := r1.one
  show wpAny _ _ (call (.ref (cA X.K x)) [u]) _ _ _
  have hlim := I1.nolimit
  have G1 : Grd X.mg s1.heap := ⟨I1.ok.mod.glob.keeps I1.bk, let ⟨mb, z1, z2⟩ := I1.ok.mod.blt; ⟨mb, z1.keeps I1.bk, z2⟩⟩
  obtain ⟨hp, g, d, t, os⟩ := s1
  refine wpAny_call (xmade T I1.kIn hlim G1 (by have := hr.dp; omega) fun h' tk' e d' M => ?_)
  show L2N.MkP X pins σ Q (.ref e) ⟨h', g, d, tk', os⟩
  obtain ⟨oe, fv, hoe, hc, hd, hdat, h1, h2⟩ := M.obj
  obtain ⟨G', g1, g2⟩ := restrict h' fun b => decide (b ≠ e)
  have gk : ∀ b, b ≠ e → G'.get? b = h'.get? b := fun b hb => g1 b (decide_eq_true hb)
  have ge : G'.get? e = none := g2 e (by simp)
  have ne_ : ∀ {b : Addr} {o : Obj}, hp.get? b = some o → b ≠ e := fun q => Nat.ne_of_lt (Nat.lt_of_lt_of_le (Heap.lt_size q) M.new)
  have old : ∀ b o, hp.get? b = some o → G'.get? b = some o := fun b o q => (gk b (ne_ q)).trans (M.keep b o q)
  have ob : ObjOk X.prog X.w (upd H1 d' (.xd [(fld, v)])) G' d' (.xd [(fld, v)]) := ⟨_, M.ns.at (fun o q => (gk d' M.dne).trans q), fun f => by
    by_cases hw : f = fld
    · subst hw
      rw [if_pos rfl, List.lookup_cons, beq_self_eq_true]
      exact rv
    · rw [if_neg hw, List.lookup_cons, show (f == fld) = false from by simpa using hw]
      trivial⟩
  have J : L2.Inv X pins σ (upd H1 d' (.xd [(fld, v)])) ⟨G', g, d, tk', os⟩ := I1.laid (t' := tk') old M.dbig ob
  refine ⟨e, oe, fv, ⟨G', g, d, tk', os⟩, _, .ref (cA X.K x), some d', rfl, J, fun b o q => ?_, ge, hoe, ⟨hc, hd, fun vs e => by rw [hdat] at e; cases e; exact h2⟩, hdat, h1, ?_, rfl, I1.bare, raises_own T.exC T.tyC, q1 d' (I1.hok.fresh M.dbig)⟩
  · by_cases hb : b = e
    · have q' : G'.get? b = some o := q
      rw [hb, ge] at q'
      cases q'
    · exact (gk b hb).symm.trans q
  · rw [upd_ne (Ne.symm M.dne)]
    exact I1.hok.fresh M.new
theorem pe_fnS (C : Cal X.prog X.w X.K X.mg X.base (L2N.CX X.prog X.w) x k ps sp) (hr : Room k X.A) (tk : L2N.Takes X W) (ha : PA X (e :: es) ta) (hg : Gl X x := by rfl) (hdb : (x == ("__debug__" : Str)) = false := by decide)
    (he : starEach (e :: es) X.env = (false, eval e X.env) :: starEach es X.env := by rfl) (hpl : (backTo pos (starEach es X.env)).any (·.1) = false := by rfl) : PE X (.Call (.Name x p) (e :: es) [] pos) (tCallS sp (WE W) ta) := by
  obtain ⟨f, fd, F, m, kp, b⟩ := C.ex
  exact pe_callS F hr hg m kp b (fun σ => L2N.passAt tk σ) ha hdb he hpl
end
section
variable {P : Program} {w : World} {K : PySem.W.Frag} {mg : Str → Option Value} {base : Heap}
theorem calX_of {x : Str} {st : Stmt} {N ps : List Str} {k : Nat} {sp : Sp} (F : Df K mg x st) (S : FnScope N ps (defScope st)) (len : ∀ vs H Q E, sp vs H Q E → vs.length = ps.length)
    (hb : ∀ (kV doc pm : Value) (an : Option Addr) (cdv ct : Value) (us : List Value), us.length = ps.length → bindArgs (PySem.W.fnOf x x (defArgs st) (defBody st) (defScope st) .none kV doc pm an cdv ct) ⟨us, []⟩ = pure (ps.zip us))
    (hbody : ∀ (cdv : Value) (f : Addr) (A : Around) (outer : List PySem.Env) (s : Shared) (H : Hp) (vs : List V) (Q : VK) (E : XK), Room k (A.deeper (envOfC x (defScope st) s.heap.objs.size f cdv)) → sp vs H Q E →
      ∃ t, PSs (cxOf (L2N.CX P w) P w K mg base N x (defScope st) f cdv A outer s H E) (defBody st) t ∧ t { nx := fun _ H' => Q .non H', rt := Q } (start N vs) H) : Cal P w K mg base (L2N.CX P w) x (k + 1) ps sp := by
  obtain ⟨f, fd, F, g⟩ := F.ex
  exact ⟨f, fd, okXN F S len (fun cdv A outer s H vs Q E hr h => hbody cdv f A outer s H vs Q E hr h), g, F.kp, F.binds hb⟩
end
end Gt
namespace PySem.W
open PySem PySem.Spec PySem.Calls PyProof.Rows
section
variable {prog : Program} {w : World} {A : Around} {E : Value → Shared → Prop} {s : Shared} {K : Frag} {x D : Addr} {ox : Obj} {od : Option Obj}
theorem gx_find {C : Addr} {n : Str} {a g : Value} (h1 : (clsIn K C).isSome = true) (h2 : findIn K (.ref C) n = some (some a)) (h3 : specialIn K a "__get__" = some (some g)) (h4 : takesIn K a = some true) : findObj K C od n = some (.bind g a) := by
  obtain ⟨cd, q⟩ := Option.isSome_iff_exists.mp h1
  unfold findObj; rw [q, Option.bind_some, h2, Option.bind_some]; simp [h3, h4]
theorem gx_class {Q : Option Value → Shared → Prop} (h1 : findIn K (.ref D) "__getattribute__" = some (some (.builtin "BaseException.__getattribute__"))) (h2 : findIn K (.ref D) "__getattr__" = some none) (h3 : subIn K (.ref D) (.type "BaseException") = some true)
    (h4 : hasDictIn K D = true) (h5 : findIn K (.ref D) "__class__" = some (some (.builtin "object.__class__"))) (h6 : specialIn K (.builtin "object.__class__") "__get__" = some (some (.builtin "getset_descriptor.__get__")))
    (h7 : takesIn K (.builtin "object.__class__") = some true) (h8 : mroIn K D (.type "object") = some true) (X : K.In s.heap) (I : InstAt s.heap x ox D od) (fin : Q (some (.ref D)) { s with toks := s.toks + 1 }) : wpAny (model prog w) A (getAttr? (.ref x) "__class__") Q E s := by
  have fo : findObj K D od "__class__" = some (.bind (.builtin "getset_descriptor.__get__") (.builtin "object.__class__")) := gx_find (by obtain ⟨cd, hc, _⟩ := any_some h4; rw [hc]; rfl) h5 h6 h7
  obtain ⟨hp, g, d, t, os⟩ := s
  have Lt := I.type (M := model prog w); have La := looks_findIn (M := model prog w) X h1; have Lb := looks_findIn (M := model prog w) X h2; have Lc := looks_find (M := model prog w) X I fo
  have sb : Looks (model prog w) hp (isInstance (.ref x) (.type "BaseException")) true := Lt.andThen (looks_subIn X h3)
  have z2 : (Value.builtin "BaseException.__getattribute__" == Value.builtin "object.__getattribute__") = false := by decide +kernel
  have z1 : (onTheHeap (Value.ref D) && Value.builtin "BaseException.__getattribute__" == Value.builtin "object.__getattribute__") = false := by rw [z2]; rfl
  unfold getAttr? getAttrBy? getAttrBy; refine wpAny_bind (wpAny_mkText (wpAny_bind (wpAny_attempt (wpAny_holding (wpAny_bind (Lt.at (wpAny_bind (La.at ?_))))))))
  show wpAny _ _ (if (onTheHeap (Value.ref D) && Value.builtin "BaseException.__getattribute__" == Value.builtin "object.__getattribute__") = true then _ else _) _ _ _; rw [z1, if_neg Bool.false_ne_true]
  unfold getAttrByItsOwn hookBefore; refine wpAny_bind ?_; rw [if_pos (show onTheHeap (Value.ref D) = true from rfl)]
  refine Lb.at (wpAny_bind (wpAny_attempt (wpAny_holding ?_))); unfold callGetattribute; rw [show (false && onTheHeap (Value.builtin "BaseException.__getattribute__")) = false from rfl, if_neg Bool.false_ne_true]
  unfold boundAndCalled; rw [PySem.F.excAttr_ValueError.ga.bind (.ref x)]; refine wpAny_bind (wpAny_pure ?_); show wpAny _ _ (call (.builtin "BaseException.__getattribute__") [.ref x, .str "__class__" t]) _ _ _
  refine wpAny_call (codeAny_call_builtin PySem.F.excAttr_ValueError.ga.plain PySem.F.entry_bexc_ga (@check_slot (model prog w) _ _ ⟨hp, g, d, t + 1, os⟩ "BaseException.__getattribute__" "BaseException" "__getattribute__" (.ref x) [.str "__class__" t] [] _ (by decide +kernel) (by decide +kernel) sb (PySem.F.args_bexc_ga (.ref x) (.str "__class__" t)) ?_))
  unfold Builtin.«object.__getattribute__»; refine wpAny_bind (wpAny_of_eq (a := ((Value.ref x : Value), [Value.str "__class__" t])) (by first | rfl | (simp only [slotArgs]; rfl)) (wpAny_bind (wpAny_pure (wpAny_bind (Lt.at (wpAny_bind (Lc.at ?_)))))))
  show wpAny _ _ (holding [Value.builtin "object.__class__"] (call (.builtin "getset_descriptor.__get__") [.builtin "object.__class__", .ref x, .ref D]) >>= ret) _ _ _; refine wpAny_bind (wpAny_holding (wpAny_call (class_get (s := ⟨hp, g, d, t + 1, os⟩) (ox := ox) (od := od) X I h8 (wpAny_pure ?_))))
  show wpAny _ _ (handedOut (.ref D)) _ _ _; rw [handedOut_of (v := .ref D) rfl]
  first | exact wpAny_pure (wpAny_pure fin) | exact wpAny_pure fin | exact wpAny_pure (wpAny_bind (wpAny_pure (wpAny_pure fin)))
theorem gx_kit (h1 : findIn K (.ref D) "__getattribute__" = some (some (.builtin "BaseException.__getattribute__"))) (h2 : findIn K (.ref D) "__getattr__" = some none) (h3 : subIn K (.ref D) (.type "BaseException") = some true) (h4 : hasDictIn K D = true) (h5 : findIn K (.ref D) "__class__" = some (some (.builtin "object.__class__")))
    (h6 : specialIn K (.builtin "object.__class__") "__get__" = some (some (.builtin "getset_descriptor.__get__"))) (h7 : takesIn K (.builtin "object.__class__") = some true) (h8 : mroIn K D (.type "object") = some true) : KitX K (.ref x) (.ref D) (fun h => ∃ od, InstAt h x ox D od) where
  ty := fun _ _ _ ⟨_, I⟩ => I.type
  it := fun _ _ X _ => by
    obtain ⟨c1, q1, _⟩ := any_some h4; unfold clsIn at q1; split at q1
    · rename_i c' d' cd' sl' ho; intro A' Q' E' s' k q; unfold isType loadHead; exact wpAny_bind (wpAny_loadPart (k _ _ (X _ _ ho)) (wpAny_pure q))
    · cases q1
  ne := fun h tp dd its n sl X htp => by
    obtain ⟨c1, q1, _⟩ := any_some h4; refine Bool.eq_false_iff.mpr fun q => ?_; have e : D = tp := Value.ref.inj (beq_iff_eq.mp q); subst e; unfold clsIn at q1; split at q1
    · rename_i c' d' cd' sl' ho; have z := (X _ _ ho).symm.trans htp; cases z
    · cases q1
  ca := fun X ⟨_, I⟩ k => gx_class h1 h2 h3 h4 h5 h6 h7 h8 X I k
end
end PySem.W
namespace Gt
open PySem PySem.Spec PyProof.Rows L2
section
open PySem PySem.Spec PyProof.Rows L2 PySem.HandSPX
structure IsX (K : PySem.W.Frag) (x : Str) (v : V) (b : Bool) : Prop where
  c : ExcC K (cA K x)
  k : ∃ cv, (∀ u, RelV v u → u = cv) ∧ PySem.W.kitOne K (.ref (cA K x)) cv = some b
def rIsX (K : PySem.W.Frag) (a : Addr) (cls : Value) (d : Option Addr) : List V → Hp → VK → Prop := fun xs H Q => ∃ (x : Str) (v : V) (b : Bool) (dd : Addr) (fs : List (Str × V)), cls = .ref (cA K x) ∧ xs = [.ref a, v] ∧ IsX K x v b ∧ d = some dd ∧ H dd = some (.xd fs) ∧ Q (.bl b) H
theorem call_isX {X : Cx} {a : Addr} {cls : Value} {d : Option Addr} {oe : Obj} {pn : List (Addr × Obj)} (hz : L2N.Zn cls d oe) (hf : ∃ vs, oe.data = .fields vs) : CallR (X.suite a ((a, oe) :: pn)) (.builtin "isinstance") (rIsX X.K a cls d) := by
  intro pins s σ H xs us Q I r h
  obtain ⟨x, v, b, dd, fs, ec, rfl, ⟨C, cv, hcv, e⟩, ed, hd, q⟩ := h
  subst ec; subst ed
  cases r with
  | cons rx rr =>
    cases rr with
    | cons rt rr =>
    cases rr
    cases rx
    have eu := hcv _ rt
    subst eu
    obtain ⟨hget, _⟩ := I.pin (a, oe) (List.mem_append.mpr (.inl List.mem_cons_self))
    obtain ⟨vs, hv⟩ := hf
    have hx : ObjOk X.prog X.w H s.heap dd (.xd fs) := I.hok dd _ hd
    obtain ⟨mA, hns, hr⟩ := hx
    obtain ⟨od, ho, hl⟩ := lookIn_ns hns
    have J : PySem.W.InstAt s.heap a oe (cA X.K x) (some od) := ⟨hget, hz.1, by unfold PySem.W.notCls; rw [hv] <;> rfl, by rw [hz.2.1]; exact ho⟩
    exact PySem.W.kia_one (PySem.W.gx_kit C.hg C.hk C.hs C.hd C.ha C.hn C.ht C.hm) I.kIn ⟨_, J⟩ e (fun z => nomatch z) fun tk => ⟨.bl b, H, I.kept (t' := tk) fun _ _ z => z, rfl, q⟩
theorem k_isX {X : Cx} (K : PySem.W.Frag) {a : Addr} {cls : Value} {d : Option Addr} {oe : Obj} {pn : List (Addr × Obj)} (hz : L2N.Zn cls d oe) (hf : ∃ vs, oe.data = .fields vs) (h : X.K = K := by rfl) : CallR (X.suite a ((a, oe) :: pn)) (.builtin "isinstance") (rIsX K a cls d) := by subst h; exact call_isX hz hf
theorem pe_xfK {X : Cx} (K : PySem.W.Frag) {a C : Addr} {oe : Obj} {cls : Value} {d : Option Addr} {pn : List (Addr × Obj)} {e : Expr} {te : TE} {pos : Pos} {n : Str} (T : XfC X.K C) (hno : PySem.W.findIn X.K (.ref C) n = some none)
    (hz : L2N.Zn cls d oe) (hf : ∃ vs, oe.data = .fields vs) (he : PE (X.suite a ((a, oe) :: pn)) e te) (hb : attributeBase e n X.env (eval e X.env) = eval e X.env := by rfl) : PE (X.suite a ((a, oe) :: pn)) (.Attribute e n pos) (tXf a cls d C n te) := pe_xf T hno hz.zc hf he hb
section
variable {K : PySem.W.Frag} {H0 H1 H H' : Hp} {σ : L2.St} {G G' G2 Gx : Cells K} {α β γ S T ρ : Type}
variable {D : Ends} {t u tb : TS} {te ta tc : TE} {r : Rp α} {q : Rp β} {R : Rs K ρ} {b : Bool}
theorem a_isX {i : Nat} {a d : Addr} {m : Mono (rExc K a d)} {fs : List (Str × Pay)} {x : Str} {v : V} (h : G[i]? = some (some (.ro (rExc K a d) m fs))) (I : IsX K x v b) : Ev rB (tCB (rIsX K a (.ref (cA K x)) (some d)) (tCons (tVar i) (tCons (tC v) tNil))) G b := fun H0 σ H E Q k => by
  obtain ⟨own, _, _, h3⟩ := E.at_
  obtain ⟨w, hw, _, ev, vs, hd, z⟩ := h3 i _ h
  subst ev
  exact ⟨_, hw, x, v, b, d, vs, rfl, rfl, I, rfl, E.old _ _ hd, k _ H (Same.refl H) rfl⟩
theorem q_joinX {m : M S} (st : S → Cells K) (hn : ∀ s, m = .ok s → Sv H0 (st s) u D) (k : (∀ s, m = .ok s → Nx H0 (st s) (u D)) → Sv H0 G (tSeq t u) D) : Sv H0 G (tSeq t u) D := k hn
end
end
section
def rOneA (K : PySem.W.Frag) (C : Addr) (f : Str) {β : Type} (r : Rp β) (p : Addr) : Rp (List β) := fun H v xs => v = .ref p ∧ rOne K C f r H v xs
instance {K : PySem.W.Frag} {C p : Addr} {f : Str} {β : Type} {r : Rp β} [M : Mono r] : Mono (rOneA K C f r p) := ⟨fun e h => ⟨h.1, Mono.up e h.2⟩⟩
def nOneA (K : PySem.W.Frag) (C : Addr) (f : Str) {β : Type} (r : Rp β) (p : Addr) : Rs K (List β) where
  rep := fun H v xs as => v = .ref p ∧ (nOne K C f r).rep H v xs as
  stay := fun h x k => ⟨h.1, (nOne K C f r).stay h.2 x k⟩
  there := fun h p hp => (nOne K C f r).there h.2 p hp
section
variable {K : PySem.W.Frag} {H0 H1 H H' : Hp} {σ : L2.St} {G G' G2 Gx : Cells K} {α β γ S T ρ : Type}
variable {D : Ends} {t u tb : TS} {te ta ti tc : TE} {r : Rp β} {C p : Addr} {f : Str} {xs b : List β}
theorem a_roA {i : Nat} {M : Mono (rOneA K C f r p)} (h : G[i]? = some (some (.ro (rOneA K C f r p) M xs))) : Ev (rOne K C f r) (tVar i) G xs := (a_ro h).imp fun _ _ z => z.2
theorem a_oneA {i : Nat} (h : G[i]? = some (some (.ow (nOneA K C f r p) xs))) : Ev (rOne K C f r) (tVar i) G xs := fun H0 σ H E Q k => by
  obtain ⟨own, _, _, h3⟩ := E.at_
  obtain ⟨v, hv, _, ⟨a, dx, l, vs, _, ev, _, h1, h2, z⟩, hz⟩ := h3 i _ h
  exact ⟨v, hv, k v H (Same.refl H) ⟨⟨a, dx, l, vs, ev, h1, h2, nows z⟩, hz⟩⟩
theorem a_no (h : Nw (nOne K C f r) te G xs) : Ev (rOne K C f r) te G xs := fun H0 σ H E Q k => h H0 σ H E Q fun v H' as e hn ⟨⟨a, dx, l, vs, _, ev, _, h1, h2, z⟩, hz⟩ => k v H' e ⟨⟨a, dx, l, vs, ev, h1, h2, nows z⟩, hz⟩
theorem a_nd {q : Rp α} {xs : List (Str × α)} (h : Nw (nd K q) te G xs) : Ev (rD q) te G xs := fun H0 σ H E Q k => h H0 σ H E Q fun v H' as e hn ⟨p, kvs, _, ev, hp, z⟩ => k v H' e ⟨p, kvs, ev, .inl hp, z.imp fun _ _ w => ⟨w.1, w.2.now⟩⟩
theorem a_alias {i j : Nat} (h : G[i]? = some (some (.ow (nOneA K C f r p) xs))) (h' : G[j]? = some (some (.ow (fz K rV) (.ref p)))) : Ev (rOne K C f r) (tVar j) G xs := fun H0 σ H E Q k => by
  obtain ⟨own, _, _, h3⟩ := E.at_
  obtain ⟨v, hv, e1, ⟨a, dx, l, vs, _, ev, _, h1, h2, z⟩, hz⟩ := h3 i _ h
  obtain ⟨w, hw, _, hs⟩ := h3 j _ h'
  have ew : w = .ref p := hs.now
  subst ew
  rw [e1] at ev
  cases ev
  exact ⟨_, hw, k _ H (Same.refl H) ⟨⟨p, dx, l, vs, rfl, h1, h2, nows z⟩, hz⟩⟩
theorem Have.name {i : Nat} (h : Have H0 G σ H) (hi : G[i]? = some (some (.ow (nOne K C f r) xs))) : ∃ q, σ[i]? = some (some (.ref q)) ∧ Have H0 (G.set i (some (.ow (nOneA K C f r q) xs))) σ H := by
  obtain ⟨H1, e, E⟩ := h
  obtain ⟨own, h1, h2, h3⟩ := id E.at_
  obtain ⟨v, hv, ⟨a, dx, l, vs, eas, ev, rest⟩, hz⟩ := h3 i _ hi
  subst ev
  refine ⟨a, hv, H1, e, E.mut (as := own i) (R := nOne K C f r) (R' := nOneA K C f r a) hi hv (ExT.refl _) (fun _ _ _ ho => ho) (fun w bs hw hr => ?_) ⟨rfl, ⟨a, dx, l, vs, eas, rfl, rest⟩, hz⟩⟩
  rw [hv] at hw
  cases hw
  obtain ⟨⟨a2, dx2, l2, vs2, e1, e2, _, e4, _⟩, _⟩ := hr
  cases e2
  rw [rest.2.1] at e4
  cases e4
  rw [e1, eas]
end
section
variable {X : Cx} {tg : Expr}
def iEi (K : PySem.W.Frag) (tl : TE) : TI := fun σ H R => tl σ H fun x H1 => ∃ a, x = .ref a ∧ (((∃ xs, SqL K H1 a xs) ∧ R (Itl K a) H1) ∨ ((∃ xs, SqT K H1 a xs) ∧ R (Itt K a) H1))
theorem pi_ei {l : Expr} {tl : TE} (hl : PE X l tl) : PI X tg l (iEi X.K tl) := by
  refine ⟨fun pins s σ H R I h => thn (hl.run pins s σ H _ I h) fun v s1 ⟨x, H1, I1, r1, a, ex, q1⟩ => ?_⟩
  subst ex
  have ev : v = Value.ref a := r1
  subst ev
  rcases q1 with ⟨⟨xs, hq⟩, q⟩ | ⟨⟨xs, hq⟩, q⟩
  · obtain ⟨its, rv, p, hz⟩ := I1.list hq
    refine wpAny_pyIter_list p.isList ⟨s1.heap.objs.size, [s1.heap.objs.size], _, _, H1, rfl, I1.kept (t' := s1.toks) fun b o e => Heap.get?_push_of_some _ e, turn_list a _, ⟨_, Heap.get?_push_size _ rfl, rfl, rfl⟩, fun b hb => ?_, q⟩
    rw [List.mem_singleton.mp hb]; exact I1.fpOk (Nat.le_refl _) (I1.hok.fresh (Nat.le_refl _))
  · obtain ⟨its, rv, p, hz⟩ := I1.tuple hq
    refine wpAny_pyIter_tuple (show s1.heap.IsTuple a its.toArray from p) ⟨s1.heap.objs.size, [s1.heap.objs.size], _, _, H1, rfl, I1.kept (t' := s1.toks) fun b o e => Heap.get?_push_of_some _ e, turn_tuple a _, ⟨_, Heap.get?_push_size _ rfl, rfl, rfl⟩, fun b hb => ?_, q⟩
    rw [List.mem_singleton.mp hb]; exact I1.fpOk (Nat.le_refl _) (I1.hok.fresh (Nat.le_refl _))
theorem pi_eiK (K : PySem.W.Frag) {l : Expr} {tl : TE} (hl : PE X l tl) (h : X.K = K := by rfl) : PI X tg l (iEi K tl) := by subst h; exact pi_ei hl
end
def rEi (K : PySem.W.Frag) {β : Type} (r : Rp β) : Rp (List β) := fun H v xs => ∃ a vs, v = .ref a ∧ (H a = some (.lst vs) ∨ SqD K H a vs) ∧ A2 (r H) vs xs
section
variable {K : PySem.W.Frag} {H0 H1 H H' : Hp} {σ : L2.St} {G G' : Cells K} {β : Type} {r : Rp β} {te : TE} {xs : List β}
instance [M : Mono r] : Mono (rEi K r) := ⟨fun e ⟨a, vs, ev, h, q⟩ => ⟨a, vs, ev, h.imp (e _ _) ((ext_same e).d _ _), q.imp fun _ _ z => M.up e z⟩⟩
theorem ei_L (h : Ev (rL r) te G xs) : Ev (rEi K r) te G xs := h.imp fun _ _ ⟨a, vs, ev, hp, z⟩ => ⟨a, vs, ev, .inl hp, z⟩
theorem ei_T (h : Ev (rT K r) te G xs) : Ev (rEi K r) te G xs := h.imp fun _ _ ⟨a, vs, ev, hp, z⟩ => ⟨a, vs, ev, .inr hp, z⟩
theorem wk_ei {M : Mono (rEi K r)} [N : Mono r] {i : Nat} (h : G[i]? = some (some (.ro (rEi K r) M xs)) := by rfl) : Wk (iEi K (tVar i)) r G G xs := fun H1 σ H E R k => by
  obtain ⟨own, _, _, h3⟩ := E.at_
  obtain ⟨v, hv, _, p, vs, e2, e3, e4⟩ := h3 i _ h
  refine ⟨v, hv, p, e2, ?_⟩
  rcases e3 with e3 | e3
  · exact .inl ⟨⟨vs, SqL.of (E.old _ _ e3)⟩, k _ H1 H (Same.refl _) (Same.refl _) E (wj_list e3 e4)⟩
  · exact .inr ⟨⟨vs, ext_same E.old _ _ e3⟩, k _ H1 H (Same.refl _) (Same.refl _) E (wj_tup e3 e4)⟩
def idxS (xs : List Str) (x : Str) : Option Nat := xs.findIdx? fun y => decide (y = x)
theorem idxS_ok {xs : List Str} {x : Str} {j : Nat} (h : idxS xs x = some j) : xs[j]? = some x ∧ ∀ m, m < j → ∀ y, xs[m]? = some y → y ≠ x := by
  unfold idxS at h
  rw [List.findIdx?_eq_some_iff_getElem] at h
  obtain ⟨hl, h1, h2⟩ := h
  refine ⟨by rw [List.getElem?_eq_getElem hl, of_decide_eq_true h1], fun m hm y hy e => ?_⟩
  have := h2 m hm
  rw [List.getElem?_eq_getElem (by omega)] at hy
  cases hy
  exact this (decide_eq_true e)
def IdxOk (xs : List Str) (x : Str) (j : Nat) : Prop := idxS xs x = some j
theorem ev_index {tl tx : TE} {x : Str} {xs : List Str} {j : Nat} (h : Ev (rL rS) tl G xs) (h' : Ev rS tx G x) (e : IdxOk xs x j) : Ev rI (tBM K "list" (rIndex K) tl (tCons tx tNil)) G (j : Int) := fun H0 σ H E Q k =>
  h H0 σ H E _ fun v H1 e1 ⟨p, vs, ev, hp, z⟩ => by
    subst ev
    refine ⟨.inl ⟨rfl, vs, SqL.of hp⟩, h' H0 σ H1 (E.grow e1) _ fun w H2 e2 hw => ?_⟩
    have es : vs = xs.map V.str := strs_a2 z
    obtain ⟨i1, i2⟩ := idxS_ok e
    refine ⟨p, vs, w, j, .str x, rfl, rfl, SqL.of (e2 _ _ hp), by rw [hw.1]; rfl, by rw [es]; exact flat_strs xs, by rw [es, List.getElem?_map, i1]; rfl, by rw [hw.1]; exact beq_self_eq_true x, fun m z' hm hz => ?_, k _ H2 (e1.trans e2) rfl⟩
    rw [es, List.getElem?_map] at hz
    cases q : xs[m]? with
    | none => rw [q] at hz; cases hz
    | some y =>
      rw [q] at hz
      cases hz
      rw [hw.1]
      exact beq_eq_false_iff_ne.mpr (i2 m hm y q)
end
end
end Gt
namespace Gt
open PySem PySem.Spec PyProof.Rows L2
section
open PySem PySem.Spec PyProof.Rows L2 PySem.W PySem.Calls PySem.HandSPX
structure XStat (st : Stmt) (qual : Str) (fld : Str) : Prop where
  bd : ∃ msg j q0 q1 q2 q3 q4 q5 q6 q7 q8 q9, defBody st = [.Expr (.Call (.Attribute (.Call (.Name "super" q0) [] [] q1) "__init__" q2) [.Constant (.str msg) j q3] [] q4) q5, .Assign [.Attribute (.Name "self" q6) fld q7] (.Name fld q8) q9] ∧
      (∀ fI L cd c2, ∃ pl : Sem Bool, eval (.Call (.Attribute (.Call (.Name "super" q0) [] [] q1) "__init__" q2) [.Constant (.str msg) j q3] [] q4) (ksEnv qual (defScope st) L fI cd c2) = (do
        let ov ← attributeBase (.Call (.Name "super" q0) [] [] q1) "__init__" (ksEnv qual (defScope st) L fI cd c2) (eval (.Call (.Name "super" q0) [] [] q1) (ksEnv qual (defScope st) L fI cd c2))
        standAt q2.atName
        let (f, first) ← holding [ov] (getMethod ov "__init__" pl)
        callWith q4 f first (backTo q4 (starEach [.Constant (.str msg) j q3] (ksEnv qual (defScope st) L fI cd c2))) [])) ∧
      (∀ fI L cd c2, swapsWith (.Call (.Attribute (.Call (.Name "super" q0) [] [] q1) "__init__" q2) [.Constant (.str msg) j q3] [] q4) none q5.line (ksEnv qual (defScope st) L fI cd c2) = pure false) ∧
      (∀ fI L cd c2, swapsWith (.Name fld q8) (some (.Attribute (.Name "self" q6) fld q7)) q9.line (ksEnv qual (defScope st) L fI cd c2) = pure false)
  ar : ∃ ar, ((defArgs st).posonlyargs ++ (defArgs st).args).head? = some ar ∧ ar.arg = "self"
  bi : ∀ (doc pm : Value) (an : Option Addr) (cda cc : Addr) (ct : Value) (s : Shared) (u v : Value), BindsTo s (ksFn "__init__" qual (defArgs st) (defBody st) (defScope st) .none .none doc pm an (.ref cda) ct cc) ⟨[u, v], []⟩ [("self", u), (fld, v)]
  s1 : (defScope st).kind = .function
  s2 : (defScope st).isGenerator = false
  s3 : (defScope st).isCoroutine = false
  n1 : (defScope st).names.lookup ("self" : Str) = some .local
  n2 : (defScope st).names.lookup fld = some .local
  n3 : (defScope st).names.lookup ("super" : Str) = some .globalImplicit
  n4 : (defScope st).names.lookup ("__class__" : Str) = some .free
  n5 : ∀ y ∈ (defScope st).names, y.2 ≠ .cell
  f1 : (fld == ("self" : Str)) = false
  f2 : (fld == ("__debug__" : Str)) = false
section
variable {prog : Program} {K : Frag} {mg : Str → Option Value} {x fld qual : Str} {st : Stmt} {C fI cda cc N : Addr} {oc doc pm ct cl cl2 : Value} {od cld cld2 an dd : Option Addr} {osl csl csl2 : Array (Option Value)} {vs : Array Value} {file q nm : Str} {tf : Tok}
  {bs bm sub : List Value} {sn : List Str} {ab : Bool} {col : Option Bool} {k0 k1 k2 k3 k5 : Option Value}
theorem excT_of (S : XStat st qual fld) (gC : mg x = some (.ref C)) (hC : K.lookup C = some (excClassObj nm q C N bs bm true sn sub ab col dd k0 k1 k2 k3 k5 "ValueError.__new__")) (hbm : refsVE bm = true)
    (sa : findIn K (.ref C) "__setattr__" = some (some (.builtin "object.__setattr__"))) (ga : findIn K (.ref C) "__getattribute__" = some (some (.builtin "BaseException.__getattribute__"))) (gg : findIn K (.ref C) "__getattr__" = some none) (no : findIn K (.ref C) fld = some none)
    (iC : findIn K (.ref C) "__init__" = some (some (.ref fI))) (tI : typeIn K (.ref fI) = some (.type "function")) (kC : keepIn K (.ref C) = true) (exC : subIn K (.ref C) (.type "BaseException") = some true) (tyC : typeIn K (.ref C) = some (.type "type")) (hdC : hasDictIn K C = true)
    (su : ks_superIn K C C "__init__" = some (some (.builtin "ValueError.__init__"))) (sB : subIn K (.ref C) (.type "ValueError") = some true) (sS : mroIn K C (.ref C) = some true) (op : nsIn K cStatics "thirdparty.any" = some none) (nS : mg "super" = none)
    (lf : K.lookup fI = some ⟨oc, od, .func (ksFn "__init__" qual (defArgs st) (defBody st) (defScope st) .none .none doc pm an (.ref cda) ct cc), osl⟩) (hcd : codeIn K (.ref cda) qual = true) (lcc : K.lookup cc = some ⟨cl, cld, .cell (some (.ref C)), csl⟩)
    (lco : K.lookup cda = some ⟨cl2, cld2, .fields vs, csl2⟩) (hvs : vs[2]? = some (.str file tf)) (hf : ((prog.main.file : Str) == file) = true) (htop : (prog.main.scope.names.lookup ("super" : Str)).isSome = false) : ExcT prog K mg x fld C fI :=
  { gC := gC, cls := ⟨nm, q, N, bs, bm, sn, sub, ab, col, dd, k0, k1, k2, k3, k5, hC, hbm⟩, sa := sa, ga := ga, gg := gg, no := no, iC := iC, tI := tI, kC := kC, exC := exC, tyC := tyC, hdC := hdC, su := su, sB := sB, sS := sS, op := op, nS := nS,
    fn := by
      obtain ⟨msg, j, q0, q1, q2, q3, q4, q5, q6, q7, q8, q9, eb, h1, h2, h3⟩ := S.bd
      exact ⟨oc, od, qual, defArgs st, defBody st, defScope st, doc, pm, an, cda, cc, ct, osl, lf, hcd, ⟨cl, cld, csl, lcc⟩, ⟨cl2, cld2, vs, file, tf, csl2, lco, hvs, hf⟩, htop, ⟨msg, j, q0, q1, q2, q3, q4, q5, q6, q7, q8, q9, eb, h1 fI, h2 fI, h3 fI⟩, S.ar, S.bi doc pm an cda cc ct,
        S.s1, S.s2, S.s3, S.n1, S.n2, S.n3, S.n4, S.n5, S.f1, S.f2⟩ }
end
theorem exm_self {K : Frag} {S : Addr} (h1 : subIn K (.ref S) (.type "BaseException") = some true) (h2 : isClsIn K S = true) (h3 : typeIn K (.ref S) = some (.type "type")) (h4 : subIn K (.ref S) (.ref S) = some true) : exmOne K (.ref S) (.ref S) = some true := by
  have e1 : (subIn K (.ref S) (.type "BaseException") == some true) = true := by rw [h1] <;> rfl
  have e2 : ((clsIn K S).isSome && typeIn K (.ref S) == some (.type "type")) = true := by
    have h2' : (clsIn K S).isSome = true := h2
    rw [h2', h3] <;> rfl
  unfold exmOne kitCls
  rw [if_pos e1]
  exact (if_pos e2).trans h4
section
variable {X : Cx} {P : Program} {w : World} {K : Frag} {mg : Str → Option Value} {base : Heap}
structure CatC (K : Frag) (mg : Str → Option Value) (x fld : Str) : Prop where
  mg : mg x = some (.ref (cA K x))
  ex : exmOne K (.ref (cA K x)) (.ref (cA K x)) = some true
  xf : XfC K (cA K x)
  no : findIn K (.ref (cA K x)) fld = some none
  ec : ExcC K (cA K x)
theorem takes_no : L2N.Takes X fun _ _ _ _ => False := fun _ _ ⟨_, _, _, _, _, _, _, _, _, _, _, _, _, _, _, _, z⟩ => z.elim
end
section
variable {K : Frag} {H0 H1 H2 H : Hp} {G : Cells K} {α γ β ρ : Type} {D : Ends} {u : TS} {q : Rp β} {R : Rs K ρ} {P Q : L2.St → Hp → Prop}
theorem a_isiO {te : TE} {r : Rp α} {T T' : String} {o : Option α} (h : Ev (rO r) te G o) (M : Mono r) (N : TyN K r T) (hb : kitB T T' = some true) (hn : kitB "NoneType" T' = some false) : Ev rB (tCB (rIsi K) (tCons te (tCons (tC (.ty T')) tNil))) G (!isNone' o) := fun H0 σ H E Q k =>
  h H0 σ H E _ fun v H1 e1 hv => by
    cases o with
    | none =>
      have hv : v = .non := hv
      subst hv
      exact ⟨.non, .ty T', .type "NoneType", .type T', false, rfl, .ty T', .base .non, kit_ty hn, k _ H1 e1 rfl⟩
    | some z => exact ⟨v, .ty T', .type T, .type T', true, rfl, .ty T', N.ty hv, kit_ty hb, k _ H1 e1 rfl⟩
end
def aRest {β : Type} (r : Rp β) : Ra (List β) := fun H vs xs => aAll r H vs xs ∧ xs.length ≤ 10
section
variable {K : Frag} {H : Hp} {G : Cells K} {α : Type} {r : Rp α} {t : TA} {xs : List α}
theorem ea_rest (h : EvA (aAll r) t G xs) (hl : xs.length ≤ 10) : EvA (aRest r) t G xs := fun H0 σ H E Q k => h H0 σ H E _ fun vs H1 e1 z => k vs H1 e1 ⟨z, hl⟩
theorem a_some {i : Nat} {o : Option α} {b : α} (h : G[i]? = some (fc (rO r) o)) (e : o = some b) : Ev r (tVar i) G b := by
  subst e
  have z : Ev (rO r) (tVar i) G (some b) := a_fz h
  exact z.imp fun _ _ z => z
theorem ixc_O0 {β : Type} {q : Rp β} {o : Option (α × β)} {p : α × β} [M : Mono r] [N : Mono q] (e : o = some p) : IxC K (rO (rP K r q)) o (tC (.int 0)) G r p.1 := fun ta h => by subst e; exact ev_fst (h.imp fun _ _ z => z)
theorem ixc_O1 {β : Type} {q : Rp β} {o : Option (α × β)} {p : α × β} [M : Mono r] [N : Mono q] (e : o = some p) : IxC K (rO (rP K r q)) o (tC (.int 1)) G q p.2 := fun ta h => by subst e; exact ev_snd (h.imp fun _ _ z => z)
theorem lnc_O {β : Type} {q : Rp β} {o : Option (α × β)} {p : α × β} {n : Nat} [M : Mono r] [N : Mono q] (e : o = some p) (h : LnC K (rP K r q) p n) : LnC K (rO (rP K r q)) o n := fun G te z => by subst e; exact h G te (z.imp fun _ _ z => z)
end
end
section
theorem a_prop {K : PySem.W.Frag} {G : Cells K} {α β : Type} {C : Addr} {names : List Str} {r : Rp α} {q : Rp β} {x : α} {z : β} {m : α × Unit → M β} {ta : TE} (h : Ev r ta G x) (M : Mono r) (I : InsR K C r names) (e : MOk m (x, ()) z) : Ev q (tProp C (spM (aC r aN) q m) [] E0 ta) G z := fun H0 σ H E Q k => h H0 σ H E _ fun v H1 e1 hv => by
  obtain ⟨a, dx, fs, ea, ha, _⟩ := I.ins hv
  subst ea
  exact ⟨a, dx, fs, rfl, ha, (x, ()), z, ⟨_, _, rfl, hv, rfl⟩, e, fun w H2 e2 hw => k w H2 (e1.trans e2) hw⟩
def NilT (K : PySem.W.Frag) (d : Addr) : Prop := ∃ (o : Obj) (n : Nat), K.lookup d = some o ∧ o.dict = none ∧ o.cls = .type "tuple" ∧ o.data = .seq #[] n
theorem nw_mkOM0 {K : PySem.W.Frag} {G : Cells K} {α β : Type} {C d : Addr} {f : Str} {r : Rp β} {q : Rp α} {m : List α × Unit → M (List β)} {xs : List β} {E : XK} (hd : NilT K d) (e : MOk m ([], ()) xs) : Nw (nOne K C f r) (tMake C (spOneM K C f r (aC (rEi K q) aN) m) [.ref d] E tNil) G xs := fun H0 σ H E1 Q k x dx hx hdx hne => by
  have s1 : Same H (upd (upd H dx (.own x)) x (.ins C dx [])) := fun b o hb => by rw [upd_ne (ne_of_none hb hx), upd_ne (ne_of_none hb hdx)]; exact hb
  obtain ⟨o, n, h1, h0, h2, h3⟩ := hd
  refine ⟨x, dx, [.ref d], ([], ()), xs, rfl, upd_same, ⟨_, _, rfl, ⟨d, [], rfl, .inr (.inr ⟨o, #[], n, h1, h0, h2, h3, Nat.zero_le _, .nil⟩), .nil⟩, rfl⟩, e, fun l us H' keep hl h1 h2 z hz => ⟨rfl, ?_⟩⟩
  have hlx : x ≠ l := fun q => by rw [← q, upd_same] at hl; cases hl
  have hl1 : H l = none := s1.free hl
  refine k _ H' [x, l] (fun b o hb => keep b o (ne_of_none hb hx) (s1 _ _ hb)) (fun b hb => ?_) ⟨⟨x, dx, l, us, rfl, rfl, hlx, h1, h2, z⟩, hz⟩
  rcases List.mem_cons.mp hb with q | q
  · rw [q]; exact hx
  · cases List.mem_singleton.mp q
    exact hl1
def rStrO (C : Addr) (sp : Sp) : List V → Hp → VK → Prop := fun xs H Q => ∃ a dx fs, xs = [.ref a] ∧ H a = some (.ins C dx fs) ∧ sp [.ref a] H (fun v H' => (∃ z, v = .str z) ∧ Q v H') E0
theorem a_strO {K : PySem.W.Frag} {G : Cells K} {α : Type} {C : Addr} {names : List Str} {r : Rp α} {x : α} {z : Str} {m : α × Unit → M Str} {ta : TE} (h : Ev r ta G x) (M : Mono r) (I : InsR K C r names) (e : MOk m (x, ()) z) : Ev rS (tCB (rStrO C (spM (aC r aN) rS m)) (tCons ta tNil)) G z := fun H0 σ H E Q k => h H0 σ H E _ fun v H1 e1 hv => by
  obtain ⟨a, dx, fs, ea, ha, _⟩ := I.ins hv
  subst ea
  exact ⟨a, dx, fs, rfl, ha, (x, ()), z, ⟨_, _, rfl, hv, rfl⟩, e, fun w H2 e2 hw => ⟨⟨z, hw.1⟩, k w H2 (e1.trans e2) hw⟩⟩
end
section
structure RF (K : PySem.W.Frag) (α : Type) where
  names : List Str
  rep : Hp → List (Str × V) → α → List Addr → Prop
  ns : ∀ {H : Hp} {fs : List (Str × V)} {x : α} {as : List Addr}, rep H fs x as → fs.map (·.1) = names
  stay : ∀ {H H' : Hp} {fs : List (Str × V)} {x : α} {as : List Addr}, rep H fs x as → ExT K H H' → (∀ p, p ∈ as → ∀ o, H p = some o → H' p = some o) → rep H' fs x as
  there : ∀ {H : Hp} {fs : List (Str × V)} {x : α} {as : List Addr}, rep H fs x as → ∀ p, p ∈ as → ∃ o, H p = some o ∧ ¬ isTup o
section
variable {K : PySem.W.Frag} {α β γ ρ : Type}
def fN : RF K Unit where
  names := []
  rep := fun _ fs _ as => fs = [] ∧ as = []
  ns := fun h => by rw [h.1]; rfl
  stay := fun h _ _ => h
  there := fun h p hp => by rw [h.2] at hp; cases hp
def fC (f : Str) (R : Rs K α) (F : RF K β) : RF K (α × β) where
  names := f :: F.names
  rep := fun H fs x as => ∃ v rest a1 a2, fs = (f, v) :: rest ∧ as = a1 ++ a2 ∧ R.rep H v x.1 a1 ∧ F.rep H rest x.2 a2
  ns := fun ⟨v, rest, a1, a2, e1, _, _, h⟩ => by rw [e1, List.map_cons, F.ns h]
  stay := fun ⟨v, rest, a1, a2, e1, e2, h1, h2⟩ x k => ⟨v, rest, a1, a2, e1, e2, R.stay h1 x (fun p hp => k p (by rw [e2]; exact List.mem_append_left _ hp)), F.stay h2 x (fun p hp => k p (by rw [e2]; exact List.mem_append_right _ hp))⟩
  there := fun ⟨v, rest, a1, a2, e1, e2, h1, h2⟩ p hp => by
    rw [e2] at hp
    rcases List.mem_append.mp hp with q | q
    · exact R.there h1 p q
    · exact F.there h2 p q
def nRec (K : PySem.W.Frag) (C : Addr) (F : RF K α) : Rs K α where
  rep := fun H v x as => ∃ a dx fs bs, v = .ref a ∧ as = a :: bs ∧ H a = some (.ins C dx fs) ∧ F.rep H fs x bs
  stay := fun ⟨a, dx, fs, bs, e1, e2, h1, h2⟩ x k => ⟨a, dx, fs, bs, e1, e2, k a (by rw [e2]; exact List.mem_cons_self ..) _ h1, F.stay h2 x (fun p hp => k p (by rw [e2]; exact List.mem_cons_of_mem _ hp))⟩
  there := fun ⟨a, dx, fs, bs, e1, e2, h1, h2⟩ p hp => by
    rw [e2] at hp
    rcases List.mem_cons.mp hp with q | q
    · rw [q]; exact ⟨_, h1, fun z => z⟩
    · exact F.there h2 p q
def rRec (K : PySem.W.Frag) (C : Addr) (F : RF K α) : Rp α := fun H v x => ∃ as, (nRec K C F).rep H v x as
instance {C : Addr} {F : RF K α} : Mono (rRec K C F) := ⟨fun e ⟨as, h⟩ => ⟨as, (nRec K C F).stay h (ext_same e) fun p _ o ho => e p o ho⟩⟩
theorem rec_ins {C : Addr} {F : RF K α} : InsR K C (rRec K C F) F.names := ⟨fun ⟨as, a, dx, fs, bs, e1, _, h1, h2⟩ => ⟨a, dx, fs, e1, h1, F.ns h2⟩⟩
theorem rec_ins1 {C : Addr} {f : Str} {R : Rs K α} : InsR K C (rRec K C (fC f R fN)) [f] := rec_ins
variable {H0 H1 H2 H H' : Hp} {σ : L2.St} {G G' : Cells K} {r : Rp α} {q : Rp β} {D : Ends} {u : TS} {te ta : TE}
theorem a_noR {i : Nat} {C : Addr} {F : RF K α} {x : α} (h : G[i]? = some (some (.ow (nRec K C F) x))) : Ev (rRec K C F) (tVar i) G x := fun H0 σ H E Q k => by
  obtain ⟨own, _, _, h3⟩ := E.at_
  obtain ⟨v, hv, hr⟩ := h3 i _ h
  exact ⟨v, hv, k v H (Same.refl H) ⟨_, hr⟩⟩
class Bor (K : PySem.W.Frag) {α : Type} (R : Rs K α) (r : outParam (Rp α)) : Prop where
  look : ∀ {H : Hp} {v : V} {x : α} {as : List Addr}, R.rep H v x as → r H v x
instance {r : Rp α} : Bor K (fz K r) r := ⟨fun ⟨_, h⟩ => h _ (ExT.refl _)⟩
instance {C : Addr} {F : RF K α} : Bor K (nRec K C F) (rRec K C F) := ⟨fun h => ⟨_, h⟩⟩
def FldAt (F : RF K α) (f : Str) (R : Rs K β) (get : α → β) : Prop := ∀ H fs x as, F.rep H fs x as → ∃ v bs, fs.lookup f = some v ∧ R.rep H v (get x) bs
theorem fld_hd {f : Str} {R : Rs K α} {F : RF K β} : FldAt (fC f R F) f R (fun x => x.1) := fun H fs x as ⟨v, rest, a1, a2, e1, _, h1, _⟩ => ⟨v, a1, by rw [e1, List.lookup_cons, beq_self_eq_true], h1⟩
theorem fld_tl {f g : Str} {R : Rs K α} {S : Rs K γ} {F : RF K β} {get : β → γ} (h : FldAt F f S get) (ne : (f == g) = false) : FldAt (fC g R F) f S (fun x => get x.2) := fun H fs x as ⟨v, rest, a1, a2, e1, _, _, h2⟩ => by
  obtain ⟨w, bs, l, hr⟩ := h H rest x.2 a2 h2
  exact ⟨w, bs, by rw [e1, List.lookup_cons, ne]; exact l, hr⟩
theorem a_recF {C : Addr} {F : RF K α} {f : Str} {R : Rs K β} {get : α → β} {x : α} {z : β} (h : Ev (rRec K C F) te G x) (fa : FldAt F f R get) (B : Bor K R q) (c : Cls K C) (n : NoAttr K C f) (e : get x = z) : Ev q (tFld K te f) G z := fun H0 σ H E Q k =>
  h H0 σ H E _ fun v H1 e1 ⟨as, a, dx, fs, bs, ea, _, ha, hf⟩ => by
    obtain ⟨w, cs, hl, hw⟩ := fa _ _ _ _ hf
    exact ⟨a, C, dx, fs, w, ea, ha, c, n, hl, k w H1 e1 (e ▸ B.look hw)⟩
theorem a_recE {C : Addr} {F : RF K α} {f : Str} {rt : Rp β} {get : α → List β} {x : α} {z : List β} (h : Ev (rRec K C F) te G x) (fa : FldAt F f (fz K (rT K rt)) get) (c : Cls K C) (n : NoAttr K C f) (e : get x = z) : Ev (rEi K rt) (tFld K te f) G z := ei_T (a_recF (R := fz K (rT K rt)) h fa inferInstance c n e)
structure RecR (K : PySem.W.Frag) (C : Addr) (F : RF K α) (H : Hp) (p : Addr) (x : α) (H' : Hp) : Prop where
  ex : ∃ dx fs as, H' p = some (.ins C dx fs) ∧ F.rep H' fs x as ∧ (∀ q, q ∈ as → H q = none)
  keep : ∀ c o, c ≠ p → H c = some o → H' c = some o
def spRec (K : PySem.W.Frag) (C : Addr) (F : RF K β) (A : Ra α) (m : α → M β) : Sp := fun vs H Q E => ∃ p dx ws a, vs = .ref p :: ws ∧ H p = some (.ins C dx []) ∧ A H ws a ∧ NStk (m a) ∧ (∀ b, m a = .ok b → ∀ H', RecR K C F H p b H' → Q .non H') ∧
  ∀ x fs, m a = .error (.ex x fs) → ∀ d H', (∀ c o, c ≠ p → H c = some o → H' c = some o) → H d = none → XR K H' d fs → E (.ref (cA K x)) (some d) H'
def tMakeS (C : Addr) (sp : Sp) (E : L2.St → XK) (t : TA) : TE := fun σ H Q => t σ H fun vs H1 => ∀ x dx, H1 x = none → H1 dx = none → dx ≠ x →
  sp (.ref x :: vs) (upd (upd H1 dx (.own x)) x (.ins C dx [])) (fun v H2 => v = .non ∧ Q (.ref x) H2) (E σ)
theorem same_made {x dx : Addr} {C : Addr} (hx : H x = none) (hdx : H dx = none) : Same H (upd (upd H dx (.own x)) x (.ins C dx [])) := fun b o hb => by rw [upd_ne (ne_of_none hb hx), upd_ne (ne_of_none hb hdx)]; exact hb
end
section
variable {K : PySem.W.Frag} {α β : Type} {H0 H : Hp} {σ : L2.St} {G : Cells K} {r : Rp α} {D : Ends} {te : TE} {t : TA}
theorem nw_mkR {C : Addr} {F : RF K β} {A : Ra α} {a : α} {m : α → M β} {b : β} {E' : L2.St → XK} (hA : EvA A t G a) (M : MonoA A) (e : MOk m a b) : Nw (nRec K C F) (tMakeS C (spRec K C F A m) E' t) G b := fun H0 σ H E Q k =>
  hA H0 σ H E _ fun vs H2 e2 hvs x dx hx hdx hne => by
    have e : m a = .ok b := e
    have s1 : Same H2 (upd (upd H2 dx (.own x)) x (.ins C dx [])) := same_made hx hdx
    refine ⟨x, dx, vs, a, rfl, upd_same, M.up s1 hvs, nstk_ok e, fun b' hb H' hr => ⟨rfl, ?_⟩, fun y fs hy => by rw [e] at hy; cases hy⟩
    rw [e] at hb
    cases hb
    obtain ⟨⟨dx', fs, as, h1, h2, h3⟩, kp⟩ := hr
    refine k _ H' (x :: as) (e2.trans fun b o hb => kp b o (ne_of_none hb hx) (s1 _ _ hb)) (fun p hp => ?_) ⟨x, dx', fs, as, rfl, rfl, h1, h2⟩
    rcases List.mem_cons.mp hp with z | z
    · rw [z]; exact free_back e2 hx
    · exact free_back (e2.trans s1) (h3 p z)
end
end
section
section
variable {X : Cx} {CX : CXT} {pins : List (Addr × Obj)} {σ : L2.St} {H H' : Hp} {s s' : Shared} {C fi a it l : Addr} {k : Nat} {fd : FuncData} {ps : List Str} {sp : Sp} {E : XK} {e : Expr} {te : TE} {tg : Expr} {o : HO} {i : Nat}
def rListYT (K : PySem.W.Frag) (C : Addr) (g : Str) : List V → Hp → VK → Prop := fun xs H Q => ∃ a dx fs l zs, xs = [.ref a] ∧ H a = some (.ins C dx fs) ∧ fs.lookup g = some (.ref l) ∧ SqT K H l zs ∧ ∀ q, H q = none → Q (.ref q) (upd H q (.lst zs))
end
theorem nw_recL {K : PySem.W.Frag} {G : Cells K} {α β : Type} {C : Addr} {f : Str} {F : RF K α} {r : Rp β} {get : α → List β} {x : α} {z : List β} {te : TE} (h : Ev (rRec K C F) te G x) (fa : FldAt F f (fz K (rT K r)) get) (e : get x = z) (M : Mono r) (Z : Frz K r) : Nw (nl K r) (tCB (rListYT K C f) (tCons te tNil)) G z := nw_cb (ea_cons h ea_nil) fun H vs ⟨v, ws, ev, ⟨as, a, dx, fs, bs, ea, _, h1, hf⟩, e2⟩ Q k => by
  obtain ⟨w, cs, hl, _, hw⟩ := fa _ _ _ _ hf
  obtain ⟨l, us, el, sq, hz⟩ := hw H (ExT.refl _)
  subst e
  exact ⟨a, dx, fs, l, us, by rw [ev, show ws = [] from e2, ea], h1, by rw [hl, el], sq, fun q hq => k _ _ [q] (same_new hq) (fun b hb => by rw [List.mem_singleton.mp hb]; exact hq) ⟨q, us, rfl, rfl, upd_same, hz.imp fun _ _ w => stb (M.up (same_new hq) w)⟩⟩
section
variable {K : PySem.W.Frag} {G : Cells K} {α : Type} {r : Rp α} {tb : TE} {i : Int} {x : α}
theorem ixc_E {xs : List α} [M : Mono r] (hi : Ev rI tb G i) (hx : atI xs i = some x) : IxC K (rEi K r) xs tb G r x := fun ta h => ev_op h hi fun H u v ⟨p, vs, ev, hp, z⟩ hv Q k => by
  obtain ⟨w, hw, hr⟩ := atI_A2 z hx
  rcases hp with hp | hp
  · exact .inl ⟨p, vs, i, w, ev, hv, SqL.of hp, hw, k w H (Same.refl H) hr⟩
  · exact .inr (.inl ⟨p, vs, i, w, ev, hv, hp, hw, k w H (Same.refl H) hr⟩)
theorem lnc_E {xs : List α} [M : Mono r] : LnC K (rEi K r) xs xs.length := fun G te h => ev_cb (ea_cons h ea_nil) fun H vs ⟨v, ws, e, ⟨p, us, ev, hp, z⟩, e2⟩ Q k =>
  ⟨v, us.length, by rw [e, show ws = [] from e2], by
    rw [ev]
    rcases hp with hp | hp
    · exact .inl ⟨us, SqL.of hp, rfl⟩
    · exact .inr ⟨us, hp, rfl⟩, k _ H (Same.refl H) (by rw [z.len]; rfl)⟩
end
end
section
section
variable {K : PySem.W.Frag} {H0 H1 H2 H : Hp} {G G' : Cells K} {α β γ ρ : Type} {r : Rp α} {R : Rs K ρ} {D : Ends} {u : TS}
theorem a_starT {te : TE} {t : TA} {xs ys : List α} (h : Ev (rT K r) te G xs) (M : Mono r) (hr : EvA (aAll r) t G ys) : EvA (aAll r) (StX.tStar K te t) G (xs ++ ys) := fun H0 σ H E Q k =>
  h H0 σ H E _ fun v H1 e1 ⟨a, vs, ev, hq, z⟩ => ⟨a, vs, ev, .inl hq, hr H0 σ H1 (E.grow e1) _ fun ws H2 e2 z2 => k _ H2 (e1.trans e2) (A2.app z2 (z.imp fun _ _ w => M.up e2 w))⟩
theorem nw_if {tt : TT} {ta tb : TE} {c : Bool} {a b : ρ} (h : EvT tt G c) (h1 : c = true → Nw R ta G a) (h2 : c = false → Nw R tb G b) : Nw R (tIf tt ta tb) G (bif c then a else b) := fun H0 σ H E Q k => h H0 σ H E _ fun H1 e1 => by
  cases c with
  | true => exact iteT (h1 rfl H0 σ H1 (E.grow e1) _ fun w H2 as e2 hn z2 => k w H2 as (e1.trans e2) (fun p hp => free_back e1 (hn p hp)) z2)
  | false => exact iteF (h2 rfl H0 σ H1 (E.grow e1) _ fun w H2 as e2 hn z2 => k w H2 as (e1.trans e2) (fun p hp => free_back e1 (hn p hp)) z2)
def rCls (C : Addr) : Rp Unit := fun _ v _ => v = .ref C
instance {C : Addr} : Mono (rCls C) := ⟨fun _ h => h⟩
instance {C : Addr} : Frz K (rCls C) := ⟨fun _ h => h⟩
theorem ev_cls {C : Addr} {y : Unit} : Ev (rCls C) (tC (.ref C)) G y := fun H0 σ H E Q k => k _ H (Same.refl H) rfl
def tMakeV (tv : TE) (C : Addr) (sp : Sp) (dvs : List V) (E : XK) (t : TA) : TE := fun σ H Q => tv σ H fun v H1 => v = .ref C ∧ tMake C sp dvs E t σ H1 Q
theorem nw_mkV {C : Addr} {tv : TE} {sp : Sp} {dvs : List V} {E' : XK} {t : TA} {xs : ρ} {y : Unit} (hv : Ev (rCls C) tv G y) (h : Nw R (tMake C sp dvs E' t) G xs) : Nw R (tMakeV tv C sp dvs E' t) G xs := fun H0 σ H E Q k =>
  hv H0 σ H E _ fun v H1 e1 z => ⟨z, h H0 σ H1 (E.grow e1) _ fun w H2 as e2 hn hw => k w H2 as (e1.trans e2) (fun p hp => free_back e1 (hn p hp)) hw⟩
def tCMethS (C : Addr) (sp : Sp) (E : L2.St → XK) (ta : TE) (t : TA) : TE := fun σ H Q => ta σ H fun x H1 => x = .ref C ∧ t σ H1 fun vs H2 => sp (.ref C :: vs) H2 Q (E σ)
theorem nw_cm {C : Addr} {A : Ra γ} {g : γ} {m : Unit × γ → M ρ} {b : ρ} {E' : L2.St → XK} {ta : TE} {t : TA} (hc : Ev (rCls C) ta G ()) (h : EvA A t G g) (e : MOk m ((), g) b) : Nw R (tCMethS C (spXN (aC (rCls C) A) R m) E' ta t) G b := fun H0 σ H E Q k =>
  hc H0 σ H E _ fun v H1 e1 z => ⟨z, h H0 σ H1 (E.grow e1) _ fun vs H2 e2 hvs => ⟨((), g), ⟨_, vs, rfl, rfl, hvs⟩, nstk_ok e, fun c hc w H3 as e3 hn hw => k w H3 as ((e1.trans e2).trans e3) (fun p hp => free_back (e1.trans e2) (hn p hp)) (by rw [show m ((), g) = .ok b from e] at hc; cases hc; exact hw),
    fun x fs q => by rw [show m ((), g) = .ok b from e] at q; cases q⟩⟩
end
end
section
inductive A3 {α β : Type} (r : α → β → List Addr → Prop) : List α → List β → List (List Addr) → Prop
  | nil : A3 r [] [] []
  | cons {a : α} {b : β} {s : List Addr} {as : List α} {bs : List β} {ss : List (List Addr)} : r a b s → A3 r as bs ss → A3 r (a :: as) (b :: bs) (s :: ss)
section
variable {α β : Type} {r q : α → β → List Addr → Prop} {as as' : List α} {bs bs' : List β} {ss ss' : List (List Addr)} {a : α} {b : β} {s : List Addr} {j : Nat}
theorem A3.imp (h : A3 r as bs ss) (f : ∀ a b s, s ∈ ss → r a b s → q a b s) : A3 q as bs ss := by
  induction h with
  | nil => exact .nil
  | cons h1 h2 ih => exact .cons (f _ _ _ (List.mem_cons_self ..) h1) (ih fun a b s hs => f a b s (List.mem_cons_of_mem _ hs))
theorem A3.len (h : A3 r as bs ss) : as.length = bs.length := by
  induction h with
  | nil => rfl
  | cons h1 h2 ih => rw [List.length_cons, List.length_cons, ih]
theorem A3.lens (h : A3 r as bs ss) : ss.length = bs.length := by
  induction h with
  | nil => rfl
  | cons h1 h2 ih => rw [List.length_cons, List.length_cons, ih]
theorem A3.get (h : A3 r as bs ss) (hb : bs[j]? = some b) : ∃ a s, as[j]? = some a ∧ ss[j]? = some s ∧ r a b s := by
  induction h generalizing j with
  | nil => simp at hb
  | cons h1 h2 ih =>
    cases j with
    | zero => cases hb; exact ⟨_, _, rfl, rfl, h1⟩
    | succ j => exact ih (j := j) (by simpa using hb)
theorem A3.app (h : A3 r as bs ss) (h' : A3 r as' bs' ss') : A3 r (as ++ as') (bs ++ bs') (ss ++ ss') := by
  induction h with
  | nil => exact h'
  | cons h1 h2 ih => exact .cons h1 ih
theorem A3.put (h : A3 r as bs ss) (f : ∀ k a b s, k ≠ j → ss[k]? = some s → r a b s → q a b s) (n : q a b s) : A3 q (as.set j a) (bs.set j b) (ss.set j s) := by
  induction h generalizing j with
  | nil => exact .nil
  | @cons x y t as bs ss h1 h2 ih =>
    cases j with
    | zero => exact .cons n (h2.imp fun a b s hs => by
        obtain ⟨k, hk⟩ := List.mem_iff_getElem?.mp hs
        exact f (k + 1) a b s (Nat.succ_ne_zero k) (by simpa using hk))
    | succ j => exact .cons (f 0 _ _ _ (Nat.succ_ne_zero j).symm rfl h1) (ih fun k a b s hk hs => f (k + 1) a b s (fun e => hk (Nat.succ.inj e)) (by simpa using hs))
theorem A3.two (h : A3 r as bs ss) : A2 (fun a b => ∃ s, r a b s) as bs := by
  induction h with
  | nil => exact .nil
  | cons h1 h2 ih => exact .cons ⟨_, h1⟩ ih
end
def DJ (p : Addr) (ss : List (List Addr)) : Prop := (∀ (k : Nat) (s : List Addr), ss[k]? = some s → p ∉ s) ∧ ∀ (k l : Nat) (s t : List Addr) (q : Addr), ss[k]? = some s → ss[l]? = some t → q ∈ s → q ∈ t → k = l
theorem mem_flat {ss : List (List Addr)} {k : Nat} {s : List Addr} {q : Addr} (h : ss[k]? = some s) (hq : q ∈ s) : q ∈ ss.flatten := List.mem_flatten.mpr ⟨s, List.mem_of_getElem? h, hq⟩
theorem flat_mem {ss : List (List Addr)} {q : Addr} (h : q ∈ ss.flatten) : ∃ (k : Nat) (s : List Addr), ss[k]? = some s ∧ q ∈ s := by
  obtain ⟨s, hs, hq⟩ := List.mem_flatten.mp h
  obtain ⟨k, hk⟩ := List.mem_iff_getElem?.mp hs
  exact ⟨k, s, hk, hq⟩
theorem set_get {ss : List (List Addr)} {j k : Nat} {s t : List Addr} (h : (ss.set j s)[k]? = some t) : (k = j ∧ t = s) ∨ (k ≠ j ∧ ss[k]? = some t) := by
  by_cases e : j = k
  · subst e
    have hl : j < ss.length := by
      have := (List.getElem?_eq_some_iff.mp h).1
      rw [List.length_set] at this
      exact this
    rw [List.getElem?_set_self hl] at h
    cases h
    exact .inl ⟨rfl, rfl⟩
  · rw [List.getElem?_set_ne e] at h
    exact .inr ⟨fun z => e z.symm, h⟩
theorem DJ.put {p : Addr} {ss : List (List Addr)} {j : Nat} {s s' : List Addr} (h : DJ p ss) (hj : ss[j]? = some s) (hs : ∀ q ∈ s', q ∈ s ∨ (q ≠ p ∧ q ∉ ss.flatten)) : DJ p (ss.set j s') := by
  have out : ∀ q ∈ s', q ∈ s ∨ ∀ (k : Nat) (t : List Addr), ss[k]? = some t → q ∉ t := fun q hq => (hs q hq).imp id fun z k t ht hm => z.2 (mem_flat ht hm)
  refine ⟨fun k t ht hp => ?_, fun k l t u q hk hl ht hu => ?_⟩
  · rcases set_get ht with ⟨_, e⟩ | ⟨_, e⟩
    · subst e
      rcases hs p hp with z | z
      · exact h.1 j s hj z
      · exact z.1 rfl
    · exact h.1 k t e hp
  · rcases set_get hk with ⟨k1, k2⟩ | ⟨k1, k2⟩ <;> rcases set_get hl with ⟨l1, l2⟩ | ⟨l1, l2⟩
    · rw [k1, l1]
    · subst k2
      rcases out q ht with z | z
      · exact absurd (h.2 l j u s q l2 hj hu z) l1
      · exact absurd hu (z l u l2)
    · subst l2
      rcases out q hu with z | z
      · exact absurd (h.2 k j t s q k2 hj ht z) k1
      · exact absurd ht (z k t k2)
    · exact h.2 k l t u q k2 l2 ht hu
theorem flat_put {ss : List (List Addr)} {j : Nat} {s' : List Addr} {q : Addr} (h : q ∈ (ss.set j s').flatten) : q ∈ s' ∨ q ∈ ss.flatten := by
  obtain ⟨k, t, ht, hq⟩ := flat_mem h
  rcases set_get ht with ⟨_, e⟩ | ⟨_, e⟩
  · subst e; exact .inl hq
  · exact .inr (mem_flat e hq)
theorem DJ.app {p : Addr} {ss : List (List Addr)} {s : List Addr} (h : DJ p ss) (hs : ∀ q ∈ s, q ≠ p ∧ q ∉ ss.flatten) : DJ p (ss ++ [s]) := by
  have at_ : ∀ (k : Nat) (t : List Addr), (ss ++ [s])[k]? = some t → (k < ss.length ∧ ss[k]? = some t) ∨ (k = ss.length ∧ t = s) := fun k t ht => by
    by_cases hk : k < ss.length
    · rw [List.getElem?_append_left hk] at ht; exact .inl ⟨hk, ht⟩
    · rw [List.getElem?_append_right (by omega)] at ht
      have : k - ss.length = 0 := by
        have := (List.getElem?_eq_some_iff.mp ht).1
        rw [List.length_singleton] at this
        omega
      rw [this] at ht
      cases ht
      exact .inr ⟨by omega, rfl⟩
  refine ⟨fun k t ht hp => ?_, fun k l t u q hk hl ht hu => ?_⟩
  · rcases at_ k t ht with ⟨_, e⟩ | ⟨_, e⟩
    · exact h.1 k t e hp
    · subst e; exact (hs p hp).1 rfl
  · rcases at_ k t hk with ⟨_, e⟩ | ⟨k1, e⟩ <;> rcases at_ l u hl with ⟨_, e'⟩ | ⟨l1, e'⟩
    · exact h.2 k l t u q e e' ht hu
    · subst e'; exact absurd (mem_flat e ht) (hs q hu).2
    · subst e; exact absurd (mem_flat e' hu) (hs q ht).2
    · rw [k1, l1]
section
variable {K : PySem.W.Frag} {α β γ δ : Type}
def nlR (K : PySem.W.Frag) {β : Type} (R : Rs K β) : Rs K (List β) where
  rep := fun H v xs as => ∃ p vs ss, as = p :: ss.flatten ∧ v = .ref p ∧ H p = some (.lst vs) ∧ A3 (R.rep H) vs xs ss ∧ DJ p ss
  stay := by
    rintro H H' v b as ⟨p, vs, ss, e, ev, h, z, d⟩ x k
    refine ⟨p, vs, ss, e, ev, k p (by rw [e]; exact List.mem_cons_self ..) _ h, z.imp fun a b s hs w => ?_, d⟩
    exact R.stay w x fun q hq => k q (by rw [e]; exact List.mem_cons_of_mem _ (List.mem_flatten.mpr ⟨s, hs, hq⟩))
  there := fun {H v b as} ⟨p, vs, ss, e, _, h, z, _⟩ q hq => by
    rw [e] at hq
    rcases List.mem_cons.mp hq with c | c
    · rw [c]; exact ⟨_, h, fun z => z⟩
    · obtain ⟨k, s, hs, hq⟩ := flat_mem c
      have hl : k < b.length := by rw [← z.lens]; exact (List.getElem?_eq_some_iff.mp hs).1
      obtain ⟨a, s', _, h3, h4⟩ := z.get (List.getElem?_eq_getElem hl)
      rw [hs] at h3
      cases h3
      exact R.there h4 q hq
def nlRat (K : PySem.W.Frag) {β : Type} (R : Rs K β) (j : Nat) (w : V) : Rs K (List β) where
  rep := fun H v xs as => ∃ p vs ss, as = p :: ss.flatten ∧ v = .ref p ∧ H p = some (.lst vs) ∧ A3 (R.rep H) vs xs ss ∧ DJ p ss ∧ vs[j]? = some w
  stay := by
    rintro H H' v b as ⟨p, vs, ss, e, ev, h, z, d, hj⟩ x k
    refine ⟨p, vs, ss, e, ev, k p (by rw [e]; exact List.mem_cons_self ..) _ h, z.imp fun a b s hs w => ?_, d, hj⟩
    exact R.stay w x fun q hq => k q (by rw [e]; exact List.mem_cons_of_mem _ (List.mem_flatten.mpr ⟨s, hs, hq⟩))
  there := fun {H v b as} ⟨p, vs, ss, e, ev, h, z, d, _⟩ => (nlR K R).there (v := v) (b := b) ⟨p, vs, ss, e, ev, h, z, d⟩
abbrev KvR (K : PySem.W.Frag) {β : Type} (R : Rs K β) (H : Hp) (x : Key × V) (y : Str × β) (s : List Addr) : Prop := (x.1 = Sum.inr y.1 ∧ okS y.1) ∧ R.rep H x.2 y.2 s
def ndR (K : PySem.W.Frag) {β : Type} (R : Rs K β) : Rs K (List (Str × β)) where
  rep := fun H v xs as => ∃ p kvs ss, as = p :: ss.flatten ∧ v = .ref p ∧ H p = some (.dK kvs) ∧ A3 (KvR K R H) kvs xs ss ∧ DJ p ss ∧ (xs.map (·.1)).Nodup
  stay := by
    rintro H H' v b as ⟨p, vs, ss, e, ev, h, z, d, n⟩ x k
    refine ⟨p, vs, ss, e, ev, k p (by rw [e]; exact List.mem_cons_self ..) _ h, z.imp fun a b s hs w => ⟨w.1, ?_⟩, d, n⟩
    exact R.stay w.2 x fun q hq => k q (by rw [e]; exact List.mem_cons_of_mem _ (List.mem_flatten.mpr ⟨s, hs, hq⟩))
  there := fun {H v b as} ⟨p, vs, ss, e, _, h, z, _⟩ q hq => by
    rw [e] at hq
    rcases List.mem_cons.mp hq with c | c
    · rw [c]; exact ⟨_, h, fun z => z⟩
    · obtain ⟨k, s, hs, hq⟩ := flat_mem c
      have hl : k < b.length := by rw [← z.lens]; exact (List.getElem?_eq_some_iff.mp hs).1
      obtain ⟨a, s', _, h3, h4⟩ := z.get (List.getElem?_eq_getElem hl)
      rw [hs] at h3
      cases h3
      exact R.there h4.2 q hq
def nH3 (K : PySem.W.Frag) {α β γ : Type} (R : Rs K α) (R' : Rs K β) (R2 : Rs K γ) : Rs K (α × β × γ) where
  rep := fun H v x as => ∃ p a b c s t u, as = p :: [s, t, u].flatten ∧ v = .ref p ∧ H p = some (.lst [a, b, c]) ∧ (R.rep H a x.1 s ∧ R'.rep H b x.2.1 t ∧ R2.rep H c x.2.2 u) ∧ DJ p [s, t, u]
  stay := fun ⟨p, a, b, c, s, t, u, e, ev, h, z, d⟩ x k => ⟨p, a, b, c, s, t, u, e, ev, k p (by rw [e]; exact List.mem_cons_self ..) _ h, ⟨R.stay z.1 x fun q hq => k q (by rw [e]; exact List.mem_cons_of_mem _ (mem_flat (k := 0) rfl hq)), R'.stay z.2.1 x fun q hq => k q (by rw [e]; exact List.mem_cons_of_mem _ (mem_flat (k := 1) rfl hq)), R2.stay z.2.2 x fun q hq => k q (by rw [e]; exact List.mem_cons_of_mem _ (mem_flat (k := 2) rfl hq))⟩, d⟩
  there := fun ⟨p, a, b, c, s, t, u, e, _, h, z, _⟩ q hq => by
    rw [e] at hq
    rcases List.mem_cons.mp hq with y | y
    · rw [y]; exact ⟨_, h, fun z => z⟩
    · have y : q ∈ s ++ (t ++ (u ++ [])) := y
      rcases List.mem_append.mp y with y | y
      · exact R.there z.1 q y
      · rcases List.mem_append.mp y with y | y
        · exact R'.there z.2.1 q y
        · rw [List.append_nil] at y
          exact R2.there z.2.2 q y
structure EnvO {K : PySem.W.Frag} (own : Nat → List Addr) (H0 : Hp) (σ : L2.St) (H : Hp) (G : Cells K) : Prop where
  old : Same H0 H
  len : σ.length = G.length
  free : ∀ i p, p ∈ own i → H0 p = none ∧ ∃ o, H p = some o ∧ ¬ isTup o
  apart : ∀ i j p, p ∈ own i → p ∈ own j → i = j
  at_ : ∀ (i : Nat) (c : Cell K), G[i]? = some (some c) → ∃ v, σ[i]? = some (some v) ∧ c.ok H0 H v (own i)
variable {own : Nat → List Addr} {H0 H H1 H' : Hp} {σ : L2.St} {G G' : Cells K}
theorem Env.o (E : Env H0 σ H G) : ∃ own, EnvO own H0 σ H G := let ⟨own, h1, h2, h3⟩ := E.at_; ⟨own, E.old, E.len, h1, h2, h3⟩
theorem EnvO.e (E : EnvO own H0 σ H G) : Env H0 σ H G := ⟨E.old, E.len, own, E.free, E.apart, E.at_⟩
theorem EnvO.grow (E : EnvO own H0 σ H G) (e : Same H H') : EnvO own H0 σ H' G := ⟨E.old.trans e, E.len, fun i p hp => ⟨(E.free i p hp).1, let ⟨o, ho, nt⟩ := (E.free i p hp).2; ⟨o, e _ _ ho, nt⟩⟩, E.apart, fun i c hc => let ⟨v, hv, hk⟩ := E.at_ i c hc; ⟨v, hv, cell_stay hk (ext_same e) fun p _ o ho => e _ _ ho⟩⟩
def Fr (own : Nat → List Addr) (H0 : Hp) (q : Addr) : Prop := H0 q = none ∧ ∀ j, q ∉ own j
theorem EnvO.fr {q : Addr} (E : EnvO own H0 σ H G) (h : H q = none) : Fr own H0 q := ⟨free_back E.old h, fun j z => by obtain ⟨o, ho, _⟩ := (E.free j q z).2; rw [h] at ho; cases ho⟩
def But (as : List Addr) (H H' : Hp) : Prop := ∀ c o, c ∉ as → H c = some o → H' c = some o
theorem EnvO.ext {i : Nat} {as : List Addr} (E : EnvO own H0 σ H G) (ha : ∀ p ∈ as, p ∈ own i) (k : But as H H') : ExT K H H' := .mk' fun a o9 t9 h => by
  have ne : ∀ o, H a = some o → isTup o → a ∉ as := fun o ho ht z => by
    obtain ⟨o', ho', nt⟩ := (E.free i a (ha a z)).2
    rw [ho] at ho'
    cases ho'
    exact nt ht
  exact k _ _ (ne _ h t9.up) h
theorem EnvO.chg {i : Nat} {R' : Rs K γ} {b' : γ} {v : V} {as' : List Addr} (E : EnvO own H0 σ H G) (hl : i < G.length) (hv : σ[i]? = some (some v)) (k : But (own i) H H') (ha : ∀ p ∈ as', p ∈ own i ∨ Fr own H0 p) (h : R'.rep H' v b' as') : Env H0 σ H' (G.set i (some (.ow R' b'))) := by
  have x := E.ext (as := own i) (fun _ z => z) k
  have nas : ∀ j p, j ≠ i → p ∈ own j → p ∉ own i := fun j p hj hp z => hj (E.apart j i p hp z)
  refine ⟨fun p o ho => k p o (fun z => ?_) (E.old p o ho), by rw [List.length_set]; exact E.len, fun j => if j = i then as' else own j, fun j p hp => ?_, fun j l p hj hk => ?_, fun j c hc => ?_⟩
  · have := (E.free i p z).1
    rw [this] at ho
    cases ho
  · by_cases hj : j = i
    · simp only [hj, if_true] at hp
      exact ⟨(ha p hp).elim (fun z => (E.free i p z).1) fun z => z.1, R'.there h p hp⟩
    · simp only [hj, if_false] at hp
      obtain ⟨o, ho, nt⟩ := (E.free j p hp).2
      exact ⟨(E.free j p hp).1, o, k p o (nas j p hj hp) ho, nt⟩
  · by_cases hji : j = i <;> by_cases hki : l = i
    · rw [hji, hki]
    · simp only [hji, hki, if_true, if_false] at hj hk
      rcases ha p hj with z | z
      · exact absurd z (nas l p hki hk)
      · exact absurd hk (z.2 l)
    · simp only [hji, hki, if_true, if_false] at hj hk
      rcases ha p hk with z | z
      · exact absurd z (nas j p hji hj)
      · exact absurd hj (z.2 j)
    · simp only [hji, hki, if_false] at hj hk
      exact E.apart j l p hj hk
  · by_cases hj : j = i
    · subst hj
      rw [List.getElem?_set_self hl] at hc
      cases hc
      refine ⟨v, hv, ?_⟩
      simp only [if_true]
      exact h
    · rw [List.getElem?_set_ne (Ne.symm hj)] at hc
      obtain ⟨u, hu, hk'⟩ := E.at_ j c hc
      refine ⟨u, hu, ?_⟩
      simp only [hj, if_false]
      exact cell_stay hk' x fun p hp o ho => k p o (nas j p hj hp) ho
def Pl (te : TE) (G : Cells K) (i : Nat) (R : Rs K β) (b : β) (up : β → Cells K) : Prop :=
  ∀ own H0 σ H, EnvO own H0 σ H G → ∀ Q : VK, (∀ v as H1, Same H H1 → R.rep H1 v b as → (∀ p ∈ as, p ∈ own i) →
    (∀ H3 b' as', But as H1 H3 → (∀ p ∈ as', p ∈ as ∨ Fr own H0 p) → R.rep H3 v b' as' → Env H0 σ H3 (up b')) → Q v H1) → te σ H Q
variable {R : Rs K β} {te ti tk tx tv : TE} {i j : Nat} {b x : β} {n : Int}
theorem pl_var (h : G[i]? = some (some (.ow R b))) : Pl (tVar i) G i R b fun b' => G.set i (some (.ow R b')) := fun own H0 σ H E Q k => by
  obtain ⟨v, hv, hk⟩ := E.at_ i _ h
  have hl : i < G.length := (List.getElem?_eq_some_iff.mp h).1
  exact ⟨v, hv, k v (own i) H (Same.refl H) hk (fun _ z => z) fun H3 b' as' e1 e2 e3 => E.chg hl hv e1 e2 e3⟩
theorem But.less {as bs : List Addr} {H H' : Hp} (k : But as H H') (h : ∀ p ∈ as, p ∈ bs) : But bs H H' := fun c o hc ho => k c o (fun z => hc (h c z)) ho
theorem But.same {as : List Addr} {H1 H2 H3 : Hp} (e : Same H1 H2) (k : But as H2 H3) : But as H1 H3 := fun c o hc ho => k c o hc (e _ _ ho)
end
end
section
section
variable {α : Type}
theorem set_self {l : List α} {j : Nat} {w : α} (h : l[j]? = some w) : l.set j w = l := by
  apply List.ext_getElem?
  intro k
  by_cases e : j = k
  · subst e
    rw [List.getElem?_set_self (List.getElem?_eq_some_iff.mp h).1, h]
  · rw [List.getElem?_set_ne e]
end
section
variable {K : PySem.W.Frag} {α β γ δ ρ : Type} {own : Nat → List Addr} {H0 H H1 H' : Hp} {σ : L2.St} {G G' G1 : Cells K} {D : Ends} {u : TS}
variable {R : Rs K β} {te ti tk tx tv ta tb : TE} {i j m : Nat} {b x : β} {n : Int} {r : Rp α} {q : Rp γ} {k : Str}
theorem Pl.ev {up : β → Cells K} {rv : Rp β} (h : Pl te G i R b up) (f : ∀ H v as, R.rep H v b as → rv H v b) : Ev rv te G b := fun H0 σ H E Q c => let ⟨own, E⟩ := E.o; h own H0 σ H E Q fun v as H1 e1 hr _ _ => c v H1 e1 (f _ _ _ hr)
theorem vw_nl {H : Hp} {v : V} {xs : List α} {as : List Addr} (h : (nl K r).rep H v xs as) : rL r H v xs := let ⟨p, vs, _, ev, hp, z⟩ := h; ⟨p, vs, ev, hp, nows z⟩
theorem A3.a2 {α β : Type} {r : α → β → List Addr → Prop} {q : α → β → Prop} {as : List α} {bs : List β} {ss : List (List Addr)} (h : A3 r as bs ss) (f : ∀ a b s, r a b s → q a b) : A2 q as bs := h.two.imp fun _ _ ⟨s, z⟩ => f _ _ s z
theorem vw_nlR {rv : Rp β} (f : ∀ H v b as, R.rep H v b as → rv H v b) {H : Hp} {v : V} {xs : List β} {as : List Addr} (h : (nlR K R).rep H v xs as) : rL rv H v xs := let ⟨p, vs, _, _, ev, hp, z, _⟩ := h; ⟨p, vs, ev, hp, z.a2 fun _ _ _ w => f _ _ _ _ w⟩
theorem vw_ndR {rv : Rp β} (f : ∀ H v b as, R.rep H v b as → rv H v b) {H : Hp} {v : V} {xs : List (Str × β)} {as : List Addr} (h : (ndR K R).rep H v xs as) : rD rv H v xs := let ⟨p, kvs, _, _, ev, hp, z, _⟩ := h; ⟨p, kvs, ev, .inl hp, z.a2 fun _ _ _ w => ⟨w.1, f _ _ _ _ w.2⟩⟩
def rH3 {α β γ : Type} (r : Rp α) (q : Rp β) (t : Rp γ) : Rp (α × β × γ) := fun H v x => ∃ p a b c, v = .ref p ∧ H p = some (.lst [a, b, c]) ∧ r H a x.1 ∧ q H b x.2.1 ∧ t H c x.2.2
instance {α β γ : Type} {r : Rp α} {q : Rp β} {t : Rp γ} [M : Mono r] [N : Mono q] [O : Mono t] : Mono (rH3 r q t) := ⟨fun e ⟨p, a, b, c, ev, h, h1, h2, h3⟩ => ⟨p, a, b, c, ev, e _ _ h, M.up e h1, N.up e h2, O.up e h3⟩⟩
theorem vw_nH3 {R' : Rs K γ} {R2 : Rs K δ} {r1 : Rp β} {r2 : Rp γ} {r3 : Rp δ} (f : ∀ H v b as, R.rep H v b as → r1 H v b) (g : ∀ H v b as, R'.rep H v b as → r2 H v b) (h : ∀ H v b as, R2.rep H v b as → r3 H v b) {H : Hp} {v : V} {y : β × γ × δ} {as : List Addr} (z : (nH3 K R R' R2).rep H v y as) : rH3 r1 r2 r3 H v y :=
  let ⟨p, a, b, c, s, t, u, _, ev, hp, z, _⟩ := z; ⟨p, a, b, c, ev, hp, f _ _ _ _ z.1, g _ _ _ _ z.2.1, h _ _ _ _ z.2.2⟩
section
variable {r1 : Rp β} {r2 : Rp γ} {r3 : Rp δ} {y : β × γ × δ}
theorem ev_h0 [M : Mono r1] (h : Ev (rH3 r1 r2 r3) ta G y) : Ev r1 (tOp (rIx K) ta (tC (.int 0))) G y.1 := fun H0 σ H E Q c => h H0 σ H E _ fun v H1 e1 ⟨p, a, b, d, ev, hp, h1, h2, h3⟩ => .inl ⟨p, [a, b, d], 0, a, ev, rfl, SqL.of hp, rfl, c a H1 e1 h1⟩
theorem ev_h1 [M : Mono r2] (h : Ev (rH3 r1 r2 r3) ta G y) : Ev r2 (tOp (rIx K) ta (tC (.int 1))) G y.2.1 := fun H0 σ H E Q c => h H0 σ H E _ fun v H1 e1 ⟨p, a, b, d, ev, hp, h1, h2, h3⟩ => .inl ⟨p, [a, b, d], 1, b, ev, rfl, SqL.of hp, rfl, c b H1 e1 h2⟩
theorem ev_h2 [M : Mono r3] (h : Ev (rH3 r1 r2 r3) ta G y) : Ev r3 (tOp (rIx K) ta (tC (.int 2))) G y.2.2 := fun H0 σ H E Q c => h H0 σ H E _ fun v H1 e1 ⟨p, a, b, d, ev, hp, h1, h2, h3⟩ => .inl ⟨p, [a, b, d], 2, d, ev, rfl, SqL.of hp, rfl, c d H1 e1 h3⟩
end
def rAl (i : Nat) : Rp V := fun _ v w => v = w
instance : Frz K (rAl i) := ⟨fun _ h => h⟩
instance : Mono (rAl i) := ⟨fun _ h => h⟩
theorem pl_at {xss : List β} {x : β} {w : V} (hm : G[m]? = some (fc (rAl i) w)) (hi : G[i]? = some (some (.ow (nlRat K R j w) xss))) (hx : xss[j]? = some x) : Pl (tVar m) G i R x fun x' => G.set i (some (.ow (nlRat K R j w) (xss.set j x'))) := fun own H0 σ H E Q c => by
  obtain ⟨v0, hv0, hr0⟩ := E.at_ m _ hm
  have ev0 : v0 = w := hr0.2 H (ExT.refl _)
  subst ev0
  obtain ⟨v, hv, p, vs, ss, ea, ev, hp, z, d, hw⟩ := E.at_ i _ hi
  have hl : i < G.length := (List.getElem?_eq_some_iff.mp hi).1
  obtain ⟨w', s, hw', hss, hrs⟩ := z.get hx
  rw [hw] at hw'
  cases hw'
  have hin : ∀ q ∈ s, q ∈ own i := fun q hq => by rw [ea]; exact List.mem_cons_of_mem _ (mem_flat hss hq)
  refine ⟨v0, hv0, c v0 s H (Same.refl H) hrs hin fun H3 b' s' k1 k2 k3 => ?_⟩
  have fresh : ∀ q ∈ s', q ∈ s ∨ (q ≠ p ∧ q ∉ ss.flatten) := fun q hq => (k2 q hq).imp id fun f => ⟨fun e => f.2 i (by rw [ea, e]; exact List.mem_cons_self ..), fun hm => f.2 i (by rw [ea]; exact List.mem_cons_of_mem _ hm)⟩
  have xT : ExT K H H3 := E.ext (i := i) hin k1
  refine E.chg hl hv (k1.less hin) (fun q hq => ?_) (R' := nlRat K R j v0) (as' := p :: (ss.set j s').flatten) ⟨p, vs, ss.set j s', rfl, ev, k1 p _ (d.1 j s hss) hp, ?_, d.put hss fresh, hw⟩
  · rcases List.mem_cons.mp hq with c | c
    · exact .inl (by rw [ea, c]; exact List.mem_cons_self ..)
    · rcases flat_put c with c | c
      · exact (k2 q c).imp (hin q) id
      · exact .inl (by rw [ea]; exact List.mem_cons_of_mem _ c)
  · have := z.put (q := R.rep H3) (j := j) (a := v0) (b := b') (s := s') (fun m a b t hm ht hr => R.stay hr xT fun q hq o ho => k1 q o (fun zz => hm (d.2 m j t s q ht hss hq zz)) ho) k3
    rw [set_self hw] at this
    exact this
theorem a_al {r : Rp α} {xss : List (List α)} {x : List α} {w : V} (hm : G[m]? = some (fc (rAl i) w)) (hi : G[i]? = some (some (.ow (nlRat K (nl K r) j w) xss))) (hx : xss[j]? = some x) : Ev (rL r) (tVar m) G x := (pl_at hm hi hx).ev fun _ _ _ z => vw_nl z
end
end
section
section
variable {K : PySem.W.Frag} {α β γ δ ρ : Type} {own : Nat → List Addr} {H0 H H1 H2 H' H'' : Hp} {σ : L2.St} {G G' G1 : Cells K} {D : Ends} {u : TS}
variable {R : Rs K β} {te ti tk tx tv ta tb : TE} {i j m : Nat} {b : β} {x : α} {n : Int} {r : Rp α} {q : Rp γ} {k : Str}
structure Gnd (K : PySem.W.Frag) (H1 H H' H2 : Hp) : Prop where
  low : Same H1 H2
  up : Same H2 H'
  new : ∀ b o, H b = none → H' b = some o → H2 b = some o
  ext : ExT K H' H2
theorem Gnd.self (h : Same H1 H) (e : Same H H') : Gnd K H1 H H' H' := ⟨h.trans e, Same.refl _, fun _ _ _ h => h, ExT.refl _⟩
def Rg (r : Rp α) (te : TE) (G : Cells K) (x : α) : Prop := ∀ H1 σ H, Env H1 σ H G → ∀ Q : VK, (∀ v H', Same H H' → (∀ H2, Gnd K H1 H H' H2 → r H2 v x) → Q v H') → te σ H Q
theorem Rg.ev (h : Rg r te G x) : Ev r te G x := fun H1 σ H E Q c => h H1 σ H E _ fun v H' e g => c v H' e (g H' (.self E.old e))
theorem EnvO.frz {rv : Rp β} [M : Mono rv] (E : EnvO own H1 σ H G) (hi : G[i]? = some (some (.ow R b))) (f : ∀ H v as, R.rep H v b as → rv H v b) : ∃ H2, Same H1 H2 ∧ Env H2 σ H (G.set i (rc rv b)) := by
  classical
  let X : Addr → Prop := fun b => (∃ j, j ≠ i ∧ b ∈ own j)
  have hX : ∀ b, H1 b ≠ none → ¬ X b := fun b hb ⟨j, _, hj⟩ => hb (E.free j b hj).1
  have key : ∀ b, cutH H X b = if X b then none else H b := fun b => rfl
  have s12 : Same H1 (cutH H X) := fun b o ho => by
    rw [key, if_neg (hX b (by rw [ho]; exact fun z => nomatch z))]
    exact E.old b o ho
  have s2 : Same (cutH H X) H := fun b o ho => by
    rw [key] at ho
    split at ho
    · cases ho
    · exact ho
  have xt : ExT K H (cutH H X) := .mk' fun a o9 t9 q => by
    have nX : ∀ o, H a = some o → isTup o → ¬ X a := fun o ho t ⟨j, _, hj⟩ => by
      obtain ⟨u, hu, nu⟩ := (E.free j a hj).2
      rw [ho] at hu
      cases hu
      exact nu t
    exact by rw [key, if_neg (nX _ q t9.up)]; exact q
  refine ⟨cutH H X, s12, s2, by rw [List.length_set]; exact E.len, fun j => if j = i then [] else own j, fun j p hp => ?_, fun j k p hj hk => ?_, fun j c hc => ?_⟩
  · by_cases hj : j = i
    · simp only [hj, if_true] at hp
      cases hp
    · simp only [hj, if_false] at hp
      exact ⟨by rw [key, if_pos ⟨j, hj, hp⟩], (E.free j p hp).2⟩
  · by_cases hji : j = i
    · simp only [hji, if_true] at hj
      cases hj
    · by_cases hki : k = i
      · simp only [hki, if_true] at hk
        cases hk
      · simp only [hji, hki, if_false] at hj hk
        exact E.apart j k p hj hk
  · by_cases hj : j = i
    · subst hj
      have hl : j < G.length := (List.getElem?_eq_some_iff.mp hi).1
      rw [List.getElem?_set_self hl] at hc
      cases hc
      obtain ⟨v, hv, hr⟩ := E.at_ j _ hi
      refine ⟨v, hv, by simp, ?_⟩
      refine f _ v (own j) (R.stay hr xt fun p hp o ho => ?_)
      rw [key, if_neg fun ⟨l, hl, hq⟩ => hl (E.apart l j p hq hp)]
      exact ho
    · rw [List.getElem?_set_ne (Ne.symm hj)] at hc
      obtain ⟨v, hv, hk⟩ := E.at_ j c hc
      refine ⟨v, hv, ?_⟩
      simp only [hj, if_false]
      cases c with
      | ow R b => exact hk
      | ro r m b => exact ⟨hk.1, m.up s12 hk.2⟩
theorem have_frzR {rv : Rp β} [M : Mono rv] (hi : G[i]? = some (some (.ow R b))) (f : ∀ H v as, R.rep H v b as → rv H v b) (h : Have H0 G σ H) : Have H0 (G.set i (rc rv b)) σ H := by
  obtain ⟨H1, e, E⟩ := h
  obtain ⟨own, E⟩ := E.o
  obtain ⟨H2, s, E2⟩ := E.frz hi f
  exact ⟨H2, e.trans s, E2⟩
theorem q_frzR {t : TS} {rv : Rp β} [M : Mono rv] (hi : G[i]? = some (some (.ow R b))) (f : ∀ H v as, R.rep H v b as → rv H v b) (h : Sv H0 (G.set i (rc rv b)) t D) : Sv H0 G t D := fun σ H hv => h σ H (have_frzR hi f hv)
def dl (H : Hp) (p : Addr) : Hp := fun b => if b = p then none else H b
theorem dl_ne {p q : Addr} (h : q ≠ p) : dl H p q = H q := by unfold dl; rw [if_neg h]
theorem dl_at {p : Addr} : dl H p p = none := by unfold dl; rw [if_pos rfl]
theorem dl_same {p : Addr} (e : Same H H') : Same (dl H p) (dl H' p) := fun b o hb => by
  by_cases h : b = p
  · rw [h, dl_at] at hb; cases hb
  · rw [dl_ne h] at hb ⊢; exact e _ _ hb
theorem dl_low {p : Addr} : Same (dl H p) H := fun b o hb => by
  by_cases h : b = p
  · rw [h, dl_at] at hb; cases hb
  · rw [dl_ne h] at hb; exact hb
theorem EnvO.dlx {p : Addr} (E : EnvO own H0 σ H G) (hp : p ∈ own i) : ExT K H (dl H p) := .mk' fun a o9 t9 q => by
  have ne : ∀ o, H a = some o → isTup o → a ≠ p := fun o ho t e => by
    obtain ⟨o', ho', nt⟩ := (E.free i p hp).2
    rw [e] at ho
    rw [ho] at ho'
    cases ho'
    exact nt t
  exact by rw [dl_ne (ne _ q t9.up)]; exact q
def Ap (r : Rp α) (te : TE) (G : Cells K) (i : Nat) (x : α) : Prop := ∀ own H0 σ H, EnvO own H0 σ H G → ∀ Q : VK, (∀ v H', Same H H' → (∀ p ∈ own i, r (dl H' p) v x) → Q v H') → te σ H Q
def ApA (A : Ra α) (ta : TA) (G : Cells K) (i : Nat) (x : α) : Prop := ∀ own H0 σ H, EnvO own H0 σ H G → ∀ Q : List V → Hp → Prop, (∀ vs H', Same H H' → (∀ p ∈ own i, A (dl H' p) vs x) → Q vs H') → ta σ H Q
theorem apa_nil : ApA (K := K) aN tNil G i () := fun own H0 σ H E Q c => c [] H (Same.refl H) fun _ _ => rfl
theorem apa_cons {A : Ra γ} {t : TA} {y : γ} [M : Mono r] (h : Ap r te G i x) (hr : ApA A t G i y) : ApA (aC r A) (tCons te t) G i (x, y) := fun own H0 σ H E Q c =>
  h own H0 σ H E _ fun v H1 e1 h1 => hr own H0 σ H1 (E.grow e1) _ fun vs H2 e2 h2 => c (v :: vs) H2 (e1.trans e2) fun p hp => ⟨v, vs, rfl, M.up (dl_same e2) (h1 p hp), h2 p hp⟩
theorem ap_fz [F : Frz K r] (h : Ev r te G x) : Ap r te G i x := fun own H0 σ H E Q c => h H0 σ H E.e _ fun v H' e hr => c v H' e fun p hp => F.up ((E.grow e).dlx hp) hr
def nlA (K : PySem.W.Frag) {β : Type} (r : Rp β) (p : Addr) : Rs K (List β) where
  rep := fun H v xs as => (nl K r).rep H v xs as ∧ v = .ref p
  stay := fun h x k => ⟨(nl K r).stay h.1 x k, h.2⟩
  there := fun h => (nl K r).there h.1
theorem pl_varA {xs : List α} {p : Addr} (h : G[i]? = some (some (.ow (nlA K r p) xs))) : Pl (tVar i) G i (nl K r) xs fun ys => G.set i (some (.ow (nlA K r p) ys)) := fun own H0 σ H E Q c => by
  obtain ⟨v, hv, hr⟩ := E.at_ i _ h
  have hl : i < G.length := (List.getElem?_eq_some_iff.mp h).1
  exact ⟨v, hv, c v (own i) H (Same.refl H) hr.1 (fun _ z => z) fun H3 b' as' e1 e2 e3 => E.chg hl hv e1 e2 (R' := nlA K r p) ⟨e3, hr.2⟩⟩
theorem a_nlA {xs : List α} {p : Addr} (h : G[i]? = some (some (.ow (nlA K r p) xs))) : Ev (rL r) (tVar i) G xs := (pl_varA h).ev fun _ _ _ z => vw_nl z
end
end
section
section
variable {K : PySem.W.Frag} {α β γ δ ρ : Type} {own : Nat → List Addr} {H0 H H1 H2 H' H'' : Hp} {σ : L2.St} {G G' Gx : Cells K} {D : Ends} {u : TS}
variable {R : Rs K β} {R' : Rs K γ} {R2 : Rs K δ} {te ti tk tx tv ta tb tc : TE} {i j m : Nat} {b : β} {x : α} {n : Int} {r : Rp α} {q : Rp γ} {k : Str}
theorem nw_nilR : Nw (nlR K R) (tLst tNil) G [] := fun H0 σ H E Q c => ⟨Nat.zero_le _, fun p hp => c _ _ [p] (same_new hp) (fun b hb => by rw [List.mem_singleton.mp hb]; exact hp) ⟨p, [], [], rfl, rfl, upd_same, .nil, fun k s h => by simp at h, fun k l s t q h => by simp at h⟩⟩
theorem nw_dnewR : Nw (ndR K R) tDNewK G [] := fun H0 σ H E Q c p hp => c _ _ [p] (same_new hp) (fun b hb => by rw [List.mem_singleton.mp hb]; exact hp) ⟨p, [], [], rfl, rfl, upd_same, .nil, ⟨fun k s h => by simp at h, fun k l s t q h => by simp at h⟩, List.nodup_nil⟩
theorem nw_H3 {c : γ} {d : δ} (h1 : Nw R ta G b) (h2 : Nw R' tb G c) (h3 : Nw R2 tc G d) : Nw (nH3 K R R' R2) (tLst (tCons ta (tCons tb (tCons tc tNil)))) G (b, c, d) := fun H0 σ H E Q kk =>
  h1 H0 σ H E _ fun v1 Ha a1 e1 n1 r1 => h2 H0 σ Ha (E.grow e1) _ fun v2 Hb a2 e2 n2 r2 => h3 H0 σ Hb ((E.grow e1).grow e2) _ fun v3 Hc a3 e3 n3 r3 => ⟨by show 3 ≤ sizeLine; decide, fun p hp => by
    have x12 := e2.trans e3
    have s1 := R.stay r1 (ext_same x12) fun q _ o ho => x12 _ _ ho
    have s2 := R'.stay r2 (ext_same e3) fun q _ o ho => e3 _ _ ho
    have np : Same Hc (upd Hc p (.lst [v1, v2, v3])) := same_new hp
    have t1 := R.stay s1 (ext_same np) fun q _ o ho => np _ _ ho
    have t2 := R'.stay s2 (ext_same np) fun q _ o ho => np _ _ ho
    have t3 := R2.stay r3 (ext_same np) fun q _ o ho => np _ _ ho
    have in1 : ∀ q ∈ a1, ∃ o, Ha q = some o := fun q hq => let ⟨o, ho, _⟩ := R.there r1 q hq; ⟨o, ho⟩
    have in2 : ∀ q ∈ a2, ∃ o, Hb q = some o := fun q hq => let ⟨o, ho, _⟩ := R'.there r2 q hq; ⟨o, ho⟩
    have in3 : ∀ q ∈ a3, ∃ o, Hc q = some o := fun q hq => let ⟨o, ho, _⟩ := R2.there r3 q hq; ⟨o, ho⟩
    have p1 : p ∉ a1 := fun z => by obtain ⟨o, ho⟩ := in1 p z; rw [x12 _ _ ho] at hp; cases hp
    have p2 : p ∉ a2 := fun z => by obtain ⟨o, ho⟩ := in2 p z; rw [e3 _ _ ho] at hp; cases hp
    have p3 : p ∉ a3 := fun z => by obtain ⟨o, ho⟩ := in3 p z; rw [ho] at hp; cases hp
    have d12 : ∀ q, q ∈ a1 → q ∉ a2 := fun q h h' => by obtain ⟨o, ho⟩ := in1 q h; rw [n2 q h'] at ho; cases ho
    have d13 : ∀ q, q ∈ a1 → q ∉ a3 := fun q h h' => by obtain ⟨o, ho⟩ := in1 q h; have := e2 _ _ ho; rw [n3 q h'] at this; cases this
    have d23 : ∀ q, q ∈ a2 → q ∉ a3 := fun q h h' => by obtain ⟨o, ho⟩ := in2 q h; rw [n3 q h'] at ho; cases ho
    have at_ : ∀ (l : Nat) (s : List Addr), [a1, a2, a3][l]? = some s → (l = 0 ∧ s = a1) ∨ (l = 1 ∧ s = a2) ∨ (l = 2 ∧ s = a3) := fun l s h => by
      match l, h with
      | 0, h => cases h; exact .inl ⟨rfl, rfl⟩
      | 1, h => cases h; exact .inr (.inl ⟨rfl, rfl⟩)
      | 2, h => cases h; exact .inr (.inr ⟨rfl, rfl⟩)
      | l + 3, h => simp at h
    refine kk _ _ (p :: [a1, a2, a3].flatten) (((e1.trans e2).trans e3).trans np) (fun q hq => ?_) ⟨p, v1, v2, v3, a1, a2, a3, rfl, rfl, upd_same, ⟨t1, t2, t3⟩, fun l s h => ?_, fun l l' s t q h h' hq hq' => ?_⟩
    · rcases List.mem_cons.mp hq with z | z
      · rw [z]; exact free_back ((e1.trans e2).trans e3) hp
      · obtain ⟨l, s, hs, hq⟩ := flat_mem z
        rcases at_ l s hs with ⟨_, e⟩ | ⟨_, e⟩ | ⟨_, e⟩
        · rw [e] at hq; exact n1 q hq
        · rw [e] at hq; exact free_back e1 (n2 q hq)
        · rw [e] at hq; exact free_back (e1.trans e2) (n3 q hq)
    · rcases at_ l s h with ⟨_, e⟩ | ⟨_, e⟩ | ⟨_, e⟩ <;> rw [e]
      · exact p1
      · exact p2
      · exact p3
    · rcases at_ l s h with ⟨e1, e⟩ | ⟨e1, e⟩ | ⟨e1, e⟩ <;> rcases at_ l' t h' with ⟨f1, f⟩ | ⟨f1, f⟩ | ⟨f1, f⟩ <;> rw [e] at hq <;> rw [f] at hq' <;> first | exact absurd hq' (d12 q hq) | exact absurd hq' (d13 q hq) | exact absurd hq' (d23 q hq) | exact absurd hq (d12 q hq') | exact absurd hq (d13 q hq') | exact absurd hq (d23 q hq') | (rw [e1, f1])⟩
theorem a_H3 {α β γ : Type} {r1 : Rp α} {r2 : Rp β} {r3 : Rp γ} {y : List α × List (Str × List β) × List (Str × List γ)} (h : G[i]? = some (some (.ow (nH3 K (nl K r1) (ndR K (nl K r2)) (ndR K (nl K r3))) y))) : Ev (rH3 (rL r1) (rD (rL r2)) (rD (rL r3))) (tVar i) G y := (pl_var h).ev fun _ _ _ z => vw_nH3 (fun _ _ _ _ z => vw_nl z) (fun _ _ _ _ z => vw_ndR (fun _ _ _ _ z => vw_nl z) z) (fun _ _ _ _ z => vw_ndR (fun _ _ _ _ z => vw_nl z) z) z
theorem a_nlR {α : Type} {r : Rp α} {xss : List (List α)} (h : G[i]? = some (some (.ow (nlR K (nl K r)) xss))) : Ev (rL (rL r)) (tVar i) G xss := (pl_var h).ev fun _ _ _ z => vw_nlR (fun _ _ _ _ z => vw_nl z) z
section
variable {r1 : Rp β} {r2 : Rp γ} {r3 : Rp δ} {y : β × γ × δ}
theorem ixc_h0 [M : Mono r1] : IxC K (rH3 r1 r2 r3) y (tC (.int 0)) G r1 y.1 := fun ta h => ev_h0 h
theorem ixc_h1 [M : Mono r2] : IxC K (rH3 r1 r2 r3) y (tC (.int 1)) G r2 y.2.1 := fun ta h => ev_h1 h
theorem ixc_h2 [M : Mono r3] : IxC K (rH3 r1 r2 r3) y (tC (.int 2)) G r3 y.2.2 := fun ta h => ev_h2 h
end
end
end
section
section
variable {K : PySem.W.Frag} {α β γ δ ρ : Type} {H0 H H1 H2 H' H'' : Hp} {σ : L2.St} {G G' Gx : Cells K} {D : Ends} {u : TS}
variable {te ti tk tx tv ta tb tc td ty : TE} {i j m : Nat} {x : α} {n : Int} {r : Rp α} {q : Rp γ} {k : Str}
theorem a_dIn {xs : List (Str × α)} (h : Ev rS ty G k) (h' : Ev (rD r) td G xs) (M : Mono r) : Ev rB (tDIn ty td) G (dkey xs k).isSome := fun H0 σ H E Q c =>
  h H0 σ H E _ fun v H1 e1 hv => h' H0 σ H1 (E.grow e1) _ fun w H2 e2 ⟨a, kvs, ew, hr, z⟩ => by
    rcases kv_key z k with ⟨v', b', e5, e6, _⟩ | ⟨e5, e6⟩
    · exact ⟨a, some v', ew, .inl ⟨kvs, Sum.inr k, hr, hv.1, e5.symm⟩, c _ H2 (e1.trans e2) (by rw [e6]; rfl)⟩
    · exact ⟨a, none, ew, .inl ⟨kvs, Sum.inr k, hr, hv.1, e5.symm⟩, c _ H2 (e1.trans e2) (by rw [e6]; rfl)⟩
theorem a_dNin {xs : List (Str × α)} (h : Ev rS ty G k) (h' : Ev (rD r) td G xs) (M : Mono r) : Ev rB (tDNotIn ty td) G (!(dkey xs k).isSome) := fun H0 σ H E Q c =>
  h H0 σ H E _ fun v H1 e1 hv => h' H0 σ H1 (E.grow e1) _ fun w H2 e2 ⟨a, kvs, ew, hr, z⟩ => by
    rcases kv_key z k with ⟨v', b', e5, e6, _⟩ | ⟨e5, e6⟩
    · exact ⟨a, some v', ew, .inl ⟨kvs, Sum.inr k, hr, hv.1, e5.symm⟩, c _ H2 (e1.trans e2) (by rw [e6]; rfl)⟩
    · exact ⟨a, none, ew, .inl ⟨kvs, Sum.inr k, hr, hv.1, e5.symm⟩, c _ H2 (e1.trans e2) (by rw [e6]; rfl)⟩
def rZ : Rp Unit := fun H v _ => ∃ a, v = .ref a ∧ H a = some (.dK [])
instance : Mono rZ := ⟨fun e ⟨a, ev, h⟩ => ⟨a, ev, e _ _ h⟩⟩
theorem ev_Z {y : Unit} : Ev rZ tDNewK G y := fun H0 σ H E Q c p hp => c _ _ (same_new hp) ⟨p, rfl, upd_same⟩
end
end
section
def keyT (e : Int × Value) : Str := match e.2 with | .str k _ => k | _ => Str.empty
def GoodT (w : World) (e : Int × Value) : Prop := ∃ k tk, e.2 = Value.str k tk ∧ e.1 = hashStr w k
def SetT (w : World) (h : Heap) (a : Addr) (S : Str → Bool) (n : Nat) : Prop :=
  ∃ o es ep t, h.get? a = some o ∧ o.ExactSet ∧ o.data = .set es ep t ∧ (∀ e ∈ es.toList, GoodT w e) ∧ (es.toList.map keyT).Nodup ∧ (∀ k, S k = true ↔ k ∈ es.toList.map keyT) ∧
    es.size < scanBound ∧ t.fits es.size = true ∧ es.size = n ∧ Ris t.place.toList ∧ (w.params.followText "set-order" = true ∨ t.led = true)
section
variable {P : Program} {w : World} {h h' : Heap} {a : Addr} {S : Str → Bool} {n : Nat}
theorem SetT.at (R : SetT w h a S n) (k : ∀ o, h.get? a = some o → h'.get? a = some o) : SetT w h' a S n := by
  obtain ⟨o, es, ep, t, ho, r⟩ := R
  exact ⟨o, es, ep, t, k o ho, r⟩
theorem SetT.lt (R : SetT w h a S n) : a < h.objs.size := by
  obtain ⟨o, es, ep, t, ho, r⟩ := R
  exact Heap.lt_size ho
end
def SetTO (w : World) (a : Addr) (S : Str → Bool) (n : Nat) : HO := .ext fun h => SetT w h a S n
section
variable {X : Cx}
def rSetLT (K : PySem.W.Frag) (w : World) : List V → Hp → VK → Prop := fun vs H Q => ∃ (a : Addr) (xs : List Str), vs = [V.ref a] ∧ SqL K H a (xs.map V.str) ∧ xs.length + 1 < scanBound ∧
  ∀ (p : Addr) (c : Nat), H p = none → Q (.ref p) (upd H p (SetTO w p (fun k => decide (k ∈ xs)) c))
def rSortedT (w : World) : List V → Hp → VK → Prop := fun vs H Q => ∃ (a : Addr) (S : Str → Bool) (n : Nat), vs = [V.ref a] ∧ H a = some (SetTO w a S n) ∧
  ∀ (ns : List Str) (p : Addr), sortedS ns = true → ns.Nodup → (∀ k : Str, k ∈ ns ↔ S k = true) → H p = none → Q (.ref p) (upd H p (.lst (ns.map V.str)))
end
def insU (k : Str) : List Str → List Str
  | [] => [k]
  | x :: r => if k = x then x :: r else if k.cps.toList < x.cps.toList then k :: x :: r else x :: insU k r
def srtU : List Str → List Str
  | [] => []
  | x :: r => insU x (srtU r)
abbrev LtS (a b : Str) : Prop := a.cps.toList < b.cps.toList
abbrev Asd (l : List Str) : Prop := l.Pairwise LtS
theorem str_eq {a b : Str} (h : a.cps.toList = b.cps.toList) : a = b := by
  obtain ⟨x⟩ := a
  obtain ⟨y⟩ := b
  have e : x = y := Array.toList_inj.mp h
  rw [e]
theorem ltS_irr (a : Str) : ¬ LtS a a := List.lt_irrefl _
theorem ltS_tr {a b c : Str} (h : LtS a b) (h' : LtS b c) : LtS a c := List.lt_trans h h'
theorem ltS_tot {a b : Str} (h : ¬ LtS a b) (n : a ≠ b) : LtS b a := by
  rcases Classical.em (LtS b a) with c | c
  · exact c
  · exact absurd (str_eq (List.le_antisymm (List.not_lt.mp c) (List.not_lt.mp h))) n
theorem mem_insU {k y : Str} : ∀ {l : List Str}, y ∈ insU k l ↔ y = k ∨ y ∈ l
  | [] => by simp [insU]
  | x :: r => by
    unfold insU
    by_cases e : k = x
    · rw [if_pos e, e, List.mem_cons]
      exact ⟨fun h => .inr h, fun h => h.elim .inl id⟩
    · rw [if_neg e]
      by_cases c : k.cps.toList < x.cps.toList
      · rw [if_pos c, List.mem_cons]
      · rw [if_neg c, List.mem_cons, mem_insU (l := r), List.mem_cons]
        exact ⟨fun h => h.elim (fun a => .inr (.inl a)) (fun a => a.elim .inl fun b => .inr (.inr b)), fun h => h.elim (fun a => .inr (.inl a)) (fun a => a.elim .inl fun b => .inr (.inr b))⟩
theorem asd_insU {k : Str} : ∀ {l : List Str}, Asd l → Asd (insU k l)
  | [], _ => by simp [insU]
  | x :: r, h => by
    obtain ⟨h1, h2⟩ := List.pairwise_cons.mp h
    unfold insU
    by_cases e : k = x
    · rw [if_pos e]; exact h
    · rw [if_neg e]
      by_cases c : k.cps.toList < x.cps.toList
      · rw [if_pos c]
        exact List.pairwise_cons.mpr ⟨fun y hy => (List.mem_cons.mp hy).elim (fun a => a ▸ c) fun a => ltS_tr c (h1 y a), h⟩
      · rw [if_neg c]
        refine List.pairwise_cons.mpr ⟨fun y hy => ?_, asd_insU h2⟩
        rcases mem_insU.mp hy with a | a
        · exact a ▸ ltS_tot c e
        · exact h1 y a
theorem mem_srtU {y : Str} : ∀ {l : List Str}, y ∈ srtU l ↔ y ∈ l
  | [] => Iff.rfl
  | x :: r => by
    show y ∈ insU x (srtU r) ↔ _
    rw [mem_insU, mem_srtU (l := r), List.mem_cons]
theorem asd_srtU : ∀ (l : List Str), Asd (srtU l)
  | [] => List.Pairwise.nil
  | x :: r => asd_insU (asd_srtU r)
theorem asd_ext : ∀ {l l' : List Str}, Asd l → Asd l' → (∀ k, k ∈ l ↔ k ∈ l') → l = l'
  | [], [], _, _, _ => rfl
  | [], y :: r, _, _, h => absurd ((h y).mpr List.mem_cons_self) (by simp)
  | x :: r, [], _, _, h => absurd ((h x).mp List.mem_cons_self) (by simp)
  | x :: r, y :: t, hl, hl', h => by
    obtain ⟨a1, a2⟩ := List.pairwise_cons.mp hl
    obtain ⟨b1, b2⟩ := List.pairwise_cons.mp hl'
    have e : x = y := by
      rcases List.mem_cons.mp ((h x).mp List.mem_cons_self) with c | c
      · exact c
      · rcases List.mem_cons.mp ((h y).mpr List.mem_cons_self) with d | d
        · exact d.symm
        · exact absurd (ltS_tr (a1 y d) (b1 x c)) (ltS_irr x)
    subst e
    rw [asd_ext a2 b2 fun k => ⟨fun hk => ?_, fun hk => ?_⟩]
    · rcases List.mem_cons.mp ((h k).mp (List.mem_cons_of_mem _ hk)) with c | c
      · exact absurd (a1 k hk) (c ▸ ltS_irr _)
      · exact c
    · rcases List.mem_cons.mp ((h k).mpr (List.mem_cons_of_mem _ hk)) with c | c
      · exact absurd (b1 k hk) (c ▸ ltS_irr _)
      · exact c
theorem asd_risingS : ∀ (p : Str) (l : List Str), risingS p l = true → (p :: l).Nodup → Asd (p :: l)
  | p, [], _, _ => by simp
  | p, x :: r, h, n => by
    have h0 : (!ltCps x.cps.toList p.cps.toList && risingS x r) = true := h
    rw [Bool.and_eq_true] at h0
    obtain ⟨h1, h2⟩ := h0
    obtain ⟨n1, n2⟩ := List.nodup_cons.mp n
    have ih := asd_risingS x r h2 n2
    have hx : LtS p x := by
      refine ltS_tot (a := x) (fun c => ?_) fun e => n1 (e ▸ List.mem_cons_self)
      rw [ltCps_eq] at h1
      have c' : decide (x.cps.toList < p.cps.toList) = true := decide_eq_true c
      rw [c'] at h1
      cases h1
    refine List.pairwise_cons.mpr ⟨fun y hy => ?_, ih⟩
    rcases List.mem_cons.mp hy with e | e
    · exact e ▸ hx
    · exact ltS_tr hx ((List.pairwise_cons.mp ih).1 y e)
theorem srtU_of {ns xs : List Str} (hs : sortedS ns = true) (hn : ns.Nodup) (hm : ∀ k : Str, k ∈ ns ↔ decide (k ∈ xs) = true) : ns = srtU xs := by
  refine asd_ext ?_ (asd_srtU xs) fun k => by rw [hm k, decide_eq_true_eq, mem_srtU]
  cases ns with
  | nil => exact List.Pairwise.nil
  | cons p l => exact asd_risingS p l hs hn
section
variable {K : PySem.W.Frag} {w : World} {G : Cells K} {ta : TE}
theorem strs_A2 {H : Hp} : ∀ {vs : List V} {xs : List Str}, A2 (rS H) vs xs → vs = xs.map V.str
  | _, _, .nil => rfl
  | _, _, .cons h t => by rw [h.1, strs_A2 t] <;> rfl
theorem A2_strs {H : Hp} : ∀ (xs : List Str), (∀ x ∈ xs, rS H (V.str x) x) → A2 (rS H) (xs.map V.str) xs
  | [], _ => .nil
  | x :: r, h => .cons (h x List.mem_cons_self) (A2_strs r fun y hy => h y (List.mem_cons_of_mem _ hy))
theorem A2_mem {H : Hp} {P : Str → Prop} : ∀ {vs : List V} {xs : List Str}, A2 (fun (_ : V) x => P x) vs xs → ∀ x ∈ xs, P x
  | _, _, .nil, x, h => absurd h (by simp)
  | _, _, .cons h t, x, hx => (List.mem_cons.mp hx).elim (fun e => e ▸ h) fun e => A2_mem (H := H) t x e
theorem a_srt {xs : List Str} (h : Ev (rL rS) ta G xs) (hb : xs.length + 1 < 4096) : Nw (nl K rS) (tCB (rSortedT w) (tCons (tCB (rSetLT K w) (tCons ta tNil)) tNil)) G (srtU xs) := fun H0 σ H E Q k =>
  h H0 σ H E _ fun v H1 e1 ⟨p, us, ev, hp, z⟩ => by
    have eu : us = xs.map V.str := strs_A2 z
    have ok : ∀ x ∈ xs, okS x := A2_mem (H := H1) (z.imp fun _ _ q => q.2)
    refine ⟨p, xs, by rw [ev], by rw [← eu]; exact SqL.of hp, by unfold scanBound; omega, fun q c hq => ?_⟩
    refine ⟨q, _, c, rfl, upd_same, fun ns l hs hn hm hl => ?_⟩
    have en : ns = srtU xs := srtU_of hs hn hm
    subst en
    have e2 : Same H1 (upd H1 q (SetTO w q (fun k => decide (k ∈ xs)) c)) := same_new hq
    refine k _ _ [l] ((e1.trans e2).trans (same_new hl)) (fun b hb => by rw [List.mem_singleton.mp hb]; exact free_back (e1.trans e2) hl) ⟨l, _, rfl, rfl, upd_same, ?_⟩
    exact (A2_strs (H := upd (upd H1 q (SetTO w q (fun k => decide (k ∈ xs)) c)) l (.lst ((srtU xs).map V.str))) (srtU xs) fun x hx => ⟨rfl, ok x (mem_srtU.mp hx)⟩).imp fun _ _ q => stb q
end
end
section
section
variable {K : PySem.W.Frag} {α β γ δ ρ : Type} {H0 H H1 H2 H' H'' : Hp} {σ : L2.St} {G G' Gx : Cells K} {D : Ends} {u : TS}
variable {te ti tk tx tv ta tb tc td ty : TE} {i j m : Nat} {x : α} {n : Int} {r : Rp α} {q : Rp γ} {k : Str}
abbrev rStrS : List V → Hp → VK → Prop := fun xs H Q => ∃ a, xs = [.str a] ∧ Q (.str a) H
theorem a_strS {x : Str} (h : Ev rS te G x) : Ev rS (tCB rStrS (tCons te tNil)) G x := ev_cb (ea_cons h ea_nil) fun H vs ⟨v, ws, e, hv, e2⟩ Q kk => by
  refine ⟨x, by rw [e, show ws = [] from e2, hv.1], kk _ H (Same.refl H) ⟨rfl, hv.2⟩⟩
end
end
section
section
variable {K : PySem.W.Frag} {α β γ ρ : Type}
def fA (F : RF K β) (f : Str) (R : Rs K α) : RF K (β × α) where
  names := F.names ++ [f]
  rep := fun H fs x as => ∃ gs v a1 a2, fs = gs ++ [(f, v)] ∧ as = a1 ++ a2 ∧ F.rep H gs x.1 a1 ∧ R.rep H v x.2 a2
  ns := fun ⟨gs, v, a1, a2, e1, _, h, _⟩ => by rw [e1, List.map_append, F.ns h]; rfl
  stay := fun ⟨gs, v, a1, a2, e1, e2, h1, h2⟩ x k => ⟨gs, v, a1, a2, e1, e2, F.stay h1 x (fun p hp => k p (by rw [e2]; exact List.mem_append_left _ hp)), R.stay h2 x (fun p hp => k p (by rw [e2]; exact List.mem_append_right _ hp))⟩
  there := fun ⟨gs, v, a1, a2, e1, e2, h1, h2⟩ p hp => by
    rw [e2] at hp
    rcases List.mem_append.mp hp with q | q
    · exact F.there h1 p q
    · exact R.there h2 p q
theorem lookup_snoc {f g : Str} {v : V} : ∀ {fs : List (Str × V)}, (fs ++ [(g, v)]).lookup f = match fs.lookup f with | some w => some w | none => if f == g then some v else none
  | [] => by
    show List.lookup f [(g, v)] = _
    rw [List.lookup_cons]
    cases f == g <;> rfl
  | (a, b) :: r => by
    show List.lookup f ((a, b) :: (r ++ [(g, v)])) = _
    rw [List.lookup_cons, List.lookup_cons]
    cases f == a with
    | true => rfl
    | false => exact lookup_snoc (fs := r)
theorem lookup_out {f : Str} : ∀ {fs : List (Str × V)}, f ∉ fs.map (·.1) → fs.lookup f = none
  | [], _ => rfl
  | (a, b) :: r, h => by
    rw [List.lookup_cons]
    have hn : (f == a) = false := by
      cases q : f == a with
      | false => rfl
      | true => exact absurd (List.mem_cons.mpr (.inl (beq_iff_eq.mp q))) h
    rw [hn]
    exact lookup_out fun z => h (List.mem_cons_of_mem _ z)
theorem putF_out {f : Str} {v : V} : ∀ {fs : List (Str × V)}, f ∉ fs.map (·.1) → putF f v fs = fs ++ [(f, v)]
  | [], _ => rfl
  | (a, b) :: r, h => by
    have hn : ¬ a = f := fun e => h (List.mem_cons.mpr (.inl e.symm))
    show (if a = f then (a, v) :: r else (a, b) :: putF f v r) = _
    rw [if_neg hn, putF_out (fs := r) fun z => h (List.mem_cons_of_mem _ z)]
    rfl
theorem fldA_hd {f : Str} {R : Rs K α} {F : RF K β} (nf : f ∉ F.names) : FldAt (fA F f R) f R (fun x => x.2) := fun H fs x as ⟨gs, v, a1, a2, e1, _, h1, h2⟩ => by
  refine ⟨v, a2, ?_, h2⟩
  rw [e1, lookup_snoc, lookup_out (by rw [F.ns h1]; exact nf)]
  show (if (f == f) = true then some v else none) = some v
  rw [if_pos (beq_self_eq_true f)]
theorem fldA_tl {f g : Str} {R : Rs K α} {S : Rs K γ} {F : RF K β} {get : β → γ} (h : FldAt F f S get) : FldAt (fA F g R) f S (fun x => get x.1) := fun H fs x as ⟨gs, v, a1, a2, e1, _, h1, h2⟩ => by
  obtain ⟨w, bs, l, hr⟩ := h H gs x.1 a1 h1
  exact ⟨w, bs, by rw [e1, lookup_snoc, l], hr⟩
def nGro (K : PySem.W.Frag) (p C : Addr) (F : RF K α) : Rs K α where
  rep := fun H v x as => ∃ dx fs bs, v = .ref p ∧ as = p :: bs ∧ p ∉ bs ∧ H p = some (.ins C dx fs) ∧ F.rep H fs x bs
  stay := fun ⟨dx, fs, bs, e1, e2, np, h1, h2⟩ x k => ⟨dx, fs, bs, e1, e2, np, k p (by rw [e2]; exact List.mem_cons_self ..) _ h1, F.stay h2 x (fun q hq => k q (by rw [e2]; exact List.mem_cons_of_mem _ hq))⟩
  there := fun ⟨dx, fs, bs, e1, e2, np, h1, h2⟩ q hq => by
    rw [e2] at hq
    rcases List.mem_cons.mp hq with z | z
    · rw [z]; exact ⟨_, h1, fun z => z⟩
    · exact F.there h2 q z
theorem gro_rec {p C : Addr} {F : RF K α} {H : Hp} {v : V} {x : α} {as : List Addr} (h : (nGro K p C F).rep H v x as) : (nRec K C F).rep H v x as := by
  obtain ⟨dx, fs, bs, e1, e2, _, h1, h2⟩ := h
  exact ⟨p, dx, fs, bs, e1, e2, h1, h2⟩
variable {H0 H1 H2 H H' : Hp} {σ : L2.St} {G G' : Cells K} {r : Rp α} {q : Rp β} {D : Ends} {u : TS} {te ta : TE} {R : Rs K γ} {b : γ}
theorem a_gro {i : Nat} {p C : Addr} {F : RF K α} {x : α} (h : G[i]? = some (some (.ow (nGro K p C F) x))) : Ev (rRec K C F) (tVar i) G x := fun H0 σ H E Q k => by
  obtain ⟨own, _, _, h3⟩ := E.at_
  obtain ⟨v, hv, hr⟩ := h3 i _ h
  exact ⟨v, hv, k v H (Same.refl H) ⟨_, gro_rec hr⟩⟩
theorem gro_put {own : Nat → List Addr} {i : Nat} {p C : Addr} {F : RF K α} {x : α} {f : Str} {v : V} {as : List Addr} (E : EnvO own H1 σ H G) (hi : G[i]? = some (some (.ow (nGro K p C F) x))) (hr : R.rep H v b as) (hf : ∀ a, a ∈ as → H1 a = none ∧ ∀ j, a ∉ own j) (nf : f ∉ F.names) :
    ∃ dx fs, H p = some (.ins C dx fs) ∧ fs.map (·.1) = F.names ∧ EnvO (fun j => if j = i then own i ++ as else own j) H1 σ (upd H p (.ins C dx (putF f v fs))) (G.set i (some (.ow (nGro K p C (fA F f R)) (x, b)))) ∧ σ[i]? = some (some (.ref p)) := by
  obtain ⟨w, hw, dx, fs, bs, ew, ea, np, hp, hF⟩ := E.at_ i _ hi
  subst ew
  have hl : i < G.length := (List.getElem?_eq_some_iff.mp hi).1
  have pi : p ∈ own i := by rw [ea]; exact List.mem_cons_self ..
  have pas : p ∉ as := fun z => (hf p z).2 i pi
  have ns := F.ns hF
  have x0 : ExT K H (upd H p (.ins C dx (putF f v fs))) := ext_upd hp fun z => z
  have keep : ∀ t : List Addr, p ∉ t → ∀ a, a ∈ t → ∀ o, H a = some o → upd H p (.ins C dx (putF f v fs)) a = some o := fun t ht a ha o ho => by
    rw [upd_ne fun z => ht (by rw [← z]; exact ha)]; exact ho
  refine ⟨dx, fs, hp, ns, ⟨fun c o hc => ?_, by rw [List.length_set]; exact E.len, fun j a ha => ?_, fun j k a hj hk => ?_, fun j c hc => ?_⟩, hw⟩
  · have : c ≠ p := fun z => by rw [z, (E.free i p pi).1] at hc; cases hc
    rw [upd_ne this]
    exact E.old _ _ hc
  · have up : ∀ a, (∃ o, H a = some o ∧ ¬ isTup o) → ∃ o, upd H p (.ins C dx (putF f v fs)) a = some o ∧ ¬ isTup o := fun a ⟨o, ho, nt⟩ => by
      by_cases e : a = p
      · rw [e, upd_same]; exact ⟨_, rfl, fun z => z⟩
      · rw [upd_ne e]; exact ⟨o, ho, nt⟩
    by_cases h : j = i
    · simp only [h, if_true] at ha
      rcases List.mem_append.mp ha with z | z
      · exact ⟨(E.free i a z).1, up a (E.free i a z).2⟩
      · exact ⟨(hf a z).1, up a (R.there hr a z)⟩
    · simp only [h, if_false] at ha
      exact ⟨(E.free j a ha).1, up a (E.free j a ha).2⟩
  · by_cases h : j = i <;> by_cases h' : k = i
    · rw [h, h']
    · simp only [h, h', if_true, if_false] at hj hk
      rcases List.mem_append.mp hj with z | z
      · exact h ▸ E.apart i k a z hk
      · exact absurd hk ((hf a z).2 k)
    · simp only [h, h', if_true, if_false] at hj hk
      rcases List.mem_append.mp hk with z | z
      · exact h' ▸ E.apart j i a hj z
      · exact absurd hj ((hf a z).2 j)
    · simp only [h, h', if_false] at hj hk
      exact E.apart j k a hj hk
  · by_cases h : j = i
    · subst h
      rw [List.getElem?_set_self hl] at hc
      cases hc
      refine ⟨_, hw, dx, putF f v fs, bs ++ as, rfl, ?_, fun z => ?_, upd_same, ?_⟩
      · simp only [if_true]
        rw [ea]; rfl
      · rcases List.mem_append.mp z with z | z
        · exact np z
        · exact pas z
      · exact ⟨fs, v, bs, as, putF_out (by rw [ns]; exact nf), rfl, F.stay hF x0 (keep bs np), R.stay hr x0 (keep as pas)⟩
    · rw [List.getElem?_set_ne (Ne.symm h)] at hc
      obtain ⟨w, hw, hk⟩ := E.at_ j c hc
      refine ⟨w, hw, ?_⟩
      simp only [h, if_false]
      exact cell_stay hk x0 (keep (own j) fun z => h (E.apart j i p z pi))
theorem l_selfN {i : Nat} {p C : Addr} {F : RF K α} {x : α} {f : Str} (hi : G[i]? = some (some (.ow (nGro K p C F) x))) (h : Nw R te G b) (nf : f ∉ F.names) (hz : F.names.length < 1000) (c : Cls K C) (n : NoAttr K C f)
    (kk : Nx H0 (G.set i (some (.ow (nGro K p C (fA F f R)) (x, b)))) D.nx) : Sv H0 G (sFld K (tVar i) te f) D := fun σ H ⟨H1, e1, E⟩ =>
  h H1 σ H E _ fun v H2 as e2 hn hr => by
    obtain ⟨own, EO⟩ := E.o
    have E2 := EO.grow e2
    have hf : ∀ a, a ∈ as → H1 a = none ∧ ∀ j, a ∉ own j := fun a ha => ⟨free_back EO.old (hn a ha), fun j z => by obtain ⟨o, ho, _⟩ := (EO.free j a z).2; rw [hn a ha] at ho; cases ho⟩
    obtain ⟨dx, fs, hp, ns, E3, hw⟩ := gro_put E2 hi hr hf nf
    exact ⟨_, hw, p, C, dx, fs, rfl, hp, c, n, by rw [← List.length_map (f := (·.1)) (as := fs), ns]; exact hz, kk _ _ ⟨H1, e1, E3.e⟩⟩
theorem q_selfN {i : Nat} {p C : Addr} {F : RF K α} {x : α} {f : Str} (hi : G[i]? = some (some (.ow (nGro K p C F) x))) (h : Nw R te G b) (nf : f ∉ F.names) (hz : F.names.length < 1000) (c : Cls K C) (n : NoAttr K C f)
    (kk : Sv H0 (G.set i (some (.ow (nGro K p C (fA F f R)) (x, b)))) u D) : Sv H0 G (tSeq (sFld K (tVar i) te f) u) D := l_selfN (D := { D with nx := u D }) hi h nf hz c n kk
def FAt (F : RF K α) (l : Addr) (r : Rp β) (get : α → List β) : Prop := ∀ H fs x as, F.rep H fs x as → rL r H (.ref l) (get x)
theorem fat_hd {F : RF K α} {f : Str} {l : Addr} : FAt (fA F f (nlA K q l)) l q (fun x => x.2) := fun H fs x as ⟨gs, v, a1, a2, _, _, _, ⟨⟨l', vs, _, ev, hl, z⟩, e⟩⟩ => by
  subst e
  cases ev
  exact ⟨l, vs, rfl, hl, z.imp fun _ _ w => w.now⟩
theorem fat_tl {F : RF K α} {f : Str} {l : Addr} {S : Rs K γ} {get : α → List β} (h : FAt F l q get) : FAt (fA F f S) l q (fun x => get x.1) := fun H fs x as ⟨gs, v, a1, a2, _, _, h1, _⟩ => h H gs x.1 a1 h1
theorem a_alF {i m : Nat} {p C l : Addr} {F : RF K α} {x : α} {z : List β} {get : α → List β} (hm : G[m]? = some (fc rV (.ref l))) (hi : G[i]? = some (some (.ow (nGro K p C F) x))) (h : FAt F l q get) (e : get x = z) : Ev (rL q) (tVar m) G z := fun H0 σ H E Q k => by
  subst e
  obtain ⟨own, _, _, h3⟩ := E.at_
  obtain ⟨v, hv, hr⟩ := h3 m _ hm
  obtain ⟨w, _, dx, fs, bs, _, _, _, _, hF⟩ := h3 i _ hi
  have ev : v = .ref l := hr.2 H (ExT.refl _)
  subst ev
  exact ⟨_, hv, k _ H (Same.refl H) (h _ _ _ _ hF)⟩
def spInit (K : PySem.W.Frag) (C : Addr) (F : RF K β) (A : Ra α) (m : α → M β) : Sp := fun vs H Q E => ∃ p dx ws a H1, vs = .ref p :: ws ∧ Same H1 H ∧ H1 p = none ∧ ExT K H1 H ∧ H p = some (.ins C dx []) ∧ A H1 ws a ∧ NStk (m a) ∧
  (∀ b, m a = .ok b → ∀ H' as, Same H1 H' → (∀ q, q ∈ as → H1 q = none) → (nRec K C F).rep H' (.ref p) b as → Q .non H') ∧
  ∀ x fs, m a = .error (.ex x fs) → ∀ d H', Same H1 H' → H1 d = none → XR K H' d fs → E (.ref (cA K x)) (some d) H'
theorem spInit_len {K : PySem.W.Frag} {C : Addr} {α β : Type} {F : RF K β} {A : Ra α} {m : α → M β} {n : Nat} [L : LenA A n] {vs : List V} {H : Hp} {Q : VK} {E : XK} (h : spInit K C F A m vs H Q E) : vs.length = n + 1 := by
  obtain ⟨p, dx, ws, a, H1, rfl, _, _, _, _, hA, _⟩ := h
  rw [List.length_cons, L.len hA]
theorem nw_mkI {C : Addr} {F : RF K β} {A : Ra α} {a : α} {m : α → M β} {b : β} {E' : L2.St → XK} {tq : TA} (hA : EvA A tq G a) (M : MonoA A) (e : MOk m a b) : Nw (nRec K C F) (tMakeS C (spInit K C F A m) E' tq) G b := fun H0 σ H E Q k =>
  hA H0 σ H E _ fun vs H2 e2 hvs x dx hx hdx hne => by
    have e : m a = .ok b := e
    have s1 : Same H2 (upd (upd H2 dx (.own x)) x (.ins C dx [])) := same_made hx hdx
    refine ⟨x, dx, vs, a, H2, rfl, s1, hx, ext_same s1, upd_same, hvs, nstk_ok e, fun b' hb H' as s2 hf hr => ⟨rfl, ?_⟩, fun y fs hy => by rw [e] at hy; cases hy⟩
    rw [e] at hb
    cases hb
    exact k _ H' as (e2.trans s2) (fun p hp => free_back e2 (hf p hp)) hr
theorem Sv.runI {C p dx : Addr} {σ : L2.St} {G : Cells K} {t : TS} (s : Sv H1 (some (.ow (nGro K p C fN) ()) :: G) t D) (e : Same H1 H) (h1 : H1 p = none) (hp : H p = some (.ins C dx [])) (w : Pw H1 σ G) : t D (some (.ref p) :: σ) H := by
  refine s _ H ⟨H1, Same.refl _, e, by rw [List.length_cons, List.length_cons, w.len], fun i => if i = 0 then [p] else [], fun i a ha => ?_, fun i j a hi hj => ?_, fun i c hc => ?_⟩
  · by_cases h : i = 0
    · simp only [h, if_true] at ha
      cases List.mem_singleton.mp ha
      exact ⟨h1, _, hp, fun z => z⟩
    · simp only [h, if_false] at ha; cases ha
  · by_cases h : i = 0 <;> by_cases h' : j = 0
    · rw [h, h']
    · simp only [h', if_false] at hj; cases hj
    · simp only [h, if_false] at hi; cases hi
    · simp only [h, if_false] at hi; cases hi
  · cases i with
    | zero =>
      cases hc
      exact ⟨_, rfl, dx, [], [], rfl, rfl, List.not_mem_nil, hp, rfl, rfl⟩
    | succ i =>
      obtain ⟨v, hv, hk⟩ := w.get hc
      refine ⟨v, hv, ?_⟩
      simp only [Nat.succ_ne_zero, if_false]
      exact cell_stay hk (ext_same e) fun _ z => nomatch z
def RLe (R R' : Rs K α) : Prop := ∀ H v x as, R.rep H v x as → R'.rep H v x as
def FLe (F F' : RF K α) : Prop := ∀ H fs x as, F.rep H fs x as → F'.rep H fs x as
theorem rle_refl {R : Rs K α} : RLe R R := fun _ _ _ _ h => h
theorem rle_nlA {l : Addr} {q : Rp β} : RLe (nlA K q l) (nl K q) := fun _ _ _ _ h => h.1
theorem fle_N : FLe (K := K) fN fN := fun _ _ _ _ h => h
theorem fle_A {F F' : RF K β} {f : Str} {R R' : Rs K α} (h : FLe F F') (h' : RLe R R') : FLe (fA F f R) (fA F' f R') := fun _ _ _ _ ⟨gs, v, a1, a2, e1, e2, h1, h2⟩ => ⟨gs, v, a1, a2, e1, e2, h _ _ _ _ h1, h' _ _ _ _ h2⟩
theorem nx_init {p C : Addr} {F F' : RF K α} {x : α} {P : Hp → Prop} (hi : G[0]? = some (some (.ow (nGro K p C F) x))) (le : FLe F F') (h : ∀ H' as, Same H0 H' → (∀ q, q ∈ as → H0 q = none) → (nRec K C F').rep H' (.ref p) x as → P H') : Nx H0 G (fun _ H' => P H') := fun σ H ⟨H1, e1, E⟩ => by
  obtain ⟨own, h1, h2, h3⟩ := E.at_
  obtain ⟨v, hv, hr⟩ := h3 0 _ hi
  have ev : v = .ref p := by obtain ⟨_, _, _, e, _⟩ := hr; exact e
  subst ev
  obtain ⟨a, dx, fs, bs, z1, z2, z3, z4⟩ := gro_rec hr
  exact h H (own 0) (e1.trans E.old) (fun q hq => free_back e1 (h1 0 q hq).1) ⟨a, dx, fs, bs, z1, z2, z3, le _ _ _ _ z4⟩
end
end
section
end
section
def tArgN (t : TA) : TA := fun σ H Q => t σ H fun vs H1 => Q (vs ++ [.non]) H1
structure CalN (P : Program) (w : World) (K : PySem.W.Frag) (mg : Str → Option Value) (base : Heap) (CX : CXT) (C : Addr) (k : Nat) (ps : List Str) (sp : Sp) : Prop where
  ex : ∃ (f : Addr) (fd : FuncData), FnOk P w K mg base CX k f fd ps sp ∧ Mk K C f ∧ Binds K fd ps [.none]
section
variable {K : PySem.W.Frag} {α β γ : Type} {G : Cells K} {r : Rp α} {q : Rp β} {t : TA} {te ta tb : TE} {x : α} {b : β}
theorem ea_argN1 (h : EvA (aC r aN) t G (x, ())) : EvA (aC r (aC rN aN)) (tArgN t) G (x, ((), ())) := fun H0 σ H E Q k =>
  h H0 σ H E _ fun vs H1 e1 ⟨v, ws, ev, hv, ew⟩ => k _ H1 e1 ⟨v, [.non], by rw [ev, show ws = [] from ew]; rfl, hv, .non, [], rfl, rfl, rfl⟩
theorem ev_nonN : Ev rN (tC .non) G () := fun H0 σ H E Q k => k _ H (Same.refl H) rfl
end
section
variable {X : Cx} {k : Nat} {f C : Addr} {fd : FuncData} {ps : List Str} {sp : Sp} {x : Str} {p pos : Pos} {e : Expr} {es : List Expr} {t : TA} {W : WX}
theorem pe_mkISn (I : CalN X.prog X.w X.K X.mg X.base (L2N.CX X.prog X.w) C k ps sp) (hm : X.mg x = some (.ref C)) (hr : Room (k + 1) X.A) (tk : L2N.Takes X W) (ha : PA X (e :: es) t) (hg : Gl X x := by rfl) (hdb : (x == ("__debug__" : Str)) = false := by decide)
    (he : starEach (e :: es) X.env = (false, eval e X.env) :: starEach es X.env := by rfl) (hpl : (backTo pos (starEach es X.env)).any (·.1) = false := by rfl) : PE X (.Call (.Name x p) (e :: es) [] pos) (tMakeS C sp (WE W) (tArgN t)) := by
  obtain ⟨f, fd, F, M, hb⟩ := I.ex
  refine ⟨fun pins s σ H Q I h => ?_⟩
  refine wpAny_Call_Name_kw (ld_glob I hg hm ?_ hdb)
  refine PySem.W.callWith_K (h₀ := X.base) I.ok.mod.kin M.kp (thn (ha.run pos pins s σ H _ I h) fun us s1 ⟨vs, H1, I1, r, q⟩ => ⟨I1.kIn, ?_⟩) he hpl
  have hq := q (s1.heap.objs.size + 1) s1.heap.objs.size (I1.hok.fresh (Nat.le_succ _)) (I1.hok.fresh (Nat.le_refl _)) (Nat.ne_of_lt (Nat.lt_succ_self _))
  have I2 := Inv.made (C := C) I1
  have r2 : Vals (V.ref (s1.heap.objs.size + 1) :: (vs ++ [.non])) (Value.ref (s1.heap.objs.size + 1) :: (us ++ [Value.none])) := .cons rfl (r.append (show Vals [V.non] [Value.none] from .cons rfl .nil))
  have hl : ((Value.ref (s1.heap.objs.size + 1) :: us) ++ [Value.none]).length = ps.length := by
    have e := r2.length
    rw [F.len _ _ _ _ hq] at e
    exact e.symm
  have b1 := hb _ (Value.ref (s1.heap.objs.size + 1) :: us) I2.kIn hl
  refine wpAny_call (make_map (f := f) I1.kIn M.makes M.init (beq_iff_eq.mp M.fn) (codeAny_mono (F.run _ X.stack _ _ ⟨Value.ref (s1.heap.objs.size + 1) :: us, []⟩ (Value.ref (s1.heap.objs.size + 1) :: (us ++ [Value.none])) _ _ (WE W σ) (hr.make C us [])
    (I2.env0.make C us []) b1 r2 hq) fun r s' hq' => ?_))
  cases r with
  | error e => exact L2N.passAt tk σ pins _ _ e s' I2 hq'
  | ok fl =>
    cases fl with
    | ret u =>
      obtain ⟨v, H', I3, rv, ev, q3⟩ := I2.after hq'
      subst ev
      exact ⟨rv, ⟨V.ref (s1.heap.objs.size + 1), H', I3, rfl, q3⟩⟩
    | next => exact False.elim hq'
    | brk => exact False.elim hq'
    | cont => exact False.elim hq'
end
end
section
section
variable {K : PySem.W.Frag} {α β γ : Type} {r : Rp α}
instance bor_nl : Bor K (nl K r) (rL r) := ⟨fun ⟨p, vs, _, ev, hp, z⟩ => ⟨p, vs, ev, hp, z.imp fun _ _ w => w.now⟩⟩
instance bor_nlA {p : Addr} : Bor K (nlA K r p) (rL r) := ⟨fun ⟨⟨p, vs, _, ev, hp, z⟩, _⟩ => ⟨p, vs, ev, hp, z.imp fun _ _ w => w.now⟩⟩
instance bor_nd : Bor K (nd K r) (rD r) := ⟨fun ⟨p, kvs, _, ev, hp, z⟩ => ⟨p, kvs, ev, .inl hp, z.imp fun _ _ w => ⟨w.1, w.2.now⟩⟩⟩
end
end
section
def ltS (a b : Str) : Bool := decide (a.cps.toList < b.cps.toList)
section
variable {K : PySem.W.Frag} {G : Cells K} {ta tb : TE} {a b : Str}
theorem a_ltS (h : Ev rS ta G a) (h' : Ev rS tb G b) : Ev rB (tOp (fun x y H Q => ∃ i j, x = .str i ∧ y = .str j ∧ Q (.bl (decide (i.cps.toList < j.cps.toList))) H) ta tb) G (ltS a b) := fun H0 σ H E Q k =>
  h H0 σ H E _ fun v H1 e1 z => h' H0 σ H1 (E.grow e1) _ fun w H2 e2 z2 => ⟨a, b, z.1, z2.1, k _ H2 (e1.trans e2) rfl⟩
end
end
section
def tMethS (C : Addr) (m : Str) (sp : Sp) (E : L2.St → XK) (ta : TE) (t : TA) : TE := fun σ H Q => ta σ H fun x H1 => ∃ a dx fs, x = .ref a ∧ H1 a = some (.ins C dx fs) ∧ fs.lookup m = none ∧ t σ H1 fun vs H2 => sp (x :: vs) H2 Q (E σ)
section
variable {K : PySem.W.Frag} {α β γ δ ρ : Type} {H0 H1 H2 H H' : Hp} {σ : L2.St} {G G' : Cells K} {r : Rp α} {q : Rp γ} {D : Ends} {u : TS} {te ta : TE} {t : TA} {R : Rs K ρ}
theorem ev_mthX {C : Addr} {names : List Str} {mt : Str} {x : α} {A : Ra β} {b : β} {m : α × β → M γ} {E' : L2.St → XK} {c : γ} (h : Ev r ta G x) (M : Mono r) (I : InsR K C r names) (hn : mt ∉ names) (hA : EvA A t G b) (e : MOk m (x, b) c) :
    Ev q (tMethS C mt (spX (K := K) (aC r A) q m) E' ta t) G c := fun H0 σ H E Q k => h H0 σ H E _ fun v H2 e2 hv => by
  obtain ⟨a, dx, fs, ea, ha, hm⟩ := I.ins hv
  have e : m (x, b) = .ok c := e
  refine ⟨a, dx, fs, ea, ha, lookup_no hm hn, hA H0 σ H2 (E.grow e2) _ fun vs H3 e3 hvs => ?_⟩
  exact ⟨(x, b), ⟨v, vs, rfl, M.up e3 hv, hvs⟩, nstk_ok e, fun c' hc w' H4 e4 hw => k w' H4 ((e2.trans e3).trans e4) (by rw [e] at hc; cases hc; exact hw), fun y fs' he => by rw [e] at he; cases he⟩
theorem nw_mthX {C : Addr} {names : List Str} {mt : Str} {x : α} {A : Ra β} {b : β} {m : α × β → M ρ} {E' : L2.St → XK} {c : ρ} (h : Ev r ta G x) (M : Mono r) (I : InsR K C r names) (hn : mt ∉ names) (hA : EvA A t G b) (e : MOk m (x, b) c) :
    Nw R (tMethS C mt (spXN (aC r A) R m) E' ta t) G c := fun H0 σ H E Q k => h H0 σ H E _ fun v H2 e2 hv => by
  obtain ⟨a, dx, fs, ea, ha, hm⟩ := I.ins hv
  have e : m (x, b) = .ok c := e
  refine ⟨a, dx, fs, ea, ha, lookup_no hm hn, hA H0 σ H2 (E.grow e2) _ fun vs H3 e3 hvs => ?_⟩
  exact ⟨(x, b), ⟨v, vs, rfl, M.up e3 hv, hvs⟩, nstk_ok e, fun c' hc w' H4 as e4 hf hw => k w' H4 as ((e2.trans e3).trans e4) (fun p hp => free_back (e2.trans e3) (hf p hp)) (by rw [e] at hc; cases hc; exact hw), fun y fs' he => by rw [e] at he; cases he⟩
end
def Tgl (H H' : Hp) : Prop := ∃ p od kvs, (H p = some (.dK kvs) ∧ H' = upd H p (.frz od (.dK kvs))) ∨ (H p = some (.frz od (.dK kvs)) ∧ H' = upd H p (.dK kvs))
theorem tgl_at {H H' : Hp} (t : Tgl H H') {a : Addr} {o : HO} (h : H a = some o) (n : ∀ kvs, o ≠ .dK kvs) (n2 : ∀ od kvs, o ≠ .frz od (.dK kvs)) : H' a = some o := by
  obtain ⟨p, od, kvs, ⟨hp, e⟩ | ⟨hp, e⟩⟩ := t
  · have ne : a ≠ p := fun z => by rw [z, hp] at h; exact n kvs (Option.some.inj h).symm
    rw [e, upd_ne ne]; exact h
  · have ne : a ≠ p := fun z => by rw [z, hp] at h; exact n2 od kvs (Option.some.inj h).symm
    rw [e, upd_ne ne]; exact h
theorem tgl_ext {K : PySem.W.Frag} {H H' : Hp} (t : Tgl H H') : ExT K H H' := .mk' fun a o9 t9 q => tgl_at t q (fun _ z => by rw [z] at t9; exact t9) fun _ _ z => by rw [z] at t9; exact t9
theorem tgl_rd {H H' : Hp} (t : Tgl H H') {a : Addr} {kvs : List (Key × V)} (h : L2.Rd H a (.dK kvs)) : L2.Rd H' a (.dK kvs) := by
  obtain ⟨p, od, kv, ⟨hp, e⟩ | ⟨hp, e⟩⟩ := t
  · by_cases z : a = p
    · subst z
      rcases h with h | ⟨o, h⟩
      · rw [hp] at h; cases h
        exact .inr ⟨od, by rw [e, upd_same]⟩
      · rw [hp] at h; cases h
    · rcases h with h | ⟨o, h⟩
      · exact .inl (by rw [e, upd_ne z]; exact h)
      · exact .inr ⟨o, by rw [e, upd_ne z]; exact h⟩
  · by_cases z : a = p
    · subst z
      rcases h with h | ⟨o, h⟩
      · rw [hp] at h; cases h
      · rw [hp] at h; cases h
        exact .inl (by rw [e, upd_same])
    · rcases h with h | ⟨o, h⟩
      · exact .inl (by rw [e, upd_ne z]; exact h)
      · exact .inr ⟨o, by rw [e, upd_ne z]; exact h⟩
class Ulk {β : Type} (r : Rp β) : Prop where
  up : ∀ {H H' : Hp} {v : V} {b : β}, Tgl H H' → r H v b → r H' v b
section
variable {K : PySem.W.Frag} {α β : Type}
instance : Ulk rI := ⟨fun _ h => h⟩
instance : Ulk rB := ⟨fun _ h => h⟩
instance : Ulk rS := ⟨fun _ h => h⟩
instance : Ulk rN := ⟨fun _ h => h⟩
instance : Ulk rV := ⟨fun _ h => h⟩
instance {r : Rp β} [M : Ulk r] : Ulk (rO r) := ⟨fun {_ _ _ b} e h => match b, h with
  | .none, h => h
  | .some _, h => M.up (v := _) e h⟩
instance {r : Rp β} [M : Ulk r] : Ulk (rT K r) := ⟨fun e ⟨a, vs, ev, h, q⟩ => ⟨a, vs, ev, (tgl_ext e).d _ _ h, q.imp fun _ _ z => M.up e z⟩⟩
instance {r : Rp α} {q : Rp β} [M : Ulk r] [N : Ulk q] : Ulk (rP K r q) := ⟨fun e ⟨a, x, y, ev, h, h1, h2⟩ => ⟨a, x, y, ev, tgl_ext e _ _ h, M.up e h1, N.up e h2⟩⟩
instance {r : Rp β} [M : Ulk r] : Ulk (rL r) := ⟨fun e ⟨a, vs, ev, h, q⟩ => ⟨a, vs, ev, tgl_at e h (fun _ z => nomatch z) (fun _ _ z => nomatch z), q.imp fun _ _ z => M.up e z⟩⟩
instance {r : Rp β} [M : Ulk r] : Ulk (rD r) := ⟨fun e ⟨a, kvs, ev, h, q⟩ => ⟨a, kvs, ev, tgl_rd e h, q.imp fun _ _ z => ⟨z.1, M.up e z.2⟩⟩⟩
end
def rDp {α : Type} (r : Rp α) : Rp (List (Str × α)) := fun H v xs => ∃ a kvs, v = .ref a ∧ H a = some (.dK kvs) ∧ A2 (Kv (r H)) kvs xs
def rLkA {α : Type} (r : Rp α) (a : Addr) : Rp (List (Str × α)) := fun H v xs => ∃ od kvs, v = .ref a ∧ H a = some (.frz od (.dK kvs)) ∧ A2 (Kv (r H)) kvs xs
inductive LkG {K : PySem.W.Frag} : Cells K → Prop
  | nil : LkG []
  | non {G : Cells K} : LkG G → LkG (none :: G)
  | ow {G : Cells K} {β : Type} {R : Rs K β} {b : β} : LkG G → LkG (some (.ow R b) :: G)
  | ro {G : Cells K} {β : Type} {r : Rp β} {m : Mono r} {b : β} : Ulk r → LkG G → LkG (some (.ro r m b) :: G)
theorem LkG.at_ {K : PySem.W.Frag} {G : Cells K} (L : LkG G) : ∀ {j : Nat} {β : Type} {r : Rp β} {m : Mono r} {b : β}, G[j]? = some (some (.ro r m b)) → Ulk r := by
  induction L with
  | nil => intro j β r m b h; cases h
  | non _ ih => intro j β r m b h; cases j with
    | zero => cases h
    | succ j => exact ih (j := j) h
  | ow _ ih => intro j β r m b h; cases j with
    | zero => cases h
    | succ j => exact ih (j := j) h
  | ro U _ ih => intro j β r m b h; cases j with
    | zero => cases h; exact U
    | succ j => exact ih (j := j) h
section
variable {K : PySem.W.Frag} {α β γ : Type} {H0 H1 H2 H H' : Hp} {σ : L2.St} {G G' G2 : Cells K} {r : Rp α} {D : Ends} {u t : TS} {te : TE}
instance [M : Mono r] : Mono (rDp r) := ⟨fun e ⟨a, kvs, ev, h, q⟩ => ⟨a, kvs, ev, e _ _ h, q.imp fun _ _ z => ⟨z.1, M.up e z.2⟩⟩⟩
instance {a : Addr} [M : Mono r] : Mono (rLkA r a) := ⟨fun e ⟨od, kvs, ev, h, q⟩ => ⟨od, kvs, ev, e _ _ h, q.imp fun _ _ z => ⟨z.1, M.up e z.2⟩⟩⟩
theorem ev_dp {xs : List (Str × α)} (h : Ev (rDp r) te G xs) : Ev (rD r) te G xs := h.imp fun _ _ ⟨a, kvs, ev, h, q⟩ => ⟨a, kvs, ev, .inl h, q⟩
theorem ev_lkA {a : Addr} {xs : List (Str × α)} (h : Ev (rLkA r a) te G xs) : Ev (rD r) te G xs := h.imp fun _ _ ⟨od, kvs, ev, h, q⟩ => ⟨a, kvs, ev, .inr ⟨od, h⟩, q⟩
theorem ev_dp0 : Ev (rDp r) tDNewK G [] := fun H0 σ H E Q c p hp => c _ _ (same_new hp) ⟨p, [], rfl, upd_same, .nil⟩
theorem bor_ndp : Bor K (nd K r) (rDp r) := ⟨fun ⟨p, kvs, _, ev, hp, z⟩ => ⟨p, kvs, ev, hp, z.imp fun _ _ w => ⟨w.1, w.2.now⟩⟩⟩
end
end
section
section
variable {K : PySem.W.Frag} {α β γ δ ρ : Type} {H0 H1 H2 H H' : Hp} {σ : L2.St} {G G' : Cells K} {r : Rp α} {q : Rp γ} {D : Ends} {u : TS} {te ta : TE} {t : TA} {R : Rs K ρ}
instance {r : Rp α} : Seq K r (rEi K r) := ⟨fun ⟨p, vs, ev, hp, h⟩ => ⟨p, vs, ev, hp.imp SqL.of id, h⟩⟩
instance {C : Addr} {F : RF K α} : NotNon (rRec K C F) := ⟨fun ⟨_, _, _, _, _, e, _⟩ z => by rw [z] at e; cases e⟩
theorem ea_argNO {x : α} (h : EvA (aC r aN) t G (x, ())) : EvA (aC r (aC (rO q) aN)) (tArgN t) G (x, (none, ())) := fun H0 σ H E Q k =>
  h H0 σ H E _ fun vs H1 e1 ⟨v, ws, e, hv, hw⟩ => k _ H1 e1 ⟨v, [.non], by rw [e, hw]; rfl, hv, .non, [], rfl, rfl, rfl⟩
theorem a_roS {i : Nat} {m : Mono (rO r)} {o : Option α} {b : α} (h : G[i]? = some (some (.ro (rO r) m o))) (e : o = some b) : Ev r (tVar i) G b := fun H0 σ H E Q k => by
  obtain ⟨own, _, _, h3⟩ := E.at_
  obtain ⟨v, hv, _, hr⟩ := h3 i _ h
  subst e
  exact ⟨v, hv, k v H (Same.refl H) (m.up (b := some b) E.old hr)⟩
end
end
section
structure CalF (P : Program) (w : World) (K : PySem.W.Frag) (mg : Str → Option Value) (base : Heap) (C : Addr) (m : Str) (k : Nat) (ps : List Str) (sp : Sp) : Prop where
  ex : ∃ (f : Addr) (fd : FuncData), FnOk P w K mg base (L2N.CX P w) k f fd ps sp ∧ ClX.CRead K C (.type "type") ∧ PySem.W.findCls K (.ref C) (.type "type") m = some (.val (.ref f)) ∧ PySem.W.keepIn K (.ref f) = true ∧ L2.Binds K fd ps []
structure DfF (K : PySem.W.Frag) (C : Addr) (x q : Str) (st : Stmt) : Prop where
  ex : ∃ (f : Addr) (fd : FuncData), FunE K x q st 0 f fd ∧ ClX.CRead K C (.type "type") ∧ PySem.W.findCls K (.ref C) (.type "type") x = some (.val (.ref f))
def tCFnS (C : Addr) (sp : Sp) (E : L2.St → XK) (ta : TE) (t : TA) : TE := fun σ H Q => ta σ H fun x H1 => x = .ref C ∧ t σ H1 fun vs H2 => sp vs H2 Q (E σ)
section
variable {X : Cx} {C : Addr} {k : Nat} {ps : List Str} {sp : Sp} {W : WX} {m : Str} {o e : Expr} {es : List Expr} {ta : TE} {t : TA} {pos apos : Pos}
theorem pe_cfnS (M : CalF X.prog X.w X.K X.mg X.base C m k ps sp) (hr : Room k X.A) (tk : L2N.Takes X W) (he : PE X o ta) (ha : PA X (e :: es) t) {pl : Sem Bool}
    (hst : starEach (e :: es) X.env = (false, eval e X.env) :: starEach es X.env := by rfl) (hpl : (backTo pos (starEach es X.env)).any (·.1) = false := by rfl)
    (ht : eval (.Call (.Attribute o m apos) (e :: es) [] pos) X.env = (do
      let ov ← eval o X.env
      standAt apos.atName
      let (f, first) ← holding [ov] (getMethod ov m pl)
      callWith pos f first (backTo pos (starEach (e :: es) X.env)) (backToKw pos (keywordEach [] X.env))) := by rfl) : PE X (.Call (.Attribute o m apos) (e :: es) [] pos) (tCFnS C sp (WE W) ta t) := by
  obtain ⟨f, fd, F, rd, at_, kp, b⟩ := M.ex
  refine ⟨fun pins s σ H Q I h => ?_⟩
  refine PySem.W.methodCall_KW (pl := pl) (thn (he.run pins s σ H _ I h) fun u s1 ⟨x, H1, I1, rx, ex, q⟩ => ?_) ht
  subst ex
  obtain rfl : u = Value.ref C := rx
  refine PySem.W.method_cls I1.kIn rd.ga (ClX.getcval_ok (v := .ref f) I1 rd ⟨at_, rfl⟩ fun s2 I2 => ?_)
  refine PySem.W.callWith_K (first := []) (h₀ := X.base) I.ok.mod.kin kp (thn (ha.run pos pins s2 σ H1 _ I2 q) fun us s3 ⟨vs, H2, I3, r, q2⟩ => ⟨I3.kIn, ?_⟩) hst hpl
  exact run_fnS (E := WE W) (us := us) (vs := vs) F hr b (L2N.passAt tk σ) I3 r q2
end
section
variable {P : Program} {w : World} {K : PySem.W.Frag} {mg : Str → Option Value} {base : Heap} {C : Addr} {x q : Str} {st : Stmt} {k : Nat} {ps N : List Str} {sp : Sp}
theorem calF_of (F : DfF K C x q st) (S : FnScope N ps (defScope st)) (len : ∀ vs H Q E, sp vs H Q E → vs.length = ps.length) (b : BindE x q st ps 0)
    (hbody : ∀ (cdv : Value) (f : Addr) (A : Around) (outer : List PySem.Env) (s : Shared) (H : Hp) (vs : List V) (Q : VK) (E : XK), Room k (A.deeper (envOfC q (defScope st) s.heap.objs.size f cdv)) → sp vs H Q E →
      ∃ t, PSs (cxOf (L2N.CX P w) P w K mg base N q (defScope st) f cdv A outer s H E) (defBody st) t ∧ t { nx := fun _ H' => Q .non H', rt := Q } (start N vs) H) : CalF P w K mg base C x (k + 1) ps sp := by
  obtain ⟨f, fd, F, rd, at_⟩ := F.ex
  exact ⟨f, fd, F.ok S len fun cdv A outer s H vs Q E hr h => hbody cdv f A outer s H vs Q E hr h, rd, at_, F.kp, F.binds b⟩
end
section
variable {K : PySem.W.Frag} {α β γ ρ : Type} {H0 H1 H2 H H' : Hp} {σ : L2.St} {G G' : Cells K} {D : Ends} {u : TS} {te ta : TE} {t : TA} {r : Rp α}
class FlF (F : RF K α) : Prop where
  fl : ∀ {H : Hp} {fs : List (Str × V)} {x : α} {as : List Addr}, F.rep H fs x as → as = []
instance : FlF (fN (K := K)) := ⟨fun ⟨_, e⟩ => e⟩
instance {F : RF K β} {f : Str} {r : Rp α} [L : FlF F] : FlF (fA F f (fz K r)) := ⟨fun ⟨gs, v, a1, a2, _, e, h1, h2⟩ => by rw [e, L.fl h1, h2.1]; rfl⟩
def spGro (K : PySem.W.Frag) (C : Addr) (F : RF K α) (F' : RF K β) (A : Ra γ) (m : α → γ → M β) : Sp := fun vs H Q E => ∃ p dx fs ws x a, vs = .ref p :: ws ∧ H p = some (.ins C dx fs) ∧ F.rep H fs x [] ∧ A (dl H p) ws a ∧ NStk (m x a) ∧
  (∀ y, m x a = .ok y → ∀ H' dx' fs', Same (dl H p) H' → H' p = some (.ins C dx' fs') → F'.rep H' fs' y [] → Q .non H') ∧
  ∀ e, m x a = .error e → XOk K (dl H p) E e
theorem spGro_len {C : Addr} {F : RF K α} {F' : RF K β} {A : Ra γ} {m : α → γ → M β} {n : Nat} [L : LenA A n] {vs : List V} {Q : VK} {E : XK} (h : spGro K C F F' A m vs H Q E) : vs.length = n + 1 := by
  obtain ⟨p, dx, fs, ws, x, a, rfl, _, _, hA, _⟩ := h
  rw [List.length_cons, L.len hA]
theorem ext_dl {p : Addr} {o : HO} (hp : H p = some o) (n : ¬ isTup o) : ExT K H (dl H p) := .mk' fun a o9 t9 q => by
  have ne : ∀ o', H a = some o' → isTup o' → a ≠ p := fun o' ho t e => by
    rw [e, hp] at ho
    cases ho
    exact n t
  exact by rw [dl_ne (ne _ q t9.up)]; exact q
theorem q_groC {i : Nat} {p C C0 : Addr} {F : RF K α} {F' : RF K β} {x : α} {A : Ra γ} {a : γ} {m : α → γ → M β} {W : WX} {o : M β} [L : FlF F] (hi : G[i]? = some (some (.ow (nGro K p C F) x))) (hc : Ev (rCls C0) ta G ()) (hA : ApA A t G i a) (e : m x a = o) (w : WOk H0 (G.set i none) W o)
    (kk : ∀ y, o = .ok y → Sv H0 (G.set i (some (.ow (nGro K p C F') y))) u D) : Sv H0 G (tSeq (tDrop (tCFnS C0 (spGro K C F F' A m) (WE W) ta (tCons (tVar i) t))) u) D := fun σ H ⟨H1, e1, E⟩ => by
  refine hc H1 σ H E _ fun v H2 e2 hv => ⟨hv, ?_⟩
  obtain ⟨own, EO⟩ := (E.grow e2).o
  obtain ⟨vp, hvp, dx, fs, bs, evp, ea, np, hp, hF⟩ := EO.at_ i _ hi
  subst evp
  have hbs : bs = [] := L.fl hF
  subst hbs
  have il : i < G.length := (List.getElem?_eq_some_iff.mp hi).1
  have pin : p ∈ own i := by rw [ea]; exact List.mem_singleton.mpr rfl
  have p1 : H1 p = none := (EO.free i p pin).1
  refine ⟨_, hvp, hA own H1 σ H2 EO _ fun vs H3 e3 hvs => ?_⟩
  have E3 := EO.grow e3
  have hp3 : H3 p = some (.ins C dx fs) := e3 _ _ hp
  have x3 : ExT K H3 (dl H3 p) := ext_dl hp3 fun z => z
  have npj : ∀ j q, j ≠ i → q ∈ own j → q ≠ p := fun j q hj hq z => hj (EO.apart j i q hq (by rw [z]; exact pin))
  have low1 : Same H1 (dl H3 p) := fun b ob hb => by
    rw [dl_ne fun z => by rw [z, p1] at hb; cases hb]
    exact E3.old _ _ hb
  refine ⟨p, dx, fs, vs, x, a, rfl, hp3, F.stay hF (ext_same e3) (fun q hq => nomatch hq), hvs p pin, by rw [e]; exact w.1, fun y hy H' dx' fs' s' hp' hF' => ?_, fun er he => ?_⟩
  · have xt : ExT K H3 H' := x3.trans (ext_same s')
    refine kk y (e ▸ hy) σ H' ⟨H1, e1, EnvO.e (own := own) ⟨low1.trans s', by rw [List.length_set]; exact E3.len, fun j q hq => ?_, E3.apart, fun j c hcj => ?_⟩⟩
    · by_cases h : j = i
      · subst h
        have hq' : q = p := by rw [ea] at hq; exact List.mem_singleton.mp hq
        subst hq'
        exact ⟨p1, _, hp', fun z => z⟩
      · obtain ⟨h1, ob, h2, h3⟩ := E3.free j q hq
        exact ⟨h1, ob, s' _ _ (by rw [dl_ne (npj j q h hq)]; exact h2), h3⟩
    · by_cases h : j = i
      · subst h
        rw [List.getElem?_set_self il] at hcj
        cases hcj
        exact ⟨_, hvp, dx', fs', [], rfl, ea, (fun z => nomatch z), hp', hF'⟩
      · rw [List.getElem?_set_ne (Ne.symm h)] at hcj
        obtain ⟨v', hv', hk'⟩ := E3.at_ j c hcj
        exact ⟨v', hv', cell_stay hk' xt fun q hq ob hob => s' _ _ (by rw [dl_ne (npj j q h hq)]; exact hob)⟩
  · have hv3 : Have H0 (G.set i none) σ (dl H3 p) := ⟨H1, e1, EnvO.e (own := fun j => if j = i then [] else own j) ⟨low1, by rw [List.length_set]; exact E3.len, fun j q hq => by
        by_cases h : j = i
        · simp only [h, if_true] at hq; cases hq
        · simp only [h, if_false] at hq
          obtain ⟨h1, ob, h2, h3⟩ := E3.free j q hq
          exact ⟨h1, ob, by rw [dl_ne (npj j q h hq)]; exact h2, h3⟩, fun j l q hj hk => by
        by_cases h : j = i
        · simp only [h, if_true] at hj; cases hj
        · by_cases h' : l = i
          · simp only [h', if_true] at hk; cases hk
          · simp only [h, h', if_false] at hj hk; exact E3.apart j l q hj hk, fun j c hcj => by
        by_cases h : j = i
        · subst h; rw [List.getElem?_set_self il] at hcj; cases hcj
        · rw [List.getElem?_set_ne (Ne.symm h)] at hcj
          simp only [h, if_false]
          obtain ⟨v', hv', hk'⟩ := E3.at_ j c hcj
          exact ⟨v', hv', cell_stay hk' x3 fun q hq ob hob => by rw [dl_ne (npj j q h hq)]; exact hob⟩⟩⟩
    cases er with
    | stuck => exact absurd (e ▸ he) w.1
    | ex c es => exact fun d H' s' hd hx => w.2 c es (e ▸ he) σ (dl H3 p) H' hv3 s' d hd hx
theorem Sv.runG {C p dx : Addr} {F : RF K α} {x : α} {fs : List (Str × V)} {σ : L2.St} {G : Cells K} {t : TS} (s : Sv (dl H p) (some (.ow (nGro K p C F) x) :: G) t D) (hp : H p = some (.ins C dx fs)) (hF : F.rep H fs x []) (w : Pw (dl H p) σ G) : t D (some (.ref p) :: σ) H := by
  have xt : ExT K H (dl H p) := ext_dl hp fun z => z
  refine s _ H ⟨dl H p, Same.refl _, dl_low, by rw [List.length_cons, List.length_cons, w.len], fun i => if i = 0 then [p] else [], fun i q hq => ?_, fun i j q hi hj => ?_, fun i c hc => ?_⟩
  · by_cases h : i = 0
    · simp only [h, if_true] at hq
      cases List.mem_singleton.mp hq
      exact ⟨dl_at, _, hp, fun z => z⟩
    · simp only [h, if_false] at hq
      cases hq
  · by_cases h : i = 0 <;> by_cases h' : j = 0
    · rw [h, h']
    · simp only [h', if_false] at hj; cases hj
    · simp only [h, if_false] at hi; cases hi
    · simp only [h, if_false] at hi; cases hi
  · cases i with
    | zero =>
      cases hc
      exact ⟨_, rfl, dx, fs, [], rfl, rfl, (fun z => nomatch z), hp, hF⟩
    | succ i =>
      obtain ⟨v, hv, hk⟩ := w.get (i := i) (by simpa using hc)
      refine ⟨v, by simpa using hv, ?_⟩
      show c.ok (dl H p) H v []
      cases c with
      | ow R b => exact R.stay hk (ext_same dl_low) fun q hq => nomatch hq
      | ro r m b => exact hk
theorem nx_gro {i : Nat} {p C : Addr} {F' : RF K β} {y : β} {P : Hp → Prop} [L : FlF F'] (hi : G[i]? = some (some (.ow (nGro K p C F') y))) (k : ∀ H' dx' fs', Same H0 H' → H' p = some (.ins C dx' fs') → F'.rep H' fs' y [] → P H') : Nx H0 G (fun _ H' => P H') := fun σ H ⟨H1, e1, E⟩ => by
  obtain ⟨own, EO⟩ := E.o
  obtain ⟨vp, _, dx, fs, bs, _, _, _, hp, hF⟩ := EO.at_ i _ hi
  have := L.fl hF
  subst this
  exact k H dx fs (e1.trans EO.old) hp hF
theorem ap_new {i : Nat} {xs : List α} [F : Frz K r] (h : Nw (nl K r) te G xs) : Ap (rEi K r) te G i xs := fun own H0 σ H E Q c =>
  h H0 σ H E.e _ fun v H' as e hn ⟨p, vs, ea, ev, hp, z⟩ => c v H' e fun q hq => by
    have hqH : ∃ o, H q = some o := let ⟨o, ho, _⟩ := (E.free i q hq).2; ⟨o, ho⟩
    have ne : p ≠ q := fun w => by
      obtain ⟨o, ho⟩ := hqH
      have := hn p (by rw [ea]; exact List.mem_singleton.mpr rfl)
      rw [w, ho] at this; cases this
    exact ⟨p, vs, ev, .inl (by rw [dl_ne ne]; exact hp), z.imp fun _ _ w => (w.up ((E.grow e).dlx hq)).now⟩
end
end
section
abbrev PKy := List (Option Key)
abbrev PEt := PKy × Addr × Value
def pkV : Option Key → V
  | none => .non
  | some k => kV k
def PDat (P : Program) (w : World) (a : Addr) (ep : Nat) (xs : List PEt) (h : Heap) : Prop :=
  ∃ o es, h.get? a = some o ∧ o.ExactDict ∧ o.data = .dict es ep ∧ es.toList = xs.map (entryOfKey (tupleKind (noneKind P w)))
def PDO (P : Program) (w : World) (a : Addr) (ep : Nat) (xs : List PEt) : HO := .ext (PDat P w a ep xs)
structure PdAt (P : Program) (w : World) (K : PySem.W.Frag) (H : Hp) (a : Addr) (ep : Nat) (xs : List PEt) : Prop where
  it : H a = some (PDO P w a ep xs)
  ks : ∀ x ∈ xs, SqT K H x.2.1 (x.1.map pkV)
  nd : (xs.map (·.1)).Nodup
  sz : xs.length ≤ sizeLine
  ne : (a == sysModules) = false
def tPNew (P : Program) (w : World) : TE := fun _ H Q => ∀ p ep, H p = none → (p == sysModules) = false → Q (.ref p) (upd H p (PDO P w p ep []))
def PLk (P : Program) (w : World) (K : PySem.W.Frag) (H : Hp) (x y : V) (R : Option (Addr × Value) → Prop) : Prop :=
  ∃ a ep xs b k, x = .ref a ∧ PdAt P w K H a ep xs ∧ y = .ref b ∧ SqT K H b (k.map pkV) ∧ R (atKey xs k)
def tPGet (P : Program) (w : World) (K : PySem.W.Frag) (td ty : TE) : TE := fun σ H Q => td σ H fun x H1 => ty σ H1 fun y H2 => PLk P w K H2 x y fun o => ∃ p v, o = some p ∧ RelV v p.2 ∧ Q v H2
def tPIn (P : Program) (w : World) (K : PySem.W.Frag) (ty td : TE) : TE := fun σ H Q => ty σ H fun y H1 => td σ H1 fun x H2 => PLk P w K H2 x y fun o => Q (.bl o.isSome) H2
def tPNotIn (P : Program) (w : World) (K : PySem.W.Frag) (ty td : TE) : TE := fun σ H Q => ty σ H fun y H1 => td σ H1 fun x H2 => PLk P w K H2 x y fun o => Q (.bl (!o.isSome)) H2
end
section
open Builtin Builtin.Str Builtin.Int Builtin.Float
def spW : Str := "<17"
def tFmtW (te ts : TE) : TE := fun σ H Q => te σ H fun x H1 => ts σ H1 fun y H2 => ∃ a : Str, x = .str a ∧ y = .str spW ∧ a.length ≤ 100000 ∧ Q (.str (Txt.ljust a 17)) H2
section
variable {K : PySem.W.Frag} {G : Cells K} {te ts : TE} {a : Str}
theorem okS_ljust (h : okS a) (hz : a.length ≤ 99000) : okS (Txt.ljust a 17) := by
  unfold Txt.ljust
  split
  · exact h
  · refine ⟨?_, ?_⟩
    · show (padded a 0 _ 32).length ≤ 100000
      have : (padded a 0 ((17 : Int).toNat - a.length) 32).length = a.length + ((17 : Int).toNat - a.length) := by
        unfold padded Str.length
        simp
      rw [this]
      have : (17 : Int).toNat = 17 := rfl
      omega
    · have h2 := h.2
      simp only [Array.all_eq_true] at h2 ⊢
      unfold padded
      simp [Array.all_eq_true] at h2 ⊢
      intro i hi
      rw [Array.getElem_append]
      split
      · exact h2 i (by assumption)
      · simp
theorem ev_fmtW (h : Ev rS te G a) (h2 : Ev rS ts G spW) (hz : a.length ≤ 99000) : Ev rS (tFmtW te ts) G (Txt.ljust a 17) := fun H0 σ H E Q k =>
  h H0 σ H E _ fun v H1 e1 ⟨ev, ok⟩ => h2 H0 σ H1 (E.grow e1) _ fun v2 H2 e2 ⟨ev2, ok2⟩ => ⟨a, ev, ev2, ok.1, k _ H2 (e1.trans e2) ⟨rfl, okS_ljust ok hz⟩⟩
end
end
end Gt
namespace Gt
open PySem PySem.Spec PyProof.Rows L2
section
open PySem PySem.W PySem.Calls PyProof.Rows PyProof.V PySem.Spec L2
inductive PHit (P : Program) (w : World) (K : PySem.W.Frag) (H : Hp) (ys : List PEt) : List PEt → Bool → Prop
  | nil : PHit P w K H ys [] true
  | miss {k : PKy} {a : Addr} {v : Value} {r : List PEt} : atKey ys k = none → PHit P w K H ys ((k, a, v) :: r) false
  | hit {k : PKy} {a : Addr} {v : Value} {p : Addr × Value} {r : List PEt} {b : Bool} {x y : V} {d e : PyData} : atKey ys k = some p → RelV x v → RelV y p.2 → Dp K H x d → Dp K H y e → SeqAt.shaped d = true → SeqAt.shaped e = true →
      PHit P w K H ys r b → PHit P w K H ys ((k, a, v) :: r) (PyData.eqv d e && b)
def rPEq (P : Program) (w : World) (K : PySem.W.Frag) : R2 := fun x y H Q => ∃ a b ep ep' xs ys r, x = .ref a ∧ y = .ref b ∧ PdAt P w K H a ep xs ∧ PdAt P w K H b ep' ys ∧ (xs.length = ys.length → PHit P w K H ys xs r) ∧ Q (.bl (xs.length == ys.length && r)) H
end
section
abbrev KP := Str × Option Str
def kP (k : KP) : PKy := [some (.inr k.1), k.2.map .inr]
def okP (k : KP) : Prop := okS k.1 ∧ ∀ t, k.2 = some t → okS t
def pkey {α : Type} (xs : List (KP × α)) (k : KP) : Option α := (xs.find? fun kv => decide (kv.1 = k)).map (·.2)
def pput {α : Type} (xs : List (KP × α)) (k : KP) (v : α) : List (KP × α) := if (pkey xs k).isSome = true then xs.map (fun kv => if kv.1 = k then (kv.1, v) else kv) else xs ++ [(k, v)]
theorem kP_inj {a b : KP} (h : kP a = kP b) : a = b := by
  obtain ⟨a1, a2⟩ := a
  obtain ⟨b1, b2⟩ := b
  unfold kP at h
  injection h with h1 h2
  injection h2 with h2 _
  have e1 : a1 = b1 := by injection h1 with h1; injection h1
  have e2 : a2 = b2 := by
    cases a2 <;> cases b2
    · rfl
    · exact nomatch h2
    · exact nomatch h2
    · have : (some (Sum.inr _) : Option Key) = some (Sum.inr _) := h2
      injection this with q
      injection q with q
      rw [q]
  rw [e1, e2]
structure Pe (K : PySem.W.Frag) {α : Type} (R : V → α → Prop) (H : Hp) (x : PEt) (y : KP × α) : Prop where
  key : x.1 = kP y.1
  ok : okP y.1
  at_ : SqT K H x.2.1 (x.1.map pkV)
  val : ∃ v, R v y.2 ∧ RelV v x.2.2
section
variable {K : PySem.W.Frag} {α : Type} {R R' : V → α → Prop} {H H' : Hp} {es : List PEt} {xs : List (KP × α)}
theorem Pe.up {x : PEt} {y : KP × α} (h : Pe K R H x y) (f : ∀ v b, R v b → R' v b) (e : ExT K H H') : Pe K R' H' x y := ⟨h.key, h.ok, e _ _ h.at_, let ⟨v, q, z⟩ := h.val; ⟨v, f _ _ q, z⟩⟩
theorem pe_at (h : A2 (Pe K R H) es xs) (k : KP) : (∃ p b v, atKey es (kP k) = some p ∧ pkey xs k = some b ∧ R v b ∧ RelV v p.2) ∨ (atKey es (kP k) = none ∧ pkey xs k = none) := by
  induction h with
  | nil => exact .inr ⟨rfl, rfl⟩
  | @cons x y l m h1 h2 ih =>
    by_cases e : y.1 = k
    · obtain ⟨v, q, z⟩ := h1.val
      refine .inl ⟨x.2, y.2, v, ?_, ?_, q, z⟩
      · unfold atKey
        rw [List.find?_cons, decide_eq_true (by rw [h1.key, e])]
        rfl
      · unfold pkey
        rw [List.find?_cons, decide_eq_true e]
        rfl
    · have ea : atKey (x :: l) (kP k) = atKey l (kP k) := by
        unfold atKey
        rw [List.find?_cons, decide_eq_false fun z => e (kP_inj (h1.key.symm.trans z))]
      have eb : pkey (y :: m) k = pkey m k := by
        unfold pkey
        rw [List.find?_cons, decide_eq_false e]
      rw [ea, eb]
      exact ih
theorem pe_map (h : A2 (Pe K R H) es xs) {k : KP} {u : Value} {v : V} {b : α} (hv : R v b) (ru : RelV v u) : A2 (Pe K R H) (es.map (putAt (kP k) u)) (xs.map fun kv => if kv.1 = k then (kv.1, b) else kv) := by
  induction h with
  | nil => exact .nil
  | @cons x y l m h1 h2 ih =>
    rw [List.map_cons, List.map_cons]
    refine .cons ?_ ih
    unfold putAt
    by_cases e : y.1 = k
    · rw [if_pos (by rw [h1.key, e]), if_pos e]
      exact ⟨h1.key, h1.ok, h1.at_, v, hv, ru⟩
    · rw [if_neg fun z => e (kP_inj (h1.key.symm.trans z)), if_neg e]
      exact h1
theorem pe_put (h : A2 (Pe K R H) es xs) {k : KP} {a : Addr} {u : Value} {v : V} {b : α} (hk : okP k) (ha : SqT K H a ((kP k).map pkV)) (hv : R v b) (ru : RelV v u) : A2 (Pe K R H) (storedH es (kP k) a u) (pput xs k b) := by
  unfold storedH pput
  rcases pe_at h k with ⟨p, b', v', e1, e2, _, _⟩ | ⟨e1, e2⟩
  · rw [e1, e2, if_pos (show (some p).isSome = true from rfl), if_pos (show (some b').isSome = true from rfl)]
    exact pe_map h hv ru
  · rw [e1, e2, if_neg (show ¬ (none : Option (Addr × Value)).isSome = true from fun z => nomatch z), if_neg (show ¬ (none : Option α).isSome = true from fun z => nomatch z)]
    exact A2.app (.one ⟨rfl, hk, ha, v, hv, ru⟩) h
theorem putAt_key {k : PKy} {u : Value} {l : List PEt} : (l.map (putAt k u)).map (·.1) = l.map (·.1) := by
  rw [List.map_map]
  refine List.map_congr_left fun x _ => ?_
  show (putAt k u x).1 = x.1
  unfold putAt
  split <;> rfl
theorem nd_put {k : PKy} {a : Addr} {u : Value} (h : (es.map (·.1)).Nodup) : ((storedH es k a u).map (·.1)).Nodup := by
  unfold storedH
  split
  · rw [putAt_key]; exact h
  · rename_i hn
    rw [List.map_append, List.map_cons, List.map_nil]
    refine List.nodup_append.mpr ⟨h, by simp, fun x hx y hy => ?_⟩
    rw [List.mem_singleton] at hy
    subst hy
    intro e
    subst e
    obtain ⟨z, hz, e⟩ := List.mem_map.mp hx
    refine hn ?_
    unfold atKey
    rw [Option.isSome_map, List.find?_isSome]
    exact ⟨z, hz, by simpa using e⟩
end
abbrev rKP (K : PySem.W.Frag) : Rp KP := rP K rS (rO rS)
theorem key_to {K : PySem.W.Frag} {H : Hp} {v : V} {k : KP} (h : rKP K H v k) : ∃ b, v = .ref b ∧ SqT K H b ((kP k).map pkV) ∧ okP k := by
  obtain ⟨a, x, y, ev, hs, ⟨hx, ox⟩, hy⟩ := h
  obtain ⟨k1, k2⟩ := k
  cases k2 with
  | none =>
    have hy' : y = .non := hy
    subst hx hy'
    exact ⟨a, ev, hs, ox, fun t z => nomatch z⟩
  | some t =>
    obtain ⟨hy', oy⟩ := (show y = .str t ∧ okS t from hy)
    subst hx hy'
    exact ⟨a, ev, hs, ox, fun t' z => by cases z; exact oy⟩
def npd (P : Program) (w : World) (K : PySem.W.Frag) {β : Type} (r : Rp β) : Rs K (List (KP × β)) where
  rep := fun H v xs as => ∃ (p : Addr) (ep : Nat) (es : List PEt), as = [p] ∧ v = .ref p ∧ H p = some (PDO P w p ep es) ∧ (p == sysModules) = false ∧ (es.map fun (x : PEt) => x.1).Nodup ∧ A2 (Pe K (Stb K r H) H) es xs
  stay := fun ⟨p, ep, es, e, ev, h, hs, nd, q⟩ x k => ⟨p, ep, es, e, ev, k p (by rw [e]; exact List.mem_singleton.mpr rfl) _ h, hs, nd, q.imp fun _ _ z => z.up (fun _ _ y => y.up x) x⟩
  there := fun ⟨p, ep, es, e, _, h, _⟩ b hb => by
    rw [e] at hb
    cases List.mem_singleton.mp hb
    exact ⟨_, h, fun z => z⟩
def rPD (P : Program) (w : World) (K : PySem.W.Frag) {β : Type} (r : Rp β) : Rp (List (KP × β)) := fun H v xs => ∃ (p : Addr) (ep : Nat) (es : List PEt), v = .ref p ∧ H p = some (PDO P w p ep es) ∧ (p == sysModules) = false ∧ (es.map fun (x : PEt) => x.1).Nodup ∧ A2 (Pe K (r H) H) es xs ∧ xs.length ≤ 12000000
section
variable {P : Program} {w : World} {K : PySem.W.Frag} {H0 H1 H H' : Hp} {σ : L2.St} {G G' : Cells K} {α β : Type} {D : Ends}
variable {ta tb te td ty tx tv : TE} {r : Rp α} {x x' : α} {k : KP} {i : Nat} {xs ys : List (KP × α)}
instance [M : Mono r] : Mono (rPD P w K r) := ⟨fun {H H' v xs} e h => by
  obtain ⟨p, ep, es, ev, h, hs, nd, q, hz⟩ := h
  exact ⟨p, ep, es, ev, e _ _ h, hs, nd, q.imp fun _ _ z => z.up (fun _ _ y => M.up e y) (ext_same e), hz⟩⟩
theorem pd_at {R : V → α → Prop} {p : Addr} {ep : Nat} {es : List PEt} (h : H p = some (PDO P w p ep es)) (hs : (p == sysModules) = false) (nd : (es.map (·.1)).Nodup) (q : A2 (Pe K R H) es xs) (hz : xs.length ≤ 12000000) : PdAt P w K H p ep es := by
  refine ⟨h, ?_, nd, by rw [q.len]; exact sz hz, hs⟩
  clear hz nd h
  induction q with
  | nil => exact fun x hx => nomatch hx
  | cons h1 _ ih =>
    intro x hx
    rcases List.mem_cons.mp hx with e | e
    · subst e; exact h1.at_
    · exact ih x e
theorem a_pdO (h : G[i]? = some (some (.ow (npd P w K r) xs))) (hz : xs.length ≤ 12000000) : Ev (rPD P w K r) (tVar i) G xs := fun H0 σ H E Q k => by
  obtain ⟨own, _, _, h3⟩ := E.at_
  obtain ⟨v, hv, p, ep, es, _, ev, hp, hs, nd, q⟩ := h3 i _ h
  exact ⟨v, hv, k v H (Same.refl H) ⟨p, ep, es, ev, hp, hs, nd, q.imp fun _ _ z => z.up (fun _ _ y => y.now) (ExT.refl _), hz⟩⟩
theorem nw_pnew : Nw (npd P w K r) (tPNew P w) G [] := fun H0 σ H E Q k p ep hp hs => k _ _ [p] (same_new hp) (fun b hb => by rw [List.mem_singleton.mp hb]; exact hp) ⟨p, ep, [], rfl, rfl, upd_same, hs, List.nodup_nil, .nil⟩
theorem a_pget (h : Ev (rPD P w K r) td G xs) (h' : Ev (rKP K) ty G k) (M : Mono r) (hx : pkey xs k = some x) : Ev r (tPGet P w K td ty) G x := fun H0 σ H E Q c =>
  h H0 σ H E _ fun v H1 e1 hd => h' H0 σ H1 (E.grow e1) _ fun y H2 e2 hy => by
    obtain ⟨p, ep, es, ev, hp, hs, nd, q, hz⟩ := (inferInstance : Mono (rPD P w K r)).up e2 hd
    obtain ⟨b, ey, hb, ok⟩ := key_to hy
    refine ⟨p, ep, es, b, kP k, ev, pd_at hp hs nd q hz, ey, hb, ?_⟩
    rcases pe_at q k with ⟨p', b', v', e5, e6, hq, rv⟩ | ⟨e5, e6⟩
    · rw [hx] at e6
      cases e6
      exact ⟨p', v', e5, rv, c _ H2 (e1.trans e2) hq⟩
    · rw [hx] at e6
      cases e6
theorem a_pIn (h : Ev (rKP K) ty G k) (h' : Ev (rPD P w K r) td G xs) (M : Mono r) : Ev rB (tPIn P w K ty td) G (pkey xs k).isSome := fun H0 σ H E Q c =>
  h H0 σ H E _ fun y H1 e1 hy => h' H0 σ H1 (E.grow e1) _ fun v H2 e2 ⟨p, ep, es, ev, hp, hs, nd, q, hz⟩ => by
    obtain ⟨b, ey, hb, ok⟩ := key_to hy
    refine ⟨p, ep, es, b, kP k, ev, pd_at hp hs nd q hz, ey, ext_same e2 _ _ hb, ?_⟩
    rcases pe_at q k with ⟨p', b', v', e5, e6, _, _⟩ | ⟨e5, e6⟩
    · rw [e5]; exact c _ H2 (e1.trans e2) (by rw [e6]; rfl)
    · rw [e5]; exact c _ H2 (e1.trans e2) (by rw [e6]; rfl)
theorem a_pNin (h : Ev (rKP K) ty G k) (h' : Ev (rPD P w K r) td G xs) (M : Mono r) : Ev rB (tPNotIn P w K ty td) G (!(pkey xs k).isSome) := fun H0 σ H E Q c =>
  h H0 σ H E _ fun y H1 e1 hy => h' H0 σ H1 (E.grow e1) _ fun v H2 e2 ⟨p, ep, es, ev, hp, hs, nd, q, hz⟩ => by
    obtain ⟨b, ey, hb, ok⟩ := key_to hy
    refine ⟨p, ep, es, b, kP k, ev, pd_at hp hs nd q hz, ey, ext_same e2 _ _ hb, ?_⟩
    rcases pe_at q k with ⟨p', b', v', e5, e6, _, _⟩ | ⟨e5, e6⟩
    · rw [e5]; exact c _ H2 (e1.trans e2) (by rw [e6]; rfl)
    · rw [e5]; exact c _ H2 (e1.trans e2) (by rw [e6]; rfl)
noncomputable def pdSame (xs ys : List (KP × α)) : Bool := xs.length == ys.length && xs.all fun kv => match pkey ys kv.1 with
  | none => false
  | some y => eqB kv.2 y
theorem phit_of (DD : DatC K r) {es fs : List PEt} (h : A2 (Pe K (r H) H) es xs) (h' : A2 (Pe K (r H) H) fs ys) : PHit P w K H fs es (xs.all fun kv => match pkey ys kv.1 with
  | none => false
  | some y => eqB kv.2 y) := by
  obtain ⟨D, hd⟩ := DD
  induction h with
  | nil => exact .nil
  | @cons x y l m h1 h2 ih =>
    obtain ⟨k, a, u⟩ := x
    obtain ⟨v, hv, rv⟩ := h1.val
    rw [List.all_cons]
    have hk : k = kP y.1 := h1.key
    rcases pe_at h' y.1 with ⟨p, b, v', e1, e2, hv', rv'⟩ | ⟨e1, e2⟩
    · rw [e2]
      have e3 : eqB y.2 b = PyData.eqv (D.enc y.2) (D.enc b) := by rw [D.eqv]; unfold eqB; congr
      show PHit P w K H fs ((k, a, u) :: l) (eqB y.2 b && _)
      rw [e3]
      exact .hit (by rw [hk]; exact e1) rv rv' (D.dp hv) (D.dp hv') (dat_shaped D (Nat.le_of_lt hd) hv) (dat_shaped D (Nat.le_of_lt hd) hv') ih
    · rw [e2]
      exact .miss (by rw [hk]; exact e1)
theorem a_peq (h : Ev (rPD P w K r) ta G xs) (h' : Ev (rPD P w K r) tb G ys) (M : Mono r) (DD : DatC K r) : Ev rB (tOp (rPEq P w K) ta tb) G (pdSame xs ys) := ev_op h h' fun H u v ⟨p, ep, es, eu, hp, hs, nd, q, hz⟩ ⟨p', ep', es', ev, hp', hs', nd', q', hz'⟩ Q k =>
  ⟨p, p', ep, ep', es, es', _, eu, ev, pd_at hp hs nd q hz, pd_at hp' hs' nd' q' hz', fun _ => phit_of DD q q', k _ H (Same.refl H) (by show V.bl _ = V.bl _; rw [q.len, q'.len]; rfl)⟩
end
end
section
def LeS (a b : Str) : Prop := ¬ LtS b a
theorem leS_tr {a b c : Str} (h : LeS a b) (h' : LeS b c) : LeS a c := fun z => by
  by_cases e : b = c
  · subst e; exact h z
  · exact h (ltS_tr (ltS_tot h' (Ne.symm e)) z)
theorem leS_as {a b : Str} (h : LeS a b) (h' : LeS b a) : a = b := by
  by_cases e : a = b
  · exact e
  · exact absurd (ltS_tot h' e) h
theorem leS_of {x p : Str} (h : (!ltCps x.cps.toList p.cps.toList) = true) : LeS p x := fun c => by
  rw [ltCps_eq] at h
  have c' : decide (x.cps.toList < p.cps.toList) = true := decide_eq_true c
  rw [c'] at h
  cases h
theorem rising_leS : ∀ (p : Str) (l : List Str), risingS p l = true → (p :: l).Pairwise LeS
  | p, [], _ => by simp
  | p, x :: r, h => by
    have h0 : (!ltCps x.cps.toList p.cps.toList && risingS x r) = true := h
    rw [Bool.and_eq_true] at h0
    have ih := rising_leS x r h0.2
    have hx := leS_of h0.1
    refine List.pairwise_cons.mpr ⟨fun y hy => ?_, ih⟩
    rcases List.mem_cons.mp hy with e | e
    · exact e ▸ hx
    · exact leS_tr hx ((List.pairwise_cons.mp ih).1 y e)
theorem sorted_leS {l : List Str} (h : sortedS l = true) : l.Pairwise LeS := by
  cases l with
  | nil => exact .nil
  | cons p r => exact rising_leS p r h
noncomputable def insL (x : Str) : List Str → List Str
  | [] => [x]
  | y :: r => @ite _ (LtS y x) (Classical.propDecidable _) (y :: insL x r) (x :: y :: r)
noncomputable def srtL : List Str → List Str
  | [] => []
  | x :: r => insL x (srtL r)
theorem insL_perm (x : Str) : ∀ l : List Str, (insL x l).Perm (x :: l)
  | [] => .refl _
  | y :: r => by
    unfold insL
    split
    · exact ((insL_perm x r).cons y).trans (.swap x y r)
    · exact .refl _
theorem srtL_perm : ∀ l : List Str, (srtL l).Perm l
  | [] => .refl _
  | x :: r => (insL_perm x _).trans ((srtL_perm r).cons x)
theorem insL_srt (x : Str) : ∀ l : List Str, l.Pairwise LeS → (insL x l).Pairwise LeS
  | [], _ => by unfold insL; simp
  | y :: r, h => by
    obtain ⟨h1, h2⟩ := List.pairwise_cons.mp h
    unfold insL
    split
    · rename_i c
      refine List.pairwise_cons.mpr ⟨fun z hz => ?_, insL_srt x r h2⟩
      rcases List.mem_cons.mp ((insL_perm x r).mem_iff.mp hz) with e | e
      · subst e
        exact fun d => ltS_irr _ (ltS_tr c d)
      · exact h1 z e
    · rename_i c
      refine List.pairwise_cons.mpr ⟨fun z hz => ?_, h⟩
      rcases List.mem_cons.mp hz with e | e
      · subst e; exact c
      · exact leS_tr c (h1 z e)
theorem srtL_srt : ∀ l : List Str, (srtL l).Pairwise LeS
  | [] => .nil
  | x :: r => insL_srt x _ (srtL_srt r)
theorem srtL_of {xs ys : List Str} (hp : ys.Perm xs) (hs : sortedS ys = true) : ys = srtL xs :=
  (hp.trans (srtL_perm xs).symm).eq_of_pairwise (fun a b _ _ h h' => leS_as h h') (sorted_leS hs) (srtL_srt xs)
section
variable {K : PySem.W.Frag} {G : Cells K} {ta tb te ts : TE} {a b s : Str} {i : Int}
theorem a_srtL {xs : List Str} (h : Ev (rL rS) ta G xs) (hb : xs.length < 64) : Nw (nl K rS) (tCB (rSortedS K) (tCons ta tNil)) G (srtL xs) := fun H0 σ H E Q k =>
  h H0 σ H E _ fun v H1 e1 ⟨p, us, ev, hp, z⟩ => by
    have eu : us = xs.map V.str := strs_A2 z
    have ok : ∀ x ∈ xs, okS x := A2_mem (H := H1) (z.imp fun _ _ q => q.2)
    refine ⟨p, xs, by rw [ev], by rw [← eu]; exact SqL.of hp, hb, fun ys q hpm hs hq => ?_⟩
    have en := srtL_of hpm hs
    subst en
    refine k _ _ [q] (e1.trans (same_new hq)) (fun b hb => by rw [List.mem_singleton.mp hb]; exact e1.free hq) ⟨q, _, rfl, rfl, upd_same, stbs (A2_strs (srtL xs) fun x hx => ⟨rfl, ok x (hpm.mem_iff.mp hx)⟩)⟩
theorem ev_ljust (h : Ev rS ta G a) (h' : Ev rI tb G i) (hp : PadOk i = true) (hk : okS (Txt.ljust a i)) :
    Ev rS (tM1 (fun x xs H Q => ∃ (a : Str) (i : Int), x = .str a ∧ xs = [.int i] ∧ PadOk i = true ∧ Q (.str (Txt.ljust a i)) H) ta tb) G (Txt.ljust a i) := fun H0 σ H E Q k =>
  h H0 σ H E _ fun v H1 e1 z1 => ⟨⟨a, z1.1⟩, h' H0 σ H1 (E.grow e1) _ fun w H2 e2 z2 => ⟨a, i, z1.1, by rw [show w = .int i from z2], hp, k _ H2 (e1.trans e2) ⟨rfl, hk⟩⟩⟩
theorem ev_joinT {xs : List Str} (h : Ev rS ta G s) (h' : Ev (rT K rS) tb G xs) (hz : (xs.map (·.length)).sum + xs.length * s.length ≤ 16777216) (hk : okS (Txt.join s xs)) :
    Ev rS (tM1 (fun x xs H Q => ∃ a p, ∃ ys : List Str, x = .str a ∧ xs = [.ref p] ∧ (SqL K H p (ys.map V.str) ∨ SqT K H p (ys.map V.str)) ∧ (ys.map (·.length)).sum + ys.length * a.length ≤ 16777216 ∧ Q (.str (Txt.join a ys)) H) ta tb) G (Txt.join s xs) := fun H0 σ H E Q k =>
  h H0 σ H E _ fun v H1 e1 z1 => ⟨⟨s, z1.1⟩, h' H0 σ H1 (E.grow e1) _ fun w H2 e2 ⟨p, vs, ev, hp, z2⟩ => ⟨s, p, xs, z1.1, by rw [ev], .inr (by rw [← strs_A2 z2]; exact hp.t), hz, k _ H2 (e1.trans e2) ⟨rfl, hk⟩⟩⟩
theorem ev_fmt (h : Ev rS te G a) : Ev rS (tFmt te) G a := fun H0 σ H E Q k => h H0 σ H E _ fun v H1 e1 z => .inl ⟨a, z.1, sz z.2.1, k _ H1 e1 ⟨rfl, z.2⟩⟩
inductive EJ (G : Cells K) : List TE → List Str → Prop
  | nil : EJ G [] []
  | cons {t : TE} {ts : List TE} {a : Str} {as : List Str} (h : Ev rS t G a) (r : EJ G ts as) : EJ G (t :: ts) (a :: as)
def catS (acc : Str) : List Str → Str
  | [] => acc
  | a :: as => catS (acc ++ a) as
theorem strApp_len (a b : Str) : (a ++ b).length = a.length + b.length := by
  show (a.cps ++ b.cps).size = a.cps.size + b.cps.size
  exact Array.size_append
theorem catS_len : ∀ (as : List Str) (acc : Str), acc.length ≤ (catS acc as).length
  | [], acc => Nat.le_refl _
  | a :: as, acc => by
    have := catS_len as (acc ++ a)
    rw [strApp_len] at this
    show acc.length ≤ (catS (acc ++ a) as).length
    omega
theorem ej_run {tl : List TE} {as : List Str} (h : EJ G tl as) : ∀ (acc : Str) (H0 : Hp) (σ : L2.St) (H : Hp) (Q : Str → Hp → Prop), Env H0 σ H G → (catS acc as).length ≤ 100000 → (∀ H', Same H H' → Q (catS acc as) H') → tJs tl acc σ H Q := by
  induction h with
  | nil => exact fun acc H0 σ H Q E hz k => k H (Same.refl H)
  | @cons t ts a as h r ih =>
    intro acc H0 σ H Q E hz k
    refine h H0 σ H E _ fun v H1 e1 z => ⟨a, z.1, szS ?_, ih (acc ++ a) H0 σ H1 Q (E.grow e1) hz fun H' e => k H' (e1.trans e)⟩
    exact Nat.le_trans (catS_len as (acc ++ a)) hz
theorem ev_js {tl : List TE} {as : List Str} (h : EJ G tl as) (hk : okS (catS Str.empty as)) : Ev rS (fun σ H Q => tJs tl Str.empty σ H fun out H1 => Q (.str out) H1) G (catS Str.empty as) := fun H0 σ H E Q k =>
  ej_run h Str.empty H0 σ H _ E hk.1 fun H' e => k _ H' e ⟨rfl, hk⟩
theorem ev_spW : Ev rS (tC (.str "<17")) G spW := ev_c fun _ => ⟨rfl, by decide +kernel⟩
end
end
section
class FrzA (K : PySem.W.Frag) {α : Type} (A : Ra α) : Prop where
  up {H H' : Hp} {vs : List V} {a : α} (x : ExT K H H') (h : A H vs a) : A H' vs a
instance {K : PySem.W.Frag} : FrzA K aN := ⟨fun _ h => h⟩
instance {K : PySem.W.Frag} {α β : Type} {r : Rp α} {A : Ra β} [F : Frz K r] [G : FrzA K A] : FrzA K (aC r A) := ⟨fun x ⟨v, ws, e, h, t⟩ => ⟨v, ws, e, F.up x h, G.up x t⟩⟩
def rW (K : PySem.W.Frag) {α : Type} (A : Ra α) : Rp α := fun H v a => ∃ p vs, v = .ref p ∧ SqT K H p vs ∧ A H vs a
instance {K : PySem.W.Frag} {α : Type} {A : Ra α} [M : MonoA A] : Mono (rW K A) := ⟨fun e ⟨p, vs, ev, h, z⟩ => ⟨p, vs, ev, ext_same e _ _ h, M.up e z⟩⟩
instance {K : PySem.W.Frag} {α : Type} {A : Ra α} [F : FrzA K A] : Frz K (rW K A) := ⟨fun x ⟨p, vs, ev, h, z⟩ => ⟨p, vs, ev, x _ _ h, F.up x z⟩⟩
def WIx {α β : Type} (A : Ra α) (j : Nat) (r : Rp β) (a : α) (b : β) : Prop := ∀ H vs, A H vs a → ∃ v, vs[j]? = some v ∧ r H v b
theorem wix_hd {α β : Type} {r : Rp α} {A : Ra β} {p : α × β} : WIx (aC r A) 0 r p p.1 := fun H vs ⟨v, ws, e, h, _⟩ => ⟨v, by rw [e]; rfl, h⟩
theorem wix_tl {α β γ : Type} {r : Rp α} {q : Rp γ} {A : Ra β} {p : α × β} {j : Nat} {b : γ} (h : WIx A j q p.2 b) : WIx (aC r A) (j + 1) q p b := fun H vs ⟨v, ws, e, _, t⟩ => by
  obtain ⟨u, hu, z⟩ := h H ws t
  exact ⟨u, by rw [e]; exact hu, z⟩
section
variable {K : PySem.W.Frag} {H0 H1 H H' : Hp} {σ : L2.St} {G G1 G' : Cells K} {α β γ : Type} {D : Ends} {u : TS}
variable {ta te : TE} {tl : TA} {r : Rp α} {q : Rp β} {A : Ra α} {B : Ra β} {a x : α} {b : β} {n j : Nat} {g : TG} {gs : TGs}
theorem a_tupW (h : EvA A tl G a) (M : MonoA A) (L : LenA A n) (hn : n ≤ 1000) : Ev (rW K A) (tTupD tl) G a := fun H0 σ H E Q k =>
  h H0 σ H E _ fun vs H1 e1 z => ⟨by rw [L.len z]; exact sz (m := 12000000) (by omega), fun p o hp hd => k _ _ (e1.trans (same_new hp)) ⟨p, vs, rfl, (SqD.of upd_same hd).t, M.up (same_new hp) z⟩⟩
instance : TyN K (rW K A) "tuple" := ⟨fun ⟨p, vs, ev, hp, _⟩ => by rw [ev]; exact ty_tup hp⟩
instance {z : α} [L : LenA A n] : Lnd K (rW K A) z n True := ⟨fun {H u} ⟨p, vs, ev, hp, h⟩ _ => by rw [ev, ← L.len h]; exact .inr ⟨vs, hp, rfl⟩⟩
theorem lnc_W [M : MonoA A] [L : LenA A n] : LnC K (rW K A) a n := fun G te h => ev_len h trivial
theorem at_nat {vs : List V} {v : V} (h : vs[j]? = some v) : atI vs ((j : Nat) : Int) = some v := atI_pos (by omega) (by simpa using h)
theorem ixc_W {i : Int} (h : WIx A j q a b) (ei : i = ((j : Nat) : Int)) : IxC K (rW K A) a (tC (.int i)) G q b := fun ta hh => fun H0 σ H E Q k => by
  subst ei
  refine hh H0 σ H E _ fun v H1 e1 ⟨p, vs, ev, hp, z⟩ => ?_
  obtain ⟨w, hw, hz⟩ := h H1 vs z
  exact .inr (.inl ⟨p, vs, ((j : Nat) : Int), w, ev, rfl, hp, at_nat hw, k w H1 e1 hz⟩)
end
end
end Gt
namespace RT
open PySem PySem.Calls PySem.Spec PyProof.Rows L2
def tListRev (K : PySem.W.Frag) (te : TE) : TE := fun σ H Q => te σ H fun v H1 => ∃ (a : Addr) (xs : List V), v = .ref a ∧ SqL K H1 a xs ∧ ∀ q, H1 q = none → Q (.ref q) (upd H1 q (.lst xs.reverse))
end RT
namespace Gt
open PySem PySem.Spec PyProof.Rows L2
section
open PySem PySem.Spec PyProof.Rows L2
section
variable {K : PySem.W.Frag} {G : Cells K} {α : Type} {te : TE} {r : Rp α}
theorem nw_listRev {xs : List α} [M : Mono r] [F : Frz K r] (h : Ev (rL r) te G xs) : Nw (nl K r) (RT.tListRev K te) G xs.reverse := fun H0 σ H E Q k =>
  h H0 σ H E _ fun v H1 e1 ⟨p, us, ev, hp, z⟩ => ⟨p, us, ev, SqL.of hp, fun q hq => k _ _ [q] (e1.trans (same_new hq)) (fun b hb => by rw [List.mem_singleton.mp hb]; exact e1.free hq) ⟨q, _, rfl, rfl, upd_same, stbs (A2.imp (fun _ _ y => M.up (same_new hq) y) z.rev)⟩⟩
end
end
section
end
section
abbrev PIn := PKy × Addr × V
def putsH (es : List PEt) : List PIn → List Value → List PEt
  | x :: ks, u :: us => putsH (storedH es x.1 x.2.1 u) ks us
  | _, _ => es
def tPDisp (P : Program) (w : World) (K : PySem.W.Frag) (trs : List (TE × TE)) : TE := fun σ H Q => ∀ p ep, H p = none → (p == sysModules) = false → tPairs trs σ (upd H p (PDO P w p ep [])) fun ps H2 => H2 p = some (PDO P w p ep []) ∧
  ∃ ks : List PIn, ps = ks.map (fun x => (V.ref x.2.1, x.2.2)) ∧ ks.length ≤ 15 ∧ (∀ x ∈ ks, SqT K H2 x.2.1 (x.1.map pkV)) ∧ ∀ us ep', A2 (fun (x : PIn) u => RelV x.2.2 u) ks us → Q (.ref p) (upd H2 p (PDO P w p ep' (putsH [] ks us)))
end
section
section
variable {P : Program} {w : World} {K : PySem.W.Frag} {H : Hp} {G : Cells K} {α : Type} {r : Rp α}
def EvD (r : Rp α) (trs : List (TE × TE)) (G : Cells K) (kvs : List (KP × α)) : Prop := ∀ H0 σ H, Env H0 σ H G → ∀ Q : List (V × V) → Hp → Prop, (∀ ps H', Same H H' → A2 (fun (p : V × V) (kv : KP × α) => rKP K H' p.1 kv.1 ∧ r H' p.2 kv.2) ps kvs → Q ps H') → tPairs trs σ H Q
theorem evd_nil : EvD r [] G [] := fun H0 σ H E Q k => k [] H (Same.refl H) .nil
theorem evd_cons {tk tv : TE} {trs : List (TE × TE)} {k : KP} {v : α} {kvs : List (KP × α)} (hk : Ev (rKP K) tk G k) (hv : Ev r tv G v) (M : Mono r) (h : EvD r trs G kvs) : EvD r ((tk, tv) :: trs) G ((k, v) :: kvs) := fun H0 σ H E Q q =>
  hk H0 σ H E _ fun x H1 e1 z1 => hv H0 σ H1 (E.grow e1) _ fun y H2 e2 z2 => h H0 σ H2 (E.grow (e1.trans e2)) _ fun ps H3 e3 z3 =>
    q _ H3 ((e1.trans e2).trans e3) (.cons ⟨(inferInstance : Mono (rKP K)).up (e2.trans e3) z1, M.up e3 z2⟩ z3)
abbrev KIn (K : PySem.W.Frag) (R : V → α → Prop) (H : Hp) (x : PIn) (kv : KP × α) : Prop := x.1 = kP kv.1 ∧ okP kv.1 ∧ SqT K H x.2.1 (x.1.map pkV) ∧ R x.2.2 kv.2
theorem kin_of {R : V → α → Prop} : ∀ {ps : List (V × V)} {kvs : List (KP × α)}, A2 (fun (p : V × V) (kv : KP × α) => rKP K H p.1 kv.1 ∧ R p.2 kv.2) ps kvs → ∃ ks : List PIn, ps = ks.map (fun x => (V.ref x.2.1, x.2.2)) ∧ A2 (KIn K R H) ks kvs
  | _, _, .nil => ⟨[], rfl, .nil⟩
  | _, _, @A2.cons _ _ _ p kv ps kvs h t => by
    obtain ⟨ks, e, z⟩ := kin_of t
    obtain ⟨b, eb, hb, ok⟩ := key_to h.1
    refine ⟨(kP kv.1, b, p.2) :: ks, ?_, .cons ⟨rfl, ok, hb, h.2⟩ z⟩
    rw [List.map_cons, ← e, ← eb]
theorem kin_sq {R : V → α → Prop} {ks : List PIn} {kvs : List (KP × α)} (h : A2 (KIn K R H) ks kvs) : ∀ x ∈ ks, SqT K H x.2.1 (x.1.map pkV) := by
  induction h with
  | nil => exact fun x hx => nomatch hx
  | cons h1 _ ih =>
    intro x hx
    rcases List.mem_cons.mp hx with e | e
    · subst e; exact h1.2.2.1
    · exact ih x e
def puts (xs : List (KP × α)) (kvs : List (KP × α)) : List (KP × α) := kvs.foldl (fun acc kv => pput acc kv.1 kv.2) xs
theorem puts_rel {R : V → α → Prop} : ∀ {ks : List PIn} {us : List Value} {kvs xs : List (KP × α)} {es : List PEt}, A2 (fun (x : PIn) u => RelV x.2.2 u) ks us → A2 (KIn K R H) ks kvs → A2 (Pe K R H) es xs → (es.map (·.1)).Nodup →
    A2 (Pe K R H) (putsH es ks us) (puts xs kvs) ∧ ((putsH es ks us).map (·.1)).Nodup
  | _, _, _, _, _, .nil, .nil, z, n => ⟨z, n⟩
  | _, _, _, xs, es, @A2.cons _ _ _ x u ks us hu tu, @A2.cons _ _ _ _ kv _ kvs hk tk, z, n => by
    obtain ⟨e, ok, sq, hr⟩ := hk
    have z2 : A2 (Pe K R H) (storedH es x.1 x.2.1 u) (pput xs kv.1 kv.2) := by
      rw [e] at sq ⊢
      exact pe_put z ok sq hr hu
    have z3 := puts_rel tu tk z2 (nd_put n)
    exact z3
theorem nw_pdisp {trs : List (TE × TE)} {kvs : List (KP × α)} (h : EvD r trs G kvs) (F : Frz K r) (hz : kvs.length ≤ 15) : Nw (npd P w K r) (tPDisp P w K trs) G (puts [] kvs) := fun H0 σ H E Q k p ep hp hs =>
  h H0 σ _ (E.grow (same_new hp)) _ fun ps H2 e2 z => by
    obtain ⟨ks, eps, zk⟩ := kin_of (R := r H2) z
    have hp2 := e2 _ _ upd_same
    refine ⟨hp2, ks, eps, by rw [zk.len]; exact hz, kin_sq zk, fun us ep' hus => ?_⟩
    have x0 : ExT K H2 (upd H2 p (PDO P w p ep' (putsH [] ks us))) := ext_upd hp2 fun z => z
    have zk2 : A2 (KIn K (Stb K r (upd H2 p (PDO P w p ep' (putsH [] ks us)))) (upd H2 p (PDO P w p ep' (putsH [] ks us)))) ks kvs := zk.imp fun _ _ q => ⟨q.1, q.2.1, x0 _ _ q.2.2.1, (stb q.2.2.2).up x0⟩
    obtain ⟨z3, n3⟩ := puts_rel (es := []) (xs := []) hus zk2 .nil List.nodup_nil
    refine k _ _ [p] (fun b o hb => ?_) (fun b hb => by rw [List.mem_singleton.mp hb]; exact hp) ⟨p, ep', _, rfl, rfl, upd_same, hs, n3, z3⟩
    have hb1 : b ≠ p := fun e => by rw [e, hp] at hb; cases hb
    rw [upd_ne hb1]
    exact e2 _ _ (same_new hp _ _ hb)
end
end
section
section
variable {K : PySem.W.Frag} {G : Cells K} {α : Type} {te : TE} {r : Rp α}
theorem nw_revL {xs : List α} [M : Mono r] [F : Frz K r] (h : Ev (rL r) te G xs) : Nw (nl K r) (tRevL K te) G xs.reverse := fun H0 σ H E Q k =>
  h H0 σ H E _ fun v H1 e1 ⟨p, us, ev, hp, z⟩ => ⟨p, us, ev, SqL.of hp, fun q hq => k _ _ [q] (e1.trans (same_new hq)) (fun b hb => by rw [List.mem_singleton.mp hb]; exact e1.free hq) ⟨q, _, rfl, rfl, upd_same, stbs (A2.imp (fun _ _ y => M.up (same_new hq) y) z.rev)⟩⟩
end
end
section
section
variable {K : PySem.W.Frag} {H0 : Hp} {G G' : Cells K} {α β : Type} {D : Ends} {u : TS} {R : Rs K α} {A : Ra β} {a a' : α} {b b' : β} {i n : Nat} {te : TE} {tl : TA} {gs : TGs}
theorem ev_unsome {r : Rp α} {o : Option α} {x : α} (h : Ev (rO r) te G o) (e : o = some x) : Ev r te G x := by subst e; exact h.imp fun _ _ z => z
end
end
section
def eqS (k : Str) (v : Value) : Bool := match v with
  | .str n _ => n == k
  | _ => false
theorem eqS_at {A : Around} {s : Shared} {k : Str} {t : Tok} : ∀ {us : List Value} {ns : List Str}, Vals (ns.map V.str) us → ∀ y ∈ us, SeqAt.EqAt A s y (.str k t) (eqS k y)
  | _, [], .nil => fun y hy => nomatch hy
  | _, n :: ns, .cons hr h => fun y hy => by
    obtain ⟨t', rfl⟩ := hr
    rcases List.mem_cons.mp hy with e | e
    · rw [e]; exact SeqAt.EqAt.str_str n t' k t
    · exact eqS_at h y e
theorem eqS_count {k : Str} : ∀ {us : List Value} {ns : List Str}, Vals (ns.map V.str) us → us.countP (eqS k) = ns.count k
  | _, [], .nil => rfl
  | _, n :: ns, .cons hr h => by
    obtain ⟨t', rfl⟩ := hr
    rw [List.countP_cons, List.count_cons, eqS_count h] <;> rfl
def rCntT (K : PySem.W.Frag) : V → List V → Hp → VK → Prop := fun x xs H Q => ∃ (p : Addr) (ns : List Str) (k : Str), x = .ref p ∧ xs = [.str k] ∧ SqT K H p (ns.map V.str) ∧ Q (.int (ns.count k : Nat)) H
def rCntL (K : PySem.W.Frag) : V → List V → Hp → VK → Prop := fun x xs H Q => ∃ (p : Addr) (ns : List Str) (k : Str), x = .ref p ∧ xs = [.str k] ∧ SqL K H p (ns.map V.str) ∧ Q (.int (ns.count k : Nat)) H
section
variable {X : Cx}
theorem mt_tcountS : MtR X "tuple.count" (rCntT X.K) := by
  intro pins s σ H x xs v us Q I rx rxs hw
  obtain ⟨p, ns, k, rfl, rfl, hs, q⟩ := hw
  cases rx
  obtain ⟨u, rfl, ru⟩ := rxs.one
  obtain ⟨t, rfl⟩ := ru
  obtain ⟨its, rv, ⟨⟨cls, dd, data, sl⟩, ho, hc, n, hd⟩, hlen⟩ := I.tuple hs
  simp only at hc hd
  subst hc hd
  refine call_meets PySem.F.slot_tuple_count ⟨_, ho, rfl⟩ PySem.F.entry_tuple_count (PySem.F.args_tuple_count_2 _ _)
    (SeqAt.tuple_countAt p its.toArray n dd sl (.str k t) (eqS k)) ⟨ho, fun y hy => eqS_at rv y (by simpa using hy), ?_⟩
  have ec : its.toArray.toList.countP (eqS k) = ns.count k := eqS_count rv
  refine ⟨.int (ns.count k : Nat), H, I.tok _, ⟨s.toks, ?_⟩, q⟩
  show Value.int ((its.toArray.toList.countP (eqS k) : Nat) : Int) s.toks = Value.int ((ns.count k : Nat) : Int) s.toks
  rw [ec]
def tTM (K : PySem.W.Frag) (r : V → List V → Hp → VK → Prop) (to : TE) (t : TA) : TE := fun σ H Q => to σ H fun x H1 => (∃ p xs, x = .ref p ∧ SqD K H1 p xs) ∧ t σ H1 fun xs H2 => r x xs H2 Q
theorem sqd_is {pins : List (Addr × Obj)} {σ : L2.St} {H : Hp} {s : Shared} {p : Addr} {xs : List V} (I : L2.Inv X pins σ H s) (h : SqD X.K H p xs) :
    s.TypeIs (.ref p) "tuple" ∧ ∀ a, Value.ref p = .ref a → ∃ ob, s.heap.get? a = some ob ∧ ob.dict = none := by
  obtain ⟨its, _, ⟨ob, ho, hc, _⟩, _⟩ := I.tuple h.t
  refine ⟨⟨ob, ho, hc⟩, fun a e => ?_⟩
  cases e
  rcases h with ⟨o, hp, hd⟩ | ⟨o, _, _, hk, hd, _⟩
  · exact ⟨o, (I.hok p _ hp).1, hd⟩
  · exact ⟨o, I.kIn p o hk, hd⟩
variable {o e : Expr} {es : List Expr} {to : TE} {t : TA} {name : Str} {apos cpos : Pos} {id : String} {r : V → List V → Hp → VK → Prop}
theorem pe_tmt (slot : Slot "tuple" name id) (hty : typeOf (.builtin id) = pure (.type "method_descriptor")) (hm : MtR X id r) (ho : PE X o to) (ha : PA X (e :: es) t)
    (hbase : attributeBase o name X.env (eval o X.env) = eval o X.env := by rfl)
    (hfew : ((backTo cpos (starEach (e :: es) X.env)).all (fun x => !x.1) && (backToKw cpos (keywordEach [] X.env)).all (fun x => x.1.isSome)
      && decide ((e :: es).length + ([] : List Keyword).length + (if ([] : List Keyword).isEmpty then 0 else 1) < 30)) = true := by rfl)
    (hline : (apos.endLine == cpos.line) = true := by rfl) (hs : starEach (e :: es) X.env = (false, eval e X.env) :: starEach es X.env := by rfl) (hplain : (backTo cpos (starEach es X.env)).any (·.1) = false := by rfl) :
    PE X (.Call (.Attribute o name apos) (e :: es) [] cpos) (tTM X.K r to t) := by
  refine ⟨fun pins s σ H Q I h => ?_⟩
  refine wpAny_Call_method_late hbase hfew hline rfl (thn (ho.run pins s σ H _ I h) fun v s1 ⟨x, H1, I1, r1, ty, q1⟩ => ?_)
  obtain ⟨p, xs, rfl, hq⟩ := ty
  cases r1
  obtain ⟨h1, h2⟩ := sqd_is I1 hq
  refine ⟨"tuple", id, PySem.F.plainAttrs_tuple, slot, hty, h1, h2, ?_⟩
  have hA := ha.run cpos pins s1 σ H1 _ I1 q1
  rw [hs] at hA ⊢
  refine Calls.callWith_builtin (by show (false || (backTo cpos (starEach es X.env)).any (·.1)) = false; rw [hplain] <;> rfl) (Calls.evalArgs_plain ?_)
  exact thn hA fun us s2 ⟨vs, H2, I2, r2, q2⟩ => hm pins s2 σ H2 (.ref p) vs _ us Q I2 rfl r2 q2
theorem pe_tcount (ho : PE X o to) (ha : PA X (e :: []) t) (K : PySem.W.Frag) (h : X.K = K := by rfl) (hbase : attributeBase o "count" X.env (eval o X.env) = eval o X.env := by rfl)
    (hfew : ((backTo cpos (starEach (e :: []) X.env)).all (fun x => !x.1) && (backToKw cpos (keywordEach [] X.env)).all (fun x => x.1.isSome)
      && decide ((e :: ([] : List Expr)).length + ([] : List Keyword).length + (if ([] : List Keyword).isEmpty then 0 else 1) < 30)) = true := by rfl)
    (hline : (apos.endLine == cpos.line) = true := by rfl) (hs : starEach (e :: []) X.env = (false, eval e X.env) :: starEach [] X.env := by rfl) (hplain : (backTo cpos (starEach [] X.env)).any (·.1) = false := by rfl) :
    PE X (.Call (.Attribute o "count" apos) [e] [] cpos) (tTM K (rCntT K) to t) := by
  subst h; exact pe_tmt PySem.F.slot_tuple_count PySem.F.type_tuple_count mt_tcountS ho ha hbase hfew hline hs hplain
end
section
variable {K : PySem.W.Frag} {H0 H1 H H' : Hp} {σ : L2.St} {G G' Gx : Cells K} {α β γ δ S ρ : Type}
variable {D : Ends} {t u tb : TS} {wi wi1 : TI} {g g1 : TG} {te ta : TE} {tt tt1 : TT} {r : Rp α} {q : Rp γ} {R : Rs K ρ} {xs : List Str} {s : Str}
theorem ev_tcount (h : Ev (rT K rS) te G xs) (h' : Ev rS ta G s) : Ev rI (tTM K (rCntT K) te (tCons ta tNil)) G (xs.count s : Nat) := fun H0 σ H E Q k =>
  h H0 σ H E _ fun v H1 e1 ⟨p, vs, ev, hp, z⟩ => ⟨⟨p, vs, ev, hp⟩, h' H0 σ H1 (E.grow e1) _ fun w H2 e2 hw => ⟨p, xs, s, ev, by rw [show w = .str s from hw.1], by
    rw [← strs_a2 z]; exact ((ext_same e2).d _ _ hp).t, k _ H2 (e1.trans e2) rfl⟩⟩
theorem ev_lcount (h : Ev (rL rS) te G xs) (h' : Ev rS ta G s) : Ev rI (tBM K "list" (rCntL K) te (tCons ta tNil)) G (xs.count s : Nat) := fun H0 σ H E Q k =>
  h H0 σ H E _ fun v H1 e1 ⟨p, vs, ev, hp, z⟩ => ⟨by rw [ev]; exact .inl ⟨rfl, vs, SqL.of hp⟩, h' H0 σ H1 (E.grow e1) _ fun w H2 e2 hw => ⟨p, xs, s, ev, by rw [show w = .str s from hw.1], by
    rw [← strs_a2 z]; exact SqL.of (e2 _ _ hp), k _ H2 (e1.trans e2) rfl⟩⟩
theorem q_joinY {m : M S} {f : S → M ρ} {o : M ρ} {E : XK} (st : S → Cells K) (h : mb m f = o) (hX : ∀ e, o = .error e → XOk K H0 E e)
    (body : ∀ o', m = o' → (∀ s, o' = .ok s → Nx H0 (st s) (u D)) → (∀ e, o' = .error e → XOk K H0 E e) → Sv H0 G (tSeq t u) D)
    (kk : ∀ s, m = .ok s → Sv H0 (st s) u D) : Sv H0 G (tSeq t u) D := body m rfl (fun s e => kk s e) fun e q => hX e (mbx_er h q)
def mlc2 (z : α → M (List δ)) (p : α → δ → M Bool) (f : α → δ → M γ) : List α → M (List γ)
  | [] => .ok []
  | x :: xs => mb (z x) fun ys => mb (mlc (p x) (f x) ys) fun us => mb (mlc2 z p f xs) fun vs => .ok (us ++ vs)
theorem mlc_all {p : α → M Bool} {f : α → M γ} [Inhabited γ] : ∀ {ys : List α} {zs : List γ}, mlc p f ys = .ok zs →
    zs = (ys.filter fun x => match p x with | .ok b => b | .error _ => false).map (fun x => match f x with | .ok y => y | .error _ => default) ∧ ∀ x ∈ ys, ∃ b, p x = .ok b ∧ (b = true → ∃ y, f x = .ok y)
  | [], zs, h => by cases h; exact ⟨rfl, fun x hx => nomatch hx⟩
  | x :: ys, zs, h => by
    obtain ⟨b, hb, h⟩ := mb_ok h
    cases b with
    | false =>
      obtain ⟨e, k⟩ := mlc_all (ys := ys) h
      refine ⟨?_, fun y hy => ?_⟩
      · rw [List.filter_cons, if_neg (by rw [hb]; exact Bool.false_ne_true)]; exact e
      · rcases List.mem_cons.mp hy with z | z
        · subst z; exact ⟨false, hb, fun w => nomatch w⟩
        · exact k y z
    | true =>
      obtain ⟨w, hw, h⟩ := mb_ok h
      obtain ⟨ws, hws, h⟩ := mb_ok h
      cases h
      obtain ⟨e, k⟩ := mlc_all hws
      refine ⟨?_, fun y hy => ?_⟩
      · rw [List.filter_cons, if_pos (by rw [hb]), List.map_cons, hw, ← e]
      · rcases List.mem_cons.mp hy with z | z
        · subst z; exact ⟨true, hb, fun _ => ⟨w, hw⟩⟩
        · exact k y z
theorem mlc2_app {z : α → M (List δ)} {p : α → δ → M Bool} {f : α → δ → M γ} : ∀ {pre : List α} {x : α} {post : List α} {zs : List γ}, mlc2 z p f (pre ++ x :: post) = .ok zs → ∃ ys us, z x = .ok ys ∧ mlc (p x) (f x) ys = .ok us
  | [], x, post, zs, h => by
    obtain ⟨ys, h1, h⟩ := mb_ok h
    obtain ⟨us, h2, h⟩ := mb_ok h
    exact ⟨ys, us, h1, h2⟩
  | y :: pre, x, post, zs, h => by
    obtain ⟨ys, h1, h⟩ := mb_ok h
    obtain ⟨us, h2, h⟩ := mb_ok h
    obtain ⟨vs, h3, h⟩ := mb_ok h
    exact mlc2_app h3
theorem nw_lc2M {vs vs1 : List Nat} {z : α → M (List δ)} {p : α → δ → M Bool} {f : α → δ → M γ} [F : Frz K q] {r1 : Rp δ} {ys : List α} {zs : List γ} [IN : Inhabited γ] (hw : Wk wi r G G' ys) (hlen : zs.length ≤ 12000000)
    (turn : ∀ x, ∃ Gx, TbP g r x vs (wipeG G' vs) Gx ∧ (∀ l, z x = .ok l → WkP wi1 r1 Gx l) ∧ ∀ y, ∃ Gy, TbP g1 r1 y vs1 (wipeG Gx vs1) Gy ∧ (∀ b, p x y = .ok b → EvT tt1 Gy b) ∧ (∀ w, f x y = .ok w → Ev q te Gy w))
    (hm : mlc2 z p f ys = .ok zs) : Nw (nl K q) (tLc2 wi g tYes wi1 g1 tt1 te vs vs1) G zs := by
  let Z : α → List δ := fun x => match z x with | .ok l => l | .error _ => []
  let P : α → δ → Bool := fun x y => match p x y with | .ok b => b | .error _ => false
  let Fn : α → δ → γ := fun x y => match f x y with | .ok w => w | .error _ => default
  have e : flat2 ys Z P Fn = zs := by
    have go : ∀ (l : List α) (us : List γ), mlc2 z p f l = .ok us → flat2 l Z P Fn = us := by
      intro l
      induction l with
      | nil => intro us h; cases h; rfl
      | cons x l ih =>
        intro us h
        obtain ⟨ws, h1, h⟩ := mb_ok h
        obtain ⟨w1, h2, h⟩ := mb_ok h
        obtain ⟨w2, h3, h⟩ := mb_ok h
        cases h
        have eZ : Z x = ws := by show (match z x with | .ok l => l | .error _ => []) = ws; rw [h1]
        have i2 := ih w2 h3
        unfold flat2 at i2 ⊢
        rw [List.flatMap_cons, i2, eZ, (mlc_all h2).1]
    exact go ys zs hm
  rw [← e]
  refine nw_lc2 (r1 := r1) Z P Fn hw (by rw [e]; exact hlen) fun pre x post hx => ?_
  rw [hx] at hm
  obtain ⟨l, us, h1, h2⟩ := mlc2_app hm
  obtain ⟨Gx, t1, t2, t3⟩ := turn x
  have eZ : Z x = l := by show (match z x with | .ok l => l | .error _ => []) = l; rw [h1]
  refine ⟨Gx, t1, by rw [eZ]; exact t2 l h1, fun pre1 y post1 hy => ?_⟩
  rw [eZ] at hy
  obtain ⟨b, hb, hf⟩ := (mlc_all h2).2 y (by rw [hy]; exact List.mem_append_right _ (List.mem_cons_self ..))
  obtain ⟨Gy, s1, s2, s3⟩ := t3 y
  have eP : P x y = b := by show (match p x y with | .ok b => b | .error _ => false) = b; rw [hb]
  refine ⟨Gy, s1, by rw [eP]; exact s2 b hb, fun hp => ?_⟩
  rw [eP] at hp
  obtain ⟨w, hw⟩ := hf hp
  have eF : Fn x y = w := by show (match f x y with | .ok w => w | .error _ => default) = w; rw [hw]
  rw [eF]
  exact s3 w hw
end
theorem ixc_Y {K : PySem.W.Frag} {G : Cells K} {α : Type} {r : Rp α} {tb : TE} {i : Int} {x : α} {xs : List α} [M : Mono r] (hi : Ev rI tb G i) (hx : atI xs i = some x) : IxC K (rY K r) xs tb G r x := fun ta h => ev_ix h hi trivial hx
def rAny : Rp Unit := fun _ _ _ => True
instance : Mono rAny := ⟨fun _ _ => trivial⟩
instance {K : PySem.W.Frag} : Frz K rAny := ⟨fun _ _ => trivial⟩
theorem ev_any0 {K : PySem.W.Frag} {G : Cells K} {α : Type} {r : Rp α} {te : TE} {x : α} (h : Ev r te G x) : Ev rAny te G () := fun H0 σ H E Q k => h H0 σ H E Q fun v H1 e1 _ => k v H1 e1 trivial
end
section
structure CalK (P : Program) (w : World) (K : PySem.W.Frag) (mg : Str → Option Value) (base : Heap) (CX : CXT) (C : Addr) (n k : Nat) (ps : List Str) (kn : Str) (sp : Sp) : Prop where
  ex : ∃ (f : Addr) (fd : FuncData), FnOk P w K mg base CX k f fd ps sp ∧ Mk K C f ∧ KBn K fd ps (n + 1) [kn] (fun us ws => us ++ ws) (fun vs zs => vs ++ zs)
def tArgK (n : Nat) (t tk : TA) : TA := fun σ H Q => t σ H fun vs H1 => tk σ H1 fun zs H2 => vs.length = n ∧ zs.length = 1 ∧ Q (vs ++ zs) H2
structure DfEK (K : PySem.W.Frag) (C : Addr) (q kn : Str) (st : Stmt) : Prop where
  ex : ∃ (f : Addr) (fd : FuncData), FunD K "__init__" q (defArgs st) (defBody st) (defScope st) [] [(kn, .non)] f fd ∧ PySem.W.findIn K (.ref C) "__init__" = some (some (.ref f)) ∧ PySem.W.isFn K (.ref f) = true
def BindK (q kn : Str) (st : Stmt) (p1 p2 p3 : Str) : Prop := ∀ (D : Addr) (doc pm : Value) (an : Option Addr) (cdv ct : Value) (u1 u2 u3 v : Value),
  KwChain D [(kn, v)] (bindArgs (PySem.W.fnOf "__init__" q (defArgs st) (defBody st) (defScope st) .none (.ref D) doc pm an cdv ct) ⟨[u1, u2, u3], []⟩) ([p1, p2, p3, kn].zip [u1, u2, u3, v]) ∧
  bindArgs (PySem.W.fnOf "__init__" q (defArgs st) (defBody st) (defScope st) .none (.ref D) doc pm an cdv ct) ⟨[u1, u2, u3], [(kn, v)]⟩ = pure ([p1, p2, p3, kn].zip [u1, u2, u3, v])
section
variable {P : Program} {w : World} {K : PySem.W.Frag} {mg : Str → Option Value} {base : Heap} {q c kn : Str} {st : Stmt} {k : Nat} {N : List Str} {p1 p2 p3 : Str} {sp : Sp}
theorem calK_of (T : ClsF K mg c) (F : DfEK K (cA K c) q kn st) (S : FnScope N [p1, p2, p3, kn] (defScope st)) (len : ∀ vs H Q E, sp vs H Q E → vs.length = ([p1, p2, p3, kn] : List Str).length) (hb : BindK q kn st p1 p2 p3)
    (hbody : ∀ (cdv : Value) (f : Addr) (A : Around) (outer : List PySem.Env) (s : Shared) (H : Hp) (vs : List V) (Q : VK) (E : XK), Room k (A.deeper (envOfC q (defScope st) s.heap.objs.size f cdv)) → sp vs H Q E →
      ∃ t, PSs (cxOf (L2N.CX P w) P w K mg base N q (defScope st) f cdv A outer s H E) (defBody st) t ∧ t { nx := fun _ H' => Q .non H', rt := Q } (start N vs) H) :
    CalN P w K mg base (L2N.CX P w) (cA K c) (k + 1) [p1, p2, p3, kn] sp ∧ CalK P w K mg base (L2N.CX P w) (cA K c) 2 (k + 1) [p1, p2, p3, kn] kn sp := by
  obtain ⟨f, fd, F2, h1, h2⟩ := F.ex
  have ok := F2.ok (CX := L2N.CX P w) S len fun cdv A outer s H vs Q E hr h => hbody cdv f A outer s H vs Q E hr h
  have M : Mk K (cA K c) f := ⟨T.makes, h1, h2, T.kp⟩
  refine ⟨⟨f, fd, ok, M, ?_⟩, ⟨f, fd, ok, M, ?_⟩⟩
  · obtain ⟨ds, hd, hbn⟩ := F2.binds0 (ps := [p1, p2, p3, kn]) 3 (by intro e; cases e) rfl fun D doc pm an cdv ct us ks l1 l2 => by
      match us, ks, l1, l2 with
      | [u1, u2, u3], [v], _, _ => exact (hb D doc pm an cdv ct u1 u2 u3 v).1
    have e : ds = [.none] := by
      cases hd with
      | cons r t => cases t; cases r; rfl
    rw [← e]
    exact hbn
  · obtain ⟨mv, hbn⟩ := F2.kbinds0 (ps := [p1, p2, p3, kn]) 3 [kn] [] (fun us _ ws => us ++ ws) (by intro e; cases e) (fun q hq => by cases hq) (fun r1 _ r2 => r1.append r2) fun D doc pm an cdv ct us mv ws l1 l2 l3 => by
      match us, ws, l1, l3 with
      | [u1, u2, u3], [v], _, _ => exact (hb D doc pm an cdv ct u1 u2 u3 v).2
    exact hbn
end
section
variable {K : PySem.W.Frag} {α β γ δ : Type} {G : Cells K} {r : Rp α} {q : Rp β} {p : Rp γ} {s : Rp δ} {t tk : TA} {te : TE} {x : α} {b : β} {z : γ}
theorem ea_argK2 {p' : Rp γ} [M : MonoA (aC r (aC q aN))] (h : EvA (aC r (aC q aN)) t G (x, (b, ()))) (h' : Ev p' te G z) : EvA (aC r (aC q (aC p' aN))) (tArgK 2 t (tCons te tNil)) G (x, (b, (z, ()))) := fun H0 σ H E Q k =>
  h H0 σ H E _ fun vs H1 e1 hv => h' H0 σ H1 (E.grow e1) _ fun w H2 e2 hw => by
    obtain ⟨v1, w1, ev, hv1, v2, w2, ew, hv2, e0⟩ := M.up e2 hv
    subst ev
    subst ew
    rw [show w2 = [] from e0]
    exact ⟨rfl, rfl, k _ H2 (e1.trans e2) ⟨v1, _, rfl, hv1, v2, _, rfl, hv2, w, [], rfl, hw, rfl⟩⟩
theorem ea_argN2 {o : Rp γ} (h : EvA (aC r (aC q aN)) t G (x, (b, ()))) : EvA (aC r (aC q (aC (rO o) aN))) (tArgN t) G (x, (b, ((none : Option γ), ()))) := fun H0 σ H E Q k =>
  h H0 σ H E _ fun vs H1 e1 ⟨v1, w1, ev, hv1, v2, w2, ew, hv2, e0⟩ => by
    subst ev
    subst ew
    rw [show w2 = [] from e0]
    exact k _ H1 e1 ⟨v1, _, rfl, hv1, v2, _, rfl, hv2, .non, [], rfl, rfl, rfl⟩
end
end
section
def rIsB : R2 := fun x y H Q => ∃ a b, x = .bl a ∧ y = .bl b ∧ Q (.bl (decide (a = b))) H
theorem a_isB {K : PySem.W.Frag} {G : Cells K} {ta tb : TE} {a b : Bool} (h : Ev rB ta G a) (h' : Ev rB tb G b) : Ev rB (tOp rIsB ta tb) G (decide (a = b)) := ev_op h h' fun H u v hu hv Q k => ⟨a, b, hu, hv, k _ H (Same.refl H) rfl⟩
theorem a_nR {K : PySem.W.Frag} {G : Cells K} {α : Type} {C : Addr} {F : RF K α} {x : α} {te : TE} (h : Nw (nRec K C F) te G x) : Ev (rRec K C F) te G x := fun H0 σ H E Q k => h H0 σ H E Q fun v H' as e hn z => k v H' e ⟨as, z⟩
theorem a_noRs {K : PySem.W.Frag} {G : Cells K} {α : Type} {i : Nat} {C : Addr} {F : RF K α} {x : α} (h : G[i]? = some (some (.ow (nRec K C F) x))) : Ev (rO (rRec K C F)) (tVar i) G (some x) := (a_noR h).some
end
section
inductive Dm
  | s (x : Str)
  | r (x : Rule)
  | n
  | b (x : Bool)
  deriving DecidableEq
instance : Inhabited Dm := ⟨.n⟩
def rDm (K : PySem.W.Frag) : Rp Dm := fun H v d => match d with
  | .s x => rS H v x
  | .r x => rRu K H v x
  | .n => v = .non
  | .b x => v = .bl x
section
variable {K : PySem.W.Frag} {G : Cells K} {te : TE}
instance : Mono (rDm K) := ⟨fun {H H' v d} e h => match d, h with
  | .s _, h => h
  | .r _, h => Mono.up (r := rRu K) e h
  | .n, h => h
  | .b _, h => h⟩
instance : Frz K (rDm K) := ⟨fun {H H' v d} e h => match d, h with
  | .s _, h => h
  | .r _, h => Frz.up (K := K) (r := rRu K) e h
  | .n, h => h
  | .b _, h => h⟩
theorem ev_Ds {x : Str} (h : Ev rS te G x) : Ev (rDm K) te G (.s x) := h.imp fun _ _ z => z
theorem ev_Dr {x : Rule} (h : Ev (rRu K) te G x) : Ev (rDm K) te G (.r x) := h.imp fun _ _ z => z
theorem ev_Db {x : Bool} (h : Ev rB te G x) : Ev (rDm K) te G (.b x) := h.imp fun _ _ z => z
def datRl : Dat K (rRu K) := datP datS (datT datS)
def encD : Dm → PyData
  | .s x => .str x
  | .r x => (datRl (K := K)).enc x
  | .n => .none
  | .b x => .bool x
def datD : Dat K (rDm K) where
  dec := inferInstance
  enc := encD (K := K)
  dep := 2
  dp := fun {H v d} h => match d, h with
    | .s _, h => by rw [show v = _ from h.1]; exact .str _
    | .r _, h => (datRl (K := K)).dp h
    | .n, h => by rw [show v = _ from h]; exact .non
    | .b _, h => by rw [show v = _ from h]; exact .bl _
  lay := fun {H v d} h => match d, h with
    | .s _, h => by simp only [PyData.canLay0, encD]; exact h.2.2
    | .r _, h => (datRl (K := K)).lay h
    | .n, _ => by simp [PyData.canLay0, encD]
    | .b _, _ => by simp [PyData.canLay0, encD]
  dpt := fun d => match d with
    | .s _ => by simp [PyData.depth, encD]
    | .r x => (datRl (K := K)).dpt x
    | .n => by simp [PyData.depth, encD]
    | .b _ => by simp [PyData.depth, encD]
  eqv := fun a b => by
    cases a with
    | s x =>
      cases b with
      | s y =>
        simp only [PyData.eqv, encD]
        by_cases h : x = y
        · subst h; simp
        · rw [decide_eq_false fun e => h (by cases e; rfl)]
          exact beq_eq_false_iff_ne.mpr h
      | r y => simp [PyData.eqv, encD, datRl, datP]
      | n => simp [PyData.eqv, encD]
      | b y => simp [PyData.eqv, encD]
    | r x =>
      cases b with
      | s y => simp [PyData.eqv, encD, datRl, datP]
      | r y =>
        have := (datRl (K := K)).eqv x y
        refine this.trans ?_
        by_cases h : x = y
        · subst h; simp
        · exact (@decide_eq_false _ ((datRl (K := K)).dec x y) h).trans (decide_eq_false fun e => h (by cases e; rfl)).symm
      | n => simp [PyData.eqv, encD, datRl, datP]
      | b y => simp [PyData.eqv, encD, datRl, datP]
    | n =>
      cases b with
      | s y => simp [PyData.eqv, encD]
      | r y => simp [PyData.eqv, encD, datRl, datP]
      | n => simp [PyData.eqv, encD]
      | b y => simp [PyData.eqv, encD]
    | b x =>
      cases b with
      | s y => simp [PyData.eqv, encD]
      | r y => simp [PyData.eqv, encD, datRl, datP]
      | n => simp [PyData.eqv, encD]
      | b y => cases x <;> cases y <;> simp [PyData.eqv, encD]
instance : DatN K (rDm K) 2 := ⟨datD, Nat.le_refl _⟩
end
def payR (fs : List (Str × Pay)) (f : Str) : Option Rule := match fs.lookup f with
  | some (.r x) => some x
  | _ => none
def PayR (fs : List (Str × Pay)) (f : Str) (x : Rule) : Prop := payR fs f = some x
theorem a_xfR {K : PySem.W.Frag} {G : Cells K} {i : Nat} {a d C : Addr} {m : Mono (rExc K a d)} {fs : List (Str × Pay)} {f : Str} {x : Rule} (h : G[i]? = some (some (.ro (rExc K a d) m fs))) (hf : PayR fs f x) : Ev (rRu K) (tXf a (.ref C) (some d) C f (tVar i)) G x := by
  unfold PayR payR at hf
  split at hf
  · rename_i y e
    cases hf
    exact (a_xf h e).imp fun _ _ z => z
  · cases hf
end
section
def nO (K : PySem.W.Frag) {β : Type} (R : Rs K β) : Rs K (Option β) where
  rep := fun H v o as => match o with
    | .none => v = .non ∧ as = []
    | .some b => R.rep H v b as
  stay := fun {H H' v o as} h x k => match o, h with
    | .none, h => h
    | .some _, h => R.stay h x k
  there := fun {H v o as} h p hp => match o, h with
    | .none, h => by rw [h.2] at hp; cases hp
    | .some _, h => R.there h p hp
section
variable {K : PySem.W.Frag} {α β : Type} {G : Cells K} {R : Rs K β} {te : TE} {b : β} {o : Option β}
theorem nw_nonO : Nw (nO K R) (tC .non) G none := fun H0 σ H E Q k => k .non H [] (Same.refl H) (fun _ h => nomatch h) ⟨rfl, rfl⟩
theorem a_nO {i : Nat} {C : Addr} {F : RF K α} {o : Option α} (h : G[i]? = some (some (.ow (nO K (nRec K C F)) o))) : Ev (rO (rRec K C F)) (tVar i) G o := fun H0 σ H E Q k => by
  obtain ⟨own, _, _, h3⟩ := E.at_
  obtain ⟨v, hv, hr⟩ := h3 i _ h
  refine ⟨v, hv, k v H (Same.refl H) ?_⟩
  cases o with
  | none => exact hr.1
  | some b => exact ⟨_, hr⟩
theorem ev_Dn0 : Ev (rDm K) (tC .non) G .n := fun H0 σ H E Q k => k _ H (Same.refl H) rfl
end
end
section
structure InsK (K : PySem.W.Frag) (C : Addr) : Prop where
  cl : Cls K C
  ha : PySem.W.findIn K (.ref C) "__class__" = some (some (.builtin "object.__class__"))
  hn : PySem.W.specialIn K (.builtin "object.__class__") "__get__" = some (some (.builtin "getset_descriptor.__get__"))
  ht : PySem.W.takesIn K (.builtin "object.__class__") = some true
  hm : PySem.W.mroIn K C (.type "object") = some true
section
variable {K : PySem.W.Frag} {G : Cells K} {α : Type} {r : Rp α} {te : TE} {z : α} {C D : Addr} {names : List Str} {b : Bool}
theorem a_isiC (h : Ev r te G z) (M : Mono r) (I : InsR K C r names) (T : InsK K C) (e : PySem.W.kitOne K (.ref C) (.ref D) = some b) : Ev rB (tCB (rIsi K) (tCons te (tCons (tC (.ref D)) tNil))) G b := fun H0 σ H E Q k =>
  h H0 σ H E _ fun v H1 e1 hv => by
    obtain ⟨a, dx, fs, ev, ha, _⟩ := I.ins hv
    subst ev
    exact ⟨.ref a, .ref D, .ref C, .ref D, b, rfl, .own D, .base (.ins ha T.cl T.ha T.hn T.ht T.hm), e, k _ H1 e1 rfl⟩
instance {A : Ra α} : NotNon (rW K A) := ⟨fun ⟨_, _, e, _⟩ z => by rw [z] at e; cases e⟩
end
end
section
def tInsCall (C : Addr) (sp : Sp) (E : XK) (tf : TE) (t : TA) : TE := fun σ H Q => tf σ H fun y H1 => ∃ a, y = V.ref a ∧ t σ H1 fun vs H2 => (∃ dx fs, H2 a = some (.ins C dx fs)) ∧ sp (V.ref a :: vs) H2 Q E
section
variable {K : PySem.W.Frag} {G : Cells K} {α β γ ρ : Type} {tf : TE} {t : TA}
theorem a_insCall {C : Addr} {names : List Str} {r : Rp α} {q : Rp γ} {x : α} {z : γ} {A : Ra β} {b : β} {m : α × β → M γ} {E : XK} (h : Ev r tf G x) (M : Mono r) (I : InsR K C r names) (hA : EvA A t G b) (e : MOk m (x, b) z) :
    Ev q (tInsCall C (spM (aC r A) q m) E tf t) G z := fun H0 σ H E1 Q k => h H0 σ H E1 _ fun v H1 e1 hv => by
  obtain ⟨a, dx, fs, ea, ha, hm⟩ := I.ins hv
  refine ⟨a, ea, hA H0 σ H1 (E1.grow e1) _ fun vs H2 e2 hvs => ⟨⟨dx, fs, e2 _ _ ha⟩, ?_⟩⟩
  rw [← ea]
  exact ⟨(x, b), z, ⟨v, vs, rfl, M.up e2 hv, hvs⟩, e, fun w H' e' hw => k w H' ((e1.trans e2).trans e') hw⟩
end
def IsPd (P : Program) (w : World) (K : PySem.W.Frag) (H : Hp) (x : V) : Prop := ∃ a ep xs, x = .ref a ∧ PdAt P w K H a ep xs
def OrV (d : V) : Option (Addr × Value) → V → Prop
  | some p, v => RelV v p.2
  | none, v => v = d
def tPGet1 (P : Program) (w : World) (K : PySem.W.Frag) (td ty : TE) : TE := fun σ H Q => td σ H fun x H1 => IsPd P w K H1 x ∧ ty σ H1 fun y H2 => PLk P w K H2 x y fun o => ∃ v, OrV .non o v ∧ Q v H2
def tPGet2 (P : Program) (w : World) (K : PySem.W.Frag) (td ty tx : TE) : TE := fun σ H Q => td σ H fun x H1 => IsPd P w K H1 x ∧ ty σ H1 fun y H2 => tx σ H2 fun z H3 => PLk P w K H3 x y fun o => ∃ v, OrV z o v ∧ Q v H3
section
variable {P : Program} {w : World} {K : PySem.W.Frag} {H0 H1 H H' : Hp} {σ : L2.St} {G G1 : Cells K} {α β γ ρ : Type} {D : Ends}
variable {td ty tx te ta tb : TE} {tt tu : TT} {t u v : TS} {r : Rp α} {x : α} {k : KP} {i j : Nat} {xs : List (KP × α)} {o : Option α}
theorem pd_found {H : Hp} {es : List PEt} {d : V} (q : A2 (Pe K (r H) H) es xs) (k : KP) (hd : rO r H d o) : ∃ v, OrV d (atKey es (kP k)) v ∧ rO r H v ((pkey xs k).or o) := by
  rcases pe_at q k with ⟨p, b, v, e1, e2, hv, rv⟩ | ⟨e1, e2⟩
  · rw [e1, e2]; exact ⟨v, rv, hv⟩
  · rw [e1, e2]; exact ⟨d, rfl, hd⟩
theorem a_pget2 (h : Ev (rPD P w K r) td G xs) (h' : Ev (rKP K) ty G k) (hx : Ev (rO r) tx G o) (M : Mono r) : Ev (rO r) (tPGet2 P w K td ty tx) G ((pkey xs k).or o) := fun H0 σ H E Q c =>
  h H0 σ H E _ fun v H1 e1 hd => ⟨by
      obtain ⟨p, ep, es, ev, hp, hs, nd, q, hz⟩ := hd
      exact ⟨p, ep, es, ev, pd_at hp hs nd q hz⟩, h' H0 σ H1 (E.grow e1) _ fun y H2 e2 hy => hx H0 σ H2 (E.grow (e1.trans e2)) _ fun d H3 e3 hz3 => by
    obtain ⟨p, ep, es, ev, hp, hs, nd, q, hz⟩ := (inferInstance : Mono (rPD P w K r)).up (e2.trans e3) hd
    obtain ⟨b, ey, hb, ok⟩ := key_to hy
    obtain ⟨v', h1, h2⟩ := pd_found q k hz3
    exact ⟨p, ep, es, b, kP k, ev, pd_at hp hs nd q hz, ey, ext_same e3 _ _ hb, v', h1, c v' H3 ((e1.trans e2).trans e3) h2⟩⟩
theorem a_pget1 (h : Ev (rPD P w K r) td G xs) (h' : Ev (rKP K) ty G k) (M : Mono r) : Ev (rO r) (tPGet1 P w K td ty) G (pkey xs k) := fun H0 σ H E Q c =>
  h H0 σ H E _ fun v H1 e1 hd => ⟨by
      obtain ⟨p, ep, es, ev, hp, hs, nd, q, hz⟩ := hd
      exact ⟨p, ep, es, ev, pd_at hp hs nd q hz⟩, h' H0 σ H1 (E.grow e1) _ fun y H2 e2 hy => by
    obtain ⟨p, ep, es, ev, hp, hs, nd, q, hz⟩ := (inferInstance : Mono (rPD P w K r)).up e2 hd
    obtain ⟨b, ey, hb, ok⟩ := key_to hy
    obtain ⟨v', h1, h2⟩ := pd_found (o := none) (d := .non) q k (show rO r H2 .non none from rfl)
    rw [Option.or_none] at h2
    exact ⟨p, ep, es, b, kP k, ev, pd_at hp hs nd q hz, ey, hb, v', h1, c v' H2 (e1.trans e2) h2⟩⟩
theorem a_recFpd {C : Addr} {F : RF K β} {f : Str} {get : β → List (KP × α)} {y : β} (h : Ev (rRec K C F) te G y) (fa : FldAt F f (npd P w K r) get) (c : Cls K C) (n : NoAttr K C f) (e : get y = xs) (hz : xs.length ≤ 12000000) : Ev (rPD P w K r) (tFld K te f) G xs := fun H0 σ H E Q kk =>
  h H0 σ H E _ fun v H1 e1 ⟨as, a, dx, fs, bs, ea, _, ha, hf⟩ => by
    obtain ⟨z, cs, hl, hw⟩ := fa _ _ _ _ hf
    refine ⟨a, C, dx, fs, z, ea, ha, c, n, hl, kk z H1 e1 ?_⟩
    rw [e] at hw
    obtain ⟨p, ep, es, _, ev, hp, hs, nd, q⟩ := hw
    exact ⟨p, ep, es, ev, hp, hs, nd, q.imp fun _ _ z => z.up (fun _ _ y => y.now) (ExT.refl _), hz⟩
theorem a_nOv {R : Rs K ρ} {rv : Rp ρ} {o : Option ρ} (f : ∀ H v as b, R.rep H v b as → rv H v b) (h : G[i]? = some (some (.ow (nO K R) o))) : Ev (rO rv) (tVar i) G o := fun H0 σ H E Q k => by
  obtain ⟨own, _, _, h3⟩ := E.at_
  obtain ⟨v, hv, hr⟩ := h3 i _ h
  refine ⟨v, hv, k v H (Same.refl H) ?_⟩
  cases o with
  | none => exact hr.1
  | some b => exact f _ _ _ _ hr
theorem a_nOL {o : Option (List α)} (h : G[i]? = some (some (.ow (nO K (nl K r)) o))) : Ev (rO (rL r)) (tVar i) G o := a_nOv (fun _ _ _ _ z => vw_nl z) h
end
end
section
end
section
def rVal {α : Type} (v0 : V) (r : Rp α) : Rp α := fun H v x => v = v0 ∧ r H v x
instance {α : Type} {v0 : V} {r : Rp α} [M : Mono r] : Mono (rVal v0 r) := ⟨fun e ⟨h, z⟩ => ⟨h, M.up e z⟩⟩
section
variable {K : PySem.W.Frag} {H0 : Hp} {G : Cells K} {α β γ ρ : Type} {D : Ends} {u : TS} {t0 te : TE} {i n : Nat}
theorem a_roV {v0 : V} {r : Rp α} {x : α} {M : Mono (rVal v0 r)} (h : G[i]? = some (some (.ro (rVal v0 r) M x))) : Ev r (tVar i) G x := fun H1 σ H E Q k => a_ro h H1 σ H E Q fun v H' e z => k v H' e z.2
end
end
end Gt
namespace Gt
open PySem PySem.Spec PyProof.Rows L2 PySem.W PySem.Calls PySem.HandSPX
inductive AsF (scope : Scope) (qual : Str) (fI : Addr) : List Str → List Stmt → Prop
  | nil : AsF scope qual fI [] []
  | cons {f : Str} {fs : List Str} {st : List Stmt} {q6 q7 q8 q9 : Pos} : (∀ L cd c2, swapsWith (.Name f q8) (some (.Attribute (.Name "self" q6) f q7)) q9.line (ksEnv qual scope L fI cd c2) = pure false) → scope.names.lookup f = some .local → (f == ("__debug__" : Str)) = false →
      AsF scope qual fI fs st → AsF scope qual fI (f :: fs) (.Assign [.Attribute (.Name "self" q6) f q7] (.Name f q8) q9 :: st)
structure ExcN (prog : Program) (K : PySem.W.Frag) (mg : Str → Option Value) (x : Str) (fs : List Str) (C fI : Addr) : Prop where
  gC : mg x = some (.ref C)
  cls : ∃ nm q N bs bm sn sub ab col dd k0 k1 k2 k3 k5, K.lookup C = some (excClassObj nm q C N bs bm true sn sub ab col dd k0 k1 k2 k3 k5 "ValueError.__new__") ∧ refsVE bm = true
  sa : findIn K (.ref C) "__setattr__" = some (some (.builtin "object.__setattr__"))
  no : ∀ f ∈ fs, findIn K (.ref C) f = some none
  iC : findIn K (.ref C) "__init__" = some (some (.ref fI))
  tI : typeIn K (.ref fI) = some (.type "function")
  kC : keepIn K (.ref C) = true
  exC : subIn K (.ref C) (.type "BaseException") = some true
  tyC : typeIn K (.ref C) = some (.type "type")
  su : ks_superIn K C C "__init__" = some (some (.builtin "ValueError.__init__"))
  sB : subIn K (.ref C) (.type "ValueError") = some true
  sS : mroIn K C (.ref C) = some true
  op : nsIn K cStatics "thirdparty.any" = some none
  nS : mg "super" = none
  nd : (("self" : Str) :: fs).Nodup
  ln : fs.length ≤ 100
  fn : ∃ (oc : Value) (od : Option Addr) (qual : Str) (params : Arguments) (body : List Stmt) (scope : Scope) (doc pm : Value) (an : Option Addr) (cda cc : Addr) (ct : Value) (osl : Array (Option Value)),
    K.lookup fI = some ⟨oc, od, .func (ksFn "__init__" qual params body scope .none .none doc pm an (.ref cda) ct cc), osl⟩ ∧ codeIn K (.ref cda) qual = true ∧
    (∃ cl cld csl, K.lookup cc = some ⟨cl, cld, .cell (some (.ref C)), csl⟩) ∧ (∃ cl cld vs file tf csl, K.lookup cda = some ⟨cl, cld, .fields vs, csl⟩ ∧ vs[2]? = some (.str file tf) ∧ ((prog.main.file : Str) == file) = true) ∧
    (prog.main.scope.names.lookup ("super" : Str)).isSome = false ∧
    (∃ msg j q0 q1 q2 q3 q4 q5 st f0 fs0 q6 q7 q8 q9, body = .Expr (.Call (.Attribute (.Call (.Name "super" q0) [] [] q1) "__init__" q2) [.Constant (.str msg) j q3] [] q4) q5 :: .Assign [.Attribute (.Name "self" q6) f0 q7] (.Name f0 q8) q9 :: st ∧
      (∀ L cd c2, ∃ pl : Sem Bool, eval (.Call (.Attribute (.Call (.Name "super" q0) [] [] q1) "__init__" q2) [.Constant (.str msg) j q3] [] q4) (ksEnv qual scope L fI cd c2) = (do
        let ov ← attributeBase (.Call (.Name "super" q0) [] [] q1) "__init__" (ksEnv qual scope L fI cd c2) (eval (.Call (.Name "super" q0) [] [] q1) (ksEnv qual scope L fI cd c2))
        standAt q2.atName
        let (f, first) ← holding [ov] (getMethod ov "__init__" pl)
        callWith q4 f first (backTo q4 (starEach [.Constant (.str msg) j q3] (ksEnv qual scope L fI cd c2))) [])) ∧
      (∀ L cd c2, swapsWith (.Call (.Attribute (.Call (.Name "super" q0) [] [] q1) "__init__" q2) [.Constant (.str msg) j q3] [] q4) none q5.line (ksEnv qual scope L fI cd c2) = pure false) ∧
      fs = f0 :: fs0 ∧ (∀ L cd c2, swapsWith (.Name f0 q8) (some (.Attribute (.Name "self" q6) f0 q7)) q9.line (ksEnv qual scope L fI cd c2) = pure false) ∧ scope.names.lookup f0 = some .local ∧ (f0 == ("__debug__" : Str)) = false ∧ AsF scope qual fI fs0 st) ∧
    (∃ ar, (params.posonlyargs ++ params.args).head? = some ar ∧ ar.arg = "self") ∧
    (∀ (s : Shared) (u : Value) (vs : List Value), vs.length = fs.length → BindsTo s (ksFn "__init__" qual params body scope .none .none doc pm an (.ref cda) ct cc) ⟨u :: vs, []⟩ (("self", u) :: fs.zip vs)) ∧
    scope.kind = .function ∧ scope.isGenerator = false ∧ scope.isCoroutine = false ∧ scope.names.lookup ("self" : Str) = some .local ∧ (∀ f ∈ fs, scope.names.lookup f = some .local) ∧ scope.names.lookup ("super" : Str) = some .globalImplicit ∧
    scope.names.lookup ("__class__" : Str) = some .free ∧ (∀ y ∈ scope.names, y.2 ≠ .cell)
theorem lookup_mem {α : Type} : ∀ {l : List (Str × α)} {k : Str} {v : α}, (l.map (·.1)).Nodup → (k, v) ∈ l → l.lookup k = some v
  | (a, b) :: l, k, v, n, h => by
    rw [List.lookup_cons]
    rcases List.mem_cons.mp h with e | e
    · cases e
      rw [beq_self_eq_true]
    · have n' := List.nodup_cons.mp n
      have ne : (k == a) = false := by
        rw [Bool.eq_false_iff]
        intro z
        have z : k = a := beq_iff_eq.mp z
        exact n'.1 (z ▸ List.mem_map.mpr ⟨(k, v), e, rfl⟩)
      rw [ne]
      exact lookup_mem n'.2 e
theorem zip_fst {α : Type} : ∀ {fs : List Str} {vs : List α}, vs.length = fs.length → (fs.zip vs).map (·.1) = fs
  | [], [], _ => rfl
  | f :: fs, v :: vs, h => by
    show f :: (fs.zip vs).map (·.1) = _
    rw [zip_fst (by simpa using h)]
structure XEndN (h h' : Heap) (x C dx : Addr) (l : List (Str × Value)) : Prop where
  keep : ∀ b o, b ≠ x → h.get? b = some o → h'.get? b = some o
  obj : ∃ t1 : Addr, h'.get? x = some { cls := .ref C, dict := some dx, data := .fields #[.ref t1, .none, .none, .none, .bool false, .none] }
  dbig : h.objs.size ≤ dx
  dne : dx ≠ x
  ns : h'.Ns1 dx (fun y => l.lookup y)
section
variable {prog : Program} {w : World} {A : Around} {R : Result → Shared → Prop} {K : PySem.W.Frag} {mg : Str → Option Value} {x : Str} {C fI : Addr} {E : Value → Shared → Prop} {Q : Flow → Shared → Prop}
theorem within_l (l : List (Str × Value)) : Within (fun y => l.lookup y) (l.map (·.1)) := fun y hy => by
  induction l with
  | nil => exact absurd rfl hy
  | cons p l ih =>
    obtain ⟨a, b⟩ := p
    by_cases e : y = a
    · rw [e]; exact List.mem_cons_self
    · refine List.mem_cons_of_mem _ (ih fun z => hy ?_)
      show List.lookup y ((a, b) :: l) = none
      rw [List.lookup_cons, show (y == a) = false from by simpa using e]
      exact z
theorem xrest {scope : Scope} {qual : Str} {cda cc C L a dx : Addr} {cd : ClassData} {fv : Array Value} {m : Str → Option Value} {g : Array GenState} {d : Drawn} {os : OsState} (sk : scope.kind = .function) (l1 : scope.names.lookup ("self" : Str) = some .local) (sa : findIn K (.ref C) "__setattr__" = some (some (.builtin "object.__setattr__")))
    (hcl : clsIn K C = some cd) (hm : refsVE cd.mro = true) (hh : cd.hasDict = true) (mS : m "self" = some (.ref a)) (Ld : L ≠ dx) (ad : a ≠ dx) (nK : K.lookup dx = none) :
    ∀ {fs : List Str} {st : List Stmt}, AsF scope qual fI fs st → ∀ (vs : List Value) (h : Heap) (t : Nat) (acc : List (Str × Value)), (∀ f ∈ fs, findIn K (.ref C) f = some none) → vs.length = fs.length → K.In h → h.Ns L m → (∀ p ∈ fs.zip vs, m p.1 = some p.2) →
      h.get? a = some { cls := .ref C, dict := some dx, data := .fields fv } → h.Ns1 dx (fun y => acc.lookup y) → acc.length + fs.length ≤ 900 →
      (∀ h' tk, (∀ b o, b ≠ dx → h.get? b = some o → h'.get? b = some o) → h'.Ns1 dx (fun y => ((fs.zip vs).reverse ++ acc).lookup y) → Q .next ⟨h', g, d, tk, os⟩) →
      wpAny (model prog w) A (execs st (ksEnv qual scope L fI (.ref cda) cc)) Q E ⟨h, g, d, t, os⟩ := by
  intro fs st AF
  induction AF with
  | nil =>
    intro vs h t acc _ hv _ _ _ _ hn _ fin
    refine wpAny_execs_nil (fin h t (fun b o _ z => z) ?_)
    exact hn
  | @cons f fs st q6 q7 q8 q9 hsw lf ldb AF ih =>
    intro vs h t acc no hv X ns hz ha hn hl fin
    cases vs with
    | nil => cases hv
    | cons v vs =>
      have hv' : vs.length = fs.length := by simpa using hv
      refine wpAny_execs_cons (plainObj_wpAny_Assign_Attribute ?_ (hsw _ _ _))
      refine wpAny_Name (wpAny_loadName_local sk lf ns (hz (f, v) List.mem_cons_self) ?_) ldb
      refine wpAny_Name (wpAny_loadName_local sk l1 ns mS ?_) (by decide)
      obtain ⟨oD, esD, epD, hoD, hdD, _⟩ := hn.count (within_l acc)
      refine set_plain X (ox := { cls := .ref C, dict := some dx, data := .fields fv }) (od := some oD) ⟨ha, rfl, rfl, hoD⟩ sa ?_
      refine PySem.OEX.osa_old X ha hn (within_l acc) (by rw [List.length_map]; omega) hcl hm hh (no f List.mem_cons_self) fun h' tk' ke hn' => ?_
      have X' : K.In h' := fun b o z => ke b o (fun e => by
        rw [e, nK] at z
        cases z) (X _ _ z)
      have ns' : h'.Ns L m := by
        obtain ⟨o, es, ep, z1, z2⟩ := ns
        exact ⟨o, es, ep, ke _ _ Ld z1, z2⟩
      have hn2 : h'.Ns1 dx (fun y => ((f, v) :: acc).lookup y) := by
        have e : (fun y => if y = f then some v else acc.lookup y) = fun y => ((f, v) :: acc).lookup y := by
          funext y
          rw [List.lookup_cons]
          by_cases e : y = f
          · rw [if_pos e, e, beq_self_eq_true]
          · rw [if_neg e, show (y == f) = false from by simpa using e]
        rw [← e]
        exact hn'
      refine ih vs h' tk' ((f, v) :: acc) (fun f hf => no f (List.mem_cons_of_mem _ hf)) hv' X' ns' (fun p hp => hz p (List.mem_cons_of_mem _ hp)) (ke _ _ ad ha) hn2 (by rw [List.length_cons] at hl ⊢; omega) fun h2 tk2 ke2 hn3 => ?_
      refine fin h2 tk2 (fun b o nb z => ke2 b o nb (ke b o nb z)) ?_
      have e : (List.zip (f :: fs) (v :: vs)).reverse ++ acc = (fs.zip vs).reverse ++ ((f, v) :: acc) := by
        show ((f, v) :: fs.zip vs).reverse ++ acc = _
        rw [List.reverse_cons, List.append_assoc]; rfl
      rw [e]
      exact hn3
theorem xinitN {fs : List Str} (T : ExcN prog K mg x fs C fI) {h : Heap} {g : Array GenState} {d : Drawn} {t : Nat} {os : OsState} {a t0 : Addr} {vs : List Value} (hv : vs.length = fs.length) (X : K.In h) (hlim : h.NoLimit) (G : Grd mg h) (ha : h.get? a = some (excO C t0)) (haC : a ≠ C) (hnx : K.lookup a = none) (hroom : A.depth < recursionLimit)
    (fin : ∀ h' tk dx, XEndN h h' a C dx (fs.zip vs).reverse → R (.ok (.ret .none)) ⟨h', g, d, tk, os⟩) : codeAny (model prog w) A (.call (.ref fI) ⟨.ref a :: vs, []⟩) R ⟨h, g, d, t, os⟩ := by
  obtain ⟨oc, od, qual, params, body, scope, doc, pm, an, cda, cc, ct, osl, hfn, hcd, ⟨cl, cld, csl, hcell⟩, ⟨cl2, cld2, vs2, file, tf, csl2, hco, hvs, hfile⟩, htop, ⟨msg, j, q0, q1, q2, q3, q4, q5, st, f0, fs0, q6, q7, q8, q9, eb, hev, hsw1, efs, hsw2, l2, l7, AF⟩, ⟨ar, har, hself⟩, hbind, sk, sg, sco, l1, lF, l3, l4, l5⟩ := T.fn
  obtain ⟨nm, q, N, bs, bm, sn, sub, ab, col, dd, k0, k1, k2, k3, k5, hC, hbm⟩ := T.cls
  obtain ⟨gG, mb, gB, gb⟩ := G
  have hcl : clsIn K C = some { name := nm, bases := bs, mro := .ref C :: bm, ns := N, qualname := q, hasDict := true, slotNames := sn, subclasses := sub, abstract := ab, collection := col, hasDel := false } := by unfold clsIn; rw [hC] <;> rfl
  refine ks_codeAny_call_defAt (binds := (("self" : Str), .ref a) :: fs.zip vs) hroom (X _ _ hfn) rfl hlim (codeRec_of X hcd) rfl (hbind _ _ _ hv) l5 (fun y hy => ?_) (fun h1 ns1 ke1 => ?_) sco sg sk
  · rcases List.mem_cons.mp hy with e | hy
    · rw [e]; exact l1
    · refine lF y.1 ?_
      have : y.1 ∈ (fs.zip vs).map (·.1) := List.mem_map.mpr ⟨y, hy, rfl⟩
      rw [zip_fst hv] at this
      exact this
  have X1 := X.keeps ke1
  subst eb
  have a1 := ke1 _ _ ha
  have nd1 : ((((("self" : Str), Value.ref a) :: fs.zip vs).reverse).map (·.1)).Nodup := by
    rw [List.map_reverse, List.map_cons, zip_fst hv]
    exact List.pairwise_reverse.mpr (T.nd.imp fun q e => q e.symm)
  have nsA : (fun y => ((("self" : Str), Value.ref a) :: fs.zip vs).reverse.lookup y) "self" = some (.ref a) := lookup_mem nd1 (List.mem_reverse.mpr List.mem_cons_self)
  have nsB : ∀ p ∈ fs.zip vs, (fun y => ((("self" : Str), Value.ref a) :: fs.zip vs).reverse.lookup y) p.1 = some p.2 := fun p hp => lookup_mem nd1 (List.mem_reverse.mpr (List.mem_cons_of_mem _ hp))
  have envE : callEnv (ksFn "__init__" qual params (.Expr (.Call (.Attribute (.Call (.Name "super" q0) [] [] q1) "__init__" q2) [.Constant (.str msg) j q3] [] q4) q5 :: .Assign [.Attribute (.Name "self" q6) f0 q7] (.Name f0 q8) q9 :: st) scope .none .none doc pm an (.ref cda) ct cc) h.objs.size fI = ksEnv qual scope h.objs.size fI (.ref cda) cc := rfl
  rw [envE]
  have hi : interactive (ksEnv qual scope h.objs.size fI (.ref cda) cc) = false := by simp [interactive, sk]
  obtain ⟨pl, hpl⟩ := hev h.objs.size (.ref cda) cc
  refine ks_wpAt_execs_cons (ks_wpAt_Expr_any (ks_wpAt_MethodCall ?_ hpl) hi (hsw1 _ _ _))
  refine ks_wpAt_super_base (env := ksEnv qual scope h.objs.size fI (.ref cda) cc) l3 l4 (by decide) rfl (X1 _ _ hfn) rfl har rfl (X1 _ _ hco) rfl hvs hfile htop ?_
  have gG1 := gG.keeps ke1
  have gB1 := gB.keeps ke1
  refine ks_loadName_global sk l3 (loadGlobal_builtin (env := ksEnv qual scope h.objs.size fI (.ref cda) cc) gG1 T.nS gB1 ((gb _ (by decide)).trans (by decide +kernel)) ⟨rfl, ?_⟩)
  refine wpAny_loadName_free sk l4 rfl ⟨_, X1 _ _ hcell, rfl⟩ ?_
  refine wpAny_loadName_local sk (by rw [hself]; exact l1) ns1 (by rw [hself]; exact nsA) ?_
  refine ks_wpAny_isType_cls (X1 _ _ hC) rfl ⟨rfl, ?_⟩
  refine ks_wpAny_call_super (X1 _ _ hC) rfl a1 rfl (fun c z => nomatch z) (looks_mroIn X1 T.sS) (fun h2 so2 ke2 => ?_)
  have X2 := X1.keeps ke2
  have a2 := ke2 _ _ a1
  have su := T.su
  unfold ks_superIn at su
  rw [hcl] at su
  have hI : Looks (model prog w) h2 (isInstance (.ref a) (.type "ValueError")) true := (show Looks (model prog w) h2 (typeOf (.ref a)) (.ref C) from fun A Q E s k q => wpAny_typeOf_ref (k _ _ a2) q).andThen (looks_subIn X2 T.sB)
  refine kxs_getMethod kxs_ValueError so2 (looks_opaque X2 T.op) (l₀ := .ref C :: bm) ?_ rfl X2 su hI haC (by decide) ?_
  · exact fun A Q E s k q => wpAny_bind ((looks_clsIn X2 hcl) A _ E s k (wpAny_pure q))
  have ne2 : ∀ b o, h2.get? b = some o → b ≠ h2.objs.size := fun b o z => Nat.ne_of_lt (Heap.lt_size z)
  have ke3 : ∀ b o, h2.get? b = some o → (h2.push (kxs_mw "ValueError.__init__" a)).get? b = some o := fun b o z => Heap.get?_push_of_some _ z
  have a3 := ke3 _ _ a2
  have u3 : (h2.push (kxs_mw "ValueError.__init__" a)).get? h2.objs.size = some (kxs_mw "ValueError.__init__" a) := Heap.get?_push_at rfl rfl
  refine kxs_callWith (i := "ValueError.__init__") (x := a) rfl ?_
  rw [show starEach [Expr.Constant (Const.str msg) j q3] (ksEnv qual scope h.objs.size fI (Value.ref cda) cc) = (false, eval (Expr.Constant (Const.str msg) j q3) (ksEnv qual scope h.objs.size fI (Value.ref cda) cc)) :: starEach [] (ksEnv qual scope h.objs.size fI (Value.ref cda) cc) from rfl]
  refine evalArgs_plain ?_
  show wpAny _ _ (spliced (backTo q4 (starEach [Expr.Constant (Const.str msg) j q3] (ksEnv qual scope h.objs.size fI (Value.ref cda) cc)))) _ _ _
  refine spliced_more (Constant_str (pos := q3) (spliced_none ⟨u3, ?_⟩))
  refine xbound hbm (ke3 _ _ (X2 _ _ hC)) a3 u3 (by show 1 ≤ sizeLine; rw [sizeLine_eq]; decide) fun h4 t4 ke4 a4 => ?_
  have nL : h.objs.size ≠ a := Nat.ne_of_gt (Heap.lt_size ha)
  have ke04 : ∀ b o, b ≠ a → h.get? b = some o → h4.get? b = some o := fun b o nb z => ke4 b o nb (ke3 _ _ (ke2 _ _ (ke1 _ _ z)))
  have X4 : K.In h4 := fun b o z => ke04 b o (fun e => by
    rw [e, hnx] at z
    cases z) (X _ _ z)
  have ns4 : h4.Ns h.objs.size (fun y => ((("self" : Str), Value.ref a) :: fs.zip vs).reverse.lookup y) := by
    obtain ⟨o, es, ep, z1, z2⟩ := ns1
    exact ⟨o, es, ep, ke4 _ _ nL (ke3 _ _ (ke2 _ _ z1)), z2⟩
  subst efs
  cases vs with
  | nil => cases hv
  | cons v vs =>
  have hv' : vs.length = fs0.length := by simpa using hv
  refine wpAt_of_wpAny (wpAny_execs_cons (plainObj_wpAny_Assign_Attribute ?_ (hsw2 _ _ _)))
  refine wpAny_Name (wpAny_loadName_local sk l2 ns4 (nsB (f0, v) List.mem_cons_self) ?_) l7
  refine wpAny_Name (wpAny_loadName_local sk l1 ns4 nsA ?_) (by decide)
  refine set_plain X4 (ox := excO C t4) (od := none) ⟨a4, rfl, rfl, trivial⟩ T.sa ?_
  refine exc_osa X4 a4 hcl (show refsVE (.ref C :: bm) = true from hbm) rfl (T.no f0 List.mem_cons_self) (fun h5 tk5 dx ke5 dn dne x5 n5 => ?_)
  have X5 : K.In h5 := fun b o z => ke5 b o (fun e => by
    rw [e, hnx] at z
    cases z) (X4 _ _ z)
  have Ldx : h.objs.size ≠ dx := Nat.ne_of_lt (Nat.lt_of_lt_of_le ns4.lt dn)
  have nKd : K.lookup dx = none := by
    cases z : K.lookup dx with
    | none => rfl
    | some o => exact absurd (Heap.lt_size (X4 _ _ z)) (Nat.not_lt.mpr dn)
  have ns5 : h5.Ns h.objs.size (fun y => ((("self" : Str), Value.ref a) :: (f0 :: fs0).zip (v :: vs)).reverse.lookup y) := by
    obtain ⟨o, es, ep, z1, z2⟩ := ns4
    exact ⟨o, es, ep, ke5 _ _ nL z1, z2⟩
  have n5' : h5.Ns1 dx (fun y => ([(f0, v)] : List (Str × Value)).lookup y) := by
    have e : (fun y => if y = f0 then some v else none) = fun y => ([(f0, v)] : List (Str × Value)).lookup y := by
      funext y
      rw [List.lookup_cons]
      by_cases e : y = f0
      · rw [if_pos e, e, beq_self_eq_true]
      · rw [if_neg e, show (y == f0) = false from by simpa using e]
        rfl
    rw [← e]
    exact n5
  have ll := T.ln
  refine xrest (dx := dx) sk l1 T.sa hcl (show refsVE (.ref C :: bm) = true from hbm) rfl nsA Ldx dne.symm nKd AF vs h5 tk5 [(f0, v)] (fun f hf => T.no f (List.mem_cons_of_mem _ hf)) hv' X5 ns5 (fun p hp => nsB p (List.mem_cons_of_mem _ hp)) x5 n5' (by rw [List.length_cons] at ll; rw [List.length_singleton]; omega) fun h6 tk6 ke6 n6 => ?_
  refine fin h6 tk6 dx ⟨fun b o nb z => ke6 b o (fun e => ?_) (ke5 b o nb (ke04 b o nb z)), ⟨t4, ke6 _ _ dne.symm x5⟩, Nat.le_of_lt (Nat.lt_of_lt_of_le ns4.lt dn), dne, ?_⟩
  · have := ke04 b o nb z
    rw [e] at this
    exact absurd (Heap.lt_size this) (Nat.not_lt.mpr dn)
  · have e : ((f0 :: fs0).zip (v :: vs)).reverse = (fs0.zip vs).reverse ++ [(f0, v)] := by
      show ((f0, v) :: fs0.zip vs).reverse = _
      rw [List.reverse_cons]
    rw [e]
    exact n6
structure XMadeN (h h' : Heap) (e C d : Addr) (l : List (Str × Value)) : Prop where
  keep : ∀ b o, h.get? b = some o → h'.get? b = some o
  new : h.objs.size ≤ e
  obj : ∃ oe vs, h'.get? e = some oe ∧ oe.cls = .ref C ∧ oe.dict = some d ∧ oe.data = .fields vs ∧ vs[1]? = some .none ∧ vs[2]? = some .none
  dbig : h.objs.size ≤ d
  dne : d ≠ e
  ns : h'.Ns1 d (fun y => l.lookup y)
theorem xmadeN {fs : List Str} (T : ExcN prog K mg x fs C fI) {h : Heap} {g : Array GenState} {d : Drawn} {t : Nat} {os : OsState} {vs : List Value} (hv : vs.length = fs.length) (X : K.In h) (hlim : h.NoLimit) (G : Grd mg h) (hroom : A.depth + 1 < recursionLimit)
    (fin : ∀ h' tk e d', XMadeN h h' e C d' (fs.zip vs).reverse → R (.ok (.ret (.ref e))) ⟨h', g, d, tk, os⟩) : codeAny (model prog w) A (.call (.ref C) ⟨vs, []⟩) R ⟨h, g, d, t, os⟩ := by
  obtain ⟨nm, q, N, bs, bm, sn, sub, ab, col, dd, k0, k1, k2, k3, k5, hC, hbm⟩ := T.cls
  let H2 : Heap := (h.push (kdv_tup vs)).push (excO C h.objs.size)
  have kp : ∀ b o, h.get? b = some o → H2.get? b = some o := fun b o z => Heap.get?_push_of_some _ (Heap.get?_push_of_some _ z)
  have at2 : H2.get? (h.objs.size + 1) = some (excO C h.objs.size) := by show ((h.push (kdv_tup vs)).push (excO C h.objs.size)).get? _ = _; heap_get
  have lt2 : ∀ {b : Addr} {o : Obj}, h.get? b = some o → b ≠ h.objs.size + 1 := fun z => Nat.ne_of_lt (Nat.lt_succ_of_lt (Heap.lt_size z))
  have nK : K.lookup (h.objs.size + 1) = none := by
    cases z : K.lookup (h.objs.size + 1) with
    | none => rfl
    | some o => exact absurd rfl (lt2 (X _ _ z))
  have ll := T.ln
  refine call_own PySem.F.excBase_ValueError (fun Y => refsVE_contains Y bm hbm) (X _ _ hC) (looks_findIn X T.iC) (fun self => bind_fn X self T.tI) (by rw [sizeLine_eq]; omega) ?_
  refine xinitN (h := H2) T hv (X.keeps kp) (hlim.keeps kp) ⟨G.1.keeps kp, let ⟨mb, z1, z2⟩ := G.2; ⟨mb, z1.keeps kp, z2⟩⟩ at2 (lt2 (X _ _ hC)).symm nK (show A.depth + 1 < recursionLimit from hroom) fun h' tk dx E => ?_
  have big : h.objs.size ≤ H2.objs.size := by show h.objs.size ≤ ((h.push _).push _).objs.size; rw [Heap.size_push, Heap.size_push]; omega
  obtain ⟨t1, eo⟩ := E.obj
  exact ⟨rfl, fin h' tk (h.objs.size + 1) dx ⟨fun b o z => E.keep b o (lt2 z) (kp b o z), Nat.le_succ _, ⟨_, _, eo, rfl, rfl, rfl, rfl, rfl⟩, Nat.le_trans big E.dbig, E.dne, E.ns⟩⟩
end
end Gt
namespace Gt
open PySem PySem.Spec PyProof.Rows L2
section
open PySem PySem.Spec PyProof.Rows L2 PySem.W PySem.Calls PySem.HandSPX
structure XStatN (st : Stmt) (qual : Str) (fs : List Str) : Prop where
  bd : ∃ msg j q0 q1 q2 q3 q4 q5 st' f0 fs0 q6 q7 q8 q9, defBody st = .Expr (.Call (.Attribute (.Call (.Name "super" q0) [] [] q1) "__init__" q2) [.Constant (.str msg) j q3] [] q4) q5 :: .Assign [.Attribute (.Name "self" q6) f0 q7] (.Name f0 q8) q9 :: st' ∧
      (∀ fI L cd c2, ∃ pl : Sem Bool, eval (.Call (.Attribute (.Call (.Name "super" q0) [] [] q1) "__init__" q2) [.Constant (.str msg) j q3] [] q4) (ksEnv qual (defScope st) L fI cd c2) = (do
        let ov ← attributeBase (.Call (.Name "super" q0) [] [] q1) "__init__" (ksEnv qual (defScope st) L fI cd c2) (eval (.Call (.Name "super" q0) [] [] q1) (ksEnv qual (defScope st) L fI cd c2))
        standAt q2.atName
        let (f, first) ← holding [ov] (getMethod ov "__init__" pl)
        callWith q4 f first (backTo q4 (starEach [.Constant (.str msg) j q3] (ksEnv qual (defScope st) L fI cd c2))) [])) ∧
      (∀ fI L cd c2, swapsWith (.Call (.Attribute (.Call (.Name "super" q0) [] [] q1) "__init__" q2) [.Constant (.str msg) j q3] [] q4) none q5.line (ksEnv qual (defScope st) L fI cd c2) = pure false) ∧
      fs = f0 :: fs0 ∧ (∀ fI L cd c2, swapsWith (.Name f0 q8) (some (.Attribute (.Name "self" q6) f0 q7)) q9.line (ksEnv qual (defScope st) L fI cd c2) = pure false) ∧ (defScope st).names.lookup f0 = some .local ∧ (f0 == ("__debug__" : Str)) = false ∧ ∀ fI, AsF (defScope st) qual fI fs0 st'
  ar : ∃ ar, ((defArgs st).posonlyargs ++ (defArgs st).args).head? = some ar ∧ ar.arg = "self"
  bi : ∀ (doc pm : Value) (an : Option Addr) (cda cc : Addr) (ct : Value) (s : Shared) (u : Value) (vs : List Value), vs.length = fs.length → BindsTo s (ksFn "__init__" qual (defArgs st) (defBody st) (defScope st) .none .none doc pm an (.ref cda) ct cc) ⟨u :: vs, []⟩ (("self", u) :: fs.zip vs)
  s1 : (defScope st).kind = .function
  s2 : (defScope st).isGenerator = false
  s3 : (defScope st).isCoroutine = false
  n1 : (defScope st).names.lookup ("self" : Str) = some .local
  n3 : (defScope st).names.lookup ("super" : Str) = some .globalImplicit
  n4 : (defScope st).names.lookup ("__class__" : Str) = some .free
  n2 : ∀ f ∈ fs, (defScope st).names.lookup f = some .local
  n5 : ∀ y ∈ (defScope st).names, y.2 ≠ .cell
  nd : (("self" : Str) :: fs).Nodup
  ln : fs.length ≤ 100
theorem al_nil {α : Type} {p : α → Prop} : ∀ f ∈ ([] : List α), p f := fun _ h => nomatch h
theorem al_cons {α : Type} {p : α → Prop} {a : α} {l : List α} (h : p a) (t : ∀ f ∈ l, p f) : ∀ f ∈ a :: l, p f := fun f hf => (List.mem_cons.mp hf).elim (fun e => e ▸ h) (t f)
structure ExcKN (prog : Program) (K : PySem.W.Frag) (mg : Str → Option Value) (x : Str) (fs : List Str) : Prop where
  ex : ∃ fI, ExcN prog K mg x fs (cA K x) fI
section
variable {prog : Program} {K : Frag} {mg : Str → Option Value} {x qual : Str} {fs : List Str} {st : Stmt} {C fI cda cc N : Addr} {oc doc pm ct cl cl2 : Value} {od cld cld2 an dd : Option Addr} {osl csl csl2 : Array (Option Value)} {vs : Array Value} {file q nm : Str} {tf : Tok}
  {bs bm sub : List Value} {sn : List Str} {ab : Bool} {col : Option Bool} {k0 k1 k2 k3 k5 : Option Value}
theorem excN_of (S : XStatN st qual fs) (gC : mg x = some (.ref C)) (hC : K.lookup C = some (excClassObj nm q C N bs bm true sn sub ab col dd k0 k1 k2 k3 k5 "ValueError.__new__")) (hbm : refsVE bm = true)
    (sa : findIn K (.ref C) "__setattr__" = some (some (.builtin "object.__setattr__"))) (no : ∀ f ∈ fs, findIn K (.ref C) f = some none)
    (iC : findIn K (.ref C) "__init__" = some (some (.ref fI))) (tI : typeIn K (.ref fI) = some (.type "function")) (kC : keepIn K (.ref C) = true) (exC : subIn K (.ref C) (.type "BaseException") = some true) (tyC : typeIn K (.ref C) = some (.type "type"))
    (su : ks_superIn K C C "__init__" = some (some (.builtin "ValueError.__init__"))) (sB : subIn K (.ref C) (.type "ValueError") = some true) (sS : mroIn K C (.ref C) = some true) (op : nsIn K cStatics "thirdparty.any" = some none) (nS : mg "super" = none)
    (lf : K.lookup fI = some ⟨oc, od, .func (ksFn "__init__" qual (defArgs st) (defBody st) (defScope st) .none .none doc pm an (.ref cda) ct cc), osl⟩) (hcd : codeIn K (.ref cda) qual = true) (lcc : K.lookup cc = some ⟨cl, cld, .cell (some (.ref C)), csl⟩)
    (lco : K.lookup cda = some ⟨cl2, cld2, .fields vs, csl2⟩) (hvs : vs[2]? = some (.str file tf)) (hf : ((prog.main.file : Str) == file) = true) (htop : (prog.main.scope.names.lookup ("super" : Str)).isSome = false) : ExcN prog K mg x fs C fI :=
  { gC := gC, cls := ⟨nm, q, N, bs, bm, sn, sub, ab, col, dd, k0, k1, k2, k3, k5, hC, hbm⟩, sa := sa, no := no, iC := iC, tI := tI, kC := kC, exC := exC, tyC := tyC, su := su, sB := sB, sS := sS, op := op, nS := nS, nd := S.nd, ln := S.ln,
    fn := by
      obtain ⟨msg, j, q0, q1, q2, q3, q4, q5, st', f0, fs0, q6, q7, q8, q9, eb, h1, h2, e3, h3, h4, h5, h6⟩ := S.bd
      exact ⟨oc, od, qual, defArgs st, defBody st, defScope st, doc, pm, an, cda, cc, ct, osl, lf, hcd, ⟨cl, cld, csl, lcc⟩, ⟨cl2, cld2, vs, file, tf, csl2, lco, hvs, hf⟩, htop, ⟨msg, j, q0, q1, q2, q3, q4, q5, st', f0, fs0, q6, q7, q8, q9, eb, h1 fI, h2 fI, e3, h3 fI, h4, h5, h6 fI⟩, S.ar, S.bi doc pm an cda cc ct,
        S.s1, S.s2, S.s3, S.n1, S.n2, S.n3, S.n4, S.n5⟩ }
end
theorem relO_cons {a1 : List (Str × V)} {a2 : List (Str × Value)} {k : Str} {v : V} {u : Value} (r : RelV v u) (h : ∀ f, RelO (a1.lookup f) (a2.lookup f)) (f : Str) : RelO (((k, v) :: a1).lookup f) (((k, u) :: a2).lookup f) := by
  rw [List.lookup_cons, List.lookup_cons]
  cases f == k with
  | true => exact r
  | false => exact h f
theorem relO_zip : ∀ {fs : List Str} {vs : List V} {us : List Value}, Vals vs us → ∀ {a1 : List (Str × V)} {a2 : List (Str × Value)}, (∀ f, RelO (a1.lookup f) (a2.lookup f)) → ∀ f, RelO (((fs.zip vs).reverse ++ a1).lookup f) (((fs.zip us).reverse ++ a2).lookup f)
  | [], _, _, _, _, _, h => h
  | _ :: _, _, _, .nil, _, _, h => h
  | g :: fs, v :: vs, u :: us, .cons r t, a1, a2, h => by
    intro f
    show RelO ((((g, v) :: fs.zip vs).reverse ++ a1).lookup f) ((((g, u) :: fs.zip us).reverse ++ a2).lookup f)
    rw [List.reverse_cons, List.reverse_cons, List.append_assoc, List.append_assoc]
    exact relO_zip t (relO_cons r h) f
def tMkN (C : Addr) (fs : List Str) (ta : TA) : L2.St → Hp → XK → Prop := fun σ H Q => ta σ H fun vs H1 => vs.length = fs.length ∧ ∀ d, H1 d = none → Q (.ref C) (some d) (upd H1 d (.xd (fs.zip vs).reverse))
section
variable {X : Cx} {x : Str} {k : Nat} {fs : List Str} {p pos : Pos} {e : Expr} {es : List Expr} {ta : TA} {W : WX}
theorem pmk_exN (T : ExcKN X.prog X.K X.mg x fs) (hr : Room k X.A) (ha : PA X (e :: es) ta) (hg : Gl X x := by rfl) (hdb : (x == ("__debug__" : Str)) = false := by decide)
    (he : starEach (e :: es) X.env = (false, eval e X.env) :: starEach es X.env := by rfl) (hpl : (backTo pos (starEach es X.env)).any (·.1) = false := by rfl) : L2N.PMk X (.Call (.Name x p) (e :: es) [] pos) (tMkN (cA X.K x) fs ta) := by
  obtain ⟨fI, T⟩ := T.ex
  intro pins s σ H Q I h
  refine wpAny_Call_Name_kw (ld_glob I hg T.gC ?_ hdb)
  refine PySem.W.callWith_K (h₀ := X.base) I.ok.mod.kin T.kC (thn (ha.run pos pins s σ H _ I h) fun us s1 hh => ?_) he hpl
  obtain ⟨vs, H1, I1, r1, ev, q1⟩ := hh
  refine ⟨I1.kIn, ?_⟩
  have hus : us.length = fs.length := by rw [← Paired.length r1]; exact ev
  show wpAny _ _ (call (.ref (cA X.K x)) us) _ _ _
  have hlim := I1.nolimit
  have G1 : Grd X.mg s1.heap := ⟨I1.ok.mod.glob.keeps I1.bk, let ⟨mb, z1, z2⟩ := I1.ok.mod.blt; ⟨mb, z1.keeps I1.bk, z2⟩⟩
  obtain ⟨hp, g, d, t, os⟩ := s1
  refine wpAny_call (xmadeN T hus I1.kIn hlim G1 (by have := hr.dp; omega) fun h' tk' e d' M => ?_)
  show L2N.MkP X pins σ Q (.ref e) ⟨h', g, d, tk', os⟩
  obtain ⟨oe, fv, hoe, hc, hd, hdat, h1, h2⟩ := M.obj
  obtain ⟨G', g1, g2⟩ := restrict h' fun b => decide (b ≠ e)
  have gk : ∀ b, b ≠ e → G'.get? b = h'.get? b := fun b hb => g1 b (decide_eq_true hb)
  have ge : G'.get? e = none := g2 e (by simp)
  have ne_ : ∀ {b : Addr} {o : Obj}, hp.get? b = some o → b ≠ e := fun q => Nat.ne_of_lt (Nat.lt_of_lt_of_le (Heap.lt_size q) M.new)
  have old : ∀ b o, hp.get? b = some o → G'.get? b = some o := fun b o q => (gk b (ne_ q)).trans (M.keep b o q)
  have ob : ObjOk X.prog X.w (upd H1 d' (.xd (fs.zip vs).reverse)) G' d' (.xd (fs.zip vs).reverse) := ⟨_, M.ns.at (fun o q => (gk d' M.dne).trans q), fun f => by
    have := relO_zip (fs := fs) r1 (a1 := []) (a2 := []) (fun _ => True.intro) f
    rw [List.append_nil, List.append_nil] at this
    exact this⟩
  have J : L2.Inv X pins σ (upd H1 d' (.xd (fs.zip vs).reverse)) ⟨G', g, d, tk', os⟩ := I1.laid (t' := tk') old M.dbig ob
  refine ⟨e, oe, fv, ⟨G', g, d, tk', os⟩, _, .ref (cA X.K x), some d', rfl, J, fun b o q => ?_, ge, hoe, ⟨hc, hd, fun vs e => by rw [hdat] at e; cases e; exact h2⟩, hdat, h1, ?_, rfl, I1.bare, raises_own T.exC T.tyC, q1 d' (I1.hok.fresh M.dbig)⟩
  · by_cases hb : b = e
    · have q' : G'.get? b = some o := q
      rw [hb, ge] at q'
      cases q'
    · exact (gk b hb).symm.trans q
  · rw [upd_ne (Ne.symm M.dne)]
    exact I1.hok.fresh M.new
end
section
variable {K : Frag} {H0 : Hp} {G : Cells K} {D : Ends} {u : TS} {te : TE}
def payL (fs : List (Str × Pay)) (f : Str) : Option (List (Option Str)) := match fs.lookup f with
  | some (.l s) => some s
  | _ => none
def payT (fs : List (Str × Pay)) (f : Str) : Option (List Str) := match fs.lookup f with
  | some (.t s) => some s
  | _ => none
def PayL (fs : List (Str × Pay)) (f : Str) (s : List (Option Str)) : Prop := payL fs f = some s
def PayT (fs : List (Str × Pay)) (f : Str) (s : List Str) : Prop := payT fs f = some s
theorem a_xfL {i : Nat} {a d C : Addr} {m : Mono (rExc K a d)} {fs : List (Str × Pay)} {f : Str} {s : List (Option Str)} (h : G[i]? = some (some (.ro (rExc K a d) m fs))) (hf : PayL fs f s) : Ev (rT K (rO rS)) (tXf a (.ref C) (some d) C f (tVar i)) G s := by
  unfold PayL payL at hf
  split at hf
  · rename_i t e
    cases hf
    exact (a_xf h e).imp fun _ _ z => z
  · cases hf
theorem a_xfT {i : Nat} {a d C : Addr} {m : Mono (rExc K a d)} {fs : List (Str × Pay)} {f : Str} {s : List Str} (h : G[i]? = some (some (.ro (rExc K a d) m fs))) (hf : PayT fs f s) : Ev (rT K rS) (tXf a (.ref C) (some d) C f (tVar i)) G s := by
  unfold PayT payT at hf
  split at hf
  · rename_i t e
    cases hf
    exact (a_xf h e).imp fun _ _ z => z
  · cases hf
end
end
section
section
variable {K : PySem.W.Frag} {G : Cells K} {α : Type} {te : TE} {r : Rp α}
theorem a2_some {H : Hp} : ∀ {vs : List V} {xs : List α}, A2 (r H) vs xs → A2 (rO r H) vs (xs.map some)
  | _, _, .nil => .nil
  | _, _, .cons h t => .cons h (a2_some t)
theorem ev_TO {xs : List α} (h : Ev (rT K r) te G xs) : Ev (rT K (rO r)) te G (xs.map some) := fun H0 σ H E Q k => h H0 σ H E Q fun v H1 e1 ⟨a, vs, e, s, z⟩ => k v H1 e1 ⟨a, vs, e, s, a2_some z⟩
def allS : List (Option α) → Option (List α)
  | [] => some []
  | none :: _ => none
  | some x :: l => (allS l).map (x :: ·)
theorem a2_all {H : Hp} : ∀ {vs : List V} {os : List (Option α)} {xs : List α}, A2 (rO r H) vs os → allS os = some xs → A2 (r H) vs xs
  | _, _, _, .nil, e => by cases e; exact .nil
  | _, none :: _, _, .cons _ _, e => by cases e
  | _, some x :: l, _, .cons h t, e => by
    have e : (allS l).map (x :: ·) = some _ := e
    cases q : allS l with
    | none => rw [q] at e; cases e
    | some ys =>
      rw [q] at e
      cases e
      exact .cons h (a2_all t q)
theorem ev_TA {os : List (Option α)} {xs : List α} (h : Ev (rT K (rO r)) te G os) (e : allS os = some xs) : Ev (rT K r) te G xs := fun H0 σ H E Q k => h H0 σ H E Q fun v H1 e1 ⟨a, vs, ev, s, z⟩ => k v H1 e1 ⟨a, vs, ev, s, a2_all z e⟩
end
end
section
end
section
def nH2 (K : PySem.W.Frag) {α β : Type} (R : Rs K α) (R' : Rs K β) : Rs K (α × β) where
  rep := fun H v x as => ∃ p a b s t, as = p :: (s ++ t) ∧ v = .ref p ∧ H p = some (.lst [a, b]) ∧ R.rep H a x.1 s ∧ R'.rep H b x.2 t
  stay := fun ⟨p, a, b, s, t, e, ev, h, z1, z2⟩ x k => ⟨p, a, b, s, t, e, ev, k p (by rw [e]; exact List.mem_cons_self ..) _ h, R.stay z1 x fun q hq => k q (by rw [e]; exact List.mem_cons_of_mem _ (List.mem_append_left _ hq)), R'.stay z2 x fun q hq => k q (by rw [e]; exact List.mem_cons_of_mem _ (List.mem_append_right _ hq))⟩
  there := fun ⟨p, a, b, s, t, e, _, h, z1, z2⟩ q hq => by
    rw [e] at hq
    rcases List.mem_cons.mp hq with y | y
    · rw [y]; exact ⟨_, h, fun z => z⟩
    · rcases List.mem_append.mp y with y | y
      · exact R.there z1 q y
      · exact R'.there z2 q y
def rH2 {α β : Type} (r : Rp α) (q : Rp β) : Rp (α × β) := fun H v x => ∃ p a b, v = .ref p ∧ H p = some (.lst [a, b]) ∧ r H a x.1 ∧ q H b x.2
instance {α β : Type} {r : Rp α} {q : Rp β} [M : Mono r] [N : Mono q] : Mono (rH2 r q) := ⟨fun e ⟨p, a, b, ev, h, h1, h2⟩ => ⟨p, a, b, ev, e _ _ h, M.up e h1, N.up e h2⟩⟩
section
variable {K : PySem.W.Frag} {α β γ δ : Type} {H0 : Hp} {G : Cells K} {D : Ends} {R : Rs K α} {R' : Rs K β} {r : Rp α} {q : Rp β} {te ta tx : TE} {i : Nat}
instance [B : Bor K R r] [B' : Bor K R' q] : Bor K (nH2 K R R') (rH2 r q) := ⟨fun ⟨p, a, b, s, t, _, ev, h, z1, z2⟩ => ⟨p, a, b, ev, h, B.look z1, B'.look z2⟩⟩
theorem a_H2 [B : Bor K R r] [B' : Bor K R' q] {x : α × β} (h : G[i]? = some (some (.ow (nH2 K R R') x))) : Ev (rH2 r q) (tVar i) G x := fun H0 σ H E Q k => by
  obtain ⟨own, _, _, h3⟩ := E.at_
  obtain ⟨v, hv, hr⟩ := h3 i _ h
  exact ⟨v, hv, k v H (Same.refl H) (Bor.look (K := K) (R := nH2 K R R') hr)⟩
variable {y : α × β}
theorem ev_g0 [M : Mono r] (h : Ev (rH2 r q) ta G y) : Ev r (tOp (rIx K) ta (tC (.int 0))) G y.1 := fun H0 σ H E Q c => h H0 σ H E _ fun v H1 e1 ⟨p, a, b, ev, hp, h1, h2⟩ => .inl ⟨p, [a, b], 0, a, ev, rfl, SqL.of hp, rfl, c a H1 e1 h1⟩
theorem ev_g1 [M : Mono q] (h : Ev (rH2 r q) ta G y) : Ev q (tOp (rIx K) ta (tC (.int 1))) G y.2 := fun H0 σ H E Q c => h H0 σ H E _ fun v H1 e1 ⟨p, a, b, ev, hp, h1, h2⟩ => .inl ⟨p, [a, b], 1, b, ev, rfl, SqL.of hp, rfl, c b H1 e1 h2⟩
theorem ixc_g0 [M : Mono r] : IxC K (rH2 r q) y (tC (.int 0)) G r y.1 := fun ta h => ev_g0 h
theorem ixc_g1 [M : Mono q] : IxC K (rH2 r q) y (tC (.int 1)) G q y.2 := fun ta h => ev_g1 h
end
section
variable {K : PySem.W.Frag} {α β γ : Type} {G G1 : Cells K} {r : Rp α} {ta tb : TE} {i : Nat}
theorem ev_LO {xs : List α} (h : Ev (rL r) ta G xs) : Ev (rL (rO r)) ta G (xs.map some) := fun H0 σ H E Q k => h H0 σ H E Q fun v H1 e1 ⟨a, vs, e, s, z⟩ => k v H1 e1 ⟨a, vs, e, s, a2_some z⟩
theorem a_inLO {xs : List α} {o : Option α} (h' : Ev (rL r) tb G xs) (h : Ev (rO r) ta G o) (M : Mono (rO r)) (DD : DatC K (rO r)) : Ev rB (tOp (rInD K) ta tb) G (memB o (xs.map some)) := a_inLD (ev_LO h') h M DD
theorem a_ninLO {xs : List α} {o : Option α} (h' : Ev (rL r) tb G xs) (h : Ev (rO r) ta G o) (M : Mono (rO r)) (DD : DatC K (rO r)) : Ev rB (tOp (rNotInD K) ta tb) G (!memB o (xs.map some)) := a_ninLD (ev_LO h') h M DD
end
section
variable {K : PySem.W.Frag} {G : Cells K} {α β : Type} {R : Rp α} {r : Rp β} {tb : TE}
theorem ixc_Og {o : Option α} {z : α} {x : β} (e : o = some z) (h : IxC K R z tb G r x) : IxC K (rO R) o tb G r x := fun ta y => h ta (ev_unsome y e)
theorem lnc_Og {o : Option α} {z : α} {n : Nat} (e : o = some z) (h : LnC K R z n) : LnC K (rO R) o n := fun G te y => h G te (ev_unsome y e)
end
end
section
theorem hot_suite {X : Cx} {a : Addr} {oe : Obj} {cls : Value} {d : Option Addr} {pn : List (Addr × Obj)} (hz : L2N.Zn cls d oe) (hf : ∃ vs, oe.data = .fields vs) : L2H.HotC (X.suite a ((a, oe) :: pn)) :=
  let ⟨vs, e⟩ := hf; ⟨(a, oe), ⟨rfl, vs, e, hz.2.2 vs e⟩, List.mem_cons_self⟩
theorem room_suite {X : Cx} {k : Nat} {a : Addr} {pn : List (Addr × Obj)} (hr : Room k X.A) : L2H.RoomH k (X.suite a pn).A := ⟨hr.dp, hr.un⟩
end
section
variable {K : PySem.W.Frag} {β : Type}
def datOT {r : Rp β} (D : Dat K r) : Dat K (rO (rT K r)) where
  dec := by have := D.dec; infer_instance
  enc := encO' (datT D).enc
  dep := D.dep + 1
  dp := fun {H v b} h => match b, h with
    | .none, h => by rw [show v = _ from h]; exact .non
    | .some _, h => (datT D).dp h
  lay := fun {H v b} h => match b, h with
    | .none, _ => by simp [PyData.canLay0, encO']
    | .some _, h => (datT D).lay h
  dpt := fun b => by
    cases b with
    | none => simp [PyData.depth, encO']
    | some b => exact (datT D).dpt b
  eqv := fun a b => by
    cases a with
    | none => cases b <;> simp [PyData.eqv, encO', datT]
    | some a =>
      cases b with
      | none => simp [PyData.eqv, encO', datT]
      | some b =>
        show PyData.eqv ((datT D).enc a) ((datT D).enc b) = _
        rw [(datT D).eqv a b]
        have := D.dec
        by_cases h : a = b
        · subst h; simp
        · have h2 : ¬ (some a : Option (List β)) = some b := fun e => h (Option.some.inj e)
          rw [@decide_eq_false _ (_) h, @decide_eq_false _ (_) h2]
instance {r : Rp β} {n : Nat} [d : DatN K r n] : DatN K (rO (rT K r)) (n + 1) := ⟨let ⟨D, h⟩ := d.ex; ⟨datOT D, Nat.succ_le_succ h⟩⟩
end
section
variable {K : PySem.W.Frag} {G : Cells K} {α β : Type} {ta tb' : TE}
theorem a_inOM {C : Addr} {names : List Str} {r : Rp α} {r' : Rp β} {x : α} {o : β} {z : Bool} {m : β × α × Unit → M Bool} {E : XK} (h : Ev r ta G x) (h' : Ev r' tb' G o) (M : Mono r) (I : InsR K C r' names) (e : MOk m (o, x, ()) z) :
    Ev rB (tOp (rOwnIn C false (spM (aC r' (aC r aN)) rB m) E) ta tb') G z := ev_op h h' fun H u v hu hv Q k => by
  obtain ⟨a, dx, fs, ea, ha, _⟩ := I.ins hv
  exact ⟨a, dx, fs, ea, ha, (o, x, ()), z, ⟨v, _, rfl, hv, u, _, rfl, hu, rfl⟩, e, fun w H' e' hw => ⟨z, hw, by rw [Bool.false_xor]; exact k (.bl z) H' e' rfl⟩⟩
theorem a_ninOM {C : Addr} {names : List Str} {r : Rp α} {r' : Rp β} {x : α} {o : β} {z : Bool} {m : β × α × Unit → M Bool} {E : XK} (h : Ev r ta G x) (h' : Ev r' tb' G o) (M : Mono r) (I : InsR K C r' names) (e : MOk m (o, x, ()) z) :
    Ev rB (tOp (rOwnIn C true (spM (aC r' (aC r aN)) rB m) E) ta tb') G (!z) := ev_op h h' fun H u v hu hv Q k => by
  obtain ⟨a, dx, fs, ea, ha, _⟩ := I.ins hv
  exact ⟨a, dx, fs, ea, ha, (o, x, ()), z, ⟨v, _, rfl, hv, u, _, rfl, hu, rfl⟩, e, fun w H' e' hw => ⟨z, hw, by rw [Bool.true_xor]; exact k (.bl (!z)) H' e' rfl⟩⟩
theorem a_nOD {i : Nat} {r : Rp α} {o : Option (List (Str × α))} (h : G[i]? = some (some (.ow (nO K (nd K r)) o))) : Ev (rO (rD r)) (tVar i) G o := a_nOv (R := nd K r) (rv := rD r) (fun _ _ _ _ z => let ⟨p, kvs, _, ev, hp, z⟩ := z; ⟨p, kvs, ev, .inl hp, z.imp fun _ _ w => ⟨w.1, w.2.now⟩⟩) h
theorem a_propR {C C' : Addr} {names : List Str} {F : RF K α} {r : Rp β} {x : β} {z : α} {m : β × Unit → M α} {ta : TE} (h : Ev r ta G x) (M : Mono r) (I : InsR K C r names) (e : MOk m (x, ()) z) : Ev (rRec K C' F) (tProp C (spMN (aC r aN) (nRec K C' F) m) [] E0 ta) G z := fun H0 σ H E Q k => h H0 σ H E _ fun v H1 e1 hv => by
  obtain ⟨a, dx, fs, ea, ha, _⟩ := I.ins hv
  subst ea
  exact ⟨a, dx, fs, rfl, ha, (x, ()), z, ⟨_, _, rfl, hv, rfl⟩, e, fun w H' as e' _ hw => k w H' (e1.trans e') ⟨as, hw⟩⟩
end
section
variable {K : PySem.W.Frag} {G : Cells K} {α : Type} {ta : TE} {r : Rp α}
theorem ev_notTL {xs : List α} (h : Ev (rL r) ta G xs) : Ev rB (tNotT K ta) G (!(!xs.isEmpty)) := fun H0 σ H E Q k => et_truL h H0 σ H E (fun c H1 => Q (.bl (!c)) H1) fun H1 e1 => k (.bl _) H1 e1 rfl
theorem ev_notTT {xs : List α} (h : Ev (rT K r) ta G xs) : Ev rB (tNotT K ta) G (!(!xs.isEmpty)) := fun H0 σ H E Q k => et_truT h H0 σ H E (fun c H1 => Q (.bl (!c)) H1) fun H1 e1 => k (.bl _) H1 e1 rfl
instance notNon_rD {r : Rp α} : NotNon (rD r) := ⟨fun ⟨_, _, e, _⟩ z => by rw [z] at e; cases e⟩
theorem a_ndp {i : Nat} {r : Rp α} {x : List (Str × α)} (h : G[i]? = some (some (.ow (nd K r) x))) : Ev (rDp r) (tVar i) G x := fun H0 σ H E Q k => by
  obtain ⟨own, _, _, h3⟩ := E.at_
  obtain ⟨v, hv, hr⟩ := h3 i _ h
  exact ⟨v, hv, k v H (Same.refl H) (let ⟨p, kvs, _, ev, hp, z⟩ := hr; ⟨p, kvs, ev, hp, z.imp fun _ _ w => ⟨w.1, w.2.now⟩⟩)⟩
end
section
end
section
end
section
variable {K : PySem.W.Frag} {H0 H1 H2 H : Hp} {G : Cells K} {α β γ ρ : Type} {D : Ends} {u : TS} {q : Rp β} {R : Rs K ρ}
theorem a_pdOO {P : Program} {w : World} {r : Rp α} {i : Nat} {o : Option (List (KP × α))} {xs : List (KP × α)} (h : G[i]? = some (some (.ow (nO K (npd P w K r)) o))) (e : o = some xs) (hz : xs.length ≤ 12000000) : Ev (rPD P w K r) (tVar i) G xs := fun H0 σ H E Q k => by
  subst e
  obtain ⟨own, _, _, h3⟩ := E.at_
  obtain ⟨v, hv, p, ep, es, _, ev, hp, hs, nd, q⟩ := h3 i _ h
  exact ⟨v, hv, k v H (Same.refl H) ⟨p, ep, es, ev, hp, hs, nd, q.imp fun _ _ z => z.up (fun _ _ y => y.now) (ExT.refl _), hz⟩⟩
theorem Nw.pd {P : Program} {w : World} {r : Rp α} {te : TE} {xs : List (KP × α)} (h : Nw (npd P w K r) te G xs) (hz : xs.length ≤ 12000000) : Ev (rPD P w K r) te G xs := fun H0 σ H E Q k => h H0 σ H E Q fun v H' _ e _ ⟨p, ep, es, _, ev, hp, hs, nd, q⟩ => k v H' e ⟨p, ep, es, ev, hp, hs, nd, q.imp fun _ _ z => z.up (fun _ _ y => y.now) (ExT.refl _), hz⟩
end
section
def rIsiP (P : Program) (w : World) (K : PySem.W.Frag) : List V → Hp → VK → Prop := fun xs H Q => ∃ (a : Addr) (ep : Nat) (es : List PEt) (c : V) (u : Value) (b : Bool), xs = [.ref a, c] ∧ ClsV c u ∧ PdAt P w K H a ep es ∧ PySem.W.kitOne K (.type "dict") u = some b ∧ Q (.bl b) H
section
variable {P : Program} {w : World} {K : PySem.W.Frag} {G : Cells K} {α : Type} {r : Rp α} {te : TE} {xs : List (KP × α)}
theorem a_isiP {T' : String} {f : Bool} (h : Ev (rPD P w K r) te G xs) (hb : kitB "dict" T' = some f) : Ev rB (tCB (rIsiP P w K) (tCons te (tCons (tC (.ty T')) tNil))) G f := fun H0 σ H E Q k =>
  h H0 σ H E _ fun v H1 e1 ⟨p, ep, es, ev, hp, hs, nd, q, hz⟩ => ⟨p, ep, es, .ty T', .type T', f, by rw [ev], .ty T', pd_at hp hs nd q hz, kit_ty hb, k _ H1 e1 rfl⟩
end
def rLenP (P : Program) (w : World) (K : PySem.W.Frag) : List V → Hp → VK → Prop := fun xs H Q => ∃ (a : Addr) (ep : Nat) (es : List PEt), xs = [.ref a] ∧ PdAt P w K H a ep es ∧ Q (.int ((es.length : Nat) : Int)) H
section
variable {P : Program} {w : World} {K : PySem.W.Frag} {G : Cells K} {α : Type} {r : Rp α} {te : TE} {xs : List (KP × α)}
theorem a_lenP (h : Ev (rPD P w K r) te G xs) : Ev rI (tCB (rLenP P w K) (tCons te tNil)) G (xs.length : Int) := fun H0 σ H E Q k =>
  h H0 σ H E _ fun v H1 e1 ⟨p, ep, es, ev, hp, hs, nd, q, hz⟩ => ⟨p, ep, es, by rw [ev], pd_at hp hs nd q hz, k _ H1 e1 (by rw [q.len]; rfl)⟩
end
end
section
def rJ (K : PySem.W.Frag) {α : Type} (A : Ra α) : Rp α := fun H v a => ∃ p vs, v = .ref p ∧ H p = some (.lst vs) ∧ A H vs a
instance {K : PySem.W.Frag} {α : Type} {A : Ra α} [M : MonoA A] : Mono (rJ K A) := ⟨fun e ⟨p, vs, ev, h, z⟩ => ⟨p, vs, ev, e _ _ h, M.up e z⟩⟩
def nJ (K : PySem.W.Frag) {α : Type} (A : Ra α) : Rs K α where
  rep := fun H v a as => ∃ p vs, as = [p] ∧ v = .ref p ∧ H p = some (.lst vs) ∧ ∀ H', ExT K H H' → A H' vs a
  stay := fun ⟨p, vs, e, ev, h, z⟩ x k => ⟨p, vs, e, ev, k p (by rw [e]; exact List.mem_singleton.mpr rfl) _ h, fun H2 y => z H2 (x.trans y)⟩
  there := fun ⟨p, vs, e, _, h, _⟩ b hb => by
    rw [e] at hb
    cases List.mem_singleton.mp hb
    exact ⟨_, h, fun z => z⟩
section
variable {K : PySem.W.Frag} {H0 H1 H H' : Hp} {σ : L2.St} {G G' : Cells K} {α β γ : Type} {D : Ends} {u : TS} {A : Ra α} {a : α} {n i : Nat} {tl : TA} {te : TE} {gs : TGs} {R : Rs K β} {b : β} {rv : Rp β}
theorem vw_nJ {v : V} {as : List Addr} (h : (nJ K A).rep H v a as) : rJ K A H v a := let ⟨p, vs, _, ev, hp, z⟩ := h; ⟨p, vs, ev, hp, z H (ExT.refl H)⟩
theorem l_appN {xss : List β} (hi : G[i]? = some (some (.ow (nlR K R) xss))) (h : Nw R te G b) (hz : xss.length < 12000000) (kk : Nx H0 (G.set i (some (.ow (nlR K R) (xss ++ [b])))) D.nx) : Sv H0 G (tDrop (tBM K "list" rAppend (tVar i) (tCons te tNil))) D := fun σ H ⟨H1, e1, E⟩ => by
  obtain ⟨own, E0⟩ := E.o
  obtain ⟨v, hv, p, vs, ss, ea, ev, hp, z, d⟩ := E0.at_ i _ hi
  subst ev
  have hl : i < G.length := (List.getElem?_eq_some_iff.mp hi).1
  refine ⟨_, hv, .inl ⟨rfl, vs, SqL.of hp⟩, h H1 σ H E _ fun w H2 as e2 hn hr => ?_⟩
  have E2 := E0.grow e2
  have hp2 := e2 _ _ hp
  have fr : ∀ q ∈ as, Fr own H1 q := fun q hq => E0.fr (hn q hq)
  have out : ∀ q ∈ as, q ∉ own i := fun q hq => (fr q hq).2 i
  have pa : p ∉ as := fun q => out p q (by rw [ea]; exact List.mem_cons_self ..)
  have x0 : ExT K H2 (upd H2 p (.lst (vs ++ [w]))) := ext_upd hp2 fun z => z
  have z2 : A3 (R.rep H2) vs xss ss := z.imp fun a c t ht hr' => R.stay hr' (ext_same e2) fun q _ o ho => e2 _ _ ho
  have stay : ∀ (v : V) (c : β) (t : List Addr), p ∉ t → R.rep H2 v c t → R.rep (upd H2 p (.lst (vs ++ [w]))) v c t := fun v c t hp' hr => R.stay hr x0 fun q hq o ho => by rw [upd_ne fun z => hp' (by rw [← z]; exact hq)]; exact ho
  refine ⟨p, vs, w, rfl, rfl, hp2, Nat.lt_of_le_of_lt (by rw [z.len]; omega) (by decide : 12000000 < sizeLine), kk _ _ ⟨H1, e1, ?_⟩⟩
  refine E2.chg (i := i) hl hv (as' := p :: (ss ++ [as]).flatten) (fun c o hc ho => ?_) (fun q hq => ?_) (R' := nlR K R) ⟨p, _, ss ++ [as], rfl, rfl, upd_same, (z2.imp fun a c t ht hr' => stay _ _ _ ?_ hr').app (.cons (stay _ _ _ pa hr) .nil), d.app fun q hq => ⟨fun e => pa (by rw [← e]; exact hq), fun hm' => out q hq (by rw [ea]; exact List.mem_cons_of_mem _ hm')⟩⟩
  · rw [upd_ne fun e => hc (by rw [ea, e]; exact List.mem_cons_self ..)]
    exact ho
  · rcases List.mem_cons.mp hq with e | e
    · exact .inl (by rw [ea, e]; exact List.mem_cons_self ..)
    · rw [List.flatten_append, List.flatten_cons, List.flatten_nil, List.append_nil] at e
      rcases List.mem_append.mp e with e | e
      · exact .inl (by rw [ea]; exact List.mem_cons_of_mem _ e)
      · exact .inr (fr q e)
  · obtain ⟨l, hl⟩ := List.mem_iff_getElem?.mp ht
    exact d.1 l t hl
theorem q_appN {xss : List β} (hi : G[i]? = some (some (.ow (nlR K R) xss))) (h : Nw R te G b) (hz : xss.length < 12000000) (kk : Sv H0 (G.set i (some (.ow (nlR K R) (xss ++ [b])))) u D) : Sv H0 G (tSeq (tDrop (tBM K "list" rAppend (tVar i) (tCons te tNil))) u) D := l_appN (D := { D with nx := u D }) hi h hz kk
end
end
section
def rAt {α : Type} (Hb : Hp) (r : Rp α) : Rp α := fun _ v x => r Hb v x
instance {α : Type} {Hb : Hp} {r : Rp α} : Mono (rAt Hb r) := ⟨fun _ h => h⟩
end
section
section
variable {P : Program} {w : World} {K : PySem.W.Frag} {H0 H1 H H' : Hp} {σ : L2.St} {G G' : Cells K} {α β γ : Type} {D : Ends} {u : TS} {te ta tb : TE} {r : Rp α} {R : Rs K β} {R' : Rs K β} {b : β} {i : Nat}
theorem a_ndR {xss : List (Str × List α)} (h : G[i]? = some (some (.ow (ndR K (nl K r)) xss))) : Ev (rD (rL r)) (tVar i) G xss := (pl_var h).ev fun _ _ _ z => vw_ndR (fun _ _ _ _ z => vw_nl z) z
instance {r : Rp α} [M : Ulk r] : Ulk (rEi K r) := ⟨fun e ⟨a, vs, ev, h, q⟩ => ⟨a, vs, ev, h.imp (fun h => tgl_at e h (fun _ z => nomatch z) (fun _ _ z => nomatch z)) ((tgl_ext e).d _ _), q.imp fun _ _ z => M.up e z⟩⟩
def npz (P : Program) (w : World) (K : PySem.W.Frag) {α : Type} (r : Rp α) : Rs K (List (KP × α)) where
  rep := fun H v xs as => (npd P w K r).rep H v xs as ∧ xs.length ≤ 12000000
  stay := fun ⟨h, z⟩ x k => ⟨(npd P w K r).stay h x k, z⟩
  there := fun ⟨h, _⟩ => (npd P w K r).there h
theorem vw_npd {xs : List (KP × α)} {v : V} {as : List Addr} (h : (npd P w K r).rep H v xs as) (hz : xs.length ≤ 12000000) : rPD P w K r H v xs :=
  let ⟨p, ep, es, _, ev, hp, hs, nd, q⟩ := h
  ⟨p, ep, es, ev, hp, hs, nd, q.imp fun _ _ z => z.up (fun _ _ y => y.now) (ExT.refl _), hz⟩
theorem vw_npz {xs : List (KP × α)} {v : V} {as : List Addr} (h : (npz P w K r).rep H v xs as) : rPD P w K r H v xs := vw_npd h.1 h.2
theorem a_nlRz {xss : List (List (KP × α))} (h : G[i]? = some (some (.ow (nlR K (npz P w K r)) xss))) : Ev (rL (rPD P w K r)) (tVar i) G xss := (pl_var h).ev fun _ _ _ z => vw_nlR (fun _ _ _ _ z => vw_npz z) z
end
end
section
section
variable {P : Program} {w : World} {K : PySem.W.Frag} {H0 H1 H2 H H' : Hp} {σ : L2.St} {G G' : Cells K} {α β γ : Type} {D : Ends} {u : TS} {te ta tb : TE} {r : Rp α} {R : Rs K β} {b : β} {i : Nat} {x : α}
def rPin {α : Type} (v0 : V) (b0 : α) : Rp α := fun _ v b => v = v0 ∧ b = b0
instance {v0 : V} {b0 : α} : Frz K (rPin v0 b0) := ⟨fun _ h => h⟩
instance {v0 : V} {b0 : α} : Mono (rPin v0 b0) := ⟨fun _ h => h⟩
def spInitM (K : PySem.W.Frag) (C : Addr) (F : RF K β) (A : Ra α) (m : α → M β) : Sp := fun vs H Q E => ∃ p dx ws a H1, vs = .ref p :: ws ∧ Same H1 H ∧ H1 p = none ∧ ExT K H1 H ∧ H p = some (.ins C dx []) ∧ A H1 ws a ∧ NStk (m a) ∧
  (∀ b, m a = .ok b → ∀ H', Same H1 H' → rRec K C F H' (.ref p) b → Q .non H') ∧
  ∀ x fs, m a = .error (.ex x fs) → ∀ d H', Same H1 H' → H1 d = none → XR K H' d fs → E (.ref (cA K x)) (some d) H'
theorem ev_mkM {C : Addr} {F : RF K β} {A : Ra α} {a : α} {m : α → M β} {b : β} {E' : L2.St → XK} {tq : TA} (hA : EvA A tq G a) (M : MonoA A) (e : MOk m a b) : Ev (rRec K C F) (tMakeS C (spInitM K C F A m) E' tq) G b := fun H0 σ H E Q k =>
  hA H0 σ H E _ fun vs H2 e2 hvs x dx hx hdx hne => by
    have e : m a = .ok b := e
    have s1 : Same H2 (upd (upd H2 dx (.own x)) x (.ins C dx [])) := same_made hx hdx
    refine ⟨x, dx, vs, a, H2, rfl, s1, hx, ext_same s1, upd_same, hvs, nstk_ok e, fun b' hb H' s2 hr => ⟨rfl, ?_⟩, fun y fs hy => by rw [e] at hy; cases hy⟩
    rw [e] at hb
    cases hb
    exact k _ H' (e2.trans s2) hr
def tArgD (d : Addr) (t : TA) : TA := fun σ H Q => t σ H fun vs H1 => Q (vs ++ [.ref d]) H1
theorem ea_argD1 {t : TA} {q : Rp γ} {d : Addr} (hd : NilT K d) (h : EvA (aC r aN) t G (x, ())) : EvA (aC r (aC (rEi K q) aN)) (tArgD d t) G (x, (([] : List γ), ())) := fun H0 σ H E Q k => by
  obtain ⟨o, n, h1, h0, h2, h3⟩ := hd
  exact h H0 σ H E _ fun vs H1 e1 ⟨v, ws, ev, hv, ew⟩ => k _ H1 e1 ⟨v, [.ref d], by rw [ev, show ws = [] from ew]; rfl, hv, .ref d, [], rfl, ⟨d, [], rfl, .inr (.inr ⟨o, #[], n, h1, h0, h2, h3, Nat.zero_le _, .nil⟩), .nil⟩, rfl⟩
def rNisB : R2 := fun x y H Q => ∃ a b, x = .bl a ∧ y = .bl b ∧ Q (.bl (!decide (a = b))) H
theorem a_nisB {a b : Bool} (h : Ev rB ta G a) (h' : Ev rB tb G b) : Ev rB (tOp rNisB ta tb) G (!(decide (a = b))) := ev_op h h' fun H u v hu hv Q k => ⟨a, b, hu, hv, k _ H (Same.refl H) rfl⟩
inductive FrzAll {K : PySem.W.Frag} : Cells K → Cells K → Prop
  | nil : FrzAll [] []
  | drop {c : Option (Cell K)} {G G' : Cells K} : FrzAll G G' → FrzAll (c :: G) (none :: G')
  | fz {β : Type} {r : Rp β} {b : β} {G G' : Cells K} : FrzAll G G' → FrzAll (fc r b :: G) (fc r b :: G')
  | ro {β : Type} {r : Rp β} {m : Mono r} {b : β} {G G' : Cells K} : FrzAll G G' → FrzAll (some (.ro r m b) :: G) (some (.ro r m b) :: G')
  | ow {β : Type} {R : Rs K β} {b : β} {rv : Rp β} {M : Mono rv} {G G' : Cells K} (f : ∀ H v as, R.rep H v b as → rv H v b) : FrzAll G G' → FrzAll (some (.ow R b) :: G) (some (.ro rv M b) :: G')
theorem FrzAll.len : ∀ {G G' : Cells K}, FrzAll G G' → G.length = G'.length
  | _, _, .nil => rfl
  | _, _, .drop h => by rw [List.length_cons, List.length_cons, h.len]
  | _, _, .fz h => by rw [List.length_cons, List.length_cons, h.len]
  | _, _, .ro h => by rw [List.length_cons, List.length_cons, h.len]
  | _, _, .ow _ h => by rw [List.length_cons, List.length_cons, h.len]
theorem FrzAll.get : ∀ {G G' : Cells K}, FrzAll G G' → ∀ {i : Nat} {c' : Cell K}, G'[i]? = some (some c') → ∃ c, G[i]? = some (some c) ∧ ∀ (H1 H : Hp) (v : V) (as : List Addr), Same H1 H → c.ok H1 H v as → c'.ok H H v []
  | _, _, .nil, i, c', e => by simp at e
  | _, _, .drop h, i, c', e => by
    cases i with
    | zero => simp at e
    | succ i => simpa using h.get (i := i) (c' := c') (by simpa using e)
  | _, _, .fz h, i, c', e => by
    cases i with
    | zero =>
      simp at e
      subst e
      exact ⟨_, rfl, fun H1 H v as s ⟨_, k⟩ => ⟨rfl, k⟩⟩
    | succ i => simpa using h.get (i := i) (c' := c') (by simpa using e)
  | _, _, .ro (m := m) h, i, c', e => by
    cases i with
    | zero =>
      simp at e
      subst e
      exact ⟨_, rfl, fun H1 H v as s ⟨_, k⟩ => ⟨rfl, m.up s k⟩⟩
    | succ i => simpa using h.get (i := i) (c' := c') (by simpa using e)
  | _, _, .ow f h, i, c', e => by
    cases i with
    | zero =>
      simp at e
      subst e
      exact ⟨_, rfl, fun H1 H v as s k => ⟨rfl, f _ _ _ k⟩⟩
    | succ i => simpa using h.get (i := i) (c' := c') (by simpa using e)
theorem ev_lstM {t : TA} {xs : List α} (h : EvA (aAll r) t G xs) (M : Mono r) (hz : xs.length ≤ 12000000) : Ev (rL r) (tLst t) G xs := fun H0 σ H E Q k =>
  h H0 σ H E _ fun vs H1 e1 z => ⟨by rw [A2.len z]; exact sz hz, fun p hp => k _ _ (e1.trans (same_new hp)) ⟨p, vs, rfl, upd_same, A2.imp (fun _ _ q => M.up (same_new hp) q) z⟩⟩
theorem ev_catM {xs ys : List α} (h : Ev (rL r) ta G xs) (h' : Ev (rL r) tb G ys) (M : Mono r) (hz : xs.length + ys.length ≤ 12000000) : Ev (rL r) (tOp rCat ta tb) G (xs ++ ys) := fun H0 σ H E Q k =>
  h H0 σ H E _ fun v Ha e ⟨p, vs, ev, hp, z⟩ => h' H0 σ Ha (E.grow e) _ fun y Hb e' ⟨p', vs', ev', hp', z'⟩ =>
    ⟨p, p', vs, vs', ev, ev', e' _ _ hp, hp', by rw [z.len, z'.len]; exact sz hz, fun l hl => k _ _ ((e.trans e').trans (same_new hl)) ⟨l, _, rfl, upd_same, A2.app (z'.imp fun _ _ w => M.up (same_new hl) w) (z.imp fun _ _ w => M.up (e'.trans (same_new hl)) w)⟩⟩
theorem ev_slM {xs : List α} {lo hi : Option Int} {tl th : TO} (h : Ev (rL r) ta G xs) (hl : EvO tl G lo) (hh : EvO th G hi) (M : Mono r) : Ev (rL r) (tSl (rSlL K) ta tl th) G (cut xs lo hi) := fun H0 σ H E Q k =>
  h H0 σ H E _ fun v H1 e1 ⟨p, vs, ev, hp, z⟩ => hl H0 σ H1 (E.grow e1) _ fun H2 e2 => hh H0 σ H2 (E.grow (e1.trans e2)) _ fun H3 e3 =>
    ⟨p, vs, ev, SqL.of (e3 _ _ (e2 _ _ hp)), fun l hn => k _ _ (((e1.trans e2).trans e3).trans (same_new hn)) ⟨l, _, rfl, upd_same, (cut_A2 z lo hi).imp fun _ _ q => M.up ((e2.trans e3).trans (same_new hn)) q⟩⟩
end
theorem a_nOe {K : PySem.W.Frag} {G : Cells K} {ρ : Type} {R : Rs K ρ} {rv : Rp ρ} {o : Option ρ} {te : TE} (f : ∀ H v as b, R.rep H v b as → rv H v b) (h : Nw (nO K R) te G o) : Ev (rO rv) te G o := fun H0 σ H E Q k => h H0 σ H E Q fun v H' as e hn z => k v H' e (match o, z with
  | none, z => z.1
  | some _, z => f _ _ _ _ z)
theorem a_nOeL {K : PySem.W.Frag} {G : Cells K} {α : Type} {r : Rp α} {o : Option (List α)} {te : TE} (h : Nw (nO K (nl K r)) te G o) : Ev (rO (rL r)) te G o := a_nOe (fun _ _ _ _ z => vw_nl z) h
end
section
theorem unL {a b c d : Nat} (h : c ≤ b) (u : a + b < d) : a + c < d := Nat.lt_of_le_of_lt (Nat.add_le_add_left h _) u
theorem mb_chk {β : Type} {p : Prop} [Decidable p] {f : Unit → M β} {b : β} (h : mb (chk (decide p)) f = .ok b) : p ∧ f () = .ok b := by
  obtain ⟨u, h1, h2⟩ := mb_ok h
  exact ⟨of_decide_eq_true (chk_ok h1), h2⟩
theorem rtF {K : PySem.W.Frag} {β : Type} {r : Rp β} {H : Hp} {b : β} {Q : VK} (k : ∀ v H', Same H H' → r H' v b → Q v H') : RtOk (fz K r) H b { nx := fun _ H' => Q .non H', rt := Q } := fun v H' ⟨as, s, n, z⟩ => k v H' s z.2.now
theorem nxI {K : PySem.W.Frag} (H0 : Hp) {G : Cells K} : Nx H0 G (Have H0 G) := fun _ _ z => z
theorem hL {K : PySem.W.Frag} {H0 : Hp} {G G' : Cells K} {P : L2.St → Hp → Prop} (h : ∀ σ H, Have H0 G' σ H → P σ H) (s : Sub G G') : ∀ σ H, Have H0 G σ H → P σ H := fun σ H hv => h σ H (hv.less s)
theorem _root_.L2.Room.m {n m : Nat} {A : Around} (h : Room n A) (le : m ≤ n := by decide) : Room m A := h.mono le
theorem pa1 {X : Cx} {e : Expr} {te : TE} (h : PE X e te) (hs : starEach [e] X.env = (false, eval e X.env) :: starEach [] X.env := by rfl) : PA X [e] (tCons te tNil) := pa_cons h pa_nil hs
theorem pgN (i : Nat) {X : Cx} {x : Str} {pos : Pos} (hN : X.N.Nodup) (hi : X.N[i]? = some x := by rfl) (hx : Loc X.env.scope x := by first | exact Or.inl rfl | exact Or.inr rfl) (hf : X.fn x = true ∨ X.env.scope.names.lookup x = some .local := by first | exact .inl rfl | exact .inr rfl | assumption) : PG X (.Name x pos) (gName i) := pg_name hN hi hx hf
theorem psS (i : Nat) {X : Cx} {x : Str} {e : Expr} {te : TE} {pos pos' : Pos} (hN : X.N.Nodup) (he : PE X e te) (hi : X.N[i]? = some x := by rfl) (hx : Loc X.env.scope x := by first | exact Or.inl rfl | exact Or.inr rfl) (hs : swapsWith e (some (.Name x pos')) pos.line X.env = pure false := by rfl) (hf : X.fn x = true ∨ X.env.scope.names.lookup x = some .local := by first | exact .inl rfl | exact .inr rfl | assumption) :
    PS X (.Assign [.Name x pos'] e pos) (tAsg te (gName i)) := ps_set hN hi hx he hs hf
end
section
section
variable {K : PySem.W.Frag} {H0 H1 H2 H H' : Hp} {σ : L2.St} {G G' : Cells K} {α β : Type} {te ta tb : TE} {r : Rp α} {R : Rs K α} {i : Nat}
def nTR (K : PySem.W.Frag) {β : Type} (R : Rs K β) : Rs K (List β) where
  rep := fun H v xs as => ∃ a vs ss, as = ss.flatten ∧ v = .ref a ∧ SqD K H a vs ∧ A3 (R.rep H) vs xs ss
  stay := by
    rintro H H' v b as ⟨p, vs, ss, e, ev, h, z⟩ x k
    refine ⟨p, vs, ss, e, ev, x.d _ _ h, z.imp fun a b s hs w => ?_⟩
    exact R.stay w x fun q hq => k q (by rw [e]; exact List.mem_flatten.mpr ⟨s, hs, hq⟩)
  there := fun {H v b as} ⟨p, vs, ss, e, _, h, z⟩ q hq => by
    rw [e] at hq
    obtain ⟨k, s, hs, hq⟩ := flat_mem hq
    have hl : k < b.length := by rw [← z.lens]; exact (List.getElem?_eq_some_iff.mp hs).1
    obtain ⟨a, s', _, h3, h4⟩ := z.get (List.getElem?_eq_getElem hl)
    rw [hs] at h3
    cases h3
    exact R.there h4 q hq
instance {C : Addr} {F : RF K α} : Bor K (nTR K (nRec K C F)) (rT K (rRec K C F)) := ⟨fun ⟨a, vs, ss, _, ev, hp, z⟩ => ⟨a, vs, ev, hp, z.two.imp fun _ _ ⟨s, w⟩ => ⟨s, w⟩⟩⟩
def rEiV (K : PySem.W.Frag) {β : Type} (vs0 : List V) (r : Rp β) : Rp (List β) := fun H v xs => (∃ a, v = .ref a ∧ (H a = some (.lst vs0) ∨ SqD K H a vs0)) ∧ A2 (r H) vs0 xs
instance {vs0 : List V} [M : Mono r] : Mono (rEiV K vs0 r) := ⟨fun e ⟨⟨a, ev, h⟩, q⟩ => ⟨⟨a, ev, h.imp (e _ _) ((ext_same e).d _ _)⟩, q.imp fun _ _ z => M.up e z⟩⟩
def rTv (K : PySem.W.Frag) {β : Type} (vs0 : List V) (xs0 : List β) : Rp (List β) := fun H v xs => xs = xs0 ∧ ∃ a, v = .ref a ∧ SqD K H a vs0
instance {vs0 : List V} {xs0 : List β} : Frz K (rTv K vs0 xs0) := ⟨fun x ⟨e, a, ev, h⟩ => ⟨e, a, ev, x.d _ _ h⟩⟩
instance {vs0 : List V} {xs0 : List β} : Mono (rTv K vs0 xs0) := ⟨fun x ⟨e, a, ev, h⟩ => ⟨e, a, ev, (ext_same x).d _ _ h⟩⟩
end
theorem ev_newH1 {K : PySem.W.Frag} {α β : Type} {G : Cells K} {te : TE} {R : Rs K α} {R' : Rs K β} {q : Rp β} {x : α × β} (h : Nw (nH2 K R R') te G x) (B' : Bor K R' q) (M : Mono q) : Ev q (tOp (rIx K) te (tC (.int 1))) G x.2 := fun H0 σ H E Q c => h H0 σ H E _ fun v H1 as e1 _ ⟨p, a, b, s, t, _, ev, hp, _, h2⟩ => .inl ⟨p, [a, b], 1, b, ev, rfl, SqL.of hp, rfl, c b H1 e1 (B'.look h2)⟩
end
end Gt
namespace HotX
open PySem PySem.Spec PyProof.Rows
end HotX
namespace Gt
open PySem PySem.Spec PyProof.Rows L2
section
open PySem PySem.Spec PyProof.Rows L2
abbrev RunT := List (Str × List Str)
abbrev ToT := (Str × RunT × Unit) ⊕ (Str × Int × Option Str × Unit)
end
section
abbrev aTo1 (K : PySem.W.Frag) : Ra (Str × RunT × Unit) := aC rS (aC (rT K (rP K rS (rT K rS))) aN)
abbrev aTo2 : Ra (Str × Int × Option Str × Unit) := aC rS (aC rI (aC (rO rS) aN))
def rTo (K : PySem.W.Frag) : Rp ToT := fun H v z => match z with
  | .inl a => rJ K (aTo1 K) H v a
  | .inr b => rJ K aTo2 H v b
instance {K : PySem.W.Frag} : Mono (rTo K) := ⟨fun {H H' v z} e h => match z, h with
  | .inl _, h => Mono.up (r := rJ K (aTo1 K)) e h
  | .inr _, h => Mono.up (r := rJ K aTo2) e h⟩
def nTo (K : PySem.W.Frag) : Rs K ToT where
  rep := fun H v z as => match z with
    | .inl a => (nJ K (aTo1 K)).rep H v a as
    | .inr b => (nJ K aTo2).rep H v b as
  stay := fun {H H' v z as} h x k => match z, h with
    | .inl _, h => (nJ K (aTo1 K)).stay h x k
    | .inr _, h => (nJ K aTo2).stay h x k
  there := fun {H v z as} h p hp => match z, h with
    | .inl _, h => (nJ K (aTo1 K)).there h p hp
    | .inr _, h => (nJ K aTo2).there h p hp
section
variable {K : PySem.W.Frag} {H0 H1 H H' : Hp} {σ : L2.St} {G G' : Cells K} {α β γ : Type} {D : Ends} {z : ToT} {i : Nat} {ta te tf : TE} {t : TA}
theorem vw_nTo {v : V} {as : List Addr} (h : (nTo K).rep H v z as) : rTo K H v z := match z, h with
  | .inl _, h => vw_nJ h
  | .inr _, h => vw_nJ h
instance : Bor K (nTo K) (rTo K) := ⟨vw_nTo⟩
def datRunT : Dat K (rT K (rP K rS (rT K rS))) := datT (datP datS (datT datS))
def encTo (K : PySem.W.Frag) : ToT → PyData
  | .inl a => .list [(datS (K := K)).enc a.1, (datRunT (K := K)).enc a.2.1]
  | .inr b => .list [(datS (K := K)).enc b.1, (datI (K := K)).enc b.2.1, (datO (K := K)).enc b.2.2.1]
def datTo : Dat K (rTo K) where
  dec := by have := (datRunT (K := K)).dec; infer_instance
  enc := encTo K
  dep := (datRunT (K := K)).dep + 1
  dp := fun {H v z} h => match z, h with
    | .inl _, ⟨p, vs, ev, hp, v1, ws, es, q1, v2, ws2, es2, q2, es3⟩ => by
      rw [ev]
      refine .lst (SqL.of hp) ?_
      rw [es, es2, show ws2 = [] from es3]
      exact .cons (datS.dp q1) (.cons (datRunT.dp q2) .nil)
    | .inr _, ⟨p, vs, ev, hp, v1, ws, es, q1, v2, ws2, es2, q2, v3, ws3, es3, q3, es4⟩ => by
      rw [ev]
      refine .lst (SqL.of hp) ?_
      rw [es, es2, es3, show ws3 = [] from es4]
      exact .cons (datS.dp q1) (.cons (datI.dp q2) (.cons (datO.dp q3) .nil))
  lay := fun {H v z} h => match z, h with
    | .inl _, ⟨p, vs, ev, hp, v1, ws, es, q1, v2, ws2, es2, q2, es3⟩ => by
      show (PyData.list _).canLay0 = true
      simp [PyData.canLay0, PyData.canLayAll0, datS.lay q1, (datRunT (K := K)).lay q2]
    | .inr _, ⟨p, vs, ev, hp, v1, ws, es, q1, v2, ws2, es2, q2, v3, ws3, es3, q3, es4⟩ => by
      show (PyData.list _).canLay0 = true
      simp [PyData.canLay0, PyData.canLayAll0, datS.lay q1, (datI (K := K)).lay q2, (datO (K := K)).lay q3]
  dpt := fun z => match z with
    | .inl a => by
      have h1 := (datS (K := K)).dpt a.1
      have h2 := (datRunT (K := K)).dpt a.2.1
      have e1 : (datS (K := K)).dep = 0 := rfl
      show (PyData.list _).depth ≤ _
      simp only [PyData.depth, PyData.depthAll]
      omega
    | .inr b => by
      have h1 := (datS (K := K)).dpt b.1
      have h2 := (datI (K := K)).dpt b.2.1
      have h3 := (datO (K := K)).dpt b.2.2.1
      have e1 : (datS (K := K)).dep = 0 := rfl
      have e2 : (datI (K := K)).dep = 0 := rfl
      have e3 : (datO (K := K)).dep = 0 := rfl
      show (PyData.list _).depth ≤ _
      simp only [PyData.depth, PyData.depthAll]
      omega
  eqv := fun a b => by
    have d1 := (datS (K := K)).eqv
    have d2 := (datRunT (K := K)).eqv
    have d3 := (datI (K := K)).eqv
    have d4 := (datO (K := K)).eqv
    have := (datRunT (K := K)).dec
    cases a with
    | inl a =>
      obtain ⟨a1, a2, _⟩ := a
      cases b with
      | inl b =>
        obtain ⟨b1, b2, _⟩ := b
        show PyData.eqv (.list _) (.list _) = _
        simp only [PyData.eqv, PyData.eqvAll, d1, d2, Bool.and_true]
        by_cases h1 : a1 = b1 <;> by_cases h2 : a2 = b2 <;> simp [h1, h2]
      | inr b =>
        show PyData.eqv (.list _) (.list _) = _
        simp [PyData.eqv, PyData.eqvAll]
    | inr a =>
      obtain ⟨a1, a2, a3, _⟩ := a
      cases b with
      | inl b =>
        show PyData.eqv (.list _) (.list _) = _
        simp [PyData.eqv, PyData.eqvAll]
      | inr b =>
        obtain ⟨b1, b2, b3, _⟩ := b
        show PyData.eqv (.list _) (.list _) = _
        simp only [PyData.eqv, PyData.eqvAll, d1, d3, d4, Bool.and_true]
        by_cases h1 : a1 = b1 <;> by_cases h2 : a2 = b2 <;> by_cases h3 : a3 = b3 <;> simp [h1, h2, h3]
instance : DatN K (rTo K) 8 := ⟨datTo, by show (datRunT (K := K)).dep + 1 ≤ 8; simp [datRunT, datT, datP, datS]⟩
end
end
end Gt
namespace L2H
open PySem PySem.Spec PyProof.Rows L2 HotX
theorem RoomH.m {n m : Nat} {A : Around} (h : RoomH n A) (le : m ≤ n := by decide) : RoomH m A := h.mono le
end L2H
namespace HotX
open PySem PySem.Spec PyProof.Rows
end HotX
namespace Gt
open PySem PySem.Spec PyProof.Rows L2
section
open PySem PySem.Spec PyProof.Rows L2
end
section
structure DatA (K : PySem.W.Frag) {α : Type} (A : Ra α) where
  dec : DecidableEq α
  encs : α → List PyData
  dep : Nat
  dp : ∀ {H : Hp} {vs : List V} {a : α}, A H vs a → DpAll K H vs (encs a)
  lay : ∀ {H : Hp} {vs : List V} {a : α}, A H vs a → PyData.canLayAll0 (encs a) = true
  dpt : ∀ a, PyData.depthAll (encs a) ≤ dep
  eqv : ∀ a b, PyData.eqvAll (encs a) (encs b) = decide (a = b)
section
variable {K : PySem.W.Frag} {α β : Type} {r : Rp α} {A : Ra β}
def datAN : DatA K aN where
  dec := inferInstance
  encs := fun _ => []
  dep := 0
  dp := fun h => by rw [show _ = [] from h]; exact .nil
  lay := fun _ => by simp [PyData.canLayAll0]
  dpt := fun _ => by simp [PyData.depthAll]
  eqv := fun _ _ => by simp [PyData.eqvAll]
def datAC (D : Dat K r) (E : DatA K A) : DatA K (aC r A) where
  dec := by have := D.dec; have := E.dec; infer_instance
  encs := fun p => D.enc p.1 :: E.encs p.2
  dep := max D.dep E.dep
  dp := fun ⟨v, ws, e, h, t⟩ => by rw [e]; exact .cons (D.dp h) (E.dp t)
  lay := fun ⟨v, ws, e, h, t⟩ => by simp [PyData.canLayAll0, D.lay h, E.lay t]
  dpt := fun b => by
    have h1 := D.dpt b.1
    have h2 := E.dpt b.2
    simp only [PyData.depthAll]
    omega
  eqv := fun a b => by
    obtain ⟨a1, a2⟩ := a
    obtain ⟨b1, b2⟩ := b
    simp only [PyData.eqvAll, D.eqv, E.eqv]
    have := D.dec; have := E.dec
    by_cases h1 : a1 = b1 <;> by_cases h2 : a2 = b2 <;> simp [h1, h2]
def datW (E : DatA K A) : Dat K (rW K A) where
  dec := E.dec
  enc := fun p => .tuple (E.encs p)
  dep := E.dep + 1
  dp := fun ⟨a, vs, ev, h, z⟩ => by rw [ev]; exact .tup h (E.dp z)
  lay := fun ⟨a, vs, ev, h, z⟩ => by simp only [PyData.canLay0]; exact E.lay z
  dpt := fun b => by simp only [PyData.depth]; have := E.dpt b; omega
  eqv := fun a b => by simp only [PyData.eqv]; exact E.eqv a b
end
class DatNA (K : PySem.W.Frag) {β : Type} (A : Ra β) (n : outParam Nat) : Prop where
  ex : ∃ D : DatA K A, D.dep ≤ n
instance {K : PySem.W.Frag} : DatNA K aN 0 := ⟨datAN, Nat.le_refl _⟩
instance {K : PySem.W.Frag} {α β : Type} {r : Rp α} {A : Ra β} {n m : Nat} [d : DatN K r n] [e : DatNA K A m] : DatNA K (aC r A) (n + m) := ⟨let ⟨D, h⟩ := d.ex; let ⟨E, h'⟩ := e.ex; ⟨datAC D E, by show max D.dep E.dep ≤ _; omega⟩⟩
instance {K : PySem.W.Frag} {β : Type} {A : Ra β} {n : Nat} [e : DatNA K A n] : DatN K (rW K A) (n + 1) := ⟨let ⟨E, h⟩ := e.ex; ⟨datW E, Nat.succ_le_succ h⟩⟩
end
section
end
section
section
variable {K : PySem.W.Frag} {H0 H1 H2 H H' : Hp} {σ : L2.St} {G G' : Cells K} {α β γ : Type} {D : Ends} {u : TS} {te ta tb : TE} {r : Rp α} {R : Rs K α} {a b : α} {i j : Nat} {x : α}
def rTop : Rp Unit := fun _ _ _ => True
instance : Frz K rTop := ⟨fun _ h => h⟩
instance : Mono rTop := ⟨fun _ h => h⟩
end
end
end Gt
namespace HotX
open PySem PySem.Spec PyProof.Rows
section
variable {prog : Program} {w : World} {A : Around} {E : Value → Shared → Prop} {s : Shared}
theorem HotAt.keep {x1 : Addr} {h h' : Heap} (z : HotAt A x1 h) (k : ∀ o, h.get? x1 = some o → h'.get? x1 = some o) : HotAt A x1 h' := by
  obtain ⟨hh, o, vs, e, d, c⟩ := z
  exact ⟨hh, o, vs, k o e, d, c⟩
end
end HotX
namespace Gt
open PySem PySem.Spec PyProof.Rows L2
section
open PySem PySem.Spec PyProof.Rows L2
end
section
end
section
abbrev SpP := Addr × Obj → Sp
section
variable {P : Program} {w : World} {K : PySem.W.Frag} {mg : Str → Option Value} {base : Heap}
structure FnHP (P : Program) (w : World) (K : PySem.W.Frag) (mg : Str → Option Value) (base : Heap) (k : Nat) (f : Addr) (fd : FuncData) (ps : List Str) (sp : SpP) : Prop where
  len : ∀ p vs H Q E, sp p vs H Q E → vs.length = ps.length
  run : ∀ (A : Around) (outer : List PySem.Env) (s : Shared) (H : Hp) (args : Args) (us : List Value) (vs : List V) (Q : VK) (E : XK) (p : Addr × Obj), L2H.RoomH k A → L2H.Hot1 A p → L2H.PinOk outer H s p → Env0 P w K mg base A outer s H → BindsTo s fd args (ps.zip us) → Vals vs us → sp p vs H Q E →
    codeAny (model P w) A (.call (.ref f) args) (CR CX0 outer P w H s Q E) s
theorem fnHP_of {k : Nat} {f : Addr} {name : Str} {params : Arguments} {body : List Stmt} {scope : Scope} {dV kV doc pm cdv ct oc : Value} {an od : Option Addr} {osl : Array (Option Value)} {N ps : List Str} {sp : SpP}
    (lk : K.lookup f = some ⟨oc, od, .func (PySem.W.fnOf name name params body scope dV kV doc pm an cdv ct), osl⟩) (hcd : PySem.W.codeIn K cdv name = true) (S : FnScope N ps scope) (len : ∀ p vs H Q E, sp p vs H Q E → vs.length = ps.length)
    (hb : ∀ (A : Around) (outer : List PySem.Env) (s : Shared) (H : Hp) (vs : List V) (Q : VK) (E : XK) (p : Addr × Obj), L2H.Hot1 A p → L2H.RoomH k (A.deeper (envOfC name scope s.heap.objs.size f cdv)) → sp p vs H Q E →
      ∃ t, PSs (L2H.cxH CX0 P w K mg base N name scope f cdv A outer s H E p) body t ∧ t { nx := fun _ H' => Q .non H', rt := Q } (L2.start N vs) H) :
    FnHP P w K mg base (k + 1) f (PySem.W.fnOf name name params body scope dV kV doc pm an cdv ct) ps sp := by
  refine ⟨len, fun A outer s H args us vs Q E p room hot pin e0 bd vals hsp => ?_⟩
  have kin : K.In s.heap := e0.mod.kin.keeps fun b o e => (e0.bs b o e).1
  have named : ∀ y ∈ ps.zip us, scope.names.lookup y.1 = some .local ∨ (scope.names.lookup y.1 = some .cell ∧ ((cellsFrom (s.heap.objs.size + 1) scope.names []).lookup y.1).isSome = true) := fun y hy =>
    (S.par y.1 (List.of_mem_zip (show (y.1, y.2) ∈ ps.zip us from hy)).1).imp id fun q => ⟨q, PySem.W.cellsFrom_some _ _ _ (.inl q)⟩
  refine codeAny_call_function room.depth (kin _ _ lk) rfl S.co S.gen rfl (PySem.W.codeRec_of kin hcd) (bd _ _ _ _ (wpAny_newFunctionEnv_cells S.kind named fun env he s1 x => ?_))
  subst he
  obtain ⟨t, ht, hq⟩ := hb A outer s H vs Q E p hot (room.deeper _) hsp
  refine ⟨(e0.mod.nolimit.keeps fun b o e => (e0.bs b o e).1).keeps x.toInCall.keep, codeAny_func (wpAny_mono (ht.run [] s1 (L2.start N vs) H _ (L2H.inv_startH S pin e0 (len _ _ _ _ _ hsp) vals x) hq) (fun fl s' z => ?_) fun _ _ z => z)⟩
  match fl, z with
  | .ret u, ⟨v, σ', H', J, rv, q⟩ => exact ⟨v, H', J.os, J.bare, J.base, J.hok, rv, q⟩
  | .next, ⟨σ', H', J, q⟩ => exact ⟨V.non, H', J.os, J.bare, J.base, J.hok, rfl, q⟩
  | .brk, ⟨_, _, _, q⟩ => exact q.elim
  | .cont, ⟨_, _, _, q⟩ => exact q.elim
end
structure CalHP (P : Program) (w : World) (K : PySem.W.Frag) (mg : Str → Option Value) (base : Heap) (x : Str) (k : Nat) (ps : List Str) (sp : SpP) : Prop where
  ex : ∃ (f : Addr) (fd : FuncData), FnHP P w K mg base k f fd ps sp ∧ mg x = some (.ref f) ∧ PySem.W.keepIn K (.ref f) = true ∧ Binds K fd ps []
theorem suite_self {X : Cx} {p : Addr × Obj} (hot : L2H.Hot1 X.A p) (hc : X.calm = false) (hp : X.pn = [p]) : X.suite p.1 [(p.1, p.2)] = X.nox := by
  have e : X.A.mark (some (.ref p.1)) = X.A := by
    have := hot.1
    cases hA : X.A with
    | mk h d f g u =>
      rw [hA] at this
      have this : h = some (.ref p.1) := this
      subst this
      rfl
  show ({ X with A := X.A.mark (some (.ref p.1)), calm := false, pn := [p], xe := fun _ _ => False } : Cx) = { X with xe := fun _ _ => False }
  rw [e, ← hc, ← hp]
section
variable {P : Program} {w : World} {K : PySem.W.Frag} {mg : Str → Option Value} {base : Heap}
def spE (K : PySem.W.Frag) (C : Addr) (sp : Addr → Addr → Sp) : SpP := fun p vs H Q E => ∃ dd, L2N.Zn (.ref C) (some dd) p.2 ∧ (∃ fs, p.2.data = .fields fs) ∧ sp p.1 dd vs H Q E
theorem calHP_of {x : Str} {st : Stmt} {N ps : List Str} {k : Nat} {C : Addr} {sp : Addr → Addr → Sp} (F : Df K mg x st) (S : FnScope N ps (defScope st)) (len : ∀ a d vs H Q E, sp a d vs H Q E → vs.length = ps.length)
    (hb : ∀ (kV doc pm : Value) (an : Option Addr) (cdv ct : Value) (us : List Value), us.length = ps.length → bindArgs (PySem.W.fnOf x x (defArgs st) (defBody st) (defScope st) .none kV doc pm an cdv ct) ⟨us, []⟩ = pure (ps.zip us))
    (hbody : ∀ (cdv : Value) (f : Addr) (A : Around) (outer : List PySem.Env) (s : Shared) (H : Hp) (vs : List V) (Q : VK) (E : XK) (a dd : Addr) (oe : Obj), L2N.Zn (.ref C) (some dd) oe → (∃ fs, oe.data = .fields fs) → L2H.RoomH k ((L2H.cxH CX0 P w K mg base N x (defScope st) f cdv A outer s H E (a, oe)).suite a [(a, oe)]).A → sp a dd vs H Q E →
      ∃ t, PSs ((L2H.cxH CX0 P w K mg base N x (defScope st) f cdv A outer s H E (a, oe)).suite a [(a, oe)]) (defBody st) t ∧ t { nx := fun _ H' => Q .non H', rt := Q } (start N vs) H) : CalHP P w K mg base x (k + 1) ps (spE K C sp) := by
  obtain ⟨f, fd, F, g⟩ := F.ex
  have hk := F.kp
  have hbi := F.binds hb
  obtain ⟨oc, od, kV, doc, pm, an, cdv, ct, osl, rfl, lk, hcd⟩ := F.ex
  refine ⟨f, _, fnHP_of lk hcd S (fun p vs H Q E ⟨_, _, _, z⟩ => len _ _ _ _ _ _ z) fun A outer s H vs Q E p hot hr ⟨dd, hz, hf, z⟩ => ?_, g, hk, hbi⟩
  have e := suite_self (X := L2H.cxH CX0 P w K mg base N x (defScope st) f cdv A outer s H E p) (p := p) ⟨hot.1, hot.2⟩ rfl rfl
  obtain ⟨t, ht, q⟩ := hbody cdv f A outer s H vs Q E p.1 dd p.2 hz hf (by rw [e]; exact hr) z
  rw [e] at ht
  exact ⟨t, ht.nox, q⟩
end
def tCallE (a : Addr) (cls : Value) (d : Option Addr) (C : Addr) (sp : Addr → Addr → Sp) (t : TA) : TE := fun σ H Q => t σ H fun vs H1 => cls = .ref C ∧ ∃ dd, d = some dd ∧ sp a dd vs H1 Q fun _ _ _ => False
section
variable {X : Cx} {x : Str} {k : Nat} {ps : List Str} {C : Addr} {sp : Addr → Addr → Sp} {q pos : Pos} {e : Expr} {es : List Expr} {t : TA} {a : Addr} {oe : Obj} {cls : Value} {d : Option Addr} {pn : List (Addr × Obj)}
theorem pe_fnHE0 (D : CalHP X.prog X.w X.K X.mg X.base x k ps (spE X.K C sp)) (hr : L2H.RoomH k X.A) (hot : L2H.Hot1 X.A (a, oe)) (hp : (a, oe) ∈ X.pn) (hz : L2N.Zn cls d oe) (hf : ∃ vs, oe.data = .fields vs) (ha : PA X (e :: es) t) (hg : Gl X x) (hdb : (x == ("__debug__" : Str)) = false)
    (he : starEach (e :: es) X.env = (false, eval e X.env) :: starEach es X.env) (hpl : (backTo pos (starEach es X.env)).any (·.1) = false) : PE X (.Call (.Name x q) (e :: es) [] pos) (tCallE a cls d C sp t) := by
  obtain ⟨f, fd, F, hm, hk, hb⟩ := D.ex
  refine ⟨fun pins s σ H Q I h => wpAny_Call_Name_kw (ld_glob I hg hm ?_ hdb)⟩
  refine PySem.W.callWith_K (h₀ := X.base) I.ok.mod.kin hk (thn (ha.run pos pins s σ H _ I h) fun us s1 ⟨vs, H1, I1, r, ec, dd, ed, z⟩ => ⟨I1.kIn, ?_⟩) he hpl
  subst ec ed
  have z : spE X.K C sp (a, oe) vs H1 Q fun _ _ _ => False := ⟨dd, hz, hf, z⟩
  have bd := hb s1 us I1.kIn (by rw [List.append_nil, ← r.length]; exact F.len _ _ _ _ _ z)
  rw [List.append_nil] at bd
  have pin := I1.pin (a, oe) (List.mem_append_left _ hp)
  refine wpAny_call (codeAny_mono (F.run X.A X.stack s1 H1 ⟨us, []⟩ us vs Q _ (a, oe) hr hot ⟨pin.1, pin.2.1, fun hm => (List.mem_cons.mp (I1.stkSub a hm)).elim pin.2.2.1 pin.2.2.2.1, pin.2.2.2.2⟩ I1.env0 bd r z) fun r s' c => ?_)
  match r, c with
  | .error e, c => exact c.elim
  | .ok (.ret u), c => exact I1.after c
  | .ok .next, c => exact c.elim
  | .ok .brk, c => exact c.elim
  | .ok .cont, c => exact c.elim
theorem pe_fnHE (D : CalHP X.prog X.w X.K X.mg X.base x k ps (spE X.K C sp)) (hr : L2H.RoomH k (X.suite a ((a, oe) :: pn)).A) (hz : L2N.Zn cls d oe) (hf : ∃ vs, oe.data = .fields vs) (ha : PA (X.suite a ((a, oe) :: pn)) (e :: es) t) (hg : Gl (X.suite a ((a, oe) :: pn)) x := by rfl) (hdb : (x == ("__debug__" : Str)) = false := by decide)
    (he : starEach (e :: es) (X.suite a ((a, oe) :: pn)).env = (false, eval e (X.suite a ((a, oe) :: pn)).env) :: starEach es (X.suite a ((a, oe) :: pn)).env := by rfl) (hpl : (backTo pos (starEach es (X.suite a ((a, oe) :: pn)).env)).any (·.1) = false := by rfl) : PE (X.suite a ((a, oe) :: pn)) (.Call (.Name x q) (e :: es) [] pos) (tCallE a cls d C sp t) := by
  obtain ⟨vf, ef⟩ := hf
  exact pe_fnHE0 (X := X.suite a ((a, oe) :: pn)) D hr ⟨rfl, vf, ef, hz.2.2 vf ef⟩ List.mem_cons_self hz ⟨vf, ef⟩ ha hg hdb he hpl
end
end
section
end
end Gt
namespace Gt
open PySem PySem.Spec PyProof.Rows L2
section
open PySem PySem.Spec PyProof.Rows L2 PySem.W PySem.Calls PySem.HandSPX
end
section
end
section
end
section
end
section
end
section
end
end Gt
namespace Gt
open PySem PySem.Spec PyProof.Rows L2 GenW
end Gt
namespace Gt
open PySem PySem.Spec PyProof.Rows L2 GenW
section
variable {K : PySem.W.Frag} {α β S : Type}
def HaveY (q : Rp β) (H0 : Hp) (xs : List β) (G : Cells K) (ys : List V) (σ : L2.St) (H : Hp) : Prop := ∃ H1, Same H0 H1 ∧ Env H1 σ H G ∧ A2 (Stb K q H1) ys xs
def Gv (q : Rp β) (H0 : Hp) (xs : List β) (G : Cells K) (t : TGn) (D : GEnds) : Prop := ∀ ys σ H, HaveY q H0 xs G ys σ H → t D ys σ H
variable {q : Rp β} {H0 : Hp} {xs : List β} {G G' : Cells K} {t : TS} {u : TGn} {D : GEnds} {te : TE} {tc : TT} {tb tl : TGn} {wi : TI} {g : TG} {r : Rp α}
theorem HaveY.less (h0 : Sub G G') {ys : List V} {σ : L2.St} {H : Hp} (h : HaveY q H0 xs G ys σ H) : HaveY q H0 xs G' ys σ H := let ⟨H1, s, E, z⟩ := h; ⟨H1, s, E.less h0, z⟩
theorem Gv.run {σ : L2.St} (s : Gv q H0 [] G u D) (p : Pw H0 σ G) : u D [] σ H0 := s [] σ H0 ⟨H0, Same.refl H0, p.env, .nil⟩
end
end Gt
namespace Gt
open PySem PySem.Spec PyProof.Rows L2 GenW
end Gt
namespace L2H
open PySem PySem.Spec PyProof.Rows L2 HotX
abbrev blkH (X : Cx) (s : Shared) (H : Hp) (scope : Scope) (ce : Env) (fp : List Addr) : Cx := { X.blk s H scope ce fp with pn := X.pn }
section
variable {X Y : Cx} {pins : List (Addr × Obj)} {σ : St} {H : Hp} {s : Shared} {tg : Expr} {J : It} {fp : List Addr} {it : Addr} {tn : Nat → Heap → Prop}
theorem TurnH.back {P : Program} {w : World} {K : PySem.W.Frag} (T : TurnH P w K tg J fp it tn) {j : Nat} {s1 s' : Shared} {σ' : St} {H' : Hp} (st : tn j s1.heap) (I : Inv Y (pins ++ pinsAt fp s1.heap) σ' H' s') :
    Inv Y pins σ' H' s' ∧ tn j s'.heap ∧ ∀ b ∈ fp, H' b = none := by
  have still : ∀ b ∈ fp, ∀ o, s1.heap.get? b = some o → s'.heap.get? b = some o ∧ H' b = none := fun b hb o e => by
    have z := I.pin (b, o) (List.mem_append_right _ (List.mem_append_right _ (mem_pinsAt hb e)))
    exact ⟨z.1, z.2.1⟩
  refine ⟨I.unpinned, T.keep _ _ _ st fun b hb o e => (still b hb o e).1, fun b hb => ?_⟩
  obtain ⟨o, e, _⟩ := T.obj _ _ st b hb
  exact (still b hb o e).2
theorem TurnH.turn (T : TurnH Y.prog Y.w Y.K tg J fp it tn) (hc : HotC Y) {g : TG} (pg : PG Y tg g) (hx : Y.xe = fun _ _ => False) {i : Nat} (I : Inv Y pins σ H s) (st : tn i s.heap) (fo : ∀ b ∈ fp, FpOk Y pins H b)
    {Z : Shared → Prop} {Z2 : Unit → Shared → Prop} {E : Value → Shared → Prop}
    (h : (J.stop i H ∧ ∀ s1, Inv Y pins σ H s1 → Z s1) ∨ (J.go i H ∧ ∃ C : St → Hp → Prop, (∀ x H', J.yld i H x H' → g x σ H' C) ∧ ∀ (s7 s8 : Shared) (σ8 : St) (H8 : Hp), tn (i + 1) s7.heap → Inv Y (pins ++ pinsAt fp s7.heap) σ8 H8 s8 → C σ8 H8 → Z2 () s8)) :
    wpAny (model Y.prog Y.w) Y.A (pyNext (.ref it)) (fun r s₁ => match r with
      | none => Z s₁
      | some v => wpAny (model Y.prog Y.w) Y.A (letOwnedTupleGo tg (.ref it) v) (fun _ s₁' => wpAny (model Y.prog Y.w) Y.A (assign tg Y.env v) Z2 E s₁') E s₁) E s := by
  rcases h with ⟨stop, z⟩ | ⟨go, C, hg, z⟩
  · refine thnF (T.done Y rfl rfl rfl hc i pins s σ H (fun _ _ => False) I fo st stop) fun r s1 ⟨e, I1⟩ => ?_
    subst e
    exact z s1 I1
  · refine thnF (T.item Y rfl rfl rfl hc i pins s σ H (fun _ _ => False) I fo st go) fun r s1 ⟨u, e, h1⟩ => ?_
    subst e
    refine thnF h1 fun _ s7 ⟨x, H7, I7, r7, y7, st7, n7⟩ => ?_
    have I7' := I7.pinned (fun b hb => ⟨n7 b hb, (fo b hb).2⟩) (T.obj _ _ st7)
    have a := pg.run _ s7 σ H7 x u C I7' r7 (hg x H7 y7)
    rw [hx] at a
    exact thnF a fun _ s8 ⟨σ8, H8, I8, c8⟩ => z s7 s8 σ8 H8 st7 I8 c8
structure Opn (X : Cx) (pins : List (Addr × Obj)) (σ : St) (vs : List Nat) (scope : Scope) (fp : List Addr) (tn : Nat → Heap → Prop) (H3 : Hp) (s3 s4 : Shared) (ce : Env) : Prop where
  env : ∃ cl, ce = compEnvC scope cl s3.heap.objs.size X.env
  out : Inv X pins σ H3 s3
  ins : Inv (blkH X s3 H3 scope ce fp) [] (wipe σ vs) H3 s4
  fp : ∀ b ∈ fp, FpOk X pins H3 b ∧ b < s3.heap.objs.size
  tn : tn 0 s4.heap
variable {vs : List Nat} {scope : Scope} {H3 : Hp} {s3 s4 : Shared} {ce : Env}
theorem Opn.fo (O : Opn X pins σ vs scope fp tn H3 s3 s4 ce) {H' : Hp} (hn : ∀ b ∈ fp, H' b = none) : ∀ b ∈ fp, FpOk (blkH X s3 H3 scope ce fp) [] H' b := fun b hb =>
  ⟨hn b hb, (O.ins.ok.exf b hb).1, O.ins.ok.exfs b hb, .inl hb, (O.ins.ok.exf b hb).2, fun p hp => (O.fp b hb).1.2.2.2.2.2 p ((List.mem_append.mp hp).elim (fun q => List.mem_append_left _ q) fun q => nomatch q)⟩
theorem Opn.shut (O : Opn X pins σ vs scope fp tn H3 s3 s4 ce) {pins' : List (Addr × Obj)} {σ' : St} {H' : Hp} {s' : Shared} (I : Inv (blkH X s3 H3 scope ce fp) pins' σ' H' s') : Inv X pins σ H' s' ∧ (∃ m, s'.heap.Ns s3.heap.objs.size m) ∧ FpOk X pins H' s3.heap.objs.size := by
  obtain ⟨cl, e⟩ := O.env
  subst e
  obtain ⟨m, hn, _⟩ := I.loc
  exact ⟨O.out.call' (ch := fp) I.os I.base I.hok I.bare fun b hb => let z := (O.fp b hb).1; ⟨z.2.2.2.1, z.2.1, z.2.2.2.2.1, z.2.2.2.2.2⟩, ⟨m, hn⟩, O.out.fpOk (Nat.le_refl _) I.free⟩
theorem open_lcH {e : Expr} {gs : List Comprehension} {iter : Expr} {ifs : List Expr} {own : List (Str × Nat)} {pos' : Pos} {wi : TI} {use : Option (Value → Sem Unit)} {Qf : Value → Shared → Prop} (hcl : clausesOf e = ⟨tg, iter, ifs, 0⟩ :: gs)
    (hN : X.N.Nodup) (I : Inv X pins σ H s) (hi : PIH X tg iter wi) (ok : BlkOk X.N X.env.scope scope own) (hs : ∀ x, foldedSetIterable iter X.env x = pure x) {R : It → Hp → Prop} (h : wi σ H R)
    (k : ∀ (it : Addr) (fp : List Addr) (tn : Nat → Heap → Prop) (J : It) (H2 : Hp) (D : Addr) (s3 s4 : Shared) (ce : Env), TurnH X.prog X.w X.K tg J fp it tn → R J H2 → H2 D = none → Opn X pins σ (own.map (·.2)) scope fp tn (upd H2 D (.lst [])) s3 s4 ce →
      codeAny (model X.prog X.w) X.A (.compStart e 0 (.ref it) (.ref D) ce) (compPost (model X.prog X.w) X.A X.xe use Qf (.ref D) s3.heap.objs.size) s4) :
    wpAny (model X.prog X.w) X.A (comprehension e scope X.env pos' (newList []) false (eval iter X.env) use) Qf X.xe s := by
  refine wpAny_comprehension_free hcl hs (closure_ok fun y hy q => (ok.free y hy q).elim (fun z => I.ok.has _ (.inl z)) fun z => I.ok.has _ (.inr z)) ok.kind (fun y hy q => by rw [ok.uniq y hy, q])
    (thn (hi.run pins s σ H _ I h) fun v s1 h1 => thn h1 fun itv s2 ⟨it, fp, tn, J, H2, ei, I2, T, st2, f2, r⟩ => ?_)
  subst ei
  have n2 : H2 s2.heap.objs.size = none := I2.hok.fresh (Nat.le_refl _)
  refine wpAny_newObj_type (newEnv_comp ?_) (by show 0 ≤ sizeLine; decide)
  have I3 : Inv X pins σ (upd H2 s2.heap.objs.size (.lst [])) { s2 with heap := s2.heap.push { cls := .type "list", data := .seq ([] : List Value).toArray } } :=
    I2.laid (t' := s2.toks) (fun b o q => Heap.get?_push_of_some _ q) (Nat.le_refl _) ⟨Nat.zero_le _, [], 0, .nil, Heap.get?_push_size _ rfl⟩
  have f3 : ∀ b ∈ fp, FpOk X pins (upd H2 s2.heap.objs.size (.lst [])) b ∧ b < (s2.heap.push { cls := .type "list", data := .seq ([] : List Value).toArray }).objs.size := fun b hb => by
    obtain ⟨o, q, _⟩ := T.obj _ _ st2 b hb
    have lt := Heap.lt_size q
    exact ⟨⟨(upd_ne (Nat.ne_of_lt lt)).trans (f2 b hb).1, (f2 b hb).2⟩, by rw [Heap.size_push]; exact Nat.lt_succ_of_lt lt⟩
  refine k it fp tn J H2 s2.heap.objs.size _ _ _ T r n2 ⟨⟨_, rfl⟩, I3, ?_, f3, T.keep _ _ _ st2 fun b _ o q => pushCells_keeps _ _ _ _ (Heap.get?_push_of_some _ (Heap.get?_push_of_some _ q))⟩
  have B := block_start I3 ok hN f3
  refine ⟨⟨B.ok.mod, B.ok.kind, B.ok.glob, B.ok.blt, B.ok.above, B.ok.inj, B.ok.has, B.ok.cab, B.ok.hd, B.ok.frames, B.ok.stk, B.ok.exf, B.ok.bs, B.ok.bsz, B.ok.noex, B.ok.exfs, B.ok.funs, B.ok.frf⟩,
    B.os, B.bare, B.base, B.loc, B.cell, B.free, B.freeC, fun p hp => ?_, B.hok, B.len⟩
  obtain ⟨h1, h2, h3, h4, h5⟩ := I3.pin p (List.mem_append_left _ ((List.mem_append.mp hp).elim id fun q => nomatch q))
  exact ⟨pushCells_keeps _ _ _ _ (Heap.get?_push_of_some _ h1), h2, Nat.ne_of_lt (Heap.lt_size h1), fun z => (List.mem_cons.mp (I3.stkSub p.1 z)).elim h3 h4, h5⟩
end
section
variable {X : Cx} {elt tg iter tg1 iter1 : Expr} {ifs ifs1 : List Expr} {scope : Scope} {own : List (Str × Nat)} {vs1 : List Nat} {pos : Pos} {wi wi1 : TI} {g g1 : TG} {tt tt1 : TT} {te : TE}
theorem lcH {pins : List (Addr × Obj)} {s : Shared} {σ : St} {H : Hp} {Q : VK} {pos' : Pos} {use : Option (Value → Sem Unit)} {Qf : Value → Shared → Prop} (hc : HotC X) (hN : X.N.Nodup) (hi : PIH X tg iter wi) (ok : BlkOk X.N X.env.scope scope own)
    (hg : ∀ (s : Shared) (H : Hp) (C : Addr) (cl : List (Str × Addr)) (fp : List Addr), PG (blkH X s H scope (compEnvC scope cl C X.env) fp) tg g) (ht : ∀ (s : Shared) (H : Hp) (C : Addr) (cl : List (Str × Addr)) (fp : List Addr), PTs (blkH X s H scope (compEnvC scope cl C X.env) fp) ifs tt)
    (he : ∀ (s : Shared) (H : Hp) (C : Addr) (cl : List (Str × Addr)) (fp : List Addr), PE (blkH X s H scope (compEnvC scope cl C X.env) fp) elt te) (hs : ∀ x, foldedSetIterable iter X.env x = pure x) (I : Inv X pins σ H s) (h : tLc wi g tt te (own.map (·.2)) σ H Q)
    (fin : ∀ (D C : Addr) (s' : Shared) (m : Str → Option Value) (H' : Hp), Inv X pins σ H' s' → Q (.ref D) H' → s'.heap.Ns C m → FpOk X pins H' C → compPost (model X.prog X.w) X.A X.xe use Qf (.ref D) C (.ok .next) s') :
    wpAny (model X.prog X.w) X.A (comprehension (.ListComp elt [⟨tg, iter, ifs, 0⟩] scope pos) scope X.env pos' (newList []) false (eval iter X.env) use) Qf X.xe s := by
  refine open_lcH rfl hN I hi ok hs h fun it fp tn J H2 D s3 s4 ce T q hD O => ?_
  obtain ⟨W, ⟨m0, w0⟩, turn⟩ := q D hD
  obtain ⟨cl, ec⟩ := O.env
  have pg := hg s3 (upd H2 D (.lst [])) s3.heap.objs.size cl fp
  have pt := ht s3 (upd H2 D (.lst [])) s3.heap.objs.size cl fp
  have pe := he s3 (upd H2 D (.lst [])) s3.heap.objs.size cl fp
  rw [← ec] at pg pt pe
  have loop : codeAny (model X.prog X.w) X.A (.compLoop (.ListComp elt [⟨tg, iter, ifs, 0⟩] scope pos) 0 (.ref it) (.ref D) ce) (compPost (model X.prog X.w) X.A X.xe use Qf (.ref D) s3.heap.objs.size) s4 := by
    refine compLoop_any (fun n s' => ∃ i H', Inv (blkH X s3 (upd H2 D (.lst [])) scope ce fp) [] (wipe σ (own.map (·.2))) H' s' ∧ tn i s'.heap ∧ (∀ b ∈ fp, H' b = none) ∧ W i n H') ?_ m0 ⟨0, _, O.ins, O.tn, fun b hb => (O.fp b hb).1.1, w0⟩
    rintro n s5 ⟨i, H5, I5, st5, n5, w5⟩
    refine T.turn (Y := blkH X s3 (upd H2 D (.lst [])) scope ce fp) hc pg rfl I5 st5 (O.fo n5) ?_
    rcases turn i n H5 w5 with ⟨stop, qq⟩ | ⟨go, Nx, hNx, step⟩
    · refine .inl ⟨stop, fun s6 I6 => ?_⟩
      obtain ⟨I7, ⟨m, hn⟩, f⟩ := O.shut I6
      exact fin D _ s6 m H5 I7 qq hn f
    · refine .inr ⟨go, _, step, fun s7 s8 σ8 H8 st7 I8 ⟨hw8, q8⟩ => thnF (pt.run _ s8 σ8 H8 _ I8 q8) fun b s9 ⟨H9, I9, q9⟩ => ?_⟩
      have fin2 : ∀ {s' : Shared} {H' : Hp}, Inv (blkH X s3 (upd H2 D (.lst [])) scope ce fp) ([] ++ pinsAt fp s7.heap) σ8 H' s' → Nx H' → ∃ m, m < n ∧ ∃ i H', Inv (blkH X s3 (upd H2 D (.lst [])) scope ce fp) [] (wipe σ (own.map (·.2))) H' s' ∧ tn i s'.heap ∧ (∀ b ∈ fp, H' b = none) ∧ W i m H' := fun {s' H'} I' nx => by
        obtain ⟨m', hm, w'⟩ := hNx H' nx
        obtain ⟨J1, J2, J3⟩ := T.back st7 I'
        exact ⟨m', hm, i + 1, H', J1.weak (by rw [← hw8, wipe_length]) (fun j v e => by rw [← hw8] at e; exact (wipe_some e).1), J2, J3, w'⟩
      cases b with
      | false =>
        simp only [Bool.false_eq_true, if_false] at q9 ⊢
        exact fin2 I9 q9
      | true =>
        simp only [if_true] at q9 ⊢
        exact thnF (pe.run _ s9 σ8 H9 _ I9 q9) fun z s10 ⟨yv, H10, I10, r10, acc, hD10, hz10, nx⟩ => app_ok (X := blkH X s3 (upd H2 D (.lst [])) scope ce fp) I10 hD10 hz10 r10 fun s11 I11 => fin2 I11 nx
  exact codeAny_compStart_list loop (T.self X.A 0 _ _ _ O.tn loop)
theorem pe_lcH (hc : HotC X) (hN : X.N.Nodup) (hi : PIH X tg iter wi) (ok : BlkOk X.N X.env.scope scope own)
    (hg : ∀ (s : Shared) (H : Hp) (C : Addr) (cl : List (Str × Addr)) (fp : List Addr), PG (blkH X s H scope (compEnvC scope cl C X.env) fp) tg g) (ht : ∀ (s : Shared) (H : Hp) (C : Addr) (cl : List (Str × Addr)) (fp : List Addr), PTs (blkH X s H scope (compEnvC scope cl C X.env) fp) ifs tt)
    (he : ∀ (s : Shared) (H : Hp) (C : Addr) (cl : List (Str × Addr)) (fp : List Addr), PE (blkH X s H scope (compEnvC scope cl C X.env) fp) elt te) (hs : ∀ x, foldedSetIterable iter X.env x = pure x := by intro _; rfl) :
    PE X (.ListComp elt [⟨tg, iter, ifs, 0⟩] scope pos) (tLc wi g tt te (own.map (·.2))) := by
  refine ⟨fun pins s σ H Q I h => ?_⟩
  rw [eval_ListComp]
  exact lcH hc hN hi ok hg ht he hs I h fun D C s' m H' I' q hn f => ⟨m, hn, fun h'' sb => ⟨.ref D, H', I'.turned (t' := s'.toks) (fun b o hb e => (sb.2 b hb).trans e) f.1 f.2.1 f.2.2.2.1 f.2.2.2.2.1 f.2.2.2.2.2, rfl, q⟩⟩
end
end L2H
namespace HotX
open PySem PySem.Spec PyProof.Rows
end HotX
namespace L2H
open PySem PySem.Spec PyProof.Rows L2 HotX
theorem RoomH.make {k : Nat} {A : Around} (r : RoomH (k + 1) A) (C : Addr) (us : List Value) (kw : List (Str × Value)) : RoomH k (A.under (.builtin "type.__call__" ⟨.ref C :: us, kw⟩)) :=
  ⟨by have := r.dp; rw [make_depth]; omega, by have := r.un; rw [make_units]; omega⟩
end L2H
namespace Gt
open PySem PySem.Spec PyProof.Rows L2
section
open PySem PySem.Spec PyProof.Rows L2
end
section
def rM2 (K : PySem.W.Frag) : Rp (Str × Int) := rP K rS rI
def rM3 (K : PySem.W.Frag) : Rp (Str × Int × Str × Unit) := rW K (aC rS (aC rI (aC rS aN)))
def rM4 (K : PySem.W.Frag) : Rp (Str × Str × Str × Unit) := rW K (aC rS (aC rS (aC rS aN)))
def rMd (K : PySem.W.Frag) : Rp Md := fun H v m => match m with
  | .st i => rM2 K H v ("strike", i)
  | .cl i t => rM3 K H v ("close", i, t, ())
  | .fi h t => rM4 K H v ("fill", h, t, ())
section
variable {K : PySem.W.Frag} {G : Cells K} {ta tb te : TE}
instance : Mono (rMd K) := ⟨fun {H H' v d} e h => match d, h with
  | .st _, h => Mono.up (r := rP K rS rI) e h
  | .cl _ _, h => Mono.up (r := rW K (aC rS (aC rI (aC rS aN)))) e h
  | .fi _ _, h => Mono.up (r := rW K (aC rS (aC rS (aC rS aN)))) e h⟩
instance : Frz K (rMd K) := ⟨fun {H H' v d} e h => match d, h with
  | .st _, h => Frz.up (K := K) (r := rP K rS rI) e h
  | .cl _ _, h => Frz.up (K := K) (r := rW K (aC rS (aC rI (aC rS aN)))) e h
  | .fi _ _, h => Frz.up (K := K) (r := rW K (aC rS (aC rS (aC rS aN)))) e h⟩
def encM : Md → PyData
  | .st i => .tuple [.str "strike", .int i]
  | .cl i t => .tuple [.str "close", .int i, .str t]
  | .fi h t => .tuple [.str "fill", .str h, .str t]
def datM : Dat K (rMd K) where
  dec := inferInstance
  enc := encM
  dep := 2
  dp := fun {H v d} h => match d, h with
    | .st _, h => (datP (K := K) datS datI).dp h
    | .cl _ _, h => (datW (K := K) (datAC datS (datAC datI (datAC datS datAN)))).dp h
    | .fi _ _, h => (datW (K := K) (datAC datS (datAC datS (datAC datS datAN)))).dp h
  lay := fun {H v d} h => match d, h with
    | .st _, h => (datP (K := K) datS datI).lay h
    | .cl _ _, h => (datW (K := K) (datAC datS (datAC datI (datAC datS datAN)))).lay h
    | .fi _ _, h => (datW (K := K) (datAC datS (datAC datS (datAC datS datAN)))).lay h
  dpt := fun d => match d with
    | .st _ => by simp [PyData.depth, PyData.depthAll, encM]
    | .cl _ _ => by simp [PyData.depth, PyData.depthAll, encM]
    | .fi _ _ => by simp [PyData.depth, PyData.depthAll, encM]
  eqv := fun a b => by
    have ne1 : (("strike" : Str) == "close") = false := by decide
    have ne2 : (("close" : Str) == "fill") = false := by decide
    have ne3 : (("fill" : Str) == "close") = false := by decide
    cases a <;> cases b <;> simp [PyData.eqv, PyData.eqvAll, encM, ne2, ne3, Bool.beq_eq_decide_eq, Bool.decide_and]
instance : DatN K (rMd K) 2 := ⟨datM, Nat.le_refl _⟩
variable {α : Type} {r : Rp α} {x : α}
end
end
section
def rTr {γ : Type} : Rp γ := fun _ _ _ => True
instance {γ : Type} : Mono (rTr (γ := γ)) := ⟨fun _ _ => trivial⟩
end
section
end
end Gt
namespace L2H
open PySem PySem.Spec PyProof.Rows L2 HotX Gt
section
variable {P : Program} {w : World} {A : Around} {E : Value → Shared → Prop} {s : Shared} {a x1 : Addr} {o1 : Obj} {vs1 : Array Value} {es : Array (Int × Value)} {ep : Nat} {t : SetTable}
def SetItH (P : Program) (w : World) (s : Shared) (a : Addr) (es : Array (Int × Value)) (x1 : Addr) (s₂ : Shared) (I : Addr) : Prop :=
  ∃ (fp : List Addr) (St : Nat → Heap → Prop) (out : List Value) (Pv : Nat → Value → Prop), (∀ b o, s.heap.get? b = some o → s₂.heap.get? b = some o) ∧ s₂.gens = s.gens ∧ s₂.os = s.os ∧ s₂.toks = s.toks ∧
    s.heap.objs.size ≤ I ∧ (∀ b ∈ fp, b = a ∨ b = x1 ∨ s.heap.objs.size ≤ b) ∧ out.Perm (es.toList.map (·.2)) ∧ (∀ A' : Around, A'.handled = some (.ref x1) → Walks P w A' I fp [I] out.length Pv St) ∧
    (∀ j v, Pv j v → out[j]? = some v) ∧ St 0 s₂.heap
theorem SetItH.of {s₂ : Shared} {I : Addr} {fp : List Addr} {St : Nat → Heap → Prop} {out : List Value} {Pv : Nat → Value → Prop} {n : Nat} (W : ∀ A' : Around, A'.handled = some (.ref x1) → Walks P w A' I fp [I] n Pv St) (hn : out.length = n)
    (k : ∀ b o, s.heap.get? b = some o → s₂.heap.get? b = some o) (g : s₂.gens = s.gens) (ho : s₂.os = s.os) (tk : s₂.toks = s.toks) (hI : s.heap.objs.size ≤ I) (hfp : ∀ b ∈ fp, b = a ∨ b = x1 ∨ s.heap.objs.size ≤ b)
    (hp : out.Perm (es.toList.map (·.2))) (hPv : ∀ j v, Pv j v → out[j]? = some v) (hst : St 0 s₂.heap) : SetItH P w s a es x1 s₂ I := by
  subst hn
  exact ⟨fp, St, out, Pv, k, g, ho, tk, hI, hfp, hp, W, hPv, hst⟩
end
end L2H
namespace Gt
open PySem PySem.Spec PyProof.Rows L2
section
open PySem PySem.Spec PyProof.Rows L2
end
section
section
variable {K : PySem.W.Frag} {H0 H1 H H' : Hp} {σ : L2.St} {G G' : Cells K} {α β γ : Type} {D : Ends} {u : TS}
inductive NoOwn : Cells K → Prop
  | nil : NoOwn []
  | non {G : Cells K} : NoOwn G → NoOwn (none :: G)
  | fz {β : Type} {r : Rp β} {b : β} {G : Cells K} : NoOwn G → NoOwn (fc r b :: G)
  | ro {β : Type} {r : Rp β} {m : Mono r} {b : β} {G : Cells K} : NoOwn G → NoOwn (some (.ro r m b) :: G)
theorem NoOwn.ok (h : NoOwn G) : ∀ {i : Nat} {c : Cell K}, G[i]? = some (some c) → ∀ {v : V} {as : List Addr}, c.ok H1 H v as → Same H1 H' → Same H H' → c.ok H' H' v [] := by
  induction h with
  | nil => intro i c hc; simp at hc
  | @non G h ih =>
    intro i c hc
    cases i with
    | zero => simp at hc
    | succ i => exact ih (by simpa using hc)
  | @fz β r b G h ih =>
    intro i c hc
    cases i with
    | zero =>
      have e : some (Cell.ow (Gt.fz K r) b) = some c := by simpa using hc
      cases e
      intro v as k s1 s2
      exact ⟨rfl, k.2.up (ext_same s2)⟩
    | succ i => exact ih (by simpa using hc)
  | @ro β r m b G h ih =>
    intro i c hc
    cases i with
    | zero =>
      have e : some (Cell.ro r m b) = some c := by simpa using hc
      cases e
      intro v as k s1 s2
      exact ⟨rfl, m.up s1 k.2⟩
    | succ i => exact ih (by simpa using hc)
def rExcE (K : PySem.W.Frag) (a d : Addr) : Rp (List (Str × Pay)) := fun H v fs => v = .ref a ∧ XR K H d fs
instance {a d : Addr} : Mono (rExcE K a d) := ⟨fun e h => ⟨h.1, h.2.up e⟩⟩
end
end
section
end
section
end
section
section
variable {K : PySem.W.Frag} {H0 H1 H H' : Hp} {σ : L2.St} {G G' : Cells K} {α β γ : Type} {D : Ends} {u : TS}
inductive NoOwn2 : Cells K → Prop
  | nil : NoOwn2 []
  | non {G : Cells K} : NoOwn2 G → NoOwn2 (none :: G)
  | fz {β : Type} {r : Rp β} {b : β} {G : Cells K} : NoOwn2 G → NoOwn2 (fc r b :: G)
  | ro {β : Type} {r : Rp β} {m : Mono r} {b : β} {G : Cells K} : NoOwn2 G → NoOwn2 (some (.ro r m b) :: G)
  | no {β : Type} {R : Rs K β} {G : Cells K} : NoOwn2 G → NoOwn2 (some (.ow (nO K R) none) :: G)
theorem NoOwn2.ok (h : NoOwn2 G) : ∀ {i : Nat} {c : Cell K}, G[i]? = some (some c) → ∀ {v : V} {as : List Addr}, c.ok H1 H v as → Same H1 H' → Same H H' → c.ok H' H' v [] := by
  induction h with
  | nil => intro i c hc; simp at hc
  | @non G h ih =>
    intro i c hc
    cases i with
    | zero => simp at hc
    | succ i => exact ih (by simpa using hc)
  | @fz β r b G h ih =>
    intro i c hc
    cases i with
    | zero =>
      have e : some (Cell.ow (Gt.fz K r) b) = some c := by simpa using hc
      cases e
      intro v as k s1 s2
      exact ⟨rfl, k.2.up (ext_same s2)⟩
    | succ i => exact ih (by simpa using hc)
  | @ro β r m b G h ih =>
    intro i c hc
    cases i with
    | zero =>
      have e : some (Cell.ro r m b) = some c := by simpa using hc
      cases e
      intro v as k s1 s2
      exact ⟨rfl, m.up s1 k.2⟩
    | succ i => exact ih (by simpa using hc)
  | @no β R G h ih =>
    intro i c hc
    cases i with
    | zero =>
      have e : some (Cell.ow (nO K R) none) = some c := by simpa using hc
      cases e
      intro v as k s1 s2
      exact ⟨k.1, rfl⟩
    | succ i => exact ih (by simpa using hc)
end
end
section
mutual
inductive Du (K : PySem.W.Frag) (H : Hp) : V → PyData → Prop
  | n : Du K H .non .none
  | i (x : Int) : Du K H (.int x) (.int x)
  | s {x : Str} : okS x → Du K H (.str x) (.str x)
  | t {a : Addr} {xs : List V} {ds : List PyData} : SqT K H a xs → DuA K H xs ds → Du K H (.ref a) (.tuple ds)
inductive DuA (K : PySem.W.Frag) (H : Hp) : List V → List PyData → Prop
  | nil : DuA K H [] []
  | cons {v : V} {vs : List V} {d : PyData} {ds : List PyData} : Du K H v d → DuA K H vs ds → DuA K H (v :: vs) (d :: ds)
end
mutual
theorem Du.up {K : PySem.W.Frag} {H H' : Hp} (e : ExT K H H') : ∀ (d : PyData) (v : V), Du K H v d → Du K H' v d
  | .none, _, h => by cases h; exact .n
  | .bool _, _, h => by cases h
  | .int _, _, h => by cases h; exact .i _
  | .str _, _, h => by
    cases h with
    | s o => exact .s o
  | .list _, _, h => by cases h
  | .tuple ds, _, h => by
    cases h with
    | t h1 h2 => exact .t (e _ _ h1) (DuA.up e ds _ h2)
  | .dict _, _, h => by cases h
theorem DuA.up {K : PySem.W.Frag} {H H' : Hp} (e : ExT K H H') : ∀ (ds : List PyData) (vs : List V), DuA K H vs ds → DuA K H' vs ds
  | [], _, h => by cases h; exact .nil
  | d :: ds, _, h => by
    cases h with
    | cons h1 h2 => exact .cons (Du.up e d _ h1) (DuA.up e ds _ h2)
end
mutual
theorem Du.dp {K : PySem.W.Frag} {H : Hp} : ∀ (d : PyData) (v : V), Du K H v d → Dp K H v d ∧ d.canLay0 = true
  | .none, _, h => by cases h; exact ⟨.non, by simp [PyData.canLay0]⟩
  | .bool _, _, h => by cases h
  | .int _, _, h => by cases h; exact ⟨.int _, by simp [PyData.canLay0]⟩
  | .str _, _, h => by
    cases h with
    | s o => exact ⟨.str _, by simp only [PyData.canLay0]; exact o.2⟩
  | .list _, _, h => by cases h
  | .tuple ds, _, h => by
    cases h with
    | t h1 h2 => exact ⟨.tup h1 (DuA.dp ds _ h2).1, by simp only [PyData.canLay0]; exact (DuA.dp ds _ h2).2⟩
  | .dict _, _, h => by cases h
theorem DuA.dp {K : PySem.W.Frag} {H : Hp} : ∀ (ds : List PyData) (vs : List V), DuA K H vs ds → DpAll K H vs ds ∧ PyData.canLayAll0 ds = true
  | [], _, h => by cases h; exact ⟨.nil, by simp [PyData.canLayAll0]⟩
  | d :: ds, _, h => by
    cases h with
    | cons h1 h2 => exact ⟨.cons (Du.dp d _ h1).1 (DuA.dp ds _ h2).1, by simp only [PyData.canLayAll0]; rw [(Du.dp d _ h1).2, (DuA.dp ds _ h2).2]; rfl⟩
end
abbrev U := PyData ⊕ Addr
def rU (K : PySem.W.Frag) : Rp U := fun H v u => match u with
  | .inl d => Du K H v d
  | .inr p => v = .ref p
instance {K : PySem.W.Frag} : Frz K (rU K) := ⟨fun {H H' v b} e h => match b, h with
  | .inl d, h => Du.up e d v h
  | .inr _, h => h⟩
instance {K : PySem.W.Frag} : Mono (rU K) := ⟨fun e h => Frz.up (K := K) (ext_same e) h⟩
def IE (K : PySem.W.Frag) (H : Hp) (x y : V) : Prop := (∃ a, x = .ref a ∧ y = .ref a) ∨ ∃ d, Du K H x d ∧ Du K H y d ∧ d.depth ≤ 60
def rNeU (K : PySem.W.Frag) : R2 := fun x y H Q => ∃ a b xs ys, x = .ref a ∧ y = .ref b ∧ SqL K H a xs ∧ SqL K H b ys ∧ Paired (IE K H) xs ys ∧ Q (.bl false) H
theorem ie_run {X : Cx} {pins : List (Addr × Obj)} {σ : L2.St} {H : Hp} {s : Shared} (I : L2.Inv X pins σ H s) {A : Around} (hu : A.units + 62 < cLine) {xs ys : List V} (hp : Paired (IE X.K H) xs ys) :
    ∀ {us ws : List Value}, Vals xs us → Vals ys ws → ∀ j (h1 : j < us.length) (h2 : j < ws.length), SeqAt.EqAt A s us[j] ws[j] true := by
  induction hp with
  | nil =>
    intro us ws r1 r2 j h1 h2
    cases r1
    exact absurd h1 (Nat.not_lt_zero j)
  | cons h _ k =>
    intro us ws r1 r2 j h1 h2
    cases r1 with
    | cons a1 b1 =>
      cases r2 with
      | cons a2 b2 =>
        cases j with
        | zero =>
          rcases h with ⟨a, e1, e2⟩ | ⟨d, d1, d2, hd⟩
          · subst e1 e2
            cases a1
            cases a2
            exact SeqAt.EqAt.same _
          · obtain ⟨as, q1⟩ := Dp.reads I d _ _ (Du.dp d _ d1).1 a1
            obtain ⟨bs, q2⟩ := Dp.reads I d _ _ (Du.dp d _ d2).1 a2
            have c := (Du.dp d _ d1).2
            have z := SeqAt.eqAt_reads d d A s _ _ as bs q1 q2 c c (by rw [Nat.min_self]; omega)
            rw [SeqAt.eqv_refl d c] at z
            exact z
        | succ j => exact k b1 b2 j (Nat.lt_of_succ_lt_succ h1) (Nat.lt_of_succ_lt_succ h2)
theorem op_neU {X : Cx} (hu : X.A.units + 64 < cLine) : OpR X (compareOp .NotEq) (rNeU X.K) := by
  intro pins s σ H x y v u Q I rx ry h
  obtain ⟨a, b, xs, ys, rfl, rfl, ha, hb, hp, q⟩ := h
  cases (show v = Value.ref a from rx)
  cases (show u = Value.ref b from ry)
  obtain ⟨us, r1, p1, _⟩ := I.list ha
  obtain ⟨ws, r2, p2, _⟩ := I.list hb
  have hsz : us.toArray.size = ws.toArray.size := by
    rw [List.size_toArray, List.size_toArray, ← r1.length, ← r2.length]
    exact Paired.length hp
  have E := SeqAt.RcNeAt.lists (e := fun _ => true) p1.isList p2.isList hsz (show X.A.units < cLine by omega) (fun j h1 h2 => by
    have k := ie_run I (A := X.A.in1) (show X.A.units + 1 + 62 < cLine by omega) hp r1 r2 j (by simpa using h1) (by simpa using h2)
    simpa using k)
  refine E X.prog X.w _ _ ?_
  rw [show ((List.range us.toArray.size).all fun _ => true) = true from List.all_eq_true.mpr fun _ _ => rfl]
  exact ⟨.bl false, H, I, rfl, q⟩
theorem k_neU {X : Cx} (K : PySem.W.Frag) (hu : X.A.units + 64 < cLine) (h : X.K = K := by rfl) : OpR X (compareOp .NotEq) (rNeU K) := by subst h; exact op_neU hu
def dep60 (us : List U) : Bool := us.all fun u => match u with
  | .inl d => decide (d.depth ≤ 60)
  | .inr _ => true
section
variable {K : PySem.W.Frag} {H0 H1 H H' : Hp} {σ : L2.St} {G G' : Cells K} {α β : Type} {D : Ends} {u : TS} {te ta tb : TE} {tl : TA} {R : Rs K β}
theorem ie_of {v w : V} {x : U} (h1 : rU K H v x) (h2 : rU K H w x) (hd : dep60 [x] = true) : IE K H v w := match x, h1, h2, hd with
  | .inl d, h1, h2, hd => .inr ⟨d, h1, h2, of_decide_eq_true (by simpa [dep60] using hd)⟩
  | .inr p, h1, h2, _ => .inl ⟨p, h1, h2⟩
theorem ie_all {vs ws : List V} : ∀ {us : List U}, A2 (rU K H) vs us → A2 (rU K H) ws us → dep60 us = true → Paired (IE K H) vs ws := by
  intro us h1
  induction h1 generalizing ws with
  | nil =>
    intro h2 _
    cases h2
    exact .nil
  | @cons a x as xs h _ ih =>
    intro h2 hd
    cases h2 with
    | cons k1 k2 =>
      have hd' : dep60 [x] = true ∧ dep60 xs = true := by
        unfold dep60 at hd ⊢
        rw [List.all_cons, Bool.and_eq_true] at hd
        exact ⟨by rw [List.all_cons, hd.1]; rfl, hd.2⟩
      exact .cons (ie_of h k1 hd'.1) (ih k2 hd'.2)
theorem a_neU {us : List U} (h : Ev (rL (rU K)) ta G us) (h' : Ev (rL (rU K)) tb G us) (hd : dep60 us = true) : Ev rB (tOp (rNeU K) ta tb) G false := ev_op h h' fun H x y ⟨a, vs, ea, ha, za⟩ ⟨b, ws, eb, hb, zb⟩ Q k =>
  ⟨a, b, vs, ws, ea, eb, SqL.of ha, SqL.of hb, ie_all za zb hd, k _ H (Same.refl H) rfl⟩
theorem ev_uS {s : Str} (h : Ev rS te G s) : Ev (rU K) te G (.inl (.str s)) := fun H0 σ H E Q k => h H0 σ H E Q fun v H' e z => k v H' e (by
    obtain ⟨ev, o⟩ := z
    subst ev
    exact Du.s o)
theorem ev_uI {n : Int} (h : Ev rI te G n) : Ev (rU K) te G (.inl (.int n)) := fun H0 σ H E Q k => h H0 σ H E Q fun v H' e z => k v H' e (by
    have z : v = V.int n := z
    subst z
    exact Du.i n)
theorem ev_uN : Ev (rU K) (tC .non) G (.inl .none) := fun H0 σ H E Q k => k _ H (Same.refl H) .n
theorem dua_of {vs : List V} : ∀ {ds : List PyData}, A2 (rU K H) vs (ds.map .inl) → DuA K H vs ds
  | [], h => by cases h; exact .nil
  | d :: ds, h => by
    cases h with
    | cons h1 h2 => exact .cons h1 (dua_of h2)
theorem ev_uT {ds : List PyData} (h : EvA (aAll (rU K)) tl G (ds.map .inl)) (hz : ds.length ≤ 12000000) : Ev (rU K) (tTupD tl) G (.inl (.tuple ds)) := fun H0 σ H E Q k =>
  h H0 σ H E _ fun vs H1 e1 z => ⟨by rw [A2.len z, List.length_map]; exact sz hz, fun p o hp hd => k _ _ (e1.trans (same_new hp)) (.t (SqD.of upd_same hd).t (dua_of (z.imp fun _ _ w => Mono.up (same_new hp) w)))⟩
theorem ev_uIx {d0 d1 : PyData} (h : Ev (rU K) te G (.inl (.tuple [d0, d1]))) : Ev (rU K) (tOp (rIx K) te (tC (.int 1))) G (.inl d1) := fun H0 σ H E Q k =>
  h H0 σ H E _ fun v H1 e1 z => by
    cases z with
    | @t a xs ds h1 h2 =>
      cases h2 with
      | cons a1 b1 =>
        cases b1 with
        | cons a2 b2 =>
          cases b2
          exact .inr (.inl ⟨a, _, 1, _, rfl, rfl, h1, rfl, k _ H1 e1 a2⟩)
def NwL (R : Rs K β) (tl : TA) (G : Cells K) (xs : List β) : Prop := ∀ H0 σ H, Env H0 σ H G → ∀ Q : List V → Hp → Prop, (∀ vs H' (ss : List (List Addr)), Same H H' → (∀ s ∈ ss, ∀ p ∈ s, H p = none) → A3 (R.rep H') vs xs ss → (∀ (k l : Nat) (t s : List Addr) (q : Addr), ss[k]? = some t → ss[l]? = some s → q ∈ t → q ∈ s → k = l) → Q vs H') → tl σ H Q
theorem nl_nil : NwL R tNil G [] := fun H0 σ H E Q k => k [] H [] (Same.refl H) (fun s hs => nomatch hs) .nil fun k l t s q h => by simp at h
theorem nl_cons {x : β} {xs : List β} (h : Nw R te G x) (hl : NwL R tl G xs) : NwL R (tCons te tl) G (x :: xs) := fun H0 σ H E Q k =>
  h H0 σ H E _ fun v H1 as e1 hn hr => hl H0 σ H1 (E.grow e1) _ fun vs H2 ss e2 hs z dj => k (v :: vs) H2 (as :: ss) (e1.trans e2) (fun s hs' p hp => by
      rcases List.mem_cons.mp hs' with c | c
      · rw [c] at hp; exact hn p hp
      · exact free_back e1 (hs s c p hp))
    (.cons (R.stay hr (ext_same e2) fun p _ o ho => e2 _ _ ho) z) fun k l t s q hk hl' ht hq => by
      have out : ∀ (j : Nat) (r : List Addr), ss[j]? = some r → q ∈ r → q ∉ as := fun j r hj hqr ha => by
        obtain ⟨o, ho, _⟩ := R.there hr q ha
        have := hs r (List.mem_iff_getElem?.mpr ⟨j, hj⟩) q hqr
        rw [this] at ho
        cases ho
      cases k with
      | zero =>
        cases l with
        | zero => rfl
        | succ l =>
          cases hk
          exact absurd ht (out l s hl' hq)
      | succ k =>
        cases l with
        | zero =>
          cases hl'
          exact absurd hq (out k t hk ht)
        | succ l => rw [dj k l t s q hk hl' ht hq]
theorem nw_lstR {xs : List β} (h : NwL R tl G xs) (hz : xs.length ≤ 12000000) : Nw (nlR K R) (tLst tl) G xs := fun H0 σ H E Q k =>
  h H0 σ H E _ fun vs H1 ss e1 hs z dj => ⟨by rw [A3.len z]; exact sz hz, fun p hp => k (.ref p) _ (p :: ss.flatten) (e1.trans (same_new hp)) (fun q hq => by
      rcases List.mem_cons.mp hq with c | c
      · rw [c]; exact free_back e1 hp
      · obtain ⟨s, h1, h2⟩ := List.mem_flatten.mp c
        exact hs s h1 q h2)
    ⟨p, vs, ss, rfl, rfl, upd_same, z.imp fun a c t _ w => R.stay w (ext_same (same_new hp)) fun q _ o ho => same_new hp _ _ ho, ⟨fun k t ht hp' => (by
      have hl : k < xs.length := by rw [← z.lens]; exact (List.getElem?_eq_some_iff.mp ht).1
      obtain ⟨a, s', _, h3, h4⟩ := z.get (List.getElem?_eq_getElem hl)
      rw [ht] at h3
      cases h3
      obtain ⟨o, ho, _⟩ := R.there h4 p hp'
      rw [hp] at ho
      cases ho), dj⟩⟩⟩
end
end
section
abbrev nm12 : List Str := ["BadName", "NoRule", "Useless", "Hollow", "SameName", "UnknownName", "BadLine", "BadMark", "BadMend", "Clash", "Refused", "WrongToken"]
def fl12 (k : Nat) : List Str := match k with
  | 6 => ["number"]
  | 7 => ["rule"]
  | 8 => ["mend"]
  | 9 => ["head", "one", "other", "token", "beginning", "runs"]
  | 10 => ["guest", "rival", "token", "beginning"]
  | 11 => ["index", "token", "expected"]
  | _ => ["name"]
def lks (fs : List (Str × U)) : List Str → Option (List U)
  | [] => some []
  | f :: l => match fs.lookup f, lks fs l with
    | some u, some r => some (u :: r)
    | _, _ => none
theorem lks_cons {fs : List (Str × U)} {f : Str} {l : List Str} {r : List U} (h : lks fs (f :: l) = some r) : ∃ u r', fs.lookup f = some u ∧ lks fs l = some r' ∧ r = u :: r' := by
  unfold lks at h
  split at h
  · rename_i u r' e1 e2
    exact ⟨u, r', e1, e2, (Option.some.inj h).symm⟩
  · cases h
theorem lks_nil {fs : List (Str × U)} {r : List U} (h : lks fs [] = some r) : r = [] := (Option.some.inj h).symm
def m_shown (k : Nat) (n : Int) (fs : List (Str × U)) : M (List U) := bif decide (n = (k : Int)) then oM (lks fs (fl12 k)) else .error .stuck
theorem m_shown_ok {k : Nat} {n : Int} {fs : List (Str × U)} {r : List U} (h : m_shown k n fs = .ok r) : n = (k : Int) ∧ lks fs (fl12 k) = some r := by
  unfold m_shown at h
  by_cases e : n = (k : Int)
  · rw [decide_eq_true e] at h
    exact ⟨e, oM_ok h⟩
  · rw [decide_eq_false e] at h
    cases h
theorem nm12_lt {k : Nat} {x : Str} (h : nm12[k]? = some x) : k < 12 := (List.getElem?_eq_some_iff.mp h).1
theorem fl12_lt : ∀ k : Nat, k < 6 → fl12 k = (["name"] : List Str) := fun k h => match k, h with
  | 0, _ => rfl
  | 1, _ => rfl
  | 2, _ => rfl
  | 3, _ => rfl
  | 4, _ => rfl
  | 5, _ => rfl
  | k + 6, h => absurd h (by omega)
theorem kinds12 : ∀ k : Nat, k < 12 → ([decide ((0 : Int) = (k : Int)), decide ((1 : Int) = (k : Int)), decide ((2 : Int) = (k : Int)), decide ((3 : Int) = (k : Int)), decide ((4 : Int) = (k : Int)), decide ((5 : Int) = (k : Int)), decide ((6 : Int) = (k : Int)), decide ((7 : Int) = (k : Int)), decide ((8 : Int) = (k : Int)), decide ((9 : Int) = (k : Int)), decide ((10 : Int) = (k : Int)), decide ((11 : Int) = (k : Int))] : List Bool) =
  [decide (0 = k), decide (1 = k), decide (2 = k), decide (3 = k), decide (4 = k), decide (5 = k), decide (6 = k), decide (7 = k), decide (8 = k), decide (9 = k), decide (10 = k), decide (11 = k)] := by decide
def rExcU (K : PySem.W.Frag) (a d : Addr) : Rp (List (Str × U)) := fun H v fs => v = .ref a ∧ ∃ vs, H d = some (.xd vs) ∧ A2 (fun (x : Str × V) (y : Str × U) => x.1 = y.1 ∧ rU K H x.2 y.2) vs fs
instance {K : PySem.W.Frag} {a d : Addr} : Mono (rExcU K a d) := ⟨fun e ⟨h, vs, h1, h2⟩ => ⟨h, vs, e _ _ h1, h2.imp fun _ _ z => ⟨z.1, Mono.up e z.2⟩⟩⟩
theorem lk_U {K : PySem.W.Frag} {H : Hp} {fs : List (Str × U)} {vs : List (Str × V)} {f : Str} {p : U} (z : A2 (fun (x : Str × V) (y : Str × U) => x.1 = y.1 ∧ rU K H x.2 y.2) vs fs) (h : fs.lookup f = some p) : ∃ v, vs.lookup f = some v ∧ rU K H v p := by
  induction z with
  | nil => cases h
  | @cons a b as bs h1 h2 ih =>
    obtain ⟨a1, a2⟩ := a
    obtain ⟨b1, b2⟩ := b
    obtain ⟨e1, e2⟩ := h1
    have e1 : a1 = b1 := e1
    subst e1
    rw [List.lookup_cons] at h ⊢
    cases q : f == a1 with
    | true =>
      rw [q] at h
      cases h
      exact ⟨a2, rfl, e2⟩
    | false =>
      rw [q] at h
      exact ih h
abbrev spSh (K : PySem.W.Frag) (k : Nat) (xa xd : Addr) : Sp := spMN (aC rI (aC (rExcU K xa xd) aN)) (nl K (rU K)) fun a => m_shown k a.1 a.2.1
def tShown (K : PySem.W.Frag) (a : Addr) (cls : Value) (d : Option Addr) (t : TA) : TE := fun σ H Q => ∃ k x, nm12[k]? = some x ∧ tCallE a cls d (cA K x) (spSh K k) t σ H Q
section
variable {X : Cx} {q pos : Pos} {e : Expr} {es : List Expr} {t : TA} {a : Addr} {oe : Obj} {cls : Value} {d : Option Addr} {pn : List (Addr × Obj)} {n : Nat} {ps : List Str} {y : Str}
theorem pe_shown (D : ∀ k x, nm12[k]? = some x → CalHP X.prog X.w X.K X.mg X.base y n ps (spE X.K (cA X.K x) (spSh X.K k))) (hr : L2H.RoomH n (X.suite a ((a, oe) :: pn)).A) (hz : L2N.Zn cls d oe) (hf : ∃ vs, oe.data = .fields vs) (ha : PA (X.suite a ((a, oe) :: pn)) (e :: es) t) (hg : Gl (X.suite a ((a, oe) :: pn)) y := by rfl) (hdb : (y == ("__debug__" : Str)) = false := by decide)
    (he : starEach (e :: es) (X.suite a ((a, oe) :: pn)).env = (false, eval e (X.suite a ((a, oe) :: pn)).env) :: starEach es (X.suite a ((a, oe) :: pn)).env := by rfl) (hpl : (backTo pos (starEach es (X.suite a ((a, oe) :: pn)).env)).any (·.1) = false := by rfl) : PE (X.suite a ((a, oe) :: pn)) (.Call (.Name y q) (e :: es) [] pos) (tShown X.K a cls d t) :=
  ⟨fun pins s σ H Q I ⟨k, x, hk, h⟩ => (pe_fnHE (D k x hk) hr hz hf ha hg hdb he hpl).run pins s σ H Q I h⟩
end
section
variable {K : PySem.W.Frag} {H0 H1 H H' : Hp} {σ : L2.St} {G G' : Cells K} {α β : Type} {D D' : Ends} {u : TS} {te ta tb : TE} {tl : TA} {R : Rs K β} {k : Nat} {x : Str} {c : Value} {Wout : WX} {res : List U} {d : Addr}
theorem a_isXU {i : Nat} {a d : Addr} {m : Mono (rExcU K a d)} {fs : List (Str × U)} {x : Str} {v : V} {b : Bool} (h : G[i]? = some (some (.ro (rExcU K a d) m fs))) (I : IsX K x v b) : Ev rB (tCB (rIsX K a (.ref (cA K x)) (some d)) (tCons (tVar i) (tCons (tC v) tNil))) G b := fun H0 σ H E Q k => by
  obtain ⟨own, _, _, h3⟩ := E.at_
  obtain ⟨w, hw, _, ev, vs, hd, z⟩ := h3 i _ h
  subst ev
  exact ⟨_, hw, x, v, b, d, vs, rfl, rfl, I, rfl, E.old _ _ hd, k _ H (Same.refl H) rfl⟩
theorem a_xfU {i : Nat} {a d C : Addr} {m : Mono (rExcU K a d)} {fs : List (Str × U)} {f : Str} {p : U} (h : G[i]? = some (some (.ro (rExcU K a d) m fs))) (hf : fs.lookup f = some p) : Ev (rU K) (tXf a (.ref C) (some d) C f (tVar i)) G p := fun H0 σ H E Q k => by
  obtain ⟨own, _, _, h3⟩ := E.at_
  obtain ⟨v, hv, _, ev, vs, hd, z⟩ := h3 i _ h
  subst ev
  obtain ⟨w, hw, hp⟩ := lk_U z hf
  exact ⟨_, hv, rfl, rfl, d, vs, w, rfl, E.old _ _ hd, hw, k w H (Same.refl H) (Mono.up E.old hp)⟩
theorem a_neDf {r : Rp α} {a x : α} (h : Ev r ta G a) (h' : Ev r tb G x) (M : Mono r) (DD : DatC K r) (e : eqB a x = true) : Ev rB (tOp (rNeD K) ta tb) G false := (a_neD h h' M DD).eq (by rw [e]; rfl)
theorem sv_pt {t : TS} (h : Sv H0 G t D) (hv : Have H0 G σ H) : t D σ H := h σ H hv
theorem caughtU {vs : List (Str × V)} {fs : List (Str × U)} {m : Mono rI} (hv : Have H0 G σ H) (h0 : G[0]? = some (some (.ro rI m (k : Int)))) (hl : 2 < G.length) (s : Same H H') (hd : H' d = some (.xd vs)) (z : A2 (fun (x : Str × V) (y : Str × U) => x.1 = y.1 ∧ rU K H' x.2 y.2) vs fs)
    (hk : nm12[k]? = some x) (hm : m_shown k (k : Int) fs = .ok res) (cl : PySem.W.exmOne K (.ref (cA K x)) c = some true) (hD : RtOk (nl K (rU K)) H0 res D) :
    wAs K c 2 (fun a cls d => tRet (tShown K a cls d (tCons (tVar 0) (tCons (tVar 2) tNil)))) Wout D (.ref (cA K x)) (some d) σ H' := by
  obtain ⟨H1, e1, E⟩ := hv
  obtain ⟨own, _, _, h3⟩ := E.at_
  obtain ⟨v, hv0, _, ev⟩ := h3 0 _ h0
  have ev : v = .int (k : Int) := ev
  subst ev
  have sl : 2 < σ.length := by rw [E.len]; exact hl
  refine ⟨true, cl, fun _ a _ => ?_, fun q => nomatch q⟩
  have hD' := hD.up (e1.trans (E.old.trans s))
  refine ⟨k, x, hk, _, (List.getElem?_set_ne (by decide)).trans hv0, .ref a, List.getElem?_set_self sl, rfl, d, rfl, ((k : Int), (fs, ())), res, ⟨_, _, rfl, rfl, _, _, rfl, ⟨rfl, vs, hd, z⟩, rfl⟩, hm, fun v H2 as s2 n2 r => hD' v H2 ⟨as, s2, n2, r⟩⟩
theorem l_raiseU {f : Str} {p : U} {m : Mono rI} (h : Ev (rU K) te G p) (h0 : G[0]? = some (some (.ro rI m (k : Int)))) (hl : 2 < G.length) (hk : nm12[k]? = some x) (hm : m_shown k (k : Int) [(f, p)] = .ok res) (cl : PySem.W.exmOne K (.ref (cA K x)) c = some true) (hD : RtOk (nl K (rU K)) H0 res D) :
    Sv H0 G (fun _ σ H => tMkX (cA K x) f (tCons te tNil) σ H fun cls d H' => wAs K c 2 (fun a cls d => tRet (tShown K a cls d (tCons (tVar 0) (tCons (tVar 2) tNil)))) Wout D cls d σ H') D' := fun σ H ⟨H1, e1, E⟩ =>
  h H1 σ H E _ fun v H2 e2 z => ⟨v, rfl, fun d hd => caughtU ⟨H1, e1, E⟩ h0 hl (e2.trans (same_new hd)) upd_same (.cons ⟨rfl, Mono.up (same_new hd) z⟩ .nil) hk hm cl hD⟩
theorem a2_zipU {fs : List Str} {vs : List V} {us : List U} (z : A2 (rU K H) vs us) : A2 (fun (x : Str × V) (y : Str × U) => x.1 = y.1 ∧ rU K H x.2 y.2) (fs.zip vs) (fs.zip us) := by
  induction z generalizing fs with
  | nil => rw [List.zip_nil_right, List.zip_nil_right]; exact .nil
  | cons h1 h2 ih =>
    cases fs with
    | nil => exact .nil
    | cons f fs => exact .cons ⟨rfl, h1⟩ ih
theorem A2.revU {γ δ : Type} {F : γ → δ → Prop} {xs : List γ} {ys : List δ} (z : A2 F xs ys) : A2 F xs.reverse ys.reverse := by
  induction z with
  | nil => exact .nil
  | cons h1 h2 ih => rw [List.reverse_cons, List.reverse_cons]; exact A2.app (.cons h1 .nil) ih
theorem l_raiseUN {fs : List Str} {us : List U} {m : Mono rI} (h : EvA (aAll (rU K)) tl G us) (hn : us.length = fs.length) (h0 : G[0]? = some (some (.ro rI m (k : Int)))) (hl : 2 < G.length) (hk : nm12[k]? = some x) (hm : m_shown k (k : Int) (fs.zip us).reverse = .ok res) (cl : PySem.W.exmOne K (.ref (cA K x)) c = some true) (hD : RtOk (nl K (rU K)) H0 res D) :
    Sv H0 G (fun _ σ H => tMkN (cA K x) fs tl σ H fun cls d H' => wAs K c 2 (fun a cls d => tRet (tShown K a cls d (tCons (tVar 0) (tCons (tVar 2) tNil)))) Wout D cls d σ H') D' := fun σ H ⟨H1, e1, E⟩ =>
  h H1 σ H E _ fun vs H2 e2 z => ⟨by rw [A2.len z]; exact hn, fun d hd => caughtU ⟨H1, e1, E⟩ h0 hl (e2.trans (same_new hd)) upd_same (A2.revU (a2_zipU (z.imp fun _ _ w => Mono.up (same_new hd) w))) hk hm cl hD⟩
theorem nm_of {X : Cx} {x : Str} (J : X.mg x = some (.ref (cA X.K x))) (hg : Gl X x := by rfl) (hdb : (x == ("__debug__" : Str)) = false := by decide) : Names X x (.ref (cA X.K x)) := ⟨hg, hdb, .inl J⟩
theorem exm_sub {K : PySem.W.Frag} {S T : Addr} (h1 : PySem.W.subIn K (.ref S) (.type "BaseException") = some true) (h2 : PySem.W.isClsIn K S = true) (h3 : PySem.W.typeIn K (.ref S) = some (.type "type")) (h4 : PySem.W.subIn K (.ref T) (.ref S) = some true) : PySem.W.exmOne K (.ref T) (.ref S) = some true := by
  have e1 : (PySem.W.subIn K (.ref S) (.type "BaseException") == some true) = true := by rw [h1] <;> rfl
  have e2 : ((PySem.W.clsIn K S).isSome && PySem.W.typeIn K (.ref S) == some (.type "type")) = true := by
    have h2' : (PySem.W.clsIn K S).isSome = true := h2
    rw [h2', h3] <;> rfl
  unfold PySem.W.exmOne PySem.W.kitCls
  rw [if_pos e1]
  exact (if_pos e2).trans h4
section
variable {X : Cx} {x : Str} {k : Nat} {p pos : Pos} {e : Expr} {es : List Expr} {ta : TA}
theorem pmk_exK (K : PySem.W.Frag) {fld : Str} (T : ExcK X.prog X.K X.mg x fld) (hr : Room k X.A) (ha : PA X [e] ta) (hK : X.K = K := by rfl) (hg : Gl X x := by rfl) (hdb : (x == ("__debug__" : Str)) = false := by decide)
    (he : starEach (e :: []) X.env = (false, eval e X.env) :: starEach [] X.env := by rfl) (hpl : (backTo pos (starEach [] X.env)).any (·.1) = false := by rfl) : L2N.PMk X (.Call (.Name x p) [e] [] pos) (tMkX (cA K x) fld ta) := by subst hK; exact pmk_ex T hr ha hg hdb he hpl
theorem pmk_exNK (K : PySem.W.Frag) {fs : List Str} (T : ExcKN X.prog X.K X.mg x fs) (hr : Room k X.A) (ha : PA X (e :: es) ta) (hK : X.K = K := by rfl) (hg : Gl X x := by rfl) (hdb : (x == ("__debug__" : Str)) = false := by decide)
    (he : starEach (e :: es) X.env = (false, eval e X.env) :: starEach es X.env := by rfl) (hpl : (backTo pos (starEach es X.env)).any (·.1) = false := by rfl) : L2N.PMk X (.Call (.Name x p) (e :: es) [] pos) (tMkN (cA K x) fs ta) := by subst hK; exact pmk_exN T hr ha hg hdb he hpl
end
section
variable {X : Cx} {x n : Str} {c : Value} {i : Nat} {body suite rest a : List Stmt} {b₀ st : Stmt} {np pos pos' : Pos} {tb t u : WX → TS} {ts : Addr → Value → Option Addr → TS} {Wout : WX} {e ce : Expr} {tc : TT} {te : L2.St → Hp → XK → Prop}
def PSW (X : Cx) (st : Stmt) (t : WX → TS) : Prop := ∀ (W : WX) (pn : List (Addr × Obj)) (xe : Value → Shared → Prop), L2N.Takes (X.tr pn xe) W → PS (X.tr pn xe) st (t W)
def PSsW (X : Cx) (body : List Stmt) (t : WX → TS) : Prop := ∀ (W : WX) (pn : List (Addr × Obj)) (xe : Value → Shared → Prop), L2N.Takes (X.tr pn xe) W → PSs (X.tr pn xe) body (t W)
theorem wx_cons (h1 : PSW X st t) (h2 : PSsW X rest u) : PSsW X (st :: rest) fun W => tSeq (t W) (u W) := fun W pn xe tk => pss_cons (h1 W pn xe tk) (h2 W pn xe tk)
theorem wx_one (h1 : PSW X st t) : PSsW X [st] t := fun W pn xe tk => pss_one (h1 W pn xe tk)
theorem wx_if (hc : ∀ pn xe, PT (X.tr pn xe) ce tc) (ha : PSsW X a t) : PSW X (.If ce a [] pos) fun W => tIfS tc (t W) tNext := fun W pn xe tk => ps_if (hc pn xe) (ha W pn xe tk) pss_nil
theorem wx_raise (hc : X.calm = true) (he : ∀ pn xe, L2N.PMk (X.tr pn xe) e te) : PSW X (.Raise (some e) none pos) fun W _ σ H => te σ H fun cls d H' => W cls d σ H' := fun W pn xe tk => L2N.ps_raise hc tk (he pn xe)
theorem ps_try_asW (hs : X.stack = X.env :: X.outer) (hf : X.env.frame = some X.env.locals) (hN : X.N.Nodup) (hi : X.N[i]? = some n) (hln : X.env.kindOf n = some .local) (hc : Names X x c) (tk : L2N.Takes X Wout) (hb : PSsW X body tb)
    (hsu : ∀ (a : Addr) (oe : Obj) (cls : Value) (d : Option Addr) (pn : List (Addr × Obj)), L2N.Zn cls d oe → (∃ vs, oe.data = .fields vs) → PSs (X.suite a ((a, oe) :: pn)) (b₀ :: suite) (ts a cls d)) :
    PS X (.Try body [.ExceptHandler (some (.Name x np)) (some n) (b₀ :: suite) pos'] [] [] pos) (fun D σ H => tb (wAs X.K c i ts Wout D) D σ H) := L2N.ps_try_as hs hf hN hi hln hc tk (fun W pn xe tk _ => hb W pn xe tk) hsu
end
def sndU : U → Option U
  | .inl (.tuple [_, d]) => some (.inl d)
  | _ => none
def tupU : U → U → Option U
  | .inl a, .inl b => some (.inl (.tuple [a, b]))
  | _, _ => none
def ar12 (k : Nat) (row : List U) : Option (List U) := match k, row with
  | 6, [_, b, _, _, _, _, _, _, _] => some [b]
  | 7, [_, _, c, _, _, _, _, _, _] => some [c]
  | 8, [_, _, _, d, _, _, _, _, _] => some [d]
  | 9, [a, _, c, _, e, f, g, h, _] => match sndU c, tupU g h with
    | some c', some t => some [a, c', .inl (.tuple []), e, f, t]
    | _, _ => none
  | 10, [a, _, _, _, e, f, _, _, i] => some [a, i, e, f]
  | 11, [_, b, _, _, e, f, _, _, _] => some [b, e, f]
  | _, [a, _, _, _, _, _, _, _, _] => some [a]
  | _, _ => none
theorem ar12_row {k : Nat} {row r : List U} (h : ar12 k row = some r) : ∃ a b c d e f g i j, row = [a, b, c, d, e, f, g, i, j] := by
  unfold ar12 at h
  split at h <;> first | exact ⟨_, _, _, _, _, _, _, _, _, rfl⟩ | cases h
theorem sndU_ok {c c' : U} (h : sndU c = some c') : ∃ x y, c = .inl (.tuple [x, y]) ∧ c' = .inl y := by
  unfold sndU at h
  split at h
  · exact ⟨_, _, rfl, (Option.some.inj h).symm⟩
  · cases h
theorem tupU_ok {g i t : U} (h : tupU g i = some t) : ∃ x y, g = .inl x ∧ i = .inl y ∧ t = .inl (.tuple [x, y]) := by
  unfold tupU at h
  split at h
  · exact ⟨_, _, rfl, rfl, (Option.some.inj h).symm⟩
  · cases h
theorem ar9_ok {a b c d e f g i j : U} {r : List U} (h : ar12 9 [a, b, c, d, e, f, g, i, j] = some r) : ∃ c' t, sndU c = some c' ∧ tupU g i = some t ∧ r = [a, c', .inl (.tuple []), e, f, t] := by
  have h : (match sndU c, tupU g i with
    | some c', some t => some [a, c', .inl (.tuple []), e, f, t]
    | _, _ => none) = some r := h
  split at h
  · rename_i c' t h1 h2
    exact ⟨c', t, h1, h2, (Option.some.inj h).symm⟩
  · cases h
theorem sh1 {f : Str} {k : Nat} {u : U} (h : fl12 k = [f]) : m_shown k (k : Int) [(f, u)] = .ok [u] := by
  unfold m_shown
  rw [decide_eq_true rfl, h]
  show oM (lks [(f, u)] [f]) = _
  unfold lks lks
  rw [List.lookup_cons, beq_self_eq_true]
  rfl
theorem sh9 {a b c d e f : U} : m_shown 9 9 ((["head", "one", "other", "token", "beginning", "runs"] : List Str).zip [a, b, c, d, e, f]).reverse = .ok [a, b, c, d, e, f] := rfl
theorem sh10 {a b c d : U} : m_shown 10 10 ((["guest", "rival", "token", "beginning"] : List Str).zip [a, b, c, d]).reverse = .ok [a, b, c, d] := rfl
theorem sh11 {a b c : U} : m_shown 11 11 ((["index", "token", "expected"] : List Str).zip [a, b, c]).reverse = .ok [a, b, c] := rfl
def m_raised (n : Int) (row : List U) : M (List U) := mb (chk (decide (0 ≤ n ∧ n < 12))) fun _ => oM (ar12 n.toNat row)
theorem l_appNx {i : Nat} {xs : List U} {b : β} (hi : G[i]? = some (some (.ow (nl K (rU K)) xs))) (h : Nw R te G b) (hq : ∀ H v as, R.rep H v b as → ∃ p, v = .ref p) (hz : xs.length < 12000000) (kk : ∀ p, Nx H0 (G.set i (some (.ow (nl K (rU K)) (xs ++ [.inr p])))) D.nx) :
    Sv H0 G (tDrop (tBM K "list" rAppend (tVar i) (tCons te tNil))) D := fun σ H ⟨H1, e1, E⟩ => by
  obtain ⟨own, h1, h2, h3⟩ := id E.at_
  obtain ⟨v, hv, p, vs, ea, ev, hp, z⟩ := h3 i _ hi
  subst ev
  refine ⟨_, hv, .inl ⟨rfl, vs, SqL.of hp⟩, h H1 σ H E _ fun w H2 as e2 hn hr => ?_⟩
  obtain ⟨q, rfl⟩ := hq _ _ _ hr
  have z2 : A2 (Stb K (rU K) H2) vs xs := z.imp fun _ _ q => q.up (ext_same e2)
  exact ⟨p, vs, .ref q, rfl, rfl, e2 _ _ hp, Nat.lt_of_le_of_lt (by rw [z.len]; omega) (by decide : 12000000 < sizeLine), kk q _ _ ⟨H1, e1, app_env (E.grow e2) hi hv (e2 _ _ hp) z2 (stb (show rU K H2 (.ref q) (.inr q) from rfl))⟩⟩
theorem q_appNx {i : Nat} {xs : List U} {b : β} (hi : G[i]? = some (some (.ow (nl K (rU K)) xs))) (h : Nw R te G b) (hq : ∀ H v as, R.rep H v b as → ∃ p, v = .ref p) (hz : xs.length < 12000000) (kk : ∀ p, Sv H0 (G.set i (some (.ow (nl K (rU K)) (xs ++ [.inr p])))) u D) :
    Sv H0 G (tSeq (tDrop (tBM K "list" rAppend (tVar i) (tCons te tNil))) u) D := l_appNx (D := { D with nx := u D }) hi h hq hz kk
theorem EnvO.val {own : Nat → List Addr} {i : Nat} {x : Option V} (E : EnvO own H0 σ H G) : EnvO own H0 (σ.set i x) H (G.set i none) := ⟨E.old, by rw [List.length_set, List.length_set]; exact E.len, E.free, E.apart, fun j c hc => by
  by_cases hj : i = j
  · subst hj
    by_cases hl : i < G.length
    · rw [List.getElem?_set_self hl] at hc; cases hc
    · rw [List.getElem?_eq_none (by rw [List.length_set]; omega)] at hc; cases hc
  · rw [List.getElem?_set_ne hj] at hc
    obtain ⟨v, hv, hk⟩ := E.at_ j c hc
    exact ⟨v, by rw [List.getElem?_set_ne hj]; exact hv, hk⟩⟩
theorem l_catR {i : Nat} {xss : List β} {b : β} (hi : G[i]? = some (some (.ow (nlR K R) xss))) (h : Nw R te G b) (hz : xss.length < 12000000) (kk : Nx H0 (G.set i (some (.ow (nlR K R) (xss ++ [b])))) D.nx) :
    Sv H0 G (tAsg (tOp rCat (tVar i) (tLst (tCons te tNil))) (gName i)) D := fun σ H ⟨H1, e1, E⟩ => by
  obtain ⟨own, E0⟩ := E.o
  obtain ⟨v, hv, p, vs, ss, ea, ev, hp, z, d⟩ := E0.at_ i _ hi
  subst ev
  have hl : i < G.length := (List.getElem?_eq_some_iff.mp hi).1
  refine ⟨_, hv, h H1 σ H E _ fun w H2 as e2 hn hr => ⟨sz (m := 12000000) (show 1 ≤ 12000000 by omega), fun q hq => ⟨p, q, vs, [w], rfl, rfl, same_new hq _ _ (e2 _ _ hp), upd_same, ?_, fun l hL => ?_⟩⟩⟩
  · have := z.lens
    exact Nat.le_of_lt (Nat.lt_of_le_of_lt (show vs.length + 1 ≤ 12000000 by have := z.len; omega) (by decide : 12000000 < sizeLine))
  · refine kk _ _ ⟨H1, e1, ?_⟩
    have s3 : Same H2 (upd (upd H2 q (.lst [w])) l (.lst (vs ++ [w]))) := (same_new hq).trans (same_new hL)
    have E2 := E0.grow (e2.trans s3)
    have l2 : H2 l = none := free_back (same_new hq) hL
    have l0 : H l = none := free_back e2 l2
    have fr : ∀ q ∈ as, Fr own H1 q := fun q hq => E0.fr (hn q hq)
    have inS : ∀ (k : Nat) (t : List Addr), ss[k]? = some t → ∀ r ∈ t, ∃ o, H r = some o := fun k t ht r hr' => by
      have hk : k < xss.length := by rw [← z.lens]; exact (List.getElem?_eq_some_iff.mp ht).1
      obtain ⟨a, s', _, h3, h4⟩ := z.get (List.getElem?_eq_getElem hk)
      rw [ht] at h3
      cases h3
      obtain ⟨o, ho, _⟩ := R.there h4 r hr'
      exact ⟨o, ho⟩
    have dj : DJ l ss := ⟨fun k t ht hm => (by
      obtain ⟨o, ho⟩ := inS k t ht l hm
      rw [l0] at ho
      cases ho), d.2⟩
    have la : ∀ r ∈ as, r ≠ l := fun r hr' e => by
      obtain ⟨o, ho, _⟩ := R.there hr r hr'
      rw [e, l2] at ho
      cases ho
    have key := (E2.val (i := i) (x := some (.ref l))).chg (i := i) (R' := nlR K R) (b' := xss ++ [b]) (v := .ref l) (as' := l :: (ss ++ [as]).flatten) (H' := upd (upd H2 q (.lst [w])) l (.lst (vs ++ [w]))) (by rw [List.length_set]; exact hl) (List.getElem?_set_self (by rw [E0.len]; exact hl)) (fun _ _ _ z => z) (fun r hr' => by
        rcases List.mem_cons.mp hr' with e | e
        · rw [e]
          exact .inr (E0.fr l0)
        · rw [List.flatten_append, List.flatten_cons, List.flatten_nil, List.append_nil] at e
          rcases List.mem_append.mp e with e | e
          · exact .inl (by rw [ea]; exact List.mem_cons_of_mem _ e)
          · exact .inr (fr r e)) ⟨l, _, ss ++ [as], rfl, rfl, upd_same, (z.imp fun a c t _ w => R.stay w (ext_same (e2.trans s3)) fun q _ o ho => s3 _ _ (e2 _ _ ho)).app (.cons (R.stay hr (ext_same s3) fun q _ o ho => s3 _ _ ho) .nil), dj.app fun r hr' => ⟨la r hr', fun hm => by
            obtain ⟨k, t, ht, hr2⟩ := flat_mem hm
            obtain ⟨o, ho⟩ := inS k t ht r hr2
            rw [hn r hr'] at ho
            cases ho⟩⟩
    rw [List.set_set] at key
    exact key
theorem q_catR {i : Nat} {xss : List β} {b : β} (hi : G[i]? = some (some (.ow (nlR K R) xss))) (h : Nw R te G b) (hz : xss.length < 12000000) (kk : Sv H0 (G.set i (some (.ow (nlR K R) (xss ++ [b])))) u D) :
    Sv H0 G (tSeq (tAsg (tOp rCat (tVar i) (tLst (tCons te tNil))) (gName i)) u) D := l_catR (D := { D with nx := u D }) hi h hz kk
end
end
section
abbrev dS (s : Str) : U := .inl (.str s)
abbrev dI (n : Int) : U := .inl (.int n)
abbrev dT (ds : List PyData) : U := .inl (.tuple ds)
def vals8 (a b : Str) (n : Int) (e : U) : List U := [dS a, dI n, dT [.str a, .tuple [.str b, .str a]], dT [.str "strike", .int n], e, dT [.str b, .str b], dT [.tuple [.str a, .tuple []]], dT []]
def vals9 (a b : Str) (n : Int) (e : U) (p : Addr) : List U := [dS a, dI n, dT [.str a, .tuple [.str b, .str a]], dT [.str "strike", .int n], e, dT [.str b, .str b], dT [.tuple [.str a, .tuple []]], dT [], .inr p]
def due9 (a b : Str) (n : Int) : List (List U) := [[dS a], [dS a], [dS a], [dS a], [dS a], [dS a], [dI n], [dT [.str a, .tuple [.str b, .str a]]], [dT [.str "strike", .int n]]]
def dueC (a b : Str) (e : U) : List U := [dS a, dT [.str b, .str a], dT [], e, dT [.str b, .str b], dT [.tuple [.tuple [.str a, .tuple []]], .tuple []]]
def due12 (a b : Str) (n : Int) (e : U) (p : Addr) : List (List U) := due9 a b n ++ [dueC a b e] ++ [[dS a, .inr p, e, dT [.str b, .str b]]] ++ [[dI n, e, dT [.str b, .str b]]]
theorem due_ok {a b : Str} {n : Int} {e : U} {p : Addr} (he : dep60 [e] = true) {x : Int} (h0 : 0 ≤ x) (h1 : x < 12) : ∃ u, atI (due12 a b n e p) x = some u ∧ m_raised x (vals9 a b n e p) = .ok u ∧ dep60 u = true := by
  have d1 : ∀ u, dep60 [u] = true → ∀ us, dep60 us = true → dep60 (u :: us) = true := fun u hu us hus => by
    unfold dep60 at hu hus ⊢
    rw [List.all_cons, List.all_nil, Bool.and_true] at hu
    rw [List.all_cons, hu, hus]
    rfl
  have d0 : dep60 [] = true := rfl
  have ds : ∀ s, dep60 [dS s] = true := fun s => by simp [dep60, PyData.depth]
  have di : ∀ n, dep60 [dI n] = true := fun n => by simp [dep60, PyData.depth]
  have dt : ∀ d, d.depth ≤ 60 → dep60 [.inl d] = true := fun d hd => by simp [dep60, hd]
  have da : ∀ p, dep60 [.inr p] = true := fun p => rfl
  have t1 : dep60 [dT [.str a, .tuple [.str b, .str a]]] = true := dt _ (by simp [PyData.depth, PyData.depthAll])
  have t2 : dep60 [dT [.str "strike", .int n]] = true := dt _ (by simp [PyData.depth, PyData.depthAll])
  have t3 : dep60 [dT [.str b, .str b]] = true := dt _ (by simp [PyData.depth, PyData.depthAll])
  have t4 : dep60 [dT [.str b, .str a]] = true := dt _ (by simp [PyData.depth, PyData.depthAll])
  have t5 : dep60 [dT []] = true := dt _ (by simp [PyData.depth, PyData.depthAll])
  have t6 : dep60 [dT [.tuple [.tuple [.str a, .tuple []]], .tuple []]] = true := dt _ (by simp [PyData.depth, PyData.depthAll])
  obtain ⟨k, rfl⟩ : ∃ k : Nat, x = (k : Int) := ⟨x.toNat, by omega⟩
  have kl : k < 12 := by omega
  match k, kl with
  | 0, _ => exact ⟨_, rfl, rfl, ds _⟩
  | 1, _ => exact ⟨_, rfl, rfl, ds _⟩
  | 2, _ => exact ⟨_, rfl, rfl, ds _⟩
  | 3, _ => exact ⟨_, rfl, rfl, ds _⟩
  | 4, _ => exact ⟨_, rfl, rfl, ds _⟩
  | 5, _ => exact ⟨_, rfl, rfl, ds _⟩
  | 6, _ => exact ⟨_, rfl, rfl, di _⟩
  | 7, _ => exact ⟨_, rfl, rfl, t1⟩
  | 8, _ => exact ⟨_, rfl, rfl, t2⟩
  | 9, _ => exact ⟨_, rfl, rfl, d1 _ (ds _) _ (d1 _ t4 _ (d1 _ t5 _ (d1 _ he _ (d1 _ t3 _ t6))))⟩
  | 10, _ => exact ⟨_, rfl, rfl, d1 _ (ds _) _ (d1 _ (da _) _ (d1 _ he _ t3))⟩
  | 11, _ => exact ⟨_, rfl, rfl, d1 _ (di _) _ (d1 _ he _ t3)⟩
theorem nRec_ref {K : PySem.W.Frag} {α : Type} {C : Addr} {F : RF K α} {H : Hp} {v : V} {x : α} {as : List Addr} (h : (nRec K C F).rep H v x as) : ∃ p, v = .ref p := let ⟨a, _, _, _, e, _⟩ := h; ⟨a, e⟩
theorem nx12 : mforF (fun (_ : Unit) (x : Int) => mb (chk (decide (0 ≤ x ∧ x < 12))) fun _ => (.ok (.nx ()) : M (Fl Unit Bool))) () (ups 12) = .ok (.nx ()) := rfl
end
section
noncomputable def m_is_owner (name1 : Str) : M Bool := mb (mand (decide ((1 : Int) ≤ (name1.length : Int)) && decide ((name1.length : Int) ≤ (8 : Int))) (mb (chk (decide ((chs name1).length ≤ 12000000))) fun _ => mb (mlc (fun (y2 : Str) => .ok true) (fun (y2 : Str) => mb (oM (sgn y2)) fun t3 => .ok (decide (t3 ∈ ("abcdefghijklmnopqrstuvwxyz" : Str).cps.toList))) (chs name1)) fun zs5 => .ok (zs5.all id))) fun c6 => .ok c6
noncomputable def m_owner (sign1 : Str) : M Str := mb (oM (sgn ("." : Str))) fun t2 => bif (decide (t2 ∈ sign1.cps.toList)) then mb (chk (decide ((("." : Str).length == 0) = false))) fun _ => mb (chk (decide (okS (Txt.partition sign1 ("." : Str)).1 ∧ okS (Txt.partition sign1 ("." : Str)).2.1 ∧ okS (Txt.partition sign1 ("." : Str)).2.2))) fun _ => mb (oM (atI ([(Txt.partition sign1 ("." : Str)).1, (Txt.partition sign1 ("." : Str)).2.1, (Txt.partition sign1 ("." : Str)).2.2]) (0 : Int))) fun t5 => .ok t5 else .ok ("" : Str)
noncomputable def m_is_token (sign1 : Str) : M Bool := mb (chk (decide ((("." : Str).length == 0) = false))) fun _ => mb (chk (decide (okS (Txt.rpartition sign1 ("." : Str)).1 ∧ okS (Txt.rpartition sign1 ("." : Str)).2.1 ∧ okS (Txt.rpartition sign1 ("." : Str)).2.2))) fun _ => mb (oM (atI ([(Txt.rpartition sign1 ("." : Str)).1, (Txt.rpartition sign1 ("." : Str)).2.1, (Txt.rpartition sign1 ("." : Str)).2.2]) (2 : Int))) fun t4 => mb (oM (atI (chs t4) (0 : Int))) fun t5 => mb (oM (sgn t5)) fun t6 => .ok (decide (t6 ∈ ("abcdefghijklmnopqrstuvwxyz" : Str).cps.toList))
noncomputable def m_distinct_v1 (things1 : (List (Str × (List Str)))) : M (List (Str × (List Str))) := mb (.ok ([] : (List (Str × (List Str))))) fun found2 => mb (mfor (fun (s3 : (List (Str × (List Str)))) (x4 : (Str × (List Str))) => bif (!(memB x4 s3)) then mb (chk (decide (s3.length < 12000000))) fun _ => mb (.ok (s3 ++ [x4])) fun found7 => .ok found7 else .ok s3) found2 things1) fun s5 => .ok s5
noncomputable def m_Named_init_Extension (x0 : Unit) (name2 : Str) : M (Unit × Str) := mb (calm (m_is_owner name2)) fun t3 => bif (!t3) then .error (.ex "BadName" [("name", (.s (some name2)))]) else .ok ((), name2)
noncomputable def m_Ruled_init_Extension (x0 : (Unit × Str)) (rules2 : (List (Str × (List Str)))) : M ((Unit × Str) × (List (Str × (List Str)))) := mb (calm (m_distinct_v1 rules2)) fun t3 => .ok (((), x0.2), t3)
noncomputable def m_finished_names (rules1 : (List (Str × (List Str)))) (known2 : (List Str)) : M (List (Str × Bool)) := mb (.ok ([] : (List (Str × Bool)))) fun found3 => mb (mfor (fun (s4 : (List (Str × Bool))) (x5 : Str) => mb (chk (decide (s4.length < 12000000))) fun _ => mb (.ok (dput s4 x5 true)) fun found8 => .ok found8) found3 known2) fun s6 => mb (.ok true) fun growing9 => mb (mwhile (fun (s10 : ((List (Str × Bool)) × Bool)) => .ok s10.2) (fun (s10 : ((List (Str × Bool)) × Bool)) => mb (.ok false) fun growing13 => mb (mfor (fun (s14 : ((List (Str × Bool)) × Bool)) (x15 : (Str × (List Str))) => mb (mand (!((dkey s14.1 x15.1).isSome)) (mb (chk (decide (x15.2.length ≤ 12000000))) fun _ => mb (mlc (fun (y17 : Str) => .ok true) (fun (y17 : Str) => mb (m_is_token y17) fun t18 => .ok (t18 || ((dkey s14.1 y17).isSome))) x15.2) fun zs20 => .ok (zs20.all id))) fun c21 => bif c21 then mb (chk (decide (s14.1.length < 12000000))) fun _ => mb (.ok (dput s14.1 x15.1 true)) fun found23 => mb (.ok true) fun growing24 => .ok (found23, growing24) else .ok (s14.1, s14.2)) (s10.1, growing13) rules1) fun s16 => .ok (s16.1, s16.2)) fuel (s6, growing9)) fun s12 => .ok s12.1
noncomputable def m_reached_names (rules1 : (List (Str × (List Str)))) (known2 : (List Str)) : M (List (Str × Bool)) := mb (.ok ([] : (List (Str × Bool)))) fun found3 => mb (mfor (fun (s4 : (List (Str × Bool))) (x5 : Str) => mb (chk (decide (s4.length < 12000000))) fun _ => mb (.ok (dput s4 x5 true)) fun found8 => .ok found8) found3 known2) fun s6 => mb (.ok true) fun growing9 => mb (mwhile (fun (s10 : ((List (Str × Bool)) × Bool)) => .ok s10.2) (fun (s10 : ((List (Str × Bool)) × Bool)) => mb (.ok false) fun growing13 => mb (mfor (fun (s14 : ((List (Str × Bool)) × Bool)) (x15 : (Str × (List Str))) => mb (chk (decide (x15.2.length ≤ 12000000))) fun _ => mb (mlc (fun (y17 : Str) => mb (m_is_token y17) fun t18 => .ok ((!t18) && (!((dkey s14.1 y17).isSome)))) (fun (y17 : Str) => .ok y17) x15.2) fun zs20 => bif (((dkey s14.1 x15.1).isSome) && (!zs20.isEmpty)) then mb (oM (atI zs20 (0 : Int))) fun t21 => mb (chk (decide (s14.1.length < 12000000))) fun _ => mb (.ok (dput s14.1 t21 true)) fun found23 => mb (.ok true) fun growing24 => .ok (found23, growing24) else .ok (s14.1, s14.2)) (s10.1, growing13) rules1) fun s16 => .ok (s16.1, s16.2)) fuel (s6, growing9)) fun s12 => .ok s12.1
noncomputable def m_is_own_head (sign1 : Str) : M Bool := mb (m_owner sign1) fun t2 => mb (mand (!(decide (t2 = ("" : Str)))) (mb (m_is_token sign1) fun t3 => .ok (!t3))) fun c4 => .ok c4
noncomputable def m_check_signs (owners1 : (List Str)) (rules2 : (List (Str × (List Str)))) : M Unit := mb (mfor (fun (s3 : Unit) (x4 : (Str × (List Str))) => mb (chk (decide ([x4.1].length + x4.2.length ≤ 12000000))) fun _ => mb (mfor (fun (s7 : Unit) (x8 : Str) => mb (calm (m_owner x8)) fun t10 => bif ((!(decide (t10 = ("" : Str)))) && (!(decide (t10 ∈ owners1)))) then .error (.ex "BadName" [("name", (.s (some x8)))]) else .ok ()) () ([x4.1] ++ x4.2)) fun s9 => .ok ()) () rules2) fun s5 => .ok ()
noncomputable def m_has_mark (side1 : (List Str)) (rules2 : (List (Str × (List Str)))) : M Bool := mb (mor (!(!side1.isEmpty)) (mb (oM (atI side1 (0 : Int))) fun t3 => mb (m_owner t3) fun t4 => mb (mor (decide (t4 = ("" : Str))) (mb (m_is_token t3) fun t5 => .ok (!t5))) fun c6 => .ok c6)) fun c7 => bif c7 then .ok false else mb (chk (decide (rules2.length ≤ 12000000))) fun _ => mb (mlc (fun (y8 : (Str × (List Str))) => .ok true) (fun (y8 : (Str × (List Str))) => mb (oM (atI side1 (0 : Int))) fun t9 => .ok ((y8.2.count t9 : Nat) : Int)) rules2) fun zs11 => .ok (decide (zs11.sum = (1 : Int)))
noncomputable def m_check_marks (rules1 : (List (Str × (List Str)))) : M Unit := mb (mfor (fun (s2 : Unit) (x3 : (Str × (List Str))) => mb (calm (m_owner x3.1)) fun t5 => mb (calm (mand (decide (t5 = ("" : Str))) (mb (m_has_mark x3.2 rules1) fun t6 => .ok (!t6)))) fun c7 => bif c7 then .error (.ex "BadMark" [("rule", (.r (x3.1, x3.2)))]) else .ok ()) () rules1) fun s4 => .ok ()
noncomputable def m_check_own (rules1 : (List (Str × (List Str)))) : M Unit := mb (chk (decide (rules1.length ≤ 12000000))) fun _ => mb (.ok (rules1.map (fun (y2 : (Str × (List Str))) => y2.1))) fun heads4 => mb (mfor (fun (s5 : Unit) (x6 : (Str × (List Str))) => mb (mfor (fun (s8 : Unit) (x9 : Str) => mb (calm (m_is_own_head x9)) fun t11 => bif (t11 && (!(decide (x9 ∈ heads4)))) then .error (.ex "NoRule" [("name", (.s (some x9)))]) else .ok ()) () x6.2) fun s10 => .ok ()) () rules1) fun s7 => mb (calm (mlc2 (fun (y12 : (Str × (List Str))) => mb (chk (decide ([y12.1].length + y12.2.length ≤ 12000000))) fun _ => .ok ([y12.1] ++ y12.2)) (fun (y12 : (Str × (List Str))) (y13 : Str) => mb (m_owner y13) fun t15 => .ok (decide (t15 = ("" : Str)))) (fun (y12 : (Str × (List Str))) (y13 : Str) => .ok y13) rules1)) fun zs16 => mb (chk (decide (zs16.length ≤ 12000000))) fun _ => mb (chk (decide (heads4.length ≤ 12000000))) fun _ => mb (calm (mlc (fun (y18 : Str) => mb (m_owner y18) fun t19 => .ok (decide (t19 = ("" : Str)))) (fun (y18 : Str) => .ok y18) heads4)) fun zs21 => mb (calm (m_reached_names rules1 zs21)) fun t22 => mb (calm (m_finished_names rules1 zs16)) fun t23 => mb (mfor (fun (s24 : Unit) (x25 : Str) => bif ((!((dkey t22 x25).isSome)) || (!((dkey t23 x25).isSome))) then .error (.ex "Useless" [("name", (.s (some x25)))]) else .ok ()) () heads4) fun s26 => .ok ()
noncomputable def m_Extension___init__ (name2 : Str) (rules3 : (List (Str × (List Str)))) (base4 : (Option (((((Unit × Str) × (List (Str × (List Str)))) × Unit) × (List Str))))) : M (((((Unit × Str) × (List (Str × (List Str)))) × Unit) × (List Str))) := mb (m_Named_init_Extension () name2) fun y5 => mb (.ok ([] : (List (Str × (List Str))))) fun known6 => mb (.ok ([] : (List Str))) fun owners7 => mb (bif (!(isNone' base4)) then mb (oM base4) fun z10 => bif (decide (name2 ∈ z10.2)) then .error (.ex "SameName" [("name", (.s (some name2)))]) else mb (.ok z10.1.1.2) fun known11 => mb (.ok z10.2) fun owners12 => .ok (known11, owners12) else .ok (known6, owners7)) fun (s8 : ((List (Str × (List Str))) × (List Str))) => mb (chk (decide (s8.1.length + rules3.length ≤ 12000000))) fun _ => mb (m_Ruled_init_Extension ((), y5.2) (s8.1 ++ rules3)) fun y14 => mb (chk (decide (s8.2.length + [name2].length ≤ 12000000))) fun _ => mb (m_check_signs (s8.2 ++ [name2]) y14.2) fun _ => mb (m_check_marks y14.2) fun _ => mb (m_check_own y14.2) fun _ => .ok (((((), y14.1.2), y14.2), ()), (s8.2 ++ [name2]))
noncomputable def m__law_cell (script1 : (List Int)) (k2 : Int) : M Int := mb (bif (decide (k2 < (script1.length : Int))) then mb (oM (atI script1 k2)) fun t3 => .ok t3 else .ok (0 : Int)) fun c4 => .ok c4
noncomputable def m__law_draws (cellhere1 : Int) (many2 : Int) : M (List Int) := mb (.ok (cellhere1 * (b2 (decide (((10 : Int) ^ ((18 : Int)).toNat) ≤ cellhere1))))) fun rest3 => mb (.ok ([] : (List Int))) fun row4 => mb (chk (decide (-12000000 ≤ many2 ∧ many2 ≤ 12000000))) fun _ => mb (mfor (fun (s6 : (Int × (List Int))) (x7 : Int) => bif (decide ((0 : Int) < s6.1)) then mb (chk (decide (s6.2.length < 12000000))) fun _ => mb (.ok (s6.2 ++ [s6.1 % (840 : Int)])) fun row10 => mb (.ok (s6.1 / (840 : Int))) fun rest11 => .ok (rest11, row10) else mb (.ok ((((cellhere1 * (48271 : Int)) + (x7 * (6961 : Int))) + (1013 : Int)) % (1000003 : Int))) fun mixed12 => mb (chk (decide (CMul mixed12 mixed12))) fun _ => mb (.ok ((((mixed12 * mixed12) + ((11 : Int) * mixed12)) + x7) % (999983 : Int))) fun mixed14 => mb (chk (decide (CMul mixed14 mixed14))) fun _ => mb (chk (decide (s6.2.length < 12000000))) fun _ => mb (.ok (s6.2 ++ [(((mixed14 * mixed14) + ((3 : Int) * mixed14)) % (99991 : Int)) % (840 : Int)])) fun row17 => .ok (s6.1, row17)) (rest3, row4) (ups many2.toNat)) fun s8 => .ok s8.2
noncomputable def m__law_word (row1 : (List Int)) (capital2 : Bool) : M Str := mb (.ok ("abcdefghijklmnopqrstuvwxyz" : Str)) fun letters3 => mb (oM (atI row1 (1 : Int))) fun t4 => mb (oM (atI (chs letters3) (t4 % (26 : Int)))) fun t5 => mb (bif capital2 then mb (chk (decide (okS (Txt.upper t5)))) fun _ => mb (.ok (Txt.upper t5)) fun text8 => .ok text8 else .ok t5) fun (s6 : Str) => mb (chk (decide (okS (Txt.upper letters3)))) fun _ => mb (chk (decide (letters3.length + (Txt.upper letters3).length ≤ 100000))) fun _ => mb (chk (decide ((letters3 ++ (Txt.upper letters3)).length + ("0123456789" : Str).length ≤ 100000))) fun _ => mb (.ok ((letters3 ++ (Txt.upper letters3)) ++ ("0123456789" : Str))) fun every12 => mb (oM (atI row1 (0 : Int))) fun t13 => mb (mfor (fun (s14 : Str) (x15 : Int) => mb (oM (atI (chs every12) (x15 % (62 : Int)))) fun t17 => mb (chk (decide (s14.length + t17.length ≤ 100000))) fun _ => mb (.ok (s14 ++ t17)) fun text19 => .ok text19) s6 (cut row1 (some (2 : Int)) (some ((2 : Int) + (t13 % (8 : Int)))))) fun s16 => mb (bif (decide (((t13 / (8 : Int)) % (3 : Int)) = (0 : Int))) then mb (.ok ("" : Str)) fun name21 => mb (mfor (fun (s22 : Str) (x23 : Int) => mb (oM (atI (chs letters3) (x23 % (26 : Int)))) fun t25 => mb (chk (decide (s22.length + t25.length ≤ 100000))) fun _ => mb (.ok (s22 ++ t25)) fun name27 => .ok name27) name21 (cut row1 (some (9 : Int)) (some ((10 : Int) + ((t13 / (24 : Int)) % (8 : Int)))))) fun s24 => mb (chk (decide (s24.length + ("." : Str).length ≤ 100000))) fun _ => mb (chk (decide ((s24 ++ ("." : Str)).length + s16.length ≤ 100000))) fun _ => mb (.ok ((s24 ++ ("." : Str)) ++ s16)) fun text30 => .ok text30 else .ok s16) fun (s20 : Str) => mb (bif (decide (((t13 / (192 : Int)) % (4 : Int)) = (3 : Int))) then mb (.ok ([("" : Str), ("." : Str), ("9a" : Str), ("a b" : Str), ("a-b" : Str), (".a" : Str), ("a." : Str), ("a.b.c" : Str), ("A.b" : Str), ("a1.c" : Str), ("abcdefghi" : Str)])) fun odd32 => mb (chk (decide (odd32.length + ([("abcdefghi.a" : Str), ("a.9" : Str), ("a..b" : Str), ("ABCDEFGHI" : Str), ("a.Bcdefghij" : Str), (" a" : Str), ("a " : Str), ("x.a b" : Str)]).length ≤ 12000000))) fun _ => mb (.ok (odd32 ++ ([("abcdefghi.a" : Str), ("a.9" : Str), ("a..b" : Str), ("ABCDEFGHI" : Str), ("a.Bcdefghij" : Str), (" a" : Str), ("a " : Str), ("x.a b" : Str)]))) fun odd34 => mb (chk (decide (odd34.length + ([("x.A-" : Str), ("a_b" : Str), ("A\n" : Str), ("->" : Str), ("Ab.C" : Str), ("x y.a" : Str), ("7.a" : Str)]).length ≤ 12000000))) fun _ => mb (.ok (odd34 ++ ([("x.A-" : Str), ("a_b" : Str), ("A\n" : Str), ("->" : Str), ("Ab.C" : Str), ("x y.a" : Str), ("7.a" : Str)]))) fun odd36 => mb (chk (decide (0 < (odd36.length : Int)))) fun _ => mb (oM (atI odd36 (t4 % (odd36.length : Int)))) fun t38 => .ok t38 else .ok s20) fun (s31 : Str) => .ok s31
noncomputable def m_law (script1 : (List Int)) : M Bool := mb (m__law_cell script1 (0 : Int)) fun t2 => mb (m__law_draws t2 (40 : Int)) fun t3 => mb (m__law_word (cut t3 none (some (18 : Int))) true) fun t4 => mb (m__law_word (cut t3 (some (18 : Int)) (some (36 : Int))) false) fun t5 => mb (m__law_cell script1 (1 : Int)) fun t6 => mb (chk (decide (0 < ((10 : Int) ^ ((9 : Int)).toNat)))) fun _ => mb (.ok (t6 % ((10 : Int) ^ ((9 : Int)).toNat))) fun number8 => mb (m_Extension___init__ ("x" : Str) ([] : List (Str × List Str)) (none : (Option (((((Unit × Str) × (List (Str × (List Str)))) × Unit) × (List Str)))))) fun t10 => mb (oM (atI t3 (36 : Int))) fun t9 => .ok true
end
section
end
section
def cellAt (ns : List Int) (k : Int) : Int := bif decide (k < (ns.length : Int)) then ns.getD k.toNat 0 else 0
theorem t_cell {ns : List Int} {k : Int} (h : 0 ≤ k) : m__law_cell ns k = .ok (cellAt ns k) := by
  unfold m__law_cell cellAt
  cases e : decide (k < (ns.length : Int)) with
  | false => rfl
  | true =>
    have h1 := of_decide_eq_true e
    obtain ⟨x, e1, e2, _⟩ := atI_in (xs := ns) h h1
    rw [cond_true, mb_of (mb_of (oM_of e1)), cond_true]
    show mb (.ok x) _ = _
    rw [List.getD_eq_getElem?_getD, e2]
    rfl
theorem t_draws {c n : Int} (h : 0 ≤ n ∧ n ≤ 1000) : Tt (m__law_draws c n) fun row => row.length = n.toNat ∧ ∀ d ∈ row, 0 ≤ d ∧ d < 840 := by
  unfold m__law_draws
  refine Tt.let (Tt.let (Tt.chk (by omega) ?_))
  refine (Tt.for (fun (pre : List Int) (s : Int × List Int) => s.2.length = pre.length ∧ ∀ d ∈ s.2, 0 ≤ d ∧ d < 840) ⟨rfl, by intro d hd; cases hd⟩ ?_).bind fun s hs => Tt.ret ⟨by rw [hs.1, ups_len], hs.2⟩
  intro pre x post s hx ⟨hl, hd⟩
  have h3 := congrArg List.length hx
  rw [ups_len, List.length_append, List.length_cons] at h3
  have app : ∀ v : Int, 0 ≤ v ∧ v < 840 → (s.2 ++ [v]).length = (pre ++ [x]).length ∧ ∀ d ∈ s.2 ++ [v], 0 ≤ d ∧ d < 840 := fun v hv => by
    refine ⟨by rw [List.length_append, List.length_append, hl]; rfl, fun d hm => ?_⟩
    rcases List.mem_append.mp hm with q | q
    · exact hd d q
    · rw [List.mem_singleton.mp q]; exact hv
  refine Tt.if (fun _ => ?_) fun _ => ?_
  · exact Tt.chk (by omega) (Tt.let (Tt.let (Tt.ret (app _ ⟨Int.emod_nonneg _ (by decide), Int.emod_lt_of_pos _ (by decide)⟩))))
  · refine Tt.let ?_
    have h1 : ∀ a : Int, CMul (a % 1000003) (a % 1000003) := fun a => .inl (by omega)
    have h2 : ∀ a : Int, CMul (a % 999983) (a % 999983) := fun a => .inl (by omega)
    refine Tt.chk (h1 _) (Tt.let (Tt.chk (h2 _) (Tt.chk (by omega) (Tt.let (Tt.ret (app _ ⟨?_, ?_⟩))))))
    · exact Int.emod_nonneg _ (by decide)
    · exact Int.emod_lt_of_pos _ (by decide)
end
section
abbrev azS : Str := "abcdefghijklmnopqrstuvwxyz"
abbrev dgS : Str := "0123456789"
def Asc (w : Str) : Prop := w.length ≤ 600 ∧ ∀ c ∈ TL.tl w, c < 128
theorem asc_okS {w : Str} (h : Asc w) : okS w := by
  refine ⟨by have := h.1; omega, ?_⟩
  rw [← Array.all_toList, List.all_eq_true]
  intro c hc
  have := h.2 c hc
  exact decide_eq_true (by omega)
end
section
def AscN (n : Nat) (w : Str) : Prop := w.length ≤ n ∧ ∀ c ∈ TL.tl w, c < 128
instance (n : Nat) (w : Str) : Decidable (AscN n w) := by unfold AscN; infer_instance
theorem AscN.app {a b : Str} {m n k : Nat} (h : AscN m a) (h' : AscN n b) (e : m + n ≤ k) : AscN k (a ++ b) ∧ a.length + b.length ≤ 12000000 + k := by
  have hl : (a ++ b).length = a.length + b.length := by
    show (a.cps ++ b.cps).size = _
    rw [Array.size_append]
    rfl
  refine ⟨⟨by have := h.1; have := h'.1; omega, fun c hc => ?_⟩, by have := h.1; have := h'.1; omega⟩
  rw [TL.tl_append] at hc
  rcases List.mem_append.mp hc with q | q
  · exact h.2 c q
  · exact h'.2 c q
theorem AscN.asc {n : Nat} {w : Str} (h : AscN n w) (e : n ≤ 600) : Asc w := ⟨Nat.le_trans h.1 e, h.2⟩
theorem ch_az : ∀ x ∈ chs azS, AscN 1 x ∧ AscN 1 (Txt.upper x) := by decide +kernel
abbrev anS : Str := (azS ++ Txt.upper azS) ++ dgS
theorem ch_an : ∀ x ∈ chs anS, AscN 1 x := by decide +kernel
abbrev oddS : List Str := ([("" : Str), ("." : Str), ("9a" : Str), ("a b" : Str), ("a-b" : Str), (".a" : Str), ("a." : Str), ("a.b.c" : Str), ("A.b" : Str), ("a1.c" : Str), ("abcdefghi" : Str)] ++ [("abcdefghi.a" : Str), ("a.9" : Str), ("a..b" : Str), ("ABCDEFGHI" : Str), ("a.Bcdefghij" : Str), (" a" : Str), ("a " : Str), ("x.a b" : Str)]) ++ [("x.A-" : Str), ("a_b" : Str), ("A\n" : Str), ("->" : Str), ("Ab.C" : Str), ("x y.a" : Str), ("7.a" : Str)]
theorem odd_asc : ∀ x ∈ oddS, AscN 20 x := by decide +kernel
theorem az26 : ((chs azS).length : Int) = 26 := by decide +kernel
theorem an62 : ((chs anS).length : Int) = 62 := by decide +kernel
theorem glue_asc {src : Str} {m : Int} {k : Nat} (hm : 0 < m) (hs : ((chs src).length : Int) = m) (ha : ∀ x ∈ chs src, AscN 1 x) {ds : List Int} {t : Str} (h : AscN k t) (hk : k + ds.length ≤ 500) :
    Tt (mfor (fun (s : Str) (x : Int) => mb (oM (atI (chs src) (x % m))) fun c => mb (chk (decide (s.length + c.length ≤ 100000))) fun _ => mb (.ok (s ++ c)) fun z => .ok z) t ds) (AscN (k + ds.length)) := by
  refine Tt.for (fun (pre : List Int) (s : Str) => AscN (k + pre.length) s) h ?_
  intro pre x post s hx hI
  have hl := congrArg List.length hx
  rw [List.length_append, List.length_cons] at hl
  have e0 := Int.emod_nonneg x (show m ≠ 0 by omega)
  have e1 := Int.emod_lt_of_pos x hm
  refine Tt.ix e0 (by omega) fun c hc _ => ?_
  have hc := ha c hc
  obtain ⟨h1, h2⟩ := hI.app hc (Nat.le_refl _)
  refine Tt.chk (by have := hI.1; have := hc.1; omega) (Tt.let (Tt.ret ?_))
  rw [List.length_append, List.length_singleton, ← Nat.add_assoc]
  exact h1
theorem t_word {row : List Int} {cap : Bool} (hl : row.length = 18) : Tt (m__law_word row cap) Asc := by
  unfold m__law_word
  refine Tt.let (Tt.ix (by decide) (by omega) fun d1 _ _ => Tt.ix (Int.emod_nonneg _ (by decide)) (by rw [az26]; exact Int.emod_lt_of_pos _ (by decide)) fun c hc _ => ?_)
  obtain ⟨c1, c2⟩ := ch_az c hc
  refine Tt.bind (P := AscN 1) (Tt.if (fun _ => Tt.chk (asc_okS (c2.asc (by decide))) (Tt.let (Tt.ret c2))) fun _ => Tt.ret c1) fun s hs => ?_
  refine Tt.chk (by decide +kernel) (Tt.chk (by decide +kernel) (Tt.chk (by decide +kernel) (Tt.let (Tt.ix (by decide) (by omega) fun d0 _ _ => ?_))))
  have k1 := cut_le row (some 2) (some (2 + d0 % 8))
  refine (glue_asc (src := anS) (m := 62) (by decide) an62 ch_an hs (by omega)).bind fun w hw => ?_
  have hw : AscN 19 w := ⟨by have := hw.1; omega, hw.2⟩
  refine Tt.bind (P := AscN 60) (Tt.if (fun _ => ?_) fun _ => Tt.ret ⟨by have := hw.1; omega, hw.2⟩) fun s2 h2 => ?_
  · have k2 := cut_le row (some 9) (some (10 + d0 / 24 % 8))
    refine Tt.let ((glue_asc (src := azS) (m := 26) (k := 0) (by decide) az26 (fun x hx => (ch_az x hx).1) (by decide +kernel) (by omega)).bind fun o ho => ?_)
    have ho : AscN 18 o := ⟨by have := ho.1; omega, ho.2⟩
    have dd : AscN 1 ("." : Str) := by decide +kernel
    obtain ⟨h3, _⟩ := ho.app dd (Nat.le_refl _)
    obtain ⟨h4, _⟩ := h3.app hw (k := 60) (by decide)
    exact Tt.chk (by have := ho.1; have := dd.1; omega) (Tt.chk (by have := h3.1; have := hw.1; omega) (Tt.let (Tt.ret h4)))
  refine Tt.bind (P := AscN 60) (Tt.if (fun _ => ?_) fun _ => Tt.ret h2) fun s3 h3 => Tt.ret (h3.asc (by decide))
  refine Tt.let (Tt.chk (by decide +kernel) (Tt.let (Tt.chk (by decide +kernel) (Tt.let (Tt.chk (by decide +kernel) ?_)))))
  refine Tt.ix (Int.emod_nonneg _ (by decide +kernel)) (Int.emod_lt_of_pos _ (by decide +kernel)) fun o ho _ => Tt.ret ?_
  have := odd_asc o ho
  exact ⟨by have := this.1; omega, this.2⟩
end
section
theorem cut_take {α : Type} {xs : List α} {i : Int} (h0 : 0 ≤ i) (h1 : i ≤ xs.length) : cut xs none (some i) = xs.take i.toNat := by
  unfold cut
  rw [sIx_in h0 h1, HT.sIx_none, List.drop_zero, Nat.sub_zero]
end
section
theorem ext_x : ∃ r, m_Extension___init__ ("x" : Str) ([] : List (Str × List Str)) (none : (Option (((((Unit × Str) × (List (Str × (List Str)))) × Unit) × (List Str))))) = .ok r := ⟨_, rfl⟩
theorem law_ok (ns : List Int) : m_law ns = .ok true := by
  refine Tt.eq ?_
  unfold m_law
  obtain ⟨r, hr⟩ := ext_x
  refine Tt.by (t_cell (by decide)) ((t_draws (by decide)).bind fun row hrow => ?_)
  have hl : row.length = 40 := hrow.1
  have w1 : (cut row none (some 18)).length = 18 := by
    rw [cut_take (by decide) (by omega), List.length_take]
    show min 18 row.length = 18
    omega
  have w2 : (cut row (some 18) (some 36)).length = 18 := by
    rw [cut_len_in (by decide) (by decide) (by omega)]
    rfl
  refine (t_word w1).bind fun a _ => (t_word w2).bind fun b _ => Tt.by (t_cell (by decide)) (Tt.chk (by decide) (Tt.let (Tt.by hr (Tt.ix (by decide) (by omega) fun _ _ _ => Tt.ret rfl))))
end
section
local macro_rules
  | `(tactic| walk_at "ev_tVar") => `(tactic| (first
    | ((with_reducible show Ev (rL (rO _)) _ _ (List.map Option.some _)); apply ev_LO)
    | ((with_reducible show Ev (rT _ (rO _)) _ _ (List.map Option.some _)); apply ev_TO)
    | ((with_reducible show Ev (rEi _ _) _ _ _); first | exact a_ro (by rfl) | exact ei_T (a_fz (by rfl)) | apply ei_L)
    | ((with_reducible show Ev (rO _) (tVar _) _ _); first | exact a_noRs (by rfl) | exact a_nO (by rfl) | exact a_nOL (by rfl) | exact a_nOD (by rfl))
    | ((with_reducible show Ev (rH2 _ _) (tVar _) _ _); first | exact a_H2 (by rfl) | exact a_ro (by rfl))
    | ((with_reducible show Ev _ (tVar _) _ _); first | exact a_roV (by rfl) | exact ev_unsome (a_nOL (by rfl)) (by assumption) | exact ev_unsome (a_nOD (by rfl)) (by assumption))
    | ((with_reducible show Ev (rDm _) _ _ (Dm.s _)); apply ev_Ds)
    | ((with_reducible show Ev (rDm _) _ _ (Dm.r _)); apply ev_Dr)
    | ((with_reducible show Ev (rDm _) _ _ (Dm.b _)); apply ev_Db)
    | ((with_reducible show Ev (rDm _) _ _ Dm.n); exact ev_Dn0)
    | ((with_reducible show Ev (rRec _ _ _) (tVar _) _ _); first | exact a_ro (by rfl) | exact a_noR (by rfl) | exact a_gro (by rfl) | exact a_roV (by rfl) | exact ev_unsome (a_nO (by rfl)) (by assumption))
    | ((with_reducible show Ev (rDp _) (tVar _) _ _); first | exact a_ndp (by rfl) | exact a_ro (by rfl))
    | ((with_reducible show Ev (rPD _ _ _ _) (tVar _) _ _); first | exact a_ro (by rfl) | exact a_pdO (by rfl) (by assumption) | exact a_pdOO (by rfl) (by assumption) (by assumption))
    | ((with_reducible show Ev _ _ _ (catS _ _)); refine ev_js ?_ ?_)
    | ((with_reducible show Ev _ (tVar _) _ _); first | exact ev_lkA (a_ro (by rfl)) | exact ev_dp (a_ro (by rfl)) | exact a_roS (by rfl) (by assumption) | exact a_al (by rfl) (by rfl) (by assumption) | exact a_alF (i := 0) (by rfl) (by rfl) (by first | exact fat_hd | exact fat_tl fat_hd | exact fat_tl (fat_tl fat_hd) | exact fat_tl (fat_tl (fat_tl fat_hd))) (by exact rfl) | exact a_fz (by rfl) | exact a_lst (by rfl) | exact a_nlA (by rfl) | exact a_nlR (by rfl) | exact a_ndR (by rfl) | exact a_nlRz (by rfl) | exact a_H3 (by rfl) | exact a_ro (by rfl) | exact a_one (by rfl) | exact a_dct (by rfl) | exact a_lkd (by rfl) | exact a_roA (by rfl) | exact a_oneA (by rfl) | exact a_noR (by rfl) | exact a_some (by rfl) (by assumption) | exact a_alias (i := 0) (by rfl) (by rfl) | exact a_alias (i := 1) (by rfl) (by rfl) | exact a_alias (i := 2) (by rfl) (by rfl) | exact a_alias (i := 3) (by rfl) (by rfl) | exact a_alias (i := 4) (by rfl) (by rfl) | exact a_alias (i := 5) (by rfl) (by rfl) | exact a_alias (i := 6) (by rfl) (by rfl))
    | ((with_reducible show Ev (rO _) (tVar _) _ (Option.some _)); first | exact a_fz (by rfl) | exact a_noRs (by rfl) | apply Ev.some)
    | ((with_reducible show Ev _ _ _ _); with_reducible first | apply ev_chain_le | apply ev_chain_lelt | apply ev_neg | apply ev_and | apply ev_or | apply ev_not | apply ev_if | apply a_callM | apply a_callX | apply a_call | apply ev_upper | apply ev_partition | apply ev_rpartition | apply ev_join | apply ev_joinT | apply ev_ljust | apply ev_slS | apply ev_slT | apply a_pair | apply a_tup | apply a_dIn | apply a_dNin | exact ev_Z | apply a_dget2 | apply a_dget | apply ev_mthX | apply a_mthM | apply a_mth | apply a_nl | apply a_no | apply a_nd | apply a_nOeL | apply a_nR)
    | ((with_reducible show Ev (rT _ _) _ _ _); refine ev_TA ?_ (by assumption))))
  | `(tactic| walk_at "ev_tFld") => `(tactic| (first
    | ((with_reducible show Ev (rL (rO _)) _ _ (List.map Option.some _)); apply ev_LO)
    | ((with_reducible show Ev (rT _ (rO _)) _ _ (List.map Option.some _)); apply ev_TO)
    | ((with_reducible show Ev _ (tFld _ (tFld _ _ _) _) _ _); apply a_recF)
    | ((with_reducible show Ev (rEi _ _) (tFld _ _ _) _ _); exact a_recE (by first | exact a_ro (by rfl) | exact a_noR (by rfl) | exact a_gro (by rfl) | exact a_roS (by rfl) (by assumption)) (by first | exact fldA_hd (by simp only [fA, fN]; decide) | exact fldA_tl (fldA_hd (by simp only [fA, fN]; decide)) | exact fldA_tl (fldA_tl (fldA_hd (by simp only [fA, fN]; decide))) | exact fldA_tl (fldA_tl (fldA_tl (fldA_hd (by simp only [fA, fN]; decide)))) | exact fldA_tl (fldA_tl (fldA_tl (fldA_tl (fldA_hd (by simp only [fA, fN]; decide))))) | exact fld_hd | exact fld_tl fld_hd (by decide)) (by assumption) (by assumption) (by exact rfl))
    | ((with_reducible show Ev (rEi _ _) _ _ _); first | exact a_ro (by rfl) | exact ei_T (a_fz (by rfl)) | apply ei_L)
    | ((with_reducible show Ev (rPD _ _ _ _) (tFld _ _ _) _ _); refine a_recFpd (by first | exact a_ro (by rfl) | exact a_noR (by rfl) | exact a_roS (by rfl) (by assumption)) (by first | exact fldA_hd (by simp only [fA, fN]; decide) | exact fldA_tl (fldA_hd (by simp only [fA, fN]; decide)) | exact fldA_tl (fldA_tl (fldA_hd (by simp only [fA, fN]; decide)))) (by assumption) (by assumption) (by exact rfl) (by assumption))
    | ((with_reducible show Ev (rDm _) _ _ (Dm.s _)); apply ev_Ds)
    | ((with_reducible show Ev (rDm _) _ _ (Dm.r _)); apply ev_Dr)
    | ((with_reducible show Ev (rDm _) _ _ (Dm.b _)); apply ev_Db)
    | ((with_reducible show Ev (rDm _) _ _ Dm.n); exact ev_Dn0)
    | ((with_reducible show Ev (rDp _) (tFld _ _ _) _ _); exact a_recF (by first | exact a_ro (by rfl) | exact a_roS (by rfl) (by assumption)) (by first | exact fldA_hd (by simp only [fA, fN]; decide) | exact fldA_tl (fldA_hd (by simp only [fA, fN]; decide)) | exact fldA_tl (fldA_tl (fldA_hd (by simp only [fA, fN]; decide))) | exact fldA_tl (fldA_tl (fldA_tl (fldA_hd (by simp only [fA, fN]; decide)))) | exact fldA_tl (fldA_tl (fldA_tl (fldA_tl (fldA_hd (by simp only [fA, fN]; decide)))))) bor_ndp (by assumption) (by assumption) (by exact rfl))
    | ((with_reducible show Ev _ _ _ (catS _ _)); refine ev_js ?_ ?_)
    | ((with_reducible show Ev _ (tFld _ _ _) _ _); first | exact a_recF (by first | exact a_ro (by rfl) | exact a_noR (by rfl) | exact a_gro (by rfl) | exact a_roS (by rfl) (by assumption)) (by first | exact fldA_hd (by simp only [fA, fN]; decide) | exact fldA_tl (fldA_hd (by simp only [fA, fN]; decide)) | exact fldA_tl (fldA_tl (fldA_hd (by simp only [fA, fN]; decide))) | exact fldA_tl (fldA_tl (fldA_tl (fldA_hd (by simp only [fA, fN]; decide)))) | exact fldA_tl (fldA_tl (fldA_tl (fldA_tl (fldA_hd (by simp only [fA, fN]; decide))))) | exact fld_hd | exact fld_tl fld_hd (by decide)) inferInstance (by assumption) (by assumption) (by exact rfl) | with_reducible apply a_oneF | with_reducible apply a_recF)
    | ((with_reducible show Ev _ _ _ _); with_reducible first | apply ev_chain_le | apply ev_chain_lelt | apply ev_neg | apply ev_and | apply ev_or | apply ev_not | apply ev_if | apply a_callM | apply a_callX | apply a_call | apply ev_upper | apply ev_partition | apply ev_rpartition | apply ev_join | apply ev_joinT | apply ev_ljust | apply ev_slS | apply ev_slT | apply a_pair | apply a_tup | apply a_dIn | apply a_dNin | exact ev_Z | apply a_dget2 | apply a_dget | apply ev_mthX | apply a_mthM | apply a_mth | apply a_nl | apply a_no | apply a_nd | apply a_nOeL | apply a_nR)
    | ((with_reducible show Ev (rT _ _) _ _ _); refine ev_TA ?_ (by assumption))))
  | `(tactic| walk_at "ev_tOp") => `(tactic| (first
    | ((with_reducible show Ev _ (tOp (rIx _) (tVar _) (tC (.int 0))) _ _); exact ev_g0 (a_H2 (by rfl)))
    | ((with_reducible show Ev _ (tOp (rIx _) (tVar _) (tC (.int 1))) _ _); exact ev_g1 (a_H2 (by rfl)))
    | ((with_reducible show Ev _ (tOp (rOwnIn _ _ _ _) _ _) _ _); first | apply a_inOM | apply a_ninOM)
    | ((with_reducible show Ev (rL (rO _)) _ _ (List.map Option.some _)); apply ev_LO)
    | ((with_reducible show Ev (rT _ (rO _)) _ _ (List.map Option.some _)); apply ev_TO)
    | ((with_reducible show Ev _ (tOp (rInD _) _ _) _ (memB _ (List.map Option.some _))); apply a_inLO)
    | ((with_reducible show Ev _ (tOp (rNotInD _) _ _) _ (!memB _ (List.map Option.some _))); apply a_ninLO)
    | ((with_reducible show Ev rB (tOp (rIx _) (tCall _ _ _ _) _) _ (Prod.snd _)); apply ev_newH1)
    | ((with_reducible show Ev (rEi _ _) _ _ _); first | exact a_ro (by rfl) | exact ei_T (a_fz (by rfl)) | apply ei_L)
    | ((with_reducible show Ev (rDm _) _ _ (Dm.s _)); apply ev_Ds)
    | ((with_reducible show Ev (rDm _) _ _ (Dm.r _)); apply ev_Dr)
    | ((with_reducible show Ev (rDm _) _ _ (Dm.b _)); apply ev_Db)
    | ((with_reducible show Ev (rDm _) _ _ Dm.n); exact ev_Dn0)
    | ((with_reducible show Ev (rL (rRec _ _ _)) (tOp _ _ _) _ _); apply ev_catM)
    | ((with_reducible show Ev _ (tOp (rPEq _ _ _) _ _) _ _); apply a_peq)
    | ((with_reducible show Ev _ _ _ (catS _ _)); refine ev_js ?_ ?_)
    | ((with_reducible show Ev (rO _) (tOp (rIx _) _ _) _ (Option.some _)); apply Ev.some)
    | ((with_reducible show Ev _ (tOp _ _ _) _ _); with_reducible first | apply ev_add | apply ev_sub | apply ev_mul | apply ev_mulS | apply ev_div | apply ev_mod | apply ev_pow | apply ev_lt | apply ev_le | apply ev_gt | apply ev_ge | apply a_eq | apply a_ne | apply a_in | apply a_nin | apply a_inSg | apply a_ninSg | apply a_ix | apply ev_addS | apply a_isN | apply a_notN | apply a_eqD | apply a_neD | apply a_inLD | apply a_ninLD | apply a_inTD | apply a_ninTD | apply ev_catT | apply a_isB | apply a_nisB | apply a_ltS | apply a_cmpOM | apply a_cmpO | apply a_nl)
    | ((with_reducible show Ev _ _ _ _); with_reducible first | apply ev_chain_le | apply ev_chain_lelt | apply ev_neg | apply ev_and | apply ev_or | apply ev_not | apply ev_if | apply a_callM | apply a_callX | apply a_call | apply ev_upper | apply ev_partition | apply ev_rpartition | apply ev_join | apply ev_joinT | apply ev_ljust | apply ev_slS | apply ev_slT | apply a_pair | apply a_tup | apply a_dIn | apply a_dNin | exact ev_Z | apply a_dget2 | apply a_dget | apply ev_mthX | apply a_mthM | apply a_mth | apply a_nl | apply a_no | apply a_nd | apply a_nOeL | apply a_nR)
    | ((with_reducible show Ev (rT _ _) _ _ _); refine ev_TA ?_ (by assumption))))
  | `(tactic| walk_at "ev_tCB") => `(tactic| (first
    | ((with_reducible show Ev (rL (rO _)) _ _ (List.map Option.some _)); apply ev_LO)
    | ((with_reducible show Ev (rT _ (rO _)) _ _ (List.map Option.some _)); apply ev_TO)
    | ((with_reducible show Ev (rEi _ _) (tCB (rTupU _) _) _ _); apply ei_T)
    | ((with_reducible show Ev (rEi _ _) _ _ _); first | exact a_ro (by rfl) | exact ei_T (a_fz (by rfl)) | apply ei_L)
    | ((with_reducible show Ev (rDm _) _ _ (Dm.s _)); apply ev_Ds)
    | ((with_reducible show Ev (rDm _) _ _ (Dm.r _)); apply ev_Dr)
    | ((with_reducible show Ev (rDm _) _ _ (Dm.b _)); apply ev_Db)
    | ((with_reducible show Ev (rDm _) _ _ Dm.n); exact ev_Dn0)
    | ((with_reducible show Ev _ _ _ (catS _ _)); refine ev_js ?_ ?_)
    | ((with_reducible show Ev _ (tCB (rIsX _ _ _ _) _) _ _); exact a_isX (by rfl) (by assumption))
    | ((with_reducible show Ev _ (tCB (rIsi _) (tCons _ (tCons (tC (.ref _)) tNil))) _ _); apply a_isiC)
    | ((with_reducible show Ev _ (tCB (rIsi _) _) _ (!isNone' _)); apply a_isiO)
    | ((with_reducible show Ev _ (tCB (rIsiP _ _ _) _) _ _); apply a_isiP)
    | ((with_reducible show Ev _ (tCB (rLenP _ _ _) _) _ _); apply a_lenP)
    | ((with_reducible show Ev _ (tCB (rStrO _ _) _) _ _); apply a_strO)
    | ((with_reducible show Ev _ (tCB _ _) _ _); with_reducible first | apply a_len | apply a_strS | apply a_int | apply ev_all | apply ev_any | apply ev_sum | apply a_tupC | apply a_isi | apply a_nl)
    | ((with_reducible show Ev _ _ _ _); with_reducible first | apply ev_chain_le | apply ev_chain_lelt | apply ev_neg | apply ev_and | apply ev_or | apply ev_not | apply ev_if | apply a_callM | apply a_callX | apply a_call | apply ev_upper | apply ev_partition | apply ev_rpartition | apply ev_join | apply ev_joinT | apply ev_ljust | apply ev_slS | apply ev_slT | apply a_pair | apply a_tup | apply a_dIn | apply a_dNin | exact ev_Z | apply a_dget2 | apply a_dget | apply ev_mthX | apply a_mthM | apply a_mth | apply a_nl | apply a_no | apply a_nd | apply a_nOeL | apply a_nR)
    | ((with_reducible show Ev (rT _ _) _ _ _); refine ev_TA ?_ (by assumption))))
  | `(tactic| walk_at "ev_tC") => `(tactic| (first
    | ((with_reducible show Ev (rL (rO _)) _ _ (List.map Option.some _)); apply ev_LO)
    | ((with_reducible show Ev (rT _ (rO _)) _ _ (List.map Option.some _)); apply ev_TO)
    | ((with_reducible show Ev (rEi _ _) _ _ _); first | exact a_ro (by rfl) | exact ei_T (a_fz (by rfl)) | apply ei_L)
    | ((with_reducible show Ev (rDm _) _ _ (Dm.s _)); apply ev_Ds)
    | ((with_reducible show Ev (rDm _) _ _ (Dm.r _)); apply ev_Dr)
    | ((with_reducible show Ev (rDm _) _ _ (Dm.b _)); apply ev_Db)
    | ((with_reducible show Ev (rDm _) _ _ Dm.n); exact ev_Dn0)
    | ((with_reducible show Ev _ _ _ (catS _ _)); refine ev_js ?_ ?_)
    | ((with_reducible show Ev _ (tC _) _ _); first | with_reducible exact ev_int | exact ev_cls | (with_reducible refine ev_str ?_; decide +kernel) | with_reducible exact ev_bl | with_reducible exact ev_non | with_reducible exact ev_nonN)
    | ((with_reducible show Ev (rO _) (tC _) _ (Option.some _)); apply Ev.some)
    | ((with_reducible show Ev _ _ _ _); with_reducible first | apply ev_chain_le | apply ev_chain_lelt | apply ev_neg | apply ev_and | apply ev_or | apply ev_not | apply ev_if | apply a_callM | apply a_callX | apply a_call | apply ev_upper | apply ev_partition | apply ev_rpartition | apply ev_join | apply ev_joinT | apply ev_ljust | apply ev_slS | apply ev_slT | apply a_pair | apply a_tup | apply a_dIn | apply a_dNin | exact ev_Z | apply a_dget2 | apply a_dget | apply ev_mthX | apply a_mthM | apply a_mth | apply a_nl | apply a_no | apply a_nd | apply a_nOeL | apply a_nR)
    | ((with_reducible show Ev (rT _ _) _ _ _); refine ev_TA ?_ (by assumption))))
  | `(tactic| walk_at "ev_o") => `(tactic| (first
    | ((with_reducible show Ev _ (tNotT _ _) _ _); first | apply ev_notTL | apply ev_notTT)
    | ((with_reducible show Ev (rL (rO _)) _ _ (List.map Option.some _)); apply ev_LO)
    | ((with_reducible show Ev (rT _ (rO _)) _ _ (List.map Option.some _)); apply ev_TO)
    | ((with_reducible show Ev (rEi _ _) (tTupD _) _ _); apply ei_T)
    | ((with_reducible show Ev (rEi _ _) _ _ _); first | exact a_ro (by rfl) | exact ei_T (a_fz (by rfl)) | apply ei_L)
    | ((with_reducible show Ev _ (tBM _ "list" _ _ _) _ _); first | apply ev_index | apply ev_lcount)
    | ((with_reducible show Ev _ (tTM _ _ _ _) _ _); apply ev_tcount)
    | ((with_reducible show Ev _ (tInsCall _ _ _ _ _) _ _); apply a_insCall)
    | ((with_reducible show Ev _ (tPGet2 _ _ _ _ _ _) _ _); apply a_pget2)
    | ((with_reducible show Ev _ (tPGet1 _ _ _ _ _) _ _); apply a_pget1)
    | ((with_reducible show Ev (rDm _) _ _ (Dm.s _)); apply ev_Ds)
    | ((with_reducible show Ev (rDm _) _ _ (Dm.r _)); apply ev_Dr)
    | ((with_reducible show Ev (rDm _) _ _ (Dm.b _)); apply ev_Db)
    | ((with_reducible show Ev (rDm _) _ _ Dm.n); exact ev_Dn0)
    | ((with_reducible show Ev (rRec _ _ _) (tMakeS _ _ _ _) _ _); first | apply ev_mkM | apply a_nR)
    | ((with_reducible show Ev (rL (rRec _ _ _)) (tLst _) _ _); refine ev_lstM ?_ inferInstance (by simp only [List.length_cons, List.length_nil]; omega))
    | ((with_reducible show Ev (rL (rRec _ _ _)) (tSl _ _ _ _) _ _); apply ev_slM)
    | ((with_reducible show Ev (rDp _) tDNewK _ _); exact ev_dp0)
    | ((with_reducible show Ev (rPD _ _ _ _) (tCall _ _ _ _) _ _); refine Nw.pd ?_ ?_)
    | ((with_reducible show Ev _ (tM1 _ _ (tPGet _ _ _ _ _)) _ _); apply ev_joinT)
    | ((with_reducible show Ev _ (tPGet _ _ _ _ _) _ _); apply a_pget)
    | ((with_reducible show Ev _ (tPIn _ _ _ _ _) _ _); apply a_pIn)
    | ((with_reducible show Ev _ (tPNotIn _ _ _ _ _) _ _); apply a_pNin)
    | ((with_reducible show Ev _ (tFmtW _ _) _ _); refine ev_fmtW ?_ ev_spW ?_)
    | ((with_reducible show Ev _ (tFmt _) _ _); apply ev_fmt)
    | ((with_reducible show Ev _ _ _ (catS _ _)); refine ev_js ?_ ?_)
    | ((with_reducible show Ev (rW _ _) (tTupD _) _ _); apply a_tupW)
    | ((with_reducible show Ev _ (tXf _ _ _ _ _ _) _ _); first | exact a_xfS (by rfl) (by unfold PayS; assumption) | exact a_xfO (by rfl) (by unfold PayO; assumption) | exact a_xfI (by rfl) (by unfold PayI; assumption) | exact a_xfR (by rfl) (by unfold PayR; assumption) | exact a_xfL (by rfl) (by unfold PayL; assumption) | exact a_xfT (by rfl) (by unfold PayT; assumption))
    | ((with_reducible show Ev (rRec _ _ _) (tProp _ _ _ _ _) _ _); first | apply a_propR | apply a_prop)
    | ((with_reducible show Ev _ (tProp _ _ _ _ _) _ _); apply a_prop)
    | ((with_reducible show Ev _ _ _ _); with_reducible first | apply ev_chain_le | apply ev_chain_lelt | apply ev_neg | apply ev_and | apply ev_or | apply ev_not | apply ev_if | apply a_callM | apply a_callX | apply a_call | apply ev_upper | apply ev_partition | apply ev_rpartition | apply ev_join | apply ev_joinT | apply ev_ljust | apply ev_slS | apply ev_slT | apply a_pair | apply a_tup | apply a_dIn | apply a_dNin | exact ev_Z | apply a_dget2 | apply a_dget | apply ev_mthX | apply a_mthM | apply a_mth | apply a_nl | apply a_no | apply a_nd | apply a_nOeL | apply a_nR)
    | ((with_reducible show Ev (rT _ _) _ _ _); refine ev_TA ?_ (by assumption))))
  | `(tactic| walk_at "evE") => `(tactic| (first
    | ((with_reducible show Ev _ (tVar _) _ _); first | exact a_al (by rfl) (by rfl) (by assumption) | exact a_fz (by rfl) | exact a_ro (by rfl) | walk_at "ev_tVar")
    | ((with_reducible show Ev _ (tFld _ _ _) _ _); walk_at "ev_tFld")
    | ((with_reducible show Ev _ (tOp _ _ _) _ _); walk_at "ev_tOp")
    | ((with_reducible show Ev _ (tCB _ _) _ _); walk_at "ev_tCB")
    | ((with_reducible show Ev _ (tC _) _ _); walk_at "ev_tC")
    | walk_at "ev_o"))
  | `(tactic| walk_at "evEvA") => `(tactic| (first
    | ((with_reducible show EvA (aRest _) _ _ _); refine ea_rest ?_ (Nat.le_of_ble_eq_true rfl))
    | ((with_reducible show EvA _ _ _ _); with_reducible first | exact ea_nil | exact el_nil | apply a_cons | apply a_el | apply a_starT | apply ea_argK2 | apply ea_argN2 | apply ea_argN1 | apply ea_argD1 | apply ea_argNO)))
  | `(tactic| walk_at "evNw") => `(tactic| (first
    | ((with_reducible show Nw _ (tIf _ _ _) _ (bif _ then _ else _)); refine nw_if ?_ (fun _ => ?_) (fun _ => ?_))
    | ((with_reducible show Nw (nO _ _) _ _ none); exact nw_nonO)
    | ((with_reducible show Nw (npd _ _ _ _) (tPDisp _ _ _ _) _ _); refine nw_pdisp ?_ inferInstance (Nat.le_of_ble_eq_true rfl))
    | ((with_reducible show Nw _ _ _ _); with_reducible first | exact nw_pnew | apply nw_listRev | apply nw_revL | apply a_srtL | apply a_srt | apply a_ncallM | apply a_ncallX | apply a_ncall | apply a_lstD | apply a_list | apply a_slL | apply a_cat | apply nw_split | apply nw_oneL | apply nw_recL | apply nw_mkOM | apply nw_mkOM0 | apply nw_mkV | apply nw_cm | apply nw_mkR | apply nw_mkI | apply nw_mkO | apply nw_binOM | apply nw_binO | apply nw_mthX | apply nw_mthM | apply nw_mth | exact nw_dnew | exact nw_nilR | exact nw_dnewR | apply nw_H3)))
  | `(tactic| walk_at "evIxC") => `(tactic| (first
    | ((with_reducible show IxC _ (rW _ _) _ _ _ _ _); first | exact ixc_W wix_hd (by rfl) | exact ixc_W (wix_tl wix_hd) (by rfl) | exact ixc_W (wix_tl (wix_tl wix_hd)) (by rfl) | exact ixc_W (wix_tl (wix_tl (wix_tl wix_hd))) (by rfl) | exact ixc_W (wix_tl (wix_tl (wix_tl (wix_tl wix_hd)))) (by rfl) | exact ixc_W (wix_tl (wix_tl (wix_tl (wix_tl (wix_tl wix_hd))))) (by rfl) | exact fun ta h => ev_unsome (ixc_W wix_hd (by rfl) ta h) (by assumption) | exact fun ta h => ev_unsome (ixc_W (wix_tl wix_hd) (by rfl) ta h) (by assumption) | exact fun ta h => ev_unsome (ixc_W (wix_tl (wix_tl wix_hd)) (by rfl) ta h) (by assumption) | exact fun ta h => ev_unsome (ixc_W (wix_tl (wix_tl (wix_tl wix_hd))) (by rfl) ta h) (by assumption) | exact fun ta h => ev_unsome (ixc_W (wix_tl (wix_tl (wix_tl (wix_tl wix_hd)))) (by rfl) ta h) (by assumption) | exact fun ta h => ev_unsome (ixc_W (wix_tl (wix_tl (wix_tl (wix_tl (wix_tl wix_hd))))) (by rfl) ta h) (by assumption))
    | ((with_reducible show IxC _ (rO (rW _ _)) _ _ _ _ _); refine ixc_Og (by assumption) ?_; first | exact ixc_W wix_hd (by rfl) | exact ixc_W (wix_tl wix_hd) (by rfl) | exact ixc_W (wix_tl (wix_tl wix_hd)) (by rfl) | exact ixc_W (wix_tl (wix_tl (wix_tl wix_hd))) (by rfl) | exact ixc_W (wix_tl (wix_tl (wix_tl (wix_tl wix_hd)))) (by rfl) | exact ixc_W (wix_tl (wix_tl (wix_tl (wix_tl (wix_tl wix_hd))))) (by rfl))
    | ((with_reducible show IxC _ _ _ _ _ _ _); first | with_reducible exact ixc_0 | with_reducible exact ixc_1 | with_reducible exact ixc_h0 | with_reducible exact ixc_g0 | with_reducible exact ixc_g1 | with_reducible exact ixc_h1 | with_reducible exact ixc_h2 | exact ixc_O0 (by assumption) | (refine ixc_Og (by assumption) ?_; with_reducible apply ixc_T) | exact ixc_O1 (by assumption) | with_reducible apply ixc_L | with_reducible apply ixc_Q | with_reducible apply ixc_T | with_reducible apply ixc_Y | with_reducible apply ixc_S | with_reducible apply ixc_E)))
  | `(tactic| walk_at "evR") => `(tactic| (first
    | ((with_reducible show allS _ = some _); assumption)
    | ((with_reducible show IdxOk _ _ _); unfold IdxOk; assumption)
    | ((with_reducible show List.length _ ≤ 12000000); assumption)
    | ((with_reducible show EvD _ _ _ _); first | exact evd_nil | refine evd_cons ?_ ?_ inferInstance ?_)
    | ((with_reducible show LnC _ (rW _ _) _ _); exact lnc_W)
    | ((with_reducible show EJ _ _ _); first | exact EJ.nil | refine EJ.cons ?_ ?_)
    | ((with_reducible show pkey _ _ = some _); assumption)
    | ((with_reducible show PadOk _ = true); assumption)
    | ((with_reducible show _ ≤ 99000); assumption)
    | ((with_reducible show _ < 64); assumption)
    | ((with_reducible show FldAt _ _ _ _); first | exact fldA_hd (by simp only [fA, fN]; decide) | exact fldA_tl (fldA_hd (by simp only [fA, fN]; decide)) | exact fldA_tl (fldA_tl (fldA_hd (by simp only [fA, fN]; decide))) | exact fldA_tl (fldA_tl (fldA_tl (fldA_hd (by simp only [fA, fN]; decide)))) | exact fldA_tl (fldA_tl (fldA_tl (fldA_tl (fldA_hd (by simp only [fA, fN]; decide))))) | exact fld_hd | exact fld_tl fld_hd (by decide) | exact fld_tl (fld_tl fld_hd (by decide)) (by decide))
    | ((with_reducible show InsK _ _); assumption)
    | ((with_reducible show PySem.W.kitOne _ _ _ = some _); assumption)
    | ((with_reducible show EvO _ _ _); with_reducible first | exact eo_none | apply eo_some)
    | ((with_reducible show _ < 4096); first | assumption | omega)
    | ((with_reducible show kitB _ _ = some _); decide +kernel)
    | ((with_reducible show SgOk _ _); unfold SgOk; first | assumption | exact rfl)
    | ((with_reducible show AppEq _ _ _); unfold AppEq; first | (dsimp only; exact rfl) | dsimp only | exact rfl)
    | ((with_reducible show PreOk _ _); unfold PreOk; dsimp only; first | done | exact trivial | omega | assumption | (constructor <;> first | omega | assumption))
    | ((with_reducible show LnC _ _ _ _); first | exact lnc_O (by assumption) lnc_P | exact lnc_Og (by assumption) lnc_T | with_reducible exact lnc_E | with_reducible first | exact lnc_L | exact lnc_T | exact lnc_Q | exact lnc_P | exact lnc_S)
    | ((with_reducible show IntC _ _ _); with_reducible first | exact intc_I | exact intc_B)
    | ((with_reducible show TrC _ _ _ _); with_reducible first | exact trc_L | exact trc_T | exact trc_I | exact trc_S)
    | ((with_reducible show EqC _ _ _ _); with_reducible first | exact eqc_I | exact eqc_S | exact eqc_B | exact eqc_O)
    | ((with_reducible show okS _); assumption)
    | ((with_reducible show (_ = true → _)); intro _)
    | ((with_reducible show (_ = false → _)); intro _)
    | ((with_reducible show CMul _ _); first | assumption | exact .inr (by decide) | exact .inl (by decide) | exact .inr (by assumption) | exact .inl (by assumption) | exact .inr (b2_small _))
    | ((with_reducible show CDiv _ _); first | assumption | exact ⟨by decide, by decide⟩)
    | ((with_reducible show CPow _ _); exact ⟨by decide, by decide, by decide⟩)
    | ((with_reducible show (0 : Int) < _); first | assumption | decide | omega)
    | ((with_reducible show _ ≤ 12000000); first | omega | assumption | (simp only [List.length_append, List.length_cons, List.length_nil, List.length_map]; omega) | decide +kernel)
    | ((with_reducible show _ ≤ 100000); first | omega | assumption | (simp only [List.length_append, List.length_cons, List.length_nil, List.length_map]; omega) | decide +kernel)
    | ((with_reducible show _ ≤ 16777216); assumption)
    | ((with_reducible show _ ≤ 1000); first | assumption | omega)
    | ((with_reducible show _ ≤ 50); assumption)
    | ((with_reducible show _ ∧ _); assumption)
    | ((with_reducible show _ ∉ _); first | decide | (simp only [fA, fN]; decide))
    | ((with_reducible show ∀ _ ∈ _, okS _); assumption)
    | ((with_reducible show _ = false); assumption)
    | ((with_reducible show dkey _ _ = some _); assumption)
    | ((with_reducible show atI _ _ = some _); assumption)
    | ((with_reducible show atI (_ :: _) _ = some _); exact rfl)
    | ((with_reducible show ((Str.length _ == 0) = false)); exact rfl)
    | ((with_reducible show DatC _ _); exact datC_of (by decide))
    | ((with_reducible show InsR _ _ _ _); first | with_reducible exact one_ins | with_reducible exact rec_ins1 | exact rec_ins | assumption)
    | ((with_reducible show NilT _ _); assumption)
    | ((with_reducible show Cls _ _); assumption)
    | ((with_reducible show NoAttr _ _ _); assumption)
    | infer_instance
    | with_reducible exact rfl
    | exact dot_eq
    | with_reducible exact trivial))
  | `(tactic| walk_at "evX") => `(tactic| repeat' (first
    | ((with_reducible show Ev _ _ _ _); walk_at "evE")
    | ((with_reducible show EvA _ _ _ _); walk_at "evEvA")
    | ((with_reducible show Nw _ _ _ _); walk_at "evNw")
    | ((with_reducible show EvT _ _ _); with_reducible first | apply et_test | apply et_B | apply et_not | apply et_and | apply et_or | apply a_tru | exact et_yes)
    | ((with_reducible show IxC _ _ _ _ _ _ _); walk_at "evIxC")
    | ((with_reducible show MOk _ _ _); unfold MOk; assumption)
    | ((with_reducible show Mono _); infer_instance)
    | ((with_reducible show MonoA _); infer_instance)
    | ((with_reducible show Frz _ _); infer_instance)
    | ((with_reducible show Bor _ _ _); infer_instance)
    | ((with_reducible show Cls _ _); assumption)
    | ((with_reducible show NoAttr _ _ _); assumption)
    | walk_at "evR"))
  | `(tactic| walk_at "ev") => `(tactic| (walk_at "evX") <;> (walk_at "evX"))
  | `(tactic| walk_at "len") => `(tactic| (first | assumption | (rw [ups_len]; omega) | (rw [List.length_map, List.length_range]; omega) | (simp only [List.length_cons, List.length_nil]; omega)))
  | `(tactic| walk_at "sub") => `(tactic| (repeat' (first | exact .nil | apply Sub.keep | apply Sub.drop)))
variable {P : Program} {w : World} {K : PySem.W.Frag} {mg : Str → Option Value} {base : Heap}
abbrev n_is_owner : List Str := ["name", "char"]
abbrev p_is_owner : List Str := ["name"]
theorem sc_is_owner : FnScope n_is_owner p_is_owner (defScope s_is_owner) := ⟨rfl, rfl, rfl, by decide +kernel, rfl, by decide +kernel, by decide +kernel⟩
abbrev sp_is_owner (K : PySem.W.Frag) : Sp := spM (aC rS aN) rB fun a => m_is_owner a.1
theorem c_is_owner (F : Df K mg "is_owner" s_is_owner) (B_len : mg "len" = none) (B_all : mg "all" = none) (M_LONGEST : ∃ t, mg "LONGEST" = some (.int 8 t)) (M_SMALL : ∃ t, mg "SMALL" = some (.str "abcdefghijklmnopqrstuvwxyz" t)) : Cal P w K mg base CX0 "is_owner" 1 p_is_owner (sp_is_owner K) := by
  obtain ⟨t_LONGEST, M_LONGEST⟩ := M_LONGEST
  obtain ⟨t_SMALL, M_SMALL⟩ := M_SMALL
  refine cal_of F sc_is_owner (fun vs H Q E ⟨a, b, h, _⟩ => LenA.len h) (fun _ _ _ _ _ _ us hl => match us, hl with | [_], _ => rfl) fun cdv f A outer s H vs Q E hr h => ?_
  have sc := sc_is_owner
  refine ⟨_, (pss_one (ps_ret (pe_and (pe_chain op_le op_le pe_int (pe_callB (k_len K) (by rfl) B_len PySem.boot_len (pa1 (pv 0))) (pe_glob (v := .int 8) (by rfl) M_LONGEST ⟨_, rfl⟩)) (pe_one (pe_callB (k_all K rfl) (by rfl) B_all (by decide +kernel) (pa1 (pe_lc (own := [("char", 1)]) (g := gName 1) (tt := tYes) (by rfl) sc.nd (pi_str (pv 0)) (blkOk_by (own := [("char", 1)]) (N := n_is_owner) (sc := defScope s_is_owner) (by decide +kernel)) (fun _ _ _ _ _ => (pgN 1 sc.nd)) (fun _ _ _ _ _ => pts_nil) (fun _ _ _ _ _ => (pe_cmpR op_in_sign (pv 1) (pe_glob (v := .str "abcdefghijklmnopqrstuvwxyz") (by rfl) M_SMALL ⟨_, rfl⟩) rfl))))))))), ?_⟩
  obtain ⟨⟨name1, _⟩, r0, ⟨v_name1, _, rfl, w_name1, rfl⟩, h, k⟩ := h
  have hD := rtF (K := K) k
  refine Sv.run (K := K) (G := ([fc rS name1, none] : Cells K)) ?_ (.fz w_name1 (.skip .nil))
  have h : m_is_owner name1 = .ok r0 := h
  unfold m_is_owner at h
  obtain ⟨c6, e_c6, h⟩ := mb_ok h
  cases h
  refine r_ret hD ?_
  refine ev_andM ?_ (fun _ e => ?_) e_c6
  · walk_at "ev"
  obtain ⟨e_u4, e⟩ := mb_chk e
  obtain ⟨zs5, e_zs5, e⟩ := mb_ok e
  cases e
  refine ev_all ?_
  refine Nw.lst ?_
  refine nw_lcM (G' := ([fc rS name1, none] : Cells K)) (r := rS) ?_ (by walk_at "len") (fun y2 => ⟨_, tb_name, fun _ e => ?_, fun _ e => ?_⟩) e_zs5
  · refine wk_str ?_
    walk_at "ev"
  · cases e
    exact et_yes
  · obtain ⟨t3, e_t3, e⟩ := mb_ok e; have e_t3 := oM_ok e_t3
    cases e
    walk_at "ev"
abbrev n_owner : List Str := ["sign"]
abbrev p_owner : List Str := ["sign"]
theorem sc_owner : FnScope n_owner p_owner (defScope s_owner) := ⟨rfl, rfl, rfl, by decide +kernel, rfl, by decide +kernel, by decide +kernel⟩
abbrev sp_owner (K : PySem.W.Frag) : Sp := spM (aC rS aN) rS fun a => m_owner a.1
theorem c_owner (F : Df K mg "owner" s_owner) : Cal P w K mg base CX0 "owner" 1 p_owner (sp_owner K) := by
  refine cal_of F sc_owner (fun vs H Q E ⟨a, b, h, _⟩ => LenA.len h) (fun _ _ _ _ _ _ us hl => match us, hl with | [_], _ => rfl) fun cdv f A outer s H vs Q E hr h => ?_
  have sc := sc_owner
  refine ⟨_, (pss_cons (ps_if (pt_cmpR op_in_sign pe_str (pv 0) rfl)
      (pss_one (ps_ret (pe_ix (k_ix K) (pe_partition (pv 0) pe_str) pe_int (fun _ _ => rfl)))) pss_nil)
      (pss_one (ps_ret pe_str))), ?_⟩
  obtain ⟨⟨sign1, _⟩, r0, ⟨v_sign1, _, rfl, w_sign1, rfl⟩, h, k⟩ := h
  have hD := rtF (K := K) k
  refine Sv.run (K := K) (G := ([fc rS sign1] : Cells K)) ?_ (.fz w_sign1 .nil)
  have h : m_owner sign1 = .ok r0 := h
  unfold m_owner at h
  obtain ⟨t2, e_t2, h⟩ := mb_ok h; have e_t2 := oM_ok e_t2
  refine q_if (c := (decide (t2 ∈ sign1.cps.toList))) ?_ ?_ ?_
  · walk_at "ev"
  · intro hc; have h := bif_t h hc
    obtain ⟨e_u3, h⟩ := mb_chk h
    obtain ⟨e_u4, h⟩ := mb_chk h
    obtain ⟨t5, e_t5, h⟩ := mb_ok h; have e_t5 := oM_ok e_t5
    cases h
    refine r_ret hD ?_
    walk_at "ev"
  · intro hc; have h := bif_f h hc
    refine q_next ?_
    cases h
    refine r_ret hD ?_
    walk_at "ev"
abbrev n_is_token : List Str := ["sign"]
abbrev p_is_token : List Str := ["sign"]
theorem sc_is_token : FnScope n_is_token p_is_token (defScope s_is_token) := ⟨rfl, rfl, rfl, by decide +kernel, rfl, by decide +kernel, by decide +kernel⟩
abbrev sp_is_token (K : PySem.W.Frag) : Sp := spM (aC rS aN) rB fun a => m_is_token a.1
theorem c_is_token (F : Df K mg "is_token" s_is_token) (M_SMALL : ∃ t, mg "SMALL" = some (.str "abcdefghijklmnopqrstuvwxyz" t)) : Cal P w K mg base CX0 "is_token" 1 p_is_token (sp_is_token K) := by
  obtain ⟨t_SMALL, M_SMALL⟩ := M_SMALL
  refine cal_of F sc_is_token (fun vs H Q E ⟨a, b, h, _⟩ => LenA.len h) (fun _ _ _ _ _ _ us hl => match us, hl with | [_], _ => rfl) fun cdv f A outer s H vs Q E hr h => ?_
  have sc := sc_is_token
  refine ⟨_, (pss_one (ps_ret (pe_cmpR op_in_sign (pe_ix (k_ix K) (pe_ix (k_ix K) (pe_rpartition (pv 0) pe_str) pe_int (fun _ _ => rfl)) pe_int (fun _ _ => rfl)) (pe_glob (v := .str "abcdefghijklmnopqrstuvwxyz") (by rfl) M_SMALL ⟨_, rfl⟩) rfl))), ?_⟩
  obtain ⟨⟨sign1, _⟩, r0, ⟨v_sign1, _, rfl, w_sign1, rfl⟩, h, k⟩ := h
  have hD := rtF (K := K) k
  refine Sv.run (K := K) (G := ([fc rS sign1] : Cells K)) ?_ (.fz w_sign1 .nil)
  have h : m_is_token sign1 = .ok r0 := h
  unfold m_is_token at h
  obtain ⟨e_u2, h⟩ := mb_chk h
  obtain ⟨e_u3, h⟩ := mb_chk h
  obtain ⟨t4, e_t4, h⟩ := mb_ok h; have e_t4 := oM_ok e_t4
  obtain ⟨t5, e_t5, h⟩ := mb_ok h; have e_t5 := oM_ok e_t5
  obtain ⟨t6, e_t6, h⟩ := mb_ok h; have e_t6 := oM_ok e_t6
  cases h
  refine r_ret hD ?_
  walk_at "ev"
abbrev n_distinct_v1 : List Str := ["things", "found", "thing"]
abbrev p_distinct_v1 : List Str := ["things"]
theorem sc_distinct_v1 : FnScope n_distinct_v1 p_distinct_v1 (defScope s_distinct_v1) := ⟨rfl, rfl, rfl, by decide +kernel, rfl, by decide +kernel, by decide +kernel⟩
abbrev sp_distinct_v1 (K : PySem.W.Frag) : Sp := spM (aC (rEi K (rP K rS (rT K rS))) aN) (rT K (rP K rS (rT K rS))) fun a => m_distinct_v1 a.1
theorem c_distinct_v1 (F : Df K mg "distinct" s_distinct_v1) (B_tuple : mg "tuple" = none) : Cal P w K mg base CX0 "distinct" 1 p_distinct_v1 (sp_distinct_v1 K) := by
  refine cal_of F sc_distinct_v1 (fun vs H Q E ⟨a, b, h, _⟩ => LenA.len h) (fun _ _ _ _ _ _ us hl => match us, hl with | [_], _ => rfl) fun cdv f A outer s H vs Q E hr h => ?_
  have sc := sc_distinct_v1
  refine ⟨_, (pss_cons (psS 1 sc.nd (pe_lst pa_nil))
      (pss_cons (ps_for PassesOwn.never rfl (pi_eiK K (pv 0)) (pgN 2 sc.nd)
      (pss_one (ps_if (pt_cmpR (k_ninD K (unL (by decide) hr.un)) (pv 2) (pv 1) rfl)
      (pss_one (ps_expr (pe_app K (pv 1) (pa1 (pv 2))))) pss_nil)))
      (pss_one (ps_ret (pe_callTy (k_tuple K) (by rfl) B_tuple (by decide +kernel) (pa1 (pv 1))))))), ?_⟩
  obtain ⟨⟨things1, _⟩, r0, ⟨v_things1, _, rfl, w_things1, rfl⟩, h, k⟩ := h
  have hD := rtF (K := K) k
  refine Sv.run (K := K) (G := ([rc (rEi K (rP K rS (rT K rS))) things1, none, none] : Cells K)) ?_ (.ro w_things1 (.skip (.skip .nil)))
  have h : m_distinct_v1 things1 = .ok r0 := h
  unfold m_distinct_v1 at h
  obtain ⟨found2, e_found2, h⟩ := mb_ok h; have e_found2 := ok_inj e_found2
  refine q_asg (R := (nl K (rP K rS (rT K rS)))) (b := ([] : (List (Str × (List Str))))) (b' := found2) ?_ e_found2 ?_
  · walk_at "ev"
  obtain ⟨s5, hm, h⟩ := mb_ok h
  refine q_forM (G' := ([rc (rEi K (rP K rS (rT K rS))) things1, some (.ow (nl K (rP K rS (rT K rS))) found2), none] : Cells K)) (r := (rP K rS (rT K rS))) (fun (s3 : (List (Str × (List Str)))) => ([rc (rEi K (rP K rS (rT K rS))) things1, some (.ow (nl K (rP K rS (rT K rS))) s3), none] : Cells K)) hm ?_ (.keep (.keep (.keep .nil))) (fun H0' e0 x4 s3 s' h => ⟨_, tg_name, ?_⟩) ?_
  · exact wk_ei (by rfl)
  · have hD := @nxI K H0'
    refine l_if (c := (!(memB x4 s3))) ?_ ?_ ?_
    · walk_at "ev"
    · intro hc; have h := bif_t h hc
      obtain ⟨e_u6, h⟩ := mb_chk h
      obtain ⟨found7, e_found7, h⟩ := mb_ok h; have e_found7 := ok_inj e_found7
      refine l_app (x := x4) (xs := s3) (by rfl) (x' := x4) ?_ rfl (by assumption) ?_
      · walk_at "ev"
      rw [e_found7]
      cases h
      exact hL hD (by walk_at "sub")
    · intro hc; have h := bif_f h hc
      cases h
      exact hL hD (by walk_at "sub")
  cases h
  refine r_ret hD ?_
  walk_at "ev"
abbrev n_Named_init_Extension : List Str := ["self", "name"]
abbrev p_Named_init_Extension : List Str := ["self", "name"]
theorem sc_Named_init_Extension : FnScope n_Named_init_Extension p_Named_init_Extension (defScope s_Named_init_Extension) := ⟨rfl, rfl, rfl, by decide +kernel, rfl, by decide +kernel, by decide +kernel⟩
abbrev sp_Named_init_Extension (K : PySem.W.Frag) : Sp := spGro K (cA K "Extension") fN (fA fN "name" (fz K rS)) (aC rS aN) fun x a => m_Named_init_Extension x a.1
theorem c_Named_init_Extension (F : DfF K (cA K "Named") "__init__" "Named.__init__" s_Named_init_Extension) (K_Named : ClsF K mg "Named") (K_Extension : ClsF K mg "Extension") (N_Extension_name : NoAttr K (cA K "Extension") "name") (E_BadName : ExcK P K mg "BadName" "name") (C_is_owner : Cal P w K mg base CX0 "is_owner" 1 p_is_owner (sp_is_owner K)) : CalF P w K mg base (cA K "Named") "__init__" 2 p_Named_init_Extension (sp_Named_init_Extension K) := by
  have cl_Named := K_Named.cl
  have cl_Extension := K_Extension.cl
  refine calF_of F sc_Named_init_Extension (fun vs H Q E h => spGro_len h) ⟨fun _ _ _ _ _ _ _ us hl => match us, hl with | [_, _], _ => rfl, fun h => absurd h (by decide)⟩ fun cdv f A outer s H vs Q E hr h => ?_
  have sc := sc_Named_init_Extension
  refine ⟨_, (pss_cons (ps_if (pt_not (pt_val (pe_fn C_is_owner hr.m (pa1 (pv 1)))))
      (pss_one (L2N.ps_raise rfl (L2N.takes_of rfl rfl rfl rfl) (pmk_ex E_BadName hr (pa1 (pv 1))))) pss_nil)
      (pss_one (ps_fldK K (pv 0) (pv 1)))), ?_⟩
  obtain ⟨p0, dx0, fs0, ws, x0, ⟨name2, _⟩, rfl, hp0, hF0, ⟨v_name2, _, rfl, w_name2, rfl⟩, hN, hok, hx⟩ := h
  have hD : ∀ r, m_Named_init_Extension x0 name2 = .ok r → ∀ H' dx' fs', Same (dl H p0) H' → H' p0 = some (.ins (cA K "Extension") dx' fs') → (fA fN "name" (fz K rS)).rep H' fs' r [] → Q .non H' := hok
  have hX : ∀ e, m_Named_init_Extension x0 name2 = .error e → XOk K (dl H p0) E e := hx
  refine Sv.runG (K := K) (C := cA K "Extension") (p := p0) (F := fN) (x := x0) (G := [fc rS name2]) ?_ hp0 hF0 (.fz w_name2 .nil)
  clear hN hok hx
  generalize h : m_Named_init_Extension x0 name2 = o at hD hX
  have ns := nstk_of hX
  unfold m_Named_init_Extension at h
  obtain ⟨t3, e_t3, h⟩ := mbx_calm h ns
  refine q_if (c := (!t3)) ?_ ?_ ?_
  · walk_at "ev"
  · intro hc; have h := bif_t h hc
    refine l_raise ?_ (w_of (hX _ h.symm))
    refine ev_pS ?_
    walk_at "ev"
  · intro hc; have h := bif_f h hc
    refine q_next ?_
    refine l_selfN (i := 0) (b := name2) (R := (fz K rS)) (by rfl) ?_ (by simp only [fA, fN]; decide) (by simp only [fA, fN]; decide) cl_Extension N_Extension_name ?_
    · refine Ev.nw ?_
      walk_at "ev"
    exact nx_gro (i := 0) (by rfl) (fun H' dx' fs' => hD _ h.symm H' dx' fs')
abbrev n_Ruled_init_Extension : List Str := ["self", "rules"]
abbrev p_Ruled_init_Extension : List Str := ["self", "rules"]
theorem sc_Ruled_init_Extension : FnScope n_Ruled_init_Extension p_Ruled_init_Extension (defScope s_Ruled_init_Extension) := ⟨rfl, rfl, rfl, by decide +kernel, rfl, by decide +kernel, by decide +kernel⟩
abbrev sp_Ruled_init_Extension (K : PySem.W.Frag) : Sp := spGro K (cA K "Extension") (fA fN "name" (fz K rS)) (fA (fA fN "name" (fz K rS)) "rules" (fz K (rT K (rP K rS (rT K rS))))) (aC (rEi K (rP K rS (rT K rS))) aN) fun x a => m_Ruled_init_Extension x a.1
theorem c_Ruled_init_Extension (F : DfF K (cA K "Ruled") "__init__" "Ruled.__init__" s_Ruled_init_Extension) (K_Ruled : ClsF K mg "Ruled") (K_Extension : ClsF K mg "Extension") (N_Extension_rules : NoAttr K (cA K "Extension") "rules") (C_distinct_v1 : Cal P w K mg base CX0 "distinct" 1 p_distinct_v1 (sp_distinct_v1 K)) : CalF P w K mg base (cA K "Ruled") "__init__" 2 p_Ruled_init_Extension (sp_Ruled_init_Extension K) := by
  have cl_Ruled := K_Ruled.cl
  have cl_Extension := K_Extension.cl
  refine calF_of F sc_Ruled_init_Extension (fun vs H Q E h => spGro_len h) ⟨fun _ _ _ _ _ _ _ us hl => match us, hl with | [_, _], _ => rfl, fun h => absurd h (by decide)⟩ fun cdv f A outer s H vs Q E hr h => ?_
  have sc := sc_Ruled_init_Extension
  refine ⟨_, (pss_one (ps_fldK K (pv 0) (pe_fn C_distinct_v1 hr.m (pa1 (pv 1))))), ?_⟩
  obtain ⟨p0, dx0, fs0, ws, x0, ⟨rules2, _⟩, rfl, hp0, hF0, ⟨v_rules2, _, rfl, w_rules2, rfl⟩, hN, hok, hx⟩ := h
  have hD : ∀ r, m_Ruled_init_Extension x0 rules2 = .ok r → ∀ H' dx' fs', Same (dl H p0) H' → H' p0 = some (.ins (cA K "Extension") dx' fs') → (fA (fA fN "name" (fz K rS)) "rules" (fz K (rT K (rP K rS (rT K rS))))).rep H' fs' r [] → Q .non H' := hok
  have hX : ∀ e, m_Ruled_init_Extension x0 rules2 = .error e → XOk K (dl H p0) E e := hx
  refine Sv.runG (K := K) (C := cA K "Extension") (p := p0) (F := (fA fN "name" (fz K rS))) (x := x0) (G := [rc (rEi K (rP K rS (rT K rS))) rules2]) ?_ hp0 hF0 (.ro w_rules2 .nil)
  clear hN hok hx
  generalize h : m_Ruled_init_Extension x0 rules2 = o at hD hX
  have ns := nstk_of hX
  unfold m_Ruled_init_Extension at h
  obtain ⟨t3, e_t3, h⟩ := mbx_calm h ns
  refine l_selfN (i := 0) (b := t3) (R := (fz K (rT K (rP K rS (rT K rS))))) (by rfl) ?_ (by simp only [fA, fN]; decide) (by simp only [fA, fN]; decide) cl_Extension N_Extension_rules ?_
  · refine Ev.nw ?_
    walk_at "ev"
  exact nx_gro (i := 0) (by rfl) (fun H' dx' fs' => hD _ h.symm H' dx' fs')
abbrev n_finished_names : List Str := ["rules", "known", "found", "head", "growing", "side", "sign"]
abbrev p_finished_names : List Str := ["rules", "known"]
theorem sc_finished_names : FnScope n_finished_names p_finished_names (defScope s_finished_names) := ⟨rfl, rfl, rfl, by decide +kernel, rfl, by decide +kernel, by decide +kernel⟩
abbrev sp_finished_names (K : PySem.W.Frag) : Sp := spMN (aC (rEi K (rP K rS (rT K rS))) (aC (rL rS) aN)) (nd K rB) fun a => m_finished_names a.1 a.2.1
theorem c_finished_names (F : Df K mg "finished_names" s_finished_names) (B_all : mg "all" = none) (C_is_token : Cal P w K mg base CX0 "is_token" 1 p_is_token (sp_is_token K)) : Cal P w K mg base CX0 "finished_names" 2 p_finished_names (sp_finished_names K) := by
  refine cal_of F sc_finished_names (fun vs H Q E ⟨a, b, h, _⟩ => LenA.len h) (fun _ _ _ _ _ _ us hl => match us, hl with | [_, _], _ => rfl) fun cdv f A outer s H vs Q E hr h => ?_
  have sc := sc_finished_names
  refine ⟨_, (pss_cons (psS 2 sc.nd pe_dnewK)
      (pss_cons (ps_for PassesOwn.never rfl (pi_listK K (pv 1)) (pgN 3 sc.nd)
      (pss_one (ps_dput (unL (by decide) hr.un) (pv 2) (pv 3) pe_bl rfl)))
      (pss_cons (psS 4 sc.nd pe_bl)
      (pss_cons (ps_while PassesOwn.never (pt_val (pv 4))
      (pss_cons (psS 4 sc.nd pe_bl)
      (pss_one (ps_for PassesOwn.never rfl (pi_eiK K (pv 0)) (pg_tupK K rfl (pgs_cons (pgN 3 sc.nd) (pgs_cons (pgN 5 sc.nd) pgs_nil)))
      (pss_one (ps_if (PW.pt (pw_and (pt_cmp (pc_dnotin (unL (by decide) hr.un) (pv 3) (pv 2)) rfl) (pw_and1 (pt_val (pe_callB (k_all K rfl) (by rfl) B_all (by decide +kernel) (pa1 (pe_lc (own := [("sign", 6)]) (g := gName 6) (tt := tYes) (by rfl) sc.nd (pi_tupK K (pv 5)) (blkOk_by (own := [("sign", 6)]) (N := n_finished_names) (sc := defScope s_finished_names) (by decide +kernel)) (fun _ _ _ _ _ => (pgN 6 sc.nd)) (fun _ _ _ _ _ => pts_nil) (fun _ _ _ _ _ => (pe_or (pe_fn C_is_token hr.m (pa1 (pv 6))) (pe_one (pe_cmp (pc_din (unL (by decide) hr.un) (pv 6) (pv 2)) rfl)))))))))))
      (pss_cons (ps_dput (unL (by decide) hr.un) (pv 2) (pv 3) pe_bl rfl)
      (pss_one (psS 4 sc.nd pe_bl))) pss_nil))))))
      (pss_one (ps_ret (pv 2))))))), ?_⟩
  obtain ⟨⟨rules1, known2, _⟩, r0, ⟨v_rules1, _, rfl, w_rules1, ⟨v_known2, _, rfl, w_known2, rfl⟩⟩, h, k⟩ := h
  have hD : RtOk (nd K rB) H r0 { nx := fun _ H' => Q .non H', rt := Q } := fun v H' ⟨as, s, n, z⟩ => k v H' as s n z
  refine Sv.run (K := K) (G := ([rc (rEi K (rP K rS (rT K rS))) rules1, rc (rL rS) known2, none, none, none, none, none] : Cells K)) ?_ (.ro w_rules1 (.ro w_known2 (.skip (.skip (.skip (.skip (.skip .nil)))))))
  have h : m_finished_names rules1 known2 = .ok r0 := h
  unfold m_finished_names at h
  obtain ⟨found3, e_found3, h⟩ := mb_ok h; have e_found3 := ok_inj e_found3
  refine q_asg (R := (nd K rB)) (b := ([] : (List (Str × Bool)))) (b' := found3) ?_ e_found3 ?_
  · walk_at "ev"
  obtain ⟨s6, hm, h⟩ := mb_ok h
  refine q_forM (G' := ([rc (rEi K (rP K rS (rT K rS))) rules1, rc (rL rS) known2, some (.ow (nd K rB) found3), none, none, none, none] : Cells K)) (r := rS) (fun (s4 : (List (Str × Bool))) => ([rc (rEi K (rP K rS (rT K rS))) rules1, rc (rL rS) known2, some (.ow (nd K rB) s4), none, none, none, none] : Cells K)) hm ?_ (.keep (.keep (.keep (.keep (.keep (.keep (.keep .nil))))))) (fun H0' e0 x5 s4 s' h => ⟨_, tg_name, ?_⟩) ?_
  · exact wk_ro (by rfl)
  · have hD := @nxI K H0'
    obtain ⟨e_u7, h⟩ := mb_chk h
    obtain ⟨found8, e_found8, h⟩ := mb_ok h; have e_found8 := ok_inj e_found8
    refine l_dput (xs := s4) (x := true) (k := x5) (by rfl) ?_ ?_ rfl (by assumption) ?_
    · walk_at "ev"
    · walk_at "ev"
    rw [e_found8]
    cases h
    exact hL hD (by walk_at "sub")
  obtain ⟨growing9, e_growing9, h⟩ := mb_ok h; have e_growing9 := ok_inj e_growing9
  refine q_set (r := rB) (b := true) (b' := growing9) ?_ e_growing9 ?_
  · walk_at "ev"
  obtain ⟨s12, hm, h⟩ := mb_ok h
  refine q_whileM (fun (s10 : ((List (Str × Bool)) × Bool)) => ([rc (rEi K (rP K rS (rT K rS))) rules1, rc (rL rS) known2, some (.ow (nd K rB) s10.1), none, fc rB s10.2, none, none] : Cells K)) hm (.keep (.keep (.keep (.keep (.keep (.keep (.keep .nil))))))) (fun s10 _ e => ?_) (fun H0' e0 s10 s' h => ?_) ?_
  · cases e
    walk_at "ev"
  · have hD := @nxI K H0'
    obtain ⟨growing13, e_growing13, h⟩ := mb_ok h; have e_growing13 := ok_inj e_growing13
    refine q_set (r := rB) (b := false) (b' := growing13) ?_ e_growing13 ?_
    · walk_at "ev"
    obtain ⟨s16, hm, h⟩ := mb_ok h
    refine l_forM (G' := ([rc (rEi K (rP K rS (rT K rS))) rules1, rc (rL rS) known2, some (.ow (nd K rB) s10.1), none, fc rB growing13, none, none] : Cells K)) (r := (rP K rS (rT K rS))) (fun (s14 : ((List (Str × Bool)) × Bool)) => ([rc (rEi K (rP K rS (rT K rS))) rules1, rc (rL rS) known2, some (.ow (nd K rB) s14.1), none, fc rB s14.2, none, none] : Cells K)) hm ?_ (.keep (.keep (.keep (.keep (.keep (.keep (.keep .nil))))))) (fun H0' e0 x15 s14 s' h => ⟨_, tg_pair, ?_⟩) ?_
    · exact wk_ei (by rfl)
    · have hD := @nxI K H0'
      obtain ⟨c21, e_c21, h⟩ := mb_ok h
      refine l_if (c := c21) ?_ ?_ ?_
      · refine et_andM ?_ (fun _ e => ?_) e_c21
        · walk_at "ev"
        obtain ⟨e_u19, e⟩ := mb_chk e
        obtain ⟨zs20, e_zs20, e⟩ := mb_ok e
        cases e
        first | refine et_test ?_ | refine et_B ?_ | refine a_tru ?_ ?_
        refine ev_all ?_
        refine Nw.lst ?_
        refine nw_lcM (G' := ([rc (rEi K (rP K rS (rT K rS))) rules1, rc (rL rS) known2, some (.ow (nd K rB) s14.1), fc rS x15.1, fc rB s14.2, fc (rT K rS) x15.2, none] : Cells K)) (r := rS) ?_ (by walk_at "len") (fun y17 => ⟨_, tb_name, fun _ e => ?_, fun _ e => ?_⟩) e_zs20
        · refine wk_tup ?_
          walk_at "ev"
        · cases e
          exact et_yes
        · obtain ⟨t18, e_t18, e⟩ := mb_ok e
          cases e
          walk_at "ev"
      · intro hc; have h := bif_t h hc
        obtain ⟨e_u22, h⟩ := mb_chk h
        obtain ⟨found23, e_found23, h⟩ := mb_ok h; have e_found23 := ok_inj e_found23
        refine q_dput (xs := s14.1) (x := true) (k := x15.1) (by rfl) ?_ ?_ rfl (by assumption) ?_
        · walk_at "ev"
        · walk_at "ev"
        rw [e_found23]
        obtain ⟨growing24, e_growing24, h⟩ := mb_ok h; have e_growing24 := ok_inj e_growing24
        refine l_set (r := rB) (b := true) (b' := growing24) ?_ e_growing24 ?_
        · walk_at "ev"
        cases h
        exact hL hD (by walk_at "sub")
      · intro hc; have h := bif_f h hc
        cases h
        exact hL hD (by walk_at "sub")
    cases h
    exact hL hD (by walk_at "sub")
  cases h
  exact r_retO (i := 2) hD (by rfl)
abbrev n_reached_names : List Str := ["rules", "known", "found", "head", "growing", "side", "fresh", "sign"]
abbrev p_reached_names : List Str := ["rules", "known"]
theorem sc_reached_names : FnScope n_reached_names p_reached_names (defScope s_reached_names) := ⟨rfl, rfl, rfl, by decide +kernel, rfl, by decide +kernel, by decide +kernel⟩
abbrev sp_reached_names (K : PySem.W.Frag) : Sp := spMN (aC (rEi K (rP K rS (rT K rS))) (aC (rL rS) aN)) (nd K rB) fun a => m_reached_names a.1 a.2.1
theorem c_reached_names (F : Df K mg "reached_names" s_reached_names) (C_is_token : Cal P w K mg base CX0 "is_token" 1 p_is_token (sp_is_token K)) : Cal P w K mg base CX0 "reached_names" 2 p_reached_names (sp_reached_names K) := by
  refine cal_of F sc_reached_names (fun vs H Q E ⟨a, b, h, _⟩ => LenA.len h) (fun _ _ _ _ _ _ us hl => match us, hl with | [_, _], _ => rfl) fun cdv f A outer s H vs Q E hr h => ?_
  have sc := sc_reached_names
  refine ⟨_, (pss_cons (psS 2 sc.nd pe_dnewK)
      (pss_cons (ps_for PassesOwn.never rfl (pi_listK K (pv 1)) (pgN 3 sc.nd)
      (pss_one (ps_dput (unL (by decide) hr.un) (pv 2) (pv 3) pe_bl rfl)))
      (pss_cons (psS 4 sc.nd pe_bl)
      (pss_cons (ps_while PassesOwn.never (pt_val (pv 4))
      (pss_cons (psS 4 sc.nd pe_bl)
      (pss_one (ps_for PassesOwn.never rfl (pi_eiK K (pv 0)) (pg_tupK K rfl (pgs_cons (pgN 3 sc.nd) (pgs_cons (pgN 5 sc.nd) pgs_nil)))
      (pss_cons (ps_setLc (i := 6) (own := [("sign", 7)]) (g := gName 7) (by rfl) sc.nd rfl rfl (sw_true rfl rfl rfl (by decide +kernel)) (pi_tupK K (pv 5)) (blkOk_by (own := [("sign", 7)]) (N := n_reached_names) (sc := defScope s_reached_names) (by decide +kernel)) (fun _ _ _ _ _ => (pgN 7 sc.nd)) (fun _ _ _ _ _ => (pts_one (PW.pt (pw_and (pt_not (pt_val (pe_fn C_is_token hr.m (pa1 (pv 7))))) (pw_and1 (pt_cmp (pc_dnotin (unL (by decide) hr.un) (pv 7) (pv 2)) rfl)))))) (fun _ _ _ _ _ => (pv 7)))
      (pss_one (ps_if (PW.pt (pw_and (pt_cmp (pc_din (unL (by decide) hr.un) (pv 3) (pv 2)) rfl) (pw_and1 (pt_tru K (pv 6)))))
      (pss_cons (ps_dput (unL (by decide) hr.un) (pv 2) (pe_ix (k_ix K) (pv 6) pe_int (fun _ _ => rfl)) pe_bl rfl)
      (pss_one (psS 4 sc.nd pe_bl))) pss_nil)))))))
      (pss_one (ps_ret (pv 2))))))), ?_⟩
  obtain ⟨⟨rules1, known2, _⟩, r0, ⟨v_rules1, _, rfl, w_rules1, ⟨v_known2, _, rfl, w_known2, rfl⟩⟩, h, k⟩ := h
  have hD : RtOk (nd K rB) H r0 { nx := fun _ H' => Q .non H', rt := Q } := fun v H' ⟨as, s, n, z⟩ => k v H' as s n z
  refine Sv.run (K := K) (G := ([rc (rEi K (rP K rS (rT K rS))) rules1, rc (rL rS) known2, none, none, none, none, none, none] : Cells K)) ?_ (.ro w_rules1 (.ro w_known2 (.skip (.skip (.skip (.skip (.skip (.skip .nil))))))))
  have h : m_reached_names rules1 known2 = .ok r0 := h
  unfold m_reached_names at h
  obtain ⟨found3, e_found3, h⟩ := mb_ok h; have e_found3 := ok_inj e_found3
  refine q_asg (R := (nd K rB)) (b := ([] : (List (Str × Bool)))) (b' := found3) ?_ e_found3 ?_
  · walk_at "ev"
  obtain ⟨s6, hm, h⟩ := mb_ok h
  refine q_forM (G' := ([rc (rEi K (rP K rS (rT K rS))) rules1, rc (rL rS) known2, some (.ow (nd K rB) found3), none, none, none, none, none] : Cells K)) (r := rS) (fun (s4 : (List (Str × Bool))) => ([rc (rEi K (rP K rS (rT K rS))) rules1, rc (rL rS) known2, some (.ow (nd K rB) s4), none, none, none, none, none] : Cells K)) hm ?_ (.keep (.keep (.keep (.keep (.keep (.keep (.keep (.keep .nil)))))))) (fun H0' e0 x5 s4 s' h => ⟨_, tg_name, ?_⟩) ?_
  · exact wk_ro (by rfl)
  · have hD := @nxI K H0'
    obtain ⟨e_u7, h⟩ := mb_chk h
    obtain ⟨found8, e_found8, h⟩ := mb_ok h; have e_found8 := ok_inj e_found8
    refine l_dput (xs := s4) (x := true) (k := x5) (by rfl) ?_ ?_ rfl (by assumption) ?_
    · walk_at "ev"
    · walk_at "ev"
    rw [e_found8]
    cases h
    exact hL hD (by walk_at "sub")
  obtain ⟨growing9, e_growing9, h⟩ := mb_ok h; have e_growing9 := ok_inj e_growing9
  refine q_set (r := rB) (b := true) (b' := growing9) ?_ e_growing9 ?_
  · walk_at "ev"
  obtain ⟨s12, hm, h⟩ := mb_ok h
  refine q_whileM (fun (s10 : ((List (Str × Bool)) × Bool)) => ([rc (rEi K (rP K rS (rT K rS))) rules1, rc (rL rS) known2, some (.ow (nd K rB) s10.1), none, fc rB s10.2, none, none, none] : Cells K)) hm (.keep (.keep (.keep (.keep (.keep (.keep (.keep (.keep .nil)))))))) (fun s10 _ e => ?_) (fun H0' e0 s10 s' h => ?_) ?_
  · cases e
    walk_at "ev"
  · have hD := @nxI K H0'
    obtain ⟨growing13, e_growing13, h⟩ := mb_ok h; have e_growing13 := ok_inj e_growing13
    refine q_set (r := rB) (b := false) (b' := growing13) ?_ e_growing13 ?_
    · walk_at "ev"
    obtain ⟨s16, hm, h⟩ := mb_ok h
    refine l_forM (G' := ([rc (rEi K (rP K rS (rT K rS))) rules1, rc (rL rS) known2, some (.ow (nd K rB) s10.1), none, fc rB growing13, none, none, none] : Cells K)) (r := (rP K rS (rT K rS))) (fun (s14 : ((List (Str × Bool)) × Bool)) => ([rc (rEi K (rP K rS (rT K rS))) rules1, rc (rL rS) known2, some (.ow (nd K rB) s14.1), none, fc rB s14.2, none, none, none] : Cells K)) hm ?_ (.keep (.keep (.keep (.keep (.keep (.keep (.keep (.keep .nil)))))))) (fun H0' e0 x15 s14 s' h => ⟨_, tg_pair, ?_⟩) ?_
    · exact wk_ei (by rfl)
    · have hD := @nxI K H0'
      obtain ⟨e_u19, h⟩ := mb_chk h
      obtain ⟨zs20, e_zs20, h⟩ := mb_ok h
      refine q_asg (R := (nl K rS)) (b := zs20) (b' := zs20) ?_ rfl ?_
      · refine nw_lcM (G' := ([rc (rEi K (rP K rS (rT K rS))) rules1, rc (rL rS) known2, some (.ow (nd K rB) s14.1), fc rS x15.1, fc rB s14.2, fc (rT K rS) x15.2, none, none] : Cells K)) (r := rS) ?_ (by walk_at "len") (fun y17 => ⟨_, tb_name, fun _ e => ?_, fun _ e => ?_⟩) e_zs20
        · refine wk_tup ?_
          walk_at "ev"
        · obtain ⟨t18, e_t18, e⟩ := mb_ok e
          cases e
          walk_at "ev"
        · cases e
          walk_at "ev"
      refine l_if (c := (((dkey s14.1 x15.1).isSome) && (!zs20.isEmpty))) ?_ ?_ ?_
      · walk_at "ev"
      · intro hc; have h := bif_t h hc
        obtain ⟨t21, e_t21, h⟩ := mb_ok h; have e_t21 := oM_ok e_t21
        obtain ⟨e_u22, h⟩ := mb_chk h
        obtain ⟨found23, e_found23, h⟩ := mb_ok h; have e_found23 := ok_inj e_found23
        refine q_dput (xs := s14.1) (x := true) (k := t21) (by rfl) ?_ ?_ rfl (by assumption) ?_
        · walk_at "ev"
        · walk_at "ev"
        rw [e_found23]
        obtain ⟨growing24, e_growing24, h⟩ := mb_ok h; have e_growing24 := ok_inj e_growing24
        refine l_set (r := rB) (b := true) (b' := growing24) ?_ e_growing24 ?_
        · walk_at "ev"
        cases h
        exact hL hD (by walk_at "sub")
      · intro hc; have h := bif_f h hc
        cases h
        exact hL hD (by walk_at "sub")
    cases h
    exact hL hD (by walk_at "sub")
  cases h
  exact r_retO (i := 2) hD (by rfl)
abbrev n_is_own_head : List Str := ["sign"]
abbrev p_is_own_head : List Str := ["sign"]
theorem sc_is_own_head : FnScope n_is_own_head p_is_own_head (defScope s_is_own_head) := ⟨rfl, rfl, rfl, by decide +kernel, rfl, by decide +kernel, by decide +kernel⟩
abbrev sp_is_own_head (K : PySem.W.Frag) : Sp := spM (aC rS aN) rB fun a => m_is_own_head a.1
theorem c_is_own_head (F : Df K mg "is_own_head" s_is_own_head) (C_owner : Cal P w K mg base CX0 "owner" 1 p_owner (sp_owner K)) (C_is_token : Cal P w K mg base CX0 "is_token" 1 p_is_token (sp_is_token K)) : Cal P w K mg base CX0 "is_own_head" 2 p_is_own_head (sp_is_own_head K) := by
  refine cal_of F sc_is_own_head (fun vs H Q E ⟨a, b, h, _⟩ => LenA.len h) (fun _ _ _ _ _ _ us hl => match us, hl with | [_], _ => rfl) fun cdv f A outer s H vs Q E hr h => ?_
  have sc := sc_is_own_head
  refine ⟨_, (pss_one (ps_ret (pe_and (pe_cmpR op_ne (pe_fn C_owner hr.m (pa1 (pv 0))) pe_str (nomark _)) (pe_one (pe_not (pe_fn C_is_token hr.m (pa1 (pv 0)))))))), ?_⟩
  obtain ⟨⟨sign1, _⟩, r0, ⟨v_sign1, _, rfl, w_sign1, rfl⟩, h, k⟩ := h
  have hD := rtF (K := K) k
  refine Sv.run (K := K) (G := ([fc rS sign1] : Cells K)) ?_ (.fz w_sign1 .nil)
  have h : m_is_own_head sign1 = .ok r0 := h
  unfold m_is_own_head at h
  obtain ⟨t2, e_t2, h⟩ := mb_ok h
  obtain ⟨c4, e_c4, h⟩ := mb_ok h
  cases h
  refine r_ret hD ?_
  refine ev_andM ?_ (fun _ e => ?_) e_c4
  · walk_at "ev"
  obtain ⟨t3, e_t3, e⟩ := mb_ok e
  cases e
  walk_at "ev"
abbrev n_check_signs : List Str := ["owners", "rules", "head", "side", "sign"]
abbrev p_check_signs : List Str := ["owners", "rules"]
theorem sc_check_signs : FnScope n_check_signs p_check_signs (defScope s_check_signs) := ⟨rfl, rfl, rfl, by decide +kernel, rfl, by decide +kernel, by decide +kernel⟩
abbrev sp_check_signs (K : PySem.W.Frag) : Sp := spX (K := K) (aC (rT K rS) (aC (rT K (rP K rS (rT K rS))) aN)) rN fun a => m_check_signs a.1 a.2.1
theorem c_check_signs (F : Df K mg "check_signs" s_check_signs) (E_BadName : ExcK P K mg "BadName" "name") (C_owner : Cal P w K mg base CX0 "owner" 1 p_owner (sp_owner K)) : Cal P w K mg base (L2N.CX P w) "check_signs" 2 p_check_signs (sp_check_signs K) := by
  refine calX_of F sc_check_signs (fun vs H Q E ⟨a, h, _⟩ => LenA.len h) (fun _ _ _ _ _ _ us hl => match us, hl with | [_, _], _ => rfl) fun cdv f A outer s H vs Q E hr h => ?_
  have sc := sc_check_signs
  refine ⟨_, (pss_one (ps_for (passes_of rfl) rfl (pi_tupK K (pv 1)) (pg_tupK K rfl (pgs_cons (pgN 2 sc.nd) (pgs_cons (pgN 3 sc.nd) pgs_nil)))
      (pss_one (ps_for (passes_of rfl) rfl (pi_tupK K (pe_op (k_catA K) (pe_tupD (pa1 (pv 2))) (pv 3))) (pgN 4 sc.nd)
      (pss_one (ps_if (PW.pt (pw_and (pt_cmpR op_ne (pe_fn C_owner hr.m (pa1 (pv 4))) pe_str (nomark _)) (pw_and1 (pt_cmpR (k_nin K) (pe_fn C_owner hr.m (pa1 (pv 4))) (pv 0) rfl))))
      (pss_one (L2N.ps_raise rfl (L2N.takes_of rfl rfl rfl rfl) (pmk_ex E_BadName hr (pa1 (pv 4))))) pss_nil)))))), ?_⟩
  obtain ⟨⟨owners1, rules2, _⟩, ⟨v_owners1, _, rfl, w_owners1, ⟨v_rules2, _, rfl, w_rules2, rfl⟩⟩, hN, hok, hx⟩ := h
  have hD : ∀ r, m_check_signs owners1 rules2 = .ok r → RtOk (fz K rN) H r { nx := fun _ H' => Q .non H', rt := Q } := fun r e v H' ⟨as, s, n, z⟩ => hok r e v H' s z.2.now
  have hX : ∀ e, m_check_signs owners1 rules2 = .error e → XOk K H E e := fun e q => match e, q with | .stuck, q => absurd q hN | .ex x fs, q => fun d H' s n z => hx x fs q d H' s n z
  refine Sv.run (K := K) (G := ([fc (rT K rS) owners1, fc (rT K (rP K rS (rT K rS))) rules2, none, none, none] : Cells K)) ?_ (.fz w_owners1 (.fz w_rules2 (.skip (.skip (.skip .nil)))))
  clear hN hok hx
  generalize h : m_check_signs owners1 rules2 = o at hD hX
  have ns := nstk_of hX
  unfold m_check_signs at h
  refine l_forX (G' := ([fc (rT K rS) owners1, fc (rT K (rP K rS (rT K rS))) rules2, none, none, none] : Cells K)) (r := (rP K rS (rT K rS))) (f := (fun (s3 : Unit) (x4 : (Str × (List Str))) => mb (chk (decide ([x4.1].length + x4.2.length ≤ 12000000))) fun _ => mb (mfor (fun (s7 : Unit) (x8 : Str) => mb (calm (m_owner x8)) fun t10 => bif ((!(decide (t10 = ("" : Str)))) && (!(decide (t10 ∈ owners1)))) then .error (.ex "BadName" [("name", (.s (some x8)))]) else .ok ()) () ([x4.1] ++ x4.2)) fun s9 => .ok ())) (s0 := ()) (fun (s3 : Unit) => ([fc (rT K rS) owners1, fc (rT K (rP K rS (rT K rS))) rules2, none, none, none] : Cells K)) rfl ?_ (.keep (.keep (.keep (.keep (.keep .nil))))) (fun s5 ex => ?_) (fun e q => hX e (mbx_er h q)) (fun H0' D' e0 x4 s3 o' h hD hX => ⟨_, tg_pair, ?_⟩)
  · refine wk_tup ?_
    walk_at "ev"
  · have h := mbx_to h ex
    have hD := hD _ h.symm
    exact fun σ H hv => hD _ _ (RtR.none hv)
  · have ns := nstk_of hX
    obtain ⟨e_u6, h⟩ := mbx_chk h ns; have e_u6 := of_decide_eq_true e_u6
    refine l_forX (G' := ([fc (rT K rS) owners1, fc (rT K (rP K rS (rT K rS))) rules2, fc rS x4.1, fc (rT K rS) x4.2, none] : Cells K)) (r := rS) (f := (fun (s7 : Unit) (x8 : Str) => mb (calm (m_owner x8)) fun t10 => bif ((!(decide (t10 = ("" : Str)))) && (!(decide (t10 ∈ owners1)))) then .error (.ex "BadName" [("name", (.s (some x8)))]) else .ok ())) (s0 := ()) (fun (s7 : Unit) => ([fc (rT K rS) owners1, fc (rT K (rP K rS (rT K rS))) rules2, fc rS x4.1, fc (rT K rS) x4.2, none] : Cells K)) rfl ?_ (.keep (.keep (.keep (.keep (.keep .nil))))) (fun s9 ex => ?_) (fun e q => hX e (mbx_er h q)) (fun H0' D' e0 x8 s7 o' h hD hX => ⟨_, tg_name, ?_⟩)
    · refine wk_tup ?_
      walk_at "ev"
    · have h := mbx_to h ex
      have hD := hD _ h.symm
      exact hL hD (by walk_at "sub")
    · have ns := nstk_of hX
      obtain ⟨t10, e_t10, h⟩ := mbx_calm h ns
      refine l_if (c := ((!(decide (t10 = ("" : Str)))) && (!(decide (t10 ∈ owners1))))) ?_ ?_ ?_
      · walk_at "ev"
      · intro hc; have h := bif_t h hc
        refine l_raise ?_ (w_of (hX _ h.symm))
        refine ev_pS ?_
        walk_at "ev"
      · intro hc; have h := bif_f h hc
        have hD := hD _ h.symm
        exact hL hD (by walk_at "sub")
abbrev n_has_mark : List Str := ["side", "rules", "head", "other"]
abbrev p_has_mark : List Str := ["side", "rules"]
theorem sc_has_mark : FnScope n_has_mark p_has_mark (defScope s_has_mark) := ⟨rfl, rfl, rfl, by decide +kernel, rfl, by decide +kernel, by decide +kernel⟩
abbrev sp_has_mark (K : PySem.W.Frag) : Sp := spM (aC (rT K rS) (aC (rT K (rP K rS (rT K rS))) aN)) rB fun a => m_has_mark a.1 a.2.1
theorem c_has_mark (F : Df K mg "has_mark" s_has_mark) (B_sum : mg "sum" = none) (C_owner : Cal P w K mg base CX0 "owner" 1 p_owner (sp_owner K)) (C_is_token : Cal P w K mg base CX0 "is_token" 1 p_is_token (sp_is_token K)) : Cal P w K mg base CX0 "has_mark" 2 p_has_mark (sp_has_mark K) := by
  refine cal_of F sc_has_mark (fun vs H Q E ⟨a, b, h, _⟩ => LenA.len h) (fun _ _ _ _ _ _ us hl => match us, hl with | [_, _], _ => rfl) fun cdv f A outer s H vs Q E hr h => ?_
  have sc := sc_has_mark
  refine ⟨_, (pss_cons (ps_if (PW.pt (pw_or (pt_not (pt_tru K (pv 0))) (pw_or (pt_cmpR op_eq (pe_fn C_owner hr.m (pa1 (pe_ix (k_ix K) (pv 0) pe_int (fun _ _ => rfl)))) pe_str (nomark _)) (pw_or1 (pt_not (pt_val (pe_fn C_is_token hr.m (pa1 (pe_ix (k_ix K) (pv 0) pe_int (fun _ _ => rfl))))))))))
      (pss_one (ps_ret pe_bl)) pss_nil)
      (pss_one (ps_ret (pe_cmpR op_eq (pe_callB (k_sum K rfl) (by rfl) B_sum (by decide +kernel) (pa1 (pe_lc (own := [("head", 2), ("other", 3)]) (g := gTup _ 2 (gCons (gName 2) (gCons (gName 3) gNil))) (tt := tYes) (by rfl) sc.nd (pi_tupK K (pv 1)) (blkOk_by (own := [("head", 2), ("other", 3)]) (N := n_has_mark) (sc := defScope s_has_mark) (by decide +kernel)) (fun _ _ _ _ _ => (pg_tupK K rfl (pgs_cons (pgN 2 sc.nd) (pgs_cons (pgN 3 sc.nd) pgs_nil)))) (fun _ _ _ _ _ => pts_nil) (fun _ _ _ _ _ => (pe_tcount (pv 3) (pa1 (pe_ix (k_ix K) (pv 0) pe_int (fun _ _ => rfl))) K))))) pe_int (nomark _))))), ?_⟩
  obtain ⟨⟨side1, rules2, _⟩, r0, ⟨v_side1, _, rfl, w_side1, ⟨v_rules2, _, rfl, w_rules2, rfl⟩⟩, h, k⟩ := h
  have hD := rtF (K := K) k
  refine Sv.run (K := K) (G := ([fc (rT K rS) side1, fc (rT K (rP K rS (rT K rS))) rules2, none, none] : Cells K)) ?_ (.fz w_side1 (.fz w_rules2 (.skip (.skip .nil))))
  have h : m_has_mark side1 rules2 = .ok r0 := h
  unfold m_has_mark at h
  obtain ⟨c7, e_c7, h⟩ := mb_ok h
  refine q_if (c := c7) ?_ ?_ ?_
  · refine et_orM ?_ (fun _ e => ?_) e_c7
    · walk_at "ev"
    obtain ⟨t3, e_t3, e⟩ := mb_ok e; have e_t3 := oM_ok e_t3
    obtain ⟨t4, e_t4, e⟩ := mb_ok e
    obtain ⟨c6, e_c6, e⟩ := mb_ok e
    cases e
    refine et_orM ?_ (fun _ e => ?_) e_c6
    · walk_at "ev"
    obtain ⟨t5, e_t5, e⟩ := mb_ok e
    cases e
    walk_at "ev"
  · intro hc; have h := bif_t h hc
    cases h
    refine r_ret hD ?_
    walk_at "ev"
  · intro hc; have h := bif_f h hc
    refine q_next ?_
    obtain ⟨e_u10, h⟩ := mb_chk h
    obtain ⟨zs11, e_zs11, h⟩ := mb_ok h
    cases h
    refine r_ret hD ?_
    refine a_eq (r := rI) (a := zs11.sum) (x := (1 : Int)) ?_ ?_ ?_
    · refine ev_sum ?_
      refine Nw.lst ?_
      refine nw_lcM (G' := ([fc (rT K rS) side1, fc (rT K (rP K rS (rT K rS))) rules2, none, none] : Cells K)) (r := (rP K rS (rT K rS))) ?_ (by walk_at "len") (fun y8 => ⟨_, tb_pair, fun _ e => ?_, fun _ e => ?_⟩) e_zs11
      · refine wk_tup ?_
        walk_at "ev"
      · cases e
        exact et_yes
      · obtain ⟨t9, e_t9, e⟩ := mb_ok e; have e_t9 := oM_ok e_t9
        cases e
        walk_at "ev"
    · walk_at "ev"
    · walk_at "ev"
abbrev n_check_marks : List Str := ["rules", "head", "side"]
abbrev p_check_marks : List Str := ["rules"]
theorem sc_check_marks : FnScope n_check_marks p_check_marks (defScope s_check_marks) := ⟨rfl, rfl, rfl, by decide +kernel, rfl, by decide +kernel, by decide +kernel⟩
abbrev sp_check_marks (K : PySem.W.Frag) : Sp := spX (K := K) (aC (rT K (rP K rS (rT K rS))) aN) rN fun a => m_check_marks a.1
theorem c_check_marks (F : Df K mg "check_marks" s_check_marks) (E_BadMark : ExcK P K mg "BadMark" "rule") (C_owner : Cal P w K mg base CX0 "owner" 1 p_owner (sp_owner K)) (C_has_mark : Cal P w K mg base CX0 "has_mark" 2 p_has_mark (sp_has_mark K)) : Cal P w K mg base (L2N.CX P w) "check_marks" 3 p_check_marks (sp_check_marks K) := by
  refine calX_of F sc_check_marks (fun vs H Q E ⟨a, h, _⟩ => LenA.len h) (fun _ _ _ _ _ _ us hl => match us, hl with | [_], _ => rfl) fun cdv f A outer s H vs Q E hr h => ?_
  have sc := sc_check_marks
  refine ⟨_, (pss_one (ps_for (passes_of rfl) rfl (pi_tupK K (pv 0)) (pg_tupK K rfl (pgs_cons (pgN 1 sc.nd) (pgs_cons (pgN 2 sc.nd) pgs_nil)))
      (pss_one (ps_if (PW.pt (pw_and (pt_cmpR op_eq (pe_fn C_owner hr.m (pa1 (pv 1))) pe_str (nomark _)) (pw_and1 (pt_not (pt_val (pe_fn C_has_mark hr.m (pa_cons (pv 2) (pa1 (pv 0)))))))))
      (pss_one (L2N.ps_raise rfl (L2N.takes_of rfl rfl rfl rfl) (pmk_ex E_BadMark hr (pa1 (pe_tupD (pa_cons (pv 1) (pa1 (pv 2)))))))) pss_nil)))), ?_⟩
  obtain ⟨⟨rules1, _⟩, ⟨v_rules1, _, rfl, w_rules1, rfl⟩, hN, hok, hx⟩ := h
  have hD : ∀ r, m_check_marks rules1 = .ok r → RtOk (fz K rN) H r { nx := fun _ H' => Q .non H', rt := Q } := fun r e v H' ⟨as, s, n, z⟩ => hok r e v H' s z.2.now
  have hX : ∀ e, m_check_marks rules1 = .error e → XOk K H E e := fun e q => match e, q with | .stuck, q => absurd q hN | .ex x fs, q => fun d H' s n z => hx x fs q d H' s n z
  refine Sv.run (K := K) (G := ([fc (rT K (rP K rS (rT K rS))) rules1, none, none] : Cells K)) ?_ (.fz w_rules1 (.skip (.skip .nil)))
  clear hN hok hx
  generalize h : m_check_marks rules1 = o at hD hX
  have ns := nstk_of hX
  unfold m_check_marks at h
  refine l_forX (G' := ([fc (rT K (rP K rS (rT K rS))) rules1, none, none] : Cells K)) (r := (rP K rS (rT K rS))) (f := (fun (s2 : Unit) (x3 : (Str × (List Str))) => mb (calm (m_owner x3.1)) fun t5 => mb (calm (mand (decide (t5 = ("" : Str))) (mb (m_has_mark x3.2 rules1) fun t6 => .ok (!t6)))) fun c7 => bif c7 then .error (.ex "BadMark" [("rule", (.r (x3.1, x3.2)))]) else .ok ())) (s0 := ()) (fun (s2 : Unit) => ([fc (rT K (rP K rS (rT K rS))) rules1, none, none] : Cells K)) rfl ?_ (.keep (.keep (.keep .nil))) (fun s4 ex => ?_) (fun e q => hX e (mbx_er h q)) (fun H0' D' e0 x3 s2 o' h hD hX => ⟨_, tg_pair, ?_⟩)
  · refine wk_tup ?_
    walk_at "ev"
  · have h := mbx_to h ex
    have hD := hD _ h.symm
    exact fun σ H hv => hD _ _ (RtR.none hv)
  · have ns := nstk_of hX
    obtain ⟨t5, e_t5, h⟩ := mbx_calm h ns
    obtain ⟨c7, e_c7, h⟩ := mbx_calm h ns
    refine l_if (c := c7) ?_ ?_ ?_
    · refine et_andM ?_ (fun _ e => ?_) e_c7
      · walk_at "ev"
      obtain ⟨t6, e_t6, e⟩ := mb_ok e
      cases e
      walk_at "ev"
    · intro hc; have h := bif_t h hc
      refine l_raise ?_ (w_of (hX _ h.symm))
      refine ev_pR ?_
      walk_at "ev"
    · intro hc; have h := bif_f h hc
      have hD := hD _ h.symm
      exact hL hD (by walk_at "sub")
abbrev n_check_own : List Str := ["rules", "heads", "head", "side", "sign", "plain", "reached", "finished"]
abbrev p_check_own : List Str := ["rules"]
theorem sc_check_own : FnScope n_check_own p_check_own (defScope s_check_own) := ⟨rfl, rfl, rfl, by decide +kernel, rfl, by decide +kernel, by decide +kernel⟩
abbrev sp_check_own (K : PySem.W.Frag) : Sp := spX (K := K) (aC (rT K (rP K rS (rT K rS))) aN) rN fun a => m_check_own a.1
theorem c_check_own (F : Df K mg "check_own" s_check_own) (E_NoRule : ExcK P K mg "NoRule" "name") (E_Useless : ExcK P K mg "Useless" "name") (C_is_own_head : Cal P w K mg base CX0 "is_own_head" 2 p_is_own_head (sp_is_own_head K)) (C_owner : Cal P w K mg base CX0 "owner" 1 p_owner (sp_owner K)) (C_reached_names : Cal P w K mg base CX0 "reached_names" 2 p_reached_names (sp_reached_names K)) (C_finished_names : Cal P w K mg base CX0 "finished_names" 2 p_finished_names (sp_finished_names K)) : Cal P w K mg base (L2N.CX P w) "check_own" 3 p_check_own (sp_check_own K) := by
  refine calX_of F sc_check_own (fun vs H Q E ⟨a, h, _⟩ => LenA.len h) (fun _ _ _ _ _ _ us hl => match us, hl with | [_], _ => rfl) fun cdv f A outer s H vs Q E hr h => ?_
  have sc := sc_check_own
  refine ⟨_, (pss_cons (ps_setLc (i := 1) (own := [("head", 2), ("side", 3)]) (g := gTup _ 2 (gCons (gName 2) (gCons (gName 3) gNil))) (tt := tYes) (by rfl) sc.nd rfl rfl (sw_true rfl rfl rfl (by decide +kernel)) (pi_tupK K (pv 0)) (blkOk_by (own := [("head", 2), ("side", 3)]) (N := n_check_own) (sc := defScope s_check_own) (by decide +kernel)) (fun _ _ _ _ _ => (pg_tupK K rfl (pgs_cons (pgN 2 sc.nd) (pgs_cons (pgN 3 sc.nd) pgs_nil)))) (fun _ _ _ _ _ => pts_nil) (fun _ _ _ _ _ => (pv 2)))
      (pss_cons (ps_for (passes_of rfl) rfl (pi_tupK K (pv 0)) (pg_tupK K rfl (pgs_cons (pgN 2 sc.nd) (pgs_cons (pgN 3 sc.nd) pgs_nil)))
      (pss_one (ps_for (passes_of rfl) rfl (pi_tupK K (pv 3)) (pgN 4 sc.nd)
      (pss_one (ps_if (PW.pt (pw_and (pt_val (pe_fn C_is_own_head hr.m (pa1 (pv 4)))) (pw_and1 (pt_cmpR (k_nin K) (pv 4) (pv 1) rfl))))
      (pss_one (L2N.ps_raise rfl (L2N.takes_of rfl rfl rfl rfl) (pmk_ex E_NoRule hr (pa1 (pv 4))))) pss_nil)))))
      (pss_cons (ps_setLc2 (i := 5) (own := [("head", 2), ("side", 3), ("sign", 4)]) (g := gTup _ 2 (gCons (gName 2) (gCons (gName 3) gNil))) (tt := tYes) (vs1 := [4]) (g1 := gName 4) (by rfl) sc.nd rfl rfl (sw_true rfl rfl rfl (by decide +kernel)) (pi_tupK K (pv 0)) (blkOk_by (own := [("head", 2), ("side", 3), ("sign", 4)]) (N := n_check_own) (sc := defScope s_check_own) (by decide +kernel)) (by decide) (fun _ _ _ _ _ => (pg_tupK K rfl (pgs_cons (pgN 2 sc.nd) (pgs_cons (pgN 3 sc.nd) pgs_nil)))) (fun _ _ _ _ _ => pts_nil) (fun _ _ _ _ _ => (pi_tupK K (pe_op (k_catA K) (pe_tupD (pa1 (pv 2))) (pv 3)))) (fun _ _ _ _ _ => (pgN 4 sc.nd)) (fun _ _ _ _ _ => (pts_one (pt_cmpR op_eq (pe_fn C_owner hr.m (pa1 (pv 4))) pe_str (nomark _)))) (fun _ _ _ _ _ => (pv 4)))
      (pss_cons (psS 6 sc.nd (pe_fn C_reached_names hr.m (pa_cons (pv 0) (pa1 (pe_lc (own := [("head", 2)]) (g := gName 2) (by rfl) sc.nd (pi_listK K (pv 1)) (blkOk_by (own := [("head", 2)]) (N := n_check_own) (sc := defScope s_check_own) (by decide +kernel)) (fun _ _ _ _ _ => (pgN 2 sc.nd)) (fun _ _ _ _ _ => (pts_one (pt_cmpR op_eq (pe_fn C_owner hr.m (pa1 (pv 2))) pe_str (nomark _)))) (fun _ _ _ _ _ => (pv 2)))))))
      (pss_cons (psS 7 sc.nd (pe_fn C_finished_names hr.m (pa_cons (pv 0) (pa1 (pv 5)))))
      (pss_one (ps_for (passes_of rfl) rfl (pi_listK K (pv 1)) (pgN 2 sc.nd)
      (pss_one (ps_if (PW.pt (pw_or (pt_cmp (pc_dnotin (unL (by decide) hr.un) (pv 2) (pv 6)) rfl) (pw_or1 (pt_cmp (pc_dnotin (unL (by decide) hr.un) (pv 2) (pv 7)) rfl))))
      (pss_one (L2N.ps_raise rfl (L2N.takes_of rfl rfl rfl rfl) (pmk_ex E_Useless hr (pa1 (pv 2))))) pss_nil))))))))), ?_⟩
  obtain ⟨⟨rules1, _⟩, ⟨v_rules1, _, rfl, w_rules1, rfl⟩, hN, hok, hx⟩ := h
  have hD : ∀ r, m_check_own rules1 = .ok r → RtOk (fz K rN) H r { nx := fun _ H' => Q .non H', rt := Q } := fun r e v H' ⟨as, s, n, z⟩ => hok r e v H' s z.2.now
  have hX : ∀ e, m_check_own rules1 = .error e → XOk K H E e := fun e q => match e, q with | .stuck, q => absurd q hN | .ex x fs, q => fun d H' s n z => hx x fs q d H' s n z
  refine Sv.run (K := K) (G := ([fc (rT K (rP K rS (rT K rS))) rules1, none, none, none, none, none, none, none] : Cells K)) ?_ (.fz w_rules1 (.skip (.skip (.skip (.skip (.skip (.skip (.skip .nil))))))))
  clear hN hok hx
  generalize h : m_check_own rules1 = o at hD hX
  have ns := nstk_of hX
  unfold m_check_own at h
  obtain ⟨e_u3, h⟩ := mbx_chk h ns; have e_u3 := of_decide_eq_true e_u3
  obtain ⟨heads4, e_heads4, h⟩ := mbx_ok h
  refine q_asg (R := (nl K rS)) (b := rules1.map (fun (y2 : (Str × (List Str))) => y2.1)) (b' := heads4) ?_ e_heads4 ?_
  · refine nw_lc1 (G' := ([fc (rT K (rP K rS (rT K rS))) rules1, none, none, none, none, none, none, none] : Cells K)) (r := (rP K rS (rT K rS))) ?_ (by walk_at "len") (fun _ y2 _ _ => ⟨_, tb_pair, ?_⟩)
    · refine wk_tup ?_
      walk_at "ev"
    · walk_at "ev"
  refine q_forX (G' := ([fc (rT K (rP K rS (rT K rS))) rules1, some (.ow (nl K rS) heads4), none, none, none, none, none, none] : Cells K)) (r := (rP K rS (rT K rS))) (f := (fun (s5 : Unit) (x6 : (Str × (List Str))) => mb (mfor (fun (s8 : Unit) (x9 : Str) => mb (calm (m_is_own_head x9)) fun t11 => bif (t11 && (!(decide (x9 ∈ heads4)))) then .error (.ex "NoRule" [("name", (.s (some x9)))]) else .ok ()) () x6.2) fun s10 => .ok ())) (s0 := ()) (fun (s5 : Unit) => ([fc (rT K (rP K rS (rT K rS))) rules1, some (.ow (nl K rS) heads4), none, none, none, none, none, none] : Cells K)) rfl ?_ (.keep (.keep (.keep (.keep (.keep (.keep (.keep (.keep .nil)))))))) (fun s7 ex => ?_) (fun e q => hX e (mbx_er h q)) (fun H0' D' e0 x6 s5 o' h hD hX => ⟨_, tg_pair, ?_⟩)
  · refine wk_tup ?_
    walk_at "ev"
  · have h := mbx_to h ex
    obtain ⟨zs16, e_zs16, h⟩ := mbx_calm h ns
    obtain ⟨e_u17, h⟩ := mbx_chk h ns; have e_u17 := of_decide_eq_true e_u17
    refine q_asg (R := (nl K rS)) (b := zs16) (b' := zs16) ?_ rfl ?_
    · refine nw_lc2M (G' := ([fc (rT K (rP K rS (rT K rS))) rules1, some (.ow (nl K rS) heads4), none, none, none, none, none, none] : Cells K)) (r := (rP K rS (rT K rS))) (r1 := rS) (z := (fun (y12 : (Str × (List Str))) => mb (chk (decide ([y12.1].length + y12.2.length ≤ 12000000))) fun _ => .ok ([y12.1] ++ y12.2))) (p := (fun (y12 : (Str × (List Str))) (y13 : Str) => mb (m_owner y13) fun t15 => .ok (decide (t15 = ("" : Str))))) (f := (fun (y12 : (Str × (List Str))) (y13 : Str) => .ok y13)) ?_ (by assumption) (fun y12 => ⟨_, tbp_pair, fun _ e => ?_, fun y13 => ⟨_, tbp_name, fun _ e => ?_, fun _ e => ?_⟩⟩) e_zs16
      · refine wk_tup ?_
        walk_at "ev"
      · obtain ⟨e_u14, e⟩ := mb_chk e
        cases e
        refine wkp_tup ?_
        walk_at "ev"
      · obtain ⟨t15, e_t15, e⟩ := mb_ok e
        cases e
        walk_at "ev"
      · cases e
        walk_at "ev"
    obtain ⟨e_u20, h⟩ := mbx_chk h ns; have e_u20 := of_decide_eq_true e_u20
    obtain ⟨zs21, e_zs21, h⟩ := mbx_calm h ns
    obtain ⟨t22, e_t22, h⟩ := mbx_calm h ns
    refine q_asg (R := (nd K rB)) (b := t22) (b' := t22) ?_ rfl ?_
    · refine a_ncallM (g := (rules1, (zs21, ()))) ?_ (show MOk _ _ _ from ?_)
      · refine a_cons ?_ inferInstance ?_
        · walk_at "ev"
        refine a_cons ?_ inferInstance ?_
        · refine Nw.lst ?_
          refine nw_lcM (G' := ([fc (rT K (rP K rS (rT K rS))) rules1, rc (rL rS) heads4, none, none, none, some (.ow (nl K rS) zs16), none, none] : Cells K)) (r := rS) ?_ (by walk_at "len") (fun y18 => ⟨_, tb_name, fun _ e => ?_, fun _ e => ?_⟩) e_zs21
          · exact wk_own (i := 1) (by rfl)
          · obtain ⟨t19, e_t19, e⟩ := mb_ok e
            cases e
            walk_at "ev"
          · cases e
            walk_at "ev"
        exact ea_nil
      · unfold MOk; assumption
    obtain ⟨t23, e_t23, h⟩ := mbx_calm h ns
    refine q_asg (R := (nd K rB)) (b := t23) (b' := t23) ?_ rfl ?_
    · walk_at "ev"
    refine l_forX (G' := ([fc (rT K (rP K rS (rT K rS))) rules1, rc (rL rS) heads4, none, none, none, some (.ow (nl K rS) zs16), some (.ow (nd K rB) t22), some (.ow (nd K rB) t23)] : Cells K)) (r := rS) (f := (fun (s24 : Unit) (x25 : Str) => bif ((!((dkey t22 x25).isSome)) || (!((dkey t23 x25).isSome))) then .error (.ex "Useless" [("name", (.s (some x25)))]) else .ok ())) (s0 := ()) (fun (s24 : Unit) => ([fc (rT K (rP K rS (rT K rS))) rules1, rc (rL rS) heads4, none, none, none, some (.ow (nl K rS) zs16), some (.ow (nd K rB) t22), some (.ow (nd K rB) t23)] : Cells K)) rfl ?_ (.keep (.keep (.keep (.keep (.keep (.keep (.keep (.keep .nil)))))))) (fun s26 ex => ?_) (fun e q => hX e (mbx_er h q)) (fun H0' D' e0 x25 s24 o' h hD hX => ⟨_, tg_name, ?_⟩)
    · exact wk_own (i := 1) (by rfl)
    · have h := mbx_to h ex
      have hD := hD _ h.symm
      exact fun σ H hv => hD _ _ (RtR.none hv)
    · have ns := nstk_of hX
      refine l_if (c := ((!((dkey t22 x25).isSome)) || (!((dkey t23 x25).isSome)))) ?_ ?_ ?_
      · walk_at "ev"
      · intro hc; have h := bif_t h hc
        refine l_raise ?_ (w_of (hX _ h.symm))
        refine ev_pS ?_
        walk_at "ev"
      · intro hc; have h := bif_f h hc
        have hD := hD _ h.symm
        exact hL hD (by walk_at "sub")
  · have ns := nstk_of hX
    refine l_forX (G' := ([fc (rT K (rP K rS (rT K rS))) rules1, some (.ow (nl K rS) heads4), fc rS x6.1, fc (rT K rS) x6.2, none, none, none, none] : Cells K)) (r := rS) (f := (fun (s8 : Unit) (x9 : Str) => mb (calm (m_is_own_head x9)) fun t11 => bif (t11 && (!(decide (x9 ∈ heads4)))) then .error (.ex "NoRule" [("name", (.s (some x9)))]) else .ok ())) (s0 := ()) (fun (s8 : Unit) => ([fc (rT K (rP K rS (rT K rS))) rules1, some (.ow (nl K rS) heads4), fc rS x6.1, fc (rT K rS) x6.2, none, none, none, none] : Cells K)) rfl ?_ (.keep (.keep (.keep (.keep (.keep (.keep (.keep (.keep .nil)))))))) (fun s10 ex => ?_) (fun e q => hX e (mbx_er h q)) (fun H0' D' e0 x9 s8 o' h hD hX => ⟨_, tg_name, ?_⟩)
    · refine wk_tup ?_
      walk_at "ev"
    · have h := mbx_to h ex
      have hD := hD _ h.symm
      exact hL hD (by walk_at "sub")
    · have ns := nstk_of hX
      obtain ⟨t11, e_t11, h⟩ := mbx_calm h ns
      refine l_if (c := (t11 && (!(decide (x9 ∈ heads4))))) ?_ ?_ ?_
      · walk_at "ev"
      · intro hc; have h := bif_t h hc
        refine l_raise ?_ (w_of (hX _ h.symm))
        refine ev_pS ?_
        walk_at "ev"
      · intro hc; have h := bif_f h hc
        have hD := hD _ h.symm
        exact hL hD (by walk_at "sub")
abbrev n_Extension___init__ : List Str := ["self", "name", "rules", "base", "known", "owners"]
abbrev p_Extension___init__ : List Str := ["self", "name", "rules", "base"]
theorem sc_Extension___init__ : FnScope n_Extension___init__ p_Extension___init__ (defScope s_Extension___init__) := ⟨rfl, rfl, rfl, by decide +kernel, rfl, by decide +kernel, by decide +kernel⟩
abbrev sp_Extension___init__ (K : PySem.W.Frag) : Sp := spInit K (cA K "Extension") (fA (fA (fA (fA fN "name" (fz K rS)) "rules" (fz K (rT K (rP K rS (rT K rS))))) "base" (fz K rAny)) "owners" (fz K (rT K rS))) (aC rS (aC (rEi K (rP K rS (rT K rS))) (aC (rO (rRec K (cA K "Extension") (fA (fA (fA (fA fN "name" (fz K rS)) "rules" (fz K (rT K (rP K rS (rT K rS))))) "base" (fz K rAny)) "owners" (fz K (rT K rS))))) aN))) fun a => m_Extension___init__ a.1 a.2.1 a.2.2.1
theorem c_Extension___init__ (F : DfEK K (cA K "Extension") "Extension.__init__" "base" s_Extension___init__) (B_list : mg "list" = none) (K_Named : ClsF K mg "Named") (CF_Named_init_Extension : CalF P w K mg base (cA K "Named") "__init__" 2 p_Named_init_Extension (sp_Named_init_Extension K)) (K_Extension : ClsF K mg "Extension") (N_Extension_owners : NoAttr K (cA K "Extension") "owners") (N_Extension_rules : NoAttr K (cA K "Extension") "rules") (K_Ruled : ClsF K mg "Ruled") (CF_Ruled_init_Extension : CalF P w K mg base (cA K "Ruled") "__init__" 2 p_Ruled_init_Extension (sp_Ruled_init_Extension K)) (N_Extension_base : NoAttr K (cA K "Extension") "base") (E_SameName : ExcK P K mg "SameName" "name") (C_check_signs : Cal P w K mg base (L2N.CX P w) "check_signs" 2 p_check_signs (sp_check_signs K)) (C_check_marks : Cal P w K mg base (L2N.CX P w) "check_marks" 3 p_check_marks (sp_check_marks K)) (C_check_own : Cal P w K mg base (L2N.CX P w) "check_own" 3 p_check_own (sp_check_own K)) : CalN P w K mg base (L2N.CX P w) (cA K "Extension") 4 p_Extension___init__ (sp_Extension___init__ K) ∧ CalK P w K mg base (L2N.CX P w) (cA K "Extension") 2 4 p_Extension___init__ "base" (sp_Extension___init__ K) := by
  have cl_Named := K_Named.cl
  have cl_Extension := K_Extension.cl
  have cl_Ruled := K_Ruled.cl
  refine calK_of K_Extension F sc_Extension___init__ (fun vs H Q E h => spInit_len h) (fun D doc pm an cdv ct u1 u2 u3 v => ⟨⟨_, _, _, _, _, _, rfl, rfl, rfl⟩, rfl⟩) fun cdv f A outer s H vs Q E hr h => ?_
  have sc := sc_Extension___init__
  refine ⟨_, (pss_cons (ps_expr (pe_cfnS CF_Named_init_Extension hr.m (L2N.takes_of rfl rfl rfl rfl) (pe_glob (v := .ref (cA K "Named")) (by rfl) K_Named.mg rfl) (pa_cons (pv 0) (pa1 (pv 1)))))
      (pss_cons (psS 4 sc.nd (pe_lst pa_nil))
      (pss_cons (psS 5 sc.nd (pe_tupD pa_nil))
      (pss_cons (ps_if (pt_cmpR op_notN (pv 3) pe_non (nomark _))
      (pss_cons (ps_if (pt_cmpR (k_in K) (pv 1) (pe_fldK K (pv 3)) rfl)
      (pss_one (L2N.ps_raise rfl (L2N.takes_of rfl rfl rfl rfl) (pmk_ex E_SameName hr (pa1 (pv 1))))) pss_nil)
      (pss_cons (psS 4 sc.nd (pe_callTy (k_list K) (by rfl) B_list (by decide +kernel) (pa1 (pe_fldK K (pv 3)))))
      (pss_one (psS 5 sc.nd (pe_fldK K (pv 3)))))) pss_nil)
      (pss_cons (ps_expr (pe_cfnS CF_Ruled_init_Extension hr.m (L2N.takes_of rfl rfl rfl rfl) (pe_glob (v := .ref (cA K "Ruled")) (by rfl) K_Ruled.mg rfl) (pa_cons (pv 0) (pa1 (pe_op op_cat (pv 4) (pe_callTy (k_list K) (by rfl) B_list (by decide +kernel) (pa1 (pv 2))))))))
      (pss_cons (ps_fldK K (pv 0) (pv 3))
      (pss_cons (ps_fldK K (pv 0) (pe_op (k_catA K) (pv 5) (pe_tupD (pa1 (pv 1)))))
      (pss_cons (ps_expr (pe_fnS C_check_signs hr.m (L2N.takes_of rfl rfl rfl rfl) (pa_cons (pe_fldK K (pv 0)) (pa1 (pe_fldK K (pv 0))))))
      (pss_cons (ps_expr (pe_fnS C_check_marks hr.m (L2N.takes_of rfl rfl rfl rfl) (pa1 (pe_fldK K (pv 0)))))
      (pss_one (ps_expr (pe_fnS C_check_own hr.m (L2N.takes_of rfl rfl rfl rfl) (pa1 (pe_fldK K (pv 0))))))))))))))), ?_⟩
  obtain ⟨p0, dx0, ws, ⟨name2, rules3, base4, _⟩, r0, rfl, s0, hp1, x0, hp0, ⟨v_name2, _, rfl, w_name2, ⟨v_rules3, _, rfl, w_rules3, ⟨v_base4, _, rfl, w_base4, rfl⟩⟩⟩, hN, hok, hx⟩ := h
  have hD : ∀ r, m_Extension___init__ name2 rules3 base4 = .ok r → ∀ H' as, Same r0 H' → (∀ q, q ∈ as → r0 q = none) → (nRec K (cA K "Extension") (fA (fA (fA (fA fN "name" (fz K rS)) "rules" (fz K (rT K (rP K rS (rT K rS))))) "base" (fz K rAny)) "owners" (fz K (rT K rS)))).rep H' (.ref p0) r as → Q .non H' := hok
  have hX : ∀ e, m_Extension___init__ name2 rules3 base4 = .error e → XOk K r0 E e := fun e q => match e, q with | .stuck, q => absurd q hN | .ex x fs, q => fun d H' s n z => hx x fs q d H' s n z
  refine Sv.runI (K := K) (C := cA K "Extension") (p := p0) (G := [fc rS name2, rc (rEi K (rP K rS (rT K rS))) rules3, rc (rO (rRec K (cA K "Extension") (fA (fA (fA (fA fN "name" (fz K rS)) "rules" (fz K (rT K (rP K rS (rT K rS))))) "base" (fz K rAny)) "owners" (fz K (rT K rS))))) base4, none, none]) ?_ s0 hp1 hp0 (.fz w_name2 (.ro w_rules3 (.ro w_base4 (.skip (.skip .nil)))))
  clear hN hok hx
  generalize h : m_Extension___init__ name2 rules3 base4 = o at hD hX
  have ns := nstk_of hX
  unfold m_Extension___init__ at h
  refine q_groC (i := 0) (F := fN) (F' := (fA fN "name" (fz K rS))) (x := ()) (a := (name2, ())) (m := fun x a => m_Named_init_Extension x a.1) (by rfl) ?_ ?_ rfl (wok_E fun e q => hX e (mbx_er h q)) (fun y5 ex => ?_)
  · exact ev_cls
  · refine apa_cons ?_ ?_
    · refine ap_fz ?_
      walk_at "ev"
    exact apa_nil
  have h := mbx_to h ex
  obtain ⟨known6, e_known6, h⟩ := mbx_ok h
  refine q_asg (R := (nl K (rP K rS (rT K rS)))) (b := ([] : (List (Str × (List Str))))) (b' := known6) ?_ e_known6 ?_
  · walk_at "ev"
  obtain ⟨owners7, e_owners7, h⟩ := mbx_ok h
  refine q_set (r := (rT K rS)) (b := ([] : (List Str))) (b' := owners7) ?_ e_owners7 ?_
  · walk_at "ev"
  refine q_joinY (fun (s8 : ((List (Str × (List Str))) × (List Str))) => ([some (.ow (nGro K p0 (cA K "Extension") (fA fN "name" (fz K rS))) ((), y5.2)), fc rS name2, rc (rEi K (rP K rS (rT K rS))) rules3, rc (rO (rRec K (cA K "Extension") (fA (fA (fA (fA fN "name" (fz K rS)) "rules" (fz K (rT K (rP K rS (rT K rS))))) "base" (fz K rAny)) "owners" (fz K (rT K rS))))) base4, some (.ow (nl K (rP K rS (rT K rS))) s8.1), fc (rT K rS) s8.2] : Cells K)) h hX (fun o9 h hD hX => ?_) (fun s8 ex => ?_)
  · have ns := nstk_of hX
    refine q_if (c := (!(isNone' base4))) ?_ ?_ ?_
    · walk_at "ev"
    · intro hc; have h := bif_t h hc
      obtain ⟨z10, e_z10, h⟩ := mbx_oM h ns
      refine q_if (c := (decide (name2 ∈ z10.2))) ?_ ?_ ?_
      · walk_at "ev"
      · intro hc; have h := bif_t h hc
        refine l_raise ?_ (w_of (hX _ h.symm))
        refine ev_pS ?_
        walk_at "ev"
      · intro hc; have h := bif_f h hc
        refine q_next ?_
        obtain ⟨known11, e_known11, h⟩ := mbx_ok h
        refine q_asg (R := (nl K (rP K rS (rT K rS)))) (b := z10.1.1.2) (b' := known11) ?_ e_known11 ?_
        · walk_at "ev"
        obtain ⟨owners12, e_owners12, h⟩ := mbx_ok h
        refine l_set (r := (rT K rS)) (b := z10.2) (b' := owners12) ?_ e_owners12 ?_
        · walk_at "ev"
        have hD := hD _ h.symm
        exact hL hD (by walk_at "sub")
    · intro hc; have h := bif_f h hc
      have hD := hD _ h.symm
      exact hL hD (by walk_at "sub")
  · have h := mbx_to h ex
    obtain ⟨e_u13, h⟩ := mbx_chk h ns; have e_u13 := of_decide_eq_true e_u13
    refine q_groC (i := 0) (F := (fA fN "name" (fz K rS))) (F' := (fA (fA fN "name" (fz K rS)) "rules" (fz K (rT K (rP K rS (rT K rS)))))) (x := ((), y5.2)) (a := ((s8.1 ++ rules3), ())) (m := fun x a => m_Ruled_init_Extension x a.1) (by rfl) ?_ ?_ rfl (wok_E fun e q => hX e (mbx_er h q)) (fun y14 ex => ?_)
    · exact ev_cls
    · refine apa_cons ?_ ?_
      · refine ap_new ?_
        walk_at "ev"
      exact apa_nil
    have h := mbx_to h ex
    refine q_selfN (i := 0) (b := ()) (R := (fz K rAny)) (by rfl) ?_ (by simp only [fA, fN]; decide) (by simp only [fA, fN]; decide) cl_Extension N_Extension_base ?_
    · refine Ev.nw (ev_any0 (r := (rO (rRec K (cA K "Extension") (fA (fA (fA (fA fN "name" (fz K rS)) "rules" (fz K (rT K (rP K rS (rT K rS))))) "base" (fz K rAny)) "owners" (fz K (rT K rS)))))) (x := base4) ?_)
      walk_at "ev"
    obtain ⟨e_u15, h⟩ := mbx_chk h ns; have e_u15 := of_decide_eq_true e_u15
    refine q_selfN (i := 0) (b := (s8.2 ++ [name2])) (R := (fz K (rT K rS))) (by rfl) ?_ (by simp only [fA, fN]; decide) (by simp only [fA, fN]; decide) cl_Extension N_Extension_owners ?_
    · refine Ev.nw ?_
      walk_at "ev"
    refine q_dropX (q := rN) (g := ((s8.2 ++ [name2]), (y14.2, ()))) ?_ rfl (wok_E fun e q => hX e (mbx_er h q)) (fun u16 ex => ?_)
    · walk_at "ev"
    have h := mbx_to h ex
    refine q_dropX (q := rN) (g := (y14.2, ())) ?_ rfl (wok_E fun e q => hX e (mbx_er h q)) (fun u17 ex => ?_)
    · walk_at "ev"
    have h := mbx_to h ex
    refine l_dropX (q := rN) (g := (y14.2, ())) ?_ rfl (wok_E fun e q => hX e (mbx_er h q)) (fun u18 ex => ?_)
    · walk_at "ev"
    have h := mbx_to h ex
    exact nx_init (by rfl) (by repeat' (first | exact fle_N | apply fle_A | exact rle_nlA | exact rle_refl)) (fun H' as => hD _ h.symm H' as)
abbrev n__law_cell : List Str := ["_law_script", "_law_k"]
abbrev p__law_cell : List Str := ["_law_script", "_law_k"]
theorem sc__law_cell : FnScope n__law_cell p__law_cell (defScope s__law_cell) := ⟨rfl, rfl, rfl, by decide +kernel, rfl, by decide +kernel, by decide +kernel⟩
abbrev sp__law_cell (K : PySem.W.Frag) : Sp := spM (aC (rQ K rI) (aC rI aN)) rI fun a => m__law_cell a.1 a.2.1
theorem c__law_cell (F : Df K mg "_law_cell" s__law_cell) (B_len : mg "len" = none) (B_int : mg "int" = none) : Cal P w K mg base CX0 "_law_cell" 1 p__law_cell (sp__law_cell K) := by
  refine cal_of F sc__law_cell (fun vs H Q E ⟨a, b, h, _⟩ => LenA.len h) (fun _ _ _ _ _ _ us hl => match us, hl with | [_, _], _ => rfl) fun cdv f A outer s H vs Q E hr h => ?_
  have sc := sc__law_cell
  refine ⟨_, (pss_one (ps_ret (pe_ifExp (pt_cmpR op_lt (pv 1) (pe_callB (k_len K) (by rfl) B_len PySem.boot_len (pa1 (pv 0))) (nomark _)) (pe_callTy call_int1 (by rfl) B_int (by decide +kernel) (pa1 (pe_ix (k_ix K) (pv 0) (pv 1) (fun _ _ => rfl)))) pe_int))), ?_⟩
  obtain ⟨⟨script1, k2, _⟩, r0, ⟨v_script1, _, rfl, w_script1, ⟨v_k2, _, rfl, w_k2, rfl⟩⟩, h, k⟩ := h
  have hD := rtF (K := K) k
  refine Sv.run (K := K) (G := ([rc (rQ K rI) script1, fc rI k2] : Cells K)) ?_ (.ro w_script1 (.fz w_k2 .nil))
  have h : m__law_cell script1 k2 = .ok r0 := h
  unfold m__law_cell at h
  obtain ⟨c4, e_c4, h⟩ := mb_ok h
  cases h
  refine r_ret hD ?_
  refine ev_ifM ?_ (fun _ e => ?_) (fun _ e => ?_) e_c4
  · walk_at "ev"
  · obtain ⟨t3, e_t3, e⟩ := mb_ok e; have e_t3 := oM_ok e_t3
    cases e
    walk_at "ev"
  · cases e
    walk_at "ev"
abbrev n__law_draws : List Str := ["_law_cell_here", "_law_many", "_law_rest", "_law_row", "_law_k", "_law_mixed"]
abbrev p__law_draws : List Str := ["_law_cell_here", "_law_many"]
theorem sc__law_draws : FnScope n__law_draws p__law_draws (defScope s__law_draws) := ⟨rfl, rfl, rfl, by decide +kernel, rfl, by decide +kernel, by decide +kernel⟩
abbrev sp__law_draws (K : PySem.W.Frag) : Sp := spMN (aC rI (aC rI aN)) (nl K rI) fun a => m__law_draws a.1 a.2.1
theorem c__law_draws (F : Df K mg "_law_draws" s__law_draws) (B_int : mg "int" = none) (B_range : mg "range" = none) : Cal P w K mg base CX0 "_law_draws" 1 p__law_draws (sp__law_draws K) := by
  refine cal_of F sc__law_draws (fun vs H Q E ⟨a, b, h, _⟩ => LenA.len h) (fun _ _ _ _ _ _ us hl => match us, hl with | [_, _], _ => rfl) fun cdv f A outer s H vs Q E hr h => ?_
  have sc := sc__law_draws
  refine ⟨_, (pss_cons (psS 2 sc.nd (pe_op op_mul (pv 0) (pe_callTy call_int1 (by rfl) B_int (by decide +kernel) (pa1 (pe_cmpR op_ge (pv 0) (pe_op op_pow pe_int pe_int) (nomark _))))))
      (pss_cons (psS 3 sc.nd (pe_lst pa_nil))
      (pss_cons (ps_for PassesOwn.never rfl (pi_range1 (by rfl) B_range (pa1 (pv 1))) (pgN 4 sc.nd)
      (pss_one (ps_if (pt_cmpR op_gt (pv 2) pe_int (nomark _))
      (pss_cons (ps_expr (pe_app K (pv 3) (pa1 (pe_op op_mod (pe_callTy call_int1 (by rfl) B_int (by decide +kernel) (pa1 (pv 2))) pe_int))))
      (pss_one (psS 2 sc.nd (pe_op op_fdiv (pv 2) pe_int)))) (pss_cons (psS 5 sc.nd (pe_op op_mod (pe_callTy call_int1 (by rfl) B_int (by decide +kernel) (pa1 (pe_op op_add (pe_op op_add (pe_op op_mul (pv 0) pe_int) (pe_op op_mul (pv 4) pe_int)) pe_int))) pe_int))
      (pss_cons (psS 5 sc.nd (pe_op op_mod (pe_callTy call_int1 (by rfl) B_int (by decide +kernel) (pa1 (pe_op op_add (pe_op op_add (pe_op op_mul (pv 5) (pv 5)) (pe_op op_mul pe_int (pv 5))) (pv 4)))) pe_int))
      (pss_one (ps_expr (pe_app K (pv 3) (pa1 (pe_op op_mod (pe_op op_mod (pe_callTy call_int1 (by rfl) B_int (by decide +kernel) (pa1 (pe_op op_add (pe_op op_mul (pv 5) (pv 5)) (pe_op op_mul pe_int (pv 5))))) pe_int) pe_int))))))))))
      (pss_one (ps_ret (pv 3)))))), ?_⟩
  obtain ⟨⟨cellhere1, many2, _⟩, r0, ⟨v_cellhere1, _, rfl, w_cellhere1, ⟨v_many2, _, rfl, w_many2, rfl⟩⟩, h, k⟩ := h
  have hD : RtOk (nl K rI) H r0 { nx := fun _ H' => Q .non H', rt := Q } := fun v H' ⟨as, s, n, z⟩ => k v H' as s n z
  refine Sv.run (K := K) (G := ([fc rI cellhere1, fc rI many2, none, none, none, none] : Cells K)) ?_ (.fz w_cellhere1 (.fz w_many2 (.skip (.skip (.skip (.skip .nil))))))
  have h : m__law_draws cellhere1 many2 = .ok r0 := h
  unfold m__law_draws at h
  obtain ⟨rest3, e_rest3, h⟩ := mb_ok h; have e_rest3 := ok_inj e_rest3
  refine q_set (r := rI) (b := cellhere1 * (b2 (decide (((10 : Int) ^ ((18 : Int)).toNat) ≤ cellhere1)))) (b' := rest3) ?_ e_rest3 ?_
  · walk_at "ev"
  obtain ⟨row4, e_row4, h⟩ := mb_ok h; have e_row4 := ok_inj e_row4
  refine q_asg (R := (nl K rI)) (b := ([] : (List Int))) (b' := row4) ?_ e_row4 ?_
  · walk_at "ev"
  obtain ⟨e_u5, h⟩ := mb_chk h
  obtain ⟨s8, hm, h⟩ := mb_ok h
  refine q_forM (G' := ([fc rI cellhere1, fc rI many2, fc rI rest3, some (.ow (nl K rI) row4), none, none] : Cells K)) (r := rI) (fun (s6 : (Int × (List Int))) => ([fc rI cellhere1, fc rI many2, fc rI s6.1, some (.ow (nl K rI) s6.2), none, none] : Cells K)) hm ?_ (.keep (.keep (.keep (.keep (.keep (.keep .nil)))))) (fun H0' e0 x7 s6 s' h => ⟨_, tg_name, ?_⟩) ?_
  · refine wk_rng1 ?_ ?_
    · walk_at "ev"
    · first | assumption | omega
  · have hD := @nxI K H0'
    refine l_if (c := (decide ((0 : Int) < s6.1))) ?_ ?_ ?_
    · walk_at "ev"
    · intro hc; have h := bif_t h hc
      obtain ⟨e_u9, h⟩ := mb_chk h
      obtain ⟨row10, e_row10, h⟩ := mb_ok h; have e_row10 := ok_inj e_row10
      refine q_app (x := s6.1 % (840 : Int)) (xs := s6.2) (by rfl) (x' := s6.1 % (840 : Int)) ?_ rfl (by assumption) ?_
      · walk_at "ev"
      rw [e_row10]
      obtain ⟨rest11, e_rest11, h⟩ := mb_ok h; have e_rest11 := ok_inj e_rest11
      refine l_set (r := rI) (b := s6.1 / (840 : Int)) (b' := rest11) ?_ e_rest11 ?_
      · walk_at "ev"
      cases h
      exact hL hD (by walk_at "sub")
    · intro hc; have h := bif_f h hc
      obtain ⟨mixed12, e_mixed12, h⟩ := mb_ok h; have e_mixed12 := ok_inj e_mixed12
      refine q_set (r := rI) (b := (((cellhere1 * (48271 : Int)) + (x7 * (6961 : Int))) + (1013 : Int)) % (1000003 : Int)) (b' := mixed12) ?_ e_mixed12 ?_
      · walk_at "ev"
      obtain ⟨e_u13, h⟩ := mb_chk h
      obtain ⟨mixed14, e_mixed14, h⟩ := mb_ok h; have e_mixed14 := ok_inj e_mixed14
      refine q_set (r := rI) (b := (((mixed12 * mixed12) + ((11 : Int) * mixed12)) + x7) % (999983 : Int)) (b' := mixed14) ?_ e_mixed14 ?_
      · walk_at "ev"
      obtain ⟨e_u15, h⟩ := mb_chk h
      obtain ⟨e_u16, h⟩ := mb_chk h
      obtain ⟨row17, e_row17, h⟩ := mb_ok h; have e_row17 := ok_inj e_row17
      refine l_app (x := (((mixed14 * mixed14) + ((3 : Int) * mixed14)) % (99991 : Int)) % (840 : Int)) (xs := s6.2) (by rfl) (x' := (((mixed14 * mixed14) + ((3 : Int) * mixed14)) % (99991 : Int)) % (840 : Int)) ?_ rfl (by assumption) ?_
      · walk_at "ev"
      rw [e_row17]
      cases h
      exact hL hD (by walk_at "sub")
  cases h
  exact r_retO (i := 3) hD (by rfl)
abbrev n__law_word : List Str := ["_law_row", "_law_capital", "_law_letters", "_law_text", "_law_every", "_law_d", "_law_name", "_law_odd"]
abbrev p__law_word : List Str := ["_law_row", "_law_capital"]
theorem sc__law_word : FnScope n__law_word p__law_word (defScope s__law_word) := ⟨rfl, rfl, rfl, by decide +kernel, rfl, by decide +kernel, by decide +kernel⟩
abbrev sp__law_word (K : PySem.W.Frag) : Sp := spM (aC (rL rI) (aC rB aN)) rS fun a => m__law_word a.1 a.2.1
theorem c__law_word (F : Df K mg "_law_word" s__law_word) (B_int : mg "int" = none) (B_len : mg "len" = none) : Cal P w K mg base CX0 "_law_word" 1 p__law_word (sp__law_word K) := by
  refine cal_of F sc__law_word (fun vs H Q E ⟨a, b, h, _⟩ => LenA.len h) (fun _ _ _ _ _ _ us hl => match us, hl with | [_, _], _ => rfl) fun cdv f A outer s H vs Q E hr h => ?_
  have sc := sc__law_word
  refine ⟨_, (pss_cons (psS 2 sc.nd pe_str)
      (pss_cons (psS 3 sc.nd (pe_ix (k_ix K) (pv 2) (pe_op op_mod (pe_callTy call_int1 (by rfl) B_int (by decide +kernel) (pa1 (pe_ix (k_ix K) (pv 0) pe_int (fun _ _ => rfl)))) pe_int) (fun _ _ => rfl)))
      (pss_cons (ps_if (pt_val (pv 1))
      (pss_one (psS 3 sc.nd (pe_upper (pv 3)))) pss_nil)
      (pss_cons (psS 4 sc.nd (pe_op op_add_str (pe_op op_add_str (pv 2) (pe_upper (pv 2))) pe_str))
      (pss_cons (ps_for PassesOwn.never rfl (pi_listK K (pe_slice (k_slL K) (pv 0) (po_some pe_int) (po_some (pe_op op_add pe_int (pe_op op_mod (pe_callTy call_int1 (by rfl) B_int (by decide +kernel) (pa1 (pe_ix (k_ix K) (pv 0) pe_int (fun _ _ => rfl)))) pe_int))))) (pgN 5 sc.nd)
      (pss_one (psS 3 sc.nd (pe_op op_add_str (pv 3) (pe_ix (k_ix K) (pv 4) (pe_op op_mod (pe_callTy call_int1 (by rfl) B_int (by decide +kernel) (pa1 (pv 5))) pe_int) (fun _ _ => rfl))))))
      (pss_cons (ps_if (pt_cmpR op_eq (pe_op op_mod (pe_op op_fdiv (pe_callTy call_int1 (by rfl) B_int (by decide +kernel) (pa1 (pe_ix (k_ix K) (pv 0) pe_int (fun _ _ => rfl)))) pe_int) pe_int) pe_int (nomark _))
      (pss_cons (psS 6 sc.nd pe_str)
      (pss_cons (ps_for PassesOwn.never rfl (pi_listK K (pe_slice (k_slL K) (pv 0) (po_some pe_int) (po_some (pe_op op_add pe_int (pe_op op_mod (pe_op op_fdiv (pe_callTy call_int1 (by rfl) B_int (by decide +kernel) (pa1 (pe_ix (k_ix K) (pv 0) pe_int (fun _ _ => rfl)))) pe_int) pe_int))))) (pgN 5 sc.nd)
      (pss_one (psS 6 sc.nd (pe_op op_add_str (pv 6) (pe_ix (k_ix K) (pv 2) (pe_op op_mod (pe_callTy call_int1 (by rfl) B_int (by decide +kernel) (pa1 (pv 5))) pe_int) (fun _ _ => rfl))))))
      (pss_one (psS 3 sc.nd (pe_op op_add_str (pe_op op_add_str (pv 6) pe_str) (pv 3)))))) pss_nil)
      (pss_cons (ps_if (pt_cmpR op_eq (pe_op op_mod (pe_op op_fdiv (pe_callTy call_int1 (by rfl) B_int (by decide +kernel) (pa1 (pe_ix (k_ix K) (pv 0) pe_int (fun _ _ => rfl)))) pe_int) pe_int) pe_int (nomark _))
      (pss_cons (psS 7 sc.nd (pe_lst (pa_cons pe_str (pa_cons pe_str (pa_cons pe_str (pa_cons pe_str (pa_cons pe_str (pa_cons pe_str (pa_cons pe_str (pa_cons pe_str (pa_cons pe_str (pa_cons pe_str (pa1 pe_str)))))))))))))
      (pss_cons (psS 7 sc.nd (pe_op op_cat (pv 7) (pe_lst (pa_cons pe_str (pa_cons pe_str (pa_cons pe_str (pa_cons pe_str (pa_cons pe_str (pa_cons pe_str (pa_cons pe_str (pa1 pe_str)))))))))))
      (pss_cons (psS 7 sc.nd (pe_op op_cat (pv 7) (pe_lst (pa_cons pe_str (pa_cons pe_str (pa_cons pe_str (pa_cons pe_str (pa_cons pe_str (pa_cons pe_str (pa1 pe_str))))))))))
      (pss_one (psS 3 sc.nd (pe_ix (k_ix K) (pv 7) (pe_op op_mod (pe_callTy call_int1 (by rfl) B_int (by decide +kernel) (pa1 (pe_ix (k_ix K) (pv 0) pe_int (fun _ _ => rfl)))) (pe_callB (k_len K) (by rfl) B_len PySem.boot_len (pa1 (pv 7)))) (fun _ _ => rfl))))))) pss_nil)
      (pss_one (ps_ret (pv 3)))))))))), ?_⟩
  obtain ⟨⟨row1, capital2, _⟩, r0, ⟨v_row1, _, rfl, w_row1, ⟨v_capital2, _, rfl, w_capital2, rfl⟩⟩, h, k⟩ := h
  have hD := rtF (K := K) k
  refine Sv.run (K := K) (G := ([rc (rL rI) row1, fc rB capital2, none, none, none, none, none, none] : Cells K)) ?_ (.ro w_row1 (.fz w_capital2 (.skip (.skip (.skip (.skip (.skip (.skip .nil))))))))
  have h : m__law_word row1 capital2 = .ok r0 := h
  unfold m__law_word at h
  obtain ⟨letters3, e_letters3, h⟩ := mb_ok h; have e_letters3 := ok_inj e_letters3
  refine q_set (r := rS) (b := ("abcdefghijklmnopqrstuvwxyz" : Str)) (b' := letters3) ?_ e_letters3 ?_
  · walk_at "ev"
  obtain ⟨t4, e_t4, h⟩ := mb_ok h; have e_t4 := oM_ok e_t4
  obtain ⟨t5, e_t5, h⟩ := mb_ok h; have e_t5 := oM_ok e_t5
  refine q_set (r := rS) (b := t5) (b' := t5) ?_ rfl ?_
  · walk_at "ev"
  obtain ⟨s6, h1, h⟩ := mb_ok h
  refine cutK ([rc (rL rI) row1, fc rB capital2, fc rS letters3, fc rS s6, none, none, none, none] : Cells K) (fun K1 => ?_) ?_
  · have h := h1; clear h1; have hD := K1
    refine q_if (c := capital2) ?_ ?_ ?_
    · walk_at "ev"
    · intro hc; have h := bif_t h hc
      obtain ⟨e_u7, h⟩ := mb_chk h
      obtain ⟨text8, e_text8, h⟩ := mb_ok h; have e_text8 := ok_inj e_text8
      refine l_set (r := rS) (b := Txt.upper t5) (b' := text8) ?_ e_text8 ?_
      · walk_at "ev"
      cases h
      exact hL hD (by walk_at "sub")
    · intro hc; have h := bif_f h hc
      cases h
      exact hL hD (by walk_at "sub")
  obtain ⟨e_u9, h⟩ := mb_chk h
  obtain ⟨e_u10, h⟩ := mb_chk h
  obtain ⟨e_u11, h⟩ := mb_chk h
  obtain ⟨every12, e_every12, h⟩ := mb_ok h; have e_every12 := ok_inj e_every12
  refine q_set (r := rS) (b := (letters3 ++ (Txt.upper letters3)) ++ ("0123456789" : Str)) (b' := every12) ?_ e_every12 ?_
  · walk_at "ev"
  obtain ⟨t13, e_t13, h⟩ := mb_ok h; have e_t13 := oM_ok e_t13
  obtain ⟨s16, hm, h⟩ := mb_ok h
  refine q_forM (G' := ([rc (rL rI) row1, fc rB capital2, fc rS letters3, fc rS s6, fc rS every12, none, none, none] : Cells K)) (r := rI) (fun (s14 : Str) => ([rc (rL rI) row1, fc rB capital2, fc rS letters3, fc rS s14, fc rS every12, none, none, none] : Cells K)) hm ?_ (.keep (.keep (.keep (.keep (.keep (.keep (.keep (.keep .nil)))))))) (fun H0' e0 x15 s14 s' h => ⟨_, tg_name, ?_⟩) ?_
  · refine wk_new ?_
    walk_at "ev"
  · have hD := @nxI K H0'
    obtain ⟨t17, e_t17, h⟩ := mb_ok h; have e_t17 := oM_ok e_t17
    obtain ⟨e_u18, h⟩ := mb_chk h
    obtain ⟨text19, e_text19, h⟩ := mb_ok h; have e_text19 := ok_inj e_text19
    refine l_set (r := rS) (b := s14 ++ t17) (b' := text19) ?_ e_text19 ?_
    · walk_at "ev"
    cases h
    exact hL hD (by walk_at "sub")
  obtain ⟨s20, h1, h⟩ := mb_ok h
  refine cutK ([rc (rL rI) row1, fc rB capital2, fc rS letters3, fc rS s20, fc rS every12, none, none, none] : Cells K) (fun K1 => ?_) ?_
  · have h := h1; clear h1; have hD := K1
    refine q_if (c := (decide (((t13 / (8 : Int)) % (3 : Int)) = (0 : Int)))) ?_ ?_ ?_
    · walk_at "ev"
    · intro hc; have h := bif_t h hc
      obtain ⟨name21, e_name21, h⟩ := mb_ok h; have e_name21 := ok_inj e_name21
      refine q_set (r := rS) (b := ("" : Str)) (b' := name21) ?_ e_name21 ?_
      · walk_at "ev"
      obtain ⟨s24, hm, h⟩ := mb_ok h
      refine q_forM (G' := ([rc (rL rI) row1, fc rB capital2, fc rS letters3, fc rS s16, fc rS every12, none, fc rS name21, none] : Cells K)) (r := rI) (fun (s22 : Str) => ([rc (rL rI) row1, fc rB capital2, fc rS letters3, fc rS s16, fc rS every12, none, fc rS s22, none] : Cells K)) hm ?_ (.keep (.keep (.keep (.keep (.keep (.keep (.keep (.keep .nil)))))))) (fun H0' e0 x23 s22 s' h => ⟨_, tg_name, ?_⟩) ?_
      · refine wk_new ?_
        walk_at "ev"
      · have hD := @nxI K H0'
        obtain ⟨t25, e_t25, h⟩ := mb_ok h; have e_t25 := oM_ok e_t25
        obtain ⟨e_u26, h⟩ := mb_chk h
        obtain ⟨name27, e_name27, h⟩ := mb_ok h; have e_name27 := ok_inj e_name27
        refine l_set (r := rS) (b := s22 ++ t25) (b' := name27) ?_ e_name27 ?_
        · walk_at "ev"
        cases h
        exact hL hD (by walk_at "sub")
      obtain ⟨e_u28, h⟩ := mb_chk h
      obtain ⟨e_u29, h⟩ := mb_chk h
      obtain ⟨text30, e_text30, h⟩ := mb_ok h; have e_text30 := ok_inj e_text30
      refine l_set (r := rS) (b := (s24 ++ ("." : Str)) ++ s16) (b' := text30) ?_ e_text30 ?_
      · walk_at "ev"
      cases h
      exact hL hD (by walk_at "sub")
    · intro hc; have h := bif_f h hc
      cases h
      exact hL hD (by walk_at "sub")
  obtain ⟨s31, h1, h⟩ := mb_ok h
  refine cutK ([rc (rL rI) row1, fc rB capital2, fc rS letters3, fc rS s31, fc rS every12, none, none, none] : Cells K) (fun K1 => ?_) ?_
  · have h := h1; clear h1; have hD := K1
    refine q_if (c := (decide (((t13 / (192 : Int)) % (4 : Int)) = (3 : Int)))) ?_ ?_ ?_
    · walk_at "ev"
    · intro hc; have h := bif_t h hc
      obtain ⟨odd32, e_odd32, h⟩ := mb_ok h; have e_odd32 := ok_inj e_odd32
      refine q_asg (R := (nl K rS)) (b := [("" : Str), ("." : Str), ("9a" : Str), ("a b" : Str), ("a-b" : Str), (".a" : Str), ("a." : Str), ("a.b.c" : Str), ("A.b" : Str), ("a1.c" : Str), ("abcdefghi" : Str)]) (b' := odd32) ?_ e_odd32 ?_
      · walk_at "ev"
      obtain ⟨e_u33, h⟩ := mb_chk h
      obtain ⟨odd34, e_odd34, h⟩ := mb_ok h; have e_odd34 := ok_inj e_odd34
      refine q_asg (R := (nl K rS)) (b := odd32 ++ ([("abcdefghi.a" : Str), ("a.9" : Str), ("a..b" : Str), ("ABCDEFGHI" : Str), ("a.Bcdefghij" : Str), (" a" : Str), ("a " : Str), ("x.a b" : Str)])) (b' := odd34) ?_ e_odd34 ?_
      · walk_at "ev"
      obtain ⟨e_u35, h⟩ := mb_chk h
      obtain ⟨odd36, e_odd36, h⟩ := mb_ok h; have e_odd36 := ok_inj e_odd36
      refine q_asg (R := (nl K rS)) (b := odd34 ++ ([("x.A-" : Str), ("a_b" : Str), ("A\n" : Str), ("->" : Str), ("Ab.C" : Str), ("x y.a" : Str), ("7.a" : Str)])) (b' := odd36) ?_ e_odd36 ?_
      · walk_at "ev"
      obtain ⟨e_u37, h⟩ := mb_chk h
      obtain ⟨t38, e_t38, h⟩ := mb_ok h; have e_t38 := oM_ok e_t38
      refine l_set (r := rS) (b := t38) (b' := t38) ?_ rfl ?_
      · walk_at "ev"
      cases h
      exact hL hD (by walk_at "sub")
    · intro hc; have h := bif_f h hc
      cases h
      exact hL hD (by walk_at "sub")
  cases h
  refine r_ret hD ?_
  walk_at "ev"
abbrev n__law_shown : List Str := ["_law_which", "_law_e", "_law_kinds", "_law_k"]
abbrev p__law_shown : List Str := ["_law_which", "_law_e"]
theorem sc__law_shown : FnScope n__law_shown p__law_shown (defScope s__law_shown) := ⟨rfl, rfl, rfl, by decide +kernel, rfl, by decide +kernel, by decide +kernel⟩
theorem c1__law_shown {P : Program} {w : World} {K : PySem.W.Frag} {mg : Str → Option Value} {base : Heap} {k : Nat} {x y : Str} (hk : nm12[k]? = some x) (hy : k < 6 → y = x) (F : Df K mg "_law_shown" s__law_shown) (B_isinstance : mg "isinstance" = none) (B_range : mg "range" = none) (B_ValueError : mg "ValueError" = none) (T_y : CatC K mg y "name") (T_BadLine : CatC K mg "BadLine" "number") (T_BadMark : CatC K mg "BadMark" "rule") (T_BadMend : CatC K mg "BadMend" "mend") (T_Clash : CatC K mg "Clash" "head") (T_Refused : CatC K mg "Refused" "guest") (T_WrongToken : CatC K mg "WrongToken" "index") (F_Clash : ∀ f ∈ (["head", "one", "other", "token", "beginning", "runs"] : List Str), PySem.W.findIn K (.ref (cA K "Clash")) f = some none) (F_Refused : ∀ f ∈ (["guest", "rival", "token", "beginning"] : List Str), PySem.W.findIn K (.ref (cA K "Refused")) f = some none) (F_WrongToken : ∀ f ∈ (["index", "token", "expected"] : List Str), PySem.W.findIn K (.ref (cA K "WrongToken")) f = some none) (J_BadName : mg "BadName" = some (.ref (cA K "BadName"))) (J_NoRule : mg "NoRule" = some (.ref (cA K "NoRule"))) (J_Useless : mg "Useless" = some (.ref (cA K "Useless"))) (J_Hollow : mg "Hollow" = some (.ref (cA K "Hollow"))) (J_SameName : mg "SameName" = some (.ref (cA K "SameName"))) (J_UnknownName : mg "UnknownName" = some (.ref (cA K "UnknownName"))) (J_BadLine : mg "BadLine" = some (.ref (cA K "BadLine"))) (J_BadMark : mg "BadMark" = some (.ref (cA K "BadMark"))) (J_BadMend : mg "BadMend" = some (.ref (cA K "BadMend"))) (J_Clash : mg "Clash" = some (.ref (cA K "Clash"))) (J_Refused : mg "Refused" = some (.ref (cA K "Refused"))) (J_WrongToken : mg "WrongToken" = some (.ref (cA K "WrongToken"))) (IS : ∀ j z, nm12[j]? = some z → IsX K x (.ref (cA K z)) (decide (j = k))) (IV : IsX K x (.ty "ValueError") true) : CalHP P w K mg base "_law_shown" 1 p__law_shown (spE K (cA K x) (spSh K k)) := by
  refine calHP_of F sc__law_shown (fun a d vs H Q E ⟨_, _, h, _⟩ => LenA.len h) (fun _ _ _ _ _ _ us hl => match us, hl with | [_, _], _ => rfl) fun cdv f A outer s H vs Q E xa xd oe hz hf hr h => ?_
  have sc := sc__law_shown
  refine ⟨_, (pss_cons (psS 2 sc.nd (pe_lst (pa_cons (pe_callB (k_isX K hz hf) (by rfl) B_isinstance (by decide +kernel) (pa_cons (pv 1) (pa1 (pe_glob (v := .ref (cA K "BadName")) (by rfl) J_BadName rfl)))) (pa_cons (pe_callB (k_isX K hz hf) (by rfl) B_isinstance (by decide +kernel) (pa_cons (pv 1) (pa1 (pe_glob (v := .ref (cA K "NoRule")) (by rfl) J_NoRule rfl)))) (pa1 (pe_callB (k_isX K hz hf) (by rfl) B_isinstance (by decide +kernel) (pa_cons (pv 1) (pa1 (pe_glob (v := .ref (cA K "Useless")) (by rfl) J_Useless rfl)))))))))
      (pss_cons (psS 2 sc.nd (pe_op op_cat (pv 2) (pe_lst (pa_cons (pe_callB (k_isX K hz hf) (by rfl) B_isinstance (by decide +kernel) (pa_cons (pv 1) (pa1 (pe_glob (v := .ref (cA K "Hollow")) (by rfl) J_Hollow rfl)))) (pa_cons (pe_callB (k_isX K hz hf) (by rfl) B_isinstance (by decide +kernel) (pa_cons (pv 1) (pa1 (pe_glob (v := .ref (cA K "SameName")) (by rfl) J_SameName rfl)))) (pa1 (pe_callB (k_isX K hz hf) (by rfl) B_isinstance (by decide +kernel) (pa_cons (pv 1) (pa1 (pe_glob (v := .ref (cA K "UnknownName")) (by rfl) J_UnknownName rfl))))))))))
      (pss_cons (psS 2 sc.nd (pe_op op_cat (pv 2) (pe_lst (pa_cons (pe_callB (k_isX K hz hf) (by rfl) B_isinstance (by decide +kernel) (pa_cons (pv 1) (pa1 (pe_glob (v := .ref (cA K "BadLine")) (by rfl) J_BadLine rfl)))) (pa_cons (pe_callB (k_isX K hz hf) (by rfl) B_isinstance (by decide +kernel) (pa_cons (pv 1) (pa1 (pe_glob (v := .ref (cA K "BadMark")) (by rfl) J_BadMark rfl)))) (pa1 (pe_callB (k_isX K hz hf) (by rfl) B_isinstance (by decide +kernel) (pa_cons (pv 1) (pa1 (pe_glob (v := .ref (cA K "BadMend")) (by rfl) J_BadMend rfl))))))))))
      (pss_cons (psS 2 sc.nd (pe_op op_cat (pv 2) (pe_lst (pa_cons (pe_callB (k_isX K hz hf) (by rfl) B_isinstance (by decide +kernel) (pa_cons (pv 1) (pa1 (pe_glob (v := .ref (cA K "Clash")) (by rfl) J_Clash rfl)))) (pa_cons (pe_callB (k_isX K hz hf) (by rfl) B_isinstance (by decide +kernel) (pa_cons (pv 1) (pa1 (pe_glob (v := .ref (cA K "Refused")) (by rfl) J_Refused rfl)))) (pa1 (pe_callB (k_isX K hz hf) (by rfl) B_isinstance (by decide +kernel) (pa_cons (pv 1) (pa1 (pe_glob (v := .ref (cA K "WrongToken")) (by rfl) J_WrongToken rfl))))))))))
      (pss_cons (ps_if (PW.pt (pw_or (pt_cmpR (k_neD K (unL (by decide) hr.un)) (pv 2) (L2H.pe_lcH (own := [("_law_k", 3)]) (g := gName 3) (tt := tYes) (hot_suite hz hf) sc.nd (L2H.pi_range1H (by rfl) B_range (pa1 pe_int)) (blkOk_by (own := [("_law_k", 3)]) (N := n__law_shown) (sc := defScope s__law_shown) (by decide +kernel)) (fun _ _ _ _ _ => (pgN 3 sc.nd)) (fun _ _ _ _ _ => pts_nil) (fun _ _ _ _ _ => (pe_cmpR op_eq (pv 3) (pv 0) (nomark _)))) (nomark _)) (pw_or1 (pt_not (pt_val (pe_callB (k_isX K hz hf) (by rfl) B_isinstance (by decide +kernel) (pa_cons (pv 1) (pa1 (pe_bltn (v := .ty "ValueError") (u := .type "ValueError") (by rfl) B_ValueError (by decide +kernel) rfl)))))))))
      (pss_one (ps_ret pe_non)) pss_nil)
      (pss_cons (ps_if (pt_cmpR op_lt (pv 0) pe_int (nomark _))
      (pss_one (ps_ret (pe_lst (pa1 (pe_xfK K T_y.xf T_y.no hz hf (pv 1)))))) pss_nil)
      (pss_cons (ps_if (pt_cmpR op_eq (pv 0) pe_int (nomark _))
      (pss_one (ps_ret (pe_lst (pa1 (pe_xfK K T_BadLine.xf T_BadLine.no hz hf (pv 1)))))) pss_nil)
      (pss_cons (ps_if (pt_cmpR op_eq (pv 0) pe_int (nomark _))
      (pss_one (ps_ret (pe_lst (pa1 (pe_xfK K T_BadMark.xf T_BadMark.no hz hf (pv 1)))))) pss_nil)
      (pss_cons (ps_if (pt_cmpR op_eq (pv 0) pe_int (nomark _))
      (pss_one (ps_ret (pe_lst (pa1 (pe_xfK K T_BadMend.xf T_BadMend.no hz hf (pv 1)))))) pss_nil)
      (pss_cons (ps_if (pt_cmpR op_eq (pv 0) pe_int (nomark _))
      (pss_one (ps_ret (pe_lst (pa_cons (pe_xfK K T_Clash.xf T_Clash.no hz hf (pv 1)) (pa_cons (pe_xfK K T_Clash.xf (F_Clash _ (.tail _ (.head _))) hz hf (pv 1)) (pa_cons (pe_xfK K T_Clash.xf (F_Clash _ (.tail _ (.tail _ (.head _)))) hz hf (pv 1)) (pa_cons (pe_xfK K T_Clash.xf (F_Clash _ (.tail _ (.tail _ (.tail _ (.head _))))) hz hf (pv 1)) (pa_cons (pe_xfK K T_Clash.xf (F_Clash _ (.tail _ (.tail _ (.tail _ (.tail _ (.head _)))))) hz hf (pv 1)) (pa1 (pe_xfK K T_Clash.xf (F_Clash _ (.tail _ (.tail _ (.tail _ (.tail _ (.tail _ (.head _))))))) hz hf (pv 1))))))))))) pss_nil)
      (pss_cons (ps_if (pt_cmpR op_eq (pv 0) pe_int (nomark _))
      (pss_one (ps_ret (pe_lst (pa_cons (pe_xfK K T_Refused.xf T_Refused.no hz hf (pv 1)) (pa_cons (pe_xfK K T_Refused.xf (F_Refused _ (.tail _ (.head _))) hz hf (pv 1)) (pa_cons (pe_xfK K T_Refused.xf (F_Refused _ (.tail _ (.tail _ (.head _)))) hz hf (pv 1)) (pa1 (pe_xfK K T_Refused.xf (F_Refused _ (.tail _ (.tail _ (.tail _ (.head _))))) hz hf (pv 1))))))))) pss_nil)
      (pss_one (ps_ret (pe_lst (pa_cons (pe_xfK K T_WrongToken.xf T_WrongToken.no hz hf (pv 1)) (pa_cons (pe_xfK K T_WrongToken.xf (F_WrongToken _ (.tail _ (.head _))) hz hf (pv 1)) (pa1 (pe_xfK K T_WrongToken.xf (F_WrongToken _ (.tail _ (.tail _ (.head _)))) hz hf (pv 1))))))))))))))))))), ?_⟩
  obtain ⟨⟨n, fs, _⟩, r0, ⟨v1, _, rfl, w1, ⟨v2, _, rfl, w2, rfl⟩⟩, h, kq⟩ := h
  obtain ⟨en, hr0⟩ := m_shown_ok (show m_shown k n fs = .ok r0 from h)
  subst en
  have kl := nm12_lt hk
  have hD : RtOk (nl K (rU K)) H r0 { nx := fun _ H' => Q .non H', rt := Q } := fun v H' ⟨as, s, n, z⟩ => kq v H' as s n z
  refine Sv.run (K := K) (G := ([rc rI (k : Int), rc (rExcU K xa xd) fs, none, none] : Cells K)) ?_ (.ro w1 (.ro w2 (.skip (.skip .nil))))
  have eI : ∀ j z, nm12[j]? = some z → ∀ G : Cells K, G[1]? = some (rc (rExcU K xa xd) fs) → Ev rB (tCB (rIsX K xa (.ref (cA K x)) (some xd)) (tCons (tVar 1) (tCons (tC (.ref (cA K z))) tNil))) G (decide (j = k)) := fun j z hj G hG => a_isXU hG (IS j z hj)
  refine q_asg (R := nl K rB) (b := [decide (0 = k), decide (1 = k), decide (2 = k)]) (b' := [decide (0 = k), decide (1 = k), decide (2 = k)]) (nw_lst (r := rB) (xs := [decide (0 = k), decide (1 = k), decide (2 = k)]) (el_cons (eI 0 _ rfl _ rfl) (el_cons (eI 1 _ rfl _ rfl) (el_cons (eI 2 _ rfl _ rfl) el_nil))) (by show 3 ≤ 12000000; omega)) rfl ?_
  refine q_asg (R := nl K rB) (b := [decide (0 = k), decide (1 = k), decide (2 = k), decide (3 = k), decide (4 = k), decide (5 = k)]) (b' := [decide (0 = k), decide (1 = k), decide (2 = k), decide (3 = k), decide (4 = k), decide (5 = k)]) (nw_cat (xs := [decide (0 = k), decide (1 = k), decide (2 = k)]) (a_lst rfl) (a_nl (nw_lst (r := rB) (xs := [decide (3 = k), decide (4 = k), decide (5 = k)]) (el_cons (eI 3 _ rfl _ rfl) (el_cons (eI 4 _ rfl _ rfl) (el_cons (eI 5 _ rfl _ rfl) el_nil))) (by show 3 ≤ 12000000; omega))) (by simp)) rfl ?_
  refine q_asg (R := nl K rB) (b := [decide (0 = k), decide (1 = k), decide (2 = k), decide (3 = k), decide (4 = k), decide (5 = k), decide (6 = k), decide (7 = k), decide (8 = k)]) (b' := [decide (0 = k), decide (1 = k), decide (2 = k), decide (3 = k), decide (4 = k), decide (5 = k), decide (6 = k), decide (7 = k), decide (8 = k)]) (nw_cat (xs := [decide (0 = k), decide (1 = k), decide (2 = k), decide (3 = k), decide (4 = k), decide (5 = k)]) (a_lst rfl) (a_nl (nw_lst (r := rB) (xs := [decide (6 = k), decide (7 = k), decide (8 = k)]) (el_cons (eI 6 _ rfl _ rfl) (el_cons (eI 7 _ rfl _ rfl) (el_cons (eI 8 _ rfl _ rfl) el_nil))) (by show 3 ≤ 12000000; omega))) (by simp)) rfl ?_
  refine q_asg (R := nl K rB) (b := [decide (0 = k), decide (1 = k), decide (2 = k), decide (3 = k), decide (4 = k), decide (5 = k), decide (6 = k), decide (7 = k), decide (8 = k), decide (9 = k), decide (10 = k), decide (11 = k)]) (b' := [decide (0 = k), decide (1 = k), decide (2 = k), decide (3 = k), decide (4 = k), decide (5 = k), decide (6 = k), decide (7 = k), decide (8 = k), decide (9 = k), decide (10 = k), decide (11 = k)]) (nw_cat (xs := [decide (0 = k), decide (1 = k), decide (2 = k), decide (3 = k), decide (4 = k), decide (5 = k), decide (6 = k), decide (7 = k), decide (8 = k)]) (a_lst rfl) (a_nl (nw_lst (r := rB) (xs := [decide (9 = k), decide (10 = k), decide (11 = k)]) (el_cons (eI 9 _ rfl _ rfl) (el_cons (eI 10 _ rfl _ rfl) (el_cons (eI 11 _ rfl _ rfl) el_nil))) (by show 3 ≤ 12000000; omega))) (by simp)) rfl ?_
  refine q_if (c := false) ?_ (fun hc => nomatch hc) fun _ => q_next ?_
  · refine et_or (c := false) (d := false) (et_test ?_) fun _ => et_not (c := true) (et_B (a_isXU rfl IV))
    refine a_neDf (r := rL rB) (a := [decide (0 = k), decide (1 = k), decide (2 = k), decide (3 = k), decide (4 = k), decide (5 = k), decide (6 = k), decide (7 = k), decide (8 = k), decide (9 = k), decide (10 = k), decide (11 = k)]) (x := [decide ((0 : Int) = (k : Int)), decide ((1 : Int) = (k : Int)), decide ((2 : Int) = (k : Int)), decide ((3 : Int) = (k : Int)), decide ((4 : Int) = (k : Int)), decide ((5 : Int) = (k : Int)), decide ((6 : Int) = (k : Int)), decide ((7 : Int) = (k : Int)), decide ((8 : Int) = (k : Int)), decide ((9 : Int) = (k : Int)), decide ((10 : Int) = (k : Int)), decide ((11 : Int) = (k : Int))]) (a_lst rfl) (a_nl (nw_lcM (vs := [3]) (G' := ([rc rI (k : Int), rc (rExcU K xa xd) fs, some (.ow (nl K rB) [decide (0 = k), decide (1 = k), decide (2 = k), decide (3 = k), decide (4 = k), decide (5 = k), decide (6 = k), decide (7 = k), decide (8 = k), decide (9 = k), decide (10 = k), decide (11 = k)]), none] : Cells K)) (r := rI) (p := fun _ => .ok true) (f := fun j => .ok (decide (j = (k : Int)))) (wk_rng1 (n := 12) ?_ (by decide)) (by decide) (fun y9 => ⟨_, tb_name, fun _ e => ?_, fun _ e => ?_⟩) rfl)) inferInstance (datC_of (by decide)) (eqB_iff.mpr (kinds12 k kl).symm)
    · walk_at "ev"
    · cases e
      exact et_yes
    · cases e
      walk_at "ev"
  refine q_if (c := decide ((k : Int) < 6)) ?_ (fun hc => ?_) fun hc => q_next ?_
  · walk_at "ev"
  · have kk : k < 6 := by have := of_decide_eq_true hc; omega
    have ey := hy kk
    subst ey
    rw [fl12_lt k kk] at hr0
    obtain ⟨u0, q0, e0, hr1, rfl⟩ := lks_cons hr0
    cases lks_nil hr1
    exact r_retN hD (nw_lst (el_cons (a_xfU rfl e0) el_nil) (by simp))
  refine q_if (c := decide ((k : Int) = 6)) ?_ (fun hc => ?_) fun hc6 => q_next ?_
  · walk_at "ev"
  · have kk : k = 6 := by have := of_decide_eq_true hc; omega
    subst kk
    cases (show some ("BadLine" : Str) = some x from hk)
    obtain ⟨u0, q0, e0, hr1, rfl⟩ := lks_cons hr0
    cases lks_nil hr1
    exact r_retN hD (nw_lst (el_cons (a_xfU rfl e0) el_nil) (by simp))
  refine q_if (c := decide ((k : Int) = 7)) ?_ (fun hc => ?_) fun hc7 => q_next ?_
  · walk_at "ev"
  · have kk : k = 7 := by have := of_decide_eq_true hc; omega
    subst kk
    cases (show some ("BadMark" : Str) = some x from hk)
    obtain ⟨u0, q0, e0, hr1, rfl⟩ := lks_cons hr0
    cases lks_nil hr1
    exact r_retN hD (nw_lst (el_cons (a_xfU rfl e0) el_nil) (by simp))
  refine q_if (c := decide ((k : Int) = 8)) ?_ (fun hc => ?_) fun hc8 => q_next ?_
  · walk_at "ev"
  · have kk : k = 8 := by have := of_decide_eq_true hc; omega
    subst kk
    cases (show some ("BadMend" : Str) = some x from hk)
    obtain ⟨u0, q0, e0, hr1, rfl⟩ := lks_cons hr0
    cases lks_nil hr1
    exact r_retN hD (nw_lst (el_cons (a_xfU rfl e0) el_nil) (by simp))
  refine q_if (c := decide ((k : Int) = 9)) ?_ (fun hc => ?_) fun hc9 => q_next ?_
  · walk_at "ev"
  · have kk : k = 9 := by have := of_decide_eq_true hc; omega
    subst kk
    cases (show some ("Clash" : Str) = some x from hk)
    obtain ⟨u0, q0, e0, hr1, rfl⟩ := lks_cons hr0
    obtain ⟨u1, q1, e1, hr2, rfl⟩ := lks_cons hr1
    obtain ⟨u2, q2, e2, hr3, rfl⟩ := lks_cons hr2
    obtain ⟨u3, q3, e3, hr4, rfl⟩ := lks_cons hr3
    obtain ⟨u4, q4, e4, hr5, rfl⟩ := lks_cons hr4
    obtain ⟨u5, q5, e5, hr6, rfl⟩ := lks_cons hr5
    cases lks_nil hr6
    exact r_retN hD (nw_lst (el_cons (a_xfU rfl e0) (el_cons (a_xfU rfl e1) (el_cons (a_xfU rfl e2) (el_cons (a_xfU rfl e3) (el_cons (a_xfU rfl e4) (el_cons (a_xfU rfl e5) el_nil)))))) (by simp))
  refine q_if (c := decide ((k : Int) = 10)) ?_ (fun hc => ?_) fun hc10 => q_next ?_
  · walk_at "ev"
  · have kk : k = 10 := by have := of_decide_eq_true hc; omega
    subst kk
    cases (show some ("Refused" : Str) = some x from hk)
    obtain ⟨u0, q0, e0, hr1, rfl⟩ := lks_cons hr0
    obtain ⟨u1, q1, e1, hr2, rfl⟩ := lks_cons hr1
    obtain ⟨u2, q2, e2, hr3, rfl⟩ := lks_cons hr2
    obtain ⟨u3, q3, e3, hr4, rfl⟩ := lks_cons hr3
    cases lks_nil hr4
    exact r_retN hD (nw_lst (el_cons (a_xfU rfl e0) (el_cons (a_xfU rfl e1) (el_cons (a_xfU rfl e2) (el_cons (a_xfU rfl e3) el_nil)))) (by simp))
  have kk : k = 11 := by
    have := of_decide_eq_false hc
    have := of_decide_eq_false hc6
    have := of_decide_eq_false hc7
    have := of_decide_eq_false hc8
    have := of_decide_eq_false hc9
    have := of_decide_eq_false hc10
    omega
  subst kk
  cases (show some ("WrongToken" : Str) = some x from hk)
  obtain ⟨u0, q0, e0, hr1, rfl⟩ := lks_cons hr0
  obtain ⟨u1, q1, e1, hr2, rfl⟩ := lks_cons hr1
  obtain ⟨u2, q2, e2, hr3, rfl⟩ := lks_cons hr2
  cases lks_nil hr3
  exact r_retN hD (nw_lst (el_cons (a_xfU rfl e0) (el_cons (a_xfU rfl e1) (el_cons (a_xfU rfl e2) el_nil))) (by simp))
theorem c__law_shown (F : Df K mg "_law_shown" s__law_shown) (B_isinstance : mg "isinstance" = none) (B_range : mg "range" = none) (B_ValueError : mg "ValueError" = none) (T_BadName : CatC K mg "BadName" "name") (T_NoRule : CatC K mg "NoRule" "name") (T_Useless : CatC K mg "Useless" "name") (T_Hollow : CatC K mg "Hollow" "name") (T_SameName : CatC K mg "SameName" "name") (T_UnknownName : CatC K mg "UnknownName" "name") (T_BadLine : CatC K mg "BadLine" "number") (T_BadMark : CatC K mg "BadMark" "rule") (T_BadMend : CatC K mg "BadMend" "mend") (T_Clash : CatC K mg "Clash" "head") (T_Refused : CatC K mg "Refused" "guest") (T_WrongToken : CatC K mg "WrongToken" "index") (F_Clash : ∀ f ∈ (["head", "one", "other", "token", "beginning", "runs"] : List Str), PySem.W.findIn K (.ref (cA K "Clash")) f = some none) (F_Refused : ∀ f ∈ (["guest", "rival", "token", "beginning"] : List Str), PySem.W.findIn K (.ref (cA K "Refused")) f = some none) (F_WrongToken : ∀ f ∈ (["index", "token", "expected"] : List Str), PySem.W.findIn K (.ref (cA K "WrongToken")) f = some none) (IS_BadName_BadName : IsX K "BadName" (.ref (cA K "BadName")) true) (J_BadName : mg "BadName" = some (.ref (cA K "BadName"))) (IS_BadName_NoRule : IsX K "BadName" (.ref (cA K "NoRule")) false) (J_NoRule : mg "NoRule" = some (.ref (cA K "NoRule"))) (IS_BadName_Useless : IsX K "BadName" (.ref (cA K "Useless")) false) (J_Useless : mg "Useless" = some (.ref (cA K "Useless"))) (IS_BadName_Hollow : IsX K "BadName" (.ref (cA K "Hollow")) false) (J_Hollow : mg "Hollow" = some (.ref (cA K "Hollow"))) (IS_BadName_SameName : IsX K "BadName" (.ref (cA K "SameName")) false) (J_SameName : mg "SameName" = some (.ref (cA K "SameName"))) (IS_BadName_UnknownName : IsX K "BadName" (.ref (cA K "UnknownName")) false) (J_UnknownName : mg "UnknownName" = some (.ref (cA K "UnknownName"))) (IS_BadName_BadLine : IsX K "BadName" (.ref (cA K "BadLine")) false) (J_BadLine : mg "BadLine" = some (.ref (cA K "BadLine"))) (IS_BadName_BadMark : IsX K "BadName" (.ref (cA K "BadMark")) false) (J_BadMark : mg "BadMark" = some (.ref (cA K "BadMark"))) (IS_BadName_BadMend : IsX K "BadName" (.ref (cA K "BadMend")) false) (J_BadMend : mg "BadMend" = some (.ref (cA K "BadMend"))) (IS_BadName_Clash : IsX K "BadName" (.ref (cA K "Clash")) false) (J_Clash : mg "Clash" = some (.ref (cA K "Clash"))) (IS_BadName_Refused : IsX K "BadName" (.ref (cA K "Refused")) false) (J_Refused : mg "Refused" = some (.ref (cA K "Refused"))) (IS_BadName_WrongToken : IsX K "BadName" (.ref (cA K "WrongToken")) false) (J_WrongToken : mg "WrongToken" = some (.ref (cA K "WrongToken"))) (IS_BadName_ValueError : IsX K "BadName" (.ty "ValueError") true) (IS_NoRule_BadName : IsX K "NoRule" (.ref (cA K "BadName")) false) (IS_NoRule_NoRule : IsX K "NoRule" (.ref (cA K "NoRule")) true) (IS_NoRule_Useless : IsX K "NoRule" (.ref (cA K "Useless")) false) (IS_NoRule_Hollow : IsX K "NoRule" (.ref (cA K "Hollow")) false) (IS_NoRule_SameName : IsX K "NoRule" (.ref (cA K "SameName")) false) (IS_NoRule_UnknownName : IsX K "NoRule" (.ref (cA K "UnknownName")) false) (IS_NoRule_BadLine : IsX K "NoRule" (.ref (cA K "BadLine")) false) (IS_NoRule_BadMark : IsX K "NoRule" (.ref (cA K "BadMark")) false) (IS_NoRule_BadMend : IsX K "NoRule" (.ref (cA K "BadMend")) false) (IS_NoRule_Clash : IsX K "NoRule" (.ref (cA K "Clash")) false) (IS_NoRule_Refused : IsX K "NoRule" (.ref (cA K "Refused")) false) (IS_NoRule_WrongToken : IsX K "NoRule" (.ref (cA K "WrongToken")) false) (IS_NoRule_ValueError : IsX K "NoRule" (.ty "ValueError") true) (IS_Useless_BadName : IsX K "Useless" (.ref (cA K "BadName")) false) (IS_Useless_NoRule : IsX K "Useless" (.ref (cA K "NoRule")) false) (IS_Useless_Useless : IsX K "Useless" (.ref (cA K "Useless")) true) (IS_Useless_Hollow : IsX K "Useless" (.ref (cA K "Hollow")) false) (IS_Useless_SameName : IsX K "Useless" (.ref (cA K "SameName")) false) (IS_Useless_UnknownName : IsX K "Useless" (.ref (cA K "UnknownName")) false) (IS_Useless_BadLine : IsX K "Useless" (.ref (cA K "BadLine")) false) (IS_Useless_BadMark : IsX K "Useless" (.ref (cA K "BadMark")) false) (IS_Useless_BadMend : IsX K "Useless" (.ref (cA K "BadMend")) false) (IS_Useless_Clash : IsX K "Useless" (.ref (cA K "Clash")) false) (IS_Useless_Refused : IsX K "Useless" (.ref (cA K "Refused")) false) (IS_Useless_WrongToken : IsX K "Useless" (.ref (cA K "WrongToken")) false) (IS_Useless_ValueError : IsX K "Useless" (.ty "ValueError") true) (IS_Hollow_BadName : IsX K "Hollow" (.ref (cA K "BadName")) false) (IS_Hollow_NoRule : IsX K "Hollow" (.ref (cA K "NoRule")) false) (IS_Hollow_Useless : IsX K "Hollow" (.ref (cA K "Useless")) false) (IS_Hollow_Hollow : IsX K "Hollow" (.ref (cA K "Hollow")) true) (IS_Hollow_SameName : IsX K "Hollow" (.ref (cA K "SameName")) false) (IS_Hollow_UnknownName : IsX K "Hollow" (.ref (cA K "UnknownName")) false) (IS_Hollow_BadLine : IsX K "Hollow" (.ref (cA K "BadLine")) false) (IS_Hollow_BadMark : IsX K "Hollow" (.ref (cA K "BadMark")) false) (IS_Hollow_BadMend : IsX K "Hollow" (.ref (cA K "BadMend")) false) (IS_Hollow_Clash : IsX K "Hollow" (.ref (cA K "Clash")) false) (IS_Hollow_Refused : IsX K "Hollow" (.ref (cA K "Refused")) false) (IS_Hollow_WrongToken : IsX K "Hollow" (.ref (cA K "WrongToken")) false) (IS_Hollow_ValueError : IsX K "Hollow" (.ty "ValueError") true) (IS_SameName_BadName : IsX K "SameName" (.ref (cA K "BadName")) false) (IS_SameName_NoRule : IsX K "SameName" (.ref (cA K "NoRule")) false) (IS_SameName_Useless : IsX K "SameName" (.ref (cA K "Useless")) false) (IS_SameName_Hollow : IsX K "SameName" (.ref (cA K "Hollow")) false) (IS_SameName_SameName : IsX K "SameName" (.ref (cA K "SameName")) true) (IS_SameName_UnknownName : IsX K "SameName" (.ref (cA K "UnknownName")) false) (IS_SameName_BadLine : IsX K "SameName" (.ref (cA K "BadLine")) false) (IS_SameName_BadMark : IsX K "SameName" (.ref (cA K "BadMark")) false) (IS_SameName_BadMend : IsX K "SameName" (.ref (cA K "BadMend")) false) (IS_SameName_Clash : IsX K "SameName" (.ref (cA K "Clash")) false) (IS_SameName_Refused : IsX K "SameName" (.ref (cA K "Refused")) false) (IS_SameName_WrongToken : IsX K "SameName" (.ref (cA K "WrongToken")) false) (IS_SameName_ValueError : IsX K "SameName" (.ty "ValueError") true) (IS_UnknownName_BadName : IsX K "UnknownName" (.ref (cA K "BadName")) false) (IS_UnknownName_NoRule : IsX K "UnknownName" (.ref (cA K "NoRule")) false) (IS_UnknownName_Useless : IsX K "UnknownName" (.ref (cA K "Useless")) false) (IS_UnknownName_Hollow : IsX K "UnknownName" (.ref (cA K "Hollow")) false) (IS_UnknownName_SameName : IsX K "UnknownName" (.ref (cA K "SameName")) false) (IS_UnknownName_UnknownName : IsX K "UnknownName" (.ref (cA K "UnknownName")) true) (IS_UnknownName_BadLine : IsX K "UnknownName" (.ref (cA K "BadLine")) false) (IS_UnknownName_BadMark : IsX K "UnknownName" (.ref (cA K "BadMark")) false) (IS_UnknownName_BadMend : IsX K "UnknownName" (.ref (cA K "BadMend")) false) (IS_UnknownName_Clash : IsX K "UnknownName" (.ref (cA K "Clash")) false) (IS_UnknownName_Refused : IsX K "UnknownName" (.ref (cA K "Refused")) false) (IS_UnknownName_WrongToken : IsX K "UnknownName" (.ref (cA K "WrongToken")) false) (IS_UnknownName_ValueError : IsX K "UnknownName" (.ty "ValueError") true) (IS_BadLine_BadName : IsX K "BadLine" (.ref (cA K "BadName")) false) (IS_BadLine_NoRule : IsX K "BadLine" (.ref (cA K "NoRule")) false) (IS_BadLine_Useless : IsX K "BadLine" (.ref (cA K "Useless")) false) (IS_BadLine_Hollow : IsX K "BadLine" (.ref (cA K "Hollow")) false) (IS_BadLine_SameName : IsX K "BadLine" (.ref (cA K "SameName")) false) (IS_BadLine_UnknownName : IsX K "BadLine" (.ref (cA K "UnknownName")) false) (IS_BadLine_BadLine : IsX K "BadLine" (.ref (cA K "BadLine")) true) (IS_BadLine_BadMark : IsX K "BadLine" (.ref (cA K "BadMark")) false) (IS_BadLine_BadMend : IsX K "BadLine" (.ref (cA K "BadMend")) false) (IS_BadLine_Clash : IsX K "BadLine" (.ref (cA K "Clash")) false) (IS_BadLine_Refused : IsX K "BadLine" (.ref (cA K "Refused")) false) (IS_BadLine_WrongToken : IsX K "BadLine" (.ref (cA K "WrongToken")) false) (IS_BadLine_ValueError : IsX K "BadLine" (.ty "ValueError") true) (IS_BadMark_BadName : IsX K "BadMark" (.ref (cA K "BadName")) false) (IS_BadMark_NoRule : IsX K "BadMark" (.ref (cA K "NoRule")) false) (IS_BadMark_Useless : IsX K "BadMark" (.ref (cA K "Useless")) false) (IS_BadMark_Hollow : IsX K "BadMark" (.ref (cA K "Hollow")) false) (IS_BadMark_SameName : IsX K "BadMark" (.ref (cA K "SameName")) false) (IS_BadMark_UnknownName : IsX K "BadMark" (.ref (cA K "UnknownName")) false) (IS_BadMark_BadLine : IsX K "BadMark" (.ref (cA K "BadLine")) false) (IS_BadMark_BadMark : IsX K "BadMark" (.ref (cA K "BadMark")) true) (IS_BadMark_BadMend : IsX K "BadMark" (.ref (cA K "BadMend")) false) (IS_BadMark_Clash : IsX K "BadMark" (.ref (cA K "Clash")) false) (IS_BadMark_Refused : IsX K "BadMark" (.ref (cA K "Refused")) false) (IS_BadMark_WrongToken : IsX K "BadMark" (.ref (cA K "WrongToken")) false) (IS_BadMark_ValueError : IsX K "BadMark" (.ty "ValueError") true) (IS_BadMend_BadName : IsX K "BadMend" (.ref (cA K "BadName")) false) (IS_BadMend_NoRule : IsX K "BadMend" (.ref (cA K "NoRule")) false) (IS_BadMend_Useless : IsX K "BadMend" (.ref (cA K "Useless")) false) (IS_BadMend_Hollow : IsX K "BadMend" (.ref (cA K "Hollow")) false) (IS_BadMend_SameName : IsX K "BadMend" (.ref (cA K "SameName")) false) (IS_BadMend_UnknownName : IsX K "BadMend" (.ref (cA K "UnknownName")) false) (IS_BadMend_BadLine : IsX K "BadMend" (.ref (cA K "BadLine")) false) (IS_BadMend_BadMark : IsX K "BadMend" (.ref (cA K "BadMark")) false) (IS_BadMend_BadMend : IsX K "BadMend" (.ref (cA K "BadMend")) true) (IS_BadMend_Clash : IsX K "BadMend" (.ref (cA K "Clash")) false) (IS_BadMend_Refused : IsX K "BadMend" (.ref (cA K "Refused")) false) (IS_BadMend_WrongToken : IsX K "BadMend" (.ref (cA K "WrongToken")) false) (IS_BadMend_ValueError : IsX K "BadMend" (.ty "ValueError") true) (IS_Clash_BadName : IsX K "Clash" (.ref (cA K "BadName")) false) (IS_Clash_NoRule : IsX K "Clash" (.ref (cA K "NoRule")) false) (IS_Clash_Useless : IsX K "Clash" (.ref (cA K "Useless")) false) (IS_Clash_Hollow : IsX K "Clash" (.ref (cA K "Hollow")) false) (IS_Clash_SameName : IsX K "Clash" (.ref (cA K "SameName")) false) (IS_Clash_UnknownName : IsX K "Clash" (.ref (cA K "UnknownName")) false) (IS_Clash_BadLine : IsX K "Clash" (.ref (cA K "BadLine")) false) (IS_Clash_BadMark : IsX K "Clash" (.ref (cA K "BadMark")) false) (IS_Clash_BadMend : IsX K "Clash" (.ref (cA K "BadMend")) false) (IS_Clash_Clash : IsX K "Clash" (.ref (cA K "Clash")) true) (IS_Clash_Refused : IsX K "Clash" (.ref (cA K "Refused")) false) (IS_Clash_WrongToken : IsX K "Clash" (.ref (cA K "WrongToken")) false) (IS_Clash_ValueError : IsX K "Clash" (.ty "ValueError") true) (IS_Refused_BadName : IsX K "Refused" (.ref (cA K "BadName")) false) (IS_Refused_NoRule : IsX K "Refused" (.ref (cA K "NoRule")) false) (IS_Refused_Useless : IsX K "Refused" (.ref (cA K "Useless")) false) (IS_Refused_Hollow : IsX K "Refused" (.ref (cA K "Hollow")) false) (IS_Refused_SameName : IsX K "Refused" (.ref (cA K "SameName")) false) (IS_Refused_UnknownName : IsX K "Refused" (.ref (cA K "UnknownName")) false) (IS_Refused_BadLine : IsX K "Refused" (.ref (cA K "BadLine")) false) (IS_Refused_BadMark : IsX K "Refused" (.ref (cA K "BadMark")) false) (IS_Refused_BadMend : IsX K "Refused" (.ref (cA K "BadMend")) false) (IS_Refused_Clash : IsX K "Refused" (.ref (cA K "Clash")) false) (IS_Refused_Refused : IsX K "Refused" (.ref (cA K "Refused")) true) (IS_Refused_WrongToken : IsX K "Refused" (.ref (cA K "WrongToken")) false) (IS_Refused_ValueError : IsX K "Refused" (.ty "ValueError") true) (IS_WrongToken_BadName : IsX K "WrongToken" (.ref (cA K "BadName")) false) (IS_WrongToken_NoRule : IsX K "WrongToken" (.ref (cA K "NoRule")) false) (IS_WrongToken_Useless : IsX K "WrongToken" (.ref (cA K "Useless")) false) (IS_WrongToken_Hollow : IsX K "WrongToken" (.ref (cA K "Hollow")) false) (IS_WrongToken_SameName : IsX K "WrongToken" (.ref (cA K "SameName")) false) (IS_WrongToken_UnknownName : IsX K "WrongToken" (.ref (cA K "UnknownName")) false) (IS_WrongToken_BadLine : IsX K "WrongToken" (.ref (cA K "BadLine")) false) (IS_WrongToken_BadMark : IsX K "WrongToken" (.ref (cA K "BadMark")) false) (IS_WrongToken_BadMend : IsX K "WrongToken" (.ref (cA K "BadMend")) false) (IS_WrongToken_Clash : IsX K "WrongToken" (.ref (cA K "Clash")) false) (IS_WrongToken_Refused : IsX K "WrongToken" (.ref (cA K "Refused")) false) (IS_WrongToken_WrongToken : IsX K "WrongToken" (.ref (cA K "WrongToken")) true) (IS_WrongToken_ValueError : IsX K "WrongToken" (.ty "ValueError") true) : ∀ k x, nm12[k]? = some x → CalHP P w K mg base "_law_shown" 1 p__law_shown (spE K (cA K x) (spSh K k)) := fun k x hk => match k, hk with
  | 0, hk => by
    cases (show some ("BadName" : Str) = some x from hk)
    refine c1__law_shown (k := 0) (y := "BadName") rfl (fun _ => rfl) F B_isinstance B_range B_ValueError T_BadName T_BadLine T_BadMark T_BadMend T_Clash T_Refused T_WrongToken F_Clash F_Refused F_WrongToken J_BadName J_NoRule J_Useless J_Hollow J_SameName J_UnknownName J_BadLine J_BadMark J_BadMend J_Clash J_Refused J_WrongToken (fun j z hj => ?_) IS_BadName_ValueError
    match j, hj with
    | 0, hj => cases (show some ("BadName" : Str) = some z from hj); exact IS_BadName_BadName
    | 1, hj => cases (show some ("NoRule" : Str) = some z from hj); exact IS_BadName_NoRule
    | 2, hj => cases (show some ("Useless" : Str) = some z from hj); exact IS_BadName_Useless
    | 3, hj => cases (show some ("Hollow" : Str) = some z from hj); exact IS_BadName_Hollow
    | 4, hj => cases (show some ("SameName" : Str) = some z from hj); exact IS_BadName_SameName
    | 5, hj => cases (show some ("UnknownName" : Str) = some z from hj); exact IS_BadName_UnknownName
    | 6, hj => cases (show some ("BadLine" : Str) = some z from hj); exact IS_BadName_BadLine
    | 7, hj => cases (show some ("BadMark" : Str) = some z from hj); exact IS_BadName_BadMark
    | 8, hj => cases (show some ("BadMend" : Str) = some z from hj); exact IS_BadName_BadMend
    | 9, hj => cases (show some ("Clash" : Str) = some z from hj); exact IS_BadName_Clash
    | 10, hj => cases (show some ("Refused" : Str) = some z from hj); exact IS_BadName_Refused
    | 11, hj => cases (show some ("WrongToken" : Str) = some z from hj); exact IS_BadName_WrongToken
    | j + 12, hj => exact absurd (nm12_lt hj) (by omega)
  | 1, hk => by
    cases (show some ("NoRule" : Str) = some x from hk)
    refine c1__law_shown (k := 1) (y := "NoRule") rfl (fun _ => rfl) F B_isinstance B_range B_ValueError T_NoRule T_BadLine T_BadMark T_BadMend T_Clash T_Refused T_WrongToken F_Clash F_Refused F_WrongToken J_BadName J_NoRule J_Useless J_Hollow J_SameName J_UnknownName J_BadLine J_BadMark J_BadMend J_Clash J_Refused J_WrongToken (fun j z hj => ?_) IS_NoRule_ValueError
    match j, hj with
    | 0, hj => cases (show some ("BadName" : Str) = some z from hj); exact IS_NoRule_BadName
    | 1, hj => cases (show some ("NoRule" : Str) = some z from hj); exact IS_NoRule_NoRule
    | 2, hj => cases (show some ("Useless" : Str) = some z from hj); exact IS_NoRule_Useless
    | 3, hj => cases (show some ("Hollow" : Str) = some z from hj); exact IS_NoRule_Hollow
    | 4, hj => cases (show some ("SameName" : Str) = some z from hj); exact IS_NoRule_SameName
    | 5, hj => cases (show some ("UnknownName" : Str) = some z from hj); exact IS_NoRule_UnknownName
    | 6, hj => cases (show some ("BadLine" : Str) = some z from hj); exact IS_NoRule_BadLine
    | 7, hj => cases (show some ("BadMark" : Str) = some z from hj); exact IS_NoRule_BadMark
    | 8, hj => cases (show some ("BadMend" : Str) = some z from hj); exact IS_NoRule_BadMend
    | 9, hj => cases (show some ("Clash" : Str) = some z from hj); exact IS_NoRule_Clash
    | 10, hj => cases (show some ("Refused" : Str) = some z from hj); exact IS_NoRule_Refused
    | 11, hj => cases (show some ("WrongToken" : Str) = some z from hj); exact IS_NoRule_WrongToken
    | j + 12, hj => exact absurd (nm12_lt hj) (by omega)
  | 2, hk => by
    cases (show some ("Useless" : Str) = some x from hk)
    refine c1__law_shown (k := 2) (y := "Useless") rfl (fun _ => rfl) F B_isinstance B_range B_ValueError T_Useless T_BadLine T_BadMark T_BadMend T_Clash T_Refused T_WrongToken F_Clash F_Refused F_WrongToken J_BadName J_NoRule J_Useless J_Hollow J_SameName J_UnknownName J_BadLine J_BadMark J_BadMend J_Clash J_Refused J_WrongToken (fun j z hj => ?_) IS_Useless_ValueError
    match j, hj with
    | 0, hj => cases (show some ("BadName" : Str) = some z from hj); exact IS_Useless_BadName
    | 1, hj => cases (show some ("NoRule" : Str) = some z from hj); exact IS_Useless_NoRule
    | 2, hj => cases (show some ("Useless" : Str) = some z from hj); exact IS_Useless_Useless
    | 3, hj => cases (show some ("Hollow" : Str) = some z from hj); exact IS_Useless_Hollow
    | 4, hj => cases (show some ("SameName" : Str) = some z from hj); exact IS_Useless_SameName
    | 5, hj => cases (show some ("UnknownName" : Str) = some z from hj); exact IS_Useless_UnknownName
    | 6, hj => cases (show some ("BadLine" : Str) = some z from hj); exact IS_Useless_BadLine
    | 7, hj => cases (show some ("BadMark" : Str) = some z from hj); exact IS_Useless_BadMark
    | 8, hj => cases (show some ("BadMend" : Str) = some z from hj); exact IS_Useless_BadMend
    | 9, hj => cases (show some ("Clash" : Str) = some z from hj); exact IS_Useless_Clash
    | 10, hj => cases (show some ("Refused" : Str) = some z from hj); exact IS_Useless_Refused
    | 11, hj => cases (show some ("WrongToken" : Str) = some z from hj); exact IS_Useless_WrongToken
    | j + 12, hj => exact absurd (nm12_lt hj) (by omega)
  | 3, hk => by
    cases (show some ("Hollow" : Str) = some x from hk)
    refine c1__law_shown (k := 3) (y := "Hollow") rfl (fun _ => rfl) F B_isinstance B_range B_ValueError T_Hollow T_BadLine T_BadMark T_BadMend T_Clash T_Refused T_WrongToken F_Clash F_Refused F_WrongToken J_BadName J_NoRule J_Useless J_Hollow J_SameName J_UnknownName J_BadLine J_BadMark J_BadMend J_Clash J_Refused J_WrongToken (fun j z hj => ?_) IS_Hollow_ValueError
    match j, hj with
    | 0, hj => cases (show some ("BadName" : Str) = some z from hj); exact IS_Hollow_BadName
    | 1, hj => cases (show some ("NoRule" : Str) = some z from hj); exact IS_Hollow_NoRule
    | 2, hj => cases (show some ("Useless" : Str) = some z from hj); exact IS_Hollow_Useless
    | 3, hj => cases (show some ("Hollow" : Str) = some z from hj); exact IS_Hollow_Hollow
    | 4, hj => cases (show some ("SameName" : Str) = some z from hj); exact IS_Hollow_SameName
    | 5, hj => cases (show some ("UnknownName" : Str) = some z from hj); exact IS_Hollow_UnknownName
    | 6, hj => cases (show some ("BadLine" : Str) = some z from hj); exact IS_Hollow_BadLine
    | 7, hj => cases (show some ("BadMark" : Str) = some z from hj); exact IS_Hollow_BadMark
    | 8, hj => cases (show some ("BadMend" : Str) = some z from hj); exact IS_Hollow_BadMend
    | 9, hj => cases (show some ("Clash" : Str) = some z from hj); exact IS_Hollow_Clash
    | 10, hj => cases (show some ("Refused" : Str) = some z from hj); exact IS_Hollow_Refused
    | 11, hj => cases (show some ("WrongToken" : Str) = some z from hj); exact IS_Hollow_WrongToken
    | j + 12, hj => exact absurd (nm12_lt hj) (by omega)
  | 4, hk => by
    cases (show some ("SameName" : Str) = some x from hk)
    refine c1__law_shown (k := 4) (y := "SameName") rfl (fun _ => rfl) F B_isinstance B_range B_ValueError T_SameName T_BadLine T_BadMark T_BadMend T_Clash T_Refused T_WrongToken F_Clash F_Refused F_WrongToken J_BadName J_NoRule J_Useless J_Hollow J_SameName J_UnknownName J_BadLine J_BadMark J_BadMend J_Clash J_Refused J_WrongToken (fun j z hj => ?_) IS_SameName_ValueError
    match j, hj with
    | 0, hj => cases (show some ("BadName" : Str) = some z from hj); exact IS_SameName_BadName
    | 1, hj => cases (show some ("NoRule" : Str) = some z from hj); exact IS_SameName_NoRule
    | 2, hj => cases (show some ("Useless" : Str) = some z from hj); exact IS_SameName_Useless
    | 3, hj => cases (show some ("Hollow" : Str) = some z from hj); exact IS_SameName_Hollow
    | 4, hj => cases (show some ("SameName" : Str) = some z from hj); exact IS_SameName_SameName
    | 5, hj => cases (show some ("UnknownName" : Str) = some z from hj); exact IS_SameName_UnknownName
    | 6, hj => cases (show some ("BadLine" : Str) = some z from hj); exact IS_SameName_BadLine
    | 7, hj => cases (show some ("BadMark" : Str) = some z from hj); exact IS_SameName_BadMark
    | 8, hj => cases (show some ("BadMend" : Str) = some z from hj); exact IS_SameName_BadMend
    | 9, hj => cases (show some ("Clash" : Str) = some z from hj); exact IS_SameName_Clash
    | 10, hj => cases (show some ("Refused" : Str) = some z from hj); exact IS_SameName_Refused
    | 11, hj => cases (show some ("WrongToken" : Str) = some z from hj); exact IS_SameName_WrongToken
    | j + 12, hj => exact absurd (nm12_lt hj) (by omega)
  | 5, hk => by
    cases (show some ("UnknownName" : Str) = some x from hk)
    refine c1__law_shown (k := 5) (y := "UnknownName") rfl (fun _ => rfl) F B_isinstance B_range B_ValueError T_UnknownName T_BadLine T_BadMark T_BadMend T_Clash T_Refused T_WrongToken F_Clash F_Refused F_WrongToken J_BadName J_NoRule J_Useless J_Hollow J_SameName J_UnknownName J_BadLine J_BadMark J_BadMend J_Clash J_Refused J_WrongToken (fun j z hj => ?_) IS_UnknownName_ValueError
    match j, hj with
    | 0, hj => cases (show some ("BadName" : Str) = some z from hj); exact IS_UnknownName_BadName
    | 1, hj => cases (show some ("NoRule" : Str) = some z from hj); exact IS_UnknownName_NoRule
    | 2, hj => cases (show some ("Useless" : Str) = some z from hj); exact IS_UnknownName_Useless
    | 3, hj => cases (show some ("Hollow" : Str) = some z from hj); exact IS_UnknownName_Hollow
    | 4, hj => cases (show some ("SameName" : Str) = some z from hj); exact IS_UnknownName_SameName
    | 5, hj => cases (show some ("UnknownName" : Str) = some z from hj); exact IS_UnknownName_UnknownName
    | 6, hj => cases (show some ("BadLine" : Str) = some z from hj); exact IS_UnknownName_BadLine
    | 7, hj => cases (show some ("BadMark" : Str) = some z from hj); exact IS_UnknownName_BadMark
    | 8, hj => cases (show some ("BadMend" : Str) = some z from hj); exact IS_UnknownName_BadMend
    | 9, hj => cases (show some ("Clash" : Str) = some z from hj); exact IS_UnknownName_Clash
    | 10, hj => cases (show some ("Refused" : Str) = some z from hj); exact IS_UnknownName_Refused
    | 11, hj => cases (show some ("WrongToken" : Str) = some z from hj); exact IS_UnknownName_WrongToken
    | j + 12, hj => exact absurd (nm12_lt hj) (by omega)
  | 6, hk => by
    cases (show some ("BadLine" : Str) = some x from hk)
    refine c1__law_shown (k := 6) (y := "BadName") rfl (fun _ => by omega) F B_isinstance B_range B_ValueError T_BadName T_BadLine T_BadMark T_BadMend T_Clash T_Refused T_WrongToken F_Clash F_Refused F_WrongToken J_BadName J_NoRule J_Useless J_Hollow J_SameName J_UnknownName J_BadLine J_BadMark J_BadMend J_Clash J_Refused J_WrongToken (fun j z hj => ?_) IS_BadLine_ValueError
    match j, hj with
    | 0, hj => cases (show some ("BadName" : Str) = some z from hj); exact IS_BadLine_BadName
    | 1, hj => cases (show some ("NoRule" : Str) = some z from hj); exact IS_BadLine_NoRule
    | 2, hj => cases (show some ("Useless" : Str) = some z from hj); exact IS_BadLine_Useless
    | 3, hj => cases (show some ("Hollow" : Str) = some z from hj); exact IS_BadLine_Hollow
    | 4, hj => cases (show some ("SameName" : Str) = some z from hj); exact IS_BadLine_SameName
    | 5, hj => cases (show some ("UnknownName" : Str) = some z from hj); exact IS_BadLine_UnknownName
    | 6, hj => cases (show some ("BadLine" : Str) = some z from hj); exact IS_BadLine_BadLine
    | 7, hj => cases (show some ("BadMark" : Str) = some z from hj); exact IS_BadLine_BadMark
    | 8, hj => cases (show some ("BadMend" : Str) = some z from hj); exact IS_BadLine_BadMend
    | 9, hj => cases (show some ("Clash" : Str) = some z from hj); exact IS_BadLine_Clash
    | 10, hj => cases (show some ("Refused" : Str) = some z from hj); exact IS_BadLine_Refused
    | 11, hj => cases (show some ("WrongToken" : Str) = some z from hj); exact IS_BadLine_WrongToken
    | j + 12, hj => exact absurd (nm12_lt hj) (by omega)
  | 7, hk => by
    cases (show some ("BadMark" : Str) = some x from hk)
    refine c1__law_shown (k := 7) (y := "BadName") rfl (fun _ => by omega) F B_isinstance B_range B_ValueError T_BadName T_BadLine T_BadMark T_BadMend T_Clash T_Refused T_WrongToken F_Clash F_Refused F_WrongToken J_BadName J_NoRule J_Useless J_Hollow J_SameName J_UnknownName J_BadLine J_BadMark J_BadMend J_Clash J_Refused J_WrongToken (fun j z hj => ?_) IS_BadMark_ValueError
    match j, hj with
    | 0, hj => cases (show some ("BadName" : Str) = some z from hj); exact IS_BadMark_BadName
    | 1, hj => cases (show some ("NoRule" : Str) = some z from hj); exact IS_BadMark_NoRule
    | 2, hj => cases (show some ("Useless" : Str) = some z from hj); exact IS_BadMark_Useless
    | 3, hj => cases (show some ("Hollow" : Str) = some z from hj); exact IS_BadMark_Hollow
    | 4, hj => cases (show some ("SameName" : Str) = some z from hj); exact IS_BadMark_SameName
    | 5, hj => cases (show some ("UnknownName" : Str) = some z from hj); exact IS_BadMark_UnknownName
    | 6, hj => cases (show some ("BadLine" : Str) = some z from hj); exact IS_BadMark_BadLine
    | 7, hj => cases (show some ("BadMark" : Str) = some z from hj); exact IS_BadMark_BadMark
    | 8, hj => cases (show some ("BadMend" : Str) = some z from hj); exact IS_BadMark_BadMend
    | 9, hj => cases (show some ("Clash" : Str) = some z from hj); exact IS_BadMark_Clash
    | 10, hj => cases (show some ("Refused" : Str) = some z from hj); exact IS_BadMark_Refused
    | 11, hj => cases (show some ("WrongToken" : Str) = some z from hj); exact IS_BadMark_WrongToken
    | j + 12, hj => exact absurd (nm12_lt hj) (by omega)
  | 8, hk => by
    cases (show some ("BadMend" : Str) = some x from hk)
    refine c1__law_shown (k := 8) (y := "BadName") rfl (fun _ => by omega) F B_isinstance B_range B_ValueError T_BadName T_BadLine T_BadMark T_BadMend T_Clash T_Refused T_WrongToken F_Clash F_Refused F_WrongToken J_BadName J_NoRule J_Useless J_Hollow J_SameName J_UnknownName J_BadLine J_BadMark J_BadMend J_Clash J_Refused J_WrongToken (fun j z hj => ?_) IS_BadMend_ValueError
    match j, hj with
    | 0, hj => cases (show some ("BadName" : Str) = some z from hj); exact IS_BadMend_BadName
    | 1, hj => cases (show some ("NoRule" : Str) = some z from hj); exact IS_BadMend_NoRule
    | 2, hj => cases (show some ("Useless" : Str) = some z from hj); exact IS_BadMend_Useless
    | 3, hj => cases (show some ("Hollow" : Str) = some z from hj); exact IS_BadMend_Hollow
    | 4, hj => cases (show some ("SameName" : Str) = some z from hj); exact IS_BadMend_SameName
    | 5, hj => cases (show some ("UnknownName" : Str) = some z from hj); exact IS_BadMend_UnknownName
    | 6, hj => cases (show some ("BadLine" : Str) = some z from hj); exact IS_BadMend_BadLine
    | 7, hj => cases (show some ("BadMark" : Str) = some z from hj); exact IS_BadMend_BadMark
    | 8, hj => cases (show some ("BadMend" : Str) = some z from hj); exact IS_BadMend_BadMend
    | 9, hj => cases (show some ("Clash" : Str) = some z from hj); exact IS_BadMend_Clash
    | 10, hj => cases (show some ("Refused" : Str) = some z from hj); exact IS_BadMend_Refused
    | 11, hj => cases (show some ("WrongToken" : Str) = some z from hj); exact IS_BadMend_WrongToken
    | j + 12, hj => exact absurd (nm12_lt hj) (by omega)
  | 9, hk => by
    cases (show some ("Clash" : Str) = some x from hk)
    refine c1__law_shown (k := 9) (y := "BadName") rfl (fun _ => by omega) F B_isinstance B_range B_ValueError T_BadName T_BadLine T_BadMark T_BadMend T_Clash T_Refused T_WrongToken F_Clash F_Refused F_WrongToken J_BadName J_NoRule J_Useless J_Hollow J_SameName J_UnknownName J_BadLine J_BadMark J_BadMend J_Clash J_Refused J_WrongToken (fun j z hj => ?_) IS_Clash_ValueError
    match j, hj with
    | 0, hj => cases (show some ("BadName" : Str) = some z from hj); exact IS_Clash_BadName
    | 1, hj => cases (show some ("NoRule" : Str) = some z from hj); exact IS_Clash_NoRule
    | 2, hj => cases (show some ("Useless" : Str) = some z from hj); exact IS_Clash_Useless
    | 3, hj => cases (show some ("Hollow" : Str) = some z from hj); exact IS_Clash_Hollow
    | 4, hj => cases (show some ("SameName" : Str) = some z from hj); exact IS_Clash_SameName
    | 5, hj => cases (show some ("UnknownName" : Str) = some z from hj); exact IS_Clash_UnknownName
    | 6, hj => cases (show some ("BadLine" : Str) = some z from hj); exact IS_Clash_BadLine
    | 7, hj => cases (show some ("BadMark" : Str) = some z from hj); exact IS_Clash_BadMark
    | 8, hj => cases (show some ("BadMend" : Str) = some z from hj); exact IS_Clash_BadMend
    | 9, hj => cases (show some ("Clash" : Str) = some z from hj); exact IS_Clash_Clash
    | 10, hj => cases (show some ("Refused" : Str) = some z from hj); exact IS_Clash_Refused
    | 11, hj => cases (show some ("WrongToken" : Str) = some z from hj); exact IS_Clash_WrongToken
    | j + 12, hj => exact absurd (nm12_lt hj) (by omega)
  | 10, hk => by
    cases (show some ("Refused" : Str) = some x from hk)
    refine c1__law_shown (k := 10) (y := "BadName") rfl (fun _ => by omega) F B_isinstance B_range B_ValueError T_BadName T_BadLine T_BadMark T_BadMend T_Clash T_Refused T_WrongToken F_Clash F_Refused F_WrongToken J_BadName J_NoRule J_Useless J_Hollow J_SameName J_UnknownName J_BadLine J_BadMark J_BadMend J_Clash J_Refused J_WrongToken (fun j z hj => ?_) IS_Refused_ValueError
    match j, hj with
    | 0, hj => cases (show some ("BadName" : Str) = some z from hj); exact IS_Refused_BadName
    | 1, hj => cases (show some ("NoRule" : Str) = some z from hj); exact IS_Refused_NoRule
    | 2, hj => cases (show some ("Useless" : Str) = some z from hj); exact IS_Refused_Useless
    | 3, hj => cases (show some ("Hollow" : Str) = some z from hj); exact IS_Refused_Hollow
    | 4, hj => cases (show some ("SameName" : Str) = some z from hj); exact IS_Refused_SameName
    | 5, hj => cases (show some ("UnknownName" : Str) = some z from hj); exact IS_Refused_UnknownName
    | 6, hj => cases (show some ("BadLine" : Str) = some z from hj); exact IS_Refused_BadLine
    | 7, hj => cases (show some ("BadMark" : Str) = some z from hj); exact IS_Refused_BadMark
    | 8, hj => cases (show some ("BadMend" : Str) = some z from hj); exact IS_Refused_BadMend
    | 9, hj => cases (show some ("Clash" : Str) = some z from hj); exact IS_Refused_Clash
    | 10, hj => cases (show some ("Refused" : Str) = some z from hj); exact IS_Refused_Refused
    | 11, hj => cases (show some ("WrongToken" : Str) = some z from hj); exact IS_Refused_WrongToken
    | j + 12, hj => exact absurd (nm12_lt hj) (by omega)
  | 11, hk => by
    cases (show some ("WrongToken" : Str) = some x from hk)
    refine c1__law_shown (k := 11) (y := "BadName") rfl (fun _ => by omega) F B_isinstance B_range B_ValueError T_BadName T_BadLine T_BadMark T_BadMend T_Clash T_Refused T_WrongToken F_Clash F_Refused F_WrongToken J_BadName J_NoRule J_Useless J_Hollow J_SameName J_UnknownName J_BadLine J_BadMark J_BadMend J_Clash J_Refused J_WrongToken (fun j z hj => ?_) IS_WrongToken_ValueError
    match j, hj with
    | 0, hj => cases (show some ("BadName" : Str) = some z from hj); exact IS_WrongToken_BadName
    | 1, hj => cases (show some ("NoRule" : Str) = some z from hj); exact IS_WrongToken_NoRule
    | 2, hj => cases (show some ("Useless" : Str) = some z from hj); exact IS_WrongToken_Useless
    | 3, hj => cases (show some ("Hollow" : Str) = some z from hj); exact IS_WrongToken_Hollow
    | 4, hj => cases (show some ("SameName" : Str) = some z from hj); exact IS_WrongToken_SameName
    | 5, hj => cases (show some ("UnknownName" : Str) = some z from hj); exact IS_WrongToken_UnknownName
    | 6, hj => cases (show some ("BadLine" : Str) = some z from hj); exact IS_WrongToken_BadLine
    | 7, hj => cases (show some ("BadMark" : Str) = some z from hj); exact IS_WrongToken_BadMark
    | 8, hj => cases (show some ("BadMend" : Str) = some z from hj); exact IS_WrongToken_BadMend
    | 9, hj => cases (show some ("Clash" : Str) = some z from hj); exact IS_WrongToken_Clash
    | 10, hj => cases (show some ("Refused" : Str) = some z from hj); exact IS_WrongToken_Refused
    | 11, hj => cases (show some ("WrongToken" : Str) = some z from hj); exact IS_WrongToken_WrongToken
    | j + 12, hj => exact absurd (nm12_lt hj) (by omega)
  | k + 12, hk => absurd (nm12_lt hk) (by omega)
abbrev n__law_raised : List Str := ["_law_which", "_law_row", "_law_e"]
abbrev p__law_raised : List Str := ["_law_which", "_law_row"]
theorem sc__law_raised : FnScope n__law_raised p__law_raised (defScope s__law_raised) := ⟨rfl, rfl, rfl, by decide +kernel, rfl, by decide +kernel, by decide +kernel⟩
abbrev sp__law_raised (K : PySem.W.Frag) : Sp := spMN (aC rI (aC (rL (rU K)) aN)) (nl K (rU K)) fun a => m_raised a.1 a.2.1
theorem c__law_raised (F : Df K mg "_law_raised" s__law_raised) (IS_BadName_TongueError : IsX K "BadName" (.ref (cA K "TongueError")) true) (J_TongueError : mg "TongueError" = some (.ref (cA K "TongueError"))) (IS_NoRule_TongueError : IsX K "NoRule" (.ref (cA K "TongueError")) true) (IS_Useless_TongueError : IsX K "Useless" (.ref (cA K "TongueError")) true) (IS_Hollow_TongueError : IsX K "Hollow" (.ref (cA K "TongueError")) true) (IS_SameName_TongueError : IsX K "SameName" (.ref (cA K "TongueError")) true) (IS_UnknownName_TongueError : IsX K "UnknownName" (.ref (cA K "TongueError")) true) (IS_BadLine_TongueError : IsX K "BadLine" (.ref (cA K "TongueError")) true) (IS_BadMark_TongueError : IsX K "BadMark" (.ref (cA K "TongueError")) true) (IS_BadMend_TongueError : IsX K "BadMend" (.ref (cA K "TongueError")) true) (IS_Clash_TongueError : IsX K "Clash" (.ref (cA K "TongueError")) true) (IS_Refused_TongueError : IsX K "Refused" (.ref (cA K "TongueError")) true) (IS_WrongToken_TongueError : IsX K "WrongToken" (.ref (cA K "TongueError")) true) (E_BadName : ExcK P K mg "BadName" "name") (E_NoRule : ExcK P K mg "NoRule" "name") (E_Useless : ExcK P K mg "Useless" "name") (E_Hollow : ExcK P K mg "Hollow" "name") (E_SameName : ExcK P K mg "SameName" "name") (E_UnknownName : ExcK P K mg "UnknownName" "name") (E_BadLine : ExcK P K mg "BadLine" "number") (E_BadMark : ExcK P K mg "BadMark" "rule") (E_BadMend : ExcK P K mg "BadMend" "mend") (E_Clash : ExcKN P K mg "Clash" ["head", "one", "other", "token", "beginning", "runs"]) (E_Refused : ExcKN P K mg "Refused" ["guest", "rival", "token", "beginning"]) (E_WrongToken : ExcKN P K mg "WrongToken" ["index", "token", "expected"]) (TE_BadName : PySem.W.exmOne K (.ref (cA K "BadName")) (.ref (cA K "TongueError")) = some true) (TE_NoRule : PySem.W.exmOne K (.ref (cA K "NoRule")) (.ref (cA K "TongueError")) = some true) (TE_Useless : PySem.W.exmOne K (.ref (cA K "Useless")) (.ref (cA K "TongueError")) = some true) (TE_Hollow : PySem.W.exmOne K (.ref (cA K "Hollow")) (.ref (cA K "TongueError")) = some true) (TE_SameName : PySem.W.exmOne K (.ref (cA K "SameName")) (.ref (cA K "TongueError")) = some true) (TE_UnknownName : PySem.W.exmOne K (.ref (cA K "UnknownName")) (.ref (cA K "TongueError")) = some true) (TE_BadLine : PySem.W.exmOne K (.ref (cA K "BadLine")) (.ref (cA K "TongueError")) = some true) (TE_BadMark : PySem.W.exmOne K (.ref (cA K "BadMark")) (.ref (cA K "TongueError")) = some true) (TE_BadMend : PySem.W.exmOne K (.ref (cA K "BadMend")) (.ref (cA K "TongueError")) = some true) (TE_Clash : PySem.W.exmOne K (.ref (cA K "Clash")) (.ref (cA K "TongueError")) = some true) (TE_Refused : PySem.W.exmOne K (.ref (cA K "Refused")) (.ref (cA K "TongueError")) = some true) (TE_WrongToken : PySem.W.exmOne K (.ref (cA K "WrongToken")) (.ref (cA K "TongueError")) = some true) (C__law_shown : ∀ k x, nm12[k]? = some x → CalHP P w K mg base "_law_shown" 1 p__law_shown (spE K (cA K x) (spSh K k))) : Cal P w K mg base CX0 "_law_raised" 2 p__law_raised (sp__law_raised K) := by
  refine cal_of F sc__law_raised (fun vs H Q E ⟨a, b, h, _⟩ => LenA.len h) (fun _ _ _ _ _ _ us hl => match us, hl with | [_, _], _ => rfl) fun cdv f A outer s H vs Q E hr h => ?_
  have sc := sc__law_raised
  refine ⟨_, (pss_one (ps_try_asW (i := 2) rfl rfl sc.nd rfl rfl (nm_of J_TongueError) takes_no
      (wx_cons (wx_if (fun _ _ => pt_cmpR op_eq (pv 0) pe_int (nomark _))
      (wx_one (wx_raise rfl fun _ _ => pmk_exK K E_BadName hr (pa1 (pe_ix (k_ix K) (pv 1) pe_int (fun _ _ => rfl))))))
      (wx_cons (wx_if (fun _ _ => pt_cmpR op_eq (pv 0) pe_int (nomark _))
      (wx_one (wx_raise rfl fun _ _ => pmk_exK K E_NoRule hr (pa1 (pe_ix (k_ix K) (pv 1) pe_int (fun _ _ => rfl))))))
      (wx_cons (wx_if (fun _ _ => pt_cmpR op_eq (pv 0) pe_int (nomark _))
      (wx_one (wx_raise rfl fun _ _ => pmk_exK K E_Useless hr (pa1 (pe_ix (k_ix K) (pv 1) pe_int (fun _ _ => rfl))))))
      (wx_cons (wx_if (fun _ _ => pt_cmpR op_eq (pv 0) pe_int (nomark _))
      (wx_one (wx_raise rfl fun _ _ => pmk_exK K E_Hollow hr (pa1 (pe_ix (k_ix K) (pv 1) pe_int (fun _ _ => rfl))))))
      (wx_cons (wx_if (fun _ _ => pt_cmpR op_eq (pv 0) pe_int (nomark _))
      (wx_one (wx_raise rfl fun _ _ => pmk_exK K E_SameName hr (pa1 (pe_ix (k_ix K) (pv 1) pe_int (fun _ _ => rfl))))))
      (wx_cons (wx_if (fun _ _ => pt_cmpR op_eq (pv 0) pe_int (nomark _))
      (wx_one (wx_raise rfl fun _ _ => pmk_exK K E_UnknownName hr (pa1 (pe_ix (k_ix K) (pv 1) pe_int (fun _ _ => rfl))))))
      (wx_cons (wx_if (fun _ _ => pt_cmpR op_eq (pv 0) pe_int (nomark _))
      (wx_one (wx_raise rfl fun _ _ => pmk_exK K E_BadLine hr (pa1 (pe_ix (k_ix K) (pv 1) pe_int (fun _ _ => rfl))))))
      (wx_cons (wx_if (fun _ _ => pt_cmpR op_eq (pv 0) pe_int (nomark _))
      (wx_one (wx_raise rfl fun _ _ => pmk_exK K E_BadMark hr (pa1 (pe_ix (k_ix K) (pv 1) pe_int (fun _ _ => rfl))))))
      (wx_cons (wx_if (fun _ _ => pt_cmpR op_eq (pv 0) pe_int (nomark _))
      (wx_one (wx_raise rfl fun _ _ => pmk_exK K E_BadMend hr (pa1 (pe_ix (k_ix K) (pv 1) pe_int (fun _ _ => rfl))))))
      (wx_cons (wx_if (fun _ _ => pt_cmpR op_eq (pv 0) pe_int (nomark _))
      (wx_one (wx_raise rfl fun _ _ => pmk_exNK K E_Clash hr (pa_cons (pe_ix (k_ix K) (pv 1) pe_int (fun _ _ => rfl)) (pa_cons (pe_ix (k_ix K) (pe_ix (k_ix K) (pv 1) pe_int (fun _ _ => rfl)) pe_int (fun _ _ => rfl)) (pa_cons (pe_tupD pa_nil) (pa_cons (pe_ix (k_ix K) (pv 1) pe_int (fun _ _ => rfl)) (pa_cons (pe_ix (k_ix K) (pv 1) pe_int (fun _ _ => rfl)) (pa1 (pe_tupD (pa_cons (pe_ix (k_ix K) (pv 1) pe_int (fun _ _ => rfl)) (pa1 (pe_ix (k_ix K) (pv 1) pe_int (fun _ _ => rfl))))))))))))))
      (wx_cons (wx_if (fun _ _ => pt_cmpR op_eq (pv 0) pe_int (nomark _))
      (wx_one (wx_raise rfl fun _ _ => pmk_exNK K E_Refused hr (pa_cons (pe_ix (k_ix K) (pv 1) pe_int (fun _ _ => rfl)) (pa_cons (pe_ix (k_ix K) (pv 1) pe_int (fun _ _ => rfl)) (pa_cons (pe_ix (k_ix K) (pv 1) pe_int (fun _ _ => rfl)) (pa1 (pe_ix (k_ix K) (pv 1) pe_int (fun _ _ => rfl)))))))))
      (wx_one (wx_raise rfl fun _ _ => pmk_exNK K E_WrongToken hr (pa_cons (pe_ix (k_ix K) (pv 1) pe_int (fun _ _ => rfl)) (pa_cons (pe_ix (k_ix K) (pv 1) pe_int (fun _ _ => rfl)) (pa1 (pe_ix (k_ix K) (pv 1) pe_int (fun _ _ => rfl))))))))))))))))))
      (fun a oe cls d pn hz hf => (pss_one (ps_ret (pe_shown C__law_shown (room_suite hr.m) hz hf (pa_cons (pv 0) (pa1 (pv 2))))))))), ?_⟩
  obtain ⟨⟨n, row, _⟩, r0, ⟨v1, _, rfl, w1, ⟨v2, _, rfl, w2, rfl⟩⟩, h, kq⟩ := h
  have h : m_raised n row = .ok r0 := h
  unfold m_raised at h
  obtain ⟨_, e1, h⟩ := mb_ok h
  have hn := of_decide_eq_true (chk_ok e1)
  have h := oM_ok h
  obtain ⟨k, rfl⟩ : ∃ k : Nat, n = (k : Int) := ⟨n.toNat, by omega⟩
  have kl : k < 12 := by omega
  rw [Int.toNat_natCast] at h
  obtain ⟨a, b, c, d, e, f1, g, i, j, rfl⟩ := ar12_row h
  have hD : RtOk (nl K (rU K)) H r0 { nx := fun _ H' => Q .non H', rt := Q } := fun v H' ⟨as, s, n, z⟩ => kq v H' as s n z
  refine Sv.run (K := K) (G := ([rc rI (k : Int), rc (rL (rU K)) [a, b, c, d, e, f1, g, i, j], none] : Cells K)) ?_ (.ro w1 (.ro w2 (.skip .nil)))
  have ei : ∀ (l : Int) (u : U), atI [a, b, c, d, e, f1, g, i, j] l = some u → Ev (rU K) (tOp (rIx K) (tVar 1) (tC (.int l))) ([rc rI (k : Int), rc (rL (rU K)) [a, b, c, d, e, f1, g, i, j], none] : Cells K) u := fun l u hu => ev_ixL (a_ro (by rfl)) ev_int hu
  refine fun σ9 H9 hv9 => ?_
  dsimp only
  refine sv_pt (H0 := H) ?_ hv9
  refine q_if (c := decide ((k : Int) = 0)) ?_ (fun hc => ?_) fun hc0 => q_next ?_
  · walk_at "ev"
  · have kk : k = 0 := by have := of_decide_eq_true hc; omega
    subst kk
    cases (show some [a] = some r0 from h)
    exact l_raiseU (k := 0) (x := "BadName") (f := "name") (ei 0 _ rfl) rfl (by simp) rfl (sh1 rfl) TE_BadName hD
  refine q_if (c := decide ((k : Int) = 1)) ?_ (fun hc => ?_) fun hc1 => q_next ?_
  · walk_at "ev"
  · have kk : k = 1 := by have := of_decide_eq_true hc; omega
    subst kk
    cases (show some [a] = some r0 from h)
    exact l_raiseU (k := 1) (x := "NoRule") (f := "name") (ei 0 _ rfl) rfl (by simp) rfl (sh1 rfl) TE_NoRule hD
  refine q_if (c := decide ((k : Int) = 2)) ?_ (fun hc => ?_) fun hc2 => q_next ?_
  · walk_at "ev"
  · have kk : k = 2 := by have := of_decide_eq_true hc; omega
    subst kk
    cases (show some [a] = some r0 from h)
    exact l_raiseU (k := 2) (x := "Useless") (f := "name") (ei 0 _ rfl) rfl (by simp) rfl (sh1 rfl) TE_Useless hD
  refine q_if (c := decide ((k : Int) = 3)) ?_ (fun hc => ?_) fun hc3 => q_next ?_
  · walk_at "ev"
  · have kk : k = 3 := by have := of_decide_eq_true hc; omega
    subst kk
    cases (show some [a] = some r0 from h)
    exact l_raiseU (k := 3) (x := "Hollow") (f := "name") (ei 0 _ rfl) rfl (by simp) rfl (sh1 rfl) TE_Hollow hD
  refine q_if (c := decide ((k : Int) = 4)) ?_ (fun hc => ?_) fun hc4 => q_next ?_
  · walk_at "ev"
  · have kk : k = 4 := by have := of_decide_eq_true hc; omega
    subst kk
    cases (show some [a] = some r0 from h)
    exact l_raiseU (k := 4) (x := "SameName") (f := "name") (ei 0 _ rfl) rfl (by simp) rfl (sh1 rfl) TE_SameName hD
  refine q_if (c := decide ((k : Int) = 5)) ?_ (fun hc => ?_) fun hc5 => q_next ?_
  · walk_at "ev"
  · have kk : k = 5 := by have := of_decide_eq_true hc; omega
    subst kk
    cases (show some [a] = some r0 from h)
    exact l_raiseU (k := 5) (x := "UnknownName") (f := "name") (ei 0 _ rfl) rfl (by simp) rfl (sh1 rfl) TE_UnknownName hD
  refine q_if (c := decide ((k : Int) = 6)) ?_ (fun hc => ?_) fun hc6 => q_next ?_
  · walk_at "ev"
  · have kk : k = 6 := by have := of_decide_eq_true hc; omega
    subst kk
    cases (show some [b] = some r0 from h)
    exact l_raiseU (k := 6) (x := "BadLine") (f := "number") (ei 1 _ rfl) rfl (by simp) rfl (sh1 rfl) TE_BadLine hD
  refine q_if (c := decide ((k : Int) = 7)) ?_ (fun hc => ?_) fun hc7 => q_next ?_
  · walk_at "ev"
  · have kk : k = 7 := by have := of_decide_eq_true hc; omega
    subst kk
    cases (show some [c] = some r0 from h)
    exact l_raiseU (k := 7) (x := "BadMark") (f := "rule") (ei 2 _ rfl) rfl (by simp) rfl (sh1 rfl) TE_BadMark hD
  refine q_if (c := decide ((k : Int) = 8)) ?_ (fun hc => ?_) fun hc8 => q_next ?_
  · walk_at "ev"
  · have kk : k = 8 := by have := of_decide_eq_true hc; omega
    subst kk
    cases (show some [d] = some r0 from h)
    exact l_raiseU (k := 8) (x := "BadMend") (f := "mend") (ei 3 _ rfl) rfl (by simp) rfl (sh1 rfl) TE_BadMend hD
  refine q_if (c := decide ((k : Int) = 9)) ?_ (fun hc => ?_) fun hc9 => q_next ?_
  · walk_at "ev"
  · have kk : k = 9 := by have := of_decide_eq_true hc; omega
    subst kk
    obtain ⟨c', t, h1, h2, rfl⟩ := ar9_ok h
    obtain ⟨x0, x1, rfl, rfl⟩ := sndU_ok h1
    obtain ⟨x2, x3, rfl, rfl, rfl⟩ := tupU_ok h2
    exact l_raiseUN (k := 9) (x := "Clash") (fs := ["head", "one", "other", "token", "beginning", "runs"]) (us := [a, .inl x1, .inl (.tuple []), e, f1, .inl (.tuple [x2, x3])]) (el_cons (ei 0 _ rfl) (el_cons (ev_uIx (ei 2 _ rfl)) (el_cons (ev_uT (ds := []) el_nil (by decide)) (el_cons (ei 4 _ rfl) (el_cons (ei 5 _ rfl) (el_cons (ev_uT (ds := [x2, x3]) (el_cons (ei 6 _ rfl) (el_cons (ei 7 _ rfl) el_nil)) (by show 2 ≤ 12000000; omega)) el_nil)))))) rfl rfl (by simp) rfl sh9 TE_Clash hD
  refine q_if (c := decide ((k : Int) = 10)) ?_ (fun hc => ?_) fun hc10 => ?_
  · walk_at "ev"
  · have kk : k = 10 := by have := of_decide_eq_true hc; omega
    subst kk
    cases (show some [a, j, e, f1] = some r0 from h)
    exact l_raiseUN (k := 10) (x := "Refused") (fs := ["guest", "rival", "token", "beginning"]) (us := [a, j, e, f1]) (el_cons (ei 0 _ rfl) (el_cons (ei 8 _ rfl) (el_cons (ei 4 _ rfl) (el_cons (ei 5 _ rfl) el_nil)))) rfl rfl (by simp) rfl sh10 TE_Refused hD
  have kk : k = 11 := by
    have := of_decide_eq_false hc0
    have := of_decide_eq_false hc1
    have := of_decide_eq_false hc2
    have := of_decide_eq_false hc3
    have := of_decide_eq_false hc4
    have := of_decide_eq_false hc5
    have := of_decide_eq_false hc6
    have := of_decide_eq_false hc7
    have := of_decide_eq_false hc8
    have := of_decide_eq_false hc9
    have := of_decide_eq_false hc10
    omega
  subst kk
  cases (show some [b, e, f1] = some r0 from h)
  exact fun _ _ hv => sv_pt (D := { nx := fun _ _ => True, rt := fun _ _ => True }) (l_raiseUN (k := 11) (x := "WrongToken") (fs := ["index", "token", "expected"]) (us := [b, e, f1]) (el_cons (ei 1 _ rfl) (el_cons (ei 4 _ rfl) (el_cons (ei 5 _ rfl) el_nil))) rfl rfl (by simp) rfl sh11 TE_WrongToken hD) hv
abbrev n_law : List Str := ["_law_script", "_law_row", "_law_name", "_law_token", "_law_number", "_law_values", "_law_due", "_law_which"]
abbrev p_law : List Str := ["_law_script"]
theorem sc_law : FnScope n_law p_law (defScope s_law) := ⟨rfl, rfl, rfl, by decide +kernel, rfl, by decide +kernel, by decide +kernel⟩
abbrev sp_law (K : PySem.W.Frag) : Sp := spM (aC (rQ K rI) aN) rB fun a => m_law a.1
theorem c_law {f : Addr} {fd : FuncData} (F : Fun K "law" "law" s_law f fd) (B_int : mg "int" = none) (B_range : mg "range" = none) (K_Extension : ClsF K mg "Extension") (IN_Extension : CalN P w K mg base (L2N.CX P w) (cA K "Extension") 4 p_Extension___init__ (sp_Extension___init__ K)) (C__law_cell : Cal P w K mg base CX0 "_law_cell" 1 p__law_cell (sp__law_cell K)) (C__law_draws : Cal P w K mg base CX0 "_law_draws" 1 p__law_draws (sp__law_draws K)) (C__law_word : Cal P w K mg base CX0 "_law_word" 1 p__law_word (sp__law_word K)) (C__law_raised : Cal P w K mg base CX0 "_law_raised" 2 p__law_raised (sp__law_raised K)) : FnOk P w K mg base CX0 6 f fd p_law (sp_law K) := by
  have cl_Extension := K_Extension.cl
  refine F.ok sc_law (fun vs H Q E ⟨a, b, h, _⟩ => LenA.len h) fun cdv A outer s H vs Q E hr h => ?_
  have sc := sc_law
  refine ⟨_, (pss_cons (psS 1 sc.nd (pe_fn C__law_draws hr.m (pa_cons (pe_fn C__law_cell hr.m (pa_cons (pv 0) (pa1 pe_int))) (pa1 pe_int))))
      (pss_cons (psS 2 sc.nd (pe_fn C__law_word hr.m (pa_cons (pe_slice (k_slL K) (pv 1) po_none (po_some pe_int)) (pa1 pe_bl))))
      (pss_cons (psS 3 sc.nd (pe_fn C__law_word hr.m (pa_cons (pe_slice (k_slL K) (pv 1) (po_some pe_int) (po_some pe_int)) (pa1 pe_bl))))
      (pss_cons (psS 4 sc.nd (pe_op op_mod (pe_callTy call_int1 (by rfl) B_int (by decide +kernel) (pa1 (pe_fn C__law_cell hr.m (pa_cons (pv 0) (pa1 pe_int))))) (pe_op op_pow pe_int pe_int)))
      (pss_cons (psS 5 sc.nd (pe_lst (pa_cons (pv 2) (pa_cons (pv 4) (pa_cons (pe_tupD (pa_cons (pv 2) (pa1 (pe_tupD (pa_cons (pv 3) (pa1 (pv 2))))))) (pa_cons (pe_tupD (pa_cons pe_str (pa1 (pv 4)))) (pa_cons (pv 3) (pa_cons (pe_tupD (pa_cons (pv 3) (pa1 (pv 3)))) (pa_cons (pe_tupD (pa1 (pe_tupD (pa_cons (pv 2) (pa1 (pe_tupD pa_nil)))))) (pa1 (pe_tupD pa_nil)))))))))))
      (pss_cons (ps_expr (pe_app K (pv 5) (pa1 (pe_mkISn IN_Extension K_Extension.mg hr.m takes_no (pa_cons pe_str (pa1 (pe_lst pa_nil)))))))
      (pss_cons (ps_if (pt_cmpR op_eq (pe_op op_mod (pe_callTy call_int1 (by rfl) B_int (by decide +kernel) (pa1 (pe_ix (k_ix K) (pv 1) pe_int (fun _ _ => rfl)))) pe_int) pe_int (nomark _))
      (pss_one (ps_asg pe_non (pg_sub (pv 5) pe_int set_list))) pss_nil)
      (pss_cons (psS 6 sc.nd (pe_lst (pa_cons (pe_lst (pa1 (pv 2))) (pa_cons (pe_lst (pa1 (pv 2))) (pa_cons (pe_lst (pa1 (pv 2))) (pa_cons (pe_lst (pa1 (pv 2))) (pa_cons (pe_lst (pa1 (pv 2))) (pa_cons (pe_lst (pa1 (pv 2))) (pa_cons (pe_lst (pa1 (pv 4))) (pa_cons (pe_lst (pa1 (pe_ix (k_ix K) (pv 5) pe_int (fun _ _ => rfl)))) (pa1 (pe_lst (pa1 (pe_ix (k_ix K) (pv 5) pe_int (fun _ _ => rfl)))))))))))))))
      (pss_cons (psS 6 sc.nd (pe_op op_cat (pv 6) (pe_lst (pa1 (pe_lst (pa_cons (pv 2) (pa_cons (pe_tupD (pa_cons (pv 3) (pa1 (pv 2)))) (pa_cons (pe_tupD pa_nil) (pa_cons (pe_ix (k_ix K) (pv 5) pe_int (fun _ _ => rfl)) (pa_cons (pe_ix (k_ix K) (pv 5) pe_int (fun _ _ => rfl)) (pa1 (pe_tupD (pa_cons (pe_ix (k_ix K) (pv 5) pe_int (fun _ _ => rfl)) (pa1 (pe_tupD pa_nil)))))))))))))))
      (pss_cons (ps_expr (pe_app K (pv 6) (pa1 (pe_lst (pa_cons (pv 2) (pa_cons (pe_ix (k_ix K) (pv 5) pe_int (fun _ _ => rfl)) (pa_cons (pe_ix (k_ix K) (pv 5) pe_int (fun _ _ => rfl)) (pa1 (pe_ix (k_ix K) (pv 5) pe_int (fun _ _ => rfl))))))))))
      (pss_cons (ps_expr (pe_app K (pv 6) (pa1 (pe_lst (pa_cons (pv 4) (pa_cons (pe_ix (k_ix K) (pv 5) pe_int (fun _ _ => rfl)) (pa1 (pe_ix (k_ix K) (pv 5) pe_int (fun _ _ => rfl)))))))))
      (pss_cons (ps_for PassesOwn.never rfl (pi_range1 (by rfl) B_range (pa1 pe_int)) (pgN 7 sc.nd)
      (pss_one (ps_if (pt_cmpR (k_neU K (unL (by decide) hr.un)) (pe_fn C__law_raised hr.m (pa_cons (pv 7) (pa1 (pv 5)))) (pe_ix (k_ix K) (pv 6) (pv 7) (fun _ _ => rfl)) (nomark _))
      (pss_one (ps_ret pe_bl)) pss_nil)))
      (pss_one (ps_ret pe_bl)))))))))))))), ?_⟩
  obtain ⟨⟨script1, _⟩, r0, ⟨v_script1, _, rfl, w_script1, rfl⟩, h, k⟩ := h
  have hD := rtF (K := K) k
  refine Sv.run (K := K) (G := ([rc (rQ K rI) script1, none, none, none, none, none, none, none] : Cells K)) ?_ (.ro w_script1 (.skip (.skip (.skip (.skip (.skip (.skip (.skip .nil))))))))
  have h : m_law script1 = .ok r0 := h
  unfold m_law at h
  obtain ⟨t2, e_t2, h⟩ := mb_ok h
  obtain ⟨t3, e_t3, h⟩ := mb_ok h
  refine q_asg (R := (nl K rI)) (b := t3) (b' := t3) ?_ rfl ?_
  · walk_at "ev"
  obtain ⟨t4, e_t4, h⟩ := mb_ok h
  refine q_set (r := rS) (b := t4) (b' := t4) ?_ rfl ?_
  · walk_at "ev"
  obtain ⟨t5, e_t5, h⟩ := mb_ok h
  refine q_set (r := rS) (b := t5) (b' := t5) ?_ rfl ?_
  · walk_at "ev"
  obtain ⟨t6, e_t6, h⟩ := mb_ok h
  obtain ⟨e_u7, h⟩ := mb_chk h
  obtain ⟨number8, e_number8, h⟩ := mb_ok h; have e_number8 := ok_inj e_number8
  refine q_set (r := rI) (b := t6 % ((10 : Int) ^ ((9 : Int)).toNat)) (b' := number8) ?_ e_number8 ?_
  · walk_at "ev"
  obtain ⟨t10, e_t10, h⟩ := mb_ok h
  obtain ⟨t9, e_t9, h⟩ := mb_ok h; have e_t9 := oM_ok e_t9
  have ea : ∀ G : Cells K, G[2]? = some (fc rS t4) → Ev (rU K) (tVar 2) G (dS t4) := fun G h => ev_uS (a_fz h)
  have eb : ∀ G : Cells K, G[3]? = some (fc rS t5) → Ev (rU K) (tVar 3) G (dS t5) := fun G h => ev_uS (a_fz h)
  have en : ∀ G : Cells K, G[4]? = some (fc rI number8) → Ev (rU K) (tVar 4) G (dI number8) := fun G h => ev_uI (a_fz h)
  have ix : ∀ (G : Cells K) (xs : List U), G[5]? = some (some (.ow (nl K (rU K)) xs)) → ∀ (l : Int) (u : U), atI xs l = some u → Ev (rU K) (tOp (rIx K) (tVar 5) (tC (.int l))) G u := fun G xs h l u hu => ev_ixL (a_lst h) ev_int hu
  have two : ∀ x y : PyData, [x, y].length ≤ 12000000 := fun x y => by show 2 ≤ 12000000; omega
  have one : ∀ x : PyData, [x].length ≤ 12000000 := fun x => by show 1 ≤ 12000000; omega
  have nol : ([] : List PyData).length ≤ 12000000 := by show 0 ≤ 12000000; omega
  refine q_asg (R := nl K (rU K)) (b := vals8 t4 t5 number8 (dS t5)) (b' := vals8 t4 t5 number8 (dS t5)) ?_ rfl ?_
  · refine nw_lst (el_cons (ea _ rfl) (el_cons (en _ rfl) (el_cons (ev_uT (ds := [_, _]) (el_cons (ea _ rfl) (el_cons (ev_uT (ds := [_, _]) (el_cons (eb _ rfl) (el_cons (ea _ rfl) el_nil)) (two _ _)) el_nil)) (two _ _)) (el_cons (ev_uT (ds := [_, _]) (el_cons (ev_uS (s := "strike") ?_) (el_cons (en _ rfl) el_nil)) (two _ _)) (el_cons (eb _ rfl) (el_cons (ev_uT (ds := [_, _]) (el_cons (eb _ rfl) (el_cons (eb _ rfl) el_nil)) (two _ _)) (el_cons (ev_uT (ds := [_]) (el_cons (ev_uT (ds := [_, _]) (el_cons (ea _ rfl) (el_cons (ev_uT (ds := []) el_nil nol) el_nil)) (two _ _)) el_nil) (one _)) (el_cons (ev_uT (ds := []) el_nil nol) el_nil)))))))) (by show 8 ≤ 12000000; omega)
    walk_at "ev"
  refine q_appNx (i := 5) (R := (nRec K (cA K "Extension") (fA (fA (fA (fA fN "name" (fz K rS)) "rules" (fz K (rT K (rP K rS (rT K rS))))) "base" (fz K rAny)) "owners" (fz K (rT K rS))))) (b := t10) rfl ?_ ?_ (by show 8 < 12000000; omega) fun p => ?_
  · walk_at "ev"
  · intro H v as hr
    exact nRec_ref hr
  refine q_joinX (m := (.ok (bif decide ((t9 % (3 : Int)) = (0 : Int)) then .inl .none else dS t5) : M U)) (fun e => ([rc (rQ K rI) script1, some (.ow (nl K rI) t3), fc rS t4, fc rS t5, fc rI number8, some (.ow (nl K (rU K)) (vals9 t4 t5 number8 e p)), none, none] : Cells K)) (fun e he => ?_) fun k => ?_
  rotate_left
  · refine q_if (c := (decide ((t9 % (3 : Int)) = (0 : Int)))) ?_ (fun hc => ?_) fun hc => ?_
    · walk_at "ev"
    · refine l_lset (i := 5) (r := rU K) (xs := vals9 t4 t5 number8 (dS t5) p) (n := 4) (j := 4) (x := .inl .none) rfl ev_uN ev_int rfl ?_
      exact k _ (by rw [hc]; rfl)
    · have k := k _ rfl
      rw [hc] at k
      exact fun σ9 H9 hv => k σ9 H9 hv
  have de : dep60 [e] = true := by
    rw [← ok_inj he]
    cases decide ((t9 % (3 : Int)) = (0 : Int)) <;> simp [dep60, PyData.depth]
  refine q_asg (R := nlR K (nl K (rU K))) (b := due9 t4 t5 number8) (b' := due9 t4 t5 number8) ?_ rfl ?_
  · have l1 : ∀ u : U, [u].length ≤ 12000000 := fun u => by show 1 ≤ 12000000; omega
    have la := nw_lst (K := K) (el_cons (ea ([rc (rQ K rI) script1, some (.ow (nl K rI) t3), fc rS t4, fc rS t5, fc rI number8, some (.ow (nl K (rU K)) (vals9 t4 t5 number8 e p)), none, none] : Cells K) rfl) el_nil) (l1 _)
    exact nw_lstR (nl_cons la (nl_cons la (nl_cons la (nl_cons la (nl_cons la (nl_cons la (nl_cons (nw_lst (el_cons (en _ rfl) el_nil) (l1 _)) (nl_cons (nw_lst (el_cons (ix _ (vals9 t4 t5 number8 e p) rfl 2 _ rfl) el_nil) (l1 _)) (nl_cons (nw_lst (el_cons (ix _ (vals9 t4 t5 number8 e p) rfl 3 _ rfl) el_nil) (l1 _)) nl_nil))))))))) (by show 9 ≤ 12000000; omega)
  refine q_catR (i := 6) (R := nl K (rU K)) (b := dueC t4 t5 e) rfl ?_ (by show 9 < 12000000; omega) ?_
  · exact nw_lst (el_cons (ea _ rfl) (el_cons (ev_uT (ds := [_, _]) (el_cons (eb _ rfl) (el_cons (ea _ rfl) el_nil)) (two _ _)) (el_cons (ev_uT (ds := []) el_nil nol) (el_cons (ix _ (vals9 t4 t5 number8 e p) rfl 4 _ rfl) (el_cons (ix _ (vals9 t4 t5 number8 e p) rfl 5 _ rfl) (el_cons (ev_uT (ds := [_, _]) (el_cons (ix _ (vals9 t4 t5 number8 e p) rfl 6 _ rfl) (el_cons (ev_uT (ds := []) el_nil nol) el_nil)) (two _ _)) el_nil)))))) (by show 6 ≤ 12000000; omega)
  refine q_appN (i := 6) (R := nl K (rU K)) (b := [dS t4, .inr p, e, dT [.str t5, .str t5]]) rfl ?_ (by show 10 < 12000000; omega) ?_
  · exact nw_lst (el_cons (ea _ rfl) (el_cons (ix _ (vals9 t4 t5 number8 e p) rfl 8 _ rfl) (el_cons (ix _ (vals9 t4 t5 number8 e p) rfl 4 _ rfl) (el_cons (ix _ (vals9 t4 t5 number8 e p) rfl 5 _ rfl) el_nil)))) (by show 4 ≤ 12000000; omega)
  refine q_appN (i := 6) (R := nl K (rU K)) (b := [dI number8, e, dT [.str t5, .str t5]]) rfl ?_ (by show 11 < 12000000; omega) ?_
  · exact nw_lst (el_cons (en _ rfl) (el_cons (ix _ (vals9 t4 t5 number8 e p) rfl 4 _ rfl) (el_cons (ix _ (vals9 t4 t5 number8 e p) rfl 5 _ rfl) el_nil))) (by show 3 ≤ 12000000; omega)
  refine q_frzR (i := 6) (R := nlR K (nl K (rU K))) (b := due12 t4 t5 number8 e p) (rv := rL (rL (rU K))) rfl (fun H v as h => vw_nlR (fun _ _ _ _ z => vw_nl z) h) ?_
  refine q_forF (r := rI) (G' := ([rc (rQ K rI) script1, some (.ow (nl K rI) t3), fc rS t4, fc rS t5, fc rI number8, some (.ow (nl K (rU K)) (vals9 t4 t5 number8 e p)), rc (rL (rL (rU K))) (due12 t4 t5 number8 e p), none] : Cells K)) (f := fun (_ : Unit) (x : Int) => mb (chk (decide (0 ≤ x ∧ x < 12))) fun _ => (.ok (.nx ()) : M (Fl Unit Bool))) (xs := ups 12) (s0 := ()) (o := .nx ()) (R := fz K rB) (fun _ => ([rc (rQ K rI) script1, some (.ow (nl K rI) t3), fc rS t4, fc rS t5, fc rI number8, some (.ow (nl K (rU K)) (vals9 t4 t5 number8 e p)), rc (rL (rL (rU K))) (due12 t4 t5 number8 e p), none] : Cells K)) nx12 (wk_rng1 (n := 12) ev_int (by decide)) (by walk_at "sub") (fun _ _ => ?_) (fun x hx => nomatch hx) fun H0' D' sm x s o' hf hO => ?_
  · cases h
    refine r_ret hD ?_
    walk_at "ev"
  · obtain ⟨_, c1, hf⟩ := mb_ok hf
    obtain ⟨x0, x1⟩ := of_decide_eq_true (chk_ok c1)
    cases hf
    obtain ⟨u, u1, u2, u3⟩ := due_ok (a := t4) (b := t5) (n := number8) (p := p) de x0 x1
    refine ⟨_, tg_name, l_if (c := false) (et_test (a_neU (us := u) (a_nl (a_ncallM (g := (x, (vals9 t4 t5 number8 e p, ()))) (ea_cons (a_fz rfl) (ea_cons (a_lst rfl) ea_nil)) u2)) (ev_ixL (a_ro (by rfl)) (a_fz rfl) u1) u3)) (fun hc => nomatch hc) fun _ => ?_⟩
    exact fun σ9 H9 hv => hO σ9 H9 (hv.less (by walk_at "sub"))
theorem xs_BadName : XStat s_BadName___init__ "BadName.__init__" "name" := ⟨⟨_, _, _, _, _, _, _, _, _, _, _, _, rfl, fun _ _ _ _ => ⟨_, rfl⟩, fun _ _ _ _ => rfl, fun _ _ _ _ => rfl⟩, ⟨_, rfl, rfl⟩, fun _ _ _ _ _ _ _ _ _ => .of_eq rfl, rfl, rfl, rfl, rfl, rfl, rfl, rfl, by decide +kernel, by decide, by decide⟩
theorem xs_BadMark : XStat s_BadMark___init__ "BadMark.__init__" "rule" := ⟨⟨_, _, _, _, _, _, _, _, _, _, _, _, rfl, fun _ _ _ _ => ⟨_, rfl⟩, fun _ _ _ _ => rfl, fun _ _ _ _ => rfl⟩, ⟨_, rfl, rfl⟩, fun _ _ _ _ _ _ _ _ _ => .of_eq rfl, rfl, rfl, rfl, rfl, rfl, rfl, rfl, by decide +kernel, by decide, by decide⟩
theorem xs_NoRule : XStat s_NoRule___init__ "NoRule.__init__" "name" := ⟨⟨_, _, _, _, _, _, _, _, _, _, _, _, rfl, fun _ _ _ _ => ⟨_, rfl⟩, fun _ _ _ _ => rfl, fun _ _ _ _ => rfl⟩, ⟨_, rfl, rfl⟩, fun _ _ _ _ _ _ _ _ _ => .of_eq rfl, rfl, rfl, rfl, rfl, rfl, rfl, rfl, by decide +kernel, by decide, by decide⟩
theorem xs_Useless : XStat s_Useless___init__ "Useless.__init__" "name" := ⟨⟨_, _, _, _, _, _, _, _, _, _, _, _, rfl, fun _ _ _ _ => ⟨_, rfl⟩, fun _ _ _ _ => rfl, fun _ _ _ _ => rfl⟩, ⟨_, rfl, rfl⟩, fun _ _ _ _ _ _ _ _ _ => .of_eq rfl, rfl, rfl, rfl, rfl, rfl, rfl, rfl, by decide +kernel, by decide, by decide⟩
theorem xs_SameName : XStat s_SameName___init__ "SameName.__init__" "name" := ⟨⟨_, _, _, _, _, _, _, _, _, _, _, _, rfl, fun _ _ _ _ => ⟨_, rfl⟩, fun _ _ _ _ => rfl, fun _ _ _ _ => rfl⟩, ⟨_, rfl, rfl⟩, fun _ _ _ _ _ _ _ _ _ => .of_eq rfl, rfl, rfl, rfl, rfl, rfl, rfl, rfl, by decide +kernel, by decide, by decide⟩
theorem xs_Hollow : XStat s_Hollow___init__ "Hollow.__init__" "name" := ⟨⟨_, _, _, _, _, _, _, _, _, _, _, _, rfl, fun _ _ _ _ => ⟨_, rfl⟩, fun _ _ _ _ => rfl, fun _ _ _ _ => rfl⟩, ⟨_, rfl, rfl⟩, fun _ _ _ _ _ _ _ _ _ => .of_eq rfl, rfl, rfl, rfl, rfl, rfl, rfl, rfl, by decide +kernel, by decide, by decide⟩
theorem xs_UnknownName : XStat s_UnknownName___init__ "UnknownName.__init__" "name" := ⟨⟨_, _, _, _, _, _, _, _, _, _, _, _, rfl, fun _ _ _ _ => ⟨_, rfl⟩, fun _ _ _ _ => rfl, fun _ _ _ _ => rfl⟩, ⟨_, rfl, rfl⟩, fun _ _ _ _ _ _ _ _ _ => .of_eq rfl, rfl, rfl, rfl, rfl, rfl, rfl, rfl, by decide +kernel, by decide, by decide⟩
theorem xs_BadLine : XStat s_BadLine___init__ "BadLine.__init__" "number" := ⟨⟨_, _, _, _, _, _, _, _, _, _, _, _, rfl, fun _ _ _ _ => ⟨_, rfl⟩, fun _ _ _ _ => rfl, fun _ _ _ _ => rfl⟩, ⟨_, rfl, rfl⟩, fun _ _ _ _ _ _ _ _ _ => .of_eq rfl, rfl, rfl, rfl, rfl, rfl, rfl, rfl, by decide +kernel, by decide, by decide⟩
theorem xs_BadMend : XStat s_BadMend___init__ "BadMend.__init__" "mend" := ⟨⟨_, _, _, _, _, _, _, _, _, _, _, _, rfl, fun _ _ _ _ => ⟨_, rfl⟩, fun _ _ _ _ => rfl, fun _ _ _ _ => rfl⟩, ⟨_, rfl, rfl⟩, fun _ _ _ _ _ _ _ _ _ => .of_eq rfl, rfl, rfl, rfl, rfl, rfl, rfl, rfl, by decide +kernel, by decide, by decide⟩
theorem xs_Clash : XStatN s_Clash___init__ "Clash.__init__" ["head", "one", "other", "token", "beginning", "runs"] := ⟨⟨_, _, _, _, _, _, _, _, _, _, _, _, _, _, _, rfl, fun _ _ _ _ => ⟨_, rfl⟩, fun _ _ _ _ => rfl, rfl, fun _ _ _ _ => rfl, rfl, by decide, fun _ => .cons (fun _ _ _ => rfl) rfl (by decide) (.cons (fun _ _ _ => rfl) rfl (by decide) (.cons (fun _ _ _ => rfl) rfl (by decide) (.cons (fun _ _ _ => rfl) rfl (by decide) (.cons (fun _ _ _ => rfl) rfl (by decide) (.nil)))))⟩, ⟨_, rfl, rfl⟩, (fun _ _ _ _ _ _ _ _ vs h => match vs, h with | [_, _, _, _, _, _], _ => .of_eq rfl), rfl, rfl, rfl, rfl, rfl, rfl, al_cons rfl (al_cons rfl (al_cons rfl (al_cons rfl (al_cons rfl (al_cons rfl (al_nil)))))), by decide +kernel, by decide +kernel, by decide⟩
theorem xs_Refused : XStatN s_Refused___init__ "Refused.__init__" ["guest", "rival", "token", "beginning"] := ⟨⟨_, _, _, _, _, _, _, _, _, _, _, _, _, _, _, rfl, fun _ _ _ _ => ⟨_, rfl⟩, fun _ _ _ _ => rfl, rfl, fun _ _ _ _ => rfl, rfl, by decide, fun _ => .cons (fun _ _ _ => rfl) rfl (by decide) (.cons (fun _ _ _ => rfl) rfl (by decide) (.cons (fun _ _ _ => rfl) rfl (by decide) (.nil)))⟩, ⟨_, rfl, rfl⟩, (fun _ _ _ _ _ _ _ _ vs h => match vs, h with | [_, _, _, _], _ => .of_eq rfl), rfl, rfl, rfl, rfl, rfl, rfl, al_cons rfl (al_cons rfl (al_cons rfl (al_cons rfl (al_nil)))), by decide +kernel, by decide +kernel, by decide⟩
theorem xs_WrongToken : XStatN s_WrongToken___init__ "WrongToken.__init__" ["index", "token", "expected"] := ⟨⟨_, _, _, _, _, _, _, _, _, _, _, _, _, _, _, rfl, fun _ _ _ _ => ⟨_, rfl⟩, fun _ _ _ _ => rfl, rfl, fun _ _ _ _ => rfl, rfl, by decide, fun _ => .cons (fun _ _ _ => rfl) rfl (by decide) (.cons (fun _ _ _ => rfl) rfl (by decide) (.nil))⟩, ⟨_, rfl, rfl⟩, (fun _ _ _ _ _ _ _ _ vs h => match vs, h with | [_, _, _], _ => .of_eq rfl), rfl, rfl, rfl, rfl, rfl, rfl, al_cons rfl (al_cons rfl (al_cons rfl (al_nil))), by decide +kernel, by decide +kernel, by decide⟩
theorem naD {K : PySem.W.Frag} {C : Addr} {f : Str} {l : List Bool} (h : l.all id = true) (i : Nat) (e : l[i]? = some (decide (PySem.W.findIn K (.ref C) f = some none))) : NoAttr K C f := aD (p := PySem.W.findIn K (.ref C) f = some none) h i e
set_option maxHeartbeats 0 in
theorem heads {w : World} {K : PySem.W.Frag} {h : Heap} {mg : Str → Option Value} {fa : Addr} (X : K.In h) (G : h.Ns mainGlobals mg) (hfa : mg "law" = some (.ref fa)) (c : SaysY (fun K => (gbs K).all id) dts K) :
    ∃ fd : FuncData, (∀ (s : Shared) (v : Value), BindsTo s fd ⟨[v], []⟩ [("_law_script", v)]) ∧ ∀ base : Heap, K.In base → base.Ns mainGlobals mg → FnOk P0 w K mg base CX0 6 fa fd ["_law_script"] (sp_law K) := by
  have b0 : (gb0 K).all id = true := c.fact (fa := gbs) 0 rfl
  have b1 : (gb1 K).all id = true := c.fact (fa := gbs) 1 rfl
  have b2 : (gb2 K).all id = true := c.fact (fa := gbs) 2 rfl
  have b3 : (gb3 K).all id = true := c.fact (fa := gbs) 3 rfl
  have b4 : (gb4 K).all id = true := c.fact (fa := gbs) 4 rfl
  have b5 : (gb5 K).all id = true := c.fact (fa := gbs) 5 rfl
  have b6 : (gb6 K).all id = true := c.fact (fa := gbs) 6 rfl
  have b7 : (gb7 K).all id = true := c.fact (fa := gbs) 7 rfl
  have b8 : (gb8 K).all id = true := c.fact (fa := gbs) 8 rfl
  have b9 : (gb9 K).all id = true := c.fact (fa := gbs) 9 rfl
  have b10 : (gb10 K).all id = true := c.fact (fa := gbs) 10 rfl
  have b11 : (gb11 K).all id = true := c.fact (fa := gbs) 11 rfl
  have b12 : (gb12 K).all id = true := c.fact (fa := gbs) 12 rfl
  have b13 : (gb13 K).all id = true := c.fact (fa := gbs) 13 rfl
  have b14 : (gb14 K).all id = true := c.fact (fa := gbs) 14 rfl
  have b15 : (gb15 K).all id = true := c.fact (fa := gbs) 15 rfl
  have b16 : (gb16 K).all id = true := c.fact (fa := gbs) 16 rfl
  have b17 : (gb17 K).all id = true := c.fact (fa := gbs) 17 rfl
  have b18 : (gb18 K).all id = true := c.fact (fa := gbs) 18 rfl
  have b19 : (gb19 K).all id = true := c.fact (fa := gbs) 19 rfl
  have b20 : (gb20 K).all id = true := c.fact (fa := gbs) 20 rfl
  have b21 : (gb21 K).all id = true := c.fact (fa := gbs) 21 rfl
  have b22 : (gb22 K).all id = true := c.fact (fa := gbs) 22 rfl
  have b23 : (gb23 K).all id = true := c.fact (fa := gbs) 23 rfl
  have b24 : (gb24 K).all id = true := c.fact (fa := gbs) 24 rfl
  have b25 : (gb25 K).all id = true := c.fact (fa := gbs) 25 rfl
  have b26 : (gb26 K).all id = true := c.fact (fa := gbs) 26 rfl
  have b27 : (gb27 K).all id = true := c.fact (fa := gbs) 27 rfl
  have b28 : (gb28 K).all id = true := c.fact (fa := gbs) 28 rfl
  have b29 : (gb29 K).all id = true := c.fact (fa := gbs) 29 rfl
  have b30 : (gb30 K).all id = true := c.fact (fa := gbs) 30 rfl
  have b31 : (gb31 K).all id = true := c.fact (fa := gbs) 31 rfl
  have b32 : (gb32 K).all id = true := c.fact (fa := gbs) 32 rfl
  have b33 : (gb33 K).all id = true := c.fact (fa := gbs) 33 rfl
  have b34 : (gb34 K).all id = true := c.fact (fa := gbs) 34 rfl
  have b35 : (gb35 K).all id = true := c.fact (fa := gbs) 35 rfl
  have b36 : (gb36 K).all id = true := c.fact (fa := gbs) 36 rfl
  have b37 : (gb37 K).all id = true := c.fact (fa := gbs) 37 rfl
  obtain ⟨oc0, od0, kV0, dc0, pm0, an0, cd0, ct0, sl0, l0, c0⟩ := fn_0 (d := dt0) (c.dat 0 rfl) rfl (atB b0 0 rfl)
  obtain ⟨oc1, od1, kV1, dc1, pm1, an1, cd1, ct1, sl1, l1, c1⟩ := fn_0 (d := dt1) (c.dat 1 rfl) rfl (atB b0 1 rfl)
  obtain ⟨oc2, od2, kV2, dc2, pm2, an2, cd2, ct2, sl2, l2, c2⟩ := fn_0 (d := dt2) (c.dat 2 rfl) rfl (atB b0 2 rfl)
  obtain ⟨oc3, od3, kV3, dc3, pm3, an3, cd3, ct3, sl3, l3, c3⟩ := fn_0 (d := dt3) (c.dat 3 rfl) rfl (atB b0 3 rfl)
  obtain ⟨oc4, od4, kV4, dc4, pm4, an4, cd4, ct4, sl4, l4, c4⟩ := fn_0 (d := dt4) (c.dat 4 rfl) rfl (atB b0 4 rfl)
  obtain ⟨oc5, od5, kV5, dc5, pm5, an5, cd5, ct5, sl5, l5, c5⟩ := fn_0 (d := dt5) (c.dat 5 rfl) rfl (atB b0 5 rfl)
  obtain ⟨oc6, od6, kV6, dc6, pm6, an6, cd6, ct6, sl6, l6, c6⟩ := fn_0 (d := dt6) (c.dat 6 rfl) rfl (atB b0 6 rfl)
  obtain ⟨oc7, od7, kV7, dc7, pm7, an7, cd7, ct7, sl7, l7, c7⟩ := fn_0 (d := dt7) (c.dat 7 rfl) rfl (atB b0 7 rfl)
  obtain ⟨oc8, od8, kV8, dc8, pm8, an8, cd8, ct8, sl8, l8, c8⟩ := fn_0 (d := dt8) (c.dat 8 rfl) rfl (atB b0 8 rfl)
  obtain ⟨oc9, od9, kV9, dc9, pm9, an9, cd9, ct9, sl9, l9, c9⟩ := fn_0 (d := dt9) (c.dat 9 rfl) rfl (atB b0 9 rfl)
  obtain ⟨oc10, od10, kV10, dc10, pm10, an10, cd10, ct10, sl10, l10, c10⟩ := fn_0 (d := dt10) (c.dat 10 rfl) rfl (atB b0 10 rfl)
  obtain ⟨oc11, od11, kV11, dc11, pm11, an11, cd11, ct11, sl11, l11, c11⟩ := fn_0 (d := dt11) (c.dat 11 rfl) rfl (atB b0 11 rfl)
  obtain ⟨oc12, od12, kV12, dc12, pm12, an12, cd12, ct12, sl12, l12, c12⟩ := fn_0 (d := dt12) (c.dat 12 rfl) rfl (atB b0 12 rfl)
  obtain ⟨oc13, od13, kV13, dc13, pm13, an13, cd13, ct13, sl13, l13, c13⟩ := fn_0 (d := dt13) (c.dat 13 rfl) rfl (atB b0 13 rfl)
  obtain ⟨oc14, od14, kV14, dc14, pm14, an14, cd14, ct14, sl14, l14, c14⟩ := fn_0 (d := dt14) (c.dat 14 rfl) rfl (atB b0 14 rfl)
  obtain ⟨oc15, od15, kV15, dc15, pm15, an15, cd15, ct15, sl15, l15, c15⟩ := fn_0 (d := dt15) (c.dat 15 rfl) rfl (atB b0 15 rfl)
  obtain ⟨oc16, od16, kV16, dc16, pm16, an16, cd16, ct16, sl16, l16, c16⟩ := fn_0 (d := dt16) (c.dat 16 rfl) rfl (atB b0 16 rfl)
  obtain ⟨oc17, od17, kV17, dc17, pm17, an17, cd17, ct17, sl17, l17, c17⟩ := fn_0 (d := dt17) (c.dat 17 rfl) rfl (atB b0 17 rfl)
  obtain ⟨oc18, od18, kV18, dc18, pm18, an18, cd18, ct18, sl18, l18, c18⟩ := fn_0 (d := dt18) (c.dat 18 rfl) rfl (atB b0 18 rfl)
  obtain ⟨oc19, od19, KD19, dc19, pm19, an19, cd19, ct19, sl19, l19, c19, x_k19⟩ := fn_K (d := dt19) (c.dat 19 rfl) rfl (atB b0 19 rfl)
  obtain ⟨x_BadLine_nm, x_BadLine_q, x_BadLine_N, x_BadLine_bs, x_BadLine_bm, x_BadLine_sn, x_BadLine_sub, x_BadLine_ab, x_BadLine_col, x_BadLine_dd, x_BadLine_k0, x_BadLine_k1, x_BadLine_k2, x_BadLine_k3, x_BadLine_k5, x_BadLine_h, x_BadLine_bmE⟩ := okC_at (atB b1 0 rfl)
  obtain ⟨x_BadLine_oc, x_BadLine_od, x_BadLine_dc, x_BadLine_pm, x_BadLine_an, x_BadLine_cd, x_BadLine_ct, x_BadLine_cc, x_BadLine_osl, x_BadLine_cl, x_BadLine_cld, x_BadLine_csl, x_BadLine_cl2, x_BadLine_cld2, x_BadLine_vs, x_BadLine_csl2, x_BadLine_file, x_BadLine_tf, x_BadLine_lf, x_BadLine_hc, x_BadLine_lc, x_BadLine_lo, x_BadLine_hv, x_BadLine_hf⟩ := fn_X (d := dt20) (c.dat 20 rfl) rfl (atB b1 1 rfl)
  obtain ⟨x_BadMark_nm, x_BadMark_q, x_BadMark_N, x_BadMark_bs, x_BadMark_bm, x_BadMark_sn, x_BadMark_sub, x_BadMark_ab, x_BadMark_col, x_BadMark_dd, x_BadMark_k0, x_BadMark_k1, x_BadMark_k2, x_BadMark_k3, x_BadMark_k5, x_BadMark_h, x_BadMark_bmE⟩ := okC_at (atB b1 2 rfl)
  obtain ⟨x_BadMark_oc, x_BadMark_od, x_BadMark_dc, x_BadMark_pm, x_BadMark_an, x_BadMark_cd, x_BadMark_ct, x_BadMark_cc, x_BadMark_osl, x_BadMark_cl, x_BadMark_cld, x_BadMark_csl, x_BadMark_cl2, x_BadMark_cld2, x_BadMark_vs, x_BadMark_csl2, x_BadMark_file, x_BadMark_tf, x_BadMark_lf, x_BadMark_hc, x_BadMark_lc, x_BadMark_lo, x_BadMark_hv, x_BadMark_hf⟩ := fn_X (d := dt21) (c.dat 21 rfl) rfl (atB b1 3 rfl)
  obtain ⟨x_BadMend_nm, x_BadMend_q, x_BadMend_N, x_BadMend_bs, x_BadMend_bm, x_BadMend_sn, x_BadMend_sub, x_BadMend_ab, x_BadMend_col, x_BadMend_dd, x_BadMend_k0, x_BadMend_k1, x_BadMend_k2, x_BadMend_k3, x_BadMend_k5, x_BadMend_h, x_BadMend_bmE⟩ := okC_at (atB b1 4 rfl)
  obtain ⟨x_BadMend_oc, x_BadMend_od, x_BadMend_dc, x_BadMend_pm, x_BadMend_an, x_BadMend_cd, x_BadMend_ct, x_BadMend_cc, x_BadMend_osl, x_BadMend_cl, x_BadMend_cld, x_BadMend_csl, x_BadMend_cl2, x_BadMend_cld2, x_BadMend_vs, x_BadMend_csl2, x_BadMend_file, x_BadMend_tf, x_BadMend_lf, x_BadMend_hc, x_BadMend_lc, x_BadMend_lo, x_BadMend_hv, x_BadMend_hf⟩ := fn_X (d := dt22) (c.dat 22 rfl) rfl (atB b1 5 rfl)
  obtain ⟨x_BadName_nm, x_BadName_q, x_BadName_N, x_BadName_bs, x_BadName_bm, x_BadName_sn, x_BadName_sub, x_BadName_ab, x_BadName_col, x_BadName_dd, x_BadName_k0, x_BadName_k1, x_BadName_k2, x_BadName_k3, x_BadName_k5, x_BadName_h, x_BadName_bmE⟩ := okC_at (atB b1 6 rfl)
  obtain ⟨x_BadName_oc, x_BadName_od, x_BadName_dc, x_BadName_pm, x_BadName_an, x_BadName_cd, x_BadName_ct, x_BadName_cc, x_BadName_osl, x_BadName_cl, x_BadName_cld, x_BadName_csl, x_BadName_cl2, x_BadName_cld2, x_BadName_vs, x_BadName_csl2, x_BadName_file, x_BadName_tf, x_BadName_lf, x_BadName_hc, x_BadName_lc, x_BadName_lo, x_BadName_hv, x_BadName_hf⟩ := fn_X (d := dt23) (c.dat 23 rfl) rfl (atB b1 7 rfl)
  obtain ⟨x_Clash_nm, x_Clash_q, x_Clash_N, x_Clash_bs, x_Clash_bm, x_Clash_sn, x_Clash_sub, x_Clash_ab, x_Clash_col, x_Clash_dd, x_Clash_k0, x_Clash_k1, x_Clash_k2, x_Clash_k3, x_Clash_k5, x_Clash_h, x_Clash_bmE⟩ := okC_at (atB b1 8 rfl)
  obtain ⟨x_Clash_oc, x_Clash_od, x_Clash_dc, x_Clash_pm, x_Clash_an, x_Clash_cd, x_Clash_ct, x_Clash_cc, x_Clash_osl, x_Clash_cl, x_Clash_cld, x_Clash_csl, x_Clash_cl2, x_Clash_cld2, x_Clash_vs, x_Clash_csl2, x_Clash_file, x_Clash_tf, x_Clash_lf, x_Clash_hc, x_Clash_lc, x_Clash_lo, x_Clash_hv, x_Clash_hf⟩ := fn_X (d := dt24) (c.dat 24 rfl) rfl (atB b1 9 rfl)
  obtain ⟨x_Hollow_nm, x_Hollow_q, x_Hollow_N, x_Hollow_bs, x_Hollow_bm, x_Hollow_sn, x_Hollow_sub, x_Hollow_ab, x_Hollow_col, x_Hollow_dd, x_Hollow_k0, x_Hollow_k1, x_Hollow_k2, x_Hollow_k3, x_Hollow_k5, x_Hollow_h, x_Hollow_bmE⟩ := okC_at (atB b1 10 rfl)
  obtain ⟨x_Hollow_oc, x_Hollow_od, x_Hollow_dc, x_Hollow_pm, x_Hollow_an, x_Hollow_cd, x_Hollow_ct, x_Hollow_cc, x_Hollow_osl, x_Hollow_cl, x_Hollow_cld, x_Hollow_csl, x_Hollow_cl2, x_Hollow_cld2, x_Hollow_vs, x_Hollow_csl2, x_Hollow_file, x_Hollow_tf, x_Hollow_lf, x_Hollow_hc, x_Hollow_lc, x_Hollow_lo, x_Hollow_hv, x_Hollow_hf⟩ := fn_X (d := dt25) (c.dat 25 rfl) rfl (atB b1 11 rfl)
  obtain ⟨x_NoRule_nm, x_NoRule_q, x_NoRule_N, x_NoRule_bs, x_NoRule_bm, x_NoRule_sn, x_NoRule_sub, x_NoRule_ab, x_NoRule_col, x_NoRule_dd, x_NoRule_k0, x_NoRule_k1, x_NoRule_k2, x_NoRule_k3, x_NoRule_k5, x_NoRule_h, x_NoRule_bmE⟩ := okC_at (atB b1 12 rfl)
  obtain ⟨x_NoRule_oc, x_NoRule_od, x_NoRule_dc, x_NoRule_pm, x_NoRule_an, x_NoRule_cd, x_NoRule_ct, x_NoRule_cc, x_NoRule_osl, x_NoRule_cl, x_NoRule_cld, x_NoRule_csl, x_NoRule_cl2, x_NoRule_cld2, x_NoRule_vs, x_NoRule_csl2, x_NoRule_file, x_NoRule_tf, x_NoRule_lf, x_NoRule_hc, x_NoRule_lc, x_NoRule_lo, x_NoRule_hv, x_NoRule_hf⟩ := fn_X (d := dt26) (c.dat 26 rfl) rfl (atB b1 13 rfl)
  obtain ⟨x_Refused_nm, x_Refused_q, x_Refused_N, x_Refused_bs, x_Refused_bm, x_Refused_sn, x_Refused_sub, x_Refused_ab, x_Refused_col, x_Refused_dd, x_Refused_k0, x_Refused_k1, x_Refused_k2, x_Refused_k3, x_Refused_k5, x_Refused_h, x_Refused_bmE⟩ := okC_at (atB b1 14 rfl)
  obtain ⟨x_Refused_oc, x_Refused_od, x_Refused_dc, x_Refused_pm, x_Refused_an, x_Refused_cd, x_Refused_ct, x_Refused_cc, x_Refused_osl, x_Refused_cl, x_Refused_cld, x_Refused_csl, x_Refused_cl2, x_Refused_cld2, x_Refused_vs, x_Refused_csl2, x_Refused_file, x_Refused_tf, x_Refused_lf, x_Refused_hc, x_Refused_lc, x_Refused_lo, x_Refused_hv, x_Refused_hf⟩ := fn_X (d := dt27) (c.dat 27 rfl) rfl (atB b1 15 rfl)
  obtain ⟨x_SameName_nm, x_SameName_q, x_SameName_N, x_SameName_bs, x_SameName_bm, x_SameName_sn, x_SameName_sub, x_SameName_ab, x_SameName_col, x_SameName_dd, x_SameName_k0, x_SameName_k1, x_SameName_k2, x_SameName_k3, x_SameName_k5, x_SameName_h, x_SameName_bmE⟩ := okC_at (atB b1 16 rfl)
  obtain ⟨x_SameName_oc, x_SameName_od, x_SameName_dc, x_SameName_pm, x_SameName_an, x_SameName_cd, x_SameName_ct, x_SameName_cc, x_SameName_osl, x_SameName_cl, x_SameName_cld, x_SameName_csl, x_SameName_cl2, x_SameName_cld2, x_SameName_vs, x_SameName_csl2, x_SameName_file, x_SameName_tf, x_SameName_lf, x_SameName_hc, x_SameName_lc, x_SameName_lo, x_SameName_hv, x_SameName_hf⟩ := fn_X (d := dt28) (c.dat 28 rfl) rfl (atB b1 17 rfl)
  obtain ⟨x_UnknownName_nm, x_UnknownName_q, x_UnknownName_N, x_UnknownName_bs, x_UnknownName_bm, x_UnknownName_sn, x_UnknownName_sub, x_UnknownName_ab, x_UnknownName_col, x_UnknownName_dd, x_UnknownName_k0, x_UnknownName_k1, x_UnknownName_k2, x_UnknownName_k3, x_UnknownName_k5, x_UnknownName_h, x_UnknownName_bmE⟩ := okC_at (atB b1 18 rfl)
  obtain ⟨x_UnknownName_oc, x_UnknownName_od, x_UnknownName_dc, x_UnknownName_pm, x_UnknownName_an, x_UnknownName_cd, x_UnknownName_ct, x_UnknownName_cc, x_UnknownName_osl, x_UnknownName_cl, x_UnknownName_cld, x_UnknownName_csl, x_UnknownName_cl2, x_UnknownName_cld2, x_UnknownName_vs, x_UnknownName_csl2, x_UnknownName_file, x_UnknownName_tf, x_UnknownName_lf, x_UnknownName_hc, x_UnknownName_lc, x_UnknownName_lo, x_UnknownName_hv, x_UnknownName_hf⟩ := fn_X (d := dt29) (c.dat 29 rfl) rfl (atB b1 19 rfl)
  obtain ⟨x_Useless_nm, x_Useless_q, x_Useless_N, x_Useless_bs, x_Useless_bm, x_Useless_sn, x_Useless_sub, x_Useless_ab, x_Useless_col, x_Useless_dd, x_Useless_k0, x_Useless_k1, x_Useless_k2, x_Useless_k3, x_Useless_k5, x_Useless_h, x_Useless_bmE⟩ := okC_at (atB b2 0 rfl)
  obtain ⟨x_Useless_oc, x_Useless_od, x_Useless_dc, x_Useless_pm, x_Useless_an, x_Useless_cd, x_Useless_ct, x_Useless_cc, x_Useless_osl, x_Useless_cl, x_Useless_cld, x_Useless_csl, x_Useless_cl2, x_Useless_cld2, x_Useless_vs, x_Useless_csl2, x_Useless_file, x_Useless_tf, x_Useless_lf, x_Useless_hc, x_Useless_lc, x_Useless_lo, x_Useless_hv, x_Useless_hf⟩ := fn_X (d := dt30) (c.dat 30 rfl) rfl (atB b2 1 rfl)
  obtain ⟨x_WrongToken_nm, x_WrongToken_q, x_WrongToken_N, x_WrongToken_bs, x_WrongToken_bm, x_WrongToken_sn, x_WrongToken_sub, x_WrongToken_ab, x_WrongToken_col, x_WrongToken_dd, x_WrongToken_k0, x_WrongToken_k1, x_WrongToken_k2, x_WrongToken_k3, x_WrongToken_k5, x_WrongToken_h, x_WrongToken_bmE⟩ := okC_at (atB b2 2 rfl)
  obtain ⟨x_WrongToken_oc, x_WrongToken_od, x_WrongToken_dc, x_WrongToken_pm, x_WrongToken_an, x_WrongToken_cd, x_WrongToken_ct, x_WrongToken_cc, x_WrongToken_osl, x_WrongToken_cl, x_WrongToken_cld, x_WrongToken_csl, x_WrongToken_cl2, x_WrongToken_cld2, x_WrongToken_vs, x_WrongToken_csl2, x_WrongToken_file, x_WrongToken_tf, x_WrongToken_lf, x_WrongToken_hc, x_WrongToken_lc, x_WrongToken_lo, x_WrongToken_hv, x_WrongToken_hf⟩ := fn_X (d := dt31) (c.dat 31 rfl) rfl (atB b2 3 rfl)
  obtain ⟨tc0, mc0⟩ := intB_ok (atB b6 9 rfl)
  obtain ⟨tc1, mc1⟩ := strB_ok (atB b6 10 rfl)
  have e : some (Value.ref fa) = some (.ref (cA K "law")) := hfa.symm.trans (PySem.W.mg_of X G (aD b5 7 rfl))
  cases e
  refine ⟨PySem.W.fnOf "law" "law" (defArgs s_law) (defBody s_law) (defScope s_law) .none kV16 dc16 pm16 an16 cd16 ct16, fun s v => .of_eq rfl, fun base _ _ => ?_⟩
  have K_Named : ClsF K mg "Named" := ⟨⟨(atB b2 5 rfl), (atB b2 6 rfl), (atB b2 7 rfl), (aD b2 8 rfl)⟩, PySem.W.mg_of X G (aD b2 4 rfl), (atB b2 9 rfl), (atB b2 10 rfl), (atB b2 11 rfl), (atB b2 12 rfl)⟩
  have K_Extension : ClsF K mg "Extension" := ⟨⟨(atB b2 14 rfl), (atB b2 15 rfl), (atB b2 16 rfl), (aD b2 17 rfl)⟩, PySem.W.mg_of X G (aD b2 13 rfl), (atB b2 18 rfl), (atB b2 19 rfl), (atB b3 0 rfl), (atB b3 1 rfl)⟩
  have K_Ruled : ClsF K mg "Ruled" := ⟨⟨(atB b3 3 rfl), (atB b3 4 rfl), (atB b3 5 rfl), (aD b3 6 rfl)⟩, PySem.W.mg_of X G (aD b3 2 rfl), (atB b3 7 rfl), (atB b3 8 rfl), (atB b3 9 rfl), (atB b3 10 rfl)⟩
  have N_Extension_name : NoAttr K (cA K "Extension") "name" := (naD b3 11 rfl)
  have N_Extension_rules : NoAttr K (cA K "Extension") "rules" := (naD b3 12 rfl)
  have N_Extension_owners : NoAttr K (cA K "Extension") "owners" := (naD b3 13 rfl)
  have N_Extension_base : NoAttr K (cA K "Extension") "base" := (naD b3 14 rfl)
  have E_BadName : ExcK P0 K mg "BadName" "name" := ⟨_, excT_of xs_BadName (PySem.W.mg_of X G (aD b6 11 rfl)) x_BadName_h x_BadName_bmE (aD b6 12 rfl) (aD b6 13 rfl) (aD b6 14 rfl) (aD b6 15 rfl) (aD b6 16 rfl) (aD b6 17 rfl) (atB b6 18 rfl) (aD b6 19 rfl) (aD b7 0 rfl) (atB b7 1 rfl) (aD b7 2 rfl) (aD b7 3 rfl) (aD b7 4 rfl) (aD b7 5 rfl) (PySem.W.mg_none_of X G (aD b7 6 rfl)) x_BadName_lf x_BadName_hc x_BadName_lc x_BadName_lo x_BadName_hv x_BadName_hf (by first | rfl | decide +kernel)⟩
  have T_BadName : CatC K mg "BadName" "name" := ⟨PySem.W.mg_of X G (aD b6 11 rfl), exm_self (aD b6 19 rfl) (atB b7 7 rfl) (aD b7 0 rfl) (aD b7 8 rfl), ⟨(aD b6 13 rfl), (aD b6 14 rfl), (aD b6 19 rfl), (atB b7 1 rfl)⟩, (aD b6 15 rfl), ⟨(aD b6 13 rfl), (aD b6 14 rfl), (aD b6 19 rfl), (atB b7 1 rfl), (aD b7 9 rfl), (aD b7 10 rfl), (aD b7 11 rfl), (aD b7 12 rfl)⟩⟩
  have E_BadMark : ExcK P0 K mg "BadMark" "rule" := ⟨_, excT_of xs_BadMark (PySem.W.mg_of X G (aD b7 13 rfl)) x_BadMark_h x_BadMark_bmE (aD b7 14 rfl) (aD b7 15 rfl) (aD b7 16 rfl) (aD b7 17 rfl) (aD b7 18 rfl) (aD b7 19 rfl) (atB b8 0 rfl) (aD b8 1 rfl) (aD b8 2 rfl) (atB b8 3 rfl) (aD b8 4 rfl) (aD b8 5 rfl) (aD b8 6 rfl) (aD b8 7 rfl) (PySem.W.mg_none_of X G (aD b8 8 rfl)) x_BadMark_lf x_BadMark_hc x_BadMark_lc x_BadMark_lo x_BadMark_hv x_BadMark_hf (by first | rfl | decide +kernel)⟩
  have T_BadMark : CatC K mg "BadMark" "rule" := ⟨PySem.W.mg_of X G (aD b7 13 rfl), exm_self (aD b8 1 rfl) (atB b8 9 rfl) (aD b8 2 rfl) (aD b8 10 rfl), ⟨(aD b7 15 rfl), (aD b7 16 rfl), (aD b8 1 rfl), (atB b8 3 rfl)⟩, (aD b7 17 rfl), ⟨(aD b7 15 rfl), (aD b7 16 rfl), (aD b8 1 rfl), (atB b8 3 rfl), (aD b8 11 rfl), (aD b8 12 rfl), (aD b8 13 rfl), (aD b8 14 rfl)⟩⟩
  have E_NoRule : ExcK P0 K mg "NoRule" "name" := ⟨_, excT_of xs_NoRule (PySem.W.mg_of X G (aD b8 15 rfl)) x_NoRule_h x_NoRule_bmE (aD b8 16 rfl) (aD b8 17 rfl) (aD b8 18 rfl) (aD b8 19 rfl) (aD b9 0 rfl) (aD b9 1 rfl) (atB b9 2 rfl) (aD b9 3 rfl) (aD b9 4 rfl) (atB b9 5 rfl) (aD b9 6 rfl) (aD b9 7 rfl) (aD b9 8 rfl) (aD b9 9 rfl) (PySem.W.mg_none_of X G (aD b9 10 rfl)) x_NoRule_lf x_NoRule_hc x_NoRule_lc x_NoRule_lo x_NoRule_hv x_NoRule_hf (by first | rfl | decide +kernel)⟩
  have T_NoRule : CatC K mg "NoRule" "name" := ⟨PySem.W.mg_of X G (aD b8 15 rfl), exm_self (aD b9 3 rfl) (atB b9 11 rfl) (aD b9 4 rfl) (aD b9 12 rfl), ⟨(aD b8 17 rfl), (aD b8 18 rfl), (aD b9 3 rfl), (atB b9 5 rfl)⟩, (aD b8 19 rfl), ⟨(aD b8 17 rfl), (aD b8 18 rfl), (aD b9 3 rfl), (atB b9 5 rfl), (aD b9 13 rfl), (aD b9 14 rfl), (aD b9 15 rfl), (aD b9 16 rfl)⟩⟩
  have E_Useless : ExcK P0 K mg "Useless" "name" := ⟨_, excT_of xs_Useless (PySem.W.mg_of X G (aD b9 17 rfl)) x_Useless_h x_Useless_bmE (aD b9 18 rfl) (aD b9 19 rfl) (aD b10 0 rfl) (aD b10 1 rfl) (aD b10 2 rfl) (aD b10 3 rfl) (atB b10 4 rfl) (aD b10 5 rfl) (aD b10 6 rfl) (atB b10 7 rfl) (aD b10 8 rfl) (aD b10 9 rfl) (aD b10 10 rfl) (aD b10 11 rfl) (PySem.W.mg_none_of X G (aD b10 12 rfl)) x_Useless_lf x_Useless_hc x_Useless_lc x_Useless_lo x_Useless_hv x_Useless_hf (by first | rfl | decide +kernel)⟩
  have T_Useless : CatC K mg "Useless" "name" := ⟨PySem.W.mg_of X G (aD b9 17 rfl), exm_self (aD b10 5 rfl) (atB b10 13 rfl) (aD b10 6 rfl) (aD b10 14 rfl), ⟨(aD b9 19 rfl), (aD b10 0 rfl), (aD b10 5 rfl), (atB b10 7 rfl)⟩, (aD b10 1 rfl), ⟨(aD b9 19 rfl), (aD b10 0 rfl), (aD b10 5 rfl), (atB b10 7 rfl), (aD b10 15 rfl), (aD b10 16 rfl), (aD b10 17 rfl), (aD b10 18 rfl)⟩⟩
  have E_SameName : ExcK P0 K mg "SameName" "name" := ⟨_, excT_of xs_SameName (PySem.W.mg_of X G (aD b10 19 rfl)) x_SameName_h x_SameName_bmE (aD b11 0 rfl) (aD b11 1 rfl) (aD b11 2 rfl) (aD b11 3 rfl) (aD b11 4 rfl) (aD b11 5 rfl) (atB b11 6 rfl) (aD b11 7 rfl) (aD b11 8 rfl) (atB b11 9 rfl) (aD b11 10 rfl) (aD b11 11 rfl) (aD b11 12 rfl) (aD b11 13 rfl) (PySem.W.mg_none_of X G (aD b11 14 rfl)) x_SameName_lf x_SameName_hc x_SameName_lc x_SameName_lo x_SameName_hv x_SameName_hf (by first | rfl | decide +kernel)⟩
  have T_SameName : CatC K mg "SameName" "name" := ⟨PySem.W.mg_of X G (aD b10 19 rfl), exm_self (aD b11 7 rfl) (atB b11 15 rfl) (aD b11 8 rfl) (aD b11 16 rfl), ⟨(aD b11 1 rfl), (aD b11 2 rfl), (aD b11 7 rfl), (atB b11 9 rfl)⟩, (aD b11 3 rfl), ⟨(aD b11 1 rfl), (aD b11 2 rfl), (aD b11 7 rfl), (atB b11 9 rfl), (aD b11 17 rfl), (aD b11 18 rfl), (aD b11 19 rfl), (aD b12 0 rfl)⟩⟩
  have E_Hollow : ExcK P0 K mg "Hollow" "name" := ⟨_, excT_of xs_Hollow (PySem.W.mg_of X G (aD b12 1 rfl)) x_Hollow_h x_Hollow_bmE (aD b12 2 rfl) (aD b12 3 rfl) (aD b12 4 rfl) (aD b12 5 rfl) (aD b12 6 rfl) (aD b12 7 rfl) (atB b12 8 rfl) (aD b12 9 rfl) (aD b12 10 rfl) (atB b12 11 rfl) (aD b12 12 rfl) (aD b12 13 rfl) (aD b12 14 rfl) (aD b12 15 rfl) (PySem.W.mg_none_of X G (aD b12 16 rfl)) x_Hollow_lf x_Hollow_hc x_Hollow_lc x_Hollow_lo x_Hollow_hv x_Hollow_hf (by first | rfl | decide +kernel)⟩
  have T_Hollow : CatC K mg "Hollow" "name" := ⟨PySem.W.mg_of X G (aD b12 1 rfl), exm_self (aD b12 9 rfl) (atB b12 17 rfl) (aD b12 10 rfl) (aD b12 18 rfl), ⟨(aD b12 3 rfl), (aD b12 4 rfl), (aD b12 9 rfl), (atB b12 11 rfl)⟩, (aD b12 5 rfl), ⟨(aD b12 3 rfl), (aD b12 4 rfl), (aD b12 9 rfl), (atB b12 11 rfl), (aD b12 19 rfl), (aD b13 0 rfl), (aD b13 1 rfl), (aD b13 2 rfl)⟩⟩
  have E_UnknownName : ExcK P0 K mg "UnknownName" "name" := ⟨_, excT_of xs_UnknownName (PySem.W.mg_of X G (aD b13 3 rfl)) x_UnknownName_h x_UnknownName_bmE (aD b13 4 rfl) (aD b13 5 rfl) (aD b13 6 rfl) (aD b13 7 rfl) (aD b13 8 rfl) (aD b13 9 rfl) (atB b13 10 rfl) (aD b13 11 rfl) (aD b13 12 rfl) (atB b13 13 rfl) (aD b13 14 rfl) (aD b13 15 rfl) (aD b13 16 rfl) (aD b13 17 rfl) (PySem.W.mg_none_of X G (aD b13 18 rfl)) x_UnknownName_lf x_UnknownName_hc x_UnknownName_lc x_UnknownName_lo x_UnknownName_hv x_UnknownName_hf (by first | rfl | decide +kernel)⟩
  have T_UnknownName : CatC K mg "UnknownName" "name" := ⟨PySem.W.mg_of X G (aD b13 3 rfl), exm_self (aD b13 11 rfl) (atB b13 19 rfl) (aD b13 12 rfl) (aD b14 0 rfl), ⟨(aD b13 5 rfl), (aD b13 6 rfl), (aD b13 11 rfl), (atB b13 13 rfl)⟩, (aD b13 7 rfl), ⟨(aD b13 5 rfl), (aD b13 6 rfl), (aD b13 11 rfl), (atB b13 13 rfl), (aD b14 1 rfl), (aD b14 2 rfl), (aD b14 3 rfl), (aD b14 4 rfl)⟩⟩
  have E_BadLine : ExcK P0 K mg "BadLine" "number" := ⟨_, excT_of xs_BadLine (PySem.W.mg_of X G (aD b14 5 rfl)) x_BadLine_h x_BadLine_bmE (aD b14 6 rfl) (aD b14 7 rfl) (aD b14 8 rfl) (aD b14 9 rfl) (aD b14 10 rfl) (aD b14 11 rfl) (atB b14 12 rfl) (aD b14 13 rfl) (aD b14 14 rfl) (atB b14 15 rfl) (aD b14 16 rfl) (aD b14 17 rfl) (aD b14 18 rfl) (aD b14 19 rfl) (PySem.W.mg_none_of X G (aD b15 0 rfl)) x_BadLine_lf x_BadLine_hc x_BadLine_lc x_BadLine_lo x_BadLine_hv x_BadLine_hf (by first | rfl | decide +kernel)⟩
  have T_BadLine : CatC K mg "BadLine" "number" := ⟨PySem.W.mg_of X G (aD b14 5 rfl), exm_self (aD b14 13 rfl) (atB b15 1 rfl) (aD b14 14 rfl) (aD b15 2 rfl), ⟨(aD b14 7 rfl), (aD b14 8 rfl), (aD b14 13 rfl), (atB b14 15 rfl)⟩, (aD b14 9 rfl), ⟨(aD b14 7 rfl), (aD b14 8 rfl), (aD b14 13 rfl), (atB b14 15 rfl), (aD b15 3 rfl), (aD b15 4 rfl), (aD b15 5 rfl), (aD b15 6 rfl)⟩⟩
  have E_BadMend : ExcK P0 K mg "BadMend" "mend" := ⟨_, excT_of xs_BadMend (PySem.W.mg_of X G (aD b15 7 rfl)) x_BadMend_h x_BadMend_bmE (aD b15 8 rfl) (aD b15 9 rfl) (aD b15 10 rfl) (aD b15 11 rfl) (aD b15 12 rfl) (aD b15 13 rfl) (atB b15 14 rfl) (aD b15 15 rfl) (aD b15 16 rfl) (atB b15 17 rfl) (aD b15 18 rfl) (aD b15 19 rfl) (aD b16 0 rfl) (aD b16 1 rfl) (PySem.W.mg_none_of X G (aD b16 2 rfl)) x_BadMend_lf x_BadMend_hc x_BadMend_lc x_BadMend_lo x_BadMend_hv x_BadMend_hf (by first | rfl | decide +kernel)⟩
  have T_BadMend : CatC K mg "BadMend" "mend" := ⟨PySem.W.mg_of X G (aD b15 7 rfl), exm_self (aD b15 15 rfl) (atB b16 3 rfl) (aD b15 16 rfl) (aD b16 4 rfl), ⟨(aD b15 9 rfl), (aD b15 10 rfl), (aD b15 15 rfl), (atB b15 17 rfl)⟩, (aD b15 11 rfl), ⟨(aD b15 9 rfl), (aD b15 10 rfl), (aD b15 15 rfl), (atB b15 17 rfl), (aD b16 5 rfl), (aD b16 6 rfl), (aD b16 7 rfl), (aD b16 8 rfl)⟩⟩
  have F_Clash : ∀ f ∈ (["head", "one", "other", "token", "beginning", "runs"] : List Str), PySem.W.findIn K (.ref (cA K "Clash")) f = some none := al_cons (aD b16 13 rfl) (al_cons (aD b17 5 rfl) (al_cons (aD b17 6 rfl) (al_cons (aD b17 7 rfl) (al_cons (aD b17 8 rfl) (al_cons (aD b17 9 rfl) (al_nil))))))
  have E_Clash : ExcKN P0 K mg "Clash" ["head", "one", "other", "token", "beginning", "runs"] := ⟨_, excN_of xs_Clash (PySem.W.mg_of X G (aD b16 9 rfl)) x_Clash_h x_Clash_bmE (aD b16 10 rfl) F_Clash (aD b16 14 rfl) (aD b16 15 rfl) (atB b16 16 rfl) (aD b16 17 rfl) (aD b16 18 rfl) (aD b17 0 rfl) (aD b17 1 rfl) (aD b17 2 rfl) (aD b17 3 rfl) (PySem.W.mg_none_of X G (aD b17 4 rfl)) x_Clash_lf x_Clash_hc x_Clash_lc x_Clash_lo x_Clash_hv x_Clash_hf (by first | rfl | decide +kernel)⟩
  have T_Clash : CatC K mg "Clash" "head" := ⟨PySem.W.mg_of X G (aD b16 9 rfl), exm_self (aD b16 17 rfl) (atB b17 10 rfl) (aD b16 18 rfl) (aD b17 11 rfl), ⟨(aD b16 11 rfl), (aD b16 12 rfl), (aD b16 17 rfl), (atB b16 19 rfl)⟩, (aD b16 13 rfl), ⟨(aD b16 11 rfl), (aD b16 12 rfl), (aD b16 17 rfl), (atB b16 19 rfl), (aD b17 12 rfl), (aD b17 13 rfl), (aD b17 14 rfl), (aD b17 15 rfl)⟩⟩
  have F_Refused : ∀ f ∈ (["guest", "rival", "token", "beginning"] : List Str), PySem.W.findIn K (.ref (cA K "Refused")) f = some none := al_cons (aD b18 0 rfl) (al_cons (aD b18 12 rfl) (al_cons (aD b18 13 rfl) (al_cons (aD b18 14 rfl) (al_nil))))
  have E_Refused : ExcKN P0 K mg "Refused" ["guest", "rival", "token", "beginning"] := ⟨_, excN_of xs_Refused (PySem.W.mg_of X G (aD b17 16 rfl)) x_Refused_h x_Refused_bmE (aD b17 17 rfl) F_Refused (aD b18 1 rfl) (aD b18 2 rfl) (atB b18 3 rfl) (aD b18 4 rfl) (aD b18 5 rfl) (aD b18 7 rfl) (aD b18 8 rfl) (aD b18 9 rfl) (aD b18 10 rfl) (PySem.W.mg_none_of X G (aD b18 11 rfl)) x_Refused_lf x_Refused_hc x_Refused_lc x_Refused_lo x_Refused_hv x_Refused_hf (by first | rfl | decide +kernel)⟩
  have T_Refused : CatC K mg "Refused" "guest" := ⟨PySem.W.mg_of X G (aD b17 16 rfl), exm_self (aD b18 4 rfl) (atB b18 15 rfl) (aD b18 5 rfl) (aD b18 16 rfl), ⟨(aD b17 18 rfl), (aD b17 19 rfl), (aD b18 4 rfl), (atB b18 6 rfl)⟩, (aD b18 0 rfl), ⟨(aD b17 18 rfl), (aD b17 19 rfl), (aD b18 4 rfl), (atB b18 6 rfl), (aD b18 17 rfl), (aD b18 18 rfl), (aD b18 19 rfl), (aD b19 0 rfl)⟩⟩
  have F_WrongToken : ∀ f ∈ (["index", "token", "expected"] : List Str), PySem.W.findIn K (.ref (cA K "WrongToken")) f = some none := al_cons (aD b19 5 rfl) (al_cons (aD b19 17 rfl) (al_cons (aD b19 18 rfl) (al_nil)))
  have E_WrongToken : ExcKN P0 K mg "WrongToken" ["index", "token", "expected"] := ⟨_, excN_of xs_WrongToken (PySem.W.mg_of X G (aD b19 1 rfl)) x_WrongToken_h x_WrongToken_bmE (aD b19 2 rfl) F_WrongToken (aD b19 6 rfl) (aD b19 7 rfl) (atB b19 8 rfl) (aD b19 9 rfl) (aD b19 10 rfl) (aD b19 12 rfl) (aD b19 13 rfl) (aD b19 14 rfl) (aD b19 15 rfl) (PySem.W.mg_none_of X G (aD b19 16 rfl)) x_WrongToken_lf x_WrongToken_hc x_WrongToken_lc x_WrongToken_lo x_WrongToken_hv x_WrongToken_hf (by first | rfl | decide +kernel)⟩
  have T_WrongToken : CatC K mg "WrongToken" "index" := ⟨PySem.W.mg_of X G (aD b19 1 rfl), exm_self (aD b19 9 rfl) (atB b19 19 rfl) (aD b19 10 rfl) (aD b20 0 rfl), ⟨(aD b19 3 rfl), (aD b19 4 rfl), (aD b19 9 rfl), (atB b19 11 rfl)⟩, (aD b19 5 rfl), ⟨(aD b19 3 rfl), (aD b19 4 rfl), (aD b19 9 rfl), (atB b19 11 rfl), (aD b20 1 rfl), (aD b20 2 rfl), (aD b20 3 rfl), (aD b20 4 rfl)⟩⟩
  have eZ_BadName_BadName := cA_eq (aD b20 5 rfl)
  try subst eZ_BadName_BadName
  have J_BadName : mg "BadName" = some (.ref (cA K "BadName")) := PySem.W.mg_of X G (aD b20 5 rfl)
  have IS_BadName_BadName : IsX K "BadName" (.ref (cA K "BadName")) true := ⟨T_BadName.ec, _, fun _ h => h, (aD b20 6 rfl)⟩
  have eZ_BadName_NoRule := cA_eq (aD b20 7 rfl)
  try subst eZ_BadName_NoRule
  have J_NoRule : mg "NoRule" = some (.ref (cA K "NoRule")) := PySem.W.mg_of X G (aD b20 7 rfl)
  have IS_BadName_NoRule : IsX K "BadName" (.ref (cA K "NoRule")) false := ⟨T_BadName.ec, _, fun _ h => h, (aD b20 8 rfl)⟩
  have eZ_BadName_Useless := cA_eq (aD b20 9 rfl)
  try subst eZ_BadName_Useless
  have J_Useless : mg "Useless" = some (.ref (cA K "Useless")) := PySem.W.mg_of X G (aD b20 9 rfl)
  have IS_BadName_Useless : IsX K "BadName" (.ref (cA K "Useless")) false := ⟨T_BadName.ec, _, fun _ h => h, (aD b20 10 rfl)⟩
  have eZ_BadName_Hollow := cA_eq (aD b20 11 rfl)
  try subst eZ_BadName_Hollow
  have J_Hollow : mg "Hollow" = some (.ref (cA K "Hollow")) := PySem.W.mg_of X G (aD b20 11 rfl)
  have IS_BadName_Hollow : IsX K "BadName" (.ref (cA K "Hollow")) false := ⟨T_BadName.ec, _, fun _ h => h, (aD b20 12 rfl)⟩
  have eZ_BadName_SameName := cA_eq (aD b20 13 rfl)
  try subst eZ_BadName_SameName
  have J_SameName : mg "SameName" = some (.ref (cA K "SameName")) := PySem.W.mg_of X G (aD b20 13 rfl)
  have IS_BadName_SameName : IsX K "BadName" (.ref (cA K "SameName")) false := ⟨T_BadName.ec, _, fun _ h => h, (aD b20 14 rfl)⟩
  have eZ_BadName_UnknownName := cA_eq (aD b20 15 rfl)
  try subst eZ_BadName_UnknownName
  have J_UnknownName : mg "UnknownName" = some (.ref (cA K "UnknownName")) := PySem.W.mg_of X G (aD b20 15 rfl)
  have IS_BadName_UnknownName : IsX K "BadName" (.ref (cA K "UnknownName")) false := ⟨T_BadName.ec, _, fun _ h => h, (aD b20 16 rfl)⟩
  have eZ_BadName_BadLine := cA_eq (aD b20 17 rfl)
  try subst eZ_BadName_BadLine
  have J_BadLine : mg "BadLine" = some (.ref (cA K "BadLine")) := PySem.W.mg_of X G (aD b20 17 rfl)
  have IS_BadName_BadLine : IsX K "BadName" (.ref (cA K "BadLine")) false := ⟨T_BadName.ec, _, fun _ h => h, (aD b20 18 rfl)⟩
  have eZ_BadName_BadMark := cA_eq (aD b20 19 rfl)
  try subst eZ_BadName_BadMark
  have J_BadMark : mg "BadMark" = some (.ref (cA K "BadMark")) := PySem.W.mg_of X G (aD b20 19 rfl)
  have IS_BadName_BadMark : IsX K "BadName" (.ref (cA K "BadMark")) false := ⟨T_BadName.ec, _, fun _ h => h, (aD b21 0 rfl)⟩
  have eZ_BadName_BadMend := cA_eq (aD b21 1 rfl)
  try subst eZ_BadName_BadMend
  have J_BadMend : mg "BadMend" = some (.ref (cA K "BadMend")) := PySem.W.mg_of X G (aD b21 1 rfl)
  have IS_BadName_BadMend : IsX K "BadName" (.ref (cA K "BadMend")) false := ⟨T_BadName.ec, _, fun _ h => h, (aD b21 2 rfl)⟩
  have eZ_BadName_Clash := cA_eq (aD b21 3 rfl)
  try subst eZ_BadName_Clash
  have J_Clash : mg "Clash" = some (.ref (cA K "Clash")) := PySem.W.mg_of X G (aD b21 3 rfl)
  have IS_BadName_Clash : IsX K "BadName" (.ref (cA K "Clash")) false := ⟨T_BadName.ec, _, fun _ h => h, (aD b21 4 rfl)⟩
  have eZ_BadName_Refused := cA_eq (aD b21 5 rfl)
  try subst eZ_BadName_Refused
  have J_Refused : mg "Refused" = some (.ref (cA K "Refused")) := PySem.W.mg_of X G (aD b21 5 rfl)
  have IS_BadName_Refused : IsX K "BadName" (.ref (cA K "Refused")) false := ⟨T_BadName.ec, _, fun _ h => h, (aD b21 6 rfl)⟩
  have eZ_BadName_WrongToken := cA_eq (aD b21 7 rfl)
  try subst eZ_BadName_WrongToken
  have J_WrongToken : mg "WrongToken" = some (.ref (cA K "WrongToken")) := PySem.W.mg_of X G (aD b21 7 rfl)
  have IS_BadName_WrongToken : IsX K "BadName" (.ref (cA K "WrongToken")) false := ⟨T_BadName.ec, _, fun _ h => h, (aD b21 8 rfl)⟩
  have IS_BadName_ValueError : IsX K "BadName" (.ty "ValueError") true := ⟨T_BadName.ec, _, fun _ h => h, (aD b21 9 rfl)⟩
  have eZ_NoRule_BadName := cA_eq (aD b21 10 rfl)
  try subst eZ_NoRule_BadName
  have IS_NoRule_BadName : IsX K "NoRule" (.ref (cA K "BadName")) false := ⟨T_NoRule.ec, _, fun _ h => h, (aD b21 11 rfl)⟩
  have eZ_NoRule_NoRule := cA_eq (aD b21 12 rfl)
  try subst eZ_NoRule_NoRule
  have IS_NoRule_NoRule : IsX K "NoRule" (.ref (cA K "NoRule")) true := ⟨T_NoRule.ec, _, fun _ h => h, (aD b21 13 rfl)⟩
  have eZ_NoRule_Useless := cA_eq (aD b21 14 rfl)
  try subst eZ_NoRule_Useless
  have IS_NoRule_Useless : IsX K "NoRule" (.ref (cA K "Useless")) false := ⟨T_NoRule.ec, _, fun _ h => h, (aD b21 15 rfl)⟩
  have eZ_NoRule_Hollow := cA_eq (aD b21 16 rfl)
  try subst eZ_NoRule_Hollow
  have IS_NoRule_Hollow : IsX K "NoRule" (.ref (cA K "Hollow")) false := ⟨T_NoRule.ec, _, fun _ h => h, (aD b21 17 rfl)⟩
  have eZ_NoRule_SameName := cA_eq (aD b21 18 rfl)
  try subst eZ_NoRule_SameName
  have IS_NoRule_SameName : IsX K "NoRule" (.ref (cA K "SameName")) false := ⟨T_NoRule.ec, _, fun _ h => h, (aD b21 19 rfl)⟩
  have eZ_NoRule_UnknownName := cA_eq (aD b22 0 rfl)
  try subst eZ_NoRule_UnknownName
  have IS_NoRule_UnknownName : IsX K "NoRule" (.ref (cA K "UnknownName")) false := ⟨T_NoRule.ec, _, fun _ h => h, (aD b22 1 rfl)⟩
  have eZ_NoRule_BadLine := cA_eq (aD b22 2 rfl)
  try subst eZ_NoRule_BadLine
  have IS_NoRule_BadLine : IsX K "NoRule" (.ref (cA K "BadLine")) false := ⟨T_NoRule.ec, _, fun _ h => h, (aD b22 3 rfl)⟩
  have eZ_NoRule_BadMark := cA_eq (aD b22 4 rfl)
  try subst eZ_NoRule_BadMark
  have IS_NoRule_BadMark : IsX K "NoRule" (.ref (cA K "BadMark")) false := ⟨T_NoRule.ec, _, fun _ h => h, (aD b22 5 rfl)⟩
  have eZ_NoRule_BadMend := cA_eq (aD b22 6 rfl)
  try subst eZ_NoRule_BadMend
  have IS_NoRule_BadMend : IsX K "NoRule" (.ref (cA K "BadMend")) false := ⟨T_NoRule.ec, _, fun _ h => h, (aD b22 7 rfl)⟩
  have eZ_NoRule_Clash := cA_eq (aD b22 8 rfl)
  try subst eZ_NoRule_Clash
  have IS_NoRule_Clash : IsX K "NoRule" (.ref (cA K "Clash")) false := ⟨T_NoRule.ec, _, fun _ h => h, (aD b22 9 rfl)⟩
  have eZ_NoRule_Refused := cA_eq (aD b22 10 rfl)
  try subst eZ_NoRule_Refused
  have IS_NoRule_Refused : IsX K "NoRule" (.ref (cA K "Refused")) false := ⟨T_NoRule.ec, _, fun _ h => h, (aD b22 11 rfl)⟩
  have eZ_NoRule_WrongToken := cA_eq (aD b22 12 rfl)
  try subst eZ_NoRule_WrongToken
  have IS_NoRule_WrongToken : IsX K "NoRule" (.ref (cA K "WrongToken")) false := ⟨T_NoRule.ec, _, fun _ h => h, (aD b22 13 rfl)⟩
  have IS_NoRule_ValueError : IsX K "NoRule" (.ty "ValueError") true := ⟨T_NoRule.ec, _, fun _ h => h, (aD b22 14 rfl)⟩
  have eZ_Useless_BadName := cA_eq (aD b22 15 rfl)
  try subst eZ_Useless_BadName
  have IS_Useless_BadName : IsX K "Useless" (.ref (cA K "BadName")) false := ⟨T_Useless.ec, _, fun _ h => h, (aD b22 16 rfl)⟩
  have eZ_Useless_NoRule := cA_eq (aD b22 17 rfl)
  try subst eZ_Useless_NoRule
  have IS_Useless_NoRule : IsX K "Useless" (.ref (cA K "NoRule")) false := ⟨T_Useless.ec, _, fun _ h => h, (aD b22 18 rfl)⟩
  have eZ_Useless_Useless := cA_eq (aD b22 19 rfl)
  try subst eZ_Useless_Useless
  have IS_Useless_Useless : IsX K "Useless" (.ref (cA K "Useless")) true := ⟨T_Useless.ec, _, fun _ h => h, (aD b23 0 rfl)⟩
  have eZ_Useless_Hollow := cA_eq (aD b23 1 rfl)
  try subst eZ_Useless_Hollow
  have IS_Useless_Hollow : IsX K "Useless" (.ref (cA K "Hollow")) false := ⟨T_Useless.ec, _, fun _ h => h, (aD b23 2 rfl)⟩
  have eZ_Useless_SameName := cA_eq (aD b23 3 rfl)
  try subst eZ_Useless_SameName
  have IS_Useless_SameName : IsX K "Useless" (.ref (cA K "SameName")) false := ⟨T_Useless.ec, _, fun _ h => h, (aD b23 4 rfl)⟩
  have eZ_Useless_UnknownName := cA_eq (aD b23 5 rfl)
  try subst eZ_Useless_UnknownName
  have IS_Useless_UnknownName : IsX K "Useless" (.ref (cA K "UnknownName")) false := ⟨T_Useless.ec, _, fun _ h => h, (aD b23 6 rfl)⟩
  have eZ_Useless_BadLine := cA_eq (aD b23 7 rfl)
  try subst eZ_Useless_BadLine
  have IS_Useless_BadLine : IsX K "Useless" (.ref (cA K "BadLine")) false := ⟨T_Useless.ec, _, fun _ h => h, (aD b23 8 rfl)⟩
  have eZ_Useless_BadMark := cA_eq (aD b23 9 rfl)
  try subst eZ_Useless_BadMark
  have IS_Useless_BadMark : IsX K "Useless" (.ref (cA K "BadMark")) false := ⟨T_Useless.ec, _, fun _ h => h, (aD b23 10 rfl)⟩
  have eZ_Useless_BadMend := cA_eq (aD b23 11 rfl)
  try subst eZ_Useless_BadMend
  have IS_Useless_BadMend : IsX K "Useless" (.ref (cA K "BadMend")) false := ⟨T_Useless.ec, _, fun _ h => h, (aD b23 12 rfl)⟩
  have eZ_Useless_Clash := cA_eq (aD b23 13 rfl)
  try subst eZ_Useless_Clash
  have IS_Useless_Clash : IsX K "Useless" (.ref (cA K "Clash")) false := ⟨T_Useless.ec, _, fun _ h => h, (aD b23 14 rfl)⟩
  have eZ_Useless_Refused := cA_eq (aD b23 15 rfl)
  try subst eZ_Useless_Refused
  have IS_Useless_Refused : IsX K "Useless" (.ref (cA K "Refused")) false := ⟨T_Useless.ec, _, fun _ h => h, (aD b23 16 rfl)⟩
  have eZ_Useless_WrongToken := cA_eq (aD b23 17 rfl)
  try subst eZ_Useless_WrongToken
  have IS_Useless_WrongToken : IsX K "Useless" (.ref (cA K "WrongToken")) false := ⟨T_Useless.ec, _, fun _ h => h, (aD b23 18 rfl)⟩
  have IS_Useless_ValueError : IsX K "Useless" (.ty "ValueError") true := ⟨T_Useless.ec, _, fun _ h => h, (aD b23 19 rfl)⟩
  have eZ_Hollow_BadName := cA_eq (aD b24 0 rfl)
  try subst eZ_Hollow_BadName
  have IS_Hollow_BadName : IsX K "Hollow" (.ref (cA K "BadName")) false := ⟨T_Hollow.ec, _, fun _ h => h, (aD b24 1 rfl)⟩
  have eZ_Hollow_NoRule := cA_eq (aD b24 2 rfl)
  try subst eZ_Hollow_NoRule
  have IS_Hollow_NoRule : IsX K "Hollow" (.ref (cA K "NoRule")) false := ⟨T_Hollow.ec, _, fun _ h => h, (aD b24 3 rfl)⟩
  have eZ_Hollow_Useless := cA_eq (aD b24 4 rfl)
  try subst eZ_Hollow_Useless
  have IS_Hollow_Useless : IsX K "Hollow" (.ref (cA K "Useless")) false := ⟨T_Hollow.ec, _, fun _ h => h, (aD b24 5 rfl)⟩
  have eZ_Hollow_Hollow := cA_eq (aD b24 6 rfl)
  try subst eZ_Hollow_Hollow
  have IS_Hollow_Hollow : IsX K "Hollow" (.ref (cA K "Hollow")) true := ⟨T_Hollow.ec, _, fun _ h => h, (aD b24 7 rfl)⟩
  have eZ_Hollow_SameName := cA_eq (aD b24 8 rfl)
  try subst eZ_Hollow_SameName
  have IS_Hollow_SameName : IsX K "Hollow" (.ref (cA K "SameName")) false := ⟨T_Hollow.ec, _, fun _ h => h, (aD b24 9 rfl)⟩
  have eZ_Hollow_UnknownName := cA_eq (aD b24 10 rfl)
  try subst eZ_Hollow_UnknownName
  have IS_Hollow_UnknownName : IsX K "Hollow" (.ref (cA K "UnknownName")) false := ⟨T_Hollow.ec, _, fun _ h => h, (aD b24 11 rfl)⟩
  have eZ_Hollow_BadLine := cA_eq (aD b24 12 rfl)
  try subst eZ_Hollow_BadLine
  have IS_Hollow_BadLine : IsX K "Hollow" (.ref (cA K "BadLine")) false := ⟨T_Hollow.ec, _, fun _ h => h, (aD b24 13 rfl)⟩
  have eZ_Hollow_BadMark := cA_eq (aD b24 14 rfl)
  try subst eZ_Hollow_BadMark
  have IS_Hollow_BadMark : IsX K "Hollow" (.ref (cA K "BadMark")) false := ⟨T_Hollow.ec, _, fun _ h => h, (aD b24 15 rfl)⟩
  have eZ_Hollow_BadMend := cA_eq (aD b24 16 rfl)
  try subst eZ_Hollow_BadMend
  have IS_Hollow_BadMend : IsX K "Hollow" (.ref (cA K "BadMend")) false := ⟨T_Hollow.ec, _, fun _ h => h, (aD b24 17 rfl)⟩
  have eZ_Hollow_Clash := cA_eq (aD b24 18 rfl)
  try subst eZ_Hollow_Clash
  have IS_Hollow_Clash : IsX K "Hollow" (.ref (cA K "Clash")) false := ⟨T_Hollow.ec, _, fun _ h => h, (aD b24 19 rfl)⟩
  have eZ_Hollow_Refused := cA_eq (aD b25 0 rfl)
  try subst eZ_Hollow_Refused
  have IS_Hollow_Refused : IsX K "Hollow" (.ref (cA K "Refused")) false := ⟨T_Hollow.ec, _, fun _ h => h, (aD b25 1 rfl)⟩
  have eZ_Hollow_WrongToken := cA_eq (aD b25 2 rfl)
  try subst eZ_Hollow_WrongToken
  have IS_Hollow_WrongToken : IsX K "Hollow" (.ref (cA K "WrongToken")) false := ⟨T_Hollow.ec, _, fun _ h => h, (aD b25 3 rfl)⟩
  have IS_Hollow_ValueError : IsX K "Hollow" (.ty "ValueError") true := ⟨T_Hollow.ec, _, fun _ h => h, (aD b25 4 rfl)⟩
  have eZ_SameName_BadName := cA_eq (aD b25 5 rfl)
  try subst eZ_SameName_BadName
  have IS_SameName_BadName : IsX K "SameName" (.ref (cA K "BadName")) false := ⟨T_SameName.ec, _, fun _ h => h, (aD b25 6 rfl)⟩
  have eZ_SameName_NoRule := cA_eq (aD b25 7 rfl)
  try subst eZ_SameName_NoRule
  have IS_SameName_NoRule : IsX K "SameName" (.ref (cA K "NoRule")) false := ⟨T_SameName.ec, _, fun _ h => h, (aD b25 8 rfl)⟩
  have eZ_SameName_Useless := cA_eq (aD b25 9 rfl)
  try subst eZ_SameName_Useless
  have IS_SameName_Useless : IsX K "SameName" (.ref (cA K "Useless")) false := ⟨T_SameName.ec, _, fun _ h => h, (aD b25 10 rfl)⟩
  have eZ_SameName_Hollow := cA_eq (aD b25 11 rfl)
  try subst eZ_SameName_Hollow
  have IS_SameName_Hollow : IsX K "SameName" (.ref (cA K "Hollow")) false := ⟨T_SameName.ec, _, fun _ h => h, (aD b25 12 rfl)⟩
  have eZ_SameName_SameName := cA_eq (aD b25 13 rfl)
  try subst eZ_SameName_SameName
  have IS_SameName_SameName : IsX K "SameName" (.ref (cA K "SameName")) true := ⟨T_SameName.ec, _, fun _ h => h, (aD b25 14 rfl)⟩
  have eZ_SameName_UnknownName := cA_eq (aD b25 15 rfl)
  try subst eZ_SameName_UnknownName
  have IS_SameName_UnknownName : IsX K "SameName" (.ref (cA K "UnknownName")) false := ⟨T_SameName.ec, _, fun _ h => h, (aD b25 16 rfl)⟩
  have eZ_SameName_BadLine := cA_eq (aD b25 17 rfl)
  try subst eZ_SameName_BadLine
  have IS_SameName_BadLine : IsX K "SameName" (.ref (cA K "BadLine")) false := ⟨T_SameName.ec, _, fun _ h => h, (aD b25 18 rfl)⟩
  have eZ_SameName_BadMark := cA_eq (aD b25 19 rfl)
  try subst eZ_SameName_BadMark
  have IS_SameName_BadMark : IsX K "SameName" (.ref (cA K "BadMark")) false := ⟨T_SameName.ec, _, fun _ h => h, (aD b26 0 rfl)⟩
  have eZ_SameName_BadMend := cA_eq (aD b26 1 rfl)
  try subst eZ_SameName_BadMend
  have IS_SameName_BadMend : IsX K "SameName" (.ref (cA K "BadMend")) false := ⟨T_SameName.ec, _, fun _ h => h, (aD b26 2 rfl)⟩
  have eZ_SameName_Clash := cA_eq (aD b26 3 rfl)
  try subst eZ_SameName_Clash
  have IS_SameName_Clash : IsX K "SameName" (.ref (cA K "Clash")) false := ⟨T_SameName.ec, _, fun _ h => h, (aD b26 4 rfl)⟩
  have eZ_SameName_Refused := cA_eq (aD b26 5 rfl)
  try subst eZ_SameName_Refused
  have IS_SameName_Refused : IsX K "SameName" (.ref (cA K "Refused")) false := ⟨T_SameName.ec, _, fun _ h => h, (aD b26 6 rfl)⟩
  have eZ_SameName_WrongToken := cA_eq (aD b26 7 rfl)
  try subst eZ_SameName_WrongToken
  have IS_SameName_WrongToken : IsX K "SameName" (.ref (cA K "WrongToken")) false := ⟨T_SameName.ec, _, fun _ h => h, (aD b26 8 rfl)⟩
  have IS_SameName_ValueError : IsX K "SameName" (.ty "ValueError") true := ⟨T_SameName.ec, _, fun _ h => h, (aD b26 9 rfl)⟩
  have eZ_UnknownName_BadName := cA_eq (aD b26 10 rfl)
  try subst eZ_UnknownName_BadName
  have IS_UnknownName_BadName : IsX K "UnknownName" (.ref (cA K "BadName")) false := ⟨T_UnknownName.ec, _, fun _ h => h, (aD b26 11 rfl)⟩
  have eZ_UnknownName_NoRule := cA_eq (aD b26 12 rfl)
  try subst eZ_UnknownName_NoRule
  have IS_UnknownName_NoRule : IsX K "UnknownName" (.ref (cA K "NoRule")) false := ⟨T_UnknownName.ec, _, fun _ h => h, (aD b26 13 rfl)⟩
  have eZ_UnknownName_Useless := cA_eq (aD b26 14 rfl)
  try subst eZ_UnknownName_Useless
  have IS_UnknownName_Useless : IsX K "UnknownName" (.ref (cA K "Useless")) false := ⟨T_UnknownName.ec, _, fun _ h => h, (aD b26 15 rfl)⟩
  have eZ_UnknownName_Hollow := cA_eq (aD b26 16 rfl)
  try subst eZ_UnknownName_Hollow
  have IS_UnknownName_Hollow : IsX K "UnknownName" (.ref (cA K "Hollow")) false := ⟨T_UnknownName.ec, _, fun _ h => h, (aD b26 17 rfl)⟩
  have eZ_UnknownName_SameName := cA_eq (aD b26 18 rfl)
  try subst eZ_UnknownName_SameName
  have IS_UnknownName_SameName : IsX K "UnknownName" (.ref (cA K "SameName")) false := ⟨T_UnknownName.ec, _, fun _ h => h, (aD b26 19 rfl)⟩
  have eZ_UnknownName_UnknownName := cA_eq (aD b27 0 rfl)
  try subst eZ_UnknownName_UnknownName
  have IS_UnknownName_UnknownName : IsX K "UnknownName" (.ref (cA K "UnknownName")) true := ⟨T_UnknownName.ec, _, fun _ h => h, (aD b27 1 rfl)⟩
  have eZ_UnknownName_BadLine := cA_eq (aD b27 2 rfl)
  try subst eZ_UnknownName_BadLine
  have IS_UnknownName_BadLine : IsX K "UnknownName" (.ref (cA K "BadLine")) false := ⟨T_UnknownName.ec, _, fun _ h => h, (aD b27 3 rfl)⟩
  have eZ_UnknownName_BadMark := cA_eq (aD b27 4 rfl)
  try subst eZ_UnknownName_BadMark
  have IS_UnknownName_BadMark : IsX K "UnknownName" (.ref (cA K "BadMark")) false := ⟨T_UnknownName.ec, _, fun _ h => h, (aD b27 5 rfl)⟩
  have eZ_UnknownName_BadMend := cA_eq (aD b27 6 rfl)
  try subst eZ_UnknownName_BadMend
  have IS_UnknownName_BadMend : IsX K "UnknownName" (.ref (cA K "BadMend")) false := ⟨T_UnknownName.ec, _, fun _ h => h, (aD b27 7 rfl)⟩
  have eZ_UnknownName_Clash := cA_eq (aD b27 8 rfl)
  try subst eZ_UnknownName_Clash
  have IS_UnknownName_Clash : IsX K "UnknownName" (.ref (cA K "Clash")) false := ⟨T_UnknownName.ec, _, fun _ h => h, (aD b27 9 rfl)⟩
  have eZ_UnknownName_Refused := cA_eq (aD b27 10 rfl)
  try subst eZ_UnknownName_Refused
  have IS_UnknownName_Refused : IsX K "UnknownName" (.ref (cA K "Refused")) false := ⟨T_UnknownName.ec, _, fun _ h => h, (aD b27 11 rfl)⟩
  have eZ_UnknownName_WrongToken := cA_eq (aD b27 12 rfl)
  try subst eZ_UnknownName_WrongToken
  have IS_UnknownName_WrongToken : IsX K "UnknownName" (.ref (cA K "WrongToken")) false := ⟨T_UnknownName.ec, _, fun _ h => h, (aD b27 13 rfl)⟩
  have IS_UnknownName_ValueError : IsX K "UnknownName" (.ty "ValueError") true := ⟨T_UnknownName.ec, _, fun _ h => h, (aD b27 14 rfl)⟩
  have eZ_BadLine_BadName := cA_eq (aD b27 15 rfl)
  try subst eZ_BadLine_BadName
  have IS_BadLine_BadName : IsX K "BadLine" (.ref (cA K "BadName")) false := ⟨T_BadLine.ec, _, fun _ h => h, (aD b27 16 rfl)⟩
  have eZ_BadLine_NoRule := cA_eq (aD b27 17 rfl)
  try subst eZ_BadLine_NoRule
  have IS_BadLine_NoRule : IsX K "BadLine" (.ref (cA K "NoRule")) false := ⟨T_BadLine.ec, _, fun _ h => h, (aD b27 18 rfl)⟩
  have eZ_BadLine_Useless := cA_eq (aD b27 19 rfl)
  try subst eZ_BadLine_Useless
  have IS_BadLine_Useless : IsX K "BadLine" (.ref (cA K "Useless")) false := ⟨T_BadLine.ec, _, fun _ h => h, (aD b28 0 rfl)⟩
  have eZ_BadLine_Hollow := cA_eq (aD b28 1 rfl)
  try subst eZ_BadLine_Hollow
  have IS_BadLine_Hollow : IsX K "BadLine" (.ref (cA K "Hollow")) false := ⟨T_BadLine.ec, _, fun _ h => h, (aD b28 2 rfl)⟩
  have eZ_BadLine_SameName := cA_eq (aD b28 3 rfl)
  try subst eZ_BadLine_SameName
  have IS_BadLine_SameName : IsX K "BadLine" (.ref (cA K "SameName")) false := ⟨T_BadLine.ec, _, fun _ h => h, (aD b28 4 rfl)⟩
  have eZ_BadLine_UnknownName := cA_eq (aD b28 5 rfl)
  try subst eZ_BadLine_UnknownName
  have IS_BadLine_UnknownName : IsX K "BadLine" (.ref (cA K "UnknownName")) false := ⟨T_BadLine.ec, _, fun _ h => h, (aD b28 6 rfl)⟩
  have eZ_BadLine_BadLine := cA_eq (aD b28 7 rfl)
  try subst eZ_BadLine_BadLine
  have IS_BadLine_BadLine : IsX K "BadLine" (.ref (cA K "BadLine")) true := ⟨T_BadLine.ec, _, fun _ h => h, (aD b28 8 rfl)⟩
  have eZ_BadLine_BadMark := cA_eq (aD b28 9 rfl)
  try subst eZ_BadLine_BadMark
  have IS_BadLine_BadMark : IsX K "BadLine" (.ref (cA K "BadMark")) false := ⟨T_BadLine.ec, _, fun _ h => h, (aD b28 10 rfl)⟩
  have eZ_BadLine_BadMend := cA_eq (aD b28 11 rfl)
  try subst eZ_BadLine_BadMend
  have IS_BadLine_BadMend : IsX K "BadLine" (.ref (cA K "BadMend")) false := ⟨T_BadLine.ec, _, fun _ h => h, (aD b28 12 rfl)⟩
  have eZ_BadLine_Clash := cA_eq (aD b28 13 rfl)
  try subst eZ_BadLine_Clash
  have IS_BadLine_Clash : IsX K "BadLine" (.ref (cA K "Clash")) false := ⟨T_BadLine.ec, _, fun _ h => h, (aD b28 14 rfl)⟩
  have eZ_BadLine_Refused := cA_eq (aD b28 15 rfl)
  try subst eZ_BadLine_Refused
  have IS_BadLine_Refused : IsX K "BadLine" (.ref (cA K "Refused")) false := ⟨T_BadLine.ec, _, fun _ h => h, (aD b28 16 rfl)⟩
  have eZ_BadLine_WrongToken := cA_eq (aD b28 17 rfl)
  try subst eZ_BadLine_WrongToken
  have IS_BadLine_WrongToken : IsX K "BadLine" (.ref (cA K "WrongToken")) false := ⟨T_BadLine.ec, _, fun _ h => h, (aD b28 18 rfl)⟩
  have IS_BadLine_ValueError : IsX K "BadLine" (.ty "ValueError") true := ⟨T_BadLine.ec, _, fun _ h => h, (aD b28 19 rfl)⟩
  have eZ_BadMark_BadName := cA_eq (aD b29 0 rfl)
  try subst eZ_BadMark_BadName
  have IS_BadMark_BadName : IsX K "BadMark" (.ref (cA K "BadName")) false := ⟨T_BadMark.ec, _, fun _ h => h, (aD b29 1 rfl)⟩
  have eZ_BadMark_NoRule := cA_eq (aD b29 2 rfl)
  try subst eZ_BadMark_NoRule
  have IS_BadMark_NoRule : IsX K "BadMark" (.ref (cA K "NoRule")) false := ⟨T_BadMark.ec, _, fun _ h => h, (aD b29 3 rfl)⟩
  have eZ_BadMark_Useless := cA_eq (aD b29 4 rfl)
  try subst eZ_BadMark_Useless
  have IS_BadMark_Useless : IsX K "BadMark" (.ref (cA K "Useless")) false := ⟨T_BadMark.ec, _, fun _ h => h, (aD b29 5 rfl)⟩
  have eZ_BadMark_Hollow := cA_eq (aD b29 6 rfl)
  try subst eZ_BadMark_Hollow
  have IS_BadMark_Hollow : IsX K "BadMark" (.ref (cA K "Hollow")) false := ⟨T_BadMark.ec, _, fun _ h => h, (aD b29 7 rfl)⟩
  have eZ_BadMark_SameName := cA_eq (aD b29 8 rfl)
  try subst eZ_BadMark_SameName
  have IS_BadMark_SameName : IsX K "BadMark" (.ref (cA K "SameName")) false := ⟨T_BadMark.ec, _, fun _ h => h, (aD b29 9 rfl)⟩
  have eZ_BadMark_UnknownName := cA_eq (aD b29 10 rfl)
  try subst eZ_BadMark_UnknownName
  have IS_BadMark_UnknownName : IsX K "BadMark" (.ref (cA K "UnknownName")) false := ⟨T_BadMark.ec, _, fun _ h => h, (aD b29 11 rfl)⟩
  have eZ_BadMark_BadLine := cA_eq (aD b29 12 rfl)
  try subst eZ_BadMark_BadLine
  have IS_BadMark_BadLine : IsX K "BadMark" (.ref (cA K "BadLine")) false := ⟨T_BadMark.ec, _, fun _ h => h, (aD b29 13 rfl)⟩
  have eZ_BadMark_BadMark := cA_eq (aD b29 14 rfl)
  try subst eZ_BadMark_BadMark
  have IS_BadMark_BadMark : IsX K "BadMark" (.ref (cA K "BadMark")) true := ⟨T_BadMark.ec, _, fun _ h => h, (aD b29 15 rfl)⟩
  have eZ_BadMark_BadMend := cA_eq (aD b29 16 rfl)
  try subst eZ_BadMark_BadMend
  have IS_BadMark_BadMend : IsX K "BadMark" (.ref (cA K "BadMend")) false := ⟨T_BadMark.ec, _, fun _ h => h, (aD b29 17 rfl)⟩
  have eZ_BadMark_Clash := cA_eq (aD b29 18 rfl)
  try subst eZ_BadMark_Clash
  have IS_BadMark_Clash : IsX K "BadMark" (.ref (cA K "Clash")) false := ⟨T_BadMark.ec, _, fun _ h => h, (aD b29 19 rfl)⟩
  have eZ_BadMark_Refused := cA_eq (aD b30 0 rfl)
  try subst eZ_BadMark_Refused
  have IS_BadMark_Refused : IsX K "BadMark" (.ref (cA K "Refused")) false := ⟨T_BadMark.ec, _, fun _ h => h, (aD b30 1 rfl)⟩
  have eZ_BadMark_WrongToken := cA_eq (aD b30 2 rfl)
  try subst eZ_BadMark_WrongToken
  have IS_BadMark_WrongToken : IsX K "BadMark" (.ref (cA K "WrongToken")) false := ⟨T_BadMark.ec, _, fun _ h => h, (aD b30 3 rfl)⟩
  have IS_BadMark_ValueError : IsX K "BadMark" (.ty "ValueError") true := ⟨T_BadMark.ec, _, fun _ h => h, (aD b30 4 rfl)⟩
  have eZ_BadMend_BadName := cA_eq (aD b30 5 rfl)
  try subst eZ_BadMend_BadName
  have IS_BadMend_BadName : IsX K "BadMend" (.ref (cA K "BadName")) false := ⟨T_BadMend.ec, _, fun _ h => h, (aD b30 6 rfl)⟩
  have eZ_BadMend_NoRule := cA_eq (aD b30 7 rfl)
  try subst eZ_BadMend_NoRule
  have IS_BadMend_NoRule : IsX K "BadMend" (.ref (cA K "NoRule")) false := ⟨T_BadMend.ec, _, fun _ h => h, (aD b30 8 rfl)⟩
  have eZ_BadMend_Useless := cA_eq (aD b30 9 rfl)
  try subst eZ_BadMend_Useless
  have IS_BadMend_Useless : IsX K "BadMend" (.ref (cA K "Useless")) false := ⟨T_BadMend.ec, _, fun _ h => h, (aD b30 10 rfl)⟩
  have eZ_BadMend_Hollow := cA_eq (aD b30 11 rfl)
  try subst eZ_BadMend_Hollow
  have IS_BadMend_Hollow : IsX K "BadMend" (.ref (cA K "Hollow")) false := ⟨T_BadMend.ec, _, fun _ h => h, (aD b30 12 rfl)⟩
  have eZ_BadMend_SameName := cA_eq (aD b30 13 rfl)
  try subst eZ_BadMend_SameName
  have IS_BadMend_SameName : IsX K "BadMend" (.ref (cA K "SameName")) false := ⟨T_BadMend.ec, _, fun _ h => h, (aD b30 14 rfl)⟩
  have eZ_BadMend_UnknownName := cA_eq (aD b30 15 rfl)
  try subst eZ_BadMend_UnknownName
  have IS_BadMend_UnknownName : IsX K "BadMend" (.ref (cA K "UnknownName")) false := ⟨T_BadMend.ec, _, fun _ h => h, (aD b30 16 rfl)⟩
  have eZ_BadMend_BadLine := cA_eq (aD b30 17 rfl)
  try subst eZ_BadMend_BadLine
  have IS_BadMend_BadLine : IsX K "BadMend" (.ref (cA K "BadLine")) false := ⟨T_BadMend.ec, _, fun _ h => h, (aD b30 18 rfl)⟩
  have eZ_BadMend_BadMark := cA_eq (aD b30 19 rfl)
  try subst eZ_BadMend_BadMark
  have IS_BadMend_BadMark : IsX K "BadMend" (.ref (cA K "BadMark")) false := ⟨T_BadMend.ec, _, fun _ h => h, (aD b31 0 rfl)⟩
  have eZ_BadMend_BadMend := cA_eq (aD b31 1 rfl)
  try subst eZ_BadMend_BadMend
  have IS_BadMend_BadMend : IsX K "BadMend" (.ref (cA K "BadMend")) true := ⟨T_BadMend.ec, _, fun _ h => h, (aD b31 2 rfl)⟩
  have eZ_BadMend_Clash := cA_eq (aD b31 3 rfl)
  try subst eZ_BadMend_Clash
  have IS_BadMend_Clash : IsX K "BadMend" (.ref (cA K "Clash")) false := ⟨T_BadMend.ec, _, fun _ h => h, (aD b31 4 rfl)⟩
  have eZ_BadMend_Refused := cA_eq (aD b31 5 rfl)
  try subst eZ_BadMend_Refused
  have IS_BadMend_Refused : IsX K "BadMend" (.ref (cA K "Refused")) false := ⟨T_BadMend.ec, _, fun _ h => h, (aD b31 6 rfl)⟩
  have eZ_BadMend_WrongToken := cA_eq (aD b31 7 rfl)
  try subst eZ_BadMend_WrongToken
  have IS_BadMend_WrongToken : IsX K "BadMend" (.ref (cA K "WrongToken")) false := ⟨T_BadMend.ec, _, fun _ h => h, (aD b31 8 rfl)⟩
  have IS_BadMend_ValueError : IsX K "BadMend" (.ty "ValueError") true := ⟨T_BadMend.ec, _, fun _ h => h, (aD b31 9 rfl)⟩
  have eZ_Clash_BadName := cA_eq (aD b31 10 rfl)
  try subst eZ_Clash_BadName
  have IS_Clash_BadName : IsX K "Clash" (.ref (cA K "BadName")) false := ⟨T_Clash.ec, _, fun _ h => h, (aD b31 11 rfl)⟩
  have eZ_Clash_NoRule := cA_eq (aD b31 12 rfl)
  try subst eZ_Clash_NoRule
  have IS_Clash_NoRule : IsX K "Clash" (.ref (cA K "NoRule")) false := ⟨T_Clash.ec, _, fun _ h => h, (aD b31 13 rfl)⟩
  have eZ_Clash_Useless := cA_eq (aD b31 14 rfl)
  try subst eZ_Clash_Useless
  have IS_Clash_Useless : IsX K "Clash" (.ref (cA K "Useless")) false := ⟨T_Clash.ec, _, fun _ h => h, (aD b31 15 rfl)⟩
  have eZ_Clash_Hollow := cA_eq (aD b31 16 rfl)
  try subst eZ_Clash_Hollow
  have IS_Clash_Hollow : IsX K "Clash" (.ref (cA K "Hollow")) false := ⟨T_Clash.ec, _, fun _ h => h, (aD b31 17 rfl)⟩
  have eZ_Clash_SameName := cA_eq (aD b31 18 rfl)
  try subst eZ_Clash_SameName
  have IS_Clash_SameName : IsX K "Clash" (.ref (cA K "SameName")) false := ⟨T_Clash.ec, _, fun _ h => h, (aD b31 19 rfl)⟩
  have eZ_Clash_UnknownName := cA_eq (aD b32 0 rfl)
  try subst eZ_Clash_UnknownName
  have IS_Clash_UnknownName : IsX K "Clash" (.ref (cA K "UnknownName")) false := ⟨T_Clash.ec, _, fun _ h => h, (aD b32 1 rfl)⟩
  have eZ_Clash_BadLine := cA_eq (aD b32 2 rfl)
  try subst eZ_Clash_BadLine
  have IS_Clash_BadLine : IsX K "Clash" (.ref (cA K "BadLine")) false := ⟨T_Clash.ec, _, fun _ h => h, (aD b32 3 rfl)⟩
  have eZ_Clash_BadMark := cA_eq (aD b32 4 rfl)
  try subst eZ_Clash_BadMark
  have IS_Clash_BadMark : IsX K "Clash" (.ref (cA K "BadMark")) false := ⟨T_Clash.ec, _, fun _ h => h, (aD b32 5 rfl)⟩
  have eZ_Clash_BadMend := cA_eq (aD b32 6 rfl)
  try subst eZ_Clash_BadMend
  have IS_Clash_BadMend : IsX K "Clash" (.ref (cA K "BadMend")) false := ⟨T_Clash.ec, _, fun _ h => h, (aD b32 7 rfl)⟩
  have eZ_Clash_Clash := cA_eq (aD b32 8 rfl)
  try subst eZ_Clash_Clash
  have IS_Clash_Clash : IsX K "Clash" (.ref (cA K "Clash")) true := ⟨T_Clash.ec, _, fun _ h => h, (aD b32 9 rfl)⟩
  have eZ_Clash_Refused := cA_eq (aD b32 10 rfl)
  try subst eZ_Clash_Refused
  have IS_Clash_Refused : IsX K "Clash" (.ref (cA K "Refused")) false := ⟨T_Clash.ec, _, fun _ h => h, (aD b32 11 rfl)⟩
  have eZ_Clash_WrongToken := cA_eq (aD b32 12 rfl)
  try subst eZ_Clash_WrongToken
  have IS_Clash_WrongToken : IsX K "Clash" (.ref (cA K "WrongToken")) false := ⟨T_Clash.ec, _, fun _ h => h, (aD b32 13 rfl)⟩
  have IS_Clash_ValueError : IsX K "Clash" (.ty "ValueError") true := ⟨T_Clash.ec, _, fun _ h => h, (aD b32 14 rfl)⟩
  have eZ_Refused_BadName := cA_eq (aD b32 15 rfl)
  try subst eZ_Refused_BadName
  have IS_Refused_BadName : IsX K "Refused" (.ref (cA K "BadName")) false := ⟨T_Refused.ec, _, fun _ h => h, (aD b32 16 rfl)⟩
  have eZ_Refused_NoRule := cA_eq (aD b32 17 rfl)
  try subst eZ_Refused_NoRule
  have IS_Refused_NoRule : IsX K "Refused" (.ref (cA K "NoRule")) false := ⟨T_Refused.ec, _, fun _ h => h, (aD b32 18 rfl)⟩
  have eZ_Refused_Useless := cA_eq (aD b32 19 rfl)
  try subst eZ_Refused_Useless
  have IS_Refused_Useless : IsX K "Refused" (.ref (cA K "Useless")) false := ⟨T_Refused.ec, _, fun _ h => h, (aD b33 0 rfl)⟩
  have eZ_Refused_Hollow := cA_eq (aD b33 1 rfl)
  try subst eZ_Refused_Hollow
  have IS_Refused_Hollow : IsX K "Refused" (.ref (cA K "Hollow")) false := ⟨T_Refused.ec, _, fun _ h => h, (aD b33 2 rfl)⟩
  have eZ_Refused_SameName := cA_eq (aD b33 3 rfl)
  try subst eZ_Refused_SameName
  have IS_Refused_SameName : IsX K "Refused" (.ref (cA K "SameName")) false := ⟨T_Refused.ec, _, fun _ h => h, (aD b33 4 rfl)⟩
  have eZ_Refused_UnknownName := cA_eq (aD b33 5 rfl)
  try subst eZ_Refused_UnknownName
  have IS_Refused_UnknownName : IsX K "Refused" (.ref (cA K "UnknownName")) false := ⟨T_Refused.ec, _, fun _ h => h, (aD b33 6 rfl)⟩
  have eZ_Refused_BadLine := cA_eq (aD b33 7 rfl)
  try subst eZ_Refused_BadLine
  have IS_Refused_BadLine : IsX K "Refused" (.ref (cA K "BadLine")) false := ⟨T_Refused.ec, _, fun _ h => h, (aD b33 8 rfl)⟩
  have eZ_Refused_BadMark := cA_eq (aD b33 9 rfl)
  try subst eZ_Refused_BadMark
  have IS_Refused_BadMark : IsX K "Refused" (.ref (cA K "BadMark")) false := ⟨T_Refused.ec, _, fun _ h => h, (aD b33 10 rfl)⟩
  have eZ_Refused_BadMend := cA_eq (aD b33 11 rfl)
  try subst eZ_Refused_BadMend
  have IS_Refused_BadMend : IsX K "Refused" (.ref (cA K "BadMend")) false := ⟨T_Refused.ec, _, fun _ h => h, (aD b33 12 rfl)⟩
  have eZ_Refused_Clash := cA_eq (aD b33 13 rfl)
  try subst eZ_Refused_Clash
  have IS_Refused_Clash : IsX K "Refused" (.ref (cA K "Clash")) false := ⟨T_Refused.ec, _, fun _ h => h, (aD b33 14 rfl)⟩
  have eZ_Refused_Refused := cA_eq (aD b33 15 rfl)
  try subst eZ_Refused_Refused
  have IS_Refused_Refused : IsX K "Refused" (.ref (cA K "Refused")) true := ⟨T_Refused.ec, _, fun _ h => h, (aD b33 16 rfl)⟩
  have eZ_Refused_WrongToken := cA_eq (aD b33 17 rfl)
  try subst eZ_Refused_WrongToken
  have IS_Refused_WrongToken : IsX K "Refused" (.ref (cA K "WrongToken")) false := ⟨T_Refused.ec, _, fun _ h => h, (aD b33 18 rfl)⟩
  have IS_Refused_ValueError : IsX K "Refused" (.ty "ValueError") true := ⟨T_Refused.ec, _, fun _ h => h, (aD b33 19 rfl)⟩
  have eZ_WrongToken_BadName := cA_eq (aD b34 0 rfl)
  try subst eZ_WrongToken_BadName
  have IS_WrongToken_BadName : IsX K "WrongToken" (.ref (cA K "BadName")) false := ⟨T_WrongToken.ec, _, fun _ h => h, (aD b34 1 rfl)⟩
  have eZ_WrongToken_NoRule := cA_eq (aD b34 2 rfl)
  try subst eZ_WrongToken_NoRule
  have IS_WrongToken_NoRule : IsX K "WrongToken" (.ref (cA K "NoRule")) false := ⟨T_WrongToken.ec, _, fun _ h => h, (aD b34 3 rfl)⟩
  have eZ_WrongToken_Useless := cA_eq (aD b34 4 rfl)
  try subst eZ_WrongToken_Useless
  have IS_WrongToken_Useless : IsX K "WrongToken" (.ref (cA K "Useless")) false := ⟨T_WrongToken.ec, _, fun _ h => h, (aD b34 5 rfl)⟩
  have eZ_WrongToken_Hollow := cA_eq (aD b34 6 rfl)
  try subst eZ_WrongToken_Hollow
  have IS_WrongToken_Hollow : IsX K "WrongToken" (.ref (cA K "Hollow")) false := ⟨T_WrongToken.ec, _, fun _ h => h, (aD b34 7 rfl)⟩
  have eZ_WrongToken_SameName := cA_eq (aD b34 8 rfl)
  try subst eZ_WrongToken_SameName
  have IS_WrongToken_SameName : IsX K "WrongToken" (.ref (cA K "SameName")) false := ⟨T_WrongToken.ec, _, fun _ h => h, (aD b34 9 rfl)⟩
  have eZ_WrongToken_UnknownName := cA_eq (aD b34 10 rfl)
  try subst eZ_WrongToken_UnknownName
  have IS_WrongToken_UnknownName : IsX K "WrongToken" (.ref (cA K "UnknownName")) false := ⟨T_WrongToken.ec, _, fun _ h => h, (aD b34 11 rfl)⟩
  have eZ_WrongToken_BadLine := cA_eq (aD b34 12 rfl)
  try subst eZ_WrongToken_BadLine
  have IS_WrongToken_BadLine : IsX K "WrongToken" (.ref (cA K "BadLine")) false := ⟨T_WrongToken.ec, _, fun _ h => h, (aD b34 13 rfl)⟩
  have eZ_WrongToken_BadMark := cA_eq (aD b34 14 rfl)
  try subst eZ_WrongToken_BadMark
  have IS_WrongToken_BadMark : IsX K "WrongToken" (.ref (cA K "BadMark")) false := ⟨T_WrongToken.ec, _, fun _ h => h, (aD b34 15 rfl)⟩
  have eZ_WrongToken_BadMend := cA_eq (aD b34 16 rfl)
  try subst eZ_WrongToken_BadMend
  have IS_WrongToken_BadMend : IsX K "WrongToken" (.ref (cA K "BadMend")) false := ⟨T_WrongToken.ec, _, fun _ h => h, (aD b34 17 rfl)⟩
  have eZ_WrongToken_Clash := cA_eq (aD b34 18 rfl)
  try subst eZ_WrongToken_Clash
  have IS_WrongToken_Clash : IsX K "WrongToken" (.ref (cA K "Clash")) false := ⟨T_WrongToken.ec, _, fun _ h => h, (aD b34 19 rfl)⟩
  have eZ_WrongToken_Refused := cA_eq (aD b35 0 rfl)
  try subst eZ_WrongToken_Refused
  have IS_WrongToken_Refused : IsX K "WrongToken" (.ref (cA K "Refused")) false := ⟨T_WrongToken.ec, _, fun _ h => h, (aD b35 1 rfl)⟩
  have eZ_WrongToken_WrongToken := cA_eq (aD b35 2 rfl)
  try subst eZ_WrongToken_WrongToken
  have IS_WrongToken_WrongToken : IsX K "WrongToken" (.ref (cA K "WrongToken")) true := ⟨T_WrongToken.ec, _, fun _ h => h, (aD b35 3 rfl)⟩
  have IS_WrongToken_ValueError : IsX K "WrongToken" (.ty "ValueError") true := ⟨T_WrongToken.ec, _, fun _ h => h, (aD b35 4 rfl)⟩
  have eZ_BadName_TongueError := cA_eq (aD b35 5 rfl)
  try subst eZ_BadName_TongueError
  have J_TongueError : mg "TongueError" = some (.ref (cA K "TongueError")) := PySem.W.mg_of X G (aD b35 5 rfl)
  have IS_BadName_TongueError : IsX K "BadName" (.ref (cA K "TongueError")) true := ⟨T_BadName.ec, _, fun _ h => h, (aD b35 6 rfl)⟩
  have eZ_NoRule_TongueError := cA_eq (aD b35 7 rfl)
  try subst eZ_NoRule_TongueError
  have IS_NoRule_TongueError : IsX K "NoRule" (.ref (cA K "TongueError")) true := ⟨T_NoRule.ec, _, fun _ h => h, (aD b35 8 rfl)⟩
  have eZ_Useless_TongueError := cA_eq (aD b35 9 rfl)
  try subst eZ_Useless_TongueError
  have IS_Useless_TongueError : IsX K "Useless" (.ref (cA K "TongueError")) true := ⟨T_Useless.ec, _, fun _ h => h, (aD b35 10 rfl)⟩
  have eZ_Hollow_TongueError := cA_eq (aD b35 11 rfl)
  try subst eZ_Hollow_TongueError
  have IS_Hollow_TongueError : IsX K "Hollow" (.ref (cA K "TongueError")) true := ⟨T_Hollow.ec, _, fun _ h => h, (aD b35 12 rfl)⟩
  have eZ_SameName_TongueError := cA_eq (aD b35 13 rfl)
  try subst eZ_SameName_TongueError
  have IS_SameName_TongueError : IsX K "SameName" (.ref (cA K "TongueError")) true := ⟨T_SameName.ec, _, fun _ h => h, (aD b35 14 rfl)⟩
  have eZ_UnknownName_TongueError := cA_eq (aD b35 15 rfl)
  try subst eZ_UnknownName_TongueError
  have IS_UnknownName_TongueError : IsX K "UnknownName" (.ref (cA K "TongueError")) true := ⟨T_UnknownName.ec, _, fun _ h => h, (aD b35 16 rfl)⟩
  have eZ_BadLine_TongueError := cA_eq (aD b35 17 rfl)
  try subst eZ_BadLine_TongueError
  have IS_BadLine_TongueError : IsX K "BadLine" (.ref (cA K "TongueError")) true := ⟨T_BadLine.ec, _, fun _ h => h, (aD b35 18 rfl)⟩
  have eZ_BadMark_TongueError := cA_eq (aD b35 19 rfl)
  try subst eZ_BadMark_TongueError
  have IS_BadMark_TongueError : IsX K "BadMark" (.ref (cA K "TongueError")) true := ⟨T_BadMark.ec, _, fun _ h => h, (aD b36 0 rfl)⟩
  have eZ_BadMend_TongueError := cA_eq (aD b36 1 rfl)
  try subst eZ_BadMend_TongueError
  have IS_BadMend_TongueError : IsX K "BadMend" (.ref (cA K "TongueError")) true := ⟨T_BadMend.ec, _, fun _ h => h, (aD b36 2 rfl)⟩
  have eZ_Clash_TongueError := cA_eq (aD b36 3 rfl)
  try subst eZ_Clash_TongueError
  have IS_Clash_TongueError : IsX K "Clash" (.ref (cA K "TongueError")) true := ⟨T_Clash.ec, _, fun _ h => h, (aD b36 4 rfl)⟩
  have eZ_Refused_TongueError := cA_eq (aD b36 5 rfl)
  try subst eZ_Refused_TongueError
  have IS_Refused_TongueError : IsX K "Refused" (.ref (cA K "TongueError")) true := ⟨T_Refused.ec, _, fun _ h => h, (aD b36 6 rfl)⟩
  have eZ_WrongToken_TongueError := cA_eq (aD b36 7 rfl)
  try subst eZ_WrongToken_TongueError
  have IS_WrongToken_TongueError : IsX K "WrongToken" (.ref (cA K "TongueError")) true := ⟨T_WrongToken.ec, _, fun _ h => h, (aD b36 8 rfl)⟩
  have TE_BadName : PySem.W.exmOne K (.ref (cA K "BadName")) (.ref (cA K "TongueError")) = some true := exm_sub (aD b36 9 rfl) (atB b36 10 rfl) (aD b36 11 rfl) (aD b36 12 rfl)
  have TE_NoRule : PySem.W.exmOne K (.ref (cA K "NoRule")) (.ref (cA K "TongueError")) = some true := exm_sub (aD b36 9 rfl) (atB b36 10 rfl) (aD b36 11 rfl) (aD b36 13 rfl)
  have TE_Useless : PySem.W.exmOne K (.ref (cA K "Useless")) (.ref (cA K "TongueError")) = some true := exm_sub (aD b36 9 rfl) (atB b36 10 rfl) (aD b36 11 rfl) (aD b36 14 rfl)
  have TE_Hollow : PySem.W.exmOne K (.ref (cA K "Hollow")) (.ref (cA K "TongueError")) = some true := exm_sub (aD b36 9 rfl) (atB b36 10 rfl) (aD b36 11 rfl) (aD b36 15 rfl)
  have TE_SameName : PySem.W.exmOne K (.ref (cA K "SameName")) (.ref (cA K "TongueError")) = some true := exm_sub (aD b36 9 rfl) (atB b36 10 rfl) (aD b36 11 rfl) (aD b36 16 rfl)
  have TE_UnknownName : PySem.W.exmOne K (.ref (cA K "UnknownName")) (.ref (cA K "TongueError")) = some true := exm_sub (aD b36 9 rfl) (atB b36 10 rfl) (aD b36 11 rfl) (aD b36 17 rfl)
  have TE_BadLine : PySem.W.exmOne K (.ref (cA K "BadLine")) (.ref (cA K "TongueError")) = some true := exm_sub (aD b36 9 rfl) (atB b36 10 rfl) (aD b36 11 rfl) (aD b36 18 rfl)
  have TE_BadMark : PySem.W.exmOne K (.ref (cA K "BadMark")) (.ref (cA K "TongueError")) = some true := exm_sub (aD b36 9 rfl) (atB b36 10 rfl) (aD b36 11 rfl) (aD b36 19 rfl)
  have TE_BadMend : PySem.W.exmOne K (.ref (cA K "BadMend")) (.ref (cA K "TongueError")) = some true := exm_sub (aD b36 9 rfl) (atB b36 10 rfl) (aD b36 11 rfl) (aD b37 0 rfl)
  have TE_Clash : PySem.W.exmOne K (.ref (cA K "Clash")) (.ref (cA K "TongueError")) = some true := exm_sub (aD b36 9 rfl) (atB b36 10 rfl) (aD b36 11 rfl) (aD b37 1 rfl)
  have TE_Refused : PySem.W.exmOne K (.ref (cA K "Refused")) (.ref (cA K "TongueError")) = some true := exm_sub (aD b36 9 rfl) (atB b36 10 rfl) (aD b36 11 rfl) (aD b37 2 rfl)
  have TE_WrongToken : PySem.W.exmOne K (.ref (cA K "WrongToken")) (.ref (cA K "TongueError")) = some true := exm_sub (aD b36 9 rfl) (atB b36 10 rfl) (aD b36 11 rfl) (aD b37 3 rfl)
  have B_len : mg "len" = none := PySem.W.mg_none_of X G (aD b6 0 rfl)
  have B_all : mg "all" = none := PySem.W.mg_none_of X G (aD b6 1 rfl)
  have B_tuple : mg "tuple" = none := PySem.W.mg_none_of X G (aD b6 2 rfl)
  have B_sum : mg "sum" = none := PySem.W.mg_none_of X G (aD b6 3 rfl)
  have B_list : mg "list" = none := PySem.W.mg_none_of X G (aD b6 4 rfl)
  have B_int : mg "int" = none := PySem.W.mg_none_of X G (aD b6 5 rfl)
  have B_range : mg "range" = none := PySem.W.mg_none_of X G (aD b6 6 rfl)
  have B_isinstance : mg "isinstance" = none := PySem.W.mg_none_of X G (aD b6 7 rfl)
  have B_ValueError : mg "ValueError" = none := PySem.W.mg_none_of X G (aD b6 8 rfl)
  have M_LONGEST : ∃ t, mg "LONGEST" = some (Value.int 8 t) := ⟨_, PySem.W.mg_of X G mc0⟩
  have M_SMALL : ∃ t, mg "SMALL" = some (Value.str "abcdefghijklmnopqrstuvwxyz" t) := ⟨_, PySem.W.mg_of X G mc1⟩
  have D_is_owner : Df K mg "is_owner" s_is_owner := ⟨(cA K "is_owner"), _, fun_mk (st := s_is_owner) l0 c0 (atB b3 16 rfl), PySem.W.mg_of X G (aD b3 15 rfl)⟩
  have D_owner : Df K mg "owner" s_owner := ⟨(cA K "owner"), _, fun_mk (st := s_owner) l1 c1 (atB b3 18 rfl), PySem.W.mg_of X G (aD b3 17 rfl)⟩
  have D_is_token : Df K mg "is_token" s_is_token := ⟨(cA K "is_token"), _, fun_mk (st := s_is_token) l2 c2 (atB b4 0 rfl), PySem.W.mg_of X G (aD b3 19 rfl)⟩
  have D_distinct_v1 : Df K mg "distinct" s_distinct_v1 := ⟨(cA K "distinct"), _, fun_mk (st := s_distinct_v1) l3 c3 (atB b4 2 rfl), PySem.W.mg_of X G (aD b4 1 rfl)⟩
  have D_finished_names : Df K mg "finished_names" s_finished_names := ⟨(cA K "finished_names"), _, fun_mk (st := s_finished_names) l4 c4 (atB b4 4 rfl), PySem.W.mg_of X G (aD b4 3 rfl)⟩
  have D_reached_names : Df K mg "reached_names" s_reached_names := ⟨(cA K "reached_names"), _, fun_mk (st := s_reached_names) l5 c5 (atB b4 6 rfl), PySem.W.mg_of X G (aD b4 5 rfl)⟩
  have D_is_own_head : Df K mg "is_own_head" s_is_own_head := ⟨(cA K "is_own_head"), _, fun_mk (st := s_is_own_head) l6 c6 (atB b4 8 rfl), PySem.W.mg_of X G (aD b4 7 rfl)⟩
  have D_check_signs : Df K mg "check_signs" s_check_signs := ⟨(cA K "check_signs"), _, fun_mk (st := s_check_signs) l7 c7 (atB b4 10 rfl), PySem.W.mg_of X G (aD b4 9 rfl)⟩
  have D_has_mark : Df K mg "has_mark" s_has_mark := ⟨(cA K "has_mark"), _, fun_mk (st := s_has_mark) l8 c8 (atB b4 12 rfl), PySem.W.mg_of X G (aD b4 11 rfl)⟩
  have D_check_marks : Df K mg "check_marks" s_check_marks := ⟨(cA K "check_marks"), _, fun_mk (st := s_check_marks) l9 c9 (atB b4 14 rfl), PySem.W.mg_of X G (aD b4 13 rfl)⟩
  have D_check_own : Df K mg "check_own" s_check_own := ⟨(cA K "check_own"), _, fun_mk (st := s_check_own) l10 c10 (atB b4 16 rfl), PySem.W.mg_of X G (aD b4 15 rfl)⟩
  have D__law_cell : Df K mg "_law_cell" s__law_cell := ⟨(cA K "_law_cell"), _, fun_mk (st := s__law_cell) l11 c11 (atB b4 18 rfl), PySem.W.mg_of X G (aD b4 17 rfl)⟩
  have D__law_draws : Df K mg "_law_draws" s__law_draws := ⟨(cA K "_law_draws"), _, fun_mk (st := s__law_draws) l12 c12 (atB b5 0 rfl), PySem.W.mg_of X G (aD b4 19 rfl)⟩
  have D__law_word : Df K mg "_law_word" s__law_word := ⟨(cA K "_law_word"), _, fun_mk (st := s__law_word) l13 c13 (atB b5 2 rfl), PySem.W.mg_of X G (aD b5 1 rfl)⟩
  have D__law_shown : Df K mg "_law_shown" s__law_shown := ⟨(cA K "_law_shown"), _, fun_mk (st := s__law_shown) l14 c14 (atB b5 4 rfl), PySem.W.mg_of X G (aD b5 3 rfl)⟩
  have D__law_raised : Df K mg "_law_raised" s__law_raised := ⟨(cA K "_law_raised"), _, fun_mk (st := s__law_raised) l15 c15 (atB b5 6 rfl), PySem.W.mg_of X G (aD b5 5 rfl)⟩
  have D_Named_init_Extension : DfF K (cA K "Named") "__init__" "Named.__init__" s_Named_init_Extension := ⟨(He.ma K (cA K "Named") "__init__"), _, ⟨⟨_, _, _, _, _, _, _, _, _, _, rfl, l17, c17, .inl ⟨rfl, rfl⟩⟩, (atB b5 12 rfl)⟩, ⟨(atB b5 10 rfl), (aD b5 11 rfl)⟩, (valB_ok (atB b5 9 rfl))⟩
  have D_Ruled_init_Extension : DfF K (cA K "Ruled") "__init__" "Ruled.__init__" s_Ruled_init_Extension := ⟨(He.ma K (cA K "Ruled") "__init__"), _, ⟨⟨_, _, _, _, _, _, _, _, _, _, rfl, l18, c18, .inl ⟨rfl, rfl⟩⟩, (atB b5 16 rfl)⟩, ⟨(atB b5 14 rfl), (aD b5 15 rfl)⟩, (valB_ok (atB b5 13 rfl))⟩
  have D_Extension___init__ : DfEK K (cA K "Extension") "Extension.__init__" "base" s_Extension___init__ := ⟨(He.ma K (cA K "Extension") "__init__"), _, ⟨⟨_, _, _, _, _, _, _, _, _, _, rfl, l19, c19, .inl ⟨rfl, rfl⟩, .inr ⟨KD19, rfl, fun q hq => by cases List.mem_singleton.mp hq; exact ⟨_, x_k19, rfl⟩⟩⟩, (atB b5 19 rfl)⟩, (aD b5 17 rfl), (atB b5 18 rfl)⟩
  have C__law_cell := c__law_cell (P := P0) (w := w) (base := base) D__law_cell B_len B_int
  have C__law_draws := c__law_draws (P := P0) (w := w) (base := base) D__law_draws B_int B_range
  have C__law_word := c__law_word (P := P0) (w := w) (base := base) D__law_word B_int B_len
  have C_is_owner := c_is_owner (P := P0) (w := w) (base := base) D_is_owner B_len B_all M_LONGEST M_SMALL
  have CF_Named_init_Extension := c_Named_init_Extension (P := P0) (w := w) (base := base) D_Named_init_Extension K_Named K_Extension N_Extension_name E_BadName C_is_owner
  have C_distinct_v1 := c_distinct_v1 (P := P0) (w := w) (base := base) D_distinct_v1 B_tuple
  have CF_Ruled_init_Extension := c_Ruled_init_Extension (P := P0) (w := w) (base := base) D_Ruled_init_Extension K_Ruled K_Extension N_Extension_rules C_distinct_v1
  have C_owner := c_owner (P := P0) (w := w) (base := base) D_owner 
  have C_check_signs := c_check_signs (P := P0) (w := w) (base := base) D_check_signs E_BadName C_owner
  have C_is_token := c_is_token (P := P0) (w := w) (base := base) D_is_token M_SMALL
  have C_has_mark := c_has_mark (P := P0) (w := w) (base := base) D_has_mark B_sum C_owner C_is_token
  have C_check_marks := c_check_marks (P := P0) (w := w) (base := base) D_check_marks E_BadMark C_owner C_has_mark
  have C_is_own_head := c_is_own_head (P := P0) (w := w) (base := base) D_is_own_head C_owner C_is_token
  have C_reached_names := c_reached_names (P := P0) (w := w) (base := base) D_reached_names C_is_token
  have C_finished_names := c_finished_names (P := P0) (w := w) (base := base) D_finished_names B_all C_is_token
  have C_check_own := c_check_own (P := P0) (w := w) (base := base) D_check_own E_NoRule E_Useless C_is_own_head C_owner C_reached_names C_finished_names
  have IN_Extension := (c_Extension___init__ (P := P0) (w := w) (base := base) D_Extension___init__ B_list K_Named CF_Named_init_Extension K_Extension N_Extension_owners N_Extension_rules K_Ruled CF_Ruled_init_Extension N_Extension_base E_SameName C_check_signs C_check_marks C_check_own).1
  have IK_Extension := (c_Extension___init__ (P := P0) (w := w) (base := base) D_Extension___init__ B_list K_Named CF_Named_init_Extension K_Extension N_Extension_owners N_Extension_rules K_Ruled CF_Ruled_init_Extension N_Extension_base E_SameName C_check_signs C_check_marks C_check_own).2
  have C__law_shown := c__law_shown (P := P0) (w := w) (base := base) D__law_shown B_isinstance B_range B_ValueError T_BadName T_NoRule T_Useless T_Hollow T_SameName T_UnknownName T_BadLine T_BadMark T_BadMend T_Clash T_Refused T_WrongToken F_Clash F_Refused F_WrongToken IS_BadName_BadName J_BadName IS_BadName_NoRule J_NoRule IS_BadName_Useless J_Useless IS_BadName_Hollow J_Hollow IS_BadName_SameName J_SameName IS_BadName_UnknownName J_UnknownName IS_BadName_BadLine J_BadLine IS_BadName_BadMark J_BadMark IS_BadName_BadMend J_BadMend IS_BadName_Clash J_Clash IS_BadName_Refused J_Refused IS_BadName_WrongToken J_WrongToken IS_BadName_ValueError IS_NoRule_BadName IS_NoRule_NoRule IS_NoRule_Useless IS_NoRule_Hollow IS_NoRule_SameName IS_NoRule_UnknownName IS_NoRule_BadLine IS_NoRule_BadMark IS_NoRule_BadMend IS_NoRule_Clash IS_NoRule_Refused IS_NoRule_WrongToken IS_NoRule_ValueError IS_Useless_BadName IS_Useless_NoRule IS_Useless_Useless IS_Useless_Hollow IS_Useless_SameName IS_Useless_UnknownName IS_Useless_BadLine IS_Useless_BadMark IS_Useless_BadMend IS_Useless_Clash IS_Useless_Refused IS_Useless_WrongToken IS_Useless_ValueError IS_Hollow_BadName IS_Hollow_NoRule IS_Hollow_Useless IS_Hollow_Hollow IS_Hollow_SameName IS_Hollow_UnknownName IS_Hollow_BadLine IS_Hollow_BadMark IS_Hollow_BadMend IS_Hollow_Clash IS_Hollow_Refused IS_Hollow_WrongToken IS_Hollow_ValueError IS_SameName_BadName IS_SameName_NoRule IS_SameName_Useless IS_SameName_Hollow IS_SameName_SameName IS_SameName_UnknownName IS_SameName_BadLine IS_SameName_BadMark IS_SameName_BadMend IS_SameName_Clash IS_SameName_Refused IS_SameName_WrongToken IS_SameName_ValueError IS_UnknownName_BadName IS_UnknownName_NoRule IS_UnknownName_Useless IS_UnknownName_Hollow IS_UnknownName_SameName IS_UnknownName_UnknownName IS_UnknownName_BadLine IS_UnknownName_BadMark IS_UnknownName_BadMend IS_UnknownName_Clash IS_UnknownName_Refused IS_UnknownName_WrongToken IS_UnknownName_ValueError IS_BadLine_BadName IS_BadLine_NoRule IS_BadLine_Useless IS_BadLine_Hollow IS_BadLine_SameName IS_BadLine_UnknownName IS_BadLine_BadLine IS_BadLine_BadMark IS_BadLine_BadMend IS_BadLine_Clash IS_BadLine_Refused IS_BadLine_WrongToken IS_BadLine_ValueError IS_BadMark_BadName IS_BadMark_NoRule IS_BadMark_Useless IS_BadMark_Hollow IS_BadMark_SameName IS_BadMark_UnknownName IS_BadMark_BadLine IS_BadMark_BadMark IS_BadMark_BadMend IS_BadMark_Clash IS_BadMark_Refused IS_BadMark_WrongToken IS_BadMark_ValueError IS_BadMend_BadName IS_BadMend_NoRule IS_BadMend_Useless IS_BadMend_Hollow IS_BadMend_SameName IS_BadMend_UnknownName IS_BadMend_BadLine IS_BadMend_BadMark IS_BadMend_BadMend IS_BadMend_Clash IS_BadMend_Refused IS_BadMend_WrongToken IS_BadMend_ValueError IS_Clash_BadName IS_Clash_NoRule IS_Clash_Useless IS_Clash_Hollow IS_Clash_SameName IS_Clash_UnknownName IS_Clash_BadLine IS_Clash_BadMark IS_Clash_BadMend IS_Clash_Clash IS_Clash_Refused IS_Clash_WrongToken IS_Clash_ValueError IS_Refused_BadName IS_Refused_NoRule IS_Refused_Useless IS_Refused_Hollow IS_Refused_SameName IS_Refused_UnknownName IS_Refused_BadLine IS_Refused_BadMark IS_Refused_BadMend IS_Refused_Clash IS_Refused_Refused IS_Refused_WrongToken IS_Refused_ValueError IS_WrongToken_BadName IS_WrongToken_NoRule IS_WrongToken_Useless IS_WrongToken_Hollow IS_WrongToken_SameName IS_WrongToken_UnknownName IS_WrongToken_BadLine IS_WrongToken_BadMark IS_WrongToken_BadMend IS_WrongToken_Clash IS_WrongToken_Refused IS_WrongToken_WrongToken IS_WrongToken_ValueError
  have C__law_raised := c__law_raised (P := P0) (w := w) (base := base) D__law_raised IS_BadName_TongueError J_TongueError IS_NoRule_TongueError IS_Useless_TongueError IS_Hollow_TongueError IS_SameName_TongueError IS_UnknownName_TongueError IS_BadLine_TongueError IS_BadMark_TongueError IS_BadMend_TongueError IS_Clash_TongueError IS_Refused_TongueError IS_WrongToken_TongueError E_BadName E_NoRule E_Useless E_Hollow E_SameName E_UnknownName E_BadLine E_BadMark E_BadMend E_Clash E_Refused E_WrongToken TE_BadName TE_NoRule TE_Useless TE_Hollow TE_SameName TE_UnknownName TE_BadLine TE_BadMark TE_BadMend TE_Clash TE_Refused TE_WrongToken C__law_shown
  exact c_law (fun_mk (st := s_law) l16 c16 (atB b5 8 rfl)) B_int B_range K_Extension IN_Extension C__law_cell C__law_draws C__law_word C__law_raised
end
end Gt
open PySem PySem.W PySem.Calls PyProof.Rows in
set_option maxRecDepth 100000 in
set_option maxHeartbeats 0 in
theorem PySem.Challenge.cw_guesttongues_k47_errors_holds : PySem.Challenge.rw_guesttongues_k47_errors.Holds := by
  refine Gt.headR ?_
  refine L2.walk_ofE (l := PySem.Challenge.rw_guesttongues_k47_errors) (n := 63) (k := 6) (x := "_law_script") (CX := L2.CX0) rfl (by decide) (by kernel_rfl) ⟨rfl, by decide, by decide⟩ ?F (fun _ _ _ _ z => z)
  intro w mg fa h Y G hmg0
  obtain ⟨K, KX, c⟩ := Y
  have e : (HandSHeadRun.topDef Gt.R0.prog 45).name = ("law" : PySem.Str) := by kernel_rfl
  rw [e] at hmg0
  obtain ⟨fd, hb, hF⟩ := Gt.heads (w := w) KX G hmg0 c
  exact ⟨K, fd, Gt.sp_law K, KX, hb, fun H a ns hl _ hS => ⟨(ns, ()), true, ⟨_, _, rfl, ⟨a, _, rfl, hS, Gt.A2.of_map _⟩, rfl⟩, Gt.law_ok ns, fun v H' _ z => z⟩, hF⟩
#print axioms PySem.Challenge.cw_guesttongues_k47_errors_holds
