import PyProof.Rows.All
import Wide.All
import OpenK.AllK
import Wide.FinOn
import HandS.ForMost
import HandS.Evl
import HandS.IsInst
import HandS.Deep
import HandS.IterVal
import HandS.OwnEq
import HandS.OwnIter
import HandS.SlotsOwn
import KE.KOpsOwn
import HandS.TupAny
import PyProof.P3In
import HandS.Defaults
import PyProof.StrOps2
import KE.KExcSuper
import HandS.Exc
import HandS.ExcOwn
import HandS.TryOnly
import HandS.ExcField
import HandS.ExcIs
import HandS.WordsExc
import HandS.Star
import HandS.Property
import KE.KCallOwn
import HandS.IterNext
import KE.GoesEnumKw
import HandS.Iter
import HandS.ClsMeth
import HandS.Strs
import HandS.SetFor
import PyProof.Rows.SortShellAny
import HandS.RaiseMore
import HandS.TryMany
import HandS.NoneIn
import HandS.FStr
import HandS.StrMore
import PyProof.FString3
import HandS.DictEq
import PyProof.EqLayable
import HandS.List
import HandS.RevTup
import HandS.Rev
import HandS.Style
import PyProof.EqAt
import PyProof.EqKinds
import HandS.MakeKwOnly
import HandS.DictComp
import KE.KStateDown
import HandS.Head0
import HandS.Head1
import HandS.Head2
import HandS.HeadEnd
import HandS.HeadHook1
import HandS.HeadHook2
import PySem.Challenge.RW_guesttongues_k32_whole_reads_runs
set_option Elab.async false
set_option linter.all false
set_option maxRecDepth 100000
set_option maxHeartbeats 4000000
namespace Gt
open PySem PySem.Spec PyProof.Rows L2
def refsY (o : Obj) : List Addr := (match o.dict with
  | some d => [d]
  | none => []) ++ match o.data with
  | .seq its _ => its.toList.flatMap He.refV
  | .dict es _ => es.toList.flatMap fun e => He.refV e.val
  | .func fd => He.refV fd.code ++ He.refV fd.defaults ++ He.refV fd.kwdefaults ++ fd.closure.map (·.2)
  | .cls cd => [cd.ns]
  | .fields vs => vs.toList.flatMap He.refV
  | .cell (some v) => He.refV v
  | _ => []
def lvY (g : Addr → Option Obj) (as : List Addr) : List Addr := as.flatMap fun a => match g a with
  | some o => refsY o
  | none => []
def asY (g : Addr → Option Obj) : Nat → List Addr → List Addr
  | 0, as => as
  | n + 1, as => as ++ asY g n (lvY g as)
def fdOf (K : PySem.W.Frag) (a : Addr) : Option FuncData := match K.lookup a with
  | some ⟨_, _, .func fd, _⟩ => some fd
  | _ => none
abbrev FnY : Type := Option (Str × Str × Arguments × FuncBody × Scope × Addr × List Str × Addr)
def fnY (K : PySem.W.Frag) (a : Addr) : FnY := (fdOf K a).map fun fd => (fd.name, fd.qualname, fd.params, fd.body, fd.scope, fd.globals, fd.closure.map (·.1), fd.builtins)
structure FnAt where
  at_ : PySem.W.Frag → Addr
  name : Str
  qual : Str
  params : Arguments
  body : List Stmt
  scope : Scope
  clo : List Str
def FnAt.val (d : FnAt) : FnY := some (d.name, d.qual, d.params, .stmts d.body, d.scope, mainGlobals, d.clo, builtinsNs)
abbrev AlY : Type := Bool × List FnY
def obsY (ok : PySem.W.Frag → Bool) (fn : List FnAt) (K : PySem.W.Frag) : AlY := (ok K, fn.map fun d => fnY K (d.at_ K))
def valY (fn : List FnAt) : AlY := (true, fn.map FnAt.val)
def SaysY (ok : PySem.W.Frag → Bool) (fn : List FnAt) (K : PySem.W.Frag) : Prop := obsY ok fn K = valY fn
def obsYG (n : Nat) (ok : PySem.W.Frag → Bool) (fn : List FnAt) (g : Addr → Option Obj) : AlY := obsY ok fn (He.frG g (cStatics :: asY g n [mainGlobals]))
def hookY (n : Nat) (ok : PySem.W.Frag → Bool) (fn : List FnAt) : PySem.W.Hook where
  α := AlY
  obs := fun s => obsYG n ok fn s.heap.get?
  val := fun _ => valY fn
  says := fun _ h => ∃ K : PySem.W.Frag, K.In h ∧ SaysY ok fn K
  of := fun _ _ e => ⟨_, He.frG_in, e⟩
  keeps := fun _ _ _ ⟨K, hK, c⟩ k => ⟨K, PySem.W.Frag.In.keeps hK k, c⟩
theorem obsYG_eq {n : Nat} {ok : PySem.W.Frag → Bool} {fn : List FnAt} {g : Addr → Option Obj} {s : Shared} (h : ∀ a, g a = s.heap.get? a) : obsYG n ok fn g = (hookY n ok fn).obs s := by
  have e : g = s.heap.get? := funext h
  rw [e] <;> rfl
section
variable {fn : List FnAt} {K : PySem.W.Frag} {f C : Addr}
theorem atB {l : List Bool} {b : Bool} (h : l.all id = true) (i : Nat) (e : l[i]? = some b) : b = true := List.all_eq_true.mp h b (List.mem_of_getElem? e)
theorem SaysY.fact {fa : PySem.W.Frag → List Bool} (c : SaysY (fun K => (fa K).all id) fn K) {b : Bool} (i : Nat) (h : (fa K)[i]? = some b) : b = true := by
  have c1 : (fa K).all id = true := congrArg (fun z : AlY => z.1) c
  exact List.all_eq_true.mp c1 b (List.mem_of_getElem? h)
theorem SaysY.dat {ok : PySem.W.Frag → Bool} (c : SaysY ok fn K) {d : FnAt} (i : Nat) (h : fn[i]? = some d) : fnY K (d.at_ K) = d.val := by
  have e : fn.map (fun d => fnY K (d.at_ K)) = fn.map FnAt.val := congrArg (fun z : AlY => z.2) c
  have e2 : (fn.map fun d => fnY K (d.at_ K))[i]? = (fn.map FnAt.val)[i]? := by rw [e]
  rw [List.getElem?_map, List.getElem?_map, h] at e2
  exact Option.some.inj e2
theorem fdOf_at {fd : FuncData} (h : fdOf K f = some fd) : ∃ oc od sl, K.lookup f = some ⟨oc, od, .func fd, sl⟩ := by
  unfold fdOf at h
  cases q : K.lookup f with
  | none => rw [q] at h; cases h
  | some o =>
    obtain ⟨oc, od, dt, sl⟩ := o
    rw [q] at h
    cases dt with
    | func fd' => cases h; exact ⟨oc, od, sl, rfl⟩
    | _ => cases h
/-- a test of the def at f -/
def fdB (K : PySem.W.Frag) (f : Addr) (p : FuncData → Bool) : Bool := match fdOf K f with
  | some fd => p fd
  | none => false
def isNon : Value → Bool
  | .none => true
  | _ => false
theorem isNon_ok {v : Value} (h : isNon v = true) : v = .none := by cases v <;> first | rfl | cases h
section
variable {d : FnAt}
theorem fn_at (e : fnY K (d.at_ K) = d.val) (hc : d.clo = []) : ∃ dV kV doc pm an cdv ct, fdOf K (d.at_ K) = some (PySem.W.fnOf d.name d.qual d.params d.body d.scope dV kV doc pm an cdv ct) := by
  unfold fnY FnAt.val at e
  cases q : fdOf K (d.at_ K) with
  | none => rw [q] at e; cases e
  | some fd =>
    obtain ⟨n1, n2, n3, n4, n5, n6, n7, n8, n9, n10, n11, n12, n13, n14, n15⟩ := fd
    rw [q, hc] at e
    have e2 : (some (n1, n2, n3, n4, n5, n6, n7.map (·.1), n15) : FnY) = some (d.name, d.qual, d.params, .stmts d.body, d.scope, mainGlobals, [], builtinsNs) := e
    simp only [Option.some.injEq, Prod.mk.injEq, List.map_eq_nil_iff] at e2
    obtain ⟨h1, h2, h3, h4, h5, h6, h7, h8⟩ := e2
    subst h1 h2 h3 h4 h5 h6 h7 h8
    exact ⟨n8, n9, n10, n11, n12, n13, n14, rfl⟩
/-- a def without defaults -/
def okF0 (K : PySem.W.Frag) (q : Str) (fd : FuncData) : Bool := isNon fd.defaults && PySem.W.codeIn K fd.code q
theorem fn_0 (e : fnY K (d.at_ K) = d.val) (hc : d.clo = []) (b : fdB K (d.at_ K) (okF0 K d.qual) = true) :
    ∃ oc od kV doc pm an cdv ct sl, K.lookup (d.at_ K) = some ⟨oc, od, .func (PySem.W.fnOf d.name d.qual d.params d.body d.scope .none kV doc pm an cdv ct), sl⟩ ∧ PySem.W.codeIn K cdv d.qual = true := by
  obtain ⟨dV, kV, doc, pm, an, cdv, ct, h⟩ := fn_at e hc
  unfold fdB at b
  rw [h] at b
  obtain ⟨b1, b2⟩ := He.ba (show (isNon dV && PySem.W.codeIn K cdv d.qual) = true from b)
  cases isNon_ok b1
  obtain ⟨oc, od, sl, l⟩ := fdOf_at h
  exact ⟨oc, od, kV, doc, pm, an, cdv, ct, sl, l, b2⟩
end
end
end Gt
namespace Gt
open PySem PySem.Spec PyProof.Rows L2
def topS (i : Nat) : Stmt := PySem.Challenge.pw_guesttongues_k32_whole_reads_runs.main.body.getD i (.Pass ⟨0, 0, 0, 0⟩)
abbrev s_advance : Stmt := topS 9
abbrev s_finish : Stmt := topS 10
abbrev s_read : Stmt := topS 11
abbrev s__law_cell : Stmt := topS 15
abbrev s__law_draws : Stmt := topS 16
abbrev s__law_name : Stmt := topS 17
abbrev s__law_is_token : Stmt := topS 18
abbrev s__law_put : Stmt := topS 19
abbrev s__law_empty : Stmt := topS 20
abbrev s__law_first : Stmt := topS 21
abbrev s__law_sets : Stmt := topS 22
abbrev s__law_meet : Stmt := topS 23
abbrev s__law_clashes : Stmt := topS 24
abbrev s__law_offers : Stmt := topS 25
abbrev s__law_host : Stmt := topS 26
abbrev s__law_heads : Stmt := topS 27
abbrev s__law_tokens : Stmt := topS 28
abbrev s__law_tail : Stmt := topS 29
abbrev s__law_inner : Stmt := topS 30
abbrev s__law_guest : Stmt := topS 31
abbrev s__law_table : Stmt := topS 32
abbrev s__law_run : Stmt := topS 33
abbrev s__law_walk : Stmt := topS 34
abbrev s__law_union : Stmt := topS 35
abbrev s_law : Stmt := topS 36
abbrev s_Reader___init__ : Stmt := inClass (topS 13) 0
abbrev s_Reader___call__ : Stmt := inClass (topS 13) 1
def dt0 : FnAt := ⟨fun K => (He.ga K "advance"), "advance", "advance", defArgs s_advance, defBody s_advance, defScope s_advance, []⟩
def dt1 : FnAt := ⟨fun K => (He.ga K "finish"), "finish", "finish", defArgs s_finish, defBody s_finish, defScope s_finish, []⟩
def dt2 : FnAt := ⟨fun K => (He.ga K "read"), "read", "read", defArgs s_read, defBody s_read, defScope s_read, []⟩
def dt3 : FnAt := ⟨fun K => (He.ga K "_law_cell"), "_law_cell", "_law_cell", defArgs s__law_cell, defBody s__law_cell, defScope s__law_cell, []⟩
def dt4 : FnAt := ⟨fun K => (He.ga K "_law_draws"), "_law_draws", "_law_draws", defArgs s__law_draws, defBody s__law_draws, defScope s__law_draws, []⟩
def dt5 : FnAt := ⟨fun K => (He.ga K "_law_name"), "_law_name", "_law_name", defArgs s__law_name, defBody s__law_name, defScope s__law_name, []⟩
def dt6 : FnAt := ⟨fun K => (He.ga K "_law_is_token"), "_law_is_token", "_law_is_token", defArgs s__law_is_token, defBody s__law_is_token, defScope s__law_is_token, []⟩
def dt7 : FnAt := ⟨fun K => (He.ga K "_law_put"), "_law_put", "_law_put", defArgs s__law_put, defBody s__law_put, defScope s__law_put, []⟩
def dt8 : FnAt := ⟨fun K => (He.ga K "_law_empty"), "_law_empty", "_law_empty", defArgs s__law_empty, defBody s__law_empty, defScope s__law_empty, []⟩
def dt9 : FnAt := ⟨fun K => (He.ga K "_law_first"), "_law_first", "_law_first", defArgs s__law_first, defBody s__law_first, defScope s__law_first, []⟩
def dt10 : FnAt := ⟨fun K => (He.ga K "_law_sets"), "_law_sets", "_law_sets", defArgs s__law_sets, defBody s__law_sets, defScope s__law_sets, []⟩
def dt11 : FnAt := ⟨fun K => (He.ga K "_law_meet"), "_law_meet", "_law_meet", defArgs s__law_meet, defBody s__law_meet, defScope s__law_meet, []⟩
def dt12 : FnAt := ⟨fun K => (He.ga K "_law_clashes"), "_law_clashes", "_law_clashes", defArgs s__law_clashes, defBody s__law_clashes, defScope s__law_clashes, []⟩
def dt13 : FnAt := ⟨fun K => (He.ga K "_law_offers"), "_law_offers", "_law_offers", defArgs s__law_offers, defBody s__law_offers, defScope s__law_offers, []⟩
def dt14 : FnAt := ⟨fun K => (He.ga K "_law_host"), "_law_host", "_law_host", defArgs s__law_host, defBody s__law_host, defScope s__law_host, []⟩
def dt15 : FnAt := ⟨fun K => (He.ga K "_law_heads"), "_law_heads", "_law_heads", defArgs s__law_heads, defBody s__law_heads, defScope s__law_heads, []⟩
def dt16 : FnAt := ⟨fun K => (He.ga K "_law_tokens"), "_law_tokens", "_law_tokens", defArgs s__law_tokens, defBody s__law_tokens, defScope s__law_tokens, []⟩
def dt17 : FnAt := ⟨fun K => (He.ga K "_law_tail"), "_law_tail", "_law_tail", defArgs s__law_tail, defBody s__law_tail, defScope s__law_tail, []⟩
def dt18 : FnAt := ⟨fun K => (He.ga K "_law_inner"), "_law_inner", "_law_inner", defArgs s__law_inner, defBody s__law_inner, defScope s__law_inner, []⟩
def dt19 : FnAt := ⟨fun K => (He.ga K "_law_guest"), "_law_guest", "_law_guest", defArgs s__law_guest, defBody s__law_guest, defScope s__law_guest, []⟩
def dt20 : FnAt := ⟨fun K => (He.ga K "_law_table"), "_law_table", "_law_table", defArgs s__law_table, defBody s__law_table, defScope s__law_table, []⟩
def dt21 : FnAt := ⟨fun K => (He.ga K "_law_run"), "_law_run", "_law_run", defArgs s__law_run, defBody s__law_run, defScope s__law_run, []⟩
def dt22 : FnAt := ⟨fun K => (He.ga K "_law_walk"), "_law_walk", "_law_walk", defArgs s__law_walk, defBody s__law_walk, defScope s__law_walk, []⟩
def dt23 : FnAt := ⟨fun K => (He.ga K "_law_union"), "_law_union", "_law_union", defArgs s__law_union, defBody s__law_union, defScope s__law_union, []⟩
def dt24 : FnAt := ⟨fun K => (He.ga K "law"), "law", "law", defArgs s_law, defBody s_law, defScope s_law, []⟩
def dt25 : FnAt := ⟨fun K => (He.ma K (He.ga K "Reader") "__init__"), "__init__", "Reader.__init__", defArgs s_Reader___init__, defBody s_Reader___init__, defScope s_Reader___init__, []⟩
def dt26 : FnAt := ⟨fun K => (He.ma K (He.ga K "Reader") "__call__"), "__call__", "Reader.__call__", defArgs s_Reader___call__, defBody s_Reader___call__, defScope s_Reader___call__, []⟩
def dts : List FnAt := [dt0, dt1, dt2, dt3, dt4, dt5, dt6, dt7, dt8, dt9, dt10, dt11, dt12, dt13, dt14, dt15, dt16, dt17, dt18, dt19, dt20, dt21, dt22, dt23, dt24, dt25, dt26]
abbrev R0 : PySem.W.OpenRow := PySem.W.OpenLaw.row PySem.Challenge.rw_guesttongues_k32_whole_reads_runs
def gb0 (K : PySem.W.Frag) : List Bool := [fdB K (He.ga K "advance") (okF0 K "advance"),
  fdB K (He.ga K "finish") (okF0 K "finish"),
  fdB K (He.ga K "read") (okF0 K "read"),
  fdB K (He.ga K "_law_cell") (okF0 K "_law_cell"),
  fdB K (He.ga K "_law_draws") (okF0 K "_law_draws"),
  fdB K (He.ga K "_law_name") (okF0 K "_law_name"),
  fdB K (He.ga K "_law_is_token") (okF0 K "_law_is_token"),
  fdB K (He.ga K "_law_put") (okF0 K "_law_put"),
  fdB K (He.ga K "_law_empty") (okF0 K "_law_empty"),
  fdB K (He.ga K "_law_first") (okF0 K "_law_first"),
  fdB K (He.ga K "_law_sets") (okF0 K "_law_sets"),
  fdB K (He.ga K "_law_meet") (okF0 K "_law_meet"),
  fdB K (He.ga K "_law_clashes") (okF0 K "_law_clashes"),
  fdB K (He.ga K "_law_offers") (okF0 K "_law_offers"),
  fdB K (He.ga K "_law_host") (okF0 K "_law_host"),
  fdB K (He.ga K "_law_heads") (okF0 K "_law_heads"),
  fdB K (He.ga K "_law_tokens") (okF0 K "_law_tokens"),
  fdB K (He.ga K "_law_tail") (okF0 K "_law_tail"),
  fdB K (He.ga K "_law_inner") (okF0 K "_law_inner"),
  fdB K (He.ga K "_law_guest") (okF0 K "_law_guest")]
def gb1 (K : PySem.W.Frag) : List Bool := [fdB K (He.ga K "_law_table") (okF0 K "_law_table"),
  fdB K (He.ga K "_law_run") (okF0 K "_law_run"),
  fdB K (He.ga K "_law_walk") (okF0 K "_law_walk"),
  fdB K (He.ga K "_law_union") (okF0 K "_law_union"),
  fdB K (He.ga K "law") (okF0 K "law"),
  fdB K (He.ma K (He.ga K "Reader") "__init__") (okF0 K "Reader.__init__"),
  fdB K (He.ma K (He.ga K "Reader") "__call__") (okF0 K "Reader.__call__"),
  decide (PySem.W.nsIn K mainGlobals "Reader" = some (some (.ref (He.ga K "Reader")))),
  PySem.W.plainGet K (He.ga K "Reader") Str.empty,
  PySem.W.hasDictIn K (He.ga K "Reader"),
  PySem.W.plainOver K (He.ga K "Reader"),
  decide (PySem.W.findIn K (.ref (He.ga K "Reader")) "__setattr__" = some (some (.builtin "object.__setattr__"))),
  PySem.W.selfFirst K (He.ga K "Reader"),
  PySem.W.noSeq K (He.ga K "Reader"),
  PySem.W.makesIn K (He.ga K "Reader"),
  PySem.W.keepIn K (.ref (He.ga K "Reader")),
  decide (PySem.W.findIn K (.ref (He.ga K "Reader")) "first" = some none),
  decide (PySem.W.findIn K (.ref (He.ga K "Reader")) "entries" = some none),
  decide (PySem.W.nsIn K mainGlobals "advance" = some (some (.ref (He.ga K "advance")))),
  PySem.W.keepIn K (.ref (He.ga K "advance"))]
def gb2 (K : PySem.W.Frag) : List Bool := [decide (PySem.W.nsIn K mainGlobals "finish" = some (some (.ref (He.ga K "finish")))),
  PySem.W.keepIn K (.ref (He.ga K "finish")),
  decide (PySem.W.nsIn K mainGlobals "read" = some (some (.ref (He.ga K "read")))),
  PySem.W.keepIn K (.ref (He.ga K "read")),
  decide (PySem.W.nsIn K mainGlobals "_law_cell" = some (some (.ref (He.ga K "_law_cell")))),
  PySem.W.keepIn K (.ref (He.ga K "_law_cell")),
  decide (PySem.W.nsIn K mainGlobals "_law_draws" = some (some (.ref (He.ga K "_law_draws")))),
  PySem.W.keepIn K (.ref (He.ga K "_law_draws")),
  decide (PySem.W.nsIn K mainGlobals "_law_name" = some (some (.ref (He.ga K "_law_name")))),
  PySem.W.keepIn K (.ref (He.ga K "_law_name")),
  decide (PySem.W.nsIn K mainGlobals "_law_is_token" = some (some (.ref (He.ga K "_law_is_token")))),
  PySem.W.keepIn K (.ref (He.ga K "_law_is_token")),
  decide (PySem.W.nsIn K mainGlobals "_law_put" = some (some (.ref (He.ga K "_law_put")))),
  PySem.W.keepIn K (.ref (He.ga K "_law_put")),
  decide (PySem.W.nsIn K mainGlobals "_law_empty" = some (some (.ref (He.ga K "_law_empty")))),
  PySem.W.keepIn K (.ref (He.ga K "_law_empty")),
  decide (PySem.W.nsIn K mainGlobals "_law_first" = some (some (.ref (He.ga K "_law_first")))),
  PySem.W.keepIn K (.ref (He.ga K "_law_first")),
  decide (PySem.W.nsIn K mainGlobals "_law_sets" = some (some (.ref (He.ga K "_law_sets")))),
  PySem.W.keepIn K (.ref (He.ga K "_law_sets"))]
def gb3 (K : PySem.W.Frag) : List Bool := [decide (PySem.W.nsIn K mainGlobals "_law_meet" = some (some (.ref (He.ga K "_law_meet")))),
  PySem.W.keepIn K (.ref (He.ga K "_law_meet")),
  decide (PySem.W.nsIn K mainGlobals "_law_clashes" = some (some (.ref (He.ga K "_law_clashes")))),
  PySem.W.keepIn K (.ref (He.ga K "_law_clashes")),
  decide (PySem.W.nsIn K mainGlobals "_law_offers" = some (some (.ref (He.ga K "_law_offers")))),
  PySem.W.keepIn K (.ref (He.ga K "_law_offers")),
  decide (PySem.W.nsIn K mainGlobals "_law_host" = some (some (.ref (He.ga K "_law_host")))),
  PySem.W.keepIn K (.ref (He.ga K "_law_host")),
  decide (PySem.W.nsIn K mainGlobals "_law_heads" = some (some (.ref (He.ga K "_law_heads")))),
  PySem.W.keepIn K (.ref (He.ga K "_law_heads")),
  decide (PySem.W.nsIn K mainGlobals "_law_tokens" = some (some (.ref (He.ga K "_law_tokens")))),
  PySem.W.keepIn K (.ref (He.ga K "_law_tokens")),
  decide (PySem.W.nsIn K mainGlobals "_law_tail" = some (some (.ref (He.ga K "_law_tail")))),
  PySem.W.keepIn K (.ref (He.ga K "_law_tail")),
  decide (PySem.W.nsIn K mainGlobals "_law_inner" = some (some (.ref (He.ga K "_law_inner")))),
  PySem.W.keepIn K (.ref (He.ga K "_law_inner")),
  decide (PySem.W.nsIn K mainGlobals "_law_guest" = some (some (.ref (He.ga K "_law_guest")))),
  PySem.W.keepIn K (.ref (He.ga K "_law_guest")),
  decide (PySem.W.nsIn K mainGlobals "_law_table" = some (some (.ref (He.ga K "_law_table")))),
  PySem.W.keepIn K (.ref (He.ga K "_law_table"))]
def gb4 (K : PySem.W.Frag) : List Bool := [decide (PySem.W.nsIn K mainGlobals "_law_run" = some (some (.ref (He.ga K "_law_run")))),
  PySem.W.keepIn K (.ref (He.ga K "_law_run")),
  decide (PySem.W.nsIn K mainGlobals "_law_walk" = some (some (.ref (He.ga K "_law_walk")))),
  PySem.W.keepIn K (.ref (He.ga K "_law_walk")),
  decide (PySem.W.nsIn K mainGlobals "_law_union" = some (some (.ref (He.ga K "_law_union")))),
  PySem.W.keepIn K (.ref (He.ga K "_law_union")),
  decide (PySem.W.nsIn K mainGlobals "law" = some (some (.ref (He.ga K "law")))),
  PySem.W.keepIn K (.ref (He.ga K "law")),
  decide (PySem.W.findIn K (.ref (He.ga K "Reader")) "__init__" = some (some (.ref (He.ma K (He.ga K "Reader") "__init__")))),
  PySem.W.isFn K (.ref (He.ma K (He.ga K "Reader") "__init__")),
  PySem.W.keepIn K (.ref (He.ma K (He.ga K "Reader") "__init__")),
  decide (PySem.W.findIn K (.ref (He.ga K "Reader")) "__call__" = some (some (.ref (He.ma K (He.ga K "Reader") "__call__")))),
  PySem.W.isFn K (.ref (He.ma K (He.ga K "Reader") "__call__")),
  PySem.W.keepIn K (.ref (He.ma K (He.ga K "Reader") "__call__")),
  decide (PySem.W.nsIn K mainGlobals "tuple" = some none),
  decide (PySem.W.nsIn K mainGlobals "len" = some none),
  decide (PySem.W.nsIn K mainGlobals "range" = some none),
  decide (PySem.W.nsIn K mainGlobals "int" = some none),
  decide (PySem.W.nsIn K mainGlobals "list" = some none),
  decide (PySem.W.nsIn K mainGlobals "isinstance" = some none)]
def gbs (K : PySem.W.Frag) : List Bool := [(gb0 K).all id, (gb1 K).all id, (gb2 K).all id, (gb3 K).all id, (gb4 K).all id]
def others : List Str := (["TongueError", "WrongToken", "SMALL", "is_token", "merged", "advance", "finish", "read", "expected_after", "Reader", "_law_cell", "_law_draws", "_law_name", "_law_is_token", "_law_put", "_law_empty", "_law_first", "_law_sets", "_law_meet", "_law_clashes", "_law_offers", "_law_host", "_law_heads", "_law_tokens", "_law_tail", "_law_inner", "_law_guest", "_law_table", "_law_run", "_law_walk"] : List Str) ++ (["_law_union"] : List Str)
abbrev hkR : PySem.W.Hook := hookY 6 (fun K => (gbs K).all id) dts
def obR (s : PySem.W.SharedT) : AlY := obsYG 6 (fun K => (gbs K).all id) dts (HandSHeadRun.getT s)
theorem obR_eq (s : PySem.W.SharedT) : obR s = hkR.obs s.abs := obsYG_eq (HandSHeadRun.getT_eq s)
set_option maxHeartbeats 0 in
theorem runR (w : World) : HandSHeadRun.RunEq R0 (PySem.W.view R0.prog [36]) hkR obR 40000 others w := by
  intro os
  kernel_rfl
end Gt
open PySem PySem.W PySem.Calls PyProof.Rows in
set_option maxRecDepth 100000 in
set_option maxHeartbeats 0 in
theorem Gt.headR (call : WalkO (view Gt.R0.prog [36]) Gt.others (XL (view Gt.R0.prog [36]) []) Gt.hkR.says Gt.R0.toRowW (HandSHeadRun.topDef Gt.R0.prog 36) [] fun f vs => PySem.call f vs) : PySem.Challenge.rw_guesttongues_k32_whole_reads_runs.Holds := by
  w_on; o_law
  refine HandSHeadRun.head_any (r := Gt.R0) (q := view Gt.R0.prog [36]) (H := Gt.hkR) (ob := Gt.obR) (M := 40000) (loose := Gt.others) (d := HandSHeadRun.topDef Gt.R0.prog 36) (kwd := []) Gt.obR_eq
    (by kernel_rfl) (fun s => by kernel_rfl) Gt.runR (by kernel_rfl) (by kernel_rfl) (by kernel_rfl) (by rfl) (by first | assumption | decide +kernel) (by decide +kernel) ⟨rfl, rfl, rfl, rfl, rfl, by decide +kernel⟩ ?hw call
  case hw => w_witness2
namespace Gt
open PySem PySem.Spec PyProof.Rows L2
/-- two lists, item by item -/
inductive A2 {α β : Type} (r : α → β → Prop) : List α → List β → Prop
  | nil : A2 r [] []
  | cons {a : α} {b : β} {as : List α} {bs : List β} : r a b → A2 r as bs → A2 r (a :: as) (b :: bs)
theorem A2.imp {α β : Type} {r q : α → β → Prop} (f : ∀ a b, r a b → q a b) : ∀ {as : List α} {bs : List β}, A2 r as bs → A2 q as bs
  | _, _, .nil => .nil
  | _, _, .cons h t => .cons (f _ _ h) (A2.imp f t)
theorem A2.len {α β : Type} {r : α → β → Prop} : ∀ {as : List α} {bs : List β}, A2 r as bs → as.length = bs.length
  | _, _, .nil => rfl
  | _, _, .cons _ t => by rw [List.length_cons, List.length_cons, A2.len t]
theorem A2.get {α β : Type} {r : α → β → Prop} : ∀ {as : List α} {bs : List β} {i : Nat} {a : α}, A2 r as bs → as[i]? = some a → ∃ b, bs[i]? = some b ∧ r a b
  | _, _, _, _, .nil, e => by simp at e
  | _, _, 0, _, .cons h _, e => by simp at e; subst e; exact ⟨_, rfl, h⟩
  | _, _, i + 1, a, .cons _ t, e => by
    obtain ⟨b, h1, h2⟩ := A2.get (i := i) (a := a) t (by simpa using e)
    exact ⟨b, by simpa using h1, h2⟩
theorem A2.get' {α β : Type} {r : α → β → Prop} : ∀ {as : List α} {bs : List β} {i : Nat} {b : β}, A2 r as bs → bs[i]? = some b → ∃ a, as[i]? = some a ∧ r a b
  | _, _, _, _, .nil, e => by simp at e
  | _, _, 0, _, .cons h _, e => by simp at e; subst e; exact ⟨_, rfl, h⟩
  | _, _, i + 1, b, .cons _ t, e => by
    obtain ⟨a, h1, h2⟩ := A2.get' (i := i) (b := b) t (by simpa using e)
    exact ⟨a, by simpa using h1, h2⟩
theorem A2.app {α β : Type} {r : α → β → Prop} {cs : List α} {ds : List β} (t : A2 r cs ds) : ∀ {as : List α} {bs : List β}, A2 r as bs → A2 r (as ++ cs) (bs ++ ds)
  | _, _, .nil => t
  | _, _, .cons h u => .cons h (A2.app t u)
theorem A2.one {α β : Type} {r : α → β → Prop} {a : α} {b : β} (h : r a b) : A2 r [a] [b] := .cons h .nil
theorem A2.drop {α β : Type} {r : α → β → Prop} : ∀ {as : List α} {bs : List β} (n : Nat), A2 r as bs → A2 r (as.drop n) (bs.drop n)
  | _, _, 0, h => h
  | _, _, _ + 1, .nil => .nil
  | _, _, n + 1, .cons _ t => A2.drop n t
theorem A2.take {α β : Type} {r : α → β → Prop} : ∀ {as : List α} {bs : List β} (n : Nat), A2 r as bs → A2 r (as.take n) (bs.take n)
  | _, _, 0, _ => .nil
  | _, _, _ + 1, .nil => .nil
  | _, _, n + 1, .cons h t => .cons h (A2.take n t)
theorem A2.rev {α β : Type} {r : α → β → Prop} : ∀ {as : List α} {bs : List β}, A2 r as bs → A2 r as.reverse bs.reverse
  | _, _, .nil => .nil
  | _, _, .cons h t => by
    rw [List.reverse_cons, List.reverse_cons]
    exact A2.app (.one h) (A2.rev t)
theorem A2.set {α β : Type} {r : α → β → Prop} {a : α} {b : β} (h : r a b) : ∀ {as : List α} {bs : List β} (i : Nat), A2 r as bs → A2 r (as.set i a) (bs.set i b)
  | _, _, _, .nil => .nil
  | _, _, 0, .cons _ t => .cons h t
  | _, _, i + 1, .cons q t => .cons q (A2.set h i t)
theorem A2.map_eq {α β : Type} {f : β → α} : ∀ {as : List α} {bs : List β}, A2 (fun a b => a = f b) as bs → as = bs.map f
  | _, _, .nil => rfl
  | _, _, .cons h t => by rw [List.map_cons, ← A2.map_eq t, h]
theorem A2.of_map {α β : Type} {f : β → α} : ∀ (bs : List β), A2 (fun a b => a = f b) (bs.map f) bs
  | [] => .nil
  | _ :: r => .cons rfl (A2.of_map r)
/-- a tuple whose object is known, and has no dict of its own -/
def SqD (K : PySem.W.Frag) (H : Hp) (a : Addr) (xs : List V) : Prop :=
  (∃ o, H a = some (.frz o (.tup xs)) ∧ o.dict = none) ∨
    ∃ (o : Obj) (its : Array Value) (n : Nat), K.lookup a = some o ∧ o.dict = none ∧ o.cls = .type "tuple" ∧ o.data = .seq its n ∧ its.size ≤ sizeLine ∧ Vals xs its.toList
theorem SqD.t {K : PySem.W.Frag} {H : Hp} {a : Addr} {xs : List V} (h : SqD K H a xs) : SqT K H a xs := by
  rcases h with ⟨o, h, _⟩ | ⟨o, its, n, h1, _, h2, h3⟩
  · exact .inl (.inr ⟨o, h⟩)
  · exact .inr ⟨o, its, n, h1, h2, h3⟩
instance {K : PySem.W.Frag} {H : Hp} {a : Addr} {xs : List V} : Coe (SqD K H a xs) (SqT K H a xs) := ⟨SqD.t⟩
theorem SqD.of {K : PySem.W.Frag} {H : Hp} {a : Addr} {o : Obj} {xs : List V} (h : H a = some (.frz o (.tup xs))) (hd : o.dict = none) : SqD K H a xs := .inl ⟨o, h, hd⟩
def isTup : HO → Prop
  | .tup _ => True
  | .frz _ _ => True
  | _ => False
/-- a tuple, with its object known or not -/
def isT : HO → Prop
  | .tup _ => True
  | .frz _ (.tup _) => True
  | _ => False
theorem isT.up : ∀ {o : HO}, isT o → isTup o
  | .tup _, _ => trivial
  | .frz _ _, _ => trivial
/-- all tuples stay -/
structure ExT (K : PySem.W.Frag) (H H' : Hp) : Prop where
  t : ∀ a xs, SqT K H a xs → SqT K H' a xs
  d : ∀ a xs, SqD K H a xs → SqD K H' a xs
instance {K : PySem.W.Frag} {H H' : Hp} : CoeFun (ExT K H H') (fun _ => ∀ a xs, SqT K H a xs → SqT K H' a xs) := ⟨ExT.t⟩
theorem ExT.refl {K : PySem.W.Frag} (H : Hp) : ExT K H H := ⟨fun _ _ h => h, fun _ _ h => h⟩
theorem ExT.trans {K : PySem.W.Frag} {H H1 H2 : Hp} (a : ExT K H H1) (b : ExT K H1 H2) : ExT K H H2 := ⟨fun x o h => b.t x o (a.t x o h), fun x o h => b.d x o (a.d x o h)⟩
theorem ExT.mk' {K : PySem.W.Frag} {H H' : Hp} (f : ∀ a o, isT o → H a = some o → H' a = some o) : ExT K H H' := by
  refine ⟨fun a xs h => ?_, fun a xs h => ?_⟩
  · rcases h with (h | ⟨o, h⟩) | h
    · exact .inl (.inl (f _ _ trivial h))
    · exact .inl (.inr ⟨o, f _ _ trivial h⟩)
    · exact .inr h
  · rcases h with ⟨o, h, hd⟩ | h
    · exact .inl ⟨o, f _ _ trivial h, hd⟩
    · exact .inr h
theorem ext_same {K : PySem.W.Frag} {H H' : Hp} (e : Same H H') : ExT K H H' := .mk' fun _ _ _ h => e _ _ h
/-- what is neither a tuple nor locked is changed -/
theorem ext_upd {K : PySem.W.Frag} {H : Hp} {p : Addr} {o u : HO} (h : H p = some o) (n : ¬ isTup o) : ExT K H (upd H p u) := .mk' fun a w t e => by
  have hne : a ≠ p := fun z => by
    subst z
    rw [h] at e
    cases e
    exact n t.up
  rw [upd_ne hne]
  exact e
abbrev Rp (β : Type) := Hp → V → β → Prop
class Mono {β : Type} (r : Rp β) : Prop where
  up : ∀ {H H' : Hp} {v : V} {b : β}, Same H H' → r H v b → r H' v b
class Frz (K : PySem.W.Frag) {β : Type} (r : Rp β) : Prop where
  up : ∀ {H H' : Hp} {v : V} {b : β}, ExT K H H' → r H v b → r H' v b
theorem Frz.mono {K : PySem.W.Frag} {β : Type} {r : Rp β} [F : Frz K r] {H H' : Hp} {v : V} {b : β} (e : Same H H') (h : r H v b) : r H' v b := F.up (ext_same e) h
def rI : Rp Int := fun _ v n => v = .int n
def rB : Rp Bool := fun _ v n => v = .bl n
/-- a text as the layer compares it: signs are code points, the length is small -/
def okS (s : Str) : Prop := s.length ≤ 100000 ∧ s.cps.all (fun c => decide (c < 0x110000)) = true
instance (s : Str) : Decidable (okS s) := by unfold okS; infer_instance
theorem okS_chr {s : Str} {c : Nat} (h : okS s) (hc : c ∈ s.cps.toList) : okS ⟨#[c]⟩ := by
  refine ⟨by show 1 ≤ 100000; decide, ?_⟩
  have := h.2
  rw [← Array.all_toList, List.all_eq_true] at this
  show (#[c].all fun c => decide (c < 0x110000)) = true
  rw [← Array.all_toList]
  simpa using this c hc
theorem okS_app {s t : Str} (h : okS s) (h' : okS t) (hz : s.length + t.length ≤ 100000) : okS (s ++ t) := by
  refine ⟨?_, ?_⟩
  · show (s.cps ++ t.cps).size ≤ 100000
    rw [Array.size_append]
    exact hz
  · show (s.cps ++ t.cps).all (fun c => decide (c < 0x110000)) = true
    rw [Array.all_append, h.2, h'.2]
    rfl
def rS : Rp Str := fun _ v n => v = .str n ∧ okS n
def rN : Rp Unit := fun _ v _ => v = .non
def rV : Rp V := fun _ v w => v = w
/-- None or a thing -/
def rO {β : Type} (r : Rp β) : Rp (Option β) := fun H v o => match o with
  | .none => v = .non
  | .some b => r H v b
/-- a tuple of things of one kind | a pair -/
def rT (K : PySem.W.Frag) {β : Type} (r : Rp β) : Rp (List β) := fun H v xs => ∃ a vs, v = .ref a ∧ SqD K H a vs ∧ A2 (r H) vs xs
/-- .. whose object is not known (partition, *v) -/
def rY (K : PySem.W.Frag) {β : Type} (r : Rp β) : Rp (List β) := fun H v xs => ∃ a vs, v = .ref a ∧ SqT K H a vs ∧ A2 (r H) vs xs
def rP (K : PySem.W.Frag) {α β : Type} (r : Rp α) (q : Rp β) : Rp (α × β) := fun H v p => ∃ a x y, v = .ref a ∧ SqT K H a [x, y] ∧ r H x p.1 ∧ q H y p.2
/-- a list of things of one kind -/
def rL {β : Type} (r : Rp β) : Rp (List β) := fun H v xs => ∃ a vs, v = .ref a ∧ H a = some (.lst vs) ∧ A2 (r H) vs xs
section
variable {K : PySem.W.Frag} {α β : Type}
instance : Mono rI := ⟨fun _ h => h⟩
instance : Mono rB := ⟨fun _ h => h⟩
instance : Mono rS := ⟨fun _ h => h⟩
instance : Mono rN := ⟨fun _ h => h⟩
instance : Mono rV := ⟨fun _ h => h⟩
instance : Frz K rI := ⟨fun _ h => h⟩
instance : Frz K rB := ⟨fun _ h => h⟩
instance : Frz K rS := ⟨fun _ h => h⟩
instance : Frz K rN := ⟨fun _ h => h⟩
instance : Frz K rV := ⟨fun _ h => h⟩
instance {r : Rp β} [M : Mono r] : Mono (rO r) := ⟨fun {_ _ _ b} e h => match b, h with
  | .none, h => h
  | .some _, h => M.up (v := _) e h⟩
instance {r : Rp β} [M : Frz K r] : Frz K (rO r) := ⟨fun {_ _ _ b} e h => match b, h with
  | .none, h => h
  | .some _, h => M.up (v := _) e h⟩
instance {r : Rp β} [M : Mono r] : Mono (rT K r) := ⟨fun e ⟨a, vs, ev, h, q⟩ => ⟨a, vs, ev, (ext_same e).d _ _ h, q.imp fun _ _ z => M.up e z⟩⟩
instance {r : Rp β} [M : Mono r] : Mono (rY K r) := ⟨fun e ⟨a, vs, ev, h, q⟩ => ⟨a, vs, ev, ext_same e _ _ h, q.imp fun _ _ z => M.up e z⟩⟩
instance {r : Rp β} [M : Frz K r] : Frz K (rT K r) := ⟨fun e ⟨a, vs, ev, h, q⟩ => ⟨a, vs, ev, e.d _ _ h, q.imp fun _ _ z => M.up e z⟩⟩
instance {r : Rp β} [M : Frz K r] : Frz K (rY K r) := ⟨fun e ⟨a, vs, ev, h, q⟩ => ⟨a, vs, ev, e _ _ h, q.imp fun _ _ z => M.up e z⟩⟩
instance {r : Rp α} {q : Rp β} [M : Mono r] [N : Mono q] : Mono (rP K r q) := ⟨fun e ⟨a, x, y, ev, h, h1, h2⟩ => ⟨a, x, y, ev, ext_same e _ _ h, M.up e h1, N.up e h2⟩⟩
instance {r : Rp α} {q : Rp β} [M : Frz K r] [N : Frz K q] : Frz K (rP K r q) := ⟨fun e ⟨a, x, y, ev, h, h1, h2⟩ => ⟨a, x, y, ev, e _ _ h, M.up e h1, N.up e h2⟩⟩
instance {r : Rp β} [M : Mono r] : Mono (rL r) := ⟨fun e ⟨a, vs, ev, h, q⟩ => ⟨a, vs, ev, e _ _ h, q.imp fun _ _ z => M.up e z⟩⟩
end
structure Rs (K : PySem.W.Frag) (β : Type) where
  rep : Hp → V → β → List Addr → Prop
  stay : ∀ {H H' : Hp} {v : V} {b : β} {as : List Addr}, rep H v b as → ExT K H H' → (∀ p, p ∈ as → ∀ o, H p = some o → H' p = some o) → rep H' v b as
  there : ∀ {H : Hp} {v : V} {b : β} {as : List Addr}, rep H v b as → ∀ p, p ∈ as → ∃ o, H p = some o ∧ ¬ isTup o
/-- it is so as long as the tuples stay -/
def Stb (K : PySem.W.Frag) {β : Type} (r : Rp β) : Rp β := fun H v b => ∀ H', ExT K H H' → r H' v b
theorem Stb.up {K : PySem.W.Frag} {β : Type} {r : Rp β} {H H' : Hp} {v : V} {b : β} (x : ExT K H H') (h : Stb K r H v b) : Stb K r H' v b := fun H2 y => h H2 (x.trans y)
theorem Stb.now {K : PySem.W.Frag} {β : Type} {r : Rp β} {H : Hp} {v : V} {b : β} (h : Stb K r H v b) : r H v b := h H (ExT.refl H)
theorem stb {K : PySem.W.Frag} {β : Type} {r : Rp β} [F : Frz K r] {H : Hp} {v : V} {b : β} (h : r H v b) : Stb K r H v b := fun _ x => F.up x h
theorem stbs {K : PySem.W.Frag} {β : Type} {r : Rp β} [F : Frz K r] {H : Hp} {vs : List V} {bs : List β} (h : A2 (r H) vs bs) : A2 (Stb K r H) vs bs := h.imp fun _ _ z => stb z
theorem nows {K : PySem.W.Frag} {β : Type} {r : Rp β} {H : Hp} {vs : List V} {bs : List β} (h : A2 (Stb K r H) vs bs) : A2 (r H) vs bs := h.imp fun _ _ z => z.now
/-- a frozen thing owns nothing -/
def fz (K : PySem.W.Frag) {β : Type} (r : Rp β) : Rs K β where
  rep := fun H v b as => as = [] ∧ Stb K r H v b
  stay := fun ⟨e, h⟩ x _ => ⟨e, h.up x⟩
  there := fun ⟨e, _⟩ p hp => by rw [e] at hp; cases hp
/-- a list (owned) of frozen things -/
def nl (K : PySem.W.Frag) {β : Type} (r : Rp β) : Rs K (List β) where
  rep := fun H v xs as => ∃ p vs, as = [p] ∧ v = .ref p ∧ H p = some (.lst vs) ∧ A2 (Stb K r H) vs xs
  stay := fun ⟨p, vs, e, ev, h, q⟩ x k => ⟨p, vs, e, ev, k p (by rw [e]; exact List.mem_singleton.mpr rfl) _ h, q.imp fun _ _ z => z.up x⟩
  there := fun ⟨p, vs, e, _, h, _⟩ b hb => by
    rw [e] at hb
    cases List.mem_singleton.mp hb
    exact ⟨_, h, fun z => z⟩
/-- a dict (owned) with texts as keys and frozen values -/
def nd (K : PySem.W.Frag) {β : Type} (r : Rp β) : Rs K (List (Str × β)) where
  rep := fun H v xs as => ∃ p kvs, as = [p] ∧ v = .ref p ∧ H p = some (.dK kvs) ∧ A2 (fun (x : Key × V) (y : Str × β) => (x.1 = Sum.inr y.1 ∧ okS y.1) ∧ Stb K r H x.2 y.2) kvs xs
  stay := fun ⟨p, vs, e, ev, h, q⟩ x k => ⟨p, vs, e, ev, k p (by rw [e]; exact List.mem_singleton.mpr rfl) _ h, q.imp fun _ _ z => ⟨z.1, z.2.up x⟩⟩
  there := fun ⟨p, vs, e, _, h, _⟩ b hb => by
    rw [e] at hb
    cases List.mem_singleton.mp hb
    exact ⟨_, h, fun z => z⟩
inductive Cell (K : PySem.W.Frag) : Type 1
  | ow {β : Type} (R : Rs K β) (b : β)
  | ro {β : Type} (r : Rp β) (m : Mono r) (b : β)
def Cell.ok {K : PySem.W.Frag} (H0 H : Hp) (v : V) (as : List Addr) : Cell K → Prop
  | .ow R b => R.rep H v b as
  | .ro r _ b => as = [] ∧ r H0 v b
/-- a flat or frozen thing -/
abbrev fc {K : PySem.W.Frag} {β : Type} (r : Rp β) (b : β) : Option (Cell K) := some (.ow (fz K r) b)
/-- a thing that was there, unchanged -/
abbrev rc {K : PySem.W.Frag} {β : Type} (r : Rp β) [m : Mono r] (b : β) : Option (Cell K) := some (.ro r m b)
abbrev Cells (K : PySem.W.Frag) := List (Option (Cell K))
structure Env {K : PySem.W.Frag} (H0 : Hp) (σ : L2.St) (H : Hp) (G : Cells K) : Prop where
  old : Same H0 H
  len : σ.length = G.length
  at_ : ∃ own : Nat → List Addr, (∀ i p, p ∈ own i → H0 p = none ∧ ∃ o, H p = some o ∧ ¬ isTup o) ∧ (∀ i j p, p ∈ own i → p ∈ own j → i = j) ∧
    ∀ (i : Nat) (c : Cell K), G[i]? = some (some c) → ∃ v, σ[i]? = some (some v) ∧ c.ok H0 H v (own i)
section
variable {K : PySem.W.Frag} {H0 H H' : Hp} {σ : L2.St} {G G' : Cells K} {α β γ : Type}
theorem cell_stay {c : Cell K} {v : V} {as : List Addr} (h : c.ok H0 H v as) (x : ExT K H H') (k : ∀ p, p ∈ as → ∀ o, H p = some o → H' p = some o) : c.ok H0 H' v as := by
  cases c with
  | ow R b => exact R.stay h x k
  | ro r m b => exact h
/-- more is tracked -/
theorem Env.grow (E : Env H0 σ H G) (e : Same H H') : Env H0 σ H' G := by
  obtain ⟨own, h1, h2, h3⟩ := E.at_
  refine ⟨E.old.trans e, E.len, own, fun i p hp => ⟨(h1 i p hp).1, ?_⟩, h2, fun i c hc => ?_⟩
  · obtain ⟨o, ho, nt⟩ := (h1 i p hp).2
    exact ⟨o, e _ _ ho, nt⟩
  · obtain ⟨v, hv, hk⟩ := h3 i c hc
    exact ⟨v, hv, cell_stay hk (ext_same e) fun p _ o ho => e _ _ ho⟩
/-- less is said -/
inductive Sub : Cells K → Cells K → Prop
  | nil : Sub [] []
  | keep {c : Option (Cell K)} {G G' : Cells K} : Sub G G' → Sub (c :: G) (c :: G')
  | drop {c : Option (Cell K)} {G G' : Cells K} : Sub G G' → Sub (c :: G) (none :: G')
theorem Sub.get : ∀ {G G' : Cells K} {i : Nat} {c : Cell K}, Sub G G' → G'[i]? = some (some c) → G[i]? = some (some c)
  | _, _, _, _, .nil, h => by simp at h
  | _, _, 0, _, .keep _, h => h
  | _, _, i + 1, c, .keep s, h => by
    have := Sub.get (i := i) (c := c) s (by simpa using h)
    simpa using this
  | _, _, 0, _, .drop _, h => by simp at h
  | _, _, i + 1, c, .drop s, h => by
    have := Sub.get (i := i) (c := c) s (by simpa using h)
    simpa using this
theorem Sub.len : ∀ {G G' : Cells K}, Sub G G' → G.length = G'.length
  | _, _, .nil => rfl
  | _, _, .keep s => by rw [List.length_cons, List.length_cons, Sub.len s]
  | _, _, .drop s => by rw [List.length_cons, List.length_cons, Sub.len s]
theorem Sub.refl : ∀ G : Cells K, Sub G G
  | [] => .nil
  | _ :: G => .keep (Sub.refl G)
theorem Env.less (E : Env H0 σ H G) (s : Sub G G') : Env H0 σ H G' := by
  obtain ⟨own, h1, h2, h3⟩ := E.at_
  exact ⟨E.old, E.len.trans s.len, own, h1, h2, fun i c hc => h3 i c (s.get hc)⟩
/-- a slot gets an owned or frozen thing -/
theorem Env.put {i : Nat} {v : V} {R : Rs K β} {b : β} {as : List Addr} (E : Env H0 σ H G) (e : Same H H') (hn : ∀ p, p ∈ as → H p = none) (h : R.rep H' v b as) : Env H0 (σ.set i (some v)) H' (G.set i (some (.ow R b))) := by
  have E' := E.grow e
  obtain ⟨own, h1, h2, h3⟩ := E.at_
  have hf : ∀ j p, p ∈ own j → H p ≠ none := fun j p hp z => by
    obtain ⟨o, ho, _⟩ := (h1 j p hp).2
    rw [z] at ho
    cases ho
  refine ⟨E'.old, by rw [List.length_set, List.length_set]; exact E.len, fun j => if j = i then as else own j, fun j p hp => ?_, fun j k p hj hk => ?_, fun j c hc => ?_⟩
  · by_cases hji : j = i
    · simp only [hji, if_true] at hp
      refine ⟨?_, R.there h p hp⟩
      cases q : H0 p with
      | none => rfl
      | some o =>
        have := E.old p o q
        rw [hn p hp] at this
        cases this
    · simp only [hji, if_false] at hp
      obtain ⟨o, ho, nt⟩ := (h1 j p hp).2
      exact ⟨(h1 j p hp).1, o, e _ _ ho, nt⟩
  · by_cases hji : j = i <;> by_cases hki : k = i
    · rw [hji, hki]
    · simp only [hji, hki, if_true, if_false] at hj hk
      exact absurd (hn p hj) (hf k p hk)
    · simp only [hji, hki, if_true, if_false] at hj hk
      exact absurd (hn p hk) (hf j p hj)
    · simp only [hji, hki, if_false] at hj hk
      exact h2 j k p hj hk
  · by_cases hji : j = i
    · subst hji
      have hl : j < σ.length := by
        have := (List.getElem?_eq_some_iff.mp hc).1
        rw [List.length_set] at this
        rw [E.len]
        exact this
      rw [List.getElem?_set_self (by rw [← E.len]; exact hl)] at hc
      cases hc
      refine ⟨v, List.getElem?_set_self hl, ?_⟩
      simp only [if_true]
      exact h
    · rw [List.getElem?_set_ne (Ne.symm hji)] at hc
      obtain ⟨w, hw, hk⟩ := h3 j c hc
      refine ⟨w, by rw [List.getElem?_set_ne (Ne.symm hji)]; exact hw, ?_⟩
      simp only [hji, if_false]
      exact cell_stay hk (ext_same e) fun p _ o ho => e _ _ ho
/-- an owned thing at slot i is changed in place -/
theorem Env.mut {i : Nat} {R : Rs K β} {R' : Rs K γ} {b : β} {b' : γ} {v : V} {as : List Addr} (E : Env H0 σ H G) (hi : G[i]? = some (some (.ow R b))) (hv : σ[i]? = some (some v))
    (x : ExT K H H') (k : ∀ p o, p ∉ as → H p = some o → H' p = some o) (th : ∀ w bs, σ[i]? = some (some w) → R.rep H w b bs → bs = as) (h : R'.rep H' v b' as) : Env H0 σ H' (G.set i (some (.ow R' b'))) := by
  obtain ⟨own, h1, h2, h3⟩ := E.at_
  obtain ⟨w, hw, hk⟩ := h3 i _ hi
  have eas : own i = as := th w _ hw hk
  have nas : ∀ j p, j ≠ i → p ∈ own j → p ∉ as := fun j p hj hp z => hj (h2 j i p hp (by rw [eas]; exact z))
  refine ⟨fun p o ho => k p o (fun z => ?_) (E.old p o ho), by rw [List.length_set]; exact E.len, own, fun j p hp => ⟨(h1 j p hp).1, ?_⟩, h2, fun j c hc => ?_⟩
  · have := (h1 i p (by rw [eas]; exact z)).1
    rw [this] at ho
    cases ho
  · by_cases hj : j = i
    · rw [hj, eas] at hp
      exact R'.there h p hp
    · obtain ⟨o, ho, nt⟩ := (h1 j p hp).2
      exact ⟨o, k p o (nas j p hj hp) ho, nt⟩
  · by_cases hj : j = i
    · subst hj
      have hl : j < G.length := (List.getElem?_eq_some_iff.mp hi).1
      rw [List.getElem?_set_self hl] at hc
      cases hc
      exact ⟨v, hv, by rw [eas]; exact h⟩
    · rw [List.getElem?_set_ne (Ne.symm hj)] at hc
      obtain ⟨u, hu, hk'⟩ := h3 j c hc
      exact ⟨u, hu, cell_stay hk' x fun p hp o ho => k p o (nas j p hj hp) ho⟩
def Ev (r : Rp β) (te : TE) (G : Cells K) (b : β) : Prop := ∀ H0 σ H, Env H0 σ H G → ∀ Q : VK, (∀ v H', Same H H' → r H' v b → Q v H') → te σ H Q
/-- .. to a new thing, or a frozen one -/
def Nw (R : Rs K β) (te : TE) (G : Cells K) (b : β) : Prop := ∀ H0 σ H, Env H0 σ H G → ∀ Q : VK, (∀ v H' as, Same H H' → (∀ p, p ∈ as → H p = none) → R.rep H' v b as → Q v H') → te σ H Q
def EvT (tt : TT) (G : Cells K) (b : Bool) : Prop := ∀ H0 σ H, Env H0 σ H G → ∀ Q : Bool → Hp → Prop, (∀ H', Same H H' → Q b H') → tt σ H Q
/-- a list of arguments -/
abbrev Ra (α : Type) := Hp → List V → α → Prop
class MonoA {α : Type} (A : Ra α) : Prop where
  up : ∀ {H H' : Hp} {vs : List V} {a : α}, Same H H' → A H vs a → A H' vs a
def aN : Ra Unit := fun _ vs _ => vs = []
def aC {α β : Type} (r : Rp α) (A : Ra β) : Ra (α × β) := fun H vs p => ∃ v ws, vs = v :: ws ∧ r H v p.1 ∧ A H ws p.2
instance : MonoA aN := ⟨fun _ h => h⟩
instance {α β : Type} {r : Rp α} {A : Ra β} [M : Mono r] [N : MonoA A] : MonoA (aC r A) := ⟨fun e ⟨v, ws, ev, h1, h2⟩ => ⟨v, ws, ev, M.up e h1, N.up e h2⟩⟩
def EvA (A : Ra α) (ta : TA) (G : Cells K) (a : α) : Prop := ∀ H0 σ H, Env H0 σ H G → ∀ Q : List V → Hp → Prop, (∀ vs H', Same H H' → A H' vs a → Q vs H') → ta σ H Q
def spF (A : Ra α) (pre : α → Prop) (r : Rp β) (f : α → β) : Sp := fun vs H Q _ => ∃ a, A H vs a ∧ pre a ∧ ∀ v H', Same H H' → r H' v (f a) → Q v H'
def spN (A : Ra α) (pre : α → Prop) (R : Rs K β) (f : α → β) : Sp := fun vs H Q _ => ∃ a, A H vs a ∧ pre a ∧ ∀ v H' as, Same H H' → (∀ p, p ∈ as → H p = none) → R.rep H' v (f a) as → Q v H'
variable {r : Rp α} {q : Rp β} {R : Rs K α} {te ta tb tc : TE} {a x : α} {b y : β}
/-- a frozen thing is as good as a new one -/
theorem Ev.nw [F : Frz K r] (h : Ev r te G a) : Nw (fz K r) te G a := fun H0 σ H E Q k => h H0 σ H E Q fun v H' e z => k v H' [] e (fun _ hp => nomatch hp) ⟨rfl, stb z⟩
theorem Nw.fz (h : Nw (fz K r) te G a) : Ev r te G a := fun H0 σ H E Q k => h H0 σ H E Q fun v H' _ e _ z => k v H' e z.2.now
theorem Nw.lst {r : Rp α} {xs : List α} (h : Nw (nl K r) te G xs) : Ev (rL r) te G xs := fun H0 σ H E Q k => h H0 σ H E Q fun v H' _ e _ ⟨p, vs, _, ev, hp, z⟩ => k v H' e ⟨p, vs, ev, hp, nows z⟩
theorem Ev.imp {q : Rp α} (h : Ev r te G a) (f : ∀ H v, r H v a → q H v a) : Ev q te G a := fun H0 σ H E Q k => h H0 σ H E Q fun v H' e z => k v H' e (f _ _ z)
theorem Ev.eq (h : Ev r te G a) (e : a = x) : Ev r te G x := e ▸ h
theorem Nw.eq (h : Nw R te G a) (e : a = x) : Nw R te G x := e ▸ h
theorem EvT.eq {tt : TT} {c d : Bool} (h : EvT tt G c) (e : c = d) : EvT tt G d := e ▸ h
theorem ev_fz {i : Nat} (h : G[i]? = some (some (.ow (fz K r) a)) := by rfl) : Ev r (tVar i) G a := fun H0 σ H E Q k => by
  obtain ⟨own, _, _, h3⟩ := E.at_
  obtain ⟨v, hv, hk⟩ := h3 i _ h
  exact ⟨v, hv, k v H (Same.refl H) hk.2.now⟩
theorem ev_lst {i : Nat} {r : Rp α} {xs : List α} (h : G[i]? = some (some (.ow (nl K r) xs)) := by rfl) : Ev (rL r) (tVar i) G xs := fun H0 σ H E Q k => by
  obtain ⟨own, _, _, h3⟩ := E.at_
  obtain ⟨v, hv, p, vs, _, ev, hp, z⟩ := h3 i _ h
  exact ⟨v, hv, k v H (Same.refl H) ⟨p, vs, ev, hp, nows z⟩⟩
theorem ev_ro {i : Nat} {M : Mono r} (h : G[i]? = some (some (.ro r M a)) := by rfl) : Ev r (tVar i) G a := fun H0 σ H E Q k => by
  obtain ⟨own, _, _, h3⟩ := E.at_
  obtain ⟨v, hv, hk⟩ := h3 i _ h
  exact ⟨v, hv, k v H (Same.refl H) (M.up E.old hk.2)⟩
theorem ev_c {v : V} (h : ∀ H, r H v a) : Ev r (tC v) G a := fun _ _ H _ _ k => k v H (Same.refl H) (h H)
theorem ev_int {n : Int} : Ev rI (tC (.int n)) G n := ev_c fun _ => rfl
theorem ev_str {n : Str} (h : okS n) : Ev rS (tC (.str n)) G n := ev_c fun _ => ⟨rfl, h⟩
theorem ev_bl {n : Bool} : Ev rB (tC (.bl n)) G n := ev_c fun _ => rfl
theorem ev_non : Ev (rO r) (tC .non) G Option.none := ev_c fun _ => rfl
theorem Ev.some (h : Ev r te G a) : Ev (rO r) te G (Option.some a) := fun H0 σ H E Q k => h H0 σ H E Q fun v H' e z => k v H' e z
/-- a rule on values, from data to data -/
def OpE (o : R2) (r : Rp α) (q : Rp β) (z : Rp γ) (x : α) (y : β) (c : γ) : Prop := ∀ H u v, r H u x → q H v y → ∀ Q : VK, (∀ w H', Same H H' → z H' w c → Q w H') → o u v H Q
def OpN (o : R2) (r : Rp α) (q : Rp β) (Z : Rs K γ) (x : α) (y : β) (c : γ) : Prop := ∀ H u v, r H u x → q H v y → ∀ Q : VK, (∀ w H' as, Same H H' → (∀ p, p ∈ as → H p = none) → Z.rep H' w c as → Q w H') → o u v H Q
theorem ev_op {o : R2} {z : Rp γ} {c : γ} [M : Mono r] (ha : Ev r ta G x) (hb : Ev q tb G y) (ho : OpE o r q z x y c) : Ev z (tOp o ta tb) G c := fun H0 σ H E Q k =>
  ha H0 σ H E _ fun u H1 e1 h1 => hb H0 σ H1 (E.grow e1) _ fun v H2 e2 h2 => ho H2 u v (M.up e2 h1) h2 Q fun w H3 e3 h3 => k w H3 ((e1.trans e2).trans e3) h3
theorem free_back {p : Addr} (e : Same H H') (h : H' p = none) : H p = none := e.free h
theorem nw_op {o : R2} {Z : Rs K γ} {c : γ} [M : Mono r] (ha : Ev r ta G x) (hb : Ev q tb G y) (ho : OpN o r q Z x y c) : Nw Z (tOp o ta tb) G c := fun H0 σ H E Q k =>
  ha H0 σ H E _ fun u H1 e1 h1 => hb H0 σ H1 (E.grow e1) _ fun v H2 e2 h2 => ho H2 u v (M.up e2 h1) h2 Q fun w H3 as e3 hn h3 => k w H3 as ((e1.trans e2).trans e3) (fun p hp => free_back (e1.trans e2) (hn p hp)) h3
theorem op_I0 {g : Int → Int → V} {z : Rp γ} {c : γ} {i j : Int} (h : ∀ H, z H (g i j) c) : OpE (rI0 g) rI rI z i j c := fun H u v hu hv Q k => by
  cases hu; cases hv
  exact ⟨i, j, rfl, rfl, k _ H (Same.refl H) (h H)⟩
theorem op_I {C : Int → Int → Prop} {g : Int → Int → V} {z : Rp γ} {c : γ} {i j : Int} (hc : C i j) (h : ∀ H, z H (g i j) c) : OpE (L2.rI C g) rI rI z i j c := fun H u v hu hv Q k => by
  cases hu; cases hv
  exact ⟨i, j, rfl, rfl, hc, k _ H (Same.refl H) (h H)⟩
end
end Gt
namespace Gt
open PySem PySem.Spec PyProof.Rows L2
structure Cal (P : Program) (w : World) (K : PySem.W.Frag) (mg : Str → Option Value) (base : Heap) (CX : CXT) (x : Str) (k : Nat) (ps : List Str) (sp : Sp) : Prop where
  ex : ∃ (f : Addr) (fd : FuncData), FnOk P w K mg base CX k f fd ps sp ∧ mg x = some (.ref f) ∧ PySem.W.keepIn K (.ref f) = true ∧ Binds K fd ps []
structure Df (K : PySem.W.Frag) (mg : Str → Option Value) (x : Str) (st : Stmt) : Prop where
  ex : ∃ (f : Addr) (fd : FuncData), Fun K x x st f fd ∧ mg x = some (.ref f)
theorem pe_fn {X : Cx} {x : Str} {k : Nat} {ps : List Str} {sp : Sp} {p pos : Pos} {e : Expr} {es : List Expr} {t : TA} (C : Cal X.prog X.w X.K X.mg X.base CX0 x k ps sp) (hr : Room k X.A) (ha : PA X (e :: es) t) (hg : Gl X x := by rfl)
    (hdb : (x == Str.ofString "__debug__") = false := by decide) (he : starEach (e :: es) X.env = (false, eval e X.env) :: starEach es X.env := by rfl) (hpl : (backTo pos (starEach es X.env)).any (·.1) = false := by rfl) :
    PE X (.Call (.Name x p) (e :: es) [] pos) (tCall sp [] E0 t) := by
  obtain ⟨f, fd, F, m, kp, b⟩ := C.ex
  exact pe_call F hr hg m kp b .nil pass0 ha hdb he hpl
class LenA {α : Type} (A : Ra α) (n : outParam Nat) : Prop where
  len : ∀ {H : Hp} {vs : List V} {a : α}, A H vs a → vs.length = n
instance : LenA aN 0 := ⟨fun h => by rw [show _ = [] from h]; rfl⟩
instance {α β : Type} {r : Rp α} {A : Ra β} {n : Nat} [L : LenA A n] : LenA (aC r A) (n + 1) := ⟨fun ⟨_, ws, e, _, h⟩ => by rw [e, List.length_cons, L.len h]⟩
variable {P : Program} {w : World} {K : PySem.W.Frag} {mg : Str → Option Value} {base : Heap}
theorem cal_of {x : Str} {st : Stmt} {N ps : List Str} {k : Nat} {sp : Sp} (F : Df K mg x st) (S : FnScope N ps (defScope st)) (len : ∀ vs H Q E, sp vs H Q E → vs.length = ps.length)
    (hb : ∀ (kV doc pm : Value) (an : Option Addr) (cdv ct : Value) (us : List Value), us.length = ps.length → bindArgs (PySem.W.fnOf x x (defArgs st) (defBody st) (defScope st) .none kV doc pm an cdv ct) ⟨us, []⟩ = pure (ps.zip us))
    (hbody : ∀ (cdv : Value) (f : Addr) (A : Around) (outer : List PySem.Env) (s : Shared) (H : Hp) (vs : List V) (Q : VK) (E : XK), Room k (A.deeper (envOfC x (defScope st) s.heap.objs.size f cdv)) → sp vs H Q E →
      ∃ t, PSs (cxOf CX0 P w K mg base N x (defScope st) f cdv A outer s H E).nox (defBody st) t ∧ t { nx := fun _ H' => Q .non H', rt := Q } (start N vs) H) : Cal P w K mg base CX0 x (k + 1) ps sp := by
  obtain ⟨f, fd, F, g⟩ := F.ex
  exact ⟨f, fd, F.ok S len (fun cdv A outer s H vs Q E hr h => hbody cdv f A outer s H vs Q E hr h), g, F.kp, F.binds hb⟩
section
variable {H0 H H' : Hp} {σ : L2.St} {G G' G'' : Cells K} {α β γ S : Type}
/-- the cells hold over some base that holds all of H0 -/
def Have (H0 : Hp) (G : Cells K) (σ : L2.St) (H : Hp) : Prop := ∃ H1, Same H0 H1 ∧ Env H1 σ H G
def Sv (H0 : Hp) (G : Cells K) (t : TS) (D : Ends) : Prop := ∀ σ H, Have H0 G σ H → t D σ H
def Nx (H0 : Hp) (G : Cells K) (P : L2.St → Hp → Prop) : Prop := ∀ σ H, Have H0 G σ H → P σ H
inductive Pw (H0 : Hp) : L2.St → Cells K → Prop
  | nil : Pw H0 [] []
  | skip {o : Option V} {σ : L2.St} {G : Cells K} : Pw H0 σ G → Pw H0 (o :: σ) (none :: G)
  | fz {β : Type} {r : Rp β} [Frz K r] {b : β} {v : V} {σ : L2.St} {G : Cells K} : r H0 v b → Pw H0 σ G → Pw H0 (some v :: σ) (fc r b :: G)
  | ro {β : Type} {r : Rp β} [Mono r] {b : β} {v : V} {σ : L2.St} {G : Cells K} : r H0 v b → Pw H0 σ G → Pw H0 (some v :: σ) (rc r b :: G)
theorem Pw.len (h : Pw H0 σ G) : σ.length = G.length := by
  induction h with
  | nil => rfl
  | skip _ ih => rw [List.length_cons, List.length_cons, ih]
  | fz _ _ ih => rw [List.length_cons, List.length_cons, ih]
  | ro _ _ ih => rw [List.length_cons, List.length_cons, ih]
theorem Pw.get (h : Pw H0 σ G) : ∀ {i : Nat} {c : Cell K}, G[i]? = some (some c) → ∃ v, σ[i]? = some (some v) ∧ c.ok H0 H0 v [] := by
  induction h with
  | nil => intro i c e; simp at e
  | skip _ ih =>
    intro i c e
    cases i with
    | zero => simp at e
    | succ i => simpa using ih (i := i) (c := c) (by simpa using e)
  | fz h _ ih =>
    intro i c e
    cases i with
    | zero =>
      simp at e
      subst e
      exact ⟨_, rfl, rfl, stb h⟩
    | succ i => simpa using ih (i := i) (c := c) (by simpa using e)
  | ro h _ ih =>
    intro i c e
    cases i with
    | zero =>
      simp at e
      subst e
      exact ⟨_, rfl, rfl, h⟩
    | succ i => simpa using ih (i := i) (c := c) (by simpa using e)
theorem Pw.env (p : Pw H0 σ G) : Env H0 σ H0 G := ⟨Same.refl H0, p.len, fun _ => [], fun _ _ h => (nomatch h), fun _ _ _ h => (nomatch h), fun i c h => p.get h⟩
theorem Sv.run {t : TS} {D : Ends} (s : Sv H0 G t D) (p : Pw H0 σ G) : t D σ H0 := s σ H0 ⟨H0, Same.refl H0, p.env⟩
variable {D : Ends} {t u tb : TS} {te ta : TE} {tt : TT} {r : Rp β} {q : Rp α} {R : Rs K β} {b : β} {a : α}
theorem Have.less (h : Have H0 G σ H) (s : Sub G G') : Have H0 G' σ H := let ⟨H1, e, E⟩ := h; ⟨H1, e, E.less s⟩
theorem Sv.less (s : Sub G G') (h : Sv H0 G' t D) : Sv H0 G t D := fun σ H g => h σ H (g.less s)
theorem q_asg {i : Nat} {b' : β} (h : Nw R te G b) (eb : b = b') (k : Sv H0 (G.set i (some (.ow R b'))) u D) : Sv H0 G (tSeq (tAsg te (gName i)) u) D := fun σ H ⟨H1, e, E⟩ =>
  h H1 σ H E _ fun v H' as e' hn z => k _ _ ⟨H1, e, E.put e' hn (eb ▸ z)⟩
theorem q_set {i : Nat} {b' : β} (h : Ev r te G b) (eb : b = b') (k : Sv H0 (G.set i (fc r b')) u D) (F : Frz K r := by infer_instance) : Sv H0 G (tSeq (tAsg te (gName i)) u) D := q_asg h.nw eb k
theorem l_asg {i : Nat} {b' : β} (h : Nw R te G b) (eb : b = b') (k : Nx H0 (G.set i (some (.ow R b'))) D.nx) : Sv H0 G (tAsg te (gName i)) D := fun σ H ⟨H1, e, E⟩ =>
  h H1 σ H E _ fun v H' as e' hn z => k _ _ ⟨H1, e, E.put e' hn (eb ▸ z)⟩
theorem l_set {i : Nat} {b' : β} (h : Ev r te G b) (eb : b = b') (k : Nx H0 (G.set i (fc r b')) D.nx) (F : Frz K r := by infer_instance) : Sv H0 G (tAsg te (gName i)) D := l_asg h.nw eb k
theorem l_ret {b' : β} (k : ∀ v H', Same H0 H' → r H' v b' → D.rt v H') (h : Ev r te G b) (eb : b = b') : Sv H0 G (tRet te) D := fun σ H ⟨H1, e, E⟩ =>
  h H1 σ H E _ fun v H' e' z => k v H' ((e.trans E.old).trans e') (eb ▸ z)
theorem l_retN {b' : β} (k : ∀ v H' as, Same H0 H' → (∀ p, p ∈ as → H0 p = none) → R.rep H' v b' as → D.rt v H') (h : Nw R te G b) (eb : b = b') : Sv H0 G (tRet te) D := fun σ H ⟨H1, e, E⟩ =>
  h H1 σ H E _ fun v H' as e' hn z => k v H' as ((e.trans E.old).trans e') (fun p hp => (e.trans E.old).free (hn p hp)) (eb ▸ z)
/-- an owned list in a slot is handed back -/
theorem l_retO {i : Nat} {xs' : β} (k : ∀ v H' as, Same H0 H' → (∀ p, p ∈ as → H0 p = none) → R.rep H' v xs' as → D.rt v H') (hi : G[i]? = some (some (.ow R b))) (eb : b = xs') : Sv H0 G (tRet (tVar i)) D := fun σ H ⟨H1, e, E⟩ => by
  obtain ⟨own, h1, h2, h3⟩ := E.at_
  obtain ⟨v, hv, hk⟩ := h3 i _ hi
  exact ⟨v, hv, k v H (own i) (e.trans E.old) (fun p hp => e.free (h1 i p hp).1) (eb ▸ hk)⟩
theorem l_if {c : Bool} (h : EvT tt G c) (h1 : c = true → Sv H0 G t D) (h2 : c = false → Sv H0 G u D) : Sv H0 G (tIfS tt t u) D := fun σ H ⟨H1, e, E⟩ =>
  h H1 σ H E _ fun H' e' => by
    cases c with
    | true => exact iteT (h1 rfl σ H' ⟨H1, e, E.grow e'⟩)
    | false => exact iteF (h2 rfl σ H' ⟨H1, e, E.grow e'⟩)
theorem q_if {c : Bool} {v : TS} (h : EvT tt G c) (h1 : c = true → Sv H0 G t { D with nx := v D }) (h2 : c = false → Sv H0 G u { D with nx := v D }) : Sv H0 G (tSeq (tIfS tt t u) v) D := l_if h h1 h2
/-- the ways of t meet ahead of v -/
theorem cutK (G2 : Cells K) {v : TS} (f : Sv H0 G2 v D → Sv H0 G (tSeq t v) D) (k : Sv H0 G2 v D) : Sv H0 G (tSeq t v) D := f k
theorem q_next (k : Sv H0 G u D) : Sv H0 G tNext { D with nx := u D } := k
/-- xs.append(e) -/
theorem app_env {i : Nat} {r : Rp α} {xs : List α} {x : α} {H1 : Hp} {p : Addr} {vs : List V} {v : V} (E : Env H1 σ H G) (hi : G[i]? = some (some (.ow (nl K r) xs))) (hv : σ[i]? = some (some (.ref p))) (hp : H p = some (.lst vs)) (hxs : A2 (Stb K r H) vs xs) (hx : Stb K r H v x) :
    Env H1 σ (upd H p (.lst (vs ++ [v]))) (G.set i (some (.ow (nl K r) (xs ++ [x])))) := by
  have x0 : ExT K H (upd H p (.lst (vs ++ [v]))) := ext_upd hp fun z => z
  refine E.mut (as := [p]) (R := nl K r) (R' := nl K r) hi hv x0 (fun c o hc ho => ?_) (fun w bs hw ⟨p', vs', e1, e2, _, _⟩ => ?_) ⟨p, _, rfl, rfl, upd_same, A2.app (A2.one (hx.up x0)) (hxs.imp fun _ _ z => z.up x0)⟩
  · rw [upd_ne fun z => hc (by rw [z]; exact List.mem_singleton.mpr rfl)]
    exact ho
  · rw [hv] at hw
    cases hw
    cases e2
    exact e1
end
end Gt
namespace Gt
open PySem PySem.Spec PyProof.Rows L2
section
variable {K : PySem.W.Frag} {H0 H1 H H' : Hp} {σ : L2.St} {G G' Gx : Cells K} {α β γ S β' : Type}
/-- the heap without some addresses -/
def cutH (H : Hp) (X : Addr → Prop) [DecidablePred X] : Hp := fun b => if X b then none else H b
open Classical in
/-- a base that holds all that no cell owns -/
theorem Env.rebase (E : Env H1 σ H G) (e : Same H H') : ∃ H2, Same H1 H2 ∧ Same H2 H' ∧ ExT K H' H2 ∧ Env H2 σ H' G ∧ ∀ b o, H b = none → H' b = some o → H2 b = some o := by
  have E' := E.grow e
  obtain ⟨own, h1, h2, h3⟩ := E'.at_
  obtain ⟨own0, g1, g2, g3⟩ := E.at_
  let X : Addr → Prop := fun b => (∃ i, b ∈ own0 i)
  have hX : ∀ b, H1 b ≠ none → ¬ X b := fun b hb ⟨i, hi⟩ => hb (g1 i b hi).1
  have key : ∀ b, cutH H' X b = if X b then none else H' b := fun b => rfl
  have s12 : Same H1 (cutH H' X) := fun b o ho => by
    rw [key, if_neg (hX b (by rw [ho]; exact fun z => nomatch z))]
    exact E'.old b o ho
  have s2 : Same (cutH H' X) H' := fun b o ho => by
    rw [key] at ho
    split at ho
    · cases ho
    · exact ho
  refine ⟨cutH H' X, s12, s2, .mk' fun a o9 t9 q => ?_, ⟨s2, E'.len, own0, fun i p hp => ?_, g2, fun i c hc => ?_⟩, fun b o hn ho => ?_⟩
  · have nX : ∀ o, H' a = some o → isTup o → ¬ X a := fun o ho t ⟨i, hi⟩ => by
      obtain ⟨u, hu, nu⟩ := (g1 i a hi).2
      have := e _ _ hu
      rw [ho] at this
      cases this
      exact nu t
    exact by rw [key, if_neg (nX _ q t9.up)]; exact q
  · obtain ⟨o, ho, nt⟩ := (g1 i p hp).2
    exact ⟨by rw [key, if_pos ⟨i, hp⟩], o, e _ _ ho, nt⟩
  · obtain ⟨v, hv, hk⟩ := g3 i c hc
    refine ⟨v, hv, ?_⟩
    cases c with
    | ow R b => exact R.stay hk (ext_same e) fun p _ o ho => e _ _ ho
    | ro r m b => exact ⟨hk.1, m.up s12 hk.2⟩
  · rw [key, if_neg fun ⟨i, hi⟩ => by
      obtain ⟨u, hu, _⟩ := (g1 i b hi).2
      rw [hn] at hu
      cases hu]
    exact ho
/-- .. and one list more -/
theorem Env.freeze {i : Nat} {r : Rp α} {xs : List α} (E : Env H1 σ H G) (hi : G[i]? = some (some (.ow (nl K r) xs))) (M : Mono r) : ∃ H2, Same H1 H2 ∧ ExT K H H2 ∧ Env H2 σ H (G.set i (rc (rL r) xs)) := by
  classical
  obtain ⟨own, h1, h2, h3⟩ := E.at_
  let X : Addr → Prop := fun b => (∃ j, j ≠ i ∧ b ∈ own j)
  have hX : ∀ b, H1 b ≠ none → ¬ X b := fun b hb ⟨j, _, hj⟩ => hb (h1 j b hj).1
  have key : ∀ b, cutH H X b = if X b then none else H b := fun b => rfl
  have s12 : Same H1 (cutH H X) := fun b o ho => by
    rw [key, if_neg (hX b (by rw [ho]; exact fun z => nomatch z))]
    exact E.old b o ho
  have s2 : Same (cutH H X) H := fun b o ho => by
    rw [key] at ho
    split at ho
    · cases ho
    · exact ho
  have xt : ExT K H (cutH H X) := .mk' fun a o9 t9 q => by
    have nX : ∀ o, H a = some o → isTup o → ¬ X a := fun o ho t ⟨j, _, hj⟩ => by
      obtain ⟨u, hu, nu⟩ := (h1 j a hj).2
      rw [ho] at hu
      cases hu
      exact nu t
    exact by rw [key, if_neg (nX _ q t9.up)]; exact q
  refine ⟨cutH H X, s12, xt, s2, by rw [List.length_set]; exact E.len, fun j => if j = i then [] else own j, fun j p hp => ?_, fun j k p hj hk => ?_, fun j c hc => ?_⟩
  · by_cases hj : j = i
    · simp only [hj, if_true] at hp
      cases hp
    · simp only [hj, if_false] at hp
      exact ⟨by rw [key, if_pos ⟨j, hj, hp⟩], (h1 j p hp).2⟩
  · by_cases hji : j = i
    · simp only [hji, if_true] at hj
      cases hj
    · by_cases hki : k = i
      · simp only [hki, if_true] at hk
        cases hk
      · simp only [hji, hki, if_false] at hj hk
        exact h2 j k p hj hk
  · by_cases hj : j = i
    · subst hj
      have hl : j < G.length := (List.getElem?_eq_some_iff.mp hi).1
      rw [List.getElem?_set_self hl] at hc
      cases hc
      obtain ⟨v, hv, p, vs, e1, e2, e3, e4⟩ := h3 j _ hi
      refine ⟨v, hv, by simp, p, vs, e2, ?_, e4.imp fun _ _ z => (z.up xt).now⟩
      rw [key, if_neg fun ⟨k, hk, hp⟩ => hk (h2 k j p hp (by rw [e1]; exact List.mem_singleton.mpr rfl))]
      exact e3
    · rw [List.getElem?_set_ne (Ne.symm hj)] at hc
      obtain ⟨v, hv, hk⟩ := h3 j c hc
      refine ⟨v, hv, ?_⟩
      simp only [hj, if_false]
      cases c with
      | ow R b => exact hk
      | ro r m b => exact ⟨hk.1, m.up s12 hk.2⟩
structure Wj (J : It) (r : Rp α) (H1 : Hp) (xs : List α) : Prop where
  go : ∀ (H : Hp) (i : Nat) (x : α), Same H1 H → xs[i]? = some x → J.go i H ∧ ∀ v H', J.yld i H v H' → Same H H' ∧ r H' v x
  stop : ∀ H : Hp, Same H1 H → J.stop xs.length H
def Wk (wi : TI) (r : Rp α) (G G' : Cells K) (xs : List α) : Prop := ∀ H1 σ H, Env H1 σ H G → ∀ R : It → Hp → Prop, (∀ J H2 H', Same H1 H2 → Same H H' → Env H2 σ H' G' → Wj J r H2 xs → R J H') → wi σ H R
theorem wj_list {r : Rp α} [M : Mono r] {a : Addr} {vs : List V} {xs : List α} (h : H1 a = some (.lst vs)) (q : A2 (r H1) vs xs) : Wj (Itl K a) r H1 xs where
  go := fun H i x e hx => by
    obtain ⟨v, hv, z⟩ := q.get' hx
    refine ⟨⟨vs, v, SqL.of (e _ _ h), hv⟩, fun w H' ⟨e1, e2⟩ => ?_⟩
    subst e1
    have := e2 vs (SqL.of (e _ _ h))
    rw [hv] at this
    cases this
    exact ⟨Same.refl _, M.up e z⟩
  stop := fun H e => ⟨vs, SqL.of (e _ _ h), Nat.le_of_eq q.len⟩
theorem wj_tup {r : Rp α} [M : Mono r] {a : Addr} {vs : List V} {xs : List α} (h : SqT K H1 a vs) (q : A2 (r H1) vs xs) : Wj (Itt K a) r H1 xs where
  go := fun H i x e hx => by
    obtain ⟨v, hv, z⟩ := q.get' hx
    refine ⟨⟨vs, v, ext_same e _ _ h, hv⟩, fun w H' ⟨e1, e2⟩ => ?_⟩
    subst e1
    have := e2 vs (ext_same e _ _ h)
    rw [hv] at this
    cases this
    exact ⟨Same.refl _, M.up e z⟩
  stop := fun H e => ⟨vs, ext_same e _ _ h, Nat.le_of_eq q.len⟩
theorem wj_rng {lo : Int} {n : Nat} : Wj (Itr lo n) rI H1 ((List.range n).map fun (i : Nat) => lo + (i : Int)) where
  go := fun H i x e hx => by
    rw [List.getElem?_map] at hx
    by_cases hi : i < n
    · rw [List.getElem?_range hi] at hx
      cases hx
      exact ⟨hi, fun v H' ⟨e1, e2⟩ => by subst e1; exact ⟨Same.refl _, e2⟩⟩
    · rw [List.getElem?_eq_none (by rw [List.length_range]; omega)] at hx
      cases hx
  stop := fun H e => by
    show n ≤ _
    rw [List.length_map, List.length_range]
    exact Nat.le_refl _
/-- a list that nothing here owns | a list that was there | an owned list: read only from now on -/
theorem wk_new {r : Rp α} [M : Mono r] {tl : TE} {xs : List α} (h : Nw (nl K r) tl G xs) : Wk (iList K tl) r G G xs := fun H1 σ H E R k =>
  h H1 σ H E _ fun v H' as e hn ⟨p, vs, e1, e2, e3, e4⟩ => by
    obtain ⟨H2, s1, s2, x, E2, ho⟩ := E.rebase e
    have hp : H2 p = some (.lst vs) := ho p _ (hn p (by rw [e1]; exact List.mem_singleton.mpr rfl)) e3
    exact ⟨p, e2, ⟨vs, SqL.of e3⟩, k _ H2 H' s1 e E2 (wj_list hp (e4.imp fun _ _ z => (z.up x).now))⟩
theorem wk_ro {r : Rp α} {M : Mono (rL r)} [N : Mono r] {i : Nat} {xs : List α} (h : G[i]? = some (some (.ro (rL r) M xs)) := by rfl) : Wk (iList K (tVar i)) r G G xs := fun H1 σ H E R k => by
  obtain ⟨own, _, _, h3⟩ := E.at_
  obtain ⟨v, hv, _, p, vs, e2, e3, e4⟩ := h3 i _ h
  exact ⟨v, hv, p, e2, ⟨vs, SqL.of (E.old _ _ e3)⟩, k _ H1 H (Same.refl _) (Same.refl _) E (wj_list e3 e4)⟩
theorem wk_own {r : Rp α} [M : Mono r] {i : Nat} {xs : List α} (h : G[i]? = some (some (.ow (nl K r) xs)) := by rfl) : Wk (iList K (tVar i)) r G (G.set i (rc (rL r) xs)) xs := fun H1 σ H E R k => by
  obtain ⟨H2, s1, x, E2⟩ := E.freeze h M
  obtain ⟨own, _, _, h3⟩ := E2.at_
  have hl : i < G.length := (List.getElem?_eq_some_iff.mp h).1
  obtain ⟨v, hv, _, p, vs, e2, e3, e4⟩ := h3 i _ (List.getElem?_set_self hl)
  exact ⟨v, hv, p, e2, ⟨vs, SqL.of (E2.old _ _ e3)⟩, k _ H2 H s1 (Same.refl _) E2 (wj_list e3 e4)⟩
/-- a tuple -/
theorem wk_tup {r : Rp α} [F : Frz K r] [M : Mono r] {tl : TE} {xs : List α} (h : Ev (rT K r) tl G xs) : Wk (iTup K tl) r G G xs := fun H1 σ H E R k =>
  h H1 σ H E _ fun v H' e ⟨p, vs, e2, e3, e4⟩ => by
    obtain ⟨H2, s1, s2, x, E2, ho⟩ := E.rebase e
    exact ⟨p, e2, ⟨vs, e3⟩, k _ H2 H' s1 e E2 (wj_tup (x _ _ e3) (e4.imp fun _ _ z => F.up x z))⟩
/-- 0, 1, .. below n -/
def ups (n : Nat) : List Int := (List.range n).map fun (i : Nat) => (i : Int)
theorem ups_len (n : Nat) : (ups n).length = n := by unfold ups; rw [List.length_map, List.length_range]
theorem wk_rng1 {ta : TE} {n : Int} (h : Ev rI ta G n) (hn : -100000 ≤ n ∧ n ≤ 100000) : Wk (iRng1 (tCons ta tNil)) rI G G (ups n.toNat) := fun H1 σ H E R k =>
  h H1 σ H E _ fun v H' e z => ⟨n, by rw [show v = .int n from z], by omega, by omega, k (Itr 0 n.toNat) H1 H' (Same.refl _) e (E.grow e) (by
      have w := wj_rng (H1 := H1) (lo := 0) (n := n.toNat)
      have e0 : ((List.range n.toNat).map fun (i : Nat) => (0 : Int) + (i : Int)) = ups n.toNat := by
        unfold ups
        exact List.map_congr_left fun i _ => Int.zero_add _
      rw [e0] at w
      exact w)⟩
def upsFrom (lo : Int) (n : Nat) : List Int := (List.range n).map fun (i : Nat) => lo + (i : Int)
theorem wk_rng2 {ta tb : TE} {m n : Int} (h : Ev rI ta G m) (h' : Ev rI tb G n) (hn : -100000 ≤ m ∧ m ≤ 100000 ∧ -100000 ≤ n ∧ n ≤ 100000) : Wk (iRng2 (tCons ta (tCons tb tNil))) rI G G (upsFrom m (n - m).toNat) := fun H1 σ H E R k =>
  h H1 σ H E _ fun v Ha ea z => h' H1 σ Ha (E.grow ea) _ fun v' H' e z' => ⟨m, n, by rw [show v = .int m from z, show v' = .int n from z'], by omega, k (Itr m (n - m).toNat) H1 H' (Same.refl _) (ea.trans e) (E.grow (ea.trans e)) wj_rng⟩
def Tg (g : TG) (r : Rp α) (x : α) (G G' : Cells K) : Prop := ∀ H1 σ H v, Env H1 σ H G → r H v x → ∀ P : L2.St → Hp → Prop, (∀ σ', Env H1 σ' H G' → P σ' H) → g v σ H P
theorem tg_name {r : Rp α} [F : Frz K r] {x : α} {i : Nat} : Tg (gName i) r x G (G.set i (fc r x)) := fun H1 σ H v E h P k =>
  k _ (E.put (R := fz K r) (as := []) (Same.refl H) (fun _ z => nomatch z) ⟨rfl, stb h⟩)
theorem tg_pair {r : Rp α} {q : Rp β} [F : Frz K r] [F' : Frz K q] {p : α × β} {i j : Nat} : Tg (gTup K 2 (gCons (gName i) (gCons (gName j) gNil))) (rP K r q) p G ((G.set i (fc r p.1)).set j (fc q p.2)) := fun H1 σ H v E ⟨a, x, y, e, h, h1, h2⟩ P k =>
  ⟨a, [x, y], e, h, rfl, x, [y], rfl, y, [], rfl, rfl, k _ ((E.put (R := fz K r) (as := []) (Same.refl H) (fun _ z => nomatch z) ⟨rfl, stb h1⟩).put (R := fz K q) (as := []) (Same.refl H) (fun _ z => nomatch z) ⟨rfl, stb h2⟩)⟩
variable {D : Ends} {t u tb : TS} {wi : TI} {g : TG} {te : TE} {tt : TT} {r : Rp α} {q : Rp β}
/-- I: what holds of the part walked so far and the state; st: the cells of a state -/
theorem l_forI {xs : List α} (st : S → Cells K) (I : List α → S → Prop) (s0 : S) (hw : Wk wi r G G' xs) (h0 : Sub G' (st s0)) (i0 : I [] s0)
    (body : ∀ H0', Same H0 H0' → ∀ pre x post s, xs = pre ++ x :: post → I pre s → ∃ Gx, Tg g r x (st s) Gx ∧
      Sv H0' Gx tb { D with nx := fun σ H => ∃ s', I (pre ++ [x]) s' ∧ Have H0' (st s') σ H, ct := fun σ H => ∃ s', I (pre ++ [x]) s' ∧ Have H0' (st s') σ H, bk := D.nx })
    (after : ∀ s, I xs s → Nx H0 (st s) D.nx) : Sv H0 G (tFor wi g tb) D := fun σ H ⟨H1, e1, E⟩ => by
  refine hw H1 σ H E _ fun J H2 H' s1 sH E2 W => ?_
  refine ⟨fun i m σ' Hh => i + m = xs.length ∧ ∃ s, I (xs.take i) s ∧ Have H2 (st s) σ' Hh, ⟨xs.length, Nat.zero_add _, s0, i0, H2, Same.refl _, E2.less h0⟩, ?_⟩
  rintro i m σ' Hh ⟨hi, s, hI, H3, s3, E3⟩
  by_cases hl : i < xs.length
  · have hx : xs[i]? = some xs[i] := List.getElem?_eq_getElem hl
    have hs : Same H2 Hh := s3.trans E3.old
    obtain ⟨g1, g2⟩ := W.go Hh i _ hs hx
    have etk : xs.take i ++ [xs[i]] = xs.take (i + 1) := by rw [List.take_add_one, hx]; rfl
    refine .inr ⟨g1, fun σ2 Hh2 => ∃ s', I (xs.take i ++ [xs[i]]) s' ∧ Have H2 (st s') σ2 Hh2, fun σ2 Hh2 ⟨s', hI', hv⟩ => ⟨m - 1, by omega, by omega, s', by rw [← etk]; exact hI', hv⟩, fun v Hh2 hy => ?_⟩
    · obtain ⟨e2, z⟩ := g2 v Hh2 hy
      have hsp : xs = xs.take i ++ xs[i] :: xs.drop (i + 1) := by
        rw [List.getElem_cons_drop, List.take_append_drop]
      obtain ⟨Gx, ht, hb⟩ := body H2 (e1.trans s1) (xs.take i) xs[i] (xs.drop (i + 1)) s hsp hI
      exact ht H3 σ' Hh2 v (E3.grow e2) z _ fun σ2 E4 => hb σ2 Hh2 ⟨H3, s3, E4⟩
  · have hi' : i = xs.length := by omega
    subst hi'
    rw [List.take_length] at hI
    exact .inl ⟨W.stop Hh (s3.trans E3.old), after s hI σ' Hh ⟨H3, (e1.trans s1).trans s3, E3⟩⟩
def wipeG (G : Cells K) : List Nat → Cells K
  | [] => G
  | v :: vs => (wipeG G vs).set v none
theorem wipeG_get {i : Nat} {c : Cell K} : ∀ {vs : List Nat}, (wipeG G vs)[i]? = some (some c) → G[i]? = some (some c) ∧ i ∉ vs
  | [], h => ⟨h, by simp⟩
  | v :: vs, h => by
    unfold wipeG at h
    by_cases hi : v = i
    · subst hi
      by_cases hv : v < (wipeG G vs).length
      · rw [List.getElem?_set_self hv] at h; cases h
      · rw [List.getElem?_eq_none (by simpa using hv)] at h; cases h
    · rw [List.getElem?_set_ne hi] at h
      obtain ⟨h1, h2⟩ := wipeG_get h
      exact ⟨h1, by simp only [List.mem_cons, not_or]; exact ⟨fun e => hi e.symm, h2⟩⟩
theorem wipeG_len : ∀ vs : List Nat, (wipeG G vs).length = G.length
  | [] => rfl
  | v :: vs => by unfold wipeG; rw [List.length_set, wipeG_len vs]
theorem wipe_out' {i : Nat} : ∀ {vs : List Nat}, i ∉ vs → (wipe σ vs)[i]? = σ[i]?
  | [], _ => rfl
  | v :: vs, h => by
    have h1 : v ≠ i := fun e => h (by rw [e]; exact List.mem_cons_self)
    unfold wipe
    rw [List.getElem?_set_ne h1]
    exact wipe_out' fun z => h (List.mem_cons_of_mem _ z)
theorem wipe_in {i : Nat} : ∀ {vs : List Nat}, i ∈ vs → i < σ.length → (wipe σ vs)[i]? = some none
  | [], h, _ => by cases h
  | v :: vs, h, hl => by
    unfold wipe
    by_cases hv : v = i
    · subst hv
      rw [List.getElem?_set_self (by rw [wipe_length]; exact hl)]
    · rw [List.getElem?_set_ne hv]
      rcases List.mem_cons.mp h with e | e
      · exact absurd e.symm hv
      · exact wipe_in e hl
theorem wipe_set {i : Nat} {v : Option V} {vs : List Nat} (h : i ∈ vs) : wipe ((wipe σ vs).set i v) vs = wipe σ vs := by
  apply List.ext_getElem?
  intro j
  by_cases hj : j ∈ vs
  · by_cases hl : j < σ.length
    · rw [wipe_in hj hl, wipe_in hj (by rw [List.length_set, wipe_length]; exact hl)]
    · rw [List.getElem?_eq_none (by rw [wipe_length, List.length_set, wipe_length]; omega), List.getElem?_eq_none (by rw [wipe_length]; omega)]
  · rw [wipe_out' hj, List.getElem?_set_ne fun e => hj (by rw [← e]; exact h)]
theorem Env.wipe (E : Env H1 σ H G) (vs : List Nat) : Env H1 (L2.wipe σ vs) H (wipeG G vs) := by
  obtain ⟨own, h1, h2, h3⟩ := E.at_
  refine ⟨E.old, by rw [wipe_length, wipeG_len]; exact E.len, own, h1, h2, fun i c hc => ?_⟩
  obtain ⟨a, b⟩ := wipeG_get hc
  obtain ⟨v, hv, hk⟩ := h3 i c a
  exact ⟨v, by rw [wipe_out' b]; exact hv, hk⟩
/-- the target of a comprehension -/
def Tb (g : TG) (r : Rp α) (x : α) (vs : List Nat) (G G' : Cells K) : Prop := ∀ H1 σ σ0 H v, σ = wipe σ0 vs → Env H1 σ H G → r H v x → ∀ P : L2.St → Hp → Prop, (∀ σ', Env H1 σ' H G' → wipe σ' vs = wipe σ0 vs → P σ' H) → g v σ H P
theorem tb_name {r : Rp α} [F : Frz K r] {x : α} {i : Nat} {vs : List Nat} (hi : i ∈ vs := by decide) : Tb (gName i) r x vs G (G.set i (fc r x)) := fun H1 σ σ0 H v e E h P k => by
  subst e
  exact k _ (E.put (R := fz K r) (as := []) (Same.refl H) (fun _ z => nomatch z) ⟨rfl, stb h⟩) (wipe_set hi)
theorem wipe_set2 {i : Nat} {v : Option V} {vs : List Nat} (h : i ∈ vs) : wipe (σ.set i v) vs = wipe σ vs := by
  apply List.ext_getElem?
  intro j
  by_cases hj : j ∈ vs
  · by_cases hl : j < σ.length
    · rw [wipe_in hj hl, wipe_in hj (by rw [List.length_set]; exact hl)]
    · rw [List.getElem?_eq_none (by rw [wipe_length, List.length_set]; omega), List.getElem?_eq_none (by rw [wipe_length]; omega)]
  · rw [wipe_out' hj, List.getElem?_set_ne (fun e => hj (by rw [← e]; exact h)), wipe_out' hj]
theorem tb_pair {r : Rp α} {q : Rp β} [F : Frz K r] [F' : Frz K q] {p : α × β} {i j : Nat} {vs : List Nat} (hi : i ∈ vs := by decide) (hj : j ∈ vs := by decide) : Tb (gTup K 2 (gCons (gName i) (gCons (gName j) gNil))) (rP K r q) p vs G ((G.set i (fc r p.1)).set j (fc q p.2)) := fun H1 σ σ0 H v e0 E ⟨a, x, y, e, h, h1, h2⟩ P k => by
  subst e0
  exact ⟨a, [x, y], e, h, rfl, x, [y], rfl, y, [], rfl, rfl, k _ ((E.put (R := fz K r) (as := []) (Same.refl H) (fun _ z => nomatch z) ⟨rfl, stb h1⟩).put (R := fz K q) (as := []) (Same.refl H) (fun _ z => nomatch z) ⟨rfl, stb h2⟩) (by rw [wipe_set2 hj, wipe_set hi])⟩
theorem getE_last {X : Type _} {l : List X} {x : X} : (l ++ [x])[l.length]? = some x := by simp
theorem getE_old {X : Type _} {l : List X} {x y : X} {i : Nat} (h : l[i]? = some y) : (l ++ [x])[i]? = some y := by
  rw [List.getElem?_append_left (List.getElem?_eq_some_iff.mp h).1]
  exact h
theorem Env.pad (E : Env H1 σ H G) : Env H1 (σ ++ [none]) H (G ++ [none]) := by
  obtain ⟨own, g1, g2, g3⟩ := E.at_
  refine ⟨E.old, by rw [List.length_append, List.length_append, E.len]; rfl, own, g1, g2, fun i c hc => ?_⟩
  by_cases hi : i < G.length
  · rw [List.getElem?_append_left hi] at hc
    obtain ⟨v, hv, hk⟩ := g3 i c hc
    exact ⟨v, getE_old hv, hk⟩
  · rw [List.getElem?_append_right (by omega)] at hc
    cases h : i - G.length with
    | zero => rw [h] at hc; simp at hc
    | succ n => rw [h] at hc; simp at hc
theorem Env.trunc {x : Option V} {c : Option (Cell K)} (E : Env H1 (σ ++ [x]) H (G ++ [c])) : Env H1 σ H G := by
  obtain ⟨own, g1, g2, g3⟩ := E.at_
  have hl : σ.length = G.length := by
    have := E.len
    rw [List.length_append, List.length_append] at this
    simpa using this
  refine ⟨E.old, hl, own, g1, g2, fun i c hc => ?_⟩
  obtain ⟨v, hv, hk⟩ := g3 i c (getE_old hc)
  have hi : i < σ.length := by rw [hl]; exact (List.getElem?_eq_some_iff.mp hc).1
  rw [List.getElem?_append_left hi] at hv
  exact ⟨v, hv, hk⟩
theorem set_last {X : Type _} {l : List X} {x y : X} : (l ++ [x]).set l.length y = l ++ [y] := by simp
theorem Env.push {D : Addr} {q : Rp β} (E : Env H1 σ H G) (hD : H D = none) : Env H1 (σ ++ [some (.ref D)]) (upd H D (.lst [])) (G ++ [some (.ow (nl K q) [])]) := by
  have e : Same H (upd H D (.lst [])) := fun b o hb => by rw [upd_ne (ne_of_none hb hD)]; exact hb
  have E2 := E.pad.put (i := G.length) (v := .ref D) (R := nl K q) (b := []) (as := [D]) e (fun p hp => by rw [List.mem_singleton.mp hp]; exact hD) ⟨D, [], rfl, rfl, upd_same, .nil⟩
  have e1 : (σ ++ [none]).set G.length (some (V.ref D)) = σ ++ [some (.ref D)] := by rw [← E.len]; exact set_last
  rw [e1, set_last] at E2
  exact E2
theorem nw_lc {vs : List Nat} {f : β' → γ} {p : β' → Bool} {q : Rp γ} [F : Frz K q] {r : Rp β'} {ys : List β'} (hw : Wk wi r G G' ys) (hlen : ys.length ≤ 100000)
    (turn : ∀ pre x post, ys = pre ++ x :: post → ∃ Gx, Tb g r x vs (wipeG G' vs) Gx ∧ EvT tt Gx (p x) ∧ (p x = true → Ev q te Gx (f x))) :
    Nw (nl K q) (tLc wi g tt te vs) G ((ys.filter p).map f) := fun H1 σ H E Q k => by
  refine hw H1 σ H E _ fun J H2 Hs s1 sH E2 W => ?_
  intro D hD
  have E3 := (E2.wipe vs).push (q := q) hD
  have Mk : ∀ h, Env H2 (L2.wipe σ vs ++ [some (.ref D)]) h (wipeG G' vs ++ [some (.ow (nl K q) ((ys.filter p).map f))]) → Same Hs h → Q (.ref D) h := fun h Eh sh => by
    obtain ⟨own, g1, g2, g3⟩ := Eh.at_
    have hlg : (L2.wipe σ vs).length = (wipeG G' vs).length := (E2.wipe vs).len
    obtain ⟨v, hv, p', ws, e1, e2, e3, e4⟩ := g3 _ _ getE_last
    rw [← hlg, getE_last] at hv
    cases hv
    cases e2
    exact k _ h [D] (sH.trans sh) (fun b hb => by rw [List.mem_singleton.mp hb]; exact sH.free hD) ⟨D, ws, rfl, rfl, e3, e4⟩
  have same0 : Same Hs (upd Hs D (.lst [])) := fun b o hb => by rw [upd_ne (ne_of_none hb hD)]; exact hb
  refine ⟨fun i m h => i + m = ys.length ∧ Same Hs h ∧ Env H2 (L2.wipe σ vs ++ [some (.ref D)]) h (wipeG G' vs ++ [some (.ow (nl K q) (((ys.take i).filter p).map f))]), ⟨ys.length, Nat.zero_add _, same0, E3⟩, ?_⟩
  rintro i m h ⟨hi, sh, Eh⟩
  by_cases hl : i < ys.length
  · have hx : ys[i]? = some ys[i] := List.getElem?_eq_getElem hl
    have etk : ys.take (i + 1) = ys.take i ++ [ys[i]] := by rw [List.take_add_one, hx]; rfl
    obtain ⟨g1, g2⟩ := W.go h i _ (E2.old.trans sh) hx
    refine .inr ⟨g1, fun h' => Same Hs h' ∧ Env H2 (L2.wipe σ vs ++ [some (.ref D)]) h' (wipeG G' vs ++ [some (.ow (nl K q) (((ys.take (i + 1)).filter p).map f))]), fun h' z => ⟨m - 1, by omega, by omega, z⟩, fun v h2 hy => ?_⟩
    obtain ⟨e2, z⟩ := g2 v h2 hy
    have hsp : ys = ys.take i ++ ys[i] :: ys.drop (i + 1) := by rw [List.getElem_cons_drop, List.take_append_drop]
    obtain ⟨Gx, ht, hb, he⟩ := turn (ys.take i) ys[i] (ys.drop (i + 1)) hsp
    refine ht H2 _ σ h2 v rfl (Eh.trunc.grow e2) z _ fun σ2 E4 hwp => ⟨hwp, hb H2 σ2 h2 E4 _ fun h3 e3 => ?_⟩
    cases hp : p ys[i] with
    | false =>
      refine iteF ⟨(sh.trans e2).trans e3, ?_⟩
      have : ((ys.take (i + 1)).filter p).map f = ((ys.take i).filter p).map f := by
        rw [etk, List.filter_append, List.filter_cons, if_neg (by rw [hp]; exact Bool.false_ne_true), List.filter_nil, List.append_nil]
      rw [this]
      exact Eh.grow (e2.trans e3)
    | true =>
      refine iteT (he hp H2 σ2 h3 (E4.grow e3) _ fun y h4 e4 hq => ?_)
      have E5 := Eh.grow ((e2.trans e3).trans e4)
      obtain ⟨own, k1, k2, k3⟩ := id E5.at_
      have hlg : (L2.wipe σ vs).length = (wipeG G' vs).length := (E2.wipe vs).len
      obtain ⟨w, hw', p', ws, a1, a2, a3, a4⟩ := k3 _ _ getE_last
      have hw2 := hw'
      rw [← hlg, getE_last] at hw'
      cases hw'
      cases a2
      have hlw : ws.length ≤ 100000 := by
        rw [a4.len, List.length_map]
        exact Nat.le_trans (List.length_filter_le _ _) (Nat.le_trans (by rw [List.length_take]; exact Nat.min_le_right _ _) hlen)
      refine ⟨ws, a3, Nat.lt_of_le_of_lt hlw (by decide), ?_, ?_⟩
      · intro b o hb
        rw [upd_ne (ne_of_none hb hD)]
        exact e4 _ _ (e3 _ _ (e2 _ _ (sh _ _ hb)))
      · have E6 := app_env (x := f ys[i]) E5 getE_last hw2 a3 a4 (stb hq)
        rw [set_last] at E6
        have : ((ys.take (i + 1)).filter p).map f = ((ys.take i).filter p).map f ++ [f ys[i]] := by
          rw [etk, List.filter_append, List.filter_cons, if_pos hp, List.filter_nil, List.map_append]
          rfl
        rw [this]
        exact E6
  · have hi' : i = ys.length := by omega
    subst hi'
    rw [List.take_length] at Eh
    exact .inl ⟨W.stop h (E2.old.trans sh), Mk h Eh sh⟩
theorem et_yes : EvT tYes G true := fun H1 σ H E Q k => k H (Same.refl H)
end
end Gt
namespace Gt
open PySem PySem.Spec PyProof.Rows L2
theorem sz {n : Nat} (h : n ≤ 100000) : n ≤ sizeLine := Nat.le_trans h (by decide)
section
variable {K : PySem.W.Frag} {H0 H1 H H' : Hp} {σ : L2.St} {G G' Gx : Cells K} {α β γ S : Type}
variable {ta tb tc te : TE} {tt tu tv : TT} {r : Rp α} {q : Rp β} {a x : α} {b y : β} {i j n m : Int} {s t : Str} {c d : Bool}
theorem ev_add (ha : Ev rI ta G i) (hb : Ev rI tb G j) : Ev rI (tOp (rI0 fun i j => .int (i + j)) ta tb) G (i + j) := ev_op ha hb (op_I0 fun _ => rfl)
theorem ev_sub (ha : Ev rI ta G i) (hb : Ev rI tb G j) : Ev rI (tOp (rI0 fun i j => .int (i - j)) ta tb) G (i - j) := ev_op ha hb (op_I0 fun _ => rfl)
theorem ev_mul (ha : Ev rI ta G i) (hb : Ev rI tb G j) (h : CMul i j) : Ev rI (tOp (L2.rI CMul fun i j => .int (i * j)) ta tb) G (i * j) := ev_op ha hb (op_I h fun _ => rfl)
theorem ev_div (ha : Ev rI ta G i) (hb : Ev rI tb G j) (h : CDiv i j) : Ev rI (tOp (L2.rI CDiv fun i j => .int (i / j)) ta tb) G (i / j) := ev_op ha hb (op_I h fun _ => rfl)
theorem ev_mod (ha : Ev rI ta G i) (hb : Ev rI tb G j) (h : 0 < j) : Ev rI (tOp (L2.rI (fun _ j => 0 < j) fun i j => .int (i % j)) ta tb) G (i % j) := ev_op ha hb (op_I h fun _ => rfl)
theorem ev_pow (ha : Ev rI ta G i) (hb : Ev rI tb G j) (h : CPow i j) : Ev rI (tOp (L2.rI CPow fun i j => .int (i ^ j.toNat)) ta tb) G (i ^ j.toNat) := ev_op ha hb (op_I h fun _ => rfl)
theorem ev_lt (ha : Ev rI ta G i) (hb : Ev rI tb G j) : Ev rB (tOp (rI0 fun i j => .bl (decide (i < j))) ta tb) G (decide (i < j)) := ev_op ha hb (op_I0 fun _ => rfl)
theorem ev_le (ha : Ev rI ta G i) (hb : Ev rI tb G j) : Ev rB (tOp (rI0 fun i j => .bl (decide (i ≤ j))) ta tb) G (decide (i ≤ j)) := ev_op ha hb (op_I0 fun _ => rfl)
theorem ev_gt (ha : Ev rI ta G i) (hb : Ev rI tb G j) : Ev rB (tOp (rI0 fun i j => .bl (decide (j < i))) ta tb) G (decide (j < i)) := ev_op ha hb (op_I0 fun _ => rfl)
theorem ev_ge (ha : Ev rI ta G i) (hb : Ev rI tb G j) : Ev rB (tOp (rI0 fun i j => .bl (decide (j ≤ i))) ta tb) G (decide (j ≤ i)) := ev_op ha hb (op_I0 fun _ => rfl)
theorem ev_neg (ha : Ev rI ta G i) : Ev rI (tUn (rU fun i => .int (-i)) ta) G (-i) := fun H0 σ H E Q k => ha H0 σ H E _ fun u H' e h => ⟨i, h, k _ H' e rfl⟩
theorem ev_chain {o o' : Int → Int → V} {f f' : Int → Int → Bool} (h1 : ∀ i j, o i j = .bl (f i j)) (h2 : ∀ i j, o' i j = .bl (f' i j)) (ha : Ev rI ta G i) (hb : Ev rI tb G j) (hc : Ev rI tc G n) : Ev rB (tChain (rI0 o) (rI0 o') ta tb tc) G (f i j && f' j n) := fun H0 σ H E Q k =>
  ha H0 σ H E _ fun u H1 e1 z1 => hb H0 σ H1 (E.grow e1) _ fun v H2 e2 z2 => ⟨i, j, z1, z2, f i j, h1 i j, by
    cases hf : f i j with
    | false => exact iteF (k _ H2 (e1.trans e2) (by rw [hf]; rfl))
    | true => exact iteT (hc H0 σ H2 (E.grow (e1.trans e2)) _ fun w H3 e3 z3 => ⟨j, n, z2, z3, k _ H3 ((e1.trans e2).trans e3) (by rw [hf, h2]; rfl)⟩)⟩
theorem ev_chain_le (ha : Ev rI ta G i) (hb : Ev rI tb G j) (hc : Ev rI tc G n) : Ev rB (tChain (rI0 fun i j => .bl (decide (i ≤ j))) (rI0 fun i j => .bl (decide (i ≤ j))) ta tb tc) G (decide (i ≤ j) && decide (j ≤ n)) :=
  ev_chain (f := fun i j => decide (i ≤ j)) (f' := fun i j => decide (i ≤ j)) (fun _ _ => rfl) (fun _ _ => rfl) ha hb hc
theorem ev_chain_lelt (ha : Ev rI ta G i) (hb : Ev rI tb G j) (hc : Ev rI tc G n) : Ev rB (tChain (rI0 fun i j => .bl (decide (i ≤ j))) (rI0 fun i j => .bl (decide (i < j))) ta tb tc) G (decide (i ≤ j) && decide (j < n)) :=
  ev_chain (f := fun i j => decide (i ≤ j)) (f' := fun i j => decide (i < j)) (fun _ _ => rfl) (fun _ _ => rfl) ha hb hc
theorem ev_eqI (ha : Ev rI ta G i) (hb : Ev rI tb G j) : Ev rB (tOp rEq ta tb) G (decide (i = j)) := ev_op ha hb fun H u v hu hv Q k => by
  cases hu; cases hv
  exact ⟨rfl, k _ H (Same.refl H) (by show V.bl _ = V.bl _; congr 1; exact decide_eq_decide.mpr ⟨fun h => V.int.inj h, fun h => by rw [h]⟩)⟩
theorem ev_neI (ha : Ev rI ta G i) (hb : Ev rI tb G j) : Ev rB (tOp rNe ta tb) G (!decide (i = j)) := ev_op ha hb fun H u v hu hv Q k => by
  cases hu; cases hv
  exact ⟨rfl, k _ H (Same.refl H) (by show V.bl _ = V.bl _; congr 2; exact decide_eq_decide.mpr ⟨fun h => V.int.inj h, fun h => by rw [h]⟩)⟩
theorem ev_eqS (ha : Ev rS ta G s) (hb : Ev rS tb G t) : Ev rB (tOp rEq ta tb) G (decide (s = t)) := ev_op ha hb fun H u v ⟨hu, _⟩ ⟨hv, _⟩ Q k => by
  cases hu; cases hv
  exact ⟨rfl, k _ H (Same.refl H) (by show V.bl _ = V.bl _; congr 1; exact decide_eq_decide.mpr ⟨fun h => V.str.inj h, fun h => by rw [h]⟩)⟩
theorem ev_neS (ha : Ev rS ta G s) (hb : Ev rS tb G t) : Ev rB (tOp rNe ta tb) G (!decide (s = t)) := ev_op ha hb fun H u v ⟨hu, _⟩ ⟨hv, _⟩ Q k => by
  cases hu; cases hv
  exact ⟨rfl, k _ H (Same.refl H) (by show V.bl _ = V.bl _; congr 2; exact decide_eq_decide.mpr ⟨fun h => V.str.inj h, fun h => by rw [h]⟩)⟩
theorem ev_eqB (ha : Ev rB ta G c) (hb : Ev rB tb G d) : Ev rB (tOp rEq ta tb) G (decide (c = d)) := ev_op ha hb fun H u v hu hv Q k => by
  cases hu; cases hv
  exact ⟨rfl, k _ H (Same.refl H) (by show V.bl _ = V.bl _; congr 1; exact decide_eq_decide.mpr ⟨fun h => V.bl.inj h, fun h => by rw [h]⟩)⟩
theorem ev_neB (ha : Ev rB ta G c) (hb : Ev rB tb G d) : Ev rB (tOp rNe ta tb) G (!decide (c = d)) := ev_op ha hb fun H u v hu hv Q k => by
  cases hu; cases hv
  exact ⟨rfl, k _ H (Same.refl H) (by show V.bl _ = V.bl _; congr 2; exact decide_eq_decide.mpr ⟨fun h => V.bl.inj h, fun h => by rw [h]⟩)⟩
/-- is None -/
def isNone' {α : Type} : Option α → Bool
  | .none => true
  | .some _ => false
class NotNon {α : Type} (r : Rp α) : Prop where
  nn : ∀ {H : Hp} {v : V} {a : α}, r H v a → v ≠ .non
instance : NotNon rI := ⟨fun h z => by rw [z] at h; cases h⟩
instance : NotNon rS := ⟨fun h z => by rw [z] at h; exact nomatch h.1⟩
instance : NotNon rB := ⟨fun h z => by rw [z] at h; cases h⟩
instance {r : Rp α} : NotNon (rT K r) := ⟨fun ⟨_, _, e, _⟩ z => by rw [z] at e; cases e⟩
instance {r : Rp α} {q : Rp β} : NotNon (rP K r q) := ⟨fun ⟨_, _, _, e, _⟩ z => by rw [z] at e; cases e⟩
instance {r : Rp α} : NotNon (rL r) := ⟨fun ⟨_, _, e, _⟩ z => by rw [z] at e; cases e⟩
theorem isNone_of {r : Rp α} [N : NotNon r] {v : V} {o : Option α} (h : rO r H v o) : decide (v = .non) = isNone' o := by
  cases o with
  | none => exact decide_eq_true h
  | some a => exact decide_eq_false (N.nn (r := r) (H := H) (a := a) h)
theorem ev_isN [N : NotNon r] [M : Mono r] {o : Option α} (ha : Ev (rO r) ta G o) : Ev rB (tOp (fun x y H Q => y = .non ∧ Q (.bl (decide (x = .non))) H) ta (tC .non)) G (isNone' o) := fun H0 σ H E Q k =>
  ha H0 σ H E _ fun u H1 e1 z => ⟨rfl, k _ H1 e1 (by show V.bl _ = V.bl _; rw [isNone_of z])⟩
theorem ev_notN [N : NotNon r] [M : Mono r] {o : Option α} (ha : Ev (rO r) ta G o) : Ev rB (tOp (fun x y H Q => y = .non ∧ Q (.bl (!decide (x = .non))) H) ta (tC .non)) G (!isNone' o) := fun H0 σ H E Q k =>
  ha H0 σ H E _ fun u H1 e1 z => ⟨rfl, k _ H1 e1 (by show V.bl _ = V.bl _; rw [isNone_of z])⟩
theorem et_test (h : Ev rB te G c) : EvT (tTest te) G c := fun H0 σ H E Q k => h H0 σ H E _ fun v H' e z => ⟨c, z, k H' e⟩
theorem et_B (h : Ev rB te G c) : EvT (tB te) G c := fun H0 σ H E Q k => h H0 σ H E _ fun v H' e z => ⟨c, z, k H' e⟩
theorem et_and (h1 : EvT tt G c) (h2 : c = true → EvT tu G d) : EvT (tAnd tt tu) G (c && d) := fun H0 σ H E Q k => h1 H0 σ H E _ fun H1 e1 => by
  cases c with
  | true => exact iteT (h2 rfl H0 σ H1 (E.grow e1) _ fun H2 e2 => k H2 (e1.trans e2))
  | false => exact iteF (k H1 e1)
theorem et_or (h1 : EvT tt G c) (h2 : c = false → EvT tu G d) : EvT (tOr tt tu) G (c || d) := fun H0 σ H E Q k => h1 H0 σ H E _ fun H1 e1 => by
  cases c with
  | true => exact iteT (k H1 e1)
  | false => exact iteF (h2 rfl H0 σ H1 (E.grow e1) _ fun H2 e2 => k H2 (e1.trans e2))
theorem et_not (h1 : EvT tt G c) : EvT (tNot tt) G (!c) := fun H0 σ H E Q k => h1 H0 σ H E _ fun H1 e1 => k H1 e1
theorem ev_and (h1 : Ev rB ta G c) (h2 : c = true → Ev rB tb G d) : Ev rB (tAndV ta tb) G (c && d) := fun H0 σ H E Q k => h1 H0 σ H E _ fun v H1 e1 z => ⟨c, z, by
  cases c with
  | true => exact iteT (h2 rfl H0 σ H1 (E.grow e1) _ fun w H2 e2 z2 => k w H2 (e1.trans e2) z2)
  | false => exact iteF (k _ H1 e1 rfl)⟩
theorem ev_or (h1 : Ev rB ta G c) (h2 : c = false → Ev rB tb G d) : Ev rB (tOrV ta tb) G (c || d) := fun H0 σ H E Q k => h1 H0 σ H E _ fun v H1 e1 z => ⟨c, z, by
  cases c with
  | true => exact iteT (k _ H1 e1 rfl)
  | false => exact iteF (h2 rfl H0 σ H1 (E.grow e1) _ fun w H2 e2 z2 => k w H2 (e1.trans e2) z2)⟩
theorem ev_not (h1 : Ev rB ta G c) : Ev rB (tNotV ta) G (!c) := fun H0 σ H E Q k => h1 H0 σ H E _ fun v H1 e1 z => ⟨c, z, k _ H1 e1 rfl⟩
theorem ev_if (h : EvT tt G c) (h1 : c = true → Ev r ta G a) (h2 : c = false → Ev r tb G x) : Ev r (tIf tt ta tb) G (bif c then a else x) := fun H0 σ H E Q k => h H0 σ H E _ fun H1 e1 => by
  cases c with
  | true => exact iteT (h1 rfl H0 σ H1 (E.grow e1) _ fun w H2 e2 z2 => k w H2 (e1.trans e2) z2)
  | false => exact iteF (h2 rfl H0 σ H1 (E.grow e1) _ fun w H2 e2 z2 => k w H2 (e1.trans e2) z2)
/-- truth -/
abbrev tTru (K : PySem.W.Frag) (ta : TE) : TT := fun σ H Q => ta σ H fun x H' => ∃ k, TruV K x H' k ∧ Q k H'
theorem a2_empty {r : α → β → Prop} {xs : List α} {ys : List β} (h : A2 r xs ys) : xs.isEmpty = ys.isEmpty := by cases h <;> rfl
theorem ea_nil : EvA aN tNil G () := fun H0 σ H E Q k => k [] H (Same.refl H) rfl
theorem ea_cons {A : Ra γ} {g : γ} {tr : TA} [M : Mono r] (h : Ev r te G a) (hr : EvA A tr G g) : EvA (aC r A) (tCons te tr) G (a, g) := fun H0 σ H E Q k =>
  h H0 σ H E _ fun v H1 e1 z1 => hr H0 σ H1 (E.grow e1) _ fun vs H2 e2 z2 => k _ H2 (e1.trans e2) ⟨v, vs, rfl, M.up e2 z1, z2⟩
theorem ev_call {A : Ra γ} {g : γ} {pre : γ → Prop} {f : γ → β} {E' : XK} {t : TA} (h : EvA A t G g) (hp : pre g) (e : f g = b) : Ev q (tCall (spF A pre q f) [] E' t) G b := fun H0 σ H E Q k =>
  h H0 σ H E _ fun vs H1 e1 z1 => by
    rw [List.append_nil]
    exact ⟨g, z1, hp, fun v H2 e2 z2 => k v H2 (e1.trans e2) (e ▸ z2)⟩
theorem nw_call {A : Ra γ} {g : γ} {pre : γ → Prop} {R : Rs K β} {f : γ → β} {E' : XK} {t : TA} (h : EvA A t G g) (hp : pre g) (e : f g = b) : Nw R (tCall (spN A pre R f) [] E' t) G b := fun H0 σ H E Q k =>
  h H0 σ H E _ fun vs H1 e1 z1 => by
    rw [List.append_nil]
    exact ⟨g, z1, hp, fun v H2 as e2 hn z2 => k v H2 as (e1.trans e2) (fun p hp => free_back e1 (hn p hp)) (e ▸ z2)⟩
/-- a built-in function -/
def CbE (o : List V → Hp → VK → Prop) (A : Ra γ) (q : Rp β) (g : γ) (b : β) : Prop := ∀ H vs, A H vs g → ∀ Q : VK, (∀ w H', Same H H' → q H' w b → Q w H') → o vs H Q
def CbN (o : List V → Hp → VK → Prop) (A : Ra γ) (R : Rs K β) (g : γ) (b : β) : Prop := ∀ H vs, A H vs g → ∀ Q : VK, (∀ w H' as, Same H H' → (∀ p, p ∈ as → H p = none) → R.rep H' w b as → Q w H') → o vs H Q
theorem ev_cb {o : List V → Hp → VK → Prop} {A : Ra γ} {g : γ} {t : TA} (h : EvA A t G g) (ho : CbE o A q g b) : Ev q (tCB o t) G b := fun H0 σ H E Q k =>
  h H0 σ H E _ fun vs H1 e1 z1 => ho H1 vs z1 Q fun v H2 e2 z2 => k v H2 (e1.trans e2) z2
theorem nw_cb {o : List V → Hp → VK → Prop} {A : Ra γ} {g : γ} {t : TA} {R : Rs K β} (h : EvA A t G g) (ho : CbN o A R g b) : Nw R (tCB o t) G b := fun H0 σ H E Q k =>
  h H0 σ H E _ fun vs H1 e1 z1 => ho H1 vs z1 Q fun v H2 as e2 hn z2 => k v H2 as (e1.trans e2) (fun p hp => free_back e1 (hn p hp)) z2
abbrev rLenU (K : PySem.W.Frag) : List V → Hp → VK → Prop := fun xs H Q => ∃ x n, xs = [x] ∧ LenV K x H n ∧ Q (.int n) H
abbrev rIntU : List V → Hp → VK → Prop := fun xs H Q => (∃ i, xs = [.int i] ∧ Q (.int i) H) ∨ ∃ k, xs = [.bl k] ∧ Q (.int (if k then 1 else 0)) H
theorem ev_intI (h : Ev rI te G i) : Ev rI (tCB rIntU (tCons te tNil)) G i := ev_cb (ea_cons h ea_nil) fun H vs ⟨v, ws, e, hv, e2⟩ Q k =>
  .inl ⟨i, by rw [e, show ws = [] from e2, show v = .int i from hv], k _ H (Same.refl H) rfl⟩
def b2 (c : Bool) : Int := bif c then 1 else 0
theorem b2_small (c : Bool) : -(2 ^ 64) < b2 c ∧ b2 c < 2 ^ 64 := by cases c <;> decide
theorem ev_intB (h : Ev rB te G c) : Ev rI (tCB rIntU (tCons te tNil)) G (b2 c) := ev_cb (ea_cons h ea_nil) fun H vs ⟨v, ws, e, hv, e2⟩ Q k =>
  .inr ⟨c, by rw [e, show ws = [] from e2, show v = .bl c from hv], k _ H (Same.refl H) (by cases c <;> rfl)⟩
theorem bls {vs : List V} {bs : List Bool} (z : A2 (rB H) vs bs) : vs = bs.map V.bl := A2.map_eq z
theorem ev_all {bs : List Bool} (h : Ev (rL rB) te G bs) : Ev rB (tCB (rAll K) (tCons te tNil)) G (bs.all id) := ev_cb (ea_cons h ea_nil) fun H vs ⟨v, ws, e, ⟨p, us, ev, hp, z⟩, e2⟩ Q k =>
  ⟨p, bs, by rw [e, show ws = [] from e2, ev], by rw [← bls z]; exact SqL.of hp, k _ H (Same.refl H) rfl⟩
theorem ev_any {bs : List Bool} (h : Ev (rL rB) te G bs) : Ev rB (tCB (rAny K) (tCons te tNil)) G (bs.any id) := ev_cb (ea_cons h ea_nil) fun H vs ⟨v, ws, e, ⟨p, us, ev, hp, z⟩, e2⟩ Q k =>
  ⟨p, bs, by rw [e, show ws = [] from e2, ev], by rw [← bls z]; exact SqL.of hp, k _ H (Same.refl H) rfl⟩
theorem ev_sum {ns : List Int} (h : Ev (rL rI) te G ns) : Ev rI (tCB (rSum K) (tCons te tNil)) G ns.sum := ev_cb (ea_cons h ea_nil) fun H vs ⟨v, ws, e, ⟨p, us, ev, hp, z⟩, e2⟩ Q k =>
  ⟨p, ns, by rw [e, show ws = [] from e2, ev], by rw [show us = ns.map V.int from A2.map_eq z] at hp; exact SqL.of hp, k _ H (Same.refl H) rfl⟩
abbrev rListU (K : PySem.W.Frag) : List V → Hp → VK → Prop := fun xs H Q => ∃ p ys, xs = [.ref p] ∧ (SqL K H p ys ∨ SqT K H p ys) ∧ ∀ l, H l = none → Q (.ref l) (upd H l (.lst ys))
theorem same_new {p : Addr} {o : HO} (h : H p = none) : Same H (upd H p o) := fun b u e => by rw [upd_ne (ne_of_none e h)]; exact e
/-- a new tuple whose object is known -/
def NewT (H : Hp) (Q : VK) (ys : List V) : Prop := ∀ l o, H l = none → o.dict = none → Q (.ref l) (upd H l (.frz o (.tup ys)))
abbrev rTupU (K : PySem.W.Frag) : List V → Hp → VK → Prop := fun xs H Q => ∃ p ys, xs = [.ref p] ∧ ((SqL K H p ys ∧ NewT H Q ys) ∨ (SqT K H p ys ∧ Q (.ref p) H))
def tTupD (t : TA) : TE := fun σ H Q => t σ H fun xs H1 => xs.length ≤ sizeLine ∧ NewT H1 Q xs
def aAll (r : Rp α) : Ra (List α) := fun H vs xs => A2 (r H) vs xs
instance [M : Mono r] : MonoA (aAll r) := ⟨fun e h => h.imp fun _ _ z => M.up e z⟩
theorem el_nil : EvA (aAll r) tNil G [] := fun H0 σ H E Q k => k [] H (Same.refl H) .nil
theorem el_cons {tr : TA} {xs : List α} [M : Mono r] (h : Ev r te G x) (hr : EvA (aAll r) tr G xs) : EvA (aAll r) (tCons te tr) G (x :: xs) := fun H0 σ H E Q k =>
  h H0 σ H E _ fun v H1 e1 z1 => hr H0 σ H1 (E.grow e1) _ fun vs H2 e2 z2 => k _ H2 (e1.trans e2) (.cons (M.up e2 z1) z2)
theorem nw_lst {ta : TA} {xs : List α} [M : Mono r] [F : Frz K r] (h : EvA (aAll r) ta G xs) (hz : xs.length ≤ 100000) : Nw (nl K r) (tLst ta) G xs := fun H0 σ H E Q k =>
  h H0 σ H E _ fun vs H1 e1 z => ⟨by rw [A2.len z]; exact sz hz, fun p hp => k _ _ [p] (e1.trans (same_new hp)) (fun b hb => by rw [List.mem_singleton.mp hb]; exact free_back e1 hp) ⟨p, vs, rfl, rfl, upd_same, A2.imp (fun _ _ q => stb (M.up (same_new hp) q)) z⟩⟩
theorem ev_tup {ta : TA} {xs : List α} [M : Mono r] (h : EvA (aAll r) ta G xs) (hz : xs.length ≤ 100000) : Ev (rT K r) (tTupD ta) G xs := fun H0 σ H E Q k =>
  h H0 σ H E _ fun vs H1 e1 z => ⟨by rw [A2.len z]; exact sz hz, fun p o hp hd => k _ _ (e1.trans (same_new hp)) ⟨p, vs, rfl, SqD.of upd_same hd, A2.imp (fun _ _ q => M.up (same_new hp) q) z⟩⟩
theorem ev_pair [M : Mono r] [N : Mono q] (h : Ev r ta G a) (h' : Ev q tb G b) : Ev (rP K r q) (tTupD (tCons ta (tCons tb tNil))) G (a, b) := fun H0 σ H E Q k =>
  h H0 σ H E _ fun v H1 e1 z1 => h' H0 σ H1 (E.grow e1) _ fun w H2 e2 z2 => ⟨by show 2 ≤ sizeLine; decide, fun p o hp hd => k _ _ ((e1.trans e2).trans (same_new hp)) ⟨p, v, w, rfl, (SqD.of upd_same hd).t, M.up (e2.trans (same_new hp)) z1, N.up (same_new hp) z2⟩⟩
theorem atI_A2 {f : V → α → Prop} {vs : List V} {xs : List α} {i : Int} {x : α} (z : A2 f vs xs) (h : atI xs i = some x) : ∃ v, atI vs i = some v ∧ f v x := by
  unfold atI at h ⊢
  rw [z.len]
  cases e : ixN xs.length i with
  | none => rw [e] at h; cases h
  | some j =>
    rw [e] at h
    exact z.get' (i := j) h
theorem atI_mem {xs : List α} {i : Int} {x : α} (h : atI xs i = some x) : x ∈ xs := by
  unfold atI at h
  cases e : ixN xs.length i with
  | none => rw [e] at h; cases h
  | some j => rw [e] at h; exact List.mem_of_getElem? h
theorem ev_fst [M : Mono r] [N : Mono q] {p : α × β} (h : Ev (rP K r q) ta G p) : Ev r (tOp (rIx K) ta (tC (.int 0))) G p.1 := fun H0 σ H E Q k =>
  h H0 σ H E _ fun v H1 e1 ⟨c, x, y, ev, hc, z1, z2⟩ => .inr (.inl ⟨c, [x, y], 0, x, ev, rfl, hc, rfl, k x H1 e1 z1⟩)
theorem ev_snd [M : Mono r] [N : Mono q] {p : α × β} (h : Ev (rP K r q) ta G p) : Ev q (tOp (rIx K) ta (tC (.int 1))) G p.2 := fun H0 σ H E Q k =>
  h H0 σ H E _ fun v H1 e1 ⟨c, x, y, ev, hc, z1, z2⟩ => .inr (.inl ⟨c, [x, y], 1, y, ev, rfl, hc, rfl, k y H1 e1 z2⟩)
def EvO (to : TO) (G : Cells K) (o : Option Int) : Prop := ∀ H0 σ H, Env H0 σ H G → ∀ Q : Option Int → Hp → Prop, (∀ H', Same H H' → Q o H') → to σ H Q
theorem eo_none : EvO tNoPart G Option.none := fun H0 σ H E Q k => k H (Same.refl H)
theorem eo_some (h : Ev rI te G i) : EvO (tPart te) G (Option.some i) := fun H0 σ H E Q k => h H0 σ H E _ fun v H' e z => ⟨i, z, k H' e⟩
/-- xs[lo:hi] -/
def cut (xs : List α) (lo hi : Option Int) : List α := (xs.drop (HT.sIx xs.length 0 lo)).take (HT.sIx xs.length xs.length hi - HT.sIx xs.length 0 lo)
theorem cut_A2 {f : V → α → Prop} {vs : List V} {xs : List α} (z : A2 f vs xs) (lo hi : Option Int) : A2 f (cutV vs lo hi) (cut xs lo hi) := by
  unfold cutV cut
  rw [z.len]
  exact (z.drop _).take _
theorem nw_slL {xs : List α} {lo hi : Option Int} {tl th : TO} [M : Mono r] [F : Frz K r] (h : Ev (rL r) ta G xs) (hl : EvO tl G lo) (hh : EvO th G hi) : Nw (nl K r) (tSl (rSlL K) ta tl th) G (cut xs lo hi) := fun H0 σ H E Q k =>
  h H0 σ H E _ fun v H1 e1 ⟨p, vs, ev, hp, z⟩ => hl H0 σ H1 (E.grow e1) _ fun H2 e2 => hh H0 σ H2 (E.grow (e1.trans e2)) _ fun H3 e3 =>
    ⟨p, vs, ev, SqL.of (e3 _ _ (e2 _ _ hp)), fun l hn => k _ _ [l] (((e1.trans e2).trans e3).trans (same_new hn)) (fun b hb => by rw [List.mem_singleton.mp hb]; exact free_back ((e1.trans e2).trans e3) hn)
      ⟨l, _, rfl, rfl, upd_same, (cut_A2 z lo hi).imp fun _ _ q => stb (M.up ((e2.trans e3).trans (same_new hn)) q)⟩⟩
theorem okS_cut {s : Str} (h : okS s) (lo hi : Option Int) : okS (cutS s lo hi) := by
  have sub : ∀ c ∈ (s.cps.toList.drop (HT.sIx s.length 0 lo)).take (HT.sIx s.length s.length hi - HT.sIx s.length 0 lo), c ∈ s.cps.toList := fun c hc => List.mem_of_mem_drop (List.mem_of_mem_take hc)
  refine ⟨?_, ?_⟩
  · show ((s.cps.toList.drop (HT.sIx s.length 0 lo)).take (HT.sIx s.length s.length hi - HT.sIx s.length 0 lo)).toArray.size ≤ 100000
    rw [List.size_toArray, List.length_take, List.length_drop]
    have : s.cps.toList.length = s.length := rfl
    have := h.1
    omega
  · have := h.2
    rw [← Array.all_toList, List.all_eq_true] at this ⊢
    exact fun c hc => this c (sub c (by simpa [cutS] using hc))
theorem ev_slS {lo hi : Option Int} {tl th : TO} (h : Ev rS ta G s) (hl : EvO tl G lo) (hh : EvO th G hi) : Ev rS (tSl rSlS ta tl th) G (cutS s lo hi) := fun H0 σ H E Q k =>
  h H0 σ H E _ fun v H1 e1 z => hl H0 σ H1 (E.grow e1) _ fun H2 e2 => hh H0 σ H2 (E.grow (e1.trans e2)) _ fun H3 e3 => ⟨s, z.1, sz z.2.1, k _ H3 ((e1.trans e2).trans e3) ⟨rfl, okS_cut z.2 lo hi⟩⟩
abbrev rAddS : R2 := fun x y H Q => ∃ i j, x = .str i ∧ y = .str j ∧ i.length + j.length ≤ sizeLine ∧ Q (.str (i ++ j)) H
theorem ev_addS (h : Ev rS ta G s) (h' : Ev rS tb G t) (hz : s.length + t.length ≤ 100000) : Ev rS (tOp rAddS ta tb) G (s ++ t) := ev_op h h' fun H u v hu hv Q k => ⟨s, t, hu.1, hv.1, sz hz, k _ H (Same.refl H) ⟨rfl, okS_app hu.2 hv.2 hz⟩⟩
theorem nw_cat {xs ys : List α} [M : Mono r] [F : Frz K r] (h : Ev (rL r) ta G xs) (h' : Ev (rL r) tb G ys) (hz : xs.length + ys.length ≤ 100000) : Nw (nl K r) (tOp rCat ta tb) G (xs ++ ys) := nw_op h h' fun H u v ⟨p, vs, ev, hp, z⟩ ⟨p', vs', ev', hp', z'⟩ Q k =>
  ⟨p, p', vs, vs', ev, ev', hp, hp', by rw [z.len, z'.len]; exact sz hz, fun l hl => k _ _ [l] (same_new hl) (fun b hb => by rw [List.mem_singleton.mp hb]; exact hl) ⟨l, _, rfl, rfl, upd_same, (A2.app z' z).imp fun _ _ q => stb (M.up (same_new hl) q)⟩⟩
theorem dot_eq : (Str.ofString ".") = ⟨#[46]⟩ := by decide +kernel
theorem atI_zero {x : α} {l : List α} : atI (x :: l) 0 = some x := by
  unfold atI ixN
  rw [if_pos (by omega), if_pos (by rw [List.length_cons]; omega)]
  rfl
theorem atI_pos {xs : List α} {i : Int} {x : α} (h0 : 0 ≤ i) (h : xs[i.toNat]? = some x) : atI xs i = some x := by
  have hl := (List.getElem?_eq_some_iff.mp h).1
  unfold atI ixN
  rw [if_pos h0, if_pos (by omega)]
  exact h
theorem ev_inSign {z : Nat} (h : Ev rS ta G t) (e : t = ⟨#[z]⟩) (h' : Ev rS tb G s) : Ev rB (tOp (fun x y H Q => ∃ (c : Nat) (z : Str), x = .str ⟨#[c]⟩ ∧ y = .str z ∧ Q (.bl (decide (c ∈ z.cps.toList))) H) ta tb) G (decide (z ∈ s.cps.toList)) := ev_op h h' fun H u v hu hv Q k => ⟨z, s, by rw [← e]; exact hu.1, hv.1, k _ H (Same.refl H) rfl⟩
theorem ev_ninSign {z : Nat} (h : Ev rS ta G t) (e : t = ⟨#[z]⟩) (h' : Ev rS tb G s) : Ev rB (tOp (fun x y H Q => ∃ (c : Nat) (z : Str), x = .str ⟨#[c]⟩ ∧ y = .str z ∧ Q (.bl (!decide (c ∈ z.cps.toList))) H) ta tb) G (!decide (z ∈ s.cps.toList)) := ev_op h h' fun H u v hu hv Q k => ⟨z, s, by rw [← e]; exact hu.1, hv.1, k _ H (Same.refl H) rfl⟩
theorem inV_strs {xs : List Str} : inV (.str s) (xs.map V.str) = decide (s ∈ xs) := by
  unfold inV
  induction xs with
  | nil => simp
  | cons a l ih =>
    rw [List.map_cons, List.any_cons, ih]
    show ((a == s) || decide (s ∈ l)) = decide (s ∈ a :: l)
    by_cases h : a = s
    · subst h; simp
    · have : (a == s) = false := beq_eq_false_iff_ne.mpr h
      rw [this, Bool.false_or]
      apply decide_eq_decide.mpr
      rw [List.mem_cons]
      exact ⟨Or.inr, fun z => z.resolve_left fun e => h e.symm⟩
theorem flat_strs : ∀ xs : List Str, (xs.map V.str).all flatV = true
  | [] => rfl
  | _ :: r => by rw [List.map_cons, List.all_cons, flat_strs r]; rfl
theorem a2_strs {H : Hp} : ∀ {xs : List Str}, (∀ x ∈ xs, okS x) → A2 (rS H) (xs.map V.str) xs
  | [], _ => .nil
  | x :: xs, h => .cons ⟨rfl, h x (List.mem_cons_self ..)⟩ (a2_strs fun y hy => h y (List.mem_cons_of_mem _ hy))
theorem strs_a2 {H : Hp} {vs : List V} {xs : List Str} (z : A2 (rS H) vs xs) : vs = xs.map V.str := A2.map_eq (z.imp fun _ _ q => q.1)
theorem nw_split (h : Ev rS ta G s) (h' : Ev rS tb G t) (ht : (t.length == 0) = false) (hz : s.length ≤ 1000) (hk : ∀ x ∈ Txt.split s t, okS x) :
    Nw (nl K rS) (tM1 (fun x xs H Q => ∃ a b, x = .str a ∧ xs = [.str b] ∧ (b.length == 0) = false ∧ a.length + 2 ≤ sizeLine ∧ rNewStrs (Txt.split a b) H Q) ta tb) G (Txt.split s t) := fun H0 σ H E Q k =>
  h H0 σ H E _ fun v H1 e1 z1 => ⟨⟨s, z1.1⟩, h' H0 σ H1 (E.grow e1) _ fun w H2 e2 z2 => ⟨s, t, z1.1, by rw [show w = .str t from z2.1], ht, sz (by omega), fun p hp => k _ _ [p] ((e1.trans e2).trans (same_new hp)) (fun b hb => by rw [List.mem_singleton.mp hb]; exact free_back (e1.trans e2) hp) ⟨p, _, rfl, rfl, upd_same, stbs (a2_strs hk)⟩⟩⟩
theorem ev_upper (h : Ev rS ta G s) (hk : okS (Txt.upper s)) : Ev rS (tM0 (fun x xs H Q => ∃ a, x = .str a ∧ xs = [] ∧ a.length ≤ 5592405 ∧ Q (.str (Txt.upper a)) H) ta) G (Txt.upper s) := fun H0 σ H E Q k =>
  h H0 σ H E _ fun v H1 e1 z1 => ⟨⟨s, z1.1⟩, s, z1.1, rfl, by have := z1.2.1; omega, k _ H1 e1 ⟨rfl, hk⟩⟩
theorem ev_join {xs : List Str} (h : Ev rS ta G s) (h' : Ev (rL rS) tb G xs) (hz : (xs.map (·.length)).sum + xs.length * s.length ≤ 16777216) (hk : okS (Txt.join s xs)) :
    Ev rS (tM1 (fun x xs H Q => ∃ a p, ∃ ys : List Str, x = .str a ∧ xs = [.ref p] ∧ (SqL K H p (ys.map V.str) ∨ SqT K H p (ys.map V.str)) ∧ (ys.map (·.length)).sum + ys.length * a.length ≤ 16777216 ∧ Q (.str (Txt.join a ys)) H) ta tb) G (Txt.join s xs) := fun H0 σ H E Q k =>
  h H0 σ H E _ fun v H1 e1 z1 => ⟨⟨s, z1.1⟩, h' H0 σ H1 (E.grow e1) _ fun w H2 e2 ⟨p, vs, ev, hp, z2⟩ => ⟨s, p, xs, z1.1, by rw [ev], .inl (by rw [← strs_a2 z2]; exact SqL.of hp), hz, k _ H2 (e1.trans e2) ⟨rfl, hk⟩⟩⟩
theorem ev_partition (h : Ev rS ta G s) (h' : Ev rS tb G t) (ht : (t.length == 0) = false) (hk : okS (Txt.partition s t).1 ∧ okS (Txt.partition s t).2.1 ∧ okS (Txt.partition s t).2.2) :
    Ev (rY K rS) (tM1 (fun x xs H Q => ∃ a b, x = .str a ∧ xs = [.str b] ∧ (b.length == 0) = false ∧ a.length ≤ sizeLine ∧
      ∀ p, H p = none → Q (.ref p) (upd H p (.tup [.str (Txt.partition a b).1, .str (Txt.partition a b).2.1, .str (Txt.partition a b).2.2]))) ta tb) G [(Txt.partition s t).1, (Txt.partition s t).2.1, (Txt.partition s t).2.2] := fun H0 σ H E Q k =>
  h H0 σ H E _ fun v H1 e1 z1 => ⟨⟨s, z1.1⟩, h' H0 σ H1 (E.grow e1) _ fun w H2 e2 z2 => ⟨s, t, z1.1, by rw [show w = .str t from z2.1], ht, sz z1.2.1, fun p hp => k _ _ ((e1.trans e2).trans (same_new hp)) ⟨p, _, rfl, SqT.of upd_same, .cons ⟨rfl, hk.1⟩ (.cons ⟨rfl, hk.2.1⟩ (.cons ⟨rfl, hk.2.2⟩ .nil))⟩⟩⟩
end
section
variable {X : Cx} {o e : Expr} {to te : TE}
abbrev rRpart : V → List V → Hp → VK → Prop := fun x xs H Q => ∃ a b, x = .str a ∧ xs = [.str b] ∧ (b.length == 0) = false ∧ a.length ≤ sizeLine ∧
    ∀ p, H p = none → Q (.ref p) (upd H p (.tup [.str (Txt.rpartition a b).1, .str (Txt.rpartition a b).2.1, .str (Txt.rpartition a b).2.2]))
end
theorem ev_rpartition {K : PySem.W.Frag} {G : Cells K} {ta tb : TE} {s t : Str} (h : Ev rS ta G s) (h' : Ev rS tb G t) (ht : (t.length == 0) = false) (hk : okS (Txt.rpartition s t).1 ∧ okS (Txt.rpartition s t).2.1 ∧ okS (Txt.rpartition s t).2.2) :
    Ev (rY K rS) (tM1 rRpart ta tb) G [(Txt.rpartition s t).1, (Txt.rpartition s t).2.1, (Txt.rpartition s t).2.2] := fun H0 σ H E Q k =>
  h H0 σ H E _ fun v H1 e1 z1 => ⟨⟨s, z1.1⟩, h' H0 σ H1 (E.grow e1) _ fun w H2 e2 z2 => ⟨s, t, z1.1, by rw [show w = .str t from z2.1], ht, sz z1.2.1, fun p hp => k _ _ ((e1.trans e2).trans (same_new hp)) ⟨p, _, rfl, SqT.of upd_same, .cons ⟨rfl, hk.1⟩ (.cons ⟨rfl, hk.2.1⟩ (.cons ⟨rfl, hk.2.2⟩ .nil))⟩⟩⟩
end Gt
namespace Gt
open PySem PySem.Spec PyProof.Rows L2
section
variable {K : PySem.W.Frag} {H0 H1 H H' : Hp} {σ : L2.St} {G G' Gx : Cells K} {α β γ S : Type}
variable {ta tb tc te : TE} {tt tu tv : TT} {r : Rp α} {q : Rp β} {R : Rp γ} {a x : α} {b y : β} {i j n m : Int} {s t : Str} {c d : Bool} {z w : γ}
/-- flat things that == compares -/
class EqF {α : Type} (r : Rp α) where
  enc : α → V
  dec : DecidableEq α
  inj : ∀ {x y : α}, enc x = enc y → x = y
  rep : ∀ {H : Hp} {v : V} {a : α}, r H v a → v = enc a
  sc : ∀ x y : α, scal (enc x) (enc y) = true
instance : EqF rI := ⟨V.int, inferInstance, fun h => V.int.inj h, fun h => h, fun _ _ => rfl⟩
instance : EqF rS := ⟨V.str, inferInstance, fun h => V.str.inj h, fun h => h.1, fun _ _ => rfl⟩
instance : EqF rB := ⟨V.bl, inferInstance, fun h => V.bl.inj h, fun h => h, fun _ _ => rfl⟩
def encO {α : Type} (f : α → V) : Option α → V
  | .none => .non
  | .some a => f a
instance : EqF (rO rS) := ⟨encO V.str, inferInstance, fun {x y} h => match x, y, h with
  | .none, .none, _ => rfl
  | .some _, .some _, h => by rw [V.str.inj h], fun {_ _ a} h => match a, h with
  | .none, h => h
  | .some _, h => h.1, fun x y => match x, y with
  | .none, .none => rfl
  | .none, .some _ => rfl
  | .some _, .none => rfl
  | .some _, .some _ => rfl⟩
theorem ev_eq [F : EqF r] [M : Mono r] (ha : Ev r ta G a) (hb : Ev r tb G x) : Ev rB (tOp rEq ta tb) G (@decide (a = x) (F.dec a x)) := ev_op ha hb fun H u v hu hv Q k => by
  have e1 := F.rep hu
  have e2 := F.rep hv
  subst e1; subst e2
  refine ⟨F.sc _ _, k _ H (Same.refl H) ?_⟩
  show V.bl _ = V.bl _
  congr 1
  by_cases h : a = x
  · subst h
    rw [decide_eq_true rfl]
    exact (@decide_eq_true _ (F.dec _ _) rfl).symm
  · rw [decide_eq_false fun e => h (F.inj e)]
    exact (@decide_eq_false _ (F.dec _ _) h).symm
theorem ev_ne [F : EqF r] [M : Mono r] (ha : Ev r ta G a) (hb : Ev r tb G x) : Ev rB (tOp rNe ta tb) G (!@decide (a = x) (F.dec a x)) := ev_op ha hb fun H u v hu hv Q k => by
  have e1 := F.rep hu
  have e2 := F.rep hv
  subst e1; subst e2
  refine ⟨F.sc _ _, k _ H (Same.refl H) ?_⟩
  show V.bl _ = V.bl _
  congr 2
  by_cases h : a = x
  · subst h
    rw [decide_eq_true rfl]
    exact (@decide_eq_true _ (F.dec _ _) rfl).symm
  · rw [decide_eq_false fun e => h (F.inj e)]
    exact (@decide_eq_false _ (F.dec _ _) h).symm
/-- a list that is read (the script too) -/
def rQ (K : PySem.W.Frag) {β : Type} (r : Rp β) : Rp (List β) := fun H v xs => ∃ a vs, v = .ref a ∧ SqL K H a vs ∧ A2 (r H) vs xs
instance [M : Mono r] : Mono (rQ K r) := ⟨fun e ⟨a, vs, ev, h, q⟩ => ⟨a, vs, ev, e.seq h, q.imp fun _ _ z => M.up e z⟩⟩
/-- what has items by place -/
class Ixd (K : PySem.W.Frag) {γ α : Type} (R : Rp γ) (z : γ) (r : outParam (Rp α)) (its : outParam (List α)) (ok : outParam Prop) : Prop where
  ix : ∀ {H : Hp} {u : V} {i : Int} {x : α} {Q : VK}, R H u z → ok → atI its i = some x → (∀ v, r H v x → Q v H) → rIx K u (.int i) H Q
instance {xs : List α} [M : Mono r] : Ixd K (rL r) xs r xs True := ⟨fun {H u i x Q} ⟨p, vs, ev, hp, h⟩ _ hx k => by
  obtain ⟨w, hw, hr⟩ := atI_A2 h hx
  exact .inl ⟨p, vs, i, w, ev, rfl, SqL.of hp, hw, k w hr⟩⟩
instance {xs : List α} [M : Mono r] : Ixd K (rQ K r) xs r xs True := ⟨fun {H u i x Q} ⟨p, vs, ev, hp, h⟩ _ hx k => by
  obtain ⟨w, hw, hr⟩ := atI_A2 h hx
  exact .inl ⟨p, vs, i, w, ev, rfl, hp, hw, k w hr⟩⟩
instance {xs : List α} [M : Mono r] : Ixd K (rT K r) xs r xs True := ⟨fun {H u i x Q} ⟨p, vs, ev, hp, h⟩ _ hx k => by
  obtain ⟨w, hw, hr⟩ := atI_A2 h hx
  exact .inr (.inl ⟨p, vs, i, w, ev, rfl, hp, hw, k w hr⟩)⟩
instance {xs : List α} [M : Mono r] : Ixd K (rY K r) xs r xs True := ⟨fun {H u i x Q} ⟨p, vs, ev, hp, h⟩ _ hx k => by
  obtain ⟨w, hw, hr⟩ := atI_A2 h hx
  exact .inr (.inl ⟨p, vs, i, w, ev, rfl, hp, hw, k w hr⟩)⟩
/-- the signs of a text, each a text -/
def chs (s : Str) : List Str := s.cps.toList.map fun c => (⟨#[c]⟩ : Str)
theorem atI_map {f : α → β} {l : List α} {i : Int} : atI (l.map f) i = (atI l i).map f := by
  unfold atI
  rw [List.length_map]
  cases ixN l.length i with
  | none => rfl
  | some j => show (l.map f)[j]? = _; rw [List.getElem?_map]; rfl
instance {z : Str} : Ixd K rS z rS (chs z) True := ⟨fun {H u i x Q} hu _ hx k => by
  unfold chs at hx
  rw [atI_map] at hx
  cases e : atI z.cps.toList i with
  | none => rw [e] at hx; cases hx
  | some c =>
    rw [e] at hx
    cases hx
    exact .inr (.inr ⟨z, i, c, hu.1, rfl, sz hu.2.1, e, k _ ⟨rfl, okS_chr hu.2 (atI_mem e)⟩⟩)⟩
theorem ev_ix {its : List α} {ok : Prop} [I : Ixd K R z r its ok] [M : Mono R] (h : Ev R ta G z) (hi : Ev rI tb G i) (hk : ok) (hx : atI its i = some x) : Ev r (tOp (rIx K) ta tb) G x := ev_op h hi fun H u v hu hv Q k => by
  rw [show v = .int i from hv]
  exact I.ix hu hk hx fun w hw => k w H (Same.refl H) hw
/-- what has a length -/
class Lnd (K : PySem.W.Frag) {γ : Type} (R : Rp γ) (z : γ) (ln : outParam Nat) (ok : outParam Prop) : Prop where
  len : ∀ {H : Hp} {u : V}, R H u z → ok → LenV K u H ln
instance {z : List α} : Lnd K (rL r) z z.length True := ⟨fun {H u} ⟨p, vs, ev, hp, h⟩ _ => by rw [ev, ← h.len]; exact .inl ⟨vs, SqL.of hp, rfl⟩⟩
instance {z : List α} : Lnd K (rQ K r) z z.length True := ⟨fun {H u} ⟨p, vs, ev, hp, h⟩ _ => by rw [ev, ← h.len]; exact .inl ⟨vs, hp, rfl⟩⟩
instance {z : List α} : Lnd K (rT K r) z z.length True := ⟨fun {H u} ⟨p, vs, ev, hp, h⟩ _ => by rw [ev, ← h.len]; exact .inr ⟨vs, hp, rfl⟩⟩
instance {z : α × β} : Lnd K (rP K r q) z 2 True := ⟨fun {H u} ⟨p, x, y, ev, hp, _⟩ _ => by rw [ev]; exact .inr ⟨_, hp, rfl⟩⟩
instance {z : Str} : Lnd K rS z z.length True := ⟨fun {H u} hu _ => by rw [show u = .str z from hu.1]; exact ⟨sz hu.2.1, rfl⟩⟩
theorem ev_len {ln : Nat} {ok : Prop} [L : Lnd K R z ln ok] [M : Mono R] (h : Ev R te G z) (hk : ok) : Ev rI (tCB (rLenU K) (tCons te tNil)) G (ln : Int) := ev_cb (ea_cons h ea_nil) fun H vs ⟨v, ws, e, hv, e2⟩ Q k =>
  ⟨v, ln, by rw [e, show ws = [] from e2], L.len hv hk, k _ H (Same.refl H) rfl⟩
/-- what truth tells -/
class Tru (K : PySem.W.Frag) {γ : Type} (R : Rp γ) (z : γ) (f : outParam Bool) (ok : outParam Prop) : Prop where
  tru : ∀ {H : Hp} {u : V}, R H u z → ok → TruV K u H f
instance {z : List α} : Tru K (rL r) z (!z.isEmpty) True := ⟨fun {H u} ⟨p, vs, ev, hp, h⟩ _ => by rw [ev]; exact .inl ⟨vs, SqL.of hp, by rw [a2_empty h]⟩⟩
instance {z : List α} : Tru K (rT K r) z (!z.isEmpty) True := ⟨fun {H u} ⟨p, vs, ev, hp, h⟩ _ => by rw [ev]; exact .inr (.inl ⟨vs, hp, by rw [a2_empty h]⟩)⟩
instance {z : Int} : Tru K rI z (z != 0) True := ⟨fun {H u} hu _ => by rw [show u = .int z from hu]; exact rfl⟩
instance {z : Str} : Tru K rS z ((z.length : Int) != 0) True := ⟨fun {H u} hu _ => by rw [show u = .str z from hu.1]; exact ⟨sz hu.2.1, rfl⟩⟩
theorem et_tru {f : Bool} {ok : Prop} [L : Tru K R z f ok] (h : Ev R ta G z) (hk : ok) : EvT (tTru K ta) G f := fun H0 σ H E Q k => h H0 σ H E _ fun v H1 e1 hv => ⟨f, L.tru hv hk, k H1 e1⟩
/-- what in asks of a list or tuple of texts -/
class InS (K : PySem.W.Frag) (R : Rp (List Str)) : Prop where
  seq : ∀ {H : Hp} {u : V} {xs : List Str}, R H u xs → ∃ p, u = .ref p ∧ (SqL K H p (xs.map V.str) ∨ SqT K H p (xs.map V.str))
instance : InS K (rL rS) := ⟨fun ⟨p, vs, ev, hp, h⟩ => ⟨p, ev, .inl (by rw [← strs_a2 h]; exact SqL.of hp)⟩⟩
instance : InS K (rQ K rS) := ⟨fun ⟨p, vs, ev, hp, h⟩ => ⟨p, ev, .inl (by rw [← strs_a2 h]; exact hp)⟩⟩
instance : InS K (rT K rS) := ⟨fun ⟨p, vs, ev, hp, h⟩ => ⟨p, ev, .inr (by rw [← strs_a2 h]; exact hp.t)⟩⟩
theorem ev_in {R : Rp (List Str)} {xs : List Str} [I : InS K R] [M : Mono R] (h : Ev rS ta G s) (h' : Ev R tb G xs) : Ev rB (tOp (rIn K false) ta tb) G (decide (s ∈ xs)) := ev_op h h' fun H u v hu hv Q k => by
  obtain ⟨p, ev, hp⟩ := I.seq hv
  rw [show u = .str s from hu.1]
  exact ⟨p, _, ev, hp, rfl, flat_strs xs, k _ H (Same.refl H) (by show V.bl (inV _ _) = _; rw [inV_strs])⟩
theorem ev_nin {R : Rp (List Str)} {xs : List Str} [I : InS K R] [M : Mono R] (h : Ev rS ta G s) (h' : Ev R tb G xs) : Ev rB (tOp (rIn K true) ta tb) G (!decide (s ∈ xs)) := ev_op h h' fun H u v hu hv Q k => by
  obtain ⟨p, ev, hp⟩ := I.seq hv
  rw [show u = .str s from hu.1]
  exact ⟨p, _, ev, hp, rfl, flat_strs xs, k _ H (Same.refl H) (by show V.bl (!inV _ _) = _; rw [inV_strs])⟩
/-- a list or tuple as list(..) and tuple(..) take it -/
class Seq (K : PySem.W.Frag) {α : Type} (r : outParam (Rp α)) (R : Rp (List α)) : Prop where
  seq : ∀ {H : Hp} {u : V} {xs : List α}, R H u xs → ∃ p vs, u = .ref p ∧ (SqL K H p vs ∨ SqD K H p vs) ∧ A2 (r H) vs xs
instance : Seq K r (rL r) := ⟨fun ⟨p, vs, ev, hp, h⟩ => ⟨p, vs, ev, .inl (SqL.of hp), h⟩⟩
instance : Seq K r (rQ K r) := ⟨fun ⟨p, vs, ev, hp, h⟩ => ⟨p, vs, ev, .inl hp, h⟩⟩
instance : Seq K r (rT K r) := ⟨fun ⟨p, vs, ev, hp, h⟩ => ⟨p, vs, ev, .inr hp, h⟩⟩
theorem nw_list {R : Rp (List α)} {xs : List α} [I : Seq K r R] [N : Mono R] [M : Mono r] [F : Frz K r] (h : Ev R te G xs) : Nw (nl K r) (tCB (rListU K) (tCons te tNil)) G xs := nw_cb (ea_cons h ea_nil) fun H vs ⟨v, ws, e, hv, e2⟩ Q k => by
  obtain ⟨p, us, ev, hp, h⟩ := I.seq hv
  exact ⟨p, us, by rw [e, show ws = [] from e2, ev], hp.imp id SqD.t, fun l hl => k _ _ [l] (same_new hl) (fun b hb => by rw [List.mem_singleton.mp hb]; exact hl) ⟨l, us, rfl, rfl, upd_same, h.imp fun _ _ q => stb (M.up (same_new hl) q)⟩⟩
theorem ev_tupC {R : Rp (List α)} {xs : List α} [I : Seq K r R] [N : Mono R] [M : Mono r] (h : Ev R te G xs) : Ev (rT K r) (tCB (rTupU K) (tCons te tNil)) G xs := ev_cb (ea_cons h ea_nil) fun H vs ⟨v, ws, e, hv, e2⟩ Q k => by
  obtain ⟨p, us, ev, hp, h⟩ := I.seq hv
  refine ⟨p, us, by rw [e, show ws = [] from e2, ev], ?_⟩
  rcases hp with hp | hp
  · exact .inl ⟨hp, fun l o hl hd => k _ _ (same_new hl) ⟨l, us, rfl, SqD.of upd_same hd, h.imp fun _ _ q => M.up (same_new hl) q⟩⟩
  · exact .inr ⟨hp, k _ H (Same.refl H) ⟨p, us, rfl, hp, h⟩⟩
/-- isinstance of a thing whose class its kind tells -/
class TyN (K : PySem.W.Frag) {γ : Type} (R : Rp γ) (T : outParam String) : Prop where
  ty : ∀ {H : Hp} {u : V} {z : γ}, R H u z → TyX K H u (.type T)
instance : TyN K rS "str" := ⟨fun h => by rw [h.1]; exact .base (.str _)⟩
instance : TyN K rI "int" := ⟨fun h => by rw [h]; exact .base (.int _)⟩
instance : TyN K rB "bool" := ⟨fun h => by rw [h]; exact .base (.bl _)⟩
instance : TyN K (rL r) "list" := ⟨fun ⟨p, vs, ev, hp, _⟩ => by rw [ev]; exact .base (.lst hp)⟩
theorem ty_tup {p : Addr} {vs : List V} (h : SqT K H p vs) : TyX K H (.ref p) (.type "tuple") := by
  rcases h with (h | ⟨o, h⟩) | ⟨o, its, n, h1, h2, _⟩
  · exact .base (.tup h)
  · exact .fTuple h
  · exact .kTuple h1 h2
instance : TyN K (rT K r) "tuple" := ⟨fun ⟨p, vs, ev, hp, _⟩ => by rw [ev]; exact ty_tup hp.t⟩
instance : TyN K (rP K r q) "tuple" := ⟨fun ⟨p, x, y, ev, hp, _⟩ => by rw [ev]; exact ty_tup hp⟩
theorem ev_isi {T T' : String} {f : Bool} [N : TyN K R T] [M : Mono R] (h : Ev R te G z) (hb : kitB T T' = some f) : Ev rB (tCB (rIsi K) (tCons te (tCons (tC (.ty T')) tNil))) G f := fun H0 σ H E Q k =>
  h H0 σ H E _ fun v H1 e1 hv => ⟨v, .ty T', .type T, .type T', f, rfl, .ty T', N.ty hv, kit_ty hb, k _ H1 e1 rfl⟩
end
end Gt
namespace Gt
open PySem PySem.Spec PyProof.Rows L2
theorem tup_laid {X : Cx} {pins : List (Addr × Obj)} {σ : L2.St} {H : Hp} {s : Shared} {h : Heap} {xs : List V} {its : List Value} (J : L2.Inv X pins σ H { s with heap := h }) (r : Vals xs its) (z : xs.length ≤ sizeLine) :
    L2.Inv X pins σ (upd H h.objs.size (.frz { cls := .type "tuple", data := .seq its.toArray } (.tup xs))) { s with heap := h.push { cls := .type "tuple", data := .seq its.toArray } } :=
  J.laid (t' := s.toks) (fun _ _ w => Heap.get?_push_of_some _ w) (Nat.le_refl _) (by
    refine ⟨Heap.get?_push_size _ rfl, ?_⟩
    exact ⟨z, its, r, ⟨_, Heap.get?_push_size _ rfl, rfl, _, rfl⟩⟩)
theorem call_tupleD {X : Cx} : CallR X (.type "tuple") (rTupU X.K) := by
  intro pins s σ H xs us Q I rv hw
  obtain ⟨p, ys, rfl, hw⟩ := hw
  obtain ⟨u, rfl, ru⟩ := Vals.one rv
  cases ru
  rcases hw with ⟨hq, q⟩ | ⟨hq, q⟩
  · obtain ⟨its, rr, pl, hz⟩ := I.list hq
    refine call_tuple_list pl.isList (fun h2 kp => ?_) (by rw [List.size_toArray, ← rr.length]; exact hz)
    have J : L2.Inv X pins σ H { s with heap := h2 } := I.kept (t' := s.toks) kp
    exact ⟨.ref h2.objs.size, _, tup_laid J rr hz, rfl, q _ _ (J.hok.fresh (Nat.le_refl _)) rfl⟩
  · obtain ⟨its, rr, pl, hz⟩ := I.tuple hq
    exact call_tuple_same pl ⟨.ref p, H, I, rfl, q⟩
theorem pe_tupD {X : Cx} {es : List Expr} {t : TA} {x1 : Nat} {pos : Pos} (h : PA X es t) : PE X (.Tuple es x1 pos) (tTupD t) := by
  refine ⟨fun pins s σ H Q I w => ?_⟩
  refine wpAny_Tuple_spliced (thn (h.run pos pins s σ H _ I w) fun us s2 ⟨xs, H2, I2, rr, z, q⟩ => ⟨by rw [← rr.length]; exact z, ?_⟩)
  exact ⟨.ref s2.heap.objs.size, _, tup_laid I2 rr z, rfl, q _ _ (I2.hok.fresh (Nat.le_refl _)) rfl⟩
section
variable {X : Cx} (K : PySem.W.Frag) {e o l : Expr} {es : List Expr} {te ta tl to : TE} {t : TA} {pos apos cpos : Pos} {tg : Expr}
theorem k_ix (h : X.K = K := by rfl) : IxR X (rIx K) := by subst h; exact ix_seq
theorem k_slL (h : X.K = K := by rfl) : SlR X (rSlL K) := by subst h; exact sl_list
theorem k_len (h : X.K = K := by rfl) : CallR X (.builtin "len") (rLenU K) := by subst h; exact call_len
theorem k_list (h : X.K = K := by rfl) : CallR X (.type "list") (rListU K) := by subst h; exact call_list_of
theorem k_tuple (h : X.K = K := by rfl) : CallR X (.type "tuple") (rTupU K) := by subst h; exact call_tupleD
theorem k_in (h : X.K = K := by rfl) : OpR X (compareOp .In) (rIn K false) := by subst h; exact op_in_seq
theorem k_nin (h : X.K = K := by rfl) : OpR X (compareOp .NotIn) (rIn K true) := by subst h; exact op_notIn_seq
theorem k_isi (h : X.K = K := by rfl) : CallR X (.builtin "isinstance") (rIsi K) := by subst h; exact call_isi
theorem k_eqD (hu : X.A.units + 64 < cLine) (h : X.K = K := by rfl) : OpR X (compareOp .Eq) (rEqD K) := by subst h; exact op_eqD hu
theorem k_neD (hu : X.A.units + 64 < cLine) (h : X.K = K := by rfl) : OpR X (compareOp .NotEq) (rNeD K) := by subst h; exact op_neD hu
theorem k_ninD (hu : X.A.units + 65 < cLine) (h : X.K = K := by rfl) : OpR X (compareOp .NotIn) (rNotInD K) := by subst h; exact op_notInD hu
theorem pi_listK (hl : PE X l tl) (h : X.K = K := by rfl) : PI X tg l (iList K tl) := by subst h; exact pi_list hl
theorem pi_tupK (hl : PE X l tl) (h : X.K = K := by rfl) : PI X tg l (iTup K tl) := by subst h; exact pi_tup hl
theorem pg_tupK {k n : Nat} {t : TGs} (hc : X.calm = true) (ht : PGs X es t) (h : X.K = K := by rfl) (hn : (assignEach es X.env).length = n := by rfl) (hst : (assignEach es X.env).findIdx? (·.1) = none := by rfl) : PG X (.Tuple es k pos) (gTup K n t) := by subst h; exact pg_tup hc ht hn hst
theorem pt_tru (ha : PE X e te) (h : X.K = K := by rfl) (he : ∀ whole, isTrue e X.env whole = (do let v ← whole; standAt e.pos; holding [v] (truthy v)) := by intro _; rfl) : PT X e (tTru K te) := by subst h; exact pt_truth ha he
theorem pe_app (ho : PE X o to) (ha : PA X (e :: es) t) (h : X.K = K := by rfl) (hbase : attributeBase o "append" X.env (eval o X.env) = eval o X.env := by rfl)
    (hfew : ((backTo cpos (starEach (e :: es) X.env)).all (fun x => !x.1) && (backToKw cpos (keywordEach [] X.env)).all (fun x => x.1.isSome)
      && decide ((e :: es).length + ([] : List Keyword).length + (if ([] : List Keyword).isEmpty then 0 else 1) < 30)) = true := by rfl)
    (hline : (apos.endLine == cpos.line) = true := by rfl) (hs : starEach (e :: es) X.env = (false, eval e X.env) :: starEach es X.env := by rfl) (hplain : (backTo cpos (starEach es X.env)).any (·.1) = false := by rfl) :
    PE X (.Call (.Attribute o "append" apos) (e :: es) [] cpos) (tBM K "list" rAppend to t) := by subst h; exact pe_bm PySem.F.plainAttrs_list PySem.F.slot_list_append PySem.F.type_list_append mt_append ho ha hbase hfew hline hs hplain
theorem pe_popK (ho : PE X o to) (h : X.K = K := by rfl) (hbase : attributeBase o "pop" X.env (eval o X.env) = eval o X.env := by rfl) (hline : (apos.endLine == cpos.line) = true := by rfl) : PE X (.Call (.Attribute o "pop" apos) [] [] cpos) (tBM0 K "list" rPop to) := by
  subst h; exact pe_bm0 PySem.F.plainAttrs_list PySem.F.slot_list_pop PySem.F.type_list_pop mt_pop ho hbase hline
theorem pe_fldK {f : Str} (he : PE X e ta) (h : X.K = K := by rfl) (hb : attributeBase e f X.env (eval e X.env) = eval e X.env := by rfl) : PE X (.Attribute e f pos) (tFld K ta f) := by subst h; exact pe_fld he hb
end
section
variable {K : PySem.W.Frag} {H0 : Hp} {G : Cells K} {α : Type} {r : Rp α} {te : TE} {u : TS} {D : Ends} {i : Nat} {xs : List α} {x : α}
theorem l_app {x' : α} (hi : G[i]? = some (some (.ow (nl K r) xs))) (h : Ev r te G x') (ex : x' = x) (hz : xs.length < 100000) (k : Nx H0 (G.set i (some (.ow (nl K r) (xs ++ [x])))) D.nx) (F : Frz K r := by infer_instance) :
    Sv H0 G (tDrop (tBM K "list" rAppend (tVar i) (tCons te tNil))) D := fun σ H ⟨H1, e1, E⟩ => by
  subst ex
  obtain ⟨own, h1, h2, h3⟩ := id E.at_
  obtain ⟨v, hv, p, vs, ea, ev, hp, z⟩ := h3 i _ hi
  subst ev
  refine ⟨_, hv, .inl ⟨rfl, vs, SqL.of hp⟩, h H1 σ H E _ fun w H2 e2 hw => ?_⟩
  have z2 : A2 (Stb K r H2) vs xs := z.imp fun _ _ q => q.up (ext_same e2)
  exact ⟨p, vs, w, rfl, rfl, e2 _ _ hp, Nat.lt_of_le_of_lt (by rw [z.len]; omega) (by decide : 100000 < sizeLine), k _ _ ⟨H1, e1, app_env (E.grow e2) hi hv (e2 _ _ hp) z2 (stb hw)⟩⟩
theorem q_app {x' : α} (hi : G[i]? = some (some (.ow (nl K r) xs))) (h : Ev r te G x') (ex : x' = x) (hz : xs.length < 100000) (k : Sv H0 (G.set i (some (.ow (nl K r) (xs ++ [x])))) u D) (F : Frz K r := by infer_instance) :
    Sv H0 G (tSeq (tDrop (tBM K "list" rAppend (tVar i) (tCons te tNil))) u) D := l_app hi h ex hz k F
end
end Gt
namespace Gt
open PySem PySem.Spec PyProof.Rows L2
section
variable {K : PySem.W.Frag} {H0 H1 H H' : Hp} {σ : L2.St} {G G' Gx : Cells K} {α β γ S : Type}
variable {ta tb tc te : TE} {tt tu tv : TT} {r : Rp α} {q : Rp β} {R : Rp γ} {a x : α} {b y : β} {i j n m : Int} {s t : Str} {c d : Bool} {z w : γ}
theorem a_fz {i : Nat} (h : G[i]? = some (some (.ow (fz K r) a))) : Ev r (tVar i) G a := ev_fz h
theorem a_lst {i : Nat} {xs : List α} (h : G[i]? = some (some (.ow (nl K r) xs))) : Ev (rL r) (tVar i) G xs := ev_lst h
theorem a_ro {i : Nat} {M : Mono r} (h : G[i]? = some (some (.ro r M a))) : Ev r (tVar i) G a := ev_ro h
/-- what is left once the first operand is known -/
def EqC (r : Rp α) (a x : α) (f : Bool) : Prop := ∀ (K : PySem.W.Frag) (G : Cells K) ta tb, Ev r ta G a → Ev r tb G x → Ev rB (tOp rEq ta tb) G f ∧ Ev rB (tOp rNe ta tb) G (!f)
theorem eqc_I : EqC rI i j (decide (i = j)) := fun K G ta tb h h' => ⟨ev_eqI h h', ev_neI h h'⟩
theorem eqc_S : EqC rS s t (decide (s = t)) := fun K G ta tb h h' => ⟨ev_eqS h h', ev_neS h h'⟩
theorem eqc_B : EqC rB c d (decide (c = d)) := fun K G ta tb h h' => ⟨ev_eqB h h', ev_neB h h'⟩
theorem eqc_O {s t : Option Str} : EqC (rO rS) s t (decide (s = t)) := fun K G ta tb h h' => ⟨ev_eq h h', ev_ne h h'⟩
theorem a_eq {f : Bool} (h : Ev r ta G a) (h' : Ev r tb G x) (e : EqC r a x f) : Ev rB (tOp rEq ta tb) G f := (e K G ta tb h h').1
theorem a_ne {f : Bool} (h : Ev r ta G a) (h' : Ev r tb G x) (e : EqC r a x f) : Ev rB (tOp rNe ta tb) G (!f) := (e K G ta tb h h').2
theorem a_in {R : Rp (List Str)} {xs : List Str} (h : Ev rS ta G s) (h' : Ev R tb G xs) (I : InS K R) (M : Mono R) : Ev rB (tOp (rIn K false) ta tb) G (decide (s ∈ xs)) := ev_in h h'
theorem a_nin {R : Rp (List Str)} {xs : List Str} (h : Ev rS ta G s) (h' : Ev R tb G xs) (I : InS K R) (M : Mono R) : Ev rB (tOp (rIn K true) ta tb) G (!decide (s ∈ xs)) := ev_nin h h'
def IxC (K : PySem.W.Frag) (R : Rp γ) (z : γ) (tb : TE) (G : Cells K) (r : Rp α) (x : α) : Prop := ∀ ta, Ev R ta G z → Ev r (tOp (rIx K) ta tb) G x
theorem a_ix (h : Ev R ta G z) (k : IxC K R z tb G r x) : Ev r (tOp (rIx K) ta tb) G x := k ta h
theorem ixc_L {xs : List α} [M : Mono r] (hi : Ev rI tb G i) (hx : atI xs i = some x) : IxC K (rL r) xs tb G r x := fun ta h => ev_ix h hi trivial hx
theorem ixc_Q {xs : List α} [M : Mono r] (hi : Ev rI tb G i) (hx : atI xs i = some x) : IxC K (rQ K r) xs tb G r x := fun ta h => ev_ix h hi trivial hx
theorem ixc_T {xs : List α} [M : Mono r] (hi : Ev rI tb G i) (hx : atI xs i = some x) : IxC K (rT K r) xs tb G r x := fun ta h => ev_ix h hi trivial hx
theorem ixc_S {t : Str} (hi : Ev rI tb G i) (hx : atI (chs s) i = some t) : IxC K rS s tb G rS t := fun ta h => ev_ix h hi trivial hx
theorem ixc_0 {p : α × β} [M : Mono r] [N : Mono q] : IxC K (rP K r q) p (tC (.int 0)) G r p.1 := fun ta h => ev_fst h
theorem ixc_1 {p : α × β} [M : Mono r] [N : Mono q] : IxC K (rP K r q) p (tC (.int 1)) G q p.2 := fun ta h => ev_snd h
def LnC (K : PySem.W.Frag) (R : Rp γ) (z : γ) (n : Nat) : Prop := ∀ (G : Cells K) te, Ev R te G z → Ev rI (tCB (rLenU K) (tCons te tNil)) G (n : Int)
theorem a_len {n : Nat} (h : Ev R te G z) (k : LnC K R z n) : Ev rI (tCB (rLenU K) (tCons te tNil)) G (n : Int) := k G te h
theorem lnc_L {xs : List α} [M : Mono r] : LnC K (rL r) xs xs.length := fun G te h => ev_len h trivial
theorem lnc_Q {xs : List α} [M : Mono r] : LnC K (rQ K r) xs xs.length := fun G te h => ev_len h trivial
theorem lnc_T {xs : List α} [M : Mono r] : LnC K (rT K r) xs xs.length := fun G te h => ev_len h trivial
theorem lnc_P {p : α × β} [M : Mono r] [N : Mono q] : LnC K (rP K r q) p 2 := fun G te h => ev_len h trivial
theorem lnc_S : LnC K rS s s.length := fun G te h => ev_len h trivial
def IntC (R : Rp γ) (z : γ) (n : Int) : Prop := ∀ (K : PySem.W.Frag) (G : Cells K) te, Ev R te G z → Ev rI (tCB rIntU (tCons te tNil)) G n
theorem a_int (h : Ev R te G z) (k : IntC R z n) : Ev rI (tCB rIntU (tCons te tNil)) G n := k K G te h
theorem intc_I : IntC rI i i := fun K G te h => ev_intI h
theorem intc_B : IntC rB c (b2 c) := fun K G te h => ev_intB h
def TrC (K : PySem.W.Frag) (R : Rp γ) (z : γ) (f : Bool) : Prop := ∀ (G : Cells K) te, Ev R te G z → EvT (tTru K te) G f
theorem a_tru {f : Bool} (h : Ev R ta G z) (k : TrC K R z f) : EvT (tTru K ta) G f := k G ta h
theorem trc_L {xs : List α} : TrC K (rL r) xs (!xs.isEmpty) := fun G te h => et_tru h trivial
theorem trc_T {xs : List α} : TrC K (rT K r) xs (!xs.isEmpty) := fun G te h => et_tru h trivial
theorem trc_I : TrC K rI i (i != 0) := fun G te h => et_tru h trivial
theorem trc_S : TrC K rS s ((s.length : Int) != 0) := fun G te h => et_tru h trivial
theorem a_tupC {R : Rp (List α)} {xs : List α} (h : Ev R te G xs) (N : Mono R) (I : Seq K r R) (M : Mono r) : Ev (rT K r) (tCB (rTupU K) (tCons te tNil)) G xs := ev_tupC h
theorem a_list {R : Rp (List α)} {xs : List α} (h : Ev R te G xs) (N : Mono R) (I : Seq K r R) (M : Mono r) (F : Frz K r) : Nw (nl K r) (tCB (rListU K) (tCons te tNil)) G xs := nw_list h
theorem a_isi {T T' : String} {f : Bool} (h : Ev R te G z) (M : Mono R) (N : TyN K R T) (hb : kitB T T' = some f) : Ev rB (tCB (rIsi K) (tCons te (tCons (tC (.ty T')) tNil))) G f := ev_isi h hb
theorem a_cons {A : Ra γ} {g : γ} {tr : TA} (h : Ev r te G a) (M : Mono r) (hr : EvA A tr G g) : EvA (aC r A) (tCons te tr) G (a, g) := ea_cons h hr
theorem a_el {tr : TA} {xs : List α} (h : Ev r te G x) (M : Mono r) (hr : EvA (aAll r) tr G xs) : EvA (aAll r) (tCons te tr) G (x :: xs) := el_cons h hr
theorem a_tup {ta : TA} {xs : List α} (h : EvA (aAll r) ta G xs) (M : Mono r) (hz : xs.length ≤ 100000) : Ev (rT K r) (tTupD ta) G xs := ev_tup h hz
theorem a_lstD {ta : TA} {xs : List α} (h : EvA (aAll r) ta G xs) (M : Mono r) (F : Frz K r) (hz : xs.length ≤ 100000) : Nw (nl K r) (tLst ta) G xs := nw_lst h hz
theorem a_pair (h : Ev r ta G a) (M : Mono r) (h' : Ev q tb G b) (N : Mono q) : Ev (rP K r q) (tTupD (tCons ta (tCons tb tNil))) G (a, b) := ev_pair h h'
theorem a_slL {xs : List α} {lo hi : Option Int} {tl th : TO} (h : Ev (rL r) ta G xs) (M : Mono r) (F : Frz K r) (hl : EvO tl G lo) (hh : EvO th G hi) : Nw (nl K r) (tSl (rSlL K) ta tl th) G (cut xs lo hi) := nw_slL h hl hh
theorem a_cat {xs ys : List α} (h : Ev (rL r) ta G xs) (M : Mono r) (F : Frz K r) (h' : Ev (rL r) tb G ys) (hz : xs.length + ys.length ≤ 100000) : Nw (nl K r) (tOp rCat ta tb) G (xs ++ ys) := nw_cat h h' hz
theorem a_isN {o : Option α} (ha : Ev (rO r) ta G o) (N : NotNon r) (M : Mono r) : Ev rB (tOp (fun x y H Q => y = .non ∧ Q (.bl (decide (x = .non))) H) ta (tC .non)) G (isNone' o) := ev_isN ha
theorem a_notN {o : Option α} (ha : Ev (rO r) ta G o) (N : NotNon r) (M : Mono r) : Ev rB (tOp (fun x y H Q => y = .non ∧ Q (.bl (!decide (x = .non))) H) ta (tC .non)) G (!isNone' o) := ev_notN ha
def PreOk (pre : γ → Prop) (g : γ) : Prop := pre g
def AppEq (f : γ → β) (g : γ) (b : β) : Prop := f g = b
theorem a_call {A : Ra γ} {g : γ} {pre : γ → Prop} {f : γ → β} {E' : XK} {t : TA} (h : EvA A t G g) (hp : PreOk pre g) (e : AppEq f g b) : Ev q (tCall (spF A pre q f) [] E' t) G b := ev_call h hp e
theorem a_ncall {A : Ra γ} {g : γ} {pre : γ → Prop} {R : Rs K β} {f : γ → β} {E' : XK} {t : TA} (h : EvA A t G g) (hp : PreOk pre g) (e : AppEq f g b) : Nw R (tCall (spN A pre R f) [] E' t) G b := nw_call h hp e
/-- a new list where one is read -/
theorem a_nl {xs : List α} (h : Nw (nl K r) te G xs) : Ev (rL r) te G xs := h.lst
end
end Gt
namespace Gt
open PySem PySem.Spec PyProof.Rows L2
/-- how the class at C is made -/
structure CalI (P : Program) (w : World) (K : PySem.W.Frag) (mg : Str → Option Value) (base : Heap) (CX : CXT) (C : Addr) (k : Nat) (ps : List Str) (sp : Sp) : Prop where
  ex : ∃ (f : Addr) (fd : FuncData), FnOk P w K mg base CX k f fd ps sp ∧ Mk K C f ∧ Binds K fd ps []
section
variable {X : Cx} {CX : CXT} {pins : List (Addr × Obj)} {σ : L2.St} {H H' : Hp} {s s' : Shared} {C fi a it l : Addr} {k : Nat} {fd : FuncData} {ps : List Str} {sp : Sp} {E : XK} {e : Expr} {te : TE} {tg : Expr} {o : HO}
/-- list(o), o an instance of the class at C whose __iter__ walks the list in its field g -/
def rListY (K : PySem.W.Frag) (C : Addr) (g : Str) : List V → Hp → VK → Prop := fun xs H Q => ∃ a dx fs l zs, xs = [.ref a] ∧ H a = some (.ins C dx fs) ∧ fs.lookup g = some (.ref l) ∧ SqL K H l zs ∧ zs.length ≤ sizeLine ∧ (∀ q, H q = none → l ≠ q) ∧ ∀ q, H q = none → Q (.ref q) (upd H q (.lst zs))
/-- x op y, both of the class at C: its method's promise -/
def rOwnOp (C : Addr) (sp : Sp) (E : XK) : R2 := fun x y H Q => ∃ a dx fs b dy gs, x = .ref a ∧ y = .ref b ∧ H a = some (.ins C dx fs) ∧ H b = some (.ins C dy gs) ∧ sp [x, y] H Q E
end
end Gt
namespace Gt
open PySem PySem.Spec PyProof.Rows L2
structure Dat (K : PySem.W.Frag) {β : Type} (r : Rp β) where
  dec : DecidableEq β
  enc : β → PyData
  dep : Nat
  dp : ∀ {H : Hp} {v : V} {b : β}, r H v b → Dp K H v (enc b)
  lay : ∀ {H : Hp} {v : V} {b : β}, r H v b → (enc b).canLay0 = true
  dpt : ∀ b, (enc b).depth ≤ dep
  eqv : ∀ a b, PyData.eqv (enc a) (enc b) = @decide (a = b) (dec a b)
section
variable {K : PySem.W.Frag} {α β : Type}
def datS : Dat K rS where
  dec := inferInstance
  enc := .str
  dep := 0
  dp := fun h => by rw [h.1]; exact .str _
  lay := fun h => by simp only [PyData.canLay0]; exact h.2.2
  dpt := fun b => by simp [PyData.depth]
  eqv := fun a b => by
    simp only [PyData.eqv]
    by_cases h : a = b
    · subst h; simp
    · rw [decide_eq_false h]
      exact beq_eq_false_iff_ne.mpr h
def datI : Dat K rI where
  dec := inferInstance
  enc := .int
  dep := 0
  dp := fun h => by rw [show _ = _ from h]; exact .int _
  lay := fun _ => by simp [PyData.canLay0]
  dpt := fun b => by simp [PyData.depth]
  eqv := fun a b => by
    simp only [PyData.eqv]
    by_cases h : a = b
    · subst h; simp
    · rw [decide_eq_false h]
      exact beq_eq_false_iff_ne.mpr h
def datB : Dat K rB where
  dec := inferInstance
  enc := .bool
  dep := 0
  dp := fun h => by rw [show _ = _ from h]; exact .bl _
  lay := fun _ => by simp [PyData.canLay0]
  dpt := fun b => by simp [PyData.depth]
  eqv := fun a b => by cases a <;> cases b <;> simp [PyData.eqv]
def encO' (f : α → PyData) : Option α → PyData
  | .none => .none
  | .some a => f a
def datO : Dat K (rO rS) where
  dec := inferInstance
  enc := encO' .str
  dep := 0
  dp := fun {H v b} h => match b, h with
    | .none, h => by rw [show v = _ from h]; exact .non
    | .some _, h => by rw [show v = _ from h.1]; exact .str _
  lay := fun {H v b} h => match b, h with
    | .none, _ => by simp [PyData.canLay0, encO']
    | .some _, h => by simp only [PyData.canLay0, encO']; exact h.2.2
  dpt := fun b => by cases b <;> simp [PyData.depth, encO']
  eqv := fun a b => by
    cases a with
    | none => cases b <;> simp [PyData.eqv, encO']
    | some a =>
      cases b with
      | none => simp [PyData.eqv, encO']
      | some b =>
        simp only [PyData.eqv, encO']
        by_cases h : a = b
        · subst h; simp
        · rw [decide_eq_false fun e => h (Option.some.inj e)]
          exact beq_eq_false_iff_ne.mpr h
theorem enc_lays {e : β → PyData} {r : Rp β} {H : Hp} (h : ∀ {v : V} {b : β}, r H v b → (e b).canLay0 = true) : ∀ {vs : List V} {xs : List β}, A2 (r H) vs xs → PyData.canLayAll0 (xs.map e) = true
  | _, _, .nil => by simp [PyData.canLayAll0]
  | _, _, .cons a t => by simp [PyData.canLayAll0, h a, enc_lays h t]
theorem enc_deps {e : β → PyData} {n : Nat} (h : ∀ b, (e b).depth ≤ n) : ∀ xs : List β, PyData.depthAll (xs.map e) ≤ n
  | [] => by simp [PyData.depthAll]
  | x :: xs => by
    have h1 := enc_deps h xs
    have h2 := h x
    simp only [List.map_cons, PyData.depthAll]
    omega
theorem enc_eqs {e : β → PyData} {d : DecidableEq β} (h : ∀ a b, PyData.eqv (e a) (e b) = decide (a = b)) : ∀ xs ys : List β, PyData.eqvAll (xs.map e) (ys.map e) = decide (xs = ys)
  | [], [] => by simp [PyData.eqvAll]
  | [], _ :: _ => by simp [PyData.eqvAll]
  | _ :: _, [] => by simp [PyData.eqvAll]
  | x :: xs, y :: ys => by
    simp only [List.map_cons, PyData.eqvAll, h x y, enc_eqs h xs ys]
    by_cases e1 : x = y <;> by_cases e2 : xs = ys <;> simp [e1, e2]
theorem enc_dps {e : β → PyData} {r : Rp β} {H : Hp} (h : ∀ {v : V} {b : β}, r H v b → Dp K H v (e b)) : ∀ {vs : List V} {xs : List β}, A2 (r H) vs xs → DpAll K H vs (xs.map e)
  | _, _, .nil => .nil
  | _, _, .cons a t => .cons (h a) (enc_dps h t)
def datT {r : Rp β} (D : Dat K r) : Dat K (rT K r) where
  dec := by have := D.dec; infer_instance
  enc := fun xs => .tuple (xs.map D.enc)
  dep := D.dep + 1
  dp := fun ⟨a, vs, ev, h, q⟩ => by rw [ev]; exact .tup h (enc_dps D.dp q)
  lay := fun ⟨a, vs, ev, h, q⟩ => by simp only [PyData.canLay0]; exact enc_lays D.lay q
  dpt := fun b => by simp only [PyData.depth]; have := enc_deps D.dpt b; omega
  eqv := fun a b => by simp only [PyData.eqv]; exact enc_eqs (d := D.dec) D.eqv a b
def datL {r : Rp β} (D : Dat K r) : Dat K (rL r) where
  dec := by have := D.dec; infer_instance
  enc := fun xs => .list (xs.map D.enc)
  dep := D.dep + 1
  dp := fun ⟨a, vs, ev, h, q⟩ => by rw [ev]; exact .lst (SqL.of h) (enc_dps D.dp q)
  lay := fun ⟨a, vs, ev, h, q⟩ => by simp only [PyData.canLay0]; exact enc_lays D.lay q
  dpt := fun b => by simp only [PyData.depth]; have := enc_deps D.dpt b; omega
  eqv := fun a b => by simp only [PyData.eqv]; exact enc_eqs (d := D.dec) D.eqv a b
def datP {r : Rp α} {q : Rp β} (D : Dat K r) (E : Dat K q) : Dat K (rP K r q) where
  dec := by have := D.dec; have := E.dec; infer_instance
  enc := fun p => .tuple [D.enc p.1, E.enc p.2]
  dep := max D.dep E.dep + 1
  dp := fun ⟨a, x, y, ev, h, h1, h2⟩ => by rw [ev]; exact .tup h (.cons (D.dp h1) (.cons (E.dp h2) .nil))
  lay := fun ⟨a, x, y, ev, h, h1, h2⟩ => by simp [PyData.canLay0, PyData.canLayAll0, D.lay h1, E.lay h2]
  dpt := fun b => by
    have h1 := D.dpt b.1
    have h2 := E.dpt b.2
    simp only [PyData.depth, PyData.depthAll]
    omega
  eqv := fun a b => by
    obtain ⟨a1, a2⟩ := a
    obtain ⟨b1, b2⟩ := b
    simp only [PyData.eqv, PyData.eqvAll, D.eqv, E.eqv, Bool.and_true]
    have := D.dec; have := E.dec
    by_cases h1 : a1 = b1 <;> by_cases h2 : a2 = b2 <;> simp [h1, h2]
theorem dat_shaped {r : Rp β} (D : Dat K r) (h : D.dep ≤ 64) {H : Hp} {v : V} {b : β} (hv : r H v b) : SeqAt.shaped (D.enc b) = true := by
  have h1 := D.dpt b
  show ((D.enc b).canLay0 && decide ((D.enc b).depth ≤ 64)) = true
  rw [Bool.and_eq_true]
  exact ⟨D.lay hv, decide_eq_true (by omega)⟩
end
/-- there is such data, not deep -/
def DatC (K : PySem.W.Frag) {β : Type} (r : Rp β) : Prop := ∃ D : Dat K r, D.dep < 64
class DatN (K : PySem.W.Frag) {β : Type} (r : Rp β) (n : outParam Nat) : Prop where
  ex : ∃ D : Dat K r, D.dep ≤ n
instance {K : PySem.W.Frag} : DatN K rS 0 := ⟨datS, Nat.le_refl _⟩
instance {K : PySem.W.Frag} : DatN K rI 0 := ⟨datI, Nat.le_refl _⟩
instance {K : PySem.W.Frag} : DatN K rB 0 := ⟨datB, Nat.le_refl _⟩
instance {K : PySem.W.Frag} : DatN K (rO rS) 0 := ⟨datO, Nat.le_refl _⟩
instance {K : PySem.W.Frag} {β : Type} {r : Rp β} {n : Nat} [d : DatN K r n] : DatN K (rT K r) (n + 1) := ⟨let ⟨D, h⟩ := d.ex; ⟨datT D, Nat.succ_le_succ h⟩⟩
instance {K : PySem.W.Frag} {β : Type} {r : Rp β} {n : Nat} [d : DatN K r n] : DatN K (rL r) (n + 1) := ⟨let ⟨D, h⟩ := d.ex; ⟨datL D, Nat.succ_le_succ h⟩⟩
instance {K : PySem.W.Frag} {α β : Type} {r : Rp α} {q : Rp β} {n m : Nat} [d : DatN K r n] [e : DatN K q m] : DatN K (rP K r q) (n + m + 1) := ⟨let ⟨D, h⟩ := d.ex; let ⟨E, h'⟩ := e.ex; ⟨datP D E, by show max D.dep E.dep + 1 ≤ _; omega⟩⟩
theorem datC_of {K : PySem.W.Frag} {β : Type} {r : Rp β} {n : Nat} [d : DatN K r n] (h : n < 64) : DatC K r := let ⟨D, e⟩ := d.ex; ⟨D, Nat.lt_of_le_of_lt e h⟩
/-- the same, whatever decides -/
noncomputable def eqB {α : Type} (a b : α) : Bool := @decide (a = b) (Classical.propDecidable _)
noncomputable def memB {α : Type} (a : α) (l : List α) : Bool := @decide (a ∈ l) (Classical.propDecidable _)
theorem eqB_iff {α : Type} {a b : α} : eqB a b = true ↔ a = b := by unfold eqB; rw [@decide_eq_true_iff]
theorem memB_iff {α : Type} {a : α} {l : List α} : memB a l = true ↔ a ∈ l := by unfold memB; rw [@decide_eq_true_iff]
section
variable {X : Cx} (K : PySem.W.Frag)
def rInTD (K : PySem.W.Frag) (neg : Bool) : R2 := fun x y H Q => ∃ d ds, Dp K H x d ∧ Dp K H y (.tuple ds) ∧ SeqAt.shaped d = true ∧ SeqAt.shaped (.tuple ds) = true ∧ Q (.bl (xor neg (ds.any fun z => PyData.eqv z d))) H
/-- t + u, t[lo:hi]: new tuples whose objects are known -/
def rCatD (K : PySem.W.Frag) : R2 := fun x y H Q => ∃ a b xs ys, x = .ref a ∧ y = .ref b ∧ SqT K H a xs ∧ SqT K H b ys ∧ xs.length + ys.length ≤ sizeLine ∧
  (xs = [] → Q (.ref b) H) ∧ (xs ≠ [] → ys = [] → Q (.ref a) H) ∧ (xs ≠ [] → ys ≠ [] → NewT H Q (xs ++ ys))
theorem op_catD : OpR X (binaryOp .Add) (rCatD X.K) := by
  intro pins s σ H x y v u Q I rx ry hw
  obtain ⟨a, b, xs, ys, rfl, rfl, ha, hb, hz, q0, q1, q2⟩ := hw
  cases rx
  cases ry
  obtain ⟨its, t1, p1, _⟩ := I.tuple ha
  obtain ⟨jts, t2, p2, _⟩ := I.tuple hb
  by_cases hx : xs = []
  · subst hx
    cases t1
    exact cat_tup0 p1 p2 ⟨.ref b, H, I, rfl, q0 rfl⟩
  · refine HT.cat_tup p1 p2 (fun z => hx (t1.nil_iff.mp z)) (fun z => ⟨.ref a, H, I, rfl, q1 hx (t2.nil_iff.mp z)⟩) (fun z => ?_) (by rw [← t1.length, ← t2.length]; exact hz)
    have J := tup_laid (h := s.heap) (s := s) I (t1.append t2) (by rw [List.length_append]; exact hz)
    exact ⟨.ref s.heap.objs.size, _, J, rfl, q2 hx (fun w => z (t2.nil_iff.mpr w)) _ _ (I.hok.fresh (Nat.le_refl _)) rfl⟩
def rSlD (K : PySem.W.Frag) : V → Option Int → Option Int → Hp → VK → Prop := fun x lo hi H Q => ∃ a xs, x = .ref a ∧ SqT K H a xs ∧
  (HT.sIx xs.length 0 lo = 0 ∧ HT.sIx xs.length xs.length hi = xs.length → Q (.ref a) H) ∧ (¬ (HT.sIx xs.length 0 lo = 0 ∧ HT.sIx xs.length xs.length hi = xs.length) → NewT H Q (cutV xs lo hi))
theorem sl_tupD : SlR X (rSlD X.K) := by
  intro pins s σ H x v vl vu lo hi sl Q I rx hs pl pu hw
  obtain ⟨a, xs, rfl, hx, q1, q2⟩ := hw
  cases rx
  obtain ⟨its, t1, ht, hz⟩ := I.tuple hx
  have hn : its.toArray.size = xs.length := by rw [List.size_toArray, t1.length]
  refine ⟨"tuple", _, PyProof.Rows.slot_tuple_getitem.lookup, ht.typeIs, ?_⟩
  by_cases whole : HT.sIx xs.length 0 lo = 0 ∧ HT.sIx xs.length xs.length hi = xs.length
  · exact getItem_tuple_whole ht hs pl pu (by rw [hn]; exact whole) ⟨.ref a, H, I, rfl, q1 whole⟩
  · refine HT.getItem_tuple_cut ht hs pl pu (by rw [hn]; exact whole) ?_ (by rw [hn]; exact hz)
    rw [hn]
    have J := tup_laid (h := s.heap) (s := s) I (its := ((its.drop (HT.sIx xs.length 0 lo)).take (HT.sIx xs.length xs.length hi - HT.sIx xs.length 0 lo))) ((t1.drop (HT.sIx xs.length 0 lo)).take (HT.sIx xs.length xs.length hi - HT.sIx xs.length 0 lo)) (Nat.le_trans (cutV_length xs lo hi) hz)
    exact ⟨.ref s.heap.objs.size, _, J, rfl, q2 whole _ _ (I.hok.fresh (Nat.le_refl _)) rfl⟩
theorem k_catA (hK : X.K = K := by rfl) : OpR X (binaryOp .Add) (rCatD K) := by subst hK; exact op_catD
theorem k_slA (hK : X.K = K := by rfl) : SlR X (rSlD K) := by subst hK; exact sl_tupD
end
section
variable {K : PySem.W.Frag} {H0 H1 H H' : Hp} {σ : L2.St} {G G' Gx : Cells K} {α β γ : Type}
variable {ta tb tc te : TE} {r : Rp α} {q : Rp β} {a x : α} {b y : β}
theorem a_eqD (h : Ev r ta G a) (h' : Ev r tb G x) (M : Mono r) (DD : DatC K r) : Ev rB (tOp (rEqD K) ta tb) G (eqB a x) := let ⟨D, hd⟩ := DD; ev_op h h' fun H u v hu hv Q k =>
  ⟨_, _, D.dp hu, D.dp hv, dat_shaped D (Nat.le_of_lt hd) hu, dat_shaped D (Nat.le_of_lt hd) hv, k _ H (Same.refl H) (by show V.bl _ = V.bl _; rw [D.eqv]; unfold eqB; congr)⟩
theorem a_neD (h : Ev r ta G a) (h' : Ev r tb G x) (M : Mono r) (DD : DatC K r) : Ev rB (tOp (rNeD K) ta tb) G (!eqB a x) := let ⟨D, hd⟩ := DD; ev_op h h' fun H u v hu hv Q k =>
  ⟨_, _, D.dp hu, D.dp hv, dat_shaped D (Nat.le_of_lt hd) hu, dat_shaped D (Nat.le_of_lt hd) hv, k _ H (Same.refl H) (by show V.bl _ = V.bl _; rw [D.eqv]; unfold eqB; congr)⟩
/-- is it in the list -/
def memD {r : Rp α} (D : Dat K r) (x : α) (xs : List α) : Bool := xs.any fun z => @decide (z = x) (D.dec z x)
theorem memD_iff {r : Rp α} {D : Dat K r} {x : α} {xs : List α} : memD D x xs = true ↔ x ∈ xs := by
  unfold memD
  rw [List.any_eq_true]
  constructor
  · rintro ⟨z, hz, e⟩
    rw [@decide_eq_true_iff _ (D.dec z x)] at e
    exact e ▸ hz
  · exact fun h => ⟨x, h, @decide_eq_true _ (D.dec x x) rfl⟩
theorem memD_enc {r : Rp α} (D : Dat K r) (x : α) (xs : List α) : ((xs.map D.enc).any fun z => PyData.eqv z (D.enc x)) = memD D x xs := by
  unfold memD
  rw [List.any_map]
  congr 1
  funext z
  exact D.eqv z x
theorem memD_dec {r : Rp α} (D : Dat K r) (x : α) (xs : List α) : memD D x xs = memB x xs := by
  rw [Bool.eq_iff_iff, memD_iff, memB_iff]
theorem a_inLD {xs : List α} (h' : Ev (rL r) tb G xs) (h : Ev r ta G x) (M : Mono r) (DD : DatC K r) : Ev rB (tOp (rInD K) ta tb) G (memB x xs) := let ⟨D, hd⟩ := DD; ev_op h h' fun H u v hu hv Q k =>
  ⟨_, _, D.dp hu, (datL D).dp hv, dat_shaped D (by omega) hu, dat_shaped (datL D) (by show D.dep + 1 ≤ 64; omega) hv, k _ H (Same.refl H) (by show V.bl _ = V.bl _; rw [memD_enc, memD_dec])⟩
theorem a_ninLD {xs : List α} (h' : Ev (rL r) tb G xs) (h : Ev r ta G x) (M : Mono r) (DD : DatC K r) : Ev rB (tOp (rNotInD K) ta tb) G (!memB x xs) := let ⟨D, hd⟩ := DD; ev_op h h' fun H u v hu hv Q k =>
  ⟨_, _, D.dp hu, (datL D).dp hv, dat_shaped D (by omega) hu, dat_shaped (datL D) (by show D.dep + 1 ≤ 64; omega) hv, k _ H (Same.refl H) (by show V.bl _ = V.bl _; rw [memD_enc, memD_dec])⟩
theorem a_inTD {xs : List α} (h' : Ev (rT K r) tb G xs) (h : Ev r ta G x) (M : Mono r) (DD : DatC K r) : Ev rB (tOp (rInTD K false) ta tb) G (memB x xs) := let ⟨D, hd⟩ := DD; ev_op h h' fun H u v hu hv Q k =>
  ⟨_, _, D.dp hu, (datT D).dp hv, dat_shaped D (by omega) hu, dat_shaped (datT D) (by show D.dep + 1 ≤ 64; omega) hv, k _ H (Same.refl H) (by show V.bl _ = V.bl _; rw [memD_enc, Bool.false_xor, memD_dec])⟩
theorem a_ninTD {xs : List α} (h' : Ev (rT K r) tb G xs) (h : Ev r ta G x) (M : Mono r) (DD : DatC K r) : Ev rB (tOp (rInTD K true) ta tb) G (!memB x xs) := let ⟨D, hd⟩ := DD; ev_op h h' fun H u v hu hv Q k =>
  ⟨_, _, D.dp hu, (datT D).dp hv, dat_shaped D (by omega) hu, dat_shaped (datT D) (by show D.dep + 1 ≤ 64; omega) hv, k _ H (Same.refl H) (by show V.bl _ = V.bl _; rw [memD_enc, Bool.true_xor, memD_dec])⟩
/-- tuple + tuple -/
theorem ev_catT {xs ys : List α} (h : Ev (rT K r) ta G xs) (h' : Ev (rT K r) tb G ys) (hz : xs.length + ys.length ≤ 100000) (M : Mono r) : Ev (rT K r) (tOp (rCatD K) ta tb) G (xs ++ ys) := ev_op h h' fun H u v ⟨p, vs, ev, hp, z⟩ ⟨p', vs', ev', hp', z'⟩ Q k =>
  ⟨p, p', vs, vs', ev, ev', hp, hp', by rw [z.len, z'.len]; exact sz hz, fun e => by
      subst e
      cases z
      exact k _ H (Same.refl H) ⟨p', vs', rfl, hp', z'⟩, fun _ e => by
      subst e
      cases z'
      exact k _ H (Same.refl H) ⟨p, vs, rfl, hp, by rw [List.append_nil]; exact z⟩, fun _ _ l o hl hd => k _ _ (same_new hl) ⟨l, _, rfl, SqD.of upd_same hd, (A2.app z' z).imp fun _ _ q => M.up (same_new hl) q⟩⟩
theorem ev_slT {xs : List α} {lo hi : Option Int} {tl th : TO} (h : Ev (rT K r) ta G xs) (hl : EvO tl G lo) (hh : EvO th G hi) (M : Mono r) : Ev (rT K r) (tSl (rSlD K) ta tl th) G (cut xs lo hi) := fun H0 σ H E Q k =>
  h H0 σ H E _ fun v H1 e1 ⟨p, vs, ev, hp, z⟩ => hl H0 σ H1 (E.grow e1) _ fun H2 e2 => hh H0 σ H2 (E.grow (e1.trans e2)) _ fun H3 e3 => by
    have s13 := (e1.trans e2).trans e3
    have z3 := z.imp fun _ _ q => M.up (e2.trans e3) q
    refine ⟨p, vs, ev, ((ext_same (e2.trans e3)).d _ _ hp).t, fun ⟨c1, c2⟩ => ?_, fun _ l o hl hd => k _ _ (s13.trans (same_new hl)) ⟨l, _, rfl, SqD.of upd_same hd, (cut_A2 z3 lo hi).imp fun _ _ q => M.up (same_new hl) q⟩⟩
    have e : cut xs lo hi = xs := by
      unfold cut
      rw [← z.len, c1, c2, List.drop_zero, Nat.sub_zero, z.len, List.take_length]
    exact k _ H3 s13 (by rw [e]; exact ⟨p, vs, rfl, (ext_same (e2.trans e3)).d _ _ hp, z3⟩)
end
end Gt
namespace Gt
open PySem PySem.Spec PyProof.Rows L2
section
variable {K : PySem.W.Frag} {H0 H1 H H' : Hp} {σ : L2.St} {G G' Gx : Cells K} {α β γ δ ε : Type}
variable {ta tb tc te td ty tx : TE} {r : Rp α} {q : Rp β} {x : α} {k : Str}
def dkey {α : Type} (xs : List (Str × α)) (k : Str) : Option α := (xs.find? fun kv => decide (kv.1 = k)).map (·.2)
def dput {α : Type} (xs : List (Str × α)) (k : Str) (v : α) : List (Str × α) := if (xs.any fun kv => decide (kv.1 = k)) = true then xs.map (fun kv => if kv.1 = k then (kv.1, v) else kv) else xs ++ [(k, v)]
abbrev Kv (P : V → α → Prop) (x : Key × V) (y : Str × α) : Prop := (x.1 = Sum.inr y.1 ∧ okS y.1) ∧ P x.2 y.2
theorem kv_key {P : V → α → Prop} {kvs : List (Key × V)} {xs : List (Str × α)} (h : A2 (Kv P) kvs xs) (k : Str) : (∃ v b, valV kvs (Sum.inr k : Key) = some v ∧ dkey xs k = some b ∧ P v b) ∨ (valV kvs (Sum.inr k : Key) = none ∧ dkey xs k = none) := by
  induction h with
  | nil => exact .inr ⟨rfl, rfl⟩
  | @cons a b as bs h1 h2 ih =>
    by_cases e : b.1 = k
    · refine .inl ⟨a.2, b.2, ?_, ?_, h1.2⟩
      · exact valV_pos (by rw [h1.1.1, e])
      · unfold dkey
        rw [List.find?_cons, decide_eq_true e]
        rfl
    · have ea : ¬ a.1 = (Sum.inr k : Key) := fun z => e (by rw [h1.1.1] at z; exact Sum.inr.inj z)
      have eb : dkey (b :: bs) k = dkey bs k := by
        unfold dkey
        rw [List.find?_cons, decide_eq_false e]
      rw [valV_neg ea, eb]
      exact ih
theorem kv_any {P : V → α → Prop} {kvs : List (Key × V)} {xs : List (Str × α)} (h : A2 (Kv P) kvs xs) (k : Str) : (kvs.any fun kv => decide (kv.1 = (Sum.inr k : Key))) = xs.any fun kv => decide (kv.1 = k) := by
  induction h with
  | nil => rfl
  | @cons a b as bs h1 h2 ih =>
    rw [List.any_cons, List.any_cons, ih]
    congr 1
    exact decide_eq_decide.mpr ⟨fun z => Sum.inr.inj (h1.1.1.symm.trans z), fun z => by rw [h1.1.1, z]⟩
/-- a dict that is read -/
def rD {α : Type} (r : Rp α) : Rp (List (Str × α)) := fun H v xs => ∃ a kvs, v = .ref a ∧ L2.Rd H a (.dK kvs) ∧ A2 (Kv (r H)) kvs xs
/-- .. that a loop walks -/
def rLk {α : Type} (r : Rp α) : Rp (List (Str × α)) := fun H v xs => ∃ a o kvs, v = .ref a ∧ H a = some (.frz o (.dK kvs)) ∧ A2 (Kv (r H)) kvs xs
theorem Rd_up {o : HO} {a : Addr} (e : Same H H') (h : L2.Rd H a o) : L2.Rd H' a o := by
  rcases h with h | ⟨u, h⟩
  · exact .inl (e _ _ h)
  · exact .inr ⟨u, e _ _ h⟩
instance [M : Mono r] : Mono (rD r) := ⟨fun e ⟨a, kvs, ev, h, z⟩ => ⟨a, kvs, ev, Rd_up e h, z.imp fun _ _ w => ⟨w.1, M.up e w.2⟩⟩⟩
instance [M : Mono r] : Mono (rLk r) := ⟨fun e ⟨a, o, kvs, ev, h, z⟩ => ⟨a, o, kvs, ev, e _ _ h, z.imp fun _ _ w => ⟨w.1, M.up e w.2⟩⟩⟩
theorem a_dct {i : Nat} {xs : List (Str × α)} (h : G[i]? = some (some (.ow (nd K r) xs))) : Ev (rD r) (tVar i) G xs := fun H0 σ H E Q k => by
  obtain ⟨own, _, _, h3⟩ := E.at_
  obtain ⟨v, hv, p, kvs, _, ev, hp, z⟩ := h3 i _ h
  exact ⟨v, hv, k v H (Same.refl H) ⟨p, kvs, ev, .inl hp, z.imp fun _ _ w => ⟨w.1, w.2.now⟩⟩⟩
theorem a_lkd {i : Nat} {M : Mono (rLk r)} {xs : List (Str × α)} (h : G[i]? = some (some (.ro (rLk r) M xs))) : Ev (rD r) (tVar i) G xs := (a_ro h).imp fun H v ⟨a, o, kvs, ev, hp, z⟩ => ⟨a, kvs, ev, .inr ⟨o, hp⟩, z⟩
theorem nw_dnew [M : Mono r] : Nw (nd K r) tDNewK G [] := fun H0 σ H E Q k p hp => k _ _ [p] (same_new hp) (fun b hb => by rw [List.mem_singleton.mp hb]; exact hp) ⟨p, [], rfl, rfl, upd_same, .nil⟩
/-- d.get(k, x) | d[k] | k in d -/
theorem a_dget2 {xs : List (Str × α)} (h : Ev (rD r) td G xs) (h' : Ev rS ty G k) (h2 : Ev r tx G x) (M : Mono r) : Ev r (tDGet2 td ty tx) G ((dkey xs k).getD x) := fun H0 σ H E Q c =>
  h H0 σ H E _ fun v H1 e1 ⟨a, kvs, ev, hr, z⟩ => ⟨a, ev, .inl ⟨kvs, hr⟩, h' H0 σ H1 (E.grow e1) _ fun w H2 e2 hw => h2 H0 σ H2 (E.grow (e1.trans e2)) _ fun y H3 e3 hy => by
    have hr3 := Rd_up (e2.trans e3) hr
    have z3 := z.imp fun _ _ w => (⟨w.1, M.up (e2.trans e3) w.2⟩ : Kv (r H3) _ _)
    refine ⟨valV kvs (Sum.inr k : Key), .inl ⟨kvs, Sum.inr k, hr3, hw.1, rfl⟩, ?_⟩
    rcases kv_key z3 k with ⟨v', b', e5, e6, hq⟩ | ⟨e5, e6⟩
    · rw [e5]; exact c _ H3 ((e1.trans e2).trans e3) (by rw [e6]; exact hq)
    · rw [e5]; exact c _ H3 ((e1.trans e2).trans e3) (by rw [e6]; exact hy)⟩
theorem a_dget {xs : List (Str × α)} (h : Ev (rD r) td G xs) (h' : Ev rS ty G k) (M : Mono r) (hx : dkey xs k = some x) : Ev r (tDGet td ty) G x := fun H0 σ H E Q c =>
  h H0 σ H E _ fun v H1 e1 ⟨a, kvs, ev, hr, z⟩ => h' H0 σ H1 (E.grow e1) _ fun w H2 e2 hw => by
    rcases kv_key z k with ⟨v', b', e5, e6, hq⟩ | ⟨e5, e6⟩
    · rw [hx] at e6
      cases e6
      exact ⟨a, v', ev, .inl ⟨kvs, Sum.inr k, Rd_up e2 hr, hw.1, e5.symm⟩, c _ H2 (e1.trans e2) (M.up e2 hq)⟩
    · rw [hx] at e6
      cases e6
end
end Gt
namespace Gt
open PySem PySem.Spec PyProof.Rows L2
/-- where the class of that name stands -/
def cA (K : PySem.W.Frag) (x : Str) : Addr := match PySem.W.nsIn K mainGlobals x with
  | some (some (.ref C)) => C
  | _ => 0
theorem cA_eq {K : PySem.W.Frag} {x : Str} {C : Addr} (h : PySem.W.nsIn K mainGlobals x = some (some (.ref C))) : cA K x = C := by
  unfold cA
  rw [h]
/-- what the top says of a class: its fields are fields -/
structure ClsF (K : PySem.W.Frag) (mg : Str → Option Value) (x : Str) : Prop where
  cl : Cls K (cA K x)
  mg : mg x = some (.ref (cA K x))
  first : PySem.W.selfFirst K (cA K x) = true
  noseq : PySem.W.noSeq K (cA K x) = true
  makes : PySem.W.makesIn K (cA K x) = true
  kp : PySem.W.keepIn K (.ref (cA K x)) = true
section
variable {X : Cx} (K : PySem.W.Frag) {CX : CXT} {C : Addr} {k : Nat} {ps : List Str} {sp : Sp} {E : XK} {x m f : Str} {p pos apos pos' : Pos} {e o value : Expr} {es : List Expr} {ta tv : TE} {t : TA}
theorem ps_fldK (ha : PE X o ta) (hv : PE X value tv) (hK : X.K = K := by rfl) (hs : swapsWith value (some (.Attribute o f pos')) pos.line X.env = pure false := by rfl) : PS X (.Assign [.Attribute o f pos'] value pos) (sFld K ta tv f) := by subst hK; exact ps_fld ha hv hs
end
/-- what r says is an instance of the class at C with these fields -/
structure InsR (K : PySem.W.Frag) {β : Type} (C : Addr) (r : Rp β) (names : List Str) : Prop where
  ins : ∀ {H : Hp} {v : V} {b : β}, r H v b → ∃ a dx fs, v = .ref a ∧ H a = some (.ins C dx fs) ∧ fs.map (·.1) = names
theorem lookup_no {names : List Str} {m : Str} : ∀ {fs : List (Str × V)}, fs.map (·.1) = names → m ∉ names → fs.lookup m = none := by
  intro fs h hm
  subst h
  induction fs with
  | nil => rfl
  | cons x r ih =>
    obtain ⟨a, b⟩ := x
    rw [List.map_cons, List.mem_cons, not_or] at hm
    rw [List.lookup_cons, show (m == a) = false from beq_eq_false_iff_ne.mpr hm.1]
    exact ih hm.2
section
variable {K : PySem.W.Frag} {H0 H1 H H' : Hp} {σ : L2.St} {G G' : Cells K} {α β γ δ : Type} {ta tb te : TE} {t : TA} {r : Rp α} {r' : Rp β} {q : Rp γ} {x : α} {y : β} {z : γ} {C : Addr} {names : List Str} {m : Str}
theorem a_cmpO {pre : α × β × Unit → Prop} {f : α × β × Unit → γ} {E : XK} (h : Ev r ta G x) (h' : Ev r' tb G y) (M : Mono r) (I : InsR K C r names) (I' : InsR K C r' names) (hp : PreOk pre (x, y, ())) (e : AppEq f (x, y, ()) z) :
    Ev q (tOp (rOwnOp C (spF (aC r (aC r' aN)) pre q f) E) ta tb) G z := ev_op h h' fun H u v hu hv Q k => by
  obtain ⟨a, dx, fs, ea, ha, _⟩ := I.ins hu
  obtain ⟨b, dy, gs, eb, hb, _⟩ := I'.ins hv
  exact ⟨a, dx, fs, b, dy, gs, ea, eb, ha, hb, (x, y, ()), ⟨u, _, rfl, hu, v, _, rfl, hv, rfl⟩, hp, fun w H' e' hw => k w H' e' (by rw [← show f (x, y, ()) = z from e]; exact hw)⟩
theorem nw_binO {R : Rs K γ} {pre : α × β × Unit → Prop} {f : α × β × Unit → γ} {E : XK} (h : Ev r ta G x) (h' : Ev r' tb G y) (M : Mono r) (I : InsR K C r names) (I' : InsR K C r' names) (hp : PreOk pre (x, y, ())) (e : AppEq f (x, y, ()) z) :
    Nw R (tOp (rOwnOp C (spN (aC r (aC r' aN)) pre R f) E) ta tb) G z := nw_op h h' fun H u v hu hv Q k => by
  obtain ⟨a, dx, fs, ea, ha, _⟩ := I.ins hu
  obtain ⟨b, dy, gs, eb, hb, _⟩ := I'.ins hv
  exact ⟨a, dx, fs, b, dy, gs, ea, eb, ha, hb, (x, y, ()), ⟨u, _, rfl, hu, v, _, rfl, hv, rfl⟩, hp, fun w H' as e' hn hw => k w H' as e' hn (by rw [← show f (x, y, ()) = z from e]; exact hw)⟩
theorem a_mth {A : Ra β} {b : β} {pre : α × β → Prop} {f : α × β → γ} {E : XK} (h : Ev r ta G x) (M : Mono r) (I : InsR K C r names) (hn : m ∉ names) (hA : EvA A t G b) (hp : PreOk pre (x, b)) (e : AppEq f (x, b) z) :
    Ev q (tMeth C m (spF (aC r A) pre q f) [] E ta t) G z := fun H0 σ H E1 Q k => h H0 σ H E1 _ fun v H1 e1 hv => by
  obtain ⟨a, dx, fs, ea, ha, hm⟩ := I.ins hv
  refine ⟨a, dx, fs, ea, ha, lookup_no hm hn, hA H0 σ H1 (E1.grow e1) _ fun vs H2 e2 hvs => ?_⟩
  exact ⟨(x, b), ⟨v, vs, by rw [List.append_nil], M.up e2 hv, hvs⟩, hp, fun w H' e' hw => k w H' ((e1.trans e2).trans e') (by rw [← show f (x, b) = z from e]; exact hw)⟩
theorem nw_mth {R : Rs K γ} {A : Ra β} {b : β} {pre : α × β → Prop} {f : α × β → γ} {E : XK} (h : Ev r ta G x) (M : Mono r) (I : InsR K C r names) (hn : m ∉ names) (hA : EvA A t G b) (hp : PreOk pre (x, b)) (e : AppEq f (x, b) z) :
    Nw R (tMeth C m (spN (aC r A) pre R f) [] E ta t) G z := fun H0 σ H E1 Q k => h H0 σ H E1 _ fun v H1 e1 hv => by
  obtain ⟨a, dx, fs, ea, ha, hm⟩ := I.ins hv
  refine ⟨a, dx, fs, ea, ha, lookup_no hm hn, hA H0 σ H1 (E1.grow e1) _ fun vs H2 e2 hvs => ?_⟩
  exact ⟨(x, b), ⟨v, vs, by rw [List.append_nil], M.up e2 hv, hvs⟩, hp, fun w H' as e' hf hw => k w H' as ((e1.trans e2).trans e') (fun p hp => free_back (e1.trans e2) (hf p hp)) (by rw [← show f (x, b) = z from e]; exact hw)⟩
end
abbrev Rule := Str × List Str
abbrev rRu (K : PySem.W.Frag) : Rp Rule := rP K rS (rT K rS)
/-- an instance with one field, a list of such things -/
def rOne (K : PySem.W.Frag) (C : Addr) (f : Str) {β : Type} (r : Rp β) : Rp (List β) := fun H v xs => (∃ a dx l vs, v = .ref a ∧ H a = some (.ins C dx [(f, .ref l)]) ∧ H l = some (.lst vs) ∧ A2 (r H) vs xs) ∧ xs.length ≤ 100000
def nOne (K : PySem.W.Frag) (C : Addr) (f : Str) {β : Type} (r : Rp β) : Rs K (List β) where
  rep := fun H v xs as => (∃ a dx l vs, as = [a, l] ∧ v = .ref a ∧ a ≠ l ∧ H a = some (.ins C dx [(f, .ref l)]) ∧ H l = some (.lst vs) ∧ A2 (Stb K r H) vs xs) ∧ xs.length ≤ 100000
  stay := fun ⟨⟨a, dx, l, vs, e, ev, ne, h1, h2, z⟩, hz⟩ x k => ⟨⟨a, dx, l, vs, e, ev, ne, k a (by rw [e]; simp) _ h1, k l (by rw [e]; simp) _ h2, z.imp fun _ _ w => w.up x⟩, hz⟩
  there := fun ⟨⟨a, dx, l, vs, e, ev, ne, h1, h2, z⟩, hz⟩ p hp => by
    rw [e] at hp
    rcases List.mem_cons.mp hp with q | q
    · exact ⟨.ins C dx [(f, .ref l)], by rw [q]; exact h1, fun z => z⟩
    · cases List.mem_singleton.mp q
      exact ⟨_, h2, fun z => z⟩
section
variable {K : PySem.W.Frag} {H0 H1 H H' : Hp} {σ : L2.St} {G G' : Cells K} {α β : Type} {ta te : TE} {r : Rp β} {C : Addr} {f : Str} {xs : List β}
instance [M : Mono r] : Mono (rOne K C f r) := ⟨fun e ⟨⟨a, dx, l, vs, ev, h1, h2, z⟩, hz⟩ => ⟨⟨a, dx, l, vs, ev, e _ _ h1, e _ _ h2, z.imp fun _ _ w => M.up e w⟩, hz⟩⟩
theorem one_ins : InsR K C (rOne K C f r) [f] := ⟨fun ⟨⟨a, dx, l, vs, ev, h1, _⟩, _⟩ => ⟨a, dx, _, ev, h1, rfl⟩⟩
theorem a_one {i : Nat} (h : G[i]? = some (some (.ow (nOne K C f r) xs))) : Ev (rOne K C f r) (tVar i) G xs := fun H0 σ H E Q k => by
  obtain ⟨own, _, _, h3⟩ := E.at_
  obtain ⟨v, hv, ⟨a, dx, l, vs, _, ev, _, h1, h2, z⟩, hz⟩ := h3 i _ h
  exact ⟨v, hv, k v H (Same.refl H) ⟨⟨a, dx, l, vs, ev, h1, h2, nows z⟩, hz⟩⟩
theorem a_oneF (h : Ev (rOne K C f r) ta G xs) (c : Cls K C) (n : NoAttr K C f) : Ev (rL r) (tFld K ta f) G xs := fun H0 σ H E Q k => h H0 σ H E _ fun v H1 e1 ⟨⟨a, dx, l, vs, ev, h1, h2, z⟩, hz⟩ =>
  ⟨a, C, dx, _, .ref l, ev, h1, c, n, by rw [List.lookup_cons, show (f == f) = true from beq_self_eq_true f], k _ H1 e1 ⟨l, vs, rfl, h2, z⟩⟩
theorem nw_oneL [M : Mono r] [F : Frz K r] (h : Ev (rOne K C f r) te G xs) : Nw (nl K r) (tCB (rListY K C f) (tCons te tNil)) G xs := nw_cb (ea_cons h ea_nil) fun H vs ⟨v, ws, e, ⟨⟨a, dx, l, us, ev, h1, h2, z⟩, hz⟩, e2⟩ Q k =>
  ⟨a, dx, _, l, us, by rw [e, show ws = [] from e2, ev], h1, by rw [List.lookup_cons, show (f == f) = true from beq_self_eq_true f], SqL.of h2, by rw [z.len]; exact sz hz, (fun q hq z => by
      rw [← z, h2] at hq
      cases hq), fun q hq => k _ _ [q] (same_new hq) (fun b hb => by rw [List.mem_singleton.mp hb]; exact hq) ⟨q, us, rfl, rfl, upd_same, z.imp fun _ _ w => stb (M.up (same_new hq) w)⟩⟩
/-- what making an instance promises -/
def spOne (K : PySem.W.Frag) (C : Addr) (f : Str) (r : Rp β) {α : Type} (A : Ra α) (pre : α → Prop) (g : α → List β) : Sp := fun vs H Q _ => ∃ p dx ws a, vs = .ref p :: ws ∧ H p = some (.ins C dx []) ∧ A H ws a ∧ pre a ∧
  ∀ l us H', (∀ b o, b ≠ p → H b = some o → H' b = some o) → H l = none → H' p = some (.ins C dx [(f, .ref l)]) → H' l = some (.lst us) → A2 (Stb K r H') us (g a) → (g a).length ≤ 100000 → Q .non H'
theorem nw_mkO {A : Ra α} {a : α} {pre : α → Prop} {g : α → List β} {E : XK} {t : TA} (hA : EvA A t G a) (M : MonoA A) (hp : PreOk pre a) (e : AppEq g a xs) : Nw (nOne K C f r) (tMake C (spOne K C f r A pre g) [] E t) G xs := fun H0 σ H E1 Q k =>
  hA H0 σ H E1 _ fun ws H1 e1 hws x dx hx hdx hne => by
    have s1 : Same H1 (upd (upd H1 dx (.own x)) x (.ins C dx [])) := fun b o hb => by rw [upd_ne (ne_of_none hb hx), upd_ne (ne_of_none hb hdx)]; exact hb
    refine ⟨x, dx, ws, a, by rw [List.append_nil], upd_same, M.up s1 hws, hp, fun l us H' keep hl h1 h2 z hz => ⟨rfl, ?_⟩⟩
    have hlx : x ≠ l := fun q => by rw [← q, upd_same] at hl; cases hl
    have hl1 : H1 l = none := s1.free hl
    refine k _ H' [x, l] (e1.trans fun b o hb => keep b o (ne_of_none hb hx) (s1 _ _ hb)) (fun b hb => ?_) ⟨⟨x, dx, l, us, rfl, rfl, hlx, h1, h2, by rw [← show g a = xs from e]; exact z⟩, by rw [← show g a = xs from e]; exact hz⟩
    rcases List.mem_cons.mp hb with q | q
    · rw [q]; exact free_back e1 hx
    · cases List.mem_singleton.mp q
      exact free_back e1 hl1
end
end Gt
namespace Gt
open PySem PySem.Spec PyProof.Rows L2
/-- the defaults of a def: none, or a tuple of m -/
def DfV (K : PySem.W.Frag) (dV : Value) (m : Nat) : Prop := (m = 0 ∧ dV = .none) ∨ ∃ (T : Addr) (o : Obj) (its : List Value) (n : Nat), dV = .ref T ∧ K.lookup T = some o ∧ o.data = .seq its.toArray n ∧ its.length = m ∧ 0 < m
structure FunE (K : PySem.W.Frag) (x q : Str) (st : Stmt) (m : Nat) (f : Addr) (fd : FuncData) : Prop where
  ex : ∃ (oc : Value) (od : Option Addr) (dV kV doc pm : Value) (an : Option Addr) (cdv ct : Value) (osl : Array (Option Value)),
    fd = PySem.W.fnOf x q (defArgs st) (defBody st) (defScope st) dV kV doc pm an cdv ct ∧ K.lookup f = some ⟨oc, od, .func fd, osl⟩ ∧ PySem.W.codeIn K cdv q = true ∧ DfV K dV m
  kp : PySem.W.keepIn K (.ref f) = true
/-- how all arguments bind -/
def BindE (x q : Str) (st : Stmt) (ps : List Str) (m : Nat) : Prop :=
  (m = 0 → ∀ (kV doc pm : Value) (an : Option Addr) (cdv ct : Value) (us : List Value), us.length = ps.length → bindArgs (PySem.W.fnOf x q (defArgs st) (defBody st) (defScope st) .none kV doc pm an cdv ct) ⟨us, []⟩ = pure (ps.zip us)) ∧
  (0 < m → ∀ (T : Addr) (kV doc pm : Value) (an : Option Addr) (cdv ct : Value) (us its : List Value), us.length = ps.length → its.length = m →
    ∃ k, bindArgs (PySem.W.fnOf x q (defArgs st) (defBody st) (defScope st) (.ref T) kV doc pm an cdv ct) ⟨us, []⟩ = seqItems? (.ref T) >>= k ∧ k (some its.toArray) = pure (ps.zip us))
section
variable {P : Program} {w : World} {K : PySem.W.Frag} {mg : Str → Option Value} {base : Heap} {CX : CXT} {x q : Str} {st : Stmt} {m k : Nat} {f C : Addr} {fd : FuncData} {ps N : List Str} {sp : Sp}
theorem FunE.ok (F : FunE K x q st m f fd) (S : FnScope N ps (defScope st)) (len : ∀ vs H Q E, sp vs H Q E → vs.length = ps.length)
    (hbody : ∀ (cdv : Value) (A : Around) (outer : List PySem.Env) (s : Shared) (H : Hp) (vs : List V) (Q : VK) (E : XK), Room k (A.deeper (envOfC q (defScope st) s.heap.objs.size f cdv)) → sp vs H Q E →
      ∃ t, PSs (cxOf CX P w K mg base N q (defScope st) f cdv A outer s H E) (defBody st) t ∧ t { nx := fun _ H' => Q .non H', rt := Q } (start N vs) H) : FnOk P w K mg base CX (k + 1) f fd ps sp := by
  obtain ⟨oc, od, dV, kV, doc, pm, an, cdv, ct, osl, rfl, lk, hcd, _⟩ := F.ex
  exact fn_of lk hcd S len fun A outer s H vs Q E hr h => hbody cdv A outer s H vs Q E hr h
theorem FunE.binds (F : FunE K x q st m f fd) (b : BindE x q st ps m) : L2.Binds K fd ps [] := by
  obtain ⟨oc, od, dV, kV, doc, pm, an, cdv, ct, osl, rfl, lk, hcd, hD⟩ := F.ex
  rcases hD with ⟨e, rfl⟩ | ⟨T, o, its, n, rfl, lT, oT, rT⟩
  · exact .all (b.1 e kV doc pm an cdv ct)
  · intro s us X hlen
    rw [List.append_nil] at hlen ⊢
    obtain ⟨k, e1, e2⟩ := b.2 rT.2 T kV doc pm an cdv ct us its hlen rT.1
    refine BindsTo.of_looks fun M => ?_
    rw [e1]
    exact looks_items X lT oT (.of_pure e2)
/-- a method of the class at C: the def of the text -/
structure DfE (K : PySem.W.Frag) (C : Addr) (x q : Str) (st : Stmt) (m : Nat) : Prop where
  ex : ∃ (f : Addr) (fd : FuncData), FunE K x q st m f fd ∧ PySem.W.findIn K (.ref C) x = some (some (.ref f)) ∧ PySem.W.isFn K (.ref f) = true
end
end Gt
namespace Gt
open PySem PySem.Spec PyProof.Rows L2
def repC (c : Array Nat) (n : Nat) : Array Nat := (List.replicate n c).foldl (· ++ ·) #[]
theorem foldC_size (c : Array Nat) : ∀ (n : Nat) (a : Array Nat), ((List.replicate n c).foldl (· ++ ·) a).size = a.size + n * c.size
  | 0, a => by simp
  | n + 1, a => by
    rw [List.replicate_succ, List.foldl_cons, foldC_size c n, Array.size_append, Nat.succ_mul]
    omega
theorem foldC_all (p : Nat → Bool) (c : Array Nat) (hc : c.all p = true) : ∀ (n : Nat) (a : Array Nat), a.all p = true → ((List.replicate n c).foldl (· ++ ·) a).all p = true
  | 0, a, h => by simpa using h
  | n + 1, a, h => by
    rw [List.replicate_succ, List.foldl_cons]
    exact foldC_all p c hc n _ (by rw [Array.all_append, h, hc]; rfl)
/-- s * n -/
def repS (x : Str) (n : Int) : Str := if n < 1 then Str.empty else if (n == 1 || x.length == 0) = true then x else ⟨repC x.cps n.toNat⟩
theorem repS_len (x : Str) (n : Int) : (repS x n).length ≤ x.length * n.toNat := by
  unfold repS
  split
  · exact Nat.zero_le _
  · rename_i h1
    split
    · rename_i h2
      rcases Bool.or_eq_true_iff.mp h2 with e | e
      · have : n = 1 := by simpa using e
        subst this
        show x.length ≤ x.length * 1
        omega
      · have : x.length = 0 := by simpa using e
        omega
    · show (repC x.cps n.toNat).size ≤ _
      unfold repC
      rw [foldC_size, Nat.mul_comm]
      show (#[] : Array Nat).size + x.cps.size * n.toNat ≤ x.cps.size * n.toNat
      simp
theorem okS_rep {x : Str} {n : Int} (h : okS x) (hz : x.length * n.toNat ≤ 100000) : okS (repS x n) := by
  refine ⟨Nat.le_trans (repS_len x n) hz, ?_⟩
  unfold repS
  have e0 : (#[] : Array Nat).all (fun c => decide (c < 0x110000)) = true := by simp
  split
  · exact e0
  · split
    · exact h.2
    · exact foldC_all _ _ h.2 _ _ e0
abbrev rMulS : R2 := fun x y H Q => ∃ a n, x = .str a ∧ y = .int n ∧ 0 ≤ n ∧ n ≤ 1000 ∧ a.length ≤ 1000 ∧ Q (.str (repS a n)) H
theorem op_mulS {X : Cx} : OpR X (binaryOp .Mult) rMulS := by
  intro pins s σ H x y v u Q I rx ry h
  obtain ⟨a, n, rfl, rfl, h0, h1, ha, q⟩ := h
  obtain ⟨t, rfl⟩ := rx
  obtain ⟨t', rfl⟩ := ry
  have hb : a.length * n.toNat ≤ 1000 * 1000 := Nat.mul_le_mul ha (by omega)
  refine P.mul_str (by rw [decide_eq_false (by omega), decide_eq_false (by omega)]; rfl) (fun hn _ hq => ?_) (fun hn _ => ?_) ?_
  · have : (1000 : Int) ≤ (2 ^ 63 - 1) / n := by
      refine (Int.le_ediv_iff_mul_le (by omega)).mpr ?_
      omega
    omega
  · show decide _ = false
    exact decide_eq_false (by rw [sizeLine_eq]; omega)
  · have hlen := repS_len a n
    unfold repS at q hlen
    by_cases c1 : n < 1
    · rw [if_pos c1] at q ⊢
      exact ⟨by decide, .str Str.empty, H, I.tok _, ⟨_, rfl⟩, q⟩
    · rw [if_neg c1] at q hlen ⊢
      by_cases c2 : (n == 1 || a.length == 0) = true
      · rw [if_pos c2] at q ⊢
        exact ⟨.str a, H, I, ⟨_, rfl⟩, q⟩
      · rw [if_neg c2] at q hlen ⊢
        exact ⟨Nat.le_trans hlen (Nat.le_trans hb (by rw [sizeLine_eq]; decide)), .str _, H, I.tok _, ⟨_, rfl⟩, q⟩
section
variable {K : PySem.W.Frag} {G : Cells K} {ta tb te : TE} {s t : Str} {n : Int}
theorem ev_mulS (h : Ev rS ta G s) (h' : Ev rI tb G n) (hn : 0 ≤ n ∧ n ≤ 1000) (hz : s.length ≤ 50) : Ev rS (tOp rMulS ta tb) G (repS s n) := ev_op h h' fun H u v hu hv Q k =>
  ⟨s, n, hu.1, hv, hn.1, hn.2, by omega, k _ H (Same.refl H) ⟨rfl, okS_rep hu.2 (Nat.le_trans (Nat.mul_le_mul hz (show n.toNat ≤ 1000 by omega)) (by decide))⟩⟩
end
end Gt
namespace Gt
open PySem PySem.Spec PyProof.Rows L2
/-- what an exception keeps -/
inductive Pay
  | s (o : Option Str)
  | i (n : Int)
  | r (x : Rule)
inductive Er
  | stuck
  | ex (cls : Str) (fs : List (Str × Pay))
abbrev M (α : Type) := Except Er α
def mb {α β : Type} (m : M α) (f : α → M β) : M β := match m with
  | .ok a => f a
  | .error e => .error e
theorem mb_ok {α β : Type} {m : M α} {f : α → M β} {b : β} (h : mb m f = .ok b) : ∃ a, m = .ok a ∧ f a = .ok b := by
  cases m with
  | ok a => exact ⟨a, rfl, h⟩
  | error e => cases h
theorem mb_of {α β : Type} {m : M α} {f : α → M β} {a : α} (h : m = .ok a) : mb m f = f a := by rw [h]; rfl
theorem ok_inj {α : Type} {a b : α} (h : (Except.ok a : M α) = .ok b) : a = b := by cases h; rfl
def oM {α : Type} : Option α → M α
  | some a => .ok a
  | none => .error .stuck
theorem oM_ok {α : Type} {o : Option α} {a : α} (h : oM o = .ok a) : o = some a := by
  cases o with
  | none => cases h
  | some b => cases h; rfl
theorem oM_of {α : Type} {o : Option α} {a : α} (h : o = some a) : oM o = .ok a := by rw [h]; rfl
def chk (c : Bool) : M Unit := bif c then .ok () else .error .stuck
theorem chk_ok {c : Bool} {u : Unit} (h : chk c = .ok u) : c = true := by
  cases c with
  | false => cases h
  | true => rfl
theorem chk_of {c : Bool} (h : c = true) : chk c = .ok () := by rw [h]; rfl
theorem bif_t {α : Type} {c : Bool} {a b x : α} (h : (bif c then a else b) = x) (hc : c = true) : a = x := by rw [hc] at h; exact h
theorem bif_f {α : Type} {c : Bool} {a b x : α} (h : (bif c then a else b) = x) (hc : c = false) : b = x := by rw [hc] at h; exact h
/-- and, or whose right side may be stuck -/
def mand (a : Bool) (m : M Bool) : M Bool := bif a then m else .ok false
def mor (a : Bool) (m : M Bool) : M Bool := bif a then .ok true else m
/-- what a block ends in -/
inductive Fl (σ ρ : Type)
  | nx (s : σ)
  | rt (r : ρ)
  | bk (s : σ)
def mfor {σ α : Type} (f : σ → α → M σ) : σ → List α → M σ
  | s, [] => .ok s
  | s, x :: xs => mb (f s x) fun s' => mfor f s' xs
def mforF {σ ρ α : Type} (f : σ → α → M (Fl σ ρ)) : σ → List α → M (Fl σ ρ)
  | s, [] => .ok (.nx s)
  | s, x :: xs => mb (f s x) fun o => match o with
    | .nx s' => mforF f s' xs
    | .rt r => .ok (.rt r)
    | .bk s' => .ok (.nx s')
theorem mfor_app {σ α : Type} {f : σ → α → M σ} : ∀ {xs ys : List α} {s r : σ}, mfor f s (xs ++ ys) = .ok r → ∃ t, mfor f s xs = .ok t ∧ mfor f t ys = .ok r
  | [], ys, s, r, h => ⟨s, rfl, h⟩
  | x :: xs, ys, s, r, h => by
    obtain ⟨t, h1, h2⟩ := mb_ok h
    obtain ⟨u, h3, h4⟩ := mfor_app h2
    exact ⟨u, by unfold mfor; rw [mb_of h1]; exact h3, h4⟩
/-- a state from which the rest of the loop ends so -/
theorem mforF_step {σ ρ α : Type} {f : σ → α → M (Fl σ ρ)} {s : σ} {x : α} {xs : List α} {o : Fl σ ρ} (h : mforF f s (x :: xs) = .ok o) : ∃ o1, f s x = .ok o1 ∧ (∀ s', o1 = .nx s' → mforF f s' xs = .ok o) ∧ (∀ r, o1 = .rt r → o = .rt r) ∧ (∀ s', o1 = .bk s' → o = .nx s') := by
  obtain ⟨o1, h1, h2⟩ := mb_ok h
  refine ⟨o1, h1, ?_, ?_, ?_⟩
  · rintro s' rfl; exact h2
  · rintro r rfl; cases h2; rfl
  · rintro s' rfl; cases h2; rfl
def fuel : Nat := 1000000
def mwhile {σ : Type} (c : σ → M Bool) (f : σ → M σ) : Nat → σ → M σ
  | 0, _ => .error .stuck
  | n + 1, s => mb (c s) fun b => bif b then mb (f s) fun s' => mwhile c f n s' else .ok s
def mwhileF {σ ρ : Type} (c : σ → M Bool) (f : σ → M (Fl σ ρ)) : Nat → σ → M (Fl σ ρ)
  | 0, _ => .error .stuck
  | n + 1, s => mb (c s) fun b => bif b then mb (f s) fun o => match o with
      | .nx s' => mwhileF c f n s'
      | .rt r => .ok (.rt r)
      | .bk s' => .ok (.nx s') else .ok (.nx s)
/-- [f x for x in xs if p x] -/
def mlc {α β : Type} (p : α → M Bool) (f : α → M β) : List α → M (List β)
  | [] => .ok []
  | x :: xs => mb (p x) fun b => bif b then mb (f x) fun y => mb (mlc p f xs) fun ys => .ok (y :: ys) else mlc p f xs
theorem mlc_app {α β : Type} {p : α → M Bool} {f : α → M β} : ∀ {xs ys : List α} {zs : List β}, mlc p f (xs ++ ys) = .ok zs → ∃ us vs, mlc p f xs = .ok us ∧ mlc p f ys = .ok vs ∧ zs = us ++ vs
  | [], ys, zs, h => ⟨[], zs, rfl, h, rfl⟩
  | x :: xs, ys, zs, h => by
    obtain ⟨b, h1, h⟩ := mb_ok h
    cases b with
    | false =>
      obtain ⟨us, vs, e1, e2, e3⟩ := mlc_app (xs := xs) h
      exact ⟨us, vs, by unfold mlc; rw [mb_of h1]; exact e1, e2, e3⟩
    | true =>
      obtain ⟨y, h2, h⟩ := mb_ok h
      obtain ⟨ws, h3, h⟩ := mb_ok h
      obtain ⟨us, vs, e1, e2, e3⟩ := mlc_app (xs := xs) h3
      cases h
      refine ⟨y :: us, vs, ?_, e2, by rw [e3]; rfl⟩
      unfold mlc
      rw [mb_of h1]
      show mb (f x) _ = _
      rw [mb_of h2, mb_of e1]
section
variable {K : PySem.W.Frag} {H0 H1 H H' : Hp} {σ : L2.St} {G G' G2 Gx : Cells K} {α β γ S T ρ : Type}
variable {D : Ends} {t u tb : TS} {wi : TI} {g : TG} {te ta tb' : TE} {tt tu tv : TT} {r : Rp α} {q : Rp β} {R : Rs K ρ} {a b c d : Bool}
/-- what is handed back -/
def RtR (R : Rs K ρ) (H0 : Hp) (x : ρ) (v : V) (H : Hp) : Prop := ∃ as, Same H0 H ∧ (∀ p, p ∈ as → H0 p = none) ∧ R.rep H v x as
def RtOk (R : Rs K ρ) (H0 : Hp) (x : ρ) (D : Ends) : Prop := ∀ v H, RtR R H0 x v H → D.rt v H
theorem RtOk.up {x : ρ} (h : RtOk R H0 x D) (e : Same H0 H1) : RtOk R H1 x D := fun v H ⟨as, s, n, z⟩ => h v H ⟨as, e.trans s, fun p hp => e.free (n p hp), z⟩
theorem Have.up (e : Same H0 H1) (h : Have H1 G σ H) : Have H0 G σ H := let ⟨H2, s, E⟩ := h; ⟨H2, e.trans s, E⟩
theorem Nx.up {P : L2.St → Hp → Prop} (h : Nx H0 G P) (e : Same H0 H1) : Nx H1 G P := fun σ H z => h σ H (Have.up e z)
theorem Sv.up (h : Sv H0 G t D) (e : Same H0 H1) : Sv H1 G t D := fun σ H z => h σ H (Have.up e z)
def OutOk (H0 : Hp) (st : S → Cells K) (bk : S → Cells K) (R : Rs K ρ) (D : Ends) : Fl S ρ → Prop
  | .nx s => Nx H0 (st s) D.nx
  | .rt x => RtOk R H0 x D
  | .bk s => Nx H0 (bk s) D.bk
theorem OutOk.up {st bk : S → Cells K} {o : Fl S ρ} (h : OutOk H0 st bk R D o) (e : Same H0 H1) : OutOk H1 st bk R D o := match o, h with
  | .nx _, h => Nx.up h e
  | .rt _, h => RtOk.up h e
  | .bk _, h => Nx.up h e
theorem r_ret {x : α} (hD : RtOk (fz K r) H0 x D) (h : Ev r te G x) (F : Frz K r := by infer_instance) : Sv H0 G (tRet te) D := l_ret (b' := x) (fun v H' s z => hD v H' ⟨[], s, (fun p hp => nomatch hp), ⟨rfl, stb z⟩⟩) h rfl
theorem r_retN {x : ρ} (hD : RtOk R H0 x D) (h : Nw R te G x) : Sv H0 G (tRet te) D := l_retN (b' := x) (fun v H' as s n z => hD v H' ⟨as, s, n, z⟩) h rfl
theorem r_retO {i : Nat} {x : ρ} (hD : RtOk R H0 x D) (hi : G[i]? = some (some (.ow R x))) : Sv H0 G (tRet (tVar i)) D := l_retO (xs' := x) (fun v H' as s n z => hD v H' ⟨as, s, n, z⟩) hi rfl
theorem l_forM {f : S → α → M S} {xs : List α} {s0 s1 : S} (st : S → Cells K) (hm : mfor f s0 xs = .ok s1) (hw : Wk wi r G G' xs) (h0 : Sub G' (st s0))
    (body : ∀ H0', Same H0 H0' → ∀ x s s', f s x = .ok s' → ∃ Gx, Tg g r x (st s) Gx ∧ Sv H0' Gx tb { D with nx := Have H0' (st s'), ct := Have H0' (st s'), bk := D.nx })
    (after : Nx H0 (st s1) D.nx) : Sv H0 G (tFor wi g tb) D :=
  l_forI st (fun pre s => mfor f s0 pre = .ok s) s0 hw h0 rfl (fun H0' e pre x post s hx hI => by
    rw [hx] at hm
    obtain ⟨t, h1, h2⟩ := mfor_app hm
    rw [hI] at h1
    cases h1
    obtain ⟨s', h3, h4⟩ := mb_ok h2
    obtain ⟨Gx, ht, hb⟩ := body H0' e x s s' h3
    refine ⟨Gx, ht, ?_⟩
    have e2 : mfor f s0 (pre ++ [x]) = .ok s' := by
      have app : ∀ (l : List α) (a b : S), mfor f a l = .ok b → mfor f a (l ++ [x]) = mb (f b x) fun c => .ok c := by
        intro l
        induction l with
        | nil => intro a b h; cases h; rfl
        | cons y l ih =>
          intro a b h
          obtain ⟨c, h5, h6⟩ := mb_ok h
          show mb (f a y) _ = _
          rw [mb_of h5]
          exact ih c b h6
      rw [app pre s0 s hI, mb_of h3]
    have key : (fun σ H => ∃ s', mfor f s0 (pre ++ [x]) = .ok s' ∧ Have H0' (st s') σ H) = Have H0' (st s') := by
      funext σ H
      refine propext ⟨fun ⟨s2, h5, h6⟩ => ?_, fun h => ⟨_, e2, h⟩⟩
      rw [e2] at h5
      cases h5
      exact h6
    rw [key]
    exact hb) fun s hs => by rw [hm] at hs; cases hs; exact after
theorem q_forM {f : S → α → M S} {xs : List α} {s0 s1 : S} (st : S → Cells K) (hm : mfor f s0 xs = .ok s1) (hw : Wk wi r G G' xs) (h0 : Sub G' (st s0))
    (body : ∀ H0', Same H0 H0' → ∀ x s s', f s x = .ok s' → ∃ Gx, Tg g r x (st s) Gx ∧ Sv H0' Gx tb { nx := Have H0' (st s'), rt := D.rt, ct := Have H0' (st s'), bk := u D })
    (after : Sv H0 (st s1) u D) : Sv H0 G (tSeq (tFor wi g tb) u) D := l_forM (D := { D with nx := u D }) st hm hw h0 body after
/-- a loop that may return or break -/
theorem l_forF {f : S → α → M (Fl S ρ)} {xs : List α} {s0 : S} {o : Fl S ρ} (st : S → Cells K) (hm : mforF f s0 xs = .ok o) (hw : Wk wi r G G' xs) (h0 : Sub G' (st s0))
    (hn : ∀ s, o = .nx s → Nx H0 (st s) D.nx) (hr : ∀ x, o = .rt x → RtOk R H0 x D)
    (body : ∀ H0' D', Same H0 H0' → ∀ x s o', f s x = .ok o' → OutOk H0' st st R D' o' → ∃ Gx, Tg g r x (st s) Gx ∧ Sv H0' Gx tb D') : Sv H0 G (tFor wi g tb) D :=
  l_forI st (fun pre s => ∀ ys, xs = pre ++ ys → mforF f s ys = .ok o) s0 hw h0 (fun ys e => by rw [e] at hm; exact hm) (fun H0' e pre x post s hx hI => by
    obtain ⟨o1, h1, h2, h3, h4⟩ := mforF_step (hI _ hx)
    exact body H0' _ e x s o1 h1 (match o1, h1, h2, h3, h4 with
      | .nx s', _, h2, _, _ => fun σ H hv => ⟨s', fun ys ey => by
          have : ys = post := by
            have e3 := hx.symm.trans ey
            rw [List.append_assoc] at e3
            have := List.append_cancel_left e3
            cases this
            rfl
          rw [this]
          exact h2 s' rfl, hv⟩
      | .rt x', _, _, h3, _ => (hr x' (h3 x' rfl)).up e
      | .bk s', _, _, _, h4 => (hn s' (h4 s' rfl)).up e)) fun s hs => hn s (by
        have := hs [] (by rw [List.append_nil])
        cases this
        rfl)
theorem q_forF {f : S → α → M (Fl S ρ)} {xs : List α} {s0 : S} {o : Fl S ρ} (st : S → Cells K) (hm : mforF f s0 xs = .ok o) (hw : Wk wi r G G' xs) (h0 : Sub G' (st s0))
    (hn : ∀ s, o = .nx s → Sv H0 (st s) u D) (hr : ∀ x, o = .rt x → RtOk R H0 x D)
    (body : ∀ H0' D', Same H0 H0' → ∀ x s o', f s x = .ok o' → OutOk H0' st st R D' o' → ∃ Gx, Tg g r x (st s) Gx ∧ Sv H0' Gx tb D') : Sv H0 G (tSeq (tFor wi g tb) u) D := l_forF (D := { D with nx := u D }) st hm hw h0 hn hr body
theorem l_whileM {tc : TT} {c : S → M Bool} {f : S → M S} {n : Nat} {s0 s1 : S} (st : S → Cells K) (hm : mwhile c f n s0 = .ok s1) (h0 : Sub G (st s0))
    (test : ∀ s b, c s = .ok b → EvT tc (st s) b)
    (body : ∀ H0', Same H0 H0' → ∀ s s', f s = .ok s' → Sv H0' (st s) tb { D with nx := Have H0' (st s'), ct := Have H0' (st s'), bk := D.nx })
    (after : Nx H0 (st s1) D.nx) : Sv H0 G (tWhile tc tb) D := fun σ H ⟨H1, e1, E⟩ => by
  refine ⟨fun k σ' Hh => ∃ s, mwhile c f k s = .ok s1 ∧ Have H0 (st s) σ' Hh, ⟨n, s0, hm, H1, e1, E.less h0⟩, ?_⟩
  rintro k σ' Hh ⟨s, hI, H2, s2, E2⟩
  cases k with
  | zero => cases hI
  | succ k =>
    obtain ⟨b, hb, hI⟩ := mb_ok hI
    refine test s b hb H2 σ' Hh E2 _ fun H' e' => ?_
    cases b with
    | true =>
      obtain ⟨s', hs, hI⟩ := mb_ok hI
      refine iteT ⟨_, fun σ2 Hh2 hv => ⟨k, Nat.lt_succ_self k, s', hI, hv⟩, body H0 (Same.refl _) s s' hs σ' H' ⟨H2, s2, E2.grow e'⟩⟩
    | false =>
      cases hI
      exact iteF (after σ' H' ⟨H2, s2, E2.grow e'⟩)
theorem q_whileM {tc : TT} {c : S → M Bool} {f : S → M S} {n : Nat} {s0 s1 : S} (st : S → Cells K) (hm : mwhile c f n s0 = .ok s1) (h0 : Sub G (st s0))
    (test : ∀ s b, c s = .ok b → EvT tc (st s) b)
    (body : ∀ H0', Same H0 H0' → ∀ s s', f s = .ok s' → Sv H0' (st s) tb { nx := Have H0' (st s'), rt := D.rt, ct := Have H0' (st s'), bk := u D })
    (after : Sv H0 (st s1) u D) : Sv H0 G (tSeq (tWhile tc tb) u) D := l_whileM (D := { D with nx := u D }) st hm h0 test body after
theorem l_whileF {tc : TT} {c : S → M Bool} {f : S → M (Fl S ρ)} {n : Nat} {s0 : S} {o : Fl S ρ} (st : S → Cells K) (hm : mwhileF c f n s0 = .ok o) (h0 : Sub G (st s0))
    (hn : ∀ s, o = .nx s → Nx H0 (st s) D.nx) (hr : ∀ x, o = .rt x → RtOk R H0 x D)
    (test : ∀ s b, c s = .ok b → EvT tc (st s) b)
    (body : ∀ H0' D', Same H0 H0' → ∀ s o', f s = .ok o' → OutOk H0' st st R D' o' → Sv H0' (st s) tb D') : Sv H0 G (tWhile tc tb) D := fun σ H ⟨H1, e1, E⟩ => by
  refine ⟨fun k σ' Hh => ∃ s, mwhileF c f k s = .ok o ∧ Have H0 (st s) σ' Hh, ⟨n, s0, hm, H1, e1, E.less h0⟩, ?_⟩
  rintro k σ' Hh ⟨s, hI, H2, s2, E2⟩
  cases k with
  | zero => cases hI
  | succ k =>
    obtain ⟨b, hb, hI⟩ := mb_ok hI
    refine test s b hb H2 σ' Hh E2 _ fun H' e' => ?_
    cases b with
    | true =>
      obtain ⟨o1, hs, hI⟩ := mb_ok hI
      refine iteT ⟨fun σ2 Hh2 => ∃ s', mwhileF c f k s' = .ok o ∧ Have H0 (st s') σ2 Hh2, fun σ2 Hh2 ⟨s', hI', hv⟩ => ⟨k, Nat.lt_succ_self k, s', hI', hv⟩, body H0 _ (Same.refl _) s o1 hs ?_ σ' H' ⟨H2, s2, E2.grow e'⟩⟩
      cases o1 with
      | nx s' => exact fun _ _ z => ⟨s', hI, z⟩
      | rt x =>
        cases hI
        exact hr x rfl
      | bk s' =>
        cases hI
        exact hn s' rfl
    | false =>
      cases hI
      exact iteF (hn s rfl σ' H' ⟨H2, s2, E2.grow e'⟩)
theorem q_whileF {tc : TT} {c : S → M Bool} {f : S → M (Fl S ρ)} {n : Nat} {s0 : S} {o : Fl S ρ} (st : S → Cells K) (hm : mwhileF c f n s0 = .ok o) (h0 : Sub G (st s0))
    (hn : ∀ s, o = .nx s → Sv H0 (st s) u D) (hr : ∀ x, o = .rt x → RtOk R H0 x D)
    (test : ∀ s b, c s = .ok b → EvT tc (st s) b)
    (body : ∀ H0' D', Same H0 H0' → ∀ s o', f s = .ok o' → OutOk H0' st st R D' o' → Sv H0' (st s) tb D') : Sv H0 G (tSeq (tWhile tc tb) u) D := l_whileF (D := { D with nx := u D }) st hm h0 hn hr test body
theorem et_andM {m : M Bool} (h1 : EvT tt G a) (h2 : ∀ b, m = .ok b → EvT tu G b) (e : mand a m = .ok c) : EvT (tAnd tt tu) G c := by
  cases a with
  | true => exact (et_and h1 fun _ => h2 c e).eq (Bool.true_and c)
  | false => cases e; exact (et_and (d := false) h1 fun z => nomatch z)
theorem et_orM {m : M Bool} (h1 : EvT tt G a) (h2 : ∀ b, m = .ok b → EvT tu G b) (e : mor a m = .ok c) : EvT (tOr tt tu) G c := by
  cases a with
  | false => exact (et_or h1 fun _ => h2 c e).eq (Bool.false_or c)
  | true => cases e; exact (et_or (d := false) h1 fun z => nomatch z)
theorem ev_ifM {x : α} {m1 m2 : M α} (h : EvT tt G a) (h1 : ∀ y, m1 = .ok y → Ev r ta G y) (h2 : ∀ y, m2 = .ok y → Ev r tb' G y) (e : (bif a then m1 else m2) = .ok x) : Ev r (tIf tt ta tb') G x := by
  cases a with
  | true => exact (ev_if (x := x) h (fun _ => h1 x e) fun z => nomatch z)
  | false => exact (ev_if (a := x) h (fun z => nomatch z) fun _ => h2 x e)
theorem nw_lcM {vs : List Nat} {p : β → M Bool} {f : β → M γ} {q : Rp γ} [F : Frz K q] {r : Rp β} {ys : List β} {zs : List γ} [IN : Inhabited γ] (hw : Wk wi r G G' ys) (hlen : ys.length ≤ 100000)
    (turn : ∀ x, ∃ Gx, Tb g r x vs (wipeG G' vs) Gx ∧ (∀ b, p x = .ok b → EvT tt Gx b) ∧ (∀ y, f x = .ok y → Ev q te Gx y)) (hm : mlc p f ys = .ok zs) :
    Nw (nl K q) (tLc wi g tt te vs) G zs := by
  have each : ∀ pre x post, ys = pre ++ x :: post → ∃ b, p x = .ok b ∧ (b = true → ∃ y, f x = .ok y) := fun pre x post e => by
    rw [e] at hm
    obtain ⟨us, vs', _, h2, _⟩ := mlc_app hm
    obtain ⟨b, hb, h2⟩ := mb_ok h2
    refine ⟨b, hb, fun e => ?_⟩
    subst e
    obtain ⟨y, hy, _⟩ := mb_ok h2
    exact ⟨y, hy⟩
  let P : β → Bool := fun x => match p x with | .ok b => b | .error _ => false
  let Fn : β → γ := fun x => match f x with | .ok y => y | .error _ => default
  have e : (ys.filter P).map Fn = zs := by
    have go : ∀ (l : List β) (us : List γ), mlc p f l = .ok us → (l.filter P).map Fn = us := by
      intro l
      induction l with
      | nil => intro us h; cases h; rfl
      | cons x l ih =>
        intro us h
        obtain ⟨b, hb, h⟩ := mb_ok h
        have eP : P x = b := by show (match p x with | .ok b => b | .error _ => false) = b; rw [hb]
        cases b with
        | false => rw [List.filter_cons, if_neg (by rw [eP]; exact Bool.false_ne_true)]; exact ih us h
        | true =>
          obtain ⟨y, hy, h⟩ := mb_ok h
          obtain ⟨ws, hws, h⟩ := mb_ok h
          cases h
          have eF : Fn x = y := by show (match f x with | .ok y => y | .error _ => default) = y; rw [hy]
          rw [List.filter_cons, if_pos eP, List.map_cons, ih ws hws, eF]
    exact go ys zs hm
  rw [← e]
  refine nw_lc hw hlen fun pre x post hx => ?_
  obtain ⟨Gx, h1, h2, h3⟩ := turn x
  obtain ⟨b, hb, hy⟩ := each pre x post hx
  have eP : P x = b := by show (match p x with | .ok b => b | .error _ => false) = b; rw [hb]
  refine ⟨Gx, h1, by rw [eP]; exact h2 b hb, fun hp => ?_⟩
  rw [eP] at hp
  obtain ⟨y, hy⟩ := hy hp
  have eF : Fn x = y := by show (match f x with | .ok y => y | .error _ => default) = y; rw [hy]
  rw [eF]
  exact h3 y hy
def spM (A : Ra α) (q : Rp β) (m : α → M β) : Sp := fun vs H Q _ => ∃ a b, A H vs a ∧ m a = .ok b ∧ ∀ v H', Same H H' → q H' v b → Q v H'
def spMN (A : Ra α) (R : Rs K β) (m : α → M β) : Sp := fun vs H Q _ => ∃ a b, A H vs a ∧ m a = .ok b ∧ ∀ v H' as, Same H H' → (∀ p, p ∈ as → H p = none) → R.rep H' v b as → Q v H'
def MOk {α β : Type} (m : α → M β) (g : α) (b : β) : Prop := m g = .ok b
theorem a_callM {A : Ra γ} {g : γ} {m : γ → M β} {b : β} {E' : XK} {t : TA} (h : EvA A t G g) (e : MOk m g b) : Ev q (tCall (spM A q m) [] E' t) G b := fun H0 σ H E Q k =>
  h H0 σ H E _ fun vs H1 e1 z1 => by
    rw [List.append_nil]
    exact ⟨g, b, z1, e, fun v H2 e2 z2 => k v H2 (e1.trans e2) z2⟩
theorem a_ncallM {A : Ra γ} {g : γ} {m : γ → M ρ} {b : ρ} {E' : XK} {t : TA} (h : EvA A t G g) (e : MOk m g b) : Nw R (tCall (spMN A R m) [] E' t) G b := fun H0 σ H E Q k =>
  h H0 σ H E _ fun vs H1 e1 z1 => by
    rw [List.append_nil]
    exact ⟨g, b, z1, e, fun v H2 as e2 hn z2 => k v H2 as (e1.trans e2) (fun p hp => free_back e1 (hn p hp)) z2⟩
end
end Gt
namespace Gt
open PySem PySem.Spec PyProof.Rows L2
instance {i j : Int} : Decidable (CMul i j) := by unfold CMul; infer_instance
instance {i j : Int} : Decidable (CDiv i j) := by unfold CDiv; infer_instance
instance : Inhabited Str := ⟨Str.empty⟩
def Fl.go {σ ρ β : Type} (o : Fl σ ρ) (kn : σ → M β) (kr : ρ → M β) (kb : σ → M β) : M β := match o with
  | .nx s => kn s
  | .rt r => kr r
  | .bk s => kb s
theorem go_nx {σ ρ β : Type} {s : σ} {kn : σ → M β} {kr : ρ → M β} {kb : σ → M β} {x : M β} (h : Fl.go (.nx s) kn kr kb = x) : kn s = x := h
theorem go_rt {σ ρ β : Type} {s : ρ} {kn : σ → M β} {kr : ρ → M β} {kb : σ → M β} {x : M β} (h : Fl.go (.rt s) kn kr kb = x) : kr s = x := h
/-- the code of a text of one sign -/
def sgn (s : Str) : Option Nat := match s.cps.toList with
  | [c] => some c
  | _ => none
theorem sgn_eq {s : Str} {c : Nat} (h : sgn s = some c) : s = ⟨#[c]⟩ := by
  unfold sgn at h
  obtain ⟨⟨l⟩⟩ := s
  match l, h with
  | [d], h => cases h; rfl
section
variable {K : PySem.W.Frag} {H0 H1 H H' : Hp} {σ : L2.St} {G G' G2 Gx : Cells K} {α β γ S T ρ : Type}
variable {D : Ends} {t u tb : TS} {te ta tb' : TE} {r : Rp α} {q : Rp β} {R : Rs K ρ} {a b c d : Bool}
theorem Sv.cont (k : Sv H0 G u D) : Nx H0 G (u D) := k
theorem RtR.none {H0 : Hp} (h : Have H0 G σ H) : RtR (fz K rN) H0 () .non H := let ⟨_, e, E⟩ := h; ⟨[], e.trans E.old, (fun p hp => nomatch hp), ⟨rfl, fun _ _ => rfl⟩⟩
abbrev rInSg : R2 := fun x y H Q => ∃ (c : Nat) (z : Str), x = .str ⟨#[c]⟩ ∧ y = .str z ∧ Q (.bl (decide (c ∈ z.cps.toList))) H
abbrev rNinSg : R2 := fun x y H Q => ∃ (c : Nat) (z : Str), x = .str ⟨#[c]⟩ ∧ y = .str z ∧ Q (.bl (!decide (c ∈ z.cps.toList))) H
def SgOk (s : Str) (c : Nat) : Prop := sgn s = some c
theorem a_inSg {s t : Str} {z : Nat} (h : Ev rS ta G t) (e : SgOk t z) (h' : Ev rS tb' G s) : Ev rB (tOp rInSg ta tb') G (decide (z ∈ s.cps.toList)) := ev_inSign h (sgn_eq e) h'
theorem a_ninSg {s t : Str} {z : Nat} (h : Ev rS ta G t) (e : SgOk t z) (h' : Ev rS tb' G s) : Ev rB (tOp rNinSg ta tb') G (!decide (z ∈ s.cps.toList)) := ev_ninSign h (sgn_eq e) h'
/-- x op y by an own method with a mirror -/
theorem a_cmpOM {C : Addr} {names : List Str} {r : Rp α} {r' : Rp β} {q : Rp γ} {x : α} {y : β} {z : γ} {m : α × β × Unit → M γ} {E : XK} (h : Ev r ta G x) (h' : Ev r' tb' G y) (M : Mono r) (I : InsR K C r names) (I' : InsR K C r' names) (e : MOk m (x, y, ()) z) :
    Ev q (tOp (rOwnOp C (spM (aC r (aC r' aN)) q m) E) ta tb') G z := ev_op h h' fun H u v hu hv Q k => by
  obtain ⟨a, dx, fs, ea, ha, _⟩ := I.ins hu
  obtain ⟨b, dy, gs, eb, hb, _⟩ := I'.ins hv
  exact ⟨a, dx, fs, b, dy, gs, ea, eb, ha, hb, (x, y, ()), z, ⟨u, _, rfl, hu, v, _, rfl, hv, rfl⟩, e, fun w H' e' hw => k w H' e' hw⟩
theorem nw_binOM {C : Addr} {names : List Str} {R : Rs K ρ} {r : Rp α} {r' : Rp β} {x : α} {y : β} {z : ρ} {m : α × β × Unit → M ρ} {E : XK} (h : Ev r ta G x) (h' : Ev r' tb' G y) (M : Mono r) (I : InsR K C r names) (I' : InsR K C r' names) (e : MOk m (x, y, ()) z) :
    Nw R (tOp (rOwnOp C (spMN (aC r (aC r' aN)) R m) E) ta tb') G z := nw_op h h' fun H u v hu hv Q k => by
  obtain ⟨a, dx, fs, ea, ha, _⟩ := I.ins hu
  obtain ⟨b, dy, gs, eb, hb, _⟩ := I'.ins hv
  exact ⟨a, dx, fs, b, dy, gs, ea, eb, ha, hb, (x, y, ()), z, ⟨u, _, rfl, hu, v, _, rfl, hv, rfl⟩, e, fun w H' as e' hn hw => k w H' as e' hn hw⟩
theorem a_mthM {C : Addr} {names : List Str} {mt : Str} {r : Rp α} {q : Rp γ} {x : α} {z : γ} {A : Ra β} {b : β} {m : α × β → M γ} {E : XK} {t : TA} (h : Ev r ta G x) (M : Mono r) (I : InsR K C r names) (hn : mt ∉ names) (hA : EvA A t G b) (e : MOk m (x, b) z) :
    Ev q (tMeth C mt (spM (aC r A) q m) [] E ta t) G z := fun H0 σ H E1 Q k => h H0 σ H E1 _ fun v H1 e1 hv => by
  obtain ⟨a, dx, fs, ea, ha, hm⟩ := I.ins hv
  refine ⟨a, dx, fs, ea, ha, lookup_no hm hn, hA H0 σ H1 (E1.grow e1) _ fun vs H2 e2 hvs => ?_⟩
  exact ⟨(x, b), z, ⟨v, vs, by rw [List.append_nil], M.up e2 hv, hvs⟩, e, fun w H' e' hw => k w H' ((e1.trans e2).trans e') hw⟩
theorem nw_mthM {C : Addr} {names : List Str} {mt : Str} {R : Rs K ρ} {r : Rp α} {x : α} {z : ρ} {A : Ra β} {b : β} {m : α × β → M ρ} {E : XK} {t : TA} (h : Ev r ta G x) (M : Mono r) (I : InsR K C r names) (hn : mt ∉ names) (hA : EvA A t G b) (e : MOk m (x, b) z) :
    Nw R (tMeth C mt (spMN (aC r A) R m) [] E ta t) G z := fun H0 σ H E1 Q k => h H0 σ H E1 _ fun v H1 e1 hv => by
  obtain ⟨a, dx, fs, ea, ha, hm⟩ := I.ins hv
  refine ⟨a, dx, fs, ea, ha, lookup_no hm hn, hA H0 σ H1 (E1.grow e1) _ fun vs H2 e2 hvs => ?_⟩
  exact ⟨(x, b), z, ⟨v, vs, by rw [List.append_nil], M.up e2 hv, hvs⟩, e, fun w H' as e' hf hw => k w H' as ((e1.trans e2).trans e') (fun p hp => free_back (e1.trans e2) (hf p hp)) hw⟩
/-- what making an instance promises, by a mirror -/
def spOneM (K : PySem.W.Frag) (C : Addr) (f : Str) {β : Type} (r : Rp β) {α : Type} (A : Ra α) (m : α → M (List β)) : Sp := fun vs H Q _ => ∃ p dx ws a b, vs = .ref p :: ws ∧ H p = some (.ins C dx []) ∧ A H ws a ∧ m a = .ok b ∧
  ∀ l us H', (∀ c o, c ≠ p → H c = some o → H' c = some o) → H l = none → H' p = some (.ins C dx [(f, .ref l)]) → H' l = some (.lst us) → A2 (Stb K r H') us b → b.length ≤ 100000 → Q .non H'
theorem nw_mkOM {C : Addr} {f : Str} {r : Rp β} {A : Ra α} {a : α} {m : α → M (List β)} {xs : List β} {E : XK} {t : TA} (hA : EvA A t G a) (M : MonoA A) (e : MOk m a xs) : Nw (nOne K C f r) (tMake C (spOneM K C f r A m) [] E t) G xs := fun H0 σ H E1 Q k =>
  hA H0 σ H E1 _ fun ws H1 e1 hws x dx hx hdx hne => by
    have s1 : Same H1 (upd (upd H1 dx (.own x)) x (.ins C dx [])) := fun b o hb => by rw [upd_ne (ne_of_none hb hx), upd_ne (ne_of_none hb hdx)]; exact hb
    refine ⟨x, dx, ws, a, xs, by rw [List.append_nil], upd_same, M.up s1 hws, e, fun l us H' keep hl h1 h2 z hz => ⟨rfl, ?_⟩⟩
    have hlx : x ≠ l := fun q => by rw [← q, upd_same] at hl; cases hl
    have hl1 : H1 l = none := s1.free hl
    refine k _ H' [x, l] (e1.trans fun b o hb => keep b o (ne_of_none hb hx) (s1 _ _ hb)) (fun b hb => ?_) ⟨⟨x, dx, l, us, rfl, rfl, hlx, h1, h2, z⟩, hz⟩
    rcases List.mem_cons.mp hb with q | q
    · rw [q]; exact free_back e1 hx
    · cases List.mem_singleton.mp q
      exact free_back e1 hl1
end
end Gt
namespace Gt
open PySem PySem.Spec PyProof.Rows L2
/-- m answers, and so -/
def Tt {α : Type} (m : M α) (P : α → Prop) : Prop := match m with
  | .ok a => P a
  | .error _ => False
section
variable {α β γ σ ρ : Type} {m : M α} {f : α → M β} {P P' : α → Prop} {Q : β → Prop} {a : α} {c : Bool} {o : Option α}
theorem Tt.ok (h : Tt m P) : ∃ a, m = .ok a ∧ P a := by
  cases m with
  | ok a => exact ⟨a, rfl, h⟩
  | error _ => exact h.elim
theorem Tt.eq (h : Tt m fun x => x = a) : m = .ok a := let ⟨_, e, h⟩ := h.ok; by rw [e, h]
theorem Tt.of (h : m = .ok a) (p : P a) : Tt m P := by rw [h]; exact p
theorem Tt.imp (h : Tt m P) (g : ∀ a, P a → P' a) : Tt m P' := let ⟨a, e, h⟩ := h.ok; .of e (g a h)
theorem Tt.bind (h : Tt m P) (g : ∀ a, P a → Tt (f a) Q) : Tt (mb m f) Q := by
  obtain ⟨a, e, h⟩ := h.ok
  rw [mb_of e]
  exact g a h
/-- by what is known of m -/
theorem Tt.by (h : m = .ok a) (g : Tt (f a) Q) : Tt (mb m f) Q := by rw [mb_of h]; exact g
theorem Tt.ret (h : P a) : Tt (.ok a) P := h
theorem Tt.let (g : Tt (f a) Q) : Tt (mb (.ok a) f) Q := g
theorem Tt.chk {f : Unit → M β} {p : Prop} [Decidable p] (h : p) (g : Tt (f ()) Q) : Tt (mb (chk (decide p)) f) Q := by rw [mb_of (chk_of (decide_eq_true h))]; exact g
theorem Tt.oM (h : o = some a) (g : Tt (f a) Q) : Tt (mb (oM o) f) Q := by rw [mb_of (oM_of h)]; exact g
theorem Tt.if {m' : M α} (h : c = true → Tt m P) (h' : c = false → Tt m' P) : Tt (bif c then m else m') P := by
  cases c with
  | true => exact h rfl
  | false => exact h' rfl
theorem Tt.mand {a : Bool} {m : M Bool} {b : Bool} (h : a = true → m = .ok b) : Gt.mand a m = .ok (a && b) := by
  cases a with
  | true => exact h rfl
  | false => rfl
theorem Tt.mor {a : Bool} {m : M Bool} {b : Bool} (h : a = false → m = .ok b) : Gt.mor a m = .ok (a || b) := by
  cases a with
  | false => exact h rfl
  | true => rfl
/-- a loop by an invariant of what was walked -/
theorem Tt.for {f : σ → α → M σ} {xs : List α} {s0 : σ} (I : List α → σ → Prop) (h0 : I [] s0) (h : ∀ pre x post s, xs = pre ++ x :: post → I pre s → Tt (f s x) (I (pre ++ [x]))) : Tt (mfor f s0 xs) (I xs) := by
  have go : ∀ (post pre : List α) (s : σ), xs = pre ++ post → I pre s → Tt (mfor f s post) (I xs) := by
    intro post
    induction post with
    | nil => intro pre s e hI; rw [e, List.append_nil]; exact hI
    | cons x post ih =>
      intro pre s e hI
      exact (h pre x post s e hI).bind fun s' h' => ih (pre ++ [x]) s' (by rw [e, List.append_assoc]; rfl) h'
  exact go xs [] s0 rfl h0
theorem Tt.forF {f : σ → α → M (Fl σ ρ)} {xs : List α} {s0 : σ} {R : Fl σ ρ → Prop} (I : List α → σ → Prop) (h0 : I [] s0) (he : ∀ s, I xs s → R (.nx s))
    (h : ∀ pre x post s, xs = pre ++ x :: post → I pre s → Tt (f s x) fun o => match o with | .nx s' => I (pre ++ [x]) s' | .rt r => R (.rt r) | .bk s' => R (.nx s')) : Tt (mforF f s0 xs) R := by
  have go : ∀ (post pre : List α) (s : σ), xs = pre ++ post → I pre s → Tt (mforF f s post) R := by
    intro post
    induction post with
    | nil => intro pre s e hI; rw [List.append_nil] at e; exact he s (e ▸ hI)
    | cons x post ih =>
      intro pre s e hI
      refine (h pre x post s e hI).bind fun o h' => ?_
      cases o with
      | nx s' => exact ih (pre ++ [x]) s' (by rw [e, List.append_assoc]; rfl) h'
      | rt r => exact h'
      | bk s' => exact h'
  exact go xs [] s0 rfl h0
/-- a loop that only looks whether all are so, and returns r where one is not -/
theorem mforF_all {f : Unit → α → M (Fl Unit ρ)} {p : α → Bool} {r : ρ} : ∀ {xs : List α}, (∀ x ∈ xs, f () x = .ok (bif p x then .nx () else .rt r)) → mforF f () xs = .ok (bif xs.all p then .nx () else .rt r)
  | [], _ => rfl
  | x :: xs, h => by
    have h1 := h x (List.mem_cons_self ..)
    have ih := mforF_all (xs := xs) fun y hy => h y (List.mem_cons_of_mem _ hy)
    unfold mforF
    rw [mb_of h1, List.all_cons]
    cases p x with
    | true => exact ih
    | false => rfl
theorem mlc_eq {p : α → M Bool} {f : α → M β} {p' : α → Bool} {f' : α → β} : ∀ {xs : List α}, (∀ x ∈ xs, p x = .ok (p' x)) → (∀ x ∈ xs, p' x = true → f x = .ok (f' x)) → mlc p f xs = .ok ((xs.filter p').map f')
  | [], _, _ => rfl
  | x :: xs, h, h' => by
    have ih := mlc_eq (xs := xs) (fun y hy => h y (List.mem_cons_of_mem _ hy)) (fun y hy => h' y (List.mem_cons_of_mem _ hy))
    unfold mlc
    rw [mb_of (h x (List.mem_cons_self ..)), List.filter_cons]
    cases e : p' x with
    | true => rw [cond_true, mb_of (h' x (List.mem_cons_self ..) e), mb_of ih, if_pos rfl, List.map_cons]
    | false => rw [cond_false, ih, if_neg Bool.false_ne_true]
theorem mlc_map {f : α → M β} {f' : α → β} {xs : List α} (h : ∀ x ∈ xs, f x = .ok (f' x)) : mlc (fun _ => .ok true) f xs = .ok (xs.map f') := by
  have := mlc_eq (p := fun _ => .ok true) (p' := fun _ => true) (f := f) (f' := f') (xs := xs) (fun _ _ => rfl) fun x hx _ => h x hx
  rw [List.filter_eq_self.mpr fun _ _ => rfl] at this
  exact this
/-- a comprehension of which only some property of the items is told -/
theorem Tt.lc {f : α → M β} {xs : List α} {P : β → Prop} (h : ∀ x ∈ xs, Tt (f x) P) : Tt (mlc (fun _ => .ok true) f xs) fun ys => ys.length = xs.length ∧ ∀ y ∈ ys, P y := by
  induction xs with
  | nil => exact ⟨rfl, fun _ h => nomatch h⟩
  | cons x xs ih =>
    unfold mlc
    refine Tt.let ?_
    show Tt (mb (f x) _) _
    refine (h x (List.mem_cons_self ..)).bind fun y hy => (ih fun z hz => h z (List.mem_cons_of_mem _ hz)).bind fun ys hys => Tt.ret ⟨by rw [List.length_cons, hys.1, List.length_cons], fun z hz => ?_⟩
    rcases List.mem_cons.mp hz with e | e
    · rw [e]; exact hy
    · exact hys.2 z e
theorem atI_in {xs : List α} {i : Int} (h0 : 0 ≤ i) (h1 : i < xs.length) : ∃ x, atI xs i = some x ∧ xs[i.toNat]? = some x ∧ x ∈ xs := by
  have hl : i.toNat < xs.length := by omega
  exact ⟨xs[i.toNat], atI_pos h0 (List.getElem?_eq_getElem hl), List.getElem?_eq_getElem hl, List.getElem_mem hl⟩
theorem Tt.ix {xs : List α} {i : Int} {f : α → M β} (h0 : 0 ≤ i) (h1 : i < xs.length) (g : ∀ x, x ∈ xs → xs[i.toNat]? = some x → Tt (f x) Q) : Tt (mb (Gt.oM (atI xs i)) f) Q := by
  obtain ⟨x, e, e2, hx⟩ := atI_in h0 h1
  exact Tt.oM e (g x hx e2)
theorem Tt.ixN {n : Nat} {i : Int} {f : Nat → M β} (h0 : 0 ≤ i) (h1 : i < n) (g : Tt (f i.toNat) Q) : Tt (mb (Gt.oM (L2.ixN n i)) f) Q := by
  refine Tt.oM ?_ g
  unfold L2.ixN
  rw [if_pos h0, if_pos h1]
theorem cut_mem {xs : List α} {lo hi : Option Int} {x : α} (h : x ∈ cut xs lo hi) : x ∈ xs := by
  unfold cut at h
  exact List.mem_of_mem_drop (List.mem_of_mem_take h)
theorem cut_le (xs : List α) (lo hi : Option Int) : (cut xs lo hi).length ≤ xs.length := by
  unfold cut
  rw [List.length_take, List.length_drop]
  omega
theorem sIx_in {n d : Nat} {i : Int} (h0 : 0 ≤ i) (h1 : i ≤ n) : HT.sIx n d (some i) = i.toNat := by
  obtain ⟨k, rfl⟩ := Int.eq_ofNat_of_zero_le h0
  rw [HT.sIx_nat]
  show min k n = k
  omega
theorem cut_in {xs : List α} {lo hi : Int} (h0 : 0 ≤ lo) (h1 : lo ≤ hi) (h2 : hi ≤ xs.length) : cut xs (some lo) (some hi) = (xs.drop lo.toNat).take (hi - lo).toNat := by
  unfold cut
  rw [sIx_in h0 (by omega), sIx_in (by omega) h2]
  congr 1
  omega
theorem cut_len_in {xs : List α} {lo hi : Int} (h0 : 0 ≤ lo) (h1 : lo ≤ hi) (h2 : hi ≤ xs.length) : (cut xs (some lo) (some hi)).length = (hi - lo).toNat := by
  rw [cut_in h0 h1 h2, List.length_take, List.length_drop]
  omega
theorem ups_mem {n : Nat} {i : Int} (h : i ∈ ups n) : 0 ≤ i ∧ i < n := by
  unfold ups at h
  obtain ⟨j, hj, e⟩ := List.mem_map.mp h
  have := List.mem_range.mp hj
  omega
end
end Gt
namespace Gt
open PySem PySem.Spec PyProof.Rows L2 PySem.HandSPX
/-- the same, but what it raises does not matter -/
def calm {α : Type} (m : M α) : M α := match m with
  | .ok a => .ok a
  | .error _ => .error .stuck
def NStk {α : Type} (o : M α) : Prop := o ≠ .error .stuck
section
variable {K : PySem.W.Frag} {H0 H1 H H' : Hp} {σ : L2.St} {G G' G2 Gx : Cells K} {α β γ S T ρ : Type}
variable {D : Ends} {t u tb : TS} {wi : TI} {g : TG} {te ta tb' : TE} {tt tu : TT} {r : Rp α} {q : Rp β} {R : Rs K ρ} {a b c d : Bool}
def rPay (K : PySem.W.Frag) : Rp Pay := fun H v p => match p with
  | .s o => rO rS H v o
  | .i n => rI H v n
  | .r x => rRu K H v x
instance : Frz K (rPay K) := ⟨fun {H H' v b} e h => match b, h with
  | .s o, h => Frz.up (K := K) (r := rO rS) e h
  | .i n, h => Frz.up (K := K) (r := rI) e h
  | .r x, h => Frz.up (K := K) (r := rRu K) e h⟩
instance : Mono (rPay K) := ⟨fun e h => Frz.up (K := K) (ext_same e) h⟩
abbrev Fv (K : PySem.W.Frag) (H : Hp) (x : Str × V) (y : Str × Pay) : Prop := x.1 = y.1 ∧ rPay K H x.2 y.2
/-- at d: the own dict of an exception with these fields -/
def XR (K : PySem.W.Frag) (H : Hp) (d : Addr) (fs : List (Str × Pay)) : Prop := ∃ vs, H d = some (.xd vs) ∧ A2 (Fv K H) vs fs
theorem XR.up {d : Addr} {fs : List (Str × Pay)} (h : XR K H d fs) (e : Same H H') : XR K H' d fs := let ⟨vs, h1, h2⟩ := h; ⟨vs, e _ _ h1, h2.imp fun _ _ z => ⟨z.1, Mono.up e z.2⟩⟩
theorem xr_get {fs : List (Str × Pay)} {vs : List (Str × V)} {f : Str} {p : Pay} (z : A2 (Fv K H) vs fs) (h : fs.lookup f = some p) : ∃ v, vs.lookup f = some v ∧ rPay K H v p := by
  induction z with
  | nil => cases h
  | @cons a b as bs h1 h2 ih =>
    obtain ⟨a1, a2⟩ := a
    obtain ⟨b1, b2⟩ := b
    obtain ⟨e1, e2⟩ := h1
    have e1 : a1 = b1 := e1
    subst e1
    rw [List.lookup_cons] at h ⊢
    cases q : f == a1 with
    | true =>
      rw [q] at h
      cases h
      exact ⟨a2, rfl, e2⟩
    | false =>
      rw [q] at h
      exact ih h
/-- what is wished of an exception that leaves -/
def XOk (K : PySem.W.Frag) (H0 : Hp) (E : XK) : Er → Prop
  | .stuck => False
  | .ex x fs => ∀ d H', Same H0 H' → H0 d = none → XR K H' d fs → E (.ref (cA K x)) (some d) H'
theorem XOk.up {E : XK} {e : Er} (h : XOk K H0 E e) (s : Same H0 H1) : XOk K H1 E e := match e, h with
  | .ex _ _, h => fun d H' s' n z => h d H' (s.trans s') (s.free n) z
theorem nstk_of {o : M α} {E : XK} (h : ∀ e, o = .error e → XOk K H0 E e) : NStk o := fun e => h _ e
/-- a def that may raise -/
def spX (A : Ra α) (q : Rp β) (m : α → M β) : Sp := fun vs H Q E => ∃ a, A H vs a ∧ NStk (m a) ∧ (∀ b, m a = .ok b → ∀ v H', Same H H' → q H' v b → Q v H') ∧
  ∀ x fs, m a = .error (.ex x fs) → ∀ d H', Same H H' → H d = none → XR K H' d fs → E (.ref (cA K x)) (some d) H'
def spXN (A : Ra α) (R : Rs K β) (m : α → M β) : Sp := fun vs H Q E => ∃ a, A H vs a ∧ NStk (m a) ∧ (∀ b, m a = .ok b → ∀ v H' as, Same H H' → (∀ p, p ∈ as → H p = none) → R.rep H' v b as → Q v H') ∧
  ∀ x fs, m a = .error (.ex x fs) → ∀ d H', Same H H' → H d = none → XR K H' d fs → E (.ref (cA K x)) (some d) H'
theorem nstk_ok {m : M α} {a : α} (h : m = .ok a) : NStk m := fun z => by rw [h] at z; cases z
theorem a_callX {A : Ra γ} {g : γ} {m : γ → M β} {b : β} {E' : XK} {t : TA} (h : EvA A t G g) (e : MOk m g b) : Ev q (tCall (spX (K := K) A q m) [] E' t) G b := fun H0 σ H E Q k =>
  h H0 σ H E _ fun vs H1 e1 z1 => by
    rw [List.append_nil]
    exact ⟨g, z1, nstk_ok e, fun c hc v H2 e2 z2 => k v H2 (e1.trans e2) (by rw [show m g = .ok b from e] at hc; cases hc; exact z2), fun x fs z => by rw [show m g = .ok b from e] at z; cases z⟩
/-- the caught exception, at a, its own dict d -/
def rExc (K : PySem.W.Frag) (a d : Addr) : Rp (List (Str × Pay)) := fun H v fs => v = .ref a ∧ XR K H d fs
instance {a d : Addr} : Mono (rExc K a d) := ⟨fun e h => ⟨h.1, h.2.up e⟩⟩
theorem Env.setro {i : Nat} {v : V} {b : β} {r : Rp β} [m : Mono r] (E : Env H1 σ H G) (h : r H1 v b) : Env H1 (σ.set i (some v)) H (G.set i (rc r b)) := by
  obtain ⟨own, h1, h2, h3⟩ := E.at_
  refine ⟨E.old, by rw [List.length_set, List.length_set]; exact E.len, fun j => if j = i then [] else own j, fun j p hp => ?_, fun j k p hj hk => ?_, fun j c hc => ?_⟩
  · by_cases hj : j = i
    · simp only [hj, if_true] at hp; cases hp
    · simp only [hj, if_false] at hp; exact h1 j p hp
  · by_cases hji : j = i
    · simp only [hji, if_true] at hj; cases hj
    · by_cases hki : k = i
      · simp only [hki, if_true] at hk; cases hk
      · simp only [hji, hki, if_false] at hj hk; exact h2 j k p hj hk
  · by_cases hj : i = j
    · subst hj
      have hl : i < G.length := by have := (List.getElem?_eq_some_iff.mp hc).1; rw [List.length_set] at this; exact this
      rw [List.getElem?_set_self hl] at hc
      cases hc
      exact ⟨v, List.getElem?_set_self (by rw [E.len]; exact hl), by simp, h⟩
    · rw [List.getElem?_set_ne hj] at hc
      obtain ⟨w, hw, hk⟩ := h3 j c hc
      refine ⟨w, by rw [List.getElem?_set_ne hj]; exact hw, ?_⟩
      have : ¬ j = i := fun e => hj e.symm
      simp only [this, if_false]
      exact hk
/-- e.f -/
def payS (fs : List (Str × Pay)) (f : Str) : Option Str := match fs.lookup f with
  | some (.s (some s)) => some s
  | _ => none
def payO (fs : List (Str × Pay)) (f : Str) : Option (Option Str) := match fs.lookup f with
  | some (.s s) => some s
  | _ => none
def payI (fs : List (Str × Pay)) (f : Str) : Option Int := match fs.lookup f with
  | some (.i n) => some n
  | _ => none
theorem a_xf {i : Nat} {a d C : Addr} {m : Mono (rExc K a d)} {fs : List (Str × Pay)} {f : Str} {p : Pay} (h : G[i]? = some (some (.ro (rExc K a d) m fs))) (hf : fs.lookup f = some p) : Ev (rPay K) (tXf a (.ref C) (some d) C f (tVar i)) G p := fun H0 σ H E Q k => by
  obtain ⟨own, _, _, h3⟩ := E.at_
  obtain ⟨v, hv, _, ev, vs, hd, z⟩ := h3 i _ h
  subst ev
  obtain ⟨w, hw, hp⟩ := xr_get z hf
  exact ⟨_, hv, rfl, rfl, d, vs, w, rfl, E.old _ _ hd, hw, k w H (Same.refl H) (Mono.up E.old hp)⟩
def PayS (fs : List (Str × Pay)) (f : Str) (s : Str) : Prop := payS fs f = some s
def PayO (fs : List (Str × Pay)) (f : Str) (s : Option Str) : Prop := payO fs f = some s
def PayI (fs : List (Str × Pay)) (f : Str) (s : Int) : Prop := payI fs f = some s
theorem a_xfS {i : Nat} {a d C : Addr} {m : Mono (rExc K a d)} {fs : List (Str × Pay)} {f s : Str} (h : G[i]? = some (some (.ro (rExc K a d) m fs))) (hf : PayS fs f s) : Ev rS (tXf a (.ref C) (some d) C f (tVar i)) G s := by
  unfold PayS payS at hf
  split at hf
  · rename_i t e
    cases hf
    exact (a_xf h e).imp fun _ _ z => z
  · cases hf
theorem a_xfO {i : Nat} {a d C : Addr} {m : Mono (rExc K a d)} {fs : List (Str × Pay)} {f : Str} {s : Option Str} (h : G[i]? = some (some (.ro (rExc K a d) m fs))) (hf : PayO fs f s) : Ev (rO rS) (tXf a (.ref C) (some d) C f (tVar i)) G s := by
  unfold PayO payO at hf
  split at hf
  · rename_i t e
    cases hf
    exact (a_xf h e).imp fun _ _ z => z
  · cases hf
theorem a_xfI {i : Nat} {a d C : Addr} {m : Mono (rExc K a d)} {fs : List (Str × Pay)} {f : Str} {s : Int} (h : G[i]? = some (some (.ro (rExc K a d) m fs))) (hf : PayI fs f s) : Ev rI (tXf a (.ref C) (some d) C f (tVar i)) G s := by
  unfold PayI payI at hf
  split at hf
  · rename_i t e
    cases hf
    exact (a_xf h e).imp fun _ _ z => z
  · cases hf
end
end Gt
namespace PySem.W
open PySem PySem.Spec PySem.Calls PyProof.Rows
end PySem.W
namespace Gt
open PySem PySem.Spec PyProof.Rows L2 PySem.HandSPX
/-- isinstance of an exception of the class x asks the class value cv (v): b -/
structure IsX (K : PySem.W.Frag) (x : Str) (v : V) (b : Bool) : Prop where
  c : ExcC K (cA K x)
  k : ∃ cv, (∀ u, RelV v u → u = cv) ∧ PySem.W.kitOne K (.ref (cA K x)) cv = some b
def rIsX (K : PySem.W.Frag) (a : Addr) (cls : Value) (d : Option Addr) : List V → Hp → VK → Prop := fun xs H Q => ∃ (x : Str) (v : V) (b : Bool) (dd : Addr) (fs : List (Str × V)), cls = .ref (cA K x) ∧ xs = [.ref a, v] ∧ IsX K x v b ∧ d = some dd ∧ H dd = some (.xd fs) ∧ Q (.bl b) H
section
variable {K : PySem.W.Frag} {H0 H1 H H' : Hp} {σ : L2.St} {G G' G2 Gx : Cells K} {α β γ S T ρ : Type}
variable {D : Ends} {t u tb : TS} {te ta tc : TE} {r : Rp α} {q : Rp β} {R : Rs K ρ} {b : Bool}
theorem a_isX {i : Nat} {a d : Addr} {m : Mono (rExc K a d)} {fs : List (Str × Pay)} {x : Str} {v : V} (h : G[i]? = some (some (.ro (rExc K a d) m fs))) (I : IsX K x v b) : Ev rB (tCB (rIsX K a (.ref (cA K x)) (some d)) (tCons (tVar i) (tCons (tC v) tNil))) G b := fun H0 σ H E Q k => by
  obtain ⟨own, _, _, h3⟩ := E.at_
  obtain ⟨w, hw, _, ev, vs, hd, z⟩ := h3 i _ h
  subst ev
  exact ⟨_, hw, x, v, b, d, vs, rfl, rfl, I, rfl, E.old _ _ hd, k _ H (Same.refl H) rfl⟩
end
end Gt
namespace Gt
open PySem PySem.Spec PyProof.Rows L2
/-- the instance at a -/
def rOneA (K : PySem.W.Frag) (C : Addr) (f : Str) {β : Type} (r : Rp β) (p : Addr) : Rp (List β) := fun H v xs => v = .ref p ∧ rOne K C f r H v xs
instance {K : PySem.W.Frag} {C p : Addr} {f : Str} {β : Type} {r : Rp β} [M : Mono r] : Mono (rOneA K C f r p) := ⟨fun e h => ⟨h.1, Mono.up e h.2⟩⟩
def nOneA (K : PySem.W.Frag) (C : Addr) (f : Str) {β : Type} (r : Rp β) (p : Addr) : Rs K (List β) where
  rep := fun H v xs as => v = .ref p ∧ (nOne K C f r).rep H v xs as
  stay := fun h x k => ⟨h.1, (nOne K C f r).stay h.2 x k⟩
  there := fun h p hp => (nOne K C f r).there h.2 p hp
section
variable {K : PySem.W.Frag} {H0 H1 H H' : Hp} {σ : L2.St} {G G' G2 Gx : Cells K} {α β γ S T ρ : Type}
variable {D : Ends} {t u tb : TS} {te ta ti tc : TE} {r : Rp β} {C p : Addr} {f : Str} {xs b : List β}
theorem a_roA {i : Nat} {M : Mono (rOneA K C f r p)} (h : G[i]? = some (some (.ro (rOneA K C f r p) M xs))) : Ev (rOne K C f r) (tVar i) G xs := (a_ro h).imp fun _ _ z => z.2
theorem a_oneA {i : Nat} (h : G[i]? = some (some (.ow (nOneA K C f r p) xs))) : Ev (rOne K C f r) (tVar i) G xs := fun H0 σ H E Q k => by
  obtain ⟨own, _, _, h3⟩ := E.at_
  obtain ⟨v, hv, _, ⟨a, dx, l, vs, _, ev, _, h1, h2, z⟩, hz⟩ := h3 i _ h
  exact ⟨v, hv, k v H (Same.refl H) ⟨⟨a, dx, l, vs, ev, h1, h2, nows z⟩, hz⟩⟩
/-- a new one where one is read -/
theorem a_no (h : Nw (nOne K C f r) te G xs) : Ev (rOne K C f r) te G xs := fun H0 σ H E Q k => h H0 σ H E Q fun v H' as e hn ⟨⟨a, dx, l, vs, _, ev, _, h1, h2, z⟩, hz⟩ => k v H' e ⟨⟨a, dx, l, vs, ev, h1, h2, nows z⟩, hz⟩
theorem a_nd {q : Rp α} {xs : List (Str × α)} (h : Nw (nd K q) te G xs) : Ev (rD q) te G xs := fun H0 σ H E Q k => h H0 σ H E Q fun v H' as e hn ⟨p, kvs, _, ev, hp, z⟩ => k v H' e ⟨p, kvs, ev, .inl hp, z.imp fun _ _ w => ⟨w.1, w.2.now⟩⟩
/-- by its second name -/
theorem a_alias {i j : Nat} (h : G[i]? = some (some (.ow (nOneA K C f r p) xs))) (h' : G[j]? = some (some (.ow (fz K rV) (.ref p)))) : Ev (rOne K C f r) (tVar j) G xs := fun H0 σ H E Q k => by
  obtain ⟨own, _, _, h3⟩ := E.at_
  obtain ⟨v, hv, e1, ⟨a, dx, l, vs, _, ev, _, h1, h2, z⟩, hz⟩ := h3 i _ h
  obtain ⟨w, hw, _, hs⟩ := h3 j _ h'
  have ew : w = .ref p := hs.now
  subst ew
  rw [e1] at ev
  cases ev
  exact ⟨_, hw, k _ H (Same.refl H) ⟨⟨p, dx, l, vs, rfl, h1, h2, nows z⟩, hz⟩⟩
/-- the same cell, its address named -/
theorem Have.name {i : Nat} (h : Have H0 G σ H) (hi : G[i]? = some (some (.ow (nOne K C f r) xs))) : ∃ q, σ[i]? = some (some (.ref q)) ∧ Have H0 (G.set i (some (.ow (nOneA K C f r q) xs))) σ H := by
  obtain ⟨H1, e, E⟩ := h
  obtain ⟨own, h1, h2, h3⟩ := id E.at_
  obtain ⟨v, hv, ⟨a, dx, l, vs, eas, ev, rest⟩, hz⟩ := h3 i _ hi
  subst ev
  refine ⟨a, hv, H1, e, E.mut (as := own i) (R := nOne K C f r) (R' := nOneA K C f r a) hi hv (ExT.refl _) (fun _ _ _ ho => ho) (fun w bs hw hr => ?_) ⟨rfl, ⟨a, dx, l, vs, eas, rfl, rest⟩, hz⟩⟩
  rw [hv] at hw
  cases hw
  obtain ⟨⟨a2, dx2, l2, vs2, e1, e2, _, e4, _⟩, _⟩ := hr
  cases e2
  rw [rest.2.1] at e4
  cases e4
  rw [e1, eas]
end
def rEi (K : PySem.W.Frag) {β : Type} (r : Rp β) : Rp (List β) := fun H v xs => ∃ a vs, v = .ref a ∧ (H a = some (.lst vs) ∨ SqD K H a vs) ∧ A2 (r H) vs xs
section
variable {K : PySem.W.Frag} {H0 H1 H H' : Hp} {σ : L2.St} {G G' : Cells K} {β : Type} {r : Rp β} {te : TE} {xs : List β}
instance [M : Mono r] : Mono (rEi K r) := ⟨fun e ⟨a, vs, ev, h, q⟩ => ⟨a, vs, ev, h.imp (e _ _) ((ext_same e).d _ _), q.imp fun _ _ z => M.up e z⟩⟩
theorem ei_L (h : Ev (rL r) te G xs) : Ev (rEi K r) te G xs := h.imp fun _ _ ⟨a, vs, ev, hp, z⟩ => ⟨a, vs, ev, .inl hp, z⟩
theorem ei_T (h : Ev (rT K r) te G xs) : Ev (rEi K r) te G xs := h.imp fun _ _ ⟨a, vs, ev, hp, z⟩ => ⟨a, vs, ev, .inr hp, z⟩
/-- xs.index(x) of a list of texts -/
def idxS (xs : List Str) (x : Str) : Option Nat := xs.findIdx? fun y => decide (y = x)
theorem idxS_ok {xs : List Str} {x : Str} {j : Nat} (h : idxS xs x = some j) : xs[j]? = some x ∧ ∀ m, m < j → ∀ y, xs[m]? = some y → y ≠ x := by
  unfold idxS at h
  rw [List.findIdx?_eq_some_iff_getElem] at h
  obtain ⟨hl, h1, h2⟩ := h
  refine ⟨by rw [List.getElem?_eq_getElem hl, of_decide_eq_true h1], fun m hm y hy e => ?_⟩
  have := h2 m hm
  rw [List.getElem?_eq_getElem (by omega)] at hy
  cases hy
  exact this (decide_eq_true e)
def IdxOk (xs : List Str) (x : Str) (j : Nat) : Prop := idxS xs x = some j
theorem ev_index {tl tx : TE} {x : Str} {xs : List Str} {j : Nat} (h : Ev (rL rS) tl G xs) (h' : Ev rS tx G x) (e : IdxOk xs x j) : Ev rI (tBM K "list" (rIndex K) tl (tCons tx tNil)) G (j : Int) := fun H0 σ H E Q k =>
  h H0 σ H E _ fun v H1 e1 ⟨p, vs, ev, hp, z⟩ => by
    subst ev
    refine ⟨.inl ⟨rfl, vs, SqL.of hp⟩, h' H0 σ H1 (E.grow e1) _ fun w H2 e2 hw => ?_⟩
    have es : vs = xs.map V.str := strs_a2 z
    obtain ⟨i1, i2⟩ := idxS_ok e
    refine ⟨p, vs, w, j, .str x, rfl, rfl, SqL.of (e2 _ _ hp), by rw [hw.1]; rfl, by rw [es]; exact flat_strs xs, by rw [es, List.getElem?_map, i1]; rfl, by rw [hw.1]; exact beq_self_eq_true x, fun m z' hm hz => ?_, k _ H2 (e1.trans e2) rfl⟩
    rw [es, List.getElem?_map] at hz
    cases q : xs[m]? with
    | none => rw [q] at hz; cases hz
    | some y =>
      rw [q] at hz
      cases hz
      rw [hw.1]
      exact beq_eq_false_iff_ne.mpr (i2 m hm y q)
end
end Gt
namespace Gt
open PySem PySem.Spec PyProof.Rows L2 PySem.W PySem.Calls PySem.HandSPX
section
variable {X : Cx} {P : Program} {w : World} {K : Frag} {mg : Str → Option Value} {base : Heap}
theorem takes_no : Takes X fun _ _ _ _ => False := fun _ _ ⟨_, _, _, _, _, _, _, _, _, _, _, _, _, _, _, _, z⟩ => z.elim
/-- what no call reaches -/
theorem ps_never {st : Stmt} : PS X st (fun _ _ _ => False) := ⟨fun _ _ _ _ _ _ h => h.elim⟩
end
section
variable {K : Frag} {H0 H1 H2 H : Hp} {G : Cells K} {α γ β ρ : Type} {D : Ends} {u : TS} {q : Rp β} {R : Rs K ρ} {P Q : L2.St → Hp → Prop}
/-- isinstance of what may be None; of None's own value -/
theorem a_isiO {te : TE} {r : Rp α} {T T' : String} {o : Option α} (h : Ev (rO r) te G o) (M : Mono r) (N : TyN K r T) (hb : kitB T T' = some true) (hn : kitB "NoneType" T' = some false) : Ev rB (tCB (rIsi K) (tCons te (tCons (tC (.ty T')) tNil))) G (!isNone' o) := fun H0 σ H E Q k =>
  h H0 σ H E _ fun v H1 e1 hv => by
    cases o with
    | none =>
      have hv : v = .non := hv
      subst hv
      exact ⟨.non, .ty T', .type "NoneType", .type T', false, rfl, .ty T', .base .non, kit_ty hn, k _ H1 e1 rfl⟩
    | some z => exact ⟨v, .ty T', .type T, .type T', true, rfl, .ty T', N.ty hv, kit_ty hb, k _ H1 e1 rfl⟩
end
def aRest {β : Type} (r : Rp β) : Ra (List β) := fun H vs xs => aAll r H vs xs ∧ xs.length ≤ 10
section
variable {K : Frag} {H : Hp} {G : Cells K} {α : Type} {r : Rp α} {t : TA} {xs : List α}
theorem ea_rest (h : EvA (aAll r) t G xs) (hl : xs.length ≤ 10) : EvA (aRest r) t G xs := fun H0 σ H E Q k => h H0 σ H E _ fun vs H1 e1 z => k vs H1 e1 ⟨z, hl⟩
theorem a_some {i : Nat} {o : Option α} {b : α} (h : G[i]? = some (fc (rO r) o)) (e : o = some b) : Ev r (tVar i) G b := by
  subst e
  have z : Ev (rO r) (tVar i) G (some b) := a_fz h
  exact z.imp fun _ _ z => z
theorem ixc_O0 {β : Type} {q : Rp β} {o : Option (α × β)} {p : α × β} [M : Mono r] [N : Mono q] (e : o = some p) : IxC K (rO (rP K r q)) o (tC (.int 0)) G r p.1 := fun ta h => by subst e; exact ev_fst (h.imp fun _ _ z => z)
theorem ixc_O1 {β : Type} {q : Rp β} {o : Option (α × β)} {p : α × β} [M : Mono r] [N : Mono q] (e : o = some p) : IxC K (rO (rP K r q)) o (tC (.int 1)) G q p.2 := fun ta h => by subst e; exact ev_snd (h.imp fun _ _ z => z)
theorem lnc_O {β : Type} {q : Rp β} {o : Option (α × β)} {p : α × β} {n : Nat} [M : Mono r] [N : Mono q] (e : o = some p) (h : LnC K (rP K r q) p n) : LnC K (rO (rP K r q)) o n := fun G te z => by subst e; exact h G te (z.imp fun _ _ z => z)
end
end Gt
namespace Gt
open PySem PySem.Spec PyProof.Rows L2
theorem a_prop {K : PySem.W.Frag} {G : Cells K} {α β : Type} {C : Addr} {names : List Str} {r : Rp α} {q : Rp β} {x : α} {z : β} {m : α × Unit → M β} {ta : TE} (h : Ev r ta G x) (M : Mono r) (I : InsR K C r names) (e : MOk m (x, ()) z) : Ev q (tProp C (spM (aC r aN) q m) [] E0 ta) G z := fun H0 σ H E Q k => h H0 σ H E _ fun v H1 e1 hv => by
  obtain ⟨a, dx, fs, ea, ha, _⟩ := I.ins hv
  subst ea
  exact ⟨a, dx, fs, rfl, ha, (x, ()), z, ⟨_, _, rfl, hv, rfl⟩, e, fun w H2 e2 hw => k w H2 (e1.trans e2) hw⟩
/-- the empty tuple of the written part -/
def NilT (K : PySem.W.Frag) (d : Addr) : Prop := ∃ (o : Obj) (n : Nat), K.lookup d = some o ∧ o.dict = none ∧ o.cls = .type "tuple" ∧ o.data = .seq #[] n
theorem nw_mkOM0 {K : PySem.W.Frag} {G : Cells K} {α β : Type} {C d : Addr} {f : Str} {r : Rp β} {q : Rp α} {m : List α × Unit → M (List β)} {xs : List β} {E : XK} (hd : NilT K d) (e : MOk m ([], ()) xs) : Nw (nOne K C f r) (tMake C (spOneM K C f r (aC (rEi K q) aN) m) [.ref d] E tNil) G xs := fun H0 σ H E1 Q k x dx hx hdx hne => by
  have s1 : Same H (upd (upd H dx (.own x)) x (.ins C dx [])) := fun b o hb => by rw [upd_ne (ne_of_none hb hx), upd_ne (ne_of_none hb hdx)]; exact hb
  obtain ⟨o, n, h1, h0, h2, h3⟩ := hd
  refine ⟨x, dx, [.ref d], ([], ()), xs, rfl, upd_same, ⟨_, _, rfl, ⟨d, [], rfl, .inr (.inr ⟨o, #[], n, h1, h0, h2, h3, Nat.zero_le _, .nil⟩), .nil⟩, rfl⟩, e, fun l us H' keep hl h1 h2 z hz => ⟨rfl, ?_⟩⟩
  have hlx : x ≠ l := fun q => by rw [← q, upd_same] at hl; cases hl
  have hl1 : H l = none := s1.free hl
  refine k _ H' [x, l] (fun b o hb => keep b o (ne_of_none hb hx) (s1 _ _ hb)) (fun b hb => ?_) ⟨⟨x, dx, l, us, rfl, rfl, hlx, h1, h2, z⟩, hz⟩
  rcases List.mem_cons.mp hb with q | q
  · rw [q]; exact hx
  · cases List.mem_singleton.mp q
    exact hl1
theorem a2_dropLast {α β : Type} {R : α → β → Prop} {vs : List α} {xs : List β} (h : A2 R vs xs) : A2 R vs.dropLast xs.dropLast := by
  induction h with
  | nil => exact .nil
  | @cons a b as bs h1 h2 ih =>
    cases h2 with
    | nil => exact .nil
    | cons h3 h4 => exact .cons h1 ih
def rStrO (C : Addr) (sp : Sp) : List V → Hp → VK → Prop := fun xs H Q => ∃ a dx fs, xs = [.ref a] ∧ H a = some (.ins C dx fs) ∧ sp [.ref a] H (fun v H' => (∃ z, v = .str z) ∧ Q v H') E0
theorem a_strO {K : PySem.W.Frag} {G : Cells K} {α : Type} {C : Addr} {names : List Str} {r : Rp α} {x : α} {z : Str} {m : α × Unit → M Str} {ta : TE} (h : Ev r ta G x) (M : Mono r) (I : InsR K C r names) (e : MOk m (x, ()) z) : Ev rS (tCB (rStrO C (spM (aC r aN) rS m)) (tCons ta tNil)) G z := fun H0 σ H E Q k => h H0 σ H E _ fun v H1 e1 hv => by
  obtain ⟨a, dx, fs, ea, ha, _⟩ := I.ins hv
  subst ea
  exact ⟨a, dx, fs, rfl, ha, (x, ()), z, ⟨_, _, rfl, hv, rfl⟩, e, fun w H2 e2 hw => ⟨⟨z, hw.1⟩, k w H2 (e1.trans e2) hw⟩⟩
end Gt
namespace Gt
open PySem PySem.Spec PyProof.Rows L2
/-- the fields of an instance, and what they own -/
structure RF (K : PySem.W.Frag) (α : Type) where
  names : List Str
  rep : Hp → List (Str × V) → α → List Addr → Prop
  ns : ∀ {H : Hp} {fs : List (Str × V)} {x : α} {as : List Addr}, rep H fs x as → fs.map (·.1) = names
  stay : ∀ {H H' : Hp} {fs : List (Str × V)} {x : α} {as : List Addr}, rep H fs x as → ExT K H H' → (∀ p, p ∈ as → ∀ o, H p = some o → H' p = some o) → rep H' fs x as
  there : ∀ {H : Hp} {fs : List (Str × V)} {x : α} {as : List Addr}, rep H fs x as → ∀ p, p ∈ as → ∃ o, H p = some o ∧ ¬ isTup o
section
variable {K : PySem.W.Frag} {α β γ ρ : Type}
def fN : RF K Unit where
  names := []
  rep := fun _ fs _ as => fs = [] ∧ as = []
  ns := fun h => by rw [h.1]; rfl
  stay := fun h _ _ => h
  there := fun h p hp => by rw [h.2] at hp; cases hp
def fC (f : Str) (R : Rs K α) (F : RF K β) : RF K (α × β) where
  names := f :: F.names
  rep := fun H fs x as => ∃ v rest a1 a2, fs = (f, v) :: rest ∧ as = a1 ++ a2 ∧ R.rep H v x.1 a1 ∧ F.rep H rest x.2 a2
  ns := fun ⟨v, rest, a1, a2, e1, _, _, h⟩ => by rw [e1, List.map_cons, F.ns h]
  stay := fun ⟨v, rest, a1, a2, e1, e2, h1, h2⟩ x k => ⟨v, rest, a1, a2, e1, e2, R.stay h1 x (fun p hp => k p (by rw [e2]; exact List.mem_append_left _ hp)), F.stay h2 x (fun p hp => k p (by rw [e2]; exact List.mem_append_right _ hp))⟩
  there := fun ⟨v, rest, a1, a2, e1, e2, h1, h2⟩ p hp => by
    rw [e2] at hp
    rcases List.mem_append.mp hp with q | q
    · exact R.there h1 p q
    · exact F.there h2 p q
def nRec (K : PySem.W.Frag) (C : Addr) (F : RF K α) : Rs K α where
  rep := fun H v x as => ∃ a dx fs bs, v = .ref a ∧ as = a :: bs ∧ H a = some (.ins C dx fs) ∧ F.rep H fs x bs
  stay := fun ⟨a, dx, fs, bs, e1, e2, h1, h2⟩ x k => ⟨a, dx, fs, bs, e1, e2, k a (by rw [e2]; exact List.mem_cons_self ..) _ h1, F.stay h2 x (fun p hp => k p (by rw [e2]; exact List.mem_cons_of_mem _ hp))⟩
  there := fun ⟨a, dx, fs, bs, e1, e2, h1, h2⟩ p hp => by
    rw [e2] at hp
    rcases List.mem_cons.mp hp with q | q
    · rw [q]; exact ⟨_, h1, fun z => z⟩
    · exact F.there h2 p q
/-- as it came -/
def rRec (K : PySem.W.Frag) (C : Addr) (F : RF K α) : Rp α := fun H v x => ∃ as, (nRec K C F).rep H v x as
instance {C : Addr} {F : RF K α} : Mono (rRec K C F) := ⟨fun e ⟨as, h⟩ => ⟨as, (nRec K C F).stay h (ext_same e) fun p _ o ho => e p o ho⟩⟩
theorem rec_ins {C : Addr} {F : RF K α} : InsR K C (rRec K C F) F.names := ⟨fun ⟨as, a, dx, fs, bs, e1, _, h1, h2⟩ => ⟨a, dx, fs, e1, h1, F.ns h2⟩⟩
theorem rec_ins1 {C : Addr} {f : Str} {R : Rs K α} : InsR K C (rRec K C (fC f R fN)) [f] := rec_ins
variable {H0 H1 H2 H H' : Hp} {σ : L2.St} {G G' : Cells K} {r : Rp α} {q : Rp β} {D : Ends} {u : TS} {te ta : TE}
theorem a_noR {i : Nat} {C : Addr} {F : RF K α} {x : α} (h : G[i]? = some (some (.ow (nRec K C F) x))) : Ev (rRec K C F) (tVar i) G x := fun H0 σ H E Q k => by
  obtain ⟨own, _, _, h3⟩ := E.at_
  obtain ⟨v, hv, hr⟩ := h3 i _ h
  exact ⟨v, hv, k v H (Same.refl H) ⟨_, hr⟩⟩
/-- what an owned thing is to those who only look -/
class Bor (K : PySem.W.Frag) {α : Type} (R : Rs K α) (r : outParam (Rp α)) : Prop where
  look : ∀ {H : Hp} {v : V} {x : α} {as : List Addr}, R.rep H v x as → r H v x
instance {r : Rp α} : Bor K (fz K r) r := ⟨fun ⟨_, h⟩ => h _ (ExT.refl _)⟩
instance {C : Addr} {F : RF K α} : Bor K (nRec K C F) (rRec K C F) := ⟨fun h => ⟨_, h⟩⟩
/-- the field f of these -/
def FldAt (F : RF K α) (f : Str) (R : Rs K β) (get : α → β) : Prop := ∀ H fs x as, F.rep H fs x as → ∃ v bs, fs.lookup f = some v ∧ R.rep H v (get x) bs
theorem fld_hd {f : Str} {R : Rs K α} {F : RF K β} : FldAt (fC f R F) f R (fun x => x.1) := fun H fs x as ⟨v, rest, a1, a2, e1, _, h1, _⟩ => ⟨v, a1, by rw [e1, List.lookup_cons, beq_self_eq_true], h1⟩
theorem fld_tl {f g : Str} {R : Rs K α} {S : Rs K γ} {F : RF K β} {get : β → γ} (h : FldAt F f S get) (ne : (f == g) = false) : FldAt (fC g R F) f S (fun x => get x.2) := fun H fs x as ⟨v, rest, a1, a2, e1, _, _, h2⟩ => by
  obtain ⟨w, bs, l, hr⟩ := h H rest x.2 a2 h2
  exact ⟨w, bs, by rw [e1, List.lookup_cons, ne]; exact l, hr⟩
theorem a_recF {C : Addr} {F : RF K α} {f : Str} {R : Rs K β} {get : α → β} {x : α} {z : β} (h : Ev (rRec K C F) te G x) (fa : FldAt F f R get) (B : Bor K R q) (c : Cls K C) (n : NoAttr K C f) (e : get x = z) : Ev q (tFld K te f) G z := fun H0 σ H E Q k =>
  h H0 σ H E _ fun v H1 e1 ⟨as, a, dx, fs, bs, ea, _, ha, hf⟩ => by
    obtain ⟨w, cs, hl, hw⟩ := fa _ _ _ _ hf
    exact ⟨a, C, dx, fs, w, ea, ha, c, n, hl, k w H1 e1 (e ▸ B.look hw)⟩
/-- .. a tuple, where a list or a tuple is wished -/
theorem a_recE {C : Addr} {F : RF K α} {f : Str} {rt : Rp β} {get : α → List β} {x : α} {z : List β} (h : Ev (rRec K C F) te G x) (fa : FldAt F f (fz K (rT K rt)) get) (c : Cls K C) (n : NoAttr K C f) (e : get x = z) : Ev (rEi K rt) (tFld K te f) G z := ei_T (a_recF (R := fz K (rT K rt)) h fa inferInstance c n e)
/-- H' has made these fields at p, and nothing else is changed -/
structure RecR (K : PySem.W.Frag) (C : Addr) (F : RF K α) (H : Hp) (p : Addr) (x : α) (H' : Hp) : Prop where
  ex : ∃ dx fs as, H' p = some (.ins C dx fs) ∧ F.rep H' fs x as ∧ (∀ q, q ∈ as → H q = none)
  keep : ∀ c o, c ≠ p → H c = some o → H' c = some o
def spRec (K : PySem.W.Frag) (C : Addr) (F : RF K β) (A : Ra α) (m : α → M β) : Sp := fun vs H Q E => ∃ p dx ws a, vs = .ref p :: ws ∧ H p = some (.ins C dx []) ∧ A H ws a ∧ NStk (m a) ∧ (∀ b, m a = .ok b → ∀ H', RecR K C F H p b H' → Q .non H') ∧
  ∀ x fs, m a = .error (.ex x fs) → ∀ d H', (∀ c o, c ≠ p → H c = some o → H' c = some o) → H d = none → XR K H' d fs → E (.ref (cA K x)) (some d) H'
def tMakeS (C : Addr) (sp : Sp) (E : L2.St → XK) (t : TA) : TE := fun σ H Q => t σ H fun vs H1 => ∀ x dx, H1 x = none → H1 dx = none → dx ≠ x →
  sp (.ref x :: vs) (upd (upd H1 dx (.own x)) x (.ins C dx [])) (fun v H2 => v = .non ∧ Q (.ref x) H2) (E σ)
theorem same_made {x dx : Addr} {C : Addr} (hx : H x = none) (hdx : H dx = none) : Same H (upd (upd H dx (.own x)) x (.ins C dx [])) := fun b o hb => by rw [upd_ne (ne_of_none hb hx), upd_ne (ne_of_none hb hdx)]; exact hb
end
section
variable {K : PySem.W.Frag} {α β : Type} {H0 H : Hp} {σ : L2.St} {G : Cells K} {r : Rp α} {D : Ends} {te : TE} {t : TA}
/-- .. in a def that lets nothing out -/
theorem nw_mkR {C : Addr} {F : RF K β} {A : Ra α} {a : α} {m : α → M β} {b : β} {E' : L2.St → XK} (hA : EvA A t G a) (M : MonoA A) (e : MOk m a b) : Nw (nRec K C F) (tMakeS C (spRec K C F A m) E' t) G b := fun H0 σ H E Q k =>
  hA H0 σ H E _ fun vs H2 e2 hvs x dx hx hdx hne => by
    have e : m a = .ok b := e
    have s1 : Same H2 (upd (upd H2 dx (.own x)) x (.ins C dx [])) := same_made hx hdx
    refine ⟨x, dx, vs, a, rfl, upd_same, M.up s1 hvs, nstk_ok e, fun b' hb H' hr => ⟨rfl, ?_⟩, fun y fs hy => by rw [e] at hy; cases hy⟩
    rw [e] at hb
    cases hb
    obtain ⟨⟨dx', fs, as, h1, h2, h3⟩, kp⟩ := hr
    refine k _ H' (x :: as) (e2.trans fun b o hb => kp b o (ne_of_none hb hx) (s1 _ _ hb)) (fun p hp => ?_) ⟨x, dx', fs, as, rfl, rfl, h1, h2⟩
    rcases List.mem_cons.mp hp with z | z
    · rw [z]; exact free_back e2 hx
    · exact free_back (e2.trans s1) (h3 p z)
end
section
variable {X : Cx} {k : Nat} {f C : Addr} {fd : FuncData} {ps : List Str} {sp : Sp} {x : Str} {p pos : Pos} {e : Expr} {es : List Expr} {t : TA} {W : WX}
theorem pe_mkIS (I : CalI X.prog X.w X.K X.mg X.base (L2.CX X.prog X.w) C k ps sp) (hm : X.mg x = some (.ref C)) (hr : Room (k + 1) X.A) (tk : Takes X W) (ha : PA X (e :: es) t) (hg : Gl X x := by rfl) (hdb : (x == ("__debug__" : Str)) = false := by decide)
    (he : starEach (e :: es) X.env = (false, eval e X.env) :: starEach es X.env := by rfl) (hpl : (backTo pos (starEach es X.env)).any (·.1) = false := by rfl) : PE X (.Call (.Name x p) (e :: es) [] pos) (tMakeS C sp (WE W) t) := by
  obtain ⟨f, fd, F, M, hb⟩ := I.ex
  refine ⟨fun pins s σ H Q I h => ?_⟩
  refine wpAny_Call_Name_kw (ld_glob I hg hm ?_ hdb)
  refine PySem.W.callWith_K (h₀ := X.base) I.ok.mod.kin M.kp (thn (ha.run pos pins s σ H _ I h) fun us s1 ⟨vs, H1, I1, r, q⟩ => ⟨I1.kIn, ?_⟩) he hpl
  have hq := q (s1.heap.objs.size + 1) s1.heap.objs.size (I1.hok.fresh (Nat.le_succ _)) (I1.hok.fresh (Nat.le_refl _)) (Nat.ne_of_lt (Nat.lt_succ_self _))
  have I2 := Inv.made (C := C) I1
  have r2 : Vals (V.ref (s1.heap.objs.size + 1) :: vs) (Value.ref (s1.heap.objs.size + 1) :: us) := .cons rfl r
  have hl : (Value.ref (s1.heap.objs.size + 1) :: us ++ []).length = ps.length := by
    rw [List.append_nil]
    have e := r2.length
    rw [F.len _ _ _ _ hq] at e
    exact e.symm
  have b1 := hb _ (Value.ref (s1.heap.objs.size + 1) :: us) I2.kIn hl
  rw [List.append_nil] at b1
  refine wpAny_call (make_map (f := f) I1.kIn M.makes M.init (beq_iff_eq.mp M.fn) (codeAny_mono (F.run _ X.stack _ _ ⟨Value.ref (s1.heap.objs.size + 1) :: us, []⟩ (Value.ref (s1.heap.objs.size + 1) :: us) _ _ (WE W σ) (hr.make C us [])
    (I2.env0.make C us []) b1 r2 hq) fun r s' hq' => ?_))
  cases r with
  | error e => exact passAt tk σ pins _ _ e s' I2 hq'
  | ok fl =>
    cases fl with
    | ret u =>
      obtain ⟨v, H', I3, rv, ev, q3⟩ := I2.after hq'
      subst ev
      exact ⟨rv, ⟨V.ref (s1.heap.objs.size + 1), H', I3, rfl, q3⟩⟩
    | next => exact False.elim hq'
    | brk => exact False.elim hq'
    | cont => exact False.elim hq'
end
section
variable {P : Program} {w : World} {K : PySem.W.Frag} {mg : Str → Option Value} {base : Heap} {q c : Str} {st : Stmt} {m k : Nat} {ps N : List Str} {sp : Sp}
theorem calIX_of (T : ClsF K mg c) (F : DfE K (cA K c) "__init__" q st m) (S : FnScope N ps (defScope st)) (len : ∀ vs H Q E, sp vs H Q E → vs.length = ps.length) (b : BindE "__init__" q st ps m)
    (hbody : ∀ (cdv : Value) (f : Addr) (A : Around) (outer : List PySem.Env) (s : Shared) (H : Hp) (vs : List V) (Q : VK) (E : XK), Room k (A.deeper (envOfC q (defScope st) s.heap.objs.size f cdv)) → sp vs H Q E →
      ∃ t, PSs (cxOf (L2.CX P w) P w K mg base N q (defScope st) f cdv A outer s H E) (defBody st) t ∧ t { nx := fun _ H' => Q .non H', rt := Q } (start N vs) H) : CalI P w K mg base (L2.CX P w) (cA K c) (k + 1) ps sp := by
  obtain ⟨f, fd, F, h1, h2⟩ := F.ex
  exact ⟨f, fd, F.ok S len fun cdv A outer s H vs Q E hr h => hbody cdv f A outer s H vs Q E hr h, ⟨T.makes, h1, h2, T.kp⟩, F.binds b⟩
end
end Gt
namespace Gt
open PySem PySem.Spec PyProof.Rows L2
section
variable {X : Cx} {CX : CXT} {pins : List (Addr × Obj)} {σ : L2.St} {H H' : Hp} {s s' : Shared} {C fi a it l : Addr} {k : Nat} {fd : FuncData} {ps : List Str} {sp : Sp} {E : XK} {e : Expr} {te : TE} {tg : Expr} {o : HO} {i : Nat}
/-- list(o), o an instance of the class at C whose __iter__ walks the tuple in its field g -/
def rListYT (K : PySem.W.Frag) (C : Addr) (g : Str) : List V → Hp → VK → Prop := fun xs H Q => ∃ a dx fs l zs, xs = [.ref a] ∧ H a = some (.ins C dx fs) ∧ fs.lookup g = some (.ref l) ∧ SqT K H l zs ∧ ∀ q, H q = none → Q (.ref q) (upd H q (.lst zs))
end
theorem nw_recL {K : PySem.W.Frag} {G : Cells K} {α β : Type} {C : Addr} {f : Str} {F : RF K α} {r : Rp β} {get : α → List β} {x : α} {z : List β} {te : TE} (h : Ev (rRec K C F) te G x) (fa : FldAt F f (fz K (rT K r)) get) (e : get x = z) (M : Mono r) (Z : Frz K r) : Nw (nl K r) (tCB (rListYT K C f) (tCons te tNil)) G z := nw_cb (ea_cons h ea_nil) fun H vs ⟨v, ws, ev, ⟨as, a, dx, fs, bs, ea, _, h1, hf⟩, e2⟩ Q k => by
  obtain ⟨w, cs, hl, _, hw⟩ := fa _ _ _ _ hf
  obtain ⟨l, us, el, sq, hz⟩ := hw H (ExT.refl _)
  subst e
  exact ⟨a, dx, fs, l, us, by rw [ev, show ws = [] from e2, ea], h1, by rw [hl, el], sq, fun q hq => k _ _ [q] (same_new hq) (fun b hb => by rw [List.mem_singleton.mp hb]; exact hq) ⟨q, us, rfl, rfl, upd_same, hz.imp fun _ _ w => stb (M.up (same_new hq) w)⟩⟩
section
variable {K : PySem.W.Frag} {G : Cells K} {α : Type} {r : Rp α} {tb : TE} {i : Int} {x : α}
theorem ixc_E {xs : List α} [M : Mono r] (hi : Ev rI tb G i) (hx : atI xs i = some x) : IxC K (rEi K r) xs tb G r x := fun ta h => ev_op h hi fun H u v ⟨p, vs, ev, hp, z⟩ hv Q k => by
  obtain ⟨w, hw, hr⟩ := atI_A2 z hx
  rcases hp with hp | hp
  · exact .inl ⟨p, vs, i, w, ev, hv, SqL.of hp, hw, k w H (Same.refl H) hr⟩
  · exact .inr (.inl ⟨p, vs, i, w, ev, hv, hp, hw, k w H (Same.refl H) hr⟩)
theorem lnc_E {xs : List α} [M : Mono r] : LnC K (rEi K r) xs xs.length := fun G te h => ev_cb (ea_cons h ea_nil) fun H vs ⟨v, ws, e, ⟨p, us, ev, hp, z⟩, e2⟩ Q k =>
  ⟨v, us.length, by rw [e, show ws = [] from e2], by
    rw [ev]
    rcases hp with hp | hp
    · exact .inl ⟨us, SqL.of hp, rfl⟩
    · exact .inr ⟨us, hp, rfl⟩, k _ H (Same.refl H) (by rw [z.len]; rfl)⟩
end
end Gt
namespace Gt
open PySem PySem.Spec PyProof.Rows L2
section
variable {K : PySem.W.Frag} {H0 H1 H2 H : Hp} {G G' : Cells K} {α β γ ρ : Type} {r : Rp α} {R : Rs K ρ} {D : Ends} {u : TS}
theorem a_starT {te : TE} {t : TA} {xs ys : List α} (h : Ev (rT K r) te G xs) (M : Mono r) (hr : EvA (aAll r) t G ys) : EvA (aAll r) (StX.tStar K te t) G (xs ++ ys) := fun H0 σ H E Q k =>
  h H0 σ H E _ fun v H1 e1 ⟨a, vs, ev, hq, z⟩ => ⟨a, vs, ev, .inl hq, hr H0 σ H1 (E.grow e1) _ fun ws H2 e2 z2 => k _ H2 (e1.trans e2) (A2.app z2 (z.imp fun _ _ w => M.up e2 w))⟩
def rCls (C : Addr) : Rp Unit := fun _ v _ => v = .ref C
instance {C : Addr} : Mono (rCls C) := ⟨fun _ h => h⟩
instance {C : Addr} : Frz K (rCls C) := ⟨fun _ h => h⟩
theorem ev_cls {C : Addr} {y : Unit} : Ev (rCls C) (tC (.ref C)) G y := fun H0 σ H E Q k => k _ H (Same.refl H) rfl
def tMakeV (tv : TE) (C : Addr) (sp : Sp) (dvs : List V) (E : XK) (t : TA) : TE := fun σ H Q => tv σ H fun v H1 => v = .ref C ∧ tMake C sp dvs E t σ H1 Q
theorem nw_mkV {C : Addr} {tv : TE} {sp : Sp} {dvs : List V} {E' : XK} {t : TA} {xs : ρ} {y : Unit} (hv : Ev (rCls C) tv G y) (h : Nw R (tMake C sp dvs E' t) G xs) : Nw R (tMakeV tv C sp dvs E' t) G xs := fun H0 σ H E Q k =>
  hv H0 σ H E _ fun v H1 e1 z => ⟨z, h H0 σ H1 (E.grow e1) _ fun w H2 as e2 hn hw => k w H2 as (e1.trans e2) (fun p hp => free_back e1 (hn p hp)) hw⟩
def tCMethS (C : Addr) (sp : Sp) (E : L2.St → XK) (ta : TE) (t : TA) : TE := fun σ H Q => ta σ H fun x H1 => x = .ref C ∧ t σ H1 fun vs H2 => sp (.ref C :: vs) H2 Q (E σ)
theorem nw_cm {C : Addr} {A : Ra γ} {g : γ} {m : Unit × γ → M ρ} {b : ρ} {E' : L2.St → XK} {ta : TE} {t : TA} (hc : Ev (rCls C) ta G ()) (h : EvA A t G g) (e : MOk m ((), g) b) : Nw R (tCMethS C (spXN (aC (rCls C) A) R m) E' ta t) G b := fun H0 σ H E Q k =>
  hc H0 σ H E _ fun v H1 e1 z => ⟨z, h H0 σ H1 (E.grow e1) _ fun vs H2 e2 hvs => ⟨((), g), ⟨_, vs, rfl, rfl, hvs⟩, nstk_ok e, fun c hc w H3 as e3 hn hw => k w H3 as ((e1.trans e2).trans e3) (fun p hp => free_back (e1.trans e2) (hn p hp)) (by rw [show m ((), g) = .ok b from e] at hc; cases hc; exact hw),
    fun x fs q => by rw [show m ((), g) = .ok b from e] at q; cases q⟩⟩
end
end Gt
namespace Gt
open PySem PySem.Spec PyProof.Rows L2
/-- two lists and the addresses of each pair -/
inductive A3 {α β : Type} (r : α → β → List Addr → Prop) : List α → List β → List (List Addr) → Prop
  | nil : A3 r [] [] []
  | cons {a : α} {b : β} {s : List Addr} {as : List α} {bs : List β} {ss : List (List Addr)} : r a b s → A3 r as bs ss → A3 r (a :: as) (b :: bs) (s :: ss)
section
variable {α β : Type} {r q : α → β → List Addr → Prop} {as as' : List α} {bs bs' : List β} {ss ss' : List (List Addr)} {a : α} {b : β} {s : List Addr} {j : Nat}
theorem A3.imp (h : A3 r as bs ss) (f : ∀ a b s, s ∈ ss → r a b s → q a b s) : A3 q as bs ss := by
  induction h with
  | nil => exact .nil
  | cons h1 h2 ih => exact .cons (f _ _ _ (List.mem_cons_self ..) h1) (ih fun a b s hs => f a b s (List.mem_cons_of_mem _ hs))
theorem A3.len (h : A3 r as bs ss) : as.length = bs.length := by
  induction h with
  | nil => rfl
  | cons h1 h2 ih => rw [List.length_cons, List.length_cons, ih]
theorem A3.lens (h : A3 r as bs ss) : ss.length = bs.length := by
  induction h with
  | nil => rfl
  | cons h1 h2 ih => rw [List.length_cons, List.length_cons, ih]
theorem A3.get (h : A3 r as bs ss) (hb : bs[j]? = some b) : ∃ a s, as[j]? = some a ∧ ss[j]? = some s ∧ r a b s := by
  induction h generalizing j with
  | nil => simp at hb
  | cons h1 h2 ih =>
    cases j with
    | zero => cases hb; exact ⟨_, _, rfl, rfl, h1⟩
    | succ j => exact ih (j := j) (by simpa using hb)
theorem A3.app (h : A3 r as bs ss) (h' : A3 r as' bs' ss') : A3 r (as ++ as') (bs ++ bs') (ss ++ ss') := by
  induction h with
  | nil => exact h'
  | cons h1 h2 ih => exact .cons h1 ih
/-- one pair is changed, the others stay -/
theorem A3.put (h : A3 r as bs ss) (f : ∀ k a b s, k ≠ j → ss[k]? = some s → r a b s → q a b s) (n : q a b s) : A3 q (as.set j a) (bs.set j b) (ss.set j s) := by
  induction h generalizing j with
  | nil => exact .nil
  | @cons x y t as bs ss h1 h2 ih =>
    cases j with
    | zero => exact .cons n (h2.imp fun a b s hs => by
        obtain ⟨k, hk⟩ := List.mem_iff_getElem?.mp hs
        exact f (k + 1) a b s (Nat.succ_ne_zero k) (by simpa using hk))
    | succ j => exact .cons (f 0 _ _ _ (Nat.succ_ne_zero j).symm rfl h1) (ih fun k a b s hk hs => f (k + 1) a b s (fun e => hk (Nat.succ.inj e)) (by simpa using hs))
theorem A3.two (h : A3 r as bs ss) : A2 (fun a b => ∃ s, r a b s) as bs := by
  induction h with
  | nil => exact .nil
  | cons h1 h2 ih => exact .cons ⟨_, h1⟩ ih
end
/-- the parts' addresses stand apart, and apart from p -/
def DJ (p : Addr) (ss : List (List Addr)) : Prop := (∀ (k : Nat) (s : List Addr), ss[k]? = some s → p ∉ s) ∧ ∀ (k l : Nat) (s t : List Addr) (q : Addr), ss[k]? = some s → ss[l]? = some t → q ∈ s → q ∈ t → k = l
theorem mem_flat {ss : List (List Addr)} {k : Nat} {s : List Addr} {q : Addr} (h : ss[k]? = some s) (hq : q ∈ s) : q ∈ ss.flatten := List.mem_flatten.mpr ⟨s, List.mem_of_getElem? h, hq⟩
theorem flat_mem {ss : List (List Addr)} {q : Addr} (h : q ∈ ss.flatten) : ∃ (k : Nat) (s : List Addr), ss[k]? = some s ∧ q ∈ s := by
  obtain ⟨s, hs, hq⟩ := List.mem_flatten.mp h
  obtain ⟨k, hk⟩ := List.mem_iff_getElem?.mp hs
  exact ⟨k, s, hk, hq⟩
theorem set_get {ss : List (List Addr)} {j k : Nat} {s t : List Addr} (h : (ss.set j s)[k]? = some t) : (k = j ∧ t = s) ∨ (k ≠ j ∧ ss[k]? = some t) := by
  by_cases e : j = k
  · subst e
    have hl : j < ss.length := by
      have := (List.getElem?_eq_some_iff.mp h).1
      rw [List.length_set] at this
      exact this
    rw [List.getElem?_set_self hl] at h
    cases h
    exact .inl ⟨rfl, rfl⟩
  · rw [List.getElem?_set_ne e] at h
    exact .inr ⟨fun z => e z.symm, h⟩
theorem DJ.put {p : Addr} {ss : List (List Addr)} {j : Nat} {s s' : List Addr} (h : DJ p ss) (hj : ss[j]? = some s) (hs : ∀ q ∈ s', q ∈ s ∨ (q ≠ p ∧ q ∉ ss.flatten)) : DJ p (ss.set j s') := by
  have out : ∀ q ∈ s', q ∈ s ∨ ∀ (k : Nat) (t : List Addr), ss[k]? = some t → q ∉ t := fun q hq => (hs q hq).imp id fun z k t ht hm => z.2 (mem_flat ht hm)
  refine ⟨fun k t ht hp => ?_, fun k l t u q hk hl ht hu => ?_⟩
  · rcases set_get ht with ⟨_, e⟩ | ⟨_, e⟩
    · subst e
      rcases hs p hp with z | z
      · exact h.1 j s hj z
      · exact z.1 rfl
    · exact h.1 k t e hp
  · rcases set_get hk with ⟨k1, k2⟩ | ⟨k1, k2⟩ <;> rcases set_get hl with ⟨l1, l2⟩ | ⟨l1, l2⟩
    · rw [k1, l1]
    · subst k2
      rcases out q ht with z | z
      · exact absurd (h.2 l j u s q l2 hj hu z) l1
      · exact absurd hu (z l u l2)
    · subst l2
      rcases out q hu with z | z
      · exact absurd (h.2 k j t s q k2 hj ht z) k1
      · exact absurd ht (z k t k2)
    · exact h.2 k l t u q k2 l2 ht hu
theorem flat_put {ss : List (List Addr)} {j : Nat} {s' : List Addr} {q : Addr} (h : q ∈ (ss.set j s').flatten) : q ∈ s' ∨ q ∈ ss.flatten := by
  obtain ⟨k, t, ht, hq⟩ := flat_mem h
  rcases set_get ht with ⟨_, e⟩ | ⟨_, e⟩
  · subst e; exact .inl hq
  · exact .inr (mem_flat e hq)
theorem DJ.app {p : Addr} {ss : List (List Addr)} {s : List Addr} (h : DJ p ss) (hs : ∀ q ∈ s, q ≠ p ∧ q ∉ ss.flatten) : DJ p (ss ++ [s]) := by
  have at_ : ∀ (k : Nat) (t : List Addr), (ss ++ [s])[k]? = some t → (k < ss.length ∧ ss[k]? = some t) ∨ (k = ss.length ∧ t = s) := fun k t ht => by
    by_cases hk : k < ss.length
    · rw [List.getElem?_append_left hk] at ht; exact .inl ⟨hk, ht⟩
    · rw [List.getElem?_append_right (by omega)] at ht
      have : k - ss.length = 0 := by
        have := (List.getElem?_eq_some_iff.mp ht).1
        rw [List.length_singleton] at this
        omega
      rw [this] at ht
      cases ht
      exact .inr ⟨by omega, rfl⟩
  refine ⟨fun k t ht hp => ?_, fun k l t u q hk hl ht hu => ?_⟩
  · rcases at_ k t ht with ⟨_, e⟩ | ⟨_, e⟩
    · exact h.1 k t e hp
    · subst e; exact (hs p hp).1 rfl
  · rcases at_ k t hk with ⟨_, e⟩ | ⟨k1, e⟩ <;> rcases at_ l u hl with ⟨_, e'⟩ | ⟨l1, e'⟩
    · exact h.2 k l t u q e e' ht hu
    · subst e'; exact absurd (mem_flat e ht) (hs q hu).2
    · subst e; exact absurd (mem_flat e' hu) (hs q ht).2
    · rw [k1, l1]
section
variable {K : PySem.W.Frag} {α β γ δ : Type}
/-- a list (owned) of owned things -/
def nlR (K : PySem.W.Frag) {β : Type} (R : Rs K β) : Rs K (List β) where
  rep := fun H v xs as => ∃ p vs ss, as = p :: ss.flatten ∧ v = .ref p ∧ H p = some (.lst vs) ∧ A3 (R.rep H) vs xs ss ∧ DJ p ss
  stay := by
    rintro H H' v b as ⟨p, vs, ss, e, ev, h, z, d⟩ x k
    refine ⟨p, vs, ss, e, ev, k p (by rw [e]; exact List.mem_cons_self ..) _ h, z.imp fun a b s hs w => ?_, d⟩
    exact R.stay w x fun q hq => k q (by rw [e]; exact List.mem_cons_of_mem _ (List.mem_flatten.mpr ⟨s, hs, hq⟩))
  there := fun {H v b as} ⟨p, vs, ss, e, _, h, z, _⟩ q hq => by
    rw [e] at hq
    rcases List.mem_cons.mp hq with c | c
    · rw [c]; exact ⟨_, h, fun z => z⟩
    · obtain ⟨k, s, hs, hq⟩ := flat_mem c
      have hl : k < b.length := by rw [← z.lens]; exact (List.getElem?_eq_some_iff.mp hs).1
      obtain ⟨a, s', _, h3, h4⟩ := z.get (List.getElem?_eq_getElem hl)
      rw [hs] at h3
      cases h3
      exact R.there h4 q hq
/-- .. whose item j is the value w -/
def nlRat (K : PySem.W.Frag) {β : Type} (R : Rs K β) (j : Nat) (w : V) : Rs K (List β) where
  rep := fun H v xs as => ∃ p vs ss, as = p :: ss.flatten ∧ v = .ref p ∧ H p = some (.lst vs) ∧ A3 (R.rep H) vs xs ss ∧ DJ p ss ∧ vs[j]? = some w
  stay := by
    rintro H H' v b as ⟨p, vs, ss, e, ev, h, z, d, hj⟩ x k
    refine ⟨p, vs, ss, e, ev, k p (by rw [e]; exact List.mem_cons_self ..) _ h, z.imp fun a b s hs w => ?_, d, hj⟩
    exact R.stay w x fun q hq => k q (by rw [e]; exact List.mem_cons_of_mem _ (List.mem_flatten.mpr ⟨s, hs, hq⟩))
  there := fun {H v b as} ⟨p, vs, ss, e, ev, h, z, d, _⟩ => (nlR K R).there (v := v) (b := b) ⟨p, vs, ss, e, ev, h, z, d⟩
abbrev KvR (K : PySem.W.Frag) {β : Type} (R : Rs K β) (H : Hp) (x : Key × V) (y : Str × β) (s : List Addr) : Prop := (x.1 = Sum.inr y.1 ∧ okS y.1) ∧ R.rep H x.2 y.2 s
/-- a dict (owned) of owned things -/
def ndR (K : PySem.W.Frag) {β : Type} (R : Rs K β) : Rs K (List (Str × β)) where
  rep := fun H v xs as => ∃ p kvs ss, as = p :: ss.flatten ∧ v = .ref p ∧ H p = some (.dK kvs) ∧ A3 (KvR K R H) kvs xs ss ∧ DJ p ss ∧ (xs.map (·.1)).Nodup
  stay := by
    rintro H H' v b as ⟨p, vs, ss, e, ev, h, z, d, n⟩ x k
    refine ⟨p, vs, ss, e, ev, k p (by rw [e]; exact List.mem_cons_self ..) _ h, z.imp fun a b s hs w => ⟨w.1, ?_⟩, d, n⟩
    exact R.stay w.2 x fun q hq => k q (by rw [e]; exact List.mem_cons_of_mem _ (List.mem_flatten.mpr ⟨s, hs, hq⟩))
  there := fun {H v b as} ⟨p, vs, ss, e, _, h, z, _⟩ q hq => by
    rw [e] at hq
    rcases List.mem_cons.mp hq with c | c
    · rw [c]; exact ⟨_, h, fun z => z⟩
    · obtain ⟨k, s, hs, hq⟩ := flat_mem c
      have hl : k < b.length := by rw [← z.lens]; exact (List.getElem?_eq_some_iff.mp hs).1
      obtain ⟨a, s', _, h3, h4⟩ := z.get (List.getElem?_eq_getElem hl)
      rw [hs] at h3
      cases h3
      exact R.there h4.2 q hq
/-- a list (owned) of three owned things -/
def nH3 (K : PySem.W.Frag) {α β γ : Type} (R : Rs K α) (R' : Rs K β) (R2 : Rs K γ) : Rs K (α × β × γ) where
  rep := fun H v x as => ∃ p a b c s t u, as = p :: [s, t, u].flatten ∧ v = .ref p ∧ H p = some (.lst [a, b, c]) ∧ (R.rep H a x.1 s ∧ R'.rep H b x.2.1 t ∧ R2.rep H c x.2.2 u) ∧ DJ p [s, t, u]
  stay := fun ⟨p, a, b, c, s, t, u, e, ev, h, z, d⟩ x k => ⟨p, a, b, c, s, t, u, e, ev, k p (by rw [e]; exact List.mem_cons_self ..) _ h, ⟨R.stay z.1 x fun q hq => k q (by rw [e]; exact List.mem_cons_of_mem _ (mem_flat (k := 0) rfl hq)), R'.stay z.2.1 x fun q hq => k q (by rw [e]; exact List.mem_cons_of_mem _ (mem_flat (k := 1) rfl hq)), R2.stay z.2.2 x fun q hq => k q (by rw [e]; exact List.mem_cons_of_mem _ (mem_flat (k := 2) rfl hq))⟩, d⟩
  there := fun ⟨p, a, b, c, s, t, u, e, _, h, z, _⟩ q hq => by
    rw [e] at hq
    rcases List.mem_cons.mp hq with y | y
    · rw [y]; exact ⟨_, h, fun z => z⟩
    · have y : q ∈ s ++ (t ++ (u ++ [])) := y
      rcases List.mem_append.mp y with y | y
      · exact R.there z.1 q y
      · rcases List.mem_append.mp y with y | y
        · exact R'.there z.2.1 q y
        · rw [List.append_nil] at y
          exact R2.there z.2.2 q y
structure EnvO {K : PySem.W.Frag} (own : Nat → List Addr) (H0 : Hp) (σ : L2.St) (H : Hp) (G : Cells K) : Prop where
  old : Same H0 H
  len : σ.length = G.length
  free : ∀ i p, p ∈ own i → H0 p = none ∧ ∃ o, H p = some o ∧ ¬ isTup o
  apart : ∀ i j p, p ∈ own i → p ∈ own j → i = j
  at_ : ∀ (i : Nat) (c : Cell K), G[i]? = some (some c) → ∃ v, σ[i]? = some (some v) ∧ c.ok H0 H v (own i)
variable {own : Nat → List Addr} {H0 H H1 H' : Hp} {σ : L2.St} {G G' : Cells K}
theorem Env.o (E : Env H0 σ H G) : ∃ own, EnvO own H0 σ H G := let ⟨own, h1, h2, h3⟩ := E.at_; ⟨own, E.old, E.len, h1, h2, h3⟩
theorem EnvO.e (E : EnvO own H0 σ H G) : Env H0 σ H G := ⟨E.old, E.len, own, E.free, E.apart, E.at_⟩
theorem EnvO.grow (E : EnvO own H0 σ H G) (e : Same H H') : EnvO own H0 σ H' G := ⟨E.old.trans e, E.len, fun i p hp => ⟨(E.free i p hp).1, let ⟨o, ho, nt⟩ := (E.free i p hp).2; ⟨o, e _ _ ho, nt⟩⟩, E.apart, fun i c hc => let ⟨v, hv, hk⟩ := E.at_ i c hc; ⟨v, hv, cell_stay hk (ext_same e) fun p _ o ho => e _ _ ho⟩⟩
/-- what no one owns, nor the ground -/
def Fr (own : Nat → List Addr) (H0 : Hp) (q : Addr) : Prop := H0 q = none ∧ ∀ j, q ∉ own j
theorem EnvO.fr {q : Addr} (E : EnvO own H0 σ H G) (h : H q = none) : Fr own H0 q := ⟨free_back E.old h, fun j z => by obtain ⟨o, ho, _⟩ := (E.free j q z).2; rw [h] at ho; cases ho⟩
/-- all but the addresses in as stays -/
def But (as : List Addr) (H H' : Hp) : Prop := ∀ c o, c ∉ as → H c = some o → H' c = some o
theorem EnvO.ext {i : Nat} {as : List Addr} (E : EnvO own H0 σ H G) (ha : ∀ p ∈ as, p ∈ own i) (k : But as H H') : ExT K H H' := .mk' fun a o9 t9 h => by
  have ne : ∀ o, H a = some o → isTup o → a ∉ as := fun o ho ht z => by
    obtain ⟨o', ho', nt⟩ := (E.free i a (ha a z)).2
    rw [ho] at ho'
    cases ho'
    exact nt ht
  exact k _ _ (ne _ h t9.up) h
/-- the thing at slot i is changed in place -/
theorem EnvO.chg {i : Nat} {R' : Rs K γ} {b' : γ} {v : V} {as' : List Addr} (E : EnvO own H0 σ H G) (hl : i < G.length) (hv : σ[i]? = some (some v)) (k : But (own i) H H') (ha : ∀ p ∈ as', p ∈ own i ∨ Fr own H0 p) (h : R'.rep H' v b' as') : Env H0 σ H' (G.set i (some (.ow R' b'))) := by
  have x := E.ext (as := own i) (fun _ z => z) k
  have nas : ∀ j p, j ≠ i → p ∈ own j → p ∉ own i := fun j p hj hp z => hj (E.apart j i p hp z)
  refine ⟨fun p o ho => k p o (fun z => ?_) (E.old p o ho), by rw [List.length_set]; exact E.len, fun j => if j = i then as' else own j, fun j p hp => ?_, fun j l p hj hk => ?_, fun j c hc => ?_⟩
  · have := (E.free i p z).1
    rw [this] at ho
    cases ho
  · by_cases hj : j = i
    · simp only [hj, if_true] at hp
      exact ⟨(ha p hp).elim (fun z => (E.free i p z).1) fun z => z.1, R'.there h p hp⟩
    · simp only [hj, if_false] at hp
      obtain ⟨o, ho, nt⟩ := (E.free j p hp).2
      exact ⟨(E.free j p hp).1, o, k p o (nas j p hj hp) ho, nt⟩
  · by_cases hji : j = i <;> by_cases hki : l = i
    · rw [hji, hki]
    · simp only [hji, hki, if_true, if_false] at hj hk
      rcases ha p hj with z | z
      · exact absurd z (nas l p hki hk)
      · exact absurd hk (z.2 l)
    · simp only [hji, hki, if_true, if_false] at hj hk
      rcases ha p hk with z | z
      · exact absurd z (nas j p hji hj)
      · exact absurd hj (z.2 j)
    · simp only [hji, hki, if_false] at hj hk
      exact E.apart j l p hj hk
  · by_cases hj : j = i
    · subst hj
      rw [List.getElem?_set_self hl] at hc
      cases hc
      refine ⟨v, hv, ?_⟩
      simp only [if_true]
      exact h
    · rw [List.getElem?_set_ne (Ne.symm hj)] at hc
      obtain ⟨u, hu, hk'⟩ := E.at_ j c hc
      refine ⟨u, hu, ?_⟩
      simp only [hj, if_false]
      exact cell_stay hk' x fun p hp o ho => k p o (nas j p hj hp) ho
def Pl (te : TE) (G : Cells K) (i : Nat) (R : Rs K β) (b : β) (up : β → Cells K) : Prop :=
  ∀ own H0 σ H, EnvO own H0 σ H G → ∀ Q : VK, (∀ v as H1, Same H H1 → R.rep H1 v b as → (∀ p ∈ as, p ∈ own i) →
    (∀ H3 b' as', But as H1 H3 → (∀ p ∈ as', p ∈ as ∨ Fr own H0 p) → R.rep H3 v b' as' → Env H0 σ H3 (up b')) → Q v H1) → te σ H Q
variable {R : Rs K β} {te ti tk tx tv : TE} {i j : Nat} {b x : β} {n : Int}
theorem pl_var (h : G[i]? = some (some (.ow R b))) : Pl (tVar i) G i R b fun b' => G.set i (some (.ow R b')) := fun own H0 σ H E Q k => by
  obtain ⟨v, hv, hk⟩ := E.at_ i _ h
  have hl : i < G.length := (List.getElem?_eq_some_iff.mp h).1
  exact ⟨v, hv, k v (own i) H (Same.refl H) hk (fun _ z => z) fun H3 b' as' e1 e2 e3 => E.chg hl hv e1 e2 e3⟩
theorem But.less {as bs : List Addr} {H H' : Hp} (k : But as H H') (h : ∀ p ∈ as, p ∈ bs) : But bs H H' := fun c o hc ho => k c o (fun z => hc (h c z)) ho
theorem But.same {as : List Addr} {H1 H2 H3 : Hp} (e : Same H1 H2) (k : But as H2 H3) : But as H1 H3 := fun c o hc ho => k c o hc (e _ _ ho)
end
end Gt
namespace Gt
open PySem PySem.Spec PyProof.Rows L2
section
variable {α : Type}
theorem set_self {l : List α} {j : Nat} {w : α} (h : l[j]? = some w) : l.set j w = l := by
  apply List.ext_getElem?
  intro k
  by_cases e : j = k
  · subst e
    rw [List.getElem?_set_self (List.getElem?_eq_some_iff.mp h).1, h]
  · rw [List.getElem?_set_ne e]
theorem get_set {l : List α} {j : Nat} {x y : α} (h : l[j]? = some x) : (l.set j y)[j]? = some y := List.getElem?_set_self (List.getElem?_eq_some_iff.mp h).1
theorem nodup_key {xs : List (Str × α)} {j m : Nat} {k : Str} {x y : α} (n : (xs.map (·.1)).Nodup) (h : xs[j]? = some (k, x)) (h' : xs[m]? = some (k, y)) : j = m := by
  have hj := (List.getElem?_eq_some_iff.mp h).1
  have hm := (List.getElem?_eq_some_iff.mp h').1
  have n2 := List.pairwise_iff_getElem.mp n
  have g : ∀ (a b : Nat) (u v : α), xs[a]? = some (k, u) → xs[b]? = some (k, v) → ¬ a < b := fun a b u v ha hb hl => by
    have la := (List.getElem?_eq_some_iff.mp ha).1
    have lb := (List.getElem?_eq_some_iff.mp hb).1
    have := n2 a b (by rw [List.length_map]; exact la) (by rw [List.length_map]; exact lb) hl
    rw [List.getElem_map, List.getElem_map, (List.getElem?_eq_some_iff.mp ha).2, (List.getElem?_eq_some_iff.mp hb).2] at this
    exact this rfl
  have := g j m x y h h'
  have := g m j y x h' h
  omega
theorem dput_at {xs : List (Str × α)} {j : Nat} {k : Str} {x v : α} (n : (xs.map (·.1)).Nodup) (h : xs[j]? = some (k, x)) : dput xs k v = xs.set j (k, v) := by
  have hm : (k, x) ∈ xs := List.mem_of_getElem? h
  unfold dput
  rw [if_pos (List.any_eq_true.mpr ⟨_, hm, decide_eq_true rfl⟩)]
  apply List.ext_getElem?
  intro m
  rw [List.getElem?_map]
  by_cases e : j = m
  · subst e
    rw [List.getElem?_set_self (List.getElem?_eq_some_iff.mp h).1, h]
    show some (if k = k then (k, v) else (k, x)) = _
    rw [if_pos rfl]
  · rw [List.getElem?_set_ne e]
    cases q : xs[m]? with
    | none => rfl
    | some y =>
      show some (if y.1 = k then (y.1, v) else y) = some y
      rw [if_neg fun z => e (nodup_key n h (by rw [q, ← z]))]
theorem keys_set {xs : List (Str × α)} {j : Nat} {k : Str} {x v : α} (h : xs[j]? = some (k, x)) : (xs.set j (k, v)).map (·.1) = xs.map (·.1) := by
  rw [List.map_set]
  exact set_self (by rw [List.getElem?_map, h]; rfl)
end
section
variable {K : PySem.W.Frag} {α β γ δ ρ : Type} {own : Nat → List Addr} {H0 H H1 H' : Hp} {σ : L2.St} {G G' G1 : Cells K} {D : Ends} {u : TS}
variable {R : Rs K β} {te ti tk tx tv ta tb : TE} {i j m : Nat} {b x : β} {n : Int} {r : Rp α} {q : Rp γ} {k : Str}
theorem a3_key {kvs : List (Key × V)} {xs : List (Str × β)} {ss : List (List Addr)} (z : A3 (KvR K R H) kvs xs ss) (h : dkey xs k = some x) : ∃ (j : Nat) (w : V) (s : List Addr), xs[j]? = some (k, x) ∧ kvs[j]? = some (Sum.inr k, w) ∧ ss[j]? = some s ∧ R.rep H w x s ∧ okS k ∧ valV kvs (Sum.inr k : Key) = some w := by
  induction z with
  | nil => cases h
  | @cons a y s as bs ss h1 h2 ih =>
    obtain ⟨a1, a2⟩ := a
    obtain ⟨y1, y2⟩ := y
    obtain ⟨⟨e1, e2⟩, e3⟩ := h1
    have e1 : a1 = Sum.inr y1 := e1
    subst e1
    by_cases e : y1 = k
    · subst e
      have : y2 = x := by
        unfold dkey at h
        rw [List.find?_cons, show decide ((y1, y2).1 = y1) = true from decide_eq_true rfl] at h
        cases h
        rfl
      subst this
      exact ⟨0, a2, s, rfl, rfl, rfl, e3, e2, valV_pos rfl⟩
    · have h' : dkey bs k = some x := by
        unfold dkey at h ⊢
        rw [List.find?_cons, show decide ((y1, y2).1 = k) = false from decide_eq_false e] at h
        exact h
      obtain ⟨j, w, s', g1, g2, g3, g4, g5, g6⟩ := ih h'
      refine ⟨j + 1, w, s', by simpa using g1, by simpa using g2, by simpa using g3, g4, g5, ?_⟩
      rw [valV_neg fun z => e (Sum.inr.inj z)]
      exact g6
/-- a value of a dict of owned things -/
theorem pl_dget {xs : List (Str × β)} {up : List (Str × β) → Cells K} (h : Pl te G i (ndR K R) xs up) (hk : Ev rS tk G k) (hx : dkey xs k = some x) : Pl (tDGet te tk) G i R x fun x' => up (dput xs k x') := fun own H0 σ H E Q c =>
  h own H0 σ H E _ fun v as H1 e1 hr hs cl => by
    have E1 := E.grow e1
    refine hk H0 σ H1 E1.e _ fun y H2 e2 hy => ?_
    have E2 := E1.grow e2
    obtain ⟨p, kvs, ss, ea, ev, hp, z, d, nk⟩ := (ndR K R).stay hr (ext_same e2) fun q _ o ho => e2 _ _ ho
    obtain ⟨j, w, s, hj, hw, hss, hrs, hok, hv⟩ := a3_key z hx
    have hin : ∀ q ∈ s, q ∈ as := fun q hq => by rw [ea]; exact List.mem_cons_of_mem _ (mem_flat hss hq)
    refine ⟨p, w, ev, .inl ⟨kvs, Sum.inr k, .inl hp, hy.1, hv.symm⟩, c w s H2 (e1.trans e2) hrs (fun q hq => hs q (hin q hq)) fun H3 b' s' k1 k2 k3 => ?_⟩
    have fresh : ∀ q ∈ s', q ∈ s ∨ (q ≠ p ∧ q ∉ ss.flatten) := fun q hq => (k2 q hq).imp id fun f => ⟨fun e => f.2 i (hs q (by rw [ea, e]; exact List.mem_cons_self ..)), fun hm => f.2 i (hs q (by rw [ea]; exact List.mem_cons_of_mem _ hm))⟩
    have xT : ExT K H2 H3 := E2.ext (i := i) (fun q hq => hs q (hin q hq)) k1
    refine cl H3 (dput xs k b') (p :: (ss.set j s').flatten) ((k1.less hin).same e2) (fun q hq => ?_) ⟨p, kvs, ss.set j s', rfl, ev, k1 p _ (d.1 j s hss) hp, ?_, d.put hss fresh, by rw [dput_at nk hj, keys_set hj]; exact nk⟩
    · rcases List.mem_cons.mp hq with c | c
      · exact .inl (by rw [ea, c]; exact List.mem_cons_self ..)
      · rcases flat_put c with c | c
        · exact (k2 q c).imp (hin q) id
        · exact .inl (by rw [ea]; exact List.mem_cons_of_mem _ c)
    · have := z.put (q := KvR K R H3) (j := j) (a := (Sum.inr k, w)) (b := (k, b')) (s := s') (fun m a b t hm ht hr => ⟨hr.1, R.stay hr.2 xT fun q hq o ho => k1 q o (fun zz => hm (d.2 m j t s q ht hss hq zz)) ho⟩) ⟨⟨rfl, hok⟩, k3⟩
      rw [set_self hw] at this
      rw [dput_at nk hj]
      exact this
/-- the parts of a list of three owned things -/
theorem pl_h {R' : Rs K γ} {R2 : Rs K δ} {ρ : Type} {Rj : Rs K ρ} {y : β × γ × δ} {up : β × γ × δ → Cells K} {jn : Nat} {z : ρ} {set : ρ → β × γ × δ} (hj : jn < 3)
    (get : ∀ H a b c s t u, (R.rep H a y.1 s ∧ R'.rep H b y.2.1 t ∧ R2.rep H c y.2.2 u) → ∃ w s', [a, b, c][jn]? = some w ∧ [s, t, u][jn]? = some s' ∧ Rj.rep H w z s')
    (put : ∀ (H H' : Hp) a b c s t u w s' z', (R.rep H a y.1 s ∧ R'.rep H b y.2.1 t ∧ R2.rep H c y.2.2 u) → [a, b, c][jn]? = some w → Rj.rep H' w z' s' → ExT K H H' → (∀ (l : Nat) (e : List Addr), l ≠ jn → [s, t, u][l]? = some e → ∀ q ∈ e, ∀ o, H q = some o → H' q = some o) →
      ∃ s2 t2 u2, [s, t, u].set jn s' = [s2, t2, u2] ∧ (R.rep H' a (set z').1 s2 ∧ R'.rep H' b (set z').2.1 t2 ∧ R2.rep H' c (set z').2.2 u2))
    (h : Pl te G i (nH3 K R R' R2) y up) : Pl (tOp (rIx K) te (tC (.int (jn : Nat)))) G i Rj z fun z' => up (set z') := fun own H0 σ H E Q cc =>
  h own H0 σ H E _ fun v as H1 e1 hr hs cl => by
    have E1 := E.grow e1
    obtain ⟨p, a, b, c, s, t, u, ea, ev, hp, hz, d⟩ := hr
    obtain ⟨w, sj, hw, hss, hrs⟩ := get H1 a b c s t u hz
    have hin : ∀ q ∈ sj, q ∈ as := fun q hq => by rw [ea]; exact List.mem_cons_of_mem _ (mem_flat hss hq)
    have hat : atI [a, b, c] ((jn : Nat) : Int) = some w := by
      unfold atI ixN
      rw [if_pos (Int.natCast_nonneg _), if_pos (by show ((jn : Nat) : Int) < ((3 : Nat) : Int); omega)]
      exact hw
    refine .inl ⟨p, [a, b, c], (jn : Nat), w, ev, rfl, SqL.of hp, hat, cc w sj H1 e1 hrs (fun q hq => hs q (hin q hq)) fun H3 b' s' k1 k2 k3 => ?_⟩
    have xT : ExT K H1 H3 := E1.ext (i := i) (fun q hq => hs q (hin q hq)) k1
    have fresh : ∀ q ∈ s', q ∈ sj ∨ (q ≠ p ∧ q ∉ [s, t, u].flatten) := fun q hq => (k2 q hq).imp id fun f => ⟨fun e => f.2 i (hs q (by rw [ea, e]; exact List.mem_cons_self ..)), fun hm => f.2 i (hs q (by rw [ea]; exact List.mem_cons_of_mem _ hm))⟩
    obtain ⟨s2, t2, u2, e2, hr2⟩ := put H1 H3 a b c s t u w s' b' hz hw k3 xT fun l e hl he q hq o ho => k1 q o (fun zz => hl (d.2 l jn e sj q he hss hq zz)) ho
    have d2 := d.put hss fresh
    rw [e2] at d2
    refine cl H3 (set b') (p :: [s2, t2, u2].flatten) (k1.less hin) (fun q hq => ?_) ⟨p, a, b, c, s2, t2, u2, rfl, ev, k1 p _ (d.1 jn sj hss) hp, hr2, d2⟩
    rcases List.mem_cons.mp hq with c | c
    · exact .inl (by rw [ea, c]; exact List.mem_cons_self ..)
    · rw [← e2] at c
      rcases flat_put c with c | c
      · exact (k2 q c).imp (hin q) id
      · exact .inl (by rw [ea]; exact List.mem_cons_of_mem _ c)
section
variable {R' : Rs K γ} {R2 : Rs K δ} {y : β × γ × δ} {up : β × γ × δ → Cells K}
theorem pl_h0 (h : Pl te G i (nH3 K R R' R2) y up) : Pl (tOp (rIx K) te (tC (.int 0))) G i R y.1 fun z => up (z, y.2) :=
  pl_h (jn := 0) (Rj := R) (set := fun z => (z, y.2)) (by decide) (fun H a b c s t u h => ⟨a, s, rfl, rfl, h.1⟩) (fun H H' a b c s t u w s' z' h hw hz x k => by
    cases hw
    exact ⟨s', t, u, rfl, hz, R'.stay h.2.1 x (k 1 t (by decide) rfl), R2.stay h.2.2 x (k 2 u (by decide) rfl)⟩) h
theorem pl_h1 (h : Pl te G i (nH3 K R R' R2) y up) : Pl (tOp (rIx K) te (tC (.int 1))) G i R' y.2.1 fun z => up (y.1, z, y.2.2) :=
  pl_h (jn := 1) (Rj := R') (set := fun z => (y.1, z, y.2.2)) (by decide) (fun H a b c s t u h => ⟨b, t, rfl, rfl, h.2.1⟩) (fun H H' a b c s t u w s' z' h hw hz x k => by
    cases hw
    exact ⟨s, s', u, rfl, R.stay h.1 x (k 0 s (by decide) rfl), hz, R2.stay h.2.2 x (k 2 u (by decide) rfl)⟩) h
theorem pl_h2 (h : Pl te G i (nH3 K R R' R2) y up) : Pl (tOp (rIx K) te (tC (.int 2))) G i R2 y.2.2 fun z => up (y.1, y.2.1, z) :=
  pl_h (jn := 2) (Rj := R2) (set := fun z => (y.1, y.2.1, z)) (by decide) (fun H a b c s t u h => ⟨c, u, rfl, rfl, h.2.2⟩) (fun H H' a b c s t u w s' z' h hw hz x k => by
    cases hw
    exact ⟨s, t, s', rfl, R.stay h.1 x (k 0 s (by decide) rfl), R'.stay h.2.1 x (k 1 t (by decide) rfl), hz⟩) h
end
/-- what stands at a place, read -/
theorem Pl.ev {up : β → Cells K} {rv : Rp β} (h : Pl te G i R b up) (f : ∀ H v as, R.rep H v b as → rv H v b) : Ev rv te G b := fun H0 σ H E Q c => let ⟨own, E⟩ := E.o; h own H0 σ H E Q fun v as H1 e1 hr _ _ => c v H1 e1 (f _ _ _ hr)
theorem vw_nl {H : Hp} {v : V} {xs : List α} {as : List Addr} (h : (nl K r).rep H v xs as) : rL r H v xs := let ⟨p, vs, _, ev, hp, z⟩ := h; ⟨p, vs, ev, hp, nows z⟩
theorem A3.a2 {α β : Type} {r : α → β → List Addr → Prop} {q : α → β → Prop} {as : List α} {bs : List β} {ss : List (List Addr)} (h : A3 r as bs ss) (f : ∀ a b s, r a b s → q a b) : A2 q as bs := h.two.imp fun _ _ ⟨s, z⟩ => f _ _ s z
theorem vw_nlR {rv : Rp β} (f : ∀ H v b as, R.rep H v b as → rv H v b) {H : Hp} {v : V} {xs : List β} {as : List Addr} (h : (nlR K R).rep H v xs as) : rL rv H v xs := let ⟨p, vs, _, _, ev, hp, z, _⟩ := h; ⟨p, vs, ev, hp, z.a2 fun _ _ _ w => f _ _ _ _ w⟩
theorem vw_ndR {rv : Rp β} (f : ∀ H v b as, R.rep H v b as → rv H v b) {H : Hp} {v : V} {xs : List (Str × β)} {as : List Addr} (h : (ndR K R).rep H v xs as) : rD rv H v xs := let ⟨p, kvs, _, _, ev, hp, z, _⟩ := h; ⟨p, kvs, ev, .inl hp, z.a2 fun _ _ _ w => ⟨w.1, f _ _ _ _ w.2⟩⟩
/-- three things in a list, read -/
def rH3 {α β γ : Type} (r : Rp α) (q : Rp β) (t : Rp γ) : Rp (α × β × γ) := fun H v x => ∃ p a b c, v = .ref p ∧ H p = some (.lst [a, b, c]) ∧ r H a x.1 ∧ q H b x.2.1 ∧ t H c x.2.2
instance {α β γ : Type} {r : Rp α} {q : Rp β} {t : Rp γ} [M : Mono r] [N : Mono q] [O : Mono t] : Mono (rH3 r q t) := ⟨fun e ⟨p, a, b, c, ev, h, h1, h2, h3⟩ => ⟨p, a, b, c, ev, e _ _ h, M.up e h1, N.up e h2, O.up e h3⟩⟩
theorem vw_nH3 {R' : Rs K γ} {R2 : Rs K δ} {r1 : Rp β} {r2 : Rp γ} {r3 : Rp δ} (f : ∀ H v b as, R.rep H v b as → r1 H v b) (g : ∀ H v b as, R'.rep H v b as → r2 H v b) (h : ∀ H v b as, R2.rep H v b as → r3 H v b) {H : Hp} {v : V} {y : β × γ × δ} {as : List Addr} (z : (nH3 K R R' R2).rep H v y as) : rH3 r1 r2 r3 H v y :=
  let ⟨p, a, b, c, s, t, u, _, ev, hp, z, _⟩ := z; ⟨p, a, b, c, ev, hp, f _ _ _ _ z.1, g _ _ _ _ z.2.1, h _ _ _ _ z.2.2⟩
section
variable {r1 : Rp β} {r2 : Rp γ} {r3 : Rp δ} {y : β × γ × δ}
theorem ev_h0 [M : Mono r1] (h : Ev (rH3 r1 r2 r3) ta G y) : Ev r1 (tOp (rIx K) ta (tC (.int 0))) G y.1 := fun H0 σ H E Q c => h H0 σ H E _ fun v H1 e1 ⟨p, a, b, d, ev, hp, h1, h2, h3⟩ => .inl ⟨p, [a, b, d], 0, a, ev, rfl, SqL.of hp, rfl, c a H1 e1 h1⟩
theorem ev_h1 [M : Mono r2] (h : Ev (rH3 r1 r2 r3) ta G y) : Ev r2 (tOp (rIx K) ta (tC (.int 1))) G y.2.1 := fun H0 σ H E Q c => h H0 σ H E _ fun v H1 e1 ⟨p, a, b, d, ev, hp, h1, h2, h3⟩ => .inl ⟨p, [a, b, d], 1, b, ev, rfl, SqL.of hp, rfl, c b H1 e1 h2⟩
theorem ev_h2 [M : Mono r3] (h : Ev (rH3 r1 r2 r3) ta G y) : Ev r3 (tOp (rIx K) ta (tC (.int 2))) G y.2.2 := fun H0 σ H E Q c => h H0 σ H E _ fun v H1 e1 ⟨p, a, b, d, ev, hp, h1, h2, h3⟩ => .inl ⟨p, [a, b, d], 2, d, ev, rfl, SqL.of hp, rfl, c d H1 e1 h3⟩
end
/-- a name for an item of the list at slot i -/
def rAl (i : Nat) : Rp V := fun _ v w => v = w
instance : Frz K (rAl i) := ⟨fun _ h => h⟩
instance : Mono (rAl i) := ⟨fun _ h => h⟩
theorem q_alias2 {xss : List β} {x : β} (hi : G[i]? = some (some (.ow (nlR K R) xss))) (ht : Ev rI ti G n) (hj : ixN xss.length n = some j) (hx : xss[j]? = some x) (hm : m ≠ i) (kk : ∀ w, Sv H0 ((G.set i (some (.ow (nlRat K R j w) xss))).set m (fc (rAl i) w)) u D) :
    Sv H0 G (tSeq (tAsg (tOp (rIx K) (tVar i) ti) (gName m)) u) D := fun σ H ⟨H1, e1, E⟩ => by
  obtain ⟨own, E⟩ := E.o
  obtain ⟨v, hv, hr⟩ := E.at_ i _ hi
  have hl : i < G.length := (List.getElem?_eq_some_iff.mp hi).1
  refine ⟨v, hv, ht H1 σ H E.e _ fun y H2 e2 hy => ?_⟩
  have E2 := E.grow e2
  obtain ⟨v', hv', hr2⟩ := E2.at_ i _ hi
  rw [hv] at hv'
  cases hv'
  obtain ⟨p, vs, ss, ea, ev, hp, z, d⟩ := hr2
  obtain ⟨w, s, hw, hss, hrs⟩ := z.get hx
  have hat : atI vs n = some w := by
    unfold atI
    rw [z.len, hj]
    exact hw
  have E3 : Env H1 σ H2 (G.set i (some (.ow (nlRat K R j w) xss))) := E2.chg hl hv (fun c o _ ho => ho) (fun p hp => .inl hp) ⟨p, vs, ss, ea, ev, hp, z, d, hw⟩
  exact .inl ⟨p, vs, n, w, ev, hy, SqL.of hp, hat, kk w _ _ ⟨H1, e1, E3.put (R := fz K (rAl i)) (as := []) (Same.refl _) (fun _ z => nomatch z) ⟨rfl, fun _ _ => rfl⟩⟩⟩
theorem pl_at {xss : List β} {x : β} {w : V} (hm : G[m]? = some (fc (rAl i) w)) (hi : G[i]? = some (some (.ow (nlRat K R j w) xss))) (hx : xss[j]? = some x) : Pl (tVar m) G i R x fun x' => G.set i (some (.ow (nlRat K R j w) (xss.set j x'))) := fun own H0 σ H E Q c => by
  obtain ⟨v0, hv0, hr0⟩ := E.at_ m _ hm
  have ev0 : v0 = w := hr0.2 H (ExT.refl _)
  subst ev0
  obtain ⟨v, hv, p, vs, ss, ea, ev, hp, z, d, hw⟩ := E.at_ i _ hi
  have hl : i < G.length := (List.getElem?_eq_some_iff.mp hi).1
  obtain ⟨w', s, hw', hss, hrs⟩ := z.get hx
  rw [hw] at hw'
  cases hw'
  have hin : ∀ q ∈ s, q ∈ own i := fun q hq => by rw [ea]; exact List.mem_cons_of_mem _ (mem_flat hss hq)
  refine ⟨v0, hv0, c v0 s H (Same.refl H) hrs hin fun H3 b' s' k1 k2 k3 => ?_⟩
  have fresh : ∀ q ∈ s', q ∈ s ∨ (q ≠ p ∧ q ∉ ss.flatten) := fun q hq => (k2 q hq).imp id fun f => ⟨fun e => f.2 i (by rw [ea, e]; exact List.mem_cons_self ..), fun hm => f.2 i (by rw [ea]; exact List.mem_cons_of_mem _ hm)⟩
  have xT : ExT K H H3 := E.ext (i := i) hin k1
  refine E.chg hl hv (k1.less hin) (fun q hq => ?_) (R' := nlRat K R j v0) (as' := p :: (ss.set j s').flatten) ⟨p, vs, ss.set j s', rfl, ev, k1 p _ (d.1 j s hss) hp, ?_, d.put hss fresh, hw⟩
  · rcases List.mem_cons.mp hq with c | c
    · exact .inl (by rw [ea, c]; exact List.mem_cons_self ..)
    · rcases flat_put c with c | c
      · exact (k2 q c).imp (hin q) id
      · exact .inl (by rw [ea]; exact List.mem_cons_of_mem _ c)
  · have := z.put (q := R.rep H3) (j := j) (a := v0) (b := b') (s := s') (fun m a b t hm ht hr => R.stay hr xT fun q hq o ho => k1 q o (fun zz => hm (d.2 m j t s q ht hss hq zz)) ho) k3
    rw [set_self hw] at this
    exact this
theorem a_al {r : Rp α} {xss : List (List α)} {x : List α} {w : V} (hm : G[m]? = some (fc (rAl i) w)) (hi : G[i]? = some (some (.ow (nlRat K (nl K r) j w) xss))) (hx : xss[j]? = some x) : Ev (rL r) (tVar m) G x := (pl_at hm hi hx).ev fun _ _ _ z => vw_nl z
theorem have_unat {xss : List β} {w : V} (hi : G[i]? = some (some (.ow (nlRat K R j w) xss))) (h : Have H0 G σ H) : Have H0 (G.set i (some (.ow (nlR K R) xss))) σ H := by
  obtain ⟨H1, e, E⟩ := h
  obtain ⟨own, E⟩ := E.o
  obtain ⟨v, hv, p, vs, ss, ea, ev, hp, z, d, hw⟩ := E.at_ i _ hi
  exact ⟨H1, e, E.chg (List.getElem?_eq_some_iff.mp hi).1 hv (fun c o _ ho => ho) (fun p hp => .inl hp) ⟨p, vs, ss, ea, ev, hp, z, d⟩⟩
theorem but_upd {p : Addr} {o : HO} : But [p] H (upd H p o) := fun c w hc ho => by
  rw [upd_ne fun z => hc (by rw [z]; exact List.mem_singleton.mpr rfl)]
  exact ho
theorem l_appP {xs : List α} {a : α} {up : List α → Cells K} (h : Pl te G i (nl K r) xs up) (ha : Ev r ta G a) (hz : xs.length < 100000) (kk : Nx H0 (up (xs ++ [a])) D.nx) (F : Frz K r := by infer_instance) : Sv H0 G (tDrop (tBM K "list" rAppend te (tCons ta tNil))) D := fun σ H ⟨H1, e1, E⟩ => by
  obtain ⟨own, E⟩ := E.o
  refine h own H1 σ H E _ fun v as H2 e2 hr hs cl => ?_
  obtain ⟨p, vs, ea, ev, hp, z⟩ := hr
  subst ev
  refine ⟨.inl ⟨rfl, vs, SqL.of hp⟩, ha H1 σ H2 (E.grow e2).e _ fun w H3 e3 hw => ?_⟩
  have hp3 := e3 _ _ hp
  have x0 : ExT K H3 (upd H3 p (.lst (vs ++ [w]))) := ext_upd hp3 fun z => z
  refine ⟨p, vs, w, rfl, rfl, hp3, Nat.lt_of_le_of_lt (by rw [z.len]; omega) (by decide : 100000 < sizeLine), kk _ _ ⟨H1, e1, cl _ _ [p] ?_ (fun q hq => .inl (by rw [ea]; exact hq)) ⟨p, _, rfl, rfl, upd_same, A2.app (A2.one ((stb hw).up x0)) (z.imp fun _ _ q => (q.up (ext_same e3)).up x0)⟩⟩⟩
  rw [ea]
  exact but_upd.same e3
theorem q_appP {xs : List α} {a : α} {up : List α → Cells K} (h : Pl te G i (nl K r) xs up) (ha : Ev r ta G a) (hz : xs.length < 100000) (kk : Sv H0 (up (xs ++ [a])) u D) (F : Frz K r := by infer_instance) : Sv H0 G (tSeq (tDrop (tBM K "list" rAppend te (tCons ta tNil))) u) D := l_appP (D := { D with nx := u D }) h ha hz kk
theorem l_lsetP {xs : List α} {a : α} {up : List α → Cells K} (ha : Ev r ta G a) (h : Pl te G i (nl K r) xs up) (hn : Ev rI ti G n) (hj : ixN xs.length n = some j) (kk : Nx H0 (up (xs.set j a)) D.nx) (F : Frz K r := by infer_instance) : Sv H0 G (tAsg ta (gSub te ti rSetL)) D := fun σ H ⟨H1, e1, E⟩ => by
  obtain ⟨own, E⟩ := E.o
  refine ha H1 σ H E.e _ fun w H2 e2 hw => h own H1 σ H2 (E.grow e2) _ fun v as H3 e3 hr hs cl => ?_
  refine hn H1 σ H3 ((E.grow e2).grow e3).e _ fun y H4 e4 hy => ?_
  obtain ⟨p, vs, ea, ev, hp, z⟩ := hr
  have hp4 := e4 _ _ hp
  have x0 : ExT K H4 (upd H4 p (.lst (vs.set j w))) := ext_upd hp4 fun z => z
  refine ⟨p, vs, n, j, ev, hy, hp4, by rw [z.len]; exact hj, kk _ _ ⟨H1, e1, cl _ _ [p] ?_ (fun q hq => .inl (by rw [ea]; exact hq)) ⟨p, _, rfl, ev, upd_same, A2.set ((stb (F.up (ext_same (e3.trans e4)) hw)).up x0) j (z.imp fun _ _ q => (q.up (ext_same e4)).up x0)⟩⟩⟩
  rw [ea]
  exact but_upd.same e4
theorem q_lsetP {xs : List α} {a : α} {up : List α → Cells K} (ha : Ev r ta G a) (h : Pl te G i (nl K r) xs up) (hn : Ev rI ti G n) (hj : ixN xs.length n = some j) (kk : Sv H0 (up (xs.set j a)) u D) (F : Frz K r := by infer_instance) : Sv H0 G (tSeq (tAsg ta (gSub te ti rSetL)) u) D := l_lsetP (D := { D with nx := u D }) ha h hn hj kk
/-- d[k] = a new thing -/
theorem l_dputP {xs : List (Str × β)} {up : List (Str × β) → Cells K} (hb : Nw R tv G b) (h : Pl te G i (ndR K R) xs up) (hk : Ev rS tk G k) (hz : xs.length < 100000) (kk : Nx H0 (up (dput xs k b)) D.nx) : Sv H0 G (sDPut te tk tv) D := fun σ H ⟨H1, e1, E⟩ => by
  obtain ⟨own, E⟩ := E.o
  refine hb H1 σ H E.e _ fun w H2 bs e2 hn hw => h own H1 σ H2 (E.grow e2) _ fun v as H3 e3 hr hs cl => ?_
  refine hk H1 σ H3 ((E.grow e2).grow e3).e _ fun y H4 e4 hy => ?_
  have E4 := ((E.grow e2).grow e3).grow e4
  obtain ⟨p, kvs, ss, ea, ev, hp, z, d, nk⟩ := (ndR K R).stay hr (ext_same e4) fun q _ o ho => e4 _ _ ho
  have hw4 := R.stay hw (ext_same (e3.trans e4)) fun q _ o ho => (e3.trans e4) _ _ ho
  have hfr : ∀ q ∈ bs, Fr own H1 q := fun q hq => E.fr (hn q hq)
  have hl : kvs.length < sizeLine := Nat.lt_of_le_of_lt (by rw [z.len]; omega) (by decide : 100000 < sizeLine)
  have x0 : ExT K H4 (upd H4 p (.dK (putK kvs (Sum.inr k : Key) w))) := ext_upd hp fun z => z
  have hout : ∀ q ∈ bs, q ≠ p ∧ q ∉ ss.flatten := fun q hq => ⟨fun e => (hfr q hq).2 i (hs q (by rw [ea, e]; exact List.mem_cons_self ..)), fun hm => (hfr q hq).2 i (hs q (by rw [ea]; exact List.mem_cons_of_mem _ hm))⟩
  have stay : ∀ (v : V) (c : β) (t : List Addr), p ∉ t → R.rep H4 v c t → R.rep (upd H4 p (.dK (putK kvs (Sum.inr k : Key) w))) v c t := fun v c t hp' hr => R.stay hr x0 fun q hq o ho => by rw [upd_ne fun z => hp' (by rw [← z]; exact hq)]; exact ho
  have hwN := stay w b bs (fun z => (hout p z).1 rfl) hw4
  have oldN : A3 (KvR K R (upd H4 p (.dK (putK kvs (Sum.inr k : Key) w)))) kvs xs ss := z.imp fun a c t ht hr => ⟨hr.1, stay _ _ _ (by obtain ⟨m, hm⟩ := List.mem_iff_getElem?.mp ht; exact d.1 m t hm) hr.2⟩
  refine ⟨p, _, ev, .inl ⟨kvs, Sum.inr k, hp, hy.1, hl, rfl⟩, kk _ _ ⟨H1, e1, ?_⟩⟩
  have fin : ∀ (ss' : List (List Addr)), A3 (KvR K R (upd H4 p (.dK (putK kvs (Sum.inr k : Key) w)))) (putK kvs (Sum.inr k : Key) w) (dput xs k b) ss' → DJ p ss' → (∀ q ∈ ss'.flatten, q ∈ bs ∨ q ∈ ss.flatten) → ((dput xs k b).map (·.1)).Nodup → Env H1 σ (upd H4 p (.dK (putK kvs (Sum.inr k : Key) w))) (up (dput xs k b)) := fun ss' h1 h2 h3 h4 => by
    refine cl _ _ (p :: ss'.flatten) ((but_upd.same e4).less fun q hq => by rw [List.mem_singleton.mp hq, ea]; exact List.mem_cons_self ..) (fun q hq => ?_) ⟨p, _, ss', rfl, ev, upd_same, h1, h2, h4⟩
    rcases List.mem_cons.mp hq with c | c
    · exact .inl (by rw [ea, c]; exact List.mem_cons_self ..)
    · exact (h3 q c).elim (fun z => .inr (hfr q z)) fun z => .inl (by rw [ea]; exact List.mem_cons_of_mem _ z)
  have eqk := kv_any (z.a2 (q := Kv fun _ _ => True) fun _ _ _ w => ⟨w.1, trivial⟩) k
  cases q : dkey xs k with
  | some x =>
    obtain ⟨j, w0, s, hj, hw0, hss, hrs, hok, hv⟩ := a3_key z q
    have eP : putK kvs (Sum.inr k : Key) w = kvs.set j (Sum.inr k, w) := by
      unfold putK
      rw [if_pos (List.any_eq_true.mpr ⟨_, List.mem_of_getElem? hw0, decide_eq_true rfl⟩)]
      apply List.ext_getElem?
      intro m
      rw [List.getElem?_map]
      by_cases e : j = m
      · subst e
        rw [List.getElem?_set_self (List.getElem?_eq_some_iff.mp hw0).1, hw0]
        show some (if (Sum.inr k : Key) = Sum.inr k then _ else _) = _
        rw [if_pos rfl]
      · rw [List.getElem?_set_ne e]
        cases qq : kvs[m]? with
        | none => rfl
        | some y =>
          show some (if y.1 = (Sum.inr k : Key) then (y.1, w) else y) = some y
          have hm : m < xs.length := by rw [← z.len]; exact (List.getElem?_eq_some_iff.mp qq).1
          obtain ⟨a', t, ha', _, hkv⟩ := z.get (List.getElem?_eq_getElem hm)
          rw [qq] at ha'
          cases ha'
          rw [if_neg fun zz => e (nodup_key nk hj (y := xs[m].2) (by
            rw [List.getElem?_eq_getElem hm]
            have : xs[m].1 = k := Sum.inr.inj (hkv.1.1.symm.trans zz)
            rw [← this]))]
    have h1 := oldN.put (q := KvR K R (upd H4 p (.dK (putK kvs (Sum.inr k : Key) w)))) (j := j) (a := (Sum.inr k, w)) (b := (k, b)) (s := bs) (fun _ _ _ _ _ _ z => z) ⟨⟨rfl, hok⟩, hwN⟩
    rw [← dput_at nk hj] at h1
    refine fin (ss.set j bs) (by rw [eP] at h1 ⊢; exact h1) (d.put hss fun q hq => .inr (hout q hq)) (fun q hq => flat_put hq) (by rw [dput_at nk hj, keys_set hj]; exact nk)
  | none =>
    have hno : ∀ y ∈ xs, y.1 ≠ k := fun y hy e => by
      unfold dkey at q
      have := List.find?_eq_none.mp (Option.map_eq_none_iff.mp q) y hy
      exact this (decide_eq_true e)
    have eD : dput xs k b = xs ++ [(k, b)] := by
      unfold dput
      rw [if_neg]
      intro hh
      obtain ⟨y, hy, e⟩ := List.any_eq_true.mp hh
      exact hno y hy (of_decide_eq_true e)
    have eP : putK kvs (Sum.inr k : Key) w = kvs ++ [(Sum.inr k, w)] := by
      unfold putK
      rw [if_neg]
      rw [eqk]
      intro hh
      obtain ⟨y, hy, e⟩ := List.any_eq_true.mp hh
      exact hno y hy (of_decide_eq_true e)
    rw [eD] at fin ⊢
    rw [eP] at fin oldN hwN ⊢
    refine fin (ss ++ [bs]) (oldN.app (.cons ⟨⟨rfl, hy.2⟩, hwN⟩ .nil)) (d.app hout) (fun q hq => ?_) ?_
    · rw [List.flatten_append, List.flatten_cons, List.flatten_nil, List.append_nil] at hq
      exact (List.mem_append.mp hq).symm
    · rw [List.map_append]
      refine List.nodup_append.mpr ⟨nk, List.pairwise_singleton _ _, fun a ha c hc e => ?_⟩
      obtain ⟨y, hy, e1⟩ := List.mem_map.mp ha
      have hc : c = k := List.mem_singleton.mp hc
      exact hno y hy (by rw [e1, e, hc])
theorem q_dputP {xs : List (Str × β)} {up : List (Str × β) → Cells K} (hb : Nw R tv G b) (h : Pl te G i (ndR K R) xs up) (hk : Ev rS tk G k) (hz : xs.length < 100000) (kk : Sv H0 (up (dput xs k b)) u D) : Sv H0 G (tSeq (sDPut te tk tv) u) D := l_dputP (D := { D with nx := u D }) hb h hk hz kk
end
end Gt
namespace Gt
open PySem PySem.Spec PyProof.Rows L2
section
variable {K : PySem.W.Frag} {α β γ δ ρ : Type} {own : Nat → List Addr} {H0 H H1 H2 H' H'' : Hp} {σ : L2.St} {G G' G1 : Cells K} {D : Ends} {u : TS}
variable {R : Rs K β} {te ti tk tx tv ta tb : TE} {i j m : Nat} {b : β} {x : α} {n : Int} {r : Rp α} {q : Rp γ} {k : Str}
/-- H2: the ground H1 with what came between H and H' -/
structure Gnd (K : PySem.W.Frag) (H1 H H' H2 : Hp) : Prop where
  low : Same H1 H2
  up : Same H2 H'
  new : ∀ b o, H b = none → H' b = some o → H2 b = some o
  ext : ExT K H' H2
theorem Gnd.self (h : Same H1 H) (e : Same H H') : Gnd K H1 H H' H' := ⟨h.trans e, Same.refl _, fun _ _ _ h => h, ExT.refl _⟩
theorem Gnd.cut (h1 : Same H1 H) (e : Same H H') (e' : Same H' H'') (g : Gnd K H1 H H'' H2) : ∃ H3, Gnd K H1 H H' H3 ∧ Same H3 H2 := by
  refine ⟨fun b => if H' b = none then none else H2 b, ⟨fun b o hb => ?_, fun b o hb => ?_, fun b o hn ho => ?_, fun a xs hq => ?_, fun a xs hq => ?_⟩, fun b o hb => ?_⟩
  · have hb' := e _ _ (h1 _ _ hb)
    show (if H' b = none then none else H2 b) = some o
    rw [if_neg (by rw [hb']; exact fun z => nomatch z)]
    exact g.low _ _ hb
  · have hb : (if H' b = none then none else H2 b) = some o := hb
    split at hb
    · cases hb
    · rename_i ne
      cases q : H' b with
      | none => exact absurd q ne
      | some o' =>
        have := e' _ _ q
        rw [g.up _ _ hb] at this
        exact this.symm
  · show (if H' b = none then none else H2 b) = some o
    rw [if_neg (by rw [ho]; exact fun z => nomatch z)]
    exact g.new _ _ hn (e' _ _ ho)
  · have key : ∀ o, H' a = some o → H2 a = some o → (if H' a = none then none else H2 a) = some o := fun o ho h2 => by rw [if_neg (by rw [ho]; exact fun z => nomatch z)]; exact h2
    have at2 : ∀ o, H' a = some o → H2 a = none → K.lookup a = none → False := fun _ _ _ _ => by
      rcases hq with (hq | ⟨o', hq⟩) | hq
      · rcases g.ext.t a xs (.inl (.inl (e' _ _ hq))) with (z | ⟨_, z⟩) | ⟨o, its, n, z, _⟩ <;> simp_all
      · rcases g.ext.t a xs (.inl (.inr ⟨o', e' _ _ hq⟩)) with (z | ⟨_, z⟩) | ⟨o, its, n, z, _⟩ <;> simp_all
      · obtain ⟨o, its, n, z, _⟩ := hq; simp_all
    rcases hq with (hq | ⟨o', hq⟩) | hq
    · rcases g.ext.t a xs (.inl (.inl (e' _ _ hq))) with (z | ⟨o2, z⟩) | z
      · exact .inl (.inl (key _ hq z))
      · have := g.up _ _ z
        rw [e' _ _ hq] at this
        cases this
      · exact .inr z
    · rcases g.ext.t a xs (.inl (.inr ⟨o', e' _ _ hq⟩)) with (z | ⟨o2, z⟩) | z
      · have := g.up _ _ z
        rw [e' _ _ hq] at this
        cases this
      · have := g.up _ _ z
        rw [e' _ _ hq] at this
        cases this
        exact .inl (.inr ⟨_, key _ hq z⟩)
      · exact .inr z
    · exact .inr hq
  · rcases hq with ⟨o', hq, hd⟩ | hq
    · rcases g.ext.d a xs (.inl ⟨o', e' _ _ hq, hd⟩) with ⟨o2, z, hd2⟩ | z
      · have w := g.up _ _ z
        rw [e' _ _ hq] at w
        cases w
        exact .inl ⟨_, by show (if H' a = none then none else H2 a) = _; rw [if_neg (by rw [hq]; exact fun z => nomatch z)]; exact z, hd⟩
      · exact .inr z
    · exact .inr hq
  · have hb : (if H' b = none then none else H2 b) = some o := hb
    split at hb
    · cases hb
    · exact hb
def Rg (r : Rp α) (te : TE) (G : Cells K) (x : α) : Prop := ∀ H1 σ H, Env H1 σ H G → ∀ Q : VK, (∀ v H', Same H H' → (∀ H2, Gnd K H1 H H' H2 → r H2 v x) → Q v H') → te σ H Q
theorem Rg.ev (h : Rg r te G x) : Ev r te G x := fun H1 σ H E Q c => h H1 σ H E _ fun v H' e g => c v H' e (g H' (.self E.old e))
theorem rg_ro {M : Mono r} (h : G[i]? = some (some (.ro r M x))) : Rg r (tVar i) G x := fun H1 σ H E Q c => by
  obtain ⟨own, _, _, h3⟩ := E.at_
  obtain ⟨v, hv, _, hr⟩ := h3 i _ h
  exact ⟨v, hv, c v H (Same.refl H) fun H2 g => M.up g.low hr⟩
theorem rg_new {rv : Rp β} (h : Nw R te G b) (f : ∀ H v as, R.rep H v b as → rv H v b) : Rg rv te G b := fun H1 σ H E Q c => h H1 σ H E _ fun v H' as e hn hr => c v H' e fun H2 g => f _ _ as (R.stay hr g.ext fun p hp o ho => g.new _ _ (hn p hp) ho)
theorem rg_ixL {xs : List α} [M : Mono r] (h : Rg (rL r) ta G xs) (hi : Ev rI tb G n) (hx : atI xs n = some x) : Rg r (tOp (rIx K) ta tb) G x := fun H1 σ H E Q c =>
  h H1 σ H E _ fun v Ha e g => by
    obtain ⟨p, vs, ev, hp, z⟩ := g Ha (.self E.old e)
    refine hi H1 σ Ha (E.grow e) _ fun y Hb e' hy => ?_
    obtain ⟨w, hw, _⟩ := atI_A2 z hx
    refine .inl ⟨p, vs, n, w, ev, hy, SqL.of (e' _ _ hp), hw, c w Hb (e.trans e') fun H2 g2 => ?_⟩
    obtain ⟨H3, g3, s3⟩ := Gnd.cut E.old e e' g2
    obtain ⟨p', vs', ev', hp', z'⟩ := g H3 g3
    rw [ev] at ev'
    cases ev'
    have := g3.up _ _ hp'
    rw [hp] at this
    cases this
    obtain ⟨w', hw', hr⟩ := atI_A2 z' hx
    rw [hw] at hw'
    cases hw'
    exact M.up s3 hr
theorem rg_dget {xs : List (Str × α)} [M : Mono r] (h : Rg (rD r) ta G xs) (hk : Ev rS tk G k) (hx : dkey xs k = some x) : Rg r (tDGet ta tk) G x := fun H1 σ H E Q c =>
  h H1 σ H E _ fun v Ha e g => by
    obtain ⟨p, kvs, ev, hp, z⟩ := g Ha (.self E.old e)
    refine hk H1 σ Ha (E.grow e) _ fun y Hb e' hy => ?_
    rcases kv_key z k with ⟨w, b', e5, e6, hq⟩ | ⟨e5, e6⟩
    · rw [hx] at e6
      cases e6
      refine ⟨p, w, ev, .inl ⟨kvs, Sum.inr k, Rd_up e' hp, hy.1, e5.symm⟩, c w Hb (e.trans e') fun H2 g2 => ?_⟩
      obtain ⟨H3, g3, s3⟩ := Gnd.cut E.old e e' g2
      obtain ⟨p', kvs', ev', hp', z'⟩ := g H3 g3
      rw [ev] at ev'
      cases ev'
      have ek : kvs' = kvs := by
        rcases hp' with hp' | ⟨o1, hp'⟩ <;> rcases hp with hp | ⟨o2, hp⟩ <;> (have := g3.up _ _ hp'; rw [hp] at this; cases this; first | done | rfl)
      subst ek
      rcases kv_key z' k with ⟨w', b', f5, f6, hq'⟩ | ⟨f5, f6⟩
      · rw [e5] at f5
        cases f5
        rw [hx] at f6
        cases f6
        exact M.up s3 hq'
      · rw [hx] at f6
        cases f6
    · rw [hx] at e6
      cases e6
section
variable {r1 : Rp β} {r2 : Rp γ} {r3 : Rp δ} {y : β × γ × δ}
theorem rg_h {ρ : Type} {rj : Rp ρ} {z : ρ} {jn : Nat} (hj : jn < 3) (get : ∀ H a b c, r1 H a y.1 → r2 H b y.2.1 → r3 H c y.2.2 → ∃ w, [a, b, c][jn]? = some w ∧ rj H w z) (h : Rg (rH3 r1 r2 r3) ta G y) : Rg rj (tOp (rIx K) ta (tC (.int (jn : Nat)))) G z := fun H1 σ H E Q cc =>
  h H1 σ H E _ fun v Ha e g => by
    obtain ⟨p, a, b, c, ev, hp, h1, h2, h3⟩ := g Ha (.self E.old e)
    obtain ⟨w, hw, _⟩ := get Ha a b c h1 h2 h3
    have hat : atI [a, b, c] ((jn : Nat) : Int) = some w := by
      unfold atI ixN
      rw [if_pos (Int.natCast_nonneg _), if_pos (by show ((jn : Nat) : Int) < ((3 : Nat) : Int); omega)]
      exact hw
    refine .inl ⟨p, [a, b, c], (jn : Nat), w, ev, rfl, SqL.of hp, hat, cc w Ha e fun H2 g2 => ?_⟩
    obtain ⟨p', a', b', c', ev', hp', h1', h2', h3'⟩ := g H2 g2
    rw [ev] at ev'
    cases ev'
    have := g2.up _ _ hp'
    rw [hp] at this
    cases this
    obtain ⟨w', hw', hr⟩ := get H2 a b c h1' h2' h3'
    rw [hw] at hw'
    cases hw'
    exact hr
theorem rg_h1 (h : Rg (rH3 r1 r2 r3) ta G y) : Rg r2 (tOp (rIx K) ta (tC (.int 1))) G y.2.1 := rg_h (jn := 1) (by decide) (fun H a b c _ h2 _ => ⟨b, rfl, h2⟩) h
end
/-- a display of such things -/
def RgA (r : Rp α) (ta : TA) (G : Cells K) (xs : List α) : Prop := ∀ H1 σ H, Env H1 σ H G → ∀ Q : List V → Hp → Prop, (∀ vs H', Same H H' → (∀ H2, Gnd K H1 H H' H2 → A2 (r H2) vs xs) → Q vs H') → ta σ H Q
theorem rga_nil : RgA (K := K) r tNil G [] := fun H1 σ H E Q c => c [] H (Same.refl H) fun _ _ => .nil
theorem rga_cons {t : TA} {xs : List α} [M : Mono r] (h : Rg r te G x) (hr : RgA r t G xs) : RgA r (tCons te t) G (x :: xs) := fun H1 σ H E Q c =>
  h H1 σ H E _ fun v Ha e g => hr H1 σ Ha (E.grow e) _ fun vs Hb e' g' => c (v :: vs) Hb (e.trans e') fun H2 g2 => by
    obtain ⟨H3, g3, s3⟩ := Gnd.cut E.old e e' g2
    exact .cons (M.up s3 (g H3 g3)) (g' H2 ⟨g2.low, g2.up, fun b o hn ho => g2.new b o (free_back e hn) ho, g2.ext⟩)
theorem rg_lst {t : TA} {xs : List α} [M : Mono r] (h : RgA r t G xs) (hz : xs.length ≤ 100000) : Rg (rL r) (tLst t) G xs := fun H1 σ H E Q c =>
  h H1 σ H E _ fun vs Ha e g => ⟨by rw [(g Ha (.self E.old e)).len]; exact sz hz, fun p hp => c _ _ (e.trans (same_new hp)) fun H2 g2 => by
    obtain ⟨H3, g3, s3⟩ := Gnd.cut E.old e (same_new hp) g2
    exact ⟨p, vs, rfl, g2.new p _ (free_back e hp) upd_same, (g H3 g3).imp fun _ _ z => M.up s3 z⟩⟩
/-- x = a thing on the ground -/
theorem q_setRo [M : Mono r] (h : Rg r te G x) (kk : Sv H0 (G.set i (rc r x)) u D) : Sv H0 G (tSeq (tAsg te (gName i)) u) D := fun σ H ⟨H1, e1, E⟩ =>
  h H1 σ H E _ fun v H' e g => by
    obtain ⟨H2, s1, s2, xt, E2, ho⟩ := E.rebase e
    exact kk _ _ ⟨H2, e1.trans s1, E2.setro (g H2 ⟨s1, s2, ho, xt⟩)⟩
theorem wk_rg {xs : List α} [M : Mono r] (h : Rg (rL r) te G xs) : Wk (iList K te) r G G xs := fun H1 σ H E RR kk =>
  h H1 σ H E _ fun v H' e g => by
    obtain ⟨H2, s1, s2, xt, E2, ho⟩ := E.rebase e
    obtain ⟨p, vs, ev, hp, z⟩ := g H2 ⟨s1, s2, ho, xt⟩
    exact ⟨p, ev, ⟨vs, SqL.of (s2 _ _ hp)⟩, kk _ H2 H' s1 e E2 (wj_list hp z)⟩
/-- what is owned is read from now on -/
theorem EnvO.frz {rv : Rp β} [M : Mono rv] (E : EnvO own H1 σ H G) (hi : G[i]? = some (some (.ow R b))) (f : ∀ H v as, R.rep H v b as → rv H v b) : ∃ H2, Same H1 H2 ∧ Env H2 σ H (G.set i (rc rv b)) := by
  classical
  let X : Addr → Prop := fun b => (∃ j, j ≠ i ∧ b ∈ own j)
  have hX : ∀ b, H1 b ≠ none → ¬ X b := fun b hb ⟨j, _, hj⟩ => hb (E.free j b hj).1
  have key : ∀ b, cutH H X b = if X b then none else H b := fun b => rfl
  have s12 : Same H1 (cutH H X) := fun b o ho => by
    rw [key, if_neg (hX b (by rw [ho]; exact fun z => nomatch z))]
    exact E.old b o ho
  have s2 : Same (cutH H X) H := fun b o ho => by
    rw [key] at ho
    split at ho
    · cases ho
    · exact ho
  have xt : ExT K H (cutH H X) := .mk' fun a o9 t9 q => by
    have nX : ∀ o, H a = some o → isTup o → ¬ X a := fun o ho t ⟨j, _, hj⟩ => by
      obtain ⟨u, hu, nu⟩ := (E.free j a hj).2
      rw [ho] at hu
      cases hu
      exact nu t
    exact by rw [key, if_neg (nX _ q t9.up)]; exact q
  refine ⟨cutH H X, s12, s2, by rw [List.length_set]; exact E.len, fun j => if j = i then [] else own j, fun j p hp => ?_, fun j k p hj hk => ?_, fun j c hc => ?_⟩
  · by_cases hj : j = i
    · simp only [hj, if_true] at hp
      cases hp
    · simp only [hj, if_false] at hp
      exact ⟨by rw [key, if_pos ⟨j, hj, hp⟩], (E.free j p hp).2⟩
  · by_cases hji : j = i
    · simp only [hji, if_true] at hj
      cases hj
    · by_cases hki : k = i
      · simp only [hki, if_true] at hk
        cases hk
      · simp only [hji, hki, if_false] at hj hk
        exact E.apart j k p hj hk
  · by_cases hj : j = i
    · subst hj
      have hl : j < G.length := (List.getElem?_eq_some_iff.mp hi).1
      rw [List.getElem?_set_self hl] at hc
      cases hc
      obtain ⟨v, hv, hr⟩ := E.at_ j _ hi
      refine ⟨v, hv, by simp, ?_⟩
      refine f _ v (own j) (R.stay hr xt fun p hp o ho => ?_)
      rw [key, if_neg fun ⟨l, hl, hq⟩ => hl (E.apart l j p hq hp)]
      exact ho
    · rw [List.getElem?_set_ne (Ne.symm hj)] at hc
      obtain ⟨v, hv, hk⟩ := E.at_ j c hc
      refine ⟨v, hv, ?_⟩
      simp only [hj, if_false]
      cases c with
      | ow R b => exact hk
      | ro r m b => exact ⟨hk.1, m.up s12 hk.2⟩
theorem have_frzR {rv : Rp β} [M : Mono rv] (hi : G[i]? = some (some (.ow R b))) (f : ∀ H v as, R.rep H v b as → rv H v b) (h : Have H0 G σ H) : Have H0 (G.set i (rc rv b)) σ H := by
  obtain ⟨H1, e, E⟩ := h
  obtain ⟨own, E⟩ := E.o
  obtain ⟨H2, s, E2⟩ := E.frz hi f
  exact ⟨H2, e.trans s, E2⟩
theorem q_frzR {t : TS} {rv : Rp β} [M : Mono rv] (hi : G[i]? = some (some (.ow R b))) (f : ∀ H v as, R.rep H v b as → rv H v b) (h : Sv H0 (G.set i (rc rv b)) t D) : Sv H0 G t D := fun σ H hv => h σ H (have_frzR hi f hv)
def dl (H : Hp) (p : Addr) : Hp := fun b => if b = p then none else H b
theorem dl_ne {p q : Addr} (h : q ≠ p) : dl H p q = H q := by unfold dl; rw [if_neg h]
theorem dl_at {p : Addr} : dl H p p = none := by unfold dl; rw [if_pos rfl]
theorem dl_same {p : Addr} (e : Same H H') : Same (dl H p) (dl H' p) := fun b o hb => by
  by_cases h : b = p
  · rw [h, dl_at] at hb; cases hb
  · rw [dl_ne h] at hb ⊢; exact e _ _ hb
theorem dl_low {p : Addr} : Same (dl H p) H := fun b o hb => by
  by_cases h : b = p
  · rw [h, dl_at] at hb; cases hb
  · rw [dl_ne h] at hb; exact hb
theorem EnvO.dlx {p : Addr} (E : EnvO own H0 σ H G) (hp : p ∈ own i) : ExT K H (dl H p) := .mk' fun a o9 t9 q => by
  have ne : ∀ o, H a = some o → isTup o → a ≠ p := fun o ho t e => by
    obtain ⟨o', ho', nt⟩ := (E.free i p hp).2
    rw [e] at ho
    rw [ho] at ho'
    cases ho'
    exact nt t
  exact by rw [dl_ne (ne _ q t9.up)]; exact q
def Ap (r : Rp α) (te : TE) (G : Cells K) (i : Nat) (x : α) : Prop := ∀ own H0 σ H, EnvO own H0 σ H G → ∀ Q : VK, (∀ v H', Same H H' → (∀ p ∈ own i, r (dl H' p) v x) → Q v H') → te σ H Q
def ApA (A : Ra α) (ta : TA) (G : Cells K) (i : Nat) (x : α) : Prop := ∀ own H0 σ H, EnvO own H0 σ H G → ∀ Q : List V → Hp → Prop, (∀ vs H', Same H H' → (∀ p ∈ own i, A (dl H' p) vs x) → Q vs H') → ta σ H Q
theorem apa_nil : ApA (K := K) aN tNil G i () := fun own H0 σ H E Q c => c [] H (Same.refl H) fun _ _ => rfl
theorem apa_cons {A : Ra γ} {t : TA} {y : γ} [M : Mono r] (h : Ap r te G i x) (hr : ApA A t G i y) : ApA (aC r A) (tCons te t) G i (x, y) := fun own H0 σ H E Q c =>
  h own H0 σ H E _ fun v H1 e1 h1 => hr own H0 σ H1 (E.grow e1) _ fun vs H2 e2 h2 => c (v :: vs) H2 (e1.trans e2) fun p hp => ⟨v, vs, rfl, M.up (dl_same e2) (h1 p hp), h2 p hp⟩
theorem ap_rg [M : Mono r] (h : Rg r te G x) : Ap r te G i x := fun own H0 σ H E Q c => h H0 σ H E.e _ fun v H' e g => c v H' e fun p hp => by
  have E' := E.grow e
  have hd : H0 p = none := (E.free i p hp).1
  have hH : ∃ o, H p = some o := let ⟨o, ho, _⟩ := (E.free i p hp).2; ⟨o, ho⟩
  refine g (dl H' p) ⟨fun b o hb => ?_, dl_low, fun b o hn ho => ?_, E'.dlx hp⟩
  · rw [dl_ne fun z => by rw [z, hd] at hb; cases hb]
    exact E'.old _ _ hb
  · rw [dl_ne fun z => by obtain ⟨o', ho'⟩ := hH; rw [z, ho'] at hn; cases hn]
    exact ho
/-- what another slot owns -/
theorem ap_own {rv : Rp β} (hj : G[j]? = some (some (.ow R b))) (ne : j ≠ i) (f : ∀ H v as, R.rep H v b as → rv H v b) : Ap rv (tVar j) G i b := fun own H0 σ H E Q c => by
  obtain ⟨v, hv, hr⟩ := E.at_ j _ hj
  exact ⟨v, hv, c v H (Same.refl H) fun p hp => f _ _ (own j) (R.stay hr (E.dlx hp) fun q hq o ho => by rw [dl_ne fun z => ne (E.apart j i q hq (by rw [z]; exact hp))]; exact ho)⟩
def EvX (r : Rp α) (te : TE) (G : Cells K) (x : α) (G' : Cells K) : Prop := ∀ H0 σ H, Env H0 σ H G → ∀ Q : VK, (∀ v H', Env H0 σ H' G' → r H' v x → Q v H') → te σ H Q
theorem ex_or {c d : Bool} (h : EvX rB ta G c G1) (h' : c = false → Ev rB tb G1 d) : EvX rB (tOrV ta tb) G (c || d) G1 := fun H0 σ H E Q k => h H0 σ H E _ fun v H1 E1 hv => by
  refine ⟨c, hv, ?_⟩
  cases c with
  | true => rw [if_pos rfl]; exact k _ _ E1 rfl
  | false => rw [if_neg Bool.false_ne_true]; exact h' rfl H0 σ H1 E1 _ fun w H2 e2 hw => k w H2 (E1.grow e2) (by rw [Bool.false_or]; exact hw)
theorem q_setX [F : Frz K r] (h : EvX r te G x G1) (kk : Sv H0 (G1.set i (fc r x)) u D) : Sv H0 G (tSeq (tAsg te (gName i)) u) D := fun σ H ⟨H1, e1, E⟩ =>
  h H1 σ H E _ fun v H' E' hr => kk _ _ ⟨H1, e1, E'.put (R := fz K r) (as := []) (Same.refl _) (fun _ z => nomatch z) ⟨rfl, stb hr⟩⟩
theorem l_setX [F : Frz K r] (h : EvX r te G x G1) (kk : Nx H0 (G1.set i (fc r x)) D.nx) : Sv H0 G (tAsg te (gName i)) D := fun σ H ⟨H1, e1, E⟩ =>
  h H1 σ H E _ fun v H' E' hr => kk _ _ ⟨H1, e1, E'.put (R := fz K r) (as := []) (Same.refl _) (fun _ z => nomatch z) ⟨rfl, stb hr⟩⟩
theorem q_drpX (h : EvX r te G x G1) (kk : Sv H0 G1 u D) : Sv H0 G (tSeq (tDrop te) u) D := fun σ H ⟨H1, e1, E⟩ => h H1 σ H E _ fun v H' E' _ => kk _ _ ⟨H1, e1, E'⟩
def spPutL (K : PySem.W.Frag) {α β γ : Type} (r : Rp β) (A : Ra α) (q : Rp γ) (m : List β → α → M (List β × γ)) : Sp := fun vs H Q _ => ∃ p ws us xs a ys c, vs = .ref p :: ws ∧ H p = some (.lst us) ∧ A2 (Stb K r H) us xs ∧ A (dl H p) ws a ∧ m xs a = .ok (ys, c) ∧
  ∀ v H' us', But [p] H H' → H' p = some (.lst us') → A2 (Stb K r H') us' ys → q H' v c → Q v H'
theorem spPutL_len {r : Rp β} {A : Ra α} {m : List β → α → M (List β × γ)} {k : Nat} [L : LenA A k] {vs : List V} {H : Hp} {Q : VK} {E : XK} (h : spPutL K r A q m vs H Q E) : vs.length = k + 1 := by
  obtain ⟨p, ws, us, xs, a, ys, c, rfl, _, _, hA, _⟩ := h
  rw [List.length_cons, L.len hA]
theorem ex_put {rb : Rp β} {A : Ra α} {t : TA} {a : α} {mm : List β → α → M (List β × γ)} {xs ys : List β} {c : γ} {up : List β → Cells K} {E' : XK} (h : Pl te G i (nl K rb) xs up) (ha : ApA A t G i a) (e : mm xs a = .ok (ys, c)) : EvX q (tCall (spPutL K rb A q mm) [] E' (tCons te t)) G c (up ys) := fun H0 σ H E Q kk => by
  obtain ⟨own, E⟩ := E.o
  refine h own H0 σ H E _ fun v as H1 e1 hr hs cl => ha own H0 σ H1 (E.grow e1) _ fun vs H2 e2 hA => ?_
  obtain ⟨p, us, ea, ev, hp, z⟩ := hr
  rw [List.append_nil]
  refine ⟨p, vs, us, xs, a, ys, c, by rw [ev], e2 _ _ hp, z.imp fun _ _ w => w.up (ext_same e2), hA p (hs p (by rw [ea]; exact List.mem_singleton.mpr rfl)), e, fun w H' us' k1 k2 k3 k4 => kk w H' (cl H' ys [p] ?_ (fun q hq => .inl (by rw [ea]; exact hq)) ⟨p, us', rfl, ev, k2, k3⟩) k4⟩
  rw [ea]
  exact k1.same e2
/-- the list at p -/
def nlA (K : PySem.W.Frag) {β : Type} (r : Rp β) (p : Addr) : Rs K (List β) where
  rep := fun H v xs as => (nl K r).rep H v xs as ∧ v = .ref p
  stay := fun h x k => ⟨(nl K r).stay h.1 x k, h.2⟩
  there := fun h => (nl K r).there h.1
theorem pl_varA {xs : List α} {p : Addr} (h : G[i]? = some (some (.ow (nlA K r p) xs))) : Pl (tVar i) G i (nl K r) xs fun ys => G.set i (some (.ow (nlA K r p) ys)) := fun own H0 σ H E Q c => by
  obtain ⟨v, hv, hr⟩ := E.at_ i _ h
  have hl : i < G.length := (List.getElem?_eq_some_iff.mp h).1
  exact ⟨v, hv, c v (own i) H (Same.refl H) hr.1 (fun _ z => z) fun H3 b' as' e1 e2 e3 => E.chg hl hv e1 e2 (R' := nlA K r p) ⟨e3, hr.2⟩⟩
theorem a_nlA {xs : List α} {p : Addr} (h : G[i]? = some (some (.ow (nlA K r p) xs))) : Ev (rL r) (tVar i) G xs := (pl_varA h).ev fun _ _ _ z => vw_nl z
theorem r_retP {xs : List α} {p : Addr} {c : γ} (hi : G[i]? = some (some (.ow (nlA K r p) xs))) (hD : ∀ v H' us', Same H0 H' → H' p = some (.lst us') → A2 (Stb K r H') us' xs → q H' v c → D.rt v H') (h : Ev q te G c) : Sv H0 G (tRet te) D := fun σ H ⟨H1, e1, E⟩ =>
  h H1 σ H E _ fun v H' e hv => by
    obtain ⟨own, E'⟩ := (E.grow e).o
    obtain ⟨w, _, ⟨p', us, _, ev, hp, z⟩, ew⟩ := E'.at_ i _ hi
    rw [ev] at ew
    cases ew
    exact hD v H' us (e1.trans E'.old) hp z hv
/-- its start: the list in the first slot -/
theorem Sv.runP {xs : List α} {p : Addr} {us : List V} {σ : L2.St} {G : Cells K} {t : TS} (s : Sv (dl H p) (some (.ow (nlA K r p) xs) :: G) t D) (hp : H p = some (.lst us)) (z : A2 (Stb K r H) us xs) (w : Pw (dl H p) σ G) : t D (some (.ref p) :: σ) H := by
  have xt : ExT K H (dl H p) := .mk' fun a o9 t9 q => by
    have ne : ∀ o, H a = some o → isTup o → a ≠ p := fun o ho t e => by
      rw [e, hp] at ho
      cases ho
      exact t
    exact by rw [dl_ne (ne _ q t9.up)]; exact q
  refine s _ H ⟨dl H p, Same.refl _, dl_low, by rw [List.length_cons, List.length_cons, w.len], fun i => if i = 0 then [p] else [], fun i q hq => ?_, fun i j q hi hj => ?_, fun i c hc => ?_⟩
  · by_cases h : i = 0
    · simp only [h, if_true] at hq
      cases List.mem_singleton.mp hq
      exact ⟨dl_at, _, hp, fun z => z⟩
    · simp only [h, if_false] at hq
      cases hq
  · by_cases h : i = 0 <;> by_cases h' : j = 0
    · rw [h, h']
    · simp only [h', if_false] at hj; cases hj
    · simp only [h, if_false] at hi; cases hi
    · simp only [h, if_false] at hi; cases hi
  · cases i with
    | zero =>
      cases hc
      exact ⟨_, rfl, ⟨p, us, rfl, rfl, hp, z⟩, rfl⟩
    | succ i =>
      obtain ⟨v, hv, hk⟩ := w.get (i := i) (by simpa using hc)
      refine ⟨v, by simpa using hv, ?_⟩
      show c.ok (dl H p) H v []
      cases c with
      | ow R b => exact R.stay hk (ext_same dl_low) fun q hq => nomatch hq
      | ro r m b => exact hk
end
end Gt
namespace Gt
open PySem PySem.Spec PyProof.Rows L2
section
variable {K : PySem.W.Frag} {α β γ δ ρ : Type} {own : Nat → List Addr} {H0 H H1 H2 H' H'' : Hp} {σ : L2.St} {G G' Gx : Cells K} {D : Ends} {u : TS}
variable {R : Rs K β} {R' : Rs K γ} {R2 : Rs K δ} {te ti tk tx tv ta tb tc : TE} {i j m : Nat} {b : β} {x : α} {n : Int} {r : Rp α} {q : Rp γ} {k : Str}
theorem nw_nilR : Nw (nlR K R) (tLst tNil) G [] := fun H0 σ H E Q c => ⟨Nat.zero_le _, fun p hp => c _ _ [p] (same_new hp) (fun b hb => by rw [List.mem_singleton.mp hb]; exact hp) ⟨p, [], [], rfl, rfl, upd_same, .nil, fun k s h => by simp at h, fun k l s t q h => by simp at h⟩⟩
theorem nw_dnewR : Nw (ndR K R) tDNewK G [] := fun H0 σ H E Q c p hp => c _ _ [p] (same_new hp) (fun b hb => by rw [List.mem_singleton.mp hb]; exact hp) ⟨p, [], [], rfl, rfl, upd_same, .nil, ⟨fun k s h => by simp at h, fun k l s t q h => by simp at h⟩, List.nodup_nil⟩
/-- [a, b, c], three new things -/
theorem nw_H3 {c : γ} {d : δ} (h1 : Nw R ta G b) (h2 : Nw R' tb G c) (h3 : Nw R2 tc G d) : Nw (nH3 K R R' R2) (tLst (tCons ta (tCons tb (tCons tc tNil)))) G (b, c, d) := fun H0 σ H E Q kk =>
  h1 H0 σ H E _ fun v1 Ha a1 e1 n1 r1 => h2 H0 σ Ha (E.grow e1) _ fun v2 Hb a2 e2 n2 r2 => h3 H0 σ Hb ((E.grow e1).grow e2) _ fun v3 Hc a3 e3 n3 r3 => ⟨by show 3 ≤ sizeLine; decide, fun p hp => by
    have x12 := e2.trans e3
    have s1 := R.stay r1 (ext_same x12) fun q _ o ho => x12 _ _ ho
    have s2 := R'.stay r2 (ext_same e3) fun q _ o ho => e3 _ _ ho
    have np : Same Hc (upd Hc p (.lst [v1, v2, v3])) := same_new hp
    have t1 := R.stay s1 (ext_same np) fun q _ o ho => np _ _ ho
    have t2 := R'.stay s2 (ext_same np) fun q _ o ho => np _ _ ho
    have t3 := R2.stay r3 (ext_same np) fun q _ o ho => np _ _ ho
    have in1 : ∀ q ∈ a1, ∃ o, Ha q = some o := fun q hq => let ⟨o, ho, _⟩ := R.there r1 q hq; ⟨o, ho⟩
    have in2 : ∀ q ∈ a2, ∃ o, Hb q = some o := fun q hq => let ⟨o, ho, _⟩ := R'.there r2 q hq; ⟨o, ho⟩
    have in3 : ∀ q ∈ a3, ∃ o, Hc q = some o := fun q hq => let ⟨o, ho, _⟩ := R2.there r3 q hq; ⟨o, ho⟩
    have p1 : p ∉ a1 := fun z => by obtain ⟨o, ho⟩ := in1 p z; rw [x12 _ _ ho] at hp; cases hp
    have p2 : p ∉ a2 := fun z => by obtain ⟨o, ho⟩ := in2 p z; rw [e3 _ _ ho] at hp; cases hp
    have p3 : p ∉ a3 := fun z => by obtain ⟨o, ho⟩ := in3 p z; rw [ho] at hp; cases hp
    have d12 : ∀ q, q ∈ a1 → q ∉ a2 := fun q h h' => by obtain ⟨o, ho⟩ := in1 q h; rw [n2 q h'] at ho; cases ho
    have d13 : ∀ q, q ∈ a1 → q ∉ a3 := fun q h h' => by obtain ⟨o, ho⟩ := in1 q h; have := e2 _ _ ho; rw [n3 q h'] at this; cases this
    have d23 : ∀ q, q ∈ a2 → q ∉ a3 := fun q h h' => by obtain ⟨o, ho⟩ := in2 q h; rw [n3 q h'] at ho; cases ho
    have at_ : ∀ (l : Nat) (s : List Addr), [a1, a2, a3][l]? = some s → (l = 0 ∧ s = a1) ∨ (l = 1 ∧ s = a2) ∨ (l = 2 ∧ s = a3) := fun l s h => by
      match l, h with
      | 0, h => cases h; exact .inl ⟨rfl, rfl⟩
      | 1, h => cases h; exact .inr (.inl ⟨rfl, rfl⟩)
      | 2, h => cases h; exact .inr (.inr ⟨rfl, rfl⟩)
      | l + 3, h => simp at h
    refine kk _ _ (p :: [a1, a2, a3].flatten) (((e1.trans e2).trans e3).trans np) (fun q hq => ?_) ⟨p, v1, v2, v3, a1, a2, a3, rfl, rfl, upd_same, ⟨t1, t2, t3⟩, fun l s h => ?_, fun l l' s t q h h' hq hq' => ?_⟩
    · rcases List.mem_cons.mp hq with z | z
      · rw [z]; exact free_back ((e1.trans e2).trans e3) hp
      · obtain ⟨l, s, hs, hq⟩ := flat_mem z
        rcases at_ l s hs with ⟨_, e⟩ | ⟨_, e⟩ | ⟨_, e⟩
        · rw [e] at hq; exact n1 q hq
        · rw [e] at hq; exact free_back e1 (n2 q hq)
        · rw [e] at hq; exact free_back (e1.trans e2) (n3 q hq)
    · rcases at_ l s h with ⟨_, e⟩ | ⟨_, e⟩ | ⟨_, e⟩ <;> rw [e]
      · exact p1
      · exact p2
      · exact p3
    · rcases at_ l s h with ⟨e1, e⟩ | ⟨e1, e⟩ | ⟨e1, e⟩ <;> rcases at_ l' t h' with ⟨f1, f⟩ | ⟨f1, f⟩ | ⟨f1, f⟩ <;> rw [e] at hq <;> rw [f] at hq' <;> first | exact absurd hq' (d12 q hq) | exact absurd hq' (d13 q hq) | exact absurd hq' (d23 q hq) | exact absurd hq (d12 q hq') | exact absurd hq (d13 q hq') | exact absurd hq (d23 q hq') | (rw [e1, f1])⟩
theorem a_H3 {α β γ : Type} {r1 : Rp α} {r2 : Rp β} {r3 : Rp γ} {y : List α × List (Str × List β) × List (Str × List γ)} (h : G[i]? = some (some (.ow (nH3 K (nl K r1) (ndR K (nl K r2)) (ndR K (nl K r3))) y))) : Ev (rH3 (rL r1) (rD (rL r2)) (rD (rL r3))) (tVar i) G y := (pl_var h).ev fun _ _ _ z => vw_nH3 (fun _ _ _ _ z => vw_nl z) (fun _ _ _ _ z => vw_ndR (fun _ _ _ _ z => vw_nl z) z) (fun _ _ _ _ z => vw_ndR (fun _ _ _ _ z => vw_nl z) z) z
theorem a_nlR {α : Type} {r : Rp α} {xss : List (List α)} (h : G[i]? = some (some (.ow (nlR K (nl K r)) xss))) : Ev (rL (rL r)) (tVar i) G xss := (pl_var h).ev fun _ _ _ z => vw_nlR (fun _ _ _ _ z => vw_nl z) z
section
variable {r1 : Rp β} {r2 : Rp γ} {r3 : Rp δ} {y : β × γ × δ}
theorem ixc_h0 [M : Mono r1] : IxC K (rH3 r1 r2 r3) y (tC (.int 0)) G r1 y.1 := fun ta h => ev_h0 h
theorem ixc_h1 [M : Mono r2] : IxC K (rH3 r1 r2 r3) y (tC (.int 1)) G r2 y.2.1 := fun ta h => ev_h1 h
theorem ixc_h2 [M : Mono r3] : IxC K (rH3 r1 r2 r3) y (tC (.int 2)) G r3 y.2.2 := fun ta h => ev_h2 h
end
theorem l_appMv {xss : List β} (hi : G[i]? = some (some (.ow (nlR K R) xss))) (hm : G[m]? = some (some (.ow R b))) (ne : m ≠ i) (hz : xss.length < 100000) (kk : Nx H0 ((G.set m none).set i (some (.ow (nlR K R) (xss ++ [b])))) D.nx) : Sv H0 G (tDrop (tBM K "list" rAppend (tVar i) (tCons (tVar m) tNil))) D := fun σ H ⟨H1, e1, E⟩ => by
  obtain ⟨own, E⟩ := E.o
  obtain ⟨v, hv, p, vs, ss, ea, ev, hp, z, d⟩ := E.at_ i _ hi
  obtain ⟨w, hw, hr⟩ := E.at_ m _ hm
  subst ev
  have hl : i < G.length := (List.getElem?_eq_some_iff.mp hi).1
  have ho : ∀ q ∈ own m, q ∉ own i := fun q h h' => ne (E.apart m i q h h')
  have E2 : EnvO (fun l => if l = m then [] else own l) H1 σ H (G.set m none) := ⟨E.old, by rw [List.length_set]; exact E.len, fun l q hq => by
      by_cases h : l = m
      · simp only [h, if_true] at hq; cases hq
      · simp only [h, if_false] at hq; exact E.free l q hq, fun l l' q hq hq' => by
      by_cases h : l = m
      · simp only [h, if_true] at hq; cases hq
      · by_cases h' : l' = m
        · simp only [h', if_true] at hq'; cases hq'
        · simp only [h, h', if_false] at hq hq'; exact E.apart l l' q hq hq', fun l c hc => by
      by_cases h : l = m
      · subst h
        rw [List.getElem?_set_self (List.getElem?_eq_some_iff.mp hm).1] at hc
        cases hc
      · rw [List.getElem?_set_ne (Ne.symm h)] at hc
        simp only [h, if_false]
        exact E.at_ l c hc⟩
  have x0 : ExT K H (upd H p (.lst (vs ++ [w]))) := ext_upd hp fun z => z
  have stay : ∀ (R3 : Rs K β) (v : V) (c : β) (t : List Addr), p ∉ t → R3.rep H v c t → R3.rep (upd H p (.lst (vs ++ [w]))) v c t := fun R3 v c t hp' hr => R3.stay hr x0 fun q hq o ho => by rw [upd_ne fun z => hp' (by rw [← z]; exact hq)]; exact ho
  have pm : p ∉ own m := fun hq => ho p hq (by rw [ea]; exact List.mem_cons_self ..)
  refine ⟨_, hv, .inl ⟨rfl, vs, SqL.of hp⟩, _, hw, p, vs, w, rfl, rfl, hp, Nat.lt_of_le_of_lt (by rw [z.len]; omega) (by decide : 100000 < sizeLine), kk _ _ ⟨H1, e1, ?_⟩⟩
  refine E2.chg (i := i) (by rw [List.length_set]; exact hl) hv (as' := p :: (ss ++ [own m]).flatten) (fun c o hc ho => ?_) (fun q hq => ?_) (R' := nlR K R) ⟨p, _, ss ++ [own m], rfl, rfl, upd_same, (z.imp fun a c t ht hr => stay R _ _ _ ?_ hr).app (.cons (stay R _ _ _ pm hr) .nil), d.app fun q hq => ⟨fun e => pm (by rw [← e]; exact hq), fun hm' => ho q hq (by rw [ea]; exact List.mem_cons_of_mem _ hm')⟩⟩
  · have hc : c ∉ own i := by simpa [Ne.symm ne] using hc
    rw [upd_ne fun e => hc (by rw [ea, e]; exact List.mem_cons_self ..)]
    exact ho
  · rcases List.mem_cons.mp hq with e | e
    · exact .inl (by simp only [Ne.symm ne, if_false]; rw [ea, e]; exact List.mem_cons_self ..)
    · rw [List.flatten_append, List.flatten_cons, List.flatten_nil, List.append_nil] at e
      rcases List.mem_append.mp e with e | e
      · exact .inl (by simp only [Ne.symm ne, if_false]; rw [ea]; exact List.mem_cons_of_mem _ e)
      · refine .inr ⟨(E.free m q e).1, fun l hl => ?_⟩
        by_cases h : l = m
        · simp only [h, if_true] at hl; cases hl
        · simp only [h, if_false] at hl; exact h (E.apart l m q hl e)
  · obtain ⟨l, hl⟩ := List.mem_iff_getElem?.mp ht
    exact d.1 l t hl
theorem Env.pushR {D : Addr} {R : Rs K β} (E : Env H1 σ H G) (hD : H D = none) : Env H1 (σ ++ [some (.ref D)]) (upd H D (.lst [])) (G ++ [some (.ow (nlR K R) [])]) := by
  have e : Same H (upd H D (.lst [])) := fun b o hb => by rw [upd_ne (ne_of_none hb hD)]; exact hb
  have E2 := E.pad.put (i := G.length) (v := .ref D) (R := nlR K R) (b := []) (as := [D]) e (fun p hp => by rw [List.mem_singleton.mp hp]; exact hD) ⟨D, [], [], rfl, rfl, upd_same, .nil, fun k s h => by simp at h, fun k l s t q h => by simp at h⟩
  have e1 : (σ ++ [none]).set G.length (some (V.ref D)) = σ ++ [some (.ref D)] := by rw [← E.len]; exact set_last
  have e2 : (G ++ [none]).set G.length (some (.ow (nlR K R) [])) = G ++ [some (.ow (nlR K R) [])] := set_last
  rw [e1, e2] at E2
  exact E2
theorem nw_lcR {wi : TI} {g : TG} {vs : List Nat} {f : α → M β} {ys : List α} {zs : List β} (hw : Wk wi r G G' ys) (hlen : ys.length ≤ 100000)
    (turn : ∀ x, ∃ Gx, Tb g r x vs (wipeG G' vs) Gx ∧ ∀ y, f x = .ok y → Nw R te Gx y) (hm : mlc (fun _ => .ok true) f ys = .ok zs) : Nw (nlR K R) (tLc wi g tYes te vs) G zs := fun H1 σ H E Q k => by
  have zl : ∀ (l : List α) (us : List β), mlc (fun _ => .ok true) f l = .ok us → us.length = l.length := by
    intro l
    induction l with
    | nil => intro us h; cases h; rfl
    | cons x l ih =>
      intro us h
      obtain ⟨y, hy, h⟩ := mb_ok (show mb (f x) (fun y => mb (mlc (fun _ => .ok true) f l) fun ys => .ok (y :: ys)) = .ok us from h)
      obtain ⟨ws, hws, h⟩ := mb_ok h
      cases h
      rw [List.length_cons, List.length_cons, ih ws hws]
  have step : ∀ (i : Nat) (hl : i < ys.length), ∃ us y, mlc (fun _ => .ok true) f (ys.take i) = .ok us ∧ f ys[i] = .ok y ∧ mlc (fun _ => .ok true) f (ys.take (i + 1)) = .ok (us ++ [y]) := fun i hl => by
    have hsp : ys = ys.take i ++ ys[i] :: ys.drop (i + 1) := by rw [List.getElem_cons_drop, List.take_append_drop]
    have hm2 := hm
    rw [hsp] at hm2
    obtain ⟨us, vs', h1, h2, _⟩ := mlc_app hm2
    obtain ⟨y, hy, _⟩ := mb_ok (show mb (f ys[i]) _ = .ok vs' from h2)
    refine ⟨us, y, h1, hy, ?_⟩
    have etk : ys.take (i + 1) = ys.take i ++ [ys[i]] := by rw [List.take_add_one, List.getElem?_eq_getElem hl]; rfl
    rw [etk]
    have app : ∀ (l : List α) (as : List β), mlc (fun _ => .ok true) f l = .ok as → mlc (fun _ => .ok true) f (l ++ [ys[i]]) = .ok (as ++ [y]) := by
      intro l
      induction l with
      | nil =>
        intro as h
        cases h
        show mb (f ys[i]) _ = _
        rw [mb_of hy]
        rfl
      | cons x l ih =>
        intro as h
        obtain ⟨z, hz, h⟩ := mb_ok (show mb (f x) (fun y => mb (mlc (fun _ => .ok true) f l) fun ys => .ok (y :: ys)) = .ok as from h)
        obtain ⟨ws, hws, h⟩ := mb_ok h
        cases h
        show mb (f x) _ = _
        rw [mb_of hz]
        show mb (mlc (fun _ => .ok true) f (l ++ [ys[i]])) _ = _
        rw [mb_of (ih ws hws)]
        rfl
    exact app _ us h1
  refine hw H1 σ H E _ fun J H2 Hs s1 sH E2 W => ?_
  intro D hD
  have E3 := (E2.wipe vs).pushR (R := R) hD
  have hlg : (L2.wipe σ vs).length = (wipeG G' vs).length := (E2.wipe vs).len
  have same0 : Same Hs (upd Hs D (.lst [])) := fun b o hb => by rw [upd_ne (ne_of_none hb hD)]; exact hb
  refine ⟨fun i m h => i + m = ys.length ∧ Same Hs h ∧ ∃ us own, mlc (fun _ => .ok true) f (ys.take i) = .ok us ∧ (∀ q ∈ own (wipeG G' vs).length, Hs q = none) ∧ EnvO own H2 (L2.wipe σ vs ++ [some (.ref D)]) h (wipeG G' vs ++ [some (.ow (nlR K R) us)]), ⟨ys.length, Nat.zero_add _, same0, ?_⟩, ?_⟩
  · obtain ⟨own, E4⟩ := E3.o
    refine ⟨[], own, rfl, fun q hq => ?_, E4⟩
    obtain ⟨v, hv, p, ws, ss, ea, ev, hp, z, d⟩ := E4.at_ _ _ getE_last
    rw [← hlg, getE_last] at hv
    cases hv
    cases ev
    cases z
    rw [ea] at hq
    rw [List.mem_singleton.mp hq]
    exact hD
  rintro i m h ⟨hi, sh, us, own, hu, hown, Eh⟩
  by_cases hl : i < ys.length
  · have hx : ys[i]? = some ys[i] := List.getElem?_eq_getElem hl
    obtain ⟨us', y, hu', hy, hnext⟩ := step i hl
    rw [hu] at hu'
    cases hu'
    obtain ⟨g1, g2⟩ := W.go h i _ (E2.old.trans sh) hx
    refine .inr ⟨g1, fun h' => Same Hs h' ∧ ∃ us own, mlc (fun _ => .ok true) f (ys.take (i + 1)) = .ok us ∧ (∀ q ∈ own (wipeG G' vs).length, Hs q = none) ∧ EnvO own H2 (L2.wipe σ vs ++ [some (.ref D)]) h' (wipeG G' vs ++ [some (.ow (nlR K R) us)]), fun h' z => ⟨m - 1, by omega, by omega, z⟩, fun v h2 hyd => ?_⟩
    obtain ⟨e2, z⟩ := g2 v h2 hyd
    obtain ⟨Gx, ht, he⟩ := turn ys[i]
    refine ht H2 _ σ h2 v rfl (Eh.e.trunc.grow e2) z _ fun σ2 E4 hwp => ⟨hwp, et_yes H2 σ2 h2 E4 _ fun h3 e3 => ?_⟩
    refine iteT (he y hy H2 σ2 h3 (E4.grow e3) _ fun w h4 bs e4 hn hq => ?_)
    have E5 := Eh.grow (e2.trans e3)
    have hfr : ∀ c ∈ bs, Fr own H2 c := fun c hc => E5.fr (hn c hc)
    have E6 := E5.grow e4
    obtain ⟨v', hv', p, ws, ss, ea, ev, hp, zz, d⟩ := E6.at_ _ _ getE_last
    have hv2 := hv'
    rw [← hlg, getE_last] at hv'
    cases hv'
    cases ev
    have hlw : ws.length ≤ 100000 := by
      rw [zz.len, zl _ _ hu, List.length_take]
      exact Nat.le_trans (Nat.min_le_right _ _) hlen
    have pn : Hs D = none := hD
    have x0 : ExT K h4 (upd h4 D (.lst (ws ++ [w]))) := ext_upd hp fun z => z
    have hout : ∀ c ∈ bs, c ≠ D ∧ c ∉ ss.flatten := fun c hc => ⟨fun e => (hfr c hc).2 _ (by rw [ea, e]; exact List.mem_cons_self ..), fun hm => (hfr c hc).2 _ (by rw [ea]; exact List.mem_cons_of_mem _ hm)⟩
    have stay : ∀ (v : V) (c : β) (t : List Addr), D ∉ t → R.rep h4 v c t → R.rep (upd h4 D (.lst (ws ++ [w]))) v c t := fun v c t hp' hr => R.stay hr x0 fun q hq o ho => by rw [upd_ne fun z => hp' (by rw [← z]; exact hq)]; exact ho
    refine ⟨ws, hp, Nat.lt_of_le_of_lt hlw (by decide), fun b o hb => ?_, us ++ [y], fun l => if l = (wipeG G' vs).length then D :: (ss ++ [bs]).flatten else own l, hnext, fun c hc => ?_, ?_⟩
    · rw [upd_ne (ne_of_none hb hD)]
      exact e4 _ _ (e3 _ _ (e2 _ _ (sh _ _ hb)))
    · simp only [if_true] at hc
      rcases List.mem_cons.mp hc with e | e
      · rw [e]; exact hD
      · rw [List.flatten_append, List.flatten_cons, List.flatten_nil, List.append_nil] at e
        rcases List.mem_append.mp e with e | e
        · exact hown c (by rw [ea]; exact List.mem_cons_of_mem _ e)
        · exact free_back ((sh.trans e2).trans e3) (hn c e)
    · have kb : But (own (wipeG G' vs).length) h4 (upd h4 D (.lst (ws ++ [w]))) := but_upd.less fun q hq => by rw [List.mem_singleton.mp hq, ea]; exact List.mem_cons_self ..
      have nas : ∀ j p, j ≠ (wipeG G' vs).length → p ∈ own j → p ∉ own (wipeG G' vs).length := fun j p hj hp z => hj (E6.apart j _ p hp z)
      have xx := E6.ext (as := own (wipeG G' vs).length) (i := (wipeG G' vs).length) (fun _ z => z) kb
      have newrep : (nlR K R).rep (upd h4 D (.lst (ws ++ [w]))) (.ref D) (us ++ [y]) (D :: (ss ++ [bs]).flatten) := ⟨D, _, ss ++ [bs], rfl, rfl, upd_same, (zz.imp fun a c t ht hr => stay _ _ _ (by obtain ⟨l, hl⟩ := List.mem_iff_getElem?.mp ht; exact d.1 l t hl) hr).app (.cons (stay _ _ _ (fun z => (hout D z).1 rfl) hq) .nil), d.app hout⟩
      have hin : ∀ p ∈ D :: (ss ++ [bs]).flatten, p ∈ own (wipeG G' vs).length ∨ Fr own H2 p := fun p hp => by
        rcases List.mem_cons.mp hp with e | e
        · exact .inl (by rw [ea, e]; exact List.mem_cons_self ..)
        · rw [List.flatten_append, List.flatten_cons, List.flatten_nil, List.append_nil] at e
          rcases List.mem_append.mp e with e | e
          · exact .inl (by rw [ea]; exact List.mem_cons_of_mem _ e)
          · exact .inr (hfr p e)
      refine ⟨fun p o ho => kb p o (fun z => by have := (E6.free _ p z).1; rw [this] at ho; cases ho) (E6.old p o ho), by rw [List.length_append, List.length_append, hlg]; rfl, fun j p hp => ?_, fun j l p hj hk => ?_, fun j c hc => ?_⟩
      · by_cases hj : j = (wipeG G' vs).length
        · simp only [hj, if_true] at hp
          exact ⟨(hin p hp).elim (fun z => (E6.free _ p z).1) fun z => z.1, (nlR K R).there newrep p hp⟩
        · simp only [hj, if_false] at hp
          obtain ⟨o, ho, nt⟩ := (E6.free j p hp).2
          exact ⟨(E6.free j p hp).1, o, kb p o (nas j p hj hp) ho, nt⟩
      · by_cases hji : j = (wipeG G' vs).length <;> by_cases hki : l = (wipeG G' vs).length
        · rw [hji, hki]
        · simp only [hji, hki, if_true, if_false] at hj hk
          rcases hin p hj with z | z
          · exact absurd z (nas l p hki hk)
          · exact absurd hk (z.2 l)
        · simp only [hji, hki, if_true, if_false] at hj hk
          rcases hin p hk with z | z
          · exact absurd z (nas j p hji hj)
          · exact absurd hj (z.2 j)
        · simp only [hji, hki, if_false] at hj hk
          exact E6.apart j l p hj hk
      · by_cases hj : j = (wipeG G' vs).length
        · subst hj
          rw [getE_last] at hc
          cases hc
          refine ⟨_, hv2, ?_⟩
          simp only [if_true]
          exact newrep
        · have hlt : j < (wipeG G' vs).length := by
            have := (List.getElem?_eq_some_iff.mp hc).1
            rw [List.length_append, List.length_singleton] at this
            omega
          have hc2 : (wipeG G' vs ++ [some (Cell.ow (nlR K R) us)])[j]? = some (some c) := by
            rw [List.getElem?_append_left hlt] at hc ⊢
            exact hc
          obtain ⟨u, hu, hk'⟩ := E6.at_ j c hc2
          refine ⟨u, hu, ?_⟩
          simp only [hj, if_false]
          exact cell_stay hk' xx fun p hp o ho => kb p o (nas j p hj hp) ho
  · have hi' : i = ys.length := by omega
    subst hi'
    rw [List.take_length, hm] at hu
    cases hu
    refine .inl ⟨W.stop h (E2.old.trans sh), ?_⟩
    obtain ⟨v', hv', p, ws, ss, ea, ev, hp, zz, d⟩ := Eh.at_ _ _ getE_last
    rw [← hlg, getE_last] at hv'
    cases hv'
    cases ev
    exact k _ h (own (wipeG G' vs).length) (sH.trans sh) (fun q hq => sH.free (hown q hq)) ⟨D, ws, ss, ea, rfl, hp, zz, d⟩
end
theorem but_dl {H H' : Hp} {p : Addr} (h : Same (dl H p) H') : But [p] H H' := fun c o hc ho => h c o (by rw [dl_ne fun e => hc (by rw [e]; exact List.mem_singleton.mpr rfl)]; exact ho)
end Gt
namespace Gt
open PySem PySem.Spec PyProof.Rows L2
section
variable {K : PySem.W.Frag} {α β γ δ ρ : Type} {H0 H H1 H2 H' H'' : Hp} {σ : L2.St} {G G' Gx : Cells K} {D : Ends} {u : TS}
variable {te ti tk tx tv ta tb tc td ty : TE} {i j m : Nat} {x : α} {n : Int} {r : Rp α} {q : Rp γ} {k : Str}
theorem a_dIn {xs : List (Str × α)} (h : Ev rS ty G k) (h' : Ev (rD r) td G xs) (M : Mono r) : Ev rB (tDIn ty td) G (dkey xs k).isSome := fun H0 σ H E Q c =>
  h H0 σ H E _ fun v H1 e1 hv => h' H0 σ H1 (E.grow e1) _ fun w H2 e2 ⟨a, kvs, ew, hr, z⟩ => by
    rcases kv_key z k with ⟨v', b', e5, e6, _⟩ | ⟨e5, e6⟩
    · exact ⟨a, some v', ew, .inl ⟨kvs, Sum.inr k, hr, hv.1, e5.symm⟩, c _ H2 (e1.trans e2) (by rw [e6]; rfl)⟩
    · exact ⟨a, none, ew, .inl ⟨kvs, Sum.inr k, hr, hv.1, e5.symm⟩, c _ H2 (e1.trans e2) (by rw [e6]; rfl)⟩
theorem a_dNin {xs : List (Str × α)} (h : Ev rS ty G k) (h' : Ev (rD r) td G xs) (M : Mono r) : Ev rB (tDNotIn ty td) G (!(dkey xs k).isSome) := fun H0 σ H E Q c =>
  h H0 σ H E _ fun v H1 e1 hv => h' H0 σ H1 (E.grow e1) _ fun w H2 e2 ⟨a, kvs, ew, hr, z⟩ => by
    rcases kv_key z k with ⟨v', b', e5, e6, _⟩ | ⟨e5, e6⟩
    · exact ⟨a, some v', ew, .inl ⟨kvs, Sum.inr k, hr, hv.1, e5.symm⟩, c _ H2 (e1.trans e2) (by rw [e6]; rfl)⟩
    · exact ⟨a, none, ew, .inl ⟨kvs, Sum.inr k, hr, hv.1, e5.symm⟩, c _ H2 (e1.trans e2) (by rw [e6]; rfl)⟩
def rZ : Rp Unit := fun H v _ => ∃ a, v = .ref a ∧ H a = some (.dK [])
instance : Mono rZ := ⟨fun e ⟨a, ev, h⟩ => ⟨a, ev, e _ _ h⟩⟩
theorem ev_Z {y : Unit} : Ev rZ tDNewK G y := fun H0 σ H E Q c p hp => c _ _ (same_new hp) ⟨p, rfl, upd_same⟩
end
end Gt
namespace Gt
open PySem PySem.Spec PyProof.Rows L2
def keyT (e : Int × Value) : Str := match e.2 with | .str k _ => k | _ => Str.empty
def GoodT (w : World) (e : Int × Value) : Prop := ∃ k tk, e.2 = Value.str k tk ∧ e.1 = hashStr w k
/-- the set of texts at a: S its members, n their number; its table rises and can be walked -/
def SetT (w : World) (h : Heap) (a : Addr) (S : Str → Bool) (n : Nat) : Prop :=
  ∃ o es ep t, h.get? a = some o ∧ o.ExactSet ∧ o.data = .set es ep t ∧ (∀ e ∈ es.toList, GoodT w e) ∧ (es.toList.map keyT).Nodup ∧ (∀ k, S k = true ↔ k ∈ es.toList.map keyT) ∧
    es.size < scanBound ∧ t.fits es.size = true ∧ es.size = n ∧ Ris t.place.toList ∧ (w.params.followText "set-order" = true ∨ t.led = true)
section
variable {P : Program} {w : World} {h h' : Heap} {a : Addr} {S : Str → Bool} {n : Nat}
theorem SetT.at (R : SetT w h a S n) (k : ∀ o, h.get? a = some o → h'.get? a = some o) : SetT w h' a S n := by
  obtain ⟨o, es, ep, t, ho, r⟩ := R
  exact ⟨o, es, ep, t, k o ho, r⟩
theorem SetT.lt (R : SetT w h a S n) : a < h.objs.size := by
  obtain ⟨o, es, ep, t, ho, r⟩ := R
  exact Heap.lt_size ho
end
def SetTO (w : World) (a : Addr) (S : Str → Bool) (n : Nat) : HO := .ext fun h => SetT w h a S n
section
variable {X : Cx}
/-- set(list of texts) -/
def rSetLT (K : PySem.W.Frag) (w : World) : List V → Hp → VK → Prop := fun vs H Q => ∃ (a : Addr) (xs : List Str), vs = [V.ref a] ∧ SqL K H a (xs.map V.str) ∧ xs.length + 1 < scanBound ∧
  ∀ (p : Addr) (c : Nat), H p = none → Q (.ref p) (upd H p (SetTO w p (fun k => decide (k ∈ xs)) c))
/-- sorted(set of texts) -/
def rSortedT (w : World) : List V → Hp → VK → Prop := fun vs H Q => ∃ (a : Addr) (S : Str → Bool) (n : Nat), vs = [V.ref a] ∧ H a = some (SetTO w a S n) ∧
  ∀ (ns : List Str) (p : Addr), sortedS ns = true → ns.Nodup → (∀ k : Str, k ∈ ns ↔ S k = true) → H p = none → Q (.ref p) (upd H p (.lst (ns.map V.str)))
end
def insU (k : Str) : List Str → List Str
  | [] => [k]
  | x :: r => if k = x then x :: r else if k.cps.toList < x.cps.toList then k :: x :: r else x :: insU k r
/-- a list's texts, ascending, each once -/
def srtU : List Str → List Str
  | [] => []
  | x :: r => insU x (srtU r)
abbrev LtS (a b : Str) : Prop := a.cps.toList < b.cps.toList
abbrev Asd (l : List Str) : Prop := l.Pairwise LtS
theorem str_eq {a b : Str} (h : a.cps.toList = b.cps.toList) : a = b := by
  obtain ⟨x⟩ := a
  obtain ⟨y⟩ := b
  have e : x = y := Array.toList_inj.mp h
  rw [e]
theorem ltS_irr (a : Str) : ¬ LtS a a := List.lt_irrefl _
theorem ltS_tr {a b c : Str} (h : LtS a b) (h' : LtS b c) : LtS a c := List.lt_trans h h'
theorem ltS_tot {a b : Str} (h : ¬ LtS a b) (n : a ≠ b) : LtS b a := by
  rcases Classical.em (LtS b a) with c | c
  · exact c
  · exact absurd (str_eq (List.le_antisymm (List.not_lt.mp c) (List.not_lt.mp h))) n
theorem mem_insU {k y : Str} : ∀ {l : List Str}, y ∈ insU k l ↔ y = k ∨ y ∈ l
  | [] => by simp [insU]
  | x :: r => by
    unfold insU
    by_cases e : k = x
    · rw [if_pos e, e, List.mem_cons]
      exact ⟨fun h => .inr h, fun h => h.elim .inl id⟩
    · rw [if_neg e]
      by_cases c : k.cps.toList < x.cps.toList
      · rw [if_pos c, List.mem_cons]
      · rw [if_neg c, List.mem_cons, mem_insU (l := r), List.mem_cons]
        exact ⟨fun h => h.elim (fun a => .inr (.inl a)) (fun a => a.elim .inl fun b => .inr (.inr b)), fun h => h.elim (fun a => .inr (.inl a)) (fun a => a.elim .inl fun b => .inr (.inr b))⟩
theorem asd_insU {k : Str} : ∀ {l : List Str}, Asd l → Asd (insU k l)
  | [], _ => by simp [insU]
  | x :: r, h => by
    obtain ⟨h1, h2⟩ := List.pairwise_cons.mp h
    unfold insU
    by_cases e : k = x
    · rw [if_pos e]; exact h
    · rw [if_neg e]
      by_cases c : k.cps.toList < x.cps.toList
      · rw [if_pos c]
        exact List.pairwise_cons.mpr ⟨fun y hy => (List.mem_cons.mp hy).elim (fun a => a ▸ c) fun a => ltS_tr c (h1 y a), h⟩
      · rw [if_neg c]
        refine List.pairwise_cons.mpr ⟨fun y hy => ?_, asd_insU h2⟩
        rcases mem_insU.mp hy with a | a
        · exact a ▸ ltS_tot c e
        · exact h1 y a
theorem mem_srtU {y : Str} : ∀ {l : List Str}, y ∈ srtU l ↔ y ∈ l
  | [] => Iff.rfl
  | x :: r => by
    show y ∈ insU x (srtU r) ↔ _
    rw [mem_insU, mem_srtU (l := r), List.mem_cons]
theorem asd_srtU : ∀ (l : List Str), Asd (srtU l)
  | [] => List.Pairwise.nil
  | x :: r => asd_insU (asd_srtU r)
/-- two ascending lists of the same texts are the same -/
theorem asd_ext : ∀ {l l' : List Str}, Asd l → Asd l' → (∀ k, k ∈ l ↔ k ∈ l') → l = l'
  | [], [], _, _, _ => rfl
  | [], y :: r, _, _, h => absurd ((h y).mpr List.mem_cons_self) (by simp)
  | x :: r, [], _, _, h => absurd ((h x).mp List.mem_cons_self) (by simp)
  | x :: r, y :: t, hl, hl', h => by
    obtain ⟨a1, a2⟩ := List.pairwise_cons.mp hl
    obtain ⟨b1, b2⟩ := List.pairwise_cons.mp hl'
    have e : x = y := by
      rcases List.mem_cons.mp ((h x).mp List.mem_cons_self) with c | c
      · exact c
      · rcases List.mem_cons.mp ((h y).mpr List.mem_cons_self) with d | d
        · exact d.symm
        · exact absurd (ltS_tr (a1 y d) (b1 x c)) (ltS_irr x)
    subst e
    rw [asd_ext a2 b2 fun k => ⟨fun hk => ?_, fun hk => ?_⟩]
    · rcases List.mem_cons.mp ((h k).mp (List.mem_cons_of_mem _ hk)) with c | c
      · exact absurd (a1 k hk) (c ▸ ltS_irr _)
      · exact c
    · rcases List.mem_cons.mp ((h k).mpr (List.mem_cons_of_mem _ hk)) with c | c
      · exact absurd (b1 k hk) (c ▸ ltS_irr _)
      · exact c
theorem asd_risingS : ∀ (p : Str) (l : List Str), risingS p l = true → (p :: l).Nodup → Asd (p :: l)
  | p, [], _, _ => by simp
  | p, x :: r, h, n => by
    have h0 : (!ltCps x.cps.toList p.cps.toList && risingS x r) = true := h
    rw [Bool.and_eq_true] at h0
    obtain ⟨h1, h2⟩ := h0
    obtain ⟨n1, n2⟩ := List.nodup_cons.mp n
    have ih := asd_risingS x r h2 n2
    have hx : LtS p x := by
      refine ltS_tot (a := x) (fun c => ?_) fun e => n1 (e ▸ List.mem_cons_self)
      rw [ltCps_eq] at h1
      have c' : decide (x.cps.toList < p.cps.toList) = true := decide_eq_true c
      rw [c'] at h1
      cases h1
    refine List.pairwise_cons.mpr ⟨fun y hy => ?_, ih⟩
    rcases List.mem_cons.mp hy with e | e
    · exact e ▸ hx
    · exact ltS_tr hx ((List.pairwise_cons.mp ih).1 y e)
theorem srtU_of {ns xs : List Str} (hs : sortedS ns = true) (hn : ns.Nodup) (hm : ∀ k : Str, k ∈ ns ↔ decide (k ∈ xs) = true) : ns = srtU xs := by
  refine asd_ext ?_ (asd_srtU xs) fun k => by rw [hm k, decide_eq_true_eq, mem_srtU]
  cases ns with
  | nil => exact List.Pairwise.nil
  | cons p l => exact asd_risingS p l hs hn
section
variable {K : PySem.W.Frag} {w : World} {G : Cells K} {ta : TE}
theorem strs_A2 {H : Hp} : ∀ {vs : List V} {xs : List Str}, A2 (rS H) vs xs → vs = xs.map V.str
  | _, _, .nil => rfl
  | _, _, .cons h t => by rw [h.1, strs_A2 t] <;> rfl
theorem A2_strs {H : Hp} : ∀ (xs : List Str), (∀ x ∈ xs, rS H (V.str x) x) → A2 (rS H) (xs.map V.str) xs
  | [], _ => .nil
  | x :: r, h => .cons (h x List.mem_cons_self) (A2_strs r fun y hy => h y (List.mem_cons_of_mem _ hy))
theorem A2_mem {H : Hp} {P : Str → Prop} : ∀ {vs : List V} {xs : List Str}, A2 (fun (_ : V) x => P x) vs xs → ∀ x ∈ xs, P x
  | _, _, .nil, x, h => absurd h (by simp)
  | _, _, .cons h t, x, hx => (List.mem_cons.mp hx).elim (fun e => e ▸ h) fun e => A2_mem (H := H) t x e
theorem a_srt {xs : List Str} (h : Ev (rL rS) ta G xs) (hb : xs.length + 1 < 4096) : Nw (nl K rS) (tCB (rSortedT w) (tCons (tCB (rSetLT K w) (tCons ta tNil)) tNil)) G (srtU xs) := fun H0 σ H E Q k =>
  h H0 σ H E _ fun v H1 e1 ⟨p, us, ev, hp, z⟩ => by
    have eu : us = xs.map V.str := strs_A2 z
    have ok : ∀ x ∈ xs, okS x := A2_mem (H := H1) (z.imp fun _ _ q => q.2)
    refine ⟨p, xs, by rw [ev], by rw [← eu]; exact SqL.of hp, by unfold scanBound; omega, fun q c hq => ?_⟩
    refine ⟨q, _, c, rfl, upd_same, fun ns l hs hn hm hl => ?_⟩
    have en : ns = srtU xs := srtU_of hs hn hm
    subst en
    have e2 : Same H1 (upd H1 q (SetTO w q (fun k => decide (k ∈ xs)) c)) := same_new hq
    refine k _ _ [l] ((e1.trans e2).trans (same_new hl)) (fun b hb => by rw [List.mem_singleton.mp hb]; exact free_back (e1.trans e2) hl) ⟨l, _, rfl, rfl, upd_same, ?_⟩
    exact (A2_strs (H := upd (upd H1 q (SetTO w q (fun k => decide (k ∈ xs)) c)) l (.lst ((srtU xs).map V.str))) (srtU xs) fun x hx => ⟨rfl, ok x (mem_srtU.mp hx)⟩).imp fun _ _ q => stb q
end
end Gt
namespace Gt
open PySem PySem.Spec PyProof.Rows L2
section
variable {K : PySem.W.Frag} {α β γ δ ρ : Type} {H0 H H1 H2 H' H'' : Hp} {σ : L2.St} {G G' Gx : Cells K} {D : Ends} {u : TS}
variable {te ti tk tx tv ta tb tc td ty : TE} {i j m : Nat} {x : α} {n : Int} {r : Rp α} {q : Rp γ} {k : Str}
abbrev rStrS : List V → Hp → VK → Prop := fun xs H Q => ∃ a, xs = [.str a] ∧ Q (.str a) H
theorem a_strS {x : Str} (h : Ev rS te G x) : Ev rS (tCB rStrS (tCons te tNil)) G x := ev_cb (ea_cons h ea_nil) fun H vs ⟨v, ws, e, hv, e2⟩ Q kk => by
  refine ⟨x, by rw [e, show ws = [] from e2, hv.1], kk _ H (Same.refl H) ⟨rfl, hv.2⟩⟩
end
end Gt
namespace Gt
open PySem PySem.Spec PyProof.Rows L2
section
variable {K : PySem.W.Frag} {α β γ ρ : Type}
/-- a field more -/
def fA (F : RF K β) (f : Str) (R : Rs K α) : RF K (β × α) where
  names := F.names ++ [f]
  rep := fun H fs x as => ∃ gs v a1 a2, fs = gs ++ [(f, v)] ∧ as = a1 ++ a2 ∧ F.rep H gs x.1 a1 ∧ R.rep H v x.2 a2
  ns := fun ⟨gs, v, a1, a2, e1, _, h, _⟩ => by rw [e1, List.map_append, F.ns h]; rfl
  stay := fun ⟨gs, v, a1, a2, e1, e2, h1, h2⟩ x k => ⟨gs, v, a1, a2, e1, e2, F.stay h1 x (fun p hp => k p (by rw [e2]; exact List.mem_append_left _ hp)), R.stay h2 x (fun p hp => k p (by rw [e2]; exact List.mem_append_right _ hp))⟩
  there := fun ⟨gs, v, a1, a2, e1, e2, h1, h2⟩ p hp => by
    rw [e2] at hp
    rcases List.mem_append.mp hp with q | q
    · exact F.there h1 p q
    · exact R.there h2 p q
theorem lookup_snoc {f g : Str} {v : V} : ∀ {fs : List (Str × V)}, (fs ++ [(g, v)]).lookup f = match fs.lookup f with | some w => some w | none => if f == g then some v else none
  | [] => by
    show List.lookup f [(g, v)] = _
    rw [List.lookup_cons]
    cases f == g <;> rfl
  | (a, b) :: r => by
    show List.lookup f ((a, b) :: (r ++ [(g, v)])) = _
    rw [List.lookup_cons, List.lookup_cons]
    cases f == a with
    | true => rfl
    | false => exact lookup_snoc (fs := r)
theorem lookup_out {f : Str} : ∀ {fs : List (Str × V)}, f ∉ fs.map (·.1) → fs.lookup f = none
  | [], _ => rfl
  | (a, b) :: r, h => by
    rw [List.lookup_cons]
    have hn : (f == a) = false := by
      cases q : f == a with
      | false => rfl
      | true => exact absurd (List.mem_cons.mpr (.inl (beq_iff_eq.mp q))) h
    rw [hn]
    exact lookup_out fun z => h (List.mem_cons_of_mem _ z)
theorem putF_out {f : Str} {v : V} : ∀ {fs : List (Str × V)}, f ∉ fs.map (·.1) → putF f v fs = fs ++ [(f, v)]
  | [], _ => rfl
  | (a, b) :: r, h => by
    have hn : ¬ a = f := fun e => h (List.mem_cons.mpr (.inl e.symm))
    show (if a = f then (a, v) :: r else (a, b) :: putF f v r) = _
    rw [if_neg hn, putF_out (fs := r) fun z => h (List.mem_cons_of_mem _ z)]
    rfl
theorem fldA_hd {f : Str} {R : Rs K α} {F : RF K β} (nf : f ∉ F.names) : FldAt (fA F f R) f R (fun x => x.2) := fun H fs x as ⟨gs, v, a1, a2, e1, _, h1, h2⟩ => by
  refine ⟨v, a2, ?_, h2⟩
  rw [e1, lookup_snoc, lookup_out (by rw [F.ns h1]; exact nf)]
  show (if (f == f) = true then some v else none) = some v
  rw [if_pos (beq_self_eq_true f)]
theorem fldA_tl {f g : Str} {R : Rs K α} {S : Rs K γ} {F : RF K β} {get : β → γ} (h : FldAt F f S get) : FldAt (fA F g R) f S (fun x => get x.1) := fun H fs x as ⟨gs, v, a1, a2, e1, _, h1, h2⟩ => by
  obtain ⟨w, bs, l, hr⟩ := h H gs x.1 a1 h1
  exact ⟨w, bs, by rw [e1, lookup_snoc, l], hr⟩
/-- self while its fields are filled -/
def nGro (K : PySem.W.Frag) (p C : Addr) (F : RF K α) : Rs K α where
  rep := fun H v x as => ∃ dx fs bs, v = .ref p ∧ as = p :: bs ∧ p ∉ bs ∧ H p = some (.ins C dx fs) ∧ F.rep H fs x bs
  stay := fun ⟨dx, fs, bs, e1, e2, np, h1, h2⟩ x k => ⟨dx, fs, bs, e1, e2, np, k p (by rw [e2]; exact List.mem_cons_self ..) _ h1, F.stay h2 x (fun q hq => k q (by rw [e2]; exact List.mem_cons_of_mem _ hq))⟩
  there := fun ⟨dx, fs, bs, e1, e2, np, h1, h2⟩ q hq => by
    rw [e2] at hq
    rcases List.mem_cons.mp hq with z | z
    · rw [z]; exact ⟨_, h1, fun z => z⟩
    · exact F.there h2 q z
theorem gro_rec {p C : Addr} {F : RF K α} {H : Hp} {v : V} {x : α} {as : List Addr} (h : (nGro K p C F).rep H v x as) : (nRec K C F).rep H v x as := by
  obtain ⟨dx, fs, bs, e1, e2, _, h1, h2⟩ := h
  exact ⟨p, dx, fs, bs, e1, e2, h1, h2⟩
variable {H0 H1 H2 H H' : Hp} {σ : L2.St} {G G' : Cells K} {r : Rp α} {q : Rp β} {D : Ends} {u : TS} {te ta : TE} {R : Rs K γ} {b : γ}
theorem a_gro {i : Nat} {p C : Addr} {F : RF K α} {x : α} (h : G[i]? = some (some (.ow (nGro K p C F) x))) : Ev (rRec K C F) (tVar i) G x := fun H0 σ H E Q k => by
  obtain ⟨own, _, _, h3⟩ := E.at_
  obtain ⟨v, hv, hr⟩ := h3 i _ h
  exact ⟨v, hv, k v H (Same.refl H) ⟨_, gro_rec hr⟩⟩
/-- one field more, its thing's owner given -/
theorem gro_put {own : Nat → List Addr} {i : Nat} {p C : Addr} {F : RF K α} {x : α} {f : Str} {v : V} {as : List Addr} (E : EnvO own H1 σ H G) (hi : G[i]? = some (some (.ow (nGro K p C F) x))) (hr : R.rep H v b as) (hf : ∀ a, a ∈ as → H1 a = none ∧ ∀ j, a ∉ own j) (nf : f ∉ F.names) :
    ∃ dx fs, H p = some (.ins C dx fs) ∧ fs.map (·.1) = F.names ∧ EnvO (fun j => if j = i then own i ++ as else own j) H1 σ (upd H p (.ins C dx (putF f v fs))) (G.set i (some (.ow (nGro K p C (fA F f R)) (x, b)))) ∧ σ[i]? = some (some (.ref p)) := by
  obtain ⟨w, hw, dx, fs, bs, ew, ea, np, hp, hF⟩ := E.at_ i _ hi
  subst ew
  have hl : i < G.length := (List.getElem?_eq_some_iff.mp hi).1
  have pi : p ∈ own i := by rw [ea]; exact List.mem_cons_self ..
  have pas : p ∉ as := fun z => (hf p z).2 i pi
  have ns := F.ns hF
  have x0 : ExT K H (upd H p (.ins C dx (putF f v fs))) := ext_upd hp fun z => z
  have keep : ∀ t : List Addr, p ∉ t → ∀ a, a ∈ t → ∀ o, H a = some o → upd H p (.ins C dx (putF f v fs)) a = some o := fun t ht a ha o ho => by
    rw [upd_ne fun z => ht (by rw [← z]; exact ha)]; exact ho
  refine ⟨dx, fs, hp, ns, ⟨fun c o hc => ?_, by rw [List.length_set]; exact E.len, fun j a ha => ?_, fun j k a hj hk => ?_, fun j c hc => ?_⟩, hw⟩
  · have : c ≠ p := fun z => by rw [z, (E.free i p pi).1] at hc; cases hc
    rw [upd_ne this]
    exact E.old _ _ hc
  · have up : ∀ a, (∃ o, H a = some o ∧ ¬ isTup o) → ∃ o, upd H p (.ins C dx (putF f v fs)) a = some o ∧ ¬ isTup o := fun a ⟨o, ho, nt⟩ => by
      by_cases e : a = p
      · rw [e, upd_same]; exact ⟨_, rfl, fun z => z⟩
      · rw [upd_ne e]; exact ⟨o, ho, nt⟩
    by_cases h : j = i
    · simp only [h, if_true] at ha
      rcases List.mem_append.mp ha with z | z
      · exact ⟨(E.free i a z).1, up a (E.free i a z).2⟩
      · exact ⟨(hf a z).1, up a (R.there hr a z)⟩
    · simp only [h, if_false] at ha
      exact ⟨(E.free j a ha).1, up a (E.free j a ha).2⟩
  · by_cases h : j = i <;> by_cases h' : k = i
    · rw [h, h']
    · simp only [h, h', if_true, if_false] at hj hk
      rcases List.mem_append.mp hj with z | z
      · exact h ▸ E.apart i k a z hk
      · exact absurd hk ((hf a z).2 k)
    · simp only [h, h', if_true, if_false] at hj hk
      rcases List.mem_append.mp hk with z | z
      · exact h' ▸ E.apart j i a hj z
      · exact absurd hj ((hf a z).2 j)
    · simp only [h, h', if_false] at hj hk
      exact E.apart j k a hj hk
  · by_cases h : j = i
    · subst h
      rw [List.getElem?_set_self hl] at hc
      cases hc
      refine ⟨_, hw, dx, putF f v fs, bs ++ as, rfl, ?_, fun z => ?_, upd_same, ?_⟩
      · simp only [if_true]
        rw [ea]; rfl
      · rcases List.mem_append.mp z with z | z
        · exact np z
        · exact pas z
      · exact ⟨fs, v, bs, as, putF_out (by rw [ns]; exact nf), rfl, F.stay hF x0 (keep bs np), R.stay hr x0 (keep as pas)⟩
    · rw [List.getElem?_set_ne (Ne.symm h)] at hc
      obtain ⟨w, hw, hk⟩ := E.at_ j c hc
      refine ⟨w, hw, ?_⟩
      simp only [h, if_false]
      exact cell_stay hk x0 (keep (own j) fun z => h (E.apart j i p z pi))
/-- self.f = something new -/
theorem l_selfN {i : Nat} {p C : Addr} {F : RF K α} {x : α} {f : Str} (hi : G[i]? = some (some (.ow (nGro K p C F) x))) (h : Nw R te G b) (nf : f ∉ F.names) (hz : F.names.length < 1000) (c : Cls K C) (n : NoAttr K C f)
    (kk : Nx H0 (G.set i (some (.ow (nGro K p C (fA F f R)) (x, b)))) D.nx) : Sv H0 G (sFld K (tVar i) te f) D := fun σ H ⟨H1, e1, E⟩ =>
  h H1 σ H E _ fun v H2 as e2 hn hr => by
    obtain ⟨own, EO⟩ := E.o
    have E2 := EO.grow e2
    have hf : ∀ a, a ∈ as → H1 a = none ∧ ∀ j, a ∉ own j := fun a ha => ⟨free_back EO.old (hn a ha), fun j z => by obtain ⟨o, ho, _⟩ := (EO.free j a z).2; rw [hn a ha] at ho; cases ho⟩
    obtain ⟨dx, fs, hp, ns, E3, hw⟩ := gro_put E2 hi hr hf nf
    exact ⟨_, hw, p, C, dx, fs, rfl, hp, c, n, by rw [← List.length_map (f := (·.1)) (as := fs), ns]; exact hz, kk _ _ ⟨H1, e1, E3.e⟩⟩
theorem q_selfN {i : Nat} {p C : Addr} {F : RF K α} {x : α} {f : Str} (hi : G[i]? = some (some (.ow (nGro K p C F) x))) (h : Nw R te G b) (nf : f ∉ F.names) (hz : F.names.length < 1000) (c : Cls K C) (n : NoAttr K C f)
    (kk : Sv H0 (G.set i (some (.ow (nGro K p C (fA F f R)) (x, b)))) u D) : Sv H0 G (tSeq (sFld K (tVar i) te f) u) D := l_selfN (D := { D with nx := u D }) hi h nf hz c n kk
/-- the list at l is what get tells -/
def FAt (F : RF K α) (l : Addr) (r : Rp β) (get : α → List β) : Prop := ∀ H fs x as, F.rep H fs x as → rL r H (.ref l) (get x)
theorem fat_hd {F : RF K α} {f : Str} {l : Addr} : FAt (fA F f (nlA K q l)) l q (fun x => x.2) := fun H fs x as ⟨gs, v, a1, a2, _, _, _, ⟨⟨l', vs, _, ev, hl, z⟩, e⟩⟩ => by
  subst e
  cases ev
  exact ⟨l, vs, rfl, hl, z.imp fun _ _ w => w.now⟩
theorem fat_tl {F : RF K α} {f : Str} {l : Addr} {S : Rs K γ} {get : α → List β} (h : FAt F l q get) : FAt (fA F f S) l q (fun x => get x.1) := fun H fs x as ⟨gs, v, a1, a2, _, _, h1, _⟩ => h H gs x.1 a1 h1
theorem a_alF {i m : Nat} {p C l : Addr} {F : RF K α} {x : α} {z : List β} {get : α → List β} (hm : G[m]? = some (fc rV (.ref l))) (hi : G[i]? = some (some (.ow (nGro K p C F) x))) (h : FAt F l q get) (e : get x = z) : Ev (rL q) (tVar m) G z := fun H0 σ H E Q k => by
  subst e
  obtain ⟨own, _, _, h3⟩ := E.at_
  obtain ⟨v, hv, hr⟩ := h3 m _ hm
  obtain ⟨w, _, dx, fs, bs, _, _, _, _, hF⟩ := h3 i _ hi
  have ev : v = .ref l := hr.2 H (ExT.refl _)
  subst ev
  exact ⟨_, hv, k _ H (Same.refl H) (h _ _ _ _ hF)⟩
def spInit (K : PySem.W.Frag) (C : Addr) (F : RF K β) (A : Ra α) (m : α → M β) : Sp := fun vs H Q E => ∃ p dx ws a H1, vs = .ref p :: ws ∧ Same H1 H ∧ H1 p = none ∧ ExT K H1 H ∧ H p = some (.ins C dx []) ∧ A H1 ws a ∧ NStk (m a) ∧
  (∀ b, m a = .ok b → ∀ H' as, Same H1 H' → (∀ q, q ∈ as → H1 q = none) → (nRec K C F).rep H' (.ref p) b as → Q .non H') ∧
  ∀ x fs, m a = .error (.ex x fs) → ∀ d H', Same H1 H' → H1 d = none → XR K H' d fs → E (.ref (cA K x)) (some d) H'
theorem spInit_len {K : PySem.W.Frag} {C : Addr} {α β : Type} {F : RF K β} {A : Ra α} {m : α → M β} {n : Nat} [L : LenA A n] {vs : List V} {H : Hp} {Q : VK} {E : XK} (h : spInit K C F A m vs H Q E) : vs.length = n + 1 := by
  obtain ⟨p, dx, ws, a, H1, rfl, _, _, _, _, hA, _⟩ := h
  rw [List.length_cons, L.len hA]
theorem nw_mkI {C : Addr} {F : RF K β} {A : Ra α} {a : α} {m : α → M β} {b : β} {E' : L2.St → XK} {tq : TA} (hA : EvA A tq G a) (M : MonoA A) (e : MOk m a b) : Nw (nRec K C F) (tMakeS C (spInit K C F A m) E' tq) G b := fun H0 σ H E Q k =>
  hA H0 σ H E _ fun vs H2 e2 hvs x dx hx hdx hne => by
    have e : m a = .ok b := e
    have s1 : Same H2 (upd (upd H2 dx (.own x)) x (.ins C dx [])) := same_made hx hdx
    refine ⟨x, dx, vs, a, H2, rfl, s1, hx, ext_same s1, upd_same, hvs, nstk_ok e, fun b' hb H' as s2 hf hr => ⟨rfl, ?_⟩, fun y fs hy => by rw [e] at hy; cases hy⟩
    rw [e] at hb
    cases hb
    exact k _ H' as (e2.trans s2) (fun p hp => free_back e2 (hf p hp)) hr
/-- the start -/
theorem Sv.runI {C p dx : Addr} {σ : L2.St} {G : Cells K} {t : TS} (s : Sv H1 (some (.ow (nGro K p C fN) ()) :: G) t D) (e : Same H1 H) (h1 : H1 p = none) (hp : H p = some (.ins C dx [])) (w : Pw H1 σ G) : t D (some (.ref p) :: σ) H := by
  refine s _ H ⟨H1, Same.refl _, e, by rw [List.length_cons, List.length_cons, w.len], fun i => if i = 0 then [p] else [], fun i a ha => ?_, fun i j a hi hj => ?_, fun i c hc => ?_⟩
  · by_cases h : i = 0
    · simp only [h, if_true] at ha
      cases List.mem_singleton.mp ha
      exact ⟨h1, _, hp, fun z => z⟩
    · simp only [h, if_false] at ha; cases ha
  · by_cases h : i = 0 <;> by_cases h' : j = 0
    · rw [h, h']
    · simp only [h', if_false] at hj; cases hj
    · simp only [h, if_false] at hi; cases hi
    · simp only [h, if_false] at hi; cases hi
  · cases i with
    | zero =>
      cases hc
      exact ⟨_, rfl, dx, [], [], rfl, rfl, List.not_mem_nil, hp, rfl, rfl⟩
    | succ i =>
      obtain ⟨v, hv, hk⟩ := w.get hc
      refine ⟨v, hv, ?_⟩
      simp only [Nat.succ_ne_zero, if_false]
      exact cell_stay hk (ext_same e) fun _ z => nomatch z
/-- the end -/
def RLe (R R' : Rs K α) : Prop := ∀ H v x as, R.rep H v x as → R'.rep H v x as
def FLe (F F' : RF K α) : Prop := ∀ H fs x as, F.rep H fs x as → F'.rep H fs x as
theorem rle_refl {R : Rs K α} : RLe R R := fun _ _ _ _ h => h
theorem rle_nlA {l : Addr} {q : Rp β} : RLe (nlA K q l) (nl K q) := fun _ _ _ _ h => h.1
theorem fle_N : FLe (K := K) fN fN := fun _ _ _ _ h => h
theorem fle_A {F F' : RF K β} {f : Str} {R R' : Rs K α} (h : FLe F F') (h' : RLe R R') : FLe (fA F f R) (fA F' f R') := fun _ _ _ _ ⟨gs, v, a1, a2, e1, e2, h1, h2⟩ => ⟨gs, v, a1, a2, e1, e2, h _ _ _ _ h1, h' _ _ _ _ h2⟩
theorem nx_init {p C : Addr} {F F' : RF K α} {x : α} {P : Hp → Prop} (hi : G[0]? = some (some (.ow (nGro K p C F) x))) (le : FLe F F') (h : ∀ H' as, Same H0 H' → (∀ q, q ∈ as → H0 q = none) → (nRec K C F').rep H' (.ref p) x as → P H') : Nx H0 G (fun _ H' => P H') := fun σ H ⟨H1, e1, E⟩ => by
  obtain ⟨own, h1, h2, h3⟩ := E.at_
  obtain ⟨v, hv, hr⟩ := h3 0 _ hi
  have ev : v = .ref p := by obtain ⟨_, _, _, e, _⟩ := hr; exact e
  subst ev
  obtain ⟨a, dx, fs, bs, z1, z2, z3, z4⟩ := gro_rec hr
  exact h H (own 0) (e1.trans E.old) (fun q hq => free_back e1 (h1 0 q hq).1) ⟨a, dx, fs, bs, z1, z2, z3, le _ _ _ _ z4⟩
end
end Gt
namespace Gt
open PySem PySem.Spec PyProof.Rows L2
def tArgN (t : TA) : TA := fun σ H Q => t σ H fun vs H1 => Q (vs ++ [.non]) H1
section
variable {K : PySem.W.Frag} {α β γ : Type} {G : Cells K} {r : Rp α} {q : Rp β} {t : TA} {te ta tb : TE} {x : α} {b : β}
theorem ea_argN1 (h : EvA (aC r aN) t G (x, ())) : EvA (aC r (aC rN aN)) (tArgN t) G (x, ((), ())) := fun H0 σ H E Q k =>
  h H0 σ H E _ fun vs H1 e1 ⟨v, ws, ev, hv, ew⟩ => k _ H1 e1 ⟨v, [.non], by rw [ev, show ws = [] from ew]; rfl, hv, .non, [], rfl, rfl, rfl⟩
end
end Gt
namespace Gt
open PySem PySem.Spec PyProof.Rows L2
section
variable {K : PySem.W.Frag} {α β γ : Type} {r : Rp α}
instance bor_nl : Bor K (nl K r) (rL r) := ⟨fun ⟨p, vs, _, ev, hp, z⟩ => ⟨p, vs, ev, hp, z.imp fun _ _ w => w.now⟩⟩
instance bor_nlA {p : Addr} : Bor K (nlA K r p) (rL r) := ⟨fun ⟨⟨p, vs, _, ev, hp, z⟩, _⟩ => ⟨p, vs, ev, hp, z.imp fun _ _ w => w.now⟩⟩
instance bor_nd : Bor K (nd K r) (rD r) := ⟨fun ⟨p, kvs, _, ev, hp, z⟩ => ⟨p, kvs, ev, .inl hp, z.imp fun _ _ w => ⟨w.1, w.2.now⟩⟩⟩
end
end Gt
namespace Gt
open PySem PySem.Spec PyProof.Rows L2
def ltS (a b : Str) : Bool := decide (a.cps.toList < b.cps.toList)
section
variable {K : PySem.W.Frag} {G : Cells K} {ta tb : TE} {a b : Str}
theorem a_ltS (h : Ev rS ta G a) (h' : Ev rS tb G b) : Ev rB (tOp (fun x y H Q => ∃ i j, x = .str i ∧ y = .str j ∧ Q (.bl (decide (i.cps.toList < j.cps.toList))) H) ta tb) G (ltS a b) := fun H0 σ H E Q k =>
  h H0 σ H E _ fun v H1 e1 z => h' H0 σ H1 (E.grow e1) _ fun w H2 e2 z2 => ⟨a, b, z.1, z2.1, k _ H2 (e1.trans e2) rfl⟩
end
end Gt
namespace Gt
open PySem PySem.Spec PyProof.Rows L2
def tMethS (C : Addr) (m : Str) (sp : Sp) (E : L2.St → XK) (ta : TE) (t : TA) : TE := fun σ H Q => ta σ H fun x H1 => ∃ a dx fs, x = .ref a ∧ H1 a = some (.ins C dx fs) ∧ fs.lookup m = none ∧ t σ H1 fun vs H2 => sp (x :: vs) H2 Q (E σ)
section
variable {K : PySem.W.Frag} {α β γ δ ρ : Type} {H0 H1 H2 H H' : Hp} {σ : L2.St} {G G' : Cells K} {r : Rp α} {q : Rp γ} {D : Ends} {u : TS} {te ta : TE} {t : TA} {R : Rs K ρ}
/-- .. where nothing may leave -/
theorem ev_mthX {C : Addr} {names : List Str} {mt : Str} {x : α} {A : Ra β} {b : β} {m : α × β → M γ} {E' : L2.St → XK} {c : γ} (h : Ev r ta G x) (M : Mono r) (I : InsR K C r names) (hn : mt ∉ names) (hA : EvA A t G b) (e : MOk m (x, b) c) :
    Ev q (tMethS C mt (spX (K := K) (aC r A) q m) E' ta t) G c := fun H0 σ H E Q k => h H0 σ H E _ fun v H2 e2 hv => by
  obtain ⟨a, dx, fs, ea, ha, hm⟩ := I.ins hv
  have e : m (x, b) = .ok c := e
  refine ⟨a, dx, fs, ea, ha, lookup_no hm hn, hA H0 σ H2 (E.grow e2) _ fun vs H3 e3 hvs => ?_⟩
  exact ⟨(x, b), ⟨v, vs, rfl, M.up e3 hv, hvs⟩, nstk_ok e, fun c' hc w' H4 e4 hw => k w' H4 ((e2.trans e3).trans e4) (by rw [e] at hc; cases hc; exact hw), fun y fs' he => by rw [e] at he; cases he⟩
theorem nw_mthX {C : Addr} {names : List Str} {mt : Str} {x : α} {A : Ra β} {b : β} {m : α × β → M ρ} {E' : L2.St → XK} {c : ρ} (h : Ev r ta G x) (M : Mono r) (I : InsR K C r names) (hn : mt ∉ names) (hA : EvA A t G b) (e : MOk m (x, b) c) :
    Nw R (tMethS C mt (spXN (aC r A) R m) E' ta t) G c := fun H0 σ H E Q k => h H0 σ H E _ fun v H2 e2 hv => by
  obtain ⟨a, dx, fs, ea, ha, hm⟩ := I.ins hv
  have e : m (x, b) = .ok c := e
  refine ⟨a, dx, fs, ea, ha, lookup_no hm hn, hA H0 σ H2 (E.grow e2) _ fun vs H3 e3 hvs => ?_⟩
  exact ⟨(x, b), ⟨v, vs, rfl, M.up e3 hv, hvs⟩, nstk_ok e, fun c' hc w' H4 as e4 hf hw => k w' H4 as ((e2.trans e3).trans e4) (fun p hp => free_back (e2.trans e3) (hf p hp)) (by rw [e] at hc; cases hc; exact hw), fun y fs' he => by rw [e] at he; cases he⟩
end
/-- a dict that is locked, or unlocked, and nothing else -/
def Tgl (H H' : Hp) : Prop := ∃ p od kvs, (H p = some (.dK kvs) ∧ H' = upd H p (.frz od (.dK kvs))) ∨ (H p = some (.frz od (.dK kvs)) ∧ H' = upd H p (.dK kvs))
theorem tgl_at {H H' : Hp} (t : Tgl H H') {a : Addr} {o : HO} (h : H a = some o) (n : ∀ kvs, o ≠ .dK kvs) (n2 : ∀ od kvs, o ≠ .frz od (.dK kvs)) : H' a = some o := by
  obtain ⟨p, od, kvs, ⟨hp, e⟩ | ⟨hp, e⟩⟩ := t
  · have ne : a ≠ p := fun z => by rw [z, hp] at h; exact n kvs (Option.some.inj h).symm
    rw [e, upd_ne ne]; exact h
  · have ne : a ≠ p := fun z => by rw [z, hp] at h; exact n2 od kvs (Option.some.inj h).symm
    rw [e, upd_ne ne]; exact h
theorem tgl_ext {K : PySem.W.Frag} {H H' : Hp} (t : Tgl H H') : ExT K H H' := .mk' fun a o9 t9 q => tgl_at t q (fun _ z => by rw [z] at t9; exact t9) fun _ _ z => by rw [z] at t9; exact t9
theorem tgl_rd {H H' : Hp} (t : Tgl H H') {a : Addr} {kvs : List (Key × V)} (h : L2.Rd H a (.dK kvs)) : L2.Rd H' a (.dK kvs) := by
  obtain ⟨p, od, kv, ⟨hp, e⟩ | ⟨hp, e⟩⟩ := t
  · by_cases z : a = p
    · subst z
      rcases h with h | ⟨o, h⟩
      · rw [hp] at h; cases h
        exact .inr ⟨od, by rw [e, upd_same]⟩
      · rw [hp] at h; cases h
    · rcases h with h | ⟨o, h⟩
      · exact .inl (by rw [e, upd_ne z]; exact h)
      · exact .inr ⟨o, by rw [e, upd_ne z]; exact h⟩
  · by_cases z : a = p
    · subst z
      rcases h with h | ⟨o, h⟩
      · rw [hp] at h; cases h
      · rw [hp] at h; cases h
        exact .inl (by rw [e, upd_same])
    · rcases h with h | ⟨o, h⟩
      · exact .inl (by rw [e, upd_ne z]; exact h)
      · exact .inr ⟨o, by rw [e, upd_ne z]; exact h⟩
class Ulk {β : Type} (r : Rp β) : Prop where
  up : ∀ {H H' : Hp} {v : V} {b : β}, Tgl H H' → r H v b → r H' v b
section
variable {K : PySem.W.Frag} {α β : Type}
instance : Ulk rI := ⟨fun _ h => h⟩
instance : Ulk rB := ⟨fun _ h => h⟩
instance : Ulk rS := ⟨fun _ h => h⟩
instance : Ulk rN := ⟨fun _ h => h⟩
instance : Ulk rV := ⟨fun _ h => h⟩
instance {r : Rp β} [M : Ulk r] : Ulk (rO r) := ⟨fun {_ _ _ b} e h => match b, h with
  | .none, h => h
  | .some _, h => M.up (v := _) e h⟩
instance {r : Rp β} [M : Ulk r] : Ulk (rT K r) := ⟨fun e ⟨a, vs, ev, h, q⟩ => ⟨a, vs, ev, (tgl_ext e).d _ _ h, q.imp fun _ _ z => M.up e z⟩⟩
instance {r : Rp α} {q : Rp β} [M : Ulk r] [N : Ulk q] : Ulk (rP K r q) := ⟨fun e ⟨a, x, y, ev, h, h1, h2⟩ => ⟨a, x, y, ev, tgl_ext e _ _ h, M.up e h1, N.up e h2⟩⟩
instance {r : Rp β} [M : Ulk r] : Ulk (rL r) := ⟨fun e ⟨a, vs, ev, h, q⟩ => ⟨a, vs, ev, tgl_at e h (fun _ z => nomatch z) (fun _ _ z => nomatch z), q.imp fun _ _ z => M.up e z⟩⟩
instance {r : Rp β} [M : Ulk r] : Ulk (rD r) := ⟨fun e ⟨a, kvs, ev, h, q⟩ => ⟨a, kvs, ev, tgl_rd e h, q.imp fun _ _ z => ⟨z.1, M.up e z.2⟩⟩⟩
end
/-- a dict that is handed, and not locked -/
def rDp {α : Type} (r : Rp α) : Rp (List (Str × α)) := fun H v xs => ∃ a kvs, v = .ref a ∧ H a = some (.dK kvs) ∧ A2 (Kv (r H)) kvs xs
/-- .. locked, at a -/
def rLkA {α : Type} (r : Rp α) (a : Addr) : Rp (List (Str × α)) := fun H v xs => ∃ od kvs, v = .ref a ∧ H a = some (.frz od (.dK kvs)) ∧ A2 (Kv (r H)) kvs xs
inductive LkG {K : PySem.W.Frag} : Cells K → Prop
  | nil : LkG []
  | non {G : Cells K} : LkG G → LkG (none :: G)
  | ow {G : Cells K} {β : Type} {R : Rs K β} {b : β} : LkG G → LkG (some (.ow R b) :: G)
  | ro {G : Cells K} {β : Type} {r : Rp β} {m : Mono r} {b : β} : Ulk r → LkG G → LkG (some (.ro r m b) :: G)
theorem LkG.at_ {K : PySem.W.Frag} {G : Cells K} (L : LkG G) : ∀ {j : Nat} {β : Type} {r : Rp β} {m : Mono r} {b : β}, G[j]? = some (some (.ro r m b)) → Ulk r := by
  induction L with
  | nil => intro j β r m b h; cases h
  | non _ ih => intro j β r m b h; cases j with
    | zero => cases h
    | succ j => exact ih (j := j) h
  | ow _ ih => intro j β r m b h; cases j with
    | zero => cases h
    | succ j => exact ih (j := j) h
  | ro U _ ih => intro j β r m b h; cases j with
    | zero => cases h; exact U
    | succ j => exact ih (j := j) h
section
variable {K : PySem.W.Frag} {α β γ : Type} {H0 H1 H2 H H' : Hp} {σ : L2.St} {G G' G2 : Cells K} {r : Rp α} {D : Ends} {u t : TS} {te : TE}
instance [M : Mono r] : Mono (rDp r) := ⟨fun e ⟨a, kvs, ev, h, q⟩ => ⟨a, kvs, ev, e _ _ h, q.imp fun _ _ z => ⟨z.1, M.up e z.2⟩⟩⟩
instance {a : Addr} [M : Mono r] : Mono (rLkA r a) := ⟨fun e ⟨od, kvs, ev, h, q⟩ => ⟨od, kvs, ev, e _ _ h, q.imp fun _ _ z => ⟨z.1, M.up e z.2⟩⟩⟩
theorem ev_dp {xs : List (Str × α)} (h : Ev (rDp r) te G xs) : Ev (rD r) te G xs := h.imp fun _ _ ⟨a, kvs, ev, h, q⟩ => ⟨a, kvs, ev, .inl h, q⟩
theorem ev_lkA {a : Addr} {xs : List (Str × α)} (h : Ev (rLkA r a) te G xs) : Ev (rD r) te G xs := h.imp fun _ _ ⟨od, kvs, ev, h, q⟩ => ⟨a, kvs, ev, .inr ⟨od, h⟩, q⟩
theorem ev_dp0 : Ev (rDp r) tDNewK G [] := fun H0 σ H E Q c p hp => c _ _ (same_new hp) ⟨p, [], rfl, upd_same, .nil⟩
theorem bor_ndp : Bor K (nd K r) (rDp r) := ⟨fun ⟨p, kvs, _, ev, hp, z⟩ => ⟨p, kvs, ev, hp, z.imp fun _ _ w => ⟨w.1, w.2.now⟩⟩⟩
end
end Gt
namespace Gt
open PySem PySem.Spec PyProof.Rows L2
section
variable {K : PySem.W.Frag} {α β γ δ ρ : Type} {H0 H1 H2 H H' : Hp} {σ : L2.St} {G G' : Cells K} {r : Rp α} {q : Rp γ} {D : Ends} {u : TS} {te ta : TE} {t : TA} {R : Rs K ρ}
instance {r : Rp α} : Seq K r (rEi K r) := ⟨fun ⟨p, vs, ev, hp, h⟩ => ⟨p, vs, ev, hp.imp SqL.of id, h⟩⟩
instance {C : Addr} {F : RF K α} : NotNon (rRec K C F) := ⟨fun ⟨_, _, _, _, _, e, _⟩ z => by rw [z] at e; cases e⟩
theorem ea_argNO {x : α} (h : EvA (aC r aN) t G (x, ())) : EvA (aC r (aC (rO q) aN)) (tArgN t) G (x, (none, ())) := fun H0 σ H E Q k =>
  h H0 σ H E _ fun vs H1 e1 ⟨v, ws, e, hv, hw⟩ => k _ H1 e1 ⟨v, [.non], by rw [e, hw]; rfl, hv, .non, [], rfl, rfl, rfl⟩
theorem a_roS {i : Nat} {m : Mono (rO r)} {o : Option α} {b : α} (h : G[i]? = some (some (.ro (rO r) m o))) (e : o = some b) : Ev r (tVar i) G b := fun H0 σ H E Q k => by
  obtain ⟨own, _, _, h3⟩ := E.at_
  obtain ⟨v, hv, _, hr⟩ := h3 i _ h
  subst e
  exact ⟨v, hv, k v H (Same.refl H) (m.up (b := some b) E.old hr)⟩
end
end Gt
namespace Gt
open PySem PySem.Spec PyProof.Rows L2
section
variable {K : PySem.W.Frag} {α β γ ρ : Type} {H0 H1 H2 H H' : Hp} {σ : L2.St} {G G' : Cells K} {D : Ends} {u : TS} {te ta : TE} {t : TA} {r : Rp α}
/-- all fields are frozen -/
class FlF (F : RF K α) : Prop where
  fl : ∀ {H : Hp} {fs : List (Str × V)} {x : α} {as : List Addr}, F.rep H fs x as → as = []
instance : FlF (fN (K := K)) := ⟨fun ⟨_, e⟩ => e⟩
instance {F : RF K β} {f : Str} {r : Rp α} [L : FlF F] : FlF (fA F f (fz K r)) := ⟨fun ⟨gs, v, a1, a2, _, e, h1, h2⟩ => by rw [e, L.fl h1, h2.1]; rfl⟩
end
end Gt
namespace Gt
open PySem PySem.Spec PyProof.Rows L2
abbrev PKy := List (Option Key)
abbrev PEt := PKy × Addr × Value
def pkV : Option Key → V
  | none => .non
  | some k => kV k
def PDat (P : Program) (w : World) (a : Addr) (ep : Nat) (xs : List PEt) (h : Heap) : Prop :=
  ∃ o es, h.get? a = some o ∧ o.ExactDict ∧ o.data = .dict es ep ∧ es.toList = xs.map (entryOfKey (tupleKind (noneKind P w)))
def PDO (P : Program) (w : World) (a : Addr) (ep : Nat) (xs : List PEt) : HO := .ext (PDat P w a ep xs)
structure PdAt (P : Program) (w : World) (K : PySem.W.Frag) (H : Hp) (a : Addr) (ep : Nat) (xs : List PEt) : Prop where
  it : H a = some (PDO P w a ep xs)
  ks : ∀ x ∈ xs, SqT K H x.2.1 (x.1.map pkV)
  nd : (xs.map (·.1)).Nodup
  sz : xs.length ≤ sizeLine
  ne : (a == sysModules) = false
theorem itemsN {P : Program} {w : World} : ∀ {ks : PKy} {us : List Value}, Vals (ks.map pkV) us → ItemsAre (noneKind P w) ks us
  | [], _, r => by rw [List.map_nil] at r; cases r; exact .nil
  | k :: ks, _, r => by
    rw [List.map_cons] at r
    cases r with
    | @cons a b as bs h t =>
      refine .cons ?_ (itemsN t)
      cases k with
      | none =>
        obtain rfl : b = Value.none := h
        rfl
      | some k => exact kV_is (P := P) (w := w) h
section
variable {X : Cx} {pins : List (Addr × Obj)} {σ : L2.St} {H : Hp} {s : Shared} {a b : Addr} {ep : Nat} {xs : List PEt} {k : PKy} {A : Around} {E : Value → Shared → Prop}
theorem pkey_is (I : Inv X pins σ H s) (h : SqT X.K H b (k.map pkV)) : (tupleKind (noneKind X.prog X.w)).is s.heap k b := by
  obtain ⟨its, rv, ⟨o, h1, h2, n, h3⟩, hz⟩ := I.tuple h
  exact ⟨o, its.toArray, n, h1, h2, h3, by simpa using itemsN rv⟩
theorem pd_dict (I : Inv X pins σ H s) (D : PdAt X.prog X.w X.K H a ep xs) : s.heap.DictOfH (tupleKind (noneKind X.prog X.w)) a xs := by
  obtain ⟨⟨o, es, h1, h2, h3, h4⟩, _⟩ := I.hok a _ D.it
  exact ⟨o, es, ep, h1, h2, h3, h4, fun x hx => pkey_is I (D.ks x hx), D.nd⟩
theorem pd_notIn {Q : Value → Shared → Prop} (hu : A.units + 1 < cLine) (I : Inv X pins σ H s) (D : PdAt X.prog X.w X.K H a ep xs) (hk : SqT X.K H b (k.map pkV)) (h : ∀ s', Inv X pins σ H s' → Q (.bool (!(atKey xs k).isSome)) s') :
    wpAny (model X.prog X.w) A (compareOp .NotIn (.ref b) (.ref a)) Q E s :=
  wpAny_notIn_heap (tupleKind_room_in1 hu) (pkey_is I hk) D.ne (pd_dict I D) (h _ (I.tok _))
theorem pd_getItem {p : Addr × Value} {Q : Value → Shared → Prop} (hu : A.units + 1 < cLine) (I : Inv X pins σ H s) (D : PdAt X.prog X.w X.K H a ep xs) (hk : SqT X.K H b (k.map pkV)) (hp : atKey xs k = some p) (h : ∀ s', Inv X pins σ H s' → Q p.2 s') :
    wpAny (model X.prog X.w) A (getItem (.ref a) (.ref b)) Q E s :=
  wpAny_getItem_heap (tupleKind_room_in1 hu) (pkey_is I hk) (pd_dict I D) hp (h _ (I.tok _))
theorem pd_new {P : Program} {w : World} {H' : Hp} {h : Heap} (d : PDat P w a ep xs h) : ObjOk P w H' h a (PDO P w a ep xs) := by
  refine ⟨d, ?_, fun h1 h2 ⟨o, es, e1, e2, e3, e4⟩ k => ⟨o, es, k o e1, e2, e3, e4⟩⟩
  obtain ⟨o, _, e, _⟩ := d
  exact ⟨o, e⟩
theorem pd_setItem {v : Value} {Q : Unit → Shared → Prop} (hu : A.units + 1 < cLine) (I : Inv X pins σ H s) (D : PdAt X.prog X.w X.K H a ep xs) (hk : SqT X.K H b (k.map pkV))
    (h : ∀ ep' s', Inv X pins σ (upd H a (PDO X.prog X.w a ep' (storedH xs k b v))) s' → Q () s') :
    wpAny (model X.prog X.w) A (setItem (.ref a) (.ref b) v) Q E s := by
  refine wpAny_setItem_heap (hsz := D.sz) (tupleKind_room_in1 hu) (pkey_is I hk) (pd_dict I D) fun h' dd hs => ?_
  obtain ⟨q, es, ep', hq, h2, h3, h4, _, h5⟩ := dd
  refine h ep' _ (d_write I (by rw [D.it]; exact True.intro) hs ⟨q, hq⟩ (pd_new ⟨q, es, hq, h2, h3, h4⟩))
theorem pd_isD (I : Inv X pins σ H s) (D : PdAt X.prog X.w X.K H a ep xs) : s.TypeIs (.ref a) "dict" := (pd_dict I D).typeIs
end
/-- {} | d[y] | y in d | y not in d | d[y] = v -/
def tPNew (P : Program) (w : World) : TE := fun _ H Q => ∀ p ep, H p = none → (p == sysModules) = false → Q (.ref p) (upd H p (PDO P w p ep []))
def PLk (P : Program) (w : World) (K : PySem.W.Frag) (H : Hp) (x y : V) (R : Option (Addr × Value) → Prop) : Prop :=
  ∃ a ep xs b k, x = .ref a ∧ PdAt P w K H a ep xs ∧ y = .ref b ∧ SqT K H b (k.map pkV) ∧ R (atKey xs k)
def tPGet (P : Program) (w : World) (K : PySem.W.Frag) (td ty : TE) : TE := fun σ H Q => td σ H fun x H1 => ty σ H1 fun y H2 => PLk P w K H2 x y fun o => ∃ p v, o = some p ∧ RelV v p.2 ∧ Q v H2
def tPIn (P : Program) (w : World) (K : PySem.W.Frag) (ty td : TE) : TE := fun σ H Q => ty σ H fun y H1 => td σ H1 fun x H2 => PLk P w K H2 x y fun o => Q (.bl o.isSome) H2
def tPNotIn (P : Program) (w : World) (K : PySem.W.Frag) (ty td : TE) : TE := fun σ H Q => ty σ H fun y H1 => td σ H1 fun x H2 => PLk P w K H2 x y fun o => Q (.bl (!o.isSome)) H2
def sPPut (P : Program) (w : World) (K : PySem.W.Frag) (td ty tv : TE) : TS := fun D σ H => tv σ H fun v H1 => td σ H1 fun x H2 => ty σ H2 fun y H3 => ∃ a ep xs b k, x = .ref a ∧ PdAt P w K H3 a ep xs ∧ y = .ref b ∧ SqT K H3 b (k.map pkV) ∧
  ∀ ep' u, RelV v u → D.nx σ (upd H3 a (PDO P w a ep' (storedH xs k b u)))
section
variable {X : Cx} {o i e value : Expr} {pos pos' tpos : Pos} {td ty tv : TE}
theorem pe_pnew : PE X (.Dict [] [] pos) (tPNew X.prog X.w) := ⟨fun pins s σ H Q I h =>
  wpAny_Dict_empty ⟨.ref s.heap.objs.size, _, I.laid (a := s.heap.objs.size) (o := PDO X.prog X.w s.heap.objs.size 0 []) (t' := s.toks) (fun _ _ q => Heap.get?_push_of_some _ q) (Nat.le_refl _)
    (pd_new ⟨_, #[], Heap.get?_push_size _ rfl, ⟨rfl, rfl, rfl⟩, rfl, rfl⟩), rfl, h _ 0 (I.hok.fresh (Nat.le_refl _)) (beq_eq_false_iff_ne.mpr (Ne.symm (Nat.ne_of_lt I.big)))⟩⟩
theorem pe_pget (hu : X.A.units + 1 < cLine) (ho : PE X o td) (hi : PE X i ty) (hs : NoSl i) : PE X (.Subscript o i pos) (tPGet X.prog X.w X.K td ty) := by
  refine ⟨fun pins s σ H Q I h => ?_⟩
  refine subD_of PySem.F.slot_dict_getitem.lookup hs (thn (ho.run pins s σ H _ I h) fun u s1 ⟨x, H1, I1, rx, q1⟩ => thn (hi.run pins s1 σ H1 _ I1 q1) fun iv s2 ⟨y, H2, I2, ry, a, ep, xs, b, k, ex, D, ey, hk, p, v, hp, rv, q2⟩ => ?_)
  subst ex ey
  obtain rfl : u = Value.ref a := rx
  obtain rfl : iv = Value.ref b := ry
  exact ⟨pd_isD I2 D, pd_getItem hu I2 D hk hp fun s3 I3 => ⟨v, H2, I3, rv, q2⟩⟩
theorem pc_pnotin (hu : X.A.units + 1 < cLine) (hi : PE X i ty) (ho : PE X o td) : PC X .NotIn i o (tPNotIn X.prog X.w X.K ty td) := by
  refine ⟨fun pins s σ H Q I h => ?_⟩
  refine thn (hi.run pins s σ H _ I h) fun iv s1 ⟨y, H1, I1, ry, q1⟩ => thn (ho.run pins s1 σ H1 _ I1 q1) fun u s2 ⟨x, H2, I2, rx, a, ep, xs, b, k, ex, D, ey, hk, q2⟩ => ?_
  subst ex ey
  obtain rfl : u = Value.ref a := rx
  obtain rfl : iv = Value.ref b := ry
  exact pd_notIn hu I2 D hk fun s3 I3 => ⟨.bl _, H2, I3, rfl, q2⟩
theorem ps_pput (hu : X.A.units + 1 < cLine) (ho : PE X o td) (hi : PE X i ty) (hv : PE X value tv) (hs : swapsWith value (some (.Subscript o i pos')) pos.line X.env = pure false) :
    PS X (.Assign [.Subscript o i pos'] value pos) (sPPut X.prog X.w X.K td ty tv) := by
  refine ⟨fun pins s σ H D I h => ?_⟩
  refine wpAny_Assign_Subscript (thn (hv.run pins s σ H _ I h) fun r s1 ⟨v, H1, I1, rv, q1⟩ => thn (ho.run pins s1 σ H1 _ I1 q1) fun u s2 ⟨x, H2, I2, rx, q2⟩ => thn (hi.run pins s2 σ H2 _ I2 q2) fun iv s3 ⟨y, H3, I3, ry, a, ep, xs, b, k, ex, D, ey, hk, q3⟩ => ?_) hs
  subst ex ey
  obtain rfl : u = Value.ref a := rx
  obtain rfl : iv = Value.ref b := ry
  exact pd_setItem hu I3 D hk fun ep' s4 I4 => ⟨σ, _, I4, q3 ep' r rv⟩
end
def Itp (P : Program) (w : World) (K : PySem.W.Frag) (d : Addr) (ep : Nat) (xs : List PEt) : It :=
  ⟨fun i H => PdAt P w K H d ep xs ∧ i < xs.length, fun i H x H' => H' = H ∧ ∃ k q u, xs[i]? = some (k, q, u) ∧ x = .ref q, fun i H => PdAt P w K H d ep xs ∧ xs.length ≤ i⟩
def iPKeys (P : Program) (w : World) (K : PySem.W.Frag) (td : TE) : TI := fun σ H R => td σ H fun x H1 => ∃ d ep xs, x = .ref d ∧ PdAt P w K H1 d ep xs ∧ R (Itp P w K d ep xs) H1
theorem turn_pkeys {P : Program} {w : World} {K : PySem.W.Frag} {tg : Expr} {d : Addr} {ep : Nat} {xs : List PEt} (it : Addr) : Turn P w K tg (Itp P w K d ep xs) [it] it (fun i h => h.IsKeyIter it d i xs.length ep) where
  mem := by simp
  obj := fun i h st b hb => by
    have e : b = it := by simpa using hb
    subst e
    obtain ⟨oi, e, c, dd⟩ := st
    exact ⟨oi, e, fun v z => by rw [dd] at z; cases z⟩
  keep := fun i h h' st k => st.at fun oi e => k it (by simp) oi e
  item := by
    intro X hP hw hK hc i pins s σ H E I hf st hg
    subst hP hw hK
    obtain ⟨D, hi⟩ := hg
    obtain ⟨f0, f1, f2, f3, f4, f5⟩ := hf it (by simp)
    obtain ⟨⟨od, es, hgd, hx, hdt, hes⟩, _⟩ := I.hok d _ D.it
    have hsz : es.size = xs.length := size_of_entries hes
    obtain ⟨⟨k, q, u⟩, hkv⟩ : ∃ p, xs[i]? = some p := ⟨xs[i], List.getElem?_eq_getElem hi⟩
    have hen : es[i]? = some (entryOfKey (tupleKind (noneKind X.prog X.w)) (k, q, u)) := by rw [entry_at hes i, hkv]; rfl
    refine next_key_item st hgd hdt hsz hen fun h' st' sb => ?_
    have I1 : Inv X pins σ H { s with heap := h' } := I.turned (t' := s.toks) (fun b ob hb e => (sb.2 b hb).trans e) f0 f1 f3 f4 f5
    obtain ⟨oi, e, c, dd⟩ := id st'
    exact ⟨.ref q, rfl, go_of (s := { s with heap := h' }) e c dd (by decide) ⟨.ref q, H, I1, rfl, ⟨rfl, k, q, u, hkv, rfl⟩, st', fun b hb => (hf b hb).1⟩⟩
  done := by
    intro X hP hw hK hc i pins s σ H E I hf st hg
    subst hP hw hK
    obtain ⟨D, hi⟩ := hg
    obtain ⟨f0, f1, f2, f3, f4, f5⟩ := hf it (by simp)
    obtain ⟨⟨od, es, hgd, hx, hdt, hes⟩, _⟩ := I.hok d _ D.it
    have hsz : es.size = xs.length := size_of_entries hes
    exact next_key_end (I.ok.hd hc) st hgd hdt hsz hi fun h' eb => ⟨rfl, I.turned (t' := s.toks) (fun b ob hb e => eb b ob hb e) f0 f1 f3 f4 f5⟩
  self := fun A i s Q E st h => by
    refine wpAny_pyIter_slot st.typeIs F.slot_dict_keyiterator_iter (wpAny_call_entry F.slot_dict_keyiterator_iter st.typeIs F.entry_dict_keyiterator_iter ?_ (F.args_dict_keyiterator_iter_1 _))
    show wpAny _ _ (ret (.ref it)) _ _ s
    exact wpAny_pure ⟨_, rfl, "dict_keyiterator", _, st.typeIs, F.slot_dict_keyiterator_next.lookup, h⟩
theorem pi_pkeys {X : Cx} {tg e : Expr} {td : TE} (he : PE X e td) : PI X tg e (iPKeys X.prog X.w X.K td) := by
  refine ⟨fun pins s σ H R I h => ?_⟩
  refine thn (he.run pins s σ H _ I h) fun u s1 ⟨x, H1, I1, rx, d, ep, xs, ex, D, q⟩ => ?_
  subst ex
  obtain rfl : u = Value.ref d := rx
  obtain ⟨⟨od, es, hgd, hx, hdt, hes⟩, _⟩ := I1.hok d _ D.it
  have hsz : es.size = xs.length := size_of_entries hes
  refine iter_keys D.ne hgd hx hdt (pi_one (tk := s1.toks) I1 _ (turn_pkeys _) ⟨_, Heap.get?_push_size _ rfl, rfl, ?_⟩ q)
  rw [hsz] <;> rfl
end Gt
namespace Gt
open PySem PySem.Spec PyProof.Rows L2
open Builtin Builtin.Str Builtin.Int Builtin.Float
def spW : Str := "<17"
/-- {x:<17} -/
def tFmtW (te ts : TE) : TE := fun σ H Q => te σ H fun x H1 => ts σ H1 fun y H2 => ∃ a : Str, x = .str a ∧ y = .str spW ∧ a.length ≤ 100000 ∧ Q (.str (Txt.ljust a 17)) H2
section
variable {K : PySem.W.Frag} {G : Cells K} {te ts : TE} {a : Str}
theorem okS_ljust (h : okS a) (hz : a.length ≤ 99000) : okS (Txt.ljust a 17) := by
  unfold Txt.ljust
  split
  · exact h
  · refine ⟨?_, ?_⟩
    · show (padded a 0 _ 32).length ≤ 100000
      have : (padded a 0 ((17 : Int).toNat - a.length) 32).length = a.length + ((17 : Int).toNat - a.length) := by
        unfold padded Str.length
        simp
      rw [this]
      have : (17 : Int).toNat = 17 := rfl
      omega
    · have h2 := h.2
      simp only [Array.all_eq_true] at h2 ⊢
      unfold padded
      simp [Array.all_eq_true] at h2 ⊢
      intro i hi
      rw [Array.getElem_append]
      split
      · exact h2 i (by assumption)
      · simp
theorem ev_fmtW (h : Ev rS te G a) (h2 : Ev rS ts G spW) (hz : a.length ≤ 99000) : Ev rS (tFmtW te ts) G (Txt.ljust a 17) := fun H0 σ H E Q k =>
  h H0 σ H E _ fun v H1 e1 ⟨ev, ok⟩ => h2 H0 σ H1 (E.grow e1) _ fun v2 H2 e2 ⟨ev2, ok2⟩ => ⟨a, ev, ev2, ok.1, k _ H2 (e1.trans e2) ⟨rfl, okS_ljust ok hz⟩⟩
end
end Gt
namespace Gt
open PySem PySem.W PySem.Calls PyProof.Rows PyProof.V PySem.Spec L2
/-- a == b, two dicts with tuples as keys; VEq: the values as data -/
inductive PHit (P : Program) (w : World) (K : PySem.W.Frag) (H : Hp) (ys : List PEt) : List PEt → Bool → Prop
  | nil : PHit P w K H ys [] true
  | miss {k : PKy} {a : Addr} {v : Value} {r : List PEt} : atKey ys k = none → PHit P w K H ys ((k, a, v) :: r) false
  | hit {k : PKy} {a : Addr} {v : Value} {p : Addr × Value} {r : List PEt} {b : Bool} {x y : V} {d e : PyData} : atKey ys k = some p → RelV x v → RelV y p.2 → Dp K H x d → Dp K H y e → SeqAt.shaped d = true → SeqAt.shaped e = true →
      PHit P w K H ys r b → PHit P w K H ys ((k, a, v) :: r) (PyData.eqv d e && b)
def rPEq (P : Program) (w : World) (K : PySem.W.Frag) : R2 := fun x y H Q => ∃ a b ep ep' xs ys r, x = .ref a ∧ y = .ref b ∧ PdAt P w K H a ep xs ∧ PdAt P w K H b ep' ys ∧ (xs.length = ys.length → PHit P w K H ys xs r) ∧ Q (.bl (xs.length == ys.length && r)) H
end Gt
namespace Gt
open PySem PySem.Spec PyProof.Rows L2
abbrev KP := Str × Option Str
def kP (k : KP) : PKy := [some (.inr k.1), k.2.map .inr]
def okP (k : KP) : Prop := okS k.1 ∧ ∀ t, k.2 = some t → okS t
def pkey {α : Type} (xs : List (KP × α)) (k : KP) : Option α := (xs.find? fun kv => decide (kv.1 = k)).map (·.2)
def pput {α : Type} (xs : List (KP × α)) (k : KP) (v : α) : List (KP × α) := if (pkey xs k).isSome = true then xs.map (fun kv => if kv.1 = k then (kv.1, v) else kv) else xs ++ [(k, v)]
theorem kP_inj {a b : KP} (h : kP a = kP b) : a = b := by
  obtain ⟨a1, a2⟩ := a
  obtain ⟨b1, b2⟩ := b
  unfold kP at h
  injection h with h1 h2
  injection h2 with h2 _
  have e1 : a1 = b1 := by injection h1 with h1; injection h1
  have e2 : a2 = b2 := by
    cases a2 <;> cases b2
    · rfl
    · exact nomatch h2
    · exact nomatch h2
    · have : (some (Sum.inr _) : Option Key) = some (Sum.inr _) := h2
      injection this with q
      injection q with q
      rw [q]
  rw [e1, e2]
structure Pe (K : PySem.W.Frag) {α : Type} (R : V → α → Prop) (H : Hp) (x : PEt) (y : KP × α) : Prop where
  key : x.1 = kP y.1
  ok : okP y.1
  at_ : SqT K H x.2.1 (x.1.map pkV)
  val : ∃ v, R v y.2 ∧ RelV v x.2.2
section
variable {K : PySem.W.Frag} {α : Type} {R R' : V → α → Prop} {H H' : Hp} {es : List PEt} {xs : List (KP × α)}
theorem Pe.up {x : PEt} {y : KP × α} (h : Pe K R H x y) (f : ∀ v b, R v b → R' v b) (e : ExT K H H') : Pe K R' H' x y := ⟨h.key, h.ok, e _ _ h.at_, let ⟨v, q, z⟩ := h.val; ⟨v, f _ _ q, z⟩⟩
theorem pe_at (h : A2 (Pe K R H) es xs) (k : KP) : (∃ p b v, atKey es (kP k) = some p ∧ pkey xs k = some b ∧ R v b ∧ RelV v p.2) ∨ (atKey es (kP k) = none ∧ pkey xs k = none) := by
  induction h with
  | nil => exact .inr ⟨rfl, rfl⟩
  | @cons x y l m h1 h2 ih =>
    by_cases e : y.1 = k
    · obtain ⟨v, q, z⟩ := h1.val
      refine .inl ⟨x.2, y.2, v, ?_, ?_, q, z⟩
      · unfold atKey
        rw [List.find?_cons, decide_eq_true (by rw [h1.key, e])]
        rfl
      · unfold pkey
        rw [List.find?_cons, decide_eq_true e]
        rfl
    · have ea : atKey (x :: l) (kP k) = atKey l (kP k) := by
        unfold atKey
        rw [List.find?_cons, decide_eq_false fun z => e (kP_inj (h1.key.symm.trans z))]
      have eb : pkey (y :: m) k = pkey m k := by
        unfold pkey
        rw [List.find?_cons, decide_eq_false e]
      rw [ea, eb]
      exact ih
theorem pe_map (h : A2 (Pe K R H) es xs) {k : KP} {u : Value} {v : V} {b : α} (hv : R v b) (ru : RelV v u) : A2 (Pe K R H) (es.map (putAt (kP k) u)) (xs.map fun kv => if kv.1 = k then (kv.1, b) else kv) := by
  induction h with
  | nil => exact .nil
  | @cons x y l m h1 h2 ih =>
    rw [List.map_cons, List.map_cons]
    refine .cons ?_ ih
    unfold putAt
    by_cases e : y.1 = k
    · rw [if_pos (by rw [h1.key, e]), if_pos e]
      exact ⟨h1.key, h1.ok, h1.at_, v, hv, ru⟩
    · rw [if_neg fun z => e (kP_inj (h1.key.symm.trans z)), if_neg e]
      exact h1
theorem pe_put (h : A2 (Pe K R H) es xs) {k : KP} {a : Addr} {u : Value} {v : V} {b : α} (hk : okP k) (ha : SqT K H a ((kP k).map pkV)) (hv : R v b) (ru : RelV v u) : A2 (Pe K R H) (storedH es (kP k) a u) (pput xs k b) := by
  unfold storedH pput
  rcases pe_at h k with ⟨p, b', v', e1, e2, _, _⟩ | ⟨e1, e2⟩
  · rw [e1, e2, if_pos (show (some p).isSome = true from rfl), if_pos (show (some b').isSome = true from rfl)]
    exact pe_map h hv ru
  · rw [e1, e2, if_neg (show ¬ (none : Option (Addr × Value)).isSome = true from fun z => nomatch z), if_neg (show ¬ (none : Option α).isSome = true from fun z => nomatch z)]
    exact A2.app (.one ⟨rfl, hk, ha, v, hv, ru⟩) h
theorem putAt_key {k : PKy} {u : Value} {l : List PEt} : (l.map (putAt k u)).map (·.1) = l.map (·.1) := by
  rw [List.map_map]
  refine List.map_congr_left fun x _ => ?_
  show (putAt k u x).1 = x.1
  unfold putAt
  split <;> rfl
theorem nd_put {k : PKy} {a : Addr} {u : Value} (h : (es.map (·.1)).Nodup) : ((storedH es k a u).map (·.1)).Nodup := by
  unfold storedH
  split
  · rw [putAt_key]; exact h
  · rename_i hn
    rw [List.map_append, List.map_cons, List.map_nil]
    refine List.nodup_append.mpr ⟨h, by simp, fun x hx y hy => ?_⟩
    rw [List.mem_singleton] at hy
    subst hy
    intro e
    subst e
    obtain ⟨z, hz, e⟩ := List.mem_map.mp hx
    refine hn ?_
    unfold atKey
    rw [Option.isSome_map, List.find?_isSome]
    exact ⟨z, hz, by simpa using e⟩
end
/-- the keys' kind -/
abbrev rKP (K : PySem.W.Frag) : Rp KP := rP K rS (rO rS)
theorem key_to {K : PySem.W.Frag} {H : Hp} {v : V} {k : KP} (h : rKP K H v k) : ∃ b, v = .ref b ∧ SqT K H b ((kP k).map pkV) ∧ okP k := by
  obtain ⟨a, x, y, ev, hs, ⟨hx, ox⟩, hy⟩ := h
  obtain ⟨k1, k2⟩ := k
  cases k2 with
  | none =>
    have hy' : y = .non := hy
    subst hx hy'
    exact ⟨a, ev, hs, ox, fun t z => nomatch z⟩
  | some t =>
    obtain ⟨hy', oy⟩ := (show y = .str t ∧ okS t from hy)
    subst hx hy'
    exact ⟨a, ev, hs, ox, fun t' z => by cases z; exact oy⟩
def npd (P : Program) (w : World) (K : PySem.W.Frag) {β : Type} (r : Rp β) : Rs K (List (KP × β)) where
  rep := fun H v xs as => ∃ (p : Addr) (ep : Nat) (es : List PEt), as = [p] ∧ v = .ref p ∧ H p = some (PDO P w p ep es) ∧ (p == sysModules) = false ∧ (es.map fun (x : PEt) => x.1).Nodup ∧ A2 (Pe K (Stb K r H) H) es xs
  stay := fun ⟨p, ep, es, e, ev, h, hs, nd, q⟩ x k => ⟨p, ep, es, e, ev, k p (by rw [e]; exact List.mem_singleton.mpr rfl) _ h, hs, nd, q.imp fun _ _ z => z.up (fun _ _ y => y.up x) x⟩
  there := fun ⟨p, ep, es, e, _, h, _⟩ b hb => by
    rw [e] at hb
    cases List.mem_singleton.mp hb
    exact ⟨_, h, fun z => z⟩
/-- .. that is read -/
def rPD (P : Program) (w : World) (K : PySem.W.Frag) {β : Type} (r : Rp β) : Rp (List (KP × β)) := fun H v xs => ∃ (p : Addr) (ep : Nat) (es : List PEt), v = .ref p ∧ H p = some (PDO P w p ep es) ∧ (p == sysModules) = false ∧ (es.map fun (x : PEt) => x.1).Nodup ∧ A2 (Pe K (r H) H) es xs ∧ xs.length ≤ 100000
section
variable {P : Program} {w : World} {K : PySem.W.Frag} {H0 H1 H H' : Hp} {σ : L2.St} {G G' : Cells K} {α β : Type} {D : Ends}
variable {ta tb te td ty tx tv : TE} {r : Rp α} {x x' : α} {k : KP} {i : Nat} {xs ys : List (KP × α)}
instance [M : Mono r] : Mono (rPD P w K r) := ⟨fun {H H' v xs} e h => by
  obtain ⟨p, ep, es, ev, h, hs, nd, q, hz⟩ := h
  exact ⟨p, ep, es, ev, e _ _ h, hs, nd, q.imp fun _ _ z => z.up (fun _ _ y => M.up e y) (ext_same e), hz⟩⟩
theorem pd_at {R : V → α → Prop} {p : Addr} {ep : Nat} {es : List PEt} (h : H p = some (PDO P w p ep es)) (hs : (p == sysModules) = false) (nd : (es.map (·.1)).Nodup) (q : A2 (Pe K R H) es xs) (hz : xs.length ≤ 100000) : PdAt P w K H p ep es := by
  refine ⟨h, ?_, nd, by rw [q.len]; exact sz hz, hs⟩
  clear hz nd h
  induction q with
  | nil => exact fun x hx => nomatch hx
  | cons h1 _ ih =>
    intro x hx
    rcases List.mem_cons.mp hx with e | e
    · subst e; exact h1.at_
    · exact ih x e
theorem a_pdO (h : G[i]? = some (some (.ow (npd P w K r) xs))) (hz : xs.length ≤ 100000) : Ev (rPD P w K r) (tVar i) G xs := fun H0 σ H E Q k => by
  obtain ⟨own, _, _, h3⟩ := E.at_
  obtain ⟨v, hv, p, ep, es, _, ev, hp, hs, nd, q⟩ := h3 i _ h
  exact ⟨v, hv, k v H (Same.refl H) ⟨p, ep, es, ev, hp, hs, nd, q.imp fun _ _ z => z.up (fun _ _ y => y.now) (ExT.refl _), hz⟩⟩
theorem nw_pnew : Nw (npd P w K r) (tPNew P w) G [] := fun H0 σ H E Q k p ep hp hs => k _ _ [p] (same_new hp) (fun b hb => by rw [List.mem_singleton.mp hb]; exact hp) ⟨p, ep, [], rfl, rfl, upd_same, hs, List.nodup_nil, .nil⟩
theorem a_pget (h : Ev (rPD P w K r) td G xs) (h' : Ev (rKP K) ty G k) (M : Mono r) (hx : pkey xs k = some x) : Ev r (tPGet P w K td ty) G x := fun H0 σ H E Q c =>
  h H0 σ H E _ fun v H1 e1 hd => h' H0 σ H1 (E.grow e1) _ fun y H2 e2 hy => by
    obtain ⟨p, ep, es, ev, hp, hs, nd, q, hz⟩ := (inferInstance : Mono (rPD P w K r)).up e2 hd
    obtain ⟨b, ey, hb, ok⟩ := key_to hy
    refine ⟨p, ep, es, b, kP k, ev, pd_at hp hs nd q hz, ey, hb, ?_⟩
    rcases pe_at q k with ⟨p', b', v', e5, e6, hq, rv⟩ | ⟨e5, e6⟩
    · rw [hx] at e6
      cases e6
      exact ⟨p', v', e5, rv, c _ H2 (e1.trans e2) hq⟩
    · rw [hx] at e6
      cases e6
theorem a_pIn (h : Ev (rKP K) ty G k) (h' : Ev (rPD P w K r) td G xs) (M : Mono r) : Ev rB (tPIn P w K ty td) G (pkey xs k).isSome := fun H0 σ H E Q c =>
  h H0 σ H E _ fun y H1 e1 hy => h' H0 σ H1 (E.grow e1) _ fun v H2 e2 ⟨p, ep, es, ev, hp, hs, nd, q, hz⟩ => by
    obtain ⟨b, ey, hb, ok⟩ := key_to hy
    refine ⟨p, ep, es, b, kP k, ev, pd_at hp hs nd q hz, ey, ext_same e2 _ _ hb, ?_⟩
    rcases pe_at q k with ⟨p', b', v', e5, e6, _, _⟩ | ⟨e5, e6⟩
    · rw [e5]; exact c _ H2 (e1.trans e2) (by rw [e6]; rfl)
    · rw [e5]; exact c _ H2 (e1.trans e2) (by rw [e6]; rfl)
theorem a_pNin (h : Ev (rKP K) ty G k) (h' : Ev (rPD P w K r) td G xs) (M : Mono r) : Ev rB (tPNotIn P w K ty td) G (!(pkey xs k).isSome) := fun H0 σ H E Q c =>
  h H0 σ H E _ fun y H1 e1 hy => h' H0 σ H1 (E.grow e1) _ fun v H2 e2 ⟨p, ep, es, ev, hp, hs, nd, q, hz⟩ => by
    obtain ⟨b, ey, hb, ok⟩ := key_to hy
    refine ⟨p, ep, es, b, kP k, ev, pd_at hp hs nd q hz, ey, ext_same e2 _ _ hb, ?_⟩
    rcases pe_at q k with ⟨p', b', v', e5, e6, _, _⟩ | ⟨e5, e6⟩
    · rw [e5]; exact c _ H2 (e1.trans e2) (by rw [e6]; rfl)
    · rw [e5]; exact c _ H2 (e1.trans e2) (by rw [e6]; rfl)
/-- d[k] = v -/
theorem l_pput (hi : G[i]? = some (some (.ow (npd P w K r) xs))) (hk : Ev (rKP K) ty G k) (h : Ev r tv G x') (ex : x' = x) (hz : xs.length < 100000) (c : Nx H0 (G.set i (some (.ow (npd P w K r) (pput xs k x)))) D.nx) (F : Frz K r := by infer_instance) :
    Sv H0 G (sPPut P w K (tVar i) ty tv) D := fun σ H ⟨H1, e1, E⟩ => by
  subst ex
  refine h H1 σ H E _ fun u H2 e2 hu => ?_
  have E2 := E.grow e2
  obtain ⟨own, h1, h2, h3⟩ := id E2.at_
  obtain ⟨v, hv, p, ep, es, ea, ev, hp, hs, nd, z⟩ := h3 i _ hi
  subst ev
  refine ⟨_, hv, hk H1 σ H2 E2 _ fun y H3 e3 hy => ?_⟩
  have E3 := E2.grow e3
  have hp3 := e3 _ _ hp
  obtain ⟨b, ey, hb, ok⟩ := key_to hy
  have z3 : A2 (Pe K (Stb K r H3) H3) es xs := z.imp fun _ _ q => q.up (fun _ _ y => y.up (ext_same e3)) (ext_same e3)
  refine ⟨p, ep, es, b, kP k, rfl, pd_at hp3 hs nd z3 (by omega), ey, hb, fun ep' u' ru => c _ _ ⟨H1, e1, ?_⟩⟩
  have x0 : ExT K H3 (upd H3 p (PDO P w p ep' (storedH es (kP k) b u'))) := ext_upd hp3 fun z => z
  have z4 := z3.imp fun _ _ q => q.up (R' := Stb K r (upd H3 p (PDO P w p ep' (storedH es (kP k) b u')))) (fun _ _ y => y.up x0) x0
  refine E3.mut (as := [p]) (R := npd P w K r) (R' := npd P w K r) hi hv x0 (fun c o hc ho => ?_) (fun w' bs hw' ⟨p', _, _, e6, e7, _⟩ => ?_) ⟨p, _, _, rfl, rfl, upd_same, hs, nd_put nd, pe_put z4 ok (x0 _ _ hb) ((stb (F.up (ext_same e3) hu)).up x0) ru⟩
  · rw [upd_ne fun z => hc (by rw [z]; exact List.mem_singleton.mpr rfl)]
    exact ho
  · rw [hv] at hw'
    cases hw'
    cases e7
    exact e6
theorem q_pput {t : TS} (hi : G[i]? = some (some (.ow (npd P w K r) xs))) (hk : Ev (rKP K) ty G k) (h : Ev r tv G x') (ex : x' = x) (hz : xs.length < 100000) (c : Sv H0 (G.set i (some (.ow (npd P w K r) (pput xs k x)))) t D) (F : Frz K r := by infer_instance) :
    Sv H0 G (tSeq (sPPut P w K (tVar i) ty tv) t) D := l_pput (D := { D with nx := t D }) hi hk h ex hz c F
/-- a == b -/
noncomputable def pdSame (xs ys : List (KP × α)) : Bool := xs.length == ys.length && xs.all fun kv => match pkey ys kv.1 with
  | none => false
  | some y => eqB kv.2 y
theorem phit_of (DD : DatC K r) {es fs : List PEt} (h : A2 (Pe K (r H) H) es xs) (h' : A2 (Pe K (r H) H) fs ys) : PHit P w K H fs es (xs.all fun kv => match pkey ys kv.1 with
  | none => false
  | some y => eqB kv.2 y) := by
  obtain ⟨D, hd⟩ := DD
  induction h with
  | nil => exact .nil
  | @cons x y l m h1 h2 ih =>
    obtain ⟨k, a, u⟩ := x
    obtain ⟨v, hv, rv⟩ := h1.val
    rw [List.all_cons]
    have hk : k = kP y.1 := h1.key
    rcases pe_at h' y.1 with ⟨p, b, v', e1, e2, hv', rv'⟩ | ⟨e1, e2⟩
    · rw [e2]
      have e3 : eqB y.2 b = PyData.eqv (D.enc y.2) (D.enc b) := by rw [D.eqv]; unfold eqB; congr
      show PHit P w K H fs ((k, a, u) :: l) (eqB y.2 b && _)
      rw [e3]
      exact .hit (by rw [hk]; exact e1) rv rv' (D.dp hv) (D.dp hv') (dat_shaped D (Nat.le_of_lt hd) hv) (dat_shaped D (Nat.le_of_lt hd) hv') ih
    · rw [e2]
      exact .miss (by rw [hk]; exact e1)
theorem a_peq (h : Ev (rPD P w K r) ta G xs) (h' : Ev (rPD P w K r) tb G ys) (M : Mono r) (DD : DatC K r) : Ev rB (tOp (rPEq P w K) ta tb) G (pdSame xs ys) := ev_op h h' fun H u v ⟨p, ep, es, eu, hp, hs, nd, q, hz⟩ ⟨p', ep', es', ev, hp', hs', nd', q', hz'⟩ Q k =>
  ⟨p, p', ep, ep', es, es', _, eu, ev, pd_at hp hs nd q hz, pd_at hp' hs' nd' q' hz', fun _ => phit_of DD q q', k _ H (Same.refl H) (by show V.bl _ = V.bl _; rw [q.len, q'.len]; rfl)⟩
end
end Gt
namespace Gt
open PySem PySem.Spec PyProof.Rows L2
section
variable {X : Cx} (P : Program) (w : World) (K : PySem.W.Frag) {o i e value : Expr} {pos pos' tpos : Pos} {td ty tv to te : TE} {tg : Expr}
theorem pe_pnewK (hP : X.prog = P := by rfl) (hw : X.w = w := by rfl) : PE X (.Dict [] [] pos) (tPNew P w) := by subst hP hw; exact pe_pnew
theorem pe_pgetK (hu : X.A.units + 1 < cLine) (ho : PE X o td) (hi : PE X i ty) (hs : NoSl i) (hP : X.prog = P := by rfl) (hw : X.w = w := by rfl) (hK : X.K = K := by rfl) : PE X (.Subscript o i pos) (tPGet P w K td ty) := by subst hP hw hK; exact pe_pget hu ho hi hs
theorem pc_pnotinK (hu : X.A.units + 1 < cLine) (hi : PE X i ty) (ho : PE X o td) (hP : X.prog = P := by rfl) (hw : X.w = w := by rfl) (hK : X.K = K := by rfl) : PC X .NotIn i o (tPNotIn P w K ty td) := by subst hP hw hK; exact pc_pnotin hu hi ho
theorem ps_pputK (hu : X.A.units + 1 < cLine) (ho : PE X o td) (hi : PE X i ty) (hv : PE X value tv) (hs : swapsWith value (some (.Subscript o i pos')) pos.line X.env = pure false) (hP : X.prog = P := by rfl) (hw : X.w = w := by rfl) (hK : X.K = K := by rfl) :
    PS X (.Assign [.Subscript o i pos'] value pos) (sPPut P w K td ty tv) := by subst hP hw hK; exact ps_pput hu ho hi hv hs
theorem pi_pkeysK (he : PE X e td) (hP : X.prog = P := by rfl) (hw : X.w = w := by rfl) (hK : X.K = K := by rfl) : PI X tg e (iPKeys P w K td) := by subst hP hw hK; exact pi_pkeys he
end
def LeS (a b : Str) : Prop := ¬ LtS b a
theorem leS_tr {a b c : Str} (h : LeS a b) (h' : LeS b c) : LeS a c := fun z => by
  by_cases e : b = c
  · subst e; exact h z
  · exact h (ltS_tr (ltS_tot h' (Ne.symm e)) z)
theorem leS_as {a b : Str} (h : LeS a b) (h' : LeS b a) : a = b := by
  by_cases e : a = b
  · exact e
  · exact absurd (ltS_tot h' e) h
theorem leS_of {x p : Str} (h : (!ltCps x.cps.toList p.cps.toList) = true) : LeS p x := fun c => by
  rw [ltCps_eq] at h
  have c' : decide (x.cps.toList < p.cps.toList) = true := decide_eq_true c
  rw [c'] at h
  cases h
theorem rising_leS : ∀ (p : Str) (l : List Str), risingS p l = true → (p :: l).Pairwise LeS
  | p, [], _ => by simp
  | p, x :: r, h => by
    have h0 : (!ltCps x.cps.toList p.cps.toList && risingS x r) = true := h
    rw [Bool.and_eq_true] at h0
    have ih := rising_leS x r h0.2
    have hx := leS_of h0.1
    refine List.pairwise_cons.mpr ⟨fun y hy => ?_, ih⟩
    rcases List.mem_cons.mp hy with e | e
    · exact e ▸ hx
    · exact leS_tr hx ((List.pairwise_cons.mp ih).1 y e)
theorem sorted_leS {l : List Str} (h : sortedS l = true) : l.Pairwise LeS := by
  cases l with
  | nil => exact .nil
  | cons p r => exact rising_leS p r h
noncomputable def insL (x : Str) : List Str → List Str
  | [] => [x]
  | y :: r => @ite _ (LtS y x) (Classical.propDecidable _) (y :: insL x r) (x :: y :: r)
noncomputable def srtL : List Str → List Str
  | [] => []
  | x :: r => insL x (srtL r)
theorem insL_perm (x : Str) : ∀ l : List Str, (insL x l).Perm (x :: l)
  | [] => .refl _
  | y :: r => by
    unfold insL
    split
    · exact ((insL_perm x r).cons y).trans (.swap x y r)
    · exact .refl _
theorem srtL_perm : ∀ l : List Str, (srtL l).Perm l
  | [] => .refl _
  | x :: r => (insL_perm x _).trans ((srtL_perm r).cons x)
theorem insL_srt (x : Str) : ∀ l : List Str, l.Pairwise LeS → (insL x l).Pairwise LeS
  | [], _ => by unfold insL; simp
  | y :: r, h => by
    obtain ⟨h1, h2⟩ := List.pairwise_cons.mp h
    unfold insL
    split
    · rename_i c
      refine List.pairwise_cons.mpr ⟨fun z hz => ?_, insL_srt x r h2⟩
      rcases List.mem_cons.mp ((insL_perm x r).mem_iff.mp hz) with e | e
      · subst e
        exact fun d => ltS_irr _ (ltS_tr c d)
      · exact h1 z e
    · rename_i c
      refine List.pairwise_cons.mpr ⟨fun z hz => ?_, h⟩
      rcases List.mem_cons.mp hz with e | e
      · subst e; exact c
      · exact leS_tr c (h1 z e)
theorem srtL_srt : ∀ l : List Str, (srtL l).Pairwise LeS
  | [] => .nil
  | x :: r => insL_srt x _ (srtL_srt r)
theorem srtL_of {xs ys : List Str} (hp : ys.Perm xs) (hs : sortedS ys = true) : ys = srtL xs :=
  (hp.trans (srtL_perm xs).symm).eq_of_pairwise (fun a b _ _ h h' => leS_as h h') (sorted_leS hs) (srtL_srt xs)
section
variable {K : PySem.W.Frag} {G : Cells K} {ta tb te ts : TE} {a b s : Str} {i : Int}
theorem a_srtL {xs : List Str} (h : Ev (rL rS) ta G xs) (hb : xs.length < 64) : Nw (nl K rS) (tCB (rSortedS K) (tCons ta tNil)) G (srtL xs) := fun H0 σ H E Q k =>
  h H0 σ H E _ fun v H1 e1 ⟨p, us, ev, hp, z⟩ => by
    have eu : us = xs.map V.str := strs_A2 z
    have ok : ∀ x ∈ xs, okS x := A2_mem (H := H1) (z.imp fun _ _ q => q.2)
    refine ⟨p, xs, by rw [ev], by rw [← eu]; exact SqL.of hp, hb, fun ys q hpm hs hq => ?_⟩
    have en := srtL_of hpm hs
    subst en
    refine k _ _ [q] (e1.trans (same_new hq)) (fun b hb => by rw [List.mem_singleton.mp hb]; exact e1.free hq) ⟨q, _, rfl, rfl, upd_same, stbs (A2_strs (srtL xs) fun x hx => ⟨rfl, ok x (hpm.mem_iff.mp hx)⟩)⟩
theorem ev_ljust (h : Ev rS ta G a) (h' : Ev rI tb G i) (hp : PadOk i = true) (hk : okS (Txt.ljust a i)) :
    Ev rS (tM1 (fun x xs H Q => ∃ (a : Str) (i : Int), x = .str a ∧ xs = [.int i] ∧ PadOk i = true ∧ Q (.str (Txt.ljust a i)) H) ta tb) G (Txt.ljust a i) := fun H0 σ H E Q k =>
  h H0 σ H E _ fun v H1 e1 z1 => ⟨⟨a, z1.1⟩, h' H0 σ H1 (E.grow e1) _ fun w H2 e2 z2 => ⟨a, i, z1.1, by rw [show w = .int i from z2], hp, k _ H2 (e1.trans e2) ⟨rfl, hk⟩⟩⟩
theorem ev_joinT {xs : List Str} (h : Ev rS ta G s) (h' : Ev (rT K rS) tb G xs) (hz : (xs.map (·.length)).sum + xs.length * s.length ≤ 16777216) (hk : okS (Txt.join s xs)) :
    Ev rS (tM1 (fun x xs H Q => ∃ a p, ∃ ys : List Str, x = .str a ∧ xs = [.ref p] ∧ (SqL K H p (ys.map V.str) ∨ SqT K H p (ys.map V.str)) ∧ (ys.map (·.length)).sum + ys.length * a.length ≤ 16777216 ∧ Q (.str (Txt.join a ys)) H) ta tb) G (Txt.join s xs) := fun H0 σ H E Q k =>
  h H0 σ H E _ fun v H1 e1 z1 => ⟨⟨s, z1.1⟩, h' H0 σ H1 (E.grow e1) _ fun w H2 e2 ⟨p, vs, ev, hp, z2⟩ => ⟨s, p, xs, z1.1, by rw [ev], .inr (by rw [← strs_A2 z2]; exact hp.t), hz, k _ H2 (e1.trans e2) ⟨rfl, hk⟩⟩⟩
theorem ev_fmt (h : Ev rS te G a) : Ev rS (tFmt te) G a := fun H0 σ H E Q k => h H0 σ H E _ fun v H1 e1 z => .inl ⟨a, z.1, sz z.2.1, k _ H1 e1 ⟨rfl, z.2⟩⟩
inductive EJ (G : Cells K) : List TE → List Str → Prop
  | nil : EJ G [] []
  | cons {t : TE} {ts : List TE} {a : Str} {as : List Str} (h : Ev rS t G a) (r : EJ G ts as) : EJ G (t :: ts) (a :: as)
def catS (acc : Str) : List Str → Str
  | [] => acc
  | a :: as => catS (acc ++ a) as
theorem strApp_len (a b : Str) : (a ++ b).length = a.length + b.length := by
  show (a.cps ++ b.cps).size = a.cps.size + b.cps.size
  exact Array.size_append
theorem catS_len : ∀ (as : List Str) (acc : Str), acc.length ≤ (catS acc as).length
  | [], acc => Nat.le_refl _
  | a :: as, acc => by
    have := catS_len as (acc ++ a)
    rw [strApp_len] at this
    show acc.length ≤ (catS (acc ++ a) as).length
    omega
theorem ej_run {tl : List TE} {as : List Str} (h : EJ G tl as) : ∀ (acc : Str) (H0 : Hp) (σ : L2.St) (H : Hp) (Q : Str → Hp → Prop), Env H0 σ H G → (catS acc as).length ≤ 100000 → (∀ H', Same H H' → Q (catS acc as) H') → tJs tl acc σ H Q := by
  induction h with
  | nil => exact fun acc H0 σ H Q E hz k => k H (Same.refl H)
  | @cons t ts a as h r ih =>
    intro acc H0 σ H Q E hz k
    refine h H0 σ H E _ fun v H1 e1 z => ⟨a, z.1, sz ?_, ih (acc ++ a) H0 σ H1 Q (E.grow e1) hz fun H' e => k H' (e1.trans e)⟩
    exact Nat.le_trans (catS_len as (acc ++ a)) hz
theorem ev_js {tl : List TE} {as : List Str} (h : EJ G tl as) (hk : okS (catS Str.empty as)) : Ev rS (fun σ H Q => tJs tl Str.empty σ H fun out H1 => Q (.str out) H1) G (catS Str.empty as) := fun H0 σ H E Q k =>
  ej_run h Str.empty H0 σ H _ E hk.1 fun H' e => k _ H' e ⟨rfl, hk⟩
theorem ev_spW : Ev rS (tC (.str "<17")) G spW := ev_c fun _ => ⟨rfl, by decide +kernel⟩
end
end Gt
namespace Gt
open PySem PySem.Spec PyProof.Rows L2
class FrzA (K : PySem.W.Frag) {α : Type} (A : Ra α) : Prop where
  up {H H' : Hp} {vs : List V} {a : α} (x : ExT K H H') (h : A H vs a) : A H' vs a
instance {K : PySem.W.Frag} : FrzA K aN := ⟨fun _ h => h⟩
instance {K : PySem.W.Frag} {α β : Type} {r : Rp α} {A : Ra β} [F : Frz K r] [G : FrzA K A] : FrzA K (aC r A) := ⟨fun x ⟨v, ws, e, h, t⟩ => ⟨v, ws, e, F.up x h, G.up x t⟩⟩
def rW (K : PySem.W.Frag) {α : Type} (A : Ra α) : Rp α := fun H v a => ∃ p vs, v = .ref p ∧ SqT K H p vs ∧ A H vs a
instance {K : PySem.W.Frag} {α : Type} {A : Ra α} [M : MonoA A] : Mono (rW K A) := ⟨fun e ⟨p, vs, ev, h, z⟩ => ⟨p, vs, ev, ext_same e _ _ h, M.up e z⟩⟩
instance {K : PySem.W.Frag} {α : Type} {A : Ra α} [F : FrzA K A] : Frz K (rW K A) := ⟨fun x ⟨p, vs, ev, h, z⟩ => ⟨p, vs, ev, x _ _ h, F.up x z⟩⟩
/-- the j-th of the things -/
def WIx {α β : Type} (A : Ra α) (j : Nat) (r : Rp β) (a : α) (b : β) : Prop := ∀ H vs, A H vs a → ∃ v, vs[j]? = some v ∧ r H v b
theorem wix_hd {α β : Type} {r : Rp α} {A : Ra β} {p : α × β} : WIx (aC r A) 0 r p p.1 := fun H vs ⟨v, ws, e, h, _⟩ => ⟨v, by rw [e]; rfl, h⟩
theorem wix_tl {α β γ : Type} {r : Rp α} {q : Rp γ} {A : Ra β} {p : α × β} {j : Nat} {b : γ} (h : WIx A j q p.2 b) : WIx (aC r A) (j + 1) q p b := fun H vs ⟨v, ws, e, _, t⟩ => by
  obtain ⟨u, hu, z⟩ := h H ws t
  exact ⟨u, by rw [e]; exact hu, z⟩
section
variable {K : PySem.W.Frag} {H0 H1 H H' : Hp} {σ : L2.St} {G G1 G' : Cells K} {α β γ : Type} {D : Ends} {u : TS}
variable {ta te : TE} {tl : TA} {r : Rp α} {q : Rp β} {A : Ra α} {B : Ra β} {a x : α} {b : β} {n j : Nat} {g : TG} {gs : TGs}
theorem a_tupW (h : EvA A tl G a) (M : MonoA A) (L : LenA A n) (hn : n ≤ 1000) : Ev (rW K A) (tTupD tl) G a := fun H0 σ H E Q k =>
  h H0 σ H E _ fun vs H1 e1 z => ⟨by rw [L.len z]; exact sz (by omega), fun p o hp hd => k _ _ (e1.trans (same_new hp)) ⟨p, vs, rfl, (SqD.of upd_same hd).t, M.up (same_new hp) z⟩⟩
instance : TyN K (rW K A) "tuple" := ⟨fun ⟨p, vs, ev, hp, _⟩ => by rw [ev]; exact ty_tup hp⟩
instance {z : α} [L : LenA A n] : Lnd K (rW K A) z n True := ⟨fun {H u} ⟨p, vs, ev, hp, h⟩ _ => by rw [ev, ← L.len h]; exact .inr ⟨vs, hp, rfl⟩⟩
theorem lnc_W [M : MonoA A] [L : LenA A n] : LnC K (rW K A) a n := fun G te h => ev_len h trivial
theorem at_nat {vs : List V} {v : V} (h : vs[j]? = some v) : atI vs ((j : Nat) : Int) = some v := atI_pos (by omega) (by simpa using h)
theorem ixc_W {i : Int} (h : WIx A j q a b) (ei : i = ((j : Nat) : Int)) : IxC K (rW K A) a (tC (.int i)) G q b := fun ta hh => fun H0 σ H E Q k => by
  subst ei
  refine hh H0 σ H E _ fun v H1 e1 ⟨p, vs, ev, hp, z⟩ => ?_
  obtain ⟨w, hw, hz⟩ := h H1 vs z
  exact .inr (.inl ⟨p, vs, ((j : Nat) : Int), w, ev, rfl, hp, at_nat hw, k w H1 e1 hz⟩)
def TgA (gs : TGs) (A : Ra α) (a : α) (G G' : Cells K) : Prop := ∀ H1 σ H vs, Env H1 σ H G → A H vs a → ∀ P : L2.St → Hp → Prop, (∀ σ', Env H1 σ' H G' → P σ' H) → gs vs σ H P
theorem tga_nil {y : Unit} : TgA gNil aN y G G := fun H1 σ H vs E e P k => ⟨e, k σ E⟩
theorem tga_cons {p : α × β} (h : Tg g r p.1 G G1) (h2 : TgA gs B p.2 G1 G') : TgA (gCons g gs) (aC r B) p G G' := fun H1 σ H vs E ⟨v, ws, e, z, t⟩ P k =>
  ⟨v, ws, e, h H1 σ H v E z _ fun σ' E' => h2 H1 σ' H ws E' t P k⟩
end
end Gt
namespace RT
open PySem PySem.Calls PySem.Spec PyProof.Rows L2
/-- list(reversed(x)), x a list: a new list -/
def tListRev (K : PySem.W.Frag) (te : TE) : TE := fun σ H Q => te σ H fun v H1 => ∃ (a : Addr) (xs : List V), v = .ref a ∧ SqL K H1 a xs ∧ ∀ q, H1 q = none → Q (.ref q) (upd H1 q (.lst xs.reverse))
end RT
namespace Gt
open PySem PySem.Spec PyProof.Rows L2
section
variable {K : PySem.W.Frag} {G : Cells K} {α : Type} {te : TE} {r : Rp α}
theorem nw_listRev {xs : List α} [M : Mono r] [F : Frz K r] (h : Ev (rL r) te G xs) : Nw (nl K r) (RT.tListRev K te) G xs.reverse := fun H0 σ H E Q k =>
  h H0 σ H E _ fun v H1 e1 ⟨p, us, ev, hp, z⟩ => ⟨p, us, ev, SqL.of hp, fun q hq => k _ _ [q] (e1.trans (same_new hq)) (fun b hb => by rw [List.mem_singleton.mp hb]; exact e1.free hq) ⟨q, _, rfl, rfl, upd_same, stbs (A2.imp (fun _ _ y => M.up (same_new hq) y) z.rev)⟩⟩
end
end Gt
namespace Gt
open PySem PySem.Spec PyProof.Rows L2
section
variable {K : PySem.W.Frag} {H0 : Hp} {G : Cells K} {α : Type} {D : Ends} {u : TS} {r : Rp α} {i j : Nat} {xs : List α} {x : α}
theorem l_popV (hi : G[i]? = some (some (.ow (nl K r) xs))) (hx : xs[xs.length - 1]? = some x) (F : Frz K r) (k : Nx H0 ((G.set i (some (.ow (nl K r) xs.dropLast))).set j (fc r x)) D.nx) : Sv H0 G (tAsg (tBM0 K "list" rPop (tVar i)) (gName j)) D := fun σ H ⟨H1, e1, E⟩ => by
  obtain ⟨own, h1, h2, h3⟩ := id E.at_
  obtain ⟨v, hv, p, vs, ea, ev, hp, z⟩ := h3 i _ hi
  subst ev
  have hl := z.len
  have hz : 0 < xs.length := by
    cases xs with
    | nil => cases hx
    | cons a b => exact Nat.succ_pos _
  obtain ⟨y, hy⟩ : ∃ y, vs[vs.length - 1]? = some y := ⟨_, List.getElem?_eq_getElem (by omega)⟩
  have x0 : ExT K H (upd H p (.lst vs.dropLast)) := ext_upd hp fun z => z
  have z2 : A2 (Stb K r (upd H p (.lst vs.dropLast))) vs xs := z.imp fun _ _ q => q.up x0
  obtain ⟨b, hb, sb⟩ := z2.get hy
  rw [hl, hx] at hb
  cases hb
  have E2 : Env H1 σ (upd H p (.lst vs.dropLast)) (G.set i (some (.ow (nl K r) xs.dropLast))) := by
    refine E.mut (as := [p]) (R := nl K r) (R' := nl K r) hi hv x0 (fun c o hc ho => ?_) (fun w bs hw ⟨p', vs', e1, e2, _, _⟩ => ?_) ⟨p, _, rfl, rfl, upd_same, ?_⟩
    · rw [upd_ne fun z => hc (by rw [z]; exact List.mem_singleton.mpr rfl)]
      exact ho
    · rw [hv] at hw
      cases hw
      cases e2
      exact e1
    · exact a2_dropLast z2
  refine ⟨_, hv, .inl ⟨rfl, vs, SqL.of hp⟩, p, vs, y, rfl, rfl, hp, hy, ?_⟩
  exact k _ _ ⟨H1, e1, E2.put (R := fz K r) (as := []) (Same.refl _) (fun _ z => nomatch z) ⟨rfl, sb⟩⟩
theorem q_popV (hi : G[i]? = some (some (.ow (nl K r) xs))) (hx : xs[xs.length - 1]? = some x) (F : Frz K r) (k : Sv H0 ((G.set i (some (.ow (nl K r) xs.dropLast))).set j (fc r x)) u D) : Sv H0 G (tSeq (tAsg (tBM0 K "list" rPop (tVar i)) (gName j)) u) D := l_popV (D := { D with nx := u D }) hi hx F k
end
end Gt
namespace Gt
open PySem PySem.Spec PyProof.Rows L2
abbrev PIn := PKy × Addr × V
def putsH (es : List PEt) : List PIn → List Value → List PEt
  | x :: ks, u :: us => putsH (storedH es x.1 x.2.1 u) ks us
  | _, _ => es
def tPDisp (P : Program) (w : World) (K : PySem.W.Frag) (trs : List (TE × TE)) : TE := fun σ H Q => ∀ p ep, H p = none → (p == sysModules) = false → tPairs trs σ (upd H p (PDO P w p ep [])) fun ps H2 => H2 p = some (PDO P w p ep []) ∧
  ∃ ks : List PIn, ps = ks.map (fun x => (V.ref x.2.1, x.2.2)) ∧ ks.length ≤ 15 ∧ (∀ x ∈ ks, SqT K H2 x.2.1 (x.1.map pkV)) ∧ ∀ us ep', A2 (fun (x : PIn) u => RelV x.2.2 u) ks us → Q (.ref p) (upd H2 p (PDO P w p ep' (putsH [] ks us)))
end Gt
namespace Gt
open PySem PySem.Spec PyProof.Rows L2
section
variable {P : Program} {w : World} {K : PySem.W.Frag} {H : Hp} {G : Cells K} {α : Type} {r : Rp α}
def EvD (r : Rp α) (trs : List (TE × TE)) (G : Cells K) (kvs : List (KP × α)) : Prop := ∀ H0 σ H, Env H0 σ H G → ∀ Q : List (V × V) → Hp → Prop, (∀ ps H', Same H H' → A2 (fun (p : V × V) (kv : KP × α) => rKP K H' p.1 kv.1 ∧ r H' p.2 kv.2) ps kvs → Q ps H') → tPairs trs σ H Q
theorem evd_nil : EvD r [] G [] := fun H0 σ H E Q k => k [] H (Same.refl H) .nil
theorem evd_cons {tk tv : TE} {trs : List (TE × TE)} {k : KP} {v : α} {kvs : List (KP × α)} (hk : Ev (rKP K) tk G k) (hv : Ev r tv G v) (M : Mono r) (h : EvD r trs G kvs) : EvD r ((tk, tv) :: trs) G ((k, v) :: kvs) := fun H0 σ H E Q q =>
  hk H0 σ H E _ fun x H1 e1 z1 => hv H0 σ H1 (E.grow e1) _ fun y H2 e2 z2 => h H0 σ H2 (E.grow (e1.trans e2)) _ fun ps H3 e3 z3 =>
    q _ H3 ((e1.trans e2).trans e3) (.cons ⟨(inferInstance : Mono (rKP K)).up (e2.trans e3) z1, M.up e3 z2⟩ z3)
abbrev KIn (K : PySem.W.Frag) (R : V → α → Prop) (H : Hp) (x : PIn) (kv : KP × α) : Prop := x.1 = kP kv.1 ∧ okP kv.1 ∧ SqT K H x.2.1 (x.1.map pkV) ∧ R x.2.2 kv.2
theorem kin_of {R : V → α → Prop} : ∀ {ps : List (V × V)} {kvs : List (KP × α)}, A2 (fun (p : V × V) (kv : KP × α) => rKP K H p.1 kv.1 ∧ R p.2 kv.2) ps kvs → ∃ ks : List PIn, ps = ks.map (fun x => (V.ref x.2.1, x.2.2)) ∧ A2 (KIn K R H) ks kvs
  | _, _, .nil => ⟨[], rfl, .nil⟩
  | _, _, @A2.cons _ _ _ p kv ps kvs h t => by
    obtain ⟨ks, e, z⟩ := kin_of t
    obtain ⟨b, eb, hb, ok⟩ := key_to h.1
    refine ⟨(kP kv.1, b, p.2) :: ks, ?_, .cons ⟨rfl, ok, hb, h.2⟩ z⟩
    rw [List.map_cons, ← e, ← eb]
theorem kin_sq {R : V → α → Prop} {ks : List PIn} {kvs : List (KP × α)} (h : A2 (KIn K R H) ks kvs) : ∀ x ∈ ks, SqT K H x.2.1 (x.1.map pkV) := by
  induction h with
  | nil => exact fun x hx => nomatch hx
  | cons h1 _ ih =>
    intro x hx
    rcases List.mem_cons.mp hx with e | e
    · subst e; exact h1.2.2.1
    · exact ih x e
def puts (xs : List (KP × α)) (kvs : List (KP × α)) : List (KP × α) := kvs.foldl (fun acc kv => pput acc kv.1 kv.2) xs
theorem puts_rel {R : V → α → Prop} : ∀ {ks : List PIn} {us : List Value} {kvs xs : List (KP × α)} {es : List PEt}, A2 (fun (x : PIn) u => RelV x.2.2 u) ks us → A2 (KIn K R H) ks kvs → A2 (Pe K R H) es xs → (es.map (·.1)).Nodup →
    A2 (Pe K R H) (putsH es ks us) (puts xs kvs) ∧ ((putsH es ks us).map (·.1)).Nodup
  | _, _, _, _, _, .nil, .nil, z, n => ⟨z, n⟩
  | _, _, _, xs, es, @A2.cons _ _ _ x u ks us hu tu, @A2.cons _ _ _ _ kv _ kvs hk tk, z, n => by
    obtain ⟨e, ok, sq, hr⟩ := hk
    have z2 : A2 (Pe K R H) (storedH es x.1 x.2.1 u) (pput xs kv.1 kv.2) := by
      rw [e] at sq ⊢
      exact pe_put z ok sq hr hu
    have z3 := puts_rel tu tk z2 (nd_put n)
    exact z3
theorem nw_pdisp {trs : List (TE × TE)} {kvs : List (KP × α)} (h : EvD r trs G kvs) (F : Frz K r) (hz : kvs.length ≤ 15) : Nw (npd P w K r) (tPDisp P w K trs) G (puts [] kvs) := fun H0 σ H E Q k p ep hp hs =>
  h H0 σ _ (E.grow (same_new hp)) _ fun ps H2 e2 z => by
    obtain ⟨ks, eps, zk⟩ := kin_of (R := r H2) z
    have hp2 := e2 _ _ upd_same
    refine ⟨hp2, ks, eps, by rw [zk.len]; exact hz, kin_sq zk, fun us ep' hus => ?_⟩
    have x0 : ExT K H2 (upd H2 p (PDO P w p ep' (putsH [] ks us))) := ext_upd hp2 fun z => z
    have zk2 : A2 (KIn K (Stb K r (upd H2 p (PDO P w p ep' (putsH [] ks us)))) (upd H2 p (PDO P w p ep' (putsH [] ks us)))) ks kvs := zk.imp fun _ _ q => ⟨q.1, q.2.1, x0 _ _ q.2.2.1, (stb q.2.2.2).up x0⟩
    obtain ⟨z3, n3⟩ := puts_rel (es := []) (xs := []) hus zk2 .nil List.nodup_nil
    refine k _ _ [p] (fun b o hb => ?_) (fun b hb => by rw [List.mem_singleton.mp hb]; exact hp) ⟨p, ep', _, rfl, rfl, upd_same, hs, n3, z3⟩
    have hb1 : b ≠ p := fun e => by rw [e, hp] at hb; cases hb
    rw [upd_ne hb1]
    exact e2 _ _ (same_new hp _ _ hb)
end
end Gt
namespace Gt
open PySem PySem.Spec PyProof.Rows L2
section
variable {K : PySem.W.Frag} {G : Cells K} {α : Type} {te : TE} {r : Rp α}
theorem nw_revL {xs : List α} [M : Mono r] [F : Frz K r] (h : Ev (rL r) te G xs) : Nw (nl K r) (tRevL K te) G xs.reverse := fun H0 σ H E Q k =>
  h H0 σ H E _ fun v H1 e1 ⟨p, us, ev, hp, z⟩ => ⟨p, us, ev, SqL.of hp, fun q hq => k _ _ [q] (e1.trans (same_new hq)) (fun b hb => by rw [List.mem_singleton.mp hb]; exact e1.free hq) ⟨q, _, rfl, rfl, upd_same, stbs (A2.imp (fun _ _ y => M.up (same_new hq) y) z.rev)⟩⟩
end
end Gt
namespace Gt
open PySem PySem.Spec PyProof.Rows L2
def nTL (K : PySem.W.Frag) {α β : Type} (R : Rs K α) (A : Ra β) : Rs K (α × β) where
  rep := fun H v p as => ∃ q v1 vs, v = .ref q ∧ SqT K H q (v1 :: vs) ∧ R.rep H v1 p.1 as ∧ ∀ H', ExT K H H' → A H' vs p.2
  stay := fun ⟨q, v1, vs, ev, h, hr, ha⟩ x k => ⟨q, v1, vs, ev, x _ _ h, R.stay hr x k, fun H2 y => ha H2 (x.trans y)⟩
  there := fun ⟨q, v1, vs, ev, h, hr, ha⟩ p hp => R.there hr p hp
section
variable {K : PySem.W.Frag} {H0 : Hp} {G G' : Cells K} {α β : Type} {D : Ends} {u : TS} {R : Rs K α} {A : Ra β} {a a' : α} {b b' : β} {i n : Nat} {te : TE} {tl : TA} {gs : TGs}
/-- what is there, of a thing that may be None -/
theorem ev_unsome {r : Rp α} {o : Option α} {x : α} (h : Ev (rO r) te G o) (e : o = some x) : Ev r te G x := by subst e; exact h.imp fun _ _ z => z
theorem l_retTL (k : ∀ v H' as, Same H0 H' → (∀ p, p ∈ as → H0 p = none) → (nTL K R A).rep H' v (a, b) as → D.rt v H') (hi : G[i]? = some (some (.ow R a))) (h : EvA A tl G b) (F : FrzA K A) (L : LenA A n) (hn : n ≤ 1000) : Sv H0 G (tRet (tTupD (tCons (tVar i) tl))) D := fun σ H ⟨H1, e1, E⟩ => by
  obtain ⟨own, h1, h2, h3⟩ := id E.at_
  obtain ⟨v, hv, hr⟩ := h3 i _ hi
  refine ⟨v, hv, h H1 σ H E _ fun vs H2 e2 z => ⟨by rw [List.length_cons, L.len z]; exact sz (by omega), fun p o hp hd => ?_⟩⟩
  have e3 := e2.trans (same_new (o := .frz o (.tup (v :: vs))) hp)
  exact k (.ref p) _ (own i) ((e1.trans E.old).trans e3) (fun b hb => e1.free (h1 i b hb).1) ⟨p, v, vs, rfl, (SqD.of upd_same hd).t, R.stay hr (ext_same e3) (fun b _ o ho => e3 _ _ ho), fun H' x => F.up ((ext_same (same_new hp)).trans x) z⟩
theorem l_asgTL {p : α × β} (h : Nw (nTL K R A) te G p) (L : LenA A n) (ht : TgA gs A p.2 (G.set i (some (.ow R p.1))) G') (k : Nx H0 G' D.nx) : Sv H0 G (tAsg te (gTup K (n + 1) (gCons (gName i) gs))) D := fun σ H ⟨H1, e, E⟩ =>
  h H1 σ H E _ fun v H' as e' hn ⟨q, v1, vs, ev, hs, hr, ha⟩ => ⟨q, v1 :: vs, ev, hs, by rw [List.length_cons, L.len (ha H' (ExT.refl _))], v1, vs, rfl, ht H1 _ H' vs (E.put e' hn hr) (ha H' (ExT.refl _)) _ fun σ' E' => k σ' H' ⟨H1, e, E'⟩⟩
theorem q_asgTL {p : α × β} (h : Nw (nTL K R A) te G p) (L : LenA A n) (ht : TgA gs A p.2 (G.set i (some (.ow R p.1))) G') (k : Sv H0 G' u D) : Sv H0 G (tSeq (tAsg te (gTup K (n + 1) (gCons (gName i) gs))) u) D := l_asgTL (D := { D with nx := u D }) h L ht k
end
end Gt
namespace Gt
open PySem PySem.Spec PyProof.Rows L2
def rCntT (K : PySem.W.Frag) : V → List V → Hp → VK → Prop := fun x xs H Q => ∃ (p : Addr) (ns : List Str) (k : Str), x = .ref p ∧ xs = [.str k] ∧ SqT K H p (ns.map V.str) ∧ Q (.int (ns.count k : Nat)) H
def rCntL (K : PySem.W.Frag) : V → List V → Hp → VK → Prop := fun x xs H Q => ∃ (p : Addr) (ns : List Str) (k : Str), x = .ref p ∧ xs = [.str k] ∧ SqL K H p (ns.map V.str) ∧ Q (.int (ns.count k : Nat)) H
section
variable {X : Cx}
/-- t.m(e), t a tuple whose object is known -/
def tTM (K : PySem.W.Frag) (r : V → List V → Hp → VK → Prop) (to : TE) (t : TA) : TE := fun σ H Q => to σ H fun x H1 => (∃ p xs, x = .ref p ∧ SqD K H1 p xs) ∧ t σ H1 fun xs H2 => r x xs H2 Q
variable {o e : Expr} {es : List Expr} {to : TE} {t : TA} {name : Str} {apos cpos : Pos} {id : String} {r : V → List V → Hp → VK → Prop}
end
section
variable {K : PySem.W.Frag} {H0 H1 H H' : Hp} {σ : L2.St} {G G' Gx : Cells K} {α β γ δ S ρ : Type}
variable {D : Ends} {t u tb : TS} {wi wi1 : TI} {g g1 : TG} {te ta : TE} {tt tt1 : TT} {r : Rp α} {q : Rp γ} {R : Rs K ρ} {xs : List Str} {s : Str}
theorem ev_tcount (h : Ev (rT K rS) te G xs) (h' : Ev rS ta G s) : Ev rI (tTM K (rCntT K) te (tCons ta tNil)) G (xs.count s : Nat) := fun H0 σ H E Q k =>
  h H0 σ H E _ fun v H1 e1 ⟨p, vs, ev, hp, z⟩ => ⟨⟨p, vs, ev, hp⟩, h' H0 σ H1 (E.grow e1) _ fun w H2 e2 hw => ⟨p, xs, s, ev, by rw [show w = .str s from hw.1], by
    rw [← strs_a2 z]; exact ((ext_same e2).d _ _ hp).t, k _ H2 (e1.trans e2) rfl⟩⟩
theorem ev_lcount (h : Ev (rL rS) te G xs) (h' : Ev rS ta G s) : Ev rI (tBM K "list" (rCntL K) te (tCons ta tNil)) G (xs.count s : Nat) := fun H0 σ H E Q k =>
  h H0 σ H E _ fun v H1 e1 ⟨p, vs, ev, hp, z⟩ => ⟨by rw [ev]; exact .inl ⟨rfl, vs, SqL.of hp⟩, h' H0 σ H1 (E.grow e1) _ fun w H2 e2 hw => ⟨p, xs, s, ev, by rw [show w = .str s from hw.1], by
    rw [← strs_a2 z]; exact SqL.of (e2 _ _ hp), k _ H2 (e1.trans e2) rfl⟩⟩
end
theorem ixc_Y {K : PySem.W.Frag} {G : Cells K} {α : Type} {r : Rp α} {tb : TE} {i : Int} {x : α} {xs : List α} [M : Mono r] (hi : Ev rI tb G i) (hx : atI xs i = some x) : IxC K (rY K r) xs tb G r x := fun ta h => ev_ix h hi trivial hx
def rAny : Rp Unit := fun _ _ _ => True
instance : Mono rAny := ⟨fun _ _ => trivial⟩
instance {K : PySem.W.Frag} : Frz K rAny := ⟨fun _ _ => trivial⟩
end Gt
namespace Gt
open PySem PySem.Spec PyProof.Rows L2
/-- the arguments and one keyword's value -/
def tArgK (n : Nat) (t tk : TA) : TA := fun σ H Q => t σ H fun vs H1 => tk σ H1 fun zs H2 => vs.length = n ∧ zs.length = 1 ∧ Q (vs ++ zs) H2
section
variable {K : PySem.W.Frag} {α β γ δ : Type} {G : Cells K} {r : Rp α} {q : Rp β} {p : Rp γ} {s : Rp δ} {t tk : TA} {te : TE} {x : α} {b : β} {z : γ}
theorem ea_argK2 {p' : Rp γ} [M : MonoA (aC r (aC q aN))] (h : EvA (aC r (aC q aN)) t G (x, (b, ()))) (h' : Ev p' te G z) : EvA (aC r (aC q (aC p' aN))) (tArgK 2 t (tCons te tNil)) G (x, (b, (z, ()))) := fun H0 σ H E Q k =>
  h H0 σ H E _ fun vs H1 e1 hv => h' H0 σ H1 (E.grow e1) _ fun w H2 e2 hw => by
    obtain ⟨v1, w1, ev, hv1, v2, w2, ew, hv2, e0⟩ := M.up e2 hv
    subst ev
    subst ew
    rw [show w2 = [] from e0]
    exact ⟨rfl, rfl, k _ H2 (e1.trans e2) ⟨v1, _, rfl, hv1, v2, _, rfl, hv2, w, [], rfl, hw, rfl⟩⟩
theorem ea_argN2 {o : Rp γ} (h : EvA (aC r (aC q aN)) t G (x, (b, ()))) : EvA (aC r (aC q (aC (rO o) aN))) (tArgN t) G (x, (b, ((none : Option γ), ()))) := fun H0 σ H E Q k =>
  h H0 σ H E _ fun vs H1 e1 ⟨v1, w1, ev, hv1, v2, w2, ew, hv2, e0⟩ => by
    subst ev
    subst ew
    rw [show w2 = [] from e0]
    exact k _ H1 e1 ⟨v1, _, rfl, hv1, v2, _, rfl, hv2, .non, [], rfl, rfl, rfl⟩
end
end Gt
namespace Gt
open PySem PySem.Spec PyProof.Rows L2
def rIsB : R2 := fun x y H Q => ∃ a b, x = .bl a ∧ y = .bl b ∧ Q (.bl (decide (a = b))) H
theorem a_isB {K : PySem.W.Frag} {G : Cells K} {ta tb : TE} {a b : Bool} (h : Ev rB ta G a) (h' : Ev rB tb G b) : Ev rB (tOp rIsB ta tb) G (decide (a = b)) := ev_op h h' fun H u v hu hv Q k => ⟨a, b, hu, hv, k _ H (Same.refl H) rfl⟩
theorem a_nR {K : PySem.W.Frag} {G : Cells K} {α : Type} {C : Addr} {F : RF K α} {x : α} {te : TE} (h : Nw (nRec K C F) te G x) : Ev (rRec K C F) te G x := fun H0 σ H E Q k => h H0 σ H E Q fun v H' as e hn z => k v H' e ⟨as, z⟩
theorem a_noRs {K : PySem.W.Frag} {G : Cells K} {α : Type} {i : Nat} {C : Addr} {F : RF K α} {x : α} (h : G[i]? = some (some (.ow (nRec K C F) x))) : Ev (rO (rRec K C F)) (tVar i) G (some x) := (a_noR h).some
end Gt
namespace Gt
open PySem PySem.Spec PyProof.Rows L2
inductive Dm
  | s (x : Str)
  | r (x : Rule)
  | n
  | b (x : Bool)
  deriving DecidableEq
instance : Inhabited Dm := ⟨.n⟩
def rDm (K : PySem.W.Frag) : Rp Dm := fun H v d => match d with
  | .s x => rS H v x
  | .r x => rRu K H v x
  | .n => v = .non
  | .b x => v = .bl x
section
variable {K : PySem.W.Frag} {G : Cells K} {te : TE}
instance : Mono (rDm K) := ⟨fun {H H' v d} e h => match d, h with
  | .s _, h => h
  | .r _, h => Mono.up (r := rRu K) e h
  | .n, h => h
  | .b _, h => h⟩
instance : Frz K (rDm K) := ⟨fun {H H' v d} e h => match d, h with
  | .s _, h => h
  | .r _, h => Frz.up (K := K) (r := rRu K) e h
  | .n, h => h
  | .b _, h => h⟩
theorem ev_Ds {x : Str} (h : Ev rS te G x) : Ev (rDm K) te G (.s x) := h.imp fun _ _ z => z
theorem ev_Dr {x : Rule} (h : Ev (rRu K) te G x) : Ev (rDm K) te G (.r x) := h.imp fun _ _ z => z
theorem ev_Db {x : Bool} (h : Ev rB te G x) : Ev (rDm K) te G (.b x) := h.imp fun _ _ z => z
def datRl : Dat K (rRu K) := datP datS (datT datS)
def encD : Dm → PyData
  | .s x => .str x
  | .r x => (datRl (K := K)).enc x
  | .n => .none
  | .b x => .bool x
def datD : Dat K (rDm K) where
  dec := inferInstance
  enc := encD (K := K)
  dep := 2
  dp := fun {H v d} h => match d, h with
    | .s _, h => by rw [show v = _ from h.1]; exact .str _
    | .r _, h => (datRl (K := K)).dp h
    | .n, h => by rw [show v = _ from h]; exact .non
    | .b _, h => by rw [show v = _ from h]; exact .bl _
  lay := fun {H v d} h => match d, h with
    | .s _, h => by simp only [PyData.canLay0, encD]; exact h.2.2
    | .r _, h => (datRl (K := K)).lay h
    | .n, _ => by simp [PyData.canLay0, encD]
    | .b _, _ => by simp [PyData.canLay0, encD]
  dpt := fun d => match d with
    | .s _ => by simp [PyData.depth, encD]
    | .r x => (datRl (K := K)).dpt x
    | .n => by simp [PyData.depth, encD]
    | .b _ => by simp [PyData.depth, encD]
  eqv := fun a b => by
    cases a with
    | s x =>
      cases b with
      | s y =>
        simp only [PyData.eqv, encD]
        by_cases h : x = y
        · subst h; simp
        · rw [decide_eq_false fun e => h (by cases e; rfl)]
          exact beq_eq_false_iff_ne.mpr h
      | r y => simp [PyData.eqv, encD, datRl, datP]
      | n => simp [PyData.eqv, encD]
      | b y => simp [PyData.eqv, encD]
    | r x =>
      cases b with
      | s y => simp [PyData.eqv, encD, datRl, datP]
      | r y =>
        have := (datRl (K := K)).eqv x y
        refine this.trans ?_
        by_cases h : x = y
        · subst h; simp
        · exact (@decide_eq_false _ ((datRl (K := K)).dec x y) h).trans (decide_eq_false fun e => h (by cases e; rfl)).symm
      | n => simp [PyData.eqv, encD, datRl, datP]
      | b y => simp [PyData.eqv, encD, datRl, datP]
    | n =>
      cases b with
      | s y => simp [PyData.eqv, encD]
      | r y => simp [PyData.eqv, encD, datRl, datP]
      | n => simp [PyData.eqv, encD]
      | b y => simp [PyData.eqv, encD]
    | b x =>
      cases b with
      | s y => simp [PyData.eqv, encD]
      | r y => simp [PyData.eqv, encD, datRl, datP]
      | n => simp [PyData.eqv, encD]
      | b y => cases x <;> cases y <;> simp [PyData.eqv, encD]
instance : DatN K (rDm K) 2 := ⟨datD, Nat.le_refl _⟩
end
def payR (fs : List (Str × Pay)) (f : Str) : Option Rule := match fs.lookup f with
  | some (.r x) => some x
  | _ => none
def PayR (fs : List (Str × Pay)) (f : Str) (x : Rule) : Prop := payR fs f = some x
theorem a_xfR {K : PySem.W.Frag} {G : Cells K} {i : Nat} {a d C : Addr} {m : Mono (rExc K a d)} {fs : List (Str × Pay)} {f : Str} {x : Rule} (h : G[i]? = some (some (.ro (rExc K a d) m fs))) (hf : PayR fs f x) : Ev (rRu K) (tXf a (.ref C) (some d) C f (tVar i)) G x := by
  unfold PayR payR at hf
  split at hf
  · rename_i y e
    cases hf
    exact (a_xf h e).imp fun _ _ z => z
  · cases hf
end Gt
namespace Gt
open PySem PySem.Spec PyProof.Rows L2
def nO (K : PySem.W.Frag) {β : Type} (R : Rs K β) : Rs K (Option β) where
  rep := fun H v o as => match o with
    | .none => v = .non ∧ as = []
    | .some b => R.rep H v b as
  stay := fun {H H' v o as} h x k => match o, h with
    | .none, h => h
    | .some _, h => R.stay h x k
  there := fun {H v o as} h p hp => match o, h with
    | .none, h => by rw [h.2] at hp; cases hp
    | .some _, h => R.there h p hp
section
variable {K : PySem.W.Frag} {α β : Type} {G : Cells K} {R : Rs K β} {te : TE} {b : β} {o : Option β}
theorem nw_nonO : Nw (nO K R) (tC .non) G none := fun H0 σ H E Q k => k .non H [] (Same.refl H) (fun _ h => nomatch h) ⟨rfl, rfl⟩
theorem a_nO {i : Nat} {C : Addr} {F : RF K α} {o : Option α} (h : G[i]? = some (some (.ow (nO K (nRec K C F)) o))) : Ev (rO (rRec K C F)) (tVar i) G o := fun H0 σ H E Q k => by
  obtain ⟨own, _, _, h3⟩ := E.at_
  obtain ⟨v, hv, hr⟩ := h3 i _ h
  refine ⟨v, hv, k v H (Same.refl H) ?_⟩
  cases o with
  | none => exact hr.1
  | some b => exact ⟨_, hr⟩
theorem ev_Dn0 : Ev (rDm K) (tC .non) G .n := fun H0 σ H E Q k => k _ H (Same.refl H) rfl
end
end Gt
namespace Gt
open PySem PySem.Spec PyProof.Rows L2
/-- what isinstance asks of an own class -/
structure InsK (K : PySem.W.Frag) (C : Addr) : Prop where
  cl : Cls K C
  ha : PySem.W.findIn K (.ref C) "__class__" = some (some (.builtin "object.__class__"))
  hn : PySem.W.specialIn K (.builtin "object.__class__") "__get__" = some (some (.builtin "getset_descriptor.__get__"))
  ht : PySem.W.takesIn K (.builtin "object.__class__") = some true
  hm : PySem.W.mroIn K C (.type "object") = some true
section
variable {K : PySem.W.Frag} {G : Cells K} {α : Type} {r : Rp α} {te : TE} {z : α} {C D : Addr} {names : List Str} {b : Bool}
theorem a_isiC (h : Ev r te G z) (M : Mono r) (I : InsR K C r names) (T : InsK K C) (e : PySem.W.kitOne K (.ref C) (.ref D) = some b) : Ev rB (tCB (rIsi K) (tCons te (tCons (tC (.ref D)) tNil))) G b := fun H0 σ H E Q k =>
  h H0 σ H E _ fun v H1 e1 hv => by
    obtain ⟨a, dx, fs, ev, ha, _⟩ := I.ins hv
    subst ev
    exact ⟨.ref a, .ref D, .ref C, .ref D, b, rfl, .own D, .base (.ins ha T.cl T.ha T.hn T.ht T.hm), e, k _ H1 e1 rfl⟩
instance {A : Ra α} : NotNon (rW K A) := ⟨fun ⟨_, _, e, _⟩ z => by rw [z] at e; cases e⟩
end
end Gt
namespace Gt
open PySem PySem.Spec PyProof.Rows L2
structure CalO (P : Program) (w : World) (K : PySem.W.Frag) (mg : Str → Option Value) (base : Heap) (CX : CXT) (C : Addr) (k : Nat) (ps : List Str) (sp : Sp) : Prop where
  m : ∃ (f : Addr) (fd : FuncData), FnOk P w K mg base CX k f fd ps sp ∧ Meth K C "__call__" f ∧ Binds K fd ps [] ∧ PySem.W.fnIn K f = true
def tInsCall (C : Addr) (sp : Sp) (E : XK) (tf : TE) (t : TA) : TE := fun σ H Q => tf σ H fun y H1 => ∃ a, y = V.ref a ∧ t σ H1 fun vs H2 => (∃ dx fs, H2 a = some (.ins C dx fs)) ∧ sp (V.ref a :: vs) H2 Q E
section
variable {X : Cx} {CX : CXT} {k : Nat} {C : Addr} {ps : List Str} {sp : Sp} {E : XK} {e fe : Expr} {es : List Expr} {tf : TE} {t : TA} {pos : Pos}
theorem ins_looks {pins : List (Addr × Obj)} {σ : L2.St} {H : Hp} {s : Shared} {a dx : Addr} {fs : List (Str × V)} (I : Inv X pins σ H s) (h : H a = some (.ins C dx fs)) : ∃ ox od, PySem.W.InstAt s.heap a ox C od ∧ ox.data = .plain :=
  StX.insC_at I (.inr ⟨dx, fs, h⟩)
theorem pe_insCall (hf : PE X fe tf) (F : CalO X.prog X.w X.K X.mg X.base CX C k ps sp) (hr : Room k X.A) (hx : Passes CX X E) (ha : PA X (e :: es) t)
    (ht : eval (.Call fe (e :: es) [] pos) X.env = (do callWith pos (← eval fe X.env) [] (backTo pos (starEach (e :: es) X.env)) (backToKw pos (keywordEach [] X.env))) := by rfl)
    (he : starEach (e :: es) X.env = (false, eval e X.env) :: starEach es X.env := by rfl) (hpl : (backTo pos (starEach es X.env)).any (·.1) = false := by rfl) : PE X (.Call fe (e :: es) [] pos) (tInsCall C sp E tf t) := by
  obtain ⟨f, fd, G, M, B, fi⟩ := F.m
  refine ⟨fun pins s σ H Q I h => PyProof.Rows.Call_ (thn (hf.run pins s σ H _ I h) fun u s1 ⟨y, H1, I1, ry, a, ey, q⟩ => ?_) ht⟩
  cases ey
  cases (show u = Value.ref a from ry)
  refine StX.callO_with (thn (ha.run pos pins s1 σ H1 _ I1 q) fun us s2 ⟨vs, H2, I2, r, ⟨dx, fs, hi⟩, q2⟩ => ?_) he hpl
  obtain ⟨ox, od, J, pl⟩ := ins_looks I2 hi
  have rr : Vals (V.ref a :: vs) (Value.ref a :: us) := .cons rfl r
  have hl : (Value.ref a :: us).length = ps.length := rr.length.symm.trans (G.len _ _ _ _ q2)
  have bb := B s2 (Value.ref a :: us) I2.kIn (by simpa using hl)
  rw [List.append_nil] at bb
  refine ⟨⟨C, ox, od, J, pl⟩, wpAny_call (PySem.W.kco_code I2.kIn J pl M.at_ M.fn fi (codeAny_mono (G.run X.A X.stack s2 H2 ⟨Value.ref a :: us, []⟩ _ _ Q E hr I2.env0 bb rr q2) fun z s3 hq => ?_))⟩
  match z, hq with
  | .error x, hq => exact hx pins σ H2 s2 x s3 I2 hq
  | .ok (.ret v), hq => exact I2.after hq
  | .ok .next, hq => exact hq.elim
  | .ok .brk, hq => exact hq.elim
  | .ok .cont, hq => exact hq.elim
end
section
variable {K : PySem.W.Frag} {G : Cells K} {α β γ ρ : Type} {tf : TE} {t : TA}
theorem a_insCall {C : Addr} {names : List Str} {r : Rp α} {q : Rp γ} {x : α} {z : γ} {A : Ra β} {b : β} {m : α × β → M γ} {E : XK} (h : Ev r tf G x) (M : Mono r) (I : InsR K C r names) (hA : EvA A t G b) (e : MOk m (x, b) z) :
    Ev q (tInsCall C (spM (aC r A) q m) E tf t) G z := fun H0 σ H E1 Q k => h H0 σ H E1 _ fun v H1 e1 hv => by
  obtain ⟨a, dx, fs, ea, ha, hm⟩ := I.ins hv
  refine ⟨a, ea, hA H0 σ H1 (E1.grow e1) _ fun vs H2 e2 hvs => ⟨⟨dx, fs, e2 _ _ ha⟩, ?_⟩⟩
  rw [← ea]
  exact ⟨(x, b), z, ⟨v, vs, rfl, M.up e2 hv, hvs⟩, e, fun w H' e' hw => k w H' ((e1.trans e2).trans e') hw⟩
end
def IsPd (P : Program) (w : World) (K : PySem.W.Frag) (H : Hp) (x : V) : Prop := ∃ a ep xs, x = .ref a ∧ PdAt P w K H a ep xs
/-- what is found, or this -/
def OrV (d : V) : Option (Addr × Value) → V → Prop
  | some p, v => RelV v p.2
  | none, v => v = d
def tPGet1 (P : Program) (w : World) (K : PySem.W.Frag) (td ty : TE) : TE := fun σ H Q => td σ H fun x H1 => IsPd P w K H1 x ∧ ty σ H1 fun y H2 => PLk P w K H2 x y fun o => ∃ v, OrV .non o v ∧ Q v H2
def tPGet2 (P : Program) (w : World) (K : PySem.W.Frag) (td ty tx : TE) : TE := fun σ H Q => td σ H fun x H1 => IsPd P w K H1 x ∧ ty σ H1 fun y H2 => tx σ H2 fun z H3 => PLk P w K H3 x y fun o => ∃ v, OrV z o v ∧ Q v H3
theorem orV_rel {d v : V} {r : Value} {o : Option (Addr × Value)} (rd : RelV d r) (h : OrV d o v) : RelV v ((o.map (·.2)).getD r) := by
  cases o with
  | none => cases (show v = d from h); exact rd
  | some p => exact h
section
variable {X : Cx} {o e f : Expr} {td ty tx : TE} {apos cpos : Pos}
theorem pe_pget1 (hu : X.A.units + 1 < cLine) (ho : PE X o td) (he : PE X e ty) (m : M1 X o "get" apos e cpos) : PE X (.Call (.Attribute o "get" apos) [e] [] cpos) (tPGet1 X.prog X.w X.K td ty) := ⟨fun pins s σ H Q I h => by
  refine wpAny_Call_method m.base m.few m.line F.plainAttrs_dict F.slot_dict_get F.type_dict_get (thn (ho.run pins s σ H _ I h) fun u s1 ⟨x, H1, I1, rx, ⟨a, ep, xs, ex, D⟩, q1⟩ => ?_)
  cases ex
  cases (show u = Value.ref a from rx)
  refine ⟨pd_isD I1 D, fun b q => ?_, ?_⟩
  · cases q
    exact dictOfH_noDict (pd_dict I1 D) _ rfl
  · rw [m.trees]
    refine wpAny_dict_get1_heap (knd := tupleKind (noneKind X.prog X.w)) (tupleKind_room_in1 hu) D.ne (thn (he.run pins s1 σ H1 _ I1 q1) fun iv s2 ⟨y, H2, I2, ry, a', ep', xs', b, k, ea, D2, ey, hk, v, hv, q2⟩ => ?_)
    cases ea; cases ey
    cases (show iv = Value.ref b from ry)
    exact ⟨b, k, xs', rfl, pkey_is I2 hk, pd_dict I2 D2, v, H2, I2.tok _, orV_rel (d := .non) rfl hv, q2⟩⟩
theorem pe_pget2 (hu : X.A.units + 1 < cLine) (ho : PE X o td) (he : PE X e ty) (hf : PE X f tx) (m : M2 X o "get" apos e f cpos) : PE X (.Call (.Attribute o "get" apos) [e, f] [] cpos) (tPGet2 X.prog X.w X.K td ty tx) := ⟨fun pins s σ H Q I h => by
  refine wpAny_Call_method m.base m.few m.line F.plainAttrs_dict F.slot_dict_get F.type_dict_get (thn (ho.run pins s σ H _ I h) fun u s1 ⟨x, H1, I1, rx, ⟨a, ep, xs, ex, D⟩, q1⟩ => ?_)
  cases ex
  cases (show u = Value.ref a from rx)
  refine ⟨pd_isD I1 D, fun b q => ?_, ?_⟩
  · cases q
    exact dictOfH_noDict (pd_dict I1 D) _ rfl
  · rw [m.trees]
    refine wpAny_dict_get2_heap (knd := tupleKind (noneKind X.prog X.w)) (tupleKind_room_in1 hu) D.ne (thn (he.run pins s1 σ H1 _ I1 q1) fun iv s2 ⟨y, H2, I2, ry, q2⟩ =>
      thn (hf.run pins s2 σ H2 _ I2 q2) fun fv s3 ⟨z, H3, I3, rz, a', ep', xs', b, k, ea, D3, ey, hk, v, hv, q3⟩ => ?_)
    cases ea; cases ey
    cases (show iv = Value.ref b from ry)
    exact ⟨b, k, xs', rfl, pkey_is I3 hk, pd_dict I3 D3, v, H3, I3.tok _, orV_rel rz hv, q3⟩⟩
end
section
variable {X : Cx} {o e f : Expr} {td ty tx : TE} {apos cpos : Pos} (P : Program) (w : World) (K : PySem.W.Frag)
theorem pe_pget1K (hu : X.A.units + 1 < cLine) (ho : PE X o td) (he : PE X e ty) (m : M1 X o "get" apos e cpos) (hP : X.prog = P := by rfl) (hw : X.w = w := by rfl) (hK : X.K = K := by rfl) : PE X (.Call (.Attribute o "get" apos) [e] [] cpos) (tPGet1 P w K td ty) := by subst hP hw hK; exact pe_pget1 hu ho he m
theorem pe_pget2K (hu : X.A.units + 1 < cLine) (ho : PE X o td) (he : PE X e ty) (hf : PE X f tx) (m : M2 X o "get" apos e f cpos) (hP : X.prog = P := by rfl) (hw : X.w = w := by rfl) (hK : X.K = K := by rfl) : PE X (.Call (.Attribute o "get" apos) [e, f] [] cpos) (tPGet2 P w K td ty tx) := by subst hP hw hK; exact pe_pget2 hu ho he hf m
end
section
variable {P : Program} {w : World} {K : PySem.W.Frag} {H0 H1 H H' : Hp} {σ : L2.St} {G G1 : Cells K} {α β γ ρ : Type} {D : Ends}
variable {td ty tx te ta tb : TE} {tt tu : TT} {t u v : TS} {r : Rp α} {x : α} {k : KP} {i j : Nat} {xs : List (KP × α)} {o : Option α}
/-- what is found stands for a thing or None -/
theorem pd_found {H : Hp} {es : List PEt} {d : V} (q : A2 (Pe K (r H) H) es xs) (k : KP) (hd : rO r H d o) : ∃ v, OrV d (atKey es (kP k)) v ∧ rO r H v ((pkey xs k).or o) := by
  rcases pe_at q k with ⟨p, b, v, e1, e2, hv, rv⟩ | ⟨e1, e2⟩
  · rw [e1, e2]; exact ⟨v, rv, hv⟩
  · rw [e1, e2]; exact ⟨d, rfl, hd⟩
theorem a_pget2 (h : Ev (rPD P w K r) td G xs) (h' : Ev (rKP K) ty G k) (hx : Ev (rO r) tx G o) (M : Mono r) : Ev (rO r) (tPGet2 P w K td ty tx) G ((pkey xs k).or o) := fun H0 σ H E Q c =>
  h H0 σ H E _ fun v H1 e1 hd => ⟨by
      obtain ⟨p, ep, es, ev, hp, hs, nd, q, hz⟩ := hd
      exact ⟨p, ep, es, ev, pd_at hp hs nd q hz⟩, h' H0 σ H1 (E.grow e1) _ fun y H2 e2 hy => hx H0 σ H2 (E.grow (e1.trans e2)) _ fun d H3 e3 hz3 => by
    obtain ⟨p, ep, es, ev, hp, hs, nd, q, hz⟩ := (inferInstance : Mono (rPD P w K r)).up (e2.trans e3) hd
    obtain ⟨b, ey, hb, ok⟩ := key_to hy
    obtain ⟨v', h1, h2⟩ := pd_found q k hz3
    exact ⟨p, ep, es, b, kP k, ev, pd_at hp hs nd q hz, ey, ext_same e3 _ _ hb, v', h1, c v' H3 ((e1.trans e2).trans e3) h2⟩⟩
theorem a_pget1 (h : Ev (rPD P w K r) td G xs) (h' : Ev (rKP K) ty G k) (M : Mono r) : Ev (rO r) (tPGet1 P w K td ty) G (pkey xs k) := fun H0 σ H E Q c =>
  h H0 σ H E _ fun v H1 e1 hd => ⟨by
      obtain ⟨p, ep, es, ev, hp, hs, nd, q, hz⟩ := hd
      exact ⟨p, ep, es, ev, pd_at hp hs nd q hz⟩, h' H0 σ H1 (E.grow e1) _ fun y H2 e2 hy => by
    obtain ⟨p, ep, es, ev, hp, hs, nd, q, hz⟩ := (inferInstance : Mono (rPD P w K r)).up e2 hd
    obtain ⟨b, ey, hb, ok⟩ := key_to hy
    obtain ⟨v', h1, h2⟩ := pd_found (o := none) (d := .non) q k (show rO r H2 .non none from rfl)
    rw [Option.or_none] at h2
    exact ⟨p, ep, es, b, kP k, ev, pd_at hp hs nd q hz, ey, hb, v', h1, c v' H2 (e1.trans e2) h2⟩⟩
theorem a_recFpd {C : Addr} {F : RF K β} {f : Str} {get : β → List (KP × α)} {y : β} (h : Ev (rRec K C F) te G y) (fa : FldAt F f (npd P w K r) get) (c : Cls K C) (n : NoAttr K C f) (e : get y = xs) (hz : xs.length ≤ 100000) : Ev (rPD P w K r) (tFld K te f) G xs := fun H0 σ H E Q kk =>
  h H0 σ H E _ fun v H1 e1 ⟨as, a, dx, fs, bs, ea, _, ha, hf⟩ => by
    obtain ⟨z, cs, hl, hw⟩ := fa _ _ _ _ hf
    refine ⟨a, C, dx, fs, z, ea, ha, c, n, hl, kk z H1 e1 ?_⟩
    rw [e] at hw
    obtain ⟨p, ep, es, _, ev, hp, hs, nd, q⟩ := hw
    exact ⟨p, ep, es, ev, hp, hs, nd, q.imp fun _ _ z => z.up (fun _ _ y => y.now) (ExT.refl _), hz⟩
theorem a_nOv {R : Rs K ρ} {rv : Rp ρ} {o : Option ρ} (f : ∀ H v as b, R.rep H v b as → rv H v b) (h : G[i]? = some (some (.ow (nO K R) o))) : Ev (rO rv) (tVar i) G o := fun H0 σ H E Q k => by
  obtain ⟨own, _, _, h3⟩ := E.at_
  obtain ⟨v, hv, hr⟩ := h3 i _ h
  refine ⟨v, hv, k v H (Same.refl H) ?_⟩
  cases o with
  | none => exact hr.1
  | some b => exact f _ _ _ _ hr
theorem a_nOL {o : Option (List α)} (h : G[i]? = some (some (.ow (nO K (nl K r)) o))) : Ev (rO (rL r)) (tVar i) G o := a_nOv (fun _ _ _ _ z => vw_nl z) h
theorem rt_some {R : Rs K ρ} {b : ρ} (h : RtOk (nO K R) H0 (some b) D) : RtOk R H0 b D := fun v H ⟨as, s, n, z⟩ => h v H ⟨as, s, n, z⟩
def EtX (tt : TT) (G : Cells K) (b : Bool) (G' : Cells K) : Prop := ∀ H0 σ H, Env H0 σ H G → ∀ Q : Bool → Hp → Prop, (∀ H', Env H0 σ H' G' → Q b H') → tt σ H Q
theorem q_ifOr {c : Bool} (h : EvT tt G c) (h1 : c = true → Sv H0 G t { D with nx := v D }) (h2 : c = false → Sv H0 G (tSeq (tIfS tu t u) v) D) : Sv H0 G (tSeq (tIfS (tOr tt tu) t u) v) D := fun σ H ⟨H1, e, E⟩ =>
  h H1 σ H E _ fun H' e' => by
    cases c with
    | true => exact h1 rfl σ H' ⟨H1, e, E.grow e'⟩
    | false => exact h2 rfl σ H' ⟨H1, e, E.grow e'⟩
theorem q_ifX {c : Bool} (h : EtX tt G c G1) (h1 : c = true → Sv H0 G1 t { D with nx := v D }) (h2 : c = false → Sv H0 G1 u { D with nx := v D }) : Sv H0 G (tSeq (tIfS tt t u) v) D := fun σ H ⟨H1, e, E⟩ =>
  h H1 σ H E _ fun H' E' => by
    cases c with
    | true => exact h1 rfl σ H' ⟨H1, e, E'⟩
    | false => exact h2 rfl σ H' ⟨H1, e, E'⟩
theorem etx_1 {b : Bool} (h : EvX rB te G b G1) : EtX (tTest te) G b G1 := fun H0 σ H E Q k => h H0 σ H E _ fun v H' E' hv => ⟨b, hv, k H' E'⟩
theorem ex_op {op : R2} {q : Rp γ} {r' : Rp β} {y : β} {z : γ} (h : Ev r ta G x) (M : Mono r) (hb : ∀ H0 σ H, Env H0 σ H G → ∀ Q : VK, (∀ v H', Env H0 σ H' G1 → ExT K H H' → r' H' v y → Q v H') → tb σ H Q) (F : Frz K r)
    (hop : ∀ H u v, r H u x → r' H v y → ∀ Q : VK, (∀ w H', Same H H' → q H' w z → Q w H') → op u v H Q) : EvX q (tOp op ta tb) G z G1 := fun H0 σ H E Q k =>
  h H0 σ H E _ fun u H1 e1 hu => hb H0 σ H1 (E.grow e1) _ fun v H2 E2 x2 hv => hop H2 u v (F.up x2 hu) hv _ fun w H3 e3 hw => k w H3 (E2.grow e3) hw
/-- xs.pop() -/
theorem pop_run {xs : List α} {x : α} (hi : G[i]? = some (some (.ow (nl K r) xs))) (hx : xs[xs.length - 1]? = some x) : ∀ H0 σ H, Env H0 σ H G → ∀ Q : VK, (∀ v H', Env H0 σ H' (G.set i (some (.ow (nl K r) xs.dropLast))) → ExT K H H' → r H' v x → Q v H') → tBM0 K "list" rPop (tVar i) σ H Q := fun H1 σ H E Q k => by
  obtain ⟨own, h1, h2, h3⟩ := id E.at_
  obtain ⟨v, hv, p, vs, ea, ev, hp, z⟩ := h3 i _ hi
  subst ev
  have hl := z.len
  have hz : 0 < xs.length := by
    cases xs with
    | nil => cases hx
    | cons a b => exact Nat.succ_pos _
  obtain ⟨y, hy⟩ : ∃ y, vs[vs.length - 1]? = some y := ⟨_, List.getElem?_eq_getElem (by omega)⟩
  have x0 : ExT K H (upd H p (.lst vs.dropLast)) := ext_upd hp fun z => z
  have z2 : A2 (Stb K r (upd H p (.lst vs.dropLast))) vs xs := z.imp fun _ _ q => q.up x0
  obtain ⟨b, hb, sb⟩ := z2.get hy
  rw [hl, hx] at hb
  cases hb
  refine ⟨_, hv, .inl ⟨rfl, vs, SqL.of hp⟩, p, vs, y, rfl, rfl, hp, hy, k _ _ ?_ x0 sb.now⟩
  refine E.mut (as := [p]) (R := nl K r) (R' := nl K r) hi hv x0 (fun c o hc ho => ?_) (fun w bs hw ⟨p', vs', e1, e2, _, _⟩ => ?_) ⟨p, _, rfl, rfl, upd_same, a2_dropLast z2⟩
  · rw [upd_ne fun z => hc (by rw [z]; exact List.mem_singleton.mpr rfl)]
    exact ho
  · rw [hv] at hw
    cases hw
    cases e2
    exact e1
theorem ex_pop {xs : List α} {x : α} (hi : G[i]? = some (some (.ow (nl K r) xs))) (hx : xs[xs.length - 1]? = some x) : EvX r (tBM0 K "list" rPop (tVar i)) G x (G.set i (some (.ow (nl K r) xs.dropLast))) := fun H0 σ H E Q k => pop_run hi hx H0 σ H E Q fun v H' E' _ hv => k v H' E' hv
/-- s != xs.pop() -/
theorem etx_nePop {xs : List Str} {a x : Str} (h : Ev rS ta G a) (hi : G[i]? = some (some (.ow (nl K rS) xs))) (hx : xs[xs.length - 1]? = some x) : EtX (tTest (tOp rNe ta (tBM0 K "list" rPop (tVar i)))) G (!decide (a = x)) (G.set i (some (.ow (nl K rS) xs.dropLast))) :=
  etx_1 (ex_op h inferInstance (pop_run hi hx) inferInstance fun H u v ⟨hu, _⟩ ⟨hv, _⟩ Q k => by
    cases hu; cases hv
    exact ⟨rfl, k _ H (Same.refl H) (by show V.bl _ = V.bl _; congr 2; exact decide_eq_decide.mpr ⟨fun h => V.str.inj h, fun h => by rw [h]⟩)⟩)
/-- ys.append(xs.pop()) -/
theorem l_appX {ys : List α} {x : α} (hi : G[i]? = some (some (.ow (nl K r) ys))) (h : EvX r te G x G1) (hi1 : G1[i]? = some (some (.ow (nl K r) ys))) (hz : ys.length < 100000) (k : Nx H0 (G1.set i (some (.ow (nl K r) (ys ++ [x])))) D.nx) (F : Frz K r := by infer_instance) :
    Sv H0 G (tDrop (tBM K "list" rAppend (tVar i) (tCons te tNil))) D := fun σ H ⟨H1, e1, E⟩ => by
  obtain ⟨own, h1, h2, h3⟩ := id E.at_
  obtain ⟨v, hv, p, vs, ea, ev, hp, z⟩ := h3 i _ hi
  subst ev
  refine ⟨_, hv, .inl ⟨rfl, vs, SqL.of hp⟩, h H1 σ H E _ fun w H2 E2 hw => ?_⟩
  obtain ⟨own', g1, g2, g3⟩ := id E2.at_
  obtain ⟨v', hv', p', vs', ea', ev', hp', z'⟩ := g3 i _ hi1
  rw [hv] at hv'
  cases hv'
  cases ev'
  exact ⟨p, vs', w, rfl, rfl, hp', Nat.lt_of_le_of_lt (by rw [z'.len]; omega) (by decide : 100000 < sizeLine), k _ _ ⟨H1, e1, app_env E2 hi1 hv hp' z' (stb hw)⟩⟩
end
end Gt
namespace Gt
open PySem PySem.Spec PyProof.Rows L2
/-- how a turn of the comprehension goes on from the new dict's state -/
def PdPut (P : Program) (w : World) (K : PySem.W.Frag) (D : Addr) (N : Hp → Prop) (y z : V) (H : Hp) : Prop :=
  ∃ ep xs b k, PdAt P w K H D ep xs ∧ y = .ref b ∧ SqT K H b (k.map pkV) ∧ ∀ ep' u, RelV z u → N (upd H D (PDO P w D ep' (storedH xs k b u)))
def tPDc (P : Program) (w : World) (K : PySem.W.Frag) (wi : TI) (g : TG) (tk tv : TE) (vs : List Nat) : TE := fun σ H Q => wi σ H fun J Ha => ∀ D ep0, Ha D = none → (D == sysModules) = false →
  ∃ W : Nat → Nat → Hp → Prop, (∃ m, W 0 m (upd Ha D (PDO P w D ep0 []))) ∧ ∀ i m Hb, W i m Hb → (J.stop i Hb ∧ Q (.ref D) Hb) ∨
    (J.go i Hb ∧ ∃ N : Hp → Prop, (∀ H', N H' → ∃ m', m' < m ∧ W (i + 1) m' H') ∧ ∀ x Hc, J.yld i Hb x Hc → g x (wipe σ vs) Hc fun τ Hd => wipe τ vs = wipe σ vs ∧ tk τ Hd fun y He => tv τ He fun z Hf => PdPut P w K D N y z Hf)
section
variable {X : Cx} {kx vx tg itr : Expr} {sco : Scope} {own : List (Str × Nat)} {ps0 : Pos} {wi : TI} {g : TG} {tk tv : TE}
theorem pd_put1 {pins : List (Addr × Obj)} {σ : L2.St} {H : Hp} {s : Shared} {E : Value → Shared → Prop} {D b : Addr} {ep : Nat} {xs : List PEt} {k : PKy} {r : Value} {Q : Unit → Shared → Prop} (hu : X.A.units < cLine) (I : Inv X pins σ H s) (A : PdAt X.prog X.w X.K H D ep xs) (hk : SqT X.K H b (k.map pkV))
    (h : ∀ ep' s', Inv X pins σ (upd H D (PDO X.prog X.w D ep' (storedH xs k b r))) s' → Q () s') : wpAny (model X.prog X.w) X.A (dictSet D (.ref b) r) Q E s := by
  refine wpAny_dictSet_heap (knd := tupleKind (noneKind X.prog X.w)) (hsz := A.sz) hu (pkey_is I hk) (pd_dict I A) fun h' dd sb => ?_
  obtain ⟨q, es, ep', hq, h2, h3, h4, _, _⟩ := dd
  exact h ep' _ (d_write I (by rw [A.it]; exact True.intro) sb ⟨q, hq⟩ (pd_new ⟨q, es, hq, h2, h3, h4⟩))
theorem pe_pdc (hu : X.A.units < cLine) (calm : X.calm = true) (hN : X.N.Nodup) (hi : PI X tg itr wi) (ok : BlkOk X.N X.env.scope sco own)
    (hg : ∀ (s : Shared) (H : Hp) (C : Addr) (cl : List (Str × Addr)) (fp : List Addr), PG (X.blk s H sco (compEnvC sco cl C X.env) fp) tg g)
    (hk : ∀ (s : Shared) (H : Hp) (C : Addr) (cl : List (Str × Addr)) (fp : List Addr), PE (X.blk s H sco (compEnvC sco cl C X.env) fp) kx tk)
    (hv : ∀ (s : Shared) (H : Hp) (C : Addr) (cl : List (Str × Addr)) (fp : List Addr), PE (X.blk s H sco (compEnvC sco cl C X.env) fp) vx tv) (fold : ∀ x, foldedSetIterable itr X.env x = pure x := by intro _; rfl) :
    PE X (.DictComp kx vx [⟨tg, itr, [], 0⟩] sco ps0) (tPDc X.prog X.w X.K wi g tk tv (own.map (·.2))) := by
  refine ⟨fun pins s σ H Q I h => ?_⟩
  rw [arm_eval_DictComp]
  have fr : ∀ y ∈ sco.names, y.2 = .free → ∃ c, X.env.cells.lookup y.1 = some c := fun y hy e => (ok.free y hy e).elim (fun z => I.ok.has _ (.inl z)) fun z => I.ok.has _ (.inr z)
  refine wpAny_comprehension_free rfl fold (closure_ok fr) ok.kind (fun y hy e => by rw [ok.uniq y hy, e]) (thn (hi.run pins s σ H _ I h) fun _ sA turnsA => thn turnsA fun _ sB at_ => ?_)
  obtain ⟨it, fp, tn, J, HB, rfl, IB, T, stB, fB, q⟩ := at_
  refine wpAny_newObj_type (newEnv_comp ?_)
  generalize eD : sB.heap.objs.size = D
  have nD : HB D = none := IB.hok.fresh (Nat.le_of_eq eD)
  have sD : (D == sysModules) = false := by rw [← eD]; exact beq_eq_false_iff_ne.mpr (Ne.symm (Nat.ne_of_lt IB.big))
  obtain ⟨W, ⟨m0, w0⟩, turn⟩ := q D 0 nD sD
  generalize eC : ({ sB with heap := sB.heap.push { cls := .type "dict", data := .dict #[] } } : Shared) = sC
  have hC : sC.heap = sB.heap.push { cls := .type "dict", data := .dict #[] } := by rw [← eC]
  have IC : Inv X pins σ (upd HB D (PDO X.prog X.w D 0 [])) sC := by
    rw [← eC]
    refine IB.laid (t' := sB.toks) (fun _ _ => Heap.get?_push_of_some _) (Nat.le_of_eq eD) ?_
    rw [← eD]
    exact pd_new ⟨_, #[], Heap.get?_push_size _ rfl, ⟨rfl, rfl, rfl⟩, rfl, rfl⟩
  have small : ∀ b ∈ fp, b < sB.heap.objs.size := fun b hb => let ⟨_, e, _⟩ := T.obj _ _ stB b hb; Heap.lt_size e
  have fC : ∀ b ∈ fp, FpOk X pins (upd HB D (PDO X.prog X.w D 0 [])) b ∧ b < sC.heap.objs.size := fun b hb => by
    have lt := small b hb
    refine ⟨⟨?_, (fB b hb).2⟩, by rw [hC, Heap.size_push]; exact Nat.lt_succ_of_lt lt⟩
    rw [upd_ne fun z => Nat.ne_of_lt lt (z.trans eD.symm)]
    exact (fB b hb).1
  have stC : tn 0 sC.heap := T.keep _ _ _ stB fun b _ o e => by rw [hC]; exact Heap.get?_push_of_some _ e
  generalize eH : upd HB D (PDO X.prog X.w D 0 []) = HC at IC w0 fC
  have IE := block_start IC ok hN fC
  have pg := hg sC HC sC.heap.objs.size (cellsFrom (sC.heap.objs.size + 1) sco.names (cloFrom X.env.cells sco.names [])) fp
  have pk := hk sC HC sC.heap.objs.size (cellsFrom (sC.heap.objs.size + 1) sco.names (cloFrom X.env.cells sco.names [])) fp
  have pv := hv sC HC sC.heap.objs.size (cellsFrom (sC.heap.objs.size + 1) sco.names (cloFrom X.env.cells sco.names [])) fp
  show codeAny _ _ (.compStart _ 0 _ _ (compEnvC sco (cellsFrom (sC.heap.objs.size + 1) sco.names (cloFrom X.env.cells sco.names [])) sC.heap.objs.size X.env)) (compPost (model X.prog X.w) X.A X.xe none (EP X pins σ Q) (.ref D) sC.heap.objs.size) { sC with heap := pushCells (sC.heap.push { cls := .type "dict", data := .dict #[] }) sco.names }
  generalize eE : compEnvC sco (cellsFrom (sC.heap.objs.size + 1) sco.names (cloFrom X.env.cells sco.names [])) sC.heap.objs.size X.env = ce at pg pk pv IE ⊢
  have cL : ce.locals = sC.heap.objs.size := by rw [← eE]; rfl
  generalize eF : ({ sC with heap := pushCells (sC.heap.push { cls := .type "dict", data := .dict #[] }) sco.names } : Shared) = sE at IE ⊢
  have stE : tn 0 sE.heap := T.keep _ _ _ stC fun b _ o e => by rw [← eF]; exact pushCells_keeps _ _ _ _ (Heap.get?_push_of_some _ e)
  have apart : ∀ {τ : L2.St} {H' : Hp} {s' : Shared}, Inv (X.blk sC HC sco ce fp) [] τ H' s' → (∀ b ∈ fp, H' b = none) → ∀ b ∈ fp, FpOk (X.blk sC HC sco ce fp) [] H' b := fun I' hn b hb =>
    ⟨hn b hb, (I'.ok.exf b hb).1, I'.ok.exfs b hb, .inl hb, fun x c e => (I'.ok.exf b hb).2 x c e, fun p hp => nomatch hp⟩
  have lp : codeAny (model X.prog X.w) X.A (.compLoop (.DictComp kx vx [⟨tg, itr, [], 0⟩] sco ps0) 0 (.ref it) (.ref D) ce) (compPost (model X.prog X.w) X.A X.xe none (EP X pins σ Q) (.ref D) sC.heap.objs.size) sE := by
    refine L2.compLoop_anyD (fun n t => ∃ i Hn, Inv (X.blk sC HC sco ce fp) [] (wipe σ (own.map (·.2))) Hn t ∧ tn i t.heap ∧ (∀ b ∈ fp, Hn b = none) ∧ W i n Hn) ?_ m0 ⟨0, HC, IE, stE, fun b hb => (fC b hb).1.1, w0⟩
    rintro n t ⟨i, Hn, It, stt, fr0, wn⟩
    rcases turn i n Hn wn with ⟨stop, qe⟩ | ⟨go, N, hNx, step⟩
    · refine thnF (T.done (X.blk sC HC sco ce fp) rfl rfl rfl calm i [] t _ Hn (fun _ _ => False) It (apart It fr0) stt stop) fun r t' ⟨er, I'⟩ => ?_
      subst er
      have back : Inv X pins σ Hn t' := IC.call' (ch := fp) I'.os I'.base I'.hok I'.bare fun b hb => let z := (fC b hb).1.2; ⟨z.2.2.1, z.1, z.2.2.2.1, z.2.2.2.2⟩
      have fe : Hn ce.locals = none := I'.free
      obtain ⟨m, ns, _⟩ := I'.loc
      have ns : t'.heap.Ns ce.locals m := ns
      rw [cL] at fe ns
      obtain ⟨f0, f1, f2, f3, f4, f5⟩ := IC.fpOk (Nat.le_refl _) fe
      exact ⟨m, ns, fun h'' sb => ⟨.ref D, Hn, back.turned (t' := t'.toks) (fun b o hb e => (sb.2 b hb).trans e) f0 f1 f3 f4 f5, rfl, qe⟩⟩
    · refine thnF (T.item (X.blk sC HC sco ce fp) rfl rfl rfl calm i [] t _ Hn (fun _ _ => False) It (apart It fr0) stt go) fun r t1 ⟨u, er, nextT⟩ => ?_
      subst er
      refine thnF nextT fun _ t2 ⟨x, H2, I2, rx, yx, st2, n2⟩ => ?_
      refine thnF (pg.run _ t2 _ H2 x u _ (I2.pinned (apart I2 n2) (T.obj _ _ st2)) rx (step x H2 yx)) fun _ t3 ⟨τ, H3, I3, ew, q3⟩ => ?_
      refine thnF ((pts_nil (X := X.blk sC HC sco ce fp)).run _ t3 τ H3 (fun b H' => b = true ∧ H' = H3) I3 ⟨rfl, rfl⟩) fun b t4 ⟨H4, I4, eb, eh⟩ => ?_
      subst eb eh
      rw [if_pos rfl]
      refine thnF (pk.run _ t4 τ H4 _ I4 q3) fun kv t5 ⟨y, H5, I5, ry, q5⟩ => ?_
      refine thnF (pv.run _ t5 τ H5 _ I5 q5) fun zv t6 ⟨z, H6, I6, rz, ep, xs, b, k, A, ey, hk2, nx⟩ => ?_
      subst ey
      cases (show kv = Value.ref b from ry)
      refine pd_put1 (X := X.blk sC HC sco ce fp) hu I6 A hk2 fun ep' t7 I7 => ?_
      obtain ⟨m', lt, w'⟩ := hNx _ (nx ep' zv rz)
      have held : ∀ c ∈ fp, ∀ o, t2.heap.get? c = some o → t7.heap.get? c = some o ∧ upd H6 D (PDO X.prog X.w D ep' (storedH xs k b zv)) c = none := fun c hc o e =>
        let z := I7.pin (c, o) (List.mem_append_right _ (List.mem_append_right _ (mem_pinsAt hc e)))
        ⟨z.1, z.2.1⟩
      have len : (wipe σ (own.map (·.2))).length = τ.length := by rw [← ew, wipe_length]
      refine ⟨m', lt, i + 1, _, (I7.unpinned (pins := [])).weak len (fun j v e => ?_), T.keep _ _ _ st2 fun c hc o e => (held c hc o e).1, fun c hc => ?_, w'⟩
      · rw [← ew] at e
        exact (wipe_some e).1
      · obtain ⟨o, e, _⟩ := T.obj _ _ st2 c hc
        exact (held c hc o e).2
  exact codeAny_compStart_dict lp (T.self X.A 0 _ _ _ stE lp)
end
theorem pe_pdcK {X : Cx} (P : Program) (w : World) (K : PySem.W.Frag) {kx vx tg itr : Expr} {sco : Scope} {own : List (Str × Nat)} {ps0 : Pos} {wi : TI} {g : TG} {tk tv : TE} (hu : X.A.units < cLine) (calm : X.calm = true) (hN : X.N.Nodup) (hi : PI X tg itr wi) (ok : BlkOk X.N X.env.scope sco own)
    (hg : ∀ (s : Shared) (H : Hp) (C : Addr) (cl : List (Str × Addr)) (fp : List Addr), PG (X.blk s H sco (compEnvC sco cl C X.env) fp) tg g)
    (hk : ∀ (s : Shared) (H : Hp) (C : Addr) (cl : List (Str × Addr)) (fp : List Addr), PE (X.blk s H sco (compEnvC sco cl C X.env) fp) kx tk)
    (hv : ∀ (s : Shared) (H : Hp) (C : Addr) (cl : List (Str × Addr)) (fp : List Addr), PE (X.blk s H sco (compEnvC sco cl C X.env) fp) vx tv) (fold : ∀ x, foldedSetIterable itr X.env x = pure x := by intro _; rfl) (hP : X.prog = P := by rfl) (hw : X.w = w := by rfl) (hK : X.K = K := by rfl) :
    PE X (.DictComp kx vx [⟨tg, itr, [], 0⟩] sco ps0) (tPDc P w K wi g tk tv (own.map (·.2))) := by subst hP hw hK; exact pe_pdc hu calm hN hi ok hg hk hv fold
section
variable {K : PySem.W.Frag} {α : Type} {R : V → α → Prop} {H : Hp} {es : List PEt} {xs : List (KP × α)} {k : KP} {b : α}
theorem pe_keys (h : A2 (Pe K R H) es xs) : es.map (fun (x : PEt) => x.1) = xs.map fun y => kP y.1 := by
  induction h with
  | nil => rfl
  | cons h1 _ ih => rw [List.map_cons, List.map_cons, ih, h1.key]
theorem pe_nd (h : A2 (Pe K R H) es xs) (nd : (es.map fun (x : PEt) => x.1).Nodup) : (xs.map (·.1)).Nodup := by
  rw [pe_keys h] at nd
  exact List.pairwise_map.mpr ((List.pairwise_map.mp nd).imp fun h e => h (congrArg kP e))
theorem pkey_nd : ∀ {xs : List (KP × α)} {i : Nat}, (xs.map (·.1)).Nodup → xs[i]? = some (k, b) → pkey xs k = some b ∧ pkey (xs.take i) k = none
  | [], i, _, h => by simp at h
  | (k', b') :: r, 0, nd, h => by
    cases (Option.some.inj h : (k', b') = (k, b))
    refine ⟨?_, rfl⟩
    unfold pkey
    rw [List.find?_cons, decide_eq_true rfl]
    rfl
  | (k', b') :: r, i + 1, nd, h => by
    rw [List.map_cons, List.nodup_cons] at nd
    have h : r[i]? = some (k, b) := h
    have ne : k' ≠ k := fun e => nd.1 (List.mem_map.mpr ⟨(k, b), List.mem_of_getElem? h, e.symm⟩)
    obtain ⟨h1, h2⟩ := pkey_nd nd.2 h
    have step : ∀ l : List (KP × α), pkey ((k', b') :: l) k = pkey l k := fun l => by
      unfold pkey
      rw [List.find?_cons, decide_eq_false ne]
    exact ⟨(step r).trans h1, by rw [List.take_succ_cons]; exact (step _).trans h2⟩
end
section
variable {P : Program} {w : World} {K : PySem.W.Frag} {G : Cells K} {α : Type} {r : Rp α} {i j : Nat} {xs : List (KP × α)}
theorem nw_pdcopy {M : Mono (rPD P w K r)} (F : Frz K r) [Mono r] (h : G[j]? = some (some (.ro (rPD P w K r) M xs))) (ne : j ≠ i) (li : i < G.length) : Nw (npd P w K r) (tPDc P w K (iPKeys P w K (tVar j)) (gName i) (tVar i) (tPGet P w K (tVar j) (tVar i)) [i]) G xs := fun H0 σ H E Q kk => by
  obtain ⟨own, _, _, h3⟩ := E.at_
  obtain ⟨v, hv, _, p, ep, es, ev, hp0, hs, nd, q0, hz⟩ := h3 j _ h
  subst ev
  have hp : H p = some (PDO P w p ep es) := E.old _ _ hp0
  have q : A2 (Pe K (r H) H) es xs := q0.imp fun _ _ z => z.up (fun _ _ y => Mono.up E.old y) (ext_same E.old)
  have ndx := pe_nd q nd
  have lx : es.length = xs.length := q.len
  refine ⟨.ref p, hv, p, ep, es, rfl, pd_at hp hs nd q hz, fun D ep0 nD sD => ?_⟩
  have pD : p ≠ D := fun e => by rw [e, nD] at hp; cases hp
  refine ⟨fun i m Hb => m = es.length - i ∧ i ≤ es.length ∧ (∀ c, c ≠ D → Hb c = H c) ∧ ∃ ep2 fs, Hb D = some (PDO P w D ep2 fs) ∧ (fs.map fun (x : PEt) => x.1).Nodup ∧ A2 (Pe K (Stb K r Hb) Hb) fs (xs.take i),
    ⟨es.length, by simp, Nat.zero_le _, fun c hc => upd_ne hc, ep0, [], upd_same, List.nodup_nil, by rw [List.take_zero]; exact .nil⟩, ?_⟩
  rintro m n Hb ⟨rfl, hm, keep, ep2, fs, hD, ndf, qf⟩
  have up : Same H Hb := fun c o hc => by rw [keep c fun e => by rw [e, nD] at hc; cases hc]; exact hc
  have A : PdAt P w K Hb p ep es := pd_at (up _ _ hp) hs nd (q.imp fun _ _ z => z.up (R' := r Hb) (fun _ _ y => Mono.up up y) (ext_same up)) hz
  by_cases lt : m < es.length
  · refine .inr ⟨⟨A, lt⟩, fun H' => m + 1 ≤ es.length ∧ (∀ c, c ≠ D → H' c = H c) ∧ ∃ ep2 fs, H' D = some (PDO P w D ep2 fs) ∧ (fs.map fun (x : PEt) => x.1).Nodup ∧ A2 (Pe K (Stb K r H') H') fs (xs.take (m + 1)), fun H' ⟨z1, z2, z3⟩ => ⟨es.length - (m + 1), by omega, rfl, z1, z2, z3⟩, fun x Hc ⟨e1, k, a, u, hk, ex⟩ => ?_⟩
    subst e1 ex
    obtain ⟨⟨kx, bx⟩, hx, pe⟩ := q.get hk
    obtain ⟨e1, e2⟩ := pkey_nd ndx hx
    have ek : k = kP kx := pe.key
    subst ek
    have ha : SqT K Hc a ((kP kx).map pkV) := ext_same up _ _ pe.at_
    have si : ((wipe σ [i]).set i (some (V.ref a)))[i]? = some (some (V.ref a)) := List.getElem?_set_self (by rw [wipe_length, E.len]; exact li)
    have sj : ((wipe σ [i]).set i (some (V.ref a)))[j]? = some (some (V.ref p)) := by
      rw [List.getElem?_set_ne (Ne.symm ne)]
      show (σ.set i none)[j]? = _
      rw [List.getElem?_set_ne (Ne.symm ne)]
      exact hv
    refine ⟨wipe_set (List.mem_singleton.mpr rfl), .ref a, si, .ref p, sj, .ref a, si, p, ep, es, a, kP kx, rfl, A, rfl, ha, ?_⟩
    rcases pe_at q kx with ⟨p', b', v', e5, e6, hq, rv⟩ | ⟨e5, e6⟩
    · rw [e1] at e6
      cases e6
      refine ⟨p', v', e5, rv, ep2, fs, a, kP kx, pd_at hD sD ndf qf (by rw [List.length_take]; omega), rfl, ha, fun ep' u' ru => ⟨lt, fun c hc => (upd_ne hc).trans (keep c hc), ep', _, upd_same, nd_put ndf, ?_⟩⟩
      have x0 : ExT K Hc (upd Hc D (PDO P w D ep' (storedH fs (kP kx) a u'))) := ext_upd hD fun z => z
      have e7 : xs.take (m + 1) = pput (xs.take m) kx bx := by
        unfold pput
        rw [e2, if_neg (fun z => nomatch z), List.take_add_one, hx]
        rfl
      rw [e7]
      exact pe_put (qf.imp fun _ _ z => z.up (fun _ _ y => y.up x0) x0) pe.ok (x0 _ _ ha) ((stb (F.up (ext_same up) hq)).up x0) ru
    · rw [e1] at e6
      cases e6
  · have em : m = es.length := by omega
    refine .inl ⟨⟨A, by omega⟩, kk _ Hb [D] up (fun c hc => by rw [List.mem_singleton.mp hc]; exact nD) ⟨D, ep2, fs, rfl, rfl, hD, sD, ndf, ?_⟩⟩
    rw [em, lx, List.take_length] at qf
    exact qf
end
end Gt
namespace Gt
open PySem PySem.Spec PyProof.Rows L2
/-- this very value, that is so -/
def rVal {α : Type} (v0 : V) (r : Rp α) : Rp α := fun H v x => v = v0 ∧ r H v x
instance {α : Type} {v0 : V} {r : Rp α} [M : Mono r] : Mono (rVal v0 r) := ⟨fun e ⟨h, z⟩ => ⟨h, M.up e z⟩⟩
/-- what was handed, or a new thing -/
def nAl (K : PySem.W.Frag) {ρ : Type} (R : Rs K ρ) (v0 : V) (x0 : ρ) : Rs K ρ where
  rep := fun H v x as => (v = v0 ∧ x = x0 ∧ as = []) ∨ R.rep H v x as
  stay := fun {H H' v x as} h e k => h.imp id fun z => R.stay z e k
  there := fun {H v x as} h p hp => h.elim (fun z => by rw [z.2.2] at hp; cases hp) fun z => R.there z p hp
def spMNA {K : PySem.W.Frag} {α ρ : Type} (A : Ra α) (R : Rs K ρ) (j : Nat) (x0 : α → ρ) (m : α → M ρ) : Sp := fun vs H Q _ => ∃ a z v0, A H vs a ∧ vs[j]? = some v0 ∧ m a = .ok z ∧ ∀ w H' as, Same H H' → (∀ p, p ∈ as → H p = none) → (nAl K R v0 (x0 a)).rep H' w z as → Q w H'
theorem spMNA_len {K : PySem.W.Frag} {α ρ : Type} {A : Ra α} {R : Rs K ρ} {j : Nat} {x0 : α → ρ} {m : α → M ρ} {n : Nat} [L : LenA A n] {vs : List V} {H : Hp} {Q : VK} {E : XK} (h : spMNA A R j x0 m vs H Q E) : vs.length = n := by
  obtain ⟨a, z, v0, hA, _⟩ := h
  exact L.len hA
section
variable {K : PySem.W.Frag} {H0 : Hp} {G : Cells K} {α β γ ρ : Type} {D : Ends} {u : TS} {t0 te : TE} {i n : Nat}
theorem a_roV {v0 : V} {r : Rp α} {x : α} {M : Mono (rVal v0 r)} (h : G[i]? = some (some (.ro (rVal v0 r) M x))) : Ev r (tVar i) G x := fun H1 σ H E Q k => a_ro h H1 σ H E Q fun v H' e z => k v H' e z.2
theorem rt_new {R : Rs K ρ} {v0 : V} {x0 x : ρ} (h : RtOk (nAl K R v0 x0) H0 x D) : RtOk R H0 x D := fun v H ⟨as, s, n, z⟩ => h v H ⟨as, s, n, .inr z⟩
theorem r_retAl {R : Rs K ρ} {r : Rp ρ} {v0 : V} {x0 : ρ} {M : Mono (rVal v0 r)} (hD : RtOk (nAl K R v0 x0) H0 x0 D) (hi : G[i]? = some (some (.ro (rVal v0 r) M x0))) : Sv H0 G (tRet (tVar i)) D := fun σ H ⟨H1, e, E⟩ =>
  a_ro hi H1 σ H E _ fun v H' e' z => hD v H' ⟨[], (e.trans E.old).trans e', (fun p hp => nomatch hp), .inl ⟨z.1, rfl, rfl⟩⟩
theorem rg_al2 {q0 : Rp α} {r : Rp ρ} {R : Rs K ρ} {a0 : α} {x0 z : ρ} {m : α × ρ × Unit → M ρ} {E' : XK} {Mr : Mono r} (h0 : Ev q0 t0 G a0) (M0 : Mono q0) (hi : G[i]? = some (some (.ro r Mr x0))) (e : MOk m (a0, x0, ()) z) (vw : ∀ H v as, R.rep H v z as → r H v z) :
    Rg r (tCall (spMNA (aC q0 (aC r aN)) R 1 (fun a => a.2.1) m) [] E' (tCons t0 (tCons (tVar i) tNil))) G z := fun H1 σ H E Q c => by
  obtain ⟨own, _, _, h3⟩ := E.at_
  obtain ⟨v0, hv0, hq, hr⟩ := h3 i _ hi
  refine h0 H1 σ H E _ fun y Ha ea hy => ⟨v0, hv0, ?_⟩
  refine ⟨(a0, x0, ()), z, v0, ⟨y, [v0], rfl, hy, v0, [], rfl, Mr.up (E.old.trans ea) hr, rfl⟩, rfl, e, fun w H' as s n rep => c w H' (ea.trans s) fun H2 g => ?_⟩
  rcases rep with ⟨ew, ez, _⟩ | rep
  · rw [ew, ez]
    exact Mr.up g.low hr
  · exact vw _ _ as (R.stay rep g.ext fun p hp o ho => g.new p o (free_back ea (n p hp)) ho)
end
section
variable {P : Program} {w : World} {K : PySem.W.Frag} {mg : Str → Option Value} {base : Heap} {q : Str} {st : Stmt} {m k : Nat} {C : Addr} {ps N : List Str} {sp : Sp}
/-- __call__ of the class at C -/
theorem calO_of (F : DfE K C "__call__" q st m) (S : FnScope N ps (defScope st)) (len : ∀ vs H Q E, sp vs H Q E → vs.length = ps.length) (b : BindE "__call__" q st ps m)
    (hbody : ∀ (cdv : Value) (f : Addr) (A : Around) (outer : List PySem.Env) (s : Shared) (H : Hp) (vs : List V) (Q : VK) (E : XK), Room k (A.deeper (envOfC q (defScope st) s.heap.objs.size f cdv)) → sp vs H Q E →
      ∃ t, PSs (cxOf CX0 P w K mg base N q (defScope st) f cdv A outer s H E).nox (defBody st) t ∧ t { nx := fun _ H' => Q .non H', rt := Q } (start N vs) H) : CalO P w K mg base CX0 C (k + 1) ps sp := by
  obtain ⟨f, fd, F, h1, h2⟩ := F.ex
  refine ⟨f, fd, F.ok S len fun cdv A outer s H vs Q E hr h => (hbody cdv f A outer s H vs Q E hr h).imp fun t h => ⟨h.1.nox, h.2⟩, ⟨h1, h2, F.kp⟩, F.binds b, ?_⟩
  obtain ⟨oc, od, dV, kV, doc, pm, an, cdv, ct, osl, rfl, lk, hcd, _⟩ := F.ex
  unfold PySem.W.fnIn
  rw [lk]
end
end Gt
namespace Gt
open PySem PySem.Spec PyProof.Rows L2
noncomputable def m_advance (stack1 : (List Str)) (table2 : (List (KP × (List Str)))) (token3 : Str) : M ((List (Str × (List Str))) × (Option (List Str)) × Unit) := mb (.ok ([] : (List (Str × (List Str))))) fun run4 => mb (.ok stack1) fun rest5 => mb (mwhileF (fun (s6 : ((List (Str × (List Str))) × (List Str))) => .ok (!s6.2.isEmpty)) (fun (s6 : ((List (Str × (List Str))) × (List Str))) => mb (oM (atI s6.2 (0 : Int))) fun t9 => bif (decide (t9 = token3)) then .ok (.rt (s6.1, some (cut s6.2 (some (1 : Int)) none), ())) else mb (.ok ((pkey table2 (t9, some token3)).or (pkey table2 (t9, (none : (Option Str)))))) fun side10 => bif (isNone' side10) then .ok (.rt (s6.1, (none : (Option (List Str))), ())) else mb (oM side10) fun z11 => mb (chk (decide (s6.1.length < 100000))) fun _ => mb (.ok (s6.1 ++ [(t9, z11)])) fun run13 => mb (chk (decide (z11.length + (cut s6.2 (some (1 : Int)) none).length ≤ 100000))) fun _ => mb (.ok (z11 ++ (cut s6.2 (some (1 : Int)) none))) fun rest15 => .ok (.nx (run13, rest15))) fuel (run4, rest5) : M (Fl ((List (Str × (List Str))) × (List Str)) ((List (Str × (List Str))) × (Option (List Str)) × Unit))) fun o8 => Fl.go o8 (fun (s6 : ((List (Str × (List Str))) × (List Str))) => .ok (s6.1, (none : (Option (List Str))), ())) (fun x => .ok x) (fun _ => .error .stuck)
noncomputable def m_finish (stack1 : (List Str)) (table2 : (List (KP × (List Str)))) : M (Option (List (Str × (List Str)))) := mb (.ok ([] : (List (Str × (List Str))))) fun run3 => mb (.ok stack1) fun rest4 => mb (mwhileF (fun (s5 : ((List (Str × (List Str))) × (List Str))) => .ok (!s5.2.isEmpty)) (fun (s5 : ((List (Str × (List Str))) × (List Str))) => mb (oM (atI s5.2 (0 : Int))) fun t8 => bif (!((pkey table2 (t8, (none : (Option Str)))).isSome)) then .ok (.rt (none : (Option (List (Str × (List Str)))))) else mb (oM (pkey table2 (t8, (none : (Option Str))))) fun t9 => mb (chk (decide (s5.1.length < 100000))) fun _ => mb (.ok (s5.1 ++ [(t8, t9)])) fun run11 => mb (chk (decide (t9.length + (cut s5.2 (some (1 : Int)) none).length ≤ 100000))) fun _ => mb (.ok (t9 ++ (cut s5.2 (some (1 : Int)) none))) fun rest13 => .ok (.nx (run11, rest13))) fuel (run3, rest4) : M (Fl ((List (Str × (List Str))) × (List Str)) (Option (List (Str × (List Str)))))) fun o7 => Fl.go o7 (fun (s5 : ((List (Str × (List Str))) × (List Str))) => .ok (some s5.1)) (fun x => .ok x) (fun _ => .error .stuck)
noncomputable def m_read (start1 : Str) (table2 : (List (KP × (List Str)))) (text3 : (List Str)) : M ((List (Str × (List Str))) × Int × (List Str) × Unit) := mb (.ok ([] : (List (Str × (List Str))))) fun run4 => mb (.ok [start1]) fun stack5 => mb (chk (decide (-100000 ≤ (text3.length : Int) ∧ (text3.length : Int) ≤ 100000))) fun _ => mb (mforF (fun (s7 : ((List (Str × (List Str))) × (List Str))) (x8 : Int) => mb (oM (atI text3 x8)) fun t10 => mb (m_advance s7.2 table2 t10) fun t11 => bif (isNone' t11.2.1) then .ok (.rt (s7.1, x8, s7.2, ())) else mb (chk (decide (s7.1.length + t11.1.length ≤ 100000))) fun _ => mb (.ok (s7.1 ++ t11.1)) fun run13 => mb (oM t11.2.1) fun z14 => .ok (.nx (run13, z14))) (run4, stack5) (ups (text3.length : Int).toNat) : M (Fl ((List (Str × (List Str))) × (List Str)) ((List (Str × (List Str))) × Int × (List Str) × Unit))) fun o9 => Fl.go o9 (fun (s7 : ((List (Str × (List Str))) × (List Str))) => .ok (s7.1, (text3.length : Int), s7.2, ())) (fun x => .ok x) (fun _ => .error .stuck)
noncomputable def m_Reader___init__ (start2 : Str) (table3 : (List (KP × (List Str)))) : M (((Unit × Str) × (List (KP × (List Str))))) := .ok (((), start2), table3)
noncomputable def m_Reader___call__ (self1 : (((Unit × Str) × (List (KP × (List Str)))))) (text2 : (List Str)) : M (List (Str × (List Str))) := mb (chk (decide (self1.2.length ≤ 100000))) fun _ => mb (m_read self1.1.2 self1.2 text2) fun t4 => bif (decide (t4.2.1 < (text2.length : Int))) then .error .stuck else mb (m_finish t4.2.2.1 self1.2) fun t5 => bif (isNone' t5) then .error .stuck else mb (oM t5) fun z6 => mb (chk (decide (t4.1.length + z6.length ≤ 100000))) fun _ => .ok (t4.1 ++ z6)
noncomputable def m__law_cell (script1 : (List Int)) (k2 : Int) : M Int := mb (bif (decide (k2 < (script1.length : Int))) then mb (oM (atI script1 k2)) fun t3 => .ok t3 else .ok (0 : Int)) fun c4 => .ok c4
noncomputable def m__law_draws (cellhere1 : Int) (many2 : Int) : M (List Int) := mb (.ok (cellhere1 * (b2 (decide (((10 : Int) ^ ((18 : Int)).toNat) ≤ cellhere1))))) fun rest3 => mb (.ok ([] : (List Int))) fun row4 => mb (chk (decide (-100000 ≤ many2 ∧ many2 ≤ 100000))) fun _ => mb (mfor (fun (s6 : (Int × (List Int))) (x7 : Int) => bif (decide ((0 : Int) < s6.1)) then mb (chk (decide (s6.2.length < 100000))) fun _ => mb (.ok (s6.2 ++ [s6.1 % (840 : Int)])) fun row10 => mb (.ok (s6.1 / (840 : Int))) fun rest11 => .ok (rest11, row10) else mb (.ok ((((cellhere1 * (48271 : Int)) + (x7 * (6961 : Int))) + (1013 : Int)) % (1000003 : Int))) fun mixed12 => mb (chk (decide (CMul mixed12 mixed12))) fun _ => mb (.ok ((((mixed12 * mixed12) + ((11 : Int) * mixed12)) + x7) % (999983 : Int))) fun mixed14 => mb (chk (decide (CMul mixed14 mixed14))) fun _ => mb (chk (decide (s6.2.length < 100000))) fun _ => mb (.ok (s6.2 ++ [(((mixed14 * mixed14) + ((3 : Int) * mixed14)) % (99991 : Int)) % (840 : Int)])) fun row17 => .ok (s6.1, row17)) (rest3, row4) (ups many2.toNat)) fun s8 => .ok s8.2
noncomputable def m__law_name (k1 : Int) (style2 : Int) (capital3 : Bool) : M Str := mb (oM (atI ([("abcdefgh" : Str), ("hgfedcba" : Str), ("dbgahcfe" : Str)]) (style2 % (3 : Int)))) fun t4 => mb (oM (atI (chs t4) k1)) fun t5 => mb (chk (decide (("t" : Str).length + t5.length ≤ 100000))) fun _ => mb (chk (decide (t5.length + ("7Q" : Str).length ≤ 100000))) fun _ => mb (chk (decide (0 ≤ ((1 : Int) + (k1 % (3 : Int))) ∧ ((1 : Int) + (k1 % (3 : Int))) ≤ 1000))) fun _ => mb (chk (decide (t5.length ≤ 50))) fun _ => mb (chk (decide (("k3" : Str).length + (repS t5 ((1 : Int) + (k1 % (3 : Int)))).length ≤ 100000))) fun _ => mb (oM (atI ([t5, ("t" : Str) ++ t5, t5 ++ ("7Q" : Str), ("k3" : Str) ++ (repS t5 ((1 : Int) + (k1 % (3 : Int))))]) ((style2 / (3 : Int)) % (4 : Int)))) fun t11 => mb (bif capital3 then mb (oM (atI (chs t11) (0 : Int))) fun t12 => mb (chk (decide (okS (Txt.upper t12)))) fun _ => mb (chk (decide ((Txt.upper t12).length + (cutS t11 (some (1 : Int)) none).length ≤ 100000))) fun _ => .ok ((Txt.upper t12) ++ (cutS t11 (some (1 : Int)) none)) else .ok t11) fun c15 => .ok c15
noncomputable def m__law_is_token (sign1 : Str) : M Bool := mb (chk (decide ((("." : Str).length == 0) = false))) fun _ => mb (chk (decide (sign1.length ≤ 1000))) fun _ => mb (chk (decide (∀ x ∈ Txt.split sign1 ("." : Str), okS x))) fun _ => mb (oM (atI (Txt.split sign1 ("." : Str)) (-(1 : Int)))) fun t5 => mb (oM (atI (chs t5) (0 : Int))) fun t6 => mb (oM (sgn t6)) fun t7 => .ok (decide (t7 ∈ ("abcdefghijklmnopqrstuvwxyz" : Str).cps.toList))
noncomputable def m__law_put (row1 : (List Str)) (more2 : (List Str)) : M ((List Str) × Bool) := mb (.ok false) fun grown3 => mb (mfor (fun (s4 : ((List Str) × Bool)) (x5 : Str) => bif (!(decide (x5 ∈ s4.1))) then mb (chk (decide (s4.1.length < 100000))) fun _ => mb (.ok true) fun grown8 => .ok (s4.1 ++ [x5], grown8) else .ok (s4.1, s4.2)) (row1, grown3) more2) fun s6 => .ok (s6.1, s6.2)
noncomputable def m__law_empty (side1 : (List Str)) (setshere2 : ((List Str) × (List (Str × (List Str))) × (List (Str × (List Str))))) : M Bool := mb (chk (decide (side1.length ≤ 100000))) fun _ => .ok (decide ((((side1.filter (fun (y3 : Str) => (!(decide (y3 ∈ setshere2.1))))).map (fun (y3 : Str) => y3)).length : Int) = (0 : Int)))
noncomputable def m__law_first (side1 : (List Str)) (setshere2 : ((List Str) × (List (Str × (List Str))) × (List (Str × (List Str))))) : M (List Str) := mb (.ok ([] : (List Str))) fun found3 => mb (mforF (fun (s4 : (List Str)) (x5 : Str) => mb (m__law_is_token x5) fun t7 => bif t7 then mb (m__law_put s4 [x5]) fun w8 => .ok (.rt w8.1) else mb (oM (dkey setshere2.2.1 x5)) fun t9 => mb (m__law_put s4 t9) fun w10 => bif (!(decide (x5 ∈ setshere2.1))) then .ok (.rt w10.1) else .ok (.nx w10.1)) found3 side1 : M (Fl (List Str) (List Str))) fun o6 => Fl.go o6 (fun (s4 : (List Str)) => .ok s4) (fun x => .ok x) (fun _ => .error .stuck)
noncomputable def m__law_sets (rules1 : (List (Str × (List Str)))) : M ((List Str) × (List (Str × (List Str))) × (List (Str × (List Str)))) := mb (.ok (([] : (List Str)), ([] : (List (Str × (List Str)))), ([] : (List (Str × (List Str)))))) fun setshere2 => mb (mfor (fun (s3 : ((List Str) × (List (Str × (List Str))) × (List (Str × (List Str))))) (x4 : (Str × (List Str))) => mb (chk (decide (s3.2.1.length < 100000))) fun _ => mb (chk (decide (((s3.1, dput s3.2.1 x4.1 ([] : (List Str)), s3.2.2).2.2).length < 100000))) fun _ => .ok ((s3.1, dput s3.2.1 x4.1 ([] : (List Str)), s3.2.2).1, (s3.1, dput s3.2.1 x4.1 ([] : (List Str)), s3.2.2).2.1, dput ((s3.1, dput s3.2.1 x4.1 ([] : (List Str)), s3.2.2).2.2) x4.1 ([] : (List Str)))) setshere2 rules1) fun s5 => mb (mforF (fun (s8 : ((List Str) × (List (Str × (List Str))) × (List (Str × (List Str))))) (x9 : Int) => mb (.ok false) fun grown11 => mb (mfor (fun (s12 : (((List Str) × (List (Str × (List Str))) × (List (Str × (List Str)))) × Bool)) (x13 : (Str × (List Str))) => mb (m__law_empty x13.2 s12.1) fun t15 => mb (bif t15 then mb (m__law_put s12.1.1 [x13.1]) fun w17 => .ok ((w17.1, s12.1.2), (w17.2 || s12.2)) else .ok (s12.1, s12.2)) fun (s16 : (((List Str) × (List (Str × (List Str))) × (List (Str × (List Str)))) × Bool)) => mb (oM (dkey s16.1.2.1 x13.1)) fun t18 => mb (m__law_first x13.2 s16.1) fun t19 => mb (m__law_put t18 t19) fun w20 => mb (oM (dkey ((s16.1.1, dput s16.1.2.1 x13.1 w20.1, s16.1.2.2).2.2) x13.1)) fun t21 => mb (chk (decide (-100000 ≤ (x13.2.length : Int) ∧ (x13.2.length : Int) ≤ 100000))) fun _ => mb (mfor (fun (s23 : (((List Str) × (List (Str × (List Str))) × (List (Str × (List Str)))) × Bool × (List Str))) (x24 : Int) => mb (oM (atI x13.2 (((x13.2.length : Int) - (1 : Int)) - x24))) fun t26 => mb (m__law_is_token t26) fun t27 => bif t27 then mb (.ok [t26]) fun after28 => .ok (s23.1, s23.2.1, after28) else mb (oM (dkey s23.1.2.2 t26)) fun t29 => mb (m__law_put t29 s23.2.2) fun w30 => mb (oM (dkey ((s23.1.1, s23.1.2.1, dput s23.1.2.2 t26 w30.1).2.1) t26)) fun t31 => mb (chk (decide (s23.2.2.length ≤ 100000))) fun _ => mb (chk (decide (t31.length + ((s23.2.2.filter (fun (y32 : Str) => (decide (t26 ∈ ((s23.1.1, s23.1.2.1, dput s23.1.2.2 t26 w30.1).1))))).map (fun (y32 : Str) => y32)).length ≤ 100000))) fun _ => mb (.ok (t31 ++ ((s23.2.2.filter (fun (y32 : Str) => (decide (t26 ∈ ((s23.1.1, s23.1.2.1, dput s23.1.2.2 t26 w30.1).1))))).map (fun (y32 : Str) => y32)))) fun after35 => .ok ((s23.1.1, s23.1.2.1, dput s23.1.2.2 t26 w30.1), (w30.2 || s23.2.1), after35)) ((s16.1.1, dput s16.1.2.1 x13.1 w20.1, s16.1.2.2), (w20.2 || s16.2), t21) (ups (x13.2.length : Int).toNat)) fun s25 => .ok (s25.1, s25.2.1)) (s8, grown11) rules1) fun s14 => bif (!s14.2) then .ok (.bk s14.1) else .ok (.nx s14.1)) s5 (ups (120 : Int).toNat) : M (Fl ((List Str) × (List (Str × (List Str))) × (List (Str × (List Str)))) ((List Str) × (List (Str × (List Str))) × (List (Str × (List Str)))))) fun o10 => Fl.go o10 (fun (s8 : ((List Str) × (List (Str × (List Str))) × (List (Str × (List Str))))) => .ok s8) (fun x => .ok x) (fun _ => .error .stuck)
noncomputable def m__law_meet (head1 : Str) (one2 : (List Str)) (other3 : (List Str)) (setshere4 : ((List Str) × (List (Str × (List Str))) × (List (Str × (List Str))))) : M Bool := mb (.ok ([] : (List (List Str)))) fun rows5 => mb (mfor (fun (s6 : (List (List Str))) (x7 : (List Str)) => mb (m__law_first x7 setshere4) fun t9 => mb (m__law_empty x7 setshere4) fun t10 => mb (bif t10 then mb (oM (dkey setshere4.2.2 head1)) fun t12 => mb (chk (decide (t9.length + t12.length ≤ 100000))) fun _ => mb (chk (decide ((t9 ++ t12).length + ([("" : Str)]).length ≤ 100000))) fun _ => mb (.ok ((t9 ++ t12) ++ ([("" : Str)]))) fun row15 => .ok row15 else .ok t9) fun (s11 : (List Str)) => mb (chk (decide (s6.length < 100000))) fun _ => .ok (s6 ++ [s11])) rows5 ([one2, other3])) fun s8 => mb (oM (atI s8 (0 : Int))) fun t17 => mb (chk (decide (t17.length ≤ 100000))) fun _ => mb (mlc (fun (y18 : Str) => mb (oM (atI s8 (1 : Int))) fun t19 => .ok (decide (y18 ∈ t19))) (fun (y18 : Str) => .ok y18) t17) fun zs21 => .ok (decide ((0 : Int) < (zs21.length : Int)))
noncomputable def m__law_clashes (rules1 : (List (Str × (List Str)))) : M Bool := mb (m__law_sets rules1) fun t2 => mb (chk (decide (-100000 ≤ (rules1.length : Int) ∧ (rules1.length : Int) ≤ 100000))) fun _ => mb (mforF (fun (s4 : Unit) (x5 : Int) => mb (mforF (fun (s7 : Unit) (x8 : (Str × (List Str))) => mb (oM (atI rules1 x5)) fun t10 => mb (mand (decide (x8.1 = t10.1)) (mb (m__law_meet x8.1 t10.2 x8.2 t2) fun t11 => .ok t11)) fun c12 => bif c12 then .ok (.rt true) else .ok (.nx ())) () (cut rules1 (some (x5 + (1 : Int))) none) : M (Fl Unit Bool)) fun o9 => Fl.go o9 (fun (s7 : Unit) => .ok (.nx ())) (fun x => .ok (.rt x)) (fun _ => .error .stuck)) () (ups (rules1.length : Int).toNat) : M (Fl Unit Bool)) fun o6 => Fl.go o6 (fun (s4 : Unit) => .ok false) (fun x => .ok x) (fun _ => .error .stuck)
noncomputable def m__law_offers (drawshere1 : (List Int)) (n2 : Int) (headshere3 : (List Str)) (tokenshere4 : (List Str)) (offered5 : (List Int)) : M (List (List (List Str))) := mb (chk (decide (-100000 ≤ n2 ∧ n2 ≤ 100000))) fun _ => mb (mlc (fun _ => .ok true) (fun (y7 : Int) => mb (oM (atI drawshere1 ((2 : Int) + y7))) fun t8 => mb (oM (atI tokenshere4 (t8 % (6 : Int)))) fun t9 => .ok [[t9]]) (ups n2.toNat)) fun zs10 => mb (chk (decide (-100000 ≤ (1 : Int) ∧ (1 : Int) ≤ 100000 ∧ -100000 ≤ n2 ∧ n2 ≤ 100000))) fun _ => mb (mfor (fun (s12 : (List (List (List Str)))) (x13 : Int) => mb (oM (atI drawshere1 ((6 : Int) + x13))) fun t15 => mb (chk (decide (0 < x13))) fun _ => mb (oM (ixN s12.length (t15 % x13))) fun j17 => mb (oM (s12[j17]?)) fun x18 => mb (oM (atI x18 (0 : Int))) fun t20 => mb (oM (atI headshere3 x13)) fun t21 => mb (chk (decide (t20.length + [t21].length ≤ 100000))) fun _ => mb (oM (ixN x18.length (0 : Int))) fun j23 => bif (decide (((t15 / (4 : Int)) % (2 : Int)) = (1 : Int))) then mb (oM (atI (x18.set j23 (t20 ++ [t21])) (0 : Int))) fun t25 => mb (oM (atI drawshere1 ((10 : Int) + x13))) fun t26 => mb (oM (atI tokenshere4 (t26 % (6 : Int)))) fun t27 => mb (chk (decide (t25.length + [t27].length ≤ 100000))) fun _ => mb (oM (ixN (x18.set j23 (t20 ++ [t21])).length (0 : Int))) fun j29 => .ok (((s12).set j17 (x18.set j23 (t20 ++ [t21]))).set j17 ((x18.set j23 (t20 ++ [t21])).set j29 (t25 ++ [t27]))) else .ok ((s12).set j17 (x18.set j23 (t20 ++ [t21])))) zs10 (upsFrom (1 : Int) (n2 - (1 : Int)).toNat)) fun s14 => mb (oM (atI drawshere1 (14 : Int))) fun t31 => mb (chk (decide (-100000 ≤ (t31 % (7 : Int)) ∧ (t31 % (7 : Int)) ≤ 100000))) fun _ => mb (mfor (fun (s33 : (List (List (List Str)))) (x34 : Int) => mb (oM (atI drawshere1 ((15 : Int) + ((5 : Int) * x34)))) fun t36 => mb (chk (decide (0 < n2))) fun _ => mb (.ok (t36 % n2)) fun place38 => mb (.ok ((t36 / (4 : Int)) % (5 : Int))) fun kind39 => mb (oM (atI drawshere1 ((16 : Int) + ((5 : Int) * x34)))) fun t40 => mb (.ok ([] : (List Str))) fun side41 => mb (bif ((decide (kind39 = (1 : Int))) && (decide ((place38 + (1 : Int)) < n2))) then mb (chk (decide (0 < ((n2 - place38) - (1 : Int))))) fun _ => mb (oM (atI headshere3 ((place38 + (1 : Int)) + ((t40 / (4 : Int)) % ((n2 - place38) - (1 : Int)))))) fun t44 => mb (.ok [t44]) fun side45 => .ok side45 else bif (decide ((0 : Int) < kind39)) then mb (oM (atI tokenshere4 ((t40 / (4 : Int)) % (6 : Int)))) fun t46 => mb (.ok [t46]) fun side47 => .ok side47 else .ok side41) fun (s42 : (List Str)) => mb (mfor (fun (s48 : ((List (List (List Str))) × (List Str))) (x49 : Int) => mb (oM (atI ([tokenshere4, headshere3]) (x49 % (2 : Int)))) fun t51 => mb (chk (decide (0 < (t51.length : Int)))) fun _ => mb (oM (atI t51 ((x49 / (2 : Int)) % (t51.length : Int)))) fun t53 => mb (chk (decide (s48.2.length + [t53].length ≤ 100000))) fun _ => mb (.ok (s48.2 ++ [t53])) fun side55 => .ok (s48.1, side55)) (s33, s42) (cut drawshere1 (some ((17 : Int) + ((5 : Int) * x34))) (some (((17 : Int) + ((5 : Int) * x34)) + ((t40 % (4 : Int)) * (b2 (decide ((0 : Int) < kind39)))))))) fun s50 => mb (oM (atI offered5 x34)) fun t56 => bif (decide (t56 = (1 : Int))) then mb (oM (ixN s50.1.length place38)) fun j57 => mb (oM (s50.1[j57]?)) fun x58 => mb (chk (decide (x58.length < 100000))) fun _ => .ok ((s50.1).set j57 (x58 ++ [s50.2])) else .ok s50.1) s14 (ups (t31 % (7 : Int)).toNat)) fun s35 => .ok s35
noncomputable def m__law_host (drawshere1 : (List Int)) (most2 : Int) (offered3 : (List Int)) : M (List (Str × (List Str))) := mb (oM (atI drawshere1 (1 : Int))) fun t4 => mb (chk (decide (0 < most2))) fun _ => mb (.ok ((1 : Int) + (t4 % most2))) fun n6 => mb (chk (decide (-100000 ≤ n6 ∧ n6 ≤ 100000))) fun _ => mb (mlc (fun (y8 : Int) => .ok true) (fun (y8 : Int) => mb (oM (atI drawshere1 (0 : Int))) fun t9 => mb (m__law_name y8 t9 true) fun t10 => .ok t10) (ups n6.toNat)) fun zs11 => mb (mlc (fun (y12 : Int) => .ok true) (fun (y12 : Int) => mb (oM (atI drawshere1 (0 : Int))) fun t13 => mb (m__law_name y12 (t13 / (12 : Int)) false) fun t14 => .ok t14) (ups (6 : Int).toNat)) fun zs15 => mb (m__law_offers drawshere1 n6 zs11 zs15 offered3) fun t16 => mb (.ok ([] : (List (Str × (List Str))))) fun rules17 => mb (mfor (fun (s18 : (List (Str × (List Str)))) (x19 : Int) => mb (oM (atI t16 x19)) fun t21 => mb (chk (decide (t21.length ≤ 100000))) fun _ => mb (mlc (fun (y22 : (List Str)) => .ok true) (fun (y22 : (List Str)) => mb (oM (atI zs11 x19)) fun t23 => .ok (t23, y22)) t21) fun zs25 => mb (chk (decide (s18.length + zs25.length ≤ 100000))) fun _ => mb (.ok (s18 ++ zs25)) fun rules27 => .ok rules27) rules17 (ups n6.toNat)) fun s20 => mb (m__law_sets s20) fun t28 => mb (.ok ([] : (List (Str × (List Str))))) fun kept29 => mb (mfor (fun (s30 : (List (Str × (List Str)))) (x31 : (Str × (List Str))) => mb (chk (decide (s30.length ≤ 100000))) fun _ => mb (.ok ((s30.filter (fun (y33 : (Str × (List Str))) => (decide (y33.1 = x31.1)))).map (fun (y33 : (Str × (List Str))) => y33.2))) fun same35 => mb (chk (decide (same35.length ≤ 100000))) fun _ => mb (mlc (fun (y36 : (List Str)) => mb (mor (eqB y36 x31.2) (mb (m__law_meet x31.1 y36 x31.2 t28) fun t37 => .ok t37)) fun c38 => .ok c38) (fun (y36 : (List Str)) => .ok y36) same35) fun zs40 => bif (decide ((zs40.length : Int) = (0 : Int))) then mb (chk (decide (s30.length < 100000))) fun _ => mb (.ok (s30 ++ [(x31.1, x31.2)])) fun kept42 => .ok kept42 else .ok s30) kept29 s20) fun s32 => .ok s32
noncomputable def m__law_heads (rules1 : (List (Str × (List Str)))) : M (List Str) := mb (.ok ([] : (List Str))) fun headshere2 => mb (mfor (fun (s3 : (List Str)) (x4 : (Str × (List Str))) => mb (oM (sgn ("." : Str))) fun t6 => bif ((!(decide (t6 ∈ x4.1.cps.toList))) && (!(decide (x4.1 ∈ s3)))) then mb (chk (decide (s3.length < 100000))) fun _ => mb (.ok (s3 ++ [x4.1])) fun headshere8 => .ok headshere8 else .ok s3) headshere2 rules1) fun s5 => .ok s5
noncomputable def m__law_tokens (rules1 : (List (Str × (List Str)))) : M (List Str) := mb (.ok ([] : (List Str))) fun tokenshere2 => mb (mfor (fun (s3 : (List Str)) (x4 : (Str × (List Str))) => mb (mfor (fun (s6 : (List Str)) (x7 : Str) => mb (oM (sgn ("." : Str))) fun t9 => mb (mand (!(decide (t9 ∈ x7.cps.toList))) (mb (m__law_is_token x7) fun t10 => .ok (t10 && (!(decide (x7 ∈ s6)))))) fun c11 => bif c11 then mb (chk (decide (s6.length < 100000))) fun _ => mb (.ok (s6 ++ [x7])) fun tokenshere13 => .ok tokenshere13 else .ok s6) s3 x4.2) fun s8 => .ok s8) tokenshere2 rules1) fun s5 => .ok s5
noncomputable def m__law_tail (row1 : (List Int)) (care2 : Int) (names3 : (List (List Str))) : M (List Str) := mb (.ok ([] : (List Str))) fun tailhere4 => mb (mfor (fun (s5 : (List Str)) (x6 : Int) => mb (.ok (x6 % (4 : Int))) fun kind8 => mb (.ok (x6 / (4 : Int))) fun which9 => mb (mand (decide (kind8 = (3 : Int))) (mb (oM (atI names3 (3 : Int))) fun t10 => .ok (decide ((t10.length : Int) = (0 : Int))))) fun c11 => mb (bif (c11 || ((decide (kind8 = (1 : Int))) && (decide (care2 = (0 : Int))))) then mb (.ok (0 : Int)) fun kind13 => .ok kind13 else .ok kind8) fun (s12 : Int) => mb (oM (atI ([(2 : Int), (1 : Int), (0 : Int), (3 : Int)]) s12)) fun t14 => mb (oM (atI names3 t14)) fun t15 => mb (chk (decide (0 < (t15.length : Int)))) fun _ => mb (oM (atI t15 (which9 % (t15.length : Int)))) fun t17 => mb (chk (decide (s5.length + [t17].length ≤ 100000))) fun _ => mb (.ok (s5 ++ [t17])) fun tailhere19 => bif ((decide ((1 : Int) < s12)) && ((decide (care2 = (0 : Int))) || ((decide (care2 = (1 : Int))) && (decide ((0 : Int) < ((which9 / (7 : Int)) % (3 : Int))))))) then mb (oM (atI names3 (2 : Int))) fun t20 => mb (oM (atI t20 (3 : Int))) fun t21 => mb (chk (decide (tailhere19.length + [t21].length ≤ 100000))) fun _ => mb (.ok (tailhere19 ++ [t21])) fun tailhere23 => .ok tailhere23 else .ok tailhere19) tailhere4 row1) fun s7 => .ok s7
noncomputable def m__law_inner (drawshere1 : (List Int)) (care2 : Int) (names3 : (List (List Str))) (place4 : Int) : M (List (List Str)) := mb (oM (atI names3 (2 : Int))) fun t5 => mb (oM (atI names3 (0 : Int))) fun t6 => mb (oM (atI names3 (1 : Int))) fun t7 => mb (oM (atI names3 (3 : Int))) fun t8 => mb (chk (decide (t5.length + t7.length ≤ 100000))) fun _ => mb (.ok (t5 ++ t7)) fun starts10 => mb (oM (atI drawshere1 (0 : Int))) fun t11 => mb (chk (decide (0 < (starts10.length : Int)))) fun _ => mb (oM (atI starts10 (t11 % (starts10.length : Int)))) fun t13 => mb (bif (decide (care2 = (0 : Int))) then mb (oM (atI t5 (0 : Int))) fun t15 => .ok t15 else .ok t13) fun (s14 : Str) => mb (m__law_tail (cut drawshere1 (some (1 : Int)) (some ((1 : Int) + ((t11 / (60 : Int)) % (3 : Int))))) care2 ([t6, t7, t5, cut t8 (some (place4 + (1 : Int))) none])) fun t16 => mb (chk (decide ([s14].length + t16.length ≤ 100000))) fun _ => mb (.ok ([s14] ++ t16)) fun side18 => mb (bif ((decide (place4 = (0 : Int))) && (decide ((t8.length : Int) = (2 : Int)))) then mb (oM (atI t8 (1 : Int))) fun t20 => mb (oM (atI t5 (3 : Int))) fun t21 => mb (chk (decide (side18.length + (cut ([t20, t21]) none (some ((1 : Int) + (b2 (decide (care2 = (0 : Int))))))).length ≤ 100000))) fun _ => mb (.ok (side18 ++ (cut ([t20, t21]) none (some ((1 : Int) + (b2 (decide (care2 = (0 : Int))))))))) fun side23 => .ok side23 else .ok side18) fun (s19 : (List Str)) => mb (.ok [s19]) fun sides24 => mb (oM (atI drawshere1 (3 : Int))) fun t25 => mb (chk (decide (-100000 ≤ (t25 % (3 : Int)) ∧ (t25 % (3 : Int)) ≤ 100000))) fun _ => mb (mfor (fun (s27 : (List (List Str))) (x28 : Int) => mb (oM (atI drawshere1 ((4 : Int) + ((4 : Int) * x28)))) fun t30 => mb (m__law_tail (cut drawshere1 (some ((5 : Int) + ((4 : Int) * x28))) (some (((5 : Int) + ((4 : Int) * x28)) + ((t30 / (3 : Int)) % (4 : Int))))) care2 names3) fun t31 => mb (bif (decide ((t30 % (3 : Int)) = (0 : Int))) then mb (.ok ([] : (List Str))) fun side33 => .ok side33 else bif (decide (care2 = (0 : Int))) then mb (oM (atI t5 ((1 : Int) + x28))) fun t34 => mb (chk (decide ([t34].length + t31.length ≤ 100000))) fun _ => mb (.ok ([t34] ++ t31)) fun side36 => .ok side36 else bif (decide ((t30 % (3 : Int)) = (1 : Int))) then mb (oM (atI starts10 ((t30 / (12 : Int)) % (starts10.length : Int)))) fun t37 => mb (chk (decide ([t37].length + t31.length ≤ 100000))) fun _ => mb (.ok ([t37] ++ t31)) fun side39 => .ok side39 else mb (chk (decide (0 < (t6.length : Int)))) fun _ => mb (oM (atI t6 ((t30 / (12 : Int)) % (t6.length : Int)))) fun t41 => mb (chk (decide ([t41].length + t31.length ≤ 100000))) fun _ => mb (.ok ([t41] ++ t31)) fun side43 => .ok side43) fun (s32 : (List Str)) => bif (!(memB s32 s27)) then mb (chk (decide (s27.length < 100000))) fun _ => mb (.ok (s27 ++ [s32])) fun sides45 => .ok sides45 else .ok s27) sides24 (ups (t25 % (3 : Int)).toNat)) fun s29 => .ok s29
noncomputable def m__law_guest (drawshere1 : (List Int)) (namehere2 : Str) (hosthere3 : (List (Str × (List Str)))) : M (List (Str × (List Str))) := mb (oM (atI drawshere1 (0 : Int))) fun t4 => mb (oM (atI drawshere1 (1 : Int))) fun t5 => mb (.ok (t5 % (4 : Int))) fun care6 => mb (oM (atI drawshere1 (2 : Int))) fun t7 => mb (chk (decide (-100000 ≤ (t7 % (3 : Int)) ∧ (t7 % (3 : Int)) ≤ 100000))) fun _ => mb (mlc (fun (y9 : Int) => .ok true) (fun (y9 : Int) => mb (chk (decide (namehere2.length + ("." : Str).length ≤ 100000))) fun _ => mb (m__law_name y9 t4 true) fun t11 => mb (chk (decide ((namehere2 ++ ("." : Str)).length + t11.length ≤ 100000))) fun _ => .ok ((namehere2 ++ ("." : Str)) ++ t11)) (ups (t7 % (3 : Int)).toNat)) fun zs13 => mb (mlc (fun (y14 : Int) => .ok true) (fun (y14 : Int) => mb (chk (decide (namehere2.length + ("." : Str).length ≤ 100000))) fun _ => mb (m__law_name y14 t4 false) fun t16 => mb (chk (decide ((namehere2 ++ ("." : Str)).length + t16.length ≤ 100000))) fun _ => .ok ((namehere2 ++ ("." : Str)) ++ t16)) (ups (4 : Int).toNat)) fun zs18 => mb (m__law_heads hosthere3) fun t19 => mb (m__law_tokens hosthere3) fun t20 => mb (.ok ([] : (List (Str × (List Str))))) fun rules21 => mb (oM (atI drawshere1 (3 : Int))) fun t22 => mb (chk (decide (-100000 ≤ ((1 : Int) + (t22 % (3 : Int))) ∧ ((1 : Int) + (t22 % (3 : Int))) ≤ 100000))) fun _ => mb (mfor (fun (s24 : (List (Str × (List Str)))) (x25 : Int) => mb (oM (atI drawshere1 ((4 : Int) + x25))) fun t27 => mb (chk (decide (namehere2.length + ("." : Str).length ≤ 100000))) fun _ => mb (m__law_name ((4 : Int) + x25) t4 false) fun t29 => mb (chk (decide ((namehere2 ++ ("." : Str)).length + t29.length ≤ 100000))) fun _ => mb (.ok ([(namehere2 ++ ("." : Str)) ++ t29])) fun side31 => mb (m__law_tail (cut drawshere1 (some ((7 : Int) + ((3 : Int) * x25))) (some (((7 : Int) + ((3 : Int) * x25)) + ((t27 / (8 : Int)) % (4 : Int))))) care6 ([t19, t20, zs18, zs13])) fun t32 => mb (chk (decide (side31.length + t32.length ≤ 100000))) fun _ => mb (.ok (side31 ++ t32)) fun side34 => mb (bif ((decide (x25 = (0 : Int))) && (decide ((0 : Int) < (zs13.length : Int)))) then mb (oM (atI zs13 (0 : Int))) fun t36 => mb (oM (atI zs18 (3 : Int))) fun t37 => mb (chk (decide (side34.length + (cut ([t36, t37]) none (some ((1 : Int) + (b2 (decide (care6 = (0 : Int))))))).length ≤ 100000))) fun _ => mb (.ok (side34 ++ (cut ([t36, t37]) none (some ((1 : Int) + (b2 (decide (care6 = (0 : Int))))))))) fun side39 => .ok side39 else .ok side34) fun (s35 : (List Str)) => mb (oM (atI ([t19, t20, zs18, zs13]) (0 : Int))) fun t40 => mb (chk (decide (0 < (t40.length : Int)))) fun _ => mb (oM (atI t40 (t27 % (t40.length : Int)))) fun t42 => mb (chk (decide (s24.length < 100000))) fun _ => mb (.ok (s24 ++ [(t42, s35)])) fun rules44 => .ok rules44) rules21 (ups ((1 : Int) + (t22 % (3 : Int))).toNat)) fun s26 => mb (.ok ((decide ((0 : Int) < care6)) && ((decide ((0 : Int) < (zs13.length : Int))) && (decide (((t5 / (4 : Int)) % (3 : Int)) = (0 : Int)))))) fun back45 => mb (bif back45 then mb (oM (atI ([t19, t20, zs18, zs13]) (0 : Int))) fun t47 => mb (oM (atI drawshere1 (4 : Int))) fun t48 => mb (chk (decide (0 < (t47.length : Int)))) fun _ => mb (oM (atI t47 ((t48 / (40 : Int)) % (t47.length : Int)))) fun t50 => mb (chk (decide (namehere2.length + ("." : Str).length ≤ 100000))) fun _ => mb (m__law_name (7 : Int) t4 false) fun t52 => mb (chk (decide ((namehere2 ++ ("." : Str)).length + t52.length ≤ 100000))) fun _ => mb (oM (atI drawshere1 (5 : Int))) fun t54 => mb (oM (atI t47 ((t54 / (40 : Int)) % (t47.length : Int)))) fun t55 => mb (oM (atI zs18 (0 : Int))) fun t56 => mb (.ok ([(namehere2 ++ ("." : Str)) ++ t52, t55, t56])) fun side57 => mb (chk (decide (s26.length < 100000))) fun _ => mb (.ok (s26 ++ [(t50, side57)])) fun rules59 => .ok rules59 else .ok s26) fun (s46 : (List (Str × (List Str)))) => mb (chk (decide (-100000 ≤ (zs13.length : Int) ∧ (zs13.length : Int) ≤ 100000))) fun _ => mb (mfor (fun (s61 : (List (Str × (List Str)))) (x62 : Int) => mb (m__law_inner (cut drawshere1 (some ((16 : Int) + ((12 : Int) * x62))) (some ((28 : Int) + ((12 : Int) * x62)))) care6 ([t19, t20, zs18, zs13]) x62) fun t64 => mb (bif (back45 && (decide (x62 = (0 : Int)))) then mb (oM (atI zs18 (0 : Int))) fun t66 => mb (oM (atI zs18 (1 : Int))) fun t67 => mb (chk (decide (([[t66, t67], ([] : (List Str))]).length ≤ 100000))) fun _ => mb (chk (decide (t64.length + ((([[t66, t67], ([] : (List Str))]).filter (fun (y68 : (List Str)) => (!(memB y68 t64)))).map (fun (y68 : (List Str)) => y68)).length ≤ 100000))) fun _ => mb (.ok (t64 ++ ((([[t66, t67], ([] : (List Str))]).filter (fun (y68 : (List Str)) => (!(memB y68 t64)))).map (fun (y68 : (List Str)) => y68)))) fun sides71 => .ok sides71 else .ok t64) fun (s65 : (List (List Str))) => mb (chk (decide (s65.length ≤ 100000))) fun _ => mb (mlc (fun (y72 : (List Str)) => .ok true) (fun (y72 : (List Str)) => mb (oM (atI zs13 x62)) fun t73 => .ok (t73, y72)) s65) fun zs75 => mb (chk (decide (s61.length + zs75.length ≤ 100000))) fun _ => mb (.ok (s61 ++ zs75)) fun rules77 => .ok rules77) s46 (ups (zs13.length : Int).toNat)) fun s63 => .ok s63
noncomputable def m__law_table (rules1 : (List (Str × (List Str)))) : M (List (KP × (List Str))) := mb (m__law_sets rules1) fun t2 => mb (.ok ([] : (List (KP × (List Str))))) fun tablehere3 => mb (mfor (fun (s4 : (List (KP × (List Str)))) (x5 : (Str × (List Str))) => mb (m__law_first x5.2 t2) fun t7 => mb (mfor (fun (s8 : (List (KP × (List Str)))) (x9 : Str) => mb (chk (decide (s8.length < 100000))) fun _ => mb (.ok (pput s8 (x5.1, some x9) x5.2)) fun tablehere12 => .ok tablehere12) s4 t7) fun s10 => mb (m__law_empty x5.2 t2) fun t13 => bif t13 then mb (chk (decide (s10.length < 100000))) fun _ => mb (.ok (pput s10 (x5.1, (none : (Option Str))) x5.2)) fun tablehere15 => .ok tablehere15 else .ok s10) tablehere3 rules1) fun s6 => mb (chk (decide (s6.length ≤ 100000))) fun _ => .ok s6
noncomputable def m__law_run (rules1 : (List (Str × (List Str)))) (row2 : (List Int)) : M (List (Str × (List Str))) := mb (.ok ([] : (List (Str × (List Str))))) fun runhere3 => mb (oM (atI rules1 (0 : Int))) fun t4 => mb (.ok [t4.1]) fun stack5 => mb (.ok (0 : Int)) fun used6 => mb (mwhile (fun (s7 : ((List (Str × (List Str))) × (List Str) × Int)) => .ok (decide ((0 : Int) < (s7.2.1.length : Int)))) (fun (s7 : ((List (Str × (List Str))) × (List Str) × Int)) => mb (oM (s7.2.1[s7.2.1.length - 1]?)) fun sign10 => mb (.ok (s7.2.1.dropLast)) fun stack11 => mb (m__law_is_token sign10) fun t12 => bif (!t12) then mb (chk (decide (rules1.length ≤ 100000))) fun _ => mb (.ok ((rules1.filter (fun (y13 : (Str × (List Str))) => (decide (y13.1 = sign10)))).map (fun (y13 : (Str × (List Str))) => y13.2))) fun sides15 => mb (.ok (0 : Int)) fun pick16 => mb (bif (decide (s7.2.2 < (row2.length : Int))) then mb (oM (atI row2 s7.2.2)) fun t18 => mb (chk (decide (0 < (sides15.length : Int)))) fun _ => mb (.ok (t18 % (sides15.length : Int))) fun pick20 => mb (.ok (s7.2.2 + (1 : Int))) fun used21 => .ok (used21, pick20) else .ok (s7.2.2, pick16)) fun (s17 : (Int × Int)) => mb (oM (atI sides15 s17.2)) fun t22 => mb (chk (decide (s7.1.length < 100000))) fun _ => mb (.ok (s7.1 ++ [(sign10, t22)])) fun runhere24 => mb (chk (decide (-100000 ≤ (t22.length : Int) ∧ (t22.length : Int) ≤ 100000))) fun _ => mb (mfor (fun (s26 : (List Str)) (x27 : Int) => mb (oM (atI t22 (((t22.length : Int) - (1 : Int)) - x27))) fun t29 => mb (chk (decide (s26.length < 100000))) fun _ => mb (.ok (s26 ++ [t29])) fun stack31 => .ok stack31) stack11 (ups (t22.length : Int).toNat)) fun s28 => .ok (runhere24, s28, s17.1) else .ok (s7.1, stack11, s7.2.2)) fuel (runhere3, stack5, used6)) fun s9 => .ok s9.1
noncomputable def m__law_walk (rules1 : (List (Str × (List Str)))) (runhere2 : (List (Str × (List Str)))) : M (Option (List Str)) := mb (oM (atI rules1 (0 : Int))) fun t3 => mb (.ok [t3.1]) fun stack4 => mb (.ok ([] : (List Str))) fun text5 => bif (!true) then .ok (none : (Option (List Str))) else mb (mforF (fun (s6 : ((List Str) × (List Str))) (x7 : (Str × (List Str))) => mb (mwhile (fun (s9 : ((List Str) × (List Str))) => mb (mand (decide ((0 : Int) < (s9.1.length : Int))) (mb (oM (atI s9.1 (-(1 : Int)))) fun t16 => mb (m__law_is_token t16) fun t17 => .ok t17)) fun c18 => .ok c18) (fun (s9 : ((List Str) × (List Str))) => mb (oM (s9.1[s9.1.length - 1]?)) fun v12 => mb (chk (decide (s9.2.length < 100000))) fun _ => mb (.ok (s9.1.dropLast)) fun stack14 => mb (.ok (s9.2 ++ [v12])) fun text15 => .ok (stack14, text15)) fuel (s6.1, s6.2)) fun s11 => bif (decide ((s11.1.length : Int) = (0 : Int))) then .ok (.rt (none : (Option (List Str)))) else bif (!(memB x7 rules1)) then .ok (.rt (none : (Option (List Str)))) else mb (oM (s11.1[s11.1.length - 1]?)) fun v19 => mb (.ok (s11.1.dropLast)) fun stack20 => bif !decide (x7.1 = v19) then .ok (.rt (none : (Option (List Str)))) else mb (chk (decide (-100000 ≤ (x7.2.length : Int) ∧ (x7.2.length : Int) ≤ 100000))) fun _ => mb (mfor (fun (s22 : (List Str)) (x23 : Int) => mb (oM (atI x7.2 (((x7.2.length : Int) - (1 : Int)) - x23))) fun t25 => mb (chk (decide (s22.length < 100000))) fun _ => mb (.ok (s22 ++ [t25])) fun stack27 => .ok stack27) stack20 (ups (x7.2.length : Int).toNat)) fun s24 => .ok (.nx (s24, s11.2))) (stack4, text5) runhere2 : M (Fl ((List Str) × (List Str)) (Option (List Str)))) fun o8 => Fl.go o8 (fun (s6 : ((List Str) × (List Str))) => mb (mwhile (fun (s28 : ((List Str) × (List Str))) => mb (mand (decide ((0 : Int) < (s28.1.length : Int))) (mb (oM (atI s28.1 (-(1 : Int)))) fun t35 => mb (m__law_is_token t35) fun t36 => .ok t36)) fun c37 => .ok c37) (fun (s28 : ((List Str) × (List Str))) => mb (oM (s28.1[s28.1.length - 1]?)) fun v31 => mb (chk (decide (s28.2.length < 100000))) fun _ => mb (.ok (s28.1.dropLast)) fun stack33 => mb (.ok (s28.2 ++ [v31])) fun text34 => .ok (stack33, text34)) fuel (s6.1, s6.2)) fun s30 => bif (decide ((0 : Int) < (s30.1.length : Int))) then .ok (none : (Option (List Str))) else .ok (some s30.2)) (fun x => .ok x) (fun _ => .error .stuck)
noncomputable def m__law_union (script1 : (List Int)) (hosthere2 : (List (Str × (List Str)))) : M (List (Str × (List Str))) := mb (m__law_cell script1 (1 : Int)) fun t3 => mb (m__law_draws t3 (40 : Int)) fun t4 => mb (m__law_guest t4 ("x" : Str) hosthere2) fun t5 => mb (chk (decide (hosthere2.length + t5.length ≤ 100000))) fun _ => mb (m__law_clashes (hosthere2 ++ t5)) fun t7 => bif (!t7) then mb (.ok (hosthere2 ++ t5)) fun rules8 => mb (m__law_cell script1 (2 : Int)) fun t9 => mb (m__law_draws t9 (40 : Int)) fun t10 => mb (m__law_guest t10 ("sql" : Str) hosthere2) fun t11 => mb (chk (decide (rules8.length + t11.length ≤ 100000))) fun _ => mb (m__law_clashes (rules8 ++ t11)) fun t13 => bif (!t13) then .ok (rules8 ++ t11) else .ok rules8 else mb (m__law_cell script1 (2 : Int)) fun t14 => mb (m__law_draws t14 (40 : Int)) fun t15 => mb (m__law_guest t15 ("sql" : Str) hosthere2) fun t16 => mb (chk (decide (hosthere2.length + t16.length ≤ 100000))) fun _ => mb (m__law_clashes (hosthere2 ++ t16)) fun t18 => bif (!t18) then .ok (hosthere2 ++ t16) else .ok hosthere2
noncomputable def m_law (script1 : (List Int)) : M Bool := mb (m__law_cell script1 (0 : Int)) fun t2 => mb (m__law_draws t2 (46 : Int)) fun t3 => mb (m__law_host t3 (4 : Int) ([(1 : Int), (1 : Int), (1 : Int), (1 : Int), (1 : Int), (1 : Int)])) fun t4 => mb (m__law_union script1 t4) fun t5 => mb (m__law_table t5) fun t6 => mb (oM (atI t5 (0 : Int))) fun t7 => mb (chk (decide (t6.length ≤ 100000))) fun _ => mb (m_Reader___init__ t7.1 t6) fun t9 => mb (chk (decide (t6.length < 100000))) fun _ => mb (.ok (pput t6 (t7.1, (none : (Option Str))) ([("zq" : Str)]))) fun tablehere11 => mb (oM (atI t7.2 (0 : Int))) fun t12 => mb (chk (decide (tablehere11.length < 100000))) fun _ => mb (.ok (pput tablehere11 (t7.1, some t12) ([] : (List Str)))) fun tablehere14 => mb (mforF (fun (s15 : Unit) (x16 : Int) => mb (m__law_cell script1 ((3 : Int) + x16)) fun t18 => mb (m__law_draws t18 (8 : Int)) fun t19 => mb (m__law_run t5 t19) fun t20 => mb (m__law_walk t5 t20) fun t21 => mb (mforF (fun (s22 : Unit) (x23 : Int) => mb (oM t21) fun z25 => mb (m_Reader___call__ t9 z25) fun t26 => bif ((!true) || (!(eqB t26 t20))) then .ok (.rt false) else .ok (.nx ())) () (ups (2 : Int).toNat) : M (Fl Unit Bool)) fun o24 => Fl.go o24 (fun (s22 : Unit) => .ok (.nx ())) (fun x => .ok (.rt x)) (fun _ => .error .stuck)) () (ups (2 : Int).toNat) : M (Fl Unit Bool)) fun o17 => Fl.go o17 (fun (s15 : Unit) => .ok true) (fun x => .ok x) (fun _ => .error .stuck)
noncomputable def m_is_token (sign1 : Str) : M Bool := mb (chk (decide ((("." : Str).length == 0) = false))) fun _ => mb (chk (decide (okS (Txt.rpartition sign1 ("." : Str)).1 ∧ okS (Txt.rpartition sign1 ("." : Str)).2.1 ∧ okS (Txt.rpartition sign1 ("." : Str)).2.2))) fun _ => mb (oM (atI ([(Txt.rpartition sign1 ("." : Str)).1, (Txt.rpartition sign1 ("." : Str)).2.1, (Txt.rpartition sign1 ("." : Str)).2.2]) (2 : Int))) fun t4 => mb (oM (atI (chs t4) (0 : Int))) fun t5 => mb (oM (sgn t5)) fun t6 => .ok (decide (t6 ∈ ("abcdefghijklmnopqrstuvwxyz" : Str).cps.toList))
abbrev Gs := List (Str × List (List Str))
theorem dput_keys {α : Type} (g : List (Str × α)) (k : Str) (v : α) : (dput g k v).map (·.1) = if k ∈ g.map (·.1) then g.map (·.1) else g.map (·.1) ++ [k] := by
  unfold dput
  by_cases h : k ∈ g.map (·.1)
  · have e : (g.any fun kv => decide (kv.1 = k)) = true := by
      obtain ⟨x, hx, rfl⟩ := List.mem_map.mp h
      exact List.any_eq_true.mpr ⟨x, hx, decide_eq_true rfl⟩
    rw [if_pos e, if_pos h, List.map_map]
    refine List.map_congr_left fun y _ => ?_
    show (if y.1 = k then (y.1, v) else y).1 = y.1
    split <;> rfl
  · have e : ¬ (g.any fun kv => decide (kv.1 = k)) = true := fun q => by
      obtain ⟨x, hx, hk⟩ := List.any_eq_true.mp q
      exact h (List.mem_map.mpr ⟨x, hx, of_decide_eq_true hk⟩)
    rw [if_neg e, if_neg h, List.map_append]
    rfl
end Gt
namespace Gt
open PySem PySem.Spec PyProof.Rows L2
def cellAt (ns : List Int) (k : Int) : Int := bif decide (k < (ns.length : Int)) then ns.getD k.toNat 0 else 0
theorem t_cell {ns : List Int} {k : Int} (h : 0 ≤ k) : m__law_cell ns k = .ok (cellAt ns k) := by
  unfold m__law_cell cellAt
  cases e : decide (k < (ns.length : Int)) with
  | false => rfl
  | true =>
    have h1 := of_decide_eq_true e
    obtain ⟨x, e1, e2, _⟩ := atI_in (xs := ns) h h1
    rw [cond_true, mb_of (mb_of (oM_of e1)), cond_true]
    show mb (.ok x) _ = _
    rw [List.getD_eq_getElem?_getD, e2]
    rfl
theorem t_draws {c n : Int} (h : 0 ≤ n ∧ n ≤ 1000) : Tt (m__law_draws c n) fun row => row.length = n.toNat ∧ ∀ d ∈ row, 0 ≤ d ∧ d < 840 := by
  unfold m__law_draws
  refine Tt.let (Tt.let (Tt.chk (by omega) ?_))
  refine (Tt.for (fun (pre : List Int) (s : Int × List Int) => s.2.length = pre.length ∧ ∀ d ∈ s.2, 0 ≤ d ∧ d < 840) ⟨rfl, by intro d hd; cases hd⟩ ?_).bind fun s hs => Tt.ret ⟨by rw [hs.1, ups_len], hs.2⟩
  intro pre x post s hx ⟨hl, hd⟩
  have h3 := congrArg List.length hx
  rw [ups_len, List.length_append, List.length_cons] at h3
  have app : ∀ v : Int, 0 ≤ v ∧ v < 840 → (s.2 ++ [v]).length = (pre ++ [x]).length ∧ ∀ d ∈ s.2 ++ [v], 0 ≤ d ∧ d < 840 := fun v hv => by
    refine ⟨by rw [List.length_append, List.length_append, hl]; rfl, fun d hm => ?_⟩
    rcases List.mem_append.mp hm with q | q
    · exact hd d q
    · rw [List.mem_singleton.mp q]; exact hv
  refine Tt.if (fun _ => ?_) fun _ => ?_
  · exact Tt.chk (by omega) (Tt.let (Tt.let (Tt.ret (app _ ⟨Int.emod_nonneg _ (by decide), Int.emod_lt_of_pos _ (by decide)⟩))))
  · refine Tt.let ?_
    have h1 : ∀ a : Int, CMul (a % 1000003) (a % 1000003) := fun a => .inl (by omega)
    have h2 : ∀ a : Int, CMul (a % 999983) (a % 999983) := fun a => .inl (by omega)
    refine Tt.chk (h1 _) (Tt.let (Tt.chk (h2 _) (Tt.chk (by omega) (Tt.let (Tt.ret (app _ ⟨?_, ?_⟩))))))
    · exact Int.emod_nonneg _ (by decide)
    · exact Int.emod_lt_of_pos _ (by decide)
end Gt
namespace Gt
open PySem PySem.Spec PyProof.Rows L2
theorem nodup_len : ∀ {l D : List Str}, l.Nodup → (∀ x ∈ l, x ∈ D) → l.length ≤ D.length
  | [], _, _, _ => Nat.zero_le _
  | x :: l, D, hn, hs => by
    obtain ⟨h1, h2⟩ := List.nodup_cons.mp hn
    have hx : x ∈ D := hs x List.mem_cons_self
    have ih := nodup_len (l := l) (D := D.erase x) h2 fun y hy => by
      have hne : y ≠ x := fun e => h1 (e ▸ hy)
      exact (List.mem_erase_of_ne hne).2 (hs y (List.mem_cons_of_mem _ hy))
    have e := List.length_erase_of_mem hx
    have hp : 0 < D.length := List.length_pos_of_mem hx
    rw [List.length_cons]
    omega
theorem asd_nodup {l : List Str} (h : Asd l) : l.Nodup := List.Pairwise.imp (S := fun a b => a ≠ b) (fun {a b} (q : LtS a b) (e : a = b) => by subst e; exact ltS_irr a q) h
/-- an ascending list that has all of another and is not it is longer -/
theorem asd_more {a b : List Str} (ha : Asd a) (hb : Asd b) (s : ∀ x ∈ a, x ∈ b) (n : b ≠ a) : a.length < b.length := by
  rcases Nat.lt_or_ge a.length b.length with h | h
  · exact h
  · exfalso
    refine n (asd_ext hb ha fun k => ⟨fun hk => ?_, s k⟩)
    rcases Classical.em (k ∈ a) with c | c
    · exact c
    · have q := nodup_len (l := k :: a) (D := b) (List.nodup_cons.mpr ⟨c, asd_nodup ha⟩) fun x hx => (List.mem_cons.mp hx).elim (fun e => e ▸ hk) (s x)
      rw [List.length_cons] at q
      omega
theorem sum_le {U : List Str} {f g : Str → Nat} (h : ∀ u ∈ U, f u ≤ g u) : (U.map f).sum ≤ (U.map g).sum := by
  induction U with
  | nil => exact Nat.le_refl _
  | cons x r ih =>
    have h1 := h x List.mem_cons_self
    have h2 := ih fun u hu => h u (List.mem_cons_of_mem _ hu)
    simp only [List.map_cons, List.sum_cons]
    omega
theorem sum_lt {U : List Str} {f g : Str → Nat} (h : ∀ u ∈ U, f u ≤ g u) {k : Str} (hk : k ∈ U) (hl : f k < g k) : (U.map f).sum < (U.map g).sum := by
  induction U with
  | nil => cases hk
  | cons x r ih =>
    have h1 := h x List.mem_cons_self
    have h2 := sum_le fun u hu => h u (List.mem_cons_of_mem _ hu)
    simp only [List.map_cons, List.sum_cons]
    rcases List.mem_cons.mp hk with e | e
    · subst e; omega
    · have h3 := ih (fun u hu => h u (List.mem_cons_of_mem _ hu)) e
      omega
theorem sum_max {U : List Str} {f : Str → Nat} {n : Nat} (h : ∀ u ∈ U, f u ≤ n) : (U.map f).sum ≤ U.length * n := by
  induction U with
  | nil => exact Nat.zero_le _
  | cons x r ih =>
    have h1 := h x List.mem_cons_self
    have h2 := ih fun u hu => h u (List.mem_cons_of_mem _ hu)
    simp only [List.map_cons, List.sum_cons, List.length_cons, Nat.succ_mul]
    omega
theorem dkey_cons {α : Type} {a : Str × α} {xs : List (Str × α)} {k : Str} : dkey (a :: xs) k = if a.1 = k then some a.2 else dkey xs k := by
  unfold dkey
  rw [List.find?_cons]
  by_cases e : a.1 = k
  · simp [e]
  · simp [e]
theorem dkey_app {α : Type} {k h : Str} {v : α} : ∀ {xs : List (Str × α)}, dkey (xs ++ [(h, v)]) k = match dkey xs k with | some w => some w | none => if h = k then some v else none
  | [] => by
    show dkey [(h, v)] k = _
    rw [dkey_cons]
    rfl
  | a :: r => by
    show dkey (a :: (r ++ [(h, v)])) k = _
    rw [dkey_cons, dkey_cons]
    by_cases e : a.1 = k
    · simp only [if_pos e]
    · simp only [if_neg e]
      exact dkey_app (xs := r)
theorem dkey_set {α : Type} {k h : Str} {v : α} : ∀ {xs : List (Str × α)}, (dkey xs h).isSome = true → dkey (xs.map (fun kv => if kv.1 = h then (kv.1, v) else kv)) k = if h = k then some v else dkey xs k
  | [], z => by simp [dkey] at z
  | a :: r, z => by
    rw [List.map_cons, dkey_cons]
    by_cases e : a.1 = h
    · rw [if_pos e]
      by_cases q : h = k
      · rw [if_pos (show (a.1, v).1 = k from e.trans q), if_pos q]
      · rw [if_neg (show ¬ (a.1, v).1 = k from fun z => q (e.symm.trans z)), if_neg q, dkey_cons, if_neg fun z => q (e.symm.trans z)]
        by_cases s : (dkey r h).isSome = true
        · rw [dkey_set (xs := r) s, if_neg q]
        · have gone : ∀ (l : List (Str × α)), ¬ (dkey l h).isSome = true → l.map (fun kv => if kv.1 = h then (kv.1, v) else kv) = l := by
            intro l
            induction l with
            | nil => intro _; rfl
            | cons b l ih =>
              intro hn
              rw [dkey_cons] at hn
              by_cases eb : b.1 = h
              · rw [if_pos eb] at hn; exact absurd rfl hn
              · rw [if_neg eb] at hn
                rw [List.map_cons, if_neg eb, ih hn]
          rw [gone r s]
    · rw [if_neg e]
      rw [dkey_cons, if_neg e] at z
      rw [dkey_cons]
      by_cases q : a.1 = k
      · rw [if_pos q, if_pos q, if_neg fun z => e (q.trans z.symm)]
      · rw [if_neg q, if_neg q]
        exact dkey_set (xs := r) z
theorem any_key {α : Type} {h : Str} : ∀ {xs : List (Str × α)}, (xs.any fun kv => decide (kv.1 = h)) = (dkey xs h).isSome
  | [] => rfl
  | a :: r => by
    rw [List.any_cons, dkey_cons, any_key (xs := r)]
    by_cases e : a.1 = h
    · simp [e]
    · simp [e]
theorem dkey_dput {α : Type} {xs : List (Str × α)} {h k : Str} {v : α} : dkey (dput xs h v) k = if h = k then some v else dkey xs k := by
  unfold dput
  rw [any_key]
  by_cases s : (dkey xs h).isSome = true
  · rw [if_pos s, dkey_set s]
  · rw [if_neg s, dkey_app]
    have hn : dkey xs h = none := by
      cases q : dkey xs h with
      | none => rfl
      | some w => rw [q] at s; exact absurd rfl s
    by_cases e : h = k
    · subst e
      rw [hn, if_pos rfl]
    · rw [if_neg e, if_neg e]
      cases dkey xs k <;> rfl
theorem len_dput {α : Type} {xs : List (Str × α)} {h : Str} {v : α} : (dput xs h v).length = if (dkey xs h).isSome = true then xs.length else xs.length + 1 := by
  unfold dput
  rw [any_key]
  split
  · rw [List.length_map]
  · rw [List.length_append]; rfl
section
variable {τ α : Type}
/-- one pass: at each item the state stays, or it grows -/
theorem Tt.pass {f : τ × Bool → α → M (τ × Bool)} {rs : List α} {I : τ → Prop} {μ : τ → Nat} {Cl : τ → α → Prop} {t0 : τ} (h0 : I t0)
    (step : ∀ t g r, r ∈ rs → I t → Tt (f (t, g) r) fun s => I s.1 ∧ ((s = (t, g) ∧ Cl t r) ∨ (s.2 = true ∧ μ t < μ s.1))) :
    Tt (mfor f (t0, false) rs) fun s => I s.1 ∧ ((s = (t0, false) ∧ ∀ r ∈ rs, Cl t0 r) ∨ (s.2 = true ∧ μ t0 < μ s.1)) := by
  refine (Tt.for (fun pre (s : τ × Bool) => I s.1 ∧ ((s = (t0, false) ∧ ∀ r ∈ pre, Cl t0 r) ∨ (s.2 = true ∧ μ t0 < μ s.1))) ⟨h0, .inl ⟨rfl, fun r hr => nomatch hr⟩⟩ ?_).imp fun s h => h
  rintro pre r post ⟨t, g⟩ e ⟨hI, h⟩
  refine (step t g r (by rw [e]; exact List.mem_append_right _ List.mem_cons_self) hI).imp ?_
  rintro s ⟨hI', h'⟩
  refine ⟨hI', ?_⟩
  rcases h' with ⟨es, cl⟩ | ⟨eg, gr⟩
  · subst es
    rcases h with ⟨e1, hc⟩ | h
    · refine .inl ⟨e1, fun x hx => ?_⟩
      have et : t = t0 := congrArg Prod.fst e1
      rcases List.mem_append.mp hx with q | q
      · exact hc x q
      · rw [List.mem_singleton.mp q, ← et]; exact cl
    · exact .inr h
  · refine .inr ⟨eg, ?_⟩
    rcases h with ⟨e1, _⟩ | ⟨_, h⟩
    · have et : t = t0 := congrArg Prod.fst e1
      rw [← et]; exact gr
    · exact Nat.lt_trans h gr
theorem Tt.whileG {f : τ × Bool → M (τ × Bool)} {I : τ → Prop} {μ : τ → Nat} {C : τ → Prop} {N : Nat} (hN : ∀ t, I t → μ t ≤ N)
    (step : ∀ t b, I t → Tt (f (t, b)) fun s => I s.1 ∧ ((s = (t, false) ∧ C t) ∨ (s.2 = true ∧ μ t < μ s.1))) : ∀ (n : Nat) (t : τ), I t → N + 1 < n + μ t → Tt (mwhile (fun s => .ok s.2) f n (t, true)) fun s => I s.1 ∧ C s.1
  | 0, t, hI, h => by have := hN t hI; omega
  | n + 1, t, hI, h => by
    show Tt (mb (.ok true) fun b => bif b then mb (f (t, true)) fun s' => mwhile (fun s => .ok s.2) f n s' else .ok (t, true)) _
    refine Tt.let ?_
    show Tt (mb (f (t, true)) fun s' => mwhile (fun s => .ok s.2) f n s') _
    refine (step t true hI).bind ?_
    rintro ⟨t', b'⟩ ⟨hI', h'⟩
    rcases h' with ⟨e, c⟩ | ⟨e, g⟩
    · have e1 : t' = t := congrArg Prod.fst e
      have e2 : b' = false := congrArg Prod.snd e
      subst e2
      rw [← e1] at c
      have := hN _ hI
      obtain ⟨m, rfl⟩ : ∃ m, n = m + 1 := ⟨n - 1, by omega⟩
      show Tt (mb (.ok false) fun b => bif b then mb (f (t', false)) fun s' => mwhile (fun s => .ok s.2) f m s' else .ok (t', false)) _
      exact Tt.let (Tt.ret ⟨hI', c⟩)
    · have e : b' = true := e
      subst e
      have g : μ t < μ t' := g
      exact Tt.whileG hN step n t' hI' (by omega)
/-- the whole loop, as the program writes it -/
theorem Tt.grow {F : τ × Bool → α → M (τ × Bool)} {rs : List α} {I : τ → Prop} {μ : τ → Nat} {Cl : τ → α → Prop} {N : Nat} {t0 : τ} (h0 : I t0) (hN : ∀ t, I t → μ t ≤ N) (hf : N < 900000)
    (step : ∀ t g r, r ∈ rs → I t → Tt (F (t, g) r) fun s => I s.1 ∧ ((s = (t, g) ∧ Cl t r) ∨ (s.2 = true ∧ μ t < μ s.1))) :
    Tt (mwhile (fun (s : τ × Bool) => .ok s.2) (fun (s : τ × Bool) => mb (.ok false) fun g => mb (mfor F (s.1, g) rs) fun s => .ok (s.1, s.2)) fuel (t0, true)) fun s => I s.1 ∧ ∀ r ∈ rs, Cl s.1 r :=
  Tt.whileG (C := fun t => ∀ r ∈ rs, Cl t r) hN (fun t b hI => Tt.let ((Tt.pass hI step).bind fun s h => Tt.ret h)) fuel t0 h0 (by unfold fuel; omega)
end
end Gt
namespace Gt
open PySem PySem.Spec PyProof.Rows L2
noncomputable def tok (s : Str) : Bool := match m_is_token s with | .ok b => b | _ => false
abbrev RL := List (Str × List Str)
/-- ascending, over U -/
def As (U : List Str) (l : List Str) : Prop := Asd l ∧ ∀ x ∈ l, x ∈ U
theorem As.len {U l : List Str} (h : As U l) : l.length ≤ U.length := nodup_len (asd_nodup h.1) h.2
theorem As.nil {U : List Str} : As U [] := ⟨List.Pairwise.nil, fun x h => nomatch h⟩
theorem As.one {U : List Str} {s : Str} (h : s ∈ U) : As U [s] := ⟨List.pairwise_singleton _ _, fun x hx => by rw [List.mem_singleton.mp hx]; exact h⟩
/-- what merged answers -/
def mrg (one other : List Str) : List Str := bif other.isEmpty then one else srtU (one ++ other)
/-- a table's row -/
def row (t : List (Str × List Str)) (k : Str) : List Str := (dkey t k).getD []
theorem row_put {t : List (Str × List Str)} {h k : Str} {v : List Str} : row (dput t h v) k = if h = k then v else row t k := by
  unfold row
  rw [dkey_dput]
  by_cases e : h = k
  · rw [if_pos e, if_pos e]; rfl
  · rw [if_neg e, if_neg e]
/-- the size of a table -/
def wgt (U : List Str) (t : List (Str × List Str)) : Nat := (U.map fun u => (row t u).length).sum
structure Tab (U : List Str) (t : List (Str × List Str)) : Prop where
  as : ∀ k, As U (row t k)
  le : t.length ≤ wgt U t
  ks : (t.map (·.1)).Nodup
theorem Tab.nil {U : List Str} : Tab U [] := ⟨fun _ => As.nil, Nat.zero_le _, List.nodup_nil⟩
theorem keys_put {α : Type} {t : List (Str × α)} {h : Str} {v : α} (n : (t.map (·.1)).Nodup) : ((dput t h v).map (·.1)).Nodup := by
  rw [dput_keys]
  by_cases q : h ∈ t.map (·.1)
  · rw [if_pos q]; exact n
  · rw [if_neg q, List.nodup_append]
    refine ⟨n, by simp, fun a ha b hb e => ?_⟩
    rw [List.mem_singleton.mp hb] at e
    exact q (e ▸ ha)
/-- a row that grows -/
theorem Tab.put {U : List Str} {t : List (Str × List Str)} {h : Str} {v : List Str} (T : Tab U t) (hh : h ∈ U) (hv : As U v) (sub : ∀ x ∈ row t h, x ∈ v) (ne : v ≠ row t h) : Tab U (dput t h v) ∧ wgt U t < wgt U (dput t h v) := by
  have lt := asd_more (T.as h).1 hv.1 sub ne
  have w : wgt U t < wgt U (dput t h v) := by
    refine sum_lt (fun u _ => ?_) hh ?_
    · rw [row_put]
      by_cases e : h = u
      · subst e; rw [if_pos rfl]; omega
      · rw [if_neg e]; exact Nat.le_refl _
    · rw [row_put, if_pos rfl]; exact lt
  refine ⟨⟨fun k => ?_, ?_, keys_put T.ks⟩, w⟩
  · rw [row_put]
    by_cases e : h = k
    · rw [if_pos e]; exact hv
    · rw [if_neg e]; exact T.as k
  · rw [len_dput]
    have := T.le
    split <;> omega
theorem Tab.up {U V : List Str} {t : List (Str × List Str)} (T : Tab U t) (s : ∀ x ∈ U, x ∈ V) (w : wgt U t ≤ wgt V t) : Tab V t := ⟨fun k => ⟨(T.as k).1, fun x hx => s x ((T.as k).2 x hx)⟩, Nat.le_trans T.le w, T.ks⟩
/-- the tokens that start signs, by found and a table -/
noncomputable def fst (found : List (Str × Bool)) (t : List (Str × List Str)) : List Str → List Str → List Str
  | acc, [] => acc
  | acc, x :: r => bif tok x then mrg acc [x] else bif !((dkey found x).isSome) then mrg acc (row t x) else fst found t (mrg acc (row t x)) r
end Gt
namespace Gt
open PySem PySem.Spec PyProof.Rows L2
structure PutR (row more : List Str) (o : List Str × Bool) : Prop where
  mem : ∀ x, x ∈ o.1 ↔ x ∈ row ∨ x ∈ more
  nd : row.Nodup → o.1.Nodup
  no : o.2 = false → o.1 = row ∧ ∀ x ∈ more, x ∈ row
  yes : o.2 = true → ∃ x ∈ more, x ∉ row
theorem t_put {row more : List Str} (h : row.length + more.length ≤ 90000) : Tt (m__law_put row more) (PutR row more) := by
  unfold m__law_put
  refine Tt.let (Tt.bind (Tt.for (fun (pre : List Str) (s : List Str × Bool) => s.1.length ≤ row.length + pre.length ∧ PutR row pre s) ⟨Nat.le_refl _, ⟨fun x => ⟨.inl, fun z => z.elim id fun q => nomatch q⟩, id, fun _ => ⟨rfl, fun x q => nomatch q⟩, fun q => nomatch q⟩⟩ ?_) fun s hs => Tt.ret ⟨hs.2.mem, hs.2.nd, hs.2.no, hs.2.yes⟩)
  rintro pre x post ⟨l, g⟩ e ⟨hl, P⟩
  have hl : l.length ≤ row.length + pre.length := hl
  have hp : pre.length + 1 ≤ more.length := by rw [e, List.length_append, List.length_cons]; omega
  have lp : (pre ++ [x]).length = pre.length + 1 := by rw [List.length_append]; rfl
  have am : ∀ y, y ∈ pre ++ [x] ↔ y ∈ pre ∨ y = x := fun y => by rw [List.mem_append, List.mem_singleton]
  refine Tt.if (fun c => ?_) fun c => ?_
  · have n : x ∉ l := by simpa using c
    refine Tt.chk (by show l.length < 100000; omega) (Tt.let (Tt.ret ⟨?_, ?_, ?_, ?_, ?_⟩))
    · show (l ++ [x]).length ≤ _
      rw [List.length_append, lp, List.length_singleton]; omega
    · intro y
      show y ∈ l ++ [x] ↔ _
      rw [List.mem_append, List.mem_singleton, am, P.mem y]
      exact or_assoc
    · intro hn
      show (l ++ [x]).Nodup
      rw [List.nodup_append]
      refine ⟨P.nd hn, by simp, fun a ha b hb e => ?_⟩
      rw [List.mem_singleton.mp hb] at e
      exact n (e ▸ ha)
    · intro q; cases q
    · intro _
      exact ⟨x, (am x).mpr (.inr rfl), fun q => n ((P.mem x).mpr (.inl q))⟩
  · have y : x ∈ l := by
      rcases Classical.em (x ∈ l) with q | q
      · exact q
      · rw [decide_eq_false q] at c; cases c
    refine Tt.ret ⟨by show l.length ≤ _; omega, fun z => ?_, P.nd, fun q => ?_, fun q => ?_⟩
    · show z ∈ l ↔ _
      rw [am, P.mem z]
      constructor
      · exact fun q => q.elim .inl fun q => .inr (.inl q)
      · rintro (q | q | q)
        · exact .inl q
        · exact .inr q
        · exact (P.mem z).mp (q ▸ y)
    · obtain ⟨q1, q2⟩ := P.no q
      refine ⟨q1, fun z hz => ?_⟩
      rcases (am z).mp hz with w | w
      · exact q2 z w
      · have q1 : l = row := q1
        rw [w, ← q1]; exact y
    · obtain ⟨z, z1, z2⟩ := P.yes q
      exact ⟨z, (am z).mpr (.inl z1), z2⟩
/-- the law's sets over heads hs and tokens ts -/
structure LS (hs ts : List Str) (s : List Str × List (Str × List Str) × List (Str × List Str)) : Prop where
  e : ∀ x ∈ s.1, x ∈ hs
  en : s.1.Nodup
  f : ∀ h ∈ hs, ∃ l, dkey s.2.1 h = some l ∧ l.Nodup ∧ ∀ x ∈ l, x ∈ ts
  b : ∀ h ∈ hs, ∃ l, dkey s.2.2 h = some l ∧ l.Nodup ∧ ∀ x ∈ l, x ∈ ts
/-- a side over heads hs and tokens ts -/
structure SideOk (hs ts : List Str) (side : List Str) : Prop where
  m : ∀ s ∈ side, s ∈ hs ∨ s ∈ ts
  l : side.length ≤ 20
structure Voc (hs ts : List Str) : Prop where
  h : ∀ s ∈ hs, m__law_is_token s = .ok false
  t : ∀ s ∈ ts, m__law_is_token s = .ok true
  lh : hs.length ≤ 20
  lt : ts.length ≤ 40
theorem nd_le {l ts : List Str} (h : l.Nodup) (s : ∀ x ∈ l, x ∈ ts) : l.length ≤ ts.length := nodup_len h s
end Gt
namespace Gt
open PySem PySem.Spec PyProof.Rows L2
abbrev LRow (hs ts : List Str) (d : List (Str × List Str)) : Prop := ∀ h ∈ hs, ∃ l, dkey d h = some l ∧ l.Nodup ∧ ∀ x ∈ l, x ∈ ts
theorem LRow.put {hs ts : List Str} {d : List (Str × List Str)} (L : LRow hs ts d) {k : Str} {l : List Str} (n : l.Nodup) (s : ∀ x ∈ l, x ∈ ts) : LRow hs ts (dput d k l) := fun h hh => by
  rw [dkey_dput]
  by_cases e : k = h
  · rw [if_pos e]; exact ⟨l, rfl, n, s⟩
  · rw [if_neg e]; exact L h hh
/-- rules of a host -/
structure HR (hs ts : List Str) (rs : RL) : Prop where
  v : Voc hs ts
  h : ∀ r ∈ rs, r.1 ∈ hs
  s : ∀ r ∈ rs, SideOk hs ts r.2
  a : ∀ h ∈ hs, ∃ r ∈ rs, r.1 = h
  l : rs.length ≤ 100
end Gt
namespace Gt
open PySem PySem.Spec PyProof.Rows L2
/-- the name of number k -/
noncomputable def nameT (k st : Int) (cap : Bool) : Str := match m__law_name k (st % 12) cap with
  | .ok s => s
  | .error _ => ""
theorem name12 (k st : Int) (cap : Bool) : m__law_name k st cap = m__law_name k (st % 12) cap := by
  unfold m__law_name
  rw [show st % 12 % 3 = st % 3 by omega, show st % 12 / 3 % 4 = st / 3 % 4 by omega]
def isOk {α : Type} : M α → Bool
  | .ok _ => true
  | .error _ => false
theorem name_tab : ∀ k < 8, ∀ st < 12, ∀ cap : Bool, isOk (m__law_name (k : Nat) (st : Nat) cap) = true ∧ (nameT (k : Nat) (st : Nat) cap).length ≤ 8 := by decide +kernel
theorem t_name {k st : Int} {cap : Bool} (h : 0 ≤ k ∧ k < 8) : m__law_name k st cap = .ok (nameT k st cap) ∧ (nameT k st cap).length ≤ 8 := by
  obtain ⟨k, rfl⟩ := Int.eq_ofNat_of_zero_le h.1
  have e0 : 0 ≤ st % 12 := Int.emod_nonneg _ (by decide)
  have e1 : st % 12 < 12 := Int.emod_lt_of_pos _ (by decide)
  have eN : nameT k st cap = nameT k (st % 12) cap := by unfold nameT; rw [Int.emod_emod_of_dvd _ (by decide)]
  rw [name12, eN]
  obtain ⟨s, hs⟩ := Int.eq_ofNat_of_zero_le e0
  rw [hs] at e1 ⊢
  obtain ⟨a, b⟩ := name_tab k (by omega) s (by omega) cap
  refine ⟨?_, b⟩
  unfold nameT
  rw [show ((s : Int)) % 12 = (s : Int) by omega]
  cases q : m__law_name (k : Int) (s : Int) cap with
  | ok v => rfl
  | error _ => rw [q] at a; cases a
/-- all names that can be drawn -/
noncomputable def names (cap : Bool) : List Str := (List.range 8).flatMap fun k => (List.range 12).map fun (st : Nat) => nameT (k : Nat) (st : Nat) cap
theorem name_in {k st : Int} {cap : Bool} (h : 0 ≤ k ∧ k < 8) : nameT k st cap ∈ names cap := by
  obtain ⟨k, rfl⟩ := Int.eq_ofNat_of_zero_le h.1
  have e0 : 0 ≤ st % 12 := Int.emod_nonneg _ (by decide)
  have e1 : st % 12 < 12 := Int.emod_lt_of_pos _ (by decide)
  have eN : nameT k st cap = nameT k (st % 12) cap := by unfold nameT; rw [Int.emod_emod_of_dvd _ (by decide)]
  obtain ⟨s, hs⟩ := Int.eq_ofNat_of_zero_le e0
  rw [eN, hs]
  rw [hs] at e1
  exact List.mem_flatMap.mpr ⟨k, List.mem_range.mpr (by omega), List.mem_map.mpr ⟨s, List.mem_range.mpr (by omega), rfl⟩⟩
end Gt
namespace Gt
open PySem PySem.Spec PyProof.Rows L2
structure RowOk (hs ts : List Str) (m : Nat) (row : List (List Str)) : Prop where
  s : ∀ side ∈ row, (∀ x ∈ side, x ∈ hs ∨ x ∈ ts) ∧ side.length ≤ 12
  b : ∃ t r q, row = (t :: r) :: q ∧ t ∈ ts
  l : row.length ≤ m
theorem upsFrom_mem {a : Int} {n : Nat} {x : Int} (h : x ∈ upsFrom a n) : a ≤ x ∧ x < a + n := by
  unfold upsFrom at h
  obtain ⟨i, hi, e⟩ := List.mem_map.mp h
  have := List.mem_range.mp hi
  omega
theorem upsFrom_len (a : Int) (n : Nat) : (upsFrom a n).length = n := by
  unfold upsFrom
  rw [List.length_map, List.length_range]
theorem ix_at {β : Type} {α : Type} {xs : List α} {i : Nat} {f : α → M β} {Q : β → Prop} (h : i < xs.length) (g : ∀ x, xs[i]? = some x → x ∈ xs → Tt (f x) Q) : Tt (mb (oM xs[i]?) f) Q :=
  Tt.oM (List.getElem?_eq_getElem h) (g _ (List.getElem?_eq_getElem h) (List.getElem_mem h))
theorem upsFrom_at {a : Int} {n : Nat} {pre post : List Int} {k : Int} (e : upsFrom a n = pre ++ k :: post) : k = a + (pre.length : Int) ∧ pre.length < n := by
  have h1 : (upsFrom a n)[pre.length]? = some k := by
    rw [e, List.getElem?_append_right (Nat.le_refl _), Nat.sub_self]
    rfl
  have h2 : pre.length < n := by
    have := congrArg List.length e
    rw [upsFrom_len, List.length_append, List.length_cons] at this
    omega
  unfold upsFrom at h1
  rw [List.getElem?_map, List.getElem?_range h2] at h1
  exact ⟨(Option.some.inj h1).symm, h2⟩
/-- the first sides: a token, then later heads and tokens; each of the heads 1 .. m-1 stands in an earlier first side -/
structure FsO (hs ts : List Str) (m : Nat) (S : List (List (List Str))) : Prop where
  f : ∀ (i : Nat) (row : List (List Str)), S[i]? = some row → ∃ t w q, row = (t :: w) :: q ∧ t ∈ ts ∧ ∀ x ∈ w, x ∈ ts ∨ ∃ j : Nat, i < j ∧ hs[j]? = some x
  r : ∀ j : Nat, 1 ≤ j → j < m → ∃ i : Nat, i < j ∧ ∃ f q, S[i]? = some (f :: q) ∧ ∀ x, hs[j]? = some x → x ∈ f
theorem set_at {α : Type} {S : List α} {i : Nat} {a b : α} {j : Nat} {x : α} (e : S[i]? = some a) (h : (S.set i b)[j]? = some x) : (j = i ∧ x = b) ∨ (j ≠ i ∧ S[j]? = some x) := by
  have hi : i < S.length := (List.getElem?_eq_some_iff.mp e).1
  by_cases q : i = j
  · subst q
    rw [List.getElem?_set_self hi] at h
    exact .inl ⟨rfl, (Option.some.inj h).symm⟩
  · rw [List.getElem?_set_ne q] at h
    exact .inr ⟨fun z => q z.symm, h⟩
/-- how long the first sides are, beside their first token; how many of their signs are heads -/
def FsW (hs : List Str) (m : Nat) (S : List (List (List Str))) : Prop := ∀ (i : Nat) (row : List (List Str)), S[i]? = some row → ∃ t w q, row = (t :: w) :: q ∧ w.length ≤ 2 * (m - 1 - i) ∧ (w.filter fun x => decide (x ∈ hs)).length ≤ m - 1 - i
theorem FsW.up {hs : List Str} {m m' : Nat} {S : List (List (List Str))} (F : FsW hs m S) (h : m ≤ m') : FsW hs m' S := fun i row e => by
  obtain ⟨t, w, q, e1, e2, e3⟩ := F i row e
  exact ⟨t, w, q, e1, by omega, by omega⟩
theorem FsW.set {hs : List Str} {m i : Nat} {S : List (List (List Str))} {t : Str} {w' : List Str} {q' row0 : List (List Str)} (F : FsW hs m S) (e : S[i]? = some row0) (l : w'.length ≤ 2 * (m - 1 - i)) (c : (w'.filter fun x => decide (x ∈ hs)).length ≤ m - 1 - i) : FsW hs m (S.set i ((t :: w') :: q')) := fun k row h => by
  rcases set_at e h with ⟨rfl, rfl⟩ | ⟨_, h⟩
  · exact ⟨t, w', q', rfl, l, c⟩
  · exact F k row h
theorem cnt_snoc {hs w : List Str} {x : Str} : ((w ++ [x]).filter fun x => decide (x ∈ hs)).length ≤ (w.filter fun x => decide (x ∈ hs)).length + 1 := by
  rw [List.filter_append, List.length_append]
  have := List.length_filter_le (fun x => decide (x ∈ hs)) [x]
  rw [List.length_singleton] at this
  omega
theorem cnt_no {hs w : List Str} {x : Str} (h : x ∉ hs) : ((w ++ [x]).filter fun x => decide (x ∈ hs)).length = (w.filter fun x => decide (x ∈ hs)).length := by
  rw [List.filter_append, List.length_append, List.filter_cons_of_neg (by simpa using h)]
  rfl
theorem FsO.set {hs ts : List Str} {m i : Nat} {S : List (List (List Str))} {t : Str} {w w' : List Str} {q q' : List (List Str)} (F : FsO hs ts m S) (e : S[i]? = some ((t :: w) :: q)) (ht : t ∈ ts) (sub : ∀ x ∈ w, x ∈ w') (ok : ∀ x ∈ w', x ∈ ts ∨ ∃ j, i < j ∧ hs[j]? = some x) : FsO hs ts m (S.set i ((t :: w') :: q')) := by
  have hi : i < S.length := (List.getElem?_eq_some_iff.mp e).1
  refine ⟨fun k row h => ?_, fun j h1 h2 => ?_⟩
  · rcases set_at e h with ⟨rfl, rfl⟩ | ⟨_, h⟩
    · exact ⟨t, w', q', rfl, ht, ok⟩
    · exact F.f k row h
  · obtain ⟨k, hk, f, p, ek, hf⟩ := F.r j h1 h2
    by_cases z : k = i
    · subst z
      rw [e] at ek
      cases ek
      refine ⟨k, hk, t :: w', q', List.getElem?_set_self hi, fun x hx => ?_⟩
      exact (List.mem_cons.mp (hf x hx)).elim (fun y => y ▸ List.mem_cons_self) fun y => List.mem_cons_of_mem _ (sub x y)
    · exact ⟨k, hk, f, p, by rw [List.getElem?_set_ne fun y => z y.symm]; exact ek, hf⟩
theorem FsO.more {hs ts : List Str} {m i : Nat} {S : List (List (List Str))} {f : List Str} {q : List (List Str)} {h : Str} (F : FsO hs ts m S) (hi : i < m) (e : S[i]? = some (f :: q)) (eh : hs[m]? = some h) (hf : h ∈ f) : FsO hs ts (m + 1) S := by
  refine ⟨F.f, fun j h1 h2 => ?_⟩
  by_cases z : j = m
  · subst z
    exact ⟨i, hi, f, q, e, fun x hx => by rw [eh] at hx; cases hx; exact hf⟩
  · exact F.r j h1 (by omega)
theorem t_offers {hs ts : List Str} {draws : List Int} {n : Int} {off : List Int} (hd : draws.length = 46) (dd : ∀ d ∈ draws, 0 ≤ d ∧ d < 840) (hn : 1 ≤ n ∧ n ≤ 6) (lh : (hs.length : Int) = n) (lt : ts.length = 6) (lo : off.length = 6) (dj : ∀ x ∈ ts, x ∉ hs) :
    Tt (m__law_offers draws n hs ts off) fun S => (S.length : Int) = n ∧ (∀ row ∈ S, RowOk hs ts 7 row) ∧ FsO hs ts n.toNat S ∧ FsW hs n.toNat S := by
  unfold m__law_offers
  refine Tt.chk (by omega) (Tt.bind (Tt.lc (P := fun row : List (List Str) => ∃ t, t ∈ ts ∧ row = [[t]]) fun k hk => ?_) fun S0 ⟨l0, h0⟩ => ?_)
  · have := ups_mem hk
    refine Tt.ix (by omega) (by omega) fun d hd' _ => Tt.ix (by have := dd d hd'; omega) (by have := dd d hd'; omega) fun t ht _ => Tt.ret ⟨t, ht, rfl⟩
  rw [ups_len] at l0
  refine Tt.chk (by omega) (Tt.bind (Tt.for (fun (pre : List Int) (S : List (List (List Str))) => (S.length : Int) = n ∧ (∀ row ∈ S, ∃ t r, t ∈ ts ∧ row = [t :: r] ∧ (∀ x ∈ t :: r, x ∈ hs ∨ x ∈ ts) ∧ (t :: r).length ≤ 1 + 2 * pre.length) ∧ FsO hs ts (1 + pre.length) S ∧ FsW hs (1 + pre.length) S) ⟨by omega, fun row hr => ?_, ⟨fun i row hr => ?_, fun j h1 h2 => by have : j < 1 + 0 := h2; omega⟩, fun i row hr => ?_⟩ ?_) fun S1 ⟨l1, h1, F1, W1⟩ => ?_)
  · obtain ⟨t, ht, e⟩ := h0 row hr
    exact ⟨t, [], ht, e, fun x hx => .inr (by rw [List.mem_singleton.mp hx]; exact ht), Nat.le_refl _⟩
  · obtain ⟨t, ht, e⟩ := h0 row (List.mem_of_getElem? hr)
    exact ⟨t, [], [], e, ht, fun x q => nomatch q⟩
  · obtain ⟨t, ht, e⟩ := h0 row (List.mem_of_getElem? hr)
    exact ⟨t, [], [], e, Nat.zero_le _, Nat.zero_le _⟩
  · rintro pre k post S e ⟨lS, hS, FS, WS⟩
    obtain ⟨ek, _⟩ := upsFrom_at e
    have hk : k ∈ upsFrom (1 : Int) (n - 1).toNat := by rw [e]; exact List.mem_append_right _ List.mem_cons_self
    have hk2 := upsFrom_mem hk
    have lp : (pre ++ [k]).length = pre.length + 1 := by rw [List.length_append]; rfl
    refine Tt.ix (by omega) (by omega) fun d hd' _ => Tt.chk (by omega) ?_
    have d0 := dd d hd'
    have m0 : 0 ≤ d % k := Int.emod_nonneg _ (by omega)
    have m1 : d % k < k := Int.emod_lt_of_pos _ (by omega)
    refine Tt.ixN m0 (by omega) (ix_at (by omega) fun row erow hrow => ?_)
    obtain ⟨t, r, ht, er, hm, hl⟩ := hS row hrow
    subst er
    refine Tt.oM (a := t :: r) atI_zero (Tt.ix (by omega) (by omega) fun h hh eh => Tt.chk (by rw [List.length_singleton]; have : pre.length ≤ 6 := (by have := congrArg List.length e; rw [upsFrom_len, List.length_append, List.length_cons] at this; omega); omega) (Tt.ixN (by omega) (by rw [List.length_singleton]; omega) ?_))
    have hm2 : ∀ x ∈ t :: (r ++ [h]), x ∈ hs ∨ x ∈ ts := fun x hx => by
      rcases List.mem_cons.mp hx with q | q
      · rw [q]; exact .inr ht
      · rcases List.mem_append.mp q with q | q
        · exact hm x (List.mem_cons_of_mem _ q)
        · rw [List.mem_singleton.mp q]; exact .inl hh
    have hl2 : (t :: (r ++ [h])).length ≤ 2 + 2 * pre.length := by
      simp only [List.length_cons, List.length_append, List.length_nil] at hl ⊢
      omega
    have pl : pre.length ≤ 6 := by have := congrArg List.length e; rw [upsFrom_len, List.length_append, List.length_cons] at this; omega
    have keep : ∀ row' ∈ S, ∃ t r, t ∈ ts ∧ row' = [t :: r] ∧ (∀ x ∈ t :: r, x ∈ hs ∨ x ∈ ts) ∧ (t :: r).length ≤ 1 + 2 * (pre ++ [k]).length := fun row' hr' => by
      obtain ⟨t', r', a1, a2, a3, a4⟩ := hS row' hr'
      exact ⟨t', r', a1, a2, a3, by rw [lp]; omega⟩
    have eh : hs[1 + pre.length]? = some h := by rw [show k.toNat = 1 + pre.length by omega] at eh; exact eh
    have iS : (d % k).toNat < S.length := by omega
    have okr : ∀ x ∈ r, x ∈ ts ∨ ∃ j, (d % k).toNat < j ∧ hs[j]? = some x := by
      obtain ⟨t', w', q', e1, _, e3⟩ := FS.f _ _ erow
      cases e1
      exact e3
    have okh : ∀ x ∈ r ++ [h], x ∈ ts ∨ ∃ j, (d % k).toNat < j ∧ hs[j]? = some x := fun x hx => (List.mem_append.mp hx).elim (okr x) fun q => .inr ⟨1 + pre.length, by omega, by rw [List.mem_singleton.mp q]; exact eh⟩
    have F2 : FsO hs ts (1 + pre.length) (S.set (d % k).toNat [t :: (r ++ [h])]) := FS.set erow ht (fun x hx => List.mem_append_left _ hx) okh
    have e2' : (S.set (d % k).toNat [t :: (r ++ [h])])[(d % k).toNat]? = some [t :: (r ++ [h])] := List.getElem?_set_self iS
    have F3 : FsO hs ts (1 + pre.length + 1) (S.set (d % k).toNat [t :: (r ++ [h])]) := F2.more (by omega) e2' eh (List.mem_cons_of_mem _ (List.mem_append_right _ List.mem_cons_self))
    obtain ⟨lr, cr⟩ : r.length ≤ 2 * (1 + pre.length - 1 - (d % k).toNat) ∧ (r.filter fun x => decide (x ∈ hs)).length ≤ 1 + pre.length - 1 - (d % k).toNat := by
      obtain ⟨t', w', q', e1, e2, e3⟩ := WS _ _ erow
      cases e1
      exact ⟨e2, e3⟩
    have cs := cnt_snoc (hs := hs) (w := r) (x := h)
    have ik : (d % k).toNat < 1 + pre.length := by omega
    have W3 : FsW hs (1 + pre.length + 1) (S.set (d % k).toNat [t :: (r ++ [h])]) := (WS.up (Nat.le_succ _)).set erow (by rw [List.length_append, List.length_singleton]; omega) (by omega)
    refine Tt.if (fun _ => ?_) fun _ => Tt.ret ⟨by rw [List.length_set]; exact lS, fun row' hr' => ?_, by rw [lp]; exact F3, by rw [lp]; exact W3⟩
    · refine Tt.oM (a := t :: (r ++ [h])) atI_zero (Tt.ix (by omega) (by omega) fun d2 hd2 _ => Tt.ix (by have := dd d2 hd2; omega) (by have := dd d2 hd2; omega) fun t2 ht2 _ => Tt.chk (by rw [List.length_singleton]; omega) (Tt.ixN (by omega) (by rw [List.length_set, List.length_singleton]; omega) (Tt.ret ⟨by rw [List.length_set, List.length_set]; exact lS, fun row' hr' => ?_, by
        rw [lp]
        exact F3.set e2' ht (fun x hx => List.mem_append_left _ hx) fun x hx => (List.mem_append.mp hx).elim (okh x) fun q => .inl (by rw [List.mem_singleton.mp q]; exact ht2), by
        rw [lp]
        exact W3.set (w' := r ++ [h] ++ [t2]) e2' (by rw [List.length_append, List.length_append, List.length_singleton, List.length_singleton]; omega) (by rw [cnt_no (dj t2 ht2)]; omega)⟩)))
      rcases List.mem_or_eq_of_mem_set hr' with q | q
      · rcases List.mem_or_eq_of_mem_set q with q | q
        · exact keep row' q
        · refine ⟨t, r ++ [h], ht, by rw [q]; rfl, hm2, by rw [lp]; omega⟩
      · refine ⟨t, r ++ [h] ++ [t2], ht, by rw [q]; rfl, fun x hx => ?_, ?_⟩
        · rcases List.mem_cons.mp hx with w | w
          · rw [w]; exact .inr ht
          · rcases List.mem_append.mp w with w | w
            · exact hm2 x (List.mem_cons_of_mem _ w)
            · rw [List.mem_singleton.mp w]; exact .inr ht2
        · rw [lp]
          simp only [List.length_cons, List.length_append, List.length_nil] at hl2 ⊢
          omega
    · rcases List.mem_or_eq_of_mem_set hr' with q | q
      · exact keep row' q
      · exact ⟨t, r ++ [h], ht, by rw [q]; rfl, hm2, by rw [lp]; omega⟩
  rw [upsFrom_len] at h1 F1
  have F1 : FsO hs ts n.toNat S1 := by rw [show n.toNat = 1 + (n - 1).toNat by omega]; exact F1
  have W1 : FsW hs n.toNat S1 := by rw [show n.toNat = 1 + (n - 1).toNat by omega]; rw [upsFrom_len] at W1; exact W1
  refine Tt.ix (by omega) (by omega) fun d14 hd14 _ => Tt.chk (by have := dd d14 hd14; omega) ?_
  have c0 : 0 ≤ d14 % 7 := Int.emod_nonneg _ (by omega)
  have c1 : d14 % 7 < 7 := Int.emod_lt_of_pos _ (by omega)
  refine Tt.bind (Tt.for (fun (pre : List Int) (S : List (List (List Str))) => (S.length : Int) = n ∧ (∀ row ∈ S, RowOk hs ts (1 + pre.length) row) ∧ FsO hs ts n.toNat S ∧ FsW hs n.toNat S) ⟨l1, fun row hr => ?_, F1, W1⟩ ?_) fun S2 ⟨l2, h2, F2, W2⟩ => Tt.ret ⟨l2, fun row hr => ?_, F2, W2⟩
  · obtain ⟨t, r, a1, a2, a3, a4⟩ := h1 row hr
    subst a2
    exact ⟨fun side hs' => by rw [List.mem_singleton.mp hs']; exact ⟨a3, by omega⟩, ⟨t, r, [], rfl, a1⟩, Nat.le_refl _⟩
  · rintro pre k post S e ⟨lS, hS, FS, WS⟩
    have hk : k ∈ ups (d14 % 7).toNat := by rw [e]; exact List.mem_append_right _ List.mem_cons_self
    have hk2 := ups_mem hk
    have lp : (pre ++ [k]).length = pre.length + 1 := by rw [List.length_append]; rfl
    have keep : ∀ row' ∈ S, RowOk hs ts (1 + (pre ++ [k]).length) row' := fun row' hr' => by
      have R := hS row' hr'
      exact ⟨R.s, R.b, by have := R.l; rw [lp]; omega⟩
    refine Tt.ix (by omega) (by omega) fun d hd' _ => Tt.chk (by omega) (Tt.let (Tt.let ?_))
    have d0 := dd d hd'
    have p0 : 0 ≤ d % n := Int.emod_nonneg _ (by omega)
    have p1 : d % n < n := Int.emod_lt_of_pos _ (by omega)
    have k0 : 0 ≤ d / 4 % 5 := Int.emod_nonneg _ (by omega)
    generalize d % n = place at p0 p1 ⊢
    generalize d / 4 % 5 = kind at k0 ⊢
    refine Tt.ix (by omega) (by omega) fun d2 hd2 _ => Tt.let ?_
    have d20 := dd d2 hd2
    refine Tt.bind (P := fun (side : List Str) => (∀ x ∈ side, x ∈ hs ∨ x ∈ ts) ∧ side.length ≤ 1) ?_ ?_
    · refine Tt.if (fun c => ?_) fun _ => Tt.if (fun _ => ?_) fun _ => Tt.ret ⟨(fun x q => nomatch q), Nat.zero_le _⟩
      · have c2 := of_decide_eq_true ((Bool.and_eq_true _ _).mp c).2
        have q0 : 0 ≤ d2 / 4 % (n - place - 1) := Int.emod_nonneg _ (by omega)
        have q1 : d2 / 4 % (n - place - 1) < n - place - 1 := Int.emod_lt_of_pos _ (by omega)
        exact Tt.chk (by omega) (Tt.ix (by omega) (by omega) fun h hh _ => Tt.let (Tt.ret ⟨fun x hx => by rw [List.mem_singleton.mp hx]; exact .inl hh, Nat.le_refl _⟩))
      · exact Tt.ix (by omega) (by omega) fun t ht _ => Tt.let (Tt.ret ⟨fun x hx => by rw [List.mem_singleton.mp hx]; exact .inr ht, Nat.le_refl _⟩)
    rintro side0 ⟨sm, sl⟩
    have cb : 0 ≤ (d2 % 4) * (b2 (decide ((0 : Int) < kind))) ∧ (d2 % 4) * (b2 (decide ((0 : Int) < kind))) ≤ 3 := by
      cases decide ((0 : Int) < kind)
      · show 0 ≤ d2 % 4 * 0 ∧ d2 % 4 * 0 ≤ 3; omega
      · show 0 ≤ d2 % 4 * 1 ∧ d2 % 4 * 1 ≤ 3; omega
    generalize hg : (d2 % 4) * (b2 (decide ((0 : Int) < kind))) = w at cb
    have cl : (cut draws (some ((17 : Int) + ((5 : Int) * k))) (some (((17 : Int) + ((5 : Int) * k)) + w))).length ≤ 3 := by
      rw [cut_len_in (by omega) (by omega) (by omega)]; omega
    refine Tt.bind (Tt.for (fun (pre : List Int) (s : List (List (List Str)) × List Str) => s.1 = S ∧ (∀ x ∈ s.2, x ∈ hs ∨ x ∈ ts) ∧ s.2.length ≤ 1 + pre.length) ⟨rfl, sm, by show side0.length ≤ 1; exact sl⟩ ?_) ?_
    · rintro pre3 d3 post3 ⟨S3, side3⟩ e3 ⟨eS, sm3, sl3⟩
      have eS : S3 = S := eS
      have sl3 : side3.length ≤ 1 + pre3.length := sl3
      have hd3 : d3 ∈ draws := cut_mem (by rw [e3]; exact List.mem_append_right _ List.mem_cons_self)
      have d30 := dd d3 hd3
      have pl3 : pre3.length + 1 ≤ 3 := by have := congrArg List.length e3; rw [List.length_append, List.length_cons] at this; omega
      refine Tt.ix (by omega) (by simp only [List.length_cons, List.length_nil]; omega) fun l hl _ => ?_
      have hll : (0 < (l.length : Int)) ∧ ∀ x ∈ l, x ∈ hs ∨ x ∈ ts := by
        rcases List.mem_cons.mp hl with q | q
        · rw [q]; exact ⟨by omega, fun x hx => .inr hx⟩
        · rw [List.mem_singleton.mp q]; exact ⟨by omega, fun x hx => .inl hx⟩
      refine Tt.chk hll.1 (Tt.ix (Int.emod_nonneg _ (by omega)) (Int.emod_lt_of_pos _ hll.1) fun y hy _ => Tt.chk (by show side3.length + [y].length ≤ 100000; rw [List.length_singleton]; omega) (Tt.let (Tt.ret ⟨eS, fun x hx => ?_, ?_⟩)))
      · rcases List.mem_append.mp hx with q | q
        · exact sm3 x q
        · rw [List.mem_singleton.mp q]; exact hll.2 y hy
      · show (side3 ++ [y]).length ≤ _
        rw [List.length_append, List.length_append, List.length_singleton, List.length_singleton]; omega
    · rintro ⟨S4, side4⟩ ⟨eS, sm4, sl4⟩
      have eS : S4 = S := eS
      subst eS
      have sl4 : side4.length ≤ 1 + _ := sl4
      have sl5 : side4.length ≤ 12 := by omega
      refine Tt.ix (by omega) (by omega) fun o _ _ => Tt.if (fun _ => ?_) fun _ => Tt.ret ⟨lS, keep, FS, WS⟩
      refine Tt.ixN p0 (by show place < (S4.length : Int); omega) (ix_at (by show place.toNat < S4.length; omega) fun row erow hrow => ?_)
      have R := hS row hrow
      have pl : pre.length ≤ 7 := by have := congrArg List.length e; rw [ups_len, List.length_append, List.length_cons] at this; omega
      have rl := R.l
      obtain ⟨ft, fw, fq, fe, fT, fx⟩ := FS.f _ _ erow
      refine Tt.chk (by omega) (Tt.ret ⟨by rw [List.length_set]; exact lS, fun row' hr' => ?_, by
        subst fe
        exact FS.set erow fT (fun x hx => hx) fx, by
        subst fe
        obtain ⟨t', w', q', e1, e2, e3⟩ := WS _ _ erow
        cases e1
        exact WS.set erow e2 e3⟩)
      rcases List.mem_or_eq_of_mem_set hr' with q | q
      · exact keep row' q
      · rw [q]
        obtain ⟨t, r, w', er, ht⟩ := R.b
        refine ⟨fun side hs' => ?_, ⟨t, r, w' ++ [side4], by rw [er]; rfl, ht⟩, by rw [List.length_append, lp, List.length_singleton]; omega⟩
        rcases List.mem_append.mp hs' with z | z
        · exact R.s side z
        · rw [List.mem_singleton.mp z]; exact ⟨sm4, sl5⟩
  · have R := h2 row hr
    have rl := R.l
    rw [ups_len] at rl
    exact ⟨R.s, R.b, by omega⟩
end Gt
namespace Gt
open PySem PySem.Spec PyProof.Rows L2
/-- may be empty -/
inductive Emp (rs : RL) : Str → Prop
  | mk (r : Str × List Str) : r ∈ rs → (∀ s ∈ r.2, Emp rs s) → Emp rs r.1
end Gt
namespace Gt
open PySem PySem.Spec PyProof.Rows L2
/-- leads to tokens -/
inductive Fin' (rs : RL) : Str → Prop
  | mk (r : Str × List Str) : r ∈ rs → (∀ s ∈ r.2, tok s = false → Fin' rs s) → Fin' rs r.1
/-- is reached -/
inductive Rea (rs : RL) (h0 : Str) : Str → Prop
  | start : Rea rs h0 h0
  | step (r : Str × List Str) (s : Str) : r ∈ rs → Rea rs h0 r.1 → s ∈ r.2 → Rea rs h0 s
end Gt
namespace Gt
open PySem PySem.Spec PyProof.Rows L2
/-- x starts signs, by E (may be empty) and R (starts) -/
def StL (E : Str → Prop) (R : Str → Str → Prop) : List Str → Str → Prop
  | [], _ => False
  | s :: r, x => (tok s = true ∧ x = s) ∨ (tok s = false ∧ (R s x ∨ (E s ∧ StL E R r x)))
/-- x follows s in a side, by E, F (starts) and A (follows the head) -/
def FoL (E : Str → Prop) (F : Str → Str → Prop) (A : Str → Prop) : List Str → Str → Str → Prop
  | [], _, _ => False
  | y :: r, s, x => (y = s ∧ tok y = false ∧ (StL E F r x ∨ ((∀ z ∈ r, E z) ∧ A x))) ∨ FoL E F A r s x
theorem StL.mono {E E' : Str → Prop} {R R' : Str → Str → Prop} {x : Str} (hE : ∀ s, E s → E' s) (hR : ∀ s, R s x → R' s x) : ∀ {l : List Str}, StL E R l x → StL E' R' l x
  | [], h => h.elim
  | s :: r, h => h.imp id fun q => ⟨q.1, q.2.imp (hR s) fun w => ⟨hE s w.1, StL.mono hE hR w.2⟩⟩
theorem FoL.mono {E E' : Str → Prop} {F F' : Str → Str → Prop} {A A' : Str → Prop} {x : Str} (hE : ∀ s, E s → E' s) (hF : ∀ s, F s x → F' s x) (hA : A x → A' x) {s : Str} : ∀ {l : List Str}, FoL E F A l s x → FoL E' F' A' l s x
  | [], h => h.elim
  | y :: r, h => h.imp (fun q => ⟨q.1, q.2.1, q.2.2.imp (StL.mono hE hF) fun w => ⟨fun z hz => hE z (w.1 z hz), hA w.2⟩⟩) (FoL.mono hE hF hA)
theorem FoL.app {E : Str → Prop} {F : Str → Str → Prop} {A : Str → Prop} {s x : Str} {l : List Str} : ∀ {p : List Str}, FoL E F A l s x → FoL E F A (p ++ l) s x
  | [], h => h
  | y :: p, h => .inr (FoL.app (p := p) h)
/-- x starts h -/
def Frs (rs : RL) (h x : Str) : Prop := ∀ R : Str → Str → Prop, (∀ r ∈ rs, ∀ x, StL (Emp rs) R r.2 x → R r.1 x) → R h x
theorem Frs.mk {rs : RL} {r : Str × List Str} {x : Str} (hr : r ∈ rs) (h : StL (Emp rs) (Frs rs) r.2 x) : Frs rs r.1 x := fun R hR => hR r hr x (h.mono (fun _ q => q) fun s q => q R hR)
/-- x follows s -/
def Fol (rs : RL) (s x : Str) : Prop := ∀ B : Str → Str → Prop, (∀ r ∈ rs, ∀ s x, FoL (Emp rs) (Frs rs) (B r.1) r.2 s x → B s x) → B s x
theorem Fol.mk {rs : RL} {r : Str × List Str} {s x : Str} (hr : r ∈ rs) (h : FoL (Emp rs) (Frs rs) (Fol rs r.1) r.2 s x) : Fol rs s x := fun B hB => hB r hr s x (h.mono (fun _ q => q) (fun _ q => q) fun q => q B hB)
theorem Emp.sub {rs rs' : RL} (h : ∀ r ∈ rs, r ∈ rs') {s : Str} (e : Emp rs s) : Emp rs' s := by
  induction e with
  | mk r hr _ ih => exact .mk r (h r hr) ih
theorem Frs.sub {rs rs' : RL} (h : ∀ r ∈ rs, r ∈ rs') {s x : Str} (e : Frs rs s x) : Frs rs' s x := e _ fun r hr x q => .mk (h r hr) (q.mono (fun _ w => w.sub h) fun _ w => w)
theorem Fol.sub {rs rs' : RL} (h : ∀ r ∈ rs, r ∈ rs') {s x : Str} (e : Fol rs s x) : Fol rs' s x := e _ fun r hr s x q => .mk (h r hr) (q.mono (fun _ w => w.sub h) (fun _ w => w.sub h) fun w => w)
theorem Emp.nt {rs : RL} (nt : ∀ r ∈ rs, tok r.1 = false) {s : Str} (e : Emp rs s) : tok s = false := by
  cases e with
  | mk r hr _ => exact nt r hr
/-- what comes behind the rest of a side -/
def Bhd (rs : RL) (A : Str → Prop) (suf : List Str) (x : Str) : Prop := StL (Emp rs) (Frs rs) suf x ∨ ((∀ z ∈ suf, Emp rs z) ∧ A x)
theorem bhd_tok {rs : RL} {A : Str → Prop} (nt : ∀ r ∈ rs, tok r.1 = false) {s : Str} (t : tok s = true) {suf : List Str} {x : Str} : Bhd rs A (s :: suf) x ↔ x = s := by
  constructor
  · rintro ((⟨_, h⟩ | ⟨h, _⟩) | ⟨h, _⟩)
    · exact h
    · rw [t] at h; cases h
    · have := (h s List.mem_cons_self).nt nt
      rw [t] at this; cases this
  · exact fun h => .inl (.inl ⟨t, h⟩)
theorem bhd_nt {rs : RL} {A : Str → Prop} {s : Str} (t : tok s = false) {suf : List Str} {x : Str} : Bhd rs A (s :: suf) x ↔ Frs rs s x ∨ (Emp rs s ∧ Bhd rs A suf x) := by
  constructor
  · rintro ((⟨h, _⟩ | ⟨_, h | ⟨h1, h2⟩⟩) | ⟨h1, h2⟩)
    · rw [t] at h; cases h
    · exact .inl h
    · exact .inr ⟨h1, .inl h2⟩
    · exact .inr ⟨h1 s List.mem_cons_self, .inr ⟨fun z hz => h1 z (List.mem_cons_of_mem _ hz), h2⟩⟩
  · rintro (h | ⟨h1, h | ⟨h2, h3⟩⟩)
    · exact .inl (.inr ⟨t, .inl h⟩)
    · exact .inl (.inr ⟨t, .inr ⟨h1, h⟩⟩)
    · exact .inr ⟨fun z hz => (List.mem_cons.mp hz).elim (fun e => e ▸ h1) (h2 z), h3⟩
end Gt
namespace Gt
open PySem PySem.Spec PyProof.Rows L2
abbrev LSt := List Str × List (Str × List Str) × List (Str × List Str)
noncomputable def cP (U : List Str) (P : Str → Prop) : Nat := (U.map fun u => @ite _ (P u) (Classical.propDecidable _) 1 0).sum
theorem cP_max {U : List Str} {P : Str → Prop} : cP U P ≤ U.length := by
  have := sum_max (U := U) (f := fun u => @ite _ (P u) (Classical.propDecidable _) 1 0) (n := 1) fun u _ => by
    by_cases q : P u
    · rw [if_pos q]; exact Nat.le_refl _
    · rw [if_neg q]; exact Nat.zero_le _
  unfold cP
  omega
theorem cP_lt {U : List Str} {P Q : Str → Prop} (h : ∀ u, P u → Q u) {k : Str} (hk : k ∈ U) (n : ¬ P k) (y : Q k) : cP U P < cP U Q := sum_lt (fun u _ => by
  by_cases q : P u
  · rw [if_pos q, if_pos (h u q)]; exact Nat.le_refl _
  · rw [if_neg q]; exact Nat.zero_le _) hk (by rw [if_neg n, if_pos y]; exact Nat.zero_lt_one)
/-- what is held is so -/
structure LX (rs : RL) (s : LSt) : Prop where
  e : ∀ h ∈ s.1, Emp rs h
  f : ∀ h x, x ∈ row s.2.1 h → Frs rs h x
  b : ∀ h x, x ∈ row s.2.2 h → Fol rs h x
structure LLe (s s' : LSt) : Prop where
  e : ∀ h ∈ s.1, h ∈ s'.1
  f : ∀ h x, x ∈ row s.2.1 h → x ∈ row s'.2.1 h
  b : ∀ h x, x ∈ row s.2.2 h → x ∈ row s'.2.2 h
theorem LLe.refl (s : LSt) : LLe s s := ⟨fun _ q => q, fun _ _ q => q, fun _ _ q => q⟩
theorem LLe.trans {a b c : LSt} (h : LLe a b) (h' : LLe b c) : LLe a c := ⟨fun x q => h'.e x (h.e x q), fun x y q => h'.f x y (h.f x y q), fun x y q => h'.b x y (h.b x y q)⟩
/-- what a rule says by s0 is in s -/
structure Pas (s0 s : LSt) (r : Str × List Str) : Prop where
  e : (∀ y ∈ r.2, y ∈ s0.1) → r.1 ∈ s.1
  f : ∀ x, StL (· ∈ s0.1) (fun h x => x ∈ row s0.2.1 h) r.2 x → x ∈ row s.2.1 r.1
  b : ∀ y x, FoL (· ∈ s0.1) (fun h x => x ∈ row s0.2.1 h) (fun x => x ∈ row s0.2.2 r.1) r.2 y x → x ∈ row s.2.2 y
theorem Pas.up {s0 s s' : LSt} {r : Str × List Str} (P : Pas s0 s r) (h : LLe s s') : Pas s0 s' r := ⟨fun q => h.e _ (P.e q), fun x q => h.f _ _ (P.f x q), fun y x q => h.b _ _ (P.b y x q)⟩
def cE (rs : RL) (s : LSt) : Prop := ∀ h, Emp rs h → h ∈ s.1
def cF (rs : RL) (s : LSt) (x : Str) : Prop := cE rs s ∧ ∀ h, Frs rs h x → x ∈ row s.2.1 h
def cB (rs : RL) (s : LSt) (x : Str) : Prop := (∀ x, cF rs s x) ∧ ∀ h, Fol rs h x → x ∈ row s.2.2 h
theorem cE.up {rs : RL} {s s' : LSt} (c : cE rs s) (h : LLe s s') : cE rs s' := fun k q => h.e k (c k q)
theorem cF.up {rs : RL} {s s' : LSt} {x : Str} (c : cF rs s x) (h : LLe s s') : cF rs s' x := ⟨c.1.up h, fun k q => h.f k x (c.2 k q)⟩
theorem cB.up {rs : RL} {s s' : LSt} {x : Str} (c : cB rs s x) (h : LLe s s') : cB rs s' x := ⟨fun y => (c.1 y).up h, fun k q => h.b k x (c.2 k q)⟩
theorem no_e {rs : RL} {s s' : LSt} (P : ∀ r ∈ rs, Pas s s' r) (n : ∀ h ∈ s'.1, h ∈ s.1) : cE rs s := fun h q => by
  induction q with
  | mk r hr _ ih => exact n _ ((P r hr).e ih)
theorem no_f {rs : RL} {s s' : LSt} {x : Str} (P : ∀ r ∈ rs, Pas s s' r) (c : cE rs s) (n : ∀ h, x ∈ row s'.2.1 h → x ∈ row s.2.1 h) : cF rs s x := by
  refine ⟨c, fun h q => q (fun h y => y = x → x ∈ row s.2.1 h) (fun r hr y z e => ?_) rfl⟩
  subst e
  exact n _ ((P r hr).f y (z.mono c fun s w => w rfl))
theorem no_b {rs : RL} {s s' : LSt} {x : Str} (P : ∀ r ∈ rs, Pas s s' r) (c : ∀ x, cF rs s x) (n : ∀ h, x ∈ row s'.2.2 h → x ∈ row s.2.2 h) : cB rs s x := by
  refine ⟨c, fun h q => q (fun h y => y = x → x ∈ row s.2.2 h) (fun r hr k y z e => ?_) rfl⟩
  subst e
  exact n _ ((P r hr).b k y (z.mono (c y).1 (fun s w => (c y).2 s w) fun w => w rfl))
theorem Frs.hd {rs : RL} {h x : Str} (q : Frs rs h x) : ∃ r ∈ rs, r.1 = h := q (fun h _ => ∃ r ∈ rs, r.1 = h) fun r hr _ _ => ⟨r, hr, rfl⟩
theorem FoL.in {E : Str → Prop} {F : Str → Str → Prop} {A : Str → Prop} {s x : Str} : ∀ {l : List Str}, FoL E F A l s x → s ∈ l ∧ tok s = false
  | [], h => h.elim
  | y :: r, h => h.elim (fun q => ⟨q.1 ▸ List.mem_cons_self, q.1 ▸ q.2.1⟩) fun q => ⟨List.mem_cons_of_mem _ (FoL.in q).1, (FoL.in q).2⟩
theorem Fol.hd {rs : RL} {h x : Str} (q : Fol rs h x) : tok h = false ∧ ∃ r ∈ rs, h ∈ r.2 := q (fun h _ => tok h = false ∧ ∃ r ∈ rs, h ∈ r.2) fun r hr _ _ w => ⟨w.in.2, r, hr, w.in.1⟩
/-- as far as k turns have brought it -/
structure JJ (rs : RL) (hs : List Str) (k : Nat) (s : LSt) : Prop where
  e : cE rs s ∨ k ≤ cP hs (· ∈ s.1)
  f : ∀ x, cF rs s x ∨ k ≤ hs.length + 1 + cP hs (fun h => x ∈ row s.2.1 h)
  b : ∀ x, cB rs s x ∨ k ≤ 2 * (hs.length + 1) + cP hs (fun h => x ∈ row s.2.2 h)
theorem JJ.step {rs : RL} {hs : List Str} {k : Nat} {s s' : LSt} (J : JJ rs hs k s) (X : LX rs s') (hh : ∀ r ∈ rs, r.1 ∈ hs) (hn : ∀ r ∈ rs, ∀ y ∈ r.2, tok y = false → y ∈ hs) (L : LLe s s') (P : ∀ r ∈ rs, Pas s s' r) : JJ rs hs (k + 1) s' := by
  have me : ∀ h, Emp rs h → h ∈ hs := fun h q => by
    cases q with
    | mk r hr _ => exact hh r hr
  have ce : ∀ c : ¬ cE rs s, k ≤ hs.length := fun c => Nat.le_trans (J.e.resolve_left c) cP_max
  have cf : ∀ x, ¬ cF rs s x → k ≤ hs.length + 1 + hs.length := fun x c => by
    have := (J.f x).resolve_left c
    have := cP_max (U := hs) (P := fun h => x ∈ row s.2.1 h)
    omega
  refine ⟨?_, fun x => ?_, fun x => ?_⟩
  · rcases Classical.em (cE rs s) with c | c
    · exact .inl (c.up L)
    · have j := J.e.resolve_left c
      rcases Classical.em (∀ h ∈ s'.1, h ∈ s.1) with n | n
      · exact absurd (no_e P n) c
      · obtain ⟨h, n⟩ := Classical.not_forall.mp n
        obtain ⟨h1, h2⟩ := Classical.not_imp.mp n
        have := cP_lt (U := hs) (P := (· ∈ s.1)) (Q := (· ∈ s'.1)) L.e (me h (X.e h h1)) h2 h1
        exact .inr (by omega)
  · rcases Classical.em (cF rs s x) with c | c
    · exact .inl (c.up L)
    · have j := (J.f x).resolve_left c
      rcases Classical.em (cE rs s) with d | d
      · rcases Classical.em (∀ h, x ∈ row s'.2.1 h → x ∈ row s.2.1 h) with n | n
        · exact absurd (no_f P d n) c
        · obtain ⟨h, n⟩ := Classical.not_forall.mp n
          obtain ⟨h1, h2⟩ := Classical.not_imp.mp n
          obtain ⟨r, hr, er⟩ := (X.f h x h1).hd
          have := cP_lt (U := hs) (P := fun h => x ∈ row s.2.1 h) (Q := fun h => x ∈ row s'.2.1 h) (fun u => L.f u x) (er ▸ hh r hr) h2 h1
          exact .inr (by omega)
      · have := ce d
        exact .inr (by omega)
  · rcases Classical.em (cB rs s x) with c | c
    · exact .inl (c.up L)
    · have j := (J.b x).resolve_left c
      rcases Classical.em (∀ x, cF rs s x) with d | d
      · rcases Classical.em (∀ h, x ∈ row s'.2.2 h → x ∈ row s.2.2 h) with n | n
        · exact absurd (no_b P d n) c
        · obtain ⟨h, n⟩ := Classical.not_forall.mp n
          obtain ⟨h1, h2⟩ := Classical.not_imp.mp n
          obtain ⟨ht, r, hr, er⟩ := (X.b h x h1).hd
          have := cP_lt (U := hs) (P := fun h => x ∈ row s.2.2 h) (Q := fun h => x ∈ row s'.2.2 h) (fun u => L.b u x) (hn r hr h er ht) h2 h1
          exact .inr (by omega)
      · obtain ⟨y, d⟩ := Classical.not_forall.mp d
        have := cf y d
        exact .inr (by omega)
theorem JJ.end {rs : RL} {hs : List Str} {k : Nat} {s : LSt} (J : JJ rs hs k s) (h : 3 * hs.length + 3 ≤ k) (x : Str) : cB rs s x := by
  have ce : cE rs s := J.e.resolve_right fun q => by have := cP_max (U := hs) (P := (· ∈ s.1)); omega
  refine (J.b x).resolve_right fun q => ?_
  have := cP_max (U := hs) (P := fun h => x ∈ row s.2.2 h)
  omega
theorem row_of {t : List (Str × List Str)} {h : Str} {l : List Str} (e : dkey t h = some l) : row t h = l := by unfold row; rw [e]; rfl
structure VocT (hs ts : List Str) : Prop where
  h : ∀ s ∈ hs, tok s = false
  t : ∀ s ∈ ts, tok s = true
theorem t_lemptyX {hs ts : List Str} {side : List Str} (S : SideOk hs ts side) (x : LSt) : ∃ b, m__law_empty side x = .ok b ∧ (b = true ↔ ∀ y ∈ side, y ∈ x.1) := by
  have := S.l
  unfold m__law_empty
  rw [mb_of (chk_of (decide_eq_true (by omega)))]
  refine ⟨_, rfl, ?_⟩
  rw [decide_eq_true_eq, List.length_map]
  constructor
  · intro h y hy
    have h0 : (side.filter (fun (y3 : Str) => (!(decide (y3 ∈ x.1))))) = [] := List.length_eq_zero_iff.mp (by omega)
    have := List.filter_eq_nil_iff.mp h0 y hy
    simpa using this
  · intro h
    have h0 : (side.filter (fun (y3 : Str) => (!(decide (y3 ∈ x.1))))) = [] := List.filter_eq_nil_iff.mpr fun y hy => by simp [h y hy]
    rw [h0]; rfl
theorem t_lfirstX {hs ts : List Str} (V : Voc hs ts) (T : VocT hs ts) {side : List Str} (S : SideOk hs ts side) {x : LSt} (L : LS hs ts x) : Tt (m__law_first side x) fun l => (l.Nodup ∧ ∀ y ∈ l, y ∈ ts) ∧ ∀ y, y ∈ l ↔ StL (· ∈ x.1) (fun h y => y ∈ row x.2.1 h) side y := by
  unfold m__law_first
  have lt := V.lt
  refine Tt.let (Tt.bind (P := fun (o : Fl (List Str) (List Str)) => ∃ l, (o = .nx l ∨ o = .rt l) ∧ (l.Nodup ∧ ∀ y ∈ l, y ∈ ts) ∧ ∀ y, y ∈ l ↔ StL (· ∈ x.1) (fun h y => y ∈ row x.2.1 h) side y) ?_ ?_)
  · refine (Tt.forF (R := fun o => ∃ l, (o = .nx l ∨ o = .rt l) ∧ (l.Nodup ∧ ∀ y ∈ l, y ∈ ts) ∧ ∀ y, y ∈ l ↔ StL (· ∈ x.1) (fun h y => y ∈ row x.2.1 h) side y) (fun pre (l : List Str) => (l.Nodup ∧ ∀ y ∈ l, y ∈ ts) ∧ ∀ y, StL (· ∈ x.1) (fun h y => y ∈ row x.2.1 h) side y ↔ y ∈ l ∨ StL (· ∈ x.1) (fun h y => y ∈ row x.2.1 h) (side.drop pre.length) y) ⟨⟨List.nodup_nil, fun y q => nomatch q⟩, fun y => ⟨.inr, fun q => q.elim (fun z => nomatch z) id⟩⟩ (fun s h => ⟨s, .inl rfl, h.1, fun y => by
      rw [h.2 y, List.drop_length]
      exact ⟨.inl, fun q => q.elim id fun z => z.elim⟩⟩) ?_)
    rintro pre z post l e ⟨⟨nd, sub⟩, mm⟩
    have hz : z ∈ side := by rw [e]; exact List.mem_append_right _ List.mem_cons_self
    have d1 : side.drop pre.length = z :: post := by rw [e, List.drop_left]
    have d2 : side.drop (pre ++ [z]).length = post := by rw [e, show pre ++ z :: post = (pre ++ [z]) ++ post by rw [List.append_assoc]; rfl, List.drop_left]
    rw [d1] at mm
    have ll := nd_le nd sub
    rcases Classical.em (z ∈ ts) with q | q
    · rw [mb_of (V.t z q)]
      refine (t_put (row := l) (more := [z]) (by rw [List.length_singleton]; omega)).bind fun o P => Tt.ret ?_
      refine ⟨o.1, .inr rfl, ⟨P.nd nd, fun y hy => ((P.mem y).mp hy).elim (sub y) fun w => by rw [List.mem_singleton.mp w]; exact q⟩, fun y => ?_⟩
      rw [P.mem y, mm y, List.mem_singleton]
      exact ⟨fun w => w.imp id fun e => .inl ⟨T.t z q, e⟩, fun w => w.imp id fun e => e.elim (·.2) fun a => by rw [T.t z q] at a; cases a.1⟩
    · have hh : z ∈ hs := (S.m z hz).resolve_right q
      obtain ⟨m, hm, mn, ms⟩ := L.f z hh
      have ml := nd_le mn ms
      have rm := row_of hm
      rw [mb_of (V.h z hh)]
      refine Tt.oM hm ((t_put (row := l) (more := m) (by omega)).bind fun o P => ?_)
      have ok : o.1.Nodup ∧ ∀ y ∈ o.1, y ∈ ts := ⟨P.nd nd, fun y hy => ((P.mem y).mp hy).elim (sub y) (ms y)⟩
      refine Tt.if (fun c => Tt.ret ⟨o.1, .inr rfl, ok, fun y => ?_⟩) fun c => Tt.ret ⟨ok, fun y => ?_⟩
      · have c : z ∉ x.1 := by simpa using c
        rw [P.mem y, mm y]
        refine ⟨fun w => w.imp id fun a => .inr ⟨T.h z hh, .inl (by show y ∈ row x.2.1 z; rw [rm]; exact a)⟩, fun w => w.imp id fun a => ?_⟩
        rcases a with ⟨a, _⟩ | ⟨_, a | ⟨a, _⟩⟩
        · rw [T.h z hh] at a; cases a
        · have a : y ∈ row x.2.1 z := a
          rw [rm] at a; exact a
        · exact absurd a c
      · have c : z ∈ x.1 := by
          rcases Classical.em (z ∈ x.1) with w | w
          · exact w
          · rw [decide_eq_false w] at c; cases c
        rw [d2, P.mem y, mm y]
        constructor
        · rintro (a | ⟨a, _⟩ | ⟨_, a | ⟨_, a⟩⟩)
          · exact .inl (.inl a)
          · rw [T.h z hh] at a; cases a
          · have a : y ∈ row x.2.1 z := a
            rw [rm] at a; exact .inl (.inr a)
          · exact .inr a
        · rintro ((a | a) | a)
          · exact .inl a
          · exact .inr (.inr ⟨T.h z hh, .inl (by show y ∈ row x.2.1 z; rw [rm]; exact a)⟩)
          · exact .inr (.inr ⟨T.h z hh, .inr ⟨c, a⟩⟩)
  · rintro o ⟨l, rfl | rfl, h⟩
    · exact Tt.ret h
    · exact Tt.ret h
theorem ups_at {n : Nat} {pre post : List Int} {k : Int} (e : ups n = pre ++ k :: post) : k = (pre.length : Int) ∧ pre.length < n := by
  have h1 : (ups n)[pre.length]? = some k := by
    rw [e, List.getElem?_append_right (Nat.le_refl _), Nat.sub_self]
    rfl
  have h2 : pre.length < n := by
    have := congrArg List.length e
    rw [ups_len, List.length_append, List.length_cons] at this
    omega
  unfold ups at h1
  rw [List.getElem?_map, List.getElem?_range h2] at h1
  exact ⟨(Option.some.inj h1).symm, h2⟩
theorem or_no {a b : Bool} (h : (a || b) = false) : a = false ∧ b = false := by cases a <;> cases b <;> first | exact ⟨rfl, rfl⟩ | cases h
/-- the end of a side -/
theorem drop_one {side : List Str} {p : Nat} (h : p < side.length) {z : Str} (e : side[side.length - 1 - p]? = some z) : side.drop (side.length - (p + 1)) = z :: side.drop (side.length - p) := by
  have h1 : side.length - (p + 1) < side.length := by omega
  rw [List.drop_eq_getElem_cons h1]
  have e2 : side.length - 1 - p = side.length - (p + 1) := by omega
  rw [e2, List.getElem?_eq_getElem h1] at e
  have e3 : side.length - (p + 1) + 1 = side.length - p := by omega
  rw [e3, Option.some.inj e]
theorem t_lsetsX {hs ts : List Str} {rs : RL} (R : HR hs ts rs) (T : VocT hs ts) : Tt (m__law_sets rs) fun s => LS hs ts s ∧ (∀ h, h ∈ s.1 ↔ Emp rs h) ∧ (∀ h x, x ∈ row s.2.1 h ↔ Frs rs h x) ∧ ∀ h x, x ∈ row s.2.2 h ↔ Fol rs h x := by
  have nt : ∀ r ∈ rs, tok r.1 = false := fun r hr => T.h _ (R.h r hr)
  have nh : ∀ r ∈ rs, ∀ y ∈ r.2, tok y = false → y ∈ hs := fun r hr y hy ty => ((R.s r hr).m y hy).resolve_right fun q => by rw [T.t y q] at ty; cases ty
  unfold m__law_sets
  have lt := R.v.lt
  have lrs := R.l
  refine Tt.let (Tt.bind (Tt.for (fun (pre : RL) (s : LSt) => s.1 = [] ∧ s.2.1.length ≤ pre.length ∧ s.2.2.length ≤ pre.length ∧ (∀ k, row s.2.1 k = [] ∧ row s.2.2 k = []) ∧ ∀ r ∈ pre, dkey s.2.1 r.1 = some [] ∧ dkey s.2.2 r.1 = some [])
    ⟨rfl, Nat.le_refl _, Nat.le_refl _, fun k => ⟨rfl, rfl⟩, fun r q => nomatch q⟩ ?_) ?_)
  · rintro pre r post ⟨em, f, b⟩ e ⟨h1, h2, h3, h5, h4⟩
    have h1 : em = [] := h1
    have h2 : f.length ≤ pre.length := h2
    have h3 : b.length ≤ pre.length := h3
    have hp : pre.length + 1 ≤ rs.length := by rw [e, List.length_append, List.length_cons]; omega
    have ld : ∀ (d : List (Str × List Str)) (k : Str) (v : List Str), (dput d k v).length ≤ d.length + 1 := fun d k v => by rw [len_dput]; split <;> omega
    have l1 := ld f r.1 []
    have l2 := ld b r.1 []
    have lp : (pre ++ [r]).length = pre.length + 1 := by rw [List.length_append]; rfl
    refine Tt.chk (by show f.length < 100000; omega) (Tt.chk (by show b.length < 100000; omega) (Tt.ret ⟨h1, ?_, ?_, fun k => ?_, fun x hx => ?_⟩))
    · show (dput f r.1 []).length ≤ _; omega
    · show (dput b r.1 []).length ≤ _; omega
    · show row (dput f r.1 []) k = [] ∧ row (dput b r.1 []) k = []
      rw [row_put, row_put]
      by_cases w : r.1 = k
      · rw [if_pos w, if_pos w]; exact ⟨rfl, rfl⟩
      · rw [if_neg w, if_neg w]; exact h5 k
    · show dkey (dput f r.1 []) x.1 = some [] ∧ dkey (dput b r.1 []) x.1 = some []
      rw [dkey_dput, dkey_dput]
      rcases List.mem_append.mp hx with q | q
      · by_cases w : r.1 = x.1
        · rw [if_pos w, if_pos w]; exact ⟨rfl, rfl⟩
        · rw [if_neg w, if_neg w]; exact h4 x q
      · rw [List.mem_singleton.mp q, if_pos rfl, if_pos rfl]; exact ⟨rfl, rfl⟩
  rintro ⟨em, f, b⟩ ⟨h1, _, _, h5, h4⟩
  have h1 : em = [] := h1
  subst h1
  have L0 : LS hs ts ([], f, b) := by
    refine ⟨(fun x q => nomatch q), List.nodup_nil, fun h hh => ?_, fun h hh => ?_⟩
    · obtain ⟨r, hr, e⟩ := R.a h hh
      exact ⟨[], e ▸ (h4 r hr).1, List.nodup_nil, fun x q => nomatch q⟩
    · obtain ⟨r, hr, e⟩ := R.a h hh
      exact ⟨[], e ▸ (h4 r hr).2, List.nodup_nil, fun x q => nomatch q⟩
  have X0 : LX rs ([], f, b) := ⟨(fun h q => nomatch q), (fun h x q => by have q : x ∈ row f h := q; rw [(h5 h).1] at q; cases q), fun h x q => by have q : x ∈ row b h := q; rw [(h5 h).2] at q; cases q⟩
  have J0 : JJ rs hs 0 ([], f, b) := ⟨.inr (Nat.zero_le _), fun _ => .inr (Nat.zero_le _), fun _ => .inr (Nat.zero_le _)⟩
  have close : ∀ s : LSt, LS hs ts s → LX rs s → (∀ x, cB rs s x) → LS hs ts s ∧ (∀ h, h ∈ s.1 ↔ Emp rs h) ∧ (∀ h x, x ∈ row s.2.1 h ↔ Frs rs h x) ∧ ∀ h x, x ∈ row s.2.2 h ↔ Fol rs h x := fun s L X C =>
    ⟨L, fun h => ⟨X.e h, ((C "").1 "").1 h⟩, fun h x => ⟨X.f h x, ((C "").1 x).2 h⟩, fun h x => ⟨X.b h x, (C x).2 h⟩⟩
  refine Tt.bind (P := fun (o : Fl LSt LSt) => ∃ s, o = .nx s ∧ LS hs ts s ∧ LX rs s ∧ ∀ x, cB rs s x) ?_ (by
    rintro o ⟨s, rfl, L, X, C⟩
    exact Tt.ret (close s L X C))
  refine Tt.forF (R := fun o => ∃ s, o = .nx s ∧ LS hs ts s ∧ LX rs s ∧ ∀ x, cB rs s x) (fun pre s => LS hs ts s ∧ LX rs s ∧ JJ rs hs pre.length s) ⟨L0, X0, J0⟩ (fun s h => ⟨s, rfl, h.1, h.2.1, h.2.2.end (by rw [ups_len]; have := R.v.lh; show _ ≤ 120; omega)⟩) ?_
  rintro pre0 x0 post0 S0 e0 ⟨LS0, X0, J0⟩
  have lp0 : (pre0 ++ [x0]).length = pre0.length + 1 := by rw [List.length_append]; rfl
  refine Tt.let (Tt.bind (Tt.for (fun (pre : RL) (s : LSt × Bool) => LS hs ts s.1 ∧ LX rs s.1 ∧ LLe S0 s.1 ∧ (∀ r ∈ pre, Pas S0 s.1 r) ∧ (s.2 = false → LLe s.1 S0)) ⟨LS0, X0, LLe.refl _, (fun r q => nomatch q), fun _ => LLe.refl _⟩ ?_) fun s ⟨Ls, Xs, Le, Ps, Gs⟩ => Tt.if (fun c => Tt.ret ⟨_, rfl, Ls, Xs, ?_⟩) fun _ => Tt.ret ⟨Ls, Xs, by rw [lp0]; exact J0.step Xs R.h nh Le Ps⟩)
  · rintro pre r post ⟨⟨em, f, b⟩, g⟩ e ⟨L, X, Le, Ps, Gs⟩
    have L : LS hs ts (em, f, b) := L
    have X : LX rs (em, f, b) := X
    have Le : LLe S0 (em, f, b) := Le
    have Gs : g = false → LLe (em, f, b) S0 := Gs
    have hr : r ∈ rs := by rw [e]; exact List.mem_append_right _ List.mem_cons_self
    have hh := R.h r hr
    have sd := R.s r hr
    have sl := sd.l
    have lh := R.v.lh
    obtain ⟨be, hbe, ibe⟩ := t_lemptyX sd (em, f, b)
    refine Tt.by hbe (Tt.bind (P := fun (s : LSt × Bool) => LS hs ts s.1 ∧ LX rs s.1 ∧ LLe (em, f, b) s.1 ∧ s.1.2 = (f, b) ∧ ((∀ y ∈ r.2, y ∈ em) → r.1 ∈ s.1.1) ∧ (s.2 = false → g = false ∧ LLe s.1 (em, f, b))) ?_ ?_)
    · refine Tt.if (fun c => ?_) fun c => Tt.ret ⟨L, X, LLe.refl _, rfl, fun q => (by rw [ibe.mpr q] at c; cases c), fun q => ⟨q, LLe.refl _⟩⟩
      have le := nd_le L.en L.e
      have le : em.length ≤ hs.length := le
      have hemp : Emp rs r.1 := .mk r hr fun y hy => X.e y (ibe.mp c y hy)
      refine (t_put (row := em) (more := [r.1]) (by rw [List.length_singleton]; omega)).bind fun o P => Tt.ret ⟨⟨fun x hx => ?_, P.nd L.en, L.f, L.b⟩, ⟨fun x hx => ?_, X.f, X.b⟩, ⟨fun x hx => (P.mem x).mpr (.inl hx), fun _ _ q => q, fun _ _ q => q⟩, rfl, fun _ => (P.mem _).mpr (.inr (List.mem_singleton.mpr rfl)), fun q => ?_⟩
      · exact ((P.mem x).mp hx).elim (L.e x) fun q => by rw [List.mem_singleton.mp q]; exact hh
      · exact ((P.mem x).mp hx).elim (X.e x) fun q => by rw [List.mem_singleton.mp q]; exact hemp
      · obtain ⟨q1, q2⟩ := or_no q
        exact ⟨q2, ⟨fun x hx => by have hx : x ∈ o.1 := hx; rw [(P.no q1).1] at hx; exact hx, fun _ _ q => q, fun _ _ q => q⟩⟩
    rintro ⟨⟨em1, p1⟩, g1⟩ ⟨L1, X1, Le1, e1, pe1, G1⟩
    have e1 : p1 = (f, b) := e1
    subst e1
    have L1 : LS hs ts (em1, f, b) := L1
    have X1 : LX rs (em1, f, b) := X1
    have Le1 : LLe (em, f, b) (em1, f, b) := Le1
    have Le01 := Le.trans Le1
    have pe1 : (∀ y ∈ r.2, y ∈ em) → r.1 ∈ em1 := pe1
    have G1 : g1 = false → g = false ∧ LLe (em1, f, b) (em, f, b) := G1
    obtain ⟨m, hm, mn, ms⟩ := L1.f r.1 hh
    have ml := nd_le mn ms
    have rm := row_of hm
    refine Tt.oM hm ((t_lfirstX R.v T sd L1).bind fun fi ⟨⟨fn, fs⟩, fx⟩ => ?_)
    have fl := nd_le fn fs
    refine (t_put (row := m) (more := fi) (by omega)).bind fun o P => ?_
    have on : o.1.Nodup := P.nd mn
    have os : ∀ x ∈ o.1, x ∈ ts := fun x hx => ((P.mem x).mp hx).elim (ms x) (fs x)
    have L2' : LS hs ts (em1, dput f r.1 o.1, b) := ⟨L1.e, L1.en, LRow.put L1.f on os, L1.b⟩
    have fm : ∀ h x, x ∈ row (dput f r.1 o.1) h ↔ x ∈ row f h ∨ (r.1 = h ∧ x ∈ fi) := fun h x => by
      rw [row_put]
      by_cases w : r.1 = h
      · subst w
        rw [if_pos rfl, P.mem x, rm]
        exact ⟨fun q => q.imp id fun z => ⟨rfl, z⟩, fun q => q.imp id (·.2)⟩
      · rw [if_neg w]
        exact ⟨.inl, fun q => q.elim id fun z => absurd z.1 w⟩
    have X2 : LX rs (em1, dput f r.1 o.1, b) := ⟨X1.e, fun h x hx => ((fm h x).mp hx).elim (X1.f h x) fun q => q.1 ▸ .mk hr (((fx x).mp q.2).mono X1.e fun s => X1.f s x), X1.b⟩
    have Le2 : LLe (em1, f, b) (em1, dput f r.1 o.1, b) := ⟨fun _ q => q, fun h x q => (fm h x).mpr (.inl q), fun _ _ q => q⟩
    have Le02 := Le01.trans Le2
    have G2 : (o.2 || g1) = false → g = false ∧ LLe (em1, dput f r.1 o.1, b) (em, f, b) := fun q => by
      obtain ⟨q1, q2⟩ := or_no q
      obtain ⟨q3, q4⟩ := G1 q2
      have q5 : LLe (em1, dput f r.1 o.1, b) (em1, f, b) := by
        refine ⟨fun _ q => q, fun h x hx => ?_, fun _ _ q => q⟩
        rcases (fm h x).mp hx with w | ⟨w1, w2⟩
        · exact w
        · have := (P.no q1).2 x w2
          rw [← rm, w1] at this
          exact this
      exact ⟨q3, q5.trans q4⟩
    have pf2 : ∀ x, StL (· ∈ S0.1) (fun h x => x ∈ row S0.2.1 h) r.2 x → x ∈ row (dput f r.1 o.1) r.1 := fun x q => (fm _ x).mpr (.inr ⟨rfl, (fx x).mpr (q.mono Le01.e fun s => Le01.f s x)⟩)
    obtain ⟨af, haf, an, as⟩ := L2'.b r.1 hh
    have al := nd_le an as
    have raf := row_of haf
    have d0 : r.2.drop (r.2.length - 0) = [] := List.drop_length
    refine Tt.oM haf (Tt.chk (by constructor <;> omega) (Tt.bind (Tt.for (fun (pre : List Int) (s : LSt × Bool × List Str) => (LS hs ts s.1 ∧ LX rs s.1 ∧ LLe (em1, dput f r.1 o.1, b) s.1) ∧ (s.1.1 = em1 ∧ s.1.2.1 = dput f r.1 o.1) ∧ (s.2.2.length ≤ 40 + 40 * pre.length ∧ ∀ x ∈ s.2.2, x ∈ ts) ∧ (∀ x ∈ s.2.2, Bhd rs (Fol rs r.1) (r.2.drop (r.2.length - pre.length)) x) ∧
      (∀ x, StL (· ∈ S0.1) (fun h x => x ∈ row S0.2.1 h) (r.2.drop (r.2.length - pre.length)) x ∨ ((∀ z ∈ r.2.drop (r.2.length - pre.length), z ∈ S0.1) ∧ x ∈ row S0.2.2 r.1) → x ∈ s.2.2) ∧
      (∀ y x, FoL (· ∈ S0.1) (fun h x => x ∈ row S0.2.1 h) (fun x => x ∈ row S0.2.2 r.1) (r.2.drop (r.2.length - pre.length)) y x → x ∈ row s.1.2.2 y) ∧ (s.2.1 = false → (o.2 || g1) = false ∧ ∀ h x, x ∈ row s.1.2.2 h → x ∈ row b h))
      ⟨⟨L2', X2, LLe.refl _⟩, ⟨rfl, rfl⟩, ⟨by show af.length ≤ 40 + 40 * 0; omega, as⟩, ?_, ?_, ?_, fun q => ⟨q, fun _ _ z => z⟩⟩ ?_) fun s ⟨⟨L9, X9, Le9⟩, ⟨em9, f9⟩, _, _, _, b9, G9⟩ => Tt.ret ⟨L9, X9, Le02.trans Le9, fun y hy => ?_, fun q => ?_⟩))
    · intro x hx
      rw [show ([] : List Int).length = 0 from rfl, d0]
      exact .inr ⟨(fun z q => nomatch q), X2.b _ x (by show x ∈ row b r.1; rw [raf]; exact hx)⟩
    · intro x
      rw [show ([] : List Int).length = 0 from rfl, d0]
      rintro (q | ⟨_, q⟩)
      · exact q.elim
      · have := Le02.b _ _ q
        have this : x ∈ row b r.1 := this
        rw [raf] at this
        exact this
    · intro y x
      rw [show ([] : List Int).length = 0 from rfl, d0]
      exact fun q => q.elim
    · rintro pre2 k post2 ⟨⟨em2, f2, b2⟩, g2, a2⟩ e2 ⟨⟨L3, X3, Le3⟩, ⟨q1, q2⟩, ⟨l3, s3⟩, so, co, bo, G3⟩
      have q1 : em2 = em1 := q1
      have q2 : f2 = dput f r.1 o.1 := q2
      have L3 : LS hs ts (em2, f2, b2) := L3
      have X3 : LX rs (em2, f2, b2) := X3
      have Le3 : LLe (em1, dput f r.1 o.1, b) (em2, f2, b2) := Le3
      have l3 : a2.length ≤ 40 + 40 * pre2.length := l3
      have s3 : ∀ x ∈ a2, x ∈ ts := s3
      have Le03 := Le02.trans Le3
      have lp2 : (pre2 ++ [k]).length = pre2.length + 1 := by rw [List.length_append]; rfl
      obtain ⟨ek, pl⟩ := ups_at e2
      have pl : pre2.length < r.2.length := by omega
      refine Tt.ix (by omega) (by omega) fun z hz ez => ?_
      have ez : r.2[r.2.length - 1 - pre2.length]? = some z := by
        rw [show ((r.2.length : Int) - 1 - k).toNat = r.2.length - 1 - pre2.length by omega] at ez
        exact ez
      have dz := drop_one pl ez
      rw [lp2, dz]
      have er : r.2 = r.2.take (r.2.length - (pre2.length + 1)) ++ z :: r.2.drop (r.2.length - pre2.length) := by rw [← dz, List.take_append_drop]
      generalize r.2.drop (r.2.length - pre2.length) = suf at so co bo er
      have so : ∀ x ∈ a2, Bhd rs (Fol rs r.1) suf x := so
      have co : ∀ x, StL (· ∈ S0.1) (fun h x => x ∈ row S0.2.1 h) suf x ∨ ((∀ z ∈ suf, z ∈ S0.1) ∧ x ∈ row S0.2.2 r.1) → x ∈ a2 := co
      have bo : ∀ y x, FoL (· ∈ S0.1) (fun h x => x ∈ row S0.2.1 h) (fun x => x ∈ row S0.2.2 r.1) suf y x → x ∈ row b2 y := bo
      have G3 : g2 = false → (o.2 || g1) = false ∧ ∀ h x, x ∈ row b2 h → x ∈ row b h := G3
      rcases Classical.em (z ∈ ts) with q | q
      · have tz := T.t z q
        rw [mb_of (R.v.t z q)]
        refine Tt.let (Tt.ret ⟨⟨L3, X3, Le3⟩, ⟨q1, q2⟩, ⟨?_, fun x hx => by rw [List.mem_singleton.mp hx]; exact q⟩, fun x hx => ?_, fun x hx => ?_, fun y x hx => ?_, G3⟩)
        · show ([z] : List Str).length ≤ _
          rw [List.length_singleton]; omega
        · exact (bhd_tok nt tz).mpr (List.mem_singleton.mp hx)
        · refine List.mem_singleton.mpr ?_
          rcases hx with (⟨_, w⟩ | ⟨w, _⟩) | ⟨w, _⟩
          · exact w
          · rw [tz] at w; cases w
          · have := (X0.e z (w z List.mem_cons_self)).nt nt
            rw [tz] at this; cases this
        · rcases hx with ⟨rfl, w, _⟩ | w
          · rw [tz] at w; cases w
          · exact bo y x w
      · have zh : z ∈ hs := (sd.m z hz).resolve_right q
        have tz := T.h z zh
        rw [mb_of (R.v.h z zh)]
        obtain ⟨bz, hbz, bn, bs⟩ := L3.b z zh
        have bl := nd_le bn bs
        have rbz := row_of hbz
        refine Tt.oM hbz ((t_put (row := bz) (more := a2) (by omega)).bind fun o2 P2 => ?_)
        have L4 : LS hs ts (em2, f2, dput b2 z o2.1) := ⟨L3.e, L3.en, L3.f, LRow.put L3.b (P2.nd bn) fun x hx => ((P2.mem x).mp hx).elim (bs x) (s3 x)⟩
        have bm : ∀ h x, x ∈ row (dput b2 z o2.1) h ↔ x ∈ row b2 h ∨ (z = h ∧ x ∈ a2) := fun h x => by
          rw [row_put]
          by_cases w : z = h
          · subst w
            rw [if_pos rfl, P2.mem x, rbz]
            exact ⟨fun q => q.imp id fun z => ⟨rfl, z⟩, fun q => q.imp id (·.2)⟩
          · rw [if_neg w]
            exact ⟨.inl, fun q => q.elim id fun z => absurd z.1 w⟩
        have X4 : LX rs (em2, f2, dput b2 z o2.1) := ⟨X3.e, X3.f, fun h x hx => ((bm h x).mp hx).elim (X3.b h x) fun ⟨w, w2⟩ => by
          subst w
          refine Fol.mk hr ?_
          rw [er]
          exact FoL.app (.inl ⟨rfl, tz, so x w2⟩)⟩
        have Le4 : LLe (em2, f2, b2) (em2, f2, dput b2 z o2.1) := ⟨fun _ q => q, fun _ _ q => q, fun h x q => (bm h x).mpr (.inl q)⟩
        obtain ⟨fz, hfz, zn, zs⟩ := L4.f z zh
        have zl := nd_le zn zs
        have rfz := row_of hfz
        have fle : ∀ (p : Str → Bool), ((a2.filter p).map (fun (y : Str) => y)).length ≤ a2.length := fun p => by rw [List.length_map]; exact List.length_filter_le _ _
        have fle2 := fle fun (y32 : Str) => (decide (z ∈ em2))
        have pl20 : pre2.length < 20 := by omega
        have am : ∀ x, x ∈ fz ++ ((a2.filter fun _ => decide (z ∈ em2)).map (fun y => y)) ↔ x ∈ row f2 z ∨ (z ∈ em2 ∧ x ∈ a2) := fun x => by
          have rfz : row f2 z = fz := rfz
          rw [rfz, List.mem_append, show (fun (y : Str) => y) = id from rfl, List.map_id, List.mem_filter, decide_eq_true_eq]
          exact ⟨fun q => q.imp id fun w => ⟨w.2, w.1⟩, fun q => q.imp id fun w => ⟨w.2, w.1⟩⟩
        refine Tt.oM hfz (Tt.chk (by omega) (Tt.chk (by show fz.length + ((a2.filter fun _ => decide (z ∈ em2)).map (fun y => y)).length ≤ 100000; omega) (Tt.let (Tt.ret ⟨⟨L4, X4, Le3.trans Le4⟩, ⟨q1, q2⟩, ⟨?_, fun x hx => ?_⟩, fun x hx => ?_, fun x hx => ?_, fun y x hx => ?_, fun q => ?_⟩))))
        · show (fz ++ ((a2.filter fun _ => decide (z ∈ em2)).map (fun y => y))).length ≤ _
          rw [List.length_append]
          have : ((a2.filter fun _ => decide (z ∈ em2)).map (fun y => y)).length ≤ a2.length := fle2
          omega
        · rcases List.mem_append.mp hx with w | w
          · exact zs x w
          · obtain ⟨y, hy, ey⟩ := List.mem_map.mp w
            rw [← ey]
            exact s3 y (List.mem_filter.mp hy).1
        · rw [bhd_nt tz]
          exact ((am x).mp hx).imp (X3.f z x) fun w => ⟨X3.e z w.1, so x w.2⟩
        · refine (am x).mpr ?_
          rcases hx with (⟨w, _⟩ | ⟨_, w | ⟨w1, w2⟩⟩) | ⟨w1, w2⟩
          · rw [tz] at w; cases w
          · exact .inl (Le03.f _ _ w)
          · exact .inr ⟨Le03.e _ w1, co x (.inl w2)⟩
          · exact .inr ⟨Le03.e _ (w1 z List.mem_cons_self), co x (.inr ⟨fun y hy => w1 y (List.mem_cons_of_mem _ hy), w2⟩)⟩
        · rcases hx with ⟨rfl, _, w⟩ | w
          · exact (bm _ _).mpr (.inr ⟨rfl, co x w⟩)
          · exact (bm _ _).mpr (.inl (bo y x w))
        · obtain ⟨w1, w2⟩ := or_no q
          obtain ⟨w3, w4⟩ := G3 w2
          refine ⟨w3, fun h x hx => ?_⟩
          rcases (bm h x).mp hx with w | ⟨w, w5⟩
          · exact w4 h x w
          · have := (P2.no w1).2 x w5
            rw [← rbz] at this
            exact w4 h x (w ▸ this)
    · rcases List.mem_append.mp hy with w | w
      · exact (Ps y w).up ((Le1.trans Le2).trans Le9)
      · rw [List.mem_singleton.mp w]
        have up : (ups ((r.2.length : Int)).toNat).length = r.2.length := by rw [ups_len]; omega
        rw [up, Nat.sub_self, List.drop_zero] at b9
        refine ⟨fun q => Le9.e _ (pe1 fun y hy => Le.e y (q y hy)), fun x q => Le9.f _ _ (pf2 x q), fun y x q => b9 y x q⟩
    · obtain ⟨w1, w2⟩ := G9 q
      obtain ⟨w3, w4⟩ := G2 w1
      have q5 : LLe s.1 (em1, dput f r.1 o.1, b) := by
        refine ⟨fun x hx => ?_, fun h x hx => ?_, fun h x hx => ?_⟩
        · rw [em9] at hx; exact hx
        · rw [f9] at hx; exact hx
        · exact w2 h x hx
      exact (q5.trans w4).trans (Gs w3)
  · have c2 : s.2 = false := by
      cases q : s.2 with
      | false => rfl
      | true => rw [q] at c; cases c
    have G := Gs c2
    have ce : cE rs S0 := no_e Ps G.e
    have cf : ∀ x, cF rs S0 x := fun x => no_f Ps ce fun h => G.f h x
    exact fun x => (no_b Ps cf fun h => G.b h x).up Le
end Gt
namespace Gt
open PySem PySem.Spec PyProof.Rows L2
noncomputable def ltk (s : Str) : Option Bool := match m__law_is_token s with
  | .ok b => some b
  | _ => none
theorem ltk_of {s : Str} {b : Bool} (h : ltk s = some b) : m__law_is_token s = .ok b := by
  unfold ltk at h
  split at h
  · rename_i c e
    cases h
    exact e
  · cases h
theorem ltk_T : ∀ s ∈ names true, ltk s = some false := by decide +kernel
theorem ltk_F : ∀ s ∈ names false, ltk s = some true := by decide +kernel
noncomputable def okTok (s : Str) (b : Bool) : Bool := match m_is_token s with
  | .ok c => c == b
  | _ => false
theorem okTok_of {s : Str} {b : Bool} (h : okTok s b = true) : tok s = b := by
  unfold okTok at h
  unfold tok
  cases q : m_is_token s with
  | ok c =>
    rw [q] at h
    exact (beq_iff_eq).mp h
  | error _ =>
    rw [q] at h
    cases h
theorem mtk_names : ∀ s ∈ names true, okTok s false = true := by decide +kernel
theorem mtk_namesF : ∀ s ∈ names false, okTok s true = true := by decide +kernel
theorem name_inj : ∀ k < 8, ∀ k' < 8, ∀ st < 12, ∀ cap : Bool, decide (nameT (k : Nat) (st : Nat) cap = nameT (k' : Nat) (st : Nat) cap) = decide (k = k') := by decide +kernel
theorem name_inj' {k k' st : Int} {cap : Bool} (h : 0 ≤ k ∧ k < 8) (h' : 0 ≤ k' ∧ k' < 8) (e : nameT k st cap = nameT k' st cap) : k = k' := by
  obtain ⟨k, rfl⟩ := Int.eq_ofNat_of_zero_le h.1
  obtain ⟨k', rfl⟩ := Int.eq_ofNat_of_zero_le h'.1
  have e0 : 0 ≤ st % 12 := Int.emod_nonneg _ (by decide)
  have e1 : st % 12 < 12 := Int.emod_lt_of_pos _ (by decide)
  have eN : ∀ k, nameT k st cap = nameT k (st % 12) cap := fun k => by unfold nameT; rw [Int.emod_emod_of_dvd _ (by decide)]
  obtain ⟨s, hs⟩ := Int.eq_ofNat_of_zero_le e0
  rw [eN, eN (k' : Int), hs] at e
  rw [hs] at e1
  have := name_inj k (by omega) k' (by omega) s (by omega) cap
  rw [decide_eq_true e] at this
  have := of_decide_eq_true this.symm
  omega
theorem names_nodup {n : Nat} (hn : n ≤ 8) (st : Int) (cap : Bool) : ((ups n).map fun k => nameT k st cap).Nodup := by
  have hu : (ups n).Nodup := by
    unfold ups
    refine List.pairwise_map.mpr (List.Pairwise.imp (S := fun (a b : Nat) => (a : Int) ≠ (b : Int)) (R := fun (a b : Nat) => a ≠ b) (fun {a b} q z => q (by omega)) List.nodup_range)
  refine List.pairwise_map.mpr (List.Pairwise.imp_of_mem (fun {a b} ha hb q z => q ?_) hu)
  have h1 := ups_mem ha
  have h2 := ups_mem hb
  exact name_inj' (by omega) (by omega) z
/-- tokens that side a of h can go on by -/
def Mt (rs : RL) (h : Str) (a : List Str) (x : Str) : Prop := StL (Emp rs) (Frs rs) a x ∨ ((∀ z ∈ a, Emp rs z) ∧ (Fol rs h x ∨ x = ""))
/-- two sides of h go on by a common token -/
def Meets (rs : RL) (h : Str) (a b : List Str) : Prop := ∃ x, Mt rs h a x ∧ Mt rs h b x
theorem Mt.sub {rs rs' : RL} (h : ∀ r ∈ rs, r ∈ rs') {k : Str} {a : List Str} {x : Str} (q : Mt rs k a x) : Mt rs' k a x := q.imp (fun w => w.mono (fun _ z => z.sub h) fun _ z => z.sub h) fun w => ⟨fun z hz => (w.1 z hz).sub h, w.2.imp (fun z => z.sub h) id⟩
theorem Meets.sub {rs rs' : RL} (h : ∀ r ∈ rs, r ∈ rs') {k : Str} {a b : List Str} (q : Meets rs k a b) : Meets rs' k a b := let ⟨x, p, r⟩ := q; ⟨x, p.sub h, r.sub h⟩
def MtS (s : LSt) (h : Str) (a : List Str) (y : Str) : Prop := StL (· ∈ s.1) (fun h y => y ∈ row s.2.1 h) a y ∨ ((∀ z ∈ a, z ∈ s.1) ∧ (y ∈ row s.2.2 h ∨ y = ""))
theorem t_lmeetX {hs ts : List Str} (V : Voc hs ts) (T : VocT hs ts) {h : Str} (hh : h ∈ hs) {a b : List Str} (A : SideOk hs ts a) (B : SideOk hs ts b) {x : LSt} (L : LS hs ts x) : Tt (m__law_meet h a b x) fun v => v = true ↔ ∃ y, MtS x h a y ∧ MtS x h b y := by
  unfold m__law_meet
  have lt := V.lt
  have one : ∀ (s : List (List Str)) (z : List Str), s.length ≤ 5 → SideOk hs ts z → Tt (mb (m__law_first z x) fun t9 => mb (m__law_empty z x) fun t10 => mb (bif t10 then mb (oM (dkey x.2.2 h)) fun t12 => mb (chk (decide (t9.length + t12.length ≤ 100000))) fun _ => mb (chk (decide ((t9 ++ t12).length + ([("" : Str)]).length ≤ 100000))) fun _ => mb (.ok ((t9 ++ t12) ++ ([("" : Str)]))) fun row15 => .ok row15 else .ok t9) fun (s11 : (List Str)) => mb (chk (decide (s.length < 100000))) fun _ => .ok (s ++ [s11])) fun s' => ∃ l, s' = s ++ [l] ∧ l.length ≤ 100 ∧ ∀ y, y ∈ l ↔ MtS x h z y := by
    intro s z sl hz
    refine (t_lfirstX V T hz L).bind fun f ⟨⟨fn, fs⟩, fx⟩ => ?_
    have fl := nd_le fn fs
    obtain ⟨em, hem, iem⟩ := t_lemptyX hz x
    refine Tt.by hem (Tt.bind (P := fun (l : List Str) => l.length ≤ 100 ∧ ∀ y, y ∈ l ↔ MtS x h z y) ?_ fun l hl' => Tt.chk (by omega) (Tt.ret ⟨l, rfl, hl'⟩))
    refine Tt.if (fun c => ?_) fun c => Tt.ret ⟨by omega, fun y => ?_⟩
    · obtain ⟨m, hm, mn, ms⟩ := L.b h hh
      have ml := nd_le mn ms
      have l2 : (f ++ m).length = f.length + m.length := List.length_append
      refine Tt.oM hm (Tt.chk (by omega) (Tt.chk (by rw [l2, List.length_singleton]; omega) (Tt.let (Tt.ret ⟨?_, fun y => ?_⟩))))
      · show ((f ++ m) ++ [_]).length ≤ 100
        rw [List.length_append, l2, List.length_singleton]; omega
      · rw [List.mem_append, List.mem_append, List.mem_singleton, fx y]
        unfold MtS
        rw [row_of hm]
        exact ⟨fun q => q.elim (fun w => w.imp id fun w => ⟨iem.mp c, .inl w⟩) fun w => .inr ⟨iem.mp c, .inr w⟩, fun q => q.elim (fun w => .inl (.inl w)) fun w => w.2.elim (fun z => .inl (.inr z)) .inr⟩
    · rw [fx y]
      refine ⟨.inl, fun q => q.elim id fun w => ?_⟩
      rw [iem.mpr w.1] at c
      cases c
  refine Tt.let (Tt.bind (P := fun (s : List (List Str)) => ∃ l m, s = [l, m] ∧ l.length ≤ 100 ∧ (∀ y, y ∈ l ↔ MtS x h a y) ∧ m.length ≤ 100 ∧ ∀ y, y ∈ m ↔ MtS x h b y) ?_ ?_)
  · refine (one [] a (by decide) A).bind ?_
    rintro s1 ⟨l, rfl, l1, l2⟩
    refine (one [l] b (Nat.le_of_ble_eq_true rfl) B).bind ?_
    rintro s2 ⟨m, rfl, m1, m2⟩
    exact Tt.ret ⟨l, m, rfl, l1, l2, m1, m2⟩
  · rintro s ⟨l, m, rfl, l1, l2, m1, m2⟩
    refine Tt.oM (a := l) rfl (Tt.chk (by omega) (Tt.by (mlc_eq (p' := fun y => decide (y ∈ m)) (f' := fun y => y) (fun y hy => by rw [mb_of (oM_of (show atI [l, m] (1 : Int) = some m from rfl))]) fun _ _ _ => rfl) (Tt.ret ?_)))
    rw [show (fun (y : Str) => y) = id from rfl, List.map_id, decide_eq_true_eq]
    constructor
    · intro q
      obtain ⟨y, hy⟩ := List.exists_mem_of_length_pos (l := l.filter fun y => decide (y ∈ m)) (by omega)
      obtain ⟨h1, h2⟩ := List.mem_filter.mp hy
      exact ⟨y, (l2 y).mp h1, (m2 y).mp (of_decide_eq_true h2)⟩
    · rintro ⟨y, h1, h2⟩
      have := List.length_pos_of_mem (List.mem_filter (p := fun y => decide (y ∈ m)).mpr ⟨(l2 y).mpr h1, decide_eq_true ((m2 y).mpr h2)⟩)
      omega
theorem nodup_ix {α : Type} {l : List α} (n : l.Nodup) {i j : Nat} {x : α} (hi : l[i]? = some x) (hj : l[j]? = some x) : i = j := by
  obtain ⟨li, ei⟩ := List.getElem?_eq_some_iff.mp hi
  obtain ⟨lj, ej⟩ := List.getElem?_eq_some_iff.mp hj
  rcases Nat.lt_trichotomy i j with q | q | q
  · exact absurd (ei.trans ej.symm) (List.pairwise_iff_getElem.mp n i j li lj q)
  · exact q
  · exact absurd (ej.trans ei.symm) (List.pairwise_iff_getElem.mp n j i lj li q)
/-- the first rule of a head -/
def fr (rs : RL) (h : Str) : Option (Str × List Str) := rs.find? fun r => decide (r.1 = h)
theorem fr_app {a b : RL} {h : Str} : fr (a ++ b) h = (fr a h).or (fr b h) := List.find?_append
theorem fr_none {a : RL} {h : Str} (n : ∀ r ∈ a, r.1 ≠ h) : fr a h = none := List.find?_eq_none.mpr fun r hr => by simpa using n r hr
theorem fr_mem {a : RL} {h : Str} {r : Str × List Str} (e : fr a h = some r) : r ∈ a ∧ r.1 = h := ⟨List.mem_of_find?_eq_some e, by simpa using List.find?_some e⟩
/-- the rules stand in the order of their heads -/
def OrdH (hs : List Str) (r r' : Str × List Str) : Prop := ∀ i j : Nat, hs[i]? = some r.1 → hs[j]? = some r'.1 → i ≤ j
/-- a drawn host, its heads and tokens -/
structure Host (n : Nat) (hs ts : List Str) (rs : RL) : Prop where
  hl : hs.length ≤ n
  hn : ∀ s ∈ hs, s ∈ names true
  tl : ts.length = 6
  tn : ∀ s ∈ ts, s ∈ names false
  h : ∀ r ∈ rs, r.1 ∈ hs
  s : ∀ r ∈ rs, (∀ x ∈ r.2, x ∈ hs ∨ x ∈ ts) ∧ r.2.length ≤ 12
  l : rs.length ≤ 42
  f : ∃ r t w q, rs = r :: q ∧ r.2 = t :: w ∧ t ∈ ts
  nd : hs.Nodup
  td : ts.Nodup
  fs : ∀ (i : Nat) h, hs[i]? = some h → ∃ t w, fr rs h = some (h, t :: w) ∧ t ∈ ts ∧ ∀ x ∈ w, x ∈ ts ∨ ∃ j : Nat, i < j ∧ hs[j]? = some x
  re : ∀ (j : Nat) h, 1 ≤ j → hs[j]? = some h → ∃ (i : Nat) (g : Str) (f : List Str), i < j ∧ hs[i]? = some g ∧ (g, f) ∈ rs ∧ h ∈ f
  hd : ∃ h r q, hs[0]? = some h ∧ rs = r :: q ∧ r.1 = h
  pw : rs.Pairwise fun r r' => r.1 = r'.1 → r.2 ≠ r'.2 ∧ ¬ Meets rs r.1 r.2 r'.2
  or : rs.Pairwise (OrdH hs)
  fw : ∀ (i : Nat) h, hs[i]? = some h → ∃ t w, fr rs h = some (h, t :: w) ∧ t ∈ ts ∧ (∀ x ∈ w, x ∈ ts ∨ ∃ j : Nat, i < j ∧ hs[j]? = some x) ∧ w.length ≤ 2 * (n - 1 - i) ∧ (w.filter fun x => decide (x ∈ hs)).length ≤ n - 1 - i
theorem cap_neH : ∀ s ∈ names true, ∀ t ∈ names false, s ≠ t := by decide +kernel
theorem t_host {draws : List Int} {most : Int} {off : List Int} (hd : draws.length = 46) (dd : ∀ d ∈ draws, 0 ≤ d ∧ d < 840) (hm : 1 ≤ most ∧ most ≤ 6) (lo : off.length = 6) :
    Tt (m__law_host draws most off) fun rs => ∃ hs ts, Host most.toNat hs ts rs := by
  unfold m__law_host
  refine Tt.ix (by omega) (by omega) fun d1 hd1 _ => Tt.chk (by omega) (Tt.let ?_)
  have n0 : 0 ≤ d1 % most := Int.emod_nonneg _ (by omega)
  have n1 : d1 % most < most := Int.emod_lt_of_pos _ (by omega)
  generalize hn : (1 : Int) + d1 % most = n
  obtain ⟨st0, est0, _, _⟩ := atI_in (xs := draws) (i := 0) (by omega) (by omega)
  refine Tt.chk (by omega) (Tt.by (mlc_map (f' := fun k => nameT k st0 true) fun k hk => by
    have k2 := ups_mem hk
    rw [mb_of (oM_of est0), mb_of (t_name (k := k) (by omega)).1]) ?_)
  refine Tt.by (mlc_map (f' := fun k => nameT k (st0 / 12) false) fun k hk => by
    have k2 := ups_mem hk
    rw [mb_of (oM_of est0), mb_of (t_name (k := k) (by omega)).1]) ?_
  have lh : ((ups n.toNat).map fun k => nameT k st0 true).length = n.toNat := by rw [List.length_map, ups_len]
  have lt6 : ((ups (6 : Int).toNat).map fun k => nameT k (st0 / 12) false).length = 6 := by rw [List.length_map, ups_len]; rfl
  have sh : ∀ s ∈ (ups n.toNat).map fun k => nameT k st0 true, s ∈ names true := fun s hs => by
    obtain ⟨k, hk, e⟩ := List.mem_map.mp hs
    have k2 := ups_mem hk
    rw [← e]; exact name_in (by omega)
  have st : ∀ s ∈ (ups (6 : Int).toNat).map fun k => nameT k (st0 / 12) false, s ∈ names false := fun s hs => by
    obtain ⟨k, hk, e⟩ := List.mem_map.mp hs
    have k2 := ups_mem hk
    rw [← e]; exact name_in (by omega)
  have nd : ((ups n.toNat).map fun k => nameT k st0 true).Nodup := names_nodup (by omega) _ _
  have td : ((ups (6 : Int).toNat).map fun k => nameT k (st0 / 12) false).Nodup := names_nodup (by decide) _ _
  generalize ((ups n.toNat).map fun k => nameT k st0 true) = hs at lh sh nd ⊢
  generalize ((ups (6 : Int).toNat).map fun k => nameT k (st0 / 12) false) = ts at lt6 st td ⊢
  have V : Voc hs ts := ⟨fun s h => ltk_of (ltk_T s (sh s h)), fun s h => ltk_of (ltk_F s (st s h)), by omega, by omega⟩
  have T : VocT hs ts := ⟨fun s h => okTok_of (mtk_names s (sh s h)), fun s h => okTok_of (mtk_namesF s (st s h))⟩
  refine (t_offers (hs := hs) (ts := ts) hd dd (n := n) (off := off) (by omega) (by omega) lt6 lo fun x hx hh => cap_neH x (sh x hh) x (st x hx) rfl).bind fun S ⟨lS, hS, FS, WS⟩ => Tt.let ?_
  refine Tt.bind (Tt.for (fun (pre : List Int) (rs : RL) => rs.length ≤ 7 * pre.length ∧ (∀ r ∈ rs, r.1 ∈ hs ∧ (∀ x ∈ r.2, x ∈ hs ∨ x ∈ ts) ∧ r.2.length ≤ 12) ∧ (∀ i ∈ pre, ∀ h, hs[i.toNat]? = some h → ∃ r ∈ rs, r.1 = h) ∧ (pre = [] ∨ ∃ r t w q, rs = r :: q ∧ r.2 = t :: w ∧ t ∈ ts ∧ hs[0]? = some r.1) ∧
      (∀ r ∈ rs, ∃ i, i < pre.length ∧ hs[i]? = some r.1) ∧ rs.Pairwise (OrdH hs) ∧ ∀ i, i < pre.length → ∀ h, hs[i]? = some h → ∃ f q, S[i]? = some (f :: q) ∧ fr rs h = some (h, f))
    ⟨Nat.le_refl _, (fun r q => nomatch q), (fun i q => nomatch q), .inl rfl, (fun r q => nomatch q), List.Pairwise.nil, fun i q => absurd q (Nat.not_lt_zero _)⟩ ?_) fun rs ⟨rl, rm, ra, rf, ri, ro, rfr⟩ => ?_
  · rintro pre k post rs e ⟨rl, rm, ra, rf, ri, ro, rfr⟩
    obtain ⟨ek, ekl⟩ := ups_at e
    have hk : k ∈ ups n.toNat := by rw [e]; exact List.mem_append_right _ List.mem_cons_self
    have k2 := ups_mem hk
    have pl : pre.length ≤ 6 := by have := congrArg List.length e; rw [ups_len, List.length_append, List.length_cons] at this; omega
    have lp : (pre ++ [k]).length = pre.length + 1 := by rw [List.length_append]; rfl
    refine Tt.ix (by omega) (by omega) fun row hrow erow => ?_
    rw [show k.toNat = pre.length by omega] at erow
    have R := hS row hrow
    have rowl := R.l
    obtain ⟨h, eh, eh2, hh⟩ := atI_in (xs := hs) (i := k) (by omega) (by omega)
    have eh3 : hs[pre.length]? = some h := by rw [show k.toNat = pre.length by omega] at eh2; exact eh2
    have newh : ∀ r ∈ rs, r.1 ≠ h := fun r hr e => by
      obtain ⟨i, hi, ei⟩ := ri r hr
      rw [e] at ei
      have := nodup_ix nd ei eh3
      omega
    refine Tt.chk (by omega) (Tt.by (mlc_map (f' := fun y => (h, y)) fun y hy => by rw [mb_of (oM_of eh)]) (Tt.chk (by rw [List.length_map]; omega) (Tt.let (Tt.ret ⟨?_, fun r hr => ?_, fun i hi h' eh' => ?_, .inr ?_, fun r hr => ?_, ?_, fun i hi h' eh' => ?_⟩))))
    · rw [List.length_append, List.length_map, lp]; omega
    · rcases List.mem_append.mp hr with q | q
      · exact rm r q
      · obtain ⟨y, hy, ey⟩ := List.mem_map.mp q
        rw [← ey]
        exact ⟨hh, R.s y hy⟩
    · obtain ⟨t, w, q, er, ht⟩ := R.b
      rcases List.mem_append.mp hi with z | z
      · obtain ⟨r, hr, e1⟩ := ra i z h' eh'
        exact ⟨r, List.mem_append_left _ hr, e1⟩
      · rw [List.mem_singleton.mp z, eh2] at eh'
        cases eh'
        exact ⟨(h, t :: w), List.mem_append_right _ (List.mem_map.mpr ⟨t :: w, by rw [er]; exact List.mem_cons_self, rfl⟩), rfl⟩
    · obtain ⟨t, w, q, er, ht⟩ := R.b
      rcases rf with z | ⟨r, t', w', q', e1, e2, e3, e4⟩
      · have : rs = [] := by
          rw [z] at rl
          exact List.length_eq_zero_iff.mp (by simpa using rl)
        rw [this, er]
        rw [z] at eh3
        exact ⟨(h, t :: w), t, w, q.map (fun y => (h, y)), rfl, rfl, ht, eh3⟩
      · exact ⟨r, t', w', q' ++ row.map (fun y => (h, y)), by rw [e1]; rfl, e2, e3, e4⟩
    · rcases List.mem_append.mp hr with q | q
      · obtain ⟨i, hi, ei⟩ := ri r q
        exact ⟨i, by rw [lp]; omega, ei⟩
      · obtain ⟨y, hy, ey⟩ := List.mem_map.mp q
        exact ⟨pre.length, by rw [lp]; omega, by rw [← ey]; exact eh3⟩
    · have blk : ∀ b ∈ row.map (fun y => (h, y)), b.1 = h := fun b hb => by
        obtain ⟨y, _, ey⟩ := List.mem_map.mp hb
        rw [← ey]
      refine List.pairwise_append.mpr ⟨ro, ?_, fun a ha b hb i j hi hj => ?_⟩
      · refine List.pairwise_of_forall_mem_list fun a ha b hb i j hi hj => ?_
        rw [blk a ha] at hi
        rw [blk b hb] at hj
        exact Nat.le_of_eq (nodup_ix nd hi hj)
      · obtain ⟨i0, l0, e0⟩ := ri a ha
        rw [blk b hb] at hj
        have a1 := nodup_ix nd hi e0
        have a2 := nodup_ix nd hj eh3
        omega
    · rw [lp] at hi
      by_cases z : i = pre.length
      · subst z
        rw [eh3] at eh'
        cases eh'
        obtain ⟨t, w, q, er, ht, _⟩ := FS.f _ _ erow
        refine ⟨t :: w, q, by rw [erow, er], ?_⟩
        rw [fr_app, fr_none newh, er]
        show (none : Option _).or (List.find? _ ((h, t :: w) :: _)) = _
        rw [List.find?_cons_of_pos (by simp)]
        rfl
      · obtain ⟨f, q, e1, e2⟩ := rfr i (by omega) h' eh'
        exact ⟨f, q, e1, by rw [fr_app, e2]; rfl⟩
  rw [ups_len] at rl ri rfr
  have rl42 : rs.length ≤ 42 := by omega
  have HRs : HR hs ts rs := by
    refine ⟨V, fun r hr => (rm r hr).1, fun r hr => ⟨(rm r hr).2.1, by have := (rm r hr).2.2; omega⟩, fun h hh => ?_, by omega⟩
    obtain ⟨i, hi⟩ := List.mem_iff_getElem?.mp hh
    have il : i < hs.length := (List.getElem?_eq_some_iff.mp hi).1
    refine ra (i : Int) ?_ h hi
    unfold ups
    exact List.mem_map.mpr ⟨i, List.mem_range.mpr (by omega), rfl⟩
  refine (t_lsetsX HRs T).bind fun x ⟨L, xe, xf, xb⟩ => Tt.let ?_
  have mts : ∀ h a y, MtS x h a y ↔ Mt rs h a y := fun h a y => by
    unfold MtS Mt
    rw [xb h y]
    refine or_congr ⟨fun q => q.mono (fun s => (xe s).mp) fun s => (xf s y).mp, fun q => q.mono (fun s => (xe s).mpr) fun s => (xf s y).mpr⟩ (and_congr ⟨fun q z hz => (xe z).mp (q z hz), fun q z hz => (xe z).mpr (q z hz)⟩ Iff.rfl)
  refine Tt.bind (Tt.for (fun (pre : RL) (kp : RL) => kp.length ≤ pre.length ∧ (∀ r ∈ kp, r ∈ pre) ∧ (∀ p q, pre = p :: q → ∃ q', kp = p :: q') ∧ (∀ h, fr kp h = fr pre h) ∧ kp.Pairwise (OrdH hs) ∧ kp.Pairwise fun r r' => r.1 = r'.1 → r.2 ≠ r'.2 ∧ ¬ Meets rs r.1 r.2 r'.2) ⟨Nat.le_refl _, (fun r q => nomatch q), (fun p q z => nomatch z), fun h => rfl, List.Pairwise.nil, List.Pairwise.nil⟩ ?_) fun kp ⟨kl, km, kf, kfr, kor, kpw⟩ => Tt.ret ?_
  · rintro pre r post kp e ⟨kl, km, kf, kfr, kor, kpw⟩
    have hr : r ∈ rs := by rw [e]; exact List.mem_append_right _ List.mem_cons_self
    have hpre : ∀ x ∈ pre, x ∈ rs := fun x hx => by rw [e]; exact List.mem_append_left _ hx
    have pl : pre.length + 1 ≤ rs.length := by rw [e, List.length_append, List.length_cons]; omega
    have lp : (pre ++ [r]).length = pre.length + 1 := by rw [List.length_append]; rfl
    refine Tt.chk (by omega) (Tt.let ?_)
    have same : ∀ y ∈ (kp.filter (fun (y33 : (Str × (List Str))) => (decide (y33.1 = r.1)))).map (fun (y33 : (Str × (List Str))) => y33.2), SideOk hs ts y := fun y hy => by
      obtain ⟨z, hz, ez⟩ := List.mem_map.mp hy
      rw [← ez]
      exact HRs.s z (hpre z (km z (List.mem_filter.mp hz).1))
    have smem : ∀ y, y ∈ (kp.filter (fun (y33 : (Str × (List Str))) => (decide (y33.1 = r.1)))).map (fun (y33 : (Str × (List Str))) => y33.2) ↔ ∃ z ∈ kp, z.1 = r.1 ∧ z.2 = y := fun y => by
      rw [List.mem_map]
      exact ⟨fun ⟨z, hz, ez⟩ => ⟨z, (List.mem_filter.mp hz).1, of_decide_eq_true (List.mem_filter.mp hz).2, ez⟩, fun ⟨z, h1, h2, h3⟩ => ⟨z, List.mem_filter.mpr ⟨h1, decide_eq_true h2⟩, h3⟩⟩
    have sl : ((kp.filter (fun (y33 : (Str × (List Str))) => (decide (y33.1 = r.1)))).map (fun (y33 : (Str × (List Str))) => y33.2)).length ≤ kp.length := by rw [List.length_map]; exact List.length_filter_le _ _
    generalize (kp.filter (fun (y33 : (Str × (List Str))) => (decide (y33.1 = r.1)))).map (fun (y33 : (Str × (List Str))) => y33.2) = sm at same sl smem ⊢
    have bad : ∀ y ∈ sm, ∃ b, (mb (mor (eqB y r.2) (mb (m__law_meet r.1 y r.2 x) fun t37 => .ok t37)) fun c38 => .ok c38) = .ok b ∧ (b = true ↔ (y = r.2 ∨ Meets rs r.1 y r.2)) := fun y hy => by
      obtain ⟨b, hb, ib⟩ := (t_lmeetX V T (HRs.h r hr) (same y hy) (HRs.s r hr) L).ok
      refine ⟨eqB y r.2 || b, by rw [mb_of (Tt.mor (b := b) fun _ => by rw [mb_of hb])], ?_⟩
      rw [Bool.or_eq_true, eqB_iff, ib]
      exact or_congr Iff.rfl ⟨fun ⟨z, p, q⟩ => ⟨z, (mts _ _ z).mp p, (mts _ _ z).mp q⟩, fun ⟨z, p, q⟩ => ⟨z, (mts _ _ z).mpr p, (mts _ _ z).mpr q⟩⟩
    have f2 : ∃ zs, mlc (fun (y36 : List Str) => mb (mor (eqB y36 r.2) (mb (m__law_meet r.1 y36 r.2 x) fun t37 => .ok t37)) fun c38 => .ok c38) (fun (y36 : (List Str)) => .ok y36) sm = .ok zs ∧ (zs = [] ↔ ∀ y ∈ sm, y ≠ r.2 ∧ ¬ Meets rs r.1 y r.2) := by
      refine ⟨_, mlc_eq (p' := fun y => @decide (y = r.2 ∨ Meets rs r.1 y r.2) (Classical.propDecidable _)) (f' := fun y => y) (fun y hy => ?_) fun _ _ _ => rfl, ?_⟩
      · obtain ⟨b, hb, ib⟩ := bad y hy
        rw [hb]
        congr 1
        cases b with
        | true => exact (@decide_eq_true _ (Classical.propDecidable _) (ib.mp rfl)).symm
        | false => exact (@decide_eq_false _ (Classical.propDecidable _) fun q => nomatch ib.mpr q).symm
      · rw [show (fun (y : List Str) => y) = id from rfl, List.map_id, List.filter_eq_nil_iff]
        exact ⟨fun q y hy => ⟨fun w => q y hy (@decide_eq_true _ (Classical.propDecidable _) (.inl w)), fun w => q y hy (@decide_eq_true _ (Classical.propDecidable _) (.inr w))⟩, fun q y hy w => (@of_decide_eq_true _ (Classical.propDecidable _) w).elim (q y hy).1 (q y hy).2⟩
    obtain ⟨zs, ezs, izs⟩ := f2
    refine Tt.chk (by omega) (Tt.by ezs ?_)
    have skip : zs ≠ [] → ∃ z ∈ kp, z.1 = r.1 := fun n => by
      rcases Classical.em (∃ z ∈ kp, z.1 = r.1) with q | q
      · exact q
      · exact absurd (izs.mpr fun y hy => by
          obtain ⟨z, h1, h2, _⟩ := (smem y).mp hy
          exact absurd ⟨z, h1, h2⟩ q) n
    refine Tt.if (fun c => Tt.chk (by omega) (Tt.let (Tt.ret ⟨?_, fun z hz => ?_, fun p q z => ?_, fun h => ?_, ?_, ?_⟩))) fun c => Tt.ret ⟨by rw [lp]; omega, fun x hx => List.mem_append_left _ (km x hx), fun p q z => ?_, fun h => ?_, kor, kpw⟩
    · show (kp ++ [(r.1, r.2)]).length ≤ _
      rw [List.length_append, lp, List.length_singleton]; omega
    · rcases List.mem_append.mp hz with q | q
      · exact List.mem_append_left _ (km z q)
      · exact List.mem_append_right _ q
    · cases pre with
      | nil =>
        have : kp = [] := List.length_eq_zero_iff.mp (by simpa using kl)
        rw [this]
        have z : r = p ∧ [] = q := by
          have := List.cons.inj z
          exact this
        exact ⟨[], by rw [← z.1]; rfl⟩
      | cons p0 q0 =>
        obtain ⟨q', e'⟩ := kf p0 q0 rfl
        have z1 : p0 = p := (List.cons.inj z).1
        exact ⟨q' ++ [(r.1, r.2)], by rw [e', z1]; rfl⟩
    · show fr (kp ++ [(r.1, r.2)]) h = _
      rw [fr_app, fr_app, kfr h]
    · refine List.pairwise_append.mpr ⟨kor, List.pairwise_singleton _ _, fun a ha b hb => ?_⟩
      rw [List.mem_singleton.mp hb]
      rw [e] at ro
      exact (List.pairwise_append.mp ro).2.2 a (km a ha) r List.mem_cons_self
    · have c2 := of_decide_eq_true c
      have zn : zs = [] := List.length_eq_zero_iff.mp (by omega)
      have all := izs.mp zn
      refine List.pairwise_append.mpr ⟨kpw, List.pairwise_singleton _ _, fun a ha b hb e2 => ?_⟩
      rw [List.mem_singleton.mp hb] at e2 ⊢
      have e2 : a.1 = r.1 := e2
      have := all a.2 ((smem a.2).mpr ⟨a, ha, e2, rfl⟩)
      rw [e2]
      exact this
    · have c3 : zs ≠ [] := fun q => by rw [q] at c; cases c
      obtain ⟨z0, hz0, _⟩ := skip c3
      cases pre with
      | nil =>
        have k0 : kp = [] := List.length_eq_zero_iff.mp (by simpa using kl)
        rw [k0] at hz0; cases hz0
      | cons p0 q0 =>
        obtain ⟨q', e'⟩ := kf p0 q0 rfl
        have z1 : p0 = p := (List.cons.inj z).1
        exact ⟨q', by rw [e', z1]⟩
    · have c3 : zs ≠ [] := fun q => by rw [q] at c; cases c
      obtain ⟨z0, hz0, ez0⟩ := skip c3
      rw [fr_app, ← kfr h]
      by_cases w : r.1 = h
      · have : (fr kp h).isSome = true := by
          unfold fr
          rw [List.find?_isSome]
          exact ⟨z0, hz0, by simpa using ez0.trans w⟩
        obtain ⟨v, hv⟩ := Option.isSome_iff_exists.mp this
        rw [hv]; rfl
      · rw [fr_none (a := [r]) fun x hx => by rw [List.mem_singleton.mp hx]; exact w]
        cases fr kp h <;> rfl
  · obtain ⟨r, t, w, q, e1, e2, e3, e4⟩ : ∃ r t w q, rs = r :: q ∧ r.2 = t :: w ∧ t ∈ ts ∧ hs[0]? = some r.1 := by
      rcases rf with z | z
      · have : n.toNat = 0 := by rw [← ups_len n.toNat, z]; rfl
        omega
      · exact z
    obtain ⟨q', e'⟩ := kf r q e1
    have lhn : ∀ i h, hs[i]? = some h → i < n.toNat := fun i h e => by have := (List.getElem?_eq_some_iff.mp e).1; omega
    refine ⟨hs, ts, by omega, sh, lt6, st, fun x hx => (rm x (km x hx)).1, fun x hx => (rm x (km x hx)).2, by omega, ⟨r, t, w, q', e', e2, e3⟩, nd, td, fun i h eh => ?_, fun j h hj eh => ?_, ⟨r.1, r, q', e4, e', rfl⟩, kpw.imp fun {a b} z e => ⟨(z e).1, fun m => (z e).2 (m.sub km)⟩, kor, fun i h eh => ?_⟩
    · obtain ⟨f, q2, a1, a2⟩ := rfr i (lhn i h eh) h eh
      obtain ⟨t', w', q3, b1, b2, b3⟩ := FS.f _ _ a1
      cases b1
      exact ⟨t', w', by rw [kfr h]; exact a2, b2, b3⟩
    · obtain ⟨i, hi, f, q2, a1, a2⟩ := FS.r j hj (lhn j h eh)
      have il : i < hs.length := by have := (List.getElem?_eq_some_iff.mp eh).1; omega
      have eg := List.getElem?_eq_getElem il
      obtain ⟨f', q3, b1, b2⟩ := rfr i (lhn i _ eg) _ eg
      rw [a1] at b1
      cases b1
      exact ⟨i, hs[i], f, hi, eg, (fr_mem ((kfr _).trans b2)).1, a2 h eh⟩
    · obtain ⟨f, q2, a1, a2⟩ := rfr i (lhn i h eh) h eh
      obtain ⟨t', w', q3, b1, b2, b3⟩ := FS.f _ _ a1
      cases b1
      obtain ⟨t2, w2, q4, c1, c2, c3⟩ := WS _ _ a1
      cases c1
      exact ⟨t', w', by rw [kfr h]; exact a2, b2, b3, by omega, by omega⟩
end Gt
namespace Gt
open PySem PySem.Spec PyProof.Rows L2
/-- the rules of run lead these signs to this text -/
inductive Drv (rs : RL) : List Str → RL → List Str → Prop
  | nil : Drv rs [] [] []
  | tk {s : Str} {st : List Str} {run : RL} {txt : List Str} : tok s = true → Drv rs st run txt → Drv rs (s :: st) run (s :: txt)
  | nt {h : Str} {side st : List Str} {run : RL} {txt : List Str} : (h, side) ∈ rs → Drv rs (side ++ st) run txt → Drv rs (h :: st) ((h, side) :: run) txt
section
variable {rs : RL}
theorem Drv.len {st : List Str} {run : RL} {txt : List Str} (D : Drv rs st run txt) : st.length ≤ run.length + txt.length := by
  induction D with
  | nil => exact Nat.zero_le _
  | tk _ _ ih => simp only [List.length_cons]; omega
  | nt _ _ ih => simp only [List.length_cons, List.length_append] at *; omega
/-- nothing is read: all may be empty -/
theorem Drv.emp (nt : ∀ r ∈ rs, tok r.1 = false) {st : List Str} {run : RL} {txt : List Str} (D : Drv rs st run txt) : txt = [] → ∀ s ∈ st, Emp rs s := by
  induction D with
  | nil => intro _ s hs; cases hs
  | tk _ _ _ => intro h; cases h
  | nt hr D ih =>
    intro h s hs
    have q := ih h
    rcases List.mem_cons.mp hs with e | e
    · subst e
      exact .mk (_, _) hr fun s hs => q s (List.mem_append_left _ hs)
    · exact q s (List.mem_append_right _ e)
theorem stl_app {x : Str} {b : List Str} (nt : ∀ r ∈ rs, tok r.1 = false) : ∀ {a : List Str}, StL (Emp rs) (Frs rs) (a ++ b) x ↔ StL (Emp rs) (Frs rs) a x ∨ ((∀ z ∈ a, Emp rs z) ∧ StL (Emp rs) (Frs rs) b x)
  | [] => by
    constructor
    · intro h; exact .inr ⟨(fun z hz => nomatch hz), h⟩
    · rintro (h | h)
      · exact h.elim
      · exact h.2
  | s :: a => by
    constructor
    · rintro (⟨t, e⟩ | ⟨t, h | ⟨e, h⟩⟩)
      · exact .inl (.inl ⟨t, e⟩)
      · exact .inl (.inr ⟨t, .inl h⟩)
      · rcases (stl_app (a := a) nt).mp h with q | ⟨q, w⟩
        · exact .inl (.inr ⟨t, .inr ⟨e, q⟩⟩)
        · exact .inr ⟨fun z hz => (List.mem_cons.mp hz).elim (fun u => u ▸ e) (q z), w⟩
    · rintro ((⟨t, e⟩ | ⟨t, h | ⟨e, h⟩⟩) | ⟨q, w⟩)
      · exact .inl ⟨t, e⟩
      · exact .inr ⟨t, .inl h⟩
      · exact .inr ⟨t, .inr ⟨e, (stl_app (a := a) nt).mpr (.inl h)⟩⟩
      · have e := q s List.mem_cons_self
        exact .inr ⟨e.nt nt, .inr ⟨e, (stl_app (a := a) nt).mpr (.inr ⟨fun z hz => q z (List.mem_cons_of_mem _ hz), w⟩)⟩⟩
/-- the first token of the text starts the signs -/
theorem Drv.st (nt : ∀ r ∈ rs, tok r.1 = false) {st : List Str} {run : RL} {txt : List Str} (D : Drv rs st run txt) : ∀ {t : Str} {w : List Str}, txt = t :: w → StL (Emp rs) (Frs rs) st t := by
  induction D with
  | nil => intro t w h; cases h
  | tk ht _ _ => intro t w h; cases h; exact .inl ⟨ht, rfl⟩
  | nt hr D ih =>
    intro t w h
    have q := ih h
    have th := nt _ hr
    rcases (stl_app nt).mp q with q | ⟨q, z⟩
    · exact .inr ⟨th, .inl (.mk hr q)⟩
    · exact .inr ⟨th, .inr ⟨.mk (_, _) hr q, z⟩⟩
/-- what stands behind a nonterminal among these signs follows it -/
def Flw (rs : RL) : List Str → Prop
  | [] => True
  | h :: st => (tok h = false → ∀ x, StL (Emp rs) (Frs rs) st x → Fol rs h x) ∧ Flw rs st
theorem flw_one {h : Str} : Flw rs [h] := ⟨fun _ _ q => q.elim, trivial⟩
theorem foL_in {A : Str → Prop} {s x : Str} {r p : List Str} (ts : tok s = false) (h : StL (Emp rs) (Frs rs) r x ∨ ((∀ z ∈ r, Emp rs z) ∧ A x)) : FoL (Emp rs) (Frs rs) A (p ++ s :: r) s x := FoL.app (.inl ⟨rfl, ts, h⟩)
theorem Flw.put (nt : ∀ r ∈ rs, tok r.1 = false) {h : Str} {side st : List Str} (hr : (h, side) ∈ rs) (F : Flw rs (h :: st)) : Flw rs (side ++ st) := by
  have go : ∀ (q p : List Str), side = p ++ q → Flw rs (q ++ st) := by
    intro q
    induction q with
    | nil => intro p e; exact F.2
    | cons s q ih =>
      intro p e
      refine ⟨fun ts x hx => ?_, ih (p ++ [s]) (by rw [e, List.append_assoc]; rfl)⟩
      have w : FoL (Emp rs) (Frs rs) (Fol rs h) side s x := by
        rw [e]
        refine foL_in ts ?_
        rcases (stl_app nt).mp hx with z | ⟨z, y⟩
        · exact .inl z
        · exact .inr ⟨z, F.1 (nt _ hr) x y⟩
      exact Fol.mk hr w
  exact go side [] rfl
/-- no two sides of a head go on by a common token -/
def LL1 (rs : RL) : Prop := ∀ h a b, (h, a) ∈ rs → (h, b) ∈ rs → Meets rs h a b → a = b
/-- what a table holds -/
structure TabOk (rs : RL) (T : Str × Option Str → Option (List Str)) : Prop where
  t : ∀ h x a, T (h, some x) = some a ↔ (h, a) ∈ rs ∧ StL (Emp rs) (Frs rs) a x
  n : ∀ h a, T (h, none) = some a ↔ (h, a) ∈ rs ∧ ∀ z ∈ a, Emp rs z
/-- the side that is taken for a nonterminal ahead of a token -/
def pick (T : Str × Option Str → Option (List Str)) (h t : Str) : Option (List Str) := (T (h, some t)).or (T (h, none))
theorem pick_ok (nt : ∀ r ∈ rs, tok r.1 = false) (L : LL1 rs) {T : Str × Option Str → Option (List Str)} (O : TabOk rs T) {h : Str} {side st : List Str} {run : RL} {t : Str} {w : List Str} (hr : (h, side) ∈ rs) (D : Drv rs (side ++ st) run (t :: w)) (F : Flw rs (h :: st)) : pick T h t = some side := by
  unfold pick
  rcases (stl_app nt).mp (D.st nt rfl) with q | ⟨q, z⟩
  · rw [(O.t h t side).mpr ⟨hr, q⟩]; rfl
  · have ff : Fol rs h t := F.1 (nt _ hr) t z
    cases e : T (h, some t) with
    | some b =>
      obtain ⟨hb, sb⟩ := (O.t h t b).mp e
      have : side = b := L h side b hr hb ⟨t, .inr ⟨q, .inl ff⟩, .inl sb⟩
      rw [this]; rfl
    | none => rw [(O.n h side).mpr ⟨hr, q⟩]; rfl
end
end Gt
namespace Gt
open PySem PySem.Spec PyProof.Rows L2
theorem cut_drop {α : Type} {xs : List α} {i : Int} (h0 : 0 ≤ i) (h1 : i ≤ xs.length) : cut xs (some i) none = xs.drop i.toNat := by
  unfold cut
  rw [sIx_in h0 h1, HT.sIx_none, List.take_of_length_le (by rw [List.length_drop]; exact Nat.le_refl _)]
end Gt
namespace Gt
open PySem PySem.Spec PyProof.Rows L2
section
variable {σ ρ : Type}
theorem Tt.wh {c : σ → M Bool} {f : σ → M σ} (I : σ → Prop) (μ : σ → Nat) {b : σ → Bool} (hc : ∀ s, I s → c s = .ok (b s)) (step : ∀ s, I s → b s = true → Tt (f s) fun s' => I s' ∧ μ s' < μ s) :
    ∀ (n : Nat) (s : σ), I s → μ s < n → Tt (mwhile c f n s) fun s' => I s' ∧ b s' = false
  | 0, s, _, h => absurd h (Nat.not_lt_zero _)
  | n + 1, s, hI, h => by
    show Tt (mb (c s) fun b => bif b then mb (f s) fun s' => mwhile c f n s' else .ok s) _
    rw [mb_of (hc s hI)]
    exact Tt.if (fun e => (step s hI e).bind fun s' ⟨h1, h2⟩ => Tt.wh I μ hc step n s' h1 (by omega)) fun e => Tt.ret ⟨hI, e⟩
/-- what a turn of such a loop may end in -/
def FlI (I : σ → Prop) (m : Nat) (μ : σ → Nat) (R : Fl σ ρ → Prop) : Fl σ ρ → Prop
  | .nx s' => I s' ∧ μ s' < m
  | .rt r => R (.rt r)
  | .bk s' => R (.nx s')
theorem Tt.whF {c : σ → M Bool} {f : σ → M (Fl σ ρ)} (I : σ → Prop) (μ : σ → Nat) {R : Fl σ ρ → Prop} {b : σ → Bool} (hc : ∀ s, I s → c s = .ok (b s)) (he : ∀ s, I s → b s = false → R (.nx s)) (step : ∀ s, I s → b s = true → Tt (f s) (FlI I (μ s) μ R)) :
    ∀ (n : Nat) (s : σ), I s → μ s < n → Tt (mwhileF c f n s) R
  | 0, s, _, h => absurd h (Nat.not_lt_zero _)
  | n + 1, s, hI, h => by
    show Tt (mb (c s) fun b => bif b then mb (f s) (fun o => match o with
      | .nx s' => mwhileF c f n s'
      | .rt r => .ok (.rt r)
      | .bk s' => .ok (.nx s')) else .ok (.nx s)) _
    rw [mb_of (hc s hI)]
    refine Tt.if (fun e => (step s hI e).bind fun o ho => ?_) fun e => Tt.ret (he s hI e)
    cases o with
    | nx s' => exact Tt.whF I μ hc he step n s' ho.1 (by have := ho.2; omega)
    | rt r => exact Tt.ret ho
    | bk s' => exact Tt.ret ho
end
section
variable {α : Type}
theorem pkey_map {k k' : KP} {v : α} : ∀ {xs : List (KP × α)}, pkey (xs.map fun kv => if kv.1 = k then (kv.1, v) else kv) k' = if k' = k then (pkey xs k').map (fun _ => v) else pkey xs k'
  | [] => by
    show none = if k' = k then (none : Option α).map _ else none
    split <;> rfl
  | (a, b) :: xs => by
    have ih := pkey_map (k := k) (k' := k') (v := v) (xs := xs)
    unfold pkey at ih ⊢
    rw [List.map_cons, List.find?_cons, List.find?_cons]
    by_cases e : a = k'
    · by_cases e2 : k' = k
      · rw [if_pos e2] at ih ⊢
        rw [if_pos (show (a, b).1 = k from e.trans e2)]
        rw [decide_eq_true (show ((a, b).1, v).1 = k' from e)]
        rfl
      · rw [if_neg e2]
        rw [if_neg (show ¬ (a, b).1 = k from fun z => e2 (e.symm.trans z)), decide_eq_true (show (a, b).1 = k' from e)]
    · have e3 : (if (a, b).1 = k then ((a, b).1, v) else (a, b)).1 = a := by split <;> rfl
      rw [e3, decide_eq_false e]
      exact ih
theorem pkey_app {k : KP} {xs ys : List (KP × α)} : pkey (xs ++ ys) k = (pkey xs k).or (pkey ys k) := by
  unfold pkey
  rw [List.find?_append]
  cases xs.find? fun kv => decide (kv.1 = k) <;> rfl
theorem pkey_pput {k k' : KP} {v : α} {xs : List (KP × α)} : pkey (pput xs k v) k' = if k' = k then some v else pkey xs k' := by
  unfold pput
  split
  · rename_i h
    rw [pkey_map]
    by_cases e : k' = k
    · rw [if_pos e, if_pos e, e]
      obtain ⟨w, hw⟩ := Option.isSome_iff_exists.mp h
      rw [hw]; rfl
    · rw [if_neg e, if_neg e]
  · rename_i h
    have hn : pkey xs k = none := by cases q : pkey xs k with | none => rfl | some w => rw [q] at h; exact absurd rfl h
    rw [pkey_app]
    by_cases e : k' = k
    · rw [if_pos e, e, hn]
      unfold pkey
      rw [List.find?_cons, decide_eq_true rfl]
      rfl
    · rw [if_neg e]
      have : pkey [(k, v)] k' = none := by
        unfold pkey
        rw [List.find?_cons, decide_eq_false fun z => e z.symm]
        rfl
      rw [this]
      cases pkey xs k' <;> rfl
theorem len_pput {k : KP} {v : α} {xs : List (KP × α)} : (pput xs k v).length ≤ xs.length + 1 := by
  unfold pput
  split
  · rw [List.length_map]; omega
  · rw [List.length_append]; exact Nat.le_refl _
/-- a key more -/
theorem pput_add {Q : KP → α → Prop} {s : List (KP × α)} {k : KP} {v : α} (h : ∀ k' a, pkey s k' = some a ↔ Q k' a) (u : ∀ a, Q k a → a = v) (k' : KP) (a : α) : pkey (pput s k v) k' = some a ↔ Q k' a ∨ (k' = k ∧ a = v) := by
  rw [pkey_pput]
  by_cases e : k' = k
  · rw [if_pos e]
    constructor
    · intro z; cases z; exact .inr ⟨e, rfl⟩
    · rintro (z | ⟨_, z⟩)
      · rw [u a (e ▸ z)]
      · rw [z]
  · rw [if_neg e, h]
    exact ⟨.inl, fun z => z.elim id fun w => absurd w.1 e⟩
end
end Gt
namespace Gt
open PySem PySem.Spec PyProof.Rows L2
variable {rs : RL} {T : List (KP × List Str)}
theorem cut1 {α : Type} {x : α} {l : List α} : cut (x :: l) (some (1 : Int)) none = l := by
  rw [cut_drop (by omega) (by rw [List.length_cons]; omega)]
  rfl
theorem atI0' {α : Type} {x : α} {l : List α} : atI (x :: l) (0 : Int) = some x := atI_pos (by omega) (by simp)
theorem Drv.tkS {s : Str} {st : List Str} {run : RL} {txt : List Str} (nt : ∀ r ∈ rs, tok r.1 = false) (h : tok s = true) (D : Drv rs (s :: st) run txt) : ∃ txt', txt = s :: txt' ∧ Drv rs st run txt' := by
  cases D with
  | tk _ D => exact ⟨_, rfl, D⟩
  | nt hr _ => rw [nt _ hr] at h; cases h
theorem Drv.ntS {s : Str} {st : List Str} {run : RL} {txt : List Str} (h : tok s = false) (D : Drv rs (s :: st) run txt) : ∃ side run', run = (s, side) :: run' ∧ (s, side) ∈ rs ∧ Drv rs (side ++ st) run' txt := by
  cases D with
  | tk h' _ => rw [h'] at h; cases h
  | nt hr D => exact ⟨_, _, rfl, hr, D⟩
/-- one token -/
theorem t_advance (nt : ∀ r ∈ rs, tok r.1 = false) (L : LL1 rs) (O : TabOk rs (pkey T)) {st : List Str} {run : RL} {t : Str} {txt : List Str} (D : Drv rs st run (t :: txt)) (F : Flw rs st) (b : run.length + (t :: txt).length ≤ 99000) :
    Tt (m_advance st T t) fun z => ∃ rest run2, z.2.1 = some rest ∧ run = z.1 ++ run2 ∧ Drv rs rest run2 txt ∧ Flw rs rest := by
  unfold m_advance
  refine Tt.let (Tt.let (Tt.bind (P := fun o => ∃ r1 rest run2, o = .rt (r1, some rest, ()) ∧ run = r1 ++ run2 ∧ Drv rs rest run2 txt ∧ Flw rs rest)
    (Tt.whF (fun (s : RL × List Str) => ∃ run2, run = s.1 ++ run2 ∧ Drv rs s.2 run2 (t :: txt) ∧ Flw rs s.2) (fun s => run.length - s.1.length) (b := fun s => !s.2.isEmpty) (fun s _ => rfl) (fun s ⟨run2, _, D2, _⟩ e => ?_) (fun s ⟨run2, er, D2, F2⟩ e => ?_) fuel _ ⟨run, rfl, D, F⟩ ?_) ?_))
  · obtain ⟨r1, stk⟩ := s
    have er : run = r1 ++ run2 := er
    have D2 : Drv rs stk run2 (t :: txt) := D2
    have F2 : Flw rs stk := F2
    have l1 : run.length = r1.length + run2.length := by rw [er, List.length_append]
    cases stk with
    | nil => cases D2
    | cons s st2 =>
      refine Tt.oM atI0' ?_
      cases hs : tok s with
      | true =>
        obtain ⟨txt', e1, D3⟩ := D2.tkS nt hs
        cases e1
        refine Tt.if (fun _ => Tt.ret ?_) fun c => ?_
        · exact ⟨r1, st2, run2, by rw [cut1], er, D3, F2.2⟩
        · rw [decide_eq_true rfl] at c; cases c
      | false =>
        have tt : tok t = true := by
          have := D2.st nt rfl
          have go : ∀ l, StL (Emp rs) (Frs rs) l t → tok t = true := by
            have fr : ∀ h x, Frs rs h x → tok x = true := fun h x q => q (fun _ x => tok x = true) fun r hr x w => by
              have : ∀ l, StL (Emp rs) (fun _ x => tok x = true) l x → tok x = true := by
                intro l
                induction l with
                | nil => intro q; exact q.elim
                | cons y l ih =>
                  rintro (⟨a, e⟩ | ⟨_, q | ⟨_, q⟩⟩)
                  · rw [e]; exact a
                  · exact q
                  · exact ih q
              exact this _ w
            intro l
            induction l with
            | nil => intro q; exact q.elim
            | cons y l ih =>
              rintro (⟨a, e⟩ | ⟨_, q | ⟨_, q⟩⟩)
              · rw [e]; exact a
              · exact fr _ _ q
              · exact ih q
          exact go _ this
        obtain ⟨side, run', e1, hr, D3⟩ := D2.ntS hs
        refine Tt.if (fun c => ?_) fun _ => Tt.let ?_
        · rw [of_decide_eq_true c, tt] at hs; cases hs
        have pk : (pkey T (s, some t)).or (pkey T (s, (none : Option Str))) = some side := pick_ok nt L O hr D3 F2
        rw [pk]
        have l2 := D3.len
        have l3 : run2.length = run'.length + 1 := by rw [e1]; rfl
        rw [List.length_append] at l2
        refine Tt.if (fun c => by cases c) fun _ => Tt.oM rfl (Tt.chk (by show r1.length < 100000; omega) (Tt.let (Tt.chk (by rw [cut1]; omega) (Tt.let (Tt.ret ?_)))))
        rw [cut1]
        refine ⟨⟨run', ?_, D3, F2.put nt hr⟩, ?_⟩
        · rw [er, e1, List.append_assoc]; rfl
        · show run.length - (r1 ++ [(s, side)]).length < run.length - r1.length
          rw [List.length_append, List.length_singleton]; omega
  · show run.length - 0 < fuel
    unfold fuel
    omega
  · rintro o ⟨r1, rest, run2, e, h⟩
    subst e
    exact Tt.ret ⟨rest, run2, rfl, h⟩
  · have : s.2 = [] := by cases h : s.2 with | nil => rfl | cons a l => rw [h] at e; cases e
    rw [this] at D2
    cases D2
/-- the end of the text -/
theorem t_finish (nt : ∀ r ∈ rs, tok r.1 = false) (L : LL1 rs) (O : TabOk rs (pkey T)) {st : List Str} {run : RL} (D : Drv rs st run []) (b : run.length ≤ 99000) : m_finish st T = .ok (some run) := by
  refine Tt.eq ?_
  unfold m_finish
  refine Tt.let (Tt.let (Tt.bind (P := fun o => ∃ r2, o = .nx (run, r2))
    (Tt.whF (fun (s : RL × List Str) => ∃ run2, run = s.1 ++ run2 ∧ Drv rs s.2 run2 []) (fun s => run.length - s.1.length) (b := fun s => !s.2.isEmpty) (fun s _ => rfl) (fun s ⟨run2, er, D2⟩ e => ?_) (fun s ⟨run2, er, D2⟩ e => ?_) fuel _ ⟨run, rfl, D⟩ ?_) ?_))
  · obtain ⟨r1, stk⟩ := s
    have er : run = r1 ++ run2 := er
    have D2 : Drv rs stk run2 [] := D2
    have l1 : run.length = r1.length + run2.length := by rw [er, List.length_append]
    cases stk with
    | nil => cases e
    | cons s st2 =>
      refine Tt.oM atI0' ?_
      cases hs : tok s with
      | true => obtain ⟨txt', e1, _⟩ := D2.tkS nt hs; cases e1
      | false =>
        obtain ⟨side, run', e1, hr, D3⟩ := D2.ntS hs
        have pk : pkey T (s, (none : Option Str)) = some side := (O.n s side).mpr ⟨hr, fun z hz => D3.emp nt rfl z (List.mem_append_left _ hz)⟩
        rw [pk]
        have l2 := D3.len
        have l3 : run2.length = run'.length + 1 := by rw [e1]; rfl
        rw [List.length_append, List.length_nil] at l2
        refine Tt.if (fun c => by cases c) fun _ => Tt.oM rfl (Tt.chk (by show r1.length < 100000; omega) (Tt.let (Tt.chk (by rw [cut1]; omega) (Tt.let (Tt.ret ?_)))))
        rw [cut1]
        refine ⟨⟨run', ?_, D3⟩, ?_⟩
        · rw [er, e1, List.append_assoc]; rfl
        · show run.length - (r1 ++ [(s, side)]).length < run.length - r1.length
          rw [List.length_append, List.length_singleton]; omega
  · show run.length - 0 < fuel
    unfold fuel
    omega
  · rintro o ⟨r2, e⟩
    subst e
    exact Tt.ret rfl
  · obtain ⟨r1, stk⟩ := s
    cases stk with
    | nil =>
      cases D2
      exact ⟨[], by rw [show run = r1 ++ [] from er, List.append_nil]⟩
    | cons a l => cases e
theorem t_read (nt : ∀ r ∈ rs, tok r.1 = false) (L : LL1 rs) (O : TabOk rs (pkey T)) {s0 : Str} {run : RL} {txt : List Str} (D : Drv rs [s0] run txt) (b : run.length + txt.length ≤ 99000) :
    Tt (m_read s0 T txt) fun z => ∃ run2, run = z.1 ++ run2 ∧ z.2.1 = (txt.length : Int) ∧ Drv rs z.2.2.1 run2 [] := by
  unfold m_read
  refine Tt.let (Tt.let (Tt.chk (by omega) (Tt.bind (P := fun o => ∃ r1 stk run2, o = .nx (r1, stk) ∧ run = r1 ++ run2 ∧ Drv rs stk run2 [])
    (Tt.forF (fun (pre : List Int) (s : RL × List Str) => ∃ run2, run = s.1 ++ run2 ∧ Drv rs s.2 run2 (txt.drop pre.length) ∧ Flw rs s.2) ⟨run, rfl, D, flw_one⟩ (fun s ⟨run2, er, D2, _⟩ => ?_) fun pre x post s e ⟨run2, er, D2, F2⟩ => ?_) ?_)))
  · refine ⟨s.1, s.2, run2, rfl, er, ?_⟩
    rw [ups_len, Int.toNat_natCast, List.drop_length] at D2
    exact D2
  · obtain ⟨ex, lx⟩ := ups_at e
    obtain ⟨r1, stk⟩ := s
    have er : run = r1 ++ run2 := er
    have lx : pre.length < txt.length := by simpa using lx
    have lp : (pre ++ [x]).length = pre.length + 1 := by rw [List.length_append]; rfl
    have et : txt[pre.length]? = some txt[pre.length] := List.getElem?_eq_getElem lx
    have ed : txt.drop pre.length = txt[pre.length] :: txt.drop (pre.length + 1) := List.drop_eq_getElem_cons lx
    have l1 : run.length = r1.length + run2.length := by rw [er, List.length_append]
    have l2 : (txt.drop pre.length).length ≤ txt.length := by rw [List.length_drop]; omega
    rw [ed] at D2 l2
    refine Tt.oM (a := txt[pre.length]) (by rw [ex]; exact atI_pos (by omega) (by simpa using et)) ((t_advance nt L O D2 F2 (by omega)).bind ?_)
    rintro ⟨z1, z2, z3⟩ ⟨rest, run3, e1, e2, D3, F3⟩
    have e1 : z2 = some rest := e1
    have e2 : run2 = z1 ++ run3 := e2
    subst e1
    have l3 : run2.length = z1.length + run3.length := by rw [e2, List.length_append]
    refine Tt.if (fun c => by cases c) fun _ => Tt.chk (by show r1.length + z1.length ≤ 100000; omega) (Tt.let (Tt.oM rfl (Tt.ret ?_)))
    exact ⟨run3, by rw [er, e2, List.append_assoc], by rw [lp]; exact D3, F3⟩
  · rintro o ⟨r1, stk, run2, e, er, D2⟩
    subst e
    exact Tt.ret ⟨run2, er, rfl, D2⟩
/-- a reader -/
theorem t_call (nt : ∀ r ∈ rs, tok r.1 = false) (L : LL1 rs) (O : TabOk rs (pkey T)) {s0 : Str} {run : RL} {txt : List Str} (lT : T.length ≤ 100000) (D : Drv rs [s0] run txt) (b : run.length + txt.length ≤ 99000) : m_Reader___call__ (((), s0), T) txt = .ok run := by
  refine Tt.eq ?_
  unfold m_Reader___call__
  refine Tt.chk lT ((t_read nt L O D b).bind ?_)
  rintro ⟨r1, i, stk, u⟩ ⟨run2, er, ei, D2⟩
  have er : run = r1 ++ run2 := er
  have ei : i = (txt.length : Int) := ei
  have l1 : run.length = r1.length + run2.length := by rw [er, List.length_append]
  refine Tt.if (fun c => ?_) fun _ => Tt.by (t_finish nt L O D2 (by omega)) (Tt.if (fun c => by cases c) fun _ => Tt.oM rfl (Tt.chk (by show r1.length + run2.length ≤ 100000; omega) (Tt.ret er.symm)))
  have := of_decide_eq_true c
  have this : i < (txt.length : Int) := this
  omega
end Gt
namespace Gt
open PySem PySem.Spec PyProof.Rows L2
/-- the first sign that lacks a rule -/
noncomputable def miss (rs : RL) : Option Str := rs.findSome? fun r => r.2.findSome? fun s => bif !(tok s) && !(decide (s ∈ rs.map (·.1))) then some s else none
end Gt
namespace Gt
open PySem PySem.Spec PyProof.Rows L2
theorem eqB_self {α : Type} (x : α) : eqB x x = true := eqB_iff.mpr rfl
section
variable {α : Type}
noncomputable def ins (l : List α) (x : α) : List α := bif memB x l then l else l ++ [x]
noncomputable def dd (l : List α) : List α := l.foldl ins []
end
end Gt
namespace Gt
open PySem PySem.Spec PyProof.Rows L2
theorem dotT : ∀ s ∈ names true, 46 ∉ s.cps.toList := by decide +kernel
theorem dotF : ∀ s ∈ names false, 46 ∉ s.cps.toList := by decide +kernel
theorem sgn_dot : sgn ("." : Str) = some 46 := by decide +kernel
theorem t_heads {n : Nat} {hs ts : List Str} {rs : RL} (H : Host n hs ts rs) : Tt (m__law_heads rs) fun l => 0 < l.length ∧ l.length ≤ 42 ∧ (∀ x ∈ l, x ∈ hs) ∧ l.Nodup ∧ ∀ r ∈ rs, r.1 ∈ l := by
  unfold m__law_heads
  have rl := H.l
  refine Tt.let (Tt.bind (Tt.for (fun (pre : RL) (l : List Str) => l.length ≤ pre.length ∧ (∀ x ∈ l, x ∈ hs) ∧ (∀ r ∈ pre, r.1 ∈ l) ∧ l.Nodup) ⟨Nat.le_refl _, (fun x q => nomatch q), (fun r q => nomatch q), List.nodup_nil⟩ ?_) fun l ⟨h1, h2, h3, h4⟩ => Tt.ret ⟨?_, by omega, h2, h4, h3⟩)
  · rintro pre r post l e ⟨h1, h2, h3, h4⟩
    have hr : r ∈ rs := by rw [e]; exact List.mem_append_right _ List.mem_cons_self
    have pl : pre.length + 1 ≤ rs.length := by rw [e, List.length_append, List.length_cons]; omega
    have lp : (pre ++ [r]).length = pre.length + 1 := by rw [List.length_append]; rfl
    refine Tt.oM sgn_dot ?_
    rw [decide_eq_false (dotT _ (H.hn _ (H.h r hr)))]
    refine Tt.if (fun c => Tt.chk (by omega) (Tt.let (Tt.ret ⟨?_, fun x hx => ?_, fun y hy => ?_, ?_⟩))) fun c => Tt.ret ⟨by omega, h2, fun y hy => ?_, h4⟩
    · rw [List.length_append, lp, List.length_singleton]; omega
    · rcases List.mem_append.mp hx with q | q
      · exact h2 x q
      · rw [List.mem_singleton.mp q]; exact H.h r hr
    · rcases List.mem_append.mp hy with q | q
      · exact List.mem_append_left _ (h3 y q)
      · rw [List.mem_singleton.mp q]; exact List.mem_append_right _ (List.mem_singleton.mpr rfl)
    · have nm : r.1 ∉ l := by simpa using c
      rw [List.nodup_append]
      refine ⟨h4, by simp, fun a ha b hb e => ?_⟩
      rw [List.mem_singleton.mp hb] at e
      exact nm (e ▸ ha)
    · rcases List.mem_append.mp hy with q | q
      · exact h3 y q
      · rw [List.mem_singleton.mp q]
        rcases Classical.em (r.1 ∈ l) with w | w
        · exact w
        · rw [decide_eq_false w] at c; cases c
  · obtain ⟨r, t, w, q, e, _⟩ := H.f
    exact List.length_pos_of_mem (h3 r (by rw [e]; exact List.mem_cons_self))
theorem t_tokens {n : Nat} {hs ts : List Str} {rs : RL} (H : Host n hs ts rs) : Tt (m__law_tokens rs) fun l => 0 < l.length ∧ l.length ≤ 6 ∧ (∀ x ∈ l, x ∈ ts ∧ ∃ r ∈ rs, x ∈ r.2) ∧ l.Nodup ∧ ∀ r ∈ rs, ∀ x ∈ r.2, x ∈ ts → x ∈ l := by
  unfold m__law_tokens
  refine Tt.let (Tt.bind (Tt.for (fun (pre : RL) (l : List Str) => l.Nodup ∧ (∀ x ∈ l, x ∈ ts ∧ ∃ r ∈ rs, x ∈ r.2) ∧ ∀ r ∈ pre, ∀ x ∈ r.2, x ∈ ts → x ∈ l) ⟨List.nodup_nil, (fun x q => nomatch q), fun r q => nomatch q⟩ ?_) fun l ⟨h1, h2, h3⟩ => Tt.ret ⟨?_, ?_, h2, h1, h3⟩)
  · rintro pre r post l e ⟨h1, h2, h3⟩
    have hr : r ∈ rs := by rw [e]; exact List.mem_append_right _ List.mem_cons_self
    refine Tt.bind (Tt.for (fun (p : List Str) (m : List Str) => m.Nodup ∧ (∀ x ∈ m, x ∈ ts ∧ ∃ r ∈ rs, x ∈ r.2) ∧ (∀ x ∈ l, x ∈ m) ∧ ∀ x ∈ p, x ∈ ts → x ∈ m) ⟨h1, h2, (fun x q => q), fun x q => nomatch q⟩ ?_) fun m ⟨m1, m2, m3, m4⟩ => Tt.ret ⟨m1, m2, fun y hy x hx tx => ?_⟩
    · rintro p x q m e2 ⟨m1, m2, m3, m4⟩
      have hx : x ∈ r.2 := by rw [e2]; exact List.mem_append_right _ List.mem_cons_self
      have ml := nd_le m1 fun x hx => (m2 x hx).1
      have := H.tl
      have nd : 46 ∉ x.cps.toList := ((H.s r hr).1 x hx).elim (fun z => dotT x (H.hn x z)) fun z => dotF x (H.tn x z)
      refine Tt.oM sgn_dot ?_
      rw [decide_eq_false nd]
      rcases Classical.em (x ∈ ts) with tx | tx
      · rw [mb_of (Tt.mand (b := true && !(decide (x ∈ m))) fun _ => by rw [mb_of (ltk_of (ltk_F x (H.tn x tx)))])]
        refine Tt.if (fun c => Tt.chk (by omega) (Tt.let (Tt.ret ⟨?_, fun y hy => ?_, fun y hy => List.mem_append_left _ (m3 y hy), fun y hy ty => ?_⟩))) fun c => Tt.ret ⟨m1, m2, m3, fun y hy ty => ?_⟩
        · have nm : x ∉ m := by simpa using c
          rw [List.nodup_append]
          refine ⟨m1, by simp, fun a ha b hb e => ?_⟩
          rw [List.mem_singleton.mp hb] at e
          exact nm (e ▸ ha)
        · rcases List.mem_append.mp hy with w | w
          · exact m2 y w
          · rw [List.mem_singleton.mp w]; exact ⟨tx, r, hr, hx⟩
        · rcases List.mem_append.mp hy with w | w
          · exact List.mem_append_left _ (m4 y w ty)
          · exact List.mem_append_right _ w
        · rcases List.mem_append.mp hy with w | w
          · exact m4 y w ty
          · rw [List.mem_singleton.mp w]
            rcases Classical.em (x ∈ m) with z | z
            · exact z
            · rw [decide_eq_false z] at c; cases c
      · have hh : x ∈ hs := ((H.s r hr).1 x hx).resolve_right tx
        rw [mb_of (Tt.mand (b := false && !(decide (x ∈ m))) fun _ => by rw [mb_of (ltk_of (ltk_T x (H.hn x hh)))])]
        refine Tt.ret ⟨m1, m2, m3, fun y hy ty => ?_⟩
        rcases List.mem_append.mp hy with w | w
        · exact m4 y w ty
        · rw [List.mem_singleton.mp w] at ty; exact absurd ty tx
    · rcases List.mem_append.mp hy with w | w
      · exact m3 x (h3 y w x hx tx)
      · rw [List.mem_singleton.mp w] at hx; exact m4 x hx tx
  · obtain ⟨r, t, w, q, e, e2, ht⟩ := H.f
    exact List.length_pos_of_mem (h3 r (by rw [e]; exact List.mem_cons_self) t (by rw [e2]; exact List.mem_cons_self) ht)
  · have := nd_le h1 fun x hx => (h2 x hx).1
    have := H.tl
    omega
/-- the four lists of names -/
structure Nms (U A B O I : List Str) : Prop where
  a : 0 < A.length
  b : 0 < B.length
  o : O.length = 4
  m : ∀ x, x ∈ A ∨ x ∈ B ∨ x ∈ O ∨ x ∈ I → x ∈ U
  la : A.length ≤ 100
  lb : B.length ≤ 100
  li : I.length ≤ 2
/-- how many are not among these -/
def cnO (O t : List Str) : Nat := (t.filter fun x => decide (x ∉ O)).length
theorem cnO_snoc {O t : List Str} {x : Str} : cnO O (t ++ [x]) ≤ cnO O t + 1 := by
  unfold cnO
  rw [List.filter_append, List.length_append]
  have := List.length_filter_le (fun x => decide (x ∉ O)) [x]
  rw [List.length_singleton] at this
  omega
theorem cnO_in {O t : List Str} {x : Str} (h : x ∈ O) : cnO O (t ++ [x]) = cnO O t := by
  unfold cnO
  rw [List.filter_append, List.length_append, List.filter_cons_of_neg (by simpa using h)]
  rfl
theorem cnO_app {O t u : List Str} : cnO O (t ++ u) = cnO O t + cnO O u := by
  unfold cnO
  rw [List.filter_append, List.length_append]
theorem cnO_le {O t : List Str} : cnO O t ≤ t.length := List.length_filter_le _ _
theorem t_tailC {U A B O I : List Str} (N : Nms U A B O I) {row : List Int} (hl : row.length ≤ 10) (care : Int) : Tt (m__law_tail row care [A, B, O, I]) fun t => t.length ≤ 2 * row.length ∧ (∀ x ∈ t, x ∈ U) ∧ cnO O t ≤ row.length := by
  unfold m__law_tail
  refine Tt.let (Tt.bind (Tt.for (fun (pre : List Int) (t : List Str) => t.length ≤ 2 * pre.length ∧ (∀ x ∈ t, x ∈ U) ∧ cnO O t ≤ pre.length) ⟨Nat.le_refl _, (fun x q => nomatch q), Nat.zero_le _⟩ ?_) fun t h => Tt.ret h)
  rintro pre d post t e ⟨tl, tm, tc⟩
  have pl : pre.length + 1 ≤ row.length := by rw [e, List.length_append, List.length_cons]; omega
  have lp : (pre ++ [d]).length = pre.length + 1 := by rw [List.length_append]; rfl
  refine Tt.let (Tt.let ?_)
  have k0 : 0 ≤ d % 4 := Int.emod_nonneg _ (by omega)
  have k1 : d % 4 < 4 := Int.emod_lt_of_pos _ (by omega)
  generalize d % 4 = kind at k0 k1 ⊢
  generalize d / 4 = which
  rw [mb_of (Tt.mand (b := decide ((I.length : Int) = 0)) fun _ => by rw [mb_of (oM_of (show atI [A, B, O, I] (3 : Int) = some I from rfl))])]
  refine Tt.bind (P := fun (k : Int) => ∃ l, l ∈ [A, B, O, I] ∧ 0 < l.length ∧ ∃ j, atI [(2 : Int), 1, 0, 3] k = some j ∧ atI [A, B, O, I] j = some l) ?_ ?_
  · refine Tt.if (fun _ => Tt.let (Tt.ret ⟨O, by simp, by have := N.o; omega, 2, rfl, rfl⟩)) fun c => Tt.ret ?_
    rcases (show kind = 0 ∨ kind = 1 ∨ kind = 2 ∨ kind = 3 by omega) with q | q | q | q
    · subst q; exact ⟨O, by simp, by have := N.o; omega, 2, rfl, rfl⟩
    · subst q; exact ⟨B, by simp, N.b, 1, rfl, rfl⟩
    · subst q; exact ⟨A, by simp, N.a, 0, rfl, rfl⟩
    · subst q
      refine ⟨I, by simp, ?_, 3, rfl, rfl⟩
      rcases Nat.eq_zero_or_pos I.length with z | z
      · rw [z] at c
        cases c
      · exact z
  · rintro k ⟨l, hm, lpos, j, hj, hl2⟩
    refine Tt.oM hj (Tt.oM hl2 (Tt.chk (by omega) (Tt.ix (Int.emod_nonneg _ (by omega)) (Int.emod_lt_of_pos _ (by omega)) fun y hy _ => ?_)))
    have yU : y ∈ U := by
      refine N.m y ?_
      rcases List.mem_cons.mp hm with q | hm
      · exact .inl (q ▸ hy)
      · rcases List.mem_cons.mp hm with q | hm
        · exact .inr (.inl (q ▸ hy))
        · rcases List.mem_cons.mp hm with q | hm
          · exact .inr (.inr (.inl (q ▸ hy)))
          · exact .inr (.inr (.inr (List.mem_singleton.mp hm ▸ hy)))
    have m2 : ∀ x ∈ t ++ [y], x ∈ U := fun x hx => by
      rcases List.mem_append.mp hx with q | q
      · exact tm x q
      · rw [List.mem_singleton.mp q]; exact yU
    have l2 : (t ++ [y]).length = t.length + 1 := by rw [List.length_append]; rfl
    have c2 : cnO O (t ++ [y]) ≤ pre.length + 1 := Nat.le_trans cnO_snoc (by omega)
    refine Tt.chk (by rw [List.length_singleton]; omega) (Tt.let (Tt.if (fun _ => ?_) fun _ => Tt.ret ⟨by rw [l2, lp]; omega, m2, by rw [lp]; exact c2⟩))
    refine Tt.oM (show atI [A, B, O, I] (2 : Int) = some O from rfl) (Tt.ix (by omega) (by have := N.o; omega) fun z hz _ => Tt.chk (by rw [l2, List.length_singleton]; omega) (Tt.let (Tt.ret ⟨?_, fun x hx => ?_, by rw [lp, cnO_in hz]; exact c2⟩)))
    · rw [List.length_append, l2, lp, List.length_singleton]; omega
    · rcases List.mem_append.mp hx with q | q
      · exact m2 x q
      · rw [List.mem_singleton.mp q]; exact N.m z (.inr (.inr (.inl hz)))
theorem t_tail {U A B O I : List Str} (N : Nms U A B O I) {row : List Int} (hl : row.length ≤ 10) (care : Int) : Tt (m__law_tail row care [A, B, O, I]) fun t => t.length ≤ 2 * row.length ∧ ∀ x ∈ t, x ∈ U := (t_tailC N hl care).imp fun _ h => ⟨h.1, h.2.1⟩
end Gt
namespace Gt
open PySem PySem.Spec PyProof.Rows L2
/-- a plain sign, an own token or a later inner head -/
def Later (A B O I : List Str) (p : Nat) (x : Str) : Prop := (x ∈ A ∨ x ∈ B ∨ x ∈ O) ∨ ∃ j : Nat, p < j ∧ I[j]? = some x
theorem mem_drop {I : List Str} {n : Nat} {x : Str} (h : x ∈ I.drop n) : ∃ j : Nat, n ≤ j ∧ I[j]? = some x := by
  obtain ⟨i, hi⟩ := List.mem_iff_getElem?.mp h
  rw [List.getElem?_drop] at hi
  exact ⟨n + i, by omega, hi⟩
theorem cut_from {xs : List Str} {i : Int} (h : 0 ≤ i) (h2 : i ≤ xs.length) : ∀ x ∈ cut xs (some i) none, x ∈ xs.drop i.toNat := fun x hx => by
  unfold cut at hx
  rw [sIx_in h h2] at hx
  exact List.mem_of_mem_take hx
theorem cut2 {u w : Str} {b : Bool} : u ∈ cut [u, w] none (some ((1 : Int) + b2 b)) := by cases b <;> exact List.mem_cons_self
theorem t_inner {U A B O I : List Str} (N : Nms U A B O I) {draws : List Int} (hd : draws.length = 12) (dd : ∀ d ∈ draws, 0 ≤ d ∧ d < 840) (care : Int) {place : Int} (hp : 0 ≤ place ∧ place < 2) : Tt (m__law_inner draws care [A, B, O, I] place) fun S => S.length ≤ 3 ∧ (∀ s ∈ S, s.length ≤ 12 ∧ ∀ x ∈ s, x ∈ U) ∧ ∃ f q, S = f :: q ∧ (∀ x ∈ f, Later A B O I place.toNat x) ∧ (place = 0 → ∀ h, I[1]? = some h → h ∈ f) ∧ f.length ≤ 7 ∧ cnO O f ≤ 4 := by
  unfold m__law_inner
  have lo := N.o
  have la := N.la
  have lb := N.lb
  have li := N.li
  have lOB : (O ++ B).length = 4 + B.length := by rw [List.length_append, lo]
  have mOB : ∀ x ∈ O ++ B, x ∈ U := fun x hx => (List.mem_append.mp hx).elim (fun q => N.m x (.inr (.inr (.inl q)))) fun q => N.m x (.inr (.inl q))
  refine Tt.oM (show atI [A, B, O, I] (2 : Int) = some O from rfl) (Tt.oM (show atI [A, B, O, I] (0 : Int) = some A from rfl) (Tt.oM (show atI [A, B, O, I] (1 : Int) = some B from rfl) (Tt.oM (show atI [A, B, O, I] (3 : Int) = some I from rfl) ?_)))
  refine Tt.chk (by omega) (Tt.let (Tt.ix (by omega) (by omega) fun d0 hd0 _ => Tt.chk (by omega) (Tt.ix (Int.emod_nonneg _ (by omega)) (Int.emod_lt_of_pos _ (by omega)) fun s0 hs0 _ => ?_)))
  have dd0 := dd d0 hd0
  refine Tt.bind (P := fun (s : Str) => s ∈ O ++ B) (Tt.if (fun _ => Tt.ix (by omega) (by omega) fun z hz _ => Tt.ret (List.mem_append_left _ hz)) fun _ => Tt.ret hs0) fun s1 hs1 => ?_
  have N2 : Nms (A ++ (B ++ (O ++ cut I (some (place + 1)) none))) A B O (cut I (some (place + 1)) none) := ⟨N.a, N.b, N.o, fun x hx => by simp only [List.mem_append]; exact hx, N.la, N.lb, Nat.le_trans (cut_le _ _ _) N.li⟩
  have lt2 : ∀ x ∈ A ++ (B ++ (O ++ cut I (some (place + 1)) none)), Later A B O I place.toNat x := fun x hx => by
    simp only [List.mem_append] at hx
    rcases hx with q | q | q | q
    · exact .inl (.inl q)
    · exact .inl (.inr (.inl q))
    · exact .inl (.inr (.inr q))
    · rcases Classical.em (place + 1 ≤ (I.length : Int)) with w | w
      · obtain ⟨j, hj, ej⟩ := mem_drop (cut_from (by omega) w x q)
        exact .inr ⟨j, by omega, ej⟩
      · exfalso
        unfold cut at q
        obtain ⟨m, hm⟩ := Int.eq_ofNat_of_zero_le (show 0 ≤ place + 1 by omega)
        rw [hm, HT.sIx_nat] at q
        rw [List.drop_eq_nil_of_le (by omega)] at q
        rw [List.take_nil] at q
        cases q
  have laU : ∀ x, Later A B O I place.toNat x → x ∈ U := fun x hx => by
    rcases hx with q | ⟨j, _, ej⟩
    · exact N.m x (q.imp id fun q => q.imp id .inl)
    · exact N.m x (.inr (.inr (.inr (List.mem_of_getElem? ej))))
  have r0 : 0 ≤ d0 / 60 % 3 := Int.emod_nonneg _ (by omega)
  have Nx := N.m
  have r1 : d0 / 60 % 3 < 3 := Int.emod_lt_of_pos _ (by omega)
  have cl : (cut draws (some (1 : Int)) (some ((1 : Int) + d0 / 60 % 3))).length ≤ 2 := by
    rw [cut_len_in (by omega) (by omega) (by omega)]; omega
  refine (t_tailC N2 (by omega) care).bind fun t2 ⟨l2, m2, n2⟩ => ?_
  refine Tt.chk (by rw [List.length_singleton]; omega) (Tt.let ?_)
  have l3 : ([s1] ++ t2).length = 1 + t2.length := List.length_append
  have m3 : ∀ x ∈ [s1] ++ t2, Later A B O I place.toNat x := fun x hx => (List.mem_append.mp hx).elim (fun q => by rw [List.mem_singleton.mp q]; exact .inl ((List.mem_append.mp hs1).elim (fun z => .inr (.inr z)) fun z => .inr (.inl z))) fun q => lt2 x (m2 x q)
  refine Tt.bind (P := fun (s : List Str) => s.length ≤ 12 ∧ (∀ x ∈ s, Later A B O I place.toNat x) ∧ (place = 0 → ∀ h, I[1]? = some h → h ∈ s) ∧ s.length ≤ 7 ∧ cnO O s ≤ 4) ?_ fun s4 ⟨h4a, h4b, h4c⟩ => ?_
  · have n3 : cnO O ([s1] ++ t2) ≤ 3 := by
      rw [cnO_app]
      have := cnO_le (O := O) (t := [s1])
      rw [List.length_singleton] at this
      omega
    refine Tt.if (fun c => ?_) fun c => Tt.ret ⟨by rw [l3]; omega, m3, fun p0 h e1 => ?_, by rw [l3]; omega, by omega⟩
    have c0 := of_decide_eq_true ((Bool.and_eq_true _ _).mp c).1
    have c2 := of_decide_eq_true ((Bool.and_eq_true _ _).mp c).2
    refine Tt.ix (by omega) (by omega) fun u hu eu => Tt.ix (by omega) (by omega) fun w hw _ => ?_
    have eu : I[1]? = some u := eu
    have cc := cut_le [u, w] none (some ((1 : Int) + b2 (decide (care = 0))))
    have ll : ([u, w] : List Str).length = 2 := rfl
    have cw : cnO O (cut [u, w] none (some ((1 : Int) + b2 (decide (care = 0))))) ≤ 1 := by
      have e0 : cnO O [u, w] ≤ 1 := by
        have := cnO_in (O := O) (t := [u]) hw
        rw [show [u] ++ [w] = [u, w] from rfl] at this
        rw [this]
        exact cnO_le
      refine Nat.le_trans ?_ e0
      cases decide (care = 0)
      · exact (List.Sublist.filter _ (show [u].Sublist [u, w] from List.sublist_append_left [u] [w])).length_le
      · exact Nat.le_refl _
    refine Tt.chk (by omega) (Tt.let (Tt.ret ⟨by rw [List.length_append, l3]; omega, fun x hx => ?_, fun _ h e1 => ?_, by rw [List.length_append, l3]; omega, by rw [cnO_app]; omega⟩))
    rcases List.mem_append.mp hx with q | q
    · exact m3 x q
    · have := cut_mem q
      rcases List.mem_cons.mp this with z | z
      · rw [z]; exact .inr ⟨1, by omega, eu⟩
      · rw [List.mem_singleton.mp z]; exact .inl (.inr (.inr hw))
    · rw [eu] at e1
      cases e1
      exact List.mem_append_right _ cut2
    · have l1 := (List.getElem?_eq_some_iff.mp e1).1
      rw [decide_eq_true p0, decide_eq_true (show (I.length : Int) = 2 by omega)] at c
      cases c
  refine Tt.let (Tt.ix (by omega) (by omega) fun d3 hd3 _ => Tt.chk (by have := dd d3 hd3; omega) ?_)
  have dd3 := dd d3 hd3
  have q0 : 0 ≤ d3 % 3 := Int.emod_nonneg _ (by omega)
  have q1 : d3 % 3 < 3 := Int.emod_lt_of_pos _ (by omega)
  refine Tt.bind (Tt.for (fun (pre : List Int) (S : List (List Str)) => S.length ≤ 1 + pre.length ∧ (∀ s ∈ S, s.length ≤ 12 ∧ ∀ x ∈ s, x ∈ U) ∧ ∃ q, S = s4 :: q) ⟨Nat.le_refl _, (fun s hs => by rw [List.mem_singleton.mp hs]; exact ⟨h4a, fun x hx => laU x (h4b x hx)⟩), [], rfl⟩ ?_) fun S ⟨h1, h2, q, h3⟩ => Tt.ret ⟨by rw [ups_len] at h1; omega, h2, s4, q, h3, h4b, h4c.1, h4c.2⟩
  rintro pre k post S e ⟨h1, h2, q3, h3⟩
  have hk : k ∈ ups (d3 % 3).toNat := by rw [e]; exact List.mem_append_right _ List.mem_cons_self
  have hk2 := ups_mem hk
  have pl : pre.length ≤ 3 := by have := congrArg List.length e; rw [ups_len, List.length_append, List.length_cons] at this; omega
  have lp : (pre ++ [k]).length = pre.length + 1 := by rw [List.length_append]; rfl
  refine Tt.ix (by omega) (by omega) fun d hd' _ => ?_
  have dk := dd d hd'
  have w0 : 0 ≤ d / 3 % 4 := Int.emod_nonneg _ (by omega)
  have w1 : d / 3 % 4 < 4 := Int.emod_lt_of_pos _ (by omega)
  have cl2 : (cut draws (some ((5 : Int) + (4 : Int) * k)) (some ((5 : Int) + (4 : Int) * k + d / 3 % 4))).length ≤ 3 := by
    rw [cut_len_in (by omega) (by omega) (by omega)]; omega
  refine (t_tail N (by omega) care).bind fun t5 ⟨l5, m5⟩ => ?_
  have one : ∀ z, z ∈ U → Tt (mb (chk (decide ([z].length + t5.length ≤ 100000))) fun _ => mb (.ok ([z] ++ t5)) fun side36 => .ok side36) fun (s : List Str) => s.length ≤ 12 ∧ ∀ x ∈ s, x ∈ U := fun z hz =>
    Tt.chk (by rw [List.length_singleton]; omega) (Tt.let (Tt.ret ⟨by rw [List.length_append, List.length_singleton]; omega, fun x hx => (List.mem_append.mp hx).elim (fun q => by rw [List.mem_singleton.mp q]; exact hz) (m5 x)⟩))
  refine Tt.bind (P := fun (s : List Str) => s.length ≤ 12 ∧ ∀ x ∈ s, x ∈ U) ?_ fun s6 h6 => ?_
  · refine Tt.if (fun _ => Tt.let (Tt.ret ⟨Nat.zero_le _, fun x q => nomatch q⟩)) fun _ => Tt.if (fun _ => ?_) fun _ => Tt.if (fun _ => ?_) fun _ => ?_
    · exact Tt.ix (by omega) (by omega) fun z hz _ => one z (mOB z (List.mem_append_left _ hz))
    · exact Tt.ix (Int.emod_nonneg _ (by omega)) (Int.emod_lt_of_pos _ (by omega)) fun z hz _ => one z (mOB z hz)
    · exact Tt.chk (by have := N.a; omega) (Tt.ix (Int.emod_nonneg _ (by have := N.a; omega)) (Int.emod_lt_of_pos _ (by have := N.a; omega)) fun z hz _ => one z (N.m z (.inl hz)))
  · refine Tt.if (fun _ => Tt.chk (by omega) (Tt.let (Tt.ret ⟨by rw [List.length_append, lp, List.length_singleton]; omega, fun s hs => ?_, q3 ++ [s6], by rw [h3]; rfl⟩))) fun _ => Tt.ret ⟨by rw [lp]; omega, h2, q3, h3⟩
    rcases List.mem_append.mp hs with q | q
    · exact h2 s q
    · rw [List.mem_singleton.mp q]; exact h6
noncomputable def xs' (nm s : Str) : Str := (nm ++ (".": Str)) ++ s
theorem xs_inj {nm a b : Str} (h : xs' nm a = xs' nm b) : a = b := by
  unfold xs' at h
  refine str_eq ?_
  have := congrArg TL.tl h
  rw [TL.tl_append, TL.tl_append (nm ++ ".") b] at this
  exact List.append_cancel_left this
theorem xs_dot (nm a : Str) : 46 ∈ (xs' nm a).cps.toList := by
  show 46 ∈ TL.tl (xs' nm a)
  unfold xs'
  rw [TL.tl_append, TL.tl_append]
  exact List.mem_append_left _ (List.mem_append_right _ (by decide +kernel))
theorem dot1 : (".": Str).length = 1 := by decide +kernel
theorem cap_ne : ∀ s ∈ names true, ∀ t ∈ names false, s ≠ t := by decide +kernel
theorem xs_nodup {n : Nat} (hn : n ≤ 8) (nm : Str) (st : Int) (cap : Bool) : ((ups n).map fun k => xs' nm (nameT k st cap)).Nodup := by
  have h := names_nodup hn st cap
  refine List.pairwise_map.mpr ((List.pairwise_map.mp h).imp fun {a b} q e => q (xs_inj e))
/-- a drawn guest of a host: own tokens O, inner heads I, marks X -/
structure Gst (nm : Str) (hs ts : List Str) (host : RL) (O I X : List Str) (rs : RL) : Prop where
  o : O.length = 4
  i : I.length ≤ 2
  x : X.length ≤ 4
  om : ∀ s ∈ O ++ X, ∃ t ∈ names false, s = xs' nm t
  im : ∀ s ∈ I, ∃ t ∈ names true, s = xs' nm t
  l : rs.length ≤ 14
  r : ∀ r ∈ rs, (r.1 ∈ hs ∨ r.1 ∈ I) ∧ r.2.length ≤ 12 ∧ ∀ x ∈ r.2, x ∈ hs ++ ts ++ (O ++ X) ++ I
  nd : (O ++ X).Nodup ∧ I.Nodup
  tk : ∀ r ∈ rs, ∀ x ∈ r.2, x ∈ ts → ∃ q ∈ host, x ∈ q.2
  mrk : ∀ r ∈ rs, r.1 ∈ hs → ∃ m w, r.2 = m :: w ∧ m ∈ X ∧ ∀ x ∈ w, x ∉ X
  nx : ∀ r ∈ rs, r.1 ∈ I → ∀ x ∈ r.2, x ∉ X
  md : rs.Pairwise fun r r' => r.1 ∈ hs → r'.1 ∈ hs → r.2.head? ≠ r'.2.head?
  re00 : ∃ r q, rs = r :: q ∧ r.1 ∈ hs ∧ ∀ h, I[0]? = some h → h ∈ r.2
  re1 : ∀ h, I[1]? = some h → ∃ g f, I[0]? = some g ∧ (g, f) ∈ rs ∧ h ∈ f
  fi : ∀ (i : Nat) h, I[i]? = some h → ∃ f, (h, f) ∈ rs ∧ ∀ x ∈ f, x ∈ hs ∨ x ∈ ts ++ (O ++ X) ∨ ∃ j : Nat, i < j ∧ I[j]? = some x
  fw : ∀ (i : Nat) h, I[i]? = some h → ∃ f, fr rs h = some (h, f) ∧ (∀ x ∈ f, x ∈ hs ∨ x ∈ ts ++ (O ++ X) ∨ ∃ j : Nat, i < j ∧ I[j]? = some x) ∧ f.length ≤ 7 ∧ cnO O f ≤ 4
theorem Gst.re0 {nm : Str} {hs ts : List Str} {host : RL} {O I X : List Str} {rs : RL} (S : Gst nm hs ts host O I X rs) : ∀ h, I[0]? = some h → ∃ r ∈ rs, r.1 ∈ hs ∧ h ∈ r.2 := fun h e => by
  obtain ⟨r, q, e1, e2, e3⟩ := S.re00
  exact ⟨r, by rw [e1]; exact List.mem_cons_self, e2, e3 h e⟩
theorem t_guest {n : Nat} {hs ts : List Str} {host : RL} (H : Host n hs ts host) (hn : n ≤ 6) {draws : List Int} (hd : draws.length = 40) (dd : ∀ d ∈ draws, 0 ≤ d ∧ d < 840) {nm : Str} (lnm : nm.length ≤ 50) :
    Tt (m__law_guest draws nm host) fun rs => ∃ O I X, Gst nm hs ts host O I X rs := by
  have xl : nm.length + (".": Str).length ≤ 100000 := by rw [dot1]; omega
  have xl2 : (nm ++ (".": Str)).length = nm.length + 1 := by rw [TL.len_tl, TL.tl_append, List.length_append, ← TL.len_tl, ← TL.len_tl, dot1]
  unfold m__law_guest
  refine Tt.ix (by omega) (by omega) fun st _ _ => Tt.ix (by omega) (by omega) fun d1 hd1 _ => Tt.let (Tt.ix (by omega) (by omega) fun d2 hd2 _ => Tt.chk (by have := dd d2 hd2; omega) ?_)
  have i0 : 0 ≤ d2 % 3 := Int.emod_nonneg _ (by omega)
  have i1 : d2 % 3 < 3 := Int.emod_lt_of_pos _ (by omega)
  have xname : ∀ (k : Int) (cap : Bool), 0 ≤ k ∧ k < 8 → (mb (chk (decide (nm.length + ("." : Str).length ≤ 100000))) fun _ => mb (m__law_name k st cap) fun t => mb (chk (decide ((nm ++ (".": Str)).length + t.length ≤ 100000))) fun _ => (.ok ((nm ++ (".": Str)) ++ t) : M Str)) = .ok (xs' nm (nameT k st cap)) := fun k cap hk => by
    obtain ⟨e, l⟩ := t_name (k := k) (st := st) (cap := cap) hk
    rw [mb_of (chk_of (decide_eq_true xl)), mb_of e, mb_of (chk_of (decide_eq_true (by omega)))]
    rfl
  refine Tt.by (mlc_map (f' := fun k => xs' nm (nameT k st true)) fun k hk => xname k true (by have := ups_mem hk; omega)) ?_
  refine Tt.by (mlc_map (f' := fun k => xs' nm (nameT k st false)) fun k hk => xname k false (by have := ups_mem hk; omega)) ?_
  have mI : ∀ s ∈ (ups (d2 % 3).toNat).map fun k => xs' nm (nameT k st true), ∃ t ∈ names true, s = xs' nm t := fun s hs => by
    obtain ⟨k, hk, e⟩ := List.mem_map.mp hs
    have := ups_mem hk
    exact ⟨_, name_in (by omega), e.symm⟩
  have mO : ∀ s ∈ (ups (4 : Int).toNat).map fun k => xs' nm (nameT k st false), ∃ k : Int, (0 ≤ k ∧ k < 4) ∧ s = xs' nm (nameT k st false) := fun s hs => by
    obtain ⟨k, hk, e⟩ := List.mem_map.mp hs
    have := ups_mem hk
    exact ⟨k, by omega, e.symm⟩
  have lI : ((ups (d2 % 3).toNat).map fun k => xs' nm (nameT k st true)).length = (d2 % 3).toNat := by rw [List.length_map, ups_len]
  have lO4 : ((ups (4 : Int).toNat).map fun k => xs' nm (nameT k st false)).length = 4 := by rw [List.length_map, ups_len]; rfl
  have ndI : ((ups (d2 % 3).toNat).map fun k => xs' nm (nameT k st true)).Nodup := xs_nodup (by omega) _ _ _
  have ndO : ((ups (4 : Int).toNat).map fun k => xs' nm (nameT k st false)).Nodup := xs_nodup (by decide) _ _ _
  generalize ((ups (d2 % 3).toNat).map fun k => xs' nm (nameT k st true)) = I at mI lI ndI ⊢
  generalize ((ups (4 : Int).toNat).map fun k => xs' nm (nameT k st false)) = O at mO lO4 ndO ⊢
  have lI2 : I.length ≤ 2 := by omega
  refine (t_heads H).bind fun A ⟨Apos, Al42, Am, _, _⟩ => (t_tokens H).bind fun B ⟨Bpos, Bl, Bm, _, _⟩ => ?_
  have nx : ∀ k, 4 ≤ k ∧ k < 8 → xs' nm (nameT k st false) ∈ [xs' nm (nameT 4 st false), xs' nm (nameT 5 st false), xs' nm (nameT 6 st false), xs' nm (nameT 7 st false)] := fun k hk => by
    rcases (show k = 4 ∨ k = 5 ∨ k = 6 ∨ k = 7 by omega) with q | q | q | q <;> subst q <;> simp
  have mX : ∀ s ∈ [xs' nm (nameT 4 st false), xs' nm (nameT 5 st false), xs' nm (nameT 6 st false), xs' nm (nameT 7 st false)], ∃ k : Int, (4 ≤ k ∧ k < 8) ∧ s = xs' nm (nameT k st false) := fun s hs => by
    simp only [List.mem_cons, List.not_mem_nil, or_false] at hs
    rcases hs with q | q | q | q
    · exact ⟨4, by omega, q⟩
    · exact ⟨5, by omega, q⟩
    · exact ⟨6, by omega, q⟩
    · exact ⟨7, by omega, q⟩
  have ndX : [xs' nm (nameT 4 st false), xs' nm (nameT 5 st false), xs' nm (nameT 6 st false), xs' nm (nameT 7 st false)].Nodup := by
    have h : ∀ a b : Int, (0 ≤ a ∧ a < 8) → (0 ≤ b ∧ b < 8) → a ≠ b → xs' nm (nameT a st false) ≠ xs' nm (nameT b st false) := fun a b ha hb n e => n (name_inj' ha hb (xs_inj e))
    simp only [List.nodup_cons, List.mem_cons, List.not_mem_nil, or_false, not_or]
    exact ⟨⟨h 4 5 (by omega) (by omega) (by omega), h 4 6 (by omega) (by omega) (by omega), h 4 7 (by omega) (by omega) (by omega)⟩, ⟨h 5 6 (by omega) (by omega) (by omega), h 5 7 (by omega) (by omega) (by omega)⟩, h 6 7 (by omega) (by omega) (by omega), id, List.nodup_nil⟩
  generalize hX : [xs' nm (nameT 4 st false), xs' nm (nameT 5 st false), xs' nm (nameT 6 st false), xs' nm (nameT 7 st false)] = X at nx mX ndX
  have lX : X.length = 4 := by rw [← hX] <;> rfl
  have hl := H.hl
  have tl := H.tl
  have Al : A.length ≤ 100 := by omega
  have noO : ∀ x ∈ O, x ∉ X := fun x hO hX => by
    obtain ⟨k, hk, e⟩ := mO x hO
    obtain ⟨k', hk', e'⟩ := mX x hX
    have := name_inj' (by omega) (by omega) (xs_inj (e.symm.trans e'))
    omega
  have noI : ∀ x ∈ I, x ∉ X := fun x hI hX => by
    obtain ⟨t, ht, e⟩ := mI x hI
    obtain ⟨k', hk', e'⟩ := mX x hX
    exact cap_ne t ht _ (name_in (k := k') (by omega)) (xs_inj (e.symm.trans e'))
  have noP : ∀ x, x ∈ hs ∨ x ∈ ts → x ∉ X := fun x hx hX => by
    obtain ⟨k', hk', e'⟩ := mX x hX
    have d := xs_dot nm (nameT k' st false)
    rw [← e'] at d
    exact hx.elim (fun q => dotT x (H.hn x q) d) fun q => dotF x (H.tn x q) d
  have N : Nms (A ++ (B ++ (O ++ I))) A B O I := ⟨Apos, Bpos, lO4, fun x h => by simp only [List.mem_append]; exact h, Al, by omega, lI2⟩
  have noX : ∀ x ∈ A ++ (B ++ (O ++ I)), x ∉ X := fun x h => by
    simp only [List.mem_append] at h
    rcases h with q | q | q | q
    · exact noP x (.inl (Am x q))
    · exact noP x (.inr (Bm x q).1)
    · exact noO x q
    · exact noI x q
  have inU : ∀ x, x ∈ A ++ (B ++ (O ++ I)) → x ∈ hs ++ ts ++ (O ++ X) ++ I := fun x h => by
    simp only [List.mem_append] at h ⊢
    rcases h with q | q | q | q
    · exact .inl (.inl (.inl (Am x q)))
    · exact .inl (.inl (.inr (Bm x q).1))
    · exact .inl (.inr (.inl q))
    · exact .inr q
  have inB : ∀ x, x ∈ A ++ (B ++ (O ++ I)) → x ∈ ts → ∃ q ∈ host, x ∈ q.2 := fun x h hT => by
    simp only [List.mem_append] at h
    have nd : 46 ∉ x.cps.toList := dotF x (H.tn x hT)
    rcases h with q | q | q | q
    · exact absurd rfl (cap_ne x (H.hn x (Am x q)) x (H.tn x hT))
    · exact (Bm x q).2
    · obtain ⟨k, _, e⟩ := mO x q
      exact absurd (e ▸ xs_dot nm _) nd
    · obtain ⟨t, _, e⟩ := mI x q
      exact absurd (e ▸ xs_dot nm _) nd
  generalize hU : A ++ (B ++ (O ++ I)) = U at inU inB N noX
  generalize d1 % 4 = care
  refine Tt.let (Tt.ix (by omega) (by omega) fun d3 hd3 _ => Tt.chk (by have := dd d3 hd3; omega) ?_)
  have j0 : 0 ≤ d3 % 3 := Int.emod_nonneg _ (by omega)
  have j1 : d3 % 3 < 3 := Int.emod_lt_of_pos _ (by omega)
  refine Tt.bind (Tt.for (fun (pre : List Int) (rs : RL) => rs.length ≤ pre.length ∧ (∀ r ∈ rs, r.1 ∈ A ∧ r.2.length ≤ 12 ∧ ∃ k w, (4 ≤ k ∧ k < 4 + (pre.length : Int)) ∧ r.2 = xs' nm (nameT k st false) :: w ∧ ∀ x ∈ w, x ∈ U) ∧ (rs.Pairwise fun r r' => r.2.head? ≠ r'.2.head?) ∧ (0 < pre.length → ∃ r q, rs = r :: q ∧ ∀ h, I[0]? = some h → h ∈ r.2)) ⟨Nat.le_refl _, (fun r q => nomatch q), List.Pairwise.nil, fun q => absurd q (Nat.lt_irrefl _)⟩ ?_) fun rs1 ⟨k1, k2, kp, kr⟩ => ?_
  · rintro pre k post rs e ⟨h1, h2, hp, hr0⟩
    obtain ⟨ek, _⟩ := ups_at e
    have hk : k ∈ ups ((1 : Int) + d3 % 3).toNat := by rw [e]; exact List.mem_append_right _ List.mem_cons_self
    have hk2 := ups_mem hk
    have pl : pre.length ≤ 3 := by have := congrArg List.length e; rw [ups_len, List.length_append, List.length_cons] at this; omega
    have lp : (pre ++ [k]).length = pre.length + 1 := by rw [List.length_append]; rfl
    refine Tt.ix (by omega) (by omega) fun d hd' _ => ?_
    have dk := dd d hd'
    have w0 : 0 ≤ d / 8 % 4 := Int.emod_nonneg _ (by omega)
    have w1 : d / 8 % 4 < 4 := Int.emod_lt_of_pos _ (by omega)
    obtain ⟨en, ln⟩ := t_name (k := 4 + k) (st := st) (cap := false) (by omega)
    have cl2 : (cut draws (some ((7 : Int) + (3 : Int) * k)) (some ((7 : Int) + (3 : Int) * k + d / 8 % 4))).length ≤ 3 := by
      rw [cut_len_in (by omega) (by omega) (by omega)]; omega
    refine Tt.chk xl (Tt.by en (Tt.chk (by omega) (Tt.let ((t_tail N (by omega) care).bind fun t5 ⟨l5, m5⟩ => Tt.chk (by rw [List.length_singleton]; omega) (Tt.let ?_)))))
    have l6 : ([nm ++ (".": Str) ++ nameT (4 + k) st false] ++ t5).length = 1 + t5.length := List.length_append
    refine Tt.bind (P := fun (s : List Str) => s.length ≤ 12 ∧ ∃ w, s = xs' nm (nameT (4 + k) st false) :: w ∧ (∀ x ∈ w, x ∈ U) ∧ (k = 0 → ∀ h, I[0]? = some h → h ∈ w)) ?_ fun s7 ⟨h7, w7, e7, m7, r7⟩ => ?_
    · refine Tt.if (fun c => ?_) fun c => Tt.ret ⟨by rw [l6]; omega, t5, rfl, m5, fun q h eh => ?_⟩
      · have c2 := of_decide_eq_true ((Bool.and_eq_true _ _).mp c).2
        refine Tt.ix (by omega) (by omega) fun u hu eu => Tt.ix (by omega) (by omega) fun w hw _ => ?_
        have eu : I[0]? = some u := eu
        have cc := cut_le [u, w] none (some ((1 : Int) + b2 (decide (care = 0))))
        have ll : ([u, w] : List Str).length = 2 := rfl
        refine Tt.chk (by omega) (Tt.let (Tt.ret ⟨by rw [List.length_append, l6]; omega, t5 ++ cut [u, w] none (some ((1 : Int) + b2 (decide (care = 0)))), rfl, fun x hx => ?_, fun _ h eh => ?_⟩))
        · rcases List.mem_append.mp hx with q | q
          · exact m5 x q
          · have := cut_mem q
            rcases List.mem_cons.mp this with z | z
            · rw [z]; exact N.m u (.inr (.inr (.inr hu)))
            · rw [List.mem_singleton.mp z]; exact N.m w (.inr (.inr (.inl hw)))
        · rw [eu] at eh
          cases eh
          exact List.mem_append_right _ cut2
      · have l1 := (List.getElem?_eq_some_iff.mp eh).1
        rw [decide_eq_true q, decide_eq_true (show (0 : Int) < (I.length : Int) by omega)] at c
        cases c
    · refine Tt.oM (show atI [A, B, O, I] (0 : Int) = some A from rfl) (Tt.chk (by omega) (Tt.ix (Int.emod_nonneg _ (by omega)) (Int.emod_lt_of_pos _ (by omega)) fun h hh _ => Tt.chk (by omega) (Tt.let (Tt.ret ⟨by rw [List.length_append, lp, List.length_singleton]; omega, fun r hr => ?_, ?_, fun _ => ?_⟩))))
      · rcases List.mem_append.mp hr with q | q
        · obtain ⟨a1, a2, k', w', a3, a4⟩ := h2 r q
          exact ⟨a1, a2, k', w', by rw [lp]; omega, a4⟩
        · rw [List.mem_singleton.mp q]; exact ⟨hh, h7, 4 + k, w7, by rw [lp]; omega, e7, m7⟩
      · refine List.pairwise_append.mpr ⟨hp, List.pairwise_singleton _ _, fun a ha b hb => ?_⟩
        rw [List.mem_singleton.mp hb]
        obtain ⟨_, _, k', w', a3, a4, _⟩ := h2 a ha
        show a.2.head? ≠ s7.head?
        rw [a4, e7]
        intro q
        have := name_inj' (k := k') (k' := 4 + k) (by omega) (by omega) (xs_inj (Option.some.inj q))
        omega
      · by_cases z : k = 0
        · have r0 : rs = [] := List.length_eq_zero_iff.mp (by omega)
          exact ⟨(h, s7), [], by rw [r0]; rfl, fun h' eh' => by show h' ∈ s7; rw [e7]; exact List.mem_cons_of_mem _ (r7 z h' eh')⟩
        · obtain ⟨r, q, er, hr'⟩ := hr0 (by omega)
          exact ⟨r, q ++ [(h, s7)], by rw [er]; rfl, hr'⟩
  rw [ups_len] at k1 k2 kr
  have k3 : rs1.length ≤ 3 := by omega
  refine Tt.let ?_
  generalize hback : ((decide ((0 : Int) < care)) && ((decide ((0 : Int) < (I.length : Int))) && (decide (((d1 / (4 : Int)) % (3 : Int)) = (0 : Int))))) = back
  refine Tt.bind (P := fun (rs : RL) => rs.length ≤ 4 ∧ (∀ r ∈ rs, r.1 ∈ A ∧ r.2.length ≤ 12 ∧ ∃ m w, r.2 = m :: w ∧ m ∈ X ∧ ∀ x ∈ w, x ∈ U) ∧ (rs.Pairwise fun r r' => r.2.head? ≠ r'.2.head?) ∧ (∃ r q, rs = r :: q ∧ ∀ h, I[0]? = some h → h ∈ r.2)) ?_ fun rs2 ⟨k4, k5, kp2, kr2⟩ => ?_
  · have old : ∀ r ∈ rs1, r.1 ∈ A ∧ r.2.length ≤ 12 ∧ ∃ m w, r.2 = m :: w ∧ m ∈ X ∧ ∀ x ∈ w, x ∈ U := fun r hr => by
      obtain ⟨a1, a2, k', w', a3, a4, a5⟩ := k2 r hr
      exact ⟨a1, a2, _, w', a4, nx k' (by omega), a5⟩
    refine Tt.if (fun _ => ?_) fun _ => Tt.ret ⟨by omega, old, kp, kr (by omega)⟩
    obtain ⟨en, ln⟩ := t_name (k := 7) (st := st) (cap := false) (by omega)
    refine Tt.oM (show atI [A, B, O, I] (0 : Int) = some A from rfl) (Tt.ix (by omega) (by omega) fun d4 _ _ => Tt.chk (by omega) (Tt.ix (Int.emod_nonneg _ (by omega)) (Int.emod_lt_of_pos _ (by omega)) fun h hh _ => Tt.chk xl (Tt.by en (Tt.chk (by omega) (Tt.ix (by omega) (by omega) fun d5 _ _ => Tt.ix (Int.emod_nonneg _ (by omega)) (Int.emod_lt_of_pos _ (by omega)) fun h2 hh2 _ => Tt.ix (by omega) (by omega) fun w hw _ => Tt.let (Tt.chk (by omega) (Tt.let (Tt.ret ⟨by rw [List.length_append, List.length_singleton]; omega, fun r hr => ?_, ?_, ?_⟩))))))))
    · rcases List.mem_append.mp hr with q | q
      · exact old r q
      · rw [List.mem_singleton.mp q]
        refine ⟨hh, by simp, _, [h2, w], rfl, nx 7 (by omega), fun x hx => ?_⟩
        rcases List.mem_cons.mp hx with z | z
        · rw [z]; exact N.m h2 (.inl hh2)
        · rw [List.mem_singleton.mp z]; exact N.m w (.inr (.inr (.inl hw)))
    · refine List.pairwise_append.mpr ⟨kp, List.pairwise_singleton _ _, fun a ha b hb => ?_⟩
      rw [List.mem_singleton.mp hb]
      obtain ⟨_, _, k', w', a3, a4, _⟩ := k2 a ha
      rw [a4]
      intro q
      have := name_inj' (k := k') (k' := 7) (by omega) (by omega) (xs_inj (Option.some.inj q))
      omega
    · obtain ⟨r, q, er, hr'⟩ := kr (by omega)
      exact ⟨r, q ++ [_], by rw [er]; rfl, hr'⟩
  refine Tt.chk (by omega) (Tt.bind (Tt.for (fun (pre : List Int) (rs : RL) => ∃ rs', rs = rs2 ++ rs' ∧ rs'.length ≤ 5 * pre.length ∧ (∀ r ∈ rs', r.1 ∈ I ∧ r.2.length ≤ 12 ∧ ∀ x ∈ r.2, x ∈ U) ∧ (∀ i : Nat, i < pre.length → ∀ h, I[i]? = some h → ∃ f, fr rs' h = some (h, f) ∧ (∀ x ∈ f, Later A B O I i x) ∧ (i = 0 → ∀ h', I[1]? = some h' → h' ∈ f) ∧ f.length ≤ 7 ∧ cnO O f ≤ 4) ∧ ∀ r ∈ rs', ∃ i : Nat, i < pre.length ∧ I[i]? = some r.1) ⟨[], by rw [List.append_nil], Nat.le_refl _, (fun r q => nomatch q), (fun i q => absurd q (Nat.not_lt_zero _)), fun r q => nomatch q⟩ ?_) fun rs3 ⟨rs', e3, k6, k7, k8, k9⟩ => Tt.ret ?_)
  · rintro pre k post rs e ⟨rs', e3, h1, h2, h3, h4⟩
    obtain ⟨ek, _⟩ := ups_at e
    have hk : k ∈ ups ((I.length : Int)).toNat := by rw [e]; exact List.mem_append_right _ List.mem_cons_self
    have hk2 := ups_mem hk
    have pl : pre.length ≤ 2 := by have := congrArg List.length e; rw [ups_len, List.length_append, List.length_cons] at this; omega
    have lp : (pre ++ [k]).length = pre.length + 1 := by rw [List.length_append]; rfl
    have rsl : rs.length = rs2.length + rs'.length := by rw [e3, List.length_append]
    have cl : (cut draws (some ((16 : Int) + (12 : Int) * k)) (some ((28 : Int) + (12 : Int) * k))).length = 12 := by
      rw [cut_len_in (by omega) (by omega) (by omega)]; omega
    refine (t_inner N cl (fun d hd' => dd d (cut_mem hd')) care (place := k) (by omega)).bind fun S ⟨s1, s2, f, q, e4, f1, f2, f3, f4⟩ => ?_
    refine Tt.bind (P := fun (S : List (List Str)) => S.length ≤ 5 ∧ (∀ s ∈ S, s.length ≤ 12 ∧ ∀ x ∈ s, x ∈ U) ∧ ∃ q, S = f :: q) ?_ fun S2 ⟨s3, s4, q5, s5⟩ => ?_
    · refine Tt.if (fun _ => ?_) fun _ => Tt.ret ⟨by omega, s2, q, e4⟩
      refine Tt.ix (by omega) (by omega) fun u hu _ => Tt.ix (by omega) (by omega) fun w hw _ => Tt.chk (by simp) ?_
      have fl : (((([[u, w], ([] : List Str)]).filter (fun (y68 : (List Str)) => (!(memB y68 S)))).map (fun (y68 : (List Str)) => y68))).length ≤ 2 := by rw [List.length_map]; exact List.length_filter_le _ _
      refine Tt.chk (by omega) (Tt.let (Tt.ret ⟨by rw [List.length_append]; omega, fun s hs => ?_, _, by rw [e4]; rfl⟩))
      rcases List.mem_append.mp hs with q | q
      · exact s2 s q
      · obtain ⟨y, hy, ey⟩ := List.mem_map.mp q
        have hy2 := (List.mem_filter.mp hy).1
        rw [← ey]
        rcases List.mem_cons.mp hy2 with z | z
        · rw [z]
          refine ⟨by simp, fun x hx => ?_⟩
          rcases List.mem_cons.mp hx with z | z
          · rw [z]; exact N.m u (.inr (.inr (.inl hu)))
          · rw [List.mem_singleton.mp z]; exact N.m w (.inr (.inr (.inl hw)))
        · rw [List.mem_singleton.mp z]
          exact ⟨Nat.zero_le _, fun x q => nomatch q⟩
    · obtain ⟨h, eh, eh2, hh⟩ := atI_in (xs := I) (i := k) (by omega) (by omega)
      refine Tt.chk (by omega) (Tt.by (mlc_map (f' := fun y => (h, y)) fun y hy => by rw [mb_of (oM_of eh)]) (Tt.chk (by rw [List.length_map]; omega) (Tt.let (Tt.ret ⟨rs' ++ S2.map (fun y => (h, y)), by rw [e3, List.append_assoc], by rw [List.length_append, List.length_map, lp]; omega, fun r hr => ?_, fun i hi h' eh' => ?_, fun r hr => ?_⟩))))
      · rcases List.mem_append.mp hr with q | q
        · exact h2 r q
        · obtain ⟨y, hy, ey⟩ := List.mem_map.mp q
          rw [← ey]
          exact ⟨hh, s4 y hy⟩
      · rw [lp] at hi
        have kn : k.toNat = pre.length := by omega
        by_cases z : i = pre.length
        · subst z
          rw [kn] at eh2 f1
          rw [eh2] at eh'
          cases eh'
          have new : ∀ r ∈ rs', r.1 ≠ h := fun r hr e => by
            obtain ⟨i, hi, ei⟩ := h4 r hr
            rw [e] at ei
            have := nodup_ix ndI ei eh2
            omega
          refine ⟨f, ?_, f1, fun q => f2 (by omega), f3, f4⟩
          rw [fr_app, fr_none new, s5]
          show (none : Option _).or (List.find? _ ((h, f) :: _)) = _
          rw [List.find?_cons_of_pos (by simp)]
          rfl
        · obtain ⟨f', a1, a2⟩ := h3 i (by omega) h' eh'
          exact ⟨f', by rw [fr_app, a1]; rfl, a2⟩
      · rw [lp]
        rcases List.mem_append.mp hr with q | q
        · obtain ⟨i, hi, ei⟩ := h4 r q
          exact ⟨i, by omega, ei⟩
        · obtain ⟨y, hy, ey⟩ := List.mem_map.mp q
          exact ⟨pre.length, by omega, by rw [← ey]; rw [show k.toNat = pre.length by omega] at eh2; exact eh2⟩
  · rw [ups_len] at k6 k8
    subst e3
    have il : ∀ (i : Nat) h, I[i]? = some h → i < ((I.length : Int)).toNat := fun i h e => by have := (List.getElem?_eq_some_iff.mp e).1; omega
    have notI : ∀ x ∈ I, x ∉ hs := fun x hx hh => by
      obtain ⟨t, _, e⟩ := mI x hx
      exact dotT x (H.hn x hh) (e ▸ xs_dot nm t)
    have r2s : ∀ r ∈ rs2, ∀ x ∈ r.2, x ∈ X ∨ x ∈ U := fun r hr x hx => by
      obtain ⟨_, _, m, w, e, hm, hw⟩ := k5 r hr
      rw [e] at hx
      exact (List.mem_cons.mp hx).elim (fun z => .inl (z ▸ hm)) fun z => .inr (hw x z)
    refine ⟨O, I, X, lO4, lI2, by omega, fun s hs => ?_, mI, by rw [List.length_append]; omega, fun r hr => ?_, ⟨?_, ndI⟩, fun r hr x hx hT => ?_, fun r hr hh => ?_, fun r hr hI x hx => ?_, ?_, ?_, fun h eh => ?_, fun i h eh => ?_, fun i h eh => ?_⟩
    · rcases List.mem_append.mp hs with q | q
      · obtain ⟨k, hk, e⟩ := mO s q
        exact ⟨_, name_in (by omega), e⟩
      · obtain ⟨k, hk, e⟩ := mX s q
        exact ⟨_, name_in (by omega), e⟩
    · rcases List.mem_append.mp hr with q | q
      · refine ⟨.inl (Am _ (k5 r q).1), (k5 r q).2.1, fun x hx => (r2s r q x hx).elim (fun z => ?_) (inU x)⟩
        simp only [List.mem_append]
        exact .inl (.inr (.inr z))
      · exact ⟨.inr (k7 r q).1, (k7 r q).2.1, fun x hx => inU x ((k7 r q).2.2 x hx)⟩
    · exact List.nodup_append.mpr ⟨ndO, ndX, fun a ha b hb e => noO a ha (e ▸ hb)⟩
    · rcases List.mem_append.mp hr with q | q
      · exact (r2s r q x hx).elim (fun z => absurd z (noP x (.inr hT))) fun z => inB x z hT
      · exact inB x ((k7 r q).2.2 x hx) hT
    · rcases List.mem_append.mp hr with q | q
      · obtain ⟨_, _, m, w, e, hm, hw⟩ := k5 r q
        exact ⟨m, w, e, hm, fun x hx => noX x (hw x hx)⟩
      · exact absurd hh (notI _ (k7 r q).1)
    · rcases List.mem_append.mp hr with q | q
      · exact absurd (Am _ (k5 r q).1) (notI _ hI)
      · exact noX x ((k7 r q).2.2 x hx)
    · refine List.pairwise_append.mpr ⟨kp2.imp fun z _ _ => z, List.pairwise_of_forall_mem_list fun a ha b hb h1 _ => absurd h1 (notI _ (k7 a ha).1), fun a ha b hb _ h2 => absurd h2 (notI _ (k7 b hb).1)⟩
    · obtain ⟨r, q, er, hr'⟩ := kr2
      exact ⟨r, q ++ rs', by rw [er]; rfl, Am _ (k5 r (by rw [er]; exact List.mem_cons_self)).1, hr'⟩
    · have p0 : 0 < I.length := by have := (List.getElem?_eq_some_iff.mp eh).1; omega
      obtain ⟨g, eg⟩ : ∃ g, I[0]? = some g := ⟨I[0], List.getElem?_eq_getElem p0⟩
      obtain ⟨f, a1, _, a3⟩ := k8 0 (il 0 g eg) g eg
      exact ⟨g, f, eg, List.mem_append_right _ (fr_mem a1).1, a3.1 rfl h eh⟩
    · obtain ⟨f, a1, a2, _⟩ := k8 i (il i h eh) h eh
      refine ⟨f, List.mem_append_right _ (fr_mem a1).1, fun x hx => ?_⟩
      rcases a2 x hx with (q | q | q) | q
      · exact .inl (Am x q)
      · exact .inr (.inl (List.mem_append_left _ (Bm x q).1))
      · exact .inr (.inl (List.mem_append_right _ (List.mem_append_left _ q)))
      · exact .inr (.inr q)
    · obtain ⟨f, a1, a2, _, a4, a5⟩ := k8 i (il i h eh) h eh
      have none2 : ∀ r ∈ rs2, r.1 ≠ h := fun r hr e => notI h (List.mem_of_getElem? eh) (e ▸ Am _ (k5 r hr).1)
      refine ⟨f, by rw [fr_app, fr_none none2, a1]; rfl, fun x hx => ?_, a4, a5⟩
      rcases a2 x hx with (q | q | q) | q
      · exact .inl (Am x q)
      · exact .inr (.inl (List.mem_append_left _ (Bm x q).1))
      · exact .inr (.inl (List.mem_append_right _ (List.mem_append_left _ q)))
      · exact .inr (.inr q)
end Gt
namespace Gt
open PySem PySem.Spec PyProof.Rows L2
theorem Rea.sub {rs rs' : RL} (h : ∀ r ∈ rs, r ∈ rs') {h0 s : Str} (e : Rea rs h0 s) : Rea rs' h0 s := by
  induction e with
  | start => exact .start
  | step r s hr _ hs ih => exact .step r s (h r hr) ih hs
theorem Fin'.sub {rs rs' : RL} (h : ∀ r ∈ rs, r ∈ rs') {s : Str} (e : Fin' rs s) : Fin' rs' s := by
  induction e with
  | mk r hr _ ih => exact .mk r (h r hr) ih
theorem emp_eq {rs rs' : RL} (h : ∀ r, r ∈ rs ↔ r ∈ rs') {s : Str} : Emp rs s ↔ Emp rs' s := ⟨fun q => q.sub fun r => (h r).mp, fun q => q.sub fun r => (h r).mpr⟩
theorem frs_eq {rs rs' : RL} (h : ∀ r, r ∈ rs ↔ r ∈ rs') {s x : Str} : Frs rs s x ↔ Frs rs' s x := ⟨fun q => q.sub fun r => (h r).mp, fun q => q.sub fun r => (h r).mpr⟩
theorem fol_eq {rs rs' : RL} (h : ∀ r, r ∈ rs ↔ r ∈ rs') {s x : Str} : Fol rs s x ↔ Fol rs' s x := ⟨fun q => q.sub fun r => (h r).mp, fun q => q.sub fun r => (h r).mpr⟩
/-- the head of the first rule -/
def hd0 (rs : RL) : Str := (rs.map (·.1)).headD ""
/-- the rules of a sound grammar, over heads hs and tokens ts -/
structure Grm (hs ts : List Str) (rs : RL) : Prop where
  v : Voc hs ts
  t : VocT hs ts
  tk : ∀ s ∈ hs ++ ts, m_is_token s = .ok (tok s)
  h : ∀ r ∈ rs, r.1 ∈ hs
  s : ∀ r ∈ rs, (∀ x ∈ r.2, x ∈ hs ∨ x ∈ ts) ∧ r.2.length ≤ 12
  a : ∀ h ∈ hs, ∃ r ∈ rs, r.1 = h
  l : rs.length ≤ 100
  ul : hs.length + ts.length ≤ 58
  ne : rs ≠ []
  g : ∀ h ∈ hs, Rea rs (hd0 rs) h ∧ Fin' rs h
variable {hs ts : List Str} {rs : RL}
theorem Grm.hr (G : Grm hs ts rs) : HR hs ts rs := ⟨G.v, G.h, fun r hr => ⟨(G.s r hr).1, by have := (G.s r hr).2; omega⟩, G.a, G.l⟩
theorem Grm.nt (G : Grm hs ts rs) : ∀ r ∈ rs, tok r.1 = false := fun r hr => G.t.h _ (G.h r hr)
/-- the same rules in another order -/
theorem Grm.re (G : Grm hs ts rs) {rs' : RL} (e : ∀ r, r ∈ rs' ↔ r ∈ rs) (l : rs'.length ≤ 100) (h0 : hd0 rs' = hd0 rs) : Grm hs ts rs' :=
  ⟨G.v, G.t, G.tk, fun r hr => G.h r ((e r).mp hr), fun r hr => G.s r ((e r).mp hr), fun h hh => let ⟨r, hr, w⟩ := G.a h hh; ⟨r, (e r).mpr hr, w⟩, l, G.ul, fun q => by
    subst q
    cases rs with
    | nil => exact G.ne rfl
    | cons r q => exact absurd ((e r).mpr List.mem_cons_self) (List.not_mem_nil), fun h hh => by rw [h0]; exact ⟨(G.g h hh).1.sub fun r => (e r).mpr, (G.g h hh).2.sub fun r => (e r).mpr⟩⟩
theorem Grm.lsets (G : Grm hs ts rs) : Tt (m__law_sets rs) fun s => LS hs ts s ∧ (∀ h, h ∈ s.1 ↔ Emp rs h) ∧ (∀ h x, x ∈ row s.2.1 h ↔ Frs rs h x) ∧ ∀ h x, x ∈ row s.2.2 h ↔ Fol rs h x := t_lsetsX G.hr G.t
/-- what Sets holds -/
structure SetsOk (hs ts : List Str) (rs : RL) (e' : List (Str × Bool)) (f' b' : List (Str × List Str)) : Prop where
  e : ∀ h, (dkey e' h).isSome = true ↔ Emp rs h
  ek : (e'.map (·.1)).Nodup
  ft : Tab (hs ++ ts) f'
  f : ∀ h x, x ∈ row f' h ↔ Frs rs h x
  bt : Tab (hs ++ ts) b'
  b : ∀ h x, x ∈ row b' h ↔ Fol rs h x
theorem SetsOk.re {hs ts : List Str} {rs rs' : RL} {e : List (Str × Bool)} {f b : List (Str × List Str)} (O : SetsOk hs ts rs e f b) (h : ∀ r, r ∈ rs ↔ r ∈ rs') : SetsOk hs ts rs' e f b := ⟨fun k => (O.e k).trans (emp_eq h), O.ek, O.ft, fun k x => (O.f k x).trans (frs_eq h), O.bt, fun k x => (O.b k x).trans (fol_eq h)⟩
/-- what is known ahead -/
structure KnOk (hs ts : List Str) (rs : RL) (e' : List (Str × Bool)) (f' b' : List (Str × List Str)) : Prop where
  e : ∀ h, (dkey e' h).isSome = true → Emp rs h
  ek : (e'.map (·.1)).Nodup
  ft : Tab (hs ++ ts) f'
  f : ∀ h x, x ∈ row f' h → Frs rs h x
  bt : Tab (hs ++ ts) b'
  b : ∀ h x, x ∈ row b' h → Fol rs h x
theorem KnOk.nil {hs ts : List Str} {rs : RL} : KnOk hs ts rs [] [] [] := ⟨(fun h z => nomatch z), List.nodup_nil, Tab.nil, (fun h x z => nomatch z), Tab.nil, fun h x z => nomatch z⟩
noncomputable def mtk (s : Str) : Option Bool := match m_is_token s with
  | .ok b => some b
  | _ => none
theorem mtk_of {s : Str} {b : Bool} (h : mtk s = some b) : m_is_token s = .ok b ∧ tok s = b := by
  unfold mtk at h
  unfold tok
  split at h
  · rename_i c e
    cases h
    rw [e]
    exact ⟨rfl, rfl⟩
  · cases h
theorem mtk_T : ∀ s ∈ names true, mtk s = some false := by decide +kernel
theorem mtk_F : ∀ s ∈ names false, mtk s = some true := by decide +kernel
theorem rea_up {h0 : Str} (e0 : hs[0]? = some h0) (re : ∀ (j : Nat) h, 1 ≤ j → hs[j]? = some h → ∃ (i : Nat) (g : Str) (f : List Str), i < j ∧ hs[i]? = some g ∧ (g, f) ∈ rs ∧ h ∈ f) : ∀ (j : Nat) h, hs[j]? = some h → Rea rs h0 h := by
  intro j
  induction j using Nat.strongRecOn with
  | _ j ih =>
    intro h eh
    rcases Nat.eq_zero_or_pos j with q | q
    · subst q
      rw [e0] at eh
      cases eh
      exact .start
    · obtain ⟨i, g, f, hi, eg, hr, hf⟩ := re j h q eh
      exact .step (g, f) h hr (ih i hi g eg) hf
theorem fin_down {n : Nat} (ln : ∀ (i : Nat) h, hs[i]? = some h → i < n) {F : Str → Prop} (fs : ∀ (i : Nat) h, hs[i]? = some h → ∃ f, (h, f) ∈ rs ∧ ∀ x ∈ f, tok x = false → F x ∨ ∃ j : Nat, i < j ∧ hs[j]? = some x) (hF : ∀ x, F x → Fin' rs x) : ∀ (d i : Nat) h, n ≤ i + d → hs[i]? = some h → Fin' rs h := by
  intro d
  induction d with
  | zero => intro i h hd eh; have := ln i h eh; omega
  | succ d ih =>
    intro i h hd eh
    obtain ⟨f, hr, hf⟩ := fs i h eh
    refine .mk (h, f) hr fun x hx tx => ?_
    rcases hf x hx tx with q | ⟨j, hj, ej⟩
    · exact hF x q
    · exact ih j x (by omega) ej
theorem Host.grm {n : Nat} (H : Host n hs ts rs) (hn : n ≤ 6) : Grm hs ts rs := by
  have hl := H.hl
  have tl := H.tl
  obtain ⟨h0, r0, q0, e0, er, eh⟩ := H.hd
  have t : VocT hs ts := ⟨fun s h => (mtk_of (mtk_T s (H.hn s h))).2, fun s h => (mtk_of (mtk_F s (H.tn s h))).2⟩
  have hd : hd0 rs = h0 := by rw [er]; exact eh
  refine ⟨⟨fun s h => ltk_of (ltk_T s (H.hn s h)), fun s h => ltk_of (ltk_F s (H.tn s h)), by omega, by omega⟩, t, fun s h => ?_, H.h, H.s, fun h hh => ?_, by have := H.l; omega, by omega, by rw [er]; exact List.cons_ne_nil _ _, fun h hh => ?_⟩
  · rcases List.mem_append.mp h with q | q
    · obtain ⟨a, b⟩ := mtk_of (mtk_T s (H.hn s q)); rw [a, b]
    · obtain ⟨a, b⟩ := mtk_of (mtk_F s (H.tn s q)); rw [a, b]
  · obtain ⟨i, hi⟩ := List.mem_iff_getElem?.mp hh
    obtain ⟨t, w, e, _⟩ := H.fs i h hi
    exact ⟨_, (fr_mem e).1, rfl⟩
  · obtain ⟨i, hi⟩ := List.mem_iff_getElem?.mp hh
    rw [hd]
    refine ⟨rea_up e0 H.re i h hi, fin_down (n := hs.length) (F := fun _ => False) (fun i h e => (List.getElem?_eq_some_iff.mp e).1) (fun i h e => ?_) (fun x q => q.elim) hs.length i h (by omega) hi⟩
    obtain ⟨t', w, e, ht, hw⟩ := H.fs i h e
    refine ⟨t' :: w, (fr_mem e).1, fun x hx tx => .inr ?_⟩
    rcases List.mem_cons.mp hx with z | z
    · rw [z, t.t t' ht] at tx; cases tx
    · exact (hw x z).resolve_left fun q => by rw [t.t x q] at tx; cases tx
/-- names of an owner are read as such -/
structure NmOk (nm : Str) : Prop where
  l : nm.length ≤ 50
  t : ∀ s ∈ names true, mtk (xs' nm s) = some false ∧ ltk (xs' nm s) = some false
  f : ∀ s ∈ names false, mtk (xs' nm s) = some true ∧ ltk (xs' nm s) = some true
theorem nmOk_x : NmOk "x" := ⟨by decide +kernel, by decide +kernel, by decide +kernel⟩
theorem Grm.add (G : Grm hs ts rs) {nm : Str} (M : NmOk nm) {h0 t0 : List Str} {host : RL} {O I X : List Str} {gs : RL} (S : Gst nm h0 t0 host O I X gs) (sh : ∀ x ∈ h0, x ∈ hs) (st : ∀ x ∈ t0, x ∈ ts)
    (l1 : hs.length ≤ 18) (l2 : ts.length ≤ 32) (l3 : hs.length + ts.length ≤ 48) (l4 : rs.length ≤ 86) : Grm (hs ++ I) (ts ++ (O ++ X)) (rs ++ gs) := by
  have o := S.o
  have i := S.i
  have x := S.x
  have l := S.l
  have kI : ∀ s ∈ I, mtk s = some false ∧ ltk s = some false := fun s h => by
    obtain ⟨t, ht, e⟩ := S.im s h
    rw [e]; exact M.t t ht
  have kO : ∀ s ∈ O ++ X, mtk s = some true ∧ ltk s = some true := fun s h => by
    obtain ⟨t, ht, e⟩ := S.om s h
    rw [e]; exact M.f t ht
  have t : VocT (hs ++ I) (ts ++ (O ++ X)) := ⟨fun s h => (List.mem_append.mp h).elim (G.t.h s) fun q => (mtk_of (kI s q).1).2, fun s h => (List.mem_append.mp h).elim (G.t.t s) fun q => (mtk_of (kO s q).1).2⟩
  have hd : hd0 (rs ++ gs) = hd0 rs := by
    cases rs with
    | nil => exact absurd rfl G.ne
    | cons r q => rfl
  have sub : ∀ r ∈ rs, r ∈ rs ++ gs := fun r hr => List.mem_append_left _ hr
  have fI : ∀ h ∈ I, Fin' (rs ++ gs) h := fun h hh => by
    obtain ⟨j, hj⟩ := List.mem_iff_getElem?.mp hh
    refine fin_down (n := I.length) (F := fun x => x ∈ hs) (fun i h e => (List.getElem?_eq_some_iff.mp e).1) (fun i h e => ?_) (fun x q => (G.g x q).2.sub sub) I.length j h (by omega) hj
    obtain ⟨f, hf, hx⟩ := S.fi i h e
    refine ⟨f, List.mem_append_right _ hf, fun x hx' tx => ?_⟩
    rcases hx x hx' with q | q | q
    · exact .inl (sh x q)
    · rw [t.t x (by simp only [List.mem_append] at q ⊢; exact q.imp (st x) id)] at tx; cases tx
    · exact .inr q
  have r0 : ∀ h, I[0]? = some h → Rea (rs ++ gs) (hd0 rs) h := fun h e => by
    obtain ⟨r, hr, hh, hm⟩ := S.re0 h e
    exact .step r h (List.mem_append_right _ hr) ((G.g _ (sh _ hh)).1.sub sub) hm
  have rI : ∀ h ∈ I, Rea (rs ++ gs) (hd0 rs) h := fun h hh => by
    obtain ⟨j, hj⟩ := List.mem_iff_getElem?.mp hh
    have jl := (List.getElem?_eq_some_iff.mp hj).1
    rcases (show j = 0 ∨ j = 1 by omega) with q | q
    · subst q; exact r0 h hj
    · subst q
      obtain ⟨g, f, eg, hr, hm⟩ := S.re1 h hj
      exact .step (g, f) h (List.mem_append_right _ hr) (r0 g eg) hm
  have up : ∀ y, y ∈ hs ++ ts ++ (O ++ X) ++ I → y ∈ hs ++ I ∨ y ∈ ts ++ (O ++ X) := fun y hy => by
    simp only [List.mem_append] at hy ⊢
    rcases hy with ((q | q) | q) | q
    · exact .inl (.inl q)
    · exact .inr (.inl q)
    · exact .inr (.inr q)
    · exact .inl (.inr q)
  refine ⟨⟨fun s h => (List.mem_append.mp h).elim (G.v.h s) fun q => ltk_of (kI s q).2, fun s h => (List.mem_append.mp h).elim (G.v.t s) fun q => ltk_of (kO s q).2, by rw [List.length_append]; omega, by rw [List.length_append, List.length_append]; omega⟩, t, fun s h => ?_, fun r hr => ?_, fun r hr => ?_, fun h hh => ?_, by rw [List.length_append]; omega, by simp only [List.length_append]; omega, ?_, fun h hh => ?_⟩
  · rcases List.mem_append.mp h with q | q
    · rcases List.mem_append.mp q with q | q
      · exact G.tk s (List.mem_append_left _ q)
      · obtain ⟨a, b⟩ := mtk_of (kI s q).1; rw [a, b]
    · rcases List.mem_append.mp q with q | q
      · exact G.tk s (List.mem_append_right _ q)
      · obtain ⟨a, b⟩ := mtk_of (kO s q).1; rw [a, b]
  · rcases List.mem_append.mp hr with q | q
    · exact List.mem_append_left _ (G.h r q)
    · exact List.mem_append.mpr ((S.r r q).1.imp (sh _) id)
  · rcases List.mem_append.mp hr with q | q
    · exact ⟨fun y hy => ((G.s r q).1 y hy).imp (fun z => List.mem_append_left _ z) fun z => List.mem_append_left _ z, (G.s r q).2⟩
    · refine ⟨fun y hy => up y ?_, (S.r r q).2.1⟩
      have := (S.r r q).2.2 y hy
      simp only [List.mem_append] at this ⊢
      exact this.imp (fun w => w.imp (fun w => w.imp (sh y) (st y)) id) id
  · rcases List.mem_append.mp hh with q | q
    · obtain ⟨r, hr, e⟩ := G.a h q
      exact ⟨r, sub r hr, e⟩
    · obtain ⟨j, hj⟩ := List.mem_iff_getElem?.mp q
      obtain ⟨f, hf, _⟩ := S.fi j h hj
      exact ⟨_, List.mem_append_right _ hf, rfl⟩
  · cases rs with
    | nil => exact absurd rfl G.ne
    | cons r q => exact List.cons_ne_nil _ _
  · rw [hd]
    rcases List.mem_append.mp hh with q | q
    · exact ⟨(G.g h q).1.sub sub, (G.g h q).2.sub sub⟩
    · exact ⟨rI h q, fI h q⟩
end Gt
namespace Gt
open PySem PySem.Spec PyProof.Rows L2
variable {hs ts : List Str} {rs : RL}
theorem law_first (G : Grm hs ts rs) {S : LSt} (L : LS hs ts S) (SE : ∀ h, h ∈ S.1 ↔ Emp rs h) (SF : ∀ h x, x ∈ row S.2.1 h ↔ Frs rs h x) {side : List Str} (h : SideOk hs ts side) : Tt (m__law_first side S) fun l => l.Nodup ∧ (∀ y ∈ l, y ∈ ts) ∧ ∀ x, x ∈ l ↔ StL (Emp rs) (Frs rs) side x :=
  (t_lfirstX G.v G.t h L).imp fun l ⟨⟨a, b⟩, c⟩ => ⟨a, b, fun x => (c x).trans ⟨fun q => q.mono (fun s => (SE s).mp) fun s => (SF s x).mp, fun q => q.mono (fun s => (SE s).mpr) fun s => (SF s x).mpr⟩⟩
end Gt
namespace Gt
open PySem PySem.Spec PyProof.Rows L2
variable {hs ts : List Str} {rs : RL}
theorem Grm.lt (G : Grm hs ts rs) {s : Str} (h : s ∈ hs ∨ s ∈ ts) : m__law_is_token s = .ok (tok s) := by
  rcases h with q | q
  · rw [G.v.h s q, G.t.h s q]
  · rw [G.v.t s q, G.t.t s q]
theorem Grm.pt (G : Grm hs ts rs) {s : Str} (h : s ∈ hs ∨ s ∈ ts) : m_is_token s = .ok (tok s) := G.tk s (List.mem_append.mpr h)
theorem Grm.nth (G : Grm hs ts rs) {s : Str} (h : s ∈ hs ∨ s ∈ ts) (t : tok s = false) : s ∈ hs := h.resolve_right fun q => by rw [G.t.t s q] at t; cases t
end Gt
namespace Gt
open PySem PySem.Spec PyProof.Rows L2
variable {hs ts : List Str} {rs : RL}
/-- how costly the first sides of signs are at most -/
structure Wgt (h0 hs : List Str) (rs : RL) (W : Str → Nat) : Prop where
  t : ∀ s, tok s = true → W s = 1
  h : ∀ s ∈ hs, ∃ f, fr rs s = some (s, f) ∧ (f.map W).sum + 1 ≤ W s
  b : ∀ s ∈ hs, W s ≤ 1000
  c : ∀ s ∈ h0, W s ≤ 47
theorem Wgt.pos (A : Wgt h0 hs rs W) {s : Str} (h : tok s = true ∨ s ∈ hs) : 1 ≤ W s := by
  rcases h with q | q
  · rw [A.t s q]; exact Nat.le_refl _
  · obtain ⟨f, _, l⟩ := A.h s q; omega
theorem sumW_app {W : Str → Nat} {a b : List Str} : ((a ++ b).map W).sum = (a.map W).sum + (b.map W).sum := by
  rw [List.map_append, List.sum_append]
theorem sumW_le {W : Str → Nat} {B : Nat} : ∀ {l : List Str}, (∀ s ∈ l, W s ≤ B) → (l.map W).sum ≤ B * l.length
  | [], _ => Nat.zero_le _
  | s :: l, h => by
    have ih := sumW_le (l := l) fun z hz => h z (List.mem_cons_of_mem _ hz)
    have := h s List.mem_cons_self
    rw [List.map_cons, List.sum_cons, List.length_cons, Nat.mul_add]
    omega
theorem len_sumW {W : Str → Nat} : ∀ {l : List Str}, (∀ s ∈ l, 1 ≤ W s) → l.length ≤ (l.map W).sum
  | [], _ => Nat.zero_le _
  | s :: l, h => by
    have ih := len_sumW (l := l) fun z hz => h z (List.mem_cons_of_mem _ hz)
    have := h s List.mem_cons_self
    rw [List.map_cons, List.sum_cons, List.length_cons]
    omega
/-- a side is put on a stack -/
theorem t_push {side s0 : List Str} (h : s0.length + side.length ≤ 100000) : mfor (fun (s26 : (List Str)) (x27 : Int) => mb (oM (atI side (((side.length : Int) - (1 : Int)) - x27))) fun t29 => mb (chk (decide (s26.length < 100000))) fun _ => mb (.ok (s26 ++ [t29])) fun stack31 => .ok stack31) s0 (ups (side.length : Int).toNat) = .ok (s0 ++ side.reverse) := by
  refine Tt.eq ((Tt.for (fun (pre : List Int) (s : List Str) => s = s0 ++ side.reverse.take pre.length) (by rw [List.length_nil, List.take_zero, List.append_nil]) ?_).imp fun s q => ?_)
  · rintro pre k post s e q
    obtain ⟨ek, lk⟩ := ups_at e
    have lk : pre.length < side.length := by omega
    have lr : pre.length < side.reverse.length := by rw [List.length_reverse]; exact lk
    have er := List.getElem?_eq_getElem lr
    generalize side.reverse[pre.length] = x at er
    have er2 : side[side.length - 1 - pre.length]? = some x := by rw [← List.getElem?_reverse lk]; exact er
    have ls : s.length = s0.length + pre.length := by rw [q, List.length_append, List.length_take]; omega
    have lp : (pre ++ [k]).length = pre.length + 1 := by rw [List.length_append]; rfl
    refine Tt.oM (a := x) ?_ (Tt.chk (by omega) (Tt.let (Tt.ret ?_)))
    · rw [ek]
      refine atI_pos (by omega) ?_
      rw [show (((side.length : Int) - 1) - (pre.length : Int)).toNat = side.length - 1 - pre.length by omega]
      exact er2
    · show s ++ [x] = _
      rw [q, lp, List.append_assoc, List.take_add_one, er]
      rfl
  · rw [q, ups_len, Int.toNat_natCast, List.take_of_length_le (by rw [List.length_reverse]; exact Nat.le_refl _)]
theorem top_at {α : Type} {l : List α} {a : α} : (l ++ [a])[(l ++ [a]).length - 1]? = some a := by simp
theorem top_neg {α : Type} {l : List α} {a : α} : atI (l ++ [a]) (-(1 : Int)) = some a := by
  unfold atI
  have : ixN (l ++ [a]).length (-(1 : Int)) = some l.length := by
    unfold ixN
    rw [List.length_append, List.length_singleton, if_neg (by omega), if_pos (by omega)]
    congr 1
    omega
  rw [this]
  simp
theorem filt_at0 {α : Type} {p : α → Bool} {l : List α} : (l.filter p)[0]? = l.find? p := by
  rw [← List.head?_eq_getElem?, List.head?_filter]
theorem t_lrun (G : Grm hs ts rs) {h0 : List Str} {W : Str → Nat} (A : Wgt h0 hs rs W) {start : Str} {side0 : List Str} {q0 : RL} (e0 : rs = (start, side0) :: q0) {row : List Int} (hl : row.length = 8) :
    Tt (m__law_run rs row) fun run => ∃ txt, Drv rs [start] run txt ∧ run.length + txt.length ≤ 97000 := by
  unfold m__law_run
  have hst : start ∈ hs := G.h (start, side0) (by rw [e0]; exact List.mem_cons_self)
  have Wst := A.b start hst
  have rl := G.l
  refine Tt.let (Tt.oM (a := (start, side0)) (by rw [e0]; exact atI0') (Tt.let (Tt.let (Tt.bind (Tt.wh (fun (s : RL × List Str × Int) => 0 ≤ s.2.2 ∧ s.2.2 ≤ 8 ∧ (∀ x ∈ s.2.1, x ∈ hs ∨ x ∈ ts) ∧ ∃ w, (∀ run' txt', Drv rs s.2.1.reverse run' txt' → Drv rs [start] (s.1 ++ run') (w ++ txt')) ∧ s.1.length + w.length + (s.2.1.map W).sum + 12000 * (8 - s.2.2.toNat) ≤ 97000)
    (fun s => (s.2.1.map W).sum + 12000 * (8 - s.2.2.toNat)) (b := fun s => decide ((0 : Int) < (s.2.1.length : Int))) (fun s _ => rfl) ?_ fuel _ ⟨Int.le_refl _, (by decide : (0 : Int) ≤ 8), fun x hx => ?_, [], fun run' txt' D => D, ?_⟩ ?_) ?_))))
  · rintro ⟨run, stk, used⟩ ⟨u0, u1, sub, w, dr, bd⟩ c
    have u0 : 0 ≤ used := u0
    have u1 : used ≤ 8 := u1
    have sub : ∀ x ∈ stk, x ∈ hs ∨ x ∈ ts := sub
    have dr : ∀ run' txt', Drv rs stk.reverse run' txt' → Drv rs [start] (run ++ run') (w ++ txt') := dr
    have bd : run.length + w.length + (stk.map W).sum + 12000 * (8 - used.toNat) ≤ 97000 := bd
    have wp : ∀ x, x ∈ hs ∨ x ∈ ts → 1 ≤ W x := fun x hx => A.pos (hx.elim .inr fun q => .inl (G.t.t x q))
    rcases List.eq_nil_or_concat stk with q | ⟨l, a, q⟩
    · subst q; cases c
    · rw [List.concat_eq_append] at q
      subst q
      have ha := sub a (List.mem_append_right _ List.mem_cons_self)
      have subl : ∀ x ∈ l, x ∈ hs ∨ x ∈ ts := fun x hx => sub x (List.mem_append_left _ hx)
      have eW : ((l ++ [a]).map W).sum = (l.map W).sum + W a := by rw [sumW_app]; simp
      rw [eW] at bd
      have wa := wp a ha
      have lW := len_sumW (W := W) (l := l) fun x hx => wp x (subl x hx)
      refine Tt.oM (a := a) top_at (Tt.let (Tt.by (G.lt ha) ?_))
      show Tt (bif !tok a then _ else _) _
      have edl : (l ++ [a]).dropLast = l := List.dropLast_concat
      refine Tt.if (fun ta => ?_) fun ta => Tt.ret ?_
      · have ta : tok a = false := by cases h : tok a with | false => rfl | true => rw [h] at ta; cases ta
        have hh := G.nth ha ta
        obtain ⟨f, ef, wf⟩ := A.h a hh
        have emem : ∀ y, y ∈ (rs.filter (fun (y13 : (Str × (List Str))) => (decide (y13.1 = a)))).map (fun (y13 : (Str × (List Str))) => y13.2) → (a, y) ∈ rs := fun y hy => by
          obtain ⟨z, hz, ez⟩ := List.mem_map.mp hy
          obtain ⟨z1, z2⟩ := List.mem_filter.mp hz
          have z2 := of_decide_eq_true z2
          rw [← ez, ← z2]
          exact z1
        have efst : ((rs.filter (fun (y13 : (Str × (List Str))) => (decide (y13.1 = a)))).map (fun (y13 : (Str × (List Str))) => y13.2))[0]? = some f := by
          rw [List.getElem?_map, filt_at0]
          have : rs.find? (fun (y13 : (Str × (List Str))) => (decide (y13.1 = a))) = some (a, f) := ef
          rw [this]
          rfl
        refine Tt.chk (by omega) (Tt.let (Tt.let ?_))
        generalize ((rs.filter (fun (y13 : (Str × (List Str))) => (decide (y13.1 = a)))).map (fun (y13 : (Str × (List Str))) => y13.2)) = S at emem efst ⊢
        have Sl : 0 < S.length := (List.getElem?_eq_some_iff.mp efst).1
        refine Tt.bind (P := fun (z : Int × Int) => 0 ≤ z.1 ∧ z.1 ≤ 8 ∧ ∃ side, atI S z.2 = some side ∧ (a, side) ∈ rs ∧ (side.map W).sum + 12000 * (8 - z.1.toNat) + 1 ≤ W a + 12000 * (8 - used.toNat)) ?_ ?_
        · refine Tt.if (fun c => ?_) fun c => Tt.ret ⟨u0, u1, f, atI_pos (by omega) (by simpa using efst), emem f (List.mem_of_getElem? efst), by show (f.map W).sum + 12000 * (8 - used.toNat) + 1 ≤ _; omega⟩
          have c := of_decide_eq_true c
          have c : used < (row.length : Int) := c
          refine Tt.ix u0 c fun d _ _ => Tt.chk (by omega) (Tt.let (Tt.let (Tt.ret ⟨by show 0 ≤ used + 1; omega, by show used + 1 ≤ 8; omega, ?_⟩)))
          have m0 : 0 ≤ d % (S.length : Int) := Int.emod_nonneg _ (by omega)
          have m1 : d % (S.length : Int) < S.length := Int.emod_lt_of_pos _ (by omega)
          obtain ⟨side, es, es2, hs2⟩ := atI_in (xs := S) (i := d % (S.length : Int)) m0 m1
          have hr := emem side hs2
          refine ⟨side, es, hr, ?_⟩
          have sl := (G.s (a, side) hr).2
          have sl : side.length ≤ 12 := sl
          have := sumW_le (W := W) (B := 1000) (l := side) fun s hs' => (((G.s (a, side) hr).1 s hs').elim (A.b s) fun q => by rw [A.t s (G.t.t s q)]; decide)
          show (side.map W).sum + 12000 * (8 - (used + 1).toNat) + 1 ≤ _
          have : (8 - used.toNat) = (8 - (used + 1).toNat) + 1 := by omega
          rw [this, Nat.mul_add]
          omega
        · rintro ⟨us, pk⟩ ⟨v0, v1, side, es, hr, bs⟩
          have v0 : 0 ≤ us := v0
          have v1 : us ≤ 8 := v1
          have bs : (side.map W).sum + 12000 * (8 - us.toNat) + 1 ≤ W a + 12000 * (8 - used.toNat) := bs
          have sl : side.length ≤ 12 := (G.s (a, side) hr).2
          rw [edl]
          refine Tt.oM es (Tt.chk (by show run.length < 100000; omega) (Tt.let (Tt.chk (by omega) (Tt.by (t_push (by omega)) (Tt.ret ⟨⟨v0, v1, fun x hx => ?_, w, fun run' txt' D => ?_, ?_⟩, ?_⟩)))))
          · rcases List.mem_append.mp hx with q | q
            · exact subl x q
            · exact (G.s (a, side) hr).1 x (List.mem_reverse.mp q)
          · have D : Drv rs (l ++ side.reverse).reverse run' txt' := D
            rw [List.reverse_append, List.reverse_reverse] at D
            have := dr ((a, side) :: run') txt' (by rw [List.reverse_append]; exact .nt hr D)
            show Drv rs [start] ((run ++ [(a, side)]) ++ run') (w ++ txt')
            rw [List.append_assoc]
            exact this
          · show (run ++ [(a, side)]).length + w.length + ((l ++ side.reverse).map W).sum + 12000 * (8 - us.toNat) ≤ 97000
            rw [sumW_app, List.map_reverse, List.sum_reverse, List.length_append, List.length_singleton]
            omega
          · show ((l ++ side.reverse).map W).sum + 12000 * (8 - us.toNat) < ((l ++ [a]).map W).sum + 12000 * (8 - used.toNat)
            rw [sumW_app, List.map_reverse, List.sum_reverse, eW]
            omega
      · have ta : tok a = true := by cases h : tok a with | true => rfl | false => rw [h] at ta; cases ta
        rw [edl]
        refine ⟨⟨u0, u1, subl, w ++ [a], fun run' txt' D => ?_, ?_⟩, ?_⟩
        · have := dr run' (a :: txt') (by rw [List.reverse_append]; exact .tk ta D)
          rw [List.append_assoc]
          exact this
        · show run.length + (w ++ [a]).length + (l.map W).sum + 12000 * (8 - used.toNat) ≤ 97000
          rw [List.length_append, List.length_singleton]
          omega
        · show (l.map W).sum + 12000 * (8 - used.toNat) < ((l ++ [a]).map W).sum + 12000 * (8 - used.toNat)
          rw [eW]
          omega
  · have : x = start := List.mem_singleton.mp hx
    rw [this]; exact .inl hst
  · show 0 + 0 + (([start] : List Str).map W).sum + 12000 * (8 - (0 : Int).toNat) ≤ 97000
    rw [List.map_singleton, List.sum_singleton]
    have : (0 : Int).toNat = 0 := rfl
    omega
  · show (([start] : List Str).map W).sum + 12000 * (8 - (0 : Int).toNat) < fuel
    rw [List.map_singleton, List.sum_singleton]
    have : (0 : Int).toNat = 0 := rfl
    unfold fuel
    omega
  · rintro ⟨run, stk, used⟩ ⟨⟨u0, u1, sub, w, dr, bd⟩, c⟩
    have c : decide ((0 : Int) < (stk.length : Int)) = false := c
    have c := of_decide_eq_false c
    have : stk = [] := List.length_eq_zero_iff.mp (by omega)
    subst this
    have D := dr [] [] Drv.nil
    rw [List.append_nil, List.append_nil] at D
    refine Tt.ret ⟨w, D, ?_⟩
    have bd : run.length + w.length + _ + _ ≤ 97000 := bd
    show run.length + w.length ≤ 97000
    omega
/-- the tokens on top are read -/
theorem t_tops (G : Grm hs ts rs) {run' : RL} {txt : List Str} (b : txt.length ≤ 99000) {stk0 txt0 : List Str} (P : ∃ txt', txt = txt0 ++ txt' ∧ Drv rs stk0.reverse run' txt') (sub0 : ∀ x ∈ stk0, x ∈ hs ∨ x ∈ ts) (bl : stk0.length ≤ 99000) :
    Tt (mwhile (fun (s9 : ((List Str) × (List Str))) => mb (mand (decide ((0 : Int) < (s9.1.length : Int))) (mb (oM (atI s9.1 (-(1 : Int)))) fun t16 => mb (m__law_is_token t16) fun t17 => .ok t17)) fun c18 => .ok c18) (fun (s9 : ((List Str) × (List Str))) => mb (oM (s9.1[s9.1.length - 1]?)) fun v12 => mb (chk (decide (s9.2.length < 100000))) fun _ => mb (.ok (s9.1.dropLast)) fun stack14 => mb (.ok (s9.2 ++ [v12])) fun text15 => .ok (stack14, text15)) fuel (stk0, txt0))
      fun s => (∃ txt', txt = s.2 ++ txt' ∧ Drv rs s.1.reverse run' txt') ∧ (∀ x ∈ s.1, x ∈ hs ∨ x ∈ ts) ∧ (s.1 = [] ∨ ∃ l a, s.1 = l ++ [a] ∧ tok a = false) := by
  refine (Tt.wh (fun (s : List Str × List Str) => (∃ txt', txt = s.2 ++ txt' ∧ Drv rs s.1.reverse run' txt') ∧ ∀ x ∈ s.1, x ∈ hs ∨ x ∈ ts) (fun s => s.1.length) (b := fun s => match s.1.getLast? with | some a => tok a | none => false) ?_ ?_ fuel _ ⟨P, sub0⟩ ?_).imp ?_
  · rintro ⟨stk, tx⟩ ⟨_, sub⟩
    have sub : ∀ x ∈ stk, x ∈ hs ∨ x ∈ ts := sub
    rcases List.eq_nil_or_concat stk with q | ⟨l, a, q⟩
    · subst q
      rfl
    · rw [List.concat_eq_append] at q
      subst q
      have ha := sub a (List.mem_append_right _ List.mem_cons_self)
      show mb (mand _ _) _ = .ok (match (l ++ [a]).getLast? with | some a => tok a | none => false)
      rw [List.getLast?_concat]
      rw [mb_of (Tt.mand (b := tok a) fun _ => by rw [mb_of (oM_of top_neg), mb_of (G.lt ha)])]
      rw [decide_eq_true (by show (0 : Int) < ((l ++ [a]).length : Int); rw [List.length_append, List.length_singleton]; omega)]
      rfl
  · rintro ⟨stk, tx⟩ ⟨⟨txt', et, D⟩, sub⟩ c
    have sub : ∀ x ∈ stk, x ∈ hs ∨ x ∈ ts := sub
    have et : txt = tx ++ txt' := et
    have D : Drv rs stk.reverse run' txt' := D
    rcases List.eq_nil_or_concat stk with q | ⟨l, a, q⟩
    · subst q; cases c
    · rw [List.concat_eq_append] at q
      subst q
      have c : (match (l ++ [a]).getLast? with | some a => tok a | none => false) = true := c
      rw [List.getLast?_concat] at c
      have c : tok a = true := c
      rw [List.reverse_append] at D
      obtain ⟨t2, e2, D2⟩ := Drv.tkS (s := a) (st := l.reverse) G.nt c D
      have lt : tx.length + txt'.length ≤ 99000 := by rw [← List.length_append, ← et]; exact b
      refine Tt.oM (a := a) top_at (Tt.chk (by show tx.length < 100000; omega) (Tt.let (Tt.let (Tt.ret ⟨⟨⟨t2, ?_, ?_⟩, fun x hx => ?_⟩, ?_⟩))))
      · show txt = (tx ++ [a]) ++ t2
        rw [et, e2, List.append_assoc]; rfl
      · show Drv rs (l ++ [a]).dropLast.reverse run' t2
        rw [List.dropLast_concat]; exact D2
      · have hx : x ∈ (l ++ [a]).dropLast := hx
        rw [List.dropLast_concat] at hx
        exact sub x (List.mem_append_left _ hx)
      · show (l ++ [a]).dropLast.length < (l ++ [a]).length
        rw [List.dropLast_concat, List.length_append, List.length_singleton]; omega
  · show stk0.length < fuel
    unfold fuel
    omega
  · rintro ⟨stk, tx⟩ ⟨⟨P, sub⟩, c⟩
    refine ⟨P, sub, ?_⟩
    rcases List.eq_nil_or_concat stk with q | ⟨l, a, q⟩
    · exact .inl q
    · rw [List.concat_eq_append] at q
      have c : (match stk.getLast? with | some a => tok a | none => false) = false := c
      rw [q, List.getLast?_concat] at c
      exact .inr ⟨l, a, q, c⟩
theorem Drv.sub (G : Grm hs ts rs) {st : List Str} {run : RL} {txt : List Str} (D : Drv rs st run txt) : run.length ≤ 99000 → ∀ r ∈ run, r ∈ rs := by
  induction D with
  | nil => intro _ r hr; cases hr
  | tk _ _ ih => exact ih
  | nt h _ ih =>
    intro l r hr
    rcases List.mem_cons.mp hr with q | q
    · rw [q]; exact h
    · exact ih (by rw [List.length_cons] at l; omega) r q
theorem t_lwalk (G : Grm hs ts rs) {start : Str} {side0 : List Str} {q0 : RL} (e0 : rs = (start, side0) :: q0) {run : RL} {txt : List Str} (D : Drv rs [start] run txt) (b : run.length + txt.length ≤ 97000) : m__law_walk rs run = .ok (some txt) := by
  refine Tt.eq ?_
  unfold m__law_walk
  have hst : start ∈ hs := G.h (start, side0) (by rw [e0]; exact List.mem_cons_self)
  refine Tt.oM (a := (start, side0)) (by rw [e0]; exact atI0') (Tt.let (Tt.let (Tt.if (fun c => by cases c) fun _ => Tt.bind (P := fun (o : Fl (List Str × List Str) (Option (List Str))) => ∃ s, o = .nx s ∧ (∃ txt', txt = s.2 ++ txt' ∧ Drv rs s.1.reverse [] txt') ∧ ∀ x ∈ s.1, x ∈ hs ∨ x ∈ ts) ?_ ?_)))
  · refine Tt.forF (fun (pre : RL) (s : List Str × List Str) => (∃ txt', txt = s.2 ++ txt' ∧ Drv rs s.1.reverse (run.drop pre.length) txt') ∧ ∀ x ∈ s.1, x ∈ hs ∨ x ∈ ts) ⟨⟨txt, rfl, D⟩, fun x hx => by rw [List.mem_singleton.mp hx]; exact .inl hst⟩ (fun s ⟨⟨txt', et, D⟩, sub⟩ => ⟨s, rfl, ⟨txt', et, by rw [List.drop_length] at D; exact D⟩, sub⟩) ?_
    rintro pre x post ⟨stk, tx⟩ e ⟨P, sub⟩
    have ed : run.drop pre.length = x :: post := by rw [e, List.drop_left]
    have lp : (pre ++ [x]).length = pre.length + 1 := by rw [List.length_append]; rfl
    have ed2 : run.drop (pre.length + 1) = post := by rw [← List.drop_drop, ed]; rfl
    have lrun : run.length = pre.length + post.length + 1 := by rw [e, List.length_append, List.length_cons]; omega
    have sub : ∀ x ∈ stk, x ∈ hs ∨ x ∈ ts := sub
    have P : ∃ txt', txt = tx ++ txt' ∧ Drv rs stk.reverse (run.drop pre.length) txt' := P
    rw [ed] at P
    have bl : stk.length ≤ 99000 := by
      obtain ⟨txt', et, D'⟩ := P
      have := D'.len
      rw [List.length_reverse, List.length_cons] at this
      have : txt.length = tx.length + txt'.length := by rw [et, List.length_append]
      omega
    refine (t_tops G (by omega) P sub bl).bind ?_
    rintro ⟨stk2, tx2⟩ ⟨⟨txt', et, D'⟩, sub2, fin⟩
    have et : txt = tx2 ++ txt' := et
    have D' : Drv rs stk2.reverse (x :: post) txt' := D'
    have sub2 : ∀ x ∈ stk2, x ∈ hs ∨ x ∈ ts := sub2
    rcases fin with q | ⟨l, a, q, ta⟩
    · have q : stk2 = [] := q
      subst q
      cases D'
    · have q : stk2 = l ++ [a] := q
      subst q
      rw [List.reverse_append] at D'
      obtain ⟨side, run', ex, hr, D2⟩ := Drv.ntS (s := a) (st := l.reverse) ta D'
      cases ex
      have l2 := D2.len
      rw [List.length_append, List.length_reverse] at l2
      have lt : txt.length = tx2.length + txt'.length := by rw [et, List.length_append]
      have sl : side.length ≤ 12 := (G.s (a, side) hr).2
      refine Tt.if (fun c => ?_) fun _ => Tt.if (fun c => ?_) fun _ => Tt.oM (a := a) top_at (Tt.let (Tt.if (fun c => ?_) fun _ => Tt.chk (by show -100000 ≤ (side.length : Int) ∧ (side.length : Int) ≤ 100000; omega) (Tt.by (a := l ++ side.reverse) ?_ (Tt.ret ?_))))
      · have c := of_decide_eq_true c
        have c : ((l ++ [a]).length : Int) = 0 := c
        rw [List.length_append, List.length_singleton] at c
        omega
      · rw [memB_iff.mpr hr] at c; cases c
      · rw [decide_eq_true rfl] at c; cases c
      · show mfor _ ((l ++ [a]).dropLast) _ = _
        rw [List.dropLast_concat]
        have lrn : run.length ≤ 97000 := by omega
        have lps : (pre ++ [(a, side)]).length = pre.length + 1 := lp
        exact t_push (side := side) (by omega)
      · refine ⟨⟨txt', et, ?_⟩, fun y hy => ?_⟩
        · show Drv rs (l ++ side.reverse).reverse (run.drop (pre ++ [_]).length) txt'
          rw [lp, ed2, List.reverse_append, List.reverse_reverse]
          exact D2
        · rcases List.mem_append.mp hy with z | z
          · exact sub2 y (List.mem_append_left _ z)
          · exact (G.s (a, side) hr).1 y (List.mem_reverse.mp z)
  · rintro o ⟨⟨stk, tx⟩, rfl, P, sub⟩
    have bl : stk.length ≤ 99000 := by
      obtain ⟨txt', et, D'⟩ := P
      have et : txt = tx ++ txt' := et
      have := D'.len
      have this : stk.reverse.length ≤ _ := this
      rw [List.length_reverse, List.length_nil] at this
      have : txt.length = tx.length + txt'.length := by rw [et, List.length_append]
      omega
    refine (t_tops G (by omega) P sub bl).bind ?_
    rintro ⟨stk2, tx2⟩ ⟨⟨txt', et, D'⟩, sub2, fin⟩
    have et : txt = tx2 ++ txt' := et
    have D' : Drv rs stk2.reverse [] txt' := D'
    rcases fin with q | ⟨l, a, q, ta⟩
    · have q : stk2 = [] := q
      subst q
      cases D'
      exact Tt.if (fun c => by cases c) fun _ => Tt.ret (by rw [et, List.append_nil])
    · have q : stk2 = l ++ [a] := q
      subst q
      rw [List.reverse_append] at D'
      obtain ⟨side, run', ex, hr, D2⟩ := Drv.ntS (s := a) (st := l.reverse) ta D'
      cases ex
end Gt
namespace Gt
open PySem PySem.Spec PyProof.Rows L2
variable {hs ts : List Str} {rs : RL}
theorem Mt.iff {S : LSt} (SE : ∀ h, h ∈ S.1 ↔ Emp rs h) (SF : ∀ h x, x ∈ row S.2.1 h ↔ Frs rs h x) (SB : ∀ h x, x ∈ row S.2.2 h ↔ Fol rs h x) (h : Str) (a : List Str) (y : Str) : MtS S h a y ↔ Mt rs h a y := by
  unfold MtS Mt
  exact or_congr ⟨fun q => q.mono (fun s => (SE s).mp) fun s => (SF s y).mp, fun q => q.mono (fun s => (SE s).mpr) fun s => (SF s y).mpr⟩ (and_congr ⟨fun q z hz => (SE z).mp (q z hz), fun q z hz => (SE z).mpr (q z hz)⟩ (or_congr (SB h y) Iff.rfl))
def LLp (rs : RL) : Prop := rs.Pairwise fun r r' => r.1 = r'.1 → ¬ Meets rs r.1 r.2 r'.2
theorem Meets.sy {h : Str} {a b : List Str} (m : Meets rs h a b) : Meets rs h b a := let ⟨x, p, q⟩ := m; ⟨x, q, p⟩
theorem LLp.ll (P : LLp rs) : LL1 rs := by
  intro h a b ha hb m
  obtain ⟨i, hi⟩ := List.mem_iff_getElem?.mp ha
  obtain ⟨j, hj⟩ := List.mem_iff_getElem?.mp hb
  obtain ⟨li, ei⟩ := List.getElem?_eq_some_iff.mp hi
  obtain ⟨lj, ej⟩ := List.getElem?_eq_some_iff.mp hj
  rcases Nat.lt_trichotomy i j with q | q | q
  · have := List.pairwise_iff_getElem.mp P i j li lj q
    rw [ei, ej] at this
    exact absurd m (this rfl)
  · subst q
    rw [hi] at hj
    cases hj
    rfl
  · have := List.pairwise_iff_getElem.mp P j i lj li q
    rw [ei, ej] at this
    exact absurd m.sy (this rfl)
theorem Host.llp {n : Nat} (H : Host n hs ts rs) : LLp rs := H.pw.imp fun {a b} z e => (z e).2
theorem t_lclashes (G : Grm hs ts rs) : Tt (m__law_clashes rs) fun b => b = false → LLp rs := by
  unfold m__law_clashes
  have rl := G.l
  refine G.lsets.bind fun S ⟨LSS, SE, SF, SB⟩ => Tt.chk (by omega) (Tt.bind (P := fun (o : Fl Unit Bool) => o = .rt true ∨ (o = .nx () ∧ LLp rs)) ?_ ?_)
  · refine Tt.forF (fun (pre : List Int) (_ : Unit) => ∀ i, i < pre.length → ∀ r, rs[i]? = some r → ∀ r' ∈ rs.drop (i + 1), r.1 = r'.1 → ¬ Meets rs r.1 r.2 r'.2) (fun i h => absurd h (Nat.not_lt_zero _)) (fun s h => .inr ⟨rfl, ?_⟩) ?_
    · refine List.pairwise_iff_getElem.mpr fun i j li lj ij => ?_
      refine h i ?_ _ (List.getElem?_eq_getElem li) _ ?_
      · rw [ups_len]; omega
      · refine List.mem_iff_getElem?.mpr ⟨j - (i + 1), ?_⟩
        rw [List.getElem?_drop, show i + 1 + (j - (i + 1)) = j by omega]
        exact List.getElem?_eq_getElem lj
    · rintro pre k post _ e IH
      obtain ⟨ek, lk⟩ := ups_at e
      have lk : pre.length < rs.length := by omega
      have lp : (pre ++ [k]).length = pre.length + 1 := by rw [List.length_append]; rfl
      have er := List.getElem?_eq_getElem lk
      generalize rs[pre.length] = r at er
      have hr : r ∈ rs := List.mem_of_getElem? er
      have ecut : cut rs (some (k + (1 : Int))) none = rs.drop (pre.length + 1) := by
        rw [cut_drop (by omega) (by omega)]
        congr 1
        omega
      rw [ecut]
      refine Tt.bind (P := fun (o : Fl Unit Bool) => o = .rt true ∨ (o = .nx () ∧ ∀ r' ∈ rs.drop (pre.length + 1), r.1 = r'.1 → ¬ Meets rs r.1 r.2 r'.2)) ?_ ?_
      · refine Tt.forF (fun (pi : RL) (_ : Unit) => ∀ r' ∈ pi, r.1 = r'.1 → ¬ Meets rs r.1 r.2 r'.2) (fun r' h => nomatch h) (fun s h => .inr ⟨rfl, h⟩) ?_
        rintro pi x po _ ei IHi
        have hx : x ∈ rs := List.mem_of_mem_drop (i := pre.length + 1) (by rw [ei]; exact List.mem_append_right _ List.mem_cons_self)
        refine Tt.oM (a := r) (by rw [ek]; exact atI_pos (by omega) (by simpa using er)) ?_
        obtain ⟨b, hb, ib⟩ := (t_lmeetX G.v G.t (G.h x hx) (G.hr.s r hr) (G.hr.s x hx) LSS).ok
        refine Tt.by (Tt.mand (b := b) fun _ => by rw [mb_of hb]) (Tt.if (fun _ => Tt.ret (.inl rfl)) fun c => Tt.ret ?_)
        intro r' hr' e' m
        rcases List.mem_append.mp hr' with q | q
        · exact IHi r' q e' m
        · rw [List.mem_singleton.mp q] at e' m
          rw [decide_eq_true e'.symm, Bool.true_and] at c
          obtain ⟨y, p1, p2⟩ := m
          have := ib.mpr ⟨y, (Mt.iff SE SF SB _ _ _).mpr (e' ▸ p1), (Mt.iff SE SF SB _ _ _).mpr (e' ▸ p2)⟩
          rw [this] at c
          cases c
      · rintro o (rfl | ⟨rfl, h⟩)
        · exact Tt.ret (.inl rfl)
        · refine Tt.ret fun i hi r1 e1 => ?_
          rcases (show i < pre.length ∨ i = pre.length by omega) with q | q
          · exact IH i q r1 e1
          · subst q
            rw [er] at e1
            cases e1
            exact h
  · rintro o (rfl | ⟨rfl, h⟩)
    · exact Tt.ret fun q => nomatch q
    · exact Tt.ret fun _ => h
/-- what a table of these rules holds -/
def QT (rs pre : RL) (k : KP) (a : List Str) : Prop := (k.1, a) ∈ pre ∧ ((∃ x, k.2 = some x ∧ StL (Emp rs) (Frs rs) a x) ∨ (k.2 = none ∧ ∀ z ∈ a, Emp rs z))
theorem QT.snoc {pre : RL} {r : Str × List Str} {k : KP} {a : List Str} : QT rs (pre ++ [r]) k a ↔ QT rs pre k a ∨ ((k.1, a) = r ∧ ((∃ x, k.2 = some x ∧ StL (Emp rs) (Frs rs) a x) ∨ (k.2 = none ∧ ∀ z ∈ a, Emp rs z))) := by
  unfold QT
  rw [List.mem_append, List.mem_singleton]
  constructor
  · rintro ⟨q | q, w⟩
    · exact .inl ⟨q, w⟩
    · exact .inr ⟨q, w⟩
  · rintro (⟨q, w⟩ | ⟨q, w⟩)
    · exact ⟨.inl q, w⟩
    · exact ⟨.inr q, w⟩
theorem t_ltable (G : Grm hs ts rs) (L : LL1 rs) : Tt (m__law_table rs) fun T => TabOk rs (pkey T) ∧ T.length ≤ 50000 := by
  unfold m__law_table
  have rl := G.l
  have lt := G.v.lt
  refine G.lsets.bind fun S ⟨LSS, SE, SF, SB⟩ => Tt.let (Tt.bind (Tt.for (fun (pre : RL) (s : List (KP × List Str)) => s.length ≤ 41 * pre.length ∧ ∀ k a, pkey s k = some a ↔ QT rs pre k a) ⟨Nat.le_refl _, fun k a => ⟨fun q => ?_, fun q => nomatch q.1⟩⟩ ?_) fun s ⟨sl, sk⟩ => Tt.chk (by omega) (Tt.ret ⟨⟨fun h x a => ?_, fun h a => ?_⟩, by omega⟩))
  · have q : none = some a := q
    cases q
  · rintro pre r post s e ⟨sl, sk⟩
    have hr : r ∈ rs := by rw [e]; exact List.mem_append_right _ List.mem_cons_self
    have hp : ∀ z ∈ pre, z ∈ rs := fun z hz => by rw [e]; exact List.mem_append_left _ hz
    have pl : pre.length < rs.length := by rw [e, List.length_append, List.length_cons]; omega
    have lp : (pre ++ [r]).length = pre.length + 1 := by rw [List.length_append]; rfl
    have sd := G.hr.s r hr
    refine (law_first G LSS SE SF sd).bind fun t ⟨tn, ts', tm⟩ => ?_
    have tl := nd_le tn ts'
    refine Tt.bind (Tt.for (fun (pi : List Str) (s' : List (KP × List Str)) => s'.length ≤ s.length + pi.length ∧ ∀ k a, pkey s' k = some a ↔ QT rs pre k a ∨ ∃ x ∈ pi, k = (r.1, some x) ∧ a = r.2) ⟨Nat.le_refl _, fun k a => (sk k a).trans ⟨.inl, fun q => q.elim id fun ⟨x, hx, _⟩ => nomatch hx⟩⟩ ?_) ?_
    · rintro pi x po s' ei ⟨sl', sk'⟩
      have hx : x ∈ t := by rw [ei]; exact List.mem_append_right _ List.mem_cons_self
      have pil : pi.length < t.length := by rw [ei, List.length_append, List.length_cons]; omega
      have lpi : (pi ++ [x]).length = pi.length + 1 := by rw [List.length_append]; rfl
      have lu := len_pput (k := (r.1, some x)) (v := r.2) (xs := s')
      refine Tt.chk (by omega) (Tt.let (Tt.ret ⟨by rw [lpi]; omega, fun k a => ?_⟩))
      refine (pput_add sk' (fun a q => ?_) k a).trans ?_
      · rcases q with ⟨q1, q2⟩ | ⟨y, _, _, q⟩
        · rcases q2 with ⟨y, ey, sy⟩ | ⟨ey, _⟩
          · cases ey
            exact L r.1 a r.2 (hp _ q1) hr ⟨x, .inl sy, .inl ((tm x).mp hx)⟩
          · cases ey
        · exact q
      · constructor
        · rintro ((q | ⟨y, hy, q⟩) | q)
          · exact .inl q
          · exact .inr ⟨y, List.mem_append_left _ hy, q⟩
          · exact .inr ⟨x, List.mem_append_right _ List.mem_cons_self, q⟩
        · rintro (q | ⟨y, hy, q⟩)
          · exact .inl (.inl q)
          · rcases List.mem_append.mp hy with w | w
            · exact .inl (.inr ⟨y, w, q⟩)
            · rw [List.mem_singleton.mp w] at q
              exact .inr q
    · rintro s' ⟨sl', sk'⟩
      obtain ⟨b, hb, ib⟩ := t_lemptyX sd S
      have ib : b = true ↔ ∀ z ∈ r.2, Emp rs z := ib.trans ⟨fun q z hz => (SE z).mp (q z hz), fun q z hz => (SE z).mpr (q z hz)⟩
      refine Tt.by hb (Tt.if (fun c => ?_) fun c => Tt.ret ⟨by rw [lp]; omega, fun k a => ?_⟩)
      · have lu := len_pput (k := (r.1, (none : Option Str))) (v := r.2) (xs := s')
        refine Tt.chk (by omega) (Tt.let (Tt.ret ⟨by rw [lp]; omega, fun k a => ?_⟩))
        refine (pput_add sk' (fun a q => ?_) k a).trans ?_
        · rcases q with ⟨q1, q2⟩ | ⟨y, _, q, _⟩
          · rcases q2 with ⟨y, ey, sy⟩ | ⟨_, ey⟩
            · cases ey
            · exact L r.1 a r.2 (hp _ q1) hr ⟨"", .inr ⟨ey, .inr rfl⟩, .inr ⟨ib.mp c, .inr rfl⟩⟩
          · cases q
        · rw [QT.snoc]
          constructor
          · rintro ((q | ⟨y, hy, q1, q2⟩) | ⟨q1, q2⟩)
            · exact .inl q
            · subst q1; subst q2
              exact .inr ⟨rfl, .inl ⟨y, rfl, (tm y).mp hy⟩⟩
            · subst q1; subst q2
              exact .inr ⟨rfl, .inr ⟨rfl, ib.mp c⟩⟩
          · rintro (q | ⟨q, ⟨y, ey, sy⟩ | ⟨ey, _⟩⟩)
            · exact .inl (.inl q)
            · obtain ⟨k1, k2⟩ := k
              have ey : k2 = some y := ey
              subst ey
              have q1 : k1 = r.1 := congrArg Prod.fst q
              have q2 : a = r.2 := congrArg Prod.snd q
              subst q1; subst q2
              exact .inl (.inr ⟨y, (tm y).mpr sy, rfl, rfl⟩)
            · obtain ⟨k1, k2⟩ := k
              have ey : k2 = none := ey
              subst ey
              have q1 : k1 = r.1 := congrArg Prod.fst q
              have q2 : a = r.2 := congrArg Prod.snd q
              subst q1; subst q2
              exact .inr ⟨rfl, rfl⟩
      · rw [sk' k a, QT.snoc]
        constructor
        · rintro (q | ⟨y, hy, q1, q2⟩)
          · exact .inl q
          · subst q1; subst q2
            exact .inr ⟨rfl, .inl ⟨y, rfl, (tm y).mp hy⟩⟩
        · rintro (q | ⟨q, ⟨y, ey, sy⟩ | ⟨_, ey⟩⟩)
          · exact .inl q
          · obtain ⟨k1, k2⟩ := k
            have ey : k2 = some y := ey
            subst ey
            have q1 : k1 = r.1 := congrArg Prod.fst q
            have q2 : a = r.2 := congrArg Prod.snd q
            subst q1; subst q2
            exact .inr ⟨y, (tm y).mpr sy, rfl, rfl⟩
          · have q2 : a = r.2 := congrArg Prod.snd q
            subst q2
            rw [ib.mpr ey] at c
            cases c
  · rw [sk]
    exact ⟨fun ⟨q, w⟩ => ⟨q, w.elim (fun ⟨y, ey, sy⟩ => by cases ey; exact sy) fun ⟨ey, _⟩ => nomatch ey⟩, fun ⟨q, w⟩ => ⟨q, .inl ⟨x, rfl, w⟩⟩⟩
  · rw [sk]
    exact ⟨fun ⟨q, w⟩ => ⟨q, w.elim (fun ⟨y, ey, sy⟩ => nomatch ey) fun ⟨_, w⟩ => w⟩, fun ⟨q, w⟩ => ⟨q, .inr ⟨rfl, w⟩⟩⟩
end Gt
namespace Gt
open PySem PySem.Spec PyProof.Rows L2
variable {hs ts : List Str} {rs : RL}
theorem nmSql : NmOk "sql" := ⟨by decide +kernel, by decide +kernel, by decide +kernel⟩
def ixH : List Str → Str → Nat
  | [], _ => 0
  | a :: l, s => if a = s then 0 else ixH l s + 1
theorem ixH_at {s : Str} : ∀ {l : List Str}, s ∈ l → l[ixH l s]? = some s
  | a :: l, h => by
    unfold ixH
    by_cases e : a = s
    · rw [if_pos e, e]; rfl
    · rw [if_neg e]
      exact ixH_at ((List.mem_cons.mp h).resolve_left fun q => e q.symm)
theorem sumW_cnt {W : Str → Nat} {p : Str → Bool} {B : Nat} : ∀ {l : List Str}, (∀ s ∈ l, p s = true → W s ≤ B + 1) → (∀ s ∈ l, p s = false → W s = 1) → (l.map W).sum ≤ B * (l.filter p).length + l.length
  | [], _, _ => Nat.zero_le _
  | s :: l, h, g => by
    have ih := sumW_cnt (p := p) (l := l) (fun z hz => h z (List.mem_cons_of_mem _ hz)) fun z hz => g z (List.mem_cons_of_mem _ hz)
    rw [List.map_cons, List.sum_cons, List.length_cons, List.filter_cons]
    cases q : p s with
    | true =>
      have := h s List.mem_cons_self q
      rw [if_pos rfl, List.length_cons, Nat.mul_add]
      omega
    | false =>
      have := g s List.mem_cons_self q
      rw [if_neg (by decide)]
      omega
def dW : Nat → Nat
  | 0 => 2
  | 1 => 5
  | 2 => 14
  | _ => 47
theorem dW_le (d : Nat) : dW d ≤ 47 := by
  match d with
  | 0 => decide
  | 1 => decide
  | 2 => decide
  | n + 3 => exact Nat.le_refl 47
theorem Host.wgt (H : Host 4 hs ts rs) (G : Grm hs ts rs) : ∃ W, Wgt hs hs rs W := by
  refine ⟨fun s => if tok s = true then 1 else dW (3 - ixH hs s), fun s h => if_pos h, fun s hh => ?_, fun s hh => ?_, fun s hh => ?_⟩
  · have ei := ixH_at hh
    have th := G.t.h s hh
    have il := (List.getElem?_eq_some_iff.mp ei).1
    have hl := H.hl
    generalize hi : ixH hs s = i at ei il
    obtain ⟨t, w, ef, ht, hw, lw, cw⟩ := H.fw i s ei
    refine ⟨t :: w, ef, ?_⟩
    have et : tok t = true := G.t.t t ht
    rw [List.map_cons, List.sum_cons]
    try simp only [hi]
    rw [if_pos et, if_neg (by rw [th]; decide)]
    have key : ∀ B, (∀ j, i < j → j < 4 → dW (3 - j) ≤ B + 1) → (w.map fun s => if tok s = true then 1 else dW (3 - ixH hs s)).sum ≤ B * (w.filter fun x => decide (x ∈ hs)).length + w.length := fun B hB => by
      refine sumW_cnt (p := fun x => decide (x ∈ hs)) (fun x hx q => ?_) fun x hx q => ?_
      · have q := of_decide_eq_true q
        have tx := G.t.h x q
        rw [if_neg (by rw [tx]; decide)]
        have ex := ixH_at q
        rcases hw x hx with z | ⟨j, hj, z⟩
        · rw [G.t.t x z] at tx; cases tx
        · have := nodup_ix H.nd ex z
          have jl := (List.getElem?_eq_some_iff.mp z).1
          rw [this]
          exact hB j hj (by omega)
      · have q := of_decide_eq_false q
        rcases hw x hx with z | ⟨j, hj, z⟩
        · exact if_pos (G.t.t x z)
        · exact absurd (List.mem_of_getElem? z) q
    rcases (show i = 0 ∨ i = 1 ∨ i = 2 ∨ i = 3 by omega) with q | q | q | q <;> subst q
    · have := key 13 fun j h1 h2 => by
        rcases (show j = 1 ∨ j = 2 ∨ j = 3 by omega) with q | q | q <;> subst q <;> decide
      have k : (w.filter fun x => decide (x ∈ hs)).length ≤ 3 := cw
      have k2 : w.length ≤ 6 := lw
      have : 13 * (w.filter fun x => decide (x ∈ hs)).length ≤ 39 := by omega
      show 1 + _ + 1 ≤ 47
      omega
    · have := key 4 fun j h1 h2 => by
        rcases (show j = 2 ∨ j = 3 by omega) with q | q <;> subst q <;> decide
      have k : (w.filter fun x => decide (x ∈ hs)).length ≤ 2 := cw
      have k2 : w.length ≤ 4 := lw
      show 1 + _ + 1 ≤ 14
      omega
    · have := key 1 fun j h1 h2 => by
        have q : j = 3 := by omega
        subst q; decide
      have k : (w.filter fun x => decide (x ∈ hs)).length ≤ 1 := cw
      have k2 : w.length ≤ 2 := lw
      show 1 + _ + 1 ≤ 5
      omega
    · have := key 0 fun j h1 h2 => by omega
      have k2 : w.length ≤ 0 := lw
      show 1 + _ + 1 ≤ 2
      omega
  · show (if tok s = true then 1 else dW _) ≤ 1000
    split
    · decide
    · exact Nat.le_trans (dW_le _) (by decide)
  · show (if tok s = true then 1 else dW _) ≤ 47
    split
    · decide
    · exact dW_le _
theorem Wgt.add {h0 t0 : List Str} {W : Str → Nat} (A : Wgt h0 hs rs W) (G : Grm hs ts rs) {nm : Str} (M : NmOk nm) {host : RL} {O I X : List Str} {gs : RL} (S : Gst nm h0 t0 host O I X gs) (sh : ∀ x ∈ h0, x ∈ hs) (st : ∀ x ∈ t0, x ∈ ts) (dj : ∀ s ∈ I, s ∉ hs) : ∃ W', Wgt h0 (hs ++ I) (rs ++ gs) W' := by
  have tI : ∀ s ∈ I, tok s = false := fun s h => by
    obtain ⟨t, ht, e⟩ := S.im s h
    rw [e]; exact (mtk_of (M.t t ht).1).2
  have tO : ∀ s ∈ O ++ X, tok s = true := fun s h => by
    obtain ⟨t, ht, e⟩ := S.om s h
    rw [e]; exact (mtk_of (M.f t ht).1).2
  have nI : ∀ s, tok s = true → s ∉ I := fun s h q => by rw [tI s q] at h; cases h
  have old : ∀ s, s ∉ I → (if s ∈ I then (if I[0]? = some s then 792 else 196) else W s) = W s := fun s h => if_neg h
  refine ⟨fun s => if s ∈ I then (if I[0]? = some s then 792 else 196) else W s, fun s h => (old s (nI s h)).trans (A.t s h), fun s hh => ?_, fun s hh => ?_, fun s hh => ?_⟩
  · rcases List.mem_append.mp hh with q | q
    · obtain ⟨f, ef, wf⟩ := A.h s q
      have sI : s ∉ I := fun z => dj s z q
      refine ⟨f, by rw [fr_app, ef]; rfl, ?_⟩
      rw [old s sI]
      have em : f.map (fun s => if s ∈ I then (if I[0]? = some s then 792 else 196) else W s) = f.map W := List.map_congr_left fun x hx => old x ((((G.s _ (fr_mem ef).1).1 x hx)).elim (fun z w => dj x w z) fun z => nI x (G.t.t x z))
      rw [em]
      exact wf
    · obtain ⟨j, ej⟩ := List.mem_iff_getElem?.mp q
      obtain ⟨f, ef, hf, lf, cf⟩ := S.fw j s ej
      have jl := (List.getElem?_eq_some_iff.mp ej).1
      have il := S.i
      have nr : fr rs s = none := fr_none fun r hr e => dj s q (e ▸ G.h r hr)
      refine ⟨f, by rw [fr_app, nr]; exact ef, ?_⟩
      simp only [if_pos q]
      have wx : ∀ x, x ∈ h0 ∨ tok x = true → (if x ∈ I then (if I[0]? = some x then 792 else 196) else W x) ≤ 47 := fun x hx => by
        rw [old x (hx.elim (fun z w => dj x w (sh x z)) (nI x))]
        rcases hx with z | z
        · exact A.c x z
        · rw [A.t x z]; decide
      have key : ∀ B, (∀ x ∈ f, (if x ∈ I then (if I[0]? = some x then 792 else 196) else W x) ≤ B + 1) → (f.map (fun s => if s ∈ I then (if I[0]? = some s then 792 else 196) else W s)).sum ≤ B * (f.filter fun x => decide (x ∉ O)).length + f.length := fun B hB => by
        refine sumW_cnt (p := fun x => decide (x ∉ O)) (fun x hx _ => hB x hx) fun x hx w => ?_
        have w : x ∈ O := Classical.not_not.mp (of_decide_eq_false w)
        have tx := tO x (List.mem_append_left _ w)
        exact (old x (nI x tx)).trans (A.t x tx)
      have cf : (f.filter fun x => decide (x ∉ O)).length ≤ 4 := cf
      have tt : ∀ x, x ∈ t0 ++ (O ++ X) → tok x = true := fun x w => (List.mem_append.mp w).elim (fun z => G.t.t x (st x z)) (tO x)
      rcases (show j = 0 ∨ j = 1 by omega) with w | w <;> subst w
      · rw [if_pos ej]
        have := key 195 fun x hx => by
          rcases hf x hx with z | z | ⟨j', lj, z⟩
          · exact Nat.le_trans (wx x (.inl z)) (by decide)
          · exact Nat.le_trans (wx x (.inr (tt x z))) (by decide)
          · have n0 : ¬ I[0]? = some x := fun e => by have := nodup_ix S.nd.2 e z; omega
            rw [if_pos (List.mem_of_getElem? z), if_neg n0]
            decide
        omega
      · have n0 : ¬ I[0]? = some s := fun e => by have := nodup_ix S.nd.2 e ej; omega
        rw [if_neg n0]
        have := key 46 fun x hx => by
          rcases hf x hx with z | z | ⟨j', lj, z⟩
          · exact wx x (.inl z)
          · exact wx x (.inr (tt x z))
          · have := (List.getElem?_eq_some_iff.mp z).1; omega
        omega
  · show (if s ∈ I then (if I[0]? = some s then 792 else 196) else W s) ≤ 1000
    split
    · split <;> decide
    · exact A.b s ((List.mem_append.mp hh).resolve_right (by assumption))
  · have : s ∉ I := fun z => dj s z (sh s hh)
    show (if s ∈ I then (if I[0]? = some s then 792 else 196) else W s) ≤ 47
    rw [if_neg this]
    exact A.c s hh
theorem xs_xs : ∀ a ∈ names true, ∀ b ∈ names true, xs' "sql" a ≠ xs' "x" b := by decide +kernel
theorem dj_host {n : Nat} (H : Host n hs ts rs) {nm : Str} {h0 t0 : List Str} {host : RL} {O I X : List Str} {gs : RL} (S : Gst nm h0 t0 host O I X gs) : ∀ s ∈ I, s ∉ hs := fun s h q => by
  obtain ⟨t, ht, e⟩ := S.im s h
  have := dotT s (H.hn s q)
  rw [e] at this
  exact this (xs_dot _ _)
/-- a grammar to read by -/
structure Uni (host : RL) (h0 t0 hs ts : List Str) (rs : RL) : Prop where
  g : Grm hs ts rs
  w : ∃ W, Wgt h0 hs rs W
  l : LL1 rs
  p : ∃ q, rs = host ++ q
theorem t_union {host : RL} (H : Host 4 hs ts host) (ns : List Int) : Tt (m__law_union ns host) fun rs => ∃ h1 t1, Uni host hs ts h1 t1 rs := by
  unfold m__law_union
  have G := H.grm (by decide)
  obtain ⟨W0, A0⟩ := H.wgt G
  have hl := H.hl
  have tl := H.tl
  have ll := H.l
  have U0 : Uni host hs ts hs ts host := ⟨G, ⟨W0, A0⟩, H.llp.ll, [], (List.append_nil _).symm⟩
  refine Tt.by (t_cell (by decide)) ((t_draws (by decide)).bind fun d1 ⟨e1, b1⟩ => (t_guest H (by decide) e1 b1 nmOk_x.l).bind fun g1 ⟨O1, I1, X1, S1⟩ => ?_)
  have gl1 := S1.l
  have o1 := S1.o
  have i1 := S1.i
  have x1 := S1.x
  have G1 := G.add nmOk_x S1 (fun x h => h) (fun x h => h) (by omega) (by omega) (by omega) (by omega)
  obtain ⟨W1, A1⟩ := A0.add G nmOk_x S1 (fun x h => h) (fun x h => h) (dj_host H S1)
  refine Tt.chk (by omega) ((t_lclashes G1).bind fun c1 hc1 => Tt.if (fun e => ?_) fun e => ?_)
  · have q1 : c1 = false := by cases c1 with | false => rfl | true => cases e
    have U1 : Uni host hs ts (hs ++ I1) (ts ++ (O1 ++ X1)) (host ++ g1) := ⟨G1, ⟨W1, A1⟩, (hc1 q1).ll, g1, rfl⟩
    refine Tt.let (Tt.by (t_cell (by decide)) ((t_draws (by decide)).bind fun d2 ⟨e2, b2⟩ => (t_guest H (by decide) e2 b2 nmSql.l).bind fun g2 ⟨O2, I2, X2, S2⟩ => ?_))
    have gl2 := S2.l
    have G2 := G1.add nmSql S2 (fun x h => List.mem_append_left _ h) (fun x h => List.mem_append_left _ h) (by rw [List.length_append]; omega) (by simp only [List.length_append]; omega) (by simp only [List.length_append]; omega) (by rw [List.length_append]; omega)
    have dj2 : ∀ s ∈ I2, s ∉ hs ++ I1 := fun s h q => by
      rcases List.mem_append.mp q with z | z
      · exact dj_host H S2 s h z
      · obtain ⟨a, ha, ea⟩ := S2.im s h
        obtain ⟨b, hb, eb⟩ := S1.im s z
        exact xs_xs a ha b hb (ea.symm.trans eb)
    obtain ⟨W2, A2⟩ := A1.add G1 nmSql S2 (fun x h => List.mem_append_left _ h) (fun x h => List.mem_append_left _ h) dj2
    refine Tt.chk (by rw [List.length_append]; omega) ((t_lclashes G2).bind fun c2 hc2 => Tt.if (fun e => ?_) fun e => Tt.ret ⟨_, _, U1⟩)
    have q2 : c2 = false := by cases c2 with | false => rfl | true => cases e
    exact Tt.ret ⟨_, _, G2, ⟨W2, A2⟩, (hc2 q2).ll, g1 ++ g2, List.append_assoc _ _ _⟩
  · refine Tt.by (t_cell (by decide)) ((t_draws (by decide)).bind fun d2 ⟨e2, b2⟩ => (t_guest H (by decide) e2 b2 nmSql.l).bind fun g2 ⟨O2, I2, X2, S2⟩ => ?_)
    have gl2 := S2.l
    have o2 := S2.o
    have i2 := S2.i
    have x2 := S2.x
    have G2 := G.add nmSql S2 (fun x h => h) (fun x h => h) (by omega) (by omega) (by omega) (by omega)
    obtain ⟨W2, A2⟩ := A0.add G nmSql S2 (fun x h => h) (fun x h => h) (dj_host H S2)
    refine Tt.chk (by omega) ((t_lclashes G2).bind fun c2 hc2 => Tt.if (fun e => ?_) fun e => Tt.ret ⟨_, _, U0⟩)
    have q2 : c2 = false := by cases c2 with | false => rfl | true => cases e
    exact Tt.ret ⟨_, _, G2, ⟨W2, A2⟩, (hc2 q2).ll, g2, rfl⟩
end Gt
namespace Gt
open PySem PySem.Spec PyProof.Rows L2
theorem law_ok (ns : List Int) : m_law ns = .ok true := by
  refine Tt.eq ?_
  unfold m_law
  refine Tt.by (t_cell (by decide)) ((t_draws (by decide)).bind fun row ⟨hl, hd⟩ => (t_host (most := 4) (off := [1, 1, 1, 1, 1, 1]) hl hd (by omega) rfl).bind fun host ⟨hs, ts, H⟩ => (t_union H ns).bind fun rs ⟨h1, t1, U⟩ => ?_)
  obtain ⟨W, A⟩ := U.w
  have G := U.g
  obtain ⟨r, t, w, q, e1, e2, ht⟩ := H.f
  obtain ⟨start, side0⟩ := r
  have e2 : side0 = t :: w := e2
  subst e2
  obtain ⟨q', ep⟩ := U.p
  have e0 : rs = (start, t :: w) :: (q ++ q') := by rw [ep, e1]; rfl
  refine (t_ltable G U.l).bind fun T ⟨O, lT⟩ => Tt.oM (a := (start, t :: w)) (by rw [e0]; exact atI0') (Tt.chk (by omega) (Tt.by (a := (((), start), T)) rfl (Tt.chk (by omega) (Tt.let (Tt.oM (a := t) atI0' (Tt.chk ?_ (Tt.let ?_)))))))
  · have := len_pput (k := (start, (none : Option Str))) (v := [("zq" : Str)]) (xs := T)
    show (pput T (start, (none : Option Str)) [("zq" : Str)]).length < 100000
    omega
  refine Tt.by (mforF_all (p := fun _ => true) (r := false) fun k hk => ?_) ?_
  · have k2 := ups_mem hk
    refine Tt.eq (Tt.by (t_cell (by omega)) ((t_draws (by decide)).bind fun row2 ⟨hl2, _⟩ => (t_lrun G A e0 (by rw [hl2]; rfl)).bind fun run ⟨txt, D, bd⟩ => Tt.by (t_lwalk G e0 D bd) (Tt.by (mforF_all (p := fun _ => true) (r := false) fun j hj => ?_) ?_)))
    · refine Tt.eq (Tt.oM rfl (Tt.by (t_call G.nt U.l O (by omega) D (by omega)) ?_))
      rw [eqB_self]
      exact Tt.ret rfl
    · rw [List.all_eq_true.mpr fun _ _ => rfl]
      exact Tt.ret rfl
  · rw [List.all_eq_true.mpr fun _ _ => rfl]
    exact Tt.ret rfl
end Gt
namespace Gt
open PySem PySem.Spec PyProof.Rows L2
local macro_rules | `(tactic| walk_at "ev") => `(tactic| repeat' (first
  | ((with_reducible show Ev (rEi _ _) (tTupD _) _ _); apply ei_T) | ((with_reducible show Ev (rEi _ _) (tCB (rTupU _) _) _ _); apply ei_T)
  | ((with_reducible show Ev (rEi _ _) (tFld _ _ _) _ _); exact a_recE (by first | exact a_ro (by rfl) | exact a_noR (by rfl) | exact a_gro (by rfl) | exact a_roS (by rfl) (by assumption)) (by first | exact fldA_hd (by simp only [fA, fN]; decide) | exact fldA_tl (fldA_hd (by simp only [fA, fN]; decide)) | exact fldA_tl (fldA_tl (fldA_hd (by simp only [fA, fN]; decide))) | exact fldA_tl (fldA_tl (fldA_tl (fldA_hd (by simp only [fA, fN]; decide)))) | exact fld_hd | exact fld_tl fld_hd (by decide)) (by assumption) (by assumption) (by exact rfl))
  | ((with_reducible show Ev (rEi _ _) _ _ _); first | exact a_ro (by rfl) | exact ei_T (a_fz (by rfl)) | apply ei_L)
  | ((with_reducible show Ev _ (tBM _ "list" _ _ _) _ _); first | apply ev_index | apply ev_lcount) | ((with_reducible show Ev _ (tTM _ _ _ _) _ _); apply ev_tcount) | ((with_reducible show IdxOk _ _ _); unfold IdxOk; assumption)
  | ((with_reducible show Ev (rO _) (tVar _) _ _); first | exact a_noRs (by rfl) | exact a_nO (by rfl) | exact a_nOL (by rfl))
  | ((with_reducible show Ev _ (tVar _) _ _); first | exact a_roV (by rfl) | exact ev_unsome (a_nOL (by rfl)) (by assumption))
  | ((with_reducible show Ev _ (tInsCall _ _ _ _ _) _ _); apply a_insCall) | ((with_reducible show Ev _ (tPGet2 _ _ _ _ _ _) _ _); apply a_pget2) | ((with_reducible show Ev _ (tPGet1 _ _ _ _ _) _ _); apply a_pget1)
  | ((with_reducible show Ev (rPD _ _ _ _) (tFld _ _ _) _ _); refine a_recFpd (by first | exact a_ro (by rfl) | exact a_noR (by rfl) | exact a_roS (by rfl) (by assumption)) (by first | exact fldA_hd (by simp only [fA, fN]; decide) | exact fldA_tl (fldA_hd (by simp only [fA, fN]; decide)) | exact fldA_tl (fldA_tl (fldA_hd (by simp only [fA, fN]; decide)))) (by assumption) (by assumption) (by exact rfl) (by assumption))
  | ((with_reducible show Ev (rDm _) _ _ (Dm.s _)); apply ev_Ds) | ((with_reducible show Ev (rDm _) _ _ (Dm.r _)); apply ev_Dr) | ((with_reducible show Ev (rDm _) _ _ (Dm.b _)); apply ev_Db) | ((with_reducible show Ev (rDm _) _ _ Dm.n); exact ev_Dn0)
  | ((with_reducible show Nw (nO _ _) _ _ none); exact nw_nonO)
  | ((with_reducible show Ev (rRec _ _ _) (tMakeS _ _ _ _) _ _); apply a_nR)
  | ((with_reducible show Ev (rRec _ _ _) (tVar _) _ _); first | exact a_ro (by rfl) | exact a_noR (by rfl) | exact a_gro (by rfl))
  | ((with_reducible show Ev (rDp _) tDNewK _ _); exact ev_dp0)
  | ((with_reducible show Ev (rDp _) (tFld _ _ _) _ _); exact a_recF (by first | exact a_ro (by rfl) | exact a_roS (by rfl) (by assumption)) (by first | exact fldA_hd (by simp only [fA, fN]; decide) | exact fldA_tl (fldA_hd (by simp only [fA, fN]; decide)) | exact fldA_tl (fldA_tl (fldA_hd (by simp only [fA, fN]; decide))) | exact fldA_tl (fldA_tl (fldA_tl (fldA_hd (by simp only [fA, fN]; decide))))) bor_ndp (by assumption) (by assumption) (by exact rfl))
  | ((with_reducible show Ev (rPD _ _ _ _) (tVar _) _ _); first | exact a_ro (by rfl) | exact a_pdO (by rfl) (by assumption))
  | ((with_reducible show Ev _ (tM1 _ _ (tPGet _ _ _ _ _)) _ _); apply ev_joinT)
  | ((with_reducible show Ev _ (tPGet _ _ _ _ _) _ _); apply a_pget) | ((with_reducible show Ev _ (tPIn _ _ _ _ _) _ _); apply a_pIn) | ((with_reducible show Ev _ (tPNotIn _ _ _ _ _) _ _); apply a_pNin)
  | ((with_reducible show Ev _ (tOp (rPEq _ _ _) _ _) _ _); apply a_peq)
  | ((with_reducible show Ev _ (tFmtW _ _) _ _); refine ev_fmtW ?_ ev_spW ?_) | ((with_reducible show Ev _ (tFmt _) _ _); apply ev_fmt)
  | ((with_reducible show Ev _ _ _ (catS _ _)); refine ev_js ?_ ?_)
  | ((with_reducible show Nw (npd _ _ _ _) (tPDisp _ _ _ _) _ _); refine nw_pdisp ?_ inferInstance (Nat.le_of_ble_eq_true rfl)) | ((with_reducible show EvD _ _ _ _); first | exact evd_nil | refine evd_cons ?_ ?_ inferInstance ?_)
  | ((with_reducible show Ev (rW _ _) (tTupD _) _ _); apply a_tupW)
  | ((with_reducible show IxC _ (rW _ _) _ _ _ _ _); first | exact ixc_W wix_hd (by rfl) | exact ixc_W (wix_tl wix_hd) (by rfl) | exact ixc_W (wix_tl (wix_tl wix_hd)) (by rfl) | exact ixc_W (wix_tl (wix_tl (wix_tl wix_hd))) (by rfl) | exact ixc_W (wix_tl (wix_tl (wix_tl (wix_tl wix_hd)))) (by rfl) | exact ixc_W (wix_tl (wix_tl (wix_tl (wix_tl (wix_tl wix_hd))))) (by rfl))
  | ((with_reducible show LnC _ (rW _ _) _ _); exact lnc_W)
  | ((with_reducible show EJ _ _ _); first | exact EJ.nil | refine EJ.cons ?_ ?_)
  | ((with_reducible show pkey _ _ = some _); assumption) | ((with_reducible show PadOk _ = true); assumption) | ((with_reducible show _ ≤ 99000); assumption) | ((with_reducible show _ < 64); assumption)
  | ((with_reducible show Ev _ (tVar _) _ _); first | exact ev_lkA (a_ro (by rfl)) | exact ev_dp (a_ro (by rfl)) | exact a_roS (by rfl) (by assumption) | exact a_al (by rfl) (by rfl) (by assumption) | exact a_alF (i := 0) (by rfl) (by rfl) (by first | exact fat_hd | exact fat_tl fat_hd | exact fat_tl (fat_tl fat_hd) | exact fat_tl (fat_tl (fat_tl fat_hd))) (by exact rfl) | exact a_fz (by rfl) | exact a_lst (by rfl) | exact a_nlA (by rfl) | exact a_nlR (by rfl) | exact a_H3 (by rfl) | exact a_ro (by rfl) | exact a_one (by rfl) | exact a_dct (by rfl) | exact a_lkd (by rfl) | exact a_roA (by rfl) | exact a_oneA (by rfl) | exact a_noR (by rfl) | exact a_some (by rfl) (by assumption) | exact a_alias (i := 0) (by rfl) (by rfl) | exact a_alias (i := 1) (by rfl) (by rfl) | exact a_alias (i := 2) (by rfl) (by rfl) | exact a_alias (i := 3) (by rfl) (by rfl) | exact a_alias (i := 4) (by rfl) (by rfl) | exact a_alias (i := 5) (by rfl) (by rfl) | exact a_alias (i := 6) (by rfl) (by rfl))
  | ((with_reducible show Ev _ (tC _) _ _); first | with_reducible exact ev_int | exact ev_cls | (with_reducible refine ev_str ?_; decide +kernel) | with_reducible exact ev_bl | with_reducible exact ev_non)
  | ((with_reducible show Ev (rO _) (tOp (rIx _) _ _) _ (Option.some _)); apply Ev.some)
  | ((with_reducible show Ev (rO _) (tC _) _ (Option.some _)); apply Ev.some)
  | ((with_reducible show Ev (rO _) (tVar _) _ (Option.some _)); first | exact a_fz (by rfl) | exact a_noRs (by rfl) | apply Ev.some)
  | ((with_reducible show Ev _ (tOp _ _ _) _ _); with_reducible first
    | apply ev_add | apply ev_sub | apply ev_mul | apply ev_mulS | apply ev_div | apply ev_mod | apply ev_pow | apply ev_lt | apply ev_le | apply ev_gt | apply ev_ge
    | apply a_eq | apply a_ne | apply a_in | apply a_nin | apply a_inSg | apply a_ninSg | apply a_ix | apply ev_addS | apply a_isN | apply a_notN | apply a_eqD | apply a_neD | apply a_inLD | apply a_ninLD | apply a_inTD | apply a_ninTD | apply ev_catT | apply a_isB | apply a_ltS | apply a_cmpOM | apply a_cmpO | apply a_nl)
  | ((with_reducible show Ev _ (tFld _ _ _) _ _); first | exact a_recF (by first | exact a_ro (by rfl) | exact a_noR (by rfl) | exact a_gro (by rfl) | exact a_roS (by rfl) (by assumption)) (by first | exact fldA_hd (by simp only [fA, fN]; decide) | exact fldA_tl (fldA_hd (by simp only [fA, fN]; decide)) | exact fldA_tl (fldA_tl (fldA_hd (by simp only [fA, fN]; decide))) | exact fldA_tl (fldA_tl (fldA_tl (fldA_hd (by simp only [fA, fN]; decide)))) | exact fld_hd | exact fld_tl fld_hd (by decide)) inferInstance (by assumption) (by assumption) (by exact rfl) | with_reducible apply a_oneF | with_reducible apply a_recF)
  | ((with_reducible show FldAt _ _ _ _); first | exact fldA_hd (by simp only [fA, fN]; decide) | exact fldA_tl (fldA_hd (by simp only [fA, fN]; decide)) | exact fldA_tl (fldA_tl (fldA_hd (by simp only [fA, fN]; decide))) | exact fldA_tl (fldA_tl (fldA_tl (fldA_hd (by simp only [fA, fN]; decide)))) | exact fld_hd | exact fld_tl fld_hd (by decide) | exact fld_tl (fld_tl fld_hd (by decide)) (by decide))
  | ((with_reducible show Ev _ (tXf _ _ _ _ _ _) _ _); first | exact a_xfS (by rfl) (by unfold PayS; assumption) | exact a_xfO (by rfl) (by unfold PayO; assumption) | exact a_xfI (by rfl) (by unfold PayI; assumption) | exact a_xfR (by rfl) (by unfold PayR; assumption))
  | ((with_reducible show Ev _ (tCB (rIsX _ _ _ _) _) _ _); exact a_isX (by rfl) (by assumption))
  | ((with_reducible show EvA (aRest _) _ _ _); refine ea_rest ?_ (Nat.le_of_ble_eq_true rfl))
  | ((with_reducible show Ev _ (tCB (rIsi _) (tCons _ (tCons (tC (.ref _)) tNil))) _ _); apply a_isiC) | ((with_reducible show InsK _ _); assumption) | ((with_reducible show PySem.W.kitOne _ _ _ = some _); assumption)
  | ((with_reducible show Ev _ (tCB (rIsi _) _) _ (!isNone' _)); apply a_isiO)
  | ((with_reducible show Ev _ (tProp _ _ _ _ _) _ _); apply a_prop) | ((with_reducible show Ev _ (tCB (rStrO _ _) _) _ _); apply a_strO)
  | ((with_reducible show Ev _ (tCB _ _) _ _); with_reducible first | apply a_len | apply a_strS | apply a_int | apply ev_all | apply ev_any | apply ev_sum | apply a_tupC | apply a_isi | apply a_nl)
  | ((with_reducible show Ev _ _ _ _); with_reducible first
    | apply ev_chain_le | apply ev_chain_lelt | apply ev_neg | apply ev_and | apply ev_or | apply ev_not | apply ev_if
    | apply a_callM | apply a_callX | apply a_call | apply ev_upper | apply ev_partition | apply ev_rpartition | apply ev_join | apply ev_joinT | apply ev_ljust | apply ev_slS | apply ev_slT | apply a_pair | apply a_tup | apply a_dIn | apply a_dNin | exact ev_Z | apply a_dget2 | apply a_dget | apply ev_mthX | apply a_mthM | apply a_mth | apply a_nl | apply a_no | apply a_nd)
  | ((with_reducible show EvT _ _ _); with_reducible first | apply et_test | apply et_B | apply et_not | apply et_and | apply et_or | apply a_tru | exact et_yes)
  | ((with_reducible show EvA _ _ _ _); with_reducible first | exact ea_nil | exact el_nil | apply a_cons | apply a_el | apply a_starT | apply ea_argK2 | apply ea_argN2 | apply ea_argN1 | apply ea_argNO)
  | ((with_reducible show EvO _ _ _); with_reducible first | exact eo_none | apply eo_some)
  | ((with_reducible show Nw _ _ _ _); with_reducible first | exact nw_pnew | apply nw_listRev | apply nw_revL | apply a_srtL | apply a_srt | apply a_ncallM | apply a_ncall | apply a_lstD | apply a_list | apply a_slL | apply a_cat | apply nw_split | apply nw_oneL | apply nw_recL | apply nw_mkOM | apply nw_mkOM0 | apply nw_mkV | apply nw_cm | apply nw_mkR | apply nw_mkI | apply nw_mkO | apply nw_binOM | apply nw_binO | apply nw_mthX | apply nw_mthM | apply nw_mth | exact nw_dnew | exact nw_nilR | exact nw_dnewR | apply nw_H3)
  | ((with_reducible show _ < 4096); first | assumption | omega)
  | ((with_reducible show MOk _ _ _); unfold MOk; assumption)
  | ((with_reducible show kitB _ _ = some _); decide +kernel)
  | ((with_reducible show SgOk _ _); unfold SgOk; first | assumption | exact rfl)
  | ((with_reducible show AppEq _ _ _); unfold AppEq; first | (dsimp only; exact rfl) | dsimp only | exact rfl)
  | ((with_reducible show PreOk _ _); unfold PreOk; dsimp only; first | done | exact trivial | omega | assumption | (constructor <;> first | omega | assumption))
  | ((with_reducible show IxC _ _ _ _ _ _ _); first | with_reducible exact ixc_0 | with_reducible exact ixc_1 | with_reducible exact ixc_h0 | with_reducible exact ixc_h1 | with_reducible exact ixc_h2 | exact ixc_O0 (by assumption) | exact ixc_O1 (by assumption) | with_reducible apply ixc_L | with_reducible apply ixc_Q | with_reducible apply ixc_T | with_reducible apply ixc_Y | with_reducible apply ixc_S | with_reducible apply ixc_E)
  | ((with_reducible show LnC _ _ _ _); first | exact lnc_O (by assumption) lnc_P | with_reducible exact lnc_E | with_reducible first | exact lnc_L | exact lnc_T | exact lnc_Q | exact lnc_P | exact lnc_S)
  | ((with_reducible show IntC _ _ _); with_reducible first | exact intc_I | exact intc_B)
  | ((with_reducible show TrC _ _ _ _); with_reducible first | exact trc_L | exact trc_T | exact trc_I | exact trc_S)
  | ((with_reducible show EqC _ _ _ _); with_reducible first | exact eqc_I | exact eqc_S | exact eqc_B | exact eqc_O)
  | ((with_reducible show okS _); assumption)
  | ((with_reducible show (_ = true → _)); intro _) | ((with_reducible show (_ = false → _)); intro _)
  | ((with_reducible show CMul _ _); first | assumption | exact .inr (by decide) | exact .inl (by decide) | exact .inr (by assumption) | exact .inl (by assumption) | exact .inr (b2_small _))
  | ((with_reducible show CDiv _ _); first | assumption | exact ⟨by decide, by decide⟩) | ((with_reducible show CPow _ _); exact ⟨by decide, by decide, by decide⟩)
  | ((with_reducible show (0 : Int) < _); first | assumption | decide | omega) | ((with_reducible show _ ≤ 100000); first | omega | assumption | (simp only [List.length_append, List.length_cons, List.length_nil, List.length_map]; omega) | decide +kernel) | ((with_reducible show _ ≤ 16777216); assumption) | ((with_reducible show _ ≤ 1000); first | assumption | omega) | ((with_reducible show _ ≤ 50); assumption) | ((with_reducible show _ ∧ _); assumption) | ((with_reducible show _ ∉ _); first | decide | (simp only [fA, fN]; decide))
  | ((with_reducible show ∀ _ ∈ _, okS _); assumption) | ((with_reducible show _ = false); assumption)
  | ((with_reducible show dkey _ _ = some _); assumption) | ((with_reducible show atI _ _ = some _); assumption) | ((with_reducible show atI (_ :: _) _ = some _); exact rfl)
  | ((with_reducible show ((Str.length _ == 0) = false)); exact rfl)
  | ((with_reducible show DatC _ _); exact datC_of (by decide))
  | ((with_reducible show InsR _ _ _ _); first | with_reducible exact one_ins | with_reducible exact rec_ins1 | exact rec_ins | assumption)
  | ((with_reducible show NilT _ _); assumption)
  | ((with_reducible show Cls _ _); assumption) | ((with_reducible show NoAttr _ _ _); assumption)
  | infer_instance | with_reducible exact rfl | exact dot_eq | with_reducible exact trivial))
abbrev n_advance : List Str := ["stack", "table", "token", "run", "rest", "sign", "side"]
abbrev p_advance : List Str := ["stack", "table", "token"]
theorem sc_advance : FnScope n_advance p_advance (defScope s_advance) := ⟨rfl, rfl, rfl, by decide +kernel, rfl, by decide +kernel, by decide +kernel⟩
abbrev sp_advance (P : Program) (w : World) (K : PySem.W.Frag) : Sp := spMN (aC (rT K rS) (aC (rPD P w K (rT K rS)) (aC rS aN))) (nTL K (nl K (rP K rS (rT K rS))) (aC (rO (rT K rS)) aN)) fun a => m_advance a.1 a.2.1 a.2.2.1
theorem c_advance {P : Program} {w : World} {K : PySem.W.Frag} {mg : Str → Option Value} {base : Heap} (F : Df K mg "advance" s_advance) (B_tuple : mg "tuple" = none) : Cal P w K mg base CX0 "advance" 1 p_advance (sp_advance P w K) := by
  refine cal_of F sc_advance (fun vs H Q E ⟨a, b, h, _⟩ => LenA.len h) (fun _ _ _ _ _ _ us hl => match us, hl with | [_, _, _], _ => rfl) fun cdv f A outer s H vs Q E hr h => ?_
  have sc := sc_advance
  refine ⟨_, (pss_cons (ps_set (i := 3) sc.nd rfl (Or.inl rfl) (pe_lst pa_nil))
      (pss_cons (ps_set (i := 4) sc.nd rfl (Or.inl rfl) (pe_callTy (k_tuple K) (by rfl) B_tuple (by decide +kernel) (pa_cons (pv 0) pa_nil)))
      (pss_cons (ps_while PassesOwn.never (pt_tru K (pv 4))
      (pss_cons (ps_set (i := 5) sc.nd rfl (Or.inl rfl) (pe_ix (k_ix K) (pv 4) pe_int (fun _ _ => rfl)))
      (pss_cons (ps_if (pt_cmpR op_eq (pv 5) (pv 2) (nomark _))
      (pss_one (ps_ret (pe_tupD (pa_cons (pv 3) (pa_cons (pe_slice (k_slA K) (pv 4) (po_some pe_int) po_none) pa_nil))))) pss_nil)
      (pss_cons (ps_set (i := 6) sc.nd rfl (Or.inl rfl) (pe_pget2K P w K (Nat.lt_of_le_of_lt (Nat.add_le_add_left (by decide) _) hr.un) (pv 1) (pe_tupD (pa_cons (pv 5) (pa_cons (pv 2) pa_nil))) (pe_pget1K P w K (Nat.lt_of_le_of_lt (Nat.add_le_add_left (by decide) _) hr.un) (pv 1) (pe_tupD (pa_cons (pv 5) (pa_cons pe_non pa_nil))) ⟨rfl, rfl, rfl, rfl⟩) ⟨rfl, rfl, rfl, rfl⟩))
      (pss_cons (ps_if (pt_cmpR op_isN (pv 6) pe_non (nomark _))
      (pss_one (ps_ret (pe_tupD (pa_cons (pv 3) (pa_cons pe_non pa_nil))))) pss_nil)
      (pss_cons (ps_expr (pe_app K (pv 3) (pa_cons (pe_tupD (pa_cons (pv 5) (pa_cons (pv 6) pa_nil))) pa_nil)))
      (pss_one (ps_set (i := 4) sc.nd rfl (Or.inl rfl) (pe_op (k_catA K) (pv 6) (pe_slice (k_slA K) (pv 4) (po_some pe_int) po_none))))))))))
      (pss_one (ps_ret (pe_tupD (pa_cons (pv 3) (pa_cons pe_non pa_nil)))))))), ?_⟩
  obtain ⟨⟨stack1, table2, token3, _⟩, r0, ⟨v_stack1, _, rfl, w_stack1, ⟨v_table2, _, rfl, w_table2, ⟨v_token3, _, rfl, w_token3, rfl⟩⟩⟩, h, k⟩ := h
  have hD : RtOk (nTL K (nl K (rP K rS (rT K rS))) (aC (rO (rT K rS)) aN)) H r0 { nx := fun _ H' => Q .non H', rt := Q } := fun v H' ⟨as, s, n, z⟩ => k v H' as s n z
  refine Sv.run (K := K) (G := ([fc (rT K rS) stack1, rc (rPD P w K (rT K rS)) table2, fc rS token3, none, none, none, none] : Cells K)) ?_ (.fz w_stack1 (.ro w_table2 (.fz w_token3 (.skip (.skip (.skip (.skip .nil)))))))
  have h : m_advance stack1 table2 token3 = .ok r0 := h
  unfold m_advance at h
  obtain ⟨run4, e_run4, h⟩ := mb_ok h; have e_run4 := ok_inj e_run4
  refine q_asg (R := (nl K (rP K rS (rT K rS)))) (b := ([] : (List (Str × (List Str))))) (b' := run4) ?_ e_run4 ?_
  · walk_at "ev"
  obtain ⟨rest5, e_rest5, h⟩ := mb_ok h; have e_rest5 := ok_inj e_rest5
  refine q_set (r := (rT K rS)) (b := stack1) (b' := rest5) ?_ e_rest5 ?_
  · walk_at "ev"
  obtain ⟨o8, hm, h⟩ := mb_ok h
  refine q_whileF (R := (nTL K (nl K (rP K rS (rT K rS))) (aC (rO (rT K rS)) aN))) (c := (fun (s6 : ((List (Str × (List Str))) × (List Str))) => .ok (!s6.2.isEmpty))) (f := (fun (s6 : ((List (Str × (List Str))) × (List Str))) => mb (oM (atI s6.2 (0 : Int))) fun t9 => bif (decide (t9 = token3)) then .ok (.rt (s6.1, some (cut s6.2 (some (1 : Int)) none), ())) else mb (.ok ((pkey table2 (t9, some token3)).or (pkey table2 (t9, (none : (Option Str)))))) fun side10 => bif (isNone' side10) then .ok (.rt (s6.1, (none : (Option (List Str))), ())) else mb (oM side10) fun z11 => mb (chk (decide (s6.1.length < 100000))) fun _ => mb (.ok (s6.1 ++ [(t9, z11)])) fun run13 => mb (chk (decide (z11.length + (cut s6.2 (some (1 : Int)) none).length ≤ 100000))) fun _ => mb (.ok (z11 ++ (cut s6.2 (some (1 : Int)) none))) fun rest15 => .ok (.nx (run13, rest15)))) (s0 := (run4, rest5)) (o := o8) (fun (s6 : ((List (Str × (List Str))) × (List Str))) => ([fc (rT K rS) stack1, rc (rPD P w K (rT K rS)) table2, fc rS token3, some (.ow (nl K (rP K rS (rT K rS))) s6.1), fc (rT K rS) s6.2, none, none] : Cells K)) hm (.keep (.keep (.keep (.keep (.keep (.keep (.keep .nil))))))) (fun s6 e => ?_) (fun x e => ?_) (fun s6 _ e => ?_) (fun H0' D' e0 s6 o' h hD => ?_)
  · subst e; have h := go_nx h
    cases h
    refine l_retTL (fun v H' as s n z => hD v H' ⟨as, s, n, z⟩) (by rfl) ?_ inferInstance inferInstance (by decide)
    refine a_cons ?_ inferInstance ?_
    · walk_at "ev"
    exact ea_nil
  · subst e; have h := go_rt h; cases h; exact hD
  · cases e
    walk_at "ev"
  · obtain ⟨t9, e_t9, h⟩ := mb_ok h; have e_t9 := oM_ok e_t9
    refine q_set (r := rS) (b := t9) (b' := t9) ?_ rfl ?_
    · walk_at "ev"
    refine q_if (c := (decide (t9 = token3))) ?_ ?_ ?_
    · walk_at "ev"
    · intro hc; have h := bif_t h hc
      cases h
      refine l_retTL (fun v H' as s n z => hD v H' ⟨as, s, n, z⟩) (by rfl) ?_ inferInstance inferInstance (by decide)
      refine a_cons ?_ inferInstance ?_
      · refine Ev.some ?_
        walk_at "ev"
      exact ea_nil
    · intro hc; have h := bif_f h hc
      refine q_next ?_
      obtain ⟨side10, e_side10, h⟩ := mb_ok h; have e_side10 := ok_inj e_side10
      refine q_set (r := (rO (rT K rS))) (b := (pkey table2 (t9, some token3)).or (pkey table2 (t9, (none : (Option Str))))) (b' := side10) ?_ e_side10 ?_
      · walk_at "ev"
      refine q_if (c := (isNone' side10)) ?_ ?_ ?_
      · walk_at "ev"
      · intro hc; have h := bif_t h hc
        cases h
        refine l_retTL (fun v H' as s n z => hD v H' ⟨as, s, n, z⟩) (by rfl) ?_ inferInstance inferInstance (by decide)
        refine a_cons ?_ inferInstance ?_
        · walk_at "ev"
        exact ea_nil
      · intro hc; have h := bif_f h hc
        refine q_next ?_
        obtain ⟨z11, e_z11, h⟩ := mb_ok h; have e_z11 := oM_ok e_z11
        obtain ⟨_, e_u12, h⟩ := mb_ok h; have e_u12 := of_decide_eq_true (chk_ok e_u12)
        obtain ⟨run13, e_run13, h⟩ := mb_ok h; have e_run13 := ok_inj e_run13
        refine q_app (x := (t9, z11)) (xs := s6.1) (by rfl) (x' := (t9, z11)) ?_ rfl (by assumption) ?_
        · walk_at "ev"
        rw [e_run13]
        obtain ⟨_, e_u14, h⟩ := mb_ok h; have e_u14 := of_decide_eq_true (chk_ok e_u14)
        obtain ⟨rest15, e_rest15, h⟩ := mb_ok h; have e_rest15 := ok_inj e_rest15
        refine l_set (r := (rT K rS)) (b := z11 ++ (cut s6.2 (some (1 : Int)) none)) (b' := rest15) ?_ e_rest15 ?_
        · walk_at "ev"
        cases h
        exact fun σ H hv => hD σ H (hv.less (.keep (.keep (.keep (.keep (.keep (.drop (.drop .nil))))))))
abbrev n_finish : List Str := ["stack", "table", "run", "rest", "sign"]
abbrev p_finish : List Str := ["stack", "table"]
theorem sc_finish : FnScope n_finish p_finish (defScope s_finish) := ⟨rfl, rfl, rfl, by decide +kernel, rfl, by decide +kernel, by decide +kernel⟩
abbrev sp_finish (P : Program) (w : World) (K : PySem.W.Frag) : Sp := spMN (aC (rT K rS) (aC (rPD P w K (rT K rS)) aN)) (nO K (nl K (rP K rS (rT K rS)))) fun a => m_finish a.1 a.2.1
theorem c_finish {P : Program} {w : World} {K : PySem.W.Frag} {mg : Str → Option Value} {base : Heap} (F : Df K mg "finish" s_finish) (B_tuple : mg "tuple" = none) : Cal P w K mg base CX0 "finish" 1 p_finish (sp_finish P w K) := by
  refine cal_of F sc_finish (fun vs H Q E ⟨a, b, h, _⟩ => LenA.len h) (fun _ _ _ _ _ _ us hl => match us, hl with | [_, _], _ => rfl) fun cdv f A outer s H vs Q E hr h => ?_
  have sc := sc_finish
  refine ⟨_, (pss_cons (ps_set (i := 2) sc.nd rfl (Or.inl rfl) (pe_lst pa_nil))
      (pss_cons (ps_set (i := 3) sc.nd rfl (Or.inl rfl) (pe_callTy (k_tuple K) (by rfl) B_tuple (by decide +kernel) (pa_cons (pv 0) pa_nil)))
      (pss_cons (ps_while PassesOwn.never (pt_tru K (pv 3))
      (pss_cons (ps_set (i := 4) sc.nd rfl (Or.inl rfl) (pe_ix (k_ix K) (pv 3) pe_int (fun _ _ => rfl)))
      (pss_cons (ps_if (pt_cmp (pc_pnotinK P w K (Nat.lt_of_le_of_lt (Nat.add_le_add_left (by decide) _) hr.un) (pe_tupD (pa_cons (pv 4) (pa_cons pe_non pa_nil))) (pv 1)) rfl)
      (pss_one (ps_ret pe_non)) pss_nil)
      (pss_cons (ps_expr (pe_app K (pv 2) (pa_cons (pe_tupD (pa_cons (pv 4) (pa_cons (pe_pgetK P w K (Nat.lt_of_le_of_lt (Nat.add_le_add_left (by decide) _) hr.un) (pv 1) (pe_tupD (pa_cons (pv 4) (pa_cons pe_non pa_nil))) (fun _ _ => rfl)) pa_nil))) pa_nil)))
      (pss_one (ps_set (i := 3) sc.nd rfl (Or.inl rfl) (pe_op (k_catA K) (pe_pgetK P w K (Nat.lt_of_le_of_lt (Nat.add_le_add_left (by decide) _) hr.un) (pv 1) (pe_tupD (pa_cons (pv 4) (pa_cons pe_non pa_nil))) (fun _ _ => rfl)) (pe_slice (k_slA K) (pv 3) (po_some pe_int) po_none))))))))
      (pss_one (ps_ret (pv 2)))))), ?_⟩
  obtain ⟨⟨stack1, table2, _⟩, r0, ⟨v_stack1, _, rfl, w_stack1, ⟨v_table2, _, rfl, w_table2, rfl⟩⟩, h, k⟩ := h
  have hD : RtOk (nO K (nl K (rP K rS (rT K rS)))) H r0 { nx := fun _ H' => Q .non H', rt := Q } := fun v H' ⟨as, s, n, z⟩ => k v H' as s n z
  refine Sv.run (K := K) (G := ([fc (rT K rS) stack1, rc (rPD P w K (rT K rS)) table2, none, none, none] : Cells K)) ?_ (.fz w_stack1 (.ro w_table2 (.skip (.skip (.skip .nil)))))
  have h : m_finish stack1 table2 = .ok r0 := h
  unfold m_finish at h
  obtain ⟨run3, e_run3, h⟩ := mb_ok h; have e_run3 := ok_inj e_run3
  refine q_asg (R := (nl K (rP K rS (rT K rS)))) (b := ([] : (List (Str × (List Str))))) (b' := run3) ?_ e_run3 ?_
  · walk_at "ev"
  obtain ⟨rest4, e_rest4, h⟩ := mb_ok h; have e_rest4 := ok_inj e_rest4
  refine q_set (r := (rT K rS)) (b := stack1) (b' := rest4) ?_ e_rest4 ?_
  · walk_at "ev"
  obtain ⟨o7, hm, h⟩ := mb_ok h
  refine q_whileF (R := (nO K (nl K (rP K rS (rT K rS))))) (c := (fun (s5 : ((List (Str × (List Str))) × (List Str))) => .ok (!s5.2.isEmpty))) (f := (fun (s5 : ((List (Str × (List Str))) × (List Str))) => mb (oM (atI s5.2 (0 : Int))) fun t8 => bif (!((pkey table2 (t8, (none : (Option Str)))).isSome)) then .ok (.rt (none : (Option (List (Str × (List Str)))))) else mb (oM (pkey table2 (t8, (none : (Option Str))))) fun t9 => mb (chk (decide (s5.1.length < 100000))) fun _ => mb (.ok (s5.1 ++ [(t8, t9)])) fun run11 => mb (chk (decide (t9.length + (cut s5.2 (some (1 : Int)) none).length ≤ 100000))) fun _ => mb (.ok (t9 ++ (cut s5.2 (some (1 : Int)) none))) fun rest13 => .ok (.nx (run11, rest13)))) (s0 := (run3, rest4)) (o := o7) (fun (s5 : ((List (Str × (List Str))) × (List Str))) => ([fc (rT K rS) stack1, rc (rPD P w K (rT K rS)) table2, some (.ow (nl K (rP K rS (rT K rS))) s5.1), fc (rT K rS) s5.2, none] : Cells K)) hm (.keep (.keep (.keep (.keep (.keep .nil))))) (fun s5 e => ?_) (fun x e => ?_) (fun s5 _ e => ?_) (fun H0' D' e0 s5 o' h hD => ?_)
  · subst e; have h := go_nx h
    cases h
    exact r_retO (i := 2) (rt_some hD) (by rfl)
  · subst e; have h := go_rt h; cases h; exact hD
  · cases e
    walk_at "ev"
  · obtain ⟨t8, e_t8, h⟩ := mb_ok h; have e_t8 := oM_ok e_t8
    refine q_set (r := rS) (b := t8) (b' := t8) ?_ rfl ?_
    · walk_at "ev"
    refine q_if (c := (!((pkey table2 (t8, (none : (Option Str)))).isSome))) ?_ ?_ ?_
    · walk_at "ev"
    · intro hc; have h := bif_t h hc
      cases h
      exact r_retN hD nw_nonO
    · intro hc; have h := bif_f h hc
      refine q_next ?_
      obtain ⟨t9, e_t9, h⟩ := mb_ok h; have e_t9 := oM_ok e_t9
      obtain ⟨_, e_u10, h⟩ := mb_ok h; have e_u10 := of_decide_eq_true (chk_ok e_u10)
      obtain ⟨run11, e_run11, h⟩ := mb_ok h; have e_run11 := ok_inj e_run11
      refine q_app (x := (t8, t9)) (xs := s5.1) (by rfl) (x' := (t8, t9)) ?_ rfl (by assumption) ?_
      · walk_at "ev"
      rw [e_run11]
      obtain ⟨_, e_u12, h⟩ := mb_ok h; have e_u12 := of_decide_eq_true (chk_ok e_u12)
      obtain ⟨rest13, e_rest13, h⟩ := mb_ok h; have e_rest13 := ok_inj e_rest13
      refine l_set (r := (rT K rS)) (b := t9 ++ (cut s5.2 (some (1 : Int)) none)) (b' := rest13) ?_ e_rest13 ?_
      · walk_at "ev"
      cases h
      exact fun σ H hv => hD σ H (hv.less (.keep (.keep (.keep (.keep (.drop .nil))))))
abbrev n_read : List Str := ["start", "table", "text", "run", "stack", "index", "taken", "rest"]
abbrev p_read : List Str := ["start", "table", "text"]
theorem sc_read : FnScope n_read p_read (defScope s_read) := ⟨rfl, rfl, rfl, by decide +kernel, rfl, by decide +kernel, by decide +kernel⟩
abbrev sp_read (P : Program) (w : World) (K : PySem.W.Frag) : Sp := spMN (aC rS (aC (rPD P w K (rT K rS)) (aC (rT K rS) aN))) (nTL K (nl K (rP K rS (rT K rS))) (aC rI (aC (rT K rS) aN))) fun a => m_read a.1 a.2.1 a.2.2.1
theorem c_read {P : Program} {w : World} {K : PySem.W.Frag} {mg : Str → Option Value} {base : Heap} (F : Df K mg "read" s_read) (B_len : mg "len" = none) (B_range : mg "range" = none) (C_advance : Cal P w K mg base CX0 "advance" 1 p_advance (sp_advance P w K)) : Cal P w K mg base CX0 "read" 2 p_read (sp_read P w K) := by
  refine cal_of F sc_read (fun vs H Q E ⟨a, b, h, _⟩ => LenA.len h) (fun _ _ _ _ _ _ us hl => match us, hl with | [_, _, _], _ => rfl) fun cdv f A outer s H vs Q E hr h => ?_
  have sc := sc_read
  refine ⟨_, (pss_cons (ps_set (i := 3) sc.nd rfl (Or.inl rfl) (pe_lst pa_nil))
      (pss_cons (ps_set (i := 4) sc.nd rfl (Or.inl rfl) (pe_tupD (pa_cons (pv 0) pa_nil)))
      (pss_cons (ps_for PassesOwn.never rfl (pi_range1 (by rfl) B_range (pa_cons (pe_callB (k_len K) (by rfl) B_len PySem.boot_len (pa_cons (pv 2) pa_nil)) pa_nil)) (pg_name (i := 5) sc.nd rfl (Or.inl rfl))
      (pss_cons (ps_asg (pe_fn C_advance (hr.mono (by decide)) (pa_cons (pv 4) (pa_cons (pv 1) (pa_cons (pe_ix (k_ix K) (pv 2) (pv 5) (fun _ _ => rfl)) pa_nil)))) (pg_tupK K rfl (pgs_cons (pg_name (i := 6) sc.nd rfl (Or.inl rfl)) (pgs_cons (pg_name (i := 7) sc.nd rfl (Or.inl rfl)) pgs_nil))))
      (pss_cons (ps_if (pt_cmpR op_isN (pv 7) pe_non (nomark _))
      (pss_one (ps_ret (pe_tupD (pa_cons (pv 3) (pa_cons (pv 5) (pa_cons (pv 4) pa_nil)))))) pss_nil)
      (pss_cons (ps_set (i := 3) sc.nd rfl (Or.inl rfl) (pe_op op_cat (pv 3) (pv 6)))
      (pss_one (ps_set (i := 4) sc.nd rfl (Or.inl rfl) (pv 7)))))))
      (pss_one (ps_ret (pe_tupD (pa_cons (pv 3) (pa_cons (pe_callB (k_len K) (by rfl) B_len PySem.boot_len (pa_cons (pv 2) pa_nil)) (pa_cons (pv 4) pa_nil))))))))), ?_⟩
  obtain ⟨⟨start1, table2, text3, _⟩, r0, ⟨v_start1, _, rfl, w_start1, ⟨v_table2, _, rfl, w_table2, ⟨v_text3, _, rfl, w_text3, rfl⟩⟩⟩, h, k⟩ := h
  have hD : RtOk (nTL K (nl K (rP K rS (rT K rS))) (aC rI (aC (rT K rS) aN))) H r0 { nx := fun _ H' => Q .non H', rt := Q } := fun v H' ⟨as, s, n, z⟩ => k v H' as s n z
  refine Sv.run (K := K) (G := ([fc rS start1, rc (rPD P w K (rT K rS)) table2, fc (rT K rS) text3, none, none, none, none, none] : Cells K)) ?_ (.fz w_start1 (.ro w_table2 (.fz w_text3 (.skip (.skip (.skip (.skip (.skip .nil))))))))
  have h : m_read start1 table2 text3 = .ok r0 := h
  unfold m_read at h
  obtain ⟨run4, e_run4, h⟩ := mb_ok h; have e_run4 := ok_inj e_run4
  refine q_asg (R := (nl K (rP K rS (rT K rS)))) (b := ([] : (List (Str × (List Str))))) (b' := run4) ?_ e_run4 ?_
  · walk_at "ev"
  obtain ⟨stack5, e_stack5, h⟩ := mb_ok h; have e_stack5 := ok_inj e_stack5
  refine q_set (r := (rT K rS)) (b := [start1]) (b' := stack5) ?_ e_stack5 ?_
  · walk_at "ev"
  obtain ⟨_, e_u6, h⟩ := mb_ok h; have e_u6 := of_decide_eq_true (chk_ok e_u6)
  obtain ⟨o9, hm, h⟩ := mb_ok h
  refine q_forF (G' := ([fc rS start1, rc (rPD P w K (rT K rS)) table2, fc (rT K rS) text3, some (.ow (nl K (rP K rS (rT K rS))) run4), fc (rT K rS) stack5, none, none, none] : Cells K)) (r := rI) (R := (nTL K (nl K (rP K rS (rT K rS))) (aC rI (aC (rT K rS) aN)))) (f := (fun (s7 : ((List (Str × (List Str))) × (List Str))) (x8 : Int) => mb (oM (atI text3 x8)) fun t10 => mb (m_advance s7.2 table2 t10) fun t11 => bif (isNone' t11.2.1) then .ok (.rt (s7.1, x8, s7.2, ())) else mb (chk (decide (s7.1.length + t11.1.length ≤ 100000))) fun _ => mb (.ok (s7.1 ++ t11.1)) fun run13 => mb (oM t11.2.1) fun z14 => .ok (.nx (run13, z14)))) (s0 := (run4, stack5)) (o := o9) (fun (s7 : ((List (Str × (List Str))) × (List Str))) => ([fc rS start1, rc (rPD P w K (rT K rS)) table2, fc (rT K rS) text3, some (.ow (nl K (rP K rS (rT K rS))) s7.1), fc (rT K rS) s7.2, none, none, none] : Cells K)) hm ?_ (.keep (.keep (.keep (.keep (.keep (.keep (.keep (.keep .nil)))))))) (fun s7 e => ?_) (fun x e => ?_) (fun H0' D' e0 x8 s7 o' h hD => ⟨_, tg_name, ?_⟩)
  · refine wk_rng1 ?_ ?_
    · walk_at "ev"
    · first | assumption | omega
  · subst e; have h := go_nx h
    cases h
    refine l_retTL (fun v H' as s n z => hD v H' ⟨as, s, n, z⟩) (by rfl) ?_ inferInstance inferInstance (by decide)
    refine a_cons ?_ inferInstance ?_
    · walk_at "ev"
    refine a_cons ?_ inferInstance ?_
    · walk_at "ev"
    exact ea_nil
  · subst e; have h := go_rt h; cases h; exact hD
  · obtain ⟨t10, e_t10, h⟩ := mb_ok h; have e_t10 := oM_ok e_t10
    obtain ⟨t11, e_t11, h⟩ := mb_ok h
    refine q_asgTL (R := (nl K (rP K rS (rT K rS)))) (A := (aC (rO (rT K rS)) aN)) (p := t11) ?_ inferInstance (tga_cons tg_name tga_nil) ?_
    · walk_at "ev"
    refine q_if (c := (isNone' t11.2.1)) ?_ ?_ ?_
    · walk_at "ev"
    · intro hc; have h := bif_t h hc
      cases h
      refine l_retTL (fun v H' as s n z => hD v H' ⟨as, s, n, z⟩) (by rfl) ?_ inferInstance inferInstance (by decide)
      refine a_cons ?_ inferInstance ?_
      · walk_at "ev"
      refine a_cons ?_ inferInstance ?_
      · walk_at "ev"
      exact ea_nil
    · intro hc; have h := bif_f h hc
      refine q_next ?_
      obtain ⟨_, e_u12, h⟩ := mb_ok h; have e_u12 := of_decide_eq_true (chk_ok e_u12)
      obtain ⟨run13, e_run13, h⟩ := mb_ok h; have e_run13 := ok_inj e_run13
      refine q_asg (R := (nl K (rP K rS (rT K rS)))) (b := s7.1 ++ t11.1) (b' := run13) ?_ e_run13 ?_
      · walk_at "ev"
      obtain ⟨z14, e_z14, h⟩ := mb_ok h; have e_z14 := oM_ok e_z14
      refine l_set (r := (rT K rS)) (b := z14) (b' := z14) ?_ rfl ?_
      · walk_at "ev"
      cases h
      exact fun σ H hv => hD σ H (hv.less (.keep (.keep (.keep (.keep (.keep (.drop (.drop (.drop .nil)))))))))
abbrev n_Reader___init__ : List Str := ["self", "start", "table", "key"]
abbrev p_Reader___init__ : List Str := ["self", "start", "table"]
theorem sc_Reader___init__ : FnScope n_Reader___init__ p_Reader___init__ (defScope s_Reader___init__) := ⟨rfl, rfl, rfl, by decide +kernel, rfl, by decide +kernel, by decide +kernel⟩
abbrev sp_Reader___init__ (P : Program) (w : World) (K : PySem.W.Frag) : Sp := spInit K (cA K "Reader") (fA (fA fN "first" (fz K rS)) "entries" (npd P w K (rT K rS))) (aC rS (aC (rPD P w K (rT K rS)) aN)) fun a => m_Reader___init__ a.1 a.2.1
theorem c_Reader___init__ {P : Program} {w : World} {K : PySem.W.Frag} {mg : Str → Option Value} {base : Heap} (F : DfE K (cA K "Reader") "__init__" "Reader.__init__" s_Reader___init__ 0) (K_Reader : ClsF K mg "Reader") (N_Reader_first : NoAttr K (cA K "Reader") "first") (N_Reader_entries : NoAttr K (cA K "Reader") "entries") : CalI P w K mg base (L2.CX P w) (cA K "Reader") 1 p_Reader___init__ (sp_Reader___init__ P w K) := by
  have cl_Reader := K_Reader.cl
  refine calIX_of K_Reader F sc_Reader___init__ (fun vs H Q E h => spInit_len h) ⟨fun _ _ _ _ _ _ _ us hl => match us, hl with | [_, _, _], _ => rfl, fun h => absurd h (by decide)⟩ fun cdv f A outer s H vs Q E hr h => ?_
  have sc := sc_Reader___init__
  refine ⟨_, (pss_cons (ps_fldK K (pv 0) (pv 1))
      (pss_one (ps_fldK K (pv 0) (pe_pdcK P w K (own := [("key", 3)]) (g := gName 3) (Nat.lt_of_le_of_lt (Nat.le_trans (Nat.le_add_right _ _) (Nat.le_add_right _ _)) hr.un) (by rfl) sc.nd (pi_pkeysK P w K (pv 2)) (blkOk_by (own := [("key", 3)]) (N := n_Reader___init__) (sc := defScope s_Reader___init__) (by decide +kernel)) (fun _ _ _ _ _ => (pg_name (i := 3) sc.nd rfl (Or.inl rfl))) (fun _ _ _ _ _ => (pv 3)) (fun _ _ _ _ _ => (pe_pgetK P w K (Nat.lt_of_le_of_lt (Nat.add_le_add_left (by decide) _) hr.un) (pv 2) (pv 3) (fun _ _ => rfl))))))), ?_⟩
  obtain ⟨p0, dx0, ws, ⟨start2, table3, _⟩, r0, rfl, s0, hp1, x0, hp0, ⟨v_start2, _, rfl, w_start2, ⟨v_table3, _, rfl, w_table3, rfl⟩⟩, hN, hok, hx⟩ := h
  have hD : ∀ r, m_Reader___init__ start2 table3 = .ok r → ∀ H' as, Same r0 H' → (∀ q, q ∈ as → r0 q = none) → (nRec K (cA K "Reader") (fA (fA fN "first" (fz K rS)) "entries" (npd P w K (rT K rS)))).rep H' (.ref p0) r as → Q .non H' := hok
  have hX : ∀ e, m_Reader___init__ start2 table3 = .error e → XOk K r0 E e := fun e q => match e, q with | .stuck, q => absurd q hN | .ex x fs, q => fun d H' s n z => hx x fs q d H' s n z
  refine Sv.runI (K := K) (C := cA K "Reader") (p := p0) (G := [fc rS start2, rc (rPD P w K (rT K rS)) table3, none]) ?_ s0 hp1 hp0 (.fz w_start2 (.ro w_table3 (.skip .nil)))
  clear hN hok hx
  generalize h : m_Reader___init__ start2 table3 = o at hD hX
  have ns := nstk_of hX
  unfold m_Reader___init__ at h
  refine q_selfN (i := 0) (b := start2) (R := (fz K rS)) (by rfl) ?_ (by simp only [fA, fN]; decide) (by simp only [fA, fN]; decide) cl_Reader N_Reader_first ?_
  · refine Ev.nw ?_
    walk_at "ev"
  refine l_selfN (i := 0) (b := table3) (R := (npd P w K (rT K rS))) (by rfl) ?_ (by simp only [fA, fN]; decide) (by simp only [fA, fN]; decide) cl_Reader N_Reader_entries ?_
  · exact nw_pdcopy inferInstance (by rfl) (by decide) (Nat.le_of_ble_eq_true rfl)
  exact nx_init (by rfl) (by repeat' (first | exact fle_N | apply fle_A | exact rle_nlA | exact rle_refl)) (fun H' as => hD _ h.symm H' as)
abbrev n_Reader___call__ : List Str := ["self", "text", "run", "index", "stack", "ending"]
abbrev p_Reader___call__ : List Str := ["self", "text"]
theorem sc_Reader___call__ : FnScope n_Reader___call__ p_Reader___call__ (defScope s_Reader___call__) := ⟨rfl, rfl, rfl, by decide +kernel, rfl, by decide +kernel, by decide +kernel⟩
abbrev sp_Reader___call__ (P : Program) (w : World) (K : PySem.W.Frag) : Sp := spM (aC (rRec K (cA K "Reader") (fA (fA fN "first" (fz K rS)) "entries" (npd P w K (rT K rS)))) (aC (rT K rS) aN)) (rT K (rP K rS (rT K rS))) fun a => m_Reader___call__ a.1 a.2.1
theorem c_Reader___call__ {P : Program} {w : World} {K : PySem.W.Frag} {mg : Str → Option Value} {base : Heap} (F : DfE K (cA K "Reader") "__call__" "Reader.__call__" s_Reader___call__ 0) (B_len : mg "len" = none) (B_tuple : mg "tuple" = none) (K_Reader : ClsF K mg "Reader") (N_Reader_entries : NoAttr K (cA K "Reader") "entries") (N_Reader_first : NoAttr K (cA K "Reader") "first") (C_read : Cal P w K mg base CX0 "read" 2 p_read (sp_read P w K)) (C_finish : Cal P w K mg base CX0 "finish" 1 p_finish (sp_finish P w K)) : CalO P w K mg base CX0 (cA K "Reader") 3 p_Reader___call__ (sp_Reader___call__ P w K) := by
  have cl_Reader := K_Reader.cl
  refine calO_of F sc_Reader___call__ (fun vs H Q E ⟨a, b, h, _⟩ => LenA.len h) ⟨fun _ _ _ _ _ _ _ us hl => match us, hl with | [_, _], _ => rfl, fun h => absurd h (by decide)⟩ fun cdv f A outer s H vs Q E hr h => ?_
  have sc := sc_Reader___call__
  refine ⟨_, (pss_cons (ps_asg (pe_fn C_read (hr.mono (by decide)) (pa_cons (pe_fldK K (pv 0)) (pa_cons (pe_fldK K (pv 0)) (pa_cons (pv 1) pa_nil)))) (pg_tupK K rfl (pgs_cons (pg_name (i := 2) sc.nd rfl (Or.inl rfl)) (pgs_cons (pg_name (i := 3) sc.nd rfl (Or.inl rfl)) (pgs_cons (pg_name (i := 4) sc.nd rfl (Or.inl rfl)) pgs_nil)))))
      (pss_cons (ps_if (pt_cmpR op_lt (pv 3) (pe_callB (k_len K) (by rfl) B_len PySem.boot_len (pa_cons (pv 1) pa_nil)) (nomark _))
      (pss_one (ps_never)) pss_nil)
      (pss_cons (ps_set (i := 5) sc.nd rfl (Or.inl rfl) (pe_fn C_finish (hr.mono (by decide)) (pa_cons (pv 4) (pa_cons (pe_fldK K (pv 0)) pa_nil))))
      (pss_cons (ps_if (pt_cmpR op_isN (pv 5) pe_non (nomark _))
      (pss_one (ps_never)) pss_nil)
      (pss_one (ps_ret (pe_callTy (k_tuple K) (by rfl) B_tuple (by decide +kernel) (pa_cons (pe_op op_cat (pv 2) (pv 5)) pa_nil)))))))), ?_⟩
  obtain ⟨⟨self1, text2, _⟩, r0, ⟨v_self1, _, rfl, w_self1, ⟨v_text2, _, rfl, w_text2, rfl⟩⟩, h, k⟩ := h
  have hD : RtOk (fz K (rT K (rP K rS (rT K rS)))) H r0 { nx := fun _ H' => Q .non H', rt := Q } := fun v H' ⟨as, s, n, z⟩ => k v H' s z.2.now
  refine Sv.run (K := K) (G := ([rc (rRec K (cA K "Reader") (fA (fA fN "first" (fz K rS)) "entries" (npd P w K (rT K rS)))) self1, fc (rT K rS) text2, none, none, none, none] : Cells K)) ?_ (.ro w_self1 (.fz w_text2 (.skip (.skip (.skip (.skip .nil))))))
  have h : m_Reader___call__ self1 text2 = .ok r0 := h
  unfold m_Reader___call__ at h
  obtain ⟨_, e_u3, h⟩ := mb_ok h; have e_u3 := of_decide_eq_true (chk_ok e_u3)
  obtain ⟨t4, e_t4, h⟩ := mb_ok h
  refine q_asgTL (R := (nl K (rP K rS (rT K rS)))) (A := (aC rI (aC (rT K rS) aN))) (p := t4) ?_ inferInstance (tga_cons tg_name (tga_cons tg_name tga_nil)) ?_
  · walk_at "ev"
  refine q_if (c := (decide (t4.2.1 < (text2.length : Int)))) ?_ ?_ ?_
  · walk_at "ev"
  · intro hc; have h := bif_t h hc
    cases h
  · intro hc; have h := bif_f h hc
    refine q_next ?_
    obtain ⟨t5, e_t5, h⟩ := mb_ok h
    refine q_asg (R := (nO K (nl K (rP K rS (rT K rS))))) (b := t5) (b' := t5) ?_ rfl ?_
    · walk_at "ev"
    refine q_if (c := (isNone' t5)) ?_ ?_ ?_
    · walk_at "ev"
    · intro hc; have h := bif_t h hc
      cases h
    · intro hc; have h := bif_f h hc
      refine q_next ?_
      obtain ⟨z6, e_z6, h⟩ := mb_ok h; have e_z6 := oM_ok e_z6
      obtain ⟨_, e_u7, h⟩ := mb_ok h; have e_u7 := of_decide_eq_true (chk_ok e_u7)
      cases h
      refine r_ret hD ?_
      walk_at "ev"
abbrev n__law_cell : List Str := ["_law_script", "_law_k"]
abbrev p__law_cell : List Str := ["_law_script", "_law_k"]
theorem sc__law_cell : FnScope n__law_cell p__law_cell (defScope s__law_cell) := ⟨rfl, rfl, rfl, by decide +kernel, rfl, by decide +kernel, by decide +kernel⟩
abbrev sp__law_cell (K : PySem.W.Frag) : Sp := spM (aC (rQ K rI) (aC rI aN)) rI fun a => m__law_cell a.1 a.2.1
theorem c__law_cell {P : Program} {w : World} {K : PySem.W.Frag} {mg : Str → Option Value} {base : Heap} (F : Df K mg "_law_cell" s__law_cell) (B_len : mg "len" = none) (B_int : mg "int" = none) : Cal P w K mg base CX0 "_law_cell" 1 p__law_cell (sp__law_cell K) := by
  refine cal_of F sc__law_cell (fun vs H Q E ⟨a, b, h, _⟩ => LenA.len h) (fun _ _ _ _ _ _ us hl => match us, hl with | [_, _], _ => rfl) fun cdv f A outer s H vs Q E hr h => ?_
  have sc := sc__law_cell
  refine ⟨_, (pss_one (ps_ret (pe_ifExp (pt_cmpR op_lt (pv 1) (pe_callB (k_len K) (by rfl) B_len PySem.boot_len (pa_cons (pv 0) pa_nil)) (nomark _)) (pe_callTy call_int1 (by rfl) B_int (by decide +kernel) (pa_cons (pe_ix (k_ix K) (pv 0) (pv 1) (fun _ _ => rfl)) pa_nil)) pe_int))), ?_⟩
  obtain ⟨⟨script1, k2, _⟩, r0, ⟨v_script1, _, rfl, w_script1, ⟨v_k2, _, rfl, w_k2, rfl⟩⟩, h, k⟩ := h
  have hD : RtOk (fz K rI) H r0 { nx := fun _ H' => Q .non H', rt := Q } := fun v H' ⟨as, s, n, z⟩ => k v H' s z.2.now
  refine Sv.run (K := K) (G := ([rc (rQ K rI) script1, fc rI k2] : Cells K)) ?_ (.ro w_script1 (.fz w_k2 .nil))
  have h : m__law_cell script1 k2 = .ok r0 := h
  unfold m__law_cell at h
  obtain ⟨c4, e_c4, h⟩ := mb_ok h
  cases h
  refine r_ret hD ?_
  refine ev_ifM ?_ (fun _ e => ?_) (fun _ e => ?_) e_c4
  · walk_at "ev"
  · obtain ⟨t3, e_t3, e⟩ := mb_ok e; have e_t3 := oM_ok e_t3
    cases e
    walk_at "ev"
  · cases e
    walk_at "ev"
abbrev n__law_draws : List Str := ["_law_cell_here", "_law_many", "_law_rest", "_law_row", "_law_k", "_law_mixed"]
abbrev p__law_draws : List Str := ["_law_cell_here", "_law_many"]
theorem sc__law_draws : FnScope n__law_draws p__law_draws (defScope s__law_draws) := ⟨rfl, rfl, rfl, by decide +kernel, rfl, by decide +kernel, by decide +kernel⟩
abbrev sp__law_draws (K : PySem.W.Frag) : Sp := spMN (aC rI (aC rI aN)) (nl K rI) fun a => m__law_draws a.1 a.2.1
theorem c__law_draws {P : Program} {w : World} {K : PySem.W.Frag} {mg : Str → Option Value} {base : Heap} (F : Df K mg "_law_draws" s__law_draws) (B_int : mg "int" = none) (B_range : mg "range" = none) : Cal P w K mg base CX0 "_law_draws" 1 p__law_draws (sp__law_draws K) := by
  refine cal_of F sc__law_draws (fun vs H Q E ⟨a, b, h, _⟩ => LenA.len h) (fun _ _ _ _ _ _ us hl => match us, hl with | [_, _], _ => rfl) fun cdv f A outer s H vs Q E hr h => ?_
  have sc := sc__law_draws
  refine ⟨_, (pss_cons (ps_set (i := 2) sc.nd rfl (Or.inl rfl) (pe_op op_mul (pv 0) (pe_callTy call_int1 (by rfl) B_int (by decide +kernel) (pa_cons (pe_cmpR op_ge (pv 0) (pe_op op_pow pe_int pe_int) (nomark _)) pa_nil))))
      (pss_cons (ps_set (i := 3) sc.nd rfl (Or.inl rfl) (pe_lst pa_nil))
      (pss_cons (ps_for PassesOwn.never rfl (pi_range1 (by rfl) B_range (pa_cons (pv 1) pa_nil)) (pg_name (i := 4) sc.nd rfl (Or.inl rfl))
      (pss_one (ps_if (pt_cmpR op_gt (pv 2) pe_int (nomark _))
      (pss_cons (ps_expr (pe_app K (pv 3) (pa_cons (pe_op op_mod (pe_callTy call_int1 (by rfl) B_int (by decide +kernel) (pa_cons (pv 2) pa_nil)) pe_int) pa_nil)))
      (pss_one (ps_set (i := 2) sc.nd rfl (Or.inl rfl) (pe_op op_fdiv (pv 2) pe_int)))) (pss_cons (ps_set (i := 5) sc.nd rfl (Or.inl rfl) (pe_op op_mod (pe_callTy call_int1 (by rfl) B_int (by decide +kernel) (pa_cons (pe_op op_add (pe_op op_add (pe_op op_mul (pv 0) pe_int) (pe_op op_mul (pv 4) pe_int)) pe_int) pa_nil)) pe_int))
      (pss_cons (ps_set (i := 5) sc.nd rfl (Or.inl rfl) (pe_op op_mod (pe_callTy call_int1 (by rfl) B_int (by decide +kernel) (pa_cons (pe_op op_add (pe_op op_add (pe_op op_mul (pv 5) (pv 5)) (pe_op op_mul pe_int (pv 5))) (pv 4)) pa_nil)) pe_int))
      (pss_one (ps_expr (pe_app K (pv 3) (pa_cons (pe_op op_mod (pe_op op_mod (pe_callTy call_int1 (by rfl) B_int (by decide +kernel) (pa_cons (pe_op op_add (pe_op op_mul (pv 5) (pv 5)) (pe_op op_mul pe_int (pv 5))) pa_nil)) pe_int) pe_int) pa_nil)))))))))
      (pss_one (ps_ret (pv 3)))))), ?_⟩
  obtain ⟨⟨cellhere1, many2, _⟩, r0, ⟨v_cellhere1, _, rfl, w_cellhere1, ⟨v_many2, _, rfl, w_many2, rfl⟩⟩, h, k⟩ := h
  have hD : RtOk (nl K rI) H r0 { nx := fun _ H' => Q .non H', rt := Q } := fun v H' ⟨as, s, n, z⟩ => k v H' as s n z
  refine Sv.run (K := K) (G := ([fc rI cellhere1, fc rI many2, none, none, none, none] : Cells K)) ?_ (.fz w_cellhere1 (.fz w_many2 (.skip (.skip (.skip (.skip .nil))))))
  have h : m__law_draws cellhere1 many2 = .ok r0 := h
  unfold m__law_draws at h
  obtain ⟨rest3, e_rest3, h⟩ := mb_ok h; have e_rest3 := ok_inj e_rest3
  refine q_set (r := rI) (b := cellhere1 * (b2 (decide (((10 : Int) ^ ((18 : Int)).toNat) ≤ cellhere1)))) (b' := rest3) ?_ e_rest3 ?_
  · walk_at "ev"
  obtain ⟨row4, e_row4, h⟩ := mb_ok h; have e_row4 := ok_inj e_row4
  refine q_asg (R := (nl K rI)) (b := ([] : (List Int))) (b' := row4) ?_ e_row4 ?_
  · walk_at "ev"
  obtain ⟨_, e_u5, h⟩ := mb_ok h; have e_u5 := of_decide_eq_true (chk_ok e_u5)
  obtain ⟨s8, hm, h⟩ := mb_ok h
  refine q_forM (G' := ([fc rI cellhere1, fc rI many2, fc rI rest3, some (.ow (nl K rI) row4), none, none] : Cells K)) (r := rI) (f := (fun (s6 : (Int × (List Int))) (x7 : Int) => bif (decide ((0 : Int) < s6.1)) then mb (chk (decide (s6.2.length < 100000))) fun _ => mb (.ok (s6.2 ++ [s6.1 % (840 : Int)])) fun row10 => mb (.ok (s6.1 / (840 : Int))) fun rest11 => .ok (rest11, row10) else mb (.ok ((((cellhere1 * (48271 : Int)) + (x7 * (6961 : Int))) + (1013 : Int)) % (1000003 : Int))) fun mixed12 => mb (chk (decide (CMul mixed12 mixed12))) fun _ => mb (.ok ((((mixed12 * mixed12) + ((11 : Int) * mixed12)) + x7) % (999983 : Int))) fun mixed14 => mb (chk (decide (CMul mixed14 mixed14))) fun _ => mb (chk (decide (s6.2.length < 100000))) fun _ => mb (.ok (s6.2 ++ [(((mixed14 * mixed14) + ((3 : Int) * mixed14)) % (99991 : Int)) % (840 : Int)])) fun row17 => .ok (s6.1, row17))) (s0 := (rest3, row4)) (fun (s6 : (Int × (List Int))) => ([fc rI cellhere1, fc rI many2, fc rI s6.1, some (.ow (nl K rI) s6.2), none, none] : Cells K)) hm ?_ (.keep (.keep (.keep (.keep (.keep (.keep .nil)))))) (fun H0' e0 x7 s6 s' h => ⟨_, tg_name, ?_⟩) ?_
  · refine wk_rng1 ?_ ?_
    · walk_at "ev"
    · first | assumption | omega
  · have hD : Nx H0' ((fun (s6 : (Int × (List Int))) => ([fc rI cellhere1, fc rI many2, fc rI s6.1, some (.ow (nl K rI) s6.2), none, none] : Cells K)) s') (Have H0' ((fun (s6 : (Int × (List Int))) => ([fc rI cellhere1, fc rI many2, fc rI s6.1, some (.ow (nl K rI) s6.2), none, none] : Cells K)) s')) := fun _ _ z => z
    refine l_if (c := (decide ((0 : Int) < s6.1))) ?_ ?_ ?_
    · walk_at "ev"
    · intro hc; have h := bif_t h hc
      obtain ⟨_, e_u9, h⟩ := mb_ok h; have e_u9 := of_decide_eq_true (chk_ok e_u9)
      obtain ⟨row10, e_row10, h⟩ := mb_ok h; have e_row10 := ok_inj e_row10
      refine q_app (x := s6.1 % (840 : Int)) (xs := s6.2) (by rfl) (x' := s6.1 % (840 : Int)) ?_ rfl (by assumption) ?_
      · walk_at "ev"
      rw [e_row10]
      obtain ⟨rest11, e_rest11, h⟩ := mb_ok h; have e_rest11 := ok_inj e_rest11
      refine l_set (r := rI) (b := s6.1 / (840 : Int)) (b' := rest11) ?_ e_rest11 ?_
      · walk_at "ev"
      cases h
      exact fun σ H hv => hD σ H (hv.less (.keep (.keep (.keep (.keep (.drop (.keep .nil)))))))
    · intro hc; have h := bif_f h hc
      obtain ⟨mixed12, e_mixed12, h⟩ := mb_ok h; have e_mixed12 := ok_inj e_mixed12
      refine q_set (r := rI) (b := (((cellhere1 * (48271 : Int)) + (x7 * (6961 : Int))) + (1013 : Int)) % (1000003 : Int)) (b' := mixed12) ?_ e_mixed12 ?_
      · walk_at "ev"
      obtain ⟨_, e_u13, h⟩ := mb_ok h; have e_u13 := of_decide_eq_true (chk_ok e_u13)
      obtain ⟨mixed14, e_mixed14, h⟩ := mb_ok h; have e_mixed14 := ok_inj e_mixed14
      refine q_set (r := rI) (b := (((mixed12 * mixed12) + ((11 : Int) * mixed12)) + x7) % (999983 : Int)) (b' := mixed14) ?_ e_mixed14 ?_
      · walk_at "ev"
      obtain ⟨_, e_u15, h⟩ := mb_ok h; have e_u15 := of_decide_eq_true (chk_ok e_u15)
      obtain ⟨_, e_u16, h⟩ := mb_ok h; have e_u16 := of_decide_eq_true (chk_ok e_u16)
      obtain ⟨row17, e_row17, h⟩ := mb_ok h; have e_row17 := ok_inj e_row17
      refine l_app (x := (((mixed14 * mixed14) + ((3 : Int) * mixed14)) % (99991 : Int)) % (840 : Int)) (xs := s6.2) (by rfl) (x' := (((mixed14 * mixed14) + ((3 : Int) * mixed14)) % (99991 : Int)) % (840 : Int)) ?_ rfl (by assumption) ?_
      · walk_at "ev"
      rw [e_row17]
      cases h
      exact fun σ H hv => hD σ H (hv.less (.keep (.keep (.keep (.keep (.drop (.drop .nil)))))))
  cases h
  exact r_retO (i := 3) hD (by rfl)
abbrev n__law_name : List Str := ["_law_k", "_law_style", "_law_capital", "_law_letter", "_law_word"]
abbrev p__law_name : List Str := ["_law_k", "_law_style", "_law_capital"]
theorem sc__law_name : FnScope n__law_name p__law_name (defScope s__law_name) := ⟨rfl, rfl, rfl, by decide +kernel, rfl, by decide +kernel, by decide +kernel⟩
abbrev sp__law_name (K : PySem.W.Frag) : Sp := spM (aC rI (aC rI (aC rB aN))) rS fun a => m__law_name a.1 a.2.1 a.2.2.1
theorem c__law_name {P : Program} {w : World} {K : PySem.W.Frag} {mg : Str → Option Value} {base : Heap} (F : Df K mg "_law_name" s__law_name) (B_int : mg "int" = none) : Cal P w K mg base CX0 "_law_name" 1 p__law_name (sp__law_name K) := by
  refine cal_of F sc__law_name (fun vs H Q E ⟨a, b, h, _⟩ => LenA.len h) (fun _ _ _ _ _ _ us hl => match us, hl with | [_, _, _], _ => rfl) fun cdv f A outer s H vs Q E hr h => ?_
  have sc := sc__law_name
  refine ⟨_, (pss_cons (ps_set (i := 3) sc.nd rfl (Or.inl rfl) (pe_ix (k_ix K) (pe_ix (k_ix K) (pe_lst (pa_cons pe_str (pa_cons pe_str (pa_cons pe_str pa_nil)))) (pe_op op_mod (pe_callTy call_int1 (by rfl) B_int (by decide +kernel) (pa_cons (pv 1) pa_nil)) pe_int) (fun _ _ => rfl)) (pv 0) (fun _ _ => rfl)))
      (pss_cons (ps_set (i := 4) sc.nd rfl (Or.inl rfl) (pe_ix (k_ix K) (pe_lst (pa_cons (pv 3) (pa_cons (pe_op op_add_str pe_str (pv 3)) (pa_cons (pe_op op_add_str (pv 3) pe_str) (pa_cons (pe_op op_add_str pe_str (pe_op op_mulS (pv 3) (pe_op op_add pe_int (pe_op op_mod (pe_callTy call_int1 (by rfl) B_int (by decide +kernel) (pa_cons (pv 0) pa_nil)) pe_int)))) pa_nil))))) (pe_op op_mod (pe_op op_fdiv (pe_callTy call_int1 (by rfl) B_int (by decide +kernel) (pa_cons (pv 1) pa_nil)) pe_int) pe_int) (fun _ _ => rfl)))
      (pss_one (ps_ret (pe_ifExp (pt_val (pv 2)) (pe_op op_add_str (pe_upper (pe_ix (k_ix K) (pv 4) pe_int (fun _ _ => rfl))) (pe_slice sl_str (pv 4) (po_some pe_int) po_none)) (pv 4)))))), ?_⟩
  obtain ⟨⟨k1, style2, capital3, _⟩, r0, ⟨v_k1, _, rfl, w_k1, ⟨v_style2, _, rfl, w_style2, ⟨v_capital3, _, rfl, w_capital3, rfl⟩⟩⟩, h, k⟩ := h
  have hD : RtOk (fz K rS) H r0 { nx := fun _ H' => Q .non H', rt := Q } := fun v H' ⟨as, s, n, z⟩ => k v H' s z.2.now
  refine Sv.run (K := K) (G := ([fc rI k1, fc rI style2, fc rB capital3, none, none] : Cells K)) ?_ (.fz w_k1 (.fz w_style2 (.fz w_capital3 (.skip (.skip .nil)))))
  have h : m__law_name k1 style2 capital3 = .ok r0 := h
  unfold m__law_name at h
  obtain ⟨t4, e_t4, h⟩ := mb_ok h; have e_t4 := oM_ok e_t4
  obtain ⟨t5, e_t5, h⟩ := mb_ok h; have e_t5 := oM_ok e_t5
  refine q_set (r := rS) (b := t5) (b' := t5) ?_ rfl ?_
  · walk_at "ev"
  obtain ⟨_, e_u6, h⟩ := mb_ok h; have e_u6 := of_decide_eq_true (chk_ok e_u6)
  obtain ⟨_, e_u7, h⟩ := mb_ok h; have e_u7 := of_decide_eq_true (chk_ok e_u7)
  obtain ⟨_, e_u8, h⟩ := mb_ok h; have e_u8 := of_decide_eq_true (chk_ok e_u8)
  obtain ⟨_, e_u9, h⟩ := mb_ok h; have e_u9 := of_decide_eq_true (chk_ok e_u9)
  obtain ⟨_, e_u10, h⟩ := mb_ok h; have e_u10 := of_decide_eq_true (chk_ok e_u10)
  obtain ⟨t11, e_t11, h⟩ := mb_ok h; have e_t11 := oM_ok e_t11
  refine q_set (r := rS) (b := t11) (b' := t11) ?_ rfl ?_
  · walk_at "ev"
  obtain ⟨c15, e_c15, h⟩ := mb_ok h
  cases h
  refine r_ret hD ?_
  refine ev_ifM ?_ (fun _ e => ?_) (fun _ e => ?_) e_c15
  · walk_at "ev"
  · obtain ⟨t12, e_t12, e⟩ := mb_ok e; have e_t12 := oM_ok e_t12
    obtain ⟨_, e_u13, e⟩ := mb_ok e; have e_u13 := of_decide_eq_true (chk_ok e_u13)
    obtain ⟨_, e_u14, e⟩ := mb_ok e; have e_u14 := of_decide_eq_true (chk_ok e_u14)
    cases e
    walk_at "ev"
  · cases e
    walk_at "ev"
abbrev n__law_is_token : List Str := ["_law_sign"]
abbrev p__law_is_token : List Str := ["_law_sign"]
theorem sc__law_is_token : FnScope n__law_is_token p__law_is_token (defScope s__law_is_token) := ⟨rfl, rfl, rfl, by decide +kernel, rfl, by decide +kernel, by decide +kernel⟩
abbrev sp__law_is_token (K : PySem.W.Frag) : Sp := spM (aC rS aN) rB fun a => m__law_is_token a.1
theorem c__law_is_token {P : Program} {w : World} {K : PySem.W.Frag} {mg : Str → Option Value} {base : Heap} (F : Df K mg "_law_is_token" s__law_is_token) : Cal P w K mg base CX0 "_law_is_token" 1 p__law_is_token (sp__law_is_token K) := by
  refine cal_of F sc__law_is_token (fun vs H Q E ⟨a, b, h, _⟩ => LenA.len h) (fun _ _ _ _ _ _ us hl => match us, hl with | [_], _ => rfl) fun cdv f A outer s H vs Q E hr h => ?_
  have sc := sc__law_is_token
  refine ⟨_, (pss_one (ps_ret (pe_cmpR op_in_sign (pe_ix (k_ix K) (pe_ix (k_ix K) (pe_split (pv 0) pe_str) (pe_un un_neg pe_int) (fun _ _ => rfl)) pe_int (fun _ _ => rfl)) pe_str rfl))), ?_⟩
  obtain ⟨⟨sign1, _⟩, r0, ⟨v_sign1, _, rfl, w_sign1, rfl⟩, h, k⟩ := h
  have hD : RtOk (fz K rB) H r0 { nx := fun _ H' => Q .non H', rt := Q } := fun v H' ⟨as, s, n, z⟩ => k v H' s z.2.now
  refine Sv.run (K := K) (G := ([fc rS sign1] : Cells K)) ?_ (.fz w_sign1 .nil)
  have h : m__law_is_token sign1 = .ok r0 := h
  unfold m__law_is_token at h
  obtain ⟨_, e_u2, h⟩ := mb_ok h; have e_u2 := of_decide_eq_true (chk_ok e_u2)
  obtain ⟨_, e_u3, h⟩ := mb_ok h; have e_u3 := of_decide_eq_true (chk_ok e_u3)
  obtain ⟨_, e_u4, h⟩ := mb_ok h; have e_u4 := of_decide_eq_true (chk_ok e_u4)
  obtain ⟨t5, e_t5, h⟩ := mb_ok h; have e_t5 := oM_ok e_t5
  obtain ⟨t6, e_t6, h⟩ := mb_ok h; have e_t6 := oM_ok e_t6
  obtain ⟨t7, e_t7, h⟩ := mb_ok h; have e_t7 := oM_ok e_t7
  cases h
  refine r_ret hD ?_
  walk_at "ev"
abbrev n__law_put : List Str := ["_law_row", "_law_more", "_law_grown", "_law_token"]
abbrev p__law_put : List Str := ["_law_row", "_law_more"]
theorem sc__law_put : FnScope n__law_put p__law_put (defScope s__law_put) := ⟨rfl, rfl, rfl, by decide +kernel, rfl, by decide +kernel, by decide +kernel⟩
abbrev sp__law_put (K : PySem.W.Frag) : Sp := spPutL K rS (aC (rL rS) aN) rB fun xs a => m__law_put xs a.1
theorem c__law_put {P : Program} {w : World} {K : PySem.W.Frag} {mg : Str → Option Value} {base : Heap} (F : Df K mg "_law_put" s__law_put) : Cal P w K mg base CX0 "_law_put" 1 p__law_put (sp__law_put K) := by
  refine cal_of F sc__law_put (fun vs H Q E h => spPutL_len h) (fun _ _ _ _ _ _ us hl => match us, hl with | [_, _], _ => rfl) fun cdv f A outer s H vs Q E hr h => ?_
  have sc := sc__law_put
  refine ⟨_, (pss_cons (ps_set (i := 2) sc.nd rfl (Or.inl rfl) pe_bl)
      (pss_cons (ps_for PassesOwn.never rfl (pi_listK K (pv 1)) (pg_name (i := 3) sc.nd rfl (Or.inl rfl))
      (pss_one (ps_if (pt_cmpR (k_nin K) (pv 3) (pv 0) rfl)
      (pss_cons (ps_expr (pe_app K (pv 0) (pa_cons (pv 3) pa_nil)))
      (pss_one (ps_set (i := 2) sc.nd rfl (Or.inl rfl) pe_bl))) pss_nil)))
      (pss_one (ps_ret (pv 2))))), ?_⟩
  obtain ⟨p0, ws, us0, row1, ⟨more2, _⟩, ys0, c0, rfl, hp0, hz0, ⟨v_more2, _, rfl, w_more2, rfl⟩, h, k⟩ := h
  have hD : ∀ v H' us', Same (dl H p0) H' → H' p0 = some (.lst us') → A2 (Stb K rS H') us' ys0 → rB H' v c0 → Q v H' := fun v H' us' s1 s2 s3 s4 => k v H' us' (but_dl s1) s2 s3 s4
  refine Sv.runP (xs := row1) (r := rS) (p := p0) (G := ([rc (rL rS) more2, none, none] : Cells K)) ?_ hp0 hz0 (.ro w_more2 (.skip (.skip .nil)))
  have h : m__law_put row1 more2 = .ok (ys0, c0) := h
  unfold m__law_put at h
  obtain ⟨grown3, e_grown3, h⟩ := mb_ok h; have e_grown3 := ok_inj e_grown3
  refine q_set (r := rB) (b := false) (b' := grown3) ?_ e_grown3 ?_
  · walk_at "ev"
  obtain ⟨s6, hm, h⟩ := mb_ok h
  refine q_forM (G' := ([some (.ow (nlA K rS p0) row1), rc (rL rS) more2, fc rB grown3, none] : Cells K)) (r := rS) (f := (fun (s4 : ((List Str) × Bool)) (x5 : Str) => bif (!(decide (x5 ∈ s4.1))) then mb (chk (decide (s4.1.length < 100000))) fun _ => mb (.ok true) fun grown8 => .ok (s4.1 ++ [x5], grown8) else .ok (s4.1, s4.2))) (s0 := (row1, grown3)) (fun (s4 : ((List Str) × Bool)) => ([some (.ow (nlA K rS p0) s4.1), rc (rL rS) more2, fc rB s4.2, none] : Cells K)) hm ?_ (.keep (.keep (.keep (.keep .nil)))) (fun H0' e0 x5 s4 s' h => ⟨_, tg_name, ?_⟩) ?_
  · exact wk_ro (by rfl)
  · have hD : Nx H0' ((fun (s4 : ((List Str) × Bool)) => ([some (.ow (nlA K rS p0) s4.1), rc (rL rS) more2, fc rB s4.2, none] : Cells K)) s') (Have H0' ((fun (s4 : ((List Str) × Bool)) => ([some (.ow (nlA K rS p0) s4.1), rc (rL rS) more2, fc rB s4.2, none] : Cells K)) s')) := fun _ _ z => z
    refine l_if (c := (!(decide (x5 ∈ s4.1)))) ?_ ?_ ?_
    · walk_at "ev"
    · intro hc; have h := bif_t h hc
      obtain ⟨_, e_u7, h⟩ := mb_ok h; have e_u7 := of_decide_eq_true (chk_ok e_u7)
      refine q_appP (a := x5) (pl_varA (by rfl)) ?_ (by assumption) ?_
      · walk_at "ev"
      obtain ⟨grown8, e_grown8, h⟩ := mb_ok h; have e_grown8 := ok_inj e_grown8
      refine l_set (r := rB) (b := true) (b' := grown8) ?_ e_grown8 ?_
      · walk_at "ev"
      cases h
      exact fun σ H hv => hD σ H (hv.less (.keep (.keep (.keep (.drop .nil)))))
    · intro hc; have h := bif_f h hc
      cases h
      exact fun σ H hv => hD σ H (hv.less (.keep (.keep (.keep (.drop .nil)))))
  cases h
  refine r_retP (i := 0) (by rfl) hD ?_
  walk_at "ev"
abbrev n__law_empty : List Str := ["_law_side", "_law_sets_here", "_law_sign"]
abbrev p__law_empty : List Str := ["_law_side", "_law_sets_here"]
theorem sc__law_empty : FnScope n__law_empty p__law_empty (defScope s__law_empty) := ⟨rfl, rfl, rfl, by decide +kernel, rfl, by decide +kernel, by decide +kernel⟩
abbrev sp__law_empty (K : PySem.W.Frag) : Sp := spM (aC (rT K rS) (aC (rH3 (rL rS) (rD (rL rS)) (rD (rL rS))) aN)) rB fun a => m__law_empty a.1 a.2.1
theorem c__law_empty {P : Program} {w : World} {K : PySem.W.Frag} {mg : Str → Option Value} {base : Heap} (F : Df K mg "_law_empty" s__law_empty) (B_len : mg "len" = none) : Cal P w K mg base CX0 "_law_empty" 1 p__law_empty (sp__law_empty K) := by
  refine cal_of F sc__law_empty (fun vs H Q E ⟨a, b, h, _⟩ => LenA.len h) (fun _ _ _ _ _ _ us hl => match us, hl with | [_, _], _ => rfl) fun cdv f A outer s H vs Q E hr h => ?_
  have sc := sc__law_empty
  refine ⟨_, (pss_one (ps_ret (pe_cmpR op_eq (pe_callB (k_len K) (by rfl) B_len PySem.boot_len (pa_cons (pe_lc (own := [("_law_sign", 2)]) (g := gName 2) (by rfl) sc.nd (pi_tupK K (pv 0)) (blkOk_by (own := [("_law_sign", 2)]) (N := n__law_empty) (sc := defScope s__law_empty) (by decide +kernel)) (fun _ _ _ _ _ => (pg_name (i := 2) sc.nd rfl (Or.inl rfl))) (fun _ _ _ _ _ => (pts_one (pt_cmpR (k_nin K) (pv 2) (pe_ix (k_ix K) (pv 1) pe_int (fun _ _ => rfl)) rfl))) (fun _ _ _ _ _ => (pv 2))) pa_nil)) pe_int (nomark _)))), ?_⟩
  obtain ⟨⟨side1, setshere2, _⟩, r0, ⟨v_side1, _, rfl, w_side1, ⟨v_setshere2, _, rfl, w_setshere2, rfl⟩⟩, h, k⟩ := h
  have hD : RtOk (fz K rB) H r0 { nx := fun _ H' => Q .non H', rt := Q } := fun v H' ⟨as, s, n, z⟩ => k v H' s z.2.now
  refine Sv.run (K := K) (G := ([fc (rT K rS) side1, rc (rH3 (rL rS) (rD (rL rS)) (rD (rL rS))) setshere2, none] : Cells K)) ?_ (.fz w_side1 (.ro w_setshere2 (.skip .nil)))
  have h : m__law_empty side1 setshere2 = .ok r0 := h
  unfold m__law_empty at h
  obtain ⟨_, e_u4, h⟩ := mb_ok h; have e_u4 := of_decide_eq_true (chk_ok e_u4)
  cases h
  refine r_ret hD ?_
  refine a_eq (r := rI) (a := (((side1.filter (fun (y3 : Str) => (!(decide (y3 ∈ setshere2.1))))).map (fun (y3 : Str) => y3)).length : Int)) (x := (0 : Int)) ?_ ?_ ?_
  · refine a_len (R := (rL rS)) ?_ lnc_L
    refine Nw.lst ?_
    refine nw_lc (G' := ([fc (rT K rS) side1, rc (rH3 (rL rS) (rD (rL rS)) (rD (rL rS))) setshere2, none] : Cells K)) (r := rS) ?_ (by first | assumption | (rw [ups_len]; omega) | (rw [List.length_map, List.length_range]; omega) | (simp only [List.length_cons, List.length_nil]; omega)) (fun _ y3 _ _ => ⟨_, tb_name, ?_, fun _ => ?_⟩)
    · refine wk_tup ?_
      walk_at "ev"
    · walk_at "ev"
    · walk_at "ev"
  · walk_at "ev"
  · walk_at "ev"
abbrev n__law_first : List Str := ["_law_side", "_law_sets_here", "_law_found", "_law_sign"]
abbrev p__law_first : List Str := ["_law_side", "_law_sets_here"]
theorem sc__law_first : FnScope n__law_first p__law_first (defScope s__law_first) := ⟨rfl, rfl, rfl, by decide +kernel, rfl, by decide +kernel, by decide +kernel⟩
abbrev sp__law_first (K : PySem.W.Frag) : Sp := spMN (aC (rT K rS) (aC (rH3 (rL rS) (rD (rL rS)) (rD (rL rS))) aN)) (nl K rS) fun a => m__law_first a.1 a.2.1
theorem c__law_first {P : Program} {w : World} {K : PySem.W.Frag} {mg : Str → Option Value} {base : Heap} (F : Df K mg "_law_first" s__law_first) (C__law_is_token : Cal P w K mg base CX0 "_law_is_token" 1 p__law_is_token (sp__law_is_token K)) (C__law_put : Cal P w K mg base CX0 "_law_put" 1 p__law_put (sp__law_put K)) : Cal P w K mg base CX0 "_law_first" 2 p__law_first (sp__law_first K) := by
  refine cal_of F sc__law_first (fun vs H Q E ⟨a, b, h, _⟩ => LenA.len h) (fun _ _ _ _ _ _ us hl => match us, hl with | [_, _], _ => rfl) fun cdv f A outer s H vs Q E hr h => ?_
  have sc := sc__law_first
  refine ⟨_, (pss_cons (ps_set (i := 2) sc.nd rfl (Or.inl rfl) (pe_lst pa_nil))
      (pss_cons (ps_for PassesOwn.never rfl (pi_tupK K (pv 0)) (pg_name (i := 3) sc.nd rfl (Or.inl rfl))
      (pss_cons (ps_if (pt_val (pe_fn C__law_is_token (hr.mono (by decide)) (pa_cons (pv 3) pa_nil)))
      (pss_cons (ps_expr (pe_fn C__law_put (hr.mono (by decide)) (pa_cons (pv 2) (pa_cons (pe_lst (pa_cons (pv 3) pa_nil)) pa_nil))))
      (pss_one (ps_ret (pv 2)))) pss_nil)
      (pss_cons (ps_expr (pe_fn C__law_put (hr.mono (by decide)) (pa_cons (pv 2) (pa_cons (pe_dget (Nat.lt_of_le_of_lt (Nat.add_le_add_left (by decide) _) hr.un) (pe_ix (k_ix K) (pv 1) pe_int (fun _ _ => rfl)) (pv 3) (fun _ _ => rfl)) pa_nil))))
      (pss_one (ps_if (pt_cmpR (k_nin K) (pv 3) (pe_ix (k_ix K) (pv 1) pe_int (fun _ _ => rfl)) rfl)
      (pss_one (ps_ret (pv 2))) pss_nil)))))
      (pss_one (ps_ret (pv 2))))), ?_⟩
  obtain ⟨⟨side1, setshere2, _⟩, r0, ⟨v_side1, _, rfl, w_side1, ⟨v_setshere2, _, rfl, w_setshere2, rfl⟩⟩, h, k⟩ := h
  have hD : RtOk (nl K rS) H r0 { nx := fun _ H' => Q .non H', rt := Q } := fun v H' ⟨as, s, n, z⟩ => k v H' as s n z
  refine Sv.run (K := K) (G := ([fc (rT K rS) side1, rc (rH3 (rL rS) (rD (rL rS)) (rD (rL rS))) setshere2, none, none] : Cells K)) ?_ (.fz w_side1 (.ro w_setshere2 (.skip (.skip .nil))))
  have h : m__law_first side1 setshere2 = .ok r0 := h
  unfold m__law_first at h
  obtain ⟨found3, e_found3, h⟩ := mb_ok h; have e_found3 := ok_inj e_found3
  refine q_asg (R := (nl K rS)) (b := ([] : (List Str))) (b' := found3) ?_ e_found3 ?_
  · walk_at "ev"
  obtain ⟨o6, hm, h⟩ := mb_ok h
  refine q_forF (G' := ([fc (rT K rS) side1, rc (rH3 (rL rS) (rD (rL rS)) (rD (rL rS))) setshere2, some (.ow (nl K rS) found3), none] : Cells K)) (r := rS) (R := (nl K rS)) (f := (fun (s4 : (List Str)) (x5 : Str) => mb (m__law_is_token x5) fun t7 => bif t7 then mb (m__law_put s4 [x5]) fun w8 => .ok (.rt w8.1) else mb (oM (dkey setshere2.2.1 x5)) fun t9 => mb (m__law_put s4 t9) fun w10 => bif (!(decide (x5 ∈ setshere2.1))) then .ok (.rt w10.1) else .ok (.nx w10.1))) (s0 := found3) (o := o6) (fun (s4 : (List Str)) => ([fc (rT K rS) side1, rc (rH3 (rL rS) (rD (rL rS)) (rD (rL rS))) setshere2, some (.ow (nl K rS) s4), none] : Cells K)) hm ?_ (.keep (.keep (.keep (.keep .nil)))) (fun s4 e => ?_) (fun x e => ?_) (fun H0' D' e0 x5 s4 o' h hD => ⟨_, tg_name, ?_⟩)
  · refine wk_tup ?_
    walk_at "ev"
  · subst e; have h := go_nx h
    cases h
    exact r_retO (i := 2) hD (by rfl)
  · subst e; have h := go_rt h; cases h; exact hD
  · obtain ⟨t7, e_t7, h⟩ := mb_ok h
    refine q_if (c := t7) ?_ ?_ ?_
    · walk_at "ev"
    · intro hc; have h := bif_t h hc
      obtain ⟨w8, e_w8, h⟩ := mb_ok h
      refine q_drpX (r := rB) (ex_put (a := ([x5], ())) (pl_var (by rfl)) ?_ (show _ = Except.ok (w8.1, w8.2) from e_w8)) ?_
      · refine apa_cons ?_ ?_
        · refine ap_rg ?_
          refine rg_new (R := (nl K rS)) ?_ fun _ _ _ z => vw_nl z
          walk_at "ev"
        exact apa_nil
      cases h
      exact r_retO (i := 2) hD (by rfl)
    · intro hc; have h := bif_f h hc
      refine q_next ?_
      obtain ⟨t9, e_t9, h⟩ := mb_ok h; have e_t9 := oM_ok e_t9
      obtain ⟨w10, e_w10, h⟩ := mb_ok h
      refine q_drpX (r := rB) (ex_put (a := (t9, ())) (pl_var (by rfl)) ?_ (show _ = Except.ok (w10.1, w10.2) from e_w10)) ?_
      · refine apa_cons ?_ ?_
        · refine ap_rg ?_
          refine rg_dget ?_ ?_ e_t9
          · refine rg_h1 (r1 := (rL rS)) (r2 := (rD (rL rS))) (r3 := (rD (rL rS))) ?_
            exact rg_ro (by rfl)
          · walk_at "ev"
        exact apa_nil
      refine l_if (c := (!(decide (x5 ∈ setshere2.1)))) ?_ ?_ ?_
      · walk_at "ev"
      · intro hc; have h := bif_t h hc
        cases h
        exact r_retO (i := 2) hD (by rfl)
      · intro hc; have h := bif_f h hc
        cases h
        exact fun σ H hv => hD σ H (hv.less (.keep (.keep (.keep (.drop .nil)))))
abbrev n__law_sets : List Str := ["_law_rules", "_law_sets_here", "_law_head", "_law_side", "_law_turn", "_law_grown", "_law_after", "_law_k", "_law_sign", "_law_token"]
abbrev p__law_sets : List Str := ["_law_rules"]
theorem sc__law_sets : FnScope n__law_sets p__law_sets (defScope s__law_sets) := ⟨rfl, rfl, rfl, by decide +kernel, rfl, by decide +kernel, by decide +kernel⟩
abbrev sp__law_sets (K : PySem.W.Frag) : Sp := spMN (aC (rL (rP K rS (rT K rS))) aN) (nH3 K (nl K rS) (ndR K (nl K rS)) (ndR K (nl K rS))) fun a => m__law_sets a.1
theorem c__law_sets {P : Program} {w : World} {K : PySem.W.Frag} {mg : Str → Option Value} {base : Heap} (F : Df K mg "_law_sets" s__law_sets) (B_range : mg "range" = none) (B_list : mg "list" = none) (B_len : mg "len" = none) (C__law_empty : Cal P w K mg base CX0 "_law_empty" 1 p__law_empty (sp__law_empty K)) (C__law_put : Cal P w K mg base CX0 "_law_put" 1 p__law_put (sp__law_put K)) (C__law_first : Cal P w K mg base CX0 "_law_first" 2 p__law_first (sp__law_first K)) (C__law_is_token : Cal P w K mg base CX0 "_law_is_token" 1 p__law_is_token (sp__law_is_token K)) : Cal P w K mg base CX0 "_law_sets" 3 p__law_sets (sp__law_sets K) := by
  refine cal_of F sc__law_sets (fun vs H Q E ⟨a, b, h, _⟩ => LenA.len h) (fun _ _ _ _ _ _ us hl => match us, hl with | [_], _ => rfl) fun cdv f A outer s H vs Q E hr h => ?_
  have sc := sc__law_sets
  refine ⟨_, (pss_cons (ps_set (i := 1) sc.nd rfl (Or.inr rfl) (pe_lst (pa_cons (pe_lst pa_nil) (pa_cons pe_dnewK (pa_cons pe_dnewK pa_nil)))))
      (pss_cons (ps_for PassesOwn.never rfl (pi_listK K (pv 0)) (pg_tupK K rfl (pgs_cons (pg_name (i := 2) sc.nd rfl (Or.inl rfl)) (pgs_cons (pg_name (i := 3) sc.nd rfl (Or.inl rfl)) pgs_nil)))
      (pss_cons (ps_dput (Nat.lt_of_le_of_lt (Nat.add_le_add_left (by decide) _) hr.un) (pe_ix (k_ix K) (pv 1) pe_int (fun _ _ => rfl)) (pv 2) (pe_lst pa_nil) rfl)
      (pss_one (ps_dput (Nat.lt_of_le_of_lt (Nat.add_le_add_left (by decide) _) hr.un) (pe_ix (k_ix K) (pv 1) pe_int (fun _ _ => rfl)) (pv 2) (pe_lst pa_nil) rfl))))
      (pss_cons (ps_for PassesOwn.never rfl (pi_range1 (by rfl) B_range (pa_cons pe_int pa_nil)) (pg_name (i := 4) sc.nd rfl (Or.inl rfl))
      (pss_cons (ps_set (i := 5) sc.nd rfl (Or.inl rfl) pe_bl)
      (pss_cons (ps_for PassesOwn.never rfl (pi_listK K (pv 0)) (pg_tupK K rfl (pgs_cons (pg_name (i := 2) sc.nd rfl (Or.inl rfl)) (pgs_cons (pg_name (i := 3) sc.nd rfl (Or.inl rfl)) pgs_nil)))
      (pss_cons (ps_if (pt_val (pe_fn C__law_empty (hr.mono (by decide)) (pa_cons (pv 3) (pa_cons (pv 1) pa_nil))))
      (pss_one (ps_set (i := 5) sc.nd rfl (Or.inl rfl) (pe_or (pe_fn C__law_put (hr.mono (by decide)) (pa_cons (pe_ix (k_ix K) (pv 1) pe_int (fun _ _ => rfl)) (pa_cons (pe_lst (pa_cons (pv 2) pa_nil)) pa_nil))) (pe_one (pv 5))))) pss_nil)
      (pss_cons (ps_set (i := 5) sc.nd rfl (Or.inl rfl) (pe_or (pe_fn C__law_put (hr.mono (by decide)) (pa_cons (pe_dget (Nat.lt_of_le_of_lt (Nat.add_le_add_left (by decide) _) hr.un) (pe_ix (k_ix K) (pv 1) pe_int (fun _ _ => rfl)) (pv 2) (fun _ _ => rfl)) (pa_cons (pe_fn C__law_first (hr.mono (by decide)) (pa_cons (pv 3) (pa_cons (pv 1) pa_nil))) pa_nil))) (pe_one (pv 5))))
      (pss_cons (ps_set (i := 6) sc.nd rfl (Or.inl rfl) (pe_callTy (k_list K) (by rfl) B_list (by decide +kernel) (pa_cons (pe_dget (Nat.lt_of_le_of_lt (Nat.add_le_add_left (by decide) _) hr.un) (pe_ix (k_ix K) (pv 1) pe_int (fun _ _ => rfl)) (pv 2) (fun _ _ => rfl)) pa_nil)))
      (pss_one (ps_for PassesOwn.never rfl (pi_range1 (by rfl) B_range (pa_cons (pe_callB (k_len K) (by rfl) B_len PySem.boot_len (pa_cons (pv 3) pa_nil)) pa_nil)) (pg_name (i := 7) sc.nd rfl (Or.inl rfl))
      (pss_cons (ps_set (i := 8) sc.nd rfl (Or.inr rfl) (pe_ix (k_ix K) (pv 3) (pe_op op_sub (pe_op op_sub (pe_callB (k_len K) (by rfl) B_len PySem.boot_len (pa_cons (pv 3) pa_nil)) pe_int) (pv 7)) (fun _ _ => rfl)))
      (pss_one (ps_if (pt_val (pe_fn C__law_is_token (hr.mono (by decide)) (pa_cons (pv 8) pa_nil)))
      (pss_one (ps_set (i := 6) sc.nd rfl (Or.inl rfl) (pe_lst (pa_cons (pv 8) pa_nil)))) (pss_cons (ps_set (i := 5) sc.nd rfl (Or.inl rfl) (pe_or (pe_fn C__law_put (hr.mono (by decide)) (pa_cons (pe_dget (Nat.lt_of_le_of_lt (Nat.add_le_add_left (by decide) _) hr.un) (pe_ix (k_ix K) (pv 1) pe_int (fun _ _ => rfl)) (pv 8) (fun _ _ => rfl)) (pa_cons (pv 6) pa_nil))) (pe_one (pv 5))))
      (pss_one (ps_set (i := 6) sc.nd rfl (Or.inl rfl) (pe_op op_cat (pe_dget (Nat.lt_of_le_of_lt (Nat.add_le_add_left (by decide) _) hr.un) (pe_ix (k_ix K) (pv 1) pe_int (fun _ _ => rfl)) (pv 8) (fun _ _ => rfl)) (pe_lc (own := [("_law_token", 9)]) (g := gName 9) (by rfl) sc.nd (pi_listK K (pv 6)) (blkOk_by (own := [("_law_token", 9)]) (N := n__law_sets) (sc := defScope s__law_sets) (by decide +kernel)) (fun _ _ _ _ _ => (pg_name (i := 9) sc.nd rfl (Or.inl rfl))) (fun _ _ _ _ _ => (pts_one (pt_cmpR (k_in K) (pv 8) (pe_ix (k_ix K) (pv 1) pe_int (fun _ _ => rfl)) rfl))) (fun _ _ _ _ _ => (pv 9))))))))))))))))
      (pss_one (ps_if (pt_not (pt_val (pv 5)))
      (pss_one (ps_break)) pss_nil)))))
      (pss_one (ps_ret (pv 1)))))), ?_⟩
  obtain ⟨⟨rules1, _⟩, r0, ⟨v_rules1, _, rfl, w_rules1, rfl⟩, h, k⟩ := h
  have hD : RtOk (nH3 K (nl K rS) (ndR K (nl K rS)) (ndR K (nl K rS))) H r0 { nx := fun _ H' => Q .non H', rt := Q } := fun v H' ⟨as, s, n, z⟩ => k v H' as s n z
  refine Sv.run (K := K) (G := ([rc (rL (rP K rS (rT K rS))) rules1, none, none, none, none, none, none, none, none, none] : Cells K)) ?_ (.ro w_rules1 (.skip (.skip (.skip (.skip (.skip (.skip (.skip (.skip (.skip .nil))))))))))
  have h : m__law_sets rules1 = .ok r0 := h
  unfold m__law_sets at h
  obtain ⟨setshere2, e_setshere2, h⟩ := mb_ok h; have e_setshere2 := ok_inj e_setshere2
  refine q_asg (R := (nH3 K (nl K rS) (ndR K (nl K rS)) (ndR K (nl K rS)))) (b := (([] : (List Str)), ([] : (List (Str × (List Str)))), ([] : (List (Str × (List Str)))))) (b' := setshere2) ?_ e_setshere2 ?_
  · walk_at "ev"
  obtain ⟨s5, hm, h⟩ := mb_ok h
  refine q_forM (G' := ([rc (rL (rP K rS (rT K rS))) rules1, some (.ow (nH3 K (nl K rS) (ndR K (nl K rS)) (ndR K (nl K rS))) setshere2), none, none, none, none, none, none, none, none] : Cells K)) (r := (rP K rS (rT K rS))) (f := (fun (s3 : ((List Str) × (List (Str × (List Str))) × (List (Str × (List Str))))) (x4 : (Str × (List Str))) => mb (chk (decide (s3.2.1.length < 100000))) fun _ => mb (chk (decide (((s3.1, dput s3.2.1 x4.1 ([] : (List Str)), s3.2.2).2.2).length < 100000))) fun _ => .ok ((s3.1, dput s3.2.1 x4.1 ([] : (List Str)), s3.2.2).1, (s3.1, dput s3.2.1 x4.1 ([] : (List Str)), s3.2.2).2.1, dput ((s3.1, dput s3.2.1 x4.1 ([] : (List Str)), s3.2.2).2.2) x4.1 ([] : (List Str))))) (s0 := setshere2) (fun (s3 : ((List Str) × (List (Str × (List Str))) × (List (Str × (List Str))))) => ([rc (rL (rP K rS (rT K rS))) rules1, some (.ow (nH3 K (nl K rS) (ndR K (nl K rS)) (ndR K (nl K rS))) s3), none, none, none, none, none, none, none, none] : Cells K)) hm ?_ (.keep (.keep (.keep (.keep (.keep (.keep (.keep (.keep (.keep (.keep .nil)))))))))) (fun H0' e0 x4 s3 s' h => ⟨_, tg_pair, ?_⟩) ?_
  · exact wk_ro (by rfl)
  · have hD : Nx H0' ((fun (s3 : ((List Str) × (List (Str × (List Str))) × (List (Str × (List Str))))) => ([rc (rL (rP K rS (rT K rS))) rules1, some (.ow (nH3 K (nl K rS) (ndR K (nl K rS)) (ndR K (nl K rS))) s3), none, none, none, none, none, none, none, none] : Cells K)) s') (Have H0' ((fun (s3 : ((List Str) × (List (Str × (List Str))) × (List (Str × (List Str))))) => ([rc (rL (rP K rS (rT K rS))) rules1, some (.ow (nH3 K (nl K rS) (ndR K (nl K rS)) (ndR K (nl K rS))) s3), none, none, none, none, none, none, none, none] : Cells K)) s')) := fun _ _ z => z
    obtain ⟨_, e_u6, h⟩ := mb_ok h; have e_u6 := of_decide_eq_true (chk_ok e_u6)
    refine q_dputP (b := ([] : (List Str))) (k := x4.1) ?_ (pl_h1 (pl_var (by rfl))) ?_ (by assumption) ?_
    · walk_at "ev"
    · walk_at "ev"
    obtain ⟨_, e_u7, h⟩ := mb_ok h; have e_u7 := of_decide_eq_true (chk_ok e_u7)
    refine l_dputP (b := ([] : (List Str))) (k := x4.1) ?_ (pl_h2 (pl_var (by rfl))) ?_ (by assumption) ?_
    · walk_at "ev"
    · walk_at "ev"
    cases h
    exact fun σ H hv => hD σ H (hv.less (.keep (.keep (.drop (.drop (.keep (.keep (.keep (.keep (.keep (.keep .nil)))))))))))
  obtain ⟨o10, hm, h⟩ := mb_ok h
  refine q_forF (G' := ([rc (rL (rP K rS (rT K rS))) rules1, some (.ow (nH3 K (nl K rS) (ndR K (nl K rS)) (ndR K (nl K rS))) s5), none, none, none, none, none, none, none, none] : Cells K)) (r := rI) (R := (nH3 K (nl K rS) (ndR K (nl K rS)) (ndR K (nl K rS)))) (f := (fun (s8 : ((List Str) × (List (Str × (List Str))) × (List (Str × (List Str))))) (x9 : Int) => mb (.ok false) fun grown11 => mb (mfor (fun (s12 : (((List Str) × (List (Str × (List Str))) × (List (Str × (List Str)))) × Bool)) (x13 : (Str × (List Str))) => mb (m__law_empty x13.2 s12.1) fun t15 => mb (bif t15 then mb (m__law_put s12.1.1 [x13.1]) fun w17 => .ok ((w17.1, s12.1.2), (w17.2 || s12.2)) else .ok (s12.1, s12.2)) fun (s16 : (((List Str) × (List (Str × (List Str))) × (List (Str × (List Str)))) × Bool)) => mb (oM (dkey s16.1.2.1 x13.1)) fun t18 => mb (m__law_first x13.2 s16.1) fun t19 => mb (m__law_put t18 t19) fun w20 => mb (oM (dkey ((s16.1.1, dput s16.1.2.1 x13.1 w20.1, s16.1.2.2).2.2) x13.1)) fun t21 => mb (chk (decide (-100000 ≤ (x13.2.length : Int) ∧ (x13.2.length : Int) ≤ 100000))) fun _ => mb (mfor (fun (s23 : (((List Str) × (List (Str × (List Str))) × (List (Str × (List Str)))) × Bool × (List Str))) (x24 : Int) => mb (oM (atI x13.2 (((x13.2.length : Int) - (1 : Int)) - x24))) fun t26 => mb (m__law_is_token t26) fun t27 => bif t27 then mb (.ok [t26]) fun after28 => .ok (s23.1, s23.2.1, after28) else mb (oM (dkey s23.1.2.2 t26)) fun t29 => mb (m__law_put t29 s23.2.2) fun w30 => mb (oM (dkey ((s23.1.1, s23.1.2.1, dput s23.1.2.2 t26 w30.1).2.1) t26)) fun t31 => mb (chk (decide (s23.2.2.length ≤ 100000))) fun _ => mb (chk (decide (t31.length + ((s23.2.2.filter (fun (y32 : Str) => (decide (t26 ∈ ((s23.1.1, s23.1.2.1, dput s23.1.2.2 t26 w30.1).1))))).map (fun (y32 : Str) => y32)).length ≤ 100000))) fun _ => mb (.ok (t31 ++ ((s23.2.2.filter (fun (y32 : Str) => (decide (t26 ∈ ((s23.1.1, s23.1.2.1, dput s23.1.2.2 t26 w30.1).1))))).map (fun (y32 : Str) => y32)))) fun after35 => .ok ((s23.1.1, s23.1.2.1, dput s23.1.2.2 t26 w30.1), (w30.2 || s23.2.1), after35)) ((s16.1.1, dput s16.1.2.1 x13.1 w20.1, s16.1.2.2), (w20.2 || s16.2), t21) (ups (x13.2.length : Int).toNat)) fun s25 => .ok (s25.1, s25.2.1)) (s8, grown11) rules1) fun s14 => bif (!s14.2) then .ok (.bk s14.1) else .ok (.nx s14.1))) (s0 := s5) (o := o10) (fun (s8 : ((List Str) × (List (Str × (List Str))) × (List (Str × (List Str))))) => ([rc (rL (rP K rS (rT K rS))) rules1, some (.ow (nH3 K (nl K rS) (ndR K (nl K rS)) (ndR K (nl K rS))) s8), none, none, none, none, none, none, none, none] : Cells K)) hm ?_ (.keep (.keep (.keep (.keep (.keep (.keep (.keep (.keep (.keep (.keep .nil)))))))))) (fun s8 e => ?_) (fun x e => ?_) (fun H0' D' e0 x9 s8 o' h hD => ⟨_, tg_name, ?_⟩)
  · refine wk_rng1 ?_ ?_
    · walk_at "ev"
    · first | assumption | omega
  · subst e; have h := go_nx h
    cases h
    exact r_retO (i := 1) hD (by rfl)
  · subst e; have h := go_rt h; cases h; exact hD
  · obtain ⟨grown11, e_grown11, h⟩ := mb_ok h; have e_grown11 := ok_inj e_grown11
    refine q_set (r := rB) (b := false) (b' := grown11) ?_ e_grown11 ?_
    · walk_at "ev"
    obtain ⟨s14, hm, h⟩ := mb_ok h
    refine q_forM (G' := ([rc (rL (rP K rS (rT K rS))) rules1, some (.ow (nH3 K (nl K rS) (ndR K (nl K rS)) (ndR K (nl K rS))) s8), none, none, fc rI x9, fc rB grown11, none, none, none, none] : Cells K)) (r := (rP K rS (rT K rS))) (f := (fun (s12 : (((List Str) × (List (Str × (List Str))) × (List (Str × (List Str)))) × Bool)) (x13 : (Str × (List Str))) => mb (m__law_empty x13.2 s12.1) fun t15 => mb (bif t15 then mb (m__law_put s12.1.1 [x13.1]) fun w17 => .ok ((w17.1, s12.1.2), (w17.2 || s12.2)) else .ok (s12.1, s12.2)) fun (s16 : (((List Str) × (List (Str × (List Str))) × (List (Str × (List Str)))) × Bool)) => mb (oM (dkey s16.1.2.1 x13.1)) fun t18 => mb (m__law_first x13.2 s16.1) fun t19 => mb (m__law_put t18 t19) fun w20 => mb (oM (dkey ((s16.1.1, dput s16.1.2.1 x13.1 w20.1, s16.1.2.2).2.2) x13.1)) fun t21 => mb (chk (decide (-100000 ≤ (x13.2.length : Int) ∧ (x13.2.length : Int) ≤ 100000))) fun _ => mb (mfor (fun (s23 : (((List Str) × (List (Str × (List Str))) × (List (Str × (List Str)))) × Bool × (List Str))) (x24 : Int) => mb (oM (atI x13.2 (((x13.2.length : Int) - (1 : Int)) - x24))) fun t26 => mb (m__law_is_token t26) fun t27 => bif t27 then mb (.ok [t26]) fun after28 => .ok (s23.1, s23.2.1, after28) else mb (oM (dkey s23.1.2.2 t26)) fun t29 => mb (m__law_put t29 s23.2.2) fun w30 => mb (oM (dkey ((s23.1.1, s23.1.2.1, dput s23.1.2.2 t26 w30.1).2.1) t26)) fun t31 => mb (chk (decide (s23.2.2.length ≤ 100000))) fun _ => mb (chk (decide (t31.length + ((s23.2.2.filter (fun (y32 : Str) => (decide (t26 ∈ ((s23.1.1, s23.1.2.1, dput s23.1.2.2 t26 w30.1).1))))).map (fun (y32 : Str) => y32)).length ≤ 100000))) fun _ => mb (.ok (t31 ++ ((s23.2.2.filter (fun (y32 : Str) => (decide (t26 ∈ ((s23.1.1, s23.1.2.1, dput s23.1.2.2 t26 w30.1).1))))).map (fun (y32 : Str) => y32)))) fun after35 => .ok ((s23.1.1, s23.1.2.1, dput s23.1.2.2 t26 w30.1), (w30.2 || s23.2.1), after35)) ((s16.1.1, dput s16.1.2.1 x13.1 w20.1, s16.1.2.2), (w20.2 || s16.2), t21) (ups (x13.2.length : Int).toNat)) fun s25 => .ok (s25.1, s25.2.1))) (s0 := (s8, grown11)) (fun (s12 : (((List Str) × (List (Str × (List Str))) × (List (Str × (List Str)))) × Bool)) => ([rc (rL (rP K rS (rT K rS))) rules1, some (.ow (nH3 K (nl K rS) (ndR K (nl K rS)) (ndR K (nl K rS))) s12.1), none, none, fc rI x9, fc rB s12.2, none, none, none, none] : Cells K)) hm ?_ (.keep (.keep (.keep (.keep (.keep (.keep (.keep (.keep (.keep (.keep .nil)))))))))) (fun H0' e0 x13 s12 s' h => ⟨_, tg_pair, ?_⟩) ?_
    · exact wk_ro (by rfl)
    · have hD : Nx H0' ((fun (s12 : (((List Str) × (List (Str × (List Str))) × (List (Str × (List Str)))) × Bool)) => ([rc (rL (rP K rS (rT K rS))) rules1, some (.ow (nH3 K (nl K rS) (ndR K (nl K rS)) (ndR K (nl K rS))) s12.1), none, none, fc rI x9, fc rB s12.2, none, none, none, none] : Cells K)) s') (Have H0' ((fun (s12 : (((List Str) × (List (Str × (List Str))) × (List (Str × (List Str)))) × Bool)) => ([rc (rL (rP K rS (rT K rS))) rules1, some (.ow (nH3 K (nl K rS) (ndR K (nl K rS)) (ndR K (nl K rS))) s12.1), none, none, fc rI x9, fc rB s12.2, none, none, none, none] : Cells K)) s')) := fun _ _ z => z
      obtain ⟨t15, e_t15, h⟩ := mb_ok h
      obtain ⟨s16, h1, h⟩ := mb_ok h
      refine cutK ([rc (rL (rP K rS (rT K rS))) rules1, some (.ow (nH3 K (nl K rS) (ndR K (nl K rS)) (ndR K (nl K rS))) s16.1), fc rS x13.1, fc (rT K rS) x13.2, fc rI x9, fc rB s16.2, none, none, none, none] : Cells K) (fun K1 => ?_) ?_
      · have h := h1; clear h1; have hD := K1
        refine q_if (c := t15) ?_ ?_ ?_
        · walk_at "ev"
        · intro hc; have h := bif_t h hc
          obtain ⟨w17, e_w17, h⟩ := mb_ok h
          refine l_setX (r := rB) (ex_or (d := s12.2) (ex_put (a := ([x13.1], ())) (pl_h0 (pl_var (by rfl))) ?_ (show _ = Except.ok (w17.1, w17.2) from e_w17)) (fun _ => ?_)) ?_
          · refine apa_cons ?_ ?_
            · refine ap_rg ?_
              refine rg_new (R := (nl K rS)) ?_ fun _ _ _ z => vw_nl z
              walk_at "ev"
            exact apa_nil
          · walk_at "ev"
          cases h
          exact fun σ H hv => hD σ H (hv.less (.keep (.keep (.keep (.keep (.keep (.keep (.keep (.keep (.keep (.keep .nil)))))))))))
        · intro hc; have h := bif_f h hc
          cases h
          exact fun σ H hv => hD σ H (hv.less (.keep (.keep (.keep (.keep (.keep (.keep (.keep (.keep (.keep (.keep .nil)))))))))))
      obtain ⟨t18, e_t18, h⟩ := mb_ok h; have e_t18 := oM_ok e_t18
      obtain ⟨t19, e_t19, h⟩ := mb_ok h
      obtain ⟨w20, e_w20, h⟩ := mb_ok h
      refine q_setX (r := rB) (ex_or (d := s16.2) (ex_put (a := (t19, ())) (pl_dget (pl_h1 (pl_var (by rfl))) (by walk_at "ev") e_t18) ?_ (show _ = Except.ok (w20.1, w20.2) from e_w20)) (fun _ => ?_)) ?_
      · refine apa_cons ?_ ?_
        · refine ap_rg ?_
          refine rg_new (R := (nl K rS)) ?_ fun _ _ _ z => vw_nl z
          walk_at "ev"
        exact apa_nil
      · walk_at "ev"
      obtain ⟨t21, e_t21, h⟩ := mb_ok h; have e_t21 := oM_ok e_t21
      refine q_asg (R := (nl K rS)) (b := t21) (b' := t21) ?_ rfl ?_
      · walk_at "ev"
      obtain ⟨_, e_u22, h⟩ := mb_ok h; have e_u22 := of_decide_eq_true (chk_ok e_u22)
      obtain ⟨s25, hm, h⟩ := mb_ok h
      refine l_forM (G' := ([rc (rL (rP K rS (rT K rS))) rules1, some (.ow (nH3 K (nl K rS) (ndR K (nl K rS)) (ndR K (nl K rS))) (s16.1.1, dput s16.1.2.1 x13.1 w20.1, s16.1.2.2)), fc rS x13.1, fc (rT K rS) x13.2, fc rI x9, fc rB (w20.2 || s16.2), some (.ow (nl K rS) t21), none, none, none] : Cells K)) (r := rI) (f := (fun (s23 : (((List Str) × (List (Str × (List Str))) × (List (Str × (List Str)))) × Bool × (List Str))) (x24 : Int) => mb (oM (atI x13.2 (((x13.2.length : Int) - (1 : Int)) - x24))) fun t26 => mb (m__law_is_token t26) fun t27 => bif t27 then mb (.ok [t26]) fun after28 => .ok (s23.1, s23.2.1, after28) else mb (oM (dkey s23.1.2.2 t26)) fun t29 => mb (m__law_put t29 s23.2.2) fun w30 => mb (oM (dkey ((s23.1.1, s23.1.2.1, dput s23.1.2.2 t26 w30.1).2.1) t26)) fun t31 => mb (chk (decide (s23.2.2.length ≤ 100000))) fun _ => mb (chk (decide (t31.length + ((s23.2.2.filter (fun (y32 : Str) => (decide (t26 ∈ ((s23.1.1, s23.1.2.1, dput s23.1.2.2 t26 w30.1).1))))).map (fun (y32 : Str) => y32)).length ≤ 100000))) fun _ => mb (.ok (t31 ++ ((s23.2.2.filter (fun (y32 : Str) => (decide (t26 ∈ ((s23.1.1, s23.1.2.1, dput s23.1.2.2 t26 w30.1).1))))).map (fun (y32 : Str) => y32)))) fun after35 => .ok ((s23.1.1, s23.1.2.1, dput s23.1.2.2 t26 w30.1), (w30.2 || s23.2.1), after35))) (s0 := ((s16.1.1, dput s16.1.2.1 x13.1 w20.1, s16.1.2.2), (w20.2 || s16.2), t21)) (fun (s23 : (((List Str) × (List (Str × (List Str))) × (List (Str × (List Str)))) × Bool × (List Str))) => ([rc (rL (rP K rS (rT K rS))) rules1, some (.ow (nH3 K (nl K rS) (ndR K (nl K rS)) (ndR K (nl K rS))) s23.1), fc rS x13.1, fc (rT K rS) x13.2, fc rI x9, fc rB s23.2.1, some (.ow (nl K rS) s23.2.2), none, none, none] : Cells K)) hm ?_ (.keep (.keep (.keep (.keep (.keep (.keep (.keep (.keep (.keep (.keep .nil)))))))))) (fun H0' e0 x24 s23 s' h => ⟨_, tg_name, ?_⟩) ?_
      · refine wk_rng1 ?_ ?_
        · walk_at "ev"
        · first | assumption | omega
      · have hD : Nx H0' ((fun (s23 : (((List Str) × (List (Str × (List Str))) × (List (Str × (List Str)))) × Bool × (List Str))) => ([rc (rL (rP K rS (rT K rS))) rules1, some (.ow (nH3 K (nl K rS) (ndR K (nl K rS)) (ndR K (nl K rS))) s23.1), fc rS x13.1, fc (rT K rS) x13.2, fc rI x9, fc rB s23.2.1, some (.ow (nl K rS) s23.2.2), none, none, none] : Cells K)) s') (Have H0' ((fun (s23 : (((List Str) × (List (Str × (List Str))) × (List (Str × (List Str)))) × Bool × (List Str))) => ([rc (rL (rP K rS (rT K rS))) rules1, some (.ow (nH3 K (nl K rS) (ndR K (nl K rS)) (ndR K (nl K rS))) s23.1), fc rS x13.1, fc (rT K rS) x13.2, fc rI x9, fc rB s23.2.1, some (.ow (nl K rS) s23.2.2), none, none, none] : Cells K)) s')) := fun _ _ z => z
        obtain ⟨t26, e_t26, h⟩ := mb_ok h; have e_t26 := oM_ok e_t26
        refine q_set (r := rS) (b := t26) (b' := t26) ?_ rfl ?_
        · walk_at "ev"
        obtain ⟨t27, e_t27, h⟩ := mb_ok h
        refine l_if (c := t27) ?_ ?_ ?_
        · walk_at "ev"
        · intro hc; have h := bif_t h hc
          obtain ⟨after28, e_after28, h⟩ := mb_ok h; have e_after28 := ok_inj e_after28
          refine l_asg (R := (nl K rS)) (b := [t26]) (b' := after28) ?_ e_after28 ?_
          · walk_at "ev"
          cases h
          exact fun σ H hv => hD σ H (hv.less (.keep (.keep (.keep (.keep (.keep (.keep (.keep (.drop (.drop (.keep .nil)))))))))))
        · intro hc; have h := bif_f h hc
          obtain ⟨t29, e_t29, h⟩ := mb_ok h; have e_t29 := oM_ok e_t29
          obtain ⟨w30, e_w30, h⟩ := mb_ok h
          refine q_setX (r := rB) (ex_or (d := s23.2.1) (ex_put (a := (s23.2.2, ())) (pl_dget (pl_h2 (pl_var (by rfl))) (by walk_at "ev") e_t29) ?_ (show _ = Except.ok (w30.1, w30.2) from e_w30)) (fun _ => ?_)) ?_
          · refine apa_cons ?_ ?_
            · exact ap_own (j := 6) (by rfl) (by decide) fun _ _ _ z => vw_nl z
            exact apa_nil
          · walk_at "ev"
          obtain ⟨t31, e_t31, h⟩ := mb_ok h; have e_t31 := oM_ok e_t31
          obtain ⟨_, e_u33, h⟩ := mb_ok h; have e_u33 := of_decide_eq_true (chk_ok e_u33)
          obtain ⟨_, e_u34, h⟩ := mb_ok h; have e_u34 := of_decide_eq_true (chk_ok e_u34)
          obtain ⟨after35, e_after35, h⟩ := mb_ok h; have e_after35 := ok_inj e_after35
          refine l_asg (R := (nl K rS)) (b := t31 ++ ((s23.2.2.filter (fun (y32 : Str) => (decide (t26 ∈ ((s23.1.1, s23.1.2.1, dput s23.1.2.2 t26 w30.1).1))))).map (fun (y32 : Str) => y32))) (b' := after35) ?_ e_after35 ?_
          · refine a_cat ?_ inferInstance inferInstance ?_ (by first | assumption | omega)
            · walk_at "ev"
            · refine Nw.lst ?_
              refine nw_lc (G' := ([rc (rL (rP K rS (rT K rS))) rules1, some (.ow (nH3 K (nl K rS) (ndR K (nl K rS)) (ndR K (nl K rS))) (s23.1.1, s23.1.2.1, dput s23.1.2.2 t26 w30.1)), fc rS x13.1, fc (rT K rS) x13.2, fc rI x9, fc rB (w30.2 || s23.2.1), rc (rL rS) s23.2.2, fc rI x24, fc rS t26, none] : Cells K)) (r := rS) ?_ (by first | assumption | (rw [ups_len]; omega) | (rw [List.length_map, List.length_range]; omega) | (simp only [List.length_cons, List.length_nil]; omega)) (fun _ y32 _ _ => ⟨_, tb_name, ?_, fun _ => ?_⟩)
              · exact wk_own (i := 6) (by rfl)
              · walk_at "ev"
              · walk_at "ev"
          cases h
          exact fun σ H hv => hD σ H (hv.less (.keep (.keep (.keep (.keep (.keep (.keep (.keep (.drop (.drop (.keep .nil)))))))))))
      cases h
      exact fun σ H hv => hD σ H (hv.less (.keep (.keep (.drop (.drop (.keep (.keep (.drop (.keep (.keep (.keep .nil)))))))))))
    refine l_if (c := (!s14.2)) ?_ ?_ ?_
    · walk_at "ev"
    · intro hc; have h := bif_t h hc
      cases h
      exact fun σ H hv => hD σ H (hv.less (.keep (.keep (.keep (.keep (.drop (.drop (.keep (.keep (.keep (.keep .nil)))))))))))
    · intro hc; have h := bif_f h hc
      cases h
      exact fun σ H hv => hD σ H (hv.less (.keep (.keep (.keep (.keep (.drop (.drop (.keep (.keep (.keep (.keep .nil)))))))))))
abbrev n__law_meet : List Str := ["_law_head", "_law_one", "_law_other", "_law_sets_here", "_law_rows", "_law_side", "_law_row", "_law_token"]
abbrev p__law_meet : List Str := ["_law_head", "_law_one", "_law_other", "_law_sets_here"]
theorem sc__law_meet : FnScope n__law_meet p__law_meet (defScope s__law_meet) := ⟨rfl, rfl, rfl, by decide +kernel, rfl, by decide +kernel, by decide +kernel⟩
abbrev sp__law_meet (K : PySem.W.Frag) : Sp := spM (aC rS (aC (rT K rS) (aC (rT K rS) (aC (rH3 (rL rS) (rD (rL rS)) (rD (rL rS))) aN)))) rB fun a => m__law_meet a.1 a.2.1 a.2.2.1 a.2.2.2.1
theorem c__law_meet {P : Program} {w : World} {K : PySem.W.Frag} {mg : Str → Option Value} {base : Heap} (F : Df K mg "_law_meet" s__law_meet) (B_len : mg "len" = none) (C__law_first : Cal P w K mg base CX0 "_law_first" 2 p__law_first (sp__law_first K)) (C__law_empty : Cal P w K mg base CX0 "_law_empty" 1 p__law_empty (sp__law_empty K)) : Cal P w K mg base CX0 "_law_meet" 3 p__law_meet (sp__law_meet K) := by
  refine cal_of F sc__law_meet (fun vs H Q E ⟨a, b, h, _⟩ => LenA.len h) (fun _ _ _ _ _ _ us hl => match us, hl with | [_, _, _, _], _ => rfl) fun cdv f A outer s H vs Q E hr h => ?_
  have sc := sc__law_meet
  refine ⟨_, (pss_cons (ps_set (i := 4) sc.nd rfl (Or.inr rfl) (pe_lst pa_nil))
      (pss_cons (ps_for PassesOwn.never rfl (pi_listK K (pe_lst (pa_cons (pv 1) (pa_cons (pv 2) pa_nil)))) (pg_name (i := 5) sc.nd rfl (Or.inl rfl))
      (pss_cons (ps_set (i := 6) sc.nd rfl (Or.inl rfl) (pe_fn C__law_first (hr.mono (by decide)) (pa_cons (pv 5) (pa_cons (pv 3) pa_nil))))
      (pss_cons (ps_if (pt_val (pe_fn C__law_empty (hr.mono (by decide)) (pa_cons (pv 5) (pa_cons (pv 3) pa_nil))))
      (pss_one (ps_set (i := 6) sc.nd rfl (Or.inl rfl) (pe_op op_cat (pe_op op_cat (pv 6) (pe_dget (Nat.lt_of_le_of_lt (Nat.add_le_add_left (by decide) _) hr.un) (pe_ix (k_ix K) (pv 3) pe_int (fun _ _ => rfl)) (pv 0) (fun _ _ => rfl))) (pe_lst (pa_cons pe_str pa_nil))))) pss_nil)
      (pss_one (ps_expr (pe_app K (pv 4) (pa_cons (pv 6) pa_nil)))))))
      (pss_one (ps_ret (pe_cmpR op_gt (pe_callB (k_len K) (by rfl) B_len PySem.boot_len (pa_cons (pe_lc (own := [("_law_token", 7)]) (g := gName 7) (by rfl) sc.nd (pi_listK K (pe_ix (k_ix K) (pv 4) pe_int (fun _ _ => rfl))) (blkOk_by (own := [("_law_token", 7)]) (N := n__law_meet) (sc := defScope s__law_meet) (by decide +kernel)) (fun _ _ _ _ _ => (pg_name (i := 7) sc.nd rfl (Or.inl rfl))) (fun _ _ _ _ _ => (pts_one (pt_cmpR (k_in K) (pv 7) (pe_ix (k_ix K) (pv 4) pe_int (fun _ _ => rfl)) rfl))) (fun _ _ _ _ _ => (pv 7))) pa_nil)) pe_int (nomark _)))))), ?_⟩
  obtain ⟨⟨head1, one2, other3, setshere4, _⟩, r0, ⟨v_head1, _, rfl, w_head1, ⟨v_one2, _, rfl, w_one2, ⟨v_other3, _, rfl, w_other3, ⟨v_setshere4, _, rfl, w_setshere4, rfl⟩⟩⟩⟩, h, k⟩ := h
  have hD : RtOk (fz K rB) H r0 { nx := fun _ H' => Q .non H', rt := Q } := fun v H' ⟨as, s, n, z⟩ => k v H' s z.2.now
  refine Sv.run (K := K) (G := ([fc rS head1, fc (rT K rS) one2, fc (rT K rS) other3, rc (rH3 (rL rS) (rD (rL rS)) (rD (rL rS))) setshere4, none, none, none, none] : Cells K)) ?_ (.fz w_head1 (.fz w_one2 (.fz w_other3 (.ro w_setshere4 (.skip (.skip (.skip (.skip .nil))))))))
  have h : m__law_meet head1 one2 other3 setshere4 = .ok r0 := h
  unfold m__law_meet at h
  obtain ⟨rows5, e_rows5, h⟩ := mb_ok h; have e_rows5 := ok_inj e_rows5
  refine q_asg (R := (nlR K (nl K rS))) (b := ([] : (List (List Str)))) (b' := rows5) ?_ e_rows5 ?_
  · walk_at "ev"
  obtain ⟨s8, hm, h⟩ := mb_ok h
  refine q_forM (G' := ([fc rS head1, fc (rT K rS) one2, fc (rT K rS) other3, rc (rH3 (rL rS) (rD (rL rS)) (rD (rL rS))) setshere4, some (.ow (nlR K (nl K rS)) rows5), none, none, none] : Cells K)) (r := (rT K rS)) (f := (fun (s6 : (List (List Str))) (x7 : (List Str)) => mb (m__law_first x7 setshere4) fun t9 => mb (m__law_empty x7 setshere4) fun t10 => mb (bif t10 then mb (oM (dkey setshere4.2.2 head1)) fun t12 => mb (chk (decide (t9.length + t12.length ≤ 100000))) fun _ => mb (chk (decide ((t9 ++ t12).length + ([("" : Str)]).length ≤ 100000))) fun _ => mb (.ok ((t9 ++ t12) ++ ([("" : Str)]))) fun row15 => .ok row15 else .ok t9) fun (s11 : (List Str)) => mb (chk (decide (s6.length < 100000))) fun _ => .ok (s6 ++ [s11]))) (s0 := rows5) (fun (s6 : (List (List Str))) => ([fc rS head1, fc (rT K rS) one2, fc (rT K rS) other3, rc (rH3 (rL rS) (rD (rL rS)) (rD (rL rS))) setshere4, some (.ow (nlR K (nl K rS)) s6), none, none, none] : Cells K)) hm ?_ (.keep (.keep (.keep (.keep (.keep (.keep (.keep (.keep .nil)))))))) (fun H0' e0 x7 s6 s' h => ⟨_, tg_name, ?_⟩) ?_
  · refine wk_new ?_
    walk_at "ev"
  · have hD : Nx H0' ((fun (s6 : (List (List Str))) => ([fc rS head1, fc (rT K rS) one2, fc (rT K rS) other3, rc (rH3 (rL rS) (rD (rL rS)) (rD (rL rS))) setshere4, some (.ow (nlR K (nl K rS)) s6), none, none, none] : Cells K)) s') (Have H0' ((fun (s6 : (List (List Str))) => ([fc rS head1, fc (rT K rS) one2, fc (rT K rS) other3, rc (rH3 (rL rS) (rD (rL rS)) (rD (rL rS))) setshere4, some (.ow (nlR K (nl K rS)) s6), none, none, none] : Cells K)) s')) := fun _ _ z => z
    obtain ⟨t9, e_t9, h⟩ := mb_ok h
    refine q_asg (R := (nl K rS)) (b := t9) (b' := t9) ?_ rfl ?_
    · walk_at "ev"
    obtain ⟨t10, e_t10, h⟩ := mb_ok h
    obtain ⟨s11, h1, h⟩ := mb_ok h
    refine cutK ([fc rS head1, fc (rT K rS) one2, fc (rT K rS) other3, rc (rH3 (rL rS) (rD (rL rS)) (rD (rL rS))) setshere4, some (.ow (nlR K (nl K rS)) s6), fc (rT K rS) x7, some (.ow (nl K rS) s11), none] : Cells K) (fun K1 => ?_) ?_
    · have h := h1; clear h1; have hD := K1
      refine q_if (c := t10) ?_ ?_ ?_
      · walk_at "ev"
      · intro hc; have h := bif_t h hc
        obtain ⟨t12, e_t12, h⟩ := mb_ok h; have e_t12 := oM_ok e_t12
        obtain ⟨_, e_u13, h⟩ := mb_ok h; have e_u13 := of_decide_eq_true (chk_ok e_u13)
        obtain ⟨_, e_u14, h⟩ := mb_ok h; have e_u14 := of_decide_eq_true (chk_ok e_u14)
        obtain ⟨row15, e_row15, h⟩ := mb_ok h; have e_row15 := ok_inj e_row15
        refine l_asg (R := (nl K rS)) (b := (t9 ++ t12) ++ ([("" : Str)])) (b' := row15) ?_ e_row15 ?_
        · walk_at "ev"
        cases h
        exact fun σ H hv => hD σ H (hv.less (.keep (.keep (.keep (.keep (.keep (.keep (.keep (.keep .nil)))))))))
      · intro hc; have h := bif_f h hc
        cases h
        exact fun σ H hv => hD σ H (hv.less (.keep (.keep (.keep (.keep (.keep (.keep (.keep (.keep .nil)))))))))
    obtain ⟨_, e_u16, h⟩ := mb_ok h; have e_u16 := of_decide_eq_true (chk_ok e_u16)
    refine l_appMv (i := 4) (m := 6) (by rfl) (by rfl) (by decide) (by assumption) ?_
    cases h
    exact fun σ H hv => hD σ H (hv.less (.keep (.keep (.keep (.keep (.keep (.drop (.keep (.keep .nil)))))))))
  refine q_frzR (rv := (rL (rL rS))) (i := 4) (by rfl) (fun _ _ _ z => vw_nlR (fun _ _ _ _ z => vw_nl z) z) ?_
  obtain ⟨t17, e_t17, h⟩ := mb_ok h; have e_t17 := oM_ok e_t17
  obtain ⟨_, e_u20, h⟩ := mb_ok h; have e_u20 := of_decide_eq_true (chk_ok e_u20)
  obtain ⟨zs21, e_zs21, h⟩ := mb_ok h
  cases h
  refine r_ret hD ?_
  refine ev_gt ?_ ?_
  · refine a_len (R := (rL rS)) ?_ lnc_L
    refine Nw.lst ?_
    refine nw_lcM (G' := ([fc rS head1, fc (rT K rS) one2, fc (rT K rS) other3, rc (rH3 (rL rS) (rD (rL rS)) (rD (rL rS))) setshere4, rc (rL (rL rS)) s8, none, none, none] : Cells K)) (r := rS) (p := (fun (y18 : Str) => mb (oM (atI s8 (1 : Int))) fun t19 => .ok (decide (y18 ∈ t19)))) (f := (fun (y18 : Str) => .ok y18)) ?_ (by first | assumption | (rw [ups_len]; omega) | (rw [List.length_map, List.length_range]; omega) | (simp only [List.length_cons, List.length_nil]; omega)) (fun y18 => ⟨_, tb_name, fun _ e => ?_, fun _ e => ?_⟩) e_zs21
    · refine wk_rg ?_
      refine rg_ixL ?_ ?_ e_t17
      · exact rg_ro (by rfl)
      · walk_at "ev"
    · obtain ⟨t19, e_t19, e⟩ := mb_ok e; have e_t19 := oM_ok e_t19
      cases e
      walk_at "ev"
    · cases e
      walk_at "ev"
  · walk_at "ev"
abbrev n__law_clashes : List Str := ["_law_rules", "_law_sets_here", "_law_k", "_law_head", "_law_side"]
abbrev p__law_clashes : List Str := ["_law_rules"]
theorem sc__law_clashes : FnScope n__law_clashes p__law_clashes (defScope s__law_clashes) := ⟨rfl, rfl, rfl, by decide +kernel, rfl, by decide +kernel, by decide +kernel⟩
abbrev sp__law_clashes (K : PySem.W.Frag) : Sp := spM (aC (rL (rP K rS (rT K rS))) aN) rB fun a => m__law_clashes a.1
theorem c__law_clashes {P : Program} {w : World} {K : PySem.W.Frag} {mg : Str → Option Value} {base : Heap} (F : Df K mg "_law_clashes" s__law_clashes) (B_len : mg "len" = none) (B_range : mg "range" = none) (C__law_sets : Cal P w K mg base CX0 "_law_sets" 3 p__law_sets (sp__law_sets K)) (C__law_meet : Cal P w K mg base CX0 "_law_meet" 3 p__law_meet (sp__law_meet K)) : Cal P w K mg base CX0 "_law_clashes" 4 p__law_clashes (sp__law_clashes K) := by
  refine cal_of F sc__law_clashes (fun vs H Q E ⟨a, b, h, _⟩ => LenA.len h) (fun _ _ _ _ _ _ us hl => match us, hl with | [_], _ => rfl) fun cdv f A outer s H vs Q E hr h => ?_
  have sc := sc__law_clashes
  refine ⟨_, (pss_cons (ps_set (i := 1) sc.nd rfl (Or.inl rfl) (pe_fn C__law_sets (hr.mono (by decide)) (pa_cons (pv 0) pa_nil)))
      (pss_cons (ps_for PassesOwn.never rfl (pi_range1 (by rfl) B_range (pa_cons (pe_callB (k_len K) (by rfl) B_len PySem.boot_len (pa_cons (pv 0) pa_nil)) pa_nil)) (pg_name (i := 2) sc.nd rfl (Or.inl rfl))
      (pss_one (ps_for PassesOwn.never rfl (pi_listK K (pe_slice (k_slL K) (pv 0) (po_some (pe_op op_add (pv 2) pe_int)) po_none)) (pg_tupK K rfl (pgs_cons (pg_name (i := 3) sc.nd rfl (Or.inl rfl)) (pgs_cons (pg_name (i := 4) sc.nd rfl (Or.inl rfl)) pgs_nil)))
      (pss_one (ps_if (PW.pt (pw_and (pt_cmpR op_eq (pv 3) (pe_ix (k_ix K) (pe_ix (k_ix K) (pv 0) (pv 2) (fun _ _ => rfl)) pe_int (fun _ _ => rfl)) (nomark _)) (pw_and1 (pt_val (pe_fn C__law_meet (hr.mono (by decide)) (pa_cons (pv 3) (pa_cons (pe_ix (k_ix K) (pe_ix (k_ix K) (pv 0) (pv 2) (fun _ _ => rfl)) pe_int (fun _ _ => rfl)) (pa_cons (pv 4) (pa_cons (pv 1) pa_nil)))))))))
      (pss_one (ps_ret pe_bl)) pss_nil)))))
      (pss_one (ps_ret pe_bl)))), ?_⟩
  obtain ⟨⟨rules1, _⟩, r0, ⟨v_rules1, _, rfl, w_rules1, rfl⟩, h, k⟩ := h
  have hD : RtOk (fz K rB) H r0 { nx := fun _ H' => Q .non H', rt := Q } := fun v H' ⟨as, s, n, z⟩ => k v H' s z.2.now
  refine Sv.run (K := K) (G := ([rc (rL (rP K rS (rT K rS))) rules1, none, none, none, none] : Cells K)) ?_ (.ro w_rules1 (.skip (.skip (.skip (.skip .nil)))))
  have h : m__law_clashes rules1 = .ok r0 := h
  unfold m__law_clashes at h
  obtain ⟨t2, e_t2, h⟩ := mb_ok h
  refine q_asg (R := (nH3 K (nl K rS) (ndR K (nl K rS)) (ndR K (nl K rS)))) (b := t2) (b' := t2) ?_ rfl ?_
  · walk_at "ev"
  obtain ⟨_, e_u3, h⟩ := mb_ok h; have e_u3 := of_decide_eq_true (chk_ok e_u3)
  obtain ⟨o6, hm, h⟩ := mb_ok h
  refine q_forF (G' := ([rc (rL (rP K rS (rT K rS))) rules1, some (.ow (nH3 K (nl K rS) (ndR K (nl K rS)) (ndR K (nl K rS))) t2), none, none, none] : Cells K)) (r := rI) (R := (fz K rB)) (f := (fun (s4 : Unit) (x5 : Int) => mb (mforF (fun (s7 : Unit) (x8 : (Str × (List Str))) => mb (oM (atI rules1 x5)) fun t10 => mb (mand (decide (x8.1 = t10.1)) (mb (m__law_meet x8.1 t10.2 x8.2 t2) fun t11 => .ok t11)) fun c12 => bif c12 then .ok (.rt true) else .ok (.nx ())) () (cut rules1 (some (x5 + (1 : Int))) none) : M (Fl Unit Bool)) fun o9 => Fl.go o9 (fun (s7 : Unit) => .ok (.nx ())) (fun x => .ok (.rt x)) (fun _ => .error .stuck))) (s0 := ()) (o := o6) (fun (s4 : Unit) => ([rc (rL (rP K rS (rT K rS))) rules1, some (.ow (nH3 K (nl K rS) (ndR K (nl K rS)) (ndR K (nl K rS))) t2), none, none, none] : Cells K)) hm ?_ (.keep (.keep (.keep (.keep (.keep .nil))))) (fun s4 e => ?_) (fun x e => ?_) (fun H0' D' e0 x5 s4 o' h hD => ⟨_, tg_name, ?_⟩)
  · refine wk_rng1 ?_ ?_
    · walk_at "ev"
    · first | assumption | omega
  · subst e; have h := go_nx h
    cases h
    refine r_ret hD ?_
    walk_at "ev"
  · subst e; have h := go_rt h; cases h; exact hD
  · obtain ⟨o9, hm, h⟩ := mb_ok h
    refine l_forF (G' := ([rc (rL (rP K rS (rT K rS))) rules1, some (.ow (nH3 K (nl K rS) (ndR K (nl K rS)) (ndR K (nl K rS))) t2), fc rI x5, none, none] : Cells K)) (r := (rP K rS (rT K rS))) (R := (fz K rB)) (f := (fun (s7 : Unit) (x8 : (Str × (List Str))) => mb (oM (atI rules1 x5)) fun t10 => mb (mand (decide (x8.1 = t10.1)) (mb (m__law_meet x8.1 t10.2 x8.2 t2) fun t11 => .ok t11)) fun c12 => bif c12 then .ok (.rt true) else .ok (.nx ()))) (s0 := ()) (o := o9) (fun (s7 : Unit) => ([rc (rL (rP K rS (rT K rS))) rules1, some (.ow (nH3 K (nl K rS) (ndR K (nl K rS)) (ndR K (nl K rS))) t2), fc rI x5, none, none] : Cells K)) hm ?_ (.keep (.keep (.keep (.keep (.keep .nil))))) (fun s7 e => ?_) (fun x e => ?_) (fun H0' D' e0 x8 s7 o' h hD => ⟨_, tg_pair, ?_⟩)
    · refine wk_new ?_
      walk_at "ev"
    · subst e; have h := go_nx h
      cases h
      exact fun σ H hv => hD σ H (hv.less (.keep (.keep (.drop (.keep (.keep .nil))))))
    · subst e; have h := go_rt h; cases h; exact hD
    · obtain ⟨t10, e_t10, h⟩ := mb_ok h; have e_t10 := oM_ok e_t10
      obtain ⟨c12, e_c12, h⟩ := mb_ok h
      refine l_if (c := c12) ?_ ?_ ?_
      · refine et_andM ?_ (fun _ e => ?_) e_c12
        · walk_at "ev"
        obtain ⟨t11, e_t11, e⟩ := mb_ok e
        cases e
        walk_at "ev"
      · intro hc; have h := bif_t h hc
        cases h
        refine r_ret hD ?_
        walk_at "ev"
      · intro hc; have h := bif_f h hc
        cases h
        exact fun σ H hv => hD σ H (hv.less (.keep (.keep (.keep (.drop (.drop .nil))))))
abbrev n__law_offers : List Str := ["_law_draws_here", "_law_n", "_law_heads_here", "_law_tokens_here", "_law_offered", "_law_sides", "_law_k", "_law_row", "_law_place", "_law_kind", "_law_d", "_law_side", "_law_one"]
abbrev p__law_offers : List Str := ["_law_draws_here", "_law_n", "_law_heads_here", "_law_tokens_here", "_law_offered"]
theorem sc__law_offers : FnScope n__law_offers p__law_offers (defScope s__law_offers) := ⟨rfl, rfl, rfl, by decide +kernel, rfl, by decide +kernel, by decide +kernel⟩
abbrev sp__law_offers (K : PySem.W.Frag) : Sp := spMN (aC (rL rI) (aC rI (aC (rL rS) (aC (rL rS) (aC (rL rI) aN))))) (nlR K (nl K (rT K rS))) fun a => m__law_offers a.1 a.2.1 a.2.2.1 a.2.2.2.1 a.2.2.2.2.1
theorem c__law_offers {P : Program} {w : World} {K : PySem.W.Frag} {mg : Str → Option Value} {base : Heap} (F : Df K mg "_law_offers" s__law_offers) (B_range : mg "range" = none) (B_int : mg "int" = none) (B_len : mg "len" = none) : Cal P w K mg base CX0 "_law_offers" 1 p__law_offers (sp__law_offers K) := by
  refine cal_of F sc__law_offers (fun vs H Q E ⟨a, b, h, _⟩ => LenA.len h) (fun _ _ _ _ _ _ us hl => match us, hl with | [_, _, _, _, _], _ => rfl) fun cdv f A outer s H vs Q E hr h => ?_
  have sc := sc__law_offers
  refine ⟨_, (pss_cons (ps_setLc (i := 5) (own := [("_law_k", 6)]) (g := gName 6) (tt := tYes) (by rfl) sc.nd rfl rfl (sw_true rfl rfl rfl (by decide +kernel)) (pi_range1 (by rfl) B_range (pa_cons (pv 1) pa_nil)) (blkOk_by (own := [("_law_k", 6)]) (N := n__law_offers) (sc := defScope s__law_offers) (by decide +kernel)) (fun _ _ _ _ _ => (pg_name (i := 6) sc.nd rfl (Or.inl rfl))) (fun _ _ _ _ _ => pts_nil) (fun _ _ _ _ _ => (pe_lst (pa_cons (pe_tupD (pa_cons (pe_ix (k_ix K) (pv 3) (pe_op op_mod (pe_callTy call_int1 (by rfl) B_int (by decide +kernel) (pa_cons (pe_ix (k_ix K) (pv 0) (pe_op op_add pe_int (pv 6)) (fun _ _ => rfl)) pa_nil)) pe_int) (fun _ _ => rfl)) pa_nil)) pa_nil))))
      (pss_cons (ps_for PassesOwn.never rfl (pi_range2 (by rfl) B_range (pa_cons pe_int (pa_cons (pv 1) pa_nil))) (pg_name (i := 6) sc.nd rfl (Or.inl rfl))
      (pss_cons (ps_set (i := 7) sc.nd rfl (Or.inl rfl) (pe_ix (k_ix K) (pv 5) (pe_op op_mod (pe_callTy call_int1 (by rfl) B_int (by decide +kernel) (pa_cons (pe_ix (k_ix K) (pv 0) (pe_op op_add pe_int (pv 6)) (fun _ _ => rfl)) pa_nil)) (pv 6)) (fun _ _ => rfl)))
      (pss_cons (ps_asg (pe_op (k_catA K) (pe_ix (k_ix K) (pv 7) pe_int (fun _ _ => rfl)) (pe_tupD (pa_cons (pe_ix (k_ix K) (pv 2) (pv 6) (fun _ _ => rfl)) pa_nil))) (pg_sub (pv 7) pe_int set_list))
      (pss_one (ps_if (pt_cmpR op_eq (pe_op op_mod (pe_op op_fdiv (pe_callTy call_int1 (by rfl) B_int (by decide +kernel) (pa_cons (pe_ix (k_ix K) (pv 0) (pe_op op_add pe_int (pv 6)) (fun _ _ => rfl)) pa_nil)) pe_int) pe_int) pe_int (nomark _))
      (pss_one (ps_asg (pe_op (k_catA K) (pe_ix (k_ix K) (pv 7) pe_int (fun _ _ => rfl)) (pe_tupD (pa_cons (pe_ix (k_ix K) (pv 3) (pe_op op_mod (pe_callTy call_int1 (by rfl) B_int (by decide +kernel) (pa_cons (pe_ix (k_ix K) (pv 0) (pe_op op_add pe_int (pv 6)) (fun _ _ => rfl)) pa_nil)) pe_int) (fun _ _ => rfl)) pa_nil))) (pg_sub (pv 7) pe_int set_list))) pss_nil)))))
      (pss_cons (ps_for PassesOwn.never rfl (pi_range1 (by rfl) B_range (pa_cons (pe_op op_mod (pe_callTy call_int1 (by rfl) B_int (by decide +kernel) (pa_cons (pe_ix (k_ix K) (pv 0) pe_int (fun _ _ => rfl)) pa_nil)) pe_int) pa_nil)) (pg_name (i := 6) sc.nd rfl (Or.inl rfl))
      (pss_cons (ps_set (i := 8) sc.nd rfl (Or.inl rfl) (pe_op op_mod (pe_callTy call_int1 (by rfl) B_int (by decide +kernel) (pa_cons (pe_ix (k_ix K) (pv 0) (pe_op op_add pe_int (pe_op op_mul pe_int (pv 6))) (fun _ _ => rfl)) pa_nil)) (pv 1)))
      (pss_cons (ps_set (i := 9) sc.nd rfl (Or.inl rfl) (pe_op op_mod (pe_op op_fdiv (pe_callTy call_int1 (by rfl) B_int (by decide +kernel) (pa_cons (pe_ix (k_ix K) (pv 0) (pe_op op_add pe_int (pe_op op_mul pe_int (pv 6))) (fun _ _ => rfl)) pa_nil)) pe_int) pe_int))
      (pss_cons (ps_set (i := 10) sc.nd rfl (Or.inl rfl) (pe_callTy call_int1 (by rfl) B_int (by decide +kernel) (pa_cons (pe_ix (k_ix K) (pv 0) (pe_op op_add pe_int (pe_op op_mul pe_int (pv 6))) (fun _ _ => rfl)) pa_nil)))
      (pss_cons (ps_set (i := 11) sc.nd rfl (Or.inl rfl) (pe_tupD pa_nil))
      (pss_cons (ps_if (PW.pt (pw_and (pt_cmpR op_eq (pv 9) pe_int (nomark _)) (pw_and1 (pt_cmpR op_lt (pe_op op_add (pv 8) pe_int) (pv 1) (nomark _)))))
      (pss_one (ps_set (i := 11) sc.nd rfl (Or.inl rfl) (pe_tupD (pa_cons (pe_ix (k_ix K) (pv 2) (pe_op op_add (pe_op op_add (pv 8) pe_int) (pe_op op_mod (pe_op op_fdiv (pv 10) pe_int) (pe_op op_sub (pe_op op_sub (pv 1) (pv 8)) pe_int))) (fun _ _ => rfl)) pa_nil)))) (pss_one (ps_if (pt_cmpR op_gt (pv 9) pe_int (nomark _))
      (pss_one (ps_set (i := 11) sc.nd rfl (Or.inl rfl) (pe_tupD (pa_cons (pe_ix (k_ix K) (pv 3) (pe_op op_mod (pe_op op_fdiv (pv 10) pe_int) pe_int) (fun _ _ => rfl)) pa_nil)))) pss_nil)))
      (pss_cons (ps_for PassesOwn.never rfl (pi_listK K (pe_slice (k_slL K) (pv 0) (po_some (pe_op op_add pe_int (pe_op op_mul pe_int (pv 6)))) (po_some (pe_op op_add (pe_op op_add pe_int (pe_op op_mul pe_int (pv 6))) (pe_op op_mul (pe_op op_mod (pv 10) pe_int) (pe_callTy call_int1 (by rfl) B_int (by decide +kernel) (pa_cons (pe_cmpR op_gt (pv 9) pe_int (nomark _)) pa_nil))))))) (pg_name (i := 12) sc.nd rfl (Or.inl rfl))
      (pss_cons (ps_set (i := 7) sc.nd rfl (Or.inl rfl) (pe_ix (k_ix K) (pe_lst (pa_cons (pv 3) (pa_cons (pv 2) pa_nil))) (pe_op op_mod (pe_callTy call_int1 (by rfl) B_int (by decide +kernel) (pa_cons (pv 12) pa_nil)) pe_int) (fun _ _ => rfl)))
      (pss_one (ps_set (i := 11) sc.nd rfl (Or.inl rfl) (pe_op (k_catA K) (pv 11) (pe_tupD (pa_cons (pe_ix (k_ix K) (pv 7) (pe_op op_mod (pe_op op_fdiv (pe_callTy call_int1 (by rfl) B_int (by decide +kernel) (pa_cons (pv 12) pa_nil)) pe_int) (pe_callB (k_len K) (by rfl) B_len PySem.boot_len (pa_cons (pv 7) pa_nil))) (fun _ _ => rfl)) pa_nil)))))))
      (pss_one (ps_if (pt_cmpR op_eq (pe_ix (k_ix K) (pv 4) (pv 6) (fun _ _ => rfl)) pe_int (nomark _))
      (pss_cons (ps_set (i := 7) sc.nd rfl (Or.inl rfl) (pe_ix (k_ix K) (pv 5) (pv 8) (fun _ _ => rfl)))
      (pss_one (ps_expr (pe_app K (pv 7) (pa_cons (pv 11) pa_nil))))) pss_nil)))))))))
      (pss_one (ps_ret (pv 5)))))), ?_⟩
  obtain ⟨⟨drawshere1, n2, headshere3, tokenshere4, offered5, _⟩, r0, ⟨v_drawshere1, _, rfl, w_drawshere1, ⟨v_n2, _, rfl, w_n2, ⟨v_headshere3, _, rfl, w_headshere3, ⟨v_tokenshere4, _, rfl, w_tokenshere4, ⟨v_offered5, _, rfl, w_offered5, rfl⟩⟩⟩⟩⟩, h, k⟩ := h
  have hD : RtOk (nlR K (nl K (rT K rS))) H r0 { nx := fun _ H' => Q .non H', rt := Q } := fun v H' ⟨as, s, n, z⟩ => k v H' as s n z
  refine Sv.run (K := K) (G := ([rc (rL rI) drawshere1, fc rI n2, rc (rL rS) headshere3, rc (rL rS) tokenshere4, rc (rL rI) offered5, none, none, none, none, none, none, none, none] : Cells K)) ?_ (.ro w_drawshere1 (.fz w_n2 (.ro w_headshere3 (.ro w_tokenshere4 (.ro w_offered5 (.skip (.skip (.skip (.skip (.skip (.skip (.skip (.skip .nil)))))))))))))
  have h : m__law_offers drawshere1 n2 headshere3 tokenshere4 offered5 = .ok r0 := h
  unfold m__law_offers at h
  obtain ⟨_, e_u6, h⟩ := mb_ok h; have e_u6 := of_decide_eq_true (chk_ok e_u6)
  obtain ⟨zs10, e_zs10, h⟩ := mb_ok h
  refine q_asg (R := (nlR K (nl K (rT K rS)))) (b := zs10) (b' := zs10) ?_ rfl ?_
  · refine nw_lcR (G' := ([rc (rL rI) drawshere1, fc rI n2, rc (rL rS) headshere3, rc (rL rS) tokenshere4, rc (rL rI) offered5, none, none, none, none, none, none, none, none] : Cells K)) (r := rI) (f := (fun (y7 : Int) => mb (oM (atI drawshere1 ((2 : Int) + y7))) fun t8 => mb (oM (atI tokenshere4 (t8 % (6 : Int)))) fun t9 => .ok [[t9]])) ?_ (by first | assumption | (rw [ups_len]; omega) | (rw [List.length_map, List.length_range]; omega) | (simp only [List.length_cons, List.length_nil]; omega)) (fun y7 => ⟨_, tb_name, fun _ e => ?_⟩) e_zs10
    · refine wk_rng1 ?_ ?_
      · walk_at "ev"
      · first | assumption | omega
    · obtain ⟨t8, e_t8, e⟩ := mb_ok e; have e_t8 := oM_ok e_t8
      obtain ⟨t9, e_t9, e⟩ := mb_ok e; have e_t9 := oM_ok e_t9
      cases e
      walk_at "ev"
  obtain ⟨_, e_u11, h⟩ := mb_ok h; have e_u11 := of_decide_eq_true (chk_ok e_u11)
  obtain ⟨s14, hm, h⟩ := mb_ok h
  refine q_forM (G' := ([rc (rL rI) drawshere1, fc rI n2, rc (rL rS) headshere3, rc (rL rS) tokenshere4, rc (rL rI) offered5, some (.ow (nlR K (nl K (rT K rS))) zs10), none, none, none, none, none, none, none] : Cells K)) (r := rI) (f := (fun (s12 : (List (List (List Str)))) (x13 : Int) => mb (oM (atI drawshere1 ((6 : Int) + x13))) fun t15 => mb (chk (decide (0 < x13))) fun _ => mb (oM (ixN s12.length (t15 % x13))) fun j17 => mb (oM (s12[j17]?)) fun x18 => mb (oM (atI x18 (0 : Int))) fun t20 => mb (oM (atI headshere3 x13)) fun t21 => mb (chk (decide (t20.length + [t21].length ≤ 100000))) fun _ => mb (oM (ixN x18.length (0 : Int))) fun j23 => bif (decide (((t15 / (4 : Int)) % (2 : Int)) = (1 : Int))) then mb (oM (atI (x18.set j23 (t20 ++ [t21])) (0 : Int))) fun t25 => mb (oM (atI drawshere1 ((10 : Int) + x13))) fun t26 => mb (oM (atI tokenshere4 (t26 % (6 : Int)))) fun t27 => mb (chk (decide (t25.length + [t27].length ≤ 100000))) fun _ => mb (oM (ixN (x18.set j23 (t20 ++ [t21])).length (0 : Int))) fun j29 => .ok (((s12).set j17 (x18.set j23 (t20 ++ [t21]))).set j17 ((x18.set j23 (t20 ++ [t21])).set j29 (t25 ++ [t27]))) else .ok ((s12).set j17 (x18.set j23 (t20 ++ [t21]))))) (s0 := zs10) (fun (s12 : (List (List (List Str)))) => ([rc (rL rI) drawshere1, fc rI n2, rc (rL rS) headshere3, rc (rL rS) tokenshere4, rc (rL rI) offered5, some (.ow (nlR K (nl K (rT K rS))) s12), none, none, none, none, none, none, none] : Cells K)) hm ?_ (.keep (.keep (.keep (.keep (.keep (.keep (.keep (.keep (.keep (.keep (.keep (.keep (.keep .nil))))))))))))) (fun H0' e0 x13 s12 s' h => ⟨_, tg_name, ?_⟩) ?_
  · refine wk_rng2 ?_ ?_ ?_
    · walk_at "ev"
    · walk_at "ev"
    · first | assumption | omega
  · have hD : Nx H0' ((fun (s12 : (List (List (List Str)))) => ([rc (rL rI) drawshere1, fc rI n2, rc (rL rS) headshere3, rc (rL rS) tokenshere4, rc (rL rI) offered5, some (.ow (nlR K (nl K (rT K rS))) s12), none, none, none, none, none, none, none] : Cells K)) s') (Have H0' ((fun (s12 : (List (List (List Str)))) => ([rc (rL rI) drawshere1, fc rI n2, rc (rL rS) headshere3, rc (rL rS) tokenshere4, rc (rL rI) offered5, some (.ow (nlR K (nl K (rT K rS))) s12), none, none, none, none, none, none, none] : Cells K)) s')) := fun _ _ z => z
    obtain ⟨t15, e_t15, h⟩ := mb_ok h; have e_t15 := oM_ok e_t15
    obtain ⟨_, e_u16, h⟩ := mb_ok h; have e_u16 := of_decide_eq_true (chk_ok e_u16)
    obtain ⟨j17, e_j17, h⟩ := mb_ok h; have e_j17 := oM_ok e_j17
    obtain ⟨x18, e_x18, h⟩ := mb_ok h; have e_x18 := oM_ok e_x18
    refine q_alias2 (i := 5) (m := 7) (by rfl) ?_ e_j17 e_x18 (by decide) (fun w_row19 => ?_)
    · walk_at "ev"
    obtain ⟨t20, e_t20, h⟩ := mb_ok h; have e_t20 := oM_ok e_t20
    obtain ⟨t21, e_t21, h⟩ := mb_ok h; have e_t21 := oM_ok e_t21
    obtain ⟨_, e_u22, h⟩ := mb_ok h; have e_u22 := of_decide_eq_true (chk_ok e_u22)
    obtain ⟨j23, e_j23, h⟩ := mb_ok h; have e_j23 := oM_ok e_j23
    refine q_lsetP (a := t20 ++ [t21]) ?_ (pl_at (m := 7) (i := 5) (by rfl) (by rfl) e_x18) ?_ e_j23 ?_
    · walk_at "ev"
    · walk_at "ev"
    have hx24 := get_set (y := x18.set j23 (t20 ++ [t21])) e_x18
    refine l_if (c := (decide (((t15 / (4 : Int)) % (2 : Int)) = (1 : Int)))) ?_ ?_ ?_
    · walk_at "ev"
    · intro hc; have h := bif_t h hc
      obtain ⟨t25, e_t25, h⟩ := mb_ok h; have e_t25 := oM_ok e_t25
      obtain ⟨t26, e_t26, h⟩ := mb_ok h; have e_t26 := oM_ok e_t26
      obtain ⟨t27, e_t27, h⟩ := mb_ok h; have e_t27 := oM_ok e_t27
      obtain ⟨_, e_u28, h⟩ := mb_ok h; have e_u28 := of_decide_eq_true (chk_ok e_u28)
      obtain ⟨j29, e_j29, h⟩ := mb_ok h; have e_j29 := oM_ok e_j29
      refine l_lsetP (a := t25 ++ [t27]) ?_ (pl_at (m := 7) (i := 5) (by rfl) (by rfl) hx24) ?_ e_j29 ?_
      · walk_at "ev"
      · walk_at "ev"
      have hx30 := get_set (y := (x18.set j23 (t20 ++ [t21])).set j29 (t25 ++ [t27])) hx24
      cases h
      exact fun σ H hv => hD σ H ((have_unat (i := 5) (by rfl) hv).less (.keep (.keep (.keep (.keep (.keep (.keep (.drop (.drop (.keep (.keep (.keep (.keep (.keep .nil))))))))))))))
    · intro hc; have h := bif_f h hc
      cases h
      exact fun σ H hv => hD σ H ((have_unat (i := 5) (by rfl) hv).less (.keep (.keep (.keep (.keep (.keep (.keep (.drop (.drop (.keep (.keep (.keep (.keep (.keep .nil))))))))))))))
  obtain ⟨t31, e_t31, h⟩ := mb_ok h; have e_t31 := oM_ok e_t31
  obtain ⟨_, e_u32, h⟩ := mb_ok h; have e_u32 := of_decide_eq_true (chk_ok e_u32)
  obtain ⟨s35, hm, h⟩ := mb_ok h
  refine q_forM (G' := ([rc (rL rI) drawshere1, fc rI n2, rc (rL rS) headshere3, rc (rL rS) tokenshere4, rc (rL rI) offered5, some (.ow (nlR K (nl K (rT K rS))) s14), none, none, none, none, none, none, none] : Cells K)) (r := rI) (f := (fun (s33 : (List (List (List Str)))) (x34 : Int) => mb (oM (atI drawshere1 ((15 : Int) + ((5 : Int) * x34)))) fun t36 => mb (chk (decide (0 < n2))) fun _ => mb (.ok (t36 % n2)) fun place38 => mb (.ok ((t36 / (4 : Int)) % (5 : Int))) fun kind39 => mb (oM (atI drawshere1 ((16 : Int) + ((5 : Int) * x34)))) fun t40 => mb (.ok ([] : (List Str))) fun side41 => mb (bif ((decide (kind39 = (1 : Int))) && (decide ((place38 + (1 : Int)) < n2))) then mb (chk (decide (0 < ((n2 - place38) - (1 : Int))))) fun _ => mb (oM (atI headshere3 ((place38 + (1 : Int)) + ((t40 / (4 : Int)) % ((n2 - place38) - (1 : Int)))))) fun t44 => mb (.ok [t44]) fun side45 => .ok side45 else bif (decide ((0 : Int) < kind39)) then mb (oM (atI tokenshere4 ((t40 / (4 : Int)) % (6 : Int)))) fun t46 => mb (.ok [t46]) fun side47 => .ok side47 else .ok side41) fun (s42 : (List Str)) => mb (mfor (fun (s48 : ((List (List (List Str))) × (List Str))) (x49 : Int) => mb (oM (atI ([tokenshere4, headshere3]) (x49 % (2 : Int)))) fun t51 => mb (chk (decide (0 < (t51.length : Int)))) fun _ => mb (oM (atI t51 ((x49 / (2 : Int)) % (t51.length : Int)))) fun t53 => mb (chk (decide (s48.2.length + [t53].length ≤ 100000))) fun _ => mb (.ok (s48.2 ++ [t53])) fun side55 => .ok (s48.1, side55)) (s33, s42) (cut drawshere1 (some ((17 : Int) + ((5 : Int) * x34))) (some (((17 : Int) + ((5 : Int) * x34)) + ((t40 % (4 : Int)) * (b2 (decide ((0 : Int) < kind39)))))))) fun s50 => mb (oM (atI offered5 x34)) fun t56 => bif (decide (t56 = (1 : Int))) then mb (oM (ixN s50.1.length place38)) fun j57 => mb (oM (s50.1[j57]?)) fun x58 => mb (chk (decide (x58.length < 100000))) fun _ => .ok ((s50.1).set j57 (x58 ++ [s50.2])) else .ok s50.1)) (s0 := s14) (fun (s33 : (List (List (List Str)))) => ([rc (rL rI) drawshere1, fc rI n2, rc (rL rS) headshere3, rc (rL rS) tokenshere4, rc (rL rI) offered5, some (.ow (nlR K (nl K (rT K rS))) s33), none, none, none, none, none, none, none] : Cells K)) hm ?_ (.keep (.keep (.keep (.keep (.keep (.keep (.keep (.keep (.keep (.keep (.keep (.keep (.keep .nil))))))))))))) (fun H0' e0 x34 s33 s' h => ⟨_, tg_name, ?_⟩) ?_
  · refine wk_rng1 ?_ ?_
    · walk_at "ev"
    · first | assumption | omega
  · have hD : Nx H0' ((fun (s33 : (List (List (List Str)))) => ([rc (rL rI) drawshere1, fc rI n2, rc (rL rS) headshere3, rc (rL rS) tokenshere4, rc (rL rI) offered5, some (.ow (nlR K (nl K (rT K rS))) s33), none, none, none, none, none, none, none] : Cells K)) s') (Have H0' ((fun (s33 : (List (List (List Str)))) => ([rc (rL rI) drawshere1, fc rI n2, rc (rL rS) headshere3, rc (rL rS) tokenshere4, rc (rL rI) offered5, some (.ow (nlR K (nl K (rT K rS))) s33), none, none, none, none, none, none, none] : Cells K)) s')) := fun _ _ z => z
    obtain ⟨t36, e_t36, h⟩ := mb_ok h; have e_t36 := oM_ok e_t36
    obtain ⟨_, e_u37, h⟩ := mb_ok h; have e_u37 := of_decide_eq_true (chk_ok e_u37)
    obtain ⟨place38, e_place38, h⟩ := mb_ok h; have e_place38 := ok_inj e_place38
    refine q_set (r := rI) (b := t36 % n2) (b' := place38) ?_ e_place38 ?_
    · walk_at "ev"
    obtain ⟨kind39, e_kind39, h⟩ := mb_ok h; have e_kind39 := ok_inj e_kind39
    refine q_set (r := rI) (b := (t36 / (4 : Int)) % (5 : Int)) (b' := kind39) ?_ e_kind39 ?_
    · walk_at "ev"
    obtain ⟨t40, e_t40, h⟩ := mb_ok h; have e_t40 := oM_ok e_t40
    refine q_set (r := rI) (b := t40) (b' := t40) ?_ rfl ?_
    · walk_at "ev"
    obtain ⟨side41, e_side41, h⟩ := mb_ok h; have e_side41 := ok_inj e_side41
    refine q_set (r := (rT K rS)) (b := ([] : (List Str))) (b' := side41) ?_ e_side41 ?_
    · walk_at "ev"
    obtain ⟨s42, h1, h⟩ := mb_ok h
    refine cutK ([rc (rL rI) drawshere1, fc rI n2, rc (rL rS) headshere3, rc (rL rS) tokenshere4, rc (rL rI) offered5, some (.ow (nlR K (nl K (rT K rS))) s33), fc rI x34, none, fc rI place38, fc rI kind39, fc rI t40, fc (rT K rS) s42, none] : Cells K) (fun K1 => ?_) ?_
    · have h := h1; clear h1; have hD := K1
      refine q_if (c := ((decide (kind39 = (1 : Int))) && (decide ((place38 + (1 : Int)) < n2)))) ?_ ?_ ?_
      · walk_at "ev"
      · intro hc; have h := bif_t h hc
        obtain ⟨_, e_u43, h⟩ := mb_ok h; have e_u43 := of_decide_eq_true (chk_ok e_u43)
        obtain ⟨t44, e_t44, h⟩ := mb_ok h; have e_t44 := oM_ok e_t44
        obtain ⟨side45, e_side45, h⟩ := mb_ok h; have e_side45 := ok_inj e_side45
        refine l_set (r := (rT K rS)) (b := [t44]) (b' := side45) ?_ e_side45 ?_
        · walk_at "ev"
        cases h
        exact fun σ H hv => hD σ H (hv.less (.keep (.keep (.keep (.keep (.keep (.keep (.keep (.keep (.keep (.keep (.keep (.keep (.keep .nil))))))))))))))
      · intro hc; have h := bif_f h hc
        refine l_if (c := (decide ((0 : Int) < kind39))) ?_ ?_ ?_
        · walk_at "ev"
        · intro hc; have h := bif_t h hc
          obtain ⟨t46, e_t46, h⟩ := mb_ok h; have e_t46 := oM_ok e_t46
          obtain ⟨side47, e_side47, h⟩ := mb_ok h; have e_side47 := ok_inj e_side47
          refine l_set (r := (rT K rS)) (b := [t46]) (b' := side47) ?_ e_side47 ?_
          · walk_at "ev"
          cases h
          exact fun σ H hv => hD σ H (hv.less (.keep (.keep (.keep (.keep (.keep (.keep (.keep (.keep (.keep (.keep (.keep (.keep (.keep .nil))))))))))))))
        · intro hc; have h := bif_f h hc
          cases h
          exact fun σ H hv => hD σ H (hv.less (.keep (.keep (.keep (.keep (.keep (.keep (.keep (.keep (.keep (.keep (.keep (.keep (.keep .nil))))))))))))))
    obtain ⟨s50, hm, h⟩ := mb_ok h
    refine q_forM (G' := ([rc (rL rI) drawshere1, fc rI n2, rc (rL rS) headshere3, rc (rL rS) tokenshere4, rc (rL rI) offered5, some (.ow (nlR K (nl K (rT K rS))) s33), fc rI x34, none, fc rI place38, fc rI kind39, fc rI t40, fc (rT K rS) s42, none] : Cells K)) (r := rI) (f := (fun (s48 : ((List (List (List Str))) × (List Str))) (x49 : Int) => mb (oM (atI ([tokenshere4, headshere3]) (x49 % (2 : Int)))) fun t51 => mb (chk (decide (0 < (t51.length : Int)))) fun _ => mb (oM (atI t51 ((x49 / (2 : Int)) % (t51.length : Int)))) fun t53 => mb (chk (decide (s48.2.length + [t53].length ≤ 100000))) fun _ => mb (.ok (s48.2 ++ [t53])) fun side55 => .ok (s48.1, side55))) (s0 := (s33, s42)) (fun (s48 : ((List (List (List Str))) × (List Str))) => ([rc (rL rI) drawshere1, fc rI n2, rc (rL rS) headshere3, rc (rL rS) tokenshere4, rc (rL rI) offered5, some (.ow (nlR K (nl K (rT K rS))) s48.1), fc rI x34, none, fc rI place38, fc rI kind39, fc rI t40, fc (rT K rS) s48.2, none] : Cells K)) hm ?_ (.keep (.keep (.keep (.keep (.keep (.keep (.keep (.keep (.keep (.keep (.keep (.keep (.keep .nil))))))))))))) (fun H0' e0 x49 s48 s' h => ⟨_, tg_name, ?_⟩) ?_
    · refine wk_new ?_
      walk_at "ev"
    · have hD : Nx H0' ((fun (s48 : ((List (List (List Str))) × (List Str))) => ([rc (rL rI) drawshere1, fc rI n2, rc (rL rS) headshere3, rc (rL rS) tokenshere4, rc (rL rI) offered5, some (.ow (nlR K (nl K (rT K rS))) s48.1), fc rI x34, none, fc rI place38, fc rI kind39, fc rI t40, fc (rT K rS) s48.2, none] : Cells K)) s') (Have H0' ((fun (s48 : ((List (List (List Str))) × (List Str))) => ([rc (rL rI) drawshere1, fc rI n2, rc (rL rS) headshere3, rc (rL rS) tokenshere4, rc (rL rI) offered5, some (.ow (nlR K (nl K (rT K rS))) s48.1), fc rI x34, none, fc rI place38, fc rI kind39, fc rI t40, fc (rT K rS) s48.2, none] : Cells K)) s')) := fun _ _ z => z
      obtain ⟨t51, e_t51, h⟩ := mb_ok h; have e_t51 := oM_ok e_t51
      refine q_setRo (r := (rL rS)) (x := t51) ?_ ?_
      · refine rg_ixL ?_ ?_ e_t51
        · refine rg_lst ?_ (by simp only [List.length_cons, List.length_nil]; omega)
          refine rga_cons ?_ ?_
          · exact rg_ro (by rfl)
          refine rga_cons ?_ ?_
          · exact rg_ro (by rfl)
          exact rga_nil
        · walk_at "ev"
      obtain ⟨_, e_u52, h⟩ := mb_ok h; have e_u52 := of_decide_eq_true (chk_ok e_u52)
      obtain ⟨t53, e_t53, h⟩ := mb_ok h; have e_t53 := oM_ok e_t53
      obtain ⟨_, e_u54, h⟩ := mb_ok h; have e_u54 := of_decide_eq_true (chk_ok e_u54)
      obtain ⟨side55, e_side55, h⟩ := mb_ok h; have e_side55 := ok_inj e_side55
      refine l_set (r := (rT K rS)) (b := s48.2 ++ [t53]) (b' := side55) ?_ e_side55 ?_
      · walk_at "ev"
      cases h
      exact fun σ H hv => hD σ H (hv.less (.keep (.keep (.keep (.keep (.keep (.keep (.keep (.drop (.keep (.keep (.keep (.keep (.drop .nil))))))))))))))
    obtain ⟨t56, e_t56, h⟩ := mb_ok h; have e_t56 := oM_ok e_t56
    refine l_if (c := (decide (t56 = (1 : Int)))) ?_ ?_ ?_
    · walk_at "ev"
    · intro hc; have h := bif_t h hc
      obtain ⟨j57, e_j57, h⟩ := mb_ok h; have e_j57 := oM_ok e_j57
      obtain ⟨x58, e_x58, h⟩ := mb_ok h; have e_x58 := oM_ok e_x58
      refine q_alias2 (i := 5) (m := 7) (by rfl) ?_ e_j57 e_x58 (by decide) (fun w_row59 => ?_)
      · walk_at "ev"
      obtain ⟨_, e_u60, h⟩ := mb_ok h; have e_u60 := of_decide_eq_true (chk_ok e_u60)
      refine l_appP (a := s50.2) (pl_at (m := 7) (i := 5) (by rfl) (by rfl) e_x58) ?_ (by assumption) ?_
      · walk_at "ev"
      have hx61 := get_set (y := x58 ++ [s50.2]) e_x58
      cases h
      exact fun σ H hv => hD σ H ((have_unat (i := 5) (by rfl) hv).less (.keep (.keep (.keep (.keep (.keep (.keep (.drop (.drop (.drop (.drop (.drop (.drop (.keep .nil))))))))))))))
    · intro hc; have h := bif_f h hc
      cases h
      exact fun σ H hv => hD σ H (hv.less (.keep (.keep (.keep (.keep (.keep (.keep (.drop (.keep (.drop (.drop (.drop (.drop (.keep .nil))))))))))))))
  cases h
  exact r_retO (i := 5) hD (by rfl)
abbrev n__law_host : List Str := ["_law_draws_here", "_law_most", "_law_offered", "_law_n", "_law_heads_here", "_law_k", "_law_tokens_here", "_law_sides", "_law_rules", "_law_side", "_law_sets_here", "_law_kept", "_law_head", "_law_same", "_law_name_here", "_law_more"]
abbrev p__law_host : List Str := ["_law_draws_here", "_law_most", "_law_offered"]
theorem sc__law_host : FnScope n__law_host p__law_host (defScope s__law_host) := ⟨rfl, rfl, rfl, by decide +kernel, rfl, by decide +kernel, by decide +kernel⟩
abbrev sp__law_host (K : PySem.W.Frag) : Sp := spMN (aC (rL rI) (aC rI (aC (rL rI) aN))) (nl K (rP K rS (rT K rS))) fun a => m__law_host a.1 a.2.1 a.2.2.1
theorem c__law_host {P : Program} {w : World} {K : PySem.W.Frag} {mg : Str → Option Value} {base : Heap} (F : Df K mg "_law_host" s__law_host) (B_int : mg "int" = none) (B_range : mg "range" = none) (B_len : mg "len" = none) (C__law_name : Cal P w K mg base CX0 "_law_name" 1 p__law_name (sp__law_name K)) (C__law_offers : Cal P w K mg base CX0 "_law_offers" 1 p__law_offers (sp__law_offers K)) (C__law_sets : Cal P w K mg base CX0 "_law_sets" 3 p__law_sets (sp__law_sets K)) (C__law_meet : Cal P w K mg base CX0 "_law_meet" 3 p__law_meet (sp__law_meet K)) : Cal P w K mg base CX0 "_law_host" 4 p__law_host (sp__law_host K) := by
  refine cal_of F sc__law_host (fun vs H Q E ⟨a, b, h, _⟩ => LenA.len h) (fun _ _ _ _ _ _ us hl => match us, hl with | [_, _, _], _ => rfl) fun cdv f A outer s H vs Q E hr h => ?_
  have sc := sc__law_host
  refine ⟨_, (pss_cons (ps_set (i := 3) sc.nd rfl (Or.inl rfl) (pe_op op_add pe_int (pe_op op_mod (pe_callTy call_int1 (by rfl) B_int (by decide +kernel) (pa_cons (pe_ix (k_ix K) (pv 0) pe_int (fun _ _ => rfl)) pa_nil)) (pv 1))))
      (pss_cons (ps_set (i := 4) sc.nd rfl (Or.inr rfl) (pe_lc (own := [("_law_k", 5)]) (g := gName 5) (tt := tYes) (by rfl) sc.nd (pi_range1 (by rfl) B_range (pa_cons (pv 3) pa_nil)) (blkOk_by (own := [("_law_k", 5)]) (N := n__law_host) (sc := defScope s__law_host) (by decide +kernel)) (fun _ _ _ _ _ => (pg_name (i := 5) sc.nd rfl (Or.inl rfl))) (fun _ _ _ _ _ => pts_nil) (fun _ _ _ _ _ => (pe_fn C__law_name (hr.mono (by decide)) (pa_cons (pv 5) (pa_cons (pe_ix (k_ix K) (pv 0) pe_int (fun _ _ => rfl)) (pa_cons pe_bl pa_nil)))))))
      (pss_cons (ps_setLc (i := 6) (own := [("_law_k", 5)]) (g := gName 5) (tt := tYes) (by rfl) sc.nd rfl rfl (sw_true rfl rfl rfl (by decide +kernel)) (pi_range1 (by rfl) B_range (pa_cons pe_int pa_nil)) (blkOk_by (own := [("_law_k", 5)]) (N := n__law_host) (sc := defScope s__law_host) (by decide +kernel)) (fun _ _ _ _ _ => (pg_name (i := 5) sc.nd rfl (Or.inl rfl))) (fun _ _ _ _ _ => pts_nil) (fun _ _ _ _ _ => (pe_fn C__law_name (hr.mono (by decide)) (pa_cons (pv 5) (pa_cons (pe_op op_fdiv (pe_callTy call_int1 (by rfl) B_int (by decide +kernel) (pa_cons (pe_ix (k_ix K) (pv 0) pe_int (fun _ _ => rfl)) pa_nil)) pe_int) (pa_cons pe_bl pa_nil))))))
      (pss_cons (ps_set (i := 7) sc.nd rfl (Or.inl rfl) (pe_fn C__law_offers (hr.mono (by decide)) (pa_cons (pv 0) (pa_cons (pv 3) (pa_cons (pv 4) (pa_cons (pv 6) (pa_cons (pv 2) pa_nil)))))))
      (pss_cons (ps_set (i := 8) sc.nd rfl (Or.inl rfl) (pe_lst pa_nil))
      (pss_cons (ps_for PassesOwn.never rfl (pi_range1 (by rfl) B_range (pa_cons (pv 3) pa_nil)) (pg_name (i := 5) sc.nd rfl (Or.inr rfl))
      (pss_one (ps_set (i := 8) sc.nd rfl (Or.inl rfl) (pe_op op_cat (pv 8) (pe_lc (own := [("_law_side", 9)]) (g := gName 9) (tt := tYes) (by rfl) sc.nd (pi_listK K (pe_ix (k_ix K) (pv 7) (pv 5) (fun _ _ => rfl))) (blkOk_by (own := [("_law_side", 9)]) (N := n__law_host) (sc := defScope s__law_host) (by decide +kernel)) (fun _ _ _ _ _ => (pg_name (i := 9) sc.nd rfl (Or.inl rfl))) (fun _ _ _ _ _ => pts_nil) (fun _ _ _ _ _ => (pe_tupD (pa_cons (pe_ix (k_ix K) (pv 4) (pv 5) (fun _ _ => rfl)) (pa_cons (pv 9) pa_nil)))))))))
      (pss_cons (ps_set (i := 10) sc.nd rfl (Or.inr rfl) (pe_fn C__law_sets (hr.mono (by decide)) (pa_cons (pv 8) pa_nil)))
      (pss_cons (ps_set (i := 11) sc.nd rfl (Or.inl rfl) (pe_lst pa_nil))
      (pss_cons (ps_for PassesOwn.never rfl (pi_listK K (pv 8)) (pg_tupK K rfl (pgs_cons (pg_name (i := 12) sc.nd rfl (Or.inr rfl)) (pgs_cons (pg_name (i := 9) sc.nd rfl (Or.inr rfl)) pgs_nil)))
      (pss_cons (ps_setLc (i := 13) (own := [("_law_name_here", 14), ("_law_more", 15)]) (g := gTup _ 2 (gCons (gName 14) (gCons (gName 15) gNil))) (by rfl) sc.nd rfl rfl (sw_true rfl rfl rfl (by decide +kernel)) (pi_listK K (pv 11)) (blkOk_by (own := [("_law_name_here", 14), ("_law_more", 15)]) (N := n__law_host) (sc := defScope s__law_host) (by decide +kernel)) (fun _ _ _ _ _ => (pg_tupK K rfl (pgs_cons (pg_name (i := 14) sc.nd rfl (Or.inl rfl)) (pgs_cons (pg_name (i := 15) sc.nd rfl (Or.inl rfl)) pgs_nil)))) (fun _ _ _ _ _ => (pts_one (pt_cmpR op_eq (pv 14) (pv 12) (nomark _)))) (fun _ _ _ _ _ => (pv 15)))
      (pss_cons (ps_setLc (i := 13) (own := [("_law_more", 15)]) (g := gName 15) (by rfl) sc.nd rfl rfl (sw_true rfl rfl rfl (by decide +kernel)) (pi_listK K (pv 13)) (blkOk_by (own := [("_law_more", 15)]) (N := n__law_host) (sc := defScope s__law_host) (by decide +kernel)) (fun _ _ _ _ _ => (pg_name (i := 15) sc.nd rfl (Or.inl rfl))) (fun _ _ _ _ _ => (pts_one (PW.pt (pw_or (pt_cmpR (k_eqD K (Nat.lt_of_le_of_lt (Nat.add_le_add_left (by decide) _) hr.un)) (pv 15) (pv 9) (nomark _)) (pw_or1 (pt_val (pe_fn C__law_meet (hr.mono (by decide)) (pa_cons (pv 12) (pa_cons (pv 15) (pa_cons (pv 9) (pa_cons (pv 10) pa_nil))))))))))) (fun _ _ _ _ _ => (pv 15)))
      (pss_one (ps_if (pt_cmpR op_eq (pe_callB (k_len K) (by rfl) B_len PySem.boot_len (pa_cons (pv 13) pa_nil)) pe_int (nomark _))
      (pss_one (ps_expr (pe_app K (pv 11) (pa_cons (pe_tupD (pa_cons (pv 12) (pa_cons (pv 9) pa_nil))) pa_nil)))) pss_nil)))))
      (pss_one (ps_ret (pv 11)))))))))))), ?_⟩
  obtain ⟨⟨drawshere1, most2, offered3, _⟩, r0, ⟨v_drawshere1, _, rfl, w_drawshere1, ⟨v_most2, _, rfl, w_most2, ⟨v_offered3, _, rfl, w_offered3, rfl⟩⟩⟩, h, k⟩ := h
  have hD : RtOk (nl K (rP K rS (rT K rS))) H r0 { nx := fun _ H' => Q .non H', rt := Q } := fun v H' ⟨as, s, n, z⟩ => k v H' as s n z
  refine Sv.run (K := K) (G := ([rc (rL rI) drawshere1, fc rI most2, rc (rL rI) offered3, none, none, none, none, none, none, none, none, none, none, none, none, none] : Cells K)) ?_ (.ro w_drawshere1 (.fz w_most2 (.ro w_offered3 (.skip (.skip (.skip (.skip (.skip (.skip (.skip (.skip (.skip (.skip (.skip (.skip (.skip .nil))))))))))))))))
  have h : m__law_host drawshere1 most2 offered3 = .ok r0 := h
  unfold m__law_host at h
  obtain ⟨t4, e_t4, h⟩ := mb_ok h; have e_t4 := oM_ok e_t4
  obtain ⟨_, e_u5, h⟩ := mb_ok h; have e_u5 := of_decide_eq_true (chk_ok e_u5)
  obtain ⟨n6, e_n6, h⟩ := mb_ok h; have e_n6 := ok_inj e_n6
  refine q_set (r := rI) (b := (1 : Int) + (t4 % most2)) (b' := n6) ?_ e_n6 ?_
  · walk_at "ev"
  obtain ⟨_, e_u7, h⟩ := mb_ok h; have e_u7 := of_decide_eq_true (chk_ok e_u7)
  obtain ⟨zs11, e_zs11, h⟩ := mb_ok h
  refine q_asg (R := (nl K rS)) (b := zs11) (b' := zs11) ?_ rfl ?_
  · refine nw_lcM (G' := ([rc (rL rI) drawshere1, fc rI most2, rc (rL rI) offered3, fc rI n6, none, none, none, none, none, none, none, none, none, none, none, none] : Cells K)) (r := rI) (p := (fun (y8 : Int) => .ok true)) (f := (fun (y8 : Int) => mb (oM (atI drawshere1 (0 : Int))) fun t9 => mb (m__law_name y8 t9 true) fun t10 => .ok t10)) ?_ (by first | assumption | (rw [ups_len]; omega) | (rw [List.length_map, List.length_range]; omega) | (simp only [List.length_cons, List.length_nil]; omega)) (fun y8 => ⟨_, tb_name, fun _ e => ?_, fun _ e => ?_⟩) e_zs11
    · refine wk_rng1 ?_ ?_
      · walk_at "ev"
      · first | assumption | omega
    · cases e
      exact et_yes
    · obtain ⟨t9, e_t9, e⟩ := mb_ok e; have e_t9 := oM_ok e_t9
      obtain ⟨t10, e_t10, e⟩ := mb_ok e
      cases e
      walk_at "ev"
  obtain ⟨zs15, e_zs15, h⟩ := mb_ok h
  refine q_asg (R := (nl K rS)) (b := zs15) (b' := zs15) ?_ rfl ?_
  · refine nw_lcM (G' := ([rc (rL rI) drawshere1, fc rI most2, rc (rL rI) offered3, fc rI n6, some (.ow (nl K rS) zs11), none, none, none, none, none, none, none, none, none, none, none] : Cells K)) (r := rI) (p := (fun (y12 : Int) => .ok true)) (f := (fun (y12 : Int) => mb (oM (atI drawshere1 (0 : Int))) fun t13 => mb (m__law_name y12 (t13 / (12 : Int)) false) fun t14 => .ok t14)) ?_ (by first | assumption | (rw [ups_len]; omega) | (rw [List.length_map, List.length_range]; omega) | (simp only [List.length_cons, List.length_nil]; omega)) (fun y12 => ⟨_, tb_name, fun _ e => ?_, fun _ e => ?_⟩) e_zs15
    · refine wk_rng1 ?_ ?_
      · walk_at "ev"
      · first | assumption | omega
    · cases e
      exact et_yes
    · obtain ⟨t13, e_t13, e⟩ := mb_ok e; have e_t13 := oM_ok e_t13
      obtain ⟨t14, e_t14, e⟩ := mb_ok e
      cases e
      walk_at "ev"
  obtain ⟨t16, e_t16, h⟩ := mb_ok h
  refine q_setRo (r := (rL (rL (rT K rS)))) (x := t16) ?_ ?_
  · refine rg_new (R := (nlR K (nl K (rT K rS)))) ?_ fun _ _ _ z => vw_nlR (fun _ _ _ _ z => vw_nl z) z
    walk_at "ev"
  obtain ⟨rules17, e_rules17, h⟩ := mb_ok h; have e_rules17 := ok_inj e_rules17
  refine q_asg (R := (nl K (rP K rS (rT K rS)))) (b := ([] : (List (Str × (List Str))))) (b' := rules17) ?_ e_rules17 ?_
  · walk_at "ev"
  obtain ⟨s20, hm, h⟩ := mb_ok h
  refine q_forM (G' := ([rc (rL rI) drawshere1, fc rI most2, rc (rL rI) offered3, fc rI n6, some (.ow (nl K rS) zs11), none, some (.ow (nl K rS) zs15), rc (rL (rL (rT K rS))) t16, some (.ow (nl K (rP K rS (rT K rS))) rules17), none, none, none, none, none, none, none] : Cells K)) (r := rI) (f := (fun (s18 : (List (Str × (List Str)))) (x19 : Int) => mb (oM (atI t16 x19)) fun t21 => mb (chk (decide (t21.length ≤ 100000))) fun _ => mb (mlc (fun (y22 : (List Str)) => .ok true) (fun (y22 : (List Str)) => mb (oM (atI zs11 x19)) fun t23 => .ok (t23, y22)) t21) fun zs25 => mb (chk (decide (s18.length + zs25.length ≤ 100000))) fun _ => mb (.ok (s18 ++ zs25)) fun rules27 => .ok rules27)) (s0 := rules17) (fun (s18 : (List (Str × (List Str)))) => ([rc (rL rI) drawshere1, fc rI most2, rc (rL rI) offered3, fc rI n6, some (.ow (nl K rS) zs11), none, some (.ow (nl K rS) zs15), rc (rL (rL (rT K rS))) t16, some (.ow (nl K (rP K rS (rT K rS))) s18), none, none, none, none, none, none, none] : Cells K)) hm ?_ (.keep (.keep (.keep (.keep (.keep (.keep (.keep (.keep (.keep (.keep (.keep (.keep (.keep (.keep (.keep (.keep .nil)))))))))))))))) (fun H0' e0 x19 s18 s' h => ⟨_, tg_name, ?_⟩) ?_
  · refine wk_rng1 ?_ ?_
    · walk_at "ev"
    · first | assumption | omega
  · have hD : Nx H0' ((fun (s18 : (List (Str × (List Str)))) => ([rc (rL rI) drawshere1, fc rI most2, rc (rL rI) offered3, fc rI n6, some (.ow (nl K rS) zs11), none, some (.ow (nl K rS) zs15), rc (rL (rL (rT K rS))) t16, some (.ow (nl K (rP K rS (rT K rS))) s18), none, none, none, none, none, none, none] : Cells K)) s') (Have H0' ((fun (s18 : (List (Str × (List Str)))) => ([rc (rL rI) drawshere1, fc rI most2, rc (rL rI) offered3, fc rI n6, some (.ow (nl K rS) zs11), none, some (.ow (nl K rS) zs15), rc (rL (rL (rT K rS))) t16, some (.ow (nl K (rP K rS (rT K rS))) s18), none, none, none, none, none, none, none] : Cells K)) s')) := fun _ _ z => z
    obtain ⟨t21, e_t21, h⟩ := mb_ok h; have e_t21 := oM_ok e_t21
    obtain ⟨_, e_u24, h⟩ := mb_ok h; have e_u24 := of_decide_eq_true (chk_ok e_u24)
    obtain ⟨zs25, e_zs25, h⟩ := mb_ok h
    obtain ⟨_, e_u26, h⟩ := mb_ok h; have e_u26 := of_decide_eq_true (chk_ok e_u26)
    obtain ⟨rules27, e_rules27, h⟩ := mb_ok h; have e_rules27 := ok_inj e_rules27
    refine l_asg (R := (nl K (rP K rS (rT K rS)))) (b := s18 ++ zs25) (b' := rules27) ?_ e_rules27 ?_
    · refine a_cat ?_ inferInstance inferInstance ?_ (by first | assumption | omega)
      · walk_at "ev"
      · refine Nw.lst ?_
        refine nw_lcM (G' := ([rc (rL rI) drawshere1, fc rI most2, rc (rL rI) offered3, fc rI n6, some (.ow (nl K rS) zs11), fc rI x19, some (.ow (nl K rS) zs15), rc (rL (rL (rT K rS))) t16, some (.ow (nl K (rP K rS (rT K rS))) s18), none, none, none, none, none, none, none] : Cells K)) (r := (rT K rS)) (p := (fun (y22 : (List Str)) => .ok true)) (f := (fun (y22 : (List Str)) => mb (oM (atI zs11 x19)) fun t23 => .ok (t23, y22))) ?_ (by first | assumption | (rw [ups_len]; omega) | (rw [List.length_map, List.length_range]; omega) | (simp only [List.length_cons, List.length_nil]; omega)) (fun y22 => ⟨_, tb_name, fun _ e => ?_, fun _ e => ?_⟩) e_zs25
        · refine wk_rg ?_
          refine rg_ixL ?_ ?_ e_t21
          · exact rg_ro (by rfl)
          · walk_at "ev"
        · cases e
          exact et_yes
        · obtain ⟨t23, e_t23, e⟩ := mb_ok e; have e_t23 := oM_ok e_t23
          cases e
          walk_at "ev"
    cases h
    exact fun σ H hv => hD σ H (hv.less (.keep (.keep (.keep (.keep (.keep (.drop (.keep (.keep (.keep (.keep (.keep (.keep (.keep (.keep (.keep (.keep .nil)))))))))))))))))
  obtain ⟨t28, e_t28, h⟩ := mb_ok h
  refine q_asg (R := (nH3 K (nl K rS) (ndR K (nl K rS)) (ndR K (nl K rS)))) (b := t28) (b' := t28) ?_ rfl ?_
  · walk_at "ev"
  obtain ⟨kept29, e_kept29, h⟩ := mb_ok h; have e_kept29 := ok_inj e_kept29
  refine q_asg (R := (nl K (rP K rS (rT K rS)))) (b := ([] : (List (Str × (List Str))))) (b' := kept29) ?_ e_kept29 ?_
  · walk_at "ev"
  obtain ⟨s32, hm, h⟩ := mb_ok h
  refine q_forM (G' := ([rc (rL rI) drawshere1, fc rI most2, rc (rL rI) offered3, fc rI n6, some (.ow (nl K rS) zs11), none, some (.ow (nl K rS) zs15), rc (rL (rL (rT K rS))) t16, rc (rL (rP K rS (rT K rS))) s20, none, some (.ow (nH3 K (nl K rS) (ndR K (nl K rS)) (ndR K (nl K rS))) t28), some (.ow (nl K (rP K rS (rT K rS))) kept29), none, none, none, none] : Cells K)) (r := (rP K rS (rT K rS))) (f := (fun (s30 : (List (Str × (List Str)))) (x31 : (Str × (List Str))) => mb (chk (decide (s30.length ≤ 100000))) fun _ => mb (.ok ((s30.filter (fun (y33 : (Str × (List Str))) => (decide (y33.1 = x31.1)))).map (fun (y33 : (Str × (List Str))) => y33.2))) fun same35 => mb (chk (decide (same35.length ≤ 100000))) fun _ => mb (mlc (fun (y36 : (List Str)) => mb (mor (eqB y36 x31.2) (mb (m__law_meet x31.1 y36 x31.2 t28) fun t37 => .ok t37)) fun c38 => .ok c38) (fun (y36 : (List Str)) => .ok y36) same35) fun zs40 => bif (decide ((zs40.length : Int) = (0 : Int))) then mb (chk (decide (s30.length < 100000))) fun _ => mb (.ok (s30 ++ [(x31.1, x31.2)])) fun kept42 => .ok kept42 else .ok s30)) (s0 := kept29) (fun (s30 : (List (Str × (List Str)))) => ([rc (rL rI) drawshere1, fc rI most2, rc (rL rI) offered3, fc rI n6, some (.ow (nl K rS) zs11), none, some (.ow (nl K rS) zs15), rc (rL (rL (rT K rS))) t16, rc (rL (rP K rS (rT K rS))) s20, none, some (.ow (nH3 K (nl K rS) (ndR K (nl K rS)) (ndR K (nl K rS))) t28), some (.ow (nl K (rP K rS (rT K rS))) s30), none, none, none, none] : Cells K)) hm ?_ (.keep (.keep (.keep (.keep (.keep (.keep (.keep (.keep (.keep (.keep (.keep (.keep (.keep (.keep (.keep (.keep .nil)))))))))))))))) (fun H0' e0 x31 s30 s' h => ⟨_, tg_pair, ?_⟩) ?_
  · exact wk_own (i := 8) (by rfl)
  · have hD : Nx H0' ((fun (s30 : (List (Str × (List Str)))) => ([rc (rL rI) drawshere1, fc rI most2, rc (rL rI) offered3, fc rI n6, some (.ow (nl K rS) zs11), none, some (.ow (nl K rS) zs15), rc (rL (rL (rT K rS))) t16, rc (rL (rP K rS (rT K rS))) s20, none, some (.ow (nH3 K (nl K rS) (ndR K (nl K rS)) (ndR K (nl K rS))) t28), some (.ow (nl K (rP K rS (rT K rS))) s30), none, none, none, none] : Cells K)) s') (Have H0' ((fun (s30 : (List (Str × (List Str)))) => ([rc (rL rI) drawshere1, fc rI most2, rc (rL rI) offered3, fc rI n6, some (.ow (nl K rS) zs11), none, some (.ow (nl K rS) zs15), rc (rL (rL (rT K rS))) t16, rc (rL (rP K rS (rT K rS))) s20, none, some (.ow (nH3 K (nl K rS) (ndR K (nl K rS)) (ndR K (nl K rS))) t28), some (.ow (nl K (rP K rS (rT K rS))) s30), none, none, none, none] : Cells K)) s')) := fun _ _ z => z
    obtain ⟨_, e_u34, h⟩ := mb_ok h; have e_u34 := of_decide_eq_true (chk_ok e_u34)
    obtain ⟨same35, e_same35, h⟩ := mb_ok h; have e_same35 := ok_inj e_same35
    refine q_asg (R := (nl K (rT K rS))) (b := (s30.filter (fun (y33 : (Str × (List Str))) => (decide (y33.1 = x31.1)))).map (fun (y33 : (Str × (List Str))) => y33.2)) (b' := same35) ?_ e_same35 ?_
    · refine nw_lc (G' := ([rc (rL rI) drawshere1, fc rI most2, rc (rL rI) offered3, fc rI n6, some (.ow (nl K rS) zs11), none, some (.ow (nl K rS) zs15), rc (rL (rL (rT K rS))) t16, rc (rL (rP K rS (rT K rS))) s20, fc (rT K rS) x31.2, some (.ow (nH3 K (nl K rS) (ndR K (nl K rS)) (ndR K (nl K rS))) t28), rc (rL (rP K rS (rT K rS))) s30, fc rS x31.1, none, none, none] : Cells K)) (r := (rP K rS (rT K rS))) ?_ (by first | assumption | (rw [ups_len]; omega) | (rw [List.length_map, List.length_range]; omega) | (simp only [List.length_cons, List.length_nil]; omega)) (fun _ y33 _ _ => ⟨_, tb_pair, ?_, fun _ => ?_⟩)
      · exact wk_own (i := 11) (by rfl)
      · walk_at "ev"
      · walk_at "ev"
    obtain ⟨_, e_u39, h⟩ := mb_ok h; have e_u39 := of_decide_eq_true (chk_ok e_u39)
    obtain ⟨zs40, e_zs40, h⟩ := mb_ok h
    refine q_asg (R := (nl K (rT K rS))) (b := zs40) (b' := zs40) ?_ rfl ?_
    · refine nw_lcM (G' := ([rc (rL rI) drawshere1, fc rI most2, rc (rL rI) offered3, fc rI n6, some (.ow (nl K rS) zs11), none, some (.ow (nl K rS) zs15), rc (rL (rL (rT K rS))) t16, rc (rL (rP K rS (rT K rS))) s20, fc (rT K rS) x31.2, some (.ow (nH3 K (nl K rS) (ndR K (nl K rS)) (ndR K (nl K rS))) t28), some (.ow (nl K (rP K rS (rT K rS))) s30), fc rS x31.1, rc (rL (rT K rS)) same35, none, none] : Cells K)) (r := (rT K rS)) (p := (fun (y36 : (List Str)) => mb (mor (eqB y36 x31.2) (mb (m__law_meet x31.1 y36 x31.2 t28) fun t37 => .ok t37)) fun c38 => .ok c38)) (f := (fun (y36 : (List Str)) => .ok y36)) ?_ (by first | assumption | (rw [ups_len]; omega) | (rw [List.length_map, List.length_range]; omega) | (simp only [List.length_cons, List.length_nil]; omega)) (fun y36 => ⟨_, tb_name, fun _ e => ?_, fun _ e => ?_⟩) e_zs40
      · exact wk_own (i := 13) (by rfl)
      · obtain ⟨c38, e_c38, e⟩ := mb_ok e
        cases e
        refine et_orM ?_ (fun _ e => ?_) e_c38
        · walk_at "ev"
        obtain ⟨t37, e_t37, e⟩ := mb_ok e
        cases e
        walk_at "ev"
      · cases e
        walk_at "ev"
    refine l_if (c := (decide ((zs40.length : Int) = (0 : Int)))) ?_ ?_ ?_
    · walk_at "ev"
    · intro hc; have h := bif_t h hc
      obtain ⟨_, e_u41, h⟩ := mb_ok h; have e_u41 := of_decide_eq_true (chk_ok e_u41)
      obtain ⟨kept42, e_kept42, h⟩ := mb_ok h; have e_kept42 := ok_inj e_kept42
      refine l_app (x := (x31.1, x31.2)) (xs := s30) (by rfl) (x' := (x31.1, x31.2)) ?_ rfl (by assumption) ?_
      · walk_at "ev"
      rw [e_kept42]
      cases h
      exact fun σ H hv => hD σ H (hv.less (.keep (.keep (.keep (.keep (.keep (.keep (.keep (.keep (.keep (.drop (.keep (.keep (.drop (.drop (.keep (.keep .nil)))))))))))))))))
    · intro hc; have h := bif_f h hc
      cases h
      exact fun σ H hv => hD σ H (hv.less (.keep (.keep (.keep (.keep (.keep (.keep (.keep (.keep (.keep (.drop (.keep (.keep (.drop (.drop (.keep (.keep .nil)))))))))))))))))
  cases h
  exact r_retO (i := 11) hD (by rfl)
abbrev n__law_heads : List Str := ["_law_rules", "_law_heads_here", "_law_head", "_law_side"]
abbrev p__law_heads : List Str := ["_law_rules"]
theorem sc__law_heads : FnScope n__law_heads p__law_heads (defScope s__law_heads) := ⟨rfl, rfl, rfl, by decide +kernel, rfl, by decide +kernel, by decide +kernel⟩
abbrev sp__law_heads (K : PySem.W.Frag) : Sp := spMN (aC (rL (rP K rS (rT K rS))) aN) (nl K rS) fun a => m__law_heads a.1
theorem c__law_heads {P : Program} {w : World} {K : PySem.W.Frag} {mg : Str → Option Value} {base : Heap} (F : Df K mg "_law_heads" s__law_heads) : Cal P w K mg base CX0 "_law_heads" 1 p__law_heads (sp__law_heads K) := by
  refine cal_of F sc__law_heads (fun vs H Q E ⟨a, b, h, _⟩ => LenA.len h) (fun _ _ _ _ _ _ us hl => match us, hl with | [_], _ => rfl) fun cdv f A outer s H vs Q E hr h => ?_
  have sc := sc__law_heads
  refine ⟨_, (pss_cons (ps_set (i := 1) sc.nd rfl (Or.inl rfl) (pe_lst pa_nil))
      (pss_cons (ps_for PassesOwn.never rfl (pi_listK K (pv 0)) (pg_tupK K rfl (pgs_cons (pg_name (i := 2) sc.nd rfl (Or.inl rfl)) (pgs_cons (pg_name (i := 3) sc.nd rfl (Or.inl rfl)) pgs_nil)))
      (pss_one (ps_if (PW.pt (pw_and (pt_cmpR op_notIn_sign pe_str (pv 2) rfl) (pw_and1 (pt_cmpR (k_nin K) (pv 2) (pv 1) rfl))))
      (pss_one (ps_expr (pe_app K (pv 1) (pa_cons (pv 2) pa_nil)))) pss_nil)))
      (pss_one (ps_ret (pv 1))))), ?_⟩
  obtain ⟨⟨rules1, _⟩, r0, ⟨v_rules1, _, rfl, w_rules1, rfl⟩, h, k⟩ := h
  have hD : RtOk (nl K rS) H r0 { nx := fun _ H' => Q .non H', rt := Q } := fun v H' ⟨as, s, n, z⟩ => k v H' as s n z
  refine Sv.run (K := K) (G := ([rc (rL (rP K rS (rT K rS))) rules1, none, none, none] : Cells K)) ?_ (.ro w_rules1 (.skip (.skip (.skip .nil))))
  have h : m__law_heads rules1 = .ok r0 := h
  unfold m__law_heads at h
  obtain ⟨headshere2, e_headshere2, h⟩ := mb_ok h; have e_headshere2 := ok_inj e_headshere2
  refine q_asg (R := (nl K rS)) (b := ([] : (List Str))) (b' := headshere2) ?_ e_headshere2 ?_
  · walk_at "ev"
  obtain ⟨s5, hm, h⟩ := mb_ok h
  refine q_forM (G' := ([rc (rL (rP K rS (rT K rS))) rules1, some (.ow (nl K rS) headshere2), none, none] : Cells K)) (r := (rP K rS (rT K rS))) (f := (fun (s3 : (List Str)) (x4 : (Str × (List Str))) => mb (oM (sgn ("." : Str))) fun t6 => bif ((!(decide (t6 ∈ x4.1.cps.toList))) && (!(decide (x4.1 ∈ s3)))) then mb (chk (decide (s3.length < 100000))) fun _ => mb (.ok (s3 ++ [x4.1])) fun headshere8 => .ok headshere8 else .ok s3)) (s0 := headshere2) (fun (s3 : (List Str)) => ([rc (rL (rP K rS (rT K rS))) rules1, some (.ow (nl K rS) s3), none, none] : Cells K)) hm ?_ (.keep (.keep (.keep (.keep .nil)))) (fun H0' e0 x4 s3 s' h => ⟨_, tg_pair, ?_⟩) ?_
  · exact wk_ro (by rfl)
  · have hD : Nx H0' ((fun (s3 : (List Str)) => ([rc (rL (rP K rS (rT K rS))) rules1, some (.ow (nl K rS) s3), none, none] : Cells K)) s') (Have H0' ((fun (s3 : (List Str)) => ([rc (rL (rP K rS (rT K rS))) rules1, some (.ow (nl K rS) s3), none, none] : Cells K)) s')) := fun _ _ z => z
    obtain ⟨t6, e_t6, h⟩ := mb_ok h; have e_t6 := oM_ok e_t6
    refine l_if (c := ((!(decide (t6 ∈ x4.1.cps.toList))) && (!(decide (x4.1 ∈ s3))))) ?_ ?_ ?_
    · walk_at "ev"
    · intro hc; have h := bif_t h hc
      obtain ⟨_, e_u7, h⟩ := mb_ok h; have e_u7 := of_decide_eq_true (chk_ok e_u7)
      obtain ⟨headshere8, e_headshere8, h⟩ := mb_ok h; have e_headshere8 := ok_inj e_headshere8
      refine l_app (x := x4.1) (xs := s3) (by rfl) (x' := x4.1) ?_ rfl (by assumption) ?_
      · walk_at "ev"
      rw [e_headshere8]
      cases h
      exact fun σ H hv => hD σ H (hv.less (.keep (.keep (.drop (.drop .nil)))))
    · intro hc; have h := bif_f h hc
      cases h
      exact fun σ H hv => hD σ H (hv.less (.keep (.keep (.drop (.drop .nil)))))
  cases h
  exact r_retO (i := 1) hD (by rfl)
abbrev n__law_tokens : List Str := ["_law_rules", "_law_tokens_here", "_law_head", "_law_side", "_law_sign"]
abbrev p__law_tokens : List Str := ["_law_rules"]
theorem sc__law_tokens : FnScope n__law_tokens p__law_tokens (defScope s__law_tokens) := ⟨rfl, rfl, rfl, by decide +kernel, rfl, by decide +kernel, by decide +kernel⟩
abbrev sp__law_tokens (K : PySem.W.Frag) : Sp := spMN (aC (rL (rP K rS (rT K rS))) aN) (nl K rS) fun a => m__law_tokens a.1
theorem c__law_tokens {P : Program} {w : World} {K : PySem.W.Frag} {mg : Str → Option Value} {base : Heap} (F : Df K mg "_law_tokens" s__law_tokens) (C__law_is_token : Cal P w K mg base CX0 "_law_is_token" 1 p__law_is_token (sp__law_is_token K)) : Cal P w K mg base CX0 "_law_tokens" 2 p__law_tokens (sp__law_tokens K) := by
  refine cal_of F sc__law_tokens (fun vs H Q E ⟨a, b, h, _⟩ => LenA.len h) (fun _ _ _ _ _ _ us hl => match us, hl with | [_], _ => rfl) fun cdv f A outer s H vs Q E hr h => ?_
  have sc := sc__law_tokens
  refine ⟨_, (pss_cons (ps_set (i := 1) sc.nd rfl (Or.inl rfl) (pe_lst pa_nil))
      (pss_cons (ps_for PassesOwn.never rfl (pi_listK K (pv 0)) (pg_tupK K rfl (pgs_cons (pg_name (i := 2) sc.nd rfl (Or.inl rfl)) (pgs_cons (pg_name (i := 3) sc.nd rfl (Or.inl rfl)) pgs_nil)))
      (pss_one (ps_for PassesOwn.never rfl (pi_tupK K (pv 3)) (pg_name (i := 4) sc.nd rfl (Or.inl rfl))
      (pss_one (ps_if (PW.pt (pw_and (pt_cmpR op_notIn_sign pe_str (pv 4) rfl) (pw_and (pt_val (pe_fn C__law_is_token (hr.mono (by decide)) (pa_cons (pv 4) pa_nil))) (pw_and1 (pt_cmpR (k_nin K) (pv 4) (pv 1) rfl)))))
      (pss_one (ps_expr (pe_app K (pv 1) (pa_cons (pv 4) pa_nil)))) pss_nil)))))
      (pss_one (ps_ret (pv 1))))), ?_⟩
  obtain ⟨⟨rules1, _⟩, r0, ⟨v_rules1, _, rfl, w_rules1, rfl⟩, h, k⟩ := h
  have hD : RtOk (nl K rS) H r0 { nx := fun _ H' => Q .non H', rt := Q } := fun v H' ⟨as, s, n, z⟩ => k v H' as s n z
  refine Sv.run (K := K) (G := ([rc (rL (rP K rS (rT K rS))) rules1, none, none, none, none] : Cells K)) ?_ (.ro w_rules1 (.skip (.skip (.skip (.skip .nil)))))
  have h : m__law_tokens rules1 = .ok r0 := h
  unfold m__law_tokens at h
  obtain ⟨tokenshere2, e_tokenshere2, h⟩ := mb_ok h; have e_tokenshere2 := ok_inj e_tokenshere2
  refine q_asg (R := (nl K rS)) (b := ([] : (List Str))) (b' := tokenshere2) ?_ e_tokenshere2 ?_
  · walk_at "ev"
  obtain ⟨s5, hm, h⟩ := mb_ok h
  refine q_forM (G' := ([rc (rL (rP K rS (rT K rS))) rules1, some (.ow (nl K rS) tokenshere2), none, none, none] : Cells K)) (r := (rP K rS (rT K rS))) (f := (fun (s3 : (List Str)) (x4 : (Str × (List Str))) => mb (mfor (fun (s6 : (List Str)) (x7 : Str) => mb (oM (sgn ("." : Str))) fun t9 => mb (mand (!(decide (t9 ∈ x7.cps.toList))) (mb (m__law_is_token x7) fun t10 => .ok (t10 && (!(decide (x7 ∈ s6)))))) fun c11 => bif c11 then mb (chk (decide (s6.length < 100000))) fun _ => mb (.ok (s6 ++ [x7])) fun tokenshere13 => .ok tokenshere13 else .ok s6) s3 x4.2) fun s8 => .ok s8)) (s0 := tokenshere2) (fun (s3 : (List Str)) => ([rc (rL (rP K rS (rT K rS))) rules1, some (.ow (nl K rS) s3), none, none, none] : Cells K)) hm ?_ (.keep (.keep (.keep (.keep (.keep .nil))))) (fun H0' e0 x4 s3 s' h => ⟨_, tg_pair, ?_⟩) ?_
  · exact wk_ro (by rfl)
  · have hD : Nx H0' ((fun (s3 : (List Str)) => ([rc (rL (rP K rS (rT K rS))) rules1, some (.ow (nl K rS) s3), none, none, none] : Cells K)) s') (Have H0' ((fun (s3 : (List Str)) => ([rc (rL (rP K rS (rT K rS))) rules1, some (.ow (nl K rS) s3), none, none, none] : Cells K)) s')) := fun _ _ z => z
    obtain ⟨s8, hm, h⟩ := mb_ok h
    refine l_forM (G' := ([rc (rL (rP K rS (rT K rS))) rules1, some (.ow (nl K rS) s3), fc rS x4.1, fc (rT K rS) x4.2, none] : Cells K)) (r := rS) (f := (fun (s6 : (List Str)) (x7 : Str) => mb (oM (sgn ("." : Str))) fun t9 => mb (mand (!(decide (t9 ∈ x7.cps.toList))) (mb (m__law_is_token x7) fun t10 => .ok (t10 && (!(decide (x7 ∈ s6)))))) fun c11 => bif c11 then mb (chk (decide (s6.length < 100000))) fun _ => mb (.ok (s6 ++ [x7])) fun tokenshere13 => .ok tokenshere13 else .ok s6)) (s0 := s3) (fun (s6 : (List Str)) => ([rc (rL (rP K rS (rT K rS))) rules1, some (.ow (nl K rS) s6), fc rS x4.1, fc (rT K rS) x4.2, none] : Cells K)) hm ?_ (.keep (.keep (.keep (.keep (.keep .nil))))) (fun H0' e0 x7 s6 s' h => ⟨_, tg_name, ?_⟩) ?_
    · refine wk_tup ?_
      walk_at "ev"
    · have hD : Nx H0' ((fun (s6 : (List Str)) => ([rc (rL (rP K rS (rT K rS))) rules1, some (.ow (nl K rS) s6), fc rS x4.1, fc (rT K rS) x4.2, none] : Cells K)) s') (Have H0' ((fun (s6 : (List Str)) => ([rc (rL (rP K rS (rT K rS))) rules1, some (.ow (nl K rS) s6), fc rS x4.1, fc (rT K rS) x4.2, none] : Cells K)) s')) := fun _ _ z => z
      obtain ⟨t9, e_t9, h⟩ := mb_ok h; have e_t9 := oM_ok e_t9
      obtain ⟨c11, e_c11, h⟩ := mb_ok h
      refine l_if (c := c11) ?_ ?_ ?_
      · refine et_andM ?_ (fun _ e => ?_) e_c11
        · walk_at "ev"
        obtain ⟨t10, e_t10, e⟩ := mb_ok e
        cases e
        refine et_and ?_ (fun _ => ?_)
        · walk_at "ev"
        walk_at "ev"
      · intro hc; have h := bif_t h hc
        obtain ⟨_, e_u12, h⟩ := mb_ok h; have e_u12 := of_decide_eq_true (chk_ok e_u12)
        obtain ⟨tokenshere13, e_tokenshere13, h⟩ := mb_ok h; have e_tokenshere13 := ok_inj e_tokenshere13
        refine l_app (x := x7) (xs := s6) (by rfl) (x' := x7) ?_ rfl (by assumption) ?_
        · walk_at "ev"
        rw [e_tokenshere13]
        cases h
        exact fun σ H hv => hD σ H (hv.less (.keep (.keep (.keep (.keep (.drop .nil))))))
      · intro hc; have h := bif_f h hc
        cases h
        exact fun σ H hv => hD σ H (hv.less (.keep (.keep (.keep (.keep (.drop .nil))))))
    cases h
    exact fun σ H hv => hD σ H (hv.less (.keep (.keep (.drop (.drop (.keep .nil))))))
  cases h
  exact r_retO (i := 1) hD (by rfl)
abbrev n__law_tail : List Str := ["_law_row", "_law_care", "_law_names", "_law_tail_here", "_law_d", "_law_kind", "_law_which", "_law_picked"]
abbrev p__law_tail : List Str := ["_law_row", "_law_care", "_law_names"]
theorem sc__law_tail : FnScope n__law_tail p__law_tail (defScope s__law_tail) := ⟨rfl, rfl, rfl, by decide +kernel, rfl, by decide +kernel, by decide +kernel⟩
abbrev sp__law_tail (K : PySem.W.Frag) : Sp := spM (aC (rL rI) (aC rI (aC (rL (rL rS)) aN))) (rT K rS) fun a => m__law_tail a.1 a.2.1 a.2.2.1
theorem c__law_tail {P : Program} {w : World} {K : PySem.W.Frag} {mg : Str → Option Value} {base : Heap} (F : Df K mg "_law_tail" s__law_tail) (B_int : mg "int" = none) (B_len : mg "len" = none) : Cal P w K mg base CX0 "_law_tail" 1 p__law_tail (sp__law_tail K) := by
  refine cal_of F sc__law_tail (fun vs H Q E ⟨a, b, h, _⟩ => LenA.len h) (fun _ _ _ _ _ _ us hl => match us, hl with | [_, _, _], _ => rfl) fun cdv f A outer s H vs Q E hr h => ?_
  have sc := sc__law_tail
  refine ⟨_, (pss_cons (ps_set (i := 3) sc.nd rfl (Or.inl rfl) (pe_tupD pa_nil))
      (pss_cons (ps_for PassesOwn.never rfl (pi_listK K (pv 0)) (pg_name (i := 4) sc.nd rfl (Or.inl rfl))
      (pss_cons (ps_set (i := 5) sc.nd rfl (Or.inl rfl) (pe_op op_mod (pe_callTy call_int1 (by rfl) B_int (by decide +kernel) (pa_cons (pv 4) pa_nil)) pe_int))
      (pss_cons (ps_set (i := 6) sc.nd rfl (Or.inl rfl) (pe_op op_fdiv (pe_callTy call_int1 (by rfl) B_int (by decide +kernel) (pa_cons (pv 4) pa_nil)) pe_int))
      (pss_cons (ps_if (PW.pt (pw_or (PW.pt (pw_and (pt_cmpR op_eq (pv 5) pe_int (nomark _)) (pw_and1 (pt_cmpR op_eq (pe_callB (k_len K) (by rfl) B_len PySem.boot_len (pa_cons (pe_ix (k_ix K) (pv 2) pe_int (fun _ _ => rfl)) pa_nil)) pe_int (nomark _))))) (pw_or1 (PW.pt (pw_and (pt_cmpR op_eq (pv 5) pe_int (nomark _)) (pw_and1 (pt_cmpR op_eq (pv 1) pe_int (nomark _))))))))
      (pss_one (ps_set (i := 5) sc.nd rfl (Or.inl rfl) pe_int)) pss_nil)
      (pss_cons (ps_set (i := 7) sc.nd rfl (Or.inl rfl) (pe_ix (k_ix K) (pv 2) (pe_ix (k_ix K) (pe_lst (pa_cons pe_int (pa_cons pe_int (pa_cons pe_int (pa_cons pe_int pa_nil))))) (pv 5) (fun _ _ => rfl)) (fun _ _ => rfl)))
      (pss_cons (ps_set (i := 3) sc.nd rfl (Or.inl rfl) (pe_op (k_catA K) (pv 3) (pe_tupD (pa_cons (pe_ix (k_ix K) (pv 7) (pe_op op_mod (pv 6) (pe_callB (k_len K) (by rfl) B_len PySem.boot_len (pa_cons (pv 7) pa_nil))) (fun _ _ => rfl)) pa_nil))))
      (pss_one (ps_if (PW.pt (pw_and (pt_cmpR op_gt (pv 5) pe_int (nomark _)) (pw_and1 (PW.pt (pw_or (pt_cmpR op_eq (pv 1) pe_int (nomark _)) (pw_or1 (PW.pt (pw_and (pt_cmpR op_eq (pv 1) pe_int (nomark _)) (pw_and1 (pt_cmpR op_gt (pe_op op_mod (pe_op op_fdiv (pv 6) pe_int) pe_int) pe_int (nomark _)))))))))))
      (pss_one (ps_set (i := 3) sc.nd rfl (Or.inl rfl) (pe_op (k_catA K) (pv 3) (pe_tupD (pa_cons (pe_ix (k_ix K) (pe_ix (k_ix K) (pv 2) pe_int (fun _ _ => rfl)) pe_int (fun _ _ => rfl)) pa_nil))))) pss_nil))))))))
      (pss_one (ps_ret (pv 3))))), ?_⟩
  obtain ⟨⟨row1, care2, names3, _⟩, r0, ⟨v_row1, _, rfl, w_row1, ⟨v_care2, _, rfl, w_care2, ⟨v_names3, _, rfl, w_names3, rfl⟩⟩⟩, h, k⟩ := h
  have hD : RtOk (fz K (rT K rS)) H r0 { nx := fun _ H' => Q .non H', rt := Q } := fun v H' ⟨as, s, n, z⟩ => k v H' s z.2.now
  refine Sv.run (K := K) (G := ([rc (rL rI) row1, fc rI care2, rc (rL (rL rS)) names3, none, none, none, none, none] : Cells K)) ?_ (.ro w_row1 (.fz w_care2 (.ro w_names3 (.skip (.skip (.skip (.skip (.skip .nil))))))))
  have h : m__law_tail row1 care2 names3 = .ok r0 := h
  unfold m__law_tail at h
  obtain ⟨tailhere4, e_tailhere4, h⟩ := mb_ok h; have e_tailhere4 := ok_inj e_tailhere4
  refine q_set (r := (rT K rS)) (b := ([] : (List Str))) (b' := tailhere4) ?_ e_tailhere4 ?_
  · walk_at "ev"
  obtain ⟨s7, hm, h⟩ := mb_ok h
  refine q_forM (G' := ([rc (rL rI) row1, fc rI care2, rc (rL (rL rS)) names3, fc (rT K rS) tailhere4, none, none, none, none] : Cells K)) (r := rI) (f := (fun (s5 : (List Str)) (x6 : Int) => mb (.ok (x6 % (4 : Int))) fun kind8 => mb (.ok (x6 / (4 : Int))) fun which9 => mb (mand (decide (kind8 = (3 : Int))) (mb (oM (atI names3 (3 : Int))) fun t10 => .ok (decide ((t10.length : Int) = (0 : Int))))) fun c11 => mb (bif (c11 || ((decide (kind8 = (1 : Int))) && (decide (care2 = (0 : Int))))) then mb (.ok (0 : Int)) fun kind13 => .ok kind13 else .ok kind8) fun (s12 : Int) => mb (oM (atI ([(2 : Int), (1 : Int), (0 : Int), (3 : Int)]) s12)) fun t14 => mb (oM (atI names3 t14)) fun t15 => mb (chk (decide (0 < (t15.length : Int)))) fun _ => mb (oM (atI t15 (which9 % (t15.length : Int)))) fun t17 => mb (chk (decide (s5.length + [t17].length ≤ 100000))) fun _ => mb (.ok (s5 ++ [t17])) fun tailhere19 => bif ((decide ((1 : Int) < s12)) && ((decide (care2 = (0 : Int))) || ((decide (care2 = (1 : Int))) && (decide ((0 : Int) < ((which9 / (7 : Int)) % (3 : Int))))))) then mb (oM (atI names3 (2 : Int))) fun t20 => mb (oM (atI t20 (3 : Int))) fun t21 => mb (chk (decide (tailhere19.length + [t21].length ≤ 100000))) fun _ => mb (.ok (tailhere19 ++ [t21])) fun tailhere23 => .ok tailhere23 else .ok tailhere19)) (s0 := tailhere4) (fun (s5 : (List Str)) => ([rc (rL rI) row1, fc rI care2, rc (rL (rL rS)) names3, fc (rT K rS) s5, none, none, none, none] : Cells K)) hm ?_ (.keep (.keep (.keep (.keep (.keep (.keep (.keep (.keep .nil)))))))) (fun H0' e0 x6 s5 s' h => ⟨_, tg_name, ?_⟩) ?_
  · exact wk_ro (by rfl)
  · have hD : Nx H0' ((fun (s5 : (List Str)) => ([rc (rL rI) row1, fc rI care2, rc (rL (rL rS)) names3, fc (rT K rS) s5, none, none, none, none] : Cells K)) s') (Have H0' ((fun (s5 : (List Str)) => ([rc (rL rI) row1, fc rI care2, rc (rL (rL rS)) names3, fc (rT K rS) s5, none, none, none, none] : Cells K)) s')) := fun _ _ z => z
    obtain ⟨kind8, e_kind8, h⟩ := mb_ok h; have e_kind8 := ok_inj e_kind8
    refine q_set (r := rI) (b := x6 % (4 : Int)) (b' := kind8) ?_ e_kind8 ?_
    · walk_at "ev"
    obtain ⟨which9, e_which9, h⟩ := mb_ok h; have e_which9 := ok_inj e_which9
    refine q_set (r := rI) (b := x6 / (4 : Int)) (b' := which9) ?_ e_which9 ?_
    · walk_at "ev"
    obtain ⟨c11, e_c11, h⟩ := mb_ok h
    obtain ⟨s12, h1, h⟩ := mb_ok h
    refine cutK ([rc (rL rI) row1, fc rI care2, rc (rL (rL rS)) names3, fc (rT K rS) s5, fc rI x6, fc rI s12, fc rI which9, none] : Cells K) (fun K1 => ?_) ?_
    · have h := h1; clear h1; have hD := K1
      refine q_if (c := (c11 || ((decide (kind8 = (1 : Int))) && (decide (care2 = (0 : Int)))))) ?_ ?_ ?_
      · refine et_or ?_ (fun _ => ?_)
        · refine et_andM ?_ (fun _ e => ?_) e_c11
          · walk_at "ev"
          obtain ⟨t10, e_t10, e⟩ := mb_ok e; have e_t10 := oM_ok e_t10
          cases e
          walk_at "ev"
        walk_at "ev"
      · intro hc; have h := bif_t h hc
        obtain ⟨kind13, e_kind13, h⟩ := mb_ok h; have e_kind13 := ok_inj e_kind13
        refine l_set (r := rI) (b := (0 : Int)) (b' := kind13) ?_ e_kind13 ?_
        · walk_at "ev"
        cases h
        exact fun σ H hv => hD σ H (hv.less (.keep (.keep (.keep (.keep (.keep (.keep (.keep (.keep .nil)))))))))
      · intro hc; have h := bif_f h hc
        cases h
        exact fun σ H hv => hD σ H (hv.less (.keep (.keep (.keep (.keep (.keep (.keep (.keep (.keep .nil)))))))))
    obtain ⟨t14, e_t14, h⟩ := mb_ok h; have e_t14 := oM_ok e_t14
    obtain ⟨t15, e_t15, h⟩ := mb_ok h; have e_t15 := oM_ok e_t15
    refine q_setRo (r := (rL rS)) (x := t15) ?_ ?_
    · refine rg_ixL ?_ ?_ e_t15
      · exact rg_ro (by rfl)
      · walk_at "ev"
    obtain ⟨_, e_u16, h⟩ := mb_ok h; have e_u16 := of_decide_eq_true (chk_ok e_u16)
    obtain ⟨t17, e_t17, h⟩ := mb_ok h; have e_t17 := oM_ok e_t17
    obtain ⟨_, e_u18, h⟩ := mb_ok h; have e_u18 := of_decide_eq_true (chk_ok e_u18)
    obtain ⟨tailhere19, e_tailhere19, h⟩ := mb_ok h; have e_tailhere19 := ok_inj e_tailhere19
    refine q_set (r := (rT K rS)) (b := s5 ++ [t17]) (b' := tailhere19) ?_ e_tailhere19 ?_
    · walk_at "ev"
    refine l_if (c := ((decide ((1 : Int) < s12)) && ((decide (care2 = (0 : Int))) || ((decide (care2 = (1 : Int))) && (decide ((0 : Int) < ((which9 / (7 : Int)) % (3 : Int)))))))) ?_ ?_ ?_
    · walk_at "ev"
    · intro hc; have h := bif_t h hc
      obtain ⟨t20, e_t20, h⟩ := mb_ok h; have e_t20 := oM_ok e_t20
      obtain ⟨t21, e_t21, h⟩ := mb_ok h; have e_t21 := oM_ok e_t21
      obtain ⟨_, e_u22, h⟩ := mb_ok h; have e_u22 := of_decide_eq_true (chk_ok e_u22)
      obtain ⟨tailhere23, e_tailhere23, h⟩ := mb_ok h; have e_tailhere23 := ok_inj e_tailhere23
      refine l_set (r := (rT K rS)) (b := tailhere19 ++ [t21]) (b' := tailhere23) ?_ e_tailhere23 ?_
      · walk_at "ev"
      cases h
      exact fun σ H hv => hD σ H (hv.less (.keep (.keep (.keep (.keep (.drop (.drop (.drop (.drop .nil)))))))))
    · intro hc; have h := bif_f h hc
      cases h
      exact fun σ H hv => hD σ H (hv.less (.keep (.keep (.keep (.keep (.drop (.drop (.drop (.drop .nil)))))))))
  cases h
  refine r_ret hD ?_
  walk_at "ev"
abbrev n__law_inner : List Str := ["_law_draws_here", "_law_care", "_law_names", "_law_place", "_law_own", "_law_later", "_law_starts", "_law_first_here", "_law_side", "_law_sides", "_law_k", "_law_d", "_law_tail_here"]
abbrev p__law_inner : List Str := ["_law_draws_here", "_law_care", "_law_names", "_law_place"]
theorem sc__law_inner : FnScope n__law_inner p__law_inner (defScope s__law_inner) := ⟨rfl, rfl, rfl, by decide +kernel, rfl, by decide +kernel, by decide +kernel⟩
abbrev sp__law_inner (K : PySem.W.Frag) : Sp := spMN (aC (rL rI) (aC rI (aC (rL (rL rS)) (aC rI aN)))) (nl K (rT K rS)) fun a => m__law_inner a.1 a.2.1 a.2.2.1 a.2.2.2.1
theorem c__law_inner {P : Program} {w : World} {K : PySem.W.Frag} {mg : Str → Option Value} {base : Heap} (F : Df K mg "_law_inner" s__law_inner) (B_int : mg "int" = none) (B_len : mg "len" = none) (B_range : mg "range" = none) (C__law_tail : Cal P w K mg base CX0 "_law_tail" 1 p__law_tail (sp__law_tail K)) : Cal P w K mg base CX0 "_law_inner" 2 p__law_inner (sp__law_inner K) := by
  refine cal_of F sc__law_inner (fun vs H Q E ⟨a, b, h, _⟩ => LenA.len h) (fun _ _ _ _ _ _ us hl => match us, hl with | [_, _, _, _], _ => rfl) fun cdv f A outer s H vs Q E hr h => ?_
  have sc := sc__law_inner
  refine ⟨_, (pss_cons (ps_set (i := 4) sc.nd rfl (Or.inl rfl) (pe_ix (k_ix K) (pv 2) pe_int (fun _ _ => rfl)))
      (pss_cons (ps_set (i := 5) sc.nd rfl (Or.inl rfl) (pe_lst (pa_cons (pe_ix (k_ix K) (pv 2) pe_int (fun _ _ => rfl)) (pa_cons (pe_ix (k_ix K) (pv 2) pe_int (fun _ _ => rfl)) (pa_cons (pv 4) (pa_cons (pe_slice (k_slL K) (pe_ix (k_ix K) (pv 2) pe_int (fun _ _ => rfl)) (po_some (pe_op op_add (pv 3) pe_int)) po_none) pa_nil))))))
      (pss_cons (ps_set (i := 6) sc.nd rfl (Or.inl rfl) (pe_op op_cat (pv 4) (pe_ix (k_ix K) (pv 2) pe_int (fun _ _ => rfl))))
      (pss_cons (ps_set (i := 7) sc.nd rfl (Or.inl rfl) (pe_ix (k_ix K) (pv 6) (pe_op op_mod (pe_callTy call_int1 (by rfl) B_int (by decide +kernel) (pa_cons (pe_ix (k_ix K) (pv 0) pe_int (fun _ _ => rfl)) pa_nil)) (pe_callB (k_len K) (by rfl) B_len PySem.boot_len (pa_cons (pv 6) pa_nil))) (fun _ _ => rfl)))
      (pss_cons (ps_if (pt_cmpR op_eq (pv 1) pe_int (nomark _))
      (pss_one (ps_set (i := 7) sc.nd rfl (Or.inl rfl) (pe_ix (k_ix K) (pv 4) pe_int (fun _ _ => rfl)))) pss_nil)
      (pss_cons (ps_set (i := 8) sc.nd rfl (Or.inl rfl) (pe_op (k_catA K) (pe_tupD (pa_cons (pv 7) pa_nil)) (pe_fn C__law_tail (hr.mono (by decide)) (pa_cons (pe_slice (k_slL K) (pv 0) (po_some pe_int) (po_some (pe_op op_add pe_int (pe_op op_mod (pe_op op_fdiv (pe_callTy call_int1 (by rfl) B_int (by decide +kernel) (pa_cons (pe_ix (k_ix K) (pv 0) pe_int (fun _ _ => rfl)) pa_nil)) pe_int) pe_int)))) (pa_cons (pv 1) (pa_cons (pv 5) pa_nil))))))
      (pss_cons (ps_if (PW.pt (pw_and (pt_cmpR op_eq (pv 3) pe_int (nomark _)) (pw_and1 (pt_cmpR op_eq (pe_callB (k_len K) (by rfl) B_len PySem.boot_len (pa_cons (pe_ix (k_ix K) (pv 2) pe_int (fun _ _ => rfl)) pa_nil)) pe_int (nomark _)))))
      (pss_one (ps_set (i := 8) sc.nd rfl (Or.inl rfl) (pe_op (k_catA K) (pv 8) (pe_slice (k_slA K) (pe_tupD (pa_cons (pe_ix (k_ix K) (pe_ix (k_ix K) (pv 2) pe_int (fun _ _ => rfl)) pe_int (fun _ _ => rfl)) (pa_cons (pe_ix (k_ix K) (pv 4) pe_int (fun _ _ => rfl)) pa_nil))) po_none (po_some (pe_op op_add pe_int (pe_callTy call_int1 (by rfl) B_int (by decide +kernel) (pa_cons (pe_cmpR op_eq (pv 1) pe_int (nomark _)) pa_nil)))))))) pss_nil)
      (pss_cons (ps_set (i := 9) sc.nd rfl (Or.inl rfl) (pe_lst (pa_cons (pv 8) pa_nil)))
      (pss_cons (ps_for PassesOwn.never rfl (pi_range1 (by rfl) B_range (pa_cons (pe_op op_mod (pe_callTy call_int1 (by rfl) B_int (by decide +kernel) (pa_cons (pe_ix (k_ix K) (pv 0) pe_int (fun _ _ => rfl)) pa_nil)) pe_int) pa_nil)) (pg_name (i := 10) sc.nd rfl (Or.inl rfl))
      (pss_cons (ps_set (i := 11) sc.nd rfl (Or.inl rfl) (pe_callTy call_int1 (by rfl) B_int (by decide +kernel) (pa_cons (pe_ix (k_ix K) (pv 0) (pe_op op_add pe_int (pe_op op_mul pe_int (pv 10))) (fun _ _ => rfl)) pa_nil)))
      (pss_cons (ps_set (i := 12) sc.nd rfl (Or.inl rfl) (pe_fn C__law_tail (hr.mono (by decide)) (pa_cons (pe_slice (k_slL K) (pv 0) (po_some (pe_op op_add pe_int (pe_op op_mul pe_int (pv 10)))) (po_some (pe_op op_add (pe_op op_add pe_int (pe_op op_mul pe_int (pv 10))) (pe_op op_mod (pe_op op_fdiv (pv 11) pe_int) pe_int)))) (pa_cons (pv 1) (pa_cons (pv 2) pa_nil)))))
      (pss_cons (ps_if (pt_cmpR op_eq (pe_op op_mod (pv 11) pe_int) pe_int (nomark _))
      (pss_one (ps_set (i := 8) sc.nd rfl (Or.inl rfl) (pe_tupD pa_nil))) (pss_one (ps_if (pt_cmpR op_eq (pv 1) pe_int (nomark _))
      (pss_one (ps_set (i := 8) sc.nd rfl (Or.inl rfl) (pe_op (k_catA K) (pe_tupD (pa_cons (pe_ix (k_ix K) (pv 4) (pe_op op_add pe_int (pv 10)) (fun _ _ => rfl)) pa_nil)) (pv 12)))) (pss_one (ps_if (pt_cmpR op_eq (pe_op op_mod (pv 11) pe_int) pe_int (nomark _))
      (pss_one (ps_set (i := 8) sc.nd rfl (Or.inl rfl) (pe_op (k_catA K) (pe_tupD (pa_cons (pe_ix (k_ix K) (pv 6) (pe_op op_mod (pe_op op_fdiv (pv 11) pe_int) (pe_callB (k_len K) (by rfl) B_len PySem.boot_len (pa_cons (pv 6) pa_nil))) (fun _ _ => rfl)) pa_nil)) (pv 12)))) (pss_one (ps_set (i := 8) sc.nd rfl (Or.inl rfl) (pe_op (k_catA K) (pe_tupD (pa_cons (pe_ix (k_ix K) (pe_ix (k_ix K) (pv 2) pe_int (fun _ _ => rfl)) (pe_op op_mod (pe_op op_fdiv (pv 11) pe_int) (pe_callB (k_len K) (by rfl) B_len PySem.boot_len (pa_cons (pe_ix (k_ix K) (pv 2) pe_int (fun _ _ => rfl)) pa_nil))) (fun _ _ => rfl)) pa_nil)) (pv 12)))))))))
      (pss_one (ps_if (pt_cmpR (k_ninD K (Nat.lt_of_le_of_lt (Nat.add_le_add_left (by decide) _) hr.un)) (pv 8) (pv 9) rfl)
      (pss_one (ps_expr (pe_app K (pv 9) (pa_cons (pv 8) pa_nil)))) pss_nil))))))
      (pss_one (ps_ret (pv 9)))))))))))), ?_⟩
  obtain ⟨⟨drawshere1, care2, names3, place4, _⟩, r0, ⟨v_drawshere1, _, rfl, w_drawshere1, ⟨v_care2, _, rfl, w_care2, ⟨v_names3, _, rfl, w_names3, ⟨v_place4, _, rfl, w_place4, rfl⟩⟩⟩⟩, h, k⟩ := h
  have hD : RtOk (nl K (rT K rS)) H r0 { nx := fun _ H' => Q .non H', rt := Q } := fun v H' ⟨as, s, n, z⟩ => k v H' as s n z
  refine Sv.run (K := K) (G := ([rc (rL rI) drawshere1, fc rI care2, rc (rL (rL rS)) names3, fc rI place4, none, none, none, none, none, none, none, none, none] : Cells K)) ?_ (.ro w_drawshere1 (.fz w_care2 (.ro w_names3 (.fz w_place4 (.skip (.skip (.skip (.skip (.skip (.skip (.skip (.skip (.skip .nil)))))))))))))
  have h : m__law_inner drawshere1 care2 names3 place4 = .ok r0 := h
  unfold m__law_inner at h
  obtain ⟨t5, e_t5, h⟩ := mb_ok h; have e_t5 := oM_ok e_t5
  refine q_setRo (r := (rL rS)) (x := t5) ?_ ?_
  · refine rg_ixL ?_ ?_ e_t5
    · exact rg_ro (by rfl)
    · walk_at "ev"
  obtain ⟨t6, e_t6, h⟩ := mb_ok h; have e_t6 := oM_ok e_t6
  obtain ⟨t7, e_t7, h⟩ := mb_ok h; have e_t7 := oM_ok e_t7
  obtain ⟨t8, e_t8, h⟩ := mb_ok h; have e_t8 := oM_ok e_t8
  refine q_setRo (r := (rL (rL rS))) (x := [t6, t7, t5, cut t8 (some (place4 + (1 : Int))) none]) ?_ ?_
  · refine rg_lst ?_ (by simp only [List.length_cons, List.length_nil]; omega)
    refine rga_cons ?_ ?_
    · refine rg_ixL ?_ ?_ e_t6
      · exact rg_ro (by rfl)
      · walk_at "ev"
    refine rga_cons ?_ ?_
    · refine rg_ixL ?_ ?_ e_t7
      · exact rg_ro (by rfl)
      · walk_at "ev"
    refine rga_cons ?_ ?_
    · exact rg_ro (by rfl)
    refine rga_cons ?_ ?_
    · refine rg_new (R := (nl K rS)) ?_ fun _ _ _ z => vw_nl z
      walk_at "ev"
    exact rga_nil
  obtain ⟨_, e_u9, h⟩ := mb_ok h; have e_u9 := of_decide_eq_true (chk_ok e_u9)
  obtain ⟨starts10, e_starts10, h⟩ := mb_ok h; have e_starts10 := ok_inj e_starts10
  refine q_asg (R := (nl K rS)) (b := t5 ++ t7) (b' := starts10) ?_ e_starts10 ?_
  · walk_at "ev"
  obtain ⟨t11, e_t11, h⟩ := mb_ok h; have e_t11 := oM_ok e_t11
  obtain ⟨_, e_u12, h⟩ := mb_ok h; have e_u12 := of_decide_eq_true (chk_ok e_u12)
  obtain ⟨t13, e_t13, h⟩ := mb_ok h; have e_t13 := oM_ok e_t13
  refine q_set (r := rS) (b := t13) (b' := t13) ?_ rfl ?_
  · walk_at "ev"
  obtain ⟨s14, h1, h⟩ := mb_ok h
  refine cutK ([rc (rL rI) drawshere1, fc rI care2, rc (rL (rL rS)) names3, fc rI place4, rc (rL rS) t5, rc (rL (rL rS)) ([t6, t7, t5, cut t8 (some (place4 + (1 : Int))) none]), some (.ow (nl K rS) starts10), fc rS s14, none, none, none, none, none] : Cells K) (fun K1 => ?_) ?_
  · have h := h1; clear h1; have hD := K1
    refine q_if (c := (decide (care2 = (0 : Int)))) ?_ ?_ ?_
    · walk_at "ev"
    · intro hc; have h := bif_t h hc
      obtain ⟨t15, e_t15, h⟩ := mb_ok h; have e_t15 := oM_ok e_t15
      refine l_set (r := rS) (b := t15) (b' := t15) ?_ rfl ?_
      · walk_at "ev"
      cases h
      exact fun σ H hv => hD σ H (hv.less (.keep (.keep (.keep (.keep (.keep (.keep (.keep (.keep (.keep (.keep (.keep (.keep (.keep .nil))))))))))))))
    · intro hc; have h := bif_f h hc
      cases h
      exact fun σ H hv => hD σ H (hv.less (.keep (.keep (.keep (.keep (.keep (.keep (.keep (.keep (.keep (.keep (.keep (.keep (.keep .nil))))))))))))))
  obtain ⟨t16, e_t16, h⟩ := mb_ok h
  obtain ⟨_, e_u17, h⟩ := mb_ok h; have e_u17 := of_decide_eq_true (chk_ok e_u17)
  obtain ⟨side18, e_side18, h⟩ := mb_ok h; have e_side18 := ok_inj e_side18
  refine q_set (r := (rT K rS)) (b := [s14] ++ t16) (b' := side18) ?_ e_side18 ?_
  · walk_at "ev"
  obtain ⟨s19, h1, h⟩ := mb_ok h
  refine cutK ([rc (rL rI) drawshere1, fc rI care2, rc (rL (rL rS)) names3, fc rI place4, rc (rL rS) t5, rc (rL (rL rS)) ([t6, t7, t5, cut t8 (some (place4 + (1 : Int))) none]), some (.ow (nl K rS) starts10), fc rS s14, fc (rT K rS) s19, none, none, none, none] : Cells K) (fun K1 => ?_) ?_
  · have h := h1; clear h1; have hD := K1
    refine q_if (c := ((decide (place4 = (0 : Int))) && (decide ((t8.length : Int) = (2 : Int))))) ?_ ?_ ?_
    · walk_at "ev"
    · intro hc; have h := bif_t h hc
      obtain ⟨t20, e_t20, h⟩ := mb_ok h; have e_t20 := oM_ok e_t20
      obtain ⟨t21, e_t21, h⟩ := mb_ok h; have e_t21 := oM_ok e_t21
      obtain ⟨_, e_u22, h⟩ := mb_ok h; have e_u22 := of_decide_eq_true (chk_ok e_u22)
      obtain ⟨side23, e_side23, h⟩ := mb_ok h; have e_side23 := ok_inj e_side23
      refine l_set (r := (rT K rS)) (b := side18 ++ (cut ([t20, t21]) none (some ((1 : Int) + (b2 (decide (care2 = (0 : Int)))))))) (b' := side23) ?_ e_side23 ?_
      · walk_at "ev"
      cases h
      exact fun σ H hv => hD σ H (hv.less (.keep (.keep (.keep (.keep (.keep (.keep (.keep (.keep (.keep (.keep (.keep (.keep (.keep .nil))))))))))))))
    · intro hc; have h := bif_f h hc
      cases h
      exact fun σ H hv => hD σ H (hv.less (.keep (.keep (.keep (.keep (.keep (.keep (.keep (.keep (.keep (.keep (.keep (.keep (.keep .nil))))))))))))))
  obtain ⟨sides24, e_sides24, h⟩ := mb_ok h; have e_sides24 := ok_inj e_sides24
  refine q_asg (R := (nl K (rT K rS))) (b := [s19]) (b' := sides24) ?_ e_sides24 ?_
  · walk_at "ev"
  obtain ⟨t25, e_t25, h⟩ := mb_ok h; have e_t25 := oM_ok e_t25
  obtain ⟨_, e_u26, h⟩ := mb_ok h; have e_u26 := of_decide_eq_true (chk_ok e_u26)
  obtain ⟨s29, hm, h⟩ := mb_ok h
  refine q_forM (G' := ([rc (rL rI) drawshere1, fc rI care2, rc (rL (rL rS)) names3, fc rI place4, rc (rL rS) t5, rc (rL (rL rS)) ([t6, t7, t5, cut t8 (some (place4 + (1 : Int))) none]), some (.ow (nl K rS) starts10), fc rS s14, fc (rT K rS) s19, some (.ow (nl K (rT K rS)) sides24), none, none, none] : Cells K)) (r := rI) (f := (fun (s27 : (List (List Str))) (x28 : Int) => mb (oM (atI drawshere1 ((4 : Int) + ((4 : Int) * x28)))) fun t30 => mb (m__law_tail (cut drawshere1 (some ((5 : Int) + ((4 : Int) * x28))) (some (((5 : Int) + ((4 : Int) * x28)) + ((t30 / (3 : Int)) % (4 : Int))))) care2 names3) fun t31 => mb (bif (decide ((t30 % (3 : Int)) = (0 : Int))) then mb (.ok ([] : (List Str))) fun side33 => .ok side33 else bif (decide (care2 = (0 : Int))) then mb (oM (atI t5 ((1 : Int) + x28))) fun t34 => mb (chk (decide ([t34].length + t31.length ≤ 100000))) fun _ => mb (.ok ([t34] ++ t31)) fun side36 => .ok side36 else bif (decide ((t30 % (3 : Int)) = (1 : Int))) then mb (oM (atI starts10 ((t30 / (12 : Int)) % (starts10.length : Int)))) fun t37 => mb (chk (decide ([t37].length + t31.length ≤ 100000))) fun _ => mb (.ok ([t37] ++ t31)) fun side39 => .ok side39 else mb (chk (decide (0 < (t6.length : Int)))) fun _ => mb (oM (atI t6 ((t30 / (12 : Int)) % (t6.length : Int)))) fun t41 => mb (chk (decide ([t41].length + t31.length ≤ 100000))) fun _ => mb (.ok ([t41] ++ t31)) fun side43 => .ok side43) fun (s32 : (List Str)) => bif (!(memB s32 s27)) then mb (chk (decide (s27.length < 100000))) fun _ => mb (.ok (s27 ++ [s32])) fun sides45 => .ok sides45 else .ok s27)) (s0 := sides24) (fun (s27 : (List (List Str))) => ([rc (rL rI) drawshere1, fc rI care2, rc (rL (rL rS)) names3, fc rI place4, rc (rL rS) t5, rc (rL (rL rS)) ([t6, t7, t5, cut t8 (some (place4 + (1 : Int))) none]), some (.ow (nl K rS) starts10), fc rS s14, none, some (.ow (nl K (rT K rS)) s27), none, none, none] : Cells K)) hm ?_ (.keep (.keep (.keep (.keep (.keep (.keep (.keep (.keep (.drop (.keep (.keep (.keep (.keep .nil))))))))))))) (fun H0' e0 x28 s27 s' h => ⟨_, tg_name, ?_⟩) ?_
  · refine wk_rng1 ?_ ?_
    · walk_at "ev"
    · first | assumption | omega
  · have hD : Nx H0' ((fun (s27 : (List (List Str))) => ([rc (rL rI) drawshere1, fc rI care2, rc (rL (rL rS)) names3, fc rI place4, rc (rL rS) t5, rc (rL (rL rS)) ([t6, t7, t5, cut t8 (some (place4 + (1 : Int))) none]), some (.ow (nl K rS) starts10), fc rS s14, none, some (.ow (nl K (rT K rS)) s27), none, none, none] : Cells K)) s') (Have H0' ((fun (s27 : (List (List Str))) => ([rc (rL rI) drawshere1, fc rI care2, rc (rL (rL rS)) names3, fc rI place4, rc (rL rS) t5, rc (rL (rL rS)) ([t6, t7, t5, cut t8 (some (place4 + (1 : Int))) none]), some (.ow (nl K rS) starts10), fc rS s14, none, some (.ow (nl K (rT K rS)) s27), none, none, none] : Cells K)) s')) := fun _ _ z => z
    obtain ⟨t30, e_t30, h⟩ := mb_ok h; have e_t30 := oM_ok e_t30
    refine q_set (r := rI) (b := t30) (b' := t30) ?_ rfl ?_
    · walk_at "ev"
    obtain ⟨t31, e_t31, h⟩ := mb_ok h
    refine q_set (r := (rT K rS)) (b := t31) (b' := t31) ?_ rfl ?_
    · walk_at "ev"
    obtain ⟨s32, h1, h⟩ := mb_ok h
    refine cutK ([rc (rL rI) drawshere1, fc rI care2, rc (rL (rL rS)) names3, fc rI place4, rc (rL rS) t5, rc (rL (rL rS)) ([t6, t7, t5, cut t8 (some (place4 + (1 : Int))) none]), some (.ow (nl K rS) starts10), fc rS s14, fc (rT K rS) s32, some (.ow (nl K (rT K rS)) s27), fc rI x28, fc rI t30, fc (rT K rS) t31] : Cells K) (fun K1 => ?_) ?_
    · have h := h1; clear h1; have hD := K1
      refine q_if (c := (decide ((t30 % (3 : Int)) = (0 : Int)))) ?_ ?_ ?_
      · walk_at "ev"
      · intro hc; have h := bif_t h hc
        obtain ⟨side33, e_side33, h⟩ := mb_ok h; have e_side33 := ok_inj e_side33
        refine l_set (r := (rT K rS)) (b := ([] : (List Str))) (b' := side33) ?_ e_side33 ?_
        · walk_at "ev"
        cases h
        exact fun σ H hv => hD σ H (hv.less (.keep (.keep (.keep (.keep (.keep (.keep (.keep (.keep (.keep (.keep (.keep (.keep (.keep .nil))))))))))))))
      · intro hc; have h := bif_f h hc
        refine l_if (c := (decide (care2 = (0 : Int)))) ?_ ?_ ?_
        · walk_at "ev"
        · intro hc; have h := bif_t h hc
          obtain ⟨t34, e_t34, h⟩ := mb_ok h; have e_t34 := oM_ok e_t34
          obtain ⟨_, e_u35, h⟩ := mb_ok h; have e_u35 := of_decide_eq_true (chk_ok e_u35)
          obtain ⟨side36, e_side36, h⟩ := mb_ok h; have e_side36 := ok_inj e_side36
          refine l_set (r := (rT K rS)) (b := [t34] ++ t31) (b' := side36) ?_ e_side36 ?_
          · walk_at "ev"
          cases h
          exact fun σ H hv => hD σ H (hv.less (.keep (.keep (.keep (.keep (.keep (.keep (.keep (.keep (.keep (.keep (.keep (.keep (.keep .nil))))))))))))))
        · intro hc; have h := bif_f h hc
          refine l_if (c := (decide ((t30 % (3 : Int)) = (1 : Int)))) ?_ ?_ ?_
          · walk_at "ev"
          · intro hc; have h := bif_t h hc
            obtain ⟨t37, e_t37, h⟩ := mb_ok h; have e_t37 := oM_ok e_t37
            obtain ⟨_, e_u38, h⟩ := mb_ok h; have e_u38 := of_decide_eq_true (chk_ok e_u38)
            obtain ⟨side39, e_side39, h⟩ := mb_ok h; have e_side39 := ok_inj e_side39
            refine l_set (r := (rT K rS)) (b := [t37] ++ t31) (b' := side39) ?_ e_side39 ?_
            · walk_at "ev"
            cases h
            exact fun σ H hv => hD σ H (hv.less (.keep (.keep (.keep (.keep (.keep (.keep (.keep (.keep (.keep (.keep (.keep (.keep (.keep .nil))))))))))))))
          · intro hc; have h := bif_f h hc
            obtain ⟨_, e_u40, h⟩ := mb_ok h; have e_u40 := of_decide_eq_true (chk_ok e_u40)
            obtain ⟨t41, e_t41, h⟩ := mb_ok h; have e_t41 := oM_ok e_t41
            obtain ⟨_, e_u42, h⟩ := mb_ok h; have e_u42 := of_decide_eq_true (chk_ok e_u42)
            obtain ⟨side43, e_side43, h⟩ := mb_ok h; have e_side43 := ok_inj e_side43
            refine l_set (r := (rT K rS)) (b := [t41] ++ t31) (b' := side43) ?_ e_side43 ?_
            · walk_at "ev"
            cases h
            exact fun σ H hv => hD σ H (hv.less (.keep (.keep (.keep (.keep (.keep (.keep (.keep (.keep (.keep (.keep (.keep (.keep (.keep .nil))))))))))))))
    refine l_if (c := (!(memB s32 s27))) ?_ ?_ ?_
    · walk_at "ev"
    · intro hc; have h := bif_t h hc
      obtain ⟨_, e_u44, h⟩ := mb_ok h; have e_u44 := of_decide_eq_true (chk_ok e_u44)
      obtain ⟨sides45, e_sides45, h⟩ := mb_ok h; have e_sides45 := ok_inj e_sides45
      refine l_app (x := s32) (xs := s27) (by rfl) (x' := s32) ?_ rfl (by assumption) ?_
      · walk_at "ev"
      rw [e_sides45]
      cases h
      exact fun σ H hv => hD σ H (hv.less (.keep (.keep (.keep (.keep (.keep (.keep (.keep (.keep (.drop (.keep (.drop (.drop (.drop .nil))))))))))))))
    · intro hc; have h := bif_f h hc
      cases h
      exact fun σ H hv => hD σ H (hv.less (.keep (.keep (.keep (.keep (.keep (.keep (.keep (.keep (.drop (.keep (.drop (.drop (.drop .nil))))))))))))))
  cases h
  exact r_retO (i := 9) hD (by rfl)
abbrev n__law_guest : List Str := ["_law_draws_here", "_law_name_here", "_law_host_here", "_law_style", "_law_care", "_law_inner_here", "_law_k", "_law_own", "_law_names", "_law_rules", "_law_d", "_law_side", "_law_back", "_law_head", "_law_sides"]
abbrev p__law_guest : List Str := ["_law_draws_here", "_law_name_here", "_law_host_here"]
theorem sc__law_guest : FnScope n__law_guest p__law_guest (defScope s__law_guest) := ⟨rfl, rfl, rfl, by decide +kernel, rfl, by decide +kernel, by decide +kernel⟩
abbrev sp__law_guest (K : PySem.W.Frag) : Sp := spMN (aC (rL rI) (aC rS (aC (rL (rP K rS (rT K rS))) aN))) (nl K (rP K rS (rT K rS))) fun a => m__law_guest a.1 a.2.1 a.2.2.1
theorem c__law_guest {P : Program} {w : World} {K : PySem.W.Frag} {mg : Str → Option Value} {base : Heap} (F : Df K mg "_law_guest" s__law_guest) (B_int : mg "int" = none) (B_range : mg "range" = none) (B_len : mg "len" = none) (C__law_name : Cal P w K mg base CX0 "_law_name" 1 p__law_name (sp__law_name K)) (C__law_tokens : Cal P w K mg base CX0 "_law_tokens" 2 p__law_tokens (sp__law_tokens K)) (C__law_heads : Cal P w K mg base CX0 "_law_heads" 1 p__law_heads (sp__law_heads K)) (C__law_tail : Cal P w K mg base CX0 "_law_tail" 1 p__law_tail (sp__law_tail K)) (C__law_inner : Cal P w K mg base CX0 "_law_inner" 2 p__law_inner (sp__law_inner K)) : Cal P w K mg base CX0 "_law_guest" 3 p__law_guest (sp__law_guest K) := by
  refine cal_of F sc__law_guest (fun vs H Q E ⟨a, b, h, _⟩ => LenA.len h) (fun _ _ _ _ _ _ us hl => match us, hl with | [_, _, _], _ => rfl) fun cdv f A outer s H vs Q E hr h => ?_
  have sc := sc__law_guest
  refine ⟨_, (pss_cons (ps_set (i := 3) sc.nd rfl (Or.inr rfl) (pe_callTy call_int1 (by rfl) B_int (by decide +kernel) (pa_cons (pe_ix (k_ix K) (pv 0) pe_int (fun _ _ => rfl)) pa_nil)))
      (pss_cons (ps_set (i := 4) sc.nd rfl (Or.inl rfl) (pe_op op_mod (pe_callTy call_int1 (by rfl) B_int (by decide +kernel) (pa_cons (pe_ix (k_ix K) (pv 0) pe_int (fun _ _ => rfl)) pa_nil)) pe_int))
      (pss_cons (ps_set (i := 5) sc.nd rfl (Or.inr rfl) (pe_lc (own := [("_law_k", 6)]) (g := gName 6) (tt := tYes) (by rfl) sc.nd (pi_range1 (by rfl) B_range (pa_cons (pe_op op_mod (pe_callTy call_int1 (by rfl) B_int (by decide +kernel) (pa_cons (pe_ix (k_ix K) (pv 0) pe_int (fun _ _ => rfl)) pa_nil)) pe_int) pa_nil)) (blkOk_by (own := [("_law_k", 6)]) (N := n__law_guest) (sc := defScope s__law_guest) (by decide +kernel)) (fun _ _ _ _ _ => (pg_name (i := 6) sc.nd rfl (Or.inl rfl))) (fun _ _ _ _ _ => pts_nil) (fun _ _ _ _ _ => (pe_op op_add_str (pe_op op_add_str (pv 1) pe_str) (pe_fn C__law_name (hr.mono (by decide)) (pa_cons (pv 6) (pa_cons (pv 3) (pa_cons pe_bl pa_nil))))))))
      (pss_cons (ps_setLc (i := 7) (own := [("_law_k", 6)]) (g := gName 6) (tt := tYes) (by rfl) sc.nd rfl rfl (sw_true rfl rfl rfl (by decide +kernel)) (pi_range1 (by rfl) B_range (pa_cons pe_int pa_nil)) (blkOk_by (own := [("_law_k", 6)]) (N := n__law_guest) (sc := defScope s__law_guest) (by decide +kernel)) (fun _ _ _ _ _ => (pg_name (i := 6) sc.nd rfl (Or.inl rfl))) (fun _ _ _ _ _ => pts_nil) (fun _ _ _ _ _ => (pe_op op_add_str (pe_op op_add_str (pv 1) pe_str) (pe_fn C__law_name (hr.mono (by decide)) (pa_cons (pv 6) (pa_cons (pv 3) (pa_cons pe_bl pa_nil)))))))
      (pss_cons (ps_set (i := 8) sc.nd rfl (Or.inl rfl) (pe_lst (pa_cons (pe_fn C__law_heads (hr.mono (by decide)) (pa_cons (pv 2) pa_nil)) (pa_cons (pe_fn C__law_tokens (hr.mono (by decide)) (pa_cons (pv 2) pa_nil)) (pa_cons (pv 7) (pa_cons (pv 5) pa_nil))))))
      (pss_cons (ps_set (i := 9) sc.nd rfl (Or.inl rfl) (pe_lst pa_nil))
      (pss_cons (ps_for PassesOwn.never rfl (pi_range1 (by rfl) B_range (pa_cons (pe_op op_add pe_int (pe_op op_mod (pe_callTy call_int1 (by rfl) B_int (by decide +kernel) (pa_cons (pe_ix (k_ix K) (pv 0) pe_int (fun _ _ => rfl)) pa_nil)) pe_int)) pa_nil)) (pg_name (i := 6) sc.nd rfl (Or.inr rfl))
      (pss_cons (ps_set (i := 10) sc.nd rfl (Or.inl rfl) (pe_callTy call_int1 (by rfl) B_int (by decide +kernel) (pa_cons (pe_ix (k_ix K) (pv 0) (pe_op op_add pe_int (pv 6)) (fun _ _ => rfl)) pa_nil)))
      (pss_cons (ps_set (i := 11) sc.nd rfl (Or.inl rfl) (pe_tupD (pa_cons (pe_op op_add_str (pe_op op_add_str (pv 1) pe_str) (pe_fn C__law_name (hr.mono (by decide)) (pa_cons (pe_op op_add pe_int (pv 6)) (pa_cons (pv 3) (pa_cons pe_bl pa_nil))))) pa_nil)))
      (pss_cons (ps_set (i := 11) sc.nd rfl (Or.inl rfl) (pe_op (k_catA K) (pv 11) (pe_fn C__law_tail (hr.mono (by decide)) (pa_cons (pe_slice (k_slL K) (pv 0) (po_some (pe_op op_add pe_int (pe_op op_mul pe_int (pv 6)))) (po_some (pe_op op_add (pe_op op_add pe_int (pe_op op_mul pe_int (pv 6))) (pe_op op_mod (pe_op op_fdiv (pv 10) pe_int) pe_int)))) (pa_cons (pv 4) (pa_cons (pv 8) pa_nil))))))
      (pss_cons (ps_if (PW.pt (pw_and (pt_cmpR op_eq (pv 6) pe_int (nomark _)) (pw_and1 (pt_cmpR op_gt (pe_callB (k_len K) (by rfl) B_len PySem.boot_len (pa_cons (pv 5) pa_nil)) pe_int (nomark _)))))
      (pss_one (ps_set (i := 11) sc.nd rfl (Or.inl rfl) (pe_op (k_catA K) (pv 11) (pe_slice (k_slA K) (pe_tupD (pa_cons (pe_ix (k_ix K) (pv 5) pe_int (fun _ _ => rfl)) (pa_cons (pe_ix (k_ix K) (pv 7) pe_int (fun _ _ => rfl)) pa_nil))) po_none (po_some (pe_op op_add pe_int (pe_callTy call_int1 (by rfl) B_int (by decide +kernel) (pa_cons (pe_cmpR op_eq (pv 4) pe_int (nomark _)) pa_nil)))))))) pss_nil)
      (pss_one (ps_expr (pe_app K (pv 9) (pa_cons (pe_tupD (pa_cons (pe_ix (k_ix K) (pe_ix (k_ix K) (pv 8) pe_int (fun _ _ => rfl)) (pe_op op_mod (pv 10) (pe_callB (k_len K) (by rfl) B_len PySem.boot_len (pa_cons (pe_ix (k_ix K) (pv 8) pe_int (fun _ _ => rfl)) pa_nil))) (fun _ _ => rfl)) (pa_cons (pv 11) pa_nil))) pa_nil)))))))))
      (pss_cons (ps_set (i := 12) sc.nd rfl (Or.inl rfl) (pe_and (pe_cmpR op_gt (pv 4) pe_int (nomark _)) (pe_and (pe_cmpR op_gt (pe_callB (k_len K) (by rfl) B_len PySem.boot_len (pa_cons (pv 5) pa_nil)) pe_int (nomark _)) (pe_one (pe_cmpR op_eq (pe_op op_mod (pe_op op_fdiv (pe_callTy call_int1 (by rfl) B_int (by decide +kernel) (pa_cons (pe_ix (k_ix K) (pv 0) pe_int (fun _ _ => rfl)) pa_nil)) pe_int) pe_int) pe_int (nomark _))))))
      (pss_cons (ps_if (pt_val (pv 12))
      (pss_cons (ps_set (i := 13) sc.nd rfl (Or.inl rfl) (pe_ix (k_ix K) (pe_ix (k_ix K) (pv 8) pe_int (fun _ _ => rfl)) (pe_op op_mod (pe_op op_fdiv (pe_callTy call_int1 (by rfl) B_int (by decide +kernel) (pa_cons (pe_ix (k_ix K) (pv 0) pe_int (fun _ _ => rfl)) pa_nil)) pe_int) (pe_callB (k_len K) (by rfl) B_len PySem.boot_len (pa_cons (pe_ix (k_ix K) (pv 8) pe_int (fun _ _ => rfl)) pa_nil))) (fun _ _ => rfl)))
      (pss_cons (ps_set (i := 11) sc.nd rfl (Or.inl rfl) (pe_tupD (pa_cons (pe_op op_add_str (pe_op op_add_str (pv 1) pe_str) (pe_fn C__law_name (hr.mono (by decide)) (pa_cons pe_int (pa_cons (pv 3) (pa_cons pe_bl pa_nil))))) (pa_cons (pe_ix (k_ix K) (pe_ix (k_ix K) (pv 8) pe_int (fun _ _ => rfl)) (pe_op op_mod (pe_op op_fdiv (pe_callTy call_int1 (by rfl) B_int (by decide +kernel) (pa_cons (pe_ix (k_ix K) (pv 0) pe_int (fun _ _ => rfl)) pa_nil)) pe_int) (pe_callB (k_len K) (by rfl) B_len PySem.boot_len (pa_cons (pe_ix (k_ix K) (pv 8) pe_int (fun _ _ => rfl)) pa_nil))) (fun _ _ => rfl)) (pa_cons (pe_ix (k_ix K) (pv 7) pe_int (fun _ _ => rfl)) pa_nil)))))
      (pss_one (ps_expr (pe_app K (pv 9) (pa_cons (pe_tupD (pa_cons (pv 13) (pa_cons (pv 11) pa_nil))) pa_nil)))))) pss_nil)
      (pss_cons (ps_for PassesOwn.never rfl (pi_range1 (by rfl) B_range (pa_cons (pe_callB (k_len K) (by rfl) B_len PySem.boot_len (pa_cons (pv 5) pa_nil)) pa_nil)) (pg_name (i := 6) sc.nd rfl (Or.inr rfl))
      (pss_cons (ps_set (i := 14) sc.nd rfl (Or.inr rfl) (pe_fn C__law_inner (hr.mono (by decide)) (pa_cons (pe_slice (k_slL K) (pv 0) (po_some (pe_op op_add pe_int (pe_op op_mul pe_int (pv 6)))) (po_some (pe_op op_add pe_int (pe_op op_mul pe_int (pv 6))))) (pa_cons (pv 4) (pa_cons (pv 8) (pa_cons (pv 6) pa_nil))))))
      (pss_cons (ps_if (PW.pt (pw_and (pt_val (pv 12)) (pw_and1 (pt_cmpR op_eq (pv 6) pe_int (nomark _)))))
      (pss_one (ps_set (i := 14) sc.nd rfl (Or.inr rfl) (pe_op op_cat (pv 14) (pe_lc (own := [("_law_side", 11)]) (g := gName 11) (by rfl) sc.nd (pi_listK K (pe_lst (pa_cons (pe_tupD (pa_cons (pe_ix (k_ix K) (pv 7) pe_int (fun _ _ => rfl)) (pa_cons (pe_ix (k_ix K) (pv 7) pe_int (fun _ _ => rfl)) pa_nil))) (pa_cons (pe_tupD pa_nil) pa_nil)))) (blkOk_by (own := [("_law_side", 11)]) (N := n__law_guest) (sc := defScope s__law_guest) (by decide +kernel)) (fun _ _ _ _ _ => (pg_name (i := 11) sc.nd rfl (Or.inl rfl))) (fun _ _ _ _ _ => (pts_one (pt_cmpR (k_ninD K (Nat.lt_of_le_of_lt (Nat.add_le_add_left (by decide) _) hr.un)) (pv 11) (pv 14) rfl))) (fun _ _ _ _ _ => (pv 11)))))) pss_nil)
      (pss_one (ps_set (i := 9) sc.nd rfl (Or.inl rfl) (pe_op op_cat (pv 9) (pe_lc (own := [("_law_side", 11)]) (g := gName 11) (tt := tYes) (by rfl) sc.nd (pi_listK K (pv 14)) (blkOk_by (own := [("_law_side", 11)]) (N := n__law_guest) (sc := defScope s__law_guest) (by decide +kernel)) (fun _ _ _ _ _ => (pg_name (i := 11) sc.nd rfl (Or.inl rfl))) (fun _ _ _ _ _ => pts_nil) (fun _ _ _ _ _ => (pe_tupD (pa_cons (pe_ix (k_ix K) (pv 5) (pv 6) (fun _ _ => rfl)) (pa_cons (pv 11) pa_nil)))))))))))
      (pss_one (ps_ret (pv 9))))))))))))), ?_⟩
  obtain ⟨⟨drawshere1, namehere2, hosthere3, _⟩, r0, ⟨v_drawshere1, _, rfl, w_drawshere1, ⟨v_namehere2, _, rfl, w_namehere2, ⟨v_hosthere3, _, rfl, w_hosthere3, rfl⟩⟩⟩, h, k⟩ := h
  have hD : RtOk (nl K (rP K rS (rT K rS))) H r0 { nx := fun _ H' => Q .non H', rt := Q } := fun v H' ⟨as, s, n, z⟩ => k v H' as s n z
  refine Sv.run (K := K) (G := ([rc (rL rI) drawshere1, fc rS namehere2, rc (rL (rP K rS (rT K rS))) hosthere3, none, none, none, none, none, none, none, none, none, none, none, none] : Cells K)) ?_ (.ro w_drawshere1 (.fz w_namehere2 (.ro w_hosthere3 (.skip (.skip (.skip (.skip (.skip (.skip (.skip (.skip (.skip (.skip (.skip (.skip .nil)))))))))))))))
  have h : m__law_guest drawshere1 namehere2 hosthere3 = .ok r0 := h
  unfold m__law_guest at h
  obtain ⟨t4, e_t4, h⟩ := mb_ok h; have e_t4 := oM_ok e_t4
  refine q_set (r := rI) (b := t4) (b' := t4) ?_ rfl ?_
  · walk_at "ev"
  obtain ⟨t5, e_t5, h⟩ := mb_ok h; have e_t5 := oM_ok e_t5
  obtain ⟨care6, e_care6, h⟩ := mb_ok h; have e_care6 := ok_inj e_care6
  refine q_set (r := rI) (b := t5 % (4 : Int)) (b' := care6) ?_ e_care6 ?_
  · walk_at "ev"
  obtain ⟨t7, e_t7, h⟩ := mb_ok h; have e_t7 := oM_ok e_t7
  obtain ⟨_, e_u8, h⟩ := mb_ok h; have e_u8 := of_decide_eq_true (chk_ok e_u8)
  obtain ⟨zs13, e_zs13, h⟩ := mb_ok h
  refine q_asg (R := (nl K rS)) (b := zs13) (b' := zs13) ?_ rfl ?_
  · refine nw_lcM (G' := ([rc (rL rI) drawshere1, fc rS namehere2, rc (rL (rP K rS (rT K rS))) hosthere3, fc rI t4, fc rI care6, none, none, none, none, none, none, none, none, none, none] : Cells K)) (r := rI) (p := (fun (y9 : Int) => .ok true)) (f := (fun (y9 : Int) => mb (chk (decide (namehere2.length + ("." : Str).length ≤ 100000))) fun _ => mb (m__law_name y9 t4 true) fun t11 => mb (chk (decide ((namehere2 ++ ("." : Str)).length + t11.length ≤ 100000))) fun _ => .ok ((namehere2 ++ ("." : Str)) ++ t11))) ?_ (by first | assumption | (rw [ups_len]; omega) | (rw [List.length_map, List.length_range]; omega) | (simp only [List.length_cons, List.length_nil]; omega)) (fun y9 => ⟨_, tb_name, fun _ e => ?_, fun _ e => ?_⟩) e_zs13
    · refine wk_rng1 ?_ ?_
      · walk_at "ev"
      · first | assumption | omega
    · cases e
      exact et_yes
    · obtain ⟨_, e_u10, e⟩ := mb_ok e; have e_u10 := of_decide_eq_true (chk_ok e_u10)
      obtain ⟨t11, e_t11, e⟩ := mb_ok e
      obtain ⟨_, e_u12, e⟩ := mb_ok e; have e_u12 := of_decide_eq_true (chk_ok e_u12)
      cases e
      walk_at "ev"
  obtain ⟨zs18, e_zs18, h⟩ := mb_ok h
  refine q_asg (R := (nl K rS)) (b := zs18) (b' := zs18) ?_ rfl ?_
  · refine nw_lcM (G' := ([rc (rL rI) drawshere1, fc rS namehere2, rc (rL (rP K rS (rT K rS))) hosthere3, fc rI t4, fc rI care6, some (.ow (nl K rS) zs13), none, none, none, none, none, none, none, none, none] : Cells K)) (r := rI) (p := (fun (y14 : Int) => .ok true)) (f := (fun (y14 : Int) => mb (chk (decide (namehere2.length + ("." : Str).length ≤ 100000))) fun _ => mb (m__law_name y14 t4 false) fun t16 => mb (chk (decide ((namehere2 ++ ("." : Str)).length + t16.length ≤ 100000))) fun _ => .ok ((namehere2 ++ ("." : Str)) ++ t16))) ?_ (by first | assumption | (rw [ups_len]; omega) | (rw [List.length_map, List.length_range]; omega) | (simp only [List.length_cons, List.length_nil]; omega)) (fun y14 => ⟨_, tb_name, fun _ e => ?_, fun _ e => ?_⟩) e_zs18
    · refine wk_rng1 ?_ ?_
      · walk_at "ev"
      · first | assumption | omega
    · cases e
      exact et_yes
    · obtain ⟨_, e_u15, e⟩ := mb_ok e; have e_u15 := of_decide_eq_true (chk_ok e_u15)
      obtain ⟨t16, e_t16, e⟩ := mb_ok e
      obtain ⟨_, e_u17, e⟩ := mb_ok e; have e_u17 := of_decide_eq_true (chk_ok e_u17)
      cases e
      walk_at "ev"
  refine q_frzR (rv := (rL rS)) (i := 7) (by rfl) (fun _ _ _ z => vw_nl z) ?_
  refine q_frzR (rv := (rL rS)) (i := 5) (by rfl) (fun _ _ _ z => vw_nl z) ?_
  obtain ⟨t19, e_t19, h⟩ := mb_ok h
  obtain ⟨t20, e_t20, h⟩ := mb_ok h
  refine q_setRo (r := (rL (rL rS))) (x := [t19, t20, zs18, zs13]) ?_ ?_
  · refine rg_lst ?_ (by simp only [List.length_cons, List.length_nil]; omega)
    refine rga_cons ?_ ?_
    · refine rg_new (R := (nl K rS)) ?_ fun _ _ _ z => vw_nl z
      walk_at "ev"
    refine rga_cons ?_ ?_
    · refine rg_new (R := (nl K rS)) ?_ fun _ _ _ z => vw_nl z
      walk_at "ev"
    refine rga_cons ?_ ?_
    · exact rg_ro (by rfl)
    refine rga_cons ?_ ?_
    · exact rg_ro (by rfl)
    exact rga_nil
  obtain ⟨rules21, e_rules21, h⟩ := mb_ok h; have e_rules21 := ok_inj e_rules21
  refine q_asg (R := (nl K (rP K rS (rT K rS)))) (b := ([] : (List (Str × (List Str))))) (b' := rules21) ?_ e_rules21 ?_
  · walk_at "ev"
  obtain ⟨t22, e_t22, h⟩ := mb_ok h; have e_t22 := oM_ok e_t22
  obtain ⟨_, e_u23, h⟩ := mb_ok h; have e_u23 := of_decide_eq_true (chk_ok e_u23)
  obtain ⟨s26, hm, h⟩ := mb_ok h
  refine q_forM (G' := ([rc (rL rI) drawshere1, fc rS namehere2, rc (rL (rP K rS (rT K rS))) hosthere3, fc rI t4, fc rI care6, rc (rL rS) zs13, none, rc (rL rS) zs18, rc (rL (rL rS)) ([t19, t20, zs18, zs13]), some (.ow (nl K (rP K rS (rT K rS))) rules21), none, none, none, none, none] : Cells K)) (r := rI) (f := (fun (s24 : (List (Str × (List Str)))) (x25 : Int) => mb (oM (atI drawshere1 ((4 : Int) + x25))) fun t27 => mb (chk (decide (namehere2.length + ("." : Str).length ≤ 100000))) fun _ => mb (m__law_name ((4 : Int) + x25) t4 false) fun t29 => mb (chk (decide ((namehere2 ++ ("." : Str)).length + t29.length ≤ 100000))) fun _ => mb (.ok ([(namehere2 ++ ("." : Str)) ++ t29])) fun side31 => mb (m__law_tail (cut drawshere1 (some ((7 : Int) + ((3 : Int) * x25))) (some (((7 : Int) + ((3 : Int) * x25)) + ((t27 / (8 : Int)) % (4 : Int))))) care6 ([t19, t20, zs18, zs13])) fun t32 => mb (chk (decide (side31.length + t32.length ≤ 100000))) fun _ => mb (.ok (side31 ++ t32)) fun side34 => mb (bif ((decide (x25 = (0 : Int))) && (decide ((0 : Int) < (zs13.length : Int)))) then mb (oM (atI zs13 (0 : Int))) fun t36 => mb (oM (atI zs18 (3 : Int))) fun t37 => mb (chk (decide (side34.length + (cut ([t36, t37]) none (some ((1 : Int) + (b2 (decide (care6 = (0 : Int))))))).length ≤ 100000))) fun _ => mb (.ok (side34 ++ (cut ([t36, t37]) none (some ((1 : Int) + (b2 (decide (care6 = (0 : Int))))))))) fun side39 => .ok side39 else .ok side34) fun (s35 : (List Str)) => mb (oM (atI ([t19, t20, zs18, zs13]) (0 : Int))) fun t40 => mb (chk (decide (0 < (t40.length : Int)))) fun _ => mb (oM (atI t40 (t27 % (t40.length : Int)))) fun t42 => mb (chk (decide (s24.length < 100000))) fun _ => mb (.ok (s24 ++ [(t42, s35)])) fun rules44 => .ok rules44)) (s0 := rules21) (fun (s24 : (List (Str × (List Str)))) => ([rc (rL rI) drawshere1, fc rS namehere2, rc (rL (rP K rS (rT K rS))) hosthere3, fc rI t4, fc rI care6, rc (rL rS) zs13, none, rc (rL rS) zs18, rc (rL (rL rS)) ([t19, t20, zs18, zs13]), some (.ow (nl K (rP K rS (rT K rS))) s24), none, none, none, none, none] : Cells K)) hm ?_ (.keep (.keep (.keep (.keep (.keep (.keep (.keep (.keep (.keep (.keep (.keep (.keep (.keep (.keep (.keep .nil))))))))))))))) (fun H0' e0 x25 s24 s' h => ⟨_, tg_name, ?_⟩) ?_
  · refine wk_rng1 ?_ ?_
    · walk_at "ev"
    · first | assumption | omega
  · have hD : Nx H0' ((fun (s24 : (List (Str × (List Str)))) => ([rc (rL rI) drawshere1, fc rS namehere2, rc (rL (rP K rS (rT K rS))) hosthere3, fc rI t4, fc rI care6, rc (rL rS) zs13, none, rc (rL rS) zs18, rc (rL (rL rS)) ([t19, t20, zs18, zs13]), some (.ow (nl K (rP K rS (rT K rS))) s24), none, none, none, none, none] : Cells K)) s') (Have H0' ((fun (s24 : (List (Str × (List Str)))) => ([rc (rL rI) drawshere1, fc rS namehere2, rc (rL (rP K rS (rT K rS))) hosthere3, fc rI t4, fc rI care6, rc (rL rS) zs13, none, rc (rL rS) zs18, rc (rL (rL rS)) ([t19, t20, zs18, zs13]), some (.ow (nl K (rP K rS (rT K rS))) s24), none, none, none, none, none] : Cells K)) s')) := fun _ _ z => z
    obtain ⟨t27, e_t27, h⟩ := mb_ok h; have e_t27 := oM_ok e_t27
    refine q_set (r := rI) (b := t27) (b' := t27) ?_ rfl ?_
    · walk_at "ev"
    obtain ⟨_, e_u28, h⟩ := mb_ok h; have e_u28 := of_decide_eq_true (chk_ok e_u28)
    obtain ⟨t29, e_t29, h⟩ := mb_ok h
    obtain ⟨_, e_u30, h⟩ := mb_ok h; have e_u30 := of_decide_eq_true (chk_ok e_u30)
    obtain ⟨side31, e_side31, h⟩ := mb_ok h; have e_side31 := ok_inj e_side31
    refine q_set (r := (rT K rS)) (b := [(namehere2 ++ ("." : Str)) ++ t29]) (b' := side31) ?_ e_side31 ?_
    · walk_at "ev"
    obtain ⟨t32, e_t32, h⟩ := mb_ok h
    obtain ⟨_, e_u33, h⟩ := mb_ok h; have e_u33 := of_decide_eq_true (chk_ok e_u33)
    obtain ⟨side34, e_side34, h⟩ := mb_ok h; have e_side34 := ok_inj e_side34
    refine q_set (r := (rT K rS)) (b := side31 ++ t32) (b' := side34) ?_ e_side34 ?_
    · walk_at "ev"
    obtain ⟨s35, h1, h⟩ := mb_ok h
    refine cutK ([rc (rL rI) drawshere1, fc rS namehere2, rc (rL (rP K rS (rT K rS))) hosthere3, fc rI t4, fc rI care6, rc (rL rS) zs13, fc rI x25, rc (rL rS) zs18, rc (rL (rL rS)) ([t19, t20, zs18, zs13]), some (.ow (nl K (rP K rS (rT K rS))) s24), fc rI t27, fc (rT K rS) s35, none, none, none] : Cells K) (fun K1 => ?_) ?_
    · have h := h1; clear h1; have hD := K1
      refine q_if (c := ((decide (x25 = (0 : Int))) && (decide ((0 : Int) < (zs13.length : Int))))) ?_ ?_ ?_
      · walk_at "ev"
      · intro hc; have h := bif_t h hc
        obtain ⟨t36, e_t36, h⟩ := mb_ok h; have e_t36 := oM_ok e_t36
        obtain ⟨t37, e_t37, h⟩ := mb_ok h; have e_t37 := oM_ok e_t37
        obtain ⟨_, e_u38, h⟩ := mb_ok h; have e_u38 := of_decide_eq_true (chk_ok e_u38)
        obtain ⟨side39, e_side39, h⟩ := mb_ok h; have e_side39 := ok_inj e_side39
        refine l_set (r := (rT K rS)) (b := side34 ++ (cut ([t36, t37]) none (some ((1 : Int) + (b2 (decide (care6 = (0 : Int)))))))) (b' := side39) ?_ e_side39 ?_
        · walk_at "ev"
        cases h
        exact fun σ H hv => hD σ H (hv.less (.keep (.keep (.keep (.keep (.keep (.keep (.keep (.keep (.keep (.keep (.keep (.keep (.keep (.keep (.keep .nil))))))))))))))))
      · intro hc; have h := bif_f h hc
        cases h
        exact fun σ H hv => hD σ H (hv.less (.keep (.keep (.keep (.keep (.keep (.keep (.keep (.keep (.keep (.keep (.keep (.keep (.keep (.keep (.keep .nil))))))))))))))))
    obtain ⟨t40, e_t40, h⟩ := mb_ok h; have e_t40 := oM_ok e_t40
    obtain ⟨_, e_u41, h⟩ := mb_ok h; have e_u41 := of_decide_eq_true (chk_ok e_u41)
    obtain ⟨t42, e_t42, h⟩ := mb_ok h; have e_t42 := oM_ok e_t42
    obtain ⟨_, e_u43, h⟩ := mb_ok h; have e_u43 := of_decide_eq_true (chk_ok e_u43)
    obtain ⟨rules44, e_rules44, h⟩ := mb_ok h; have e_rules44 := ok_inj e_rules44
    refine l_app (x := (t42, s35)) (xs := s24) (by rfl) (x' := (t42, s35)) ?_ rfl (by assumption) ?_
    · walk_at "ev"
    rw [e_rules44]
    cases h
    exact fun σ H hv => hD σ H (hv.less (.keep (.keep (.keep (.keep (.keep (.keep (.drop (.keep (.keep (.keep (.drop (.drop (.keep (.keep (.keep .nil))))))))))))))))
  obtain ⟨back45, e_back45, h⟩ := mb_ok h; have e_back45 := ok_inj e_back45
  refine q_set (r := rB) (b := (decide ((0 : Int) < care6)) && ((decide ((0 : Int) < (zs13.length : Int))) && (decide (((t5 / (4 : Int)) % (3 : Int)) = (0 : Int))))) (b' := back45) ?_ e_back45 ?_
  · walk_at "ev"
  obtain ⟨s46, h1, h⟩ := mb_ok h
  refine cutK ([rc (rL rI) drawshere1, fc rS namehere2, rc (rL (rP K rS (rT K rS))) hosthere3, fc rI t4, fc rI care6, rc (rL rS) zs13, none, rc (rL rS) zs18, rc (rL (rL rS)) ([t19, t20, zs18, zs13]), some (.ow (nl K (rP K rS (rT K rS))) s46), none, none, fc rB back45, none, none] : Cells K) (fun K1 => ?_) ?_
  · have h := h1; clear h1; have hD := K1
    refine q_if (c := back45) ?_ ?_ ?_
    · walk_at "ev"
    · intro hc; have h := bif_t h hc
      obtain ⟨t47, e_t47, h⟩ := mb_ok h; have e_t47 := oM_ok e_t47
      obtain ⟨t48, e_t48, h⟩ := mb_ok h; have e_t48 := oM_ok e_t48
      obtain ⟨_, e_u49, h⟩ := mb_ok h; have e_u49 := of_decide_eq_true (chk_ok e_u49)
      obtain ⟨t50, e_t50, h⟩ := mb_ok h; have e_t50 := oM_ok e_t50
      refine q_set (r := rS) (b := t50) (b' := t50) ?_ rfl ?_
      · walk_at "ev"
      obtain ⟨_, e_u51, h⟩ := mb_ok h; have e_u51 := of_decide_eq_true (chk_ok e_u51)
      obtain ⟨t52, e_t52, h⟩ := mb_ok h
      obtain ⟨_, e_u53, h⟩ := mb_ok h; have e_u53 := of_decide_eq_true (chk_ok e_u53)
      obtain ⟨t54, e_t54, h⟩ := mb_ok h; have e_t54 := oM_ok e_t54
      obtain ⟨t55, e_t55, h⟩ := mb_ok h; have e_t55 := oM_ok e_t55
      obtain ⟨t56, e_t56, h⟩ := mb_ok h; have e_t56 := oM_ok e_t56
      obtain ⟨side57, e_side57, h⟩ := mb_ok h; have e_side57 := ok_inj e_side57
      refine q_set (r := (rT K rS)) (b := [(namehere2 ++ ("." : Str)) ++ t52, t55, t56]) (b' := side57) ?_ e_side57 ?_
      · walk_at "ev"
      obtain ⟨_, e_u58, h⟩ := mb_ok h; have e_u58 := of_decide_eq_true (chk_ok e_u58)
      obtain ⟨rules59, e_rules59, h⟩ := mb_ok h; have e_rules59 := ok_inj e_rules59
      refine l_app (x := (t50, side57)) (xs := s26) (by rfl) (x' := (t50, side57)) ?_ rfl (by assumption) ?_
      · walk_at "ev"
      rw [e_rules59]
      cases h
      exact fun σ H hv => hD σ H (hv.less (.keep (.keep (.keep (.keep (.keep (.keep (.keep (.keep (.keep (.keep (.keep (.drop (.keep (.drop (.keep .nil))))))))))))))))
    · intro hc; have h := bif_f h hc
      cases h
      exact fun σ H hv => hD σ H (hv.less (.keep (.keep (.keep (.keep (.keep (.keep (.keep (.keep (.keep (.keep (.keep (.keep (.keep (.keep (.keep .nil))))))))))))))))
  obtain ⟨_, e_u60, h⟩ := mb_ok h; have e_u60 := of_decide_eq_true (chk_ok e_u60)
  obtain ⟨s63, hm, h⟩ := mb_ok h
  refine q_forM (G' := ([rc (rL rI) drawshere1, fc rS namehere2, rc (rL (rP K rS (rT K rS))) hosthere3, fc rI t4, fc rI care6, rc (rL rS) zs13, none, rc (rL rS) zs18, rc (rL (rL rS)) ([t19, t20, zs18, zs13]), some (.ow (nl K (rP K rS (rT K rS))) s46), none, none, fc rB back45, none, none] : Cells K)) (r := rI) (f := (fun (s61 : (List (Str × (List Str)))) (x62 : Int) => mb (m__law_inner (cut drawshere1 (some ((16 : Int) + ((12 : Int) * x62))) (some ((28 : Int) + ((12 : Int) * x62)))) care6 ([t19, t20, zs18, zs13]) x62) fun t64 => mb (bif (back45 && (decide (x62 = (0 : Int)))) then mb (oM (atI zs18 (0 : Int))) fun t66 => mb (oM (atI zs18 (1 : Int))) fun t67 => mb (chk (decide (([[t66, t67], ([] : (List Str))]).length ≤ 100000))) fun _ => mb (chk (decide (t64.length + ((([[t66, t67], ([] : (List Str))]).filter (fun (y68 : (List Str)) => (!(memB y68 t64)))).map (fun (y68 : (List Str)) => y68)).length ≤ 100000))) fun _ => mb (.ok (t64 ++ ((([[t66, t67], ([] : (List Str))]).filter (fun (y68 : (List Str)) => (!(memB y68 t64)))).map (fun (y68 : (List Str)) => y68)))) fun sides71 => .ok sides71 else .ok t64) fun (s65 : (List (List Str))) => mb (chk (decide (s65.length ≤ 100000))) fun _ => mb (mlc (fun (y72 : (List Str)) => .ok true) (fun (y72 : (List Str)) => mb (oM (atI zs13 x62)) fun t73 => .ok (t73, y72)) s65) fun zs75 => mb (chk (decide (s61.length + zs75.length ≤ 100000))) fun _ => mb (.ok (s61 ++ zs75)) fun rules77 => .ok rules77)) (s0 := s46) (fun (s61 : (List (Str × (List Str)))) => ([rc (rL rI) drawshere1, fc rS namehere2, rc (rL (rP K rS (rT K rS))) hosthere3, fc rI t4, fc rI care6, rc (rL rS) zs13, none, rc (rL rS) zs18, rc (rL (rL rS)) ([t19, t20, zs18, zs13]), some (.ow (nl K (rP K rS (rT K rS))) s61), none, none, fc rB back45, none, none] : Cells K)) hm ?_ (.keep (.keep (.keep (.keep (.keep (.keep (.keep (.keep (.keep (.keep (.keep (.keep (.keep (.keep (.keep .nil))))))))))))))) (fun H0' e0 x62 s61 s' h => ⟨_, tg_name, ?_⟩) ?_
  · refine wk_rng1 ?_ ?_
    · walk_at "ev"
    · first | assumption | omega
  · have hD : Nx H0' ((fun (s61 : (List (Str × (List Str)))) => ([rc (rL rI) drawshere1, fc rS namehere2, rc (rL (rP K rS (rT K rS))) hosthere3, fc rI t4, fc rI care6, rc (rL rS) zs13, none, rc (rL rS) zs18, rc (rL (rL rS)) ([t19, t20, zs18, zs13]), some (.ow (nl K (rP K rS (rT K rS))) s61), none, none, fc rB back45, none, none] : Cells K)) s') (Have H0' ((fun (s61 : (List (Str × (List Str)))) => ([rc (rL rI) drawshere1, fc rS namehere2, rc (rL (rP K rS (rT K rS))) hosthere3, fc rI t4, fc rI care6, rc (rL rS) zs13, none, rc (rL rS) zs18, rc (rL (rL rS)) ([t19, t20, zs18, zs13]), some (.ow (nl K (rP K rS (rT K rS))) s61), none, none, fc rB back45, none, none] : Cells K)) s')) := fun _ _ z => z
    obtain ⟨t64, e_t64, h⟩ := mb_ok h
    refine q_asg (R := (nl K (rT K rS))) (b := t64) (b' := t64) ?_ rfl ?_
    · walk_at "ev"
    obtain ⟨s65, h1, h⟩ := mb_ok h
    refine cutK ([rc (rL rI) drawshere1, fc rS namehere2, rc (rL (rP K rS (rT K rS))) hosthere3, fc rI t4, fc rI care6, rc (rL rS) zs13, fc rI x62, rc (rL rS) zs18, rc (rL (rL rS)) ([t19, t20, zs18, zs13]), some (.ow (nl K (rP K rS (rT K rS))) s61), none, none, fc rB back45, none, some (.ow (nl K (rT K rS)) s65)] : Cells K) (fun K1 => ?_) ?_
    · have h := h1; clear h1; have hD := K1
      refine q_if (c := (back45 && (decide (x62 = (0 : Int))))) ?_ ?_ ?_
      · walk_at "ev"
      · intro hc; have h := bif_t h hc
        obtain ⟨t66, e_t66, h⟩ := mb_ok h; have e_t66 := oM_ok e_t66
        obtain ⟨t67, e_t67, h⟩ := mb_ok h; have e_t67 := oM_ok e_t67
        obtain ⟨_, e_u69, h⟩ := mb_ok h; have e_u69 := of_decide_eq_true (chk_ok e_u69)
        obtain ⟨_, e_u70, h⟩ := mb_ok h; have e_u70 := of_decide_eq_true (chk_ok e_u70)
        obtain ⟨sides71, e_sides71, h⟩ := mb_ok h; have e_sides71 := ok_inj e_sides71
        refine l_asg (R := (nl K (rT K rS))) (b := t64 ++ ((([[t66, t67], ([] : (List Str))]).filter (fun (y68 : (List Str)) => (!(memB y68 t64)))).map (fun (y68 : (List Str)) => y68))) (b' := sides71) ?_ e_sides71 ?_
        · refine a_cat ?_ inferInstance inferInstance ?_ (by first | assumption | omega)
          · walk_at "ev"
          · refine Nw.lst ?_
            refine nw_lc (G' := ([rc (rL rI) drawshere1, fc rS namehere2, rc (rL (rP K rS (rT K rS))) hosthere3, fc rI t4, fc rI care6, rc (rL rS) zs13, fc rI x62, rc (rL rS) zs18, rc (rL (rL rS)) ([t19, t20, zs18, zs13]), some (.ow (nl K (rP K rS (rT K rS))) s61), none, none, fc rB back45, none, some (.ow (nl K (rT K rS)) t64)] : Cells K)) (r := (rT K rS)) ?_ (by first | assumption | (rw [ups_len]; omega) | (rw [List.length_map, List.length_range]; omega) | (simp only [List.length_cons, List.length_nil]; omega)) (fun _ y68 _ _ => ⟨_, tb_name, ?_, fun _ => ?_⟩)
            · refine wk_new ?_
              walk_at "ev"
            · walk_at "ev"
            · walk_at "ev"
        cases h
        exact fun σ H hv => hD σ H (hv.less (.keep (.keep (.keep (.keep (.keep (.keep (.keep (.keep (.keep (.keep (.keep (.keep (.keep (.keep (.keep .nil))))))))))))))))
      · intro hc; have h := bif_f h hc
        cases h
        exact fun σ H hv => hD σ H (hv.less (.keep (.keep (.keep (.keep (.keep (.keep (.keep (.keep (.keep (.keep (.keep (.keep (.keep (.keep (.keep .nil))))))))))))))))
    obtain ⟨_, e_u74, h⟩ := mb_ok h; have e_u74 := of_decide_eq_true (chk_ok e_u74)
    obtain ⟨zs75, e_zs75, h⟩ := mb_ok h
    obtain ⟨_, e_u76, h⟩ := mb_ok h; have e_u76 := of_decide_eq_true (chk_ok e_u76)
    obtain ⟨rules77, e_rules77, h⟩ := mb_ok h; have e_rules77 := ok_inj e_rules77
    refine l_asg (R := (nl K (rP K rS (rT K rS)))) (b := s61 ++ zs75) (b' := rules77) ?_ e_rules77 ?_
    · refine a_cat ?_ inferInstance inferInstance ?_ (by first | assumption | omega)
      · walk_at "ev"
      · refine Nw.lst ?_
        refine nw_lcM (G' := ([rc (rL rI) drawshere1, fc rS namehere2, rc (rL (rP K rS (rT K rS))) hosthere3, fc rI t4, fc rI care6, rc (rL rS) zs13, fc rI x62, rc (rL rS) zs18, rc (rL (rL rS)) ([t19, t20, zs18, zs13]), some (.ow (nl K (rP K rS (rT K rS))) s61), none, none, fc rB back45, none, rc (rL (rT K rS)) s65] : Cells K)) (r := (rT K rS)) (p := (fun (y72 : (List Str)) => .ok true)) (f := (fun (y72 : (List Str)) => mb (oM (atI zs13 x62)) fun t73 => .ok (t73, y72))) ?_ (by first | assumption | (rw [ups_len]; omega) | (rw [List.length_map, List.length_range]; omega) | (simp only [List.length_cons, List.length_nil]; omega)) (fun y72 => ⟨_, tb_name, fun _ e => ?_, fun _ e => ?_⟩) e_zs75
        · exact wk_own (i := 14) (by rfl)
        · cases e
          exact et_yes
        · obtain ⟨t73, e_t73, e⟩ := mb_ok e; have e_t73 := oM_ok e_t73
          cases e
          walk_at "ev"
    cases h
    exact fun σ H hv => hD σ H (hv.less (.keep (.keep (.keep (.keep (.keep (.keep (.drop (.keep (.keep (.keep (.keep (.keep (.keep (.keep (.drop .nil))))))))))))))))
  cases h
  exact r_retO (i := 9) hD (by rfl)
abbrev n__law_table : List Str := ["_law_rules", "_law_sets_here", "_law_table_here", "_law_head", "_law_side", "_law_token"]
abbrev p__law_table : List Str := ["_law_rules"]
theorem sc__law_table : FnScope n__law_table p__law_table (defScope s__law_table) := ⟨rfl, rfl, rfl, by decide +kernel, rfl, by decide +kernel, by decide +kernel⟩
abbrev sp__law_table (P : Program) (w : World) (K : PySem.W.Frag) : Sp := spMN (aC (rL (rP K rS (rT K rS))) aN) (npd P w K (rT K rS)) fun a => m__law_table a.1
theorem c__law_table {P : Program} {w : World} {K : PySem.W.Frag} {mg : Str → Option Value} {base : Heap} (F : Df K mg "_law_table" s__law_table) (C__law_sets : Cal P w K mg base CX0 "_law_sets" 3 p__law_sets (sp__law_sets K)) (C__law_first : Cal P w K mg base CX0 "_law_first" 2 p__law_first (sp__law_first K)) (C__law_empty : Cal P w K mg base CX0 "_law_empty" 1 p__law_empty (sp__law_empty K)) : Cal P w K mg base CX0 "_law_table" 4 p__law_table (sp__law_table P w K) := by
  refine cal_of F sc__law_table (fun vs H Q E ⟨a, b, h, _⟩ => LenA.len h) (fun _ _ _ _ _ _ us hl => match us, hl with | [_], _ => rfl) fun cdv f A outer s H vs Q E hr h => ?_
  have sc := sc__law_table
  refine ⟨_, (pss_cons (ps_set (i := 1) sc.nd rfl (Or.inl rfl) (pe_fn C__law_sets (hr.mono (by decide)) (pa_cons (pv 0) pa_nil)))
      (pss_cons (ps_set (i := 2) sc.nd rfl (Or.inl rfl) (pe_pnewK P w))
      (pss_cons (ps_for PassesOwn.never rfl (pi_listK K (pv 0)) (pg_tupK K rfl (pgs_cons (pg_name (i := 3) sc.nd rfl (Or.inl rfl)) (pgs_cons (pg_name (i := 4) sc.nd rfl (Or.inl rfl)) pgs_nil)))
      (pss_cons (ps_for PassesOwn.never rfl (pi_listK K (pe_fn C__law_first (hr.mono (by decide)) (pa_cons (pv 4) (pa_cons (pv 1) pa_nil)))) (pg_name (i := 5) sc.nd rfl (Or.inl rfl))
      (pss_one (ps_pputK P w K (Nat.lt_of_le_of_lt (Nat.add_le_add_left (by decide) _) hr.un) (pv 2) (pe_tupD (pa_cons (pv 3) (pa_cons (pv 5) pa_nil))) (pv 4) rfl)))
      (pss_one (ps_if (pt_val (pe_fn C__law_empty (hr.mono (by decide)) (pa_cons (pv 4) (pa_cons (pv 1) pa_nil))))
      (pss_one (ps_pputK P w K (Nat.lt_of_le_of_lt (Nat.add_le_add_left (by decide) _) hr.un) (pv 2) (pe_tupD (pa_cons (pv 3) (pa_cons pe_non pa_nil))) (pv 4) rfl)) pss_nil))))
      (pss_one (ps_ret (pv 2)))))), ?_⟩
  obtain ⟨⟨rules1, _⟩, r0, ⟨v_rules1, _, rfl, w_rules1, rfl⟩, h, k⟩ := h
  have hD : RtOk (npd P w K (rT K rS)) H r0 { nx := fun _ H' => Q .non H', rt := Q } := fun v H' ⟨as, s, n, z⟩ => k v H' as s n z
  refine Sv.run (K := K) (G := ([rc (rL (rP K rS (rT K rS))) rules1, none, none, none, none, none] : Cells K)) ?_ (.ro w_rules1 (.skip (.skip (.skip (.skip (.skip .nil))))))
  have h : m__law_table rules1 = .ok r0 := h
  unfold m__law_table at h
  obtain ⟨t2, e_t2, h⟩ := mb_ok h
  refine q_asg (R := (nH3 K (nl K rS) (ndR K (nl K rS)) (ndR K (nl K rS)))) (b := t2) (b' := t2) ?_ rfl ?_
  · walk_at "ev"
  obtain ⟨tablehere3, e_tablehere3, h⟩ := mb_ok h; have e_tablehere3 := ok_inj e_tablehere3
  refine q_asg (R := (npd P w K (rT K rS))) (b := ([] : (List (KP × (List Str))))) (b' := tablehere3) ?_ e_tablehere3 ?_
  · walk_at "ev"
  obtain ⟨s6, hm, h⟩ := mb_ok h
  refine q_forM (G' := ([rc (rL (rP K rS (rT K rS))) rules1, some (.ow (nH3 K (nl K rS) (ndR K (nl K rS)) (ndR K (nl K rS))) t2), some (.ow (npd P w K (rT K rS)) tablehere3), none, none, none] : Cells K)) (r := (rP K rS (rT K rS))) (f := (fun (s4 : (List (KP × (List Str)))) (x5 : (Str × (List Str))) => mb (m__law_first x5.2 t2) fun t7 => mb (mfor (fun (s8 : (List (KP × (List Str)))) (x9 : Str) => mb (chk (decide (s8.length < 100000))) fun _ => mb (.ok (pput s8 (x5.1, some x9) x5.2)) fun tablehere12 => .ok tablehere12) s4 t7) fun s10 => mb (m__law_empty x5.2 t2) fun t13 => bif t13 then mb (chk (decide (s10.length < 100000))) fun _ => mb (.ok (pput s10 (x5.1, (none : (Option Str))) x5.2)) fun tablehere15 => .ok tablehere15 else .ok s10)) (s0 := tablehere3) (fun (s4 : (List (KP × (List Str)))) => ([rc (rL (rP K rS (rT K rS))) rules1, some (.ow (nH3 K (nl K rS) (ndR K (nl K rS)) (ndR K (nl K rS))) t2), some (.ow (npd P w K (rT K rS)) s4), none, none, none] : Cells K)) hm ?_ (.keep (.keep (.keep (.keep (.keep (.keep .nil)))))) (fun H0' e0 x5 s4 s' h => ⟨_, tg_pair, ?_⟩) ?_
  · exact wk_ro (by rfl)
  · have hD : Nx H0' ((fun (s4 : (List (KP × (List Str)))) => ([rc (rL (rP K rS (rT K rS))) rules1, some (.ow (nH3 K (nl K rS) (ndR K (nl K rS)) (ndR K (nl K rS))) t2), some (.ow (npd P w K (rT K rS)) s4), none, none, none] : Cells K)) s') (Have H0' ((fun (s4 : (List (KP × (List Str)))) => ([rc (rL (rP K rS (rT K rS))) rules1, some (.ow (nH3 K (nl K rS) (ndR K (nl K rS)) (ndR K (nl K rS))) t2), some (.ow (npd P w K (rT K rS)) s4), none, none, none] : Cells K)) s')) := fun _ _ z => z
    obtain ⟨t7, e_t7, h⟩ := mb_ok h
    obtain ⟨s10, hm, h⟩ := mb_ok h
    refine q_forM (G' := ([rc (rL (rP K rS (rT K rS))) rules1, some (.ow (nH3 K (nl K rS) (ndR K (nl K rS)) (ndR K (nl K rS))) t2), some (.ow (npd P w K (rT K rS)) s4), fc rS x5.1, fc (rT K rS) x5.2, none] : Cells K)) (r := rS) (f := (fun (s8 : (List (KP × (List Str)))) (x9 : Str) => mb (chk (decide (s8.length < 100000))) fun _ => mb (.ok (pput s8 (x5.1, some x9) x5.2)) fun tablehere12 => .ok tablehere12)) (s0 := s4) (fun (s8 : (List (KP × (List Str)))) => ([rc (rL (rP K rS (rT K rS))) rules1, some (.ow (nH3 K (nl K rS) (ndR K (nl K rS)) (ndR K (nl K rS))) t2), some (.ow (npd P w K (rT K rS)) s8), fc rS x5.1, fc (rT K rS) x5.2, none] : Cells K)) hm ?_ (.keep (.keep (.keep (.keep (.keep (.keep .nil)))))) (fun H0' e0 x9 s8 s' h => ⟨_, tg_name, ?_⟩) ?_
    · refine wk_new ?_
      walk_at "ev"
    · have hD : Nx H0' ((fun (s8 : (List (KP × (List Str)))) => ([rc (rL (rP K rS (rT K rS))) rules1, some (.ow (nH3 K (nl K rS) (ndR K (nl K rS)) (ndR K (nl K rS))) t2), some (.ow (npd P w K (rT K rS)) s8), fc rS x5.1, fc (rT K rS) x5.2, none] : Cells K)) s') (Have H0' ((fun (s8 : (List (KP × (List Str)))) => ([rc (rL (rP K rS (rT K rS))) rules1, some (.ow (nH3 K (nl K rS) (ndR K (nl K rS)) (ndR K (nl K rS))) t2), some (.ow (npd P w K (rT K rS)) s8), fc rS x5.1, fc (rT K rS) x5.2, none] : Cells K)) s')) := fun _ _ z => z
      obtain ⟨_, e_u11, h⟩ := mb_ok h; have e_u11 := of_decide_eq_true (chk_ok e_u11)
      obtain ⟨tablehere12, e_tablehere12, h⟩ := mb_ok h; have e_tablehere12 := ok_inj e_tablehere12
      refine l_pput (xs := s8) (x := x5.2) (k := (x5.1, some x9)) (by rfl) ?_ ?_ rfl (by assumption) ?_
      · walk_at "ev"
      · walk_at "ev"
      rw [e_tablehere12]
      cases h
      exact fun σ H hv => hD σ H (hv.less (.keep (.keep (.keep (.keep (.keep (.drop .nil)))))))
    obtain ⟨t13, e_t13, h⟩ := mb_ok h
    refine l_if (c := t13) ?_ ?_ ?_
    · walk_at "ev"
    · intro hc; have h := bif_t h hc
      obtain ⟨_, e_u14, h⟩ := mb_ok h; have e_u14 := of_decide_eq_true (chk_ok e_u14)
      obtain ⟨tablehere15, e_tablehere15, h⟩ := mb_ok h; have e_tablehere15 := ok_inj e_tablehere15
      refine l_pput (xs := s10) (x := x5.2) (k := (x5.1, (none : (Option Str)))) (by rfl) ?_ ?_ rfl (by assumption) ?_
      · walk_at "ev"
      · walk_at "ev"
      rw [e_tablehere15]
      cases h
      exact fun σ H hv => hD σ H (hv.less (.keep (.keep (.keep (.drop (.drop (.keep .nil)))))))
    · intro hc; have h := bif_f h hc
      cases h
      exact fun σ H hv => hD σ H (hv.less (.keep (.keep (.keep (.drop (.drop (.keep .nil)))))))
  obtain ⟨_, e_u16, h⟩ := mb_ok h; have e_u16 := of_decide_eq_true (chk_ok e_u16)
  cases h
  exact r_retO (i := 2) hD (by rfl)
abbrev n__law_run : List Str := ["_law_rules", "_law_row", "_law_run_here", "_law_stack", "_law_used", "_law_sign", "_law_sides", "_law_head", "_law_side", "_law_pick", "_law_k"]
abbrev p__law_run : List Str := ["_law_rules", "_law_row"]
theorem sc__law_run : FnScope n__law_run p__law_run (defScope s__law_run) := ⟨rfl, rfl, rfl, by decide +kernel, rfl, by decide +kernel, by decide +kernel⟩
abbrev sp__law_run (K : PySem.W.Frag) : Sp := spM (aC (rL (rP K rS (rT K rS))) (aC (rL rI) aN)) (rT K (rP K rS (rT K rS))) fun a => m__law_run a.1 a.2.1
theorem c__law_run {P : Program} {w : World} {K : PySem.W.Frag} {mg : Str → Option Value} {base : Heap} (F : Df K mg "_law_run" s__law_run) (B_len : mg "len" = none) (B_int : mg "int" = none) (B_range : mg "range" = none) (B_tuple : mg "tuple" = none) (C__law_is_token : Cal P w K mg base CX0 "_law_is_token" 1 p__law_is_token (sp__law_is_token K)) : Cal P w K mg base CX0 "_law_run" 2 p__law_run (sp__law_run K) := by
  refine cal_of F sc__law_run (fun vs H Q E ⟨a, b, h, _⟩ => LenA.len h) (fun _ _ _ _ _ _ us hl => match us, hl with | [_, _], _ => rfl) fun cdv f A outer s H vs Q E hr h => ?_
  have sc := sc__law_run
  refine ⟨_, (pss_cons (ps_set (i := 2) sc.nd rfl (Or.inl rfl) (pe_lst pa_nil))
      (pss_cons (ps_set (i := 3) sc.nd rfl (Or.inl rfl) (pe_lst (pa_cons (pe_ix (k_ix K) (pe_ix (k_ix K) (pv 0) pe_int (fun _ _ => rfl)) pe_int (fun _ _ => rfl)) pa_nil)))
      (pss_cons (ps_set (i := 4) sc.nd rfl (Or.inl rfl) pe_int)
      (pss_cons (ps_while PassesOwn.never (pt_cmpR op_gt (pe_callB (k_len K) (by rfl) B_len PySem.boot_len (pa_cons (pv 3) pa_nil)) pe_int (nomark _))
      (pss_cons (ps_set (i := 5) sc.nd rfl (Or.inr rfl) (pe_popK K (pv 3)))
      (pss_one (ps_if (pt_not (pt_val (pe_fn C__law_is_token (hr.mono (by decide)) (pa_cons (pv 5) pa_nil))))
      (pss_cons (ps_setLc (i := 6) (own := [("_law_head", 7), ("_law_side", 8)]) (g := gTup _ 2 (gCons (gName 7) (gCons (gName 8) gNil))) (by rfl) sc.nd rfl rfl (sw_true rfl rfl rfl (by decide +kernel)) (pi_listK K (pv 0)) (blkOk_by (own := [("_law_head", 7), ("_law_side", 8)]) (N := n__law_run) (sc := defScope s__law_run) (by decide +kernel)) (fun _ _ _ _ _ => (pg_tupK K rfl (pgs_cons (pg_name (i := 7) sc.nd rfl (Or.inl rfl)) (pgs_cons (pg_name (i := 8) sc.nd rfl (Or.inl rfl)) pgs_nil)))) (fun _ _ _ _ _ => (pts_one (pt_cmpR op_eq (pv 7) (pv 5) (nomark _)))) (fun _ _ _ _ _ => (pv 8)))
      (pss_cons (ps_set (i := 9) sc.nd rfl (Or.inl rfl) pe_int)
      (pss_cons (ps_if (pt_cmpR op_lt (pv 4) (pe_callB (k_len K) (by rfl) B_len PySem.boot_len (pa_cons (pv 1) pa_nil)) (nomark _))
      (pss_cons (ps_set (i := 9) sc.nd rfl (Or.inl rfl) (pe_op op_mod (pe_callTy call_int1 (by rfl) B_int (by decide +kernel) (pa_cons (pe_ix (k_ix K) (pv 1) (pv 4) (fun _ _ => rfl)) pa_nil)) (pe_callB (k_len K) (by rfl) B_len PySem.boot_len (pa_cons (pv 6) pa_nil))))
      (pss_one (ps_set (i := 4) sc.nd rfl (Or.inl rfl) (pe_op op_add (pv 4) pe_int)))) pss_nil)
      (pss_cons (ps_expr (pe_app K (pv 2) (pa_cons (pe_tupD (pa_cons (pv 5) (pa_cons (pe_ix (k_ix K) (pv 6) (pv 9) (fun _ _ => rfl)) pa_nil))) pa_nil)))
      (pss_one (ps_for PassesOwn.never rfl (pi_range1 (by rfl) B_range (pa_cons (pe_callB (k_len K) (by rfl) B_len PySem.boot_len (pa_cons (pe_ix (k_ix K) (pv 6) (pv 9) (fun _ _ => rfl)) pa_nil)) pa_nil)) (pg_name (i := 10) sc.nd rfl (Or.inl rfl))
      (pss_one (ps_expr (pe_app K (pv 3) (pa_cons (pe_ix (k_ix K) (pe_ix (k_ix K) (pv 6) (pv 9) (fun _ _ => rfl)) (pe_op op_sub (pe_op op_sub (pe_callB (k_len K) (by rfl) B_len PySem.boot_len (pa_cons (pe_ix (k_ix K) (pv 6) (pv 9) (fun _ _ => rfl)) pa_nil)) pe_int) (pv 10)) (fun _ _ => rfl)) pa_nil)))))))))) pss_nil))))
      (pss_one (ps_ret (pe_callTy (k_tuple K) (by rfl) B_tuple (by decide +kernel) (pa_cons (pv 2) pa_nil)))))))), ?_⟩
  obtain ⟨⟨rules1, row2, _⟩, r0, ⟨v_rules1, _, rfl, w_rules1, ⟨v_row2, _, rfl, w_row2, rfl⟩⟩, h, k⟩ := h
  have hD : RtOk (fz K (rT K (rP K rS (rT K rS)))) H r0 { nx := fun _ H' => Q .non H', rt := Q } := fun v H' ⟨as, s, n, z⟩ => k v H' s z.2.now
  refine Sv.run (K := K) (G := ([rc (rL (rP K rS (rT K rS))) rules1, rc (rL rI) row2, none, none, none, none, none, none, none, none, none] : Cells K)) ?_ (.ro w_rules1 (.ro w_row2 (.skip (.skip (.skip (.skip (.skip (.skip (.skip (.skip (.skip .nil)))))))))))
  have h : m__law_run rules1 row2 = .ok r0 := h
  unfold m__law_run at h
  obtain ⟨runhere3, e_runhere3, h⟩ := mb_ok h; have e_runhere3 := ok_inj e_runhere3
  refine q_asg (R := (nl K (rP K rS (rT K rS)))) (b := ([] : (List (Str × (List Str))))) (b' := runhere3) ?_ e_runhere3 ?_
  · walk_at "ev"
  obtain ⟨t4, e_t4, h⟩ := mb_ok h; have e_t4 := oM_ok e_t4
  obtain ⟨stack5, e_stack5, h⟩ := mb_ok h; have e_stack5 := ok_inj e_stack5
  refine q_asg (R := (nl K rS)) (b := [t4.1]) (b' := stack5) ?_ e_stack5 ?_
  · walk_at "ev"
  obtain ⟨used6, e_used6, h⟩ := mb_ok h; have e_used6 := ok_inj e_used6
  refine q_set (r := rI) (b := (0 : Int)) (b' := used6) ?_ e_used6 ?_
  · walk_at "ev"
  obtain ⟨s9, hm, h⟩ := mb_ok h
  refine q_whileM (c := (fun (s7 : ((List (Str × (List Str))) × (List Str) × Int)) => .ok (decide ((0 : Int) < (s7.2.1.length : Int))))) (f := (fun (s7 : ((List (Str × (List Str))) × (List Str) × Int)) => mb (oM (s7.2.1[s7.2.1.length - 1]?)) fun sign10 => mb (.ok (s7.2.1.dropLast)) fun stack11 => mb (m__law_is_token sign10) fun t12 => bif (!t12) then mb (chk (decide (rules1.length ≤ 100000))) fun _ => mb (.ok ((rules1.filter (fun (y13 : (Str × (List Str))) => (decide (y13.1 = sign10)))).map (fun (y13 : (Str × (List Str))) => y13.2))) fun sides15 => mb (.ok (0 : Int)) fun pick16 => mb (bif (decide (s7.2.2 < (row2.length : Int))) then mb (oM (atI row2 s7.2.2)) fun t18 => mb (chk (decide (0 < (sides15.length : Int)))) fun _ => mb (.ok (t18 % (sides15.length : Int))) fun pick20 => mb (.ok (s7.2.2 + (1 : Int))) fun used21 => .ok (used21, pick20) else .ok (s7.2.2, pick16)) fun (s17 : (Int × Int)) => mb (oM (atI sides15 s17.2)) fun t22 => mb (chk (decide (s7.1.length < 100000))) fun _ => mb (.ok (s7.1 ++ [(sign10, t22)])) fun runhere24 => mb (chk (decide (-100000 ≤ (t22.length : Int) ∧ (t22.length : Int) ≤ 100000))) fun _ => mb (mfor (fun (s26 : (List Str)) (x27 : Int) => mb (oM (atI t22 (((t22.length : Int) - (1 : Int)) - x27))) fun t29 => mb (chk (decide (s26.length < 100000))) fun _ => mb (.ok (s26 ++ [t29])) fun stack31 => .ok stack31) stack11 (ups (t22.length : Int).toNat)) fun s28 => .ok (runhere24, s28, s17.1) else .ok (s7.1, stack11, s7.2.2))) (s0 := (runhere3, stack5, used6)) (fun (s7 : ((List (Str × (List Str))) × (List Str) × Int)) => ([rc (rL (rP K rS (rT K rS))) rules1, rc (rL rI) row2, some (.ow (nl K (rP K rS (rT K rS))) s7.1), some (.ow (nl K rS) s7.2.1), fc rI s7.2.2, none, none, none, none, none, none] : Cells K)) hm (.keep (.keep (.keep (.keep (.keep (.keep (.keep (.keep (.keep (.keep (.keep .nil))))))))))) (fun s7 _ e => ?_) (fun H0' e0 s7 s' h => ?_) ?_
  · cases e
    walk_at "ev"
  · have hD : Nx H0' ((fun (s7 : ((List (Str × (List Str))) × (List Str) × Int)) => ([rc (rL (rP K rS (rT K rS))) rules1, rc (rL rI) row2, some (.ow (nl K (rP K rS (rT K rS))) s7.1), some (.ow (nl K rS) s7.2.1), fc rI s7.2.2, none, none, none, none, none, none] : Cells K)) s') (Have H0' ((fun (s7 : ((List (Str × (List Str))) × (List Str) × Int)) => ([rc (rL (rP K rS (rT K rS))) rules1, rc (rL rI) row2, some (.ow (nl K (rP K rS (rT K rS))) s7.1), some (.ow (nl K rS) s7.2.1), fc rI s7.2.2, none, none, none, none, none, none] : Cells K)) s')) := fun _ _ z => z
    obtain ⟨sign10, e_sign10, h⟩ := mb_ok h; have e_sign10 := oM_ok e_sign10
    obtain ⟨stack11, e_stack11, h⟩ := mb_ok h; have e_stack11 := ok_inj e_stack11
    refine q_popV (xs := s7.2.1) (x := sign10) (by rfl) e_sign10 inferInstance ?_
    rw [e_stack11]
    obtain ⟨t12, e_t12, h⟩ := mb_ok h
    refine l_if (c := (!t12)) ?_ ?_ ?_
    · walk_at "ev"
    · intro hc; have h := bif_t h hc
      obtain ⟨_, e_u14, h⟩ := mb_ok h; have e_u14 := of_decide_eq_true (chk_ok e_u14)
      obtain ⟨sides15, e_sides15, h⟩ := mb_ok h; have e_sides15 := ok_inj e_sides15
      refine q_asg (R := (nl K (rT K rS))) (b := (rules1.filter (fun (y13 : (Str × (List Str))) => (decide (y13.1 = sign10)))).map (fun (y13 : (Str × (List Str))) => y13.2)) (b' := sides15) ?_ e_sides15 ?_
      · refine nw_lc (G' := ([rc (rL (rP K rS (rT K rS))) rules1, rc (rL rI) row2, some (.ow (nl K (rP K rS (rT K rS))) s7.1), some (.ow (nl K rS) stack11), fc rI s7.2.2, fc rS sign10, none, none, none, none, none] : Cells K)) (r := (rP K rS (rT K rS))) ?_ (by first | assumption | (rw [ups_len]; omega) | (rw [List.length_map, List.length_range]; omega) | (simp only [List.length_cons, List.length_nil]; omega)) (fun _ y13 _ _ => ⟨_, tb_pair, ?_, fun _ => ?_⟩)
        · exact wk_ro (by rfl)
        · walk_at "ev"
        · walk_at "ev"
      obtain ⟨pick16, e_pick16, h⟩ := mb_ok h; have e_pick16 := ok_inj e_pick16
      refine q_set (r := rI) (b := (0 : Int)) (b' := pick16) ?_ e_pick16 ?_
      · walk_at "ev"
      obtain ⟨s17, h1, h⟩ := mb_ok h
      refine cutK ([rc (rL (rP K rS (rT K rS))) rules1, rc (rL rI) row2, some (.ow (nl K (rP K rS (rT K rS))) s7.1), some (.ow (nl K rS) stack11), fc rI s17.1, fc rS sign10, some (.ow (nl K (rT K rS)) sides15), none, none, fc rI s17.2, none] : Cells K) (fun K1 => ?_) ?_
      · have h := h1; clear h1; have hD := K1
        refine q_if (c := (decide (s7.2.2 < (row2.length : Int)))) ?_ ?_ ?_
        · walk_at "ev"
        · intro hc; have h := bif_t h hc
          obtain ⟨t18, e_t18, h⟩ := mb_ok h; have e_t18 := oM_ok e_t18
          obtain ⟨_, e_u19, h⟩ := mb_ok h; have e_u19 := of_decide_eq_true (chk_ok e_u19)
          obtain ⟨pick20, e_pick20, h⟩ := mb_ok h; have e_pick20 := ok_inj e_pick20
          refine q_set (r := rI) (b := t18 % (sides15.length : Int)) (b' := pick20) ?_ e_pick20 ?_
          · walk_at "ev"
          obtain ⟨used21, e_used21, h⟩ := mb_ok h; have e_used21 := ok_inj e_used21
          refine l_set (r := rI) (b := s7.2.2 + (1 : Int)) (b' := used21) ?_ e_used21 ?_
          · walk_at "ev"
          cases h
          exact fun σ H hv => hD σ H (hv.less (.keep (.keep (.keep (.keep (.keep (.keep (.keep (.keep (.keep (.keep (.keep .nil))))))))))))
        · intro hc; have h := bif_f h hc
          cases h
          exact fun σ H hv => hD σ H (hv.less (.keep (.keep (.keep (.keep (.keep (.keep (.keep (.keep (.keep (.keep (.keep .nil))))))))))))
      obtain ⟨t22, e_t22, h⟩ := mb_ok h; have e_t22 := oM_ok e_t22
      obtain ⟨_, e_u23, h⟩ := mb_ok h; have e_u23 := of_decide_eq_true (chk_ok e_u23)
      obtain ⟨runhere24, e_runhere24, h⟩ := mb_ok h; have e_runhere24 := ok_inj e_runhere24
      refine q_app (x := (sign10, t22)) (xs := s7.1) (by rfl) (x' := (sign10, t22)) ?_ rfl (by assumption) ?_
      · walk_at "ev"
      rw [e_runhere24]
      obtain ⟨_, e_u25, h⟩ := mb_ok h; have e_u25 := of_decide_eq_true (chk_ok e_u25)
      obtain ⟨s28, hm, h⟩ := mb_ok h
      refine l_forM (G' := ([rc (rL (rP K rS (rT K rS))) rules1, rc (rL rI) row2, some (.ow (nl K (rP K rS (rT K rS))) runhere24), some (.ow (nl K rS) stack11), fc rI s17.1, fc rS sign10, some (.ow (nl K (rT K rS)) sides15), none, none, fc rI s17.2, none] : Cells K)) (r := rI) (f := (fun (s26 : (List Str)) (x27 : Int) => mb (oM (atI t22 (((t22.length : Int) - (1 : Int)) - x27))) fun t29 => mb (chk (decide (s26.length < 100000))) fun _ => mb (.ok (s26 ++ [t29])) fun stack31 => .ok stack31)) (s0 := stack11) (fun (s26 : (List Str)) => ([rc (rL (rP K rS (rT K rS))) rules1, rc (rL rI) row2, some (.ow (nl K (rP K rS (rT K rS))) runhere24), some (.ow (nl K rS) s26), fc rI s17.1, fc rS sign10, some (.ow (nl K (rT K rS)) sides15), none, none, fc rI s17.2, none] : Cells K)) hm ?_ (.keep (.keep (.keep (.keep (.keep (.keep (.keep (.keep (.keep (.keep (.keep .nil))))))))))) (fun H0' e0 x27 s26 s' h => ⟨_, tg_name, ?_⟩) ?_
      · refine wk_rng1 ?_ ?_
        · walk_at "ev"
        · first | assumption | omega
      · have hD : Nx H0' ((fun (s26 : (List Str)) => ([rc (rL (rP K rS (rT K rS))) rules1, rc (rL rI) row2, some (.ow (nl K (rP K rS (rT K rS))) runhere24), some (.ow (nl K rS) s26), fc rI s17.1, fc rS sign10, some (.ow (nl K (rT K rS)) sides15), none, none, fc rI s17.2, none] : Cells K)) s') (Have H0' ((fun (s26 : (List Str)) => ([rc (rL (rP K rS (rT K rS))) rules1, rc (rL rI) row2, some (.ow (nl K (rP K rS (rT K rS))) runhere24), some (.ow (nl K rS) s26), fc rI s17.1, fc rS sign10, some (.ow (nl K (rT K rS)) sides15), none, none, fc rI s17.2, none] : Cells K)) s')) := fun _ _ z => z
        obtain ⟨t29, e_t29, h⟩ := mb_ok h; have e_t29 := oM_ok e_t29
        obtain ⟨_, e_u30, h⟩ := mb_ok h; have e_u30 := of_decide_eq_true (chk_ok e_u30)
        obtain ⟨stack31, e_stack31, h⟩ := mb_ok h; have e_stack31 := ok_inj e_stack31
        refine l_app (x := t29) (xs := s26) (by rfl) (x' := t29) ?_ rfl (by assumption) ?_
        · walk_at "ev"
        rw [e_stack31]
        cases h
        exact fun σ H hv => hD σ H (hv.less (.keep (.keep (.keep (.keep (.keep (.keep (.keep (.keep (.keep (.keep (.drop .nil))))))))))))
      cases h
      exact fun σ H hv => hD σ H (hv.less (.keep (.keep (.keep (.keep (.keep (.drop (.drop (.keep (.keep (.drop (.keep .nil))))))))))))
    · intro hc; have h := bif_f h hc
      cases h
      exact fun σ H hv => hD σ H (hv.less (.keep (.keep (.keep (.keep (.keep (.drop (.keep (.keep (.keep (.keep (.keep .nil))))))))))))
  cases h
  refine r_ret hD ?_
  walk_at "ev"
abbrev n__law_walk : List Str := ["_law_rules", "_law_run_here", "_law_stack", "_law_text", "_law_one", "_law_k"]
abbrev p__law_walk : List Str := ["_law_rules", "_law_run_here"]
theorem sc__law_walk : FnScope n__law_walk p__law_walk (defScope s__law_walk) := ⟨rfl, rfl, rfl, by decide +kernel, rfl, by decide +kernel, by decide +kernel⟩
abbrev sp__law_walk (K : PySem.W.Frag) : Sp := spM (aC (rL (rP K rS (rT K rS))) (aC (rT K (rP K rS (rT K rS))) aN)) (rO (rT K rS)) fun a => m__law_walk a.1 a.2.1
theorem c__law_walk {P : Program} {w : World} {K : PySem.W.Frag} {mg : Str → Option Value} {base : Heap} (F : Df K mg "_law_walk" s__law_walk) (B_tuple : mg "tuple" = none) (B_isinstance : mg "isinstance" = none) (B_len : mg "len" = none) (B_range : mg "range" = none) (C__law_is_token : Cal P w K mg base CX0 "_law_is_token" 1 p__law_is_token (sp__law_is_token K)) : Cal P w K mg base CX0 "_law_walk" 2 p__law_walk (sp__law_walk K) := by
  refine cal_of F sc__law_walk (fun vs H Q E ⟨a, b, h, _⟩ => LenA.len h) (fun _ _ _ _ _ _ us hl => match us, hl with | [_, _], _ => rfl) fun cdv f A outer s H vs Q E hr h => ?_
  have sc := sc__law_walk
  refine ⟨_, (pss_cons (ps_set (i := 2) sc.nd rfl (Or.inl rfl) (pe_lst (pa_cons (pe_ix (k_ix K) (pe_ix (k_ix K) (pv 0) pe_int (fun _ _ => rfl)) pe_int (fun _ _ => rfl)) pa_nil)))
      (pss_cons (ps_set (i := 3) sc.nd rfl (Or.inl rfl) (pe_lst pa_nil))
      (pss_cons (ps_if (pt_not (pt_val (pe_callB (k_isi K) (by rfl) B_isinstance (by decide +kernel) (pa_cons (pv 1) (pa_cons (pe_bltn (v := .ty "tuple") (u := .type "tuple") (by rfl) B_tuple (by decide +kernel) rfl) pa_nil)))))
      (pss_one (ps_ret pe_non)) pss_nil)
      (pss_cons (ps_for PassesOwn.never rfl (pi_tupK K (pv 1)) (pg_name (i := 4) sc.nd rfl (Or.inl rfl))
      (pss_cons (ps_while PassesOwn.never (PW.pt (pw_and (pt_cmpR op_gt (pe_callB (k_len K) (by rfl) B_len PySem.boot_len (pa_cons (pv 2) pa_nil)) pe_int (nomark _)) (pw_and1 (pt_val (pe_fn C__law_is_token (hr.mono (by decide)) (pa_cons (pe_ix (k_ix K) (pv 2) (pe_un un_neg pe_int) (fun _ _ => rfl)) pa_nil))))))
      (pss_one (ps_expr (pe_app K (pv 3) (pa_cons (pe_popK K (pv 2)) pa_nil)))))
      (pss_cons (ps_if (PW.pt (pw_or (pt_cmpR op_eq (pe_callB (k_len K) (by rfl) B_len PySem.boot_len (pa_cons (pv 2) pa_nil)) pe_int (nomark _)) (pw_or (pt_cmpR (k_ninD K (Nat.lt_of_le_of_lt (Nat.add_le_add_left (by decide) _) hr.un)) (pv 4) (pv 0) rfl) (pw_or1 (pt_cmpR op_ne (pe_ix (k_ix K) (pv 4) pe_int (fun _ _ => rfl)) (pe_popK K (pv 2)) (nomark _))))))
      (pss_one (ps_ret pe_non)) pss_nil)
      (pss_one (ps_for PassesOwn.never rfl (pi_range1 (by rfl) B_range (pa_cons (pe_callB (k_len K) (by rfl) B_len PySem.boot_len (pa_cons (pe_ix (k_ix K) (pv 4) pe_int (fun _ _ => rfl)) pa_nil)) pa_nil)) (pg_name (i := 5) sc.nd rfl (Or.inl rfl))
      (pss_one (ps_expr (pe_app K (pv 2) (pa_cons (pe_ix (k_ix K) (pe_ix (k_ix K) (pv 4) pe_int (fun _ _ => rfl)) (pe_op op_sub (pe_op op_sub (pe_callB (k_len K) (by rfl) B_len PySem.boot_len (pa_cons (pe_ix (k_ix K) (pv 4) pe_int (fun _ _ => rfl)) pa_nil)) pe_int) (pv 5)) (fun _ _ => rfl)) pa_nil)))))))))
      (pss_cons (ps_while PassesOwn.never (PW.pt (pw_and (pt_cmpR op_gt (pe_callB (k_len K) (by rfl) B_len PySem.boot_len (pa_cons (pv 2) pa_nil)) pe_int (nomark _)) (pw_and1 (pt_val (pe_fn C__law_is_token (hr.mono (by decide)) (pa_cons (pe_ix (k_ix K) (pv 2) (pe_un un_neg pe_int) (fun _ _ => rfl)) pa_nil))))))
      (pss_one (ps_expr (pe_app K (pv 3) (pa_cons (pe_popK K (pv 2)) pa_nil)))))
      (pss_cons (ps_if (pt_cmpR op_gt (pe_callB (k_len K) (by rfl) B_len PySem.boot_len (pa_cons (pv 2) pa_nil)) pe_int (nomark _))
      (pss_one (ps_ret pe_non)) pss_nil)
      (pss_one (ps_ret (pe_callTy (k_tuple K) (by rfl) B_tuple (by decide +kernel) (pa_cons (pv 3) pa_nil)))))))))), ?_⟩
  obtain ⟨⟨rules1, runhere2, _⟩, r0, ⟨v_rules1, _, rfl, w_rules1, ⟨v_runhere2, _, rfl, w_runhere2, rfl⟩⟩, h, k⟩ := h
  have hD : RtOk (fz K (rO (rT K rS))) H r0 { nx := fun _ H' => Q .non H', rt := Q } := fun v H' ⟨as, s, n, z⟩ => k v H' s z.2.now
  refine Sv.run (K := K) (G := ([rc (rL (rP K rS (rT K rS))) rules1, fc (rT K (rP K rS (rT K rS))) runhere2, none, none, none, none] : Cells K)) ?_ (.ro w_rules1 (.fz w_runhere2 (.skip (.skip (.skip (.skip .nil))))))
  have h : m__law_walk rules1 runhere2 = .ok r0 := h
  unfold m__law_walk at h
  obtain ⟨t3, e_t3, h⟩ := mb_ok h; have e_t3 := oM_ok e_t3
  obtain ⟨stack4, e_stack4, h⟩ := mb_ok h; have e_stack4 := ok_inj e_stack4
  refine q_asg (R := (nl K rS)) (b := [t3.1]) (b' := stack4) ?_ e_stack4 ?_
  · walk_at "ev"
  obtain ⟨text5, e_text5, h⟩ := mb_ok h; have e_text5 := ok_inj e_text5
  refine q_asg (R := (nl K rS)) (b := ([] : (List Str))) (b' := text5) ?_ e_text5 ?_
  · walk_at "ev"
  refine q_if (c := (!true)) ?_ ?_ ?_
  · walk_at "ev"
  · intro hc; have h := bif_t h hc
    cases h
    refine r_ret hD ?_
    walk_at "ev"
  · intro hc; have h := bif_f h hc
    refine q_next ?_
    obtain ⟨o8, hm, h⟩ := mb_ok h
    refine q_forF (G' := ([rc (rL (rP K rS (rT K rS))) rules1, fc (rT K (rP K rS (rT K rS))) runhere2, some (.ow (nl K rS) stack4), some (.ow (nl K rS) text5), none, none] : Cells K)) (r := (rP K rS (rT K rS))) (R := (fz K (rO (rT K rS)))) (f := (fun (s6 : ((List Str) × (List Str))) (x7 : (Str × (List Str))) => mb (mwhile (fun (s9 : ((List Str) × (List Str))) => mb (mand (decide ((0 : Int) < (s9.1.length : Int))) (mb (oM (atI s9.1 (-(1 : Int)))) fun t16 => mb (m__law_is_token t16) fun t17 => .ok t17)) fun c18 => .ok c18) (fun (s9 : ((List Str) × (List Str))) => mb (oM (s9.1[s9.1.length - 1]?)) fun v12 => mb (chk (decide (s9.2.length < 100000))) fun _ => mb (.ok (s9.1.dropLast)) fun stack14 => mb (.ok (s9.2 ++ [v12])) fun text15 => .ok (stack14, text15)) fuel (s6.1, s6.2)) fun s11 => bif (decide ((s11.1.length : Int) = (0 : Int))) then .ok (.rt (none : (Option (List Str)))) else bif (!(memB x7 rules1)) then .ok (.rt (none : (Option (List Str)))) else mb (oM (s11.1[s11.1.length - 1]?)) fun v19 => mb (.ok (s11.1.dropLast)) fun stack20 => bif !decide (x7.1 = v19) then .ok (.rt (none : (Option (List Str)))) else mb (chk (decide (-100000 ≤ (x7.2.length : Int) ∧ (x7.2.length : Int) ≤ 100000))) fun _ => mb (mfor (fun (s22 : (List Str)) (x23 : Int) => mb (oM (atI x7.2 (((x7.2.length : Int) - (1 : Int)) - x23))) fun t25 => mb (chk (decide (s22.length < 100000))) fun _ => mb (.ok (s22 ++ [t25])) fun stack27 => .ok stack27) stack20 (ups (x7.2.length : Int).toNat)) fun s24 => .ok (.nx (s24, s11.2)))) (s0 := (stack4, text5)) (o := o8) (fun (s6 : ((List Str) × (List Str))) => ([rc (rL (rP K rS (rT K rS))) rules1, fc (rT K (rP K rS (rT K rS))) runhere2, some (.ow (nl K rS) s6.1), some (.ow (nl K rS) s6.2), none, none] : Cells K)) hm ?_ (.keep (.keep (.keep (.keep (.keep (.keep .nil)))))) (fun s6 e => ?_) (fun x e => ?_) (fun H0' D' e0 x7 s6 o' h hD => ⟨_, tg_name, ?_⟩)
    · refine wk_tup ?_
      walk_at "ev"
    · subst e; have h := go_nx h
      obtain ⟨s30, hm, h⟩ := mb_ok h
      refine q_whileM (c := (fun (s28 : ((List Str) × (List Str))) => mb (mand (decide ((0 : Int) < (s28.1.length : Int))) (mb (oM (atI s28.1 (-(1 : Int)))) fun t35 => mb (m__law_is_token t35) fun t36 => .ok t36)) fun c37 => .ok c37)) (f := (fun (s28 : ((List Str) × (List Str))) => mb (oM (s28.1[s28.1.length - 1]?)) fun v31 => mb (chk (decide (s28.2.length < 100000))) fun _ => mb (.ok (s28.1.dropLast)) fun stack33 => mb (.ok (s28.2 ++ [v31])) fun text34 => .ok (stack33, text34))) (s0 := (s6.1, s6.2)) (fun (s28 : ((List Str) × (List Str))) => ([rc (rL (rP K rS (rT K rS))) rules1, fc (rT K (rP K rS (rT K rS))) runhere2, some (.ow (nl K rS) s28.1), some (.ow (nl K rS) s28.2), none, none] : Cells K)) hm (.keep (.keep (.keep (.keep (.keep (.keep .nil)))))) (fun s28 _ e => ?_) (fun H0' e0 s28 s' h => ?_) ?_
      · obtain ⟨c37, e_c37, e⟩ := mb_ok e
        cases e
        refine et_andM ?_ (fun _ e => ?_) e_c37
        · walk_at "ev"
        obtain ⟨t35, e_t35, e⟩ := mb_ok e; have e_t35 := oM_ok e_t35
        obtain ⟨t36, e_t36, e⟩ := mb_ok e
        cases e
        walk_at "ev"
      · have hD : Nx H0' ((fun (s28 : ((List Str) × (List Str))) => ([rc (rL (rP K rS (rT K rS))) rules1, fc (rT K (rP K rS (rT K rS))) runhere2, some (.ow (nl K rS) s28.1), some (.ow (nl K rS) s28.2), none, none] : Cells K)) s') (Have H0' ((fun (s28 : ((List Str) × (List Str))) => ([rc (rL (rP K rS (rT K rS))) rules1, fc (rT K (rP K rS (rT K rS))) runhere2, some (.ow (nl K rS) s28.1), some (.ow (nl K rS) s28.2), none, none] : Cells K)) s')) := fun _ _ z => z
        obtain ⟨v31, e_v31, h⟩ := mb_ok h; have e_v31 := oM_ok e_v31
        obtain ⟨_, e_u32, h⟩ := mb_ok h; have e_u32 := of_decide_eq_true (chk_ok e_u32)
        obtain ⟨stack33, e_stack33, h⟩ := mb_ok h; have e_stack33 := ok_inj e_stack33
        obtain ⟨text34, e_text34, h⟩ := mb_ok h; have e_text34 := ok_inj e_text34
        refine l_appX (ys := s28.2) (x := v31) (by rfl) (ex_pop (by rfl) e_v31) (by rfl) (by assumption) ?_
        rw [e_stack33, e_text34]
        cases h
        exact fun σ H hv => hD σ H (hv.less (.keep (.keep (.keep (.keep (.keep (.keep .nil)))))))
      refine q_if (c := (decide ((0 : Int) < (s30.1.length : Int)))) ?_ ?_ ?_
      · walk_at "ev"
      · intro hc; have h := bif_t h hc
        cases h
        refine r_ret hD ?_
        walk_at "ev"
      · intro hc; have h := bif_f h hc
        refine q_next ?_
        cases h
        refine r_ret hD ?_
        refine Ev.some ?_
        walk_at "ev"
    · subst e; have h := go_rt h; cases h; exact hD
    · obtain ⟨s11, hm, h⟩ := mb_ok h
      refine q_whileM (c := (fun (s9 : ((List Str) × (List Str))) => mb (mand (decide ((0 : Int) < (s9.1.length : Int))) (mb (oM (atI s9.1 (-(1 : Int)))) fun t16 => mb (m__law_is_token t16) fun t17 => .ok t17)) fun c18 => .ok c18)) (f := (fun (s9 : ((List Str) × (List Str))) => mb (oM (s9.1[s9.1.length - 1]?)) fun v12 => mb (chk (decide (s9.2.length < 100000))) fun _ => mb (.ok (s9.1.dropLast)) fun stack14 => mb (.ok (s9.2 ++ [v12])) fun text15 => .ok (stack14, text15))) (s0 := (s6.1, s6.2)) (fun (s9 : ((List Str) × (List Str))) => ([rc (rL (rP K rS (rT K rS))) rules1, fc (rT K (rP K rS (rT K rS))) runhere2, some (.ow (nl K rS) s9.1), some (.ow (nl K rS) s9.2), fc (rP K rS (rT K rS)) x7, none] : Cells K)) hm (.keep (.keep (.keep (.keep (.keep (.keep .nil)))))) (fun s9 _ e => ?_) (fun H0' e0 s9 s' h => ?_) ?_
      · obtain ⟨c18, e_c18, e⟩ := mb_ok e
        cases e
        refine et_andM ?_ (fun _ e => ?_) e_c18
        · walk_at "ev"
        obtain ⟨t16, e_t16, e⟩ := mb_ok e; have e_t16 := oM_ok e_t16
        obtain ⟨t17, e_t17, e⟩ := mb_ok e
        cases e
        walk_at "ev"
      · have hD : Nx H0' ((fun (s9 : ((List Str) × (List Str))) => ([rc (rL (rP K rS (rT K rS))) rules1, fc (rT K (rP K rS (rT K rS))) runhere2, some (.ow (nl K rS) s9.1), some (.ow (nl K rS) s9.2), fc (rP K rS (rT K rS)) x7, none] : Cells K)) s') (Have H0' ((fun (s9 : ((List Str) × (List Str))) => ([rc (rL (rP K rS (rT K rS))) rules1, fc (rT K (rP K rS (rT K rS))) runhere2, some (.ow (nl K rS) s9.1), some (.ow (nl K rS) s9.2), fc (rP K rS (rT K rS)) x7, none] : Cells K)) s')) := fun _ _ z => z
        obtain ⟨v12, e_v12, h⟩ := mb_ok h; have e_v12 := oM_ok e_v12
        obtain ⟨_, e_u13, h⟩ := mb_ok h; have e_u13 := of_decide_eq_true (chk_ok e_u13)
        obtain ⟨stack14, e_stack14, h⟩ := mb_ok h; have e_stack14 := ok_inj e_stack14
        obtain ⟨text15, e_text15, h⟩ := mb_ok h; have e_text15 := ok_inj e_text15
        refine l_appX (ys := s9.2) (x := v12) (by rfl) (ex_pop (by rfl) e_v12) (by rfl) (by assumption) ?_
        rw [e_stack14, e_text15]
        cases h
        exact fun σ H hv => hD σ H (hv.less (.keep (.keep (.keep (.keep (.keep (.keep .nil)))))))
      refine q_ifOr (c := (decide ((s11.1.length : Int) = (0 : Int)))) ?_ ?_ ?_
      · walk_at "ev"
      · intro hc; have h := bif_t h hc
        cases h
        refine r_ret hD ?_
        walk_at "ev"
      · intro hc; have h := bif_f h hc
        refine q_ifOr (c := (!(memB x7 rules1))) ?_ ?_ ?_
        · walk_at "ev"
        · intro hc; have h := bif_t h hc
          cases h
          refine r_ret hD ?_
          walk_at "ev"
        · intro hc; have h := bif_f h hc
          obtain ⟨v19, e_v19, h⟩ := mb_ok h; have e_v19 := oM_ok e_v19
          obtain ⟨stack20, e_stack20, h⟩ := mb_ok h; have e_stack20 := ok_inj e_stack20
          refine q_ifX (c := !decide (x7.1 = v19)) (etx_nePop (xs := s11.1) ?_ (by rfl) e_v19) ?_ ?_
          · walk_at "ev"
          all_goals rw [e_stack20]
          · intro hc; have h := bif_t h hc
            cases h
            refine r_ret hD ?_
            walk_at "ev"
          · intro hc; have h := bif_f h hc
            refine q_next ?_
            obtain ⟨_, e_u21, h⟩ := mb_ok h; have e_u21 := of_decide_eq_true (chk_ok e_u21)
            obtain ⟨s24, hm, h⟩ := mb_ok h
            refine l_forM (G' := ([rc (rL (rP K rS (rT K rS))) rules1, fc (rT K (rP K rS (rT K rS))) runhere2, some (.ow (nl K rS) stack20), some (.ow (nl K rS) s11.2), fc (rP K rS (rT K rS)) x7, none] : Cells K)) (r := rI) (f := (fun (s22 : (List Str)) (x23 : Int) => mb (oM (atI x7.2 (((x7.2.length : Int) - (1 : Int)) - x23))) fun t25 => mb (chk (decide (s22.length < 100000))) fun _ => mb (.ok (s22 ++ [t25])) fun stack27 => .ok stack27)) (s0 := stack20) (fun (s22 : (List Str)) => ([rc (rL (rP K rS (rT K rS))) rules1, fc (rT K (rP K rS (rT K rS))) runhere2, some (.ow (nl K rS) s22), some (.ow (nl K rS) s11.2), fc (rP K rS (rT K rS)) x7, none] : Cells K)) hm ?_ (.keep (.keep (.keep (.keep (.keep (.keep .nil)))))) (fun H0' e0 x23 s22 s' h => ⟨_, tg_name, ?_⟩) ?_
            · refine wk_rng1 ?_ ?_
              · walk_at "ev"
              · first | assumption | omega
            · have hD : Nx H0' ((fun (s22 : (List Str)) => ([rc (rL (rP K rS (rT K rS))) rules1, fc (rT K (rP K rS (rT K rS))) runhere2, some (.ow (nl K rS) s22), some (.ow (nl K rS) s11.2), fc (rP K rS (rT K rS)) x7, none] : Cells K)) s') (Have H0' ((fun (s22 : (List Str)) => ([rc (rL (rP K rS (rT K rS))) rules1, fc (rT K (rP K rS (rT K rS))) runhere2, some (.ow (nl K rS) s22), some (.ow (nl K rS) s11.2), fc (rP K rS (rT K rS)) x7, none] : Cells K)) s')) := fun _ _ z => z
              obtain ⟨t25, e_t25, h⟩ := mb_ok h; have e_t25 := oM_ok e_t25
              obtain ⟨_, e_u26, h⟩ := mb_ok h; have e_u26 := of_decide_eq_true (chk_ok e_u26)
              obtain ⟨stack27, e_stack27, h⟩ := mb_ok h; have e_stack27 := ok_inj e_stack27
              refine l_app (x := t25) (xs := s22) (by rfl) (x' := t25) ?_ rfl (by assumption) ?_
              · walk_at "ev"
              rw [e_stack27]
              cases h
              exact fun σ H hv => hD σ H (hv.less (.keep (.keep (.keep (.keep (.keep (.drop .nil)))))))
            cases h
            exact fun σ H hv => hD σ H (hv.less (.keep (.keep (.keep (.keep (.drop (.keep .nil)))))))
abbrev n__law_union : List Str := ["_law_script", "_law_host_here", "_law_given", "_law_rules", "_law_more"]
abbrev p__law_union : List Str := ["_law_script", "_law_host_here"]
theorem sc__law_union : FnScope n__law_union p__law_union (defScope s__law_union) := ⟨rfl, rfl, rfl, by decide +kernel, rfl, by decide +kernel, by decide +kernel⟩
abbrev sp__law_union (K : PySem.W.Frag) : Sp := spMNA (K := K) (aC (rQ K rI) (aC (rL (rP K rS (rT K rS))) aN)) (nl K (rP K rS (rT K rS))) 1 (fun a => a.2.1) fun a => m__law_union a.1 a.2.1
theorem c__law_union {P : Program} {w : World} {K : PySem.W.Frag} {mg : Str → Option Value} {base : Heap} (F : Df K mg "_law_union" s__law_union) (C__law_cell : Cal P w K mg base CX0 "_law_cell" 1 p__law_cell (sp__law_cell K)) (C__law_draws : Cal P w K mg base CX0 "_law_draws" 1 p__law_draws (sp__law_draws K)) (C__law_guest : Cal P w K mg base CX0 "_law_guest" 3 p__law_guest (sp__law_guest K)) (C__law_clashes : Cal P w K mg base CX0 "_law_clashes" 4 p__law_clashes (sp__law_clashes K)) : Cal P w K mg base CX0 "_law_union" 5 p__law_union (sp__law_union K) := by
  refine cal_of F sc__law_union (fun vs H Q E h => spMNA_len h) (fun _ _ _ _ _ _ us hl => match us, hl with | [_, _], _ => rfl) fun cdv f A outer s H vs Q E hr h => ?_
  have sc := sc__law_union
  refine ⟨_, (pss_cons (ps_set (i := 2) sc.nd rfl (Or.inl rfl) (pe_fn C__law_guest (hr.mono (by decide)) (pa_cons (pe_fn C__law_draws (hr.mono (by decide)) (pa_cons (pe_fn C__law_cell (hr.mono (by decide)) (pa_cons (pv 0) (pa_cons pe_int pa_nil))) (pa_cons pe_int pa_nil))) (pa_cons pe_str (pa_cons (pv 1) pa_nil)))))
      (pss_cons (ps_set (i := 3) sc.nd rfl (Or.inl rfl) (pv 1))
      (pss_cons (ps_if (pt_not (pt_val (pe_fn C__law_clashes (hr.mono (by decide)) (pa_cons (pe_op op_cat (pv 1) (pv 2)) pa_nil))))
      (pss_one (ps_set (i := 3) sc.nd rfl (Or.inl rfl) (pe_op op_cat (pv 1) (pv 2)))) pss_nil)
      (pss_cons (ps_set (i := 4) sc.nd rfl (Or.inl rfl) (pe_fn C__law_guest (hr.mono (by decide)) (pa_cons (pe_fn C__law_draws (hr.mono (by decide)) (pa_cons (pe_fn C__law_cell (hr.mono (by decide)) (pa_cons (pv 0) (pa_cons pe_int pa_nil))) (pa_cons pe_int pa_nil))) (pa_cons pe_str (pa_cons (pv 1) pa_nil)))))
      (pss_cons (ps_if (pt_not (pt_val (pe_fn C__law_clashes (hr.mono (by decide)) (pa_cons (pe_op op_cat (pv 3) (pv 4)) pa_nil))))
      (pss_one (ps_ret (pe_op op_cat (pv 3) (pv 4)))) pss_nil)
      (pss_one (ps_ret (pv 3)))))))), ?_⟩
  obtain ⟨⟨script1, hosthere2, _⟩, r0, va0, ⟨v_script1, _, rfl, w_script1, ⟨v_hosthere2, _, rfl, w_hosthere2, rfl⟩⟩, hv0, h, k⟩ := h
  have e0 : va0 = v_hosthere2 := (Option.some.inj hv0).symm
  rw [e0] at k
  have hD : RtOk (nAl K (nl K (rP K rS (rT K rS))) v_hosthere2 hosthere2) H r0 { nx := fun _ H' => Q .non H', rt := Q } := fun v H' ⟨as, s, n, z⟩ => k v H' as s n z
  refine Sv.run (K := K) (G := ([rc (rQ K rI) script1, rc (rVal v_hosthere2 (rL (rP K rS (rT K rS)))) hosthere2, none, none, none] : Cells K)) ?_ (.ro w_script1 (.ro (r := rVal v_hosthere2 (rL (rP K rS (rT K rS)))) ⟨rfl, w_hosthere2⟩ (.skip (.skip (.skip .nil)))))
  have h : m__law_union script1 hosthere2 = .ok r0 := h
  unfold m__law_union at h
  obtain ⟨t3, e_t3, h⟩ := mb_ok h
  obtain ⟨t4, e_t4, h⟩ := mb_ok h
  obtain ⟨t5, e_t5, h⟩ := mb_ok h
  refine q_asg (R := (nl K (rP K rS (rT K rS)))) (b := t5) (b' := t5) ?_ rfl ?_
  · walk_at "ev"
  refine q_setRo (r := rVal v_hosthere2 (rL (rP K rS (rT K rS)))) (x := hosthere2) (rg_ro (by rfl)) ?_
  obtain ⟨_, e_u6, h⟩ := mb_ok h; have e_u6 := of_decide_eq_true (chk_ok e_u6)
  obtain ⟨t7, e_t7, h⟩ := mb_ok h
  refine q_if (c := (!t7)) ?_ ?_ ?_
  · walk_at "ev"
  · intro hc; have h := bif_t h hc
    obtain ⟨rules8, e_rules8, h⟩ := mb_ok h; have e_rules8 := ok_inj e_rules8
    refine l_asg (R := (nl K (rP K rS (rT K rS)))) (b := hosthere2 ++ t5) (b' := rules8) ?_ e_rules8 ?_
    · walk_at "ev"
    (try dsimp only); refine Sv.cont ?_
    obtain ⟨t9, e_t9, h⟩ := mb_ok h
    obtain ⟨t10, e_t10, h⟩ := mb_ok h
    obtain ⟨t11, e_t11, h⟩ := mb_ok h
    refine q_asg (R := (nl K (rP K rS (rT K rS)))) (b := t11) (b' := t11) ?_ rfl ?_
    · walk_at "ev"
    obtain ⟨_, e_u12, h⟩ := mb_ok h; have e_u12 := of_decide_eq_true (chk_ok e_u12)
    obtain ⟨t13, e_t13, h⟩ := mb_ok h
    refine q_if (c := (!t13)) ?_ ?_ ?_
    · walk_at "ev"
    · intro hc; have h := bif_t h hc
      cases h
      refine r_retN (rt_new hD) ?_
      walk_at "ev"
    · intro hc; have h := bif_f h hc
      refine q_next ?_
      cases h
      exact r_retO (i := 3) (rt_new hD) (by rfl)
  · intro hc; have h := bif_f h hc
    refine q_next ?_
    obtain ⟨t14, e_t14, h⟩ := mb_ok h
    obtain ⟨t15, e_t15, h⟩ := mb_ok h
    obtain ⟨t16, e_t16, h⟩ := mb_ok h
    refine q_asg (R := (nl K (rP K rS (rT K rS)))) (b := t16) (b' := t16) ?_ rfl ?_
    · walk_at "ev"
    obtain ⟨_, e_u17, h⟩ := mb_ok h; have e_u17 := of_decide_eq_true (chk_ok e_u17)
    obtain ⟨t18, e_t18, h⟩ := mb_ok h
    refine q_if (c := (!t18)) ?_ ?_ ?_
    · walk_at "ev"
    · intro hc; have h := bif_t h hc
      cases h
      refine r_retN (rt_new hD) ?_
      walk_at "ev"
    · intro hc; have h := bif_f h hc
      refine q_next ?_
      cases h
      exact r_retAl hD (by rfl)
abbrev n_law : List Str := ["_law_script", "_law_host_here", "_law_rules", "_law_table_here", "_law_reader", "_law_k", "_law_run_here", "_law_text", "_law_turn", "_law_told"]
abbrev p_law : List Str := ["_law_script"]
theorem sc_law : FnScope n_law p_law (defScope s_law) := ⟨rfl, rfl, rfl, by decide +kernel, rfl, by decide +kernel, by decide +kernel⟩
abbrev sp_law (K : PySem.W.Frag) : Sp := spM (aC (rQ K rI) aN) rB fun a => m_law a.1
theorem c_law {P : Program} {w : World} {K : PySem.W.Frag} {mg : Str → Option Value} {base : Heap} {f : Addr} {fd : FuncData} (F : Fun K "law" "law" s_law f fd) (B_range : mg "range" = none) (B_tuple : mg "tuple" = none) (B_isinstance : mg "isinstance" = none) (K_Reader : ClsF K mg "Reader") (I_Reader : CalI P w K mg base (L2.CX P w) (cA K "Reader") 1 p_Reader___init__ (sp_Reader___init__ P w K)) (CO_Reader : CalO P w K mg base CX0 (cA K "Reader") 3 p_Reader___call__ (sp_Reader___call__ P w K)) (C__law_cell : Cal P w K mg base CX0 "_law_cell" 1 p__law_cell (sp__law_cell K)) (C__law_draws : Cal P w K mg base CX0 "_law_draws" 1 p__law_draws (sp__law_draws K)) (C__law_host : Cal P w K mg base CX0 "_law_host" 4 p__law_host (sp__law_host K)) (C__law_union : Cal P w K mg base CX0 "_law_union" 5 p__law_union (sp__law_union K)) (C__law_table : Cal P w K mg base CX0 "_law_table" 4 p__law_table (sp__law_table P w K)) (C__law_run : Cal P w K mg base CX0 "_law_run" 2 p__law_run (sp__law_run K)) (C__law_walk : Cal P w K mg base CX0 "_law_walk" 2 p__law_walk (sp__law_walk K)) : FnOk P w K mg base CX0 6 f fd p_law (sp_law K) := by
  have cl_Reader := K_Reader.cl
  refine F.ok sc_law (fun vs H Q E ⟨a, b, h, _⟩ => LenA.len h) fun cdv A outer s H vs Q E hr h => ?_
  have sc := sc_law
  refine ⟨_, (pss_cons (ps_set (i := 1) sc.nd rfl (Or.inl rfl) (pe_fn C__law_host (hr.mono (by decide)) (pa_cons (pe_fn C__law_draws (hr.mono (by decide)) (pa_cons (pe_fn C__law_cell (hr.mono (by decide)) (pa_cons (pv 0) (pa_cons pe_int pa_nil))) (pa_cons pe_int pa_nil))) (pa_cons pe_int (pa_cons (pe_lst (pa_cons pe_int (pa_cons pe_int (pa_cons pe_int (pa_cons pe_int (pa_cons pe_int (pa_cons pe_int pa_nil))))))) pa_nil)))))
      (pss_cons (ps_set (i := 2) sc.nd rfl (Or.inl rfl) (pe_fn C__law_union (hr.mono (by decide)) (pa_cons (pv 0) (pa_cons (pv 1) pa_nil))))
      (pss_cons (ps_set (i := 3) sc.nd rfl (Or.inl rfl) (pe_fn C__law_table (hr.mono (by decide)) (pa_cons (pv 2) pa_nil)))
      (pss_cons (ps_set (i := 4) sc.nd rfl (Or.inl rfl) (pe_mkIS I_Reader K_Reader.mg (hr.mono (by decide)) takes_no (pa_cons (pe_ix (k_ix K) (pe_ix (k_ix K) (pv 2) pe_int (fun _ _ => rfl)) pe_int (fun _ _ => rfl)) (pa_cons (pv 3) pa_nil))))
      (pss_cons (ps_pputK P w K (Nat.lt_of_le_of_lt (Nat.add_le_add_left (by decide) _) hr.un) (pv 3) (pe_tupD (pa_cons (pe_ix (k_ix K) (pe_ix (k_ix K) (pv 2) pe_int (fun _ _ => rfl)) pe_int (fun _ _ => rfl)) (pa_cons pe_non pa_nil))) (pe_tupD (pa_cons pe_str pa_nil)) rfl)
      (pss_cons (ps_pputK P w K (Nat.lt_of_le_of_lt (Nat.add_le_add_left (by decide) _) hr.un) (pv 3) (pe_tupD (pa_cons (pe_ix (k_ix K) (pe_ix (k_ix K) (pv 2) pe_int (fun _ _ => rfl)) pe_int (fun _ _ => rfl)) (pa_cons (pe_ix (k_ix K) (pe_ix (k_ix K) (pe_ix (k_ix K) (pv 2) pe_int (fun _ _ => rfl)) pe_int (fun _ _ => rfl)) pe_int (fun _ _ => rfl)) pa_nil))) (pe_tupD pa_nil) rfl)
      (pss_cons (ps_for PassesOwn.never rfl (pi_range1 (by rfl) B_range (pa_cons pe_int pa_nil)) (pg_name (i := 5) sc.nd rfl (Or.inl rfl))
      (pss_cons (ps_set (i := 6) sc.nd rfl (Or.inl rfl) (pe_fn C__law_run (hr.mono (by decide)) (pa_cons (pv 2) (pa_cons (pe_fn C__law_draws (hr.mono (by decide)) (pa_cons (pe_fn C__law_cell (hr.mono (by decide)) (pa_cons (pv 0) (pa_cons (pe_op op_add pe_int (pv 5)) pa_nil))) (pa_cons pe_int pa_nil))) pa_nil))))
      (pss_cons (ps_set (i := 7) sc.nd rfl (Or.inl rfl) (pe_fn C__law_walk (hr.mono (by decide)) (pa_cons (pv 2) (pa_cons (pv 6) pa_nil))))
      (pss_one (ps_for PassesOwn.never rfl (pi_range1 (by rfl) B_range (pa_cons pe_int pa_nil)) (pg_name (i := 8) sc.nd rfl (Or.inl rfl))
      (pss_cons (ps_set (i := 9) sc.nd rfl (Or.inl rfl) (pe_insCall (pv 4) CO_Reader (hr.mono (by decide)) pass0 (pa_cons (pv 7) pa_nil)))
      (pss_one (ps_if (PW.pt (pw_or (pt_not (pt_val (pe_callB (k_isi K) (by rfl) B_isinstance (by decide +kernel) (pa_cons (pv 9) (pa_cons (pe_bltn (v := .ty "tuple") (u := .type "tuple") (by rfl) B_tuple (by decide +kernel) rfl) pa_nil))))) (pw_or1 (pt_cmpR (k_neD K (Nat.lt_of_le_of_lt (Nat.add_le_add_left (by decide) _) hr.un)) (pv 9) (pv 6) (nomark _)))))
      (pss_one (ps_ret pe_bl)) pss_nil))))))))
      (pss_one (ps_ret pe_bl))))))))), ?_⟩
  obtain ⟨⟨script1, _⟩, r0, ⟨v_script1, _, rfl, w_script1, rfl⟩, h, k⟩ := h
  have hD : RtOk (fz K rB) H r0 { nx := fun _ H' => Q .non H', rt := Q } := fun v H' ⟨as, s, n, z⟩ => k v H' s z.2.now
  refine Sv.run (K := K) (G := ([rc (rQ K rI) script1, none, none, none, none, none, none, none, none, none] : Cells K)) ?_ (.ro w_script1 (.skip (.skip (.skip (.skip (.skip (.skip (.skip (.skip (.skip .nil))))))))))
  have h : m_law script1 = .ok r0 := h
  unfold m_law at h
  obtain ⟨t2, e_t2, h⟩ := mb_ok h
  obtain ⟨t3, e_t3, h⟩ := mb_ok h
  obtain ⟨t4, e_t4, h⟩ := mb_ok h
  refine q_asg (R := (nl K (rP K rS (rT K rS)))) (b := t4) (b' := t4) ?_ rfl ?_
  · walk_at "ev"
  refine q_frzR (rv := (rL (rP K rS (rT K rS)))) (i := 1) (by rfl) (fun _ _ _ z => vw_nl z) ?_
  obtain ⟨t5, e_t5, h⟩ := mb_ok h
  refine q_setRo (r := (rL (rP K rS (rT K rS)))) (x := t5) (rg_al2 (a0 := script1) ?_ inferInstance (by rfl) (show MOk _ _ _ from ?_) (fun _ _ _ z => vw_nl z)) ?_
  · walk_at "ev"
  · unfold MOk; assumption
  obtain ⟨t6, e_t6, h⟩ := mb_ok h
  refine q_asg (R := (npd P w K (rT K rS))) (b := t6) (b' := t6) ?_ rfl ?_
  · walk_at "ev"
  obtain ⟨t7, e_t7, h⟩ := mb_ok h; have e_t7 := oM_ok e_t7
  obtain ⟨_, e_u8, h⟩ := mb_ok h; have e_u8 := of_decide_eq_true (chk_ok e_u8)
  obtain ⟨t9, e_t9, h⟩ := mb_ok h
  refine q_asg (R := (nRec K (cA K "Reader") (fA (fA fN "first" (fz K rS)) "entries" (npd P w K (rT K rS))))) (b := t9) (b' := t9) ?_ rfl ?_
  · walk_at "ev"
  obtain ⟨_, e_u10, h⟩ := mb_ok h; have e_u10 := of_decide_eq_true (chk_ok e_u10)
  obtain ⟨tablehere11, e_tablehere11, h⟩ := mb_ok h; have e_tablehere11 := ok_inj e_tablehere11
  refine q_pput (xs := t6) (x := [("zq" : Str)]) (k := (t7.1, (none : (Option Str)))) (by rfl) ?_ ?_ rfl (by assumption) ?_
  · walk_at "ev"
  · walk_at "ev"
  rw [e_tablehere11]
  obtain ⟨t12, e_t12, h⟩ := mb_ok h; have e_t12 := oM_ok e_t12
  obtain ⟨_, e_u13, h⟩ := mb_ok h; have e_u13 := of_decide_eq_true (chk_ok e_u13)
  obtain ⟨tablehere14, e_tablehere14, h⟩ := mb_ok h; have e_tablehere14 := ok_inj e_tablehere14
  refine q_pput (xs := tablehere11) (x := ([] : (List Str))) (k := (t7.1, some t12)) (by rfl) ?_ ?_ rfl (by assumption) ?_
  · walk_at "ev"
  · walk_at "ev"
  rw [e_tablehere14]
  obtain ⟨o17, hm, h⟩ := mb_ok h
  refine q_forF (G' := ([rc (rQ K rI) script1, rc (rL (rP K rS (rT K rS))) t4, rc (rL (rP K rS (rT K rS))) t5, some (.ow (npd P w K (rT K rS)) tablehere14), some (.ow (nRec K (cA K "Reader") (fA (fA fN "first" (fz K rS)) "entries" (npd P w K (rT K rS)))) t9), none, none, none, none, none] : Cells K)) (r := rI) (R := (fz K rB)) (f := (fun (s15 : Unit) (x16 : Int) => mb (m__law_cell script1 ((3 : Int) + x16)) fun t18 => mb (m__law_draws t18 (8 : Int)) fun t19 => mb (m__law_run t5 t19) fun t20 => mb (m__law_walk t5 t20) fun t21 => mb (mforF (fun (s22 : Unit) (x23 : Int) => mb (oM t21) fun z25 => mb (m_Reader___call__ t9 z25) fun t26 => bif ((!true) || (!(eqB t26 t20))) then .ok (.rt false) else .ok (.nx ())) () (ups (2 : Int).toNat) : M (Fl Unit Bool)) fun o24 => Fl.go o24 (fun (s22 : Unit) => .ok (.nx ())) (fun x => .ok (.rt x)) (fun _ => .error .stuck))) (s0 := ()) (o := o17) (fun (s15 : Unit) => ([rc (rQ K rI) script1, rc (rL (rP K rS (rT K rS))) t4, rc (rL (rP K rS (rT K rS))) t5, some (.ow (npd P w K (rT K rS)) tablehere14), some (.ow (nRec K (cA K "Reader") (fA (fA fN "first" (fz K rS)) "entries" (npd P w K (rT K rS)))) t9), none, none, none, none, none] : Cells K)) hm ?_ (.keep (.keep (.keep (.keep (.keep (.keep (.keep (.keep (.keep (.keep .nil)))))))))) (fun s15 e => ?_) (fun x e => ?_) (fun H0' D' e0 x16 s15 o' h hD => ⟨_, tg_name, ?_⟩)
  · refine wk_rng1 ?_ ?_
    · walk_at "ev"
    · first | assumption | omega
  · subst e; have h := go_nx h
    cases h
    refine r_ret hD ?_
    walk_at "ev"
  · subst e; have h := go_rt h; cases h; exact hD
  · obtain ⟨t18, e_t18, h⟩ := mb_ok h
    obtain ⟨t19, e_t19, h⟩ := mb_ok h
    obtain ⟨t20, e_t20, h⟩ := mb_ok h
    refine q_set (r := (rT K (rP K rS (rT K rS)))) (b := t20) (b' := t20) ?_ rfl ?_
    · walk_at "ev"
    obtain ⟨t21, e_t21, h⟩ := mb_ok h
    refine q_set (r := (rO (rT K rS))) (b := t21) (b' := t21) ?_ rfl ?_
    · walk_at "ev"
    obtain ⟨o24, hm, h⟩ := mb_ok h
    refine l_forF (G' := ([rc (rQ K rI) script1, rc (rL (rP K rS (rT K rS))) t4, rc (rL (rP K rS (rT K rS))) t5, some (.ow (npd P w K (rT K rS)) tablehere14), some (.ow (nRec K (cA K "Reader") (fA (fA fN "first" (fz K rS)) "entries" (npd P w K (rT K rS)))) t9), fc rI x16, fc (rT K (rP K rS (rT K rS))) t20, fc (rO (rT K rS)) t21, none, none] : Cells K)) (r := rI) (R := (fz K rB)) (f := (fun (s22 : Unit) (x23 : Int) => mb (oM t21) fun z25 => mb (m_Reader___call__ t9 z25) fun t26 => bif ((!true) || (!(eqB t26 t20))) then .ok (.rt false) else .ok (.nx ()))) (s0 := ()) (o := o24) (fun (s22 : Unit) => ([rc (rQ K rI) script1, rc (rL (rP K rS (rT K rS))) t4, rc (rL (rP K rS (rT K rS))) t5, some (.ow (npd P w K (rT K rS)) tablehere14), some (.ow (nRec K (cA K "Reader") (fA (fA fN "first" (fz K rS)) "entries" (npd P w K (rT K rS)))) t9), fc rI x16, fc (rT K (rP K rS (rT K rS))) t20, fc (rO (rT K rS)) t21, none, none] : Cells K)) hm ?_ (.keep (.keep (.keep (.keep (.keep (.keep (.keep (.keep (.keep (.keep .nil)))))))))) (fun s22 e => ?_) (fun x e => ?_) (fun H0' D' e0 x23 s22 o' h hD => ⟨_, tg_name, ?_⟩)
    · refine wk_rng1 ?_ ?_
      · walk_at "ev"
      · first | assumption | omega
    · subst e; have h := go_nx h
      cases h
      exact fun σ H hv => hD σ H (hv.less (.keep (.keep (.keep (.keep (.keep (.drop (.drop (.drop (.keep (.keep .nil)))))))))))
    · subst e; have h := go_rt h; cases h; exact hD
    · obtain ⟨z25, e_z25, h⟩ := mb_ok h; have e_z25 := oM_ok e_z25
      obtain ⟨t26, e_t26, h⟩ := mb_ok h
      refine q_set (r := (rT K (rP K rS (rT K rS)))) (b := t26) (b' := t26) ?_ rfl ?_
      · walk_at "ev"
      refine l_if (c := ((!true) || (!(eqB t26 t20)))) ?_ ?_ ?_
      · walk_at "ev"
      · intro hc; have h := bif_t h hc
        cases h
        refine r_ret hD ?_
        walk_at "ev"
      · intro hc; have h := bif_f h hc
        cases h
        exact fun σ H hv => hD σ H (hv.less (.keep (.keep (.keep (.keep (.keep (.keep (.keep (.keep (.drop (.drop .nil)))))))))))
theorem all_mk {l : PySem.W.OpenLaw} {w : World} {K : PySem.W.Frag} {h : Heap} {mg : Str → Option Value} {fa : Addr} {C0 : Addr} {f0 : Addr} {od0 an0 : Option Addr} {sl0 : Array (Option Value)} {oc0 kV0 dc0 pm0 cd0 ct0 : Value} {f1 : Addr} {od1 an1 : Option Addr} {sl1 : Array (Option Value)} {oc1 kV1 dc1 pm1 cd1 ct1 : Value} {f2 : Addr} {od2 an2 : Option Addr} {sl2 : Array (Option Value)} {oc2 kV2 dc2 pm2 cd2 ct2 : Value} {f3 : Addr} {od3 an3 : Option Addr} {sl3 : Array (Option Value)} {oc3 kV3 dc3 pm3 cd3 ct3 : Value} {f4 : Addr} {od4 an4 : Option Addr} {sl4 : Array (Option Value)} {oc4 kV4 dc4 pm4 cd4 ct4 : Value} {f5 : Addr} {od5 an5 : Option Addr} {sl5 : Array (Option Value)} {oc5 kV5 dc5 pm5 cd5 ct5 : Value} {f6 : Addr} {od6 an6 : Option Addr} {sl6 : Array (Option Value)} {oc6 kV6 dc6 pm6 cd6 ct6 : Value} {f7 : Addr} {od7 an7 : Option Addr} {sl7 : Array (Option Value)} {oc7 kV7 dc7 pm7 cd7 ct7 : Value} {f8 : Addr} {od8 an8 : Option Addr} {sl8 : Array (Option Value)} {oc8 kV8 dc8 pm8 cd8 ct8 : Value} {f9 : Addr} {od9 an9 : Option Addr} {sl9 : Array (Option Value)} {oc9 kV9 dc9 pm9 cd9 ct9 : Value} {f10 : Addr} {od10 an10 : Option Addr} {sl10 : Array (Option Value)} {oc10 kV10 dc10 pm10 cd10 ct10 : Value} {f11 : Addr} {od11 an11 : Option Addr} {sl11 : Array (Option Value)} {oc11 kV11 dc11 pm11 cd11 ct11 : Value} {f12 : Addr} {od12 an12 : Option Addr} {sl12 : Array (Option Value)} {oc12 kV12 dc12 pm12 cd12 ct12 : Value} {f13 : Addr} {od13 an13 : Option Addr} {sl13 : Array (Option Value)} {oc13 kV13 dc13 pm13 cd13 ct13 : Value} {f14 : Addr} {od14 an14 : Option Addr} {sl14 : Array (Option Value)} {oc14 kV14 dc14 pm14 cd14 ct14 : Value} {f15 : Addr} {od15 an15 : Option Addr} {sl15 : Array (Option Value)} {oc15 kV15 dc15 pm15 cd15 ct15 : Value} {f16 : Addr} {od16 an16 : Option Addr} {sl16 : Array (Option Value)} {oc16 kV16 dc16 pm16 cd16 ct16 : Value} {f17 : Addr} {od17 an17 : Option Addr} {sl17 : Array (Option Value)} {oc17 kV17 dc17 pm17 cd17 ct17 : Value} {f18 : Addr} {od18 an18 : Option Addr} {sl18 : Array (Option Value)} {oc18 kV18 dc18 pm18 cd18 ct18 : Value} {f19 : Addr} {od19 an19 : Option Addr} {sl19 : Array (Option Value)} {oc19 kV19 dc19 pm19 cd19 ct19 : Value} {f20 : Addr} {od20 an20 : Option Addr} {sl20 : Array (Option Value)} {oc20 kV20 dc20 pm20 cd20 ct20 : Value} {f21 : Addr} {od21 an21 : Option Addr} {sl21 : Array (Option Value)} {oc21 kV21 dc21 pm21 cd21 ct21 : Value} {f22 : Addr} {od22 an22 : Option Addr} {sl22 : Array (Option Value)} {oc22 kV22 dc22 pm22 cd22 ct22 : Value} {f23 : Addr} {od23 an23 : Option Addr} {sl23 : Array (Option Value)} {oc23 kV23 dc23 pm23 cd23 ct23 : Value} {f24 : Addr} {od24 an24 : Option Addr} {sl24 : Array (Option Value)} {oc24 kV24 dc24 pm24 cd24 ct24 : Value} {f25 : Addr} {od25 an25 : Option Addr} {sl25 : Array (Option Value)} {oc25 kV25 dc25 pm25 cd25 ct25 : Value} {f26 : Addr} {od26 an26 : Option Addr} {sl26 : Array (Option Value)} {oc26 kV26 dc26 pm26 cd26 ct26 : Value} (X : K.In h) (G : h.Ns mainGlobals mg) (hfa : mg "law" = some (.ref fa))
    (aC0 : PySem.W.nsIn K mainGlobals "Reader" = some (some (.ref C0)))
    (pg0 : PySem.W.plainGet K C0 Str.empty = true)
    (hd0 : PySem.W.hasDictIn K C0 = true)
    (po0 : PySem.W.plainOver K C0 = true)
    (sa0 : PySem.W.findIn K (.ref C0) "__setattr__" = some (some (.builtin "object.__setattr__")))
    (sf0 : PySem.W.selfFirst K C0 = true)
    (nq0 : PySem.W.noSeq K C0 = true)
    (mk0 : PySem.W.makesIn K C0 = true)
    (kc0 : PySem.W.keepIn K (.ref C0) = true)
    (na0 : PySem.W.findIn K (.ref C0) "first" = some none)
    (na1 : PySem.W.findIn K (.ref C0) "entries" = some none)
    (a0 : PySem.W.nsIn K mainGlobals "advance" = some (some (.ref f0)))
    (l0 : K.lookup f0 = some ⟨oc0, od0, .func (PySem.W.fnOf "advance" "advance" (defArgs s_advance) (defBody s_advance) (defScope s_advance) .none kV0 dc0 pm0 an0 cd0 ct0), sl0⟩)
    (c0 : PySem.W.codeIn K cd0 "advance" = true)
    (k0 : PySem.W.keepIn K (.ref f0) = true)
    (a1 : PySem.W.nsIn K mainGlobals "finish" = some (some (.ref f1)))
    (l1 : K.lookup f1 = some ⟨oc1, od1, .func (PySem.W.fnOf "finish" "finish" (defArgs s_finish) (defBody s_finish) (defScope s_finish) .none kV1 dc1 pm1 an1 cd1 ct1), sl1⟩)
    (c1 : PySem.W.codeIn K cd1 "finish" = true)
    (k1 : PySem.W.keepIn K (.ref f1) = true)
    (a2 : PySem.W.nsIn K mainGlobals "read" = some (some (.ref f2)))
    (l2 : K.lookup f2 = some ⟨oc2, od2, .func (PySem.W.fnOf "read" "read" (defArgs s_read) (defBody s_read) (defScope s_read) .none kV2 dc2 pm2 an2 cd2 ct2), sl2⟩)
    (c2 : PySem.W.codeIn K cd2 "read" = true)
    (k2 : PySem.W.keepIn K (.ref f2) = true)
    (a3 : PySem.W.nsIn K mainGlobals "_law_cell" = some (some (.ref f3)))
    (l3 : K.lookup f3 = some ⟨oc3, od3, .func (PySem.W.fnOf "_law_cell" "_law_cell" (defArgs s__law_cell) (defBody s__law_cell) (defScope s__law_cell) .none kV3 dc3 pm3 an3 cd3 ct3), sl3⟩)
    (c3 : PySem.W.codeIn K cd3 "_law_cell" = true)
    (k3 : PySem.W.keepIn K (.ref f3) = true)
    (a4 : PySem.W.nsIn K mainGlobals "_law_draws" = some (some (.ref f4)))
    (l4 : K.lookup f4 = some ⟨oc4, od4, .func (PySem.W.fnOf "_law_draws" "_law_draws" (defArgs s__law_draws) (defBody s__law_draws) (defScope s__law_draws) .none kV4 dc4 pm4 an4 cd4 ct4), sl4⟩)
    (c4 : PySem.W.codeIn K cd4 "_law_draws" = true)
    (k4 : PySem.W.keepIn K (.ref f4) = true)
    (a5 : PySem.W.nsIn K mainGlobals "_law_name" = some (some (.ref f5)))
    (l5 : K.lookup f5 = some ⟨oc5, od5, .func (PySem.W.fnOf "_law_name" "_law_name" (defArgs s__law_name) (defBody s__law_name) (defScope s__law_name) .none kV5 dc5 pm5 an5 cd5 ct5), sl5⟩)
    (c5 : PySem.W.codeIn K cd5 "_law_name" = true)
    (k5 : PySem.W.keepIn K (.ref f5) = true)
    (a6 : PySem.W.nsIn K mainGlobals "_law_is_token" = some (some (.ref f6)))
    (l6 : K.lookup f6 = some ⟨oc6, od6, .func (PySem.W.fnOf "_law_is_token" "_law_is_token" (defArgs s__law_is_token) (defBody s__law_is_token) (defScope s__law_is_token) .none kV6 dc6 pm6 an6 cd6 ct6), sl6⟩)
    (c6 : PySem.W.codeIn K cd6 "_law_is_token" = true)
    (k6 : PySem.W.keepIn K (.ref f6) = true)
    (a7 : PySem.W.nsIn K mainGlobals "_law_put" = some (some (.ref f7)))
    (l7 : K.lookup f7 = some ⟨oc7, od7, .func (PySem.W.fnOf "_law_put" "_law_put" (defArgs s__law_put) (defBody s__law_put) (defScope s__law_put) .none kV7 dc7 pm7 an7 cd7 ct7), sl7⟩)
    (c7 : PySem.W.codeIn K cd7 "_law_put" = true)
    (k7 : PySem.W.keepIn K (.ref f7) = true)
    (a8 : PySem.W.nsIn K mainGlobals "_law_empty" = some (some (.ref f8)))
    (l8 : K.lookup f8 = some ⟨oc8, od8, .func (PySem.W.fnOf "_law_empty" "_law_empty" (defArgs s__law_empty) (defBody s__law_empty) (defScope s__law_empty) .none kV8 dc8 pm8 an8 cd8 ct8), sl8⟩)
    (c8 : PySem.W.codeIn K cd8 "_law_empty" = true)
    (k8 : PySem.W.keepIn K (.ref f8) = true)
    (a9 : PySem.W.nsIn K mainGlobals "_law_first" = some (some (.ref f9)))
    (l9 : K.lookup f9 = some ⟨oc9, od9, .func (PySem.W.fnOf "_law_first" "_law_first" (defArgs s__law_first) (defBody s__law_first) (defScope s__law_first) .none kV9 dc9 pm9 an9 cd9 ct9), sl9⟩)
    (c9 : PySem.W.codeIn K cd9 "_law_first" = true)
    (k9 : PySem.W.keepIn K (.ref f9) = true)
    (a10 : PySem.W.nsIn K mainGlobals "_law_sets" = some (some (.ref f10)))
    (l10 : K.lookup f10 = some ⟨oc10, od10, .func (PySem.W.fnOf "_law_sets" "_law_sets" (defArgs s__law_sets) (defBody s__law_sets) (defScope s__law_sets) .none kV10 dc10 pm10 an10 cd10 ct10), sl10⟩)
    (c10 : PySem.W.codeIn K cd10 "_law_sets" = true)
    (k10 : PySem.W.keepIn K (.ref f10) = true)
    (a11 : PySem.W.nsIn K mainGlobals "_law_meet" = some (some (.ref f11)))
    (l11 : K.lookup f11 = some ⟨oc11, od11, .func (PySem.W.fnOf "_law_meet" "_law_meet" (defArgs s__law_meet) (defBody s__law_meet) (defScope s__law_meet) .none kV11 dc11 pm11 an11 cd11 ct11), sl11⟩)
    (c11 : PySem.W.codeIn K cd11 "_law_meet" = true)
    (k11 : PySem.W.keepIn K (.ref f11) = true)
    (a12 : PySem.W.nsIn K mainGlobals "_law_clashes" = some (some (.ref f12)))
    (l12 : K.lookup f12 = some ⟨oc12, od12, .func (PySem.W.fnOf "_law_clashes" "_law_clashes" (defArgs s__law_clashes) (defBody s__law_clashes) (defScope s__law_clashes) .none kV12 dc12 pm12 an12 cd12 ct12), sl12⟩)
    (c12 : PySem.W.codeIn K cd12 "_law_clashes" = true)
    (k12 : PySem.W.keepIn K (.ref f12) = true)
    (a13 : PySem.W.nsIn K mainGlobals "_law_offers" = some (some (.ref f13)))
    (l13 : K.lookup f13 = some ⟨oc13, od13, .func (PySem.W.fnOf "_law_offers" "_law_offers" (defArgs s__law_offers) (defBody s__law_offers) (defScope s__law_offers) .none kV13 dc13 pm13 an13 cd13 ct13), sl13⟩)
    (c13 : PySem.W.codeIn K cd13 "_law_offers" = true)
    (k13 : PySem.W.keepIn K (.ref f13) = true)
    (a14 : PySem.W.nsIn K mainGlobals "_law_host" = some (some (.ref f14)))
    (l14 : K.lookup f14 = some ⟨oc14, od14, .func (PySem.W.fnOf "_law_host" "_law_host" (defArgs s__law_host) (defBody s__law_host) (defScope s__law_host) .none kV14 dc14 pm14 an14 cd14 ct14), sl14⟩)
    (c14 : PySem.W.codeIn K cd14 "_law_host" = true)
    (k14 : PySem.W.keepIn K (.ref f14) = true)
    (a15 : PySem.W.nsIn K mainGlobals "_law_heads" = some (some (.ref f15)))
    (l15 : K.lookup f15 = some ⟨oc15, od15, .func (PySem.W.fnOf "_law_heads" "_law_heads" (defArgs s__law_heads) (defBody s__law_heads) (defScope s__law_heads) .none kV15 dc15 pm15 an15 cd15 ct15), sl15⟩)
    (c15 : PySem.W.codeIn K cd15 "_law_heads" = true)
    (k15 : PySem.W.keepIn K (.ref f15) = true)
    (a16 : PySem.W.nsIn K mainGlobals "_law_tokens" = some (some (.ref f16)))
    (l16 : K.lookup f16 = some ⟨oc16, od16, .func (PySem.W.fnOf "_law_tokens" "_law_tokens" (defArgs s__law_tokens) (defBody s__law_tokens) (defScope s__law_tokens) .none kV16 dc16 pm16 an16 cd16 ct16), sl16⟩)
    (c16 : PySem.W.codeIn K cd16 "_law_tokens" = true)
    (k16 : PySem.W.keepIn K (.ref f16) = true)
    (a17 : PySem.W.nsIn K mainGlobals "_law_tail" = some (some (.ref f17)))
    (l17 : K.lookup f17 = some ⟨oc17, od17, .func (PySem.W.fnOf "_law_tail" "_law_tail" (defArgs s__law_tail) (defBody s__law_tail) (defScope s__law_tail) .none kV17 dc17 pm17 an17 cd17 ct17), sl17⟩)
    (c17 : PySem.W.codeIn K cd17 "_law_tail" = true)
    (k17 : PySem.W.keepIn K (.ref f17) = true)
    (a18 : PySem.W.nsIn K mainGlobals "_law_inner" = some (some (.ref f18)))
    (l18 : K.lookup f18 = some ⟨oc18, od18, .func (PySem.W.fnOf "_law_inner" "_law_inner" (defArgs s__law_inner) (defBody s__law_inner) (defScope s__law_inner) .none kV18 dc18 pm18 an18 cd18 ct18), sl18⟩)
    (c18 : PySem.W.codeIn K cd18 "_law_inner" = true)
    (k18 : PySem.W.keepIn K (.ref f18) = true)
    (a19 : PySem.W.nsIn K mainGlobals "_law_guest" = some (some (.ref f19)))
    (l19 : K.lookup f19 = some ⟨oc19, od19, .func (PySem.W.fnOf "_law_guest" "_law_guest" (defArgs s__law_guest) (defBody s__law_guest) (defScope s__law_guest) .none kV19 dc19 pm19 an19 cd19 ct19), sl19⟩)
    (c19 : PySem.W.codeIn K cd19 "_law_guest" = true)
    (k19 : PySem.W.keepIn K (.ref f19) = true)
    (a20 : PySem.W.nsIn K mainGlobals "_law_table" = some (some (.ref f20)))
    (l20 : K.lookup f20 = some ⟨oc20, od20, .func (PySem.W.fnOf "_law_table" "_law_table" (defArgs s__law_table) (defBody s__law_table) (defScope s__law_table) .none kV20 dc20 pm20 an20 cd20 ct20), sl20⟩)
    (c20 : PySem.W.codeIn K cd20 "_law_table" = true)
    (k20 : PySem.W.keepIn K (.ref f20) = true)
    (a21 : PySem.W.nsIn K mainGlobals "_law_run" = some (some (.ref f21)))
    (l21 : K.lookup f21 = some ⟨oc21, od21, .func (PySem.W.fnOf "_law_run" "_law_run" (defArgs s__law_run) (defBody s__law_run) (defScope s__law_run) .none kV21 dc21 pm21 an21 cd21 ct21), sl21⟩)
    (c21 : PySem.W.codeIn K cd21 "_law_run" = true)
    (k21 : PySem.W.keepIn K (.ref f21) = true)
    (a22 : PySem.W.nsIn K mainGlobals "_law_walk" = some (some (.ref f22)))
    (l22 : K.lookup f22 = some ⟨oc22, od22, .func (PySem.W.fnOf "_law_walk" "_law_walk" (defArgs s__law_walk) (defBody s__law_walk) (defScope s__law_walk) .none kV22 dc22 pm22 an22 cd22 ct22), sl22⟩)
    (c22 : PySem.W.codeIn K cd22 "_law_walk" = true)
    (k22 : PySem.W.keepIn K (.ref f22) = true)
    (a23 : PySem.W.nsIn K mainGlobals "_law_union" = some (some (.ref f23)))
    (l23 : K.lookup f23 = some ⟨oc23, od23, .func (PySem.W.fnOf "_law_union" "_law_union" (defArgs s__law_union) (defBody s__law_union) (defScope s__law_union) .none kV23 dc23 pm23 an23 cd23 ct23), sl23⟩)
    (c23 : PySem.W.codeIn K cd23 "_law_union" = true)
    (k23 : PySem.W.keepIn K (.ref f23) = true)
    (a24 : PySem.W.nsIn K mainGlobals "law" = some (some (.ref f24)))
    (l24 : K.lookup f24 = some ⟨oc24, od24, .func (PySem.W.fnOf "law" "law" (defArgs s_law) (defBody s_law) (defScope s_law) .none kV24 dc24 pm24 an24 cd24 ct24), sl24⟩)
    (c24 : PySem.W.codeIn K cd24 "law" = true)
    (k24 : PySem.W.keepIn K (.ref f24) = true)
    (a25 : PySem.W.findIn K (.ref C0) "__init__" = some (some (.ref f25)))
    (i25 : PySem.W.isFn K (.ref f25) = true)
    (l25 : K.lookup f25 = some ⟨oc25, od25, .func (PySem.W.fnOf "__init__" "Reader.__init__" (defArgs s_Reader___init__) (defBody s_Reader___init__) (defScope s_Reader___init__) .none kV25 dc25 pm25 an25 cd25 ct25), sl25⟩)
    (c25 : PySem.W.codeIn K cd25 "Reader.__init__" = true)
    (k25 : PySem.W.keepIn K (.ref f25) = true)
    (a26 : PySem.W.findIn K (.ref C0) "__call__" = some (some (.ref f26)))
    (i26 : PySem.W.isFn K (.ref f26) = true)
    (l26 : K.lookup f26 = some ⟨oc26, od26, .func (PySem.W.fnOf "__call__" "Reader.__call__" (defArgs s_Reader___call__) (defBody s_Reader___call__) (defScope s_Reader___call__) .none kV26 dc26 pm26 an26 cd26 ct26), sl26⟩)
    (c26 : PySem.W.codeIn K cd26 "Reader.__call__" = true)
    (k26 : PySem.W.keepIn K (.ref f26) = true)
    (z0 : PySem.W.nsIn K mainGlobals "tuple" = some none)
    (z1 : PySem.W.nsIn K mainGlobals "len" = some none)
    (z2 : PySem.W.nsIn K mainGlobals "range" = some none)
    (z3 : PySem.W.nsIn K mainGlobals "int" = some none)
    (z4 : PySem.W.nsIn K mainGlobals "list" = some none)
    (z5 : PySem.W.nsIn K mainGlobals "isinstance" = some none)
    : ∃ fd : FuncData, (∀ (s : Shared) (v : Value), BindsTo s fd ⟨[v], []⟩ [("_law_script", v)]) ∧ ∀ base : Heap, K.In base → base.Ns mainGlobals mg → FnOk l.prog w K mg base CX0 6 fa fd ["_law_script"] (sp_law K) := by
  have e := hfa.symm.trans (PySem.W.mg_of X G a24)
  cases e
  refine ⟨PySem.W.fnOf "law" "law" (defArgs s_law) (defBody s_law) (defScope s_law) .none kV24 dc24 pm24 an24 cd24 ct24, fun s v => .of_eq rfl, fun base _ _ => ?_⟩
  have eC0 := cA_eq aC0
  subst eC0
  have K_Reader : ClsF K mg "Reader" := ⟨⟨pg0, hd0, po0, sa0⟩, PySem.W.mg_of X G aC0, sf0, nq0, mk0, kc0⟩
  have N_Reader_first : NoAttr K (cA K "Reader") "first" := na0
  have N_Reader_entries : NoAttr K (cA K "Reader") "entries" := na1
  have B_tuple := PySem.W.mg_none_of X G z0
  have B_len := PySem.W.mg_none_of X G z1
  have B_range := PySem.W.mg_none_of X G z2
  have B_int := PySem.W.mg_none_of X G z3
  have B_list := PySem.W.mg_none_of X G z4
  have B_isinstance := PySem.W.mg_none_of X G z5
  have D_advance : Df K mg "advance" s_advance := ⟨f0, _, fun_mk (st := s_advance) l0 c0 k0, PySem.W.mg_of X G a0⟩
  have D_finish : Df K mg "finish" s_finish := ⟨f1, _, fun_mk (st := s_finish) l1 c1 k1, PySem.W.mg_of X G a1⟩
  have D_read : Df K mg "read" s_read := ⟨f2, _, fun_mk (st := s_read) l2 c2 k2, PySem.W.mg_of X G a2⟩
  have D__law_cell : Df K mg "_law_cell" s__law_cell := ⟨f3, _, fun_mk (st := s__law_cell) l3 c3 k3, PySem.W.mg_of X G a3⟩
  have D__law_draws : Df K mg "_law_draws" s__law_draws := ⟨f4, _, fun_mk (st := s__law_draws) l4 c4 k4, PySem.W.mg_of X G a4⟩
  have D__law_name : Df K mg "_law_name" s__law_name := ⟨f5, _, fun_mk (st := s__law_name) l5 c5 k5, PySem.W.mg_of X G a5⟩
  have D__law_is_token : Df K mg "_law_is_token" s__law_is_token := ⟨f6, _, fun_mk (st := s__law_is_token) l6 c6 k6, PySem.W.mg_of X G a6⟩
  have D__law_put : Df K mg "_law_put" s__law_put := ⟨f7, _, fun_mk (st := s__law_put) l7 c7 k7, PySem.W.mg_of X G a7⟩
  have D__law_empty : Df K mg "_law_empty" s__law_empty := ⟨f8, _, fun_mk (st := s__law_empty) l8 c8 k8, PySem.W.mg_of X G a8⟩
  have D__law_first : Df K mg "_law_first" s__law_first := ⟨f9, _, fun_mk (st := s__law_first) l9 c9 k9, PySem.W.mg_of X G a9⟩
  have D__law_sets : Df K mg "_law_sets" s__law_sets := ⟨f10, _, fun_mk (st := s__law_sets) l10 c10 k10, PySem.W.mg_of X G a10⟩
  have D__law_meet : Df K mg "_law_meet" s__law_meet := ⟨f11, _, fun_mk (st := s__law_meet) l11 c11 k11, PySem.W.mg_of X G a11⟩
  have D__law_clashes : Df K mg "_law_clashes" s__law_clashes := ⟨f12, _, fun_mk (st := s__law_clashes) l12 c12 k12, PySem.W.mg_of X G a12⟩
  have D__law_offers : Df K mg "_law_offers" s__law_offers := ⟨f13, _, fun_mk (st := s__law_offers) l13 c13 k13, PySem.W.mg_of X G a13⟩
  have D__law_host : Df K mg "_law_host" s__law_host := ⟨f14, _, fun_mk (st := s__law_host) l14 c14 k14, PySem.W.mg_of X G a14⟩
  have D__law_heads : Df K mg "_law_heads" s__law_heads := ⟨f15, _, fun_mk (st := s__law_heads) l15 c15 k15, PySem.W.mg_of X G a15⟩
  have D__law_tokens : Df K mg "_law_tokens" s__law_tokens := ⟨f16, _, fun_mk (st := s__law_tokens) l16 c16 k16, PySem.W.mg_of X G a16⟩
  have D__law_tail : Df K mg "_law_tail" s__law_tail := ⟨f17, _, fun_mk (st := s__law_tail) l17 c17 k17, PySem.W.mg_of X G a17⟩
  have D__law_inner : Df K mg "_law_inner" s__law_inner := ⟨f18, _, fun_mk (st := s__law_inner) l18 c18 k18, PySem.W.mg_of X G a18⟩
  have D__law_guest : Df K mg "_law_guest" s__law_guest := ⟨f19, _, fun_mk (st := s__law_guest) l19 c19 k19, PySem.W.mg_of X G a19⟩
  have D__law_table : Df K mg "_law_table" s__law_table := ⟨f20, _, fun_mk (st := s__law_table) l20 c20 k20, PySem.W.mg_of X G a20⟩
  have D__law_run : Df K mg "_law_run" s__law_run := ⟨f21, _, fun_mk (st := s__law_run) l21 c21 k21, PySem.W.mg_of X G a21⟩
  have D__law_walk : Df K mg "_law_walk" s__law_walk := ⟨f22, _, fun_mk (st := s__law_walk) l22 c22 k22, PySem.W.mg_of X G a22⟩
  have D__law_union : Df K mg "_law_union" s__law_union := ⟨f23, _, fun_mk (st := s__law_union) l23 c23 k23, PySem.W.mg_of X G a23⟩
  have D_Reader___init__ : DfE K (cA K "Reader") "__init__" "Reader.__init__" s_Reader___init__ 0 := ⟨f25, _, ⟨⟨_, _, _, _, _, _, _, _, _, _, rfl, l25, c25, .inl ⟨rfl, rfl⟩⟩, k25⟩, a25, i25⟩
  have D_Reader___call__ : DfE K (cA K "Reader") "__call__" "Reader.__call__" s_Reader___call__ 0 := ⟨f26, _, ⟨⟨_, _, _, _, _, _, _, _, _, _, rfl, l26, c26, .inl ⟨rfl, rfl⟩⟩, k26⟩, a26, i26⟩
  have C__law_cell : Cal l.prog w K mg base CX0 "_law_cell" 1 p__law_cell (sp__law_cell K) := c__law_cell D__law_cell B_len B_int
  have C__law_draws : Cal l.prog w K mg base CX0 "_law_draws" 1 p__law_draws (sp__law_draws K) := c__law_draws D__law_draws B_int B_range
  have C__law_name : Cal l.prog w K mg base CX0 "_law_name" 1 p__law_name (sp__law_name K) := c__law_name D__law_name B_int
  have C__law_offers : Cal l.prog w K mg base CX0 "_law_offers" 1 p__law_offers (sp__law_offers K) := c__law_offers D__law_offers B_range B_int B_len
  have C__law_empty : Cal l.prog w K mg base CX0 "_law_empty" 1 p__law_empty (sp__law_empty K) := c__law_empty D__law_empty B_len
  have C__law_put : Cal l.prog w K mg base CX0 "_law_put" 1 p__law_put (sp__law_put K) := c__law_put D__law_put 
  have C__law_is_token : Cal l.prog w K mg base CX0 "_law_is_token" 1 p__law_is_token (sp__law_is_token K) := c__law_is_token D__law_is_token 
  have C__law_first : Cal l.prog w K mg base CX0 "_law_first" 2 p__law_first (sp__law_first K) := c__law_first D__law_first C__law_is_token C__law_put
  have C__law_sets : Cal l.prog w K mg base CX0 "_law_sets" 3 p__law_sets (sp__law_sets K) := c__law_sets D__law_sets B_range B_list B_len C__law_empty C__law_put C__law_first C__law_is_token
  have C__law_meet : Cal l.prog w K mg base CX0 "_law_meet" 3 p__law_meet (sp__law_meet K) := c__law_meet D__law_meet B_len C__law_first C__law_empty
  have C__law_host : Cal l.prog w K mg base CX0 "_law_host" 4 p__law_host (sp__law_host K) := c__law_host D__law_host B_int B_range B_len C__law_name C__law_offers C__law_sets C__law_meet
  have C__law_tokens : Cal l.prog w K mg base CX0 "_law_tokens" 2 p__law_tokens (sp__law_tokens K) := c__law_tokens D__law_tokens C__law_is_token
  have C__law_heads : Cal l.prog w K mg base CX0 "_law_heads" 1 p__law_heads (sp__law_heads K) := c__law_heads D__law_heads 
  have C__law_tail : Cal l.prog w K mg base CX0 "_law_tail" 1 p__law_tail (sp__law_tail K) := c__law_tail D__law_tail B_int B_len
  have C__law_inner : Cal l.prog w K mg base CX0 "_law_inner" 2 p__law_inner (sp__law_inner K) := c__law_inner D__law_inner B_int B_len B_range C__law_tail
  have C__law_guest : Cal l.prog w K mg base CX0 "_law_guest" 3 p__law_guest (sp__law_guest K) := c__law_guest D__law_guest B_int B_range B_len C__law_name C__law_tokens C__law_heads C__law_tail C__law_inner
  have C__law_clashes : Cal l.prog w K mg base CX0 "_law_clashes" 4 p__law_clashes (sp__law_clashes K) := c__law_clashes D__law_clashes B_len B_range C__law_sets C__law_meet
  have C__law_union : Cal l.prog w K mg base CX0 "_law_union" 5 p__law_union (sp__law_union K) := c__law_union D__law_union C__law_cell C__law_draws C__law_guest C__law_clashes
  have C__law_table : Cal l.prog w K mg base CX0 "_law_table" 4 p__law_table (sp__law_table l.prog w K) := c__law_table D__law_table C__law_sets C__law_first C__law_empty
  have I_Reader : CalI l.prog w K mg base (L2.CX l.prog w) (cA K "Reader") 1 p_Reader___init__ (sp_Reader___init__ l.prog w K) := c_Reader___init__ D_Reader___init__ K_Reader N_Reader_first N_Reader_entries
  have C__law_run : Cal l.prog w K mg base CX0 "_law_run" 2 p__law_run (sp__law_run K) := c__law_run D__law_run B_len B_int B_range B_tuple C__law_is_token
  have C__law_walk : Cal l.prog w K mg base CX0 "_law_walk" 2 p__law_walk (sp__law_walk K) := c__law_walk D__law_walk B_tuple B_isinstance B_len B_range C__law_is_token
  have C_advance : Cal l.prog w K mg base CX0 "advance" 1 p_advance (sp_advance l.prog w K) := c_advance D_advance B_tuple
  have C_read : Cal l.prog w K mg base CX0 "read" 2 p_read (sp_read l.prog w K) := c_read D_read B_len B_range C_advance
  have C_finish : Cal l.prog w K mg base CX0 "finish" 1 p_finish (sp_finish l.prog w K) := c_finish D_finish B_tuple
  have CO_Reader : CalO l.prog w K mg base CX0 (cA K "Reader") 3 p_Reader___call__ (sp_Reader___call__ l.prog w K) := c_Reader___call__ D_Reader___call__ B_len B_tuple K_Reader N_Reader_entries N_Reader_first C_read C_finish
  exact c_law (fun_mk (st := s_law) l24 c24 k24) B_range B_tuple B_isinstance K_Reader I_Reader CO_Reader C__law_cell C__law_draws C__law_host C__law_union C__law_table C__law_run C__law_walk
set_option maxHeartbeats 0 in
theorem heads {w : World} {K : PySem.W.Frag} {h : Heap} {mg : Str → Option Value} {fa : Addr} (X : K.In h) (G : h.Ns mainGlobals mg) (hfa : mg "law" = some (.ref fa)) (c : SaysY (fun K => (gbs K).all id) dts K) :
    ∃ fd : FuncData, (∀ (s : Shared) (v : Value), BindsTo s fd ⟨[v], []⟩ [("_law_script", v)]) ∧ ∀ base : Heap, K.In base → base.Ns mainGlobals mg → FnOk PySem.Challenge.rw_guesttongues_k32_whole_reads_runs.prog w K mg base CX0 6 fa fd ["_law_script"] (sp_law K) := by
  have b0 : (gb0 K).all id = true := c.fact (fa := gbs) 0 rfl
  have b1 : (gb1 K).all id = true := c.fact (fa := gbs) 1 rfl
  have b2 : (gb2 K).all id = true := c.fact (fa := gbs) 2 rfl
  have b3 : (gb3 K).all id = true := c.fact (fa := gbs) 3 rfl
  have b4 : (gb4 K).all id = true := c.fact (fa := gbs) 4 rfl
  obtain ⟨oc0, od0, kV0, dc0, pm0, an0, cd0, ct0, sl0, l0, c0⟩ := fn_0 (d := dt0) (c.dat 0 rfl) rfl (atB b0 0 rfl)
  obtain ⟨oc1, od1, kV1, dc1, pm1, an1, cd1, ct1, sl1, l1, c1⟩ := fn_0 (d := dt1) (c.dat 1 rfl) rfl (atB b0 1 rfl)
  obtain ⟨oc2, od2, kV2, dc2, pm2, an2, cd2, ct2, sl2, l2, c2⟩ := fn_0 (d := dt2) (c.dat 2 rfl) rfl (atB b0 2 rfl)
  obtain ⟨oc3, od3, kV3, dc3, pm3, an3, cd3, ct3, sl3, l3, c3⟩ := fn_0 (d := dt3) (c.dat 3 rfl) rfl (atB b0 3 rfl)
  obtain ⟨oc4, od4, kV4, dc4, pm4, an4, cd4, ct4, sl4, l4, c4⟩ := fn_0 (d := dt4) (c.dat 4 rfl) rfl (atB b0 4 rfl)
  obtain ⟨oc5, od5, kV5, dc5, pm5, an5, cd5, ct5, sl5, l5, c5⟩ := fn_0 (d := dt5) (c.dat 5 rfl) rfl (atB b0 5 rfl)
  obtain ⟨oc6, od6, kV6, dc6, pm6, an6, cd6, ct6, sl6, l6, c6⟩ := fn_0 (d := dt6) (c.dat 6 rfl) rfl (atB b0 6 rfl)
  obtain ⟨oc7, od7, kV7, dc7, pm7, an7, cd7, ct7, sl7, l7, c7⟩ := fn_0 (d := dt7) (c.dat 7 rfl) rfl (atB b0 7 rfl)
  obtain ⟨oc8, od8, kV8, dc8, pm8, an8, cd8, ct8, sl8, l8, c8⟩ := fn_0 (d := dt8) (c.dat 8 rfl) rfl (atB b0 8 rfl)
  obtain ⟨oc9, od9, kV9, dc9, pm9, an9, cd9, ct9, sl9, l9, c9⟩ := fn_0 (d := dt9) (c.dat 9 rfl) rfl (atB b0 9 rfl)
  obtain ⟨oc10, od10, kV10, dc10, pm10, an10, cd10, ct10, sl10, l10, c10⟩ := fn_0 (d := dt10) (c.dat 10 rfl) rfl (atB b0 10 rfl)
  obtain ⟨oc11, od11, kV11, dc11, pm11, an11, cd11, ct11, sl11, l11, c11⟩ := fn_0 (d := dt11) (c.dat 11 rfl) rfl (atB b0 11 rfl)
  obtain ⟨oc12, od12, kV12, dc12, pm12, an12, cd12, ct12, sl12, l12, c12⟩ := fn_0 (d := dt12) (c.dat 12 rfl) rfl (atB b0 12 rfl)
  obtain ⟨oc13, od13, kV13, dc13, pm13, an13, cd13, ct13, sl13, l13, c13⟩ := fn_0 (d := dt13) (c.dat 13 rfl) rfl (atB b0 13 rfl)
  obtain ⟨oc14, od14, kV14, dc14, pm14, an14, cd14, ct14, sl14, l14, c14⟩ := fn_0 (d := dt14) (c.dat 14 rfl) rfl (atB b0 14 rfl)
  obtain ⟨oc15, od15, kV15, dc15, pm15, an15, cd15, ct15, sl15, l15, c15⟩ := fn_0 (d := dt15) (c.dat 15 rfl) rfl (atB b0 15 rfl)
  obtain ⟨oc16, od16, kV16, dc16, pm16, an16, cd16, ct16, sl16, l16, c16⟩ := fn_0 (d := dt16) (c.dat 16 rfl) rfl (atB b0 16 rfl)
  obtain ⟨oc17, od17, kV17, dc17, pm17, an17, cd17, ct17, sl17, l17, c17⟩ := fn_0 (d := dt17) (c.dat 17 rfl) rfl (atB b0 17 rfl)
  obtain ⟨oc18, od18, kV18, dc18, pm18, an18, cd18, ct18, sl18, l18, c18⟩ := fn_0 (d := dt18) (c.dat 18 rfl) rfl (atB b0 18 rfl)
  obtain ⟨oc19, od19, kV19, dc19, pm19, an19, cd19, ct19, sl19, l19, c19⟩ := fn_0 (d := dt19) (c.dat 19 rfl) rfl (atB b0 19 rfl)
  obtain ⟨oc20, od20, kV20, dc20, pm20, an20, cd20, ct20, sl20, l20, c20⟩ := fn_0 (d := dt20) (c.dat 20 rfl) rfl (atB b1 0 rfl)
  obtain ⟨oc21, od21, kV21, dc21, pm21, an21, cd21, ct21, sl21, l21, c21⟩ := fn_0 (d := dt21) (c.dat 21 rfl) rfl (atB b1 1 rfl)
  obtain ⟨oc22, od22, kV22, dc22, pm22, an22, cd22, ct22, sl22, l22, c22⟩ := fn_0 (d := dt22) (c.dat 22 rfl) rfl (atB b1 2 rfl)
  obtain ⟨oc23, od23, kV23, dc23, pm23, an23, cd23, ct23, sl23, l23, c23⟩ := fn_0 (d := dt23) (c.dat 23 rfl) rfl (atB b1 3 rfl)
  obtain ⟨oc24, od24, kV24, dc24, pm24, an24, cd24, ct24, sl24, l24, c24⟩ := fn_0 (d := dt24) (c.dat 24 rfl) rfl (atB b1 4 rfl)
  obtain ⟨oc25, od25, kV25, dc25, pm25, an25, cd25, ct25, sl25, l25, c25⟩ := fn_0 (d := dt25) (c.dat 25 rfl) rfl (atB b1 5 rfl)
  obtain ⟨oc26, od26, kV26, dc26, pm26, an26, cd26, ct26, sl26, l26, c26⟩ := fn_0 (d := dt26) (c.dat 26 rfl) rfl (atB b1 6 rfl)
  exact all_mk (l := PySem.Challenge.rw_guesttongues_k32_whole_reads_runs) X G hfa
    (show PySem.W.nsIn K mainGlobals "Reader" = some (some (.ref (He.ga K "Reader"))) from of_decide_eq_true (atB b1 7 rfl))
    (show PySem.W.plainGet K (He.ga K "Reader") Str.empty = true from (atB b1 8 rfl))
    (show PySem.W.hasDictIn K (He.ga K "Reader") = true from (atB b1 9 rfl))
    (show PySem.W.plainOver K (He.ga K "Reader") = true from (atB b1 10 rfl))
    (show PySem.W.findIn K (.ref (He.ga K "Reader")) "__setattr__" = some (some (.builtin "object.__setattr__")) from of_decide_eq_true (atB b1 11 rfl))
    (show PySem.W.selfFirst K (He.ga K "Reader") = true from (atB b1 12 rfl))
    (show PySem.W.noSeq K (He.ga K "Reader") = true from (atB b1 13 rfl))
    (show PySem.W.makesIn K (He.ga K "Reader") = true from (atB b1 14 rfl))
    (show PySem.W.keepIn K (.ref (He.ga K "Reader")) = true from (atB b1 15 rfl))
    (show PySem.W.findIn K (.ref (He.ga K "Reader")) "first" = some none from of_decide_eq_true (atB b1 16 rfl))
    (show PySem.W.findIn K (.ref (He.ga K "Reader")) "entries" = some none from of_decide_eq_true (atB b1 17 rfl))
    (show PySem.W.nsIn K mainGlobals "advance" = some (some (.ref (He.ga K "advance"))) from of_decide_eq_true (atB b1 18 rfl))
    l0
    c0
    (show PySem.W.keepIn K (.ref (He.ga K "advance")) = true from (atB b1 19 rfl))
    (show PySem.W.nsIn K mainGlobals "finish" = some (some (.ref (He.ga K "finish"))) from of_decide_eq_true (atB b2 0 rfl))
    l1
    c1
    (show PySem.W.keepIn K (.ref (He.ga K "finish")) = true from (atB b2 1 rfl))
    (show PySem.W.nsIn K mainGlobals "read" = some (some (.ref (He.ga K "read"))) from of_decide_eq_true (atB b2 2 rfl))
    l2
    c2
    (show PySem.W.keepIn K (.ref (He.ga K "read")) = true from (atB b2 3 rfl))
    (show PySem.W.nsIn K mainGlobals "_law_cell" = some (some (.ref (He.ga K "_law_cell"))) from of_decide_eq_true (atB b2 4 rfl))
    l3
    c3
    (show PySem.W.keepIn K (.ref (He.ga K "_law_cell")) = true from (atB b2 5 rfl))
    (show PySem.W.nsIn K mainGlobals "_law_draws" = some (some (.ref (He.ga K "_law_draws"))) from of_decide_eq_true (atB b2 6 rfl))
    l4
    c4
    (show PySem.W.keepIn K (.ref (He.ga K "_law_draws")) = true from (atB b2 7 rfl))
    (show PySem.W.nsIn K mainGlobals "_law_name" = some (some (.ref (He.ga K "_law_name"))) from of_decide_eq_true (atB b2 8 rfl))
    l5
    c5
    (show PySem.W.keepIn K (.ref (He.ga K "_law_name")) = true from (atB b2 9 rfl))
    (show PySem.W.nsIn K mainGlobals "_law_is_token" = some (some (.ref (He.ga K "_law_is_token"))) from of_decide_eq_true (atB b2 10 rfl))
    l6
    c6
    (show PySem.W.keepIn K (.ref (He.ga K "_law_is_token")) = true from (atB b2 11 rfl))
    (show PySem.W.nsIn K mainGlobals "_law_put" = some (some (.ref (He.ga K "_law_put"))) from of_decide_eq_true (atB b2 12 rfl))
    l7
    c7
    (show PySem.W.keepIn K (.ref (He.ga K "_law_put")) = true from (atB b2 13 rfl))
    (show PySem.W.nsIn K mainGlobals "_law_empty" = some (some (.ref (He.ga K "_law_empty"))) from of_decide_eq_true (atB b2 14 rfl))
    l8
    c8
    (show PySem.W.keepIn K (.ref (He.ga K "_law_empty")) = true from (atB b2 15 rfl))
    (show PySem.W.nsIn K mainGlobals "_law_first" = some (some (.ref (He.ga K "_law_first"))) from of_decide_eq_true (atB b2 16 rfl))
    l9
    c9
    (show PySem.W.keepIn K (.ref (He.ga K "_law_first")) = true from (atB b2 17 rfl))
    (show PySem.W.nsIn K mainGlobals "_law_sets" = some (some (.ref (He.ga K "_law_sets"))) from of_decide_eq_true (atB b2 18 rfl))
    l10
    c10
    (show PySem.W.keepIn K (.ref (He.ga K "_law_sets")) = true from (atB b2 19 rfl))
    (show PySem.W.nsIn K mainGlobals "_law_meet" = some (some (.ref (He.ga K "_law_meet"))) from of_decide_eq_true (atB b3 0 rfl))
    l11
    c11
    (show PySem.W.keepIn K (.ref (He.ga K "_law_meet")) = true from (atB b3 1 rfl))
    (show PySem.W.nsIn K mainGlobals "_law_clashes" = some (some (.ref (He.ga K "_law_clashes"))) from of_decide_eq_true (atB b3 2 rfl))
    l12
    c12
    (show PySem.W.keepIn K (.ref (He.ga K "_law_clashes")) = true from (atB b3 3 rfl))
    (show PySem.W.nsIn K mainGlobals "_law_offers" = some (some (.ref (He.ga K "_law_offers"))) from of_decide_eq_true (atB b3 4 rfl))
    l13
    c13
    (show PySem.W.keepIn K (.ref (He.ga K "_law_offers")) = true from (atB b3 5 rfl))
    (show PySem.W.nsIn K mainGlobals "_law_host" = some (some (.ref (He.ga K "_law_host"))) from of_decide_eq_true (atB b3 6 rfl))
    l14
    c14
    (show PySem.W.keepIn K (.ref (He.ga K "_law_host")) = true from (atB b3 7 rfl))
    (show PySem.W.nsIn K mainGlobals "_law_heads" = some (some (.ref (He.ga K "_law_heads"))) from of_decide_eq_true (atB b3 8 rfl))
    l15
    c15
    (show PySem.W.keepIn K (.ref (He.ga K "_law_heads")) = true from (atB b3 9 rfl))
    (show PySem.W.nsIn K mainGlobals "_law_tokens" = some (some (.ref (He.ga K "_law_tokens"))) from of_decide_eq_true (atB b3 10 rfl))
    l16
    c16
    (show PySem.W.keepIn K (.ref (He.ga K "_law_tokens")) = true from (atB b3 11 rfl))
    (show PySem.W.nsIn K mainGlobals "_law_tail" = some (some (.ref (He.ga K "_law_tail"))) from of_decide_eq_true (atB b3 12 rfl))
    l17
    c17
    (show PySem.W.keepIn K (.ref (He.ga K "_law_tail")) = true from (atB b3 13 rfl))
    (show PySem.W.nsIn K mainGlobals "_law_inner" = some (some (.ref (He.ga K "_law_inner"))) from of_decide_eq_true (atB b3 14 rfl))
    l18
    c18
    (show PySem.W.keepIn K (.ref (He.ga K "_law_inner")) = true from (atB b3 15 rfl))
    (show PySem.W.nsIn K mainGlobals "_law_guest" = some (some (.ref (He.ga K "_law_guest"))) from of_decide_eq_true (atB b3 16 rfl))
    l19
    c19
    (show PySem.W.keepIn K (.ref (He.ga K "_law_guest")) = true from (atB b3 17 rfl))
    (show PySem.W.nsIn K mainGlobals "_law_table" = some (some (.ref (He.ga K "_law_table"))) from of_decide_eq_true (atB b3 18 rfl))
    l20
    c20
    (show PySem.W.keepIn K (.ref (He.ga K "_law_table")) = true from (atB b3 19 rfl))
    (show PySem.W.nsIn K mainGlobals "_law_run" = some (some (.ref (He.ga K "_law_run"))) from of_decide_eq_true (atB b4 0 rfl))
    l21
    c21
    (show PySem.W.keepIn K (.ref (He.ga K "_law_run")) = true from (atB b4 1 rfl))
    (show PySem.W.nsIn K mainGlobals "_law_walk" = some (some (.ref (He.ga K "_law_walk"))) from of_decide_eq_true (atB b4 2 rfl))
    l22
    c22
    (show PySem.W.keepIn K (.ref (He.ga K "_law_walk")) = true from (atB b4 3 rfl))
    (show PySem.W.nsIn K mainGlobals "_law_union" = some (some (.ref (He.ga K "_law_union"))) from of_decide_eq_true (atB b4 4 rfl))
    l23
    c23
    (show PySem.W.keepIn K (.ref (He.ga K "_law_union")) = true from (atB b4 5 rfl))
    (show PySem.W.nsIn K mainGlobals "law" = some (some (.ref (He.ga K "law"))) from of_decide_eq_true (atB b4 6 rfl))
    l24
    c24
    (show PySem.W.keepIn K (.ref (He.ga K "law")) = true from (atB b4 7 rfl))
    (show PySem.W.findIn K (.ref (He.ga K "Reader")) "__init__" = some (some (.ref (He.ma K (He.ga K "Reader") "__init__"))) from of_decide_eq_true (atB b4 8 rfl))
    (show PySem.W.isFn K (.ref (He.ma K (He.ga K "Reader") "__init__")) = true from (atB b4 9 rfl))
    l25
    c25
    (show PySem.W.keepIn K (.ref (He.ma K (He.ga K "Reader") "__init__")) = true from (atB b4 10 rfl))
    (show PySem.W.findIn K (.ref (He.ga K "Reader")) "__call__" = some (some (.ref (He.ma K (He.ga K "Reader") "__call__"))) from of_decide_eq_true (atB b4 11 rfl))
    (show PySem.W.isFn K (.ref (He.ma K (He.ga K "Reader") "__call__")) = true from (atB b4 12 rfl))
    l26
    c26
    (show PySem.W.keepIn K (.ref (He.ma K (He.ga K "Reader") "__call__")) = true from (atB b4 13 rfl))
    (show PySem.W.nsIn K mainGlobals "tuple" = some none from of_decide_eq_true (atB b4 14 rfl))
    (show PySem.W.nsIn K mainGlobals "len" = some none from of_decide_eq_true (atB b4 15 rfl))
    (show PySem.W.nsIn K mainGlobals "range" = some none from of_decide_eq_true (atB b4 16 rfl))
    (show PySem.W.nsIn K mainGlobals "int" = some none from of_decide_eq_true (atB b4 17 rfl))
    (show PySem.W.nsIn K mainGlobals "list" = some none from of_decide_eq_true (atB b4 18 rfl))
    (show PySem.W.nsIn K mainGlobals "isinstance" = some none from of_decide_eq_true (atB b4 19 rfl))
end Gt
open PySem PySem.W PySem.Calls PyProof.Rows in
set_option maxRecDepth 100000 in
set_option maxHeartbeats 0 in
theorem PySem.Challenge.cw_guesttongues_k32_whole_reads_runs_holds : PySem.Challenge.rw_guesttongues_k32_whole_reads_runs.Holds := by
  refine Gt.headR ?_
  refine L2.walk_ofE (l := PySem.Challenge.rw_guesttongues_k32_whole_reads_runs) (n := 63) (k := 6) (x := "_law_script") (CX := L2.CX0) rfl (by decide) (by kernel_rfl) ⟨rfl, by decide, by decide⟩ ?F (fun _ _ _ _ z => z)
  intro w mg fa h Y G hmg0
  obtain ⟨K, KX, c⟩ := Y
  have e : (HandSHeadRun.topDef Gt.R0.prog 36).name = ("law" : PySem.Str) := by kernel_rfl
  rw [e] at hmg0
  obtain ⟨fd, hb, hF⟩ := Gt.heads (w := w) KX G hmg0 c
  exact ⟨K, fd, Gt.sp_law K, KX, hb, fun H a ns hl _ hS => ⟨(ns, ()), true, ⟨_, _, rfl, ⟨a, _, rfl, hS, Gt.A2.of_map _⟩, rfl⟩, Gt.law_ok ns, fun v H' _ z => z⟩, hF⟩
#print axioms PySem.Challenge.cw_guesttongues_k32_whole_reads_runs_holds
