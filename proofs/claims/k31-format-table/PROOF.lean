import PyProof.Rows.All
import Wide.All
import OpenK.AllK
import Wide.FinOn
import HandS.ForMost
import HandS.Evl
import HandS.IsInst
import HandS.Deep
import PyProof.StrLawsLast
import PyProof.StrLawsFirst
import HandS.IterVal
import HandS.OwnEq
import HandS.OwnIter
import HandS.SlotsOwn
import KE.KOpsOwn
import HandS.TupAny
import PyProof.P3In
import HandS.Defaults
import PyProof.StrOps2
import KE.KExcSuper
import HandS.Exc
import HandS.ExcOwn
import HandS.TryOnly
import HandS.ExcField
import HandS.ExcIs
import HandS.WordsExc
import HandS.Star
import HandS.Property
import KE.KCallOwn
import HandS.IterNext
import KE.GoesEnumKw
import HandS.Iter
import HandS.ClsMeth
import HandS.Strs
import HandS.SetFor
import PyProof.Rows.SortShellAny
import HandS.RaiseMore
import HandS.TryMany
import HandS.NoneIn
import HandS.FStr
import HandS.StrMore
import PyProof.FString3
import HandS.DictEq
import PyProof.EqLayable
import HandS.List
import PySem.Challenge.RW_guesttongues_k31_format_table
set_option Elab.async false
set_option linter.all false
set_option maxRecDepth 100000
set_option maxHeartbeats 1000000
/-! Gt1: what slots hold, as data (cells), and what an expression or statement makes of them. -/
namespace Gt
open PySem PySem.Spec PyProof.Rows L2

/-- two lists, item by item -/
inductive A2 {α β : Type} (r : α → β → Prop) : List α → List β → Prop
  | nil : A2 r [] []
  | cons {a : α} {b : β} {as : List α} {bs : List β} : r a b → A2 r as bs → A2 r (a :: as) (b :: bs)
theorem A2.imp {α β : Type} {r q : α → β → Prop} (f : ∀ a b, r a b → q a b) : ∀ {as : List α} {bs : List β}, A2 r as bs → A2 q as bs
  | _, _, .nil => .nil
  | _, _, .cons h t => .cons (f _ _ h) (A2.imp f t)
theorem A2.len {α β : Type} {r : α → β → Prop} : ∀ {as : List α} {bs : List β}, A2 r as bs → as.length = bs.length
  | _, _, .nil => rfl
  | _, _, .cons _ t => by rw [List.length_cons, List.length_cons, A2.len t]
theorem A2.get {α β : Type} {r : α → β → Prop} : ∀ {as : List α} {bs : List β} {i : Nat} {a : α}, A2 r as bs → as[i]? = some a → ∃ b, bs[i]? = some b ∧ r a b
  | _, _, _, _, .nil, e => by simp at e
  | _, _, 0, _, .cons h _, e => by simp at e; subst e; exact ⟨_, rfl, h⟩
  | _, _, i + 1, a, .cons _ t, e => by
    obtain ⟨b, h1, h2⟩ := A2.get (i := i) (a := a) t (by simpa using e)
    exact ⟨b, by simpa using h1, h2⟩
theorem A2.get' {α β : Type} {r : α → β → Prop} : ∀ {as : List α} {bs : List β} {i : Nat} {b : β}, A2 r as bs → bs[i]? = some b → ∃ a, as[i]? = some a ∧ r a b
  | _, _, _, _, .nil, e => by simp at e
  | _, _, 0, _, .cons h _, e => by simp at e; subst e; exact ⟨_, rfl, h⟩
  | _, _, i + 1, b, .cons _ t, e => by
    obtain ⟨a, h1, h2⟩ := A2.get' (i := i) (b := b) t (by simpa using e)
    exact ⟨a, by simpa using h1, h2⟩
theorem A2.app {α β : Type} {r : α → β → Prop} {cs : List α} {ds : List β} (t : A2 r cs ds) : ∀ {as : List α} {bs : List β}, A2 r as bs → A2 r (as ++ cs) (bs ++ ds)
  | _, _, .nil => t
  | _, _, .cons h u => .cons h (A2.app t u)
theorem A2.one {α β : Type} {r : α → β → Prop} {a : α} {b : β} (h : r a b) : A2 r [a] [b] := .cons h .nil
theorem A2.drop {α β : Type} {r : α → β → Prop} : ∀ {as : List α} {bs : List β} (n : Nat), A2 r as bs → A2 r (as.drop n) (bs.drop n)
  | _, _, 0, h => h
  | _, _, _ + 1, .nil => .nil
  | _, _, n + 1, .cons _ t => A2.drop n t
theorem A2.take {α β : Type} {r : α → β → Prop} : ∀ {as : List α} {bs : List β} (n : Nat), A2 r as bs → A2 r (as.take n) (bs.take n)
  | _, _, 0, _ => .nil
  | _, _, _ + 1, .nil => .nil
  | _, _, n + 1, .cons h t => .cons h (A2.take n t)
theorem A2.rev {α β : Type} {r : α → β → Prop} : ∀ {as : List α} {bs : List β}, A2 r as bs → A2 r as.reverse bs.reverse
  | _, _, .nil => .nil
  | _, _, .cons h t => by
    rw [List.reverse_cons, List.reverse_cons]
    exact A2.app (.one h) (A2.rev t)
theorem A2.set {α β : Type} {r : α → β → Prop} {a : α} {b : β} (h : r a b) : ∀ {as : List α} {bs : List β} (i : Nat), A2 r as bs → A2 r (as.set i a) (bs.set i b)
  | _, _, _, .nil => .nil
  | _, _, 0, .cons _ t => .cons h t
  | _, _, i + 1, .cons q t => .cons q (A2.set h i t)
theorem A2.map_eq {α β : Type} {f : β → α} : ∀ {as : List α} {bs : List β}, A2 (fun a b => a = f b) as bs → as = bs.map f
  | _, _, .nil => rfl
  | _, _, .cons h t => by rw [List.map_cons, ← A2.map_eq t, h]
theorem A2.of_map {α β : Type} {f : β → α} : ∀ (bs : List β), A2 (fun a b => a = f b) (bs.map f) bs
  | [] => .nil
  | _ :: r => .cons rfl (A2.of_map r)

/-- all tuples stay -/
def ExT (K : PySem.W.Frag) (H H' : Hp) : Prop := ∀ a xs, SqT K H a xs → SqT K H' a xs
theorem ExT.refl {K : PySem.W.Frag} (H : Hp) : ExT K H H := fun _ _ h => h
theorem ExT.trans {K : PySem.W.Frag} {H H1 H2 : Hp} (a : ExT K H H1) (b : ExT K H1 H2) : ExT K H H2 := fun x o h => b x o (a x o h)
theorem ext_same {K : PySem.W.Frag} {H H' : Hp} (e : Same H H') : ExT K H H' := fun a xs h => by
  rcases h with (h | ⟨o, h⟩) | h
  · exact .inl (.inl (e _ _ h))
  · exact .inl (.inr ⟨o, e _ _ h⟩)
  · exact .inr h
def isTup : HO → Prop
  | .tup _ => True
  | .frz _ _ => True
  | _ => False
/-- what is neither a tuple nor locked is changed -/
theorem ext_upd {K : PySem.W.Frag} {H : Hp} {p : Addr} {o u : HO} (h : H p = some o) (n : ¬ isTup o) : ExT K H (upd H p u) := fun a xs q => by
  have hne : ∀ w, H a = some w → isTup w → a ≠ p := fun w e t z => by
    subst z
    rw [h] at e
    cases e
    exact n t
  rcases q with (q | ⟨o', q⟩) | q
  · exact .inl (.inl (by rw [upd_ne (hne _ q trivial)]; exact q))
  · exact .inl (.inr ⟨o', by rw [upd_ne (hne _ q trivial)]; exact q⟩)
  · exact .inr q

abbrev Rp (β : Type) := Hp → V → β → Prop
class Mono {β : Type} (r : Rp β) : Prop where
  up : ∀ {H H' : Hp} {v : V} {b : β}, Same H H' → r H v b → r H' v b
class Frz (K : PySem.W.Frag) {β : Type} (r : Rp β) : Prop where
  up : ∀ {H H' : Hp} {v : V} {b : β}, ExT K H H' → r H v b → r H' v b
theorem Frz.mono {K : PySem.W.Frag} {β : Type} {r : Rp β} [F : Frz K r] {H H' : Hp} {v : V} {b : β} (e : Same H H') (h : r H v b) : r H' v b := F.up (ext_same e) h

/-! ### flat things -/
def rI : Rp Int := fun _ v n => v = .int n
def rB : Rp Bool := fun _ v n => v = .bl n
/-- a text as the layer compares it: signs are code points, the length is small -/
def okS (s : Str) : Prop := s.length ≤ 100000 ∧ s.cps.all (fun c => decide (c < 0x110000)) = true
instance (s : Str) : Decidable (okS s) := by unfold okS; infer_instance
theorem okS_chr {s : Str} {c : Nat} (h : okS s) (hc : c ∈ s.cps.toList) : okS ⟨#[c]⟩ := by
  refine ⟨by show 1 ≤ 100000; decide, ?_⟩
  have := h.2
  rw [← Array.all_toList, List.all_eq_true] at this
  show (#[c].all fun c => decide (c < 0x110000)) = true
  rw [← Array.all_toList]
  simpa using this c hc
theorem okS_app {s t : Str} (h : okS s) (h' : okS t) (hz : s.length + t.length ≤ 100000) : okS (s ++ t) := by
  refine ⟨?_, ?_⟩
  · show (s.cps ++ t.cps).size ≤ 100000
    rw [Array.size_append]
    exact hz
  · show (s.cps ++ t.cps).all (fun c => decide (c < 0x110000)) = true
    rw [Array.all_append, h.2, h'.2]
    rfl
def rS : Rp Str := fun _ v n => v = .str n ∧ okS n
def rN : Rp Unit := fun _ v _ => v = .non
def rV : Rp V := fun _ v w => v = w
/-- None or a thing -/
def rO {β : Type} (r : Rp β) : Rp (Option β) := fun H v o => match o with
  | .none => v = .non
  | .some b => r H v b
/-- a tuple of things of one kind | a pair -/
def rT (K : PySem.W.Frag) {β : Type} (r : Rp β) : Rp (List β) := fun H v xs => ∃ a vs, v = .ref a ∧ SqT K H a vs ∧ A2 (r H) vs xs
def rP (K : PySem.W.Frag) {α β : Type} (r : Rp α) (q : Rp β) : Rp (α × β) := fun H v p => ∃ a x y, v = .ref a ∧ SqT K H a [x, y] ∧ r H x p.1 ∧ q H y p.2
/-- a list of things of one kind -/
def rL {β : Type} (r : Rp β) : Rp (List β) := fun H v xs => ∃ a vs, v = .ref a ∧ H a = some (.lst vs) ∧ A2 (r H) vs xs
section
variable {K : PySem.W.Frag} {α β : Type}
instance : Mono rI := ⟨fun _ h => h⟩
instance : Mono rB := ⟨fun _ h => h⟩
instance : Mono rS := ⟨fun _ h => h⟩
instance : Mono rN := ⟨fun _ h => h⟩
instance : Mono rV := ⟨fun _ h => h⟩
instance : Frz K rI := ⟨fun _ h => h⟩
instance : Frz K rB := ⟨fun _ h => h⟩
instance : Frz K rS := ⟨fun _ h => h⟩
instance : Frz K rN := ⟨fun _ h => h⟩
instance : Frz K rV := ⟨fun _ h => h⟩
instance {r : Rp β} [M : Mono r] : Mono (rO r) := ⟨fun {_ _ _ b} e h => match b, h with
  | .none, h => h
  | .some _, h => M.up (v := _) e h⟩
instance {r : Rp β} [M : Frz K r] : Frz K (rO r) := ⟨fun {_ _ _ b} e h => match b, h with
  | .none, h => h
  | .some _, h => M.up (v := _) e h⟩
instance {r : Rp β} [M : Mono r] : Mono (rT K r) := ⟨fun e ⟨a, vs, ev, h, q⟩ => ⟨a, vs, ev, ext_same e _ _ h, q.imp fun _ _ z => M.up e z⟩⟩
instance {r : Rp β} [M : Frz K r] : Frz K (rT K r) := ⟨fun e ⟨a, vs, ev, h, q⟩ => ⟨a, vs, ev, e _ _ h, q.imp fun _ _ z => M.up e z⟩⟩
instance {r : Rp α} {q : Rp β} [M : Mono r] [N : Mono q] : Mono (rP K r q) := ⟨fun e ⟨a, x, y, ev, h, h1, h2⟩ => ⟨a, x, y, ev, ext_same e _ _ h, M.up e h1, N.up e h2⟩⟩
instance {r : Rp α} {q : Rp β} [M : Frz K r] [N : Frz K q] : Frz K (rP K r q) := ⟨fun e ⟨a, x, y, ev, h, h1, h2⟩ => ⟨a, x, y, ev, e _ _ h, M.up e h1, N.up e h2⟩⟩
instance {r : Rp β} [M : Mono r] : Mono (rL r) := ⟨fun e ⟨a, vs, ev, h, q⟩ => ⟨a, vs, ev, e _ _ h, q.imp fun _ _ z => M.up e z⟩⟩
end

/-! ### owned things: with the addresses that belong to them -/
structure Rs (K : PySem.W.Frag) (β : Type) where
  rep : Hp → V → β → List Addr → Prop
  stay : ∀ {H H' : Hp} {v : V} {b : β} {as : List Addr}, rep H v b as → ExT K H H' → (∀ p, p ∈ as → ∀ o, H p = some o → H' p = some o) → rep H' v b as
  there : ∀ {H : Hp} {v : V} {b : β} {as : List Addr}, rep H v b as → ∀ p, p ∈ as → ∃ o, H p = some o ∧ ¬ isTup o
/-- it is so as long as the tuples stay -/
def Stb (K : PySem.W.Frag) {β : Type} (r : Rp β) : Rp β := fun H v b => ∀ H', ExT K H H' → r H' v b
theorem Stb.up {K : PySem.W.Frag} {β : Type} {r : Rp β} {H H' : Hp} {v : V} {b : β} (x : ExT K H H') (h : Stb K r H v b) : Stb K r H' v b := fun H2 y => h H2 (x.trans y)
theorem Stb.now {K : PySem.W.Frag} {β : Type} {r : Rp β} {H : Hp} {v : V} {b : β} (h : Stb K r H v b) : r H v b := h H (ExT.refl H)
theorem stb {K : PySem.W.Frag} {β : Type} {r : Rp β} [F : Frz K r] {H : Hp} {v : V} {b : β} (h : r H v b) : Stb K r H v b := fun _ x => F.up x h
theorem stbs {K : PySem.W.Frag} {β : Type} {r : Rp β} [F : Frz K r] {H : Hp} {vs : List V} {bs : List β} (h : A2 (r H) vs bs) : A2 (Stb K r H) vs bs := h.imp fun _ _ z => stb z
theorem nows {K : PySem.W.Frag} {β : Type} {r : Rp β} {H : Hp} {vs : List V} {bs : List β} (h : A2 (Stb K r H) vs bs) : A2 (r H) vs bs := h.imp fun _ _ z => z.now
/-- a frozen thing owns nothing -/
def fz (K : PySem.W.Frag) {β : Type} (r : Rp β) : Rs K β where
  rep := fun H v b as => as = [] ∧ Stb K r H v b
  stay := fun ⟨e, h⟩ x _ => ⟨e, h.up x⟩
  there := fun ⟨e, _⟩ p hp => by rw [e] at hp; cases hp
/-- a list (owned) of frozen things -/
def nl (K : PySem.W.Frag) {β : Type} (r : Rp β) : Rs K (List β) where
  rep := fun H v xs as => ∃ p vs, as = [p] ∧ v = .ref p ∧ H p = some (.lst vs) ∧ A2 (Stb K r H) vs xs
  stay := fun ⟨p, vs, e, ev, h, q⟩ x k => ⟨p, vs, e, ev, k p (by rw [e]; exact List.mem_singleton.mpr rfl) _ h, q.imp fun _ _ z => z.up x⟩
  there := fun ⟨p, vs, e, _, h, _⟩ b hb => by
    rw [e] at hb
    cases List.mem_singleton.mp hb
    exact ⟨_, h, fun z => z⟩
/-- a dict (owned) with texts as keys and frozen values -/
def nd (K : PySem.W.Frag) {β : Type} (r : Rp β) : Rs K (List (Str × β)) where
  rep := fun H v xs as => ∃ p kvs, as = [p] ∧ v = .ref p ∧ H p = some (.dK kvs) ∧ A2 (fun (x : Key × V) (y : Str × β) => (x.1 = Sum.inr y.1 ∧ okS y.1) ∧ Stb K r H x.2 y.2) kvs xs
  stay := fun ⟨p, vs, e, ev, h, q⟩ x k => ⟨p, vs, e, ev, k p (by rw [e]; exact List.mem_singleton.mpr rfl) _ h, q.imp fun _ _ z => ⟨z.1, z.2.up x⟩⟩
  there := fun ⟨p, vs, e, _, h, _⟩ b hb => by
    rw [e] at hb
    cases List.mem_singleton.mp hb
    exact ⟨_, h, fun z => z⟩

/-! ### cells -/
inductive Cell (K : PySem.W.Frag) : Type 1
  | ow {β : Type} (R : Rs K β) (b : β)
  | ro {β : Type} (r : Rp β) (m : Mono r) (b : β)
def Cell.ok {K : PySem.W.Frag} (H0 H : Hp) (v : V) (as : List Addr) : Cell K → Prop
  | .ow R b => R.rep H v b as
  | .ro r _ b => as = [] ∧ r H0 v b
/-- a flat or frozen thing -/
abbrev fc {K : PySem.W.Frag} {β : Type} (r : Rp β) (b : β) : Option (Cell K) := some (.ow (fz K r) b)
/-- a thing that was there, unchanged -/
abbrev rc {K : PySem.W.Frag} {β : Type} (r : Rp β) [m : Mono r] (b : β) : Option (Cell K) := some (.ro r m b)
abbrev Cells (K : PySem.W.Frag) := List (Option (Cell K))

structure Env {K : PySem.W.Frag} (H0 : Hp) (σ : L2.St) (H : Hp) (G : Cells K) : Prop where
  old : Same H0 H
  len : σ.length = G.length
  at_ : ∃ own : Nat → List Addr, (∀ i p, p ∈ own i → H0 p = none ∧ ∃ o, H p = some o ∧ ¬ isTup o) ∧ (∀ i j p, p ∈ own i → p ∈ own j → i = j) ∧
    ∀ (i : Nat) (c : Cell K), G[i]? = some (some c) → ∃ v, σ[i]? = some (some v) ∧ c.ok H0 H v (own i)

section
variable {K : PySem.W.Frag} {H0 H H' : Hp} {σ : L2.St} {G G' : Cells K} {α β γ : Type}
theorem cell_stay {c : Cell K} {v : V} {as : List Addr} (h : c.ok H0 H v as) (x : ExT K H H') (k : ∀ p, p ∈ as → ∀ o, H p = some o → H' p = some o) : c.ok H0 H' v as := by
  cases c with
  | ow R b => exact R.stay h x k
  | ro r m b => exact h
/-- more is tracked -/
theorem Env.grow (E : Env H0 σ H G) (e : Same H H') : Env H0 σ H' G := by
  obtain ⟨own, h1, h2, h3⟩ := E.at_
  refine ⟨E.old.trans e, E.len, own, fun i p hp => ⟨(h1 i p hp).1, ?_⟩, h2, fun i c hc => ?_⟩
  · obtain ⟨o, ho, nt⟩ := (h1 i p hp).2
    exact ⟨o, e _ _ ho, nt⟩
  · obtain ⟨v, hv, hk⟩ := h3 i c hc
    exact ⟨v, hv, cell_stay hk (ext_same e) fun p _ o ho => e _ _ ho⟩
/-- less is said -/
inductive Sub : Cells K → Cells K → Prop
  | nil : Sub [] []
  | keep {c : Option (Cell K)} {G G' : Cells K} : Sub G G' → Sub (c :: G) (c :: G')
  | drop {c : Option (Cell K)} {G G' : Cells K} : Sub G G' → Sub (c :: G) (none :: G')
theorem Sub.get : ∀ {G G' : Cells K} {i : Nat} {c : Cell K}, Sub G G' → G'[i]? = some (some c) → G[i]? = some (some c)
  | _, _, _, _, .nil, h => by simp at h
  | _, _, 0, _, .keep _, h => h
  | _, _, i + 1, c, .keep s, h => by
    have := Sub.get (i := i) (c := c) s (by simpa using h)
    simpa using this
  | _, _, 0, _, .drop _, h => by simp at h
  | _, _, i + 1, c, .drop s, h => by
    have := Sub.get (i := i) (c := c) s (by simpa using h)
    simpa using this
theorem Sub.len : ∀ {G G' : Cells K}, Sub G G' → G.length = G'.length
  | _, _, .nil => rfl
  | _, _, .keep s => by rw [List.length_cons, List.length_cons, Sub.len s]
  | _, _, .drop s => by rw [List.length_cons, List.length_cons, Sub.len s]
theorem Sub.refl : ∀ G : Cells K, Sub G G
  | [] => .nil
  | _ :: G => .keep (Sub.refl G)
theorem Env.less (E : Env H0 σ H G) (s : Sub G G') : Env H0 σ H G' := by
  obtain ⟨own, h1, h2, h3⟩ := E.at_
  exact ⟨E.old, E.len.trans s.len, own, h1, h2, fun i c hc => h3 i c (s.get hc)⟩
/-- a slot gets an owned or frozen thing -/
theorem Env.put {i : Nat} {v : V} {R : Rs K β} {b : β} {as : List Addr} (E : Env H0 σ H G) (e : Same H H') (hn : ∀ p, p ∈ as → H p = none) (h : R.rep H' v b as) : Env H0 (σ.set i (some v)) H' (G.set i (some (.ow R b))) := by
  have E' := E.grow e
  obtain ⟨own, h1, h2, h3⟩ := E.at_
  have hf : ∀ j p, p ∈ own j → H p ≠ none := fun j p hp z => by
    obtain ⟨o, ho, _⟩ := (h1 j p hp).2
    rw [z] at ho
    cases ho
  refine ⟨E'.old, by rw [List.length_set, List.length_set]; exact E.len, fun j => if j = i then as else own j, fun j p hp => ?_, fun j k p hj hk => ?_, fun j c hc => ?_⟩
  · by_cases hji : j = i
    · simp only [hji, if_true] at hp
      refine ⟨?_, R.there h p hp⟩
      cases q : H0 p with
      | none => rfl
      | some o =>
        have := E.old p o q
        rw [hn p hp] at this
        cases this
    · simp only [hji, if_false] at hp
      obtain ⟨o, ho, nt⟩ := (h1 j p hp).2
      exact ⟨(h1 j p hp).1, o, e _ _ ho, nt⟩
  · by_cases hji : j = i <;> by_cases hki : k = i
    · rw [hji, hki]
    · simp only [hji, hki, if_true, if_false] at hj hk
      exact absurd (hn p hj) (hf k p hk)
    · simp only [hji, hki, if_true, if_false] at hj hk
      exact absurd (hn p hk) (hf j p hj)
    · simp only [hji, hki, if_false] at hj hk
      exact h2 j k p hj hk
  · by_cases hji : j = i
    · subst hji
      have hl : j < σ.length := by
        have := (List.getElem?_eq_some_iff.mp hc).1
        rw [List.length_set] at this
        rw [E.len]
        exact this
      rw [List.getElem?_set_self (by rw [← E.len]; exact hl)] at hc
      cases hc
      refine ⟨v, List.getElem?_set_self hl, ?_⟩
      simp only [if_true]
      exact h
    · rw [List.getElem?_set_ne (Ne.symm hji)] at hc
      obtain ⟨w, hw, hk⟩ := h3 j c hc
      refine ⟨w, by rw [List.getElem?_set_ne (Ne.symm hji)]; exact hw, ?_⟩
      simp only [hji, if_false]
      exact cell_stay hk (ext_same e) fun p _ o ho => e _ _ ho
/-- an owned thing at slot i is changed in place -/
theorem Env.mut {i : Nat} {R : Rs K β} {R' : Rs K γ} {b : β} {b' : γ} {v : V} {as : List Addr} (E : Env H0 σ H G) (hi : G[i]? = some (some (.ow R b))) (hv : σ[i]? = some (some v))
    (x : ExT K H H') (k : ∀ p o, p ∉ as → H p = some o → H' p = some o) (th : ∀ w bs, σ[i]? = some (some w) → R.rep H w b bs → bs = as) (h : R'.rep H' v b' as) : Env H0 σ H' (G.set i (some (.ow R' b'))) := by
  obtain ⟨own, h1, h2, h3⟩ := E.at_
  obtain ⟨w, hw, hk⟩ := h3 i _ hi
  have eas : own i = as := th w _ hw hk
  have nas : ∀ j p, j ≠ i → p ∈ own j → p ∉ as := fun j p hj hp z => hj (h2 j i p hp (by rw [eas]; exact z))
  refine ⟨fun p o ho => k p o (fun z => ?_) (E.old p o ho), by rw [List.length_set]; exact E.len, own, fun j p hp => ⟨(h1 j p hp).1, ?_⟩, h2, fun j c hc => ?_⟩
  · have := (h1 i p (by rw [eas]; exact z)).1
    rw [this] at ho
    cases ho
  · by_cases hj : j = i
    · rw [hj, eas] at hp
      exact R'.there h p hp
    · obtain ⟨o, ho, nt⟩ := (h1 j p hp).2
      exact ⟨o, k p o (nas j p hj hp) ho, nt⟩
  · by_cases hj : j = i
    · subst hj
      have hl : j < G.length := (List.getElem?_eq_some_iff.mp hi).1
      rw [List.getElem?_set_self hl] at hc
      cases hc
      exact ⟨v, hv, by rw [eas]; exact h⟩
    · rw [List.getElem?_set_ne (Ne.symm hj)] at hc
      obtain ⟨u, hu, hk'⟩ := h3 j c hc
      exact ⟨u, hu, cell_stay hk' x fun p hp o ho => k p o (nas j p hj hp) ho⟩

/-! ### what evaluates to what -/
def Ev (r : Rp β) (te : TE) (G : Cells K) (b : β) : Prop := ∀ H0 σ H, Env H0 σ H G → ∀ Q : VK, (∀ v H', Same H H' → r H' v b → Q v H') → te σ H Q
/-- .. to a new thing, or a frozen one -/
def Nw (R : Rs K β) (te : TE) (G : Cells K) (b : β) : Prop := ∀ H0 σ H, Env H0 σ H G → ∀ Q : VK, (∀ v H' as, Same H H' → (∀ p, p ∈ as → H p = none) → R.rep H' v b as → Q v H') → te σ H Q
def EvT (tt : TT) (G : Cells K) (b : Bool) : Prop := ∀ H0 σ H, Env H0 σ H G → ∀ Q : Bool → Hp → Prop, (∀ H', Same H H' → Q b H') → tt σ H Q
/-- a list of arguments -/
abbrev Ra (α : Type) := Hp → List V → α → Prop
class MonoA {α : Type} (A : Ra α) : Prop where
  up : ∀ {H H' : Hp} {vs : List V} {a : α}, Same H H' → A H vs a → A H' vs a
def aN : Ra Unit := fun _ vs _ => vs = []
def aC {α β : Type} (r : Rp α) (A : Ra β) : Ra (α × β) := fun H vs p => ∃ v ws, vs = v :: ws ∧ r H v p.1 ∧ A H ws p.2
instance : MonoA aN := ⟨fun _ h => h⟩
instance {α β : Type} {r : Rp α} {A : Ra β} [M : Mono r] [N : MonoA A] : MonoA (aC r A) := ⟨fun e ⟨v, ws, ev, h1, h2⟩ => ⟨v, ws, ev, M.up e h1, N.up e h2⟩⟩
def EvA (A : Ra α) (ta : TA) (G : Cells K) (a : α) : Prop := ∀ H0 σ H, Env H0 σ H G → ∀ Q : List V → Hp → Prop, (∀ vs H', Same H H' → A H' vs a → Q vs H') → ta σ H Q

/-! ### a def's promise: from data to data -/
def spF (A : Ra α) (pre : α → Prop) (r : Rp β) (f : α → β) : Sp := fun vs H Q _ => ∃ a, A H vs a ∧ pre a ∧ ∀ v H', Same H H' → r H' v (f a) → Q v H'
def spN (A : Ra α) (pre : α → Prop) (R : Rs K β) (f : α → β) : Sp := fun vs H Q _ => ∃ a, A H vs a ∧ pre a ∧ ∀ v H' as, Same H H' → (∀ p, p ∈ as → H p = none) → R.rep H' v (f a) as → Q v H'

variable {r : Rp α} {q : Rp β} {R : Rs K α} {te ta tb tc : TE} {a x : α} {b y : β}
/-- a frozen thing is as good as a new one -/
theorem Ev.nw [F : Frz K r] (h : Ev r te G a) : Nw (fz K r) te G a := fun H0 σ H E Q k => h H0 σ H E Q fun v H' e z => k v H' [] e (fun _ hp => nomatch hp) ⟨rfl, stb z⟩
theorem Nw.fz (h : Nw (fz K r) te G a) : Ev r te G a := fun H0 σ H E Q k => h H0 σ H E Q fun v H' _ e _ z => k v H' e z.2.now
theorem Nw.lst {r : Rp α} {xs : List α} (h : Nw (nl K r) te G xs) : Ev (rL r) te G xs := fun H0 σ H E Q k => h H0 σ H E Q fun v H' _ e _ ⟨p, vs, _, ev, hp, z⟩ => k v H' e ⟨p, vs, ev, hp, nows z⟩
theorem Ev.imp {q : Rp α} (h : Ev r te G a) (f : ∀ H v, r H v a → q H v a) : Ev q te G a := fun H0 σ H E Q k => h H0 σ H E Q fun v H' e z => k v H' e (f _ _ z)
theorem Ev.eq (h : Ev r te G a) (e : a = x) : Ev r te G x := e ▸ h
theorem Nw.eq (h : Nw R te G a) (e : a = x) : Nw R te G x := e ▸ h
theorem EvT.eq {tt : TT} {c d : Bool} (h : EvT tt G c) (e : c = d) : EvT tt G d := e ▸ h

/-! ### names and constants -/
theorem ev_fz {i : Nat} (h : G[i]? = some (some (.ow (fz K r) a)) := by rfl) : Ev r (tVar i) G a := fun H0 σ H E Q k => by
  obtain ⟨own, _, _, h3⟩ := E.at_
  obtain ⟨v, hv, hk⟩ := h3 i _ h
  exact ⟨v, hv, k v H (Same.refl H) hk.2.now⟩
theorem ev_lst {i : Nat} {r : Rp α} {xs : List α} (h : G[i]? = some (some (.ow (nl K r) xs)) := by rfl) : Ev (rL r) (tVar i) G xs := fun H0 σ H E Q k => by
  obtain ⟨own, _, _, h3⟩ := E.at_
  obtain ⟨v, hv, p, vs, _, ev, hp, z⟩ := h3 i _ h
  exact ⟨v, hv, k v H (Same.refl H) ⟨p, vs, ev, hp, nows z⟩⟩
theorem ev_ro {i : Nat} {M : Mono r} (h : G[i]? = some (some (.ro r M a)) := by rfl) : Ev r (tVar i) G a := fun H0 σ H E Q k => by
  obtain ⟨own, _, _, h3⟩ := E.at_
  obtain ⟨v, hv, hk⟩ := h3 i _ h
  exact ⟨v, hv, k v H (Same.refl H) (M.up E.old hk.2)⟩
theorem ev_c {v : V} (h : ∀ H, r H v a) : Ev r (tC v) G a := fun _ _ H _ _ k => k v H (Same.refl H) (h H)
theorem ev_int {n : Int} : Ev rI (tC (.int n)) G n := ev_c fun _ => rfl
theorem ev_str {n : Str} (h : okS n) : Ev rS (tC (.str n)) G n := ev_c fun _ => ⟨rfl, h⟩
theorem ev_bl {n : Bool} : Ev rB (tC (.bl n)) G n := ev_c fun _ => rfl
theorem ev_non : Ev (rO r) (tC .non) G Option.none := ev_c fun _ => rfl
theorem Ev.some (h : Ev r te G a) : Ev (rO r) te G (Option.some a) := fun H0 σ H E Q k => h H0 σ H E Q fun v H' e z => k v H' e z

/-! ### operators -/
/-- a rule on values, from data to data -/
def OpE (o : R2) (r : Rp α) (q : Rp β) (z : Rp γ) (x : α) (y : β) (c : γ) : Prop := ∀ H u v, r H u x → q H v y → ∀ Q : VK, (∀ w H', Same H H' → z H' w c → Q w H') → o u v H Q
def OpN (o : R2) (r : Rp α) (q : Rp β) (Z : Rs K γ) (x : α) (y : β) (c : γ) : Prop := ∀ H u v, r H u x → q H v y → ∀ Q : VK, (∀ w H' as, Same H H' → (∀ p, p ∈ as → H p = none) → Z.rep H' w c as → Q w H') → o u v H Q
theorem ev_op {o : R2} {z : Rp γ} {c : γ} [M : Mono r] (ha : Ev r ta G x) (hb : Ev q tb G y) (ho : OpE o r q z x y c) : Ev z (tOp o ta tb) G c := fun H0 σ H E Q k =>
  ha H0 σ H E _ fun u H1 e1 h1 => hb H0 σ H1 (E.grow e1) _ fun v H2 e2 h2 => ho H2 u v (M.up e2 h1) h2 Q fun w H3 e3 h3 => k w H3 ((e1.trans e2).trans e3) h3
theorem free_back {p : Addr} (e : Same H H') (h : H' p = none) : H p = none := e.free h
theorem nw_op {o : R2} {Z : Rs K γ} {c : γ} [M : Mono r] (ha : Ev r ta G x) (hb : Ev q tb G y) (ho : OpN o r q Z x y c) : Nw Z (tOp o ta tb) G c := fun H0 σ H E Q k =>
  ha H0 σ H E _ fun u H1 e1 h1 => hb H0 σ H1 (E.grow e1) _ fun v H2 e2 h2 => ho H2 u v (M.up e2 h1) h2 Q fun w H3 as e3 hn h3 => k w H3 as ((e1.trans e2).trans e3) (fun p hp => free_back (e1.trans e2) (hn p hp)) h3
theorem op_I0 {g : Int → Int → V} {z : Rp γ} {c : γ} {i j : Int} (h : ∀ H, z H (g i j) c) : OpE (rI0 g) rI rI z i j c := fun H u v hu hv Q k => by
  cases hu; cases hv
  exact ⟨i, j, rfl, rfl, k _ H (Same.refl H) (h H)⟩
theorem op_I {C : Int → Int → Prop} {g : Int → Int → V} {z : Rp γ} {c : γ} {i j : Int} (hc : C i j) (h : ∀ H, z H (g i j) c) : OpE (L2.rI C g) rI rI z i j c := fun H u v hu hv Q k => by
  cases hu; cases hv
  exact ⟨i, j, rfl, rfl, hc, k _ H (Same.refl H) (h H)⟩
end
end Gt
/-! Gt2: defs, statements and loops over cells. -/
namespace Gt
open PySem PySem.Spec PyProof.Rows L2

/-! ### defs of the text -/
structure Cal (P : Program) (w : World) (K : PySem.W.Frag) (mg : Str → Option Value) (base : Heap) (CX : CXT) (x : Str) (k : Nat) (ps : List Str) (sp : Sp) : Prop where
  ex : ∃ (f : Addr) (fd : FuncData), FnOk P w K mg base CX k f fd ps sp ∧ mg x = some (.ref f) ∧ PySem.W.keepIn K (.ref f) = true ∧ Binds K fd ps []
structure Df (K : PySem.W.Frag) (mg : Str → Option Value) (x : Str) (st : Stmt) : Prop where
  ex : ∃ (f : Addr) (fd : FuncData), Fun K x x st f fd ∧ mg x = some (.ref f)
theorem pe_fn {X : Cx} {x : Str} {k : Nat} {ps : List Str} {sp : Sp} {p pos : Pos} {e : Expr} {es : List Expr} {t : TA} (C : Cal X.prog X.w X.K X.mg X.base CX0 x k ps sp) (hr : Room k X.A) (ha : PA X (e :: es) t) (hg : Gl X x := by rfl)
    (hdb : (x == Str.ofString "__debug__") = false := by decide) (he : starEach (e :: es) X.env = (false, eval e X.env) :: starEach es X.env := by rfl) (hpl : (backTo pos (starEach es X.env)).any (·.1) = false := by rfl) :
    PE X (.Call (.Name x p) (e :: es) [] pos) (tCall sp [] E0 t) := by
  obtain ⟨f, fd, F, m, kp, b⟩ := C.ex
  exact pe_call F hr hg m kp b .nil pass0 ha hdb he hpl
theorem pe_fn0 {X : Cx} {x : Str} {k : Nat} {ps : List Str} {sp : Sp} {p pos : Pos} (C : Cal X.prog X.w X.K X.mg X.base CX0 x k ps sp) (hr : Room k X.A) (hg : Gl X x := by rfl)
    (hdb : (x == Str.ofString "__debug__") = false := by decide) :
    PE X (.Call (.Name x p) [] [] pos) (tCall sp [] E0 tNil) := by
  obtain ⟨f, fd, F, m, kp, b⟩ := C.ex
  exact pe_call0 F hr hg m kp b .nil pass0 hdb
class LenA {α : Type} (A : Ra α) (n : outParam Nat) : Prop where
  len : ∀ {H : Hp} {vs : List V} {a : α}, A H vs a → vs.length = n
instance : LenA aN 0 := ⟨fun h => by rw [show _ = [] from h]; rfl⟩
instance {α β : Type} {r : Rp α} {A : Ra β} {n : Nat} [L : LenA A n] : LenA (aC r A) (n + 1) := ⟨fun ⟨_, ws, e, _, h⟩ => by rw [e, List.length_cons, L.len h]⟩

variable {P : Program} {w : World} {K : PySem.W.Frag} {mg : Str → Option Value} {base : Heap}
theorem cal_of {x : Str} {st : Stmt} {N ps : List Str} {k : Nat} {sp : Sp} (F : Df K mg x st) (S : FnScope N ps (defScope st)) (len : ∀ vs H Q E, sp vs H Q E → vs.length = ps.length)
    (hb : ∀ (kV doc pm : Value) (an : Option Addr) (cdv ct : Value) (us : List Value), us.length = ps.length → bindArgs (PySem.W.fnOf x x (defArgs st) (defBody st) (defScope st) .none kV doc pm an cdv ct) ⟨us, []⟩ = pure (ps.zip us))
    (hbody : ∀ (cdv : Value) (f : Addr) (A : Around) (outer : List PySem.Env) (s : Shared) (H : Hp) (vs : List V) (Q : VK) (E : XK), Room k (A.deeper (envOfC x (defScope st) s.heap.objs.size f cdv)) → sp vs H Q E →
      ∃ t, PSs (cxOf CX0 P w K mg base N x (defScope st) f cdv A outer s H E).nox (defBody st) t ∧ t { nx := fun _ H' => Q .non H', rt := Q } (start N vs) H) : Cal P w K mg base CX0 x (k + 1) ps sp := by
  obtain ⟨f, fd, F, g⟩ := F.ex
  exact ⟨f, fd, F.ok S len (fun cdv A outer s H vs Q E hr h => hbody cdv f A outer s H vs Q E hr h), g, F.kp, F.binds hb⟩

section
variable {H0 H H' : Hp} {σ : L2.St} {G G' G'' : Cells K} {α β γ S : Type}
/-- the cells hold over some base that holds all of H0 -/
def Have (H0 : Hp) (G : Cells K) (σ : L2.St) (H : Hp) : Prop := ∃ H1, Same H0 H1 ∧ Env H1 σ H G
def Sv (H0 : Hp) (G : Cells K) (t : TS) (D : Ends) : Prop := ∀ σ H, Have H0 G σ H → t D σ H
def Nx (H0 : Hp) (G : Cells K) (P : L2.St → Hp → Prop) : Prop := ∀ σ H, Have H0 G σ H → P σ H

/-! ### the start of a def -/
inductive Pw (H0 : Hp) : L2.St → Cells K → Prop
  | nil : Pw H0 [] []
  | skip {o : Option V} {σ : L2.St} {G : Cells K} : Pw H0 σ G → Pw H0 (o :: σ) (none :: G)
  | fz {β : Type} {r : Rp β} [Frz K r] {b : β} {v : V} {σ : L2.St} {G : Cells K} : r H0 v b → Pw H0 σ G → Pw H0 (some v :: σ) (fc r b :: G)
  | ro {β : Type} {r : Rp β} [Mono r] {b : β} {v : V} {σ : L2.St} {G : Cells K} : r H0 v b → Pw H0 σ G → Pw H0 (some v :: σ) (rc r b :: G)
theorem Pw.len (h : Pw H0 σ G) : σ.length = G.length := by
  induction h with
  | nil => rfl
  | skip _ ih => rw [List.length_cons, List.length_cons, ih]
  | fz _ _ ih => rw [List.length_cons, List.length_cons, ih]
  | ro _ _ ih => rw [List.length_cons, List.length_cons, ih]
theorem Pw.get (h : Pw H0 σ G) : ∀ {i : Nat} {c : Cell K}, G[i]? = some (some c) → ∃ v, σ[i]? = some (some v) ∧ c.ok H0 H0 v [] := by
  induction h with
  | nil => intro i c e; simp at e
  | skip _ ih =>
    intro i c e
    cases i with
    | zero => simp at e
    | succ i => simpa using ih (i := i) (c := c) (by simpa using e)
  | fz h _ ih =>
    intro i c e
    cases i with
    | zero =>
      simp at e
      subst e
      exact ⟨_, rfl, rfl, stb h⟩
    | succ i => simpa using ih (i := i) (c := c) (by simpa using e)
  | ro h _ ih =>
    intro i c e
    cases i with
    | zero =>
      simp at e
      subst e
      exact ⟨_, rfl, rfl, h⟩
    | succ i => simpa using ih (i := i) (c := c) (by simpa using e)
theorem Pw.env (p : Pw H0 σ G) : Env H0 σ H0 G := ⟨Same.refl H0, p.len, fun _ => [], fun _ _ h => (nomatch h), fun _ _ _ h => (nomatch h), fun i c h => p.get h⟩
theorem Sv.run {t : TS} {D : Ends} (s : Sv H0 G t D) (p : Pw H0 σ G) : t D σ H0 := s σ H0 ⟨H0, Same.refl H0, p.env⟩

/-! ### statements -/
variable {D : Ends} {t u tb : TS} {te ta : TE} {tt : TT} {r : Rp β} {q : Rp α} {R : Rs K β} {b : β} {a : α}
theorem Have.less (h : Have H0 G σ H) (s : Sub G G') : Have H0 G' σ H := let ⟨H1, e, E⟩ := h; ⟨H1, e, E.less s⟩
theorem Sv.less (s : Sub G G') (h : Sv H0 G' t D) : Sv H0 G t D := fun σ H g => h σ H (g.less s)
theorem Sv.from (e : G = G') (h : Sv H0 G' t D) : Sv H0 G t D := e ▸ h
theorem q_asg {i : Nat} {b' : β} (h : Nw R te G b) (eb : b = b') (k : Sv H0 (G.set i (some (.ow R b'))) u D) : Sv H0 G (tSeq (tAsg te (gName i)) u) D := fun σ H ⟨H1, e, E⟩ =>
  h H1 σ H E _ fun v H' as e' hn z => k _ _ ⟨H1, e, E.put e' hn (eb ▸ z)⟩
theorem q_set {i : Nat} {b' : β} (h : Ev r te G b) (eb : b = b') (k : Sv H0 (G.set i (fc r b')) u D) (F : Frz K r := by infer_instance) : Sv H0 G (tSeq (tAsg te (gName i)) u) D := q_asg h.nw eb k
theorem l_asg {i : Nat} {b' : β} (h : Nw R te G b) (eb : b = b') (k : Nx H0 (G.set i (some (.ow R b'))) D.nx) : Sv H0 G (tAsg te (gName i)) D := fun σ H ⟨H1, e, E⟩ =>
  h H1 σ H E _ fun v H' as e' hn z => k _ _ ⟨H1, e, E.put e' hn (eb ▸ z)⟩
theorem l_set {i : Nat} {b' : β} (h : Ev r te G b) (eb : b = b') (k : Nx H0 (G.set i (fc r b')) D.nx) (F : Frz K r := by infer_instance) : Sv H0 G (tAsg te (gName i)) D := l_asg h.nw eb k
theorem l_ret {b' : β} (k : ∀ v H', Same H0 H' → r H' v b' → D.rt v H') (h : Ev r te G b) (eb : b = b') : Sv H0 G (tRet te) D := fun σ H ⟨H1, e, E⟩ =>
  h H1 σ H E _ fun v H' e' z => k v H' ((e.trans E.old).trans e') (eb ▸ z)
theorem l_retN {b' : β} (k : ∀ v H' as, Same H0 H' → (∀ p, p ∈ as → H0 p = none) → R.rep H' v b' as → D.rt v H') (h : Nw R te G b) (eb : b = b') : Sv H0 G (tRet te) D := fun σ H ⟨H1, e, E⟩ =>
  h H1 σ H E _ fun v H' as e' hn z => k v H' as ((e.trans E.old).trans e') (fun p hp => (e.trans E.old).free (hn p hp)) (eb ▸ z)
/-- an owned list in a slot is handed back -/
theorem l_retO {i : Nat} {xs' : β} (k : ∀ v H' as, Same H0 H' → (∀ p, p ∈ as → H0 p = none) → R.rep H' v xs' as → D.rt v H') (hi : G[i]? = some (some (.ow R b))) (eb : b = xs') : Sv H0 G (tRet (tVar i)) D := fun σ H ⟨H1, e, E⟩ => by
  obtain ⟨own, h1, h2, h3⟩ := E.at_
  obtain ⟨v, hv, hk⟩ := h3 i _ hi
  exact ⟨v, hv, k v H (own i) (e.trans E.old) (fun p hp => e.free (h1 i p hp).1) (eb ▸ hk)⟩
theorem l_if {c : Bool} (h : EvT tt G c) (h1 : c = true → Sv H0 G t D) (h2 : c = false → Sv H0 G u D) : Sv H0 G (tIfS tt t u) D := fun σ H ⟨H1, e, E⟩ =>
  h H1 σ H E _ fun H' e' => by
    cases c with
    | true => exact iteT (h1 rfl σ H' ⟨H1, e, E.grow e'⟩)
    | false => exact iteF (h2 rfl σ H' ⟨H1, e, E.grow e'⟩)
theorem q_if {c : Bool} {v : TS} (h : EvT tt G c) (h1 : c = true → Sv H0 G t { D with nx := v D }) (h2 : c = false → Sv H0 G u { D with nx := v D }) : Sv H0 G (tSeq (tIfS tt t u) v) D := l_if h h1 h2
/-- the ways of t meet ahead of v -/
theorem cutK (G2 : Cells K) {v : TS} (f : Sv H0 G2 v D → Sv H0 G (tSeq t v) D) (k : Sv H0 G2 v D) : Sv H0 G (tSeq t v) D := f k
theorem l_next (k : Nx H0 G D.nx) : Sv H0 G tNext D := k
theorem q_next (k : Sv H0 G u D) : Sv H0 G tNext { D with nx := u D } := k
theorem q_seq (h : Sv H0 G t { D with nx := u D }) : Sv H0 G (tSeq t u) D := h
theorem l_drop (h : Ev r te G b) (k : Nx H0 G D.nx) : Sv H0 G (tDrop te) D := fun σ H ⟨H1, e, E⟩ => h H1 σ H E _ fun v H' e' _ => k σ H' ⟨H1, e, E.grow e'⟩
/-- the end of a loop's turn -/
theorem nx_have (s : Sub G G') : Nx H0 G (Have H0 G') := fun _ _ h => h.less s
theorem nx_eq (e : G = G') : Nx H0 G (Have H0 G') := fun _ _ h => e ▸ h

/-- xs.append(e) -/
theorem app_env {i : Nat} {r : Rp α} {xs : List α} {x : α} {H1 : Hp} {p : Addr} {vs : List V} {v : V} (E : Env H1 σ H G) (hi : G[i]? = some (some (.ow (nl K r) xs))) (hv : σ[i]? = some (some (.ref p))) (hp : H p = some (.lst vs)) (hxs : A2 (Stb K r H) vs xs) (hx : Stb K r H v x) :
    Env H1 σ (upd H p (.lst (vs ++ [v]))) (G.set i (some (.ow (nl K r) (xs ++ [x])))) := by
  have x0 : ExT K H (upd H p (.lst (vs ++ [v]))) := ext_upd hp fun z => z
  refine E.mut (as := [p]) (R := nl K r) (R' := nl K r) hi hv x0 (fun c o hc ho => ?_) (fun w bs hw ⟨p', vs', e1, e2, _, _⟩ => ?_) ⟨p, _, rfl, rfl, upd_same, A2.app (A2.one (hx.up x0)) (hxs.imp fun _ _ z => z.up x0)⟩
  · rw [upd_ne fun z => hc (by rw [z]; exact List.mem_singleton.mpr rfl)]
    exact ho
  · rw [hv] at hw
    cases hw
    cases e2
    exact e1
end
end Gt
/-! Gt3: loops and comprehensions over cells. -/
namespace Gt
open PySem PySem.Spec PyProof.Rows L2

section
variable {K : PySem.W.Frag} {H0 H1 H H' : Hp} {σ : L2.St} {G G' Gx : Cells K} {α β γ S β' : Type}

/-- the heap without some addresses -/
def cutH (H : Hp) (X : Addr → Prop) [DecidablePred X] : Hp := fun b => if X b then none else H b
open Classical in
/-- a base that holds all that no cell owns -/
theorem Env.rebase (E : Env H1 σ H G) (e : Same H H') : ∃ H2, Same H1 H2 ∧ Same H2 H' ∧ ExT K H' H2 ∧ Env H2 σ H' G ∧ ∀ b o, H b = none → H' b = some o → H2 b = some o := by
  have E' := E.grow e
  obtain ⟨own, h1, h2, h3⟩ := E'.at_
  obtain ⟨own0, g1, g2, g3⟩ := E.at_
  let X : Addr → Prop := fun b => (∃ i, b ∈ own0 i)
  have hX : ∀ b, H1 b ≠ none → ¬ X b := fun b hb ⟨i, hi⟩ => hb (g1 i b hi).1
  have key : ∀ b, cutH H' X b = if X b then none else H' b := fun b => rfl
  have s12 : Same H1 (cutH H' X) := fun b o ho => by
    rw [key, if_neg (hX b (by rw [ho]; exact fun z => nomatch z))]
    exact E'.old b o ho
  have s2 : Same (cutH H' X) H' := fun b o ho => by
    rw [key] at ho
    split at ho
    · cases ho
    · exact ho
  refine ⟨cutH H' X, s12, s2, fun a xs q => ?_, ⟨s2, E'.len, own0, fun i p hp => ?_, g2, fun i c hc => ?_⟩, fun b o hn ho => ?_⟩
  · have nX : ∀ o, H' a = some o → isTup o → ¬ X a := fun o ho t ⟨i, hi⟩ => by
      obtain ⟨u, hu, nu⟩ := (g1 i a hi).2
      have := e _ _ hu
      rw [ho] at this
      cases this
      exact nu t
    rcases q with (q | ⟨o', q⟩) | q
    · exact .inl (.inl (by rw [key, if_neg (nX _ q trivial)]; exact q))
    · exact .inl (.inr ⟨o', by rw [key, if_neg (nX _ q trivial)]; exact q⟩)
    · exact .inr q
  · obtain ⟨o, ho, nt⟩ := (g1 i p hp).2
    exact ⟨by rw [key, if_pos ⟨i, hp⟩], o, e _ _ ho, nt⟩
  · obtain ⟨v, hv, hk⟩ := g3 i c hc
    refine ⟨v, hv, ?_⟩
    cases c with
    | ow R b => exact R.stay hk (ext_same e) fun p _ o ho => e _ _ ho
    | ro r m b => exact ⟨hk.1, m.up s12 hk.2⟩
  · rw [key, if_neg fun ⟨i, hi⟩ => by
      obtain ⟨u, hu, _⟩ := (g1 i b hi).2
      rw [hn] at hu
      cases hu]
    exact ho
/-- .. and one list more -/
theorem Env.freeze {i : Nat} {r : Rp α} {xs : List α} (E : Env H1 σ H G) (hi : G[i]? = some (some (.ow (nl K r) xs))) (M : Mono r) : ∃ H2, Same H1 H2 ∧ ExT K H H2 ∧ Env H2 σ H (G.set i (rc (rL r) xs)) := by
  classical
  obtain ⟨own, h1, h2, h3⟩ := E.at_
  let X : Addr → Prop := fun b => (∃ j, j ≠ i ∧ b ∈ own j)
  have hX : ∀ b, H1 b ≠ none → ¬ X b := fun b hb ⟨j, _, hj⟩ => hb (h1 j b hj).1
  have key : ∀ b, cutH H X b = if X b then none else H b := fun b => rfl
  have s12 : Same H1 (cutH H X) := fun b o ho => by
    rw [key, if_neg (hX b (by rw [ho]; exact fun z => nomatch z))]
    exact E.old b o ho
  have s2 : Same (cutH H X) H := fun b o ho => by
    rw [key] at ho
    split at ho
    · cases ho
    · exact ho
  have xt : ExT K H (cutH H X) := fun a xs q => by
    have nX : ∀ o, H a = some o → isTup o → ¬ X a := fun o ho t ⟨j, _, hj⟩ => by
      obtain ⟨u, hu, nu⟩ := (h1 j a hj).2
      rw [ho] at hu
      cases hu
      exact nu t
    rcases q with (q | ⟨o', q⟩) | q
    · exact .inl (.inl (by rw [key, if_neg (nX _ q trivial)]; exact q))
    · exact .inl (.inr ⟨o', by rw [key, if_neg (nX _ q trivial)]; exact q⟩)
    · exact .inr q
  refine ⟨cutH H X, s12, xt, s2, by rw [List.length_set]; exact E.len, fun j => if j = i then [] else own j, fun j p hp => ?_, fun j k p hj hk => ?_, fun j c hc => ?_⟩
  · by_cases hj : j = i
    · simp only [hj, if_true] at hp
      cases hp
    · simp only [hj, if_false] at hp
      exact ⟨by rw [key, if_pos ⟨j, hj, hp⟩], (h1 j p hp).2⟩
  · by_cases hji : j = i
    · simp only [hji, if_true] at hj
      cases hj
    · by_cases hki : k = i
      · simp only [hki, if_true] at hk
        cases hk
      · simp only [hji, hki, if_false] at hj hk
        exact h2 j k p hj hk
  · by_cases hj : j = i
    · subst hj
      have hl : j < G.length := (List.getElem?_eq_some_iff.mp hi).1
      rw [List.getElem?_set_self hl] at hc
      cases hc
      obtain ⟨v, hv, p, vs, e1, e2, e3, e4⟩ := h3 j _ hi
      refine ⟨v, hv, by simp, p, vs, e2, ?_, e4.imp fun _ _ z => (z.up xt).now⟩
      rw [key, if_neg fun ⟨k, hk, hp⟩ => hk (h2 k j p hp (by rw [e1]; exact List.mem_singleton.mpr rfl))]
      exact e3
    · rw [List.getElem?_set_ne (Ne.symm hj)] at hc
      obtain ⟨v, hv, hk⟩ := h3 j c hc
      refine ⟨v, hv, ?_⟩
      simp only [hj, if_false]
      cases c with
      | ow R b => exact hk
      | ro r m b => exact ⟨hk.1, m.up s12 hk.2⟩

/-! ### what is walked -/
structure Wj (J : It) (r : Rp α) (H1 : Hp) (xs : List α) : Prop where
  go : ∀ (H : Hp) (i : Nat) (x : α), Same H1 H → xs[i]? = some x → J.go i H ∧ ∀ v H', J.yld i H v H' → Same H H' ∧ r H' v x
  stop : ∀ H : Hp, Same H1 H → J.stop xs.length H
def Wk (wi : TI) (r : Rp α) (G G' : Cells K) (xs : List α) : Prop := ∀ H1 σ H, Env H1 σ H G → ∀ R : It → Hp → Prop, (∀ J H2 H', Same H1 H2 → Same H H' → Env H2 σ H' G' → Wj J r H2 xs → R J H') → wi σ H R
theorem wj_list {r : Rp α} [M : Mono r] {a : Addr} {vs : List V} {xs : List α} (h : H1 a = some (.lst vs)) (q : A2 (r H1) vs xs) : Wj (Itl K a) r H1 xs where
  go := fun H i x e hx => by
    obtain ⟨v, hv, z⟩ := q.get' hx
    refine ⟨⟨vs, v, SqL.of (e _ _ h), hv⟩, fun w H' ⟨e1, e2⟩ => ?_⟩
    subst e1
    have := e2 vs (SqL.of (e _ _ h))
    rw [hv] at this
    cases this
    exact ⟨Same.refl _, M.up e z⟩
  stop := fun H e => ⟨vs, SqL.of (e _ _ h), Nat.le_of_eq q.len⟩
theorem wj_tup {r : Rp α} [M : Mono r] {a : Addr} {vs : List V} {xs : List α} (h : SqT K H1 a vs) (q : A2 (r H1) vs xs) : Wj (Itt K a) r H1 xs where
  go := fun H i x e hx => by
    obtain ⟨v, hv, z⟩ := q.get' hx
    refine ⟨⟨vs, v, ext_same e _ _ h, hv⟩, fun w H' ⟨e1, e2⟩ => ?_⟩
    subst e1
    have := e2 vs (ext_same e _ _ h)
    rw [hv] at this
    cases this
    exact ⟨Same.refl _, M.up e z⟩
  stop := fun H e => ⟨vs, ext_same e _ _ h, Nat.le_of_eq q.len⟩
theorem wj_rng {lo : Int} {n : Nat} : Wj (Itr lo n) rI H1 ((List.range n).map fun (i : Nat) => lo + (i : Int)) where
  go := fun H i x e hx => by
    rw [List.getElem?_map] at hx
    by_cases hi : i < n
    · rw [List.getElem?_range hi] at hx
      cases hx
      exact ⟨hi, fun v H' ⟨e1, e2⟩ => by subst e1; exact ⟨Same.refl _, e2⟩⟩
    · rw [List.getElem?_eq_none (by rw [List.length_range]; omega)] at hx
      cases hx
  stop := fun H e => by
    show n ≤ _
    rw [List.length_map, List.length_range]
    exact Nat.le_refl _
theorem wj_str {z : Str} (hz : okS z) : Wj (Its z) rS H1 (z.cps.toList.map fun c => (⟨#[c]⟩ : Str)) where
  go := fun H i x e hx => by
    rw [List.getElem?_map] at hx
    cases q : z.cps.toList[i]? with
    | none => rw [q] at hx; cases hx
    | some c =>
      rw [q] at hx
      cases hx
      have q' : z.cps[i]? = some c := by simpa using q
      have hi : i < z.cps.size := (Array.getElem?_eq_some_iff.mp q').1
      refine ⟨hi, fun v H' ⟨e1, c', e2, e3⟩ => ?_⟩
      subst e1
      rw [q'] at e2
      cases e2
      exact ⟨Same.refl _, e3, okS_chr hz (List.mem_of_getElem? q)⟩
  stop := fun H e => by
    show z.cps.size ≤ _
    simp
/-- a list that nothing here owns | a list that was there | an owned list: read only from now on -/
theorem wk_new {r : Rp α} [M : Mono r] {tl : TE} {xs : List α} (h : Nw (nl K r) tl G xs) : Wk (iList K tl) r G G xs := fun H1 σ H E R k =>
  h H1 σ H E _ fun v H' as e hn ⟨p, vs, e1, e2, e3, e4⟩ => by
    obtain ⟨H2, s1, s2, x, E2, ho⟩ := E.rebase e
    have hp : H2 p = some (.lst vs) := ho p _ (hn p (by rw [e1]; exact List.mem_singleton.mpr rfl)) e3
    exact ⟨p, e2, ⟨vs, SqL.of e3⟩, k _ H2 H' s1 e E2 (wj_list hp (e4.imp fun _ _ z => (z.up x).now))⟩
theorem wk_ro {r : Rp α} {M : Mono (rL r)} [N : Mono r] {i : Nat} {xs : List α} (h : G[i]? = some (some (.ro (rL r) M xs)) := by rfl) : Wk (iList K (tVar i)) r G G xs := fun H1 σ H E R k => by
  obtain ⟨own, _, _, h3⟩ := E.at_
  obtain ⟨v, hv, _, p, vs, e2, e3, e4⟩ := h3 i _ h
  exact ⟨v, hv, p, e2, ⟨vs, SqL.of (E.old _ _ e3)⟩, k _ H1 H (Same.refl _) (Same.refl _) E (wj_list e3 e4)⟩
theorem wk_own {r : Rp α} [M : Mono r] {i : Nat} {xs : List α} (h : G[i]? = some (some (.ow (nl K r) xs)) := by rfl) : Wk (iList K (tVar i)) r G (G.set i (rc (rL r) xs)) xs := fun H1 σ H E R k => by
  obtain ⟨H2, s1, x, E2⟩ := E.freeze h M
  obtain ⟨own, _, _, h3⟩ := E2.at_
  have hl : i < G.length := (List.getElem?_eq_some_iff.mp h).1
  obtain ⟨v, hv, _, p, vs, e2, e3, e4⟩ := h3 i _ (List.getElem?_set_self hl)
  exact ⟨v, hv, p, e2, ⟨vs, SqL.of (E2.old _ _ e3)⟩, k _ H2 H s1 (Same.refl _) E2 (wj_list e3 e4)⟩
/-- a tuple -/
theorem wk_tup {r : Rp α} [F : Frz K r] [M : Mono r] {tl : TE} {xs : List α} (h : Ev (rT K r) tl G xs) : Wk (iTup K tl) r G G xs := fun H1 σ H E R k =>
  h H1 σ H E _ fun v H' e ⟨p, vs, e2, e3, e4⟩ => by
    obtain ⟨H2, s1, s2, x, E2, ho⟩ := E.rebase e
    exact ⟨p, e2, ⟨vs, e3⟩, k _ H2 H' s1 e E2 (wj_tup (x _ _ e3) (e4.imp fun _ _ z => F.up x z))⟩
/-- 0, 1, .. below n -/
def ups (n : Nat) : List Int := (List.range n).map fun (i : Nat) => (i : Int)
theorem ups_len (n : Nat) : (ups n).length = n := by unfold ups; rw [List.length_map, List.length_range]
theorem wk_rng1 {ta : TE} {n : Int} (h : Ev rI ta G n) (hn : -100000 ≤ n ∧ n ≤ 100000) : Wk (iRng1 (tCons ta tNil)) rI G G (ups n.toNat) := fun H1 σ H E R k =>
  h H1 σ H E _ fun v H' e z => ⟨n, by rw [show v = .int n from z], by omega, by omega, k (Itr 0 n.toNat) H1 H' (Same.refl _) e (E.grow e) (by
      have w := wj_rng (H1 := H1) (lo := 0) (n := n.toNat)
      have e0 : ((List.range n.toNat).map fun (i : Nat) => (0 : Int) + (i : Int)) = ups n.toNat := by
        unfold ups
        exact List.map_congr_left fun i _ => Int.zero_add _
      rw [e0] at w
      exact w)⟩
def upsFrom (lo : Int) (n : Nat) : List Int := (List.range n).map fun (i : Nat) => lo + (i : Int)
theorem wk_rng2 {ta tb : TE} {m n : Int} (h : Ev rI ta G m) (h' : Ev rI tb G n) (hn : -100000 ≤ m ∧ m ≤ 100000 ∧ -100000 ≤ n ∧ n ≤ 100000) : Wk (iRng2 (tCons ta (tCons tb tNil))) rI G G (upsFrom m (n - m).toNat) := fun H1 σ H E R k =>
  h H1 σ H E _ fun v Ha ea z => h' H1 σ Ha (E.grow ea) _ fun v' H' e z' => ⟨m, n, by rw [show v = .int m from z, show v' = .int n from z'], by omega, k (Itr m (n - m).toNat) H1 H' (Same.refl _) (ea.trans e) (E.grow (ea.trans e)) wj_rng⟩
theorem wk_str {ta : TE} {z : Str} (h : Ev rS ta G z) : Wk (iStr ta) rS G G (z.cps.toList.map fun c => (⟨#[c]⟩ : Str)) := fun H1 σ H E R k =>
  h H1 σ H E _ fun v H' e z' => ⟨z, z'.1, k (Its z) H1 H' (Same.refl _) e (E.grow e) (wj_str z'.2)⟩

/-! ### the target of a loop -/
def Tg (g : TG) (r : Rp α) (x : α) (G G' : Cells K) : Prop := ∀ H1 σ H v, Env H1 σ H G → r H v x → ∀ P : L2.St → Hp → Prop, (∀ σ', Env H1 σ' H G' → P σ' H) → g v σ H P
theorem tg_name {r : Rp α} [F : Frz K r] {x : α} {i : Nat} : Tg (gName i) r x G (G.set i (fc r x)) := fun H1 σ H v E h P k =>
  k _ (E.put (R := fz K r) (as := []) (Same.refl H) (fun _ z => nomatch z) ⟨rfl, stb h⟩)
theorem tg_pair {r : Rp α} {q : Rp β} [F : Frz K r] [F' : Frz K q] {p : α × β} {i j : Nat} : Tg (gTup K 2 (gCons (gName i) (gCons (gName j) gNil))) (rP K r q) p G ((G.set i (fc r p.1)).set j (fc q p.2)) := fun H1 σ H v E ⟨a, x, y, e, h, h1, h2⟩ P k =>
  ⟨a, [x, y], e, h, rfl, x, [y], rfl, y, [], rfl, rfl, k _ ((E.put (R := fz K r) (as := []) (Same.refl H) (fun _ z => nomatch z) ⟨rfl, stb h1⟩).put (R := fz K q) (as := []) (Same.refl H) (fun _ z => nomatch z) ⟨rfl, stb h2⟩)⟩

/-! ### for -/
variable {D : Ends} {t u tb : TS} {wi : TI} {g : TG} {te : TE} {tt : TT} {r : Rp α} {q : Rp β}
/-- I: what holds of the part walked so far and the state; st: the cells of a state -/
theorem l_forI {xs : List α} (st : S → Cells K) (I : List α → S → Prop) (s0 : S) (hw : Wk wi r G G' xs) (h0 : Sub G' (st s0)) (i0 : I [] s0)
    (body : ∀ H0', Same H0 H0' → ∀ pre x post s, xs = pre ++ x :: post → I pre s → ∃ Gx, Tg g r x (st s) Gx ∧
      Sv H0' Gx tb { D with nx := fun σ H => ∃ s', I (pre ++ [x]) s' ∧ Have H0' (st s') σ H, ct := fun σ H => ∃ s', I (pre ++ [x]) s' ∧ Have H0' (st s') σ H, bk := D.nx })
    (after : ∀ s, I xs s → Nx H0 (st s) D.nx) : Sv H0 G (tFor wi g tb) D := fun σ H ⟨H1, e1, E⟩ => by
  refine hw H1 σ H E _ fun J H2 H' s1 sH E2 W => ?_
  refine ⟨fun i m σ' Hh => i + m = xs.length ∧ ∃ s, I (xs.take i) s ∧ Have H2 (st s) σ' Hh, ⟨xs.length, Nat.zero_add _, s0, i0, H2, Same.refl _, E2.less h0⟩, ?_⟩
  rintro i m σ' Hh ⟨hi, s, hI, H3, s3, E3⟩
  by_cases hl : i < xs.length
  · have hx : xs[i]? = some xs[i] := List.getElem?_eq_getElem hl
    have hs : Same H2 Hh := s3.trans E3.old
    obtain ⟨g1, g2⟩ := W.go Hh i _ hs hx
    have etk : xs.take i ++ [xs[i]] = xs.take (i + 1) := by rw [List.take_add_one, hx]; rfl
    refine .inr ⟨g1, fun σ2 Hh2 => ∃ s', I (xs.take i ++ [xs[i]]) s' ∧ Have H2 (st s') σ2 Hh2, fun σ2 Hh2 ⟨s', hI', hv⟩ => ⟨m - 1, by omega, by omega, s', by rw [← etk]; exact hI', hv⟩, fun v Hh2 hy => ?_⟩
    · obtain ⟨e2, z⟩ := g2 v Hh2 hy
      have hsp : xs = xs.take i ++ xs[i] :: xs.drop (i + 1) := by
        rw [List.getElem_cons_drop, List.take_append_drop]
      obtain ⟨Gx, ht, hb⟩ := body H2 (e1.trans s1) (xs.take i) xs[i] (xs.drop (i + 1)) s hsp hI
      exact ht H3 σ' Hh2 v (E3.grow e2) z _ fun σ2 E4 => hb σ2 Hh2 ⟨H3, s3, E4⟩
  · have hi' : i = xs.length := by omega
    subst hi'
    rw [List.take_length] at hI
    exact .inl ⟨W.stop Hh (s3.trans E3.old), after s hI σ' Hh ⟨H3, (e1.trans s1).trans s3, E3⟩⟩
/-- a loop that folds -/
theorem l_for {xs : List α} (st : S → Cells K) (f : S → α → S) (s0 : S) (hw : Wk wi r G G' xs) (h0 : Sub G' (st s0))
    (body : ∀ H0', Same H0 H0' → ∀ pre x post, xs = pre ++ x :: post → ∃ Gx, Tg g r x (st (pre.foldl f s0)) Gx ∧
      Sv H0' Gx tb { D with nx := Have H0' (st (f (pre.foldl f s0) x)), ct := Have H0' (st (f (pre.foldl f s0) x)), bk := D.nx })
    (after : Nx H0 (st (xs.foldl f s0)) D.nx) : Sv H0 G (tFor wi g tb) D :=
  l_forI st (fun pre s => s = pre.foldl f s0) s0 hw h0 rfl (fun H0' e pre x post s hx hs => by
    subst hs
    obtain ⟨Gx, ht, hb⟩ := body H0' e pre x post hx
    have key : (fun σ H => ∃ s', s' = (pre ++ [x]).foldl f s0 ∧ Have H0' (st s') σ H) = Have H0' (st (f (pre.foldl f s0) x)) := by
      funext σ H
      have e0 : (pre ++ [x]).foldl f s0 = f (pre.foldl f s0) x := by rw [List.foldl_append]; rfl
      refine propext ⟨fun ⟨s', hs', h⟩ => ?_, fun h => ⟨_, e0.symm, h⟩⟩
      rw [hs', e0] at h
      exact h
    exact ⟨Gx, ht, by rw [key]; exact hb⟩) fun s hs => by subst hs; exact after

theorem q_for {xs : List α} (st : S → Cells K) (f : S → α → S) (s0 : S) (hw : Wk wi r G G' xs) (h0 : Sub G' (st s0))
    (body : ∀ H0', Same H0 H0' → ∀ pre x post, xs = pre ++ x :: post → ∃ Gx, Tg g r x (st (pre.foldl f s0)) Gx ∧
      Sv H0' Gx tb { nx := Have H0' (st (f (pre.foldl f s0) x)), rt := D.rt, bk := u D, ct := Have H0' (st (f (pre.foldl f s0) x)) })
    (after : Sv H0 (st (xs.foldl f s0)) u D) : Sv H0 G (tSeq (tFor wi g tb) u) D := l_for (D := { D with nx := u D }) st f s0 hw h0 body after
theorem q_forI {xs : List α} (st : S → Cells K) (I : List α → S → Prop) (s0 : S) (hw : Wk wi r G G' xs) (h0 : Sub G' (st s0)) (i0 : I [] s0)
    (body : ∀ H0', Same H0 H0' → ∀ pre x post s, xs = pre ++ x :: post → I pre s → ∃ Gx, Tg g r x (st s) Gx ∧
      Sv H0' Gx tb { nx := fun σ H => ∃ s', I (pre ++ [x]) s' ∧ Have H0' (st s') σ H, rt := D.rt, bk := u D, ct := fun σ H => ∃ s', I (pre ++ [x]) s' ∧ Have H0' (st s') σ H })
    (after : ∀ s, I xs s → Sv H0 (st s) u D) : Sv H0 G (tSeq (tFor wi g tb) u) D := l_forI (D := { D with nx := u D }) st I s0 hw h0 i0 body after

/-- a loop that leaves by return where p fails -/
theorem q_search {xs : List α} (st : Cells K) (p : α → Bool) (hw : Wk wi r G G' xs) (h0 : Sub G' st)
    (body : ∀ H0', Same H0 H0' → ∀ pre x post, xs = pre ++ x :: post → (∀ y ∈ pre, p y = true) → ∃ Gx, Tg g r x st Gx ∧
      Sv H0' Gx tb { nx := fun σ H => p x = true ∧ Have H0' st σ H, rt := D.rt, bk := u D, ct := fun σ H => p x = true ∧ Have H0' st σ H })
    (after : (∀ x ∈ xs, p x = true) → Sv H0 st u D) : Sv H0 G (tSeq (tFor wi g tb) u) D :=
  q_forI (fun _ => st) (fun pre (_ : Unit) => ∀ y ∈ pre, p y = true) () hw h0 (fun _ h => nomatch h) (fun H0' e pre x post _ hx hI => by
    obtain ⟨Gx, ht, hb⟩ := body H0' e pre x post hx hI
    have key : (fun (σ : L2.St) (H : Hp) => ∃ s' : Unit, (∀ y ∈ pre ++ [x], p y = true) ∧ Have H0' st σ H) = (fun σ H => p x = true ∧ Have H0' st σ H) := by
      funext σ H
      refine propext ⟨fun ⟨_, h1, h2⟩ => ⟨h1 x (by simp), h2⟩, fun ⟨h1, h2⟩ => ⟨(), fun y hy => ?_, h2⟩⟩
      rcases List.mem_append.mp hy with q | q
      · exact hI y q
      · cases List.mem_singleton.mp q; exact h1
    exact ⟨Gx, ht, by rw [key]; exact hb⟩) fun _ h => after h

/-! ### while -/
theorem l_while {tc : TT} (st : S → Cells K) (I : S → Prop) (m : S → Nat) (s0 : S) (h0 : Sub G (st s0)) (i0 : I s0)
    (turn : ∀ H0', Same H0 H0' → ∀ s, I s → ∃ c, EvT tc (st s) c ∧ (c = true → Sv H0' (st s) tb { D with nx := fun σ H => ∃ s', I s' ∧ m s' < m s ∧ Have H0' (st s') σ H, ct := fun σ H => ∃ s', I s' ∧ m s' < m s ∧ Have H0' (st s') σ H, bk := D.nx }))
    (after : ∀ s, I s → EvT tc (st s) false → Nx H0 (st s) D.nx) : Sv H0 G (tWhile tc tb) D := fun σ H ⟨H1, e1, E⟩ => by
  refine ⟨fun k σ' Hh => ∃ s, I s ∧ m s = k ∧ Have H0 (st s) σ' Hh, ⟨m s0, s0, i0, rfl, H1, e1, E.less h0⟩, ?_⟩
  rintro k σ' Hh ⟨s, hI, hm, H2, s2, E2⟩
  obtain ⟨c, hc, hb⟩ := turn H0 (Same.refl _) s hI
  refine hc H2 σ' Hh E2 _ fun H' e' => ?_
  cases c with
  | true =>
    refine iteT ⟨_, fun σ2 Hh2 ⟨s', hI', hlt, hv⟩ => ⟨m s', by omega, s', hI', rfl, hv⟩, hb rfl σ' H' ⟨H2, s2, E2.grow e'⟩⟩
  | false => exact iteF (after s hI hc σ' H' ⟨H2, s2, E2.grow e'⟩)

theorem q_while {tc : TT} (st : S → Cells K) (I : S → Prop) (m : S → Nat) (s0 : S) (h0 : Sub G (st s0)) (i0 : I s0)
    (turn : ∀ H0', Same H0 H0' → ∀ s, I s → ∃ c, EvT tc (st s) c ∧ (c = true → Sv H0' (st s) tb { nx := fun σ H => ∃ s', I s' ∧ m s' < m s ∧ Have H0' (st s') σ H, rt := D.rt, bk := u D, ct := fun σ H => ∃ s', I s' ∧ m s' < m s ∧ Have H0' (st s') σ H }))
    (after : ∀ s, I s → EvT tc (st s) false → Sv H0 (st s) u D) : Sv H0 G (tSeq (tWhile tc tb) u) D := l_while (D := { D with nx := u D }) st I m s0 h0 i0 turn after

/-! ### comprehensions -/
def wipeG (G : Cells K) : List Nat → Cells K
  | [] => G
  | v :: vs => (wipeG G vs).set v none
theorem wipeG_get {i : Nat} {c : Cell K} : ∀ {vs : List Nat}, (wipeG G vs)[i]? = some (some c) → G[i]? = some (some c) ∧ i ∉ vs
  | [], h => ⟨h, by simp⟩
  | v :: vs, h => by
    unfold wipeG at h
    by_cases hi : v = i
    · subst hi
      by_cases hv : v < (wipeG G vs).length
      · rw [List.getElem?_set_self hv] at h; cases h
      · rw [List.getElem?_eq_none (by simpa using hv)] at h; cases h
    · rw [List.getElem?_set_ne hi] at h
      obtain ⟨h1, h2⟩ := wipeG_get h
      exact ⟨h1, by simp only [List.mem_cons, not_or]; exact ⟨fun e => hi e.symm, h2⟩⟩
theorem wipeG_len : ∀ vs : List Nat, (wipeG G vs).length = G.length
  | [] => rfl
  | v :: vs => by unfold wipeG; rw [List.length_set, wipeG_len vs]
theorem wipe_out' {i : Nat} : ∀ {vs : List Nat}, i ∉ vs → (wipe σ vs)[i]? = σ[i]?
  | [], _ => rfl
  | v :: vs, h => by
    have h1 : v ≠ i := fun e => h (by rw [e]; exact List.mem_cons_self)
    unfold wipe
    rw [List.getElem?_set_ne h1]
    exact wipe_out' fun z => h (List.mem_cons_of_mem _ z)
theorem wipe_in {i : Nat} : ∀ {vs : List Nat}, i ∈ vs → i < σ.length → (wipe σ vs)[i]? = some none
  | [], h, _ => by cases h
  | v :: vs, h, hl => by
    unfold wipe
    by_cases hv : v = i
    · subst hv
      rw [List.getElem?_set_self (by rw [wipe_length]; exact hl)]
    · rw [List.getElem?_set_ne hv]
      rcases List.mem_cons.mp h with e | e
      · exact absurd e.symm hv
      · exact wipe_in e hl
theorem wipe_set {i : Nat} {v : Option V} {vs : List Nat} (h : i ∈ vs) : wipe ((wipe σ vs).set i v) vs = wipe σ vs := by
  apply List.ext_getElem?
  intro j
  by_cases hj : j ∈ vs
  · by_cases hl : j < σ.length
    · rw [wipe_in hj hl, wipe_in hj (by rw [List.length_set, wipe_length]; exact hl)]
    · rw [List.getElem?_eq_none (by rw [wipe_length, List.length_set, wipe_length]; omega), List.getElem?_eq_none (by rw [wipe_length]; omega)]
  · rw [wipe_out' hj, List.getElem?_set_ne fun e => hj (by rw [← e]; exact h)]
theorem Env.wipe (E : Env H1 σ H G) (vs : List Nat) : Env H1 (L2.wipe σ vs) H (wipeG G vs) := by
  obtain ⟨own, h1, h2, h3⟩ := E.at_
  refine ⟨E.old, by rw [wipe_length, wipeG_len]; exact E.len, own, h1, h2, fun i c hc => ?_⟩
  obtain ⟨a, b⟩ := wipeG_get hc
  obtain ⟨v, hv, hk⟩ := h3 i c a
  exact ⟨v, by rw [wipe_out' b]; exact hv, hk⟩
/-- the target of a comprehension -/
def Tb (g : TG) (r : Rp α) (x : α) (vs : List Nat) (G G' : Cells K) : Prop := ∀ H1 σ σ0 H v, σ = wipe σ0 vs → Env H1 σ H G → r H v x → ∀ P : L2.St → Hp → Prop, (∀ σ', Env H1 σ' H G' → wipe σ' vs = wipe σ0 vs → P σ' H) → g v σ H P
theorem tb_name {r : Rp α} [F : Frz K r] {x : α} {i : Nat} {vs : List Nat} (hi : i ∈ vs := by decide) : Tb (gName i) r x vs G (G.set i (fc r x)) := fun H1 σ σ0 H v e E h P k => by
  subst e
  exact k _ (E.put (R := fz K r) (as := []) (Same.refl H) (fun _ z => nomatch z) ⟨rfl, stb h⟩) (wipe_set hi)
theorem wipe_set2 {i : Nat} {v : Option V} {vs : List Nat} (h : i ∈ vs) : wipe (σ.set i v) vs = wipe σ vs := by
  apply List.ext_getElem?
  intro j
  by_cases hj : j ∈ vs
  · by_cases hl : j < σ.length
    · rw [wipe_in hj hl, wipe_in hj (by rw [List.length_set]; exact hl)]
    · rw [List.getElem?_eq_none (by rw [wipe_length, List.length_set]; omega), List.getElem?_eq_none (by rw [wipe_length]; omega)]
  · rw [wipe_out' hj, List.getElem?_set_ne (fun e => hj (by rw [← e]; exact h)), wipe_out' hj]
theorem tb_pair {r : Rp α} {q : Rp β} [F : Frz K r] [F' : Frz K q] {p : α × β} {i j : Nat} {vs : List Nat} (hi : i ∈ vs := by decide) (hj : j ∈ vs := by decide) : Tb (gTup K 2 (gCons (gName i) (gCons (gName j) gNil))) (rP K r q) p vs G ((G.set i (fc r p.1)).set j (fc q p.2)) := fun H1 σ σ0 H v e0 E ⟨a, x, y, e, h, h1, h2⟩ P k => by
  subst e0
  exact ⟨a, [x, y], e, h, rfl, x, [y], rfl, y, [], rfl, rfl, k _ ((E.put (R := fz K r) (as := []) (Same.refl H) (fun _ z => nomatch z) ⟨rfl, stb h1⟩).put (R := fz K q) (as := []) (Same.refl H) (fun _ z => nomatch z) ⟨rfl, stb h2⟩) (by rw [wipe_set2 hj, wipe_set hi])⟩
theorem getE_last {X : Type _} {l : List X} {x : X} : (l ++ [x])[l.length]? = some x := by simp
theorem getE_old {X : Type _} {l : List X} {x y : X} {i : Nat} (h : l[i]? = some y) : (l ++ [x])[i]? = some y := by
  rw [List.getElem?_append_left (List.getElem?_eq_some_iff.mp h).1]
  exact h
theorem Env.pad (E : Env H1 σ H G) : Env H1 (σ ++ [none]) H (G ++ [none]) := by
  obtain ⟨own, g1, g2, g3⟩ := E.at_
  refine ⟨E.old, by rw [List.length_append, List.length_append, E.len]; rfl, own, g1, g2, fun i c hc => ?_⟩
  by_cases hi : i < G.length
  · rw [List.getElem?_append_left hi] at hc
    obtain ⟨v, hv, hk⟩ := g3 i c hc
    exact ⟨v, getE_old hv, hk⟩
  · rw [List.getElem?_append_right (by omega)] at hc
    cases h : i - G.length with
    | zero => rw [h] at hc; simp at hc
    | succ n => rw [h] at hc; simp at hc
theorem Env.trunc {x : Option V} {c : Option (Cell K)} (E : Env H1 (σ ++ [x]) H (G ++ [c])) : Env H1 σ H G := by
  obtain ⟨own, g1, g2, g3⟩ := E.at_
  have hl : σ.length = G.length := by
    have := E.len
    rw [List.length_append, List.length_append] at this
    simpa using this
  refine ⟨E.old, hl, own, g1, g2, fun i c hc => ?_⟩
  obtain ⟨v, hv, hk⟩ := g3 i c (getE_old hc)
  have hi : i < σ.length := by rw [hl]; exact (List.getElem?_eq_some_iff.mp hc).1
  rw [List.getElem?_append_left hi] at hv
  exact ⟨v, hv, hk⟩
theorem set_last {X : Type _} {l : List X} {x y : X} : (l ++ [x]).set l.length y = l ++ [y] := by simp
theorem Env.push {D : Addr} {q : Rp β} (E : Env H1 σ H G) (hD : H D = none) : Env H1 (σ ++ [some (.ref D)]) (upd H D (.lst [])) (G ++ [some (.ow (nl K q) [])]) := by
  have e : Same H (upd H D (.lst [])) := fun b o hb => by rw [upd_ne (ne_of_none hb hD)]; exact hb
  have E2 := E.pad.put (i := G.length) (v := .ref D) (R := nl K q) (b := []) (as := [D]) e (fun p hp => by rw [List.mem_singleton.mp hp]; exact hD) ⟨D, [], rfl, rfl, upd_same, .nil⟩
  have e1 : (σ ++ [none]).set G.length (some (V.ref D)) = σ ++ [some (.ref D)] := by rw [← E.len]; exact set_last
  rw [e1, set_last] at E2
  exact E2
theorem nw_lc {vs : List Nat} {f : β' → γ} {p : β' → Bool} {q : Rp γ} [F : Frz K q] {r : Rp β'} {ys : List β'} (hw : Wk wi r G G' ys) (hlen : ys.length ≤ 100000)
    (turn : ∀ pre x post, ys = pre ++ x :: post → ∃ Gx, Tb g r x vs (wipeG G' vs) Gx ∧ EvT tt Gx (p x) ∧ (p x = true → Ev q te Gx (f x))) :
    Nw (nl K q) (tLc wi g tt te vs) G ((ys.filter p).map f) := fun H1 σ H E Q k => by
  refine hw H1 σ H E _ fun J H2 Hs s1 sH E2 W => ?_
  intro D hD
  have E3 := (E2.wipe vs).push (q := q) hD
  have Mk : ∀ h, Env H2 (L2.wipe σ vs ++ [some (.ref D)]) h (wipeG G' vs ++ [some (.ow (nl K q) ((ys.filter p).map f))]) → Same Hs h → Q (.ref D) h := fun h Eh sh => by
    obtain ⟨own, g1, g2, g3⟩ := Eh.at_
    have hlg : (L2.wipe σ vs).length = (wipeG G' vs).length := (E2.wipe vs).len
    obtain ⟨v, hv, p', ws, e1, e2, e3, e4⟩ := g3 _ _ getE_last
    rw [← hlg, getE_last] at hv
    cases hv
    cases e2
    exact k _ h [D] (sH.trans sh) (fun b hb => by rw [List.mem_singleton.mp hb]; exact sH.free hD) ⟨D, ws, rfl, rfl, e3, e4⟩
  have same0 : Same Hs (upd Hs D (.lst [])) := fun b o hb => by rw [upd_ne (ne_of_none hb hD)]; exact hb
  refine ⟨fun i m h => i + m = ys.length ∧ Same Hs h ∧ Env H2 (L2.wipe σ vs ++ [some (.ref D)]) h (wipeG G' vs ++ [some (.ow (nl K q) (((ys.take i).filter p).map f))]), ⟨ys.length, Nat.zero_add _, same0, E3⟩, ?_⟩
  rintro i m h ⟨hi, sh, Eh⟩
  by_cases hl : i < ys.length
  · have hx : ys[i]? = some ys[i] := List.getElem?_eq_getElem hl
    have etk : ys.take (i + 1) = ys.take i ++ [ys[i]] := by rw [List.take_add_one, hx]; rfl
    obtain ⟨g1, g2⟩ := W.go h i _ (E2.old.trans sh) hx
    refine .inr ⟨g1, fun h' => Same Hs h' ∧ Env H2 (L2.wipe σ vs ++ [some (.ref D)]) h' (wipeG G' vs ++ [some (.ow (nl K q) (((ys.take (i + 1)).filter p).map f))]), fun h' z => ⟨m - 1, by omega, by omega, z⟩, fun v h2 hy => ?_⟩
    obtain ⟨e2, z⟩ := g2 v h2 hy
    have hsp : ys = ys.take i ++ ys[i] :: ys.drop (i + 1) := by rw [List.getElem_cons_drop, List.take_append_drop]
    obtain ⟨Gx, ht, hb, he⟩ := turn (ys.take i) ys[i] (ys.drop (i + 1)) hsp
    refine ht H2 _ σ h2 v rfl (Eh.trunc.grow e2) z _ fun σ2 E4 hwp => ⟨hwp, hb H2 σ2 h2 E4 _ fun h3 e3 => ?_⟩
    cases hp : p ys[i] with
    | false =>
      refine iteF ⟨(sh.trans e2).trans e3, ?_⟩
      have : ((ys.take (i + 1)).filter p).map f = ((ys.take i).filter p).map f := by
        rw [etk, List.filter_append, List.filter_cons, if_neg (by rw [hp]; exact Bool.false_ne_true), List.filter_nil, List.append_nil]
      rw [this]
      exact Eh.grow (e2.trans e3)
    | true =>
      refine iteT (he hp H2 σ2 h3 (E4.grow e3) _ fun y h4 e4 hq => ?_)
      have E5 := Eh.grow ((e2.trans e3).trans e4)
      obtain ⟨own, k1, k2, k3⟩ := id E5.at_
      have hlg : (L2.wipe σ vs).length = (wipeG G' vs).length := (E2.wipe vs).len
      obtain ⟨w, hw', p', ws, a1, a2, a3, a4⟩ := k3 _ _ getE_last
      have hw2 := hw'
      rw [← hlg, getE_last] at hw'
      cases hw'
      cases a2
      have hlw : ws.length ≤ 100000 := by
        rw [a4.len, List.length_map]
        exact Nat.le_trans (List.length_filter_le _ _) (Nat.le_trans (by rw [List.length_take]; exact Nat.min_le_right _ _) hlen)
      refine ⟨ws, a3, Nat.lt_of_le_of_lt hlw (by decide), ?_, ?_⟩
      · intro b o hb
        rw [upd_ne (ne_of_none hb hD)]
        exact e4 _ _ (e3 _ _ (e2 _ _ (sh _ _ hb)))
      · have E6 := app_env (x := f ys[i]) E5 getE_last hw2 a3 a4 (stb hq)
        rw [set_last] at E6
        have : ((ys.take (i + 1)).filter p).map f = ((ys.take i).filter p).map f ++ [f ys[i]] := by
          rw [etk, List.filter_append, List.filter_cons, if_pos hp, List.filter_nil, List.map_append]
          rfl
        rw [this]
        exact E6
  · have hi' : i = ys.length := by omega
    subst hi'
    rw [List.take_length] at Eh
    exact .inl ⟨W.stop h (E2.old.trans sh), Mk h Eh sh⟩
theorem et_yes : EvT tYes G true := fun H1 σ H E Q k => k H (Same.refl H)
/-- a comprehension without a test -/
theorem nw_lc1 {vs : List Nat} {f : β' → γ} {q : Rp γ} [F : Frz K q] {r : Rp β'} {ys : List β'} (hw : Wk wi r G G' ys) (hlen : ys.length ≤ 100000)
    (turn : ∀ pre x post, ys = pre ++ x :: post → ∃ Gx, Tb g r x vs (wipeG G' vs) Gx ∧ Ev q te Gx (f x)) :
    Nw (nl K q) (tLc wi g tYes te vs) G (ys.map f) := by
  have := nw_lc (p := fun _ => true) (f := f) (tt := tYes) hw hlen fun pre x post h => by
    obtain ⟨Gx, h1, h2⟩ := turn pre x post h
    exact ⟨Gx, h1, et_yes, fun _ => h2⟩
  rw [List.filter_eq_self.mpr fun _ _ => rfl] at this
  exact this
end
end Gt
/-! Gt4: operators, built-in functions and methods, from data to data. -/
namespace Gt
open PySem PySem.Spec PyProof.Rows L2

theorem sz {n : Nat} (h : n ≤ 100000) : n ≤ sizeLine := Nat.le_trans h (by decide)
section
variable {K : PySem.W.Frag} {H0 H1 H H' : Hp} {σ : L2.St} {G G' Gx : Cells K} {α β γ S : Type}
variable {ta tb tc te : TE} {tt tu tv : TT} {r : Rp α} {q : Rp β} {a x : α} {b y : β} {i j n m : Int} {s t : Str} {c d : Bool}

/-! ### ints -/
theorem ev_add (ha : Ev rI ta G i) (hb : Ev rI tb G j) : Ev rI (tOp (rI0 fun i j => .int (i + j)) ta tb) G (i + j) := ev_op ha hb (op_I0 fun _ => rfl)
theorem ev_sub (ha : Ev rI ta G i) (hb : Ev rI tb G j) : Ev rI (tOp (rI0 fun i j => .int (i - j)) ta tb) G (i - j) := ev_op ha hb (op_I0 fun _ => rfl)
theorem ev_mul (ha : Ev rI ta G i) (hb : Ev rI tb G j) (h : CMul i j) : Ev rI (tOp (L2.rI CMul fun i j => .int (i * j)) ta tb) G (i * j) := ev_op ha hb (op_I h fun _ => rfl)
theorem ev_div (ha : Ev rI ta G i) (hb : Ev rI tb G j) (h : CDiv i j) : Ev rI (tOp (L2.rI CDiv fun i j => .int (i / j)) ta tb) G (i / j) := ev_op ha hb (op_I h fun _ => rfl)
theorem ev_mod (ha : Ev rI ta G i) (hb : Ev rI tb G j) (h : 0 < j) : Ev rI (tOp (L2.rI (fun _ j => 0 < j) fun i j => .int (i % j)) ta tb) G (i % j) := ev_op ha hb (op_I h fun _ => rfl)
theorem ev_pow (ha : Ev rI ta G i) (hb : Ev rI tb G j) (h : CPow i j) : Ev rI (tOp (L2.rI CPow fun i j => .int (i ^ j.toNat)) ta tb) G (i ^ j.toNat) := ev_op ha hb (op_I h fun _ => rfl)
theorem ev_lt (ha : Ev rI ta G i) (hb : Ev rI tb G j) : Ev rB (tOp (rI0 fun i j => .bl (decide (i < j))) ta tb) G (decide (i < j)) := ev_op ha hb (op_I0 fun _ => rfl)
theorem ev_le (ha : Ev rI ta G i) (hb : Ev rI tb G j) : Ev rB (tOp (rI0 fun i j => .bl (decide (i ≤ j))) ta tb) G (decide (i ≤ j)) := ev_op ha hb (op_I0 fun _ => rfl)
theorem ev_gt (ha : Ev rI ta G i) (hb : Ev rI tb G j) : Ev rB (tOp (rI0 fun i j => .bl (decide (j < i))) ta tb) G (decide (j < i)) := ev_op ha hb (op_I0 fun _ => rfl)
theorem ev_ge (ha : Ev rI ta G i) (hb : Ev rI tb G j) : Ev rB (tOp (rI0 fun i j => .bl (decide (j ≤ i))) ta tb) G (decide (j ≤ i)) := ev_op ha hb (op_I0 fun _ => rfl)
theorem ev_neg (ha : Ev rI ta G i) : Ev rI (tUn (rU fun i => .int (-i)) ta) G (-i) := fun H0 σ H E Q k => ha H0 σ H E _ fun u H' e h => ⟨i, h, k _ H' e rfl⟩
theorem ev_chain {o o' : Int → Int → V} {f f' : Int → Int → Bool} (h1 : ∀ i j, o i j = .bl (f i j)) (h2 : ∀ i j, o' i j = .bl (f' i j)) (ha : Ev rI ta G i) (hb : Ev rI tb G j) (hc : Ev rI tc G n) : Ev rB (tChain (rI0 o) (rI0 o') ta tb tc) G (f i j && f' j n) := fun H0 σ H E Q k =>
  ha H0 σ H E _ fun u H1 e1 z1 => hb H0 σ H1 (E.grow e1) _ fun v H2 e2 z2 => ⟨i, j, z1, z2, f i j, h1 i j, by
    cases hf : f i j with
    | false => exact iteF (k _ H2 (e1.trans e2) (by rw [hf]; rfl))
    | true => exact iteT (hc H0 σ H2 (E.grow (e1.trans e2)) _ fun w H3 e3 z3 => ⟨j, n, z2, z3, k _ H3 ((e1.trans e2).trans e3) (by rw [hf, h2]; rfl)⟩)⟩
theorem ev_chain_le (ha : Ev rI ta G i) (hb : Ev rI tb G j) (hc : Ev rI tc G n) : Ev rB (tChain (rI0 fun i j => .bl (decide (i ≤ j))) (rI0 fun i j => .bl (decide (i ≤ j))) ta tb tc) G (decide (i ≤ j) && decide (j ≤ n)) :=
  ev_chain (f := fun i j => decide (i ≤ j)) (f' := fun i j => decide (i ≤ j)) (fun _ _ => rfl) (fun _ _ => rfl) ha hb hc
theorem ev_chain_lelt (ha : Ev rI ta G i) (hb : Ev rI tb G j) (hc : Ev rI tc G n) : Ev rB (tChain (rI0 fun i j => .bl (decide (i ≤ j))) (rI0 fun i j => .bl (decide (i < j))) ta tb tc) G (decide (i ≤ j) && decide (j < n)) :=
  ev_chain (f := fun i j => decide (i ≤ j)) (f' := fun i j => decide (i < j)) (fun _ _ => rfl) (fun _ _ => rfl) ha hb hc

/-! ### == of flat things -/
theorem ev_eqI (ha : Ev rI ta G i) (hb : Ev rI tb G j) : Ev rB (tOp rEq ta tb) G (decide (i = j)) := ev_op ha hb fun H u v hu hv Q k => by
  cases hu; cases hv
  exact ⟨rfl, k _ H (Same.refl H) (by show V.bl _ = V.bl _; congr 1; exact decide_eq_decide.mpr ⟨fun h => V.int.inj h, fun h => by rw [h]⟩)⟩
theorem ev_neI (ha : Ev rI ta G i) (hb : Ev rI tb G j) : Ev rB (tOp rNe ta tb) G (!decide (i = j)) := ev_op ha hb fun H u v hu hv Q k => by
  cases hu; cases hv
  exact ⟨rfl, k _ H (Same.refl H) (by show V.bl _ = V.bl _; congr 2; exact decide_eq_decide.mpr ⟨fun h => V.int.inj h, fun h => by rw [h]⟩)⟩
theorem ev_eqS (ha : Ev rS ta G s) (hb : Ev rS tb G t) : Ev rB (tOp rEq ta tb) G (decide (s = t)) := ev_op ha hb fun H u v ⟨hu, _⟩ ⟨hv, _⟩ Q k => by
  cases hu; cases hv
  exact ⟨rfl, k _ H (Same.refl H) (by show V.bl _ = V.bl _; congr 1; exact decide_eq_decide.mpr ⟨fun h => V.str.inj h, fun h => by rw [h]⟩)⟩
theorem ev_neS (ha : Ev rS ta G s) (hb : Ev rS tb G t) : Ev rB (tOp rNe ta tb) G (!decide (s = t)) := ev_op ha hb fun H u v ⟨hu, _⟩ ⟨hv, _⟩ Q k => by
  cases hu; cases hv
  exact ⟨rfl, k _ H (Same.refl H) (by show V.bl _ = V.bl _; congr 2; exact decide_eq_decide.mpr ⟨fun h => V.str.inj h, fun h => by rw [h]⟩)⟩
theorem ev_eqB (ha : Ev rB ta G c) (hb : Ev rB tb G d) : Ev rB (tOp rEq ta tb) G (decide (c = d)) := ev_op ha hb fun H u v hu hv Q k => by
  cases hu; cases hv
  exact ⟨rfl, k _ H (Same.refl H) (by show V.bl _ = V.bl _; congr 1; exact decide_eq_decide.mpr ⟨fun h => V.bl.inj h, fun h => by rw [h]⟩)⟩
theorem ev_neB (ha : Ev rB ta G c) (hb : Ev rB tb G d) : Ev rB (tOp rNe ta tb) G (!decide (c = d)) := ev_op ha hb fun H u v hu hv Q k => by
  cases hu; cases hv
  exact ⟨rfl, k _ H (Same.refl H) (by show V.bl _ = V.bl _; congr 2; exact decide_eq_decide.mpr ⟨fun h => V.bl.inj h, fun h => by rw [h]⟩)⟩
/-- is None -/
def isNone' {α : Type} : Option α → Bool
  | .none => true
  | .some _ => false
class NotNon {α : Type} (r : Rp α) : Prop where
  nn : ∀ {H : Hp} {v : V} {a : α}, r H v a → v ≠ .non
instance : NotNon rI := ⟨fun h z => by rw [z] at h; cases h⟩
instance : NotNon rS := ⟨fun h z => by rw [z] at h; exact nomatch h.1⟩
instance : NotNon rB := ⟨fun h z => by rw [z] at h; cases h⟩
instance {r : Rp α} : NotNon (rT K r) := ⟨fun ⟨_, _, e, _⟩ z => by rw [z] at e; cases e⟩
instance {r : Rp α} {q : Rp β} : NotNon (rP K r q) := ⟨fun ⟨_, _, _, e, _⟩ z => by rw [z] at e; cases e⟩
instance {r : Rp α} : NotNon (rL r) := ⟨fun ⟨_, _, e, _⟩ z => by rw [z] at e; cases e⟩
theorem isNone_of {r : Rp α} [N : NotNon r] {v : V} {o : Option α} (h : rO r H v o) : decide (v = .non) = isNone' o := by
  cases o with
  | none => exact decide_eq_true h
  | some a => exact decide_eq_false (N.nn (r := r) (H := H) (a := a) h)
theorem ev_isN [N : NotNon r] [M : Mono r] {o : Option α} (ha : Ev (rO r) ta G o) : Ev rB (tOp (fun x y H Q => y = .non ∧ Q (.bl (decide (x = .non))) H) ta (tC .non)) G (isNone' o) := fun H0 σ H E Q k =>
  ha H0 σ H E _ fun u H1 e1 z => ⟨rfl, k _ H1 e1 (by show V.bl _ = V.bl _; rw [isNone_of z])⟩
theorem ev_notN [N : NotNon r] [M : Mono r] {o : Option α} (ha : Ev (rO r) ta G o) : Ev rB (tOp (fun x y H Q => y = .non ∧ Q (.bl (!decide (x = .non))) H) ta (tC .non)) G (!isNone' o) := fun H0 σ H E Q k =>
  ha H0 σ H E _ fun u H1 e1 z => ⟨rfl, k _ H1 e1 (by show V.bl _ = V.bl _; rw [isNone_of z])⟩

/-! ### tests, and, or, not, if -/
theorem et_test (h : Ev rB te G c) : EvT (tTest te) G c := fun H0 σ H E Q k => h H0 σ H E _ fun v H' e z => ⟨c, z, k H' e⟩
theorem et_B (h : Ev rB te G c) : EvT (tB te) G c := fun H0 σ H E Q k => h H0 σ H E _ fun v H' e z => ⟨c, z, k H' e⟩
theorem et_and (h1 : EvT tt G c) (h2 : c = true → EvT tu G d) : EvT (tAnd tt tu) G (c && d) := fun H0 σ H E Q k => h1 H0 σ H E _ fun H1 e1 => by
  cases c with
  | true => exact iteT (h2 rfl H0 σ H1 (E.grow e1) _ fun H2 e2 => k H2 (e1.trans e2))
  | false => exact iteF (k H1 e1)
theorem et_or (h1 : EvT tt G c) (h2 : c = false → EvT tu G d) : EvT (tOr tt tu) G (c || d) := fun H0 σ H E Q k => h1 H0 σ H E _ fun H1 e1 => by
  cases c with
  | true => exact iteT (k H1 e1)
  | false => exact iteF (h2 rfl H0 σ H1 (E.grow e1) _ fun H2 e2 => k H2 (e1.trans e2))
theorem et_not (h1 : EvT tt G c) : EvT (tNot tt) G (!c) := fun H0 σ H E Q k => h1 H0 σ H E _ fun H1 e1 => k H1 e1
theorem ev_and (h1 : Ev rB ta G c) (h2 : c = true → Ev rB tb G d) : Ev rB (tAndV ta tb) G (c && d) := fun H0 σ H E Q k => h1 H0 σ H E _ fun v H1 e1 z => ⟨c, z, by
  cases c with
  | true => exact iteT (h2 rfl H0 σ H1 (E.grow e1) _ fun w H2 e2 z2 => k w H2 (e1.trans e2) z2)
  | false => exact iteF (k _ H1 e1 rfl)⟩
theorem ev_or (h1 : Ev rB ta G c) (h2 : c = false → Ev rB tb G d) : Ev rB (tOrV ta tb) G (c || d) := fun H0 σ H E Q k => h1 H0 σ H E _ fun v H1 e1 z => ⟨c, z, by
  cases c with
  | true => exact iteT (k _ H1 e1 rfl)
  | false => exact iteF (h2 rfl H0 σ H1 (E.grow e1) _ fun w H2 e2 z2 => k w H2 (e1.trans e2) z2)⟩
theorem ev_not (h1 : Ev rB ta G c) : Ev rB (tNotV ta) G (!c) := fun H0 σ H E Q k => h1 H0 σ H E _ fun v H1 e1 z => ⟨c, z, k _ H1 e1 rfl⟩
theorem ev_if (h : EvT tt G c) (h1 : c = true → Ev r ta G a) (h2 : c = false → Ev r tb G x) : Ev r (tIf tt ta tb) G (bif c then a else x) := fun H0 σ H E Q k => h H0 σ H E _ fun H1 e1 => by
  cases c with
  | true => exact iteT (h1 rfl H0 σ H1 (E.grow e1) _ fun w H2 e2 z2 => k w H2 (e1.trans e2) z2)
  | false => exact iteF (h2 rfl H0 σ H1 (E.grow e1) _ fun w H2 e2 z2 => k w H2 (e1.trans e2) z2)
/-- truth -/
abbrev tTru (K : PySem.W.Frag) (ta : TE) : TT := fun σ H Q => ta σ H fun x H' => ∃ k, TruV K x H' k ∧ Q k H'
theorem et_truI (h : Ev rI ta G i) : EvT (tTru K ta) G (i != 0) := fun H0 σ H E Q k => h H0 σ H E _ fun v H1 e1 z => ⟨_, by rw [show v = .int i from z]; exact rfl, k H1 e1⟩
theorem et_truB (h : Ev rB ta G c) : EvT (tTru K ta) G c := fun H0 σ H E Q k => h H0 σ H E _ fun v H1 e1 z => ⟨_, by rw [show v = .bl c from z]; exact rfl, k H1 e1⟩
theorem et_truS (h : Ev rS ta G s) : EvT (tTru K ta) G ((s.length : Int) != 0) := fun H0 σ H E Q k => h H0 σ H E _ fun v H1 e1 z => ⟨_, by rw [show v = .str s from z.1]; exact ⟨sz z.2.1, rfl⟩, k H1 e1⟩
theorem a2_empty {r : α → β → Prop} {xs : List α} {ys : List β} (h : A2 r xs ys) : xs.isEmpty = ys.isEmpty := by cases h <;> rfl
theorem et_truL {xs : List α} (h : Ev (rL r) ta G xs) : EvT (tTru K ta) G (!xs.isEmpty) := fun H0 σ H E Q k => h H0 σ H E _ fun v H1 e1 ⟨p, vs, ev, hp, z⟩ => ⟨!xs.isEmpty, by rw [ev]; exact .inl ⟨vs, SqL.of hp, by rw [a2_empty z]⟩, k H1 e1⟩
theorem et_truT {xs : List α} (h : Ev (rT K r) ta G xs) : EvT (tTru K ta) G (!xs.isEmpty) := fun H0 σ H E Q k => h H0 σ H E _ fun v H1 e1 ⟨p, vs, ev, hp, z⟩ => ⟨!xs.isEmpty, by rw [ev]; exact .inr (.inl ⟨vs, hp, by rw [a2_empty z]⟩), k H1 e1⟩

/-! ### calls -/
theorem ea_nil : EvA aN tNil G () := fun H0 σ H E Q k => k [] H (Same.refl H) rfl
theorem ea_cons {A : Ra γ} {g : γ} {tr : TA} [M : Mono r] (h : Ev r te G a) (hr : EvA A tr G g) : EvA (aC r A) (tCons te tr) G (a, g) := fun H0 σ H E Q k =>
  h H0 σ H E _ fun v H1 e1 z1 => hr H0 σ H1 (E.grow e1) _ fun vs H2 e2 z2 => k _ H2 (e1.trans e2) ⟨v, vs, rfl, M.up e2 z1, z2⟩
theorem ev_call {A : Ra γ} {g : γ} {pre : γ → Prop} {f : γ → β} {E' : XK} {t : TA} (h : EvA A t G g) (hp : pre g) (e : f g = b) : Ev q (tCall (spF A pre q f) [] E' t) G b := fun H0 σ H E Q k =>
  h H0 σ H E _ fun vs H1 e1 z1 => by
    rw [List.append_nil]
    exact ⟨g, z1, hp, fun v H2 e2 z2 => k v H2 (e1.trans e2) (e ▸ z2)⟩
theorem nw_call {A : Ra γ} {g : γ} {pre : γ → Prop} {R : Rs K β} {f : γ → β} {E' : XK} {t : TA} (h : EvA A t G g) (hp : pre g) (e : f g = b) : Nw R (tCall (spN A pre R f) [] E' t) G b := fun H0 σ H E Q k =>
  h H0 σ H E _ fun vs H1 e1 z1 => by
    rw [List.append_nil]
    exact ⟨g, z1, hp, fun v H2 as e2 hn z2 => k v H2 as (e1.trans e2) (fun p hp => free_back e1 (hn p hp)) (e ▸ z2)⟩
/-- a built-in function -/
def CbE (o : List V → Hp → VK → Prop) (A : Ra γ) (q : Rp β) (g : γ) (b : β) : Prop := ∀ H vs, A H vs g → ∀ Q : VK, (∀ w H', Same H H' → q H' w b → Q w H') → o vs H Q
def CbN (o : List V → Hp → VK → Prop) (A : Ra γ) (R : Rs K β) (g : γ) (b : β) : Prop := ∀ H vs, A H vs g → ∀ Q : VK, (∀ w H' as, Same H H' → (∀ p, p ∈ as → H p = none) → R.rep H' w b as → Q w H') → o vs H Q
theorem ev_cb {o : List V → Hp → VK → Prop} {A : Ra γ} {g : γ} {t : TA} (h : EvA A t G g) (ho : CbE o A q g b) : Ev q (tCB o t) G b := fun H0 σ H E Q k =>
  h H0 σ H E _ fun vs H1 e1 z1 => ho H1 vs z1 Q fun v H2 e2 z2 => k v H2 (e1.trans e2) z2
theorem nw_cb {o : List V → Hp → VK → Prop} {A : Ra γ} {g : γ} {t : TA} {R : Rs K β} (h : EvA A t G g) (ho : CbN o A R g b) : Nw R (tCB o t) G b := fun H0 σ H E Q k =>
  h H0 σ H E _ fun vs H1 e1 z1 => ho H1 vs z1 Q fun v H2 as e2 hn z2 => k v H2 as (e1.trans e2) (fun p hp => free_back e1 (hn p hp)) z2
abbrev rLenU (K : PySem.W.Frag) : List V → Hp → VK → Prop := fun xs H Q => ∃ x n, xs = [x] ∧ LenV K x H n ∧ Q (.int n) H
theorem ev_lenL {xs : List α} [M : Mono r] (h : Ev (rL r) te G xs) : Ev rI (tCB (rLenU K) (tCons te tNil)) G (xs.length : Int) := ev_cb (ea_cons h ea_nil) fun H vs ⟨v, ws, e, ⟨p, us, ev, hp, z⟩, e2⟩ Q k =>
  ⟨v, us.length, by rw [e, show ws = [] from e2], by rw [ev]; exact .inl ⟨us, SqL.of hp, rfl⟩, k _ H (Same.refl H) (by rw [z.len]; rfl)⟩
theorem ev_lenT {xs : List α} [M : Mono r] (h : Ev (rT K r) te G xs) : Ev rI (tCB (rLenU K) (tCons te tNil)) G (xs.length : Int) := ev_cb (ea_cons h ea_nil) fun H vs ⟨v, ws, e, ⟨p, us, ev, hp, z⟩, e2⟩ Q k =>
  ⟨v, us.length, by rw [e, show ws = [] from e2], by rw [ev]; exact .inr ⟨us, hp, rfl⟩, k _ H (Same.refl H) (by rw [z.len]; rfl)⟩
theorem ev_lenS (h : Ev rS te G s) : Ev rI (tCB (rLenU K) (tCons te tNil)) G (s.length : Int) := ev_cb (ea_cons h ea_nil) fun H vs ⟨v, ws, e, hv, e2⟩ Q k =>
  ⟨v, s.length, by rw [e, show ws = [] from e2], by rw [show v = .str s from hv.1]; exact ⟨sz hv.2.1, rfl⟩, k _ H (Same.refl H) rfl⟩
abbrev rIntU : List V → Hp → VK → Prop := fun xs H Q => (∃ i, xs = [.int i] ∧ Q (.int i) H) ∨ ∃ k, xs = [.bl k] ∧ Q (.int (if k then 1 else 0)) H
theorem ev_intI (h : Ev rI te G i) : Ev rI (tCB rIntU (tCons te tNil)) G i := ev_cb (ea_cons h ea_nil) fun H vs ⟨v, ws, e, hv, e2⟩ Q k =>
  .inl ⟨i, by rw [e, show ws = [] from e2, show v = .int i from hv], k _ H (Same.refl H) rfl⟩
def b2 (c : Bool) : Int := bif c then 1 else 0
theorem b2_small (c : Bool) : -(2 ^ 64) < b2 c ∧ b2 c < 2 ^ 64 := by cases c <;> decide
theorem ev_intB (h : Ev rB te G c) : Ev rI (tCB rIntU (tCons te tNil)) G (b2 c) := ev_cb (ea_cons h ea_nil) fun H vs ⟨v, ws, e, hv, e2⟩ Q k =>
  .inr ⟨c, by rw [e, show ws = [] from e2, show v = .bl c from hv], k _ H (Same.refl H) (by cases c <;> rfl)⟩
theorem bls {vs : List V} {bs : List Bool} (z : A2 (rB H) vs bs) : vs = bs.map V.bl := A2.map_eq z
theorem ev_all {bs : List Bool} (h : Ev (rL rB) te G bs) : Ev rB (tCB (rAll K) (tCons te tNil)) G (bs.all id) := ev_cb (ea_cons h ea_nil) fun H vs ⟨v, ws, e, ⟨p, us, ev, hp, z⟩, e2⟩ Q k =>
  ⟨p, bs, by rw [e, show ws = [] from e2, ev], by rw [← bls z]; exact SqL.of hp, k _ H (Same.refl H) rfl⟩
theorem ev_any {bs : List Bool} (h : Ev (rL rB) te G bs) : Ev rB (tCB (rAny K) (tCons te tNil)) G (bs.any id) := ev_cb (ea_cons h ea_nil) fun H vs ⟨v, ws, e, ⟨p, us, ev, hp, z⟩, e2⟩ Q k =>
  ⟨p, bs, by rw [e, show ws = [] from e2, ev], by rw [← bls z]; exact SqL.of hp, k _ H (Same.refl H) rfl⟩
theorem ev_sum {ns : List Int} (h : Ev (rL rI) te G ns) : Ev rI (tCB (rSum K) (tCons te tNil)) G ns.sum := ev_cb (ea_cons h ea_nil) fun H vs ⟨v, ws, e, ⟨p, us, ev, hp, z⟩, e2⟩ Q k =>
  ⟨p, ns, by rw [e, show ws = [] from e2, ev], by rw [show us = ns.map V.int from A2.map_eq z] at hp; exact SqL.of hp, k _ H (Same.refl H) rfl⟩
abbrev rListU (K : PySem.W.Frag) : List V → Hp → VK → Prop := fun xs H Q => ∃ p ys, xs = [.ref p] ∧ (SqL K H p ys ∨ SqT K H p ys) ∧ ∀ l, H l = none → Q (.ref l) (upd H l (.lst ys))
theorem same_new {p : Addr} {o : HO} (h : H p = none) : Same H (upd H p o) := fun b u e => by rw [upd_ne (ne_of_none e h)]; exact e
theorem nw_listL {xs : List α} [M : Mono r] [F : Frz K r] (h : Ev (rL r) te G xs) : Nw (nl K r) (tCB (rListU K) (tCons te tNil)) G xs := nw_cb (ea_cons h ea_nil) fun H vs ⟨v, ws, e, ⟨p, us, ev, hp, z⟩, e2⟩ Q k =>
  ⟨p, us, by rw [e, show ws = [] from e2, ev], .inl (SqL.of hp), fun l hl => k _ _ [l] (same_new hl) (fun b hb => by rw [List.mem_singleton.mp hb]; exact hl) ⟨l, us, rfl, rfl, upd_same, z.imp fun _ _ q => stb (M.up (same_new hl) q)⟩⟩
theorem nw_listT {xs : List α} [M : Mono r] [F : Frz K r] (h : Ev (rT K r) te G xs) : Nw (nl K r) (tCB (rListU K) (tCons te tNil)) G xs := nw_cb (ea_cons h ea_nil) fun H vs ⟨v, ws, e, ⟨p, us, ev, hp, z⟩, e2⟩ Q k =>
  ⟨p, us, by rw [e, show ws = [] from e2, ev], .inr hp, fun l hl => k _ _ [l] (same_new hl) (fun b hb => by rw [List.mem_singleton.mp hb]; exact hl) ⟨l, us, rfl, rfl, upd_same, z.imp fun _ _ q => stb (M.up (same_new hl) q)⟩⟩
abbrev rTupU (K : PySem.W.Frag) : List V → Hp → VK → Prop := fun xs H Q => ∃ p ys, xs = [.ref p] ∧ ((SqL K H p ys ∧ ∀ l, H l = none → Q (.ref l) (upd H l (.tup ys))) ∨ (SqT K H p ys ∧ Q (.ref p) H))
theorem ev_tupL {xs : List α} [M : Mono r] (h : Ev (rL r) te G xs) : Ev (rT K r) (tCB (rTupU K) (tCons te tNil)) G xs := ev_cb (ea_cons h ea_nil) fun H vs ⟨v, ws, e, ⟨p, us, ev, hp, z⟩, e2⟩ Q k =>
  ⟨p, us, by rw [e, show ws = [] from e2, ev], .inl ⟨SqL.of hp, fun l hl => k _ _ (same_new hl) ⟨l, us, rfl, SqT.of upd_same, z.imp fun _ _ q => M.up (same_new hl) q⟩⟩⟩
theorem ev_tupT {xs : List α} [M : Mono r] (h : Ev (rT K r) te G xs) : Ev (rT K r) (tCB (rTupU K) (tCons te tNil)) G xs := ev_cb (ea_cons h ea_nil) fun H vs ⟨v, ws, e, ⟨p, us, ev, hp, z⟩, e2⟩ Q k =>
  ⟨p, us, by rw [e, show ws = [] from e2, ev], .inr ⟨hp, k _ H (Same.refl H) ⟨p, us, rfl, hp, z⟩⟩⟩

/-! ### displays -/
def aAll (r : Rp α) : Ra (List α) := fun H vs xs => A2 (r H) vs xs
instance [M : Mono r] : MonoA (aAll r) := ⟨fun e h => h.imp fun _ _ z => M.up e z⟩
theorem el_nil : EvA (aAll r) tNil G [] := fun H0 σ H E Q k => k [] H (Same.refl H) .nil
theorem el_cons {tr : TA} {xs : List α} [M : Mono r] (h : Ev r te G x) (hr : EvA (aAll r) tr G xs) : EvA (aAll r) (tCons te tr) G (x :: xs) := fun H0 σ H E Q k =>
  h H0 σ H E _ fun v H1 e1 z1 => hr H0 σ H1 (E.grow e1) _ fun vs H2 e2 z2 => k _ H2 (e1.trans e2) (.cons (M.up e2 z1) z2)
theorem nw_lst {ta : TA} {xs : List α} [M : Mono r] [F : Frz K r] (h : EvA (aAll r) ta G xs) (hz : xs.length ≤ 100000) : Nw (nl K r) (tLst ta) G xs := fun H0 σ H E Q k =>
  h H0 σ H E _ fun vs H1 e1 z => ⟨by rw [A2.len z]; exact sz hz, fun p hp => k _ _ [p] (e1.trans (same_new hp)) (fun b hb => by rw [List.mem_singleton.mp hb]; exact free_back e1 hp) ⟨p, vs, rfl, rfl, upd_same, A2.imp (fun _ _ q => stb (M.up (same_new hp) q)) z⟩⟩
theorem ev_tup {ta : TA} {xs : List α} [M : Mono r] (h : EvA (aAll r) ta G xs) (hz : xs.length ≤ 100000) : Ev (rT K r) (tTup ta) G xs := fun H0 σ H E Q k =>
  h H0 σ H E _ fun vs H1 e1 z => ⟨by rw [A2.len z]; exact sz hz, fun p hp => k _ _ (e1.trans (same_new hp)) ⟨p, vs, rfl, SqT.of upd_same, A2.imp (fun _ _ q => M.up (same_new hp) q) z⟩⟩
theorem ev_pair [M : Mono r] [N : Mono q] (h : Ev r ta G a) (h' : Ev q tb G b) : Ev (rP K r q) (tTup (tCons ta (tCons tb tNil))) G (a, b) := fun H0 σ H E Q k =>
  h H0 σ H E _ fun v H1 e1 z1 => h' H0 σ H1 (E.grow e1) _ fun w H2 e2 z2 => ⟨by show 2 ≤ sizeLine; decide, fun p hp => k _ _ ((e1.trans e2).trans (same_new hp)) ⟨p, v, w, rfl, SqT.of upd_same, M.up (e2.trans (same_new hp)) z1, N.up (same_new hp) z2⟩⟩

/-! ### items and slices -/
theorem atI_A2 {f : V → α → Prop} {vs : List V} {xs : List α} {i : Int} {x : α} (z : A2 f vs xs) (h : atI xs i = some x) : ∃ v, atI vs i = some v ∧ f v x := by
  unfold atI at h ⊢
  rw [z.len]
  cases e : ixN xs.length i with
  | none => rw [e] at h; cases h
  | some j =>
    rw [e] at h
    exact z.get' (i := j) h
theorem ev_ixL {xs : List α} [M : Mono r] (h : Ev (rL r) ta G xs) (hi : Ev rI tb G i) (hx : atI xs i = some x) : Ev r (tOp (rIx K) ta tb) G x := ev_op h hi fun H u v ⟨p, vs, ev, hp, z⟩ hv Q k => by
  obtain ⟨w, hw, hr⟩ := atI_A2 z hx
  exact .inl ⟨p, vs, i, w, ev, hv, SqL.of hp, hw, k w H (Same.refl H) hr⟩
theorem ev_ixT {xs : List α} [M : Mono r] (h : Ev (rT K r) ta G xs) (hi : Ev rI tb G i) (hx : atI xs i = some x) : Ev r (tOp (rIx K) ta tb) G x := ev_op h hi fun H u v ⟨p, vs, ev, hp, z⟩ hv Q k => by
  obtain ⟨w, hw, hr⟩ := atI_A2 z hx
  exact .inr (.inl ⟨p, vs, i, w, ev, hv, hp, hw, k w H (Same.refl H) hr⟩)
theorem atI_mem {xs : List α} {i : Int} {x : α} (h : atI xs i = some x) : x ∈ xs := by
  unfold atI at h
  cases e : ixN xs.length i with
  | none => rw [e] at h; cases h
  | some j => rw [e] at h; exact List.mem_of_getElem? h
theorem ev_ixS {z : Nat} (h : Ev rS ta G s) (hi : Ev rI tb G i) (hx : atI s.cps.toList i = some z) : Ev rS (tOp (rIx K) ta tb) G ⟨#[z]⟩ := ev_op h hi fun H u v hu hv Q k =>
  .inr (.inr ⟨s, i, z, hu.1, hv, sz hu.2.1, hx, k _ H (Same.refl H) ⟨rfl, okS_chr hu.2 (atI_mem hx)⟩⟩)
theorem ev_fst [M : Mono r] [N : Mono q] {p : α × β} (h : Ev (rP K r q) ta G p) : Ev r (tOp (rIx K) ta (tC (.int 0))) G p.1 := fun H0 σ H E Q k =>
  h H0 σ H E _ fun v H1 e1 ⟨c, x, y, ev, hc, z1, z2⟩ => .inr (.inl ⟨c, [x, y], 0, x, ev, rfl, hc, rfl, k x H1 e1 z1⟩)
theorem ev_snd [M : Mono r] [N : Mono q] {p : α × β} (h : Ev (rP K r q) ta G p) : Ev q (tOp (rIx K) ta (tC (.int 1))) G p.2 := fun H0 σ H E Q k =>
  h H0 σ H E _ fun v H1 e1 ⟨c, x, y, ev, hc, z1, z2⟩ => .inr (.inl ⟨c, [x, y], 1, y, ev, rfl, hc, rfl, k y H1 e1 z2⟩)
def EvO (to : TO) (G : Cells K) (o : Option Int) : Prop := ∀ H0 σ H, Env H0 σ H G → ∀ Q : Option Int → Hp → Prop, (∀ H', Same H H' → Q o H') → to σ H Q
theorem eo_none : EvO tNoPart G Option.none := fun H0 σ H E Q k => k H (Same.refl H)
theorem eo_some (h : Ev rI te G i) : EvO (tPart te) G (Option.some i) := fun H0 σ H E Q k => h H0 σ H E _ fun v H' e z => ⟨i, z, k H' e⟩
/-- xs[lo:hi] -/
def cut (xs : List α) (lo hi : Option Int) : List α := (xs.drop (HT.sIx xs.length 0 lo)).take (HT.sIx xs.length xs.length hi - HT.sIx xs.length 0 lo)
theorem cut_A2 {f : V → α → Prop} {vs : List V} {xs : List α} (z : A2 f vs xs) (lo hi : Option Int) : A2 f (cutV vs lo hi) (cut xs lo hi) := by
  unfold cutV cut
  rw [z.len]
  exact (z.drop _).take _
theorem nw_slL {xs : List α} {lo hi : Option Int} {tl th : TO} [M : Mono r] [F : Frz K r] (h : Ev (rL r) ta G xs) (hl : EvO tl G lo) (hh : EvO th G hi) : Nw (nl K r) (tSl (rSlL K) ta tl th) G (cut xs lo hi) := fun H0 σ H E Q k =>
  h H0 σ H E _ fun v H1 e1 ⟨p, vs, ev, hp, z⟩ => hl H0 σ H1 (E.grow e1) _ fun H2 e2 => hh H0 σ H2 (E.grow (e1.trans e2)) _ fun H3 e3 =>
    ⟨p, vs, ev, SqL.of (e3 _ _ (e2 _ _ hp)), fun l hn => k _ _ [l] (((e1.trans e2).trans e3).trans (same_new hn)) (fun b hb => by rw [List.mem_singleton.mp hb]; exact free_back ((e1.trans e2).trans e3) hn)
      ⟨l, _, rfl, rfl, upd_same, (cut_A2 z lo hi).imp fun _ _ q => stb (M.up ((e2.trans e3).trans (same_new hn)) q)⟩⟩
theorem okS_cut {s : Str} (h : okS s) (lo hi : Option Int) : okS (cutS s lo hi) := by
  have sub : ∀ c ∈ (s.cps.toList.drop (HT.sIx s.length 0 lo)).take (HT.sIx s.length s.length hi - HT.sIx s.length 0 lo), c ∈ s.cps.toList := fun c hc => List.mem_of_mem_drop (List.mem_of_mem_take hc)
  refine ⟨?_, ?_⟩
  · show ((s.cps.toList.drop (HT.sIx s.length 0 lo)).take (HT.sIx s.length s.length hi - HT.sIx s.length 0 lo)).toArray.size ≤ 100000
    rw [List.size_toArray, List.length_take, List.length_drop]
    have : s.cps.toList.length = s.length := rfl
    have := h.1
    omega
  · have := h.2
    rw [← Array.all_toList, List.all_eq_true] at this ⊢
    exact fun c hc => this c (sub c (by simpa [cutS] using hc))
theorem ev_slS {lo hi : Option Int} {tl th : TO} (h : Ev rS ta G s) (hl : EvO tl G lo) (hh : EvO th G hi) : Ev rS (tSl rSlS ta tl th) G (cutS s lo hi) := fun H0 σ H E Q k =>
  h H0 σ H E _ fun v H1 e1 z => hl H0 σ H1 (E.grow e1) _ fun H2 e2 => hh H0 σ H2 (E.grow (e1.trans e2)) _ fun H3 e3 => ⟨s, z.1, sz z.2.1, k _ H3 ((e1.trans e2).trans e3) ⟨rfl, okS_cut z.2 lo hi⟩⟩

/-! ### + of texts and lists -/
abbrev rAddS : R2 := fun x y H Q => ∃ i j, x = .str i ∧ y = .str j ∧ i.length + j.length ≤ sizeLine ∧ Q (.str (i ++ j)) H
theorem ev_addS (h : Ev rS ta G s) (h' : Ev rS tb G t) (hz : s.length + t.length ≤ 100000) : Ev rS (tOp rAddS ta tb) G (s ++ t) := ev_op h h' fun H u v hu hv Q k => ⟨s, t, hu.1, hv.1, sz hz, k _ H (Same.refl H) ⟨rfl, okS_app hu.2 hv.2 hz⟩⟩
theorem nw_cat {xs ys : List α} [M : Mono r] [F : Frz K r] (h : Ev (rL r) ta G xs) (h' : Ev (rL r) tb G ys) (hz : xs.length + ys.length ≤ 100000) : Nw (nl K r) (tOp rCat ta tb) G (xs ++ ys) := nw_op h h' fun H u v ⟨p, vs, ev, hp, z⟩ ⟨p', vs', ev', hp', z'⟩ Q k =>
  ⟨p, p', vs, vs', ev, ev', hp, hp', by rw [z.len, z'.len]; exact sz hz, fun l hl => k _ _ [l] (same_new hl) (fun b hb => by rw [List.mem_singleton.mp hb]; exact hl) ⟨l, _, rfl, rfl, upd_same, (A2.app z' z).imp fun _ _ q => stb (M.up (same_new hl) q)⟩⟩

theorem dot_eq : (Str.ofString ".") = ⟨#[46]⟩ := by decide +kernel
theorem atI_zero {x : α} {l : List α} : atI (x :: l) 0 = some x := by
  unfold atI ixN
  rw [if_pos (by omega), if_pos (by rw [List.length_cons]; omega)]
  rfl
theorem atI_pos {xs : List α} {i : Int} {x : α} (h0 : 0 ≤ i) (h : xs[i.toNat]? = some x) : atI xs i = some x := by
  have hl := (List.getElem?_eq_some_iff.mp h).1
  unfold atI ixN
  rw [if_pos h0, if_pos (by omega)]
  exact h
/-! ### in -/
theorem ev_inSign {z : Nat} (h : Ev rS ta G t) (e : t = ⟨#[z]⟩) (h' : Ev rS tb G s) : Ev rB (tOp (fun x y H Q => ∃ (c : Nat) (z : Str), x = .str ⟨#[c]⟩ ∧ y = .str z ∧ Q (.bl (decide (c ∈ z.cps.toList))) H) ta tb) G (decide (z ∈ s.cps.toList)) := ev_op h h' fun H u v hu hv Q k => ⟨z, s, by rw [← e]; exact hu.1, hv.1, k _ H (Same.refl H) rfl⟩
theorem ev_ninSign {z : Nat} (h : Ev rS ta G t) (e : t = ⟨#[z]⟩) (h' : Ev rS tb G s) : Ev rB (tOp (fun x y H Q => ∃ (c : Nat) (z : Str), x = .str ⟨#[c]⟩ ∧ y = .str z ∧ Q (.bl (!decide (c ∈ z.cps.toList))) H) ta tb) G (!decide (z ∈ s.cps.toList)) := ev_op h h' fun H u v hu hv Q k => ⟨z, s, by rw [← e]; exact hu.1, hv.1, k _ H (Same.refl H) rfl⟩
theorem inV_strs {xs : List Str} : inV (.str s) (xs.map V.str) = decide (s ∈ xs) := by
  unfold inV
  induction xs with
  | nil => simp
  | cons a l ih =>
    rw [List.map_cons, List.any_cons, ih]
    show ((a == s) || decide (s ∈ l)) = decide (s ∈ a :: l)
    by_cases h : a = s
    · subst h; simp
    · have : (a == s) = false := beq_eq_false_iff_ne.mpr h
      rw [this, Bool.false_or]
      apply decide_eq_decide.mpr
      rw [List.mem_cons]
      exact ⟨Or.inr, fun z => z.resolve_left fun e => h e.symm⟩
theorem flat_strs : ∀ xs : List Str, (xs.map V.str).all flatV = true
  | [] => rfl
  | _ :: r => by rw [List.map_cons, List.all_cons, flat_strs r]; rfl
theorem ev_inL {xs : List Str} (h : Ev rS ta G s) (h' : Ev (rL rS) tb G xs) : Ev rB (tOp (rIn K false) ta tb) G (decide (s ∈ xs)) := ev_op h h' fun H u v hu ⟨p, vs, ev, hp, z⟩ Q k => by
  have e : vs = xs.map V.str := A2.map_eq (z.imp fun _ _ q => q.1)
  subst e
  rw [show u = .str s from hu.1]
  exact ⟨p, _, ev, .inl (SqL.of hp), rfl, flat_strs xs, k _ H (Same.refl H) (by show V.bl (inV _ _) = _; rw [inV_strs])⟩
theorem ev_ninL {xs : List Str} (h : Ev rS ta G s) (h' : Ev (rL rS) tb G xs) : Ev rB (tOp (rIn K true) ta tb) G (!decide (s ∈ xs)) := ev_op h h' fun H u v hu ⟨p, vs, ev, hp, z⟩ Q k => by
  have e : vs = xs.map V.str := A2.map_eq (z.imp fun _ _ q => q.1)
  subst e
  rw [show u = .str s from hu.1]
  exact ⟨p, _, ev, .inl (SqL.of hp), rfl, flat_strs xs, k _ H (Same.refl H) (by show V.bl (!inV _ _) = _; rw [inV_strs])⟩
theorem ev_inT {xs : List Str} (h : Ev rS ta G s) (h' : Ev (rT K rS) tb G xs) : Ev rB (tOp (rIn K false) ta tb) G (decide (s ∈ xs)) := ev_op h h' fun H u v hu ⟨p, vs, ev, hp, z⟩ Q k => by
  have e : vs = xs.map V.str := A2.map_eq (z.imp fun _ _ q => q.1)
  subst e
  rw [show u = .str s from hu.1]
  exact ⟨p, _, ev, .inr hp, rfl, flat_strs xs, k _ H (Same.refl H) (by show V.bl (inV _ _) = _; rw [inV_strs])⟩
theorem ev_ninT {xs : List Str} (h : Ev rS ta G s) (h' : Ev (rT K rS) tb G xs) : Ev rB (tOp (rIn K true) ta tb) G (!decide (s ∈ xs)) := ev_op h h' fun H u v hu ⟨p, vs, ev, hp, z⟩ Q k => by
  have e : vs = xs.map V.str := A2.map_eq (z.imp fun _ _ q => q.1)
  subst e
  rw [show u = .str s from hu.1]
  exact ⟨p, _, ev, .inr hp, rfl, flat_strs xs, k _ H (Same.refl H) (by show V.bl (!inV _ _) = _; rw [inV_strs])⟩

/-! ### methods of texts -/
theorem a2_strs {H : Hp} : ∀ {xs : List Str}, (∀ x ∈ xs, okS x) → A2 (rS H) (xs.map V.str) xs
  | [], _ => .nil
  | x :: xs, h => .cons ⟨rfl, h x (List.mem_cons_self ..)⟩ (a2_strs fun y hy => h y (List.mem_cons_of_mem _ hy))
theorem strs_a2 {H : Hp} {vs : List V} {xs : List Str} (z : A2 (rS H) vs xs) : vs = xs.map V.str := A2.map_eq (z.imp fun _ _ q => q.1)
theorem nw_split (h : Ev rS ta G s) (h' : Ev rS tb G t) (ht : (t.length == 0) = false) (hz : s.length ≤ 1000) (hk : ∀ x ∈ Txt.split s t, okS x) :
    Nw (nl K rS) (tM1 (fun x xs H Q => ∃ a b, x = .str a ∧ xs = [.str b] ∧ (b.length == 0) = false ∧ a.length + 2 ≤ sizeLine ∧ rNewStrs (Txt.split a b) H Q) ta tb) G (Txt.split s t) := fun H0 σ H E Q k =>
  h H0 σ H E _ fun v H1 e1 z1 => ⟨⟨s, z1.1⟩, h' H0 σ H1 (E.grow e1) _ fun w H2 e2 z2 => ⟨s, t, z1.1, by rw [show w = .str t from z2.1], ht, sz (by omega), fun p hp => k _ _ [p] ((e1.trans e2).trans (same_new hp)) (fun b hb => by rw [List.mem_singleton.mp hb]; exact free_back (e1.trans e2) hp) ⟨p, _, rfl, rfl, upd_same, stbs (a2_strs hk)⟩⟩⟩
theorem ev_upper (h : Ev rS ta G s) (hk : okS (Txt.upper s)) : Ev rS (tM0 (fun x xs H Q => ∃ a, x = .str a ∧ xs = [] ∧ a.length ≤ 5592405 ∧ Q (.str (Txt.upper a)) H) ta) G (Txt.upper s) := fun H0 σ H E Q k =>
  h H0 σ H E _ fun v H1 e1 z1 => ⟨⟨s, z1.1⟩, s, z1.1, rfl, by have := z1.2.1; omega, k _ H1 e1 ⟨rfl, hk⟩⟩
theorem ev_join {xs : List Str} (h : Ev rS ta G s) (h' : Ev (rL rS) tb G xs) (hz : (xs.map (·.length)).sum + xs.length * s.length ≤ 16777216) (hk : okS (Txt.join s xs)) :
    Ev rS (tM1 (fun x xs H Q => ∃ a p, ∃ ys : List Str, x = .str a ∧ xs = [.ref p] ∧ (SqL K H p (ys.map V.str) ∨ SqT K H p (ys.map V.str)) ∧ (ys.map (·.length)).sum + ys.length * a.length ≤ 16777216 ∧ Q (.str (Txt.join a ys)) H) ta tb) G (Txt.join s xs) := fun H0 σ H E Q k =>
  h H0 σ H E _ fun v H1 e1 z1 => ⟨⟨s, z1.1⟩, h' H0 σ H1 (E.grow e1) _ fun w H2 e2 ⟨p, vs, ev, hp, z2⟩ => ⟨s, p, xs, z1.1, by rw [ev], .inl (by rw [← strs_a2 z2]; exact SqL.of hp), hz, k _ H2 (e1.trans e2) ⟨rfl, hk⟩⟩⟩
abbrev P3 := Str × Str × Str
theorem ev_partition (h : Ev rS ta G s) (h' : Ev rS tb G t) (ht : (t.length == 0) = false) (hk : okS (Txt.partition s t).1 ∧ okS (Txt.partition s t).2.1 ∧ okS (Txt.partition s t).2.2) :
    Ev (rT K rS) (tM1 (fun x xs H Q => ∃ a b, x = .str a ∧ xs = [.str b] ∧ (b.length == 0) = false ∧ a.length ≤ sizeLine ∧
      ∀ p, H p = none → Q (.ref p) (upd H p (.tup [.str (Txt.partition a b).1, .str (Txt.partition a b).2.1, .str (Txt.partition a b).2.2]))) ta tb) G [(Txt.partition s t).1, (Txt.partition s t).2.1, (Txt.partition s t).2.2] := fun H0 σ H E Q k =>
  h H0 σ H E _ fun v H1 e1 z1 => ⟨⟨s, z1.1⟩, h' H0 σ H1 (E.grow e1) _ fun w H2 e2 z2 => ⟨s, t, z1.1, by rw [show w = .str t from z2.1], ht, sz z1.2.1, fun p hp => k _ _ ((e1.trans e2).trans (same_new hp)) ⟨p, _, rfl, SqT.of upd_same, .cons ⟨rfl, hk.1⟩ (.cons ⟨rfl, hk.2.1⟩ (.cons ⟨rfl, hk.2.2⟩ .nil))⟩⟩⟩
end

/-! ### rpartition -/
section
variable {X : Cx} {o e : Expr} {to te : TE}
abbrev rRpart : V → List V → Hp → VK → Prop := fun x xs H Q => ∃ a b, x = .str a ∧ xs = [.str b] ∧ (b.length == 0) = false ∧ a.length ≤ sizeLine ∧
    ∀ p, H p = none → Q (.ref p) (upd H p (.tup [.str (Txt.rpartition a b).1, .str (Txt.rpartition a b).2.1, .str (Txt.rpartition a b).2.2]))
theorem mt_rpartition : MtR X "str.rpartition" rRpart := by
  intro pins s σ H x xs v us Q I rx rs h
  obtain ⟨a, b, rfl, rfl, hb, hz, h⟩ := h
  obtain ⟨t, rfl⟩ := rx
  cases rs with
  | cons r1 rs =>
    cases rs
    obtain ⟨u, rfl⟩ := r1
    refine call_meets F.slot_str_rpartition (typeIs_str _ _ _) F.entry_str_rpartition (F.args_str_rpartition_2 _ _) (meets_str_rpartition a b t u hb hz) ?_
    unfold Txt.rpartition at h
    revert h
    cases hl : Builtin.Str.lastOccurrence a b 0 a.length with
    | none => exact fun h => laid_parts I h
    | some i => exact fun h => laid_parts I h
theorem pe_rpartition {apos pos : Pos} (ho : PE X o to) (he : PE X e te) (hs : starEach [e] X.env = [(false, eval e X.env)] := by rfl) (hbase : attributeBase o "rpartition" X.env (eval o X.env) = eval o X.env := by rfl) (hline : (apos.endLine == pos.line) = true := by rfl) :
    PE X (.Call (.Attribute o "rpartition" apos) [e] [] pos) (tM1 rRpart to te) := pe_m1 F.slot_str_rpartition F.type_str_rpartition mt_rpartition ho he hs hbase hline
end
theorem ev_rpartition {K : PySem.W.Frag} {G : Cells K} {ta tb : TE} {s t : Str} (h : Ev rS ta G s) (h' : Ev rS tb G t) (ht : (t.length == 0) = false) (hk : okS (Txt.rpartition s t).1 ∧ okS (Txt.rpartition s t).2.1 ∧ okS (Txt.rpartition s t).2.2) :
    Ev (rT K rS) (tM1 rRpart ta tb) G [(Txt.rpartition s t).1, (Txt.rpartition s t).2.1, (Txt.rpartition s t).2.2] := fun H0 σ H E Q k =>
  h H0 σ H E _ fun v H1 e1 z1 => ⟨⟨s, z1.1⟩, h' H0 σ H1 (E.grow e1) _ fun w H2 e2 z2 => ⟨s, t, z1.1, by rw [show w = .str t from z2.1], ht, sz z1.2.1, fun p hp => k _ _ ((e1.trans e2).trans (same_new hp)) ⟨p, _, rfl, SqT.of upd_same, .cons ⟨rfl, hk.1⟩ (.cons ⟨rfl, hk.2.1⟩ (.cons ⟨rfl, hk.2.2⟩ .nil))⟩⟩⟩
end Gt
/-! Gt5: one lemma a construct, whatever the kinds (by instances). -/
namespace Gt
open PySem PySem.Spec PyProof.Rows L2
section
variable {K : PySem.W.Frag} {H0 H1 H H' : Hp} {σ : L2.St} {G G' Gx : Cells K} {α β γ S : Type}
variable {ta tb tc te : TE} {tt tu tv : TT} {r : Rp α} {q : Rp β} {R : Rp γ} {a x : α} {b y : β} {i j n m : Int} {s t : Str} {c d : Bool} {z w : γ}
/-- flat things that == compares -/
class EqF {α : Type} (r : Rp α) where
  enc : α → V
  dec : DecidableEq α
  inj : ∀ {x y : α}, enc x = enc y → x = y
  rep : ∀ {H : Hp} {v : V} {a : α}, r H v a → v = enc a
  sc : ∀ x y : α, scal (enc x) (enc y) = true
instance : EqF rI := ⟨V.int, inferInstance, fun h => V.int.inj h, fun h => h, fun _ _ => rfl⟩
instance : EqF rS := ⟨V.str, inferInstance, fun h => V.str.inj h, fun h => h.1, fun _ _ => rfl⟩
instance : EqF rB := ⟨V.bl, inferInstance, fun h => V.bl.inj h, fun h => h, fun _ _ => rfl⟩
def encO {α : Type} (f : α → V) : Option α → V
  | .none => .non
  | .some a => f a
instance : EqF (rO rS) := ⟨encO V.str, inferInstance, fun {x y} h => match x, y, h with
  | .none, .none, _ => rfl
  | .some _, .some _, h => by rw [V.str.inj h], fun {_ _ a} h => match a, h with
  | .none, h => h
  | .some _, h => h.1, fun x y => match x, y with
  | .none, .none => rfl
  | .none, .some _ => rfl
  | .some _, .none => rfl
  | .some _, .some _ => rfl⟩
def eqF {α : Type} (r : Rp α) [F : EqF r] (x y : α) : Bool := @decide (x = y) (F.dec x y)
theorem ev_eq [F : EqF r] [M : Mono r] (ha : Ev r ta G a) (hb : Ev r tb G x) : Ev rB (tOp rEq ta tb) G (@decide (a = x) (F.dec a x)) := ev_op ha hb fun H u v hu hv Q k => by
  have e1 := F.rep hu
  have e2 := F.rep hv
  subst e1; subst e2
  refine ⟨F.sc _ _, k _ H (Same.refl H) ?_⟩
  show V.bl _ = V.bl _
  congr 1
  by_cases h : a = x
  · subst h
    rw [decide_eq_true rfl]
    exact (@decide_eq_true _ (F.dec _ _) rfl).symm
  · rw [decide_eq_false fun e => h (F.inj e)]
    exact (@decide_eq_false _ (F.dec _ _) h).symm
theorem ev_ne [F : EqF r] [M : Mono r] (ha : Ev r ta G a) (hb : Ev r tb G x) : Ev rB (tOp rNe ta tb) G (!@decide (a = x) (F.dec a x)) := ev_op ha hb fun H u v hu hv Q k => by
  have e1 := F.rep hu
  have e2 := F.rep hv
  subst e1; subst e2
  refine ⟨F.sc _ _, k _ H (Same.refl H) ?_⟩
  show V.bl _ = V.bl _
  congr 2
  by_cases h : a = x
  · subst h
    rw [decide_eq_true rfl]
    exact (@decide_eq_true _ (F.dec _ _) rfl).symm
  · rw [decide_eq_false fun e => h (F.inj e)]
    exact (@decide_eq_false _ (F.dec _ _) h).symm

/-- a list that is read (the script too) -/
def rQ (K : PySem.W.Frag) {β : Type} (r : Rp β) : Rp (List β) := fun H v xs => ∃ a vs, v = .ref a ∧ SqL K H a vs ∧ A2 (r H) vs xs
instance [M : Mono r] : Mono (rQ K r) := ⟨fun e ⟨a, vs, ev, h, q⟩ => ⟨a, vs, ev, e.seq h, q.imp fun _ _ z => M.up e z⟩⟩
theorem rQ_of (h : rL r H v xs) : rQ K r H v xs := let ⟨a, vs, ev, hp, z⟩ := h; ⟨a, vs, ev, SqL.of hp, z⟩

/-- what has items by place -/
class Ixd (K : PySem.W.Frag) {γ α : Type} (R : Rp γ) (z : γ) (r : outParam (Rp α)) (its : outParam (List α)) (ok : outParam Prop) : Prop where
  ix : ∀ {H : Hp} {u : V} {i : Int} {x : α} {Q : VK}, R H u z → ok → atI its i = some x → (∀ v, r H v x → Q v H) → rIx K u (.int i) H Q
instance {xs : List α} [M : Mono r] : Ixd K (rL r) xs r xs True := ⟨fun {H u i x Q} ⟨p, vs, ev, hp, h⟩ _ hx k => by
  obtain ⟨w, hw, hr⟩ := atI_A2 h hx
  exact .inl ⟨p, vs, i, w, ev, rfl, SqL.of hp, hw, k w hr⟩⟩
instance {xs : List α} [M : Mono r] : Ixd K (rQ K r) xs r xs True := ⟨fun {H u i x Q} ⟨p, vs, ev, hp, h⟩ _ hx k => by
  obtain ⟨w, hw, hr⟩ := atI_A2 h hx
  exact .inl ⟨p, vs, i, w, ev, rfl, hp, hw, k w hr⟩⟩
instance {xs : List α} [M : Mono r] : Ixd K (rT K r) xs r xs True := ⟨fun {H u i x Q} ⟨p, vs, ev, hp, h⟩ _ hx k => by
  obtain ⟨w, hw, hr⟩ := atI_A2 h hx
  exact .inr (.inl ⟨p, vs, i, w, ev, rfl, hp, hw, k w hr⟩)⟩
/-- the signs of a text, each a text -/
def chs (s : Str) : List Str := s.cps.toList.map fun c => (⟨#[c]⟩ : Str)
theorem chs_len (s : Str) : (chs s).length = s.length := by unfold chs; rw [List.length_map]; exact Array.length_toList
theorem atI_map {f : α → β} {l : List α} {i : Int} : atI (l.map f) i = (atI l i).map f := by
  unfold atI
  rw [List.length_map]
  cases ixN l.length i with
  | none => rfl
  | some j => show (l.map f)[j]? = _; rw [List.getElem?_map]; rfl
instance {z : Str} : Ixd K rS z rS (chs z) True := ⟨fun {H u i x Q} hu _ hx k => by
  unfold chs at hx
  rw [atI_map] at hx
  cases e : atI z.cps.toList i with
  | none => rw [e] at hx; cases hx
  | some c =>
    rw [e] at hx
    cases hx
    exact .inr (.inr ⟨z, i, c, hu.1, rfl, sz hu.2.1, e, k _ ⟨rfl, okS_chr hu.2 (atI_mem e)⟩⟩)⟩
theorem ev_ix {its : List α} {ok : Prop} [I : Ixd K R z r its ok] [M : Mono R] (h : Ev R ta G z) (hi : Ev rI tb G i) (hk : ok) (hx : atI its i = some x) : Ev r (tOp (rIx K) ta tb) G x := ev_op h hi fun H u v hu hv Q k => by
  rw [show v = .int i from hv]
  exact I.ix hu hk hx fun w hw => k w H (Same.refl H) hw

/-- what has a length -/
class Lnd (K : PySem.W.Frag) {γ : Type} (R : Rp γ) (z : γ) (ln : outParam Nat) (ok : outParam Prop) : Prop where
  len : ∀ {H : Hp} {u : V}, R H u z → ok → LenV K u H ln
instance {z : List α} : Lnd K (rL r) z z.length True := ⟨fun {H u} ⟨p, vs, ev, hp, h⟩ _ => by rw [ev, ← h.len]; exact .inl ⟨vs, SqL.of hp, rfl⟩⟩
instance {z : List α} : Lnd K (rQ K r) z z.length True := ⟨fun {H u} ⟨p, vs, ev, hp, h⟩ _ => by rw [ev, ← h.len]; exact .inl ⟨vs, hp, rfl⟩⟩
instance {z : List α} : Lnd K (rT K r) z z.length True := ⟨fun {H u} ⟨p, vs, ev, hp, h⟩ _ => by rw [ev, ← h.len]; exact .inr ⟨vs, hp, rfl⟩⟩
instance {z : α × β} : Lnd K (rP K r q) z 2 True := ⟨fun {H u} ⟨p, x, y, ev, hp, _⟩ _ => by rw [ev]; exact .inr ⟨_, hp, rfl⟩⟩
instance {z : Str} : Lnd K rS z z.length True := ⟨fun {H u} hu _ => by rw [show u = .str z from hu.1]; exact ⟨sz hu.2.1, rfl⟩⟩
theorem ev_len {ln : Nat} {ok : Prop} [L : Lnd K R z ln ok] [M : Mono R] (h : Ev R te G z) (hk : ok) : Ev rI (tCB (rLenU K) (tCons te tNil)) G (ln : Int) := ev_cb (ea_cons h ea_nil) fun H vs ⟨v, ws, e, hv, e2⟩ Q k =>
  ⟨v, ln, by rw [e, show ws = [] from e2], L.len hv hk, k _ H (Same.refl H) rfl⟩
/-- what truth tells -/
class Tru (K : PySem.W.Frag) {γ : Type} (R : Rp γ) (z : γ) (f : outParam Bool) (ok : outParam Prop) : Prop where
  tru : ∀ {H : Hp} {u : V}, R H u z → ok → TruV K u H f
instance {z : List α} : Tru K (rL r) z (!z.isEmpty) True := ⟨fun {H u} ⟨p, vs, ev, hp, h⟩ _ => by rw [ev]; exact .inl ⟨vs, SqL.of hp, by rw [a2_empty h]⟩⟩
instance {z : List α} : Tru K (rT K r) z (!z.isEmpty) True := ⟨fun {H u} ⟨p, vs, ev, hp, h⟩ _ => by rw [ev]; exact .inr (.inl ⟨vs, hp, by rw [a2_empty h]⟩)⟩
instance {z : Int} : Tru K rI z (z != 0) True := ⟨fun {H u} hu _ => by rw [show u = .int z from hu]; exact rfl⟩
instance {z : Str} : Tru K rS z ((z.length : Int) != 0) True := ⟨fun {H u} hu _ => by rw [show u = .str z from hu.1]; exact ⟨sz hu.2.1, rfl⟩⟩
theorem et_tru {f : Bool} {ok : Prop} [L : Tru K R z f ok] (h : Ev R ta G z) (hk : ok) : EvT (tTru K ta) G f := fun H0 σ H E Q k => h H0 σ H E _ fun v H1 e1 hv => ⟨f, L.tru hv hk, k H1 e1⟩
/-- what in asks of a list or tuple of texts -/
class InS (K : PySem.W.Frag) (R : Rp (List Str)) : Prop where
  seq : ∀ {H : Hp} {u : V} {xs : List Str}, R H u xs → ∃ p, u = .ref p ∧ (SqL K H p (xs.map V.str) ∨ SqT K H p (xs.map V.str))
instance : InS K (rL rS) := ⟨fun ⟨p, vs, ev, hp, h⟩ => ⟨p, ev, .inl (by rw [← strs_a2 h]; exact SqL.of hp)⟩⟩
instance : InS K (rQ K rS) := ⟨fun ⟨p, vs, ev, hp, h⟩ => ⟨p, ev, .inl (by rw [← strs_a2 h]; exact hp)⟩⟩
instance : InS K (rT K rS) := ⟨fun ⟨p, vs, ev, hp, h⟩ => ⟨p, ev, .inr (by rw [← strs_a2 h]; exact hp)⟩⟩
theorem ev_in {R : Rp (List Str)} {xs : List Str} [I : InS K R] [M : Mono R] (h : Ev rS ta G s) (h' : Ev R tb G xs) : Ev rB (tOp (rIn K false) ta tb) G (decide (s ∈ xs)) := ev_op h h' fun H u v hu hv Q k => by
  obtain ⟨p, ev, hp⟩ := I.seq hv
  rw [show u = .str s from hu.1]
  exact ⟨p, _, ev, hp, rfl, flat_strs xs, k _ H (Same.refl H) (by show V.bl (inV _ _) = _; rw [inV_strs])⟩
theorem ev_nin {R : Rp (List Str)} {xs : List Str} [I : InS K R] [M : Mono R] (h : Ev rS ta G s) (h' : Ev R tb G xs) : Ev rB (tOp (rIn K true) ta tb) G (!decide (s ∈ xs)) := ev_op h h' fun H u v hu hv Q k => by
  obtain ⟨p, ev, hp⟩ := I.seq hv
  rw [show u = .str s from hu.1]
  exact ⟨p, _, ev, hp, rfl, flat_strs xs, k _ H (Same.refl H) (by show V.bl (!inV _ _) = _; rw [inV_strs])⟩
/-- a list or tuple as list(..) and tuple(..) take it -/
class Seq (K : PySem.W.Frag) {α : Type} (r : outParam (Rp α)) (R : Rp (List α)) : Prop where
  seq : ∀ {H : Hp} {u : V} {xs : List α}, R H u xs → ∃ p vs, u = .ref p ∧ (SqL K H p vs ∨ SqT K H p vs) ∧ A2 (r H) vs xs
instance : Seq K r (rL r) := ⟨fun ⟨p, vs, ev, hp, h⟩ => ⟨p, vs, ev, .inl (SqL.of hp), h⟩⟩
instance : Seq K r (rQ K r) := ⟨fun ⟨p, vs, ev, hp, h⟩ => ⟨p, vs, ev, .inl hp, h⟩⟩
instance : Seq K r (rT K r) := ⟨fun ⟨p, vs, ev, hp, h⟩ => ⟨p, vs, ev, .inr hp, h⟩⟩
theorem nw_list {R : Rp (List α)} {xs : List α} [I : Seq K r R] [N : Mono R] [M : Mono r] [F : Frz K r] (h : Ev R te G xs) : Nw (nl K r) (tCB (rListU K) (tCons te tNil)) G xs := nw_cb (ea_cons h ea_nil) fun H vs ⟨v, ws, e, hv, e2⟩ Q k => by
  obtain ⟨p, us, ev, hp, h⟩ := I.seq hv
  exact ⟨p, us, by rw [e, show ws = [] from e2, ev], hp, fun l hl => k _ _ [l] (same_new hl) (fun b hb => by rw [List.mem_singleton.mp hb]; exact hl) ⟨l, us, rfl, rfl, upd_same, h.imp fun _ _ q => stb (M.up (same_new hl) q)⟩⟩
theorem ev_tupC {R : Rp (List α)} {xs : List α} [I : Seq K r R] [N : Mono R] [M : Mono r] (h : Ev R te G xs) : Ev (rT K r) (tCB (rTupU K) (tCons te tNil)) G xs := ev_cb (ea_cons h ea_nil) fun H vs ⟨v, ws, e, hv, e2⟩ Q k => by
  obtain ⟨p, us, ev, hp, h⟩ := I.seq hv
  refine ⟨p, us, by rw [e, show ws = [] from e2, ev], ?_⟩
  rcases hp with hp | hp
  · exact .inl ⟨hp, fun l hl => k _ _ (same_new hl) ⟨l, us, rfl, SqT.of upd_same, h.imp fun _ _ q => M.up (same_new hl) q⟩⟩
  · exact .inr ⟨hp, k _ H (Same.refl H) ⟨p, us, rfl, hp, h⟩⟩
/-- isinstance of a thing whose class its kind tells -/
class TyN (K : PySem.W.Frag) {γ : Type} (R : Rp γ) (T : outParam String) : Prop where
  ty : ∀ {H : Hp} {u : V} {z : γ}, R H u z → TyX K H u (.type T)
instance : TyN K rS "str" := ⟨fun h => by rw [h.1]; exact .base (.str _)⟩
instance : TyN K rI "int" := ⟨fun h => by rw [h]; exact .base (.int _)⟩
instance : TyN K rB "bool" := ⟨fun h => by rw [h]; exact .base (.bl _)⟩
instance : TyN K (rL r) "list" := ⟨fun ⟨p, vs, ev, hp, _⟩ => by rw [ev]; exact .base (.lst hp)⟩
theorem ty_tup {p : Addr} {vs : List V} (h : SqT K H p vs) : TyX K H (.ref p) (.type "tuple") := by
  rcases h with (h | ⟨o, h⟩) | ⟨o, its, n, h1, h2, _⟩
  · exact .base (.tup h)
  · exact .fTuple h
  · exact .kTuple h1 h2
instance : TyN K (rT K r) "tuple" := ⟨fun ⟨p, vs, ev, hp, _⟩ => by rw [ev]; exact ty_tup hp⟩
instance : TyN K (rP K r q) "tuple" := ⟨fun ⟨p, x, y, ev, hp, _⟩ => by rw [ev]; exact ty_tup hp⟩
theorem ev_isi {T T' : String} {f : Bool} [N : TyN K R T] [M : Mono R] (h : Ev R te G z) (hb : kitB T T' = some f) : Ev rB (tCB (rIsi K) (tCons te (tCons (tC (.ty T')) tNil))) G f := fun H0 σ H E Q k =>
  h H0 σ H E _ fun v H1 e1 hv => ⟨v, .ty T', .type T, .type T', f, rfl, .ty T', N.ty hv, kit_ty hb, k _ H1 e1 rfl⟩
end
end Gt
/-! Gt6: the hand layer's rules with the written part by its own letter. -/
namespace Gt
open PySem PySem.Spec PyProof.Rows L2
section
variable {X : Cx} (K : PySem.W.Frag) {e o l : Expr} {es : List Expr} {te ta tl to : TE} {t : TA} {pos apos cpos : Pos} {tg : Expr}
theorem k_ix (h : X.K = K := by rfl) : IxR X (rIx K) := by subst h; exact ix_seq
theorem k_slL (h : X.K = K := by rfl) : SlR X (rSlL K) := by subst h; exact sl_list
theorem k_len (h : X.K = K := by rfl) : CallR X (.builtin "len") (rLenU K) := by subst h; exact call_len
theorem k_list (h : X.K = K := by rfl) : CallR X (.type "list") (rListU K) := by subst h; exact call_list_of
theorem k_tuple (h : X.K = K := by rfl) : CallR X (.type "tuple") (rTupU K) := by subst h; exact call_tuple_of
theorem k_in (h : X.K = K := by rfl) : OpR X (compareOp .In) (rIn K false) := by subst h; exact op_in_seq
theorem k_nin (h : X.K = K := by rfl) : OpR X (compareOp .NotIn) (rIn K true) := by subst h; exact op_notIn_seq
theorem k_all (hc : X.calm = true) (h : X.K = K := by rfl) : CallR X (.builtin "all") (rAll K) := by subst h; exact cr_all hc
theorem k_any (hc : X.calm = true) (h : X.K = K := by rfl) : CallR X (.builtin "any") (rAny K) := by subst h; exact cr_any hc
theorem k_sum (hc : X.calm = true) (h : X.K = K := by rfl) : CallR X (.builtin "sum") (rSum K) := by subst h; exact cr_sum hc
theorem k_isi (h : X.K = K := by rfl) : CallR X (.builtin "isinstance") (rIsi K) := by subst h; exact call_isi
theorem k_eqD (hu : X.A.units + 64 < cLine) (h : X.K = K := by rfl) : OpR X (compareOp .Eq) (rEqD K) := by subst h; exact op_eqD hu
theorem k_neD (hu : X.A.units + 64 < cLine) (h : X.K = K := by rfl) : OpR X (compareOp .NotEq) (rNeD K) := by subst h; exact op_neD hu
theorem k_inD (hu : X.A.units + 65 < cLine) (h : X.K = K := by rfl) : OpR X (compareOp .In) (rInD K) := by subst h; exact op_inD hu
theorem k_ninD (hu : X.A.units + 65 < cLine) (h : X.K = K := by rfl) : OpR X (compareOp .NotIn) (rNotInD K) := by subst h; exact op_notInD hu
theorem pi_listK (hl : PE X l tl) (h : X.K = K := by rfl) : PI X tg l (iList K tl) := by subst h; exact pi_list hl
theorem pi_tupK (hl : PE X l tl) (h : X.K = K := by rfl) : PI X tg l (iTup K tl) := by subst h; exact pi_tup hl
theorem pg_tupK {k n : Nat} {t : TGs} (hc : X.calm = true) (ht : PGs X es t) (h : X.K = K := by rfl) (hn : (assignEach es X.env).length = n := by rfl) (hst : (assignEach es X.env).findIdx? (·.1) = none := by rfl) : PG X (.Tuple es k pos) (gTup K n t) := by subst h; exact pg_tup hc ht hn hst
theorem pt_tru (ha : PE X e te) (h : X.K = K := by rfl) (he : ∀ whole, isTrue e X.env whole = (do let v ← whole; standAt e.pos; holding [v] (truthy v)) := by intro _; rfl) : PT X e (tTru K te) := by subst h; exact pt_truth ha he
theorem pe_joinK (ho : PE X o to) (he : PE X e te) (h : X.K = K := by rfl) (hs : starEach [e] X.env = [(false, eval e X.env)] := by rfl) (hbase : attributeBase o "join" X.env (eval o X.env) = eval o X.env := by rfl) (hline : (apos.endLine == pos.line) = true := by rfl) :
    PE X (.Call (.Attribute o "join" apos) [e] [] pos) (tM1 (fun x xs H Q => ∃ a p, ∃ ys : List Str, x = .str a ∧ xs = [.ref p] ∧ (SqL K H p (ys.map V.str) ∨ SqT K H p (ys.map V.str)) ∧
      (ys.map (·.length)).sum + ys.length * a.length ≤ 16777216 ∧ Q (.str (Txt.join a ys)) H) to te) := by subst h; exact pe_join ho he hs hbase hline
theorem pe_app (ho : PE X o to) (ha : PA X (e :: es) t) (h : X.K = K := by rfl) (hbase : attributeBase o "append" X.env (eval o X.env) = eval o X.env := by rfl)
    (hfew : ((backTo cpos (starEach (e :: es) X.env)).all (fun x => !x.1) && (backToKw cpos (keywordEach [] X.env)).all (fun x => x.1.isSome)
      && decide ((e :: es).length + ([] : List Keyword).length + (if ([] : List Keyword).isEmpty then 0 else 1) < 30)) = true := by rfl)
    (hline : (apos.endLine == cpos.line) = true := by rfl) (hs : starEach (e :: es) X.env = (false, eval e X.env) :: starEach es X.env := by rfl) (hplain : (backTo cpos (starEach es X.env)).any (·.1) = false := by rfl) :
    PE X (.Call (.Attribute o "append" apos) (e :: es) [] cpos) (tBM K "list" rAppend to t) := by subst h; exact pe_bm PySem.F.plainAttrs_list PySem.F.slot_list_append PySem.F.type_list_append mt_append ho ha hbase hfew hline hs hplain
theorem pe_popK (ho : PE X o to) (h : X.K = K := by rfl) (hbase : attributeBase o "pop" X.env (eval o X.env) = eval o X.env := by rfl) (hline : (apos.endLine == cpos.line) = true := by rfl) : PE X (.Call (.Attribute o "pop" apos) [] [] cpos) (tBM0 K "list" rPop to) := by
  subst h; exact pe_bm0 PySem.F.plainAttrs_list PySem.F.slot_list_pop PySem.F.type_list_pop mt_pop ho hbase hline
theorem pe_fldK {f : Str} (he : PE X e ta) (h : X.K = K := by rfl) (hb : attributeBase e f X.env (eval e X.env) = eval e X.env := by rfl) : PE X (.Attribute e f pos) (tFld K ta f) := by subst h; exact pe_fld he hb
end
/-! ### append, pop on a cell -/
section
variable {K : PySem.W.Frag} {H0 : Hp} {G : Cells K} {α : Type} {r : Rp α} {te : TE} {u : TS} {D : Ends} {i : Nat} {xs : List α} {x : α}
theorem l_app {x' : α} (hi : G[i]? = some (some (.ow (nl K r) xs))) (h : Ev r te G x') (ex : x' = x) (hz : xs.length < 100000) (k : Nx H0 (G.set i (some (.ow (nl K r) (xs ++ [x])))) D.nx) (F : Frz K r := by infer_instance) :
    Sv H0 G (tDrop (tBM K "list" rAppend (tVar i) (tCons te tNil))) D := fun σ H ⟨H1, e1, E⟩ => by
  subst ex
  obtain ⟨own, h1, h2, h3⟩ := id E.at_
  obtain ⟨v, hv, p, vs, ea, ev, hp, z⟩ := h3 i _ hi
  subst ev
  refine ⟨_, hv, .inl ⟨rfl, vs, SqL.of hp⟩, h H1 σ H E _ fun w H2 e2 hw => ?_⟩
  have z2 : A2 (Stb K r H2) vs xs := z.imp fun _ _ q => q.up (ext_same e2)
  exact ⟨p, vs, w, rfl, rfl, e2 _ _ hp, Nat.lt_of_le_of_lt (by rw [z.len]; omega) (by decide : 100000 < sizeLine), k _ _ ⟨H1, e1, app_env (E.grow e2) hi hv (e2 _ _ hp) z2 (stb hw)⟩⟩
theorem q_app {x' : α} (hi : G[i]? = some (some (.ow (nl K r) xs))) (h : Ev r te G x') (ex : x' = x) (hz : xs.length < 100000) (k : Sv H0 (G.set i (some (.ow (nl K r) (xs ++ [x])))) u D) (F : Frz K r := by infer_instance) :
    Sv H0 G (tSeq (tDrop (tBM K "list" rAppend (tVar i) (tCons te tNil))) u) D := l_app hi h ex hz k F
end
end Gt
/-! Gt7: the same for apply: what evaluates first, its instances behind it. -/
namespace Gt
open PySem PySem.Spec PyProof.Rows L2
section
variable {K : PySem.W.Frag} {H0 H1 H H' : Hp} {σ : L2.St} {G G' Gx : Cells K} {α β γ S : Type}
variable {ta tb tc te : TE} {tt tu tv : TT} {r : Rp α} {q : Rp β} {R : Rp γ} {a x : α} {b y : β} {i j n m : Int} {s t : Str} {c d : Bool} {z w : γ}
theorem a_fz {i : Nat} (h : G[i]? = some (some (.ow (fz K r) a))) : Ev r (tVar i) G a := ev_fz h
theorem a_lst {i : Nat} {xs : List α} (h : G[i]? = some (some (.ow (nl K r) xs))) : Ev (rL r) (tVar i) G xs := ev_lst h
theorem a_ro {i : Nat} {M : Mono r} (h : G[i]? = some (some (.ro r M a))) : Ev r (tVar i) G a := ev_ro h
/-- what is left once the first operand is known -/
def EqC (r : Rp α) (a x : α) (f : Bool) : Prop := ∀ (K : PySem.W.Frag) (G : Cells K) ta tb, Ev r ta G a → Ev r tb G x → Ev rB (tOp rEq ta tb) G f ∧ Ev rB (tOp rNe ta tb) G (!f)
theorem eqc_I : EqC rI i j (decide (i = j)) := fun K G ta tb h h' => ⟨ev_eqI h h', ev_neI h h'⟩
theorem eqc_S : EqC rS s t (decide (s = t)) := fun K G ta tb h h' => ⟨ev_eqS h h', ev_neS h h'⟩
theorem eqc_B : EqC rB c d (decide (c = d)) := fun K G ta tb h h' => ⟨ev_eqB h h', ev_neB h h'⟩
theorem eqc_O {s t : Option Str} : EqC (rO rS) s t (decide (s = t)) := fun K G ta tb h h' => ⟨ev_eq h h', ev_ne h h'⟩
theorem a_eq {f : Bool} (h : Ev r ta G a) (h' : Ev r tb G x) (e : EqC r a x f) : Ev rB (tOp rEq ta tb) G f := (e K G ta tb h h').1
theorem a_ne {f : Bool} (h : Ev r ta G a) (h' : Ev r tb G x) (e : EqC r a x f) : Ev rB (tOp rNe ta tb) G (!f) := (e K G ta tb h h').2
theorem a_in {R : Rp (List Str)} {xs : List Str} (h : Ev rS ta G s) (h' : Ev R tb G xs) (I : InS K R) (M : Mono R) : Ev rB (tOp (rIn K false) ta tb) G (decide (s ∈ xs)) := ev_in h h'
theorem a_nin {R : Rp (List Str)} {xs : List Str} (h : Ev rS ta G s) (h' : Ev R tb G xs) (I : InS K R) (M : Mono R) : Ev rB (tOp (rIn K true) ta tb) G (!decide (s ∈ xs)) := ev_nin h h'
def IxC (K : PySem.W.Frag) (R : Rp γ) (z : γ) (tb : TE) (G : Cells K) (r : Rp α) (x : α) : Prop := ∀ ta, Ev R ta G z → Ev r (tOp (rIx K) ta tb) G x
theorem a_ix (h : Ev R ta G z) (k : IxC K R z tb G r x) : Ev r (tOp (rIx K) ta tb) G x := k ta h
theorem ixc_L {xs : List α} [M : Mono r] (hi : Ev rI tb G i) (hx : atI xs i = some x) : IxC K (rL r) xs tb G r x := fun ta h => ev_ix h hi trivial hx
theorem ixc_Q {xs : List α} [M : Mono r] (hi : Ev rI tb G i) (hx : atI xs i = some x) : IxC K (rQ K r) xs tb G r x := fun ta h => ev_ix h hi trivial hx
theorem ixc_T {xs : List α} [M : Mono r] (hi : Ev rI tb G i) (hx : atI xs i = some x) : IxC K (rT K r) xs tb G r x := fun ta h => ev_ix h hi trivial hx
theorem ixc_S {t : Str} (hi : Ev rI tb G i) (hx : atI (chs s) i = some t) : IxC K rS s tb G rS t := fun ta h => ev_ix h hi trivial hx
theorem ixc_0 {p : α × β} [M : Mono r] [N : Mono q] : IxC K (rP K r q) p (tC (.int 0)) G r p.1 := fun ta h => ev_fst h
theorem ixc_1 {p : α × β} [M : Mono r] [N : Mono q] : IxC K (rP K r q) p (tC (.int 1)) G q p.2 := fun ta h => ev_snd h
def LnC (K : PySem.W.Frag) (R : Rp γ) (z : γ) (n : Nat) : Prop := ∀ (G : Cells K) te, Ev R te G z → Ev rI (tCB (rLenU K) (tCons te tNil)) G (n : Int)
theorem a_len {n : Nat} (h : Ev R te G z) (k : LnC K R z n) : Ev rI (tCB (rLenU K) (tCons te tNil)) G (n : Int) := k G te h
theorem lnc_L {xs : List α} [M : Mono r] : LnC K (rL r) xs xs.length := fun G te h => ev_len h trivial
theorem lnc_Q {xs : List α} [M : Mono r] : LnC K (rQ K r) xs xs.length := fun G te h => ev_len h trivial
theorem lnc_T {xs : List α} [M : Mono r] : LnC K (rT K r) xs xs.length := fun G te h => ev_len h trivial
theorem lnc_P {p : α × β} [M : Mono r] [N : Mono q] : LnC K (rP K r q) p 2 := fun G te h => ev_len h trivial
theorem lnc_S : LnC K rS s s.length := fun G te h => ev_len h trivial
def IntC (R : Rp γ) (z : γ) (n : Int) : Prop := ∀ (K : PySem.W.Frag) (G : Cells K) te, Ev R te G z → Ev rI (tCB rIntU (tCons te tNil)) G n
theorem a_int (h : Ev R te G z) (k : IntC R z n) : Ev rI (tCB rIntU (tCons te tNil)) G n := k K G te h
theorem intc_I : IntC rI i i := fun K G te h => ev_intI h
theorem intc_B : IntC rB c (b2 c) := fun K G te h => ev_intB h
def TrC (K : PySem.W.Frag) (R : Rp γ) (z : γ) (f : Bool) : Prop := ∀ (G : Cells K) te, Ev R te G z → EvT (tTru K te) G f
theorem a_tru {f : Bool} (h : Ev R ta G z) (k : TrC K R z f) : EvT (tTru K ta) G f := k G ta h
theorem trc_L {xs : List α} : TrC K (rL r) xs (!xs.isEmpty) := fun G te h => et_tru h trivial
theorem trc_T {xs : List α} : TrC K (rT K r) xs (!xs.isEmpty) := fun G te h => et_tru h trivial
theorem trc_I : TrC K rI i (i != 0) := fun G te h => et_tru h trivial
theorem trc_S : TrC K rS s ((s.length : Int) != 0) := fun G te h => et_tru h trivial
theorem a_tupC {R : Rp (List α)} {xs : List α} (h : Ev R te G xs) (N : Mono R) (I : Seq K r R) (M : Mono r) : Ev (rT K r) (tCB (rTupU K) (tCons te tNil)) G xs := ev_tupC h
theorem a_list {R : Rp (List α)} {xs : List α} (h : Ev R te G xs) (N : Mono R) (I : Seq K r R) (M : Mono r) (F : Frz K r) : Nw (nl K r) (tCB (rListU K) (tCons te tNil)) G xs := nw_list h
theorem a_isi {T T' : String} {f : Bool} (h : Ev R te G z) (M : Mono R) (N : TyN K R T) (hb : kitB T T' = some f) : Ev rB (tCB (rIsi K) (tCons te (tCons (tC (.ty T')) tNil))) G f := ev_isi h hb
theorem a_cons {A : Ra γ} {g : γ} {tr : TA} (h : Ev r te G a) (M : Mono r) (hr : EvA A tr G g) : EvA (aC r A) (tCons te tr) G (a, g) := ea_cons h hr
theorem a_el {tr : TA} {xs : List α} (h : Ev r te G x) (M : Mono r) (hr : EvA (aAll r) tr G xs) : EvA (aAll r) (tCons te tr) G (x :: xs) := el_cons h hr
theorem a_tup {ta : TA} {xs : List α} (h : EvA (aAll r) ta G xs) (M : Mono r) (hz : xs.length ≤ 100000) : Ev (rT K r) (tTup ta) G xs := ev_tup h hz
theorem a_lstD {ta : TA} {xs : List α} (h : EvA (aAll r) ta G xs) (M : Mono r) (F : Frz K r) (hz : xs.length ≤ 100000) : Nw (nl K r) (tLst ta) G xs := nw_lst h hz
theorem a_pair (h : Ev r ta G a) (M : Mono r) (h' : Ev q tb G b) (N : Mono q) : Ev (rP K r q) (tTup (tCons ta (tCons tb tNil))) G (a, b) := ev_pair h h'
theorem a_slL {xs : List α} {lo hi : Option Int} {tl th : TO} (h : Ev (rL r) ta G xs) (M : Mono r) (F : Frz K r) (hl : EvO tl G lo) (hh : EvO th G hi) : Nw (nl K r) (tSl (rSlL K) ta tl th) G (cut xs lo hi) := nw_slL h hl hh
theorem a_cat {xs ys : List α} (h : Ev (rL r) ta G xs) (M : Mono r) (F : Frz K r) (h' : Ev (rL r) tb G ys) (hz : xs.length + ys.length ≤ 100000) : Nw (nl K r) (tOp rCat ta tb) G (xs ++ ys) := nw_cat h h' hz
theorem a_isN {o : Option α} (ha : Ev (rO r) ta G o) (N : NotNon r) (M : Mono r) : Ev rB (tOp (fun x y H Q => y = .non ∧ Q (.bl (decide (x = .non))) H) ta (tC .non)) G (isNone' o) := ev_isN ha
theorem a_notN {o : Option α} (ha : Ev (rO r) ta G o) (N : NotNon r) (M : Mono r) : Ev rB (tOp (fun x y H Q => y = .non ∧ Q (.bl (!decide (x = .non))) H) ta (tC .non)) G (!isNone' o) := ev_notN ha
def PreOk (pre : γ → Prop) (g : γ) : Prop := pre g
def AppEq (f : γ → β) (g : γ) (b : β) : Prop := f g = b
theorem a_call {A : Ra γ} {g : γ} {pre : γ → Prop} {f : γ → β} {E' : XK} {t : TA} (h : EvA A t G g) (hp : PreOk pre g) (e : AppEq f g b) : Ev q (tCall (spF A pre q f) [] E' t) G b := ev_call h hp e
theorem a_ncall {A : Ra γ} {g : γ} {pre : γ → Prop} {R : Rs K β} {f : γ → β} {E' : XK} {t : TA} (h : EvA A t G g) (hp : PreOk pre g) (e : AppEq f g b) : Nw R (tCall (spN A pre R f) [] E' t) G b := nw_call h hp e
/-- a new list where one is read -/
theorem a_nl {xs : List α} (h : Nw (nl K r) te G xs) : Ev (rL r) te G xs := h.lst
end
end Gt
/-! Gt8: own classes: walks over their instances, operators, items. -/
namespace Gt
open PySem PySem.Spec PyProof.Rows L2

/-- a method of the class at C and its promise -/
structure CalM (P : Program) (w : World) (K : PySem.W.Frag) (mg : Str → Option Value) (base : Heap) (CX : CXT) (C : Addr) (m : Str) (k : Nat) (ps : List Str) (sp : Sp) : Prop where
  ex : ∃ (f : Addr) (fd : FuncData), FnOk P w K mg base CX k f fd ps sp ∧ Meth K C m f ∧ Binds K fd ps []
/-- how the class at C is made -/
structure CalI (P : Program) (w : World) (K : PySem.W.Frag) (mg : Str → Option Value) (base : Heap) (CX : CXT) (C : Addr) (k : Nat) (ps : List Str) (sp : Sp) : Prop where
  ex : ∃ (f : Addr) (fd : FuncData), FnOk P w K mg base CX k f fd ps sp ∧ Mk K C f ∧ Binds K fd ps []
structure DfM (K : PySem.W.Frag) (C : Addr) (x q : Str) (st : Stmt) : Prop where
  ex : ∃ (f : Addr) (fd : FuncData), Fun K x q st f fd ∧ PySem.W.findIn K (.ref C) x = some (some (.ref f)) ∧ PySem.W.isFn K (.ref f) = true

section
variable {X : Cx} {CX : CXT} {pins : List (Addr × Obj)} {σ : L2.St} {H H' : Hp} {s s' : Shared} {C fi a it l : Addr} {k : Nat} {fd : FuncData} {ps : List Str} {sp : Sp} {E : XK} {e : Expr} {te : TE} {tg : Expr} {o : HO}
/-- a body that runs from a known state -/
theorem run_from {P : Program} {w : World} {K : PySem.W.Frag} {mg : Str → Option Value} {base : Heap} {name qual : Str} {params : Arguments} {body : List Stmt} {scope : Scope} {dV kV doc pm cdv ct oc : Value} {an od : Option Addr} {osl : Array (Option Value)} {N : List Str}
    {A : Around} {outer : List PySem.Env} {args : Args} {us : List Value} {vs : List V} {Q : VK} {t : TS} {f : Addr}
    (lk : K.lookup f = some ⟨oc, od, .func (PySem.W.fnOf name qual params body scope dV kV doc pm an cdv ct), osl⟩) (hcd : PySem.W.codeIn K cdv qual = true) (S : FnScope N ps scope) (hl : vs.length = ps.length)
    (hr : Room (k + 1) A) (e0 : Env0 P w K mg base A outer s H) (hb : BindsTo s (PySem.W.fnOf name qual params body scope dV kV doc pm an cdv ct) args (ps.zip us)) (r : Vals vs us)
    (ht : PSs (cxOf CX P w K mg base N qual scope f cdv A outer s H E) body t) (q : t { nx := fun _ H' => Q .non H', rt := Q } (start N vs) H) : codeAny (model P w) A (.call (.ref f) args) (CR CX outer P w H s Q E) s := by
  have KX := e0.mod.kin.keeps fun b o e => (e0.bs b o e).1
  have cells : ∀ y ∈ ps.zip us, scope.names.lookup y.1 = some .local ∨
      (scope.names.lookup y.1 = some .cell ∧ ((cellsFrom (s.heap.objs.size + 1) scope.names []).lookup y.1).isSome = true) := fun ⟨n, v⟩ hy =>
    (S.par n (List.of_mem_zip hy).1).imp id fun z => ⟨z, PySem.W.cellsFrom_some _ _ _ (.inl z)⟩
  have inside : ∀ (u : Value) (s' : Shared) (σ' : L2.St) (H' : Hp) (v : V), L2.Inv (cxOf CX P w K mg base N qual scope f cdv A outer s H E) [] σ' H' s' → RelV v u → Q v H' → CE outer P w H s Q u s' := fun _ _ _ H' v J rv z =>
    ⟨v, H', J.os, J.bare, J.base, J.hok, rv, z⟩
  refine codeAny_call_function hr.depth (KX _ _ lk) rfl S.co S.gen rfl (PySem.W.codeRec_of KX hcd) (hb _ _ _ _ (wpAny_newFunctionEnv_cells S.kind cells ?_))
  intro env he s1 x
  subst he
  refine ⟨Heap.NoLimit.keeps (e0.mod.nolimit.keeps fun b o e => (e0.bs b o e).1) x.toInCall.keep, codeAny_func ?_⟩
  refine wpAny_mono (ht.run [] s1 (start N vs) H _ (inv_start S hr.hd e0 hl r x) q) (fun fl s' hs => ?_) fun _ _ z => z
  cases fl with
  | ret u => exact let ⟨v, σ', H', J, rv, z⟩ := hs; inside u s' σ' H' v J rv z
  | next => exact let ⟨σ', H', J, z⟩ := hs; inside .none s' σ' H' .non J rfl z
  | cont => exact let ⟨_, _, _, z⟩ := hs; False.elim z
  | brk => exact let ⟨_, _, _, z⟩ := hs; False.elim z
/-- __iter__ of the class at C hands out a new iterator of the list in the field g -/
structure ItOk (P : Program) (w : World) (K : PySem.W.Frag) (mg : Str → Option Value) (base : Heap) (C : Addr) (g : Str) : Prop where
  ex : ∃ fi : Addr, PySem.W.findIn K (.ref C) "__iter__" = some (some (.ref fi)) ∧ PySem.W.isFn K (.ref fi) = true ∧
    ∀ (A : Around) (outer : List PySem.Env) (s : Shared) (H : Hp) (a dx l : Addr) (fs : List (Str × V)) (zs : List V) (Q : VK) (E : XK), Room 1 A → Env0 P w K mg base A outer s H → H a = some (.ins C dx fs) → fs.lookup g = some (.ref l) → SqL K H l zs →
      (∀ it, H it = none → s.heap.objs.size ≤ it → Q (.ref it) (upd H it (ItO l it 0))) → codeAny (model P w) A (.call (.ref fi) ⟨[.ref a], []⟩) (CR CX0 outer P w H s Q E) s
theorem run_iter {A : Around} {g : Str} {Q : Value → Shared → Prop} {dx : Addr} {fs : List (Str × V)} {zs : List V} (hrA : Room 1 A) (hfr : A.frames = X.A.frames) (O : ItOk X.prog X.w X.K X.mg X.base C g)
    (I : L2.Inv X pins σ H s) (ha : H a = some (.ins C dx fs)) (hl : fs.lookup g = some (.ref l)) (hz : SqL X.K H l zs)
    (h : ∀ it s2, L2.Inv X pins σ H s2 → s2.heap.IsListIter it l 0 → FpOk X pins H it → Q (.ref it) s2) :
    wpAny (model X.prog X.w) A (pyIter (.ref a)) Q X.xe s := by
  obtain ⟨mA, J, _⟩ := ins_get I.hok ha
  obtain ⟨od, J, _⟩ := J.look
  obtain ⟨m0, hF⟩ := I.fr
  obtain ⟨fi, hs, hf, F⟩ := O.ex
  refine PySem.W.owit_iter hF I.ok.mod.kin J hs hf ?_
  have e0 : Env0 X.prog X.w X.K X.mg X.base A X.stack s H := by
    have e := I.env0
    exact ⟨by rw [hfr]; exact e.frames, e.mod, e.bs, e.bsz, e.funs, e.frf, e.hok, e.bare⟩
  refine wpAny_call (codeAny_mono (F A X.stack s H a dx l fs zs (fun v H' => ∃ it, H it = none ∧ s.heap.objs.size ≤ it ∧ v = .ref it ∧ H' = upd H it (ItO l it 0)) (fun _ _ _ => False) hrA e0 ha hl hz fun it h0 h1 => ⟨it, h0, h1, rfl, rfl⟩) fun r s' hq => ?_)
  cases r with
  | error er => exact False.elim hq
  | ok fl =>
    cases fl with
    | next => exact False.elim hq
    | brk => exact False.elim hq
    | cont => exact False.elim hq
    | ret u =>
      obtain ⟨v, H2, I3, rv, it, h0, yg, ev, eH⟩ := I.after hq
      subst ev
      subst eH
      cases (show u = Value.ref it from rv)
      have ho := itO_get I3 upd_same
      have h1' : upd H it (ItO l it 0) it = some (.ext fun h => h.get? it = some (GNX.itObj l 0)) := upd_same
      have I4 := ItX.inv_drop I3 h1'
      have f4 := ItX.inv_fp I3 h1' (Nat.le_trans I.sz yg)
      rw [ItX.dropH_upd h0] at I4 f4
      show wpAny _ _ (specialOf (.ref it) "__next__") _ _ s'
      refine wpAny_specialOf (name := Str.ofString "__next__") ⟨_, ho, rfl⟩ slot_listiter_next.lookup ?_
      exact h it s' I4 ⟨_, ho, rfl, rfl⟩ f4
/-- for x in o -/
def iOwn (K : PySem.W.Frag) (C : Addr) (g : Str) (te : TE) : TI := fun σ H R => te σ H fun x H1 => ∃ a dx fs l zs, x = .ref a ∧ H1 a = some (.ins C dx fs) ∧ fs.lookup g = some (.ref l) ∧ SqL K H1 l zs ∧ R (Itl K l) H1
theorem pi_own {g : Str} (he : PE X e te) (O : ItOk X.prog X.w X.K X.mg X.base C g) (hr : Room 1 X.A) : PI X tg e (iOwn X.K C g te) := by
  refine ⟨fun pins s σ H R I h => ?_⟩
  refine thn (he.run pins s σ H _ I h) fun u s1 ⟨x, H1, I1, rx, a, dx, fs, l, zs, ex, ea, el, ez, q⟩ => ?_
  subst ex
  cases (show u = Value.ref a from rx)
  exact run_iter (X := X) hr rfl O I1 ea el ez fun it s2 I2 st fp => ⟨it, [it], _, _, H1, rfl, I2, turn_list l it, st, fun b hb => by rw [show b = it by simpa using hb]; exact fp, q⟩

/-! ### list(o) -/
theorem fill_loop {A1 : Around} {q : Addr} {Rs : Result → Shared → Prop} {zs : List V} (hh : A1.in1.handled = none) (hlq : l ≠ q) (hzs : zs.length ≤ sizeLine) (hl : SqL X.K H l zs) (hdone : ∀ s, Inv X pins σ (upd H q (.lst zs)) s → Rs (.ok (.ret .none)) s) :
    ∀ (m i : Nat) (s : Shared), m + i = zs.length → Inv X pins σ (upd H q (.lst (zs.take i))) s → s.heap.IsListIter it l i → FpOk X pins (upd H q (.lst (zs.take i))) it → codeAny (model X.prog X.w) A1 (.builtin "list.extend.loop" ⟨[.ref q, .ref it, .none], []⟩) Rs s := by
  have rd : ∀ ys, SqL X.K (upd H q (.lst ys)) l zs := fun ys => by
    have e : upd H q (.lst ys) l = H l := upd_ne hlq
    unfold SqL Rd at hl ⊢
    simp only [e]
    exact hl
  intro m
  induction m with
  | zero =>
    intro i s hi I st fp
    have hi' : i = zs.length := by omega
    subst hi'
    rw [List.take_length] at I fp
    obtain ⟨its, rv, p, hz⟩ := I.list (rd _)
    obtain ⟨f0, f1, f2, f3, f4, f5⟩ := fp
    have hln := rv.length
    refine codeAny_builtin PySem.F.entry_extend_loop ?_
    rw [Around.under_plainId PySem.F.plain_extend_loop _]
    show wpAny _ A1.in1 (pyNext (.ref it) >>= _) _ _ s
    refine wpAny_bind (wpAny_pyNext_list_end hh st p.isList (by simp; omega) fun h' eb => ?_)
    exact wpAny_pure (hdone _ (I.turned (t' := s.toks) (fun b o hb e => eb b o hb e) f0 f1 f3 f4 f5))
  | succ m ih =>
    intro i s hi I st fp
    have hlt : i < zs.length := by omega
    have hx : zs[i]? = some zs[i] := List.getElem?_eq_getElem hlt
    obtain ⟨its, rv, p, hz⟩ := I.list (rd _)
    obtain ⟨u, hu, ru⟩ := rv.get hx
    obtain ⟨f0, f1, f2, f3, f4, f5⟩ := fp
    refine codeAny_builtin PySem.F.entry_extend_loop ?_
    rw [Around.under_plainId PySem.F.plain_extend_loop _]
    show wpAny _ A1.in1 (pyNext (.ref it) >>= _) _ _ s
    refine wpAny_bind (wpAny_pyNext_list_item st p.isList (x := u) (by simpa using hu) fun h' st' sb => ?_)
    have I1 : Inv X pins σ (upd H q (.lst (zs.take i))) { s with heap := h' } := I.turned (t' := s.toks) (fun b o hb e => (sb.2 b hb).trans e) f0 f1 f3 f4 f5
    show wpAny _ A1.in1 (updateSeq q (·.push u) >>= _) _ _ _
    obtain ⟨z, its2, k2, r2, hl2, e2⟩ := I1.lstM upd_same
    have etk : zs.take (i + 1) = zs.take i ++ [zs[i]] := by rw [List.take_add_one, hx]; rfl
    have hlen : (zs.take i).length < sizeLine := by rw [List.length_take]; omega
    have hl3 := r2.length
    have nq : it ≠ q := fun z => by
      rw [z, upd_same] at f0
      cases f0
    refine wpAny_bind (wpAny_updateSeq e2 rfl (wpAny_pure ⟨plainId_quiet PySem.F.plain_extend_loop _, ?_⟩) (by rw [List.size_toArray]; omega) (by show (its2.toArray.push u).size ≤ sizeLine + 1; rw [Array.size_push, List.size_toArray]; omega))
    have I2 := I1.lset (f := (·.push u)) (its' := its2 ++ [u]) (ys := zs.take i ++ [zs[i]]) (t' := s.toks) upd_same e2 (by simp) (r2.append (.cons ru .nil)) (by rw [List.length_append, List.length_singleton]; omega)
    rw [upd_upd, ← etk] at I2
    refine ih (i + 1) _ (by omega) I2 ?_ ?_
    · exact st'.at fun o e => (Heap.get?_update_ne _ _ _ _ nq).trans e
    · exact ⟨by rw [upd_ne nq]; rw [upd_ne nq] at f0; exact f0, f1, f2, f3, f4, f5⟩
/-- such an instance has no length of its own -/
structure NoLen (K : PySem.W.Frag) (C : Addr) : Prop where
  len : PySem.W.findIn K (.ref C) "__len__" = some none
  hint : PySem.W.findIn K (.ref C) "__length_hint__" = some none
theorem hint_yes {M : Model} {A : Around} {E : Value → Shared → Prop} {Q : Bool → Shared → Prop} {ox : Obj} {od : Option Obj} (n : NoLen X.K C) (hK : X.K.In s.heap) (J : PySem.W.InstAt s.heap a ox C od) (h : Q true s) : wpAny M A (Builtin.List.listLengthHint (.ref a)) Q E s := by
  unfold Builtin.List.listLengthHint
  refine wpAny_bind (wpAny_bind (J.type.here ((PySem.W.looks_findIn hK n.len).here ?_)))
  iterate 2 refine PySem.W.KFB.if_not rfl ?_
  exact wpAny_bind (wpAny_bind (J.type.here ((PySem.W.looks_findIn hK n.hint).here (wpAny_pure h))))
theorem fill_from {A1 : Around} {g : Str} {q dx : Addr} {Rs : Result → Shared → Prop} {fs : List (Str × V)} {zs : List V} (hr : Room 1 A1.in1) (hfr : A1.in1.frames = X.A.frames) (hh : A1.in1.handled = none) (O : ItOk X.prog X.w X.K X.mg X.base C g) (n : NoLen X.K C)
    (I : L2.Inv X pins σ (upd H q (.lst [])) s) (ha : H a = some (.ins C dx fs)) (hq : H q = none) (hl : fs.lookup g = some (.ref l)) (hz : SqL X.K H l zs) (hzs : zs.length ≤ sizeLine) (hlq : l ≠ q)
    (hdone : ∀ s, L2.Inv X pins σ (upd H q (.lst zs)) s → Rs (.ok (.ret .none)) s) (herr : ∀ e s, X.xe e s → Rs (.error e) s) :
    wpAny (model X.prog X.w) A1.in1 (Builtin.List.listExtendWith (.ref q) (.ref a) .none)
      (fun fin s' => match fin with | .done f => Rs (.ok f) s' | .again c => c.quiet = true ∧ codeAny (model X.prog X.w) A1 c Rs s') (fun e s' => Rs (.error e) s') s := by
  have nqa : q ≠ a := (ne_of_none ha hq).symm
  have ha2 : upd H q (.lst []) a = some (.ins C dx fs) := (upd_ne nqa.symm).trans ha
  have hz2 : SqL X.K (upd H q (.lst [])) l zs := by
    have e : upd H q (.lst []) l = H l := upd_ne hlq
    unfold SqL Rd at hz ⊢
    simp only [e]
    exact hz
  obtain ⟨mA, J, _⟩ := ins_get I.hok ha2
  obtain ⟨od, J, _⟩ := J.look
  unfold Builtin.List.listExtendWith
  refine wpAny_bind (J.type.here ?_)
  have same : Builtin.List.listSameRef (.ref q) (.ref a) = false := by simp [Builtin.List.listSameRef, nqa]
  have notL : (Value.ref C == Value.type "list") = false := rfl
  have notT : (Value.ref C == Value.type "tuple") = false := rfl
  simp only [same, notL, notT, Bool.or_false, Bool.false_eq_true, if_false]
  refine wpAny_bind (wpAny_mono (run_iter (X := X) (Q := fun v s' => ∃ it, v = .ref it ∧ L2.Inv X pins σ (upd H q (.lst [])) s' ∧ s'.heap.IsListIter it l 0 ∧ FpOk X pins (upd H q (.lst [])) it) hr hfr O I ha2 hl hz2 fun it s2 I2 st fp => ⟨it, rfl, I2, st, fp⟩) (fun v s2 ⟨it, ev, I2, st, fp⟩ => ?_) fun e s' he => herr e s' he)
  subst ev
  have sw : wpAny (model X.prog X.w) A1.in1 (holding [Value.ref it] (Builtin.List.listLengthHint (.ref a))) (fun b s' => b = true ∧ s' = s2) (fun e s' => Rs (.error e) s') s2 := by
    obtain ⟨mA, J, _⟩ := ins_get I2.hok ha2
    obtain ⟨od, J, _⟩ := J.look
    exact wpAny_holding (hint_yes n I2.kIn J ⟨rfl, rfl⟩)
  refine wpAny_bind (wpAny_mono sw (fun b s3 ⟨eb, es⟩ => ?_) fun _ _ z => z)
  subst eb
  subst es
  have go : ∀ s4, L2.Inv X pins σ (upd H q (.lst [])) s4 → s4.heap.IsListIter it l 0 → codeAny (model X.prog X.w) A1 (.builtin "list.extend.loop" ⟨[.ref q, .ref it, .none], []⟩) Rs s4 := fun s4 I4 st4 =>
    fill_loop hh hlq hzs hz hdone zs.length 0 s4 (by omega) I4 st4 fp
  refine PySem.W.KFB.if_so rfl ?_
  obtain ⟨z, its, k1, r3, hl3, e3⟩ := I2.lstM upd_same
  cases r3
  refine wpAny_bind (wpAny_rule (wpAny_bind ?_))
  show wpAny _ _ (updateSeq q (·.push .none) >>= fun _ => updateSeq q (·.pop)) _ _ _
  refine wpAny_bind (wpAny_updateSeq e3 rfl ?_)
  have I5 := I2.lset (f := (·.push Value.none)) (its' := [Value.none]) (ys := [.non]) (t' := s3.toks) upd_same e3 (by simp) (.cons rfl .nil) (by rw [List.length_singleton, sizeLine_eq]; decide)
  obtain ⟨z4, its4, k4, r4, hl4, e4⟩ := I5.lstM upd_same
  obtain ⟨u4, rfl, ru4⟩ := r4.one
  have nq : it ≠ q := fun z => by
    have := fp.1
    rw [z, upd_same] at this
    cases this
  refine wpAny_updateSeq e4 rfl ?_ (by show 1 ≤ sizeLine; rw [sizeLine_eq]; decide) (by show 0 ≤ sizeLine + 1; exact Nat.zero_le _)
  have I6 := I5.lset (f := (·.pop)) (its := [u4]) (its' := []) (ys := []) (t' := s3.toks) upd_same e4 (by rfl) .nil (Nat.zero_le _)
  rw [upd_upd, upd_upd] at I6
  exact wpAny_pure ⟨plainId_quiet PySem.F.plain_extend_loop _, go _ I6 (st.at fun o e => (Heap.get?_update_ne _ _ _ _ nq).trans ((Heap.get?_update_ne _ _ _ _ nq).trans e))⟩
/-- list(o), o an instance of the class at C whose __iter__ walks the list in its field g -/
def rListY (K : PySem.W.Frag) (C : Addr) (g : Str) : List V → Hp → VK → Prop := fun xs H Q => ∃ a dx fs l zs, xs = [.ref a] ∧ H a = some (.ins C dx fs) ∧ fs.lookup g = some (.ref l) ∧ SqL K H l zs ∧ zs.length ≤ sizeLine ∧ (∀ q, H q = none → l ≠ q) ∧ ∀ q, H q = none → Q (.ref q) (upd H q (.lst zs))
theorem call_listY {g : Str} (hc : X.calm = true) (O : ItOk X.prog X.w X.K X.mg X.base C g) (n : NoLen X.K C) (hr : Room 3 X.A) : CallR X (.type "list") (rListY X.K C g) := by
  intro pins s σ H xs us Q I rv h
  obtain ⟨a, dx, fs, l, zs, rfl, ha, hl, hz, hzs, hlq, hq⟩ := h
  obtain ⟨u, rfl, ru⟩ := rv.one
  cases ru
  refine callType_codes (Q₁ := fun obj s₁ => obj = .ref s.heap.objs.size ∧ s₁ = { s with heap := s.heap.push { cls := .type "list", data := .seq #[] } })
    PySem.F.called_list (PySem.F.typeCall_list_1 _) PySem.F.entry_list_init (code_list_new _ ⟨rfl, rfl⟩) ?_
  rintro obj s₁ ⟨rfl, rfl⟩
  have hS : (s.heap.push { cls := .type "list", data := .seq #[] }).get? s.heap.objs.size = some { cls := .type "list", data := .seq #[] } := Heap.get?_push_size _ rfl
  refine ⟨⟨_, hS, rfl⟩, PySem.F.args_list_init_2 _ _, ?_⟩
  have fr := I.hok.fresh (Nat.le_refl _)
  have I1 : L2.Inv X pins σ (upd H s.heap.objs.size (.lst [])) { s with heap := s.heap.push { cls := .type "list", data := .seq #[] } } := I.lnew (its := []) (t' := s.toks) .nil (Nat.zero_le _)
  show wpAny _ _ (do
    let old ← Builtin.List.listItems (.ref s.heap.objs.size)
    Builtin.List.listUpdate (.ref s.heap.objs.size) (fun _ => #[])
    letGo old.toList.reverse
    Builtin.List.listExtendWith (.ref s.heap.objs.size) (.ref a) .none) _ _ _
  unfold Builtin.List.listItems
  refine wpAny_bind (wpAny_bind (wpAny_seqItems hS rfl (wpAny_pure ?_)))
  show wpAny _ _ (updateSeq s.heap.objs.size (fun _ => #[]) >>= fun _ => letGo (#[] : Array Value).toList.reverse >>= fun _ =>
    Builtin.List.listExtendWith (.ref s.heap.objs.size) (.ref a) .none) _ _ _
  refine wpAny_bind (wpAny_updateSeq hS rfl (wpAny_bind (wpAny_letGo ?_)))
  have I2 := I1.lset (f := fun _ => #[]) (its := []) (its' := []) (ys := []) (t' := s.toks) upd_same hS rfl .nil (Nat.zero_le _)
  rw [upd_upd] at I2
  have hr1 : Room 1 X.A.in1.in1 := Room.in1 (Room.in1 hr)
  exact fill_from (A1 := X.A.in1) (Rs := wants (fun r s₂ => r = .none ∧ EP X pins σ Q (.ref s.heap.objs.size) s₂) X.xe) hr1 rfl (by have := I.ok.hd hc; exact this) O n I2 ha fr hl hz hzs (hlq _ fr)
    (fun s' I' => ⟨rfl, .ref s.heap.objs.size, _, I', rfl, hq _ fr⟩) fun e s' he => he

/-! ### operators of one class -/
/-- x op y, both of the class at C: its method's promise -/
def rOwnOp (C : Addr) (sp : Sp) (E : XK) : R2 := fun x y H Q => ∃ a dx fs b dy gs, x = .ref a ∧ y = .ref b ∧ H a = some (.ins C dx fs) ∧ H b = some (.ins C dy gs) ∧ sp [x, y] H Q E
theorem run_call {f : Addr} {Q : VK} {us : List Value} {vs : List V} (F : FnOk X.prog X.w X.K X.mg X.base CX k f fd ps sp) (b : L2.Binds X.K fd ps []) (hr : Room k X.A) (xF : Passes CX X E) (I : L2.Inv X pins σ H s) (r : Vals vs us) (h : sp vs H Q E) :
    wpAny (model X.prog X.w) X.A (call (.ref f) us) (EP X pins σ Q) X.xe s := by
  have hl := F.len _ _ _ _ h
  refine wpAny_call (codeAny_mono (F.run X.A X.stack s H ⟨us, []⟩ us vs Q E hr I.env0 (by
    have := b s us I.kIn (by rw [List.append_nil, ← r.length]; exact hl)
    simpa using this) r h) fun r s' hq => ?_)
  cases r with
  | error er => exact xF pins σ H s er s' I hq
  | ok fl =>
    cases fl with
    | ret u => exact I.after hq
    | next => exact False.elim hq
    | brk => exact False.elim hq
    | cont => exact False.elim hq
theorem op_cmpO {op : CmpOp} (M : CalM X.prog X.w X.K X.mg X.base CX C (cmpInfo op).2.1 k ps sp) (hop : ∀ a b, compareOp op a b = richCompare op a b) (hr : Room k X.A) (xF : Passes CX X E) : OpR X (compareOp op) (rOwnOp C sp E) := by
  intro pins s σ H x y v u Q I rx ry h
  obtain ⟨a, dx, fs, b, dy, gs, rfl, rfl, ha, hb, q⟩ := h
  cases (show v = Value.ref a from rx)
  cases (show u = Value.ref b from ry)
  obtain ⟨f, fd, F, m, bF⟩ := M.ex
  obtain ⟨mA, J, _⟩ := ins_get I.hok ha
  obtain ⟨od, J, _⟩ := J.look
  obtain ⟨mB, J2, _⟩ := ins_get I.hok hb
  obtain ⟨od2, J2, _⟩ := J2.look
  obtain ⟨m0, hF⟩ := I.fr
  rw [hop]
  refine PySem.W.cmp_K (op := op) (tb := .ref C) hr.units0 hF I.ok.mod.kin J J2.type (by unfold PySem.W.notFirst; simp) m.at_ m.fn ?_
  refine wpAny_mono (run_call (us := [.ref a, .ref b]) (vs := [.ref a, .ref b]) F bF hr xF I (.cons rfl (.cons rfl .nil)) q) (fun w s' z => ?_) fun _ _ x => x
  obtain ⟨z', H', I', rz, qz⟩ := z
  exact SlX.cmpback rz ⟨z', H', I', rz, qz⟩
theorem op_binO {op : Operator} (M : CalM X.prog X.w X.K X.mg X.base CX C (PySem.dunder op.info.2) k ps sp) (hc : PySem.W.selfFirst X.K C = true) (hr : Room k X.A) (xF : Passes CX X E) : OpR X (binaryOp op) (rOwnOp C sp E) := by
  intro pins s σ H x y v u Q I rx ry h
  obtain ⟨a, dx, fs, b, dy, gs, rfl, rfl, ha, hb, q⟩ := h
  cases (show v = Value.ref a from rx)
  cases (show u = Value.ref b from ry)
  obtain ⟨f, fd, F, m, bF⟩ := M.ex
  obtain ⟨mA, J, _⟩ := ins_get I.hok ha
  obtain ⟨od, J, _⟩ := J.look
  obtain ⟨mB, J2, _⟩ := ins_get I.hok hb
  obtain ⟨od2, J2, _⟩ := J2.look
  obtain ⟨m0, hF⟩ := I.fr
  refine PySem.W.binop_K hF I.ok.mod.kin J J2.type hc m.at_ m.fn ?_
  refine wpAny_mono (run_call (us := [.ref a, .ref b]) (vs := [.ref a, .ref b]) F bF hr xF I (.cons rfl (.cons rfl .nil)) q) (fun w s' z => ?_) fun _ _ x => x
  obtain ⟨z', H', I', rz, qz⟩ := z
  exact SlX.cmpback rz ⟨z', H', I', rz, qz⟩
/-- x op= y, x of the class at C -/
def tOwnIp (C : Addr) (sp : Sp) (E : XK) : TIp := fun x y H Q => ∃ a dx fs, x = .ref a ∧ H a = some (.ins C dx fs) ∧ sp [x, y] H Q E
theorem ip_O {op : Operator} (M : CalM X.prog X.w X.K X.mg X.base CX C (dunderI op.info.2) k ps sp) (hc : PySem.W.selfFirst X.K C = true) (hr : Room k X.A) (xF : Passes CX X E) : PIp X op (tOwnIp C sp E) := by
  intro pins s σ H x y v u Q I rx ry h
  obtain ⟨a, dx, fs, rfl, ha, q⟩ := h
  cases (show v = Value.ref a from rx)
  obtain ⟨f, fd, F, m, bF⟩ := M.ex
  obtain ⟨mA, J, _⟩ := ins_get I.hok ha
  obtain ⟨od, J, _⟩ := J.look
  obtain ⟨m0, hF⟩ := I.fr
  refine PySem.W.ksp_inplace hF I.ok.mod.kin J hc m.at_ m.fn ?_
  refine wpAny_mono (run_call (us := [.ref a, u]) (vs := [.ref a, y]) F bF hr xF I (.cons rfl (.cons ry .nil)) q) (fun w s' z => ?_) fun _ _ x => x
  obtain ⟨z', H', I', rz, qz⟩ := z
  exact SlX.cmpback rz ⟨z', H', I', rz, qz⟩
/-- o[i] = v by an own __setitem__ -/
def tOwnSet (C : Addr) (sp : Sp) (E : XK) : TSet := fun o i v H Q => ∃ a dx fs, o = .ref a ∧ H a = some (.ins C dx fs) ∧ sp [o, i, v] H (fun _ H' => Q H') E
theorem set_O (M : CalM X.prog X.w X.K X.mg X.base CX C "__setitem__" k ps sp) (hq : PySem.W.noSeq X.K C = true) (hr : Room k X.A) (xF : Passes CX X E) : PSet X (tOwnSet C sp E) := by
  intro pins s σ H o i v ov iv u Q I ro ri rv h
  obtain ⟨a, dx, fs, rfl, ha, q⟩ := h
  cases (show ov = Value.ref a from ro)
  obtain ⟨f, fd, F, m, bF⟩ := M.ex
  obtain ⟨mA, J, _⟩ := ins_get I.hok ha
  obtain ⟨od, J, _⟩ := J.look
  obtain ⟨m0, hF⟩ := I.fr
  refine PySem.W.ksp_setItem hF I.ok.mod.kin J hq m.at_ m.fn ?_
  exact wpAny_mono (run_call (us := [.ref a, iv, u]) (vs := [.ref a, i, v]) F bF hr xF I (.cons rfl (.cons ri (.cons rv .nil))) q) (fun w s' ⟨z', H', I', _, qz⟩ => ⟨H', I', qz⟩) fun _ _ x => x
/-- x in o by an own __contains__ -/
def rOwnIn (C : Addr) (neg : Bool) (sp : Sp) (E : XK) : R2 := fun x o H Q => ∃ a dx fs, o = .ref a ∧ H a = some (.ins C dx fs) ∧ sp [o, x] H (fun v H' => ∃ b, v = .bl b ∧ Q (.bl (xor neg b)) H') E
theorem op_inO (M : CalM X.prog X.w X.K X.mg X.base CX C "__contains__" k ps sp) (hr : Room k X.A) (xF : Passes CX X E) : OpR X (compareOp .In) (rOwnIn C false sp E) := by
  intro pins s σ H x y v u Q I rx ry h
  obtain ⟨a, dx, fs, rfl, ha, q⟩ := h
  cases (show u = Value.ref a from ry)
  obtain ⟨f, fd, F, m, bF⟩ := M.ex
  obtain ⟨mA, J, _⟩ := ins_get I.hok ha
  obtain ⟨od, J, _⟩ := J.look
  obtain ⟨m0, hF⟩ := I.fr
  refine PySem.W.in_K hF I.ok.mod.kin J m.at_ m.fn ?_
  refine wpAny_mono (run_call (us := [.ref a, v]) (vs := [.ref a, x]) F bF hr xF I (.cons rfl (.cons rx .nil)) q) (fun w s' z => ?_) fun _ _ x => x
  obtain ⟨z', H', I', rz, b, rfl, qz⟩ := z
  cases (show w = Value.bool b from rz)
  exact wpAny_pure ⟨.bl b, H', I', rfl, by simpa using qz⟩
theorem op_ninO (M : CalM X.prog X.w X.K X.mg X.base CX C "__contains__" k ps sp) (hr : Room k X.A) (xF : Passes CX X E) : OpR X (compareOp .NotIn) (rOwnIn C true sp E) := by
  intro pins s σ H x y v u Q I rx ry h
  obtain ⟨a, dx, fs, rfl, ha, q⟩ := h
  cases (show u = Value.ref a from ry)
  obtain ⟨f, fd, F, m, bF⟩ := M.ex
  obtain ⟨mA, J, _⟩ := ins_get I.hok ha
  obtain ⟨od, J, _⟩ := J.look
  obtain ⟨m0, hF⟩ := I.fr
  refine PySem.W.notIn_K hF I.ok.mod.kin J m.at_ m.fn ?_
  refine wpAny_mono (run_call (us := [.ref a, v]) (vs := [.ref a, x]) F bF hr xF I (.cons rfl (.cons rx .nil)) q) (fun w s' z => ?_) fun _ _ x => x
  obtain ⟨z', H', I', rz, b, rfl, qz⟩ := z
  cases (show w = Value.bool b from rz)
  exact wpAny_pure ⟨.bl (!b), H', I', rfl, by simpa using qz⟩
end
end Gt
/-! Gt9: == and in of data of any depth, dicts, two clauses in one comprehension. -/
namespace Gt
open PySem PySem.Spec PyProof.Rows L2

/-! ### data -/
structure Dat (K : PySem.W.Frag) {β : Type} (r : Rp β) where
  dec : DecidableEq β
  enc : β → PyData
  dep : Nat
  dp : ∀ {H : Hp} {v : V} {b : β}, r H v b → Dp K H v (enc b)
  lay : ∀ {H : Hp} {v : V} {b : β}, r H v b → (enc b).canLay0 = true
  dpt : ∀ b, (enc b).depth ≤ dep
  eqv : ∀ a b, PyData.eqv (enc a) (enc b) = @decide (a = b) (dec a b)
section
variable {K : PySem.W.Frag} {α β : Type}
def datS : Dat K rS where
  dec := inferInstance
  enc := .str
  dep := 0
  dp := fun h => by rw [h.1]; exact .str _
  lay := fun h => by simp only [PyData.canLay0]; exact h.2.2
  dpt := fun b => by simp [PyData.depth]
  eqv := fun a b => by
    simp only [PyData.eqv]
    by_cases h : a = b
    · subst h; simp
    · rw [decide_eq_false h]
      exact beq_eq_false_iff_ne.mpr h
def datI : Dat K rI where
  dec := inferInstance
  enc := .int
  dep := 0
  dp := fun h => by rw [show _ = _ from h]; exact .int _
  lay := fun _ => by simp [PyData.canLay0]
  dpt := fun b => by simp [PyData.depth]
  eqv := fun a b => by
    simp only [PyData.eqv]
    by_cases h : a = b
    · subst h; simp
    · rw [decide_eq_false h]
      exact beq_eq_false_iff_ne.mpr h
def datB : Dat K rB where
  dec := inferInstance
  enc := .bool
  dep := 0
  dp := fun h => by rw [show _ = _ from h]; exact .bl _
  lay := fun _ => by simp [PyData.canLay0]
  dpt := fun b => by simp [PyData.depth]
  eqv := fun a b => by cases a <;> cases b <;> simp [PyData.eqv]
def encO' (f : α → PyData) : Option α → PyData
  | .none => .none
  | .some a => f a
def datO : Dat K (rO rS) where
  dec := inferInstance
  enc := encO' .str
  dep := 0
  dp := fun {H v b} h => match b, h with
    | .none, h => by rw [show v = _ from h]; exact .non
    | .some _, h => by rw [show v = _ from h.1]; exact .str _
  lay := fun {H v b} h => match b, h with
    | .none, _ => by simp [PyData.canLay0, encO']
    | .some _, h => by simp only [PyData.canLay0, encO']; exact h.2.2
  dpt := fun b => by cases b <;> simp [PyData.depth, encO']
  eqv := fun a b => by
    cases a with
    | none => cases b <;> simp [PyData.eqv, encO']
    | some a =>
      cases b with
      | none => simp [PyData.eqv, encO']
      | some b =>
        simp only [PyData.eqv, encO']
        by_cases h : a = b
        · subst h; simp
        · rw [decide_eq_false fun e => h (Option.some.inj e)]
          exact beq_eq_false_iff_ne.mpr h
theorem enc_lays {e : β → PyData} {r : Rp β} {H : Hp} (h : ∀ {v : V} {b : β}, r H v b → (e b).canLay0 = true) : ∀ {vs : List V} {xs : List β}, A2 (r H) vs xs → PyData.canLayAll0 (xs.map e) = true
  | _, _, .nil => by simp [PyData.canLayAll0]
  | _, _, .cons a t => by simp [PyData.canLayAll0, h a, enc_lays h t]
theorem enc_deps {e : β → PyData} {n : Nat} (h : ∀ b, (e b).depth ≤ n) : ∀ xs : List β, PyData.depthAll (xs.map e) ≤ n
  | [] => by simp [PyData.depthAll]
  | x :: xs => by
    have h1 := enc_deps h xs
    have h2 := h x
    simp only [List.map_cons, PyData.depthAll]
    omega
theorem enc_eqs {e : β → PyData} {d : DecidableEq β} (h : ∀ a b, PyData.eqv (e a) (e b) = decide (a = b)) : ∀ xs ys : List β, PyData.eqvAll (xs.map e) (ys.map e) = decide (xs = ys)
  | [], [] => by simp [PyData.eqvAll]
  | [], _ :: _ => by simp [PyData.eqvAll]
  | _ :: _, [] => by simp [PyData.eqvAll]
  | x :: xs, y :: ys => by
    simp only [List.map_cons, PyData.eqvAll, h x y, enc_eqs h xs ys]
    by_cases e1 : x = y <;> by_cases e2 : xs = ys <;> simp [e1, e2]
theorem enc_dps {e : β → PyData} {r : Rp β} {H : Hp} (h : ∀ {v : V} {b : β}, r H v b → Dp K H v (e b)) : ∀ {vs : List V} {xs : List β}, A2 (r H) vs xs → DpAll K H vs (xs.map e)
  | _, _, .nil => .nil
  | _, _, .cons a t => .cons (h a) (enc_dps h t)
def datT {r : Rp β} (D : Dat K r) : Dat K (rT K r) where
  dec := by have := D.dec; infer_instance
  enc := fun xs => .tuple (xs.map D.enc)
  dep := D.dep + 1
  dp := fun ⟨a, vs, ev, h, q⟩ => by rw [ev]; exact .tup h (enc_dps D.dp q)
  lay := fun ⟨a, vs, ev, h, q⟩ => by simp only [PyData.canLay0]; exact enc_lays D.lay q
  dpt := fun b => by simp only [PyData.depth]; have := enc_deps D.dpt b; omega
  eqv := fun a b => by simp only [PyData.eqv]; exact enc_eqs (d := D.dec) D.eqv a b
def datL {r : Rp β} (D : Dat K r) : Dat K (rL r) where
  dec := by have := D.dec; infer_instance
  enc := fun xs => .list (xs.map D.enc)
  dep := D.dep + 1
  dp := fun ⟨a, vs, ev, h, q⟩ => by rw [ev]; exact .lst (SqL.of h) (enc_dps D.dp q)
  lay := fun ⟨a, vs, ev, h, q⟩ => by simp only [PyData.canLay0]; exact enc_lays D.lay q
  dpt := fun b => by simp only [PyData.depth]; have := enc_deps D.dpt b; omega
  eqv := fun a b => by simp only [PyData.eqv]; exact enc_eqs (d := D.dec) D.eqv a b
def datP {r : Rp α} {q : Rp β} (D : Dat K r) (E : Dat K q) : Dat K (rP K r q) where
  dec := by have := D.dec; have := E.dec; infer_instance
  enc := fun p => .tuple [D.enc p.1, E.enc p.2]
  dep := max D.dep E.dep + 1
  dp := fun ⟨a, x, y, ev, h, h1, h2⟩ => by rw [ev]; exact .tup h (.cons (D.dp h1) (.cons (E.dp h2) .nil))
  lay := fun ⟨a, x, y, ev, h, h1, h2⟩ => by simp [PyData.canLay0, PyData.canLayAll0, D.lay h1, E.lay h2]
  dpt := fun b => by
    have h1 := D.dpt b.1
    have h2 := E.dpt b.2
    simp only [PyData.depth, PyData.depthAll]
    omega
  eqv := fun a b => by
    obtain ⟨a1, a2⟩ := a
    obtain ⟨b1, b2⟩ := b
    simp only [PyData.eqv, PyData.eqvAll, D.eqv, E.eqv, Bool.and_true]
    have := D.dec; have := E.dec
    by_cases h1 : a1 = b1 <;> by_cases h2 : a2 = b2 <;> simp [h1, h2]
theorem dat_shaped {r : Rp β} (D : Dat K r) (h : D.dep ≤ 64) {H : Hp} {v : V} {b : β} (hv : r H v b) : SeqAt.shaped (D.enc b) = true := by
  have h1 := D.dpt b
  show ((D.enc b).canLay0 && decide ((D.enc b).depth ≤ 64)) = true
  rw [Bool.and_eq_true]
  exact ⟨D.lay hv, decide_eq_true (by omega)⟩
end

/-- there is such data, not deep -/
def DatC (K : PySem.W.Frag) {β : Type} (r : Rp β) : Prop := ∃ D : Dat K r, D.dep < 64

class DatN (K : PySem.W.Frag) {β : Type} (r : Rp β) (n : outParam Nat) : Prop where
  ex : ∃ D : Dat K r, D.dep ≤ n
instance {K : PySem.W.Frag} : DatN K rS 0 := ⟨datS, Nat.le_refl _⟩
instance {K : PySem.W.Frag} : DatN K rI 0 := ⟨datI, Nat.le_refl _⟩
instance {K : PySem.W.Frag} : DatN K rB 0 := ⟨datB, Nat.le_refl _⟩
instance {K : PySem.W.Frag} : DatN K (rO rS) 0 := ⟨datO, Nat.le_refl _⟩
instance {K : PySem.W.Frag} {β : Type} {r : Rp β} {n : Nat} [d : DatN K r n] : DatN K (rT K r) (n + 1) := ⟨let ⟨D, h⟩ := d.ex; ⟨datT D, Nat.succ_le_succ h⟩⟩
instance {K : PySem.W.Frag} {β : Type} {r : Rp β} {n : Nat} [d : DatN K r n] : DatN K (rL r) (n + 1) := ⟨let ⟨D, h⟩ := d.ex; ⟨datL D, Nat.succ_le_succ h⟩⟩
instance {K : PySem.W.Frag} {α β : Type} {r : Rp α} {q : Rp β} {n m : Nat} [d : DatN K r n] [e : DatN K q m] : DatN K (rP K r q) (n + m + 1) := ⟨let ⟨D, h⟩ := d.ex; let ⟨E, h'⟩ := e.ex; ⟨datP D E, by show max D.dep E.dep + 1 ≤ _; omega⟩⟩
theorem datC_of {K : PySem.W.Frag} {β : Type} {r : Rp β} {n : Nat} [d : DatN K r n] (h : n < 64) : DatC K r := let ⟨D, e⟩ := d.ex; ⟨D, Nat.lt_of_le_of_lt e h⟩

/-- the same, whatever decides -/
noncomputable def eqB {α : Type} (a b : α) : Bool := @decide (a = b) (Classical.propDecidable _)
noncomputable def memB {α : Type} (a : α) (l : List α) : Bool := @decide (a ∈ l) (Classical.propDecidable _)
theorem eqB_iff {α : Type} {a b : α} : eqB a b = true ↔ a = b := by unfold eqB; rw [@decide_eq_true_iff]
theorem memB_iff {α : Type} {a : α} {l : List α} : memB a l = true ↔ a ∈ l := by unfold memB; rw [@decide_eq_true_iff]
theorem eqB_not {α : Type} {a b : α} : eqB a b = false ↔ ¬ a = b := ⟨fun h e => (by rw [eqB_iff.mpr e] at h; cases h), fun h => by
  cases q : eqB a b with
  | false => rfl
  | true => exact absurd (eqB_iff.mp q) h⟩
theorem memB_not {α : Type} {a : α} {l : List α} : memB a l = false ↔ a ∉ l := ⟨fun h e => (by rw [memB_iff.mpr e] at h; cases h), fun h => by
  cases q : memB a l with
  | false => rfl
  | true => exact absurd (memB_iff.mp q) h⟩

/-! ### == and in -/
section
variable {X : Cx} (K : PySem.W.Frag)
def rInTD (K : PySem.W.Frag) (neg : Bool) : R2 := fun x y H Q => ∃ d ds, Dp K H x d ∧ Dp K H y (.tuple ds) ∧ SeqAt.shaped d = true ∧ SeqAt.shaped (.tuple ds) = true ∧ Q (.bl (xor neg (ds.any fun z => PyData.eqv z d))) H
theorem k_inTD (hu : X.A.units + 65 < cLine) (hK : X.K = K := by rfl) : OpR X (compareOp .In) (rInTD K false) := by
  subst hK
  intro pins s σ H x y v u Q I rx ry h
  obtain ⟨d, ds, hd, he, sd, se, q⟩ := h
  obtain ⟨as, r1⟩ := Dp.reads I d x v hd rx
  obtain ⟨bs, r2⟩ := Dp.reads I (.tuple ds) y u he ry
  exact SeqAt.in_tuple_reads r2 r1 (SeqAt.canLay_of_shaped se) (SeqAt.canLay_of_shaped sd) (room_in_shaped sd hu) ⟨.bl _, H, I, rfl, by simpa using q⟩
theorem k_ninTD (hu : X.A.units + 65 < cLine) (hK : X.K = K := by rfl) : OpR X (compareOp .NotIn) (rInTD K true) := by
  subst hK
  intro pins s σ H x y v u Q I rx ry h
  obtain ⟨d, ds, hd, he, sd, se, q⟩ := h
  obtain ⟨as, r1⟩ := Dp.reads I d x v hd rx
  obtain ⟨bs, r2⟩ := Dp.reads I (.tuple ds) y u he ry
  exact SeqAt.notIn_tuple_reads r2 r1 (SeqAt.canLay_of_shaped se) (SeqAt.canLay_of_shaped sd) (room_in_shaped sd hu) ⟨.bl _, H, I, rfl, by simpa using q⟩
theorem k_catA (hK : X.K = K := by rfl) : OpR X (binaryOp .Add) (rCatA K) := by subst hK; exact op_catA
theorem k_slA (hK : X.K = K := by rfl) : SlR X (rSlA K) := by subst hK; exact sl_tupA
end
section
variable {K : PySem.W.Frag} {H0 H1 H H' : Hp} {σ : L2.St} {G G' Gx : Cells K} {α β γ : Type}
variable {ta tb tc te : TE} {r : Rp α} {q : Rp β} {a x : α} {b y : β}
theorem a_eqD (h : Ev r ta G a) (h' : Ev r tb G x) (M : Mono r) (DD : DatC K r) : Ev rB (tOp (rEqD K) ta tb) G (eqB a x) := let ⟨D, hd⟩ := DD; ev_op h h' fun H u v hu hv Q k =>
  ⟨_, _, D.dp hu, D.dp hv, dat_shaped D (Nat.le_of_lt hd) hu, dat_shaped D (Nat.le_of_lt hd) hv, k _ H (Same.refl H) (by show V.bl _ = V.bl _; rw [D.eqv]; unfold eqB; congr)⟩
theorem a_neD (h : Ev r ta G a) (h' : Ev r tb G x) (M : Mono r) (DD : DatC K r) : Ev rB (tOp (rNeD K) ta tb) G (!eqB a x) := let ⟨D, hd⟩ := DD; ev_op h h' fun H u v hu hv Q k =>
  ⟨_, _, D.dp hu, D.dp hv, dat_shaped D (Nat.le_of_lt hd) hu, dat_shaped D (Nat.le_of_lt hd) hv, k _ H (Same.refl H) (by show V.bl _ = V.bl _; rw [D.eqv]; unfold eqB; congr)⟩
/-- is it in the list -/
def memD {r : Rp α} (D : Dat K r) (x : α) (xs : List α) : Bool := xs.any fun z => @decide (z = x) (D.dec z x)
theorem memD_iff {r : Rp α} {D : Dat K r} {x : α} {xs : List α} : memD D x xs = true ↔ x ∈ xs := by
  unfold memD
  rw [List.any_eq_true]
  constructor
  · rintro ⟨z, hz, e⟩
    rw [@decide_eq_true_iff _ (D.dec z x)] at e
    exact e ▸ hz
  · exact fun h => ⟨x, h, @decide_eq_true _ (D.dec x x) rfl⟩
theorem memD_enc {r : Rp α} (D : Dat K r) (x : α) (xs : List α) : ((xs.map D.enc).any fun z => PyData.eqv z (D.enc x)) = memD D x xs := by
  unfold memD
  rw [List.any_map]
  congr 1
  funext z
  exact D.eqv z x
theorem memD_dec {r : Rp α} (D : Dat K r) (x : α) (xs : List α) : memD D x xs = memB x xs := by
  rw [Bool.eq_iff_iff, memD_iff, memB_iff]
theorem a_inLD {xs : List α} (h' : Ev (rL r) tb G xs) (h : Ev r ta G x) (M : Mono r) (DD : DatC K r) : Ev rB (tOp (rInD K) ta tb) G (memB x xs) := let ⟨D, hd⟩ := DD; ev_op h h' fun H u v hu hv Q k =>
  ⟨_, _, D.dp hu, (datL D).dp hv, dat_shaped D (by omega) hu, dat_shaped (datL D) (by show D.dep + 1 ≤ 64; omega) hv, k _ H (Same.refl H) (by show V.bl _ = V.bl _; rw [memD_enc, memD_dec])⟩
theorem a_ninLD {xs : List α} (h' : Ev (rL r) tb G xs) (h : Ev r ta G x) (M : Mono r) (DD : DatC K r) : Ev rB (tOp (rNotInD K) ta tb) G (!memB x xs) := let ⟨D, hd⟩ := DD; ev_op h h' fun H u v hu hv Q k =>
  ⟨_, _, D.dp hu, (datL D).dp hv, dat_shaped D (by omega) hu, dat_shaped (datL D) (by show D.dep + 1 ≤ 64; omega) hv, k _ H (Same.refl H) (by show V.bl _ = V.bl _; rw [memD_enc, memD_dec])⟩
theorem a_inTD {xs : List α} (h' : Ev (rT K r) tb G xs) (h : Ev r ta G x) (M : Mono r) (DD : DatC K r) : Ev rB (tOp (rInTD K false) ta tb) G (memB x xs) := let ⟨D, hd⟩ := DD; ev_op h h' fun H u v hu hv Q k =>
  ⟨_, _, D.dp hu, (datT D).dp hv, dat_shaped D (by omega) hu, dat_shaped (datT D) (by show D.dep + 1 ≤ 64; omega) hv, k _ H (Same.refl H) (by show V.bl _ = V.bl _; rw [memD_enc, Bool.false_xor, memD_dec])⟩
theorem a_ninTD {xs : List α} (h' : Ev (rT K r) tb G xs) (h : Ev r ta G x) (M : Mono r) (DD : DatC K r) : Ev rB (tOp (rInTD K true) ta tb) G (!memB x xs) := let ⟨D, hd⟩ := DD; ev_op h h' fun H u v hu hv Q k =>
  ⟨_, _, D.dp hu, (datT D).dp hv, dat_shaped D (by omega) hu, dat_shaped (datT D) (by show D.dep + 1 ≤ 64; omega) hv, k _ H (Same.refl H) (by show V.bl _ = V.bl _; rw [memD_enc, Bool.true_xor, memD_dec])⟩
/-- tuple + tuple -/
theorem ev_catT {xs ys : List α} (h : Ev (rT K r) ta G xs) (h' : Ev (rT K r) tb G ys) (hz : xs.length + ys.length ≤ 100000) (M : Mono r) : Ev (rT K r) (tOp (rCatA K) ta tb) G (xs ++ ys) := ev_op h h' fun H u v ⟨p, vs, ev, hp, z⟩ ⟨p', vs', ev', hp', z'⟩ Q k =>
  ⟨p, p', vs, vs', ev, ev', hp, hp', by rw [z.len, z'.len]; exact sz hz, fun e => by
      subst e
      cases z
      exact k _ H (Same.refl H) ⟨p', vs', rfl, hp', z'⟩, fun _ e => by
      subst e
      cases z'
      exact k _ H (Same.refl H) ⟨p, vs, rfl, hp, by rw [List.append_nil]; exact z⟩, fun _ _ l hl => k _ _ (same_new hl) ⟨l, _, rfl, SqT.of upd_same, (A2.app z' z).imp fun _ _ q => M.up (same_new hl) q⟩⟩
theorem ev_slT {xs : List α} {lo hi : Option Int} {tl th : TO} (h : Ev (rT K r) ta G xs) (hl : EvO tl G lo) (hh : EvO th G hi) (M : Mono r) : Ev (rT K r) (tSl (rSlA K) ta tl th) G (cut xs lo hi) := fun H0 σ H E Q k =>
  h H0 σ H E _ fun v H1 e1 ⟨p, vs, ev, hp, z⟩ => hl H0 σ H1 (E.grow e1) _ fun H2 e2 => hh H0 σ H2 (E.grow (e1.trans e2)) _ fun H3 e3 => by
    have s13 := (e1.trans e2).trans e3
    have z3 := z.imp fun _ _ q => M.up (e2.trans e3) q
    refine ⟨p, vs, ev, ext_same (e2.trans e3) _ _ hp, fun ⟨c1, c2⟩ => ?_, fun _ l hl => k _ _ (s13.trans (same_new hl)) ⟨l, _, rfl, SqT.of upd_same, (cut_A2 z3 lo hi).imp fun _ _ q => M.up (same_new hl) q⟩⟩
    have e : cut xs lo hi = xs := by
      unfold cut
      rw [← z.len, c1, c2, List.drop_zero, Nat.sub_zero, z.len, List.take_length]
    exact k _ H3 s13 (by rw [e]; exact ⟨p, vs, rfl, ext_same (e2.trans e3) _ _ hp, z3⟩)
end
end Gt
/-! Gt10: dicts with texts as keys; two clauses in one comprehension. -/
namespace Gt
open PySem PySem.Spec PyProof.Rows L2

section
variable {K : PySem.W.Frag} {H0 H1 H H' : Hp} {σ : L2.St} {G G' Gx : Cells K} {α β γ δ ε : Type}
variable {ta tb tc te td ty tx : TE} {r : Rp α} {q : Rp β} {x : α} {k : Str}
/-! ### what a dict holds, as data -/
def dkey {α : Type} (xs : List (Str × α)) (k : Str) : Option α := (xs.find? fun kv => decide (kv.1 = k)).map (·.2)
def dput {α : Type} (xs : List (Str × α)) (k : Str) (v : α) : List (Str × α) := if (xs.any fun kv => decide (kv.1 = k)) = true then xs.map (fun kv => if kv.1 = k then (kv.1, v) else kv) else xs ++ [(k, v)]
abbrev Kv (P : V → α → Prop) (x : Key × V) (y : Str × α) : Prop := (x.1 = Sum.inr y.1 ∧ okS y.1) ∧ P x.2 y.2
theorem kv_key {P : V → α → Prop} {kvs : List (Key × V)} {xs : List (Str × α)} (h : A2 (Kv P) kvs xs) (k : Str) : (∃ v b, valV kvs (Sum.inr k : Key) = some v ∧ dkey xs k = some b ∧ P v b) ∨ (valV kvs (Sum.inr k : Key) = none ∧ dkey xs k = none) := by
  induction h with
  | nil => exact .inr ⟨rfl, rfl⟩
  | @cons a b as bs h1 h2 ih =>
    by_cases e : b.1 = k
    · refine .inl ⟨a.2, b.2, ?_, ?_, h1.2⟩
      · exact valV_pos (by rw [h1.1.1, e])
      · unfold dkey
        rw [List.find?_cons, decide_eq_true e]
        rfl
    · have ea : ¬ a.1 = (Sum.inr k : Key) := fun z => e (by rw [h1.1.1] at z; exact Sum.inr.inj z)
      have eb : dkey (b :: bs) k = dkey bs k := by
        unfold dkey
        rw [List.find?_cons, decide_eq_false e]
      rw [valV_neg ea, eb]
      exact ih
theorem kv_any {P : V → α → Prop} {kvs : List (Key × V)} {xs : List (Str × α)} (h : A2 (Kv P) kvs xs) (k : Str) : (kvs.any fun kv => decide (kv.1 = (Sum.inr k : Key))) = xs.any fun kv => decide (kv.1 = k) := by
  induction h with
  | nil => rfl
  | @cons a b as bs h1 h2 ih =>
    rw [List.any_cons, List.any_cons, ih]
    congr 1
    exact decide_eq_decide.mpr ⟨fun z => Sum.inr.inj (h1.1.1.symm.trans z), fun z => by rw [h1.1.1, z]⟩
theorem kv_map {P : V → α → Prop} {kvs : List (Key × V)} {xs : List (Str × α)} (h : A2 (Kv P) kvs xs) {k : Str} {v : V} {b : α} (hv : P v b) : A2 (Kv P) (kvs.map fun kv => if kv.1 = (Sum.inr k : Key) then (kv.1, v) else kv) (xs.map fun kv => if kv.1 = k then (kv.1, b) else kv) := by
  induction h with
  | nil => exact .nil
  | @cons a c as bs h1 h2 ih =>
    rw [List.map_cons, List.map_cons]
    refine .cons ?_ ih
    by_cases e : c.1 = k
    · rw [if_pos (show a.1 = (Sum.inr k : Key) by rw [h1.1.1, e]), if_pos e]
      exact ⟨h1.1, hv⟩
    · rw [if_neg fun z => e (by rw [h1.1.1] at z; exact Sum.inr.inj z), if_neg e]
      exact h1
theorem kv_put {P : V → α → Prop} {kvs : List (Key × V)} {xs : List (Str × α)} (h : A2 (Kv P) kvs xs) {k : Str} {v : V} {b : α} (hk : okS k) (hv : P v b) : A2 (Kv P) (putK kvs (Sum.inr k : Key) v) (dput xs k b) := by
  unfold putK dput
  rw [kv_any h k]
  split
  · exact kv_map h hv
  · exact A2.app (.one ⟨⟨rfl, hk⟩, hv⟩) h
/-- a dict that is read -/
def rD {α : Type} (r : Rp α) : Rp (List (Str × α)) := fun H v xs => ∃ a kvs, v = .ref a ∧ L2.Rd H a (.dK kvs) ∧ A2 (Kv (r H)) kvs xs
/-- .. that a loop walks -/
def rLk {α : Type} (r : Rp α) : Rp (List (Str × α)) := fun H v xs => ∃ a o kvs, v = .ref a ∧ H a = some (.frz o (.dK kvs)) ∧ A2 (Kv (r H)) kvs xs
theorem Rd_up {o : HO} {a : Addr} (e : Same H H') (h : L2.Rd H a o) : L2.Rd H' a o := by
  rcases h with h | ⟨u, h⟩
  · exact .inl (e _ _ h)
  · exact .inr ⟨u, e _ _ h⟩
instance [M : Mono r] : Mono (rD r) := ⟨fun e ⟨a, kvs, ev, h, z⟩ => ⟨a, kvs, ev, Rd_up e h, z.imp fun _ _ w => ⟨w.1, M.up e w.2⟩⟩⟩
instance [M : Mono r] : Mono (rLk r) := ⟨fun e ⟨a, o, kvs, ev, h, z⟩ => ⟨a, o, kvs, ev, e _ _ h, z.imp fun _ _ w => ⟨w.1, M.up e w.2⟩⟩⟩
theorem a_dct {i : Nat} {xs : List (Str × α)} (h : G[i]? = some (some (.ow (nd K r) xs))) : Ev (rD r) (tVar i) G xs := fun H0 σ H E Q k => by
  obtain ⟨own, _, _, h3⟩ := E.at_
  obtain ⟨v, hv, p, kvs, _, ev, hp, z⟩ := h3 i _ h
  exact ⟨v, hv, k v H (Same.refl H) ⟨p, kvs, ev, .inl hp, z.imp fun _ _ w => ⟨w.1, w.2.now⟩⟩⟩
theorem a_lkd {i : Nat} {M : Mono (rLk r)} {xs : List (Str × α)} (h : G[i]? = some (some (.ro (rLk r) M xs))) : Ev (rD r) (tVar i) G xs := (a_ro h).imp fun H v ⟨a, o, kvs, ev, hp, z⟩ => ⟨a, kvs, ev, .inr ⟨o, hp⟩, z⟩
theorem nw_dnew [M : Mono r] : Nw (nd K r) tDNewK G [] := fun H0 σ H E Q k p hp => k _ _ [p] (same_new hp) (fun b hb => by rw [List.mem_singleton.mp hb]; exact hp) ⟨p, [], rfl, rfl, upd_same, .nil⟩
/-- d.get(k, x) | d[k] | k in d -/
theorem a_dget2 {xs : List (Str × α)} (h : Ev (rD r) td G xs) (h' : Ev rS ty G k) (h2 : Ev r tx G x) (M : Mono r) : Ev r (tDGet2 td ty tx) G ((dkey xs k).getD x) := fun H0 σ H E Q c =>
  h H0 σ H E _ fun v H1 e1 ⟨a, kvs, ev, hr, z⟩ => ⟨a, ev, .inl ⟨kvs, hr⟩, h' H0 σ H1 (E.grow e1) _ fun w H2 e2 hw => h2 H0 σ H2 (E.grow (e1.trans e2)) _ fun y H3 e3 hy => by
    have hr3 := Rd_up (e2.trans e3) hr
    have z3 := z.imp fun _ _ w => (⟨w.1, M.up (e2.trans e3) w.2⟩ : Kv (r H3) _ _)
    refine ⟨valV kvs (Sum.inr k : Key), .inl ⟨kvs, Sum.inr k, hr3, hw.1, rfl⟩, ?_⟩
    rcases kv_key z3 k with ⟨v', b', e5, e6, hq⟩ | ⟨e5, e6⟩
    · rw [e5]; exact c _ H3 ((e1.trans e2).trans e3) (by rw [e6]; exact hq)
    · rw [e5]; exact c _ H3 ((e1.trans e2).trans e3) (by rw [e6]; exact hy)⟩
theorem a_dget {xs : List (Str × α)} (h : Ev (rD r) td G xs) (h' : Ev rS ty G k) (M : Mono r) (hx : dkey xs k = some x) : Ev r (tDGet td ty) G x := fun H0 σ H E Q c =>
  h H0 σ H E _ fun v H1 e1 ⟨a, kvs, ev, hr, z⟩ => h' H0 σ H1 (E.grow e1) _ fun w H2 e2 hw => by
    rcases kv_key z k with ⟨v', b', e5, e6, hq⟩ | ⟨e5, e6⟩
    · rw [hx] at e6
      cases e6
      exact ⟨a, v', ev, .inl ⟨kvs, Sum.inr k, Rd_up e2 hr, hw.1, e5.symm⟩, c _ H2 (e1.trans e2) (M.up e2 hq)⟩
    · rw [hx] at e6
      cases e6
/-- d[k] = v -/
theorem l_dput {i : Nat} {xs : List (Str × α)} {tv : TE} {D : Ends} {x' : α} (hi : G[i]? = some (some (.ow (nd K r) xs))) (hk : Ev rS ty G k) (h : Ev r tv G x') (ex : x' = x) (hz : xs.length < 100000) (c : Nx H0 (G.set i (some (.ow (nd K r) (dput xs k x)))) D.nx) (F : Frz K r := by infer_instance) :
    Sv H0 G (sDPut (tVar i) ty tv) D := fun σ H ⟨H1, e1, E⟩ => by
  subst ex
  refine h H1 σ H E _ fun w H2 e2 hw => ?_
  have E2 := E.grow e2
  obtain ⟨own, h1, h2, h3⟩ := id E2.at_
  obtain ⟨v, hv, p, kvs, ea, ev, hp, z⟩ := h3 i _ hi
  subst ev
  refine ⟨_, hv, hk H1 σ H2 E2 _ fun y H3 e3 hy => ?_⟩
  have E3 := E2.grow e3
  have hp3 := e3 _ _ hp
  have hl : kvs.length < sizeLine := Nat.lt_of_le_of_lt (by rw [z.len]; omega) (by decide : 100000 < sizeLine)
  refine ⟨p, _, rfl, .inl ⟨kvs, Sum.inr k, hp3, hy.1, hl, rfl⟩, c _ _ ⟨H1, e1, ?_⟩⟩
  have x0 : ExT K H3 (upd H3 p (.dK (putK kvs (Sum.inr k : Key) w))) := ext_upd hp3 fun z => z
  have z3 : A2 (Kv (Stb K r (upd H3 p (.dK (putK kvs (Sum.inr k : Key) w))))) kvs xs := z.imp fun _ _ q => ⟨q.1, (q.2.up (ext_same e3)).up x0⟩
  refine E3.mut (as := [p]) (R := nd K r) (R' := nd K r) hi hv x0 (fun c o hc ho => ?_) (fun w' bs hw' ⟨p', _, e6, e7, _, _⟩ => ?_) ⟨p, _, rfl, rfl, upd_same, kv_put z3 hy.2 ((stb (F.up (ext_same e3) hw)).up x0)⟩
  · rw [upd_ne fun z => hc (by rw [z]; exact List.mem_singleton.mpr rfl)]
    exact ho
  · rw [hv] at hw'
    cases hw'
    cases e7
    exact e6
theorem q_dput {i : Nat} {xs : List (Str × α)} {tv : TE} {u : TS} {D : Ends} {x' : α} (hi : G[i]? = some (some (.ow (nd K r) xs))) (hk : Ev rS ty G k) (h : Ev r tv G x') (ex : x' = x) (hz : xs.length < 100000) (c : Sv H0 (G.set i (some (.ow (nd K r) (dput xs k x)))) u D) (F : Frz K r := by infer_instance) :
    Sv H0 G (tSeq (sDPut (tVar i) ty tv) u) D := l_dput (D := { D with nx := u D }) hi hk h ex hz c F

/-! ### a dict is locked while it is walked -/
theorem Env.lock {i : Nat} {xs : List (Str × α)} [M : Mono r] (E : Env H1 σ H G) (hi : G[i]? = some (some (.ow (nd K r) xs))) : ∃ p kvs, σ[i]? = some (some (.ref p)) ∧ H p = some (.dK kvs) ∧ H1 p = none ∧
    ∀ od, ExT K H (upd H p (.frz od (.dK kvs))) ∧ ∃ H2, Same H1 H2 ∧ Env H2 σ (upd H p (.frz od (.dK kvs))) (G.set i (rc (rLk r) xs)) := by
  classical
  obtain ⟨own, h1, h2, h3⟩ := E.at_
  obtain ⟨v, hv, p, kvs, ea, ev, hp, z⟩ := h3 i _ hi
  subst ev
  have hp1 : H1 p = none := (h1 i p (by rw [ea]; exact List.mem_singleton.mpr rfl)).1
  refine ⟨p, kvs, hv, hp, hp1, fun od => ?_⟩
  let L := upd H p (.frz od (.dK kvs))
  have xt0 : ExT K H L := ext_upd hp fun z => z
  refine ⟨xt0, ?_⟩
  let X : Addr → Prop := fun b => (∃ j, j ≠ i ∧ b ∈ own j)
  have hX : ∀ b, H1 b ≠ none → ¬ X b := fun b hb ⟨j, _, hj⟩ => hb (h1 j b hj).1
  have hXp : ¬ X p := fun ⟨j, hj, hpj⟩ => hj (h2 j i p hpj (by rw [ea]; exact List.mem_singleton.mpr rfl))
  have key : ∀ b, cutH L X b = if X b then none else L b := fun b => rfl
  have keep : ∀ b o, b ≠ p → H b = some o → L b = some o := fun b o hb ho => by
    show upd H p _ b = _
    rw [upd_ne hb]
    exact ho
  have s12 : Same H1 (cutH L X) := fun b o ho => by
    rw [key, if_neg (hX b (by rw [ho]; exact fun z => nomatch z))]
    exact keep b o (fun e => by rw [e, hp1] at ho; cases ho) (E.old b o ho)
  have s2 : Same (cutH L X) L := fun b o ho => by
    rw [key] at ho
    split at ho
    · cases ho
    · exact ho
  have xt : ExT K L (cutH L X) := fun a xs q => by
    have nX : ∀ o, L a = some o → isTup o → ¬ X a := fun o ho t ⟨j, hj, hja⟩ => by
      obtain ⟨u, hu, nu⟩ := (h1 j a hja).2
      have hne : a ≠ p := fun e => hj (h2 j i a hja (by rw [ea, e]; exact List.mem_singleton.mpr rfl))
      rw [keep a u hne hu] at ho
      cases ho
      exact nu t
    rcases q with (q | ⟨o', q⟩) | q
    · exact .inl (.inl (by rw [key, if_neg (nX _ q trivial)]; exact q))
    · exact .inl (.inr ⟨o', by rw [key, if_neg (nX _ q trivial)]; exact q⟩)
    · exact .inr q
  refine ⟨cutH L X, s12, s2, by rw [List.length_set]; exact E.len, fun j => if j = i then [] else own j, fun j b hb => ?_, fun j k b hj hk => ?_, fun j c hc => ?_⟩
  · by_cases hj : j = i
    · simp only [hj, if_true] at hb
      cases hb
    · simp only [hj, if_false] at hb
      obtain ⟨o, ho, nt⟩ := (h1 j b hb).2
      exact ⟨by rw [key, if_pos ⟨j, hj, hb⟩], o, keep b o (fun e => hXp ⟨j, hj, by rw [← e]; exact hb⟩) ho, nt⟩
  · by_cases hji : j = i
    · simp only [hji, if_true] at hj
      cases hj
    · by_cases hki : k = i
      · simp only [hki, if_true] at hk
        cases hk
      · simp only [hji, hki, if_false] at hj hk
        exact h2 j k b hj hk
  · by_cases hj : j = i
    · subst hj
      have hl : j < G.length := (List.getElem?_eq_some_iff.mp hi).1
      rw [List.getElem?_set_self hl] at hc
      cases hc
      refine ⟨_, hv, by simp, p, od, kvs, rfl, ?_, z.imp fun _ _ w => ⟨w.1, ((w.2.up xt0).up xt).now⟩⟩
      rw [key, if_neg hXp]
      exact upd_same
    · rw [List.getElem?_set_ne (Ne.symm hj)] at hc
      obtain ⟨v, hv, hk⟩ := h3 j c hc
      refine ⟨v, hv, ?_⟩
      simp only [hj, if_false]
      cases c with
      | ow R b => exact R.stay hk xt0 fun b hb o ho => keep b o (fun e => hXp ⟨j, hj, by rw [← e]; exact hb⟩) ho
      | ro r m b => exact ⟨hk.1, m.up s12 hk.2⟩
theorem nw_lock {i : Nat} {xs : List (Str × α)} {t : TE} {R : Rs K β} {b : β} [M : Mono r] (hi : G[i]? = some (some (.ow (nd K r) xs))) (h : Nw R t (G.set i (rc (rLk r) xs)) b) : Nw R (tLockE t) G b := fun H0 σ H E Q k => by
  obtain ⟨p, kvs, hv, hp, hp1, L⟩ := E.lock hi
  refine ⟨p, _, hp, trivial, fun od => ?_⟩
  obtain ⟨xt0, H2, s12, E2⟩ := L od
  refine h H2 σ _ E2 _ fun v H' as e hn hr => ?_
  have hl := e _ _ (show upd H p (.frz od (.dK kvs)) p = _ from upd_same)
  have xb : ExT K H' (upd H' p (.dK kvs)) := fun a ys q => by
    have hne : ∀ w, H' a = some w → (∀ z, w ≠ .frz od (.dK z)) → a ≠ p := fun w e1 n z => by
      rw [z, hl] at e1
      exact n _ (Option.some.inj e1).symm
    rcases q with (q | ⟨o', q⟩) | q
    · exact .inl (.inl (by rw [upd_ne (hne _ q fun _ z => nomatch z)]; exact q))
    · exact .inl (.inr ⟨o', by rw [upd_ne (hne _ q fun _ z => nomatch z)]; exact q⟩)
    · exact .inr q
  have np : ∀ c ∈ as, c ≠ p := fun c hc z => by
    have := hn c hc
    rw [z, upd_same] at this
    cases this
  refine ⟨hl, k v _ as (fun c o ho => ?_) (fun c hc => ?_) (R.stay hr xb fun c hc o ho => by rw [upd_ne (np c hc)]; exact ho)⟩
  · by_cases hc : c = p
    · subst hc
      rw [hp] at ho
      cases ho
      exact upd_same
    · rw [upd_ne hc]
      exact e _ _ (by rw [upd_ne hc]; exact ho)
  · have := hn c hc
    rw [upd_ne (np c hc)] at this
    exact this
theorem wj_items {a : Addr} {o : Obj} {kvs : List (Key × V)} {xs : List (Str × α)} [M : Mono r] (h : H1 a = some (.frz o (.dK kvs))) (z : A2 (Kv (r H1)) kvs xs) : Wj (Iti a o kvs) (rP K rS r) H1 xs where
  go := fun H i x e hx => by
    obtain ⟨v, hv, w⟩ := z.get' hx
    refine ⟨⟨e _ _ h, (List.getElem?_eq_some_iff.mp hv).1⟩, fun u H' ⟨T, k, v', hk, eu, hT, eH⟩ => ?_⟩
    rw [hv] at hk
    cases hk
    subst eH
    refine ⟨same_new hT, T, kV k, v', eu, SqT.of upd_same, ⟨?_, w.1.2⟩, M.up (e.trans (same_new hT)) w.2⟩
    rw [show k = Sum.inr x.1 from w.1.1]
    rfl
  stop := fun H e => ⟨e _ _ h, Nat.le_of_eq z.len⟩
theorem wj_keys {a : Addr} {o : Obj} {kvs : List (Key × V)} {xs : List (Str × α)} (h : H1 a = some (.frz o (.dK kvs))) (z : A2 (Kv (r H1)) kvs xs) : Wj (Itk a o kvs) rS H1 (xs.map (·.1)) where
  go := fun H i x e hx => by
    rw [List.getElem?_map] at hx
    cases q : xs[i]? with
    | none => rw [q] at hx; cases hx
    | some y =>
      rw [q] at hx
      cases hx
      obtain ⟨v, hv, w⟩ := z.get' q
      refine ⟨⟨e _ _ h, (List.getElem?_eq_some_iff.mp hv).1⟩, fun u H' ⟨eH, k, v', hk, eu⟩ => ?_⟩
      rw [hv] at hk
      cases hk
      subst eH
      exact ⟨Same.refl _, by rw [eu, show k = Sum.inr y.1 from w.1.1]; rfl, w.1.2⟩
  stop := fun H e => ⟨e _ _ h, by rw [List.length_map, z.len]; exact Nat.le_refl _⟩
theorem wk_items {i : Nat} {M' : Mono (rLk r)} {xs : List (Str × α)} [M : Mono r] (h : G[i]? = some (some (.ro (rLk r) M' xs)) := by rfl) : Wk (iItems (tVar i)) (rP K rS r) G G xs := fun H1 σ H E R k => by
  obtain ⟨own, _, _, h3⟩ := E.at_
  obtain ⟨v, hv, _, p, o, kvs, e2, e3, e4⟩ := h3 i _ h
  exact ⟨v, hv, p, o, kvs, e2, E.old _ _ e3, k _ H1 H (Same.refl _) (Same.refl _) E (wj_items e3 e4)⟩
theorem wk_keys {i : Nat} {M' : Mono (rLk r)} {xs : List (Str × α)} (h : G[i]? = some (some (.ro (rLk r) M' xs)) := by rfl) : Wk (iKeys (tVar i)) rS G G (xs.map (·.1)) := fun H1 σ H E R k => by
  obtain ⟨own, _, _, h3⟩ := E.at_
  obtain ⟨v, hv, _, p, o, kvs, e2, e3, e4⟩ := h3 i _ h
  exact ⟨v, hv, p, o, e2, .inl ⟨kvs, E.old _ _ e3, k _ H1 H (Same.refl _) (Same.refl _) E (wj_keys e3 e4)⟩⟩
end
end Gt
/-! Gt11: a comprehension of two clauses. -/
namespace Gt
open PySem PySem.Spec PyProof.Rows L2

section
variable {K : PySem.W.Frag} {H0 H1 H H' : Hp} {σ : L2.St} {G G' Gx : Cells K} {α β γ δ β' : Type}
variable {te : TE} {wi wi1 : TI} {g g1 : TG} {tt tt1 : TT} {r : Rp α} {q : Rp β}
theorem Env.front {ρ : L2.St} {C : Cells K} (hl : σ.length = G.length) (E : Env H1 (σ ++ ρ) H (G ++ C)) : Env H1 σ H G := by
  obtain ⟨own, g1, g2, g3⟩ := E.at_
  refine ⟨E.old, hl, own, g1, g2, fun i c hc => ?_⟩
  have hi : i < G.length := (List.getElem?_eq_some_iff.mp hc).1
  obtain ⟨v, hv, hk⟩ := g3 i c (by rw [List.getElem?_append_left hi]; exact hc)
  rw [List.getElem?_append_left (by rw [hl]; exact hi)] at hv
  exact ⟨v, hv, hk⟩
/-- a target, whatever stands behind the slots -/
def TbP (g : TG) (r : Rp α) (x : α) (vs : List Nat) (G G' : Cells K) : Prop := ∀ H1 σ σ0 ρ C H v, σ = wipe σ0 vs → σ.length = G.length → Env H1 (σ ++ ρ) H (G ++ C) → r H v x → ∀ P : L2.St → Hp → Prop,
  (∀ σ', σ'.length = G'.length → Env H1 (σ' ++ ρ) H (G' ++ C) → wipe σ' vs = wipe σ0 vs → P σ' H) → g v σ H P
theorem set_front {X : Type _} {l m : List X} {i : Nat} {x : X} (h : i < l.length) : (l ++ m).set i x = l.set i x ++ m := by
  rw [List.set_append_left _ _ h]
theorem set_wide {X : Type _} {l : List X} {i : Nat} {x : X} (h : ¬ i < l.length) : l.set i x = l := List.set_eq_of_length_le (by omega)
theorem tbp_name {r : Rp α} [F : Frz K r] {x : α} {i : Nat} {vs : List Nat} (hi : i ∈ vs := by decide) (hl : i < G.length := by exact Nat.le_of_ble_eq_true rfl) : TbP (gName i) r x vs G (G.set i (fc r x)) := fun H1 σ σ0 ρ C H v e ln E h P k => by
  subst e
  have E2 := E.put (i := i) (v := v) (R := fz K r) (as := []) (Same.refl H) (fun _ z => nomatch z) ⟨rfl, stb h⟩
  rw [set_front (by rw [ln]; exact hl), set_front hl] at E2
  exact k _ (by rw [List.length_set, List.length_set]; exact ln) E2 (wipe_set hi)
theorem tbp_pair {r : Rp α} {q : Rp β} [F : Frz K r] [F' : Frz K q] {p : α × β} {i j : Nat} {vs : List Nat} (hi : i ∈ vs := by decide) (hj : j ∈ vs := by decide) (hl : i < G.length ∧ j < G.length := by exact ⟨Nat.le_of_ble_eq_true rfl, Nat.le_of_ble_eq_true rfl⟩) :
    TbP (gTup K 2 (gCons (gName i) (gCons (gName j) gNil))) (rP K r q) p vs G ((G.set i (fc r p.1)).set j (fc q p.2)) := fun H1 σ σ0 ρ C H v e0 ln E ⟨a, x, y, e, h, h1, h2⟩ P k => by
  subst e0
  have E2 := (E.put (i := i) (v := x) (R := fz K r) (as := []) (Same.refl H) (fun _ z => nomatch z) ⟨rfl, stb h1⟩).put (i := j) (v := y) (R := fz K q) (as := []) (Same.refl H) (fun _ z => nomatch z) ⟨rfl, stb h2⟩
  rw [set_front (by rw [ln]; exact hl.1), set_front hl.1, set_front (by rw [List.length_set, ln]; exact hl.2), set_front (by rw [List.length_set]; exact hl.2)] at E2
  exact ⟨a, [x, y], e, h, rfl, x, [y], rfl, y, [], rfl, rfl, k _ (by rw [List.length_set, List.length_set, List.length_set, List.length_set]; exact ln) E2 (by rw [wipe_set2 hj, wipe_set hi])⟩
/-- what is walked, whatever stands behind the slots -/
def WkP (wi : TI) (r : Rp α) (G : Cells K) (xs : List α) : Prop := ∀ H1 σ ρ C H, σ.length = G.length → Env H1 (σ ++ ρ) H (G ++ C) → ∀ R : It → Hp → Prop, (∀ J H2 H', Same H1 H2 → Same H H' → Env H2 (σ ++ ρ) H' (G ++ C) → Wj J r H2 xs → R J H') → wi σ H R
theorem wkp_tup {r : Rp α} [F : Frz K r] [M : Mono r] {tl : TE} {xs : List α} (h : Ev (rT K r) tl G xs) : WkP (iTup K tl) r G xs := fun H1 σ ρ C H ln E R k =>
  h H1 σ H (E.front ln) _ fun v H' e ⟨p, vs, e2, e3, e4⟩ => by
    obtain ⟨H2, s1, s2, x, E2, ho⟩ := E.rebase e
    exact ⟨p, e2, ⟨vs, e3⟩, k _ H2 H' s1 e E2 (wj_tup (x _ _ e3) (e4.imp fun _ _ z => F.up x z))⟩
theorem wkp_rng1 {ta : TE} {n : Int} (h : Ev rI ta G n) (hn : -100000 ≤ n ∧ n ≤ 100000) : WkP (iRng1 (tCons ta tNil)) rI G (ups n.toNat) := fun H1 σ ρ C H ln E R k =>
  h H1 σ H (E.front ln) _ fun v H' e z => ⟨n, by rw [show v = .int n from z], by omega, by omega, k (Itr 0 n.toNat) H1 H' (Same.refl _) e (E.grow e) (by
      have w := wj_rng (H1 := H1) (lo := 0) (n := n.toNat)
      have e0 : ((List.range n.toNat).map fun (i : Nat) => (0 : Int) + (i : Int)) = ups n.toNat := by
        unfold ups
        exact List.map_congr_left fun i _ => Int.zero_add _
      rw [e0] at w
      exact w)⟩
/-- the list that is filled stands behind the slots; one item more -/
theorem Env.fill {D : Addr} {q : Rp γ} [F : Frz K q] {acc : List γ} {y : γ} {v : V} (hl : σ.length = G.length) (E : Env H1 (σ ++ [some (.ref D)]) H (G ++ [some (.ow (nl K q) acc)])) (hv : q H v y) :
    ∃ ws, H D = some (.lst ws) ∧ ws.length = acc.length ∧ Env H1 (σ ++ [some (.ref D)]) (upd H D (.lst (ws ++ [v]))) (G ++ [some (.ow (nl K q) (acc ++ [y]))]) := by
  obtain ⟨own, k1, k2, k3⟩ := id E.at_
  obtain ⟨w, hw, p', ws, a1, a2, a3, a4⟩ := k3 _ _ getE_last
  have hw2 := hw
  rw [← hl, getE_last] at hw
  cases hw
  cases a2
  have E6 := app_env (x := y) E getE_last hw2 a3 a4 (stb hv)
  rw [set_last] at E6
  exact ⟨ws, a3, a4.len, E6⟩
def flat2 (ys : List β') (zs : β' → List δ) (p : β' → δ → Bool) (f : β' → δ → γ) : List γ := ys.flatMap fun x => ((zs x).filter (p x)).map (f x)
theorem nw_lc2 {vs vs1 : List Nat} {q : Rp γ} [F : Frz K q] {r : Rp β'} {r1 : Rp δ} {ys : List β'} (zs : β' → List δ) (p : β' → δ → Bool) (f : β' → δ → γ) (hw : Wk wi r G G' ys) (hlen : (flat2 ys zs p f).length ≤ 100000)
    (turn : ∀ pre x post, ys = pre ++ x :: post → ∃ Gx, TbP g r x vs (wipeG G' vs) Gx ∧ WkP wi1 r1 Gx (zs x) ∧ ∀ pre1 y post1, zs x = pre1 ++ y :: post1 → ∃ Gy, TbP g1 r1 y vs1 (wipeG Gx vs1) Gy ∧ EvT tt1 Gy (p x y) ∧ (p x y = true → Ev q te Gy (f x y))) :
    Nw (nl K q) (tLc2 wi g tYes wi1 g1 tt1 te vs vs1) G (flat2 ys zs p f) := fun H1 σ H E Q k => by
  refine hw H1 σ H E _ fun J H2 Hs s1 sH E2 W => ?_
  intro D hD
  have E3 := (E2.wipe vs).push (q := q) hD
  have lw : (L2.wipe σ vs).length = (wipeG G' vs).length := (E2.wipe vs).len
  have Fin : ∀ h, Env H2 (L2.wipe σ vs ++ [some (.ref D)]) h (wipeG G' vs ++ [some (.ow (nl K q) (flat2 ys zs p f))]) → Same Hs h → Q (.ref D) h := fun h Eh sh => by
    obtain ⟨own, k1, k2, k3⟩ := Eh.at_
    obtain ⟨v, hv, p', ws, e1, e2, e3, e4⟩ := k3 _ _ getE_last
    rw [← lw, getE_last] at hv
    cases hv
    cases e2
    exact k _ h [D] (sH.trans sh) (fun b hb => by rw [List.mem_singleton.mp hb]; exact sH.free hD) ⟨D, ws, rfl, rfl, e3, e4⟩
  have same0 : Same Hs (upd Hs D (.lst [])) := fun b o hb => by rw [upd_ne (ne_of_none hb hD)]; exact hb
  refine ⟨fun i m h => i + m = ys.length ∧ Same Hs h ∧ Env H2 (L2.wipe σ vs ++ [some (.ref D)]) h (wipeG G' vs ++ [some (.ow (nl K q) (flat2 (ys.take i) zs p f))]), ⟨ys.length, Nat.zero_add _, same0, E3⟩, ?_⟩
  rintro i m h ⟨hi, sh, Eh⟩
  by_cases hl : i < ys.length
  · have hx : ys[i]? = some ys[i] := List.getElem?_eq_getElem hl
    have etk : ys.take (i + 1) = ys.take i ++ [ys[i]] := by rw [List.take_add_one, hx]; rfl
    obtain ⟨g1', g2'⟩ := W.go h i _ (E2.old.trans sh) hx
    refine .inr ⟨g1', fun h' => Same Hs h' ∧ Env H2 (L2.wipe σ vs ++ [some (.ref D)]) h' (wipeG G' vs ++ [some (.ow (nl K q) (flat2 (ys.take (i + 1)) zs p f))]), fun h' z => ⟨m - 1, by omega, by omega, z⟩, fun v h2 hy => ?_⟩
    obtain ⟨e2, z⟩ := g2' v h2 hy
    have hsp : ys = ys.take i ++ ys[i] :: ys.drop (i + 1) := by rw [List.getElem_cons_drop, List.take_append_drop]
    obtain ⟨Gx, ht, hwk, hin⟩ := turn (ys.take i) ys[i] (ys.drop (i + 1)) hsp
    refine ht H2 _ σ [some (.ref D)] _ h2 v rfl lw (Eh.grow e2) z _ fun σ2 ln2 E4 hwp => ⟨hwp, et_yes H2 σ2 h2 (E4.front ln2) _ fun h3 e3 => ?_⟩
    refine iteT ?_
    refine hwk H2 σ2 _ _ h3 ln2 (E4.grow e3) _ fun J1 H3 h4 s3 e4 E5 W1 => ?_
    have total : flat2 (ys.take (i + 1)) zs p f = flat2 (ys.take i) zs p f ++ ((zs ys[i]).filter (p ys[i])).map (f ys[i]) := by
      unfold flat2
      rw [etk, List.flatMap_append, List.flatMap_cons, List.flatMap_nil, List.append_nil]
    have cap : (flat2 (ys.take (i + 1)) zs p f).length ≤ 100000 := by
      refine Nat.le_trans ?_ hlen
      have : flat2 ys zs p f = flat2 (ys.take (i + 1)) zs p f ++ flat2 (ys.drop (i + 1)) zs p f := by
        unfold flat2
        rw [← List.flatMap_append, List.take_append_drop]
      rw [this, List.length_append]
      exact Nat.le_add_right _ _
    rw [total, List.length_append, List.length_map] at cap
    refine ⟨fun j m1 h => j + m1 = (zs ys[i]).length ∧ Same Hs h ∧ Env H2 (L2.wipe σ vs ++ [some (.ref D)]) h (wipeG G' vs ++ [some (.ow (nl K q) (flat2 (ys.take i) zs p f ++ (((zs ys[i]).take j).filter (p ys[i])).map (f ys[i])))]) ∧
      Env H3 (σ2 ++ [some (.ref D)]) h (Gx ++ [some (.ow (nl K q) (flat2 (ys.take i) zs p f ++ (((zs ys[i]).take j).filter (p ys[i])).map (f ys[i])))]),
      ⟨(zs ys[i]).length, Nat.zero_add _, ((sh.trans e2).trans e3).trans e4, ?_, ?_⟩, ?_⟩
    · rw [List.take_zero, List.filter_nil, List.map_nil, List.append_nil]
      exact Eh.grow ((e2.trans e3).trans e4)
    · rw [List.take_zero, List.filter_nil, List.map_nil, List.append_nil]
      exact E5
    rintro j m1 h ⟨hj, sh5, EO, EI⟩
    by_cases hl1 : j < (zs ys[i]).length
    · have hx1 : (zs ys[i])[j]? = some (zs ys[i])[j] := List.getElem?_eq_getElem hl1
      have etk1 : (zs ys[i]).take (j + 1) = (zs ys[i]).take j ++ [(zs ys[i])[j]] := by rw [List.take_add_one, hx1]; rfl
      obtain ⟨k1, k2⟩ := W1.go h j _ EI.old hx1
      refine .inr ⟨k1, fun h' => Same Hs h' ∧ Env H2 (L2.wipe σ vs ++ [some (.ref D)]) h' (wipeG G' vs ++ [some (.ow (nl K q) (flat2 (ys.take i) zs p f ++ (((zs ys[i]).take (j + 1)).filter (p ys[i])).map (f ys[i])))]) ∧
        Env H3 (σ2 ++ [some (.ref D)]) h' (Gx ++ [some (.ow (nl K q) (flat2 (ys.take i) zs p f ++ (((zs ys[i]).take (j + 1)).filter (p ys[i])).map (f ys[i])))]), fun h' z => ⟨m1 - 1, by omega, by omega, z⟩, fun v1 h6 hy1 => ?_⟩
      obtain ⟨e6, z1⟩ := k2 v1 h6 hy1
      have hsp1 : zs ys[i] = (zs ys[i]).take j ++ (zs ys[i])[j] :: (zs ys[i]).drop (j + 1) := by rw [List.getElem_cons_drop, List.take_append_drop]
      obtain ⟨Gy, ht1, hb1, he1⟩ := hin ((zs ys[i]).take j) (zs ys[i])[j] ((zs ys[i]).drop (j + 1)) hsp1
      have EIw : Env H3 (L2.wipe σ2 vs1 ++ [some (.ref D)]) h6 (wipeG Gx vs1 ++ [some (.ow (nl K q) (flat2 (ys.take i) zs p f ++ (((zs ys[i]).take j).filter (p ys[i])).map (f ys[i])))]) := by
        obtain ⟨own, o1, o2, o3⟩ := (EI.grow e6).at_
        refine ⟨(EI.grow e6).old, by simp only [List.length_append, wipe_length, wipeG_len, ln2, List.length_singleton], own, o1, o2, fun a c hc => ?_⟩
        have lwx : (wipeG Gx vs1).length = Gx.length := wipeG_len _
        by_cases ha : a < Gx.length
        · rw [List.getElem?_append_left (by rw [lwx]; exact ha)] at hc
          obtain ⟨w1, w2⟩ := wipeG_get hc
          obtain ⟨u, hu, hk⟩ := o3 a c (by rw [List.getElem?_append_left ha]; exact w1)
          refine ⟨u, ?_, hk⟩
          rw [List.getElem?_append_left (by rw [ln2]; exact ha)] at hu
          rw [List.getElem?_append_left (by rw [wipe_length, ln2]; exact ha), wipe_out' w2]
          exact hu
        · rw [List.getElem?_append_right (by rw [lwx]; omega), lwx] at hc
          obtain ⟨u, hu, hk⟩ := o3 a c (by rw [List.getElem?_append_right (by omega)]; exact hc)
          refine ⟨u, ?_, hk⟩
          rw [List.getElem?_append_right (by rw [ln2]; omega), ln2] at hu
          rw [List.getElem?_append_right (by rw [wipe_length, ln2]; omega), wipe_length, ln2]
          exact hu
      refine ht1 H3 _ σ2 [some (.ref D)] _ h6 v1 rfl (by rw [wipe_length, wipeG_len, ln2]) EIw z1 _ fun σ3 ln3 E7 hwp1 => ⟨hwp1, hb1 H3 σ3 h6 (E7.front ln3) _ fun h7 e7 => ?_⟩
      cases hp : p ys[i] (zs ys[i])[j] with
      | false =>
        refine iteF ?_
        have same : ((((zs ys[i]).take (j + 1)).filter (p ys[i])).map (f ys[i])) = ((((zs ys[i]).take j).filter (p ys[i])).map (f ys[i])) := by
          rw [etk1, List.filter_append, List.filter_cons, if_neg (by rw [hp]; exact Bool.false_ne_true), List.filter_nil, List.append_nil]
        rw [same]
        exact ⟨(sh5.trans e6).trans e7, EO.grow (e6.trans e7), EI.grow (e6.trans e7)⟩
      | true =>
        refine iteT (he1 hp H3 σ3 h7 ((E7.grow e7).front ln3) _ fun y h8 e8 hq => ?_)
        have ee := (e6.trans e7).trans e8
        obtain ⟨ws, hws, hwl, EO2⟩ := (EO.grow ee).fill lw (y := f ys[i] (zs ys[i])[j]) hq
        obtain ⟨ws', hws', hwl', EI2⟩ := (EI.grow ee).fill ln2 (y := f ys[i] (zs ys[i])[j]) hq
        rw [hws] at hws'
        cases hws'
        have more : (((zs ys[i]).take (j + 1)).filter (p ys[i])).map (f ys[i]) = (((zs ys[i]).take j).filter (p ys[i])).map (f ys[i]) ++ [f ys[i] (zs ys[i])[j]] := by
          rw [etk1, List.filter_append, List.filter_cons, if_pos hp, List.filter_nil, List.map_append]
          rfl
        have few : (((zs ys[i]).take j).filter (p ys[i])).length ≤ ((zs ys[i]).filter (p ys[i])).length := ((List.take_sublist j (zs ys[i])).filter (p ys[i])).length_le
        refine ⟨ws, hws, ?_, fun b o hb => ?_, ?_, ?_⟩
        · rw [hwl, List.length_append, List.length_map]
          exact Nat.lt_of_le_of_lt (Nat.le_trans (Nat.add_le_add_left few _) cap) (by decide : 100000 < sizeLine)
        · rw [upd_ne (ne_of_none hb hD)]
          exact ee _ _ (sh5 _ _ hb)
        · rw [more, ← List.append_assoc]
          exact EO2
        · rw [more, ← List.append_assoc]
          exact EI2
    · have hj' : j = (zs ys[i]).length := by omega
      subst hj'
      rw [List.take_length] at EO
      refine .inl ⟨W1.stop h EI.old, sh5, ?_⟩
      rw [total]
      exact EO
  · have hi' : i = ys.length := by omega
    subst hi'
    rw [List.take_length] at Eh
    exact .inl ⟨W.stop h (E2.old.trans sh), Fin h Eh sh⟩
end
end Gt
/-! Gt12: own classes, over cells. -/
namespace Gt
open PySem PySem.Spec PyProof.Rows L2
/-- where the class of that name stands -/
def cA (K : PySem.W.Frag) (x : Str) : Addr := match PySem.W.nsIn K mainGlobals x with
  | some (some (.ref C)) => C
  | _ => 0
theorem cA_eq {K : PySem.W.Frag} {x : Str} {C : Addr} (h : PySem.W.nsIn K mainGlobals x = some (some (.ref C))) : cA K x = C := by
  unfold cA
  rw [h]
/-- what the top says of a class: its fields are fields -/
structure ClsF (K : PySem.W.Frag) (mg : Str → Option Value) (x : Str) : Prop where
  cl : Cls K (cA K x)
  mg : mg x = some (.ref (cA K x))
  first : PySem.W.selfFirst K (cA K x) = true
  noseq : PySem.W.noSeq K (cA K x) = true
  makes : PySem.W.makesIn K (cA K x) = true
  kp : PySem.W.keepIn K (.ref (cA K x)) = true
section
variable {X : Cx} (K : PySem.W.Frag) {CX : CXT} {C : Addr} {k : Nat} {ps : List Str} {sp : Sp} {E : XK} {x m f : Str} {p pos apos pos' : Pos} {e o value : Expr} {es : List Expr} {ta tv : TE} {t : TA}
theorem pe_mkI (I : CalI X.prog X.w X.K X.mg X.base CX0 C k ps sp) (hm : X.mg x = some (.ref C)) (hr : Room (k + 1) X.A) (ha : PA X (e :: es) t) (hg : Gl X x := by rfl) (hdb : (x == ("__debug__" : Str)) = false := by decide)
    (he : starEach (e :: es) X.env = (false, eval e X.env) :: starEach es X.env := by rfl) (hpl : (backTo pos (starEach es X.env)).any (·.1) = false := by rfl) : PE X (.Call (.Name x p) (e :: es) [] pos) (tMake C sp [] E0 t) := by
  obtain ⟨f, fd, F, M, b⟩ := I.ex
  exact pe_make M F hr hg hm b .nil pass0 ha hdb he hpl
theorem ps_fldK (ha : PE X o ta) (hv : PE X value tv) (hK : X.K = K := by rfl) (hs : swapsWith value (some (.Attribute o f pos')) pos.line X.env = pure false := by rfl) : PS X (.Assign [.Attribute o f pos'] value pos) (sFld K ta tv f) := by subst hK; exact ps_fld ha hv hs
theorem k_listY {g : Str} (O : ItOk X.prog X.w X.K X.mg X.base C g) (n : NoLen X.K C) (hr : Room 3 X.A) (hc : X.calm = true := by rfl) (hK : X.K = K := by rfl) : CallR X (.type "list") (rListY K C g) := by subst hK; exact call_listY hc O n hr
theorem pi_ownK {tg : Expr} {g : Str} (he : PE X e ta) (O : ItOk X.prog X.w X.K X.mg X.base C g) (hr : Room 1 X.A) (hK : X.K = K := by rfl) : PI X tg e (iOwn K C g ta) := by subst hK; exact pi_own he O hr
theorem pe_mth (ho : PE X o ta) (c : Cls X.K C) (M : CalM X.prog X.w X.K X.mg X.base CX0 C m k ps sp) (hr : Room k X.A) (ha : PA X (e :: es) t) {pl : Sem Bool}
    (hst : starEach (e :: es) X.env = (false, eval e X.env) :: starEach es X.env := by rfl) (hpl : (backTo pos (starEach es X.env)).any (·.1) = false := by rfl)
    (ht : eval (.Call (.Attribute o m apos) (e :: es) [] pos) X.env = (do
      let ov ← eval o X.env
      standAt apos.atName
      let (f, first) ← holding [ov] (getMethod ov m pl)
      callWith pos f first (backTo pos (starEach (e :: es) X.env)) (backToKw pos (keywordEach [] X.env))) := by rfl) : PE X (.Call (.Attribute o m apos) (e :: es) [] pos) (tMeth C m sp [] E0 ta t) := by
  obtain ⟨f, fd, F, hm, b⟩ := M.ex
  exact pe_meth ho c hm F hr b .nil pass0 ha hst hpl ht
end
/-- what r says is an instance of the class at C with these fields -/
structure InsR (K : PySem.W.Frag) {β : Type} (C : Addr) (r : Rp β) (names : List Str) : Prop where
  ins : ∀ {H : Hp} {v : V} {b : β}, r H v b → ∃ a dx fs, v = .ref a ∧ H a = some (.ins C dx fs) ∧ fs.map (·.1) = names
theorem lookup_no {names : List Str} {m : Str} : ∀ {fs : List (Str × V)}, fs.map (·.1) = names → m ∉ names → fs.lookup m = none := by
  intro fs h hm
  subst h
  induction fs with
  | nil => rfl
  | cons x r ih =>
    obtain ⟨a, b⟩ := x
    rw [List.map_cons, List.mem_cons, not_or] at hm
    rw [List.lookup_cons, show (m == a) = false from beq_eq_false_iff_ne.mpr hm.1]
    exact ih hm.2
section
variable {K : PySem.W.Frag} {H0 H1 H H' : Hp} {σ : L2.St} {G G' : Cells K} {α β γ δ : Type} {ta tb te : TE} {t : TA} {r : Rp α} {r' : Rp β} {q : Rp γ} {x : α} {y : β} {z : γ} {C : Addr} {names : List Str} {m : Str}
theorem a_cmpO {pre : α × β × Unit → Prop} {f : α × β × Unit → γ} {E : XK} (h : Ev r ta G x) (h' : Ev r' tb G y) (M : Mono r) (I : InsR K C r names) (I' : InsR K C r' names) (hp : PreOk pre (x, y, ())) (e : AppEq f (x, y, ()) z) :
    Ev q (tOp (rOwnOp C (spF (aC r (aC r' aN)) pre q f) E) ta tb) G z := ev_op h h' fun H u v hu hv Q k => by
  obtain ⟨a, dx, fs, ea, ha, _⟩ := I.ins hu
  obtain ⟨b, dy, gs, eb, hb, _⟩ := I'.ins hv
  exact ⟨a, dx, fs, b, dy, gs, ea, eb, ha, hb, (x, y, ()), ⟨u, _, rfl, hu, v, _, rfl, hv, rfl⟩, hp, fun w H' e' hw => k w H' e' (by rw [← show f (x, y, ()) = z from e]; exact hw)⟩
theorem nw_binO {R : Rs K γ} {pre : α × β × Unit → Prop} {f : α × β × Unit → γ} {E : XK} (h : Ev r ta G x) (h' : Ev r' tb G y) (M : Mono r) (I : InsR K C r names) (I' : InsR K C r' names) (hp : PreOk pre (x, y, ())) (e : AppEq f (x, y, ()) z) :
    Nw R (tOp (rOwnOp C (spN (aC r (aC r' aN)) pre R f) E) ta tb) G z := nw_op h h' fun H u v hu hv Q k => by
  obtain ⟨a, dx, fs, ea, ha, _⟩ := I.ins hu
  obtain ⟨b, dy, gs, eb, hb, _⟩ := I'.ins hv
  exact ⟨a, dx, fs, b, dy, gs, ea, eb, ha, hb, (x, y, ()), ⟨u, _, rfl, hu, v, _, rfl, hv, rfl⟩, hp, fun w H' as e' hn hw => k w H' as e' hn (by rw [← show f (x, y, ()) = z from e]; exact hw)⟩
theorem a_mth {A : Ra β} {b : β} {pre : α × β → Prop} {f : α × β → γ} {E : XK} (h : Ev r ta G x) (M : Mono r) (I : InsR K C r names) (hn : m ∉ names) (hA : EvA A t G b) (hp : PreOk pre (x, b)) (e : AppEq f (x, b) z) :
    Ev q (tMeth C m (spF (aC r A) pre q f) [] E ta t) G z := fun H0 σ H E1 Q k => h H0 σ H E1 _ fun v H1 e1 hv => by
  obtain ⟨a, dx, fs, ea, ha, hm⟩ := I.ins hv
  refine ⟨a, dx, fs, ea, ha, lookup_no hm hn, hA H0 σ H1 (E1.grow e1) _ fun vs H2 e2 hvs => ?_⟩
  exact ⟨(x, b), ⟨v, vs, by rw [List.append_nil], M.up e2 hv, hvs⟩, hp, fun w H' e' hw => k w H' ((e1.trans e2).trans e') (by rw [← show f (x, b) = z from e]; exact hw)⟩
theorem nw_mth {R : Rs K γ} {A : Ra β} {b : β} {pre : α × β → Prop} {f : α × β → γ} {E : XK} (h : Ev r ta G x) (M : Mono r) (I : InsR K C r names) (hn : m ∉ names) (hA : EvA A t G b) (hp : PreOk pre (x, b)) (e : AppEq f (x, b) z) :
    Nw R (tMeth C m (spN (aC r A) pre R f) [] E ta t) G z := fun H0 σ H E1 Q k => h H0 σ H E1 _ fun v H1 e1 hv => by
  obtain ⟨a, dx, fs, ea, ha, hm⟩ := I.ins hv
  refine ⟨a, dx, fs, ea, ha, lookup_no hm hn, hA H0 σ H1 (E1.grow e1) _ fun vs H2 e2 hvs => ?_⟩
  exact ⟨(x, b), ⟨v, vs, by rw [List.append_nil], M.up e2 hv, hvs⟩, hp, fun w H' as e' hf hw => k w H' as ((e1.trans e2).trans e') (fun p hp => free_back (e1.trans e2) (hf p hp)) (by rw [← show f (x, b) = z from e]; exact hw)⟩
end
/-! ### the lists of grammars -/
abbrev Rule := Str × List Str
abbrev rRu (K : PySem.W.Frag) : Rp Rule := rP K rS (rT K rS)
def datRu (K : PySem.W.Frag) : Dat K (rRu K) := datP datS (datT datS)
/-- an instance with one field, a list of such things -/
def rOne (K : PySem.W.Frag) (C : Addr) (f : Str) {β : Type} (r : Rp β) : Rp (List β) := fun H v xs => (∃ a dx l vs, v = .ref a ∧ H a = some (.ins C dx [(f, .ref l)]) ∧ H l = some (.lst vs) ∧ A2 (r H) vs xs) ∧ xs.length ≤ 100000
def nOne (K : PySem.W.Frag) (C : Addr) (f : Str) {β : Type} (r : Rp β) : Rs K (List β) where
  rep := fun H v xs as => (∃ a dx l vs, as = [a, l] ∧ v = .ref a ∧ a ≠ l ∧ H a = some (.ins C dx [(f, .ref l)]) ∧ H l = some (.lst vs) ∧ A2 (Stb K r H) vs xs) ∧ xs.length ≤ 100000
  stay := fun ⟨⟨a, dx, l, vs, e, ev, ne, h1, h2, z⟩, hz⟩ x k => ⟨⟨a, dx, l, vs, e, ev, ne, k a (by rw [e]; simp) _ h1, k l (by rw [e]; simp) _ h2, z.imp fun _ _ w => w.up x⟩, hz⟩
  there := fun ⟨⟨a, dx, l, vs, e, ev, ne, h1, h2, z⟩, hz⟩ p hp => by
    rw [e] at hp
    rcases List.mem_cons.mp hp with q | q
    · exact ⟨.ins C dx [(f, .ref l)], by rw [q]; exact h1, fun z => z⟩
    · cases List.mem_singleton.mp q
      exact ⟨_, h2, fun z => z⟩
section
variable {K : PySem.W.Frag} {H0 H1 H H' : Hp} {σ : L2.St} {G G' : Cells K} {α β : Type} {ta te : TE} {r : Rp β} {C : Addr} {f : Str} {xs : List β}
instance [M : Mono r] : Mono (rOne K C f r) := ⟨fun e ⟨⟨a, dx, l, vs, ev, h1, h2, z⟩, hz⟩ => ⟨⟨a, dx, l, vs, ev, e _ _ h1, e _ _ h2, z.imp fun _ _ w => M.up e w⟩, hz⟩⟩
theorem one_ins : InsR K C (rOne K C f r) [f] := ⟨fun ⟨⟨a, dx, l, vs, ev, h1, _⟩, _⟩ => ⟨a, dx, _, ev, h1, rfl⟩⟩
theorem a_one {i : Nat} (h : G[i]? = some (some (.ow (nOne K C f r) xs))) : Ev (rOne K C f r) (tVar i) G xs := fun H0 σ H E Q k => by
  obtain ⟨own, _, _, h3⟩ := E.at_
  obtain ⟨v, hv, ⟨a, dx, l, vs, _, ev, _, h1, h2, z⟩, hz⟩ := h3 i _ h
  exact ⟨v, hv, k v H (Same.refl H) ⟨⟨a, dx, l, vs, ev, h1, h2, nows z⟩, hz⟩⟩
theorem a_oneF (h : Ev (rOne K C f r) ta G xs) (c : Cls K C) (n : NoAttr K C f) : Ev (rL r) (tFld K ta f) G xs := fun H0 σ H E Q k => h H0 σ H E _ fun v H1 e1 ⟨⟨a, dx, l, vs, ev, h1, h2, z⟩, hz⟩ =>
  ⟨a, C, dx, _, .ref l, ev, h1, c, n, by rw [List.lookup_cons, show (f == f) = true from beq_self_eq_true f], k _ H1 e1 ⟨l, vs, rfl, h2, z⟩⟩
theorem nw_oneL [M : Mono r] [F : Frz K r] (h : Ev (rOne K C f r) te G xs) : Nw (nl K r) (tCB (rListY K C f) (tCons te tNil)) G xs := nw_cb (ea_cons h ea_nil) fun H vs ⟨v, ws, e, ⟨⟨a, dx, l, us, ev, h1, h2, z⟩, hz⟩, e2⟩ Q k =>
  ⟨a, dx, _, l, us, by rw [e, show ws = [] from e2, ev], h1, by rw [List.lookup_cons, show (f == f) = true from beq_self_eq_true f], SqL.of h2, by rw [z.len]; exact sz hz, (fun q hq z => by
      rw [← z, h2] at hq
      cases hq), fun q hq => k _ _ [q] (same_new hq) (fun b hb => by rw [List.mem_singleton.mp hb]; exact hq) ⟨q, us, rfl, rfl, upd_same, z.imp fun _ _ w => stb (M.up (same_new hq) w)⟩⟩
/-- what making an instance promises -/
def spOne (K : PySem.W.Frag) (C : Addr) (f : Str) (r : Rp β) {α : Type} (A : Ra α) (pre : α → Prop) (g : α → List β) : Sp := fun vs H Q _ => ∃ p dx ws a, vs = .ref p :: ws ∧ H p = some (.ins C dx []) ∧ A H ws a ∧ pre a ∧
  ∀ l us H', (∀ b o, b ≠ p → H b = some o → H' b = some o) → H l = none → H' p = some (.ins C dx [(f, .ref l)]) → H' l = some (.lst us) → A2 (Stb K r H') us (g a) → (g a).length ≤ 100000 → Q .non H'
theorem nw_mkO {A : Ra α} {a : α} {pre : α → Prop} {g : α → List β} {E : XK} {t : TA} (hA : EvA A t G a) (M : MonoA A) (hp : PreOk pre a) (e : AppEq g a xs) : Nw (nOne K C f r) (tMake C (spOne K C f r A pre g) [] E t) G xs := fun H0 σ H E1 Q k =>
  hA H0 σ H E1 _ fun ws H1 e1 hws x dx hx hdx hne => by
    have s1 : Same H1 (upd (upd H1 dx (.own x)) x (.ins C dx [])) := fun b o hb => by rw [upd_ne (ne_of_none hb hx), upd_ne (ne_of_none hb hdx)]; exact hb
    refine ⟨x, dx, ws, a, by rw [List.append_nil], upd_same, M.up s1 hws, hp, fun l us H' keep hl h1 h2 z hz => ⟨rfl, ?_⟩⟩
    have hlx : x ≠ l := fun q => by rw [← q, upd_same] at hl; cases hl
    have hl1 : H1 l = none := s1.free hl
    refine k _ H' [x, l] (e1.trans fun b o hb => keep b o (ne_of_none hb hx) (s1 _ _ hb)) (fun b hb => ?_) ⟨⟨x, dx, l, us, rfl, rfl, hlx, h1, h2, by rw [← show g a = xs from e]; exact z⟩, by rw [← show g a = xs from e]; exact hz⟩
    rcases List.mem_cons.mp hb with q | q
    · rw [q]; exact free_back e1 hx
    · cases List.mem_singleton.mp q
      exact free_back e1 hl1
/-- self.f = .. in __init__: the heap without the new instance is the base -/
def offH (H : Hp) (p : Addr) : Hp := fun b => if b = p then none else H b
end
end Gt
/-! Gt13: methods of own classes, defaults. -/
namespace Gt
open PySem PySem.Spec PyProof.Rows L2
/-- the defaults of a def: none, or a tuple of m -/
def DfV (K : PySem.W.Frag) (dV : Value) (m : Nat) : Prop := (m = 0 ∧ dV = .none) ∨ ∃ (T : Addr) (o : Obj) (its : List Value) (n : Nat), dV = .ref T ∧ K.lookup T = some o ∧ o.data = .seq its.toArray n ∧ its.length = m ∧ 0 < m
structure FunE (K : PySem.W.Frag) (x q : Str) (st : Stmt) (m : Nat) (f : Addr) (fd : FuncData) : Prop where
  ex : ∃ (oc : Value) (od : Option Addr) (dV kV doc pm : Value) (an : Option Addr) (cdv ct : Value) (osl : Array (Option Value)),
    fd = PySem.W.fnOf x q (defArgs st) (defBody st) (defScope st) dV kV doc pm an cdv ct ∧ K.lookup f = some ⟨oc, od, .func fd, osl⟩ ∧ PySem.W.codeIn K cdv q = true ∧ DfV K dV m
  kp : PySem.W.keepIn K (.ref f) = true
/-- how all arguments bind -/
def BindE (x q : Str) (st : Stmt) (ps : List Str) (m : Nat) : Prop :=
  (m = 0 → ∀ (kV doc pm : Value) (an : Option Addr) (cdv ct : Value) (us : List Value), us.length = ps.length → bindArgs (PySem.W.fnOf x q (defArgs st) (defBody st) (defScope st) .none kV doc pm an cdv ct) ⟨us, []⟩ = pure (ps.zip us)) ∧
  (0 < m → ∀ (T : Addr) (kV doc pm : Value) (an : Option Addr) (cdv ct : Value) (us its : List Value), us.length = ps.length → its.length = m →
    ∃ k, bindArgs (PySem.W.fnOf x q (defArgs st) (defBody st) (defScope st) (.ref T) kV doc pm an cdv ct) ⟨us, []⟩ = seqItems? (.ref T) >>= k ∧ k (some its.toArray) = pure (ps.zip us))
section
variable {P : Program} {w : World} {K : PySem.W.Frag} {mg : Str → Option Value} {base : Heap} {CX : CXT} {x q : Str} {st : Stmt} {m k : Nat} {f C : Addr} {fd : FuncData} {ps N : List Str} {sp : Sp}
theorem FunE.ok (F : FunE K x q st m f fd) (S : FnScope N ps (defScope st)) (len : ∀ vs H Q E, sp vs H Q E → vs.length = ps.length)
    (hbody : ∀ (cdv : Value) (A : Around) (outer : List PySem.Env) (s : Shared) (H : Hp) (vs : List V) (Q : VK) (E : XK), Room k (A.deeper (envOfC q (defScope st) s.heap.objs.size f cdv)) → sp vs H Q E →
      ∃ t, PSs (cxOf CX P w K mg base N q (defScope st) f cdv A outer s H E) (defBody st) t ∧ t { nx := fun _ H' => Q .non H', rt := Q } (start N vs) H) : FnOk P w K mg base CX (k + 1) f fd ps sp := by
  obtain ⟨oc, od, dV, kV, doc, pm, an, cdv, ct, osl, rfl, lk, hcd, _⟩ := F.ex
  exact fn_of lk hcd S len fun A outer s H vs Q E hr h => hbody cdv A outer s H vs Q E hr h
theorem FunE.binds (F : FunE K x q st m f fd) (b : BindE x q st ps m) : L2.Binds K fd ps [] := by
  obtain ⟨oc, od, dV, kV, doc, pm, an, cdv, ct, osl, rfl, lk, hcd, hD⟩ := F.ex
  rcases hD with ⟨e, rfl⟩ | ⟨T, o, its, n, rfl, lT, oT, rT⟩
  · exact .all (b.1 e kV doc pm an cdv ct)
  · intro s us X hlen
    rw [List.append_nil] at hlen ⊢
    obtain ⟨k, e1, e2⟩ := b.2 rT.2 T kV doc pm an cdv ct us its hlen rT.1
    refine BindsTo.of_looks fun M => ?_
    rw [e1]
    exact looks_items X lT oT (.of_pure e2)
/-- a method of the class at C: the def of the text -/
structure DfE (K : PySem.W.Frag) (C : Addr) (x q : Str) (st : Stmt) (m : Nat) : Prop where
  ex : ∃ (f : Addr) (fd : FuncData), FunE K x q st m f fd ∧ PySem.W.findIn K (.ref C) x = some (some (.ref f)) ∧ PySem.W.isFn K (.ref f) = true
theorem calM_of (F : DfE K C x q st m) (S : FnScope N ps (defScope st)) (len : ∀ vs H Q E, sp vs H Q E → vs.length = ps.length) (b : BindE x q st ps m)
    (hbody : ∀ (cdv : Value) (f : Addr) (A : Around) (outer : List PySem.Env) (s : Shared) (H : Hp) (vs : List V) (Q : VK) (E : XK), Room k (A.deeper (envOfC q (defScope st) s.heap.objs.size f cdv)) → sp vs H Q E →
      ∃ t, PSs (cxOf CX0 P w K mg base N q (defScope st) f cdv A outer s H E).nox (defBody st) t ∧ t { nx := fun _ H' => Q .non H', rt := Q } (start N vs) H) : CalM P w K mg base CX0 C x (k + 1) ps sp := by
  obtain ⟨f, fd, F, h1, h2⟩ := F.ex
  exact ⟨f, fd, F.ok S len fun cdv A outer s H vs Q E hr h => (hbody cdv f A outer s H vs Q E hr h).imp fun t h => ⟨h.1.nox, h.2⟩, ⟨h1, h2, F.kp⟩, F.binds b⟩
theorem calI_of {c : Str} (T : ClsF K mg c) (F : DfE K (cA K c) "__init__" q st m) (S : FnScope N ps (defScope st)) (len : ∀ vs H Q E, sp vs H Q E → vs.length = ps.length) (b : BindE "__init__" q st ps m)
    (hbody : ∀ (cdv : Value) (f : Addr) (A : Around) (outer : List PySem.Env) (s : Shared) (H : Hp) (vs : List V) (Q : VK) (E : XK), Room k (A.deeper (envOfC q (defScope st) s.heap.objs.size f cdv)) → sp vs H Q E →
      ∃ t, PSs (cxOf CX0 P w K mg base N q (defScope st) f cdv A outer s H E).nox (defBody st) t ∧ t { nx := fun _ H' => Q .non H', rt := Q } (start N vs) H) : CalI P w K mg base CX0 (cA K c) (k + 1) ps sp := by
  obtain ⟨f, fd, F, h1, h2⟩ := F.ex
  exact ⟨f, fd, F.ok S len fun cdv A outer s H vs Q E hr h => (hbody cdv f A outer s H vs Q E hr h).imp fun t h => ⟨h.1.nox, h.2⟩, ⟨T.makes, h1, h2, T.kp⟩, F.binds b⟩
/-- def __iter__(self): return iter(self.g) -/
theorem itOk_of {g : Str} (F : DfE K C "__iter__" q st 0) (S : FnScope ["self"] ["self"] (defScope st)) (b : BindE "__iter__" q st ["self"] 0)
    (ht : ∀ (f : Addr) (cdv : Value) (A : Around) (outer : List PySem.Env) (s : Shared) (H : Hp) (E : XK), ∃ t, PSs (cxOf CX0 P w K mg base ["self"] q (defScope st) f cdv A outer s H E).nox (defBody st) t ∧
      ∀ (a dx l : Addr) (fs : List (Str × V)) (zs : List V) (Q : VK), H a = some (.ins C dx fs) → fs.lookup g = some (.ref l) → SqL K H l zs → (∀ it, H it = none → s.heap.objs.size ≤ it → Q (.ref it) (upd H it (ItO l it 0))) →
        t { nx := fun _ H' => Q .non H', rt := Q } (start ["self"] [.ref a]) H) : ItOk P w K mg base C g := by
  obtain ⟨f, fd, F, h1, h2⟩ := F.ex
  refine ⟨f, h1, h2, fun A outer s H a dx l fs zs Q E hr e0 ha hl hz hq => ?_⟩
  have hB := F.binds b
  obtain ⟨oc, od, dV, kV, doc, pm, an, cdv, ct, osl, rfl, lk, hcd, hD⟩ := F.ex
  obtain ⟨t, h, ht⟩ := ht f cdv A outer s H E
  have KX : K.In s.heap := e0.mod.kin.keeps fun b o e => (e0.bs b o e).1
  exact run_from (CX := CX0) (us := [.ref a]) (vs := [.ref a]) lk hcd S rfl hr e0 (by
    have := hB s [.ref a] KX rfl
    simpa using this) (.cons rfl .nil) h.nox (ht a dx l fs zs Q ha hl hz hq)
end
abbrev rG (K : PySem.W.Frag) : Rp (List Rule) := rOne K (cA K "Grammar") "rows" (rRu K)
abbrev nG (K : PySem.W.Frag) : Rs K (List Rule) := nOne K (cA K "Grammar") "rows" (rRu K)
theorem spOne_len {K : PySem.W.Frag} {C : Addr} {f : Str} {α β : Type} {r : Rp β} {A : Ra α} {pre : α → Prop} {g : α → List β} {n : Nat} [L : LenA A n] {vs : List V} {H : Hp} {Q : VK} {E : XK} (h : spOne K C f r A pre g vs H Q E) : vs.length = n + 1 := by
  obtain ⟨p, dx, ws, a, rfl, _, hA, _⟩ := h
  rw [List.length_cons, L.len hA]
/-- for x in o.f, o as it came -/
theorem wk_oneF {K : PySem.W.Frag} {G : Cells K} {β : Type} {r : Rp β} {C : Addr} {f : Str} {xs : List β} {M : Mono (rOne K C f r)} [N : Mono r] {i : Nat} (c : Cls K C) (n : NoAttr K C f) (h : G[i]? = some (some (.ro (rOne K C f r) M xs)) := by rfl) : Wk (iList K (tFld K (tVar i) f)) r G G xs := fun H1 σ H E R k => by
  obtain ⟨own, _, _, h3⟩ := E.at_
  obtain ⟨v, hv, _, ⟨a, dx, l, vs, e2, e3, e4, e5⟩, _⟩ := h3 i _ h
  refine ⟨v, hv, a, C, dx, _, .ref l, e2, E.old _ _ e3, c, n, by rw [List.lookup_cons, show (f == f) = true from beq_self_eq_true f], ?_⟩
  exact ⟨l, rfl, ⟨vs, SqL.of (E.old _ _ e4)⟩, k _ H1 H (Same.refl _) (Same.refl _) E (wj_list e4 e5)⟩
end Gt
/-! Gt14: more of texts. -/
namespace Gt
open PySem PySem.Spec PyProof.Rows L2
def repC (c : Array Nat) (n : Nat) : Array Nat := (List.replicate n c).foldl (· ++ ·) #[]
theorem foldC_size (c : Array Nat) : ∀ (n : Nat) (a : Array Nat), ((List.replicate n c).foldl (· ++ ·) a).size = a.size + n * c.size
  | 0, a => by simp
  | n + 1, a => by
    rw [List.replicate_succ, List.foldl_cons, foldC_size c n, Array.size_append, Nat.succ_mul]
    omega
theorem foldC_all (p : Nat → Bool) (c : Array Nat) (hc : c.all p = true) : ∀ (n : Nat) (a : Array Nat), a.all p = true → ((List.replicate n c).foldl (· ++ ·) a).all p = true
  | 0, a, h => by simpa using h
  | n + 1, a, h => by
    rw [List.replicate_succ, List.foldl_cons]
    exact foldC_all p c hc n _ (by rw [Array.all_append, h, hc]; rfl)
/-- s * n -/
def repS (x : Str) (n : Int) : Str := if n < 1 then Str.empty else if (n == 1 || x.length == 0) = true then x else ⟨repC x.cps n.toNat⟩
theorem repS_len (x : Str) (n : Int) : (repS x n).length ≤ x.length * n.toNat := by
  unfold repS
  split
  · exact Nat.zero_le _
  · rename_i h1
    split
    · rename_i h2
      rcases Bool.or_eq_true_iff.mp h2 with e | e
      · have : n = 1 := by simpa using e
        subst this
        show x.length ≤ x.length * 1
        omega
      · have : x.length = 0 := by simpa using e
        omega
    · show (repC x.cps n.toNat).size ≤ _
      unfold repC
      rw [foldC_size, Nat.mul_comm]
      show (#[] : Array Nat).size + x.cps.size * n.toNat ≤ x.cps.size * n.toNat
      simp
theorem okS_rep {x : Str} {n : Int} (h : okS x) (hz : x.length * n.toNat ≤ 100000) : okS (repS x n) := by
  refine ⟨Nat.le_trans (repS_len x n) hz, ?_⟩
  unfold repS
  have e0 : (#[] : Array Nat).all (fun c => decide (c < 0x110000)) = true := by simp
  split
  · exact e0
  · split
    · exact h.2
    · exact foldC_all _ _ h.2 _ _ e0
abbrev rMulS : R2 := fun x y H Q => ∃ a n, x = .str a ∧ y = .int n ∧ 0 ≤ n ∧ n ≤ 1000 ∧ a.length ≤ 1000 ∧ Q (.str (repS a n)) H
theorem op_mulS {X : Cx} : OpR X (binaryOp .Mult) rMulS := by
  intro pins s σ H x y v u Q I rx ry h
  obtain ⟨a, n, rfl, rfl, h0, h1, ha, q⟩ := h
  obtain ⟨t, rfl⟩ := rx
  obtain ⟨t', rfl⟩ := ry
  have hb : a.length * n.toNat ≤ 1000 * 1000 := Nat.mul_le_mul ha (by omega)
  refine P.mul_str (by rw [decide_eq_false (by omega), decide_eq_false (by omega)]; rfl) (fun hn _ hq => ?_) (fun hn _ => ?_) ?_
  · have : (1000 : Int) ≤ (2 ^ 63 - 1) / n := by
      refine (Int.le_ediv_iff_mul_le (by omega)).mpr ?_
      omega
    omega
  · show decide _ = false
    exact decide_eq_false (by rw [sizeLine_eq]; omega)
  · have hlen := repS_len a n
    unfold repS at q hlen
    by_cases c1 : n < 1
    · rw [if_pos c1] at q ⊢
      exact ⟨by decide, .str Str.empty, H, I.tok _, ⟨_, rfl⟩, q⟩
    · rw [if_neg c1] at q hlen ⊢
      by_cases c2 : (n == 1 || a.length == 0) = true
      · rw [if_pos c2] at q ⊢
        exact ⟨.str a, H, I, ⟨_, rfl⟩, q⟩
      · rw [if_neg c2] at q hlen ⊢
        exact ⟨Nat.le_trans hlen (Nat.le_trans hb (by rw [sizeLine_eq]; decide)), .str _, H, I.tok _, ⟨_, rfl⟩, q⟩
section
variable {K : PySem.W.Frag} {G : Cells K} {ta tb te : TE} {s t : Str} {n : Int}
theorem ev_mulS (h : Ev rS ta G s) (h' : Ev rI tb G n) (hn : 0 ≤ n ∧ n ≤ 1000) (hz : s.length ≤ 50) : Ev rS (tOp rMulS ta tb) G (repS s n) := ev_op h h' fun H u v hu hv Q k =>
  ⟨s, n, hu.1, hv, hn.1, hn.2, by omega, k _ H (Same.refl H) ⟨rfl, okS_rep hu.2 (Nat.le_trans (Nat.mul_le_mul hz (show n.toNat ≤ 1000 by omega)) (by decide))⟩⟩
end
end Gt
/-! Gt15: mirrors that may be stuck or raise; defs whose walk asks nothing but that the mirror answers. -/
namespace Gt
open PySem PySem.Spec PyProof.Rows L2
/-- what an exception keeps -/
inductive Pay
  | s (o : Option Str)
  | i (n : Int)
  | r (x : Rule)
inductive Er
  | stuck
  | ex (cls : Str) (fs : List (Str × Pay))
abbrev M (α : Type) := Except Er α
def mb {α β : Type} (m : M α) (f : α → M β) : M β := match m with
  | .ok a => f a
  | .error e => .error e
theorem mb_ok {α β : Type} {m : M α} {f : α → M β} {b : β} (h : mb m f = .ok b) : ∃ a, m = .ok a ∧ f a = .ok b := by
  cases m with
  | ok a => exact ⟨a, rfl, h⟩
  | error e => cases h
theorem mb_of {α β : Type} {m : M α} {f : α → M β} {a : α} (h : m = .ok a) : mb m f = f a := by rw [h]; rfl
theorem mb_ret {α β : Type} {f : α → M β} {a : α} : mb (.ok a) f = f a := rfl
theorem ok_inj {α : Type} {a b : α} (h : (Except.ok a : M α) = .ok b) : a = b := by cases h; rfl
def oM {α : Type} : Option α → M α
  | some a => .ok a
  | none => .error .stuck
theorem oM_ok {α : Type} {o : Option α} {a : α} (h : oM o = .ok a) : o = some a := by
  cases o with
  | none => cases h
  | some b => cases h; rfl
theorem oM_of {α : Type} {o : Option α} {a : α} (h : o = some a) : oM o = .ok a := by rw [h]; rfl
def chk (c : Bool) : M Unit := bif c then .ok () else .error .stuck
theorem chk_ok {c : Bool} {u : Unit} (h : chk c = .ok u) : c = true := by
  cases c with
  | false => cases h
  | true => rfl
theorem chk_of {c : Bool} (h : c = true) : chk c = .ok () := by rw [h]; rfl
theorem bif_t {α : Type} {c : Bool} {a b x : α} (h : (bif c then a else b) = x) (hc : c = true) : a = x := by rw [hc] at h; exact h
theorem bif_f {α : Type} {c : Bool} {a b x : α} (h : (bif c then a else b) = x) (hc : c = false) : b = x := by rw [hc] at h; exact h
/-- and, or whose right side may be stuck -/
def mand (a : Bool) (m : M Bool) : M Bool := bif a then m else .ok false
def mor (a : Bool) (m : M Bool) : M Bool := bif a then .ok true else m
/-- what a block ends in -/
inductive Fl (σ ρ : Type)
  | nx (s : σ)
  | rt (r : ρ)
  | bk (s : σ)
def mfor {σ α : Type} (f : σ → α → M σ) : σ → List α → M σ
  | s, [] => .ok s
  | s, x :: xs => mb (f s x) fun s' => mfor f s' xs
def mforF {σ ρ α : Type} (f : σ → α → M (Fl σ ρ)) : σ → List α → M (Fl σ ρ)
  | s, [] => .ok (.nx s)
  | s, x :: xs => mb (f s x) fun o => match o with
    | .nx s' => mforF f s' xs
    | .rt r => .ok (.rt r)
    | .bk s' => .ok (.nx s')
theorem mfor_app {σ α : Type} {f : σ → α → M σ} : ∀ {xs ys : List α} {s r : σ}, mfor f s (xs ++ ys) = .ok r → ∃ t, mfor f s xs = .ok t ∧ mfor f t ys = .ok r
  | [], ys, s, r, h => ⟨s, rfl, h⟩
  | x :: xs, ys, s, r, h => by
    obtain ⟨t, h1, h2⟩ := mb_ok h
    obtain ⟨u, h3, h4⟩ := mfor_app h2
    exact ⟨u, by unfold mfor; rw [mb_of h1]; exact h3, h4⟩
/-- a state from which the rest of the loop ends so -/
theorem mforF_step {σ ρ α : Type} {f : σ → α → M (Fl σ ρ)} {s : σ} {x : α} {xs : List α} {o : Fl σ ρ} (h : mforF f s (x :: xs) = .ok o) : ∃ o1, f s x = .ok o1 ∧ (∀ s', o1 = .nx s' → mforF f s' xs = .ok o) ∧ (∀ r, o1 = .rt r → o = .rt r) ∧ (∀ s', o1 = .bk s' → o = .nx s') := by
  obtain ⟨o1, h1, h2⟩ := mb_ok h
  refine ⟨o1, h1, ?_, ?_, ?_⟩
  · rintro s' rfl; exact h2
  · rintro r rfl; cases h2; rfl
  · rintro s' rfl; cases h2; rfl
def fuel : Nat := 1000000
def mwhile {σ : Type} (c : σ → M Bool) (f : σ → M σ) : Nat → σ → M σ
  | 0, _ => .error .stuck
  | n + 1, s => mb (c s) fun b => bif b then mb (f s) fun s' => mwhile c f n s' else .ok s
def mwhileF {σ ρ : Type} (c : σ → M Bool) (f : σ → M (Fl σ ρ)) : Nat → σ → M (Fl σ ρ)
  | 0, _ => .error .stuck
  | n + 1, s => mb (c s) fun b => bif b then mb (f s) fun o => match o with
      | .nx s' => mwhileF c f n s'
      | .rt r => .ok (.rt r)
      | .bk s' => .ok (.nx s') else .ok (.nx s)
/-- [f x for x in xs if p x] -/
def mlc {α β : Type} (p : α → M Bool) (f : α → M β) : List α → M (List β)
  | [] => .ok []
  | x :: xs => mb (p x) fun b => bif b then mb (f x) fun y => mb (mlc p f xs) fun ys => .ok (y :: ys) else mlc p f xs
theorem mlc_app {α β : Type} {p : α → M Bool} {f : α → M β} : ∀ {xs ys : List α} {zs : List β}, mlc p f (xs ++ ys) = .ok zs → ∃ us vs, mlc p f xs = .ok us ∧ mlc p f ys = .ok vs ∧ zs = us ++ vs
  | [], ys, zs, h => ⟨[], zs, rfl, h, rfl⟩
  | x :: xs, ys, zs, h => by
    obtain ⟨b, h1, h⟩ := mb_ok h
    cases b with
    | false =>
      obtain ⟨us, vs, e1, e2, e3⟩ := mlc_app (xs := xs) h
      exact ⟨us, vs, by unfold mlc; rw [mb_of h1]; exact e1, e2, e3⟩
    | true =>
      obtain ⟨y, h2, h⟩ := mb_ok h
      obtain ⟨ws, h3, h⟩ := mb_ok h
      obtain ⟨us, vs, e1, e2, e3⟩ := mlc_app (xs := xs) h3
      cases h
      refine ⟨y :: us, vs, ?_, e2, by rw [e3]; rfl⟩
      unfold mlc
      rw [mb_of h1]
      show mb (f x) _ = _
      rw [mb_of h2, mb_of e1]
section
variable {K : PySem.W.Frag} {H0 H1 H H' : Hp} {σ : L2.St} {G G' G2 Gx : Cells K} {α β γ S T ρ : Type}
variable {D : Ends} {t u tb : TS} {wi : TI} {g : TG} {te ta tb' : TE} {tt tu tv : TT} {r : Rp α} {q : Rp β} {R : Rs K ρ} {a b c d : Bool}
/-- what is handed back -/
def RtR (R : Rs K ρ) (H0 : Hp) (x : ρ) (v : V) (H : Hp) : Prop := ∃ as, Same H0 H ∧ (∀ p, p ∈ as → H0 p = none) ∧ R.rep H v x as
def RtOk (R : Rs K ρ) (H0 : Hp) (x : ρ) (D : Ends) : Prop := ∀ v H, RtR R H0 x v H → D.rt v H
theorem RtOk.up {x : ρ} (h : RtOk R H0 x D) (e : Same H0 H1) : RtOk R H1 x D := fun v H ⟨as, s, n, z⟩ => h v H ⟨as, e.trans s, fun p hp => e.free (n p hp), z⟩
theorem Have.up (e : Same H0 H1) (h : Have H1 G σ H) : Have H0 G σ H := let ⟨H2, s, E⟩ := h; ⟨H2, e.trans s, E⟩
theorem Nx.up {P : L2.St → Hp → Prop} (h : Nx H0 G P) (e : Same H0 H1) : Nx H1 G P := fun σ H z => h σ H (Have.up e z)
theorem Sv.up (h : Sv H0 G t D) (e : Same H0 H1) : Sv H1 G t D := fun σ H z => h σ H (Have.up e z)
def OutOk (H0 : Hp) (st : S → Cells K) (bk : S → Cells K) (R : Rs K ρ) (D : Ends) : Fl S ρ → Prop
  | .nx s => Nx H0 (st s) D.nx
  | .rt x => RtOk R H0 x D
  | .bk s => Nx H0 (bk s) D.bk
theorem OutOk.up {st bk : S → Cells K} {o : Fl S ρ} (h : OutOk H0 st bk R D o) (e : Same H0 H1) : OutOk H1 st bk R D o := match o, h with
  | .nx _, h => Nx.up h e
  | .rt _, h => RtOk.up h e
  | .bk _, h => Nx.up h e
/-! ### ends of blocks -/
theorem r_ret {x : α} (hD : RtOk (fz K r) H0 x D) (h : Ev r te G x) (F : Frz K r := by infer_instance) : Sv H0 G (tRet te) D := l_ret (b' := x) (fun v H' s z => hD v H' ⟨[], s, (fun p hp => nomatch hp), ⟨rfl, stb z⟩⟩) h rfl
theorem r_retN {x : ρ} (hD : RtOk R H0 x D) (h : Nw R te G x) : Sv H0 G (tRet te) D := l_retN (b' := x) (fun v H' as s n z => hD v H' ⟨as, s, n, z⟩) h rfl
theorem r_retO {i : Nat} {x : ρ} (hD : RtOk R H0 x D) (hi : G[i]? = some (some (.ow R x))) : Sv H0 G (tRet (tVar i)) D := l_retO (xs' := x) (fun v H' as s n z => hD v H' ⟨as, s, n, z⟩) hi rfl
/-- the ways of a statement that may return meet ahead of u -/
theorem q_flow {st bk : S → Cells K} (o : Fl S ρ) (hn : ∀ s, o = .nx s → Sv H0 (st s) u D) (hr : ∀ x, o = .rt x → RtOk R H0 x D) (hb : ∀ s, o = .bk s → Nx H0 (bk s) D.bk)
    (k : OutOk H0 st bk R { D with nx := u D } o → Sv H0 G (tSeq t u) D) : Sv H0 G (tSeq t u) D := k (match o, hn, hr, hb with
  | .nx s, hn, _, _ => hn s rfl
  | .rt x, _, hr, _ => hr x rfl
  | .bk s, _, _, hb => hb s rfl)
/-! ### loops -/
theorem l_forM {f : S → α → M S} {xs : List α} {s0 s1 : S} (st : S → Cells K) (hm : mfor f s0 xs = .ok s1) (hw : Wk wi r G G' xs) (h0 : Sub G' (st s0))
    (body : ∀ H0', Same H0 H0' → ∀ x s s', f s x = .ok s' → ∃ Gx, Tg g r x (st s) Gx ∧ Sv H0' Gx tb { D with nx := Have H0' (st s'), ct := Have H0' (st s'), bk := D.nx })
    (after : Nx H0 (st s1) D.nx) : Sv H0 G (tFor wi g tb) D :=
  l_forI st (fun pre s => mfor f s0 pre = .ok s) s0 hw h0 rfl (fun H0' e pre x post s hx hI => by
    rw [hx] at hm
    obtain ⟨t, h1, h2⟩ := mfor_app hm
    rw [hI] at h1
    cases h1
    obtain ⟨s', h3, h4⟩ := mb_ok h2
    obtain ⟨Gx, ht, hb⟩ := body H0' e x s s' h3
    refine ⟨Gx, ht, ?_⟩
    have e2 : mfor f s0 (pre ++ [x]) = .ok s' := by
      have app : ∀ (l : List α) (a b : S), mfor f a l = .ok b → mfor f a (l ++ [x]) = mb (f b x) fun c => .ok c := by
        intro l
        induction l with
        | nil => intro a b h; cases h; rfl
        | cons y l ih =>
          intro a b h
          obtain ⟨c, h5, h6⟩ := mb_ok h
          show mb (f a y) _ = _
          rw [mb_of h5]
          exact ih c b h6
      rw [app pre s0 s hI, mb_of h3]
    have key : (fun σ H => ∃ s', mfor f s0 (pre ++ [x]) = .ok s' ∧ Have H0' (st s') σ H) = Have H0' (st s') := by
      funext σ H
      refine propext ⟨fun ⟨s2, h5, h6⟩ => ?_, fun h => ⟨_, e2, h⟩⟩
      rw [e2] at h5
      cases h5
      exact h6
    rw [key]
    exact hb) fun s hs => by rw [hm] at hs; cases hs; exact after
theorem q_forM {f : S → α → M S} {xs : List α} {s0 s1 : S} (st : S → Cells K) (hm : mfor f s0 xs = .ok s1) (hw : Wk wi r G G' xs) (h0 : Sub G' (st s0))
    (body : ∀ H0', Same H0 H0' → ∀ x s s', f s x = .ok s' → ∃ Gx, Tg g r x (st s) Gx ∧ Sv H0' Gx tb { nx := Have H0' (st s'), rt := D.rt, ct := Have H0' (st s'), bk := u D })
    (after : Sv H0 (st s1) u D) : Sv H0 G (tSeq (tFor wi g tb) u) D := l_forM (D := { D with nx := u D }) st hm hw h0 body after
/-- a loop that may return or break -/
theorem l_forF {f : S → α → M (Fl S ρ)} {xs : List α} {s0 : S} {o : Fl S ρ} (st : S → Cells K) (hm : mforF f s0 xs = .ok o) (hw : Wk wi r G G' xs) (h0 : Sub G' (st s0))
    (hn : ∀ s, o = .nx s → Nx H0 (st s) D.nx) (hr : ∀ x, o = .rt x → RtOk R H0 x D)
    (body : ∀ H0' D', Same H0 H0' → ∀ x s o', f s x = .ok o' → OutOk H0' st st R D' o' → ∃ Gx, Tg g r x (st s) Gx ∧ Sv H0' Gx tb D') : Sv H0 G (tFor wi g tb) D :=
  l_forI st (fun pre s => ∀ ys, xs = pre ++ ys → mforF f s ys = .ok o) s0 hw h0 (fun ys e => by rw [e] at hm; exact hm) (fun H0' e pre x post s hx hI => by
    obtain ⟨o1, h1, h2, h3, h4⟩ := mforF_step (hI _ hx)
    exact body H0' _ e x s o1 h1 (match o1, h1, h2, h3, h4 with
      | .nx s', _, h2, _, _ => fun σ H hv => ⟨s', fun ys ey => by
          have : ys = post := by
            have e3 := hx.symm.trans ey
            rw [List.append_assoc] at e3
            have := List.append_cancel_left e3
            cases this
            rfl
          rw [this]
          exact h2 s' rfl, hv⟩
      | .rt x', _, _, h3, _ => (hr x' (h3 x' rfl)).up e
      | .bk s', _, _, _, h4 => (hn s' (h4 s' rfl)).up e)) fun s hs => hn s (by
        have := hs [] (by rw [List.append_nil])
        cases this
        rfl)
theorem q_forF {f : S → α → M (Fl S ρ)} {xs : List α} {s0 : S} {o : Fl S ρ} (st : S → Cells K) (hm : mforF f s0 xs = .ok o) (hw : Wk wi r G G' xs) (h0 : Sub G' (st s0))
    (hn : ∀ s, o = .nx s → Sv H0 (st s) u D) (hr : ∀ x, o = .rt x → RtOk R H0 x D)
    (body : ∀ H0' D', Same H0 H0' → ∀ x s o', f s x = .ok o' → OutOk H0' st st R D' o' → ∃ Gx, Tg g r x (st s) Gx ∧ Sv H0' Gx tb D') : Sv H0 G (tSeq (tFor wi g tb) u) D := l_forF (D := { D with nx := u D }) st hm hw h0 hn hr body
theorem l_whileM {tc : TT} {c : S → M Bool} {f : S → M S} {n : Nat} {s0 s1 : S} (st : S → Cells K) (hm : mwhile c f n s0 = .ok s1) (h0 : Sub G (st s0))
    (test : ∀ s b, c s = .ok b → EvT tc (st s) b)
    (body : ∀ H0', Same H0 H0' → ∀ s s', f s = .ok s' → Sv H0' (st s) tb { D with nx := Have H0' (st s'), ct := Have H0' (st s'), bk := D.nx })
    (after : Nx H0 (st s1) D.nx) : Sv H0 G (tWhile tc tb) D := fun σ H ⟨H1, e1, E⟩ => by
  refine ⟨fun k σ' Hh => ∃ s, mwhile c f k s = .ok s1 ∧ Have H0 (st s) σ' Hh, ⟨n, s0, hm, H1, e1, E.less h0⟩, ?_⟩
  rintro k σ' Hh ⟨s, hI, H2, s2, E2⟩
  cases k with
  | zero => cases hI
  | succ k =>
    obtain ⟨b, hb, hI⟩ := mb_ok hI
    refine test s b hb H2 σ' Hh E2 _ fun H' e' => ?_
    cases b with
    | true =>
      obtain ⟨s', hs, hI⟩ := mb_ok hI
      refine iteT ⟨_, fun σ2 Hh2 hv => ⟨k, Nat.lt_succ_self k, s', hI, hv⟩, body H0 (Same.refl _) s s' hs σ' H' ⟨H2, s2, E2.grow e'⟩⟩
    | false =>
      cases hI
      exact iteF (after σ' H' ⟨H2, s2, E2.grow e'⟩)
theorem q_whileM {tc : TT} {c : S → M Bool} {f : S → M S} {n : Nat} {s0 s1 : S} (st : S → Cells K) (hm : mwhile c f n s0 = .ok s1) (h0 : Sub G (st s0))
    (test : ∀ s b, c s = .ok b → EvT tc (st s) b)
    (body : ∀ H0', Same H0 H0' → ∀ s s', f s = .ok s' → Sv H0' (st s) tb { nx := Have H0' (st s'), rt := D.rt, ct := Have H0' (st s'), bk := u D })
    (after : Sv H0 (st s1) u D) : Sv H0 G (tSeq (tWhile tc tb) u) D := l_whileM (D := { D with nx := u D }) st hm h0 test body after
theorem l_whileF {tc : TT} {c : S → M Bool} {f : S → M (Fl S ρ)} {n : Nat} {s0 : S} {o : Fl S ρ} (st : S → Cells K) (hm : mwhileF c f n s0 = .ok o) (h0 : Sub G (st s0))
    (hn : ∀ s, o = .nx s → Nx H0 (st s) D.nx) (hr : ∀ x, o = .rt x → RtOk R H0 x D)
    (test : ∀ s b, c s = .ok b → EvT tc (st s) b)
    (body : ∀ H0' D', Same H0 H0' → ∀ s o', f s = .ok o' → OutOk H0' st st R D' o' → Sv H0' (st s) tb D') : Sv H0 G (tWhile tc tb) D := fun σ H ⟨H1, e1, E⟩ => by
  refine ⟨fun k σ' Hh => ∃ s, mwhileF c f k s = .ok o ∧ Have H0 (st s) σ' Hh, ⟨n, s0, hm, H1, e1, E.less h0⟩, ?_⟩
  rintro k σ' Hh ⟨s, hI, H2, s2, E2⟩
  cases k with
  | zero => cases hI
  | succ k =>
    obtain ⟨b, hb, hI⟩ := mb_ok hI
    refine test s b hb H2 σ' Hh E2 _ fun H' e' => ?_
    cases b with
    | true =>
      obtain ⟨o1, hs, hI⟩ := mb_ok hI
      refine iteT ⟨fun σ2 Hh2 => ∃ s', mwhileF c f k s' = .ok o ∧ Have H0 (st s') σ2 Hh2, fun σ2 Hh2 ⟨s', hI', hv⟩ => ⟨k, Nat.lt_succ_self k, s', hI', hv⟩, body H0 _ (Same.refl _) s o1 hs ?_ σ' H' ⟨H2, s2, E2.grow e'⟩⟩
      cases o1 with
      | nx s' => exact fun _ _ z => ⟨s', hI, z⟩
      | rt x =>
        cases hI
        exact hr x rfl
      | bk s' =>
        cases hI
        exact hn s' rfl
    | false =>
      cases hI
      exact iteF (hn s rfl σ' H' ⟨H2, s2, E2.grow e'⟩)
theorem q_whileF {tc : TT} {c : S → M Bool} {f : S → M (Fl S ρ)} {n : Nat} {s0 : S} {o : Fl S ρ} (st : S → Cells K) (hm : mwhileF c f n s0 = .ok o) (h0 : Sub G (st s0))
    (hn : ∀ s, o = .nx s → Sv H0 (st s) u D) (hr : ∀ x, o = .rt x → RtOk R H0 x D)
    (test : ∀ s b, c s = .ok b → EvT tc (st s) b)
    (body : ∀ H0' D', Same H0 H0' → ∀ s o', f s = .ok o' → OutOk H0' st st R D' o' → Sv H0' (st s) tb D') : Sv H0 G (tSeq (tWhile tc tb) u) D := l_whileF (D := { D with nx := u D }) st hm h0 hn hr test body
/-! ### tests and values whose right side may be stuck -/
theorem ev_andM {m : M Bool} (h1 : Ev rB ta G a) (h2 : ∀ b, m = .ok b → Ev rB tb' G b) (e : mand a m = .ok c) : Ev rB (tAndV ta tb') G c := by
  cases a with
  | true => exact (ev_and h1 fun _ => h2 c e).eq (Bool.true_and c)
  | false => cases e; exact (ev_and (d := false) h1 fun z => nomatch z)
theorem ev_orM {m : M Bool} (h1 : Ev rB ta G a) (h2 : ∀ b, m = .ok b → Ev rB tb' G b) (e : mor a m = .ok c) : Ev rB (tOrV ta tb') G c := by
  cases a with
  | false => exact (ev_or h1 fun _ => h2 c e).eq (Bool.false_or c)
  | true => cases e; exact (ev_or (d := false) h1 fun z => nomatch z)
theorem et_andM {m : M Bool} (h1 : EvT tt G a) (h2 : ∀ b, m = .ok b → EvT tu G b) (e : mand a m = .ok c) : EvT (tAnd tt tu) G c := by
  cases a with
  | true => exact (et_and h1 fun _ => h2 c e).eq (Bool.true_and c)
  | false => cases e; exact (et_and (d := false) h1 fun z => nomatch z)
theorem et_orM {m : M Bool} (h1 : EvT tt G a) (h2 : ∀ b, m = .ok b → EvT tu G b) (e : mor a m = .ok c) : EvT (tOr tt tu) G c := by
  cases a with
  | false => exact (et_or h1 fun _ => h2 c e).eq (Bool.false_or c)
  | true => cases e; exact (et_or (d := false) h1 fun z => nomatch z)
theorem ev_ifM {x : α} {m1 m2 : M α} (h : EvT tt G a) (h1 : ∀ y, m1 = .ok y → Ev r ta G y) (h2 : ∀ y, m2 = .ok y → Ev r tb' G y) (e : (bif a then m1 else m2) = .ok x) : Ev r (tIf tt ta tb') G x := by
  cases a with
  | true => exact (ev_if (x := x) h (fun _ => h1 x e) fun z => nomatch z)
  | false => exact (ev_if (a := x) h (fun z => nomatch z) fun _ => h2 x e)
/-! ### comprehensions -/
theorem nw_lcM {vs : List Nat} {p : β → M Bool} {f : β → M γ} {q : Rp γ} [F : Frz K q] {r : Rp β} {ys : List β} {zs : List γ} [IN : Inhabited γ] (hw : Wk wi r G G' ys) (hlen : ys.length ≤ 100000)
    (turn : ∀ x, ∃ Gx, Tb g r x vs (wipeG G' vs) Gx ∧ (∀ b, p x = .ok b → EvT tt Gx b) ∧ (∀ y, f x = .ok y → Ev q te Gx y)) (hm : mlc p f ys = .ok zs) :
    Nw (nl K q) (tLc wi g tt te vs) G zs := by
  have each : ∀ pre x post, ys = pre ++ x :: post → ∃ b, p x = .ok b ∧ (b = true → ∃ y, f x = .ok y) := fun pre x post e => by
    rw [e] at hm
    obtain ⟨us, vs', _, h2, _⟩ := mlc_app hm
    obtain ⟨b, hb, h2⟩ := mb_ok h2
    refine ⟨b, hb, fun e => ?_⟩
    subst e
    obtain ⟨y, hy, _⟩ := mb_ok h2
    exact ⟨y, hy⟩
  let P : β → Bool := fun x => match p x with | .ok b => b | .error _ => false
  let Fn : β → γ := fun x => match f x with | .ok y => y | .error _ => default
  have e : (ys.filter P).map Fn = zs := by
    have go : ∀ (l : List β) (us : List γ), mlc p f l = .ok us → (l.filter P).map Fn = us := by
      intro l
      induction l with
      | nil => intro us h; cases h; rfl
      | cons x l ih =>
        intro us h
        obtain ⟨b, hb, h⟩ := mb_ok h
        have eP : P x = b := by show (match p x with | .ok b => b | .error _ => false) = b; rw [hb]
        cases b with
        | false => rw [List.filter_cons, if_neg (by rw [eP]; exact Bool.false_ne_true)]; exact ih us h
        | true =>
          obtain ⟨y, hy, h⟩ := mb_ok h
          obtain ⟨ws, hws, h⟩ := mb_ok h
          cases h
          have eF : Fn x = y := by show (match f x with | .ok y => y | .error _ => default) = y; rw [hy]
          rw [List.filter_cons, if_pos eP, List.map_cons, ih ws hws, eF]
    exact go ys zs hm
  rw [← e]
  refine nw_lc hw hlen fun pre x post hx => ?_
  obtain ⟨Gx, h1, h2, h3⟩ := turn x
  obtain ⟨b, hb, hy⟩ := each pre x post hx
  have eP : P x = b := by show (match p x with | .ok b => b | .error _ => false) = b; rw [hb]
  refine ⟨Gx, h1, by rw [eP]; exact h2 b hb, fun hp => ?_⟩
  rw [eP] at hp
  obtain ⟨y, hy⟩ := hy hp
  have eF : Fn x = y := by show (match f x with | .ok y => y | .error _ => default) = y; rw [hy]
  rw [eF]
  exact h3 y hy
/-! ### defs with a mirror -/
def spM (A : Ra α) (q : Rp β) (m : α → M β) : Sp := fun vs H Q _ => ∃ a b, A H vs a ∧ m a = .ok b ∧ ∀ v H', Same H H' → q H' v b → Q v H'
def spMN (A : Ra α) (R : Rs K β) (m : α → M β) : Sp := fun vs H Q _ => ∃ a b, A H vs a ∧ m a = .ok b ∧ ∀ v H' as, Same H H' → (∀ p, p ∈ as → H p = none) → R.rep H' v b as → Q v H'
def MOk {α β : Type} (m : α → M β) (g : α) (b : β) : Prop := m g = .ok b
theorem a_callM {A : Ra γ} {g : γ} {m : γ → M β} {b : β} {E' : XK} {t : TA} (h : EvA A t G g) (e : MOk m g b) : Ev q (tCall (spM A q m) [] E' t) G b := fun H0 σ H E Q k =>
  h H0 σ H E _ fun vs H1 e1 z1 => by
    rw [List.append_nil]
    exact ⟨g, b, z1, e, fun v H2 e2 z2 => k v H2 (e1.trans e2) z2⟩
theorem a_ncallM {A : Ra γ} {g : γ} {m : γ → M ρ} {b : ρ} {E' : XK} {t : TA} (h : EvA A t G g) (e : MOk m g b) : Nw R (tCall (spMN A R m) [] E' t) G b := fun H0 σ H E Q k =>
  h H0 σ H E _ fun vs H1 e1 z1 => by
    rw [List.append_nil]
    exact ⟨g, b, z1, e, fun v H2 as e2 hn z2 => k v H2 as (e1.trans e2) (fun p hp => free_back e1 (hn p hp)) z2⟩
end
end Gt
/-! Gt16: what mir.py's scripts name. -/
namespace Gt
open PySem PySem.Spec PyProof.Rows L2
instance {i j : Int} : Decidable (CMul i j) := by unfold CMul; infer_instance
instance {i j : Int} : Decidable (CDiv i j) := by unfold CDiv; infer_instance
instance : Inhabited Str := ⟨Str.empty⟩
def Fl.go {σ ρ β : Type} (o : Fl σ ρ) (kn : σ → M β) (kr : ρ → M β) (kb : σ → M β) : M β := match o with
  | .nx s => kn s
  | .rt r => kr r
  | .bk s => kb s
theorem go_nx {σ ρ β : Type} {s : σ} {kn : σ → M β} {kr : ρ → M β} {kb : σ → M β} {x : M β} (h : Fl.go (.nx s) kn kr kb = x) : kn s = x := h
theorem go_rt {σ ρ β : Type} {s : ρ} {kn : σ → M β} {kr : ρ → M β} {kb : σ → M β} {x : M β} (h : Fl.go (.rt s) kn kr kb = x) : kr s = x := h
theorem go_bk {σ ρ β : Type} {s : σ} {kn : σ → M β} {kr : ρ → M β} {kb : σ → M β} {x : M β} (h : Fl.go (.bk s) kn kr kb = x) : kb s = x := h
/-- the code of a text of one sign -/
def sgn (s : Str) : Option Nat := match s.cps.toList with
  | [c] => some c
  | _ => none
theorem sgn_eq {s : Str} {c : Nat} (h : sgn s = some c) : s = ⟨#[c]⟩ := by
  unfold sgn at h
  obtain ⟨⟨l⟩⟩ := s
  match l, h with
  | [d], h => cases h; rfl
theorem sgn_one (c : Nat) : sgn ⟨#[c]⟩ = some c := rfl
section
variable {K : PySem.W.Frag} {H0 H1 H H' : Hp} {σ : L2.St} {G G' G2 Gx : Cells K} {α β γ S T ρ : Type}
variable {D : Ends} {t u tb : TS} {te ta tb' : TE} {r : Rp α} {q : Rp β} {R : Rs K ρ} {a b c d : Bool}
theorem Sv.cont (k : Sv H0 G u D) : Nx H0 G (u D) := k
theorem q_doc (k : Sv H0 G u D) : Sv H0 G (tSeq tNext u) D := k
theorem RtR.none {H0 : Hp} (h : Have H0 G σ H) : RtR (fz K rN) H0 () .non H := let ⟨_, e, E⟩ := h; ⟨[], e.trans E.old, (fun p hp => nomatch hp), ⟨rfl, fun _ _ => rfl⟩⟩
theorem l_pair {i j : Nat} {p : α × β} {a : V} (h : Ev (rP K r q) te G p) (k : Nx H0 ((G.set i (fc r p.1)).set j (fc q p.2)) D.nx) (F : Frz K r := by infer_instance) (F' : Frz K q := by infer_instance) : Sv H0 G (tAsg te (gTup K 2 (gCons (gName i) (gCons (gName j) gNil)))) D := fun σ H ⟨H1, e, E⟩ =>
  h H1 σ H E _ fun v H' e' hv => tg_pair H1 σ H' v (E.grow e') hv _ fun σ' E' => k σ' H' ⟨H1, e, E'⟩
theorem q_pair {i j : Nat} {p : α × β} (h : Ev (rP K r q) te G p) (k : Sv H0 ((G.set i (fc r p.1)).set j (fc q p.2)) u D) (F : Frz K r := by infer_instance) (F' : Frz K q := by infer_instance) : Sv H0 G (tSeq (tAsg te (gTup K 2 (gCons (gName i) (gCons (gName j) gNil)))) u) D := fun σ H ⟨H1, e, E⟩ =>
  h H1 σ H E _ fun v H' e' hv => tg_pair H1 σ H' v (E.grow e') hv _ fun σ' E' => k σ' H' ⟨H1, e, E'⟩
/-- xs[i] = v -/
theorem l_lset {ti : TE} {i : Nat} {xs : List α} {n : Int} {j : Nat} {x : α} (hi : G[i]? = some (some (.ow (nl K r) xs))) (h : Ev r te G x) (hn : Ev rI ti G n) (hj : ixN xs.length n = some j) (k : Nx H0 (G.set i (some (.ow (nl K r) (xs.set j x)))) D.nx) (F : Frz K r := by infer_instance) :
    Sv H0 G (tAsg te (gSub (tVar i) ti rSetL)) D := fun σ H ⟨H1, e1, E⟩ => by
  refine h H1 σ H E _ fun w H2 e2 hw => ?_
  obtain ⟨own, h1, h2, h3⟩ := id E.at_
  obtain ⟨v, hv, p, vs, ea, ev, hp, z⟩ := h3 i _ hi
  subst ev
  refine ⟨_, hv, hn H1 σ H2 (E.grow e2) _ fun y H3 e3 hy => ?_⟩
  have E3 := (E.grow e2).grow e3
  have hp3 := e3 _ _ (e2 _ _ hp)
  refine ⟨p, vs, n, j, rfl, hy, hp3, by rw [z.len]; exact hj, k _ _ ⟨H1, e1, ?_⟩⟩
  have x0 : ExT K H3 (upd H3 p (.lst (vs.set j w))) := ext_upd hp3 fun z => z
  have z3 : A2 (Stb K r (upd H3 p (.lst (vs.set j w)))) vs xs := z.imp fun _ _ q => (q.up (ext_same (e2.trans e3))).up x0
  refine E3.mut (as := [p]) (R := nl K r) (R' := nl K r) hi hv x0 (fun c o hc ho => ?_) (fun w' bs hw' ⟨p', _, e6, e7, _, _⟩ => ?_) ⟨p, _, rfl, rfl, upd_same, z3.set ((stb (F.up (ext_same e3) hw)).up x0) j⟩
  · rw [upd_ne fun z => hc (by rw [z]; exact List.mem_singleton.mpr rfl)]
    exact ho
  · rw [hv] at hw'
    cases hw'
    cases e7
    exact e6
theorem q_lset {ti : TE} {i : Nat} {xs : List α} {n : Int} {j : Nat} {x : α} (hi : G[i]? = some (some (.ow (nl K r) xs))) (h : Ev r te G x) (hn : Ev rI ti G n) (hj : ixN xs.length n = some j) (k : Sv H0 (G.set i (some (.ow (nl K r) (xs.set j x)))) u D) (F : Frz K r := by infer_instance) :
    Sv H0 G (tSeq (tAsg te (gSub (tVar i) ti rSetL)) u) D := l_lset (D := { D with nx := u D }) hi h hn hj k
abbrev rInSg : R2 := fun x y H Q => ∃ (c : Nat) (z : Str), x = .str ⟨#[c]⟩ ∧ y = .str z ∧ Q (.bl (decide (c ∈ z.cps.toList))) H
abbrev rNinSg : R2 := fun x y H Q => ∃ (c : Nat) (z : Str), x = .str ⟨#[c]⟩ ∧ y = .str z ∧ Q (.bl (!decide (c ∈ z.cps.toList))) H
def SgOk (s : Str) (c : Nat) : Prop := sgn s = some c
theorem a_inSg {s t : Str} {z : Nat} (h : Ev rS ta G t) (e : SgOk t z) (h' : Ev rS tb' G s) : Ev rB (tOp rInSg ta tb') G (decide (z ∈ s.cps.toList)) := ev_inSign h (sgn_eq e) h'
theorem a_ninSg {s t : Str} {z : Nat} (h : Ev rS ta G t) (e : SgOk t z) (h' : Ev rS tb' G s) : Ev rB (tOp rNinSg ta tb') G (!decide (z ∈ s.cps.toList)) := ev_ninSign h (sgn_eq e) h'
/-- x op y by an own method with a mirror -/
theorem a_cmpOM {C : Addr} {names : List Str} {r : Rp α} {r' : Rp β} {q : Rp γ} {x : α} {y : β} {z : γ} {m : α × β × Unit → M γ} {E : XK} (h : Ev r ta G x) (h' : Ev r' tb' G y) (M : Mono r) (I : InsR K C r names) (I' : InsR K C r' names) (e : MOk m (x, y, ()) z) :
    Ev q (tOp (rOwnOp C (spM (aC r (aC r' aN)) q m) E) ta tb') G z := ev_op h h' fun H u v hu hv Q k => by
  obtain ⟨a, dx, fs, ea, ha, _⟩ := I.ins hu
  obtain ⟨b, dy, gs, eb, hb, _⟩ := I'.ins hv
  exact ⟨a, dx, fs, b, dy, gs, ea, eb, ha, hb, (x, y, ()), z, ⟨u, _, rfl, hu, v, _, rfl, hv, rfl⟩, e, fun w H' e' hw => k w H' e' hw⟩
theorem nw_binOM {C : Addr} {names : List Str} {R : Rs K ρ} {r : Rp α} {r' : Rp β} {x : α} {y : β} {z : ρ} {m : α × β × Unit → M ρ} {E : XK} (h : Ev r ta G x) (h' : Ev r' tb' G y) (M : Mono r) (I : InsR K C r names) (I' : InsR K C r' names) (e : MOk m (x, y, ()) z) :
    Nw R (tOp (rOwnOp C (spMN (aC r (aC r' aN)) R m) E) ta tb') G z := nw_op h h' fun H u v hu hv Q k => by
  obtain ⟨a, dx, fs, ea, ha, _⟩ := I.ins hu
  obtain ⟨b, dy, gs, eb, hb, _⟩ := I'.ins hv
  exact ⟨a, dx, fs, b, dy, gs, ea, eb, ha, hb, (x, y, ()), z, ⟨u, _, rfl, hu, v, _, rfl, hv, rfl⟩, e, fun w H' as e' hn hw => k w H' as e' hn hw⟩
theorem a_mthM {C : Addr} {names : List Str} {mt : Str} {r : Rp α} {q : Rp γ} {x : α} {z : γ} {A : Ra β} {b : β} {m : α × β → M γ} {E : XK} {t : TA} (h : Ev r ta G x) (M : Mono r) (I : InsR K C r names) (hn : mt ∉ names) (hA : EvA A t G b) (e : MOk m (x, b) z) :
    Ev q (tMeth C mt (spM (aC r A) q m) [] E ta t) G z := fun H0 σ H E1 Q k => h H0 σ H E1 _ fun v H1 e1 hv => by
  obtain ⟨a, dx, fs, ea, ha, hm⟩ := I.ins hv
  refine ⟨a, dx, fs, ea, ha, lookup_no hm hn, hA H0 σ H1 (E1.grow e1) _ fun vs H2 e2 hvs => ?_⟩
  exact ⟨(x, b), z, ⟨v, vs, by rw [List.append_nil], M.up e2 hv, hvs⟩, e, fun w H' e' hw => k w H' ((e1.trans e2).trans e') hw⟩
theorem nw_mthM {C : Addr} {names : List Str} {mt : Str} {R : Rs K ρ} {r : Rp α} {x : α} {z : ρ} {A : Ra β} {b : β} {m : α × β → M ρ} {E : XK} {t : TA} (h : Ev r ta G x) (M : Mono r) (I : InsR K C r names) (hn : mt ∉ names) (hA : EvA A t G b) (e : MOk m (x, b) z) :
    Nw R (tMeth C mt (spMN (aC r A) R m) [] E ta t) G z := fun H0 σ H E1 Q k => h H0 σ H E1 _ fun v H1 e1 hv => by
  obtain ⟨a, dx, fs, ea, ha, hm⟩ := I.ins hv
  refine ⟨a, dx, fs, ea, ha, lookup_no hm hn, hA H0 σ H1 (E1.grow e1) _ fun vs H2 e2 hvs => ?_⟩
  exact ⟨(x, b), z, ⟨v, vs, by rw [List.append_nil], M.up e2 hv, hvs⟩, e, fun w H' as e' hf hw => k w H' as ((e1.trans e2).trans e') (fun p hp => free_back (e1.trans e2) (hf p hp)) hw⟩
/-- what making an instance promises, by a mirror -/
def spOneM (K : PySem.W.Frag) (C : Addr) (f : Str) {β : Type} (r : Rp β) {α : Type} (A : Ra α) (m : α → M (List β)) : Sp := fun vs H Q _ => ∃ p dx ws a b, vs = .ref p :: ws ∧ H p = some (.ins C dx []) ∧ A H ws a ∧ m a = .ok b ∧
  ∀ l us H', (∀ c o, c ≠ p → H c = some o → H' c = some o) → H l = none → H' p = some (.ins C dx [(f, .ref l)]) → H' l = some (.lst us) → A2 (Stb K r H') us b → b.length ≤ 100000 → Q .non H'
theorem spOneM_len {C : Addr} {f : Str} {α β : Type} {r : Rp β} {A : Ra α} {m : α → M (List β)} {n : Nat} [L : LenA A n] {vs : List V} {H : Hp} {Q : VK} {E : XK} (h : spOneM K C f r A m vs H Q E) : vs.length = n + 1 := by
  obtain ⟨p, dx, ws, a, b, rfl, _, hA, _⟩ := h
  rw [List.length_cons, L.len hA]
theorem nw_mkOM {C : Addr} {f : Str} {r : Rp β} {A : Ra α} {a : α} {m : α → M (List β)} {xs : List β} {E : XK} {t : TA} (hA : EvA A t G a) (M : MonoA A) (e : MOk m a xs) : Nw (nOne K C f r) (tMake C (spOneM K C f r A m) [] E t) G xs := fun H0 σ H E1 Q k =>
  hA H0 σ H E1 _ fun ws H1 e1 hws x dx hx hdx hne => by
    have s1 : Same H1 (upd (upd H1 dx (.own x)) x (.ins C dx [])) := fun b o hb => by rw [upd_ne (ne_of_none hb hx), upd_ne (ne_of_none hb hdx)]; exact hb
    refine ⟨x, dx, ws, a, xs, by rw [List.append_nil], upd_same, M.up s1 hws, e, fun l us H' keep hl h1 h2 z hz => ⟨rfl, ?_⟩⟩
    have hlx : x ≠ l := fun q => by rw [← q, upd_same] at hl; cases hl
    have hl1 : H1 l = none := s1.free hl
    refine k _ H' [x, l] (e1.trans fun b o hb => keep b o (ne_of_none hb hx) (s1 _ _ hb)) (fun b hb => ?_) ⟨⟨x, dx, l, us, rfl, rfl, hlx, h1, h2, z⟩, hz⟩
    rcases List.mem_cons.mp hb with q | q
    · rw [q]; exact free_back e1 hx
    · cases List.mem_singleton.mp q
      exact free_back e1 hl1
end
end Gt
/-! Gt17: what a mirror answers. -/
namespace Gt
open PySem PySem.Spec PyProof.Rows L2
/-- m answers, and so -/
def Tt {α : Type} (m : M α) (P : α → Prop) : Prop := match m with
  | .ok a => P a
  | .error _ => False
section
variable {α β γ σ ρ : Type} {m : M α} {f : α → M β} {P P' : α → Prop} {Q : β → Prop} {a : α} {c : Bool} {o : Option α}
theorem Tt.ok (h : Tt m P) : ∃ a, m = .ok a ∧ P a := by
  cases m with
  | ok a => exact ⟨a, rfl, h⟩
  | error _ => exact h.elim
theorem Tt.eq (h : Tt m fun x => x = a) : m = .ok a := let ⟨_, e, h⟩ := h.ok; by rw [e, h]
theorem Tt.of (h : m = .ok a) (p : P a) : Tt m P := by rw [h]; exact p
theorem Tt.imp (h : Tt m P) (g : ∀ a, P a → P' a) : Tt m P' := let ⟨a, e, h⟩ := h.ok; .of e (g a h)
theorem Tt.bind (h : Tt m P) (g : ∀ a, P a → Tt (f a) Q) : Tt (mb m f) Q := by
  obtain ⟨a, e, h⟩ := h.ok
  rw [mb_of e]
  exact g a h
/-- by what is known of m -/
theorem Tt.by (h : m = .ok a) (g : Tt (f a) Q) : Tt (mb m f) Q := by rw [mb_of h]; exact g
theorem Tt.ret (h : P a) : Tt (.ok a) P := h
theorem Tt.let (g : Tt (f a) Q) : Tt (mb (.ok a) f) Q := g
theorem Tt.chk {f : Unit → M β} {p : Prop} [Decidable p] (h : p) (g : Tt (f ()) Q) : Tt (mb (chk (decide p)) f) Q := by rw [mb_of (chk_of (decide_eq_true h))]; exact g
theorem Tt.oM (h : o = some a) (g : Tt (f a) Q) : Tt (mb (oM o) f) Q := by rw [mb_of (oM_of h)]; exact g
theorem Tt.if {m' : M α} (h : c = true → Tt m P) (h' : c = false → Tt m' P) : Tt (bif c then m else m') P := by
  cases c with
  | true => exact h rfl
  | false => exact h' rfl
theorem Tt.mand {a : Bool} {m : M Bool} {b : Bool} (h : a = true → m = .ok b) : Gt.mand a m = .ok (a && b) := by
  cases a with
  | true => exact h rfl
  | false => rfl
theorem Tt.mor {a : Bool} {m : M Bool} {b : Bool} (h : a = false → m = .ok b) : Gt.mor a m = .ok (a || b) := by
  cases a with
  | false => exact h rfl
  | true => rfl
theorem mfor_snoc {f : σ → α → M σ} : ∀ {xs : List α} {s t : σ} {x : α}, mfor f s xs = .ok t → mfor f s (xs ++ [x]) = f t x
  | [], s, t, x, h => by
    cases h
    show mb (f s x) (fun c => .ok c) = f s x
    cases f s x <;> rfl
  | y :: xs, s, t, x, h => by
    obtain ⟨u, h1, h2⟩ := mb_ok h
    show mb (f s y) _ = _
    rw [mb_of h1]
    exact mfor_snoc h2
/-- a loop by an invariant of what was walked -/
theorem Tt.for {f : σ → α → M σ} {xs : List α} {s0 : σ} (I : List α → σ → Prop) (h0 : I [] s0) (h : ∀ pre x post s, xs = pre ++ x :: post → I pre s → Tt (f s x) (I (pre ++ [x]))) : Tt (mfor f s0 xs) (I xs) := by
  have go : ∀ (post pre : List α) (s : σ), xs = pre ++ post → I pre s → Tt (mfor f s post) (I xs) := by
    intro post
    induction post with
    | nil => intro pre s e hI; rw [e, List.append_nil]; exact hI
    | cons x post ih =>
      intro pre s e hI
      exact (h pre x post s e hI).bind fun s' h' => ih (pre ++ [x]) s' (by rw [e, List.append_assoc]; rfl) h'
  exact go xs [] s0 rfl h0
/-- .. whose steps are a function's -/
theorem mfor_eq {f : σ → α → M σ} {g : σ → α → σ} (I : σ → Prop) : ∀ {xs : List α} {s : σ}, I s → (∀ s x, x ∈ xs → I s → f s x = .ok (g s x) ∧ I (g s x)) → mfor f s xs = .ok (xs.foldl g s)
  | [], _, _, _ => rfl
  | x :: xs, s, h, hs => by
    obtain ⟨e, h'⟩ := hs s x (List.mem_cons_self ..) h
    unfold mfor
    rw [mb_of e, List.foldl_cons]
    exact mfor_eq I h' fun s y hy => hs s y (List.mem_cons_of_mem _ hy)
theorem Tt.forF {f : σ → α → M (Fl σ ρ)} {xs : List α} {s0 : σ} {R : Fl σ ρ → Prop} (I : List α → σ → Prop) (h0 : I [] s0) (he : ∀ s, I xs s → R (.nx s))
    (h : ∀ pre x post s, xs = pre ++ x :: post → I pre s → Tt (f s x) fun o => match o with | .nx s' => I (pre ++ [x]) s' | .rt r => R (.rt r) | .bk s' => R (.nx s')) : Tt (mforF f s0 xs) R := by
  have go : ∀ (post pre : List α) (s : σ), xs = pre ++ post → I pre s → Tt (mforF f s post) R := by
    intro post
    induction post with
    | nil => intro pre s e hI; rw [List.append_nil] at e; exact he s (e ▸ hI)
    | cons x post ih =>
      intro pre s e hI
      refine (h pre x post s e hI).bind fun o h' => ?_
      cases o with
      | nx s' => exact ih (pre ++ [x]) s' (by rw [e, List.append_assoc]; rfl) h'
      | rt r => exact h'
      | bk s' => exact h'
  exact go xs [] s0 rfl h0
/-- a loop that only looks whether all are so, and returns r where one is not -/
theorem mforF_all {f : Unit → α → M (Fl Unit ρ)} {p : α → Bool} {r : ρ} : ∀ {xs : List α}, (∀ x ∈ xs, f () x = .ok (bif p x then .nx () else .rt r)) → mforF f () xs = .ok (bif xs.all p then .nx () else .rt r)
  | [], _ => rfl
  | x :: xs, h => by
    have h1 := h x (List.mem_cons_self ..)
    have ih := mforF_all (xs := xs) fun y hy => h y (List.mem_cons_of_mem _ hy)
    unfold mforF
    rw [mb_of h1, List.all_cons]
    cases p x with
    | true => exact ih
    | false => rfl
theorem mlc_eq {p : α → M Bool} {f : α → M β} {p' : α → Bool} {f' : α → β} : ∀ {xs : List α}, (∀ x ∈ xs, p x = .ok (p' x)) → (∀ x ∈ xs, p' x = true → f x = .ok (f' x)) → mlc p f xs = .ok ((xs.filter p').map f')
  | [], _, _ => rfl
  | x :: xs, h, h' => by
    have ih := mlc_eq (xs := xs) (fun y hy => h y (List.mem_cons_of_mem _ hy)) (fun y hy => h' y (List.mem_cons_of_mem _ hy))
    unfold mlc
    rw [mb_of (h x (List.mem_cons_self ..)), List.filter_cons]
    cases e : p' x with
    | true => rw [cond_true, mb_of (h' x (List.mem_cons_self ..) e), mb_of ih, if_pos rfl, List.map_cons]
    | false => rw [cond_false, ih, if_neg Bool.false_ne_true]
theorem mlc_map {f : α → M β} {f' : α → β} {xs : List α} (h : ∀ x ∈ xs, f x = .ok (f' x)) : mlc (fun _ => .ok true) f xs = .ok (xs.map f') := by
  have := mlc_eq (p := fun _ => .ok true) (p' := fun _ => true) (f := f) (f' := f') (xs := xs) (fun _ _ => rfl) fun x hx _ => h x hx
  rw [List.filter_eq_self.mpr fun _ _ => rfl] at this
  exact this
/-- a comprehension of which only some property of the items is told -/
theorem Tt.lc {f : α → M β} {xs : List α} {P : β → Prop} (h : ∀ x ∈ xs, Tt (f x) P) : Tt (mlc (fun _ => .ok true) f xs) fun ys => ys.length = xs.length ∧ ∀ y ∈ ys, P y := by
  induction xs with
  | nil => exact ⟨rfl, fun _ h => nomatch h⟩
  | cons x xs ih =>
    unfold mlc
    refine Tt.let ?_
    show Tt (mb (f x) _) _
    refine (h x (List.mem_cons_self ..)).bind fun y hy => (ih fun z hz => h z (List.mem_cons_of_mem _ hz)).bind fun ys hys => Tt.ret ⟨by rw [List.length_cons, hys.1, List.length_cons], fun z hz => ?_⟩
    rcases List.mem_cons.mp hz with e | e
    · rw [e]; exact hy
    · exact hys.2 z e
/-- a comprehension with a test, of which only some property of the items is told -/
theorem Tt.lcf {p : α → M Bool} {f : α → M β} {xs : List α} {P : β → Prop} (hp : ∀ x ∈ xs, Tt (p x) fun _ => True) (h : ∀ x ∈ xs, p x = .ok true → Tt (f x) P) : Tt (mlc p f xs) fun ys => ys.length ≤ xs.length ∧ ∀ y ∈ ys, P y := by
  induction xs with
  | nil => exact ⟨Nat.le_refl _, fun _ h => nomatch h⟩
  | cons x xs ih =>
    unfold mlc
    obtain ⟨b, e, _⟩ := (hp x (List.mem_cons_self ..)).ok
    rw [mb_of e]
    have ih := ih (fun z hz => hp z (List.mem_cons_of_mem _ hz)) fun z hz => h z (List.mem_cons_of_mem _ hz)
    cases b with
    | true =>
      refine (h x (List.mem_cons_self ..) e).bind fun y hy => ih.bind fun ys hys => Tt.ret ⟨by rw [List.length_cons, List.length_cons]; exact Nat.succ_le_succ hys.1, fun z hz => ?_⟩
      rcases List.mem_cons.mp hz with e | e
      · rw [e]; exact hy
      · exact hys.2 z e
    | false => exact ih.imp fun ys hys => ⟨Nat.le_trans hys.1 (Nat.le_succ _), hys.2⟩
theorem atI_in {xs : List α} {i : Int} (h0 : 0 ≤ i) (h1 : i < xs.length) : ∃ x, atI xs i = some x ∧ xs[i.toNat]? = some x ∧ x ∈ xs := by
  have hl : i.toNat < xs.length := by omega
  exact ⟨xs[i.toNat], atI_pos h0 (List.getElem?_eq_getElem hl), List.getElem?_eq_getElem hl, List.getElem_mem hl⟩
theorem Tt.ix {xs : List α} {i : Int} {f : α → M β} (h0 : 0 ≤ i) (h1 : i < xs.length) (g : ∀ x, x ∈ xs → xs[i.toNat]? = some x → Tt (f x) Q) : Tt (mb (Gt.oM (atI xs i)) f) Q := by
  obtain ⟨x, e, e2, hx⟩ := atI_in h0 h1
  exact Tt.oM e (g x hx e2)
theorem Tt.ixN {n : Nat} {i : Int} {f : Nat → M β} (h0 : 0 ≤ i) (h1 : i < n) (g : Tt (f i.toNat) Q) : Tt (mb (Gt.oM (L2.ixN n i)) f) Q := by
  refine Tt.oM ?_ g
  unfold L2.ixN
  rw [if_pos h0, if_pos h1]
theorem cut_mem {xs : List α} {lo hi : Option Int} {x : α} (h : x ∈ cut xs lo hi) : x ∈ xs := by
  unfold cut at h
  exact List.mem_of_mem_drop (List.mem_of_mem_take h)
theorem cut_le (xs : List α) (lo hi : Option Int) : (cut xs lo hi).length ≤ xs.length := by
  unfold cut
  rw [List.length_take, List.length_drop]
  omega
theorem sIx_in {n d : Nat} {i : Int} (h0 : 0 ≤ i) (h1 : i ≤ n) : HT.sIx n d (some i) = i.toNat := by
  obtain ⟨k, rfl⟩ := Int.eq_ofNat_of_zero_le h0
  rw [HT.sIx_nat]
  show min k n = k
  omega
theorem cut_in {xs : List α} {lo hi : Int} (h0 : 0 ≤ lo) (h1 : lo ≤ hi) (h2 : hi ≤ xs.length) : cut xs (some lo) (some hi) = (xs.drop lo.toNat).take (hi - lo).toNat := by
  unfold cut
  rw [sIx_in h0 (by omega), sIx_in (by omega) h2]
  congr 1
  omega
theorem cut_len_in {xs : List α} {lo hi : Int} (h0 : 0 ≤ lo) (h1 : lo ≤ hi) (h2 : hi ≤ xs.length) : (cut xs (some lo) (some hi)).length = (hi - lo).toNat := by
  rw [cut_in h0 h1 h2, List.length_take, List.length_drop]
  omega
theorem ups_mem {n : Nat} {i : Int} (h : i ∈ ups n) : 0 ≤ i ∧ i < n := by
  unfold ups at h
  obtain ⟨j, hj, e⟩ := List.mem_map.mp h
  have := List.mem_range.mp hj
  omega
end
end Gt
/-! Gt18: own exceptions over own classes over ValueError, whose __init__ says super().__init__(text) and keeps its one argument. -/
namespace Gt
open PySem PySem.Spec PyProof.Rows L2 PySem.W PySem.Calls PySem.HandSPX
/-- what the top says of such a class: x at C, its __init__ at fI, its field fld -/
structure ExcT (prog : Program) (K : PySem.W.Frag) (mg : Str → Option Value) (x fld : Str) (C fI : Addr) : Prop where
  gC : mg x = some (.ref C)
  cls : ∃ nm q N bs bm sn sub ab col dd k0 k1 k2 k3 k5, K.lookup C = some (excClassObj nm q C N bs bm true sn sub ab col dd k0 k1 k2 k3 k5 "ValueError.__new__") ∧ refsVE bm = true
  sa : findIn K (.ref C) "__setattr__" = some (some (.builtin "object.__setattr__"))
  ga : findIn K (.ref C) "__getattribute__" = some (some (.builtin "BaseException.__getattribute__"))
  gg : findIn K (.ref C) "__getattr__" = some none
  no : findIn K (.ref C) fld = some none
  iC : findIn K (.ref C) "__init__" = some (some (.ref fI))
  tI : typeIn K (.ref fI) = some (.type "function")
  kC : keepIn K (.ref C) = true
  exC : subIn K (.ref C) (.type "BaseException") = some true
  tyC : typeIn K (.ref C) = some (.type "type")
  hdC : hasDictIn K C = true
  su : ks_superIn K C C "__init__" = some (some (.builtin "ValueError.__init__"))
  sB : subIn K (.ref C) (.type "ValueError") = some true
  sS : mroIn K C (.ref C) = some true
  op : nsIn K cStatics "thirdparty.any" = some none
  nS : mg "super" = none
  fn : ∃ (oc : Value) (od : Option Addr) (qual : Str) (params : Arguments) (body : List Stmt) (scope : Scope) (doc pm : Value) (an : Option Addr) (cda cc : Addr) (ct : Value) (osl : Array (Option Value)),
    K.lookup fI = some ⟨oc, od, .func (ksFn "__init__" qual params body scope .none .none doc pm an (.ref cda) ct cc), osl⟩ ∧ codeIn K (.ref cda) qual = true ∧
    (∃ cl cld csl, K.lookup cc = some ⟨cl, cld, .cell (some (.ref C)), csl⟩) ∧ (∃ cl cld vs file tf csl, K.lookup cda = some ⟨cl, cld, .fields vs, csl⟩ ∧ vs[2]? = some (.str file tf) ∧ ((prog.main.file : Str) == file) = true) ∧
    (prog.main.scope.names.lookup ("super" : Str)).isSome = false ∧
    (∃ msg j q0 q1 q2 q3 q4 q5 q6 q7 q8 q9, body = [.Expr (.Call (.Attribute (.Call (.Name "super" q0) [] [] q1) "__init__" q2) [.Constant (.str msg) j q3] [] q4) q5, .Assign [.Attribute (.Name "self" q6) fld q7] (.Name fld q8) q9] ∧
      (∀ L cd c2, ∃ pl : Sem Bool, eval (.Call (.Attribute (.Call (.Name "super" q0) [] [] q1) "__init__" q2) [.Constant (.str msg) j q3] [] q4) (ksEnv qual scope L fI cd c2) = (do
        let ov ← attributeBase (.Call (.Name "super" q0) [] [] q1) "__init__" (ksEnv qual scope L fI cd c2) (eval (.Call (.Name "super" q0) [] [] q1) (ksEnv qual scope L fI cd c2))
        standAt q2.atName
        let (f, first) ← holding [ov] (getMethod ov "__init__" pl)
        callWith q4 f first (backTo q4 (starEach [.Constant (.str msg) j q3] (ksEnv qual scope L fI cd c2))) [])) ∧
      (∀ L cd c2, swapsWith (.Call (.Attribute (.Call (.Name "super" q0) [] [] q1) "__init__" q2) [.Constant (.str msg) j q3] [] q4) none q5.line (ksEnv qual scope L fI cd c2) = pure false) ∧
      (∀ L cd c2, swapsWith (.Name fld q8) (some (.Attribute (.Name "self" q6) fld q7)) q9.line (ksEnv qual scope L fI cd c2) = pure false)) ∧
    (∃ ar, (params.posonlyargs ++ params.args).head? = some ar ∧ ar.arg = "self") ∧
    (∀ (s : Shared) (u v : Value), BindsTo s (ksFn "__init__" qual params body scope .none .none doc pm an (.ref cda) ct cc) ⟨[u, v], []⟩ [("self", u), (fld, v)]) ∧
    scope.kind = .function ∧ scope.isGenerator = false ∧ scope.isCoroutine = false ∧ scope.names.lookup ("self" : Str) = some .local ∧ scope.names.lookup fld = some .local ∧ scope.names.lookup ("super" : Str) = some .globalImplicit ∧
    scope.names.lookup ("__class__" : Str) = some .free ∧ (∀ y ∈ scope.names, y.2 ≠ .cell) ∧ (fld == ("self" : Str)) = false ∧ (fld == ("__debug__" : Str)) = false
/-- what __init__ leaves of a fresh exception at x -/
structure XEnd (h h' : Heap) (x C dx : Addr) (fld : Str) (v : Value) : Prop where
  keep : ∀ b o, b ≠ x → h.get? b = some o → h'.get? b = some o
  obj : ∃ t1 : Addr, h'.get? x = some { cls := .ref C, dict := some dx, data := .fields #[.ref t1, .none, .none, .none, .bool false, .none] }
  dbig : h.objs.size ≤ dx
  dne : dx ≠ x
  ns : h'.Ns1 dx (fun y => if y = fld then some v else none)
/-- the bound __init__ is called -/
theorem xbound {prog : Program} {w : World} {A : Around} {E : Value → Shared → Prop} {h : Heap} {g : Array GenState} {d : Drawn} {t : Nat} {os : OsState} {nm q : Str} {C N : Addr} {bs bm : List Value} {sn : List Str} {sub : List Value} {ab : Bool} {col : Option Bool} {dd : Option Addr} {k0 k1 k2 k3 k5 : Option Value}
    {u e t0 : Addr} {rest : List Value} {Q : Value → Shared → Prop} (hm : refsVE bm = true) (cC : h.get? C = some (excClassObj nm q C N bs bm true sn sub ab col dd k0 k1 k2 k3 k5 "ValueError.__new__")) (ce : h.get? e = some (excO C t0)) (cu : h.get? u = some (kxs_mw "ValueError.__init__" e)) (hz : rest.length ≤ sizeLine)
    (fin : ∀ h' t1, (∀ b o, b ≠ e → h.get? b = some o → h'.get? b = some o) → h'.get? e = some (excO C t1) → Q .none ⟨h', g, d, t, os⟩) : wpAny (model prog w) A (call (.ref u) rest) Q E ⟨h, g, d, t, os⟩ := by
  have FB := PySem.F.excBase_ValueError
  refine wpAny_call (codeAny_of_tree ?_); show wpAny _ A.in1 (callAny (.ref u) ⟨rest, []⟩) _ _ _; simp only [callAny]; refine wpAny_bind (wpAny_load cu ?_)
  have mw : (Value.type "method-wrapper" == Value.type "method" || Value.type "method-wrapper" == Value.type "builtin_function_or_method" || Value.type "method-wrapper" == Value.type "method-wrapper") = true := by decide
  simp only [kxs_mw, mw, if_true]; refine KFB.if_so (by decide) (wpAny_bind (check_bound_init FB.toExcCallFacts cC ce rfl (wpAny_bind (wpAny_pure (wpAny_pure ?_)))))
  refine ⟨plainId_quiet FB.init.plain _, codeAny_builtin FB.initEntry ?_⟩; rw [Around.under_plainId FB.init.plain _]
  exact exc_init_tree (cls := .ref C) (t0 := t0) (dv := none) (c2 := .none) (c3 := .none) (b4 := .bool false) ce hz fun h' k e' _ => fin h' _ k e'
section
variable {prog : Program} {w : World} {A : Around} {R : Result → Shared → Prop} {K : PySem.W.Frag} {mg : Str → Option Value} {x fld : Str} {C fI : Addr}
/-- the builtins and globals that a heap has -/
def Grd (mg : Str → Option Value) (h : Heap) : Prop := h.Ns mainGlobals mg ∧ ∃ mb, h.Ns builtinsNs mb ∧ ∀ x : Str, x ≠ "__name__" → mb x = bootBuiltins x
theorem xinit (T : ExcT prog K mg x fld C fI) {h : Heap} {g : Array GenState} {d : Drawn} {t : Nat} {os : OsState} {a t0 : Addr} {v : Value} (X : K.In h) (hlim : h.NoLimit) (G : Grd mg h) (ha : h.get? a = some (excO C t0)) (haC : a ≠ C) (hnx : K.lookup a = none) (hroom : A.depth < recursionLimit)
    (fin : ∀ h' tk dx, XEnd h h' a C dx fld v → R (.ok (.ret .none)) ⟨h', g, d, tk, os⟩) : codeAny (model prog w) A (.call (.ref fI) ⟨[.ref a, v], []⟩) R ⟨h, g, d, t, os⟩ := by
  obtain ⟨oc, od, qual, params, body, scope, doc, pm, an, cda, cc, ct, osl, hfn, hcd, ⟨cl, cld, csl, hcell⟩, ⟨cl2, cld2, vs, file, tf, csl2, hco, hvs, hfile⟩, htop, ⟨msg, j, q0, q1, q2, q3, q4, q5, q6, q7, q8, q9, eb, hev, hsw1, hsw2⟩, ⟨ar, har, hself⟩, hbind, sk, sg, sco, l1, l2, l3, l4, l5, l6, l7⟩ := T.fn
  obtain ⟨nm, q, N, bs, bm, sn, sub, ab, col, dd, k0, k1, k2, k3, k5, hC, hbm⟩ := T.cls
  obtain ⟨gG, mb, gB, gb⟩ := G
  have hcl : clsIn K C = some { name := nm, bases := bs, mro := .ref C :: bm, ns := N, qualname := q, hasDict := true, slotNames := sn, subclasses := sub, abstract := ab, collection := col, hasDel := false } := by unfold clsIn; rw [hC] <;> rfl
  refine ks_codeAny_call_defAt (binds := [("self", .ref a), (fld, v)]) hroom (X _ _ hfn) rfl hlim (codeRec_of X hcd) rfl (hbind _ _ _) l5 (fun y hy => ?_) (fun h1 ns1 ke1 => ?_) sco sg sk
  · rcases List.mem_cons.mp hy with e | hy
    · rw [e]; exact l1
    · cases List.mem_singleton.mp hy; exact l2
  have X1 := X.keeps ke1
  subst eb
  have a1 := ke1 _ _ ha
  have nsA : (fun y => ([("self", Value.ref a), (fld, v)] : List (Str × Value)).reverse.lookup y) "self" = some (.ref a) := by
    show List.lookup _ [(fld, v), ("self", Value.ref a)] = _
    rw [List.lookup_cons, show (("self" : Str) == fld) = false from by rw [Bool.eq_false_iff]; intro z; rw [← beq_iff_eq.mp z] at l6; simp at l6]
    simp [List.lookup]
  have nsB : (fun y => ([("self", Value.ref a), (fld, v)] : List (Str × Value)).reverse.lookup y) fld = some v := by
    show List.lookup _ [(fld, v), ("self", Value.ref a)] = _
    rw [List.lookup_cons, beq_self_eq_true]
  have envE : callEnv (ksFn "__init__" qual params [.Expr (.Call (.Attribute (.Call (.Name "super" q0) [] [] q1) "__init__" q2) [.Constant (.str msg) j q3] [] q4) q5, .Assign [.Attribute (.Name "self" q6) fld q7] (.Name fld q8) q9] scope .none .none doc pm an (.ref cda) ct cc) h.objs.size fI = ksEnv qual scope h.objs.size fI (.ref cda) cc := rfl
  rw [envE]
  have hi : interactive (ksEnv qual scope h.objs.size fI (.ref cda) cc) = false := by simp [interactive, sk]
  obtain ⟨pl, hpl⟩ := hev h.objs.size (.ref cda) cc
  refine ks_wpAt_execs_cons (ks_wpAt_Expr_any (ks_wpAt_MethodCall ?_ hpl) hi (hsw1 _ _ _))
  refine ks_wpAt_super_base (env := ksEnv qual scope h.objs.size fI (.ref cda) cc) l3 l4 (by decide) rfl (X1 _ _ hfn) rfl har rfl (X1 _ _ hco) rfl hvs hfile htop ?_
  have gG1 := gG.keeps ke1
  have gB1 := gB.keeps ke1
  refine ks_loadName_global sk l3 (loadGlobal_builtin (env := ksEnv qual scope h.objs.size fI (.ref cda) cc) gG1 T.nS gB1 ((gb _ (by decide)).trans (by decide +kernel)) ⟨rfl, ?_⟩)
  refine wpAny_loadName_free sk l4 rfl ⟨_, X1 _ _ hcell, rfl⟩ ?_
  refine wpAny_loadName_local sk (by rw [hself]; exact l1) ns1 (by rw [hself]; exact nsA) ?_
  refine ks_wpAny_isType_cls (X1 _ _ hC) rfl ⟨rfl, ?_⟩
  refine ks_wpAny_call_super (X1 _ _ hC) rfl a1 rfl (fun c z => nomatch z) (looks_mroIn X1 T.sS) (fun h2 so2 ke2 => ?_)
  have X2 := X1.keeps ke2
  have a2 := ke2 _ _ a1
  have su := T.su
  unfold ks_superIn at su
  rw [hcl] at su
  have hI : Looks (model prog w) h2 (isInstance (.ref a) (.type "ValueError")) true := (show Looks (model prog w) h2 (typeOf (.ref a)) (.ref C) from fun A Q E s k q => wpAny_typeOf_ref (k _ _ a2) q).andThen (looks_subIn X2 T.sB)
  refine kxs_getMethod kxs_ValueError so2 (looks_opaque X2 T.op) (l₀ := .ref C :: bm) ?_ rfl X2 su hI haC (by decide) ?_
  · exact fun A Q E s k q => wpAny_bind ((looks_clsIn X2 hcl) A _ E s k (wpAny_pure q))
  have ne2 : ∀ b o, h2.get? b = some o → b ≠ h2.objs.size := fun b o z => Nat.ne_of_lt (Heap.lt_size z)
  have ke3 : ∀ b o, h2.get? b = some o → (h2.push (kxs_mw "ValueError.__init__" a)).get? b = some o := fun b o z => Heap.get?_push_of_some _ z
  have a3 := ke3 _ _ a2
  have u3 : (h2.push (kxs_mw "ValueError.__init__" a)).get? h2.objs.size = some (kxs_mw "ValueError.__init__" a) := Heap.get?_push_at rfl rfl
  refine kxs_callWith (i := "ValueError.__init__") (x := a) rfl ?_
  rw [show starEach [Expr.Constant (Const.str msg) j q3] (ksEnv qual scope h.objs.size fI (Value.ref cda) cc) = (false, eval (Expr.Constant (Const.str msg) j q3) (ksEnv qual scope h.objs.size fI (Value.ref cda) cc)) :: starEach [] (ksEnv qual scope h.objs.size fI (Value.ref cda) cc) from rfl]
  refine evalArgs_plain ?_
  show wpAny _ _ (spliced (backTo q4 (starEach [Expr.Constant (Const.str msg) j q3] (ksEnv qual scope h.objs.size fI (Value.ref cda) cc)))) _ _ _
  refine spliced_more (Constant_str (pos := q3) (spliced_none ⟨u3, ?_⟩))
  refine xbound hbm (ke3 _ _ (X2 _ _ hC)) a3 u3 (by show 1 ≤ sizeLine; rw [sizeLine_eq]; decide) fun h4 t4 ke4 a4 => ?_
  have nL : h.objs.size ≠ a := Nat.ne_of_gt (Heap.lt_size ha)
  have ke04 : ∀ b o, b ≠ a → h.get? b = some o → h4.get? b = some o := fun b o nb z => ke4 b o nb (ke3 _ _ (ke2 _ _ (ke1 _ _ z)))
  have X4 : K.In h4 := fun b o z => ke04 b o (fun e => by
    rw [e, hnx] at z
    cases z) (X _ _ z)
  have ns4 : h4.Ns h.objs.size (fun y => ([("self", Value.ref a), (fld, v)] : List (Str × Value)).reverse.lookup y) := by
    obtain ⟨o, es, ep, z1, z2⟩ := ns1
    exact ⟨o, es, ep, ke4 _ _ nL (ke3 _ _ (ke2 _ _ z1)), z2⟩
  refine wpAt_of_wpAny (wpAny_execs_cons (plainObj_wpAny_Assign_Attribute ?_ (hsw2 _ _ _)))
  refine wpAny_Name (wpAny_loadName_local sk l2 ns4 nsB ?_) l7
  refine wpAny_Name (wpAny_loadName_local sk l1 ns4 nsA ?_) (by decide)
  refine set_plain X4 (ox := excO C t4) (od := none) ⟨a4, rfl, rfl, trivial⟩ T.sa ?_
  refine exc_osa X4 a4 hcl (show refsVE (.ref C :: bm) = true from hbm) rfl T.no (fun h5 tk5 dx ke5 dn dne x5 n5 => ?_)
  refine wpAny_execs_nil (fin h5 tk5 dx ⟨fun b o nb z => ke5 b o nb (ke04 b o nb z), ⟨t4, x5⟩, Nat.le_of_lt (Nat.lt_of_lt_of_le ns4.lt dn), dne, n5⟩)
/-- a made one -/
structure XMade (h h' : Heap) (e C d : Addr) (fld : Str) (v : Value) : Prop where
  keep : ∀ b o, h.get? b = some o → h'.get? b = some o
  new : h.objs.size ≤ e
  obj : ∃ oe vs, h'.get? e = some oe ∧ oe.cls = .ref C ∧ oe.dict = some d ∧ oe.data = .fields vs ∧ vs[1]? = some .none
  dbig : h.objs.size ≤ d
  dne : d ≠ e
  ns : h'.Ns1 d (fun y => if y = fld then some v else none)
theorem xmade (T : ExcT prog K mg x fld C fI) {h : Heap} {g : Array GenState} {d : Drawn} {t : Nat} {os : OsState} {v : Value} (X : K.In h) (hlim : h.NoLimit) (G : Grd mg h) (hroom : A.depth + 1 < recursionLimit)
    (fin : ∀ h' tk e d', XMade h h' e C d' fld v → R (.ok (.ret (.ref e))) ⟨h', g, d, tk, os⟩) : codeAny (model prog w) A (.call (.ref C) ⟨[v], []⟩) R ⟨h, g, d, t, os⟩ := by
  obtain ⟨nm, q, N, bs, bm, sn, sub, ab, col, dd, k0, k1, k2, k3, k5, hC, hbm⟩ := T.cls
  let H2 : Heap := (h.push (kdv_tup [v])).push (excO C h.objs.size)
  have kp : ∀ b o, h.get? b = some o → H2.get? b = some o := fun b o z => Heap.get?_push_of_some _ (Heap.get?_push_of_some _ z)
  have at2 : H2.get? (h.objs.size + 1) = some (excO C h.objs.size) := by show ((h.push (kdv_tup [v])).push (excO C h.objs.size)).get? _ = _; heap_get
  have lt2 : ∀ {b : Addr} {o : Obj}, h.get? b = some o → b ≠ h.objs.size + 1 := fun z => Nat.ne_of_lt (Nat.lt_succ_of_lt (Heap.lt_size z))
  have nK : K.lookup (h.objs.size + 1) = none := by
    cases z : K.lookup (h.objs.size + 1) with
    | none => rfl
    | some o => exact absurd rfl (lt2 (X _ _ z))
  refine call_own PySem.F.excBase_ValueError (fun Y => refsVE_contains Y bm hbm) (X _ _ hC) (looks_findIn X T.iC) (fun self => bind_fn X self T.tI) (by show 1 ≤ sizeLine; rw [sizeLine_eq]; decide) ?_
  refine xinit (h := H2) T (X.keeps kp) (hlim.keeps kp) ⟨G.1.keeps kp, let ⟨mb, z1, z2⟩ := G.2; ⟨mb, z1.keeps kp, z2⟩⟩ at2 (lt2 (X _ _ hC)).symm nK (show A.depth + 1 < recursionLimit from hroom) fun h' tk dx E => ?_
  have big : h.objs.size ≤ H2.objs.size := by show h.objs.size ≤ ((h.push _).push _).objs.size; rw [Heap.size_push, Heap.size_push]; omega
  obtain ⟨t1, eo⟩ := E.obj
  exact ⟨rfl, fin h' tk (h.objs.size + 1) dx ⟨fun b o z => E.keep b o (lt2 z) (kp b o z), Nat.le_succ _, ⟨_, _, eo, rfl, rfl, rfl, rfl⟩, Nat.le_trans big E.dbig, E.dne, E.ns⟩⟩
end
end Gt
/-! Gt19: defs that raise, with mirrors; try. -/
namespace Gt
open PySem PySem.Spec PyProof.Rows L2 PySem.HandSPX
/-- the same, but what it raises does not matter -/
def calm {α : Type} (m : M α) : M α := match m with
  | .ok a => .ok a
  | .error _ => .error .stuck
theorem calm_ok {α : Type} {m : M α} {a : α} (h : calm m = .ok a) : m = .ok a := by cases m with
  | ok b => exact h
  | error e => cases h
theorem calm_of {α : Type} {m : M α} {a : α} (h : m = .ok a) : calm m = .ok a := by rw [h]; rfl
def NStk {α : Type} (o : M α) : Prop := o ≠ .error .stuck
theorem mbx_ok {α β : Type} {a : α} {f : α → M β} {o : M β} (h : mb (.ok a) f = o) : ∃ b, a = b ∧ f b = o := ⟨a, rfl, h⟩
theorem mbx_chk {β : Type} {c : Bool} {f : Unit → M β} {o : M β} (h : mb (chk c) f = o) (n : NStk o) : c = true ∧ f () = o := by
  cases c with
  | false => exact absurd h.symm n
  | true => exact ⟨rfl, h⟩
theorem mbx_oM {α β : Type} {m : Option α} {f : α → M β} {o : M β} (h : mb (oM m) f = o) (n : NStk o) : ∃ a, m = some a ∧ f a = o := by
  cases m with
  | none => exact absurd h.symm n
  | some a => exact ⟨a, rfl, h⟩
theorem mbx_calm {α β : Type} {m : M α} {f : α → M β} {o : M β} (h : mb (calm m) f = o) (n : NStk o) : ∃ a, m = .ok a ∧ f a = o := by
  cases m with
  | ok a => exact ⟨a, rfl, h⟩
  | error e => exact absurd h.symm n
theorem mbx_to {α β : Type} {m : M α} {f : α → M β} {o : M β} {a : α} (h : mb m f = o) (e : m = .ok a) : f a = o := by rw [e] at h; exact h
theorem mbx_er {α β : Type} {m : M α} {f : α → M β} {o : M β} {e : Er} (h : mb m f = o) (q : m = .error e) : o = .error e := by rw [q] at h; exact h.symm
theorem nstk_in {α β : Type} {m : M α} {f : α → M β} {o : M β} (h : mb m f = o) (n : NStk o) : NStk m := fun e => n (mbx_er h e)
section
variable {K : PySem.W.Frag} {H0 H1 H H' : Hp} {σ : L2.St} {G G' G2 Gx : Cells K} {α β γ S T ρ : Type}
variable {D : Ends} {t u tb : TS} {wi : TI} {g : TG} {te ta tb' : TE} {tt tu : TT} {r : Rp α} {q : Rp β} {R : Rs K ρ} {a b c d : Bool}
/-! ### what is raised -/
def rPay (K : PySem.W.Frag) : Rp Pay := fun H v p => match p with
  | .s o => rO rS H v o
  | .i n => rI H v n
  | .r x => rRu K H v x
instance : Frz K (rPay K) := ⟨fun {H H' v b} e h => match b, h with
  | .s o, h => Frz.up (K := K) (r := rO rS) e h
  | .i n, h => Frz.up (K := K) (r := rI) e h
  | .r x, h => Frz.up (K := K) (r := rRu K) e h⟩
instance : Mono (rPay K) := ⟨fun e h => Frz.up (K := K) (ext_same e) h⟩
abbrev Fv (K : PySem.W.Frag) (H : Hp) (x : Str × V) (y : Str × Pay) : Prop := x.1 = y.1 ∧ rPay K H x.2 y.2
/-- at d: the own dict of an exception with these fields -/
def XR (K : PySem.W.Frag) (H : Hp) (d : Addr) (fs : List (Str × Pay)) : Prop := ∃ vs, H d = some (.xd vs) ∧ A2 (Fv K H) vs fs
theorem XR.up {d : Addr} {fs : List (Str × Pay)} (h : XR K H d fs) (e : Same H H') : XR K H' d fs := let ⟨vs, h1, h2⟩ := h; ⟨vs, e _ _ h1, h2.imp fun _ _ z => ⟨z.1, Mono.up e z.2⟩⟩
theorem xr_get {fs : List (Str × Pay)} {vs : List (Str × V)} {f : Str} {p : Pay} (z : A2 (Fv K H) vs fs) (h : fs.lookup f = some p) : ∃ v, vs.lookup f = some v ∧ rPay K H v p := by
  induction z with
  | nil => cases h
  | @cons a b as bs h1 h2 ih =>
    obtain ⟨a1, a2⟩ := a
    obtain ⟨b1, b2⟩ := b
    obtain ⟨e1, e2⟩ := h1
    have e1 : a1 = b1 := e1
    subst e1
    rw [List.lookup_cons] at h ⊢
    cases q : f == a1 with
    | true =>
      rw [q] at h
      cases h
      exact ⟨a2, rfl, e2⟩
    | false =>
      rw [q] at h
      exact ih h
/-- what is wished of an exception that leaves -/
def XOk (K : PySem.W.Frag) (H0 : Hp) (E : XK) : Er → Prop
  | .stuck => False
  | .ex x fs => ∀ d H', Same H0 H' → H0 d = none → XR K H' d fs → E (.ref (cA K x)) (some d) H'
theorem XOk.up {E : XK} {e : Er} (h : XOk K H0 E e) (s : Same H0 H1) : XOk K H1 E e := match e, h with
  | .ex _ _, h => fun d H' s' n z => h d H' (s.trans s') (s.free n) z
theorem nstk_of {o : M α} {E : XK} (h : ∀ e, o = .error e → XOk K H0 E e) : NStk o := fun e => h _ e
/-- a def that may raise -/
def spX (A : Ra α) (q : Rp β) (m : α → M β) : Sp := fun vs H Q E => ∃ a, A H vs a ∧ NStk (m a) ∧ (∀ b, m a = .ok b → ∀ v H', Same H H' → q H' v b → Q v H') ∧
  ∀ x fs, m a = .error (.ex x fs) → ∀ d H', Same H H' → H d = none → XR K H' d fs → E (.ref (cA K x)) (some d) H'
def spXN (A : Ra α) (R : Rs K β) (m : α → M β) : Sp := fun vs H Q E => ∃ a, A H vs a ∧ NStk (m a) ∧ (∀ b, m a = .ok b → ∀ v H' as, Same H H' → (∀ p, p ∈ as → H p = none) → R.rep H' v b as → Q v H') ∧
  ∀ x fs, m a = .error (.ex x fs) → ∀ d H', Same H H' → H d = none → XR K H' d fs → E (.ref (cA K x)) (some d) H'
theorem nstk_ok {m : M α} {a : α} (h : m = .ok a) : NStk m := fun z => by rw [h] at z; cases z
theorem a_callX {A : Ra γ} {g : γ} {m : γ → M β} {b : β} {E' : XK} {t : TA} (h : EvA A t G g) (e : MOk m g b) : Ev q (tCall (spX (K := K) A q m) [] E' t) G b := fun H0 σ H E Q k =>
  h H0 σ H E _ fun vs H1 e1 z1 => by
    rw [List.append_nil]
    exact ⟨g, z1, nstk_ok e, fun c hc v H2 e2 z2 => k v H2 (e1.trans e2) (by rw [show m g = .ok b from e] at hc; cases hc; exact z2), fun x fs z => by rw [show m g = .ok b from e] at z; cases z⟩
theorem a_ncallX {A : Ra γ} {g : γ} {m : γ → M ρ} {b : ρ} {E' : XK} {t : TA} (h : EvA A t G g) (e : MOk m g b) : Nw R (tCall (spXN A R m) [] E' t) G b := fun H0 σ H E Q k =>
  h H0 σ H E _ fun vs H1 e1 z1 => by
    rw [List.append_nil]
    exact ⟨g, z1, nstk_ok e, fun c hc v H2 as e2 hn z2 => k v H2 as (e1.trans e2) (fun p hp => free_back e1 (hn p hp)) (by rw [show m g = .ok b from e] at hc; cases hc; exact z2), fun x fs z => by rw [show m g = .ok b from e] at z; cases z⟩
/-! ### calls that may raise, as statements; W tells what is wished at the slots -/
def WOk (H0 : Hp) (G : Cells K) (W : WX) (o : M α) : Prop := NStk o ∧ ∀ x fs, o = .error (.ex x fs) → ∀ σ H H', Have H0 G σ H → Same H H' → ∀ d, H d = none → XR K H' d fs → W (.ref (cA K x)) (some d) σ H'
theorem wok_E {E : XK} {o : M α} (h : ∀ e, o = .error e → XOk K H0 E e) : WOk H0 G (fun cls d _ H => E cls d H) o := ⟨nstk_of h, fun x fs e σ H H' ⟨H1, s, E1⟩ s' d n z => h _ e d H' ((s.trans E1.old).trans s') ((s.trans E1.old).free n) z⟩
theorem l_asgX {i : Nat} {W : WX} {A : Ra γ} {g : γ} {m : γ → M β} {t : TA} {o : M β} (h : EvA A t G g) (e : m g = o) (w : WOk H0 G W o) (k : ∀ b, o = .ok b → Nx H0 (G.set i (fc q b)) D.nx) (F : Frz K q := by infer_instance) :
    Sv H0 G (tAsg (tCallS (spX (K := K) A q m) (WE W) t) (gName i)) D := fun σ H ⟨H1, e1, E⟩ =>
  h H1 σ H E _ fun vs H2 e2 z => ⟨g, z, by rw [e]; exact w.1, fun b hb v H3 e3 hv => k b (e ▸ hb) _ _ ⟨H1, e1, (E.grow e2).put (R := fz K q) (as := []) e3 (fun _ z => nomatch z) ⟨rfl, stb hv⟩⟩,
    fun x fs he d H3 e3 hn hx => w.2 x fs (e ▸ he) σ H2 H3 ⟨H1, e1, E.grow e2⟩ e3 d hn hx⟩
theorem q_asgX {i : Nat} {W : WX} {A : Ra γ} {g : γ} {m : γ → M β} {t : TA} {o : M β} (h : EvA A t G g) (e : m g = o) (w : WOk H0 G W o) (k : ∀ b, o = .ok b → Sv H0 (G.set i (fc q b)) u D) (F : Frz K q := by infer_instance) :
    Sv H0 G (tSeq (tAsg (tCallS (spX (K := K) A q m) (WE W) t) (gName i)) u) D := l_asgX (D := { D with nx := u D }) h e w k
theorem l_asgXN {i : Nat} {W : WX} {A : Ra γ} {g : γ} {m : γ → M ρ} {t : TA} {o : M ρ} (h : EvA A t G g) (e : m g = o) (w : WOk H0 G W o) (k : ∀ b, o = .ok b → Nx H0 (G.set i (some (.ow R b))) D.nx) :
    Sv H0 G (tAsg (tCallS (spXN A R m) (WE W) t) (gName i)) D := fun σ H ⟨H1, e1, E⟩ =>
  h H1 σ H E _ fun vs H2 e2 z => ⟨g, z, by rw [e]; exact w.1, fun b hb v H3 as e3 hn hv => k b (e ▸ hb) _ _ ⟨H1, e1, (E.grow e2).put e3 hn hv⟩,
    fun x fs he d H3 e3 hn hx => w.2 x fs (e ▸ he) σ H2 H3 ⟨H1, e1, E.grow e2⟩ e3 d hn hx⟩
theorem q_asgXN {i : Nat} {W : WX} {A : Ra γ} {g : γ} {m : γ → M ρ} {t : TA} {o : M ρ} (h : EvA A t G g) (e : m g = o) (w : WOk H0 G W o) (k : ∀ b, o = .ok b → Sv H0 (G.set i (some (.ow R b))) u D) :
    Sv H0 G (tSeq (tAsg (tCallS (spXN A R m) (WE W) t) (gName i)) u) D := l_asgXN (D := { D with nx := u D }) h e w k
theorem l_dropX {W : WX} {A : Ra γ} {g : γ} {m : γ → M β} {t : TA} {o : M β} (h : EvA A t G g) (e : m g = o) (w : WOk H0 G W o) (k : ∀ b, o = .ok b → Nx H0 G D.nx) :
    Sv H0 G (tDrop (tCallS (spX (K := K) A q m) (WE W) t)) D := fun σ H ⟨H1, e1, E⟩ =>
  h H1 σ H E _ fun vs H2 e2 z => ⟨g, z, by rw [e]; exact w.1, fun b hb v H3 e3 hv => k b (e ▸ hb) _ _ ⟨H1, e1, (E.grow e2).grow e3⟩,
    fun x fs he d H3 e3 hn hx => w.2 x fs (e ▸ he) σ H2 H3 ⟨H1, e1, E.grow e2⟩ e3 d hn hx⟩
theorem q_dropX {W : WX} {A : Ra γ} {g : γ} {m : γ → M β} {t : TA} {o : M β} (h : EvA A t G g) (e : m g = o) (w : WOk H0 G W o) (k : ∀ b, o = .ok b → Sv H0 G u D) :
    Sv H0 G (tSeq (tDrop (tCallS (spX (K := K) A q m) (WE W) t)) u) D := l_dropX (D := { D with nx := u D }) h e w k
theorem r_retX {W : WX} {A : Ra γ} {g : γ} {m : γ → M β} {t : TA} {o : M β} (h : EvA A t G g) (e : m g = o) (w : WOk H0 G W o) (hD : ∀ b, o = .ok b → RtOk (fz K q) H0 b D) (F : Frz K q := by infer_instance) :
    Sv H0 G (tRet (tCallS (spX (K := K) A q m) (WE W) t)) D := fun σ H ⟨H1, e1, E⟩ =>
  h H1 σ H E _ fun vs H2 e2 z => ⟨g, z, by rw [e]; exact w.1, fun b hb v H3 e3 hv => hD b (e ▸ hb) v H3 ⟨[], ((e1.trans E.old).trans e2).trans e3, (fun p hp => nomatch hp), ⟨rfl, stb hv⟩⟩,
    fun x fs he d H3 e3 hn hx => w.2 x fs (e ▸ he) σ H2 H3 ⟨H1, e1, E.grow e2⟩ e3 d hn hx⟩
/-! ### raise -/
def tMkX (C : Addr) (f : Str) (ta : TA) : L2.St → Hp → XK → Prop := fun σ H Q => ta σ H fun vs H1 => ∃ v, vs = [v] ∧ ∀ d, H1 d = none → Q (.ref C) (some d) (upd H1 d (.xd [(f, v)]))
theorem l_raise {x f : Str} {p : Pay} {tv : TE} {W : WX} (h : Ev (rPay K) tv G p) (w : ∀ σ H H', Have H0 G σ H → Same H H' → ∀ d, H d = none → XR K H' d [(f, p)] → W (.ref (cA K x)) (some d) σ H') :
    Sv H0 G (fun _ σ H => tMkX (cA K x) f (tCons tv tNil) σ H fun cls d H' => W cls d σ H') D := fun σ H ⟨H1, e1, E⟩ =>
  h H1 σ H E _ fun v H2 e2 z => ⟨v, rfl, fun d hd => w σ H2 _ ⟨H1, e1, E.grow e2⟩ (same_new hd) d hd ⟨_, upd_same, .one ⟨rfl, Mono.up (same_new hd) z⟩⟩⟩
theorem q_raise {x f : Str} {p : Pay} {tv : TE} {W : WX} (h : Ev (rPay K) tv G p) (w : ∀ σ H H', Have H0 G σ H → Same H H' → ∀ d, H d = none → XR K H' d [(f, p)] → W (.ref (cA K x)) (some d) σ H') :
    Sv H0 G (tSeq (fun _ σ H => tMkX (cA K x) f (tCons tv tNil) σ H fun cls d H' => W cls d σ H') u) D := l_raise (D := { D with nx := u D }) h w
theorem w_of {E : XK} {x : Str} {fs : List (Str × Pay)} (h : XOk K H0 E (.ex x fs)) : ∀ σ H H', Have H0 G σ H → Same H H' → ∀ d, H d = none → XR K H' d fs → (fun cls d (_ : L2.St) H => E cls d H) (.ref (cA K x)) (some d) σ H' := fun σ H H' ⟨H1, s, E1⟩ s' d n z => h d H' ((s.trans E1.old).trans s') ((s.trans E1.old).free n) z
theorem ev_pS {s : Str} (h : Ev rS te G s) : Ev (rPay K) te G (.s (some s)) := h.imp fun _ _ z => z
theorem ev_pO {s : Option Str} (h : Ev (rO rS) te G s) : Ev (rPay K) te G (.s s) := h.imp fun _ _ z => z
theorem ev_pI {n : Int} (h : Ev rI te G n) : Ev (rPay K) te G (.i n) := h.imp fun _ _ z => z
theorem ev_pR {x : Rule} (h : Ev (rRu K) te G x) : Ev (rPay K) te G (.r x) := h.imp fun _ _ z => z
/-! ### loops -/
theorem l_forX {f : S → α → M S} {xs : List α} {s0 : S} {o : M S} {E : XK} (st : S → Cells K) (hm : mfor f s0 xs = o) (hw : Wk wi r G G' xs) (h0 : Sub G' (st s0))
    (hn : ∀ s, o = .ok s → Nx H0 (st s) D.nx) (hX : ∀ e, o = .error e → XOk K H0 E e)
    (body : ∀ H0' D', Same H0 H0' → ∀ x s o', f s x = o' → (∀ s', o' = .ok s' → Nx H0' (st s') D'.nx) → (∀ e, o' = .error e → XOk K H0' E e) → ∃ Gx, Tg g r x (st s) Gx ∧ Sv H0' Gx tb D') : Sv H0 G (tFor wi g tb) D :=
  l_forI st (fun pre s => ∀ ys, xs = pre ++ ys → mfor f s ys = o) s0 hw h0 (fun ys e => by rw [e] at hm; exact hm) (fun H0' e pre x post s hx hI => by
    have h1 : mb (f s x) (fun s' => mfor f s' post) = o := hI _ hx
    refine body H0' _ e x s (f s x) rfl (fun s' es => fun σ H hv => ⟨s', fun ys ey => ?_, hv⟩) fun er ee => (hX er (mbx_er h1 ee)).up e
    have key : ys = post := by
      have e3 := hx.symm.trans ey
      rw [List.append_assoc] at e3
      have := List.append_cancel_left e3
      injection this with _ this
      exact this.symm
    rw [key]
    have q := mbx_to h1 es
    exact q) fun s hs => hn s (by
      have := hs [] (by rw [List.append_nil])
      exact this.symm)
theorem q_forX {f : S → α → M S} {xs : List α} {s0 : S} {o : M S} {E : XK} (st : S → Cells K) (hm : mfor f s0 xs = o) (hw : Wk wi r G G' xs) (h0 : Sub G' (st s0))
    (hn : ∀ s, o = .ok s → Sv H0 (st s) u D) (hX : ∀ e, o = .error e → XOk K H0 E e)
    (body : ∀ H0' D', Same H0 H0' → ∀ x s o', f s x = o' → (∀ s', o' = .ok s' → Nx H0' (st s') D'.nx) → (∀ e, o' = .error e → XOk K H0' E e) → ∃ Gx, Tg g r x (st s) Gx ∧ Sv H0' Gx tb D') : Sv H0 G (tSeq (tFor wi g tb) u) D := l_forX (D := { D with nx := u D }) st hm hw h0 hn hX body
/-! ### try -/
theorem Have.unset {i : Nat} (h : Have H0 G σ H) : Have H0 (G.set i none) (σ.set i none) H := by
  obtain ⟨H1, e, E⟩ := h
  obtain ⟨own, h1, h2, h3⟩ := E.at_
  refine ⟨H1, e, E.old, by rw [List.length_set, List.length_set]; exact E.len, own, h1, h2, fun j c hc => ?_⟩
  by_cases hj : i = j
  · subst hj
    by_cases hl : i < G.length
    · rw [List.getElem?_set_self hl] at hc; cases hc
    · rw [List.getElem?_eq_none (by rw [List.length_set]; omega)] at hc; cases hc
  · rw [List.getElem?_set_ne hj] at hc
    obtain ⟨v, hv, hk⟩ := h3 j c hc
    exact ⟨v, by rw [List.getElem?_set_ne hj]; exact hv, hk⟩
/-- the caught exception, at a, its own dict d -/
def rExc (K : PySem.W.Frag) (a d : Addr) : Rp (List (Str × Pay)) := fun H v fs => v = .ref a ∧ XR K H d fs
instance {a d : Addr} : Mono (rExc K a d) := ⟨fun e h => ⟨h.1, h.2.up e⟩⟩
theorem Env.setro {i : Nat} {v : V} {b : β} {r : Rp β} [m : Mono r] (E : Env H1 σ H G) (h : r H1 v b) : Env H1 (σ.set i (some v)) H (G.set i (rc r b)) := by
  obtain ⟨own, h1, h2, h3⟩ := E.at_
  refine ⟨E.old, by rw [List.length_set, List.length_set]; exact E.len, fun j => if j = i then [] else own j, fun j p hp => ?_, fun j k p hj hk => ?_, fun j c hc => ?_⟩
  · by_cases hj : j = i
    · simp only [hj, if_true] at hp; cases hp
    · simp only [hj, if_false] at hp; exact h1 j p hp
  · by_cases hji : j = i
    · simp only [hji, if_true] at hj; cases hj
    · by_cases hki : k = i
      · simp only [hki, if_true] at hk; cases hk
      · simp only [hji, hki, if_false] at hj hk; exact h2 j k p hj hk
  · by_cases hj : i = j
    · subst hj
      have hl : i < G.length := by have := (List.getElem?_eq_some_iff.mp hc).1; rw [List.length_set] at this; exact this
      rw [List.getElem?_set_self hl] at hc
      cases hc
      exact ⟨v, List.getElem?_set_self (by rw [E.len]; exact hl), by simp, h⟩
    · rw [List.getElem?_set_ne hj] at hc
      obtain ⟨w, hw, hk⟩ := h3 j c hc
      refine ⟨w, by rw [List.getElem?_set_ne hj]; exact hw, ?_⟩
      have : ¬ j = i := fun e => hj e.symm
      simp only [this, if_false]
      exact hk
/-- the clause's suite: the exception stands in slot i, its fields are told -/
theorem catch_in {i : Nat} {a d : Addr} {fs : List (Str × Pay)} (h : Have H0 G σ H) (s : Same H H') (n : H d = none) (z : XR K H' d fs) :
    ∃ H2, Same H0 H2 ∧ Have H2 (G.set i (rc (rExc K a d) fs)) (σ.set i (some (.ref a))) H' := by
  obtain ⟨H1, e, E⟩ := h
  obtain ⟨H2, s1, s2, xt, E2, ho⟩ := E.rebase s
  obtain ⟨vs, hd, hz⟩ := z
  exact ⟨H2, e.trans s1, H2, Same.refl _, E2.setro (r := rExc K a d) ⟨rfl, vs, ho _ _ n hd, hz.imp fun _ _ w => ⟨w.1, Frz.up xt w.2⟩⟩⟩
/-- what the suite ends in, behind which its name goes -/
abbrev exEnds (i : Nat) (D : Ends) : Ends := { nx := fun σ' H' => D.nx (σ'.set i none) H', rt := D.rt, bk := fun σ' H' => D.bk (σ'.set i none) H', ct := fun σ' H' => D.ct (σ'.set i none) H' }
theorem nx_exEnds {i : Nat} (h : Nx H0 (G.set i none) D.nx) : Nx H0 G (exEnds i D).nx := fun σ H z => h _ H z.unset
/-- try: x = f(..) except C as e: suite; the suite for an exception of the class x alone -/
theorem wok_try {i : Nat} {x : Str} {c : Value} {ts : Addr → Value → Option Addr → TS} {Wout : WX} {o : M α} (n : NStk o) (cl : ∀ y fs, o = .error (.ex y fs) → PySem.W.exmOne K (.ref (cA K y)) c = some true)
    (k : ∀ y fs, o = .error (.ex y fs) → ∀ H2 a d, Same H0 H2 → Sv H2 (G.set i (rc (rExc K a d) fs)) (ts a (.ref (cA K y)) (some d)) (exEnds i D)) : WOk H0 G (wAs K c i ts Wout D) o := by
  refine ⟨n, fun y fs e σ H H' hv s d nd z => ⟨true, cl y fs e, fun _ a _ => ?_, fun q => nomatch q⟩⟩
  obtain ⟨H2, s2, hv2⟩ := catch_in (i := i) (a := a) hv s nd z
  exact k y fs e H2 a d s2 _ _ hv2
/-- e.f -/
def payS (fs : List (Str × Pay)) (f : Str) : Option Str := match fs.lookup f with
  | some (.s (some s)) => some s
  | _ => none
def payO (fs : List (Str × Pay)) (f : Str) : Option (Option Str) := match fs.lookup f with
  | some (.s s) => some s
  | _ => none
def payI (fs : List (Str × Pay)) (f : Str) : Option Int := match fs.lookup f with
  | some (.i n) => some n
  | _ => none
theorem a_xf {i : Nat} {a d C : Addr} {m : Mono (rExc K a d)} {fs : List (Str × Pay)} {f : Str} {p : Pay} (h : G[i]? = some (some (.ro (rExc K a d) m fs))) (hf : fs.lookup f = some p) : Ev (rPay K) (tXf a (.ref C) (some d) C f (tVar i)) G p := fun H0 σ H E Q k => by
  obtain ⟨own, _, _, h3⟩ := E.at_
  obtain ⟨v, hv, _, ev, vs, hd, z⟩ := h3 i _ h
  subst ev
  obtain ⟨w, hw, hp⟩ := xr_get z hf
  exact ⟨_, hv, rfl, rfl, d, vs, w, rfl, E.old _ _ hd, hw, k w H (Same.refl H) (Mono.up E.old hp)⟩
def PayS (fs : List (Str × Pay)) (f : Str) (s : Str) : Prop := payS fs f = some s
def PayO (fs : List (Str × Pay)) (f : Str) (s : Option Str) : Prop := payO fs f = some s
def PayI (fs : List (Str × Pay)) (f : Str) (s : Int) : Prop := payI fs f = some s
theorem a_xfS {i : Nat} {a d C : Addr} {m : Mono (rExc K a d)} {fs : List (Str × Pay)} {f s : Str} (h : G[i]? = some (some (.ro (rExc K a d) m fs))) (hf : PayS fs f s) : Ev rS (tXf a (.ref C) (some d) C f (tVar i)) G s := by
  unfold PayS payS at hf
  split at hf
  · rename_i t e
    cases hf
    exact (a_xf h e).imp fun _ _ z => z
  · cases hf
theorem a_xfO {i : Nat} {a d C : Addr} {m : Mono (rExc K a d)} {fs : List (Str × Pay)} {f : Str} {s : Option Str} (h : G[i]? = some (some (.ro (rExc K a d) m fs))) (hf : PayO fs f s) : Ev (rO rS) (tXf a (.ref C) (some d) C f (tVar i)) G s := by
  unfold PayO payO at hf
  split at hf
  · rename_i t e
    cases hf
    exact (a_xf h e).imp fun _ _ z => z
  · cases hf
theorem a_xfI {i : Nat} {a d C : Addr} {m : Mono (rExc K a d)} {fs : List (Str × Pay)} {f : Str} {s : Int} (h : G[i]? = some (some (.ro (rExc K a d) m fs))) (hf : PayI fs f s) : Ev rI (tXf a (.ref C) (some d) C f (tVar i)) G s := by
  unfold PayI payI at hf
  split at hf
  · rename_i t e
    cases hf
    exact (a_xf h e).imp fun _ _ z => z
  · cases hf
end
/-! ### the rules of raise and of calls, by short names -/
section
variable {X : Cx} {x : Str} {k : Nat} {ps : List Str} {sp : Sp} {p pos : Pos} {e : Expr} {es : List Expr} {ta : TA} {W : WX}
/-- the exception classes, by name -/
structure ExcK (prog : Program) (K : PySem.W.Frag) (mg : Str → Option Value) (x fld : Str) : Prop where
  ex : ∃ fI, ExcT prog K mg x fld (cA K x) fI
theorem pmk_ex {fld : Str} (T : ExcK X.prog X.K X.mg x fld) (hr : Room k X.A) (ha : PA X [e] ta) (hg : Gl X x := by rfl) (hdb : (x == ("__debug__" : Str)) = false := by decide)
    (he : starEach (e :: []) X.env = (false, eval e X.env) :: starEach [] X.env := by rfl) (hpl : (backTo pos (starEach [] X.env)).any (·.1) = false := by rfl) : PMk X (.Call (.Name x p) [e] [] pos) (tMkX (cA X.K x) fld ta) := by
  obtain ⟨fI, T⟩ := T.ex
  intro pins s σ H Q I h
  refine wpAny_Call_Name_kw (ld_glob I hg T.gC ?_ hdb)
  refine PySem.W.callWith_K (h₀ := X.base) I.ok.mod.kin T.kC (thn (ha.run pos pins s σ H _ I h) fun us s1 hh => ?_) he hpl
  obtain ⟨vs, H1, I1, r1, v, ev, q1⟩ := hh
  subst ev
  refine ⟨I1.kIn, ?_⟩
  obtain ⟨u, rfl, rv⟩ := r1.one
  show wpAny _ _ (call (.ref (cA X.K x)) [u]) _ _ _
  have hlim := I1.nolimit
  have G1 : Grd X.mg s1.heap := ⟨I1.ok.mod.glob.keeps I1.bk, let ⟨mb, z1, z2⟩ := I1.ok.mod.blt; ⟨mb, z1.keeps I1.bk, z2⟩⟩
  obtain ⟨hp, g, d, t, os⟩ := s1
  refine wpAny_call (xmade T I1.kIn hlim G1 (by have := hr.dp; omega) fun h' tk' e d' M => ?_)
  show MkP X pins σ Q (.ref e) ⟨h', g, d, tk', os⟩
  obtain ⟨oe, fv, hoe, hc, hd, hdat, h1⟩ := M.obj
  obtain ⟨G', g1, g2⟩ := restrict h' fun b => decide (b ≠ e)
  have gk : ∀ b, b ≠ e → G'.get? b = h'.get? b := fun b hb => g1 b (decide_eq_true hb)
  have ge : G'.get? e = none := g2 e (by simp)
  have ne_ : ∀ {b : Addr} {o : Obj}, hp.get? b = some o → b ≠ e := fun q => Nat.ne_of_lt (Nat.lt_of_lt_of_le (Heap.lt_size q) M.new)
  have old : ∀ b o, hp.get? b = some o → G'.get? b = some o := fun b o q => (gk b (ne_ q)).trans (M.keep b o q)
  have ob : ObjOk X.prog X.w (upd H1 d' (.xd [(fld, v)])) G' d' (.xd [(fld, v)]) := ⟨_, M.ns.at (fun o q => (gk d' M.dne).trans q), fun f => by
    by_cases hw : f = fld
    · subst hw
      rw [if_pos rfl, List.lookup_cons, beq_self_eq_true]
      exact rv
    · rw [if_neg hw, List.lookup_cons, show (f == fld) = false from by simpa using hw]
      trivial⟩
  have J : L2.Inv X pins σ (upd H1 d' (.xd [(fld, v)])) ⟨G', g, d, tk', os⟩ := I1.laid (t' := tk') old M.dbig ob
  refine ⟨e, oe, fv, ⟨G', g, d, tk', os⟩, _, .ref (cA X.K x), some d', rfl, J, fun b o q => ?_, ge, hoe, ⟨hc, hd⟩, hdat, h1, ?_, rfl, I1.bare, raises_own T.exC T.tyC, q1 d' (I1.hok.fresh M.dbig)⟩
  · by_cases hb : b = e
    · have q' : G'.get? b = some o := q
      rw [hb, ge] at q'
      cases q'
    · exact (gk b hb).symm.trans q
  · rw [upd_ne (Ne.symm M.dne)]
    exact I1.hok.fresh M.new
theorem pe_fnS (C : Cal X.prog X.w X.K X.mg X.base (L2.CX X.prog X.w) x k ps sp) (hr : Room k X.A) (tk : Takes X W) (ha : PA X (e :: es) ta) (hg : Gl X x := by rfl) (hdb : (x == ("__debug__" : Str)) = false := by decide)
    (he : starEach (e :: es) X.env = (false, eval e X.env) :: starEach es X.env := by rfl) (hpl : (backTo pos (starEach es X.env)).any (·.1) = false := by rfl) : PE X (.Call (.Name x p) (e :: es) [] pos) (tCallS sp (WE W) ta) := by
  obtain ⟨f, fd, F, m, kp, b⟩ := C.ex
  exact pe_callS F hr hg m kp b (fun σ => passAt tk σ) ha hdb he hpl
/-- in a def that lets nothing out -/
theorem pe_fnX (C : Cal X.prog X.w X.K X.mg X.base (L2.CX X.prog X.w) x k ps sp) (hr : Room k X.A) (ha : PA X (e :: es) ta) (hg : Gl X x := by rfl) (hdb : (x == ("__debug__" : Str)) = false := by decide)
    (he : starEach (e :: es) X.env = (false, eval e X.env) :: starEach es X.env := by rfl) (hpl : (backTo pos (starEach es X.env)).any (·.1) = false := by rfl) : PE X (.Call (.Name x p) (e :: es) [] pos) (tCall sp [] E0 ta) := by
  obtain ⟨f, fd, F, m, kp, b⟩ := C.ex
  exact pe_call F hr hg m kp b .nil passL ha hdb he hpl
end
section
variable {P : Program} {w : World} {K : PySem.W.Frag} {mg : Str → Option Value} {base : Heap}
/-- a def that may raise -/
theorem calX_of {x : Str} {st : Stmt} {N ps : List Str} {k : Nat} {sp : Sp} (F : Df K mg x st) (S : FnScope N ps (defScope st)) (len : ∀ vs H Q E, sp vs H Q E → vs.length = ps.length)
    (hb : ∀ (kV doc pm : Value) (an : Option Addr) (cdv ct : Value) (us : List Value), us.length = ps.length → bindArgs (PySem.W.fnOf x x (defArgs st) (defBody st) (defScope st) .none kV doc pm an cdv ct) ⟨us, []⟩ = pure (ps.zip us))
    (hbody : ∀ (cdv : Value) (f : Addr) (A : Around) (outer : List PySem.Env) (s : Shared) (H : Hp) (vs : List V) (Q : VK) (E : XK), Room k (A.deeper (envOfC x (defScope st) s.heap.objs.size f cdv)) → sp vs H Q E →
      ∃ t, PSs (cxOf (L2.CX P w) P w K mg base N x (defScope st) f cdv A outer s H E) (defBody st) t ∧ t { nx := fun _ H' => Q .non H', rt := Q } (start N vs) H) : Cal P w K mg base (L2.CX P w) x (k + 1) ps sp := by
  obtain ⟨f, fd, F, g⟩ := F.ex
  exact ⟨f, fd, F.okX S len (fun cdv A outer s H vs Q E hr h => hbody cdv f A outer s H vs Q E hr h), g, F.kp, F.binds hb⟩
end
end Gt
/-! Gt20: try with mirrors, isinstance of a caught own exception. -/
namespace PySem.W
open PySem PySem.Spec PySem.Calls PyProof.Rows
section
variable {prog : Program} {w : World} {A : Around} {E : Value → Shared → Prop} {s : Shared} {K : Frag} {x D : Addr} {ox : Obj} {od : Option Obj}
theorem gx_find {C : Addr} {n : Str} {a g : Value} (h1 : (clsIn K C).isSome = true) (h2 : findIn K (.ref C) n = some (some a)) (h3 : specialIn K a "__get__" = some (some g)) (h4 : takesIn K a = some true) : findObj K C od n = some (.bind g a) := by
  obtain ⟨cd, q⟩ := Option.isSome_iff_exists.mp h1
  unfold findObj; rw [q, Option.bind_some, h2, Option.bind_some]; simp [h3, h4]
theorem gx_class {Q : Option Value → Shared → Prop} (h1 : findIn K (.ref D) "__getattribute__" = some (some (.builtin "BaseException.__getattribute__"))) (h2 : findIn K (.ref D) "__getattr__" = some none) (h3 : subIn K (.ref D) (.type "BaseException") = some true)
    (h4 : hasDictIn K D = true) (h5 : findIn K (.ref D) "__class__" = some (some (.builtin "object.__class__"))) (h6 : specialIn K (.builtin "object.__class__") "__get__" = some (some (.builtin "getset_descriptor.__get__")))
    (h7 : takesIn K (.builtin "object.__class__") = some true) (h8 : mroIn K D (.type "object") = some true) (X : K.In s.heap) (I : InstAt s.heap x ox D od) (fin : Q (some (.ref D)) { s with toks := s.toks + 1 }) : wpAny (model prog w) A (getAttr? (.ref x) "__class__") Q E s := by
  have fo : findObj K D od "__class__" = some (.bind (.builtin "getset_descriptor.__get__") (.builtin "object.__class__")) := gx_find (by obtain ⟨cd, hc, _⟩ := any_some h4; rw [hc]; rfl) h5 h6 h7
  obtain ⟨hp, g, d, t, os⟩ := s
  have Lt := I.type (M := model prog w); have La := looks_findIn (M := model prog w) X h1; have Lb := looks_findIn (M := model prog w) X h2; have Lc := looks_find (M := model prog w) X I fo
  have sb : Looks (model prog w) hp (isInstance (.ref x) (.type "BaseException")) true := Lt.andThen (looks_subIn X h3)
  have z2 : (Value.builtin "BaseException.__getattribute__" == Value.builtin "object.__getattribute__") = false := by decide +kernel
  have z1 : (onTheHeap (Value.ref D) && Value.builtin "BaseException.__getattribute__" == Value.builtin "object.__getattribute__") = false := by rw [z2]; rfl
  unfold getAttr? getAttrBy? getAttrBy; refine wpAny_bind (wpAny_mkText (wpAny_bind (wpAny_attempt (wpAny_holding (wpAny_bind (Lt.at (wpAny_bind (La.at ?_))))))))
  show wpAny _ _ (if (onTheHeap (Value.ref D) && Value.builtin "BaseException.__getattribute__" == Value.builtin "object.__getattribute__") = true then _ else _) _ _ _; rw [z1, if_neg Bool.false_ne_true]
  unfold getAttrByItsOwn hookBefore; refine wpAny_bind ?_; rw [if_pos (show onTheHeap (Value.ref D) = true from rfl)]
  refine Lb.at (wpAny_bind (wpAny_attempt (wpAny_holding ?_))); unfold callGetattribute; rw [show (false && onTheHeap (Value.builtin "BaseException.__getattribute__")) = false from rfl, if_neg Bool.false_ne_true]
  unfold boundAndCalled; rw [PySem.F.excAttr_ValueError.ga.bind (.ref x)]; refine wpAny_bind (wpAny_pure ?_); show wpAny _ _ (call (.builtin "BaseException.__getattribute__") [.ref x, .str "__class__" t]) _ _ _
  refine wpAny_call (codeAny_call_builtin PySem.F.excAttr_ValueError.ga.plain PySem.F.entry_bexc_ga (@check_slot (model prog w) _ _ ⟨hp, g, d, t + 1, os⟩ "BaseException.__getattribute__" "BaseException" "__getattribute__" (.ref x) [.str "__class__" t] [] _ (by decide +kernel) (by decide +kernel) sb (PySem.F.args_bexc_ga (.ref x) (.str "__class__" t)) ?_))
  unfold Builtin.«object.__getattribute__»; refine wpAny_bind (wpAny_of_eq (a := ((Value.ref x : Value), [Value.str "__class__" t])) (by first | rfl | (simp only [slotArgs]; rfl)) (wpAny_bind (wpAny_pure (wpAny_bind (Lt.at (wpAny_bind (Lc.at ?_)))))))
  show wpAny _ _ (holding [Value.builtin "object.__class__"] (call (.builtin "getset_descriptor.__get__") [.builtin "object.__class__", .ref x, .ref D]) >>= ret) _ _ _; refine wpAny_bind (wpAny_holding (wpAny_call (class_get (s := ⟨hp, g, d, t + 1, os⟩) (ox := ox) (od := od) X I h8 (wpAny_pure ?_))))
  show wpAny _ _ (handedOut (.ref D)) _ _ _; rw [handedOut_of (v := .ref D) rfl]
  first | exact wpAny_pure (wpAny_pure fin) | exact wpAny_pure fin | exact wpAny_pure (wpAny_bind (wpAny_pure (wpAny_pure fin)))
theorem gx_kit (h1 : findIn K (.ref D) "__getattribute__" = some (some (.builtin "BaseException.__getattribute__"))) (h2 : findIn K (.ref D) "__getattr__" = some none) (h3 : subIn K (.ref D) (.type "BaseException") = some true) (h4 : hasDictIn K D = true) (h5 : findIn K (.ref D) "__class__" = some (some (.builtin "object.__class__")))
    (h6 : specialIn K (.builtin "object.__class__") "__get__" = some (some (.builtin "getset_descriptor.__get__"))) (h7 : takesIn K (.builtin "object.__class__") = some true) (h8 : mroIn K D (.type "object") = some true) : KitX K (.ref x) (.ref D) (fun h => ∃ od, InstAt h x ox D od) where
  ty := fun _ _ _ ⟨_, I⟩ => I.type
  it := fun _ _ X _ => by
    obtain ⟨c1, q1, _⟩ := any_some h4; unfold clsIn at q1; split at q1
    · rename_i c' d' cd' sl' ho; intro A' Q' E' s' k q; unfold isType loadHead; exact wpAny_bind (wpAny_loadPart (k _ _ (X _ _ ho)) (wpAny_pure q))
    · cases q1
  ne := fun h tp dd its n sl X htp => by
    obtain ⟨c1, q1, _⟩ := any_some h4; refine Bool.eq_false_iff.mpr fun q => ?_; have e : D = tp := Value.ref.inj (beq_iff_eq.mp q); subst e; unfold clsIn at q1; split at q1
    · rename_i c' d' cd' sl' ho; have z := (X _ _ ho).symm.trans htp; cases z
    · cases q1
  ca := fun X ⟨_, I⟩ k => gx_class h1 h2 h3 h4 h5 h6 h7 h8 X I k
end
end PySem.W
namespace Gt
open PySem PySem.Spec PyProof.Rows L2 PySem.HandSPX
/-- isinstance of an exception of the class x asks the class value cv (v): b -/
structure IsX (K : PySem.W.Frag) (x : Str) (v : V) (b : Bool) : Prop where
  c : ExcC K (cA K x)
  k : ∃ cv, (∀ u, RelV v u → u = cv) ∧ PySem.W.kitOne K (.ref (cA K x)) cv = some b
def rIsX (K : PySem.W.Frag) (a : Addr) (cls : Value) (d : Option Addr) : List V → Hp → VK → Prop := fun xs H Q => ∃ (x : Str) (v : V) (b : Bool) (dd : Addr) (fs : List (Str × V)), cls = .ref (cA K x) ∧ xs = [.ref a, v] ∧ IsX K x v b ∧ d = some dd ∧ H dd = some (.xd fs) ∧ Q (.bl b) H
theorem call_isX {X : Cx} {a : Addr} {cls : Value} {d : Option Addr} {oe : Obj} {pn : List (Addr × Obj)} (hz : Zc cls d oe) (hf : ∃ vs, oe.data = .fields vs) : CallR (X.suite a ((a, oe) :: pn)) (.builtin "isinstance") (rIsX X.K a cls d) := by
  intro pins s σ H xs us Q I r h
  obtain ⟨x, v, b, dd, fs, ec, rfl, ⟨C, cv, hcv, e⟩, ed, hd, q⟩ := h
  subst ec; subst ed
  cases r with
  | cons rx rr =>
    cases rr with
    | cons rt rr =>
    cases rr
    cases rx
    have eu := hcv _ rt
    subst eu
    obtain ⟨hget, _⟩ := I.pin (a, oe) (List.mem_append.mpr (.inl List.mem_cons_self))
    obtain ⟨vs, hv⟩ := hf
    have hx : ObjOk X.prog X.w H s.heap dd (.xd fs) := I.hok dd _ hd
    obtain ⟨mA, hns, hr⟩ := hx
    obtain ⟨od, ho, hl⟩ := lookIn_ns hns
    have J : PySem.W.InstAt s.heap a oe (cA X.K x) (some od) := ⟨hget, hz.1, by unfold PySem.W.notCls; rw [hv] <;> rfl, by rw [hz.2]; exact ho⟩
    exact PySem.W.kia_one (PySem.W.gx_kit C.hg C.hk C.hs C.hd C.ha C.hn C.ht C.hm) I.kIn ⟨_, J⟩ e (fun z => nomatch z) fun tk => ⟨.bl b, H, I.kept (t' := tk) fun _ _ z => z, rfl, q⟩
theorem k_isX {X : Cx} (K : PySem.W.Frag) {a : Addr} {cls : Value} {d : Option Addr} {oe : Obj} {pn : List (Addr × Obj)} (hz : Zc cls d oe) (hf : ∃ vs, oe.data = .fields vs) (h : X.K = K := by rfl) : CallR (X.suite a ((a, oe) :: pn)) (.builtin "isinstance") (rIsX K a cls d) := by subst h; exact call_isX hz hf
theorem pe_xfK {X : Cx} (K : PySem.W.Frag) {a C : Addr} {oe : Obj} {cls : Value} {d : Option Addr} {pn : List (Addr × Obj)} {e : Expr} {te : TE} {pos : Pos} {n : Str} (T : XfC X.K C) (hno : PySem.W.findIn X.K (.ref C) n = some none)
    (hz : Zc cls d oe) (hf : ∃ vs, oe.data = .fields vs) (he : PE (X.suite a ((a, oe) :: pn)) e te) (hb : attributeBase e n X.env (eval e X.env) = eval e X.env := by rfl) : PE (X.suite a ((a, oe) :: pn)) (.Attribute e n pos) (tXf a cls d C n te) := pe_xf T hno hz hf he hb
section
variable {K : PySem.W.Frag} {H0 H1 H H' : Hp} {σ : L2.St} {G G' G2 Gx : Cells K} {α β γ S T ρ : Type}
variable {D : Ends} {t u tb : TS} {te ta tc : TE} {r : Rp α} {q : Rp β} {R : Rs K ρ} {b : Bool}
theorem a_isX {i : Nat} {a d : Addr} {m : Mono (rExc K a d)} {fs : List (Str × Pay)} {x : Str} {v : V} (h : G[i]? = some (some (.ro (rExc K a d) m fs))) (I : IsX K x v b) : Ev rB (tCB (rIsX K a (.ref (cA K x)) (some d)) (tCons (tVar i) (tCons (tC v) tNil))) G b := fun H0 σ H E Q k => by
  obtain ⟨own, _, _, h3⟩ := E.at_
  obtain ⟨w, hw, _, ev, vs, hd, z⟩ := h3 i _ h
  subst ev
  exact ⟨_, hw, x, v, b, d, vs, rfl, rfl, I, rfl, E.old _ _ hd, k _ H (Same.refl H) rfl⟩
theorem q_joinX {m : M S} (st : S → Cells K) (hn : ∀ s, m = .ok s → Sv H0 (st s) u D) (k : (∀ s, m = .ok s → Nx H0 (st s) (u D)) → Sv H0 G (tSeq t u) D) : Sv H0 G (tSeq t u) D := k hn
def mtry (m : M α) (c : Str) (f : α → M β) (g : List (Str × Pay) → M β) : M β := match m with
  | .ok a => f a
  | .error .stuck => .error .stuck
  | .error (.ex x fs) => if x = c then g fs else .error .stuck
theorem mtry_ns {m : M α} {c : Str} {f : α → M β} {g : List (Str × Pay) → M β} {o : M β} (h : mtry m c f g = o) (n : NStk o) : NStk m := fun e => by rw [e] at h; exact n h.symm
theorem mtry_to {m : M α} {c : Str} {f : α → M β} {g : List (Str × Pay) → M β} {o : M β} {a : α} (h : mtry m c f g = o) (e : m = .ok a) : f a = o := by rw [e] at h; exact h
theorem mtry_cl {m : M α} {c : Str} {f : α → M β} {g : List (Str × Pay) → M β} {o : M β} {x : Str} {fs : List (Str × Pay)} (h : mtry m c f g = o) (n : NStk o) (e : m = .error (.ex x fs)) : x = c ∧ g fs = o := by
  rw [e] at h
  have h : (if x = c then g fs else .error .stuck) = o := h
  by_cases q : x = c
  · rw [if_pos q] at h; exact ⟨q, h⟩
  · rw [if_neg q] at h; exact absurd h.symm n
theorem ok_ns {a : α} : NStk (.ok a : M α) := fun z => nomatch z
theorem q_try {i : Nat} {c : Value} {ts : Addr → Value → Option Addr → TS} {Wout : WX} {tb : WX → TS} (k : Sv H0 G (tb (wAs K c i ts Wout { D with nx := u D })) { D with nx := u D }) : Sv H0 G (tSeq (fun D σ H => tb (wAs K c i ts Wout D) D σ H) u) D := k
theorem l_try {i : Nat} {c : Value} {ts : Addr → Value → Option Addr → TS} {Wout : WX} {tb : WX → TS} (k : Sv H0 G (tb (wAs K c i ts Wout D)) D) : Sv H0 G (fun D σ H => tb (wAs K c i ts Wout D) D σ H) D := k
/-- the suite of a clause, the exception's class being the clause's -/
theorem wok_clause {i : Nat} {x : Str} {ts : Addr → Value → Option Addr → TS} {Wout : WX} {m : M α} {f : α → M β} {g : List (Str × Pay) → M β} {o : M β} (h : mtry m x f g = o) (n : NStk o) (cl : PySem.W.exmOne K (.ref (cA K x)) (.ref (cA K x)) = some true)
    (k : ∀ fs, g fs = o → ∀ H2 a d, Same H0 H2 → Sv H2 (G.set i (rc (rExc K a d) fs)) (ts a (.ref (cA K x)) (some d)) (exEnds i D)) : WOk H0 G (wAs K (.ref (cA K x)) i ts Wout D) m :=
  wok_try (x := x) (mtry_ns h n) (fun y fs e => by obtain ⟨q, _⟩ := mtry_cl h n e; rw [q]; exact cl) fun y fs e H2 a d s => by
    obtain ⟨q, hg⟩ := mtry_cl h n e
    subst q
    exact k fs hg H2 a d s
end
end Gt
/-! Gt21: objects that change: self.f = e at the end of a method, o[k] = v, o op= v, a second name. -/
namespace Gt
open PySem PySem.Spec PyProof.Rows L2
/-- the instance at a -/
def rOneA (K : PySem.W.Frag) (C : Addr) (f : Str) {β : Type} (r : Rp β) (p : Addr) : Rp (List β) := fun H v xs => v = .ref p ∧ rOne K C f r H v xs
instance {K : PySem.W.Frag} {C p : Addr} {f : Str} {β : Type} {r : Rp β} [M : Mono r] : Mono (rOneA K C f r p) := ⟨fun e h => ⟨h.1, Mono.up e h.2⟩⟩
def nOneA (K : PySem.W.Frag) (C : Addr) (f : Str) {β : Type} (r : Rp β) (p : Addr) : Rs K (List β) where
  rep := fun H v xs as => v = .ref p ∧ (nOne K C f r).rep H v xs as
  stay := fun h x k => ⟨h.1, (nOne K C f r).stay h.2 x k⟩
  there := fun h p hp => (nOne K C f r).there h.2 p hp
/-- what a change of the field f of the instance at p leaves -/
def MutR (K : PySem.W.Frag) (C : Addr) (f : Str) {β : Type} (r : Rp β) (H : Hp) (p : Addr) (b : List β) (H' : Hp) : Prop := ∃ dx l l' us', H p = some (.ins C dx [(f, .ref l)]) ∧ (∀ c o, c ≠ p → H c = some o → H' c = some o) ∧ H l' = none ∧ p ≠ l' ∧
  H' p = some (.ins C dx [(f, .ref l')]) ∧ H' l' = some (.lst us') ∧ A2 (Stb K r H') us' b ∧ b.length ≤ 100000
def spMut (K : PySem.W.Frag) (C : Addr) (f : Str) {β : Type} (r : Rp β) {α : Type} (A : Ra α) (m : List β → α → M (List β)) (rv : Addr → V) : Sp := fun vs H Q _ => ∃ p ws xs a b, vs = .ref p :: ws ∧ rOne K C f r H (.ref p) xs ∧ A H ws a ∧ m xs a = .ok b ∧ b.length ≤ 100000 ∧
  ∀ H', MutR K C f r H p b H' → Q (rv p) H'
theorem spMut_len {K : PySem.W.Frag} {C : Addr} {f : Str} {α β : Type} {r : Rp β} {A : Ra α} {m : List β → α → M (List β)} {rv : Addr → V} {n : Nat} [L : LenA A n] {vs : List V} {H : Hp} {Q : VK} {E : XK} (h : spMut K C f r A m rv vs H Q E) : vs.length = n + 1 := by
  obtain ⟨p, ws, xs, a, b, rfl, _, hA, _⟩ := h
  rw [List.length_cons, L.len hA]
section
variable {K : PySem.W.Frag} {H0 H1 H H' : Hp} {σ : L2.St} {G G' G2 Gx : Cells K} {α β γ S T ρ : Type}
variable {D : Ends} {t u tb : TS} {te ta ti tc : TE} {r : Rp β} {C p : Addr} {f : Str} {xs b : List β}
theorem a_roA {i : Nat} {M : Mono (rOneA K C f r p)} (h : G[i]? = some (some (.ro (rOneA K C f r p) M xs))) : Ev (rOne K C f r) (tVar i) G xs := (a_ro h).imp fun _ _ z => z.2
theorem a_oneA {i : Nat} (h : G[i]? = some (some (.ow (nOneA K C f r p) xs))) : Ev (rOne K C f r) (tVar i) G xs := fun H0 σ H E Q k => by
  obtain ⟨own, _, _, h3⟩ := E.at_
  obtain ⟨v, hv, _, ⟨a, dx, l, vs, _, ev, _, h1, h2, z⟩, hz⟩ := h3 i _ h
  exact ⟨v, hv, k v H (Same.refl H) ⟨⟨a, dx, l, vs, ev, h1, h2, nows z⟩, hz⟩⟩
/-- a new one where one is read -/
theorem a_no (h : Nw (nOne K C f r) te G xs) : Ev (rOne K C f r) te G xs := fun H0 σ H E Q k => h H0 σ H E Q fun v H' as e hn ⟨⟨a, dx, l, vs, _, ev, _, h1, h2, z⟩, hz⟩ => k v H' e ⟨⟨a, dx, l, vs, ev, h1, h2, nows z⟩, hz⟩
theorem a_nd {q : Rp α} {xs : List (Str × α)} (h : Nw (nd K q) te G xs) : Ev (rD q) te G xs := fun H0 σ H E Q k => h H0 σ H E Q fun v H' as e hn ⟨p, kvs, _, ev, hp, z⟩ => k v H' e ⟨p, kvs, ev, .inl hp, z.imp fun _ _ w => ⟨w.1, w.2.now⟩⟩
/-- by its second name -/
theorem a_alias {i j : Nat} (h : G[i]? = some (some (.ow (nOneA K C f r p) xs))) (h' : G[j]? = some (some (.ow (fz K rV) (.ref p)))) : Ev (rOne K C f r) (tVar j) G xs := fun H0 σ H E Q k => by
  obtain ⟨own, _, _, h3⟩ := E.at_
  obtain ⟨v, hv, e1, ⟨a, dx, l, vs, _, ev, _, h1, h2, z⟩, hz⟩ := h3 i _ h
  obtain ⟨w, hw, _, hs⟩ := h3 j _ h'
  have ew : w = .ref p := hs.now
  subst ew
  rw [e1] at ev
  cases ev
  exact ⟨_, hw, k _ H (Same.refl H) ⟨⟨p, dx, l, vs, rfl, h1, h2, nows z⟩, hz⟩⟩
theorem wk_oneFA {M : Mono (rOneA K C f r p)} [N : Mono r] {i : Nat} (c : Cls K C) (n : NoAttr K C f) (h : G[i]? = some (some (.ro (rOneA K C f r p) M xs)) := by rfl) : Wk (iList K (tFld K (tVar i) f)) r G G xs := fun H1 σ H E R k => by
  obtain ⟨own, _, _, h3⟩ := E.at_
  obtain ⟨v, hv, _, _, ⟨a, dx, l, vs, e2, e3, e4, e5⟩, _⟩ := h3 i _ h
  refine ⟨v, hv, a, C, dx, _, .ref l, e2, E.old _ _ e3, c, n, by rw [List.lookup_cons, show (f == f) = true from beq_self_eq_true f], ?_⟩
  exact ⟨l, rfl, ⟨vs, SqL.of (E.old _ _ e4)⟩, k _ H1 H (Same.refl _) (Same.refl _) E (wj_list e4 e5)⟩
/-- self.f = e, the last thing -/
theorem l_selfA {i : Nat} {M : Mono (rOneA K C f r p)} (hi : G[i]? = some (some (.ro (rOneA K C f r p) M xs))) (h : Nw (nl K r) te G b) (c : Cls K C) (n : NoAttr K C f) (hb : b.length ≤ 100000) (h0 : ∃ dx l, H0 p = some (.ins C dx [(f, .ref l)])) (hk : ∀ σ H', σ[i]? = some (some (.ref p)) → MutR K C f r H0 p b H' → D.nx σ H') : Sv H0 G (sFld K (tVar i) te f) D := fun σ H ⟨H1, e1, E⟩ =>
  h H1 σ H E _ fun v H2 as e2 hn ⟨l', us', ea, ev, hl', z⟩ => by
    have E2 := E.grow e2
    obtain ⟨own, _, _, h3⟩ := E.at_
    obtain ⟨w, hw, _, ew, ⟨a, dx, l, vs, ea2, ha, hl, hz⟩, _⟩ := h3 i _ hi
    subst ev; subst ew
    cases ea2
    have a2 := E2.old _ _ ha
    have hl'0 : H l' = none := hn l' (by rw [ea]; exact List.mem_singleton.mpr rfl)
    have npl : p ≠ l' := fun q => by
      have := E.old _ _ ha
      rw [q, hl'0] at this
      cases this
    have s02 : Same H0 H2 := e1.trans E2.old
    refine ⟨_, hw, p, C, dx, [(f, .ref l)], rfl, a2, c, n, by simp, hk _ _ hw ?_⟩
    have hH0 : H0 l' = none := (e1.trans E.old).free (hn l' (by rw [ea]; exact List.mem_singleton.mpr rfl))
    have pf : putF f (V.ref l') [(f, V.ref l)] = [(f, .ref l')] := by unfold putF; rw [if_pos rfl]
    rw [pf]
    obtain ⟨dx0, l0, hp0⟩ := h0
    have same := (e1.trans E.old).trans e2 _ _ hp0
    rw [a2] at same
    cases same
    have x0 : ExT K H2 (upd H2 p (.ins C dx [(f, .ref l')])) := ext_upd a2 fun z => z
    exact ⟨dx, l, l', us', hp0, fun c o hc ho => by rw [upd_ne hc]; exact ((e1.trans E.old).trans e2) _ _ ho, hH0, npl, upd_same, by rw [upd_ne npl.symm]; exact hl', z.imp fun _ _ w => w.up x0, hb⟩
theorem q_selfA {i : Nat} {M : Mono (rOneA K C f r p)} (hi : G[i]? = some (some (.ro (rOneA K C f r p) M xs))) (h : Nw (nl K r) te G b) (c : Cls K C) (n : NoAttr K C f) (hb : b.length ≤ 100000) (h0 : ∃ dx l, H0 p = some (.ins C dx [(f, .ref l)])) (hk : ∀ σ H', σ[i]? = some (some (.ref p)) → MutR K C f r H0 p b H' → u D σ H') : Sv H0 G (tSeq (sFld K (tVar i) te f) u) D := l_selfA (D := { D with nx := u D }) hi h c n hb h0 hk
/-- an owned thing is changed; what belongs to it too -/
theorem Env.mut2 {i : Nat} {R : Rs K β} {R' : Rs K γ} {b : β} {b' : γ} {v : V} {as as' : List Addr} (E : Env H0 σ H G) (hi : G[i]? = some (some (.ow R b))) (hv : σ[i]? = some (some v))
    (x : ExT K H H') (k : ∀ p o, p ∉ as → H p = some o → H' p = some o) (th : ∀ w bs, σ[i]? = some (some w) → R.rep H w b bs → bs = as) (nw : ∀ p, p ∈ as' → p ∈ as ∨ H p = none) (h : R'.rep H' v b' as') : Env H0 σ H' (G.set i (some (.ow R' b'))) := by
  obtain ⟨own, h1, h2, h3⟩ := E.at_
  obtain ⟨w, hw, hk⟩ := h3 i _ hi
  have eas : own i = as := th w _ hw hk
  have nas : ∀ j p, j ≠ i → p ∈ own j → p ∉ as := fun j p hj hp z => hj (h2 j i p hp (by rw [eas]; exact z))
  have nas' : ∀ j p, j ≠ i → p ∈ own j → p ∉ as' := fun j p hj hp z => by
    rcases nw p z with q | q
    · exact nas j p hj hp q
    · obtain ⟨o, ho, _⟩ := (h1 j p hp).2
      rw [q] at ho
      cases ho
  have old0 : ∀ p, p ∈ as' → H0 p = none := fun p hp => by
    rcases nw p hp with q | q
    · exact (h1 i p (by rw [eas]; exact q)).1
    · exact E.old.free q
  refine ⟨fun p o ho => k p o (fun z => ?_) (E.old p o ho), by rw [List.length_set]; exact E.len, fun j => if j = i then as' else own j, fun j p hp => ?_, fun j q p hj hq => ?_, fun j c hc => ?_⟩
  · have := (h1 i p (by rw [eas]; exact z)).1
    rw [this] at ho
    cases ho
  · by_cases hj : j = i
    · simp only [hj, if_true] at hp
      exact ⟨old0 p hp, R'.there h p hp⟩
    · simp only [hj, if_false] at hp
      obtain ⟨o, ho, nt⟩ := (h1 j p hp).2
      exact ⟨(h1 j p hp).1, o, k p o (nas j p hj hp) ho, nt⟩
  · by_cases hji : j = i <;> by_cases hqi : q = i
    · rw [hji, hqi]
    · simp only [hji, hqi, if_true, if_false] at hj hq
      exact absurd hj (nas' q p hqi hq)
    · simp only [hji, hqi, if_true, if_false] at hj hq
      exact absurd hq (nas' j p hji hj)
    · simp only [hji, hqi, if_false] at hj hq
      exact h2 j q p hj hq
  · by_cases hj : j = i
    · subst hj
      have hl : j < G.length := (List.getElem?_eq_some_iff.mp hi).1
      rw [List.getElem?_set_self hl] at hc
      cases hc
      exact ⟨v, hv, by simp only [if_true]; exact h⟩
    · rw [List.getElem?_set_ne (Ne.symm hj)] at hc
      obtain ⟨w', hw', hk'⟩ := h3 j c hc
      refine ⟨w', hw', ?_⟩
      simp only [hj, if_false]
      exact cell_stay hk' x fun p hp o ho => k p o (nas j p hj hp) ho
/-- what a call of such a method does to the cells -/
theorem mut_env {i : Nat} {q : Addr} {xs' : List β} (E : Env H0 σ H G) (hi : G[i]? = some (some (.ow (nOneA K C f r q) xs))) (hm : MutR K C f r H q xs' H') : Env H0 σ H' (G.set i (some (.ow (nOneA K C f r q) xs'))) := by
  obtain ⟨own, h1, h2, h3⟩ := id E.at_
  obtain ⟨v, hv, ev, ⟨a, dx, l, vs, eas, ev2, nal, ha, hl, z⟩, hz⟩ := h3 i _ hi
  subst ev
  cases ev2
  obtain ⟨dx', l0, l', us', hp, kp, hn, npl, hp', hl', z', hb⟩ := hm
  rw [ha] at hp
  cases hp
  have x0 : ExT K H H' := fun c ys w => by
    have ne : ∀ o, H c = some o → isTup o → c ≠ q := fun o ho t e => by
      rw [e, ha] at ho
      cases ho
      exact t
    rcases w with (w | ⟨o', w⟩) | w
    · exact .inl (.inl (kp _ _ (ne _ w trivial) w))
    · exact .inl (.inr ⟨o', kp _ _ (ne _ w trivial) w⟩)
    · exact .inr w
  refine E.mut2 (as := [q, l]) (as' := [q, l']) (R := nOneA K C f r q) (R' := nOneA K C f r q) hi hv x0 (fun c o hc ho => kp c o (fun e => hc (by rw [e]; simp)) ho) (fun w bs hw ⟨_, ⟨a2, dx2, l2, vs2, e1, e2, _, e4, _⟩, _⟩ => ?_) (fun c hc => ?_) ⟨rfl, ⟨q, _, l', us', rfl, rfl, npl, hp', hl', z'⟩, hb⟩
  · rw [hv] at hw
    cases hw
    cases e2
    rw [ha] at e4
    cases e4
    exact e1
  · rcases List.mem_cons.mp hc with e | e
    · exact .inl (by rw [e]; simp)
    · exact .inr (by rw [List.mem_singleton.mp e]; exact hn)
/-- the same cell, its address named -/
theorem Have.name {i : Nat} (h : Have H0 G σ H) (hi : G[i]? = some (some (.ow (nOne K C f r) xs))) : ∃ q, σ[i]? = some (some (.ref q)) ∧ Have H0 (G.set i (some (.ow (nOneA K C f r q) xs))) σ H := by
  obtain ⟨H1, e, E⟩ := h
  obtain ⟨own, h1, h2, h3⟩ := id E.at_
  obtain ⟨v, hv, ⟨a, dx, l, vs, eas, ev, rest⟩, hz⟩ := h3 i _ hi
  subst ev
  refine ⟨a, hv, H1, e, E.mut (as := own i) (R := nOne K C f r) (R' := nOneA K C f r a) hi hv (ExT.refl _) (fun _ _ _ ho => ho) (fun w bs hw hr => ?_) ⟨rfl, ⟨a, dx, l, vs, eas, rfl, rest⟩, hz⟩⟩
  rw [hv] at hw
  cases hw
  obtain ⟨⟨a2, dx2, l2, vs2, e1, e2, _, e4, _⟩, _⟩ := hr
  cases e2
  rw [rest.2.1] at e4
  cases e4
  rw [e1, eas]
theorem Have.unname {i : Nat} {q : Addr} (h : Have H0 G σ H) (hi : G[i]? = some (some (.ow (nOneA K C f r q) xs))) : Have H0 (G.set i (some (.ow (nOne K C f r) xs))) σ H := by
  obtain ⟨H1, e, E⟩ := h
  obtain ⟨own, h1, h2, h3⟩ := id E.at_
  obtain ⟨v, hv, ev, ⟨a, dx, l, vs, eas, ev2, rest⟩, hz⟩ := h3 i _ hi
  subst ev
  cases ev2
  refine ⟨H1, e, E.mut (as := own i) (R := nOneA K C f r q) (R' := nOne K C f r) hi hv (ExT.refl _) (fun _ _ _ ho => ho) (fun w bs hw hr => ?_) ⟨⟨q, dx, l, vs, eas, rfl, rest⟩, hz⟩⟩
  rw [hv] at hw
  cases hw
  obtain ⟨_, ⟨a2, dx2, l2, vs2, e1, e2, _, e4, _⟩, _⟩ := hr
  cases e2
  rw [rest.2.1] at e4
  cases e4
  rw [e1, eas]
/-- o[k] = v -/
theorem l_setOA {i : Nat} {q : Addr} {rk : Rp α} {rv : Rp γ} [MK : Mono rk] [MV : Mono rv] {kx : α} {vx : γ} {m : List β → α × γ × Unit → M (List β)} {E' : XK} {xs' : List β} (hi : G[i]? = some (some (.ow (nOneA K C f r q) xs))) (hk : Ev rk ti G kx) (hv : Ev rv te G vx) (e : m xs (kx, vx, ()) = .ok xs') (hb : xs'.length ≤ 100000)
    (k : Nx H0 (G.set i (some (.ow (nOneA K C f r q) xs'))) D.nx) : Sv H0 G (tAsg te (gSub (tVar i) ti (tOwnSet C (spMut K C f r (aC rk (aC rv aN)) m fun _ => .non) E'))) D := fun σ H ⟨H1, e1, E⟩ => by
  refine hv H1 σ H E _ fun w H2 e2 hw => ?_
  obtain ⟨own, _, _, h3⟩ := id (E.grow e2).at_
  obtain ⟨u, hu, ev, ⟨a, dx, l, vs, eas, ev2, nal, ha, hl, z⟩, hz⟩ := h3 i _ hi
  subst ev
  cases ev2
  refine ⟨_, hu, hk H1 σ H2 (E.grow e2) _ fun y H3 e3 hy => ?_⟩
  have E3 := (E.grow e2).grow e3
  exact ⟨q, dx, _, rfl, e3 _ _ ha, q, _, xs, (kx, vx, ()), xs', rfl, ⟨⟨q, dx, l, vs, rfl, e3 _ _ ha, e3 _ _ hl, nows (z.imp fun _ _ w => w.up (ext_same e3))⟩, hz⟩, ⟨y, _, rfl, hy, w, _, rfl, MV.up e3 hw, rfl⟩, e, hb, fun H' hm => k _ _ ⟨H1, e1, mut_env E3 hi hm⟩⟩
theorem l_setO {i : Nat} {rk : Rp α} {rv : Rp γ} [MK : Mono rk] [MV : Mono rv] {kx : α} {vx : γ} {m : List β → α × γ × Unit → M (List β)} {E' : XK} {xs' : List β} (hi : G[i]? = some (some (.ow (nOne K C f r) xs))) (hk : ∀ q, Ev rk ti (G.set i (some (.ow (nOneA K C f r q) xs))) kx) (hv : ∀ q, Ev rv te (G.set i (some (.ow (nOneA K C f r q) xs))) vx) (e : m xs (kx, vx, ()) = .ok xs') (hb : xs'.length ≤ 100000)
    (k : Nx H0 (G.set i (some (.ow (nOne K C f r) xs'))) D.nx) : Sv H0 G (tAsg te (gSub (tVar i) ti (tOwnSet C (spMut K C f r (aC rk (aC rv aN)) m fun _ => .non) E'))) D := fun σ H h => by
  obtain ⟨q, hq, h2⟩ := h.name hi
  have hl : i < G.length := (List.getElem?_eq_some_iff.mp hi).1
  refine l_setOA (xs := xs) (List.getElem?_set_self hl) (hk q) (hv q) e hb (fun σ' H' h' => k σ' H' ?_) σ H h2
  rw [List.set_set] at h'
  have := h'.unname (List.getElem?_set_self hl)
  rw [List.set_set] at this
  exact this
theorem q_setO {i : Nat} {rk : Rp α} {rv : Rp γ} [MK : Mono rk] [MV : Mono rv] {kx : α} {vx : γ} {m : List β → α × γ × Unit → M (List β)} {E' : XK} {xs' : List β} (hi : G[i]? = some (some (.ow (nOne K C f r) xs))) (hk : ∀ q, Ev rk ti (G.set i (some (.ow (nOneA K C f r q) xs))) kx) (hv : ∀ q, Ev rv te (G.set i (some (.ow (nOneA K C f r q) xs))) vx) (e : m xs (kx, vx, ()) = .ok xs') (hb : xs'.length ≤ 100000)
    (k : Sv H0 (G.set i (some (.ow (nOne K C f r) xs'))) u D) : Sv H0 G (tSeq (tAsg te (gSub (tVar i) ti (tOwnSet C (spMut K C f r (aC rk (aC rv aN)) m fun _ => .non) E'))) u) D := l_setO (D := { D with nx := u D }) hi hk hv e hb k
/-- o op= v -/
theorem l_augOA {i : Nat} {q : Addr} {rv : Rp γ} {vx : γ} {m : List β → γ × Unit → M (List β)} {E' : XK} {xs' : List β} (hi : G[i]? = some (some (.ow (nOneA K C f r q) xs))) (hv : Ev rv te G vx) (e : m xs (vx, ()) = .ok xs') (hb : xs'.length ≤ 100000)
    (k : Nx H0 (G.set i (some (.ow (nOneA K C f r q) xs'))) D.nx) : Sv H0 G (tAug i te (tOwnIp C (spMut K C f r (aC rv aN) m fun p => .ref p) E')) D := fun σ H ⟨H1, e1, E⟩ => by
  obtain ⟨own, _, _, h3⟩ := id E.at_
  obtain ⟨u, hu, ev, _⟩ := h3 i _ hi
  subst ev
  refine ⟨_, hu, hv H1 σ H E _ fun w H2 e2 hw => ?_⟩
  obtain ⟨own, _, _, h3⟩ := id (E.grow e2).at_
  obtain ⟨u2, hu2, ev, ⟨a, dx, l, vs, eas, ev2, nal, ha, hl, z⟩, hz⟩ := h3 i _ hi
  subst ev
  cases ev2
  refine ⟨q, dx, _, rfl, ha, q, _, xs, (vx, ()), xs', rfl, ⟨⟨q, dx, l, vs, rfl, ha, hl, nows z⟩, hz⟩, ⟨w, _, rfl, hw, rfl⟩, e, hb, fun H' hm => ?_⟩
  have same : σ.set i (some (V.ref q)) = σ := by
    apply List.ext_getElem?
    intro j
    by_cases hj : i = j
    · subst hj
      rw [List.getElem?_set_self (List.getElem?_eq_some_iff.mp hu).1, hu]
    · rw [List.getElem?_set_ne hj]
  show D.nx (σ.set i (some (V.ref q))) H'
  rw [same]
  exact k _ _ ⟨H1, e1, mut_env (E.grow e2) hi hm⟩
theorem q_augOA {i : Nat} {q : Addr} {rv : Rp γ} {vx : γ} {m : List β → γ × Unit → M (List β)} {E' : XK} {xs' : List β} (hi : G[i]? = some (some (.ow (nOneA K C f r q) xs))) (hv : Ev rv te G vx) (e : m xs (vx, ()) = .ok xs') (hb : xs'.length ≤ 100000)
    (k : Sv H0 (G.set i (some (.ow (nOneA K C f r q) xs'))) u D) : Sv H0 G (tSeq (tAug i te (tOwnIp C (spMut K C f r (aC rv aN) m fun p => .ref p) E')) u) D := l_augOA (D := { D with nx := u D }) hi hv e hb k
theorem q_augO {i : Nat} {rv : Rp γ} {vx : γ} {m : List β → γ × Unit → M (List β)} {E' : XK} {xs' : List β} (hi : G[i]? = some (some (.ow (nOne K C f r) xs))) (hv : ∀ q, Ev rv te (G.set i (some (.ow (nOneA K C f r q) xs))) vx) (e : m xs (vx, ()) = .ok xs') (hb : xs'.length ≤ 100000)
    (k : Sv H0 (G.set i (some (.ow (nOne K C f r) xs'))) u D) : Sv H0 G (tSeq (tAug i te (tOwnIp C (spMut K C f r (aC rv aN) m fun p => .ref p) E')) u) D := fun σ H h => by
  obtain ⟨q, hq, h2⟩ := h.name hi
  have hl : i < G.length := (List.getElem?_eq_some_iff.mp hi).1
  refine l_augOA (D := { D with nx := u D }) (xs := xs) (List.getElem?_set_self hl) (hv q) e hb (fun σ' H' h' => k σ' H' ?_) σ H h2
  rw [List.set_set] at h'
  have := h'.unname (List.getElem?_set_self hl)
  rw [List.set_set] at this
  exact this
/-- a second name for it -/
theorem q_alias {i j : Nat} (hi : G[i]? = some (some (.ow (nOne K C f r) xs))) (k : ∀ q, Sv H0 ((G.set i (some (.ow (nOneA K C f r q) xs))).set j (fc rV (.ref q))) u D) : Sv H0 G (tSeq (tAsg (tVar i) (gName j)) u) D := fun σ H h => by
  obtain ⟨q, hq, H1, e1, E⟩ := h.name hi
  refine ⟨_, hq, k q _ _ ⟨H1, e1, E.put (R := fz K rV) (as := []) (Same.refl H) (fun _ z => nomatch z) ⟨rfl, stb rfl⟩⟩⟩
end
/-! ### a list or a tuple -/
section
variable {X : Cx} {tg : Expr}
def iEi (K : PySem.W.Frag) (tl : TE) : TI := fun σ H R => tl σ H fun x H1 => ∃ a, x = .ref a ∧ (((∃ xs, SqL K H1 a xs) ∧ R (Itl K a) H1) ∨ ((∃ xs, SqT K H1 a xs) ∧ R (Itt K a) H1))
theorem pi_ei {l : Expr} {tl : TE} (hl : PE X l tl) : PI X tg l (iEi X.K tl) := by
  refine ⟨fun pins s σ H R I h => thn (hl.run pins s σ H _ I h) fun v s1 ⟨x, H1, I1, r1, a, ex, q1⟩ => ?_⟩
  subst ex
  have ev : v = Value.ref a := r1
  subst ev
  rcases q1 with ⟨⟨xs, hq⟩, q⟩ | ⟨⟨xs, hq⟩, q⟩
  · obtain ⟨its, rv, p, hz⟩ := I1.list hq
    refine wpAny_pyIter_list p.isList ⟨s1.heap.objs.size, [s1.heap.objs.size], _, _, H1, rfl, I1.kept (t' := s1.toks) fun b o e => Heap.get?_push_of_some _ e, turn_list a _, ⟨_, Heap.get?_push_size _ rfl, rfl, rfl⟩, fun b hb => ?_, q⟩
    rw [List.mem_singleton.mp hb]; exact I1.fpOk (Nat.le_refl _) (I1.hok.fresh (Nat.le_refl _))
  · obtain ⟨its, rv, p, hz⟩ := I1.tuple hq
    refine wpAny_pyIter_tuple (show s1.heap.IsTuple a its.toArray from p) ⟨s1.heap.objs.size, [s1.heap.objs.size], _, _, H1, rfl, I1.kept (t' := s1.toks) fun b o e => Heap.get?_push_of_some _ e, turn_tuple a _, ⟨_, Heap.get?_push_size _ rfl, rfl, rfl⟩, fun b hb => ?_, q⟩
    rw [List.mem_singleton.mp hb]; exact I1.fpOk (Nat.le_refl _) (I1.hok.fresh (Nat.le_refl _))
theorem pi_eiK (K : PySem.W.Frag) {l : Expr} {tl : TE} (hl : PE X l tl) (h : X.K = K := by rfl) : PI X tg l (iEi K tl) := by subst h; exact pi_ei hl
end
def rEi (K : PySem.W.Frag) {β : Type} (r : Rp β) : Rp (List β) := fun H v xs => ∃ a vs, v = .ref a ∧ (H a = some (.lst vs) ∨ SqT K H a vs) ∧ A2 (r H) vs xs
section
variable {K : PySem.W.Frag} {H0 H1 H H' : Hp} {σ : L2.St} {G G' : Cells K} {β : Type} {r : Rp β} {te : TE} {xs : List β}
instance [M : Mono r] : Mono (rEi K r) := ⟨fun e ⟨a, vs, ev, h, q⟩ => ⟨a, vs, ev, h.imp (e _ _) (ext_same e _ _), q.imp fun _ _ z => M.up e z⟩⟩
theorem ei_L (h : Ev (rL r) te G xs) : Ev (rEi K r) te G xs := h.imp fun _ _ ⟨a, vs, ev, hp, z⟩ => ⟨a, vs, ev, .inl hp, z⟩
theorem ei_T (h : Ev (rT K r) te G xs) : Ev (rEi K r) te G xs := h.imp fun _ _ ⟨a, vs, ev, hp, z⟩ => ⟨a, vs, ev, .inr hp, z⟩
theorem wk_ei {M : Mono (rEi K r)} [N : Mono r] {i : Nat} (h : G[i]? = some (some (.ro (rEi K r) M xs)) := by rfl) : Wk (iEi K (tVar i)) r G G xs := fun H1 σ H E R k => by
  obtain ⟨own, _, _, h3⟩ := E.at_
  obtain ⟨v, hv, _, p, vs, e2, e3, e4⟩ := h3 i _ h
  refine ⟨v, hv, p, e2, ?_⟩
  rcases e3 with e3 | e3
  · exact .inl ⟨⟨vs, SqL.of (E.old _ _ e3)⟩, k _ H1 H (Same.refl _) (Same.refl _) E (wj_list e3 e4)⟩
  · exact .inr ⟨⟨vs, ext_same E.old _ _ e3⟩, k _ H1 H (Same.refl _) (Same.refl _) E (wj_tup e3 e4)⟩
/-- xs.index(x) of a list of texts -/
def idxS (xs : List Str) (x : Str) : Option Nat := xs.findIdx? fun y => decide (y = x)
theorem idxS_ok {xs : List Str} {x : Str} {j : Nat} (h : idxS xs x = some j) : xs[j]? = some x ∧ ∀ m, m < j → ∀ y, xs[m]? = some y → y ≠ x := by
  unfold idxS at h
  rw [List.findIdx?_eq_some_iff_getElem] at h
  obtain ⟨hl, h1, h2⟩ := h
  refine ⟨by rw [List.getElem?_eq_getElem hl, of_decide_eq_true h1], fun m hm y hy e => ?_⟩
  have := h2 m hm
  rw [List.getElem?_eq_getElem (by omega)] at hy
  cases hy
  exact this (decide_eq_true e)
def IdxOk (xs : List Str) (x : Str) (j : Nat) : Prop := idxS xs x = some j
theorem ev_index {tl tx : TE} {x : Str} {xs : List Str} {j : Nat} (h : Ev (rL rS) tl G xs) (h' : Ev rS tx G x) (e : IdxOk xs x j) : Ev rI (tBM K "list" (rIndex K) tl (tCons tx tNil)) G (j : Int) := fun H0 σ H E Q k =>
  h H0 σ H E _ fun v H1 e1 ⟨p, vs, ev, hp, z⟩ => by
    subst ev
    refine ⟨.inl ⟨rfl, vs, SqL.of hp⟩, h' H0 σ H1 (E.grow e1) _ fun w H2 e2 hw => ?_⟩
    have es : vs = xs.map V.str := strs_a2 z
    obtain ⟨i1, i2⟩ := idxS_ok e
    refine ⟨p, vs, w, j, .str x, rfl, rfl, SqL.of (e2 _ _ hp), by rw [hw.1]; rfl, by rw [es]; exact flat_strs xs, by rw [es, List.getElem?_map, i1]; rfl, by rw [hw.1]; exact beq_self_eq_true x, fun m z' hm hz => ?_, k _ H2 (e1.trans e2) rfl⟩
    rw [es, List.getElem?_map] at hz
    cases q : xs[m]? with
    | none => rw [q] at hz; cases hz
    | some y =>
      rw [q] at hz
      cases hz
      rw [hw.1]
      exact beq_eq_false_iff_ne.mpr (i2 m hm y q)
end
section
variable {X : Cx} (K : PySem.W.Frag) {e o : Expr} {es : List Expr} {to : TE} {t : TA} {apos cpos : Pos}
theorem pe_indexK (ho : PE X o to) (ha : PA X (e :: es) t) (h : X.K = K := by rfl) (b1 : attributeBase o "index" X.env (eval o X.env) = eval o X.env := by rfl)
    (b2 : ((backTo cpos (starEach (e :: es) X.env)).all (fun x => !x.1) && (backToKw cpos (keywordEach [] X.env)).all (fun x => x.1.isSome) && decide ((e :: es).length + ([] : List Keyword).length + (if ([] : List Keyword).isEmpty then 0 else 1) < 30)) = true := by rfl)
    (b3 : (apos.endLine == cpos.line) = true := by rfl) (b4 : starEach (e :: es) X.env = (false, eval e X.env) :: starEach es X.env := by rfl) (b5 : (backTo cpos (starEach es X.env)).any (·.1) = false := by rfl) :
    PE X (.Call (.Attribute o "index" apos) (e :: es) [] cpos) (tBM K "list" (rIndex K) to t) := by subst h; exact pe_bm PySem.F.plainAttrs_list PySem.F.slot_list_index PySem.F.type_list_index mt_index ho ha b1 b2 b3 b4 b5
end
end Gt
/-! Gt22: own exceptions from the top's facts; statements that no call reaches; star defs. -/
namespace Gt
open PySem PySem.Spec PyProof.Rows L2 PySem.W PySem.Calls PySem.HandSPX
/-- what the text of an __init__ of an exception says -/
structure XStat (st : Stmt) (qual : Str) (fld : Str) : Prop where
  bd : ∃ msg j q0 q1 q2 q3 q4 q5 q6 q7 q8 q9, defBody st = [.Expr (.Call (.Attribute (.Call (.Name "super" q0) [] [] q1) "__init__" q2) [.Constant (.str msg) j q3] [] q4) q5, .Assign [.Attribute (.Name "self" q6) fld q7] (.Name fld q8) q9] ∧
      (∀ fI L cd c2, ∃ pl : Sem Bool, eval (.Call (.Attribute (.Call (.Name "super" q0) [] [] q1) "__init__" q2) [.Constant (.str msg) j q3] [] q4) (ksEnv qual (defScope st) L fI cd c2) = (do
        let ov ← attributeBase (.Call (.Name "super" q0) [] [] q1) "__init__" (ksEnv qual (defScope st) L fI cd c2) (eval (.Call (.Name "super" q0) [] [] q1) (ksEnv qual (defScope st) L fI cd c2))
        standAt q2.atName
        let (f, first) ← holding [ov] (getMethod ov "__init__" pl)
        callWith q4 f first (backTo q4 (starEach [.Constant (.str msg) j q3] (ksEnv qual (defScope st) L fI cd c2))) [])) ∧
      (∀ fI L cd c2, swapsWith (.Call (.Attribute (.Call (.Name "super" q0) [] [] q1) "__init__" q2) [.Constant (.str msg) j q3] [] q4) none q5.line (ksEnv qual (defScope st) L fI cd c2) = pure false) ∧
      (∀ fI L cd c2, swapsWith (.Name fld q8) (some (.Attribute (.Name "self" q6) fld q7)) q9.line (ksEnv qual (defScope st) L fI cd c2) = pure false)
  ar : ∃ ar, ((defArgs st).posonlyargs ++ (defArgs st).args).head? = some ar ∧ ar.arg = "self"
  bi : ∀ (doc pm : Value) (an : Option Addr) (cda cc : Addr) (ct : Value) (s : Shared) (u v : Value), BindsTo s (ksFn "__init__" qual (defArgs st) (defBody st) (defScope st) .none .none doc pm an (.ref cda) ct cc) ⟨[u, v], []⟩ [("self", u), (fld, v)]
  s1 : (defScope st).kind = .function
  s2 : (defScope st).isGenerator = false
  s3 : (defScope st).isCoroutine = false
  n1 : (defScope st).names.lookup ("self" : Str) = some .local
  n2 : (defScope st).names.lookup fld = some .local
  n3 : (defScope st).names.lookup ("super" : Str) = some .globalImplicit
  n4 : (defScope st).names.lookup ("__class__" : Str) = some .free
  n5 : ∀ y ∈ (defScope st).names, y.2 ≠ .cell
  f1 : (fld == ("self" : Str)) = false
  f2 : (fld == ("__debug__" : Str)) = false
section
variable {prog : Program} {K : Frag} {mg : Str → Option Value} {x fld qual : Str} {st : Stmt} {C fI cda cc N : Addr} {oc doc pm ct cl cl2 : Value} {od cld cld2 an dd : Option Addr} {osl csl csl2 : Array (Option Value)} {vs : Array Value} {file q nm : Str} {tf : Tok}
  {bs bm sub : List Value} {sn : List Str} {ab : Bool} {col : Option Bool} {k0 k1 k2 k3 k5 : Option Value}
theorem excT_of (S : XStat st qual fld) (gC : mg x = some (.ref C)) (hC : K.lookup C = some (excClassObj nm q C N bs bm true sn sub ab col dd k0 k1 k2 k3 k5 "ValueError.__new__")) (hbm : refsVE bm = true)
    (sa : findIn K (.ref C) "__setattr__" = some (some (.builtin "object.__setattr__"))) (ga : findIn K (.ref C) "__getattribute__" = some (some (.builtin "BaseException.__getattribute__"))) (gg : findIn K (.ref C) "__getattr__" = some none) (no : findIn K (.ref C) fld = some none)
    (iC : findIn K (.ref C) "__init__" = some (some (.ref fI))) (tI : typeIn K (.ref fI) = some (.type "function")) (kC : keepIn K (.ref C) = true) (exC : subIn K (.ref C) (.type "BaseException") = some true) (tyC : typeIn K (.ref C) = some (.type "type")) (hdC : hasDictIn K C = true)
    (su : ks_superIn K C C "__init__" = some (some (.builtin "ValueError.__init__"))) (sB : subIn K (.ref C) (.type "ValueError") = some true) (sS : mroIn K C (.ref C) = some true) (op : nsIn K cStatics "thirdparty.any" = some none) (nS : mg "super" = none)
    (lf : K.lookup fI = some ⟨oc, od, .func (ksFn "__init__" qual (defArgs st) (defBody st) (defScope st) .none .none doc pm an (.ref cda) ct cc), osl⟩) (hcd : codeIn K (.ref cda) qual = true) (lcc : K.lookup cc = some ⟨cl, cld, .cell (some (.ref C)), csl⟩)
    (lco : K.lookup cda = some ⟨cl2, cld2, .fields vs, csl2⟩) (hvs : vs[2]? = some (.str file tf)) (hf : ((prog.main.file : Str) == file) = true) (htop : (prog.main.scope.names.lookup ("super" : Str)).isSome = false) : ExcT prog K mg x fld C fI :=
  { gC := gC, cls := ⟨nm, q, N, bs, bm, sn, sub, ab, col, dd, k0, k1, k2, k3, k5, hC, hbm⟩, sa := sa, ga := ga, gg := gg, no := no, iC := iC, tI := tI, kC := kC, exC := exC, tyC := tyC, hdC := hdC, su := su, sB := sB, sS := sS, op := op, nS := nS,
    fn := by
      obtain ⟨msg, j, q0, q1, q2, q3, q4, q5, q6, q7, q8, q9, eb, h1, h2, h3⟩ := S.bd
      exact ⟨oc, od, qual, defArgs st, defBody st, defScope st, doc, pm, an, cda, cc, ct, osl, lf, hcd, ⟨cl, cld, csl, lcc⟩, ⟨cl2, cld2, vs, file, tf, csl2, lco, hvs, hf⟩, htop, ⟨msg, j, q0, q1, q2, q3, q4, q5, q6, q7, q8, q9, eb, h1 fI, h2 fI, h3 fI⟩, S.ar, S.bi doc pm an cda cc ct,
        S.s1, S.s2, S.s3, S.n1, S.n2, S.n3, S.n4, S.n5, S.f1, S.f2⟩ }
end
/-- an error of the class at S is what «except S» names -/
theorem exm_self {K : Frag} {S : Addr} (h1 : subIn K (.ref S) (.type "BaseException") = some true) (h2 : isClsIn K S = true) (h3 : typeIn K (.ref S) = some (.type "type")) (h4 : subIn K (.ref S) (.ref S) = some true) : exmOne K (.ref S) (.ref S) = some true := by
  have e1 : (subIn K (.ref S) (.type "BaseException") == some true) = true := by rw [h1] <;> rfl
  have e2 : ((clsIn K S).isSome && typeIn K (.ref S) == some (.type "type")) = true := by
    have h2' : (clsIn K S).isSome = true := h2
    rw [h2', h3] <;> rfl
  unfold exmOne kitCls
  rw [if_pos e1]
  exact (if_pos e2).trans h4
section
variable {X : Cx} {P : Program} {w : World} {K : Frag} {mg : Str → Option Value} {base : Heap}
/-- the class that an except clause names -/
structure CatC (K : Frag) (mg : Str → Option Value) (x fld : Str) : Prop where
  mg : mg x = some (.ref (cA K x))
  ex : exmOne K (.ref (cA K x)) (.ref (cA K x)) = some true
  xf : XfC K (cA K x)
  no : findIn K (.ref (cA K x)) fld = some none
  ec : ExcC K (cA K x)
theorem nm_cat {x fld : Str} (T : CatC X.K X.mg x fld) (hg : Gl X x := by rfl) (hdb : (x == ("__debug__" : Str)) = false := by decide) : Names X x (.ref (cA X.K x)) := ⟨hg, hdb, .inl T.mg⟩
theorem takes_no : Takes X fun _ _ _ _ => False := fun _ _ ⟨_, _, _, _, _, _, _, _, _, _, _, _, _, _, _, _, z⟩ => z.elim
/-- what no call reaches -/
theorem ps_never {st : Stmt} : PS X st (fun _ _ _ => False) := ⟨fun _ _ _ _ _ _ h => h.elim⟩
end
section
variable {K : Frag} {H0 H1 H2 H : Hp} {G : Cells K} {α γ β ρ : Type} {D : Ends} {u : TS} {q : Rp β} {R : Rs K ρ} {P Q : L2.St → Hp → Prop}
theorem rt_ex {i : Nat} {x : ρ} (h : RtOk R H0 x D) (e : Same H0 H2) : RtOk R H2 x (exEnds i D) := h.up e
theorem nx_ex {i : Nat} {G' : Cells K} (h : Nx H0 G' D.nx) (e : Same H0 H2) (s : Sub (G.set i none) G') : Nx H2 G (exEnds i D).nx := nx_exEnds fun σ H z => h σ H ((Have.up e z).less s)
/-- try: x = f(..) -/
theorem q_tryA {i j : Nat} {c : Value} {ts : Addr → Value → Option Addr → TS} {Wout : WX} {A : Ra γ} {g : γ} {m : γ → M β} {t : TA} {o : M β} (h : EvA A t G g) (e : m g = o) (w : WOk H0 G (wAs K c j ts Wout { D with nx := u D }) o) (k : ∀ b, o = .ok b → Sv H0 (G.set i (fc q b)) u D) (F : Frz K q := by infer_instance) :
    Sv H0 G (tSeq (fun D σ H => tAsg (tCallS (spX (K := K) A q m) (WE (wAs K c j ts Wout D)) t) (gName i) D σ H) u) D := l_asgX (D := { D with nx := u D }) h e w k
/-- .. into a slot that may hold None -/
theorem q_tryAO {i j : Nat} {c : Value} {ts : Addr → Value → Option Addr → TS} {Wout : WX} {A : Ra γ} {g : γ} {m : γ → M β} {t : TA} {o : M β} (h : EvA A t G g) (e : m g = o) (w : WOk H0 G (wAs K c j ts Wout { D with nx := u D }) o) (k : ∀ b, o = .ok b → Sv H0 (G.set i (fc (rO q) (some b))) u D) (F : Frz K q := by infer_instance) :
    Sv H0 G (tSeq (fun D σ H => tAsg (tCallS (spX (K := K) A q m) (WE (wAs K c j ts Wout D)) t) (gName i) D σ H) u) D := fun σ H ⟨H1, e1, E⟩ =>
  h H1 σ H E _ fun vs H2 e2 z => ⟨g, z, by rw [e]; exact w.1, fun b hb v H3 e3 hv => k b (e ▸ hb) _ _ ⟨H1, e1, (E.grow e2).put (R := fz K (rO q)) (as := []) e3 (fun _ z => nomatch z) ⟨rfl, stb (show rO q H3 v (some b) from hv)⟩⟩,
    fun x fs he d H3 e3 hn hx => w.2 x fs (e ▸ he) σ H2 H3 ⟨H1, e1, E.grow e2⟩ e3 d hn hx⟩
/-- isinstance of what may be None; of None's own value -/
theorem a_isiO {te : TE} {r : Rp α} {T T' : String} {o : Option α} (h : Ev (rO r) te G o) (M : Mono r) (N : TyN K r T) (hb : kitB T T' = some true) (hn : kitB "NoneType" T' = some false) : Ev rB (tCB (rIsi K) (tCons te (tCons (tC (.ty T')) tNil))) G (!isNone' o) := fun H0 σ H E Q k =>
  h H0 σ H E _ fun v H1 e1 hv => by
    cases o with
    | none =>
      have hv : v = .non := hv
      subst hv
      exact ⟨.non, .ty T', .type "NoneType", .type T', false, rfl, .ty T', .base .non, kit_ty hn, k _ H1 e1 rfl⟩
    | some z => exact ⟨v, .ty T', .type T, .type T', true, rfl, .ty T', N.ty hv, kit_ty hb, k _ H1 e1 rfl⟩
end
/-! ### defs with a star parameter -/
structure CalR (P : Program) (w : World) (K : Frag) (mg : Str → Option Value) (base : Heap) (CX : CXT) (x : Str) (k : Nat) (sp : Sp) : Prop where
  ex : ∃ f, FnR P w K mg base CX k f sp ∧ mg x = some (.ref f) ∧ keepIn K (.ref f) = true
def aRest {β : Type} (r : Rp β) : Ra (List β) := fun H vs xs => aAll r H vs xs ∧ xs.length ≤ 10
section
variable {X : Cx} {P : Program} {w : World} {K : Frag} {mg : Str → Option Value} {base : Heap} {x pv : Str} {k : Nat} {sp : Sp} {st : Stmt} {N ps : List Str} {W : WX} {p pos : Pos} {e : Expr} {es : List Expr} {ta : TA}
theorem pe_fnRS (C : CalR X.prog X.w X.K X.mg X.base (L2.CX X.prog X.w) x k sp) (hr : Room k X.A) (tk : Takes X W) (ha : PA X (e :: es) ta) (hg : Gl X x := by rfl) (hdb : (x == ("__debug__" : Str)) = false := by decide)
    (he : starEach (e :: es) X.env = (false, eval e X.env) :: starEach es X.env := by rfl) (hpl : (backTo pos (starEach es X.env)).any (·.1) = false := by rfl) : PE X (.Call (.Name x p) (e :: es) [] pos) (tCallS sp (WE W) ta) := by
  obtain ⟨f, F, hm, hk⟩ := C.ex
  refine ⟨fun pins s σ H Q I h => ?_⟩
  refine wpAny_Call_Name_kw (ld_glob I hg hm ?_ hdb)
  refine PySem.W.callWith_K (h₀ := X.base) I.ok.mod.kin hk (thn (ha.run pos pins s σ H _ I h) fun us s1 ⟨vs, H1, I1, r, q⟩ => ⟨I1.kIn, ?_⟩) he hpl
  refine wpAny_call (codeAny_mono (F X.A X.stack s1 H1 us vs Q (WE W σ) hr I1.env0 r q) fun r s' hq => ?_)
  cases r with
  | error er => exact passAt tk σ pins H1 s1 er s' I1 hq
  | ok fl =>
    cases fl with
    | ret u => exact I1.after hq
    | next => exact False.elim hq
    | brk => exact False.elim hq
    | cont => exact False.elim hq
/-- def x(a, *v) that may raise -/
theorem calStar_of {α β δ : Type} {ra : Rp α} {rb : Rp β} {q : Rp δ} {m : α → List β → M δ} [Frz K rb] (F : Df K mg x st) (S : FnScope N (ps ++ [pv]) (defScope st)) (hp : ps.length = 1) [Mono ra]
    (hb : ∀ (kV doc pm : Value) (an : Option Addr) (cdv ct : Value) (us rest : List Value), us.length = ps.length → bindArgs (fnOf x x (defArgs st) (defBody st) (defScope st) .none kV doc pm an cdv ct) ⟨us ++ rest, []⟩ = (newTuple rest >>= fun t => pure (ps.zip us ++ [(pv, t)])))
    (hbody : ∀ (cdv : Value) (f : Addr) (A : Around) (outer : List PySem.Env) (s : Shared) (H : Hp) (vs : List V) (Q : VK) (E : XK), Room k (A.deeper (envOfC x (defScope st) s.heap.objs.size f cdv)) → spX (K := K) (aC ra (aC (rT K rb) aN)) q (fun a => m a.1 a.2.1) vs H Q E →
      ∃ t, PSs (cxOf (L2.CX P w) P w K mg base N x (defScope st) f cdv A outer s H E) (defBody st) t ∧ t { nx := fun _ H' => Q .non H', rt := Q } (start N vs) H) : CalR P w K mg base (L2.CX P w) x (k + 1) (spX (K := K) (aC ra (aRest rb)) q fun a => m a.1 a.2) := by
  obtain ⟨f, fd, ⟨⟨oc, od, kV, doc, pm, an, cdv, ct, osl, e1, e2, e3⟩, kp⟩, g⟩ := F.ex
  subst e1
  refine ⟨f, (StX.fn_star e2 e3 S StX.cxUp (hb kV doc pm an cdv ct) fun A outer s H vs Q E hr h => hbody cdv f A outer s H vs Q E hr h).imp ?_, g, kp⟩
  rintro vs H Q E ⟨⟨a, bs⟩, ⟨v, rest, rfl, hv, hr, hl⟩, n, ok, er⟩
  have hz := hr.len
  refine ⟨[v], rest, rfl, by rw [hp]; rfl, Nat.le_trans (by rw [hz]; exact hl) (by rw [sizeLine_eq]; decide), fun p hpn => ?_⟩
  have sm : Same H (upd H p (.tup rest)) := same_new hpn
  refine ⟨(a, (bs, ())), ⟨v, [.ref p], rfl, Mono.up sm hv, .ref p, [], rfl, ⟨p, rest, rfl, .inl (.inl upd_same), hr.imp fun _ _ z => Frz.up (K := K) (ext_same sm) z⟩, rfl⟩, n, fun b eb w H' s' z => ok b eb w H' (sm.trans s') z, fun y fs ey d H' s' nd z => er y fs ey d H' (sm.trans s') (sm.free nd) z⟩
end
section
variable {K : Frag} {H : Hp} {G : Cells K} {α : Type} {r : Rp α} {t : TA} {xs : List α}
theorem ea_rest (h : EvA (aAll r) t G xs) (hl : xs.length ≤ 10) : EvA (aRest r) t G xs := fun H0 σ H E Q k => h H0 σ H E _ fun vs H1 e1 z => k vs H1 e1 ⟨z, hl⟩
theorem a_some {i : Nat} {o : Option α} {b : α} (h : G[i]? = some (fc (rO r) o)) (e : o = some b) : Ev r (tVar i) G b := by
  subst e
  have z : Ev (rO r) (tVar i) G (some b) := a_fz h
  exact z.imp fun _ _ z => z
theorem ixc_O0 {β : Type} {q : Rp β} {o : Option (α × β)} {p : α × β} [M : Mono r] [N : Mono q] (e : o = some p) : IxC K (rO (rP K r q)) o (tC (.int 0)) G r p.1 := fun ta h => by subst e; exact ev_fst (h.imp fun _ _ z => z)
theorem ixc_O1 {β : Type} {q : Rp β} {o : Option (α × β)} {p : α × β} [M : Mono r] [N : Mono q] (e : o = some p) : IxC K (rO (rP K r q)) o (tC (.int 1)) G q p.2 := fun ta h => by subst e; exact ev_snd (h.imp fun _ _ z => z)
theorem lnc_O {β : Type} {q : Rp β} {o : Option (α × β)} {p : α × β} {n : Nat} [M : Mono r] [N : Mono q] (e : o = some p) (h : LnC K (rP K r q) p n) : LnC K (rO (rP K r q)) o n := fun G te z => by subst e; exact h G te (z.imp fun _ _ z => z)
end
end Gt
/-! Gt23: own subscripts that may raise, properties, str of an own instance, an __init__ whose default is (), pop. -/
namespace Gt
open PySem PySem.Spec PyProof.Rows L2
/-! ### o[i] by an own __getitem__ that may raise -/
structure CalG (P : Program) (w : World) (K : PySem.W.Frag) (mg : Str → Option Value) (base : Heap) (C : Addr) (k : Nat) (ps : List Str) (sp : Sp) : Prop where
  ex : ∃ (f : Addr) (fd : FuncData), FnOk P w K mg base (L2.CX P w) k f fd ps sp ∧ Meth K C "__getitem__" f ∧ L2.Binds K fd ps [] ∧ PySem.W.fnIn K f = true
def tGetS (C : Addr) (sp : Sp) (E : L2.St → XK) (to ti : TE) : TE := fun σ H Q => to σ H fun o H1 => ti σ H1 fun i H2 => ∃ a dx fs, o = .ref a ∧ H2 a = some (.ins C dx fs) ∧ sp [o, i] H2 Q (E σ)
section
variable {X : Cx} {C : Addr} {k : Nat} {ps : List Str} {sp : Sp} {W : WX} {a b : Expr} {to ti : TE} {pos : Pos}
theorem pe_getS (M : CalG X.prog X.w X.K X.mg X.base C k ps sp) (hr : Room (k + 1) X.A) (tk : Takes X W) (ho : PE X a to) (hi : PE X b ti) (hs : ∀ o i, subscripted b true o i = runValue (.builtin "lifetime.subscript" ⟨[o, i], []⟩)) : PE X (.Subscript a b pos) (tGetS C sp (WE W) to ti) := by
  refine ⟨fun pins s σ H Q I h => ?_⟩
  refine Subscript_ (binT ho hi I h fun v u s2 x y H2 I2 rx ry q => ?_)
  obtain ⟨a', dx, fs, rfl, ha, q⟩ := q
  cases (show v = Value.ref a' from rx)
  obtain ⟨f, fd, F, m, bF, hfn⟩ := M.ex
  obtain ⟨mA, J, _⟩ := ins_get I2.hok ha
  obtain ⟨od, J, _⟩ := J.look
  obtain ⟨m0, hF⟩ := I2.fr
  have hl := F.len _ _ _ _ q
  refine PySem.W.sub_K hF I2.ok.mod.kin J m.at_ hfn m.fn ?_ (hs _ _)
  refine wpAny_call (codeAny_mono (F.run X.A.in1 X.stack s2 H2 ⟨[.ref a', u], []⟩ [.ref a', u] [.ref a', y] Q (WE W σ) hr.in1 I2.env0.in1 (by
    have := bF s2 [.ref a', u] I2.kIn (by rw [List.append_nil, ← hl]; rfl)
    simpa using this) (.cons rfl (.cons ry .nil)) q) fun r s' hq => ?_)
  cases r with
  | error er => exact passAt tk σ pins H2 s2 er s' I2 hq
  | ok fl =>
    cases fl with
    | ret u => exact I2.after hq
    | next => exact False.elim hq
    | brk => exact False.elim hq
    | cont => exact False.elim hq
end
section
variable {K : PySem.W.Frag} {H0 H1 H2 H : Hp} {G : Cells K} {α γ β ρ : Type} {D : Ends} {u : TS} {r : Rp α} {q : Rp β} {qi : Rp γ}
/-- try: x = o[i] -/
theorem q_tryG {i j : Nat} {C : Addr} {names : List Str} {c : Value} {ts : Addr → Value → Option Addr → TS} {Wout : WX} {m : α → γ → M β} {to ti : TE} {xo : α} {xi : γ} {o : M β} (h : Ev r to G xo) (h' : Ev qi ti G xi) (M : Mono r) (N : Mono qi) (I : InsR K C r names) (e : m xo xi = o)
    (w : WOk H0 G (wAs K c j ts Wout { D with nx := u D }) o) (k : ∀ b, o = .ok b → Sv H0 (G.set i (fc q b)) u D) (F : Frz K q := by infer_instance) :
    Sv H0 G (tSeq (fun D σ H => tAsg (tGetS C (spX (K := K) (aC r (aC qi aN)) q fun a => m a.1 a.2.1) (WE (wAs K c j ts Wout D)) to ti) (gName i) D σ H) u) D := fun σ H ⟨H1, e1, E⟩ =>
  h H1 σ H E _ fun v H2 e2 hv => h' H1 σ H2 (E.grow e2) _ fun vi H3 e3 hi => by
    obtain ⟨a, dx, fs, ea, ha, _⟩ := I.ins hv
    refine ⟨a, dx, fs, ea, e3 _ _ ha, (xo, xi, ()), ⟨v, _, rfl, M.up e3 hv, vi, _, rfl, hi, rfl⟩, by show NStk (m xo xi); rw [e]; exact w.1, fun b hb v H4 e4 hv => k b (e ▸ hb) _ _ ⟨H1, e1, ((E.grow e2).grow e3).put (R := fz K q) (as := []) e4 (fun _ z => nomatch z) ⟨rfl, stb hv⟩⟩,
      fun x fs he d H4 e4 hn hx => w.2 x fs (e ▸ he) σ H3 H4 ⟨H1, e1, (E.grow e2).grow e3⟩ e4 d hn hx⟩
end
/-! ### properties -/
structure CalP (P : Program) (w : World) (K : PySem.W.Frag) (mg : Str → Option Value) (base : Heap) (C : Addr) (f : Str) (k : Nat) (sp : Sp) : Prop where
  ex : ∃ (p g : Addr) (fd : FuncData), PropOf K C f p g ∧ FnOk P w K mg base CX0 k g fd ["self"] sp ∧ L2.Binds K fd ["self"] []
theorem pe_propK {X : Cx} (K : PySem.W.Frag) {C : Addr} {f : Str} {k : Nat} {sp : Sp} {e : Expr} {ta : TE} {pos : Pos} (M : CalP X.prog X.w X.K X.mg X.base C f k sp) (he : PE X e ta) (c : Cls X.K C) (hr : Room (k + 1) X.A) (hab : attributeBase e f X.env (eval e X.env) = eval e X.env := by rfl) : PE X (.Attribute e f pos) (tProp C sp [] E0 ta) := by
  obtain ⟨p, g, fd, hp, F, b⟩ := M.ex
  exact pe_prop he c hp F hr b .nil pass0 hab
theorem a_prop {K : PySem.W.Frag} {G : Cells K} {α β : Type} {C : Addr} {names : List Str} {r : Rp α} {q : Rp β} {x : α} {z : β} {m : α × Unit → M β} {ta : TE} (h : Ev r ta G x) (M : Mono r) (I : InsR K C r names) (e : MOk m (x, ()) z) : Ev q (tProp C (spM (aC r aN) q m) [] E0 ta) G z := fun H0 σ H E Q k => h H0 σ H E _ fun v H1 e1 hv => by
  obtain ⟨a, dx, fs, ea, ha, _⟩ := I.ins hv
  subst ea
  exact ⟨a, dx, fs, rfl, ha, (x, ()), z, ⟨_, _, rfl, hv, rfl⟩, e, fun w H2 e2 hw => k w H2 (e1.trans e2) hw⟩
/-! ### an __init__ whose one default is () -/
structure CalD (P : Program) (w : World) (K : PySem.W.Frag) (mg : Str → Option Value) (base : Heap) (C : Addr) (k : Nat) (ps : List Str) (sp : Sp) (d : Addr) : Prop where
  ex : ∃ (f : Addr) (fd : FuncData), FnOk P w K mg base CX0 k f fd ps sp ∧ Mk K C f ∧ L2.Binds K fd ps [.ref d]
  tp : ∃ (o : Obj) (n : Nat), K.lookup d = some o ∧ o.cls = .type "tuple" ∧ o.data = .seq #[] n
theorem pe_mkI0 {X : Cx} {C d : Addr} {k : Nat} {ps : List Str} {sp : Sp} {x : Str} {p pos : Pos} (I : CalD X.prog X.w X.K X.mg X.base C k ps sp d) (hm : X.mg x = some (.ref C)) (hr : Room (k + 1) X.A) (hg : Gl X x := by rfl) (hdb : (x == ("__debug__" : Str)) = false := by decide) : PE X (.Call (.Name x p) [] [] pos) (tMake C sp [.ref d] E0 tNil) := by
  obtain ⟨f, fd, F, M, b⟩ := I.ex
  exact pe_make0 M F hr hg hm b (.cons rfl .nil) pass0 hdb
/-- the empty tuple of the written part -/
def NilT (K : PySem.W.Frag) (d : Addr) : Prop := ∃ (o : Obj) (n : Nat), K.lookup d = some o ∧ o.cls = .type "tuple" ∧ o.data = .seq #[] n
theorem nw_mkOM0 {K : PySem.W.Frag} {G : Cells K} {α β : Type} {C d : Addr} {f : Str} {r : Rp β} {q : Rp α} {m : List α × Unit → M (List β)} {xs : List β} {E : XK} (hd : NilT K d) (e : MOk m ([], ()) xs) : Nw (nOne K C f r) (tMake C (spOneM K C f r (aC (rEi K q) aN) m) [.ref d] E tNil) G xs := fun H0 σ H E1 Q k x dx hx hdx hne => by
  have s1 : Same H (upd (upd H dx (.own x)) x (.ins C dx [])) := fun b o hb => by rw [upd_ne (ne_of_none hb hx), upd_ne (ne_of_none hb hdx)]; exact hb
  obtain ⟨o, n, h1, h2, h3⟩ := hd
  refine ⟨x, dx, [.ref d], ([], ()), xs, rfl, upd_same, ⟨_, _, rfl, ⟨d, [], rfl, .inr (.inr ⟨o, #[], n, h1, h2, h3, Nat.zero_le _, .nil⟩), .nil⟩, rfl⟩, e, fun l us H' keep hl h1 h2 z hz => ⟨rfl, ?_⟩⟩
  have hlx : x ≠ l := fun q => by rw [← q, upd_same] at hl; cases hl
  have hl1 : H l = none := s1.free hl
  refine k _ H' [x, l] (fun b o hb => keep b o (ne_of_none hb hx) (s1 _ _ hb)) (fun b hb => ?_) ⟨⟨x, dx, l, us, rfl, rfl, hlx, h1, h2, z⟩, hz⟩
  rcases List.mem_cons.mp hb with q | q
  · rw [q]; exact hx
  · cases List.mem_singleton.mp q
    exact hl1
/-! ### pop -/
theorem a2_dropLast {α β : Type} {R : α → β → Prop} {vs : List α} {xs : List β} (h : A2 R vs xs) : A2 R vs.dropLast xs.dropLast := by
  induction h with
  | nil => exact .nil
  | @cons a b as bs h1 h2 ih =>
    cases h2 with
    | nil => exact .nil
    | cons h3 h4 => exact .cons h1 ih
section
variable {K : PySem.W.Frag} {H0 : Hp} {G : Cells K} {α : Type} {r : Rp α} {u : TS} {D : Ends} {i : Nat} {xs : List α}
theorem l_pop (hi : G[i]? = some (some (.ow (nl K r) xs))) (hz : 0 < xs.length) (k : Nx H0 (G.set i (some (.ow (nl K r) xs.dropLast))) D.nx) : Sv H0 G (tDrop (tBM0 K "list" rPop (tVar i))) D := fun σ H ⟨H1, e1, E⟩ => by
  obtain ⟨own, h1, h2, h3⟩ := id E.at_
  obtain ⟨v, hv, p, vs, ea, ev, hp, z⟩ := h3 i _ hi
  subst ev
  have hl := z.len
  obtain ⟨y, hy⟩ : ∃ y, vs[vs.length - 1]? = some y := ⟨_, List.getElem?_eq_getElem (by omega)⟩
  refine ⟨_, hv, .inl ⟨rfl, vs, SqL.of hp⟩, p, vs, y, rfl, rfl, hp, hy, k _ _ ⟨H1, e1, ?_⟩⟩
  have x0 : ExT K H (upd H p (.lst vs.dropLast)) := ext_upd hp fun z => z
  have z2 : A2 (Stb K r (upd H p (.lst vs.dropLast))) vs xs := z.imp fun _ _ q => q.up x0
  refine E.mut (as := [p]) (R := nl K r) (R' := nl K r) hi hv x0 (fun c o hc ho => ?_) (fun w bs hw ⟨p', vs', e1, e2, _, _⟩ => ?_) ⟨p, _, rfl, rfl, upd_same, ?_⟩
  · rw [upd_ne fun z => hc (by rw [z]; exact List.mem_singleton.mpr rfl)]
    exact ho
  · rw [hv] at hw
    cases hw
    cases e2
    exact e1
  · exact a2_dropLast z2
theorem q_pop (hi : G[i]? = some (some (.ow (nl K r) xs))) (hz : 0 < xs.length) (k : Sv H0 (G.set i (some (.ow (nl K r) xs.dropLast))) u D) : Sv H0 G (tSeq (tDrop (tBM0 K "list" rPop (tVar i))) u) D := l_pop (D := { D with nx := u D }) hi hz k
end
/-! ### str of an own instance -/
def rStrO (C : Addr) (sp : Sp) : List V → Hp → VK → Prop := fun xs H Q => ∃ a dx fs, xs = [.ref a] ∧ H a = some (.ins C dx fs) ∧ sp [.ref a] H (fun v H' => (∃ z, v = .str z) ∧ Q v H') E0
theorem k_strO {X : Cx} {C : Addr} {k : Nat} {ps : List Str} {sp : Sp} (M : CalM X.prog X.w X.K X.mg X.base CX0 C "__str__" k ps sp) (hr : Room (k + 2) X.A) : CallR X (.type "str") (rStrO C sp) := by
  intro pins s σ H xs us Q I r h
  obtain ⟨a, dx, fs, rfl, ha, q⟩ := h
  cases r with
  | cons rx rr =>
    cases rr
    cases (show _ = Value.ref a from rx)
    obtain ⟨f, fd, F, m, bF⟩ := M.ex
    obtain ⟨mA, J, _⟩ := ins_get I.hok ha
    obtain ⟨od, J, _⟩ := J.look
    have hr2 : Room k X.A.in1.in1 := Room.in1 (Room.in1 hr)
    have hl := F.len _ _ _ _ q
    refine PySem.W.kso_call hr2.units0 I.kIn J m.at_ m.fn ?_
    refine wpAny_call (codeAny_mono (F.run X.A.in1.in1 X.stack s H ⟨[.ref a], []⟩ [.ref a] [.ref a] _ E0 hr2 I.env0.in1.in1 (by
      have := bF s [.ref a] I.kIn (by rw [List.append_nil, ← hl]; rfl)
      simpa using this) (.cons rfl .nil) q) fun r s' hq => ?_)
    cases r with
    | error er => exact False.elim hq
    | ok fl =>
      cases fl with
      | ret u =>
        obtain ⟨v, H', I3, rv, ⟨z, ez⟩, q3⟩ := I.after hq
        subst ez
        obtain ⟨t, et⟩ := rv
        subst et
        exact ⟨.str z, H', I3, ⟨t, rfl⟩, q3⟩
      | next => exact False.elim hq
      | brk => exact False.elim hq
      | cont => exact False.elim hq
theorem a_strO {K : PySem.W.Frag} {G : Cells K} {α : Type} {C : Addr} {names : List Str} {r : Rp α} {x : α} {z : Str} {m : α × Unit → M Str} {ta : TE} (h : Ev r ta G x) (M : Mono r) (I : InsR K C r names) (e : MOk m (x, ()) z) : Ev rS (tCB (rStrO C (spM (aC r aN) rS m)) (tCons ta tNil)) G z := fun H0 σ H E Q k => h H0 σ H E _ fun v H1 e1 hv => by
  obtain ⟨a, dx, fs, ea, ha, _⟩ := I.ins hv
  subst ea
  exact ⟨a, dx, fs, rfl, ha, (x, ()), z, ⟨_, _, rfl, hv, rfl⟩, e, fun w H2 e2 hw => ⟨⟨z, hw.1⟩, k w H2 (e1.trans e2) hw⟩⟩
/-! ### from the top's facts -/
section
variable {P : Program} {w : World} {K : PySem.W.Frag} {mg : Str → Option Value} {base : Heap} {x q c : Str} {st : Stmt} {m k : Nat} {C : Addr} {ps N : List Str} {sp : Sp}
theorem calG_of (F : DfE K C "__getitem__" q st m) (S : FnScope N ps (defScope st)) (len : ∀ vs H Q E, sp vs H Q E → vs.length = ps.length) (b : BindE "__getitem__" q st ps m)
    (hbody : ∀ (cdv : Value) (f : Addr) (A : Around) (outer : List PySem.Env) (s : Shared) (H : Hp) (vs : List V) (Q : VK) (E : XK), Room k (A.deeper (envOfC q (defScope st) s.heap.objs.size f cdv)) → sp vs H Q E →
      ∃ t, PSs (cxOf (L2.CX P w) P w K mg base N q (defScope st) f cdv A outer s H E) (defBody st) t ∧ t { nx := fun _ H' => Q .non H', rt := Q } (start N vs) H) : CalG P w K mg base C (k + 1) ps sp := by
  obtain ⟨f, fd, F, h1, h2⟩ := F.ex
  refine ⟨f, fd, F.ok S len fun cdv A outer s H vs Q E hr h => hbody cdv f A outer s H vs Q E hr h, ⟨h1, h2, F.kp⟩, F.binds b, ?_⟩
  obtain ⟨oc, od, dV, kV, doc, pm, an, cdv, ct, osl, rfl, lk, _⟩ := F.ex
  unfold PySem.W.fnIn
  rw [lk]
/-- a property's getter -/
structure DfQ (K : PySem.W.Frag) (C : Addr) (x q : Str) (st : Stmt) : Prop where
  ex : ∃ (p f : Addr) (fd : FuncData), FunE K x q st 0 f fd ∧ PropOf K C x p f
theorem calP_of (F : DfQ K C x q st) (S : FnScope N ["self"] (defScope st)) (len : ∀ vs H Q E, sp vs H Q E → vs.length = (["self"] : List Str).length) (b : BindE x q st ["self"] 0)
    (hbody : ∀ (cdv : Value) (f : Addr) (A : Around) (outer : List PySem.Env) (s : Shared) (H : Hp) (vs : List V) (Q : VK) (E : XK), Room k (A.deeper (envOfC q (defScope st) s.heap.objs.size f cdv)) → sp vs H Q E →
      ∃ t, PSs (cxOf CX0 P w K mg base N q (defScope st) f cdv A outer s H E).nox (defBody st) t ∧ t { nx := fun _ H' => Q .non H', rt := Q } (start N vs) H) : CalP P w K mg base C x (k + 1) sp := by
  obtain ⟨p, f, fd, F, h1⟩ := F.ex
  exact ⟨p, f, fd, h1, F.ok S len fun cdv A outer s H vs Q E hr h => (hbody cdv f A outer s H vs Q E hr h).imp fun t h => ⟨h.1.nox, h.2⟩, F.binds b⟩
/-- an __init__ with one default, () at d -/
structure DfE0 (K : PySem.W.Frag) (C : Addr) (q : Str) (st : Stmt) (d : Addr) : Prop where
  ex : ∃ (f T : Addr) (oc : Value) (od : Option Addr) (kV doc pm : Value) (an : Option Addr) (cdv ct : Value) (osl : Array (Option Value)) (oT o : Obj) (n n0 : Nat),
    K.lookup f = some ⟨oc, od, .func (PySem.W.fnOf "__init__" q (defArgs st) (defBody st) (defScope st) (.ref T) kV doc pm an cdv ct), osl⟩ ∧ PySem.W.codeIn K cdv q = true ∧ K.lookup T = some oT ∧ oT.data = .seq #[.ref d] n ∧
    K.lookup d = some o ∧ o.cls = .type "tuple" ∧ o.data = .seq #[] n0 ∧ PySem.W.keepIn K (.ref f) = true ∧ PySem.W.findIn K (.ref C) "__init__" = some (some (.ref f)) ∧ PySem.W.isFn K (.ref f) = true
theorem calD_of {d : Addr} {p1 p2 : Str} (T : ClsF K mg c) (F : DfE0 K (cA K c) q st d) (S : FnScope N [p1, p2] (defScope st)) (len : ∀ vs H Q E, sp vs H Q E → vs.length = ([p1, p2] : List Str).length)
    (bD : ∀ (T : Addr) (kV doc pm : Value) (an : Option Addr) (cdv ct u v : Value), ∃ k, bindArgs (PySem.W.fnOf "__init__" q (defArgs st) (defBody st) (defScope st) (.ref T) kV doc pm an cdv ct) ⟨[u], []⟩ = seqItems? (.ref T) >>= k ∧ k (some #[v]) = pure ([p1, p2].zip [u, v]))
    (hbody : ∀ (cdv : Value) (f : Addr) (A : Around) (outer : List PySem.Env) (s : Shared) (H : Hp) (vs : List V) (Q : VK) (E : XK), Room k (A.deeper (envOfC q (defScope st) s.heap.objs.size f cdv)) → sp vs H Q E →
      ∃ t, PSs (cxOf CX0 P w K mg base N q (defScope st) f cdv A outer s H E).nox (defBody st) t ∧ t { nx := fun _ H' => Q .non H', rt := Q } (start N vs) H) : CalD P w K mg base (cA K c) (k + 1) [p1, p2] sp d := by
  obtain ⟨f, T0, oc, od, kV, doc, pm, an, cdv, ct, osl, oT, o, n, n0, lk, hc, lT, dT, ld, cd, dd, kp, h1, h2⟩ := F.ex
  have F2 : FunE K "__init__" q st 1 f (PySem.W.fnOf "__init__" q (defArgs st) (defBody st) (defScope st) (.ref T0) kV doc pm an cdv ct) := ⟨⟨_, _, _, _, _, _, _, _, _, _, rfl, lk, hc, .inr ⟨T0, oT, [.ref d], n, rfl, lT, dT, rfl, by decide⟩⟩, kp⟩
  refine ⟨⟨f, _, F2.ok S len fun cdv A outer s H vs Q E hr h => (hbody cdv f A outer s H vs Q E hr h).imp fun t h => ⟨h.1.nox, h.2⟩, ⟨T.makes, h1, h2, T.kp⟩, ?_⟩, o, n0, ld, cd, dd⟩
  intro s us X hlen
  have hl1 : us.length = 1 := by
    rw [List.length_append] at hlen
    have hlen : us.length + 1 = 2 := hlen
    omega
  obtain ⟨u, rfl⟩ := List.length_eq_one_iff.mp hl1
  obtain ⟨k, e1, e2⟩ := bD T0 kV doc pm an cdv ct u (.ref d)
  refine BindsTo.of_looks fun M => ?_
  rw [e1]
  exact looks_items X lT dT (.of_pure e2)
end
end Gt
/-! Gt24: records: instances of own classes, their fields owned things; made by an __init__ that may raise. -/
namespace Gt
open PySem PySem.Spec PyProof.Rows L2
/-- the fields of an instance, and what they own -/
structure RF (K : PySem.W.Frag) (α : Type) where
  names : List Str
  rep : Hp → List (Str × V) → α → List Addr → Prop
  ns : ∀ {H : Hp} {fs : List (Str × V)} {x : α} {as : List Addr}, rep H fs x as → fs.map (·.1) = names
  stay : ∀ {H H' : Hp} {fs : List (Str × V)} {x : α} {as : List Addr}, rep H fs x as → ExT K H H' → (∀ p, p ∈ as → ∀ o, H p = some o → H' p = some o) → rep H' fs x as
  there : ∀ {H : Hp} {fs : List (Str × V)} {x : α} {as : List Addr}, rep H fs x as → ∀ p, p ∈ as → ∃ o, H p = some o ∧ ¬ isTup o
section
variable {K : PySem.W.Frag} {α β γ ρ : Type}
def fN : RF K Unit where
  names := []
  rep := fun _ fs _ as => fs = [] ∧ as = []
  ns := fun h => by rw [h.1]; rfl
  stay := fun h _ _ => h
  there := fun h p hp => by rw [h.2] at hp; cases hp
def fC (f : Str) (R : Rs K α) (F : RF K β) : RF K (α × β) where
  names := f :: F.names
  rep := fun H fs x as => ∃ v rest a1 a2, fs = (f, v) :: rest ∧ as = a1 ++ a2 ∧ R.rep H v x.1 a1 ∧ F.rep H rest x.2 a2
  ns := fun ⟨v, rest, a1, a2, e1, _, _, h⟩ => by rw [e1, List.map_cons, F.ns h]
  stay := fun ⟨v, rest, a1, a2, e1, e2, h1, h2⟩ x k => ⟨v, rest, a1, a2, e1, e2, R.stay h1 x (fun p hp => k p (by rw [e2]; exact List.mem_append_left _ hp)), F.stay h2 x (fun p hp => k p (by rw [e2]; exact List.mem_append_right _ hp))⟩
  there := fun ⟨v, rest, a1, a2, e1, e2, h1, h2⟩ p hp => by
    rw [e2] at hp
    rcases List.mem_append.mp hp with q | q
    · exact R.there h1 p q
    · exact F.there h2 p q
def nRec (K : PySem.W.Frag) (C : Addr) (F : RF K α) : Rs K α where
  rep := fun H v x as => ∃ a dx fs bs, v = .ref a ∧ as = a :: bs ∧ H a = some (.ins C dx fs) ∧ F.rep H fs x bs
  stay := fun ⟨a, dx, fs, bs, e1, e2, h1, h2⟩ x k => ⟨a, dx, fs, bs, e1, e2, k a (by rw [e2]; exact List.mem_cons_self ..) _ h1, F.stay h2 x (fun p hp => k p (by rw [e2]; exact List.mem_cons_of_mem _ hp))⟩
  there := fun ⟨a, dx, fs, bs, e1, e2, h1, h2⟩ p hp => by
    rw [e2] at hp
    rcases List.mem_cons.mp hp with q | q
    · rw [q]; exact ⟨_, h1, fun z => z⟩
    · exact F.there h2 p q
/-- as it came -/
def rRec (K : PySem.W.Frag) (C : Addr) (F : RF K α) : Rp α := fun H v x => ∃ as, (nRec K C F).rep H v x as
instance {C : Addr} {F : RF K α} : Mono (rRec K C F) := ⟨fun e ⟨as, h⟩ => ⟨as, (nRec K C F).stay h (ext_same e) fun p _ o ho => e p o ho⟩⟩
theorem rec_ins {C : Addr} {F : RF K α} : InsR K C (rRec K C F) F.names := ⟨fun ⟨as, a, dx, fs, bs, e1, _, h1, h2⟩ => ⟨a, dx, fs, e1, h1, F.ns h2⟩⟩
theorem rec_ins1 {C : Addr} {f : Str} {R : Rs K α} : InsR K C (rRec K C (fC f R fN)) [f] := rec_ins
variable {H0 H1 H2 H H' : Hp} {σ : L2.St} {G G' : Cells K} {r : Rp α} {q : Rp β} {D : Ends} {u : TS} {te ta : TE}
theorem a_noR {i : Nat} {C : Addr} {F : RF K α} {x : α} (h : G[i]? = some (some (.ow (nRec K C F) x))) : Ev (rRec K C F) (tVar i) G x := fun H0 σ H E Q k => by
  obtain ⟨own, _, _, h3⟩ := E.at_
  obtain ⟨v, hv, hr⟩ := h3 i _ h
  exact ⟨v, hv, k v H (Same.refl H) ⟨_, hr⟩⟩
/-- what an owned thing is to those who only look -/
class Bor (K : PySem.W.Frag) {α : Type} (R : Rs K α) (r : outParam (Rp α)) : Prop where
  look : ∀ {H : Hp} {v : V} {x : α} {as : List Addr}, R.rep H v x as → r H v x
instance {r : Rp α} : Bor K (fz K r) r := ⟨fun ⟨_, h⟩ => h _ (ExT.refl _)⟩
instance {C : Addr} {F : RF K α} : Bor K (nRec K C F) (rRec K C F) := ⟨fun h => ⟨_, h⟩⟩
/-- the field f of these -/
def FldAt (F : RF K α) (f : Str) (R : Rs K β) (get : α → β) : Prop := ∀ H fs x as, F.rep H fs x as → ∃ v bs, fs.lookup f = some v ∧ R.rep H v (get x) bs
theorem fld_hd {f : Str} {R : Rs K α} {F : RF K β} : FldAt (fC f R F) f R (fun x => x.1) := fun H fs x as ⟨v, rest, a1, a2, e1, _, h1, _⟩ => ⟨v, a1, by rw [e1, List.lookup_cons, beq_self_eq_true], h1⟩
theorem fld_tl {f g : Str} {R : Rs K α} {S : Rs K γ} {F : RF K β} {get : β → γ} (h : FldAt F f S get) (ne : (f == g) = false) : FldAt (fC g R F) f S (fun x => get x.2) := fun H fs x as ⟨v, rest, a1, a2, e1, _, _, h2⟩ => by
  obtain ⟨w, bs, l, hr⟩ := h H rest x.2 a2 h2
  exact ⟨w, bs, by rw [e1, List.lookup_cons, ne]; exact l, hr⟩
theorem a_recF {C : Addr} {F : RF K α} {f : Str} {R : Rs K β} {get : α → β} {x : α} {z : β} (h : Ev (rRec K C F) te G x) (fa : FldAt F f R get) (B : Bor K R q) (c : Cls K C) (n : NoAttr K C f) (e : get x = z) : Ev q (tFld K te f) G z := fun H0 σ H E Q k =>
  h H0 σ H E _ fun v H1 e1 ⟨as, a, dx, fs, bs, ea, _, ha, hf⟩ => by
    obtain ⟨w, cs, hl, hw⟩ := fa _ _ _ _ hf
    exact ⟨a, C, dx, fs, w, ea, ha, c, n, hl, k w H1 e1 (e ▸ B.look hw)⟩
/-- .. a tuple, where a list or a tuple is wished -/
theorem a_recE {C : Addr} {F : RF K α} {f : Str} {rt : Rp β} {get : α → List β} {x : α} {z : List β} (h : Ev (rRec K C F) te G x) (fa : FldAt F f (fz K (rT K rt)) get) (c : Cls K C) (n : NoAttr K C f) (e : get x = z) : Ev (rEi K rt) (tFld K te f) G z := ei_T (a_recF (R := fz K (rT K rt)) h fa inferInstance c n e)
/-! ### what __init__ promises -/
/-- H' has made these fields at p, and nothing else is changed -/
structure RecR (K : PySem.W.Frag) (C : Addr) (F : RF K α) (H : Hp) (p : Addr) (x : α) (H' : Hp) : Prop where
  ex : ∃ dx fs as, H' p = some (.ins C dx fs) ∧ F.rep H' fs x as ∧ (∀ q, q ∈ as → H q = none)
  keep : ∀ c o, c ≠ p → H c = some o → H' c = some o
def spRec (K : PySem.W.Frag) (C : Addr) (F : RF K β) (A : Ra α) (m : α → M β) : Sp := fun vs H Q E => ∃ p dx ws a, vs = .ref p :: ws ∧ H p = some (.ins C dx []) ∧ A H ws a ∧ NStk (m a) ∧ (∀ b, m a = .ok b → ∀ H', RecR K C F H p b H' → Q .non H') ∧
  ∀ x fs, m a = .error (.ex x fs) → ∀ d H', (∀ c o, c ≠ p → H c = some o → H' c = some o) → H d = none → XR K H' d fs → E (.ref (cA K x)) (some d) H'
def tMakeS (C : Addr) (sp : Sp) (E : L2.St → XK) (t : TA) : TE := fun σ H Q => t σ H fun vs H1 => ∀ x dx, H1 x = none → H1 dx = none → dx ≠ x →
  sp (.ref x :: vs) (upd (upd H1 dx (.own x)) x (.ins C dx [])) (fun v H2 => v = .non ∧ Q (.ref x) H2) (E σ)
/-- an expression that may raise; what it lets out stands in it -/
def EvE (H0 : Hp) (R : Rs K α) (te : TE) (G : Cells K) (o : M α) : Prop := ∀ σ H, Have H0 G σ H → ∀ Q : VK, (∀ b, o = .ok b → ∀ v H' as, Same H H' → (∀ p, p ∈ as → H p = none) → R.rep H' v b as → Q v H') → te σ H Q
theorem same_made {x dx : Addr} {C : Addr} (hx : H x = none) (hdx : H dx = none) : Same H (upd (upd H dx (.own x)) x (.ins C dx [])) := fun b o hb => by rw [upd_ne (ne_of_none hb hx), upd_ne (ne_of_none hb hdx)]; exact hb
theorem ee_make {C : Addr} {F : RF K β} {A : Ra α} {a : α} {m : α → M β} {W : WX} {t : TA} {o : M β} (hA : EvA A t G a) (M : MonoA A) (e : m a = o) (w : WOk H0 G W o) : EvE H0 (nRec K C F) (tMakeS C (spRec K C F A m) (WE W) t) G o := fun σ H ⟨H1, e1, E⟩ Q k =>
  hA H1 σ H E _ fun vs H2 e2 hvs x dx hx hdx hne => by
    have s1 : Same H2 (upd (upd H2 dx (.own x)) x (.ins C dx [])) := same_made hx hdx
    refine ⟨x, dx, vs, a, rfl, upd_same, M.up s1 hvs, by rw [e]; exact w.1, fun b hb H' hr => ⟨rfl, ?_⟩, fun y fs hy d H' kp hd hx2 => ?_⟩
    · obtain ⟨⟨dx', fs, as, h1, h2, h3⟩, kp⟩ := hr
      refine k b (e ▸ hb) _ H' (x :: as) (e2.trans fun b o hb => kp b o (ne_of_none hb hx) (s1 _ _ hb)) (fun p hp => ?_) ⟨x, dx', fs, as, rfl, rfl, h1, h2⟩
      rcases List.mem_cons.mp hp with z | z
      · rw [z]; exact free_back e2 hx
      · exact free_back (e2.trans s1) (h3 p z)
    · exact w.2 y fs (e ▸ hy) σ H2 H' ⟨H1, e1, E.grow e2⟩ (fun b o hb => kp b o (ne_of_none hb hx) (s1 _ _ hb)) d (s1.free hd) hx2
/-- .. its field f -/
theorem ee_fld {C : Addr} {F : RF K α} {f : Str} {r' : Rp β} {get : α → β} {o : M α} {o' : M β} (h : EvE H0 (nRec K C F) te G o) (fa : FldAt F f (fz K r') get) (c : Cls K C) (n : NoAttr K C f) (e : ∀ b, o = .ok b → o' = .ok (get b)) : EvE H0 (fz K r') (tFld K te f) G o' := fun σ H hv Q k =>
  h σ H hv _ fun b hb v H' as s hn ⟨a, dx, fs, bs, ea, _, ha, hf⟩ => by
    obtain ⟨w, cs, hl, hw⟩ := fa _ _ _ _ hf
    exact ⟨a, C, dx, fs, w, ea, ha, c, n, hl, k _ (e b hb) w H' cs s (fun p hp => by rw [hw.1] at hp; cases hp) hw⟩
theorem ee_callS {A : Ra γ} {g : γ} {m : γ → M β} {W : WX} {t : TA} {o : M β} (h : EvA A t G g) (e : m g = o) (w : WOk H0 G W o) [F : Frz K q] : EvE H0 (fz K q) (tCallS (spX (K := K) A q m) (WE W) t) G o := fun σ H ⟨H1, e1, E⟩ Q k =>
  h H1 σ H E _ fun vs H2 e2 z => ⟨g, z, by rw [e]; exact w.1, fun b hb v H3 e3 hv => k b (e ▸ hb) v H3 [] (e2.trans e3) (fun _ z => nomatch z) ⟨rfl, stb hv⟩,
    fun x fs he d H3 e3 hn hx => w.2 x fs (e ▸ he) σ H2 H3 ⟨H1, e1, E.grow e2⟩ e3 d hn hx⟩
theorem l_asgE {i : Nat} {R : Rs K α} {o : M α} (h : EvE H0 R te G o) (k : ∀ b, o = .ok b → Nx H0 (G.set i (some (.ow R b))) D.nx) : Sv H0 G (tAsg te (gName i)) D := fun σ H ⟨H1, e1, E⟩ =>
  h σ H ⟨H1, e1, E⟩ _ fun b hb v H' as s hn hr => k b hb _ _ ⟨H1, e1, E.put s hn hr⟩
theorem q_asgE {i : Nat} {R : Rs K α} {o : M α} (h : EvE H0 R te G o) (k : ∀ b, o = .ok b → Sv H0 (G.set i (some (.ow R b))) u D) : Sv H0 G (tSeq (tAsg te (gName i)) u) D := l_asgE (D := { D with nx := u D }) h k
/-- try: x = e, e such an expression of which tb tells how it hangs on what it lets out -/
theorem q_tryE {i j : Nat} {c : Value} {ts : Addr → Value → Option Addr → TS} {Wout : WX} {R : Rs K α} {tb : WX → TE} {o : M α} (h : EvE H0 R (tb (wAs K c j ts Wout { D with nx := u D })) G o) (k : ∀ b, o = .ok b → Sv H0 (G.set i (some (.ow R b))) u D) :
    Sv H0 G (tSeq (fun D σ H => tAsg (tb (wAs K c j ts Wout D)) (gName i) D σ H) u) D := l_asgE (D := { D with nx := u D }) h k
end
/-! ### in __init__ -/
section
variable {K : PySem.W.Frag} {α β : Type} {H0 H : Hp} {σ : L2.St} {G : Cells K} {r : Rp α} {D : Ends} {te : TE} {t : TA}
/-- .. in a def that lets nothing out -/
theorem nw_mkR {C : Addr} {F : RF K β} {A : Ra α} {a : α} {m : α → M β} {b : β} {E' : L2.St → XK} (hA : EvA A t G a) (M : MonoA A) (e : MOk m a b) : Nw (nRec K C F) (tMakeS C (spRec K C F A m) E' t) G b := fun H0 σ H E Q k =>
  hA H0 σ H E _ fun vs H2 e2 hvs x dx hx hdx hne => by
    have e : m a = .ok b := e
    have s1 : Same H2 (upd (upd H2 dx (.own x)) x (.ins C dx [])) := same_made hx hdx
    refine ⟨x, dx, vs, a, rfl, upd_same, M.up s1 hvs, nstk_ok e, fun b' hb H' hr => ⟨rfl, ?_⟩, fun y fs hy => by rw [e] at hy; cases hy⟩
    rw [e] at hb
    cases hb
    obtain ⟨⟨dx', fs, as, h1, h2, h3⟩, kp⟩ := hr
    refine k _ H' (x :: as) (e2.trans fun b o hb => kp b o (ne_of_none hb hx) (s1 _ _ hb)) (fun p hp => ?_) ⟨x, dx', fs, as, rfl, rfl, h1, h2⟩
    rcases List.mem_cons.mp hp with z | z
    · rw [z]; exact free_back e2 hx
    · exact free_back (e2.trans s1) (h3 p z)
/-- self.f = e, the one field -/
theorem l_selfI {i : Nat} {p C dx : Addr} {f : Str} {b : α} (hi : G[i]? = some (fc rV (.ref p))) (h0 : H0 p = some (.ins C dx [])) (h : Ev r te G b) (c : Cls K C) (n : NoAttr K C f) (hk : ∀ σ H', RecR K C (fC f (fz K r) fN) H0 p (b, ()) H' → D.nx σ H') (F : Frz K r := by infer_instance) : Sv H0 G (sFld K (tVar i) te f) D := fun σ H ⟨H1, e1, E⟩ =>
  h H1 σ H E _ fun v H2 e2 hv => by
    obtain ⟨own, _, _, h3⟩ := E.at_
    obtain ⟨w, hw, hr⟩ := h3 i _ hi
    have hw2 : w = .ref p := hr.2 H (ExT.refl _)
    subst hw2
    have hp : H2 p = some (.ins C dx []) := e2 _ _ (E.old _ _ (e1 _ _ h0))
    refine ⟨_, hw, p, C, dx, [], rfl, hp, c, n, by decide, hk σ _ ⟨⟨dx, [(f, v)], [], upd_same, ⟨v, [], [], [], rfl, rfl, ⟨rfl, (stb hv).up (ext_upd hp fun z => z)⟩, rfl, rfl⟩, fun q hq => nomatch hq⟩, fun b o nb ho => ?_⟩⟩
    rw [upd_ne nb]
    exact e2 _ _ (E.old _ _ (e1 _ _ ho))
end
section
variable {K : PySem.W.Frag} {α β γ : Type} {H0 : Hp} {G : Cells K} {D : Ends} {u : TS} {t : TA}
/-- try: x = C(..).f -/
theorem q_tryMF {i j : Nat} {C : Addr} {cv : Value} {ts : Addr → Value → Option Addr → TS} {Wout : WX} {F : RF K β} {A : Ra α} {a : α} {m : α → M β} {f : Str} {r' : Rp γ} {get : β → γ} {o : M β} (hA : EvA A t G a) (M : MonoA A) (e : m a = o) (w : WOk H0 G (wAs K cv j ts Wout { D with nx := u D }) o) (fa : FldAt F f (fz K r') get) (c : Cls K C) (n : NoAttr K C f)
    (k : ∀ b, o = .ok b → Sv H0 (G.set i (fc r' (get b))) u D) : Sv H0 G (tSeq (fun D σ H => tAsg (tFld K (tMakeS C (spRec K C F A m) (WE (wAs K cv j ts Wout D)) t) f) (gName i) D σ H) u) D :=
  l_asgE (D := { D with nx := u D }) (o := mb o fun x => .ok (get x)) (ee_fld (ee_make hA M e w) fa c n fun b q => mb_of q) fun b' hb => by
    obtain ⟨b, h1, h2⟩ := mb_ok hb
    cases h2
    exact k b h1
end
/-! ### making, where exceptions may leave -/
section
variable {X : Cx} {k : Nat} {f C : Addr} {fd : FuncData} {ps : List Str} {sp : Sp} {x : Str} {p pos : Pos} {e : Expr} {es : List Expr} {t : TA} {W : WX}
theorem pe_mkIS (I : CalI X.prog X.w X.K X.mg X.base (L2.CX X.prog X.w) C k ps sp) (hm : X.mg x = some (.ref C)) (hr : Room (k + 1) X.A) (tk : Takes X W) (ha : PA X (e :: es) t) (hg : Gl X x := by rfl) (hdb : (x == ("__debug__" : Str)) = false := by decide)
    (he : starEach (e :: es) X.env = (false, eval e X.env) :: starEach es X.env := by rfl) (hpl : (backTo pos (starEach es X.env)).any (·.1) = false := by rfl) : PE X (.Call (.Name x p) (e :: es) [] pos) (tMakeS C sp (WE W) t) := by
  obtain ⟨f, fd, F, M, hb⟩ := I.ex
  refine ⟨fun pins s σ H Q I h => ?_⟩
  refine wpAny_Call_Name_kw (ld_glob I hg hm ?_ hdb)
  refine PySem.W.callWith_K (h₀ := X.base) I.ok.mod.kin M.kp (thn (ha.run pos pins s σ H _ I h) fun us s1 ⟨vs, H1, I1, r, q⟩ => ⟨I1.kIn, ?_⟩) he hpl
  have hq := q (s1.heap.objs.size + 1) s1.heap.objs.size (I1.hok.fresh (Nat.le_succ _)) (I1.hok.fresh (Nat.le_refl _)) (Nat.ne_of_lt (Nat.lt_succ_self _))
  have I2 := Inv.made (C := C) I1
  have r2 : Vals (V.ref (s1.heap.objs.size + 1) :: vs) (Value.ref (s1.heap.objs.size + 1) :: us) := .cons rfl r
  have hl : (Value.ref (s1.heap.objs.size + 1) :: us ++ []).length = ps.length := by
    rw [List.append_nil]
    have e := r2.length
    rw [F.len _ _ _ _ hq] at e
    exact e.symm
  have b1 := hb _ (Value.ref (s1.heap.objs.size + 1) :: us) I2.kIn hl
  rw [List.append_nil] at b1
  refine wpAny_call (make_map (f := f) I1.kIn M.makes M.init (beq_iff_eq.mp M.fn) (codeAny_mono (F.run _ X.stack _ _ ⟨Value.ref (s1.heap.objs.size + 1) :: us, []⟩ (Value.ref (s1.heap.objs.size + 1) :: us) _ _ (WE W σ) (hr.make C us [])
    (I2.env0.make C us []) b1 r2 hq) fun r s' hq' => ?_))
  cases r with
  | error e => exact passAt tk σ pins _ _ e s' I2 hq'
  | ok fl =>
    cases fl with
    | ret u =>
      obtain ⟨v, H', I3, rv, ev, q3⟩ := I2.after hq'
      subst ev
      exact ⟨rv, ⟨V.ref (s1.heap.objs.size + 1), H', I3, rfl, q3⟩⟩
    | next => exact False.elim hq'
    | brk => exact False.elim hq'
    | cont => exact False.elim hq'
end
theorem spRec_len {K : PySem.W.Frag} {C : Addr} {α β : Type} {F : RF K β} {A : Ra α} {m : α → M β} {n : Nat} [L : LenA A n] {vs : List V} {H : Hp} {Q : VK} {E : XK} (h : spRec K C F A m vs H Q E) : vs.length = n + 1 := by
  obtain ⟨p, dx, ws, a, rfl, _, hA, _⟩ := h
  rw [List.length_cons, L.len hA]
section
variable {P : Program} {w : World} {K : PySem.W.Frag} {mg : Str → Option Value} {base : Heap} {q c : Str} {st : Stmt} {m k : Nat} {ps N : List Str} {sp : Sp}
theorem calIX_of (T : ClsF K mg c) (F : DfE K (cA K c) "__init__" q st m) (S : FnScope N ps (defScope st)) (len : ∀ vs H Q E, sp vs H Q E → vs.length = ps.length) (b : BindE "__init__" q st ps m)
    (hbody : ∀ (cdv : Value) (f : Addr) (A : Around) (outer : List PySem.Env) (s : Shared) (H : Hp) (vs : List V) (Q : VK) (E : XK), Room k (A.deeper (envOfC q (defScope st) s.heap.objs.size f cdv)) → sp vs H Q E →
      ∃ t, PSs (cxOf (L2.CX P w) P w K mg base N q (defScope st) f cdv A outer s H E) (defBody st) t ∧ t { nx := fun _ H' => Q .non H', rt := Q } (start N vs) H) : CalI P w K mg base (L2.CX P w) (cA K c) (k + 1) ps sp := by
  obtain ⟨f, fd, F, h1, h2⟩ := F.ex
  exact ⟨f, fd, F.ok S len fun cdv A outer s H vs Q E hr h => hbody cdv f A outer s H vs Q E hr h, ⟨T.makes, h1, h2, T.kp⟩, F.binds b⟩
end
end Gt
/-! Gt25: own classes whose __iter__ walks a tuple; list(o). -/
namespace Gt
open PySem PySem.Spec PyProof.Rows L2
def titObj (l : Addr) (i : Nat) : Obj := { cls := .type "tuple_iterator", data := .fields #[.ref l, .int i 0] }
def ItOT (l it : Addr) (i : Nat) : HO := .ext fun h => h.get? it = some (titObj l i)
section
variable {X : Cx} {CX : CXT} {pins : List (Addr × Obj)} {σ : L2.St} {H H' : Hp} {s s' : Shared} {C fi a it l : Addr} {k : Nat} {fd : FuncData} {ps : List Str} {sp : Sp} {E : XK} {e : Expr} {te : TE} {tg : Expr} {o : HO} {i : Nat}
theorem itOT_ok {P : Program} {w : World} {H : Hp} {h : Heap} (e : h.get? it = some (titObj l i)) : ObjOk P w H h it (ItOT l it i) := ⟨e, ⟨_, e⟩, fun h1 h2 q k => k _ q⟩
theorem itOT_get (I : Inv X pins σ H s) (e : H it = some (ItOT l it i)) : s.heap.get? it = some (titObj l i) := (I.hok it _ e).1
theorem call_iterTup {prog : Program} {w : World} {A : Around} {E : Value → Shared → Prop} {items : Array Value} {Q : Value → Shared → Prop} (hl : s.heap.IsTuple l items) (h : Q (.ref s.heap.objs.size) { s with heap := s.heap.push (titObj l 0) }) : wpAny (model prog w) A (call (.builtin "iter") [.ref l]) Q E s := by
  refine Calls.call_function_entry (by decide +kernel) (by decide +kernel) PySem.W.kdk_entry_iter (PySem.W.kdk_args_iter _) ?_
  unfold Builtin.«iter»
  refine wpAny_bind (m := someArgs "iter" 1 2 _) (wpAny_of_eq (a := [Value.ref l]) (by first | rfl | kernel_rfl!) ?_)
  show wpAny _ _ (pyIter (.ref l) >>= _) _ _ _
  refine wpAny_bind (wpAny_pyIter_tuple hl ?_)
  exact wpAny_pure ⟨_, rfl, h⟩
def rIterNT (K : PySem.W.Frag) (n : Nat) : List V → Hp → VK → Prop := fun xs H Q => ∃ (l : Addr) (zs : List V), xs = [.ref l] ∧ SqT K H l zs ∧ ∀ it, H it = Option.none → n ≤ it → Q (.ref it) (upd H it (ItOT l it 0))
theorem call_iterNT : CallR X (.builtin "iter") (rIterNT X.K X.s_0.heap.objs.size) := by
  intro pins s σ H xs us Q I r h
  obtain ⟨l, zs, rfl, hq, q⟩ := h
  obtain ⟨u, rfl, ru⟩ := r.one
  cases ru
  obtain ⟨its, rv, pl, hz⟩ := I.tuple hq
  refine call_iterTup (show s.heap.IsTuple l its.toArray from pl) ?_
  exact ⟨.ref s.heap.objs.size, _, I.laid (t' := s.toks) (fun b u e => Heap.get?_push_of_some _ e) (Nat.le_refl _) (itOT_ok (Heap.get?_push_size _ rfl)), rfl, q _ (I.hok.fresh (Nat.le_refl _)) I.sz⟩
/-- __iter__ of the class at C hands out a new iterator of the tuple in the field g -/
structure ItOkT (P : Program) (w : World) (K : PySem.W.Frag) (mg : Str → Option Value) (base : Heap) (C : Addr) (g : Str) : Prop where
  ex : ∃ fi : Addr, PySem.W.findIn K (.ref C) "__iter__" = some (some (.ref fi)) ∧ PySem.W.isFn K (.ref fi) = true ∧
    ∀ (A : Around) (outer : List PySem.Env) (s : Shared) (H : Hp) (a dx l : Addr) (fs : List (Str × V)) (zs : List V) (Q : VK) (E : XK), Room 1 A → Env0 P w K mg base A outer s H → H a = some (.ins C dx fs) → fs.lookup g = some (.ref l) → SqT K H l zs →
      (∀ it, H it = none → s.heap.objs.size ≤ it → Q (.ref it) (upd H it (ItOT l it 0))) → codeAny (model P w) A (.call (.ref fi) ⟨[.ref a], []⟩) (CR CX0 outer P w H s Q E) s
theorem run_iterT {A : Around} {g : Str} {Q : Value → Shared → Prop} {dx : Addr} {fs : List (Str × V)} {zs : List V} (hrA : Room 1 A) (hfr : A.frames = X.A.frames) (O : ItOkT X.prog X.w X.K X.mg X.base C g)
    (I : L2.Inv X pins σ H s) (ha : H a = some (.ins C dx fs)) (hl : fs.lookup g = some (.ref l)) (hz : SqT X.K H l zs)
    (h : ∀ it s2, L2.Inv X pins σ H s2 → s2.heap.IsTupleIter it l 0 → FpOk X pins H it → Q (.ref it) s2) :
    wpAny (model X.prog X.w) A (pyIter (.ref a)) Q X.xe s := by
  obtain ⟨mA, J, _⟩ := ins_get I.hok ha
  obtain ⟨od, J, _⟩ := J.look
  obtain ⟨m0, hF⟩ := I.fr
  obtain ⟨fi, hs, hf, F⟩ := O.ex
  refine PySem.W.owit_iter hF I.ok.mod.kin J hs hf ?_
  have e0 : Env0 X.prog X.w X.K X.mg X.base A X.stack s H := by
    have e := I.env0
    exact ⟨by rw [hfr]; exact e.frames, e.mod, e.bs, e.bsz, e.funs, e.frf, e.hok, e.bare⟩
  refine wpAny_call (codeAny_mono (F A X.stack s H a dx l fs zs (fun v H' => ∃ it, H it = none ∧ s.heap.objs.size ≤ it ∧ v = .ref it ∧ H' = upd H it (ItOT l it 0)) (fun _ _ _ => False) hrA e0 ha hl hz fun it h0 h1 => ⟨it, h0, h1, rfl, rfl⟩) fun r s' hq => ?_)
  cases r with
  | error er => exact False.elim hq
  | ok fl =>
    cases fl with
    | next => exact False.elim hq
    | brk => exact False.elim hq
    | cont => exact False.elim hq
    | ret u =>
      obtain ⟨v, H2, I3, rv, it, h0, yg, ev, eH⟩ := I.after hq
      subst ev
      subst eH
      cases (show u = Value.ref it from rv)
      have ho := itOT_get I3 upd_same
      have h1' : upd H it (ItOT l it 0) it = some (.ext fun h => h.get? it = some (titObj l 0)) := upd_same
      have I4 := ItX.inv_drop I3 h1'
      have f4 := ItX.inv_fp I3 h1' (Nat.le_trans I.sz yg)
      rw [ItX.dropH_upd h0] at I4 f4
      show wpAny _ _ (specialOf (.ref it) "__next__") _ _ s'
      refine wpAny_specialOf (name := Str.ofString "__next__") ⟨_, ho, rfl⟩ PySem.F.slot_tuple_iterator_next.lookup ?_
      exact h it s' I4 ⟨_, ho, rfl, rfl⟩ f4
/-- for x in o -/
def iOwnT (K : PySem.W.Frag) (C : Addr) (g : Str) (te : TE) : TI := fun σ H R => te σ H fun x H1 => ∃ a dx fs l zs, x = .ref a ∧ H1 a = some (.ins C dx fs) ∧ fs.lookup g = some (.ref l) ∧ SqT K H1 l zs ∧ R (Itt K l) H1
theorem pi_ownT {g : Str} (he : PE X e te) (O : ItOkT X.prog X.w X.K X.mg X.base C g) (hr : Room 1 X.A) : PI X tg e (iOwnT X.K C g te) := by
  refine ⟨fun pins s σ H R I h => ?_⟩
  refine thn (he.run pins s σ H _ I h) fun u s1 ⟨x, H1, I1, rx, a, dx, fs, l, zs, ex, ea, el, ez, q⟩ => ?_
  subst ex
  cases (show u = Value.ref a from rx)
  exact run_iterT (X := X) hr rfl O I1 ea el ez fun it s2 I2 st fp => ⟨it, [it], _, _, H1, rfl, I2, turn_tuple l it, st, fun b hb => by rw [show b = it by simpa using hb]; exact fp, q⟩

/-! ### list(o) -/
theorem fill_loopT {A1 : Around} {q : Addr} {Rs : Result → Shared → Prop} {zs : List V} (hh : A1.in1.handled = none) (hlq : l ≠ q) (hzs : zs.length ≤ sizeLine) (hl : SqT X.K H l zs) (hdone : ∀ s, Inv X pins σ (upd H q (.lst zs)) s → Rs (.ok (.ret .none)) s) :
    ∀ (m i : Nat) (s : Shared), m + i = zs.length → Inv X pins σ (upd H q (.lst (zs.take i))) s → s.heap.IsTupleIter it l i → FpOk X pins (upd H q (.lst (zs.take i))) it → codeAny (model X.prog X.w) A1 (.builtin "list.extend.loop" ⟨[.ref q, .ref it, .none], []⟩) Rs s := by
  have rd : ∀ ys, SqT X.K (upd H q (.lst ys)) l zs := fun ys => by
    have e : upd H q (.lst ys) l = H l := upd_ne hlq
    unfold SqT Rd at hl ⊢
    simp only [e]
    exact hl
  intro m
  induction m with
  | zero =>
    intro i s hi I st fp
    have hi' : i = zs.length := by omega
    subst hi'
    rw [List.take_length] at I fp
    obtain ⟨its, rv, p, hz⟩ := I.tuple (rd _)
    obtain ⟨f0, f1, f2, f3, f4, f5⟩ := fp
    have hln := rv.length
    refine codeAny_builtin PySem.F.entry_extend_loop ?_
    rw [Around.under_plainId PySem.F.plain_extend_loop _]
    show wpAny _ A1.in1 (pyNext (.ref it) >>= _) _ _ s
    refine wpAny_bind (wpAny_pyNext_tuple_end hh st (show s.heap.IsTuple l its.toArray from p) (by simp; omega) fun h' eb => ?_)
    exact wpAny_pure (hdone _ (I.turned (t' := s.toks) (fun b o hb e => eb b o hb e) f0 f1 f3 f4 f5))
  | succ m ih =>
    intro i s hi I st fp
    have hlt : i < zs.length := by omega
    have hx : zs[i]? = some zs[i] := List.getElem?_eq_getElem hlt
    obtain ⟨its, rv, p, hz⟩ := I.tuple (rd _)
    obtain ⟨u, hu, ru⟩ := rv.get hx
    obtain ⟨f0, f1, f2, f3, f4, f5⟩ := fp
    refine codeAny_builtin PySem.F.entry_extend_loop ?_
    rw [Around.under_plainId PySem.F.plain_extend_loop _]
    show wpAny _ A1.in1 (pyNext (.ref it) >>= _) _ _ s
    refine wpAny_bind (wpAny_pyNext_tuple_item st (show s.heap.IsTuple l its.toArray from p) (x := u) (by simpa using hu) fun h' st' sb => ?_)
    have I1 : Inv X pins σ (upd H q (.lst (zs.take i))) { s with heap := h' } := I.turned (t' := s.toks) (fun b o hb e => (sb.2 b hb).trans e) f0 f1 f3 f4 f5
    show wpAny _ A1.in1 (updateSeq q (·.push u) >>= _) _ _ _
    obtain ⟨z, its2, k2, r2, hl2, e2⟩ := I1.lstM upd_same
    have etk : zs.take (i + 1) = zs.take i ++ [zs[i]] := by rw [List.take_add_one, hx]; rfl
    have hlen : (zs.take i).length < sizeLine := by rw [List.length_take]; omega
    have hl3 := r2.length
    have nq : it ≠ q := fun z => by
      rw [z, upd_same] at f0
      cases f0
    refine wpAny_bind (wpAny_updateSeq e2 rfl (wpAny_pure ⟨plainId_quiet PySem.F.plain_extend_loop _, ?_⟩) (by rw [List.size_toArray]; omega) (by show (its2.toArray.push u).size ≤ sizeLine + 1; rw [Array.size_push, List.size_toArray]; omega))
    have I2 := I1.lset (f := (·.push u)) (its' := its2 ++ [u]) (ys := zs.take i ++ [zs[i]]) (t' := s.toks) upd_same e2 (by simp) (r2.append (.cons ru .nil)) (by rw [List.length_append, List.length_singleton]; omega)
    rw [upd_upd, ← etk] at I2
    refine ih (i + 1) _ (by omega) I2 ?_ ?_
    · exact st'.at fun o e => (Heap.get?_update_ne _ _ _ _ nq).trans e
    · exact ⟨by rw [upd_ne nq]; rw [upd_ne nq] at f0; exact f0, f1, f2, f3, f4, f5⟩
theorem fill_fromT {A1 : Around} {g : Str} {q dx : Addr} {Rs : Result → Shared → Prop} {fs : List (Str × V)} {zs : List V} (hr : Room 1 A1.in1) (hfr : A1.in1.frames = X.A.frames) (hh : A1.in1.handled = none) (O : ItOkT X.prog X.w X.K X.mg X.base C g) (n : NoLen X.K C)
    (I : L2.Inv X pins σ (upd H q (.lst [])) s) (ha : H a = some (.ins C dx fs)) (hq : H q = none) (hl : fs.lookup g = some (.ref l)) (hz : SqT X.K H l zs) (hzs : zs.length ≤ sizeLine) (hlq : l ≠ q)
    (hdone : ∀ s, L2.Inv X pins σ (upd H q (.lst zs)) s → Rs (.ok (.ret .none)) s) (herr : ∀ e s, X.xe e s → Rs (.error e) s) :
    wpAny (model X.prog X.w) A1.in1 (Builtin.List.listExtendWith (.ref q) (.ref a) .none)
      (fun fin s' => match fin with | .done f => Rs (.ok f) s' | .again c => c.quiet = true ∧ codeAny (model X.prog X.w) A1 c Rs s') (fun e s' => Rs (.error e) s') s := by
  have nqa : q ≠ a := (ne_of_none ha hq).symm
  have ha2 : upd H q (.lst []) a = some (.ins C dx fs) := (upd_ne nqa.symm).trans ha
  have hz2 : SqT X.K (upd H q (.lst [])) l zs := by
    have e : upd H q (.lst []) l = H l := upd_ne hlq
    unfold SqT Rd at hz ⊢
    simp only [e]
    exact hz
  obtain ⟨mA, J, _⟩ := ins_get I.hok ha2
  obtain ⟨od, J, _⟩ := J.look
  unfold Builtin.List.listExtendWith
  refine wpAny_bind (J.type.here ?_)
  have same : Builtin.List.listSameRef (.ref q) (.ref a) = false := by simp [Builtin.List.listSameRef, nqa]
  have notL : (Value.ref C == Value.type "list") = false := rfl
  have notT : (Value.ref C == Value.type "tuple") = false := rfl
  simp only [same, notL, notT, Bool.or_false, Bool.false_eq_true, if_false]
  refine wpAny_bind (wpAny_mono (run_iterT (X := X) (Q := fun v s' => ∃ it, v = .ref it ∧ L2.Inv X pins σ (upd H q (.lst [])) s' ∧ s'.heap.IsTupleIter it l 0 ∧ FpOk X pins (upd H q (.lst [])) it) hr hfr O I ha2 hl hz2 fun it s2 I2 st fp => ⟨it, rfl, I2, st, fp⟩) (fun v s2 ⟨it, ev, I2, st, fp⟩ => ?_) fun e s' he => herr e s' he)
  subst ev
  have sw : wpAny (model X.prog X.w) A1.in1 (holding [Value.ref it] (Builtin.List.listLengthHint (.ref a))) (fun b s' => b = true ∧ s' = s2) (fun e s' => Rs (.error e) s') s2 := by
    obtain ⟨mA, J, _⟩ := ins_get I2.hok ha2
    obtain ⟨od, J, _⟩ := J.look
    exact wpAny_holding (hint_yes n I2.kIn J ⟨rfl, rfl⟩)
  refine wpAny_bind (wpAny_mono sw (fun b s3 ⟨eb, es⟩ => ?_) fun _ _ z => z)
  subst eb
  subst es
  have go : ∀ s4, L2.Inv X pins σ (upd H q (.lst [])) s4 → s4.heap.IsTupleIter it l 0 → codeAny (model X.prog X.w) A1 (.builtin "list.extend.loop" ⟨[.ref q, .ref it, .none], []⟩) Rs s4 := fun s4 I4 st4 =>
    fill_loopT hh hlq hzs hz hdone zs.length 0 s4 (by omega) I4 st4 fp
  refine PySem.W.KFB.if_so rfl ?_
  obtain ⟨z, its, k1, r3, hl3, e3⟩ := I2.lstM upd_same
  cases r3
  refine wpAny_bind (wpAny_rule (wpAny_bind ?_))
  show wpAny _ _ (updateSeq q (·.push .none) >>= fun _ => updateSeq q (·.pop)) _ _ _
  refine wpAny_bind (wpAny_updateSeq e3 rfl ?_)
  have I5 := I2.lset (f := (·.push Value.none)) (its' := [Value.none]) (ys := [.non]) (t' := s3.toks) upd_same e3 (by simp) (.cons rfl .nil) (by rw [List.length_singleton, sizeLine_eq]; decide)
  obtain ⟨z4, its4, k4, r4, hl4, e4⟩ := I5.lstM upd_same
  obtain ⟨u4, rfl, ru4⟩ := r4.one
  have nq : it ≠ q := fun z => by
    have := fp.1
    rw [z, upd_same] at this
    cases this
  refine wpAny_updateSeq e4 rfl ?_ (by show 1 ≤ sizeLine; rw [sizeLine_eq]; decide) (by show 0 ≤ sizeLine + 1; exact Nat.zero_le _)
  have I6 := I5.lset (f := (·.pop)) (its := [u4]) (its' := []) (ys := []) (t' := s3.toks) upd_same e4 (by rfl) .nil (Nat.zero_le _)
  rw [upd_upd, upd_upd] at I6
  exact wpAny_pure ⟨plainId_quiet PySem.F.plain_extend_loop _, go _ I6 (st.at fun o e => (Heap.get?_update_ne _ _ _ _ nq).trans ((Heap.get?_update_ne _ _ _ _ nq).trans e))⟩
/-- list(o), o an instance of the class at C whose __iter__ walks the tuple in its field g -/
def rListYT (K : PySem.W.Frag) (C : Addr) (g : Str) : List V → Hp → VK → Prop := fun xs H Q => ∃ a dx fs l zs, xs = [.ref a] ∧ H a = some (.ins C dx fs) ∧ fs.lookup g = some (.ref l) ∧ SqT K H l zs ∧ ∀ q, H q = none → Q (.ref q) (upd H q (.lst zs))
theorem call_listYT {g : Str} (hc : X.calm = true) (O : ItOkT X.prog X.w X.K X.mg X.base C g) (n : NoLen X.K C) (hr : Room 3 X.A) : CallR X (.type "list") (rListYT X.K C g) := by
  intro pins s σ H xs us Q I rv h
  obtain ⟨a, dx, fs, l, zs, rfl, ha, hl, hz, hq⟩ := h
  obtain ⟨its0, _, ⟨o0, ho0, _⟩, hzs⟩ := I.tuple hz
  have hlq : l ≠ s.heap.objs.size := Nat.ne_of_lt (Heap.lt_size ho0)
  obtain ⟨u, rfl, ru⟩ := rv.one
  cases ru
  refine callType_codes (Q₁ := fun obj s₁ => obj = .ref s.heap.objs.size ∧ s₁ = { s with heap := s.heap.push { cls := .type "list", data := .seq #[] } })
    PySem.F.called_list (PySem.F.typeCall_list_1 _) PySem.F.entry_list_init (code_list_new _ ⟨rfl, rfl⟩) ?_
  rintro obj s₁ ⟨rfl, rfl⟩
  have hS : (s.heap.push { cls := .type "list", data := .seq #[] }).get? s.heap.objs.size = some { cls := .type "list", data := .seq #[] } := Heap.get?_push_size _ rfl
  refine ⟨⟨_, hS, rfl⟩, PySem.F.args_list_init_2 _ _, ?_⟩
  have fr := I.hok.fresh (Nat.le_refl _)
  have I1 : L2.Inv X pins σ (upd H s.heap.objs.size (.lst [])) { s with heap := s.heap.push { cls := .type "list", data := .seq #[] } } := I.lnew (its := []) (t' := s.toks) .nil (Nat.zero_le _)
  show wpAny _ _ (do
    let old ← Builtin.List.listItems (.ref s.heap.objs.size)
    Builtin.List.listUpdate (.ref s.heap.objs.size) (fun _ => #[])
    letGo old.toList.reverse
    Builtin.List.listExtendWith (.ref s.heap.objs.size) (.ref a) .none) _ _ _
  unfold Builtin.List.listItems
  refine wpAny_bind (wpAny_bind (wpAny_seqItems hS rfl (wpAny_pure ?_)))
  show wpAny _ _ (updateSeq s.heap.objs.size (fun _ => #[]) >>= fun _ => letGo (#[] : Array Value).toList.reverse >>= fun _ =>
    Builtin.List.listExtendWith (.ref s.heap.objs.size) (.ref a) .none) _ _ _
  refine wpAny_bind (wpAny_updateSeq hS rfl (wpAny_bind (wpAny_letGo ?_)))
  have I2 := I1.lset (f := fun _ => #[]) (its := []) (its' := []) (ys := []) (t' := s.toks) upd_same hS rfl .nil (Nat.zero_le _)
  rw [upd_upd] at I2
  have hr1 : Room 1 X.A.in1.in1 := Room.in1 (Room.in1 hr)
  exact fill_fromT (A1 := X.A.in1) (Rs := wants (fun r s₂ => r = .none ∧ EP X pins σ Q (.ref s.heap.objs.size) s₂) X.xe) hr1 rfl (by have := I.ok.hd hc; exact this) O n I2 ha fr hl hz hzs hlq
    (fun s' I' => ⟨rfl, .ref s.heap.objs.size, _, I', rfl, hq _ fr⟩) fun e s' he => he

end
section
variable {P : Program} {w : World} {K : PySem.W.Frag} {mg : Str → Option Value} {base : Heap} {x q : Str} {st : Stmt} {m k : Nat} {C : Addr} {ps N : List Str} {sp : Sp}
/-- def __iter__(self): return iter(self.g) -/
theorem itOkT_of {g : Str} (F : DfE K C "__iter__" q st 0) (S : FnScope ["self"] ["self"] (defScope st)) (b : BindE "__iter__" q st ["self"] 0)
    (ht : ∀ (f : Addr) (cdv : Value) (A : Around) (outer : List PySem.Env) (s : Shared) (H : Hp) (E : XK), ∃ t, PSs (cxOf CX0 P w K mg base ["self"] q (defScope st) f cdv A outer s H E).nox (defBody st) t ∧
      ∀ (a dx l : Addr) (fs : List (Str × V)) (zs : List V) (Q : VK), H a = some (.ins C dx fs) → fs.lookup g = some (.ref l) → SqT K H l zs → (∀ it, H it = none → s.heap.objs.size ≤ it → Q (.ref it) (upd H it (ItOT l it 0))) →
        t { nx := fun _ H' => Q .non H', rt := Q } (start ["self"] [.ref a]) H) : ItOkT P w K mg base C g := by
  obtain ⟨f, fd, F, h1, h2⟩ := F.ex
  refine ⟨f, h1, h2, fun A outer s H a dx l fs zs Q E hr e0 ha hl hz hq => ?_⟩
  have hB := F.binds b
  obtain ⟨oc, od, dV, kV, doc, pm, an, cdv, ct, osl, rfl, lk, hcd, hD⟩ := F.ex
  obtain ⟨t, h, ht⟩ := ht f cdv A outer s H E
  have KX : K.In s.heap := e0.mod.kin.keeps fun b o e => (e0.bs b o e).1
  exact run_from (CX := CX0) (us := [.ref a]) (vs := [.ref a]) lk hcd S rfl hr e0 (by
    have := hB s [.ref a] KX rfl
    simpa using this) (.cons rfl .nil) h.nox (ht a dx l fs zs Q ha hl hz hq)
end
theorem k_listYT {X : Cx} (K : PySem.W.Frag) {C : Addr} {g : Str} (O : ItOkT X.prog X.w X.K X.mg X.base C g) (n : NoLen X.K C) (hr : Room 3 X.A) (hc : X.calm = true := by rfl) (hK : X.K = K := by rfl) : CallR X (.type "list") (rListYT K C g) := by subst hK; exact call_listYT hc O n hr
theorem nw_recL {K : PySem.W.Frag} {G : Cells K} {α β : Type} {C : Addr} {f : Str} {F : RF K α} {r : Rp β} {get : α → List β} {x : α} {z : List β} {te : TE} (h : Ev (rRec K C F) te G x) (fa : FldAt F f (fz K (rT K r)) get) (e : get x = z) (M : Mono r) (Z : Frz K r) : Nw (nl K r) (tCB (rListYT K C f) (tCons te tNil)) G z := nw_cb (ea_cons h ea_nil) fun H vs ⟨v, ws, ev, ⟨as, a, dx, fs, bs, ea, _, h1, hf⟩, e2⟩ Q k => by
  obtain ⟨w, cs, hl, _, hw⟩ := fa _ _ _ _ hf
  obtain ⟨l, us, el, sq, hz⟩ := hw H (ExT.refl _)
  subst e
  exact ⟨a, dx, fs, l, us, by rw [ev, show ws = [] from e2, ea], h1, by rw [hl, el], sq, fun q hq => k _ _ [q] (same_new hq) (fun b hb => by rw [List.mem_singleton.mp hb]; exact hq) ⟨q, us, rfl, rfl, upd_same, hz.imp fun _ _ w => stb (M.up (same_new hq) w)⟩⟩
section
variable {K : PySem.W.Frag} {G : Cells K} {α : Type} {r : Rp α} {tb : TE} {i : Int} {x : α}
theorem ixc_E {xs : List α} [M : Mono r] (hi : Ev rI tb G i) (hx : atI xs i = some x) : IxC K (rEi K r) xs tb G r x := fun ta h => ev_op h hi fun H u v ⟨p, vs, ev, hp, z⟩ hv Q k => by
  obtain ⟨w, hw, hr⟩ := atI_A2 z hx
  rcases hp with hp | hp
  · exact .inl ⟨p, vs, i, w, ev, hv, SqL.of hp, hw, k w H (Same.refl H) hr⟩
  · exact .inr (.inl ⟨p, vs, i, w, ev, hv, hp, hw, k w H (Same.refl H) hr⟩)
theorem lnc_E {xs : List α} [M : Mono r] : LnC K (rEi K r) xs xs.length := fun G te h => ev_cb (ea_cons h ea_nil) fun H vs ⟨v, ws, e, ⟨p, us, ev, hp, z⟩, e2⟩ Q k =>
  ⟨v, us.length, by rw [e, show ws = [] from e2], by
    rw [ev]
    rcases hp with hp | hp
    · exact .inl ⟨us, SqL.of hp, rfl⟩
    · exact .inr ⟨us, hp, rfl⟩, k _ H (Same.refl H) (by rw [z.len]; rfl)⟩
end
theorem pe_mth0 {X : Cx} {C : Addr} {k : Nat} {ps : List Str} {sp : Sp} {m : Str} {pos apos : Pos} {o : Expr} {ta : TE} (ho : PE X o ta) (c : Cls X.K C) (M : CalM X.prog X.w X.K X.mg X.base CX0 C m k ps sp) (hr : Room k X.A) {pl : Sem Bool}
    (ht : eval (.Call (.Attribute o m apos) [] [] pos) X.env = (do
      let ov ← eval o X.env
      standAt apos.atName
      let (f, first) ← holding [ov] (getMethod ov m pl)
      callWith pos f first (backTo pos (starEach [] X.env)) (backToKw pos (keywordEach [] X.env))) := by rfl) : PE X (.Call (.Attribute o m apos) [] [] pos) (tMeth C m sp [] E0 ta tNil) := by
  obtain ⟨f, fd, F, hm, b⟩ := M.ex
  exact pe_meth0 ho c hm F hr b .nil pass0 ht
end Gt
/-! Gt26: enumerate(list, start=k), starred list displays, classmethods, a class held in a name. -/
namespace Gt
open PySem PySem.Spec PyProof.Rows L2
/-! ### the call of a built-in class with keywords -/
section
variable {M : Model} {A : Around} {E : Value → Shared → Prop} {s : Shared} {env : PySem.Env}
theorem cw_typeKwB {pos : Pos} {T : String} {args : List (Bool × Sem Value)} {keywords : List (Option Str × Sem Value)} {Q : Value → Shared → Prop}
    (hplain : args.any (·.1) = false) (hkw : keywords.any (·.1.isNone) = false)
    (h : wpAny M A (evalArgs (.type T) true args keywords) (fun a s₁ => wpAny M A (call (.type T) a.pos a.kw) Q E s₁) E s) :
    wpAny M A (callWith pos (.type T) [] args keywords) Q E s := by
  unfold callWith
  refine wpAny_bind (wpAny_holding (wpAny_mono h (fun a s₁ h₁ => wpAny_bind (wpAny_standAt ?_)) fun _ _ x => x))
  simp only [hplain, hkw, Bool.or_false]
  refine wpAny_bind (wpAny_pure ?_)
  exact wpAny_bind (wpAny_mono h₁ (fun r s₂ hr => wpAny_bind (wpAny_holding (wpAny_point (wpAny_pure hr)))) fun _ _ x => x)
theorem cw_typeKw {pos : Pos} {T : String} {e : Expr} {rest : List Expr} {kws : List Keyword} {Q : Value → Shared → Prop}
    (h : wpAny M A (spliced (backTo pos (starEach (e :: rest) env))) (fun vs s₁ => wpAny M A (evalAll ((backToKw pos (keywordEach kws env)).map (·.2)))
      (fun kvs s₂ => wpAny M A (call (.type T) vs (((backToKw pos (keywordEach kws env)).filterMap (·.1)).zip kvs)) Q E s₂) E s₁) E s)
    (he : backTo pos (starEach (e :: rest) env) = (false, eval e env) :: backTo pos (starEach rest env))
    (hplain : (backTo pos (starEach (e :: rest) env)).any (·.1) = false)
    (hall : (backToKw pos (keywordEach kws env)).all (·.1.isSome) = true)
    (hkw : (backToKw pos (keywordEach kws env)).any (·.1.isNone) = false) :
    wpAny M A (callWith pos (.type T) [] (backTo pos (starEach (e :: rest) env)) (backToKw pos (keywordEach kws env))) Q E s := by
  refine cw_typeKwB hplain hkw ?_
  rw [he] at h ⊢
  exact PyProof.Rows.evalArgs_kwB hall h
end
/-! ### enumerate(xs, start=k) -/
def IteS (K : PySem.W.Frag) (a : Addr) (k : Int) : It :=
  ⟨fun i H => ∃ (xs : List V) (x : V), SqL K H a xs ∧ xs[i]? = some x, fun i H v H' => ∃ T x, v = .ref T ∧ H T = none ∧ H' = upd H T (.tup [.int (k + (i : Nat)), x]) ∧ ∀ xs, SqL K H a xs → xs[i]? = some x, fun i H => ∃ xs : List V, SqL K H a xs ∧ xs.length = i⟩
theorem turn_enumS {P : Program} {w : World} {K : PySem.W.Frag} {elts : List Expr} {kk : Nat} {tpos : Pos} (a e it : Addr) (k : Int) (hae : a ≠ it) (hee : e ≠ a) :
    Turn P w K (.Tuple elts kk tpos) (IteS K a k) [e, it] e (fun i h => (∃ old, IsEnum h e it (k + (i : Nat)) old) ∧ h.IsListIter it a i ∧ e ≠ it) where
  mem := by simp
  obj := fun i h st b hb => by
    obtain ⟨⟨old, he⟩, ⟨o, ho, hc, hd⟩, _⟩ := st
    have e' : b = e ∨ b = it := by simpa using hb
    rcases e' with z | z
    · rw [z]; exact ⟨_, he, fun v q => nomatch q⟩
    · rw [z]; exact ⟨o, ho, fun v q => by rw [hd] at q; cases q⟩
  keep := fun i h h' st k => let ⟨⟨old, he⟩, hi, hne⟩ := st; ⟨⟨old, k e (by simp) _ he⟩, hi.at fun o q => k it (by simp) o q, hne⟩
  item := by
    intro X hP hw hK hc i pins s σ H E I hf st hg
    subst hP hw hK
    obtain ⟨⟨old, he⟩, hit, hne⟩ := st
    obtain ⟨xs, x, hq, hx⟩ := hg
    obtain ⟨its, rv, p, hz⟩ := I.list hq
    obtain ⟨u, hu, ru⟩ := rv.get hx
    have hel : e < s.heap.objs.size := Heap.lt_size he
    have hil : it < s.heap.objs.size := by obtain ⟨_, q, _⟩ := hit; exact Heap.lt_size q
    have hlt : i < its.toArray.size := by
      have := (List.getElem?_eq_some_iff.mp hu).1
      simpa using this
    have hh : X.A.in1.handled = none := I.ok.hd hc
    refine wpAny_pyNext_enum_itemC (Draws.list (prog := X.prog) (w := X.w) (A := X.A.in1) hh it a hae its.toArray) he ⟨hit, p.isList⟩ hlt hne (by simp only [List.mem_cons, List.not_mem_nil, or_false, not_or]; exact ⟨hne, hee⟩) fun u' h' tk hP' ho hst' hT hsz hk => ?_
    have hu' : u' = u := by
      have q : its.toArray[i]? = some u' := hP'
      have q2 : its.toArray[i]? = some u := by simpa using hu
      rw [q2] at q
      cases q
      rfl
    subst hu'
    have hit' := hst'.1
    refine ⟨_, rfl, wpAny_letOwnedTupleGo_enum (s := { s with heap := h', toks := tk + 1 }) ho fun h'' he' sb => ?_⟩
    have hT2 : h''.get? s.heap.objs.size = some { cls := .type "tuple", data := .seq #[.int (k + (i : Nat)) tk, u'] } := (sb.2 _ (Nat.ne_of_gt hel)).trans hT
    have new : ObjOk X.prog X.w (upd H s.heap.objs.size (.tup [.int (k + (i : Nat)), x])) h'' s.heap.objs.size (.tup [.int (k + (i : Nat)), x]) :=
      ⟨by show 2 ≤ sizeLine; decide, [.int (k + (i : Nat)) tk, u'], .cons ⟨_, rfl⟩ (.cons ru .nil), ⟨_, hT2, rfl, _, rfl⟩⟩
    have I1 : Inv X pins σ (upd H s.heap.objs.size (.tup [.int (k + (i : Nat)), x])) { s with heap := h'', toks := tk + 1 } :=
      I.turnedNew (ch := [e, it]) (fun b ob hb q => (sb.2 b (fun z => hb (by simp [z]))).trans (hk b ob (fun z => hb (by simp [z])) (fun z => hb (by simp [z])) q)) hf (Nat.le_refl _) new
    refine ⟨.ref s.heap.objs.size, _, I1, rfl, ⟨_, x, rfl, I.hok.fresh (Nat.le_refl _), rfl, fun ys hy => by rw [I.list_inj hy hq]; exact hx⟩, ⟨⟨u', ?_⟩, hit'.at fun o q => (sb.2 it (Ne.symm hne)).trans q, hne⟩, fun b hb => ?_⟩
    · have e1 : k + ((i + 1 : Nat) : Int) = k + (i : Int) + 1 := by omega
      rw [e1]; exact he'
    · have hb' : b < s.heap.objs.size := by
        have e' : b = e ∨ b = it := by simpa using hb
        rcases e' with z | z
        · rw [z]; exact hel
        · rw [z]; exact hil
      rw [upd_ne (Nat.ne_of_lt hb')]
      exact (hf b hb).1
  done := by
    intro X hP hw hK hc i pins s σ H E I hf st hg
    subst hP hw hK
    obtain ⟨⟨old, he⟩, hit, hne⟩ := st
    obtain ⟨xs, hq, hx⟩ := hg
    obtain ⟨its, rv, p, hz⟩ := I.list hq
    obtain ⟨f0, f1, f2, f3, f4, f5⟩ := hf it (by simp)
    have hl := rv.length
    have hn : i = its.toArray.size := by simp; omega
    subst hn
    have hae : a ≠ it := hae
    exact wpAny_pyNext_enum_endD (Draws.list (prog := X.prog) (w := X.w) (A := X.A.in1) (I.ok.hd hc) it a hae its.toArray) he ⟨hit, p.isList⟩ fun h' eb => ⟨rfl, I.turned (t' := s.toks) (fun b o hb q => eb b o hb q) f0 f1 f3 f4 f5⟩
  self := fun A i s Q E st h => let ⟨⟨_, he⟩, _⟩ := st; wpAny_pyIter_enum he h
def iEnumS (K : PySem.W.Frag) (ta : TA) (tk : TE) : TI := fun σ H R => ta σ H fun vs H1 => tk σ H1 fun u H2 => ∃ a xs k, vs = [.ref a] ∧ u = .int k ∧ SqL K H2 a xs ∧ -(2 ^ 63) ≤ k ∧ k < 2 ^ 63 ∧ R (IteS K a k) H2
theorem pi_enumS (K : PySem.W.Frag) {X : Cx} {e ek : Expr} {ta : TA} {tk : TE} {p pos kpos tpos : Pos} {elts : List Expr} {kk : Nat} (hg : Gl X "enumerate") (hm : X.mg "enumerate" = none) (ha : PA X [e] ta) (hk : PE X ek tk)
    (hs : starEach [e] X.env = [(false, eval e X.env)] := by rfl) (hK : X.K = K := by rfl) :
    PI X (.Tuple elts kk tpos) (.Call (.Name "enumerate" p) [e] [⟨some (Str.ofString "start"), ek, kpos⟩] pos) (iEnumS K ta tk) := by
  subst hK
  refine ⟨fun pins s σ H R I h => ?_⟩
  refine wpAny_Call_Name_kw (ld_blt I hg hm boot_enumerate ?_)
  have hkw : PK X [⟨some (Str.ofString "start"), ek, kpos⟩] (tCons tk tNil) := pk_cons hk pk_nil
  refine cw_typeKw (thn (ha.run pos pins s σ H _ I h) fun us s1 ⟨vs, H1, I1, r1, q1⟩ => thn (hkw.run pos pins s1 σ H1 (fun ks H2 => match ks with | [u] => ∃ a xs k, vs = [.ref a] ∧ u = .int k ∧ SqL X.K H2 a xs ∧ -(2 ^ 63) ≤ k ∧ k < 2 ^ 63 ∧ R (IteS X.K a k) H2 | _ => False) I1 q1) fun ks s2 ⟨kv, H2, I2, r2, q2⟩ => ?_) (by rw [hs]; rfl) (by rw [hs]; rfl) rfl rfl
  · cases r2 with
    | nil => exact q2.elim
    | cons r' rr' =>
      cases rr' with
      | cons _ _ => exact q2.elim
      | nil =>
        obtain ⟨a, xs, k, ev, eu, hq, k0, k1, q⟩ := q2
        subst ev eu
        obtain ⟨ua, rfl, hra⟩ := r1.one
        obtain rfl : ua = Value.ref a := hra
        obtain ⟨t, rfl⟩ := r'
        obtain ⟨its, rv, p', hz⟩ := I2.list hq
        show wpAny _ _ (call (.type "enumerate") [.ref a] [(Str.ofString "start", .int k t)]) _ _ s2
        refine enum_begins_start (begins_list a its.toArray) p'.isList k0 k1 fun h' he hit hsz hk2 => wpAny_pyIter_enum he ?_
        have I3 : Inv X pins σ H2 { s2 with heap := h' } := I2.kept (t' := s2.toks) hk2
        have hal : a < s2.heap.objs.size := by
          obtain ⟨o, ho, _⟩ := p'.isList
          exact Heap.lt_size ho
        have e0 : k + ((0 : Nat) : Int) = k := by simp
        refine ⟨s2.heap.objs.size + 1, [s2.heap.objs.size + 1, s2.heap.objs.size], _, _, H2, rfl, I3, turn_enumS a (s2.heap.objs.size + 1) s2.heap.objs.size k (Nat.ne_of_lt hal) (Nat.ne_of_gt (Nat.lt_succ_of_lt hal)), ⟨⟨.none, by rw [e0]; exact he⟩, ⟨_, hit, rfl, rfl⟩, Nat.succ_ne_self _⟩, fun b hb => ?_, q⟩
        have e' : b = s2.heap.objs.size + 1 ∨ b = s2.heap.objs.size := by simpa using hb
        have hle : s2.heap.objs.size ≤ b := by
          rcases e' with z | z
          · rw [z]; exact Nat.le_add_right _ _
          · rw [z]; exact Nat.le_refl _
        exact I2.fpOk hle (I2.hok.fresh hle)
def enumFrom {α : Type} : Int → List α → List (Int × α)
  | _, [] => []
  | k, x :: xs => (k, x) :: enumFrom (k + 1) xs
theorem enumFrom_get {α : Type} : ∀ (xs : List α) (k : Int) (i : Nat), (enumFrom k xs)[i]? = xs[i]?.map fun x => (k + (i : Nat), x)
  | [], _, _ => rfl
  | x :: xs, k, 0 => by show some (k, x) = some (k + ((0 : Nat) : Int), x); rw [show k + ((0 : Nat) : Int) = k by simp]
  | x :: xs, k, i + 1 => by
    have h := enumFrom_get xs (k + 1) i
    show (enumFrom (k + 1) xs)[i]? = xs[i]?.map fun x => (k + ((i + 1 : Nat) : Int), x)
    rw [h, show k + 1 + (i : Int) = k + ((i + 1 : Nat) : Int) by omega]
theorem enumFrom_len {α : Type} : ∀ (xs : List α) (k : Int), (enumFrom k xs).length = xs.length
  | [], _ => rfl
  | x :: xs, k => by show (enumFrom (k + 1) xs).length + 1 = _; rw [enumFrom_len xs]; rfl
section
variable {K : PySem.W.Frag} {H0 H1 H2 H : Hp} {G G' : Cells K} {α β γ ρ : Type} {r : Rp α} {R : Rs K ρ} {D : Ends} {u : TS}
theorem wj_enumS [M : Mono r] {a : Addr} {vs : List V} {xs : List α} {k : Int} (h : H1 a = some (.lst vs)) (q : A2 (r H1) vs xs) : Wj (IteS K a k) (rP K rI r) H1 (enumFrom k xs) where
  go := fun H i x e hx => by
    rw [enumFrom_get] at hx
    cases hy : xs[i]? with
    | none => rw [hy] at hx; cases hx
    | some y =>
      rw [hy] at hx
      cases hx
      obtain ⟨v, hv, z⟩ := q.get' hy
      refine ⟨⟨vs, v, SqL.of (e _ _ h), hv⟩, fun w H' ⟨T, x', ew, hT, eH, hx'⟩ => ?_⟩
      have hx2 := hx' vs (SqL.of (e _ _ h))
      rw [hv] at hx2
      cases hx2
      subst eH
      exact ⟨same_new hT, T, _, _, ew, SqT.of upd_same, rfl, M.up (e.trans (same_new hT)) z⟩
  stop := fun H e => ⟨vs, SqL.of (e _ _ h), by rw [enumFrom_len]; exact q.len⟩
theorem wk_enumOwn {i : Nat} {xs : List α} {k : Int} [M : Mono r] (h : G[i]? = some (some (.ow (nl K r) xs))) (hk : -(2 ^ 63) ≤ k ∧ k < 2 ^ 63) : Wk (iEnumS K (tCons (tVar i) tNil) (tC (.int k))) (rP K rI r) G (G.set i (rc (rL r) xs)) (enumFrom k xs) := fun H1 σ H E R kk => by
  obtain ⟨H2, s1, x, E2⟩ := E.freeze h M
  obtain ⟨own, _, _, h3⟩ := E2.at_
  have hl : i < G.length := (List.getElem?_eq_some_iff.mp h).1
  obtain ⟨v, hv, _, p, vs, e2, e3, e4⟩ := h3 i _ (List.getElem?_set_self hl)
  refine ⟨v, hv, p, vs, k, by rw [e2], rfl, SqL.of (E2.old _ _ e3), hk.1, hk.2, kk _ H2 H s1 (Same.refl _) E2 (wj_enumS e3 e4)⟩
/-! ### [a, *t] -/
theorem a_starT {te : TE} {t : TA} {xs ys : List α} (h : Ev (rT K r) te G xs) (M : Mono r) (hr : EvA (aAll r) t G ys) : EvA (aAll r) (StX.tStar K te t) G (xs ++ ys) := fun H0 σ H E Q k =>
  h H0 σ H E _ fun v H1 e1 ⟨a, vs, ev, hq, z⟩ => ⟨a, vs, ev, .inl hq, hr H0 σ H1 (E.grow e1) _ fun ws H2 e2 z2 => k _ H2 (e1.trans e2) (A2.app z2 (z.imp fun _ _ w => M.up e2 w))⟩
theorem pa_starK (K : PySem.W.Frag) {X : Cx} {e : Expr} {es : List Expr} {te : TE} {t : TA} {p : Pos} (he : PE X e te) (hr : PA X es t) (hs : starEach (.Starred e p :: es) X.env = (true, eval e X.env) :: starEach es X.env := by rfl) (hK : X.K = K := by rfl) : PA X (.Starred e p :: es) (StX.tStar K te t) := by
  subst hK
  exact StX.pa_star he hr hs
/-! ### a new thing by if-else -/
theorem nw_if {tt : TT} {ta tb : TE} {c : Bool} {a b : ρ} (h : EvT tt G c) (h1 : c = true → Nw R ta G a) (h2 : c = false → Nw R tb G b) : Nw R (tIf tt ta tb) G (bif c then a else b) := fun H0 σ H E Q k => h H0 σ H E _ fun H1 e1 => by
  cases c with
  | true => exact iteT (h1 rfl H0 σ H1 (E.grow e1) _ fun w H2 as e2 hn z2 => k w H2 as (e1.trans e2) (fun p hp => free_back e1 (hn p hp)) z2)
  | false => exact iteF (h2 rfl H0 σ H1 (E.grow e1) _ fun w H2 as e2 hn z2 => k w H2 as (e1.trans e2) (fun p hp => free_back e1 (hn p hp)) z2)
theorem nw_ifM {tt : TT} {ta tb : TE} {c : Bool} {x : ρ} {m1 m2 : M ρ} (h : EvT tt G c) (h1 : ∀ y, m1 = .ok y → Nw R ta G y) (h2 : ∀ y, m2 = .ok y → Nw R tb G y) (e : (bif c then m1 else m2) = .ok x) : Nw R (tIf tt ta tb) G x := by
  cases c with
  | true => exact (nw_if (b := x) h (fun _ => h1 x e) fun z => nomatch z)
  | false => exact (nw_if (a := x) h (fun z => nomatch z) fun _ => h2 x e)
/-! ### a class in a name -/
def rCls (C : Addr) : Rp Unit := fun _ v _ => v = .ref C
instance {C : Addr} : Mono (rCls C) := ⟨fun _ h => h⟩
instance {C : Addr} : Frz K (rCls C) := ⟨fun _ h => h⟩
theorem ev_cls {C : Addr} {y : Unit} : Ev (rCls C) (tC (.ref C)) G y := fun H0 σ H E Q k => k _ H (Same.refl H) rfl
def tMakeV (tv : TE) (C : Addr) (sp : Sp) (dvs : List V) (E : XK) (t : TA) : TE := fun σ H Q => tv σ H fun v H1 => v = .ref C ∧ tMake C sp dvs E t σ H1 Q
theorem nw_mkV {C : Addr} {tv : TE} {sp : Sp} {dvs : List V} {E' : XK} {t : TA} {xs : ρ} {y : Unit} (hv : Ev (rCls C) tv G y) (h : Nw R (tMake C sp dvs E' t) G xs) : Nw R (tMakeV tv C sp dvs E' t) G xs := fun H0 σ H E Q k =>
  hv H0 σ H E _ fun v H1 e1 z => ⟨z, h H0 σ H1 (E.grow e1) _ fun w H2 as e2 hn hw => k w H2 as (e1.trans e2) (fun p hp => free_back e1 (hn p hp)) hw⟩
theorem have_frz {σ : L2.St} {i : Nat} {xs : List α} [M : Mono r] (h : G[i]? = some (some (.ow (nl K r) xs))) (hv : Have H0 G σ H) : Have H0 (G.set i (rc (rL r) xs)) σ H := by
  obtain ⟨H1, e, E⟩ := hv
  obtain ⟨H2, s1, x, E2⟩ := E.freeze h M
  exact ⟨H2, e.trans s1, E2⟩
/-! ### classmethods -/
def tCMethS (C : Addr) (sp : Sp) (E : L2.St → XK) (ta : TE) (t : TA) : TE := fun σ H Q => ta σ H fun x H1 => x = .ref C ∧ t σ H1 fun vs H2 => sp (.ref C :: vs) H2 Q (E σ)
theorem nw_cm {C : Addr} {A : Ra γ} {g : γ} {m : Unit × γ → M ρ} {b : ρ} {E' : L2.St → XK} {ta : TE} {t : TA} (hc : Ev (rCls C) ta G ()) (h : EvA A t G g) (e : MOk m ((), g) b) : Nw R (tCMethS C (spXN (aC (rCls C) A) R m) E' ta t) G b := fun H0 σ H E Q k =>
  hc H0 σ H E _ fun v H1 e1 z => ⟨z, h H0 σ H1 (E.grow e1) _ fun vs H2 e2 hvs => ⟨((), g), ⟨_, vs, rfl, rfl, hvs⟩, nstk_ok e, fun c hc w H3 as e3 hn hw => k w H3 as ((e1.trans e2).trans e3) (fun p hp => free_back (e1.trans e2) (hn p hp)) (by rw [show m ((), g) = .ok b from e] at hc; cases hc; exact hw),
    fun x fs q => by rw [show m ((), g) = .ok b from e] at q; cases q⟩⟩
theorem ee_cm {C : Addr} {A : Ra γ} {g : γ} {m : Unit × γ → M ρ} {W : WX} {ta : TE} {t : TA} {o : M ρ} {y : Unit} (hc : Ev (rCls C) ta G y) (h : EvA A t G g) (e : m ((), g) = o) (w : WOk H0 G W o) : EvE H0 R (tCMethS C (spXN (aC (rCls C) A) R m) (WE W) ta t) G o := fun σ H ⟨H1, e1, E⟩ Q k =>
  hc H1 σ H E _ fun v H2 e2 z => ⟨z, h H1 σ H2 (E.grow e2) _ fun vs H3 e3 hvs => ⟨((), g), ⟨_, vs, rfl, rfl, hvs⟩, by rw [e]; exact w.1, fun b hb v H4 as e4 hn hv => k b (e ▸ hb) v H4 as ((e2.trans e3).trans e4) (fun p hp => free_back (e2.trans e3) (hn p hp)) hv,
    fun x fs he d H4 e4 hn hx => w.2 x fs (e ▸ he) σ H3 H4 ⟨H1, e1, (E.grow e2).grow e3⟩ e4 d hn hx⟩⟩
/-- try: x = C.m(..) -/
theorem q_tryCM {i j : Nat} {C : Addr} {c : Value} {ts : Addr → Value → Option Addr → TS} {Wout : WX} {A : Ra γ} {g : γ} {m : Unit × γ → M ρ} {ta : TE} {t : TA} {o : M ρ} {y : Unit} (hc : Ev (rCls C) ta G y) (h : EvA A t G g) (e : m ((), g) = o)
    (w : WOk H0 G (wAs K c j ts Wout { D with nx := u D }) o) (k : ∀ b, o = .ok b → Sv H0 (G.set i (some (.ow R b))) u D) :
    Sv H0 G (tSeq (fun D σ H => tAsg (tCMethS C (spXN (aC (rCls C) A) R m) (WE (wAs K c j ts Wout D)) ta t) (gName i) D σ H) u) D := l_asgE (D := { D with nx := u D }) (ee_cm hc h e w) k
theorem l_tryCM {i j : Nat} {C : Addr} {c : Value} {ts : Addr → Value → Option Addr → TS} {Wout : WX} {A : Ra γ} {g : γ} {m : Unit × γ → M ρ} {ta : TE} {t : TA} {o : M ρ} {y : Unit} (hc : Ev (rCls C) ta G y) (h : EvA A t G g) (e : m ((), g) = o)
    (w : WOk H0 G (wAs K c j ts Wout D) o) (k : ∀ b, o = .ok b → Nx H0 (G.set i (some (.ow R b))) D.nx) :
    Sv H0 G (fun D σ H => tAsg (tCMethS C (spXN (aC (rCls C) A) R m) (WE (wAs K c j ts Wout D)) ta t) (gName i) D σ H) D := l_asgE (ee_cm hc h e w) k
end
structure CalC (P : Program) (w : World) (K : PySem.W.Frag) (mg : Str → Option Value) (base : Heap) (C : Addr) (m : Str) (k : Nat) (sp : Sp) : Prop where
  ex : ∃ p g, ClX.CRead K C (.type "type") ∧ ClX.CMet K C (.type "type") m p g ∧ FnR P w K mg base (L2.CX P w) k g sp
structure DfC (K : PySem.W.Frag) (C : Addr) (x q : Str) (st : Stmt) : Prop where
  ex : ∃ (p f : Addr) (fd : FuncData), FunE K x q st 0 f fd ∧ ClX.CRead K C (.type "type") ∧ ClX.CMet K C (.type "type") x p f
section
variable {P : Program} {w : World} {K : PySem.W.Frag} {mg : Str → Option Value} {base : Heap} {C : Addr} {x q : Str} {st : Stmt} {N ps : List Str} {k : Nat} {sp : Sp}
theorem calC_of (F : DfC K C x q st) (S : FnScope N ps (defScope st)) (len : ∀ vs H Q E, sp vs H Q E → vs.length = ps.length) (b : BindE x q st ps 0)
    (hbody : ∀ (cdv : Value) (f : Addr) (A : Around) (outer : List PySem.Env) (s : Shared) (H : Hp) (vs : List V) (Q : VK) (E : XK), Room k (A.deeper (envOfC q (defScope st) s.heap.objs.size f cdv)) → sp vs H Q E →
      ∃ t, PSs (cxOf (L2.CX P w) P w K mg base N q (defScope st) f cdv A outer s H E) (defBody st) t ∧ t { nx := fun _ H' => Q .non H', rt := Q } (start N vs) H) : CalC P w K mg base C x (k + 1) sp := by
  obtain ⟨p, f, fd, F, h1, h2⟩ := F.ex
  have F1 := F.ok (P := P) (w := w) (mg := mg) (base := base) S len fun cdv A outer s H vs Q E hr h => hbody cdv f A outer s H vs Q E hr h
  exact ⟨p, f, h1, h2, (F1.raw (F.binds b) .nil).imp fun vs H Q E h => by rw [List.append_nil]; exact h⟩
end
section
variable {X : Cx} {C : Addr} {k : Nat} {ps : List Str} {sp : Sp} {W : WX} {x m : Str} {o e : Expr} {es : List Expr} {tv ta : TE} {t : TA} {p pos apos : Pos} {pl : Sem Bool}
theorem pe_mkV (I : CalI X.prog X.w X.K X.mg X.base CX0 C k ps sp) (hr : Room (k + 1) X.A) (hv : PE X (.Name x p) tv) (ha : PA X (e :: es) t)
    (he : starEach (e :: es) X.env = (false, eval e X.env) :: starEach es X.env := by rfl) (hpl : (backTo pos (starEach es X.env)).any (·.1) = false := by rfl) : PE X (.Call (.Name x p) (e :: es) [] pos) (tMakeV tv C sp [] E0 t) := by
  obtain ⟨f, fd, F, M, b⟩ := I.ex
  refine ⟨fun pins s σ H Q I h => ?_⟩
  refine wpAny_Call_Name_kw (thn (hv.run pins s σ H _ I h) fun u s1 ⟨v, H1, I1, rv, ev, q⟩ => ?_)
  subst ev
  obtain rfl : u = Value.ref C := rv
  refine PySem.W.callWith_K (h₀ := X.base) I1.ok.mod.kin M.kp (thn (ha.run pos pins s1 σ H1 _ I1 q) fun us s2 ⟨vs, H2, I2, r, q⟩ => ⟨I2.kIn, ?_⟩) he hpl
  exact run_make M F hr b .nil pass0 I2 r q
theorem pe_cmS (M : CalC X.prog X.w X.K X.mg X.base C m k sp) (hr : Room k X.A) (tk : Takes X W) (he : PE X o ta) (ha : PA X (e :: es) t)
    (hst : starEach (e :: es) X.env = (false, eval e X.env) :: starEach es X.env := by rfl) (hpl : (backTo pos (starEach es X.env)).any (·.1) = false := by rfl)
    (ht : eval (.Call (.Attribute o m apos) (e :: es) [] pos) X.env = (do
      let ov ← eval o X.env
      standAt apos.atName
      let (f, first) ← holding [ov] (getMethod ov m pl)
      callWith pos f first (backTo pos (starEach (e :: es) X.env)) (backToKw pos (keywordEach [] X.env))) := by rfl) :
    PE X (.Call (.Attribute o m apos) (e :: es) [] pos) (tCMethS C sp (WE W) ta t) := by
  obtain ⟨p, g, r, c, F⟩ := M.ex
  refine ⟨fun pins s σ H Q I h => ?_⟩
  refine PySem.W.methodCall_KW (pl := pl) (thn (he.run pins s σ H _ I h) fun u s1 ⟨x, H1, I1, rx, ex, q⟩ => ?_) ht
  subst ex
  obtain rfl : u = Value.ref C := rx
  refine ClX.getmethcm_ok I1 r c fun s2 I2 => ?_
  refine ClX.callwith_cm I2 (ClX.base_none I1 (Nat.le_refl _)) c.fi (thn (ha.run pos _ s2 σ H1 _ I2 q) fun us s3 ⟨vs, H2, I3, rv, q2⟩ => ⟨⟨ClX.pin_at I3, I3.kIn⟩, ?_⟩) hst hpl
  have z : wpAny (model X.prog X.w) X.A (call (.ref s1.heap.objs.size) us) (EP X ((s1.heap.objs.size, PySem.W.methodObj (.ref g) (.ref C)) :: pins) σ Q) X.xe s3 := by
    refine wpAny_call (PySem.W.method_call (ClX.pin_at I3) (codeAny_mono (F X.A X.stack s3 H2 (.ref C :: us) (.ref C :: vs) Q (WE W σ) hr I3.env0 (.cons rfl rv) q2) fun r s' hq => ?_))
    cases r with
    | error er => exact passAt tk σ _ H2 s3 er s' I3 hq
    | ok fl =>
      cases fl with
      | ret u => exact I3.after hq
      | next => exact False.elim hq
      | brk => exact False.elim hq
      | cont => exact False.elim hq
  exact thn z fun _ _ y => ClX.unpinE y
end
end Gt
/-! Gt27: owned things within owned things: lists of lists, dicts of lists; places in them, and what changes there. -/
namespace Gt
open PySem PySem.Spec PyProof.Rows L2
/-- two lists and the addresses of each pair -/
inductive A3 {α β : Type} (r : α → β → List Addr → Prop) : List α → List β → List (List Addr) → Prop
  | nil : A3 r [] [] []
  | cons {a : α} {b : β} {s : List Addr} {as : List α} {bs : List β} {ss : List (List Addr)} : r a b s → A3 r as bs ss → A3 r (a :: as) (b :: bs) (s :: ss)
section
variable {α β : Type} {r q : α → β → List Addr → Prop} {as as' : List α} {bs bs' : List β} {ss ss' : List (List Addr)} {a : α} {b : β} {s : List Addr} {j : Nat}
theorem A3.imp (h : A3 r as bs ss) (f : ∀ a b s, s ∈ ss → r a b s → q a b s) : A3 q as bs ss := by
  induction h with
  | nil => exact .nil
  | cons h1 h2 ih => exact .cons (f _ _ _ (List.mem_cons_self ..) h1) (ih fun a b s hs => f a b s (List.mem_cons_of_mem _ hs))
theorem A3.len (h : A3 r as bs ss) : as.length = bs.length := by
  induction h with
  | nil => rfl
  | cons h1 h2 ih => rw [List.length_cons, List.length_cons, ih]
theorem A3.lens (h : A3 r as bs ss) : ss.length = bs.length := by
  induction h with
  | nil => rfl
  | cons h1 h2 ih => rw [List.length_cons, List.length_cons, ih]
theorem A3.get (h : A3 r as bs ss) (hb : bs[j]? = some b) : ∃ a s, as[j]? = some a ∧ ss[j]? = some s ∧ r a b s := by
  induction h generalizing j with
  | nil => simp at hb
  | cons h1 h2 ih =>
    cases j with
    | zero => cases hb; exact ⟨_, _, rfl, rfl, h1⟩
    | succ j => exact ih (j := j) (by simpa using hb)
theorem A3.app (h : A3 r as bs ss) (h' : A3 r as' bs' ss') : A3 r (as ++ as') (bs ++ bs') (ss ++ ss') := by
  induction h with
  | nil => exact h'
  | cons h1 h2 ih => exact .cons h1 ih
/-- one pair is changed, the others stay -/
theorem A3.put (h : A3 r as bs ss) (f : ∀ k a b s, k ≠ j → ss[k]? = some s → r a b s → q a b s) (n : q a b s) : A3 q (as.set j a) (bs.set j b) (ss.set j s) := by
  induction h generalizing j with
  | nil => exact .nil
  | @cons x y t as bs ss h1 h2 ih =>
    cases j with
    | zero => exact .cons n (h2.imp fun a b s hs => by
        obtain ⟨k, hk⟩ := List.mem_iff_getElem?.mp hs
        exact f (k + 1) a b s (Nat.succ_ne_zero k) (by simpa using hk))
    | succ j => exact .cons (f 0 _ _ _ (Nat.succ_ne_zero j).symm rfl h1) (ih fun k a b s hk hs => f (k + 1) a b s (fun e => hk (Nat.succ.inj e)) (by simpa using hs))
theorem A3.two (h : A3 r as bs ss) : A2 (fun a b => ∃ s, r a b s) as bs := by
  induction h with
  | nil => exact .nil
  | cons h1 h2 ih => exact .cons ⟨_, h1⟩ ih
end
/-- the parts' addresses stand apart, and apart from p -/
def DJ (p : Addr) (ss : List (List Addr)) : Prop := (∀ (k : Nat) (s : List Addr), ss[k]? = some s → p ∉ s) ∧ ∀ (k l : Nat) (s t : List Addr) (q : Addr), ss[k]? = some s → ss[l]? = some t → q ∈ s → q ∈ t → k = l
theorem mem_flat {ss : List (List Addr)} {k : Nat} {s : List Addr} {q : Addr} (h : ss[k]? = some s) (hq : q ∈ s) : q ∈ ss.flatten := List.mem_flatten.mpr ⟨s, List.mem_of_getElem? h, hq⟩
theorem flat_mem {ss : List (List Addr)} {q : Addr} (h : q ∈ ss.flatten) : ∃ (k : Nat) (s : List Addr), ss[k]? = some s ∧ q ∈ s := by
  obtain ⟨s, hs, hq⟩ := List.mem_flatten.mp h
  obtain ⟨k, hk⟩ := List.mem_iff_getElem?.mp hs
  exact ⟨k, s, hk, hq⟩
theorem set_get {ss : List (List Addr)} {j k : Nat} {s t : List Addr} (h : (ss.set j s)[k]? = some t) : (k = j ∧ t = s) ∨ (k ≠ j ∧ ss[k]? = some t) := by
  by_cases e : j = k
  · subst e
    have hl : j < ss.length := by
      have := (List.getElem?_eq_some_iff.mp h).1
      rw [List.length_set] at this
      exact this
    rw [List.getElem?_set_self hl] at h
    cases h
    exact .inl ⟨rfl, rfl⟩
  · rw [List.getElem?_set_ne e] at h
    exact .inr ⟨fun z => e z.symm, h⟩
theorem DJ.put {p : Addr} {ss : List (List Addr)} {j : Nat} {s s' : List Addr} (h : DJ p ss) (hj : ss[j]? = some s) (hs : ∀ q ∈ s', q ∈ s ∨ (q ≠ p ∧ q ∉ ss.flatten)) : DJ p (ss.set j s') := by
  have out : ∀ q ∈ s', q ∈ s ∨ ∀ (k : Nat) (t : List Addr), ss[k]? = some t → q ∉ t := fun q hq => (hs q hq).imp id fun z k t ht hm => z.2 (mem_flat ht hm)
  refine ⟨fun k t ht hp => ?_, fun k l t u q hk hl ht hu => ?_⟩
  · rcases set_get ht with ⟨_, e⟩ | ⟨_, e⟩
    · subst e
      rcases hs p hp with z | z
      · exact h.1 j s hj z
      · exact z.1 rfl
    · exact h.1 k t e hp
  · rcases set_get hk with ⟨k1, k2⟩ | ⟨k1, k2⟩ <;> rcases set_get hl with ⟨l1, l2⟩ | ⟨l1, l2⟩
    · rw [k1, l1]
    · subst k2
      rcases out q ht with z | z
      · exact absurd (h.2 l j u s q l2 hj hu z) l1
      · exact absurd hu (z l u l2)
    · subst l2
      rcases out q hu with z | z
      · exact absurd (h.2 k j t s q k2 hj ht z) k1
      · exact absurd ht (z k t k2)
    · exact h.2 k l t u q k2 l2 ht hu
theorem flat_put {ss : List (List Addr)} {j : Nat} {s' : List Addr} {q : Addr} (h : q ∈ (ss.set j s').flatten) : q ∈ s' ∨ q ∈ ss.flatten := by
  obtain ⟨k, t, ht, hq⟩ := flat_mem h
  rcases set_get ht with ⟨_, e⟩ | ⟨_, e⟩
  · subst e; exact .inl hq
  · exact .inr (mem_flat e hq)
theorem DJ.app {p : Addr} {ss : List (List Addr)} {s : List Addr} (h : DJ p ss) (hs : ∀ q ∈ s, q ≠ p ∧ q ∉ ss.flatten) : DJ p (ss ++ [s]) := by
  have at_ : ∀ (k : Nat) (t : List Addr), (ss ++ [s])[k]? = some t → (k < ss.length ∧ ss[k]? = some t) ∨ (k = ss.length ∧ t = s) := fun k t ht => by
    by_cases hk : k < ss.length
    · rw [List.getElem?_append_left hk] at ht; exact .inl ⟨hk, ht⟩
    · rw [List.getElem?_append_right (by omega)] at ht
      have : k - ss.length = 0 := by
        have := (List.getElem?_eq_some_iff.mp ht).1
        rw [List.length_singleton] at this
        omega
      rw [this] at ht
      cases ht
      exact .inr ⟨by omega, rfl⟩
  refine ⟨fun k t ht hp => ?_, fun k l t u q hk hl ht hu => ?_⟩
  · rcases at_ k t ht with ⟨_, e⟩ | ⟨_, e⟩
    · exact h.1 k t e hp
    · subst e; exact (hs p hp).1 rfl
  · rcases at_ k t hk with ⟨_, e⟩ | ⟨k1, e⟩ <;> rcases at_ l u hl with ⟨_, e'⟩ | ⟨l1, e'⟩
    · exact h.2 k l t u q e e' ht hu
    · subst e'; exact absurd (mem_flat e ht) (hs q hu).2
    · subst e; exact absurd (mem_flat e' hu) (hs q ht).2
    · rw [k1, l1]
section
variable {K : PySem.W.Frag} {α β γ δ : Type}
/-- a list (owned) of owned things -/
def nlR (K : PySem.W.Frag) {β : Type} (R : Rs K β) : Rs K (List β) where
  rep := fun H v xs as => ∃ p vs ss, as = p :: ss.flatten ∧ v = .ref p ∧ H p = some (.lst vs) ∧ A3 (R.rep H) vs xs ss ∧ DJ p ss
  stay := by
    rintro H H' v b as ⟨p, vs, ss, e, ev, h, z, d⟩ x k
    refine ⟨p, vs, ss, e, ev, k p (by rw [e]; exact List.mem_cons_self ..) _ h, z.imp fun a b s hs w => ?_, d⟩
    exact R.stay w x fun q hq => k q (by rw [e]; exact List.mem_cons_of_mem _ (List.mem_flatten.mpr ⟨s, hs, hq⟩))
  there := fun {H v b as} ⟨p, vs, ss, e, _, h, z, _⟩ q hq => by
    rw [e] at hq
    rcases List.mem_cons.mp hq with c | c
    · rw [c]; exact ⟨_, h, fun z => z⟩
    · obtain ⟨k, s, hs, hq⟩ := flat_mem c
      have hl : k < b.length := by rw [← z.lens]; exact (List.getElem?_eq_some_iff.mp hs).1
      obtain ⟨a, s', _, h3, h4⟩ := z.get (List.getElem?_eq_getElem hl)
      rw [hs] at h3
      cases h3
      exact R.there h4 q hq
/-- .. whose item j is the value w -/
def nlRat (K : PySem.W.Frag) {β : Type} (R : Rs K β) (j : Nat) (w : V) : Rs K (List β) where
  rep := fun H v xs as => ∃ p vs ss, as = p :: ss.flatten ∧ v = .ref p ∧ H p = some (.lst vs) ∧ A3 (R.rep H) vs xs ss ∧ DJ p ss ∧ vs[j]? = some w
  stay := by
    rintro H H' v b as ⟨p, vs, ss, e, ev, h, z, d, hj⟩ x k
    refine ⟨p, vs, ss, e, ev, k p (by rw [e]; exact List.mem_cons_self ..) _ h, z.imp fun a b s hs w => ?_, d, hj⟩
    exact R.stay w x fun q hq => k q (by rw [e]; exact List.mem_cons_of_mem _ (List.mem_flatten.mpr ⟨s, hs, hq⟩))
  there := fun {H v b as} ⟨p, vs, ss, e, ev, h, z, d, _⟩ => (nlR K R).there (v := v) (b := b) ⟨p, vs, ss, e, ev, h, z, d⟩
abbrev KvR (K : PySem.W.Frag) {β : Type} (R : Rs K β) (H : Hp) (x : Key × V) (y : Str × β) (s : List Addr) : Prop := (x.1 = Sum.inr y.1 ∧ okS y.1) ∧ R.rep H x.2 y.2 s
/-- a dict (owned) of owned things -/
def ndR (K : PySem.W.Frag) {β : Type} (R : Rs K β) : Rs K (List (Str × β)) where
  rep := fun H v xs as => ∃ p kvs ss, as = p :: ss.flatten ∧ v = .ref p ∧ H p = some (.dK kvs) ∧ A3 (KvR K R H) kvs xs ss ∧ DJ p ss ∧ (xs.map (·.1)).Nodup
  stay := by
    rintro H H' v b as ⟨p, vs, ss, e, ev, h, z, d, n⟩ x k
    refine ⟨p, vs, ss, e, ev, k p (by rw [e]; exact List.mem_cons_self ..) _ h, z.imp fun a b s hs w => ⟨w.1, ?_⟩, d, n⟩
    exact R.stay w.2 x fun q hq => k q (by rw [e]; exact List.mem_cons_of_mem _ (List.mem_flatten.mpr ⟨s, hs, hq⟩))
  there := fun {H v b as} ⟨p, vs, ss, e, _, h, z, _⟩ q hq => by
    rw [e] at hq
    rcases List.mem_cons.mp hq with c | c
    · rw [c]; exact ⟨_, h, fun z => z⟩
    · obtain ⟨k, s, hs, hq⟩ := flat_mem c
      have hl : k < b.length := by rw [← z.lens]; exact (List.getElem?_eq_some_iff.mp hs).1
      obtain ⟨a, s', _, h3, h4⟩ := z.get (List.getElem?_eq_getElem hl)
      rw [hs] at h3
      cases h3
      exact R.there h4.2 q hq
/-- a list (owned) of three owned things -/
def nH3 (K : PySem.W.Frag) {α β γ : Type} (R : Rs K α) (R' : Rs K β) (R2 : Rs K γ) : Rs K (α × β × γ) where
  rep := fun H v x as => ∃ p a b c s t u, as = p :: [s, t, u].flatten ∧ v = .ref p ∧ H p = some (.lst [a, b, c]) ∧ (R.rep H a x.1 s ∧ R'.rep H b x.2.1 t ∧ R2.rep H c x.2.2 u) ∧ DJ p [s, t, u]
  stay := fun ⟨p, a, b, c, s, t, u, e, ev, h, z, d⟩ x k => ⟨p, a, b, c, s, t, u, e, ev, k p (by rw [e]; exact List.mem_cons_self ..) _ h, ⟨R.stay z.1 x fun q hq => k q (by rw [e]; exact List.mem_cons_of_mem _ (mem_flat (k := 0) rfl hq)), R'.stay z.2.1 x fun q hq => k q (by rw [e]; exact List.mem_cons_of_mem _ (mem_flat (k := 1) rfl hq)), R2.stay z.2.2 x fun q hq => k q (by rw [e]; exact List.mem_cons_of_mem _ (mem_flat (k := 2) rfl hq))⟩, d⟩
  there := fun ⟨p, a, b, c, s, t, u, e, _, h, z, _⟩ q hq => by
    rw [e] at hq
    rcases List.mem_cons.mp hq with y | y
    · rw [y]; exact ⟨_, h, fun z => z⟩
    · have y : q ∈ s ++ (t ++ (u ++ [])) := y
      rcases List.mem_append.mp y with y | y
      · exact R.there z.1 q y
      · rcases List.mem_append.mp y with y | y
        · exact R'.there z.2.1 q y
        · rw [List.append_nil] at y
          exact R2.there z.2.2 q y
/-! ### the environment with its owners -/
structure EnvO {K : PySem.W.Frag} (own : Nat → List Addr) (H0 : Hp) (σ : L2.St) (H : Hp) (G : Cells K) : Prop where
  old : Same H0 H
  len : σ.length = G.length
  free : ∀ i p, p ∈ own i → H0 p = none ∧ ∃ o, H p = some o ∧ ¬ isTup o
  apart : ∀ i j p, p ∈ own i → p ∈ own j → i = j
  at_ : ∀ (i : Nat) (c : Cell K), G[i]? = some (some c) → ∃ v, σ[i]? = some (some v) ∧ c.ok H0 H v (own i)
variable {own : Nat → List Addr} {H0 H H1 H' : Hp} {σ : L2.St} {G G' : Cells K}
theorem Env.o (E : Env H0 σ H G) : ∃ own, EnvO own H0 σ H G := let ⟨own, h1, h2, h3⟩ := E.at_; ⟨own, E.old, E.len, h1, h2, h3⟩
theorem EnvO.e (E : EnvO own H0 σ H G) : Env H0 σ H G := ⟨E.old, E.len, own, E.free, E.apart, E.at_⟩
theorem EnvO.grow (E : EnvO own H0 σ H G) (e : Same H H') : EnvO own H0 σ H' G := ⟨E.old.trans e, E.len, fun i p hp => ⟨(E.free i p hp).1, let ⟨o, ho, nt⟩ := (E.free i p hp).2; ⟨o, e _ _ ho, nt⟩⟩, E.apart, fun i c hc => let ⟨v, hv, hk⟩ := E.at_ i c hc; ⟨v, hv, cell_stay hk (ext_same e) fun p _ o ho => e _ _ ho⟩⟩
/-- what no one owns, nor the ground -/
def Fr (own : Nat → List Addr) (H0 : Hp) (q : Addr) : Prop := H0 q = none ∧ ∀ j, q ∉ own j
theorem EnvO.fr {q : Addr} (E : EnvO own H0 σ H G) (h : H q = none) : Fr own H0 q := ⟨free_back E.old h, fun j z => by obtain ⟨o, ho, _⟩ := (E.free j q z).2; rw [h] at ho; cases ho⟩
/-- all but the addresses in as stays -/
def But (as : List Addr) (H H' : Hp) : Prop := ∀ c o, c ∉ as → H c = some o → H' c = some o
theorem EnvO.ext {i : Nat} {as : List Addr} (E : EnvO own H0 σ H G) (ha : ∀ p ∈ as, p ∈ own i) (k : But as H H') : ExT K H H' := fun a xs h => by
  have ne : ∀ o, H a = some o → isTup o → a ∉ as := fun o ho ht z => by
    obtain ⟨o', ho', nt⟩ := (E.free i a (ha a z)).2
    rw [ho] at ho'
    cases ho'
    exact nt ht
  rcases h with (h | ⟨o, h⟩) | h
  · exact .inl (.inl (k _ _ (ne _ h trivial) h))
  · exact .inl (.inr ⟨o, k _ _ (ne _ h trivial) h⟩)
  · exact .inr h
/-- the thing at slot i is changed in place -/
theorem EnvO.chg {i : Nat} {R' : Rs K γ} {b' : γ} {v : V} {as' : List Addr} (E : EnvO own H0 σ H G) (hl : i < G.length) (hv : σ[i]? = some (some v)) (k : But (own i) H H') (ha : ∀ p ∈ as', p ∈ own i ∨ Fr own H0 p) (h : R'.rep H' v b' as') : Env H0 σ H' (G.set i (some (.ow R' b'))) := by
  have x := E.ext (as := own i) (fun _ z => z) k
  have nas : ∀ j p, j ≠ i → p ∈ own j → p ∉ own i := fun j p hj hp z => hj (E.apart j i p hp z)
  refine ⟨fun p o ho => k p o (fun z => ?_) (E.old p o ho), by rw [List.length_set]; exact E.len, fun j => if j = i then as' else own j, fun j p hp => ?_, fun j l p hj hk => ?_, fun j c hc => ?_⟩
  · have := (E.free i p z).1
    rw [this] at ho
    cases ho
  · by_cases hj : j = i
    · simp only [hj, if_true] at hp
      exact ⟨(ha p hp).elim (fun z => (E.free i p z).1) fun z => z.1, R'.there h p hp⟩
    · simp only [hj, if_false] at hp
      obtain ⟨o, ho, nt⟩ := (E.free j p hp).2
      exact ⟨(E.free j p hp).1, o, k p o (nas j p hj hp) ho, nt⟩
  · by_cases hji : j = i <;> by_cases hki : l = i
    · rw [hji, hki]
    · simp only [hji, hki, if_true, if_false] at hj hk
      rcases ha p hj with z | z
      · exact absurd z (nas l p hki hk)
      · exact absurd hk (z.2 l)
    · simp only [hji, hki, if_true, if_false] at hj hk
      rcases ha p hk with z | z
      · exact absurd z (nas j p hji hj)
      · exact absurd hj (z.2 j)
    · simp only [hji, hki, if_false] at hj hk
      exact E.apart j l p hj hk
  · by_cases hj : j = i
    · subst hj
      rw [List.getElem?_set_self hl] at hc
      cases hc
      refine ⟨v, hv, ?_⟩
      simp only [if_true]
      exact h
    · rw [List.getElem?_set_ne (Ne.symm hj)] at hc
      obtain ⟨u, hu, hk'⟩ := E.at_ j c hc
      refine ⟨u, hu, ?_⟩
      simp only [hj, if_false]
      exact cell_stay hk' x fun p hp o ho => k p o (nas j p hj hp) ho
/-! ### places -/
def Pl (te : TE) (G : Cells K) (i : Nat) (R : Rs K β) (b : β) (up : β → Cells K) : Prop :=
  ∀ own H0 σ H, EnvO own H0 σ H G → ∀ Q : VK, (∀ v as H1, Same H H1 → R.rep H1 v b as → (∀ p ∈ as, p ∈ own i) →
    (∀ H3 b' as', But as H1 H3 → (∀ p ∈ as', p ∈ as ∨ Fr own H0 p) → R.rep H3 v b' as' → Env H0 σ H3 (up b')) → Q v H1) → te σ H Q
variable {R : Rs K β} {te ti tk tx tv : TE} {i j : Nat} {b x : β} {n : Int}
theorem pl_var (h : G[i]? = some (some (.ow R b))) : Pl (tVar i) G i R b fun b' => G.set i (some (.ow R b')) := fun own H0 σ H E Q k => by
  obtain ⟨v, hv, hk⟩ := E.at_ i _ h
  have hl : i < G.length := (List.getElem?_eq_some_iff.mp h).1
  exact ⟨v, hv, k v (own i) H (Same.refl H) hk (fun _ z => z) fun H3 b' as' e1 e2 e3 => E.chg hl hv e1 e2 e3⟩
theorem But.less {as bs : List Addr} {H H' : Hp} (k : But as H H') (h : ∀ p ∈ as, p ∈ bs) : But bs H H' := fun c o hc ho => k c o (fun z => hc (h c z)) ho
theorem But.same {as : List Addr} {H1 H2 H3 : Hp} (e : Same H1 H2) (k : But as H2 H3) : But as H1 H3 := fun c o hc ho => k c o hc (e _ _ ho)
/-- an item of a list of owned things -/
theorem pl_ix {xs : List β} {up : List β → Cells K} (h : Pl te G i (nlR K R) xs up) (hi : Ev rI ti G n) (hj : ixN xs.length n = some j) (hx : xs[j]? = some x) : Pl (tOp (rIx K) te ti) G i R x fun x' => up (xs.set j x') := fun own H0 σ H E Q k =>
  h own H0 σ H E _ fun v as H1 e1 hr hs cl => by
    have E1 := E.grow e1
    refine hi H0 σ H1 E1.e _ fun y H2 e2 hy => ?_
    have E2 := E1.grow e2
    obtain ⟨p, vs, ss, ea, ev, hp, z, d⟩ := (nlR K R).stay hr (ext_same e2) fun q _ o ho => e2 _ _ ho
    obtain ⟨w, s, hw, hss, hrs⟩ := z.get hx
    have hin : ∀ q ∈ s, q ∈ as := fun q hq => by rw [ea]; exact List.mem_cons_of_mem _ (mem_flat hss hq)
    have hat : atI vs n = some w := by
      unfold atI
      rw [z.len, hj]
      exact hw
    refine .inl ⟨p, vs, n, w, ev, hy, SqL.of hp, hat, k w s H2 (e1.trans e2) hrs (fun q hq => hs q (hin q hq)) fun H3 b' s' k1 k2 k3 => ?_⟩
    have fresh : ∀ q ∈ s', q ∈ s ∨ (q ≠ p ∧ q ∉ ss.flatten) := fun q hq => (k2 q hq).imp id fun f => ⟨fun e => f.2 i (hs q (by rw [ea, e]; exact List.mem_cons_self ..)), fun hm => f.2 i (hs q (by rw [ea]; exact List.mem_cons_of_mem _ hm))⟩
    have xT : ExT K H2 H3 := E2.ext (i := i) (fun q hq => hs q (hin q hq)) k1
    refine cl H3 (xs.set j b') (p :: (ss.set j s').flatten) ((k1.less hin).same e2) (fun q hq => ?_) ⟨p, vs, ss.set j s', rfl, ev, k1 p _ (d.1 j s hss) hp, ?_, d.put hss fresh⟩
    · rcases List.mem_cons.mp hq with c | c
      · exact .inl (by rw [ea, c]; exact List.mem_cons_self ..)
      · rcases flat_put c with c | c
        · exact (k2 q c).imp (hin q) id
        · exact .inl (by rw [ea]; exact List.mem_cons_of_mem _ c)
    · have := z.put (q := R.rep H3) (j := j) (a := w) (b := b') (s := s') (fun m a b t hm ht hr => R.stay hr xT fun q hq o ho => k1 q o (fun zz => hm (d.2 m j t s q ht hss hq zz)) ho) k3
      rw [set_self hw] at this
      exact this
where
  set_self {α : Type} {l : List α} {j : Nat} {w : α} (h : l[j]? = some w) : l.set j w = l := by
    apply List.ext_getElem?
    intro k
    by_cases e : j = k
    · subst e
      rw [List.getElem?_set_self (List.getElem?_eq_some_iff.mp h).1, h]
    · rw [List.getElem?_set_ne e]
end
end Gt
/-! Gt28: what changes at a place; expressions that change something; defs that change a list that they are handed. -/
namespace Gt
open PySem PySem.Spec PyProof.Rows L2
section
variable {α : Type}
theorem set_self {l : List α} {j : Nat} {w : α} (h : l[j]? = some w) : l.set j w = l := by
  apply List.ext_getElem?
  intro k
  by_cases e : j = k
  · subst e
    rw [List.getElem?_set_self (List.getElem?_eq_some_iff.mp h).1, h]
  · rw [List.getElem?_set_ne e]
theorem get_set {l : List α} {j : Nat} {x y : α} (h : l[j]? = some x) : (l.set j y)[j]? = some y := List.getElem?_set_self (List.getElem?_eq_some_iff.mp h).1
theorem nodup_key {xs : List (Str × α)} {j m : Nat} {k : Str} {x y : α} (n : (xs.map (·.1)).Nodup) (h : xs[j]? = some (k, x)) (h' : xs[m]? = some (k, y)) : j = m := by
  have hj := (List.getElem?_eq_some_iff.mp h).1
  have hm := (List.getElem?_eq_some_iff.mp h').1
  have n2 := List.pairwise_iff_getElem.mp n
  have g : ∀ (a b : Nat) (u v : α), xs[a]? = some (k, u) → xs[b]? = some (k, v) → ¬ a < b := fun a b u v ha hb hl => by
    have la := (List.getElem?_eq_some_iff.mp ha).1
    have lb := (List.getElem?_eq_some_iff.mp hb).1
    have := n2 a b (by rw [List.length_map]; exact la) (by rw [List.length_map]; exact lb) hl
    rw [List.getElem_map, List.getElem_map, (List.getElem?_eq_some_iff.mp ha).2, (List.getElem?_eq_some_iff.mp hb).2] at this
    exact this rfl
  have := g j m x y h h'
  have := g m j y x h' h
  omega
theorem dput_at {xs : List (Str × α)} {j : Nat} {k : Str} {x v : α} (n : (xs.map (·.1)).Nodup) (h : xs[j]? = some (k, x)) : dput xs k v = xs.set j (k, v) := by
  have hm : (k, x) ∈ xs := List.mem_of_getElem? h
  unfold dput
  rw [if_pos (List.any_eq_true.mpr ⟨_, hm, decide_eq_true rfl⟩)]
  apply List.ext_getElem?
  intro m
  rw [List.getElem?_map]
  by_cases e : j = m
  · subst e
    rw [List.getElem?_set_self (List.getElem?_eq_some_iff.mp h).1, h]
    show some (if k = k then (k, v) else (k, x)) = _
    rw [if_pos rfl]
  · rw [List.getElem?_set_ne e]
    cases q : xs[m]? with
    | none => rfl
    | some y =>
      show some (if y.1 = k then (y.1, v) else y) = some y
      rw [if_neg fun z => e (nodup_key n h (by rw [q, ← z]))]
theorem keys_set {xs : List (Str × α)} {j : Nat} {k : Str} {x v : α} (h : xs[j]? = some (k, x)) : (xs.set j (k, v)).map (·.1) = xs.map (·.1) := by
  rw [List.map_set]
  exact set_self (by rw [List.getElem?_map, h]; rfl)
end
section
variable {K : PySem.W.Frag} {α β γ δ ρ : Type} {own : Nat → List Addr} {H0 H H1 H' : Hp} {σ : L2.St} {G G' G1 : Cells K} {D : Ends} {u : TS}
variable {R : Rs K β} {te ti tk tx tv ta tb : TE} {i j m : Nat} {b x : β} {n : Int} {r : Rp α} {q : Rp γ} {k : Str}
theorem a3_key {kvs : List (Key × V)} {xs : List (Str × β)} {ss : List (List Addr)} (z : A3 (KvR K R H) kvs xs ss) (h : dkey xs k = some x) : ∃ (j : Nat) (w : V) (s : List Addr), xs[j]? = some (k, x) ∧ kvs[j]? = some (Sum.inr k, w) ∧ ss[j]? = some s ∧ R.rep H w x s ∧ okS k ∧ valV kvs (Sum.inr k : Key) = some w := by
  induction z with
  | nil => cases h
  | @cons a y s as bs ss h1 h2 ih =>
    obtain ⟨a1, a2⟩ := a
    obtain ⟨y1, y2⟩ := y
    obtain ⟨⟨e1, e2⟩, e3⟩ := h1
    have e1 : a1 = Sum.inr y1 := e1
    subst e1
    by_cases e : y1 = k
    · subst e
      have : y2 = x := by
        unfold dkey at h
        rw [List.find?_cons, show decide ((y1, y2).1 = y1) = true from decide_eq_true rfl] at h
        cases h
        rfl
      subst this
      exact ⟨0, a2, s, rfl, rfl, rfl, e3, e2, valV_pos rfl⟩
    · have h' : dkey bs k = some x := by
        unfold dkey at h ⊢
        rw [List.find?_cons, show decide ((y1, y2).1 = k) = false from decide_eq_false e] at h
        exact h
      obtain ⟨j, w, s', g1, g2, g3, g4, g5, g6⟩ := ih h'
      refine ⟨j + 1, w, s', by simpa using g1, by simpa using g2, by simpa using g3, g4, g5, ?_⟩
      rw [valV_neg fun z => e (Sum.inr.inj z)]
      exact g6
/-- a value of a dict of owned things -/
theorem pl_dget {xs : List (Str × β)} {up : List (Str × β) → Cells K} (h : Pl te G i (ndR K R) xs up) (hk : Ev rS tk G k) (hx : dkey xs k = some x) : Pl (tDGet te tk) G i R x fun x' => up (dput xs k x') := fun own H0 σ H E Q c =>
  h own H0 σ H E _ fun v as H1 e1 hr hs cl => by
    have E1 := E.grow e1
    refine hk H0 σ H1 E1.e _ fun y H2 e2 hy => ?_
    have E2 := E1.grow e2
    obtain ⟨p, kvs, ss, ea, ev, hp, z, d, nk⟩ := (ndR K R).stay hr (ext_same e2) fun q _ o ho => e2 _ _ ho
    obtain ⟨j, w, s, hj, hw, hss, hrs, hok, hv⟩ := a3_key z hx
    have hin : ∀ q ∈ s, q ∈ as := fun q hq => by rw [ea]; exact List.mem_cons_of_mem _ (mem_flat hss hq)
    refine ⟨p, w, ev, .inl ⟨kvs, Sum.inr k, .inl hp, hy.1, hv.symm⟩, c w s H2 (e1.trans e2) hrs (fun q hq => hs q (hin q hq)) fun H3 b' s' k1 k2 k3 => ?_⟩
    have fresh : ∀ q ∈ s', q ∈ s ∨ (q ≠ p ∧ q ∉ ss.flatten) := fun q hq => (k2 q hq).imp id fun f => ⟨fun e => f.2 i (hs q (by rw [ea, e]; exact List.mem_cons_self ..)), fun hm => f.2 i (hs q (by rw [ea]; exact List.mem_cons_of_mem _ hm))⟩
    have xT : ExT K H2 H3 := E2.ext (i := i) (fun q hq => hs q (hin q hq)) k1
    refine cl H3 (dput xs k b') (p :: (ss.set j s').flatten) ((k1.less hin).same e2) (fun q hq => ?_) ⟨p, kvs, ss.set j s', rfl, ev, k1 p _ (d.1 j s hss) hp, ?_, d.put hss fresh, by rw [dput_at nk hj, keys_set hj]; exact nk⟩
    · rcases List.mem_cons.mp hq with c | c
      · exact .inl (by rw [ea, c]; exact List.mem_cons_self ..)
      · rcases flat_put c with c | c
        · exact (k2 q c).imp (hin q) id
        · exact .inl (by rw [ea]; exact List.mem_cons_of_mem _ c)
    · have := z.put (q := KvR K R H3) (j := j) (a := (Sum.inr k, w)) (b := (k, b')) (s := s') (fun m a b t hm ht hr => ⟨hr.1, R.stay hr.2 xT fun q hq o ho => k1 q o (fun zz => hm (d.2 m j t s q ht hss hq zz)) ho⟩) ⟨⟨rfl, hok⟩, k3⟩
      rw [set_self hw] at this
      rw [dput_at nk hj]
      exact this
/-- the parts of a list of three owned things -/
theorem pl_h {R' : Rs K γ} {R2 : Rs K δ} {ρ : Type} {Rj : Rs K ρ} {y : β × γ × δ} {up : β × γ × δ → Cells K} {jn : Nat} {z : ρ} {set : ρ → β × γ × δ} (hj : jn < 3)
    (get : ∀ H a b c s t u, (R.rep H a y.1 s ∧ R'.rep H b y.2.1 t ∧ R2.rep H c y.2.2 u) → ∃ w s', [a, b, c][jn]? = some w ∧ [s, t, u][jn]? = some s' ∧ Rj.rep H w z s')
    (put : ∀ (H H' : Hp) a b c s t u w s' z', (R.rep H a y.1 s ∧ R'.rep H b y.2.1 t ∧ R2.rep H c y.2.2 u) → [a, b, c][jn]? = some w → Rj.rep H' w z' s' → ExT K H H' → (∀ (l : Nat) (e : List Addr), l ≠ jn → [s, t, u][l]? = some e → ∀ q ∈ e, ∀ o, H q = some o → H' q = some o) →
      ∃ s2 t2 u2, [s, t, u].set jn s' = [s2, t2, u2] ∧ (R.rep H' a (set z').1 s2 ∧ R'.rep H' b (set z').2.1 t2 ∧ R2.rep H' c (set z').2.2 u2))
    (h : Pl te G i (nH3 K R R' R2) y up) : Pl (tOp (rIx K) te (tC (.int (jn : Nat)))) G i Rj z fun z' => up (set z') := fun own H0 σ H E Q cc =>
  h own H0 σ H E _ fun v as H1 e1 hr hs cl => by
    have E1 := E.grow e1
    obtain ⟨p, a, b, c, s, t, u, ea, ev, hp, hz, d⟩ := hr
    obtain ⟨w, sj, hw, hss, hrs⟩ := get H1 a b c s t u hz
    have hin : ∀ q ∈ sj, q ∈ as := fun q hq => by rw [ea]; exact List.mem_cons_of_mem _ (mem_flat hss hq)
    have hat : atI [a, b, c] ((jn : Nat) : Int) = some w := by
      unfold atI ixN
      rw [if_pos (Int.natCast_nonneg _), if_pos (by show ((jn : Nat) : Int) < ((3 : Nat) : Int); omega)]
      exact hw
    refine .inl ⟨p, [a, b, c], (jn : Nat), w, ev, rfl, SqL.of hp, hat, cc w sj H1 e1 hrs (fun q hq => hs q (hin q hq)) fun H3 b' s' k1 k2 k3 => ?_⟩
    have xT : ExT K H1 H3 := E1.ext (i := i) (fun q hq => hs q (hin q hq)) k1
    have fresh : ∀ q ∈ s', q ∈ sj ∨ (q ≠ p ∧ q ∉ [s, t, u].flatten) := fun q hq => (k2 q hq).imp id fun f => ⟨fun e => f.2 i (hs q (by rw [ea, e]; exact List.mem_cons_self ..)), fun hm => f.2 i (hs q (by rw [ea]; exact List.mem_cons_of_mem _ hm))⟩
    obtain ⟨s2, t2, u2, e2, hr2⟩ := put H1 H3 a b c s t u w s' b' hz hw k3 xT fun l e hl he q hq o ho => k1 q o (fun zz => hl (d.2 l jn e sj q he hss hq zz)) ho
    have d2 := d.put hss fresh
    rw [e2] at d2
    refine cl H3 (set b') (p :: [s2, t2, u2].flatten) (k1.less hin) (fun q hq => ?_) ⟨p, a, b, c, s2, t2, u2, rfl, ev, k1 p _ (d.1 jn sj hss) hp, hr2, d2⟩
    rcases List.mem_cons.mp hq with c | c
    · exact .inl (by rw [ea, c]; exact List.mem_cons_self ..)
    · rw [← e2] at c
      rcases flat_put c with c | c
      · exact (k2 q c).imp (hin q) id
      · exact .inl (by rw [ea]; exact List.mem_cons_of_mem _ c)
section
variable {R' : Rs K γ} {R2 : Rs K δ} {y : β × γ × δ} {up : β × γ × δ → Cells K}
theorem pl_h0 (h : Pl te G i (nH3 K R R' R2) y up) : Pl (tOp (rIx K) te (tC (.int 0))) G i R y.1 fun z => up (z, y.2) :=
  pl_h (jn := 0) (Rj := R) (set := fun z => (z, y.2)) (by decide) (fun H a b c s t u h => ⟨a, s, rfl, rfl, h.1⟩) (fun H H' a b c s t u w s' z' h hw hz x k => by
    cases hw
    exact ⟨s', t, u, rfl, hz, R'.stay h.2.1 x (k 1 t (by decide) rfl), R2.stay h.2.2 x (k 2 u (by decide) rfl)⟩) h
theorem pl_h1 (h : Pl te G i (nH3 K R R' R2) y up) : Pl (tOp (rIx K) te (tC (.int 1))) G i R' y.2.1 fun z => up (y.1, z, y.2.2) :=
  pl_h (jn := 1) (Rj := R') (set := fun z => (y.1, z, y.2.2)) (by decide) (fun H a b c s t u h => ⟨b, t, rfl, rfl, h.2.1⟩) (fun H H' a b c s t u w s' z' h hw hz x k => by
    cases hw
    exact ⟨s, s', u, rfl, R.stay h.1 x (k 0 s (by decide) rfl), hz, R2.stay h.2.2 x (k 2 u (by decide) rfl)⟩) h
theorem pl_h2 (h : Pl te G i (nH3 K R R' R2) y up) : Pl (tOp (rIx K) te (tC (.int 2))) G i R2 y.2.2 fun z => up (y.1, y.2.1, z) :=
  pl_h (jn := 2) (Rj := R2) (set := fun z => (y.1, y.2.1, z)) (by decide) (fun H a b c s t u h => ⟨c, u, rfl, rfl, h.2.2⟩) (fun H H' a b c s t u w s' z' h hw hz x k => by
    cases hw
    exact ⟨s, t, s', rfl, R.stay h.1 x (k 0 s (by decide) rfl), R'.stay h.2.1 x (k 1 t (by decide) rfl), hz⟩) h
end
/-- what stands at a place, read -/
theorem Pl.ev {up : β → Cells K} {rv : Rp β} (h : Pl te G i R b up) (f : ∀ H v as, R.rep H v b as → rv H v b) : Ev rv te G b := fun H0 σ H E Q c => let ⟨own, E⟩ := E.o; h own H0 σ H E Q fun v as H1 e1 hr _ _ => c v H1 e1 (f _ _ _ hr)
theorem vw_nl {H : Hp} {v : V} {xs : List α} {as : List Addr} (h : (nl K r).rep H v xs as) : rL r H v xs := let ⟨p, vs, _, ev, hp, z⟩ := h; ⟨p, vs, ev, hp, nows z⟩
theorem A3.a2 {α β : Type} {r : α → β → List Addr → Prop} {q : α → β → Prop} {as : List α} {bs : List β} {ss : List (List Addr)} (h : A3 r as bs ss) (f : ∀ a b s, r a b s → q a b) : A2 q as bs := h.two.imp fun _ _ ⟨s, z⟩ => f _ _ s z
theorem vw_nlR {rv : Rp β} (f : ∀ H v b as, R.rep H v b as → rv H v b) {H : Hp} {v : V} {xs : List β} {as : List Addr} (h : (nlR K R).rep H v xs as) : rL rv H v xs := let ⟨p, vs, _, _, ev, hp, z, _⟩ := h; ⟨p, vs, ev, hp, z.a2 fun _ _ _ w => f _ _ _ _ w⟩
theorem vw_ndR {rv : Rp β} (f : ∀ H v b as, R.rep H v b as → rv H v b) {H : Hp} {v : V} {xs : List (Str × β)} {as : List Addr} (h : (ndR K R).rep H v xs as) : rD rv H v xs := let ⟨p, kvs, _, _, ev, hp, z, _⟩ := h; ⟨p, kvs, ev, .inl hp, z.a2 fun _ _ _ w => ⟨w.1, f _ _ _ _ w.2⟩⟩
/-- three things in a list, read -/
def rH3 {α β γ : Type} (r : Rp α) (q : Rp β) (t : Rp γ) : Rp (α × β × γ) := fun H v x => ∃ p a b c, v = .ref p ∧ H p = some (.lst [a, b, c]) ∧ r H a x.1 ∧ q H b x.2.1 ∧ t H c x.2.2
instance {α β γ : Type} {r : Rp α} {q : Rp β} {t : Rp γ} [M : Mono r] [N : Mono q] [O : Mono t] : Mono (rH3 r q t) := ⟨fun e ⟨p, a, b, c, ev, h, h1, h2, h3⟩ => ⟨p, a, b, c, ev, e _ _ h, M.up e h1, N.up e h2, O.up e h3⟩⟩
theorem vw_nH3 {R' : Rs K γ} {R2 : Rs K δ} {r1 : Rp β} {r2 : Rp γ} {r3 : Rp δ} (f : ∀ H v b as, R.rep H v b as → r1 H v b) (g : ∀ H v b as, R'.rep H v b as → r2 H v b) (h : ∀ H v b as, R2.rep H v b as → r3 H v b) {H : Hp} {v : V} {y : β × γ × δ} {as : List Addr} (z : (nH3 K R R' R2).rep H v y as) : rH3 r1 r2 r3 H v y :=
  let ⟨p, a, b, c, s, t, u, _, ev, hp, z, _⟩ := z; ⟨p, a, b, c, ev, hp, f _ _ _ _ z.1, g _ _ _ _ z.2.1, h _ _ _ _ z.2.2⟩
section
variable {r1 : Rp β} {r2 : Rp γ} {r3 : Rp δ} {y : β × γ × δ}
theorem ev_h0 [M : Mono r1] (h : Ev (rH3 r1 r2 r3) ta G y) : Ev r1 (tOp (rIx K) ta (tC (.int 0))) G y.1 := fun H0 σ H E Q c => h H0 σ H E _ fun v H1 e1 ⟨p, a, b, d, ev, hp, h1, h2, h3⟩ => .inl ⟨p, [a, b, d], 0, a, ev, rfl, SqL.of hp, rfl, c a H1 e1 h1⟩
theorem ev_h1 [M : Mono r2] (h : Ev (rH3 r1 r2 r3) ta G y) : Ev r2 (tOp (rIx K) ta (tC (.int 1))) G y.2.1 := fun H0 σ H E Q c => h H0 σ H E _ fun v H1 e1 ⟨p, a, b, d, ev, hp, h1, h2, h3⟩ => .inl ⟨p, [a, b, d], 1, b, ev, rfl, SqL.of hp, rfl, c b H1 e1 h2⟩
theorem ev_h2 [M : Mono r3] (h : Ev (rH3 r1 r2 r3) ta G y) : Ev r3 (tOp (rIx K) ta (tC (.int 2))) G y.2.2 := fun H0 σ H E Q c => h H0 σ H E _ fun v H1 e1 ⟨p, a, b, d, ev, hp, h1, h2, h3⟩ => .inl ⟨p, [a, b, d], 2, d, ev, rfl, SqL.of hp, rfl, c d H1 e1 h3⟩
end
/-! ### a name for an item -/
/-- a name for an item of the list at slot i -/
def rAl (i : Nat) : Rp V := fun _ v w => v = w
instance : Frz K (rAl i) := ⟨fun _ h => h⟩
instance : Mono (rAl i) := ⟨fun _ h => h⟩
theorem q_alias2 {xss : List β} {x : β} (hi : G[i]? = some (some (.ow (nlR K R) xss))) (ht : Ev rI ti G n) (hj : ixN xss.length n = some j) (hx : xss[j]? = some x) (hm : m ≠ i) (kk : ∀ w, Sv H0 ((G.set i (some (.ow (nlRat K R j w) xss))).set m (fc (rAl i) w)) u D) :
    Sv H0 G (tSeq (tAsg (tOp (rIx K) (tVar i) ti) (gName m)) u) D := fun σ H ⟨H1, e1, E⟩ => by
  obtain ⟨own, E⟩ := E.o
  obtain ⟨v, hv, hr⟩ := E.at_ i _ hi
  have hl : i < G.length := (List.getElem?_eq_some_iff.mp hi).1
  refine ⟨v, hv, ht H1 σ H E.e _ fun y H2 e2 hy => ?_⟩
  have E2 := E.grow e2
  obtain ⟨v', hv', hr2⟩ := E2.at_ i _ hi
  rw [hv] at hv'
  cases hv'
  obtain ⟨p, vs, ss, ea, ev, hp, z, d⟩ := hr2
  obtain ⟨w, s, hw, hss, hrs⟩ := z.get hx
  have hat : atI vs n = some w := by
    unfold atI
    rw [z.len, hj]
    exact hw
  have E3 : Env H1 σ H2 (G.set i (some (.ow (nlRat K R j w) xss))) := E2.chg hl hv (fun c o _ ho => ho) (fun p hp => .inl hp) ⟨p, vs, ss, ea, ev, hp, z, d, hw⟩
  exact .inl ⟨p, vs, n, w, ev, hy, SqL.of hp, hat, kk w _ _ ⟨H1, e1, E3.put (R := fz K (rAl i)) (as := []) (Same.refl _) (fun _ z => nomatch z) ⟨rfl, fun _ _ => rfl⟩⟩⟩
theorem pl_at {xss : List β} {x : β} {w : V} (hm : G[m]? = some (fc (rAl i) w)) (hi : G[i]? = some (some (.ow (nlRat K R j w) xss))) (hx : xss[j]? = some x) : Pl (tVar m) G i R x fun x' => G.set i (some (.ow (nlRat K R j w) (xss.set j x'))) := fun own H0 σ H E Q c => by
  obtain ⟨v0, hv0, hr0⟩ := E.at_ m _ hm
  have ev0 : v0 = w := hr0.2 H (ExT.refl _)
  subst ev0
  obtain ⟨v, hv, p, vs, ss, ea, ev, hp, z, d, hw⟩ := E.at_ i _ hi
  have hl : i < G.length := (List.getElem?_eq_some_iff.mp hi).1
  obtain ⟨w', s, hw', hss, hrs⟩ := z.get hx
  rw [hw] at hw'
  cases hw'
  have hin : ∀ q ∈ s, q ∈ own i := fun q hq => by rw [ea]; exact List.mem_cons_of_mem _ (mem_flat hss hq)
  refine ⟨v0, hv0, c v0 s H (Same.refl H) hrs hin fun H3 b' s' k1 k2 k3 => ?_⟩
  have fresh : ∀ q ∈ s', q ∈ s ∨ (q ≠ p ∧ q ∉ ss.flatten) := fun q hq => (k2 q hq).imp id fun f => ⟨fun e => f.2 i (by rw [ea, e]; exact List.mem_cons_self ..), fun hm => f.2 i (by rw [ea]; exact List.mem_cons_of_mem _ hm)⟩
  have xT : ExT K H H3 := E.ext (i := i) hin k1
  refine E.chg hl hv (k1.less hin) (fun q hq => ?_) (R' := nlRat K R j v0) (as' := p :: (ss.set j s').flatten) ⟨p, vs, ss.set j s', rfl, ev, k1 p _ (d.1 j s hss) hp, ?_, d.put hss fresh, hw⟩
  · rcases List.mem_cons.mp hq with c | c
    · exact .inl (by rw [ea, c]; exact List.mem_cons_self ..)
    · rcases flat_put c with c | c
      · exact (k2 q c).imp (hin q) id
      · exact .inl (by rw [ea]; exact List.mem_cons_of_mem _ c)
  · have := z.put (q := R.rep H3) (j := j) (a := v0) (b := b') (s := s') (fun m a b t hm ht hr => R.stay hr xT fun q hq o ho => k1 q o (fun zz => hm (d.2 m j t s q ht hss hq zz)) ho) k3
    rw [set_self hw] at this
    exact this
theorem a_al {r : Rp α} {xss : List (List α)} {x : List α} {w : V} (hm : G[m]? = some (fc (rAl i) w)) (hi : G[i]? = some (some (.ow (nlRat K (nl K r) j w) xss))) (hx : xss[j]? = some x) : Ev (rL r) (tVar m) G x := (pl_at hm hi hx).ev fun _ _ _ z => vw_nl z
theorem have_unat {xss : List β} {w : V} (hi : G[i]? = some (some (.ow (nlRat K R j w) xss))) (h : Have H0 G σ H) : Have H0 (G.set i (some (.ow (nlR K R) xss))) σ H := by
  obtain ⟨H1, e, E⟩ := h
  obtain ⟨own, E⟩ := E.o
  obtain ⟨v, hv, p, vs, ss, ea, ev, hp, z, d, hw⟩ := E.at_ i _ hi
  exact ⟨H1, e, E.chg (List.getElem?_eq_some_iff.mp hi).1 hv (fun c o _ ho => ho) (fun p hp => .inl hp) ⟨p, vs, ss, ea, ev, hp, z, d⟩⟩
theorem q_unat {xss : List β} {w : V} {t : TS} (hi : G[i]? = some (some (.ow (nlRat K R j w) xss))) (h : Sv H0 (G.set i (some (.ow (nlR K R) xss))) t D) : Sv H0 G t D := fun σ H hv => h σ H (have_unat hi hv)
/-! ### changes at a place -/
theorem but_upd {p : Addr} {o : HO} : But [p] H (upd H p o) := fun c w hc ho => by
  rw [upd_ne fun z => hc (by rw [z]; exact List.mem_singleton.mpr rfl)]
  exact ho
theorem l_appP {xs : List α} {a : α} {up : List α → Cells K} (h : Pl te G i (nl K r) xs up) (ha : Ev r ta G a) (hz : xs.length < 100000) (kk : Nx H0 (up (xs ++ [a])) D.nx) (F : Frz K r := by infer_instance) : Sv H0 G (tDrop (tBM K "list" rAppend te (tCons ta tNil))) D := fun σ H ⟨H1, e1, E⟩ => by
  obtain ⟨own, E⟩ := E.o
  refine h own H1 σ H E _ fun v as H2 e2 hr hs cl => ?_
  obtain ⟨p, vs, ea, ev, hp, z⟩ := hr
  subst ev
  refine ⟨.inl ⟨rfl, vs, SqL.of hp⟩, ha H1 σ H2 (E.grow e2).e _ fun w H3 e3 hw => ?_⟩
  have hp3 := e3 _ _ hp
  have x0 : ExT K H3 (upd H3 p (.lst (vs ++ [w]))) := ext_upd hp3 fun z => z
  refine ⟨p, vs, w, rfl, rfl, hp3, Nat.lt_of_le_of_lt (by rw [z.len]; omega) (by decide : 100000 < sizeLine), kk _ _ ⟨H1, e1, cl _ _ [p] ?_ (fun q hq => .inl (by rw [ea]; exact hq)) ⟨p, _, rfl, rfl, upd_same, A2.app (A2.one ((stb hw).up x0)) (z.imp fun _ _ q => (q.up (ext_same e3)).up x0)⟩⟩⟩
  rw [ea]
  exact but_upd.same e3
theorem q_appP {xs : List α} {a : α} {up : List α → Cells K} (h : Pl te G i (nl K r) xs up) (ha : Ev r ta G a) (hz : xs.length < 100000) (kk : Sv H0 (up (xs ++ [a])) u D) (F : Frz K r := by infer_instance) : Sv H0 G (tSeq (tDrop (tBM K "list" rAppend te (tCons ta tNil))) u) D := l_appP (D := { D with nx := u D }) h ha hz kk
theorem l_lsetP {xs : List α} {a : α} {up : List α → Cells K} (ha : Ev r ta G a) (h : Pl te G i (nl K r) xs up) (hn : Ev rI ti G n) (hj : ixN xs.length n = some j) (kk : Nx H0 (up (xs.set j a)) D.nx) (F : Frz K r := by infer_instance) : Sv H0 G (tAsg ta (gSub te ti rSetL)) D := fun σ H ⟨H1, e1, E⟩ => by
  obtain ⟨own, E⟩ := E.o
  refine ha H1 σ H E.e _ fun w H2 e2 hw => h own H1 σ H2 (E.grow e2) _ fun v as H3 e3 hr hs cl => ?_
  refine hn H1 σ H3 ((E.grow e2).grow e3).e _ fun y H4 e4 hy => ?_
  obtain ⟨p, vs, ea, ev, hp, z⟩ := hr
  have hp4 := e4 _ _ hp
  have x0 : ExT K H4 (upd H4 p (.lst (vs.set j w))) := ext_upd hp4 fun z => z
  refine ⟨p, vs, n, j, ev, hy, hp4, by rw [z.len]; exact hj, kk _ _ ⟨H1, e1, cl _ _ [p] ?_ (fun q hq => .inl (by rw [ea]; exact hq)) ⟨p, _, rfl, ev, upd_same, A2.set ((stb (F.up (ext_same (e3.trans e4)) hw)).up x0) j (z.imp fun _ _ q => (q.up (ext_same e4)).up x0)⟩⟩⟩
  rw [ea]
  exact but_upd.same e4
theorem q_lsetP {xs : List α} {a : α} {up : List α → Cells K} (ha : Ev r ta G a) (h : Pl te G i (nl K r) xs up) (hn : Ev rI ti G n) (hj : ixN xs.length n = some j) (kk : Sv H0 (up (xs.set j a)) u D) (F : Frz K r := by infer_instance) : Sv H0 G (tSeq (tAsg ta (gSub te ti rSetL)) u) D := l_lsetP (D := { D with nx := u D }) ha h hn hj kk
/-- d[k] = a new thing -/
theorem l_dputP {xs : List (Str × β)} {up : List (Str × β) → Cells K} (hb : Nw R tv G b) (h : Pl te G i (ndR K R) xs up) (hk : Ev rS tk G k) (hz : xs.length < 100000) (kk : Nx H0 (up (dput xs k b)) D.nx) : Sv H0 G (sDPut te tk tv) D := fun σ H ⟨H1, e1, E⟩ => by
  obtain ⟨own, E⟩ := E.o
  refine hb H1 σ H E.e _ fun w H2 bs e2 hn hw => h own H1 σ H2 (E.grow e2) _ fun v as H3 e3 hr hs cl => ?_
  refine hk H1 σ H3 ((E.grow e2).grow e3).e _ fun y H4 e4 hy => ?_
  have E4 := ((E.grow e2).grow e3).grow e4
  obtain ⟨p, kvs, ss, ea, ev, hp, z, d, nk⟩ := (ndR K R).stay hr (ext_same e4) fun q _ o ho => e4 _ _ ho
  have hw4 := R.stay hw (ext_same (e3.trans e4)) fun q _ o ho => (e3.trans e4) _ _ ho
  have hfr : ∀ q ∈ bs, Fr own H1 q := fun q hq => E.fr (hn q hq)
  have hl : kvs.length < sizeLine := Nat.lt_of_le_of_lt (by rw [z.len]; omega) (by decide : 100000 < sizeLine)
  have x0 : ExT K H4 (upd H4 p (.dK (putK kvs (Sum.inr k : Key) w))) := ext_upd hp fun z => z
  have hout : ∀ q ∈ bs, q ≠ p ∧ q ∉ ss.flatten := fun q hq => ⟨fun e => (hfr q hq).2 i (hs q (by rw [ea, e]; exact List.mem_cons_self ..)), fun hm => (hfr q hq).2 i (hs q (by rw [ea]; exact List.mem_cons_of_mem _ hm))⟩
  have stay : ∀ (v : V) (c : β) (t : List Addr), p ∉ t → R.rep H4 v c t → R.rep (upd H4 p (.dK (putK kvs (Sum.inr k : Key) w))) v c t := fun v c t hp' hr => R.stay hr x0 fun q hq o ho => by rw [upd_ne fun z => hp' (by rw [← z]; exact hq)]; exact ho
  have hwN := stay w b bs (fun z => (hout p z).1 rfl) hw4
  have oldN : A3 (KvR K R (upd H4 p (.dK (putK kvs (Sum.inr k : Key) w)))) kvs xs ss := z.imp fun a c t ht hr => ⟨hr.1, stay _ _ _ (by obtain ⟨m, hm⟩ := List.mem_iff_getElem?.mp ht; exact d.1 m t hm) hr.2⟩
  refine ⟨p, _, ev, .inl ⟨kvs, Sum.inr k, hp, hy.1, hl, rfl⟩, kk _ _ ⟨H1, e1, ?_⟩⟩
  have fin : ∀ (ss' : List (List Addr)), A3 (KvR K R (upd H4 p (.dK (putK kvs (Sum.inr k : Key) w)))) (putK kvs (Sum.inr k : Key) w) (dput xs k b) ss' → DJ p ss' → (∀ q ∈ ss'.flatten, q ∈ bs ∨ q ∈ ss.flatten) → ((dput xs k b).map (·.1)).Nodup → Env H1 σ (upd H4 p (.dK (putK kvs (Sum.inr k : Key) w))) (up (dput xs k b)) := fun ss' h1 h2 h3 h4 => by
    refine cl _ _ (p :: ss'.flatten) ((but_upd.same e4).less fun q hq => by rw [List.mem_singleton.mp hq, ea]; exact List.mem_cons_self ..) (fun q hq => ?_) ⟨p, _, ss', rfl, ev, upd_same, h1, h2, h4⟩
    rcases List.mem_cons.mp hq with c | c
    · exact .inl (by rw [ea, c]; exact List.mem_cons_self ..)
    · exact (h3 q c).elim (fun z => .inr (hfr q z)) fun z => .inl (by rw [ea]; exact List.mem_cons_of_mem _ z)
  have eqk := kv_any (z.a2 (q := Kv fun _ _ => True) fun _ _ _ w => ⟨w.1, trivial⟩) k
  cases q : dkey xs k with
  | some x =>
    obtain ⟨j, w0, s, hj, hw0, hss, hrs, hok, hv⟩ := a3_key z q
    have eP : putK kvs (Sum.inr k : Key) w = kvs.set j (Sum.inr k, w) := by
      unfold putK
      rw [if_pos (List.any_eq_true.mpr ⟨_, List.mem_of_getElem? hw0, decide_eq_true rfl⟩)]
      apply List.ext_getElem?
      intro m
      rw [List.getElem?_map]
      by_cases e : j = m
      · subst e
        rw [List.getElem?_set_self (List.getElem?_eq_some_iff.mp hw0).1, hw0]
        show some (if (Sum.inr k : Key) = Sum.inr k then _ else _) = _
        rw [if_pos rfl]
      · rw [List.getElem?_set_ne e]
        cases qq : kvs[m]? with
        | none => rfl
        | some y =>
          show some (if y.1 = (Sum.inr k : Key) then (y.1, w) else y) = some y
          have hm : m < xs.length := by rw [← z.len]; exact (List.getElem?_eq_some_iff.mp qq).1
          obtain ⟨a', t, ha', _, hkv⟩ := z.get (List.getElem?_eq_getElem hm)
          rw [qq] at ha'
          cases ha'
          rw [if_neg fun zz => e (nodup_key nk hj (y := xs[m].2) (by
            rw [List.getElem?_eq_getElem hm]
            have : xs[m].1 = k := Sum.inr.inj (hkv.1.1.symm.trans zz)
            rw [← this]))]
    have h1 := oldN.put (q := KvR K R (upd H4 p (.dK (putK kvs (Sum.inr k : Key) w)))) (j := j) (a := (Sum.inr k, w)) (b := (k, b)) (s := bs) (fun _ _ _ _ _ _ z => z) ⟨⟨rfl, hok⟩, hwN⟩
    rw [← dput_at nk hj] at h1
    refine fin (ss.set j bs) (by rw [eP] at h1 ⊢; exact h1) (d.put hss fun q hq => .inr (hout q hq)) (fun q hq => flat_put hq) (by rw [dput_at nk hj, keys_set hj]; exact nk)
  | none =>
    have hno : ∀ y ∈ xs, y.1 ≠ k := fun y hy e => by
      unfold dkey at q
      have := List.find?_eq_none.mp (Option.map_eq_none_iff.mp q) y hy
      exact this (decide_eq_true e)
    have eD : dput xs k b = xs ++ [(k, b)] := by
      unfold dput
      rw [if_neg]
      intro hh
      obtain ⟨y, hy, e⟩ := List.any_eq_true.mp hh
      exact hno y hy (of_decide_eq_true e)
    have eP : putK kvs (Sum.inr k : Key) w = kvs ++ [(Sum.inr k, w)] := by
      unfold putK
      rw [if_neg]
      rw [eqk]
      intro hh
      obtain ⟨y, hy, e⟩ := List.any_eq_true.mp hh
      exact hno y hy (of_decide_eq_true e)
    rw [eD] at fin ⊢
    rw [eP] at fin oldN hwN ⊢
    refine fin (ss ++ [bs]) (oldN.app (.cons ⟨⟨rfl, hy.2⟩, hwN⟩ .nil)) (d.app hout) (fun q hq => ?_) ?_
    · rw [List.flatten_append, List.flatten_cons, List.flatten_nil, List.append_nil] at hq
      exact (List.mem_append.mp hq).symm
    · rw [List.map_append]
      refine List.nodup_append.mpr ⟨nk, List.pairwise_singleton _ _, fun a ha c hc e => ?_⟩
      obtain ⟨y, hy, e1⟩ := List.mem_map.mp ha
      have hc : c = k := List.mem_singleton.mp hc
      exact hno y hy (by rw [e1, e, hc])
theorem q_dputP {xs : List (Str × β)} {up : List (Str × β) → Cells K} (hb : Nw R tv G b) (h : Pl te G i (ndR K R) xs up) (hk : Ev rS tk G k) (hz : xs.length < 100000) (kk : Sv H0 (up (dput xs k b)) u D) : Sv H0 G (tSeq (sDPut te tk tv) u) D := l_dputP (D := { D with nx := u D }) hb h hk hz kk
end
end Gt
/-! Gt29: values on the ground (read from now on); things apart from a slot's; expressions that change something; defs that change a list they are handed; comprehensions of owned things. -/
namespace Gt
open PySem PySem.Spec PyProof.Rows L2
section
variable {K : PySem.W.Frag} {α β γ δ ρ : Type} {own : Nat → List Addr} {H0 H H1 H2 H' H'' : Hp} {σ : L2.St} {G G' G1 : Cells K} {D : Ends} {u : TS}
variable {R : Rs K β} {te ti tk tx tv ta tb : TE} {i j m : Nat} {b : β} {x : α} {n : Int} {r : Rp α} {q : Rp γ} {k : Str}
/-! ### on the ground -/
/-- H2: the ground H1 with what came between H and H' -/
structure Gnd (K : PySem.W.Frag) (H1 H H' H2 : Hp) : Prop where
  low : Same H1 H2
  up : Same H2 H'
  new : ∀ b o, H b = none → H' b = some o → H2 b = some o
  ext : ExT K H' H2
theorem Gnd.self (h : Same H1 H) (e : Same H H') : Gnd K H1 H H' H' := ⟨h.trans e, Same.refl _, fun _ _ _ h => h, ExT.refl _⟩
theorem Gnd.cut (h1 : Same H1 H) (e : Same H H') (e' : Same H' H'') (g : Gnd K H1 H H'' H2) : ∃ H3, Gnd K H1 H H' H3 ∧ Same H3 H2 := by
  refine ⟨fun b => if H' b = none then none else H2 b, ⟨fun b o hb => ?_, fun b o hb => ?_, fun b o hn ho => ?_, fun a xs hq => ?_⟩, fun b o hb => ?_⟩
  · have hb' := e _ _ (h1 _ _ hb)
    show (if H' b = none then none else H2 b) = some o
    rw [if_neg (by rw [hb']; exact fun z => nomatch z)]
    exact g.low _ _ hb
  · have hb : (if H' b = none then none else H2 b) = some o := hb
    split at hb
    · cases hb
    · rename_i ne
      cases q : H' b with
      | none => exact absurd q ne
      | some o' =>
        have := e' _ _ q
        rw [g.up _ _ hb] at this
        exact this.symm
  · show (if H' b = none then none else H2 b) = some o
    rw [if_neg (by rw [ho]; exact fun z => nomatch z)]
    exact g.new _ _ hn (e' _ _ ho)
  · have key : ∀ o, H' a = some o → H2 a = some o → (if H' a = none then none else H2 a) = some o := fun o ho h2 => by rw [if_neg (by rw [ho]; exact fun z => nomatch z)]; exact h2
    have at2 : ∀ o, H' a = some o → H2 a = none → K.lookup a = none → False := fun _ _ _ _ => by
      rcases hq with (hq | ⟨o', hq⟩) | hq
      · rcases g.ext a xs (.inl (.inl (e' _ _ hq))) with (z | ⟨_, z⟩) | ⟨o, its, n, z, _⟩ <;> simp_all
      · rcases g.ext a xs (.inl (.inr ⟨o', e' _ _ hq⟩)) with (z | ⟨_, z⟩) | ⟨o, its, n, z, _⟩ <;> simp_all
      · obtain ⟨o, its, n, z, _⟩ := hq; simp_all
    rcases hq with (hq | ⟨o', hq⟩) | hq
    · rcases g.ext a xs (.inl (.inl (e' _ _ hq))) with (z | ⟨o2, z⟩) | z
      · exact .inl (.inl (key _ hq z))
      · have := g.up _ _ z
        rw [e' _ _ hq] at this
        cases this
      · exact .inr z
    · rcases g.ext a xs (.inl (.inr ⟨o', e' _ _ hq⟩)) with (z | ⟨o2, z⟩) | z
      · have := g.up _ _ z
        rw [e' _ _ hq] at this
        cases this
      · have := g.up _ _ z
        rw [e' _ _ hq] at this
        cases this
        exact .inl (.inr ⟨_, key _ hq z⟩)
      · exact .inr z
    · exact .inr hq
  · have hb : (if H' b = none then none else H2 b) = some o := hb
    split at hb
    · cases hb
    · exact hb
def Rg (r : Rp α) (te : TE) (G : Cells K) (x : α) : Prop := ∀ H1 σ H, Env H1 σ H G → ∀ Q : VK, (∀ v H', Same H H' → (∀ H2, Gnd K H1 H H' H2 → r H2 v x) → Q v H') → te σ H Q
theorem Rg.ev (h : Rg r te G x) : Ev r te G x := fun H1 σ H E Q c => h H1 σ H E _ fun v H' e g => c v H' e (g H' (.self E.old e))
theorem rg_ro {M : Mono r} (h : G[i]? = some (some (.ro r M x))) : Rg r (tVar i) G x := fun H1 σ H E Q c => by
  obtain ⟨own, _, _, h3⟩ := E.at_
  obtain ⟨v, hv, _, hr⟩ := h3 i _ h
  exact ⟨v, hv, c v H (Same.refl H) fun H2 g => M.up g.low hr⟩
theorem rg_new {rv : Rp β} (h : Nw R te G b) (f : ∀ H v as, R.rep H v b as → rv H v b) : Rg rv te G b := fun H1 σ H E Q c => h H1 σ H E _ fun v H' as e hn hr => c v H' e fun H2 g => f _ _ as (R.stay hr g.ext fun p hp o ho => g.new _ _ (hn p hp) ho)
theorem rg_fz [F : Frz K r] (h : Ev r te G x) : Rg r te G x := fun H1 σ H E Q c => h H1 σ H E _ fun v H' e hr => c v H' e fun H2 g => F.up g.ext hr
theorem rg_ixL {xs : List α} [M : Mono r] (h : Rg (rL r) ta G xs) (hi : Ev rI tb G n) (hx : atI xs n = some x) : Rg r (tOp (rIx K) ta tb) G x := fun H1 σ H E Q c =>
  h H1 σ H E _ fun v Ha e g => by
    obtain ⟨p, vs, ev, hp, z⟩ := g Ha (.self E.old e)
    refine hi H1 σ Ha (E.grow e) _ fun y Hb e' hy => ?_
    obtain ⟨w, hw, _⟩ := atI_A2 z hx
    refine .inl ⟨p, vs, n, w, ev, hy, SqL.of (e' _ _ hp), hw, c w Hb (e.trans e') fun H2 g2 => ?_⟩
    obtain ⟨H3, g3, s3⟩ := Gnd.cut E.old e e' g2
    obtain ⟨p', vs', ev', hp', z'⟩ := g H3 g3
    rw [ev] at ev'
    cases ev'
    have := g3.up _ _ hp'
    rw [hp] at this
    cases this
    obtain ⟨w', hw', hr⟩ := atI_A2 z' hx
    rw [hw] at hw'
    cases hw'
    exact M.up s3 hr
theorem rg_dget {xs : List (Str × α)} [M : Mono r] (h : Rg (rD r) ta G xs) (hk : Ev rS tk G k) (hx : dkey xs k = some x) : Rg r (tDGet ta tk) G x := fun H1 σ H E Q c =>
  h H1 σ H E _ fun v Ha e g => by
    obtain ⟨p, kvs, ev, hp, z⟩ := g Ha (.self E.old e)
    refine hk H1 σ Ha (E.grow e) _ fun y Hb e' hy => ?_
    rcases kv_key z k with ⟨w, b', e5, e6, hq⟩ | ⟨e5, e6⟩
    · rw [hx] at e6
      cases e6
      refine ⟨p, w, ev, .inl ⟨kvs, Sum.inr k, Rd_up e' hp, hy.1, e5.symm⟩, c w Hb (e.trans e') fun H2 g2 => ?_⟩
      obtain ⟨H3, g3, s3⟩ := Gnd.cut E.old e e' g2
      obtain ⟨p', kvs', ev', hp', z'⟩ := g H3 g3
      rw [ev] at ev'
      cases ev'
      have ek : kvs' = kvs := by
        rcases hp' with hp' | ⟨o1, hp'⟩ <;> rcases hp with hp | ⟨o2, hp⟩ <;> (have := g3.up _ _ hp'; rw [hp] at this; cases this; first | done | rfl)
      subst ek
      rcases kv_key z' k with ⟨w', b', f5, f6, hq'⟩ | ⟨f5, f6⟩
      · rw [e5] at f5
        cases f5
        rw [hx] at f6
        cases f6
        exact M.up s3 hq'
      · rw [hx] at f6
        cases f6
    · rw [hx] at e6
      cases e6
section
variable {r1 : Rp β} {r2 : Rp γ} {r3 : Rp δ} {y : β × γ × δ}
theorem rg_h {ρ : Type} {rj : Rp ρ} {z : ρ} {jn : Nat} (hj : jn < 3) (get : ∀ H a b c, r1 H a y.1 → r2 H b y.2.1 → r3 H c y.2.2 → ∃ w, [a, b, c][jn]? = some w ∧ rj H w z) (h : Rg (rH3 r1 r2 r3) ta G y) : Rg rj (tOp (rIx K) ta (tC (.int (jn : Nat)))) G z := fun H1 σ H E Q cc =>
  h H1 σ H E _ fun v Ha e g => by
    obtain ⟨p, a, b, c, ev, hp, h1, h2, h3⟩ := g Ha (.self E.old e)
    obtain ⟨w, hw, _⟩ := get Ha a b c h1 h2 h3
    have hat : atI [a, b, c] ((jn : Nat) : Int) = some w := by
      unfold atI ixN
      rw [if_pos (Int.natCast_nonneg _), if_pos (by show ((jn : Nat) : Int) < ((3 : Nat) : Int); omega)]
      exact hw
    refine .inl ⟨p, [a, b, c], (jn : Nat), w, ev, rfl, SqL.of hp, hat, cc w Ha e fun H2 g2 => ?_⟩
    obtain ⟨p', a', b', c', ev', hp', h1', h2', h3'⟩ := g H2 g2
    rw [ev] at ev'
    cases ev'
    have := g2.up _ _ hp'
    rw [hp] at this
    cases this
    obtain ⟨w', hw', hr⟩ := get H2 a b c h1' h2' h3'
    rw [hw] at hw'
    cases hw'
    exact hr
theorem rg_h0 (h : Rg (rH3 r1 r2 r3) ta G y) : Rg r1 (tOp (rIx K) ta (tC (.int 0))) G y.1 := rg_h (jn := 0) (by decide) (fun H a b c h1 _ _ => ⟨a, rfl, h1⟩) h
theorem rg_h1 (h : Rg (rH3 r1 r2 r3) ta G y) : Rg r2 (tOp (rIx K) ta (tC (.int 1))) G y.2.1 := rg_h (jn := 1) (by decide) (fun H a b c _ h2 _ => ⟨b, rfl, h2⟩) h
theorem rg_h2 (h : Rg (rH3 r1 r2 r3) ta G y) : Rg r3 (tOp (rIx K) ta (tC (.int 2))) G y.2.2 := rg_h (jn := 2) (by decide) (fun H a b c _ _ h3 => ⟨c, rfl, h3⟩) h
end
/-- a display of such things -/
def RgA (r : Rp α) (ta : TA) (G : Cells K) (xs : List α) : Prop := ∀ H1 σ H, Env H1 σ H G → ∀ Q : List V → Hp → Prop, (∀ vs H', Same H H' → (∀ H2, Gnd K H1 H H' H2 → A2 (r H2) vs xs) → Q vs H') → ta σ H Q
theorem rga_nil : RgA (K := K) r tNil G [] := fun H1 σ H E Q c => c [] H (Same.refl H) fun _ _ => .nil
theorem rga_cons {t : TA} {xs : List α} [M : Mono r] (h : Rg r te G x) (hr : RgA r t G xs) : RgA r (tCons te t) G (x :: xs) := fun H1 σ H E Q c =>
  h H1 σ H E _ fun v Ha e g => hr H1 σ Ha (E.grow e) _ fun vs Hb e' g' => c (v :: vs) Hb (e.trans e') fun H2 g2 => by
    obtain ⟨H3, g3, s3⟩ := Gnd.cut E.old e e' g2
    exact .cons (M.up s3 (g H3 g3)) (g' H2 ⟨g2.low, g2.up, fun b o hn ho => g2.new b o (free_back e hn) ho, g2.ext⟩)
theorem rg_lst {t : TA} {xs : List α} [M : Mono r] (h : RgA r t G xs) (hz : xs.length ≤ 100000) : Rg (rL r) (tLst t) G xs := fun H1 σ H E Q c =>
  h H1 σ H E _ fun vs Ha e g => ⟨by rw [(g Ha (.self E.old e)).len]; exact sz hz, fun p hp => c _ _ (e.trans (same_new hp)) fun H2 g2 => by
    obtain ⟨H3, g3, s3⟩ := Gnd.cut E.old e (same_new hp) g2
    exact ⟨p, vs, rfl, g2.new p _ (free_back e hp) upd_same, (g H3 g3).imp fun _ _ z => M.up s3 z⟩⟩
/-- x = a thing on the ground -/
theorem q_setRo [M : Mono r] (h : Rg r te G x) (kk : Sv H0 (G.set i (rc r x)) u D) : Sv H0 G (tSeq (tAsg te (gName i)) u) D := fun σ H ⟨H1, e1, E⟩ =>
  h H1 σ H E _ fun v H' e g => by
    obtain ⟨H2, s1, s2, xt, E2, ho⟩ := E.rebase e
    exact kk _ _ ⟨H2, e1.trans s1, E2.setro (g H2 ⟨s1, s2, ho, xt⟩)⟩
theorem l_setRo [M : Mono r] (h : Rg r te G x) (kk : Nx H0 (G.set i (rc r x)) D.nx) : Sv H0 G (tAsg te (gName i)) D := fun σ H ⟨H1, e1, E⟩ =>
  h H1 σ H E _ fun v H' e g => by
    obtain ⟨H2, s1, s2, xt, E2, ho⟩ := E.rebase e
    exact kk _ _ ⟨H2, e1.trans s1, E2.setro (g H2 ⟨s1, s2, ho, xt⟩)⟩
theorem wk_rg {xs : List α} [M : Mono r] (h : Rg (rL r) te G xs) : Wk (iList K te) r G G xs := fun H1 σ H E RR kk =>
  h H1 σ H E _ fun v H' e g => by
    obtain ⟨H2, s1, s2, xt, E2, ho⟩ := E.rebase e
    obtain ⟨p, vs, ev, hp, z⟩ := g H2 ⟨s1, s2, ho, xt⟩
    exact ⟨p, ev, ⟨vs, SqL.of (s2 _ _ hp)⟩, kk _ H2 H' s1 e E2 (wj_list hp z)⟩
/-- what is owned is read from now on -/
theorem EnvO.frz {rv : Rp β} [M : Mono rv] (E : EnvO own H1 σ H G) (hi : G[i]? = some (some (.ow R b))) (f : ∀ H v as, R.rep H v b as → rv H v b) : ∃ H2, Same H1 H2 ∧ Env H2 σ H (G.set i (rc rv b)) := by
  classical
  let X : Addr → Prop := fun b => (∃ j, j ≠ i ∧ b ∈ own j)
  have hX : ∀ b, H1 b ≠ none → ¬ X b := fun b hb ⟨j, _, hj⟩ => hb (E.free j b hj).1
  have key : ∀ b, cutH H X b = if X b then none else H b := fun b => rfl
  have s12 : Same H1 (cutH H X) := fun b o ho => by
    rw [key, if_neg (hX b (by rw [ho]; exact fun z => nomatch z))]
    exact E.old b o ho
  have s2 : Same (cutH H X) H := fun b o ho => by
    rw [key] at ho
    split at ho
    · cases ho
    · exact ho
  have xt : ExT K H (cutH H X) := fun a xs q => by
    have nX : ∀ o, H a = some o → isTup o → ¬ X a := fun o ho t ⟨j, _, hj⟩ => by
      obtain ⟨u, hu, nu⟩ := (E.free j a hj).2
      rw [ho] at hu
      cases hu
      exact nu t
    rcases q with (q | ⟨o', q⟩) | q
    · exact .inl (.inl (by rw [key, if_neg (nX _ q trivial)]; exact q))
    · exact .inl (.inr ⟨o', by rw [key, if_neg (nX _ q trivial)]; exact q⟩)
    · exact .inr q
  refine ⟨cutH H X, s12, s2, by rw [List.length_set]; exact E.len, fun j => if j = i then [] else own j, fun j p hp => ?_, fun j k p hj hk => ?_, fun j c hc => ?_⟩
  · by_cases hj : j = i
    · simp only [hj, if_true] at hp
      cases hp
    · simp only [hj, if_false] at hp
      exact ⟨by rw [key, if_pos ⟨j, hj, hp⟩], (E.free j p hp).2⟩
  · by_cases hji : j = i
    · simp only [hji, if_true] at hj
      cases hj
    · by_cases hki : k = i
      · simp only [hki, if_true] at hk
        cases hk
      · simp only [hji, hki, if_false] at hj hk
        exact E.apart j k p hj hk
  · by_cases hj : j = i
    · subst hj
      have hl : j < G.length := (List.getElem?_eq_some_iff.mp hi).1
      rw [List.getElem?_set_self hl] at hc
      cases hc
      obtain ⟨v, hv, hr⟩ := E.at_ j _ hi
      refine ⟨v, hv, by simp, ?_⟩
      refine f _ v (own j) (R.stay hr xt fun p hp o ho => ?_)
      rw [key, if_neg fun ⟨l, hl, hq⟩ => hl (E.apart l j p hq hp)]
      exact ho
    · rw [List.getElem?_set_ne (Ne.symm hj)] at hc
      obtain ⟨v, hv, hk⟩ := E.at_ j c hc
      refine ⟨v, hv, ?_⟩
      simp only [hj, if_false]
      cases c with
      | ow R b => exact hk
      | ro r m b => exact ⟨hk.1, m.up s12 hk.2⟩
theorem have_frzR {rv : Rp β} [M : Mono rv] (hi : G[i]? = some (some (.ow R b))) (f : ∀ H v as, R.rep H v b as → rv H v b) (h : Have H0 G σ H) : Have H0 (G.set i (rc rv b)) σ H := by
  obtain ⟨H1, e, E⟩ := h
  obtain ⟨own, E⟩ := E.o
  obtain ⟨H2, s, E2⟩ := E.frz hi f
  exact ⟨H2, e.trans s, E2⟩
theorem q_frzR {t : TS} {rv : Rp β} [M : Mono rv] (hi : G[i]? = some (some (.ow R b))) (f : ∀ H v as, R.rep H v b as → rv H v b) (h : Sv H0 (G.set i (rc rv b)) t D) : Sv H0 G t D := fun σ H hv => h σ H (have_frzR hi f hv)
/-! ### apart from what slot i owns -/
def dl (H : Hp) (p : Addr) : Hp := fun b => if b = p then none else H b
theorem dl_ne {p q : Addr} (h : q ≠ p) : dl H p q = H q := by unfold dl; rw [if_neg h]
theorem dl_at {p : Addr} : dl H p p = none := by unfold dl; rw [if_pos rfl]
theorem dl_same {p : Addr} (e : Same H H') : Same (dl H p) (dl H' p) := fun b o hb => by
  by_cases h : b = p
  · rw [h, dl_at] at hb; cases hb
  · rw [dl_ne h] at hb ⊢; exact e _ _ hb
theorem dl_low {p : Addr} : Same (dl H p) H := fun b o hb => by
  by_cases h : b = p
  · rw [h, dl_at] at hb; cases hb
  · rw [dl_ne h] at hb; exact hb
theorem EnvO.dlx {p : Addr} (E : EnvO own H0 σ H G) (hp : p ∈ own i) : ExT K H (dl H p) := fun a xs q => by
  have ne : ∀ o, H a = some o → isTup o → a ≠ p := fun o ho t e => by
    obtain ⟨o', ho', nt⟩ := (E.free i p hp).2
    rw [e] at ho
    rw [ho] at ho'
    cases ho'
    exact nt t
  rcases q with (q | ⟨o', q⟩) | q
  · exact .inl (.inl (by rw [dl_ne (ne _ q trivial)]; exact q))
  · exact .inl (.inr ⟨o', by rw [dl_ne (ne _ q trivial)]; exact q⟩)
  · exact .inr q
def Ap (r : Rp α) (te : TE) (G : Cells K) (i : Nat) (x : α) : Prop := ∀ own H0 σ H, EnvO own H0 σ H G → ∀ Q : VK, (∀ v H', Same H H' → (∀ p ∈ own i, r (dl H' p) v x) → Q v H') → te σ H Q
def ApA (A : Ra α) (ta : TA) (G : Cells K) (i : Nat) (x : α) : Prop := ∀ own H0 σ H, EnvO own H0 σ H G → ∀ Q : List V → Hp → Prop, (∀ vs H', Same H H' → (∀ p ∈ own i, A (dl H' p) vs x) → Q vs H') → ta σ H Q
theorem apa_nil : ApA (K := K) aN tNil G i () := fun own H0 σ H E Q c => c [] H (Same.refl H) fun _ _ => rfl
theorem apa_cons {A : Ra γ} {t : TA} {y : γ} [M : Mono r] (h : Ap r te G i x) (hr : ApA A t G i y) : ApA (aC r A) (tCons te t) G i (x, y) := fun own H0 σ H E Q c =>
  h own H0 σ H E _ fun v H1 e1 h1 => hr own H0 σ H1 (E.grow e1) _ fun vs H2 e2 h2 => c (v :: vs) H2 (e1.trans e2) fun p hp => ⟨v, vs, rfl, M.up (dl_same e2) (h1 p hp), h2 p hp⟩
theorem ap_fz [F : Frz K r] (h : Ev r te G x) : Ap r te G i x := fun own H0 σ H E Q c => h H0 σ H E.e _ fun v H' e hr => c v H' e fun p hp => F.up ((E.grow e).dlx hp) hr
theorem ap_rg [M : Mono r] (h : Rg r te G x) : Ap r te G i x := fun own H0 σ H E Q c => h H0 σ H E.e _ fun v H' e g => c v H' e fun p hp => by
  have E' := E.grow e
  have hd : H0 p = none := (E.free i p hp).1
  have hH : ∃ o, H p = some o := let ⟨o, ho, _⟩ := (E.free i p hp).2; ⟨o, ho⟩
  refine g (dl H' p) ⟨fun b o hb => ?_, dl_low, fun b o hn ho => ?_, E'.dlx hp⟩
  · rw [dl_ne fun z => by rw [z, hd] at hb; cases hb]
    exact E'.old _ _ hb
  · rw [dl_ne fun z => by obtain ⟨o', ho'⟩ := hH; rw [z, ho'] at hn; cases hn]
    exact ho
/-- what another slot owns -/
theorem ap_own {rv : Rp β} (hj : G[j]? = some (some (.ow R b))) (ne : j ≠ i) (f : ∀ H v as, R.rep H v b as → rv H v b) : Ap rv (tVar j) G i b := fun own H0 σ H E Q c => by
  obtain ⟨v, hv, hr⟩ := E.at_ j _ hj
  exact ⟨v, hv, c v H (Same.refl H) fun p hp => f _ _ (own j) (R.stay hr (E.dlx hp) fun q hq o ho => by rw [dl_ne fun z => ne (E.apart j i q hq (by rw [z]; exact hp))]; exact ho)⟩
/-! ### expressions that change something -/
def EvX (r : Rp α) (te : TE) (G : Cells K) (x : α) (G' : Cells K) : Prop := ∀ H0 σ H, Env H0 σ H G → ∀ Q : VK, (∀ v H', Env H0 σ H' G' → r H' v x → Q v H') → te σ H Q
theorem Ev.toX (h : Ev r te G x) : EvX r te G x G := fun H0 σ H E Q c => h H0 σ H E _ fun v H' e hr => c v H' (E.grow e) hr
theorem ex_or {c d : Bool} (h : EvX rB ta G c G1) (h' : c = false → Ev rB tb G1 d) : EvX rB (tOrV ta tb) G (c || d) G1 := fun H0 σ H E Q k => h H0 σ H E _ fun v H1 E1 hv => by
  refine ⟨c, hv, ?_⟩
  cases c with
  | true => rw [if_pos rfl]; exact k _ _ E1 rfl
  | false => rw [if_neg Bool.false_ne_true]; exact h' rfl H0 σ H1 E1 _ fun w H2 e2 hw => k w H2 (E1.grow e2) (by rw [Bool.false_or]; exact hw)
theorem q_setX [F : Frz K r] (h : EvX r te G x G1) (kk : Sv H0 (G1.set i (fc r x)) u D) : Sv H0 G (tSeq (tAsg te (gName i)) u) D := fun σ H ⟨H1, e1, E⟩ =>
  h H1 σ H E _ fun v H' E' hr => kk _ _ ⟨H1, e1, E'.put (R := fz K r) (as := []) (Same.refl _) (fun _ z => nomatch z) ⟨rfl, stb hr⟩⟩
theorem l_setX [F : Frz K r] (h : EvX r te G x G1) (kk : Nx H0 (G1.set i (fc r x)) D.nx) : Sv H0 G (tAsg te (gName i)) D := fun σ H ⟨H1, e1, E⟩ =>
  h H1 σ H E _ fun v H' E' hr => kk _ _ ⟨H1, e1, E'.put (R := fz K r) (as := []) (Same.refl _) (fun _ z => nomatch z) ⟨rfl, stb hr⟩⟩
theorem q_drpX (h : EvX r te G x G1) (kk : Sv H0 G1 u D) : Sv H0 G (tSeq (tDrop te) u) D := fun σ H ⟨H1, e1, E⟩ => h H1 σ H E _ fun v H' E' _ => kk _ _ ⟨H1, e1, E'⟩
theorem l_drpX (h : EvX r te G x G1) (kk : Nx H0 G1 D.nx) : Sv H0 G (tDrop te) D := fun σ H ⟨H1, e1, E⟩ => h H1 σ H E _ fun v H' E' _ => kk _ _ ⟨H1, e1, E'⟩
/-! ### a def that changes the list that it is handed first -/
def spPutL (K : PySem.W.Frag) {α β γ : Type} (r : Rp β) (A : Ra α) (q : Rp γ) (m : List β → α → M (List β × γ)) : Sp := fun vs H Q _ => ∃ p ws us xs a ys c, vs = .ref p :: ws ∧ H p = some (.lst us) ∧ A2 (Stb K r H) us xs ∧ A (dl H p) ws a ∧ m xs a = .ok (ys, c) ∧
  ∀ v H' us', But [p] H H' → H' p = some (.lst us') → A2 (Stb K r H') us' ys → q H' v c → Q v H'
theorem spPutL_len {r : Rp β} {A : Ra α} {m : List β → α → M (List β × γ)} {k : Nat} [L : LenA A k] {vs : List V} {H : Hp} {Q : VK} {E : XK} (h : spPutL K r A q m vs H Q E) : vs.length = k + 1 := by
  obtain ⟨p, ws, us, xs, a, ys, c, rfl, _, _, hA, _⟩ := h
  rw [List.length_cons, L.len hA]
theorem ex_put {rb : Rp β} {A : Ra α} {t : TA} {a : α} {mm : List β → α → M (List β × γ)} {xs ys : List β} {c : γ} {up : List β → Cells K} {E' : XK} (h : Pl te G i (nl K rb) xs up) (ha : ApA A t G i a) (e : mm xs a = .ok (ys, c)) : EvX q (tCall (spPutL K rb A q mm) [] E' (tCons te t)) G c (up ys) := fun H0 σ H E Q kk => by
  obtain ⟨own, E⟩ := E.o
  refine h own H0 σ H E _ fun v as H1 e1 hr hs cl => ha own H0 σ H1 (E.grow e1) _ fun vs H2 e2 hA => ?_
  obtain ⟨p, us, ea, ev, hp, z⟩ := hr
  rw [List.append_nil]
  refine ⟨p, vs, us, xs, a, ys, c, by rw [ev], e2 _ _ hp, z.imp fun _ _ w => w.up (ext_same e2), hA p (hs p (by rw [ea]; exact List.mem_singleton.mpr rfl)), e, fun w H' us' k1 k2 k3 k4 => kk w H' (cl H' ys [p] ?_ (fun q hq => .inl (by rw [ea]; exact hq)) ⟨p, us', rfl, ev, k2, k3⟩) k4⟩
  rw [ea]
  exact k1.same e2
/-- the list at p -/
def nlA (K : PySem.W.Frag) {β : Type} (r : Rp β) (p : Addr) : Rs K (List β) where
  rep := fun H v xs as => (nl K r).rep H v xs as ∧ v = .ref p
  stay := fun h x k => ⟨(nl K r).stay h.1 x k, h.2⟩
  there := fun h => (nl K r).there h.1
theorem pl_varA {xs : List α} {p : Addr} (h : G[i]? = some (some (.ow (nlA K r p) xs))) : Pl (tVar i) G i (nl K r) xs fun ys => G.set i (some (.ow (nlA K r p) ys)) := fun own H0 σ H E Q c => by
  obtain ⟨v, hv, hr⟩ := E.at_ i _ h
  have hl : i < G.length := (List.getElem?_eq_some_iff.mp h).1
  exact ⟨v, hv, c v (own i) H (Same.refl H) hr.1 (fun _ z => z) fun H3 b' as' e1 e2 e3 => E.chg hl hv e1 e2 (R' := nlA K r p) ⟨e3, hr.2⟩⟩
theorem a_nlA {xs : List α} {p : Addr} (h : G[i]? = some (some (.ow (nlA K r p) xs))) : Ev (rL r) (tVar i) G xs := (pl_varA h).ev fun _ _ _ z => vw_nl z
theorem r_retP {xs : List α} {p : Addr} {c : γ} (hi : G[i]? = some (some (.ow (nlA K r p) xs))) (hD : ∀ v H' us', Same H0 H' → H' p = some (.lst us') → A2 (Stb K r H') us' xs → q H' v c → D.rt v H') (h : Ev q te G c) : Sv H0 G (tRet te) D := fun σ H ⟨H1, e1, E⟩ =>
  h H1 σ H E _ fun v H' e hv => by
    obtain ⟨own, E'⟩ := (E.grow e).o
    obtain ⟨w, _, ⟨p', us, _, ev, hp, z⟩, ew⟩ := E'.at_ i _ hi
    rw [ev] at ew
    cases ew
    exact hD v H' us (e1.trans E'.old) hp z hv
/-- its start: the list in the first slot -/
theorem Sv.runP {xs : List α} {p : Addr} {us : List V} {σ : L2.St} {G : Cells K} {t : TS} (s : Sv (dl H p) (some (.ow (nlA K r p) xs) :: G) t D) (hp : H p = some (.lst us)) (z : A2 (Stb K r H) us xs) (w : Pw (dl H p) σ G) : t D (some (.ref p) :: σ) H := by
  have xt : ExT K H (dl H p) := fun a ys q => by
    have ne : ∀ o, H a = some o → isTup o → a ≠ p := fun o ho t e => by
      rw [e, hp] at ho
      cases ho
      exact t
    rcases q with (q | ⟨o', q⟩) | q
    · exact .inl (.inl (by rw [dl_ne (ne _ q trivial)]; exact q))
    · exact .inl (.inr ⟨o', by rw [dl_ne (ne _ q trivial)]; exact q⟩)
    · exact .inr q
  refine s _ H ⟨dl H p, Same.refl _, dl_low, by rw [List.length_cons, List.length_cons, w.len], fun i => if i = 0 then [p] else [], fun i q hq => ?_, fun i j q hi hj => ?_, fun i c hc => ?_⟩
  · by_cases h : i = 0
    · simp only [h, if_true] at hq
      cases List.mem_singleton.mp hq
      exact ⟨dl_at, _, hp, fun z => z⟩
    · simp only [h, if_false] at hq
      cases hq
  · by_cases h : i = 0 <;> by_cases h' : j = 0
    · rw [h, h']
    · simp only [h', if_false] at hj; cases hj
    · simp only [h, if_false] at hi; cases hi
    · simp only [h, if_false] at hi; cases hi
  · cases i with
    | zero =>
      cases hc
      exact ⟨_, rfl, ⟨p, us, rfl, rfl, hp, z⟩, rfl⟩
    | succ i =>
      obtain ⟨v, hv, hk⟩ := w.get (i := i) (by simpa using hc)
      refine ⟨v, by simpa using hv, ?_⟩
      show c.ok (dl H p) H v []
      cases c with
      | ow R b => exact R.stay hk (ext_same dl_low) fun q hq => nomatch hq
      | ro r m b => exact hk
end
end Gt
/-! Gt30: new nested things: displays, comprehensions; a slot's thing moved into a list. -/
namespace Gt
open PySem PySem.Spec PyProof.Rows L2
section
variable {K : PySem.W.Frag} {α β γ δ ρ : Type} {own : Nat → List Addr} {H0 H H1 H2 H' H'' : Hp} {σ : L2.St} {G G' Gx : Cells K} {D : Ends} {u : TS}
variable {R : Rs K β} {R' : Rs K γ} {R2 : Rs K δ} {te ti tk tx tv ta tb tc : TE} {i j m : Nat} {b : β} {x : α} {n : Int} {r : Rp α} {q : Rp γ} {k : Str}
theorem nw_nilR : Nw (nlR K R) (tLst tNil) G [] := fun H0 σ H E Q c => ⟨Nat.zero_le _, fun p hp => c _ _ [p] (same_new hp) (fun b hb => by rw [List.mem_singleton.mp hb]; exact hp) ⟨p, [], [], rfl, rfl, upd_same, .nil, fun k s h => by simp at h, fun k l s t q h => by simp at h⟩⟩
theorem nw_dnewR : Nw (ndR K R) tDNewK G [] := fun H0 σ H E Q c p hp => c _ _ [p] (same_new hp) (fun b hb => by rw [List.mem_singleton.mp hb]; exact hp) ⟨p, [], [], rfl, rfl, upd_same, .nil, ⟨fun k s h => by simp at h, fun k l s t q h => by simp at h⟩, List.nodup_nil⟩
/-- [a, b, c], three new things -/
theorem nw_H3 {c : γ} {d : δ} (h1 : Nw R ta G b) (h2 : Nw R' tb G c) (h3 : Nw R2 tc G d) : Nw (nH3 K R R' R2) (tLst (tCons ta (tCons tb (tCons tc tNil)))) G (b, c, d) := fun H0 σ H E Q kk =>
  h1 H0 σ H E _ fun v1 Ha a1 e1 n1 r1 => h2 H0 σ Ha (E.grow e1) _ fun v2 Hb a2 e2 n2 r2 => h3 H0 σ Hb ((E.grow e1).grow e2) _ fun v3 Hc a3 e3 n3 r3 => ⟨by show 3 ≤ sizeLine; decide, fun p hp => by
    have x12 := e2.trans e3
    have s1 := R.stay r1 (ext_same x12) fun q _ o ho => x12 _ _ ho
    have s2 := R'.stay r2 (ext_same e3) fun q _ o ho => e3 _ _ ho
    have np : Same Hc (upd Hc p (.lst [v1, v2, v3])) := same_new hp
    have t1 := R.stay s1 (ext_same np) fun q _ o ho => np _ _ ho
    have t2 := R'.stay s2 (ext_same np) fun q _ o ho => np _ _ ho
    have t3 := R2.stay r3 (ext_same np) fun q _ o ho => np _ _ ho
    have in1 : ∀ q ∈ a1, ∃ o, Ha q = some o := fun q hq => let ⟨o, ho, _⟩ := R.there r1 q hq; ⟨o, ho⟩
    have in2 : ∀ q ∈ a2, ∃ o, Hb q = some o := fun q hq => let ⟨o, ho, _⟩ := R'.there r2 q hq; ⟨o, ho⟩
    have in3 : ∀ q ∈ a3, ∃ o, Hc q = some o := fun q hq => let ⟨o, ho, _⟩ := R2.there r3 q hq; ⟨o, ho⟩
    have p1 : p ∉ a1 := fun z => by obtain ⟨o, ho⟩ := in1 p z; rw [x12 _ _ ho] at hp; cases hp
    have p2 : p ∉ a2 := fun z => by obtain ⟨o, ho⟩ := in2 p z; rw [e3 _ _ ho] at hp; cases hp
    have p3 : p ∉ a3 := fun z => by obtain ⟨o, ho⟩ := in3 p z; rw [ho] at hp; cases hp
    have d12 : ∀ q, q ∈ a1 → q ∉ a2 := fun q h h' => by obtain ⟨o, ho⟩ := in1 q h; rw [n2 q h'] at ho; cases ho
    have d13 : ∀ q, q ∈ a1 → q ∉ a3 := fun q h h' => by obtain ⟨o, ho⟩ := in1 q h; have := e2 _ _ ho; rw [n3 q h'] at this; cases this
    have d23 : ∀ q, q ∈ a2 → q ∉ a3 := fun q h h' => by obtain ⟨o, ho⟩ := in2 q h; rw [n3 q h'] at ho; cases ho
    have at_ : ∀ (l : Nat) (s : List Addr), [a1, a2, a3][l]? = some s → (l = 0 ∧ s = a1) ∨ (l = 1 ∧ s = a2) ∨ (l = 2 ∧ s = a3) := fun l s h => by
      match l, h with
      | 0, h => cases h; exact .inl ⟨rfl, rfl⟩
      | 1, h => cases h; exact .inr (.inl ⟨rfl, rfl⟩)
      | 2, h => cases h; exact .inr (.inr ⟨rfl, rfl⟩)
      | l + 3, h => simp at h
    refine kk _ _ (p :: [a1, a2, a3].flatten) (((e1.trans e2).trans e3).trans np) (fun q hq => ?_) ⟨p, v1, v2, v3, a1, a2, a3, rfl, rfl, upd_same, ⟨t1, t2, t3⟩, fun l s h => ?_, fun l l' s t q h h' hq hq' => ?_⟩
    · rcases List.mem_cons.mp hq with z | z
      · rw [z]; exact free_back ((e1.trans e2).trans e3) hp
      · obtain ⟨l, s, hs, hq⟩ := flat_mem z
        rcases at_ l s hs with ⟨_, e⟩ | ⟨_, e⟩ | ⟨_, e⟩
        · rw [e] at hq; exact n1 q hq
        · rw [e] at hq; exact free_back e1 (n2 q hq)
        · rw [e] at hq; exact free_back (e1.trans e2) (n3 q hq)
    · rcases at_ l s h with ⟨_, e⟩ | ⟨_, e⟩ | ⟨_, e⟩ <;> rw [e]
      · exact p1
      · exact p2
      · exact p3
    · rcases at_ l s h with ⟨e1, e⟩ | ⟨e1, e⟩ | ⟨e1, e⟩ <;> rcases at_ l' t h' with ⟨f1, f⟩ | ⟨f1, f⟩ | ⟨f1, f⟩ <;> rw [e] at hq <;> rw [f] at hq' <;> first | exact absurd hq' (d12 q hq) | exact absurd hq' (d13 q hq) | exact absurd hq' (d23 q hq) | exact absurd hq (d12 q hq') | exact absurd hq (d13 q hq') | exact absurd hq (d23 q hq') | (rw [e1, f1])⟩
theorem a_H3 {α β γ : Type} {r1 : Rp α} {r2 : Rp β} {r3 : Rp γ} {y : List α × List (Str × List β) × List (Str × List γ)} (h : G[i]? = some (some (.ow (nH3 K (nl K r1) (ndR K (nl K r2)) (ndR K (nl K r3))) y))) : Ev (rH3 (rL r1) (rD (rL r2)) (rD (rL r3))) (tVar i) G y := (pl_var h).ev fun _ _ _ z => vw_nH3 (fun _ _ _ _ z => vw_nl z) (fun _ _ _ _ z => vw_ndR (fun _ _ _ _ z => vw_nl z) z) (fun _ _ _ _ z => vw_ndR (fun _ _ _ _ z => vw_nl z) z) z
theorem a_nlR {α : Type} {r : Rp α} {xss : List (List α)} (h : G[i]? = some (some (.ow (nlR K (nl K r)) xss))) : Ev (rL (rL r)) (tVar i) G xss := (pl_var h).ev fun _ _ _ z => vw_nlR (fun _ _ _ _ z => vw_nl z) z
section
variable {r1 : Rp β} {r2 : Rp γ} {r3 : Rp δ} {y : β × γ × δ}
theorem ixc_h0 [M : Mono r1] : IxC K (rH3 r1 r2 r3) y (tC (.int 0)) G r1 y.1 := fun ta h => ev_h0 h
theorem ixc_h1 [M : Mono r2] : IxC K (rH3 r1 r2 r3) y (tC (.int 1)) G r2 y.2.1 := fun ta h => ev_h1 h
theorem ixc_h2 [M : Mono r3] : IxC K (rH3 r1 r2 r3) y (tC (.int 2)) G r3 y.2.2 := fun ta h => ev_h2 h
end
/-! ### a slot's thing goes into a list -/
theorem l_appMv {xss : List β} (hi : G[i]? = some (some (.ow (nlR K R) xss))) (hm : G[m]? = some (some (.ow R b))) (ne : m ≠ i) (hz : xss.length < 100000) (kk : Nx H0 ((G.set m none).set i (some (.ow (nlR K R) (xss ++ [b])))) D.nx) : Sv H0 G (tDrop (tBM K "list" rAppend (tVar i) (tCons (tVar m) tNil))) D := fun σ H ⟨H1, e1, E⟩ => by
  obtain ⟨own, E⟩ := E.o
  obtain ⟨v, hv, p, vs, ss, ea, ev, hp, z, d⟩ := E.at_ i _ hi
  obtain ⟨w, hw, hr⟩ := E.at_ m _ hm
  subst ev
  have hl : i < G.length := (List.getElem?_eq_some_iff.mp hi).1
  have ho : ∀ q ∈ own m, q ∉ own i := fun q h h' => ne (E.apart m i q h h')
  have E2 : EnvO (fun l => if l = m then [] else own l) H1 σ H (G.set m none) := ⟨E.old, by rw [List.length_set]; exact E.len, fun l q hq => by
      by_cases h : l = m
      · simp only [h, if_true] at hq; cases hq
      · simp only [h, if_false] at hq; exact E.free l q hq, fun l l' q hq hq' => by
      by_cases h : l = m
      · simp only [h, if_true] at hq; cases hq
      · by_cases h' : l' = m
        · simp only [h', if_true] at hq'; cases hq'
        · simp only [h, h', if_false] at hq hq'; exact E.apart l l' q hq hq', fun l c hc => by
      by_cases h : l = m
      · subst h
        rw [List.getElem?_set_self (List.getElem?_eq_some_iff.mp hm).1] at hc
        cases hc
      · rw [List.getElem?_set_ne (Ne.symm h)] at hc
        simp only [h, if_false]
        exact E.at_ l c hc⟩
  have x0 : ExT K H (upd H p (.lst (vs ++ [w]))) := ext_upd hp fun z => z
  have stay : ∀ (R3 : Rs K β) (v : V) (c : β) (t : List Addr), p ∉ t → R3.rep H v c t → R3.rep (upd H p (.lst (vs ++ [w]))) v c t := fun R3 v c t hp' hr => R3.stay hr x0 fun q hq o ho => by rw [upd_ne fun z => hp' (by rw [← z]; exact hq)]; exact ho
  have pm : p ∉ own m := fun hq => ho p hq (by rw [ea]; exact List.mem_cons_self ..)
  refine ⟨_, hv, .inl ⟨rfl, vs, SqL.of hp⟩, _, hw, p, vs, w, rfl, rfl, hp, Nat.lt_of_le_of_lt (by rw [z.len]; omega) (by decide : 100000 < sizeLine), kk _ _ ⟨H1, e1, ?_⟩⟩
  refine E2.chg (i := i) (by rw [List.length_set]; exact hl) hv (as' := p :: (ss ++ [own m]).flatten) (fun c o hc ho => ?_) (fun q hq => ?_) (R' := nlR K R) ⟨p, _, ss ++ [own m], rfl, rfl, upd_same, (z.imp fun a c t ht hr => stay R _ _ _ ?_ hr).app (.cons (stay R _ _ _ pm hr) .nil), d.app fun q hq => ⟨fun e => pm (by rw [← e]; exact hq), fun hm' => ho q hq (by rw [ea]; exact List.mem_cons_of_mem _ hm')⟩⟩
  · have hc : c ∉ own i := by simpa [Ne.symm ne] using hc
    rw [upd_ne fun e => hc (by rw [ea, e]; exact List.mem_cons_self ..)]
    exact ho
  · rcases List.mem_cons.mp hq with e | e
    · exact .inl (by simp only [Ne.symm ne, if_false]; rw [ea, e]; exact List.mem_cons_self ..)
    · rw [List.flatten_append, List.flatten_cons, List.flatten_nil, List.append_nil] at e
      rcases List.mem_append.mp e with e | e
      · exact .inl (by simp only [Ne.symm ne, if_false]; rw [ea]; exact List.mem_cons_of_mem _ e)
      · refine .inr ⟨(E.free m q e).1, fun l hl => ?_⟩
        by_cases h : l = m
        · simp only [h, if_true] at hl; cases hl
        · simp only [h, if_false] at hl; exact h (E.apart l m q hl e)
  · obtain ⟨l, hl⟩ := List.mem_iff_getElem?.mp ht
    exact d.1 l t hl
theorem q_appMv {xss : List β} (hi : G[i]? = some (some (.ow (nlR K R) xss))) (hm : G[m]? = some (some (.ow R b))) (ne : m ≠ i) (hz : xss.length < 100000) (kk : Sv H0 ((G.set m none).set i (some (.ow (nlR K R) (xss ++ [b])))) u D) : Sv H0 G (tSeq (tDrop (tBM K "list" rAppend (tVar i) (tCons (tVar m) tNil))) u) D := l_appMv (D := { D with nx := u D }) hi hm ne hz kk
/-! ### comprehensions of new things -/
theorem Env.pushR {D : Addr} {R : Rs K β} (E : Env H1 σ H G) (hD : H D = none) : Env H1 (σ ++ [some (.ref D)]) (upd H D (.lst [])) (G ++ [some (.ow (nlR K R) [])]) := by
  have e : Same H (upd H D (.lst [])) := fun b o hb => by rw [upd_ne (ne_of_none hb hD)]; exact hb
  have E2 := E.pad.put (i := G.length) (v := .ref D) (R := nlR K R) (b := []) (as := [D]) e (fun p hp => by rw [List.mem_singleton.mp hp]; exact hD) ⟨D, [], [], rfl, rfl, upd_same, .nil, fun k s h => by simp at h, fun k l s t q h => by simp at h⟩
  have e1 : (σ ++ [none]).set G.length (some (V.ref D)) = σ ++ [some (.ref D)] := by rw [← E.len]; exact set_last
  have e2 : (G ++ [none]).set G.length (some (.ow (nlR K R) [])) = G ++ [some (.ow (nlR K R) [])] := set_last
  rw [e1, e2] at E2
  exact E2
theorem nw_lcR {wi : TI} {g : TG} {vs : List Nat} {f : α → M β} {ys : List α} {zs : List β} (hw : Wk wi r G G' ys) (hlen : ys.length ≤ 100000)
    (turn : ∀ x, ∃ Gx, Tb g r x vs (wipeG G' vs) Gx ∧ ∀ y, f x = .ok y → Nw R te Gx y) (hm : mlc (fun _ => .ok true) f ys = .ok zs) : Nw (nlR K R) (tLc wi g tYes te vs) G zs := fun H1 σ H E Q k => by
  have zl : ∀ (l : List α) (us : List β), mlc (fun _ => .ok true) f l = .ok us → us.length = l.length := by
    intro l
    induction l with
    | nil => intro us h; cases h; rfl
    | cons x l ih =>
      intro us h
      obtain ⟨y, hy, h⟩ := mb_ok (show mb (f x) (fun y => mb (mlc (fun _ => .ok true) f l) fun ys => .ok (y :: ys)) = .ok us from h)
      obtain ⟨ws, hws, h⟩ := mb_ok h
      cases h
      rw [List.length_cons, List.length_cons, ih ws hws]
  have step : ∀ (i : Nat) (hl : i < ys.length), ∃ us y, mlc (fun _ => .ok true) f (ys.take i) = .ok us ∧ f ys[i] = .ok y ∧ mlc (fun _ => .ok true) f (ys.take (i + 1)) = .ok (us ++ [y]) := fun i hl => by
    have hsp : ys = ys.take i ++ ys[i] :: ys.drop (i + 1) := by rw [List.getElem_cons_drop, List.take_append_drop]
    have hm2 := hm
    rw [hsp] at hm2
    obtain ⟨us, vs', h1, h2, _⟩ := mlc_app hm2
    obtain ⟨y, hy, _⟩ := mb_ok (show mb (f ys[i]) _ = .ok vs' from h2)
    refine ⟨us, y, h1, hy, ?_⟩
    have etk : ys.take (i + 1) = ys.take i ++ [ys[i]] := by rw [List.take_add_one, List.getElem?_eq_getElem hl]; rfl
    rw [etk]
    have app : ∀ (l : List α) (as : List β), mlc (fun _ => .ok true) f l = .ok as → mlc (fun _ => .ok true) f (l ++ [ys[i]]) = .ok (as ++ [y]) := by
      intro l
      induction l with
      | nil =>
        intro as h
        cases h
        show mb (f ys[i]) _ = _
        rw [mb_of hy]
        rfl
      | cons x l ih =>
        intro as h
        obtain ⟨z, hz, h⟩ := mb_ok (show mb (f x) (fun y => mb (mlc (fun _ => .ok true) f l) fun ys => .ok (y :: ys)) = .ok as from h)
        obtain ⟨ws, hws, h⟩ := mb_ok h
        cases h
        show mb (f x) _ = _
        rw [mb_of hz]
        show mb (mlc (fun _ => .ok true) f (l ++ [ys[i]])) _ = _
        rw [mb_of (ih ws hws)]
        rfl
    exact app _ us h1
  refine hw H1 σ H E _ fun J H2 Hs s1 sH E2 W => ?_
  intro D hD
  have E3 := (E2.wipe vs).pushR (R := R) hD
  have hlg : (L2.wipe σ vs).length = (wipeG G' vs).length := (E2.wipe vs).len
  have same0 : Same Hs (upd Hs D (.lst [])) := fun b o hb => by rw [upd_ne (ne_of_none hb hD)]; exact hb
  refine ⟨fun i m h => i + m = ys.length ∧ Same Hs h ∧ ∃ us own, mlc (fun _ => .ok true) f (ys.take i) = .ok us ∧ (∀ q ∈ own (wipeG G' vs).length, Hs q = none) ∧ EnvO own H2 (L2.wipe σ vs ++ [some (.ref D)]) h (wipeG G' vs ++ [some (.ow (nlR K R) us)]), ⟨ys.length, Nat.zero_add _, same0, ?_⟩, ?_⟩
  · obtain ⟨own, E4⟩ := E3.o
    refine ⟨[], own, rfl, fun q hq => ?_, E4⟩
    obtain ⟨v, hv, p, ws, ss, ea, ev, hp, z, d⟩ := E4.at_ _ _ getE_last
    rw [← hlg, getE_last] at hv
    cases hv
    cases ev
    cases z
    rw [ea] at hq
    rw [List.mem_singleton.mp hq]
    exact hD
  rintro i m h ⟨hi, sh, us, own, hu, hown, Eh⟩
  by_cases hl : i < ys.length
  · have hx : ys[i]? = some ys[i] := List.getElem?_eq_getElem hl
    obtain ⟨us', y, hu', hy, hnext⟩ := step i hl
    rw [hu] at hu'
    cases hu'
    obtain ⟨g1, g2⟩ := W.go h i _ (E2.old.trans sh) hx
    refine .inr ⟨g1, fun h' => Same Hs h' ∧ ∃ us own, mlc (fun _ => .ok true) f (ys.take (i + 1)) = .ok us ∧ (∀ q ∈ own (wipeG G' vs).length, Hs q = none) ∧ EnvO own H2 (L2.wipe σ vs ++ [some (.ref D)]) h' (wipeG G' vs ++ [some (.ow (nlR K R) us)]), fun h' z => ⟨m - 1, by omega, by omega, z⟩, fun v h2 hyd => ?_⟩
    obtain ⟨e2, z⟩ := g2 v h2 hyd
    obtain ⟨Gx, ht, he⟩ := turn ys[i]
    refine ht H2 _ σ h2 v rfl (Eh.e.trunc.grow e2) z _ fun σ2 E4 hwp => ⟨hwp, et_yes H2 σ2 h2 E4 _ fun h3 e3 => ?_⟩
    refine iteT (he y hy H2 σ2 h3 (E4.grow e3) _ fun w h4 bs e4 hn hq => ?_)
    have E5 := Eh.grow (e2.trans e3)
    have hfr : ∀ c ∈ bs, Fr own H2 c := fun c hc => E5.fr (hn c hc)
    have E6 := E5.grow e4
    obtain ⟨v', hv', p, ws, ss, ea, ev, hp, zz, d⟩ := E6.at_ _ _ getE_last
    have hv2 := hv'
    rw [← hlg, getE_last] at hv'
    cases hv'
    cases ev
    have hlw : ws.length ≤ 100000 := by
      rw [zz.len, zl _ _ hu, List.length_take]
      exact Nat.le_trans (Nat.min_le_right _ _) hlen
    have pn : Hs D = none := hD
    have x0 : ExT K h4 (upd h4 D (.lst (ws ++ [w]))) := ext_upd hp fun z => z
    have hout : ∀ c ∈ bs, c ≠ D ∧ c ∉ ss.flatten := fun c hc => ⟨fun e => (hfr c hc).2 _ (by rw [ea, e]; exact List.mem_cons_self ..), fun hm => (hfr c hc).2 _ (by rw [ea]; exact List.mem_cons_of_mem _ hm)⟩
    have stay : ∀ (v : V) (c : β) (t : List Addr), D ∉ t → R.rep h4 v c t → R.rep (upd h4 D (.lst (ws ++ [w]))) v c t := fun v c t hp' hr => R.stay hr x0 fun q hq o ho => by rw [upd_ne fun z => hp' (by rw [← z]; exact hq)]; exact ho
    refine ⟨ws, hp, Nat.lt_of_le_of_lt hlw (by decide), fun b o hb => ?_, us ++ [y], fun l => if l = (wipeG G' vs).length then D :: (ss ++ [bs]).flatten else own l, hnext, fun c hc => ?_, ?_⟩
    · rw [upd_ne (ne_of_none hb hD)]
      exact e4 _ _ (e3 _ _ (e2 _ _ (sh _ _ hb)))
    · simp only [if_true] at hc
      rcases List.mem_cons.mp hc with e | e
      · rw [e]; exact hD
      · rw [List.flatten_append, List.flatten_cons, List.flatten_nil, List.append_nil] at e
        rcases List.mem_append.mp e with e | e
        · exact hown c (by rw [ea]; exact List.mem_cons_of_mem _ e)
        · exact free_back ((sh.trans e2).trans e3) (hn c e)
    · have kb : But (own (wipeG G' vs).length) h4 (upd h4 D (.lst (ws ++ [w]))) := but_upd.less fun q hq => by rw [List.mem_singleton.mp hq, ea]; exact List.mem_cons_self ..
      have nas : ∀ j p, j ≠ (wipeG G' vs).length → p ∈ own j → p ∉ own (wipeG G' vs).length := fun j p hj hp z => hj (E6.apart j _ p hp z)
      have xx := E6.ext (as := own (wipeG G' vs).length) (i := (wipeG G' vs).length) (fun _ z => z) kb
      have newrep : (nlR K R).rep (upd h4 D (.lst (ws ++ [w]))) (.ref D) (us ++ [y]) (D :: (ss ++ [bs]).flatten) := ⟨D, _, ss ++ [bs], rfl, rfl, upd_same, (zz.imp fun a c t ht hr => stay _ _ _ (by obtain ⟨l, hl⟩ := List.mem_iff_getElem?.mp ht; exact d.1 l t hl) hr).app (.cons (stay _ _ _ (fun z => (hout D z).1 rfl) hq) .nil), d.app hout⟩
      have hin : ∀ p ∈ D :: (ss ++ [bs]).flatten, p ∈ own (wipeG G' vs).length ∨ Fr own H2 p := fun p hp => by
        rcases List.mem_cons.mp hp with e | e
        · exact .inl (by rw [ea, e]; exact List.mem_cons_self ..)
        · rw [List.flatten_append, List.flatten_cons, List.flatten_nil, List.append_nil] at e
          rcases List.mem_append.mp e with e | e
          · exact .inl (by rw [ea]; exact List.mem_cons_of_mem _ e)
          · exact .inr (hfr p e)
      refine ⟨fun p o ho => kb p o (fun z => by have := (E6.free _ p z).1; rw [this] at ho; cases ho) (E6.old p o ho), by rw [List.length_append, List.length_append, hlg]; rfl, fun j p hp => ?_, fun j l p hj hk => ?_, fun j c hc => ?_⟩
      · by_cases hj : j = (wipeG G' vs).length
        · simp only [hj, if_true] at hp
          exact ⟨(hin p hp).elim (fun z => (E6.free _ p z).1) fun z => z.1, (nlR K R).there newrep p hp⟩
        · simp only [hj, if_false] at hp
          obtain ⟨o, ho, nt⟩ := (E6.free j p hp).2
          exact ⟨(E6.free j p hp).1, o, kb p o (nas j p hj hp) ho, nt⟩
      · by_cases hji : j = (wipeG G' vs).length <;> by_cases hki : l = (wipeG G' vs).length
        · rw [hji, hki]
        · simp only [hji, hki, if_true, if_false] at hj hk
          rcases hin p hj with z | z
          · exact absurd z (nas l p hki hk)
          · exact absurd hk (z.2 l)
        · simp only [hji, hki, if_true, if_false] at hj hk
          rcases hin p hk with z | z
          · exact absurd z (nas j p hji hj)
          · exact absurd hj (z.2 j)
        · simp only [hji, hki, if_false] at hj hk
          exact E6.apart j l p hj hk
      · by_cases hj : j = (wipeG G' vs).length
        · subst hj
          rw [getE_last] at hc
          cases hc
          refine ⟨_, hv2, ?_⟩
          simp only [if_true]
          exact newrep
        · have hlt : j < (wipeG G' vs).length := by
            have := (List.getElem?_eq_some_iff.mp hc).1
            rw [List.length_append, List.length_singleton] at this
            omega
          have hc2 : (wipeG G' vs ++ [some (Cell.ow (nlR K R) us)])[j]? = some (some c) := by
            rw [List.getElem?_append_left hlt] at hc ⊢
            exact hc
          obtain ⟨u, hu, hk'⟩ := E6.at_ j c hc2
          refine ⟨u, hu, ?_⟩
          simp only [hj, if_false]
          exact cell_stay hk' xx fun p hp o ho => kb p o (nas j p hj hp) ho
  · have hi' : i = ys.length := by omega
    subst hi'
    rw [List.take_length, hm] at hu
    cases hu
    refine .inl ⟨W.stop h (E2.old.trans sh), ?_⟩
    obtain ⟨v', hv', p, ws, ss, ea, ev, hp, zz, d⟩ := Eh.at_ _ _ getE_last
    rw [← hlg, getE_last] at hv'
    cases hv'
    cases ev
    exact k _ h (own (wipeG G' vs).length) (sH.trans sh) (fun q hq => sH.free (hown q hq)) ⟨D, ws, ss, ea, rfl, hp, zz, d⟩
end
theorem but_dl {H H' : Hp} {p : Addr} (h : Same (dl H p) H') : But [p] H H' := fun c o hc ho => h c o (by rw [dl_ne fun e => hc (by rw [e]; exact List.mem_singleton.mpr rfl)]; exact ho)

end Gt
/-! Gt31: x in d; a new empty dict as an argument, walked; sorted(set([..])); reversed(list(..)). -/
namespace Gt
open PySem PySem.Spec PyProof.Rows L2
section
variable {K : PySem.W.Frag} {α β γ δ ρ : Type} {H0 H H1 H2 H' H'' : Hp} {σ : L2.St} {G G' Gx : Cells K} {D : Ends} {u : TS}
variable {te ti tk tx tv ta tb tc td ty : TE} {i j m : Nat} {x : α} {n : Int} {r : Rp α} {q : Rp γ} {k : Str}
theorem a_dIn {xs : List (Str × α)} (h : Ev rS ty G k) (h' : Ev (rD r) td G xs) (M : Mono r) : Ev rB (tDIn ty td) G (dkey xs k).isSome := fun H0 σ H E Q c =>
  h H0 σ H E _ fun v H1 e1 hv => h' H0 σ H1 (E.grow e1) _ fun w H2 e2 ⟨a, kvs, ew, hr, z⟩ => by
    rcases kv_key z k with ⟨v', b', e5, e6, _⟩ | ⟨e5, e6⟩
    · exact ⟨a, some v', ew, .inl ⟨kvs, Sum.inr k, hr, hv.1, e5.symm⟩, c _ H2 (e1.trans e2) (by rw [e6]; rfl)⟩
    · exact ⟨a, none, ew, .inl ⟨kvs, Sum.inr k, hr, hv.1, e5.symm⟩, c _ H2 (e1.trans e2) (by rw [e6]; rfl)⟩
theorem a_dNin {xs : List (Str × α)} (h : Ev rS ty G k) (h' : Ev (rD r) td G xs) (M : Mono r) : Ev rB (tDNotIn ty td) G (!(dkey xs k).isSome) := fun H0 σ H E Q c =>
  h H0 σ H E _ fun v H1 e1 hv => h' H0 σ H1 (E.grow e1) _ fun w H2 e2 ⟨a, kvs, ew, hr, z⟩ => by
    rcases kv_key z k with ⟨v', b', e5, e6, _⟩ | ⟨e5, e6⟩
    · exact ⟨a, some v', ew, .inl ⟨kvs, Sum.inr k, hr, hv.1, e5.symm⟩, c _ H2 (e1.trans e2) (by rw [e6]; rfl)⟩
    · exact ⟨a, none, ew, .inl ⟨kvs, Sum.inr k, hr, hv.1, e5.symm⟩, c _ H2 (e1.trans e2) (by rw [e6]; rfl)⟩
/-! ### an empty dict, walked -/
def rZ : Rp Unit := fun H v _ => ∃ a, v = .ref a ∧ H a = some (.dK [])
instance : Mono rZ := ⟨fun e ⟨a, ev, h⟩ => ⟨a, ev, e _ _ h⟩⟩
theorem ev_Z {y : Unit} : Ev rZ tDNewK G y := fun H0 σ H E Q c p hp => c _ _ (same_new hp) ⟨p, rfl, upd_same⟩
theorem upd_back {p : Addr} {o w : HO} (h : H p = some w) : upd (upd H p o) p w = H := by
  rw [upd_upd]
  funext b
  by_cases e : b = p
  · rw [e, upd_same, h]
  · rw [upd_ne e]
theorem l_for0 {g : TG} {tb : TS} {M : Mono rZ} {y : Unit} (hi : G[i]? = some (some (.ro rZ M y))) (kk : Nx H0 G D.nx) : Sv H0 G (tLock (tFor (iKeys (tVar i)) g tb)) D := fun σ H ⟨H1, e1, E⟩ => by
  obtain ⟨own, _, _, h3⟩ := E.at_
  obtain ⟨v, hv, _, a, ev, ha⟩ := h3 i _ hi
  subst ev
  have hH := E.old _ _ ha
  refine ⟨a, _, hH, trivial, fun od => ?_⟩
  refine ⟨_, hv, a, od, rfl, .inl ⟨[], upd_same, fun i m s Hh => i = 0 ∧ s = σ ∧ Hh = upd H a (.frz od (.dK [])), ⟨0, rfl, rfl, rfl⟩, ?_⟩⟩
  rintro i m s Hh ⟨rfl, rfl, rfl⟩
  refine .inl ⟨⟨upd_same, Nat.le_refl _⟩, upd_same, ?_⟩
  rw [upd_back hH]
  exact kk _ _ ⟨H1, e1, E⟩
theorem q_for0 {g : TG} {tb : TS} {M : Mono rZ} {y : Unit} (hi : G[i]? = some (some (.ro rZ M y))) (kk : Sv H0 G u D) : Sv H0 G (tSeq (tLock (tFor (iKeys (tVar i)) g tb)) u) D := l_for0 (D := { D with nx := u D }) hi kk
end
end Gt
/-! Gt32: sorted(set(list of texts)). -/
namespace Gt
open PySem PySem.Spec PyProof.Rows L2
def keyT (e : Int × Value) : Str := match e.2 with | .str k _ => k | _ => Str.empty
def GoodT (w : World) (e : Int × Value) : Prop := ∃ k tk, e.2 = Value.str k tk ∧ e.1 = hashStr w k
/-- the set of texts at a: S its members, n their number; its table rises and can be walked -/
def SetT (w : World) (h : Heap) (a : Addr) (S : Str → Bool) (n : Nat) : Prop :=
  ∃ o es ep t, h.get? a = some o ∧ o.ExactSet ∧ o.data = .set es ep t ∧ (∀ e ∈ es.toList, GoodT w e) ∧ (es.toList.map keyT).Nodup ∧ (∀ k, S k = true ↔ k ∈ es.toList.map keyT) ∧
    es.size < scanBound ∧ t.fits es.size = true ∧ es.size = n ∧ Ris t.place.toList ∧ (w.params.followText "set-order" = true ∨ t.led = true)
section
variable {P : Program} {w : World} {h h' : Heap} {a : Addr} {S : Str → Bool} {n : Nat}
theorem SetT.at (R : SetT w h a S n) (k : ∀ o, h.get? a = some o → h'.get? a = some o) : SetT w h' a S n := by
  obtain ⟨o, es, ep, t, ho, r⟩ := R
  exact ⟨o, es, ep, t, k o ho, r⟩
theorem SetT.lt (R : SetT w h a S n) : a < h.objs.size := by
  obtain ⟨o, es, ep, t, ho, r⟩ := R
  exact Heap.lt_size ho
theorem SetT.congr {S' : Str → Bool} (R : SetT w h a S n) (e : ∀ k, S' k = S k) : SetT w h a S' n := by
  have q : S' = S := funext e
  rw [q]; exact R
theorem goodT_elems {l : List (Int × Value)} (g : ∀ e ∈ l, GoodT w e) : ElemsOf (PySem.strKind P w) l := fun e he => by
  obtain ⟨k, tk, h1, h2⟩ := g e he
  exact ⟨⟨k, by rw [h1]; exact PySem.strKind_is P w k tk, h2⟩, by rw [h1] <;> rfl⟩
theorem goodT_is {e : Int × Value} (g : GoodT w e) (k : Str) : (PySem.strKind P w).is k e.2 = true ↔ keyT e = k := by
  obtain ⟨k0, tk, h1, _⟩ := g
  unfold keyT
  rw [h1]
  show (Value.isStrOf k (.str k0 tk) = true) ↔ k0 = k
  simp [Value.isStrOf]
  try exact eq_comm
theorem goodT_mem {l : List (Int × Value)} (g : ∀ e ∈ l, GoodT w e) (k : Str) : k ∈ l.map keyT ↔ ∃ e ∈ l, (PySem.strKind P w).is k e.2 = true := by
  rw [List.mem_map]
  constructor
  · rintro ⟨e, he, q⟩
    exact ⟨e, he, (goodT_is (g e he) k).2 q⟩
  · rintro ⟨e, he, q⟩
    exact ⟨e, he, (goodT_is (g e he) k).1 q⟩
end
section
variable {P : Program} {w : World} {A : Around} {E : Value → Shared → Prop} {s : Shared} {a : Addr} {S : Str → Bool} {n : Nat}
theorem setT_add_tail {g : Bool → Sem Unit} (hg : ∀ (b : Bool) (s₁ : Shared) (Q' : Unit → Shared → Prop), Q' () s₁ → wpAny (model P w) A (g b) Q' E s₁)
    {o : Obj} {es : Array (Int × Value)} {ep : Nat} {t : SetTable} (ho : s.heap.get? a = some o) (hex : o.ExactSet) (hd : o.data = .set es ep t)
    {es1 : Array (Int × Value)} {t2 : SetTable} {S' : Str → Bool} (g1 : ∀ e ∈ es1.toList, GoodT w e) (nd1 : (es1.toList.map keyT).Nodup) (m1 : ∀ k, S' k = true ↔ k ∈ es1.toList.map keyT)
    (hb1 : es1.size < scanBound) (hf2 : t2.fits es1.size = true) (hr : Ris t2.place.toList) (hl : w.params.followText "set-order" = true ∨ t2.led = true) {wasDummy : Bool} {R : Option Bool → Shared → Prop}
    (hR : ∀ h', Heap.SameBut a s.heap h' → SetT w h' a S' es1.size → R (some true) { s with heap := h' }) :
    wpAny (model P w) A (do
        storeSet a es1 t2
        if (!wasDummy && t2.tooFull) = true then do
            g (relayAll t2 es1 (SetTable.grown es1.size)).2.2
            storeSet a (relayAll t2 es1 (SetTable.grown es1.size)).1 (relayAll t2 es1 (SetTable.grown es1.size)).2.1
            pure (some true)
          else pure (some true)) R E s := by
  refine wpAny_bind (wpAny_storeSet_of ho hd ?_ (fits_of_scanBound hb1))
  have ho1 := store_at (es' := es1) (t' := t2) ho hd
  have sb1 := Heap.SameBut.update s.heap a (Obj.putSet es1 t2)
  split
  · have pm := relayAll_perm t2 es1 (SetTable.grown es1.size)
    have hf3 := relayAll_fits t2 es1 (SetTable.grown es1.size)
    have hr3 := relayAll_ris t2 es1 (SetTable.grown es1.size)
    have hl3 := relayAll_led t2 es1 (SetTable.grown es1.size)
    generalize relayAll t2 es1 (SetTable.grown es1.size) = Z at pm hf3 hr3 hl3 ⊢
    obtain ⟨es2, t3, gave⟩ := Z
    dsimp only at pm hf3 hr3 hl3 ⊢
    have hsz : es2.size = es1.size := by rw [← Array.length_toList, pm.length_eq, Array.length_toList]
    have hb2 : es2.size < scanBound := by rw [hsz]; exact hb1
    refine wpAny_bind (hg _ _ _ ?_)
    refine wpAny_bind (wpAny_storeSet_of ho1 rfl ?_ (fits_of_scanBound hb2))
    have ho2 := store_at (es' := es2) (t' := t3) ho1 rfl
    refine wpAny_pure (hR _ (sb1.trans (Heap.SameBut.update _ a _)) ?_)
    exact ⟨_, es2, _, t3, ho2, hex, rfl, fun e he => g1 e (pm.mem_iff.mp he), (pm.map keyT).nodup_iff.mpr nd1, fun k => (m1 k).trans (pm.map keyT).mem_iff.symm, hb2, hf3, hsz, hr3,
      hl.imp id fun z => by rw [hl3]; exact z⟩
  · exact wpAny_pure (hR _ sb1 ⟨_, es1, _, t2, ho1, hex, rfl, g1, nd1, m1, hb1, hf2, rfl, hr, hl⟩)

theorem setT_add_hashed {k : Str} {tk : Tok} {Q : Bool → Shared → Prop} (R : SetT w s.heap a S n) (room : n + 1 < scanBound)
    (hQ : ∀ h', Heap.SameBut a s.heap h' → SetT w h' a (fun j => S j || decide (j = k)) (if S k = true then n else n + 1) → Q (!S k) { s with heap := h' }) :
    wpAny (model P w) A (setAddHashed a (.str k tk) ((PySem.strKind P w).hash k)) Q E s := by
  obtain ⟨o, es, ep, t, ho, hex, hd, g, nd, hm, hb, hf, hn, hr, hl⟩ := R
  have hkey : (PySem.strKind P w).is k (.str k tk) = true := PySem.strKind_is P w k tk
  have hsc : (Value.str k tk).scannable = true := rfl
  have hel : ElemsOf (PySem.strKind P w) es.toList := goodT_elems g
  unfold setAddHashed setAddHashedIn
  refine wpAny_holding (wpAny_bind (wpAny_setState_of ho hd hf ?_))
  dsimp only
  rw [byScan_of hsc hb hel]
  simp only [↓reduceIte]
  unfold setAddByScan
  refine wpAny_bind ?_
  refine wpAny_bind (wpAny_rule ?_)
  refine wpAny_bind (wpAny_setScan_of hkey ho hd hf hel ?_)
  cases hfi : List.findIdx? (fun e => (PySem.strKind P w).is k e.2) es.toList with
  | some j =>
    dsimp only
    obtain ⟨hj, pj, _⟩ := List.findIdx?_eq_some_iff_getElem.mp hfi
    have hSk : S k = true := (hm k).2 ((goodT_mem (P := P) (w := w) g k).2 ⟨es.toList[j], List.getElem_mem hj, pj⟩)
    refine wpAny_pure (wpAny_pure ?_)
    have q := hQ s.heap (Heap.SameBut.refl a s.heap) ⟨o, es, ep, t, ho, hex, hd, g, nd, fun i => by
      rw [Bool.or_eq_true, decide_eq_true_eq, ← hm i]
      exact ⟨fun z => z.elim id (fun e => e ▸ hSk), .inl⟩, hb, hf, by rw [if_pos hSk]; exact hn, hr, hl⟩
    rw [hSk] at q
    exact q
  | none =>
    dsimp only
    have hnk : k ∉ es.toList.map keyT := fun z => by
      obtain ⟨e, he, q⟩ := (goodT_mem (P := P) (w := w) g k).1 z
      have c := List.findIdx?_eq_none_iff.mp hfi e he
      rw [q] at c
      cases c
    have hSk : S k = false := by
      cases q : S k with
      | false => rfl
      | true => exact absurd ((hm k).1 q) hnk
    have hgw : ∀ (b : Bool) {s₁ : Shared} {Q' : Unit → Shared → Prop}, Q' () s₁ → wpAny (model P w) A (match b with | true => rule "set.scan.the-table-gave-way" | false => pure ()) Q' E s₁ :=
      fun b s₁ Q' q => by cases b <;> first | exact wpAny_pure q | exact wpAny_rule q
    have pm := layNew_perm t es ((PySem.strKind P w).hash k) (.str k tk)
    have hf1 := layNew_fits t es ((PySem.strKind P w).hash k) (.str k tk)
    have hr1 := layNew_ris t es ((PySem.strKind P w).hash k) (.str k tk) hr
    have hl1 := layNew_led t es ((PySem.strKind P w).hash k) (.str k tk)
    generalize layNew t es ((PySem.strKind P w).hash k) (.str k tk) = Z at pm hf1 hr1 hl1 ⊢
    obtain ⟨es1, t1, wasDummy, gave⟩ := Z
    dsimp only at pm hf1 hr1 hl1 ⊢
    rw [Array.toList_push] at pm
    have pc : es1.toList.Perm (((PySem.strKind P w).hash k, Value.str k tk) :: es.toList) := pm.trans (List.perm_append_singleton _ _)
    have pk : (es1.toList.map keyT).Perm (k :: es.toList.map keyT) := pc.map keyT
    have g1 : ∀ e ∈ es1.toList, GoodT w e := fun e he => by
      rcases List.mem_cons.mp (pc.mem_iff.mp he) with z | z
      · rw [z]; exact ⟨k, tk, rfl, rfl⟩
      · exact g e z
    have nd1 : (es1.toList.map keyT).Nodup := pk.nodup_iff.mpr (List.nodup_cons.mpr ⟨hnk, nd⟩)
    have m1 : ∀ i, (S i || decide (i = k)) = true ↔ i ∈ es1.toList.map keyT := fun i => by
      rw [Bool.or_eq_true, decide_eq_true_eq, hm i, pk.mem_iff, List.mem_cons]
      exact Or.comm
    have hsz : es1.size = n + 1 := by rw [← Array.length_toList, pc.length_eq, List.length_cons, Array.length_toList, hn]
    have hb1 : es1.size < scanBound := by rw [hsz]; exact room
    have hled : w.params.followText "set-order" = true ∨ t1.led = true := hl.imp id fun z => by rw [hl1]; exact z
    have fin : ∀ h', Heap.SameBut a s.heap h' → SetT w h' a (fun j => S j || decide (j = k)) es1.size → Q true { s with heap := h' } := fun h' sb r => by
      have q := hQ h' sb
      rw [hSk] at q
      rw [hsz] at r
      exact q r
    refine wpAny_bind (hgw _ ?_)
    split
    · refine wpAny_bind ?_
      rw [hashByValue_scannable 8 hsc]
      refine wpAny_pure ?_
      refine setT_add_tail ?_ ho hex hd g1 nd1 m1 hb1 ?_ ?_ ?_ ?_
      · intro b s₁ Q' q; cases b <;> first | exact wpAny_pure q | exact wpAny_rule q
      · first | (split <;> first | exact hf1 | exact SetTable.fits_plain_off hf1) | exact hf1
      · first | (split <;> exact hr1) | exact hr1
      · first | (split <;> exact hled) | exact hled
      · intro h' sb r; dsimp only; exact wpAny_pure (fin h' sb r)
    · refine wpAny_bind (wpAny_pure ?_)
      simp only [↓reduceIte]
      refine setT_add_tail ?_ ho hex hd g1 nd1 m1 hb1 hf1 hr1 hled ?_
      · intro b s₁ Q' q; cases b <;> first | exact wpAny_pure q | exact wpAny_rule q
      · intro h' sb r; dsimp only; exact wpAny_pure (fin h' sb r)

theorem setT_new_at {w : World} {h : Heap} {a : Addr} {ns : List Str} (ho : h.get? a = some { cls := .type "set", dict := none, data := .set #[] 0 (.fresh 0 0 (!w.params.followText "set-order")) }) : SetT w h a (fun j => decide (j ∈ ns.take 0)) 0 :=
  ⟨_, #[], 0, _, ho, ⟨rfl, rfl, rfl⟩, rfl, (fun e he => by simp at he), (by simp), (fun k => by simp), (by decide), (by rfl), rfl, List.Pairwise.nil, by
    show _ ∨ (!w.params.followText "set-order") = true
    cases w.params.followText "set-order"
    · exact .inr rfl
    · exact .inl rfl⟩

theorem set_update_strs {I : Addr} {fp wr : List Addr} {G : Array GenState → Array GenState → Prop} {n : Nat} {Pv : Nat → Value → Prop} {St : Nat → Shared → Prop} {R : Result → Shared → Prop}
    (W : WalksS P w A.in1 I fp wr G n Pv St) (S : Addr) (hSf : S ∉ fp) (ns : List Str) (hn : n = ns.length) (hb : ns.length + 1 < scanBound) (hval : ∀ i v, Pv i v → ∃ k t, ns[i]? = some k ∧ v = .str k t) :
    ∀ (k i : Nat) (s : Shared), n - i = k → i ≤ n → St i s → (∃ c, c ≤ i ∧ SetT w s.heap S (fun j => decide (j ∈ ns.take i)) c) →
      (∀ s' c, Moved (S :: wr) G s s' → c ≤ n → SetT w s'.heap S (fun j => decide (j ∈ ns)) c → R (.ok (.ret .none)) s') →
      codeAny (model P w) A (.builtin "set.update.loop" ⟨[.ref S, .ref I], []⟩) R s := by
  have hSw : S ∉ wr := fun h => hSf (W.sub _ h)
  have hsub : ∀ b ∈ wr, b ∈ S :: wr := fun b hb => List.mem_cons_of_mem _ hb
  intro k
  induction k with
  | zero =>
    intro i s hk' hi hst ⟨c, hc, hS⟩ hR
    have hin : i = n := by omega
    subst hin
    refine codeAny_builtin F.entry_set_update_loop ?_
    rw [Around.under_plainId F.plain_set_update_loop _]
    show wpAny _ A.in1 (pyNext (.ref I) >>= _) _ _ s
    refine wpAny_bind (W.done s _ _ hst fun s' hm => ?_)
    show wpAny _ A.in1 (ret Value.none) _ _ s'
    have e : ns.take i = ns := List.take_of_length_le (by omega)
    rw [e] at hS
    exact wpAny_pure (hR s' c (hm.mono hsub) hc (hS.at fun o e => hm.heap S o hSw e))
  | succ k ih =>
    intro i s hk' hi hst ⟨c, hc, hS⟩ hR
    have hlt : i < n := by omega
    refine codeAny_builtin F.entry_set_update_loop ?_
    rw [Around.under_plainId F.plain_set_update_loop _]
    show wpAny _ A.in1 (pyNext (.ref I) >>= _) _ _ s
    refine wpAny_bind (W.item i s _ _ hlt hst fun v s' hP hst' hm => ?_)
    obtain ⟨z, t, hz, rfl⟩ := hval i v hP
    have hS' : SetT w s'.heap S (fun j => decide (j ∈ ns.take i)) c := hS.at fun o e => hm.heap S o hSw e
    show wpAny _ A.in1 (holding [Value.str z t] (setAdd S (.str z t)) >>= _) _ _ s'
    refine wpAny_bind (wpAny_holding ?_)
    unfold setAdd
    refine wpAny_holding ?_
    refine wpAny_bind ((PySem.strKind P w).pyHash (k := z) (PySem.strKind_is _ _ _ _) ?_)
    refine setT_add_hashed (s := { s' with toks := s'.toks + 1 }) hS' (by omega) fun h' hsb hS2 => ?_
    have hS3 : SetT w h' S (fun j => decide (j ∈ ns.take (i + 1))) (if decide (z ∈ ns.take i) = true then c else c + 1) := hS2.congr fun j => by
      rw [List.take_add_one, hz]
      simp [List.mem_append]
    have hc3 : (if decide (z ∈ ns.take i) = true then c else c + 1) ≤ i + 1 := by
      split <;> omega
    refine wpAny_pure ⟨plainId_quiet F.plain_set_update_loop _, ih (i + 1) _ (by omega) hlt (W.frame _ s' _ _ hst' (Nat.le_succ _) fun b hb o e => ?_) ⟨_, hc3, hS3⟩ fun s'' c2 hm'' hc'' hS'' => ?_⟩
    · rw [hsb.2 b (fun h : b = S => hSf (by rw [← h]; exact hb))]; exact e
    · refine hR s'' c2 (Moved.trans W.gtrans ((hm.mono hsub).then_heap (Nat.le_succ _) fun b o hb e => ?_) hm'') hc'' hS''
      rw [hsb.2 b (fun h : b = S => hb (by rw [h]; exact List.mem_cons_self))]; exact e

theorem call_set_lstT {l : Addr} {items : Array Value} (ns : List Str) {Q : Value → Shared → Prop} (hh : A.handled = none) (hl : s.heap.IsList l items) (hit : StrsAre items.toList ns) (hb : ns.length + 1 < scanBound)
    (h : ∀ (h' : Heap) (tk c : Nat), SetT w h' s.heap.objs.size (fun j => decide (j ∈ ns)) c → c ≤ ns.length → (∀ b o, s.heap.get? b = some o → h'.get? b = some o) → Q (.ref s.heap.objs.size) { s with heap := h', toks := tk }) :
    wpAny (model P w) A (call (.type "set") [.ref l]) Q E s := by
  have hisz : items.size = ns.length := by
    have q := StrsAre.length hit
    rw [Array.length_toList] at q
    exact q
  obtain ⟨c, tl, hmro⟩ := F.called_set.mro
  have hmade := F.called_set.made
  have hsub := F.called_set.sub
  refine wpAny_call (codeAny_of_tree ?_)
  show wpAny _ _ (callAny (.type "set") _) _ _ _
  refine wpAny_pure ⟨Code.quiet_builtin _ (by decide +kernel), codeAny_builtin F.entry_type_call ?_⟩
  rw [Around.under_plain (weight_type_call_type "set" [.ref l] []) rfl]
  have h1 := F.called_set.notType
  have h2 := F.called_set.canCreate
  have hct := F.typeCall_set_1 (.ref l)
  repeat (any_goals (first | assumption | wp_step))

  refine codeAny_mono (L2.code_set_led1 (.ref l) (E := E) (Q₁ := fun obj s₁ => obj = .ref s.heap.objs.size ∧ s₁ = { s with heap := s.heap.push { cls := .type "set", dict := none, data := .set #[] 0 (.fresh 0 0 (!w.params.followText "set-order")) } }) ⟨rfl, rfl⟩) fun r s₁ hr => ?_
  cases r with
  | error e => exact hr
  | ok fl =>
    cases fl with
    | ret obj =>
      obtain ⟨rfl, rfl⟩ := hr
      have hS : (s.heap.push { cls := .type "set", dict := none, data := .set #[] 0 (.fresh 0 0 (!w.params.followText "set-order")) }).get? s.heap.objs.size = some { cls := .type "set", dict := none, data := .set #[] 0 (.fresh 0 0 (!w.params.followText "set-order")) } := Heap.get?_push_size _ rfl
      have hT : Shared.TypeIs { s with heap := s.heap.push { cls := .type "set", dict := none, data := .set #[] 0 (.fresh 0 0 (!w.params.followText "set-order")) } } (.ref s.heap.objs.size) "set" := ⟨_, hS, rfl⟩
      have hli := F.called_set.init.lookup
      have hbi := F.called_set.init.bind (.ref s.heap.objs.size)
      repeat (any_goals (first | assumption | wp_step))

      refine codeAny_mono (codeAny_call_builtin (R := wants (fun r s₂ => r = .none ∧ ∃ h' tk c, s₂ = { s with heap := h', toks := tk } ∧ SetT w h' s.heap.objs.size (fun j => decide (j ∈ ns)) c ∧ c ≤ ns.length ∧
          (∀ b o, s.heap.get? b = some o → h'.get? b = some o)) E) F.called_set.init.plain F.entry_set_init (check_set_init_1 hT ?_)) fun r₂ s₂ hr₂ => ?_
      · obtain ⟨ol, hol, hcl, nl, hdl⟩ := hl
        obtain ⟨ocls, odict, odata, oslots⟩ := ol
        simp only at hcl hdl
        subst hcl; subst hdl
        have hol' : (s.heap.push { cls := .type "set", dict := none, data := .set #[] 0 (.fresh 0 0 (!w.params.followText "set-order")) }).get? l = some { cls := .type "list", dict := odict, data := .seq items nl, slots := oslots } := Heap.get?_push_of_some _ hol
        have hsls := F.sub_list_set
        have hslf := F.sub_list_frozenset
        have hne : (Value.type "list" == Value.type "dict") = false := by decide
        have hl1 : (s.heap.push { cls := .type "set", dict := none, data := .set #[] 0 (.fresh 0 0 (!w.params.followText "set-order")) }).IsList l items := ⟨_, hol', rfl, nl, rfl⟩
        unfold Builtin.«set.__init__» noKeywords Builtin.Frozenset.updateFrom
        generalize hPI : pyIter = PI
        wp_walk
        subst hPI

        refine wpAny_pyIter_list hl1 ?_
        refine wpAny_bind (wpAny_runValue ?_)
        have hlS : l < s.heap.objs.size := Heap.lt_size hol
        have hh3 : A.in1.in1.in1.handled = none := by simp [hh]
        have hz1 : (s.heap.push { cls := .type "set", dict := none, data := .set #[] 0 (.fresh 0 0 (!w.params.followText "set-order")) }).objs.size = s.heap.objs.size + 1 := Heap.size_push ..
        have hneI : l ≠ (s.heap.push { cls := .type "set", dict := none, data := .set #[] 0 (.fresh 0 0 (!w.params.followText "set-order")) }).objs.size := by
          rw [Heap.size_push]; exact Nat.ne_of_lt (Nat.lt_succ_of_lt hlS)
        have hSf : s.heap.objs.size ∉ [(s.heap.push { cls := .type "set", dict := none, data := .set #[] 0 (.fresh 0 0 (!w.params.followText "set-order")) }).objs.size, l] := by
          rw [Heap.size_push]; simp only [List.mem_cons, List.mem_singleton, List.not_mem_nil, or_false, not_or]
          exact ⟨Nat.ne_of_lt (Nat.lt_succ_self _), Nat.ne_of_gt hlS⟩
        have hval : ∀ (i : Nat) (v : Value), items[i]? = some v → ∃ k t, ns[i]? = some k ∧ v = .str k t := fun i v hv => by
          have hi : i < ns.length := by rw [← hisz]; exact (Array.getElem?_eq_some_iff.mp hv).1
          obtain ⟨t, e⟩ := SS.strs_at hit i v (by rw [Array.getElem?_toList]; exact hv)
          refine ⟨ns[i], t, List.getElem?_eq_getElem hi, ?_⟩
          rw [e, List.getD_eq_getElem?_getD, List.getElem?_eq_getElem hi] <;> rfl
        refine set_update_strs ((Walks.list hh3 _ l hneI items).toS) s.heap.objs.size
          hSf ns hisz hb hval (items.size - 0) 0 _ (by omega) (Nat.zero_le _)
          ⟨⟨_, Heap.get?_push_size _ rfl, rfl, rfl⟩, (hl1.push _)⟩ ?hS0 ?hR
        case hS0 =>
          have hget : ((s.heap.push { cls := .type "set", dict := none, data := .set #[] 0 (.fresh 0 0 (!w.params.followText "set-order")) }).push { cls := .type "list_iterator", data := .fields #[.ref l, .int 0 0] }).get? s.heap.objs.size
              = some { cls := .type "set", dict := none, data := .set #[] 0 (.fresh 0 0 (!w.params.followText "set-order")) } := Heap.get?_push_of_some _ hS
          exact ⟨0, Nat.le_refl 0, setT_new_at hget⟩
        case hR =>
          intro s' c' hm hc' hS'
          obtain ⟨h', g2, d', tk', os'⟩ := s'
          have eg : g2 = s.gens := hm.gens
          have ed : d' = s.drawn := hm.drawn
          have eo : os' = s.os := hm.os
          subst eg; subst ed; subst eo
          show wpAny _ _ _ _ _ _
          refine wpAny_pure ?_
          show wpAny _ _ (ret Value.none) _ _ _
          rw [hisz] at hc'
          refine wpAny_pure ⟨rfl, h', tk', c', rfl, hS', hc', fun b o e => ?_⟩
          have hb0 : b < s.heap.objs.size := Heap.lt_size e
          have hb1 : b ≠ s.heap.objs.size := Nat.ne_of_lt hb0
          have hb2 : b ≠ (s.heap.push { cls := .type "set", dict := none, data := .set #[] 0 (.fresh 0 0 (!w.params.followText "set-order")) }).objs.size := by
            rw [Heap.size_push]; exact Nat.ne_of_lt (Nat.lt_succ_of_lt hb0)
          exact hm.heap b o (by simp only [List.mem_cons, List.mem_singleton, List.not_mem_nil, or_false, not_or]; exact ⟨hb1, hb2⟩) (Heap.get?_push_of_some _ (Heap.get?_push_of_some _ e))

      · cases r₂ with
        | error e => exact hr₂
        | ok fl₂ =>
          cases fl₂ with
          | ret r =>
            obtain ⟨rfl, h', tk, c', rfl, hS', hc', hk'⟩ := hr₂
            repeat (any_goals (first | assumption | wp_step))
            exact h _ _ _ hS' hc' hk'
          | _ => exact hr₂.elim
    | _ => exact hr.elim


theorem strsT_of : ∀ (l : List Value), (∀ v ∈ l, ∃ k tk, v = Value.str k tk) → StrsAre l (l.map PyProof.Rows.strOf)
  | l, h => PyProof.Rows.strsAre_map l h
theorem key_strOf {l : List (Int × Value)} (g : ∀ e ∈ l, GoodT w e) : (l.map (·.2)).map PyProof.Rows.strOf = l.map keyT := by
  rw [List.map_map]
  refine List.map_congr_left fun e he => ?_
  obtain ⟨k, tk, h1, _⟩ := g e he
  show PyProof.Rows.strOf e.2 = keyT e
  unfold keyT
  rw [h1] <;> rfl
theorem sorted_setT (R : SetT w s.heap a S n) (hh : A.handled = none) {Q : Value → Shared → Prop}
    (hQ : ∀ s' p (out : Array Value) (c : Nat) (ns : List Str), (∀ b o, s.heap.get? b = some o → s'.heap.get? b = some o) → s'.gens = s.gens → s'.os = s.os → s.heap.objs.size ≤ p →
      s'.heap.get? p = some (seqObj "list" out c) → StrsAre out.toList ns → sortedS ns = true → ns.Nodup → (∀ k, k ∈ ns ↔ S k = true) → ns.length = n → n < scanBound → Q (.ref p) s') :
    wpAny (model P w) A (call (.builtin "sorted") [.ref a]) Q E s := by
  obtain ⟨o, es, ep, t, ho, hex, hd, g, nd, hm, hb, hf, hn, hr, hl⟩ := R
  refine Calls.call_function_entry kind_sorted plain_sorted entry_sorted (args_sorted1 _) ?_
  unfold Builtin.«sorted»
  refine wpAny_bind (m := checkCount "sorted" 1 1 _) (wpAny_pure ?_)
  refine wpAny_bind (collect_set (A := A.in1) hh ⟨o, ho, hex.1, hd⟩ hf hb hr hl fun s1 vs k1 hz g1 o1 pm => ?_)
  have hvl : vs.length = n := by rw [pm.length_eq, List.length_map, Array.length_toList]; exact hn
  have hsl : vs.length ≤ sizeLine := by rw [hvl, ← hn]; exact fits_of_scanBound hb
  have hI : StrsAre vs (vs.map PyProof.Rows.strOf) := strsT_of vs fun v hv => by
    obtain ⟨e, he, q⟩ := List.mem_map.mp (pm.mem_iff.mp hv)
    obtain ⟨k, tk, h1, _⟩ := g e he
    exact ⟨k, tk, by rw [← q]; exact h1⟩
  have pk : (vs.map PyProof.Rows.strOf).Perm (es.toList.map keyT) := by
    have q := pm.map PyProof.Rows.strOf
    rw [key_strOf g] at q
    exact q
  refine wpAny_bind (wpAny_newList ?_ hsl)
  have hoL : (s1.heap.push (seqObj "list" vs.toArray 0)).get? s1.heap.objs.size = some (seqObj "list" vs.toArray 0) := Heap.get?_push_size _ rfl
  refine wpAny_bind (wpAny_holding (wpAny_call_entry slot_list_sort ⟨_, hoL, rfl⟩ entry_list_sort (list_sort_treeKAny strKind_oneLt hoL hI.keysOf (fun v₁ v₂ rest e => keyKind_strs (by rw [← e]; exact hI)) hsl fun st' hp hs => ⟨_, rfl, ?_⟩) (args_list_sort _)))
  obtain ⟨ns', a1, a2, a3⟩ := sorted_out_str hI hp hs
  obtain ⟨c, hc⟩ := sortedHeap_at (vs := vs) (out := (arrOf st').map (·.2)) hoL
  have pn : ns'.Perm (es.toList.map keyT) := a2.trans pk
  refine wpAny_pure ⟨_, rfl, hQ _ s1.heap.objs.size _ c ns' (fun b u e => ?_) g1 o1 hz hc a1 a3 (pn.nodup_iff.mpr nd) (fun k => by rw [pn.mem_iff, ← hm k]) ?_ (hn ▸ hb)⟩
  · have q := k1 b u e
    have hlt := Heap.lt_size q
    show (sortedHeap (s1.heap.push (seqObj "list" vs.toArray 0)) s1.heap.objs.size vs _).get? b = some u
    rw [sortedHeap_old (Nat.ne_of_lt hlt) (by rw [size_push']; exact Nat.lt_succ_of_lt hlt)]
    exact Heap.get?_push_of_some _ q
  · rw [pn.length_eq, List.length_map, Array.length_toList]; exact hn
end
/-! ### in the hand layer -/
def SetTO (w : World) (a : Addr) (S : Str → Bool) (n : Nat) : HO := .ext fun h => SetT w h a S n
section
variable {X : Cx}
theorem setTO_new {w : World} {P : Program} {H : Hp} {h : Heap} {a : Addr} {S : Str → Bool} {n : Nat} (R : SetT w h a S n) : ObjOk P w H h a (SetTO w a S n) := by
  have ⟨o, _, _, _, ho, _⟩ := R
  exact ⟨R, ⟨o, ho⟩, fun h1 h2 p k => SetT.at p k⟩
theorem setTO_get {pins : List (Addr × Obj)} {σ : L2.St} {H : Hp} {s : Shared} {a : Addr} {S : Str → Bool} {n : Nat} (I : Inv X pins σ H s) (ha : H a = some (SetTO X.w a S n)) : SetT X.w s.heap a S n := (I.hok a _ ha).1
/-- set(list of texts) -/
def rSetLT (K : PySem.W.Frag) (w : World) : List V → Hp → VK → Prop := fun vs H Q => ∃ (a : Addr) (xs : List Str), vs = [V.ref a] ∧ SqL K H a (xs.map V.str) ∧ xs.length + 1 < scanBound ∧
  ∀ (p : Addr) (c : Nat), H p = none → Q (.ref p) (upd H p (SetTO w p (fun k => decide (k ∈ xs)) c))
theorem cr_setLT (hc : X.calm = true) : CallR X (.type "set") (rSetLT X.K X.w) := by
  intro pins s σ H vs us Q I r h
  obtain ⟨a, xs, rfl, hs, hb, q⟩ := h
  obtain ⟨its, rv, hl, _⟩ := I.list hs
  rw [Vals.ref1 r]
  refine call_set_lstT xs (I.ok.hd hc) hl.isList (by exact rv.strs) hb fun h' tk c R hcn k => ?_
  have hf : H s.heap.objs.size = none := I.hok.fresh (Nat.le_refl _)
  exact ⟨.ref _, _, I.laid (t' := tk) (fun b u e => k b u e) (Nat.le_refl _) (setTO_new R), rfl, q _ c hf⟩
/-- sorted(set of texts) -/
def rSortedT (w : World) : List V → Hp → VK → Prop := fun vs H Q => ∃ (a : Addr) (S : Str → Bool) (n : Nat), vs = [V.ref a] ∧ H a = some (SetTO w a S n) ∧
  ∀ (ns : List Str) (p : Addr), sortedS ns = true → ns.Nodup → (∀ k : Str, k ∈ ns ↔ S k = true) → H p = none → Q (.ref p) (upd H p (.lst (ns.map V.str)))
theorem cr_sortedT (hc : X.calm = true) : CallR X (.builtin "sorted") (rSortedT X.w) := by
  intro pins s σ H vs us Q I r h
  obtain ⟨a, S, n, rfl, ha, q⟩ := h
  have R := setTO_get I ha
  rw [Vals.ref1 r]
  refine sorted_setT R (I.ok.hd hc) fun s' p out c ns k g o hp hg hi hs hnd hm hl hbd => ?_
  have hlen : (ns.map V.str).length ≤ sizeLine := by rw [List.length_map, hl]; exact fits_of_scanBound hbd
  have hn : H p = none := I.hok.fresh hp
  have J : Inv X pins σ (upd H p (.lst (ns.map V.str))) { s with heap := s'.heap, gens := s'.gens, drawn := s'.drawn, toks := s'.toks } :=
    I.call (ch := []) (Un.laid k hp hn) (I.hok.laid k hp ⟨hlen, out.toList, c, vals_of_strs hi, hg⟩) (by rw [g]; exact I.bare) (fun _ z => nomatch z)
  have e : s' = { s with heap := s'.heap, gens := s'.gens, drawn := s'.drawn, toks := s'.toks } := by
    cases s'
    cases s
    cases o
    rfl
  rw [e]
  exact ⟨.ref p, _, J, rfl, q ns p hs hnd hm hn⟩
end
/-! ### the mirror: ascending, without doubles -/
def insU (k : Str) : List Str → List Str
  | [] => [k]
  | x :: r => if k = x then x :: r else if k.cps.toList < x.cps.toList then k :: x :: r else x :: insU k r
/-- a list's texts, ascending, each once -/
def srtU : List Str → List Str
  | [] => []
  | x :: r => insU x (srtU r)
abbrev LtS (a b : Str) : Prop := a.cps.toList < b.cps.toList
abbrev Asd (l : List Str) : Prop := l.Pairwise LtS
theorem str_eq {a b : Str} (h : a.cps.toList = b.cps.toList) : a = b := by
  obtain ⟨x⟩ := a
  obtain ⟨y⟩ := b
  have e : x = y := Array.toList_inj.mp h
  rw [e]
theorem ltS_irr (a : Str) : ¬ LtS a a := List.lt_irrefl _
theorem ltS_tr {a b c : Str} (h : LtS a b) (h' : LtS b c) : LtS a c := List.lt_trans h h'
theorem ltS_tot {a b : Str} (h : ¬ LtS a b) (n : a ≠ b) : LtS b a := by
  rcases Classical.em (LtS b a) with c | c
  · exact c
  · exact absurd (str_eq (List.le_antisymm (List.not_lt.mp c) (List.not_lt.mp h))) n
theorem mem_insU {k y : Str} : ∀ {l : List Str}, y ∈ insU k l ↔ y = k ∨ y ∈ l
  | [] => by simp [insU]
  | x :: r => by
    unfold insU
    by_cases e : k = x
    · rw [if_pos e, e, List.mem_cons]
      exact ⟨fun h => .inr h, fun h => h.elim .inl id⟩
    · rw [if_neg e]
      by_cases c : k.cps.toList < x.cps.toList
      · rw [if_pos c, List.mem_cons]
      · rw [if_neg c, List.mem_cons, mem_insU (l := r), List.mem_cons]
        exact ⟨fun h => h.elim (fun a => .inr (.inl a)) (fun a => a.elim .inl fun b => .inr (.inr b)), fun h => h.elim (fun a => .inr (.inl a)) (fun a => a.elim .inl fun b => .inr (.inr b))⟩
theorem asd_insU {k : Str} : ∀ {l : List Str}, Asd l → Asd (insU k l)
  | [], _ => by simp [insU]
  | x :: r, h => by
    obtain ⟨h1, h2⟩ := List.pairwise_cons.mp h
    unfold insU
    by_cases e : k = x
    · rw [if_pos e]; exact h
    · rw [if_neg e]
      by_cases c : k.cps.toList < x.cps.toList
      · rw [if_pos c]
        exact List.pairwise_cons.mpr ⟨fun y hy => (List.mem_cons.mp hy).elim (fun a => a ▸ c) fun a => ltS_tr c (h1 y a), h⟩
      · rw [if_neg c]
        refine List.pairwise_cons.mpr ⟨fun y hy => ?_, asd_insU h2⟩
        rcases mem_insU.mp hy with a | a
        · exact a ▸ ltS_tot c e
        · exact h1 y a
theorem mem_srtU {y : Str} : ∀ {l : List Str}, y ∈ srtU l ↔ y ∈ l
  | [] => Iff.rfl
  | x :: r => by
    show y ∈ insU x (srtU r) ↔ _
    rw [mem_insU, mem_srtU (l := r), List.mem_cons]
theorem asd_srtU : ∀ (l : List Str), Asd (srtU l)
  | [] => List.Pairwise.nil
  | x :: r => asd_insU (asd_srtU r)
theorem len_insU {k : Str} : ∀ (l : List Str), (insU k l).length ≤ l.length + 1
  | [] => Nat.le_refl _
  | x :: r => by
    unfold insU
    split
    · exact Nat.le_succ _
    · split
      · exact Nat.le_refl _
      · have := len_insU (k := k) r
        simp only [List.length_cons]
        omega
theorem len_srtU : ∀ (l : List Str), (srtU l).length ≤ l.length
  | [] => Nat.le_refl _
  | x :: r => by
    have h1 := len_insU (k := x) (srtU r)
    have h2 := len_srtU r
    show (insU x (srtU r)).length ≤ r.length + 1
    omega
/-- two ascending lists of the same texts are the same -/
theorem asd_ext : ∀ {l l' : List Str}, Asd l → Asd l' → (∀ k, k ∈ l ↔ k ∈ l') → l = l'
  | [], [], _, _, _ => rfl
  | [], y :: r, _, _, h => absurd ((h y).mpr List.mem_cons_self) (by simp)
  | x :: r, [], _, _, h => absurd ((h x).mp List.mem_cons_self) (by simp)
  | x :: r, y :: t, hl, hl', h => by
    obtain ⟨a1, a2⟩ := List.pairwise_cons.mp hl
    obtain ⟨b1, b2⟩ := List.pairwise_cons.mp hl'
    have e : x = y := by
      rcases List.mem_cons.mp ((h x).mp List.mem_cons_self) with c | c
      · exact c
      · rcases List.mem_cons.mp ((h y).mpr List.mem_cons_self) with d | d
        · exact d.symm
        · exact absurd (ltS_tr (a1 y d) (b1 x c)) (ltS_irr x)
    subst e
    rw [asd_ext a2 b2 fun k => ⟨fun hk => ?_, fun hk => ?_⟩]
    · rcases List.mem_cons.mp ((h k).mp (List.mem_cons_of_mem _ hk)) with c | c
      · exact absurd (a1 k hk) (c ▸ ltS_irr _)
      · exact c
    · rcases List.mem_cons.mp ((h k).mpr (List.mem_cons_of_mem _ hk)) with c | c
      · exact absurd (b1 k hk) (c ▸ ltS_irr _)
      · exact c
theorem asd_risingS : ∀ (p : Str) (l : List Str), risingS p l = true → (p :: l).Nodup → Asd (p :: l)
  | p, [], _, _ => by simp
  | p, x :: r, h, n => by
    have h0 : (!ltCps x.cps.toList p.cps.toList && risingS x r) = true := h
    rw [Bool.and_eq_true] at h0
    obtain ⟨h1, h2⟩ := h0
    obtain ⟨n1, n2⟩ := List.nodup_cons.mp n
    have ih := asd_risingS x r h2 n2
    have hx : LtS p x := by
      refine ltS_tot (a := x) (fun c => ?_) fun e => n1 (e ▸ List.mem_cons_self)
      rw [ltCps_eq] at h1
      have c' : decide (x.cps.toList < p.cps.toList) = true := decide_eq_true c
      rw [c'] at h1
      cases h1
    refine List.pairwise_cons.mpr ⟨fun y hy => ?_, ih⟩
    rcases List.mem_cons.mp hy with e | e
    · exact e ▸ hx
    · exact ltS_tr hx ((List.pairwise_cons.mp ih).1 y e)
theorem srtU_of {ns xs : List Str} (hs : sortedS ns = true) (hn : ns.Nodup) (hm : ∀ k : Str, k ∈ ns ↔ decide (k ∈ xs) = true) : ns = srtU xs := by
  refine asd_ext ?_ (asd_srtU xs) fun k => by rw [hm k, decide_eq_true_eq, mem_srtU]
  cases ns with
  | nil => exact List.Pairwise.nil
  | cons p l => exact asd_risingS p l hs hn
section
variable {K : PySem.W.Frag} {w : World} {G : Cells K} {ta : TE}
theorem strs_A2 {H : Hp} : ∀ {vs : List V} {xs : List Str}, A2 (rS H) vs xs → vs = xs.map V.str
  | _, _, .nil => rfl
  | _, _, .cons h t => by rw [h.1, strs_A2 t] <;> rfl
theorem A2_strs {H : Hp} : ∀ (xs : List Str), (∀ x ∈ xs, rS H (V.str x) x) → A2 (rS H) (xs.map V.str) xs
  | [], _ => .nil
  | x :: r, h => .cons (h x List.mem_cons_self) (A2_strs r fun y hy => h y (List.mem_cons_of_mem _ hy))
theorem A2_mem {H : Hp} {P : Str → Prop} : ∀ {vs : List V} {xs : List Str}, A2 (fun (_ : V) x => P x) vs xs → ∀ x ∈ xs, P x
  | _, _, .nil, x, h => absurd h (by simp)
  | _, _, .cons h t, x, hx => (List.mem_cons.mp hx).elim (fun e => e ▸ h) fun e => A2_mem (H := H) t x e
theorem a_srt {xs : List Str} (h : Ev (rL rS) ta G xs) (hb : xs.length + 1 < 4096) : Nw (nl K rS) (tCB (rSortedT w) (tCons (tCB (rSetLT K w) (tCons ta tNil)) tNil)) G (srtU xs) := fun H0 σ H E Q k =>
  h H0 σ H E _ fun v H1 e1 ⟨p, us, ev, hp, z⟩ => by
    have eu : us = xs.map V.str := strs_A2 z
    have ok : ∀ x ∈ xs, okS x := A2_mem (H := H1) (z.imp fun _ _ q => q.2)
    refine ⟨p, xs, by rw [ev], by rw [← eu]; exact SqL.of hp, by unfold scanBound; omega, fun q c hq => ?_⟩
    refine ⟨q, _, c, rfl, upd_same, fun ns l hs hn hm hl => ?_⟩
    have en : ns = srtU xs := srtU_of hs hn hm
    subst en
    have e2 : Same H1 (upd H1 q (SetTO w q (fun k => decide (k ∈ xs)) c)) := same_new hq
    refine k _ _ [l] ((e1.trans e2).trans (same_new hl)) (fun b hb => by rw [List.mem_singleton.mp hb]; exact free_back (e1.trans e2) hl) ⟨l, _, rfl, rfl, upd_same, ?_⟩
    exact (A2_strs (H := upd (upd H1 q (SetTO w q (fun k => decide (k ∈ xs)) c)) l (.lst ((srtU xs).map V.str))) (srtU xs) fun x hx => ⟨rfl, ok x (mem_srtU.mp hx)⟩).imp fun _ _ q => stb q
end
end Gt
/-! Gt33: for x in reversed(list(..)). -/
namespace Gt
open PySem PySem.Spec PyProof.Rows L2
section
variable {K : PySem.W.Frag} {α β γ δ ρ : Type} {H0 H H1 H2 H' H'' : Hp} {σ : L2.St} {G G' Gx : Cells K} {D : Ends} {u : TS}
variable {te ti tk tx tv ta tb tc td ty : TE} {i j m : Nat} {x : α} {n : Int} {r : Rp α} {q : Rp γ} {k : Str}
theorem wj_rev {r : Rp α} [M : Mono r] {a : Addr} {vs : List V} {xs : List α} (h : H1 a = some (.lst vs)) (q : A2 (r H1) vs xs) : Wj (Itv K a vs.length) r H1 xs.reverse where
  go := fun H i x e hx => by
    have hl : vs.length = xs.length := q.len
    have hi : i < xs.length := by
      have := (List.getElem?_eq_some_iff.mp hx).1
      rw [List.length_reverse] at this
      exact this
    rw [List.getElem?_reverse hi] at hx
    obtain ⟨v, hv, z⟩ := q.get' hx
    rw [← hl] at hv
    refine ⟨⟨by rw [hl]; exact hi, vs, v, SqL.of (e _ _ h), hv⟩, fun w H' ⟨e1, e2⟩ => ?_⟩
    subst e1
    have := e2 vs (SqL.of (e _ _ h))
    rw [hv] at this
    cases this
    exact ⟨Same.refl _, M.up e z⟩
  stop := fun H e => by
    show vs.length ≤ xs.reverse.length
    rw [List.length_reverse]
    exact Nat.le_of_eq q.len
theorem wk_rev {r : Rp α} [M : Mono r] {tl : TE} {xs : List α} (h : Nw (nl K r) tl G xs) : Wk (iRev K (tCons tl tNil)) r G G xs.reverse := fun H1 σ H E R k =>
  h H1 σ H E _ fun v H' as e hn ⟨p, vs, e1, e2, e3, e4⟩ => by
    obtain ⟨H2, s1, s2, x, E2, ho⟩ := E.rebase e
    have hp : H2 p = some (.lst vs) := ho p _ (hn p (by rw [e1]; exact List.mem_singleton.mpr rfl)) e3
    exact ⟨p, vs, by rw [e2], SqL.of e3, k _ H2 H' s1 e E2 (wj_rev hp (e4.imp fun _ _ z => (z.up x).now))⟩
abbrev rStrS : List V → Hp → VK → Prop := fun xs H Q => ∃ a, xs = [.str a] ∧ Q (.str a) H
theorem call_strS {X : Cx} : CallR X (.type "str") rStrS := SkE.call_str_str
theorem a_strS {x : Str} (h : Ev rS te G x) : Ev rS (tCB rStrS (tCons te tNil)) G x := ev_cb (ea_cons h ea_nil) fun H vs ⟨v, ws, e, hv, e2⟩ Q kk => by
  refine ⟨x, by rw [e, show ws = [] from e2, hv.1], kk _ H (Same.refl H) ⟨rfl, hv.2⟩⟩
end
end Gt
/-! Gt34: an __init__ that fills several fields. -/
namespace Gt
open PySem PySem.Spec PyProof.Rows L2
section
variable {K : PySem.W.Frag} {α β γ ρ : Type}
/-- a field more -/
def fA (F : RF K β) (f : Str) (R : Rs K α) : RF K (β × α) where
  names := F.names ++ [f]
  rep := fun H fs x as => ∃ gs v a1 a2, fs = gs ++ [(f, v)] ∧ as = a1 ++ a2 ∧ F.rep H gs x.1 a1 ∧ R.rep H v x.2 a2
  ns := fun ⟨gs, v, a1, a2, e1, _, h, _⟩ => by rw [e1, List.map_append, F.ns h]; rfl
  stay := fun ⟨gs, v, a1, a2, e1, e2, h1, h2⟩ x k => ⟨gs, v, a1, a2, e1, e2, F.stay h1 x (fun p hp => k p (by rw [e2]; exact List.mem_append_left _ hp)), R.stay h2 x (fun p hp => k p (by rw [e2]; exact List.mem_append_right _ hp))⟩
  there := fun ⟨gs, v, a1, a2, e1, e2, h1, h2⟩ p hp => by
    rw [e2] at hp
    rcases List.mem_append.mp hp with q | q
    · exact F.there h1 p q
    · exact R.there h2 p q
theorem lookup_snoc {f g : Str} {v : V} : ∀ {fs : List (Str × V)}, (fs ++ [(g, v)]).lookup f = match fs.lookup f with | some w => some w | none => if f == g then some v else none
  | [] => by
    show List.lookup f [(g, v)] = _
    rw [List.lookup_cons]
    cases f == g <;> rfl
  | (a, b) :: r => by
    show List.lookup f ((a, b) :: (r ++ [(g, v)])) = _
    rw [List.lookup_cons, List.lookup_cons]
    cases f == a with
    | true => rfl
    | false => exact lookup_snoc (fs := r)
theorem lookup_out {f : Str} : ∀ {fs : List (Str × V)}, f ∉ fs.map (·.1) → fs.lookup f = none
  | [], _ => rfl
  | (a, b) :: r, h => by
    rw [List.lookup_cons]
    have hn : (f == a) = false := by
      cases q : f == a with
      | false => rfl
      | true => exact absurd (List.mem_cons.mpr (.inl (beq_iff_eq.mp q))) h
    rw [hn]
    exact lookup_out fun z => h (List.mem_cons_of_mem _ z)
theorem putF_out {f : Str} {v : V} : ∀ {fs : List (Str × V)}, f ∉ fs.map (·.1) → putF f v fs = fs ++ [(f, v)]
  | [], _ => rfl
  | (a, b) :: r, h => by
    have hn : ¬ a = f := fun e => h (List.mem_cons.mpr (.inl e.symm))
    show (if a = f then (a, v) :: r else (a, b) :: putF f v r) = _
    rw [if_neg hn, putF_out (fs := r) fun z => h (List.mem_cons_of_mem _ z)]
    rfl
theorem fldA_hd {f : Str} {R : Rs K α} {F : RF K β} (nf : f ∉ F.names) : FldAt (fA F f R) f R (fun x => x.2) := fun H fs x as ⟨gs, v, a1, a2, e1, _, h1, h2⟩ => by
  refine ⟨v, a2, ?_, h2⟩
  rw [e1, lookup_snoc, lookup_out (by rw [F.ns h1]; exact nf)]
  show (if (f == f) = true then some v else none) = some v
  rw [if_pos (beq_self_eq_true f)]
theorem fldA_tl {f g : Str} {R : Rs K α} {S : Rs K γ} {F : RF K β} {get : β → γ} (h : FldAt F f S get) : FldAt (fA F g R) f S (fun x => get x.1) := fun H fs x as ⟨gs, v, a1, a2, e1, _, h1, h2⟩ => by
  obtain ⟨w, bs, l, hr⟩ := h H gs x.1 a1 h1
  exact ⟨w, bs, by rw [e1, lookup_snoc, l], hr⟩
/-- self while its fields are filled -/
def nGro (K : PySem.W.Frag) (p C : Addr) (F : RF K α) : Rs K α where
  rep := fun H v x as => ∃ dx fs bs, v = .ref p ∧ as = p :: bs ∧ p ∉ bs ∧ H p = some (.ins C dx fs) ∧ F.rep H fs x bs
  stay := fun ⟨dx, fs, bs, e1, e2, np, h1, h2⟩ x k => ⟨dx, fs, bs, e1, e2, np, k p (by rw [e2]; exact List.mem_cons_self ..) _ h1, F.stay h2 x (fun q hq => k q (by rw [e2]; exact List.mem_cons_of_mem _ hq))⟩
  there := fun ⟨dx, fs, bs, e1, e2, np, h1, h2⟩ q hq => by
    rw [e2] at hq
    rcases List.mem_cons.mp hq with z | z
    · rw [z]; exact ⟨_, h1, fun z => z⟩
    · exact F.there h2 q z
theorem gro_rec {p C : Addr} {F : RF K α} {H : Hp} {v : V} {x : α} {as : List Addr} (h : (nGro K p C F).rep H v x as) : (nRec K C F).rep H v x as := by
  obtain ⟨dx, fs, bs, e1, e2, _, h1, h2⟩ := h
  exact ⟨p, dx, fs, bs, e1, e2, h1, h2⟩
variable {H0 H1 H2 H H' : Hp} {σ : L2.St} {G G' : Cells K} {r : Rp α} {q : Rp β} {D : Ends} {u : TS} {te ta : TE} {R : Rs K γ} {b : γ}
theorem a_gro {i : Nat} {p C : Addr} {F : RF K α} {x : α} (h : G[i]? = some (some (.ow (nGro K p C F) x))) : Ev (rRec K C F) (tVar i) G x := fun H0 σ H E Q k => by
  obtain ⟨own, _, _, h3⟩ := E.at_
  obtain ⟨v, hv, hr⟩ := h3 i _ h
  exact ⟨v, hv, k v H (Same.refl H) ⟨_, gro_rec hr⟩⟩
/-- one field more, its thing's owner given -/
theorem gro_put {own : Nat → List Addr} {i : Nat} {p C : Addr} {F : RF K α} {x : α} {f : Str} {v : V} {as : List Addr} (E : EnvO own H1 σ H G) (hi : G[i]? = some (some (.ow (nGro K p C F) x))) (hr : R.rep H v b as) (hf : ∀ a, a ∈ as → H1 a = none ∧ ∀ j, a ∉ own j) (nf : f ∉ F.names) :
    ∃ dx fs, H p = some (.ins C dx fs) ∧ fs.map (·.1) = F.names ∧ EnvO (fun j => if j = i then own i ++ as else own j) H1 σ (upd H p (.ins C dx (putF f v fs))) (G.set i (some (.ow (nGro K p C (fA F f R)) (x, b)))) ∧ σ[i]? = some (some (.ref p)) := by
  obtain ⟨w, hw, dx, fs, bs, ew, ea, np, hp, hF⟩ := E.at_ i _ hi
  subst ew
  have hl : i < G.length := (List.getElem?_eq_some_iff.mp hi).1
  have pi : p ∈ own i := by rw [ea]; exact List.mem_cons_self ..
  have pas : p ∉ as := fun z => (hf p z).2 i pi
  have ns := F.ns hF
  have x0 : ExT K H (upd H p (.ins C dx (putF f v fs))) := ext_upd hp fun z => z
  have keep : ∀ t : List Addr, p ∉ t → ∀ a, a ∈ t → ∀ o, H a = some o → upd H p (.ins C dx (putF f v fs)) a = some o := fun t ht a ha o ho => by
    rw [upd_ne fun z => ht (by rw [← z]; exact ha)]; exact ho
  refine ⟨dx, fs, hp, ns, ⟨fun c o hc => ?_, by rw [List.length_set]; exact E.len, fun j a ha => ?_, fun j k a hj hk => ?_, fun j c hc => ?_⟩, hw⟩
  · have : c ≠ p := fun z => by rw [z, (E.free i p pi).1] at hc; cases hc
    rw [upd_ne this]
    exact E.old _ _ hc
  · have up : ∀ a, (∃ o, H a = some o ∧ ¬ isTup o) → ∃ o, upd H p (.ins C dx (putF f v fs)) a = some o ∧ ¬ isTup o := fun a ⟨o, ho, nt⟩ => by
      by_cases e : a = p
      · rw [e, upd_same]; exact ⟨_, rfl, fun z => z⟩
      · rw [upd_ne e]; exact ⟨o, ho, nt⟩
    by_cases h : j = i
    · simp only [h, if_true] at ha
      rcases List.mem_append.mp ha with z | z
      · exact ⟨(E.free i a z).1, up a (E.free i a z).2⟩
      · exact ⟨(hf a z).1, up a (R.there hr a z)⟩
    · simp only [h, if_false] at ha
      exact ⟨(E.free j a ha).1, up a (E.free j a ha).2⟩
  · by_cases h : j = i <;> by_cases h' : k = i
    · rw [h, h']
    · simp only [h, h', if_true, if_false] at hj hk
      rcases List.mem_append.mp hj with z | z
      · exact h ▸ E.apart i k a z hk
      · exact absurd hk ((hf a z).2 k)
    · simp only [h, h', if_true, if_false] at hj hk
      rcases List.mem_append.mp hk with z | z
      · exact h' ▸ E.apart j i a hj z
      · exact absurd hj ((hf a z).2 j)
    · simp only [h, h', if_false] at hj hk
      exact E.apart j k a hj hk
  · by_cases h : j = i
    · subst h
      rw [List.getElem?_set_self hl] at hc
      cases hc
      refine ⟨_, hw, dx, putF f v fs, bs ++ as, rfl, ?_, fun z => ?_, upd_same, ?_⟩
      · simp only [if_true]
        rw [ea]; rfl
      · rcases List.mem_append.mp z with z | z
        · exact np z
        · exact pas z
      · exact ⟨fs, v, bs, as, putF_out (by rw [ns]; exact nf), rfl, F.stay hF x0 (keep bs np), R.stay hr x0 (keep as pas)⟩
    · rw [List.getElem?_set_ne (Ne.symm h)] at hc
      obtain ⟨w, hw, hk⟩ := E.at_ j c hc
      refine ⟨w, hw, ?_⟩
      simp only [h, if_false]
      exact cell_stay hk x0 (keep (own j) fun z => h (E.apart j i p z pi))
/-- self.f = something new -/
theorem l_selfN {i : Nat} {p C : Addr} {F : RF K α} {x : α} {f : Str} (hi : G[i]? = some (some (.ow (nGro K p C F) x))) (h : Nw R te G b) (nf : f ∉ F.names) (hz : F.names.length < 1000) (c : Cls K C) (n : NoAttr K C f)
    (kk : Nx H0 (G.set i (some (.ow (nGro K p C (fA F f R)) (x, b)))) D.nx) : Sv H0 G (sFld K (tVar i) te f) D := fun σ H ⟨H1, e1, E⟩ =>
  h H1 σ H E _ fun v H2 as e2 hn hr => by
    obtain ⟨own, EO⟩ := E.o
    have E2 := EO.grow e2
    have hf : ∀ a, a ∈ as → H1 a = none ∧ ∀ j, a ∉ own j := fun a ha => ⟨free_back EO.old (hn a ha), fun j z => by obtain ⟨o, ho, _⟩ := (EO.free j a z).2; rw [hn a ha] at ho; cases ho⟩
    obtain ⟨dx, fs, hp, ns, E3, hw⟩ := gro_put E2 hi hr hf nf
    exact ⟨_, hw, p, C, dx, fs, rfl, hp, c, n, by rw [← List.length_map (f := (·.1)) (as := fs), ns]; exact hz, kk _ _ ⟨H1, e1, E3.e⟩⟩
theorem q_selfN {i : Nat} {p C : Addr} {F : RF K α} {x : α} {f : Str} (hi : G[i]? = some (some (.ow (nGro K p C F) x))) (h : Nw R te G b) (nf : f ∉ F.names) (hz : F.names.length < 1000) (c : Cls K C) (n : NoAttr K C f)
    (kk : Sv H0 (G.set i (some (.ow (nGro K p C (fA F f R)) (x, b)))) u D) : Sv H0 G (tSeq (sFld K (tVar i) te f) u) D := l_selfN (D := { D with nx := u D }) hi h nf hz c n kk
/-- self.f = the list of a slot, which goes on naming it -/
theorem l_selfMv {i m : Nat} {p C : Addr} {F : RF K α} {x : α} {f : Str} {xs : List β} (hi : G[i]? = some (some (.ow (nGro K p C F) x))) (hm : G[m]? = some (some (.ow (nl K q) xs))) (ne : m ≠ i) (nf : f ∉ F.names) (hz : F.names.length < 1000) (c : Cls K C) (n : NoAttr K C f)
    (kk : ∀ l : Addr, Nx H0 ((G.set m (fc rV (.ref l))).set i (some (.ow (nGro K p C (fA F f (nlA K q l))) (x, xs)))) D.nx) : Sv H0 G (sFld K (tVar i) (tVar m) f) D := fun σ H ⟨H1, e1, E⟩ => by
  obtain ⟨own, EO⟩ := E.o
  obtain ⟨w, hw, l, vs, ea, ew, hl, z⟩ := EO.at_ m _ hm
  subst ew
  have hml : m < G.length := (List.getElem?_eq_some_iff.mp hm).1
  have E2 : EnvO (fun j => if j = m then [] else own j) H1 σ H (G.set m (fc rV (.ref l))) := ⟨EO.old, by rw [List.length_set]; exact EO.len, fun j a ha => by
      by_cases h : j = m
      · simp only [h, if_true] at ha; cases ha
      · simp only [h, if_false] at ha; exact EO.free j a ha, fun j k a hj hk => by
      by_cases h : j = m
      · simp only [h, if_true] at hj; cases hj
      · by_cases h' : k = m
        · simp only [h', if_true] at hk; cases hk
        · simp only [h, h', if_false] at hj hk; exact EO.apart j k a hj hk, fun j c hc => by
      by_cases h : j = m
      · subst h
        rw [List.getElem?_set_self hml] at hc
        cases hc
        refine ⟨_, hw, ?_⟩
        simp only [if_true]
        exact ⟨rfl, fun H' _ => rfl⟩
      · rw [List.getElem?_set_ne (Ne.symm h)] at hc
        simp only [h, if_false]
        exact EO.at_ j c hc⟩
  have hi2 : (G.set m (fc rV (.ref l)))[i]? = some (some (.ow (nGro K p C F) x)) := by rw [List.getElem?_set_ne ne]; exact hi
  obtain ⟨dx, fs, hp, ns, E3, hw2⟩ := gro_put (R := nlA K q l) (v := .ref l) (as := own m) (f := f) E2 hi2 ⟨⟨l, vs, ea, rfl, hl, z⟩, rfl⟩ (fun a ha => ⟨(EO.free m a ha).1, fun j => by
    by_cases h : j = m
    · simp only [h, if_true]; exact fun z => nomatch z
    · simp only [h, if_false]; exact fun z => h (EO.apart j m a z ha)⟩) nf
  exact ⟨_, hw, _, hw2, p, C, dx, fs, rfl, hp, c, n, by rw [← List.length_map (f := (·.1)) (as := fs), ns]; exact hz, kk l _ _ ⟨H1, e1, E3.e⟩⟩
theorem q_selfMv {i m : Nat} {p C : Addr} {F : RF K α} {x : α} {f : Str} {xs : List β} (hi : G[i]? = some (some (.ow (nGro K p C F) x))) (hm : G[m]? = some (some (.ow (nl K q) xs))) (ne : m ≠ i) (nf : f ∉ F.names) (hz : F.names.length < 1000) (c : Cls K C) (n : NoAttr K C f)
    (kk : ∀ l : Addr, Sv H0 ((G.set m (fc rV (.ref l))).set i (some (.ow (nGro K p C (fA F f (nlA K q l))) (x, xs)))) u D) : Sv H0 G (tSeq (sFld K (tVar i) (tVar m) f) u) D := l_selfMv (D := { D with nx := u D }) hi hm ne nf hz c n kk
/-- the list at l is what get tells -/
def FAt (F : RF K α) (l : Addr) (r : Rp β) (get : α → List β) : Prop := ∀ H fs x as, F.rep H fs x as → rL r H (.ref l) (get x)
theorem fat_hd {F : RF K α} {f : Str} {l : Addr} : FAt (fA F f (nlA K q l)) l q (fun x => x.2) := fun H fs x as ⟨gs, v, a1, a2, _, _, _, ⟨⟨l', vs, _, ev, hl, z⟩, e⟩⟩ => by
  subst e
  cases ev
  exact ⟨l, vs, rfl, hl, z.imp fun _ _ w => w.now⟩
theorem fat_tl {F : RF K α} {f : Str} {l : Addr} {S : Rs K γ} {get : α → List β} (h : FAt F l q get) : FAt (fA F f S) l q (fun x => get x.1) := fun H fs x as ⟨gs, v, a1, a2, _, _, h1, _⟩ => h H gs x.1 a1 h1
theorem a_alF {i m : Nat} {p C l : Addr} {F : RF K α} {x : α} {z : List β} {get : α → List β} (hm : G[m]? = some (fc rV (.ref l))) (hi : G[i]? = some (some (.ow (nGro K p C F) x))) (h : FAt F l q get) (e : get x = z) : Ev (rL q) (tVar m) G z := fun H0 σ H E Q k => by
  subst e
  obtain ⟨own, _, _, h3⟩ := E.at_
  obtain ⟨v, hv, hr⟩ := h3 m _ hm
  obtain ⟨w, _, dx, fs, bs, _, _, _, _, hF⟩ := h3 i _ hi
  have ev : v = .ref l := hr.2 H (ExT.refl _)
  subst ev
  exact ⟨_, hv, k _ H (Same.refl H) (h _ _ _ _ hF)⟩
/-! ### the promise -/
def spInit (K : PySem.W.Frag) (C : Addr) (F : RF K β) (A : Ra α) (m : α → M β) : Sp := fun vs H Q E => ∃ p dx ws a H1, vs = .ref p :: ws ∧ Same H1 H ∧ H1 p = none ∧ ExT K H1 H ∧ H p = some (.ins C dx []) ∧ A H1 ws a ∧ NStk (m a) ∧
  (∀ b, m a = .ok b → ∀ H' as, Same H1 H' → (∀ q, q ∈ as → H1 q = none) → (nRec K C F).rep H' (.ref p) b as → Q .non H') ∧
  ∀ x fs, m a = .error (.ex x fs) → ∀ d H', Same H1 H' → H1 d = none → XR K H' d fs → E (.ref (cA K x)) (some d) H'
theorem spInit_len {K : PySem.W.Frag} {C : Addr} {α β : Type} {F : RF K β} {A : Ra α} {m : α → M β} {n : Nat} [L : LenA A n] {vs : List V} {H : Hp} {Q : VK} {E : XK} (h : spInit K C F A m vs H Q E) : vs.length = n + 1 := by
  obtain ⟨p, dx, ws, a, H1, rfl, _, _, _, _, hA, _⟩ := h
  rw [List.length_cons, L.len hA]
theorem ee_makeI {C : Addr} {F : RF K β} {A : Ra α} {a : α} {m : α → M β} {W : WX} {t : TA} {o : M β} (hA : EvA A t G a) (M : MonoA A) (e : m a = o) (w : WOk H0 G W o) : EvE H0 (nRec K C F) (tMakeS C (spInit K C F A m) (WE W) t) G o := fun σ H ⟨H1, e1, E⟩ Q k =>
  hA H1 σ H E _ fun vs H2 e2 hvs x dx hx hdx hne => by
    have s1 : Same H2 (upd (upd H2 dx (.own x)) x (.ins C dx [])) := same_made hx hdx
    refine ⟨x, dx, vs, a, H2, rfl, s1, hx, ext_same s1, upd_same, hvs, by rw [e]; exact w.1, fun b hb H' as s2 hf hr => ⟨rfl, ?_⟩, fun y fs hy d H' s2 hd hx2 => ?_⟩
    · exact k b (e ▸ hb) _ H' as (e2.trans s2) (fun p hp => free_back e2 (hf p hp)) hr
    · exact w.2 y fs (e ▸ hy) σ H2 H' ⟨H1, e1, E.grow e2⟩ s2 d hd hx2
theorem nw_mkI {C : Addr} {F : RF K β} {A : Ra α} {a : α} {m : α → M β} {b : β} {E' : L2.St → XK} {tq : TA} (hA : EvA A tq G a) (M : MonoA A) (e : MOk m a b) : Nw (nRec K C F) (tMakeS C (spInit K C F A m) E' tq) G b := fun H0 σ H E Q k =>
  hA H0 σ H E _ fun vs H2 e2 hvs x dx hx hdx hne => by
    have e : m a = .ok b := e
    have s1 : Same H2 (upd (upd H2 dx (.own x)) x (.ins C dx [])) := same_made hx hdx
    refine ⟨x, dx, vs, a, H2, rfl, s1, hx, ext_same s1, upd_same, hvs, nstk_ok e, fun b' hb H' as s2 hf hr => ⟨rfl, ?_⟩, fun y fs hy => by rw [e] at hy; cases hy⟩
    rw [e] at hb
    cases hb
    exact k _ H' as (e2.trans s2) (fun p hp => free_back e2 (hf p hp)) hr
/-- the start -/
theorem Sv.runI {C p dx : Addr} {σ : L2.St} {G : Cells K} {t : TS} (s : Sv H1 (some (.ow (nGro K p C fN) ()) :: G) t D) (e : Same H1 H) (h1 : H1 p = none) (hp : H p = some (.ins C dx [])) (w : Pw H1 σ G) : t D (some (.ref p) :: σ) H := by
  refine s _ H ⟨H1, Same.refl _, e, by rw [List.length_cons, List.length_cons, w.len], fun i => if i = 0 then [p] else [], fun i a ha => ?_, fun i j a hi hj => ?_, fun i c hc => ?_⟩
  · by_cases h : i = 0
    · simp only [h, if_true] at ha
      cases List.mem_singleton.mp ha
      exact ⟨h1, _, hp, fun z => z⟩
    · simp only [h, if_false] at ha; cases ha
  · by_cases h : i = 0 <;> by_cases h' : j = 0
    · rw [h, h']
    · simp only [h', if_false] at hj; cases hj
    · simp only [h, if_false] at hi; cases hi
    · simp only [h, if_false] at hi; cases hi
  · cases i with
    | zero =>
      cases hc
      exact ⟨_, rfl, dx, [], [], rfl, rfl, List.not_mem_nil, hp, rfl, rfl⟩
    | succ i =>
      obtain ⟨v, hv, hk⟩ := w.get hc
      refine ⟨v, hv, ?_⟩
      simp only [Nat.succ_ne_zero, if_false]
      exact cell_stay hk (ext_same e) fun _ z => nomatch z
/-- the end -/
def RLe (R R' : Rs K α) : Prop := ∀ H v x as, R.rep H v x as → R'.rep H v x as
def FLe (F F' : RF K α) : Prop := ∀ H fs x as, F.rep H fs x as → F'.rep H fs x as
theorem rle_refl {R : Rs K α} : RLe R R := fun _ _ _ _ h => h
theorem rle_nlA {l : Addr} {q : Rp β} : RLe (nlA K q l) (nl K q) := fun _ _ _ _ h => h.1
theorem fle_N : FLe (K := K) fN fN := fun _ _ _ _ h => h
theorem fle_A {F F' : RF K β} {f : Str} {R R' : Rs K α} (h : FLe F F') (h' : RLe R R') : FLe (fA F f R) (fA F' f R') := fun _ _ _ _ ⟨gs, v, a1, a2, e1, e2, h1, h2⟩ => ⟨gs, v, a1, a2, e1, e2, h _ _ _ _ h1, h' _ _ _ _ h2⟩
theorem nx_init {p C : Addr} {F F' : RF K α} {x : α} {P : Hp → Prop} (hi : G[0]? = some (some (.ow (nGro K p C F) x))) (le : FLe F F') (h : ∀ H' as, Same H0 H' → (∀ q, q ∈ as → H0 q = none) → (nRec K C F').rep H' (.ref p) x as → P H') : Nx H0 G (fun _ H' => P H') := fun σ H ⟨H1, e1, E⟩ => by
  obtain ⟨own, h1, h2, h3⟩ := E.at_
  obtain ⟨v, hv, hr⟩ := h3 0 _ hi
  have ev : v = .ref p := by obtain ⟨_, _, _, e, _⟩ := hr; exact e
  subst ev
  obtain ⟨a, dx, fs, bs, z1, z2, z3, z4⟩ := gro_rec hr
  exact h H (own 0) (e1.trans E.old) (fun q hq => free_back e1 (h1 0 q hq).1) ⟨a, dx, fs, bs, z1, z2, z3, le _ _ _ _ z4⟩
end
end Gt
/-! Gt35: several except clauses, each with a name; a default that is None; None as a parameter. -/
namespace Gt
open PySem PySem.Spec PyProof.Rows L2
/-- what the clauses wish of an exception of the body, one after the other; each has its name's slot -/
def wMas (K : PySem.W.Frag) (Wout : WX) (D : Ends) : List (Value × Nat × (Addr → Value → Option Addr → TS)) → WX
  | [] => Wout
  | (c, i, ts) :: r => fun cls d σ H => ∃ b, PySem.W.exmOne K cls c = some b ∧ (b = true → ∀ a, H a = none → ts a cls d { nx := fun σ' H' => D.nx (σ'.set i none) H', rt := D.rt, bk := fun σ' H' => D.bk (σ'.set i none) H', ct := fun σ' H' => D.ct (σ'.set i none) H' } (σ.set i (some (.ref a))) H) ∧
      (b = false → wMas K Wout D r cls d σ H)
inductive HdsAs (X : Cx) : List ExceptHandler → List (Value × Nat × (Addr → Value → Option Addr → TS)) → Prop
  | nil : HdsAs X [] []
  | cons {x n : Str} {i : Nat} {c : Value} {ts : Addr → Value → Option Addr → TS} {b₀ : Stmt} {suite : List Stmt} {np pos' : Pos} {hds : List ExceptHandler} {l : List (Value × Nat × (Addr → Value → Option Addr → TS))} (hi : X.N[i]? = some n) (hln : X.env.kindOf n = some .local) (hc : Names X x c)
      (hsu : ∀ (a : Addr) (oe : Obj) (cls : Value) (d : Option Addr) (pn : List (Addr × Obj)), Zc cls d oe → (∃ vs, oe.data = .fields vs) → PSs (X.suite a ((a, oe) :: pn)) (b₀ :: suite) (ts a cls d)) (r : HdsAs X hds l) :
      HdsAs X (.ExceptHandler (some (.Name x np)) (some n) (b₀ :: suite) pos' :: hds) ((c, i, ts) :: l)
section
variable {X : Cx} {body : List Stmt} {h₀ : ExceptHandler} {hds : List ExceptHandler} {l : List (Value × Nat × (Addr → Value → Option Addr → TS))} {pos : Pos} {tb : WX → TS} {Wout : WX}
theorem ps_try_mas (hs : X.stack = X.env :: X.outer) (hf : X.env.frame = some X.env.locals) (hN : X.N.Nodup) (tk : Takes X Wout)
    (hb : ∀ (W : WX) (pn : List (Addr × Obj)) (xe : Value → Shared → Prop), Takes (X.tr pn xe) W → PassesOwn (model X.prog X.w) X.A X.env xe → PSs (X.tr pn xe) body (tb W))
    (hh : HdsAs X (h₀ :: hds) l) : PS X (.Try body (h₀ :: hds) [] [] pos) (fun D σ H => tb (wMas X.K Wout D l) D σ H) := by
  refine ⟨fun pins s σ H D I h => ?_⟩
  have ok := I.ok
  have hfr : X.A.frames = some (X.env :: X.outer) := by rw [ok.frames, hs]
  refine wpAny_Try_except ?_
  refine wpAny_mono ((hb (wMas X.K Wout D l) (X.pn ++ pins) (fun e s₁ => wpAny (model X.prog X.w) X.A (noteFrame e X.env) (fun _ s₂ => wpAny (model X.prog X.w) X.A (setFlight e none) (fun _ s₃ =>
    wpAny (model X.prog X.w) X.A (handleBy e X.env (h₀ :: hds)) (SP X pins D) X.xe s₃) X.xe s₂) X.xe s₁) (fun u s' xx => ?_) PassesOwn.looking).run [] s σ H D (I.toTry _) h) (fun f s1 hsp => ?_) (fun e s1 he => he)
  · -- the catch
    obtain ⟨a, B, sI, pins', σ', H', cls, d, rfl, J', nb, up, sky, na, os, ag, w⟩ := xx
    have J : Inv X pins σ' H' sI := J'.ofTry ok
    have sky' : Sky B (X.env :: X.outer) a (Zc cls d) X.env.locals s'.heap := by rw [← hs]; exact sky
    show wpAny (model X.prog X.w) X.A (noteFrame (.ref a) X.env) _ _ _
    refine Sky.land Zc.steady hfr hf sky' fun h3 fl3 up3 => ?_
    have J3 : Inv X pins σ' H' { s' with heap := h3 } := J.landed nb fl3.1 (up.trans up3) os ag
    obtain ⟨oe3, vs3, he3, hz3, hd3⟩ := fl3.there
    have notFr : ∀ {h : Heap} {o : Obj} {vs : Array Value}, h.FunFrames B (X.env :: X.outer) → h.get? a = some o → o.data = .fields vs → a ∉ frs (X.env :: X.outer) := fun {h o vs} ff e dd hm => by
      obtain ⟨_, o', e', hnf⟩ := ff.mem hm
      rw [e] at e'; cases e'
      exact hnf _ dd
    have nfr := notFr fl3.2.2.1 he3 hd3
    have nL : a ≠ X.env.locals := fun z => nfr (List.mem_filterMap.mpr ⟨X.env, List.mem_cons_self, by rw [hf, z]⟩)
    have nF : a ∉ X.fs := fun hm => by
      obtain ⟨e, he, q⟩ := List.mem_filterMap.mp hm
      exact nfr (List.mem_filterMap.mpr ⟨e, List.mem_cons_of_mem _ he, q⟩)
    have S3 := J3.suite he3 hd3 na nL nF
    have go : ∀ {hds' : List ExceptHandler} {l' : List (Value × Nat × (Addr → Value → Option Addr → TS))}, HdsAs X hds' l' → wMas X.K Wout D l' cls d σ' H' →
        wpAny (model X.prog X.w) X.A (handleBy (.ref a) X.env hds') (SP X pins D) X.xe { s' with heap := h3 } := by
      intro hds' l' hk
      induction hk with
      | nil =>
        intro w
        refine wpAny_handleBy_nil ?_
        obtain ⟨k1, k2, k3, oe, vs, T, oT, ts', he, hz, hd, h1, hr⟩ := id fl3
        unfold PySem.passOn
        refine wpAny_bind (wpAny_field he hd h1 ?_)
        rw [if_neg (show ¬ ((Value.ref T == Value.none) = true) from by simp)]
        have fin : wpAny (model X.prog X.w) X.A (setFlight (.ref a) X.env.frame) (fun _ s4 => wpAny (model X.prog X.w) X.A (throw (.ref a) : Sem Flow) (SP X pins D) X.xe s4) X.xe { s' with heap := h3 } := by
          rw [hf]
          refine HandSPX.setFlight_upZ fl3 fun h4 hh4 up4 => wpAny_throw (tk _ _ ?_)
          exact ⟨a, B, sI, pins, σ', H', cls, d, rfl, J, nb, (up.trans up3).trans up4, .inr (.inr (by rw [hs]; exact hh4)), na, os, ag, w⟩
        first
          | exact wpAny_bind (wpAny_pure (wpAny_bind fin))
          | exact wpAny_bind fin
      | @cons x n i c ts b₀ suite np pos' hds2 l2 hi hln hc hsu r ih =>
        intro w
        obtain ⟨b, hb1, hyes, hno⟩ := w
        have hloc : Loc X.env.scope n := .inl hln
        refine wpAny_handleBy_cons (codeAny_handlers_test ?_) (by intro q; cases q)
        have LT : PySem.W.Looks (model X.prog X.w) h3 (typeOf (.ref a)) cls := fun A Q E s k q => wpAny_typeOf_ref (k _ _ he3) (by rw [hz3.1]; exact q)
        have LM := PySem.W.exm_one (M := model X.prog X.w) (J3.kIn) LT hb1
        have test : ∀ {Q : Value → Shared → Prop} {E : Value → Shared → Prop}, Q c { s' with heap := h3 } → wpAny (model X.prog X.w) (X.A.mark (some (.ref a))) (eval (.Name x np) X.env) Q E { s' with heap := h3 } := fun {Q E} q => by
          obtain ⟨hg, hdbg, hm | ⟨hm, hv, hnn⟩⟩ := hc
          · exact ld_glob (X := X.suite a ((a, oe3) :: (X.pn ++ pins))) S3 hg hm q hdbg
          · exact ld_blt (X := X.suite a ((a, oe3) :: (X.pn ++ pins))) S3 hg hm hv q hnn hdbg
        refine test (LM.here ?_)
        cases b with
        | true =>
          refine codeAny_handlers_suite_as ?_
          refine HandSPX.lands_againZ fl3 fun h4 fl4 up4 => ?_
          have J4 : Inv X pins σ' H' { s' with heap := h4 } := J.landed nb fl4.1 ((up.trans up3).trans up4) os ag
          obtain ⟨oe4, vs4, he4, hz4, hd4⟩ := fl4.there
          have S4 := J4.suite he4 hd4 na nL nF
          refine store_ok (X := X.suite a ((a, oe4) :: (X.pn ++ pins))) (v := .ref a) S4 hN hi hloc rfl (fun s5 S5 => ?_) (.inr hln)
          refine wpAny_mono ((hsu a oe4 cls d (X.pn ++ pins) hz4 ⟨_, hd4⟩).run [] s5 _ H' _ S5 (hyes rfl a na)) (fun f s6 hsp => ?_) (fun _ _ z => False.elim z)
          have end_ : ∀ {σ6 : L2.St} {H6 : Hp} {Q : Shared → Prop}, Inv (X.suite a ((a, oe4) :: (X.pn ++ pins))) [] σ6 H6 s6 → (∀ s7, Inv X pins (σ6.set i none) H6 s7 → Q s7) →
              wpAny (model X.prog X.w) X.A (do bindName X.env n .none; unbindBehindTheSuite X.env n pos') (fun _ s7 => Q s7) X.xe s6 := fun {σ6 H6 Q} S6 hq => gone_ok (S6.unsuite ok) hN hi hln hq
          cases f with
          | next =>
            obtain ⟨σ6, H6, S6, q6⟩ := hsp
            exact end_ S6 fun s7 J7 => ⟨_, _, J7, q6⟩
          | brk =>
            obtain ⟨σ6, H6, S6, q6⟩ := hsp
            exact end_ S6 fun s7 J7 => ⟨_, _, J7, q6⟩
          | cont =>
            obtain ⟨σ6, H6, S6, q6⟩ := hsp
            exact end_ S6 fun s7 J7 => ⟨_, _, J7, q6⟩
          | ret u =>
            obtain ⟨v6, σ6, H6, S6, r6, q6⟩ := hsp
            exact end_ S6 fun s7 J7 => ⟨_, _, _, J7, r6, q6⟩
        | false =>
          show wpAny _ X.A (handleBy (.ref a) X.env hds2) _ _ _
          exact ih (hno rfl)
    exact go hh w
  · cases f with
    | next =>
      obtain ⟨σ', H', J', q⟩ := hsp
      exact wpAny_execs_nil ⟨σ', H', J'.ofTry ok, q⟩
    | brk =>
      obtain ⟨σ', H', J', q⟩ := hsp
      exact ⟨σ', H', J'.ofTry ok, q⟩
    | cont =>
      obtain ⟨σ', H', J', q⟩ := hsp
      exact ⟨σ', H', J'.ofTry ok, q⟩
    | ret u =>
      obtain ⟨v, σ', H', J', r, q⟩ := hsp
      exact ⟨v, σ', H', J'.ofTry ok, r, q⟩
end
end Gt
/-! Gt36: a default that is None; None as a parameter; two clauses, in the mirrors. -/
namespace Gt
open PySem PySem.Spec PyProof.Rows L2
theorem exm_no {K : PySem.W.Frag} {S T : Addr} (h1 : PySem.W.subIn K (.ref S) (.type "BaseException") = some true) (h2 : PySem.W.isClsIn K S = true) (h3 : PySem.W.typeIn K (.ref S) = some (.type "type")) (h4 : PySem.W.subIn K (.ref T) (.ref S) = some false) : PySem.W.exmOne K (.ref T) (.ref S) = some false := by
  have e1 : (PySem.W.subIn K (.ref S) (.type "BaseException") == some true) = true := by rw [h1] <;> rfl
  have e2 : ((PySem.W.clsIn K S).isSome && PySem.W.typeIn K (.ref S) == some (.type "type")) = true := by
    have h2' : (PySem.W.clsIn K S).isSome = true := h2
    rw [h2', h3] <;> rfl
  unfold PySem.W.exmOne PySem.W.kitCls
  rw [if_pos e1]
  exact (if_pos e2).trans h4
/-- an error of the class x is none of the class y -/
def XNo (K : PySem.W.Frag) (x y : Str) : Prop := PySem.W.exmOne K (.ref (cA K x)) (.ref (cA K y)) = some false
/-! ### None at the end of the arguments -/
def tArgN (t : TA) : TA := fun σ H Q => t σ H fun vs H1 => Q (vs ++ [.non]) H1
structure CalN (P : Program) (w : World) (K : PySem.W.Frag) (mg : Str → Option Value) (base : Heap) (CX : CXT) (C : Addr) (k : Nat) (ps : List Str) (sp : Sp) : Prop where
  ex : ∃ (f : Addr) (fd : FuncData), FnOk P w K mg base CX k f fd ps sp ∧ Mk K C f ∧ Binds K fd ps [.none]
section
variable {K : PySem.W.Frag} {α β γ : Type} {G : Cells K} {r : Rp α} {q : Rp β} {t : TA} {te ta tb : TE} {x : α} {b : β}
theorem ea_argN1 (h : EvA (aC r aN) t G (x, ())) : EvA (aC r (aC rN aN)) (tArgN t) G (x, ((), ())) := fun H0 σ H E Q k =>
  h H0 σ H E _ fun vs H1 e1 ⟨v, ws, ev, hv, ew⟩ => k _ H1 e1 ⟨v, [.non], by rw [ev, show ws = [] from ew]; rfl, hv, .non, [], rfl, rfl, rfl⟩
theorem ev_nonN : Ev rN (tC .non) G () := fun H0 σ H E Q k => k _ H (Same.refl H) rfl
theorem a_isNN {y : Unit} (h : Ev rN ta G y) : Ev rB (tOp (fun x y H Q => y = .non ∧ Q (.bl (decide (x = .non))) H) ta (tC .non)) G true := fun H0 σ H E Q k =>
  h H0 σ H E _ fun v H1 e1 z => ⟨rfl, k _ H1 e1 (by rw [show v = .non from z]; rfl)⟩
theorem ev_ifT {tt : TT} (h : EvT tt G true) (h1 : Ev q ta G b) : Ev q (tIf tt ta tb) G b := fun H0 σ H E Q k => h H0 σ H E _ fun H1 e1 =>
  iteT (h1 H0 σ H1 (E.grow e1) _ fun w H2 e2 z2 => k w H2 (e1.trans e2) z2)
end
section
variable {X : Cx} {k : Nat} {f C : Addr} {fd : FuncData} {ps : List Str} {sp : Sp} {x : Str} {p pos : Pos} {e : Expr} {es : List Expr} {t : TA} {W : WX}
theorem pe_mkISn (I : CalN X.prog X.w X.K X.mg X.base (L2.CX X.prog X.w) C k ps sp) (hm : X.mg x = some (.ref C)) (hr : Room (k + 1) X.A) (tk : Takes X W) (ha : PA X (e :: es) t) (hg : Gl X x := by rfl) (hdb : (x == ("__debug__" : Str)) = false := by decide)
    (he : starEach (e :: es) X.env = (false, eval e X.env) :: starEach es X.env := by rfl) (hpl : (backTo pos (starEach es X.env)).any (·.1) = false := by rfl) : PE X (.Call (.Name x p) (e :: es) [] pos) (tMakeS C sp (WE W) (tArgN t)) := by
  obtain ⟨f, fd, F, M, hb⟩ := I.ex
  refine ⟨fun pins s σ H Q I h => ?_⟩
  refine wpAny_Call_Name_kw (ld_glob I hg hm ?_ hdb)
  refine PySem.W.callWith_K (h₀ := X.base) I.ok.mod.kin M.kp (thn (ha.run pos pins s σ H _ I h) fun us s1 ⟨vs, H1, I1, r, q⟩ => ⟨I1.kIn, ?_⟩) he hpl
  have hq := q (s1.heap.objs.size + 1) s1.heap.objs.size (I1.hok.fresh (Nat.le_succ _)) (I1.hok.fresh (Nat.le_refl _)) (Nat.ne_of_lt (Nat.lt_succ_self _))
  have I2 := Inv.made (C := C) I1
  have r2 : Vals (V.ref (s1.heap.objs.size + 1) :: (vs ++ [.non])) (Value.ref (s1.heap.objs.size + 1) :: (us ++ [Value.none])) := .cons rfl (r.append (show Vals [V.non] [Value.none] from .cons rfl .nil))
  have hl : ((Value.ref (s1.heap.objs.size + 1) :: us) ++ [Value.none]).length = ps.length := by
    have e := r2.length
    rw [F.len _ _ _ _ hq] at e
    exact e.symm
  have b1 := hb _ (Value.ref (s1.heap.objs.size + 1) :: us) I2.kIn hl
  refine wpAny_call (make_map (f := f) I1.kIn M.makes M.init (beq_iff_eq.mp M.fn) (codeAny_mono (F.run _ X.stack _ _ ⟨Value.ref (s1.heap.objs.size + 1) :: us, []⟩ (Value.ref (s1.heap.objs.size + 1) :: (us ++ [Value.none])) _ _ (WE W σ) (hr.make C us [])
    (I2.env0.make C us []) b1 r2 hq) fun r s' hq' => ?_))
  cases r with
  | error e => exact passAt tk σ pins _ _ e s' I2 hq'
  | ok fl =>
    cases fl with
    | ret u =>
      obtain ⟨v, H', I3, rv, ev, q3⟩ := I2.after hq'
      subst ev
      exact ⟨rv, ⟨V.ref (s1.heap.objs.size + 1), H', I3, rfl, q3⟩⟩
    | next => exact False.elim hq'
    | brk => exact False.elim hq'
    | cont => exact False.elim hq'
end
/-- an __init__ whose one default is None -/
structure DfEN (K : PySem.W.Frag) (C : Addr) (q : Str) (st : Stmt) : Prop where
  ex : ∃ (f T : Addr) (oc : Value) (od : Option Addr) (kV doc pm : Value) (an : Option Addr) (cdv ct : Value) (osl : Array (Option Value)) (oT : Obj) (n : Nat),
    K.lookup f = some ⟨oc, od, .func (PySem.W.fnOf "__init__" q (defArgs st) (defBody st) (defScope st) (.ref T) kV doc pm an cdv ct), osl⟩ ∧ PySem.W.codeIn K cdv q = true ∧ K.lookup T = some oT ∧ oT.data = .seq #[.none] n ∧
    PySem.W.keepIn K (.ref f) = true ∧ PySem.W.findIn K (.ref C) "__init__" = some (some (.ref f)) ∧ PySem.W.isFn K (.ref f) = true
section
variable {P : Program} {w : World} {K : PySem.W.Frag} {mg : Str → Option Value} {base : Heap} {q c : Str} {st : Stmt} {m k : Nat} {ps N : List Str} {sp : Sp}
theorem calN_of {p1 p2 p3 : Str} (T : ClsF K mg c) (F : DfEN K (cA K c) q st) (S : FnScope N [p1, p2, p3] (defScope st)) (len : ∀ vs H Q E, sp vs H Q E → vs.length = ([p1, p2, p3] : List Str).length)
    (bD : ∀ (T : Addr) (kV doc pm : Value) (an : Option Addr) (cdv ct u u' v : Value), ∃ k, bindArgs (PySem.W.fnOf "__init__" q (defArgs st) (defBody st) (defScope st) (.ref T) kV doc pm an cdv ct) ⟨[u, u'], []⟩ = seqItems? (.ref T) >>= k ∧ k (some #[v]) = pure ([p1, p2, p3].zip [u, u', v]))
    (hbody : ∀ (cdv : Value) (f : Addr) (A : Around) (outer : List PySem.Env) (s : Shared) (H : Hp) (vs : List V) (Q : VK) (E : XK), Room k (A.deeper (envOfC q (defScope st) s.heap.objs.size f cdv)) → sp vs H Q E →
      ∃ t, PSs (cxOf (L2.CX P w) P w K mg base N q (defScope st) f cdv A outer s H E) (defBody st) t ∧ t { nx := fun _ H' => Q .non H', rt := Q } (start N vs) H) : CalN P w K mg base (L2.CX P w) (cA K c) (k + 1) [p1, p2, p3] sp := by
  obtain ⟨f, T0, oc, od, kV, doc, pm, an, cdv, ct, osl, oT, n, lk, hc, lT, dT, kp, h1, h2⟩ := F.ex
  have F2 : FunE K "__init__" q st 1 f (PySem.W.fnOf "__init__" q (defArgs st) (defBody st) (defScope st) (.ref T0) kV doc pm an cdv ct) := ⟨⟨_, _, _, _, _, _, _, _, _, _, rfl, lk, hc, .inr ⟨T0, oT, [.none], n, rfl, lT, dT, rfl, by decide⟩⟩, kp⟩
  refine ⟨f, _, F2.ok S len fun cdv A outer s H vs Q E hr h => hbody cdv f A outer s H vs Q E hr h, ⟨T.makes, h1, h2, T.kp⟩, ?_⟩
  intro s us X hlen
  have hl1 : us.length = 2 := by
    rw [List.length_append] at hlen
    have hlen : us.length + 1 = 3 := hlen
    omega
  match us, hl1 with
  | [u, u'], _ =>
    obtain ⟨k, e1, e2⟩ := bD T0 kV doc pm an cdv ct u u' .none
    refine BindsTo.of_looks fun M => ?_
    rw [e1]
    exact looks_items X lT dT (.of_pure e2)
end
/-! ### try with two clauses -/
section
variable {K : PySem.W.Frag} {α β γ : Type} {H0 : Hp} {G : Cells K} {D : Ends} {u : TS}
def mtry2 (m : M α) (c1 c2 : Str) (f : α → M β) (g1 g2 : List (Str × Pay) → M β) : M β := match m with
  | .ok a => f a
  | .error .stuck => .error .stuck
  | .error (.ex x fs) => if x = c1 then g1 fs else if x = c2 then g2 fs else .error .stuck
theorem mtry2_ns {m : M α} {c1 c2 : Str} {f : α → M β} {g1 g2 : List (Str × Pay) → M β} {o : M β} (h : mtry2 m c1 c2 f g1 g2 = o) (n : NStk o) : NStk m := fun e => by rw [e] at h; exact n h.symm
theorem mtry2_to {m : M α} {c1 c2 : Str} {f : α → M β} {g1 g2 : List (Str × Pay) → M β} {o : M β} {a : α} (h : mtry2 m c1 c2 f g1 g2 = o) (e : m = .ok a) : f a = o := by rw [e] at h; exact h
theorem mtry2_cl {m : M α} {c1 c2 : Str} {f : α → M β} {g1 g2 : List (Str × Pay) → M β} {o : M β} {x : Str} {fs : List (Str × Pay)} (h : mtry2 m c1 c2 f g1 g2 = o) (n : NStk o) (e : m = .error (.ex x fs)) : x = c1 ∧ g1 fs = o ∨ x ≠ c1 ∧ x = c2 ∧ g2 fs = o := by
  rw [e] at h
  have h : (if x = c1 then g1 fs else if x = c2 then g2 fs else .error .stuck) = o := h
  by_cases q : x = c1
  · rw [if_pos q] at h; exact .inl ⟨q, h⟩
  · rw [if_neg q] at h
    by_cases q2 : x = c2
    · rw [if_pos q2] at h; exact .inr ⟨q, q2, h⟩
    · rw [if_neg q2] at h; exact absurd h.symm n
theorem wok_two {i j : Nat} {x1 x2 : Str} {ts1 ts2 : Addr → Value → Option Addr → TS} {Wout : WX} {m : M α} {f : α → M β} {g1 g2 : List (Str × Pay) → M β} {o : M β} (h : mtry2 m x1 x2 f g1 g2 = o) (n : NStk o)
    (cl1 : PySem.W.exmOne K (.ref (cA K x1)) (.ref (cA K x1)) = some true) (cl2 : PySem.W.exmOne K (.ref (cA K x2)) (.ref (cA K x2)) = some true) (no : XNo K x2 x1)
    (k1 : ∀ fs, g1 fs = o → ∀ H2 a d, Same H0 H2 → Sv H2 (G.set i (rc (rExc K a d) fs)) (ts1 a (.ref (cA K x1)) (some d)) (exEnds i D))
    (k2 : ∀ fs, g2 fs = o → ∀ H2 a d, Same H0 H2 → Sv H2 (G.set j (rc (rExc K a d) fs)) (ts2 a (.ref (cA K x2)) (some d)) (exEnds j D)) :
    WOk H0 G (wMas K Wout D [(.ref (cA K x1), i, ts1), (.ref (cA K x2), j, ts2)]) m := by
  refine ⟨mtry2_ns h n, fun y fs e σ H H' hv s d nd z => ?_⟩
  rcases mtry2_cl h n e with ⟨q, hg⟩ | ⟨_, q, hg⟩
  · subst q
    refine ⟨true, cl1, fun _ a _ => ?_, fun q => nomatch q⟩
    obtain ⟨H2, s2, hv2⟩ := catch_in (i := i) (a := a) hv s nd z
    exact k1 fs hg H2 a d s2 _ _ hv2
  · subst q
    refine ⟨false, no, (fun q => nomatch q), fun _ => ⟨true, cl2, fun _ a _ => ?_, fun q => nomatch q⟩⟩
    obtain ⟨H2, s2, hv2⟩ := catch_in (i := j) (a := a) hv s nd z
    exact k2 fs hg H2 a d s2 _ _ hv2
/-- try: an expression, alone -/
theorem q_tryDrop {R : Rs K γ} {l : List (Value × Nat × (Addr → Value → Option Addr → TS))} {Wout : WX} {tb : WX → TE} {o : M γ} (h : EvE H0 R (tb (wMas K Wout { D with nx := u D } l)) G o) (k : ∀ b, o = .ok b → Sv H0 G u D) :
    Sv H0 G (tSeq (fun D σ H => tDrop (tb (wMas K Wout D l)) D σ H) u) D := fun σ H hv =>
  h σ H hv _ fun b hb v H' as s hn hr => k b hb _ _ (let ⟨H1, e1, E⟩ := hv; ⟨H1, e1, E.grow s⟩)
/-- an expression statement that may raise, in a def that may raise -/
theorem l_drpE {R : Rs K γ} {te : TE} {o : M γ} (h : EvE H0 R te G o) (k : ∀ b, o = .ok b → Nx H0 G D.nx) : Sv H0 G (tDrop te) D := fun σ H hv =>
  h σ H hv _ fun b hb v H' as s hn hr => k b hb _ _ (let ⟨H1, e1, E⟩ := hv; ⟨H1, e1, E.grow s⟩)
theorem q_drpE {R : Rs K γ} {te : TE} {o : M γ} (h : EvE H0 R te G o) (k : ∀ b, o = .ok b → Sv H0 G u D) : Sv H0 G (tSeq (tDrop te) u) D := l_drpE (D := { D with nx := u D }) h k
end
end Gt
/-! Gt37: fields that are lists and dicts, read. -/
namespace Gt
open PySem PySem.Spec PyProof.Rows L2
section
variable {K : PySem.W.Frag} {α β γ : Type} {r : Rp α}
instance bor_nl : Bor K (nl K r) (rL r) := ⟨fun ⟨p, vs, _, ev, hp, z⟩ => ⟨p, vs, ev, hp, z.imp fun _ _ w => w.now⟩⟩
instance bor_nlA {p : Addr} : Bor K (nlA K r p) (rL r) := ⟨fun ⟨⟨p, vs, _, ev, hp, z⟩, _⟩ => ⟨p, vs, ev, hp, z.imp fun _ _ w => w.now⟩⟩
instance bor_nd : Bor K (nd K r) (rD r) := ⟨fun ⟨p, kvs, _, ev, hp, z⟩ => ⟨p, kvs, ev, .inl hp, z.imp fun _ _ w => ⟨w.1, w.2.now⟩⟩⟩
end
section
variable {K : PySem.W.Frag} {α β γ : Type} {H0 : Hp} {G : Cells K} {D : Ends} {u : TS} {t : TA}
/-- try: C(..), alone -/
theorem q_tryMk {C : Addr} {l : List (Value × Nat × (Addr → Value → Option Addr → TS))} {Wout : WX} {F : RF K β} {A : Ra α} {a : α} {m : α → M β} {o : M β} (hA : EvA A t G a) (M : MonoA A) (e : m a = o) (w : WOk H0 G (wMas K Wout { D with nx := u D } l) o)
    (k : ∀ b, o = .ok b → Sv H0 G u D) : Sv H0 G (tSeq (fun D σ H => tDrop (tMakeS C (spInit K C F A m) (WE (wMas K Wout D l)) t) D σ H) u) D := fun σ H hv =>
  ee_makeI (F := F) hA M e w σ H hv (fun _ H' => u D σ H') fun b hb v H' as s hn hr => k b hb _ _ (let ⟨H1, e1, E⟩ := hv; ⟨H1, e1, E.grow s⟩)
end
section
variable {K : PySem.W.Frag} {α β : Type} {G : Cells K} {r : Rp α} {ta tb : TE}
/-- on the ground: a list and another -/
theorem rg_cat {xs ys : List α} [M : Mono r] (h : Rg (rL r) ta G xs) (h' : Rg (rL r) tb G ys) (hz : xs.length + ys.length ≤ 100000) : Rg (rL r) (tOp rCat ta tb) G (xs ++ ys) := fun H1 σ H E Q c =>
  h H1 σ H E _ fun v Ha e g => h' H1 σ Ha (E.grow e) _ fun w Hb e' g' => by
    obtain ⟨p, vs, ev, hp, z⟩ := g Ha (.self E.old e)
    obtain ⟨p', vs', ev', hp', z'⟩ := g' Hb (.self (E.grow e).old e')
    refine ⟨p, p', vs, vs', ev, ev', e' _ _ hp, hp', by rw [z.len, z'.len]; exact sz hz, fun l hl => c _ _ ((e.trans e').trans (same_new hl)) fun H2 g2 => ?_⟩
    obtain ⟨H3, g3, s3⟩ := Gnd.cut E.old e (e'.trans (same_new hl)) g2
    obtain ⟨H4, g4, s4⟩ := Gnd.cut E.old (e.trans e') (same_new hl) g2
    obtain ⟨q, us, eq, hq, zq⟩ := g H3 g3
    obtain ⟨q', us', eq', hq', zq'⟩ := g' H4 ⟨g4.low, g4.up, fun b o hn ho => g4.new b o (free_back e hn) ho, g4.ext⟩
    rw [ev] at eq
    cases eq
    rw [ev'] at eq'
    cases eq'
    have e1 := g3.up _ _ hq
    rw [hp] at e1
    cases e1
    have e2 := g4.up _ _ hq'
    rw [hp'] at e2
    cases e2
    exact ⟨l, _, rfl, g2.new l _ (free_back (e.trans e') hl) upd_same, A2.app (zq'.imp fun _ _ w => M.up s4 w) (zq.imp fun _ _ w => M.up s3 w)⟩
end
end Gt
/-! Gt38: text < text. -/
namespace Gt
open PySem PySem.Spec PyProof.Rows L2
def ltS (a b : Str) : Bool := decide (a.cps.toList < b.cps.toList)
section
variable {K : PySem.W.Frag} {G : Cells K} {ta tb : TE} {a b : Str}
theorem a_ltS (h : Ev rS ta G a) (h' : Ev rS tb G b) : Ev rB (tOp (fun x y H Q => ∃ i j, x = .str i ∧ y = .str j ∧ Q (.bl (decide (i.cps.toList < j.cps.toList))) H) ta tb) G (ltS a b) := fun H0 σ H E Q k =>
  h H0 σ H E _ fun v H1 e1 z => h' H0 σ H1 (E.grow e1) _ fun w H2 e2 z2 => ⟨a, b, z.1, z2.1, k _ H2 (e1.trans e2) rfl⟩
end
end Gt
/-! Gt39: methods that may raise; a dict that was handed is walked. -/
namespace Gt
open PySem PySem.Spec PyProof.Rows L2
/-! ### methods that may raise -/
def tMethS (C : Addr) (m : Str) (sp : Sp) (E : L2.St → XK) (ta : TE) (t : TA) : TE := fun σ H Q => ta σ H fun x H1 => ∃ a dx fs, x = .ref a ∧ H1 a = some (.ins C dx fs) ∧ fs.lookup m = none ∧ t σ H1 fun vs H2 => sp (x :: vs) H2 Q (E σ)
section
variable {X : Cx} {C : Addr} {k : Nat} {ps : List Str} {sp : Sp} {W : WX} {m : Str} {o e : Expr} {es : List Expr} {ta : TE} {t : TA} {pos apos : Pos}
theorem pe_mthS (ho : PE X o ta) (c : Cls X.K C) (M : CalM X.prog X.w X.K X.mg X.base (L2.CX X.prog X.w) C m k ps sp) (hr : Room k X.A) (tk : Takes X W) (ha : PA X (e :: es) t) {pl : Sem Bool}
    (hst : starEach (e :: es) X.env = (false, eval e X.env) :: starEach es X.env := by rfl) (hpl : (backTo pos (starEach es X.env)).any (·.1) = false := by rfl)
    (ht : eval (.Call (.Attribute o m apos) (e :: es) [] pos) X.env = (do
      let ov ← eval o X.env
      standAt apos.atName
      let (f, first) ← holding [ov] (getMethod ov m pl)
      callWith pos f first (backTo pos (starEach (e :: es) X.env)) (backToKw pos (keywordEach [] X.env))) := by rfl) : PE X (.Call (.Attribute o m apos) (e :: es) [] pos) (tMethS C m sp (WE W) ta t) := by
  obtain ⟨f, fd, F, hm, b⟩ := M.ex
  refine ⟨fun pins s σ H Q I h => ?_⟩
  refine PySem.W.methodCall_KW (pl := pl) (thn (ho.run pins s σ H _ I h) fun u s1 ⟨x, H1, I1, rx, a, dx, fs, ex, ea, l, q⟩ => ?_) ht
  subst ex
  obtain rfl : u = Value.ref a := rx
  refine getmeth_ok I1 ea c hm l ?_
  refine PySem.W.callWith_K (first := [.ref a]) (h₀ := X.base) I.ok.mod.kin hm.kp (thn (ha.run pos pins s1 σ H1 _ I1 q) fun us s2 ⟨vs, H2, I2, r, q2⟩ => ⟨I2.kIn, ?_⟩) hst hpl
  exact run_fnS (E := WE W) (us := .ref a :: us) (vs := .ref a :: vs) F hr b (passAt tk σ) I2 (.cons rfl r) q2
end
section
variable {P : Program} {w : World} {K : PySem.W.Frag} {mg : Str → Option Value} {base : Heap} {q x : Str} {C : Addr} {st : Stmt} {m k : Nat} {ps N : List Str} {sp : Sp}
theorem calMX_of (F : DfE K C x q st m) (S : FnScope N ps (defScope st)) (len : ∀ vs H Q E, sp vs H Q E → vs.length = ps.length) (b : BindE x q st ps m)
    (hbody : ∀ (cdv : Value) (f : Addr) (A : Around) (outer : List PySem.Env) (s : Shared) (H : Hp) (vs : List V) (Q : VK) (E : XK), Room k (A.deeper (envOfC q (defScope st) s.heap.objs.size f cdv)) → sp vs H Q E →
      ∃ t, PSs (cxOf (L2.CX P w) P w K mg base N q (defScope st) f cdv A outer s H E) (defBody st) t ∧ t { nx := fun _ H' => Q .non H', rt := Q } (start N vs) H) : CalM P w K mg base (L2.CX P w) C x (k + 1) ps sp := by
  obtain ⟨f, fd, F, h1, h2⟩ := F.ex
  exact ⟨f, fd, F.ok S len fun cdv A outer s H vs Q E hr h => hbody cdv f A outer s H vs Q E hr h, ⟨h1, h2, F.kp⟩, F.binds b⟩
end
section
variable {K : PySem.W.Frag} {α β γ δ ρ : Type} {H0 H1 H2 H H' : Hp} {σ : L2.St} {G G' : Cells K} {r : Rp α} {q : Rp γ} {D : Ends} {u : TS} {te ta : TE} {t : TA} {R : Rs K ρ}
theorem ee_mthS {C : Addr} {names : List Str} {mt : Str} {x : α} {A : Ra β} {b : β} {m : α × β → M γ} {W : WX} {o : M γ} (h : Ev r ta G x) (M : Mono r) (I : InsR K C r names) (hn : mt ∉ names) (hA : EvA A t G b) (e : m (x, b) = o) (w : WOk H0 G W o) [F : Frz K q] :
    EvE H0 (fz K q) (tMethS C mt (spX (K := K) (aC r A) q m) (WE W) ta t) G o := fun σ H ⟨H1, e1, E⟩ Q k => h H1 σ H E _ fun v H2 e2 hv => by
  obtain ⟨a, dx, fs, ea, ha, hm⟩ := I.ins hv
  refine ⟨a, dx, fs, ea, ha, lookup_no hm hn, hA H1 σ H2 (E.grow e2) _ fun vs H3 e3 hvs => ?_⟩
  exact ⟨(x, b), ⟨v, vs, rfl, M.up e3 hv, hvs⟩, by rw [e]; exact w.1, fun c hc w' H4 e4 hw => k c (e ▸ hc) w' H4 [] ((e2.trans e3).trans e4) (fun _ z => nomatch z) ⟨rfl, stb hw⟩,
    fun y fs' he d H4 e4 hd hx => w.2 y fs' (e ▸ he) σ H3 H4 ⟨H1, e1, (E.grow e2).grow e3⟩ e4 d hd hx⟩
theorem ee_mthSN {C : Addr} {names : List Str} {mt : Str} {x : α} {A : Ra β} {b : β} {m : α × β → M ρ} {W : WX} {o : M ρ} (h : Ev r ta G x) (M : Mono r) (I : InsR K C r names) (hn : mt ∉ names) (hA : EvA A t G b) (e : m (x, b) = o) (w : WOk H0 G W o) :
    EvE H0 R (tMethS C mt (spXN (aC r A) R m) (WE W) ta t) G o := fun σ H ⟨H1, e1, E⟩ Q k => h H1 σ H E _ fun v H2 e2 hv => by
  obtain ⟨a, dx, fs, ea, ha, hm⟩ := I.ins hv
  refine ⟨a, dx, fs, ea, ha, lookup_no hm hn, hA H1 σ H2 (E.grow e2) _ fun vs H3 e3 hvs => ?_⟩
  exact ⟨(x, b), ⟨v, vs, rfl, M.up e3 hv, hvs⟩, by rw [e]; exact w.1, fun c hc w' H4 as e4 hf hw => k c (e ▸ hc) w' H4 as ((e2.trans e3).trans e4) (fun p hp => free_back (e2.trans e3) (hf p hp)) hw,
    fun y fs' he d H4 e4 hd hx => w.2 y fs' (e ▸ he) σ H3 H4 ⟨H1, e1, (E.grow e2).grow e3⟩ e4 d hd hx⟩
/-- .. where nothing may leave -/
theorem ev_mthX {C : Addr} {names : List Str} {mt : Str} {x : α} {A : Ra β} {b : β} {m : α × β → M γ} {E' : L2.St → XK} {c : γ} (h : Ev r ta G x) (M : Mono r) (I : InsR K C r names) (hn : mt ∉ names) (hA : EvA A t G b) (e : MOk m (x, b) c) :
    Ev q (tMethS C mt (spX (K := K) (aC r A) q m) E' ta t) G c := fun H0 σ H E Q k => h H0 σ H E _ fun v H2 e2 hv => by
  obtain ⟨a, dx, fs, ea, ha, hm⟩ := I.ins hv
  have e : m (x, b) = .ok c := e
  refine ⟨a, dx, fs, ea, ha, lookup_no hm hn, hA H0 σ H2 (E.grow e2) _ fun vs H3 e3 hvs => ?_⟩
  exact ⟨(x, b), ⟨v, vs, rfl, M.up e3 hv, hvs⟩, nstk_ok e, fun c' hc w' H4 e4 hw => k w' H4 ((e2.trans e3).trans e4) (by rw [e] at hc; cases hc; exact hw), fun y fs' he => by rw [e] at he; cases he⟩
theorem nw_mthX {C : Addr} {names : List Str} {mt : Str} {x : α} {A : Ra β} {b : β} {m : α × β → M ρ} {E' : L2.St → XK} {c : ρ} (h : Ev r ta G x) (M : Mono r) (I : InsR K C r names) (hn : mt ∉ names) (hA : EvA A t G b) (e : MOk m (x, b) c) :
    Nw R (tMethS C mt (spXN (aC r A) R m) E' ta t) G c := fun H0 σ H E Q k => h H0 σ H E _ fun v H2 e2 hv => by
  obtain ⟨a, dx, fs, ea, ha, hm⟩ := I.ins hv
  have e : m (x, b) = .ok c := e
  refine ⟨a, dx, fs, ea, ha, lookup_no hm hn, hA H0 σ H2 (E.grow e2) _ fun vs H3 e3 hvs => ?_⟩
  exact ⟨(x, b), ⟨v, vs, rfl, M.up e3 hv, hvs⟩, nstk_ok e, fun c' hc w' H4 as e4 hf hw => k w' H4 as ((e2.trans e3).trans e4) (fun p hp => free_back (e2.trans e3) (hf p hp)) (by rw [e] at hc; cases hc; exact hw), fun y fs' he => by rw [e] at he; cases he⟩
/-- return of an expression that may raise -/
theorem r_retE {o : M ρ} (h : EvE H0 R te G o) (hD : ∀ b, o = .ok b → RtOk R H0 b D) : Sv H0 G (tRet te) D := fun σ H ⟨H1, e1, E⟩ =>
  h σ H ⟨H1, e1, E⟩ _ fun b hb v H' as s hn hr => hD b hb v H' ⟨as, (e1.trans E.old).trans s, fun p hp => free_back (e1.trans E.old) (hn p hp), hr⟩
/-- try: e, an expression of which tb tells how it hangs on what it lets out, its value dropped -/
theorem q_tryEd {j : Nat} {c : Value} {ts : Addr → Value → Option Addr → TS} {Wout : WX} {tb : WX → TE} {o : M ρ} (h : EvE H0 R (tb (wAs K c j ts Wout { D with nx := u D })) G o) (k : ∀ b, o = .ok b → Sv H0 G u D) :
    Sv H0 G (tSeq (fun D σ H => tDrop (tb (wAs K c j ts Wout D)) D σ H) u) D := l_drpE (D := { D with nx := u D }) h k
theorem l_tryEd {j : Nat} {c : Value} {ts : Addr → Value → Option Addr → TS} {Wout : WX} {tb : WX → TE} {o : M ρ} (h : EvE H0 R (tb (wAs K c j ts Wout D)) G o) (k : ∀ b, o = .ok b → Nx H0 G D.nx) :
    Sv H0 G (fun D σ H => tDrop (tb (wAs K c j ts Wout D)) D σ H) D := l_drpE h k
end
/-! ### a dict that was handed is walked -/
/-- a dict that is locked, or unlocked, and nothing else -/
def Tgl (H H' : Hp) : Prop := ∃ p od kvs, (H p = some (.dK kvs) ∧ H' = upd H p (.frz od (.dK kvs))) ∨ (H p = some (.frz od (.dK kvs)) ∧ H' = upd H p (.dK kvs))
theorem tgl_at {H H' : Hp} (t : Tgl H H') {a : Addr} {o : HO} (h : H a = some o) (n : ∀ kvs, o ≠ .dK kvs) (n2 : ∀ od kvs, o ≠ .frz od (.dK kvs)) : H' a = some o := by
  obtain ⟨p, od, kvs, ⟨hp, e⟩ | ⟨hp, e⟩⟩ := t
  · have ne : a ≠ p := fun z => by rw [z, hp] at h; exact n kvs (Option.some.inj h).symm
    rw [e, upd_ne ne]; exact h
  · have ne : a ≠ p := fun z => by rw [z, hp] at h; exact n2 od kvs (Option.some.inj h).symm
    rw [e, upd_ne ne]; exact h
theorem tgl_ext {K : PySem.W.Frag} {H H' : Hp} (t : Tgl H H') : ExT K H H' := fun a xs q => by
  rcases q with (q | ⟨o', q⟩) | q
  · exact .inl (.inl (tgl_at t q (fun _ z => nomatch z) fun _ _ z => nomatch z))
  · exact .inl (.inr ⟨o', tgl_at t q (fun _ z => nomatch z) fun _ _ z => nomatch z⟩)
  · exact .inr q
theorem tgl_rd {H H' : Hp} (t : Tgl H H') {a : Addr} {kvs : List (Key × V)} (h : L2.Rd H a (.dK kvs)) : L2.Rd H' a (.dK kvs) := by
  obtain ⟨p, od, kv, ⟨hp, e⟩ | ⟨hp, e⟩⟩ := t
  · by_cases z : a = p
    · subst z
      rcases h with h | ⟨o, h⟩
      · rw [hp] at h; cases h
        exact .inr ⟨od, by rw [e, upd_same]⟩
      · rw [hp] at h; cases h
    · rcases h with h | ⟨o, h⟩
      · exact .inl (by rw [e, upd_ne z]; exact h)
      · exact .inr ⟨o, by rw [e, upd_ne z]; exact h⟩
  · by_cases z : a = p
    · subst z
      rcases h with h | ⟨o, h⟩
      · rw [hp] at h; cases h
      · rw [hp] at h; cases h
        exact .inl (by rw [e, upd_same])
    · rcases h with h | ⟨o, h⟩
      · exact .inl (by rw [e, upd_ne z]; exact h)
      · exact .inr ⟨o, by rw [e, upd_ne z]; exact h⟩
class Ulk {β : Type} (r : Rp β) : Prop where
  up : ∀ {H H' : Hp} {v : V} {b : β}, Tgl H H' → r H v b → r H' v b
section
variable {K : PySem.W.Frag} {α β : Type}
instance : Ulk rI := ⟨fun _ h => h⟩
instance : Ulk rB := ⟨fun _ h => h⟩
instance : Ulk rS := ⟨fun _ h => h⟩
instance : Ulk rN := ⟨fun _ h => h⟩
instance : Ulk rV := ⟨fun _ h => h⟩
instance {r : Rp β} [M : Ulk r] : Ulk (rO r) := ⟨fun {_ _ _ b} e h => match b, h with
  | .none, h => h
  | .some _, h => M.up (v := _) e h⟩
instance {r : Rp β} [M : Ulk r] : Ulk (rT K r) := ⟨fun e ⟨a, vs, ev, h, q⟩ => ⟨a, vs, ev, tgl_ext e _ _ h, q.imp fun _ _ z => M.up e z⟩⟩
instance {r : Rp α} {q : Rp β} [M : Ulk r] [N : Ulk q] : Ulk (rP K r q) := ⟨fun e ⟨a, x, y, ev, h, h1, h2⟩ => ⟨a, x, y, ev, tgl_ext e _ _ h, M.up e h1, N.up e h2⟩⟩
instance {r : Rp β} [M : Ulk r] : Ulk (rL r) := ⟨fun e ⟨a, vs, ev, h, q⟩ => ⟨a, vs, ev, tgl_at e h (fun _ z => nomatch z) (fun _ _ z => nomatch z), q.imp fun _ _ z => M.up e z⟩⟩
instance {r : Rp β} [M : Ulk r] : Ulk (rD r) := ⟨fun e ⟨a, kvs, ev, h, q⟩ => ⟨a, kvs, ev, tgl_rd e h, q.imp fun _ _ z => ⟨z.1, M.up e z.2⟩⟩⟩
end
/-- a dict that is handed, and not locked -/
def rDp {α : Type} (r : Rp α) : Rp (List (Str × α)) := fun H v xs => ∃ a kvs, v = .ref a ∧ H a = some (.dK kvs) ∧ A2 (Kv (r H)) kvs xs
/-- .. locked, at a -/
def rLkA {α : Type} (r : Rp α) (a : Addr) : Rp (List (Str × α)) := fun H v xs => ∃ od kvs, v = .ref a ∧ H a = some (.frz od (.dK kvs)) ∧ A2 (Kv (r H)) kvs xs
inductive LkG {K : PySem.W.Frag} : Cells K → Prop
  | nil : LkG []
  | non {G : Cells K} : LkG G → LkG (none :: G)
  | ow {G : Cells K} {β : Type} {R : Rs K β} {b : β} : LkG G → LkG (some (.ow R b) :: G)
  | ro {G : Cells K} {β : Type} {r : Rp β} {m : Mono r} {b : β} : Ulk r → LkG G → LkG (some (.ro r m b) :: G)
theorem LkG.at_ {K : PySem.W.Frag} {G : Cells K} (L : LkG G) : ∀ {j : Nat} {β : Type} {r : Rp β} {m : Mono r} {b : β}, G[j]? = some (some (.ro r m b)) → Ulk r := by
  induction L with
  | nil => intro j β r m b h; cases h
  | non _ ih => intro j β r m b h; cases j with
    | zero => cases h
    | succ j => exact ih (j := j) h
  | ow _ ih => intro j β r m b h; cases j with
    | zero => cases h
    | succ j => exact ih (j := j) h
  | ro U _ ih => intro j β r m b h; cases j with
    | zero => cases h; exact U
    | succ j => exact ih (j := j) h
section
variable {K : PySem.W.Frag} {α β γ : Type} {H0 H1 H2 H H' : Hp} {σ : L2.St} {G G' G2 : Cells K} {r : Rp α} {D : Ends} {u t : TS} {te : TE}
instance [M : Mono r] : Mono (rDp r) := ⟨fun e ⟨a, kvs, ev, h, q⟩ => ⟨a, kvs, ev, e _ _ h, q.imp fun _ _ z => ⟨z.1, M.up e z.2⟩⟩⟩
instance {a : Addr} [M : Mono r] : Mono (rLkA r a) := ⟨fun e ⟨od, kvs, ev, h, q⟩ => ⟨od, kvs, ev, e _ _ h, q.imp fun _ _ z => ⟨z.1, M.up e z.2⟩⟩⟩
theorem ev_dp {xs : List (Str × α)} (h : Ev (rDp r) te G xs) : Ev (rD r) te G xs := h.imp fun _ _ ⟨a, kvs, ev, h, q⟩ => ⟨a, kvs, ev, .inl h, q⟩
theorem ev_lkA {a : Addr} {xs : List (Str × α)} (h : Ev (rLkA r a) te G xs) : Ev (rD r) te G xs := h.imp fun _ _ ⟨od, kvs, ev, h, q⟩ => ⟨a, kvs, ev, .inr ⟨od, h⟩, q⟩
theorem ev_dp0 : Ev (rDp r) tDNewK G [] := fun H0 σ H E Q c p hp => c _ _ (same_new hp) ⟨p, [], rfl, upd_same, .nil⟩
theorem bor_ndp : Bor K (nd K r) (rDp r) := ⟨fun ⟨p, kvs, _, ev, hp, z⟩ => ⟨p, kvs, ev, hp, z.imp fun _ _ w => ⟨w.1, w.2.now⟩⟩⟩
theorem wk_keysA {i : Nat} {a : Addr} {M' : Mono (rLkA r a)} {xs : List (Str × α)} [M : Mono r] (h : G[i]? = some (some (.ro (rLkA r a) M' xs))) : Wk (iKeys (tVar i)) rS G G (xs.map (·.1)) := fun H1 σ H E R k => by
  obtain ⟨own, _, _, h3⟩ := E.at_
  obtain ⟨v, hv, _, o, kvs, e2, e3, e4⟩ := h3 i _ h
  exact ⟨v, hv, a, o, e2, .inl ⟨kvs, E.old _ _ e3, k _ H1 H (Same.refl _) (Same.refl _) E (wj_keys e3 e4)⟩⟩
/-- the environment when a dict of the base is locked or unlocked -/
theorem env_tgl {own : Nat → List Addr} {p : Addr} {o o' : HO} (EO : EnvO own H1 σ H G) (hp : H1 p = some o) (T : ∀ Hx : Hp, Hx p = some o → Tgl Hx (upd Hx p o')) (L : ∀ (j : Nat) {β : Type} {r : Rp β} {m : Mono r} {b : β}, G[j]? = some (some (.ro r m b)) → Ulk r) :
    EnvO own (upd H1 p o') σ (upd H p o') G := by
  have hpH := EO.old _ _ hp
  have np : ∀ j a, a ∈ own j → a ≠ p := fun j a ha z => by rw [z] at ha; rw [(EO.free j p ha).1] at hp; cases hp
  have t1 := T H1 hp
  have t2 := T H hpH
  refine ⟨fun b ob hb => ?_, EO.len, fun j a ha => ?_, EO.apart, fun j c hc => ?_⟩
  · by_cases z : b = p
    · rw [z, upd_same] at hb ⊢; exact hb
    · rw [upd_ne z] at hb ⊢; exact EO.old _ _ hb
  · rw [upd_ne (np j a ha), upd_ne (np j a ha)]
    exact EO.free j a ha
  · obtain ⟨v, hv, hk⟩ := EO.at_ j c hc
    refine ⟨v, hv, ?_⟩
    cases c with
    | ow R b => exact R.stay hk (tgl_ext t2) fun a ha ob hb => by rw [upd_ne (np j a ha)]; exact hb
    | ro r m b => exact ⟨hk.1, (L j hc).up t1 hk.2⟩
theorem l_lockD {i : Nat} {xs : List (Str × α)} {M1 M2 : Mono (rDp r)} [M : Mono r] [U : Ulk r] (hi : G[i]? = some (some (.ro (rDp r) M1 xs))) (L : LkG (G.set i none)) (hi2 : G2[i]? = some (some (.ro (rDp r) M2 xs))) (L2 : LkG (G2.set i none))
    (k : ∀ p H0' D', Nx H0' (G2.set i (rc (rLkA r p) xs)) D'.nx → Sv H0' (G.set i (rc (rLkA r p) xs)) t D') (kk : Nx H0 G2 D.nx) : Sv H0 G (tLock t) D := fun σ H ⟨H1, e1, E⟩ => by
  obtain ⟨own, EO⟩ := E.o
  obtain ⟨v, hv, hz, p, kvs, ev, hp, q⟩ := EO.at_ i _ hi
  subst ev
  have hpH := EO.old _ _ hp
  have il : i < G.length := (List.getElem?_eq_some_iff.mp hi).1
  refine ⟨p, _, hpH, trivial, fun od => ?_⟩
  have TL : ∀ Hx : Hp, Hx p = some (.dK kvs) → Tgl Hx (upd Hx p (.frz od (.dK kvs))) := fun Hx h => ⟨p, od, kvs, .inl ⟨h, rfl⟩⟩
  have TU : ∀ Hx : Hp, Hx p = some (.frz od (.dK kvs)) → Tgl Hx (upd Hx p (.dK kvs)) := fun Hx h => ⟨p, od, kvs, .inr ⟨h, rfl⟩⟩
  have other : ∀ {Gx : Cells K}, LkG (Gx.set i none) → ∀ (j : Nat), j ≠ i → ∀ {β : Type} {r : Rp β} {m : Mono r} {b : β}, Gx[j]? = some (some (.ro r m b)) → Ulk r := fun Lx j hj β r m b h => Lx.at_ (j := j) (by rw [List.getElem?_set_ne (Ne.symm hj)]; exact h)
  -- the slot's own cell is set to None for the change, then given anew
  have E0 : EnvO (fun j => if j = i then [] else own j) H1 σ H (G.set i none) := ⟨EO.old, by rw [List.length_set]; exact EO.len, fun j a ha => by
      by_cases h : j = i
      · simp only [h, if_true] at ha; cases ha
      · simp only [h, if_false] at ha; exact EO.free j a ha, fun j m a hj hk => by
      by_cases h : j = i
      · simp only [h, if_true] at hj; cases hj
      · by_cases h' : m = i
        · simp only [h', if_true] at hk; cases hk
        · simp only [h, h', if_false] at hj hk; exact EO.apart j m a hj hk, fun j c hc => by
      by_cases h : j = i
      · subst h; rw [List.getElem?_set_self il] at hc; cases hc
      · rw [List.getElem?_set_ne (Ne.symm h)] at hc
        simp only [h, if_false]
        exact EO.at_ j c hc⟩
  have E1 := env_tgl (o := .dK kvs) (o' := .frz od (.dK kvs)) E0 hp TL fun j {β r m b} h => by
    by_cases hj : j = i
    · subst hj; rw [List.getElem?_set_self il] at h; cases h
    · rw [List.getElem?_set_ne (Ne.symm hj)] at h; exact other L j hj h
  have EL : Env (upd H1 p (.frz od (.dK kvs))) σ (upd H p (.frz od (.dK kvs))) (G.set i (rc (rLkA r p) xs)) := by
    refine EnvO.e (own := fun j => if j = i then [] else own j) ⟨E1.old, by rw [List.length_set]; exact EO.len, E1.free, E1.apart, fun j c hc => ?_⟩
    by_cases h : j = i
    · subst h
      rw [List.getElem?_set_self il] at hc
      cases hc
      exact ⟨_, hv, by simp, od, kvs, rfl, upd_same, q.imp fun _ _ w => ⟨w.1, U.up (TL H1 hp) w.2⟩⟩
    · rw [List.getElem?_set_ne (Ne.symm h)] at hc
      exact E1.at_ j c (by rw [List.getElem?_set_ne (Ne.symm h)]; exact hc)
  refine k p (upd H1 p (.frz od (.dK kvs))) _ (fun σ' H' ⟨H1', e1', E'⟩ => ?_) σ _ ⟨_, Same.refl _, EL⟩
  have i2l : i < G2.length := (List.getElem?_eq_some_iff.mp hi2).1
  have hp1 : H1' p = some (.frz od (.dK kvs)) := e1' _ _ upd_same
  obtain ⟨own', EO'⟩ := E'.o
  have hpH' := EO'.old _ _ hp1
  refine ⟨hpH', kk σ' _ ⟨upd H1' p (.dK kvs), fun b ob hb => ?_, ?_⟩⟩
  · have hb1 := e1 _ _ hb
    by_cases z : b = p
    · subst z; rw [hp] at hb1; cases hb1; exact upd_same
    · rw [upd_ne z]; exact e1' _ _ (by rw [upd_ne z]; exact hb1)
  · obtain ⟨v', hv', hz', od', kvs', ev', hp', q'⟩ := EO'.at_ i _ (by rw [List.getElem?_set_self i2l])
    subst ev'
    rw [hp1] at hp'
    cases hp'
    have E0' : EnvO (fun j => if j = i then [] else own' j) H1' σ' H' (G2.set i none) := ⟨EO'.old, by have := EO'.len; rw [List.length_set] at this ⊢; exact this, fun j a ha => by
        by_cases h : j = i
        · simp only [h, if_true] at ha; cases ha
        · simp only [h, if_false] at ha; exact EO'.free j a ha, fun j m a hj hk => by
        by_cases h : j = i
        · simp only [h, if_true] at hj; cases hj
        · by_cases h' : m = i
          · simp only [h', if_true] at hk; cases hk
          · simp only [h, h', if_false] at hj hk; exact EO'.apart j m a hj hk, fun j c hc => by
        by_cases h : j = i
        · subst h; rw [List.getElem?_set_self i2l] at hc; cases hc
        · rw [List.getElem?_set_ne (Ne.symm h)] at hc
          simp only [h, if_false]
          exact EO'.at_ j c (by rw [List.getElem?_set_ne (Ne.symm h)]; exact hc)⟩
    have E2 := env_tgl (o := .frz od (.dK kvs)) (o' := .dK kvs) E0' hp1 TU fun j {β r m b} h => by
      by_cases hj : j = i
      · subst hj; rw [List.getElem?_set_self i2l] at h; cases h
      · rw [List.getElem?_set_ne (Ne.symm hj)] at h; exact other L2 j hj h
    refine EnvO.e (own := fun j => if j = i then [] else own' j) ⟨E2.old, by have := E2.len; rw [List.length_set] at this; exact this, E2.free, E2.apart, fun j c hc => ?_⟩
    by_cases h : j = i
    · subst h
      rw [hi2] at hc
      cases hc
      exact ⟨_, hv', by simp, p, kvs, rfl, upd_same, q'.imp fun _ _ w => ⟨w.1, U.up (TU H1' hp1) w.2⟩⟩
    · exact E2.at_ j c (by rw [List.getElem?_set_ne (Ne.symm h)]; exact hc)
theorem q_lockD {i : Nat} {xs : List (Str × α)} {M1 M2 : Mono (rDp r)} [M : Mono r] [U : Ulk r] (hi : G[i]? = some (some (.ro (rDp r) M1 xs))) (L : LkG (G.set i none)) (hi2 : G2[i]? = some (some (.ro (rDp r) M2 xs))) (L2 : LkG (G2.set i none))
    (k : ∀ p H0' D', Nx H0' (G2.set i (rc (rLkA r p) xs)) D'.nx → Sv H0' (G.set i (rc (rLkA r p) xs)) t D') (kk : Sv H0 G2 u D) : Sv H0 G (tSeq (tLock t) u) D := l_lockD (D := { D with nx := u D }) hi L hi2 L2 k kk
end
end Gt
/-! Gt40: None or a record handed; try: a method's call alone. -/
namespace Gt
open PySem PySem.Spec PyProof.Rows L2
section
variable {K : PySem.W.Frag} {α β γ δ ρ : Type} {H0 H1 H2 H H' : Hp} {σ : L2.St} {G G' : Cells K} {r : Rp α} {q : Rp γ} {D : Ends} {u : TS} {te ta : TE} {t : TA} {R : Rs K ρ}
instance {r : Rp α} : Seq K r (rEi K r) := ⟨fun ⟨p, vs, ev, hp, h⟩ => ⟨p, vs, ev, hp.imp SqL.of id, h⟩⟩
instance {C : Addr} {F : RF K α} : NotNon (rRec K C F) := ⟨fun ⟨_, _, _, _, _, e, _⟩ z => by rw [z] at e; cases e⟩
theorem ea_argNO {x : α} (h : EvA (aC r aN) t G (x, ())) : EvA (aC r (aC (rO q) aN)) (tArgN t) G (x, (none, ())) := fun H0 σ H E Q k =>
  h H0 σ H E _ fun vs H1 e1 ⟨v, ws, e, hv, hw⟩ => k _ H1 e1 ⟨v, [.non], by rw [e, hw]; rfl, hv, .non, [], rfl, rfl, rfl⟩
theorem a_roS {i : Nat} {m : Mono (rO r)} {o : Option α} {b : α} (h : G[i]? = some (some (.ro (rO r) m o))) (e : o = some b) : Ev r (tVar i) G b := fun H0 σ H E Q k => by
  obtain ⟨own, _, _, h3⟩ := E.at_
  obtain ⟨v, hv, _, hr⟩ := h3 i _ h
  subst e
  exact ⟨v, hv, k v H (Same.refl H) (m.up (b := some b) E.old hr)⟩
theorem q_tryMth {j : Nat} {C : Addr} {F : RF K α} {mt : Str} {c : Value} {ts : Addr → Value → Option Addr → TS} {Wout : WX} {x : α} {A : Ra β} {b : β} {m : α × β → M ρ} {o : M ρ} (h : Ev (rRec K C F) ta G x) (hn : mt ∉ F.names) (hA : EvA A t G b) (e : m (x, b) = o)
    (w : WOk H0 G (wAs K c j ts Wout { D with nx := u D }) o) (k : ∀ b, o = .ok b → Sv H0 G u D) :
    Sv H0 G (tSeq (fun D σ H => tDrop (tMethS C mt (spXN (aC (rRec K C F) A) R m) (WE (wAs K c j ts Wout D)) ta t) D σ H) u) D := l_drpE (D := { D with nx := u D }) (ee_mthSN h inferInstance rec_ins hn hA e w) k
end
end Gt
/-! Gt41: a base class's __init__, called by the class's name. -/
namespace Gt
open PySem PySem.Spec PyProof.Rows L2
/-- C.m, a def of the class at C, read off the class -/
structure CalF (P : Program) (w : World) (K : PySem.W.Frag) (mg : Str → Option Value) (base : Heap) (C : Addr) (m : Str) (k : Nat) (ps : List Str) (sp : Sp) : Prop where
  ex : ∃ (f : Addr) (fd : FuncData), FnOk P w K mg base (L2.CX P w) k f fd ps sp ∧ ClX.CRead K C (.type "type") ∧ PySem.W.findCls K (.ref C) (.type "type") m = some (.val (.ref f)) ∧ PySem.W.keepIn K (.ref f) = true ∧ L2.Binds K fd ps []
/-- .. the def of the text -/
structure DfF (K : PySem.W.Frag) (C : Addr) (x q : Str) (st : Stmt) : Prop where
  ex : ∃ (f : Addr) (fd : FuncData), FunE K x q st 0 f fd ∧ ClX.CRead K C (.type "type") ∧ PySem.W.findCls K (.ref C) (.type "type") x = some (.val (.ref f))
def tCFnS (C : Addr) (sp : Sp) (E : L2.St → XK) (ta : TE) (t : TA) : TE := fun σ H Q => ta σ H fun x H1 => x = .ref C ∧ t σ H1 fun vs H2 => sp vs H2 Q (E σ)
section
variable {X : Cx} {C : Addr} {k : Nat} {ps : List Str} {sp : Sp} {W : WX} {m : Str} {o e : Expr} {es : List Expr} {ta : TE} {t : TA} {pos apos : Pos}
theorem pe_cfnS (M : CalF X.prog X.w X.K X.mg X.base C m k ps sp) (hr : Room k X.A) (tk : Takes X W) (he : PE X o ta) (ha : PA X (e :: es) t) {pl : Sem Bool}
    (hst : starEach (e :: es) X.env = (false, eval e X.env) :: starEach es X.env := by rfl) (hpl : (backTo pos (starEach es X.env)).any (·.1) = false := by rfl)
    (ht : eval (.Call (.Attribute o m apos) (e :: es) [] pos) X.env = (do
      let ov ← eval o X.env
      standAt apos.atName
      let (f, first) ← holding [ov] (getMethod ov m pl)
      callWith pos f first (backTo pos (starEach (e :: es) X.env)) (backToKw pos (keywordEach [] X.env))) := by rfl) : PE X (.Call (.Attribute o m apos) (e :: es) [] pos) (tCFnS C sp (WE W) ta t) := by
  obtain ⟨f, fd, F, rd, at_, kp, b⟩ := M.ex
  refine ⟨fun pins s σ H Q I h => ?_⟩
  refine PySem.W.methodCall_KW (pl := pl) (thn (he.run pins s σ H _ I h) fun u s1 ⟨x, H1, I1, rx, ex, q⟩ => ?_) ht
  subst ex
  obtain rfl : u = Value.ref C := rx
  refine PySem.W.method_cls I1.kIn rd.ga (ClX.getcval_ok (v := .ref f) I1 rd ⟨at_, rfl⟩ fun s2 I2 => ?_)
  refine PySem.W.callWith_K (first := []) (h₀ := X.base) I.ok.mod.kin kp (thn (ha.run pos pins s2 σ H1 _ I2 q) fun us s3 ⟨vs, H2, I3, r, q2⟩ => ⟨I3.kIn, ?_⟩) hst hpl
  exact run_fnS (E := WE W) (us := us) (vs := vs) F hr b (passAt tk σ) I3 r q2
end
section
variable {P : Program} {w : World} {K : PySem.W.Frag} {mg : Str → Option Value} {base : Heap} {C : Addr} {x q : Str} {st : Stmt} {k : Nat} {ps N : List Str} {sp : Sp}
theorem calF_of (F : DfF K C x q st) (S : FnScope N ps (defScope st)) (len : ∀ vs H Q E, sp vs H Q E → vs.length = ps.length) (b : BindE x q st ps 0)
    (hbody : ∀ (cdv : Value) (f : Addr) (A : Around) (outer : List PySem.Env) (s : Shared) (H : Hp) (vs : List V) (Q : VK) (E : XK), Room k (A.deeper (envOfC q (defScope st) s.heap.objs.size f cdv)) → sp vs H Q E →
      ∃ t, PSs (cxOf (L2.CX P w) P w K mg base N q (defScope st) f cdv A outer s H E) (defBody st) t ∧ t { nx := fun _ H' => Q .non H', rt := Q } (start N vs) H) : CalF P w K mg base C x (k + 1) ps sp := by
  obtain ⟨f, fd, F, rd, at_⟩ := F.ex
  exact ⟨f, fd, F.ok S len fun cdv A outer s H vs Q E hr h => hbody cdv f A outer s H vs Q E hr h, rd, at_, F.kp, F.binds b⟩
end
section
variable {K : PySem.W.Frag} {α β γ ρ : Type} {H0 H1 H2 H H' : Hp} {σ : L2.St} {G G' : Cells K} {D : Ends} {u : TS} {te ta : TE} {t : TA} {r : Rp α}
/-- all fields are frozen -/
class FlF (F : RF K α) : Prop where
  fl : ∀ {H : Hp} {fs : List (Str × V)} {x : α} {as : List Addr}, F.rep H fs x as → as = []
instance : FlF (fN (K := K)) := ⟨fun ⟨_, e⟩ => e⟩
instance {F : RF K β} {f : Str} {r : Rp α} [L : FlF F] : FlF (fA F f (fz K r)) := ⟨fun ⟨gs, v, a1, a2, _, e, h1, h2⟩ => by rw [e, L.fl h1, h2.1]; rfl⟩
/-- what a base class's __init__ promises: self, whose fields F tells, gets further ones -/
def spGro (K : PySem.W.Frag) (C : Addr) (F : RF K α) (F' : RF K β) (A : Ra γ) (m : α → γ → M β) : Sp := fun vs H Q E => ∃ p dx fs ws x a, vs = .ref p :: ws ∧ H p = some (.ins C dx fs) ∧ F.rep H fs x [] ∧ A (dl H p) ws a ∧ NStk (m x a) ∧
  (∀ y, m x a = .ok y → ∀ H' dx' fs', Same (dl H p) H' → H' p = some (.ins C dx' fs') → F'.rep H' fs' y [] → Q .non H') ∧
  ∀ e, m x a = .error e → XOk K (dl H p) E e
theorem spGro_len {C : Addr} {F : RF K α} {F' : RF K β} {A : Ra γ} {m : α → γ → M β} {n : Nat} [L : LenA A n] {vs : List V} {Q : VK} {E : XK} (h : spGro K C F F' A m vs H Q E) : vs.length = n + 1 := by
  obtain ⟨p, dx, fs, ws, x, a, rfl, _, _, hA, _⟩ := h
  rw [List.length_cons, L.len hA]
theorem ext_dl {p : Addr} {o : HO} (hp : H p = some o) (n : ¬ isTup o) : ExT K H (dl H p) := fun a ys q => by
  have ne : ∀ o', H a = some o' → isTup o' → a ≠ p := fun o' ho t e => by
    rw [e, hp] at ho
    cases ho
    exact n t
  rcases q with (q | ⟨o', q⟩) | q
  · exact .inl (.inl (by rw [dl_ne (ne _ q trivial)]; exact q))
  · exact .inl (.inr ⟨o', by rw [dl_ne (ne _ q trivial)]; exact q⟩)
  · exact .inr q
/-- C0.__init__(self, ..) -/
theorem q_groC {i : Nat} {p C C0 : Addr} {F : RF K α} {F' : RF K β} {x : α} {A : Ra γ} {a : γ} {m : α → γ → M β} {W : WX} {o : M β} [L : FlF F] (hi : G[i]? = some (some (.ow (nGro K p C F) x))) (hc : Ev (rCls C0) ta G ()) (hA : ApA A t G i a) (e : m x a = o) (w : WOk H0 (G.set i none) W o)
    (kk : ∀ y, o = .ok y → Sv H0 (G.set i (some (.ow (nGro K p C F') y))) u D) : Sv H0 G (tSeq (tDrop (tCFnS C0 (spGro K C F F' A m) (WE W) ta (tCons (tVar i) t))) u) D := fun σ H ⟨H1, e1, E⟩ => by
  refine hc H1 σ H E _ fun v H2 e2 hv => ⟨hv, ?_⟩
  obtain ⟨own, EO⟩ := (E.grow e2).o
  obtain ⟨vp, hvp, dx, fs, bs, evp, ea, np, hp, hF⟩ := EO.at_ i _ hi
  subst evp
  have hbs : bs = [] := L.fl hF
  subst hbs
  have il : i < G.length := (List.getElem?_eq_some_iff.mp hi).1
  have pin : p ∈ own i := by rw [ea]; exact List.mem_singleton.mpr rfl
  have p1 : H1 p = none := (EO.free i p pin).1
  refine ⟨_, hvp, hA own H1 σ H2 EO _ fun vs H3 e3 hvs => ?_⟩
  have E3 := EO.grow e3
  have hp3 : H3 p = some (.ins C dx fs) := e3 _ _ hp
  have x3 : ExT K H3 (dl H3 p) := ext_dl hp3 fun z => z
  have npj : ∀ j q, j ≠ i → q ∈ own j → q ≠ p := fun j q hj hq z => hj (EO.apart j i q hq (by rw [z]; exact pin))
  have low1 : Same H1 (dl H3 p) := fun b ob hb => by
    rw [dl_ne fun z => by rw [z, p1] at hb; cases hb]
    exact E3.old _ _ hb
  refine ⟨p, dx, fs, vs, x, a, rfl, hp3, F.stay hF (ext_same e3) (fun q hq => nomatch hq), hvs p pin, by rw [e]; exact w.1, fun y hy H' dx' fs' s' hp' hF' => ?_, fun er he => ?_⟩
  · have xt : ExT K H3 H' := x3.trans (ext_same s')
    refine kk y (e ▸ hy) σ H' ⟨H1, e1, EnvO.e (own := own) ⟨low1.trans s', by rw [List.length_set]; exact E3.len, fun j q hq => ?_, E3.apart, fun j c hcj => ?_⟩⟩
    · by_cases h : j = i
      · subst h
        have hq' : q = p := by rw [ea] at hq; exact List.mem_singleton.mp hq
        subst hq'
        exact ⟨p1, _, hp', fun z => z⟩
      · obtain ⟨h1, ob, h2, h3⟩ := E3.free j q hq
        exact ⟨h1, ob, s' _ _ (by rw [dl_ne (npj j q h hq)]; exact h2), h3⟩
    · by_cases h : j = i
      · subst h
        rw [List.getElem?_set_self il] at hcj
        cases hcj
        exact ⟨_, hvp, dx', fs', [], rfl, ea, (fun z => nomatch z), hp', hF'⟩
      · rw [List.getElem?_set_ne (Ne.symm h)] at hcj
        obtain ⟨v', hv', hk'⟩ := E3.at_ j c hcj
        exact ⟨v', hv', cell_stay hk' xt fun q hq ob hob => s' _ _ (by rw [dl_ne (npj j q h hq)]; exact hob)⟩
  · have hv3 : Have H0 (G.set i none) σ (dl H3 p) := ⟨H1, e1, EnvO.e (own := fun j => if j = i then [] else own j) ⟨low1, by rw [List.length_set]; exact E3.len, fun j q hq => by
        by_cases h : j = i
        · simp only [h, if_true] at hq; cases hq
        · simp only [h, if_false] at hq
          obtain ⟨h1, ob, h2, h3⟩ := E3.free j q hq
          exact ⟨h1, ob, by rw [dl_ne (npj j q h hq)]; exact h2, h3⟩, fun j l q hj hk => by
        by_cases h : j = i
        · simp only [h, if_true] at hj; cases hj
        · by_cases h' : l = i
          · simp only [h', if_true] at hk; cases hk
          · simp only [h, h', if_false] at hj hk; exact E3.apart j l q hj hk, fun j c hcj => by
        by_cases h : j = i
        · subst h; rw [List.getElem?_set_self il] at hcj; cases hcj
        · rw [List.getElem?_set_ne (Ne.symm h)] at hcj
          simp only [h, if_false]
          obtain ⟨v', hv', hk'⟩ := E3.at_ j c hcj
          exact ⟨v', hv', cell_stay hk' x3 fun q hq ob hob => by rw [dl_ne (npj j q h hq)]; exact hob⟩⟩⟩
    cases er with
    | stuck => exact absurd (e ▸ he) w.1
    | ex c es => exact fun d H' s' hd hx => w.2 c es (e ▸ he) σ (dl H3 p) H' hv3 s' d hd hx
/-- its start -/
theorem Sv.runG {C p dx : Addr} {F : RF K α} {x : α} {fs : List (Str × V)} {σ : L2.St} {G : Cells K} {t : TS} (s : Sv (dl H p) (some (.ow (nGro K p C F) x) :: G) t D) (hp : H p = some (.ins C dx fs)) (hF : F.rep H fs x []) (w : Pw (dl H p) σ G) : t D (some (.ref p) :: σ) H := by
  have xt : ExT K H (dl H p) := ext_dl hp fun z => z
  refine s _ H ⟨dl H p, Same.refl _, dl_low, by rw [List.length_cons, List.length_cons, w.len], fun i => if i = 0 then [p] else [], fun i q hq => ?_, fun i j q hi hj => ?_, fun i c hc => ?_⟩
  · by_cases h : i = 0
    · simp only [h, if_true] at hq
      cases List.mem_singleton.mp hq
      exact ⟨dl_at, _, hp, fun z => z⟩
    · simp only [h, if_false] at hq
      cases hq
  · by_cases h : i = 0 <;> by_cases h' : j = 0
    · rw [h, h']
    · simp only [h', if_false] at hj; cases hj
    · simp only [h, if_false] at hi; cases hi
    · simp only [h, if_false] at hi; cases hi
  · cases i with
    | zero =>
      cases hc
      exact ⟨_, rfl, dx, fs, [], rfl, rfl, (fun z => nomatch z), hp, hF⟩
    | succ i =>
      obtain ⟨v, hv, hk⟩ := w.get (i := i) (by simpa using hc)
      refine ⟨v, by simpa using hv, ?_⟩
      show c.ok (dl H p) H v []
      cases c with
      | ow R b => exact R.stay hk (ext_same dl_low) fun q hq => nomatch hq
      | ro r m b => exact hk
/-- its end -/
theorem nx_gro {i : Nat} {p C : Addr} {F' : RF K β} {y : β} {P : Hp → Prop} [L : FlF F'] (hi : G[i]? = some (some (.ow (nGro K p C F') y))) (k : ∀ H' dx' fs', Same H0 H' → H' p = some (.ins C dx' fs') → F'.rep H' fs' y [] → P H') : Nx H0 G (fun _ H' => P H') := fun σ H ⟨H1, e1, E⟩ => by
  obtain ⟨own, EO⟩ := E.o
  obtain ⟨vp, _, dx, fs, bs, _, _, _, hp, hF⟩ := EO.at_ i _ hi
  have := L.fl hF
  subst this
  exact k H dx fs (e1.trans EO.old) hp hF
/-- a new list, where a list or a tuple is wished, apart from a slot -/
theorem ap_new {i : Nat} {xs : List α} [F : Frz K r] (h : Nw (nl K r) te G xs) : Ap (rEi K r) te G i xs := fun own H0 σ H E Q c =>
  h H0 σ H E.e _ fun v H' as e hn ⟨p, vs, ea, ev, hp, z⟩ => c v H' e fun q hq => by
    have hqH : ∃ o, H q = some o := let ⟨o, ho, _⟩ := (E.free i q hq).2; ⟨o, ho⟩
    have ne : p ≠ q := fun w => by
      obtain ⟨o, ho⟩ := hqH
      have := hn p (by rw [ea]; exact List.mem_singleton.mpr rfl)
      rw [w, ho] at this; cases this
    exact ⟨p, vs, ev, .inl (by rw [dl_ne ne]; exact hp), z.imp fun _ _ w => (w.up ((E.grow e).dlx hq)).now⟩
end
end Gt
/-! Gt42: dicts whose keys are tuples of ints, texts and None: their object is pinned (PDO); d[k], d[k] = v, k in d, for k in d. -/
namespace Gt
open PySem PySem.Spec PyProof.Rows L2
abbrev PKy := List (Option Key)
abbrev PEt := PKy × Addr × Value
def pkV : Option Key → V
  | none => .non
  | some k => kV k
def PDat (P : Program) (w : World) (a : Addr) (ep : Nat) (xs : List PEt) (h : Heap) : Prop :=
  ∃ o es, h.get? a = some o ∧ o.ExactDict ∧ o.data = .dict es ep ∧ es.toList = xs.map (entryOfKey (tupleKind (noneKind P w)))
def PDO (P : Program) (w : World) (a : Addr) (ep : Nat) (xs : List PEt) : HO := .ext (PDat P w a ep xs)
structure PdAt (P : Program) (w : World) (K : PySem.W.Frag) (H : Hp) (a : Addr) (ep : Nat) (xs : List PEt) : Prop where
  it : H a = some (PDO P w a ep xs)
  ks : ∀ x ∈ xs, SqT K H x.2.1 (x.1.map pkV)
  nd : (xs.map (·.1)).Nodup
  sz : xs.length ≤ sizeLine
  ne : (a == sysModules) = false
theorem itemsN {P : Program} {w : World} : ∀ {ks : PKy} {us : List Value}, Vals (ks.map pkV) us → ItemsAre (noneKind P w) ks us
  | [], _, r => by rw [List.map_nil] at r; cases r; exact .nil
  | k :: ks, _, r => by
    rw [List.map_cons] at r
    cases r with
    | @cons a b as bs h t =>
      refine .cons ?_ (itemsN t)
      cases k with
      | none =>
        obtain rfl : b = Value.none := h
        rfl
      | some k => exact kV_is (P := P) (w := w) h
section
variable {X : Cx} {pins : List (Addr × Obj)} {σ : L2.St} {H : Hp} {s : Shared} {a b : Addr} {ep : Nat} {xs : List PEt} {k : PKy} {A : Around} {E : Value → Shared → Prop}
theorem pkey_is (I : Inv X pins σ H s) (h : SqT X.K H b (k.map pkV)) : (tupleKind (noneKind X.prog X.w)).is s.heap k b := by
  obtain ⟨its, rv, ⟨o, h1, h2, n, h3⟩, hz⟩ := I.tuple h
  exact ⟨o, its.toArray, n, h1, h2, h3, by simpa using itemsN rv⟩
theorem pd_dict (I : Inv X pins σ H s) (D : PdAt X.prog X.w X.K H a ep xs) : s.heap.DictOfH (tupleKind (noneKind X.prog X.w)) a xs := by
  obtain ⟨⟨o, es, h1, h2, h3, h4⟩, _⟩ := I.hok a _ D.it
  exact ⟨o, es, ep, h1, h2, h3, h4, fun x hx => pkey_is I (D.ks x hx), D.nd⟩
theorem pd_in {Q : Value → Shared → Prop} (hu : A.units + 1 < cLine) (I : Inv X pins σ H s) (D : PdAt X.prog X.w X.K H a ep xs) (hk : SqT X.K H b (k.map pkV)) (h : ∀ s', Inv X pins σ H s' → Q (.bool (atKey xs k).isSome) s') :
    wpAny (model X.prog X.w) A (compareOp .In (.ref b) (.ref a)) Q E s :=
  wpAny_in_heap (tupleKind_room_in1 hu) (pkey_is I hk) D.ne (pd_dict I D) (h _ (I.tok _))
theorem pd_notIn {Q : Value → Shared → Prop} (hu : A.units + 1 < cLine) (I : Inv X pins σ H s) (D : PdAt X.prog X.w X.K H a ep xs) (hk : SqT X.K H b (k.map pkV)) (h : ∀ s', Inv X pins σ H s' → Q (.bool (!(atKey xs k).isSome)) s') :
    wpAny (model X.prog X.w) A (compareOp .NotIn (.ref b) (.ref a)) Q E s :=
  wpAny_notIn_heap (tupleKind_room_in1 hu) (pkey_is I hk) D.ne (pd_dict I D) (h _ (I.tok _))
theorem pd_getItem {p : Addr × Value} {Q : Value → Shared → Prop} (hu : A.units + 1 < cLine) (I : Inv X pins σ H s) (D : PdAt X.prog X.w X.K H a ep xs) (hk : SqT X.K H b (k.map pkV)) (hp : atKey xs k = some p) (h : ∀ s', Inv X pins σ H s' → Q p.2 s') :
    wpAny (model X.prog X.w) A (getItem (.ref a) (.ref b)) Q E s :=
  wpAny_getItem_heap (tupleKind_room_in1 hu) (pkey_is I hk) (pd_dict I D) hp (h _ (I.tok _))
theorem pd_new {P : Program} {w : World} {H' : Hp} {h : Heap} (d : PDat P w a ep xs h) : ObjOk P w H' h a (PDO P w a ep xs) := by
  refine ⟨d, ?_, fun h1 h2 ⟨o, es, e1, e2, e3, e4⟩ k => ⟨o, es, k o e1, e2, e3, e4⟩⟩
  obtain ⟨o, _, e, _⟩ := d
  exact ⟨o, e⟩
theorem pd_setItem {v : Value} {Q : Unit → Shared → Prop} (hu : A.units + 1 < cLine) (I : Inv X pins σ H s) (D : PdAt X.prog X.w X.K H a ep xs) (hk : SqT X.K H b (k.map pkV))
    (h : ∀ ep' s', Inv X pins σ (upd H a (PDO X.prog X.w a ep' (storedH xs k b v))) s' → Q () s') :
    wpAny (model X.prog X.w) A (setItem (.ref a) (.ref b) v) Q E s := by
  refine wpAny_setItem_heap (hsz := D.sz) (tupleKind_room_in1 hu) (pkey_is I hk) (pd_dict I D) fun h' dd hs => ?_
  obtain ⟨q, es, ep', hq, h2, h3, h4, _, h5⟩ := dd
  refine h ep' _ (d_write I (by rw [D.it]; exact True.intro) hs ⟨q, hq⟩ (pd_new ⟨q, es, hq, h2, h3, h4⟩))
theorem pd_isD (I : Inv X pins σ H s) (D : PdAt X.prog X.w X.K H a ep xs) : s.TypeIs (.ref a) "dict" := (pd_dict I D).typeIs
end

/-! ### terms -/
/-- {} | d[y] | y in d | y not in d | d[y] = v -/
def tPNew (P : Program) (w : World) : TE := fun _ H Q => ∀ p ep, H p = none → (p == sysModules) = false → Q (.ref p) (upd H p (PDO P w p ep []))
def PLk (P : Program) (w : World) (K : PySem.W.Frag) (H : Hp) (x y : V) (R : Option (Addr × Value) → Prop) : Prop :=
  ∃ a ep xs b k, x = .ref a ∧ PdAt P w K H a ep xs ∧ y = .ref b ∧ SqT K H b (k.map pkV) ∧ R (atKey xs k)
def tPGet (P : Program) (w : World) (K : PySem.W.Frag) (td ty : TE) : TE := fun σ H Q => td σ H fun x H1 => ty σ H1 fun y H2 => PLk P w K H2 x y fun o => ∃ p v, o = some p ∧ RelV v p.2 ∧ Q v H2
def tPIn (P : Program) (w : World) (K : PySem.W.Frag) (ty td : TE) : TE := fun σ H Q => ty σ H fun y H1 => td σ H1 fun x H2 => PLk P w K H2 x y fun o => Q (.bl o.isSome) H2
def tPNotIn (P : Program) (w : World) (K : PySem.W.Frag) (ty td : TE) : TE := fun σ H Q => ty σ H fun y H1 => td σ H1 fun x H2 => PLk P w K H2 x y fun o => Q (.bl (!o.isSome)) H2
def sPPut (P : Program) (w : World) (K : PySem.W.Frag) (td ty tv : TE) : TS := fun D σ H => tv σ H fun v H1 => td σ H1 fun x H2 => ty σ H2 fun y H3 => ∃ a ep xs b k, x = .ref a ∧ PdAt P w K H3 a ep xs ∧ y = .ref b ∧ SqT K H3 b (k.map pkV) ∧
  ∀ ep' u, RelV v u → D.nx σ (upd H3 a (PDO P w a ep' (storedH xs k b u)))
section
variable {X : Cx} {o i e value : Expr} {pos pos' tpos : Pos} {td ty tv : TE}
theorem pe_pnew : PE X (.Dict [] [] pos) (tPNew X.prog X.w) := ⟨fun pins s σ H Q I h =>
  wpAny_Dict_empty ⟨.ref s.heap.objs.size, _, I.laid (a := s.heap.objs.size) (o := PDO X.prog X.w s.heap.objs.size 0 []) (t' := s.toks) (fun _ _ q => Heap.get?_push_of_some _ q) (Nat.le_refl _)
    (pd_new ⟨_, #[], Heap.get?_push_size _ rfl, ⟨rfl, rfl, rfl⟩, rfl, rfl⟩), rfl, h _ 0 (I.hok.fresh (Nat.le_refl _)) (beq_eq_false_iff_ne.mpr (Ne.symm (Nat.ne_of_lt I.big)))⟩⟩
theorem pe_pget (hu : X.A.units + 1 < cLine) (ho : PE X o td) (hi : PE X i ty) (hs : NoSl i) : PE X (.Subscript o i pos) (tPGet X.prog X.w X.K td ty) := by
  refine ⟨fun pins s σ H Q I h => ?_⟩
  refine subD_of PySem.F.slot_dict_getitem.lookup hs (thn (ho.run pins s σ H _ I h) fun u s1 ⟨x, H1, I1, rx, q1⟩ => thn (hi.run pins s1 σ H1 _ I1 q1) fun iv s2 ⟨y, H2, I2, ry, a, ep, xs, b, k, ex, D, ey, hk, p, v, hp, rv, q2⟩ => ?_)
  subst ex ey
  obtain rfl : u = Value.ref a := rx
  obtain rfl : iv = Value.ref b := ry
  exact ⟨pd_isD I2 D, pd_getItem hu I2 D hk hp fun s3 I3 => ⟨v, H2, I3, rv, q2⟩⟩
theorem pc_pin (hu : X.A.units + 1 < cLine) (hi : PE X i ty) (ho : PE X o td) : PC X .In i o (tPIn X.prog X.w X.K ty td) := by
  refine ⟨fun pins s σ H Q I h => ?_⟩
  refine thn (hi.run pins s σ H _ I h) fun iv s1 ⟨y, H1, I1, ry, q1⟩ => thn (ho.run pins s1 σ H1 _ I1 q1) fun u s2 ⟨x, H2, I2, rx, a, ep, xs, b, k, ex, D, ey, hk, q2⟩ => ?_
  subst ex ey
  obtain rfl : u = Value.ref a := rx
  obtain rfl : iv = Value.ref b := ry
  exact pd_in hu I2 D hk fun s3 I3 => ⟨.bl _, H2, I3, rfl, q2⟩
theorem pc_pnotin (hu : X.A.units + 1 < cLine) (hi : PE X i ty) (ho : PE X o td) : PC X .NotIn i o (tPNotIn X.prog X.w X.K ty td) := by
  refine ⟨fun pins s σ H Q I h => ?_⟩
  refine thn (hi.run pins s σ H _ I h) fun iv s1 ⟨y, H1, I1, ry, q1⟩ => thn (ho.run pins s1 σ H1 _ I1 q1) fun u s2 ⟨x, H2, I2, rx, a, ep, xs, b, k, ex, D, ey, hk, q2⟩ => ?_
  subst ex ey
  obtain rfl : u = Value.ref a := rx
  obtain rfl : iv = Value.ref b := ry
  exact pd_notIn hu I2 D hk fun s3 I3 => ⟨.bl _, H2, I3, rfl, q2⟩
theorem ps_pput (hu : X.A.units + 1 < cLine) (ho : PE X o td) (hi : PE X i ty) (hv : PE X value tv) (hs : swapsWith value (some (.Subscript o i pos')) pos.line X.env = pure false) :
    PS X (.Assign [.Subscript o i pos'] value pos) (sPPut X.prog X.w X.K td ty tv) := by
  refine ⟨fun pins s σ H D I h => ?_⟩
  refine wpAny_Assign_Subscript (thn (hv.run pins s σ H _ I h) fun r s1 ⟨v, H1, I1, rv, q1⟩ => thn (ho.run pins s1 σ H1 _ I1 q1) fun u s2 ⟨x, H2, I2, rx, q2⟩ => thn (hi.run pins s2 σ H2 _ I2 q2) fun iv s3 ⟨y, H3, I3, ry, a, ep, xs, b, k, ex, D, ey, hk, q3⟩ => ?_) hs
  subst ex ey
  obtain rfl : u = Value.ref a := rx
  obtain rfl : iv = Value.ref b := ry
  exact pd_setItem hu I3 D hk fun ep' s4 I4 => ⟨σ, _, I4, q3 ep' r rv⟩
end

/-! ### for k in d -/
def Itp (P : Program) (w : World) (K : PySem.W.Frag) (d : Addr) (ep : Nat) (xs : List PEt) : It :=
  ⟨fun i H => PdAt P w K H d ep xs ∧ i < xs.length, fun i H x H' => H' = H ∧ ∃ k q u, xs[i]? = some (k, q, u) ∧ x = .ref q, fun i H => PdAt P w K H d ep xs ∧ xs.length ≤ i⟩
def iPKeys (P : Program) (w : World) (K : PySem.W.Frag) (td : TE) : TI := fun σ H R => td σ H fun x H1 => ∃ d ep xs, x = .ref d ∧ PdAt P w K H1 d ep xs ∧ R (Itp P w K d ep xs) H1
theorem turn_pkeys {P : Program} {w : World} {K : PySem.W.Frag} {tg : Expr} {d : Addr} {ep : Nat} {xs : List PEt} (it : Addr) : Turn P w K tg (Itp P w K d ep xs) [it] it (fun i h => h.IsKeyIter it d i xs.length ep) where
  mem := by simp
  obj := fun i h st b hb => by
    have e : b = it := by simpa using hb
    subst e
    obtain ⟨oi, e, c, dd⟩ := st
    exact ⟨oi, e, fun v z => by rw [dd] at z; cases z⟩
  keep := fun i h h' st k => st.at fun oi e => k it (by simp) oi e
  item := by
    intro X hP hw hK hc i pins s σ H E I hf st hg
    subst hP hw hK
    obtain ⟨D, hi⟩ := hg
    obtain ⟨f0, f1, f2, f3, f4, f5⟩ := hf it (by simp)
    obtain ⟨⟨od, es, hgd, hx, hdt, hes⟩, _⟩ := I.hok d _ D.it
    have hsz : es.size = xs.length := size_of_entries hes
    obtain ⟨⟨k, q, u⟩, hkv⟩ : ∃ p, xs[i]? = some p := ⟨xs[i], List.getElem?_eq_getElem hi⟩
    have hen : es[i]? = some (entryOfKey (tupleKind (noneKind X.prog X.w)) (k, q, u)) := by rw [entry_at hes i, hkv]; rfl
    refine next_key_item st hgd hdt hsz hen fun h' st' sb => ?_
    have I1 : Inv X pins σ H { s with heap := h' } := I.turned (t' := s.toks) (fun b ob hb e => (sb.2 b hb).trans e) f0 f1 f3 f4 f5
    obtain ⟨oi, e, c, dd⟩ := id st'
    exact ⟨.ref q, rfl, go_of (s := { s with heap := h' }) e c dd (by decide) ⟨.ref q, H, I1, rfl, ⟨rfl, k, q, u, hkv, rfl⟩, st', fun b hb => (hf b hb).1⟩⟩
  done := by
    intro X hP hw hK hc i pins s σ H E I hf st hg
    subst hP hw hK
    obtain ⟨D, hi⟩ := hg
    obtain ⟨f0, f1, f2, f3, f4, f5⟩ := hf it (by simp)
    obtain ⟨⟨od, es, hgd, hx, hdt, hes⟩, _⟩ := I.hok d _ D.it
    have hsz : es.size = xs.length := size_of_entries hes
    exact next_key_end (I.ok.hd hc) st hgd hdt hsz hi fun h' eb => ⟨rfl, I.turned (t' := s.toks) (fun b ob hb e => eb b ob hb e) f0 f1 f3 f4 f5⟩
  self := fun A i s Q E st h => by
    refine wpAny_pyIter_slot st.typeIs F.slot_dict_keyiterator_iter (wpAny_call_entry F.slot_dict_keyiterator_iter st.typeIs F.entry_dict_keyiterator_iter ?_ (F.args_dict_keyiterator_iter_1 _))
    show wpAny _ _ (ret (.ref it)) _ _ s
    exact wpAny_pure ⟨_, rfl, "dict_keyiterator", _, st.typeIs, F.slot_dict_keyiterator_next.lookup, h⟩
theorem pi_pkeys {X : Cx} {tg e : Expr} {td : TE} (he : PE X e td) : PI X tg e (iPKeys X.prog X.w X.K td) := by
  refine ⟨fun pins s σ H R I h => ?_⟩
  refine thn (he.run pins s σ H _ I h) fun u s1 ⟨x, H1, I1, rx, d, ep, xs, ex, D, q⟩ => ?_
  subst ex
  obtain rfl : u = Value.ref d := rx
  obtain ⟨⟨od, es, hgd, hx, hdt, hes⟩, _⟩ := I1.hok d _ D.it
  have hsz : es.size = xs.length := size_of_entries hes
  refine iter_keys D.ne hgd hx hdt (pi_one (tk := s1.toks) I1 _ (turn_pkeys _) ⟨_, Heap.get?_push_size _ rfl, rfl, ?_⟩ q)
  rw [hsz] <;> rfl
end Gt
/-! Gt43: f"{x:<17}". -/
namespace Gt
open PySem PySem.Spec PyProof.Rows L2
open Builtin Builtin.Str Builtin.Int Builtin.Float
theorem strSub_all (x : Str) : strSub x 0 x.length = x := by
  unfold strSub
  obtain ⟨c⟩ := x
  simp [Str.length]
def spW : Str := "<17"
theorem wp_nameCut {M : Model} {A : Around} {E : Value → Shared → Prop} {s : Shared} {v : Value} {T : String} {w : Nat} {Q : String → Shared → Prop} (hT : s.TypeIs v T)
    (hn : (Value.type T == Value.type "builtin_function_or_method") = false := by decide) (h : ∀ n, Q n s) : wpAny M A (typeNameOfCut w v) Q E s := by
  unfold typeNameOfCut shownTypeOf
  refine wpAny_bind (wpAny_bind (wpAny_typeOf hT ?_))
  simp only [hn, Bool.false_eq_true, if_false]
  exact wpAny_pure (wpAny_pure (h _))
theorem gives_cut {v : Value} {T : String} {k : String → Sem Fin} {m : Made} {w : Nat} (hT : ∀ s : Shared, s.TypeIs v T)
    (hn : (Value.type T == Value.type "builtin_function_or_method") = false) (g : ∀ n, Gives (k n) m) : Gives (typeNameOfCut w v >>= k) m :=
  fun prog w A R s hq => wpAny_bind (wp_nameCut (hT s) hn fun n => g n prog w A R s hq)
theorem strField17 (x : Str) (name : String) : strField x { fill := 32, align := 60, width := some 17 } name = .ok (if 17 ≤ x.length then none else some (padded x 0 (17 - x.length) 32)) := by
  unfold strField
  by_cases h : 17 ≤ x.length
  · rw [if_pos h]
    simp [h, Pure.pure, Except.pure, Bind.bind, Except.bind]
  · rw [if_neg h]
    simp [h, Pure.pure, Except.pure, Bind.bind, Except.bind, strSub_all]
def rest17 (x : Str) (t : Tok) (name : String) : Sem Fin :=
  match (do
    let f ← parseFormatSpec spW.cps.toList name 60
    let f := if f.type.isNone && spW.cps.back? == some 0 then { f with type := some 0 } else f
    if tooLong (f.width.getD 0) then return none
    return some (← strField x f name) : Except String (Option (Option Str))) with
  | .error msg => do
    rule "str.__format__.bad-spec"
    if spW.cps.any Str.isSurrogate && quotesTheSpec msg then raiseErrorStr "ValueError" (invalidSpecWords spW name)
    raiseError "ValueError" msg
  | .ok none => unsupported "str.__format__:memory"
  | .ok (some none) => do rule "str.__format__.unchanged"; ret (.str x t)
  | .ok (some (some text)) => retStr text
theorem gives_fmt17 (x : Str) (t u : Tok) : Gives («str.__format__» ⟨[.str x t, .str spW u], []⟩) (if 17 ≤ x.length then .val (.str x t) else .str (padded x 0 (17 - x.length) 32)) := by
  have hp : ∀ name, parseFormatSpec spW.cps.toList name 60 = .ok { fill := 32, align := 60, width := some 17 } := fun name => by rfl
  show Gives (typeNameOfCut 200 (.str x t) >>= rest17 x t) _
  refine gives_cut (T := "str") (fun s => typeIs_str s _ _) (by decide) fun name => ?_
  unfold rest17
  rw [hp name]
  have e0 : (do
    let f ← (Except.ok { fill := 32, align := 60, width := some 17 } : Except String FormatSpec)
    let f := if f.type.isNone && spW.cps.back? == some 0 then { f with type := some 0 } else f
    if tooLong (f.width.getD 0) then return none
    return some (← strField x f name) : Except String (Option (Option Str))) = .ok (some (if 17 ≤ x.length then none else some (padded x 0 (17 - x.length) 32))) := by
    show (do let r ← strField x { fill := 32, align := 60, width := some 17 } name; pure (some r) : Except String (Option (Option Str))) = _
    rw [strField17]
    rfl
  rw [e0]
  by_cases h : 17 ≤ x.length
  · rw [if_pos h, if_pos h]
    first | exact .rule (.of_eq rfl) | exact .of_eq rfl
  · rw [if_neg h, if_neg h]
    first | exact .rule (.of_eq rfl) | exact .of_eq rfl
section
variable {prog : Program} {w : World} {A : Around} {E : Value → Shared → Prop} {s : Shared}
theorem wp_fmt17 {x : Str} {t : Tok} {Q : Value → Shared → Prop} (hx : x.length ≤ 100000) (h : ∀ t' n, Q (.str (Txt.ljust x 17) t') { s with toks := n }) : wpAny (model prog w) A (formatField (.str x t) spW) Q E s := by
  have e : formatField (.str x t) spW = holding [.str x t] (pyFormat (.str x t) spW) := by
    unfold formatField
    rfl
  rw [e]
  refine wpAny_holding ?_
  unfold pyFormat
  refine wpAny_bind (wpAny_mkStr ?_ (by decide))
  have g := gives_fmt17 x t s.toks
  have hj : Txt.ljust x 17 = if 17 ≤ x.length then x else padded x 0 (17 - x.length) 32 := by
    unfold Txt.ljust
    by_cases c : 17 ≤ x.length
    · rw [if_pos c, if_pos (by omega)]
    · rw [if_neg c, if_neg (by omega)]
      rfl
  rw [hj] at h
  by_cases c : 17 ≤ x.length
  · rw [if_pos c] at g
    rw [if_pos c] at h
    refine wpAny_bind (m := callSpecial? (.str x t) (Str.ofString "__format__") [.str spW s.toks]) (wpAny_callSpecial?_slot (name := Str.ofString "__format__") (typeIs_str _ _ _) PySem.F.slot_str_format
      (call_gives PySem.F.slot_str_format (typeIs_str _ _ _) PySem.F.entry_str_format (PySem.F.args_str_format_2 _ _) g ?_))
    exact wpAny_bind (wpAny_isInstance (T := "str") (b := true) rfl isSubtype_str_str (wpAny_pure (h _ _)))
  · rw [if_neg c] at g
    rw [if_neg c] at h
    refine wpAny_bind (m := callSpecial? (.str x t) (Str.ofString "__format__") [.str spW s.toks]) (wpAny_callSpecial?_slot (name := Str.ofString "__format__") (typeIs_str _ _ _) PySem.F.slot_str_format
      (call_gives PySem.F.slot_str_format (typeIs_str _ _ _) PySem.F.entry_str_format (PySem.F.args_str_format_2 _ _) g ⟨?_, ?_⟩))
    · have : (padded x 0 (17 - x.length) 32).length = x.length + (17 - x.length) := by
        unfold padded Str.length
        simp
      rw [this, sizeLine_eq]
      omega
    · exact wpAny_bind (wpAny_isInstance (T := "str") (b := true) rfl isSubtype_str_str (wpAny_pure (h _ _)))
end
/-- {x:<17} -/
def tFmtW (te ts : TE) : TE := fun σ H Q => te σ H fun x H1 => ts σ H1 fun y H2 => ∃ a : Str, x = .str a ∧ y = .str spW ∧ a.length ≤ 100000 ∧ Q (.str (Txt.ljust a 17)) H2
theorem pe_fmtW {X : Cx} {e sp : Expr} {te ts : TE} {pos : Pos} (he : PE X e te) (hs : PE X sp ts) : PE X (.FormattedValue e (-1) (some sp) pos) (tFmtW te ts) := by
  refine ⟨fun pins s σ H Q I h => ?_⟩
  refine wpAny_FormattedValue_spec (thn (he.run pins s σ H _ I h) fun v s1 ⟨x, H1, I1, rx, q1⟩ => thn (hs.run pins s1 σ H1 _ I1 q1) fun r s2 ⟨y, H2, I2, ry, a, ex, ey, hz, q2⟩ => ?_)
  subst ex ey
  obtain ⟨t, rfl⟩ := (show ∃ t, v = Value.str a t from rx)
  obtain ⟨t2, rfl⟩ := (show ∃ t, r = Value.str spW t from ry)
  exact ⟨spW, t2, rfl, wp_fmt17 hz fun t' n => ⟨.str (Txt.ljust a 17), H2, I2.tok _, ⟨t', rfl⟩, q2⟩⟩
section
variable {K : PySem.W.Frag} {G : Cells K} {te ts : TE} {a : Str}
theorem okS_ljust (h : okS a) (hz : a.length ≤ 99000) : okS (Txt.ljust a 17) := by
  unfold Txt.ljust
  split
  · exact h
  · refine ⟨?_, ?_⟩
    · show (padded a 0 _ 32).length ≤ 100000
      have : (padded a 0 ((17 : Int).toNat - a.length) 32).length = a.length + ((17 : Int).toNat - a.length) := by
        unfold padded Str.length
        simp
      rw [this]
      have : (17 : Int).toNat = 17 := rfl
      omega
    · have h2 := h.2
      simp only [Array.all_eq_true] at h2 ⊢
      unfold padded
      simp [Array.all_eq_true] at h2 ⊢
      intro i hi
      rw [Array.getElem_append]
      split
      · exact h2 i (by assumption)
      · simp
theorem ev_fmtW (h : Ev rS te G a) (h2 : Ev rS ts G spW) (hz : a.length ≤ 99000) : Ev rS (tFmtW te ts) G (Txt.ljust a 17) := fun H0 σ H E Q k =>
  h H0 σ H E _ fun v H1 e1 ⟨ev, ok⟩ => h2 H0 σ H1 (E.grow e1) _ fun v2 H2 e2 ⟨ev2, ok2⟩ => ⟨a, ev, ev2, ok.1, k _ H2 (e1.trans e2) ⟨rfl, okS_ljust ok hz⟩⟩
end
end Gt
/-! Gt44: == of two dicts whose keys are tuples (lines of the kit's DictEq turned to keys that lie in the heap). -/
namespace Gt
open PySem PySem.W PySem.Calls PyProof.Rows PyProof.V PySem.Spec L2
section
variable {prog : Program} {w : World} {KK : Type} [DecidableEq KK] {knd : HeapKind prog w KK} {A : Around} {E : Value → Shared → Prop} {s : Shared}
inductive HitsH {KK : Type} [DecidableEq KK] (prog : Program) (w : World) (A : Around) (s : Shared) (yb : List (KK × Addr × Value)) : List (KK × Addr × Value) → Bool → Prop
  | nil : HitsH prog w A s yb [] true
  | miss {k : KK} {a : Addr} {v : Value} {r : List (KK × Addr × Value)} : atKey yb k = none → HitsH prog w A s yb ((k, a, v) :: r) false
  | hit {k : KK} {a : Addr} {v : Value} {p : Addr × Value} {r : List (KK × Addr × Value)} {e b : Bool} : atKey yb k = some p → SeqAt.EqP prog w A s v p.2 e → HitsH prog w A s yb r b → HitsH prog w A s yb ((k, a, v) :: r) (e && b)
theorem HitsH.inv {yb : List (KK × Addr × Value)} {k : KK} {a : Addr} {v : Value} {r : List (KK × Addr × Value)} {b : Bool} (h : HitsH prog w A s yb ((k, a, v) :: r) b) :
    (atKey yb k = none ∧ b = false) ∨ ∃ p e b', atKey yb k = some p ∧ SeqAt.EqP prog w A s v p.2 e ∧ HitsH prog w A s yb r b' ∧ b = (e && b') := by
  cases h with
  | miss hn => exact .inl ⟨hn, rfl⟩
  | hit hy he hr => exact .inr ⟨_, _, _, hy, he, hr, rfl⟩
theorem atKey_none {ys : List (KK × Addr × Value)} {k : KK} (h : ∀ (j : Nat) (p : Addr × Value), ys[j]? ≠ some (k, p)) : atKey ys k = none := by
  unfold atKey
  rw [Option.map_eq_none_iff, List.find?_eq_none]
  intro x hx
  obtain ⟨j, hj⟩ := List.getElem?_of_mem hx
  intro e
  have e' : x.1 = k := by simpa using e
  exact h j x.2 (by rw [hj, ← e'])
theorem atKey_some {ys : List (KK × Addr × Value)} {k : KK} {j : Nat} {p : Addr × Value} (hn : (ys.map (·.1)).Nodup) (h : ys[j]? = some (k, p)) : atKey ys k = some p := by
  induction ys generalizing j with
  | nil => simp at h
  | cons y ys ih =>
    rw [List.map_cons, List.nodup_cons] at hn
    cases j with
    | zero =>
      rw [List.getElem?_cons_zero] at h
      cases h
      simp [atKey]
    | succ j =>
      rw [List.getElem?_cons_succ] at h
      have ne : ¬ y.1 = k := fun e => hn.1 (by rw [e]; exact List.mem_map.mpr ⟨_, List.mem_of_getElem? h, rfl⟩)
      have := ih hn.2 h
      simpa [atKey, ne] using this
theorem samePairsH {nm : String} {a b : Addr} {ka kb : List (KK × Addr × Value)} {r : Bool} {Q : Bool → Shared → Prop} (hu : knd.room A) (ha : (a == sysModules) = false) (hb : (b == sysModules) = false)
    (da : s.heap.DictOfH knd a ka) (db : s.heap.DictOfH knd b kb) (hits : ka.length = kb.length → HitsH prog w A s kb ka r) (h : Q (ka.length == kb.length && r) s) :
    wpAny (model prog w) A (Builtin.Dict.samePairs nm a b) Q E s := by
  obtain ⟨oa, es, ep, hoa, _, hda, hka, hia, _⟩ := da
  obtain ⟨ob, es', ep', hob, _, hdb, hkb, hib, hnb⟩ := db
  have hla : ka.length = es.size := (size_of_entries hka).symm
  have hlb : kb.length = es'.size := (size_of_entries hkb).symm
  rw [hla, hlb] at h
  unfold Builtin.Dict.samePairs Builtin.Dict.showsAll
  rw [if_neg (show ¬ (a == sysModules) = true by rw [ha]; exact Bool.false_ne_true), if_neg (show ¬ (b == sysModules) = true by rw [hb]; exact Bool.false_ne_true)]
  refine wpAny_bind (wpAny_pure (wpAny_bind (wpAny_pure ?_)))
  refine wpAny_bind (wpAny_dictEntries hoa hda ?_)
  dsimp only
  refine wpAny_bind (wpAny_dictEntries hob hdb ?_)
  by_cases hsz : es.size = es'.size
  case neg =>
    rw [if_pos (by simpa using hsz)]
    have hbf : (es.size == es'.size) = false := by simpa using hsz
    rw [hbf, Bool.false_and] at h
    exact wpAny_bind (wpAny_rule (wpAny_pure h))
  case pos =>
    have h' : Q r s := by simpa [hsz] using h
    have hits' := hits (by rw [hla, hlb]; exact hsz)
    rw [if_neg (by rw [hsz]; simp)]
    refine wpAny_bind (wpAny_dictEpoch hoa hda ?_)
    refine wpAny_bind ?_
    rw [Std.Legacy.Range.forIn_eq_forIn_range']
    simp only [Std.Legacy.Range.size, Nat.sub_zero, Nat.add_sub_cancel, Nat.div_one]
    refine wpAny_forIn_list _
      (fun rest q s' => s' = s ∧ q = (none, ()) ∧ ∃ i, rest = List.range' i (es.size - i) ∧ i ≤ es.size ∧ HitsH prog w A s kb (ka.drop i) r)
      _ ?_ ?_ _ _ ⟨rfl, rfl, 0, by simp, Nat.zero_le _, hits'⟩
    · rintro x rest q s' ⟨rfl, rfl, i, hr, hi, hpre⟩
      have hlt : i < es.size := by
        rcases Nat.lt_or_ge i es.size with h | h
        · exact h
        · rw [Nat.sub_eq_zero_of_le h] at hr; simp at hr
      obtain ⟨rfl, hrest⟩ : x = i ∧ rest = List.range' (i + 1) (es.size - (i + 1)) := by
        have e : es.size - i = (es.size - (i + 1)) + 1 := by omega
        rw [e, List.range'_succ] at hr
        injection hr with h1 h2
        exact ⟨h1, h2⟩
      refine wpAny_bind (wpAny_dictEntries hoa hda ?_)
      rw [Array.getElem?_eq_getElem hlt]
      have hlt' : x < ka.length := by rw [hla]; exact hlt
      obtain ⟨k, ak, v, hkv⟩ : ∃ k ak v, ka[x] = (k, ak, v) := ⟨_, _, _, rfl⟩
      have hdrop : ka.drop x = (k, ak, v) :: ka.drop (x + 1) := by rw [← hkv]; exact List.drop_eq_getElem_cons hlt'
      have hent : es[x] = entryOfKey knd (k, ak, v) := by
        have e := entry_at hka x
        rw [Array.getElem?_eq_getElem hlt, List.getElem?_eq_getElem hlt', hkv] at e
        exact Option.some.inj e
      have hkey : knd.is s'.heap k ak := by
        have := hia _ (List.getElem_mem hlt')
        rw [hkv] at this
        exact this
      rw [hdrop] at hpre
      show wpAny _ _ (holding [es[x].key, es[x].val] _ >>= _) _ _ _
      rw [hent]
      refine wpAny_bind (wpAny_holding (wpAny_bind (wpAny_dictFind_heap (a := ak) (k := k) hu hkey hob hdb hkb hib hnb (fun hn => ?_) (fun j p hj => ?_))))
      · have hn := atKey_none hn
        rcases hpre.inv with ⟨_, er⟩ | ⟨p, _, _, hy, _⟩
        · rw [er] at h'
          refine wpAny_pure ?_
          show wpAny _ _ (if (!false) = true then _ else _) _ _ _
          rw [if_pos (by decide)]
          exact wpAny_pure (wpAny_pure h')
        · rw [hn] at hy; exact nomatch hy
      · have hv' := atKey_some hnb hj
        have hjl : j < kb.length := (List.getElem?_eq_some_iff.mp hj).1
        have hjlt : j < es'.size := by rw [← hlb]; exact hjl
        have hent' : es'[j] = entryOfKey knd (k, p) := by
          have e := entry_at hkb j
          rw [Array.getElem?_eq_getElem hjlt, hj] at e
          exact Option.some.inj e
        refine wpAny_bind (wpAny_dictEntries hob hdb ?_)
        rw [Array.getElem?_eq_getElem hjlt, hent']
        rcases hpre.inv with ⟨hn, _⟩ | ⟨p', e, b', hy, he, hrr, er⟩
        · rw [hv'] at hn; exact nomatch hn
        · rw [hv'] at hy
          cases hy
          refine wpAny_holding (he _ _ ?_)
          cases e with
          | false =>
            rw [er, Bool.false_and] at h'
            show wpAny _ _ (if (!false) = true then _ else _) _ _ _
            rw [if_pos (by decide)]
            exact wpAny_pure (wpAny_pure h')
          | true =>
            rw [Bool.true_and] at er
            rw [← er] at hrr
            show wpAny _ _ (if (!true) = true then _ else _) _ _ _
            rw [if_neg (by decide)]
            refine wpAny_bind (wpAny_dictEpoch hoa hda ?_)
            rw [if_neg (by simp)]
            exact wpAny_pure ⟨rfl, rfl, x + 1, hrest, hlt, hrr⟩
    · rintro q s' ⟨rfl, rfl, i, hr, hi, hpre⟩
      have hin : i = es.size := by
        rcases Nat.lt_or_ge i es.size with h | h
        · have e : es.size - i = (es.size - (i + 1)) + 1 := by omega
          rw [e, List.range'_succ] at hr; exact nomatch hr
        · exact Nat.le_antisymm hi h
      refine wpAny_pure ?_
      rw [hin, ← hla, List.drop_length] at hpre
      cases hpre
      exact h'
theorem rcP_dictsH {a b : Addr} {ka kb : List (KK × Addr × Value)} {r : Bool} (hr : knd.room A.in1) (ha : (a == sysModules) = false) (hb : (b == sysModules) = false)
    (da : s.heap.DictOfH knd a ka) (db : s.heap.DictOfH knd b kb) (hu : A.units < cLine) (hits : ka.length = kb.length → HitsH prog w A.in1 s kb ka r) (E Q : Value → Shared → Prop) (h : Q (.bool (ka.length == kb.length && r)) s) : wpAny (model prog w) A (richCompare .Eq (.ref a) (.ref b)) Q E s := by
  refine wpAny_richCompare_same_room (op := .Eq) da.typeIs db.typeIs PySem.F.slot_dict_eq (wpAny_call_entry PySem.F.slot_dict_eq da.typeIs PySem.F.entry_dict_eq ?_ (PySem.F.args_dict_eq_2 _ _)) hu
  show wpAny _ _ (Builtin.Dict.dictSlotArgs "__eq__" ⟨[.ref a, .ref b], []⟩ >>= _) _ _ s
  refine wpAny_bind ?_
  unfold Builtin.Dict.dictSlotArgs
  refine wpAny_bind (wpAny_notOrdered_dict da.typeIs ?_)
  show wpAny _ _ (pure (Value.ref a, Value.ref b)) _ _ s
  refine wpAny_pure ?_
  refine wpAny_bind (wpAny_isInstance (T := "dict") db.typeIs PySem.F.sub_dict_dict ?_)
  simp only [Bool.not_true, Bool.false_eq_true, if_false]
  refine wpAny_bind (wpAny_pure (wpAny_bind (wpAny_pure ?_)))
  refine wpAny_bind (samePairsH hr ha hb da db hits ?_)
  refine wpAny_pure ⟨_, rfl, ?_, ?_⟩
  · exact fun x => nomatch x
  · simpa using h
end
/-- a == b, two dicts with tuples as keys; VEq: the values as data -/
inductive PHit (P : Program) (w : World) (K : PySem.W.Frag) (H : Hp) (ys : List PEt) : List PEt → Bool → Prop
  | nil : PHit P w K H ys [] true
  | miss {k : PKy} {a : Addr} {v : Value} {r : List PEt} : atKey ys k = none → PHit P w K H ys ((k, a, v) :: r) false
  | hit {k : PKy} {a : Addr} {v : Value} {p : Addr × Value} {r : List PEt} {b : Bool} {x y : V} {d e : PyData} : atKey ys k = some p → RelV x v → RelV y p.2 → Dp K H x d → Dp K H y e → SeqAt.shaped d = true → SeqAt.shaped e = true →
      PHit P w K H ys r b → PHit P w K H ys ((k, a, v) :: r) (PyData.eqv d e && b)
def rPEq (P : Program) (w : World) (K : PySem.W.Frag) : R2 := fun x y H Q => ∃ a b ep ep' xs ys r, x = .ref a ∧ y = .ref b ∧ PdAt P w K H a ep xs ∧ PdAt P w K H b ep' ys ∧ (xs.length = ys.length → PHit P w K H ys xs r) ∧ Q (.bl (xs.length == ys.length && r)) H
theorem phit_run {X : Cx} {pins : List (Addr × Obj)} {σ : L2.St} {H : Hp} {s : Shared} {A : Around} (I : Inv X pins σ H s) (hu : A.units + 64 < cLine) {ys : List PEt} : ∀ {xs : List PEt} {r : Bool}, PHit X.prog X.w X.K H ys xs r → HitsH X.prog X.w A s ys xs r := by
  intro xs r h
  induction h with
  | nil => exact .nil
  | miss hn => exact .miss hn
  | hit hy rx ry hd he sd se _ ih =>
    obtain ⟨as, r1⟩ := Dp.reads I _ _ _ hd rx
    obtain ⟨bs, r2⟩ := Dp.reads I _ _ _ he ry
    exact .hit hy (SeqAt.eqAt_reads _ _ A s _ _ as bs r1 r2 (SeqAt.canLay_of_shaped sd) (SeqAt.canLay_of_shaped se) (SeqAt.room_of_shaped sd hu)).eqP ih
theorem op_peq {X : Cx} (hu : X.A.units + 66 < cLine) : OpR X (compareOp .Eq) (rPEq X.prog X.w X.K) := by
  intro pins s σ H x y v u Q I rx ry h
  obtain ⟨a, b, ep, ep', xs, ys, r, ex, ey, D1, D2, hh, q⟩ := h
  subst ex ey
  obtain rfl : v = Value.ref a := rx
  obtain rfl : u = Value.ref b := ry
  exact rcP_dictsH (knd := tupleKind (noneKind X.prog X.w)) (tupleKind_room_in1 (by omega)) D1.ne D2.ne (pd_dict I D1) (pd_dict I D2) (by omega) (fun e => phit_run I (by show X.A.units + 1 + 64 < cLine; omega) (hh e)) _ _ ⟨.bl _, H, I, rfl, q⟩
end Gt
/-! Gt45: dicts with (text, text or None) as keys: cells, rules. -/
namespace Gt
open PySem PySem.Spec PyProof.Rows L2
abbrev KP := Str × Option Str
def kP (k : KP) : PKy := [some (.inr k.1), k.2.map .inr]
def okP (k : KP) : Prop := okS k.1 ∧ ∀ t, k.2 = some t → okS t
def pkey {α : Type} (xs : List (KP × α)) (k : KP) : Option α := (xs.find? fun kv => decide (kv.1 = k)).map (·.2)
def pput {α : Type} (xs : List (KP × α)) (k : KP) (v : α) : List (KP × α) := if (pkey xs k).isSome = true then xs.map (fun kv => if kv.1 = k then (kv.1, v) else kv) else xs ++ [(k, v)]
theorem kP_inj {a b : KP} (h : kP a = kP b) : a = b := by
  obtain ⟨a1, a2⟩ := a
  obtain ⟨b1, b2⟩ := b
  unfold kP at h
  injection h with h1 h2
  injection h2 with h2 _
  have e1 : a1 = b1 := by injection h1 with h1; injection h1
  have e2 : a2 = b2 := by
    cases a2 <;> cases b2
    · rfl
    · exact nomatch h2
    · exact nomatch h2
    · have : (some (Sum.inr _) : Option Key) = some (Sum.inr _) := h2
      injection this with q
      injection q with q
      rw [q]
  rw [e1, e2]
structure Pe (K : PySem.W.Frag) {α : Type} (R : V → α → Prop) (H : Hp) (x : PEt) (y : KP × α) : Prop where
  key : x.1 = kP y.1
  ok : okP y.1
  at_ : SqT K H x.2.1 (x.1.map pkV)
  val : ∃ v, R v y.2 ∧ RelV v x.2.2
section
variable {K : PySem.W.Frag} {α : Type} {R R' : V → α → Prop} {H H' : Hp} {es : List PEt} {xs : List (KP × α)}
theorem Pe.up {x : PEt} {y : KP × α} (h : Pe K R H x y) (f : ∀ v b, R v b → R' v b) (e : ExT K H H') : Pe K R' H' x y := ⟨h.key, h.ok, e _ _ h.at_, let ⟨v, q, z⟩ := h.val; ⟨v, f _ _ q, z⟩⟩
theorem pe_at (h : A2 (Pe K R H) es xs) (k : KP) : (∃ p b v, atKey es (kP k) = some p ∧ pkey xs k = some b ∧ R v b ∧ RelV v p.2) ∨ (atKey es (kP k) = none ∧ pkey xs k = none) := by
  induction h with
  | nil => exact .inr ⟨rfl, rfl⟩
  | @cons x y l m h1 h2 ih =>
    by_cases e : y.1 = k
    · obtain ⟨v, q, z⟩ := h1.val
      refine .inl ⟨x.2, y.2, v, ?_, ?_, q, z⟩
      · unfold atKey
        rw [List.find?_cons, decide_eq_true (by rw [h1.key, e])]
        rfl
      · unfold pkey
        rw [List.find?_cons, decide_eq_true e]
        rfl
    · have ea : atKey (x :: l) (kP k) = atKey l (kP k) := by
        unfold atKey
        rw [List.find?_cons, decide_eq_false fun z => e (kP_inj (h1.key.symm.trans z))]
      have eb : pkey (y :: m) k = pkey m k := by
        unfold pkey
        rw [List.find?_cons, decide_eq_false e]
      rw [ea, eb]
      exact ih
theorem pe_map (h : A2 (Pe K R H) es xs) {k : KP} {u : Value} {v : V} {b : α} (hv : R v b) (ru : RelV v u) : A2 (Pe K R H) (es.map (putAt (kP k) u)) (xs.map fun kv => if kv.1 = k then (kv.1, b) else kv) := by
  induction h with
  | nil => exact .nil
  | @cons x y l m h1 h2 ih =>
    rw [List.map_cons, List.map_cons]
    refine .cons ?_ ih
    unfold putAt
    by_cases e : y.1 = k
    · rw [if_pos (by rw [h1.key, e]), if_pos e]
      exact ⟨h1.key, h1.ok, h1.at_, v, hv, ru⟩
    · rw [if_neg fun z => e (kP_inj (h1.key.symm.trans z)), if_neg e]
      exact h1
theorem pe_put (h : A2 (Pe K R H) es xs) {k : KP} {a : Addr} {u : Value} {v : V} {b : α} (hk : okP k) (ha : SqT K H a ((kP k).map pkV)) (hv : R v b) (ru : RelV v u) : A2 (Pe K R H) (storedH es (kP k) a u) (pput xs k b) := by
  unfold storedH pput
  rcases pe_at h k with ⟨p, b', v', e1, e2, _, _⟩ | ⟨e1, e2⟩
  · rw [e1, e2, if_pos (show (some p).isSome = true from rfl), if_pos (show (some b').isSome = true from rfl)]
    exact pe_map h hv ru
  · rw [e1, e2, if_neg (show ¬ (none : Option (Addr × Value)).isSome = true from fun z => nomatch z), if_neg (show ¬ (none : Option α).isSome = true from fun z => nomatch z)]
    exact A2.app (.one ⟨rfl, hk, ha, v, hv, ru⟩) h
theorem putAt_key {k : PKy} {u : Value} {l : List PEt} : (l.map (putAt k u)).map (·.1) = l.map (·.1) := by
  rw [List.map_map]
  refine List.map_congr_left fun x _ => ?_
  show (putAt k u x).1 = x.1
  unfold putAt
  split <;> rfl
theorem nd_put {k : PKy} {a : Addr} {u : Value} (h : (es.map (·.1)).Nodup) : ((storedH es k a u).map (·.1)).Nodup := by
  unfold storedH
  split
  · rw [putAt_key]; exact h
  · rename_i hn
    rw [List.map_append, List.map_cons, List.map_nil]
    refine List.nodup_append.mpr ⟨h, by simp, fun x hx y hy => ?_⟩
    rw [List.mem_singleton] at hy
    subst hy
    intro e
    subst e
    obtain ⟨z, hz, e⟩ := List.mem_map.mp hx
    refine hn ?_
    unfold atKey
    rw [Option.isSome_map, List.find?_isSome]
    exact ⟨z, hz, by simpa using e⟩
theorem len_put {k : PKy} {a : Addr} {u : Value} : (storedH es k a u).length ≤ es.length + 1 := by
  unfold storedH
  split
  · rw [List.length_map]; omega
  · rw [List.length_append]; exact Nat.le_refl _
end
/-- the keys' kind -/
abbrev rKP (K : PySem.W.Frag) : Rp KP := rP K rS (rO rS)
theorem key_to {K : PySem.W.Frag} {H : Hp} {v : V} {k : KP} (h : rKP K H v k) : ∃ b, v = .ref b ∧ SqT K H b ((kP k).map pkV) ∧ okP k := by
  obtain ⟨a, x, y, ev, hs, ⟨hx, ox⟩, hy⟩ := h
  obtain ⟨k1, k2⟩ := k
  cases k2 with
  | none =>
    have hy' : y = .non := hy
    subst hx hy'
    exact ⟨a, ev, hs, ox, fun t z => nomatch z⟩
  | some t =>
    obtain ⟨hy', oy⟩ := (show y = .str t ∧ okS t from hy)
    subst hx hy'
    exact ⟨a, ev, hs, ox, fun t' z => by cases z; exact oy⟩
theorem key_back {K : PySem.W.Frag} {H : Hp} {b : Addr} {k : KP} (h : SqT K H b ((kP k).map pkV)) (o : okP k) : rKP K H (.ref b) k := by
  obtain ⟨k1, k2⟩ := k
  cases k2 with
  | none => exact ⟨b, .str k1, .non, rfl, h, ⟨rfl, o.1⟩, rfl⟩
  | some t => exact ⟨b, .str k1, .str t, rfl, h, ⟨rfl, o.1⟩, rfl, o.2 t rfl⟩

def npd (P : Program) (w : World) (K : PySem.W.Frag) {β : Type} (r : Rp β) : Rs K (List (KP × β)) where
  rep := fun H v xs as => ∃ (p : Addr) (ep : Nat) (es : List PEt), as = [p] ∧ v = .ref p ∧ H p = some (PDO P w p ep es) ∧ (p == sysModules) = false ∧ (es.map fun (x : PEt) => x.1).Nodup ∧ A2 (Pe K (Stb K r H) H) es xs
  stay := fun ⟨p, ep, es, e, ev, h, hs, nd, q⟩ x k => ⟨p, ep, es, e, ev, k p (by rw [e]; exact List.mem_singleton.mpr rfl) _ h, hs, nd, q.imp fun _ _ z => z.up (fun _ _ y => y.up x) x⟩
  there := fun ⟨p, ep, es, e, _, h, _⟩ b hb => by
    rw [e] at hb
    cases List.mem_singleton.mp hb
    exact ⟨_, h, fun z => z⟩
/-- .. that is read -/
def rPD (P : Program) (w : World) (K : PySem.W.Frag) {β : Type} (r : Rp β) : Rp (List (KP × β)) := fun H v xs => ∃ (p : Addr) (ep : Nat) (es : List PEt), v = .ref p ∧ H p = some (PDO P w p ep es) ∧ (p == sysModules) = false ∧ (es.map fun (x : PEt) => x.1).Nodup ∧ A2 (Pe K (r H) H) es xs ∧ xs.length ≤ 100000
section
variable {P : Program} {w : World} {K : PySem.W.Frag} {H0 H1 H H' : Hp} {σ : L2.St} {G G' : Cells K} {α β : Type} {D : Ends}
variable {ta tb te td ty tx tv : TE} {r : Rp α} {x x' : α} {k : KP} {i : Nat} {xs ys : List (KP × α)}
instance [M : Mono r] : Mono (rPD P w K r) := ⟨fun {H H' v xs} e h => by
  obtain ⟨p, ep, es, ev, h, hs, nd, q, hz⟩ := h
  exact ⟨p, ep, es, ev, e _ _ h, hs, nd, q.imp fun _ _ z => z.up (fun _ _ y => M.up e y) (ext_same e), hz⟩⟩
theorem pd_at {R : V → α → Prop} {p : Addr} {ep : Nat} {es : List PEt} (h : H p = some (PDO P w p ep es)) (hs : (p == sysModules) = false) (nd : (es.map (·.1)).Nodup) (q : A2 (Pe K R H) es xs) (hz : xs.length ≤ 100000) : PdAt P w K H p ep es := by
  refine ⟨h, ?_, nd, by rw [q.len]; exact sz hz, hs⟩
  clear hz nd h
  induction q with
  | nil => exact fun x hx => nomatch hx
  | cons h1 _ ih =>
    intro x hx
    rcases List.mem_cons.mp hx with e | e
    · subst e; exact h1.at_
    · exact ih x e
theorem a_pdO (h : G[i]? = some (some (.ow (npd P w K r) xs))) (hz : xs.length ≤ 100000) : Ev (rPD P w K r) (tVar i) G xs := fun H0 σ H E Q k => by
  obtain ⟨own, _, _, h3⟩ := E.at_
  obtain ⟨v, hv, p, ep, es, _, ev, hp, hs, nd, q⟩ := h3 i _ h
  exact ⟨v, hv, k v H (Same.refl H) ⟨p, ep, es, ev, hp, hs, nd, q.imp fun _ _ z => z.up (fun _ _ y => y.now) (ExT.refl _), hz⟩⟩
theorem nw_pnew : Nw (npd P w K r) (tPNew P w) G [] := fun H0 σ H E Q k p ep hp hs => k _ _ [p] (same_new hp) (fun b hb => by rw [List.mem_singleton.mp hb]; exact hp) ⟨p, ep, [], rfl, rfl, upd_same, hs, List.nodup_nil, .nil⟩
theorem a_pget (h : Ev (rPD P w K r) td G xs) (h' : Ev (rKP K) ty G k) (M : Mono r) (hx : pkey xs k = some x) : Ev r (tPGet P w K td ty) G x := fun H0 σ H E Q c =>
  h H0 σ H E _ fun v H1 e1 hd => h' H0 σ H1 (E.grow e1) _ fun y H2 e2 hy => by
    obtain ⟨p, ep, es, ev, hp, hs, nd, q, hz⟩ := (inferInstance : Mono (rPD P w K r)).up e2 hd
    obtain ⟨b, ey, hb, ok⟩ := key_to hy
    refine ⟨p, ep, es, b, kP k, ev, pd_at hp hs nd q hz, ey, hb, ?_⟩
    rcases pe_at q k with ⟨p', b', v', e5, e6, hq, rv⟩ | ⟨e5, e6⟩
    · rw [hx] at e6
      cases e6
      exact ⟨p', v', e5, rv, c _ H2 (e1.trans e2) hq⟩
    · rw [hx] at e6
      cases e6
theorem a_pIn (h : Ev (rKP K) ty G k) (h' : Ev (rPD P w K r) td G xs) (M : Mono r) : Ev rB (tPIn P w K ty td) G (pkey xs k).isSome := fun H0 σ H E Q c =>
  h H0 σ H E _ fun y H1 e1 hy => h' H0 σ H1 (E.grow e1) _ fun v H2 e2 ⟨p, ep, es, ev, hp, hs, nd, q, hz⟩ => by
    obtain ⟨b, ey, hb, ok⟩ := key_to hy
    refine ⟨p, ep, es, b, kP k, ev, pd_at hp hs nd q hz, ey, ext_same e2 _ _ hb, ?_⟩
    rcases pe_at q k with ⟨p', b', v', e5, e6, _, _⟩ | ⟨e5, e6⟩
    · rw [e5]; exact c _ H2 (e1.trans e2) (by rw [e6]; rfl)
    · rw [e5]; exact c _ H2 (e1.trans e2) (by rw [e6]; rfl)
theorem a_pNin (h : Ev (rKP K) ty G k) (h' : Ev (rPD P w K r) td G xs) (M : Mono r) : Ev rB (tPNotIn P w K ty td) G (!(pkey xs k).isSome) := fun H0 σ H E Q c =>
  h H0 σ H E _ fun y H1 e1 hy => h' H0 σ H1 (E.grow e1) _ fun v H2 e2 ⟨p, ep, es, ev, hp, hs, nd, q, hz⟩ => by
    obtain ⟨b, ey, hb, ok⟩ := key_to hy
    refine ⟨p, ep, es, b, kP k, ev, pd_at hp hs nd q hz, ey, ext_same e2 _ _ hb, ?_⟩
    rcases pe_at q k with ⟨p', b', v', e5, e6, _, _⟩ | ⟨e5, e6⟩
    · rw [e5]; exact c _ H2 (e1.trans e2) (by rw [e6]; rfl)
    · rw [e5]; exact c _ H2 (e1.trans e2) (by rw [e6]; rfl)
/-- d[k] = v -/
theorem l_pput (hi : G[i]? = some (some (.ow (npd P w K r) xs))) (hk : Ev (rKP K) ty G k) (h : Ev r tv G x') (ex : x' = x) (hz : xs.length < 100000) (c : Nx H0 (G.set i (some (.ow (npd P w K r) (pput xs k x)))) D.nx) (F : Frz K r := by infer_instance) :
    Sv H0 G (sPPut P w K (tVar i) ty tv) D := fun σ H ⟨H1, e1, E⟩ => by
  subst ex
  refine h H1 σ H E _ fun u H2 e2 hu => ?_
  have E2 := E.grow e2
  obtain ⟨own, h1, h2, h3⟩ := id E2.at_
  obtain ⟨v, hv, p, ep, es, ea, ev, hp, hs, nd, z⟩ := h3 i _ hi
  subst ev
  refine ⟨_, hv, hk H1 σ H2 E2 _ fun y H3 e3 hy => ?_⟩
  have E3 := E2.grow e3
  have hp3 := e3 _ _ hp
  obtain ⟨b, ey, hb, ok⟩ := key_to hy
  have z3 : A2 (Pe K (Stb K r H3) H3) es xs := z.imp fun _ _ q => q.up (fun _ _ y => y.up (ext_same e3)) (ext_same e3)
  refine ⟨p, ep, es, b, kP k, rfl, pd_at hp3 hs nd z3 (by omega), ey, hb, fun ep' u' ru => c _ _ ⟨H1, e1, ?_⟩⟩
  have x0 : ExT K H3 (upd H3 p (PDO P w p ep' (storedH es (kP k) b u'))) := ext_upd hp3 fun z => z
  have z4 := z3.imp fun _ _ q => q.up (R' := Stb K r (upd H3 p (PDO P w p ep' (storedH es (kP k) b u')))) (fun _ _ y => y.up x0) x0
  refine E3.mut (as := [p]) (R := npd P w K r) (R' := npd P w K r) hi hv x0 (fun c o hc ho => ?_) (fun w' bs hw' ⟨p', _, _, e6, e7, _⟩ => ?_) ⟨p, _, _, rfl, rfl, upd_same, hs, nd_put nd, pe_put z4 ok (x0 _ _ hb) ((stb (F.up (ext_same e3) hu)).up x0) ru⟩
  · rw [upd_ne fun z => hc (by rw [z]; exact List.mem_singleton.mpr rfl)]
    exact ho
  · rw [hv] at hw'
    cases hw'
    cases e7
    exact e6
theorem q_pput {t : TS} (hi : G[i]? = some (some (.ow (npd P w K r) xs))) (hk : Ev (rKP K) ty G k) (h : Ev r tv G x') (ex : x' = x) (hz : xs.length < 100000) (c : Sv H0 (G.set i (some (.ow (npd P w K r) (pput xs k x)))) t D) (F : Frz K r := by infer_instance) :
    Sv H0 G (tSeq (sPPut P w K (tVar i) ty tv) t) D := l_pput (D := { D with nx := t D }) hi hk h ex hz c F
/-- for k in d -/
theorem wj_pkeys {R : V → α → Prop} {p : Addr} {ep : Nat} {es : List PEt} (h : H1 p = some (PDO P w p ep es)) (hs : (p == sysModules) = false) (nd : (es.map (·.1)).Nodup) (q : A2 (Pe K R H1) es xs) (hz : xs.length ≤ 100000) : Wj (Itp P w K p ep es) (rKP K) H1 (xs.map (·.1)) where
  go := fun H i x e hx => by
    rw [List.getElem?_map] at hx
    obtain ⟨⟨k, b⟩, hy, ek⟩ := Option.map_eq_some_iff.mp hx
    obtain ⟨⟨kk, a, u⟩, hen, pe⟩ := q.get' hy
    have D : PdAt P w K H p ep es := pd_at (e _ _ h) hs nd (q.imp fun _ _ z => z.up (R' := R) (fun _ _ y => y) (ext_same e)) hz
    refine ⟨⟨D, (List.getElem?_eq_some_iff.mp hen).1⟩, fun v H' ⟨e1, k', a', u', e2, e3⟩ => ?_⟩
    subst e1 e3 ek
    rw [hen] at e2
    cases e2
    have hk := pe.at_
    rw [pe.key] at hk
    exact ⟨Same.refl _, key_back (ext_same e _ _ hk) pe.ok⟩
  stop := fun H e => ⟨pd_at (e _ _ h) hs nd (q.imp fun _ _ z => z.up (R' := R) (fun _ _ y => y) (ext_same e)) hz, by rw [List.length_map]; exact Nat.le_of_eq q.len⟩
theorem wk_pro {M : Mono (rPD P w K r)} (h : G[i]? = some (some (.ro (rPD P w K r) M xs)) := by rfl) : Wk (iPKeys P w K (tVar i)) (rKP K) G G (xs.map (·.1)) := fun H1 σ H E R k => by
  obtain ⟨own, _, _, h3⟩ := E.at_
  obtain ⟨v, hv, _, p, ep, es, ev, hp, hs, nd, q, hz⟩ := h3 i _ h
  exact ⟨v, hv, p, ep, es, ev, pd_at (E.old _ _ hp) hs nd (q.imp fun _ _ z => z.up (R' := r H1) (fun _ _ y => y) (ext_same E.old)) hz, k _ H1 H (Same.refl _) (Same.refl _) E (wj_pkeys hp hs nd q hz)⟩
theorem wk_pown [M : Mono r] (h : G[i]? = some (some (.ow (npd P w K r) xs))) (hz : xs.length ≤ 100000) : Wk (iPKeys P w K (tVar i)) (rKP K) G (G.set i (rc (rPD P w K r) xs)) (xs.map (·.1)) := fun H1 σ H E R k => by
  obtain ⟨own, E⟩ := E.o
  obtain ⟨H2, s1, E2⟩ := E.frz (rv := rPD P w K r) h fun H v as ⟨p, ep, es, _, ev, hp, hs, nd, q⟩ => ⟨p, ep, es, ev, hp, hs, nd, q.imp fun _ _ z => z.up (fun _ _ y => y.now) (ExT.refl _), hz⟩
  have hl : i < G.length := (List.getElem?_eq_some_iff.mp h).1
  exact wk_pro (M := inferInstance) (List.getElem?_set_self hl) H2 σ H E2 R fun J H3 H' a b c d => k J H3 H' (s1.trans a) b c d
/-- a == b -/
noncomputable def pdSame (xs ys : List (KP × α)) : Bool := xs.length == ys.length && xs.all fun kv => match pkey ys kv.1 with
  | none => false
  | some y => eqB kv.2 y
theorem phit_of (DD : DatC K r) {es fs : List PEt} (h : A2 (Pe K (r H) H) es xs) (h' : A2 (Pe K (r H) H) fs ys) : PHit P w K H fs es (xs.all fun kv => match pkey ys kv.1 with
  | none => false
  | some y => eqB kv.2 y) := by
  obtain ⟨D, hd⟩ := DD
  induction h with
  | nil => exact .nil
  | @cons x y l m h1 h2 ih =>
    obtain ⟨k, a, u⟩ := x
    obtain ⟨v, hv, rv⟩ := h1.val
    rw [List.all_cons]
    have hk : k = kP y.1 := h1.key
    rcases pe_at h' y.1 with ⟨p, b, v', e1, e2, hv', rv'⟩ | ⟨e1, e2⟩
    · rw [e2]
      have e3 : eqB y.2 b = PyData.eqv (D.enc y.2) (D.enc b) := by rw [D.eqv]; unfold eqB; congr
      show PHit P w K H fs ((k, a, u) :: l) (eqB y.2 b && _)
      rw [e3]
      exact .hit (by rw [hk]; exact e1) rv rv' (D.dp hv) (D.dp hv') (dat_shaped D (Nat.le_of_lt hd) hv) (dat_shaped D (Nat.le_of_lt hd) hv') ih
    · rw [e2]
      exact .miss (by rw [hk]; exact e1)
theorem a_peq (h : Ev (rPD P w K r) ta G xs) (h' : Ev (rPD P w K r) tb G ys) (M : Mono r) (DD : DatC K r) : Ev rB (tOp (rPEq P w K) ta tb) G (pdSame xs ys) := ev_op h h' fun H u v ⟨p, ep, es, eu, hp, hs, nd, q, hz⟩ ⟨p', ep', es', ev, hp', hs', nd', q', hz'⟩ Q k =>
  ⟨p, p', ep, ep', es, es', _, eu, ev, pd_at hp hs nd q hz, pd_at hp' hs' nd' q' hz', fun _ => phit_of DD q q', k _ H (Same.refl H) (by show V.bl _ = V.bl _; rw [q.len, q'.len]; rfl)⟩
end
end Gt
/-! Gt46: the rules of Gt42..Gt45 by their own letters; f"..{x:<17}.."; text.ljust(n); sorted(list of texts); sep.join(tuple). -/
namespace Gt
open PySem PySem.Spec PyProof.Rows L2
section
variable {X : Cx} (P : Program) (w : World) (K : PySem.W.Frag) {o i e value : Expr} {pos pos' tpos : Pos} {td ty tv to te : TE} {tg : Expr}
theorem pe_pnewK (hP : X.prog = P := by rfl) (hw : X.w = w := by rfl) : PE X (.Dict [] [] pos) (tPNew P w) := by subst hP hw; exact pe_pnew
theorem pe_pgetK (hu : X.A.units + 1 < cLine) (ho : PE X o td) (hi : PE X i ty) (hs : NoSl i) (hP : X.prog = P := by rfl) (hw : X.w = w := by rfl) (hK : X.K = K := by rfl) : PE X (.Subscript o i pos) (tPGet P w K td ty) := by subst hP hw hK; exact pe_pget hu ho hi hs
theorem pc_pinK (hu : X.A.units + 1 < cLine) (hi : PE X i ty) (ho : PE X o td) (hP : X.prog = P := by rfl) (hw : X.w = w := by rfl) (hK : X.K = K := by rfl) : PC X .In i o (tPIn P w K ty td) := by subst hP hw hK; exact pc_pin hu hi ho
theorem pc_pnotinK (hu : X.A.units + 1 < cLine) (hi : PE X i ty) (ho : PE X o td) (hP : X.prog = P := by rfl) (hw : X.w = w := by rfl) (hK : X.K = K := by rfl) : PC X .NotIn i o (tPNotIn P w K ty td) := by subst hP hw hK; exact pc_pnotin hu hi ho
theorem ps_pputK (hu : X.A.units + 1 < cLine) (ho : PE X o td) (hi : PE X i ty) (hv : PE X value tv) (hs : swapsWith value (some (.Subscript o i pos')) pos.line X.env = pure false) (hP : X.prog = P := by rfl) (hw : X.w = w := by rfl) (hK : X.K = K := by rfl) :
    PS X (.Assign [.Subscript o i pos'] value pos) (sPPut P w K td ty tv) := by subst hP hw hK; exact ps_pput hu ho hi hv hs
theorem pi_pkeysK (he : PE X e td) (hP : X.prog = P := by rfl) (hw : X.w = w := by rfl) (hK : X.K = K := by rfl) : PI X tg e (iPKeys P w K td) := by subst hP hw hK; exact pi_pkeys he
theorem k_peq (hu : X.A.units + 66 < cLine) (hP : X.prog = P := by rfl) (hw : X.w = w := by rfl) (hK : X.K = K := by rfl) : OpR X (compareOp .Eq) (rPEq P w K) := by subst hP hw hK; exact op_peq hu
theorem k_sortedS (hK : X.K = K := by rfl) : CallR X (.builtin "sorted") (rSortedS K) := by subst hK; exact cr_sortedS
end
section
variable {X : Cx} {o e : Expr} {to te : TE}
theorem pe_ljust {apos pos : Pos} (ho : PE X o to) (he : PE X e te) (hs : starEach [e] X.env = [(false, eval e X.env)] := by rfl) (hbase : attributeBase o "ljust" X.env (eval o X.env) = eval o X.env := by rfl) (hline : (apos.endLine == pos.line) = true := by rfl) :
    PE X (.Call (.Attribute o "ljust" apos) [e] [] pos) (tM1 (fun x xs H Q => ∃ (a : Str) (i : Int), x = .str a ∧ xs = [.int i] ∧ PadOk i = true ∧ Q (.str (Txt.ljust a i)) H) to te) :=
  pe_m1 F.slot_str_ljust F.type_str_ljust mt_ljust ho he hs hbase hline
end
/-! ### sorted -/
def LeS (a b : Str) : Prop := ¬ LtS b a
theorem leS_tr {a b c : Str} (h : LeS a b) (h' : LeS b c) : LeS a c := fun z => by
  by_cases e : b = c
  · subst e; exact h z
  · exact h (ltS_tr (ltS_tot h' (Ne.symm e)) z)
theorem leS_as {a b : Str} (h : LeS a b) (h' : LeS b a) : a = b := by
  by_cases e : a = b
  · exact e
  · exact absurd (ltS_tot h' e) h
theorem leS_of {x p : Str} (h : (!ltCps x.cps.toList p.cps.toList) = true) : LeS p x := fun c => by
  rw [ltCps_eq] at h
  have c' : decide (x.cps.toList < p.cps.toList) = true := decide_eq_true c
  rw [c'] at h
  cases h
theorem rising_leS : ∀ (p : Str) (l : List Str), risingS p l = true → (p :: l).Pairwise LeS
  | p, [], _ => by simp
  | p, x :: r, h => by
    have h0 : (!ltCps x.cps.toList p.cps.toList && risingS x r) = true := h
    rw [Bool.and_eq_true] at h0
    have ih := rising_leS x r h0.2
    have hx := leS_of h0.1
    refine List.pairwise_cons.mpr ⟨fun y hy => ?_, ih⟩
    rcases List.mem_cons.mp hy with e | e
    · exact e ▸ hx
    · exact leS_tr hx ((List.pairwise_cons.mp ih).1 y e)
theorem sorted_leS {l : List Str} (h : sortedS l = true) : l.Pairwise LeS := by
  cases l with
  | nil => exact .nil
  | cons p r => exact rising_leS p r h
noncomputable def insL (x : Str) : List Str → List Str
  | [] => [x]
  | y :: r => @ite _ (LtS y x) (Classical.propDecidable _) (y :: insL x r) (x :: y :: r)
noncomputable def srtL : List Str → List Str
  | [] => []
  | x :: r => insL x (srtL r)
theorem insL_perm (x : Str) : ∀ l : List Str, (insL x l).Perm (x :: l)
  | [] => .refl _
  | y :: r => by
    unfold insL
    split
    · exact ((insL_perm x r).cons y).trans (.swap x y r)
    · exact .refl _
theorem srtL_perm : ∀ l : List Str, (srtL l).Perm l
  | [] => .refl _
  | x :: r => (insL_perm x _).trans ((srtL_perm r).cons x)
theorem insL_srt (x : Str) : ∀ l : List Str, l.Pairwise LeS → (insL x l).Pairwise LeS
  | [], _ => by unfold insL; simp
  | y :: r, h => by
    obtain ⟨h1, h2⟩ := List.pairwise_cons.mp h
    unfold insL
    split
    · rename_i c
      refine List.pairwise_cons.mpr ⟨fun z hz => ?_, insL_srt x r h2⟩
      rcases List.mem_cons.mp ((insL_perm x r).mem_iff.mp hz) with e | e
      · subst e
        exact fun d => ltS_irr _ (ltS_tr c d)
      · exact h1 z e
    · rename_i c
      refine List.pairwise_cons.mpr ⟨fun z hz => ?_, h⟩
      rcases List.mem_cons.mp hz with e | e
      · subst e; exact c
      · exact leS_tr c (h1 z e)
theorem srtL_srt : ∀ l : List Str, (srtL l).Pairwise LeS
  | [] => .nil
  | x :: r => insL_srt x _ (srtL_srt r)
theorem srtL_of {xs ys : List Str} (hp : ys.Perm xs) (hs : sortedS ys = true) : ys = srtL xs :=
  (hp.trans (srtL_perm xs).symm).eq_of_pairwise (fun a b _ _ h h' => leS_as h h') (sorted_leS hs) (srtL_srt xs)
section
variable {K : PySem.W.Frag} {G : Cells K} {ta tb te ts : TE} {a b s : Str} {i : Int}
theorem a_srtL {xs : List Str} (h : Ev (rL rS) ta G xs) (hb : xs.length < 64) : Nw (nl K rS) (tCB (rSortedS K) (tCons ta tNil)) G (srtL xs) := fun H0 σ H E Q k =>
  h H0 σ H E _ fun v H1 e1 ⟨p, us, ev, hp, z⟩ => by
    have eu : us = xs.map V.str := strs_A2 z
    have ok : ∀ x ∈ xs, okS x := A2_mem (H := H1) (z.imp fun _ _ q => q.2)
    refine ⟨p, xs, by rw [ev], by rw [← eu]; exact SqL.of hp, hb, fun ys q hpm hs hq => ?_⟩
    have en := srtL_of hpm hs
    subst en
    refine k _ _ [q] (e1.trans (same_new hq)) (fun b hb => by rw [List.mem_singleton.mp hb]; exact e1.free hq) ⟨q, _, rfl, rfl, upd_same, stbs (A2_strs (srtL xs) fun x hx => ⟨rfl, ok x (hpm.mem_iff.mp hx)⟩)⟩
theorem ev_ljust (h : Ev rS ta G a) (h' : Ev rI tb G i) (hp : PadOk i = true) (hk : okS (Txt.ljust a i)) :
    Ev rS (tM1 (fun x xs H Q => ∃ (a : Str) (i : Int), x = .str a ∧ xs = [.int i] ∧ PadOk i = true ∧ Q (.str (Txt.ljust a i)) H) ta tb) G (Txt.ljust a i) := fun H0 σ H E Q k =>
  h H0 σ H E _ fun v H1 e1 z1 => ⟨⟨a, z1.1⟩, h' H0 σ H1 (E.grow e1) _ fun w H2 e2 z2 => ⟨a, i, z1.1, by rw [show w = .int i from z2], hp, k _ H2 (e1.trans e2) ⟨rfl, hk⟩⟩⟩
theorem ev_joinT {xs : List Str} (h : Ev rS ta G s) (h' : Ev (rT K rS) tb G xs) (hz : (xs.map (·.length)).sum + xs.length * s.length ≤ 16777216) (hk : okS (Txt.join s xs)) :
    Ev rS (tM1 (fun x xs H Q => ∃ a p, ∃ ys : List Str, x = .str a ∧ xs = [.ref p] ∧ (SqL K H p (ys.map V.str) ∨ SqT K H p (ys.map V.str)) ∧ (ys.map (·.length)).sum + ys.length * a.length ≤ 16777216 ∧ Q (.str (Txt.join a ys)) H) ta tb) G (Txt.join s xs) := fun H0 σ H E Q k =>
  h H0 σ H E _ fun v H1 e1 z1 => ⟨⟨s, z1.1⟩, h' H0 σ H1 (E.grow e1) _ fun w H2 e2 ⟨p, vs, ev, hp, z2⟩ => ⟨s, p, xs, z1.1, by rw [ev], .inr (by rw [← strs_A2 z2]; exact hp), hz, k _ H2 (e1.trans e2) ⟨rfl, hk⟩⟩⟩
/-! ### f-strings -/
theorem ev_fmt (h : Ev rS te G a) : Ev rS (tFmt te) G a := fun H0 σ H E Q k => h H0 σ H E _ fun v H1 e1 z => .inl ⟨a, z.1, sz z.2.1, k _ H1 e1 ⟨rfl, z.2⟩⟩
inductive EJ (G : Cells K) : List TE → List Str → Prop
  | nil : EJ G [] []
  | cons {t : TE} {ts : List TE} {a : Str} {as : List Str} (h : Ev rS t G a) (r : EJ G ts as) : EJ G (t :: ts) (a :: as)
def catS (acc : Str) : List Str → Str
  | [] => acc
  | a :: as => catS (acc ++ a) as
theorem strApp_len (a b : Str) : (a ++ b).length = a.length + b.length := by
  show (a.cps ++ b.cps).size = a.cps.size + b.cps.size
  exact Array.size_append
theorem catS_len : ∀ (as : List Str) (acc : Str), acc.length ≤ (catS acc as).length
  | [], acc => Nat.le_refl _
  | a :: as, acc => by
    have := catS_len as (acc ++ a)
    rw [strApp_len] at this
    show acc.length ≤ (catS (acc ++ a) as).length
    omega
theorem ej_run {tl : List TE} {as : List Str} (h : EJ G tl as) : ∀ (acc : Str) (H0 : Hp) (σ : L2.St) (H : Hp) (Q : Str → Hp → Prop), Env H0 σ H G → (catS acc as).length ≤ 100000 → (∀ H', Same H H' → Q (catS acc as) H') → tJs tl acc σ H Q := by
  induction h with
  | nil => exact fun acc H0 σ H Q E hz k => k H (Same.refl H)
  | @cons t ts a as h r ih =>
    intro acc H0 σ H Q E hz k
    refine h H0 σ H E _ fun v H1 e1 z => ⟨a, z.1, sz ?_, ih (acc ++ a) H0 σ H1 Q (E.grow e1) hz fun H' e => k H' (e1.trans e)⟩
    exact Nat.le_trans (catS_len as (acc ++ a)) hz
theorem ev_js {tl : List TE} {as : List Str} (h : EJ G tl as) (hk : okS (catS Str.empty as)) : Ev rS (fun σ H Q => tJs tl Str.empty σ H fun out H1 => Q (.str out) H1) G (catS Str.empty as) := fun H0 σ H E Q k =>
  ej_run h Str.empty H0 σ H _ E hk.1 fun H' e => k _ H' e ⟨rfl, hk⟩
theorem ev_spW : Ev rS (tC (.str "<17")) G spW := ev_c fun _ => ⟨rfl, by decide +kernel⟩
end
end Gt
namespace Gt
open PySem PySem.Spec PyProof.Rows L2
noncomputable def m_format_table (table1 : (List (KP × (List Str)))) : M Str := mb (.ok ([] : (List Str))) fun lines2 => mb (mfor (fun (s3 : (List Str)) (x4 : (Str × (Option Str))) => mb (.ok (bif (isNone' x4.2) then some ("*" : Str) else x4.2)) fun shown6 => mb (oM (pkey table1 (x4.1, x4.2))) fun t7 => mb (chk (decide ((t7.map (·.length)).sum + t7.length * (" " : Str).length ≤ 16777216))) fun _ => mb (chk (decide (okS (Txt.join (" " : Str) t7)))) fun _ => mb (.ok (Txt.join (" " : Str) t7)) fun side10 => mb (chk (decide (x4.1.length ≤ 99000))) fun _ => mb (oM shown6) fun z12 => mb (chk (decide (z12.length ≤ 99000))) fun _ => mb (chk (decide (okS (catS Str.empty [Txt.ljust x4.1 (17 : Int), (" " : Str), Txt.ljust z12 (17 : Int), (" -> " : Str), side10])))) fun _ => mb (chk (decide (s3.length < 100000))) fun _ => mb (.ok (s3 ++ [catS Str.empty [Txt.ljust x4.1 (17 : Int), (" " : Str), Txt.ljust z12 (17 : Int), (" -> " : Str), side10]])) fun lines16 => .ok lines16) lines2 (table1.map (·.1))) fun s5 => mb (chk (decide (s5.length ≤ 100000))) fun _ => mb (chk (decide ((s5.map (fun (y17 : Str) => y17)).length < 64))) fun _ => mb (chk (decide (((srtL (s5.map (fun (y17 : Str) => y17))).map (·.length)).sum + (srtL (s5.map (fun (y17 : Str) => y17))).length * ("\n" : Str).length ≤ 16777216))) fun _ => mb (chk (decide (okS (Txt.join ("\n" : Str) (srtL (s5.map (fun (y17 : Str) => y17))))))) fun _ => .ok (Txt.join ("\n" : Str) (srtL (s5.map (fun (y17 : Str) => y17))))
noncomputable def m__law_cell (script1 : (List Int)) (k2 : Int) : M Int := mb (bif (decide (k2 < (script1.length : Int))) then mb (oM (atI script1 k2)) fun t3 => .ok t3 else .ok (0 : Int)) fun c4 => .ok c4
noncomputable def m__law_draws (cellhere1 : Int) (many2 : Int) : M (List Int) := mb (.ok (cellhere1 * (b2 (decide (((10 : Int) ^ ((18 : Int)).toNat) ≤ cellhere1))))) fun rest3 => mb (.ok ([] : (List Int))) fun row4 => mb (chk (decide (-100000 ≤ many2 ∧ many2 ≤ 100000))) fun _ => mb (mfor (fun (s6 : (Int × (List Int))) (x7 : Int) => bif (decide ((0 : Int) < s6.1)) then mb (chk (decide (s6.2.length < 100000))) fun _ => mb (.ok (s6.2 ++ [s6.1 % (840 : Int)])) fun row10 => mb (.ok (s6.1 / (840 : Int))) fun rest11 => .ok (rest11, row10) else mb (.ok ((((cellhere1 * (48271 : Int)) + (x7 * (6961 : Int))) + (1013 : Int)) % (1000003 : Int))) fun mixed12 => mb (chk (decide (CMul mixed12 mixed12))) fun _ => mb (.ok ((((mixed12 * mixed12) + ((11 : Int) * mixed12)) + x7) % (999983 : Int))) fun mixed14 => mb (chk (decide (CMul mixed14 mixed14))) fun _ => mb (chk (decide (s6.2.length < 100000))) fun _ => mb (.ok (s6.2 ++ [(((mixed14 * mixed14) + ((3 : Int) * mixed14)) % (99991 : Int)) % (840 : Int)])) fun row17 => .ok (s6.1, row17)) (rest3, row4) (ups many2.toNat)) fun s8 => .ok s8.2
noncomputable def m__law_word (row1 : (List Int)) (capital2 : Bool) : M Str := mb (.ok ("abcdefghijklmnopqrstuvwxyz" : Str)) fun letters3 => mb (oM (atI row1 (1 : Int))) fun t4 => mb (oM (atI (chs letters3) (t4 % (26 : Int)))) fun t5 => mb (bif capital2 then mb (chk (decide (okS (Txt.upper t5)))) fun _ => mb (.ok (Txt.upper t5)) fun text8 => .ok text8 else .ok t5) fun (s6 : Str) => mb (chk (decide (okS (Txt.upper letters3)))) fun _ => mb (chk (decide (letters3.length + (Txt.upper letters3).length ≤ 100000))) fun _ => mb (chk (decide ((letters3 ++ (Txt.upper letters3)).length + ("0123456789" : Str).length ≤ 100000))) fun _ => mb (.ok ((letters3 ++ (Txt.upper letters3)) ++ ("0123456789" : Str))) fun every12 => mb (oM (atI row1 (0 : Int))) fun t13 => mb (mfor (fun (s14 : Str) (x15 : Int) => mb (oM (atI (chs every12) (x15 % (62 : Int)))) fun t17 => mb (chk (decide (s14.length + t17.length ≤ 100000))) fun _ => mb (.ok (s14 ++ t17)) fun text19 => .ok text19) s6 (cut row1 (some (2 : Int)) (some ((2 : Int) + (t13 % (8 : Int)))))) fun s16 => mb (bif (decide (((t13 / (8 : Int)) % (3 : Int)) = (0 : Int))) then mb (.ok ("" : Str)) fun name21 => mb (mfor (fun (s22 : Str) (x23 : Int) => mb (oM (atI (chs letters3) (x23 % (26 : Int)))) fun t25 => mb (chk (decide (s22.length + t25.length ≤ 100000))) fun _ => mb (.ok (s22 ++ t25)) fun name27 => .ok name27) name21 (cut row1 (some (9 : Int)) (some ((10 : Int) + ((t13 / (24 : Int)) % (8 : Int)))))) fun s24 => mb (chk (decide (s24.length + ("." : Str).length ≤ 100000))) fun _ => mb (chk (decide ((s24 ++ ("." : Str)).length + s16.length ≤ 100000))) fun _ => mb (.ok ((s24 ++ ("." : Str)) ++ s16)) fun text30 => .ok text30 else .ok s16) fun (s20 : Str) => mb (bif (decide (((t13 / (192 : Int)) % (4 : Int)) = (3 : Int))) then mb (.ok ([("" : Str), ("." : Str), ("9a" : Str), ("a b" : Str), ("a-b" : Str), (".a" : Str), ("a." : Str), ("a.b.c" : Str), ("A.b" : Str), ("a1.c" : Str), ("abcdefghi" : Str)])) fun odd32 => mb (chk (decide (odd32.length + ([("abcdefghi.a" : Str), ("a.9" : Str), ("a..b" : Str), ("ABCDEFGHI" : Str), ("a.Bcdefghij" : Str), (" a" : Str), ("a " : Str), ("x.a b" : Str)]).length ≤ 100000))) fun _ => mb (.ok (odd32 ++ ([("abcdefghi.a" : Str), ("a.9" : Str), ("a..b" : Str), ("ABCDEFGHI" : Str), ("a.Bcdefghij" : Str), (" a" : Str), ("a " : Str), ("x.a b" : Str)]))) fun odd34 => mb (chk (decide (odd34.length + ([("x.A-" : Str), ("a_b" : Str), ("A\n" : Str), ("->" : Str), ("Ab.C" : Str), ("x y.a" : Str), ("7.a" : Str)]).length ≤ 100000))) fun _ => mb (.ok (odd34 ++ ([("x.A-" : Str), ("a_b" : Str), ("A\n" : Str), ("->" : Str), ("Ab.C" : Str), ("x y.a" : Str), ("7.a" : Str)]))) fun odd36 => mb (chk (decide (0 < (odd36.length : Int)))) fun _ => mb (oM (atI odd36 (t4 % (odd36.length : Int)))) fun t38 => .ok t38 else .ok s20) fun (s31 : Str) => .ok s31
noncomputable def m__law_is_sign (text1 : Str) : M Bool := mb (.ok ("abcdefghijklmnopqrstuvwxyz" : Str)) fun small2 => mb (chk (decide ((("." : Str).length == 0) = false))) fun _ => mb (chk (decide (text1.length ≤ 1000))) fun _ => mb (chk (decide (∀ x ∈ Txt.split text1 ("." : Str), okS x))) fun _ => mb (.ok (Txt.split text1 ("." : Str))) fun parts6 => bif (decide ((2 : Int) < (parts6.length : Int))) then .ok false else mb (oM (atI parts6 (-(1 : Int)))) fun t7 => mb (mor (decide ((t7.length : Int) < (1 : Int))) (mb (mor (decide ((8 : Int) < (t7.length : Int))) (mb (oM (atI (chs t7) (0 : Int))) fun t8 => mb (oM (sgn t8)) fun t9 => .ok (decide (t9 ∈ ("0123456789" : Str).cps.toList)))) fun c10 => .ok c10)) fun c11 => bif c11 then .ok false else mb (mforF (fun (s12 : Unit) (x13 : Str) => mb (oM (sgn x13)) fun t15 => mb (mand (!(decide (t15 ∈ small2.cps.toList))) (mb (chk (decide (okS (Txt.upper small2)))) fun _ => .ok ((!(decide (t15 ∈ (Txt.upper small2).cps.toList))) && (!(decide (t15 ∈ ("0123456789" : Str).cps.toList)))))) fun c17 => bif c17 then .ok (.rt false) else .ok (.nx ())) () (chs t7) : M (Fl Unit Bool)) fun o14 => Fl.go o14 (fun (s12 : Unit) => bif (decide ((parts6.length : Int) = (1 : Int))) then .ok true else mb (oM (atI parts6 (0 : Int))) fun t18 => bif ((decide ((t18.length : Int) < (1 : Int))) || (decide ((8 : Int) < (t18.length : Int)))) then .ok false else mb (mforF (fun (s19 : Unit) (x20 : Str) => mb (oM (sgn x20)) fun t22 => bif (!(decide (t22 ∈ small2.cps.toList))) then .ok (.rt false) else .ok (.nx ())) () (chs t18) : M (Fl Unit Bool)) fun o21 => Fl.go o21 (fun (s19 : Unit) => .ok true) (fun x => .ok x) (fun _ => .error .stuck)) (fun x => .ok x) (fun _ => .error .stuck)
noncomputable def m__law_sign (row1 : (List Int)) (capital2 : Bool) : M Str := mb (m__law_word row1 capital2) fun t3 => mb (m__law_is_sign t3) fun t4 => bif t4 then .ok t3 else bif capital2 then .ok ("Q" : Str) else .ok ("q" : Str)
noncomputable def m_law (script1 : (List Int)) : M Bool := mb (.ok ([] : (List (KP × (List Str))))) fun table2 => mb (.ok ([] : (List Str))) fun lines3 => mb (m__law_cell script1 (0 : Int)) fun t4 => mb (chk (decide (-100000 ≤ (t4 % (9 : Int)) ∧ (t4 % (9 : Int)) ≤ 100000))) fun _ => mb (mfor (fun (s6 : ((List (KP × (List Str))) × (List Str))) (x7 : Int) => mb (m__law_cell script1 ((1 : Int) + x7)) fun t9 => mb (m__law_draws t9 (60 : Int)) fun t10 => mb (m__law_sign (cut t10 none (some (18 : Int))) true) fun t11 => mb (.ok (none : (Option Str))) fun token12 => mb (.ok (some ("*" : Str))) fun shown13 => mb (oM (atI t10 (18 : Int))) fun t14 => mb (bif (decide ((0 : Int) < (t14 % (4 : Int)))) then mb (m__law_sign (cut t10 (some (19 : Int)) (some (37 : Int))) false) fun t16 => mb (.ok (some t16)) fun token17 => mb (.ok token17) fun shown18 => .ok (token17, shown18) else .ok (token12, shown13)) fun (s15 : ((Option Str) × (Option Str))) => mb (oM (atI t10 (37 : Int))) fun t19 => mb (chk (decide (-100000 ≤ (38 : Int) ∧ (38 : Int) ≤ 100000 ∧ -100000 ≤ ((38 : Int) + (t19 % (5 : Int))) ∧ ((38 : Int) + (t19 % (5 : Int))) ≤ 100000))) fun _ => mb (chk (decide ((upsFrom (38 : Int) (((38 : Int) + (t19 % (5 : Int))) - (38 : Int)).toNat).length ≤ 100000))) fun _ => mb (mlc (fun (y21 : Int) => .ok true) (fun (y21 : Int) => mb (oM (atI t10 y21)) fun t22 => mb (m__law_sign (cut t10 (some y21) (some (y21 + (18 : Int)))) (decide ((t22 % (2 : Int)) = (1 : Int)))) fun t23 => .ok t23) (upsFrom (38 : Int) (((38 : Int) + (t19 % (5 : Int))) - (38 : Int)).toNat)) fun zs25 => mb (chk (decide (s6.1.length ≤ 100000))) fun _ => bif (!((pkey s6.1 (t11, s15.1)).isSome)) then mb (chk (decide (s6.1.length < 100000))) fun _ => mb (.ok (pput s6.1 (t11, s15.1) zs25)) fun table28 => mb (chk (decide (PadOk (17 : Int) = true))) fun _ => mb (chk (decide (okS (Txt.ljust t11 (17 : Int))))) fun _ => mb (chk (decide ((Txt.ljust t11 (17 : Int)).length + (" " : Str).length ≤ 100000))) fun _ => mb (oM s15.2) fun z32 => mb (chk (decide (okS (Txt.ljust z32 (17 : Int))))) fun _ => mb (chk (decide (((Txt.ljust t11 (17 : Int)) ++ (" " : Str)).length + (Txt.ljust z32 (17 : Int)).length ≤ 100000))) fun _ => mb (chk (decide ((((Txt.ljust t11 (17 : Int)) ++ (" " : Str)) ++ (Txt.ljust z32 (17 : Int))).length + (" -> " : Str).length ≤ 100000))) fun _ => mb (chk (decide ((zs25.map (·.length)).sum + zs25.length * (" " : Str).length ≤ 16777216))) fun _ => mb (chk (decide (okS (Txt.join (" " : Str) zs25)))) fun _ => mb (chk (decide (((((Txt.ljust t11 (17 : Int)) ++ (" " : Str)) ++ (Txt.ljust z32 (17 : Int))) ++ (" -> " : Str)).length + (Txt.join (" " : Str) zs25).length ≤ 100000))) fun _ => mb (chk (decide (s6.2.length < 100000))) fun _ => mb (.ok (s6.2 ++ [((((Txt.ljust t11 (17 : Int)) ++ (" " : Str)) ++ (Txt.ljust z32 (17 : Int))) ++ (" -> " : Str)) ++ (Txt.join (" " : Str) zs25)])) fun lines40 => .ok (table28, lines40) else .ok (s6.1, s6.2)) (table2, lines3) (ups (t4 % (9 : Int)).toNat)) fun s8 => mb (.ok ([] : (List (KP × (List Str))))) fun kept41 => mb (chk (decide (s8.1.length ≤ 100000))) fun _ => mb (mfor (fun (s43 : (List (KP × (List Str)))) (x44 : (Str × (Option Str))) => mb (oM (pkey s8.1 x44)) fun t46 => mb (chk (decide (s43.length < 100000))) fun _ => mb (.ok (pput s43 x44 t46)) fun kept48 => .ok kept48) kept41 (s8.1.map (·.1))) fun s45 => mb (m_format_table s8.1) fun t49 => mb (chk (decide (s8.2.length ≤ 100000))) fun _ => mb (chk (decide ((s8.2.map (fun (y50 : Str) => y50)).length < 64))) fun _ => mb (chk (decide (((srtL (s8.2.map (fun (y50 : Str) => y50))).map (·.length)).sum + (srtL (s8.2.map (fun (y50 : Str) => y50))).length * ("\n" : Str).length ≤ 16777216))) fun _ => mb (chk (decide (okS (Txt.join ("\n" : Str) (srtL (s8.2.map (fun (y50 : Str) => y50))))))) fun _ => mb (.ok (Txt.join ("\n" : Str) (srtL (s8.2.map (fun (y50 : Str) => y50))))) fun due55 => mb (mand true (mb (mand (decide (t49 = due55)) (mb (chk (decide (s45.length ≤ 100000))) fun _ => .ok (pdSame s8.1 s45))) fun c57 => .ok c57)) fun c58 => .ok c58
end Gt
/-! M_text: texts parted at a dot. -/
namespace Gt
open PySem PySem.Spec PyProof.Rows L2
theorem dotL : TL.tl (Str.ofString ".") = [46] := by decide +kernel
theorem dotK : (Str.ofString ".").cps.all (· < 256) = true := by decide +kernel
theorem tl_inj {x y : Str} (h : TL.tl x = TL.tl y) : x = y := TL.ext_tl h
def mkS (l : List Nat) : Str := ⟨l.toArray⟩
theorem tl_mkS (l : List Nat) : TL.tl (mkS l) = l := rfl
theorem mkS_tl (s : Str) : mkS (TL.tl s) = s := tl_inj rfl
theorem mkS_len (l : List Nat) : (mkS l).length = l.length := by rw [TL.len_tl]; rfl
theorem split_tl (s : Str) : (Txt.split s ".").map TL.tl = TL.spl [46] 0 [] (TL.tl s) := by
  rw [← dotL]
  exact TL.split_spl s "." (by rw [dotL]; exact fun h => nomatch h) (TL.kind_ok dotK)
theorem split_none {s : Str} (h : 46 ∉ TL.tl s) : Txt.split s "." = [s] := by
  apply TL.map_tl_inj
  rw [split_tl, TL.spl_last1 h]
  rfl
theorem split_one {s : Str} {p r : List Nat} (e : TL.tl s = p ++ 46 :: r) (hp : 46 ∉ p) : Txt.split s "." = mkS p :: Txt.split (mkS r) "." := by
  apply TL.map_tl_inj
  have h1 : TL.spl [46] 0 [] (p ++ ([46] ++ r)) = ([] ++ p) :: TL.spl [46] 0 [] r := TL.spl_part1 (s := 46) (S := []) hp
  rw [split_tl, e, show p ++ 46 :: r = p ++ ([46] ++ r) from rfl, h1, List.map_cons, split_tl, tl_mkS, tl_mkS]
  rfl
theorem split_pos (s : Str) : 1 ≤ (Txt.split s ".").length := by
  by_cases h : 46 ∈ TL.tl s
  · obtain ⟨p, r, e, hp⟩ := List.eq_append_cons_of_mem h
    rw [split_one e hp, List.length_cons]
    omega
  · rw [split_none h]
    exact Nat.le_refl _
/-- one part, two parts, or more -/
theorem split_cases (s : Str) : (46 ∉ TL.tl s ∧ Txt.split s "." = [s]) ∨ (∃ p r, TL.tl s = p ++ 46 :: r ∧ 46 ∉ p ∧ 46 ∉ r ∧ Txt.split s "." = [mkS p, mkS r]) ∨ 3 ≤ (Txt.split s ".").length := by
  by_cases h : 46 ∈ TL.tl s
  · obtain ⟨p, r, e, hp⟩ := List.eq_append_cons_of_mem h
    by_cases h2 : 46 ∈ r
    · obtain ⟨p2, r2, e2, hp2⟩ := List.eq_append_cons_of_mem h2
      refine .inr (.inr ?_)
      rw [split_one e hp, split_one (s := mkS r) (p := p2) (r := r2) (by rw [tl_mkS]; exact e2) hp2, List.length_cons, List.length_cons]
      have := split_pos (mkS r2)
      omega
    · refine .inr (.inl ⟨p, r, e, hp, h2, ?_⟩)
      rw [split_one e hp, split_none (s := mkS r) (by rw [tl_mkS]; exact h2)]
  · exact .inl ⟨h, split_none h⟩
theorem part_none {s : Str} (h : 46 ∉ TL.tl s) : Txt.partition s "." = (s, Str.empty, Str.empty) := TL.partition_none dotL h
theorem glue3 {s : Str} {p r : List Nat} (e : TL.tl s = p ++ 46 :: r) : s = mkS p ++ Str.ofString "." ++ mkS r := by
  apply tl_inj
  rw [TL.tl_append, TL.tl_append, dotL, tl_mkS, tl_mkS, e, List.append_assoc]
  rfl
theorem part_some {s : Str} {p r : List Nat} (e : TL.tl s = p ++ 46 :: r) (hp : 46 ∉ p) : Txt.partition s "." = (mkS p, Str.ofString ".", mkS r) := by
  have h := TL.partition_app (y := Str.ofString ".") (s := 46) (S := []) dotL (a := mkS p) (b := mkS r) (by rw [tl_mkS]; exact hp)
  rw [← glue3 e] at h
  exact h
theorem at_dot {s : Str} {i : Nat} : StrLaws.At s (Str.ofString ".") s.length i ↔ (TL.tl s)[i]? = some 46 := by
  rw [TL.at_iff (by rw [dotL]; exact fun h => nomatch h), dotL]
  unfold TL.pre
  rw [show ([46] : List Nat).length = 1 from rfl]
  constructor
  · intro h
    have h := eq_of_beq h
    cases e : (TL.tl s).drop i with
    | nil => rw [e] at h; cases h
    | cons c r =>
      rw [e] at h
      have h2 : c = 46 := by injection h
      have := List.getElem?_drop (xs := TL.tl s) (i := i) (j := 0)
      rw [e, Nat.add_zero] at this
      rw [← this, h2]
      rfl
  · intro h
    have h2 := List.drop_eq_getElem_cons (List.getElem?_eq_some_iff.mp h).1
    rw [h2, (List.getElem?_eq_some_iff.mp h).2]
    rfl
theorem rpart_none {s : Str} (h : 46 ∉ TL.tl s) : (Txt.rpartition s ".").2.2 = s := by
  unfold Txt.rpartition
  rcases StrLaws.last_spec s (Str.ofString ".") with ⟨e, _⟩ | ⟨i, e, ha, _⟩
  · rw [e]
  · exact absurd (List.mem_of_getElem? (at_dot.mp ha)) h
theorem rpart_some {s : Str} {p r : List Nat} (e : TL.tl s = p ++ 46 :: r) (hr : 46 ∉ r) : (Txt.rpartition s ".").2.2 = mkS r := by
  unfold Txt.rpartition
  have hp : (TL.tl s)[p.length]? = some 46 := by rw [e, List.getElem?_append_right (Nat.le_refl _), Nat.sub_self]; rfl
  rcases StrLaws.last_spec s (Str.ofString ".") with ⟨_, n⟩ | ⟨i, ei, ha, hn⟩
  · exact absurd (at_dot.mpr hp) (n _)
  · have hi := at_dot.mp ha
    have h1 : i = p.length := by
      rcases Nat.lt_trichotomy i p.length with q | q | q
      · exact absurd (at_dot.mpr hp) (hn _ q)
      · exact q
      · rw [e, List.getElem?_append_right (by omega)] at hi
        obtain ⟨k, hk⟩ : ∃ k, i - p.length = k + 1 := ⟨i - p.length - 1, by omega⟩
        rw [hk, List.getElem?_cons_succ] at hi
        exact absurd (List.mem_of_getElem? hi) hr
    rw [ei]
    apply tl_inj
    show TL.tl (Builtin.Str.strSub s (i + (Str.ofString ".").length) s.length) = _
    rw [TL.tl_strSub_end, tl_mkS, e, h1, show (Str.ofString ".").length = 1 from rfl, List.drop_append]
    simp
end Gt
/-! M_cell: cells of the script, drawn rows. -/
namespace Gt
open PySem PySem.Spec PyProof.Rows L2
def cellAt (ns : List Int) (k : Int) : Int := bif decide (k < (ns.length : Int)) then ns.getD k.toNat 0 else 0
theorem t_cell {ns : List Int} {k : Int} (h : 0 ≤ k) : m__law_cell ns k = .ok (cellAt ns k) := by
  unfold m__law_cell cellAt
  cases e : decide (k < (ns.length : Int)) with
  | false => rfl
  | true =>
    have h1 := of_decide_eq_true e
    obtain ⟨x, e1, e2, _⟩ := atI_in (xs := ns) h h1
    rw [cond_true, mb_of (mb_of (oM_of e1)), cond_true]
    show mb (.ok x) _ = _
    rw [List.getD_eq_getElem?_getD, e2]
    rfl
theorem t_draws {c n : Int} (h : 0 ≤ n ∧ n ≤ 1000) : Tt (m__law_draws c n) fun row => row.length = n.toNat ∧ ∀ d ∈ row, 0 ≤ d ∧ d < 840 := by
  unfold m__law_draws
  refine Tt.let (Tt.let (Tt.chk (by omega) ?_))
  refine (Tt.for (fun (pre : List Int) (s : Int × List Int) => s.2.length = pre.length ∧ ∀ d ∈ s.2, 0 ≤ d ∧ d < 840) ⟨rfl, by intro d hd; cases hd⟩ ?_).bind fun s hs => Tt.ret ⟨by rw [hs.1, ups_len], hs.2⟩
  intro pre x post s hx ⟨hl, hd⟩
  have h3 := congrArg List.length hx
  rw [ups_len, List.length_append, List.length_cons] at h3
  have app : ∀ v : Int, 0 ≤ v ∧ v < 840 → (s.2 ++ [v]).length = (pre ++ [x]).length ∧ ∀ d ∈ s.2 ++ [v], 0 ≤ d ∧ d < 840 := fun v hv => by
    refine ⟨by rw [List.length_append, List.length_append, hl]; rfl, fun d hm => ?_⟩
    rcases List.mem_append.mp hm with q | q
    · exact hd d q
    · rw [List.mem_singleton.mp q]; exact hv
  refine Tt.if (fun _ => ?_) fun _ => ?_
  · exact Tt.chk (by omega) (Tt.let (Tt.let (Tt.ret (app _ ⟨Int.emod_nonneg _ (by decide), Int.emod_lt_of_pos _ (by decide)⟩))))
  · refine Tt.let ?_
    have h1 : ∀ a : Int, CMul (a % 1000003) (a % 1000003) := fun a => .inl (by omega)
    have h2 : ∀ a : Int, CMul (a % 999983) (a % 999983) := fun a => .inl (by omega)
    refine Tt.chk (h1 _) (Tt.let (Tt.chk (h2 _) (Tt.chk (by omega) (Tt.let (Tt.ret (app _ ⟨?_, ?_⟩))))))
    · exact Int.emod_nonneg _ (by decide)
    · exact Int.emod_lt_of_pos _ (by decide)
end Gt
/-! M_sg: what is a sign (split off M_sign). -/
namespace Gt
open PySem PySem.Spec PyProof.Rows L2
abbrev azS : Str := "abcdefghijklmnopqrstuvwxyz"
abbrev AZS : Str := "ABCDEFGHIJKLMNOPQRSTUVWXYZ"
abbrev dgS : Str := "0123456789"
def cSm (x : Str) : Bool := match sgn x with | some c => decide (c ∈ azS.cps.toList) | none => false
def cDg (x : Str) : Bool := match sgn x with | some c => decide (c ∈ dgS.cps.toList) | none => false
def cAl (x : Str) : Bool := match sgn x with | some c => decide (c ∈ azS.cps.toList) || (decide (c ∈ AZS.cps.toList) || decide (c ∈ dgS.cps.toList)) | none => false
def Ln (t : Str) : Bool := decide ((1 : Int) ≤ (t.length : Int)) && decide ((t.length : Int) ≤ 8)
def hdOf (f : Str → Bool) (t : Str) : Bool := match chs t with | x :: _ => f x | [] => false
def ownW (t : Str) : Bool := Ln t && (chs t).all cSm
def plainW (t : Str) : Bool := bif !(Ln t) || hdOf cDg t then false else (chs t).all cAl
theorem chs_sgn {t x : Str} (h : x ∈ chs t) : ∃ c, sgn x = some c ∧ x = ⟨#[c]⟩ ∧ c ∈ t.cps.toList := by
  unfold chs at h
  obtain ⟨c, hc, e⟩ := List.mem_map.mp h
  exact ⟨c, by rw [← e]; exact sgn_one c, e.symm, hc⟩
theorem all_map {α : Type} (f : α → Bool) (xs : List α) : (xs.map f).all id = xs.all f := by
  rw [List.all_map]
  rfl
theorem hd_at {t : Str} (f : Str → Bool) (h : Ln t = true) : ∃ x c, chs t = x :: (chs t).tail ∧ atI (chs t) 0 = some x ∧ sgn x = some c ∧ hdOf f t = f x := by
  unfold Ln at h
  have h1 := of_decide_eq_true (Bool.and_eq_true_iff.mp h).1
  cases e : chs t with
  | nil => have := chs_len t; rw [e] at this; have : t.length = 0 := this.symm; omega
  | cons x xs =>
    obtain ⟨c, e2, _⟩ := chs_sgn (t := t) (x := x) (by rw [e]; exact List.mem_cons_self ..)
    exact ⟨x, c, rfl, atI_zero, e2, by unfold hdOf; rw [e]⟩
/-- a short text of the small signs -/
def Asc (w : Str) : Prop := w.length ≤ 600 ∧ ∀ c ∈ TL.tl w, c < 128
theorem asc_okS {w : Str} (h : Asc w) : okS w := by
  refine ⟨by have := h.1; omega, ?_⟩
  rw [← Array.all_toList, List.all_eq_true]
  intro c hc
  have := h.2 c hc
  exact decide_eq_true (by omega)
theorem split_in : ∀ (n : Nat) (s : Str), (TL.tl s).length ≤ n → ∀ x ∈ Txt.split s ".", x.length ≤ s.length ∧ ∀ c ∈ TL.tl x, c ∈ TL.tl s
  | n, s, hn, x, hx => by
    by_cases h : 46 ∈ TL.tl s
    · obtain ⟨p, r, e, hp⟩ := List.eq_append_cons_of_mem h
      have hl : s.length = p.length + (r.length + 1) := by rw [TL.len_tl, e, List.length_append, List.length_cons]
      rw [split_one e hp] at hx
      rcases List.mem_cons.mp hx with q | q
      · rw [q]
        refine ⟨by rw [mkS_len]; omega, fun c hc => ?_⟩
        rw [e]
        exact List.mem_append_left _ hc
      · cases n with
        | zero => rw [← TL.len_tl] at hn; omega
        | succ n =>
          obtain ⟨h1, h2⟩ := split_in n (mkS r) (by rw [tl_mkS]; rw [← TL.len_tl] at hn; omega) x q
          refine ⟨by rw [mkS_len] at h1; omega, fun c hc => ?_⟩
          rw [e]
          exact List.mem_append_right _ (List.mem_cons_of_mem _ (h2 c hc))
    · rw [split_none h] at hx
      cases List.mem_singleton.mp hx
      exact ⟨Nat.le_refl _, fun c hc => hc⟩
theorem split_asc {s : Str} (h : Asc s) : ∀ x ∈ Txt.split s ".", Asc x := fun x hx => by
  obtain ⟨h1, h2⟩ := split_in _ s (Nat.le_refl _) x hx
  exact ⟨Nat.le_trans h1 h.1, fun c hc => h.2 c (h2 c hc)⟩
def SG (w : Str) : Bool := bif decide (((Txt.split w ".").length : Int) = 2) then ownW ((Txt.split w ".").getD 0 "") && plainW ((Txt.split w ".").getD 1 "") else plainW w
theorem two_parts {xs : List Str} (h : (xs.length : Int) = 2) : ∃ a b, xs = [a, b] := by
  match xs, h with
  | [a, b], _ => exact ⟨a, b, rfl⟩
  | [], h => cases h
  | [_], h => simp at h
  | _ :: _ :: _ :: _, h => simp at h; omega
theorem ln_or (t : Str) (b : Bool) : (decide ((t.length : Int) < 1) || (decide ((8 : Int) < (t.length : Int)) || b)) = (!(Ln t) || b) := by
  unfold Ln
  by_cases h1 : (t.length : Int) < 1
  · rw [decide_eq_true h1, decide_eq_false (show ¬ (1 : Int) ≤ (t.length : Int) by omega)]
    rfl
  · rw [decide_eq_false h1, decide_eq_true (show (1 : Int) ≤ (t.length : Int) by omega)]
    by_cases h2 : (8 : Int) < (t.length : Int)
    · rw [decide_eq_true h2, decide_eq_false (show ¬ (t.length : Int) ≤ 8 by omega)]
      rfl
    · rw [decide_eq_false h2, decide_eq_true (show (t.length : Int) ≤ 8 by omega)]
      rfl
theorem dot_plain {w : Str} (h : 46 ∈ TL.tl w) : plainW w = false := by
  unfold plainW
  cases !(Ln w) || hdOf cDg w with
  | true => rfl
  | false =>
    rw [cond_false, Bool.eq_false_iff]
    intro q
    rw [List.all_eq_true] at q
    have := q ⟨#[46]⟩ (List.mem_map.mpr ⟨46, h, rfl⟩)
    exact absurd this (by decide +kernel)
def TK (w : Str) : Bool := bif decide (((Txt.split w ".").length : Int) = 2) then hdOf cSm ((Txt.split w ".").getD 1 "") else hdOf cSm w
theorem plain_ln {t : Str} (h : plainW t = true) : Ln t = true := by
  unfold plainW at h
  cases q : Ln t with
  | true => rfl
  | false => rw [q] at h; cases h
theorem rpart_ok {s : Str} (a : Asc s) (h : 46 ∉ TL.tl s) : okS (Txt.rpartition s ".").1 ∧ okS (Txt.rpartition s ".").2.1 ∧ okS (Txt.rpartition s ".").2.2 := by
  refine ⟨?_, ?_, by rw [rpart_none h]; exact asc_okS a⟩ <;>
  · unfold Txt.rpartition
    rcases StrLaws.last_spec s (Str.ofString ".") with ⟨e, _⟩ | ⟨i, e, ha, _⟩
    · rw [e]; exact (by decide +kernel : okS Str.empty)
    · exact absurd (List.mem_of_getElem? (at_dot.mp ha)) h
theorem rpart_ok2 {s : Str} {p r : List Nat} (a : Asc s) (e : TL.tl s = p ++ 46 :: r) (hr : 46 ∉ r) : okS (Txt.rpartition s ".").1 ∧ okS (Txt.rpartition s ".").2.1 ∧ okS (Txt.rpartition s ".").2.2 := by
  have ar : Asc (mkS r) := ⟨by have := a.1; rw [TL.len_tl, e, List.length_append, List.length_cons] at this; rw [mkS_len]; omega, fun c hc => a.2 c (by rw [e]; exact List.mem_append_right _ (List.mem_cons_of_mem _ hc))⟩
  refine ⟨?_, ?_, by rw [rpart_some e hr]; exact asc_okS ar⟩
  · unfold Txt.rpartition
    rcases StrLaws.last_spec s (Str.ofString ".") with ⟨e1, _⟩ | ⟨i, e1, _, _⟩
    · rw [e1]; exact (by decide +kernel : okS Str.empty)
    · rw [e1]
      refine asc_okS (w := Builtin.Str.strSub s 0 i) ⟨?_, fun c hc => a.2 c ?_⟩
      · rw [TL.len_tl, TL.tl_strSub, List.length_take, List.length_drop]
        have := a.1
        rw [TL.len_tl] at this
        omega
      · rw [TL.tl_strSub] at hc
        exact List.mem_of_mem_drop (List.mem_of_mem_take hc)
  · unfold Txt.rpartition
    rcases StrLaws.last_spec s (Str.ofString ".") with ⟨e1, _⟩ | ⟨i, e1, _, _⟩
    · rw [e1]; exact (by decide +kernel : okS Str.empty)
    · rw [e1]; exact (by decide +kernel : okS ("." : Str))
theorem sg_cases {w : Str} (h : SG w = true) : (46 ∉ TL.tl w ∧ Txt.split w "." = [w] ∧ plainW w = true ∧ TK w = hdOf cSm w) ∨ ∃ p r, TL.tl w = p ++ 46 :: r ∧ 46 ∉ p ∧ 46 ∉ r ∧ Txt.split w "." = [mkS p, mkS r] ∧ plainW (mkS r) = true ∧ ownW (mkS p) = true ∧ TK w = hdOf cSm (mkS r) := by
  unfold SG at h
  unfold TK
  rcases split_cases w with ⟨n, e⟩ | ⟨p, r, e0, hp, hr, e⟩ | h3
  · rw [e] at h ⊢
    exact .inl ⟨n, rfl, h, rfl⟩
  · rw [e] at h ⊢
    have h : (ownW (mkS p) && plainW (mkS r)) = true := h
    obtain ⟨h1, h2⟩ := Bool.and_eq_true_iff.mp h
    exact .inr ⟨p, r, e0, hp, hr, rfl, h2, h1, rfl⟩
  · rw [decide_eq_false (show ¬ ((Txt.split w ".").length : Int) = 2 by omega), cond_false] at h
    have d : 46 ∈ TL.tl w := Classical.byContradiction fun n => by rw [split_none n] at h3; exact absurd h3 (show ¬ 3 ≤ 1 by decide)
    rw [dot_plain d] at h
    cases h
end Gt
/-! M_word: a drawn word. -/
namespace Gt
open PySem PySem.Spec PyProof.Rows L2
def AscN (n : Nat) (w : Str) : Prop := w.length ≤ n ∧ ∀ c ∈ TL.tl w, c < 128
instance (n : Nat) (w : Str) : Decidable (AscN n w) := by unfold AscN; infer_instance
theorem AscN.app {a b : Str} {m n k : Nat} (h : AscN m a) (h' : AscN n b) (e : m + n ≤ k) : AscN k (a ++ b) ∧ a.length + b.length ≤ 100000 + k := by
  have hl : (a ++ b).length = a.length + b.length := by
    show (a.cps ++ b.cps).size = _
    rw [Array.size_append]
    rfl
  refine ⟨⟨by have := h.1; have := h'.1; omega, fun c hc => ?_⟩, by have := h.1; have := h'.1; omega⟩
  rw [TL.tl_append] at hc
  rcases List.mem_append.mp hc with q | q
  · exact h.2 c q
  · exact h'.2 c q
theorem AscN.asc {n : Nat} {w : Str} (h : AscN n w) (e : n ≤ 600) : Asc w := ⟨Nat.le_trans h.1 e, h.2⟩
theorem ch_az : ∀ x ∈ chs azS, AscN 1 x ∧ AscN 1 (Txt.upper x) := by decide +kernel
abbrev anS : Str := (azS ++ Txt.upper azS) ++ dgS
theorem ch_an : ∀ x ∈ chs anS, AscN 1 x := by decide +kernel
abbrev oddS : List Str := ([("" : Str), ("." : Str), ("9a" : Str), ("a b" : Str), ("a-b" : Str), (".a" : Str), ("a." : Str), ("a.b.c" : Str), ("A.b" : Str), ("a1.c" : Str), ("abcdefghi" : Str)] ++ [("abcdefghi.a" : Str), ("a.9" : Str), ("a..b" : Str), ("ABCDEFGHI" : Str), ("a.Bcdefghij" : Str), (" a" : Str), ("a " : Str), ("x.a b" : Str)]) ++ [("x.A-" : Str), ("a_b" : Str), ("A\n" : Str), ("->" : Str), ("Ab.C" : Str), ("x y.a" : Str), ("7.a" : Str)]
theorem odd_asc : ∀ x ∈ oddS, AscN 20 x := by decide +kernel
theorem az26 : ((chs azS).length : Int) = 26 := by decide +kernel
theorem an62 : ((chs anS).length : Int) = 62 := by decide +kernel
theorem glue_asc {src : Str} {m : Int} {k : Nat} (hm : 0 < m) (hs : ((chs src).length : Int) = m) (ha : ∀ x ∈ chs src, AscN 1 x) {ds : List Int} {t : Str} (h : AscN k t) (hk : k + ds.length ≤ 500) :
    Tt (mfor (fun (s : Str) (x : Int) => mb (oM (atI (chs src) (x % m))) fun c => mb (chk (decide (s.length + c.length ≤ 100000))) fun _ => mb (.ok (s ++ c)) fun z => .ok z) t ds) (AscN (k + ds.length)) := by
  refine Tt.for (fun (pre : List Int) (s : Str) => AscN (k + pre.length) s) h ?_
  intro pre x post s hx hI
  have hl := congrArg List.length hx
  rw [List.length_append, List.length_cons] at hl
  have e0 := Int.emod_nonneg x (show m ≠ 0 by omega)
  have e1 := Int.emod_lt_of_pos x hm
  refine Tt.ix e0 (by omega) fun c hc _ => ?_
  have hc := ha c hc
  obtain ⟨h1, h2⟩ := hI.app hc (Nat.le_refl _)
  refine Tt.chk (by have := hI.1; have := hc.1; omega) (Tt.let (Tt.ret ?_))
  rw [List.length_append, List.length_singleton, ← Nat.add_assoc]
  exact h1
theorem t_word {row : List Int} {cap : Bool} (hl : row.length = 18) : Tt (m__law_word row cap) Asc := by
  unfold m__law_word
  refine Tt.let (Tt.ix (by decide) (by omega) fun d1 _ _ => Tt.ix (Int.emod_nonneg _ (by decide)) (by rw [az26]; exact Int.emod_lt_of_pos _ (by decide)) fun c hc _ => ?_)
  obtain ⟨c1, c2⟩ := ch_az c hc
  refine Tt.bind (P := AscN 1) (Tt.if (fun _ => Tt.chk (asc_okS (c2.asc (by decide))) (Tt.let (Tt.ret c2))) fun _ => Tt.ret c1) fun s hs => ?_
  refine Tt.chk (by decide +kernel) (Tt.chk (by decide +kernel) (Tt.chk (by decide +kernel) (Tt.let (Tt.ix (by decide) (by omega) fun d0 _ _ => ?_))))
  have k1 := cut_le row (some 2) (some (2 + d0 % 8))
  refine (glue_asc (src := anS) (m := 62) (by decide) an62 ch_an hs (by omega)).bind fun w hw => ?_
  have hw : AscN 19 w := ⟨by have := hw.1; omega, hw.2⟩
  refine Tt.bind (P := AscN 60) (Tt.if (fun _ => ?_) fun _ => Tt.ret ⟨by have := hw.1; omega, hw.2⟩) fun s2 h2 => ?_
  · have k2 := cut_le row (some 9) (some (10 + d0 / 24 % 8))
    refine Tt.let ((glue_asc (src := azS) (m := 26) (k := 0) (by decide) az26 (fun x hx => (ch_az x hx).1) (by decide +kernel) (by omega)).bind fun o ho => ?_)
    have ho : AscN 18 o := ⟨by have := ho.1; omega, ho.2⟩
    have dd : AscN 1 ("." : Str) := by decide +kernel
    obtain ⟨h3, _⟩ := ho.app dd (Nat.le_refl _)
    obtain ⟨h4, _⟩ := h3.app hw (k := 60) (by decide)
    exact Tt.chk (by have := ho.1; have := dd.1; omega) (Tt.chk (by have := h3.1; have := hw.1; omega) (Tt.let (Tt.ret h4)))
  refine Tt.bind (P := AscN 60) (Tt.if (fun _ => ?_) fun _ => Tt.ret h2) fun s3 h3 => Tt.ret (h3.asc (by decide))
  refine Tt.let (Tt.chk (by decide +kernel) (Tt.let (Tt.chk (by decide +kernel) (Tt.let (Tt.chk (by decide +kernel) ?_)))))
  refine Tt.ix (Int.emod_nonneg _ (by decide +kernel)) (Int.emod_lt_of_pos _ (by decide +kernel)) fun o ho _ => Tt.ret ?_
  have := odd_asc o ho
  exact ⟨by have := this.1; omega, this.2⟩
end Gt
/-! M_lsg: the law's own signs (split off M_lsign). -/
namespace Gt
open PySem PySem.Spec PyProof.Rows L2
theorem upS : Txt.upper azS = AZS := by decide +kernel
theorem t_lsign {w : Str} (h : Asc w) : m__law_is_sign w = .ok (SG w) := by
  have hs := split_asc h
  unfold m__law_is_sign
  rw [mb_ret, mb_of (chk_of (by decide +kernel)), mb_of (chk_of (decide_eq_true (by have := h.1; omega))), mb_of (chk_of (decide_eq_true fun x hx => asc_okS (hs x hx))), mb_ret]
  have step : ∀ (t : Str) (k : Unit → M Bool), t.length ≤ 600 → (mb (mor (decide ((t.length : Int) < (1 : Int))) (mb (mor (decide ((8 : Int) < (t.length : Int))) (mb (oM (atI (chs t) (0 : Int))) fun t8 => mb (oM (sgn t8)) fun t9 => .ok (decide (t9 ∈ dgS.cps.toList)))) fun c10 => .ok c10)) fun c11 => bif c11 then .ok false else
      mb (mforF (fun (s12 : Unit) (x13 : Str) => mb (oM (sgn x13)) fun t15 => mb (mand (!(decide (t15 ∈ azS.cps.toList))) (mb (chk (decide (okS (Txt.upper azS)))) fun _ => .ok ((!(decide (t15 ∈ (Txt.upper azS).cps.toList))) && (!(decide (t15 ∈ dgS.cps.toList)))))) fun c17 => bif c17 then .ok (.rt false) else .ok (.nx ())) () (chs t) : M (Fl Unit Bool)) fun o14 => Fl.go o14 k (fun x => .ok x) (fun _ => .error .stuck)) = bif plainW t then k () else .ok false := by
    intro t k ht
    rw [mb_of (Tt.mor (b := decide ((8 : Int) < (t.length : Int)) || hdOf cDg t) fun q => ?_), ln_or]
    · unfold plainW
      cases !(Ln t) || hdOf cDg t with
      | true => rfl
      | false =>
        rw [cond_false, cond_false]
        rw [mb_of (mforF_all (p := cAl) (r := false) fun x hx => ?_)]
        · cases (chs t).all cAl <;> rfl
        · obtain ⟨c, e, _⟩ := chs_sgn hx
          rw [mb_of (oM_of e), upS]
          unfold cAl
          rw [e]
          dsimp only
          cases decide (c ∈ azS.cps.toList) <;> cases decide (c ∈ AZS.cps.toList) <;> cases decide (c ∈ dgS.cps.toList) <;> first | rfl | (rw [show chk (decide (okS AZS)) = .ok () from chk_of (by decide +kernel)]; rfl) | (show mb (mand true _) _ = _; unfold mand; rw [cond_true, show chk (decide (okS AZS)) = .ok () from chk_of (by decide +kernel)]; rfl)
    · rw [mb_of (Tt.mor (b := hdOf cDg t) fun q2 => ?_)]
      have l : Ln t = true := by
        unfold Ln
        rw [decide_eq_true (show (1 : Int) ≤ (t.length : Int) by have := of_decide_eq_false q; omega), decide_eq_true (show (t.length : Int) ≤ 8 by have := of_decide_eq_false q2; omega)]
        rfl
      obtain ⟨x, c, _, e1, e2, e3⟩ := hd_at cDg l
      rw [mb_of (oM_of e1), mb_of (oM_of e2), e3]
      unfold cDg
      rw [e2]
  rcases split_cases w with ⟨_, e⟩ | ⟨p, r, e0, hp, hr, e⟩ | h3
  · unfold SG
    rw [e, show decide ((2 : Int) < (([w] : List Str).length : Int)) = false from rfl, cond_false, show atI [w] (-(1 : Int)) = some w from rfl, mb_of (oM_of rfl)]
    refine (step w _ h.1).trans ?_
    show (bif plainW w then (.ok true : M Bool) else .ok false) = .ok (plainW w)
    cases plainW w <;> rfl
  · rw [e] at hs
    have ha := (hs (mkS p) (List.mem_cons_self ..)).1
    have hb := (hs (mkS r) (List.mem_cons_of_mem _ (List.mem_cons_self ..))).1
    unfold SG
    rw [e, show decide ((2 : Int) < (([mkS p, mkS r] : List Str).length : Int)) = false from rfl, cond_false, show atI [mkS p, mkS r] (-(1 : Int)) = some (mkS r) from rfl, mb_of (oM_of rfl)]
    refine (step (mkS r) _ hb).trans ?_
    show (bif plainW (mkS r) then _ else _) = (.ok (ownW (mkS p) && plainW (mkS r)) : M Bool)
    cases plainW (mkS r) with
    | false => rw [Bool.and_false]; rfl
    | true =>
      rw [cond_true, Bool.and_true, show decide ((([mkS p, mkS r] : List Str).length : Int) = (1 : Int)) = false from rfl, cond_false, show atI [mkS p, mkS r] (0 : Int) = some (mkS p) from rfl, mb_of (oM_of rfl)]
      generalize mkS p = t
      have q := ln_or t false
      rw [Bool.or_false, Bool.or_false] at q
      rw [q]
      unfold ownW
      cases Ln t with
      | false => rfl
      | true =>
        rw [Bool.not_true, cond_false, Bool.true_and, mb_of (mforF_all (p := cSm) (r := false) fun x hx => ?_)]
        · cases (chs t).all cSm <;> rfl
        · obtain ⟨c, e, _⟩ := chs_sgn hx
          rw [mb_of (oM_of e)]
          unfold cSm
          rw [e]
          dsimp only
          cases decide (c ∈ azS.cps.toList) <;> rfl
  · have d : 46 ∈ TL.tl w := Classical.byContradiction fun n => by rw [split_none n] at h3; exact absurd h3 (show ¬ 3 ≤ 1 by decide)
    unfold SG
    rw [decide_eq_true (show (2 : Int) < ((Txt.split w ".").length : Int) by omega), cond_true, decide_eq_false (show ¬ ((Txt.split w ".").length : Int) = 2 by omega), cond_false, dot_plain d]
end Gt
/-! M_join: joined texts (split off M_line). -/
namespace Gt
open PySem PySem.Spec PyProof.Rows L2
theorem spT : TL.tl (" " : Str) = [32] := by decide +kernel
theorem nlT : TL.tl ("\n" : Str) = [10] := by decide +kernel
theorem spK : ((" " : Str).cps.all (· < 256)) = true := by decide +kernel
theorem nlK : (("\n" : Str).cps.all (· < 256)) = true := by decide +kernel
theorem joinL_len {S : List Nat} {B : Nat} : ∀ {ps : List (List Nat)}, (∀ p ∈ ps, p.length ≤ B) → (TL.joinL S ps).length ≤ ps.length * (B + S.length)
  | [], _ => Nat.zero_le _
  | [p], h => by
    have := h p (List.mem_singleton.mpr rfl)
    show p.length ≤ 1 * (B + S.length)
    omega
  | p :: q :: r, h => by
    have h1 := h p (List.mem_cons_self ..)
    have h2 := joinL_len (S := S) (B := B) (ps := q :: r) fun z hz => h z (List.mem_cons_of_mem _ hz)
    show (p ++ (S ++ TL.joinL S (q :: r))).length ≤ _
    rw [List.length_append, List.length_append, List.length_cons, Nat.succ_mul]
    omega
theorem joinL_mem {S : List Nat} {c : Nat} : ∀ {ps : List (List Nat)}, c ∈ TL.joinL S ps → c ∈ S ∨ ∃ p ∈ ps, c ∈ p
  | [], h => nomatch h
  | [p], h => .inr ⟨p, List.mem_singleton.mpr rfl, h⟩
  | p :: q :: r, h => by
    have h : c ∈ p ++ (S ++ TL.joinL S (q :: r)) := h
    rcases List.mem_append.mp h with h | h
    · exact .inr ⟨p, List.mem_cons_self .., h⟩
    · rcases List.mem_append.mp h with h | h
      · exact .inl h
      · rcases joinL_mem h with h | ⟨z, hz, hc⟩
        · exact .inl h
        · exact .inr ⟨z, List.mem_cons_of_mem _ hz, hc⟩
theorem joinL_snoc {S x : List Nat} : ∀ {a : List Nat} {ps : List (List Nat)}, TL.joinL S (a :: (ps ++ [x])) = TL.joinL S (a :: ps) ++ (S ++ x)
  | a, [] => rfl
  | a, p :: ps => by
    show a ++ (S ++ TL.joinL S (p :: (ps ++ [x]))) = (a ++ (S ++ TL.joinL S (p :: ps))) ++ (S ++ x)
    rw [joinL_snoc, List.append_assoc, List.append_assoc]
theorem tl_tjoin (y : Str) (ps : List Str) : TL.tl (Txt.join y ps) = TL.joinL (TL.tl y) (ps.map TL.tl) := by rw [TL.join_eq, TL.tl_join]
theorem sum_le {B : Nat} : ∀ {ps : List Str}, (∀ p ∈ ps, p.length ≤ B) → (ps.map (·.length)).sum ≤ ps.length * B
  | [], _ => Nat.zero_le _
  | p :: ps, h => by
    have h1 := h p (List.mem_cons_self ..)
    have h2 := sum_le (B := B) (ps := ps) fun z hz => h z (List.mem_cons_of_mem _ hz)
    rw [List.map_cons, List.sum_cons, List.length_cons, Nat.succ_mul]
    omega
theorem tjoin_len {y : Str} {ps : List Str} {B : Nat} (h : ∀ p ∈ ps, p.length ≤ B) : (Txt.join y ps).length ≤ ps.length * (B + y.length) := by
  rw [TL.len_tl, tl_tjoin]
  have := joinL_len (S := TL.tl y) (B := B) (ps := ps.map TL.tl) fun p hp => by
    obtain ⟨z, hz, rfl⟩ := List.mem_map.mp hp
    have := h z hz
    rw [TL.len_tl] at this
    exact this
  rw [List.length_map, ← TL.len_tl] at this
  exact this
/-- a text of small signs, not longer than n -/
theorem ascn_okS {n : Nat} {w : Str} (hn : n ≤ 100000) (h : w.length ≤ n ∧ ∀ c ∈ TL.tl w, c < 128) : okS w := by
  refine ⟨by omega, ?_⟩
  rw [← Array.all_toList, List.all_eq_true]
  intro c hc
  have := h.2 c hc
  exact decide_eq_true (by omega)
end Gt
/-! M_k31: the lines of a table. -/
namespace Gt
open PySem PySem.Spec PyProof.Rows L2
theorem t_lsgn {row : List Int} {cap : Bool} (hl : row.length = 18) : Tt (m__law_sign row cap) Asc := by
  unfold m__law_sign
  refine (t_word hl).bind fun w hw => ?_
  rw [mb_of (t_lsign hw)]
  exact Tt.if (fun _ => hw) fun _ => Tt.if (fun _ => (by decide +kernel : AscN 600 ("Q" : Str))) fun _ => (by decide +kernel : AscN 600 ("q" : Str))
def shw : Option Str → Str
  | none => "*"
  | some t => t
def lnK (k : KP) (v : List Str) : Str := (((Txt.ljust k.1 (17 : Int) ++ (" " : Str)) ++ Txt.ljust (shw k.2) (17 : Int)) ++ (" -> " : Str)) ++ Txt.join (" " : Str) v
theorem empty_app (a : Str) : Str.empty ++ a = a := by
  obtain ⟨c⟩ := a
  show (⟨#[] ++ c⟩ : Str) = ⟨c⟩
  rw [Array.empty_append]
theorem cat_ln {k : KP} {v : List Str} {z : Str} (e : z = shw k.2) : catS Str.empty [Txt.ljust k.1 (17 : Int), (" " : Str), Txt.ljust z (17 : Int), (" -> " : Str), Txt.join (" " : Str) v] = lnK k v := by
  subst e
  show ((((Str.empty ++ _) ++ _) ++ _) ++ _) ++ _ = _
  rw [empty_app]
  rfl
theorem asc_ljust {a : Str} (h : Asc a) : AscN 617 (Txt.ljust a (17 : Int)) := by
  unfold Txt.ljust
  split
  · exact ⟨by have := h.1; omega, h.2⟩
  · refine ⟨?_, fun c hc => ?_⟩
    · have e : (Builtin.Str.padded a 0 ((17 : Int).toNat - a.length) 32).length = a.length + ((17 : Int).toNat - a.length) := by
        unfold Builtin.Str.padded Str.length
        simp
      rw [e]
      have := h.1
      have : (17 : Int).toNat = 17 := rfl
      omega
    · have hc : c ∈ (Array.replicate 0 32 ++ a.cps ++ Array.replicate ((17 : Int).toNat - a.length) 32).toList := hc
      simp at hc
      rcases hc with q | q
      · exact h.2 c (by simpa using q)
      · omega
theorem asc_join {v : List Str} (h : v.length ≤ 4) (h2 : ∀ x ∈ v, Asc x) : AscN 2404 (Txt.join (" " : Str) v) := by
  refine ⟨?_, fun c hc => ?_⟩
  · have := tjoin_len (y := (" " : Str)) (B := 600) fun p hp => (h2 p hp).1
    have e : (" " : Str).length = 1 := by decide +kernel
    rw [e] at this
    omega
  · rw [tl_tjoin] at hc
    rcases joinL_mem hc with q | ⟨p, hp, q⟩
    · rw [spT] at q
      rw [List.mem_singleton.mp q]
      decide
    · obtain ⟨x, hx, rfl⟩ := List.mem_map.mp hp
      exact (h2 x hx).2 c q
theorem sum_join {v : List Str} (h : v.length ≤ 4) (h2 : ∀ x ∈ v, Asc x) : (v.map (·.length)).sum + v.length * (" " : Str).length ≤ 16777216 := by
  have := sum_le (B := 600) (ps := v) fun p hp => (h2 p hp).1
  have e : (" " : Str).length = 1 := by decide +kernel
  rw [e]
  omega
/-- a drawn entry -/
structure En (k : KP) (v : List Str) : Prop where
  h : Asc k.1
  t : Asc (shw k.2)
  n : v.length ≤ 4
  v : ∀ x ∈ v, Asc x
theorem sp1 : AscN 1 (" " : Str) := by decide +kernel
theorem ar4 : AscN 4 (" -> " : Str) := by decide +kernel
theorem En.parts {k : KP} {v : List Str} (E : En k v) : AscN 618 (Txt.ljust k.1 (17 : Int) ++ (" " : Str)) ∧ AscN 1235 ((Txt.ljust k.1 (17 : Int) ++ (" " : Str)) ++ Txt.ljust (shw k.2) (17 : Int)) ∧
    AscN 1239 (((Txt.ljust k.1 (17 : Int) ++ (" " : Str)) ++ Txt.ljust (shw k.2) (17 : Int)) ++ (" -> " : Str)) ∧ AscN 3643 (lnK k v) := by
  have h1 := (asc_ljust E.h).app sp1 (k := 618) (by decide)
  have h2 := h1.1.app (asc_ljust E.t) (k := 1235) (by decide)
  have h3 := h2.1.app ar4 (k := 1239) (by decide)
  have h4 := h3.1.app (asc_join E.n E.v) (k := 3643) (by decide)
  exact ⟨h1.1, h2.1, h3.1, h4.1⟩
abbrev TB := List (KP × List Str)
structure Kb (T : TB) (n : Nat) : Prop where
  nd : (T.map (·.1)).Nodup
  len : T.length ≤ n
  en : ∀ kv ∈ T, En kv.1 kv.2
theorem pkey_in {T : TB} (nd : (T.map (·.1)).Nodup) : ∀ {kv : KP × List Str}, kv ∈ T → pkey T kv.1 = some kv.2 := by
  induction T with
  | nil => intro kv h; exact nomatch h
  | cons y T ih =>
    intro kv h
    rw [List.map_cons, List.nodup_cons] at nd
    unfold pkey
    rcases List.mem_cons.mp h with e | e
    · subst e
      rw [List.find?_cons, decide_eq_true rfl]
      rfl
    · have ne : ¬ y.1 = kv.1 := fun z => nd.1 (by rw [z]; exact List.mem_map.mpr ⟨kv, e, rfl⟩)
      rw [List.find?_cons, decide_eq_false ne]
      exact ih nd.2 e
theorem pkey_out {α : Type} {T : List (KP × α)} {k : KP} (h : pkey T k = none) : k ∉ T.map (·.1) := fun hk => by
  obtain ⟨kv, hkv, e⟩ := List.mem_map.mp hk
  unfold pkey at h
  rw [Option.map_eq_none_iff, List.find?_eq_none] at h
  exact h kv hkv (by simpa using e)
theorem pkey_no {α : Type} {T : List (KP × α)} {k : KP} (h : k ∉ T.map (·.1)) : pkey T k = none := by
  unfold pkey
  rw [Option.map_eq_none_iff, List.find?_eq_none]
  intro kv hkv e
  exact h (List.mem_map.mpr ⟨kv, hkv, by simpa using e⟩)
theorem pput_new {α : Type} {T : List (KP × α)} {k : KP} {v : α} (h : pkey T k = none) : pput T k v = T ++ [(k, v)] := by
  unfold pput
  rw [h]
  rfl
theorem Kb.add {T : TB} {n : Nat} {k : KP} {v : List Str} (K : Kb T n) (h : pkey T k = none) (e : En k v) : Kb (T ++ [(k, v)]) (n + 1) := by
  refine ⟨?_, ?_, fun kv hkv => ?_⟩
  · rw [List.map_append]
    refine List.nodup_append.mpr ⟨K.nd, by simp, fun x hx y hy => ?_⟩
    rw [List.map_cons, List.map_nil, List.mem_singleton] at hy
    subst hy
    intro z
    subst z
    exact pkey_out h hx
  · rw [List.length_append]
    exact Nat.succ_le_succ K.len
  · rcases List.mem_append.mp hkv with q | q
    · exact K.en kv q
    · rw [List.mem_singleton.mp q]
      exact e
abbrev lnT (T : TB) : List Str := T.map fun kv => lnK kv.1 kv.2
theorem lnT_len {T : TB} {n : Nat} (K : Kb T n) : ∀ x ∈ lnT T, AscN 3643 x := fun x hx => by
  obtain ⟨kv, hkv, rfl⟩ := List.mem_map.mp hx
  exact (K.en kv hkv).parts.2.2.2
/-- the joined lines -/
theorem t_out {L : List Str} {β : Type} {f : Unit → Unit → Unit → Unit → M β} {Q : β → Prop} (hn : L.length ≤ 8) (h : ∀ x ∈ L, AscN 3643 x) (g : Tt (f () () () ()) Q) :
    Tt (mb (chk (decide (L.length ≤ 100000))) fun a => mb (chk (decide ((L.map (fun (y : Str) => y)).length < 64))) fun b => mb (chk (decide (((srtL (L.map (fun (y : Str) => y))).map (·.length)).sum + (srtL (L.map (fun (y : Str) => y))).length * ("\n" : Str).length ≤ 16777216))) fun c => mb (chk (decide (okS (Txt.join ("\n" : Str) (srtL (L.map (fun (y : Str) => y))))))) fun d => f a b c d) Q := by
  have e : L.map (fun (y : Str) => y) = L := List.map_id' L
  rw [e]
  have hp := srtL_perm L
  have h' : ∀ x ∈ srtL L, AscN 3643 x := fun x hx => h x (hp.mem_iff.mp hx)
  have hl : (srtL L).length ≤ 8 := by rw [hp.length_eq]; exact hn
  have n1 : ("\n" : Str).length = 1 := by decide +kernel
  have s1 := sum_le (B := 3643) fun p hp => (h' p hp).1
  have j1 := tjoin_len (y := ("\n" : Str)) (B := 3643) fun p hp => (h' p hp).1
  rw [n1] at j1
  refine Tt.chk (by omega) (Tt.chk (by omega) (Tt.chk (by rw [n1]; omega) (Tt.chk (ascn_okS (n := 30000) (by decide) ⟨by omega, fun c hc => ?_⟩) g)))
  rw [tl_tjoin] at hc
  rcases joinL_mem hc with q | ⟨p, hp, q⟩
  · rw [nlT] at q
    rw [List.mem_singleton.mp q]
    decide
  · obtain ⟨x, hx, rfl⟩ := List.mem_map.mp hp
    exact (h' x hx).2 c q
theorem pre_lt {α : Type} {xs pre post : List α} {x : α} (h : xs = pre ++ x :: post) : pre.length < xs.length := by
  rw [h, List.length_append, List.length_cons]; omega
theorem t_format {T : TB} (K : Kb T 8) : Tt (m_format_table T) fun r => r = Txt.join ("\n" : Str) (srtL ((lnT T).map (fun (y : Str) => y))) := by
  unfold m_format_table
  refine Tt.let ?_
  refine (Tt.for (fun (pre : List KP) (s : List Str) => s = pre.map fun k => lnK k ((pkey T k).getD [])) rfl fun pre x post s hx hI => ?_).bind fun s hs => ?_
  · have hm : x ∈ T.map (·.1) := by rw [hx]; exact List.mem_append_right _ (List.mem_cons_self ..)
    have hl := pre_lt hx
    rw [List.length_map] at hl
    have hK := K.len
    obtain ⟨kv, hkv, rfl⟩ := List.mem_map.mp hm
    have E := K.en kv hkv
    have ek := pkey_in K.nd hkv
    refine Tt.let (Tt.oM ek (Tt.chk (sum_join E.n E.v) (Tt.chk (ascn_okS (by decide) (asc_join E.n E.v)) (Tt.let (Tt.chk (by have := E.h.1; omega) ?_)))))
    have e1 : (bif (isNone' kv.1.2) then some ("*" : Str) else kv.1.2) = some (shw kv.1.2) := by cases kv.1.2 <;> rfl
    refine Tt.oM e1 (Tt.chk (by have := E.t.1; omega) ?_)
    rw [cat_ln (k := kv.1) (v := kv.2) rfl]
    refine Tt.chk (ascn_okS (by decide) E.parts.2.2.2) (Tt.chk ?_ (Tt.let (Tt.ret ?_)))
    · rw [hI, List.length_map]; omega
    · rw [hI, List.map_append, List.map_cons, List.map_nil, ek]
      rfl
  · have es : s = lnT T := by
      rw [hs, List.map_map]
      refine List.map_congr_left fun kv hkv => ?_
      show lnK kv.1 ((pkey T kv.1).getD []) = _
      rw [pkey_in K.nd hkv]
      rfl
    subst es
    exact t_out (f := fun _ _ _ _ => .ok _) (by rw [List.length_map]; exact K.len) (lnT_len K) (Tt.ret rfl)
theorem upsFrom_in {lo y : Int} {n : Nat} (h : y ∈ upsFrom lo n) : lo ≤ y ∧ y < lo + n := by
  unfold upsFrom at h
  obtain ⟨j, hj, e⟩ := List.mem_map.mp h
  have := List.mem_range.mp hj
  omega
theorem upsFrom_len {lo : Int} {n : Nat} : (upsFrom lo n).length = n := by unfold upsFrom; rw [List.length_map, List.length_range]
theorem t_copy {T : TB} (K : Kb T 8) : Tt (mfor (fun (s43 : (List (KP × (List Str)))) (x44 : (Str × (Option Str))) => mb (oM (pkey T x44)) fun t46 => mb (chk (decide (s43.length < 100000))) fun _ => mb (.ok (pput s43 x44 t46)) fun kept48 => .ok kept48) [] (T.map (·.1))) fun s => s = T := by
  refine (Tt.for (fun (pre : List KP) (s : TB) => s = pre.map fun k => (k, (pkey T k).getD [])) rfl fun pre x post s hx hI => ?_).imp fun s hs => ?_
  · have hm : x ∈ T.map (·.1) := by rw [hx]; exact List.mem_append_right _ (List.mem_cons_self ..)
    have hl := pre_lt hx
    rw [List.length_map] at hl
    have hK := K.len
    obtain ⟨kv, hkv, rfl⟩ := List.mem_map.mp hm
    have ek := pkey_in K.nd hkv
    have hn : pkey s kv.1 = none := by
      refine pkey_no fun z => ?_
      rw [hI, List.map_map, show ((fun (x : KP × List Str) => x.1) ∘ fun k => (k, (pkey T k).getD [])) = id from rfl, List.map_id] at z
      have nd := K.nd
      rw [hx] at nd
      exact (List.nodup_append.mp nd).2.2 _ z _ (List.mem_cons_self ..) rfl
    refine Tt.oM ek (Tt.chk (by rw [hI, List.length_map]; omega) (Tt.let (Tt.ret ?_)))
    rw [pput_new hn, hI, List.map_append, List.map_cons, List.map_nil, ek]
    rfl
  · rw [hs, List.map_map]
    conv => rhs; rw [← List.map_id T]
    refine List.map_congr_left fun kv hkv => ?_
    show (kv.1, (pkey T kv.1).getD []) = kv
    rw [pkey_in K.nd hkv]
    rfl
theorem pd_self {T : TB} (K : Kb T 8) : pdSame T T = true := by
  unfold pdSame
  rw [Bool.and_eq_true]
  refine ⟨by simp, List.all_eq_true.mpr fun kv hkv => ?_⟩
  rw [pkey_in K.nd hkv]
  exact eqB_iff.mpr rfl
theorem law_ok (ns : List Int) : m_law ns = .ok true := by
  refine Tt.eq ?_
  unfold m_law
  refine Tt.let (Tt.let ?_)
  rw [mb_of (t_cell (by decide))]
  generalize cellAt ns 0 = c0
  have b0 := Int.emod_nonneg c0 (show (9 : Int) ≠ 0 by decide)
  have b1 := Int.emod_lt_of_pos c0 (show (0 : Int) < 9 by decide)
  refine Tt.chk (by omega) ?_
  refine (Tt.for (fun (pre : List Int) (s : TB × List Str) => s.2 = lnT s.1 ∧ Kb s.1 pre.length) ⟨rfl, (show Kb ([] : TB) 0 from ⟨List.nodup_nil, Nat.le_refl 0, fun kv h => nomatch h⟩)⟩ fun pre x post s hx hI => ?_).bind fun s hs => ?_
  · have hm : x ∈ ups (c0 % 9).toNat := by rw [hx]; exact List.mem_append_right _ (List.mem_cons_self ..)
    have hl := pre_lt hx
    rw [ups_len] at hl
    have hx0 := (ups_mem hm).1
    obtain ⟨hI1, K⟩ := hI
    have hK := K.len
    rw [mb_of (t_cell (by omega))]
    refine (t_draws (n := 60) (by decide)).bind fun row hrow => ?_
    have hr : row.length = 60 := hrow.1
    refine (t_lsgn (by unfold cut; rw [sIx_in (by decide) (by rw [hr]; decide), HT.sIx_none, List.length_take, List.length_drop, hr]; rfl)).bind fun hd hhd => ?_
    refine Tt.let (Tt.let (Tt.ix (by decide) (by rw [hr]; decide) fun d18 _ _ => ?_))
    refine Tt.bind (P := fun (q : Option Str × Option Str) => q.2 = some (shw q.1) ∧ Asc (shw q.1)) (Tt.if (fun _ => (t_lsgn (cut_len_in (by decide) (by decide) (by rw [hr]; decide))).bind fun w hw => Tt.let (Tt.let (Tt.ret ⟨rfl, hw⟩))) fun _ => Tt.ret ⟨rfl, (by decide +kernel : AscN 600 ("*" : Str))⟩) fun q hq => ?_
    obtain ⟨q1, q2⟩ := q
    obtain ⟨e2, hq⟩ := hq
    have e2 : q2 = some (shw q1) := e2
    subst e2
    refine Tt.ix (by decide) (by rw [hr]; decide) fun d37 _ _ => ?_
    have m0 := Int.emod_nonneg d37 (show (5 : Int) ≠ 0 by decide)
    have m1 := Int.emod_lt_of_pos d37 (show (0 : Int) < 5 by decide)
    generalize d37 % 5 = m at m0 m1
    have em : ((38 : Int) + m - 38).toNat = m.toNat := by congr 1; omega
    rw [em]
    refine Tt.chk (by omega) (Tt.chk (by rw [upsFrom_len]; omega) ?_)
    refine (Tt.lc (P := Asc) fun y hy => ?_).bind fun zs hzs => ?_
    · obtain ⟨y0, y1⟩ := upsFrom_in hy
      refine Tt.ix (by omega) (by rw [hr]; omega) fun dy _ _ => (t_lsgn ?_).bind fun w hw => Tt.ret hw
      rw [cut_len_in (by omega) (by omega) (by rw [hr]; omega)]
      omega
    · have hz : zs.length ≤ 4 := by rw [hzs.1, upsFrom_len]; omega
      have E : En (hd, q1) zs := ⟨hhd, hq, hz, hzs.2⟩
      obtain ⟨p1, p2, p3, p4⟩ := E.parts
      have a1 := (asc_ljust E.h).1
      have a2 := (asc_ljust E.t).1
      dsimp only at a1 a2 p1 p2 p3
      have a3 := (asc_join E.n E.v).1
      have n1 : (" " : Str).length = 1 := by decide +kernel
      have n4 : (" -> " : Str).length = 4 := by decide +kernel
      refine Tt.chk (by omega) (Tt.if (fun e => ?_) fun e => ?_)
      · have e : pkey s.1 (hd, q1) = none := by
          cases z : pkey s.1 (hd, q1) with
          | none => rfl
          | some v => rw [show ((hd, (q1, some (shw q1)).1) : KP) = (hd, q1) from rfl, z] at e; exact nomatch e
        refine Tt.chk (by omega) (Tt.let (Tt.chk (by decide +kernel) (Tt.chk (ascn_okS (by decide) (asc_ljust E.h)) (Tt.chk (by rw [n1]; omega) (Tt.oM rfl ?_)))))
        refine Tt.chk (ascn_okS (by decide) (asc_ljust E.t)) (Tt.chk (by have := p1.1; omega) (Tt.chk (by have := p2.1; rw [n4]; omega) (Tt.chk (sum_join E.n E.v) (Tt.chk (ascn_okS (by decide) (asc_join E.n E.v)) (Tt.chk (by have := p3.1; omega) (Tt.chk ?_ (Tt.let (Tt.ret ?_))))))))
        · rw [hI1, List.length_map]; omega
        · have en : pput s.1 (hd, q1) zs = s.1 ++ [((hd, q1), zs)] := pput_new e
          refine ⟨?_, ?_⟩
          · show s.2 ++ [_] = lnT (pput s.1 (hd, q1) zs)
            rw [en, hI1]
            show lnT s.1 ++ [_] = List.map _ (s.1 ++ [_])
            rw [List.map_append]
            rfl
          · show Kb (pput s.1 (hd, q1) zs) _
            rw [en, List.length_append]
            exact K.add e E
      · exact Tt.ret ⟨hI1, K.nd, by rw [List.length_append]; exact Nat.le_succ_of_le K.len, K.en⟩
  · obtain ⟨T, L⟩ := s
    obtain ⟨hs1, K⟩ := hs
    have hs1 : L = lnT T := hs1
    subst hs1
    rw [ups_len] at K
    have hK : T.length ≤ (c0 % 9).toNat := K.len
    have hK : T.length ≤ 8 := by omega
    have K : Kb T 8 := ⟨K.nd, hK, K.en⟩
    refine Tt.let (Tt.chk (by show T.length ≤ 100000; omega) ((t_copy K).bind fun s45 e45 => (t_format K).bind fun t49 e49 => ?_))
    rw [e45, e49]
    refine t_out (f := fun _ _ _ _ => mb (.ok _) _) (by rw [List.length_map]; exact K.len) (lnT_len K) (Tt.let ?_)
    rw [decide_eq_true rfl]
    have q : (mb (chk (decide (T.length ≤ 100000))) fun _ => (.ok (pdSame T T) : M Bool)) = .ok true := by
      rw [mb_of (chk_of (decide_eq_true (show T.length ≤ 100000 by omega))), pd_self K]
    show Tt (mb (mb (mb (chk (decide (T.length ≤ 100000))) fun _ => (.ok (pdSame T T) : M Bool)) fun c => .ok c) fun c => .ok c) _
    rw [q]
    exact Tt.ret rfl
end Gt
namespace Gt
open PySem PySem.Spec PyProof.Rows L2
def topS (i : Nat) : Stmt := PySem.Challenge.pw_guesttongues_k31_format_table.main.body.getD i (.Pass ⟨0, 0, 0, 0⟩)
local macro_rules | `(tactic| walk_at "ev") => `(tactic| repeat' (first
  | ((with_reducible show Ev (rEi _ _) (tTup _) _ _); apply ei_T) | ((with_reducible show Ev (rEi _ _) (tCB (rTupU _) _) _ _); apply ei_T)
  | ((with_reducible show Ev (rEi _ _) (tFld _ _ _) _ _); exact a_recE (by first | exact a_ro (by rfl) | exact a_noR (by rfl) | exact a_gro (by rfl) | exact a_roS (by rfl) (by assumption)) (by first | exact fldA_hd (by simp only [fA, fN]; decide) | exact fldA_tl (fldA_hd (by simp only [fA, fN]; decide)) | exact fldA_tl (fldA_tl (fldA_hd (by simp only [fA, fN]; decide))) | exact fldA_tl (fldA_tl (fldA_tl (fldA_hd (by simp only [fA, fN]; decide)))) | exact fld_hd | exact fld_tl fld_hd (by decide)) (by assumption) (by assumption) (by exact rfl))
  | ((with_reducible show Ev (rEi _ _) _ _ _); first | exact a_ro (by rfl) | apply ei_L)
  | ((with_reducible show Ev _ (tBM _ "list" _ _ _) _ _); apply ev_index) | ((with_reducible show IdxOk _ _ _); unfold IdxOk; assumption)
  | ((with_reducible show Ev (rRec _ _ _) (tVar _) _ _); first | exact a_ro (by rfl) | exact a_noR (by rfl) | exact a_gro (by rfl))
  | ((with_reducible show Ev (rDp _) tDNewK _ _); exact ev_dp0)
  | ((with_reducible show Ev (rDp _) (tFld _ _ _) _ _); exact a_recF (by first | exact a_ro (by rfl) | exact a_roS (by rfl) (by assumption)) (by first | exact fldA_hd (by simp only [fA, fN]; decide) | exact fldA_tl (fldA_hd (by simp only [fA, fN]; decide)) | exact fldA_tl (fldA_tl (fldA_hd (by simp only [fA, fN]; decide))) | exact fldA_tl (fldA_tl (fldA_tl (fldA_hd (by simp only [fA, fN]; decide))))) bor_ndp (by assumption) (by assumption) (by exact rfl))
  | ((with_reducible show Ev (rPD _ _ _ _) (tVar _) _ _); first | exact a_ro (by rfl) | exact a_pdO (by rfl) (by assumption))
  | ((with_reducible show Ev _ (tM1 _ _ (tPGet _ _ _ _ _)) _ _); apply ev_joinT)
  | ((with_reducible show Ev _ (tPGet _ _ _ _ _) _ _); apply a_pget) | ((with_reducible show Ev _ (tPIn _ _ _ _ _) _ _); apply a_pIn) | ((with_reducible show Ev _ (tPNotIn _ _ _ _ _) _ _); apply a_pNin)
  | ((with_reducible show Ev _ (tOp (rPEq _ _ _) _ _) _ _); apply a_peq)
  | ((with_reducible show Ev _ (tFmtW _ _) _ _); refine ev_fmtW ?_ ev_spW ?_) | ((with_reducible show Ev _ (tFmt _) _ _); apply ev_fmt)
  | ((with_reducible show Ev _ _ _ (catS _ _)); refine ev_js ?_ ?_)
  | ((with_reducible show EJ _ _ _); first | exact EJ.nil | refine EJ.cons ?_ ?_)
  | ((with_reducible show pkey _ _ = some _); assumption) | ((with_reducible show PadOk _ = true); assumption) | ((with_reducible show _ ≤ 99000); assumption) | ((with_reducible show _ < 64); assumption)
  | ((with_reducible show Ev _ (tVar _) _ _); first | exact ev_lkA (a_ro (by rfl)) | exact ev_dp (a_ro (by rfl)) | exact a_roS (by rfl) (by assumption) | exact a_al (by rfl) (by rfl) (by assumption) | exact a_alF (i := 0) (by rfl) (by rfl) (by first | exact fat_hd | exact fat_tl fat_hd | exact fat_tl (fat_tl fat_hd) | exact fat_tl (fat_tl (fat_tl fat_hd))) (by exact rfl) | exact a_fz (by rfl) | exact a_lst (by rfl) | exact a_nlA (by rfl) | exact a_nlR (by rfl) | exact a_H3 (by rfl) | exact a_ro (by rfl) | exact a_one (by rfl) | exact a_dct (by rfl) | exact a_lkd (by rfl) | exact a_roA (by rfl) | exact a_oneA (by rfl) | exact a_noR (by rfl) | exact a_some (by rfl) (by assumption) | exact a_alias (i := 0) (by rfl) (by rfl) | exact a_alias (i := 1) (by rfl) (by rfl) | exact a_alias (i := 2) (by rfl) (by rfl) | exact a_alias (i := 3) (by rfl) (by rfl) | exact a_alias (i := 4) (by rfl) (by rfl) | exact a_alias (i := 5) (by rfl) (by rfl) | exact a_alias (i := 6) (by rfl) (by rfl))
  | ((with_reducible show Ev _ (tC _) _ _); first | with_reducible exact ev_int | exact ev_cls | (with_reducible refine ev_str ?_; decide +kernel) | with_reducible exact ev_bl | with_reducible exact ev_non)
  | ((with_reducible show Ev (rO _) (tOp (rIx _) _ _) _ (Option.some _)); apply Ev.some)
  | ((with_reducible show Ev (rO _) (tC _) _ (Option.some _)); apply Ev.some)
  | ((with_reducible show Ev (rO _) (tVar _) _ (Option.some _)); first | exact a_fz (by rfl) | apply Ev.some)
  | ((with_reducible show Ev _ (tOp _ _ _) _ _); with_reducible first
    | apply ev_add | apply ev_sub | apply ev_mul | apply ev_mulS | apply ev_div | apply ev_mod | apply ev_pow | apply ev_lt | apply ev_le | apply ev_gt | apply ev_ge
    | apply a_eq | apply a_ne | apply a_in | apply a_nin | apply a_inSg | apply a_ninSg | apply a_ix | apply ev_addS | apply a_isN | apply a_notN | apply a_eqD | apply a_neD | apply a_inLD | apply a_ninLD | apply a_inTD | apply a_ninTD | apply ev_catT | apply a_ltS | apply a_cmpOM | apply a_cmpO | apply a_nl)
  | ((with_reducible show Ev _ (tFld _ _ _) _ _); first | exact a_recF (by first | exact a_ro (by rfl) | exact a_noR (by rfl) | exact a_gro (by rfl) | exact a_roS (by rfl) (by assumption)) (by first | exact fldA_hd (by simp only [fA, fN]; decide) | exact fldA_tl (fldA_hd (by simp only [fA, fN]; decide)) | exact fldA_tl (fldA_tl (fldA_hd (by simp only [fA, fN]; decide))) | exact fldA_tl (fldA_tl (fldA_tl (fldA_hd (by simp only [fA, fN]; decide)))) | exact fld_hd | exact fld_tl fld_hd (by decide)) inferInstance (by assumption) (by assumption) (by exact rfl) | with_reducible apply a_oneF | with_reducible apply a_recF)
  | ((with_reducible show FldAt _ _ _ _); first | exact fldA_hd (by simp only [fA, fN]; decide) | exact fldA_tl (fldA_hd (by simp only [fA, fN]; decide)) | exact fldA_tl (fldA_tl (fldA_hd (by simp only [fA, fN]; decide))) | exact fldA_tl (fldA_tl (fldA_tl (fldA_hd (by simp only [fA, fN]; decide)))) | exact fld_hd | exact fld_tl fld_hd (by decide) | exact fld_tl (fld_tl fld_hd (by decide)) (by decide))
  | ((with_reducible show Ev _ (tXf _ _ _ _ _ _) _ _); first | exact a_xfS (by rfl) (by unfold PayS; assumption) | exact a_xfO (by rfl) (by unfold PayO; assumption) | exact a_xfI (by rfl) (by unfold PayI; assumption))
  | ((with_reducible show Ev _ (tCB (rIsX _ _ _ _) _) _ _); exact a_isX (by rfl) (by assumption))
  | ((with_reducible show EvA (aRest _) _ _ _); refine ea_rest ?_ (Nat.le_of_ble_eq_true rfl))
  | ((with_reducible show Ev _ (tCB (rIsi _) _) _ (!isNone' _)); apply a_isiO)
  | ((with_reducible show Ev _ (tProp _ _ _ _ _) _ _); apply a_prop) | ((with_reducible show Ev _ (tCB (rStrO _ _) _) _ _); apply a_strO)
  | ((with_reducible show Ev _ (tCB _ _) _ _); with_reducible first | apply a_len | apply a_strS | apply a_int | apply ev_all | apply ev_any | apply ev_sum | apply a_tupC | apply a_isi | apply a_nl)
  | ((with_reducible show Ev _ _ _ _); with_reducible first
    | apply ev_chain_le | apply ev_chain_lelt | apply ev_neg | apply ev_and | apply ev_or | apply ev_not | apply ev_if
    | apply a_callM | apply a_callX | apply a_call | apply ev_upper | apply ev_partition | apply ev_rpartition | apply ev_join | apply ev_joinT | apply ev_ljust | apply ev_slS | apply ev_slT | apply a_pair | apply a_tup | apply a_dIn | apply a_dNin | exact ev_Z | apply a_dget2 | apply a_dget | apply ev_mthX | apply a_mthM | apply a_mth | apply a_nl | apply a_no | apply a_nd)
  | ((with_reducible show EvT _ _ _); with_reducible first | apply et_test | apply et_B | apply et_not | apply et_and | apply et_or | apply a_tru | exact et_yes)
  | ((with_reducible show EvA _ _ _ _); with_reducible first | exact ea_nil | exact el_nil | apply a_cons | apply a_el | apply a_starT | apply ea_argN1 | apply ea_argNO)
  | ((with_reducible show EvO _ _ _); with_reducible first | exact eo_none | apply eo_some)
  | ((with_reducible show Nw _ _ _ _); with_reducible first | exact nw_pnew | apply a_srtL | apply a_srt | apply a_ncallM | apply a_ncall | apply a_lstD | apply a_list | apply a_slL | apply a_cat | apply nw_split | apply nw_oneL | apply nw_recL | apply nw_mkOM | apply nw_mkOM0 | apply nw_mkV | apply nw_cm | apply nw_mkR | apply nw_mkI | apply nw_mkO | apply nw_binOM | apply nw_binO | apply nw_mthX | apply nw_mthM | apply nw_mth | exact nw_dnew | exact nw_nilR | exact nw_dnewR | apply nw_H3)
  | ((with_reducible show _ < 4096); first | assumption | omega)
  | ((with_reducible show MOk _ _ _); unfold MOk; assumption)
  | ((with_reducible show kitB _ _ = some _); decide +kernel)
  | ((with_reducible show SgOk _ _); unfold SgOk; first | assumption | exact rfl)
  | ((with_reducible show AppEq _ _ _); unfold AppEq; first | (dsimp only; exact rfl) | dsimp only | exact rfl)
  | ((with_reducible show PreOk _ _); unfold PreOk; dsimp only; first | done | exact trivial | omega | assumption | (constructor <;> first | omega | assumption))
  | ((with_reducible show IxC _ _ _ _ _ _ _); first | with_reducible exact ixc_0 | with_reducible exact ixc_1 | with_reducible exact ixc_h0 | with_reducible exact ixc_h1 | with_reducible exact ixc_h2 | exact ixc_O0 (by assumption) | exact ixc_O1 (by assumption) | with_reducible apply ixc_L | with_reducible apply ixc_Q | with_reducible apply ixc_T | with_reducible apply ixc_S | with_reducible apply ixc_E)
  | ((with_reducible show LnC _ _ _ _); first | exact lnc_O (by assumption) lnc_P | with_reducible exact lnc_E | with_reducible first | exact lnc_L | exact lnc_T | exact lnc_Q | exact lnc_P | exact lnc_S)
  | ((with_reducible show IntC _ _ _); with_reducible first | exact intc_I | exact intc_B)
  | ((with_reducible show TrC _ _ _ _); with_reducible first | exact trc_L | exact trc_T | exact trc_I | exact trc_S)
  | ((with_reducible show EqC _ _ _ _); with_reducible first | exact eqc_I | exact eqc_S | exact eqc_B | exact eqc_O)
  | ((with_reducible show okS _); assumption)
  | ((with_reducible show (_ = true → _)); intro _) | ((with_reducible show (_ = false → _)); intro _)
  | ((with_reducible show CMul _ _); first | assumption | exact .inr (by decide) | exact .inl (by decide) | exact .inr (by assumption) | exact .inl (by assumption) | exact .inr (b2_small _))
  | ((with_reducible show CDiv _ _); first | assumption | exact ⟨by decide, by decide⟩) | ((with_reducible show CPow _ _); exact ⟨by decide, by decide, by decide⟩)
  | ((with_reducible show (0 : Int) < _); first | assumption | decide | omega) | ((with_reducible show _ ≤ 100000); first | omega | assumption | (simp only [List.length_append, List.length_cons, List.length_nil, List.length_map]; omega) | decide +kernel) | ((with_reducible show _ ≤ 16777216); assumption) | ((with_reducible show _ ≤ 1000); first | assumption | omega) | ((with_reducible show _ ≤ 50); assumption) | ((with_reducible show _ ∧ _); assumption) | ((with_reducible show _ ∉ _); first | decide | (simp only [fA, fN]; decide))
  | ((with_reducible show ∀ _ ∈ _, okS _); assumption) | ((with_reducible show _ = false); assumption)
  | ((with_reducible show dkey _ _ = some _); assumption) | ((with_reducible show atI _ _ = some _); assumption) | ((with_reducible show atI (_ :: _) _ = some _); exact rfl)
  | ((with_reducible show ((Str.length _ == 0) = false)); exact rfl)
  | ((with_reducible show DatC _ _); exact datC_of (by decide))
  | ((with_reducible show InsR _ _ _ _); first | with_reducible exact one_ins | with_reducible exact rec_ins1 | exact rec_ins | assumption)
  | ((with_reducible show NilT _ _); assumption)
  | ((with_reducible show Cls _ _); assumption) | ((with_reducible show NoAttr _ _ _); assumption)
  | infer_instance | with_reducible exact rfl | exact dot_eq | with_reducible exact trivial))
/-! ### format_table -/
abbrev s_format_table : Stmt := topS 1
abbrev n_format_table : List Str := ["table", "lines", "head", "token", "shown", "side", "line"]
abbrev p_format_table : List Str := ["table"]
theorem sc_format_table : FnScope n_format_table p_format_table (defScope s_format_table) := ⟨rfl, rfl, rfl, by decide +kernel, rfl, by decide +kernel, by decide +kernel⟩
abbrev sp_format_table (P : Program) (w : World) (K : PySem.W.Frag) : Sp := spM (aC (rPD P w K (rT K rS)) aN) rS fun a => m_format_table a.1
theorem c_format_table {P : Program} {w : World} {K : PySem.W.Frag} {mg : Str → Option Value} {base : Heap} (F : Df K mg "format_table" s_format_table) (B_str : mg "str" = none) (B_sorted : mg "sorted" = none) : Cal P w K mg base CX0 "format_table" 1 p_format_table (sp_format_table P w K) := by
  refine cal_of F sc_format_table (fun vs H Q E ⟨a, b, h, _⟩ => LenA.len h) (fun _ _ _ _ _ _ us hl => match us, hl with | [_], _ => rfl) fun cdv f A outer s H vs Q E hr h => ?_
  have sc := sc_format_table
  refine ⟨_, (pss_cons (ps_set (i := 1) sc.nd rfl (Or.inl rfl) (pe_lst pa_nil))
      (pss_cons (ps_for PassesOwn.never rfl (pi_pkeysK P w K (pv 0)) (pg_tupK K rfl (pgs_cons (pg_name (i := 2) sc.nd rfl (Or.inl rfl)) (pgs_cons (pg_name (i := 3) sc.nd rfl (Or.inl rfl)) pgs_nil)))
      (pss_cons (ps_set (i := 4) sc.nd rfl (Or.inl rfl) (pe_ifExp (pt_cmpR op_isN (pv 3) pe_non (nomark _)) pe_str (pv 3)))
      (pss_cons (ps_set (i := 5) sc.nd rfl (Or.inl rfl) (pe_joinK K pe_str (pe_pgetK P w K (Nat.lt_of_le_of_lt (Nat.add_le_add_left (by decide) _) hr.un) (pv 0) (pe_tup (pa_cons (pv 2) (pa_cons (pv 3) pa_nil))) (fun _ _ => rfl))))
      (pss_one (ps_expr (pe_app K (pv 1) (pa_cons (pe_joined (PJ.cons (pe_fmtW (pv 2) (pe_joined1 pe_str)) (PJ.cons pe_str (PJ.cons (pe_fmtW (pv 4) (pe_joined1 pe_str)) (PJ.cons pe_str (PJ.cons (pe_fmt (pv 5)) PJ.nil)))))) pa_nil)))))))
      (pss_one (ps_ret (pe_joinK K pe_str (pe_callB (k_sortedS K) (by rfl) B_sorted (by decide +kernel) (pa_cons (pe_lc (own := [("line", 6)]) (g := gName 6) (tt := tYes) (by rfl) sc.nd (pi_listK K (pv 1)) (blkOk_by (own := [("line", 6)]) (N := n_format_table) (sc := defScope s_format_table) (by decide +kernel)) (fun _ _ _ _ _ => (pg_name (i := 6) sc.nd rfl (Or.inl rfl))) (fun _ _ _ _ _ => pts_nil) (fun _ _ _ _ _ => (pe_callTy call_strS (by rfl) B_str (by decide +kernel) (pa_cons (pv 6) pa_nil)))) pa_nil))))))), ?_⟩
  obtain ⟨⟨table1, _⟩, r0, ⟨v_table1, _, rfl, w_table1, rfl⟩, h, k⟩ := h
  have hD : RtOk (fz K rS) H r0 { nx := fun _ H' => Q .non H', rt := Q } := fun v H' ⟨as, s, n, z⟩ => k v H' s z.2.now
  refine Sv.run (K := K) (G := ([rc (rPD P w K (rT K rS)) table1, none, none, none, none, none, none] : Cells K)) ?_ (.ro w_table1 (.skip (.skip (.skip (.skip (.skip (.skip .nil)))))))
  have h : m_format_table table1 = .ok r0 := h
  unfold m_format_table at h
  obtain ⟨lines2, e_lines2, h⟩ := mb_ok h; have e_lines2 := ok_inj e_lines2
  refine q_asg (R := (nl K rS)) (b := ([] : (List Str))) (b' := lines2) ?_ e_lines2 ?_
  · walk_at "ev"
  obtain ⟨s5, hm, h⟩ := mb_ok h
  refine q_forM (G' := ([rc (rPD P w K (rT K rS)) table1, some (.ow (nl K rS) lines2), none, none, none, none, none] : Cells K)) (r := (rP K rS (rO rS))) (f := (fun (s3 : (List Str)) (x4 : (Str × (Option Str))) => mb (.ok (bif (isNone' x4.2) then some ("*" : Str) else x4.2)) fun shown6 => mb (oM (pkey table1 (x4.1, x4.2))) fun t7 => mb (chk (decide ((t7.map (·.length)).sum + t7.length * (" " : Str).length ≤ 16777216))) fun _ => mb (chk (decide (okS (Txt.join (" " : Str) t7)))) fun _ => mb (.ok (Txt.join (" " : Str) t7)) fun side10 => mb (chk (decide (x4.1.length ≤ 99000))) fun _ => mb (oM shown6) fun z12 => mb (chk (decide (z12.length ≤ 99000))) fun _ => mb (chk (decide (okS (catS Str.empty [Txt.ljust x4.1 (17 : Int), (" " : Str), Txt.ljust z12 (17 : Int), (" -> " : Str), side10])))) fun _ => mb (chk (decide (s3.length < 100000))) fun _ => mb (.ok (s3 ++ [catS Str.empty [Txt.ljust x4.1 (17 : Int), (" " : Str), Txt.ljust z12 (17 : Int), (" -> " : Str), side10]])) fun lines16 => .ok lines16)) (s0 := lines2) (fun (s3 : (List Str)) => ([rc (rPD P w K (rT K rS)) table1, some (.ow (nl K rS) s3), none, none, none, none, none] : Cells K)) hm ?_ (.keep (.keep (.keep (.keep (.keep (.keep (.keep .nil))))))) (fun H0' e0 x4 s3 s' h => ⟨_, tg_pair, ?_⟩) ?_
  · exact wk_pro (by rfl)
  · have hD : Nx H0' ((fun (s3 : (List Str)) => ([rc (rPD P w K (rT K rS)) table1, some (.ow (nl K rS) s3), none, none, none, none, none] : Cells K)) s') (Have H0' ((fun (s3 : (List Str)) => ([rc (rPD P w K (rT K rS)) table1, some (.ow (nl K rS) s3), none, none, none, none, none] : Cells K)) s')) := fun _ _ z => z
    obtain ⟨shown6, e_shown6, h⟩ := mb_ok h; have e_shown6 := ok_inj e_shown6
    refine q_set (r := (rO rS)) (b := bif (isNone' x4.2) then some ("*" : Str) else x4.2) (b' := shown6) ?_ e_shown6 ?_
    · walk_at "ev"
    obtain ⟨t7, e_t7, h⟩ := mb_ok h; have e_t7 := oM_ok e_t7
    obtain ⟨_, e_u8, h⟩ := mb_ok h; have e_u8 := of_decide_eq_true (chk_ok e_u8)
    obtain ⟨_, e_u9, h⟩ := mb_ok h; have e_u9 := of_decide_eq_true (chk_ok e_u9)
    obtain ⟨side10, e_side10, h⟩ := mb_ok h; have e_side10 := ok_inj e_side10
    refine q_set (r := rS) (b := Txt.join (" " : Str) t7) (b' := side10) ?_ e_side10 ?_
    · walk_at "ev"
    obtain ⟨_, e_u11, h⟩ := mb_ok h; have e_u11 := of_decide_eq_true (chk_ok e_u11)
    obtain ⟨z12, e_z12, h⟩ := mb_ok h; have e_z12 := oM_ok e_z12
    obtain ⟨_, e_u13, h⟩ := mb_ok h; have e_u13 := of_decide_eq_true (chk_ok e_u13)
    obtain ⟨_, e_u14, h⟩ := mb_ok h; have e_u14 := of_decide_eq_true (chk_ok e_u14)
    obtain ⟨_, e_u15, h⟩ := mb_ok h; have e_u15 := of_decide_eq_true (chk_ok e_u15)
    obtain ⟨lines16, e_lines16, h⟩ := mb_ok h; have e_lines16 := ok_inj e_lines16
    refine l_app (x := catS Str.empty [Txt.ljust x4.1 (17 : Int), (" " : Str), Txt.ljust z12 (17 : Int), (" -> " : Str), side10]) (xs := s3) (by rfl) (x' := catS Str.empty [Txt.ljust x4.1 (17 : Int), (" " : Str), Txt.ljust z12 (17 : Int), (" -> " : Str), side10]) ?_ rfl (by assumption) ?_
    · walk_at "ev"
    rw [e_lines16]
    cases h
    exact fun σ H hv => hD σ H (hv.less (.keep (.keep (.drop (.drop (.drop (.drop (.keep .nil))))))))
  obtain ⟨_, e_u18, h⟩ := mb_ok h; have e_u18 := of_decide_eq_true (chk_ok e_u18)
  obtain ⟨_, e_u19, h⟩ := mb_ok h; have e_u19 := of_decide_eq_true (chk_ok e_u19)
  obtain ⟨_, e_u20, h⟩ := mb_ok h; have e_u20 := of_decide_eq_true (chk_ok e_u20)
  obtain ⟨_, e_u21, h⟩ := mb_ok h; have e_u21 := of_decide_eq_true (chk_ok e_u21)
  cases h
  refine r_ret hD ?_
  refine ev_join ?_ ?_ (by assumption) (by assumption)
  · walk_at "ev"
  · refine Nw.lst ?_
    refine a_srtL ?_ (by first | assumption | omega)
    refine Nw.lst ?_
    refine nw_lc1 (G' := ([rc (rPD P w K (rT K rS)) table1, rc (rL rS) s5, none, none, none, none, none] : Cells K)) (r := rS) ?_ (by first | assumption | (rw [ups_len]; omega) | (rw [List.length_map, List.length_range]; omega) | (simp only [List.length_cons, List.length_nil]; omega)) (fun _ y17 _ _ => ⟨_, tb_name, ?_⟩)
    · exact wk_own (i := 1) (by rfl)
    · walk_at "ev"
/-! ### _law_cell -/
abbrev s__law_cell : Stmt := topS 3
abbrev n__law_cell : List Str := ["_law_script", "_law_k"]
abbrev p__law_cell : List Str := ["_law_script", "_law_k"]
theorem sc__law_cell : FnScope n__law_cell p__law_cell (defScope s__law_cell) := ⟨rfl, rfl, rfl, by decide +kernel, rfl, by decide +kernel, by decide +kernel⟩
abbrev sp__law_cell (K : PySem.W.Frag) : Sp := spM (aC (rQ K rI) (aC rI aN)) rI fun a => m__law_cell a.1 a.2.1
theorem c__law_cell {P : Program} {w : World} {K : PySem.W.Frag} {mg : Str → Option Value} {base : Heap} (F : Df K mg "_law_cell" s__law_cell) (B_len : mg "len" = none) (B_int : mg "int" = none) : Cal P w K mg base CX0 "_law_cell" 1 p__law_cell (sp__law_cell K) := by
  refine cal_of F sc__law_cell (fun vs H Q E ⟨a, b, h, _⟩ => LenA.len h) (fun _ _ _ _ _ _ us hl => match us, hl with | [_, _], _ => rfl) fun cdv f A outer s H vs Q E hr h => ?_
  have sc := sc__law_cell
  refine ⟨_, (pss_one (ps_ret (pe_ifExp (pt_cmpR op_lt (pv 1) (pe_callB (k_len K) (by rfl) B_len PySem.boot_len (pa_cons (pv 0) pa_nil)) (nomark _)) (pe_callTy call_int1 (by rfl) B_int (by decide +kernel) (pa_cons (pe_ix (k_ix K) (pv 0) (pv 1) (fun _ _ => rfl)) pa_nil)) pe_int))), ?_⟩
  obtain ⟨⟨script1, k2, _⟩, r0, ⟨v_script1, _, rfl, w_script1, ⟨v_k2, _, rfl, w_k2, rfl⟩⟩, h, k⟩ := h
  have hD : RtOk (fz K rI) H r0 { nx := fun _ H' => Q .non H', rt := Q } := fun v H' ⟨as, s, n, z⟩ => k v H' s z.2.now
  refine Sv.run (K := K) (G := ([rc (rQ K rI) script1, fc rI k2] : Cells K)) ?_ (.ro w_script1 (.fz w_k2 .nil))
  have h : m__law_cell script1 k2 = .ok r0 := h
  unfold m__law_cell at h
  obtain ⟨c4, e_c4, h⟩ := mb_ok h
  cases h
  refine r_ret hD ?_
  refine ev_ifM ?_ (fun _ e => ?_) (fun _ e => ?_) e_c4
  · walk_at "ev"
  · obtain ⟨t3, e_t3, e⟩ := mb_ok e; have e_t3 := oM_ok e_t3
    cases e
    walk_at "ev"
  · cases e
    walk_at "ev"
/-! ### _law_draws -/
abbrev s__law_draws : Stmt := topS 4
abbrev n__law_draws : List Str := ["_law_cell_here", "_law_many", "_law_rest", "_law_row", "_law_k", "_law_mixed"]
abbrev p__law_draws : List Str := ["_law_cell_here", "_law_many"]
theorem sc__law_draws : FnScope n__law_draws p__law_draws (defScope s__law_draws) := ⟨rfl, rfl, rfl, by decide +kernel, rfl, by decide +kernel, by decide +kernel⟩
abbrev sp__law_draws (K : PySem.W.Frag) : Sp := spMN (aC rI (aC rI aN)) (nl K rI) fun a => m__law_draws a.1 a.2.1
theorem c__law_draws {P : Program} {w : World} {K : PySem.W.Frag} {mg : Str → Option Value} {base : Heap} (F : Df K mg "_law_draws" s__law_draws) (B_int : mg "int" = none) (B_range : mg "range" = none) : Cal P w K mg base CX0 "_law_draws" 1 p__law_draws (sp__law_draws K) := by
  refine cal_of F sc__law_draws (fun vs H Q E ⟨a, b, h, _⟩ => LenA.len h) (fun _ _ _ _ _ _ us hl => match us, hl with | [_, _], _ => rfl) fun cdv f A outer s H vs Q E hr h => ?_
  have sc := sc__law_draws
  refine ⟨_, (pss_cons (ps_set (i := 2) sc.nd rfl (Or.inl rfl) (pe_op op_mul (pv 0) (pe_callTy call_int1 (by rfl) B_int (by decide +kernel) (pa_cons (pe_cmpR op_ge (pv 0) (pe_op op_pow pe_int pe_int) (nomark _)) pa_nil))))
      (pss_cons (ps_set (i := 3) sc.nd rfl (Or.inl rfl) (pe_lst pa_nil))
      (pss_cons (ps_for PassesOwn.never rfl (pi_range1 (by rfl) B_range (pa_cons (pv 1) pa_nil)) (pg_name (i := 4) sc.nd rfl (Or.inl rfl))
      (pss_one (ps_if (pt_cmpR op_gt (pv 2) pe_int (nomark _))
      (pss_cons (ps_expr (pe_app K (pv 3) (pa_cons (pe_op op_mod (pe_callTy call_int1 (by rfl) B_int (by decide +kernel) (pa_cons (pv 2) pa_nil)) pe_int) pa_nil)))
      (pss_one (ps_set (i := 2) sc.nd rfl (Or.inl rfl) (pe_op op_fdiv (pv 2) pe_int)))) (pss_cons (ps_set (i := 5) sc.nd rfl (Or.inl rfl) (pe_op op_mod (pe_callTy call_int1 (by rfl) B_int (by decide +kernel) (pa_cons (pe_op op_add (pe_op op_add (pe_op op_mul (pv 0) pe_int) (pe_op op_mul (pv 4) pe_int)) pe_int) pa_nil)) pe_int))
      (pss_cons (ps_set (i := 5) sc.nd rfl (Or.inl rfl) (pe_op op_mod (pe_callTy call_int1 (by rfl) B_int (by decide +kernel) (pa_cons (pe_op op_add (pe_op op_add (pe_op op_mul (pv 5) (pv 5)) (pe_op op_mul pe_int (pv 5))) (pv 4)) pa_nil)) pe_int))
      (pss_one (ps_expr (pe_app K (pv 3) (pa_cons (pe_op op_mod (pe_op op_mod (pe_callTy call_int1 (by rfl) B_int (by decide +kernel) (pa_cons (pe_op op_add (pe_op op_mul (pv 5) (pv 5)) (pe_op op_mul pe_int (pv 5))) pa_nil)) pe_int) pe_int) pa_nil)))))))))
      (pss_one (ps_ret (pv 3)))))), ?_⟩
  obtain ⟨⟨cellhere1, many2, _⟩, r0, ⟨v_cellhere1, _, rfl, w_cellhere1, ⟨v_many2, _, rfl, w_many2, rfl⟩⟩, h, k⟩ := h
  have hD : RtOk (nl K rI) H r0 { nx := fun _ H' => Q .non H', rt := Q } := fun v H' ⟨as, s, n, z⟩ => k v H' as s n z
  refine Sv.run (K := K) (G := ([fc rI cellhere1, fc rI many2, none, none, none, none] : Cells K)) ?_ (.fz w_cellhere1 (.fz w_many2 (.skip (.skip (.skip (.skip .nil))))))
  have h : m__law_draws cellhere1 many2 = .ok r0 := h
  unfold m__law_draws at h
  obtain ⟨rest3, e_rest3, h⟩ := mb_ok h; have e_rest3 := ok_inj e_rest3
  refine q_set (r := rI) (b := cellhere1 * (b2 (decide (((10 : Int) ^ ((18 : Int)).toNat) ≤ cellhere1)))) (b' := rest3) ?_ e_rest3 ?_
  · walk_at "ev"
  obtain ⟨row4, e_row4, h⟩ := mb_ok h; have e_row4 := ok_inj e_row4
  refine q_asg (R := (nl K rI)) (b := ([] : (List Int))) (b' := row4) ?_ e_row4 ?_
  · walk_at "ev"
  obtain ⟨_, e_u5, h⟩ := mb_ok h; have e_u5 := of_decide_eq_true (chk_ok e_u5)
  obtain ⟨s8, hm, h⟩ := mb_ok h
  refine q_forM (G' := ([fc rI cellhere1, fc rI many2, fc rI rest3, some (.ow (nl K rI) row4), none, none] : Cells K)) (r := rI) (f := (fun (s6 : (Int × (List Int))) (x7 : Int) => bif (decide ((0 : Int) < s6.1)) then mb (chk (decide (s6.2.length < 100000))) fun _ => mb (.ok (s6.2 ++ [s6.1 % (840 : Int)])) fun row10 => mb (.ok (s6.1 / (840 : Int))) fun rest11 => .ok (rest11, row10) else mb (.ok ((((cellhere1 * (48271 : Int)) + (x7 * (6961 : Int))) + (1013 : Int)) % (1000003 : Int))) fun mixed12 => mb (chk (decide (CMul mixed12 mixed12))) fun _ => mb (.ok ((((mixed12 * mixed12) + ((11 : Int) * mixed12)) + x7) % (999983 : Int))) fun mixed14 => mb (chk (decide (CMul mixed14 mixed14))) fun _ => mb (chk (decide (s6.2.length < 100000))) fun _ => mb (.ok (s6.2 ++ [(((mixed14 * mixed14) + ((3 : Int) * mixed14)) % (99991 : Int)) % (840 : Int)])) fun row17 => .ok (s6.1, row17))) (s0 := (rest3, row4)) (fun (s6 : (Int × (List Int))) => ([fc rI cellhere1, fc rI many2, fc rI s6.1, some (.ow (nl K rI) s6.2), none, none] : Cells K)) hm ?_ (.keep (.keep (.keep (.keep (.keep (.keep .nil)))))) (fun H0' e0 x7 s6 s' h => ⟨_, tg_name, ?_⟩) ?_
  · refine wk_rng1 ?_ ?_
    · walk_at "ev"
    · first | assumption | omega
  · have hD : Nx H0' ((fun (s6 : (Int × (List Int))) => ([fc rI cellhere1, fc rI many2, fc rI s6.1, some (.ow (nl K rI) s6.2), none, none] : Cells K)) s') (Have H0' ((fun (s6 : (Int × (List Int))) => ([fc rI cellhere1, fc rI many2, fc rI s6.1, some (.ow (nl K rI) s6.2), none, none] : Cells K)) s')) := fun _ _ z => z
    refine l_if (c := (decide ((0 : Int) < s6.1))) ?_ ?_ ?_
    · walk_at "ev"
    · intro hc; have h := bif_t h hc
      obtain ⟨_, e_u9, h⟩ := mb_ok h; have e_u9 := of_decide_eq_true (chk_ok e_u9)
      obtain ⟨row10, e_row10, h⟩ := mb_ok h; have e_row10 := ok_inj e_row10
      refine q_app (x := s6.1 % (840 : Int)) (xs := s6.2) (by rfl) (x' := s6.1 % (840 : Int)) ?_ rfl (by assumption) ?_
      · walk_at "ev"
      rw [e_row10]
      obtain ⟨rest11, e_rest11, h⟩ := mb_ok h; have e_rest11 := ok_inj e_rest11
      refine l_set (r := rI) (b := s6.1 / (840 : Int)) (b' := rest11) ?_ e_rest11 ?_
      · walk_at "ev"
      cases h
      exact fun σ H hv => hD σ H (hv.less (.keep (.keep (.keep (.keep (.drop (.keep .nil)))))))
    · intro hc; have h := bif_f h hc
      obtain ⟨mixed12, e_mixed12, h⟩ := mb_ok h; have e_mixed12 := ok_inj e_mixed12
      refine q_set (r := rI) (b := (((cellhere1 * (48271 : Int)) + (x7 * (6961 : Int))) + (1013 : Int)) % (1000003 : Int)) (b' := mixed12) ?_ e_mixed12 ?_
      · walk_at "ev"
      obtain ⟨_, e_u13, h⟩ := mb_ok h; have e_u13 := of_decide_eq_true (chk_ok e_u13)
      obtain ⟨mixed14, e_mixed14, h⟩ := mb_ok h; have e_mixed14 := ok_inj e_mixed14
      refine q_set (r := rI) (b := (((mixed12 * mixed12) + ((11 : Int) * mixed12)) + x7) % (999983 : Int)) (b' := mixed14) ?_ e_mixed14 ?_
      · walk_at "ev"
      obtain ⟨_, e_u15, h⟩ := mb_ok h; have e_u15 := of_decide_eq_true (chk_ok e_u15)
      obtain ⟨_, e_u16, h⟩ := mb_ok h; have e_u16 := of_decide_eq_true (chk_ok e_u16)
      obtain ⟨row17, e_row17, h⟩ := mb_ok h; have e_row17 := ok_inj e_row17
      refine l_app (x := (((mixed14 * mixed14) + ((3 : Int) * mixed14)) % (99991 : Int)) % (840 : Int)) (xs := s6.2) (by rfl) (x' := (((mixed14 * mixed14) + ((3 : Int) * mixed14)) % (99991 : Int)) % (840 : Int)) ?_ rfl (by assumption) ?_
      · walk_at "ev"
      rw [e_row17]
      cases h
      exact fun σ H hv => hD σ H (hv.less (.keep (.keep (.keep (.keep (.drop (.drop .nil)))))))
  cases h
  exact r_retO (i := 3) hD (by rfl)
/-! ### _law_word -/
abbrev s__law_word : Stmt := topS 5
abbrev n__law_word : List Str := ["_law_row", "_law_capital", "_law_letters", "_law_text", "_law_every", "_law_d", "_law_name", "_law_odd"]
abbrev p__law_word : List Str := ["_law_row", "_law_capital"]
theorem sc__law_word : FnScope n__law_word p__law_word (defScope s__law_word) := ⟨rfl, rfl, rfl, by decide +kernel, rfl, by decide +kernel, by decide +kernel⟩
abbrev sp__law_word (K : PySem.W.Frag) : Sp := spM (aC (rL rI) (aC rB aN)) rS fun a => m__law_word a.1 a.2.1
theorem c__law_word {P : Program} {w : World} {K : PySem.W.Frag} {mg : Str → Option Value} {base : Heap} (F : Df K mg "_law_word" s__law_word) (B_int : mg "int" = none) (B_len : mg "len" = none) : Cal P w K mg base CX0 "_law_word" 1 p__law_word (sp__law_word K) := by
  refine cal_of F sc__law_word (fun vs H Q E ⟨a, b, h, _⟩ => LenA.len h) (fun _ _ _ _ _ _ us hl => match us, hl with | [_, _], _ => rfl) fun cdv f A outer s H vs Q E hr h => ?_
  have sc := sc__law_word
  refine ⟨_, (pss_cons (ps_set (i := 2) sc.nd rfl (Or.inl rfl) pe_str)
      (pss_cons (ps_set (i := 3) sc.nd rfl (Or.inl rfl) (pe_ix (k_ix K) (pv 2) (pe_op op_mod (pe_callTy call_int1 (by rfl) B_int (by decide +kernel) (pa_cons (pe_ix (k_ix K) (pv 0) pe_int (fun _ _ => rfl)) pa_nil)) pe_int) (fun _ _ => rfl)))
      (pss_cons (ps_if (pt_val (pv 1))
      (pss_one (ps_set (i := 3) sc.nd rfl (Or.inl rfl) (pe_upper (pv 3)))) pss_nil)
      (pss_cons (ps_set (i := 4) sc.nd rfl (Or.inl rfl) (pe_op op_add_str (pe_op op_add_str (pv 2) (pe_upper (pv 2))) pe_str))
      (pss_cons (ps_for PassesOwn.never rfl (pi_listK K (pe_slice (k_slL K) (pv 0) (po_some pe_int) (po_some (pe_op op_add pe_int (pe_op op_mod (pe_callTy call_int1 (by rfl) B_int (by decide +kernel) (pa_cons (pe_ix (k_ix K) (pv 0) pe_int (fun _ _ => rfl)) pa_nil)) pe_int))))) (pg_name (i := 5) sc.nd rfl (Or.inl rfl))
      (pss_one (ps_set (i := 3) sc.nd rfl (Or.inl rfl) (pe_op op_add_str (pv 3) (pe_ix (k_ix K) (pv 4) (pe_op op_mod (pe_callTy call_int1 (by rfl) B_int (by decide +kernel) (pa_cons (pv 5) pa_nil)) pe_int) (fun _ _ => rfl))))))
      (pss_cons (ps_if (pt_cmpR op_eq (pe_op op_mod (pe_op op_fdiv (pe_callTy call_int1 (by rfl) B_int (by decide +kernel) (pa_cons (pe_ix (k_ix K) (pv 0) pe_int (fun _ _ => rfl)) pa_nil)) pe_int) pe_int) pe_int (nomark _))
      (pss_cons (ps_set (i := 6) sc.nd rfl (Or.inl rfl) pe_str)
      (pss_cons (ps_for PassesOwn.never rfl (pi_listK K (pe_slice (k_slL K) (pv 0) (po_some pe_int) (po_some (pe_op op_add pe_int (pe_op op_mod (pe_op op_fdiv (pe_callTy call_int1 (by rfl) B_int (by decide +kernel) (pa_cons (pe_ix (k_ix K) (pv 0) pe_int (fun _ _ => rfl)) pa_nil)) pe_int) pe_int))))) (pg_name (i := 5) sc.nd rfl (Or.inl rfl))
      (pss_one (ps_set (i := 6) sc.nd rfl (Or.inl rfl) (pe_op op_add_str (pv 6) (pe_ix (k_ix K) (pv 2) (pe_op op_mod (pe_callTy call_int1 (by rfl) B_int (by decide +kernel) (pa_cons (pv 5) pa_nil)) pe_int) (fun _ _ => rfl))))))
      (pss_one (ps_set (i := 3) sc.nd rfl (Or.inl rfl) (pe_op op_add_str (pe_op op_add_str (pv 6) pe_str) (pv 3)))))) pss_nil)
      (pss_cons (ps_if (pt_cmpR op_eq (pe_op op_mod (pe_op op_fdiv (pe_callTy call_int1 (by rfl) B_int (by decide +kernel) (pa_cons (pe_ix (k_ix K) (pv 0) pe_int (fun _ _ => rfl)) pa_nil)) pe_int) pe_int) pe_int (nomark _))
      (pss_cons (ps_set (i := 7) sc.nd rfl (Or.inl rfl) (pe_lst (pa_cons pe_str (pa_cons pe_str (pa_cons pe_str (pa_cons pe_str (pa_cons pe_str (pa_cons pe_str (pa_cons pe_str (pa_cons pe_str (pa_cons pe_str (pa_cons pe_str (pa_cons pe_str pa_nil)))))))))))))
      (pss_cons (ps_set (i := 7) sc.nd rfl (Or.inl rfl) (pe_op op_cat (pv 7) (pe_lst (pa_cons pe_str (pa_cons pe_str (pa_cons pe_str (pa_cons pe_str (pa_cons pe_str (pa_cons pe_str (pa_cons pe_str (pa_cons pe_str pa_nil)))))))))))
      (pss_cons (ps_set (i := 7) sc.nd rfl (Or.inl rfl) (pe_op op_cat (pv 7) (pe_lst (pa_cons pe_str (pa_cons pe_str (pa_cons pe_str (pa_cons pe_str (pa_cons pe_str (pa_cons pe_str (pa_cons pe_str pa_nil))))))))))
      (pss_one (ps_set (i := 3) sc.nd rfl (Or.inl rfl) (pe_ix (k_ix K) (pv 7) (pe_op op_mod (pe_callTy call_int1 (by rfl) B_int (by decide +kernel) (pa_cons (pe_ix (k_ix K) (pv 0) pe_int (fun _ _ => rfl)) pa_nil)) (pe_callB (k_len K) (by rfl) B_len PySem.boot_len (pa_cons (pv 7) pa_nil))) (fun _ _ => rfl))))))) pss_nil)
      (pss_one (ps_ret (pv 3)))))))))), ?_⟩
  obtain ⟨⟨row1, capital2, _⟩, r0, ⟨v_row1, _, rfl, w_row1, ⟨v_capital2, _, rfl, w_capital2, rfl⟩⟩, h, k⟩ := h
  have hD : RtOk (fz K rS) H r0 { nx := fun _ H' => Q .non H', rt := Q } := fun v H' ⟨as, s, n, z⟩ => k v H' s z.2.now
  refine Sv.run (K := K) (G := ([rc (rL rI) row1, fc rB capital2, none, none, none, none, none, none] : Cells K)) ?_ (.ro w_row1 (.fz w_capital2 (.skip (.skip (.skip (.skip (.skip (.skip .nil))))))))
  have h : m__law_word row1 capital2 = .ok r0 := h
  unfold m__law_word at h
  obtain ⟨letters3, e_letters3, h⟩ := mb_ok h; have e_letters3 := ok_inj e_letters3
  refine q_set (r := rS) (b := ("abcdefghijklmnopqrstuvwxyz" : Str)) (b' := letters3) ?_ e_letters3 ?_
  · walk_at "ev"
  obtain ⟨t4, e_t4, h⟩ := mb_ok h; have e_t4 := oM_ok e_t4
  obtain ⟨t5, e_t5, h⟩ := mb_ok h; have e_t5 := oM_ok e_t5
  refine q_set (r := rS) (b := t5) (b' := t5) ?_ rfl ?_
  · walk_at "ev"
  obtain ⟨s6, h1, h⟩ := mb_ok h
  refine cutK ([rc (rL rI) row1, fc rB capital2, fc rS letters3, fc rS s6, none, none, none, none] : Cells K) (fun K1 => ?_) ?_
  · have h := h1; clear h1; have hD := K1
    refine q_if (c := capital2) ?_ ?_ ?_
    · walk_at "ev"
    · intro hc; have h := bif_t h hc
      obtain ⟨_, e_u7, h⟩ := mb_ok h; have e_u7 := of_decide_eq_true (chk_ok e_u7)
      obtain ⟨text8, e_text8, h⟩ := mb_ok h; have e_text8 := ok_inj e_text8
      refine l_set (r := rS) (b := Txt.upper t5) (b' := text8) ?_ e_text8 ?_
      · walk_at "ev"
      cases h
      exact fun σ H hv => hD σ H (hv.less (.keep (.keep (.keep (.keep (.keep (.keep (.keep (.keep .nil)))))))))
    · intro hc; have h := bif_f h hc
      cases h
      exact fun σ H hv => hD σ H (hv.less (.keep (.keep (.keep (.keep (.keep (.keep (.keep (.keep .nil)))))))))
  obtain ⟨_, e_u9, h⟩ := mb_ok h; have e_u9 := of_decide_eq_true (chk_ok e_u9)
  obtain ⟨_, e_u10, h⟩ := mb_ok h; have e_u10 := of_decide_eq_true (chk_ok e_u10)
  obtain ⟨_, e_u11, h⟩ := mb_ok h; have e_u11 := of_decide_eq_true (chk_ok e_u11)
  obtain ⟨every12, e_every12, h⟩ := mb_ok h; have e_every12 := ok_inj e_every12
  refine q_set (r := rS) (b := (letters3 ++ (Txt.upper letters3)) ++ ("0123456789" : Str)) (b' := every12) ?_ e_every12 ?_
  · walk_at "ev"
  obtain ⟨t13, e_t13, h⟩ := mb_ok h; have e_t13 := oM_ok e_t13
  obtain ⟨s16, hm, h⟩ := mb_ok h
  refine q_forM (G' := ([rc (rL rI) row1, fc rB capital2, fc rS letters3, fc rS s6, fc rS every12, none, none, none] : Cells K)) (r := rI) (f := (fun (s14 : Str) (x15 : Int) => mb (oM (atI (chs every12) (x15 % (62 : Int)))) fun t17 => mb (chk (decide (s14.length + t17.length ≤ 100000))) fun _ => mb (.ok (s14 ++ t17)) fun text19 => .ok text19)) (s0 := s6) (fun (s14 : Str) => ([rc (rL rI) row1, fc rB capital2, fc rS letters3, fc rS s14, fc rS every12, none, none, none] : Cells K)) hm ?_ (.keep (.keep (.keep (.keep (.keep (.keep (.keep (.keep .nil)))))))) (fun H0' e0 x15 s14 s' h => ⟨_, tg_name, ?_⟩) ?_
  · refine wk_new ?_
    walk_at "ev"
  · have hD : Nx H0' ((fun (s14 : Str) => ([rc (rL rI) row1, fc rB capital2, fc rS letters3, fc rS s14, fc rS every12, none, none, none] : Cells K)) s') (Have H0' ((fun (s14 : Str) => ([rc (rL rI) row1, fc rB capital2, fc rS letters3, fc rS s14, fc rS every12, none, none, none] : Cells K)) s')) := fun _ _ z => z
    obtain ⟨t17, e_t17, h⟩ := mb_ok h; have e_t17 := oM_ok e_t17
    obtain ⟨_, e_u18, h⟩ := mb_ok h; have e_u18 := of_decide_eq_true (chk_ok e_u18)
    obtain ⟨text19, e_text19, h⟩ := mb_ok h; have e_text19 := ok_inj e_text19
    refine l_set (r := rS) (b := s14 ++ t17) (b' := text19) ?_ e_text19 ?_
    · walk_at "ev"
    cases h
    exact fun σ H hv => hD σ H (hv.less (.keep (.keep (.keep (.keep (.keep (.drop (.keep (.keep .nil)))))))))
  obtain ⟨s20, h1, h⟩ := mb_ok h
  refine cutK ([rc (rL rI) row1, fc rB capital2, fc rS letters3, fc rS s20, fc rS every12, none, none, none] : Cells K) (fun K1 => ?_) ?_
  · have h := h1; clear h1; have hD := K1
    refine q_if (c := (decide (((t13 / (8 : Int)) % (3 : Int)) = (0 : Int)))) ?_ ?_ ?_
    · walk_at "ev"
    · intro hc; have h := bif_t h hc
      obtain ⟨name21, e_name21, h⟩ := mb_ok h; have e_name21 := ok_inj e_name21
      refine q_set (r := rS) (b := ("" : Str)) (b' := name21) ?_ e_name21 ?_
      · walk_at "ev"
      obtain ⟨s24, hm, h⟩ := mb_ok h
      refine q_forM (G' := ([rc (rL rI) row1, fc rB capital2, fc rS letters3, fc rS s16, fc rS every12, none, fc rS name21, none] : Cells K)) (r := rI) (f := (fun (s22 : Str) (x23 : Int) => mb (oM (atI (chs letters3) (x23 % (26 : Int)))) fun t25 => mb (chk (decide (s22.length + t25.length ≤ 100000))) fun _ => mb (.ok (s22 ++ t25)) fun name27 => .ok name27)) (s0 := name21) (fun (s22 : Str) => ([rc (rL rI) row1, fc rB capital2, fc rS letters3, fc rS s16, fc rS every12, none, fc rS s22, none] : Cells K)) hm ?_ (.keep (.keep (.keep (.keep (.keep (.keep (.keep (.keep .nil)))))))) (fun H0' e0 x23 s22 s' h => ⟨_, tg_name, ?_⟩) ?_
      · refine wk_new ?_
        walk_at "ev"
      · have hD : Nx H0' ((fun (s22 : Str) => ([rc (rL rI) row1, fc rB capital2, fc rS letters3, fc rS s16, fc rS every12, none, fc rS s22, none] : Cells K)) s') (Have H0' ((fun (s22 : Str) => ([rc (rL rI) row1, fc rB capital2, fc rS letters3, fc rS s16, fc rS every12, none, fc rS s22, none] : Cells K)) s')) := fun _ _ z => z
        obtain ⟨t25, e_t25, h⟩ := mb_ok h; have e_t25 := oM_ok e_t25
        obtain ⟨_, e_u26, h⟩ := mb_ok h; have e_u26 := of_decide_eq_true (chk_ok e_u26)
        obtain ⟨name27, e_name27, h⟩ := mb_ok h; have e_name27 := ok_inj e_name27
        refine l_set (r := rS) (b := s22 ++ t25) (b' := name27) ?_ e_name27 ?_
        · walk_at "ev"
        cases h
        exact fun σ H hv => hD σ H (hv.less (.keep (.keep (.keep (.keep (.keep (.drop (.keep (.keep .nil)))))))))
      obtain ⟨_, e_u28, h⟩ := mb_ok h; have e_u28 := of_decide_eq_true (chk_ok e_u28)
      obtain ⟨_, e_u29, h⟩ := mb_ok h; have e_u29 := of_decide_eq_true (chk_ok e_u29)
      obtain ⟨text30, e_text30, h⟩ := mb_ok h; have e_text30 := ok_inj e_text30
      refine l_set (r := rS) (b := (s24 ++ ("." : Str)) ++ s16) (b' := text30) ?_ e_text30 ?_
      · walk_at "ev"
      cases h
      exact fun σ H hv => hD σ H (hv.less (.keep (.keep (.keep (.keep (.keep (.keep (.drop (.keep .nil)))))))))
    · intro hc; have h := bif_f h hc
      cases h
      exact fun σ H hv => hD σ H (hv.less (.keep (.keep (.keep (.keep (.keep (.keep (.keep (.keep .nil)))))))))
  obtain ⟨s31, h1, h⟩ := mb_ok h
  refine cutK ([rc (rL rI) row1, fc rB capital2, fc rS letters3, fc rS s31, fc rS every12, none, none, none] : Cells K) (fun K1 => ?_) ?_
  · have h := h1; clear h1; have hD := K1
    refine q_if (c := (decide (((t13 / (192 : Int)) % (4 : Int)) = (3 : Int)))) ?_ ?_ ?_
    · walk_at "ev"
    · intro hc; have h := bif_t h hc
      obtain ⟨odd32, e_odd32, h⟩ := mb_ok h; have e_odd32 := ok_inj e_odd32
      refine q_asg (R := (nl K rS)) (b := [("" : Str), ("." : Str), ("9a" : Str), ("a b" : Str), ("a-b" : Str), (".a" : Str), ("a." : Str), ("a.b.c" : Str), ("A.b" : Str), ("a1.c" : Str), ("abcdefghi" : Str)]) (b' := odd32) ?_ e_odd32 ?_
      · walk_at "ev"
      obtain ⟨_, e_u33, h⟩ := mb_ok h; have e_u33 := of_decide_eq_true (chk_ok e_u33)
      obtain ⟨odd34, e_odd34, h⟩ := mb_ok h; have e_odd34 := ok_inj e_odd34
      refine q_asg (R := (nl K rS)) (b := odd32 ++ ([("abcdefghi.a" : Str), ("a.9" : Str), ("a..b" : Str), ("ABCDEFGHI" : Str), ("a.Bcdefghij" : Str), (" a" : Str), ("a " : Str), ("x.a b" : Str)])) (b' := odd34) ?_ e_odd34 ?_
      · walk_at "ev"
      obtain ⟨_, e_u35, h⟩ := mb_ok h; have e_u35 := of_decide_eq_true (chk_ok e_u35)
      obtain ⟨odd36, e_odd36, h⟩ := mb_ok h; have e_odd36 := ok_inj e_odd36
      refine q_asg (R := (nl K rS)) (b := odd34 ++ ([("x.A-" : Str), ("a_b" : Str), ("A\n" : Str), ("->" : Str), ("Ab.C" : Str), ("x y.a" : Str), ("7.a" : Str)])) (b' := odd36) ?_ e_odd36 ?_
      · walk_at "ev"
      obtain ⟨_, e_u37, h⟩ := mb_ok h; have e_u37 := of_decide_eq_true (chk_ok e_u37)
      obtain ⟨t38, e_t38, h⟩ := mb_ok h; have e_t38 := oM_ok e_t38
      refine l_set (r := rS) (b := t38) (b' := t38) ?_ rfl ?_
      · walk_at "ev"
      cases h
      exact fun σ H hv => hD σ H (hv.less (.keep (.keep (.keep (.keep (.keep (.keep (.keep (.drop .nil)))))))))
    · intro hc; have h := bif_f h hc
      cases h
      exact fun σ H hv => hD σ H (hv.less (.keep (.keep (.keep (.keep (.keep (.keep (.keep (.keep .nil)))))))))
  cases h
  refine r_ret hD ?_
  walk_at "ev"
/-! ### _law_is_sign -/
abbrev s__law_is_sign : Stmt := topS 6
abbrev n__law_is_sign : List Str := ["_law_text", "_law_small", "_law_parts", "_law_plain", "_law_char"]
abbrev p__law_is_sign : List Str := ["_law_text"]
theorem sc__law_is_sign : FnScope n__law_is_sign p__law_is_sign (defScope s__law_is_sign) := ⟨rfl, rfl, rfl, by decide +kernel, rfl, by decide +kernel, by decide +kernel⟩
abbrev sp__law_is_sign (K : PySem.W.Frag) : Sp := spM (aC rS aN) rB fun a => m__law_is_sign a.1
theorem c__law_is_sign {P : Program} {w : World} {K : PySem.W.Frag} {mg : Str → Option Value} {base : Heap} (F : Df K mg "_law_is_sign" s__law_is_sign) (B_len : mg "len" = none) : Cal P w K mg base CX0 "_law_is_sign" 1 p__law_is_sign (sp__law_is_sign K) := by
  refine cal_of F sc__law_is_sign (fun vs H Q E ⟨a, b, h, _⟩ => LenA.len h) (fun _ _ _ _ _ _ us hl => match us, hl with | [_], _ => rfl) fun cdv f A outer s H vs Q E hr h => ?_
  have sc := sc__law_is_sign
  refine ⟨_, (pss_cons (ps_set (i := 1) sc.nd rfl (Or.inl rfl) pe_str)
      (pss_cons (ps_set (i := 2) sc.nd rfl (Or.inl rfl) (pe_split (pv 0) pe_str))
      (pss_cons (ps_if (pt_cmpR op_gt (pe_callB (k_len K) (by rfl) B_len PySem.boot_len (pa_cons (pv 2) pa_nil)) pe_int (nomark _))
      (pss_one (ps_ret pe_bl)) pss_nil)
      (pss_cons (ps_set (i := 3) sc.nd rfl (Or.inl rfl) (pe_ix (k_ix K) (pv 2) (pe_un un_neg pe_int) (fun _ _ => rfl)))
      (pss_cons (ps_if (PW.pt (pw_or (pt_cmpR op_lt (pe_callB (k_len K) (by rfl) B_len PySem.boot_len (pa_cons (pv 3) pa_nil)) pe_int (nomark _)) (pw_or (pt_cmpR op_gt (pe_callB (k_len K) (by rfl) B_len PySem.boot_len (pa_cons (pv 3) pa_nil)) pe_int (nomark _)) (pw_or1 (pt_cmpR op_in_sign (pe_ix (k_ix K) (pv 3) pe_int (fun _ _ => rfl)) pe_str rfl)))))
      (pss_one (ps_ret pe_bl)) pss_nil)
      (pss_cons (ps_for PassesOwn.never rfl (pi_str (pv 3)) (pg_name (i := 4) sc.nd rfl (Or.inl rfl))
      (pss_one (ps_if (PW.pt (pw_and (pt_cmpR op_notIn_sign (pv 4) (pv 1) rfl) (pw_and (pt_cmpR op_notIn_sign (pv 4) (pe_upper (pv 1)) rfl) (pw_and1 (pt_cmpR op_notIn_sign (pv 4) pe_str rfl)))))
      (pss_one (ps_ret pe_bl)) pss_nil)))
      (pss_cons (ps_if (pt_cmpR op_eq (pe_callB (k_len K) (by rfl) B_len PySem.boot_len (pa_cons (pv 2) pa_nil)) pe_int (nomark _))
      (pss_one (ps_ret pe_bl)) pss_nil)
      (pss_cons (ps_if (PW.pt (pw_or (pt_cmpR op_lt (pe_callB (k_len K) (by rfl) B_len PySem.boot_len (pa_cons (pe_ix (k_ix K) (pv 2) pe_int (fun _ _ => rfl)) pa_nil)) pe_int (nomark _)) (pw_or1 (pt_cmpR op_gt (pe_callB (k_len K) (by rfl) B_len PySem.boot_len (pa_cons (pe_ix (k_ix K) (pv 2) pe_int (fun _ _ => rfl)) pa_nil)) pe_int (nomark _)))))
      (pss_one (ps_ret pe_bl)) pss_nil)
      (pss_cons (ps_for PassesOwn.never rfl (pi_str (pe_ix (k_ix K) (pv 2) pe_int (fun _ _ => rfl))) (pg_name (i := 4) sc.nd rfl (Or.inl rfl))
      (pss_one (ps_if (pt_cmpR op_notIn_sign (pv 4) (pv 1) rfl)
      (pss_one (ps_ret pe_bl)) pss_nil)))
      (pss_one (ps_ret pe_bl))))))))))), ?_⟩
  obtain ⟨⟨text1, _⟩, r0, ⟨v_text1, _, rfl, w_text1, rfl⟩, h, k⟩ := h
  have hD : RtOk (fz K rB) H r0 { nx := fun _ H' => Q .non H', rt := Q } := fun v H' ⟨as, s, n, z⟩ => k v H' s z.2.now
  refine Sv.run (K := K) (G := ([fc rS text1, none, none, none, none] : Cells K)) ?_ (.fz w_text1 (.skip (.skip (.skip (.skip .nil)))))
  have h : m__law_is_sign text1 = .ok r0 := h
  unfold m__law_is_sign at h
  obtain ⟨small2, e_small2, h⟩ := mb_ok h; have e_small2 := ok_inj e_small2
  refine q_set (r := rS) (b := ("abcdefghijklmnopqrstuvwxyz" : Str)) (b' := small2) ?_ e_small2 ?_
  · walk_at "ev"
  obtain ⟨_, e_u3, h⟩ := mb_ok h; have e_u3 := of_decide_eq_true (chk_ok e_u3)
  obtain ⟨_, e_u4, h⟩ := mb_ok h; have e_u4 := of_decide_eq_true (chk_ok e_u4)
  obtain ⟨_, e_u5, h⟩ := mb_ok h; have e_u5 := of_decide_eq_true (chk_ok e_u5)
  obtain ⟨parts6, e_parts6, h⟩ := mb_ok h; have e_parts6 := ok_inj e_parts6
  refine q_asg (R := (nl K rS)) (b := Txt.split text1 ("." : Str)) (b' := parts6) ?_ e_parts6 ?_
  · walk_at "ev"
  refine q_if (c := (decide ((2 : Int) < (parts6.length : Int)))) ?_ ?_ ?_
  · walk_at "ev"
  · intro hc; have h := bif_t h hc
    cases h
    refine r_ret hD ?_
    walk_at "ev"
  · intro hc; have h := bif_f h hc
    refine q_next ?_
    obtain ⟨t7, e_t7, h⟩ := mb_ok h; have e_t7 := oM_ok e_t7
    refine q_set (r := rS) (b := t7) (b' := t7) ?_ rfl ?_
    · walk_at "ev"
    obtain ⟨c11, e_c11, h⟩ := mb_ok h
    refine q_if (c := c11) ?_ ?_ ?_
    · refine et_orM ?_ (fun _ e => ?_) e_c11
      · walk_at "ev"
      obtain ⟨c10, e_c10, e⟩ := mb_ok e
      cases e
      refine et_orM ?_ (fun _ e => ?_) e_c10
      · walk_at "ev"
      obtain ⟨t8, e_t8, e⟩ := mb_ok e; have e_t8 := oM_ok e_t8
      obtain ⟨t9, e_t9, e⟩ := mb_ok e; have e_t9 := oM_ok e_t9
      cases e
      walk_at "ev"
    · intro hc; have h := bif_t h hc
      cases h
      refine r_ret hD ?_
      walk_at "ev"
    · intro hc; have h := bif_f h hc
      refine q_next ?_
      obtain ⟨o14, hm, h⟩ := mb_ok h
      refine q_forF (G' := ([fc rS text1, fc rS small2, some (.ow (nl K rS) parts6), fc rS t7, none] : Cells K)) (r := rS) (R := (fz K rB)) (f := (fun (s12 : Unit) (x13 : Str) => mb (oM (sgn x13)) fun t15 => mb (mand (!(decide (t15 ∈ small2.cps.toList))) (mb (chk (decide (okS (Txt.upper small2)))) fun _ => .ok ((!(decide (t15 ∈ (Txt.upper small2).cps.toList))) && (!(decide (t15 ∈ ("0123456789" : Str).cps.toList)))))) fun c17 => bif c17 then .ok (.rt false) else .ok (.nx ()))) (s0 := ()) (o := o14) (fun (s12 : Unit) => ([fc rS text1, fc rS small2, some (.ow (nl K rS) parts6), fc rS t7, none] : Cells K)) hm ?_ (.keep (.keep (.keep (.keep (.keep .nil))))) (fun s12 e => ?_) (fun x e => ?_) (fun H0' D' e0 x13 s12 o' h hD => ⟨_, tg_name, ?_⟩)
      · refine wk_str ?_
        walk_at "ev"
      · subst e; have h := go_nx h
        refine q_if (c := (decide ((parts6.length : Int) = (1 : Int)))) ?_ ?_ ?_
        · walk_at "ev"
        · intro hc; have h := bif_t h hc
          cases h
          refine r_ret hD ?_
          walk_at "ev"
        · intro hc; have h := bif_f h hc
          refine q_next ?_
          obtain ⟨t18, e_t18, h⟩ := mb_ok h; have e_t18 := oM_ok e_t18
          refine q_if (c := ((decide ((t18.length : Int) < (1 : Int))) || (decide ((8 : Int) < (t18.length : Int))))) ?_ ?_ ?_
          · walk_at "ev"
          · intro hc; have h := bif_t h hc
            cases h
            refine r_ret hD ?_
            walk_at "ev"
          · intro hc; have h := bif_f h hc
            refine q_next ?_
            obtain ⟨o21, hm, h⟩ := mb_ok h
            refine q_forF (G' := ([fc rS text1, fc rS small2, some (.ow (nl K rS) parts6), fc rS t7, none] : Cells K)) (r := rS) (R := (fz K rB)) (f := (fun (s19 : Unit) (x20 : Str) => mb (oM (sgn x20)) fun t22 => bif (!(decide (t22 ∈ small2.cps.toList))) then .ok (.rt false) else .ok (.nx ()))) (s0 := ()) (o := o21) (fun (s19 : Unit) => ([fc rS text1, fc rS small2, some (.ow (nl K rS) parts6), fc rS t7, none] : Cells K)) hm ?_ (.keep (.keep (.keep (.keep (.keep .nil))))) (fun s19 e => ?_) (fun x e => ?_) (fun H0' D' e0 x20 s19 o' h hD => ⟨_, tg_name, ?_⟩)
            · refine wk_str ?_
              walk_at "ev"
            · subst e; have h := go_nx h
              cases h
              refine r_ret hD ?_
              walk_at "ev"
            · subst e; have h := go_rt h; cases h; exact hD
            · obtain ⟨t22, e_t22, h⟩ := mb_ok h; have e_t22 := oM_ok e_t22
              refine l_if (c := (!(decide (t22 ∈ small2.cps.toList)))) ?_ ?_ ?_
              · walk_at "ev"
              · intro hc; have h := bif_t h hc
                cases h
                refine r_ret hD ?_
                walk_at "ev"
              · intro hc; have h := bif_f h hc
                cases h
                exact fun σ H hv => hD σ H (hv.less (.keep (.keep (.keep (.keep (.drop .nil))))))
      · subst e; have h := go_rt h; cases h; exact hD
      · obtain ⟨t15, e_t15, h⟩ := mb_ok h; have e_t15 := oM_ok e_t15
        obtain ⟨c17, e_c17, h⟩ := mb_ok h
        refine l_if (c := c17) ?_ ?_ ?_
        · refine et_andM ?_ (fun _ e => ?_) e_c17
          · walk_at "ev"
          obtain ⟨_, e_u16, e⟩ := mb_ok e; have e_u16 := of_decide_eq_true (chk_ok e_u16)
          cases e
          refine et_and ?_ (fun _ => ?_)
          · walk_at "ev"
          walk_at "ev"
        · intro hc; have h := bif_t h hc
          cases h
          refine r_ret hD ?_
          walk_at "ev"
        · intro hc; have h := bif_f h hc
          cases h
          exact fun σ H hv => hD σ H (hv.less (.keep (.keep (.keep (.keep (.drop .nil))))))
/-! ### _law_sign -/
abbrev s__law_sign : Stmt := topS 7
abbrev n__law_sign : List Str := ["_law_row", "_law_capital", "_law_sign_here"]
abbrev p__law_sign : List Str := ["_law_row", "_law_capital"]
theorem sc__law_sign : FnScope n__law_sign p__law_sign (defScope s__law_sign) := ⟨rfl, rfl, rfl, by decide +kernel, rfl, by decide +kernel, by decide +kernel⟩
abbrev sp__law_sign (K : PySem.W.Frag) : Sp := spM (aC (rL rI) (aC rB aN)) rS fun a => m__law_sign a.1 a.2.1
theorem c__law_sign {P : Program} {w : World} {K : PySem.W.Frag} {mg : Str → Option Value} {base : Heap} (F : Df K mg "_law_sign" s__law_sign) (C__law_word : Cal P w K mg base CX0 "_law_word" 1 p__law_word (sp__law_word K)) (C__law_is_sign : Cal P w K mg base CX0 "_law_is_sign" 1 p__law_is_sign (sp__law_is_sign K)) : Cal P w K mg base CX0 "_law_sign" 2 p__law_sign (sp__law_sign K) := by
  refine cal_of F sc__law_sign (fun vs H Q E ⟨a, b, h, _⟩ => LenA.len h) (fun _ _ _ _ _ _ us hl => match us, hl with | [_, _], _ => rfl) fun cdv f A outer s H vs Q E hr h => ?_
  have sc := sc__law_sign
  refine ⟨_, (pss_cons (ps_set (i := 2) sc.nd rfl (Or.inl rfl) (pe_fn C__law_word (hr.mono (by decide)) (pa_cons (pv 0) (pa_cons (pv 1) pa_nil))))
      (pss_cons (ps_if (pt_val (pe_fn C__law_is_sign (hr.mono (by decide)) (pa_cons (pv 2) pa_nil)))
      (pss_one (ps_ret (pv 2))) pss_nil)
      (pss_cons (ps_if (pt_val (pv 1))
      (pss_one (ps_ret pe_str)) pss_nil)
      (pss_one (ps_ret pe_str))))), ?_⟩
  obtain ⟨⟨row1, capital2, _⟩, r0, ⟨v_row1, _, rfl, w_row1, ⟨v_capital2, _, rfl, w_capital2, rfl⟩⟩, h, k⟩ := h
  have hD : RtOk (fz K rS) H r0 { nx := fun _ H' => Q .non H', rt := Q } := fun v H' ⟨as, s, n, z⟩ => k v H' s z.2.now
  refine Sv.run (K := K) (G := ([rc (rL rI) row1, fc rB capital2, none] : Cells K)) ?_ (.ro w_row1 (.fz w_capital2 (.skip .nil)))
  have h : m__law_sign row1 capital2 = .ok r0 := h
  unfold m__law_sign at h
  obtain ⟨t3, e_t3, h⟩ := mb_ok h
  refine q_set (r := rS) (b := t3) (b' := t3) ?_ rfl ?_
  · walk_at "ev"
  obtain ⟨t4, e_t4, h⟩ := mb_ok h
  refine q_if (c := t4) ?_ ?_ ?_
  · walk_at "ev"
  · intro hc; have h := bif_t h hc
    cases h
    refine r_ret hD ?_
    walk_at "ev"
  · intro hc; have h := bif_f h hc
    refine q_next ?_
    refine q_if (c := capital2) ?_ ?_ ?_
    · walk_at "ev"
    · intro hc; have h := bif_t h hc
      cases h
      refine r_ret hD ?_
      walk_at "ev"
    · intro hc; have h := bif_f h hc
      refine q_next ?_
      cases h
      refine r_ret hD ?_
      walk_at "ev"
/-! ### law -/
abbrev s_law : Stmt := topS 8
abbrev n_law : List Str := ["_law_script", "_law_table", "_law_lines", "_law_k", "_law_row", "_law_head", "_law_token", "_law_shown", "_law_side", "_law_d", "_law_kept", "_law_key", "_law_told", "_law_due", "_law_line"]
abbrev p_law : List Str := ["_law_script"]
theorem sc_law : FnScope n_law p_law (defScope s_law) := ⟨rfl, rfl, rfl, by decide +kernel, rfl, by decide +kernel, by decide +kernel⟩
abbrev sp_law (K : PySem.W.Frag) : Sp := spM (aC (rQ K rI) aN) rB fun a => m_law a.1
theorem c_law {P : Program} {w : World} {K : PySem.W.Frag} {mg : Str → Option Value} {base : Heap} {f : Addr} {fd : FuncData} (F : Fun K "law" "law" s_law f fd) (B_int : mg "int" = none) (B_range : mg "range" = none) (B_tuple : mg "tuple" = none) (B_list : mg "list" = none) (B_str : mg "str" = none) (B_sorted : mg "sorted" = none) (B_isinstance : mg "isinstance" = none) (C__law_cell : Cal P w K mg base CX0 "_law_cell" 1 p__law_cell (sp__law_cell K)) (C__law_draws : Cal P w K mg base CX0 "_law_draws" 1 p__law_draws (sp__law_draws K)) (C__law_sign : Cal P w K mg base CX0 "_law_sign" 2 p__law_sign (sp__law_sign K)) (C_format_table : Cal P w K mg base CX0 "format_table" 1 p_format_table (sp_format_table P w K)) : FnOk P w K mg base CX0 3 f fd p_law (sp_law K) := by
  refine F.ok sc_law (fun vs H Q E ⟨a, b, h, _⟩ => LenA.len h) fun cdv A outer s H vs Q E hr h => ?_
  have sc := sc_law
  refine ⟨_, (pss_cons (ps_set (i := 1) sc.nd rfl (Or.inl rfl) (pe_pnewK P w))
      (pss_cons (ps_set (i := 2) sc.nd rfl (Or.inl rfl) (pe_lst pa_nil))
      (pss_cons (ps_for PassesOwn.never rfl (pi_range1 (by rfl) B_range (pa_cons (pe_op op_mod (pe_callTy call_int1 (by rfl) B_int (by decide +kernel) (pa_cons (pe_fn C__law_cell (hr.mono (by decide)) (pa_cons (pv 0) (pa_cons pe_int pa_nil))) pa_nil)) pe_int) pa_nil)) (pg_name (i := 3) sc.nd rfl (Or.inl rfl))
      (pss_cons (ps_set (i := 4) sc.nd rfl (Or.inr rfl) (pe_fn C__law_draws (hr.mono (by decide)) (pa_cons (pe_fn C__law_cell (hr.mono (by decide)) (pa_cons (pv 0) (pa_cons (pe_op op_add pe_int (pv 3)) pa_nil))) (pa_cons pe_int pa_nil))))
      (pss_cons (ps_set (i := 5) sc.nd rfl (Or.inl rfl) (pe_fn C__law_sign (hr.mono (by decide)) (pa_cons (pe_slice (k_slL K) (pv 4) po_none (po_some pe_int)) (pa_cons pe_bl pa_nil))))
      (pss_cons (ps_set (i := 6) sc.nd rfl (Or.inl rfl) pe_non)
      (pss_cons (ps_set (i := 7) sc.nd rfl (Or.inl rfl) pe_str)
      (pss_cons (ps_if (pt_cmpR op_gt (pe_op op_mod (pe_callTy call_int1 (by rfl) B_int (by decide +kernel) (pa_cons (pe_ix (k_ix K) (pv 4) pe_int (fun _ _ => rfl)) pa_nil)) pe_int) pe_int (nomark _))
      (pss_cons (ps_set (i := 6) sc.nd rfl (Or.inl rfl) (pe_fn C__law_sign (hr.mono (by decide)) (pa_cons (pe_slice (k_slL K) (pv 4) (po_some pe_int) (po_some pe_int)) (pa_cons pe_bl pa_nil))))
      (pss_one (ps_set (i := 7) sc.nd rfl (Or.inl rfl) (pv 6)))) pss_nil)
      (pss_cons (ps_set (i := 8) sc.nd rfl (Or.inl rfl) (pe_callTy (k_tuple K) (by rfl) B_tuple (by decide +kernel) (pa_cons (pe_lc (own := [("_law_d", 9)]) (g := gName 9) (tt := tYes) (by rfl) sc.nd (pi_range2 (by rfl) B_range (pa_cons pe_int (pa_cons (pe_op op_add pe_int (pe_op op_mod (pe_callTy call_int1 (by rfl) B_int (by decide +kernel) (pa_cons (pe_ix (k_ix K) (pv 4) pe_int (fun _ _ => rfl)) pa_nil)) pe_int)) pa_nil))) (blkOk_by (own := [("_law_d", 9)]) (N := n_law) (sc := defScope s_law) (by decide +kernel)) (fun _ _ _ _ _ => (pg_name (i := 9) sc.nd rfl (Or.inl rfl))) (fun _ _ _ _ _ => pts_nil) (fun _ _ _ _ _ => (pe_fn C__law_sign (hr.mono (by decide)) (pa_cons (pe_slice (k_slL K) (pv 4) (po_some (pv 9)) (po_some (pe_op op_add (pv 9) pe_int))) (pa_cons (pe_cmpR op_eq (pe_op op_mod (pe_callTy call_int1 (by rfl) B_int (by decide +kernel) (pa_cons (pe_ix (k_ix K) (pv 4) (pv 9) (fun _ _ => rfl)) pa_nil)) pe_int) pe_int (nomark _)) pa_nil))))) pa_nil)))
      (pss_one (ps_if (pt_cmp (pc_pnotinK P w K (Nat.lt_of_le_of_lt (Nat.add_le_add_left (by decide) _) hr.un) (pe_tup (pa_cons (pv 5) (pa_cons (pv 6) pa_nil))) (pv 1)) rfl)
      (pss_cons (ps_pputK P w K (Nat.lt_of_le_of_lt (Nat.add_le_add_left (by decide) _) hr.un) (pv 1) (pe_tup (pa_cons (pv 5) (pa_cons (pv 6) pa_nil))) (pv 8) rfl)
      (pss_one (ps_expr (pe_app K (pv 2) (pa_cons (pe_op op_add_str (pe_op op_add_str (pe_op op_add_str (pe_op op_add_str (pe_ljust (pv 5) pe_int) pe_str) (pe_ljust (pv 7) pe_int)) pe_str) (pe_joinK K pe_str (pe_callTy (k_list K) (by rfl) B_list (by decide +kernel) (pa_cons (pv 8) pa_nil)))) pa_nil))))) pss_nil)))))))))
      (pss_cons (ps_set (i := 10) sc.nd rfl (Or.inl rfl) (pe_pnewK P w))
      (pss_cons (ps_for PassesOwn.never rfl (pi_pkeysK P w K (pv 1)) (pg_name (i := 11) sc.nd rfl (Or.inl rfl))
      (pss_one (ps_pputK P w K (Nat.lt_of_le_of_lt (Nat.add_le_add_left (by decide) _) hr.un) (pv 10) (pv 11) (pe_pgetK P w K (Nat.lt_of_le_of_lt (Nat.add_le_add_left (by decide) _) hr.un) (pv 1) (pv 11) (fun _ _ => rfl)) rfl)))
      (pss_cons (ps_set (i := 12) sc.nd rfl (Or.inl rfl) (pe_fn C_format_table (hr.mono (by decide)) (pa_cons (pv 1) pa_nil)))
      (pss_cons (ps_set (i := 13) sc.nd rfl (Or.inl rfl) (pe_joinK K pe_str (pe_callB (k_sortedS K) (by rfl) B_sorted (by decide +kernel) (pa_cons (pe_lc (own := [("_law_line", 14)]) (g := gName 14) (tt := tYes) (by rfl) sc.nd (pi_listK K (pv 2)) (blkOk_by (own := [("_law_line", 14)]) (N := n_law) (sc := defScope s_law) (by decide +kernel)) (fun _ _ _ _ _ => (pg_name (i := 14) sc.nd rfl (Or.inl rfl))) (fun _ _ _ _ _ => pts_nil) (fun _ _ _ _ _ => (pe_callTy call_strS (by rfl) B_str (by decide +kernel) (pa_cons (pv 14) pa_nil)))) pa_nil))))
      (pss_one (ps_ret (pe_and (pe_callB (k_isi K) (by rfl) B_isinstance (by decide +kernel) (pa_cons (pv 12) (pa_cons (pe_bltn (v := .ty "str") (u := .type "str") (by rfl) B_str (by decide +kernel) rfl) pa_nil))) (pe_and (pe_cmpR op_eq (pv 12) (pv 13) (nomark _)) (pe_one (pe_cmpR (k_peq P w K (Nat.lt_of_le_of_lt (Nat.add_le_add_left (by decide) _) hr.un)) (pv 1) (pv 10) (nomark _)))))))))))))), ?_⟩
  obtain ⟨⟨script1, _⟩, r0, ⟨v_script1, _, rfl, w_script1, rfl⟩, h, k⟩ := h
  have hD : RtOk (fz K rB) H r0 { nx := fun _ H' => Q .non H', rt := Q } := fun v H' ⟨as, s, n, z⟩ => k v H' s z.2.now
  refine Sv.run (K := K) (G := ([rc (rQ K rI) script1, none, none, none, none, none, none, none, none, none, none, none, none, none, none] : Cells K)) ?_ (.ro w_script1 (.skip (.skip (.skip (.skip (.skip (.skip (.skip (.skip (.skip (.skip (.skip (.skip (.skip (.skip .nil)))))))))))))))
  have h : m_law script1 = .ok r0 := h
  unfold m_law at h
  obtain ⟨table2, e_table2, h⟩ := mb_ok h; have e_table2 := ok_inj e_table2
  refine q_asg (R := (npd P w K (rT K rS))) (b := ([] : (List (KP × (List Str))))) (b' := table2) ?_ e_table2 ?_
  · walk_at "ev"
  obtain ⟨lines3, e_lines3, h⟩ := mb_ok h; have e_lines3 := ok_inj e_lines3
  refine q_asg (R := (nl K rS)) (b := ([] : (List Str))) (b' := lines3) ?_ e_lines3 ?_
  · walk_at "ev"
  obtain ⟨t4, e_t4, h⟩ := mb_ok h
  obtain ⟨_, e_u5, h⟩ := mb_ok h; have e_u5 := of_decide_eq_true (chk_ok e_u5)
  obtain ⟨s8, hm, h⟩ := mb_ok h
  refine q_forM (G' := ([rc (rQ K rI) script1, some (.ow (npd P w K (rT K rS)) table2), some (.ow (nl K rS) lines3), none, none, none, none, none, none, none, none, none, none, none, none] : Cells K)) (r := rI) (f := (fun (s6 : ((List (KP × (List Str))) × (List Str))) (x7 : Int) => mb (m__law_cell script1 ((1 : Int) + x7)) fun t9 => mb (m__law_draws t9 (60 : Int)) fun t10 => mb (m__law_sign (cut t10 none (some (18 : Int))) true) fun t11 => mb (.ok (none : (Option Str))) fun token12 => mb (.ok (some ("*" : Str))) fun shown13 => mb (oM (atI t10 (18 : Int))) fun t14 => mb (bif (decide ((0 : Int) < (t14 % (4 : Int)))) then mb (m__law_sign (cut t10 (some (19 : Int)) (some (37 : Int))) false) fun t16 => mb (.ok (some t16)) fun token17 => mb (.ok token17) fun shown18 => .ok (token17, shown18) else .ok (token12, shown13)) fun (s15 : ((Option Str) × (Option Str))) => mb (oM (atI t10 (37 : Int))) fun t19 => mb (chk (decide (-100000 ≤ (38 : Int) ∧ (38 : Int) ≤ 100000 ∧ -100000 ≤ ((38 : Int) + (t19 % (5 : Int))) ∧ ((38 : Int) + (t19 % (5 : Int))) ≤ 100000))) fun _ => mb (chk (decide ((upsFrom (38 : Int) (((38 : Int) + (t19 % (5 : Int))) - (38 : Int)).toNat).length ≤ 100000))) fun _ => mb (mlc (fun (y21 : Int) => .ok true) (fun (y21 : Int) => mb (oM (atI t10 y21)) fun t22 => mb (m__law_sign (cut t10 (some y21) (some (y21 + (18 : Int)))) (decide ((t22 % (2 : Int)) = (1 : Int)))) fun t23 => .ok t23) (upsFrom (38 : Int) (((38 : Int) + (t19 % (5 : Int))) - (38 : Int)).toNat)) fun zs25 => mb (chk (decide (s6.1.length ≤ 100000))) fun _ => bif (!((pkey s6.1 (t11, s15.1)).isSome)) then mb (chk (decide (s6.1.length < 100000))) fun _ => mb (.ok (pput s6.1 (t11, s15.1) zs25)) fun table28 => mb (chk (decide (PadOk (17 : Int) = true))) fun _ => mb (chk (decide (okS (Txt.ljust t11 (17 : Int))))) fun _ => mb (chk (decide ((Txt.ljust t11 (17 : Int)).length + (" " : Str).length ≤ 100000))) fun _ => mb (oM s15.2) fun z32 => mb (chk (decide (okS (Txt.ljust z32 (17 : Int))))) fun _ => mb (chk (decide (((Txt.ljust t11 (17 : Int)) ++ (" " : Str)).length + (Txt.ljust z32 (17 : Int)).length ≤ 100000))) fun _ => mb (chk (decide ((((Txt.ljust t11 (17 : Int)) ++ (" " : Str)) ++ (Txt.ljust z32 (17 : Int))).length + (" -> " : Str).length ≤ 100000))) fun _ => mb (chk (decide ((zs25.map (·.length)).sum + zs25.length * (" " : Str).length ≤ 16777216))) fun _ => mb (chk (decide (okS (Txt.join (" " : Str) zs25)))) fun _ => mb (chk (decide (((((Txt.ljust t11 (17 : Int)) ++ (" " : Str)) ++ (Txt.ljust z32 (17 : Int))) ++ (" -> " : Str)).length + (Txt.join (" " : Str) zs25).length ≤ 100000))) fun _ => mb (chk (decide (s6.2.length < 100000))) fun _ => mb (.ok (s6.2 ++ [((((Txt.ljust t11 (17 : Int)) ++ (" " : Str)) ++ (Txt.ljust z32 (17 : Int))) ++ (" -> " : Str)) ++ (Txt.join (" " : Str) zs25)])) fun lines40 => .ok (table28, lines40) else .ok (s6.1, s6.2))) (s0 := (table2, lines3)) (fun (s6 : ((List (KP × (List Str))) × (List Str))) => ([rc (rQ K rI) script1, some (.ow (npd P w K (rT K rS)) s6.1), some (.ow (nl K rS) s6.2), none, none, none, none, none, none, none, none, none, none, none, none] : Cells K)) hm ?_ (.keep (.keep (.keep (.keep (.keep (.keep (.keep (.keep (.keep (.keep (.keep (.keep (.keep (.keep (.keep .nil))))))))))))))) (fun H0' e0 x7 s6 s' h => ⟨_, tg_name, ?_⟩) ?_
  · refine wk_rng1 ?_ ?_
    · walk_at "ev"
    · first | assumption | omega
  · have hD : Nx H0' ((fun (s6 : ((List (KP × (List Str))) × (List Str))) => ([rc (rQ K rI) script1, some (.ow (npd P w K (rT K rS)) s6.1), some (.ow (nl K rS) s6.2), none, none, none, none, none, none, none, none, none, none, none, none] : Cells K)) s') (Have H0' ((fun (s6 : ((List (KP × (List Str))) × (List Str))) => ([rc (rQ K rI) script1, some (.ow (npd P w K (rT K rS)) s6.1), some (.ow (nl K rS) s6.2), none, none, none, none, none, none, none, none, none, none, none, none] : Cells K)) s')) := fun _ _ z => z
    obtain ⟨t9, e_t9, h⟩ := mb_ok h
    obtain ⟨t10, e_t10, h⟩ := mb_ok h
    refine q_asg (R := (nl K rI)) (b := t10) (b' := t10) ?_ rfl ?_
    · walk_at "ev"
    obtain ⟨t11, e_t11, h⟩ := mb_ok h
    refine q_set (r := rS) (b := t11) (b' := t11) ?_ rfl ?_
    · walk_at "ev"
    obtain ⟨token12, e_token12, h⟩ := mb_ok h; have e_token12 := ok_inj e_token12
    refine q_set (r := (rO rS)) (b := (none : (Option Str))) (b' := token12) ?_ e_token12 ?_
    · walk_at "ev"
    obtain ⟨shown13, e_shown13, h⟩ := mb_ok h; have e_shown13 := ok_inj e_shown13
    refine q_set (r := (rO rS)) (b := some ("*" : Str)) (b' := shown13) ?_ e_shown13 ?_
    · refine Ev.some ?_
      walk_at "ev"
    obtain ⟨t14, e_t14, h⟩ := mb_ok h; have e_t14 := oM_ok e_t14
    obtain ⟨s15, h1, h⟩ := mb_ok h
    refine cutK ([rc (rQ K rI) script1, some (.ow (npd P w K (rT K rS)) s6.1), some (.ow (nl K rS) s6.2), fc rI x7, some (.ow (nl K rI) t10), fc rS t11, fc (rO rS) s15.1, fc (rO rS) s15.2, none, none, none, none, none, none, none] : Cells K) (fun K1 => ?_) ?_
    · have h := h1; clear h1; have hD := K1
      refine q_if (c := (decide ((0 : Int) < (t14 % (4 : Int))))) ?_ ?_ ?_
      · walk_at "ev"
      · intro hc; have h := bif_t h hc
        obtain ⟨t16, e_t16, h⟩ := mb_ok h
        obtain ⟨token17, e_token17, h⟩ := mb_ok h; have e_token17 := ok_inj e_token17
        refine q_set (r := (rO rS)) (b := some t16) (b' := token17) ?_ e_token17 ?_
        · refine Ev.some ?_
          walk_at "ev"
        obtain ⟨shown18, e_shown18, h⟩ := mb_ok h; have e_shown18 := ok_inj e_shown18
        refine l_set (r := (rO rS)) (b := token17) (b' := shown18) ?_ e_shown18 ?_
        · walk_at "ev"
        cases h
        exact fun σ H hv => hD σ H (hv.less (.keep (.keep (.keep (.keep (.keep (.keep (.keep (.keep (.keep (.keep (.keep (.keep (.keep (.keep (.keep .nil))))))))))))))))
      · intro hc; have h := bif_f h hc
        cases h
        exact fun σ H hv => hD σ H (hv.less (.keep (.keep (.keep (.keep (.keep (.keep (.keep (.keep (.keep (.keep (.keep (.keep (.keep (.keep (.keep .nil))))))))))))))))
    obtain ⟨t19, e_t19, h⟩ := mb_ok h; have e_t19 := oM_ok e_t19
    obtain ⟨_, e_u20, h⟩ := mb_ok h; have e_u20 := of_decide_eq_true (chk_ok e_u20)
    obtain ⟨_, e_u24, h⟩ := mb_ok h; have e_u24 := of_decide_eq_true (chk_ok e_u24)
    obtain ⟨zs25, e_zs25, h⟩ := mb_ok h
    refine q_set (r := (rT K rS)) (b := zs25) (b' := zs25) ?_ rfl ?_
    · refine a_tupC (R := rL _) ?_ inferInstance inferInstance inferInstance
      refine Nw.lst ?_
      refine nw_lcM (G' := ([rc (rQ K rI) script1, some (.ow (npd P w K (rT K rS)) s6.1), some (.ow (nl K rS) s6.2), fc rI x7, some (.ow (nl K rI) t10), fc rS t11, fc (rO rS) s15.1, fc (rO rS) s15.2, none, none, none, none, none, none, none] : Cells K)) (r := rI) (p := (fun (y21 : Int) => .ok true)) (f := (fun (y21 : Int) => mb (oM (atI t10 y21)) fun t22 => mb (m__law_sign (cut t10 (some y21) (some (y21 + (18 : Int)))) (decide ((t22 % (2 : Int)) = (1 : Int)))) fun t23 => .ok t23)) ?_ (by first | assumption | (rw [ups_len]; omega) | (rw [List.length_map, List.length_range]; omega) | (simp only [List.length_cons, List.length_nil]; omega)) (fun y21 => ⟨_, tb_name, fun _ e => ?_, fun _ e => ?_⟩) e_zs25
      · refine wk_rng2 ?_ ?_ ?_
        · walk_at "ev"
        · walk_at "ev"
        · first | assumption | omega
      · cases e
        exact et_yes
      · obtain ⟨t22, e_t22, e⟩ := mb_ok e; have e_t22 := oM_ok e_t22
        obtain ⟨t23, e_t23, e⟩ := mb_ok e
        cases e
        walk_at "ev"
    obtain ⟨_, e_u26, h⟩ := mb_ok h; have e_u26 := of_decide_eq_true (chk_ok e_u26)
    refine l_if (c := (!((pkey s6.1 (t11, s15.1)).isSome))) ?_ ?_ ?_
    · walk_at "ev"
    · intro hc; have h := bif_t h hc
      obtain ⟨_, e_u27, h⟩ := mb_ok h; have e_u27 := of_decide_eq_true (chk_ok e_u27)
      obtain ⟨table28, e_table28, h⟩ := mb_ok h; have e_table28 := ok_inj e_table28
      refine q_pput (xs := s6.1) (x := zs25) (k := (t11, s15.1)) (by rfl) ?_ ?_ rfl (by assumption) ?_
      · walk_at "ev"
      · walk_at "ev"
      rw [e_table28]
      obtain ⟨_, e_u29, h⟩ := mb_ok h; have e_u29 := of_decide_eq_true (chk_ok e_u29)
      obtain ⟨_, e_u30, h⟩ := mb_ok h; have e_u30 := of_decide_eq_true (chk_ok e_u30)
      obtain ⟨_, e_u31, h⟩ := mb_ok h; have e_u31 := of_decide_eq_true (chk_ok e_u31)
      obtain ⟨z32, e_z32, h⟩ := mb_ok h; have e_z32 := oM_ok e_z32
      obtain ⟨_, e_u33, h⟩ := mb_ok h; have e_u33 := of_decide_eq_true (chk_ok e_u33)
      obtain ⟨_, e_u34, h⟩ := mb_ok h; have e_u34 := of_decide_eq_true (chk_ok e_u34)
      obtain ⟨_, e_u35, h⟩ := mb_ok h; have e_u35 := of_decide_eq_true (chk_ok e_u35)
      obtain ⟨_, e_u36, h⟩ := mb_ok h; have e_u36 := of_decide_eq_true (chk_ok e_u36)
      obtain ⟨_, e_u37, h⟩ := mb_ok h; have e_u37 := of_decide_eq_true (chk_ok e_u37)
      obtain ⟨_, e_u38, h⟩ := mb_ok h; have e_u38 := of_decide_eq_true (chk_ok e_u38)
      obtain ⟨_, e_u39, h⟩ := mb_ok h; have e_u39 := of_decide_eq_true (chk_ok e_u39)
      obtain ⟨lines40, e_lines40, h⟩ := mb_ok h; have e_lines40 := ok_inj e_lines40
      refine l_app (x := ((((Txt.ljust t11 (17 : Int)) ++ (" " : Str)) ++ (Txt.ljust z32 (17 : Int))) ++ (" -> " : Str)) ++ (Txt.join (" " : Str) zs25)) (xs := s6.2) (by rfl) (x' := ((((Txt.ljust t11 (17 : Int)) ++ (" " : Str)) ++ (Txt.ljust z32 (17 : Int))) ++ (" -> " : Str)) ++ (Txt.join (" " : Str) zs25)) ?_ rfl (by assumption) ?_
      · walk_at "ev"
      rw [e_lines40]
      cases h
      exact fun σ H hv => hD σ H (hv.less (.keep (.keep (.keep (.drop (.drop (.drop (.drop (.drop (.drop (.keep (.keep (.keep (.keep (.keep (.keep .nil))))))))))))))))
    · intro hc; have h := bif_f h hc
      cases h
      exact fun σ H hv => hD σ H (hv.less (.keep (.keep (.keep (.drop (.drop (.drop (.drop (.drop (.drop (.keep (.keep (.keep (.keep (.keep (.keep .nil))))))))))))))))
  obtain ⟨kept41, e_kept41, h⟩ := mb_ok h; have e_kept41 := ok_inj e_kept41
  refine q_asg (R := (npd P w K (rT K rS))) (b := ([] : (List (KP × (List Str))))) (b' := kept41) ?_ e_kept41 ?_
  · walk_at "ev"
  obtain ⟨_, e_u42, h⟩ := mb_ok h; have e_u42 := of_decide_eq_true (chk_ok e_u42)
  obtain ⟨s45, hm, h⟩ := mb_ok h
  refine q_forM (G' := ([rc (rQ K rI) script1, rc (rPD P w K (rT K rS)) s8.1, some (.ow (nl K rS) s8.2), none, none, none, none, none, none, none, some (.ow (npd P w K (rT K rS)) kept41), none, none, none, none] : Cells K)) (r := (rP K rS (rO rS))) (f := (fun (s43 : (List (KP × (List Str)))) (x44 : (Str × (Option Str))) => mb (oM (pkey s8.1 x44)) fun t46 => mb (chk (decide (s43.length < 100000))) fun _ => mb (.ok (pput s43 x44 t46)) fun kept48 => .ok kept48)) (s0 := kept41) (fun (s43 : (List (KP × (List Str)))) => ([rc (rQ K rI) script1, rc (rPD P w K (rT K rS)) s8.1, some (.ow (nl K rS) s8.2), none, none, none, none, none, none, none, some (.ow (npd P w K (rT K rS)) s43), none, none, none, none] : Cells K)) hm ?_ (.keep (.keep (.keep (.keep (.keep (.keep (.keep (.keep (.keep (.keep (.keep (.keep (.keep (.keep (.keep .nil))))))))))))))) (fun H0' e0 x44 s43 s' h => ⟨_, tg_name, ?_⟩) ?_
  · exact wk_pown (i := 1) (by rfl) (by assumption)
  · have hD : Nx H0' ((fun (s43 : (List (KP × (List Str)))) => ([rc (rQ K rI) script1, rc (rPD P w K (rT K rS)) s8.1, some (.ow (nl K rS) s8.2), none, none, none, none, none, none, none, some (.ow (npd P w K (rT K rS)) s43), none, none, none, none] : Cells K)) s') (Have H0' ((fun (s43 : (List (KP × (List Str)))) => ([rc (rQ K rI) script1, rc (rPD P w K (rT K rS)) s8.1, some (.ow (nl K rS) s8.2), none, none, none, none, none, none, none, some (.ow (npd P w K (rT K rS)) s43), none, none, none, none] : Cells K)) s')) := fun _ _ z => z
    obtain ⟨t46, e_t46, h⟩ := mb_ok h; have e_t46 := oM_ok e_t46
    obtain ⟨_, e_u47, h⟩ := mb_ok h; have e_u47 := of_decide_eq_true (chk_ok e_u47)
    obtain ⟨kept48, e_kept48, h⟩ := mb_ok h; have e_kept48 := ok_inj e_kept48
    refine l_pput (xs := s43) (x := t46) (k := x44) (by rfl) ?_ ?_ rfl (by assumption) ?_
    · walk_at "ev"
    · walk_at "ev"
    rw [e_kept48]
    cases h
    exact fun σ H hv => hD σ H (hv.less (.keep (.keep (.keep (.keep (.keep (.keep (.keep (.keep (.keep (.keep (.keep (.drop (.keep (.keep (.keep .nil))))))))))))))))
  obtain ⟨t49, e_t49, h⟩ := mb_ok h
  refine q_set (r := rS) (b := t49) (b' := t49) ?_ rfl ?_
  · walk_at "ev"
  obtain ⟨_, e_u51, h⟩ := mb_ok h; have e_u51 := of_decide_eq_true (chk_ok e_u51)
  obtain ⟨_, e_u52, h⟩ := mb_ok h; have e_u52 := of_decide_eq_true (chk_ok e_u52)
  obtain ⟨_, e_u53, h⟩ := mb_ok h; have e_u53 := of_decide_eq_true (chk_ok e_u53)
  obtain ⟨_, e_u54, h⟩ := mb_ok h; have e_u54 := of_decide_eq_true (chk_ok e_u54)
  obtain ⟨due55, e_due55, h⟩ := mb_ok h; have e_due55 := ok_inj e_due55
  refine q_set (r := rS) (b := Txt.join ("\n" : Str) (srtL (s8.2.map (fun (y50 : Str) => y50)))) (b' := due55) ?_ e_due55 ?_
  · refine ev_join ?_ ?_ (by assumption) (by assumption)
    · walk_at "ev"
    · refine Nw.lst ?_
      refine a_srtL ?_ (by first | assumption | omega)
      refine Nw.lst ?_
      refine nw_lc1 (G' := ([rc (rQ K rI) script1, rc (rPD P w K (rT K rS)) s8.1, rc (rL rS) s8.2, none, none, none, none, none, none, none, some (.ow (npd P w K (rT K rS)) s45), none, fc rS t49, none, none] : Cells K)) (r := rS) ?_ (by first | assumption | (rw [ups_len]; omega) | (rw [List.length_map, List.length_range]; omega) | (simp only [List.length_cons, List.length_nil]; omega)) (fun _ y50 _ _ => ⟨_, tb_name, ?_⟩)
      · exact wk_own (i := 2) (by rfl)
      · walk_at "ev"
  obtain ⟨c58, e_c58, h⟩ := mb_ok h
  cases h
  refine r_ret hD ?_
  refine ev_andM ?_ (fun _ e => ?_) e_c58
  · walk_at "ev"
  obtain ⟨c57, e_c57, e⟩ := mb_ok e
  cases e
  refine ev_andM ?_ (fun _ e => ?_) e_c57
  · walk_at "ev"
  obtain ⟨_, e_u56, e⟩ := mb_ok e; have e_u56 := of_decide_eq_true (chk_ok e_u56)
  cases e
  walk_at "ev"
/-! ### the end -/
theorem all_mk {l : PySem.W.OpenLaw} {w : World} {K : PySem.W.Frag} {h : Heap} {mg : Str → Option Value} {fa : Addr} {f0 : Addr} {od0 an0 : Option Addr} {sl0 : Array (Option Value)} {oc0 kV0 dc0 pm0 cd0 ct0 : Value} {f1 : Addr} {od1 an1 : Option Addr} {sl1 : Array (Option Value)} {oc1 kV1 dc1 pm1 cd1 ct1 : Value} {f2 : Addr} {od2 an2 : Option Addr} {sl2 : Array (Option Value)} {oc2 kV2 dc2 pm2 cd2 ct2 : Value} {f3 : Addr} {od3 an3 : Option Addr} {sl3 : Array (Option Value)} {oc3 kV3 dc3 pm3 cd3 ct3 : Value} {f4 : Addr} {od4 an4 : Option Addr} {sl4 : Array (Option Value)} {oc4 kV4 dc4 pm4 cd4 ct4 : Value} {f5 : Addr} {od5 an5 : Option Addr} {sl5 : Array (Option Value)} {oc5 kV5 dc5 pm5 cd5 ct5 : Value} {f6 : Addr} {od6 an6 : Option Addr} {sl6 : Array (Option Value)} {oc6 kV6 dc6 pm6 cd6 ct6 : Value} (X : K.In h) (G : h.Ns mainGlobals mg) (hfa : mg "law" = some (.ref fa))
    (a0 : PySem.W.nsIn K mainGlobals "format_table" = some (some (.ref f0)))
    (l0 : K.lookup f0 = some ⟨oc0, od0, .func (PySem.W.fnOf "format_table" "format_table" (defArgs s_format_table) (defBody s_format_table) (defScope s_format_table) .none kV0 dc0 pm0 an0 cd0 ct0), sl0⟩)
    (c0 : PySem.W.codeIn K cd0 "format_table" = true)
    (k0 : PySem.W.keepIn K (.ref f0) = true)
    (a1 : PySem.W.nsIn K mainGlobals "_law_cell" = some (some (.ref f1)))
    (l1 : K.lookup f1 = some ⟨oc1, od1, .func (PySem.W.fnOf "_law_cell" "_law_cell" (defArgs s__law_cell) (defBody s__law_cell) (defScope s__law_cell) .none kV1 dc1 pm1 an1 cd1 ct1), sl1⟩)
    (c1 : PySem.W.codeIn K cd1 "_law_cell" = true)
    (k1 : PySem.W.keepIn K (.ref f1) = true)
    (a2 : PySem.W.nsIn K mainGlobals "_law_draws" = some (some (.ref f2)))
    (l2 : K.lookup f2 = some ⟨oc2, od2, .func (PySem.W.fnOf "_law_draws" "_law_draws" (defArgs s__law_draws) (defBody s__law_draws) (defScope s__law_draws) .none kV2 dc2 pm2 an2 cd2 ct2), sl2⟩)
    (c2 : PySem.W.codeIn K cd2 "_law_draws" = true)
    (k2 : PySem.W.keepIn K (.ref f2) = true)
    (a3 : PySem.W.nsIn K mainGlobals "_law_word" = some (some (.ref f3)))
    (l3 : K.lookup f3 = some ⟨oc3, od3, .func (PySem.W.fnOf "_law_word" "_law_word" (defArgs s__law_word) (defBody s__law_word) (defScope s__law_word) .none kV3 dc3 pm3 an3 cd3 ct3), sl3⟩)
    (c3 : PySem.W.codeIn K cd3 "_law_word" = true)
    (k3 : PySem.W.keepIn K (.ref f3) = true)
    (a4 : PySem.W.nsIn K mainGlobals "_law_is_sign" = some (some (.ref f4)))
    (l4 : K.lookup f4 = some ⟨oc4, od4, .func (PySem.W.fnOf "_law_is_sign" "_law_is_sign" (defArgs s__law_is_sign) (defBody s__law_is_sign) (defScope s__law_is_sign) .none kV4 dc4 pm4 an4 cd4 ct4), sl4⟩)
    (c4 : PySem.W.codeIn K cd4 "_law_is_sign" = true)
    (k4 : PySem.W.keepIn K (.ref f4) = true)
    (a5 : PySem.W.nsIn K mainGlobals "_law_sign" = some (some (.ref f5)))
    (l5 : K.lookup f5 = some ⟨oc5, od5, .func (PySem.W.fnOf "_law_sign" "_law_sign" (defArgs s__law_sign) (defBody s__law_sign) (defScope s__law_sign) .none kV5 dc5 pm5 an5 cd5 ct5), sl5⟩)
    (c5 : PySem.W.codeIn K cd5 "_law_sign" = true)
    (k5 : PySem.W.keepIn K (.ref f5) = true)
    (a6 : PySem.W.nsIn K mainGlobals "law" = some (some (.ref f6)))
    (l6 : K.lookup f6 = some ⟨oc6, od6, .func (PySem.W.fnOf "law" "law" (defArgs s_law) (defBody s_law) (defScope s_law) .none kV6 dc6 pm6 an6 cd6 ct6), sl6⟩)
    (c6 : PySem.W.codeIn K cd6 "law" = true)
    (k6 : PySem.W.keepIn K (.ref f6) = true)
    (z0 : PySem.W.nsIn K mainGlobals "str" = some none)
    (z1 : PySem.W.nsIn K mainGlobals "sorted" = some none)
    (z2 : PySem.W.nsIn K mainGlobals "len" = some none)
    (z3 : PySem.W.nsIn K mainGlobals "int" = some none)
    (z4 : PySem.W.nsIn K mainGlobals "range" = some none)
    (z5 : PySem.W.nsIn K mainGlobals "tuple" = some none)
    (z6 : PySem.W.nsIn K mainGlobals "list" = some none)
    (z7 : PySem.W.nsIn K mainGlobals "isinstance" = some none)
    : ∃ fd : FuncData, (∀ (s : Shared) (v : Value), BindsTo s fd ⟨[v], []⟩ [("_law_script", v)]) ∧ ∀ base : Heap, K.In base → base.Ns mainGlobals mg → FnOk l.prog w K mg base CX0 3 fa fd ["_law_script"] (sp_law K) := by
  have e := hfa.symm.trans (PySem.W.mg_of X G a6)
  cases e
  refine ⟨PySem.W.fnOf "law" "law" (defArgs s_law) (defBody s_law) (defScope s_law) .none kV6 dc6 pm6 an6 cd6 ct6, fun s v => .of_eq rfl, fun base _ _ => ?_⟩
  have B_str := PySem.W.mg_none_of X G z0
  have B_sorted := PySem.W.mg_none_of X G z1
  have B_len := PySem.W.mg_none_of X G z2
  have B_int := PySem.W.mg_none_of X G z3
  have B_range := PySem.W.mg_none_of X G z4
  have B_tuple := PySem.W.mg_none_of X G z5
  have B_list := PySem.W.mg_none_of X G z6
  have B_isinstance := PySem.W.mg_none_of X G z7
  have D_format_table : Df K mg "format_table" s_format_table := ⟨f0, _, fun_mk (st := s_format_table) l0 c0 k0, PySem.W.mg_of X G a0⟩
  have D__law_cell : Df K mg "_law_cell" s__law_cell := ⟨f1, _, fun_mk (st := s__law_cell) l1 c1 k1, PySem.W.mg_of X G a1⟩
  have D__law_draws : Df K mg "_law_draws" s__law_draws := ⟨f2, _, fun_mk (st := s__law_draws) l2 c2 k2, PySem.W.mg_of X G a2⟩
  have D__law_word : Df K mg "_law_word" s__law_word := ⟨f3, _, fun_mk (st := s__law_word) l3 c3 k3, PySem.W.mg_of X G a3⟩
  have D__law_is_sign : Df K mg "_law_is_sign" s__law_is_sign := ⟨f4, _, fun_mk (st := s__law_is_sign) l4 c4 k4, PySem.W.mg_of X G a4⟩
  have D__law_sign : Df K mg "_law_sign" s__law_sign := ⟨f5, _, fun_mk (st := s__law_sign) l5 c5 k5, PySem.W.mg_of X G a5⟩
  have C__law_cell : Cal l.prog w K mg base CX0 "_law_cell" 1 p__law_cell (sp__law_cell K) := c__law_cell D__law_cell B_len B_int
  have C__law_draws : Cal l.prog w K mg base CX0 "_law_draws" 1 p__law_draws (sp__law_draws K) := c__law_draws D__law_draws B_int B_range
  have C__law_word : Cal l.prog w K mg base CX0 "_law_word" 1 p__law_word (sp__law_word K) := c__law_word D__law_word B_int B_len
  have C__law_is_sign : Cal l.prog w K mg base CX0 "_law_is_sign" 1 p__law_is_sign (sp__law_is_sign K) := c__law_is_sign D__law_is_sign B_len
  have C__law_sign : Cal l.prog w K mg base CX0 "_law_sign" 2 p__law_sign (sp__law_sign K) := c__law_sign D__law_sign C__law_word C__law_is_sign
  have C_format_table : Cal l.prog w K mg base CX0 "format_table" 1 p_format_table (sp_format_table l.prog w K) := c_format_table D_format_table B_str B_sorted
  exact c_law (fun_mk (st := s_law) l6 c6 k6) B_int B_range B_tuple B_list B_str B_sorted B_isinstance C__law_cell C__law_draws C__law_sign C_format_table
theorem walk {l : PySem.W.OpenLaw} {q : Program} {loose : List Str} {XP : (Str → Option Value) → Heap → Prop} {YP : World → Heap → Prop} {d : DefRec} {K : Params → PySem.W.Frag} (hn : l.most = some 63) (hdf : d.params.defaults = [])
    (hY : ∀ (w : World) (h : Heap), YP w h → (K w.params).In h)
    (F : ∀ (w : World) (mg : Str → Option Value) (fa : Addr) (h : Heap), (K w.params).In h → h.Ns mainGlobals mg → mg d.name = some (.ref fa) →
      ∃ fd : FuncData, (∀ (s : Shared) (u : Value), BindsTo s fd ⟨[u], []⟩ [("_law_script", u)]) ∧ ∀ base : Heap, (K w.params).In base → base.Ns mainGlobals mg → FnOk l.prog w (K w.params) mg base CX0 3 fa fd ["_law_script"] (sp_law (K w.params))) :
    PySem.W.WalkO q loose XP YP l.row.toRowW d [] (fun f vs => PySem.call f vs) :=
  L2.walk_of (n := 63) (k := 3) (x := "_law_script") (CX := fun _ => CX0) (sp := fun w => sp_law (K w.params)) hn (by decide) hdf ⟨rfl, by decide, by decide⟩ hY F
    (fun _ H a ns hl _ hS => ⟨(ns, ()), true, ⟨_, _, rfl, ⟨a, _, rfl, hS, A2.of_map _⟩, rfl⟩, law_ok ns, fun v H' _ z => z⟩) fun _ _ _ _ _ z => z
end Gt

open PySem PySem.W PyProof.Rows in
set_option maxRecDepth 100000 in
set_option maxHeartbeats 0 in
theorem PySem.Challenge.cw_guesttongues_k31_format_table_holds : PySem.Challenge.rw_guesttongues_k31_format_table.Holds := by
  w_on; o_law; k_head; (case hw => w_witness2)
  k_fill
  refine Gt.walk (l := PySem.Challenge.rw_guesttongues_k31_format_table) rfl rfl (fun w h Y => PySem.W.kIn_of Y) ?F
  case F =>
    intro w mg fa h KX G hmg
    refine' Gt.all_mk KX G hmg ?a0 ?l0 ?c0 ?k0 ?a1 ?l1 ?c1 ?k1 ?a2 ?l2 ?c2 ?k2 ?a3 ?l3 ?c3 ?k3 ?a4 ?l4 ?c4 ?k4 ?a5 ?l5 ?c5 ?k5 ?a6 ?l6 ?c6 ?k6 ?z0 ?z1 ?z2 ?z3 ?z4 ?z5 ?z6 ?z7
    (case a0 => k_is)
    (case l0 => k_is)
    (case c0 => k_is)
    (case k0 => k_is)
    (case a1 => k_is)
    (case l1 => k_is)
    (case c1 => k_is)
    (case k1 => k_is)
    (case a2 => k_is)
    (case l2 => k_is)
    (case c2 => k_is)
    (case k2 => k_is)
    (case a3 => k_is)
    (case l3 => k_is)
    (case c3 => k_is)
    (case k3 => k_is)
    (case a4 => k_is)
    (case l4 => k_is)
    (case c4 => k_is)
    (case k4 => k_is)
    (case a5 => k_is)
    (case l5 => k_is)
    (case c5 => k_is)
    (case k5 => k_is)
    (case a6 => k_is)
    (case l6 => k_is)
    (case c6 => k_is)
    (case k6 => k_is)
    (case z0 => k_is)
    (case z1 => k_is)
    (case z2 => k_is)
    (case z3 => k_is)
    (case z4 => k_is)
    (case z5 => k_is)
    (case z6 => k_is)
    (case z7 => k_is)
#print axioms PySem.Challenge.cw_guesttongues_k31_format_table_holds
