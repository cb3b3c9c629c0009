import PyProof.Rows.All
import Wide.All
import OpenK.AllK
import Wide.FinOn
import HandS.ForMost
import HandS.Evl
import HandS.IsInst
import HandS.Deep
import PyProof.StrLawsLast
import PyProof.StrLawsFirst
import HandS.IterVal
import HandS.OwnEq
import HandS.OwnIter
import HandS.SlotsOwn
import KE.KOpsOwn
import HandS.TupAny
import PyProof.P3In
import HandS.Defaults
import PyProof.StrOps2
import KE.KExcSuper
import HandS.Exc
import HandS.ExcOwn
import HandS.TryOnly
import HandS.ExcField
import HandS.ExcIs
import HandS.WordsExc
import HandS.Star
import HandS.Property
import KE.KCallOwn
import HandS.IterNext
import KE.GoesEnumKw
import HandS.Iter
import HandS.ClsMeth
import PySem.Challenge.RW_guesttongues_k03_lines
set_option Elab.async false
set_option linter.all false
set_option maxRecDepth 100000
set_option maxHeartbeats 1000000
/-! Gt1: what slots hold, as data (cells), and what an expression or statement makes of them. -/
namespace Gt
open PySem PySem.Spec PyProof.Rows L2

/-- two lists, item by item -/
inductive A2 {α β : Type} (r : α → β → Prop) : List α → List β → Prop
  | nil : A2 r [] []
  | cons {a : α} {b : β} {as : List α} {bs : List β} : r a b → A2 r as bs → A2 r (a :: as) (b :: bs)
theorem A2.imp {α β : Type} {r q : α → β → Prop} (f : ∀ a b, r a b → q a b) : ∀ {as : List α} {bs : List β}, A2 r as bs → A2 q as bs
  | _, _, .nil => .nil
  | _, _, .cons h t => .cons (f _ _ h) (A2.imp f t)
theorem A2.len {α β : Type} {r : α → β → Prop} : ∀ {as : List α} {bs : List β}, A2 r as bs → as.length = bs.length
  | _, _, .nil => rfl
  | _, _, .cons _ t => by rw [List.length_cons, List.length_cons, A2.len t]
theorem A2.get {α β : Type} {r : α → β → Prop} : ∀ {as : List α} {bs : List β} {i : Nat} {a : α}, A2 r as bs → as[i]? = some a → ∃ b, bs[i]? = some b ∧ r a b
  | _, _, _, _, .nil, e => by simp at e
  | _, _, 0, _, .cons h _, e => by simp at e; subst e; exact ⟨_, rfl, h⟩
  | _, _, i + 1, a, .cons _ t, e => by
    obtain ⟨b, h1, h2⟩ := A2.get (i := i) (a := a) t (by simpa using e)
    exact ⟨b, by simpa using h1, h2⟩
theorem A2.get' {α β : Type} {r : α → β → Prop} : ∀ {as : List α} {bs : List β} {i : Nat} {b : β}, A2 r as bs → bs[i]? = some b → ∃ a, as[i]? = some a ∧ r a b
  | _, _, _, _, .nil, e => by simp at e
  | _, _, 0, _, .cons h _, e => by simp at e; subst e; exact ⟨_, rfl, h⟩
  | _, _, i + 1, b, .cons _ t, e => by
    obtain ⟨a, h1, h2⟩ := A2.get' (i := i) (b := b) t (by simpa using e)
    exact ⟨a, by simpa using h1, h2⟩
theorem A2.app {α β : Type} {r : α → β → Prop} {cs : List α} {ds : List β} (t : A2 r cs ds) : ∀ {as : List α} {bs : List β}, A2 r as bs → A2 r (as ++ cs) (bs ++ ds)
  | _, _, .nil => t
  | _, _, .cons h u => .cons h (A2.app t u)
theorem A2.one {α β : Type} {r : α → β → Prop} {a : α} {b : β} (h : r a b) : A2 r [a] [b] := .cons h .nil
theorem A2.drop {α β : Type} {r : α → β → Prop} : ∀ {as : List α} {bs : List β} (n : Nat), A2 r as bs → A2 r (as.drop n) (bs.drop n)
  | _, _, 0, h => h
  | _, _, _ + 1, .nil => .nil
  | _, _, n + 1, .cons _ t => A2.drop n t
theorem A2.take {α β : Type} {r : α → β → Prop} : ∀ {as : List α} {bs : List β} (n : Nat), A2 r as bs → A2 r (as.take n) (bs.take n)
  | _, _, 0, _ => .nil
  | _, _, _ + 1, .nil => .nil
  | _, _, n + 1, .cons h t => .cons h (A2.take n t)
theorem A2.rev {α β : Type} {r : α → β → Prop} : ∀ {as : List α} {bs : List β}, A2 r as bs → A2 r as.reverse bs.reverse
  | _, _, .nil => .nil
  | _, _, .cons h t => by
    rw [List.reverse_cons, List.reverse_cons]
    exact A2.app (.one h) (A2.rev t)
theorem A2.set {α β : Type} {r : α → β → Prop} {a : α} {b : β} (h : r a b) : ∀ {as : List α} {bs : List β} (i : Nat), A2 r as bs → A2 r (as.set i a) (bs.set i b)
  | _, _, _, .nil => .nil
  | _, _, 0, .cons _ t => .cons h t
  | _, _, i + 1, .cons q t => .cons q (A2.set h i t)
theorem A2.map_eq {α β : Type} {f : β → α} : ∀ {as : List α} {bs : List β}, A2 (fun a b => a = f b) as bs → as = bs.map f
  | _, _, .nil => rfl
  | _, _, .cons h t => by rw [List.map_cons, ← A2.map_eq t, h]
theorem A2.of_map {α β : Type} {f : β → α} : ∀ (bs : List β), A2 (fun a b => a = f b) (bs.map f) bs
  | [] => .nil
  | _ :: r => .cons rfl (A2.of_map r)

/-- all tuples stay -/
def ExT (K : PySem.W.Frag) (H H' : Hp) : Prop := ∀ a xs, SqT K H a xs → SqT K H' a xs
theorem ExT.refl {K : PySem.W.Frag} (H : Hp) : ExT K H H := fun _ _ h => h
theorem ExT.trans {K : PySem.W.Frag} {H H1 H2 : Hp} (a : ExT K H H1) (b : ExT K H1 H2) : ExT K H H2 := fun x o h => b x o (a x o h)
theorem ext_same {K : PySem.W.Frag} {H H' : Hp} (e : Same H H') : ExT K H H' := fun a xs h => by
  rcases h with (h | ⟨o, h⟩) | h
  · exact .inl (.inl (e _ _ h))
  · exact .inl (.inr ⟨o, e _ _ h⟩)
  · exact .inr h
def isTup : HO → Prop
  | .tup _ => True
  | .frz _ _ => True
  | _ => False
/-- what is neither a tuple nor locked is changed -/
theorem ext_upd {K : PySem.W.Frag} {H : Hp} {p : Addr} {o u : HO} (h : H p = some o) (n : ¬ isTup o) : ExT K H (upd H p u) := fun a xs q => by
  have hne : ∀ w, H a = some w → isTup w → a ≠ p := fun w e t z => by
    subst z
    rw [h] at e
    cases e
    exact n t
  rcases q with (q | ⟨o', q⟩) | q
  · exact .inl (.inl (by rw [upd_ne (hne _ q trivial)]; exact q))
  · exact .inl (.inr ⟨o', by rw [upd_ne (hne _ q trivial)]; exact q⟩)
  · exact .inr q

abbrev Rp (β : Type) := Hp → V → β → Prop
class Mono {β : Type} (r : Rp β) : Prop where
  up : ∀ {H H' : Hp} {v : V} {b : β}, Same H H' → r H v b → r H' v b
class Frz (K : PySem.W.Frag) {β : Type} (r : Rp β) : Prop where
  up : ∀ {H H' : Hp} {v : V} {b : β}, ExT K H H' → r H v b → r H' v b
theorem Frz.mono {K : PySem.W.Frag} {β : Type} {r : Rp β} [F : Frz K r] {H H' : Hp} {v : V} {b : β} (e : Same H H') (h : r H v b) : r H' v b := F.up (ext_same e) h

/-! ### flat things -/
def rI : Rp Int := fun _ v n => v = .int n
def rB : Rp Bool := fun _ v n => v = .bl n
/-- a text as the layer compares it: signs are code points, the length is small -/
def okS (s : Str) : Prop := s.length ≤ 100000 ∧ s.cps.all (fun c => decide (c < 0x110000)) = true
instance (s : Str) : Decidable (okS s) := by unfold okS; infer_instance
theorem okS_chr {s : Str} {c : Nat} (h : okS s) (hc : c ∈ s.cps.toList) : okS ⟨#[c]⟩ := by
  refine ⟨by show 1 ≤ 100000; decide, ?_⟩
  have := h.2
  rw [← Array.all_toList, List.all_eq_true] at this
  show (#[c].all fun c => decide (c < 0x110000)) = true
  rw [← Array.all_toList]
  simpa using this c hc
theorem okS_app {s t : Str} (h : okS s) (h' : okS t) (hz : s.length + t.length ≤ 100000) : okS (s ++ t) := by
  refine ⟨?_, ?_⟩
  · show (s.cps ++ t.cps).size ≤ 100000
    rw [Array.size_append]
    exact hz
  · show (s.cps ++ t.cps).all (fun c => decide (c < 0x110000)) = true
    rw [Array.all_append, h.2, h'.2]
    rfl
def rS : Rp Str := fun _ v n => v = .str n ∧ okS n
def rN : Rp Unit := fun _ v _ => v = .non
def rV : Rp V := fun _ v w => v = w
/-- None or a thing -/
def rO {β : Type} (r : Rp β) : Rp (Option β) := fun H v o => match o with
  | .none => v = .non
  | .some b => r H v b
/-- a tuple of things of one kind | a pair -/
def rT (K : PySem.W.Frag) {β : Type} (r : Rp β) : Rp (List β) := fun H v xs => ∃ a vs, v = .ref a ∧ SqT K H a vs ∧ A2 (r H) vs xs
def rP (K : PySem.W.Frag) {α β : Type} (r : Rp α) (q : Rp β) : Rp (α × β) := fun H v p => ∃ a x y, v = .ref a ∧ SqT K H a [x, y] ∧ r H x p.1 ∧ q H y p.2
/-- a list of things of one kind -/
def rL {β : Type} (r : Rp β) : Rp (List β) := fun H v xs => ∃ a vs, v = .ref a ∧ H a = some (.lst vs) ∧ A2 (r H) vs xs
section
variable {K : PySem.W.Frag} {α β : Type}
instance : Mono rI := ⟨fun _ h => h⟩
instance : Mono rB := ⟨fun _ h => h⟩
instance : Mono rS := ⟨fun _ h => h⟩
instance : Mono rN := ⟨fun _ h => h⟩
instance : Mono rV := ⟨fun _ h => h⟩
instance : Frz K rI := ⟨fun _ h => h⟩
instance : Frz K rB := ⟨fun _ h => h⟩
instance : Frz K rS := ⟨fun _ h => h⟩
instance : Frz K rN := ⟨fun _ h => h⟩
instance : Frz K rV := ⟨fun _ h => h⟩
instance {r : Rp β} [M : Mono r] : Mono (rO r) := ⟨fun {_ _ _ b} e h => match b, h with
  | .none, h => h
  | .some _, h => M.up (v := _) e h⟩
instance {r : Rp β} [M : Frz K r] : Frz K (rO r) := ⟨fun {_ _ _ b} e h => match b, h with
  | .none, h => h
  | .some _, h => M.up (v := _) e h⟩
instance {r : Rp β} [M : Mono r] : Mono (rT K r) := ⟨fun e ⟨a, vs, ev, h, q⟩ => ⟨a, vs, ev, ext_same e _ _ h, q.imp fun _ _ z => M.up e z⟩⟩
instance {r : Rp β} [M : Frz K r] : Frz K (rT K r) := ⟨fun e ⟨a, vs, ev, h, q⟩ => ⟨a, vs, ev, e _ _ h, q.imp fun _ _ z => M.up e z⟩⟩
instance {r : Rp α} {q : Rp β} [M : Mono r] [N : Mono q] : Mono (rP K r q) := ⟨fun e ⟨a, x, y, ev, h, h1, h2⟩ => ⟨a, x, y, ev, ext_same e _ _ h, M.up e h1, N.up e h2⟩⟩
instance {r : Rp α} {q : Rp β} [M : Frz K r] [N : Frz K q] : Frz K (rP K r q) := ⟨fun e ⟨a, x, y, ev, h, h1, h2⟩ => ⟨a, x, y, ev, e _ _ h, M.up e h1, N.up e h2⟩⟩
instance {r : Rp β} [M : Mono r] : Mono (rL r) := ⟨fun e ⟨a, vs, ev, h, q⟩ => ⟨a, vs, ev, e _ _ h, q.imp fun _ _ z => M.up e z⟩⟩
end

/-! ### owned things: with the addresses that belong to them -/
structure Rs (K : PySem.W.Frag) (β : Type) where
  rep : Hp → V → β → List Addr → Prop
  stay : ∀ {H H' : Hp} {v : V} {b : β} {as : List Addr}, rep H v b as → ExT K H H' → (∀ p, p ∈ as → ∀ o, H p = some o → H' p = some o) → rep H' v b as
  there : ∀ {H : Hp} {v : V} {b : β} {as : List Addr}, rep H v b as → ∀ p, p ∈ as → ∃ o, H p = some o ∧ ¬ isTup o
/-- it is so as long as the tuples stay -/
def Stb (K : PySem.W.Frag) {β : Type} (r : Rp β) : Rp β := fun H v b => ∀ H', ExT K H H' → r H' v b
theorem Stb.up {K : PySem.W.Frag} {β : Type} {r : Rp β} {H H' : Hp} {v : V} {b : β} (x : ExT K H H') (h : Stb K r H v b) : Stb K r H' v b := fun H2 y => h H2 (x.trans y)
theorem Stb.now {K : PySem.W.Frag} {β : Type} {r : Rp β} {H : Hp} {v : V} {b : β} (h : Stb K r H v b) : r H v b := h H (ExT.refl H)
theorem stb {K : PySem.W.Frag} {β : Type} {r : Rp β} [F : Frz K r] {H : Hp} {v : V} {b : β} (h : r H v b) : Stb K r H v b := fun _ x => F.up x h
theorem stbs {K : PySem.W.Frag} {β : Type} {r : Rp β} [F : Frz K r] {H : Hp} {vs : List V} {bs : List β} (h : A2 (r H) vs bs) : A2 (Stb K r H) vs bs := h.imp fun _ _ z => stb z
theorem nows {K : PySem.W.Frag} {β : Type} {r : Rp β} {H : Hp} {vs : List V} {bs : List β} (h : A2 (Stb K r H) vs bs) : A2 (r H) vs bs := h.imp fun _ _ z => z.now
/-- a frozen thing owns nothing -/
def fz (K : PySem.W.Frag) {β : Type} (r : Rp β) : Rs K β where
  rep := fun H v b as => as = [] ∧ Stb K r H v b
  stay := fun ⟨e, h⟩ x _ => ⟨e, h.up x⟩
  there := fun ⟨e, _⟩ p hp => by rw [e] at hp; cases hp
/-- a list (owned) of frozen things -/
def nl (K : PySem.W.Frag) {β : Type} (r : Rp β) : Rs K (List β) where
  rep := fun H v xs as => ∃ p vs, as = [p] ∧ v = .ref p ∧ H p = some (.lst vs) ∧ A2 (Stb K r H) vs xs
  stay := fun ⟨p, vs, e, ev, h, q⟩ x k => ⟨p, vs, e, ev, k p (by rw [e]; exact List.mem_singleton.mpr rfl) _ h, q.imp fun _ _ z => z.up x⟩
  there := fun ⟨p, vs, e, _, h, _⟩ b hb => by
    rw [e] at hb
    cases List.mem_singleton.mp hb
    exact ⟨_, h, fun z => z⟩
/-- a dict (owned) with texts as keys and frozen values -/
def nd (K : PySem.W.Frag) {β : Type} (r : Rp β) : Rs K (List (Str × β)) where
  rep := fun H v xs as => ∃ p kvs, as = [p] ∧ v = .ref p ∧ H p = some (.dK kvs) ∧ A2 (fun (x : Key × V) (y : Str × β) => (x.1 = Sum.inr y.1 ∧ okS y.1) ∧ Stb K r H x.2 y.2) kvs xs
  stay := fun ⟨p, vs, e, ev, h, q⟩ x k => ⟨p, vs, e, ev, k p (by rw [e]; exact List.mem_singleton.mpr rfl) _ h, q.imp fun _ _ z => ⟨z.1, z.2.up x⟩⟩
  there := fun ⟨p, vs, e, _, h, _⟩ b hb => by
    rw [e] at hb
    cases List.mem_singleton.mp hb
    exact ⟨_, h, fun z => z⟩

/-! ### cells -/
inductive Cell (K : PySem.W.Frag) : Type 1
  | ow {β : Type} (R : Rs K β) (b : β)
  | ro {β : Type} (r : Rp β) (m : Mono r) (b : β)
def Cell.ok {K : PySem.W.Frag} (H0 H : Hp) (v : V) (as : List Addr) : Cell K → Prop
  | .ow R b => R.rep H v b as
  | .ro r _ b => as = [] ∧ r H0 v b
/-- a flat or frozen thing -/
abbrev fc {K : PySem.W.Frag} {β : Type} (r : Rp β) (b : β) : Option (Cell K) := some (.ow (fz K r) b)
/-- a thing that was there, unchanged -/
abbrev rc {K : PySem.W.Frag} {β : Type} (r : Rp β) [m : Mono r] (b : β) : Option (Cell K) := some (.ro r m b)
abbrev Cells (K : PySem.W.Frag) := List (Option (Cell K))

structure Env {K : PySem.W.Frag} (H0 : Hp) (σ : L2.St) (H : Hp) (G : Cells K) : Prop where
  old : Same H0 H
  len : σ.length = G.length
  at_ : ∃ own : Nat → List Addr, (∀ i p, p ∈ own i → H0 p = none ∧ ∃ o, H p = some o ∧ ¬ isTup o) ∧ (∀ i j p, p ∈ own i → p ∈ own j → i = j) ∧
    ∀ (i : Nat) (c : Cell K), G[i]? = some (some c) → ∃ v, σ[i]? = some (some v) ∧ c.ok H0 H v (own i)

section
variable {K : PySem.W.Frag} {H0 H H' : Hp} {σ : L2.St} {G G' : Cells K} {α β γ : Type}
theorem cell_stay {c : Cell K} {v : V} {as : List Addr} (h : c.ok H0 H v as) (x : ExT K H H') (k : ∀ p, p ∈ as → ∀ o, H p = some o → H' p = some o) : c.ok H0 H' v as := by
  cases c with
  | ow R b => exact R.stay h x k
  | ro r m b => exact h
/-- more is tracked -/
theorem Env.grow (E : Env H0 σ H G) (e : Same H H') : Env H0 σ H' G := by
  obtain ⟨own, h1, h2, h3⟩ := E.at_
  refine ⟨E.old.trans e, E.len, own, fun i p hp => ⟨(h1 i p hp).1, ?_⟩, h2, fun i c hc => ?_⟩
  · obtain ⟨o, ho, nt⟩ := (h1 i p hp).2
    exact ⟨o, e _ _ ho, nt⟩
  · obtain ⟨v, hv, hk⟩ := h3 i c hc
    exact ⟨v, hv, cell_stay hk (ext_same e) fun p _ o ho => e _ _ ho⟩
/-- less is said -/
inductive Sub : Cells K → Cells K → Prop
  | nil : Sub [] []
  | keep {c : Option (Cell K)} {G G' : Cells K} : Sub G G' → Sub (c :: G) (c :: G')
  | drop {c : Option (Cell K)} {G G' : Cells K} : Sub G G' → Sub (c :: G) (none :: G')
theorem Sub.get : ∀ {G G' : Cells K} {i : Nat} {c : Cell K}, Sub G G' → G'[i]? = some (some c) → G[i]? = some (some c)
  | _, _, _, _, .nil, h => by simp at h
  | _, _, 0, _, .keep _, h => h
  | _, _, i + 1, c, .keep s, h => by
    have := Sub.get (i := i) (c := c) s (by simpa using h)
    simpa using this
  | _, _, 0, _, .drop _, h => by simp at h
  | _, _, i + 1, c, .drop s, h => by
    have := Sub.get (i := i) (c := c) s (by simpa using h)
    simpa using this
theorem Sub.len : ∀ {G G' : Cells K}, Sub G G' → G.length = G'.length
  | _, _, .nil => rfl
  | _, _, .keep s => by rw [List.length_cons, List.length_cons, Sub.len s]
  | _, _, .drop s => by rw [List.length_cons, List.length_cons, Sub.len s]
theorem Sub.refl : ∀ G : Cells K, Sub G G
  | [] => .nil
  | _ :: G => .keep (Sub.refl G)
theorem Env.less (E : Env H0 σ H G) (s : Sub G G') : Env H0 σ H G' := by
  obtain ⟨own, h1, h2, h3⟩ := E.at_
  exact ⟨E.old, E.len.trans s.len, own, h1, h2, fun i c hc => h3 i c (s.get hc)⟩
/-- a slot gets an owned or frozen thing -/
theorem Env.put {i : Nat} {v : V} {R : Rs K β} {b : β} {as : List Addr} (E : Env H0 σ H G) (e : Same H H') (hn : ∀ p, p ∈ as → H p = none) (h : R.rep H' v b as) : Env H0 (σ.set i (some v)) H' (G.set i (some (.ow R b))) := by
  have E' := E.grow e
  obtain ⟨own, h1, h2, h3⟩ := E.at_
  have hf : ∀ j p, p ∈ own j → H p ≠ none := fun j p hp z => by
    obtain ⟨o, ho, _⟩ := (h1 j p hp).2
    rw [z] at ho
    cases ho
  refine ⟨E'.old, by rw [List.length_set, List.length_set]; exact E.len, fun j => if j = i then as else own j, fun j p hp => ?_, fun j k p hj hk => ?_, fun j c hc => ?_⟩
  · by_cases hji : j = i
    · simp only [hji, if_true] at hp
      refine ⟨?_, R.there h p hp⟩
      cases q : H0 p with
      | none => rfl
      | some o =>
        have := E.old p o q
        rw [hn p hp] at this
        cases this
    · simp only [hji, if_false] at hp
      obtain ⟨o, ho, nt⟩ := (h1 j p hp).2
      exact ⟨(h1 j p hp).1, o, e _ _ ho, nt⟩
  · by_cases hji : j = i <;> by_cases hki : k = i
    · rw [hji, hki]
    · simp only [hji, hki, if_true, if_false] at hj hk
      exact absurd (hn p hj) (hf k p hk)
    · simp only [hji, hki, if_true, if_false] at hj hk
      exact absurd (hn p hk) (hf j p hj)
    · simp only [hji, hki, if_false] at hj hk
      exact h2 j k p hj hk
  · by_cases hji : j = i
    · subst hji
      have hl : j < σ.length := by
        have := (List.getElem?_eq_some_iff.mp hc).1
        rw [List.length_set] at this
        rw [E.len]
        exact this
      rw [List.getElem?_set_self (by rw [← E.len]; exact hl)] at hc
      cases hc
      refine ⟨v, List.getElem?_set_self hl, ?_⟩
      simp only [if_true]
      exact h
    · rw [List.getElem?_set_ne (Ne.symm hji)] at hc
      obtain ⟨w, hw, hk⟩ := h3 j c hc
      refine ⟨w, by rw [List.getElem?_set_ne (Ne.symm hji)]; exact hw, ?_⟩
      simp only [hji, if_false]
      exact cell_stay hk (ext_same e) fun p _ o ho => e _ _ ho
/-- an owned thing at slot i is changed in place -/
theorem Env.mut {i : Nat} {R : Rs K β} {R' : Rs K γ} {b : β} {b' : γ} {v : V} {as : List Addr} (E : Env H0 σ H G) (hi : G[i]? = some (some (.ow R b))) (hv : σ[i]? = some (some v))
    (x : ExT K H H') (k : ∀ p o, p ∉ as → H p = some o → H' p = some o) (th : ∀ w bs, σ[i]? = some (some w) → R.rep H w b bs → bs = as) (h : R'.rep H' v b' as) : Env H0 σ H' (G.set i (some (.ow R' b'))) := by
  obtain ⟨own, h1, h2, h3⟩ := E.at_
  obtain ⟨w, hw, hk⟩ := h3 i _ hi
  have eas : own i = as := th w _ hw hk
  have nas : ∀ j p, j ≠ i → p ∈ own j → p ∉ as := fun j p hj hp z => hj (h2 j i p hp (by rw [eas]; exact z))
  refine ⟨fun p o ho => k p o (fun z => ?_) (E.old p o ho), by rw [List.length_set]; exact E.len, own, fun j p hp => ⟨(h1 j p hp).1, ?_⟩, h2, fun j c hc => ?_⟩
  · have := (h1 i p (by rw [eas]; exact z)).1
    rw [this] at ho
    cases ho
  · by_cases hj : j = i
    · rw [hj, eas] at hp
      exact R'.there h p hp
    · obtain ⟨o, ho, nt⟩ := (h1 j p hp).2
      exact ⟨o, k p o (nas j p hj hp) ho, nt⟩
  · by_cases hj : j = i
    · subst hj
      have hl : j < G.length := (List.getElem?_eq_some_iff.mp hi).1
      rw [List.getElem?_set_self hl] at hc
      cases hc
      exact ⟨v, hv, by rw [eas]; exact h⟩
    · rw [List.getElem?_set_ne (Ne.symm hj)] at hc
      obtain ⟨u, hu, hk'⟩ := h3 j c hc
      exact ⟨u, hu, cell_stay hk' x fun p hp o ho => k p o (nas j p hj hp) ho⟩

/-! ### what evaluates to what -/
def Ev (r : Rp β) (te : TE) (G : Cells K) (b : β) : Prop := ∀ H0 σ H, Env H0 σ H G → ∀ Q : VK, (∀ v H', Same H H' → r H' v b → Q v H') → te σ H Q
/-- .. to a new thing, or a frozen one -/
def Nw (R : Rs K β) (te : TE) (G : Cells K) (b : β) : Prop := ∀ H0 σ H, Env H0 σ H G → ∀ Q : VK, (∀ v H' as, Same H H' → (∀ p, p ∈ as → H p = none) → R.rep H' v b as → Q v H') → te σ H Q
def EvT (tt : TT) (G : Cells K) (b : Bool) : Prop := ∀ H0 σ H, Env H0 σ H G → ∀ Q : Bool → Hp → Prop, (∀ H', Same H H' → Q b H') → tt σ H Q
/-- a list of arguments -/
abbrev Ra (α : Type) := Hp → List V → α → Prop
class MonoA {α : Type} (A : Ra α) : Prop where
  up : ∀ {H H' : Hp} {vs : List V} {a : α}, Same H H' → A H vs a → A H' vs a
def aN : Ra Unit := fun _ vs _ => vs = []
def aC {α β : Type} (r : Rp α) (A : Ra β) : Ra (α × β) := fun H vs p => ∃ v ws, vs = v :: ws ∧ r H v p.1 ∧ A H ws p.2
instance : MonoA aN := ⟨fun _ h => h⟩
instance {α β : Type} {r : Rp α} {A : Ra β} [M : Mono r] [N : MonoA A] : MonoA (aC r A) := ⟨fun e ⟨v, ws, ev, h1, h2⟩ => ⟨v, ws, ev, M.up e h1, N.up e h2⟩⟩
def EvA (A : Ra α) (ta : TA) (G : Cells K) (a : α) : Prop := ∀ H0 σ H, Env H0 σ H G → ∀ Q : List V → Hp → Prop, (∀ vs H', Same H H' → A H' vs a → Q vs H') → ta σ H Q

/-! ### a def's promise: from data to data -/
def spF (A : Ra α) (pre : α → Prop) (r : Rp β) (f : α → β) : Sp := fun vs H Q _ => ∃ a, A H vs a ∧ pre a ∧ ∀ v H', Same H H' → r H' v (f a) → Q v H'
def spN (A : Ra α) (pre : α → Prop) (R : Rs K β) (f : α → β) : Sp := fun vs H Q _ => ∃ a, A H vs a ∧ pre a ∧ ∀ v H' as, Same H H' → (∀ p, p ∈ as → H p = none) → R.rep H' v (f a) as → Q v H'

variable {r : Rp α} {q : Rp β} {R : Rs K α} {te ta tb tc : TE} {a x : α} {b y : β}
/-- a frozen thing is as good as a new one -/
theorem Ev.nw [F : Frz K r] (h : Ev r te G a) : Nw (fz K r) te G a := fun H0 σ H E Q k => h H0 σ H E Q fun v H' e z => k v H' [] e (fun _ hp => nomatch hp) ⟨rfl, stb z⟩
theorem Nw.fz (h : Nw (fz K r) te G a) : Ev r te G a := fun H0 σ H E Q k => h H0 σ H E Q fun v H' _ e _ z => k v H' e z.2.now
theorem Nw.lst {r : Rp α} {xs : List α} (h : Nw (nl K r) te G xs) : Ev (rL r) te G xs := fun H0 σ H E Q k => h H0 σ H E Q fun v H' _ e _ ⟨p, vs, _, ev, hp, z⟩ => k v H' e ⟨p, vs, ev, hp, nows z⟩
theorem Ev.imp {q : Rp α} (h : Ev r te G a) (f : ∀ H v, r H v a → q H v a) : Ev q te G a := fun H0 σ H E Q k => h H0 σ H E Q fun v H' e z => k v H' e (f _ _ z)
theorem Ev.eq (h : Ev r te G a) (e : a = x) : Ev r te G x := e ▸ h
theorem Nw.eq (h : Nw R te G a) (e : a = x) : Nw R te G x := e ▸ h
theorem EvT.eq {tt : TT} {c d : Bool} (h : EvT tt G c) (e : c = d) : EvT tt G d := e ▸ h

/-! ### names and constants -/
theorem ev_fz {i : Nat} (h : G[i]? = some (some (.ow (fz K r) a)) := by rfl) : Ev r (tVar i) G a := fun H0 σ H E Q k => by
  obtain ⟨own, _, _, h3⟩ := E.at_
  obtain ⟨v, hv, hk⟩ := h3 i _ h
  exact ⟨v, hv, k v H (Same.refl H) hk.2.now⟩
theorem ev_lst {i : Nat} {r : Rp α} {xs : List α} (h : G[i]? = some (some (.ow (nl K r) xs)) := by rfl) : Ev (rL r) (tVar i) G xs := fun H0 σ H E Q k => by
  obtain ⟨own, _, _, h3⟩ := E.at_
  obtain ⟨v, hv, p, vs, _, ev, hp, z⟩ := h3 i _ h
  exact ⟨v, hv, k v H (Same.refl H) ⟨p, vs, ev, hp, nows z⟩⟩
theorem ev_ro {i : Nat} {M : Mono r} (h : G[i]? = some (some (.ro r M a)) := by rfl) : Ev r (tVar i) G a := fun H0 σ H E Q k => by
  obtain ⟨own, _, _, h3⟩ := E.at_
  obtain ⟨v, hv, hk⟩ := h3 i _ h
  exact ⟨v, hv, k v H (Same.refl H) (M.up E.old hk.2)⟩
theorem ev_c {v : V} (h : ∀ H, r H v a) : Ev r (tC v) G a := fun _ _ H _ _ k => k v H (Same.refl H) (h H)
theorem ev_int {n : Int} : Ev rI (tC (.int n)) G n := ev_c fun _ => rfl
theorem ev_str {n : Str} (h : okS n) : Ev rS (tC (.str n)) G n := ev_c fun _ => ⟨rfl, h⟩
theorem ev_bl {n : Bool} : Ev rB (tC (.bl n)) G n := ev_c fun _ => rfl
theorem ev_non : Ev (rO r) (tC .non) G Option.none := ev_c fun _ => rfl
theorem Ev.some (h : Ev r te G a) : Ev (rO r) te G (Option.some a) := fun H0 σ H E Q k => h H0 σ H E Q fun v H' e z => k v H' e z

/-! ### operators -/
/-- a rule on values, from data to data -/
def OpE (o : R2) (r : Rp α) (q : Rp β) (z : Rp γ) (x : α) (y : β) (c : γ) : Prop := ∀ H u v, r H u x → q H v y → ∀ Q : VK, (∀ w H', Same H H' → z H' w c → Q w H') → o u v H Q
def OpN (o : R2) (r : Rp α) (q : Rp β) (Z : Rs K γ) (x : α) (y : β) (c : γ) : Prop := ∀ H u v, r H u x → q H v y → ∀ Q : VK, (∀ w H' as, Same H H' → (∀ p, p ∈ as → H p = none) → Z.rep H' w c as → Q w H') → o u v H Q
theorem ev_op {o : R2} {z : Rp γ} {c : γ} [M : Mono r] (ha : Ev r ta G x) (hb : Ev q tb G y) (ho : OpE o r q z x y c) : Ev z (tOp o ta tb) G c := fun H0 σ H E Q k =>
  ha H0 σ H E _ fun u H1 e1 h1 => hb H0 σ H1 (E.grow e1) _ fun v H2 e2 h2 => ho H2 u v (M.up e2 h1) h2 Q fun w H3 e3 h3 => k w H3 ((e1.trans e2).trans e3) h3
theorem free_back {p : Addr} (e : Same H H') (h : H' p = none) : H p = none := e.free h
theorem nw_op {o : R2} {Z : Rs K γ} {c : γ} [M : Mono r] (ha : Ev r ta G x) (hb : Ev q tb G y) (ho : OpN o r q Z x y c) : Nw Z (tOp o ta tb) G c := fun H0 σ H E Q k =>
  ha H0 σ H E _ fun u H1 e1 h1 => hb H0 σ H1 (E.grow e1) _ fun v H2 e2 h2 => ho H2 u v (M.up e2 h1) h2 Q fun w H3 as e3 hn h3 => k w H3 as ((e1.trans e2).trans e3) (fun p hp => free_back (e1.trans e2) (hn p hp)) h3
theorem op_I0 {g : Int → Int → V} {z : Rp γ} {c : γ} {i j : Int} (h : ∀ H, z H (g i j) c) : OpE (rI0 g) rI rI z i j c := fun H u v hu hv Q k => by
  cases hu; cases hv
  exact ⟨i, j, rfl, rfl, k _ H (Same.refl H) (h H)⟩
theorem op_I {C : Int → Int → Prop} {g : Int → Int → V} {z : Rp γ} {c : γ} {i j : Int} (hc : C i j) (h : ∀ H, z H (g i j) c) : OpE (L2.rI C g) rI rI z i j c := fun H u v hu hv Q k => by
  cases hu; cases hv
  exact ⟨i, j, rfl, rfl, hc, k _ H (Same.refl H) (h H)⟩
end
end Gt
/-! Gt2: defs, statements and loops over cells. -/
namespace Gt
open PySem PySem.Spec PyProof.Rows L2

/-! ### defs of the text -/
structure Cal (P : Program) (w : World) (K : PySem.W.Frag) (mg : Str → Option Value) (base : Heap) (CX : CXT) (x : Str) (k : Nat) (ps : List Str) (sp : Sp) : Prop where
  ex : ∃ (f : Addr) (fd : FuncData), FnOk P w K mg base CX k f fd ps sp ∧ mg x = some (.ref f) ∧ PySem.W.keepIn K (.ref f) = true ∧ Binds K fd ps []
structure Df (K : PySem.W.Frag) (mg : Str → Option Value) (x : Str) (st : Stmt) : Prop where
  ex : ∃ (f : Addr) (fd : FuncData), Fun K x x st f fd ∧ mg x = some (.ref f)
theorem pe_fn {X : Cx} {x : Str} {k : Nat} {ps : List Str} {sp : Sp} {p pos : Pos} {e : Expr} {es : List Expr} {t : TA} (C : Cal X.prog X.w X.K X.mg X.base CX0 x k ps sp) (hr : Room k X.A) (ha : PA X (e :: es) t) (hg : Gl X x := by rfl)
    (hdb : (x == Str.ofString "__debug__") = false := by decide) (he : starEach (e :: es) X.env = (false, eval e X.env) :: starEach es X.env := by rfl) (hpl : (backTo pos (starEach es X.env)).any (·.1) = false := by rfl) :
    PE X (.Call (.Name x p) (e :: es) [] pos) (tCall sp [] E0 t) := by
  obtain ⟨f, fd, F, m, kp, b⟩ := C.ex
  exact pe_call F hr hg m kp b .nil pass0 ha hdb he hpl
theorem pe_fn0 {X : Cx} {x : Str} {k : Nat} {ps : List Str} {sp : Sp} {p pos : Pos} (C : Cal X.prog X.w X.K X.mg X.base CX0 x k ps sp) (hr : Room k X.A) (hg : Gl X x := by rfl)
    (hdb : (x == Str.ofString "__debug__") = false := by decide) :
    PE X (.Call (.Name x p) [] [] pos) (tCall sp [] E0 tNil) := by
  obtain ⟨f, fd, F, m, kp, b⟩ := C.ex
  exact pe_call0 F hr hg m kp b .nil pass0 hdb
class LenA {α : Type} (A : Ra α) (n : outParam Nat) : Prop where
  len : ∀ {H : Hp} {vs : List V} {a : α}, A H vs a → vs.length = n
instance : LenA aN 0 := ⟨fun h => by rw [show _ = [] from h]; rfl⟩
instance {α β : Type} {r : Rp α} {A : Ra β} {n : Nat} [L : LenA A n] : LenA (aC r A) (n + 1) := ⟨fun ⟨_, ws, e, _, h⟩ => by rw [e, List.length_cons, L.len h]⟩

variable {P : Program} {w : World} {K : PySem.W.Frag} {mg : Str → Option Value} {base : Heap}
theorem cal_of {x : Str} {st : Stmt} {N ps : List Str} {k : Nat} {sp : Sp} (F : Df K mg x st) (S : FnScope N ps (defScope st)) (len : ∀ vs H Q E, sp vs H Q E → vs.length = ps.length)
    (hb : ∀ (kV doc pm : Value) (an : Option Addr) (cdv ct : Value) (us : List Value), us.length = ps.length → bindArgs (PySem.W.fnOf x x (defArgs st) (defBody st) (defScope st) .none kV doc pm an cdv ct) ⟨us, []⟩ = pure (ps.zip us))
    (hbody : ∀ (cdv : Value) (f : Addr) (A : Around) (outer : List PySem.Env) (s : Shared) (H : Hp) (vs : List V) (Q : VK) (E : XK), Room k (A.deeper (envOfC x (defScope st) s.heap.objs.size f cdv)) → sp vs H Q E →
      ∃ t, PSs (cxOf CX0 P w K mg base N x (defScope st) f cdv A outer s H E).nox (defBody st) t ∧ t { nx := fun _ H' => Q .non H', rt := Q } (start N vs) H) : Cal P w K mg base CX0 x (k + 1) ps sp := by
  obtain ⟨f, fd, F, g⟩ := F.ex
  exact ⟨f, fd, F.ok S len (fun cdv A outer s H vs Q E hr h => hbody cdv f A outer s H vs Q E hr h), g, F.kp, F.binds hb⟩

section
variable {H0 H H' : Hp} {σ : L2.St} {G G' G'' : Cells K} {α β γ S : Type}
/-- the cells hold over some base that holds all of H0 -/
def Have (H0 : Hp) (G : Cells K) (σ : L2.St) (H : Hp) : Prop := ∃ H1, Same H0 H1 ∧ Env H1 σ H G
def Sv (H0 : Hp) (G : Cells K) (t : TS) (D : Ends) : Prop := ∀ σ H, Have H0 G σ H → t D σ H
def Nx (H0 : Hp) (G : Cells K) (P : L2.St → Hp → Prop) : Prop := ∀ σ H, Have H0 G σ H → P σ H

/-! ### the start of a def -/
inductive Pw (H0 : Hp) : L2.St → Cells K → Prop
  | nil : Pw H0 [] []
  | skip {o : Option V} {σ : L2.St} {G : Cells K} : Pw H0 σ G → Pw H0 (o :: σ) (none :: G)
  | fz {β : Type} {r : Rp β} [Frz K r] {b : β} {v : V} {σ : L2.St} {G : Cells K} : r H0 v b → Pw H0 σ G → Pw H0 (some v :: σ) (fc r b :: G)
  | ro {β : Type} {r : Rp β} [Mono r] {b : β} {v : V} {σ : L2.St} {G : Cells K} : r H0 v b → Pw H0 σ G → Pw H0 (some v :: σ) (rc r b :: G)
theorem Pw.len (h : Pw H0 σ G) : σ.length = G.length := by
  induction h with
  | nil => rfl
  | skip _ ih => rw [List.length_cons, List.length_cons, ih]
  | fz _ _ ih => rw [List.length_cons, List.length_cons, ih]
  | ro _ _ ih => rw [List.length_cons, List.length_cons, ih]
theorem Pw.get (h : Pw H0 σ G) : ∀ {i : Nat} {c : Cell K}, G[i]? = some (some c) → ∃ v, σ[i]? = some (some v) ∧ c.ok H0 H0 v [] := by
  induction h with
  | nil => intro i c e; simp at e
  | skip _ ih =>
    intro i c e
    cases i with
    | zero => simp at e
    | succ i => simpa using ih (i := i) (c := c) (by simpa using e)
  | fz h _ ih =>
    intro i c e
    cases i with
    | zero =>
      simp at e
      subst e
      exact ⟨_, rfl, rfl, stb h⟩
    | succ i => simpa using ih (i := i) (c := c) (by simpa using e)
  | ro h _ ih =>
    intro i c e
    cases i with
    | zero =>
      simp at e
      subst e
      exact ⟨_, rfl, rfl, h⟩
    | succ i => simpa using ih (i := i) (c := c) (by simpa using e)
theorem Pw.env (p : Pw H0 σ G) : Env H0 σ H0 G := ⟨Same.refl H0, p.len, fun _ => [], fun _ _ h => (nomatch h), fun _ _ _ h => (nomatch h), fun i c h => p.get h⟩
theorem Sv.run {t : TS} {D : Ends} (s : Sv H0 G t D) (p : Pw H0 σ G) : t D σ H0 := s σ H0 ⟨H0, Same.refl H0, p.env⟩

/-! ### statements -/
variable {D : Ends} {t u tb : TS} {te ta : TE} {tt : TT} {r : Rp β} {q : Rp α} {R : Rs K β} {b : β} {a : α}
theorem Have.less (h : Have H0 G σ H) (s : Sub G G') : Have H0 G' σ H := let ⟨H1, e, E⟩ := h; ⟨H1, e, E.less s⟩
theorem Sv.less (s : Sub G G') (h : Sv H0 G' t D) : Sv H0 G t D := fun σ H g => h σ H (g.less s)
theorem Sv.from (e : G = G') (h : Sv H0 G' t D) : Sv H0 G t D := e ▸ h
theorem q_asg {i : Nat} {b' : β} (h : Nw R te G b) (eb : b = b') (k : Sv H0 (G.set i (some (.ow R b'))) u D) : Sv H0 G (tSeq (tAsg te (gName i)) u) D := fun σ H ⟨H1, e, E⟩ =>
  h H1 σ H E _ fun v H' as e' hn z => k _ _ ⟨H1, e, E.put e' hn (eb ▸ z)⟩
theorem q_set {i : Nat} {b' : β} (h : Ev r te G b) (eb : b = b') (k : Sv H0 (G.set i (fc r b')) u D) (F : Frz K r := by infer_instance) : Sv H0 G (tSeq (tAsg te (gName i)) u) D := q_asg h.nw eb k
theorem l_asg {i : Nat} {b' : β} (h : Nw R te G b) (eb : b = b') (k : Nx H0 (G.set i (some (.ow R b'))) D.nx) : Sv H0 G (tAsg te (gName i)) D := fun σ H ⟨H1, e, E⟩ =>
  h H1 σ H E _ fun v H' as e' hn z => k _ _ ⟨H1, e, E.put e' hn (eb ▸ z)⟩
theorem l_set {i : Nat} {b' : β} (h : Ev r te G b) (eb : b = b') (k : Nx H0 (G.set i (fc r b')) D.nx) (F : Frz K r := by infer_instance) : Sv H0 G (tAsg te (gName i)) D := l_asg h.nw eb k
theorem l_ret {b' : β} (k : ∀ v H', Same H0 H' → r H' v b' → D.rt v H') (h : Ev r te G b) (eb : b = b') : Sv H0 G (tRet te) D := fun σ H ⟨H1, e, E⟩ =>
  h H1 σ H E _ fun v H' e' z => k v H' ((e.trans E.old).trans e') (eb ▸ z)
theorem l_retN {b' : β} (k : ∀ v H' as, Same H0 H' → (∀ p, p ∈ as → H0 p = none) → R.rep H' v b' as → D.rt v H') (h : Nw R te G b) (eb : b = b') : Sv H0 G (tRet te) D := fun σ H ⟨H1, e, E⟩ =>
  h H1 σ H E _ fun v H' as e' hn z => k v H' as ((e.trans E.old).trans e') (fun p hp => (e.trans E.old).free (hn p hp)) (eb ▸ z)
/-- an owned list in a slot is handed back -/
theorem l_retO {i : Nat} {xs' : β} (k : ∀ v H' as, Same H0 H' → (∀ p, p ∈ as → H0 p = none) → R.rep H' v xs' as → D.rt v H') (hi : G[i]? = some (some (.ow R b))) (eb : b = xs') : Sv H0 G (tRet (tVar i)) D := fun σ H ⟨H1, e, E⟩ => by
  obtain ⟨own, h1, h2, h3⟩ := E.at_
  obtain ⟨v, hv, hk⟩ := h3 i _ hi
  exact ⟨v, hv, k v H (own i) (e.trans E.old) (fun p hp => e.free (h1 i p hp).1) (eb ▸ hk)⟩
theorem l_if {c : Bool} (h : EvT tt G c) (h1 : c = true → Sv H0 G t D) (h2 : c = false → Sv H0 G u D) : Sv H0 G (tIfS tt t u) D := fun σ H ⟨H1, e, E⟩ =>
  h H1 σ H E _ fun H' e' => by
    cases c with
    | true => exact iteT (h1 rfl σ H' ⟨H1, e, E.grow e'⟩)
    | false => exact iteF (h2 rfl σ H' ⟨H1, e, E.grow e'⟩)
theorem q_if {c : Bool} {v : TS} (h : EvT tt G c) (h1 : c = true → Sv H0 G t { D with nx := v D }) (h2 : c = false → Sv H0 G u { D with nx := v D }) : Sv H0 G (tSeq (tIfS tt t u) v) D := l_if h h1 h2
/-- the ways of t meet ahead of v -/
theorem cutK (G2 : Cells K) {v : TS} (f : Sv H0 G2 v D → Sv H0 G (tSeq t v) D) (k : Sv H0 G2 v D) : Sv H0 G (tSeq t v) D := f k
theorem l_next (k : Nx H0 G D.nx) : Sv H0 G tNext D := k
theorem q_next (k : Sv H0 G u D) : Sv H0 G tNext { D with nx := u D } := k
theorem q_seq (h : Sv H0 G t { D with nx := u D }) : Sv H0 G (tSeq t u) D := h
theorem l_drop (h : Ev r te G b) (k : Nx H0 G D.nx) : Sv H0 G (tDrop te) D := fun σ H ⟨H1, e, E⟩ => h H1 σ H E _ fun v H' e' _ => k σ H' ⟨H1, e, E.grow e'⟩
/-- the end of a loop's turn -/
theorem nx_have (s : Sub G G') : Nx H0 G (Have H0 G') := fun _ _ h => h.less s
theorem nx_eq (e : G = G') : Nx H0 G (Have H0 G') := fun _ _ h => e ▸ h

/-- xs.append(e) -/
theorem app_env {i : Nat} {r : Rp α} {xs : List α} {x : α} {H1 : Hp} {p : Addr} {vs : List V} {v : V} (E : Env H1 σ H G) (hi : G[i]? = some (some (.ow (nl K r) xs))) (hv : σ[i]? = some (some (.ref p))) (hp : H p = some (.lst vs)) (hxs : A2 (Stb K r H) vs xs) (hx : Stb K r H v x) :
    Env H1 σ (upd H p (.lst (vs ++ [v]))) (G.set i (some (.ow (nl K r) (xs ++ [x])))) := by
  have x0 : ExT K H (upd H p (.lst (vs ++ [v]))) := ext_upd hp fun z => z
  refine E.mut (as := [p]) (R := nl K r) (R' := nl K r) hi hv x0 (fun c o hc ho => ?_) (fun w bs hw ⟨p', vs', e1, e2, _, _⟩ => ?_) ⟨p, _, rfl, rfl, upd_same, A2.app (A2.one (hx.up x0)) (hxs.imp fun _ _ z => z.up x0)⟩
  · rw [upd_ne fun z => hc (by rw [z]; exact List.mem_singleton.mpr rfl)]
    exact ho
  · rw [hv] at hw
    cases hw
    cases e2
    exact e1
end
end Gt
/-! Gt3: loops and comprehensions over cells. -/
namespace Gt
open PySem PySem.Spec PyProof.Rows L2

section
variable {K : PySem.W.Frag} {H0 H1 H H' : Hp} {σ : L2.St} {G G' Gx : Cells K} {α β γ S β' : Type}

/-- the heap without some addresses -/
def cutH (H : Hp) (X : Addr → Prop) [DecidablePred X] : Hp := fun b => if X b then none else H b
open Classical in
/-- a base that holds all that no cell owns -/
theorem Env.rebase (E : Env H1 σ H G) (e : Same H H') : ∃ H2, Same H1 H2 ∧ Same H2 H' ∧ ExT K H' H2 ∧ Env H2 σ H' G ∧ ∀ b o, H b = none → H' b = some o → H2 b = some o := by
  have E' := E.grow e
  obtain ⟨own, h1, h2, h3⟩ := E'.at_
  obtain ⟨own0, g1, g2, g3⟩ := E.at_
  let X : Addr → Prop := fun b => (∃ i, b ∈ own0 i)
  have hX : ∀ b, H1 b ≠ none → ¬ X b := fun b hb ⟨i, hi⟩ => hb (g1 i b hi).1
  have key : ∀ b, cutH H' X b = if X b then none else H' b := fun b => rfl
  have s12 : Same H1 (cutH H' X) := fun b o ho => by
    rw [key, if_neg (hX b (by rw [ho]; exact fun z => nomatch z))]
    exact E'.old b o ho
  have s2 : Same (cutH H' X) H' := fun b o ho => by
    rw [key] at ho
    split at ho
    · cases ho
    · exact ho
  refine ⟨cutH H' X, s12, s2, fun a xs q => ?_, ⟨s2, E'.len, own0, fun i p hp => ?_, g2, fun i c hc => ?_⟩, fun b o hn ho => ?_⟩
  · have nX : ∀ o, H' a = some o → isTup o → ¬ X a := fun o ho t ⟨i, hi⟩ => by
      obtain ⟨u, hu, nu⟩ := (g1 i a hi).2
      have := e _ _ hu
      rw [ho] at this
      cases this
      exact nu t
    rcases q with (q | ⟨o', q⟩) | q
    · exact .inl (.inl (by rw [key, if_neg (nX _ q trivial)]; exact q))
    · exact .inl (.inr ⟨o', by rw [key, if_neg (nX _ q trivial)]; exact q⟩)
    · exact .inr q
  · obtain ⟨o, ho, nt⟩ := (g1 i p hp).2
    exact ⟨by rw [key, if_pos ⟨i, hp⟩], o, e _ _ ho, nt⟩
  · obtain ⟨v, hv, hk⟩ := g3 i c hc
    refine ⟨v, hv, ?_⟩
    cases c with
    | ow R b => exact R.stay hk (ext_same e) fun p _ o ho => e _ _ ho
    | ro r m b => exact ⟨hk.1, m.up s12 hk.2⟩
  · rw [key, if_neg fun ⟨i, hi⟩ => by
      obtain ⟨u, hu, _⟩ := (g1 i b hi).2
      rw [hn] at hu
      cases hu]
    exact ho
/-- .. and one list more -/
theorem Env.freeze {i : Nat} {r : Rp α} {xs : List α} (E : Env H1 σ H G) (hi : G[i]? = some (some (.ow (nl K r) xs))) (M : Mono r) : ∃ H2, Same H1 H2 ∧ ExT K H H2 ∧ Env H2 σ H (G.set i (rc (rL r) xs)) := by
  classical
  obtain ⟨own, h1, h2, h3⟩ := E.at_
  let X : Addr → Prop := fun b => (∃ j, j ≠ i ∧ b ∈ own j)
  have hX : ∀ b, H1 b ≠ none → ¬ X b := fun b hb ⟨j, _, hj⟩ => hb (h1 j b hj).1
  have key : ∀ b, cutH H X b = if X b then none else H b := fun b => rfl
  have s12 : Same H1 (cutH H X) := fun b o ho => by
    rw [key, if_neg (hX b (by rw [ho]; exact fun z => nomatch z))]
    exact E.old b o ho
  have s2 : Same (cutH H X) H := fun b o ho => by
    rw [key] at ho
    split at ho
    · cases ho
    · exact ho
  have xt : ExT K H (cutH H X) := fun a xs q => by
    have nX : ∀ o, H a = some o → isTup o → ¬ X a := fun o ho t ⟨j, _, hj⟩ => by
      obtain ⟨u, hu, nu⟩ := (h1 j a hj).2
      rw [ho] at hu
      cases hu
      exact nu t
    rcases q with (q | ⟨o', q⟩) | q
    · exact .inl (.inl (by rw [key, if_neg (nX _ q trivial)]; exact q))
    · exact .inl (.inr ⟨o', by rw [key, if_neg (nX _ q trivial)]; exact q⟩)
    · exact .inr q
  refine ⟨cutH H X, s12, xt, s2, by rw [List.length_set]; exact E.len, fun j => if j = i then [] else own j, fun j p hp => ?_, fun j k p hj hk => ?_, fun j c hc => ?_⟩
  · by_cases hj : j = i
    · simp only [hj, if_true] at hp
      cases hp
    · simp only [hj, if_false] at hp
      exact ⟨by rw [key, if_pos ⟨j, hj, hp⟩], (h1 j p hp).2⟩
  · by_cases hji : j = i
    · simp only [hji, if_true] at hj
      cases hj
    · by_cases hki : k = i
      · simp only [hki, if_true] at hk
        cases hk
      · simp only [hji, hki, if_false] at hj hk
        exact h2 j k p hj hk
  · by_cases hj : j = i
    · subst hj
      have hl : j < G.length := (List.getElem?_eq_some_iff.mp hi).1
      rw [List.getElem?_set_self hl] at hc
      cases hc
      obtain ⟨v, hv, p, vs, e1, e2, e3, e4⟩ := h3 j _ hi
      refine ⟨v, hv, by simp, p, vs, e2, ?_, e4.imp fun _ _ z => (z.up xt).now⟩
      rw [key, if_neg fun ⟨k, hk, hp⟩ => hk (h2 k j p hp (by rw [e1]; exact List.mem_singleton.mpr rfl))]
      exact e3
    · rw [List.getElem?_set_ne (Ne.symm hj)] at hc
      obtain ⟨v, hv, hk⟩ := h3 j c hc
      refine ⟨v, hv, ?_⟩
      simp only [hj, if_false]
      cases c with
      | ow R b => exact hk
      | ro r m b => exact ⟨hk.1, m.up s12 hk.2⟩

/-! ### what is walked -/
structure Wj (J : It) (r : Rp α) (H1 : Hp) (xs : List α) : Prop where
  go : ∀ (H : Hp) (i : Nat) (x : α), Same H1 H → xs[i]? = some x → J.go i H ∧ ∀ v H', J.yld i H v H' → Same H H' ∧ r H' v x
  stop : ∀ H : Hp, Same H1 H → J.stop xs.length H
def Wk (wi : TI) (r : Rp α) (G G' : Cells K) (xs : List α) : Prop := ∀ H1 σ H, Env H1 σ H G → ∀ R : It → Hp → Prop, (∀ J H2 H', Same H1 H2 → Same H H' → Env H2 σ H' G' → Wj J r H2 xs → R J H') → wi σ H R
theorem wj_list {r : Rp α} [M : Mono r] {a : Addr} {vs : List V} {xs : List α} (h : H1 a = some (.lst vs)) (q : A2 (r H1) vs xs) : Wj (Itl K a) r H1 xs where
  go := fun H i x e hx => by
    obtain ⟨v, hv, z⟩ := q.get' hx
    refine ⟨⟨vs, v, SqL.of (e _ _ h), hv⟩, fun w H' ⟨e1, e2⟩ => ?_⟩
    subst e1
    have := e2 vs (SqL.of (e _ _ h))
    rw [hv] at this
    cases this
    exact ⟨Same.refl _, M.up e z⟩
  stop := fun H e => ⟨vs, SqL.of (e _ _ h), Nat.le_of_eq q.len⟩
theorem wj_tup {r : Rp α} [M : Mono r] {a : Addr} {vs : List V} {xs : List α} (h : SqT K H1 a vs) (q : A2 (r H1) vs xs) : Wj (Itt K a) r H1 xs where
  go := fun H i x e hx => by
    obtain ⟨v, hv, z⟩ := q.get' hx
    refine ⟨⟨vs, v, ext_same e _ _ h, hv⟩, fun w H' ⟨e1, e2⟩ => ?_⟩
    subst e1
    have := e2 vs (ext_same e _ _ h)
    rw [hv] at this
    cases this
    exact ⟨Same.refl _, M.up e z⟩
  stop := fun H e => ⟨vs, ext_same e _ _ h, Nat.le_of_eq q.len⟩
theorem wj_rng {lo : Int} {n : Nat} : Wj (Itr lo n) rI H1 ((List.range n).map fun (i : Nat) => lo + (i : Int)) where
  go := fun H i x e hx => by
    rw [List.getElem?_map] at hx
    by_cases hi : i < n
    · rw [List.getElem?_range hi] at hx
      cases hx
      exact ⟨hi, fun v H' ⟨e1, e2⟩ => by subst e1; exact ⟨Same.refl _, e2⟩⟩
    · rw [List.getElem?_eq_none (by rw [List.length_range]; omega)] at hx
      cases hx
  stop := fun H e => by
    show n ≤ _
    rw [List.length_map, List.length_range]
    exact Nat.le_refl _
theorem wj_str {z : Str} (hz : okS z) : Wj (Its z) rS H1 (z.cps.toList.map fun c => (⟨#[c]⟩ : Str)) where
  go := fun H i x e hx => by
    rw [List.getElem?_map] at hx
    cases q : z.cps.toList[i]? with
    | none => rw [q] at hx; cases hx
    | some c =>
      rw [q] at hx
      cases hx
      have q' : z.cps[i]? = some c := by simpa using q
      have hi : i < z.cps.size := (Array.getElem?_eq_some_iff.mp q').1
      refine ⟨hi, fun v H' ⟨e1, c', e2, e3⟩ => ?_⟩
      subst e1
      rw [q'] at e2
      cases e2
      exact ⟨Same.refl _, e3, okS_chr hz (List.mem_of_getElem? q)⟩
  stop := fun H e => by
    show z.cps.size ≤ _
    simp
/-- a list that nothing here owns | a list that was there | an owned list: read only from now on -/
theorem wk_new {r : Rp α} [M : Mono r] {tl : TE} {xs : List α} (h : Nw (nl K r) tl G xs) : Wk (iList K tl) r G G xs := fun H1 σ H E R k =>
  h H1 σ H E _ fun v H' as e hn ⟨p, vs, e1, e2, e3, e4⟩ => by
    obtain ⟨H2, s1, s2, x, E2, ho⟩ := E.rebase e
    have hp : H2 p = some (.lst vs) := ho p _ (hn p (by rw [e1]; exact List.mem_singleton.mpr rfl)) e3
    exact ⟨p, e2, ⟨vs, SqL.of e3⟩, k _ H2 H' s1 e E2 (wj_list hp (e4.imp fun _ _ z => (z.up x).now))⟩
theorem wk_ro {r : Rp α} {M : Mono (rL r)} [N : Mono r] {i : Nat} {xs : List α} (h : G[i]? = some (some (.ro (rL r) M xs)) := by rfl) : Wk (iList K (tVar i)) r G G xs := fun H1 σ H E R k => by
  obtain ⟨own, _, _, h3⟩ := E.at_
  obtain ⟨v, hv, _, p, vs, e2, e3, e4⟩ := h3 i _ h
  exact ⟨v, hv, p, e2, ⟨vs, SqL.of (E.old _ _ e3)⟩, k _ H1 H (Same.refl _) (Same.refl _) E (wj_list e3 e4)⟩
theorem wk_own {r : Rp α} [M : Mono r] {i : Nat} {xs : List α} (h : G[i]? = some (some (.ow (nl K r) xs)) := by rfl) : Wk (iList K (tVar i)) r G (G.set i (rc (rL r) xs)) xs := fun H1 σ H E R k => by
  obtain ⟨H2, s1, x, E2⟩ := E.freeze h M
  obtain ⟨own, _, _, h3⟩ := E2.at_
  have hl : i < G.length := (List.getElem?_eq_some_iff.mp h).1
  obtain ⟨v, hv, _, p, vs, e2, e3, e4⟩ := h3 i _ (List.getElem?_set_self hl)
  exact ⟨v, hv, p, e2, ⟨vs, SqL.of (E2.old _ _ e3)⟩, k _ H2 H s1 (Same.refl _) E2 (wj_list e3 e4)⟩
/-- a tuple -/
theorem wk_tup {r : Rp α} [F : Frz K r] [M : Mono r] {tl : TE} {xs : List α} (h : Ev (rT K r) tl G xs) : Wk (iTup K tl) r G G xs := fun H1 σ H E R k =>
  h H1 σ H E _ fun v H' e ⟨p, vs, e2, e3, e4⟩ => by
    obtain ⟨H2, s1, s2, x, E2, ho⟩ := E.rebase e
    exact ⟨p, e2, ⟨vs, e3⟩, k _ H2 H' s1 e E2 (wj_tup (x _ _ e3) (e4.imp fun _ _ z => F.up x z))⟩
/-- 0, 1, .. below n -/
def ups (n : Nat) : List Int := (List.range n).map fun (i : Nat) => (i : Int)
theorem ups_len (n : Nat) : (ups n).length = n := by unfold ups; rw [List.length_map, List.length_range]
theorem wk_rng1 {ta : TE} {n : Int} (h : Ev rI ta G n) (hn : -100000 ≤ n ∧ n ≤ 100000) : Wk (iRng1 (tCons ta tNil)) rI G G (ups n.toNat) := fun H1 σ H E R k =>
  h H1 σ H E _ fun v H' e z => ⟨n, by rw [show v = .int n from z], by omega, by omega, k (Itr 0 n.toNat) H1 H' (Same.refl _) e (E.grow e) (by
      have w := wj_rng (H1 := H1) (lo := 0) (n := n.toNat)
      have e0 : ((List.range n.toNat).map fun (i : Nat) => (0 : Int) + (i : Int)) = ups n.toNat := by
        unfold ups
        exact List.map_congr_left fun i _ => Int.zero_add _
      rw [e0] at w
      exact w)⟩
def upsFrom (lo : Int) (n : Nat) : List Int := (List.range n).map fun (i : Nat) => lo + (i : Int)
theorem wk_rng2 {ta tb : TE} {m n : Int} (h : Ev rI ta G m) (h' : Ev rI tb G n) (hn : -100000 ≤ m ∧ m ≤ 100000 ∧ -100000 ≤ n ∧ n ≤ 100000) : Wk (iRng2 (tCons ta (tCons tb tNil))) rI G G (upsFrom m (n - m).toNat) := fun H1 σ H E R k =>
  h H1 σ H E _ fun v Ha ea z => h' H1 σ Ha (E.grow ea) _ fun v' H' e z' => ⟨m, n, by rw [show v = .int m from z, show v' = .int n from z'], by omega, k (Itr m (n - m).toNat) H1 H' (Same.refl _) (ea.trans e) (E.grow (ea.trans e)) wj_rng⟩
theorem wk_str {ta : TE} {z : Str} (h : Ev rS ta G z) : Wk (iStr ta) rS G G (z.cps.toList.map fun c => (⟨#[c]⟩ : Str)) := fun H1 σ H E R k =>
  h H1 σ H E _ fun v H' e z' => ⟨z, z'.1, k (Its z) H1 H' (Same.refl _) e (E.grow e) (wj_str z'.2)⟩

/-! ### the target of a loop -/
def Tg (g : TG) (r : Rp α) (x : α) (G G' : Cells K) : Prop := ∀ H1 σ H v, Env H1 σ H G → r H v x → ∀ P : L2.St → Hp → Prop, (∀ σ', Env H1 σ' H G' → P σ' H) → g v σ H P
theorem tg_name {r : Rp α} [F : Frz K r] {x : α} {i : Nat} : Tg (gName i) r x G (G.set i (fc r x)) := fun H1 σ H v E h P k =>
  k _ (E.put (R := fz K r) (as := []) (Same.refl H) (fun _ z => nomatch z) ⟨rfl, stb h⟩)
theorem tg_pair {r : Rp α} {q : Rp β} [F : Frz K r] [F' : Frz K q] {p : α × β} {i j : Nat} : Tg (gTup K 2 (gCons (gName i) (gCons (gName j) gNil))) (rP K r q) p G ((G.set i (fc r p.1)).set j (fc q p.2)) := fun H1 σ H v E ⟨a, x, y, e, h, h1, h2⟩ P k =>
  ⟨a, [x, y], e, h, rfl, x, [y], rfl, y, [], rfl, rfl, k _ ((E.put (R := fz K r) (as := []) (Same.refl H) (fun _ z => nomatch z) ⟨rfl, stb h1⟩).put (R := fz K q) (as := []) (Same.refl H) (fun _ z => nomatch z) ⟨rfl, stb h2⟩)⟩

/-! ### for -/
variable {D : Ends} {t u tb : TS} {wi : TI} {g : TG} {te : TE} {tt : TT} {r : Rp α} {q : Rp β}
/-- I: what holds of the part walked so far and the state; st: the cells of a state -/
theorem l_forI {xs : List α} (st : S → Cells K) (I : List α → S → Prop) (s0 : S) (hw : Wk wi r G G' xs) (h0 : Sub G' (st s0)) (i0 : I [] s0)
    (body : ∀ H0', Same H0 H0' → ∀ pre x post s, xs = pre ++ x :: post → I pre s → ∃ Gx, Tg g r x (st s) Gx ∧
      Sv H0' Gx tb { D with nx := fun σ H => ∃ s', I (pre ++ [x]) s' ∧ Have H0' (st s') σ H, ct := fun σ H => ∃ s', I (pre ++ [x]) s' ∧ Have H0' (st s') σ H, bk := D.nx })
    (after : ∀ s, I xs s → Nx H0 (st s) D.nx) : Sv H0 G (tFor wi g tb) D := fun σ H ⟨H1, e1, E⟩ => by
  refine hw H1 σ H E _ fun J H2 H' s1 sH E2 W => ?_
  refine ⟨fun i m σ' Hh => i + m = xs.length ∧ ∃ s, I (xs.take i) s ∧ Have H2 (st s) σ' Hh, ⟨xs.length, Nat.zero_add _, s0, i0, H2, Same.refl _, E2.less h0⟩, ?_⟩
  rintro i m σ' Hh ⟨hi, s, hI, H3, s3, E3⟩
  by_cases hl : i < xs.length
  · have hx : xs[i]? = some xs[i] := List.getElem?_eq_getElem hl
    have hs : Same H2 Hh := s3.trans E3.old
    obtain ⟨g1, g2⟩ := W.go Hh i _ hs hx
    have etk : xs.take i ++ [xs[i]] = xs.take (i + 1) := by rw [List.take_add_one, hx]; rfl
    refine .inr ⟨g1, fun σ2 Hh2 => ∃ s', I (xs.take i ++ [xs[i]]) s' ∧ Have H2 (st s') σ2 Hh2, fun σ2 Hh2 ⟨s', hI', hv⟩ => ⟨m - 1, by omega, by omega, s', by rw [← etk]; exact hI', hv⟩, fun v Hh2 hy => ?_⟩
    · obtain ⟨e2, z⟩ := g2 v Hh2 hy
      have hsp : xs = xs.take i ++ xs[i] :: xs.drop (i + 1) := by
        rw [List.getElem_cons_drop, List.take_append_drop]
      obtain ⟨Gx, ht, hb⟩ := body H2 (e1.trans s1) (xs.take i) xs[i] (xs.drop (i + 1)) s hsp hI
      exact ht H3 σ' Hh2 v (E3.grow e2) z _ fun σ2 E4 => hb σ2 Hh2 ⟨H3, s3, E4⟩
  · have hi' : i = xs.length := by omega
    subst hi'
    rw [List.take_length] at hI
    exact .inl ⟨W.stop Hh (s3.trans E3.old), after s hI σ' Hh ⟨H3, (e1.trans s1).trans s3, E3⟩⟩
/-- a loop that folds -/
theorem l_for {xs : List α} (st : S → Cells K) (f : S → α → S) (s0 : S) (hw : Wk wi r G G' xs) (h0 : Sub G' (st s0))
    (body : ∀ H0', Same H0 H0' → ∀ pre x post, xs = pre ++ x :: post → ∃ Gx, Tg g r x (st (pre.foldl f s0)) Gx ∧
      Sv H0' Gx tb { D with nx := Have H0' (st (f (pre.foldl f s0) x)), ct := Have H0' (st (f (pre.foldl f s0) x)), bk := D.nx })
    (after : Nx H0 (st (xs.foldl f s0)) D.nx) : Sv H0 G (tFor wi g tb) D :=
  l_forI st (fun pre s => s = pre.foldl f s0) s0 hw h0 rfl (fun H0' e pre x post s hx hs => by
    subst hs
    obtain ⟨Gx, ht, hb⟩ := body H0' e pre x post hx
    have key : (fun σ H => ∃ s', s' = (pre ++ [x]).foldl f s0 ∧ Have H0' (st s') σ H) = Have H0' (st (f (pre.foldl f s0) x)) := by
      funext σ H
      have e0 : (pre ++ [x]).foldl f s0 = f (pre.foldl f s0) x := by rw [List.foldl_append]; rfl
      refine propext ⟨fun ⟨s', hs', h⟩ => ?_, fun h => ⟨_, e0.symm, h⟩⟩
      rw [hs', e0] at h
      exact h
    exact ⟨Gx, ht, by rw [key]; exact hb⟩) fun s hs => by subst hs; exact after

theorem q_for {xs : List α} (st : S → Cells K) (f : S → α → S) (s0 : S) (hw : Wk wi r G G' xs) (h0 : Sub G' (st s0))
    (body : ∀ H0', Same H0 H0' → ∀ pre x post, xs = pre ++ x :: post → ∃ Gx, Tg g r x (st (pre.foldl f s0)) Gx ∧
      Sv H0' Gx tb { nx := Have H0' (st (f (pre.foldl f s0) x)), rt := D.rt, bk := u D, ct := Have H0' (st (f (pre.foldl f s0) x)) })
    (after : Sv H0 (st (xs.foldl f s0)) u D) : Sv H0 G (tSeq (tFor wi g tb) u) D := l_for (D := { D with nx := u D }) st f s0 hw h0 body after
theorem q_forI {xs : List α} (st : S → Cells K) (I : List α → S → Prop) (s0 : S) (hw : Wk wi r G G' xs) (h0 : Sub G' (st s0)) (i0 : I [] s0)
    (body : ∀ H0', Same H0 H0' → ∀ pre x post s, xs = pre ++ x :: post → I pre s → ∃ Gx, Tg g r x (st s) Gx ∧
      Sv H0' Gx tb { nx := fun σ H => ∃ s', I (pre ++ [x]) s' ∧ Have H0' (st s') σ H, rt := D.rt, bk := u D, ct := fun σ H => ∃ s', I (pre ++ [x]) s' ∧ Have H0' (st s') σ H })
    (after : ∀ s, I xs s → Sv H0 (st s) u D) : Sv H0 G (tSeq (tFor wi g tb) u) D := l_forI (D := { D with nx := u D }) st I s0 hw h0 i0 body after

/-- a loop that leaves by return where p fails -/
theorem q_search {xs : List α} (st : Cells K) (p : α → Bool) (hw : Wk wi r G G' xs) (h0 : Sub G' st)
    (body : ∀ H0', Same H0 H0' → ∀ pre x post, xs = pre ++ x :: post → (∀ y ∈ pre, p y = true) → ∃ Gx, Tg g r x st Gx ∧
      Sv H0' Gx tb { nx := fun σ H => p x = true ∧ Have H0' st σ H, rt := D.rt, bk := u D, ct := fun σ H => p x = true ∧ Have H0' st σ H })
    (after : (∀ x ∈ xs, p x = true) → Sv H0 st u D) : Sv H0 G (tSeq (tFor wi g tb) u) D :=
  q_forI (fun _ => st) (fun pre (_ : Unit) => ∀ y ∈ pre, p y = true) () hw h0 (fun _ h => nomatch h) (fun H0' e pre x post _ hx hI => by
    obtain ⟨Gx, ht, hb⟩ := body H0' e pre x post hx hI
    have key : (fun (σ : L2.St) (H : Hp) => ∃ s' : Unit, (∀ y ∈ pre ++ [x], p y = true) ∧ Have H0' st σ H) = (fun σ H => p x = true ∧ Have H0' st σ H) := by
      funext σ H
      refine propext ⟨fun ⟨_, h1, h2⟩ => ⟨h1 x (by simp), h2⟩, fun ⟨h1, h2⟩ => ⟨(), fun y hy => ?_, h2⟩⟩
      rcases List.mem_append.mp hy with q | q
      · exact hI y q
      · cases List.mem_singleton.mp q; exact h1
    exact ⟨Gx, ht, by rw [key]; exact hb⟩) fun _ h => after h

/-! ### while -/
theorem l_while {tc : TT} (st : S → Cells K) (I : S → Prop) (m : S → Nat) (s0 : S) (h0 : Sub G (st s0)) (i0 : I s0)
    (turn : ∀ H0', Same H0 H0' → ∀ s, I s → ∃ c, EvT tc (st s) c ∧ (c = true → Sv H0' (st s) tb { D with nx := fun σ H => ∃ s', I s' ∧ m s' < m s ∧ Have H0' (st s') σ H, ct := fun σ H => ∃ s', I s' ∧ m s' < m s ∧ Have H0' (st s') σ H, bk := D.nx }))
    (after : ∀ s, I s → EvT tc (st s) false → Nx H0 (st s) D.nx) : Sv H0 G (tWhile tc tb) D := fun σ H ⟨H1, e1, E⟩ => by
  refine ⟨fun k σ' Hh => ∃ s, I s ∧ m s = k ∧ Have H0 (st s) σ' Hh, ⟨m s0, s0, i0, rfl, H1, e1, E.less h0⟩, ?_⟩
  rintro k σ' Hh ⟨s, hI, hm, H2, s2, E2⟩
  obtain ⟨c, hc, hb⟩ := turn H0 (Same.refl _) s hI
  refine hc H2 σ' Hh E2 _ fun H' e' => ?_
  cases c with
  | true =>
    refine iteT ⟨_, fun σ2 Hh2 ⟨s', hI', hlt, hv⟩ => ⟨m s', by omega, s', hI', rfl, hv⟩, hb rfl σ' H' ⟨H2, s2, E2.grow e'⟩⟩
  | false => exact iteF (after s hI hc σ' H' ⟨H2, s2, E2.grow e'⟩)

theorem q_while {tc : TT} (st : S → Cells K) (I : S → Prop) (m : S → Nat) (s0 : S) (h0 : Sub G (st s0)) (i0 : I s0)
    (turn : ∀ H0', Same H0 H0' → ∀ s, I s → ∃ c, EvT tc (st s) c ∧ (c = true → Sv H0' (st s) tb { nx := fun σ H => ∃ s', I s' ∧ m s' < m s ∧ Have H0' (st s') σ H, rt := D.rt, bk := u D, ct := fun σ H => ∃ s', I s' ∧ m s' < m s ∧ Have H0' (st s') σ H }))
    (after : ∀ s, I s → EvT tc (st s) false → Sv H0 (st s) u D) : Sv H0 G (tSeq (tWhile tc tb) u) D := l_while (D := { D with nx := u D }) st I m s0 h0 i0 turn after

/-! ### comprehensions -/
def wipeG (G : Cells K) : List Nat → Cells K
  | [] => G
  | v :: vs => (wipeG G vs).set v none
theorem wipeG_get {i : Nat} {c : Cell K} : ∀ {vs : List Nat}, (wipeG G vs)[i]? = some (some c) → G[i]? = some (some c) ∧ i ∉ vs
  | [], h => ⟨h, by simp⟩
  | v :: vs, h => by
    unfold wipeG at h
    by_cases hi : v = i
    · subst hi
      by_cases hv : v < (wipeG G vs).length
      · rw [List.getElem?_set_self hv] at h; cases h
      · rw [List.getElem?_eq_none (by simpa using hv)] at h; cases h
    · rw [List.getElem?_set_ne hi] at h
      obtain ⟨h1, h2⟩ := wipeG_get h
      exact ⟨h1, by simp only [List.mem_cons, not_or]; exact ⟨fun e => hi e.symm, h2⟩⟩
theorem wipeG_len : ∀ vs : List Nat, (wipeG G vs).length = G.length
  | [] => rfl
  | v :: vs => by unfold wipeG; rw [List.length_set, wipeG_len vs]
theorem wipe_out' {i : Nat} : ∀ {vs : List Nat}, i ∉ vs → (wipe σ vs)[i]? = σ[i]?
  | [], _ => rfl
  | v :: vs, h => by
    have h1 : v ≠ i := fun e => h (by rw [e]; exact List.mem_cons_self)
    unfold wipe
    rw [List.getElem?_set_ne h1]
    exact wipe_out' fun z => h (List.mem_cons_of_mem _ z)
theorem wipe_in {i : Nat} : ∀ {vs : List Nat}, i ∈ vs → i < σ.length → (wipe σ vs)[i]? = some none
  | [], h, _ => by cases h
  | v :: vs, h, hl => by
    unfold wipe
    by_cases hv : v = i
    · subst hv
      rw [List.getElem?_set_self (by rw [wipe_length]; exact hl)]
    · rw [List.getElem?_set_ne hv]
      rcases List.mem_cons.mp h with e | e
      · exact absurd e.symm hv
      · exact wipe_in e hl
theorem wipe_set {i : Nat} {v : Option V} {vs : List Nat} (h : i ∈ vs) : wipe ((wipe σ vs).set i v) vs = wipe σ vs := by
  apply List.ext_getElem?
  intro j
  by_cases hj : j ∈ vs
  · by_cases hl : j < σ.length
    · rw [wipe_in hj hl, wipe_in hj (by rw [List.length_set, wipe_length]; exact hl)]
    · rw [List.getElem?_eq_none (by rw [wipe_length, List.length_set, wipe_length]; omega), List.getElem?_eq_none (by rw [wipe_length]; omega)]
  · rw [wipe_out' hj, List.getElem?_set_ne fun e => hj (by rw [← e]; exact h)]
theorem Env.wipe (E : Env H1 σ H G) (vs : List Nat) : Env H1 (L2.wipe σ vs) H (wipeG G vs) := by
  obtain ⟨own, h1, h2, h3⟩ := E.at_
  refine ⟨E.old, by rw [wipe_length, wipeG_len]; exact E.len, own, h1, h2, fun i c hc => ?_⟩
  obtain ⟨a, b⟩ := wipeG_get hc
  obtain ⟨v, hv, hk⟩ := h3 i c a
  exact ⟨v, by rw [wipe_out' b]; exact hv, hk⟩
/-- the target of a comprehension -/
def Tb (g : TG) (r : Rp α) (x : α) (vs : List Nat) (G G' : Cells K) : Prop := ∀ H1 σ σ0 H v, σ = wipe σ0 vs → Env H1 σ H G → r H v x → ∀ P : L2.St → Hp → Prop, (∀ σ', Env H1 σ' H G' → wipe σ' vs = wipe σ0 vs → P σ' H) → g v σ H P
theorem tb_name {r : Rp α} [F : Frz K r] {x : α} {i : Nat} {vs : List Nat} (hi : i ∈ vs := by decide) : Tb (gName i) r x vs G (G.set i (fc r x)) := fun H1 σ σ0 H v e E h P k => by
  subst e
  exact k _ (E.put (R := fz K r) (as := []) (Same.refl H) (fun _ z => nomatch z) ⟨rfl, stb h⟩) (wipe_set hi)
theorem wipe_set2 {i : Nat} {v : Option V} {vs : List Nat} (h : i ∈ vs) : wipe (σ.set i v) vs = wipe σ vs := by
  apply List.ext_getElem?
  intro j
  by_cases hj : j ∈ vs
  · by_cases hl : j < σ.length
    · rw [wipe_in hj hl, wipe_in hj (by rw [List.length_set]; exact hl)]
    · rw [List.getElem?_eq_none (by rw [wipe_length, List.length_set]; omega), List.getElem?_eq_none (by rw [wipe_length]; omega)]
  · rw [wipe_out' hj, List.getElem?_set_ne (fun e => hj (by rw [← e]; exact h)), wipe_out' hj]
theorem tb_pair {r : Rp α} {q : Rp β} [F : Frz K r] [F' : Frz K q] {p : α × β} {i j : Nat} {vs : List Nat} (hi : i ∈ vs := by decide) (hj : j ∈ vs := by decide) : Tb (gTup K 2 (gCons (gName i) (gCons (gName j) gNil))) (rP K r q) p vs G ((G.set i (fc r p.1)).set j (fc q p.2)) := fun H1 σ σ0 H v e0 E ⟨a, x, y, e, h, h1, h2⟩ P k => by
  subst e0
  exact ⟨a, [x, y], e, h, rfl, x, [y], rfl, y, [], rfl, rfl, k _ ((E.put (R := fz K r) (as := []) (Same.refl H) (fun _ z => nomatch z) ⟨rfl, stb h1⟩).put (R := fz K q) (as := []) (Same.refl H) (fun _ z => nomatch z) ⟨rfl, stb h2⟩) (by rw [wipe_set2 hj, wipe_set hi])⟩
theorem getE_last {X : Type _} {l : List X} {x : X} : (l ++ [x])[l.length]? = some x := by simp
theorem getE_old {X : Type _} {l : List X} {x y : X} {i : Nat} (h : l[i]? = some y) : (l ++ [x])[i]? = some y := by
  rw [List.getElem?_append_left (List.getElem?_eq_some_iff.mp h).1]
  exact h
theorem Env.pad (E : Env H1 σ H G) : Env H1 (σ ++ [none]) H (G ++ [none]) := by
  obtain ⟨own, g1, g2, g3⟩ := E.at_
  refine ⟨E.old, by rw [List.length_append, List.length_append, E.len]; rfl, own, g1, g2, fun i c hc => ?_⟩
  by_cases hi : i < G.length
  · rw [List.getElem?_append_left hi] at hc
    obtain ⟨v, hv, hk⟩ := g3 i c hc
    exact ⟨v, getE_old hv, hk⟩
  · rw [List.getElem?_append_right (by omega)] at hc
    cases h : i - G.length with
    | zero => rw [h] at hc; simp at hc
    | succ n => rw [h] at hc; simp at hc
theorem Env.trunc {x : Option V} {c : Option (Cell K)} (E : Env H1 (σ ++ [x]) H (G ++ [c])) : Env H1 σ H G := by
  obtain ⟨own, g1, g2, g3⟩ := E.at_
  have hl : σ.length = G.length := by
    have := E.len
    rw [List.length_append, List.length_append] at this
    simpa using this
  refine ⟨E.old, hl, own, g1, g2, fun i c hc => ?_⟩
  obtain ⟨v, hv, hk⟩ := g3 i c (getE_old hc)
  have hi : i < σ.length := by rw [hl]; exact (List.getElem?_eq_some_iff.mp hc).1
  rw [List.getElem?_append_left hi] at hv
  exact ⟨v, hv, hk⟩
theorem set_last {X : Type _} {l : List X} {x y : X} : (l ++ [x]).set l.length y = l ++ [y] := by simp
theorem Env.push {D : Addr} {q : Rp β} (E : Env H1 σ H G) (hD : H D = none) : Env H1 (σ ++ [some (.ref D)]) (upd H D (.lst [])) (G ++ [some (.ow (nl K q) [])]) := by
  have e : Same H (upd H D (.lst [])) := fun b o hb => by rw [upd_ne (ne_of_none hb hD)]; exact hb
  have E2 := E.pad.put (i := G.length) (v := .ref D) (R := nl K q) (b := []) (as := [D]) e (fun p hp => by rw [List.mem_singleton.mp hp]; exact hD) ⟨D, [], rfl, rfl, upd_same, .nil⟩
  have e1 : (σ ++ [none]).set G.length (some (V.ref D)) = σ ++ [some (.ref D)] := by rw [← E.len]; exact set_last
  rw [e1, set_last] at E2
  exact E2
theorem nw_lc {vs : List Nat} {f : β' → γ} {p : β' → Bool} {q : Rp γ} [F : Frz K q] {r : Rp β'} {ys : List β'} (hw : Wk wi r G G' ys) (hlen : ys.length ≤ 100000)
    (turn : ∀ pre x post, ys = pre ++ x :: post → ∃ Gx, Tb g r x vs (wipeG G' vs) Gx ∧ EvT tt Gx (p x) ∧ (p x = true → Ev q te Gx (f x))) :
    Nw (nl K q) (tLc wi g tt te vs) G ((ys.filter p).map f) := fun H1 σ H E Q k => by
  refine hw H1 σ H E _ fun J H2 Hs s1 sH E2 W => ?_
  intro D hD
  have E3 := (E2.wipe vs).push (q := q) hD
  have Mk : ∀ h, Env H2 (L2.wipe σ vs ++ [some (.ref D)]) h (wipeG G' vs ++ [some (.ow (nl K q) ((ys.filter p).map f))]) → Same Hs h → Q (.ref D) h := fun h Eh sh => by
    obtain ⟨own, g1, g2, g3⟩ := Eh.at_
    have hlg : (L2.wipe σ vs).length = (wipeG G' vs).length := (E2.wipe vs).len
    obtain ⟨v, hv, p', ws, e1, e2, e3, e4⟩ := g3 _ _ getE_last
    rw [← hlg, getE_last] at hv
    cases hv
    cases e2
    exact k _ h [D] (sH.trans sh) (fun b hb => by rw [List.mem_singleton.mp hb]; exact sH.free hD) ⟨D, ws, rfl, rfl, e3, e4⟩
  have same0 : Same Hs (upd Hs D (.lst [])) := fun b o hb => by rw [upd_ne (ne_of_none hb hD)]; exact hb
  refine ⟨fun i m h => i + m = ys.length ∧ Same Hs h ∧ Env H2 (L2.wipe σ vs ++ [some (.ref D)]) h (wipeG G' vs ++ [some (.ow (nl K q) (((ys.take i).filter p).map f))]), ⟨ys.length, Nat.zero_add _, same0, E3⟩, ?_⟩
  rintro i m h ⟨hi, sh, Eh⟩
  by_cases hl : i < ys.length
  · have hx : ys[i]? = some ys[i] := List.getElem?_eq_getElem hl
    have etk : ys.take (i + 1) = ys.take i ++ [ys[i]] := by rw [List.take_add_one, hx]; rfl
    obtain ⟨g1, g2⟩ := W.go h i _ (E2.old.trans sh) hx
    refine .inr ⟨g1, fun h' => Same Hs h' ∧ Env H2 (L2.wipe σ vs ++ [some (.ref D)]) h' (wipeG G' vs ++ [some (.ow (nl K q) (((ys.take (i + 1)).filter p).map f))]), fun h' z => ⟨m - 1, by omega, by omega, z⟩, fun v h2 hy => ?_⟩
    obtain ⟨e2, z⟩ := g2 v h2 hy
    have hsp : ys = ys.take i ++ ys[i] :: ys.drop (i + 1) := by rw [List.getElem_cons_drop, List.take_append_drop]
    obtain ⟨Gx, ht, hb, he⟩ := turn (ys.take i) ys[i] (ys.drop (i + 1)) hsp
    refine ht H2 _ σ h2 v rfl (Eh.trunc.grow e2) z _ fun σ2 E4 hwp => ⟨hwp, hb H2 σ2 h2 E4 _ fun h3 e3 => ?_⟩
    cases hp : p ys[i] with
    | false =>
      refine iteF ⟨(sh.trans e2).trans e3, ?_⟩
      have : ((ys.take (i + 1)).filter p).map f = ((ys.take i).filter p).map f := by
        rw [etk, List.filter_append, List.filter_cons, if_neg (by rw [hp]; exact Bool.false_ne_true), List.filter_nil, List.append_nil]
      rw [this]
      exact Eh.grow (e2.trans e3)
    | true =>
      refine iteT (he hp H2 σ2 h3 (E4.grow e3) _ fun y h4 e4 hq => ?_)
      have E5 := Eh.grow ((e2.trans e3).trans e4)
      obtain ⟨own, k1, k2, k3⟩ := id E5.at_
      have hlg : (L2.wipe σ vs).length = (wipeG G' vs).length := (E2.wipe vs).len
      obtain ⟨w, hw', p', ws, a1, a2, a3, a4⟩ := k3 _ _ getE_last
      have hw2 := hw'
      rw [← hlg, getE_last] at hw'
      cases hw'
      cases a2
      have hlw : ws.length ≤ 100000 := by
        rw [a4.len, List.length_map]
        exact Nat.le_trans (List.length_filter_le _ _) (Nat.le_trans (by rw [List.length_take]; exact Nat.min_le_right _ _) hlen)
      refine ⟨ws, a3, Nat.lt_of_le_of_lt hlw (by decide), ?_, ?_⟩
      · intro b o hb
        rw [upd_ne (ne_of_none hb hD)]
        exact e4 _ _ (e3 _ _ (e2 _ _ (sh _ _ hb)))
      · have E6 := app_env (x := f ys[i]) E5 getE_last hw2 a3 a4 (stb hq)
        rw [set_last] at E6
        have : ((ys.take (i + 1)).filter p).map f = ((ys.take i).filter p).map f ++ [f ys[i]] := by
          rw [etk, List.filter_append, List.filter_cons, if_pos hp, List.filter_nil, List.map_append]
          rfl
        rw [this]
        exact E6
  · have hi' : i = ys.length := by omega
    subst hi'
    rw [List.take_length] at Eh
    exact .inl ⟨W.stop h (E2.old.trans sh), Mk h Eh sh⟩
theorem et_yes : EvT tYes G true := fun H1 σ H E Q k => k H (Same.refl H)
/-- a comprehension without a test -/
theorem nw_lc1 {vs : List Nat} {f : β' → γ} {q : Rp γ} [F : Frz K q] {r : Rp β'} {ys : List β'} (hw : Wk wi r G G' ys) (hlen : ys.length ≤ 100000)
    (turn : ∀ pre x post, ys = pre ++ x :: post → ∃ Gx, Tb g r x vs (wipeG G' vs) Gx ∧ Ev q te Gx (f x)) :
    Nw (nl K q) (tLc wi g tYes te vs) G (ys.map f) := by
  have := nw_lc (p := fun _ => true) (f := f) (tt := tYes) hw hlen fun pre x post h => by
    obtain ⟨Gx, h1, h2⟩ := turn pre x post h
    exact ⟨Gx, h1, et_yes, fun _ => h2⟩
  rw [List.filter_eq_self.mpr fun _ _ => rfl] at this
  exact this
end
end Gt
/-! Gt4: operators, built-in functions and methods, from data to data. -/
namespace Gt
open PySem PySem.Spec PyProof.Rows L2

theorem sz {n : Nat} (h : n ≤ 100000) : n ≤ sizeLine := Nat.le_trans h (by decide)
section
variable {K : PySem.W.Frag} {H0 H1 H H' : Hp} {σ : L2.St} {G G' Gx : Cells K} {α β γ S : Type}
variable {ta tb tc te : TE} {tt tu tv : TT} {r : Rp α} {q : Rp β} {a x : α} {b y : β} {i j n m : Int} {s t : Str} {c d : Bool}

/-! ### ints -/
theorem ev_add (ha : Ev rI ta G i) (hb : Ev rI tb G j) : Ev rI (tOp (rI0 fun i j => .int (i + j)) ta tb) G (i + j) := ev_op ha hb (op_I0 fun _ => rfl)
theorem ev_sub (ha : Ev rI ta G i) (hb : Ev rI tb G j) : Ev rI (tOp (rI0 fun i j => .int (i - j)) ta tb) G (i - j) := ev_op ha hb (op_I0 fun _ => rfl)
theorem ev_mul (ha : Ev rI ta G i) (hb : Ev rI tb G j) (h : CMul i j) : Ev rI (tOp (L2.rI CMul fun i j => .int (i * j)) ta tb) G (i * j) := ev_op ha hb (op_I h fun _ => rfl)
theorem ev_div (ha : Ev rI ta G i) (hb : Ev rI tb G j) (h : CDiv i j) : Ev rI (tOp (L2.rI CDiv fun i j => .int (i / j)) ta tb) G (i / j) := ev_op ha hb (op_I h fun _ => rfl)
theorem ev_mod (ha : Ev rI ta G i) (hb : Ev rI tb G j) (h : 0 < j) : Ev rI (tOp (L2.rI (fun _ j => 0 < j) fun i j => .int (i % j)) ta tb) G (i % j) := ev_op ha hb (op_I h fun _ => rfl)
theorem ev_pow (ha : Ev rI ta G i) (hb : Ev rI tb G j) (h : CPow i j) : Ev rI (tOp (L2.rI CPow fun i j => .int (i ^ j.toNat)) ta tb) G (i ^ j.toNat) := ev_op ha hb (op_I h fun _ => rfl)
theorem ev_lt (ha : Ev rI ta G i) (hb : Ev rI tb G j) : Ev rB (tOp (rI0 fun i j => .bl (decide (i < j))) ta tb) G (decide (i < j)) := ev_op ha hb (op_I0 fun _ => rfl)
theorem ev_le (ha : Ev rI ta G i) (hb : Ev rI tb G j) : Ev rB (tOp (rI0 fun i j => .bl (decide (i ≤ j))) ta tb) G (decide (i ≤ j)) := ev_op ha hb (op_I0 fun _ => rfl)
theorem ev_gt (ha : Ev rI ta G i) (hb : Ev rI tb G j) : Ev rB (tOp (rI0 fun i j => .bl (decide (j < i))) ta tb) G (decide (j < i)) := ev_op ha hb (op_I0 fun _ => rfl)
theorem ev_ge (ha : Ev rI ta G i) (hb : Ev rI tb G j) : Ev rB (tOp (rI0 fun i j => .bl (decide (j ≤ i))) ta tb) G (decide (j ≤ i)) := ev_op ha hb (op_I0 fun _ => rfl)
theorem ev_neg (ha : Ev rI ta G i) : Ev rI (tUn (rU fun i => .int (-i)) ta) G (-i) := fun H0 σ H E Q k => ha H0 σ H E _ fun u H' e h => ⟨i, h, k _ H' e rfl⟩
theorem ev_chain {o o' : Int → Int → V} {f f' : Int → Int → Bool} (h1 : ∀ i j, o i j = .bl (f i j)) (h2 : ∀ i j, o' i j = .bl (f' i j)) (ha : Ev rI ta G i) (hb : Ev rI tb G j) (hc : Ev rI tc G n) : Ev rB (tChain (rI0 o) (rI0 o') ta tb tc) G (f i j && f' j n) := fun H0 σ H E Q k =>
  ha H0 σ H E _ fun u H1 e1 z1 => hb H0 σ H1 (E.grow e1) _ fun v H2 e2 z2 => ⟨i, j, z1, z2, f i j, h1 i j, by
    cases hf : f i j with
    | false => exact iteF (k _ H2 (e1.trans e2) (by rw [hf]; rfl))
    | true => exact iteT (hc H0 σ H2 (E.grow (e1.trans e2)) _ fun w H3 e3 z3 => ⟨j, n, z2, z3, k _ H3 ((e1.trans e2).trans e3) (by rw [hf, h2]; rfl)⟩)⟩
theorem ev_chain_le (ha : Ev rI ta G i) (hb : Ev rI tb G j) (hc : Ev rI tc G n) : Ev rB (tChain (rI0 fun i j => .bl (decide (i ≤ j))) (rI0 fun i j => .bl (decide (i ≤ j))) ta tb tc) G (decide (i ≤ j) && decide (j ≤ n)) :=
  ev_chain (f := fun i j => decide (i ≤ j)) (f' := fun i j => decide (i ≤ j)) (fun _ _ => rfl) (fun _ _ => rfl) ha hb hc
theorem ev_chain_lelt (ha : Ev rI ta G i) (hb : Ev rI tb G j) (hc : Ev rI tc G n) : Ev rB (tChain (rI0 fun i j => .bl (decide (i ≤ j))) (rI0 fun i j => .bl (decide (i < j))) ta tb tc) G (decide (i ≤ j) && decide (j < n)) :=
  ev_chain (f := fun i j => decide (i ≤ j)) (f' := fun i j => decide (i < j)) (fun _ _ => rfl) (fun _ _ => rfl) ha hb hc

/-! ### == of flat things -/
theorem ev_eqI (ha : Ev rI ta G i) (hb : Ev rI tb G j) : Ev rB (tOp rEq ta tb) G (decide (i = j)) := ev_op ha hb fun H u v hu hv Q k => by
  cases hu; cases hv
  exact ⟨rfl, k _ H (Same.refl H) (by show V.bl _ = V.bl _; congr 1; exact decide_eq_decide.mpr ⟨fun h => V.int.inj h, fun h => by rw [h]⟩)⟩
theorem ev_neI (ha : Ev rI ta G i) (hb : Ev rI tb G j) : Ev rB (tOp rNe ta tb) G (!decide (i = j)) := ev_op ha hb fun H u v hu hv Q k => by
  cases hu; cases hv
  exact ⟨rfl, k _ H (Same.refl H) (by show V.bl _ = V.bl _; congr 2; exact decide_eq_decide.mpr ⟨fun h => V.int.inj h, fun h => by rw [h]⟩)⟩
theorem ev_eqS (ha : Ev rS ta G s) (hb : Ev rS tb G t) : Ev rB (tOp rEq ta tb) G (decide (s = t)) := ev_op ha hb fun H u v ⟨hu, _⟩ ⟨hv, _⟩ Q k => by
  cases hu; cases hv
  exact ⟨rfl, k _ H (Same.refl H) (by show V.bl _ = V.bl _; congr 1; exact decide_eq_decide.mpr ⟨fun h => V.str.inj h, fun h => by rw [h]⟩)⟩
theorem ev_neS (ha : Ev rS ta G s) (hb : Ev rS tb G t) : Ev rB (tOp rNe ta tb) G (!decide (s = t)) := ev_op ha hb fun H u v ⟨hu, _⟩ ⟨hv, _⟩ Q k => by
  cases hu; cases hv
  exact ⟨rfl, k _ H (Same.refl H) (by show V.bl _ = V.bl _; congr 2; exact decide_eq_decide.mpr ⟨fun h => V.str.inj h, fun h => by rw [h]⟩)⟩
theorem ev_eqB (ha : Ev rB ta G c) (hb : Ev rB tb G d) : Ev rB (tOp rEq ta tb) G (decide (c = d)) := ev_op ha hb fun H u v hu hv Q k => by
  cases hu; cases hv
  exact ⟨rfl, k _ H (Same.refl H) (by show V.bl _ = V.bl _; congr 1; exact decide_eq_decide.mpr ⟨fun h => V.bl.inj h, fun h => by rw [h]⟩)⟩
theorem ev_neB (ha : Ev rB ta G c) (hb : Ev rB tb G d) : Ev rB (tOp rNe ta tb) G (!decide (c = d)) := ev_op ha hb fun H u v hu hv Q k => by
  cases hu; cases hv
  exact ⟨rfl, k _ H (Same.refl H) (by show V.bl _ = V.bl _; congr 2; exact decide_eq_decide.mpr ⟨fun h => V.bl.inj h, fun h => by rw [h]⟩)⟩
/-- is None -/
def isNone' {α : Type} : Option α → Bool
  | .none => true
  | .some _ => false
class NotNon {α : Type} (r : Rp α) : Prop where
  nn : ∀ {H : Hp} {v : V} {a : α}, r H v a → v ≠ .non
instance : NotNon rI := ⟨fun h z => by rw [z] at h; cases h⟩
instance : NotNon rS := ⟨fun h z => by rw [z] at h; exact nomatch h.1⟩
instance : NotNon rB := ⟨fun h z => by rw [z] at h; cases h⟩
instance {r : Rp α} : NotNon (rT K r) := ⟨fun ⟨_, _, e, _⟩ z => by rw [z] at e; cases e⟩
instance {r : Rp α} {q : Rp β} : NotNon (rP K r q) := ⟨fun ⟨_, _, _, e, _⟩ z => by rw [z] at e; cases e⟩
instance {r : Rp α} : NotNon (rL r) := ⟨fun ⟨_, _, e, _⟩ z => by rw [z] at e; cases e⟩
theorem isNone_of {r : Rp α} [N : NotNon r] {v : V} {o : Option α} (h : rO r H v o) : decide (v = .non) = isNone' o := by
  cases o with
  | none => exact decide_eq_true h
  | some a => exact decide_eq_false (N.nn (r := r) (H := H) (a := a) h)
theorem ev_isN [N : NotNon r] [M : Mono r] {o : Option α} (ha : Ev (rO r) ta G o) : Ev rB (tOp (fun x y H Q => y = .non ∧ Q (.bl (decide (x = .non))) H) ta (tC .non)) G (isNone' o) := fun H0 σ H E Q k =>
  ha H0 σ H E _ fun u H1 e1 z => ⟨rfl, k _ H1 e1 (by show V.bl _ = V.bl _; rw [isNone_of z])⟩
theorem ev_notN [N : NotNon r] [M : Mono r] {o : Option α} (ha : Ev (rO r) ta G o) : Ev rB (tOp (fun x y H Q => y = .non ∧ Q (.bl (!decide (x = .non))) H) ta (tC .non)) G (!isNone' o) := fun H0 σ H E Q k =>
  ha H0 σ H E _ fun u H1 e1 z => ⟨rfl, k _ H1 e1 (by show V.bl _ = V.bl _; rw [isNone_of z])⟩

/-! ### tests, and, or, not, if -/
theorem et_test (h : Ev rB te G c) : EvT (tTest te) G c := fun H0 σ H E Q k => h H0 σ H E _ fun v H' e z => ⟨c, z, k H' e⟩
theorem et_B (h : Ev rB te G c) : EvT (tB te) G c := fun H0 σ H E Q k => h H0 σ H E _ fun v H' e z => ⟨c, z, k H' e⟩
theorem et_and (h1 : EvT tt G c) (h2 : c = true → EvT tu G d) : EvT (tAnd tt tu) G (c && d) := fun H0 σ H E Q k => h1 H0 σ H E _ fun H1 e1 => by
  cases c with
  | true => exact iteT (h2 rfl H0 σ H1 (E.grow e1) _ fun H2 e2 => k H2 (e1.trans e2))
  | false => exact iteF (k H1 e1)
theorem et_or (h1 : EvT tt G c) (h2 : c = false → EvT tu G d) : EvT (tOr tt tu) G (c || d) := fun H0 σ H E Q k => h1 H0 σ H E _ fun H1 e1 => by
  cases c with
  | true => exact iteT (k H1 e1)
  | false => exact iteF (h2 rfl H0 σ H1 (E.grow e1) _ fun H2 e2 => k H2 (e1.trans e2))
theorem et_not (h1 : EvT tt G c) : EvT (tNot tt) G (!c) := fun H0 σ H E Q k => h1 H0 σ H E _ fun H1 e1 => k H1 e1
theorem ev_and (h1 : Ev rB ta G c) (h2 : c = true → Ev rB tb G d) : Ev rB (tAndV ta tb) G (c && d) := fun H0 σ H E Q k => h1 H0 σ H E _ fun v H1 e1 z => ⟨c, z, by
  cases c with
  | true => exact iteT (h2 rfl H0 σ H1 (E.grow e1) _ fun w H2 e2 z2 => k w H2 (e1.trans e2) z2)
  | false => exact iteF (k _ H1 e1 rfl)⟩
theorem ev_or (h1 : Ev rB ta G c) (h2 : c = false → Ev rB tb G d) : Ev rB (tOrV ta tb) G (c || d) := fun H0 σ H E Q k => h1 H0 σ H E _ fun v H1 e1 z => ⟨c, z, by
  cases c with
  | true => exact iteT (k _ H1 e1 rfl)
  | false => exact iteF (h2 rfl H0 σ H1 (E.grow e1) _ fun w H2 e2 z2 => k w H2 (e1.trans e2) z2)⟩
theorem ev_not (h1 : Ev rB ta G c) : Ev rB (tNotV ta) G (!c) := fun H0 σ H E Q k => h1 H0 σ H E _ fun v H1 e1 z => ⟨c, z, k _ H1 e1 rfl⟩
theorem ev_if (h : EvT tt G c) (h1 : c = true → Ev r ta G a) (h2 : c = false → Ev r tb G x) : Ev r (tIf tt ta tb) G (bif c then a else x) := fun H0 σ H E Q k => h H0 σ H E _ fun H1 e1 => by
  cases c with
  | true => exact iteT (h1 rfl H0 σ H1 (E.grow e1) _ fun w H2 e2 z2 => k w H2 (e1.trans e2) z2)
  | false => exact iteF (h2 rfl H0 σ H1 (E.grow e1) _ fun w H2 e2 z2 => k w H2 (e1.trans e2) z2)
/-- truth -/
abbrev tTru (K : PySem.W.Frag) (ta : TE) : TT := fun σ H Q => ta σ H fun x H' => ∃ k, TruV K x H' k ∧ Q k H'
theorem et_truI (h : Ev rI ta G i) : EvT (tTru K ta) G (i != 0) := fun H0 σ H E Q k => h H0 σ H E _ fun v H1 e1 z => ⟨_, by rw [show v = .int i from z]; exact rfl, k H1 e1⟩
theorem et_truB (h : Ev rB ta G c) : EvT (tTru K ta) G c := fun H0 σ H E Q k => h H0 σ H E _ fun v H1 e1 z => ⟨_, by rw [show v = .bl c from z]; exact rfl, k H1 e1⟩
theorem et_truS (h : Ev rS ta G s) : EvT (tTru K ta) G ((s.length : Int) != 0) := fun H0 σ H E Q k => h H0 σ H E _ fun v H1 e1 z => ⟨_, by rw [show v = .str s from z.1]; exact ⟨sz z.2.1, rfl⟩, k H1 e1⟩
theorem a2_empty {r : α → β → Prop} {xs : List α} {ys : List β} (h : A2 r xs ys) : xs.isEmpty = ys.isEmpty := by cases h <;> rfl
theorem et_truL {xs : List α} (h : Ev (rL r) ta G xs) : EvT (tTru K ta) G (!xs.isEmpty) := fun H0 σ H E Q k => h H0 σ H E _ fun v H1 e1 ⟨p, vs, ev, hp, z⟩ => ⟨!xs.isEmpty, by rw [ev]; exact .inl ⟨vs, SqL.of hp, by rw [a2_empty z]⟩, k H1 e1⟩
theorem et_truT {xs : List α} (h : Ev (rT K r) ta G xs) : EvT (tTru K ta) G (!xs.isEmpty) := fun H0 σ H E Q k => h H0 σ H E _ fun v H1 e1 ⟨p, vs, ev, hp, z⟩ => ⟨!xs.isEmpty, by rw [ev]; exact .inr (.inl ⟨vs, hp, by rw [a2_empty z]⟩), k H1 e1⟩

/-! ### calls -/
theorem ea_nil : EvA aN tNil G () := fun H0 σ H E Q k => k [] H (Same.refl H) rfl
theorem ea_cons {A : Ra γ} {g : γ} {tr : TA} [M : Mono r] (h : Ev r te G a) (hr : EvA A tr G g) : EvA (aC r A) (tCons te tr) G (a, g) := fun H0 σ H E Q k =>
  h H0 σ H E _ fun v H1 e1 z1 => hr H0 σ H1 (E.grow e1) _ fun vs H2 e2 z2 => k _ H2 (e1.trans e2) ⟨v, vs, rfl, M.up e2 z1, z2⟩
theorem ev_call {A : Ra γ} {g : γ} {pre : γ → Prop} {f : γ → β} {E' : XK} {t : TA} (h : EvA A t G g) (hp : pre g) (e : f g = b) : Ev q (tCall (spF A pre q f) [] E' t) G b := fun H0 σ H E Q k =>
  h H0 σ H E _ fun vs H1 e1 z1 => by
    rw [List.append_nil]
    exact ⟨g, z1, hp, fun v H2 e2 z2 => k v H2 (e1.trans e2) (e ▸ z2)⟩
theorem nw_call {A : Ra γ} {g : γ} {pre : γ → Prop} {R : Rs K β} {f : γ → β} {E' : XK} {t : TA} (h : EvA A t G g) (hp : pre g) (e : f g = b) : Nw R (tCall (spN A pre R f) [] E' t) G b := fun H0 σ H E Q k =>
  h H0 σ H E _ fun vs H1 e1 z1 => by
    rw [List.append_nil]
    exact ⟨g, z1, hp, fun v H2 as e2 hn z2 => k v H2 as (e1.trans e2) (fun p hp => free_back e1 (hn p hp)) (e ▸ z2)⟩
/-- a built-in function -/
def CbE (o : List V → Hp → VK → Prop) (A : Ra γ) (q : Rp β) (g : γ) (b : β) : Prop := ∀ H vs, A H vs g → ∀ Q : VK, (∀ w H', Same H H' → q H' w b → Q w H') → o vs H Q
def CbN (o : List V → Hp → VK → Prop) (A : Ra γ) (R : Rs K β) (g : γ) (b : β) : Prop := ∀ H vs, A H vs g → ∀ Q : VK, (∀ w H' as, Same H H' → (∀ p, p ∈ as → H p = none) → R.rep H' w b as → Q w H') → o vs H Q
theorem ev_cb {o : List V → Hp → VK → Prop} {A : Ra γ} {g : γ} {t : TA} (h : EvA A t G g) (ho : CbE o A q g b) : Ev q (tCB o t) G b := fun H0 σ H E Q k =>
  h H0 σ H E _ fun vs H1 e1 z1 => ho H1 vs z1 Q fun v H2 e2 z2 => k v H2 (e1.trans e2) z2
theorem nw_cb {o : List V → Hp → VK → Prop} {A : Ra γ} {g : γ} {t : TA} {R : Rs K β} (h : EvA A t G g) (ho : CbN o A R g b) : Nw R (tCB o t) G b := fun H0 σ H E Q k =>
  h H0 σ H E _ fun vs H1 e1 z1 => ho H1 vs z1 Q fun v H2 as e2 hn z2 => k v H2 as (e1.trans e2) (fun p hp => free_back e1 (hn p hp)) z2
abbrev rLenU (K : PySem.W.Frag) : List V → Hp → VK → Prop := fun xs H Q => ∃ x n, xs = [x] ∧ LenV K x H n ∧ Q (.int n) H
theorem ev_lenL {xs : List α} [M : Mono r] (h : Ev (rL r) te G xs) : Ev rI (tCB (rLenU K) (tCons te tNil)) G (xs.length : Int) := ev_cb (ea_cons h ea_nil) fun H vs ⟨v, ws, e, ⟨p, us, ev, hp, z⟩, e2⟩ Q k =>
  ⟨v, us.length, by rw [e, show ws = [] from e2], by rw [ev]; exact .inl ⟨us, SqL.of hp, rfl⟩, k _ H (Same.refl H) (by rw [z.len]; rfl)⟩
theorem ev_lenT {xs : List α} [M : Mono r] (h : Ev (rT K r) te G xs) : Ev rI (tCB (rLenU K) (tCons te tNil)) G (xs.length : Int) := ev_cb (ea_cons h ea_nil) fun H vs ⟨v, ws, e, ⟨p, us, ev, hp, z⟩, e2⟩ Q k =>
  ⟨v, us.length, by rw [e, show ws = [] from e2], by rw [ev]; exact .inr ⟨us, hp, rfl⟩, k _ H (Same.refl H) (by rw [z.len]; rfl)⟩
theorem ev_lenS (h : Ev rS te G s) : Ev rI (tCB (rLenU K) (tCons te tNil)) G (s.length : Int) := ev_cb (ea_cons h ea_nil) fun H vs ⟨v, ws, e, hv, e2⟩ Q k =>
  ⟨v, s.length, by rw [e, show ws = [] from e2], by rw [show v = .str s from hv.1]; exact ⟨sz hv.2.1, rfl⟩, k _ H (Same.refl H) rfl⟩
abbrev rIntU : List V → Hp → VK → Prop := fun xs H Q => (∃ i, xs = [.int i] ∧ Q (.int i) H) ∨ ∃ k, xs = [.bl k] ∧ Q (.int (if k then 1 else 0)) H
theorem ev_intI (h : Ev rI te G i) : Ev rI (tCB rIntU (tCons te tNil)) G i := ev_cb (ea_cons h ea_nil) fun H vs ⟨v, ws, e, hv, e2⟩ Q k =>
  .inl ⟨i, by rw [e, show ws = [] from e2, show v = .int i from hv], k _ H (Same.refl H) rfl⟩
def b2 (c : Bool) : Int := bif c then 1 else 0
theorem b2_small (c : Bool) : -(2 ^ 64) < b2 c ∧ b2 c < 2 ^ 64 := by cases c <;> decide
theorem ev_intB (h : Ev rB te G c) : Ev rI (tCB rIntU (tCons te tNil)) G (b2 c) := ev_cb (ea_cons h ea_nil) fun H vs ⟨v, ws, e, hv, e2⟩ Q k =>
  .inr ⟨c, by rw [e, show ws = [] from e2, show v = .bl c from hv], k _ H (Same.refl H) (by cases c <;> rfl)⟩
theorem bls {vs : List V} {bs : List Bool} (z : A2 (rB H) vs bs) : vs = bs.map V.bl := A2.map_eq z
theorem ev_all {bs : List Bool} (h : Ev (rL rB) te G bs) : Ev rB (tCB (rAll K) (tCons te tNil)) G (bs.all id) := ev_cb (ea_cons h ea_nil) fun H vs ⟨v, ws, e, ⟨p, us, ev, hp, z⟩, e2⟩ Q k =>
  ⟨p, bs, by rw [e, show ws = [] from e2, ev], by rw [← bls z]; exact SqL.of hp, k _ H (Same.refl H) rfl⟩
theorem ev_any {bs : List Bool} (h : Ev (rL rB) te G bs) : Ev rB (tCB (rAny K) (tCons te tNil)) G (bs.any id) := ev_cb (ea_cons h ea_nil) fun H vs ⟨v, ws, e, ⟨p, us, ev, hp, z⟩, e2⟩ Q k =>
  ⟨p, bs, by rw [e, show ws = [] from e2, ev], by rw [← bls z]; exact SqL.of hp, k _ H (Same.refl H) rfl⟩
theorem ev_sum {ns : List Int} (h : Ev (rL rI) te G ns) : Ev rI (tCB (rSum K) (tCons te tNil)) G ns.sum := ev_cb (ea_cons h ea_nil) fun H vs ⟨v, ws, e, ⟨p, us, ev, hp, z⟩, e2⟩ Q k =>
  ⟨p, ns, by rw [e, show ws = [] from e2, ev], by rw [show us = ns.map V.int from A2.map_eq z] at hp; exact SqL.of hp, k _ H (Same.refl H) rfl⟩
abbrev rListU (K : PySem.W.Frag) : List V → Hp → VK → Prop := fun xs H Q => ∃ p ys, xs = [.ref p] ∧ (SqL K H p ys ∨ SqT K H p ys) ∧ ∀ l, H l = none → Q (.ref l) (upd H l (.lst ys))
theorem same_new {p : Addr} {o : HO} (h : H p = none) : Same H (upd H p o) := fun b u e => by rw [upd_ne (ne_of_none e h)]; exact e
theorem nw_listL {xs : List α} [M : Mono r] [F : Frz K r] (h : Ev (rL r) te G xs) : Nw (nl K r) (tCB (rListU K) (tCons te tNil)) G xs := nw_cb (ea_cons h ea_nil) fun H vs ⟨v, ws, e, ⟨p, us, ev, hp, z⟩, e2⟩ Q k =>
  ⟨p, us, by rw [e, show ws = [] from e2, ev], .inl (SqL.of hp), fun l hl => k _ _ [l] (same_new hl) (fun b hb => by rw [List.mem_singleton.mp hb]; exact hl) ⟨l, us, rfl, rfl, upd_same, z.imp fun _ _ q => stb (M.up (same_new hl) q)⟩⟩
theorem nw_listT {xs : List α} [M : Mono r] [F : Frz K r] (h : Ev (rT K r) te G xs) : Nw (nl K r) (tCB (rListU K) (tCons te tNil)) G xs := nw_cb (ea_cons h ea_nil) fun H vs ⟨v, ws, e, ⟨p, us, ev, hp, z⟩, e2⟩ Q k =>
  ⟨p, us, by rw [e, show ws = [] from e2, ev], .inr hp, fun l hl => k _ _ [l] (same_new hl) (fun b hb => by rw [List.mem_singleton.mp hb]; exact hl) ⟨l, us, rfl, rfl, upd_same, z.imp fun _ _ q => stb (M.up (same_new hl) q)⟩⟩
abbrev rTupU (K : PySem.W.Frag) : List V → Hp → VK → Prop := fun xs H Q => ∃ p ys, xs = [.ref p] ∧ ((SqL K H p ys ∧ ∀ l, H l = none → Q (.ref l) (upd H l (.tup ys))) ∨ (SqT K H p ys ∧ Q (.ref p) H))
theorem ev_tupL {xs : List α} [M : Mono r] (h : Ev (rL r) te G xs) : Ev (rT K r) (tCB (rTupU K) (tCons te tNil)) G xs := ev_cb (ea_cons h ea_nil) fun H vs ⟨v, ws, e, ⟨p, us, ev, hp, z⟩, e2⟩ Q k =>
  ⟨p, us, by rw [e, show ws = [] from e2, ev], .inl ⟨SqL.of hp, fun l hl => k _ _ (same_new hl) ⟨l, us, rfl, SqT.of upd_same, z.imp fun _ _ q => M.up (same_new hl) q⟩⟩⟩
theorem ev_tupT {xs : List α} [M : Mono r] (h : Ev (rT K r) te G xs) : Ev (rT K r) (tCB (rTupU K) (tCons te tNil)) G xs := ev_cb (ea_cons h ea_nil) fun H vs ⟨v, ws, e, ⟨p, us, ev, hp, z⟩, e2⟩ Q k =>
  ⟨p, us, by rw [e, show ws = [] from e2, ev], .inr ⟨hp, k _ H (Same.refl H) ⟨p, us, rfl, hp, z⟩⟩⟩

/-! ### displays -/
def aAll (r : Rp α) : Ra (List α) := fun H vs xs => A2 (r H) vs xs
instance [M : Mono r] : MonoA (aAll r) := ⟨fun e h => h.imp fun _ _ z => M.up e z⟩
theorem el_nil : EvA (aAll r) tNil G [] := fun H0 σ H E Q k => k [] H (Same.refl H) .nil
theorem el_cons {tr : TA} {xs : List α} [M : Mono r] (h : Ev r te G x) (hr : EvA (aAll r) tr G xs) : EvA (aAll r) (tCons te tr) G (x :: xs) := fun H0 σ H E Q k =>
  h H0 σ H E _ fun v H1 e1 z1 => hr H0 σ H1 (E.grow e1) _ fun vs H2 e2 z2 => k _ H2 (e1.trans e2) (.cons (M.up e2 z1) z2)
theorem nw_lst {ta : TA} {xs : List α} [M : Mono r] [F : Frz K r] (h : EvA (aAll r) ta G xs) (hz : xs.length ≤ 100000) : Nw (nl K r) (tLst ta) G xs := fun H0 σ H E Q k =>
  h H0 σ H E _ fun vs H1 e1 z => ⟨by rw [A2.len z]; exact sz hz, fun p hp => k _ _ [p] (e1.trans (same_new hp)) (fun b hb => by rw [List.mem_singleton.mp hb]; exact free_back e1 hp) ⟨p, vs, rfl, rfl, upd_same, A2.imp (fun _ _ q => stb (M.up (same_new hp) q)) z⟩⟩
theorem ev_tup {ta : TA} {xs : List α} [M : Mono r] (h : EvA (aAll r) ta G xs) (hz : xs.length ≤ 100000) : Ev (rT K r) (tTup ta) G xs := fun H0 σ H E Q k =>
  h H0 σ H E _ fun vs H1 e1 z => ⟨by rw [A2.len z]; exact sz hz, fun p hp => k _ _ (e1.trans (same_new hp)) ⟨p, vs, rfl, SqT.of upd_same, A2.imp (fun _ _ q => M.up (same_new hp) q) z⟩⟩
theorem ev_pair [M : Mono r] [N : Mono q] (h : Ev r ta G a) (h' : Ev q tb G b) : Ev (rP K r q) (tTup (tCons ta (tCons tb tNil))) G (a, b) := fun H0 σ H E Q k =>
  h H0 σ H E _ fun v H1 e1 z1 => h' H0 σ H1 (E.grow e1) _ fun w H2 e2 z2 => ⟨by show 2 ≤ sizeLine; decide, fun p hp => k _ _ ((e1.trans e2).trans (same_new hp)) ⟨p, v, w, rfl, SqT.of upd_same, M.up (e2.trans (same_new hp)) z1, N.up (same_new hp) z2⟩⟩

/-! ### items and slices -/
theorem atI_A2 {f : V → α → Prop} {vs : List V} {xs : List α} {i : Int} {x : α} (z : A2 f vs xs) (h : atI xs i = some x) : ∃ v, atI vs i = some v ∧ f v x := by
  unfold atI at h ⊢
  rw [z.len]
  cases e : ixN xs.length i with
  | none => rw [e] at h; cases h
  | some j =>
    rw [e] at h
    exact z.get' (i := j) h
theorem ev_ixL {xs : List α} [M : Mono r] (h : Ev (rL r) ta G xs) (hi : Ev rI tb G i) (hx : atI xs i = some x) : Ev r (tOp (rIx K) ta tb) G x := ev_op h hi fun H u v ⟨p, vs, ev, hp, z⟩ hv Q k => by
  obtain ⟨w, hw, hr⟩ := atI_A2 z hx
  exact .inl ⟨p, vs, i, w, ev, hv, SqL.of hp, hw, k w H (Same.refl H) hr⟩
theorem ev_ixT {xs : List α} [M : Mono r] (h : Ev (rT K r) ta G xs) (hi : Ev rI tb G i) (hx : atI xs i = some x) : Ev r (tOp (rIx K) ta tb) G x := ev_op h hi fun H u v ⟨p, vs, ev, hp, z⟩ hv Q k => by
  obtain ⟨w, hw, hr⟩ := atI_A2 z hx
  exact .inr (.inl ⟨p, vs, i, w, ev, hv, hp, hw, k w H (Same.refl H) hr⟩)
theorem atI_mem {xs : List α} {i : Int} {x : α} (h : atI xs i = some x) : x ∈ xs := by
  unfold atI at h
  cases e : ixN xs.length i with
  | none => rw [e] at h; cases h
  | some j => rw [e] at h; exact List.mem_of_getElem? h
theorem ev_ixS {z : Nat} (h : Ev rS ta G s) (hi : Ev rI tb G i) (hx : atI s.cps.toList i = some z) : Ev rS (tOp (rIx K) ta tb) G ⟨#[z]⟩ := ev_op h hi fun H u v hu hv Q k =>
  .inr (.inr ⟨s, i, z, hu.1, hv, sz hu.2.1, hx, k _ H (Same.refl H) ⟨rfl, okS_chr hu.2 (atI_mem hx)⟩⟩)
theorem ev_fst [M : Mono r] [N : Mono q] {p : α × β} (h : Ev (rP K r q) ta G p) : Ev r (tOp (rIx K) ta (tC (.int 0))) G p.1 := fun H0 σ H E Q k =>
  h H0 σ H E _ fun v H1 e1 ⟨c, x, y, ev, hc, z1, z2⟩ => .inr (.inl ⟨c, [x, y], 0, x, ev, rfl, hc, rfl, k x H1 e1 z1⟩)
theorem ev_snd [M : Mono r] [N : Mono q] {p : α × β} (h : Ev (rP K r q) ta G p) : Ev q (tOp (rIx K) ta (tC (.int 1))) G p.2 := fun H0 σ H E Q k =>
  h H0 σ H E _ fun v H1 e1 ⟨c, x, y, ev, hc, z1, z2⟩ => .inr (.inl ⟨c, [x, y], 1, y, ev, rfl, hc, rfl, k y H1 e1 z2⟩)
def EvO (to : TO) (G : Cells K) (o : Option Int) : Prop := ∀ H0 σ H, Env H0 σ H G → ∀ Q : Option Int → Hp → Prop, (∀ H', Same H H' → Q o H') → to σ H Q
theorem eo_none : EvO tNoPart G Option.none := fun H0 σ H E Q k => k H (Same.refl H)
theorem eo_some (h : Ev rI te G i) : EvO (tPart te) G (Option.some i) := fun H0 σ H E Q k => h H0 σ H E _ fun v H' e z => ⟨i, z, k H' e⟩
/-- xs[lo:hi] -/
def cut (xs : List α) (lo hi : Option Int) : List α := (xs.drop (HT.sIx xs.length 0 lo)).take (HT.sIx xs.length xs.length hi - HT.sIx xs.length 0 lo)
theorem cut_A2 {f : V → α → Prop} {vs : List V} {xs : List α} (z : A2 f vs xs) (lo hi : Option Int) : A2 f (cutV vs lo hi) (cut xs lo hi) := by
  unfold cutV cut
  rw [z.len]
  exact (z.drop _).take _
theorem nw_slL {xs : List α} {lo hi : Option Int} {tl th : TO} [M : Mono r] [F : Frz K r] (h : Ev (rL r) ta G xs) (hl : EvO tl G lo) (hh : EvO th G hi) : Nw (nl K r) (tSl (rSlL K) ta tl th) G (cut xs lo hi) := fun H0 σ H E Q k =>
  h H0 σ H E _ fun v H1 e1 ⟨p, vs, ev, hp, z⟩ => hl H0 σ H1 (E.grow e1) _ fun H2 e2 => hh H0 σ H2 (E.grow (e1.trans e2)) _ fun H3 e3 =>
    ⟨p, vs, ev, SqL.of (e3 _ _ (e2 _ _ hp)), fun l hn => k _ _ [l] (((e1.trans e2).trans e3).trans (same_new hn)) (fun b hb => by rw [List.mem_singleton.mp hb]; exact free_back ((e1.trans e2).trans e3) hn)
      ⟨l, _, rfl, rfl, upd_same, (cut_A2 z lo hi).imp fun _ _ q => stb (M.up ((e2.trans e3).trans (same_new hn)) q)⟩⟩
theorem okS_cut {s : Str} (h : okS s) (lo hi : Option Int) : okS (cutS s lo hi) := by
  have sub : ∀ c ∈ (s.cps.toList.drop (HT.sIx s.length 0 lo)).take (HT.sIx s.length s.length hi - HT.sIx s.length 0 lo), c ∈ s.cps.toList := fun c hc => List.mem_of_mem_drop (List.mem_of_mem_take hc)
  refine ⟨?_, ?_⟩
  · show ((s.cps.toList.drop (HT.sIx s.length 0 lo)).take (HT.sIx s.length s.length hi - HT.sIx s.length 0 lo)).toArray.size ≤ 100000
    rw [List.size_toArray, List.length_take, List.length_drop]
    have : s.cps.toList.length = s.length := rfl
    have := h.1
    omega
  · have := h.2
    rw [← Array.all_toList, List.all_eq_true] at this ⊢
    exact fun c hc => this c (sub c (by simpa [cutS] using hc))
theorem ev_slS {lo hi : Option Int} {tl th : TO} (h : Ev rS ta G s) (hl : EvO tl G lo) (hh : EvO th G hi) : Ev rS (tSl rSlS ta tl th) G (cutS s lo hi) := fun H0 σ H E Q k =>
  h H0 σ H E _ fun v H1 e1 z => hl H0 σ H1 (E.grow e1) _ fun H2 e2 => hh H0 σ H2 (E.grow (e1.trans e2)) _ fun H3 e3 => ⟨s, z.1, sz z.2.1, k _ H3 ((e1.trans e2).trans e3) ⟨rfl, okS_cut z.2 lo hi⟩⟩

/-! ### + of texts and lists -/
abbrev rAddS : R2 := fun x y H Q => ∃ i j, x = .str i ∧ y = .str j ∧ i.length + j.length ≤ sizeLine ∧ Q (.str (i ++ j)) H
theorem ev_addS (h : Ev rS ta G s) (h' : Ev rS tb G t) (hz : s.length + t.length ≤ 100000) : Ev rS (tOp rAddS ta tb) G (s ++ t) := ev_op h h' fun H u v hu hv Q k => ⟨s, t, hu.1, hv.1, sz hz, k _ H (Same.refl H) ⟨rfl, okS_app hu.2 hv.2 hz⟩⟩
theorem nw_cat {xs ys : List α} [M : Mono r] [F : Frz K r] (h : Ev (rL r) ta G xs) (h' : Ev (rL r) tb G ys) (hz : xs.length + ys.length ≤ 100000) : Nw (nl K r) (tOp rCat ta tb) G (xs ++ ys) := nw_op h h' fun H u v ⟨p, vs, ev, hp, z⟩ ⟨p', vs', ev', hp', z'⟩ Q k =>
  ⟨p, p', vs, vs', ev, ev', hp, hp', by rw [z.len, z'.len]; exact sz hz, fun l hl => k _ _ [l] (same_new hl) (fun b hb => by rw [List.mem_singleton.mp hb]; exact hl) ⟨l, _, rfl, rfl, upd_same, (A2.app z' z).imp fun _ _ q => stb (M.up (same_new hl) q)⟩⟩

theorem dot_eq : (Str.ofString ".") = ⟨#[46]⟩ := by decide +kernel
theorem atI_zero {x : α} {l : List α} : atI (x :: l) 0 = some x := by
  unfold atI ixN
  rw [if_pos (by omega), if_pos (by rw [List.length_cons]; omega)]
  rfl
theorem atI_pos {xs : List α} {i : Int} {x : α} (h0 : 0 ≤ i) (h : xs[i.toNat]? = some x) : atI xs i = some x := by
  have hl := (List.getElem?_eq_some_iff.mp h).1
  unfold atI ixN
  rw [if_pos h0, if_pos (by omega)]
  exact h
/-! ### in -/
theorem ev_inSign {z : Nat} (h : Ev rS ta G t) (e : t = ⟨#[z]⟩) (h' : Ev rS tb G s) : Ev rB (tOp (fun x y H Q => ∃ (c : Nat) (z : Str), x = .str ⟨#[c]⟩ ∧ y = .str z ∧ Q (.bl (decide (c ∈ z.cps.toList))) H) ta tb) G (decide (z ∈ s.cps.toList)) := ev_op h h' fun H u v hu hv Q k => ⟨z, s, by rw [← e]; exact hu.1, hv.1, k _ H (Same.refl H) rfl⟩
theorem ev_ninSign {z : Nat} (h : Ev rS ta G t) (e : t = ⟨#[z]⟩) (h' : Ev rS tb G s) : Ev rB (tOp (fun x y H Q => ∃ (c : Nat) (z : Str), x = .str ⟨#[c]⟩ ∧ y = .str z ∧ Q (.bl (!decide (c ∈ z.cps.toList))) H) ta tb) G (!decide (z ∈ s.cps.toList)) := ev_op h h' fun H u v hu hv Q k => ⟨z, s, by rw [← e]; exact hu.1, hv.1, k _ H (Same.refl H) rfl⟩
theorem inV_strs {xs : List Str} : inV (.str s) (xs.map V.str) = decide (s ∈ xs) := by
  unfold inV
  induction xs with
  | nil => simp
  | cons a l ih =>
    rw [List.map_cons, List.any_cons, ih]
    show ((a == s) || decide (s ∈ l)) = decide (s ∈ a :: l)
    by_cases h : a = s
    · subst h; simp
    · have : (a == s) = false := beq_eq_false_iff_ne.mpr h
      rw [this, Bool.false_or]
      apply decide_eq_decide.mpr
      rw [List.mem_cons]
      exact ⟨Or.inr, fun z => z.resolve_left fun e => h e.symm⟩
theorem flat_strs : ∀ xs : List Str, (xs.map V.str).all flatV = true
  | [] => rfl
  | _ :: r => by rw [List.map_cons, List.all_cons, flat_strs r]; rfl
theorem ev_inL {xs : List Str} (h : Ev rS ta G s) (h' : Ev (rL rS) tb G xs) : Ev rB (tOp (rIn K false) ta tb) G (decide (s ∈ xs)) := ev_op h h' fun H u v hu ⟨p, vs, ev, hp, z⟩ Q k => by
  have e : vs = xs.map V.str := A2.map_eq (z.imp fun _ _ q => q.1)
  subst e
  rw [show u = .str s from hu.1]
  exact ⟨p, _, ev, .inl (SqL.of hp), rfl, flat_strs xs, k _ H (Same.refl H) (by show V.bl (inV _ _) = _; rw [inV_strs])⟩
theorem ev_ninL {xs : List Str} (h : Ev rS ta G s) (h' : Ev (rL rS) tb G xs) : Ev rB (tOp (rIn K true) ta tb) G (!decide (s ∈ xs)) := ev_op h h' fun H u v hu ⟨p, vs, ev, hp, z⟩ Q k => by
  have e : vs = xs.map V.str := A2.map_eq (z.imp fun _ _ q => q.1)
  subst e
  rw [show u = .str s from hu.1]
  exact ⟨p, _, ev, .inl (SqL.of hp), rfl, flat_strs xs, k _ H (Same.refl H) (by show V.bl (!inV _ _) = _; rw [inV_strs])⟩
theorem ev_inT {xs : List Str} (h : Ev rS ta G s) (h' : Ev (rT K rS) tb G xs) : Ev rB (tOp (rIn K false) ta tb) G (decide (s ∈ xs)) := ev_op h h' fun H u v hu ⟨p, vs, ev, hp, z⟩ Q k => by
  have e : vs = xs.map V.str := A2.map_eq (z.imp fun _ _ q => q.1)
  subst e
  rw [show u = .str s from hu.1]
  exact ⟨p, _, ev, .inr hp, rfl, flat_strs xs, k _ H (Same.refl H) (by show V.bl (inV _ _) = _; rw [inV_strs])⟩
theorem ev_ninT {xs : List Str} (h : Ev rS ta G s) (h' : Ev (rT K rS) tb G xs) : Ev rB (tOp (rIn K true) ta tb) G (!decide (s ∈ xs)) := ev_op h h' fun H u v hu ⟨p, vs, ev, hp, z⟩ Q k => by
  have e : vs = xs.map V.str := A2.map_eq (z.imp fun _ _ q => q.1)
  subst e
  rw [show u = .str s from hu.1]
  exact ⟨p, _, ev, .inr hp, rfl, flat_strs xs, k _ H (Same.refl H) (by show V.bl (!inV _ _) = _; rw [inV_strs])⟩

/-! ### methods of texts -/
theorem a2_strs {H : Hp} : ∀ {xs : List Str}, (∀ x ∈ xs, okS x) → A2 (rS H) (xs.map V.str) xs
  | [], _ => .nil
  | x :: xs, h => .cons ⟨rfl, h x (List.mem_cons_self ..)⟩ (a2_strs fun y hy => h y (List.mem_cons_of_mem _ hy))
theorem strs_a2 {H : Hp} {vs : List V} {xs : List Str} (z : A2 (rS H) vs xs) : vs = xs.map V.str := A2.map_eq (z.imp fun _ _ q => q.1)
theorem nw_split (h : Ev rS ta G s) (h' : Ev rS tb G t) (ht : (t.length == 0) = false) (hz : s.length ≤ 1000) (hk : ∀ x ∈ Txt.split s t, okS x) :
    Nw (nl K rS) (tM1 (fun x xs H Q => ∃ a b, x = .str a ∧ xs = [.str b] ∧ (b.length == 0) = false ∧ a.length + 2 ≤ sizeLine ∧ rNewStrs (Txt.split a b) H Q) ta tb) G (Txt.split s t) := fun H0 σ H E Q k =>
  h H0 σ H E _ fun v H1 e1 z1 => ⟨⟨s, z1.1⟩, h' H0 σ H1 (E.grow e1) _ fun w H2 e2 z2 => ⟨s, t, z1.1, by rw [show w = .str t from z2.1], ht, sz (by omega), fun p hp => k _ _ [p] ((e1.trans e2).trans (same_new hp)) (fun b hb => by rw [List.mem_singleton.mp hb]; exact free_back (e1.trans e2) hp) ⟨p, _, rfl, rfl, upd_same, stbs (a2_strs hk)⟩⟩⟩
theorem ev_upper (h : Ev rS ta G s) (hk : okS (Txt.upper s)) : Ev rS (tM0 (fun x xs H Q => ∃ a, x = .str a ∧ xs = [] ∧ a.length ≤ 5592405 ∧ Q (.str (Txt.upper a)) H) ta) G (Txt.upper s) := fun H0 σ H E Q k =>
  h H0 σ H E _ fun v H1 e1 z1 => ⟨⟨s, z1.1⟩, s, z1.1, rfl, by have := z1.2.1; omega, k _ H1 e1 ⟨rfl, hk⟩⟩
theorem ev_join {xs : List Str} (h : Ev rS ta G s) (h' : Ev (rL rS) tb G xs) (hz : (xs.map (·.length)).sum + xs.length * s.length ≤ 16777216) (hk : okS (Txt.join s xs)) :
    Ev rS (tM1 (fun x xs H Q => ∃ a p, ∃ ys : List Str, x = .str a ∧ xs = [.ref p] ∧ (SqL K H p (ys.map V.str) ∨ SqT K H p (ys.map V.str)) ∧ (ys.map (·.length)).sum + ys.length * a.length ≤ 16777216 ∧ Q (.str (Txt.join a ys)) H) ta tb) G (Txt.join s xs) := fun H0 σ H E Q k =>
  h H0 σ H E _ fun v H1 e1 z1 => ⟨⟨s, z1.1⟩, h' H0 σ H1 (E.grow e1) _ fun w H2 e2 ⟨p, vs, ev, hp, z2⟩ => ⟨s, p, xs, z1.1, by rw [ev], .inl (by rw [← strs_a2 z2]; exact SqL.of hp), hz, k _ H2 (e1.trans e2) ⟨rfl, hk⟩⟩⟩
abbrev P3 := Str × Str × Str
theorem ev_partition (h : Ev rS ta G s) (h' : Ev rS tb G t) (ht : (t.length == 0) = false) (hk : okS (Txt.partition s t).1 ∧ okS (Txt.partition s t).2.1 ∧ okS (Txt.partition s t).2.2) :
    Ev (rT K rS) (tM1 (fun x xs H Q => ∃ a b, x = .str a ∧ xs = [.str b] ∧ (b.length == 0) = false ∧ a.length ≤ sizeLine ∧
      ∀ p, H p = none → Q (.ref p) (upd H p (.tup [.str (Txt.partition a b).1, .str (Txt.partition a b).2.1, .str (Txt.partition a b).2.2]))) ta tb) G [(Txt.partition s t).1, (Txt.partition s t).2.1, (Txt.partition s t).2.2] := fun H0 σ H E Q k =>
  h H0 σ H E _ fun v H1 e1 z1 => ⟨⟨s, z1.1⟩, h' H0 σ H1 (E.grow e1) _ fun w H2 e2 z2 => ⟨s, t, z1.1, by rw [show w = .str t from z2.1], ht, sz z1.2.1, fun p hp => k _ _ ((e1.trans e2).trans (same_new hp)) ⟨p, _, rfl, SqT.of upd_same, .cons ⟨rfl, hk.1⟩ (.cons ⟨rfl, hk.2.1⟩ (.cons ⟨rfl, hk.2.2⟩ .nil))⟩⟩⟩
end

/-! ### rpartition -/
section
variable {X : Cx} {o e : Expr} {to te : TE}
abbrev rRpart : V → List V → Hp → VK → Prop := fun x xs H Q => ∃ a b, x = .str a ∧ xs = [.str b] ∧ (b.length == 0) = false ∧ a.length ≤ sizeLine ∧
    ∀ p, H p = none → Q (.ref p) (upd H p (.tup [.str (Txt.rpartition a b).1, .str (Txt.rpartition a b).2.1, .str (Txt.rpartition a b).2.2]))
theorem mt_rpartition : MtR X "str.rpartition" rRpart := by
  intro pins s σ H x xs v us Q I rx rs h
  obtain ⟨a, b, rfl, rfl, hb, hz, h⟩ := h
  obtain ⟨t, rfl⟩ := rx
  cases rs with
  | cons r1 rs =>
    cases rs
    obtain ⟨u, rfl⟩ := r1
    refine call_meets F.slot_str_rpartition (typeIs_str _ _ _) F.entry_str_rpartition (F.args_str_rpartition_2 _ _) (meets_str_rpartition a b t u hb hz) ?_
    unfold Txt.rpartition at h
    revert h
    cases hl : Builtin.Str.lastOccurrence a b 0 a.length with
    | none => exact fun h => laid_parts I h
    | some i => exact fun h => laid_parts I h
theorem pe_rpartition {apos pos : Pos} (ho : PE X o to) (he : PE X e te) (hs : starEach [e] X.env = [(false, eval e X.env)] := by rfl) (hbase : attributeBase o "rpartition" X.env (eval o X.env) = eval o X.env := by rfl) (hline : (apos.endLine == pos.line) = true := by rfl) :
    PE X (.Call (.Attribute o "rpartition" apos) [e] [] pos) (tM1 rRpart to te) := pe_m1 F.slot_str_rpartition F.type_str_rpartition mt_rpartition ho he hs hbase hline
end
theorem ev_rpartition {K : PySem.W.Frag} {G : Cells K} {ta tb : TE} {s t : Str} (h : Ev rS ta G s) (h' : Ev rS tb G t) (ht : (t.length == 0) = false) (hk : okS (Txt.rpartition s t).1 ∧ okS (Txt.rpartition s t).2.1 ∧ okS (Txt.rpartition s t).2.2) :
    Ev (rT K rS) (tM1 rRpart ta tb) G [(Txt.rpartition s t).1, (Txt.rpartition s t).2.1, (Txt.rpartition s t).2.2] := fun H0 σ H E Q k =>
  h H0 σ H E _ fun v H1 e1 z1 => ⟨⟨s, z1.1⟩, h' H0 σ H1 (E.grow e1) _ fun w H2 e2 z2 => ⟨s, t, z1.1, by rw [show w = .str t from z2.1], ht, sz z1.2.1, fun p hp => k _ _ ((e1.trans e2).trans (same_new hp)) ⟨p, _, rfl, SqT.of upd_same, .cons ⟨rfl, hk.1⟩ (.cons ⟨rfl, hk.2.1⟩ (.cons ⟨rfl, hk.2.2⟩ .nil))⟩⟩⟩
end Gt
/-! Gt5: one lemma a construct, whatever the kinds (by instances). -/
namespace Gt
open PySem PySem.Spec PyProof.Rows L2
section
variable {K : PySem.W.Frag} {H0 H1 H H' : Hp} {σ : L2.St} {G G' Gx : Cells K} {α β γ S : Type}
variable {ta tb tc te : TE} {tt tu tv : TT} {r : Rp α} {q : Rp β} {R : Rp γ} {a x : α} {b y : β} {i j n m : Int} {s t : Str} {c d : Bool} {z w : γ}
/-- flat things that == compares -/
class EqF {α : Type} (r : Rp α) where
  enc : α → V
  dec : DecidableEq α
  inj : ∀ {x y : α}, enc x = enc y → x = y
  rep : ∀ {H : Hp} {v : V} {a : α}, r H v a → v = enc a
  sc : ∀ x y : α, scal (enc x) (enc y) = true
instance : EqF rI := ⟨V.int, inferInstance, fun h => V.int.inj h, fun h => h, fun _ _ => rfl⟩
instance : EqF rS := ⟨V.str, inferInstance, fun h => V.str.inj h, fun h => h.1, fun _ _ => rfl⟩
instance : EqF rB := ⟨V.bl, inferInstance, fun h => V.bl.inj h, fun h => h, fun _ _ => rfl⟩
def encO {α : Type} (f : α → V) : Option α → V
  | .none => .non
  | .some a => f a
instance : EqF (rO rS) := ⟨encO V.str, inferInstance, fun {x y} h => match x, y, h with
  | .none, .none, _ => rfl
  | .some _, .some _, h => by rw [V.str.inj h], fun {_ _ a} h => match a, h with
  | .none, h => h
  | .some _, h => h.1, fun x y => match x, y with
  | .none, .none => rfl
  | .none, .some _ => rfl
  | .some _, .none => rfl
  | .some _, .some _ => rfl⟩
def eqF {α : Type} (r : Rp α) [F : EqF r] (x y : α) : Bool := @decide (x = y) (F.dec x y)
theorem ev_eq [F : EqF r] [M : Mono r] (ha : Ev r ta G a) (hb : Ev r tb G x) : Ev rB (tOp rEq ta tb) G (@decide (a = x) (F.dec a x)) := ev_op ha hb fun H u v hu hv Q k => by
  have e1 := F.rep hu
  have e2 := F.rep hv
  subst e1; subst e2
  refine ⟨F.sc _ _, k _ H (Same.refl H) ?_⟩
  show V.bl _ = V.bl _
  congr 1
  by_cases h : a = x
  · subst h
    rw [decide_eq_true rfl]
    exact (@decide_eq_true _ (F.dec _ _) rfl).symm
  · rw [decide_eq_false fun e => h (F.inj e)]
    exact (@decide_eq_false _ (F.dec _ _) h).symm
theorem ev_ne [F : EqF r] [M : Mono r] (ha : Ev r ta G a) (hb : Ev r tb G x) : Ev rB (tOp rNe ta tb) G (!@decide (a = x) (F.dec a x)) := ev_op ha hb fun H u v hu hv Q k => by
  have e1 := F.rep hu
  have e2 := F.rep hv
  subst e1; subst e2
  refine ⟨F.sc _ _, k _ H (Same.refl H) ?_⟩
  show V.bl _ = V.bl _
  congr 2
  by_cases h : a = x
  · subst h
    rw [decide_eq_true rfl]
    exact (@decide_eq_true _ (F.dec _ _) rfl).symm
  · rw [decide_eq_false fun e => h (F.inj e)]
    exact (@decide_eq_false _ (F.dec _ _) h).symm

/-- a list that is read (the script too) -/
def rQ (K : PySem.W.Frag) {β : Type} (r : Rp β) : Rp (List β) := fun H v xs => ∃ a vs, v = .ref a ∧ SqL K H a vs ∧ A2 (r H) vs xs
instance [M : Mono r] : Mono (rQ K r) := ⟨fun e ⟨a, vs, ev, h, q⟩ => ⟨a, vs, ev, e.seq h, q.imp fun _ _ z => M.up e z⟩⟩
theorem rQ_of (h : rL r H v xs) : rQ K r H v xs := let ⟨a, vs, ev, hp, z⟩ := h; ⟨a, vs, ev, SqL.of hp, z⟩

/-- what has items by place -/
class Ixd (K : PySem.W.Frag) {γ α : Type} (R : Rp γ) (z : γ) (r : outParam (Rp α)) (its : outParam (List α)) (ok : outParam Prop) : Prop where
  ix : ∀ {H : Hp} {u : V} {i : Int} {x : α} {Q : VK}, R H u z → ok → atI its i = some x → (∀ v, r H v x → Q v H) → rIx K u (.int i) H Q
instance {xs : List α} [M : Mono r] : Ixd K (rL r) xs r xs True := ⟨fun {H u i x Q} ⟨p, vs, ev, hp, h⟩ _ hx k => by
  obtain ⟨w, hw, hr⟩ := atI_A2 h hx
  exact .inl ⟨p, vs, i, w, ev, rfl, SqL.of hp, hw, k w hr⟩⟩
instance {xs : List α} [M : Mono r] : Ixd K (rQ K r) xs r xs True := ⟨fun {H u i x Q} ⟨p, vs, ev, hp, h⟩ _ hx k => by
  obtain ⟨w, hw, hr⟩ := atI_A2 h hx
  exact .inl ⟨p, vs, i, w, ev, rfl, hp, hw, k w hr⟩⟩
instance {xs : List α} [M : Mono r] : Ixd K (rT K r) xs r xs True := ⟨fun {H u i x Q} ⟨p, vs, ev, hp, h⟩ _ hx k => by
  obtain ⟨w, hw, hr⟩ := atI_A2 h hx
  exact .inr (.inl ⟨p, vs, i, w, ev, rfl, hp, hw, k w hr⟩)⟩
/-- the signs of a text, each a text -/
def chs (s : Str) : List Str := s.cps.toList.map fun c => (⟨#[c]⟩ : Str)
theorem chs_len (s : Str) : (chs s).length = s.length := by unfold chs; rw [List.length_map]; exact Array.length_toList
theorem atI_map {f : α → β} {l : List α} {i : Int} : atI (l.map f) i = (atI l i).map f := by
  unfold atI
  rw [List.length_map]
  cases ixN l.length i with
  | none => rfl
  | some j => show (l.map f)[j]? = _; rw [List.getElem?_map]; rfl
instance {z : Str} : Ixd K rS z rS (chs z) True := ⟨fun {H u i x Q} hu _ hx k => by
  unfold chs at hx
  rw [atI_map] at hx
  cases e : atI z.cps.toList i with
  | none => rw [e] at hx; cases hx
  | some c =>
    rw [e] at hx
    cases hx
    exact .inr (.inr ⟨z, i, c, hu.1, rfl, sz hu.2.1, e, k _ ⟨rfl, okS_chr hu.2 (atI_mem e)⟩⟩)⟩
theorem ev_ix {its : List α} {ok : Prop} [I : Ixd K R z r its ok] [M : Mono R] (h : Ev R ta G z) (hi : Ev rI tb G i) (hk : ok) (hx : atI its i = some x) : Ev r (tOp (rIx K) ta tb) G x := ev_op h hi fun H u v hu hv Q k => by
  rw [show v = .int i from hv]
  exact I.ix hu hk hx fun w hw => k w H (Same.refl H) hw

/-- what has a length -/
class Lnd (K : PySem.W.Frag) {γ : Type} (R : Rp γ) (z : γ) (ln : outParam Nat) (ok : outParam Prop) : Prop where
  len : ∀ {H : Hp} {u : V}, R H u z → ok → LenV K u H ln
instance {z : List α} : Lnd K (rL r) z z.length True := ⟨fun {H u} ⟨p, vs, ev, hp, h⟩ _ => by rw [ev, ← h.len]; exact .inl ⟨vs, SqL.of hp, rfl⟩⟩
instance {z : List α} : Lnd K (rQ K r) z z.length True := ⟨fun {H u} ⟨p, vs, ev, hp, h⟩ _ => by rw [ev, ← h.len]; exact .inl ⟨vs, hp, rfl⟩⟩
instance {z : List α} : Lnd K (rT K r) z z.length True := ⟨fun {H u} ⟨p, vs, ev, hp, h⟩ _ => by rw [ev, ← h.len]; exact .inr ⟨vs, hp, rfl⟩⟩
instance {z : α × β} : Lnd K (rP K r q) z 2 True := ⟨fun {H u} ⟨p, x, y, ev, hp, _⟩ _ => by rw [ev]; exact .inr ⟨_, hp, rfl⟩⟩
instance {z : Str} : Lnd K rS z z.length True := ⟨fun {H u} hu _ => by rw [show u = .str z from hu.1]; exact ⟨sz hu.2.1, rfl⟩⟩
theorem ev_len {ln : Nat} {ok : Prop} [L : Lnd K R z ln ok] [M : Mono R] (h : Ev R te G z) (hk : ok) : Ev rI (tCB (rLenU K) (tCons te tNil)) G (ln : Int) := ev_cb (ea_cons h ea_nil) fun H vs ⟨v, ws, e, hv, e2⟩ Q k =>
  ⟨v, ln, by rw [e, show ws = [] from e2], L.len hv hk, k _ H (Same.refl H) rfl⟩
/-- what truth tells -/
class Tru (K : PySem.W.Frag) {γ : Type} (R : Rp γ) (z : γ) (f : outParam Bool) (ok : outParam Prop) : Prop where
  tru : ∀ {H : Hp} {u : V}, R H u z → ok → TruV K u H f
instance {z : List α} : Tru K (rL r) z (!z.isEmpty) True := ⟨fun {H u} ⟨p, vs, ev, hp, h⟩ _ => by rw [ev]; exact .inl ⟨vs, SqL.of hp, by rw [a2_empty h]⟩⟩
instance {z : List α} : Tru K (rT K r) z (!z.isEmpty) True := ⟨fun {H u} ⟨p, vs, ev, hp, h⟩ _ => by rw [ev]; exact .inr (.inl ⟨vs, hp, by rw [a2_empty h]⟩)⟩
instance {z : Int} : Tru K rI z (z != 0) True := ⟨fun {H u} hu _ => by rw [show u = .int z from hu]; exact rfl⟩
instance {z : Str} : Tru K rS z ((z.length : Int) != 0) True := ⟨fun {H u} hu _ => by rw [show u = .str z from hu.1]; exact ⟨sz hu.2.1, rfl⟩⟩
theorem et_tru {f : Bool} {ok : Prop} [L : Tru K R z f ok] (h : Ev R ta G z) (hk : ok) : EvT (tTru K ta) G f := fun H0 σ H E Q k => h H0 σ H E _ fun v H1 e1 hv => ⟨f, L.tru hv hk, k H1 e1⟩
/-- what in asks of a list or tuple of texts -/
class InS (K : PySem.W.Frag) (R : Rp (List Str)) : Prop where
  seq : ∀ {H : Hp} {u : V} {xs : List Str}, R H u xs → ∃ p, u = .ref p ∧ (SqL K H p (xs.map V.str) ∨ SqT K H p (xs.map V.str))
instance : InS K (rL rS) := ⟨fun ⟨p, vs, ev, hp, h⟩ => ⟨p, ev, .inl (by rw [← strs_a2 h]; exact SqL.of hp)⟩⟩
instance : InS K (rQ K rS) := ⟨fun ⟨p, vs, ev, hp, h⟩ => ⟨p, ev, .inl (by rw [← strs_a2 h]; exact hp)⟩⟩
instance : InS K (rT K rS) := ⟨fun ⟨p, vs, ev, hp, h⟩ => ⟨p, ev, .inr (by rw [← strs_a2 h]; exact hp)⟩⟩
theorem ev_in {R : Rp (List Str)} {xs : List Str} [I : InS K R] [M : Mono R] (h : Ev rS ta G s) (h' : Ev R tb G xs) : Ev rB (tOp (rIn K false) ta tb) G (decide (s ∈ xs)) := ev_op h h' fun H u v hu hv Q k => by
  obtain ⟨p, ev, hp⟩ := I.seq hv
  rw [show u = .str s from hu.1]
  exact ⟨p, _, ev, hp, rfl, flat_strs xs, k _ H (Same.refl H) (by show V.bl (inV _ _) = _; rw [inV_strs])⟩
theorem ev_nin {R : Rp (List Str)} {xs : List Str} [I : InS K R] [M : Mono R] (h : Ev rS ta G s) (h' : Ev R tb G xs) : Ev rB (tOp (rIn K true) ta tb) G (!decide (s ∈ xs)) := ev_op h h' fun H u v hu hv Q k => by
  obtain ⟨p, ev, hp⟩ := I.seq hv
  rw [show u = .str s from hu.1]
  exact ⟨p, _, ev, hp, rfl, flat_strs xs, k _ H (Same.refl H) (by show V.bl (!inV _ _) = _; rw [inV_strs])⟩
/-- a list or tuple as list(..) and tuple(..) take it -/
class Seq (K : PySem.W.Frag) {α : Type} (r : outParam (Rp α)) (R : Rp (List α)) : Prop where
  seq : ∀ {H : Hp} {u : V} {xs : List α}, R H u xs → ∃ p vs, u = .ref p ∧ (SqL K H p vs ∨ SqT K H p vs) ∧ A2 (r H) vs xs
instance : Seq K r (rL r) := ⟨fun ⟨p, vs, ev, hp, h⟩ => ⟨p, vs, ev, .inl (SqL.of hp), h⟩⟩
instance : Seq K r (rQ K r) := ⟨fun ⟨p, vs, ev, hp, h⟩ => ⟨p, vs, ev, .inl hp, h⟩⟩
instance : Seq K r (rT K r) := ⟨fun ⟨p, vs, ev, hp, h⟩ => ⟨p, vs, ev, .inr hp, h⟩⟩
theorem nw_list {R : Rp (List α)} {xs : List α} [I : Seq K r R] [N : Mono R] [M : Mono r] [F : Frz K r] (h : Ev R te G xs) : Nw (nl K r) (tCB (rListU K) (tCons te tNil)) G xs := nw_cb (ea_cons h ea_nil) fun H vs ⟨v, ws, e, hv, e2⟩ Q k => by
  obtain ⟨p, us, ev, hp, h⟩ := I.seq hv
  exact ⟨p, us, by rw [e, show ws = [] from e2, ev], hp, fun l hl => k _ _ [l] (same_new hl) (fun b hb => by rw [List.mem_singleton.mp hb]; exact hl) ⟨l, us, rfl, rfl, upd_same, h.imp fun _ _ q => stb (M.up (same_new hl) q)⟩⟩
theorem ev_tupC {R : Rp (List α)} {xs : List α} [I : Seq K r R] [N : Mono R] [M : Mono r] (h : Ev R te G xs) : Ev (rT K r) (tCB (rTupU K) (tCons te tNil)) G xs := ev_cb (ea_cons h ea_nil) fun H vs ⟨v, ws, e, hv, e2⟩ Q k => by
  obtain ⟨p, us, ev, hp, h⟩ := I.seq hv
  refine ⟨p, us, by rw [e, show ws = [] from e2, ev], ?_⟩
  rcases hp with hp | hp
  · exact .inl ⟨hp, fun l hl => k _ _ (same_new hl) ⟨l, us, rfl, SqT.of upd_same, h.imp fun _ _ q => M.up (same_new hl) q⟩⟩
  · exact .inr ⟨hp, k _ H (Same.refl H) ⟨p, us, rfl, hp, h⟩⟩
/-- isinstance of a thing whose class its kind tells -/
class TyN (K : PySem.W.Frag) {γ : Type} (R : Rp γ) (T : outParam String) : Prop where
  ty : ∀ {H : Hp} {u : V} {z : γ}, R H u z → TyX K H u (.type T)
instance : TyN K rS "str" := ⟨fun h => by rw [h.1]; exact .base (.str _)⟩
instance : TyN K rI "int" := ⟨fun h => by rw [h]; exact .base (.int _)⟩
instance : TyN K rB "bool" := ⟨fun h => by rw [h]; exact .base (.bl _)⟩
instance : TyN K (rL r) "list" := ⟨fun ⟨p, vs, ev, hp, _⟩ => by rw [ev]; exact .base (.lst hp)⟩
theorem ty_tup {p : Addr} {vs : List V} (h : SqT K H p vs) : TyX K H (.ref p) (.type "tuple") := by
  rcases h with (h | ⟨o, h⟩) | ⟨o, its, n, h1, h2, _⟩
  · exact .base (.tup h)
  · exact .fTuple h
  · exact .kTuple h1 h2
instance : TyN K (rT K r) "tuple" := ⟨fun ⟨p, vs, ev, hp, _⟩ => by rw [ev]; exact ty_tup hp⟩
instance : TyN K (rP K r q) "tuple" := ⟨fun ⟨p, x, y, ev, hp, _⟩ => by rw [ev]; exact ty_tup hp⟩
theorem ev_isi {T T' : String} {f : Bool} [N : TyN K R T] [M : Mono R] (h : Ev R te G z) (hb : kitB T T' = some f) : Ev rB (tCB (rIsi K) (tCons te (tCons (tC (.ty T')) tNil))) G f := fun H0 σ H E Q k =>
  h H0 σ H E _ fun v H1 e1 hv => ⟨v, .ty T', .type T, .type T', f, rfl, .ty T', N.ty hv, kit_ty hb, k _ H1 e1 rfl⟩
end
end Gt
/-! Gt6: the hand layer's rules with the written part by its own letter. -/
namespace Gt
open PySem PySem.Spec PyProof.Rows L2
section
variable {X : Cx} (K : PySem.W.Frag) {e o l : Expr} {es : List Expr} {te ta tl to : TE} {t : TA} {pos apos cpos : Pos} {tg : Expr}
theorem k_ix (h : X.K = K := by rfl) : IxR X (rIx K) := by subst h; exact ix_seq
theorem k_slL (h : X.K = K := by rfl) : SlR X (rSlL K) := by subst h; exact sl_list
theorem k_len (h : X.K = K := by rfl) : CallR X (.builtin "len") (rLenU K) := by subst h; exact call_len
theorem k_list (h : X.K = K := by rfl) : CallR X (.type "list") (rListU K) := by subst h; exact call_list_of
theorem k_tuple (h : X.K = K := by rfl) : CallR X (.type "tuple") (rTupU K) := by subst h; exact call_tuple_of
theorem k_in (h : X.K = K := by rfl) : OpR X (compareOp .In) (rIn K false) := by subst h; exact op_in_seq
theorem k_nin (h : X.K = K := by rfl) : OpR X (compareOp .NotIn) (rIn K true) := by subst h; exact op_notIn_seq
theorem k_all (hc : X.calm = true) (h : X.K = K := by rfl) : CallR X (.builtin "all") (rAll K) := by subst h; exact cr_all hc
theorem k_any (hc : X.calm = true) (h : X.K = K := by rfl) : CallR X (.builtin "any") (rAny K) := by subst h; exact cr_any hc
theorem k_sum (hc : X.calm = true) (h : X.K = K := by rfl) : CallR X (.builtin "sum") (rSum K) := by subst h; exact cr_sum hc
theorem k_isi (h : X.K = K := by rfl) : CallR X (.builtin "isinstance") (rIsi K) := by subst h; exact call_isi
theorem k_eqD (hu : X.A.units + 64 < cLine) (h : X.K = K := by rfl) : OpR X (compareOp .Eq) (rEqD K) := by subst h; exact op_eqD hu
theorem k_neD (hu : X.A.units + 64 < cLine) (h : X.K = K := by rfl) : OpR X (compareOp .NotEq) (rNeD K) := by subst h; exact op_neD hu
theorem k_inD (hu : X.A.units + 65 < cLine) (h : X.K = K := by rfl) : OpR X (compareOp .In) (rInD K) := by subst h; exact op_inD hu
theorem k_ninD (hu : X.A.units + 65 < cLine) (h : X.K = K := by rfl) : OpR X (compareOp .NotIn) (rNotInD K) := by subst h; exact op_notInD hu
theorem pi_listK (hl : PE X l tl) (h : X.K = K := by rfl) : PI X tg l (iList K tl) := by subst h; exact pi_list hl
theorem pi_tupK (hl : PE X l tl) (h : X.K = K := by rfl) : PI X tg l (iTup K tl) := by subst h; exact pi_tup hl
theorem pg_tupK {k n : Nat} {t : TGs} (hc : X.calm = true) (ht : PGs X es t) (h : X.K = K := by rfl) (hn : (assignEach es X.env).length = n := by rfl) (hst : (assignEach es X.env).findIdx? (·.1) = none := by rfl) : PG X (.Tuple es k pos) (gTup K n t) := by subst h; exact pg_tup hc ht hn hst
theorem pt_tru (ha : PE X e te) (h : X.K = K := by rfl) (he : ∀ whole, isTrue e X.env whole = (do let v ← whole; standAt e.pos; holding [v] (truthy v)) := by intro _; rfl) : PT X e (tTru K te) := by subst h; exact pt_truth ha he
theorem pe_joinK (ho : PE X o to) (he : PE X e te) (h : X.K = K := by rfl) (hs : starEach [e] X.env = [(false, eval e X.env)] := by rfl) (hbase : attributeBase o "join" X.env (eval o X.env) = eval o X.env := by rfl) (hline : (apos.endLine == pos.line) = true := by rfl) :
    PE X (.Call (.Attribute o "join" apos) [e] [] pos) (tM1 (fun x xs H Q => ∃ a p, ∃ ys : List Str, x = .str a ∧ xs = [.ref p] ∧ (SqL K H p (ys.map V.str) ∨ SqT K H p (ys.map V.str)) ∧
      (ys.map (·.length)).sum + ys.length * a.length ≤ 16777216 ∧ Q (.str (Txt.join a ys)) H) to te) := by subst h; exact pe_join ho he hs hbase hline
theorem pe_app (ho : PE X o to) (ha : PA X (e :: es) t) (h : X.K = K := by rfl) (hbase : attributeBase o "append" X.env (eval o X.env) = eval o X.env := by rfl)
    (hfew : ((backTo cpos (starEach (e :: es) X.env)).all (fun x => !x.1) && (backToKw cpos (keywordEach [] X.env)).all (fun x => x.1.isSome)
      && decide ((e :: es).length + ([] : List Keyword).length + (if ([] : List Keyword).isEmpty then 0 else 1) < 30)) = true := by rfl)
    (hline : (apos.endLine == cpos.line) = true := by rfl) (hs : starEach (e :: es) X.env = (false, eval e X.env) :: starEach es X.env := by rfl) (hplain : (backTo cpos (starEach es X.env)).any (·.1) = false := by rfl) :
    PE X (.Call (.Attribute o "append" apos) (e :: es) [] cpos) (tBM K "list" rAppend to t) := by subst h; exact pe_bm PySem.F.plainAttrs_list PySem.F.slot_list_append PySem.F.type_list_append mt_append ho ha hbase hfew hline hs hplain
theorem pe_popK (ho : PE X o to) (h : X.K = K := by rfl) (hbase : attributeBase o "pop" X.env (eval o X.env) = eval o X.env := by rfl) (hline : (apos.endLine == cpos.line) = true := by rfl) : PE X (.Call (.Attribute o "pop" apos) [] [] cpos) (tBM0 K "list" rPop to) := by
  subst h; exact pe_bm0 PySem.F.plainAttrs_list PySem.F.slot_list_pop PySem.F.type_list_pop mt_pop ho hbase hline
theorem pe_fldK {f : Str} (he : PE X e ta) (h : X.K = K := by rfl) (hb : attributeBase e f X.env (eval e X.env) = eval e X.env := by rfl) : PE X (.Attribute e f pos) (tFld K ta f) := by subst h; exact pe_fld he hb
end
/-! ### append, pop on a cell -/
section
variable {K : PySem.W.Frag} {H0 : Hp} {G : Cells K} {α : Type} {r : Rp α} {te : TE} {u : TS} {D : Ends} {i : Nat} {xs : List α} {x : α}
theorem l_app {x' : α} (hi : G[i]? = some (some (.ow (nl K r) xs))) (h : Ev r te G x') (ex : x' = x) (hz : xs.length < 100000) (k : Nx H0 (G.set i (some (.ow (nl K r) (xs ++ [x])))) D.nx) (F : Frz K r := by infer_instance) :
    Sv H0 G (tDrop (tBM K "list" rAppend (tVar i) (tCons te tNil))) D := fun σ H ⟨H1, e1, E⟩ => by
  subst ex
  obtain ⟨own, h1, h2, h3⟩ := id E.at_
  obtain ⟨v, hv, p, vs, ea, ev, hp, z⟩ := h3 i _ hi
  subst ev
  refine ⟨_, hv, .inl ⟨rfl, vs, SqL.of hp⟩, h H1 σ H E _ fun w H2 e2 hw => ?_⟩
  have z2 : A2 (Stb K r H2) vs xs := z.imp fun _ _ q => q.up (ext_same e2)
  exact ⟨p, vs, w, rfl, rfl, e2 _ _ hp, Nat.lt_of_le_of_lt (by rw [z.len]; omega) (by decide : 100000 < sizeLine), k _ _ ⟨H1, e1, app_env (E.grow e2) hi hv (e2 _ _ hp) z2 (stb hw)⟩⟩
theorem q_app {x' : α} (hi : G[i]? = some (some (.ow (nl K r) xs))) (h : Ev r te G x') (ex : x' = x) (hz : xs.length < 100000) (k : Sv H0 (G.set i (some (.ow (nl K r) (xs ++ [x])))) u D) (F : Frz K r := by infer_instance) :
    Sv H0 G (tSeq (tDrop (tBM K "list" rAppend (tVar i) (tCons te tNil))) u) D := l_app hi h ex hz k F
end
end Gt
/-! Gt7: the same for apply: what evaluates first, its instances behind it. -/
namespace Gt
open PySem PySem.Spec PyProof.Rows L2
section
variable {K : PySem.W.Frag} {H0 H1 H H' : Hp} {σ : L2.St} {G G' Gx : Cells K} {α β γ S : Type}
variable {ta tb tc te : TE} {tt tu tv : TT} {r : Rp α} {q : Rp β} {R : Rp γ} {a x : α} {b y : β} {i j n m : Int} {s t : Str} {c d : Bool} {z w : γ}
theorem a_fz {i : Nat} (h : G[i]? = some (some (.ow (fz K r) a))) : Ev r (tVar i) G a := ev_fz h
theorem a_lst {i : Nat} {xs : List α} (h : G[i]? = some (some (.ow (nl K r) xs))) : Ev (rL r) (tVar i) G xs := ev_lst h
theorem a_ro {i : Nat} {M : Mono r} (h : G[i]? = some (some (.ro r M a))) : Ev r (tVar i) G a := ev_ro h
/-- what is left once the first operand is known -/
def EqC (r : Rp α) (a x : α) (f : Bool) : Prop := ∀ (K : PySem.W.Frag) (G : Cells K) ta tb, Ev r ta G a → Ev r tb G x → Ev rB (tOp rEq ta tb) G f ∧ Ev rB (tOp rNe ta tb) G (!f)
theorem eqc_I : EqC rI i j (decide (i = j)) := fun K G ta tb h h' => ⟨ev_eqI h h', ev_neI h h'⟩
theorem eqc_S : EqC rS s t (decide (s = t)) := fun K G ta tb h h' => ⟨ev_eqS h h', ev_neS h h'⟩
theorem eqc_B : EqC rB c d (decide (c = d)) := fun K G ta tb h h' => ⟨ev_eqB h h', ev_neB h h'⟩
theorem eqc_O {s t : Option Str} : EqC (rO rS) s t (decide (s = t)) := fun K G ta tb h h' => ⟨ev_eq h h', ev_ne h h'⟩
theorem a_eq {f : Bool} (h : Ev r ta G a) (h' : Ev r tb G x) (e : EqC r a x f) : Ev rB (tOp rEq ta tb) G f := (e K G ta tb h h').1
theorem a_ne {f : Bool} (h : Ev r ta G a) (h' : Ev r tb G x) (e : EqC r a x f) : Ev rB (tOp rNe ta tb) G (!f) := (e K G ta tb h h').2
theorem a_in {R : Rp (List Str)} {xs : List Str} (h : Ev rS ta G s) (h' : Ev R tb G xs) (I : InS K R) (M : Mono R) : Ev rB (tOp (rIn K false) ta tb) G (decide (s ∈ xs)) := ev_in h h'
theorem a_nin {R : Rp (List Str)} {xs : List Str} (h : Ev rS ta G s) (h' : Ev R tb G xs) (I : InS K R) (M : Mono R) : Ev rB (tOp (rIn K true) ta tb) G (!decide (s ∈ xs)) := ev_nin h h'
def IxC (K : PySem.W.Frag) (R : Rp γ) (z : γ) (tb : TE) (G : Cells K) (r : Rp α) (x : α) : Prop := ∀ ta, Ev R ta G z → Ev r (tOp (rIx K) ta tb) G x
theorem a_ix (h : Ev R ta G z) (k : IxC K R z tb G r x) : Ev r (tOp (rIx K) ta tb) G x := k ta h
theorem ixc_L {xs : List α} [M : Mono r] (hi : Ev rI tb G i) (hx : atI xs i = some x) : IxC K (rL r) xs tb G r x := fun ta h => ev_ix h hi trivial hx
theorem ixc_Q {xs : List α} [M : Mono r] (hi : Ev rI tb G i) (hx : atI xs i = some x) : IxC K (rQ K r) xs tb G r x := fun ta h => ev_ix h hi trivial hx
theorem ixc_T {xs : List α} [M : Mono r] (hi : Ev rI tb G i) (hx : atI xs i = some x) : IxC K (rT K r) xs tb G r x := fun ta h => ev_ix h hi trivial hx
theorem ixc_S {t : Str} (hi : Ev rI tb G i) (hx : atI (chs s) i = some t) : IxC K rS s tb G rS t := fun ta h => ev_ix h hi trivial hx
theorem ixc_0 {p : α × β} [M : Mono r] [N : Mono q] : IxC K (rP K r q) p (tC (.int 0)) G r p.1 := fun ta h => ev_fst h
theorem ixc_1 {p : α × β} [M : Mono r] [N : Mono q] : IxC K (rP K r q) p (tC (.int 1)) G q p.2 := fun ta h => ev_snd h
def LnC (K : PySem.W.Frag) (R : Rp γ) (z : γ) (n : Nat) : Prop := ∀ (G : Cells K) te, Ev R te G z → Ev rI (tCB (rLenU K) (tCons te tNil)) G (n : Int)
theorem a_len {n : Nat} (h : Ev R te G z) (k : LnC K R z n) : Ev rI (tCB (rLenU K) (tCons te tNil)) G (n : Int) := k G te h
theorem lnc_L {xs : List α} [M : Mono r] : LnC K (rL r) xs xs.length := fun G te h => ev_len h trivial
theorem lnc_Q {xs : List α} [M : Mono r] : LnC K (rQ K r) xs xs.length := fun G te h => ev_len h trivial
theorem lnc_T {xs : List α} [M : Mono r] : LnC K (rT K r) xs xs.length := fun G te h => ev_len h trivial
theorem lnc_P {p : α × β} [M : Mono r] [N : Mono q] : LnC K (rP K r q) p 2 := fun G te h => ev_len h trivial
theorem lnc_S : LnC K rS s s.length := fun G te h => ev_len h trivial
def IntC (R : Rp γ) (z : γ) (n : Int) : Prop := ∀ (K : PySem.W.Frag) (G : Cells K) te, Ev R te G z → Ev rI (tCB rIntU (tCons te tNil)) G n
theorem a_int (h : Ev R te G z) (k : IntC R z n) : Ev rI (tCB rIntU (tCons te tNil)) G n := k K G te h
theorem intc_I : IntC rI i i := fun K G te h => ev_intI h
theorem intc_B : IntC rB c (b2 c) := fun K G te h => ev_intB h
def TrC (K : PySem.W.Frag) (R : Rp γ) (z : γ) (f : Bool) : Prop := ∀ (G : Cells K) te, Ev R te G z → EvT (tTru K te) G f
theorem a_tru {f : Bool} (h : Ev R ta G z) (k : TrC K R z f) : EvT (tTru K ta) G f := k G ta h
theorem trc_L {xs : List α} : TrC K (rL r) xs (!xs.isEmpty) := fun G te h => et_tru h trivial
theorem trc_T {xs : List α} : TrC K (rT K r) xs (!xs.isEmpty) := fun G te h => et_tru h trivial
theorem trc_I : TrC K rI i (i != 0) := fun G te h => et_tru h trivial
theorem trc_S : TrC K rS s ((s.length : Int) != 0) := fun G te h => et_tru h trivial
theorem a_tupC {R : Rp (List α)} {xs : List α} (h : Ev R te G xs) (N : Mono R) (I : Seq K r R) (M : Mono r) : Ev (rT K r) (tCB (rTupU K) (tCons te tNil)) G xs := ev_tupC h
theorem a_list {R : Rp (List α)} {xs : List α} (h : Ev R te G xs) (N : Mono R) (I : Seq K r R) (M : Mono r) (F : Frz K r) : Nw (nl K r) (tCB (rListU K) (tCons te tNil)) G xs := nw_list h
theorem a_isi {T T' : String} {f : Bool} (h : Ev R te G z) (M : Mono R) (N : TyN K R T) (hb : kitB T T' = some f) : Ev rB (tCB (rIsi K) (tCons te (tCons (tC (.ty T')) tNil))) G f := ev_isi h hb
theorem a_cons {A : Ra γ} {g : γ} {tr : TA} (h : Ev r te G a) (M : Mono r) (hr : EvA A tr G g) : EvA (aC r A) (tCons te tr) G (a, g) := ea_cons h hr
theorem a_el {tr : TA} {xs : List α} (h : Ev r te G x) (M : Mono r) (hr : EvA (aAll r) tr G xs) : EvA (aAll r) (tCons te tr) G (x :: xs) := el_cons h hr
theorem a_tup {ta : TA} {xs : List α} (h : EvA (aAll r) ta G xs) (M : Mono r) (hz : xs.length ≤ 100000) : Ev (rT K r) (tTup ta) G xs := ev_tup h hz
theorem a_lstD {ta : TA} {xs : List α} (h : EvA (aAll r) ta G xs) (M : Mono r) (F : Frz K r) (hz : xs.length ≤ 100000) : Nw (nl K r) (tLst ta) G xs := nw_lst h hz
theorem a_pair (h : Ev r ta G a) (M : Mono r) (h' : Ev q tb G b) (N : Mono q) : Ev (rP K r q) (tTup (tCons ta (tCons tb tNil))) G (a, b) := ev_pair h h'
theorem a_slL {xs : List α} {lo hi : Option Int} {tl th : TO} (h : Ev (rL r) ta G xs) (M : Mono r) (F : Frz K r) (hl : EvO tl G lo) (hh : EvO th G hi) : Nw (nl K r) (tSl (rSlL K) ta tl th) G (cut xs lo hi) := nw_slL h hl hh
theorem a_cat {xs ys : List α} (h : Ev (rL r) ta G xs) (M : Mono r) (F : Frz K r) (h' : Ev (rL r) tb G ys) (hz : xs.length + ys.length ≤ 100000) : Nw (nl K r) (tOp rCat ta tb) G (xs ++ ys) := nw_cat h h' hz
theorem a_isN {o : Option α} (ha : Ev (rO r) ta G o) (N : NotNon r) (M : Mono r) : Ev rB (tOp (fun x y H Q => y = .non ∧ Q (.bl (decide (x = .non))) H) ta (tC .non)) G (isNone' o) := ev_isN ha
theorem a_notN {o : Option α} (ha : Ev (rO r) ta G o) (N : NotNon r) (M : Mono r) : Ev rB (tOp (fun x y H Q => y = .non ∧ Q (.bl (!decide (x = .non))) H) ta (tC .non)) G (!isNone' o) := ev_notN ha
def PreOk (pre : γ → Prop) (g : γ) : Prop := pre g
def AppEq (f : γ → β) (g : γ) (b : β) : Prop := f g = b
theorem a_call {A : Ra γ} {g : γ} {pre : γ → Prop} {f : γ → β} {E' : XK} {t : TA} (h : EvA A t G g) (hp : PreOk pre g) (e : AppEq f g b) : Ev q (tCall (spF A pre q f) [] E' t) G b := ev_call h hp e
theorem a_ncall {A : Ra γ} {g : γ} {pre : γ → Prop} {R : Rs K β} {f : γ → β} {E' : XK} {t : TA} (h : EvA A t G g) (hp : PreOk pre g) (e : AppEq f g b) : Nw R (tCall (spN A pre R f) [] E' t) G b := nw_call h hp e
/-- a new list where one is read -/
theorem a_nl {xs : List α} (h : Nw (nl K r) te G xs) : Ev (rL r) te G xs := h.lst
end
end Gt
/-! Gt8: own classes: walks over their instances, operators, items. -/
namespace Gt
open PySem PySem.Spec PyProof.Rows L2

/-- a method of the class at C and its promise -/
structure CalM (P : Program) (w : World) (K : PySem.W.Frag) (mg : Str → Option Value) (base : Heap) (CX : CXT) (C : Addr) (m : Str) (k : Nat) (ps : List Str) (sp : Sp) : Prop where
  ex : ∃ (f : Addr) (fd : FuncData), FnOk P w K mg base CX k f fd ps sp ∧ Meth K C m f ∧ Binds K fd ps []
/-- how the class at C is made -/
structure CalI (P : Program) (w : World) (K : PySem.W.Frag) (mg : Str → Option Value) (base : Heap) (CX : CXT) (C : Addr) (k : Nat) (ps : List Str) (sp : Sp) : Prop where
  ex : ∃ (f : Addr) (fd : FuncData), FnOk P w K mg base CX k f fd ps sp ∧ Mk K C f ∧ Binds K fd ps []
structure DfM (K : PySem.W.Frag) (C : Addr) (x q : Str) (st : Stmt) : Prop where
  ex : ∃ (f : Addr) (fd : FuncData), Fun K x q st f fd ∧ PySem.W.findIn K (.ref C) x = some (some (.ref f)) ∧ PySem.W.isFn K (.ref f) = true

section
variable {X : Cx} {CX : CXT} {pins : List (Addr × Obj)} {σ : L2.St} {H H' : Hp} {s s' : Shared} {C fi a it l : Addr} {k : Nat} {fd : FuncData} {ps : List Str} {sp : Sp} {E : XK} {e : Expr} {te : TE} {tg : Expr} {o : HO}
/-- a body that runs from a known state -/
theorem run_from {P : Program} {w : World} {K : PySem.W.Frag} {mg : Str → Option Value} {base : Heap} {name qual : Str} {params : Arguments} {body : List Stmt} {scope : Scope} {dV kV doc pm cdv ct oc : Value} {an od : Option Addr} {osl : Array (Option Value)} {N : List Str}
    {A : Around} {outer : List PySem.Env} {args : Args} {us : List Value} {vs : List V} {Q : VK} {t : TS} {f : Addr}
    (lk : K.lookup f = some ⟨oc, od, .func (PySem.W.fnOf name qual params body scope dV kV doc pm an cdv ct), osl⟩) (hcd : PySem.W.codeIn K cdv qual = true) (S : FnScope N ps scope) (hl : vs.length = ps.length)
    (hr : Room (k + 1) A) (e0 : Env0 P w K mg base A outer s H) (hb : BindsTo s (PySem.W.fnOf name qual params body scope dV kV doc pm an cdv ct) args (ps.zip us)) (r : Vals vs us)
    (ht : PSs (cxOf CX P w K mg base N qual scope f cdv A outer s H E) body t) (q : t { nx := fun _ H' => Q .non H', rt := Q } (start N vs) H) : codeAny (model P w) A (.call (.ref f) args) (CR CX outer P w H s Q E) s := by
  have KX := e0.mod.kin.keeps fun b o e => (e0.bs b o e).1
  have cells : ∀ y ∈ ps.zip us, scope.names.lookup y.1 = some .local ∨
      (scope.names.lookup y.1 = some .cell ∧ ((cellsFrom (s.heap.objs.size + 1) scope.names []).lookup y.1).isSome = true) := fun ⟨n, v⟩ hy =>
    (S.par n (List.of_mem_zip hy).1).imp id fun z => ⟨z, PySem.W.cellsFrom_some _ _ _ (.inl z)⟩
  have inside : ∀ (u : Value) (s' : Shared) (σ' : L2.St) (H' : Hp) (v : V), L2.Inv (cxOf CX P w K mg base N qual scope f cdv A outer s H E) [] σ' H' s' → RelV v u → Q v H' → CE outer P w H s Q u s' := fun _ _ _ H' v J rv z =>
    ⟨v, H', J.os, J.bare, J.base, J.hok, rv, z⟩
  refine codeAny_call_function hr.depth (KX _ _ lk) rfl S.co S.gen rfl (PySem.W.codeRec_of KX hcd) (hb _ _ _ _ (wpAny_newFunctionEnv_cells S.kind cells ?_))
  intro env he s1 x
  subst he
  refine ⟨Heap.NoLimit.keeps (e0.mod.nolimit.keeps fun b o e => (e0.bs b o e).1) x.toInCall.keep, codeAny_func ?_⟩
  refine wpAny_mono (ht.run [] s1 (start N vs) H _ (inv_start S hr.hd e0 hl r x) q) (fun fl s' hs => ?_) fun _ _ z => z
  cases fl with
  | ret u => exact let ⟨v, σ', H', J, rv, z⟩ := hs; inside u s' σ' H' v J rv z
  | next => exact let ⟨σ', H', J, z⟩ := hs; inside .none s' σ' H' .non J rfl z
  | cont => exact let ⟨_, _, _, z⟩ := hs; False.elim z
  | brk => exact let ⟨_, _, _, z⟩ := hs; False.elim z
/-- __iter__ of the class at C hands out a new iterator of the list in the field g -/
structure ItOk (P : Program) (w : World) (K : PySem.W.Frag) (mg : Str → Option Value) (base : Heap) (C : Addr) (g : Str) : Prop where
  ex : ∃ fi : Addr, PySem.W.findIn K (.ref C) "__iter__" = some (some (.ref fi)) ∧ PySem.W.isFn K (.ref fi) = true ∧
    ∀ (A : Around) (outer : List PySem.Env) (s : Shared) (H : Hp) (a dx l : Addr) (fs : List (Str × V)) (zs : List V) (Q : VK) (E : XK), Room 1 A → Env0 P w K mg base A outer s H → H a = some (.ins C dx fs) → fs.lookup g = some (.ref l) → SqL K H l zs →
      (∀ it, H it = none → s.heap.objs.size ≤ it → Q (.ref it) (upd H it (ItO l it 0))) → codeAny (model P w) A (.call (.ref fi) ⟨[.ref a], []⟩) (CR CX0 outer P w H s Q E) s
theorem run_iter {A : Around} {g : Str} {Q : Value → Shared → Prop} {dx : Addr} {fs : List (Str × V)} {zs : List V} (hrA : Room 1 A) (hfr : A.frames = X.A.frames) (O : ItOk X.prog X.w X.K X.mg X.base C g)
    (I : L2.Inv X pins σ H s) (ha : H a = some (.ins C dx fs)) (hl : fs.lookup g = some (.ref l)) (hz : SqL X.K H l zs)
    (h : ∀ it s2, L2.Inv X pins σ H s2 → s2.heap.IsListIter it l 0 → FpOk X pins H it → Q (.ref it) s2) :
    wpAny (model X.prog X.w) A (pyIter (.ref a)) Q X.xe s := by
  obtain ⟨mA, J, _⟩ := ins_get I.hok ha
  obtain ⟨od, J, _⟩ := J.look
  obtain ⟨m0, hF⟩ := I.fr
  obtain ⟨fi, hs, hf, F⟩ := O.ex
  refine PySem.W.owit_iter hF I.ok.mod.kin J hs hf ?_
  have e0 : Env0 X.prog X.w X.K X.mg X.base A X.stack s H := by
    have e := I.env0
    exact ⟨by rw [hfr]; exact e.frames, e.mod, e.bs, e.bsz, e.funs, e.frf, e.hok, e.bare⟩
  refine wpAny_call (codeAny_mono (F A X.stack s H a dx l fs zs (fun v H' => ∃ it, H it = none ∧ s.heap.objs.size ≤ it ∧ v = .ref it ∧ H' = upd H it (ItO l it 0)) (fun _ _ _ => False) hrA e0 ha hl hz fun it h0 h1 => ⟨it, h0, h1, rfl, rfl⟩) fun r s' hq => ?_)
  cases r with
  | error er => exact False.elim hq
  | ok fl =>
    cases fl with
    | next => exact False.elim hq
    | brk => exact False.elim hq
    | cont => exact False.elim hq
    | ret u =>
      obtain ⟨v, H2, I3, rv, it, h0, yg, ev, eH⟩ := I.after hq
      subst ev
      subst eH
      cases (show u = Value.ref it from rv)
      have ho := itO_get I3 upd_same
      have h1' : upd H it (ItO l it 0) it = some (.ext fun h => h.get? it = some (GNX.itObj l 0)) := upd_same
      have I4 := ItX.inv_drop I3 h1'
      have f4 := ItX.inv_fp I3 h1' (Nat.le_trans I.sz yg)
      rw [ItX.dropH_upd h0] at I4 f4
      show wpAny _ _ (specialOf (.ref it) "__next__") _ _ s'
      refine wpAny_specialOf (name := Str.ofString "__next__") ⟨_, ho, rfl⟩ slot_listiter_next.lookup ?_
      exact h it s' I4 ⟨_, ho, rfl, rfl⟩ f4
/-- for x in o -/
def iOwn (K : PySem.W.Frag) (C : Addr) (g : Str) (te : TE) : TI := fun σ H R => te σ H fun x H1 => ∃ a dx fs l zs, x = .ref a ∧ H1 a = some (.ins C dx fs) ∧ fs.lookup g = some (.ref l) ∧ SqL K H1 l zs ∧ R (Itl K l) H1
theorem pi_own {g : Str} (he : PE X e te) (O : ItOk X.prog X.w X.K X.mg X.base C g) (hr : Room 1 X.A) : PI X tg e (iOwn X.K C g te) := by
  refine ⟨fun pins s σ H R I h => ?_⟩
  refine thn (he.run pins s σ H _ I h) fun u s1 ⟨x, H1, I1, rx, a, dx, fs, l, zs, ex, ea, el, ez, q⟩ => ?_
  subst ex
  cases (show u = Value.ref a from rx)
  exact run_iter (X := X) hr rfl O I1 ea el ez fun it s2 I2 st fp => ⟨it, [it], _, _, H1, rfl, I2, turn_list l it, st, fun b hb => by rw [show b = it by simpa using hb]; exact fp, q⟩

/-! ### list(o) -/
theorem fill_loop {A1 : Around} {q : Addr} {Rs : Result → Shared → Prop} {zs : List V} (hh : A1.in1.handled = none) (hlq : l ≠ q) (hzs : zs.length ≤ sizeLine) (hl : SqL X.K H l zs) (hdone : ∀ s, Inv X pins σ (upd H q (.lst zs)) s → Rs (.ok (.ret .none)) s) :
    ∀ (m i : Nat) (s : Shared), m + i = zs.length → Inv X pins σ (upd H q (.lst (zs.take i))) s → s.heap.IsListIter it l i → FpOk X pins (upd H q (.lst (zs.take i))) it → codeAny (model X.prog X.w) A1 (.builtin "list.extend.loop" ⟨[.ref q, .ref it, .none], []⟩) Rs s := by
  have rd : ∀ ys, SqL X.K (upd H q (.lst ys)) l zs := fun ys => by
    have e : upd H q (.lst ys) l = H l := upd_ne hlq
    unfold SqL Rd at hl ⊢
    simp only [e]
    exact hl
  intro m
  induction m with
  | zero =>
    intro i s hi I st fp
    have hi' : i = zs.length := by omega
    subst hi'
    rw [List.take_length] at I fp
    obtain ⟨its, rv, p, hz⟩ := I.list (rd _)
    obtain ⟨f0, f1, f2, f3, f4, f5⟩ := fp
    have hln := rv.length
    refine codeAny_builtin PySem.F.entry_extend_loop ?_
    rw [Around.under_plainId PySem.F.plain_extend_loop _]
    show wpAny _ A1.in1 (pyNext (.ref it) >>= _) _ _ s
    refine wpAny_bind (wpAny_pyNext_list_end hh st p.isList (by simp; omega) fun h' eb => ?_)
    exact wpAny_pure (hdone _ (I.turned (t' := s.toks) (fun b o hb e => eb b o hb e) f0 f1 f3 f4 f5))
  | succ m ih =>
    intro i s hi I st fp
    have hlt : i < zs.length := by omega
    have hx : zs[i]? = some zs[i] := List.getElem?_eq_getElem hlt
    obtain ⟨its, rv, p, hz⟩ := I.list (rd _)
    obtain ⟨u, hu, ru⟩ := rv.get hx
    obtain ⟨f0, f1, f2, f3, f4, f5⟩ := fp
    refine codeAny_builtin PySem.F.entry_extend_loop ?_
    rw [Around.under_plainId PySem.F.plain_extend_loop _]
    show wpAny _ A1.in1 (pyNext (.ref it) >>= _) _ _ s
    refine wpAny_bind (wpAny_pyNext_list_item st p.isList (x := u) (by simpa using hu) fun h' st' sb => ?_)
    have I1 : Inv X pins σ (upd H q (.lst (zs.take i))) { s with heap := h' } := I.turned (t' := s.toks) (fun b o hb e => (sb.2 b hb).trans e) f0 f1 f3 f4 f5
    show wpAny _ A1.in1 (updateSeq q (·.push u) >>= _) _ _ _
    obtain ⟨z, its2, k2, r2, hl2, e2⟩ := I1.lstM upd_same
    have etk : zs.take (i + 1) = zs.take i ++ [zs[i]] := by rw [List.take_add_one, hx]; rfl
    have hlen : (zs.take i).length < sizeLine := by rw [List.length_take]; omega
    have hl3 := r2.length
    have nq : it ≠ q := fun z => by
      rw [z, upd_same] at f0
      cases f0
    refine wpAny_bind (wpAny_updateSeq e2 rfl (wpAny_pure ⟨plainId_quiet PySem.F.plain_extend_loop _, ?_⟩) (by rw [List.size_toArray]; omega) (by show (its2.toArray.push u).size ≤ sizeLine + 1; rw [Array.size_push, List.size_toArray]; omega))
    have I2 := I1.lset (f := (·.push u)) (its' := its2 ++ [u]) (ys := zs.take i ++ [zs[i]]) (t' := s.toks) upd_same e2 (by simp) (r2.append (.cons ru .nil)) (by rw [List.length_append, List.length_singleton]; omega)
    rw [upd_upd, ← etk] at I2
    refine ih (i + 1) _ (by omega) I2 ?_ ?_
    · exact st'.at fun o e => (Heap.get?_update_ne _ _ _ _ nq).trans e
    · exact ⟨by rw [upd_ne nq]; rw [upd_ne nq] at f0; exact f0, f1, f2, f3, f4, f5⟩
/-- such an instance has no length of its own -/
structure NoLen (K : PySem.W.Frag) (C : Addr) : Prop where
  len : PySem.W.findIn K (.ref C) "__len__" = some none
  hint : PySem.W.findIn K (.ref C) "__length_hint__" = some none
theorem hint_yes {M : Model} {A : Around} {E : Value → Shared → Prop} {Q : Bool → Shared → Prop} {ox : Obj} {od : Option Obj} (n : NoLen X.K C) (hK : X.K.In s.heap) (J : PySem.W.InstAt s.heap a ox C od) (h : Q true s) : wpAny M A (Builtin.List.listLengthHint (.ref a)) Q E s := by
  unfold Builtin.List.listLengthHint
  refine wpAny_bind (wpAny_bind (J.type.here ((PySem.W.looks_findIn hK n.len).here ?_)))
  iterate 2 refine PySem.W.KFB.if_not rfl ?_
  exact wpAny_bind (wpAny_bind (J.type.here ((PySem.W.looks_findIn hK n.hint).here (wpAny_pure h))))
theorem fill_from {A1 : Around} {g : Str} {q dx : Addr} {Rs : Result → Shared → Prop} {fs : List (Str × V)} {zs : List V} (hr : Room 1 A1.in1) (hfr : A1.in1.frames = X.A.frames) (hh : A1.in1.handled = none) (O : ItOk X.prog X.w X.K X.mg X.base C g) (n : NoLen X.K C)
    (I : L2.Inv X pins σ (upd H q (.lst [])) s) (ha : H a = some (.ins C dx fs)) (hq : H q = none) (hl : fs.lookup g = some (.ref l)) (hz : SqL X.K H l zs) (hzs : zs.length ≤ sizeLine) (hlq : l ≠ q)
    (hdone : ∀ s, L2.Inv X pins σ (upd H q (.lst zs)) s → Rs (.ok (.ret .none)) s) (herr : ∀ e s, X.xe e s → Rs (.error e) s) :
    wpAny (model X.prog X.w) A1.in1 (Builtin.List.listExtendWith (.ref q) (.ref a) .none)
      (fun fin s' => match fin with | .done f => Rs (.ok f) s' | .again c => c.quiet = true ∧ codeAny (model X.prog X.w) A1 c Rs s') (fun e s' => Rs (.error e) s') s := by
  have nqa : q ≠ a := (ne_of_none ha hq).symm
  have ha2 : upd H q (.lst []) a = some (.ins C dx fs) := (upd_ne nqa.symm).trans ha
  have hz2 : SqL X.K (upd H q (.lst [])) l zs := by
    have e : upd H q (.lst []) l = H l := upd_ne hlq
    unfold SqL Rd at hz ⊢
    simp only [e]
    exact hz
  obtain ⟨mA, J, _⟩ := ins_get I.hok ha2
  obtain ⟨od, J, _⟩ := J.look
  unfold Builtin.List.listExtendWith
  refine wpAny_bind (J.type.here ?_)
  have same : Builtin.List.listSameRef (.ref q) (.ref a) = false := by simp [Builtin.List.listSameRef, nqa]
  have notL : (Value.ref C == Value.type "list") = false := rfl
  have notT : (Value.ref C == Value.type "tuple") = false := rfl
  simp only [same, notL, notT, Bool.or_false, Bool.false_eq_true, if_false]
  refine wpAny_bind (wpAny_mono (run_iter (X := X) (Q := fun v s' => ∃ it, v = .ref it ∧ L2.Inv X pins σ (upd H q (.lst [])) s' ∧ s'.heap.IsListIter it l 0 ∧ FpOk X pins (upd H q (.lst [])) it) hr hfr O I ha2 hl hz2 fun it s2 I2 st fp => ⟨it, rfl, I2, st, fp⟩) (fun v s2 ⟨it, ev, I2, st, fp⟩ => ?_) fun e s' he => herr e s' he)
  subst ev
  have sw : wpAny (model X.prog X.w) A1.in1 (holding [Value.ref it] (Builtin.List.listLengthHint (.ref a))) (fun b s' => b = true ∧ s' = s2) (fun e s' => Rs (.error e) s') s2 := by
    obtain ⟨mA, J, _⟩ := ins_get I2.hok ha2
    obtain ⟨od, J, _⟩ := J.look
    exact wpAny_holding (hint_yes n I2.kIn J ⟨rfl, rfl⟩)
  refine wpAny_bind (wpAny_mono sw (fun b s3 ⟨eb, es⟩ => ?_) fun _ _ z => z)
  subst eb
  subst es
  have go : ∀ s4, L2.Inv X pins σ (upd H q (.lst [])) s4 → s4.heap.IsListIter it l 0 → codeAny (model X.prog X.w) A1 (.builtin "list.extend.loop" ⟨[.ref q, .ref it, .none], []⟩) Rs s4 := fun s4 I4 st4 =>
    fill_loop hh hlq hzs hz hdone zs.length 0 s4 (by omega) I4 st4 fp
  refine PySem.W.KFB.if_so rfl ?_
  obtain ⟨z, its, k1, r3, hl3, e3⟩ := I2.lstM upd_same
  cases r3
  refine wpAny_bind (wpAny_rule (wpAny_bind ?_))
  show wpAny _ _ (updateSeq q (·.push .none) >>= fun _ => updateSeq q (·.pop)) _ _ _
  refine wpAny_bind (wpAny_updateSeq e3 rfl ?_)
  have I5 := I2.lset (f := (·.push Value.none)) (its' := [Value.none]) (ys := [.non]) (t' := s3.toks) upd_same e3 (by simp) (.cons rfl .nil) (by rw [List.length_singleton, sizeLine_eq]; decide)
  obtain ⟨z4, its4, k4, r4, hl4, e4⟩ := I5.lstM upd_same
  obtain ⟨u4, rfl, ru4⟩ := r4.one
  have nq : it ≠ q := fun z => by
    have := fp.1
    rw [z, upd_same] at this
    cases this
  refine wpAny_updateSeq e4 rfl ?_ (by show 1 ≤ sizeLine; rw [sizeLine_eq]; decide) (by show 0 ≤ sizeLine + 1; exact Nat.zero_le _)
  have I6 := I5.lset (f := (·.pop)) (its := [u4]) (its' := []) (ys := []) (t' := s3.toks) upd_same e4 (by rfl) .nil (Nat.zero_le _)
  rw [upd_upd, upd_upd] at I6
  exact wpAny_pure ⟨plainId_quiet PySem.F.plain_extend_loop _, go _ I6 (st.at fun o e => (Heap.get?_update_ne _ _ _ _ nq).trans ((Heap.get?_update_ne _ _ _ _ nq).trans e))⟩
/-- list(o), o an instance of the class at C whose __iter__ walks the list in its field g -/
def rListY (K : PySem.W.Frag) (C : Addr) (g : Str) : List V → Hp → VK → Prop := fun xs H Q => ∃ a dx fs l zs, xs = [.ref a] ∧ H a = some (.ins C dx fs) ∧ fs.lookup g = some (.ref l) ∧ SqL K H l zs ∧ zs.length ≤ sizeLine ∧ (∀ q, H q = none → l ≠ q) ∧ ∀ q, H q = none → Q (.ref q) (upd H q (.lst zs))
theorem call_listY {g : Str} (hc : X.calm = true) (O : ItOk X.prog X.w X.K X.mg X.base C g) (n : NoLen X.K C) (hr : Room 3 X.A) : CallR X (.type "list") (rListY X.K C g) := by
  intro pins s σ H xs us Q I rv h
  obtain ⟨a, dx, fs, l, zs, rfl, ha, hl, hz, hzs, hlq, hq⟩ := h
  obtain ⟨u, rfl, ru⟩ := rv.one
  cases ru
  refine callType_codes (Q₁ := fun obj s₁ => obj = .ref s.heap.objs.size ∧ s₁ = { s with heap := s.heap.push { cls := .type "list", data := .seq #[] } })
    PySem.F.called_list (PySem.F.typeCall_list_1 _) PySem.F.entry_list_init (code_list_new _ ⟨rfl, rfl⟩) ?_
  rintro obj s₁ ⟨rfl, rfl⟩
  have hS : (s.heap.push { cls := .type "list", data := .seq #[] }).get? s.heap.objs.size = some { cls := .type "list", data := .seq #[] } := Heap.get?_push_size _ rfl
  refine ⟨⟨_, hS, rfl⟩, PySem.F.args_list_init_2 _ _, ?_⟩
  have fr := I.hok.fresh (Nat.le_refl _)
  have I1 : L2.Inv X pins σ (upd H s.heap.objs.size (.lst [])) { s with heap := s.heap.push { cls := .type "list", data := .seq #[] } } := I.lnew (its := []) (t' := s.toks) .nil (Nat.zero_le _)
  show wpAny _ _ (do
    let old ← Builtin.List.listItems (.ref s.heap.objs.size)
    Builtin.List.listUpdate (.ref s.heap.objs.size) (fun _ => #[])
    letGo old.toList.reverse
    Builtin.List.listExtendWith (.ref s.heap.objs.size) (.ref a) .none) _ _ _
  unfold Builtin.List.listItems
  refine wpAny_bind (wpAny_bind (wpAny_seqItems hS rfl (wpAny_pure ?_)))
  show wpAny _ _ (updateSeq s.heap.objs.size (fun _ => #[]) >>= fun _ => letGo (#[] : Array Value).toList.reverse >>= fun _ =>
    Builtin.List.listExtendWith (.ref s.heap.objs.size) (.ref a) .none) _ _ _
  refine wpAny_bind (wpAny_updateSeq hS rfl (wpAny_bind (wpAny_letGo ?_)))
  have I2 := I1.lset (f := fun _ => #[]) (its := []) (its' := []) (ys := []) (t' := s.toks) upd_same hS rfl .nil (Nat.zero_le _)
  rw [upd_upd] at I2
  have hr1 : Room 1 X.A.in1.in1 := Room.in1 (Room.in1 hr)
  exact fill_from (A1 := X.A.in1) (Rs := wants (fun r s₂ => r = .none ∧ EP X pins σ Q (.ref s.heap.objs.size) s₂) X.xe) hr1 rfl (by have := I.ok.hd hc; exact this) O n I2 ha fr hl hz hzs (hlq _ fr)
    (fun s' I' => ⟨rfl, .ref s.heap.objs.size, _, I', rfl, hq _ fr⟩) fun e s' he => he

/-! ### operators of one class -/
/-- x op y, both of the class at C: its method's promise -/
def rOwnOp (C : Addr) (sp : Sp) (E : XK) : R2 := fun x y H Q => ∃ a dx fs b dy gs, x = .ref a ∧ y = .ref b ∧ H a = some (.ins C dx fs) ∧ H b = some (.ins C dy gs) ∧ sp [x, y] H Q E
theorem run_call {f : Addr} {Q : VK} {us : List Value} {vs : List V} (F : FnOk X.prog X.w X.K X.mg X.base CX k f fd ps sp) (b : L2.Binds X.K fd ps []) (hr : Room k X.A) (xF : Passes CX X E) (I : L2.Inv X pins σ H s) (r : Vals vs us) (h : sp vs H Q E) :
    wpAny (model X.prog X.w) X.A (call (.ref f) us) (EP X pins σ Q) X.xe s := by
  have hl := F.len _ _ _ _ h
  refine wpAny_call (codeAny_mono (F.run X.A X.stack s H ⟨us, []⟩ us vs Q E hr I.env0 (by
    have := b s us I.kIn (by rw [List.append_nil, ← r.length]; exact hl)
    simpa using this) r h) fun r s' hq => ?_)
  cases r with
  | error er => exact xF pins σ H s er s' I hq
  | ok fl =>
    cases fl with
    | ret u => exact I.after hq
    | next => exact False.elim hq
    | brk => exact False.elim hq
    | cont => exact False.elim hq
theorem op_cmpO {op : CmpOp} (M : CalM X.prog X.w X.K X.mg X.base CX C (cmpInfo op).2.1 k ps sp) (hop : ∀ a b, compareOp op a b = richCompare op a b) (hr : Room k X.A) (xF : Passes CX X E) : OpR X (compareOp op) (rOwnOp C sp E) := by
  intro pins s σ H x y v u Q I rx ry h
  obtain ⟨a, dx, fs, b, dy, gs, rfl, rfl, ha, hb, q⟩ := h
  cases (show v = Value.ref a from rx)
  cases (show u = Value.ref b from ry)
  obtain ⟨f, fd, F, m, bF⟩ := M.ex
  obtain ⟨mA, J, _⟩ := ins_get I.hok ha
  obtain ⟨od, J, _⟩ := J.look
  obtain ⟨mB, J2, _⟩ := ins_get I.hok hb
  obtain ⟨od2, J2, _⟩ := J2.look
  obtain ⟨m0, hF⟩ := I.fr
  rw [hop]
  refine PySem.W.cmp_K (op := op) (tb := .ref C) hr.units0 hF I.ok.mod.kin J J2.type (by unfold PySem.W.notFirst; simp) m.at_ m.fn ?_
  refine wpAny_mono (run_call (us := [.ref a, .ref b]) (vs := [.ref a, .ref b]) F bF hr xF I (.cons rfl (.cons rfl .nil)) q) (fun w s' z => ?_) fun _ _ x => x
  obtain ⟨z', H', I', rz, qz⟩ := z
  exact SlX.cmpback rz ⟨z', H', I', rz, qz⟩
theorem op_binO {op : Operator} (M : CalM X.prog X.w X.K X.mg X.base CX C (PySem.dunder op.info.2) k ps sp) (hc : PySem.W.selfFirst X.K C = true) (hr : Room k X.A) (xF : Passes CX X E) : OpR X (binaryOp op) (rOwnOp C sp E) := by
  intro pins s σ H x y v u Q I rx ry h
  obtain ⟨a, dx, fs, b, dy, gs, rfl, rfl, ha, hb, q⟩ := h
  cases (show v = Value.ref a from rx)
  cases (show u = Value.ref b from ry)
  obtain ⟨f, fd, F, m, bF⟩ := M.ex
  obtain ⟨mA, J, _⟩ := ins_get I.hok ha
  obtain ⟨od, J, _⟩ := J.look
  obtain ⟨mB, J2, _⟩ := ins_get I.hok hb
  obtain ⟨od2, J2, _⟩ := J2.look
  obtain ⟨m0, hF⟩ := I.fr
  refine PySem.W.binop_K hF I.ok.mod.kin J J2.type hc m.at_ m.fn ?_
  refine wpAny_mono (run_call (us := [.ref a, .ref b]) (vs := [.ref a, .ref b]) F bF hr xF I (.cons rfl (.cons rfl .nil)) q) (fun w s' z => ?_) fun _ _ x => x
  obtain ⟨z', H', I', rz, qz⟩ := z
  exact SlX.cmpback rz ⟨z', H', I', rz, qz⟩
/-- x op= y, x of the class at C -/
def tOwnIp (C : Addr) (sp : Sp) (E : XK) : TIp := fun x y H Q => ∃ a dx fs, x = .ref a ∧ H a = some (.ins C dx fs) ∧ sp [x, y] H Q E
theorem ip_O {op : Operator} (M : CalM X.prog X.w X.K X.mg X.base CX C (dunderI op.info.2) k ps sp) (hc : PySem.W.selfFirst X.K C = true) (hr : Room k X.A) (xF : Passes CX X E) : PIp X op (tOwnIp C sp E) := by
  intro pins s σ H x y v u Q I rx ry h
  obtain ⟨a, dx, fs, rfl, ha, q⟩ := h
  cases (show v = Value.ref a from rx)
  obtain ⟨f, fd, F, m, bF⟩ := M.ex
  obtain ⟨mA, J, _⟩ := ins_get I.hok ha
  obtain ⟨od, J, _⟩ := J.look
  obtain ⟨m0, hF⟩ := I.fr
  refine PySem.W.ksp_inplace hF I.ok.mod.kin J hc m.at_ m.fn ?_
  refine wpAny_mono (run_call (us := [.ref a, u]) (vs := [.ref a, y]) F bF hr xF I (.cons rfl (.cons ry .nil)) q) (fun w s' z => ?_) fun _ _ x => x
  obtain ⟨z', H', I', rz, qz⟩ := z
  exact SlX.cmpback rz ⟨z', H', I', rz, qz⟩
/-- o[i] = v by an own __setitem__ -/
def tOwnSet (C : Addr) (sp : Sp) (E : XK) : TSet := fun o i v H Q => ∃ a dx fs, o = .ref a ∧ H a = some (.ins C dx fs) ∧ sp [o, i, v] H (fun _ H' => Q H') E
theorem set_O (M : CalM X.prog X.w X.K X.mg X.base CX C "__setitem__" k ps sp) (hq : PySem.W.noSeq X.K C = true) (hr : Room k X.A) (xF : Passes CX X E) : PSet X (tOwnSet C sp E) := by
  intro pins s σ H o i v ov iv u Q I ro ri rv h
  obtain ⟨a, dx, fs, rfl, ha, q⟩ := h
  cases (show ov = Value.ref a from ro)
  obtain ⟨f, fd, F, m, bF⟩ := M.ex
  obtain ⟨mA, J, _⟩ := ins_get I.hok ha
  obtain ⟨od, J, _⟩ := J.look
  obtain ⟨m0, hF⟩ := I.fr
  refine PySem.W.ksp_setItem hF I.ok.mod.kin J hq m.at_ m.fn ?_
  exact wpAny_mono (run_call (us := [.ref a, iv, u]) (vs := [.ref a, i, v]) F bF hr xF I (.cons rfl (.cons ri (.cons rv .nil))) q) (fun w s' ⟨z', H', I', _, qz⟩ => ⟨H', I', qz⟩) fun _ _ x => x
/-- x in o by an own __contains__ -/
def rOwnIn (C : Addr) (neg : Bool) (sp : Sp) (E : XK) : R2 := fun x o H Q => ∃ a dx fs, o = .ref a ∧ H a = some (.ins C dx fs) ∧ sp [o, x] H (fun v H' => ∃ b, v = .bl b ∧ Q (.bl (xor neg b)) H') E
theorem op_inO (M : CalM X.prog X.w X.K X.mg X.base CX C "__contains__" k ps sp) (hr : Room k X.A) (xF : Passes CX X E) : OpR X (compareOp .In) (rOwnIn C false sp E) := by
  intro pins s σ H x y v u Q I rx ry h
  obtain ⟨a, dx, fs, rfl, ha, q⟩ := h
  cases (show u = Value.ref a from ry)
  obtain ⟨f, fd, F, m, bF⟩ := M.ex
  obtain ⟨mA, J, _⟩ := ins_get I.hok ha
  obtain ⟨od, J, _⟩ := J.look
  obtain ⟨m0, hF⟩ := I.fr
  refine PySem.W.in_K hF I.ok.mod.kin J m.at_ m.fn ?_
  refine wpAny_mono (run_call (us := [.ref a, v]) (vs := [.ref a, x]) F bF hr xF I (.cons rfl (.cons rx .nil)) q) (fun w s' z => ?_) fun _ _ x => x
  obtain ⟨z', H', I', rz, b, rfl, qz⟩ := z
  cases (show w = Value.bool b from rz)
  exact wpAny_pure ⟨.bl b, H', I', rfl, by simpa using qz⟩
theorem op_ninO (M : CalM X.prog X.w X.K X.mg X.base CX C "__contains__" k ps sp) (hr : Room k X.A) (xF : Passes CX X E) : OpR X (compareOp .NotIn) (rOwnIn C true sp E) := by
  intro pins s σ H x y v u Q I rx ry h
  obtain ⟨a, dx, fs, rfl, ha, q⟩ := h
  cases (show u = Value.ref a from ry)
  obtain ⟨f, fd, F, m, bF⟩ := M.ex
  obtain ⟨mA, J, _⟩ := ins_get I.hok ha
  obtain ⟨od, J, _⟩ := J.look
  obtain ⟨m0, hF⟩ := I.fr
  refine PySem.W.notIn_K hF I.ok.mod.kin J m.at_ m.fn ?_
  refine wpAny_mono (run_call (us := [.ref a, v]) (vs := [.ref a, x]) F bF hr xF I (.cons rfl (.cons rx .nil)) q) (fun w s' z => ?_) fun _ _ x => x
  obtain ⟨z', H', I', rz, b, rfl, qz⟩ := z
  cases (show w = Value.bool b from rz)
  exact wpAny_pure ⟨.bl (!b), H', I', rfl, by simpa using qz⟩
end
end Gt
/-! Gt9: == and in of data of any depth, dicts, two clauses in one comprehension. -/
namespace Gt
open PySem PySem.Spec PyProof.Rows L2

/-! ### data -/
structure Dat (K : PySem.W.Frag) {β : Type} (r : Rp β) where
  dec : DecidableEq β
  enc : β → PyData
  dep : Nat
  dp : ∀ {H : Hp} {v : V} {b : β}, r H v b → Dp K H v (enc b)
  lay : ∀ {H : Hp} {v : V} {b : β}, r H v b → (enc b).canLay0 = true
  dpt : ∀ b, (enc b).depth ≤ dep
  eqv : ∀ a b, PyData.eqv (enc a) (enc b) = @decide (a = b) (dec a b)
section
variable {K : PySem.W.Frag} {α β : Type}
def datS : Dat K rS where
  dec := inferInstance
  enc := .str
  dep := 0
  dp := fun h => by rw [h.1]; exact .str _
  lay := fun h => by simp only [PyData.canLay0]; exact h.2.2
  dpt := fun b => by simp [PyData.depth]
  eqv := fun a b => by
    simp only [PyData.eqv]
    by_cases h : a = b
    · subst h; simp
    · rw [decide_eq_false h]
      exact beq_eq_false_iff_ne.mpr h
def datI : Dat K rI where
  dec := inferInstance
  enc := .int
  dep := 0
  dp := fun h => by rw [show _ = _ from h]; exact .int _
  lay := fun _ => by simp [PyData.canLay0]
  dpt := fun b => by simp [PyData.depth]
  eqv := fun a b => by
    simp only [PyData.eqv]
    by_cases h : a = b
    · subst h; simp
    · rw [decide_eq_false h]
      exact beq_eq_false_iff_ne.mpr h
def datB : Dat K rB where
  dec := inferInstance
  enc := .bool
  dep := 0
  dp := fun h => by rw [show _ = _ from h]; exact .bl _
  lay := fun _ => by simp [PyData.canLay0]
  dpt := fun b => by simp [PyData.depth]
  eqv := fun a b => by cases a <;> cases b <;> simp [PyData.eqv]
def encO' (f : α → PyData) : Option α → PyData
  | .none => .none
  | .some a => f a
def datO : Dat K (rO rS) where
  dec := inferInstance
  enc := encO' .str
  dep := 0
  dp := fun {H v b} h => match b, h with
    | .none, h => by rw [show v = _ from h]; exact .non
    | .some _, h => by rw [show v = _ from h.1]; exact .str _
  lay := fun {H v b} h => match b, h with
    | .none, _ => by simp [PyData.canLay0, encO']
    | .some _, h => by simp only [PyData.canLay0, encO']; exact h.2.2
  dpt := fun b => by cases b <;> simp [PyData.depth, encO']
  eqv := fun a b => by
    cases a with
    | none => cases b <;> simp [PyData.eqv, encO']
    | some a =>
      cases b with
      | none => simp [PyData.eqv, encO']
      | some b =>
        simp only [PyData.eqv, encO']
        by_cases h : a = b
        · subst h; simp
        · rw [decide_eq_false fun e => h (Option.some.inj e)]
          exact beq_eq_false_iff_ne.mpr h
theorem enc_lays {e : β → PyData} {r : Rp β} {H : Hp} (h : ∀ {v : V} {b : β}, r H v b → (e b).canLay0 = true) : ∀ {vs : List V} {xs : List β}, A2 (r H) vs xs → PyData.canLayAll0 (xs.map e) = true
  | _, _, .nil => by simp [PyData.canLayAll0]
  | _, _, .cons a t => by simp [PyData.canLayAll0, h a, enc_lays h t]
theorem enc_deps {e : β → PyData} {n : Nat} (h : ∀ b, (e b).depth ≤ n) : ∀ xs : List β, PyData.depthAll (xs.map e) ≤ n
  | [] => by simp [PyData.depthAll]
  | x :: xs => by
    have h1 := enc_deps h xs
    have h2 := h x
    simp only [List.map_cons, PyData.depthAll]
    omega
theorem enc_eqs {e : β → PyData} {d : DecidableEq β} (h : ∀ a b, PyData.eqv (e a) (e b) = decide (a = b)) : ∀ xs ys : List β, PyData.eqvAll (xs.map e) (ys.map e) = decide (xs = ys)
  | [], [] => by simp [PyData.eqvAll]
  | [], _ :: _ => by simp [PyData.eqvAll]
  | _ :: _, [] => by simp [PyData.eqvAll]
  | x :: xs, y :: ys => by
    simp only [List.map_cons, PyData.eqvAll, h x y, enc_eqs h xs ys]
    by_cases e1 : x = y <;> by_cases e2 : xs = ys <;> simp [e1, e2]
theorem enc_dps {e : β → PyData} {r : Rp β} {H : Hp} (h : ∀ {v : V} {b : β}, r H v b → Dp K H v (e b)) : ∀ {vs : List V} {xs : List β}, A2 (r H) vs xs → DpAll K H vs (xs.map e)
  | _, _, .nil => .nil
  | _, _, .cons a t => .cons (h a) (enc_dps h t)
def datT {r : Rp β} (D : Dat K r) : Dat K (rT K r) where
  dec := by have := D.dec; infer_instance
  enc := fun xs => .tuple (xs.map D.enc)
  dep := D.dep + 1
  dp := fun ⟨a, vs, ev, h, q⟩ => by rw [ev]; exact .tup h (enc_dps D.dp q)
  lay := fun ⟨a, vs, ev, h, q⟩ => by simp only [PyData.canLay0]; exact enc_lays D.lay q
  dpt := fun b => by simp only [PyData.depth]; have := enc_deps D.dpt b; omega
  eqv := fun a b => by simp only [PyData.eqv]; exact enc_eqs (d := D.dec) D.eqv a b
def datL {r : Rp β} (D : Dat K r) : Dat K (rL r) where
  dec := by have := D.dec; infer_instance
  enc := fun xs => .list (xs.map D.enc)
  dep := D.dep + 1
  dp := fun ⟨a, vs, ev, h, q⟩ => by rw [ev]; exact .lst (SqL.of h) (enc_dps D.dp q)
  lay := fun ⟨a, vs, ev, h, q⟩ => by simp only [PyData.canLay0]; exact enc_lays D.lay q
  dpt := fun b => by simp only [PyData.depth]; have := enc_deps D.dpt b; omega
  eqv := fun a b => by simp only [PyData.eqv]; exact enc_eqs (d := D.dec) D.eqv a b
def datP {r : Rp α} {q : Rp β} (D : Dat K r) (E : Dat K q) : Dat K (rP K r q) where
  dec := by have := D.dec; have := E.dec; infer_instance
  enc := fun p => .tuple [D.enc p.1, E.enc p.2]
  dep := max D.dep E.dep + 1
  dp := fun ⟨a, x, y, ev, h, h1, h2⟩ => by rw [ev]; exact .tup h (.cons (D.dp h1) (.cons (E.dp h2) .nil))
  lay := fun ⟨a, x, y, ev, h, h1, h2⟩ => by simp [PyData.canLay0, PyData.canLayAll0, D.lay h1, E.lay h2]
  dpt := fun b => by
    have h1 := D.dpt b.1
    have h2 := E.dpt b.2
    simp only [PyData.depth, PyData.depthAll]
    omega
  eqv := fun a b => by
    obtain ⟨a1, a2⟩ := a
    obtain ⟨b1, b2⟩ := b
    simp only [PyData.eqv, PyData.eqvAll, D.eqv, E.eqv, Bool.and_true]
    have := D.dec; have := E.dec
    by_cases h1 : a1 = b1 <;> by_cases h2 : a2 = b2 <;> simp [h1, h2]
theorem dat_shaped {r : Rp β} (D : Dat K r) (h : D.dep ≤ 64) {H : Hp} {v : V} {b : β} (hv : r H v b) : SeqAt.shaped (D.enc b) = true := by
  have h1 := D.dpt b
  show ((D.enc b).canLay0 && decide ((D.enc b).depth ≤ 64)) = true
  rw [Bool.and_eq_true]
  exact ⟨D.lay hv, decide_eq_true (by omega)⟩
end

/-- there is such data, not deep -/
def DatC (K : PySem.W.Frag) {β : Type} (r : Rp β) : Prop := ∃ D : Dat K r, D.dep < 64

class DatN (K : PySem.W.Frag) {β : Type} (r : Rp β) (n : outParam Nat) : Prop where
  ex : ∃ D : Dat K r, D.dep ≤ n
instance {K : PySem.W.Frag} : DatN K rS 0 := ⟨datS, Nat.le_refl _⟩
instance {K : PySem.W.Frag} : DatN K rI 0 := ⟨datI, Nat.le_refl _⟩
instance {K : PySem.W.Frag} : DatN K rB 0 := ⟨datB, Nat.le_refl _⟩
instance {K : PySem.W.Frag} : DatN K (rO rS) 0 := ⟨datO, Nat.le_refl _⟩
instance {K : PySem.W.Frag} {β : Type} {r : Rp β} {n : Nat} [d : DatN K r n] : DatN K (rT K r) (n + 1) := ⟨let ⟨D, h⟩ := d.ex; ⟨datT D, Nat.succ_le_succ h⟩⟩
instance {K : PySem.W.Frag} {β : Type} {r : Rp β} {n : Nat} [d : DatN K r n] : DatN K (rL r) (n + 1) := ⟨let ⟨D, h⟩ := d.ex; ⟨datL D, Nat.succ_le_succ h⟩⟩
instance {K : PySem.W.Frag} {α β : Type} {r : Rp α} {q : Rp β} {n m : Nat} [d : DatN K r n] [e : DatN K q m] : DatN K (rP K r q) (n + m + 1) := ⟨let ⟨D, h⟩ := d.ex; let ⟨E, h'⟩ := e.ex; ⟨datP D E, by show max D.dep E.dep + 1 ≤ _; omega⟩⟩
theorem datC_of {K : PySem.W.Frag} {β : Type} {r : Rp β} {n : Nat} [d : DatN K r n] (h : n < 64) : DatC K r := let ⟨D, e⟩ := d.ex; ⟨D, Nat.lt_of_le_of_lt e h⟩

/-- the same, whatever decides -/
noncomputable def eqB {α : Type} (a b : α) : Bool := @decide (a = b) (Classical.propDecidable _)
noncomputable def memB {α : Type} (a : α) (l : List α) : Bool := @decide (a ∈ l) (Classical.propDecidable _)
theorem eqB_iff {α : Type} {a b : α} : eqB a b = true ↔ a = b := by unfold eqB; rw [@decide_eq_true_iff]
theorem memB_iff {α : Type} {a : α} {l : List α} : memB a l = true ↔ a ∈ l := by unfold memB; rw [@decide_eq_true_iff]
theorem eqB_not {α : Type} {a b : α} : eqB a b = false ↔ ¬ a = b := ⟨fun h e => (by rw [eqB_iff.mpr e] at h; cases h), fun h => by
  cases q : eqB a b with
  | false => rfl
  | true => exact absurd (eqB_iff.mp q) h⟩
theorem memB_not {α : Type} {a : α} {l : List α} : memB a l = false ↔ a ∉ l := ⟨fun h e => (by rw [memB_iff.mpr e] at h; cases h), fun h => by
  cases q : memB a l with
  | false => rfl
  | true => exact absurd (memB_iff.mp q) h⟩

/-! ### == and in -/
section
variable {X : Cx} (K : PySem.W.Frag)
def rInTD (K : PySem.W.Frag) (neg : Bool) : R2 := fun x y H Q => ∃ d ds, Dp K H x d ∧ Dp K H y (.tuple ds) ∧ SeqAt.shaped d = true ∧ SeqAt.shaped (.tuple ds) = true ∧ Q (.bl (xor neg (ds.any fun z => PyData.eqv z d))) H
theorem k_inTD (hu : X.A.units + 65 < cLine) (hK : X.K = K := by rfl) : OpR X (compareOp .In) (rInTD K false) := by
  subst hK
  intro pins s σ H x y v u Q I rx ry h
  obtain ⟨d, ds, hd, he, sd, se, q⟩ := h
  obtain ⟨as, r1⟩ := Dp.reads I d x v hd rx
  obtain ⟨bs, r2⟩ := Dp.reads I (.tuple ds) y u he ry
  exact SeqAt.in_tuple_reads r2 r1 (SeqAt.canLay_of_shaped se) (SeqAt.canLay_of_shaped sd) (room_in_shaped sd hu) ⟨.bl _, H, I, rfl, by simpa using q⟩
theorem k_ninTD (hu : X.A.units + 65 < cLine) (hK : X.K = K := by rfl) : OpR X (compareOp .NotIn) (rInTD K true) := by
  subst hK
  intro pins s σ H x y v u Q I rx ry h
  obtain ⟨d, ds, hd, he, sd, se, q⟩ := h
  obtain ⟨as, r1⟩ := Dp.reads I d x v hd rx
  obtain ⟨bs, r2⟩ := Dp.reads I (.tuple ds) y u he ry
  exact SeqAt.notIn_tuple_reads r2 r1 (SeqAt.canLay_of_shaped se) (SeqAt.canLay_of_shaped sd) (room_in_shaped sd hu) ⟨.bl _, H, I, rfl, by simpa using q⟩
theorem k_catA (hK : X.K = K := by rfl) : OpR X (binaryOp .Add) (rCatA K) := by subst hK; exact op_catA
theorem k_slA (hK : X.K = K := by rfl) : SlR X (rSlA K) := by subst hK; exact sl_tupA
end
section
variable {K : PySem.W.Frag} {H0 H1 H H' : Hp} {σ : L2.St} {G G' Gx : Cells K} {α β γ : Type}
variable {ta tb tc te : TE} {r : Rp α} {q : Rp β} {a x : α} {b y : β}
theorem a_eqD (h : Ev r ta G a) (h' : Ev r tb G x) (M : Mono r) (DD : DatC K r) : Ev rB (tOp (rEqD K) ta tb) G (eqB a x) := let ⟨D, hd⟩ := DD; ev_op h h' fun H u v hu hv Q k =>
  ⟨_, _, D.dp hu, D.dp hv, dat_shaped D (Nat.le_of_lt hd) hu, dat_shaped D (Nat.le_of_lt hd) hv, k _ H (Same.refl H) (by show V.bl _ = V.bl _; rw [D.eqv]; unfold eqB; congr)⟩
theorem a_neD (h : Ev r ta G a) (h' : Ev r tb G x) (M : Mono r) (DD : DatC K r) : Ev rB (tOp (rNeD K) ta tb) G (!eqB a x) := let ⟨D, hd⟩ := DD; ev_op h h' fun H u v hu hv Q k =>
  ⟨_, _, D.dp hu, D.dp hv, dat_shaped D (Nat.le_of_lt hd) hu, dat_shaped D (Nat.le_of_lt hd) hv, k _ H (Same.refl H) (by show V.bl _ = V.bl _; rw [D.eqv]; unfold eqB; congr)⟩
/-- is it in the list -/
def memD {r : Rp α} (D : Dat K r) (x : α) (xs : List α) : Bool := xs.any fun z => @decide (z = x) (D.dec z x)
theorem memD_iff {r : Rp α} {D : Dat K r} {x : α} {xs : List α} : memD D x xs = true ↔ x ∈ xs := by
  unfold memD
  rw [List.any_eq_true]
  constructor
  · rintro ⟨z, hz, e⟩
    rw [@decide_eq_true_iff _ (D.dec z x)] at e
    exact e ▸ hz
  · exact fun h => ⟨x, h, @decide_eq_true _ (D.dec x x) rfl⟩
theorem memD_enc {r : Rp α} (D : Dat K r) (x : α) (xs : List α) : ((xs.map D.enc).any fun z => PyData.eqv z (D.enc x)) = memD D x xs := by
  unfold memD
  rw [List.any_map]
  congr 1
  funext z
  exact D.eqv z x
theorem memD_dec {r : Rp α} (D : Dat K r) (x : α) (xs : List α) : memD D x xs = memB x xs := by
  rw [Bool.eq_iff_iff, memD_iff, memB_iff]
theorem a_inLD {xs : List α} (h' : Ev (rL r) tb G xs) (h : Ev r ta G x) (M : Mono r) (DD : DatC K r) : Ev rB (tOp (rInD K) ta tb) G (memB x xs) := let ⟨D, hd⟩ := DD; ev_op h h' fun H u v hu hv Q k =>
  ⟨_, _, D.dp hu, (datL D).dp hv, dat_shaped D (by omega) hu, dat_shaped (datL D) (by show D.dep + 1 ≤ 64; omega) hv, k _ H (Same.refl H) (by show V.bl _ = V.bl _; rw [memD_enc, memD_dec])⟩
theorem a_ninLD {xs : List α} (h' : Ev (rL r) tb G xs) (h : Ev r ta G x) (M : Mono r) (DD : DatC K r) : Ev rB (tOp (rNotInD K) ta tb) G (!memB x xs) := let ⟨D, hd⟩ := DD; ev_op h h' fun H u v hu hv Q k =>
  ⟨_, _, D.dp hu, (datL D).dp hv, dat_shaped D (by omega) hu, dat_shaped (datL D) (by show D.dep + 1 ≤ 64; omega) hv, k _ H (Same.refl H) (by show V.bl _ = V.bl _; rw [memD_enc, memD_dec])⟩
theorem a_inTD {xs : List α} (h' : Ev (rT K r) tb G xs) (h : Ev r ta G x) (M : Mono r) (DD : DatC K r) : Ev rB (tOp (rInTD K false) ta tb) G (memB x xs) := let ⟨D, hd⟩ := DD; ev_op h h' fun H u v hu hv Q k =>
  ⟨_, _, D.dp hu, (datT D).dp hv, dat_shaped D (by omega) hu, dat_shaped (datT D) (by show D.dep + 1 ≤ 64; omega) hv, k _ H (Same.refl H) (by show V.bl _ = V.bl _; rw [memD_enc, Bool.false_xor, memD_dec])⟩
theorem a_ninTD {xs : List α} (h' : Ev (rT K r) tb G xs) (h : Ev r ta G x) (M : Mono r) (DD : DatC K r) : Ev rB (tOp (rInTD K true) ta tb) G (!memB x xs) := let ⟨D, hd⟩ := DD; ev_op h h' fun H u v hu hv Q k =>
  ⟨_, _, D.dp hu, (datT D).dp hv, dat_shaped D (by omega) hu, dat_shaped (datT D) (by show D.dep + 1 ≤ 64; omega) hv, k _ H (Same.refl H) (by show V.bl _ = V.bl _; rw [memD_enc, Bool.true_xor, memD_dec])⟩
/-- tuple + tuple -/
theorem ev_catT {xs ys : List α} (h : Ev (rT K r) ta G xs) (h' : Ev (rT K r) tb G ys) (hz : xs.length + ys.length ≤ 100000) (M : Mono r) : Ev (rT K r) (tOp (rCatA K) ta tb) G (xs ++ ys) := ev_op h h' fun H u v ⟨p, vs, ev, hp, z⟩ ⟨p', vs', ev', hp', z'⟩ Q k =>
  ⟨p, p', vs, vs', ev, ev', hp, hp', by rw [z.len, z'.len]; exact sz hz, fun e => by
      subst e
      cases z
      exact k _ H (Same.refl H) ⟨p', vs', rfl, hp', z'⟩, fun _ e => by
      subst e
      cases z'
      exact k _ H (Same.refl H) ⟨p, vs, rfl, hp, by rw [List.append_nil]; exact z⟩, fun _ _ l hl => k _ _ (same_new hl) ⟨l, _, rfl, SqT.of upd_same, (A2.app z' z).imp fun _ _ q => M.up (same_new hl) q⟩⟩
theorem ev_slT {xs : List α} {lo hi : Option Int} {tl th : TO} (h : Ev (rT K r) ta G xs) (hl : EvO tl G lo) (hh : EvO th G hi) (M : Mono r) : Ev (rT K r) (tSl (rSlA K) ta tl th) G (cut xs lo hi) := fun H0 σ H E Q k =>
  h H0 σ H E _ fun v H1 e1 ⟨p, vs, ev, hp, z⟩ => hl H0 σ H1 (E.grow e1) _ fun H2 e2 => hh H0 σ H2 (E.grow (e1.trans e2)) _ fun H3 e3 => by
    have s13 := (e1.trans e2).trans e3
    have z3 := z.imp fun _ _ q => M.up (e2.trans e3) q
    refine ⟨p, vs, ev, ext_same (e2.trans e3) _ _ hp, fun ⟨c1, c2⟩ => ?_, fun _ l hl => k _ _ (s13.trans (same_new hl)) ⟨l, _, rfl, SqT.of upd_same, (cut_A2 z3 lo hi).imp fun _ _ q => M.up (same_new hl) q⟩⟩
    have e : cut xs lo hi = xs := by
      unfold cut
      rw [← z.len, c1, c2, List.drop_zero, Nat.sub_zero, z.len, List.take_length]
    exact k _ H3 s13 (by rw [e]; exact ⟨p, vs, rfl, ext_same (e2.trans e3) _ _ hp, z3⟩)
end
end Gt
/-! Gt10: dicts with texts as keys; two clauses in one comprehension. -/
namespace Gt
open PySem PySem.Spec PyProof.Rows L2

section
variable {K : PySem.W.Frag} {H0 H1 H H' : Hp} {σ : L2.St} {G G' Gx : Cells K} {α β γ δ ε : Type}
variable {ta tb tc te td ty tx : TE} {r : Rp α} {q : Rp β} {x : α} {k : Str}
/-! ### what a dict holds, as data -/
def dkey {α : Type} (xs : List (Str × α)) (k : Str) : Option α := (xs.find? fun kv => decide (kv.1 = k)).map (·.2)
def dput {α : Type} (xs : List (Str × α)) (k : Str) (v : α) : List (Str × α) := if (xs.any fun kv => decide (kv.1 = k)) = true then xs.map (fun kv => if kv.1 = k then (kv.1, v) else kv) else xs ++ [(k, v)]
abbrev Kv (P : V → α → Prop) (x : Key × V) (y : Str × α) : Prop := (x.1 = Sum.inr y.1 ∧ okS y.1) ∧ P x.2 y.2
theorem kv_key {P : V → α → Prop} {kvs : List (Key × V)} {xs : List (Str × α)} (h : A2 (Kv P) kvs xs) (k : Str) : (∃ v b, valV kvs (Sum.inr k : Key) = some v ∧ dkey xs k = some b ∧ P v b) ∨ (valV kvs (Sum.inr k : Key) = none ∧ dkey xs k = none) := by
  induction h with
  | nil => exact .inr ⟨rfl, rfl⟩
  | @cons a b as bs h1 h2 ih =>
    by_cases e : b.1 = k
    · refine .inl ⟨a.2, b.2, ?_, ?_, h1.2⟩
      · exact valV_pos (by rw [h1.1.1, e])
      · unfold dkey
        rw [List.find?_cons, decide_eq_true e]
        rfl
    · have ea : ¬ a.1 = (Sum.inr k : Key) := fun z => e (by rw [h1.1.1] at z; exact Sum.inr.inj z)
      have eb : dkey (b :: bs) k = dkey bs k := by
        unfold dkey
        rw [List.find?_cons, decide_eq_false e]
      rw [valV_neg ea, eb]
      exact ih
theorem kv_any {P : V → α → Prop} {kvs : List (Key × V)} {xs : List (Str × α)} (h : A2 (Kv P) kvs xs) (k : Str) : (kvs.any fun kv => decide (kv.1 = (Sum.inr k : Key))) = xs.any fun kv => decide (kv.1 = k) := by
  induction h with
  | nil => rfl
  | @cons a b as bs h1 h2 ih =>
    rw [List.any_cons, List.any_cons, ih]
    congr 1
    exact decide_eq_decide.mpr ⟨fun z => Sum.inr.inj (h1.1.1.symm.trans z), fun z => by rw [h1.1.1, z]⟩
theorem kv_map {P : V → α → Prop} {kvs : List (Key × V)} {xs : List (Str × α)} (h : A2 (Kv P) kvs xs) {k : Str} {v : V} {b : α} (hv : P v b) : A2 (Kv P) (kvs.map fun kv => if kv.1 = (Sum.inr k : Key) then (kv.1, v) else kv) (xs.map fun kv => if kv.1 = k then (kv.1, b) else kv) := by
  induction h with
  | nil => exact .nil
  | @cons a c as bs h1 h2 ih =>
    rw [List.map_cons, List.map_cons]
    refine .cons ?_ ih
    by_cases e : c.1 = k
    · rw [if_pos (show a.1 = (Sum.inr k : Key) by rw [h1.1.1, e]), if_pos e]
      exact ⟨h1.1, hv⟩
    · rw [if_neg fun z => e (by rw [h1.1.1] at z; exact Sum.inr.inj z), if_neg e]
      exact h1
theorem kv_put {P : V → α → Prop} {kvs : List (Key × V)} {xs : List (Str × α)} (h : A2 (Kv P) kvs xs) {k : Str} {v : V} {b : α} (hk : okS k) (hv : P v b) : A2 (Kv P) (putK kvs (Sum.inr k : Key) v) (dput xs k b) := by
  unfold putK dput
  rw [kv_any h k]
  split
  · exact kv_map h hv
  · exact A2.app (.one ⟨⟨rfl, hk⟩, hv⟩) h
/-- a dict that is read -/
def rD {α : Type} (r : Rp α) : Rp (List (Str × α)) := fun H v xs => ∃ a kvs, v = .ref a ∧ L2.Rd H a (.dK kvs) ∧ A2 (Kv (r H)) kvs xs
/-- .. that a loop walks -/
def rLk {α : Type} (r : Rp α) : Rp (List (Str × α)) := fun H v xs => ∃ a o kvs, v = .ref a ∧ H a = some (.frz o (.dK kvs)) ∧ A2 (Kv (r H)) kvs xs
theorem Rd_up {o : HO} {a : Addr} (e : Same H H') (h : L2.Rd H a o) : L2.Rd H' a o := by
  rcases h with h | ⟨u, h⟩
  · exact .inl (e _ _ h)
  · exact .inr ⟨u, e _ _ h⟩
instance [M : Mono r] : Mono (rD r) := ⟨fun e ⟨a, kvs, ev, h, z⟩ => ⟨a, kvs, ev, Rd_up e h, z.imp fun _ _ w => ⟨w.1, M.up e w.2⟩⟩⟩
instance [M : Mono r] : Mono (rLk r) := ⟨fun e ⟨a, o, kvs, ev, h, z⟩ => ⟨a, o, kvs, ev, e _ _ h, z.imp fun _ _ w => ⟨w.1, M.up e w.2⟩⟩⟩
theorem a_dct {i : Nat} {xs : List (Str × α)} (h : G[i]? = some (some (.ow (nd K r) xs))) : Ev (rD r) (tVar i) G xs := fun H0 σ H E Q k => by
  obtain ⟨own, _, _, h3⟩ := E.at_
  obtain ⟨v, hv, p, kvs, _, ev, hp, z⟩ := h3 i _ h
  exact ⟨v, hv, k v H (Same.refl H) ⟨p, kvs, ev, .inl hp, z.imp fun _ _ w => ⟨w.1, w.2.now⟩⟩⟩
theorem a_lkd {i : Nat} {M : Mono (rLk r)} {xs : List (Str × α)} (h : G[i]? = some (some (.ro (rLk r) M xs))) : Ev (rD r) (tVar i) G xs := (a_ro h).imp fun H v ⟨a, o, kvs, ev, hp, z⟩ => ⟨a, kvs, ev, .inr ⟨o, hp⟩, z⟩
theorem nw_dnew [M : Mono r] : Nw (nd K r) tDNewK G [] := fun H0 σ H E Q k p hp => k _ _ [p] (same_new hp) (fun b hb => by rw [List.mem_singleton.mp hb]; exact hp) ⟨p, [], rfl, rfl, upd_same, .nil⟩
/-- d.get(k, x) | d[k] | k in d -/
theorem a_dget2 {xs : List (Str × α)} (h : Ev (rD r) td G xs) (h' : Ev rS ty G k) (h2 : Ev r tx G x) (M : Mono r) : Ev r (tDGet2 td ty tx) G ((dkey xs k).getD x) := fun H0 σ H E Q c =>
  h H0 σ H E _ fun v H1 e1 ⟨a, kvs, ev, hr, z⟩ => ⟨a, ev, .inl ⟨kvs, hr⟩, h' H0 σ H1 (E.grow e1) _ fun w H2 e2 hw => h2 H0 σ H2 (E.grow (e1.trans e2)) _ fun y H3 e3 hy => by
    have hr3 := Rd_up (e2.trans e3) hr
    have z3 := z.imp fun _ _ w => (⟨w.1, M.up (e2.trans e3) w.2⟩ : Kv (r H3) _ _)
    refine ⟨valV kvs (Sum.inr k : Key), .inl ⟨kvs, Sum.inr k, hr3, hw.1, rfl⟩, ?_⟩
    rcases kv_key z3 k with ⟨v', b', e5, e6, hq⟩ | ⟨e5, e6⟩
    · rw [e5]; exact c _ H3 ((e1.trans e2).trans e3) (by rw [e6]; exact hq)
    · rw [e5]; exact c _ H3 ((e1.trans e2).trans e3) (by rw [e6]; exact hy)⟩
theorem a_dget {xs : List (Str × α)} (h : Ev (rD r) td G xs) (h' : Ev rS ty G k) (M : Mono r) (hx : dkey xs k = some x) : Ev r (tDGet td ty) G x := fun H0 σ H E Q c =>
  h H0 σ H E _ fun v H1 e1 ⟨a, kvs, ev, hr, z⟩ => h' H0 σ H1 (E.grow e1) _ fun w H2 e2 hw => by
    rcases kv_key z k with ⟨v', b', e5, e6, hq⟩ | ⟨e5, e6⟩
    · rw [hx] at e6
      cases e6
      exact ⟨a, v', ev, .inl ⟨kvs, Sum.inr k, Rd_up e2 hr, hw.1, e5.symm⟩, c _ H2 (e1.trans e2) (M.up e2 hq)⟩
    · rw [hx] at e6
      cases e6
/-- d[k] = v -/
theorem l_dput {i : Nat} {xs : List (Str × α)} {tv : TE} {D : Ends} {x' : α} (hi : G[i]? = some (some (.ow (nd K r) xs))) (hk : Ev rS ty G k) (h : Ev r tv G x') (ex : x' = x) (hz : xs.length < 100000) (c : Nx H0 (G.set i (some (.ow (nd K r) (dput xs k x)))) D.nx) (F : Frz K r := by infer_instance) :
    Sv H0 G (sDPut (tVar i) ty tv) D := fun σ H ⟨H1, e1, E⟩ => by
  subst ex
  refine h H1 σ H E _ fun w H2 e2 hw => ?_
  have E2 := E.grow e2
  obtain ⟨own, h1, h2, h3⟩ := id E2.at_
  obtain ⟨v, hv, p, kvs, ea, ev, hp, z⟩ := h3 i _ hi
  subst ev
  refine ⟨_, hv, hk H1 σ H2 E2 _ fun y H3 e3 hy => ?_⟩
  have E3 := E2.grow e3
  have hp3 := e3 _ _ hp
  have hl : kvs.length < sizeLine := Nat.lt_of_le_of_lt (by rw [z.len]; omega) (by decide : 100000 < sizeLine)
  refine ⟨p, _, rfl, .inl ⟨kvs, Sum.inr k, hp3, hy.1, hl, rfl⟩, c _ _ ⟨H1, e1, ?_⟩⟩
  have x0 : ExT K H3 (upd H3 p (.dK (putK kvs (Sum.inr k : Key) w))) := ext_upd hp3 fun z => z
  have z3 : A2 (Kv (Stb K r (upd H3 p (.dK (putK kvs (Sum.inr k : Key) w))))) kvs xs := z.imp fun _ _ q => ⟨q.1, (q.2.up (ext_same e3)).up x0⟩
  refine E3.mut (as := [p]) (R := nd K r) (R' := nd K r) hi hv x0 (fun c o hc ho => ?_) (fun w' bs hw' ⟨p', _, e6, e7, _, _⟩ => ?_) ⟨p, _, rfl, rfl, upd_same, kv_put z3 hy.2 ((stb (F.up (ext_same e3) hw)).up x0)⟩
  · rw [upd_ne fun z => hc (by rw [z]; exact List.mem_singleton.mpr rfl)]
    exact ho
  · rw [hv] at hw'
    cases hw'
    cases e7
    exact e6
theorem q_dput {i : Nat} {xs : List (Str × α)} {tv : TE} {u : TS} {D : Ends} {x' : α} (hi : G[i]? = some (some (.ow (nd K r) xs))) (hk : Ev rS ty G k) (h : Ev r tv G x') (ex : x' = x) (hz : xs.length < 100000) (c : Sv H0 (G.set i (some (.ow (nd K r) (dput xs k x)))) u D) (F : Frz K r := by infer_instance) :
    Sv H0 G (tSeq (sDPut (tVar i) ty tv) u) D := l_dput (D := { D with nx := u D }) hi hk h ex hz c F

/-! ### a dict is locked while it is walked -/
theorem Env.lock {i : Nat} {xs : List (Str × α)} [M : Mono r] (E : Env H1 σ H G) (hi : G[i]? = some (some (.ow (nd K r) xs))) : ∃ p kvs, σ[i]? = some (some (.ref p)) ∧ H p = some (.dK kvs) ∧ H1 p = none ∧
    ∀ od, ExT K H (upd H p (.frz od (.dK kvs))) ∧ ∃ H2, Same H1 H2 ∧ Env H2 σ (upd H p (.frz od (.dK kvs))) (G.set i (rc (rLk r) xs)) := by
  classical
  obtain ⟨own, h1, h2, h3⟩ := E.at_
  obtain ⟨v, hv, p, kvs, ea, ev, hp, z⟩ := h3 i _ hi
  subst ev
  have hp1 : H1 p = none := (h1 i p (by rw [ea]; exact List.mem_singleton.mpr rfl)).1
  refine ⟨p, kvs, hv, hp, hp1, fun od => ?_⟩
  let L := upd H p (.frz od (.dK kvs))
  have xt0 : ExT K H L := ext_upd hp fun z => z
  refine ⟨xt0, ?_⟩
  let X : Addr → Prop := fun b => (∃ j, j ≠ i ∧ b ∈ own j)
  have hX : ∀ b, H1 b ≠ none → ¬ X b := fun b hb ⟨j, _, hj⟩ => hb (h1 j b hj).1
  have hXp : ¬ X p := fun ⟨j, hj, hpj⟩ => hj (h2 j i p hpj (by rw [ea]; exact List.mem_singleton.mpr rfl))
  have key : ∀ b, cutH L X b = if X b then none else L b := fun b => rfl
  have keep : ∀ b o, b ≠ p → H b = some o → L b = some o := fun b o hb ho => by
    show upd H p _ b = _
    rw [upd_ne hb]
    exact ho
  have s12 : Same H1 (cutH L X) := fun b o ho => by
    rw [key, if_neg (hX b (by rw [ho]; exact fun z => nomatch z))]
    exact keep b o (fun e => by rw [e, hp1] at ho; cases ho) (E.old b o ho)
  have s2 : Same (cutH L X) L := fun b o ho => by
    rw [key] at ho
    split at ho
    · cases ho
    · exact ho
  have xt : ExT K L (cutH L X) := fun a xs q => by
    have nX : ∀ o, L a = some o → isTup o → ¬ X a := fun o ho t ⟨j, hj, hja⟩ => by
      obtain ⟨u, hu, nu⟩ := (h1 j a hja).2
      have hne : a ≠ p := fun e => hj (h2 j i a hja (by rw [ea, e]; exact List.mem_singleton.mpr rfl))
      rw [keep a u hne hu] at ho
      cases ho
      exact nu t
    rcases q with (q | ⟨o', q⟩) | q
    · exact .inl (.inl (by rw [key, if_neg (nX _ q trivial)]; exact q))
    · exact .inl (.inr ⟨o', by rw [key, if_neg (nX _ q trivial)]; exact q⟩)
    · exact .inr q
  refine ⟨cutH L X, s12, s2, by rw [List.length_set]; exact E.len, fun j => if j = i then [] else own j, fun j b hb => ?_, fun j k b hj hk => ?_, fun j c hc => ?_⟩
  · by_cases hj : j = i
    · simp only [hj, if_true] at hb
      cases hb
    · simp only [hj, if_false] at hb
      obtain ⟨o, ho, nt⟩ := (h1 j b hb).2
      exact ⟨by rw [key, if_pos ⟨j, hj, hb⟩], o, keep b o (fun e => hXp ⟨j, hj, by rw [← e]; exact hb⟩) ho, nt⟩
  · by_cases hji : j = i
    · simp only [hji, if_true] at hj
      cases hj
    · by_cases hki : k = i
      · simp only [hki, if_true] at hk
        cases hk
      · simp only [hji, hki, if_false] at hj hk
        exact h2 j k b hj hk
  · by_cases hj : j = i
    · subst hj
      have hl : j < G.length := (List.getElem?_eq_some_iff.mp hi).1
      rw [List.getElem?_set_self hl] at hc
      cases hc
      refine ⟨_, hv, by simp, p, od, kvs, rfl, ?_, z.imp fun _ _ w => ⟨w.1, ((w.2.up xt0).up xt).now⟩⟩
      rw [key, if_neg hXp]
      exact upd_same
    · rw [List.getElem?_set_ne (Ne.symm hj)] at hc
      obtain ⟨v, hv, hk⟩ := h3 j c hc
      refine ⟨v, hv, ?_⟩
      simp only [hj, if_false]
      cases c with
      | ow R b => exact R.stay hk xt0 fun b hb o ho => keep b o (fun e => hXp ⟨j, hj, by rw [← e]; exact hb⟩) ho
      | ro r m b => exact ⟨hk.1, m.up s12 hk.2⟩
theorem nw_lock {i : Nat} {xs : List (Str × α)} {t : TE} {R : Rs K β} {b : β} [M : Mono r] (hi : G[i]? = some (some (.ow (nd K r) xs))) (h : Nw R t (G.set i (rc (rLk r) xs)) b) : Nw R (tLockE t) G b := fun H0 σ H E Q k => by
  obtain ⟨p, kvs, hv, hp, hp1, L⟩ := E.lock hi
  refine ⟨p, _, hp, trivial, fun od => ?_⟩
  obtain ⟨xt0, H2, s12, E2⟩ := L od
  refine h H2 σ _ E2 _ fun v H' as e hn hr => ?_
  have hl := e _ _ (show upd H p (.frz od (.dK kvs)) p = _ from upd_same)
  have xb : ExT K H' (upd H' p (.dK kvs)) := fun a ys q => by
    have hne : ∀ w, H' a = some w → (∀ z, w ≠ .frz od (.dK z)) → a ≠ p := fun w e1 n z => by
      rw [z, hl] at e1
      exact n _ (Option.some.inj e1).symm
    rcases q with (q | ⟨o', q⟩) | q
    · exact .inl (.inl (by rw [upd_ne (hne _ q fun _ z => nomatch z)]; exact q))
    · exact .inl (.inr ⟨o', by rw [upd_ne (hne _ q fun _ z => nomatch z)]; exact q⟩)
    · exact .inr q
  have np : ∀ c ∈ as, c ≠ p := fun c hc z => by
    have := hn c hc
    rw [z, upd_same] at this
    cases this
  refine ⟨hl, k v _ as (fun c o ho => ?_) (fun c hc => ?_) (R.stay hr xb fun c hc o ho => by rw [upd_ne (np c hc)]; exact ho)⟩
  · by_cases hc : c = p
    · subst hc
      rw [hp] at ho
      cases ho
      exact upd_same
    · rw [upd_ne hc]
      exact e _ _ (by rw [upd_ne hc]; exact ho)
  · have := hn c hc
    rw [upd_ne (np c hc)] at this
    exact this
theorem wj_items {a : Addr} {o : Obj} {kvs : List (Key × V)} {xs : List (Str × α)} [M : Mono r] (h : H1 a = some (.frz o (.dK kvs))) (z : A2 (Kv (r H1)) kvs xs) : Wj (Iti a o kvs) (rP K rS r) H1 xs where
  go := fun H i x e hx => by
    obtain ⟨v, hv, w⟩ := z.get' hx
    refine ⟨⟨e _ _ h, (List.getElem?_eq_some_iff.mp hv).1⟩, fun u H' ⟨T, k, v', hk, eu, hT, eH⟩ => ?_⟩
    rw [hv] at hk
    cases hk
    subst eH
    refine ⟨same_new hT, T, kV k, v', eu, SqT.of upd_same, ⟨?_, w.1.2⟩, M.up (e.trans (same_new hT)) w.2⟩
    rw [show k = Sum.inr x.1 from w.1.1]
    rfl
  stop := fun H e => ⟨e _ _ h, Nat.le_of_eq z.len⟩
theorem wj_keys {a : Addr} {o : Obj} {kvs : List (Key × V)} {xs : List (Str × α)} (h : H1 a = some (.frz o (.dK kvs))) (z : A2 (Kv (r H1)) kvs xs) : Wj (Itk a o kvs) rS H1 (xs.map (·.1)) where
  go := fun H i x e hx => by
    rw [List.getElem?_map] at hx
    cases q : xs[i]? with
    | none => rw [q] at hx; cases hx
    | some y =>
      rw [q] at hx
      cases hx
      obtain ⟨v, hv, w⟩ := z.get' q
      refine ⟨⟨e _ _ h, (List.getElem?_eq_some_iff.mp hv).1⟩, fun u H' ⟨eH, k, v', hk, eu⟩ => ?_⟩
      rw [hv] at hk
      cases hk
      subst eH
      exact ⟨Same.refl _, by rw [eu, show k = Sum.inr y.1 from w.1.1]; rfl, w.1.2⟩
  stop := fun H e => ⟨e _ _ h, by rw [List.length_map, z.len]; exact Nat.le_refl _⟩
theorem wk_items {i : Nat} {M' : Mono (rLk r)} {xs : List (Str × α)} [M : Mono r] (h : G[i]? = some (some (.ro (rLk r) M' xs)) := by rfl) : Wk (iItems (tVar i)) (rP K rS r) G G xs := fun H1 σ H E R k => by
  obtain ⟨own, _, _, h3⟩ := E.at_
  obtain ⟨v, hv, _, p, o, kvs, e2, e3, e4⟩ := h3 i _ h
  exact ⟨v, hv, p, o, kvs, e2, E.old _ _ e3, k _ H1 H (Same.refl _) (Same.refl _) E (wj_items e3 e4)⟩
theorem wk_keys {i : Nat} {M' : Mono (rLk r)} {xs : List (Str × α)} (h : G[i]? = some (some (.ro (rLk r) M' xs)) := by rfl) : Wk (iKeys (tVar i)) rS G G (xs.map (·.1)) := fun H1 σ H E R k => by
  obtain ⟨own, _, _, h3⟩ := E.at_
  obtain ⟨v, hv, _, p, o, kvs, e2, e3, e4⟩ := h3 i _ h
  exact ⟨v, hv, p, o, e2, .inl ⟨kvs, E.old _ _ e3, k _ H1 H (Same.refl _) (Same.refl _) E (wj_keys e3 e4)⟩⟩
end
end Gt
/-! Gt11: a comprehension of two clauses. -/
namespace Gt
open PySem PySem.Spec PyProof.Rows L2

section
variable {K : PySem.W.Frag} {H0 H1 H H' : Hp} {σ : L2.St} {G G' Gx : Cells K} {α β γ δ β' : Type}
variable {te : TE} {wi wi1 : TI} {g g1 : TG} {tt tt1 : TT} {r : Rp α} {q : Rp β}
theorem Env.front {ρ : L2.St} {C : Cells K} (hl : σ.length = G.length) (E : Env H1 (σ ++ ρ) H (G ++ C)) : Env H1 σ H G := by
  obtain ⟨own, g1, g2, g3⟩ := E.at_
  refine ⟨E.old, hl, own, g1, g2, fun i c hc => ?_⟩
  have hi : i < G.length := (List.getElem?_eq_some_iff.mp hc).1
  obtain ⟨v, hv, hk⟩ := g3 i c (by rw [List.getElem?_append_left hi]; exact hc)
  rw [List.getElem?_append_left (by rw [hl]; exact hi)] at hv
  exact ⟨v, hv, hk⟩
/-- a target, whatever stands behind the slots -/
def TbP (g : TG) (r : Rp α) (x : α) (vs : List Nat) (G G' : Cells K) : Prop := ∀ H1 σ σ0 ρ C H v, σ = wipe σ0 vs → σ.length = G.length → Env H1 (σ ++ ρ) H (G ++ C) → r H v x → ∀ P : L2.St → Hp → Prop,
  (∀ σ', σ'.length = G'.length → Env H1 (σ' ++ ρ) H (G' ++ C) → wipe σ' vs = wipe σ0 vs → P σ' H) → g v σ H P
theorem set_front {X : Type _} {l m : List X} {i : Nat} {x : X} (h : i < l.length) : (l ++ m).set i x = l.set i x ++ m := by
  rw [List.set_append_left _ _ h]
theorem set_wide {X : Type _} {l : List X} {i : Nat} {x : X} (h : ¬ i < l.length) : l.set i x = l := List.set_eq_of_length_le (by omega)
theorem tbp_name {r : Rp α} [F : Frz K r] {x : α} {i : Nat} {vs : List Nat} (hi : i ∈ vs := by decide) (hl : i < G.length := by exact Nat.le_of_ble_eq_true rfl) : TbP (gName i) r x vs G (G.set i (fc r x)) := fun H1 σ σ0 ρ C H v e ln E h P k => by
  subst e
  have E2 := E.put (i := i) (v := v) (R := fz K r) (as := []) (Same.refl H) (fun _ z => nomatch z) ⟨rfl, stb h⟩
  rw [set_front (by rw [ln]; exact hl), set_front hl] at E2
  exact k _ (by rw [List.length_set, List.length_set]; exact ln) E2 (wipe_set hi)
theorem tbp_pair {r : Rp α} {q : Rp β} [F : Frz K r] [F' : Frz K q] {p : α × β} {i j : Nat} {vs : List Nat} (hi : i ∈ vs := by decide) (hj : j ∈ vs := by decide) (hl : i < G.length ∧ j < G.length := by exact ⟨Nat.le_of_ble_eq_true rfl, Nat.le_of_ble_eq_true rfl⟩) :
    TbP (gTup K 2 (gCons (gName i) (gCons (gName j) gNil))) (rP K r q) p vs G ((G.set i (fc r p.1)).set j (fc q p.2)) := fun H1 σ σ0 ρ C H v e0 ln E ⟨a, x, y, e, h, h1, h2⟩ P k => by
  subst e0
  have E2 := (E.put (i := i) (v := x) (R := fz K r) (as := []) (Same.refl H) (fun _ z => nomatch z) ⟨rfl, stb h1⟩).put (i := j) (v := y) (R := fz K q) (as := []) (Same.refl H) (fun _ z => nomatch z) ⟨rfl, stb h2⟩
  rw [set_front (by rw [ln]; exact hl.1), set_front hl.1, set_front (by rw [List.length_set, ln]; exact hl.2), set_front (by rw [List.length_set]; exact hl.2)] at E2
  exact ⟨a, [x, y], e, h, rfl, x, [y], rfl, y, [], rfl, rfl, k _ (by rw [List.length_set, List.length_set, List.length_set, List.length_set]; exact ln) E2 (by rw [wipe_set2 hj, wipe_set hi])⟩
/-- what is walked, whatever stands behind the slots -/
def WkP (wi : TI) (r : Rp α) (G : Cells K) (xs : List α) : Prop := ∀ H1 σ ρ C H, σ.length = G.length → Env H1 (σ ++ ρ) H (G ++ C) → ∀ R : It → Hp → Prop, (∀ J H2 H', Same H1 H2 → Same H H' → Env H2 (σ ++ ρ) H' (G ++ C) → Wj J r H2 xs → R J H') → wi σ H R
theorem wkp_tup {r : Rp α} [F : Frz K r] [M : Mono r] {tl : TE} {xs : List α} (h : Ev (rT K r) tl G xs) : WkP (iTup K tl) r G xs := fun H1 σ ρ C H ln E R k =>
  h H1 σ H (E.front ln) _ fun v H' e ⟨p, vs, e2, e3, e4⟩ => by
    obtain ⟨H2, s1, s2, x, E2, ho⟩ := E.rebase e
    exact ⟨p, e2, ⟨vs, e3⟩, k _ H2 H' s1 e E2 (wj_tup (x _ _ e3) (e4.imp fun _ _ z => F.up x z))⟩
theorem wkp_rng1 {ta : TE} {n : Int} (h : Ev rI ta G n) (hn : -100000 ≤ n ∧ n ≤ 100000) : WkP (iRng1 (tCons ta tNil)) rI G (ups n.toNat) := fun H1 σ ρ C H ln E R k =>
  h H1 σ H (E.front ln) _ fun v H' e z => ⟨n, by rw [show v = .int n from z], by omega, by omega, k (Itr 0 n.toNat) H1 H' (Same.refl _) e (E.grow e) (by
      have w := wj_rng (H1 := H1) (lo := 0) (n := n.toNat)
      have e0 : ((List.range n.toNat).map fun (i : Nat) => (0 : Int) + (i : Int)) = ups n.toNat := by
        unfold ups
        exact List.map_congr_left fun i _ => Int.zero_add _
      rw [e0] at w
      exact w)⟩
/-- the list that is filled stands behind the slots; one item more -/
theorem Env.fill {D : Addr} {q : Rp γ} [F : Frz K q] {acc : List γ} {y : γ} {v : V} (hl : σ.length = G.length) (E : Env H1 (σ ++ [some (.ref D)]) H (G ++ [some (.ow (nl K q) acc)])) (hv : q H v y) :
    ∃ ws, H D = some (.lst ws) ∧ ws.length = acc.length ∧ Env H1 (σ ++ [some (.ref D)]) (upd H D (.lst (ws ++ [v]))) (G ++ [some (.ow (nl K q) (acc ++ [y]))]) := by
  obtain ⟨own, k1, k2, k3⟩ := id E.at_
  obtain ⟨w, hw, p', ws, a1, a2, a3, a4⟩ := k3 _ _ getE_last
  have hw2 := hw
  rw [← hl, getE_last] at hw
  cases hw
  cases a2
  have E6 := app_env (x := y) E getE_last hw2 a3 a4 (stb hv)
  rw [set_last] at E6
  exact ⟨ws, a3, a4.len, E6⟩
def flat2 (ys : List β') (zs : β' → List δ) (p : β' → δ → Bool) (f : β' → δ → γ) : List γ := ys.flatMap fun x => ((zs x).filter (p x)).map (f x)
theorem nw_lc2 {vs vs1 : List Nat} {q : Rp γ} [F : Frz K q] {r : Rp β'} {r1 : Rp δ} {ys : List β'} (zs : β' → List δ) (p : β' → δ → Bool) (f : β' → δ → γ) (hw : Wk wi r G G' ys) (hlen : (flat2 ys zs p f).length ≤ 100000)
    (turn : ∀ pre x post, ys = pre ++ x :: post → ∃ Gx, TbP g r x vs (wipeG G' vs) Gx ∧ WkP wi1 r1 Gx (zs x) ∧ ∀ pre1 y post1, zs x = pre1 ++ y :: post1 → ∃ Gy, TbP g1 r1 y vs1 (wipeG Gx vs1) Gy ∧ EvT tt1 Gy (p x y) ∧ (p x y = true → Ev q te Gy (f x y))) :
    Nw (nl K q) (tLc2 wi g tYes wi1 g1 tt1 te vs vs1) G (flat2 ys zs p f) := fun H1 σ H E Q k => by
  refine hw H1 σ H E _ fun J H2 Hs s1 sH E2 W => ?_
  intro D hD
  have E3 := (E2.wipe vs).push (q := q) hD
  have lw : (L2.wipe σ vs).length = (wipeG G' vs).length := (E2.wipe vs).len
  have Fin : ∀ h, Env H2 (L2.wipe σ vs ++ [some (.ref D)]) h (wipeG G' vs ++ [some (.ow (nl K q) (flat2 ys zs p f))]) → Same Hs h → Q (.ref D) h := fun h Eh sh => by
    obtain ⟨own, k1, k2, k3⟩ := Eh.at_
    obtain ⟨v, hv, p', ws, e1, e2, e3, e4⟩ := k3 _ _ getE_last
    rw [← lw, getE_last] at hv
    cases hv
    cases e2
    exact k _ h [D] (sH.trans sh) (fun b hb => by rw [List.mem_singleton.mp hb]; exact sH.free hD) ⟨D, ws, rfl, rfl, e3, e4⟩
  have same0 : Same Hs (upd Hs D (.lst [])) := fun b o hb => by rw [upd_ne (ne_of_none hb hD)]; exact hb
  refine ⟨fun i m h => i + m = ys.length ∧ Same Hs h ∧ Env H2 (L2.wipe σ vs ++ [some (.ref D)]) h (wipeG G' vs ++ [some (.ow (nl K q) (flat2 (ys.take i) zs p f))]), ⟨ys.length, Nat.zero_add _, same0, E3⟩, ?_⟩
  rintro i m h ⟨hi, sh, Eh⟩
  by_cases hl : i < ys.length
  · have hx : ys[i]? = some ys[i] := List.getElem?_eq_getElem hl
    have etk : ys.take (i + 1) = ys.take i ++ [ys[i]] := by rw [List.take_add_one, hx]; rfl
    obtain ⟨g1', g2'⟩ := W.go h i _ (E2.old.trans sh) hx
    refine .inr ⟨g1', fun h' => Same Hs h' ∧ Env H2 (L2.wipe σ vs ++ [some (.ref D)]) h' (wipeG G' vs ++ [some (.ow (nl K q) (flat2 (ys.take (i + 1)) zs p f))]), fun h' z => ⟨m - 1, by omega, by omega, z⟩, fun v h2 hy => ?_⟩
    obtain ⟨e2, z⟩ := g2' v h2 hy
    have hsp : ys = ys.take i ++ ys[i] :: ys.drop (i + 1) := by rw [List.getElem_cons_drop, List.take_append_drop]
    obtain ⟨Gx, ht, hwk, hin⟩ := turn (ys.take i) ys[i] (ys.drop (i + 1)) hsp
    refine ht H2 _ σ [some (.ref D)] _ h2 v rfl lw (Eh.grow e2) z _ fun σ2 ln2 E4 hwp => ⟨hwp, et_yes H2 σ2 h2 (E4.front ln2) _ fun h3 e3 => ?_⟩
    refine iteT ?_
    refine hwk H2 σ2 _ _ h3 ln2 (E4.grow e3) _ fun J1 H3 h4 s3 e4 E5 W1 => ?_
    have total : flat2 (ys.take (i + 1)) zs p f = flat2 (ys.take i) zs p f ++ ((zs ys[i]).filter (p ys[i])).map (f ys[i]) := by
      unfold flat2
      rw [etk, List.flatMap_append, List.flatMap_cons, List.flatMap_nil, List.append_nil]
    have cap : (flat2 (ys.take (i + 1)) zs p f).length ≤ 100000 := by
      refine Nat.le_trans ?_ hlen
      have : flat2 ys zs p f = flat2 (ys.take (i + 1)) zs p f ++ flat2 (ys.drop (i + 1)) zs p f := by
        unfold flat2
        rw [← List.flatMap_append, List.take_append_drop]
      rw [this, List.length_append]
      exact Nat.le_add_right _ _
    rw [total, List.length_append, List.length_map] at cap
    refine ⟨fun j m1 h => j + m1 = (zs ys[i]).length ∧ Same Hs h ∧ Env H2 (L2.wipe σ vs ++ [some (.ref D)]) h (wipeG G' vs ++ [some (.ow (nl K q) (flat2 (ys.take i) zs p f ++ (((zs ys[i]).take j).filter (p ys[i])).map (f ys[i])))]) ∧
      Env H3 (σ2 ++ [some (.ref D)]) h (Gx ++ [some (.ow (nl K q) (flat2 (ys.take i) zs p f ++ (((zs ys[i]).take j).filter (p ys[i])).map (f ys[i])))]),
      ⟨(zs ys[i]).length, Nat.zero_add _, ((sh.trans e2).trans e3).trans e4, ?_, ?_⟩, ?_⟩
    · rw [List.take_zero, List.filter_nil, List.map_nil, List.append_nil]
      exact Eh.grow ((e2.trans e3).trans e4)
    · rw [List.take_zero, List.filter_nil, List.map_nil, List.append_nil]
      exact E5
    rintro j m1 h ⟨hj, sh5, EO, EI⟩
    by_cases hl1 : j < (zs ys[i]).length
    · have hx1 : (zs ys[i])[j]? = some (zs ys[i])[j] := List.getElem?_eq_getElem hl1
      have etk1 : (zs ys[i]).take (j + 1) = (zs ys[i]).take j ++ [(zs ys[i])[j]] := by rw [List.take_add_one, hx1]; rfl
      obtain ⟨k1, k2⟩ := W1.go h j _ EI.old hx1
      refine .inr ⟨k1, fun h' => Same Hs h' ∧ Env H2 (L2.wipe σ vs ++ [some (.ref D)]) h' (wipeG G' vs ++ [some (.ow (nl K q) (flat2 (ys.take i) zs p f ++ (((zs ys[i]).take (j + 1)).filter (p ys[i])).map (f ys[i])))]) ∧
        Env H3 (σ2 ++ [some (.ref D)]) h' (Gx ++ [some (.ow (nl K q) (flat2 (ys.take i) zs p f ++ (((zs ys[i]).take (j + 1)).filter (p ys[i])).map (f ys[i])))]), fun h' z => ⟨m1 - 1, by omega, by omega, z⟩, fun v1 h6 hy1 => ?_⟩
      obtain ⟨e6, z1⟩ := k2 v1 h6 hy1
      have hsp1 : zs ys[i] = (zs ys[i]).take j ++ (zs ys[i])[j] :: (zs ys[i]).drop (j + 1) := by rw [List.getElem_cons_drop, List.take_append_drop]
      obtain ⟨Gy, ht1, hb1, he1⟩ := hin ((zs ys[i]).take j) (zs ys[i])[j] ((zs ys[i]).drop (j + 1)) hsp1
      have EIw : Env H3 (L2.wipe σ2 vs1 ++ [some (.ref D)]) h6 (wipeG Gx vs1 ++ [some (.ow (nl K q) (flat2 (ys.take i) zs p f ++ (((zs ys[i]).take j).filter (p ys[i])).map (f ys[i])))]) := by
        obtain ⟨own, o1, o2, o3⟩ := (EI.grow e6).at_
        refine ⟨(EI.grow e6).old, by simp only [List.length_append, wipe_length, wipeG_len, ln2, List.length_singleton], own, o1, o2, fun a c hc => ?_⟩
        have lwx : (wipeG Gx vs1).length = Gx.length := wipeG_len _
        by_cases ha : a < Gx.length
        · rw [List.getElem?_append_left (by rw [lwx]; exact ha)] at hc
          obtain ⟨w1, w2⟩ := wipeG_get hc
          obtain ⟨u, hu, hk⟩ := o3 a c (by rw [List.getElem?_append_left ha]; exact w1)
          refine ⟨u, ?_, hk⟩
          rw [List.getElem?_append_left (by rw [ln2]; exact ha)] at hu
          rw [List.getElem?_append_left (by rw [wipe_length, ln2]; exact ha), wipe_out' w2]
          exact hu
        · rw [List.getElem?_append_right (by rw [lwx]; omega), lwx] at hc
          obtain ⟨u, hu, hk⟩ := o3 a c (by rw [List.getElem?_append_right (by omega)]; exact hc)
          refine ⟨u, ?_, hk⟩
          rw [List.getElem?_append_right (by rw [ln2]; omega), ln2] at hu
          rw [List.getElem?_append_right (by rw [wipe_length, ln2]; omega), wipe_length, ln2]
          exact hu
      refine ht1 H3 _ σ2 [some (.ref D)] _ h6 v1 rfl (by rw [wipe_length, wipeG_len, ln2]) EIw z1 _ fun σ3 ln3 E7 hwp1 => ⟨hwp1, hb1 H3 σ3 h6 (E7.front ln3) _ fun h7 e7 => ?_⟩
      cases hp : p ys[i] (zs ys[i])[j] with
      | false =>
        refine iteF ?_
        have same : ((((zs ys[i]).take (j + 1)).filter (p ys[i])).map (f ys[i])) = ((((zs ys[i]).take j).filter (p ys[i])).map (f ys[i])) := by
          rw [etk1, List.filter_append, List.filter_cons, if_neg (by rw [hp]; exact Bool.false_ne_true), List.filter_nil, List.append_nil]
        rw [same]
        exact ⟨(sh5.trans e6).trans e7, EO.grow (e6.trans e7), EI.grow (e6.trans e7)⟩
      | true =>
        refine iteT (he1 hp H3 σ3 h7 ((E7.grow e7).front ln3) _ fun y h8 e8 hq => ?_)
        have ee := (e6.trans e7).trans e8
        obtain ⟨ws, hws, hwl, EO2⟩ := (EO.grow ee).fill lw (y := f ys[i] (zs ys[i])[j]) hq
        obtain ⟨ws', hws', hwl', EI2⟩ := (EI.grow ee).fill ln2 (y := f ys[i] (zs ys[i])[j]) hq
        rw [hws] at hws'
        cases hws'
        have more : (((zs ys[i]).take (j + 1)).filter (p ys[i])).map (f ys[i]) = (((zs ys[i]).take j).filter (p ys[i])).map (f ys[i]) ++ [f ys[i] (zs ys[i])[j]] := by
          rw [etk1, List.filter_append, List.filter_cons, if_pos hp, List.filter_nil, List.map_append]
          rfl
        have few : (((zs ys[i]).take j).filter (p ys[i])).length ≤ ((zs ys[i]).filter (p ys[i])).length := ((List.take_sublist j (zs ys[i])).filter (p ys[i])).length_le
        refine ⟨ws, hws, ?_, fun b o hb => ?_, ?_, ?_⟩
        · rw [hwl, List.length_append, List.length_map]
          exact Nat.lt_of_le_of_lt (Nat.le_trans (Nat.add_le_add_left few _) cap) (by decide : 100000 < sizeLine)
        · rw [upd_ne (ne_of_none hb hD)]
          exact ee _ _ (sh5 _ _ hb)
        · rw [more, ← List.append_assoc]
          exact EO2
        · rw [more, ← List.append_assoc]
          exact EI2
    · have hj' : j = (zs ys[i]).length := by omega
      subst hj'
      rw [List.take_length] at EO
      refine .inl ⟨W1.stop h EI.old, sh5, ?_⟩
      rw [total]
      exact EO
  · have hi' : i = ys.length := by omega
    subst hi'
    rw [List.take_length] at Eh
    exact .inl ⟨W.stop h (E2.old.trans sh), Fin h Eh sh⟩
end
end Gt
/-! Gt12: own classes, over cells. -/
namespace Gt
open PySem PySem.Spec PyProof.Rows L2
/-- where the class of that name stands -/
def cA (K : PySem.W.Frag) (x : Str) : Addr := match PySem.W.nsIn K mainGlobals x with
  | some (some (.ref C)) => C
  | _ => 0
theorem cA_eq {K : PySem.W.Frag} {x : Str} {C : Addr} (h : PySem.W.nsIn K mainGlobals x = some (some (.ref C))) : cA K x = C := by
  unfold cA
  rw [h]
/-- what the top says of a class: its fields are fields -/
structure ClsF (K : PySem.W.Frag) (mg : Str → Option Value) (x : Str) : Prop where
  cl : Cls K (cA K x)
  mg : mg x = some (.ref (cA K x))
  first : PySem.W.selfFirst K (cA K x) = true
  noseq : PySem.W.noSeq K (cA K x) = true
  makes : PySem.W.makesIn K (cA K x) = true
  kp : PySem.W.keepIn K (.ref (cA K x)) = true
section
variable {X : Cx} (K : PySem.W.Frag) {CX : CXT} {C : Addr} {k : Nat} {ps : List Str} {sp : Sp} {E : XK} {x m f : Str} {p pos apos pos' : Pos} {e o value : Expr} {es : List Expr} {ta tv : TE} {t : TA}
theorem pe_mkI (I : CalI X.prog X.w X.K X.mg X.base CX0 C k ps sp) (hm : X.mg x = some (.ref C)) (hr : Room (k + 1) X.A) (ha : PA X (e :: es) t) (hg : Gl X x := by rfl) (hdb : (x == ("__debug__" : Str)) = false := by decide)
    (he : starEach (e :: es) X.env = (false, eval e X.env) :: starEach es X.env := by rfl) (hpl : (backTo pos (starEach es X.env)).any (·.1) = false := by rfl) : PE X (.Call (.Name x p) (e :: es) [] pos) (tMake C sp [] E0 t) := by
  obtain ⟨f, fd, F, M, b⟩ := I.ex
  exact pe_make M F hr hg hm b .nil pass0 ha hdb he hpl
theorem ps_fldK (ha : PE X o ta) (hv : PE X value tv) (hK : X.K = K := by rfl) (hs : swapsWith value (some (.Attribute o f pos')) pos.line X.env = pure false := by rfl) : PS X (.Assign [.Attribute o f pos'] value pos) (sFld K ta tv f) := by subst hK; exact ps_fld ha hv hs
theorem k_listY {g : Str} (O : ItOk X.prog X.w X.K X.mg X.base C g) (n : NoLen X.K C) (hr : Room 3 X.A) (hc : X.calm = true := by rfl) (hK : X.K = K := by rfl) : CallR X (.type "list") (rListY K C g) := by subst hK; exact call_listY hc O n hr
theorem pi_ownK {tg : Expr} {g : Str} (he : PE X e ta) (O : ItOk X.prog X.w X.K X.mg X.base C g) (hr : Room 1 X.A) (hK : X.K = K := by rfl) : PI X tg e (iOwn K C g ta) := by subst hK; exact pi_own he O hr
theorem pe_mth (ho : PE X o ta) (c : Cls X.K C) (M : CalM X.prog X.w X.K X.mg X.base CX0 C m k ps sp) (hr : Room k X.A) (ha : PA X (e :: es) t) {pl : Sem Bool}
    (hst : starEach (e :: es) X.env = (false, eval e X.env) :: starEach es X.env := by rfl) (hpl : (backTo pos (starEach es X.env)).any (·.1) = false := by rfl)
    (ht : eval (.Call (.Attribute o m apos) (e :: es) [] pos) X.env = (do
      let ov ← eval o X.env
      standAt apos.atName
      let (f, first) ← holding [ov] (getMethod ov m pl)
      callWith pos f first (backTo pos (starEach (e :: es) X.env)) (backToKw pos (keywordEach [] X.env))) := by rfl) : PE X (.Call (.Attribute o m apos) (e :: es) [] pos) (tMeth C m sp [] E0 ta t) := by
  obtain ⟨f, fd, F, hm, b⟩ := M.ex
  exact pe_meth ho c hm F hr b .nil pass0 ha hst hpl ht
end
/-- what r says is an instance of the class at C with these fields -/
structure InsR (K : PySem.W.Frag) {β : Type} (C : Addr) (r : Rp β) (names : List Str) : Prop where
  ins : ∀ {H : Hp} {v : V} {b : β}, r H v b → ∃ a dx fs, v = .ref a ∧ H a = some (.ins C dx fs) ∧ fs.map (·.1) = names
theorem lookup_no {names : List Str} {m : Str} : ∀ {fs : List (Str × V)}, fs.map (·.1) = names → m ∉ names → fs.lookup m = none := by
  intro fs h hm
  subst h
  induction fs with
  | nil => rfl
  | cons x r ih =>
    obtain ⟨a, b⟩ := x
    rw [List.map_cons, List.mem_cons, not_or] at hm
    rw [List.lookup_cons, show (m == a) = false from beq_eq_false_iff_ne.mpr hm.1]
    exact ih hm.2
section
variable {K : PySem.W.Frag} {H0 H1 H H' : Hp} {σ : L2.St} {G G' : Cells K} {α β γ δ : Type} {ta tb te : TE} {t : TA} {r : Rp α} {r' : Rp β} {q : Rp γ} {x : α} {y : β} {z : γ} {C : Addr} {names : List Str} {m : Str}
theorem a_cmpO {pre : α × β × Unit → Prop} {f : α × β × Unit → γ} {E : XK} (h : Ev r ta G x) (h' : Ev r' tb G y) (M : Mono r) (I : InsR K C r names) (I' : InsR K C r' names) (hp : PreOk pre (x, y, ())) (e : AppEq f (x, y, ()) z) :
    Ev q (tOp (rOwnOp C (spF (aC r (aC r' aN)) pre q f) E) ta tb) G z := ev_op h h' fun H u v hu hv Q k => by
  obtain ⟨a, dx, fs, ea, ha, _⟩ := I.ins hu
  obtain ⟨b, dy, gs, eb, hb, _⟩ := I'.ins hv
  exact ⟨a, dx, fs, b, dy, gs, ea, eb, ha, hb, (x, y, ()), ⟨u, _, rfl, hu, v, _, rfl, hv, rfl⟩, hp, fun w H' e' hw => k w H' e' (by rw [← show f (x, y, ()) = z from e]; exact hw)⟩
theorem nw_binO {R : Rs K γ} {pre : α × β × Unit → Prop} {f : α × β × Unit → γ} {E : XK} (h : Ev r ta G x) (h' : Ev r' tb G y) (M : Mono r) (I : InsR K C r names) (I' : InsR K C r' names) (hp : PreOk pre (x, y, ())) (e : AppEq f (x, y, ()) z) :
    Nw R (tOp (rOwnOp C (spN (aC r (aC r' aN)) pre R f) E) ta tb) G z := nw_op h h' fun H u v hu hv Q k => by
  obtain ⟨a, dx, fs, ea, ha, _⟩ := I.ins hu
  obtain ⟨b, dy, gs, eb, hb, _⟩ := I'.ins hv
  exact ⟨a, dx, fs, b, dy, gs, ea, eb, ha, hb, (x, y, ()), ⟨u, _, rfl, hu, v, _, rfl, hv, rfl⟩, hp, fun w H' as e' hn hw => k w H' as e' hn (by rw [← show f (x, y, ()) = z from e]; exact hw)⟩
theorem a_mth {A : Ra β} {b : β} {pre : α × β → Prop} {f : α × β → γ} {E : XK} (h : Ev r ta G x) (M : Mono r) (I : InsR K C r names) (hn : m ∉ names) (hA : EvA A t G b) (hp : PreOk pre (x, b)) (e : AppEq f (x, b) z) :
    Ev q (tMeth C m (spF (aC r A) pre q f) [] E ta t) G z := fun H0 σ H E1 Q k => h H0 σ H E1 _ fun v H1 e1 hv => by
  obtain ⟨a, dx, fs, ea, ha, hm⟩ := I.ins hv
  refine ⟨a, dx, fs, ea, ha, lookup_no hm hn, hA H0 σ H1 (E1.grow e1) _ fun vs H2 e2 hvs => ?_⟩
  exact ⟨(x, b), ⟨v, vs, by rw [List.append_nil], M.up e2 hv, hvs⟩, hp, fun w H' e' hw => k w H' ((e1.trans e2).trans e') (by rw [← show f (x, b) = z from e]; exact hw)⟩
theorem nw_mth {R : Rs K γ} {A : Ra β} {b : β} {pre : α × β → Prop} {f : α × β → γ} {E : XK} (h : Ev r ta G x) (M : Mono r) (I : InsR K C r names) (hn : m ∉ names) (hA : EvA A t G b) (hp : PreOk pre (x, b)) (e : AppEq f (x, b) z) :
    Nw R (tMeth C m (spN (aC r A) pre R f) [] E ta t) G z := fun H0 σ H E1 Q k => h H0 σ H E1 _ fun v H1 e1 hv => by
  obtain ⟨a, dx, fs, ea, ha, hm⟩ := I.ins hv
  refine ⟨a, dx, fs, ea, ha, lookup_no hm hn, hA H0 σ H1 (E1.grow e1) _ fun vs H2 e2 hvs => ?_⟩
  exact ⟨(x, b), ⟨v, vs, by rw [List.append_nil], M.up e2 hv, hvs⟩, hp, fun w H' as e' hf hw => k w H' as ((e1.trans e2).trans e') (fun p hp => free_back (e1.trans e2) (hf p hp)) (by rw [← show f (x, b) = z from e]; exact hw)⟩
end
/-! ### the lists of grammars -/
abbrev Rule := Str × List Str
abbrev rRu (K : PySem.W.Frag) : Rp Rule := rP K rS (rT K rS)
def datRu (K : PySem.W.Frag) : Dat K (rRu K) := datP datS (datT datS)
/-- an instance with one field, a list of such things -/
def rOne (K : PySem.W.Frag) (C : Addr) (f : Str) {β : Type} (r : Rp β) : Rp (List β) := fun H v xs => (∃ a dx l vs, v = .ref a ∧ H a = some (.ins C dx [(f, .ref l)]) ∧ H l = some (.lst vs) ∧ A2 (r H) vs xs) ∧ xs.length ≤ 100000
def nOne (K : PySem.W.Frag) (C : Addr) (f : Str) {β : Type} (r : Rp β) : Rs K (List β) where
  rep := fun H v xs as => (∃ a dx l vs, as = [a, l] ∧ v = .ref a ∧ a ≠ l ∧ H a = some (.ins C dx [(f, .ref l)]) ∧ H l = some (.lst vs) ∧ A2 (Stb K r H) vs xs) ∧ xs.length ≤ 100000
  stay := fun ⟨⟨a, dx, l, vs, e, ev, ne, h1, h2, z⟩, hz⟩ x k => ⟨⟨a, dx, l, vs, e, ev, ne, k a (by rw [e]; simp) _ h1, k l (by rw [e]; simp) _ h2, z.imp fun _ _ w => w.up x⟩, hz⟩
  there := fun ⟨⟨a, dx, l, vs, e, ev, ne, h1, h2, z⟩, hz⟩ p hp => by
    rw [e] at hp
    rcases List.mem_cons.mp hp with q | q
    · exact ⟨.ins C dx [(f, .ref l)], by rw [q]; exact h1, fun z => z⟩
    · cases List.mem_singleton.mp q
      exact ⟨_, h2, fun z => z⟩
section
variable {K : PySem.W.Frag} {H0 H1 H H' : Hp} {σ : L2.St} {G G' : Cells K} {α β : Type} {ta te : TE} {r : Rp β} {C : Addr} {f : Str} {xs : List β}
instance [M : Mono r] : Mono (rOne K C f r) := ⟨fun e ⟨⟨a, dx, l, vs, ev, h1, h2, z⟩, hz⟩ => ⟨⟨a, dx, l, vs, ev, e _ _ h1, e _ _ h2, z.imp fun _ _ w => M.up e w⟩, hz⟩⟩
theorem one_ins : InsR K C (rOne K C f r) [f] := ⟨fun ⟨⟨a, dx, l, vs, ev, h1, _⟩, _⟩ => ⟨a, dx, _, ev, h1, rfl⟩⟩
theorem a_one {i : Nat} (h : G[i]? = some (some (.ow (nOne K C f r) xs))) : Ev (rOne K C f r) (tVar i) G xs := fun H0 σ H E Q k => by
  obtain ⟨own, _, _, h3⟩ := E.at_
  obtain ⟨v, hv, ⟨a, dx, l, vs, _, ev, _, h1, h2, z⟩, hz⟩ := h3 i _ h
  exact ⟨v, hv, k v H (Same.refl H) ⟨⟨a, dx, l, vs, ev, h1, h2, nows z⟩, hz⟩⟩
theorem a_oneF (h : Ev (rOne K C f r) ta G xs) (c : Cls K C) (n : NoAttr K C f) : Ev (rL r) (tFld K ta f) G xs := fun H0 σ H E Q k => h H0 σ H E _ fun v H1 e1 ⟨⟨a, dx, l, vs, ev, h1, h2, z⟩, hz⟩ =>
  ⟨a, C, dx, _, .ref l, ev, h1, c, n, by rw [List.lookup_cons, show (f == f) = true from beq_self_eq_true f], k _ H1 e1 ⟨l, vs, rfl, h2, z⟩⟩
theorem nw_oneL [M : Mono r] [F : Frz K r] (h : Ev (rOne K C f r) te G xs) : Nw (nl K r) (tCB (rListY K C f) (tCons te tNil)) G xs := nw_cb (ea_cons h ea_nil) fun H vs ⟨v, ws, e, ⟨⟨a, dx, l, us, ev, h1, h2, z⟩, hz⟩, e2⟩ Q k =>
  ⟨a, dx, _, l, us, by rw [e, show ws = [] from e2, ev], h1, by rw [List.lookup_cons, show (f == f) = true from beq_self_eq_true f], SqL.of h2, by rw [z.len]; exact sz hz, (fun q hq z => by
      rw [← z, h2] at hq
      cases hq), fun q hq => k _ _ [q] (same_new hq) (fun b hb => by rw [List.mem_singleton.mp hb]; exact hq) ⟨q, us, rfl, rfl, upd_same, z.imp fun _ _ w => stb (M.up (same_new hq) w)⟩⟩
/-- what making an instance promises -/
def spOne (K : PySem.W.Frag) (C : Addr) (f : Str) (r : Rp β) {α : Type} (A : Ra α) (pre : α → Prop) (g : α → List β) : Sp := fun vs H Q _ => ∃ p dx ws a, vs = .ref p :: ws ∧ H p = some (.ins C dx []) ∧ A H ws a ∧ pre a ∧
  ∀ l us H', (∀ b o, b ≠ p → H b = some o → H' b = some o) → H l = none → H' p = some (.ins C dx [(f, .ref l)]) → H' l = some (.lst us) → A2 (Stb K r H') us (g a) → (g a).length ≤ 100000 → Q .non H'
theorem nw_mkO {A : Ra α} {a : α} {pre : α → Prop} {g : α → List β} {E : XK} {t : TA} (hA : EvA A t G a) (M : MonoA A) (hp : PreOk pre a) (e : AppEq g a xs) : Nw (nOne K C f r) (tMake C (spOne K C f r A pre g) [] E t) G xs := fun H0 σ H E1 Q k =>
  hA H0 σ H E1 _ fun ws H1 e1 hws x dx hx hdx hne => by
    have s1 : Same H1 (upd (upd H1 dx (.own x)) x (.ins C dx [])) := fun b o hb => by rw [upd_ne (ne_of_none hb hx), upd_ne (ne_of_none hb hdx)]; exact hb
    refine ⟨x, dx, ws, a, by rw [List.append_nil], upd_same, M.up s1 hws, hp, fun l us H' keep hl h1 h2 z hz => ⟨rfl, ?_⟩⟩
    have hlx : x ≠ l := fun q => by rw [← q, upd_same] at hl; cases hl
    have hl1 : H1 l = none := s1.free hl
    refine k _ H' [x, l] (e1.trans fun b o hb => keep b o (ne_of_none hb hx) (s1 _ _ hb)) (fun b hb => ?_) ⟨⟨x, dx, l, us, rfl, rfl, hlx, h1, h2, by rw [← show g a = xs from e]; exact z⟩, by rw [← show g a = xs from e]; exact hz⟩
    rcases List.mem_cons.mp hb with q | q
    · rw [q]; exact free_back e1 hx
    · cases List.mem_singleton.mp q
      exact free_back e1 hl1
/-- self.f = .. in __init__: the heap without the new instance is the base -/
def offH (H : Hp) (p : Addr) : Hp := fun b => if b = p then none else H b
end
end Gt
/-! Gt13: methods of own classes, defaults. -/
namespace Gt
open PySem PySem.Spec PyProof.Rows L2
/-- the defaults of a def: none, or a tuple of m -/
def DfV (K : PySem.W.Frag) (dV : Value) (m : Nat) : Prop := (m = 0 ∧ dV = .none) ∨ ∃ (T : Addr) (o : Obj) (its : List Value) (n : Nat), dV = .ref T ∧ K.lookup T = some o ∧ o.data = .seq its.toArray n ∧ its.length = m ∧ 0 < m
structure FunE (K : PySem.W.Frag) (x q : Str) (st : Stmt) (m : Nat) (f : Addr) (fd : FuncData) : Prop where
  ex : ∃ (oc : Value) (od : Option Addr) (dV kV doc pm : Value) (an : Option Addr) (cdv ct : Value) (osl : Array (Option Value)),
    fd = PySem.W.fnOf x q (defArgs st) (defBody st) (defScope st) dV kV doc pm an cdv ct ∧ K.lookup f = some ⟨oc, od, .func fd, osl⟩ ∧ PySem.W.codeIn K cdv q = true ∧ DfV K dV m
  kp : PySem.W.keepIn K (.ref f) = true
/-- how all arguments bind -/
def BindE (x q : Str) (st : Stmt) (ps : List Str) (m : Nat) : Prop :=
  (m = 0 → ∀ (kV doc pm : Value) (an : Option Addr) (cdv ct : Value) (us : List Value), us.length = ps.length → bindArgs (PySem.W.fnOf x q (defArgs st) (defBody st) (defScope st) .none kV doc pm an cdv ct) ⟨us, []⟩ = pure (ps.zip us)) ∧
  (0 < m → ∀ (T : Addr) (kV doc pm : Value) (an : Option Addr) (cdv ct : Value) (us its : List Value), us.length = ps.length → its.length = m →
    ∃ k, bindArgs (PySem.W.fnOf x q (defArgs st) (defBody st) (defScope st) (.ref T) kV doc pm an cdv ct) ⟨us, []⟩ = seqItems? (.ref T) >>= k ∧ k (some its.toArray) = pure (ps.zip us))
section
variable {P : Program} {w : World} {K : PySem.W.Frag} {mg : Str → Option Value} {base : Heap} {CX : CXT} {x q : Str} {st : Stmt} {m k : Nat} {f C : Addr} {fd : FuncData} {ps N : List Str} {sp : Sp}
theorem FunE.ok (F : FunE K x q st m f fd) (S : FnScope N ps (defScope st)) (len : ∀ vs H Q E, sp vs H Q E → vs.length = ps.length)
    (hbody : ∀ (cdv : Value) (A : Around) (outer : List PySem.Env) (s : Shared) (H : Hp) (vs : List V) (Q : VK) (E : XK), Room k (A.deeper (envOfC q (defScope st) s.heap.objs.size f cdv)) → sp vs H Q E →
      ∃ t, PSs (cxOf CX P w K mg base N q (defScope st) f cdv A outer s H E) (defBody st) t ∧ t { nx := fun _ H' => Q .non H', rt := Q } (start N vs) H) : FnOk P w K mg base CX (k + 1) f fd ps sp := by
  obtain ⟨oc, od, dV, kV, doc, pm, an, cdv, ct, osl, rfl, lk, hcd, _⟩ := F.ex
  exact fn_of lk hcd S len fun A outer s H vs Q E hr h => hbody cdv A outer s H vs Q E hr h
theorem FunE.binds (F : FunE K x q st m f fd) (b : BindE x q st ps m) : L2.Binds K fd ps [] := by
  obtain ⟨oc, od, dV, kV, doc, pm, an, cdv, ct, osl, rfl, lk, hcd, hD⟩ := F.ex
  rcases hD with ⟨e, rfl⟩ | ⟨T, o, its, n, rfl, lT, oT, rT⟩
  · exact .all (b.1 e kV doc pm an cdv ct)
  · intro s us X hlen
    rw [List.append_nil] at hlen ⊢
    obtain ⟨k, e1, e2⟩ := b.2 rT.2 T kV doc pm an cdv ct us its hlen rT.1
    refine BindsTo.of_looks fun M => ?_
    rw [e1]
    exact looks_items X lT oT (.of_pure e2)
/-- a method of the class at C: the def of the text -/
structure DfE (K : PySem.W.Frag) (C : Addr) (x q : Str) (st : Stmt) (m : Nat) : Prop where
  ex : ∃ (f : Addr) (fd : FuncData), FunE K x q st m f fd ∧ PySem.W.findIn K (.ref C) x = some (some (.ref f)) ∧ PySem.W.isFn K (.ref f) = true
theorem calM_of (F : DfE K C x q st m) (S : FnScope N ps (defScope st)) (len : ∀ vs H Q E, sp vs H Q E → vs.length = ps.length) (b : BindE x q st ps m)
    (hbody : ∀ (cdv : Value) (f : Addr) (A : Around) (outer : List PySem.Env) (s : Shared) (H : Hp) (vs : List V) (Q : VK) (E : XK), Room k (A.deeper (envOfC q (defScope st) s.heap.objs.size f cdv)) → sp vs H Q E →
      ∃ t, PSs (cxOf CX0 P w K mg base N q (defScope st) f cdv A outer s H E).nox (defBody st) t ∧ t { nx := fun _ H' => Q .non H', rt := Q } (start N vs) H) : CalM P w K mg base CX0 C x (k + 1) ps sp := by
  obtain ⟨f, fd, F, h1, h2⟩ := F.ex
  exact ⟨f, fd, F.ok S len fun cdv A outer s H vs Q E hr h => (hbody cdv f A outer s H vs Q E hr h).imp fun t h => ⟨h.1.nox, h.2⟩, ⟨h1, h2, F.kp⟩, F.binds b⟩
theorem calI_of {c : Str} (T : ClsF K mg c) (F : DfE K (cA K c) "__init__" q st m) (S : FnScope N ps (defScope st)) (len : ∀ vs H Q E, sp vs H Q E → vs.length = ps.length) (b : BindE "__init__" q st ps m)
    (hbody : ∀ (cdv : Value) (f : Addr) (A : Around) (outer : List PySem.Env) (s : Shared) (H : Hp) (vs : List V) (Q : VK) (E : XK), Room k (A.deeper (envOfC q (defScope st) s.heap.objs.size f cdv)) → sp vs H Q E →
      ∃ t, PSs (cxOf CX0 P w K mg base N q (defScope st) f cdv A outer s H E).nox (defBody st) t ∧ t { nx := fun _ H' => Q .non H', rt := Q } (start N vs) H) : CalI P w K mg base CX0 (cA K c) (k + 1) ps sp := by
  obtain ⟨f, fd, F, h1, h2⟩ := F.ex
  exact ⟨f, fd, F.ok S len fun cdv A outer s H vs Q E hr h => (hbody cdv f A outer s H vs Q E hr h).imp fun t h => ⟨h.1.nox, h.2⟩, ⟨T.makes, h1, h2, T.kp⟩, F.binds b⟩
/-- def __iter__(self): return iter(self.g) -/
theorem itOk_of {g : Str} (F : DfE K C "__iter__" q st 0) (S : FnScope ["self"] ["self"] (defScope st)) (b : BindE "__iter__" q st ["self"] 0)
    (ht : ∀ (f : Addr) (cdv : Value) (A : Around) (outer : List PySem.Env) (s : Shared) (H : Hp) (E : XK), ∃ t, PSs (cxOf CX0 P w K mg base ["self"] q (defScope st) f cdv A outer s H E).nox (defBody st) t ∧
      ∀ (a dx l : Addr) (fs : List (Str × V)) (zs : List V) (Q : VK), H a = some (.ins C dx fs) → fs.lookup g = some (.ref l) → SqL K H l zs → (∀ it, H it = none → s.heap.objs.size ≤ it → Q (.ref it) (upd H it (ItO l it 0))) →
        t { nx := fun _ H' => Q .non H', rt := Q } (start ["self"] [.ref a]) H) : ItOk P w K mg base C g := by
  obtain ⟨f, fd, F, h1, h2⟩ := F.ex
  refine ⟨f, h1, h2, fun A outer s H a dx l fs zs Q E hr e0 ha hl hz hq => ?_⟩
  have hB := F.binds b
  obtain ⟨oc, od, dV, kV, doc, pm, an, cdv, ct, osl, rfl, lk, hcd, hD⟩ := F.ex
  obtain ⟨t, h, ht⟩ := ht f cdv A outer s H E
  have KX : K.In s.heap := e0.mod.kin.keeps fun b o e => (e0.bs b o e).1
  exact run_from (CX := CX0) (us := [.ref a]) (vs := [.ref a]) lk hcd S rfl hr e0 (by
    have := hB s [.ref a] KX rfl
    simpa using this) (.cons rfl .nil) h.nox (ht a dx l fs zs Q ha hl hz hq)
end
abbrev rG (K : PySem.W.Frag) : Rp (List Rule) := rOne K (cA K "Grammar") "rows" (rRu K)
abbrev nG (K : PySem.W.Frag) : Rs K (List Rule) := nOne K (cA K "Grammar") "rows" (rRu K)
theorem spOne_len {K : PySem.W.Frag} {C : Addr} {f : Str} {α β : Type} {r : Rp β} {A : Ra α} {pre : α → Prop} {g : α → List β} {n : Nat} [L : LenA A n] {vs : List V} {H : Hp} {Q : VK} {E : XK} (h : spOne K C f r A pre g vs H Q E) : vs.length = n + 1 := by
  obtain ⟨p, dx, ws, a, rfl, _, hA, _⟩ := h
  rw [List.length_cons, L.len hA]
/-- for x in o.f, o as it came -/
theorem wk_oneF {K : PySem.W.Frag} {G : Cells K} {β : Type} {r : Rp β} {C : Addr} {f : Str} {xs : List β} {M : Mono (rOne K C f r)} [N : Mono r] {i : Nat} (c : Cls K C) (n : NoAttr K C f) (h : G[i]? = some (some (.ro (rOne K C f r) M xs)) := by rfl) : Wk (iList K (tFld K (tVar i) f)) r G G xs := fun H1 σ H E R k => by
  obtain ⟨own, _, _, h3⟩ := E.at_
  obtain ⟨v, hv, _, ⟨a, dx, l, vs, e2, e3, e4, e5⟩, _⟩ := h3 i _ h
  refine ⟨v, hv, a, C, dx, _, .ref l, e2, E.old _ _ e3, c, n, by rw [List.lookup_cons, show (f == f) = true from beq_self_eq_true f], ?_⟩
  exact ⟨l, rfl, ⟨vs, SqL.of (E.old _ _ e4)⟩, k _ H1 H (Same.refl _) (Same.refl _) E (wj_list e4 e5)⟩
end Gt
/-! Gt14: more of texts. -/
namespace Gt
open PySem PySem.Spec PyProof.Rows L2
def repC (c : Array Nat) (n : Nat) : Array Nat := (List.replicate n c).foldl (· ++ ·) #[]
theorem foldC_size (c : Array Nat) : ∀ (n : Nat) (a : Array Nat), ((List.replicate n c).foldl (· ++ ·) a).size = a.size + n * c.size
  | 0, a => by simp
  | n + 1, a => by
    rw [List.replicate_succ, List.foldl_cons, foldC_size c n, Array.size_append, Nat.succ_mul]
    omega
theorem foldC_all (p : Nat → Bool) (c : Array Nat) (hc : c.all p = true) : ∀ (n : Nat) (a : Array Nat), a.all p = true → ((List.replicate n c).foldl (· ++ ·) a).all p = true
  | 0, a, h => by simpa using h
  | n + 1, a, h => by
    rw [List.replicate_succ, List.foldl_cons]
    exact foldC_all p c hc n _ (by rw [Array.all_append, h, hc]; rfl)
/-- s * n -/
def repS (x : Str) (n : Int) : Str := if n < 1 then Str.empty else if (n == 1 || x.length == 0) = true then x else ⟨repC x.cps n.toNat⟩
theorem repS_len (x : Str) (n : Int) : (repS x n).length ≤ x.length * n.toNat := by
  unfold repS
  split
  · exact Nat.zero_le _
  · rename_i h1
    split
    · rename_i h2
      rcases Bool.or_eq_true_iff.mp h2 with e | e
      · have : n = 1 := by simpa using e
        subst this
        show x.length ≤ x.length * 1
        omega
      · have : x.length = 0 := by simpa using e
        omega
    · show (repC x.cps n.toNat).size ≤ _
      unfold repC
      rw [foldC_size, Nat.mul_comm]
      show (#[] : Array Nat).size + x.cps.size * n.toNat ≤ x.cps.size * n.toNat
      simp
theorem okS_rep {x : Str} {n : Int} (h : okS x) (hz : x.length * n.toNat ≤ 100000) : okS (repS x n) := by
  refine ⟨Nat.le_trans (repS_len x n) hz, ?_⟩
  unfold repS
  have e0 : (#[] : Array Nat).all (fun c => decide (c < 0x110000)) = true := by simp
  split
  · exact e0
  · split
    · exact h.2
    · exact foldC_all _ _ h.2 _ _ e0
abbrev rMulS : R2 := fun x y H Q => ∃ a n, x = .str a ∧ y = .int n ∧ 0 ≤ n ∧ n ≤ 1000 ∧ a.length ≤ 1000 ∧ Q (.str (repS a n)) H
theorem op_mulS {X : Cx} : OpR X (binaryOp .Mult) rMulS := by
  intro pins s σ H x y v u Q I rx ry h
  obtain ⟨a, n, rfl, rfl, h0, h1, ha, q⟩ := h
  obtain ⟨t, rfl⟩ := rx
  obtain ⟨t', rfl⟩ := ry
  have hb : a.length * n.toNat ≤ 1000 * 1000 := Nat.mul_le_mul ha (by omega)
  refine P.mul_str (by rw [decide_eq_false (by omega), decide_eq_false (by omega)]; rfl) (fun hn _ hq => ?_) (fun hn _ => ?_) ?_
  · have : (1000 : Int) ≤ (2 ^ 63 - 1) / n := by
      refine (Int.le_ediv_iff_mul_le (by omega)).mpr ?_
      omega
    omega
  · show decide _ = false
    exact decide_eq_false (by rw [sizeLine_eq]; omega)
  · have hlen := repS_len a n
    unfold repS at q hlen
    by_cases c1 : n < 1
    · rw [if_pos c1] at q ⊢
      exact ⟨by decide, .str Str.empty, H, I.tok _, ⟨_, rfl⟩, q⟩
    · rw [if_neg c1] at q hlen ⊢
      by_cases c2 : (n == 1 || a.length == 0) = true
      · rw [if_pos c2] at q ⊢
        exact ⟨.str a, H, I, ⟨_, rfl⟩, q⟩
      · rw [if_neg c2] at q hlen ⊢
        exact ⟨Nat.le_trans hlen (Nat.le_trans hb (by rw [sizeLine_eq]; decide)), .str _, H, I.tok _, ⟨_, rfl⟩, q⟩
section
variable {K : PySem.W.Frag} {G : Cells K} {ta tb te : TE} {s t : Str} {n : Int}
theorem ev_mulS (h : Ev rS ta G s) (h' : Ev rI tb G n) (hn : 0 ≤ n ∧ n ≤ 1000) (hz : s.length ≤ 50) : Ev rS (tOp rMulS ta tb) G (repS s n) := ev_op h h' fun H u v hu hv Q k =>
  ⟨s, n, hu.1, hv, hn.1, hn.2, by omega, k _ H (Same.refl H) ⟨rfl, okS_rep hu.2 (Nat.le_trans (Nat.mul_le_mul hz (show n.toNat ≤ 1000 by omega)) (by decide))⟩⟩
end
end Gt
/-! Gt15: mirrors that may be stuck or raise; defs whose walk asks nothing but that the mirror answers. -/
namespace Gt
open PySem PySem.Spec PyProof.Rows L2
/-- what an exception keeps -/
inductive Pay
  | s (o : Option Str)
  | i (n : Int)
  | r (x : Rule)
inductive Er
  | stuck
  | ex (cls : Str) (fs : List (Str × Pay))
abbrev M (α : Type) := Except Er α
def mb {α β : Type} (m : M α) (f : α → M β) : M β := match m with
  | .ok a => f a
  | .error e => .error e
theorem mb_ok {α β : Type} {m : M α} {f : α → M β} {b : β} (h : mb m f = .ok b) : ∃ a, m = .ok a ∧ f a = .ok b := by
  cases m with
  | ok a => exact ⟨a, rfl, h⟩
  | error e => cases h
theorem mb_of {α β : Type} {m : M α} {f : α → M β} {a : α} (h : m = .ok a) : mb m f = f a := by rw [h]; rfl
theorem mb_ret {α β : Type} {f : α → M β} {a : α} : mb (.ok a) f = f a := rfl
theorem ok_inj {α : Type} {a b : α} (h : (Except.ok a : M α) = .ok b) : a = b := by cases h; rfl
def oM {α : Type} : Option α → M α
  | some a => .ok a
  | none => .error .stuck
theorem oM_ok {α : Type} {o : Option α} {a : α} (h : oM o = .ok a) : o = some a := by
  cases o with
  | none => cases h
  | some b => cases h; rfl
theorem oM_of {α : Type} {o : Option α} {a : α} (h : o = some a) : oM o = .ok a := by rw [h]; rfl
def chk (c : Bool) : M Unit := bif c then .ok () else .error .stuck
theorem chk_ok {c : Bool} {u : Unit} (h : chk c = .ok u) : c = true := by
  cases c with
  | false => cases h
  | true => rfl
theorem chk_of {c : Bool} (h : c = true) : chk c = .ok () := by rw [h]; rfl
theorem bif_t {α : Type} {c : Bool} {a b x : α} (h : (bif c then a else b) = x) (hc : c = true) : a = x := by rw [hc] at h; exact h
theorem bif_f {α : Type} {c : Bool} {a b x : α} (h : (bif c then a else b) = x) (hc : c = false) : b = x := by rw [hc] at h; exact h
/-- and, or whose right side may be stuck -/
def mand (a : Bool) (m : M Bool) : M Bool := bif a then m else .ok false
def mor (a : Bool) (m : M Bool) : M Bool := bif a then .ok true else m
/-- what a block ends in -/
inductive Fl (σ ρ : Type)
  | nx (s : σ)
  | rt (r : ρ)
  | bk (s : σ)
def mfor {σ α : Type} (f : σ → α → M σ) : σ → List α → M σ
  | s, [] => .ok s
  | s, x :: xs => mb (f s x) fun s' => mfor f s' xs
def mforF {σ ρ α : Type} (f : σ → α → M (Fl σ ρ)) : σ → List α → M (Fl σ ρ)
  | s, [] => .ok (.nx s)
  | s, x :: xs => mb (f s x) fun o => match o with
    | .nx s' => mforF f s' xs
    | .rt r => .ok (.rt r)
    | .bk s' => .ok (.nx s')
theorem mfor_app {σ α : Type} {f : σ → α → M σ} : ∀ {xs ys : List α} {s r : σ}, mfor f s (xs ++ ys) = .ok r → ∃ t, mfor f s xs = .ok t ∧ mfor f t ys = .ok r
  | [], ys, s, r, h => ⟨s, rfl, h⟩
  | x :: xs, ys, s, r, h => by
    obtain ⟨t, h1, h2⟩ := mb_ok h
    obtain ⟨u, h3, h4⟩ := mfor_app h2
    exact ⟨u, by unfold mfor; rw [mb_of h1]; exact h3, h4⟩
/-- a state from which the rest of the loop ends so -/
theorem mforF_step {σ ρ α : Type} {f : σ → α → M (Fl σ ρ)} {s : σ} {x : α} {xs : List α} {o : Fl σ ρ} (h : mforF f s (x :: xs) = .ok o) : ∃ o1, f s x = .ok o1 ∧ (∀ s', o1 = .nx s' → mforF f s' xs = .ok o) ∧ (∀ r, o1 = .rt r → o = .rt r) ∧ (∀ s', o1 = .bk s' → o = .nx s') := by
  obtain ⟨o1, h1, h2⟩ := mb_ok h
  refine ⟨o1, h1, ?_, ?_, ?_⟩
  · rintro s' rfl; exact h2
  · rintro r rfl; cases h2; rfl
  · rintro s' rfl; cases h2; rfl
def fuel : Nat := 1000000
def mwhile {σ : Type} (c : σ → M Bool) (f : σ → M σ) : Nat → σ → M σ
  | 0, _ => .error .stuck
  | n + 1, s => mb (c s) fun b => bif b then mb (f s) fun s' => mwhile c f n s' else .ok s
def mwhileF {σ ρ : Type} (c : σ → M Bool) (f : σ → M (Fl σ ρ)) : Nat → σ → M (Fl σ ρ)
  | 0, _ => .error .stuck
  | n + 1, s => mb (c s) fun b => bif b then mb (f s) fun o => match o with
      | .nx s' => mwhileF c f n s'
      | .rt r => .ok (.rt r)
      | .bk s' => .ok (.nx s') else .ok (.nx s)
/-- [f x for x in xs if p x] -/
def mlc {α β : Type} (p : α → M Bool) (f : α → M β) : List α → M (List β)
  | [] => .ok []
  | x :: xs => mb (p x) fun b => bif b then mb (f x) fun y => mb (mlc p f xs) fun ys => .ok (y :: ys) else mlc p f xs
theorem mlc_app {α β : Type} {p : α → M Bool} {f : α → M β} : ∀ {xs ys : List α} {zs : List β}, mlc p f (xs ++ ys) = .ok zs → ∃ us vs, mlc p f xs = .ok us ∧ mlc p f ys = .ok vs ∧ zs = us ++ vs
  | [], ys, zs, h => ⟨[], zs, rfl, h, rfl⟩
  | x :: xs, ys, zs, h => by
    obtain ⟨b, h1, h⟩ := mb_ok h
    cases b with
    | false =>
      obtain ⟨us, vs, e1, e2, e3⟩ := mlc_app (xs := xs) h
      exact ⟨us, vs, by unfold mlc; rw [mb_of h1]; exact e1, e2, e3⟩
    | true =>
      obtain ⟨y, h2, h⟩ := mb_ok h
      obtain ⟨ws, h3, h⟩ := mb_ok h
      obtain ⟨us, vs, e1, e2, e3⟩ := mlc_app (xs := xs) h3
      cases h
      refine ⟨y :: us, vs, ?_, e2, by rw [e3]; rfl⟩
      unfold mlc
      rw [mb_of h1]
      show mb (f x) _ = _
      rw [mb_of h2, mb_of e1]
section
variable {K : PySem.W.Frag} {H0 H1 H H' : Hp} {σ : L2.St} {G G' G2 Gx : Cells K} {α β γ S T ρ : Type}
variable {D : Ends} {t u tb : TS} {wi : TI} {g : TG} {te ta tb' : TE} {tt tu tv : TT} {r : Rp α} {q : Rp β} {R : Rs K ρ} {a b c d : Bool}
/-- what is handed back -/
def RtR (R : Rs K ρ) (H0 : Hp) (x : ρ) (v : V) (H : Hp) : Prop := ∃ as, Same H0 H ∧ (∀ p, p ∈ as → H0 p = none) ∧ R.rep H v x as
def RtOk (R : Rs K ρ) (H0 : Hp) (x : ρ) (D : Ends) : Prop := ∀ v H, RtR R H0 x v H → D.rt v H
theorem RtOk.up {x : ρ} (h : RtOk R H0 x D) (e : Same H0 H1) : RtOk R H1 x D := fun v H ⟨as, s, n, z⟩ => h v H ⟨as, e.trans s, fun p hp => e.free (n p hp), z⟩
theorem Have.up (e : Same H0 H1) (h : Have H1 G σ H) : Have H0 G σ H := let ⟨H2, s, E⟩ := h; ⟨H2, e.trans s, E⟩
theorem Nx.up {P : L2.St → Hp → Prop} (h : Nx H0 G P) (e : Same H0 H1) : Nx H1 G P := fun σ H z => h σ H (Have.up e z)
theorem Sv.up (h : Sv H0 G t D) (e : Same H0 H1) : Sv H1 G t D := fun σ H z => h σ H (Have.up e z)
def OutOk (H0 : Hp) (st : S → Cells K) (bk : S → Cells K) (R : Rs K ρ) (D : Ends) : Fl S ρ → Prop
  | .nx s => Nx H0 (st s) D.nx
  | .rt x => RtOk R H0 x D
  | .bk s => Nx H0 (bk s) D.bk
theorem OutOk.up {st bk : S → Cells K} {o : Fl S ρ} (h : OutOk H0 st bk R D o) (e : Same H0 H1) : OutOk H1 st bk R D o := match o, h with
  | .nx _, h => Nx.up h e
  | .rt _, h => RtOk.up h e
  | .bk _, h => Nx.up h e
/-! ### ends of blocks -/
theorem r_ret {x : α} (hD : RtOk (fz K r) H0 x D) (h : Ev r te G x) (F : Frz K r := by infer_instance) : Sv H0 G (tRet te) D := l_ret (b' := x) (fun v H' s z => hD v H' ⟨[], s, (fun p hp => nomatch hp), ⟨rfl, stb z⟩⟩) h rfl
theorem r_retN {x : ρ} (hD : RtOk R H0 x D) (h : Nw R te G x) : Sv H0 G (tRet te) D := l_retN (b' := x) (fun v H' as s n z => hD v H' ⟨as, s, n, z⟩) h rfl
theorem r_retO {i : Nat} {x : ρ} (hD : RtOk R H0 x D) (hi : G[i]? = some (some (.ow R x))) : Sv H0 G (tRet (tVar i)) D := l_retO (xs' := x) (fun v H' as s n z => hD v H' ⟨as, s, n, z⟩) hi rfl
/-- the ways of a statement that may return meet ahead of u -/
theorem q_flow {st bk : S → Cells K} (o : Fl S ρ) (hn : ∀ s, o = .nx s → Sv H0 (st s) u D) (hr : ∀ x, o = .rt x → RtOk R H0 x D) (hb : ∀ s, o = .bk s → Nx H0 (bk s) D.bk)
    (k : OutOk H0 st bk R { D with nx := u D } o → Sv H0 G (tSeq t u) D) : Sv H0 G (tSeq t u) D := k (match o, hn, hr, hb with
  | .nx s, hn, _, _ => hn s rfl
  | .rt x, _, hr, _ => hr x rfl
  | .bk s, _, _, hb => hb s rfl)
/-! ### loops -/
theorem l_forM {f : S → α → M S} {xs : List α} {s0 s1 : S} (st : S → Cells K) (hm : mfor f s0 xs = .ok s1) (hw : Wk wi r G G' xs) (h0 : Sub G' (st s0))
    (body : ∀ H0', Same H0 H0' → ∀ x s s', f s x = .ok s' → ∃ Gx, Tg g r x (st s) Gx ∧ Sv H0' Gx tb { D with nx := Have H0' (st s'), ct := Have H0' (st s'), bk := D.nx })
    (after : Nx H0 (st s1) D.nx) : Sv H0 G (tFor wi g tb) D :=
  l_forI st (fun pre s => mfor f s0 pre = .ok s) s0 hw h0 rfl (fun H0' e pre x post s hx hI => by
    rw [hx] at hm
    obtain ⟨t, h1, h2⟩ := mfor_app hm
    rw [hI] at h1
    cases h1
    obtain ⟨s', h3, h4⟩ := mb_ok h2
    obtain ⟨Gx, ht, hb⟩ := body H0' e x s s' h3
    refine ⟨Gx, ht, ?_⟩
    have e2 : mfor f s0 (pre ++ [x]) = .ok s' := by
      have app : ∀ (l : List α) (a b : S), mfor f a l = .ok b → mfor f a (l ++ [x]) = mb (f b x) fun c => .ok c := by
        intro l
        induction l with
        | nil => intro a b h; cases h; rfl
        | cons y l ih =>
          intro a b h
          obtain ⟨c, h5, h6⟩ := mb_ok h
          show mb (f a y) _ = _
          rw [mb_of h5]
          exact ih c b h6
      rw [app pre s0 s hI, mb_of h3]
    have key : (fun σ H => ∃ s', mfor f s0 (pre ++ [x]) = .ok s' ∧ Have H0' (st s') σ H) = Have H0' (st s') := by
      funext σ H
      refine propext ⟨fun ⟨s2, h5, h6⟩ => ?_, fun h => ⟨_, e2, h⟩⟩
      rw [e2] at h5
      cases h5
      exact h6
    rw [key]
    exact hb) fun s hs => by rw [hm] at hs; cases hs; exact after
theorem q_forM {f : S → α → M S} {xs : List α} {s0 s1 : S} (st : S → Cells K) (hm : mfor f s0 xs = .ok s1) (hw : Wk wi r G G' xs) (h0 : Sub G' (st s0))
    (body : ∀ H0', Same H0 H0' → ∀ x s s', f s x = .ok s' → ∃ Gx, Tg g r x (st s) Gx ∧ Sv H0' Gx tb { nx := Have H0' (st s'), rt := D.rt, ct := Have H0' (st s'), bk := u D })
    (after : Sv H0 (st s1) u D) : Sv H0 G (tSeq (tFor wi g tb) u) D := l_forM (D := { D with nx := u D }) st hm hw h0 body after
/-- a loop that may return or break -/
theorem l_forF {f : S → α → M (Fl S ρ)} {xs : List α} {s0 : S} {o : Fl S ρ} (st : S → Cells K) (hm : mforF f s0 xs = .ok o) (hw : Wk wi r G G' xs) (h0 : Sub G' (st s0))
    (hn : ∀ s, o = .nx s → Nx H0 (st s) D.nx) (hr : ∀ x, o = .rt x → RtOk R H0 x D)
    (body : ∀ H0' D', Same H0 H0' → ∀ x s o', f s x = .ok o' → OutOk H0' st st R D' o' → ∃ Gx, Tg g r x (st s) Gx ∧ Sv H0' Gx tb D') : Sv H0 G (tFor wi g tb) D :=
  l_forI st (fun pre s => ∀ ys, xs = pre ++ ys → mforF f s ys = .ok o) s0 hw h0 (fun ys e => by rw [e] at hm; exact hm) (fun H0' e pre x post s hx hI => by
    obtain ⟨o1, h1, h2, h3, h4⟩ := mforF_step (hI _ hx)
    exact body H0' _ e x s o1 h1 (match o1, h1, h2, h3, h4 with
      | .nx s', _, h2, _, _ => fun σ H hv => ⟨s', fun ys ey => by
          have : ys = post := by
            have e3 := hx.symm.trans ey
            rw [List.append_assoc] at e3
            have := List.append_cancel_left e3
            cases this
            rfl
          rw [this]
          exact h2 s' rfl, hv⟩
      | .rt x', _, _, h3, _ => (hr x' (h3 x' rfl)).up e
      | .bk s', _, _, _, h4 => (hn s' (h4 s' rfl)).up e)) fun s hs => hn s (by
        have := hs [] (by rw [List.append_nil])
        cases this
        rfl)
theorem q_forF {f : S → α → M (Fl S ρ)} {xs : List α} {s0 : S} {o : Fl S ρ} (st : S → Cells K) (hm : mforF f s0 xs = .ok o) (hw : Wk wi r G G' xs) (h0 : Sub G' (st s0))
    (hn : ∀ s, o = .nx s → Sv H0 (st s) u D) (hr : ∀ x, o = .rt x → RtOk R H0 x D)
    (body : ∀ H0' D', Same H0 H0' → ∀ x s o', f s x = .ok o' → OutOk H0' st st R D' o' → ∃ Gx, Tg g r x (st s) Gx ∧ Sv H0' Gx tb D') : Sv H0 G (tSeq (tFor wi g tb) u) D := l_forF (D := { D with nx := u D }) st hm hw h0 hn hr body
theorem l_whileM {tc : TT} {c : S → M Bool} {f : S → M S} {n : Nat} {s0 s1 : S} (st : S → Cells K) (hm : mwhile c f n s0 = .ok s1) (h0 : Sub G (st s0))
    (test : ∀ s b, c s = .ok b → EvT tc (st s) b)
    (body : ∀ H0', Same H0 H0' → ∀ s s', f s = .ok s' → Sv H0' (st s) tb { D with nx := Have H0' (st s'), ct := Have H0' (st s'), bk := D.nx })
    (after : Nx H0 (st s1) D.nx) : Sv H0 G (tWhile tc tb) D := fun σ H ⟨H1, e1, E⟩ => by
  refine ⟨fun k σ' Hh => ∃ s, mwhile c f k s = .ok s1 ∧ Have H0 (st s) σ' Hh, ⟨n, s0, hm, H1, e1, E.less h0⟩, ?_⟩
  rintro k σ' Hh ⟨s, hI, H2, s2, E2⟩
  cases k with
  | zero => cases hI
  | succ k =>
    obtain ⟨b, hb, hI⟩ := mb_ok hI
    refine test s b hb H2 σ' Hh E2 _ fun H' e' => ?_
    cases b with
    | true =>
      obtain ⟨s', hs, hI⟩ := mb_ok hI
      refine iteT ⟨_, fun σ2 Hh2 hv => ⟨k, Nat.lt_succ_self k, s', hI, hv⟩, body H0 (Same.refl _) s s' hs σ' H' ⟨H2, s2, E2.grow e'⟩⟩
    | false =>
      cases hI
      exact iteF (after σ' H' ⟨H2, s2, E2.grow e'⟩)
theorem q_whileM {tc : TT} {c : S → M Bool} {f : S → M S} {n : Nat} {s0 s1 : S} (st : S → Cells K) (hm : mwhile c f n s0 = .ok s1) (h0 : Sub G (st s0))
    (test : ∀ s b, c s = .ok b → EvT tc (st s) b)
    (body : ∀ H0', Same H0 H0' → ∀ s s', f s = .ok s' → Sv H0' (st s) tb { nx := Have H0' (st s'), rt := D.rt, ct := Have H0' (st s'), bk := u D })
    (after : Sv H0 (st s1) u D) : Sv H0 G (tSeq (tWhile tc tb) u) D := l_whileM (D := { D with nx := u D }) st hm h0 test body after
theorem l_whileF {tc : TT} {c : S → M Bool} {f : S → M (Fl S ρ)} {n : Nat} {s0 : S} {o : Fl S ρ} (st : S → Cells K) (hm : mwhileF c f n s0 = .ok o) (h0 : Sub G (st s0))
    (hn : ∀ s, o = .nx s → Nx H0 (st s) D.nx) (hr : ∀ x, o = .rt x → RtOk R H0 x D)
    (test : ∀ s b, c s = .ok b → EvT tc (st s) b)
    (body : ∀ H0' D', Same H0 H0' → ∀ s o', f s = .ok o' → OutOk H0' st st R D' o' → Sv H0' (st s) tb D') : Sv H0 G (tWhile tc tb) D := fun σ H ⟨H1, e1, E⟩ => by
  refine ⟨fun k σ' Hh => ∃ s, mwhileF c f k s = .ok o ∧ Have H0 (st s) σ' Hh, ⟨n, s0, hm, H1, e1, E.less h0⟩, ?_⟩
  rintro k σ' Hh ⟨s, hI, H2, s2, E2⟩
  cases k with
  | zero => cases hI
  | succ k =>
    obtain ⟨b, hb, hI⟩ := mb_ok hI
    refine test s b hb H2 σ' Hh E2 _ fun H' e' => ?_
    cases b with
    | true =>
      obtain ⟨o1, hs, hI⟩ := mb_ok hI
      refine iteT ⟨fun σ2 Hh2 => ∃ s', mwhileF c f k s' = .ok o ∧ Have H0 (st s') σ2 Hh2, fun σ2 Hh2 ⟨s', hI', hv⟩ => ⟨k, Nat.lt_succ_self k, s', hI', hv⟩, body H0 _ (Same.refl _) s o1 hs ?_ σ' H' ⟨H2, s2, E2.grow e'⟩⟩
      cases o1 with
      | nx s' => exact fun _ _ z => ⟨s', hI, z⟩
      | rt x =>
        cases hI
        exact hr x rfl
      | bk s' =>
        cases hI
        exact hn s' rfl
    | false =>
      cases hI
      exact iteF (hn s rfl σ' H' ⟨H2, s2, E2.grow e'⟩)
theorem q_whileF {tc : TT} {c : S → M Bool} {f : S → M (Fl S ρ)} {n : Nat} {s0 : S} {o : Fl S ρ} (st : S → Cells K) (hm : mwhileF c f n s0 = .ok o) (h0 : Sub G (st s0))
    (hn : ∀ s, o = .nx s → Sv H0 (st s) u D) (hr : ∀ x, o = .rt x → RtOk R H0 x D)
    (test : ∀ s b, c s = .ok b → EvT tc (st s) b)
    (body : ∀ H0' D', Same H0 H0' → ∀ s o', f s = .ok o' → OutOk H0' st st R D' o' → Sv H0' (st s) tb D') : Sv H0 G (tSeq (tWhile tc tb) u) D := l_whileF (D := { D with nx := u D }) st hm h0 hn hr test body
/-! ### tests and values whose right side may be stuck -/
theorem ev_andM {m : M Bool} (h1 : Ev rB ta G a) (h2 : ∀ b, m = .ok b → Ev rB tb' G b) (e : mand a m = .ok c) : Ev rB (tAndV ta tb') G c := by
  cases a with
  | true => exact (ev_and h1 fun _ => h2 c e).eq (Bool.true_and c)
  | false => cases e; exact (ev_and (d := false) h1 fun z => nomatch z)
theorem ev_orM {m : M Bool} (h1 : Ev rB ta G a) (h2 : ∀ b, m = .ok b → Ev rB tb' G b) (e : mor a m = .ok c) : Ev rB (tOrV ta tb') G c := by
  cases a with
  | false => exact (ev_or h1 fun _ => h2 c e).eq (Bool.false_or c)
  | true => cases e; exact (ev_or (d := false) h1 fun z => nomatch z)
theorem et_andM {m : M Bool} (h1 : EvT tt G a) (h2 : ∀ b, m = .ok b → EvT tu G b) (e : mand a m = .ok c) : EvT (tAnd tt tu) G c := by
  cases a with
  | true => exact (et_and h1 fun _ => h2 c e).eq (Bool.true_and c)
  | false => cases e; exact (et_and (d := false) h1 fun z => nomatch z)
theorem et_orM {m : M Bool} (h1 : EvT tt G a) (h2 : ∀ b, m = .ok b → EvT tu G b) (e : mor a m = .ok c) : EvT (tOr tt tu) G c := by
  cases a with
  | false => exact (et_or h1 fun _ => h2 c e).eq (Bool.false_or c)
  | true => cases e; exact (et_or (d := false) h1 fun z => nomatch z)
theorem ev_ifM {x : α} {m1 m2 : M α} (h : EvT tt G a) (h1 : ∀ y, m1 = .ok y → Ev r ta G y) (h2 : ∀ y, m2 = .ok y → Ev r tb' G y) (e : (bif a then m1 else m2) = .ok x) : Ev r (tIf tt ta tb') G x := by
  cases a with
  | true => exact (ev_if (x := x) h (fun _ => h1 x e) fun z => nomatch z)
  | false => exact (ev_if (a := x) h (fun z => nomatch z) fun _ => h2 x e)
/-! ### comprehensions -/
theorem nw_lcM {vs : List Nat} {p : β → M Bool} {f : β → M γ} {q : Rp γ} [F : Frz K q] {r : Rp β} {ys : List β} {zs : List γ} [IN : Inhabited γ] (hw : Wk wi r G G' ys) (hlen : ys.length ≤ 100000)
    (turn : ∀ x, ∃ Gx, Tb g r x vs (wipeG G' vs) Gx ∧ (∀ b, p x = .ok b → EvT tt Gx b) ∧ (∀ y, f x = .ok y → Ev q te Gx y)) (hm : mlc p f ys = .ok zs) :
    Nw (nl K q) (tLc wi g tt te vs) G zs := by
  have each : ∀ pre x post, ys = pre ++ x :: post → ∃ b, p x = .ok b ∧ (b = true → ∃ y, f x = .ok y) := fun pre x post e => by
    rw [e] at hm
    obtain ⟨us, vs', _, h2, _⟩ := mlc_app hm
    obtain ⟨b, hb, h2⟩ := mb_ok h2
    refine ⟨b, hb, fun e => ?_⟩
    subst e
    obtain ⟨y, hy, _⟩ := mb_ok h2
    exact ⟨y, hy⟩
  let P : β → Bool := fun x => match p x with | .ok b => b | .error _ => false
  let Fn : β → γ := fun x => match f x with | .ok y => y | .error _ => default
  have e : (ys.filter P).map Fn = zs := by
    have go : ∀ (l : List β) (us : List γ), mlc p f l = .ok us → (l.filter P).map Fn = us := by
      intro l
      induction l with
      | nil => intro us h; cases h; rfl
      | cons x l ih =>
        intro us h
        obtain ⟨b, hb, h⟩ := mb_ok h
        have eP : P x = b := by show (match p x with | .ok b => b | .error _ => false) = b; rw [hb]
        cases b with
        | false => rw [List.filter_cons, if_neg (by rw [eP]; exact Bool.false_ne_true)]; exact ih us h
        | true =>
          obtain ⟨y, hy, h⟩ := mb_ok h
          obtain ⟨ws, hws, h⟩ := mb_ok h
          cases h
          have eF : Fn x = y := by show (match f x with | .ok y => y | .error _ => default) = y; rw [hy]
          rw [List.filter_cons, if_pos eP, List.map_cons, ih ws hws, eF]
    exact go ys zs hm
  rw [← e]
  refine nw_lc hw hlen fun pre x post hx => ?_
  obtain ⟨Gx, h1, h2, h3⟩ := turn x
  obtain ⟨b, hb, hy⟩ := each pre x post hx
  have eP : P x = b := by show (match p x with | .ok b => b | .error _ => false) = b; rw [hb]
  refine ⟨Gx, h1, by rw [eP]; exact h2 b hb, fun hp => ?_⟩
  rw [eP] at hp
  obtain ⟨y, hy⟩ := hy hp
  have eF : Fn x = y := by show (match f x with | .ok y => y | .error _ => default) = y; rw [hy]
  rw [eF]
  exact h3 y hy
/-! ### defs with a mirror -/
def spM (A : Ra α) (q : Rp β) (m : α → M β) : Sp := fun vs H Q _ => ∃ a b, A H vs a ∧ m a = .ok b ∧ ∀ v H', Same H H' → q H' v b → Q v H'
def spMN (A : Ra α) (R : Rs K β) (m : α → M β) : Sp := fun vs H Q _ => ∃ a b, A H vs a ∧ m a = .ok b ∧ ∀ v H' as, Same H H' → (∀ p, p ∈ as → H p = none) → R.rep H' v b as → Q v H'
def MOk {α β : Type} (m : α → M β) (g : α) (b : β) : Prop := m g = .ok b
theorem a_callM {A : Ra γ} {g : γ} {m : γ → M β} {b : β} {E' : XK} {t : TA} (h : EvA A t G g) (e : MOk m g b) : Ev q (tCall (spM A q m) [] E' t) G b := fun H0 σ H E Q k =>
  h H0 σ H E _ fun vs H1 e1 z1 => by
    rw [List.append_nil]
    exact ⟨g, b, z1, e, fun v H2 e2 z2 => k v H2 (e1.trans e2) z2⟩
theorem a_ncallM {A : Ra γ} {g : γ} {m : γ → M ρ} {b : ρ} {E' : XK} {t : TA} (h : EvA A t G g) (e : MOk m g b) : Nw R (tCall (spMN A R m) [] E' t) G b := fun H0 σ H E Q k =>
  h H0 σ H E _ fun vs H1 e1 z1 => by
    rw [List.append_nil]
    exact ⟨g, b, z1, e, fun v H2 as e2 hn z2 => k v H2 as (e1.trans e2) (fun p hp => free_back e1 (hn p hp)) z2⟩
end
end Gt
/-! Gt16: what mir.py's scripts name. -/
namespace Gt
open PySem PySem.Spec PyProof.Rows L2
instance {i j : Int} : Decidable (CMul i j) := by unfold CMul; infer_instance
instance {i j : Int} : Decidable (CDiv i j) := by unfold CDiv; infer_instance
instance : Inhabited Str := ⟨Str.empty⟩
def Fl.go {σ ρ β : Type} (o : Fl σ ρ) (kn : σ → M β) (kr : ρ → M β) (kb : σ → M β) : M β := match o with
  | .nx s => kn s
  | .rt r => kr r
  | .bk s => kb s
theorem go_nx {σ ρ β : Type} {s : σ} {kn : σ → M β} {kr : ρ → M β} {kb : σ → M β} {x : M β} (h : Fl.go (.nx s) kn kr kb = x) : kn s = x := h
theorem go_rt {σ ρ β : Type} {s : ρ} {kn : σ → M β} {kr : ρ → M β} {kb : σ → M β} {x : M β} (h : Fl.go (.rt s) kn kr kb = x) : kr s = x := h
theorem go_bk {σ ρ β : Type} {s : σ} {kn : σ → M β} {kr : ρ → M β} {kb : σ → M β} {x : M β} (h : Fl.go (.bk s) kn kr kb = x) : kb s = x := h
/-- the code of a text of one sign -/
def sgn (s : Str) : Option Nat := match s.cps.toList with
  | [c] => some c
  | _ => none
theorem sgn_eq {s : Str} {c : Nat} (h : sgn s = some c) : s = ⟨#[c]⟩ := by
  unfold sgn at h
  obtain ⟨⟨l⟩⟩ := s
  match l, h with
  | [d], h => cases h; rfl
theorem sgn_one (c : Nat) : sgn ⟨#[c]⟩ = some c := rfl
section
variable {K : PySem.W.Frag} {H0 H1 H H' : Hp} {σ : L2.St} {G G' G2 Gx : Cells K} {α β γ S T ρ : Type}
variable {D : Ends} {t u tb : TS} {te ta tb' : TE} {r : Rp α} {q : Rp β} {R : Rs K ρ} {a b c d : Bool}
theorem Sv.cont (k : Sv H0 G u D) : Nx H0 G (u D) := k
theorem q_doc (k : Sv H0 G u D) : Sv H0 G (tSeq tNext u) D := k
theorem RtR.none {H0 : Hp} (h : Have H0 G σ H) : RtR (fz K rN) H0 () .non H := let ⟨_, e, E⟩ := h; ⟨[], e.trans E.old, (fun p hp => nomatch hp), ⟨rfl, fun _ _ => rfl⟩⟩
theorem l_pair {i j : Nat} {p : α × β} {a : V} (h : Ev (rP K r q) te G p) (k : Nx H0 ((G.set i (fc r p.1)).set j (fc q p.2)) D.nx) (F : Frz K r := by infer_instance) (F' : Frz K q := by infer_instance) : Sv H0 G (tAsg te (gTup K 2 (gCons (gName i) (gCons (gName j) gNil)))) D := fun σ H ⟨H1, e, E⟩ =>
  h H1 σ H E _ fun v H' e' hv => tg_pair H1 σ H' v (E.grow e') hv _ fun σ' E' => k σ' H' ⟨H1, e, E'⟩
theorem q_pair {i j : Nat} {p : α × β} (h : Ev (rP K r q) te G p) (k : Sv H0 ((G.set i (fc r p.1)).set j (fc q p.2)) u D) (F : Frz K r := by infer_instance) (F' : Frz K q := by infer_instance) : Sv H0 G (tSeq (tAsg te (gTup K 2 (gCons (gName i) (gCons (gName j) gNil)))) u) D := fun σ H ⟨H1, e, E⟩ =>
  h H1 σ H E _ fun v H' e' hv => tg_pair H1 σ H' v (E.grow e') hv _ fun σ' E' => k σ' H' ⟨H1, e, E'⟩
/-- xs[i] = v -/
theorem l_lset {ti : TE} {i : Nat} {xs : List α} {n : Int} {j : Nat} {x : α} (hi : G[i]? = some (some (.ow (nl K r) xs))) (h : Ev r te G x) (hn : Ev rI ti G n) (hj : ixN xs.length n = some j) (k : Nx H0 (G.set i (some (.ow (nl K r) (xs.set j x)))) D.nx) (F : Frz K r := by infer_instance) :
    Sv H0 G (tAsg te (gSub (tVar i) ti rSetL)) D := fun σ H ⟨H1, e1, E⟩ => by
  refine h H1 σ H E _ fun w H2 e2 hw => ?_
  obtain ⟨own, h1, h2, h3⟩ := id E.at_
  obtain ⟨v, hv, p, vs, ea, ev, hp, z⟩ := h3 i _ hi
  subst ev
  refine ⟨_, hv, hn H1 σ H2 (E.grow e2) _ fun y H3 e3 hy => ?_⟩
  have E3 := (E.grow e2).grow e3
  have hp3 := e3 _ _ (e2 _ _ hp)
  refine ⟨p, vs, n, j, rfl, hy, hp3, by rw [z.len]; exact hj, k _ _ ⟨H1, e1, ?_⟩⟩
  have x0 : ExT K H3 (upd H3 p (.lst (vs.set j w))) := ext_upd hp3 fun z => z
  have z3 : A2 (Stb K r (upd H3 p (.lst (vs.set j w)))) vs xs := z.imp fun _ _ q => (q.up (ext_same (e2.trans e3))).up x0
  refine E3.mut (as := [p]) (R := nl K r) (R' := nl K r) hi hv x0 (fun c o hc ho => ?_) (fun w' bs hw' ⟨p', _, e6, e7, _, _⟩ => ?_) ⟨p, _, rfl, rfl, upd_same, z3.set ((stb (F.up (ext_same e3) hw)).up x0) j⟩
  · rw [upd_ne fun z => hc (by rw [z]; exact List.mem_singleton.mpr rfl)]
    exact ho
  · rw [hv] at hw'
    cases hw'
    cases e7
    exact e6
theorem q_lset {ti : TE} {i : Nat} {xs : List α} {n : Int} {j : Nat} {x : α} (hi : G[i]? = some (some (.ow (nl K r) xs))) (h : Ev r te G x) (hn : Ev rI ti G n) (hj : ixN xs.length n = some j) (k : Sv H0 (G.set i (some (.ow (nl K r) (xs.set j x)))) u D) (F : Frz K r := by infer_instance) :
    Sv H0 G (tSeq (tAsg te (gSub (tVar i) ti rSetL)) u) D := l_lset (D := { D with nx := u D }) hi h hn hj k
abbrev rInSg : R2 := fun x y H Q => ∃ (c : Nat) (z : Str), x = .str ⟨#[c]⟩ ∧ y = .str z ∧ Q (.bl (decide (c ∈ z.cps.toList))) H
abbrev rNinSg : R2 := fun x y H Q => ∃ (c : Nat) (z : Str), x = .str ⟨#[c]⟩ ∧ y = .str z ∧ Q (.bl (!decide (c ∈ z.cps.toList))) H
def SgOk (s : Str) (c : Nat) : Prop := sgn s = some c
theorem a_inSg {s t : Str} {z : Nat} (h : Ev rS ta G t) (e : SgOk t z) (h' : Ev rS tb' G s) : Ev rB (tOp rInSg ta tb') G (decide (z ∈ s.cps.toList)) := ev_inSign h (sgn_eq e) h'
theorem a_ninSg {s t : Str} {z : Nat} (h : Ev rS ta G t) (e : SgOk t z) (h' : Ev rS tb' G s) : Ev rB (tOp rNinSg ta tb') G (!decide (z ∈ s.cps.toList)) := ev_ninSign h (sgn_eq e) h'
/-- x op y by an own method with a mirror -/
theorem a_cmpOM {C : Addr} {names : List Str} {r : Rp α} {r' : Rp β} {q : Rp γ} {x : α} {y : β} {z : γ} {m : α × β × Unit → M γ} {E : XK} (h : Ev r ta G x) (h' : Ev r' tb' G y) (M : Mono r) (I : InsR K C r names) (I' : InsR K C r' names) (e : MOk m (x, y, ()) z) :
    Ev q (tOp (rOwnOp C (spM (aC r (aC r' aN)) q m) E) ta tb') G z := ev_op h h' fun H u v hu hv Q k => by
  obtain ⟨a, dx, fs, ea, ha, _⟩ := I.ins hu
  obtain ⟨b, dy, gs, eb, hb, _⟩ := I'.ins hv
  exact ⟨a, dx, fs, b, dy, gs, ea, eb, ha, hb, (x, y, ()), z, ⟨u, _, rfl, hu, v, _, rfl, hv, rfl⟩, e, fun w H' e' hw => k w H' e' hw⟩
theorem nw_binOM {C : Addr} {names : List Str} {R : Rs K ρ} {r : Rp α} {r' : Rp β} {x : α} {y : β} {z : ρ} {m : α × β × Unit → M ρ} {E : XK} (h : Ev r ta G x) (h' : Ev r' tb' G y) (M : Mono r) (I : InsR K C r names) (I' : InsR K C r' names) (e : MOk m (x, y, ()) z) :
    Nw R (tOp (rOwnOp C (spMN (aC r (aC r' aN)) R m) E) ta tb') G z := nw_op h h' fun H u v hu hv Q k => by
  obtain ⟨a, dx, fs, ea, ha, _⟩ := I.ins hu
  obtain ⟨b, dy, gs, eb, hb, _⟩ := I'.ins hv
  exact ⟨a, dx, fs, b, dy, gs, ea, eb, ha, hb, (x, y, ()), z, ⟨u, _, rfl, hu, v, _, rfl, hv, rfl⟩, e, fun w H' as e' hn hw => k w H' as e' hn hw⟩
theorem a_mthM {C : Addr} {names : List Str} {mt : Str} {r : Rp α} {q : Rp γ} {x : α} {z : γ} {A : Ra β} {b : β} {m : α × β → M γ} {E : XK} {t : TA} (h : Ev r ta G x) (M : Mono r) (I : InsR K C r names) (hn : mt ∉ names) (hA : EvA A t G b) (e : MOk m (x, b) z) :
    Ev q (tMeth C mt (spM (aC r A) q m) [] E ta t) G z := fun H0 σ H E1 Q k => h H0 σ H E1 _ fun v H1 e1 hv => by
  obtain ⟨a, dx, fs, ea, ha, hm⟩ := I.ins hv
  refine ⟨a, dx, fs, ea, ha, lookup_no hm hn, hA H0 σ H1 (E1.grow e1) _ fun vs H2 e2 hvs => ?_⟩
  exact ⟨(x, b), z, ⟨v, vs, by rw [List.append_nil], M.up e2 hv, hvs⟩, e, fun w H' e' hw => k w H' ((e1.trans e2).trans e') hw⟩
theorem nw_mthM {C : Addr} {names : List Str} {mt : Str} {R : Rs K ρ} {r : Rp α} {x : α} {z : ρ} {A : Ra β} {b : β} {m : α × β → M ρ} {E : XK} {t : TA} (h : Ev r ta G x) (M : Mono r) (I : InsR K C r names) (hn : mt ∉ names) (hA : EvA A t G b) (e : MOk m (x, b) z) :
    Nw R (tMeth C mt (spMN (aC r A) R m) [] E ta t) G z := fun H0 σ H E1 Q k => h H0 σ H E1 _ fun v H1 e1 hv => by
  obtain ⟨a, dx, fs, ea, ha, hm⟩ := I.ins hv
  refine ⟨a, dx, fs, ea, ha, lookup_no hm hn, hA H0 σ H1 (E1.grow e1) _ fun vs H2 e2 hvs => ?_⟩
  exact ⟨(x, b), z, ⟨v, vs, by rw [List.append_nil], M.up e2 hv, hvs⟩, e, fun w H' as e' hf hw => k w H' as ((e1.trans e2).trans e') (fun p hp => free_back (e1.trans e2) (hf p hp)) hw⟩
/-- what making an instance promises, by a mirror -/
def spOneM (K : PySem.W.Frag) (C : Addr) (f : Str) {β : Type} (r : Rp β) {α : Type} (A : Ra α) (m : α → M (List β)) : Sp := fun vs H Q _ => ∃ p dx ws a b, vs = .ref p :: ws ∧ H p = some (.ins C dx []) ∧ A H ws a ∧ m a = .ok b ∧
  ∀ l us H', (∀ c o, c ≠ p → H c = some o → H' c = some o) → H l = none → H' p = some (.ins C dx [(f, .ref l)]) → H' l = some (.lst us) → A2 (Stb K r H') us b → b.length ≤ 100000 → Q .non H'
theorem spOneM_len {C : Addr} {f : Str} {α β : Type} {r : Rp β} {A : Ra α} {m : α → M (List β)} {n : Nat} [L : LenA A n] {vs : List V} {H : Hp} {Q : VK} {E : XK} (h : spOneM K C f r A m vs H Q E) : vs.length = n + 1 := by
  obtain ⟨p, dx, ws, a, b, rfl, _, hA, _⟩ := h
  rw [List.length_cons, L.len hA]
theorem nw_mkOM {C : Addr} {f : Str} {r : Rp β} {A : Ra α} {a : α} {m : α → M (List β)} {xs : List β} {E : XK} {t : TA} (hA : EvA A t G a) (M : MonoA A) (e : MOk m a xs) : Nw (nOne K C f r) (tMake C (spOneM K C f r A m) [] E t) G xs := fun H0 σ H E1 Q k =>
  hA H0 σ H E1 _ fun ws H1 e1 hws x dx hx hdx hne => by
    have s1 : Same H1 (upd (upd H1 dx (.own x)) x (.ins C dx [])) := fun b o hb => by rw [upd_ne (ne_of_none hb hx), upd_ne (ne_of_none hb hdx)]; exact hb
    refine ⟨x, dx, ws, a, xs, by rw [List.append_nil], upd_same, M.up s1 hws, e, fun l us H' keep hl h1 h2 z hz => ⟨rfl, ?_⟩⟩
    have hlx : x ≠ l := fun q => by rw [← q, upd_same] at hl; cases hl
    have hl1 : H1 l = none := s1.free hl
    refine k _ H' [x, l] (e1.trans fun b o hb => keep b o (ne_of_none hb hx) (s1 _ _ hb)) (fun b hb => ?_) ⟨⟨x, dx, l, us, rfl, rfl, hlx, h1, h2, z⟩, hz⟩
    rcases List.mem_cons.mp hb with q | q
    · rw [q]; exact free_back e1 hx
    · cases List.mem_singleton.mp q
      exact free_back e1 hl1
end
end Gt
/-! Gt17: what a mirror answers. -/
namespace Gt
open PySem PySem.Spec PyProof.Rows L2
/-- m answers, and so -/
def Tt {α : Type} (m : M α) (P : α → Prop) : Prop := match m with
  | .ok a => P a
  | .error _ => False
section
variable {α β γ σ ρ : Type} {m : M α} {f : α → M β} {P P' : α → Prop} {Q : β → Prop} {a : α} {c : Bool} {o : Option α}
theorem Tt.ok (h : Tt m P) : ∃ a, m = .ok a ∧ P a := by
  cases m with
  | ok a => exact ⟨a, rfl, h⟩
  | error _ => exact h.elim
theorem Tt.eq (h : Tt m fun x => x = a) : m = .ok a := let ⟨_, e, h⟩ := h.ok; by rw [e, h]
theorem Tt.of (h : m = .ok a) (p : P a) : Tt m P := by rw [h]; exact p
theorem Tt.imp (h : Tt m P) (g : ∀ a, P a → P' a) : Tt m P' := let ⟨a, e, h⟩ := h.ok; .of e (g a h)
theorem Tt.bind (h : Tt m P) (g : ∀ a, P a → Tt (f a) Q) : Tt (mb m f) Q := by
  obtain ⟨a, e, h⟩ := h.ok
  rw [mb_of e]
  exact g a h
/-- by what is known of m -/
theorem Tt.by (h : m = .ok a) (g : Tt (f a) Q) : Tt (mb m f) Q := by rw [mb_of h]; exact g
theorem Tt.ret (h : P a) : Tt (.ok a) P := h
theorem Tt.let (g : Tt (f a) Q) : Tt (mb (.ok a) f) Q := g
theorem Tt.chk {f : Unit → M β} {p : Prop} [Decidable p] (h : p) (g : Tt (f ()) Q) : Tt (mb (chk (decide p)) f) Q := by rw [mb_of (chk_of (decide_eq_true h))]; exact g
theorem Tt.oM (h : o = some a) (g : Tt (f a) Q) : Tt (mb (oM o) f) Q := by rw [mb_of (oM_of h)]; exact g
theorem Tt.if {m' : M α} (h : c = true → Tt m P) (h' : c = false → Tt m' P) : Tt (bif c then m else m') P := by
  cases c with
  | true => exact h rfl
  | false => exact h' rfl
theorem Tt.mand {a : Bool} {m : M Bool} {b : Bool} (h : a = true → m = .ok b) : Gt.mand a m = .ok (a && b) := by
  cases a with
  | true => exact h rfl
  | false => rfl
theorem Tt.mor {a : Bool} {m : M Bool} {b : Bool} (h : a = false → m = .ok b) : Gt.mor a m = .ok (a || b) := by
  cases a with
  | false => exact h rfl
  | true => rfl
theorem mfor_snoc {f : σ → α → M σ} : ∀ {xs : List α} {s t : σ} {x : α}, mfor f s xs = .ok t → mfor f s (xs ++ [x]) = f t x
  | [], s, t, x, h => by
    cases h
    show mb (f s x) (fun c => .ok c) = f s x
    cases f s x <;> rfl
  | y :: xs, s, t, x, h => by
    obtain ⟨u, h1, h2⟩ := mb_ok h
    show mb (f s y) _ = _
    rw [mb_of h1]
    exact mfor_snoc h2
/-- a loop by an invariant of what was walked -/
theorem Tt.for {f : σ → α → M σ} {xs : List α} {s0 : σ} (I : List α → σ → Prop) (h0 : I [] s0) (h : ∀ pre x post s, xs = pre ++ x :: post → I pre s → Tt (f s x) (I (pre ++ [x]))) : Tt (mfor f s0 xs) (I xs) := by
  have go : ∀ (post pre : List α) (s : σ), xs = pre ++ post → I pre s → Tt (mfor f s post) (I xs) := by
    intro post
    induction post with
    | nil => intro pre s e hI; rw [e, List.append_nil]; exact hI
    | cons x post ih =>
      intro pre s e hI
      exact (h pre x post s e hI).bind fun s' h' => ih (pre ++ [x]) s' (by rw [e, List.append_assoc]; rfl) h'
  exact go xs [] s0 rfl h0
/-- .. whose steps are a function's -/
theorem mfor_eq {f : σ → α → M σ} {g : σ → α → σ} (I : σ → Prop) : ∀ {xs : List α} {s : σ}, I s → (∀ s x, x ∈ xs → I s → f s x = .ok (g s x) ∧ I (g s x)) → mfor f s xs = .ok (xs.foldl g s)
  | [], _, _, _ => rfl
  | x :: xs, s, h, hs => by
    obtain ⟨e, h'⟩ := hs s x (List.mem_cons_self ..) h
    unfold mfor
    rw [mb_of e, List.foldl_cons]
    exact mfor_eq I h' fun s y hy => hs s y (List.mem_cons_of_mem _ hy)
theorem Tt.forF {f : σ → α → M (Fl σ ρ)} {xs : List α} {s0 : σ} {R : Fl σ ρ → Prop} (I : List α → σ → Prop) (h0 : I [] s0) (he : ∀ s, I xs s → R (.nx s))
    (h : ∀ pre x post s, xs = pre ++ x :: post → I pre s → Tt (f s x) fun o => match o with | .nx s' => I (pre ++ [x]) s' | .rt r => R (.rt r) | .bk s' => R (.nx s')) : Tt (mforF f s0 xs) R := by
  have go : ∀ (post pre : List α) (s : σ), xs = pre ++ post → I pre s → Tt (mforF f s post) R := by
    intro post
    induction post with
    | nil => intro pre s e hI; rw [List.append_nil] at e; exact he s (e ▸ hI)
    | cons x post ih =>
      intro pre s e hI
      refine (h pre x post s e hI).bind fun o h' => ?_
      cases o with
      | nx s' => exact ih (pre ++ [x]) s' (by rw [e, List.append_assoc]; rfl) h'
      | rt r => exact h'
      | bk s' => exact h'
  exact go xs [] s0 rfl h0
/-- a loop that only looks whether all are so, and returns r where one is not -/
theorem mforF_all {f : Unit → α → M (Fl Unit ρ)} {p : α → Bool} {r : ρ} : ∀ {xs : List α}, (∀ x ∈ xs, f () x = .ok (bif p x then .nx () else .rt r)) → mforF f () xs = .ok (bif xs.all p then .nx () else .rt r)
  | [], _ => rfl
  | x :: xs, h => by
    have h1 := h x (List.mem_cons_self ..)
    have ih := mforF_all (xs := xs) fun y hy => h y (List.mem_cons_of_mem _ hy)
    unfold mforF
    rw [mb_of h1, List.all_cons]
    cases p x with
    | true => exact ih
    | false => rfl
theorem mlc_eq {p : α → M Bool} {f : α → M β} {p' : α → Bool} {f' : α → β} : ∀ {xs : List α}, (∀ x ∈ xs, p x = .ok (p' x)) → (∀ x ∈ xs, p' x = true → f x = .ok (f' x)) → mlc p f xs = .ok ((xs.filter p').map f')
  | [], _, _ => rfl
  | x :: xs, h, h' => by
    have ih := mlc_eq (xs := xs) (fun y hy => h y (List.mem_cons_of_mem _ hy)) (fun y hy => h' y (List.mem_cons_of_mem _ hy))
    unfold mlc
    rw [mb_of (h x (List.mem_cons_self ..)), List.filter_cons]
    cases e : p' x with
    | true => rw [cond_true, mb_of (h' x (List.mem_cons_self ..) e), mb_of ih, if_pos rfl, List.map_cons]
    | false => rw [cond_false, ih, if_neg Bool.false_ne_true]
theorem mlc_map {f : α → M β} {f' : α → β} {xs : List α} (h : ∀ x ∈ xs, f x = .ok (f' x)) : mlc (fun _ => .ok true) f xs = .ok (xs.map f') := by
  have := mlc_eq (p := fun _ => .ok true) (p' := fun _ => true) (f := f) (f' := f') (xs := xs) (fun _ _ => rfl) fun x hx _ => h x hx
  rw [List.filter_eq_self.mpr fun _ _ => rfl] at this
  exact this
/-- a comprehension of which only some property of the items is told -/
theorem Tt.lc {f : α → M β} {xs : List α} {P : β → Prop} (h : ∀ x ∈ xs, Tt (f x) P) : Tt (mlc (fun _ => .ok true) f xs) fun ys => ys.length = xs.length ∧ ∀ y ∈ ys, P y := by
  induction xs with
  | nil => exact ⟨rfl, fun _ h => nomatch h⟩
  | cons x xs ih =>
    unfold mlc
    refine Tt.let ?_
    show Tt (mb (f x) _) _
    refine (h x (List.mem_cons_self ..)).bind fun y hy => (ih fun z hz => h z (List.mem_cons_of_mem _ hz)).bind fun ys hys => Tt.ret ⟨by rw [List.length_cons, hys.1, List.length_cons], fun z hz => ?_⟩
    rcases List.mem_cons.mp hz with e | e
    · rw [e]; exact hy
    · exact hys.2 z e
/-- a comprehension with a test, of which only some property of the items is told -/
theorem Tt.lcf {p : α → M Bool} {f : α → M β} {xs : List α} {P : β → Prop} (hp : ∀ x ∈ xs, Tt (p x) fun _ => True) (h : ∀ x ∈ xs, p x = .ok true → Tt (f x) P) : Tt (mlc p f xs) fun ys => ys.length ≤ xs.length ∧ ∀ y ∈ ys, P y := by
  induction xs with
  | nil => exact ⟨Nat.le_refl _, fun _ h => nomatch h⟩
  | cons x xs ih =>
    unfold mlc
    obtain ⟨b, e, _⟩ := (hp x (List.mem_cons_self ..)).ok
    rw [mb_of e]
    have ih := ih (fun z hz => hp z (List.mem_cons_of_mem _ hz)) fun z hz => h z (List.mem_cons_of_mem _ hz)
    cases b with
    | true =>
      refine (h x (List.mem_cons_self ..) e).bind fun y hy => ih.bind fun ys hys => Tt.ret ⟨by rw [List.length_cons, List.length_cons]; exact Nat.succ_le_succ hys.1, fun z hz => ?_⟩
      rcases List.mem_cons.mp hz with e | e
      · rw [e]; exact hy
      · exact hys.2 z e
    | false => exact ih.imp fun ys hys => ⟨Nat.le_trans hys.1 (Nat.le_succ _), hys.2⟩
theorem atI_in {xs : List α} {i : Int} (h0 : 0 ≤ i) (h1 : i < xs.length) : ∃ x, atI xs i = some x ∧ xs[i.toNat]? = some x ∧ x ∈ xs := by
  have hl : i.toNat < xs.length := by omega
  exact ⟨xs[i.toNat], atI_pos h0 (List.getElem?_eq_getElem hl), List.getElem?_eq_getElem hl, List.getElem_mem hl⟩
theorem Tt.ix {xs : List α} {i : Int} {f : α → M β} (h0 : 0 ≤ i) (h1 : i < xs.length) (g : ∀ x, x ∈ xs → xs[i.toNat]? = some x → Tt (f x) Q) : Tt (mb (Gt.oM (atI xs i)) f) Q := by
  obtain ⟨x, e, e2, hx⟩ := atI_in h0 h1
  exact Tt.oM e (g x hx e2)
theorem Tt.ixN {n : Nat} {i : Int} {f : Nat → M β} (h0 : 0 ≤ i) (h1 : i < n) (g : Tt (f i.toNat) Q) : Tt (mb (Gt.oM (L2.ixN n i)) f) Q := by
  refine Tt.oM ?_ g
  unfold L2.ixN
  rw [if_pos h0, if_pos h1]
theorem cut_mem {xs : List α} {lo hi : Option Int} {x : α} (h : x ∈ cut xs lo hi) : x ∈ xs := by
  unfold cut at h
  exact List.mem_of_mem_drop (List.mem_of_mem_take h)
theorem cut_le (xs : List α) (lo hi : Option Int) : (cut xs lo hi).length ≤ xs.length := by
  unfold cut
  rw [List.length_take, List.length_drop]
  omega
theorem sIx_in {n d : Nat} {i : Int} (h0 : 0 ≤ i) (h1 : i ≤ n) : HT.sIx n d (some i) = i.toNat := by
  obtain ⟨k, rfl⟩ := Int.eq_ofNat_of_zero_le h0
  rw [HT.sIx_nat]
  show min k n = k
  omega
theorem cut_in {xs : List α} {lo hi : Int} (h0 : 0 ≤ lo) (h1 : lo ≤ hi) (h2 : hi ≤ xs.length) : cut xs (some lo) (some hi) = (xs.drop lo.toNat).take (hi - lo).toNat := by
  unfold cut
  rw [sIx_in h0 (by omega), sIx_in (by omega) h2]
  congr 1
  omega
theorem cut_len_in {xs : List α} {lo hi : Int} (h0 : 0 ≤ lo) (h1 : lo ≤ hi) (h2 : hi ≤ xs.length) : (cut xs (some lo) (some hi)).length = (hi - lo).toNat := by
  rw [cut_in h0 h1 h2, List.length_take, List.length_drop]
  omega
theorem ups_mem {n : Nat} {i : Int} (h : i ∈ ups n) : 0 ≤ i ∧ i < n := by
  unfold ups at h
  obtain ⟨j, hj, e⟩ := List.mem_map.mp h
  have := List.mem_range.mp hj
  omega
end
end Gt
/-! Gt18: own exceptions over own classes over ValueError, whose __init__ says super().__init__(text) and keeps its one argument. -/
namespace Gt
open PySem PySem.Spec PyProof.Rows L2 PySem.W PySem.Calls PySem.HandSPX
/-- what the top says of such a class: x at C, its __init__ at fI, its field fld -/
structure ExcT (prog : Program) (K : PySem.W.Frag) (mg : Str → Option Value) (x fld : Str) (C fI : Addr) : Prop where
  gC : mg x = some (.ref C)
  cls : ∃ nm q N bs bm sn sub ab col dd k0 k1 k2 k3 k5, K.lookup C = some (excClassObj nm q C N bs bm true sn sub ab col dd k0 k1 k2 k3 k5 "ValueError.__new__") ∧ refsVE bm = true
  sa : findIn K (.ref C) "__setattr__" = some (some (.builtin "object.__setattr__"))
  ga : findIn K (.ref C) "__getattribute__" = some (some (.builtin "BaseException.__getattribute__"))
  gg : findIn K (.ref C) "__getattr__" = some none
  no : findIn K (.ref C) fld = some none
  iC : findIn K (.ref C) "__init__" = some (some (.ref fI))
  tI : typeIn K (.ref fI) = some (.type "function")
  kC : keepIn K (.ref C) = true
  exC : subIn K (.ref C) (.type "BaseException") = some true
  tyC : typeIn K (.ref C) = some (.type "type")
  hdC : hasDictIn K C = true
  su : ks_superIn K C C "__init__" = some (some (.builtin "ValueError.__init__"))
  sB : subIn K (.ref C) (.type "ValueError") = some true
  sS : mroIn K C (.ref C) = some true
  op : nsIn K cStatics "thirdparty.any" = some none
  nS : mg "super" = none
  fn : ∃ (oc : Value) (od : Option Addr) (qual : Str) (params : Arguments) (body : List Stmt) (scope : Scope) (doc pm : Value) (an : Option Addr) (cda cc : Addr) (ct : Value) (osl : Array (Option Value)),
    K.lookup fI = some ⟨oc, od, .func (ksFn "__init__" qual params body scope .none .none doc pm an (.ref cda) ct cc), osl⟩ ∧ codeIn K (.ref cda) qual = true ∧
    (∃ cl cld csl, K.lookup cc = some ⟨cl, cld, .cell (some (.ref C)), csl⟩) ∧ (∃ cl cld vs file tf csl, K.lookup cda = some ⟨cl, cld, .fields vs, csl⟩ ∧ vs[2]? = some (.str file tf) ∧ ((prog.main.file : Str) == file) = true) ∧
    (prog.main.scope.names.lookup ("super" : Str)).isSome = false ∧
    (∃ msg j q0 q1 q2 q3 q4 q5 q6 q7 q8 q9, body = [.Expr (.Call (.Attribute (.Call (.Name "super" q0) [] [] q1) "__init__" q2) [.Constant (.str msg) j q3] [] q4) q5, .Assign [.Attribute (.Name "self" q6) fld q7] (.Name fld q8) q9] ∧
      (∀ L cd c2, ∃ pl : Sem Bool, eval (.Call (.Attribute (.Call (.Name "super" q0) [] [] q1) "__init__" q2) [.Constant (.str msg) j q3] [] q4) (ksEnv qual scope L fI cd c2) = (do
        let ov ← attributeBase (.Call (.Name "super" q0) [] [] q1) "__init__" (ksEnv qual scope L fI cd c2) (eval (.Call (.Name "super" q0) [] [] q1) (ksEnv qual scope L fI cd c2))
        standAt q2.atName
        let (f, first) ← holding [ov] (getMethod ov "__init__" pl)
        callWith q4 f first (backTo q4 (starEach [.Constant (.str msg) j q3] (ksEnv qual scope L fI cd c2))) [])) ∧
      (∀ L cd c2, swapsWith (.Call (.Attribute (.Call (.Name "super" q0) [] [] q1) "__init__" q2) [.Constant (.str msg) j q3] [] q4) none q5.line (ksEnv qual scope L fI cd c2) = pure false) ∧
      (∀ L cd c2, swapsWith (.Name fld q8) (some (.Attribute (.Name "self" q6) fld q7)) q9.line (ksEnv qual scope L fI cd c2) = pure false)) ∧
    (∃ ar, (params.posonlyargs ++ params.args).head? = some ar ∧ ar.arg = "self") ∧
    (∀ (s : Shared) (u v : Value), BindsTo s (ksFn "__init__" qual params body scope .none .none doc pm an (.ref cda) ct cc) ⟨[u, v], []⟩ [("self", u), (fld, v)]) ∧
    scope.kind = .function ∧ scope.isGenerator = false ∧ scope.isCoroutine = false ∧ scope.names.lookup ("self" : Str) = some .local ∧ scope.names.lookup fld = some .local ∧ scope.names.lookup ("super" : Str) = some .globalImplicit ∧
    scope.names.lookup ("__class__" : Str) = some .free ∧ (∀ y ∈ scope.names, y.2 ≠ .cell) ∧ (fld == ("self" : Str)) = false ∧ (fld == ("__debug__" : Str)) = false
/-- what __init__ leaves of a fresh exception at x -/
structure XEnd (h h' : Heap) (x C dx : Addr) (fld : Str) (v : Value) : Prop where
  keep : ∀ b o, b ≠ x → h.get? b = some o → h'.get? b = some o
  obj : ∃ t1 : Addr, h'.get? x = some { cls := .ref C, dict := some dx, data := .fields #[.ref t1, .none, .none, .none, .bool false, .none] }
  dbig : h.objs.size ≤ dx
  dne : dx ≠ x
  ns : h'.Ns1 dx (fun y => if y = fld then some v else none)
/-- the bound __init__ is called -/
theorem xbound {prog : Program} {w : World} {A : Around} {E : Value → Shared → Prop} {h : Heap} {g : Array GenState} {d : Drawn} {t : Nat} {os : OsState} {nm q : Str} {C N : Addr} {bs bm : List Value} {sn : List Str} {sub : List Value} {ab : Bool} {col : Option Bool} {dd : Option Addr} {k0 k1 k2 k3 k5 : Option Value}
    {u e t0 : Addr} {rest : List Value} {Q : Value → Shared → Prop} (hm : refsVE bm = true) (cC : h.get? C = some (excClassObj nm q C N bs bm true sn sub ab col dd k0 k1 k2 k3 k5 "ValueError.__new__")) (ce : h.get? e = some (excO C t0)) (cu : h.get? u = some (kxs_mw "ValueError.__init__" e)) (hz : rest.length ≤ sizeLine)
    (fin : ∀ h' t1, (∀ b o, b ≠ e → h.get? b = some o → h'.get? b = some o) → h'.get? e = some (excO C t1) → Q .none ⟨h', g, d, t, os⟩) : wpAny (model prog w) A (call (.ref u) rest) Q E ⟨h, g, d, t, os⟩ := by
  have FB := PySem.F.excBase_ValueError
  refine wpAny_call (codeAny_of_tree ?_); show wpAny _ A.in1 (callAny (.ref u) ⟨rest, []⟩) _ _ _; simp only [callAny]; refine wpAny_bind (wpAny_load cu ?_)
  have mw : (Value.type "method-wrapper" == Value.type "method" || Value.type "method-wrapper" == Value.type "builtin_function_or_method" || Value.type "method-wrapper" == Value.type "method-wrapper") = true := by decide
  simp only [kxs_mw, mw, if_true]; refine KFB.if_so (by decide) (wpAny_bind (check_bound_init FB.toExcCallFacts cC ce rfl (wpAny_bind (wpAny_pure (wpAny_pure ?_)))))
  refine ⟨plainId_quiet FB.init.plain _, codeAny_builtin FB.initEntry ?_⟩; rw [Around.under_plainId FB.init.plain _]
  exact exc_init_tree (cls := .ref C) (t0 := t0) (dv := none) (c2 := .none) (c3 := .none) (b4 := .bool false) ce hz fun h' k e' _ => fin h' _ k e'
section
variable {prog : Program} {w : World} {A : Around} {R : Result → Shared → Prop} {K : PySem.W.Frag} {mg : Str → Option Value} {x fld : Str} {C fI : Addr}
/-- the builtins and globals that a heap has -/
def Grd (mg : Str → Option Value) (h : Heap) : Prop := h.Ns mainGlobals mg ∧ ∃ mb, h.Ns builtinsNs mb ∧ ∀ x : Str, x ≠ "__name__" → mb x = bootBuiltins x
theorem xinit (T : ExcT prog K mg x fld C fI) {h : Heap} {g : Array GenState} {d : Drawn} {t : Nat} {os : OsState} {a t0 : Addr} {v : Value} (X : K.In h) (hlim : h.NoLimit) (G : Grd mg h) (ha : h.get? a = some (excO C t0)) (haC : a ≠ C) (hnx : K.lookup a = none) (hroom : A.depth < recursionLimit)
    (fin : ∀ h' tk dx, XEnd h h' a C dx fld v → R (.ok (.ret .none)) ⟨h', g, d, tk, os⟩) : codeAny (model prog w) A (.call (.ref fI) ⟨[.ref a, v], []⟩) R ⟨h, g, d, t, os⟩ := by
  obtain ⟨oc, od, qual, params, body, scope, doc, pm, an, cda, cc, ct, osl, hfn, hcd, ⟨cl, cld, csl, hcell⟩, ⟨cl2, cld2, vs, file, tf, csl2, hco, hvs, hfile⟩, htop, ⟨msg, j, q0, q1, q2, q3, q4, q5, q6, q7, q8, q9, eb, hev, hsw1, hsw2⟩, ⟨ar, har, hself⟩, hbind, sk, sg, sco, l1, l2, l3, l4, l5, l6, l7⟩ := T.fn
  obtain ⟨nm, q, N, bs, bm, sn, sub, ab, col, dd, k0, k1, k2, k3, k5, hC, hbm⟩ := T.cls
  obtain ⟨gG, mb, gB, gb⟩ := G
  have hcl : clsIn K C = some { name := nm, bases := bs, mro := .ref C :: bm, ns := N, qualname := q, hasDict := true, slotNames := sn, subclasses := sub, abstract := ab, collection := col, hasDel := false } := by unfold clsIn; rw [hC] <;> rfl
  refine ks_codeAny_call_defAt (binds := [("self", .ref a), (fld, v)]) hroom (X _ _ hfn) rfl hlim (codeRec_of X hcd) rfl (hbind _ _ _) l5 (fun y hy => ?_) (fun h1 ns1 ke1 => ?_) sco sg sk
  · rcases List.mem_cons.mp hy with e | hy
    · rw [e]; exact l1
    · cases List.mem_singleton.mp hy; exact l2
  have X1 := X.keeps ke1
  subst eb
  have a1 := ke1 _ _ ha
  have nsA : (fun y => ([("self", Value.ref a), (fld, v)] : List (Str × Value)).reverse.lookup y) "self" = some (.ref a) := by
    show List.lookup _ [(fld, v), ("self", Value.ref a)] = _
    rw [List.lookup_cons, show (("self" : Str) == fld) = false from by rw [Bool.eq_false_iff]; intro z; rw [← beq_iff_eq.mp z] at l6; simp at l6]
    simp [List.lookup]
  have nsB : (fun y => ([("self", Value.ref a), (fld, v)] : List (Str × Value)).reverse.lookup y) fld = some v := by
    show List.lookup _ [(fld, v), ("self", Value.ref a)] = _
    rw [List.lookup_cons, beq_self_eq_true]
  have envE : callEnv (ksFn "__init__" qual params [.Expr (.Call (.Attribute (.Call (.Name "super" q0) [] [] q1) "__init__" q2) [.Constant (.str msg) j q3] [] q4) q5, .Assign [.Attribute (.Name "self" q6) fld q7] (.Name fld q8) q9] scope .none .none doc pm an (.ref cda) ct cc) h.objs.size fI = ksEnv qual scope h.objs.size fI (.ref cda) cc := rfl
  rw [envE]
  have hi : interactive (ksEnv qual scope h.objs.size fI (.ref cda) cc) = false := by simp [interactive, sk]
  obtain ⟨pl, hpl⟩ := hev h.objs.size (.ref cda) cc
  refine ks_wpAt_execs_cons (ks_wpAt_Expr_any (ks_wpAt_MethodCall ?_ hpl) hi (hsw1 _ _ _))
  refine ks_wpAt_super_base (env := ksEnv qual scope h.objs.size fI (.ref cda) cc) l3 l4 (by decide) rfl (X1 _ _ hfn) rfl har rfl (X1 _ _ hco) rfl hvs hfile htop ?_
  have gG1 := gG.keeps ke1
  have gB1 := gB.keeps ke1
  refine ks_loadName_global sk l3 (loadGlobal_builtin (env := ksEnv qual scope h.objs.size fI (.ref cda) cc) gG1 T.nS gB1 ((gb _ (by decide)).trans (by decide +kernel)) ⟨rfl, ?_⟩)
  refine wpAny_loadName_free sk l4 rfl ⟨_, X1 _ _ hcell, rfl⟩ ?_
  refine wpAny_loadName_local sk (by rw [hself]; exact l1) ns1 (by rw [hself]; exact nsA) ?_
  refine ks_wpAny_isType_cls (X1 _ _ hC) rfl ⟨rfl, ?_⟩
  refine ks_wpAny_call_super (X1 _ _ hC) rfl a1 rfl (fun c z => nomatch z) (looks_mroIn X1 T.sS) (fun h2 so2 ke2 => ?_)
  have X2 := X1.keeps ke2
  have a2 := ke2 _ _ a1
  have su := T.su
  unfold ks_superIn at su
  rw [hcl] at su
  have hI : Looks (model prog w) h2 (isInstance (.ref a) (.type "ValueError")) true := (show Looks (model prog w) h2 (typeOf (.ref a)) (.ref C) from fun A Q E s k q => wpAny_typeOf_ref (k _ _ a2) q).andThen (looks_subIn X2 T.sB)
  refine kxs_getMethod kxs_ValueError so2 (looks_opaque X2 T.op) (l₀ := .ref C :: bm) ?_ rfl X2 su hI haC (by decide) ?_
  · exact fun A Q E s k q => wpAny_bind ((looks_clsIn X2 hcl) A _ E s k (wpAny_pure q))
  have ne2 : ∀ b o, h2.get? b = some o → b ≠ h2.objs.size := fun b o z => Nat.ne_of_lt (Heap.lt_size z)
  have ke3 : ∀ b o, h2.get? b = some o → (h2.push (kxs_mw "ValueError.__init__" a)).get? b = some o := fun b o z => Heap.get?_push_of_some _ z
  have a3 := ke3 _ _ a2
  have u3 : (h2.push (kxs_mw "ValueError.__init__" a)).get? h2.objs.size = some (kxs_mw "ValueError.__init__" a) := Heap.get?_push_at rfl rfl
  refine kxs_callWith (i := "ValueError.__init__") (x := a) rfl ?_
  rw [show starEach [Expr.Constant (Const.str msg) j q3] (ksEnv qual scope h.objs.size fI (Value.ref cda) cc) = (false, eval (Expr.Constant (Const.str msg) j q3) (ksEnv qual scope h.objs.size fI (Value.ref cda) cc)) :: starEach [] (ksEnv qual scope h.objs.size fI (Value.ref cda) cc) from rfl]
  refine evalArgs_plain ?_
  show wpAny _ _ (spliced (backTo q4 (starEach [Expr.Constant (Const.str msg) j q3] (ksEnv qual scope h.objs.size fI (Value.ref cda) cc)))) _ _ _
  refine spliced_more (Constant_str (pos := q3) (spliced_none ⟨u3, ?_⟩))
  refine xbound hbm (ke3 _ _ (X2 _ _ hC)) a3 u3 (by show 1 ≤ sizeLine; rw [sizeLine_eq]; decide) fun h4 t4 ke4 a4 => ?_
  have nL : h.objs.size ≠ a := Nat.ne_of_gt (Heap.lt_size ha)
  have ke04 : ∀ b o, b ≠ a → h.get? b = some o → h4.get? b = some o := fun b o nb z => ke4 b o nb (ke3 _ _ (ke2 _ _ (ke1 _ _ z)))
  have X4 : K.In h4 := fun b o z => ke04 b o (fun e => by
    rw [e, hnx] at z
    cases z) (X _ _ z)
  have ns4 : h4.Ns h.objs.size (fun y => ([("self", Value.ref a), (fld, v)] : List (Str × Value)).reverse.lookup y) := by
    obtain ⟨o, es, ep, z1, z2⟩ := ns1
    exact ⟨o, es, ep, ke4 _ _ nL (ke3 _ _ (ke2 _ _ z1)), z2⟩
  refine wpAt_of_wpAny (wpAny_execs_cons (plainObj_wpAny_Assign_Attribute ?_ (hsw2 _ _ _)))
  refine wpAny_Name (wpAny_loadName_local sk l2 ns4 nsB ?_) l7
  refine wpAny_Name (wpAny_loadName_local sk l1 ns4 nsA ?_) (by decide)
  refine set_plain X4 (ox := excO C t4) (od := none) ⟨a4, rfl, rfl, trivial⟩ T.sa ?_
  refine exc_osa X4 a4 hcl (show refsVE (.ref C :: bm) = true from hbm) rfl T.no (fun h5 tk5 dx ke5 dn dne x5 n5 => ?_)
  refine wpAny_execs_nil (fin h5 tk5 dx ⟨fun b o nb z => ke5 b o nb (ke04 b o nb z), ⟨t4, x5⟩, Nat.le_of_lt (Nat.lt_of_lt_of_le ns4.lt dn), dne, n5⟩)
/-- a made one -/
structure XMade (h h' : Heap) (e C d : Addr) (fld : Str) (v : Value) : Prop where
  keep : ∀ b o, h.get? b = some o → h'.get? b = some o
  new : h.objs.size ≤ e
  obj : ∃ oe vs, h'.get? e = some oe ∧ oe.cls = .ref C ∧ oe.dict = some d ∧ oe.data = .fields vs ∧ vs[1]? = some .none
  dbig : h.objs.size ≤ d
  dne : d ≠ e
  ns : h'.Ns1 d (fun y => if y = fld then some v else none)
theorem xmade (T : ExcT prog K mg x fld C fI) {h : Heap} {g : Array GenState} {d : Drawn} {t : Nat} {os : OsState} {v : Value} (X : K.In h) (hlim : h.NoLimit) (G : Grd mg h) (hroom : A.depth + 1 < recursionLimit)
    (fin : ∀ h' tk e d', XMade h h' e C d' fld v → R (.ok (.ret (.ref e))) ⟨h', g, d, tk, os⟩) : codeAny (model prog w) A (.call (.ref C) ⟨[v], []⟩) R ⟨h, g, d, t, os⟩ := by
  obtain ⟨nm, q, N, bs, bm, sn, sub, ab, col, dd, k0, k1, k2, k3, k5, hC, hbm⟩ := T.cls
  let H2 : Heap := (h.push (kdv_tup [v])).push (excO C h.objs.size)
  have kp : ∀ b o, h.get? b = some o → H2.get? b = some o := fun b o z => Heap.get?_push_of_some _ (Heap.get?_push_of_some _ z)
  have at2 : H2.get? (h.objs.size + 1) = some (excO C h.objs.size) := by show ((h.push (kdv_tup [v])).push (excO C h.objs.size)).get? _ = _; heap_get
  have lt2 : ∀ {b : Addr} {o : Obj}, h.get? b = some o → b ≠ h.objs.size + 1 := fun z => Nat.ne_of_lt (Nat.lt_succ_of_lt (Heap.lt_size z))
  have nK : K.lookup (h.objs.size + 1) = none := by
    cases z : K.lookup (h.objs.size + 1) with
    | none => rfl
    | some o => exact absurd rfl (lt2 (X _ _ z))
  refine call_own PySem.F.excBase_ValueError (fun Y => refsVE_contains Y bm hbm) (X _ _ hC) (looks_findIn X T.iC) (fun self => bind_fn X self T.tI) (by show 1 ≤ sizeLine; rw [sizeLine_eq]; decide) ?_
  refine xinit (h := H2) T (X.keeps kp) (hlim.keeps kp) ⟨G.1.keeps kp, let ⟨mb, z1, z2⟩ := G.2; ⟨mb, z1.keeps kp, z2⟩⟩ at2 (lt2 (X _ _ hC)).symm nK (show A.depth + 1 < recursionLimit from hroom) fun h' tk dx E => ?_
  have big : h.objs.size ≤ H2.objs.size := by show h.objs.size ≤ ((h.push _).push _).objs.size; rw [Heap.size_push, Heap.size_push]; omega
  obtain ⟨t1, eo⟩ := E.obj
  exact ⟨rfl, fin h' tk (h.objs.size + 1) dx ⟨fun b o z => E.keep b o (lt2 z) (kp b o z), Nat.le_succ _, ⟨_, _, eo, rfl, rfl, rfl, rfl⟩, Nat.le_trans big E.dbig, E.dne, E.ns⟩⟩
end
end Gt
/-! Gt19: defs that raise, with mirrors; try. -/
namespace Gt
open PySem PySem.Spec PyProof.Rows L2 PySem.HandSPX
/-- the same, but what it raises does not matter -/
def calm {α : Type} (m : M α) : M α := match m with
  | .ok a => .ok a
  | .error _ => .error .stuck
theorem calm_ok {α : Type} {m : M α} {a : α} (h : calm m = .ok a) : m = .ok a := by cases m with
  | ok b => exact h
  | error e => cases h
theorem calm_of {α : Type} {m : M α} {a : α} (h : m = .ok a) : calm m = .ok a := by rw [h]; rfl
def NStk {α : Type} (o : M α) : Prop := o ≠ .error .stuck
theorem mbx_ok {α β : Type} {a : α} {f : α → M β} {o : M β} (h : mb (.ok a) f = o) : ∃ b, a = b ∧ f b = o := ⟨a, rfl, h⟩
theorem mbx_chk {β : Type} {c : Bool} {f : Unit → M β} {o : M β} (h : mb (chk c) f = o) (n : NStk o) : c = true ∧ f () = o := by
  cases c with
  | false => exact absurd h.symm n
  | true => exact ⟨rfl, h⟩
theorem mbx_oM {α β : Type} {m : Option α} {f : α → M β} {o : M β} (h : mb (oM m) f = o) (n : NStk o) : ∃ a, m = some a ∧ f a = o := by
  cases m with
  | none => exact absurd h.symm n
  | some a => exact ⟨a, rfl, h⟩
theorem mbx_calm {α β : Type} {m : M α} {f : α → M β} {o : M β} (h : mb (calm m) f = o) (n : NStk o) : ∃ a, m = .ok a ∧ f a = o := by
  cases m with
  | ok a => exact ⟨a, rfl, h⟩
  | error e => exact absurd h.symm n
theorem mbx_to {α β : Type} {m : M α} {f : α → M β} {o : M β} {a : α} (h : mb m f = o) (e : m = .ok a) : f a = o := by rw [e] at h; exact h
theorem mbx_er {α β : Type} {m : M α} {f : α → M β} {o : M β} {e : Er} (h : mb m f = o) (q : m = .error e) : o = .error e := by rw [q] at h; exact h.symm
theorem nstk_in {α β : Type} {m : M α} {f : α → M β} {o : M β} (h : mb m f = o) (n : NStk o) : NStk m := fun e => n (mbx_er h e)
section
variable {K : PySem.W.Frag} {H0 H1 H H' : Hp} {σ : L2.St} {G G' G2 Gx : Cells K} {α β γ S T ρ : Type}
variable {D : Ends} {t u tb : TS} {wi : TI} {g : TG} {te ta tb' : TE} {tt tu : TT} {r : Rp α} {q : Rp β} {R : Rs K ρ} {a b c d : Bool}
/-! ### what is raised -/
def rPay (K : PySem.W.Frag) : Rp Pay := fun H v p => match p with
  | .s o => rO rS H v o
  | .i n => rI H v n
  | .r x => rRu K H v x
instance : Frz K (rPay K) := ⟨fun {H H' v b} e h => match b, h with
  | .s o, h => Frz.up (K := K) (r := rO rS) e h
  | .i n, h => Frz.up (K := K) (r := rI) e h
  | .r x, h => Frz.up (K := K) (r := rRu K) e h⟩
instance : Mono (rPay K) := ⟨fun e h => Frz.up (K := K) (ext_same e) h⟩
abbrev Fv (K : PySem.W.Frag) (H : Hp) (x : Str × V) (y : Str × Pay) : Prop := x.1 = y.1 ∧ rPay K H x.2 y.2
/-- at d: the own dict of an exception with these fields -/
def XR (K : PySem.W.Frag) (H : Hp) (d : Addr) (fs : List (Str × Pay)) : Prop := ∃ vs, H d = some (.xd vs) ∧ A2 (Fv K H) vs fs
theorem XR.up {d : Addr} {fs : List (Str × Pay)} (h : XR K H d fs) (e : Same H H') : XR K H' d fs := let ⟨vs, h1, h2⟩ := h; ⟨vs, e _ _ h1, h2.imp fun _ _ z => ⟨z.1, Mono.up e z.2⟩⟩
theorem xr_get {fs : List (Str × Pay)} {vs : List (Str × V)} {f : Str} {p : Pay} (z : A2 (Fv K H) vs fs) (h : fs.lookup f = some p) : ∃ v, vs.lookup f = some v ∧ rPay K H v p := by
  induction z with
  | nil => cases h
  | @cons a b as bs h1 h2 ih =>
    obtain ⟨a1, a2⟩ := a
    obtain ⟨b1, b2⟩ := b
    obtain ⟨e1, e2⟩ := h1
    have e1 : a1 = b1 := e1
    subst e1
    rw [List.lookup_cons] at h ⊢
    cases q : f == a1 with
    | true =>
      rw [q] at h
      cases h
      exact ⟨a2, rfl, e2⟩
    | false =>
      rw [q] at h
      exact ih h
/-- what is wished of an exception that leaves -/
def XOk (K : PySem.W.Frag) (H0 : Hp) (E : XK) : Er → Prop
  | .stuck => False
  | .ex x fs => ∀ d H', Same H0 H' → H0 d = none → XR K H' d fs → E (.ref (cA K x)) (some d) H'
theorem XOk.up {E : XK} {e : Er} (h : XOk K H0 E e) (s : Same H0 H1) : XOk K H1 E e := match e, h with
  | .ex _ _, h => fun d H' s' n z => h d H' (s.trans s') (s.free n) z
theorem nstk_of {o : M α} {E : XK} (h : ∀ e, o = .error e → XOk K H0 E e) : NStk o := fun e => h _ e
/-- a def that may raise -/
def spX (A : Ra α) (q : Rp β) (m : α → M β) : Sp := fun vs H Q E => ∃ a, A H vs a ∧ NStk (m a) ∧ (∀ b, m a = .ok b → ∀ v H', Same H H' → q H' v b → Q v H') ∧
  ∀ x fs, m a = .error (.ex x fs) → ∀ d H', Same H H' → H d = none → XR K H' d fs → E (.ref (cA K x)) (some d) H'
def spXN (A : Ra α) (R : Rs K β) (m : α → M β) : Sp := fun vs H Q E => ∃ a, A H vs a ∧ NStk (m a) ∧ (∀ b, m a = .ok b → ∀ v H' as, Same H H' → (∀ p, p ∈ as → H p = none) → R.rep H' v b as → Q v H') ∧
  ∀ x fs, m a = .error (.ex x fs) → ∀ d H', Same H H' → H d = none → XR K H' d fs → E (.ref (cA K x)) (some d) H'
theorem nstk_ok {m : M α} {a : α} (h : m = .ok a) : NStk m := fun z => by rw [h] at z; cases z
theorem a_callX {A : Ra γ} {g : γ} {m : γ → M β} {b : β} {E' : XK} {t : TA} (h : EvA A t G g) (e : MOk m g b) : Ev q (tCall (spX (K := K) A q m) [] E' t) G b := fun H0 σ H E Q k =>
  h H0 σ H E _ fun vs H1 e1 z1 => by
    rw [List.append_nil]
    exact ⟨g, z1, nstk_ok e, fun c hc v H2 e2 z2 => k v H2 (e1.trans e2) (by rw [show m g = .ok b from e] at hc; cases hc; exact z2), fun x fs z => by rw [show m g = .ok b from e] at z; cases z⟩
theorem a_ncallX {A : Ra γ} {g : γ} {m : γ → M ρ} {b : ρ} {E' : XK} {t : TA} (h : EvA A t G g) (e : MOk m g b) : Nw R (tCall (spXN A R m) [] E' t) G b := fun H0 σ H E Q k =>
  h H0 σ H E _ fun vs H1 e1 z1 => by
    rw [List.append_nil]
    exact ⟨g, z1, nstk_ok e, fun c hc v H2 as e2 hn z2 => k v H2 as (e1.trans e2) (fun p hp => free_back e1 (hn p hp)) (by rw [show m g = .ok b from e] at hc; cases hc; exact z2), fun x fs z => by rw [show m g = .ok b from e] at z; cases z⟩
/-! ### calls that may raise, as statements; W tells what is wished at the slots -/
def WOk (H0 : Hp) (G : Cells K) (W : WX) (o : M α) : Prop := NStk o ∧ ∀ x fs, o = .error (.ex x fs) → ∀ σ H H', Have H0 G σ H → Same H H' → ∀ d, H d = none → XR K H' d fs → W (.ref (cA K x)) (some d) σ H'
theorem wok_E {E : XK} {o : M α} (h : ∀ e, o = .error e → XOk K H0 E e) : WOk H0 G (fun cls d _ H => E cls d H) o := ⟨nstk_of h, fun x fs e σ H H' ⟨H1, s, E1⟩ s' d n z => h _ e d H' ((s.trans E1.old).trans s') ((s.trans E1.old).free n) z⟩
theorem l_asgX {i : Nat} {W : WX} {A : Ra γ} {g : γ} {m : γ → M β} {t : TA} {o : M β} (h : EvA A t G g) (e : m g = o) (w : WOk H0 G W o) (k : ∀ b, o = .ok b → Nx H0 (G.set i (fc q b)) D.nx) (F : Frz K q := by infer_instance) :
    Sv H0 G (tAsg (tCallS (spX (K := K) A q m) (WE W) t) (gName i)) D := fun σ H ⟨H1, e1, E⟩ =>
  h H1 σ H E _ fun vs H2 e2 z => ⟨g, z, by rw [e]; exact w.1, fun b hb v H3 e3 hv => k b (e ▸ hb) _ _ ⟨H1, e1, (E.grow e2).put (R := fz K q) (as := []) e3 (fun _ z => nomatch z) ⟨rfl, stb hv⟩⟩,
    fun x fs he d H3 e3 hn hx => w.2 x fs (e ▸ he) σ H2 H3 ⟨H1, e1, E.grow e2⟩ e3 d hn hx⟩
theorem q_asgX {i : Nat} {W : WX} {A : Ra γ} {g : γ} {m : γ → M β} {t : TA} {o : M β} (h : EvA A t G g) (e : m g = o) (w : WOk H0 G W o) (k : ∀ b, o = .ok b → Sv H0 (G.set i (fc q b)) u D) (F : Frz K q := by infer_instance) :
    Sv H0 G (tSeq (tAsg (tCallS (spX (K := K) A q m) (WE W) t) (gName i)) u) D := l_asgX (D := { D with nx := u D }) h e w k
theorem l_asgXN {i : Nat} {W : WX} {A : Ra γ} {g : γ} {m : γ → M ρ} {t : TA} {o : M ρ} (h : EvA A t G g) (e : m g = o) (w : WOk H0 G W o) (k : ∀ b, o = .ok b → Nx H0 (G.set i (some (.ow R b))) D.nx) :
    Sv H0 G (tAsg (tCallS (spXN A R m) (WE W) t) (gName i)) D := fun σ H ⟨H1, e1, E⟩ =>
  h H1 σ H E _ fun vs H2 e2 z => ⟨g, z, by rw [e]; exact w.1, fun b hb v H3 as e3 hn hv => k b (e ▸ hb) _ _ ⟨H1, e1, (E.grow e2).put e3 hn hv⟩,
    fun x fs he d H3 e3 hn hx => w.2 x fs (e ▸ he) σ H2 H3 ⟨H1, e1, E.grow e2⟩ e3 d hn hx⟩
theorem q_asgXN {i : Nat} {W : WX} {A : Ra γ} {g : γ} {m : γ → M ρ} {t : TA} {o : M ρ} (h : EvA A t G g) (e : m g = o) (w : WOk H0 G W o) (k : ∀ b, o = .ok b → Sv H0 (G.set i (some (.ow R b))) u D) :
    Sv H0 G (tSeq (tAsg (tCallS (spXN A R m) (WE W) t) (gName i)) u) D := l_asgXN (D := { D with nx := u D }) h e w k
theorem l_dropX {W : WX} {A : Ra γ} {g : γ} {m : γ → M β} {t : TA} {o : M β} (h : EvA A t G g) (e : m g = o) (w : WOk H0 G W o) (k : ∀ b, o = .ok b → Nx H0 G D.nx) :
    Sv H0 G (tDrop (tCallS (spX (K := K) A q m) (WE W) t)) D := fun σ H ⟨H1, e1, E⟩ =>
  h H1 σ H E _ fun vs H2 e2 z => ⟨g, z, by rw [e]; exact w.1, fun b hb v H3 e3 hv => k b (e ▸ hb) _ _ ⟨H1, e1, (E.grow e2).grow e3⟩,
    fun x fs he d H3 e3 hn hx => w.2 x fs (e ▸ he) σ H2 H3 ⟨H1, e1, E.grow e2⟩ e3 d hn hx⟩
theorem q_dropX {W : WX} {A : Ra γ} {g : γ} {m : γ → M β} {t : TA} {o : M β} (h : EvA A t G g) (e : m g = o) (w : WOk H0 G W o) (k : ∀ b, o = .ok b → Sv H0 G u D) :
    Sv H0 G (tSeq (tDrop (tCallS (spX (K := K) A q m) (WE W) t)) u) D := l_dropX (D := { D with nx := u D }) h e w k
theorem r_retX {W : WX} {A : Ra γ} {g : γ} {m : γ → M β} {t : TA} {o : M β} (h : EvA A t G g) (e : m g = o) (w : WOk H0 G W o) (hD : ∀ b, o = .ok b → RtOk (fz K q) H0 b D) (F : Frz K q := by infer_instance) :
    Sv H0 G (tRet (tCallS (spX (K := K) A q m) (WE W) t)) D := fun σ H ⟨H1, e1, E⟩ =>
  h H1 σ H E _ fun vs H2 e2 z => ⟨g, z, by rw [e]; exact w.1, fun b hb v H3 e3 hv => hD b (e ▸ hb) v H3 ⟨[], ((e1.trans E.old).trans e2).trans e3, (fun p hp => nomatch hp), ⟨rfl, stb hv⟩⟩,
    fun x fs he d H3 e3 hn hx => w.2 x fs (e ▸ he) σ H2 H3 ⟨H1, e1, E.grow e2⟩ e3 d hn hx⟩
/-! ### raise -/
def tMkX (C : Addr) (f : Str) (ta : TA) : L2.St → Hp → XK → Prop := fun σ H Q => ta σ H fun vs H1 => ∃ v, vs = [v] ∧ ∀ d, H1 d = none → Q (.ref C) (some d) (upd H1 d (.xd [(f, v)]))
theorem l_raise {x f : Str} {p : Pay} {tv : TE} {W : WX} (h : Ev (rPay K) tv G p) (w : ∀ σ H H', Have H0 G σ H → Same H H' → ∀ d, H d = none → XR K H' d [(f, p)] → W (.ref (cA K x)) (some d) σ H') :
    Sv H0 G (fun _ σ H => tMkX (cA K x) f (tCons tv tNil) σ H fun cls d H' => W cls d σ H') D := fun σ H ⟨H1, e1, E⟩ =>
  h H1 σ H E _ fun v H2 e2 z => ⟨v, rfl, fun d hd => w σ H2 _ ⟨H1, e1, E.grow e2⟩ (same_new hd) d hd ⟨_, upd_same, .one ⟨rfl, Mono.up (same_new hd) z⟩⟩⟩
theorem q_raise {x f : Str} {p : Pay} {tv : TE} {W : WX} (h : Ev (rPay K) tv G p) (w : ∀ σ H H', Have H0 G σ H → Same H H' → ∀ d, H d = none → XR K H' d [(f, p)] → W (.ref (cA K x)) (some d) σ H') :
    Sv H0 G (tSeq (fun _ σ H => tMkX (cA K x) f (tCons tv tNil) σ H fun cls d H' => W cls d σ H') u) D := l_raise (D := { D with nx := u D }) h w
theorem w_of {E : XK} {x : Str} {fs : List (Str × Pay)} (h : XOk K H0 E (.ex x fs)) : ∀ σ H H', Have H0 G σ H → Same H H' → ∀ d, H d = none → XR K H' d fs → (fun cls d (_ : L2.St) H => E cls d H) (.ref (cA K x)) (some d) σ H' := fun σ H H' ⟨H1, s, E1⟩ s' d n z => h d H' ((s.trans E1.old).trans s') ((s.trans E1.old).free n) z
theorem ev_pS {s : Str} (h : Ev rS te G s) : Ev (rPay K) te G (.s (some s)) := h.imp fun _ _ z => z
theorem ev_pO {s : Option Str} (h : Ev (rO rS) te G s) : Ev (rPay K) te G (.s s) := h.imp fun _ _ z => z
theorem ev_pI {n : Int} (h : Ev rI te G n) : Ev (rPay K) te G (.i n) := h.imp fun _ _ z => z
theorem ev_pR {x : Rule} (h : Ev (rRu K) te G x) : Ev (rPay K) te G (.r x) := h.imp fun _ _ z => z
/-! ### loops -/
theorem l_forX {f : S → α → M S} {xs : List α} {s0 : S} {o : M S} {E : XK} (st : S → Cells K) (hm : mfor f s0 xs = o) (hw : Wk wi r G G' xs) (h0 : Sub G' (st s0))
    (hn : ∀ s, o = .ok s → Nx H0 (st s) D.nx) (hX : ∀ e, o = .error e → XOk K H0 E e)
    (body : ∀ H0' D', Same H0 H0' → ∀ x s o', f s x = o' → (∀ s', o' = .ok s' → Nx H0' (st s') D'.nx) → (∀ e, o' = .error e → XOk K H0' E e) → ∃ Gx, Tg g r x (st s) Gx ∧ Sv H0' Gx tb D') : Sv H0 G (tFor wi g tb) D :=
  l_forI st (fun pre s => ∀ ys, xs = pre ++ ys → mfor f s ys = o) s0 hw h0 (fun ys e => by rw [e] at hm; exact hm) (fun H0' e pre x post s hx hI => by
    have h1 : mb (f s x) (fun s' => mfor f s' post) = o := hI _ hx
    refine body H0' _ e x s (f s x) rfl (fun s' es => fun σ H hv => ⟨s', fun ys ey => ?_, hv⟩) fun er ee => (hX er (mbx_er h1 ee)).up e
    have key : ys = post := by
      have e3 := hx.symm.trans ey
      rw [List.append_assoc] at e3
      have := List.append_cancel_left e3
      injection this with _ this
      exact this.symm
    rw [key]
    have q := mbx_to h1 es
    exact q) fun s hs => hn s (by
      have := hs [] (by rw [List.append_nil])
      exact this.symm)
theorem q_forX {f : S → α → M S} {xs : List α} {s0 : S} {o : M S} {E : XK} (st : S → Cells K) (hm : mfor f s0 xs = o) (hw : Wk wi r G G' xs) (h0 : Sub G' (st s0))
    (hn : ∀ s, o = .ok s → Sv H0 (st s) u D) (hX : ∀ e, o = .error e → XOk K H0 E e)
    (body : ∀ H0' D', Same H0 H0' → ∀ x s o', f s x = o' → (∀ s', o' = .ok s' → Nx H0' (st s') D'.nx) → (∀ e, o' = .error e → XOk K H0' E e) → ∃ Gx, Tg g r x (st s) Gx ∧ Sv H0' Gx tb D') : Sv H0 G (tSeq (tFor wi g tb) u) D := l_forX (D := { D with nx := u D }) st hm hw h0 hn hX body
/-! ### try -/
theorem Have.unset {i : Nat} (h : Have H0 G σ H) : Have H0 (G.set i none) (σ.set i none) H := by
  obtain ⟨H1, e, E⟩ := h
  obtain ⟨own, h1, h2, h3⟩ := E.at_
  refine ⟨H1, e, E.old, by rw [List.length_set, List.length_set]; exact E.len, own, h1, h2, fun j c hc => ?_⟩
  by_cases hj : i = j
  · subst hj
    by_cases hl : i < G.length
    · rw [List.getElem?_set_self hl] at hc; cases hc
    · rw [List.getElem?_eq_none (by rw [List.length_set]; omega)] at hc; cases hc
  · rw [List.getElem?_set_ne hj] at hc
    obtain ⟨v, hv, hk⟩ := h3 j c hc
    exact ⟨v, by rw [List.getElem?_set_ne hj]; exact hv, hk⟩
/-- the caught exception, at a, its own dict d -/
def rExc (K : PySem.W.Frag) (a d : Addr) : Rp (List (Str × Pay)) := fun H v fs => v = .ref a ∧ XR K H d fs
instance {a d : Addr} : Mono (rExc K a d) := ⟨fun e h => ⟨h.1, h.2.up e⟩⟩
theorem Env.setro {i : Nat} {v : V} {b : β} {r : Rp β} [m : Mono r] (E : Env H1 σ H G) (h : r H1 v b) : Env H1 (σ.set i (some v)) H (G.set i (rc r b)) := by
  obtain ⟨own, h1, h2, h3⟩ := E.at_
  refine ⟨E.old, by rw [List.length_set, List.length_set]; exact E.len, fun j => if j = i then [] else own j, fun j p hp => ?_, fun j k p hj hk => ?_, fun j c hc => ?_⟩
  · by_cases hj : j = i
    · simp only [hj, if_true] at hp; cases hp
    · simp only [hj, if_false] at hp; exact h1 j p hp
  · by_cases hji : j = i
    · simp only [hji, if_true] at hj; cases hj
    · by_cases hki : k = i
      · simp only [hki, if_true] at hk; cases hk
      · simp only [hji, hki, if_false] at hj hk; exact h2 j k p hj hk
  · by_cases hj : i = j
    · subst hj
      have hl : i < G.length := by have := (List.getElem?_eq_some_iff.mp hc).1; rw [List.length_set] at this; exact this
      rw [List.getElem?_set_self hl] at hc
      cases hc
      exact ⟨v, List.getElem?_set_self (by rw [E.len]; exact hl), by simp, h⟩
    · rw [List.getElem?_set_ne hj] at hc
      obtain ⟨w, hw, hk⟩ := h3 j c hc
      refine ⟨w, by rw [List.getElem?_set_ne hj]; exact hw, ?_⟩
      have : ¬ j = i := fun e => hj e.symm
      simp only [this, if_false]
      exact hk
/-- the clause's suite: the exception stands in slot i, its fields are told -/
theorem catch_in {i : Nat} {a d : Addr} {fs : List (Str × Pay)} (h : Have H0 G σ H) (s : Same H H') (n : H d = none) (z : XR K H' d fs) :
    ∃ H2, Same H0 H2 ∧ Have H2 (G.set i (rc (rExc K a d) fs)) (σ.set i (some (.ref a))) H' := by
  obtain ⟨H1, e, E⟩ := h
  obtain ⟨H2, s1, s2, xt, E2, ho⟩ := E.rebase s
  obtain ⟨vs, hd, hz⟩ := z
  exact ⟨H2, e.trans s1, H2, Same.refl _, E2.setro (r := rExc K a d) ⟨rfl, vs, ho _ _ n hd, hz.imp fun _ _ w => ⟨w.1, Frz.up xt w.2⟩⟩⟩
/-- what the suite ends in, behind which its name goes -/
abbrev exEnds (i : Nat) (D : Ends) : Ends := { nx := fun σ' H' => D.nx (σ'.set i none) H', rt := D.rt, bk := fun σ' H' => D.bk (σ'.set i none) H', ct := fun σ' H' => D.ct (σ'.set i none) H' }
theorem nx_exEnds {i : Nat} (h : Nx H0 (G.set i none) D.nx) : Nx H0 G (exEnds i D).nx := fun σ H z => h _ H z.unset
/-- try: x = f(..) except C as e: suite; the suite for an exception of the class x alone -/
theorem wok_try {i : Nat} {x : Str} {c : Value} {ts : Addr → Value → Option Addr → TS} {Wout : WX} {o : M α} (n : NStk o) (cl : ∀ y fs, o = .error (.ex y fs) → PySem.W.exmOne K (.ref (cA K y)) c = some true)
    (k : ∀ y fs, o = .error (.ex y fs) → ∀ H2 a d, Same H0 H2 → Sv H2 (G.set i (rc (rExc K a d) fs)) (ts a (.ref (cA K y)) (some d)) (exEnds i D)) : WOk H0 G (wAs K c i ts Wout D) o := by
  refine ⟨n, fun y fs e σ H H' hv s d nd z => ⟨true, cl y fs e, fun _ a _ => ?_, fun q => nomatch q⟩⟩
  obtain ⟨H2, s2, hv2⟩ := catch_in (i := i) (a := a) hv s nd z
  exact k y fs e H2 a d s2 _ _ hv2
/-- e.f -/
def payS (fs : List (Str × Pay)) (f : Str) : Option Str := match fs.lookup f with
  | some (.s (some s)) => some s
  | _ => none
def payO (fs : List (Str × Pay)) (f : Str) : Option (Option Str) := match fs.lookup f with
  | some (.s s) => some s
  | _ => none
def payI (fs : List (Str × Pay)) (f : Str) : Option Int := match fs.lookup f with
  | some (.i n) => some n
  | _ => none
theorem a_xf {i : Nat} {a d C : Addr} {m : Mono (rExc K a d)} {fs : List (Str × Pay)} {f : Str} {p : Pay} (h : G[i]? = some (some (.ro (rExc K a d) m fs))) (hf : fs.lookup f = some p) : Ev (rPay K) (tXf a (.ref C) (some d) C f (tVar i)) G p := fun H0 σ H E Q k => by
  obtain ⟨own, _, _, h3⟩ := E.at_
  obtain ⟨v, hv, _, ev, vs, hd, z⟩ := h3 i _ h
  subst ev
  obtain ⟨w, hw, hp⟩ := xr_get z hf
  exact ⟨_, hv, rfl, rfl, d, vs, w, rfl, E.old _ _ hd, hw, k w H (Same.refl H) (Mono.up E.old hp)⟩
def PayS (fs : List (Str × Pay)) (f : Str) (s : Str) : Prop := payS fs f = some s
def PayO (fs : List (Str × Pay)) (f : Str) (s : Option Str) : Prop := payO fs f = some s
def PayI (fs : List (Str × Pay)) (f : Str) (s : Int) : Prop := payI fs f = some s
theorem a_xfS {i : Nat} {a d C : Addr} {m : Mono (rExc K a d)} {fs : List (Str × Pay)} {f s : Str} (h : G[i]? = some (some (.ro (rExc K a d) m fs))) (hf : PayS fs f s) : Ev rS (tXf a (.ref C) (some d) C f (tVar i)) G s := by
  unfold PayS payS at hf
  split at hf
  · rename_i t e
    cases hf
    exact (a_xf h e).imp fun _ _ z => z
  · cases hf
theorem a_xfO {i : Nat} {a d C : Addr} {m : Mono (rExc K a d)} {fs : List (Str × Pay)} {f : Str} {s : Option Str} (h : G[i]? = some (some (.ro (rExc K a d) m fs))) (hf : PayO fs f s) : Ev (rO rS) (tXf a (.ref C) (some d) C f (tVar i)) G s := by
  unfold PayO payO at hf
  split at hf
  · rename_i t e
    cases hf
    exact (a_xf h e).imp fun _ _ z => z
  · cases hf
theorem a_xfI {i : Nat} {a d C : Addr} {m : Mono (rExc K a d)} {fs : List (Str × Pay)} {f : Str} {s : Int} (h : G[i]? = some (some (.ro (rExc K a d) m fs))) (hf : PayI fs f s) : Ev rI (tXf a (.ref C) (some d) C f (tVar i)) G s := by
  unfold PayI payI at hf
  split at hf
  · rename_i t e
    cases hf
    exact (a_xf h e).imp fun _ _ z => z
  · cases hf
end
/-! ### the rules of raise and of calls, by short names -/
section
variable {X : Cx} {x : Str} {k : Nat} {ps : List Str} {sp : Sp} {p pos : Pos} {e : Expr} {es : List Expr} {ta : TA} {W : WX}
/-- the exception classes, by name -/
structure ExcK (prog : Program) (K : PySem.W.Frag) (mg : Str → Option Value) (x fld : Str) : Prop where
  ex : ∃ fI, ExcT prog K mg x fld (cA K x) fI
theorem pmk_ex {fld : Str} (T : ExcK X.prog X.K X.mg x fld) (hr : Room k X.A) (ha : PA X [e] ta) (hg : Gl X x := by rfl) (hdb : (x == ("__debug__" : Str)) = false := by decide)
    (he : starEach (e :: []) X.env = (false, eval e X.env) :: starEach [] X.env := by rfl) (hpl : (backTo pos (starEach [] X.env)).any (·.1) = false := by rfl) : PMk X (.Call (.Name x p) [e] [] pos) (tMkX (cA X.K x) fld ta) := by
  obtain ⟨fI, T⟩ := T.ex
  intro pins s σ H Q I h
  refine wpAny_Call_Name_kw (ld_glob I hg T.gC ?_ hdb)
  refine PySem.W.callWith_K (h₀ := X.base) I.ok.mod.kin T.kC (thn (ha.run pos pins s σ H _ I h) fun us s1 hh => ?_) he hpl
  obtain ⟨vs, H1, I1, r1, v, ev, q1⟩ := hh
  subst ev
  refine ⟨I1.kIn, ?_⟩
  obtain ⟨u, rfl, rv⟩ := r1.one
  show wpAny _ _ (call (.ref (cA X.K x)) [u]) _ _ _
  have hlim := I1.nolimit
  have G1 : Grd X.mg s1.heap := ⟨I1.ok.mod.glob.keeps I1.bk, let ⟨mb, z1, z2⟩ := I1.ok.mod.blt; ⟨mb, z1.keeps I1.bk, z2⟩⟩
  obtain ⟨hp, g, d, t, os⟩ := s1
  refine wpAny_call (xmade T I1.kIn hlim G1 (by have := hr.dp; omega) fun h' tk' e d' M => ?_)
  show MkP X pins σ Q (.ref e) ⟨h', g, d, tk', os⟩
  obtain ⟨oe, fv, hoe, hc, hd, hdat, h1⟩ := M.obj
  obtain ⟨G', g1, g2⟩ := restrict h' fun b => decide (b ≠ e)
  have gk : ∀ b, b ≠ e → G'.get? b = h'.get? b := fun b hb => g1 b (decide_eq_true hb)
  have ge : G'.get? e = none := g2 e (by simp)
  have ne_ : ∀ {b : Addr} {o : Obj}, hp.get? b = some o → b ≠ e := fun q => Nat.ne_of_lt (Nat.lt_of_lt_of_le (Heap.lt_size q) M.new)
  have old : ∀ b o, hp.get? b = some o → G'.get? b = some o := fun b o q => (gk b (ne_ q)).trans (M.keep b o q)
  have ob : ObjOk X.prog X.w (upd H1 d' (.xd [(fld, v)])) G' d' (.xd [(fld, v)]) := ⟨_, M.ns.at (fun o q => (gk d' M.dne).trans q), fun f => by
    by_cases hw : f = fld
    · subst hw
      rw [if_pos rfl, List.lookup_cons, beq_self_eq_true]
      exact rv
    · rw [if_neg hw, List.lookup_cons, show (f == fld) = false from by simpa using hw]
      trivial⟩
  have J : L2.Inv X pins σ (upd H1 d' (.xd [(fld, v)])) ⟨G', g, d, tk', os⟩ := I1.laid (t' := tk') old M.dbig ob
  refine ⟨e, oe, fv, ⟨G', g, d, tk', os⟩, _, .ref (cA X.K x), some d', rfl, J, fun b o q => ?_, ge, hoe, ⟨hc, hd⟩, hdat, h1, ?_, rfl, I1.bare, raises_own T.exC T.tyC, q1 d' (I1.hok.fresh M.dbig)⟩
  · by_cases hb : b = e
    · have q' : G'.get? b = some o := q
      rw [hb, ge] at q'
      cases q'
    · exact (gk b hb).symm.trans q
  · rw [upd_ne (Ne.symm M.dne)]
    exact I1.hok.fresh M.new
theorem pe_fnS (C : Cal X.prog X.w X.K X.mg X.base (L2.CX X.prog X.w) x k ps sp) (hr : Room k X.A) (tk : Takes X W) (ha : PA X (e :: es) ta) (hg : Gl X x := by rfl) (hdb : (x == ("__debug__" : Str)) = false := by decide)
    (he : starEach (e :: es) X.env = (false, eval e X.env) :: starEach es X.env := by rfl) (hpl : (backTo pos (starEach es X.env)).any (·.1) = false := by rfl) : PE X (.Call (.Name x p) (e :: es) [] pos) (tCallS sp (WE W) ta) := by
  obtain ⟨f, fd, F, m, kp, b⟩ := C.ex
  exact pe_callS F hr hg m kp b (fun σ => passAt tk σ) ha hdb he hpl
/-- in a def that lets nothing out -/
theorem pe_fnX (C : Cal X.prog X.w X.K X.mg X.base (L2.CX X.prog X.w) x k ps sp) (hr : Room k X.A) (ha : PA X (e :: es) ta) (hg : Gl X x := by rfl) (hdb : (x == ("__debug__" : Str)) = false := by decide)
    (he : starEach (e :: es) X.env = (false, eval e X.env) :: starEach es X.env := by rfl) (hpl : (backTo pos (starEach es X.env)).any (·.1) = false := by rfl) : PE X (.Call (.Name x p) (e :: es) [] pos) (tCall sp [] E0 ta) := by
  obtain ⟨f, fd, F, m, kp, b⟩ := C.ex
  exact pe_call F hr hg m kp b .nil passL ha hdb he hpl
end
section
variable {P : Program} {w : World} {K : PySem.W.Frag} {mg : Str → Option Value} {base : Heap}
/-- a def that may raise -/
theorem calX_of {x : Str} {st : Stmt} {N ps : List Str} {k : Nat} {sp : Sp} (F : Df K mg x st) (S : FnScope N ps (defScope st)) (len : ∀ vs H Q E, sp vs H Q E → vs.length = ps.length)
    (hb : ∀ (kV doc pm : Value) (an : Option Addr) (cdv ct : Value) (us : List Value), us.length = ps.length → bindArgs (PySem.W.fnOf x x (defArgs st) (defBody st) (defScope st) .none kV doc pm an cdv ct) ⟨us, []⟩ = pure (ps.zip us))
    (hbody : ∀ (cdv : Value) (f : Addr) (A : Around) (outer : List PySem.Env) (s : Shared) (H : Hp) (vs : List V) (Q : VK) (E : XK), Room k (A.deeper (envOfC x (defScope st) s.heap.objs.size f cdv)) → sp vs H Q E →
      ∃ t, PSs (cxOf (L2.CX P w) P w K mg base N x (defScope st) f cdv A outer s H E) (defBody st) t ∧ t { nx := fun _ H' => Q .non H', rt := Q } (start N vs) H) : Cal P w K mg base (L2.CX P w) x (k + 1) ps sp := by
  obtain ⟨f, fd, F, g⟩ := F.ex
  exact ⟨f, fd, F.okX S len (fun cdv A outer s H vs Q E hr h => hbody cdv f A outer s H vs Q E hr h), g, F.kp, F.binds hb⟩
end
end Gt
/-! Gt20: try with mirrors, isinstance of a caught own exception. -/
namespace PySem.W
open PySem PySem.Spec PySem.Calls PyProof.Rows
section
variable {prog : Program} {w : World} {A : Around} {E : Value → Shared → Prop} {s : Shared} {K : Frag} {x D : Addr} {ox : Obj} {od : Option Obj}
theorem gx_find {C : Addr} {n : Str} {a g : Value} (h1 : (clsIn K C).isSome = true) (h2 : findIn K (.ref C) n = some (some a)) (h3 : specialIn K a "__get__" = some (some g)) (h4 : takesIn K a = some true) : findObj K C od n = some (.bind g a) := by
  obtain ⟨cd, q⟩ := Option.isSome_iff_exists.mp h1
  unfold findObj; rw [q, Option.bind_some, h2, Option.bind_some]; simp [h3, h4]
theorem gx_class {Q : Option Value → Shared → Prop} (h1 : findIn K (.ref D) "__getattribute__" = some (some (.builtin "BaseException.__getattribute__"))) (h2 : findIn K (.ref D) "__getattr__" = some none) (h3 : subIn K (.ref D) (.type "BaseException") = some true)
    (h4 : hasDictIn K D = true) (h5 : findIn K (.ref D) "__class__" = some (some (.builtin "object.__class__"))) (h6 : specialIn K (.builtin "object.__class__") "__get__" = some (some (.builtin "getset_descriptor.__get__")))
    (h7 : takesIn K (.builtin "object.__class__") = some true) (h8 : mroIn K D (.type "object") = some true) (X : K.In s.heap) (I : InstAt s.heap x ox D od) (fin : Q (some (.ref D)) { s with toks := s.toks + 1 }) : wpAny (model prog w) A (getAttr? (.ref x) "__class__") Q E s := by
  have fo : findObj K D od "__class__" = some (.bind (.builtin "getset_descriptor.__get__") (.builtin "object.__class__")) := gx_find (by obtain ⟨cd, hc, _⟩ := any_some h4; rw [hc]; rfl) h5 h6 h7
  obtain ⟨hp, g, d, t, os⟩ := s
  have Lt := I.type (M := model prog w); have La := looks_findIn (M := model prog w) X h1; have Lb := looks_findIn (M := model prog w) X h2; have Lc := looks_find (M := model prog w) X I fo
  have sb : Looks (model prog w) hp (isInstance (.ref x) (.type "BaseException")) true := Lt.andThen (looks_subIn X h3)
  have z2 : (Value.builtin "BaseException.__getattribute__" == Value.builtin "object.__getattribute__") = false := by decide +kernel
  have z1 : (onTheHeap (Value.ref D) && Value.builtin "BaseException.__getattribute__" == Value.builtin "object.__getattribute__") = false := by rw [z2]; rfl
  unfold getAttr? getAttrBy? getAttrBy; refine wpAny_bind (wpAny_mkText (wpAny_bind (wpAny_attempt (wpAny_holding (wpAny_bind (Lt.at (wpAny_bind (La.at ?_))))))))
  show wpAny _ _ (if (onTheHeap (Value.ref D) && Value.builtin "BaseException.__getattribute__" == Value.builtin "object.__getattribute__") = true then _ else _) _ _ _; rw [z1, if_neg Bool.false_ne_true]
  unfold getAttrByItsOwn hookBefore; refine wpAny_bind ?_; rw [if_pos (show onTheHeap (Value.ref D) = true from rfl)]
  refine Lb.at (wpAny_bind (wpAny_attempt (wpAny_holding ?_))); unfold callGetattribute; rw [show (false && onTheHeap (Value.builtin "BaseException.__getattribute__")) = false from rfl, if_neg Bool.false_ne_true]
  unfold boundAndCalled; rw [PySem.F.excAttr_ValueError.ga.bind (.ref x)]; refine wpAny_bind (wpAny_pure ?_); show wpAny _ _ (call (.builtin "BaseException.__getattribute__") [.ref x, .str "__class__" t]) _ _ _
  refine wpAny_call (codeAny_call_builtin PySem.F.excAttr_ValueError.ga.plain PySem.F.entry_bexc_ga (@check_slot (model prog w) _ _ ⟨hp, g, d, t + 1, os⟩ "BaseException.__getattribute__" "BaseException" "__getattribute__" (.ref x) [.str "__class__" t] [] _ (by decide +kernel) (by decide +kernel) sb (PySem.F.args_bexc_ga (.ref x) (.str "__class__" t)) ?_))
  unfold Builtin.«object.__getattribute__»; refine wpAny_bind (wpAny_of_eq (a := ((Value.ref x : Value), [Value.str "__class__" t])) (by first | rfl | (simp only [slotArgs]; rfl)) (wpAny_bind (wpAny_pure (wpAny_bind (Lt.at (wpAny_bind (Lc.at ?_)))))))
  show wpAny _ _ (holding [Value.builtin "object.__class__"] (call (.builtin "getset_descriptor.__get__") [.builtin "object.__class__", .ref x, .ref D]) >>= ret) _ _ _; refine wpAny_bind (wpAny_holding (wpAny_call (class_get (s := ⟨hp, g, d, t + 1, os⟩) (ox := ox) (od := od) X I h8 (wpAny_pure ?_))))
  show wpAny _ _ (handedOut (.ref D)) _ _ _; rw [handedOut_of (v := .ref D) rfl]
  first | exact wpAny_pure (wpAny_pure fin) | exact wpAny_pure fin | exact wpAny_pure (wpAny_bind (wpAny_pure (wpAny_pure fin)))
theorem gx_kit (h1 : findIn K (.ref D) "__getattribute__" = some (some (.builtin "BaseException.__getattribute__"))) (h2 : findIn K (.ref D) "__getattr__" = some none) (h3 : subIn K (.ref D) (.type "BaseException") = some true) (h4 : hasDictIn K D = true) (h5 : findIn K (.ref D) "__class__" = some (some (.builtin "object.__class__")))
    (h6 : specialIn K (.builtin "object.__class__") "__get__" = some (some (.builtin "getset_descriptor.__get__"))) (h7 : takesIn K (.builtin "object.__class__") = some true) (h8 : mroIn K D (.type "object") = some true) : KitX K (.ref x) (.ref D) (fun h => ∃ od, InstAt h x ox D od) where
  ty := fun _ _ _ ⟨_, I⟩ => I.type
  it := fun _ _ X _ => by
    obtain ⟨c1, q1, _⟩ := any_some h4; unfold clsIn at q1; split at q1
    · rename_i c' d' cd' sl' ho; intro A' Q' E' s' k q; unfold isType loadHead; exact wpAny_bind (wpAny_loadPart (k _ _ (X _ _ ho)) (wpAny_pure q))
    · cases q1
  ne := fun h tp dd its n sl X htp => by
    obtain ⟨c1, q1, _⟩ := any_some h4; refine Bool.eq_false_iff.mpr fun q => ?_; have e : D = tp := Value.ref.inj (beq_iff_eq.mp q); subst e; unfold clsIn at q1; split at q1
    · rename_i c' d' cd' sl' ho; have z := (X _ _ ho).symm.trans htp; cases z
    · cases q1
  ca := fun X ⟨_, I⟩ k => gx_class h1 h2 h3 h4 h5 h6 h7 h8 X I k
end
end PySem.W
namespace Gt
open PySem PySem.Spec PyProof.Rows L2 PySem.HandSPX
/-- isinstance of an exception of the class x asks the class value cv (v): b -/
structure IsX (K : PySem.W.Frag) (x : Str) (v : V) (b : Bool) : Prop where
  c : ExcC K (cA K x)
  k : ∃ cv, (∀ u, RelV v u → u = cv) ∧ PySem.W.kitOne K (.ref (cA K x)) cv = some b
def rIsX (K : PySem.W.Frag) (a : Addr) (cls : Value) (d : Option Addr) : List V → Hp → VK → Prop := fun xs H Q => ∃ (x : Str) (v : V) (b : Bool) (dd : Addr) (fs : List (Str × V)), cls = .ref (cA K x) ∧ xs = [.ref a, v] ∧ IsX K x v b ∧ d = some dd ∧ H dd = some (.xd fs) ∧ Q (.bl b) H
theorem call_isX {X : Cx} {a : Addr} {cls : Value} {d : Option Addr} {oe : Obj} {pn : List (Addr × Obj)} (hz : Zc cls d oe) (hf : ∃ vs, oe.data = .fields vs) : CallR (X.suite a ((a, oe) :: pn)) (.builtin "isinstance") (rIsX X.K a cls d) := by
  intro pins s σ H xs us Q I r h
  obtain ⟨x, v, b, dd, fs, ec, rfl, ⟨C, cv, hcv, e⟩, ed, hd, q⟩ := h
  subst ec; subst ed
  cases r with
  | cons rx rr =>
    cases rr with
    | cons rt rr =>
    cases rr
    cases rx
    have eu := hcv _ rt
    subst eu
    obtain ⟨hget, _⟩ := I.pin (a, oe) (List.mem_append.mpr (.inl List.mem_cons_self))
    obtain ⟨vs, hv⟩ := hf
    have hx : ObjOk X.prog X.w H s.heap dd (.xd fs) := I.hok dd _ hd
    obtain ⟨mA, hns, hr⟩ := hx
    obtain ⟨od, ho, hl⟩ := lookIn_ns hns
    have J : PySem.W.InstAt s.heap a oe (cA X.K x) (some od) := ⟨hget, hz.1, by unfold PySem.W.notCls; rw [hv] <;> rfl, by rw [hz.2]; exact ho⟩
    exact PySem.W.kia_one (PySem.W.gx_kit C.hg C.hk C.hs C.hd C.ha C.hn C.ht C.hm) I.kIn ⟨_, J⟩ e (fun z => nomatch z) fun tk => ⟨.bl b, H, I.kept (t' := tk) fun _ _ z => z, rfl, q⟩
theorem k_isX {X : Cx} (K : PySem.W.Frag) {a : Addr} {cls : Value} {d : Option Addr} {oe : Obj} {pn : List (Addr × Obj)} (hz : Zc cls d oe) (hf : ∃ vs, oe.data = .fields vs) (h : X.K = K := by rfl) : CallR (X.suite a ((a, oe) :: pn)) (.builtin "isinstance") (rIsX K a cls d) := by subst h; exact call_isX hz hf
theorem pe_xfK {X : Cx} (K : PySem.W.Frag) {a C : Addr} {oe : Obj} {cls : Value} {d : Option Addr} {pn : List (Addr × Obj)} {e : Expr} {te : TE} {pos : Pos} {n : Str} (T : XfC X.K C) (hno : PySem.W.findIn X.K (.ref C) n = some none)
    (hz : Zc cls d oe) (hf : ∃ vs, oe.data = .fields vs) (he : PE (X.suite a ((a, oe) :: pn)) e te) (hb : attributeBase e n X.env (eval e X.env) = eval e X.env := by rfl) : PE (X.suite a ((a, oe) :: pn)) (.Attribute e n pos) (tXf a cls d C n te) := pe_xf T hno hz hf he hb
section
variable {K : PySem.W.Frag} {H0 H1 H H' : Hp} {σ : L2.St} {G G' G2 Gx : Cells K} {α β γ S T ρ : Type}
variable {D : Ends} {t u tb : TS} {te ta tc : TE} {r : Rp α} {q : Rp β} {R : Rs K ρ} {b : Bool}
theorem a_isX {i : Nat} {a d : Addr} {m : Mono (rExc K a d)} {fs : List (Str × Pay)} {x : Str} {v : V} (h : G[i]? = some (some (.ro (rExc K a d) m fs))) (I : IsX K x v b) : Ev rB (tCB (rIsX K a (.ref (cA K x)) (some d)) (tCons (tVar i) (tCons (tC v) tNil))) G b := fun H0 σ H E Q k => by
  obtain ⟨own, _, _, h3⟩ := E.at_
  obtain ⟨w, hw, _, ev, vs, hd, z⟩ := h3 i _ h
  subst ev
  exact ⟨_, hw, x, v, b, d, vs, rfl, rfl, I, rfl, E.old _ _ hd, k _ H (Same.refl H) rfl⟩
theorem q_joinX {m : M S} (st : S → Cells K) (hn : ∀ s, m = .ok s → Sv H0 (st s) u D) (k : (∀ s, m = .ok s → Nx H0 (st s) (u D)) → Sv H0 G (tSeq t u) D) : Sv H0 G (tSeq t u) D := k hn
def mtry (m : M α) (c : Str) (f : α → M β) (g : List (Str × Pay) → M β) : M β := match m with
  | .ok a => f a
  | .error .stuck => .error .stuck
  | .error (.ex x fs) => if x = c then g fs else .error .stuck
theorem mtry_ns {m : M α} {c : Str} {f : α → M β} {g : List (Str × Pay) → M β} {o : M β} (h : mtry m c f g = o) (n : NStk o) : NStk m := fun e => by rw [e] at h; exact n h.symm
theorem mtry_to {m : M α} {c : Str} {f : α → M β} {g : List (Str × Pay) → M β} {o : M β} {a : α} (h : mtry m c f g = o) (e : m = .ok a) : f a = o := by rw [e] at h; exact h
theorem mtry_cl {m : M α} {c : Str} {f : α → M β} {g : List (Str × Pay) → M β} {o : M β} {x : Str} {fs : List (Str × Pay)} (h : mtry m c f g = o) (n : NStk o) (e : m = .error (.ex x fs)) : x = c ∧ g fs = o := by
  rw [e] at h
  have h : (if x = c then g fs else .error .stuck) = o := h
  by_cases q : x = c
  · rw [if_pos q] at h; exact ⟨q, h⟩
  · rw [if_neg q] at h; exact absurd h.symm n
theorem ok_ns {a : α} : NStk (.ok a : M α) := fun z => nomatch z
theorem q_try {i : Nat} {c : Value} {ts : Addr → Value → Option Addr → TS} {Wout : WX} {tb : WX → TS} (k : Sv H0 G (tb (wAs K c i ts Wout { D with nx := u D })) { D with nx := u D }) : Sv H0 G (tSeq (fun D σ H => tb (wAs K c i ts Wout D) D σ H) u) D := k
theorem l_try {i : Nat} {c : Value} {ts : Addr → Value → Option Addr → TS} {Wout : WX} {tb : WX → TS} (k : Sv H0 G (tb (wAs K c i ts Wout D)) D) : Sv H0 G (fun D σ H => tb (wAs K c i ts Wout D) D σ H) D := k
/-- the suite of a clause, the exception's class being the clause's -/
theorem wok_clause {i : Nat} {x : Str} {ts : Addr → Value → Option Addr → TS} {Wout : WX} {m : M α} {f : α → M β} {g : List (Str × Pay) → M β} {o : M β} (h : mtry m x f g = o) (n : NStk o) (cl : PySem.W.exmOne K (.ref (cA K x)) (.ref (cA K x)) = some true)
    (k : ∀ fs, g fs = o → ∀ H2 a d, Same H0 H2 → Sv H2 (G.set i (rc (rExc K a d) fs)) (ts a (.ref (cA K x)) (some d)) (exEnds i D)) : WOk H0 G (wAs K (.ref (cA K x)) i ts Wout D) m :=
  wok_try (x := x) (mtry_ns h n) (fun y fs e => by obtain ⟨q, _⟩ := mtry_cl h n e; rw [q]; exact cl) fun y fs e H2 a d s => by
    obtain ⟨q, hg⟩ := mtry_cl h n e
    subst q
    exact k fs hg H2 a d s
end
end Gt
/-! Gt21: objects that change: self.f = e at the end of a method, o[k] = v, o op= v, a second name. -/
namespace Gt
open PySem PySem.Spec PyProof.Rows L2
/-- the instance at a -/
def rOneA (K : PySem.W.Frag) (C : Addr) (f : Str) {β : Type} (r : Rp β) (p : Addr) : Rp (List β) := fun H v xs => v = .ref p ∧ rOne K C f r H v xs
instance {K : PySem.W.Frag} {C p : Addr} {f : Str} {β : Type} {r : Rp β} [M : Mono r] : Mono (rOneA K C f r p) := ⟨fun e h => ⟨h.1, Mono.up e h.2⟩⟩
def nOneA (K : PySem.W.Frag) (C : Addr) (f : Str) {β : Type} (r : Rp β) (p : Addr) : Rs K (List β) where
  rep := fun H v xs as => v = .ref p ∧ (nOne K C f r).rep H v xs as
  stay := fun h x k => ⟨h.1, (nOne K C f r).stay h.2 x k⟩
  there := fun h p hp => (nOne K C f r).there h.2 p hp
/-- what a change of the field f of the instance at p leaves -/
def MutR (K : PySem.W.Frag) (C : Addr) (f : Str) {β : Type} (r : Rp β) (H : Hp) (p : Addr) (b : List β) (H' : Hp) : Prop := ∃ dx l l' us', H p = some (.ins C dx [(f, .ref l)]) ∧ (∀ c o, c ≠ p → H c = some o → H' c = some o) ∧ H l' = none ∧ p ≠ l' ∧
  H' p = some (.ins C dx [(f, .ref l')]) ∧ H' l' = some (.lst us') ∧ A2 (Stb K r H') us' b ∧ b.length ≤ 100000
def spMut (K : PySem.W.Frag) (C : Addr) (f : Str) {β : Type} (r : Rp β) {α : Type} (A : Ra α) (m : List β → α → M (List β)) (rv : Addr → V) : Sp := fun vs H Q _ => ∃ p ws xs a b, vs = .ref p :: ws ∧ rOne K C f r H (.ref p) xs ∧ A H ws a ∧ m xs a = .ok b ∧ b.length ≤ 100000 ∧
  ∀ H', MutR K C f r H p b H' → Q (rv p) H'
theorem spMut_len {K : PySem.W.Frag} {C : Addr} {f : Str} {α β : Type} {r : Rp β} {A : Ra α} {m : List β → α → M (List β)} {rv : Addr → V} {n : Nat} [L : LenA A n] {vs : List V} {H : Hp} {Q : VK} {E : XK} (h : spMut K C f r A m rv vs H Q E) : vs.length = n + 1 := by
  obtain ⟨p, ws, xs, a, b, rfl, _, hA, _⟩ := h
  rw [List.length_cons, L.len hA]
section
variable {K : PySem.W.Frag} {H0 H1 H H' : Hp} {σ : L2.St} {G G' G2 Gx : Cells K} {α β γ S T ρ : Type}
variable {D : Ends} {t u tb : TS} {te ta ti tc : TE} {r : Rp β} {C p : Addr} {f : Str} {xs b : List β}
theorem a_roA {i : Nat} {M : Mono (rOneA K C f r p)} (h : G[i]? = some (some (.ro (rOneA K C f r p) M xs))) : Ev (rOne K C f r) (tVar i) G xs := (a_ro h).imp fun _ _ z => z.2
theorem a_oneA {i : Nat} (h : G[i]? = some (some (.ow (nOneA K C f r p) xs))) : Ev (rOne K C f r) (tVar i) G xs := fun H0 σ H E Q k => by
  obtain ⟨own, _, _, h3⟩ := E.at_
  obtain ⟨v, hv, _, ⟨a, dx, l, vs, _, ev, _, h1, h2, z⟩, hz⟩ := h3 i _ h
  exact ⟨v, hv, k v H (Same.refl H) ⟨⟨a, dx, l, vs, ev, h1, h2, nows z⟩, hz⟩⟩
/-- a new one where one is read -/
theorem a_no (h : Nw (nOne K C f r) te G xs) : Ev (rOne K C f r) te G xs := fun H0 σ H E Q k => h H0 σ H E Q fun v H' as e hn ⟨⟨a, dx, l, vs, _, ev, _, h1, h2, z⟩, hz⟩ => k v H' e ⟨⟨a, dx, l, vs, ev, h1, h2, nows z⟩, hz⟩
theorem a_nd {q : Rp α} {xs : List (Str × α)} (h : Nw (nd K q) te G xs) : Ev (rD q) te G xs := fun H0 σ H E Q k => h H0 σ H E Q fun v H' as e hn ⟨p, kvs, _, ev, hp, z⟩ => k v H' e ⟨p, kvs, ev, .inl hp, z.imp fun _ _ w => ⟨w.1, w.2.now⟩⟩
/-- by its second name -/
theorem a_alias {i j : Nat} (h : G[i]? = some (some (.ow (nOneA K C f r p) xs))) (h' : G[j]? = some (some (.ow (fz K rV) (.ref p)))) : Ev (rOne K C f r) (tVar j) G xs := fun H0 σ H E Q k => by
  obtain ⟨own, _, _, h3⟩ := E.at_
  obtain ⟨v, hv, e1, ⟨a, dx, l, vs, _, ev, _, h1, h2, z⟩, hz⟩ := h3 i _ h
  obtain ⟨w, hw, _, hs⟩ := h3 j _ h'
  have ew : w = .ref p := hs.now
  subst ew
  rw [e1] at ev
  cases ev
  exact ⟨_, hw, k _ H (Same.refl H) ⟨⟨p, dx, l, vs, rfl, h1, h2, nows z⟩, hz⟩⟩
theorem wk_oneFA {M : Mono (rOneA K C f r p)} [N : Mono r] {i : Nat} (c : Cls K C) (n : NoAttr K C f) (h : G[i]? = some (some (.ro (rOneA K C f r p) M xs)) := by rfl) : Wk (iList K (tFld K (tVar i) f)) r G G xs := fun H1 σ H E R k => by
  obtain ⟨own, _, _, h3⟩ := E.at_
  obtain ⟨v, hv, _, _, ⟨a, dx, l, vs, e2, e3, e4, e5⟩, _⟩ := h3 i _ h
  refine ⟨v, hv, a, C, dx, _, .ref l, e2, E.old _ _ e3, c, n, by rw [List.lookup_cons, show (f == f) = true from beq_self_eq_true f], ?_⟩
  exact ⟨l, rfl, ⟨vs, SqL.of (E.old _ _ e4)⟩, k _ H1 H (Same.refl _) (Same.refl _) E (wj_list e4 e5)⟩
/-- self.f = e, the last thing -/
theorem l_selfA {i : Nat} {M : Mono (rOneA K C f r p)} (hi : G[i]? = some (some (.ro (rOneA K C f r p) M xs))) (h : Nw (nl K r) te G b) (c : Cls K C) (n : NoAttr K C f) (hb : b.length ≤ 100000) (h0 : ∃ dx l, H0 p = some (.ins C dx [(f, .ref l)])) (hk : ∀ σ H', σ[i]? = some (some (.ref p)) → MutR K C f r H0 p b H' → D.nx σ H') : Sv H0 G (sFld K (tVar i) te f) D := fun σ H ⟨H1, e1, E⟩ =>
  h H1 σ H E _ fun v H2 as e2 hn ⟨l', us', ea, ev, hl', z⟩ => by
    have E2 := E.grow e2
    obtain ⟨own, _, _, h3⟩ := E.at_
    obtain ⟨w, hw, _, ew, ⟨a, dx, l, vs, ea2, ha, hl, hz⟩, _⟩ := h3 i _ hi
    subst ev; subst ew
    cases ea2
    have a2 := E2.old _ _ ha
    have hl'0 : H l' = none := hn l' (by rw [ea]; exact List.mem_singleton.mpr rfl)
    have npl : p ≠ l' := fun q => by
      have := E.old _ _ ha
      rw [q, hl'0] at this
      cases this
    have s02 : Same H0 H2 := e1.trans E2.old
    refine ⟨_, hw, p, C, dx, [(f, .ref l)], rfl, a2, c, n, by simp, hk _ _ hw ?_⟩
    have hH0 : H0 l' = none := (e1.trans E.old).free (hn l' (by rw [ea]; exact List.mem_singleton.mpr rfl))
    have pf : putF f (V.ref l') [(f, V.ref l)] = [(f, .ref l')] := by unfold putF; rw [if_pos rfl]
    rw [pf]
    obtain ⟨dx0, l0, hp0⟩ := h0
    have same := (e1.trans E.old).trans e2 _ _ hp0
    rw [a2] at same
    cases same
    have x0 : ExT K H2 (upd H2 p (.ins C dx [(f, .ref l')])) := ext_upd a2 fun z => z
    exact ⟨dx, l, l', us', hp0, fun c o hc ho => by rw [upd_ne hc]; exact ((e1.trans E.old).trans e2) _ _ ho, hH0, npl, upd_same, by rw [upd_ne npl.symm]; exact hl', z.imp fun _ _ w => w.up x0, hb⟩
theorem q_selfA {i : Nat} {M : Mono (rOneA K C f r p)} (hi : G[i]? = some (some (.ro (rOneA K C f r p) M xs))) (h : Nw (nl K r) te G b) (c : Cls K C) (n : NoAttr K C f) (hb : b.length ≤ 100000) (h0 : ∃ dx l, H0 p = some (.ins C dx [(f, .ref l)])) (hk : ∀ σ H', σ[i]? = some (some (.ref p)) → MutR K C f r H0 p b H' → u D σ H') : Sv H0 G (tSeq (sFld K (tVar i) te f) u) D := l_selfA (D := { D with nx := u D }) hi h c n hb h0 hk
/-- an owned thing is changed; what belongs to it too -/
theorem Env.mut2 {i : Nat} {R : Rs K β} {R' : Rs K γ} {b : β} {b' : γ} {v : V} {as as' : List Addr} (E : Env H0 σ H G) (hi : G[i]? = some (some (.ow R b))) (hv : σ[i]? = some (some v))
    (x : ExT K H H') (k : ∀ p o, p ∉ as → H p = some o → H' p = some o) (th : ∀ w bs, σ[i]? = some (some w) → R.rep H w b bs → bs = as) (nw : ∀ p, p ∈ as' → p ∈ as ∨ H p = none) (h : R'.rep H' v b' as') : Env H0 σ H' (G.set i (some (.ow R' b'))) := by
  obtain ⟨own, h1, h2, h3⟩ := E.at_
  obtain ⟨w, hw, hk⟩ := h3 i _ hi
  have eas : own i = as := th w _ hw hk
  have nas : ∀ j p, j ≠ i → p ∈ own j → p ∉ as := fun j p hj hp z => hj (h2 j i p hp (by rw [eas]; exact z))
  have nas' : ∀ j p, j ≠ i → p ∈ own j → p ∉ as' := fun j p hj hp z => by
    rcases nw p z with q | q
    · exact nas j p hj hp q
    · obtain ⟨o, ho, _⟩ := (h1 j p hp).2
      rw [q] at ho
      cases ho
  have old0 : ∀ p, p ∈ as' → H0 p = none := fun p hp => by
    rcases nw p hp with q | q
    · exact (h1 i p (by rw [eas]; exact q)).1
    · exact E.old.free q
  refine ⟨fun p o ho => k p o (fun z => ?_) (E.old p o ho), by rw [List.length_set]; exact E.len, fun j => if j = i then as' else own j, fun j p hp => ?_, fun j q p hj hq => ?_, fun j c hc => ?_⟩
  · have := (h1 i p (by rw [eas]; exact z)).1
    rw [this] at ho
    cases ho
  · by_cases hj : j = i
    · simp only [hj, if_true] at hp
      exact ⟨old0 p hp, R'.there h p hp⟩
    · simp only [hj, if_false] at hp
      obtain ⟨o, ho, nt⟩ := (h1 j p hp).2
      exact ⟨(h1 j p hp).1, o, k p o (nas j p hj hp) ho, nt⟩
  · by_cases hji : j = i <;> by_cases hqi : q = i
    · rw [hji, hqi]
    · simp only [hji, hqi, if_true, if_false] at hj hq
      exact absurd hj (nas' q p hqi hq)
    · simp only [hji, hqi, if_true, if_false] at hj hq
      exact absurd hq (nas' j p hji hj)
    · simp only [hji, hqi, if_false] at hj hq
      exact h2 j q p hj hq
  · by_cases hj : j = i
    · subst hj
      have hl : j < G.length := (List.getElem?_eq_some_iff.mp hi).1
      rw [List.getElem?_set_self hl] at hc
      cases hc
      exact ⟨v, hv, by simp only [if_true]; exact h⟩
    · rw [List.getElem?_set_ne (Ne.symm hj)] at hc
      obtain ⟨w', hw', hk'⟩ := h3 j c hc
      refine ⟨w', hw', ?_⟩
      simp only [hj, if_false]
      exact cell_stay hk' x fun p hp o ho => k p o (nas j p hj hp) ho
/-- what a call of such a method does to the cells -/
theorem mut_env {i : Nat} {q : Addr} {xs' : List β} (E : Env H0 σ H G) (hi : G[i]? = some (some (.ow (nOneA K C f r q) xs))) (hm : MutR K C f r H q xs' H') : Env H0 σ H' (G.set i (some (.ow (nOneA K C f r q) xs'))) := by
  obtain ⟨own, h1, h2, h3⟩ := id E.at_
  obtain ⟨v, hv, ev, ⟨a, dx, l, vs, eas, ev2, nal, ha, hl, z⟩, hz⟩ := h3 i _ hi
  subst ev
  cases ev2
  obtain ⟨dx', l0, l', us', hp, kp, hn, npl, hp', hl', z', hb⟩ := hm
  rw [ha] at hp
  cases hp
  have x0 : ExT K H H' := fun c ys w => by
    have ne : ∀ o, H c = some o → isTup o → c ≠ q := fun o ho t e => by
      rw [e, ha] at ho
      cases ho
      exact t
    rcases w with (w | ⟨o', w⟩) | w
    · exact .inl (.inl (kp _ _ (ne _ w trivial) w))
    · exact .inl (.inr ⟨o', kp _ _ (ne _ w trivial) w⟩)
    · exact .inr w
  refine E.mut2 (as := [q, l]) (as' := [q, l']) (R := nOneA K C f r q) (R' := nOneA K C f r q) hi hv x0 (fun c o hc ho => kp c o (fun e => hc (by rw [e]; simp)) ho) (fun w bs hw ⟨_, ⟨a2, dx2, l2, vs2, e1, e2, _, e4, _⟩, _⟩ => ?_) (fun c hc => ?_) ⟨rfl, ⟨q, _, l', us', rfl, rfl, npl, hp', hl', z'⟩, hb⟩
  · rw [hv] at hw
    cases hw
    cases e2
    rw [ha] at e4
    cases e4
    exact e1
  · rcases List.mem_cons.mp hc with e | e
    · exact .inl (by rw [e]; simp)
    · exact .inr (by rw [List.mem_singleton.mp e]; exact hn)
/-- the same cell, its address named -/
theorem Have.name {i : Nat} (h : Have H0 G σ H) (hi : G[i]? = some (some (.ow (nOne K C f r) xs))) : ∃ q, σ[i]? = some (some (.ref q)) ∧ Have H0 (G.set i (some (.ow (nOneA K C f r q) xs))) σ H := by
  obtain ⟨H1, e, E⟩ := h
  obtain ⟨own, h1, h2, h3⟩ := id E.at_
  obtain ⟨v, hv, ⟨a, dx, l, vs, eas, ev, rest⟩, hz⟩ := h3 i _ hi
  subst ev
  refine ⟨a, hv, H1, e, E.mut (as := own i) (R := nOne K C f r) (R' := nOneA K C f r a) hi hv (ExT.refl _) (fun _ _ _ ho => ho) (fun w bs hw hr => ?_) ⟨rfl, ⟨a, dx, l, vs, eas, rfl, rest⟩, hz⟩⟩
  rw [hv] at hw
  cases hw
  obtain ⟨⟨a2, dx2, l2, vs2, e1, e2, _, e4, _⟩, _⟩ := hr
  cases e2
  rw [rest.2.1] at e4
  cases e4
  rw [e1, eas]
theorem Have.unname {i : Nat} {q : Addr} (h : Have H0 G σ H) (hi : G[i]? = some (some (.ow (nOneA K C f r q) xs))) : Have H0 (G.set i (some (.ow (nOne K C f r) xs))) σ H := by
  obtain ⟨H1, e, E⟩ := h
  obtain ⟨own, h1, h2, h3⟩ := id E.at_
  obtain ⟨v, hv, ev, ⟨a, dx, l, vs, eas, ev2, rest⟩, hz⟩ := h3 i _ hi
  subst ev
  cases ev2
  refine ⟨H1, e, E.mut (as := own i) (R := nOneA K C f r q) (R' := nOne K C f r) hi hv (ExT.refl _) (fun _ _ _ ho => ho) (fun w bs hw hr => ?_) ⟨⟨q, dx, l, vs, eas, rfl, rest⟩, hz⟩⟩
  rw [hv] at hw
  cases hw
  obtain ⟨_, ⟨a2, dx2, l2, vs2, e1, e2, _, e4, _⟩, _⟩ := hr
  cases e2
  rw [rest.2.1] at e4
  cases e4
  rw [e1, eas]
/-- o[k] = v -/
theorem l_setOA {i : Nat} {q : Addr} {rk : Rp α} {rv : Rp γ} [MK : Mono rk] [MV : Mono rv] {kx : α} {vx : γ} {m : List β → α × γ × Unit → M (List β)} {E' : XK} {xs' : List β} (hi : G[i]? = some (some (.ow (nOneA K C f r q) xs))) (hk : Ev rk ti G kx) (hv : Ev rv te G vx) (e : m xs (kx, vx, ()) = .ok xs') (hb : xs'.length ≤ 100000)
    (k : Nx H0 (G.set i (some (.ow (nOneA K C f r q) xs'))) D.nx) : Sv H0 G (tAsg te (gSub (tVar i) ti (tOwnSet C (spMut K C f r (aC rk (aC rv aN)) m fun _ => .non) E'))) D := fun σ H ⟨H1, e1, E⟩ => by
  refine hv H1 σ H E _ fun w H2 e2 hw => ?_
  obtain ⟨own, _, _, h3⟩ := id (E.grow e2).at_
  obtain ⟨u, hu, ev, ⟨a, dx, l, vs, eas, ev2, nal, ha, hl, z⟩, hz⟩ := h3 i _ hi
  subst ev
  cases ev2
  refine ⟨_, hu, hk H1 σ H2 (E.grow e2) _ fun y H3 e3 hy => ?_⟩
  have E3 := (E.grow e2).grow e3
  exact ⟨q, dx, _, rfl, e3 _ _ ha, q, _, xs, (kx, vx, ()), xs', rfl, ⟨⟨q, dx, l, vs, rfl, e3 _ _ ha, e3 _ _ hl, nows (z.imp fun _ _ w => w.up (ext_same e3))⟩, hz⟩, ⟨y, _, rfl, hy, w, _, rfl, MV.up e3 hw, rfl⟩, e, hb, fun H' hm => k _ _ ⟨H1, e1, mut_env E3 hi hm⟩⟩
theorem l_setO {i : Nat} {rk : Rp α} {rv : Rp γ} [MK : Mono rk] [MV : Mono rv] {kx : α} {vx : γ} {m : List β → α × γ × Unit → M (List β)} {E' : XK} {xs' : List β} (hi : G[i]? = some (some (.ow (nOne K C f r) xs))) (hk : ∀ q, Ev rk ti (G.set i (some (.ow (nOneA K C f r q) xs))) kx) (hv : ∀ q, Ev rv te (G.set i (some (.ow (nOneA K C f r q) xs))) vx) (e : m xs (kx, vx, ()) = .ok xs') (hb : xs'.length ≤ 100000)
    (k : Nx H0 (G.set i (some (.ow (nOne K C f r) xs'))) D.nx) : Sv H0 G (tAsg te (gSub (tVar i) ti (tOwnSet C (spMut K C f r (aC rk (aC rv aN)) m fun _ => .non) E'))) D := fun σ H h => by
  obtain ⟨q, hq, h2⟩ := h.name hi
  have hl : i < G.length := (List.getElem?_eq_some_iff.mp hi).1
  refine l_setOA (xs := xs) (List.getElem?_set_self hl) (hk q) (hv q) e hb (fun σ' H' h' => k σ' H' ?_) σ H h2
  rw [List.set_set] at h'
  have := h'.unname (List.getElem?_set_self hl)
  rw [List.set_set] at this
  exact this
theorem q_setO {i : Nat} {rk : Rp α} {rv : Rp γ} [MK : Mono rk] [MV : Mono rv] {kx : α} {vx : γ} {m : List β → α × γ × Unit → M (List β)} {E' : XK} {xs' : List β} (hi : G[i]? = some (some (.ow (nOne K C f r) xs))) (hk : ∀ q, Ev rk ti (G.set i (some (.ow (nOneA K C f r q) xs))) kx) (hv : ∀ q, Ev rv te (G.set i (some (.ow (nOneA K C f r q) xs))) vx) (e : m xs (kx, vx, ()) = .ok xs') (hb : xs'.length ≤ 100000)
    (k : Sv H0 (G.set i (some (.ow (nOne K C f r) xs'))) u D) : Sv H0 G (tSeq (tAsg te (gSub (tVar i) ti (tOwnSet C (spMut K C f r (aC rk (aC rv aN)) m fun _ => .non) E'))) u) D := l_setO (D := { D with nx := u D }) hi hk hv e hb k
/-- o op= v -/
theorem l_augOA {i : Nat} {q : Addr} {rv : Rp γ} {vx : γ} {m : List β → γ × Unit → M (List β)} {E' : XK} {xs' : List β} (hi : G[i]? = some (some (.ow (nOneA K C f r q) xs))) (hv : Ev rv te G vx) (e : m xs (vx, ()) = .ok xs') (hb : xs'.length ≤ 100000)
    (k : Nx H0 (G.set i (some (.ow (nOneA K C f r q) xs'))) D.nx) : Sv H0 G (tAug i te (tOwnIp C (spMut K C f r (aC rv aN) m fun p => .ref p) E')) D := fun σ H ⟨H1, e1, E⟩ => by
  obtain ⟨own, _, _, h3⟩ := id E.at_
  obtain ⟨u, hu, ev, _⟩ := h3 i _ hi
  subst ev
  refine ⟨_, hu, hv H1 σ H E _ fun w H2 e2 hw => ?_⟩
  obtain ⟨own, _, _, h3⟩ := id (E.grow e2).at_
  obtain ⟨u2, hu2, ev, ⟨a, dx, l, vs, eas, ev2, nal, ha, hl, z⟩, hz⟩ := h3 i _ hi
  subst ev
  cases ev2
  refine ⟨q, dx, _, rfl, ha, q, _, xs, (vx, ()), xs', rfl, ⟨⟨q, dx, l, vs, rfl, ha, hl, nows z⟩, hz⟩, ⟨w, _, rfl, hw, rfl⟩, e, hb, fun H' hm => ?_⟩
  have same : σ.set i (some (V.ref q)) = σ := by
    apply List.ext_getElem?
    intro j
    by_cases hj : i = j
    · subst hj
      rw [List.getElem?_set_self (List.getElem?_eq_some_iff.mp hu).1, hu]
    · rw [List.getElem?_set_ne hj]
  show D.nx (σ.set i (some (V.ref q))) H'
  rw [same]
  exact k _ _ ⟨H1, e1, mut_env (E.grow e2) hi hm⟩
theorem q_augOA {i : Nat} {q : Addr} {rv : Rp γ} {vx : γ} {m : List β → γ × Unit → M (List β)} {E' : XK} {xs' : List β} (hi : G[i]? = some (some (.ow (nOneA K C f r q) xs))) (hv : Ev rv te G vx) (e : m xs (vx, ()) = .ok xs') (hb : xs'.length ≤ 100000)
    (k : Sv H0 (G.set i (some (.ow (nOneA K C f r q) xs'))) u D) : Sv H0 G (tSeq (tAug i te (tOwnIp C (spMut K C f r (aC rv aN) m fun p => .ref p) E')) u) D := l_augOA (D := { D with nx := u D }) hi hv e hb k
theorem q_augO {i : Nat} {rv : Rp γ} {vx : γ} {m : List β → γ × Unit → M (List β)} {E' : XK} {xs' : List β} (hi : G[i]? = some (some (.ow (nOne K C f r) xs))) (hv : ∀ q, Ev rv te (G.set i (some (.ow (nOneA K C f r q) xs))) vx) (e : m xs (vx, ()) = .ok xs') (hb : xs'.length ≤ 100000)
    (k : Sv H0 (G.set i (some (.ow (nOne K C f r) xs'))) u D) : Sv H0 G (tSeq (tAug i te (tOwnIp C (spMut K C f r (aC rv aN) m fun p => .ref p) E')) u) D := fun σ H h => by
  obtain ⟨q, hq, h2⟩ := h.name hi
  have hl : i < G.length := (List.getElem?_eq_some_iff.mp hi).1
  refine l_augOA (D := { D with nx := u D }) (xs := xs) (List.getElem?_set_self hl) (hv q) e hb (fun σ' H' h' => k σ' H' ?_) σ H h2
  rw [List.set_set] at h'
  have := h'.unname (List.getElem?_set_self hl)
  rw [List.set_set] at this
  exact this
/-- a second name for it -/
theorem q_alias {i j : Nat} (hi : G[i]? = some (some (.ow (nOne K C f r) xs))) (k : ∀ q, Sv H0 ((G.set i (some (.ow (nOneA K C f r q) xs))).set j (fc rV (.ref q))) u D) : Sv H0 G (tSeq (tAsg (tVar i) (gName j)) u) D := fun σ H h => by
  obtain ⟨q, hq, H1, e1, E⟩ := h.name hi
  refine ⟨_, hq, k q _ _ ⟨H1, e1, E.put (R := fz K rV) (as := []) (Same.refl H) (fun _ z => nomatch z) ⟨rfl, stb rfl⟩⟩⟩
end
/-! ### a list or a tuple -/
section
variable {X : Cx} {tg : Expr}
def iEi (K : PySem.W.Frag) (tl : TE) : TI := fun σ H R => tl σ H fun x H1 => ∃ a, x = .ref a ∧ (((∃ xs, SqL K H1 a xs) ∧ R (Itl K a) H1) ∨ ((∃ xs, SqT K H1 a xs) ∧ R (Itt K a) H1))
theorem pi_ei {l : Expr} {tl : TE} (hl : PE X l tl) : PI X tg l (iEi X.K tl) := by
  refine ⟨fun pins s σ H R I h => thn (hl.run pins s σ H _ I h) fun v s1 ⟨x, H1, I1, r1, a, ex, q1⟩ => ?_⟩
  subst ex
  have ev : v = Value.ref a := r1
  subst ev
  rcases q1 with ⟨⟨xs, hq⟩, q⟩ | ⟨⟨xs, hq⟩, q⟩
  · obtain ⟨its, rv, p, hz⟩ := I1.list hq
    refine wpAny_pyIter_list p.isList ⟨s1.heap.objs.size, [s1.heap.objs.size], _, _, H1, rfl, I1.kept (t' := s1.toks) fun b o e => Heap.get?_push_of_some _ e, turn_list a _, ⟨_, Heap.get?_push_size _ rfl, rfl, rfl⟩, fun b hb => ?_, q⟩
    rw [List.mem_singleton.mp hb]; exact I1.fpOk (Nat.le_refl _) (I1.hok.fresh (Nat.le_refl _))
  · obtain ⟨its, rv, p, hz⟩ := I1.tuple hq
    refine wpAny_pyIter_tuple (show s1.heap.IsTuple a its.toArray from p) ⟨s1.heap.objs.size, [s1.heap.objs.size], _, _, H1, rfl, I1.kept (t' := s1.toks) fun b o e => Heap.get?_push_of_some _ e, turn_tuple a _, ⟨_, Heap.get?_push_size _ rfl, rfl, rfl⟩, fun b hb => ?_, q⟩
    rw [List.mem_singleton.mp hb]; exact I1.fpOk (Nat.le_refl _) (I1.hok.fresh (Nat.le_refl _))
theorem pi_eiK (K : PySem.W.Frag) {l : Expr} {tl : TE} (hl : PE X l tl) (h : X.K = K := by rfl) : PI X tg l (iEi K tl) := by subst h; exact pi_ei hl
end
def rEi (K : PySem.W.Frag) {β : Type} (r : Rp β) : Rp (List β) := fun H v xs => ∃ a vs, v = .ref a ∧ (H a = some (.lst vs) ∨ SqT K H a vs) ∧ A2 (r H) vs xs
section
variable {K : PySem.W.Frag} {H0 H1 H H' : Hp} {σ : L2.St} {G G' : Cells K} {β : Type} {r : Rp β} {te : TE} {xs : List β}
instance [M : Mono r] : Mono (rEi K r) := ⟨fun e ⟨a, vs, ev, h, q⟩ => ⟨a, vs, ev, h.imp (e _ _) (ext_same e _ _), q.imp fun _ _ z => M.up e z⟩⟩
theorem ei_L (h : Ev (rL r) te G xs) : Ev (rEi K r) te G xs := h.imp fun _ _ ⟨a, vs, ev, hp, z⟩ => ⟨a, vs, ev, .inl hp, z⟩
theorem ei_T (h : Ev (rT K r) te G xs) : Ev (rEi K r) te G xs := h.imp fun _ _ ⟨a, vs, ev, hp, z⟩ => ⟨a, vs, ev, .inr hp, z⟩
theorem wk_ei {M : Mono (rEi K r)} [N : Mono r] {i : Nat} (h : G[i]? = some (some (.ro (rEi K r) M xs)) := by rfl) : Wk (iEi K (tVar i)) r G G xs := fun H1 σ H E R k => by
  obtain ⟨own, _, _, h3⟩ := E.at_
  obtain ⟨v, hv, _, p, vs, e2, e3, e4⟩ := h3 i _ h
  refine ⟨v, hv, p, e2, ?_⟩
  rcases e3 with e3 | e3
  · exact .inl ⟨⟨vs, SqL.of (E.old _ _ e3)⟩, k _ H1 H (Same.refl _) (Same.refl _) E (wj_list e3 e4)⟩
  · exact .inr ⟨⟨vs, ext_same E.old _ _ e3⟩, k _ H1 H (Same.refl _) (Same.refl _) E (wj_tup e3 e4)⟩
/-- xs.index(x) of a list of texts -/
def idxS (xs : List Str) (x : Str) : Option Nat := xs.findIdx? fun y => decide (y = x)
theorem idxS_ok {xs : List Str} {x : Str} {j : Nat} (h : idxS xs x = some j) : xs[j]? = some x ∧ ∀ m, m < j → ∀ y, xs[m]? = some y → y ≠ x := by
  unfold idxS at h
  rw [List.findIdx?_eq_some_iff_getElem] at h
  obtain ⟨hl, h1, h2⟩ := h
  refine ⟨by rw [List.getElem?_eq_getElem hl, of_decide_eq_true h1], fun m hm y hy e => ?_⟩
  have := h2 m hm
  rw [List.getElem?_eq_getElem (by omega)] at hy
  cases hy
  exact this (decide_eq_true e)
def IdxOk (xs : List Str) (x : Str) (j : Nat) : Prop := idxS xs x = some j
theorem ev_index {tl tx : TE} {x : Str} {xs : List Str} {j : Nat} (h : Ev (rL rS) tl G xs) (h' : Ev rS tx G x) (e : IdxOk xs x j) : Ev rI (tBM K "list" (rIndex K) tl (tCons tx tNil)) G (j : Int) := fun H0 σ H E Q k =>
  h H0 σ H E _ fun v H1 e1 ⟨p, vs, ev, hp, z⟩ => by
    subst ev
    refine ⟨.inl ⟨rfl, vs, SqL.of hp⟩, h' H0 σ H1 (E.grow e1) _ fun w H2 e2 hw => ?_⟩
    have es : vs = xs.map V.str := strs_a2 z
    obtain ⟨i1, i2⟩ := idxS_ok e
    refine ⟨p, vs, w, j, .str x, rfl, rfl, SqL.of (e2 _ _ hp), by rw [hw.1]; rfl, by rw [es]; exact flat_strs xs, by rw [es, List.getElem?_map, i1]; rfl, by rw [hw.1]; exact beq_self_eq_true x, fun m z' hm hz => ?_, k _ H2 (e1.trans e2) rfl⟩
    rw [es, List.getElem?_map] at hz
    cases q : xs[m]? with
    | none => rw [q] at hz; cases hz
    | some y =>
      rw [q] at hz
      cases hz
      rw [hw.1]
      exact beq_eq_false_iff_ne.mpr (i2 m hm y q)
end
section
variable {X : Cx} (K : PySem.W.Frag) {e o : Expr} {es : List Expr} {to : TE} {t : TA} {apos cpos : Pos}
theorem pe_indexK (ho : PE X o to) (ha : PA X (e :: es) t) (h : X.K = K := by rfl) (b1 : attributeBase o "index" X.env (eval o X.env) = eval o X.env := by rfl)
    (b2 : ((backTo cpos (starEach (e :: es) X.env)).all (fun x => !x.1) && (backToKw cpos (keywordEach [] X.env)).all (fun x => x.1.isSome) && decide ((e :: es).length + ([] : List Keyword).length + (if ([] : List Keyword).isEmpty then 0 else 1) < 30)) = true := by rfl)
    (b3 : (apos.endLine == cpos.line) = true := by rfl) (b4 : starEach (e :: es) X.env = (false, eval e X.env) :: starEach es X.env := by rfl) (b5 : (backTo cpos (starEach es X.env)).any (·.1) = false := by rfl) :
    PE X (.Call (.Attribute o "index" apos) (e :: es) [] cpos) (tBM K "list" (rIndex K) to t) := by subst h; exact pe_bm PySem.F.plainAttrs_list PySem.F.slot_list_index PySem.F.type_list_index mt_index ho ha b1 b2 b3 b4 b5
end
end Gt
/-! Gt22: own exceptions from the top's facts; statements that no call reaches; star defs. -/
namespace Gt
open PySem PySem.Spec PyProof.Rows L2 PySem.W PySem.Calls PySem.HandSPX
/-- what the text of an __init__ of an exception says -/
structure XStat (st : Stmt) (qual : Str) (fld : Str) : Prop where
  bd : ∃ msg j q0 q1 q2 q3 q4 q5 q6 q7 q8 q9, defBody st = [.Expr (.Call (.Attribute (.Call (.Name "super" q0) [] [] q1) "__init__" q2) [.Constant (.str msg) j q3] [] q4) q5, .Assign [.Attribute (.Name "self" q6) fld q7] (.Name fld q8) q9] ∧
      (∀ fI L cd c2, ∃ pl : Sem Bool, eval (.Call (.Attribute (.Call (.Name "super" q0) [] [] q1) "__init__" q2) [.Constant (.str msg) j q3] [] q4) (ksEnv qual (defScope st) L fI cd c2) = (do
        let ov ← attributeBase (.Call (.Name "super" q0) [] [] q1) "__init__" (ksEnv qual (defScope st) L fI cd c2) (eval (.Call (.Name "super" q0) [] [] q1) (ksEnv qual (defScope st) L fI cd c2))
        standAt q2.atName
        let (f, first) ← holding [ov] (getMethod ov "__init__" pl)
        callWith q4 f first (backTo q4 (starEach [.Constant (.str msg) j q3] (ksEnv qual (defScope st) L fI cd c2))) [])) ∧
      (∀ fI L cd c2, swapsWith (.Call (.Attribute (.Call (.Name "super" q0) [] [] q1) "__init__" q2) [.Constant (.str msg) j q3] [] q4) none q5.line (ksEnv qual (defScope st) L fI cd c2) = pure false) ∧
      (∀ fI L cd c2, swapsWith (.Name fld q8) (some (.Attribute (.Name "self" q6) fld q7)) q9.line (ksEnv qual (defScope st) L fI cd c2) = pure false)
  ar : ∃ ar, ((defArgs st).posonlyargs ++ (defArgs st).args).head? = some ar ∧ ar.arg = "self"
  bi : ∀ (doc pm : Value) (an : Option Addr) (cda cc : Addr) (ct : Value) (s : Shared) (u v : Value), BindsTo s (ksFn "__init__" qual (defArgs st) (defBody st) (defScope st) .none .none doc pm an (.ref cda) ct cc) ⟨[u, v], []⟩ [("self", u), (fld, v)]
  s1 : (defScope st).kind = .function
  s2 : (defScope st).isGenerator = false
  s3 : (defScope st).isCoroutine = false
  n1 : (defScope st).names.lookup ("self" : Str) = some .local
  n2 : (defScope st).names.lookup fld = some .local
  n3 : (defScope st).names.lookup ("super" : Str) = some .globalImplicit
  n4 : (defScope st).names.lookup ("__class__" : Str) = some .free
  n5 : ∀ y ∈ (defScope st).names, y.2 ≠ .cell
  f1 : (fld == ("self" : Str)) = false
  f2 : (fld == ("__debug__" : Str)) = false
section
variable {prog : Program} {K : Frag} {mg : Str → Option Value} {x fld qual : Str} {st : Stmt} {C fI cda cc N : Addr} {oc doc pm ct cl cl2 : Value} {od cld cld2 an dd : Option Addr} {osl csl csl2 : Array (Option Value)} {vs : Array Value} {file q nm : Str} {tf : Tok}
  {bs bm sub : List Value} {sn : List Str} {ab : Bool} {col : Option Bool} {k0 k1 k2 k3 k5 : Option Value}
theorem excT_of (S : XStat st qual fld) (gC : mg x = some (.ref C)) (hC : K.lookup C = some (excClassObj nm q C N bs bm true sn sub ab col dd k0 k1 k2 k3 k5 "ValueError.__new__")) (hbm : refsVE bm = true)
    (sa : findIn K (.ref C) "__setattr__" = some (some (.builtin "object.__setattr__"))) (ga : findIn K (.ref C) "__getattribute__" = some (some (.builtin "BaseException.__getattribute__"))) (gg : findIn K (.ref C) "__getattr__" = some none) (no : findIn K (.ref C) fld = some none)
    (iC : findIn K (.ref C) "__init__" = some (some (.ref fI))) (tI : typeIn K (.ref fI) = some (.type "function")) (kC : keepIn K (.ref C) = true) (exC : subIn K (.ref C) (.type "BaseException") = some true) (tyC : typeIn K (.ref C) = some (.type "type")) (hdC : hasDictIn K C = true)
    (su : ks_superIn K C C "__init__" = some (some (.builtin "ValueError.__init__"))) (sB : subIn K (.ref C) (.type "ValueError") = some true) (sS : mroIn K C (.ref C) = some true) (op : nsIn K cStatics "thirdparty.any" = some none) (nS : mg "super" = none)
    (lf : K.lookup fI = some ⟨oc, od, .func (ksFn "__init__" qual (defArgs st) (defBody st) (defScope st) .none .none doc pm an (.ref cda) ct cc), osl⟩) (hcd : codeIn K (.ref cda) qual = true) (lcc : K.lookup cc = some ⟨cl, cld, .cell (some (.ref C)), csl⟩)
    (lco : K.lookup cda = some ⟨cl2, cld2, .fields vs, csl2⟩) (hvs : vs[2]? = some (.str file tf)) (hf : ((prog.main.file : Str) == file) = true) (htop : (prog.main.scope.names.lookup ("super" : Str)).isSome = false) : ExcT prog K mg x fld C fI :=
  { gC := gC, cls := ⟨nm, q, N, bs, bm, sn, sub, ab, col, dd, k0, k1, k2, k3, k5, hC, hbm⟩, sa := sa, ga := ga, gg := gg, no := no, iC := iC, tI := tI, kC := kC, exC := exC, tyC := tyC, hdC := hdC, su := su, sB := sB, sS := sS, op := op, nS := nS,
    fn := by
      obtain ⟨msg, j, q0, q1, q2, q3, q4, q5, q6, q7, q8, q9, eb, h1, h2, h3⟩ := S.bd
      exact ⟨oc, od, qual, defArgs st, defBody st, defScope st, doc, pm, an, cda, cc, ct, osl, lf, hcd, ⟨cl, cld, csl, lcc⟩, ⟨cl2, cld2, vs, file, tf, csl2, lco, hvs, hf⟩, htop, ⟨msg, j, q0, q1, q2, q3, q4, q5, q6, q7, q8, q9, eb, h1 fI, h2 fI, h3 fI⟩, S.ar, S.bi doc pm an cda cc ct,
        S.s1, S.s2, S.s3, S.n1, S.n2, S.n3, S.n4, S.n5, S.f1, S.f2⟩ }
end
/-- an error of the class at S is what «except S» names -/
theorem exm_self {K : Frag} {S : Addr} (h1 : subIn K (.ref S) (.type "BaseException") = some true) (h2 : isClsIn K S = true) (h3 : typeIn K (.ref S) = some (.type "type")) (h4 : subIn K (.ref S) (.ref S) = some true) : exmOne K (.ref S) (.ref S) = some true := by
  have e1 : (subIn K (.ref S) (.type "BaseException") == some true) = true := by rw [h1] <;> rfl
  have e2 : ((clsIn K S).isSome && typeIn K (.ref S) == some (.type "type")) = true := by
    have h2' : (clsIn K S).isSome = true := h2
    rw [h2', h3] <;> rfl
  unfold exmOne kitCls
  rw [if_pos e1]
  exact (if_pos e2).trans h4
section
variable {X : Cx} {P : Program} {w : World} {K : Frag} {mg : Str → Option Value} {base : Heap}
/-- the class that an except clause names -/
structure CatC (K : Frag) (mg : Str → Option Value) (x fld : Str) : Prop where
  mg : mg x = some (.ref (cA K x))
  ex : exmOne K (.ref (cA K x)) (.ref (cA K x)) = some true
  xf : XfC K (cA K x)
  no : findIn K (.ref (cA K x)) fld = some none
  ec : ExcC K (cA K x)
theorem nm_cat {x fld : Str} (T : CatC X.K X.mg x fld) (hg : Gl X x := by rfl) (hdb : (x == ("__debug__" : Str)) = false := by decide) : Names X x (.ref (cA X.K x)) := ⟨hg, hdb, .inl T.mg⟩
theorem takes_no : Takes X fun _ _ _ _ => False := fun _ _ ⟨_, _, _, _, _, _, _, _, _, _, _, _, _, _, _, _, z⟩ => z.elim
/-- what no call reaches -/
theorem ps_never {st : Stmt} : PS X st (fun _ _ _ => False) := ⟨fun _ _ _ _ _ _ h => h.elim⟩
end
section
variable {K : Frag} {H0 H1 H2 H : Hp} {G : Cells K} {α γ β ρ : Type} {D : Ends} {u : TS} {q : Rp β} {R : Rs K ρ} {P Q : L2.St → Hp → Prop}
theorem rt_ex {i : Nat} {x : ρ} (h : RtOk R H0 x D) (e : Same H0 H2) : RtOk R H2 x (exEnds i D) := h.up e
theorem nx_ex {i : Nat} {G' : Cells K} (h : Nx H0 G' D.nx) (e : Same H0 H2) (s : Sub (G.set i none) G') : Nx H2 G (exEnds i D).nx := nx_exEnds fun σ H z => h σ H ((Have.up e z).less s)
/-- try: x = f(..) -/
theorem q_tryA {i j : Nat} {c : Value} {ts : Addr → Value → Option Addr → TS} {Wout : WX} {A : Ra γ} {g : γ} {m : γ → M β} {t : TA} {o : M β} (h : EvA A t G g) (e : m g = o) (w : WOk H0 G (wAs K c j ts Wout { D with nx := u D }) o) (k : ∀ b, o = .ok b → Sv H0 (G.set i (fc q b)) u D) (F : Frz K q := by infer_instance) :
    Sv H0 G (tSeq (fun D σ H => tAsg (tCallS (spX (K := K) A q m) (WE (wAs K c j ts Wout D)) t) (gName i) D σ H) u) D := l_asgX (D := { D with nx := u D }) h e w k
/-- .. into a slot that may hold None -/
theorem q_tryAO {i j : Nat} {c : Value} {ts : Addr → Value → Option Addr → TS} {Wout : WX} {A : Ra γ} {g : γ} {m : γ → M β} {t : TA} {o : M β} (h : EvA A t G g) (e : m g = o) (w : WOk H0 G (wAs K c j ts Wout { D with nx := u D }) o) (k : ∀ b, o = .ok b → Sv H0 (G.set i (fc (rO q) (some b))) u D) (F : Frz K q := by infer_instance) :
    Sv H0 G (tSeq (fun D σ H => tAsg (tCallS (spX (K := K) A q m) (WE (wAs K c j ts Wout D)) t) (gName i) D σ H) u) D := fun σ H ⟨H1, e1, E⟩ =>
  h H1 σ H E _ fun vs H2 e2 z => ⟨g, z, by rw [e]; exact w.1, fun b hb v H3 e3 hv => k b (e ▸ hb) _ _ ⟨H1, e1, (E.grow e2).put (R := fz K (rO q)) (as := []) e3 (fun _ z => nomatch z) ⟨rfl, stb (show rO q H3 v (some b) from hv)⟩⟩,
    fun x fs he d H3 e3 hn hx => w.2 x fs (e ▸ he) σ H2 H3 ⟨H1, e1, E.grow e2⟩ e3 d hn hx⟩
/-- isinstance of what may be None; of None's own value -/
theorem a_isiO {te : TE} {r : Rp α} {T T' : String} {o : Option α} (h : Ev (rO r) te G o) (M : Mono r) (N : TyN K r T) (hb : kitB T T' = some true) (hn : kitB "NoneType" T' = some false) : Ev rB (tCB (rIsi K) (tCons te (tCons (tC (.ty T')) tNil))) G (!isNone' o) := fun H0 σ H E Q k =>
  h H0 σ H E _ fun v H1 e1 hv => by
    cases o with
    | none =>
      have hv : v = .non := hv
      subst hv
      exact ⟨.non, .ty T', .type "NoneType", .type T', false, rfl, .ty T', .base .non, kit_ty hn, k _ H1 e1 rfl⟩
    | some z => exact ⟨v, .ty T', .type T, .type T', true, rfl, .ty T', N.ty hv, kit_ty hb, k _ H1 e1 rfl⟩
end
/-! ### defs with a star parameter -/
structure CalR (P : Program) (w : World) (K : Frag) (mg : Str → Option Value) (base : Heap) (CX : CXT) (x : Str) (k : Nat) (sp : Sp) : Prop where
  ex : ∃ f, FnR P w K mg base CX k f sp ∧ mg x = some (.ref f) ∧ keepIn K (.ref f) = true
def aRest {β : Type} (r : Rp β) : Ra (List β) := fun H vs xs => aAll r H vs xs ∧ xs.length ≤ 10
section
variable {X : Cx} {P : Program} {w : World} {K : Frag} {mg : Str → Option Value} {base : Heap} {x pv : Str} {k : Nat} {sp : Sp} {st : Stmt} {N ps : List Str} {W : WX} {p pos : Pos} {e : Expr} {es : List Expr} {ta : TA}
theorem pe_fnRS (C : CalR X.prog X.w X.K X.mg X.base (L2.CX X.prog X.w) x k sp) (hr : Room k X.A) (tk : Takes X W) (ha : PA X (e :: es) ta) (hg : Gl X x := by rfl) (hdb : (x == ("__debug__" : Str)) = false := by decide)
    (he : starEach (e :: es) X.env = (false, eval e X.env) :: starEach es X.env := by rfl) (hpl : (backTo pos (starEach es X.env)).any (·.1) = false := by rfl) : PE X (.Call (.Name x p) (e :: es) [] pos) (tCallS sp (WE W) ta) := by
  obtain ⟨f, F, hm, hk⟩ := C.ex
  refine ⟨fun pins s σ H Q I h => ?_⟩
  refine wpAny_Call_Name_kw (ld_glob I hg hm ?_ hdb)
  refine PySem.W.callWith_K (h₀ := X.base) I.ok.mod.kin hk (thn (ha.run pos pins s σ H _ I h) fun us s1 ⟨vs, H1, I1, r, q⟩ => ⟨I1.kIn, ?_⟩) he hpl
  refine wpAny_call (codeAny_mono (F X.A X.stack s1 H1 us vs Q (WE W σ) hr I1.env0 r q) fun r s' hq => ?_)
  cases r with
  | error er => exact passAt tk σ pins H1 s1 er s' I1 hq
  | ok fl =>
    cases fl with
    | ret u => exact I1.after hq
    | next => exact False.elim hq
    | brk => exact False.elim hq
    | cont => exact False.elim hq
/-- def x(a, *v) that may raise -/
theorem calStar_of {α β δ : Type} {ra : Rp α} {rb : Rp β} {q : Rp δ} {m : α → List β → M δ} [Frz K rb] (F : Df K mg x st) (S : FnScope N (ps ++ [pv]) (defScope st)) (hp : ps.length = 1) [Mono ra]
    (hb : ∀ (kV doc pm : Value) (an : Option Addr) (cdv ct : Value) (us rest : List Value), us.length = ps.length → bindArgs (fnOf x x (defArgs st) (defBody st) (defScope st) .none kV doc pm an cdv ct) ⟨us ++ rest, []⟩ = (newTuple rest >>= fun t => pure (ps.zip us ++ [(pv, t)])))
    (hbody : ∀ (cdv : Value) (f : Addr) (A : Around) (outer : List PySem.Env) (s : Shared) (H : Hp) (vs : List V) (Q : VK) (E : XK), Room k (A.deeper (envOfC x (defScope st) s.heap.objs.size f cdv)) → spX (K := K) (aC ra (aC (rT K rb) aN)) q (fun a => m a.1 a.2.1) vs H Q E →
      ∃ t, PSs (cxOf (L2.CX P w) P w K mg base N x (defScope st) f cdv A outer s H E) (defBody st) t ∧ t { nx := fun _ H' => Q .non H', rt := Q } (start N vs) H) : CalR P w K mg base (L2.CX P w) x (k + 1) (spX (K := K) (aC ra (aRest rb)) q fun a => m a.1 a.2) := by
  obtain ⟨f, fd, ⟨⟨oc, od, kV, doc, pm, an, cdv, ct, osl, e1, e2, e3⟩, kp⟩, g⟩ := F.ex
  subst e1
  refine ⟨f, (StX.fn_star e2 e3 S StX.cxUp (hb kV doc pm an cdv ct) fun A outer s H vs Q E hr h => hbody cdv f A outer s H vs Q E hr h).imp ?_, g, kp⟩
  rintro vs H Q E ⟨⟨a, bs⟩, ⟨v, rest, rfl, hv, hr, hl⟩, n, ok, er⟩
  have hz := hr.len
  refine ⟨[v], rest, rfl, by rw [hp]; rfl, Nat.le_trans (by rw [hz]; exact hl) (by rw [sizeLine_eq]; decide), fun p hpn => ?_⟩
  have sm : Same H (upd H p (.tup rest)) := same_new hpn
  refine ⟨(a, (bs, ())), ⟨v, [.ref p], rfl, Mono.up sm hv, .ref p, [], rfl, ⟨p, rest, rfl, .inl (.inl upd_same), hr.imp fun _ _ z => Frz.up (K := K) (ext_same sm) z⟩, rfl⟩, n, fun b eb w H' s' z => ok b eb w H' (sm.trans s') z, fun y fs ey d H' s' nd z => er y fs ey d H' (sm.trans s') (sm.free nd) z⟩
end
section
variable {K : Frag} {H : Hp} {G : Cells K} {α : Type} {r : Rp α} {t : TA} {xs : List α}
theorem ea_rest (h : EvA (aAll r) t G xs) (hl : xs.length ≤ 10) : EvA (aRest r) t G xs := fun H0 σ H E Q k => h H0 σ H E _ fun vs H1 e1 z => k vs H1 e1 ⟨z, hl⟩
theorem a_some {i : Nat} {o : Option α} {b : α} (h : G[i]? = some (fc (rO r) o)) (e : o = some b) : Ev r (tVar i) G b := by
  subst e
  have z : Ev (rO r) (tVar i) G (some b) := a_fz h
  exact z.imp fun _ _ z => z
theorem ixc_O0 {β : Type} {q : Rp β} {o : Option (α × β)} {p : α × β} [M : Mono r] [N : Mono q] (e : o = some p) : IxC K (rO (rP K r q)) o (tC (.int 0)) G r p.1 := fun ta h => by subst e; exact ev_fst (h.imp fun _ _ z => z)
theorem ixc_O1 {β : Type} {q : Rp β} {o : Option (α × β)} {p : α × β} [M : Mono r] [N : Mono q] (e : o = some p) : IxC K (rO (rP K r q)) o (tC (.int 1)) G q p.2 := fun ta h => by subst e; exact ev_snd (h.imp fun _ _ z => z)
theorem lnc_O {β : Type} {q : Rp β} {o : Option (α × β)} {p : α × β} {n : Nat} [M : Mono r] [N : Mono q] (e : o = some p) (h : LnC K (rP K r q) p n) : LnC K (rO (rP K r q)) o n := fun G te z => by subst e; exact h G te (z.imp fun _ _ z => z)
end
end Gt
/-! Gt23: own subscripts that may raise, properties, str of an own instance, an __init__ whose default is (), pop. -/
namespace Gt
open PySem PySem.Spec PyProof.Rows L2
/-! ### o[i] by an own __getitem__ that may raise -/
structure CalG (P : Program) (w : World) (K : PySem.W.Frag) (mg : Str → Option Value) (base : Heap) (C : Addr) (k : Nat) (ps : List Str) (sp : Sp) : Prop where
  ex : ∃ (f : Addr) (fd : FuncData), FnOk P w K mg base (L2.CX P w) k f fd ps sp ∧ Meth K C "__getitem__" f ∧ L2.Binds K fd ps [] ∧ PySem.W.fnIn K f = true
def tGetS (C : Addr) (sp : Sp) (E : L2.St → XK) (to ti : TE) : TE := fun σ H Q => to σ H fun o H1 => ti σ H1 fun i H2 => ∃ a dx fs, o = .ref a ∧ H2 a = some (.ins C dx fs) ∧ sp [o, i] H2 Q (E σ)
section
variable {X : Cx} {C : Addr} {k : Nat} {ps : List Str} {sp : Sp} {W : WX} {a b : Expr} {to ti : TE} {pos : Pos}
theorem pe_getS (M : CalG X.prog X.w X.K X.mg X.base C k ps sp) (hr : Room (k + 1) X.A) (tk : Takes X W) (ho : PE X a to) (hi : PE X b ti) (hs : ∀ o i, subscripted b true o i = runValue (.builtin "lifetime.subscript" ⟨[o, i], []⟩)) : PE X (.Subscript a b pos) (tGetS C sp (WE W) to ti) := by
  refine ⟨fun pins s σ H Q I h => ?_⟩
  refine Subscript_ (binT ho hi I h fun v u s2 x y H2 I2 rx ry q => ?_)
  obtain ⟨a', dx, fs, rfl, ha, q⟩ := q
  cases (show v = Value.ref a' from rx)
  obtain ⟨f, fd, F, m, bF, hfn⟩ := M.ex
  obtain ⟨mA, J, _⟩ := ins_get I2.hok ha
  obtain ⟨od, J, _⟩ := J.look
  obtain ⟨m0, hF⟩ := I2.fr
  have hl := F.len _ _ _ _ q
  refine PySem.W.sub_K hF I2.ok.mod.kin J m.at_ hfn m.fn ?_ (hs _ _)
  refine wpAny_call (codeAny_mono (F.run X.A.in1 X.stack s2 H2 ⟨[.ref a', u], []⟩ [.ref a', u] [.ref a', y] Q (WE W σ) hr.in1 I2.env0.in1 (by
    have := bF s2 [.ref a', u] I2.kIn (by rw [List.append_nil, ← hl]; rfl)
    simpa using this) (.cons rfl (.cons ry .nil)) q) fun r s' hq => ?_)
  cases r with
  | error er => exact passAt tk σ pins H2 s2 er s' I2 hq
  | ok fl =>
    cases fl with
    | ret u => exact I2.after hq
    | next => exact False.elim hq
    | brk => exact False.elim hq
    | cont => exact False.elim hq
end
section
variable {K : PySem.W.Frag} {H0 H1 H2 H : Hp} {G : Cells K} {α γ β ρ : Type} {D : Ends} {u : TS} {r : Rp α} {q : Rp β} {qi : Rp γ}
/-- try: x = o[i] -/
theorem q_tryG {i j : Nat} {C : Addr} {names : List Str} {c : Value} {ts : Addr → Value → Option Addr → TS} {Wout : WX} {m : α → γ → M β} {to ti : TE} {xo : α} {xi : γ} {o : M β} (h : Ev r to G xo) (h' : Ev qi ti G xi) (M : Mono r) (N : Mono qi) (I : InsR K C r names) (e : m xo xi = o)
    (w : WOk H0 G (wAs K c j ts Wout { D with nx := u D }) o) (k : ∀ b, o = .ok b → Sv H0 (G.set i (fc q b)) u D) (F : Frz K q := by infer_instance) :
    Sv H0 G (tSeq (fun D σ H => tAsg (tGetS C (spX (K := K) (aC r (aC qi aN)) q fun a => m a.1 a.2.1) (WE (wAs K c j ts Wout D)) to ti) (gName i) D σ H) u) D := fun σ H ⟨H1, e1, E⟩ =>
  h H1 σ H E _ fun v H2 e2 hv => h' H1 σ H2 (E.grow e2) _ fun vi H3 e3 hi => by
    obtain ⟨a, dx, fs, ea, ha, _⟩ := I.ins hv
    refine ⟨a, dx, fs, ea, e3 _ _ ha, (xo, xi, ()), ⟨v, _, rfl, M.up e3 hv, vi, _, rfl, hi, rfl⟩, by show NStk (m xo xi); rw [e]; exact w.1, fun b hb v H4 e4 hv => k b (e ▸ hb) _ _ ⟨H1, e1, ((E.grow e2).grow e3).put (R := fz K q) (as := []) e4 (fun _ z => nomatch z) ⟨rfl, stb hv⟩⟩,
      fun x fs he d H4 e4 hn hx => w.2 x fs (e ▸ he) σ H3 H4 ⟨H1, e1, (E.grow e2).grow e3⟩ e4 d hn hx⟩
end
/-! ### properties -/
structure CalP (P : Program) (w : World) (K : PySem.W.Frag) (mg : Str → Option Value) (base : Heap) (C : Addr) (f : Str) (k : Nat) (sp : Sp) : Prop where
  ex : ∃ (p g : Addr) (fd : FuncData), PropOf K C f p g ∧ FnOk P w K mg base CX0 k g fd ["self"] sp ∧ L2.Binds K fd ["self"] []
theorem pe_propK {X : Cx} (K : PySem.W.Frag) {C : Addr} {f : Str} {k : Nat} {sp : Sp} {e : Expr} {ta : TE} {pos : Pos} (M : CalP X.prog X.w X.K X.mg X.base C f k sp) (he : PE X e ta) (c : Cls X.K C) (hr : Room (k + 1) X.A) (hab : attributeBase e f X.env (eval e X.env) = eval e X.env := by rfl) : PE X (.Attribute e f pos) (tProp C sp [] E0 ta) := by
  obtain ⟨p, g, fd, hp, F, b⟩ := M.ex
  exact pe_prop he c hp F hr b .nil pass0 hab
theorem a_prop {K : PySem.W.Frag} {G : Cells K} {α β : Type} {C : Addr} {names : List Str} {r : Rp α} {q : Rp β} {x : α} {z : β} {m : α × Unit → M β} {ta : TE} (h : Ev r ta G x) (M : Mono r) (I : InsR K C r names) (e : MOk m (x, ()) z) : Ev q (tProp C (spM (aC r aN) q m) [] E0 ta) G z := fun H0 σ H E Q k => h H0 σ H E _ fun v H1 e1 hv => by
  obtain ⟨a, dx, fs, ea, ha, _⟩ := I.ins hv
  subst ea
  exact ⟨a, dx, fs, rfl, ha, (x, ()), z, ⟨_, _, rfl, hv, rfl⟩, e, fun w H2 e2 hw => k w H2 (e1.trans e2) hw⟩
/-! ### an __init__ whose one default is () -/
structure CalD (P : Program) (w : World) (K : PySem.W.Frag) (mg : Str → Option Value) (base : Heap) (C : Addr) (k : Nat) (ps : List Str) (sp : Sp) (d : Addr) : Prop where
  ex : ∃ (f : Addr) (fd : FuncData), FnOk P w K mg base CX0 k f fd ps sp ∧ Mk K C f ∧ L2.Binds K fd ps [.ref d]
  tp : ∃ (o : Obj) (n : Nat), K.lookup d = some o ∧ o.cls = .type "tuple" ∧ o.data = .seq #[] n
theorem pe_mkI0 {X : Cx} {C d : Addr} {k : Nat} {ps : List Str} {sp : Sp} {x : Str} {p pos : Pos} (I : CalD X.prog X.w X.K X.mg X.base C k ps sp d) (hm : X.mg x = some (.ref C)) (hr : Room (k + 1) X.A) (hg : Gl X x := by rfl) (hdb : (x == ("__debug__" : Str)) = false := by decide) : PE X (.Call (.Name x p) [] [] pos) (tMake C sp [.ref d] E0 tNil) := by
  obtain ⟨f, fd, F, M, b⟩ := I.ex
  exact pe_make0 M F hr hg hm b (.cons rfl .nil) pass0 hdb
/-- the empty tuple of the written part -/
def NilT (K : PySem.W.Frag) (d : Addr) : Prop := ∃ (o : Obj) (n : Nat), K.lookup d = some o ∧ o.cls = .type "tuple" ∧ o.data = .seq #[] n
theorem nw_mkOM0 {K : PySem.W.Frag} {G : Cells K} {α β : Type} {C d : Addr} {f : Str} {r : Rp β} {q : Rp α} {m : List α × Unit → M (List β)} {xs : List β} {E : XK} (hd : NilT K d) (e : MOk m ([], ()) xs) : Nw (nOne K C f r) (tMake C (spOneM K C f r (aC (rEi K q) aN) m) [.ref d] E tNil) G xs := fun H0 σ H E1 Q k x dx hx hdx hne => by
  have s1 : Same H (upd (upd H dx (.own x)) x (.ins C dx [])) := fun b o hb => by rw [upd_ne (ne_of_none hb hx), upd_ne (ne_of_none hb hdx)]; exact hb
  obtain ⟨o, n, h1, h2, h3⟩ := hd
  refine ⟨x, dx, [.ref d], ([], ()), xs, rfl, upd_same, ⟨_, _, rfl, ⟨d, [], rfl, .inr (.inr ⟨o, #[], n, h1, h2, h3, Nat.zero_le _, .nil⟩), .nil⟩, rfl⟩, e, fun l us H' keep hl h1 h2 z hz => ⟨rfl, ?_⟩⟩
  have hlx : x ≠ l := fun q => by rw [← q, upd_same] at hl; cases hl
  have hl1 : H l = none := s1.free hl
  refine k _ H' [x, l] (fun b o hb => keep b o (ne_of_none hb hx) (s1 _ _ hb)) (fun b hb => ?_) ⟨⟨x, dx, l, us, rfl, rfl, hlx, h1, h2, z⟩, hz⟩
  rcases List.mem_cons.mp hb with q | q
  · rw [q]; exact hx
  · cases List.mem_singleton.mp q
    exact hl1
/-! ### pop -/
theorem a2_dropLast {α β : Type} {R : α → β → Prop} {vs : List α} {xs : List β} (h : A2 R vs xs) : A2 R vs.dropLast xs.dropLast := by
  induction h with
  | nil => exact .nil
  | @cons a b as bs h1 h2 ih =>
    cases h2 with
    | nil => exact .nil
    | cons h3 h4 => exact .cons h1 ih
section
variable {K : PySem.W.Frag} {H0 : Hp} {G : Cells K} {α : Type} {r : Rp α} {u : TS} {D : Ends} {i : Nat} {xs : List α}
theorem l_pop (hi : G[i]? = some (some (.ow (nl K r) xs))) (hz : 0 < xs.length) (k : Nx H0 (G.set i (some (.ow (nl K r) xs.dropLast))) D.nx) : Sv H0 G (tDrop (tBM0 K "list" rPop (tVar i))) D := fun σ H ⟨H1, e1, E⟩ => by
  obtain ⟨own, h1, h2, h3⟩ := id E.at_
  obtain ⟨v, hv, p, vs, ea, ev, hp, z⟩ := h3 i _ hi
  subst ev
  have hl := z.len
  obtain ⟨y, hy⟩ : ∃ y, vs[vs.length - 1]? = some y := ⟨_, List.getElem?_eq_getElem (by omega)⟩
  refine ⟨_, hv, .inl ⟨rfl, vs, SqL.of hp⟩, p, vs, y, rfl, rfl, hp, hy, k _ _ ⟨H1, e1, ?_⟩⟩
  have x0 : ExT K H (upd H p (.lst vs.dropLast)) := ext_upd hp fun z => z
  have z2 : A2 (Stb K r (upd H p (.lst vs.dropLast))) vs xs := z.imp fun _ _ q => q.up x0
  refine E.mut (as := [p]) (R := nl K r) (R' := nl K r) hi hv x0 (fun c o hc ho => ?_) (fun w bs hw ⟨p', vs', e1, e2, _, _⟩ => ?_) ⟨p, _, rfl, rfl, upd_same, ?_⟩
  · rw [upd_ne fun z => hc (by rw [z]; exact List.mem_singleton.mpr rfl)]
    exact ho
  · rw [hv] at hw
    cases hw
    cases e2
    exact e1
  · exact a2_dropLast z2
theorem q_pop (hi : G[i]? = some (some (.ow (nl K r) xs))) (hz : 0 < xs.length) (k : Sv H0 (G.set i (some (.ow (nl K r) xs.dropLast))) u D) : Sv H0 G (tSeq (tDrop (tBM0 K "list" rPop (tVar i))) u) D := l_pop (D := { D with nx := u D }) hi hz k
end
/-! ### str of an own instance -/
def rStrO (C : Addr) (sp : Sp) : List V → Hp → VK → Prop := fun xs H Q => ∃ a dx fs, xs = [.ref a] ∧ H a = some (.ins C dx fs) ∧ sp [.ref a] H (fun v H' => (∃ z, v = .str z) ∧ Q v H') E0
theorem k_strO {X : Cx} {C : Addr} {k : Nat} {ps : List Str} {sp : Sp} (M : CalM X.prog X.w X.K X.mg X.base CX0 C "__str__" k ps sp) (hr : Room (k + 2) X.A) : CallR X (.type "str") (rStrO C sp) := by
  intro pins s σ H xs us Q I r h
  obtain ⟨a, dx, fs, rfl, ha, q⟩ := h
  cases r with
  | cons rx rr =>
    cases rr
    cases (show _ = Value.ref a from rx)
    obtain ⟨f, fd, F, m, bF⟩ := M.ex
    obtain ⟨mA, J, _⟩ := ins_get I.hok ha
    obtain ⟨od, J, _⟩ := J.look
    have hr2 : Room k X.A.in1.in1 := Room.in1 (Room.in1 hr)
    have hl := F.len _ _ _ _ q
    refine PySem.W.kso_call hr2.units0 I.kIn J m.at_ m.fn ?_
    refine wpAny_call (codeAny_mono (F.run X.A.in1.in1 X.stack s H ⟨[.ref a], []⟩ [.ref a] [.ref a] _ E0 hr2 I.env0.in1.in1 (by
      have := bF s [.ref a] I.kIn (by rw [List.append_nil, ← hl]; rfl)
      simpa using this) (.cons rfl .nil) q) fun r s' hq => ?_)
    cases r with
    | error er => exact False.elim hq
    | ok fl =>
      cases fl with
      | ret u =>
        obtain ⟨v, H', I3, rv, ⟨z, ez⟩, q3⟩ := I.after hq
        subst ez
        obtain ⟨t, et⟩ := rv
        subst et
        exact ⟨.str z, H', I3, ⟨t, rfl⟩, q3⟩
      | next => exact False.elim hq
      | brk => exact False.elim hq
      | cont => exact False.elim hq
theorem a_strO {K : PySem.W.Frag} {G : Cells K} {α : Type} {C : Addr} {names : List Str} {r : Rp α} {x : α} {z : Str} {m : α × Unit → M Str} {ta : TE} (h : Ev r ta G x) (M : Mono r) (I : InsR K C r names) (e : MOk m (x, ()) z) : Ev rS (tCB (rStrO C (spM (aC r aN) rS m)) (tCons ta tNil)) G z := fun H0 σ H E Q k => h H0 σ H E _ fun v H1 e1 hv => by
  obtain ⟨a, dx, fs, ea, ha, _⟩ := I.ins hv
  subst ea
  exact ⟨a, dx, fs, rfl, ha, (x, ()), z, ⟨_, _, rfl, hv, rfl⟩, e, fun w H2 e2 hw => ⟨⟨z, hw.1⟩, k w H2 (e1.trans e2) hw⟩⟩
/-! ### from the top's facts -/
section
variable {P : Program} {w : World} {K : PySem.W.Frag} {mg : Str → Option Value} {base : Heap} {x q c : Str} {st : Stmt} {m k : Nat} {C : Addr} {ps N : List Str} {sp : Sp}
theorem calG_of (F : DfE K C "__getitem__" q st m) (S : FnScope N ps (defScope st)) (len : ∀ vs H Q E, sp vs H Q E → vs.length = ps.length) (b : BindE "__getitem__" q st ps m)
    (hbody : ∀ (cdv : Value) (f : Addr) (A : Around) (outer : List PySem.Env) (s : Shared) (H : Hp) (vs : List V) (Q : VK) (E : XK), Room k (A.deeper (envOfC q (defScope st) s.heap.objs.size f cdv)) → sp vs H Q E →
      ∃ t, PSs (cxOf (L2.CX P w) P w K mg base N q (defScope st) f cdv A outer s H E) (defBody st) t ∧ t { nx := fun _ H' => Q .non H', rt := Q } (start N vs) H) : CalG P w K mg base C (k + 1) ps sp := by
  obtain ⟨f, fd, F, h1, h2⟩ := F.ex
  refine ⟨f, fd, F.ok S len fun cdv A outer s H vs Q E hr h => hbody cdv f A outer s H vs Q E hr h, ⟨h1, h2, F.kp⟩, F.binds b, ?_⟩
  obtain ⟨oc, od, dV, kV, doc, pm, an, cdv, ct, osl, rfl, lk, _⟩ := F.ex
  unfold PySem.W.fnIn
  rw [lk]
/-- a property's getter -/
structure DfQ (K : PySem.W.Frag) (C : Addr) (x q : Str) (st : Stmt) : Prop where
  ex : ∃ (p f : Addr) (fd : FuncData), FunE K x q st 0 f fd ∧ PropOf K C x p f
theorem calP_of (F : DfQ K C x q st) (S : FnScope N ["self"] (defScope st)) (len : ∀ vs H Q E, sp vs H Q E → vs.length = (["self"] : List Str).length) (b : BindE x q st ["self"] 0)
    (hbody : ∀ (cdv : Value) (f : Addr) (A : Around) (outer : List PySem.Env) (s : Shared) (H : Hp) (vs : List V) (Q : VK) (E : XK), Room k (A.deeper (envOfC q (defScope st) s.heap.objs.size f cdv)) → sp vs H Q E →
      ∃ t, PSs (cxOf CX0 P w K mg base N q (defScope st) f cdv A outer s H E).nox (defBody st) t ∧ t { nx := fun _ H' => Q .non H', rt := Q } (start N vs) H) : CalP P w K mg base C x (k + 1) sp := by
  obtain ⟨p, f, fd, F, h1⟩ := F.ex
  exact ⟨p, f, fd, h1, F.ok S len fun cdv A outer s H vs Q E hr h => (hbody cdv f A outer s H vs Q E hr h).imp fun t h => ⟨h.1.nox, h.2⟩, F.binds b⟩
/-- an __init__ with one default, () at d -/
structure DfE0 (K : PySem.W.Frag) (C : Addr) (q : Str) (st : Stmt) (d : Addr) : Prop where
  ex : ∃ (f T : Addr) (oc : Value) (od : Option Addr) (kV doc pm : Value) (an : Option Addr) (cdv ct : Value) (osl : Array (Option Value)) (oT o : Obj) (n n0 : Nat),
    K.lookup f = some ⟨oc, od, .func (PySem.W.fnOf "__init__" q (defArgs st) (defBody st) (defScope st) (.ref T) kV doc pm an cdv ct), osl⟩ ∧ PySem.W.codeIn K cdv q = true ∧ K.lookup T = some oT ∧ oT.data = .seq #[.ref d] n ∧
    K.lookup d = some o ∧ o.cls = .type "tuple" ∧ o.data = .seq #[] n0 ∧ PySem.W.keepIn K (.ref f) = true ∧ PySem.W.findIn K (.ref C) "__init__" = some (some (.ref f)) ∧ PySem.W.isFn K (.ref f) = true
theorem calD_of {d : Addr} {p1 p2 : Str} (T : ClsF K mg c) (F : DfE0 K (cA K c) q st d) (S : FnScope N [p1, p2] (defScope st)) (len : ∀ vs H Q E, sp vs H Q E → vs.length = ([p1, p2] : List Str).length)
    (bD : ∀ (T : Addr) (kV doc pm : Value) (an : Option Addr) (cdv ct u v : Value), ∃ k, bindArgs (PySem.W.fnOf "__init__" q (defArgs st) (defBody st) (defScope st) (.ref T) kV doc pm an cdv ct) ⟨[u], []⟩ = seqItems? (.ref T) >>= k ∧ k (some #[v]) = pure ([p1, p2].zip [u, v]))
    (hbody : ∀ (cdv : Value) (f : Addr) (A : Around) (outer : List PySem.Env) (s : Shared) (H : Hp) (vs : List V) (Q : VK) (E : XK), Room k (A.deeper (envOfC q (defScope st) s.heap.objs.size f cdv)) → sp vs H Q E →
      ∃ t, PSs (cxOf CX0 P w K mg base N q (defScope st) f cdv A outer s H E).nox (defBody st) t ∧ t { nx := fun _ H' => Q .non H', rt := Q } (start N vs) H) : CalD P w K mg base (cA K c) (k + 1) [p1, p2] sp d := by
  obtain ⟨f, T0, oc, od, kV, doc, pm, an, cdv, ct, osl, oT, o, n, n0, lk, hc, lT, dT, ld, cd, dd, kp, h1, h2⟩ := F.ex
  have F2 : FunE K "__init__" q st 1 f (PySem.W.fnOf "__init__" q (defArgs st) (defBody st) (defScope st) (.ref T0) kV doc pm an cdv ct) := ⟨⟨_, _, _, _, _, _, _, _, _, _, rfl, lk, hc, .inr ⟨T0, oT, [.ref d], n, rfl, lT, dT, rfl, by decide⟩⟩, kp⟩
  refine ⟨⟨f, _, F2.ok S len fun cdv A outer s H vs Q E hr h => (hbody cdv f A outer s H vs Q E hr h).imp fun t h => ⟨h.1.nox, h.2⟩, ⟨T.makes, h1, h2, T.kp⟩, ?_⟩, o, n0, ld, cd, dd⟩
  intro s us X hlen
  have hl1 : us.length = 1 := by
    rw [List.length_append] at hlen
    have hlen : us.length + 1 = 2 := hlen
    omega
  obtain ⟨u, rfl⟩ := List.length_eq_one_iff.mp hl1
  obtain ⟨k, e1, e2⟩ := bD T0 kV doc pm an cdv ct u (.ref d)
  refine BindsTo.of_looks fun M => ?_
  rw [e1]
  exact looks_items X lT dT (.of_pure e2)
end
end Gt
/-! Gt24: records: instances of own classes, their fields owned things; made by an __init__ that may raise. -/
namespace Gt
open PySem PySem.Spec PyProof.Rows L2
/-- the fields of an instance, and what they own -/
structure RF (K : PySem.W.Frag) (α : Type) where
  names : List Str
  rep : Hp → List (Str × V) → α → List Addr → Prop
  ns : ∀ {H : Hp} {fs : List (Str × V)} {x : α} {as : List Addr}, rep H fs x as → fs.map (·.1) = names
  stay : ∀ {H H' : Hp} {fs : List (Str × V)} {x : α} {as : List Addr}, rep H fs x as → ExT K H H' → (∀ p, p ∈ as → ∀ o, H p = some o → H' p = some o) → rep H' fs x as
  there : ∀ {H : Hp} {fs : List (Str × V)} {x : α} {as : List Addr}, rep H fs x as → ∀ p, p ∈ as → ∃ o, H p = some o ∧ ¬ isTup o
section
variable {K : PySem.W.Frag} {α β γ ρ : Type}
def fN : RF K Unit where
  names := []
  rep := fun _ fs _ as => fs = [] ∧ as = []
  ns := fun h => by rw [h.1]; rfl
  stay := fun h _ _ => h
  there := fun h p hp => by rw [h.2] at hp; cases hp
def fC (f : Str) (R : Rs K α) (F : RF K β) : RF K (α × β) where
  names := f :: F.names
  rep := fun H fs x as => ∃ v rest a1 a2, fs = (f, v) :: rest ∧ as = a1 ++ a2 ∧ R.rep H v x.1 a1 ∧ F.rep H rest x.2 a2
  ns := fun ⟨v, rest, a1, a2, e1, _, _, h⟩ => by rw [e1, List.map_cons, F.ns h]
  stay := fun ⟨v, rest, a1, a2, e1, e2, h1, h2⟩ x k => ⟨v, rest, a1, a2, e1, e2, R.stay h1 x (fun p hp => k p (by rw [e2]; exact List.mem_append_left _ hp)), F.stay h2 x (fun p hp => k p (by rw [e2]; exact List.mem_append_right _ hp))⟩
  there := fun ⟨v, rest, a1, a2, e1, e2, h1, h2⟩ p hp => by
    rw [e2] at hp
    rcases List.mem_append.mp hp with q | q
    · exact R.there h1 p q
    · exact F.there h2 p q
def nRec (K : PySem.W.Frag) (C : Addr) (F : RF K α) : Rs K α where
  rep := fun H v x as => ∃ a dx fs bs, v = .ref a ∧ as = a :: bs ∧ H a = some (.ins C dx fs) ∧ F.rep H fs x bs
  stay := fun ⟨a, dx, fs, bs, e1, e2, h1, h2⟩ x k => ⟨a, dx, fs, bs, e1, e2, k a (by rw [e2]; exact List.mem_cons_self ..) _ h1, F.stay h2 x (fun p hp => k p (by rw [e2]; exact List.mem_cons_of_mem _ hp))⟩
  there := fun ⟨a, dx, fs, bs, e1, e2, h1, h2⟩ p hp => by
    rw [e2] at hp
    rcases List.mem_cons.mp hp with q | q
    · rw [q]; exact ⟨_, h1, fun z => z⟩
    · exact F.there h2 p q
/-- as it came -/
def rRec (K : PySem.W.Frag) (C : Addr) (F : RF K α) : Rp α := fun H v x => ∃ as, (nRec K C F).rep H v x as
instance {C : Addr} {F : RF K α} : Mono (rRec K C F) := ⟨fun e ⟨as, h⟩ => ⟨as, (nRec K C F).stay h (ext_same e) fun p _ o ho => e p o ho⟩⟩
theorem rec_ins {C : Addr} {F : RF K α} : InsR K C (rRec K C F) F.names := ⟨fun ⟨as, a, dx, fs, bs, e1, _, h1, h2⟩ => ⟨a, dx, fs, e1, h1, F.ns h2⟩⟩
theorem rec_ins1 {C : Addr} {f : Str} {R : Rs K α} : InsR K C (rRec K C (fC f R fN)) [f] := rec_ins
variable {H0 H1 H2 H H' : Hp} {σ : L2.St} {G G' : Cells K} {r : Rp α} {q : Rp β} {D : Ends} {u : TS} {te ta : TE}
theorem a_noR {i : Nat} {C : Addr} {F : RF K α} {x : α} (h : G[i]? = some (some (.ow (nRec K C F) x))) : Ev (rRec K C F) (tVar i) G x := fun H0 σ H E Q k => by
  obtain ⟨own, _, _, h3⟩ := E.at_
  obtain ⟨v, hv, hr⟩ := h3 i _ h
  exact ⟨v, hv, k v H (Same.refl H) ⟨_, hr⟩⟩
/-- what an owned thing is to those who only look -/
class Bor (K : PySem.W.Frag) {α : Type} (R : Rs K α) (r : outParam (Rp α)) : Prop where
  look : ∀ {H : Hp} {v : V} {x : α} {as : List Addr}, R.rep H v x as → r H v x
instance {r : Rp α} : Bor K (fz K r) r := ⟨fun ⟨_, h⟩ => h _ (ExT.refl _)⟩
instance {C : Addr} {F : RF K α} : Bor K (nRec K C F) (rRec K C F) := ⟨fun h => ⟨_, h⟩⟩
/-- the field f of these -/
def FldAt (F : RF K α) (f : Str) (R : Rs K β) (get : α → β) : Prop := ∀ H fs x as, F.rep H fs x as → ∃ v bs, fs.lookup f = some v ∧ R.rep H v (get x) bs
theorem fld_hd {f : Str} {R : Rs K α} {F : RF K β} : FldAt (fC f R F) f R (fun x => x.1) := fun H fs x as ⟨v, rest, a1, a2, e1, _, h1, _⟩ => ⟨v, a1, by rw [e1, List.lookup_cons, beq_self_eq_true], h1⟩
theorem fld_tl {f g : Str} {R : Rs K α} {S : Rs K γ} {F : RF K β} {get : β → γ} (h : FldAt F f S get) (ne : (f == g) = false) : FldAt (fC g R F) f S (fun x => get x.2) := fun H fs x as ⟨v, rest, a1, a2, e1, _, _, h2⟩ => by
  obtain ⟨w, bs, l, hr⟩ := h H rest x.2 a2 h2
  exact ⟨w, bs, by rw [e1, List.lookup_cons, ne]; exact l, hr⟩
theorem a_recF {C : Addr} {F : RF K α} {f : Str} {R : Rs K β} {get : α → β} {x : α} {z : β} (h : Ev (rRec K C F) te G x) (fa : FldAt F f R get) (B : Bor K R q) (c : Cls K C) (n : NoAttr K C f) (e : get x = z) : Ev q (tFld K te f) G z := fun H0 σ H E Q k =>
  h H0 σ H E _ fun v H1 e1 ⟨as, a, dx, fs, bs, ea, _, ha, hf⟩ => by
    obtain ⟨w, cs, hl, hw⟩ := fa _ _ _ _ hf
    exact ⟨a, C, dx, fs, w, ea, ha, c, n, hl, k w H1 e1 (e ▸ B.look hw)⟩
/-- .. a tuple, where a list or a tuple is wished -/
theorem a_recE {C : Addr} {F : RF K α} {f : Str} {rt : Rp β} {get : α → List β} {x : α} {z : List β} (h : Ev (rRec K C F) te G x) (fa : FldAt F f (fz K (rT K rt)) get) (c : Cls K C) (n : NoAttr K C f) (e : get x = z) : Ev (rEi K rt) (tFld K te f) G z := ei_T (a_recF (R := fz K (rT K rt)) h fa inferInstance c n e)
/-! ### what __init__ promises -/
/-- H' has made these fields at p, and nothing else is changed -/
structure RecR (K : PySem.W.Frag) (C : Addr) (F : RF K α) (H : Hp) (p : Addr) (x : α) (H' : Hp) : Prop where
  ex : ∃ dx fs as, H' p = some (.ins C dx fs) ∧ F.rep H' fs x as ∧ (∀ q, q ∈ as → H q = none)
  keep : ∀ c o, c ≠ p → H c = some o → H' c = some o
def spRec (K : PySem.W.Frag) (C : Addr) (F : RF K β) (A : Ra α) (m : α → M β) : Sp := fun vs H Q E => ∃ p dx ws a, vs = .ref p :: ws ∧ H p = some (.ins C dx []) ∧ A H ws a ∧ NStk (m a) ∧ (∀ b, m a = .ok b → ∀ H', RecR K C F H p b H' → Q .non H') ∧
  ∀ x fs, m a = .error (.ex x fs) → ∀ d H', (∀ c o, c ≠ p → H c = some o → H' c = some o) → H d = none → XR K H' d fs → E (.ref (cA K x)) (some d) H'
def tMakeS (C : Addr) (sp : Sp) (E : L2.St → XK) (t : TA) : TE := fun σ H Q => t σ H fun vs H1 => ∀ x dx, H1 x = none → H1 dx = none → dx ≠ x →
  sp (.ref x :: vs) (upd (upd H1 dx (.own x)) x (.ins C dx [])) (fun v H2 => v = .non ∧ Q (.ref x) H2) (E σ)
/-- an expression that may raise; what it lets out stands in it -/
def EvE (H0 : Hp) (R : Rs K α) (te : TE) (G : Cells K) (o : M α) : Prop := ∀ σ H, Have H0 G σ H → ∀ Q : VK, (∀ b, o = .ok b → ∀ v H' as, Same H H' → (∀ p, p ∈ as → H p = none) → R.rep H' v b as → Q v H') → te σ H Q
theorem same_made {x dx : Addr} {C : Addr} (hx : H x = none) (hdx : H dx = none) : Same H (upd (upd H dx (.own x)) x (.ins C dx [])) := fun b o hb => by rw [upd_ne (ne_of_none hb hx), upd_ne (ne_of_none hb hdx)]; exact hb
theorem ee_make {C : Addr} {F : RF K β} {A : Ra α} {a : α} {m : α → M β} {W : WX} {t : TA} {o : M β} (hA : EvA A t G a) (M : MonoA A) (e : m a = o) (w : WOk H0 G W o) : EvE H0 (nRec K C F) (tMakeS C (spRec K C F A m) (WE W) t) G o := fun σ H ⟨H1, e1, E⟩ Q k =>
  hA H1 σ H E _ fun vs H2 e2 hvs x dx hx hdx hne => by
    have s1 : Same H2 (upd (upd H2 dx (.own x)) x (.ins C dx [])) := same_made hx hdx
    refine ⟨x, dx, vs, a, rfl, upd_same, M.up s1 hvs, by rw [e]; exact w.1, fun b hb H' hr => ⟨rfl, ?_⟩, fun y fs hy d H' kp hd hx2 => ?_⟩
    · obtain ⟨⟨dx', fs, as, h1, h2, h3⟩, kp⟩ := hr
      refine k b (e ▸ hb) _ H' (x :: as) (e2.trans fun b o hb => kp b o (ne_of_none hb hx) (s1 _ _ hb)) (fun p hp => ?_) ⟨x, dx', fs, as, rfl, rfl, h1, h2⟩
      rcases List.mem_cons.mp hp with z | z
      · rw [z]; exact free_back e2 hx
      · exact free_back (e2.trans s1) (h3 p z)
    · exact w.2 y fs (e ▸ hy) σ H2 H' ⟨H1, e1, E.grow e2⟩ (fun b o hb => kp b o (ne_of_none hb hx) (s1 _ _ hb)) d (s1.free hd) hx2
/-- .. its field f -/
theorem ee_fld {C : Addr} {F : RF K α} {f : Str} {r' : Rp β} {get : α → β} {o : M α} {o' : M β} (h : EvE H0 (nRec K C F) te G o) (fa : FldAt F f (fz K r') get) (c : Cls K C) (n : NoAttr K C f) (e : ∀ b, o = .ok b → o' = .ok (get b)) : EvE H0 (fz K r') (tFld K te f) G o' := fun σ H hv Q k =>
  h σ H hv _ fun b hb v H' as s hn ⟨a, dx, fs, bs, ea, _, ha, hf⟩ => by
    obtain ⟨w, cs, hl, hw⟩ := fa _ _ _ _ hf
    exact ⟨a, C, dx, fs, w, ea, ha, c, n, hl, k _ (e b hb) w H' cs s (fun p hp => by rw [hw.1] at hp; cases hp) hw⟩
theorem ee_callS {A : Ra γ} {g : γ} {m : γ → M β} {W : WX} {t : TA} {o : M β} (h : EvA A t G g) (e : m g = o) (w : WOk H0 G W o) [F : Frz K q] : EvE H0 (fz K q) (tCallS (spX (K := K) A q m) (WE W) t) G o := fun σ H ⟨H1, e1, E⟩ Q k =>
  h H1 σ H E _ fun vs H2 e2 z => ⟨g, z, by rw [e]; exact w.1, fun b hb v H3 e3 hv => k b (e ▸ hb) v H3 [] (e2.trans e3) (fun _ z => nomatch z) ⟨rfl, stb hv⟩,
    fun x fs he d H3 e3 hn hx => w.2 x fs (e ▸ he) σ H2 H3 ⟨H1, e1, E.grow e2⟩ e3 d hn hx⟩
theorem l_asgE {i : Nat} {R : Rs K α} {o : M α} (h : EvE H0 R te G o) (k : ∀ b, o = .ok b → Nx H0 (G.set i (some (.ow R b))) D.nx) : Sv H0 G (tAsg te (gName i)) D := fun σ H ⟨H1, e1, E⟩ =>
  h σ H ⟨H1, e1, E⟩ _ fun b hb v H' as s hn hr => k b hb _ _ ⟨H1, e1, E.put s hn hr⟩
theorem q_asgE {i : Nat} {R : Rs K α} {o : M α} (h : EvE H0 R te G o) (k : ∀ b, o = .ok b → Sv H0 (G.set i (some (.ow R b))) u D) : Sv H0 G (tSeq (tAsg te (gName i)) u) D := l_asgE (D := { D with nx := u D }) h k
/-- try: x = e, e such an expression of which tb tells how it hangs on what it lets out -/
theorem q_tryE {i j : Nat} {c : Value} {ts : Addr → Value → Option Addr → TS} {Wout : WX} {R : Rs K α} {tb : WX → TE} {o : M α} (h : EvE H0 R (tb (wAs K c j ts Wout { D with nx := u D })) G o) (k : ∀ b, o = .ok b → Sv H0 (G.set i (some (.ow R b))) u D) :
    Sv H0 G (tSeq (fun D σ H => tAsg (tb (wAs K c j ts Wout D)) (gName i) D σ H) u) D := l_asgE (D := { D with nx := u D }) h k
end
/-! ### in __init__ -/
section
variable {K : PySem.W.Frag} {α β : Type} {H0 H : Hp} {σ : L2.St} {G : Cells K} {r : Rp α} {D : Ends} {te : TE} {t : TA}
/-- .. in a def that lets nothing out -/
theorem nw_mkR {C : Addr} {F : RF K β} {A : Ra α} {a : α} {m : α → M β} {b : β} {E' : L2.St → XK} (hA : EvA A t G a) (M : MonoA A) (e : MOk m a b) : Nw (nRec K C F) (tMakeS C (spRec K C F A m) E' t) G b := fun H0 σ H E Q k =>
  hA H0 σ H E _ fun vs H2 e2 hvs x dx hx hdx hne => by
    have e : m a = .ok b := e
    have s1 : Same H2 (upd (upd H2 dx (.own x)) x (.ins C dx [])) := same_made hx hdx
    refine ⟨x, dx, vs, a, rfl, upd_same, M.up s1 hvs, nstk_ok e, fun b' hb H' hr => ⟨rfl, ?_⟩, fun y fs hy => by rw [e] at hy; cases hy⟩
    rw [e] at hb
    cases hb
    obtain ⟨⟨dx', fs, as, h1, h2, h3⟩, kp⟩ := hr
    refine k _ H' (x :: as) (e2.trans fun b o hb => kp b o (ne_of_none hb hx) (s1 _ _ hb)) (fun p hp => ?_) ⟨x, dx', fs, as, rfl, rfl, h1, h2⟩
    rcases List.mem_cons.mp hp with z | z
    · rw [z]; exact free_back e2 hx
    · exact free_back (e2.trans s1) (h3 p z)
/-- self.f = e, the one field -/
theorem l_selfI {i : Nat} {p C dx : Addr} {f : Str} {b : α} (hi : G[i]? = some (fc rV (.ref p))) (h0 : H0 p = some (.ins C dx [])) (h : Ev r te G b) (c : Cls K C) (n : NoAttr K C f) (hk : ∀ σ H', RecR K C (fC f (fz K r) fN) H0 p (b, ()) H' → D.nx σ H') (F : Frz K r := by infer_instance) : Sv H0 G (sFld K (tVar i) te f) D := fun σ H ⟨H1, e1, E⟩ =>
  h H1 σ H E _ fun v H2 e2 hv => by
    obtain ⟨own, _, _, h3⟩ := E.at_
    obtain ⟨w, hw, hr⟩ := h3 i _ hi
    have hw2 : w = .ref p := hr.2 H (ExT.refl _)
    subst hw2
    have hp : H2 p = some (.ins C dx []) := e2 _ _ (E.old _ _ (e1 _ _ h0))
    refine ⟨_, hw, p, C, dx, [], rfl, hp, c, n, by decide, hk σ _ ⟨⟨dx, [(f, v)], [], upd_same, ⟨v, [], [], [], rfl, rfl, ⟨rfl, (stb hv).up (ext_upd hp fun z => z)⟩, rfl, rfl⟩, fun q hq => nomatch hq⟩, fun b o nb ho => ?_⟩⟩
    rw [upd_ne nb]
    exact e2 _ _ (E.old _ _ (e1 _ _ ho))
end
section
variable {K : PySem.W.Frag} {α β γ : Type} {H0 : Hp} {G : Cells K} {D : Ends} {u : TS} {t : TA}
/-- try: x = C(..).f -/
theorem q_tryMF {i j : Nat} {C : Addr} {cv : Value} {ts : Addr → Value → Option Addr → TS} {Wout : WX} {F : RF K β} {A : Ra α} {a : α} {m : α → M β} {f : Str} {r' : Rp γ} {get : β → γ} {o : M β} (hA : EvA A t G a) (M : MonoA A) (e : m a = o) (w : WOk H0 G (wAs K cv j ts Wout { D with nx := u D }) o) (fa : FldAt F f (fz K r') get) (c : Cls K C) (n : NoAttr K C f)
    (k : ∀ b, o = .ok b → Sv H0 (G.set i (fc r' (get b))) u D) : Sv H0 G (tSeq (fun D σ H => tAsg (tFld K (tMakeS C (spRec K C F A m) (WE (wAs K cv j ts Wout D)) t) f) (gName i) D σ H) u) D :=
  l_asgE (D := { D with nx := u D }) (o := mb o fun x => .ok (get x)) (ee_fld (ee_make hA M e w) fa c n fun b q => mb_of q) fun b' hb => by
    obtain ⟨b, h1, h2⟩ := mb_ok hb
    cases h2
    exact k b h1
end
/-! ### making, where exceptions may leave -/
section
variable {X : Cx} {k : Nat} {f C : Addr} {fd : FuncData} {ps : List Str} {sp : Sp} {x : Str} {p pos : Pos} {e : Expr} {es : List Expr} {t : TA} {W : WX}
theorem pe_mkIS (I : CalI X.prog X.w X.K X.mg X.base (L2.CX X.prog X.w) C k ps sp) (hm : X.mg x = some (.ref C)) (hr : Room (k + 1) X.A) (tk : Takes X W) (ha : PA X (e :: es) t) (hg : Gl X x := by rfl) (hdb : (x == ("__debug__" : Str)) = false := by decide)
    (he : starEach (e :: es) X.env = (false, eval e X.env) :: starEach es X.env := by rfl) (hpl : (backTo pos (starEach es X.env)).any (·.1) = false := by rfl) : PE X (.Call (.Name x p) (e :: es) [] pos) (tMakeS C sp (WE W) t) := by
  obtain ⟨f, fd, F, M, hb⟩ := I.ex
  refine ⟨fun pins s σ H Q I h => ?_⟩
  refine wpAny_Call_Name_kw (ld_glob I hg hm ?_ hdb)
  refine PySem.W.callWith_K (h₀ := X.base) I.ok.mod.kin M.kp (thn (ha.run pos pins s σ H _ I h) fun us s1 ⟨vs, H1, I1, r, q⟩ => ⟨I1.kIn, ?_⟩) he hpl
  have hq := q (s1.heap.objs.size + 1) s1.heap.objs.size (I1.hok.fresh (Nat.le_succ _)) (I1.hok.fresh (Nat.le_refl _)) (Nat.ne_of_lt (Nat.lt_succ_self _))
  have I2 := Inv.made (C := C) I1
  have r2 : Vals (V.ref (s1.heap.objs.size + 1) :: vs) (Value.ref (s1.heap.objs.size + 1) :: us) := .cons rfl r
  have hl : (Value.ref (s1.heap.objs.size + 1) :: us ++ []).length = ps.length := by
    rw [List.append_nil]
    have e := r2.length
    rw [F.len _ _ _ _ hq] at e
    exact e.symm
  have b1 := hb _ (Value.ref (s1.heap.objs.size + 1) :: us) I2.kIn hl
  rw [List.append_nil] at b1
  refine wpAny_call (make_map (f := f) I1.kIn M.makes M.init (beq_iff_eq.mp M.fn) (codeAny_mono (F.run _ X.stack _ _ ⟨Value.ref (s1.heap.objs.size + 1) :: us, []⟩ (Value.ref (s1.heap.objs.size + 1) :: us) _ _ (WE W σ) (hr.make C us [])
    (I2.env0.make C us []) b1 r2 hq) fun r s' hq' => ?_))
  cases r with
  | error e => exact passAt tk σ pins _ _ e s' I2 hq'
  | ok fl =>
    cases fl with
    | ret u =>
      obtain ⟨v, H', I3, rv, ev, q3⟩ := I2.after hq'
      subst ev
      exact ⟨rv, ⟨V.ref (s1.heap.objs.size + 1), H', I3, rfl, q3⟩⟩
    | next => exact False.elim hq'
    | brk => exact False.elim hq'
    | cont => exact False.elim hq'
end
theorem spRec_len {K : PySem.W.Frag} {C : Addr} {α β : Type} {F : RF K β} {A : Ra α} {m : α → M β} {n : Nat} [L : LenA A n] {vs : List V} {H : Hp} {Q : VK} {E : XK} (h : spRec K C F A m vs H Q E) : vs.length = n + 1 := by
  obtain ⟨p, dx, ws, a, rfl, _, hA, _⟩ := h
  rw [List.length_cons, L.len hA]
section
variable {P : Program} {w : World} {K : PySem.W.Frag} {mg : Str → Option Value} {base : Heap} {q c : Str} {st : Stmt} {m k : Nat} {ps N : List Str} {sp : Sp}
theorem calIX_of (T : ClsF K mg c) (F : DfE K (cA K c) "__init__" q st m) (S : FnScope N ps (defScope st)) (len : ∀ vs H Q E, sp vs H Q E → vs.length = ps.length) (b : BindE "__init__" q st ps m)
    (hbody : ∀ (cdv : Value) (f : Addr) (A : Around) (outer : List PySem.Env) (s : Shared) (H : Hp) (vs : List V) (Q : VK) (E : XK), Room k (A.deeper (envOfC q (defScope st) s.heap.objs.size f cdv)) → sp vs H Q E →
      ∃ t, PSs (cxOf (L2.CX P w) P w K mg base N q (defScope st) f cdv A outer s H E) (defBody st) t ∧ t { nx := fun _ H' => Q .non H', rt := Q } (start N vs) H) : CalI P w K mg base (L2.CX P w) (cA K c) (k + 1) ps sp := by
  obtain ⟨f, fd, F, h1, h2⟩ := F.ex
  exact ⟨f, fd, F.ok S len fun cdv A outer s H vs Q E hr h => hbody cdv f A outer s H vs Q E hr h, ⟨T.makes, h1, h2, T.kp⟩, F.binds b⟩
end
end Gt
/-! Gt25: own classes whose __iter__ walks a tuple; list(o). -/
namespace Gt
open PySem PySem.Spec PyProof.Rows L2
def titObj (l : Addr) (i : Nat) : Obj := { cls := .type "tuple_iterator", data := .fields #[.ref l, .int i 0] }
def ItOT (l it : Addr) (i : Nat) : HO := .ext fun h => h.get? it = some (titObj l i)
section
variable {X : Cx} {CX : CXT} {pins : List (Addr × Obj)} {σ : L2.St} {H H' : Hp} {s s' : Shared} {C fi a it l : Addr} {k : Nat} {fd : FuncData} {ps : List Str} {sp : Sp} {E : XK} {e : Expr} {te : TE} {tg : Expr} {o : HO} {i : Nat}
theorem itOT_ok {P : Program} {w : World} {H : Hp} {h : Heap} (e : h.get? it = some (titObj l i)) : ObjOk P w H h it (ItOT l it i) := ⟨e, ⟨_, e⟩, fun h1 h2 q k => k _ q⟩
theorem itOT_get (I : Inv X pins σ H s) (e : H it = some (ItOT l it i)) : s.heap.get? it = some (titObj l i) := (I.hok it _ e).1
theorem call_iterTup {prog : Program} {w : World} {A : Around} {E : Value → Shared → Prop} {items : Array Value} {Q : Value → Shared → Prop} (hl : s.heap.IsTuple l items) (h : Q (.ref s.heap.objs.size) { s with heap := s.heap.push (titObj l 0) }) : wpAny (model prog w) A (call (.builtin "iter") [.ref l]) Q E s := by
  refine Calls.call_function_entry (by decide +kernel) (by decide +kernel) PySem.W.kdk_entry_iter (PySem.W.kdk_args_iter _) ?_
  unfold Builtin.«iter»
  refine wpAny_bind (m := someArgs "iter" 1 2 _) (wpAny_of_eq (a := [Value.ref l]) (by first | rfl | kernel_rfl!) ?_)
  show wpAny _ _ (pyIter (.ref l) >>= _) _ _ _
  refine wpAny_bind (wpAny_pyIter_tuple hl ?_)
  exact wpAny_pure ⟨_, rfl, h⟩
def rIterNT (K : PySem.W.Frag) (n : Nat) : List V → Hp → VK → Prop := fun xs H Q => ∃ (l : Addr) (zs : List V), xs = [.ref l] ∧ SqT K H l zs ∧ ∀ it, H it = Option.none → n ≤ it → Q (.ref it) (upd H it (ItOT l it 0))
theorem call_iterNT : CallR X (.builtin "iter") (rIterNT X.K X.s_0.heap.objs.size) := by
  intro pins s σ H xs us Q I r h
  obtain ⟨l, zs, rfl, hq, q⟩ := h
  obtain ⟨u, rfl, ru⟩ := r.one
  cases ru
  obtain ⟨its, rv, pl, hz⟩ := I.tuple hq
  refine call_iterTup (show s.heap.IsTuple l its.toArray from pl) ?_
  exact ⟨.ref s.heap.objs.size, _, I.laid (t' := s.toks) (fun b u e => Heap.get?_push_of_some _ e) (Nat.le_refl _) (itOT_ok (Heap.get?_push_size _ rfl)), rfl, q _ (I.hok.fresh (Nat.le_refl _)) I.sz⟩
/-- __iter__ of the class at C hands out a new iterator of the tuple in the field g -/
structure ItOkT (P : Program) (w : World) (K : PySem.W.Frag) (mg : Str → Option Value) (base : Heap) (C : Addr) (g : Str) : Prop where
  ex : ∃ fi : Addr, PySem.W.findIn K (.ref C) "__iter__" = some (some (.ref fi)) ∧ PySem.W.isFn K (.ref fi) = true ∧
    ∀ (A : Around) (outer : List PySem.Env) (s : Shared) (H : Hp) (a dx l : Addr) (fs : List (Str × V)) (zs : List V) (Q : VK) (E : XK), Room 1 A → Env0 P w K mg base A outer s H → H a = some (.ins C dx fs) → fs.lookup g = some (.ref l) → SqT K H l zs →
      (∀ it, H it = none → s.heap.objs.size ≤ it → Q (.ref it) (upd H it (ItOT l it 0))) → codeAny (model P w) A (.call (.ref fi) ⟨[.ref a], []⟩) (CR CX0 outer P w H s Q E) s
theorem run_iterT {A : Around} {g : Str} {Q : Value → Shared → Prop} {dx : Addr} {fs : List (Str × V)} {zs : List V} (hrA : Room 1 A) (hfr : A.frames = X.A.frames) (O : ItOkT X.prog X.w X.K X.mg X.base C g)
    (I : L2.Inv X pins σ H s) (ha : H a = some (.ins C dx fs)) (hl : fs.lookup g = some (.ref l)) (hz : SqT X.K H l zs)
    (h : ∀ it s2, L2.Inv X pins σ H s2 → s2.heap.IsTupleIter it l 0 → FpOk X pins H it → Q (.ref it) s2) :
    wpAny (model X.prog X.w) A (pyIter (.ref a)) Q X.xe s := by
  obtain ⟨mA, J, _⟩ := ins_get I.hok ha
  obtain ⟨od, J, _⟩ := J.look
  obtain ⟨m0, hF⟩ := I.fr
  obtain ⟨fi, hs, hf, F⟩ := O.ex
  refine PySem.W.owit_iter hF I.ok.mod.kin J hs hf ?_
  have e0 : Env0 X.prog X.w X.K X.mg X.base A X.stack s H := by
    have e := I.env0
    exact ⟨by rw [hfr]; exact e.frames, e.mod, e.bs, e.bsz, e.funs, e.frf, e.hok, e.bare⟩
  refine wpAny_call (codeAny_mono (F A X.stack s H a dx l fs zs (fun v H' => ∃ it, H it = none ∧ s.heap.objs.size ≤ it ∧ v = .ref it ∧ H' = upd H it (ItOT l it 0)) (fun _ _ _ => False) hrA e0 ha hl hz fun it h0 h1 => ⟨it, h0, h1, rfl, rfl⟩) fun r s' hq => ?_)
  cases r with
  | error er => exact False.elim hq
  | ok fl =>
    cases fl with
    | next => exact False.elim hq
    | brk => exact False.elim hq
    | cont => exact False.elim hq
    | ret u =>
      obtain ⟨v, H2, I3, rv, it, h0, yg, ev, eH⟩ := I.after hq
      subst ev
      subst eH
      cases (show u = Value.ref it from rv)
      have ho := itOT_get I3 upd_same
      have h1' : upd H it (ItOT l it 0) it = some (.ext fun h => h.get? it = some (titObj l 0)) := upd_same
      have I4 := ItX.inv_drop I3 h1'
      have f4 := ItX.inv_fp I3 h1' (Nat.le_trans I.sz yg)
      rw [ItX.dropH_upd h0] at I4 f4
      show wpAny _ _ (specialOf (.ref it) "__next__") _ _ s'
      refine wpAny_specialOf (name := Str.ofString "__next__") ⟨_, ho, rfl⟩ PySem.F.slot_tuple_iterator_next.lookup ?_
      exact h it s' I4 ⟨_, ho, rfl, rfl⟩ f4
/-- for x in o -/
def iOwnT (K : PySem.W.Frag) (C : Addr) (g : Str) (te : TE) : TI := fun σ H R => te σ H fun x H1 => ∃ a dx fs l zs, x = .ref a ∧ H1 a = some (.ins C dx fs) ∧ fs.lookup g = some (.ref l) ∧ SqT K H1 l zs ∧ R (Itt K l) H1
theorem pi_ownT {g : Str} (he : PE X e te) (O : ItOkT X.prog X.w X.K X.mg X.base C g) (hr : Room 1 X.A) : PI X tg e (iOwnT X.K C g te) := by
  refine ⟨fun pins s σ H R I h => ?_⟩
  refine thn (he.run pins s σ H _ I h) fun u s1 ⟨x, H1, I1, rx, a, dx, fs, l, zs, ex, ea, el, ez, q⟩ => ?_
  subst ex
  cases (show u = Value.ref a from rx)
  exact run_iterT (X := X) hr rfl O I1 ea el ez fun it s2 I2 st fp => ⟨it, [it], _, _, H1, rfl, I2, turn_tuple l it, st, fun b hb => by rw [show b = it by simpa using hb]; exact fp, q⟩

/-! ### list(o) -/
theorem fill_loopT {A1 : Around} {q : Addr} {Rs : Result → Shared → Prop} {zs : List V} (hh : A1.in1.handled = none) (hlq : l ≠ q) (hzs : zs.length ≤ sizeLine) (hl : SqT X.K H l zs) (hdone : ∀ s, Inv X pins σ (upd H q (.lst zs)) s → Rs (.ok (.ret .none)) s) :
    ∀ (m i : Nat) (s : Shared), m + i = zs.length → Inv X pins σ (upd H q (.lst (zs.take i))) s → s.heap.IsTupleIter it l i → FpOk X pins (upd H q (.lst (zs.take i))) it → codeAny (model X.prog X.w) A1 (.builtin "list.extend.loop" ⟨[.ref q, .ref it, .none], []⟩) Rs s := by
  have rd : ∀ ys, SqT X.K (upd H q (.lst ys)) l zs := fun ys => by
    have e : upd H q (.lst ys) l = H l := upd_ne hlq
    unfold SqT Rd at hl ⊢
    simp only [e]
    exact hl
  intro m
  induction m with
  | zero =>
    intro i s hi I st fp
    have hi' : i = zs.length := by omega
    subst hi'
    rw [List.take_length] at I fp
    obtain ⟨its, rv, p, hz⟩ := I.tuple (rd _)
    obtain ⟨f0, f1, f2, f3, f4, f5⟩ := fp
    have hln := rv.length
    refine codeAny_builtin PySem.F.entry_extend_loop ?_
    rw [Around.under_plainId PySem.F.plain_extend_loop _]
    show wpAny _ A1.in1 (pyNext (.ref it) >>= _) _ _ s
    refine wpAny_bind (wpAny_pyNext_tuple_end hh st (show s.heap.IsTuple l its.toArray from p) (by simp; omega) fun h' eb => ?_)
    exact wpAny_pure (hdone _ (I.turned (t' := s.toks) (fun b o hb e => eb b o hb e) f0 f1 f3 f4 f5))
  | succ m ih =>
    intro i s hi I st fp
    have hlt : i < zs.length := by omega
    have hx : zs[i]? = some zs[i] := List.getElem?_eq_getElem hlt
    obtain ⟨its, rv, p, hz⟩ := I.tuple (rd _)
    obtain ⟨u, hu, ru⟩ := rv.get hx
    obtain ⟨f0, f1, f2, f3, f4, f5⟩ := fp
    refine codeAny_builtin PySem.F.entry_extend_loop ?_
    rw [Around.under_plainId PySem.F.plain_extend_loop _]
    show wpAny _ A1.in1 (pyNext (.ref it) >>= _) _ _ s
    refine wpAny_bind (wpAny_pyNext_tuple_item st (show s.heap.IsTuple l its.toArray from p) (x := u) (by simpa using hu) fun h' st' sb => ?_)
    have I1 : Inv X pins σ (upd H q (.lst (zs.take i))) { s with heap := h' } := I.turned (t' := s.toks) (fun b o hb e => (sb.2 b hb).trans e) f0 f1 f3 f4 f5
    show wpAny _ A1.in1 (updateSeq q (·.push u) >>= _) _ _ _
    obtain ⟨z, its2, k2, r2, hl2, e2⟩ := I1.lstM upd_same
    have etk : zs.take (i + 1) = zs.take i ++ [zs[i]] := by rw [List.take_add_one, hx]; rfl
    have hlen : (zs.take i).length < sizeLine := by rw [List.length_take]; omega
    have hl3 := r2.length
    have nq : it ≠ q := fun z => by
      rw [z, upd_same] at f0
      cases f0
    refine wpAny_bind (wpAny_updateSeq e2 rfl (wpAny_pure ⟨plainId_quiet PySem.F.plain_extend_loop _, ?_⟩) (by rw [List.size_toArray]; omega) (by show (its2.toArray.push u).size ≤ sizeLine + 1; rw [Array.size_push, List.size_toArray]; omega))
    have I2 := I1.lset (f := (·.push u)) (its' := its2 ++ [u]) (ys := zs.take i ++ [zs[i]]) (t' := s.toks) upd_same e2 (by simp) (r2.append (.cons ru .nil)) (by rw [List.length_append, List.length_singleton]; omega)
    rw [upd_upd, ← etk] at I2
    refine ih (i + 1) _ (by omega) I2 ?_ ?_
    · exact st'.at fun o e => (Heap.get?_update_ne _ _ _ _ nq).trans e
    · exact ⟨by rw [upd_ne nq]; rw [upd_ne nq] at f0; exact f0, f1, f2, f3, f4, f5⟩
theorem fill_fromT {A1 : Around} {g : Str} {q dx : Addr} {Rs : Result → Shared → Prop} {fs : List (Str × V)} {zs : List V} (hr : Room 1 A1.in1) (hfr : A1.in1.frames = X.A.frames) (hh : A1.in1.handled = none) (O : ItOkT X.prog X.w X.K X.mg X.base C g) (n : NoLen X.K C)
    (I : L2.Inv X pins σ (upd H q (.lst [])) s) (ha : H a = some (.ins C dx fs)) (hq : H q = none) (hl : fs.lookup g = some (.ref l)) (hz : SqT X.K H l zs) (hzs : zs.length ≤ sizeLine) (hlq : l ≠ q)
    (hdone : ∀ s, L2.Inv X pins σ (upd H q (.lst zs)) s → Rs (.ok (.ret .none)) s) (herr : ∀ e s, X.xe e s → Rs (.error e) s) :
    wpAny (model X.prog X.w) A1.in1 (Builtin.List.listExtendWith (.ref q) (.ref a) .none)
      (fun fin s' => match fin with | .done f => Rs (.ok f) s' | .again c => c.quiet = true ∧ codeAny (model X.prog X.w) A1 c Rs s') (fun e s' => Rs (.error e) s') s := by
  have nqa : q ≠ a := (ne_of_none ha hq).symm
  have ha2 : upd H q (.lst []) a = some (.ins C dx fs) := (upd_ne nqa.symm).trans ha
  have hz2 : SqT X.K (upd H q (.lst [])) l zs := by
    have e : upd H q (.lst []) l = H l := upd_ne hlq
    unfold SqT Rd at hz ⊢
    simp only [e]
    exact hz
  obtain ⟨mA, J, _⟩ := ins_get I.hok ha2
  obtain ⟨od, J, _⟩ := J.look
  unfold Builtin.List.listExtendWith
  refine wpAny_bind (J.type.here ?_)
  have same : Builtin.List.listSameRef (.ref q) (.ref a) = false := by simp [Builtin.List.listSameRef, nqa]
  have notL : (Value.ref C == Value.type "list") = false := rfl
  have notT : (Value.ref C == Value.type "tuple") = false := rfl
  simp only [same, notL, notT, Bool.or_false, Bool.false_eq_true, if_false]
  refine wpAny_bind (wpAny_mono (run_iterT (X := X) (Q := fun v s' => ∃ it, v = .ref it ∧ L2.Inv X pins σ (upd H q (.lst [])) s' ∧ s'.heap.IsTupleIter it l 0 ∧ FpOk X pins (upd H q (.lst [])) it) hr hfr O I ha2 hl hz2 fun it s2 I2 st fp => ⟨it, rfl, I2, st, fp⟩) (fun v s2 ⟨it, ev, I2, st, fp⟩ => ?_) fun e s' he => herr e s' he)
  subst ev
  have sw : wpAny (model X.prog X.w) A1.in1 (holding [Value.ref it] (Builtin.List.listLengthHint (.ref a))) (fun b s' => b = true ∧ s' = s2) (fun e s' => Rs (.error e) s') s2 := by
    obtain ⟨mA, J, _⟩ := ins_get I2.hok ha2
    obtain ⟨od, J, _⟩ := J.look
    exact wpAny_holding (hint_yes n I2.kIn J ⟨rfl, rfl⟩)
  refine wpAny_bind (wpAny_mono sw (fun b s3 ⟨eb, es⟩ => ?_) fun _ _ z => z)
  subst eb
  subst es
  have go : ∀ s4, L2.Inv X pins σ (upd H q (.lst [])) s4 → s4.heap.IsTupleIter it l 0 → codeAny (model X.prog X.w) A1 (.builtin "list.extend.loop" ⟨[.ref q, .ref it, .none], []⟩) Rs s4 := fun s4 I4 st4 =>
    fill_loopT hh hlq hzs hz hdone zs.length 0 s4 (by omega) I4 st4 fp
  refine PySem.W.KFB.if_so rfl ?_
  obtain ⟨z, its, k1, r3, hl3, e3⟩ := I2.lstM upd_same
  cases r3
  refine wpAny_bind (wpAny_rule (wpAny_bind ?_))
  show wpAny _ _ (updateSeq q (·.push .none) >>= fun _ => updateSeq q (·.pop)) _ _ _
  refine wpAny_bind (wpAny_updateSeq e3 rfl ?_)
  have I5 := I2.lset (f := (·.push Value.none)) (its' := [Value.none]) (ys := [.non]) (t' := s3.toks) upd_same e3 (by simp) (.cons rfl .nil) (by rw [List.length_singleton, sizeLine_eq]; decide)
  obtain ⟨z4, its4, k4, r4, hl4, e4⟩ := I5.lstM upd_same
  obtain ⟨u4, rfl, ru4⟩ := r4.one
  have nq : it ≠ q := fun z => by
    have := fp.1
    rw [z, upd_same] at this
    cases this
  refine wpAny_updateSeq e4 rfl ?_ (by show 1 ≤ sizeLine; rw [sizeLine_eq]; decide) (by show 0 ≤ sizeLine + 1; exact Nat.zero_le _)
  have I6 := I5.lset (f := (·.pop)) (its := [u4]) (its' := []) (ys := []) (t' := s3.toks) upd_same e4 (by rfl) .nil (Nat.zero_le _)
  rw [upd_upd, upd_upd] at I6
  exact wpAny_pure ⟨plainId_quiet PySem.F.plain_extend_loop _, go _ I6 (st.at fun o e => (Heap.get?_update_ne _ _ _ _ nq).trans ((Heap.get?_update_ne _ _ _ _ nq).trans e))⟩
/-- list(o), o an instance of the class at C whose __iter__ walks the tuple in its field g -/
def rListYT (K : PySem.W.Frag) (C : Addr) (g : Str) : List V → Hp → VK → Prop := fun xs H Q => ∃ a dx fs l zs, xs = [.ref a] ∧ H a = some (.ins C dx fs) ∧ fs.lookup g = some (.ref l) ∧ SqT K H l zs ∧ ∀ q, H q = none → Q (.ref q) (upd H q (.lst zs))
theorem call_listYT {g : Str} (hc : X.calm = true) (O : ItOkT X.prog X.w X.K X.mg X.base C g) (n : NoLen X.K C) (hr : Room 3 X.A) : CallR X (.type "list") (rListYT X.K C g) := by
  intro pins s σ H xs us Q I rv h
  obtain ⟨a, dx, fs, l, zs, rfl, ha, hl, hz, hq⟩ := h
  obtain ⟨its0, _, ⟨o0, ho0, _⟩, hzs⟩ := I.tuple hz
  have hlq : l ≠ s.heap.objs.size := Nat.ne_of_lt (Heap.lt_size ho0)
  obtain ⟨u, rfl, ru⟩ := rv.one
  cases ru
  refine callType_codes (Q₁ := fun obj s₁ => obj = .ref s.heap.objs.size ∧ s₁ = { s with heap := s.heap.push { cls := .type "list", data := .seq #[] } })
    PySem.F.called_list (PySem.F.typeCall_list_1 _) PySem.F.entry_list_init (code_list_new _ ⟨rfl, rfl⟩) ?_
  rintro obj s₁ ⟨rfl, rfl⟩
  have hS : (s.heap.push { cls := .type "list", data := .seq #[] }).get? s.heap.objs.size = some { cls := .type "list", data := .seq #[] } := Heap.get?_push_size _ rfl
  refine ⟨⟨_, hS, rfl⟩, PySem.F.args_list_init_2 _ _, ?_⟩
  have fr := I.hok.fresh (Nat.le_refl _)
  have I1 : L2.Inv X pins σ (upd H s.heap.objs.size (.lst [])) { s with heap := s.heap.push { cls := .type "list", data := .seq #[] } } := I.lnew (its := []) (t' := s.toks) .nil (Nat.zero_le _)
  show wpAny _ _ (do
    let old ← Builtin.List.listItems (.ref s.heap.objs.size)
    Builtin.List.listUpdate (.ref s.heap.objs.size) (fun _ => #[])
    letGo old.toList.reverse
    Builtin.List.listExtendWith (.ref s.heap.objs.size) (.ref a) .none) _ _ _
  unfold Builtin.List.listItems
  refine wpAny_bind (wpAny_bind (wpAny_seqItems hS rfl (wpAny_pure ?_)))
  show wpAny _ _ (updateSeq s.heap.objs.size (fun _ => #[]) >>= fun _ => letGo (#[] : Array Value).toList.reverse >>= fun _ =>
    Builtin.List.listExtendWith (.ref s.heap.objs.size) (.ref a) .none) _ _ _
  refine wpAny_bind (wpAny_updateSeq hS rfl (wpAny_bind (wpAny_letGo ?_)))
  have I2 := I1.lset (f := fun _ => #[]) (its := []) (its' := []) (ys := []) (t' := s.toks) upd_same hS rfl .nil (Nat.zero_le _)
  rw [upd_upd] at I2
  have hr1 : Room 1 X.A.in1.in1 := Room.in1 (Room.in1 hr)
  exact fill_fromT (A1 := X.A.in1) (Rs := wants (fun r s₂ => r = .none ∧ EP X pins σ Q (.ref s.heap.objs.size) s₂) X.xe) hr1 rfl (by have := I.ok.hd hc; exact this) O n I2 ha fr hl hz hzs hlq
    (fun s' I' => ⟨rfl, .ref s.heap.objs.size, _, I', rfl, hq _ fr⟩) fun e s' he => he

end
section
variable {P : Program} {w : World} {K : PySem.W.Frag} {mg : Str → Option Value} {base : Heap} {x q : Str} {st : Stmt} {m k : Nat} {C : Addr} {ps N : List Str} {sp : Sp}
/-- def __iter__(self): return iter(self.g) -/
theorem itOkT_of {g : Str} (F : DfE K C "__iter__" q st 0) (S : FnScope ["self"] ["self"] (defScope st)) (b : BindE "__iter__" q st ["self"] 0)
    (ht : ∀ (f : Addr) (cdv : Value) (A : Around) (outer : List PySem.Env) (s : Shared) (H : Hp) (E : XK), ∃ t, PSs (cxOf CX0 P w K mg base ["self"] q (defScope st) f cdv A outer s H E).nox (defBody st) t ∧
      ∀ (a dx l : Addr) (fs : List (Str × V)) (zs : List V) (Q : VK), H a = some (.ins C dx fs) → fs.lookup g = some (.ref l) → SqT K H l zs → (∀ it, H it = none → s.heap.objs.size ≤ it → Q (.ref it) (upd H it (ItOT l it 0))) →
        t { nx := fun _ H' => Q .non H', rt := Q } (start ["self"] [.ref a]) H) : ItOkT P w K mg base C g := by
  obtain ⟨f, fd, F, h1, h2⟩ := F.ex
  refine ⟨f, h1, h2, fun A outer s H a dx l fs zs Q E hr e0 ha hl hz hq => ?_⟩
  have hB := F.binds b
  obtain ⟨oc, od, dV, kV, doc, pm, an, cdv, ct, osl, rfl, lk, hcd, hD⟩ := F.ex
  obtain ⟨t, h, ht⟩ := ht f cdv A outer s H E
  have KX : K.In s.heap := e0.mod.kin.keeps fun b o e => (e0.bs b o e).1
  exact run_from (CX := CX0) (us := [.ref a]) (vs := [.ref a]) lk hcd S rfl hr e0 (by
    have := hB s [.ref a] KX rfl
    simpa using this) (.cons rfl .nil) h.nox (ht a dx l fs zs Q ha hl hz hq)
end
theorem k_listYT {X : Cx} (K : PySem.W.Frag) {C : Addr} {g : Str} (O : ItOkT X.prog X.w X.K X.mg X.base C g) (n : NoLen X.K C) (hr : Room 3 X.A) (hc : X.calm = true := by rfl) (hK : X.K = K := by rfl) : CallR X (.type "list") (rListYT K C g) := by subst hK; exact call_listYT hc O n hr
theorem nw_recL {K : PySem.W.Frag} {G : Cells K} {α β : Type} {C : Addr} {f : Str} {F : RF K α} {r : Rp β} {get : α → List β} {x : α} {z : List β} {te : TE} (h : Ev (rRec K C F) te G x) (fa : FldAt F f (fz K (rT K r)) get) (e : get x = z) (M : Mono r) (Z : Frz K r) : Nw (nl K r) (tCB (rListYT K C f) (tCons te tNil)) G z := nw_cb (ea_cons h ea_nil) fun H vs ⟨v, ws, ev, ⟨as, a, dx, fs, bs, ea, _, h1, hf⟩, e2⟩ Q k => by
  obtain ⟨w, cs, hl, _, hw⟩ := fa _ _ _ _ hf
  obtain ⟨l, us, el, sq, hz⟩ := hw H (ExT.refl _)
  subst e
  exact ⟨a, dx, fs, l, us, by rw [ev, show ws = [] from e2, ea], h1, by rw [hl, el], sq, fun q hq => k _ _ [q] (same_new hq) (fun b hb => by rw [List.mem_singleton.mp hb]; exact hq) ⟨q, us, rfl, rfl, upd_same, hz.imp fun _ _ w => stb (M.up (same_new hq) w)⟩⟩
section
variable {K : PySem.W.Frag} {G : Cells K} {α : Type} {r : Rp α} {tb : TE} {i : Int} {x : α}
theorem ixc_E {xs : List α} [M : Mono r] (hi : Ev rI tb G i) (hx : atI xs i = some x) : IxC K (rEi K r) xs tb G r x := fun ta h => ev_op h hi fun H u v ⟨p, vs, ev, hp, z⟩ hv Q k => by
  obtain ⟨w, hw, hr⟩ := atI_A2 z hx
  rcases hp with hp | hp
  · exact .inl ⟨p, vs, i, w, ev, hv, SqL.of hp, hw, k w H (Same.refl H) hr⟩
  · exact .inr (.inl ⟨p, vs, i, w, ev, hv, hp, hw, k w H (Same.refl H) hr⟩)
theorem lnc_E {xs : List α} [M : Mono r] : LnC K (rEi K r) xs xs.length := fun G te h => ev_cb (ea_cons h ea_nil) fun H vs ⟨v, ws, e, ⟨p, us, ev, hp, z⟩, e2⟩ Q k =>
  ⟨v, us.length, by rw [e, show ws = [] from e2], by
    rw [ev]
    rcases hp with hp | hp
    · exact .inl ⟨us, SqL.of hp, rfl⟩
    · exact .inr ⟨us, hp, rfl⟩, k _ H (Same.refl H) (by rw [z.len]; rfl)⟩
end
theorem pe_mth0 {X : Cx} {C : Addr} {k : Nat} {ps : List Str} {sp : Sp} {m : Str} {pos apos : Pos} {o : Expr} {ta : TE} (ho : PE X o ta) (c : Cls X.K C) (M : CalM X.prog X.w X.K X.mg X.base CX0 C m k ps sp) (hr : Room k X.A) {pl : Sem Bool}
    (ht : eval (.Call (.Attribute o m apos) [] [] pos) X.env = (do
      let ov ← eval o X.env
      standAt apos.atName
      let (f, first) ← holding [ov] (getMethod ov m pl)
      callWith pos f first (backTo pos (starEach [] X.env)) (backToKw pos (keywordEach [] X.env))) := by rfl) : PE X (.Call (.Attribute o m apos) [] [] pos) (tMeth C m sp [] E0 ta tNil) := by
  obtain ⟨f, fd, F, hm, b⟩ := M.ex
  exact pe_meth0 ho c hm F hr b .nil pass0 ht
end Gt
/-! Gt26: enumerate(list, start=k), starred list displays, classmethods, a class held in a name. -/
namespace Gt
open PySem PySem.Spec PyProof.Rows L2
/-! ### the call of a built-in class with keywords -/
section
variable {M : Model} {A : Around} {E : Value → Shared → Prop} {s : Shared} {env : PySem.Env}
theorem cw_typeKwB {pos : Pos} {T : String} {args : List (Bool × Sem Value)} {keywords : List (Option Str × Sem Value)} {Q : Value → Shared → Prop}
    (hplain : args.any (·.1) = false) (hkw : keywords.any (·.1.isNone) = false)
    (h : wpAny M A (evalArgs (.type T) true args keywords) (fun a s₁ => wpAny M A (call (.type T) a.pos a.kw) Q E s₁) E s) :
    wpAny M A (callWith pos (.type T) [] args keywords) Q E s := by
  unfold callWith
  refine wpAny_bind (wpAny_holding (wpAny_mono h (fun a s₁ h₁ => wpAny_bind (wpAny_standAt ?_)) fun _ _ x => x))
  simp only [hplain, hkw, Bool.or_false]
  refine wpAny_bind (wpAny_pure ?_)
  exact wpAny_bind (wpAny_mono h₁ (fun r s₂ hr => wpAny_bind (wpAny_holding (wpAny_point (wpAny_pure hr)))) fun _ _ x => x)
theorem cw_typeKw {pos : Pos} {T : String} {e : Expr} {rest : List Expr} {kws : List Keyword} {Q : Value → Shared → Prop}
    (h : wpAny M A (spliced (backTo pos (starEach (e :: rest) env))) (fun vs s₁ => wpAny M A (evalAll ((backToKw pos (keywordEach kws env)).map (·.2)))
      (fun kvs s₂ => wpAny M A (call (.type T) vs (((backToKw pos (keywordEach kws env)).filterMap (·.1)).zip kvs)) Q E s₂) E s₁) E s)
    (he : backTo pos (starEach (e :: rest) env) = (false, eval e env) :: backTo pos (starEach rest env))
    (hplain : (backTo pos (starEach (e :: rest) env)).any (·.1) = false)
    (hall : (backToKw pos (keywordEach kws env)).all (·.1.isSome) = true)
    (hkw : (backToKw pos (keywordEach kws env)).any (·.1.isNone) = false) :
    wpAny M A (callWith pos (.type T) [] (backTo pos (starEach (e :: rest) env)) (backToKw pos (keywordEach kws env))) Q E s := by
  refine cw_typeKwB hplain hkw ?_
  rw [he] at h ⊢
  exact PyProof.Rows.evalArgs_kwB hall h
end
/-! ### enumerate(xs, start=k) -/
def IteS (K : PySem.W.Frag) (a : Addr) (k : Int) : It :=
  ⟨fun i H => ∃ (xs : List V) (x : V), SqL K H a xs ∧ xs[i]? = some x, fun i H v H' => ∃ T x, v = .ref T ∧ H T = none ∧ H' = upd H T (.tup [.int (k + (i : Nat)), x]) ∧ ∀ xs, SqL K H a xs → xs[i]? = some x, fun i H => ∃ xs : List V, SqL K H a xs ∧ xs.length = i⟩
theorem turn_enumS {P : Program} {w : World} {K : PySem.W.Frag} {elts : List Expr} {kk : Nat} {tpos : Pos} (a e it : Addr) (k : Int) (hae : a ≠ it) (hee : e ≠ a) :
    Turn P w K (.Tuple elts kk tpos) (IteS K a k) [e, it] e (fun i h => (∃ old, IsEnum h e it (k + (i : Nat)) old) ∧ h.IsListIter it a i ∧ e ≠ it) where
  mem := by simp
  obj := fun i h st b hb => by
    obtain ⟨⟨old, he⟩, ⟨o, ho, hc, hd⟩, _⟩ := st
    have e' : b = e ∨ b = it := by simpa using hb
    rcases e' with z | z
    · rw [z]; exact ⟨_, he, fun v q => nomatch q⟩
    · rw [z]; exact ⟨o, ho, fun v q => by rw [hd] at q; cases q⟩
  keep := fun i h h' st k => let ⟨⟨old, he⟩, hi, hne⟩ := st; ⟨⟨old, k e (by simp) _ he⟩, hi.at fun o q => k it (by simp) o q, hne⟩
  item := by
    intro X hP hw hK hc i pins s σ H E I hf st hg
    subst hP hw hK
    obtain ⟨⟨old, he⟩, hit, hne⟩ := st
    obtain ⟨xs, x, hq, hx⟩ := hg
    obtain ⟨its, rv, p, hz⟩ := I.list hq
    obtain ⟨u, hu, ru⟩ := rv.get hx
    have hel : e < s.heap.objs.size := Heap.lt_size he
    have hil : it < s.heap.objs.size := by obtain ⟨_, q, _⟩ := hit; exact Heap.lt_size q
    have hlt : i < its.toArray.size := by
      have := (List.getElem?_eq_some_iff.mp hu).1
      simpa using this
    have hh : X.A.in1.handled = none := I.ok.hd hc
    refine wpAny_pyNext_enum_itemC (Draws.list (prog := X.prog) (w := X.w) (A := X.A.in1) hh it a hae its.toArray) he ⟨hit, p.isList⟩ hlt hne (by simp only [List.mem_cons, List.not_mem_nil, or_false, not_or]; exact ⟨hne, hee⟩) fun u' h' tk hP' ho hst' hT hsz hk => ?_
    have hu' : u' = u := by
      have q : its.toArray[i]? = some u' := hP'
      have q2 : its.toArray[i]? = some u := by simpa using hu
      rw [q2] at q
      cases q
      rfl
    subst hu'
    have hit' := hst'.1
    refine ⟨_, rfl, wpAny_letOwnedTupleGo_enum (s := { s with heap := h', toks := tk + 1 }) ho fun h'' he' sb => ?_⟩
    have hT2 : h''.get? s.heap.objs.size = some { cls := .type "tuple", data := .seq #[.int (k + (i : Nat)) tk, u'] } := (sb.2 _ (Nat.ne_of_gt hel)).trans hT
    have new : ObjOk X.prog X.w (upd H s.heap.objs.size (.tup [.int (k + (i : Nat)), x])) h'' s.heap.objs.size (.tup [.int (k + (i : Nat)), x]) :=
      ⟨by show 2 ≤ sizeLine; decide, [.int (k + (i : Nat)) tk, u'], .cons ⟨_, rfl⟩ (.cons ru .nil), ⟨_, hT2, rfl, _, rfl⟩⟩
    have I1 : Inv X pins σ (upd H s.heap.objs.size (.tup [.int (k + (i : Nat)), x])) { s with heap := h'', toks := tk + 1 } :=
      I.turnedNew (ch := [e, it]) (fun b ob hb q => (sb.2 b (fun z => hb (by simp [z]))).trans (hk b ob (fun z => hb (by simp [z])) (fun z => hb (by simp [z])) q)) hf (Nat.le_refl _) new
    refine ⟨.ref s.heap.objs.size, _, I1, rfl, ⟨_, x, rfl, I.hok.fresh (Nat.le_refl _), rfl, fun ys hy => by rw [I.list_inj hy hq]; exact hx⟩, ⟨⟨u', ?_⟩, hit'.at fun o q => (sb.2 it (Ne.symm hne)).trans q, hne⟩, fun b hb => ?_⟩
    · have e1 : k + ((i + 1 : Nat) : Int) = k + (i : Int) + 1 := by omega
      rw [e1]; exact he'
    · have hb' : b < s.heap.objs.size := by
        have e' : b = e ∨ b = it := by simpa using hb
        rcases e' with z | z
        · rw [z]; exact hel
        · rw [z]; exact hil
      rw [upd_ne (Nat.ne_of_lt hb')]
      exact (hf b hb).1
  done := by
    intro X hP hw hK hc i pins s σ H E I hf st hg
    subst hP hw hK
    obtain ⟨⟨old, he⟩, hit, hne⟩ := st
    obtain ⟨xs, hq, hx⟩ := hg
    obtain ⟨its, rv, p, hz⟩ := I.list hq
    obtain ⟨f0, f1, f2, f3, f4, f5⟩ := hf it (by simp)
    have hl := rv.length
    have hn : i = its.toArray.size := by simp; omega
    subst hn
    have hae : a ≠ it := hae
    exact wpAny_pyNext_enum_endD (Draws.list (prog := X.prog) (w := X.w) (A := X.A.in1) (I.ok.hd hc) it a hae its.toArray) he ⟨hit, p.isList⟩ fun h' eb => ⟨rfl, I.turned (t' := s.toks) (fun b o hb q => eb b o hb q) f0 f1 f3 f4 f5⟩
  self := fun A i s Q E st h => let ⟨⟨_, he⟩, _⟩ := st; wpAny_pyIter_enum he h
def iEnumS (K : PySem.W.Frag) (ta : TA) (tk : TE) : TI := fun σ H R => ta σ H fun vs H1 => tk σ H1 fun u H2 => ∃ a xs k, vs = [.ref a] ∧ u = .int k ∧ SqL K H2 a xs ∧ -(2 ^ 63) ≤ k ∧ k < 2 ^ 63 ∧ R (IteS K a k) H2
theorem pi_enumS (K : PySem.W.Frag) {X : Cx} {e ek : Expr} {ta : TA} {tk : TE} {p pos kpos tpos : Pos} {elts : List Expr} {kk : Nat} (hg : Gl X "enumerate") (hm : X.mg "enumerate" = none) (ha : PA X [e] ta) (hk : PE X ek tk)
    (hs : starEach [e] X.env = [(false, eval e X.env)] := by rfl) (hK : X.K = K := by rfl) :
    PI X (.Tuple elts kk tpos) (.Call (.Name "enumerate" p) [e] [⟨some (Str.ofString "start"), ek, kpos⟩] pos) (iEnumS K ta tk) := by
  subst hK
  refine ⟨fun pins s σ H R I h => ?_⟩
  refine wpAny_Call_Name_kw (ld_blt I hg hm boot_enumerate ?_)
  have hkw : PK X [⟨some (Str.ofString "start"), ek, kpos⟩] (tCons tk tNil) := pk_cons hk pk_nil
  refine cw_typeKw (thn (ha.run pos pins s σ H _ I h) fun us s1 ⟨vs, H1, I1, r1, q1⟩ => thn (hkw.run pos pins s1 σ H1 (fun ks H2 => match ks with | [u] => ∃ a xs k, vs = [.ref a] ∧ u = .int k ∧ SqL X.K H2 a xs ∧ -(2 ^ 63) ≤ k ∧ k < 2 ^ 63 ∧ R (IteS X.K a k) H2 | _ => False) I1 q1) fun ks s2 ⟨kv, H2, I2, r2, q2⟩ => ?_) (by rw [hs]; rfl) (by rw [hs]; rfl) rfl rfl
  · cases r2 with
    | nil => exact q2.elim
    | cons r' rr' =>
      cases rr' with
      | cons _ _ => exact q2.elim
      | nil =>
        obtain ⟨a, xs, k, ev, eu, hq, k0, k1, q⟩ := q2
        subst ev eu
        obtain ⟨ua, rfl, hra⟩ := r1.one
        obtain rfl : ua = Value.ref a := hra
        obtain ⟨t, rfl⟩ := r'
        obtain ⟨its, rv, p', hz⟩ := I2.list hq
        show wpAny _ _ (call (.type "enumerate") [.ref a] [(Str.ofString "start", .int k t)]) _ _ s2
        refine enum_begins_start (begins_list a its.toArray) p'.isList k0 k1 fun h' he hit hsz hk2 => wpAny_pyIter_enum he ?_
        have I3 : Inv X pins σ H2 { s2 with heap := h' } := I2.kept (t' := s2.toks) hk2
        have hal : a < s2.heap.objs.size := by
          obtain ⟨o, ho, _⟩ := p'.isList
          exact Heap.lt_size ho
        have e0 : k + ((0 : Nat) : Int) = k := by simp
        refine ⟨s2.heap.objs.size + 1, [s2.heap.objs.size + 1, s2.heap.objs.size], _, _, H2, rfl, I3, turn_enumS a (s2.heap.objs.size + 1) s2.heap.objs.size k (Nat.ne_of_lt hal) (Nat.ne_of_gt (Nat.lt_succ_of_lt hal)), ⟨⟨.none, by rw [e0]; exact he⟩, ⟨_, hit, rfl, rfl⟩, Nat.succ_ne_self _⟩, fun b hb => ?_, q⟩
        have e' : b = s2.heap.objs.size + 1 ∨ b = s2.heap.objs.size := by simpa using hb
        have hle : s2.heap.objs.size ≤ b := by
          rcases e' with z | z
          · rw [z]; exact Nat.le_add_right _ _
          · rw [z]; exact Nat.le_refl _
        exact I2.fpOk hle (I2.hok.fresh hle)
def enumFrom {α : Type} : Int → List α → List (Int × α)
  | _, [] => []
  | k, x :: xs => (k, x) :: enumFrom (k + 1) xs
theorem enumFrom_get {α : Type} : ∀ (xs : List α) (k : Int) (i : Nat), (enumFrom k xs)[i]? = xs[i]?.map fun x => (k + (i : Nat), x)
  | [], _, _ => rfl
  | x :: xs, k, 0 => by show some (k, x) = some (k + ((0 : Nat) : Int), x); rw [show k + ((0 : Nat) : Int) = k by simp]
  | x :: xs, k, i + 1 => by
    have h := enumFrom_get xs (k + 1) i
    show (enumFrom (k + 1) xs)[i]? = xs[i]?.map fun x => (k + ((i + 1 : Nat) : Int), x)
    rw [h, show k + 1 + (i : Int) = k + ((i + 1 : Nat) : Int) by omega]
theorem enumFrom_len {α : Type} : ∀ (xs : List α) (k : Int), (enumFrom k xs).length = xs.length
  | [], _ => rfl
  | x :: xs, k => by show (enumFrom (k + 1) xs).length + 1 = _; rw [enumFrom_len xs]; rfl
section
variable {K : PySem.W.Frag} {H0 H1 H2 H : Hp} {G G' : Cells K} {α β γ ρ : Type} {r : Rp α} {R : Rs K ρ} {D : Ends} {u : TS}
theorem wj_enumS [M : Mono r] {a : Addr} {vs : List V} {xs : List α} {k : Int} (h : H1 a = some (.lst vs)) (q : A2 (r H1) vs xs) : Wj (IteS K a k) (rP K rI r) H1 (enumFrom k xs) where
  go := fun H i x e hx => by
    rw [enumFrom_get] at hx
    cases hy : xs[i]? with
    | none => rw [hy] at hx; cases hx
    | some y =>
      rw [hy] at hx
      cases hx
      obtain ⟨v, hv, z⟩ := q.get' hy
      refine ⟨⟨vs, v, SqL.of (e _ _ h), hv⟩, fun w H' ⟨T, x', ew, hT, eH, hx'⟩ => ?_⟩
      have hx2 := hx' vs (SqL.of (e _ _ h))
      rw [hv] at hx2
      cases hx2
      subst eH
      exact ⟨same_new hT, T, _, _, ew, SqT.of upd_same, rfl, M.up (e.trans (same_new hT)) z⟩
  stop := fun H e => ⟨vs, SqL.of (e _ _ h), by rw [enumFrom_len]; exact q.len⟩
theorem wk_enumOwn {i : Nat} {xs : List α} {k : Int} [M : Mono r] (h : G[i]? = some (some (.ow (nl K r) xs))) (hk : -(2 ^ 63) ≤ k ∧ k < 2 ^ 63) : Wk (iEnumS K (tCons (tVar i) tNil) (tC (.int k))) (rP K rI r) G (G.set i (rc (rL r) xs)) (enumFrom k xs) := fun H1 σ H E R kk => by
  obtain ⟨H2, s1, x, E2⟩ := E.freeze h M
  obtain ⟨own, _, _, h3⟩ := E2.at_
  have hl : i < G.length := (List.getElem?_eq_some_iff.mp h).1
  obtain ⟨v, hv, _, p, vs, e2, e3, e4⟩ := h3 i _ (List.getElem?_set_self hl)
  refine ⟨v, hv, p, vs, k, by rw [e2], rfl, SqL.of (E2.old _ _ e3), hk.1, hk.2, kk _ H2 H s1 (Same.refl _) E2 (wj_enumS e3 e4)⟩
/-! ### [a, *t] -/
theorem a_starT {te : TE} {t : TA} {xs ys : List α} (h : Ev (rT K r) te G xs) (M : Mono r) (hr : EvA (aAll r) t G ys) : EvA (aAll r) (StX.tStar K te t) G (xs ++ ys) := fun H0 σ H E Q k =>
  h H0 σ H E _ fun v H1 e1 ⟨a, vs, ev, hq, z⟩ => ⟨a, vs, ev, .inl hq, hr H0 σ H1 (E.grow e1) _ fun ws H2 e2 z2 => k _ H2 (e1.trans e2) (A2.app z2 (z.imp fun _ _ w => M.up e2 w))⟩
theorem pa_starK (K : PySem.W.Frag) {X : Cx} {e : Expr} {es : List Expr} {te : TE} {t : TA} {p : Pos} (he : PE X e te) (hr : PA X es t) (hs : starEach (.Starred e p :: es) X.env = (true, eval e X.env) :: starEach es X.env := by rfl) (hK : X.K = K := by rfl) : PA X (.Starred e p :: es) (StX.tStar K te t) := by
  subst hK
  exact StX.pa_star he hr hs
/-! ### a new thing by if-else -/
theorem nw_if {tt : TT} {ta tb : TE} {c : Bool} {a b : ρ} (h : EvT tt G c) (h1 : c = true → Nw R ta G a) (h2 : c = false → Nw R tb G b) : Nw R (tIf tt ta tb) G (bif c then a else b) := fun H0 σ H E Q k => h H0 σ H E _ fun H1 e1 => by
  cases c with
  | true => exact iteT (h1 rfl H0 σ H1 (E.grow e1) _ fun w H2 as e2 hn z2 => k w H2 as (e1.trans e2) (fun p hp => free_back e1 (hn p hp)) z2)
  | false => exact iteF (h2 rfl H0 σ H1 (E.grow e1) _ fun w H2 as e2 hn z2 => k w H2 as (e1.trans e2) (fun p hp => free_back e1 (hn p hp)) z2)
theorem nw_ifM {tt : TT} {ta tb : TE} {c : Bool} {x : ρ} {m1 m2 : M ρ} (h : EvT tt G c) (h1 : ∀ y, m1 = .ok y → Nw R ta G y) (h2 : ∀ y, m2 = .ok y → Nw R tb G y) (e : (bif c then m1 else m2) = .ok x) : Nw R (tIf tt ta tb) G x := by
  cases c with
  | true => exact (nw_if (b := x) h (fun _ => h1 x e) fun z => nomatch z)
  | false => exact (nw_if (a := x) h (fun z => nomatch z) fun _ => h2 x e)
/-! ### a class in a name -/
def rCls (C : Addr) : Rp Unit := fun _ v _ => v = .ref C
instance {C : Addr} : Mono (rCls C) := ⟨fun _ h => h⟩
instance {C : Addr} : Frz K (rCls C) := ⟨fun _ h => h⟩
theorem ev_cls {C : Addr} {y : Unit} : Ev (rCls C) (tC (.ref C)) G y := fun H0 σ H E Q k => k _ H (Same.refl H) rfl
def tMakeV (tv : TE) (C : Addr) (sp : Sp) (dvs : List V) (E : XK) (t : TA) : TE := fun σ H Q => tv σ H fun v H1 => v = .ref C ∧ tMake C sp dvs E t σ H1 Q
theorem nw_mkV {C : Addr} {tv : TE} {sp : Sp} {dvs : List V} {E' : XK} {t : TA} {xs : ρ} {y : Unit} (hv : Ev (rCls C) tv G y) (h : Nw R (tMake C sp dvs E' t) G xs) : Nw R (tMakeV tv C sp dvs E' t) G xs := fun H0 σ H E Q k =>
  hv H0 σ H E _ fun v H1 e1 z => ⟨z, h H0 σ H1 (E.grow e1) _ fun w H2 as e2 hn hw => k w H2 as (e1.trans e2) (fun p hp => free_back e1 (hn p hp)) hw⟩
theorem have_frz {σ : L2.St} {i : Nat} {xs : List α} [M : Mono r] (h : G[i]? = some (some (.ow (nl K r) xs))) (hv : Have H0 G σ H) : Have H0 (G.set i (rc (rL r) xs)) σ H := by
  obtain ⟨H1, e, E⟩ := hv
  obtain ⟨H2, s1, x, E2⟩ := E.freeze h M
  exact ⟨H2, e.trans s1, E2⟩
/-! ### classmethods -/
def tCMethS (C : Addr) (sp : Sp) (E : L2.St → XK) (ta : TE) (t : TA) : TE := fun σ H Q => ta σ H fun x H1 => x = .ref C ∧ t σ H1 fun vs H2 => sp (.ref C :: vs) H2 Q (E σ)
theorem nw_cm {C : Addr} {A : Ra γ} {g : γ} {m : Unit × γ → M ρ} {b : ρ} {E' : L2.St → XK} {ta : TE} {t : TA} (hc : Ev (rCls C) ta G ()) (h : EvA A t G g) (e : MOk m ((), g) b) : Nw R (tCMethS C (spXN (aC (rCls C) A) R m) E' ta t) G b := fun H0 σ H E Q k =>
  hc H0 σ H E _ fun v H1 e1 z => ⟨z, h H0 σ H1 (E.grow e1) _ fun vs H2 e2 hvs => ⟨((), g), ⟨_, vs, rfl, rfl, hvs⟩, nstk_ok e, fun c hc w H3 as e3 hn hw => k w H3 as ((e1.trans e2).trans e3) (fun p hp => free_back (e1.trans e2) (hn p hp)) (by rw [show m ((), g) = .ok b from e] at hc; cases hc; exact hw),
    fun x fs q => by rw [show m ((), g) = .ok b from e] at q; cases q⟩⟩
theorem ee_cm {C : Addr} {A : Ra γ} {g : γ} {m : Unit × γ → M ρ} {W : WX} {ta : TE} {t : TA} {o : M ρ} {y : Unit} (hc : Ev (rCls C) ta G y) (h : EvA A t G g) (e : m ((), g) = o) (w : WOk H0 G W o) : EvE H0 R (tCMethS C (spXN (aC (rCls C) A) R m) (WE W) ta t) G o := fun σ H ⟨H1, e1, E⟩ Q k =>
  hc H1 σ H E _ fun v H2 e2 z => ⟨z, h H1 σ H2 (E.grow e2) _ fun vs H3 e3 hvs => ⟨((), g), ⟨_, vs, rfl, rfl, hvs⟩, by rw [e]; exact w.1, fun b hb v H4 as e4 hn hv => k b (e ▸ hb) v H4 as ((e2.trans e3).trans e4) (fun p hp => free_back (e2.trans e3) (hn p hp)) hv,
    fun x fs he d H4 e4 hn hx => w.2 x fs (e ▸ he) σ H3 H4 ⟨H1, e1, (E.grow e2).grow e3⟩ e4 d hn hx⟩⟩
/-- try: x = C.m(..) -/
theorem q_tryCM {i j : Nat} {C : Addr} {c : Value} {ts : Addr → Value → Option Addr → TS} {Wout : WX} {A : Ra γ} {g : γ} {m : Unit × γ → M ρ} {ta : TE} {t : TA} {o : M ρ} {y : Unit} (hc : Ev (rCls C) ta G y) (h : EvA A t G g) (e : m ((), g) = o)
    (w : WOk H0 G (wAs K c j ts Wout { D with nx := u D }) o) (k : ∀ b, o = .ok b → Sv H0 (G.set i (some (.ow R b))) u D) :
    Sv H0 G (tSeq (fun D σ H => tAsg (tCMethS C (spXN (aC (rCls C) A) R m) (WE (wAs K c j ts Wout D)) ta t) (gName i) D σ H) u) D := l_asgE (D := { D with nx := u D }) (ee_cm hc h e w) k
theorem l_tryCM {i j : Nat} {C : Addr} {c : Value} {ts : Addr → Value → Option Addr → TS} {Wout : WX} {A : Ra γ} {g : γ} {m : Unit × γ → M ρ} {ta : TE} {t : TA} {o : M ρ} {y : Unit} (hc : Ev (rCls C) ta G y) (h : EvA A t G g) (e : m ((), g) = o)
    (w : WOk H0 G (wAs K c j ts Wout D) o) (k : ∀ b, o = .ok b → Nx H0 (G.set i (some (.ow R b))) D.nx) :
    Sv H0 G (fun D σ H => tAsg (tCMethS C (spXN (aC (rCls C) A) R m) (WE (wAs K c j ts Wout D)) ta t) (gName i) D σ H) D := l_asgE (ee_cm hc h e w) k
end
structure CalC (P : Program) (w : World) (K : PySem.W.Frag) (mg : Str → Option Value) (base : Heap) (C : Addr) (m : Str) (k : Nat) (sp : Sp) : Prop where
  ex : ∃ p g, ClX.CRead K C (.type "type") ∧ ClX.CMet K C (.type "type") m p g ∧ FnR P w K mg base (L2.CX P w) k g sp
structure DfC (K : PySem.W.Frag) (C : Addr) (x q : Str) (st : Stmt) : Prop where
  ex : ∃ (p f : Addr) (fd : FuncData), FunE K x q st 0 f fd ∧ ClX.CRead K C (.type "type") ∧ ClX.CMet K C (.type "type") x p f
section
variable {P : Program} {w : World} {K : PySem.W.Frag} {mg : Str → Option Value} {base : Heap} {C : Addr} {x q : Str} {st : Stmt} {N ps : List Str} {k : Nat} {sp : Sp}
theorem calC_of (F : DfC K C x q st) (S : FnScope N ps (defScope st)) (len : ∀ vs H Q E, sp vs H Q E → vs.length = ps.length) (b : BindE x q st ps 0)
    (hbody : ∀ (cdv : Value) (f : Addr) (A : Around) (outer : List PySem.Env) (s : Shared) (H : Hp) (vs : List V) (Q : VK) (E : XK), Room k (A.deeper (envOfC q (defScope st) s.heap.objs.size f cdv)) → sp vs H Q E →
      ∃ t, PSs (cxOf (L2.CX P w) P w K mg base N q (defScope st) f cdv A outer s H E) (defBody st) t ∧ t { nx := fun _ H' => Q .non H', rt := Q } (start N vs) H) : CalC P w K mg base C x (k + 1) sp := by
  obtain ⟨p, f, fd, F, h1, h2⟩ := F.ex
  have F1 := F.ok (P := P) (w := w) (mg := mg) (base := base) S len fun cdv A outer s H vs Q E hr h => hbody cdv f A outer s H vs Q E hr h
  exact ⟨p, f, h1, h2, (F1.raw (F.binds b) .nil).imp fun vs H Q E h => by rw [List.append_nil]; exact h⟩
end
section
variable {X : Cx} {C : Addr} {k : Nat} {ps : List Str} {sp : Sp} {W : WX} {x m : Str} {o e : Expr} {es : List Expr} {tv ta : TE} {t : TA} {p pos apos : Pos} {pl : Sem Bool}
theorem pe_mkV (I : CalI X.prog X.w X.K X.mg X.base CX0 C k ps sp) (hr : Room (k + 1) X.A) (hv : PE X (.Name x p) tv) (ha : PA X (e :: es) t)
    (he : starEach (e :: es) X.env = (false, eval e X.env) :: starEach es X.env := by rfl) (hpl : (backTo pos (starEach es X.env)).any (·.1) = false := by rfl) : PE X (.Call (.Name x p) (e :: es) [] pos) (tMakeV tv C sp [] E0 t) := by
  obtain ⟨f, fd, F, M, b⟩ := I.ex
  refine ⟨fun pins s σ H Q I h => ?_⟩
  refine wpAny_Call_Name_kw (thn (hv.run pins s σ H _ I h) fun u s1 ⟨v, H1, I1, rv, ev, q⟩ => ?_)
  subst ev
  obtain rfl : u = Value.ref C := rv
  refine PySem.W.callWith_K (h₀ := X.base) I1.ok.mod.kin M.kp (thn (ha.run pos pins s1 σ H1 _ I1 q) fun us s2 ⟨vs, H2, I2, r, q⟩ => ⟨I2.kIn, ?_⟩) he hpl
  exact run_make M F hr b .nil pass0 I2 r q
theorem pe_cmS (M : CalC X.prog X.w X.K X.mg X.base C m k sp) (hr : Room k X.A) (tk : Takes X W) (he : PE X o ta) (ha : PA X (e :: es) t)
    (hst : starEach (e :: es) X.env = (false, eval e X.env) :: starEach es X.env := by rfl) (hpl : (backTo pos (starEach es X.env)).any (·.1) = false := by rfl)
    (ht : eval (.Call (.Attribute o m apos) (e :: es) [] pos) X.env = (do
      let ov ← eval o X.env
      standAt apos.atName
      let (f, first) ← holding [ov] (getMethod ov m pl)
      callWith pos f first (backTo pos (starEach (e :: es) X.env)) (backToKw pos (keywordEach [] X.env))) := by rfl) :
    PE X (.Call (.Attribute o m apos) (e :: es) [] pos) (tCMethS C sp (WE W) ta t) := by
  obtain ⟨p, g, r, c, F⟩ := M.ex
  refine ⟨fun pins s σ H Q I h => ?_⟩
  refine PySem.W.methodCall_KW (pl := pl) (thn (he.run pins s σ H _ I h) fun u s1 ⟨x, H1, I1, rx, ex, q⟩ => ?_) ht
  subst ex
  obtain rfl : u = Value.ref C := rx
  refine ClX.getmethcm_ok I1 r c fun s2 I2 => ?_
  refine ClX.callwith_cm I2 (ClX.base_none I1 (Nat.le_refl _)) c.fi (thn (ha.run pos _ s2 σ H1 _ I2 q) fun us s3 ⟨vs, H2, I3, rv, q2⟩ => ⟨⟨ClX.pin_at I3, I3.kIn⟩, ?_⟩) hst hpl
  have z : wpAny (model X.prog X.w) X.A (call (.ref s1.heap.objs.size) us) (EP X ((s1.heap.objs.size, PySem.W.methodObj (.ref g) (.ref C)) :: pins) σ Q) X.xe s3 := by
    refine wpAny_call (PySem.W.method_call (ClX.pin_at I3) (codeAny_mono (F X.A X.stack s3 H2 (.ref C :: us) (.ref C :: vs) Q (WE W σ) hr I3.env0 (.cons rfl rv) q2) fun r s' hq => ?_))
    cases r with
    | error er => exact passAt tk σ _ H2 s3 er s' I3 hq
    | ok fl =>
      cases fl with
      | ret u => exact I3.after hq
      | next => exact False.elim hq
      | brk => exact False.elim hq
      | cont => exact False.elim hq
  exact thn z fun _ _ y => ClX.unpinE y
end
end Gt
namespace Gt
open PySem PySem.Spec PyProof.Rows L2
noncomputable def m_is_owner (name1 : Str) : M Bool := mb (mand (decide ((1 : Int) ≤ (name1.length : Int)) && decide ((name1.length : Int) ≤ (8 : Int))) (mb (chk (decide ((chs name1).length ≤ 100000))) fun _ => mb (mlc (fun (y2 : Str) => .ok true) (fun (y2 : Str) => mb (oM (sgn y2)) fun t3 => .ok (decide (t3 ∈ ("abcdefghijklmnopqrstuvwxyz" : Str).cps.toList))) (chs name1)) fun zs5 => .ok (zs5.all id))) fun c6 => .ok c6
noncomputable def m_is_plain (name1 : Str) : M Bool := mb (mor (!(decide ((1 : Int) ≤ (name1.length : Int)) && decide ((name1.length : Int) ≤ (8 : Int)))) (mb (oM (atI (chs name1) (0 : Int))) fun t2 => mb (oM (sgn t2)) fun t3 => .ok (decide (t3 ∈ ("0123456789" : Str).cps.toList)))) fun c4 => bif c4 then .ok false else mb (chk (decide ((chs name1).length ≤ 100000))) fun _ => mb (mlc (fun (y5 : Str) => .ok true) (fun (y5 : Str) => mb (oM (sgn y5)) fun t6 => .ok ((decide (t6 ∈ ("abcdefghijklmnopqrstuvwxyz" : Str).cps.toList)) || ((decide (t6 ∈ ("ABCDEFGHIJKLMNOPQRSTUVWXYZ" : Str).cps.toList)) || (decide (t6 ∈ ("0123456789" : Str).cps.toList))))) (chs name1)) fun zs8 => .ok (zs8.all id)
noncomputable def m_is_sign (name1 : Str) : M Bool := mb (chk (decide ((("." : Str).length == 0) = false))) fun _ => mb (chk (decide (name1.length ≤ 1000))) fun _ => mb (chk (decide (∀ x ∈ Txt.split name1 ("." : Str), okS x))) fun _ => mb (.ok (Txt.split name1 ("." : Str))) fun parts5 => bif (decide ((parts5.length : Int) = (2 : Int))) then mb (oM (atI parts5 (0 : Int))) fun t6 => mb (m_is_owner t6) fun t7 => mb (mand t7 (mb (oM (atI parts5 (1 : Int))) fun t8 => mb (m_is_plain t8) fun t9 => .ok t9)) fun c10 => .ok c10 else mb (m_is_plain name1) fun t11 => .ok t11
noncomputable def m_is_token (sign1 : Str) : M Bool := mb (chk (decide ((("." : Str).length == 0) = false))) fun _ => mb (chk (decide (okS (Txt.rpartition sign1 ("." : Str)).1 ∧ okS (Txt.rpartition sign1 ("." : Str)).2.1 ∧ okS (Txt.rpartition sign1 ("." : Str)).2.2))) fun _ => mb (oM (atI ([(Txt.rpartition sign1 ("." : Str)).1, (Txt.rpartition sign1 ("." : Str)).2.1, (Txt.rpartition sign1 ("." : Str)).2.2]) (2 : Int))) fun t4 => mb (oM (atI (chs t4) (0 : Int))) fun t5 => mb (oM (sgn t5)) fun t6 => .ok (decide (t6 ∈ ("abcdefghijklmnopqrstuvwxyz" : Str).cps.toList))
noncomputable def m_format_rule (one1 : (Str × (List Str))) : M Str := mb (chk (decide (one1.2.length ≤ 1000))) fun _ => mb (chk (decide (((one1.1 :: (("->" : Str) :: (one1.2 ++ ([] : List Str)))).map (·.length)).sum + (one1.1 :: (("->" : Str) :: (one1.2 ++ ([] : List Str)))).length * (" " : Str).length ≤ 16777216))) fun _ => mb (chk (decide (okS (Txt.join (" " : Str) (one1.1 :: (("->" : Str) :: (one1.2 ++ ([] : List Str)))))))) fun _ => .ok (Txt.join (" " : Str) (one1.1 :: (("->" : Str) :: (one1.2 ++ ([] : List Str)))))
noncomputable def m_parse_rule (line1 : Str) : M (Option (Str × (List Str))) := mb (chk (decide (((" " : Str).length == 0) = false))) fun _ => mb (chk (decide (line1.length ≤ 1000))) fun _ => mb (chk (decide (∀ x ∈ Txt.split line1 (" " : Str), okS x))) fun _ => mb (.ok (Txt.split line1 (" " : Str))) fun words5 => mb (mor (decide ((words5.length : Int) < (2 : Int))) (mb (oM (atI words5 (1 : Int))) fun t6 => mb (mor (!(decide (t6 = ("->" : Str)))) (mb (oM (atI words5 (0 : Int))) fun t7 => mb (m_is_sign t7) fun t8 => mb (mor (!t8) (mb (m_is_token t7) fun t9 => .ok t9)) fun c10 => .ok c10)) fun c11 => .ok c11)) fun c12 => bif c12 then .ok (none : (Option (Str × (List Str)))) else mb (chk (decide ((cut words5 (some (2 : Int)) none).length ≤ 100000))) fun _ => mb (mlc (fun (y13 : Str) => .ok true) (fun (y13 : Str) => mb (m_is_sign y13) fun t14 => .ok t14) (cut words5 (some (2 : Int)) none)) fun zs16 => bif (!(zs16.all id)) then .ok (none : (Option (Str × (List Str)))) else mb (oM (atI words5 (0 : Int))) fun t17 => .ok (some (t17, (cut words5 (some (2 : Int)) none)))
abbrev Gs := List (Str × List (List Str))
noncomputable def grStep (g : Gs) (r : Rule) : Gs := bif memB r.2 ((dkey g r.1).getD []) then g else dput g r.1 ((dkey g r.1).getD [] ++ [r.2])
def grFlat (g : Gs) : List Rule := g.flatMap fun x => x.2.map fun s => (x.1, s)
noncomputable def grp (rs : List Rule) : List Rule := grFlat (rs.foldl grStep [])
def gsum (g : Gs) : Nat := (g.map fun x => x.2.length).sum
theorem grFlat_len : ∀ g : Gs, (grFlat g).length = gsum g
  | [] => rfl
  | x :: g => by
    have := grFlat_len g
    unfold grFlat gsum at *
    rw [List.flatMap_cons, List.length_append, List.length_map, this, List.map_cons, List.sum_cons]
theorem gsum_map (k : Str) (l : List (List Str)) (n : Nat) : ∀ g : Gs, (∀ x ∈ g, x.1 = k → l.length ≤ x.2.length + n) → (g.map (·.1)).Nodup → gsum (g.map fun kv => if kv.1 = k then (kv.1, l) else kv) ≤ gsum g + n
  | [], _, _ => Nat.zero_le _
  | x :: g, h, nd => by
    rw [List.map_cons] at nd
    have nd := List.nodup_cons.mp nd
    unfold gsum
    rw [List.map_cons, List.map_cons, List.sum_cons, List.map_cons, List.sum_cons]
    by_cases e : x.1 = k
    · have same : (g.map fun kv => if kv.1 = k then (kv.1, l) else kv) = g := by
        conv => rhs; rw [← List.map_id g]
        refine List.map_congr_left fun y hy => ?_
        rw [if_neg fun z => nd.1 (List.mem_map.mpr ⟨y, hy, by rw [z, e]⟩)]
        rfl
      rw [if_pos e, same]
      have := h x (List.mem_cons_self ..) e
      show l.length + _ ≤ _
      omega
    · rw [if_neg e]
      have := gsum_map k l n g (fun y hy => h y (List.mem_cons_of_mem _ hy)) nd.2
      unfold gsum at this
      omega
theorem dkey_mem {α : Type} {g : List (Str × α)} (nd : (g.map (·.1)).Nodup) {x : Str × α} (hx : x ∈ g) : dkey g x.1 = some x.2 := by
  induction g with
  | nil => cases hx
  | cons y g ih =>
    rw [List.map_cons] at nd
    have nd := List.nodup_cons.mp nd
    unfold dkey
    rw [List.find?_cons]
    rcases List.mem_cons.mp hx with e | e
    · subst e
      simp
    · have ne : ¬ y.1 = x.1 := fun z => nd.1 (List.mem_map.mpr ⟨x, e, z.symm⟩)
      rw [decide_eq_false ne]
      exact ih nd.2 e
theorem dput_keys {α : Type} (g : List (Str × α)) (k : Str) (v : α) : (dput g k v).map (·.1) = if k ∈ g.map (·.1) then g.map (·.1) else g.map (·.1) ++ [k] := by
  unfold dput
  by_cases h : k ∈ g.map (·.1)
  · have e : (g.any fun kv => decide (kv.1 = k)) = true := by
      obtain ⟨x, hx, rfl⟩ := List.mem_map.mp h
      exact List.any_eq_true.mpr ⟨x, hx, decide_eq_true rfl⟩
    rw [if_pos e, if_pos h, List.map_map]
    refine List.map_congr_left fun y _ => ?_
    show (if y.1 = k then (y.1, v) else y).1 = y.1
    split <;> rfl
  · have e : ¬ (g.any fun kv => decide (kv.1 = k)) = true := fun q => by
      obtain ⟨x, hx, hk⟩ := List.any_eq_true.mp q
      exact h (List.mem_map.mpr ⟨x, hx, of_decide_eq_true hk⟩)
    rw [if_neg e, if_neg h, List.map_append]
    rfl
theorem grStep_ok (g : Gs) (r : Rule) (nd : (g.map (·.1)).Nodup) : ((grStep g r).map (·.1)).Nodup ∧ gsum (grStep g r) ≤ gsum g + 1 ∧ (grStep g r).length ≤ g.length + 1 := by
  unfold grStep
  cases memB r.2 ((dkey g r.1).getD []) with
  | true => exact ⟨nd, Nat.le_add_right _ _, Nat.le_add_right _ _⟩
  | false =>
    refine ⟨?_, ?_, ?_⟩
    · rw [cond_false, dput_keys]
      split
      · exact nd
      · rename_i h
        rw [List.nodup_append]
        exact ⟨nd, by simp, fun a ha b hb e => h (by rw [List.mem_singleton.mp hb] at e; rw [← e]; exact ha)⟩
    · rw [cond_false]
      unfold dput
      split
      · refine gsum_map _ _ 1 g (fun x hx e => ?_) nd
        rw [← e, dkey_mem nd hx]
        show (x.2 ++ [r.2]).length ≤ _
        rw [List.length_append]
        exact Nat.le_refl _
      · rename_i h
        have none : dkey g r.1 = none := by
          unfold dkey
          cases q : g.find? fun kv => decide (kv.1 = r.1) with
          | none => rfl
          | some y => exact absurd (List.any_eq_true.mpr ⟨y, List.mem_of_find?_eq_some q, List.find?_some q⟩) h
        rw [none]
        unfold gsum
        rw [List.map_append, List.sum_append]
        exact Nat.le_refl _
    · rw [cond_false]
      unfold dput
      split
      · rw [List.length_map]; exact Nat.le_add_right _ _
      · rw [List.length_append]; exact Nat.le_refl _
theorem grFold_ok : ∀ (rs : List Rule) (g : Gs), (g.map (·.1)).Nodup → ((rs.foldl grStep g).map (·.1)).Nodup ∧ gsum (rs.foldl grStep g) ≤ gsum g + rs.length ∧ (rs.foldl grStep g).length ≤ g.length + rs.length
  | [], g, nd => ⟨nd, Nat.le_refl _, Nat.le_refl _⟩
  | r :: rs, g, nd => by
    obtain ⟨a, b, c⟩ := grStep_ok g r nd
    obtain ⟨d, e, f⟩ := grFold_ok rs _ a
    rw [List.foldl_cons, List.length_cons]
    exact ⟨d, by omega, by omega⟩
theorem mem_sum {n : Nat} : ∀ {l : List Nat}, n ∈ l → n ≤ l.sum
  | m :: l, h => by
    rw [List.sum_cons]
    rcases List.mem_cons.mp h with e | e
    · omega
    · have := mem_sum e; omega
theorem grp_len (rs : List Rule) : (grp rs).length ≤ rs.length := by
  unfold grp
  rw [grFlat_len]
  have := (grFold_ok rs [] .nil).2.1
  have e : gsum ([] : Gs) = 0 := rfl
  omega
noncomputable def m_grouped (rs : List Rule) : M (List Rule) := mb (chk (decide (rs.length ≤ 10000))) fun _ => .ok (grp rs)
theorem m_grouped_of {rs : List Rule} (h : rs.length ≤ 10000) : m_grouped rs = .ok (grp rs) := by unfold m_grouped; rw [mb_of (chk_of (decide_eq_true h))]
noncomputable def m_Grammar___init__ (rs : List Rule) : M (List Rule) := m_grouped rs
noncomputable def m_Grammar_from_string (cls1 : Unit) (string2 : Str) : M (List Rule) := mb (.ok ([] : (List (Str × (List Str))))) fun rules3 => mb (calm (bif ((string2.length : Int) != 0) then mb (chk (decide ((("\n" : Str).length == 0) = false))) fun _ => mb (chk (decide (string2.length ≤ 1000))) fun _ => mb (chk (decide (∀ x ∈ Txt.split string2 ("\n" : Str), okS x))) fun _ => .ok (Txt.split string2 ("\n" : Str)) else .ok ([] : (List Str)))) fun c7 => mb (mfor (fun (s8 : (List (Str × (List Str)))) (x9 : (Int × Str)) => mb (calm (m_parse_rule x9.2)) fun t11 => bif (isNone' t11) then .error (.ex "BadLine" [("number", (.i x9.1))]) else mb (oM t11) fun z12 => mb (chk (decide (s8.length < 100000))) fun _ => mb (.ok (s8 ++ [z12])) fun rules14 => .ok rules14) rules3 (enumFrom (1 : Int) c7)) fun s10 => mb (calm (m_Grammar___init__ s10)) fun t15 => .ok t15
noncomputable def m_Grammar___str__ (self1 : (List Rule)) : M Str := mb (chk (decide (self1.length ≤ 100000))) fun _ => mb (mlc (fun (y2 : (Str × (List Str))) => .ok true) (fun (y2 : (Str × (List Str))) => mb (m_format_rule y2) fun t3 => .ok t3) self1) fun zs5 => mb (chk (decide ((zs5.map (·.length)).sum + zs5.length * ("\n" : Str).length ≤ 16777216))) fun _ => mb (chk (decide (okS (Txt.join ("\n" : Str) zs5)))) fun _ => .ok (Txt.join ("\n" : Str) zs5)
noncomputable def m__law_cell (script1 : (List Int)) (k2 : Int) : M Int := mb (bif (decide (k2 < (script1.length : Int))) then mb (oM (atI script1 k2)) fun t3 => .ok t3 else .ok (0 : Int)) fun c4 => .ok c4
noncomputable def m__law_draws (cellhere1 : Int) (many2 : Int) : M (List Int) := mb (.ok (cellhere1 * (b2 (decide (((10 : Int) ^ ((18 : Int)).toNat) ≤ cellhere1))))) fun rest3 => mb (.ok ([] : (List Int))) fun row4 => mb (chk (decide (-100000 ≤ many2 ∧ many2 ≤ 100000))) fun _ => mb (mfor (fun (s6 : (Int × (List Int))) (x7 : Int) => bif (decide ((0 : Int) < s6.1)) then mb (chk (decide (s6.2.length < 100000))) fun _ => mb (.ok (s6.2 ++ [s6.1 % (840 : Int)])) fun row10 => mb (.ok (s6.1 / (840 : Int))) fun rest11 => .ok (rest11, row10) else mb (.ok ((((cellhere1 * (48271 : Int)) + (x7 * (6961 : Int))) + (1013 : Int)) % (1000003 : Int))) fun mixed12 => mb (chk (decide (CMul mixed12 mixed12))) fun _ => mb (.ok ((((mixed12 * mixed12) + ((11 : Int) * mixed12)) + x7) % (999983 : Int))) fun mixed14 => mb (chk (decide (CMul mixed14 mixed14))) fun _ => mb (chk (decide (s6.2.length < 100000))) fun _ => mb (.ok (s6.2 ++ [(((mixed14 * mixed14) + ((3 : Int) * mixed14)) % (99991 : Int)) % (840 : Int)])) fun row17 => .ok (s6.1, row17)) (rest3, row4) (ups many2.toNat)) fun s8 => .ok s8.2
noncomputable def m__law_name (k1 : Int) (style2 : Int) (capital3 : Bool) : M Str := mb (oM (atI ([("abcdefgh" : Str), ("hgfedcba" : Str), ("dbgahcfe" : Str)]) (style2 % (3 : Int)))) fun t4 => mb (oM (atI (chs t4) k1)) fun t5 => mb (chk (decide (("t" : Str).length + t5.length ≤ 100000))) fun _ => mb (chk (decide (t5.length + ("7Q" : Str).length ≤ 100000))) fun _ => mb (chk (decide (0 ≤ ((1 : Int) + (k1 % (3 : Int))) ∧ ((1 : Int) + (k1 % (3 : Int))) ≤ 1000))) fun _ => mb (chk (decide (t5.length ≤ 50))) fun _ => mb (chk (decide (("k3" : Str).length + (repS t5 ((1 : Int) + (k1 % (3 : Int)))).length ≤ 100000))) fun _ => mb (oM (atI ([t5, ("t" : Str) ++ t5, t5 ++ ("7Q" : Str), ("k3" : Str) ++ (repS t5 ((1 : Int) + (k1 % (3 : Int))))]) ((style2 / (3 : Int)) % (4 : Int)))) fun t11 => mb (bif capital3 then mb (oM (atI (chs t11) (0 : Int))) fun t12 => mb (chk (decide (okS (Txt.upper t12)))) fun _ => mb (chk (decide ((Txt.upper t12).length + (cutS t11 (some (1 : Int)) none).length ≤ 100000))) fun _ => .ok ((Txt.upper t12) ++ (cutS t11 (some (1 : Int)) none)) else .ok t11) fun c15 => .ok c15
noncomputable def m__law_rules (cellhere1 : Int) (most2 : Int) : M (List (Str × (List Str))) := mb (m__law_draws cellhere1 ((2 : Int) + ((4 : Int) * most2))) fun t3 => mb (mlc (fun (y4 : Int) => .ok true) (fun (y4 : Int) => mb (oM (atI t3 (0 : Int))) fun t5 => mb (m__law_name y4 t5 true) fun t6 => .ok t6) (ups (4 : Int).toNat)) fun zs7 => mb (mlc (fun (y8 : Int) => .ok true) (fun (y8 : Int) => mb (oM (atI t3 (0 : Int))) fun t9 => mb (m__law_name y8 (t9 / (12 : Int)) false) fun t10 => .ok t10) (ups (4 : Int).toNat)) fun zs11 => mb (chk (decide (zs7.length + zs11.length ≤ 100000))) fun _ => mb (.ok (zs7 ++ zs11)) fun signs13 => mb (oM (atI t3 (1 : Int))) fun t14 => mb (bif (decide ((t14 % (2 : Int)) = (1 : Int))) then mb (oM (atI zs7 (1 : Int))) fun t16 => mb (chk (decide (("x." : Str).length + t16.length ≤ 100000))) fun _ => mb (oM (ixN zs7.length (1 : Int))) fun j18 => mb (.ok (zs7.set j18 (("x." : Str) ++ t16))) fun heads19 => mb (oM (atI heads19 (1 : Int))) fun t20 => mb (oM (atI signs13 (5 : Int))) fun t21 => mb (chk (decide (("x." : Str).length + t21.length ≤ 100000))) fun _ => mb (chk (decide (signs13.length + ([t20, ("x." : Str) ++ t21]).length ≤ 100000))) fun _ => mb (.ok (signs13 ++ ([t20, ("x." : Str) ++ t21]))) fun signs24 => .ok (heads19, signs24) else .ok (zs7, signs13)) fun (s15 : ((List Str) × (List Str))) => mb (.ok ([] : (List (Str × (List Str))))) fun ruleshere25 => mb (chk (decide (0 < (most2 + (1 : Int))))) fun _ => mb (chk (decide (-100000 ≤ ((t14 / (2 : Int)) % (most2 + (1 : Int))) ∧ ((t14 / (2 : Int)) % (most2 + (1 : Int))) ≤ 100000))) fun _ => mb (mfor (fun (s28 : (List (Str × (List Str)))) (x29 : Int) => mb (.ok (cut t3 (some ((2 : Int) + ((4 : Int) * x29))) (some ((6 : Int) + ((4 : Int) * x29))))) fun d31 => mb (oM (atI d31 (0 : Int))) fun t32 => mb (chk (decide ((cut d31 (some (1 : Int)) (some ((1 : Int) + ((t32 / (4 : Int)) % (4 : Int))))).length ≤ 100000))) fun _ => mb (mlc (fun (y33 : Int) => .ok true) (fun (y33 : Int) => mb (chk (decide (0 < (s15.2.length : Int)))) fun _ => mb (oM (atI s15.2 (y33 % (s15.2.length : Int)))) fun t35 => .ok t35) (cut d31 (some (1 : Int)) (some ((1 : Int) + ((t32 / (4 : Int)) % (4 : Int)))))) fun zs37 => mb (oM (atI s15.1 (t32 % (4 : Int)))) fun t38 => mb (chk (decide (s28.length < 100000))) fun _ => mb (.ok (s28 ++ [(t38, zs37)])) fun ruleshere40 => mb (oM (atI d31 (3 : Int))) fun t41 => bif (decide ((t41 % (5 : Int)) = (0 : Int))) then mb (oM (atI d31 (2 : Int))) fun t42 => mb (chk (decide (0 < (ruleshere40.length : Int)))) fun _ => mb (oM (atI ruleshere40 (t42 % (ruleshere40.length : Int)))) fun t44 => mb (chk (decide (ruleshere40.length < 100000))) fun _ => mb (.ok (ruleshere40 ++ [t44])) fun ruleshere46 => .ok ruleshere46 else .ok ruleshere40) ruleshere25 (ups ((t14 / (2 : Int)) % (most2 + (1 : Int))).toNat)) fun s30 => .ok s30
noncomputable def m__law_grouped (ruleshere1 : (List (Str × (List Str)))) : M (List (Str × (List Str))) := mb (.ok ([] : (List Str))) fun heads2 => mb (mfor (fun (s3 : (List Str)) (x4 : (Str × (List Str))) => bif (!(decide (x4.1 ∈ s3))) then mb (chk (decide (s3.length < 100000))) fun _ => mb (.ok (s3 ++ [x4.1])) fun heads7 => .ok heads7 else .ok s3) heads2 ruleshere1) fun s5 => mb (.ok ([] : (List (Str × (List Str))))) fun found8 => mb (mfor (fun (s9 : (List (Str × (List Str)))) (x10 : Str) => mb (mfor (fun (s12 : (List (Str × (List Str)))) (x13 : (Str × (List Str))) => bif ((decide (x13.1 = x10)) && (!(memB (x13.1, x13.2) s12))) then mb (chk (decide (s12.length < 100000))) fun _ => mb (.ok (s12 ++ [(x13.1, x13.2)])) fun found16 => .ok found16 else .ok s12) s9 ruleshere1) fun s14 => .ok s14) found8 s5) fun s11 => .ok s11
noncomputable def m__law_same (told1 : (Str × (List Str))) (due2 : (Str × (List Str))) : M Bool := bif ((!true) || ((!decide (((2 : Nat) : Int) = (2 : Int))) || (!true))) then .ok false else bif (!true) then .ok false else mb (mforF (fun (s3 : Unit) (x4 : Str) => bif (!true) then .ok (.rt false) else .ok (.nx ())) () told1.2 : M (Fl Unit Bool)) fun o5 => Fl.go o5 (fun (s3 : Unit) => .ok (eqB told1 due2)) (fun x => .ok x) (fun _ => .error .stuck)
noncomputable def m__law_all_same (told1 : (List (Str × (List Str)))) (due2 : (List (Str × (List Str)))) : M Bool := bif (!decide ((told1.length : Int) = (due2.length : Int))) then .ok false else mb (chk (decide (-100000 ≤ (due2.length : Int) ∧ (due2.length : Int) ≤ 100000))) fun _ => mb (mforF (fun (s4 : Unit) (x5 : Int) => mb (oM (atI told1 x5)) fun t7 => mb (oM (atI due2 x5)) fun t8 => mb (m__law_same t7 t8) fun t9 => bif (!t9) then .ok (.rt false) else .ok (.nx ())) () (ups (due2.length : Int).toNat) : M (Fl Unit Bool)) fun o6 => Fl.go o6 (fun (s4 : Unit) => .ok true) (fun x => .ok x) (fun _ => .error .stuck)
noncomputable def m__law_line (one1 : (Str × (List Str))) : M Str := mb (chk (decide (one1.1.length + (" ->" : Str).length ≤ 100000))) fun _ => mb (.ok (one1.1 ++ (" ->" : Str))) fun linehere3 => mb (mfor (fun (s4 : Str) (x5 : Str) => mb (chk (decide (s4.length + (" " : Str).length ≤ 100000))) fun _ => mb (chk (decide ((s4 ++ (" " : Str)).length + x5.length ≤ 100000))) fun _ => mb (.ok ((s4 ++ (" " : Str)) ++ x5)) fun linehere9 => .ok linehere9) linehere3 one1.2) fun s6 => .ok s6
noncomputable def m_law (script1 : (List Int)) : M Bool := mb (m__law_cell script1 (0 : Int)) fun t2 => mb (m__law_rules t2 (9 : Int)) fun t3 => mb (m__law_grouped t3) fun t4 => mb (mforF (fun (s5 : Unit) (x6 : (Str × (List Str))) => mb (m_format_rule x6) fun t8 => mb (mor (!true) (mb (m__law_line x6) fun t9 => .ok (!(decide (t8 = t9))))) fun c10 => bif c10 then .ok (.rt false) else .ok (.nx ())) () t3 : M (Fl Unit Bool)) fun o7 => Fl.go o7 (fun (s5 : Unit) => mb (chk (decide (t3.length ≤ 100000))) fun _ => mb (mlc (fun (y11 : (Str × (List Str))) => .ok true) (fun (y11 : (Str × (List Str))) => mb (m__law_line y11) fun t12 => .ok t12) t3) fun zs14 => mb (chk (decide ((zs14.map (·.length)).sum + zs14.length * ("\n" : Str).length ≤ 16777216))) fun _ => mb (chk (decide (okS (Txt.join ("\n" : Str) zs14)))) fun _ => mb (m_Grammar_from_string () (Txt.join ("\n" : Str) zs14)) fun t17 => mb (m__law_all_same t17 t4) fun t18 => bif (!t18) then .ok false else mb (m_Grammar___str__ t17) fun t19 => mb (mor (!true) (mb (chk (decide (t4.length ≤ 100000))) fun _ => mb (mlc (fun (y20 : (Str × (List Str))) => .ok true) (fun (y20 : (Str × (List Str))) => mb (m__law_line y20) fun t21 => .ok t21) t4) fun zs23 => mb (chk (decide ((zs23.map (·.length)).sum + zs23.length * ("\n" : Str).length ≤ 16777216))) fun _ => mb (chk (decide (okS (Txt.join ("\n" : Str) zs23)))) fun _ => .ok (!(decide (t19 = (Txt.join ("\n" : Str) zs23)))))) fun c26 => bif c26 then .ok false else mb (m_Grammar_from_string () t19) fun t27 => mb (m__law_all_same t27 t4) fun t28 => .ok t28) (fun x => .ok x) (fun _ => .error .stuck)
end Gt
/-! M_cell: cells of the script, drawn rows. -/
namespace Gt
open PySem PySem.Spec PyProof.Rows L2
def cellAt (ns : List Int) (k : Int) : Int := bif decide (k < (ns.length : Int)) then ns.getD k.toNat 0 else 0
theorem t_cell {ns : List Int} {k : Int} (h : 0 ≤ k) : m__law_cell ns k = .ok (cellAt ns k) := by
  unfold m__law_cell cellAt
  cases e : decide (k < (ns.length : Int)) with
  | false => rfl
  | true =>
    have h1 := of_decide_eq_true e
    obtain ⟨x, e1, e2, _⟩ := atI_in (xs := ns) h h1
    rw [cond_true, mb_of (mb_of (oM_of e1)), cond_true]
    show mb (.ok x) _ = _
    rw [List.getD_eq_getElem?_getD, e2]
    rfl
theorem t_draws {c n : Int} (h : 0 ≤ n ∧ n ≤ 1000) : Tt (m__law_draws c n) fun row => row.length = n.toNat ∧ ∀ d ∈ row, 0 ≤ d ∧ d < 840 := by
  unfold m__law_draws
  refine Tt.let (Tt.let (Tt.chk (by omega) ?_))
  refine (Tt.for (fun (pre : List Int) (s : Int × List Int) => s.2.length = pre.length ∧ ∀ d ∈ s.2, 0 ≤ d ∧ d < 840) ⟨rfl, by intro d hd; cases hd⟩ ?_).bind fun s hs => Tt.ret ⟨by rw [hs.1, ups_len], hs.2⟩
  intro pre x post s hx ⟨hl, hd⟩
  have h3 := congrArg List.length hx
  rw [ups_len, List.length_append, List.length_cons] at h3
  have app : ∀ v : Int, 0 ≤ v ∧ v < 840 → (s.2 ++ [v]).length = (pre ++ [x]).length ∧ ∀ d ∈ s.2 ++ [v], 0 ≤ d ∧ d < 840 := fun v hv => by
    refine ⟨by rw [List.length_append, List.length_append, hl]; rfl, fun d hm => ?_⟩
    rcases List.mem_append.mp hm with q | q
    · exact hd d q
    · rw [List.mem_singleton.mp q]; exact hv
  refine Tt.if (fun _ => ?_) fun _ => ?_
  · exact Tt.chk (by omega) (Tt.let (Tt.let (Tt.ret (app _ ⟨Int.emod_nonneg _ (by decide), Int.emod_lt_of_pos _ (by decide)⟩))))
  · refine Tt.let ?_
    have h1 : ∀ a : Int, CMul (a % 1000003) (a % 1000003) := fun a => .inl (by omega)
    have h2 : ∀ a : Int, CMul (a % 999983) (a % 999983) := fun a => .inl (by omega)
    refine Tt.chk (h1 _) (Tt.let (Tt.chk (h2 _) (Tt.chk (by omega) (Tt.let (Tt.ret (app _ ⟨?_, ?_⟩))))))
    · exact Int.emod_nonneg _ (by decide)
    · exact Int.emod_lt_of_pos _ (by decide)
end Gt
/-! M_name: drawn names. -/
namespace Gt
open PySem PySem.Spec PyProof.Rows L2
/-- the name of number k -/
noncomputable def nameT (k st : Int) (cap : Bool) : Str := match m__law_name k (st % 12) cap with
  | .ok s => s
  | .error _ => ""
theorem name12 (k st : Int) (cap : Bool) : m__law_name k st cap = m__law_name k (st % 12) cap := by
  unfold m__law_name
  rw [show st % 12 % 3 = st % 3 by omega, show st % 12 / 3 % 4 = st / 3 % 4 by omega]
def isOk {α : Type} : M α → Bool
  | .ok _ => true
  | .error _ => false
theorem name_tab : ∀ k < 8, ∀ st < 12, ∀ cap : Bool, isOk (m__law_name (k : Nat) (st : Nat) cap) = true ∧ (nameT (k : Nat) (st : Nat) cap).length ≤ 8 := by decide +kernel
theorem t_name {k st : Int} {cap : Bool} (h : 0 ≤ k ∧ k < 8) : m__law_name k st cap = .ok (nameT k st cap) ∧ (nameT k st cap).length ≤ 8 := by
  obtain ⟨k, rfl⟩ := Int.eq_ofNat_of_zero_le h.1
  have e0 : 0 ≤ st % 12 := Int.emod_nonneg _ (by decide)
  have e1 : st % 12 < 12 := Int.emod_lt_of_pos _ (by decide)
  have eN : nameT k st cap = nameT k (st % 12) cap := by unfold nameT; rw [Int.emod_emod_of_dvd _ (by decide)]
  rw [name12, eN]
  obtain ⟨s, hs⟩ := Int.eq_ofNat_of_zero_le e0
  rw [hs] at e1 ⊢
  obtain ⟨a, b⟩ := name_tab k (by omega) s (by omega) cap
  refine ⟨?_, b⟩
  unfold nameT
  rw [show ((s : Int)) % 12 = (s : Int) by omega]
  cases q : m__law_name (k : Int) (s : Int) cap with
  | ok v => rfl
  | error _ => rw [q] at a; cases a
/-- all names that can be drawn -/
noncomputable def names (cap : Bool) : List Str := (List.range 8).flatMap fun k => (List.range 12).map fun (st : Nat) => nameT (k : Nat) (st : Nat) cap
theorem name_in {k st : Int} {cap : Bool} (h : 0 ≤ k ∧ k < 8) : nameT k st cap ∈ names cap := by
  obtain ⟨k, rfl⟩ := Int.eq_ofNat_of_zero_le h.1
  have e0 : 0 ≤ st % 12 := Int.emod_nonneg _ (by decide)
  have e1 : st % 12 < 12 := Int.emod_lt_of_pos _ (by decide)
  have eN : nameT k st cap = nameT k (st % 12) cap := by unfold nameT; rw [Int.emod_emod_of_dvd _ (by decide)]
  obtain ⟨s, hs⟩ := Int.eq_ofNat_of_zero_le e0
  rw [eN, hs]
  rw [hs] at e1
  exact List.mem_flatMap.mpr ⟨k, List.mem_range.mpr (by omega), List.mem_map.mpr ⟨s, List.mem_range.mpr (by omega), rfl⟩⟩
noncomputable def AH : List Str := names true ++ (names true).map fun s => ("x." : Str) ++ s
noncomputable def AS : List Str := AH ++ (names false ++ (names false).map fun s => ("x." : Str) ++ s)
theorem AH_AS {s : Str} (h : s ∈ AH) : s ∈ AS := List.mem_append.mpr (.inl h)
theorem x_AH {s : Str} (h : s ∈ names true) : ("x." : Str) ++ s ∈ AH := List.mem_append.mpr (.inr (List.mem_map.mpr ⟨s, h, rfl⟩))
theorem n_AH {s : Str} (h : s ∈ names true) : s ∈ AH := List.mem_append.mpr (.inl h)
theorem x_AS {s : Str} (h : s ∈ names false) : ("x." : Str) ++ s ∈ AS := List.mem_append.mpr (.inr (List.mem_append.mpr (.inr (List.mem_map.mpr ⟨s, h, rfl⟩))))
theorem n_AS {s : Str} (h : s ∈ names false) : s ∈ AS := List.mem_append.mpr (.inr (List.mem_append.mpr (.inl h)))
theorem AH_zq : ∀ s ∈ AH, s ≠ "Zq" ∧ s ≠ "x.Zq" := by decide +kernel
theorem names_len : ∀ cap : Bool, ∀ s ∈ names cap, s.length ≤ 8 := by decide +kernel
end Gt
/-! M_rules: drawn rules. -/
namespace Gt
open PySem PySem.Spec PyProof.Rows L2
theorem len_xdot (s : Str) (h : s.length ≤ 8) : ("x." : Str).length + s.length ≤ 100000 := by
  have : ("x." : Str).length = 2 := by decide +kernel
  omega
abbrev RulesOk (n : Nat) (rs : List (Str × List Str)) : Prop := rs.length ≤ n ∧ ∀ r ∈ rs, r.1 ∈ AH ∧ ∀ s ∈ r.2, s ∈ AS
abbrev RulesOk3 (n : Nat) (rs : List (Str × List Str)) : Prop := rs.length ≤ n ∧ ∀ r ∈ rs, (r.1 ∈ AH ∧ ∀ s ∈ r.2, s ∈ AS) ∧ r.2.length ≤ 3
theorem t_rules3 {c most : Int} (hm : 0 ≤ most ∧ most ≤ 100) : Tt (m__law_rules c most) fun rs => RulesOk3 (2 * most.toNat) rs := by
  unfold m__law_rules
  refine (t_draws (by omega)).bind fun row ⟨hl, hd⟩ => ?_
  have four : ∀ x ∈ ups (4 : Int).toNat, 0 ≤ x ∧ x < 8 := fun x hx => by have := ups_mem hx; omega
  refine (Tt.lc (P := fun s : Str => s ∈ names true) fun k hk => Tt.ix (by omega) (by omega) fun st _ _ => ?_).bind fun heads ⟨hl1, hs1⟩ => ?_
  · rw [mb_of (t_name (four k hk)).1]
    exact name_in (four k hk)
  refine (Tt.lc (P := fun s : Str => s ∈ names false) fun k hk => Tt.ix (by omega) (by omega) fun st _ _ => ?_).bind fun toks ⟨hl2, hs2⟩ => ?_
  · rw [mb_of (t_name (four k hk)).1]
    exact name_in (four k hk)
  have u4 : (ups (4 : Int).toNat).length = 4 := ups_len _
  rw [u4] at hl1 hl2
  refine Tt.chk (by omega) (Tt.let (Tt.ix (by omega) (by omega) fun t _ _ => ?_))
  have hla : (heads ++ toks).length = 8 := by rw [List.length_append]; omega
  have sAS : ∀ s ∈ heads ++ toks, s ∈ AS := fun s hs => by
    rcases List.mem_append.mp hs with q | q
    · exact AH_AS (n_AH (hs1 s q))
    · exact n_AS (hs2 s q)
  refine Tt.bind (P := fun s : List Str × List Str => (s.1.length = 4 ∧ ∀ x ∈ s.1, x ∈ AH) ∧ (8 ≤ s.2.length ∧ s.2.length ≤ 10) ∧ ∀ x ∈ s.2, x ∈ AS) ?_ fun s ⟨⟨q1, q4⟩, ⟨q2, q3⟩, q5⟩ => ?_
  · refine Tt.if (fun _ => ?_) fun _ => Tt.ret ⟨⟨hl1, fun x hx => n_AH (hs1 x hx)⟩, by show 8 ≤ (heads ++ toks).length ∧ (heads ++ toks).length ≤ 10; omega, sAS⟩
    refine Tt.ix (by omega) (by omega) fun h1 hh1 _ => Tt.chk (len_xdot _ (names_len _ _ (hs1 _ hh1))) (Tt.ixN (by omega) (by omega) (Tt.let ?_))
    have hls : (heads.set (1 : Int).toNat (("x." : Str) ++ h1)).length = 4 := by rw [List.length_set]; exact hl1
    have hsA : ∀ x ∈ heads.set (1 : Int).toNat (("x." : Str) ++ h1), x ∈ AH := fun x hx => by
      rcases List.mem_or_eq_of_mem_set hx with q | q
      · exact n_AH (hs1 x q)
      · rw [q]; exact x_AH (hs1 _ hh1)
    refine Tt.ix (by omega) (by omega) fun h2 hh2 _ => Tt.ix (by omega) (by omega) fun s2 _ e5 => ?_
    have hs2' : s2 ∈ names false := by
      rw [List.getElem?_append_right (by rw [hl1]; decide)] at e5
      exact hs2 _ (List.mem_of_getElem? e5)
    refine Tt.chk (len_xdot _ (names_len _ _ hs2')) (Tt.chk ?_ (Tt.let (Tt.ret ⟨⟨hls, hsA⟩, ⟨?_, ?_⟩, ?_⟩)))
    · simp only [List.length_cons, List.length_nil]; omega
    · show 8 ≤ (heads ++ toks ++ [h2, _]).length; rw [List.length_append, hla]; exact Nat.le_add_right _ _
    · show (heads ++ toks ++ [h2, _]).length ≤ 10; rw [List.length_append, hla]; exact Nat.le_refl _
    · intro x hx
      rcases List.mem_append.mp hx with q | q
      · exact sAS x q
      · rcases List.mem_cons.mp q with q | q
        · rw [q]; exact AH_AS (hsA _ hh2)
        · rw [List.mem_singleton.mp q]; exact x_AS hs2'
  have hn0 : 0 ≤ t / 2 % (most + 1) := Int.emod_nonneg _ (by omega)
  have hn1 : t / 2 % (most + 1) < most + 1 := Int.emod_lt_of_pos _ (by omega)
  refine Tt.let (Tt.chk (by omega) (Tt.chk (by omega) ?_))
  generalize t / 2 % (most + 1) = n at hn0 hn1 ⊢
  refine (Tt.for (fun (pre : List Int) (rs : List (Str × List Str)) => rs.length ≤ 2 * pre.length ∧ ∀ r ∈ rs, (r.1 ∈ AH ∧ ∀ s ∈ r.2, s ∈ AS) ∧ r.2.length ≤ 3) ⟨Nat.le_refl _, by intro r hr; cases hr⟩ ?_).bind fun rs hrs => Tt.ret ?_
  · intro pre x post rs hx ⟨hrs, hrr⟩
    have hx1 : x ∈ ups n.toNat := by rw [hx]; simp
    have hx2 := ups_mem hx1
    have h3 := congrArg List.length hx
    rw [ups_len, List.length_append, List.length_cons] at h3
    refine Tt.let ?_
    have hc : (cut row (some (2 + 4 * x)) (some (6 + 4 * x))).length = 4 := by
      rw [cut_len_in (by omega) (by omega) (by omega)]; omega
    generalize cut row (some (2 + 4 * x)) (some (6 + 4 * x)) = d at hc
    refine Tt.ix (by omega) (by omega) fun d0 _ _ => Tt.chk (by have := cut_le d (some 1) (some (1 + d0 / 4 % 4)); omega) ?_
    refine (Tt.lc (P := fun y : Str => y ∈ AS) fun y _ => ?_).bind fun side hside => ?_
    · refine Tt.chk (by omega) (Tt.ix (Int.emod_nonneg _ (by omega)) (Int.emod_lt_of_pos _ (by omega)) fun y hy _ => Tt.ret (q5 y hy))
    refine Tt.ix (Int.emod_nonneg _ (by decide)) (by have := Int.emod_lt_of_pos d0 (b := 4) (by decide); omega) fun hd hhd _ => Tt.chk (by omega) (Tt.let (Tt.ix (by omega) (by omega) fun d3 _ _ => ?_))
    have hl9 : (rs ++ [(hd, side)]).length = rs.length + 1 := by rw [List.length_append]; rfl
    have hl8 : (pre ++ [x]).length = pre.length + 1 := by rw [List.length_append]; rfl
    have side3 : side.length ≤ 3 := by
      rw [hside.1]
      have e0 : 0 ≤ d0 / 4 % 4 := Int.emod_nonneg _ (by decide)
      have e1 : d0 / 4 % 4 < 4 := Int.emod_lt_of_pos _ (by decide)
      rw [cut_len_in (by omega) (by omega) (by omega)]
      omega
    have new : ∀ r ∈ rs ++ [(hd, side)], (r.1 ∈ AH ∧ ∀ s ∈ r.2, s ∈ AS) ∧ r.2.length ≤ 3 := fun r hr => by
      rcases List.mem_append.mp hr with q | q
      · exact hrr r q
      · rw [List.mem_singleton.mp q]; exact ⟨⟨q4 _ hhd, hside.2⟩, side3⟩
    refine Tt.if (fun _ => ?_) fun _ => Tt.ret ⟨by rw [hl9, hl8]; omega, new⟩
    refine Tt.ix (by omega) (by omega) fun d2 _ _ => Tt.chk (by rw [hl9]; omega) (Tt.ix (Int.emod_nonneg _ (by rw [hl9]; omega)) (Int.emod_lt_of_pos _ (by rw [hl9]; omega)) fun r hr _ => Tt.chk (by rw [hl9]; omega) (Tt.let (Tt.ret ⟨?_, ?_⟩)))
    · rw [List.length_append, hl9, hl8, List.length_singleton]
      omega
    · intro r' hr'
      rcases List.mem_append.mp hr' with q | q
      · exact new r' q
      · rw [List.mem_singleton.mp q]; exact new r hr
  · rw [ups_len] at hrs; exact ⟨by omega, hrs.2⟩
theorem t_rules {c most : Int} (hm : 0 ≤ most ∧ most ≤ 100) : Tt (m__law_rules c most) fun rs => RulesOk (2 * most.toNat) rs := (t_rules3 hm).imp fun rs h => ⟨h.1, fun r hr => (h.2 r hr).1⟩
end Gt
/-! M_text: texts parted at a dot. -/
namespace Gt
open PySem PySem.Spec PyProof.Rows L2
theorem dotL : TL.tl (Str.ofString ".") = [46] := by decide +kernel
theorem dotK : (Str.ofString ".").cps.all (· < 256) = true := by decide +kernel
theorem tl_inj {x y : Str} (h : TL.tl x = TL.tl y) : x = y := TL.ext_tl h
def mkS (l : List Nat) : Str := ⟨l.toArray⟩
theorem tl_mkS (l : List Nat) : TL.tl (mkS l) = l := rfl
theorem mkS_tl (s : Str) : mkS (TL.tl s) = s := tl_inj rfl
theorem mkS_len (l : List Nat) : (mkS l).length = l.length := by rw [TL.len_tl]; rfl
theorem split_tl (s : Str) : (Txt.split s ".").map TL.tl = TL.spl [46] 0 [] (TL.tl s) := by
  rw [← dotL]
  exact TL.split_spl s "." (by rw [dotL]; exact fun h => nomatch h) (TL.kind_ok dotK)
theorem split_none {s : Str} (h : 46 ∉ TL.tl s) : Txt.split s "." = [s] := by
  apply TL.map_tl_inj
  rw [split_tl, TL.spl_last1 h]
  rfl
theorem split_one {s : Str} {p r : List Nat} (e : TL.tl s = p ++ 46 :: r) (hp : 46 ∉ p) : Txt.split s "." = mkS p :: Txt.split (mkS r) "." := by
  apply TL.map_tl_inj
  have h1 : TL.spl [46] 0 [] (p ++ ([46] ++ r)) = ([] ++ p) :: TL.spl [46] 0 [] r := TL.spl_part1 (s := 46) (S := []) hp
  rw [split_tl, e, show p ++ 46 :: r = p ++ ([46] ++ r) from rfl, h1, List.map_cons, split_tl, tl_mkS, tl_mkS]
  rfl
theorem split_pos (s : Str) : 1 ≤ (Txt.split s ".").length := by
  by_cases h : 46 ∈ TL.tl s
  · obtain ⟨p, r, e, hp⟩ := List.eq_append_cons_of_mem h
    rw [split_one e hp, List.length_cons]
    omega
  · rw [split_none h]
    exact Nat.le_refl _
/-- one part, two parts, or more -/
theorem split_cases (s : Str) : (46 ∉ TL.tl s ∧ Txt.split s "." = [s]) ∨ (∃ p r, TL.tl s = p ++ 46 :: r ∧ 46 ∉ p ∧ 46 ∉ r ∧ Txt.split s "." = [mkS p, mkS r]) ∨ 3 ≤ (Txt.split s ".").length := by
  by_cases h : 46 ∈ TL.tl s
  · obtain ⟨p, r, e, hp⟩ := List.eq_append_cons_of_mem h
    by_cases h2 : 46 ∈ r
    · obtain ⟨p2, r2, e2, hp2⟩ := List.eq_append_cons_of_mem h2
      refine .inr (.inr ?_)
      rw [split_one e hp, split_one (s := mkS r) (p := p2) (r := r2) (by rw [tl_mkS]; exact e2) hp2, List.length_cons, List.length_cons]
      have := split_pos (mkS r2)
      omega
    · refine .inr (.inl ⟨p, r, e, hp, h2, ?_⟩)
      rw [split_one e hp, split_none (s := mkS r) (by rw [tl_mkS]; exact h2)]
  · exact .inl ⟨h, split_none h⟩
theorem part_none {s : Str} (h : 46 ∉ TL.tl s) : Txt.partition s "." = (s, Str.empty, Str.empty) := TL.partition_none dotL h
theorem glue3 {s : Str} {p r : List Nat} (e : TL.tl s = p ++ 46 :: r) : s = mkS p ++ Str.ofString "." ++ mkS r := by
  apply tl_inj
  rw [TL.tl_append, TL.tl_append, dotL, tl_mkS, tl_mkS, e, List.append_assoc]
  rfl
theorem part_some {s : Str} {p r : List Nat} (e : TL.tl s = p ++ 46 :: r) (hp : 46 ∉ p) : Txt.partition s "." = (mkS p, Str.ofString ".", mkS r) := by
  have h := TL.partition_app (y := Str.ofString ".") (s := 46) (S := []) dotL (a := mkS p) (b := mkS r) (by rw [tl_mkS]; exact hp)
  rw [← glue3 e] at h
  exact h
theorem at_dot {s : Str} {i : Nat} : StrLaws.At s (Str.ofString ".") s.length i ↔ (TL.tl s)[i]? = some 46 := by
  rw [TL.at_iff (by rw [dotL]; exact fun h => nomatch h), dotL]
  unfold TL.pre
  rw [show ([46] : List Nat).length = 1 from rfl]
  constructor
  · intro h
    have h := eq_of_beq h
    cases e : (TL.tl s).drop i with
    | nil => rw [e] at h; cases h
    | cons c r =>
      rw [e] at h
      have h2 : c = 46 := by injection h
      have := List.getElem?_drop (xs := TL.tl s) (i := i) (j := 0)
      rw [e, Nat.add_zero] at this
      rw [← this, h2]
      rfl
  · intro h
    have h2 := List.drop_eq_getElem_cons (List.getElem?_eq_some_iff.mp h).1
    rw [h2, (List.getElem?_eq_some_iff.mp h).2]
    rfl
theorem rpart_none {s : Str} (h : 46 ∉ TL.tl s) : (Txt.rpartition s ".").2.2 = s := by
  unfold Txt.rpartition
  rcases StrLaws.last_spec s (Str.ofString ".") with ⟨e, _⟩ | ⟨i, e, ha, _⟩
  · rw [e]
  · exact absurd (List.mem_of_getElem? (at_dot.mp ha)) h
theorem rpart_some {s : Str} {p r : List Nat} (e : TL.tl s = p ++ 46 :: r) (hr : 46 ∉ r) : (Txt.rpartition s ".").2.2 = mkS r := by
  unfold Txt.rpartition
  have hp : (TL.tl s)[p.length]? = some 46 := by rw [e, List.getElem?_append_right (Nat.le_refl _), Nat.sub_self]; rfl
  rcases StrLaws.last_spec s (Str.ofString ".") with ⟨_, n⟩ | ⟨i, ei, ha, hn⟩
  · exact absurd (at_dot.mpr hp) (n _)
  · have hi := at_dot.mp ha
    have h1 : i = p.length := by
      rcases Nat.lt_trichotomy i p.length with q | q | q
      · exact absurd (at_dot.mpr hp) (hn _ q)
      · exact q
      · rw [e, List.getElem?_append_right (by omega)] at hi
        obtain ⟨k, hk⟩ : ∃ k, i - p.length = k + 1 := ⟨i - p.length - 1, by omega⟩
        rw [hk, List.getElem?_cons_succ] at hi
        exact absurd (List.mem_of_getElem? hi) hr
    rw [ei]
    apply tl_inj
    show TL.tl (Builtin.Str.strSub s (i + (Str.ofString ".").length) s.length) = _
    rw [TL.tl_strSub_end, tl_mkS, e, h1, show (Str.ofString ".").length = 1 from rfl, List.drop_append]
    simp
end Gt
/-! M_sign: what is a sign, asked by the program. -/
namespace Gt
open PySem PySem.Spec PyProof.Rows L2
abbrev azS : Str := "abcdefghijklmnopqrstuvwxyz"
abbrev AZS : Str := "ABCDEFGHIJKLMNOPQRSTUVWXYZ"
abbrev dgS : Str := "0123456789"
def cSm (x : Str) : Bool := match sgn x with | some c => decide (c ∈ azS.cps.toList) | none => false
def cDg (x : Str) : Bool := match sgn x with | some c => decide (c ∈ dgS.cps.toList) | none => false
def cAl (x : Str) : Bool := match sgn x with | some c => decide (c ∈ azS.cps.toList) || (decide (c ∈ AZS.cps.toList) || decide (c ∈ dgS.cps.toList)) | none => false
def Ln (t : Str) : Bool := decide ((1 : Int) ≤ (t.length : Int)) && decide ((t.length : Int) ≤ 8)
def hdOf (f : Str → Bool) (t : Str) : Bool := match chs t with | x :: _ => f x | [] => false
def ownW (t : Str) : Bool := Ln t && (chs t).all cSm
def plainW (t : Str) : Bool := bif !(Ln t) || hdOf cDg t then false else (chs t).all cAl
theorem chs_sgn {t x : Str} (h : x ∈ chs t) : ∃ c, sgn x = some c ∧ x = ⟨#[c]⟩ ∧ c ∈ t.cps.toList := by
  unfold chs at h
  obtain ⟨c, hc, e⟩ := List.mem_map.mp h
  exact ⟨c, by rw [← e]; exact sgn_one c, e.symm, hc⟩
theorem all_map {α : Type} (f : α → Bool) (xs : List α) : (xs.map f).all id = xs.all f := by
  rw [List.all_map]
  rfl
theorem t_owner {t : Str} (h : t.length ≤ 100000) : m_is_owner t = .ok (ownW t) := by
  unfold m_is_owner
  rw [mb_of (Tt.mand (b := (chs t).all cSm) fun _ => ?_)]
  · rfl
  · rw [mb_of (chk_of (decide_eq_true (by rw [chs_len]; exact h)))]
    rw [mb_of (mlc_map (f' := cSm) fun x hx => ?_)]
    · exact congrArg Except.ok (all_map cSm _)
    · obtain ⟨c, e, _⟩ := chs_sgn hx
      rw [mb_of (oM_of e)]
      unfold cSm
      rw [e]
theorem hd_at {t : Str} (f : Str → Bool) (h : Ln t = true) : ∃ x c, chs t = x :: (chs t).tail ∧ atI (chs t) 0 = some x ∧ sgn x = some c ∧ hdOf f t = f x := by
  unfold Ln at h
  have h1 := of_decide_eq_true (Bool.and_eq_true_iff.mp h).1
  cases e : chs t with
  | nil => have := chs_len t; rw [e] at this; have : t.length = 0 := this.symm; omega
  | cons x xs =>
    obtain ⟨c, e2, _⟩ := chs_sgn (t := t) (x := x) (by rw [e]; exact List.mem_cons_self ..)
    exact ⟨x, c, rfl, atI_zero, e2, by unfold hdOf; rw [e]⟩
theorem t_plain {t : Str} (h : t.length ≤ 100000) : m_is_plain t = .ok (plainW t) := by
  unfold m_is_plain
  rw [mb_of (Tt.mor (b := hdOf cDg t) fun q => ?_)]
  · show (bif !(Ln t) || hdOf cDg t then _ else _) = _
    unfold plainW
    cases !(Ln t) || hdOf cDg t with
    | true => rfl
    | false =>
      rw [cond_false, cond_false, mb_of (chk_of (decide_eq_true (by rw [chs_len]; exact h)))]
      rw [mb_of (mlc_map (f' := cAl) fun x hx => ?_)]
      · exact congrArg Except.ok (all_map cAl _)
      · obtain ⟨c, e, _⟩ := chs_sgn hx
        rw [mb_of (oM_of e)]
        unfold cAl
        rw [e]
  · have q : Ln t = true := by
      have : (!(Ln t)) = false := q
      simpa using this
    obtain ⟨x, c, _, e1, e2, e3⟩ := hd_at cDg q
    rw [mb_of (oM_of e1), mb_of (oM_of e2), e3]
    unfold cDg
    rw [e2]
/-- a short text of the small signs -/
def Asc (w : Str) : Prop := w.length ≤ 600 ∧ ∀ c ∈ TL.tl w, c < 128
theorem asc_okS {w : Str} (h : Asc w) : okS w := by
  refine ⟨by have := h.1; omega, ?_⟩
  rw [← Array.all_toList, List.all_eq_true]
  intro c hc
  have := h.2 c hc
  exact decide_eq_true (by omega)
theorem split_in : ∀ (n : Nat) (s : Str), (TL.tl s).length ≤ n → ∀ x ∈ Txt.split s ".", x.length ≤ s.length ∧ ∀ c ∈ TL.tl x, c ∈ TL.tl s
  | n, s, hn, x, hx => by
    by_cases h : 46 ∈ TL.tl s
    · obtain ⟨p, r, e, hp⟩ := List.eq_append_cons_of_mem h
      have hl : s.length = p.length + (r.length + 1) := by rw [TL.len_tl, e, List.length_append, List.length_cons]
      rw [split_one e hp] at hx
      rcases List.mem_cons.mp hx with q | q
      · rw [q]
        refine ⟨by rw [mkS_len]; omega, fun c hc => ?_⟩
        rw [e]
        exact List.mem_append_left _ hc
      · cases n with
        | zero => rw [← TL.len_tl] at hn; omega
        | succ n =>
          obtain ⟨h1, h2⟩ := split_in n (mkS r) (by rw [tl_mkS]; rw [← TL.len_tl] at hn; omega) x q
          refine ⟨by rw [mkS_len] at h1; omega, fun c hc => ?_⟩
          rw [e]
          exact List.mem_append_right _ (List.mem_cons_of_mem _ (h2 c hc))
    · rw [split_none h] at hx
      cases List.mem_singleton.mp hx
      exact ⟨Nat.le_refl _, fun c hc => hc⟩
theorem split_asc {s : Str} (h : Asc s) : ∀ x ∈ Txt.split s ".", Asc x := fun x hx => by
  obtain ⟨h1, h2⟩ := split_in _ s (Nat.le_refl _) x hx
  exact ⟨Nat.le_trans h1 h.1, fun c hc => h.2 c (h2 c hc)⟩
def SG (w : Str) : Bool := bif decide (((Txt.split w ".").length : Int) = 2) then ownW ((Txt.split w ".").getD 0 "") && plainW ((Txt.split w ".").getD 1 "") else plainW w
theorem two_parts {xs : List Str} (h : (xs.length : Int) = 2) : ∃ a b, xs = [a, b] := by
  match xs, h with
  | [a, b], _ => exact ⟨a, b, rfl⟩
  | [], h => cases h
  | [_], h => simp at h
  | _ :: _ :: _ :: _, h => simp at h; omega
theorem t_sign {w : Str} (h : Asc w) : m_is_sign w = .ok (SG w) := by
  have hs := split_asc h
  unfold m_is_sign
  rw [mb_of (chk_of (by decide +kernel)), mb_of (chk_of (decide_eq_true (by have := h.1; omega))), mb_of (chk_of (decide_eq_true fun x hx => asc_okS (hs x hx))), mb_ret]
  unfold SG
  cases c : decide (((Txt.split w ".").length : Int) = 2) with
  | true =>
    obtain ⟨a, b, e⟩ := two_parts (of_decide_eq_true c)
    rw [e] at hs ⊢
    have ha := (hs a (List.mem_cons_self ..)).1
    have hb := (hs b (List.mem_cons_of_mem _ (List.mem_cons_self ..))).1
    rw [cond_true, cond_true]
    show mb (m_is_owner a) _ = _
    rw [mb_of (t_owner (by omega)), mb_of (Tt.mand (b := plainW b) fun _ => ?_)]
    · rfl
    · show mb (m_is_plain b) _ = _
      rw [mb_of (t_plain (by omega))]
  | false =>
    rw [cond_false, cond_false, mb_of (t_plain (by have := h.1; omega))]
theorem ln_or (t : Str) (b : Bool) : (decide ((t.length : Int) < 1) || (decide ((8 : Int) < (t.length : Int)) || b)) = (!(Ln t) || b) := by
  unfold Ln
  by_cases h1 : (t.length : Int) < 1
  · rw [decide_eq_true h1, decide_eq_false (show ¬ (1 : Int) ≤ (t.length : Int) by omega)]
    rfl
  · rw [decide_eq_false h1, decide_eq_true (show (1 : Int) ≤ (t.length : Int) by omega)]
    by_cases h2 : (8 : Int) < (t.length : Int)
    · rw [decide_eq_true h2, decide_eq_false (show ¬ (t.length : Int) ≤ 8 by omega)]
      rfl
    · rw [decide_eq_false h2, decide_eq_true (show (t.length : Int) ≤ 8 by omega)]
      rfl
theorem dot_plain {w : Str} (h : 46 ∈ TL.tl w) : plainW w = false := by
  unfold plainW
  cases !(Ln w) || hdOf cDg w with
  | true => rfl
  | false =>
    rw [cond_false, Bool.eq_false_iff]
    intro q
    rw [List.all_eq_true] at q
    have := q ⟨#[46]⟩ (List.mem_map.mpr ⟨46, h, rfl⟩)
    exact absurd this (by decide +kernel)
def TK (w : Str) : Bool := bif decide (((Txt.split w ".").length : Int) = 2) then hdOf cSm ((Txt.split w ".").getD 1 "") else hdOf cSm w
theorem plain_ln {t : Str} (h : plainW t = true) : Ln t = true := by
  unfold plainW at h
  cases q : Ln t with
  | true => rfl
  | false => rw [q] at h; cases h
theorem rpart_ok {s : Str} (a : Asc s) (h : 46 ∉ TL.tl s) : okS (Txt.rpartition s ".").1 ∧ okS (Txt.rpartition s ".").2.1 ∧ okS (Txt.rpartition s ".").2.2 := by
  refine ⟨?_, ?_, by rw [rpart_none h]; exact asc_okS a⟩ <;>
  · unfold Txt.rpartition
    rcases StrLaws.last_spec s (Str.ofString ".") with ⟨e, _⟩ | ⟨i, e, ha, _⟩
    · rw [e]; exact (by decide +kernel : okS Str.empty)
    · exact absurd (List.mem_of_getElem? (at_dot.mp ha)) h
theorem rpart_ok2 {s : Str} {p r : List Nat} (a : Asc s) (e : TL.tl s = p ++ 46 :: r) (hr : 46 ∉ r) : okS (Txt.rpartition s ".").1 ∧ okS (Txt.rpartition s ".").2.1 ∧ okS (Txt.rpartition s ".").2.2 := by
  have ar : Asc (mkS r) := ⟨by have := a.1; rw [TL.len_tl, e, List.length_append, List.length_cons] at this; rw [mkS_len]; omega, fun c hc => a.2 c (by rw [e]; exact List.mem_append_right _ (List.mem_cons_of_mem _ hc))⟩
  refine ⟨?_, ?_, by rw [rpart_some e hr]; exact asc_okS ar⟩
  · unfold Txt.rpartition
    rcases StrLaws.last_spec s (Str.ofString ".") with ⟨e1, _⟩ | ⟨i, e1, _, _⟩
    · rw [e1]; exact (by decide +kernel : okS Str.empty)
    · rw [e1]
      refine asc_okS (w := Builtin.Str.strSub s 0 i) ⟨?_, fun c hc => a.2 c ?_⟩
      · rw [TL.len_tl, TL.tl_strSub, List.length_take, List.length_drop]
        have := a.1
        rw [TL.len_tl] at this
        omega
      · rw [TL.tl_strSub] at hc
        exact List.mem_of_mem_drop (List.mem_of_mem_take hc)
  · unfold Txt.rpartition
    rcases StrLaws.last_spec s (Str.ofString ".") with ⟨e1, _⟩ | ⟨i, e1, _, _⟩
    · rw [e1]; exact (by decide +kernel : okS Str.empty)
    · rw [e1]; exact (by decide +kernel : okS ("." : Str))
theorem sg_cases {w : Str} (h : SG w = true) : (46 ∉ TL.tl w ∧ Txt.split w "." = [w] ∧ plainW w = true ∧ TK w = hdOf cSm w) ∨ ∃ p r, TL.tl w = p ++ 46 :: r ∧ 46 ∉ p ∧ 46 ∉ r ∧ Txt.split w "." = [mkS p, mkS r] ∧ plainW (mkS r) = true ∧ ownW (mkS p) = true ∧ TK w = hdOf cSm (mkS r) := by
  unfold SG at h
  unfold TK
  rcases split_cases w with ⟨n, e⟩ | ⟨p, r, e0, hp, hr, e⟩ | h3
  · rw [e] at h ⊢
    exact .inl ⟨n, rfl, h, rfl⟩
  · rw [e] at h ⊢
    have h : (ownW (mkS p) && plainW (mkS r)) = true := h
    obtain ⟨h1, h2⟩ := Bool.and_eq_true_iff.mp h
    exact .inr ⟨p, r, e0, hp, hr, rfl, h2, h1, rfl⟩
  · rw [decide_eq_false (show ¬ ((Txt.split w ".").length : Int) = 2 by omega), cond_false] at h
    have d : 46 ∈ TL.tl w := Classical.byContradiction fun n => by rw [split_none n] at h3; exact absurd h3 (show ¬ 3 ≤ 1 by decide)
    rw [dot_plain d] at h
    cases h
theorem t_token {w : Str} (a : Asc w) (h : SG w = true) : m_is_token w = .ok (TK w) := by
  have go : ∀ t : Str, (Txt.rpartition w ".").2.2 = t → plainW t = true → (okS (Txt.rpartition w ".").1 ∧ okS (Txt.rpartition w ".").2.1 ∧ okS (Txt.rpartition w ".").2.2) → TK w = hdOf cSm t → m_is_token w = .ok (TK w) := by
    intro t e hp ok q
    unfold m_is_token
    obtain ⟨x, c, _, e1, e2, e3⟩ := hd_at cSm (plain_ln hp)
    rw [mb_of (chk_of (by decide +kernel)), mb_of (chk_of (decide_eq_true ok)), show atI [(Txt.rpartition w ".").1, (Txt.rpartition w ".").2.1, (Txt.rpartition w ".").2.2] (2 : Int) = some (Txt.rpartition w ".").2.2 from rfl, mb_of (oM_of rfl), e, mb_of (oM_of e1), mb_of (oM_of e2), q, e3]
    unfold cSm
    rw [e2]
  rcases sg_cases h with ⟨n, e, hp, q⟩ | ⟨p, r, e0, hp, hr, e, h1, _, q⟩
  · exact go w (rpart_none n) hp (rpart_ok a n) q
  · exact go (mkS r) (rpart_some e0 hr) h1 (rpart_ok2 a e0 hr) q
end Gt
/-! M_dd: lists without what stands twice; rules in groups. -/
namespace Gt
open PySem PySem.Spec PyProof.Rows L2
theorem memB_dec {α : Type} {x : α} {l : List α} [D : Decidable (x ∈ l)] : memB x l = decide (x ∈ l) := by
  unfold memB
  congr
theorem eqB_dec {α : Type} {x y : α} [D : Decidable (x = y)] : eqB x y = decide (x = y) := by
  unfold eqB
  congr
theorem eqB_self {α : Type} (x : α) : eqB x x = true := eqB_iff.mpr rfl
section
variable {α : Type}
noncomputable def ins (l : List α) (x : α) : List α := bif memB x l then l else l ++ [x]
noncomputable def dd (l : List α) : List α := l.foldl ins []
theorem ins_mem {l : List α} {x y : α} : y ∈ ins l x ↔ y ∈ l ∨ y = x := by
  unfold ins
  cases e : memB x l with
  | true =>
    have := memB_iff.mp e
    exact ⟨.inl, fun h => h.elim id fun q => by rw [q]; exact this⟩
  | false => rw [cond_false, List.mem_append, List.mem_singleton]
theorem ins_nodup {l : List α} {x : α} (h : l.Nodup) : (ins l x).Nodup := by
  unfold ins
  cases e : memB x l with
  | true => exact h
  | false =>
    have := memB_not.mp e
    rw [cond_false, List.nodup_append]
    exact ⟨h, by simp, fun a ha b hb q => this (by rw [← List.mem_singleton.mp hb, ← q]; exact ha)⟩
theorem ins_len {l : List α} {x : α} : (ins l x).length ≤ l.length + 1 := by
  unfold ins
  cases memB x l with
  | true => exact Nat.le_succ _
  | false => rw [cond_false, List.length_append]; exact Nat.le_refl _
theorem ins_no {l : List α} {x : α} (h : x ∉ l) : ins l x = l ++ [x] := by unfold ins; rw [memB_not.mpr h]; rfl
theorem ins_yes {l : List α} {x : α} (h : x ∈ l) : ins l x = l := by unfold ins; rw [memB_iff.mpr h]; rfl
theorem fold_mem {l m : List α} {y : α} : y ∈ l.foldl ins m ↔ y ∈ m ∨ y ∈ l := by
  induction l generalizing m with
  | nil => simp
  | cons x l ih =>
    rw [List.foldl_cons, ih, ins_mem, List.mem_cons]
    constructor
    · rintro ((h | h) | h)
      · exact .inl h
      · exact .inr (.inl h)
      · exact .inr (.inr h)
    · rintro (h | h | h)
      · exact .inl (.inl h)
      · exact .inl (.inr h)
      · exact .inr h
theorem fold_nodup {l m : List α} (h : m.Nodup) : (l.foldl ins m).Nodup := by
  induction l generalizing m with
  | nil => exact h
  | cons x l ih => exact ih (ins_nodup h)
theorem fold_len {l m : List α} : (l.foldl ins m).length ≤ m.length + l.length := by
  induction l generalizing m with
  | nil => exact Nat.le_refl _
  | cons x l ih =>
    have h1 := ih (m := ins m x)
    have h2 := ins_len (l := m) (x := x)
    rw [List.foldl_cons, List.length_cons]
    omega
theorem dd_mem {l : List α} {y : α} : y ∈ dd l ↔ y ∈ l := by
  unfold dd
  rw [fold_mem]
  simp
theorem dd_nodup (l : List α) : (dd l).Nodup := fold_nodup .nil
theorem dd_len (l : List α) : (dd l).length ≤ l.length := by
  have := fold_len (l := l) (m := [])
  unfold dd
  simpa using this
theorem dd_snoc (l : List α) (x : α) : dd (l ++ [x]) = ins (dd l) x := by unfold dd; rw [List.foldl_append]; rfl
/-- where all is new, all is appended -/
theorem fold_new {l m : List α} (h : l.Nodup) (h2 : ∀ x ∈ l, x ∉ m) : l.foldl ins m = m ++ l := by
  induction l generalizing m with
  | nil => simp
  | cons x l ih =>
    have h := List.nodup_cons.mp h
    rw [List.foldl_cons, ins_no (h2 x (List.mem_cons_self ..)), ih h.2 fun y hy z => ?_, List.append_assoc]
    · rfl
    · rcases List.mem_append.mp z with q | q
      · exact h2 y (List.mem_cons_of_mem _ hy) q
      · rw [List.mem_singleton.mp q] at hy; exact h.1 hy
theorem dd_id {l : List α} (h : l.Nodup) : dd l = l := by
  unfold dd
  rw [fold_new h (by intro x _ z; cases z)]
  rfl
theorem dd_dd (l : List α) : dd (dd l) = dd l := dd_id (dd_nodup l)
/-- what is there already adds nothing -/
theorem fold_old {l m : List α} (h : ∀ x ∈ l, x ∈ m) : l.foldl ins m = m := by
  induction l with
  | nil => rfl
  | cons x l ih =>
    rw [List.foldl_cons, ins_yes (h x (List.mem_cons_self ..))]
    exact ih fun y hy => h y (List.mem_cons_of_mem _ hy)
theorem dd_app (l m : List α) : dd (l ++ m) = m.foldl ins (dd l) := by unfold dd; rw [List.foldl_append]
end
/-! ### rules in groups -/
section
variable {β : Type}
noncomputable def hds (rs : List (Str × β)) : List Str := dd (rs.map (·.1))
noncomputable def sds (h : Str) (rs : List (Str × β)) : List β := dd ((rs.filter fun r => decide (r.1 = h)).map (·.2))
noncomputable def grps (rs : List (Str × β)) : List (Str × β) := (hds rs).flatMap fun h => (sds h rs).map fun s => (h, s)
theorem hds_mem {rs : List (Str × β)} {h : Str} : h ∈ hds rs ↔ ∃ s, (h, s) ∈ rs := by
  unfold hds
  rw [dd_mem, List.mem_map]
  exact ⟨fun ⟨r, hr, e⟩ => ⟨r.2, by rw [← e]; exact hr⟩, fun ⟨s, hs⟩ => ⟨_, hs, rfl⟩⟩
theorem sds_mem {rs : List (Str × β)} {h : Str} {s : β} : s ∈ sds h rs ↔ (h, s) ∈ rs := by
  unfold sds
  rw [dd_mem, List.mem_map]
  constructor
  · rintro ⟨r, hr, e⟩
    obtain ⟨h1, h2⟩ := List.mem_filter.mp hr
    have := of_decide_eq_true h2
    rw [← e, ← this]
    exact h1
  · exact fun hs => ⟨_, List.mem_filter.mpr ⟨hs, decide_eq_true rfl⟩, rfl⟩
theorem grps_mem {rs : List (Str × β)} {r : Str × β} : r ∈ grps rs ↔ r ∈ rs := by
  unfold grps
  rw [List.mem_flatMap]
  constructor
  · rintro ⟨h, _, hr⟩
    obtain ⟨s, hs, e⟩ := List.mem_map.mp hr
    rw [← e]
    exact sds_mem.mp hs
  · exact fun h => ⟨r.1, hds_mem.mpr ⟨r.2, h⟩, List.mem_map.mpr ⟨r.2, sds_mem.mpr h, rfl⟩⟩
theorem nodup_map_mk {h : Str} {l : List β} (n : l.Nodup) : (l.map fun s => (h, s)).Nodup := by
  induction l with
  | nil => exact .nil
  | cons x l ih =>
    have n := List.nodup_cons.mp n
    rw [List.map_cons]
    refine List.nodup_cons.mpr ⟨fun z => ?_, ih n.2⟩
    obtain ⟨s, hs, e⟩ := List.mem_map.mp z
    cases e
    exact n.1 hs
theorem flat_nodup {f : Str → List β} : ∀ {hs : List Str}, hs.Nodup → (∀ h, (f h).Nodup) → (hs.flatMap fun h => (f h).map fun s => (h, s)).Nodup
  | [], _, _ => .nil
  | h :: hs, n, nf => by
    have n := List.nodup_cons.mp n
    rw [List.flatMap_cons, List.nodup_append]
    refine ⟨nodup_map_mk (nf h), flat_nodup n.2 nf, fun a ha b hb e => ?_⟩
    obtain ⟨s, _, e1⟩ := List.mem_map.mp ha
    obtain ⟨h', hh', hb⟩ := List.mem_flatMap.mp hb
    obtain ⟨s', _, e2⟩ := List.mem_map.mp hb
    rw [← e1, ← e2] at e
    cases e
    exact n.1 hh'
theorem grps_nodup (rs : List (Str × β)) : (grps rs).Nodup := flat_nodup (dd_nodup _) fun _ => dd_nodup _
theorem flat_heads {f : Str → List β} : ∀ {hs : List Str}, (∀ h ∈ hs, f h ≠ []) → dd ((hs.flatMap fun h => (f h).map fun s => (h, s)).map (·.1)) = dd hs := by
  have aux : ∀ (hs acc : List Str), (∀ h ∈ hs, f h ≠ []) → ((hs.flatMap fun h => (f h).map fun s => (h, s)).map (·.1)).foldl ins acc = hs.foldl ins acc := by
    intro hs
    induction hs with
    | nil => intro acc _; rfl
    | cons h hs ih =>
      intro acc ne
      rw [List.flatMap_cons, List.map_append, List.foldl_append, List.foldl_cons]
      have one : (((f h).map fun s => (h, s)).map (·.1)).foldl ins acc = ins acc h := by
        rw [List.map_map]
        cases e : f h with
        | nil => exact absurd e (ne h (List.mem_cons_self ..))
        | cons s l =>
          rw [List.map_cons, List.foldl_cons]
          exact fold_old fun x hx => by
            obtain ⟨_, _, e⟩ := List.mem_map.mp hx
            rw [← e]
            exact ins_mem.mpr (.inr rfl)
      rw [one]
      exact ih _ fun x hx => ne x (List.mem_cons_of_mem _ hx)
  intro hs ne
  exact aux hs [] ne
theorem flat_sides {f : Str → List β} {h : Str} : ∀ {hs : List Str}, hs.Nodup → h ∈ hs → ((hs.flatMap fun h => (f h).map fun s => (h, s)).filter fun r => decide (r.1 = h)).map (·.2) = f h
  | [], _, m => nomatch m
  | h' :: hs, n, m => by
    have n := List.nodup_cons.mp n
    rw [List.flatMap_cons, List.filter_append, List.map_append]
    have all : ((f h).map fun s => (h, s)).filter (fun r => decide (r.1 = h)) = (f h).map fun s => (h, s) := List.filter_eq_self.mpr fun r hr => by
      obtain ⟨s, _, e⟩ := List.mem_map.mp hr
      rw [← e]
      exact decide_eq_true rfl
    by_cases e : h' = h
    · subst e
      have none : (hs.flatMap fun h => (f h).map fun s => (h, s)).filter (fun r => decide (r.1 = h')) = [] := by
        refine List.filter_eq_nil_iff.mpr fun r hr z => ?_
        obtain ⟨h2, hh, hr⟩ := List.mem_flatMap.mp hr
        obtain ⟨s, _, e⟩ := List.mem_map.mp hr
        rw [← e] at z
        have : h2 = h' := of_decide_eq_true z
        exact n.1 (this ▸ hh)
      rw [all, none, List.map_map, List.map_nil, List.append_nil]
      exact List.map_id _
    · have none : ((f h').map fun s => (h', s)).filter (fun r => decide (r.1 = h)) = [] := by
        refine List.filter_eq_nil_iff.mpr fun r hr z => ?_
        obtain ⟨s, _, e2⟩ := List.mem_map.mp hr
        rw [← e2] at z
        exact e (of_decide_eq_true z)
      rw [none, List.map_nil, List.nil_append]
      exact flat_sides n.2 ((List.mem_cons.mp m).resolve_left fun q => e q.symm)
theorem sds_ne {rs : List (Str × β)} {h : Str} (hh : h ∈ hds rs) : sds h rs ≠ [] := fun e => by
  obtain ⟨s, hs⟩ := hds_mem.mp hh
  have := sds_mem.mpr hs
  rw [e] at this
  cases this
theorem hds_grps (rs : List (Str × β)) : hds (grps rs) = hds rs := by
  show dd ((grps rs).map (·.1)) = _
  unfold grps
  rw [flat_heads fun h hh => sds_ne hh]
  exact dd_dd _
theorem sds_grps (rs : List (Str × β)) {h : Str} (hh : h ∈ hds rs) : sds h (grps rs) = sds h rs := by
  show dd (((grps rs).filter _).map (·.2)) = _
  unfold grps
  rw [flat_sides (f := fun h => sds h rs) (hs := hds rs) (dd_nodup _) hh]
  exact dd_dd _
theorem grps_grps (rs : List (Str × β)) : grps (grps rs) = grps rs := by
  show (hds (grps rs)).flatMap _ = _
  rw [hds_grps]
  unfold grps
  refine congrArg List.flatten ?_
  refine List.map_congr_left fun h hh => ?_
  rw [show sds h ((hds rs).flatMap fun h => (sds h rs).map fun s => (h, s)) = sds h (grps rs) from rfl, sds_grps rs hh]
theorem grps_nil : grps ([] : List (Str × β)) = [] := rfl
theorem sds_snoc (h : Str) (rs : List (Str × β)) (r : Str × β) : sds h (rs ++ [r]) = if r.1 = h then ins (sds h rs) r.2 else sds h rs := by
  unfold sds
  rw [List.filter_append, List.map_append]
  by_cases e : r.1 = h
  · rw [if_pos e, List.filter_cons, if_pos (decide_eq_true e)]
    exact dd_snoc _ _
  · rw [if_neg e, List.filter_cons, if_neg (by simpa using e)]
    simp
theorem hds_snoc (rs : List (Str × β)) (r : Str × β) : hds (rs ++ [r]) = ins (hds rs) r.1 := by
  unfold hds
  rw [List.map_append]
  exact dd_snoc _ _
theorem sum_sub {α : Type} [DecidableEq α] : ∀ {l m : List α}, l.Nodup → (∀ x ∈ l, x ∈ m) → l.length ≤ m.length
  | [], _, _, _ => Nat.zero_le _
  | x :: l, m, n, h => by
    have n := List.nodup_cons.mp n
    have hx := h x (List.mem_cons_self ..)
    have := sum_sub (l := l) (m := m.erase x) n.2 fun y hy => (List.mem_erase_of_ne fun e => n.1 (by rw [← e]; exact hy)).mpr (h y (List.mem_cons_of_mem _ hy))
    rw [List.length_erase_of_mem hx] at this
    have := List.length_pos_of_mem hx
    rw [List.length_cons]
    omega
open Classical in
theorem sub_len {α : Type} {l m : List α} (n : l.Nodup) (h : ∀ x ∈ l, x ∈ m) : l.length ≤ m.length := sum_sub n h
open Classical in
/-- a list without doubles, as long as one that holds it, has all of it -/
theorem sub_all {α : Type} {l m : List α} (n : l.Nodup) (n2 : m.Nodup) (h : ∀ x ∈ l, x ∈ m) (e : m.length ≤ l.length) : ∀ x ∈ m, x ∈ l := by
  intro x hx
  by_cases hl : x ∈ l
  · exact hl
  · exfalso
    have : (x :: l).length ≤ m.length := sub_len (List.nodup_cons.mpr ⟨hl, n⟩) fun y hy => by
      rcases List.mem_cons.mp hy with q | q
      · rw [q]; exact hx
      · exact h y q
    rw [List.length_cons] at this
    omega
theorem grps_len (rs : List (Str × β)) : (grps rs).length ≤ rs.length := sub_len (grps_nodup rs) fun _ h => grps_mem.mp h
end
end Gt
/-! M_grp: grouped and _law_grouped. -/
namespace Gt
open PySem PySem.Spec PyProof.Rows L2
theorem dkey_map {α : Type} {f : Str → α} : ∀ {hs : List Str} {h : Str}, dkey (hs.map fun h => (h, f h)) h = if h ∈ hs then some (f h) else none
  | [], h => by rw [if_neg (by simp)]; rfl
  | x :: hs, h => by
    unfold dkey
    rw [List.map_cons, List.find?_cons]
    by_cases e : x = h
    · subst e
      rw [decide_eq_true rfl, if_pos (List.mem_cons_self ..)]
      rfl
    · rw [decide_eq_false e]
      have ih := dkey_map (f := f) (hs := hs) (h := h)
      unfold dkey at ih
      rw [ih]
      by_cases m : h ∈ hs
      · rw [if_pos m, if_pos (List.mem_cons_of_mem _ m)]
      · rw [if_neg m, if_neg fun z => m ((List.mem_cons.mp z).resolve_left fun q => e q.symm)]
theorem dput_map {α : Type} {f : Str → α} {hs : List Str} {h : Str} {v : α} : dput (hs.map fun h => (h, f h)) h v = (if h ∈ hs then hs else hs ++ [h]).map fun x => (x, if x = h then v else f x) := by
  unfold dput
  have ea : ((hs.map fun h => (h, f h)).any fun kv => decide (kv.1 = h)) = decide (h ∈ hs) := by
    rw [Bool.eq_iff_iff, List.any_eq_true, decide_eq_true_iff]
    constructor
    · rintro ⟨y, hy, e⟩
      obtain ⟨x, hx, e2⟩ := List.mem_map.mp hy
      rw [← e2] at e
      rw [← of_decide_eq_true e]
      exact hx
    · exact fun m => ⟨_, List.mem_map.mpr ⟨h, m, rfl⟩, decide_eq_true rfl⟩
  rw [ea]
  by_cases m : h ∈ hs
  · rw [if_pos (decide_eq_true m), if_pos m, List.map_map]
    refine List.map_congr_left fun x _ => ?_
    show (if x = h then (x, v) else (x, f x)) = _
    split <;> rfl
  · rw [if_neg (by simpa using m), if_neg m, List.map_append]
    congr 1
    · refine List.map_congr_left fun x hx => ?_
      rw [if_neg fun e => m (by rw [← e]; exact hx)]
    · show _ = [(h, if h = h then v else f h)]
      rw [if_pos rfl]
theorem gr_fold (rs : List Rule) : rs.foldl grStep [] = (hds rs).map fun h => (h, sds h rs) := by
  have go : ∀ (post pre : List Rule), post.foldl grStep ((hds pre).map fun h => (h, sds h pre)) = (hds (pre ++ post)).map fun h => (h, sds h (pre ++ post)) := by
    intro post
    induction post with
    | nil => intro pre; rw [List.append_nil]; rfl
    | cons r post ih =>
      intro pre
      have step : grStep ((hds pre).map fun h => (h, sds h pre)) r = (hds (pre ++ [r])).map fun h => (h, sds h (pre ++ [r])) := by
        unfold grStep
        rw [dkey_map, hds_snoc]
        by_cases m : r.1 ∈ hds pre
        · rw [if_pos m, ins_yes m]
          show (bif memB r.2 (sds r.1 pre) then _ else dput _ r.1 (sds r.1 pre ++ [r.2])) = _
          cases e : memB r.2 (sds r.1 pre) with
          | true =>
            rw [cond_true]
            refine List.map_congr_left fun h _ => ?_
            rw [sds_snoc]
            split
            · rename_i e2
              rw [← e2, ins_yes (memB_iff.mp e)]
            · rfl
          | false =>
            rw [cond_false, dput_map, if_pos m]
            refine List.map_congr_left fun h _ => ?_
            rw [sds_snoc]
            by_cases q : h = r.1
            · rw [if_pos q, if_pos q.symm, q, ins_no (memB_not.mp e)]
            · rw [if_neg q, if_neg fun z => q z.symm]
        · rw [if_neg m, ins_no m]
          show (bif memB r.2 [] then _ else dput _ r.1 ([] ++ [r.2])) = _
          rw [memB_not.mpr (by simp), cond_false, dput_map, if_neg m]
          refine List.map_congr_left fun h hh => ?_
          rw [sds_snoc]
          by_cases q : h = r.1
          · have e0 : sds h pre = [] := by
              cases e : sds h pre with
              | nil => rfl
              | cons s l =>
                exfalso
                exact m (by rw [← q]; exact hds_mem.mpr ⟨s, sds_mem.mp (by rw [e]; exact List.mem_cons_self ..)⟩)
            rw [if_pos q, if_pos q.symm, e0, ins_no (by simp)]
          · rw [if_neg q, if_neg fun z => q z.symm]
      rw [List.foldl_cons, step, ih, List.append_assoc]
      rfl
  exact go rs []
theorem grp_grps (rs : List Rule) : grp rs = grps rs := by
  unfold grp grFlat
  rw [gr_fold, List.flatMap_map]
  rfl
theorem t_grouped {rs : List Rule} (h : rs.length ≤ 10000) : m_grouped rs = .ok (grps rs) := by rw [m_grouped_of h, grp_grps]
/-- one head's turn of the law's grouping -/
theorem lg_turn (h : Str) (f : List Rule) (nf : ∀ s, (h, s) ∉ f) : ∀ (post pre : List Rule), post.foldl (fun g r => bif decide (r.1 = h) && !memB r g then g ++ [r] else g) (f ++ (sds h pre).map fun s => (h, s)) = f ++ (sds h (pre ++ post)).map fun s => (h, s)
  | [], pre => by rw [List.append_nil]; rfl
  | r :: post, pre => by
    rw [List.foldl_cons]
    have step : (bif decide (r.1 = h) && !memB r (f ++ (sds h pre).map fun s => (h, s)) then (f ++ (sds h pre).map fun s => (h, s)) ++ [r] else (f ++ (sds h pre).map fun s => (h, s))) = f ++ (sds h (pre ++ [r])).map fun s => (h, s) := by
      rw [sds_snoc]
      by_cases e : r.1 = h
      · rw [decide_eq_true e, Bool.true_and, if_pos e]
        have er : r = (h, r.2) := by rw [← e]
        cases q : memB r (f ++ (sds h pre).map fun s => (h, s)) with
        | true =>
          have := memB_iff.mp q
          rw [er] at this
          have h2 := (List.mem_append.mp this).resolve_left (nf _)
          obtain ⟨s, hs, e2⟩ := List.mem_map.mp h2
          cases e2
          rw [ins_yes hs]
          rfl
        | false =>
          have h2 := memB_not.mp q
          have : r.2 ∉ sds h pre := fun z => h2 (List.mem_append.mpr (.inr (List.mem_map.mpr ⟨r.2, z, er.symm⟩)))
          rw [ins_no this, List.map_append, Bool.not_false, cond_true, List.append_assoc]
          congr 2
          show [r] = [(h, r.2)]
          rw [← er]
      · rw [decide_eq_false e, if_neg e]
        rfl
    rw [step, lg_turn h f nf post (pre ++ [r]), List.append_assoc]
    rfl
theorem sds_len (h : Str) (rs : List Rule) : (sds h rs).length ≤ rs.length := by
  have h1 := dd_len ((rs.filter fun r => decide (r.1 = h)).map (·.2))
  rw [List.length_map] at h1
  exact Nat.le_trans h1 (List.length_filter_le _ _)
theorem t_lgrouped {rs : List Rule} (hl : rs.length ≤ 300) : m__law_grouped rs = .ok (grps rs) := by
  refine Tt.eq ?_
  unfold m__law_grouped
  refine Tt.let ((Tt.for (fun (pre : List Rule) (s : List Str) => s = hds pre) rfl ?_).bind fun hs e => ?_)
  · rintro pre x post s hx rfl
    have h3 := congrArg List.length hx
    rw [List.length_append, List.length_cons] at h3
    have h4 : (hds pre).length ≤ pre.length := by have := dd_len (pre.map (·.1)); rw [List.length_map] at this; exact this
    rw [hds_snoc]
    refine Tt.if (fun c => ?_) fun c => ?_
    · have m : x.1 ∉ hds pre := by simpa using c
      exact Tt.chk (by omega) (Tt.let (Tt.ret (by rw [ins_no m])))
    · have m : x.1 ∈ hds pre := by simpa using c
      exact Tt.ret (by rw [ins_yes m])
  · subst e
    refine Tt.let ((Tt.for (fun (pre : List Str) (f : List Rule) => f = pre.flatMap fun h => (sds h rs).map fun s => (h, s)) rfl ?_).bind fun f e => Tt.ret (by rw [e]; rfl))
    rintro pre h post f hx rfl
    have nd : (hds rs).Nodup := dd_nodup _
    rw [hx, List.nodup_append] at nd
    have nh : h ∉ pre := fun z => nd.2.2 h z h (List.mem_cons_self ..) rfl
    have nf : ∀ s, (h, s) ∉ pre.flatMap fun h => (sds h rs).map fun s => (h, s) := fun s z => by
      obtain ⟨h2, hh, z⟩ := List.mem_flatMap.mp z
      obtain ⟨s2, _, e⟩ := List.mem_map.mp z
      cases e
      exact nh hh
    have lf : (pre.flatMap fun h => (sds h rs).map fun s => (h, s)).length ≤ 300 := by
      refine Nat.le_trans (sub_len (flat_nodup (f := fun h => sds h rs) nd.1 fun _ => dd_nodup _) (m := rs) fun r hr => ?_) hl
      obtain ⟨h2, _, z⟩ := List.mem_flatMap.mp hr
      obtain ⟨s2, hs, e⟩ := List.mem_map.mp z
      rw [← e]
      exact sds_mem.mp hs
    have tail : (pre ++ [h]).flatMap (fun h => (sds h rs).map fun s => (h, s)) = (pre.flatMap fun h => (sds h rs).map fun s => (h, s)) ++ (sds h rs).map fun s => (h, s) := by
      rw [List.flatMap_append]
      simp
    rw [tail]
    generalize (pre.flatMap fun h => (sds h rs).map fun s => (h, s)) = f at nf lf ⊢
    refine (Tt.for (fun (pre1 : List Rule) (g : List Rule) => g = f ++ (sds h pre1).map fun s => (h, s)) (by show f = f ++ []; rw [List.append_nil]) ?_).bind fun g e => Tt.ret e
    rintro pre1 x post1 g hx1 rfl
    have l1 := congrArg List.length hx1
    rw [List.length_append, List.length_cons] at l1
    have l2 := sds_len h pre1
    have lt := lg_turn h f nf [x] pre1
    rw [List.foldl_cons, List.foldl_nil] at lt
    rw [← lt]
    refine Tt.if (fun c => ?_) fun c => ?_
    · have c : (decide (x.1 = h) && !memB x (f ++ (sds h pre1).map fun s => (h, s))) = true := c
      rw [c]
      exact Tt.chk (by rw [List.length_append, List.length_map]; omega) (Tt.let (Tt.ret rfl))
    · have c : (decide (x.1 = h) && !memB x (f ++ (sds h pre1).map fun s => (h, s))) = false := c
      rw [c]
      exact Tt.ret rfl
end Gt
/-! M_line: lines of rules. -/
namespace Gt
open PySem PySem.Spec PyProof.Rows L2
theorem spT : TL.tl (" " : Str) = [32] := by decide +kernel
theorem nlT : TL.tl ("\n" : Str) = [10] := by decide +kernel
theorem arT : TL.tl ("->" : Str) = [45, 62] := by decide +kernel
theorem sarT : TL.tl (" ->" : Str) = [32, 45, 62] := by decide +kernel
theorem spK : ((" " : Str).cps.all (· < 256)) = true := by decide +kernel
theorem nlK : (("\n" : Str).cps.all (· < 256)) = true := by decide +kernel
theorem AS_cl : ∀ s ∈ AS, s.length ≤ 8 ∧ 1 ≤ s.length ∧ ∀ c ∈ TL.tl s, c < 128 ∧ c ≠ 32 ∧ c ≠ 10 := by decide +kernel
theorem AS_sg : ∀ s ∈ AS, SG s = true := by decide +kernel
theorem AH_tk : ∀ s ∈ AH, TK s = false := by decide +kernel
theorem AS_asc {s : Str} (h : s ∈ AS) : Asc s := ⟨by have := (AS_cl s h).1; omega, fun c hc => ((AS_cl s h).2.2 c hc).1⟩
theorem joinL_len {S : List Nat} {B : Nat} : ∀ {ps : List (List Nat)}, (∀ p ∈ ps, p.length ≤ B) → (TL.joinL S ps).length ≤ ps.length * (B + S.length)
  | [], _ => Nat.zero_le _
  | [p], h => by
    have := h p (List.mem_singleton.mpr rfl)
    show p.length ≤ 1 * (B + S.length)
    omega
  | p :: q :: r, h => by
    have h1 := h p (List.mem_cons_self ..)
    have h2 := joinL_len (S := S) (B := B) (ps := q :: r) fun z hz => h z (List.mem_cons_of_mem _ hz)
    show (p ++ (S ++ TL.joinL S (q :: r))).length ≤ _
    rw [List.length_append, List.length_append, List.length_cons, Nat.succ_mul]
    omega
theorem joinL_mem {S : List Nat} {c : Nat} : ∀ {ps : List (List Nat)}, c ∈ TL.joinL S ps → c ∈ S ∨ ∃ p ∈ ps, c ∈ p
  | [], h => nomatch h
  | [p], h => .inr ⟨p, List.mem_singleton.mpr rfl, h⟩
  | p :: q :: r, h => by
    have h : c ∈ p ++ (S ++ TL.joinL S (q :: r)) := h
    rcases List.mem_append.mp h with h | h
    · exact .inr ⟨p, List.mem_cons_self .., h⟩
    · rcases List.mem_append.mp h with h | h
      · exact .inl h
      · rcases joinL_mem h with h | ⟨z, hz, hc⟩
        · exact .inl h
        · exact .inr ⟨z, List.mem_cons_of_mem _ hz, hc⟩
theorem joinL_snoc {S x : List Nat} : ∀ {a : List Nat} {ps : List (List Nat)}, TL.joinL S (a :: (ps ++ [x])) = TL.joinL S (a :: ps) ++ (S ++ x)
  | a, [] => rfl
  | a, p :: ps => by
    show a ++ (S ++ TL.joinL S (p :: (ps ++ [x]))) = (a ++ (S ++ TL.joinL S (p :: ps))) ++ (S ++ x)
    rw [joinL_snoc, List.append_assoc, List.append_assoc]
theorem tl_tjoin (y : Str) (ps : List Str) : TL.tl (Txt.join y ps) = TL.joinL (TL.tl y) (ps.map TL.tl) := by rw [TL.join_eq, TL.tl_join]
theorem sum_le {B : Nat} : ∀ {ps : List Str}, (∀ p ∈ ps, p.length ≤ B) → (ps.map (·.length)).sum ≤ ps.length * B
  | [], _ => Nat.zero_le _
  | p :: ps, h => by
    have h1 := h p (List.mem_cons_self ..)
    have h2 := sum_le (B := B) (ps := ps) fun z hz => h z (List.mem_cons_of_mem _ hz)
    rw [List.map_cons, List.sum_cons, List.length_cons, Nat.succ_mul]
    omega
theorem tjoin_len {y : Str} {ps : List Str} {B : Nat} (h : ∀ p ∈ ps, p.length ≤ B) : (Txt.join y ps).length ≤ ps.length * (B + y.length) := by
  rw [TL.len_tl, tl_tjoin]
  have := joinL_len (S := TL.tl y) (B := B) (ps := ps.map TL.tl) fun p hp => by
    obtain ⟨z, hz, rfl⟩ := List.mem_map.mp hp
    have := h z hz
    rw [TL.len_tl] at this
    exact this
  rw [List.length_map, ← TL.len_tl] at this
  exact this
/-- a text of small signs, not longer than n -/
theorem ascn_okS {n : Nat} {w : Str} (hn : n ≤ 100000) (h : w.length ≤ n ∧ ∀ c ∈ TL.tl w, c < 128) : okS w := by
  refine ⟨by omega, ?_⟩
  rw [← Array.all_toList, List.all_eq_true]
  intro c hc
  have := h.2 c hc
  exact decide_eq_true (by omega)
abbrev ROk (r : Rule) : Prop := (r.1 ∈ AH ∧ ∀ s ∈ r.2, s ∈ AS) ∧ r.2.length ≤ 3
/-- the line of a rule -/
def ln (r : Rule) : Str := Txt.join " " (r.1 :: "->" :: r.2)
abbrev Pc (s : Str) : Prop := s.length ≤ 8 ∧ 1 ≤ s.length ∧ ∀ c ∈ TL.tl s, c < 128 ∧ c ≠ 32 ∧ c ≠ 10
theorem ar_pc : Pc "->" := by decide +kernel
theorem ws_pc {r : Rule} (h : (r.1 ∈ AH ∧ ∀ s ∈ r.2, s ∈ AS)) : ∀ s ∈ r.1 :: "->" :: r.2, Pc s := fun s hs => by
  rcases List.mem_cons.mp hs with q | q
  · rw [q]; exact AS_cl _ (AH_AS h.1)
  · rcases List.mem_cons.mp q with q | q
    · rw [q]; exact ar_pc
    · exact AS_cl _ (h.2 s q)
theorem sp1 : (" " : Str).length = 1 := by decide +kernel
theorem nl1 : ("\n" : Str).length = 1 := by decide +kernel
theorem ln_ok {r : Rule} (h : ROk r) : (ln r).length ≤ 45 ∧ 1 ≤ (ln r).length ∧ ∀ c ∈ TL.tl (ln r), c < 128 ∧ c ≠ 10 := by
  have hp := ws_pc h.1
  refine ⟨?_, ?_, fun c hc => ?_⟩
  · have := tjoin_len (y := " ") (B := 8) (ps := r.1 :: "->" :: r.2) fun p hq => (hp p hq).1
    rw [sp1, List.length_cons, List.length_cons] at this
    have h3 := h.2
    show (Txt.join " " _).length ≤ 45
    omega
  · unfold ln
    rw [TL.len_tl, tl_tjoin]
    show 1 ≤ (TL.tl r.1 ++ (_ ++ _)).length
    have := (hp r.1 (List.mem_cons_self ..)).2.1
    rw [TL.len_tl] at this
    rw [List.length_append]
    omega
  · unfold ln at hc
    rw [tl_tjoin] at hc
    rcases joinL_mem hc with q | ⟨p, hq, hc⟩
    · rw [spT] at q
      rw [List.mem_singleton.mp q]
      decide
    · obtain ⟨z, hz, rfl⟩ := List.mem_map.mp hq
      have := (hp z hz).2.2 c hc
      exact ⟨this.1, this.2.2⟩
theorem t_format {r : Rule} (h : ROk r) : m_format_rule r = .ok (ln r) := by
  have hp := ws_pc h.1
  refine Tt.eq ?_
  unfold m_format_rule
  rw [List.append_nil]
  have h3 := h.2
  have h4 := sum_le (B := 8) (ps := r.1 :: "->" :: r.2) fun p hq => (hp p hq).1
  rw [List.length_cons, List.length_cons] at h4
  refine Tt.chk (by omega) (Tt.chk ?_ (Tt.chk ?_ rfl))
  · rw [sp1, List.length_cons, List.length_cons]
    omega
  · exact ascn_okS (n := 45) (by decide) ⟨(ln_ok h).1, fun c hc => ((ln_ok h).2.2 c hc).1⟩
theorem t_line {r : Rule} (h : ROk r) : m__law_line r = .ok (ln r) := by
  have hp := ws_pc h.1
  have h1 := hp r.1 (List.mem_cons_self ..)
  have h3 := h.2
  refine Tt.eq ?_
  unfold m__law_line
  have l3 : (" ->" : Str).length = 3 := by decide +kernel
  refine Tt.chk (by omega) (Tt.let ((Tt.for (fun (pre : List Str) (s : Str) => s = Txt.join " " (r.1 :: "->" :: pre)) ?_ ?_).bind fun s e => e))
  · apply tl_inj
    rw [TL.tl_append, tl_tjoin, sarT]
    show _ = TL.tl r.1 ++ (TL.tl " " ++ TL.tl "->")
    rw [spT, arT]
    rfl
  · rintro pre x post s hx rfl
    have hl := congrArg List.length hx
    rw [List.length_append, List.length_cons] at hl
    have hpre : ∀ p ∈ r.1 :: "->" :: pre, p.length ≤ 8 := fun p hq => by
      rcases List.mem_cons.mp hq with q | q
      · rw [q]; exact h1.1
      · rcases List.mem_cons.mp q with q | q
        · rw [q]; exact ar_pc.1
        · exact (AS_cl p (h.1.2 p (by rw [hx]; exact List.mem_append_left _ q))).1
    have h6 := tjoin_len (y := " ") hpre
    rw [sp1, List.length_cons, List.length_cons] at h6
    have hx8 := (AS_cl x (h.1.2 x (by rw [hx]; simp))).1
    have e1 : (Txt.join " " (r.1 :: "->" :: pre) ++ (" " : Str)).length = (Txt.join " " (r.1 :: "->" :: pre)).length + 1 := by
      rw [TL.len_tl, TL.tl_append, List.length_append, ← TL.len_tl, spT]
      rfl
    refine Tt.chk (by rw [sp1]; omega) (Tt.chk (by rw [e1]; omega) (Tt.let ?_))
    apply tl_inj
    rw [TL.tl_append, TL.tl_append, tl_tjoin, tl_tjoin, List.append_assoc]
    show _ = TL.joinL (TL.tl " ") (TL.tl r.1 :: (TL.tl "->" :: ((pre ++ [x]).map TL.tl)))
    rw [List.map_append]
    exact (joinL_snoc (ps := TL.tl "->" :: pre.map TL.tl)).symm
theorem cut2 {α : Type} {a b : α} {l : List α} : cut (a :: b :: l) (some 2) none = l := by
  unfold cut HT.sIx
  simp
theorem split_line {r : Rule} (h : (r.1 ∈ AH ∧ ∀ s ∈ r.2, s ∈ AS)) : Txt.split (ln r) " " = r.1 :: "->" :: r.2 :=
  TL.split_join spT spK (by simp) fun p hp hc => ((ws_pc h p hp).2.2 32 hc).2.1 rfl
theorem t_parse {r : Rule} (h : ROk r) : m_parse_rule (ln r) = .ok (some r) := by
  have hl := ln_ok h
  have h3 := h.2
  have hp := ws_pc h.1
  have hA := AH_AS h.1.1
  refine Tt.eq ?_
  unfold m_parse_rule
  rw [split_line h.1]
  refine Tt.chk (by decide +kernel) (Tt.chk (by omega) (Tt.chk (fun x hx => ascn_okS (n := 8) (by decide) ⟨(hp x hx).1, fun c hc => ((hp x hx).2.2 c hc).1⟩) (Tt.let ?_)))
  have a0 : atI (r.1 :: "->" :: r.2) 0 = some r.1 := atI_pos (by decide) rfl
  have a1 : atI (r.1 :: "->" :: r.2) 1 = some "->" := atI_pos (by decide) rfl
  refine Tt.by (a := false) (Tt.mor (b := false) (fun _ => ?_) |>.trans ?_) ?_
  · have q1 : mor (!true) (mb (m_is_token r.1) fun t9 => Except.ok t9) = .ok false := by
      unfold mor
      rw [Bool.not_true, cond_false, mb_of (t_token (AS_asc hA) (AS_sg _ hA)), AH_tk _ h.1.1]
    have q2 : mor (!true) (mb (oM (atI (r.1 :: "->" :: r.2) 0)) fun t7 => mb (m_is_sign t7) fun t8 => mb (mor (!t8) (mb (m_is_token t7) fun t9 => Except.ok t9)) fun c10 => Except.ok c10) = .ok false := by
      unfold mor
      rw [Bool.not_true, cond_false, mb_of (oM_of a0), mb_of (t_sign (AS_asc hA)), AS_sg _ hA]
      exact mb_of q1
    rw [mb_of (oM_of a1), decide_eq_true rfl]
    exact mb_of q2
  · rw [decide_eq_false (by rw [List.length_cons, List.length_cons]; omega)]
    rfl
  · rw [cond_false, cut2]
    refine Tt.chk (by omega) (Tt.by (mlc_map (f' := fun _ => true) fun x hx => ?_) ?_)
    · rw [mb_of (t_sign (AS_asc (h.1.2 x hx))), AS_sg _ (h.1.2 x hx)]
    · rw [show (r.2.map fun _ => true).all id = true by rw [List.all_eq_true]; intro b hb; obtain ⟨_, _, rfl⟩ := List.mem_map.mp hb; rfl]
      show Tt (mb (oM (atI _ 0)) _) _
      exact Tt.oM a0 rfl
theorem t_init3 {rs : List Rule} (h : rs.length ≤ 10000) : m_Grammar___init__ rs = .ok (grps rs) := t_grouped h
/-- lines to the text -/
def txt (rs : List Rule) : Str := Txt.join "\n" (rs.map ln)
theorem txt_ok {rs : List Rule} (hl : rs.length ≤ 18) (h : ∀ r ∈ rs, ROk r) : ((rs.map ln).map (·.length)).sum + (rs.map ln).length * ("\n" : Str).length ≤ 16777216 ∧ okS (txt rs) ∧ (txt rs).length ≤ 1000 := by
  have hp : ∀ p ∈ rs.map ln, p.length ≤ 45 := fun p hp => by
    obtain ⟨r, hr, rfl⟩ := List.mem_map.mp hp
    exact (ln_ok (h r hr)).1
  have h1 := sum_le hp
  have h2 := tjoin_len (y := "\n") hp
  rw [nl1, List.length_map] at h2
  rw [List.length_map] at h1
  have h3 : (txt rs).length ≤ 828 := by show (Txt.join "\n" _).length ≤ 828; omega
  refine ⟨by rw [nl1, List.length_map]; omega, ascn_okS (n := 828) (by decide) ⟨h3, fun c hc => ?_⟩, by omega⟩
  unfold txt at hc
  rw [tl_tjoin] at hc
  rcases joinL_mem hc with q | ⟨p, hq, hc⟩
  · rw [nlT] at q
    rw [List.mem_singleton.mp q]
    decide
  · obtain ⟨z, hz, rfl⟩ := List.mem_map.mp hq
    obtain ⟨r, hr, rfl⟩ := List.mem_map.mp hz
    exact ((ln_ok (h r hr)).2.2 c hc).1
theorem t_str {rs : List Rule} (hl : rs.length ≤ 18) (h : ∀ r ∈ rs, ROk r) : m_Grammar___str__ rs = .ok (txt rs) := by
  obtain ⟨h1, h2, h3⟩ := txt_ok hl h
  refine Tt.eq ?_
  unfold m_Grammar___str__
  refine Tt.chk (by omega) (Tt.by (mlc_map (f' := ln) fun x hx => ?_) (Tt.chk h1 (Tt.chk h2 rfl)))
  rw [mb_of (t_format (h x hx))]
theorem t_joined {rs : List Rule} {f : Rule → M Str} (h : ∀ r ∈ rs, ROk r) (hf : f = m__law_line) : mlc (fun (_ : Rule) => .ok true) (fun y => mb (f y) fun t => .ok t) rs = .ok (rs.map ln) :=
  mlc_map fun x hx => by rw [hf, mb_of (t_line (h x hx))]
theorem from_loop {fs : List Rule → Int × Str → M (List Rule)} : ∀ {rs : List Rule} {k : Int} {acc : List Rule}, acc.length + rs.length ≤ 1000 → (∀ acc k, acc.length ≤ 999 → ∀ r ∈ rs, fs acc (k, ln r) = .ok (acc ++ [r])) → mfor fs acc (enumFrom k (rs.map ln)) = .ok (acc ++ rs)
  | [], k, acc, _, _ => by rw [List.append_nil]; rfl
  | r :: rs, k, acc, hl, h => by
    rw [List.length_cons] at hl
    show mb (fs acc (k, ln r)) _ = _
    rw [mb_of (h acc k (by omega) r (List.mem_cons_self ..))]
    have := from_loop (fs := fs) (rs := rs) (k := k + 1) (acc := acc ++ [r]) (by rw [List.length_append, List.length_singleton]; omega) fun acc k ha r hr => h acc k ha r (List.mem_cons_of_mem _ hr)
    rw [List.append_assoc] at this
    exact this
theorem txt_nil {rs : List Rule} (h : ∀ r ∈ rs, ROk r) : (((txt rs).length : Int) != 0) = !rs.isEmpty := by
  cases rs with
  | nil => decide +kernel
  | cons r rs =>
    have h1 := (ln_ok (h r (List.mem_cons_self ..))).2.1
    have : 1 ≤ (txt (r :: rs)).length := by
      unfold txt
      rw [TL.len_tl, tl_tjoin, List.map_cons, List.map_cons]
      rw [TL.len_tl] at h1
      cases rs with
      | nil => exact h1
      | cons q rs =>
        show 1 ≤ (TL.tl (ln r) ++ _).length
        rw [List.length_append]
        omega
    exact bne_iff_ne.mpr (by omega)
theorem t_from {rs : List Rule} (hl : rs.length ≤ 18) (h : ∀ r ∈ rs, ROk r) : m_Grammar_from_string () (txt rs) = .ok (grps rs) := by
  obtain ⟨h1, h2, h3⟩ := txt_ok hl h
  refine Tt.eq ?_
  unfold m_Grammar_from_string
  refine Tt.let (Tt.by (a := rs.map ln) ?_ ?_)
  · refine calm_of ?_
    rw [txt_nil h]
    cases rs with
    | nil => rfl
    | cons r rs =>
      have es : Txt.split (txt (r :: rs)) "\n" = (r :: rs).map ln := TL.split_join nlT nlK (by simp) fun p hp hc => by
        obtain ⟨z, hz, rfl⟩ := List.mem_map.mp hp
        exact ((ln_ok (h z hz)).2.2 10 hc).2 rfl
      refine Tt.eq ?_
      rw [es, List.isEmpty_cons, Bool.not_false, cond_true]
      refine Tt.chk (by decide +kernel) (Tt.chk h3 (Tt.chk (fun x hx => ?_) rfl))
      obtain ⟨z, hz, rfl⟩ := List.mem_map.mp hx
      have := ln_ok (h z hz)
      exact ascn_okS (n := 45) (by decide) ⟨this.1, fun c hc => (this.2.2 c hc).1⟩
  · refine Tt.by (from_loop (rs := rs) (by show 0 + rs.length ≤ 1000; omega) fun acc k ha r hr => ?_) (Tt.by (calm_of (t_init3 (by rw [List.nil_append]; omega))) (by rw [List.nil_append]; exact rfl))
    show mb (calm (m_parse_rule (ln r))) _ = _
    rw [mb_of (calm_of (t_parse (h r hr)))]
    show (bif isNone' (some r) then _ else _) = _
    rw [show isNone' (some r) = false from rfl, cond_false, mb_of (oM_of rfl), mb_of (chk_of (decide_eq_true (by omega)))]
    rfl
end Gt
/-! M_same: rules compared. -/
namespace Gt
open PySem PySem.Spec PyProof.Rows L2
theorem t_same (a b : Rule) : m__law_same a b = .ok (eqB a b) := by
  unfold m__law_same
  rw [mforF_all (p := fun _ => true) (r := false) fun _ _ => rfl]
  have e : (a.2.all fun _ => true) = true := List.all_eq_true.mpr fun _ _ => rfl
  rw [e]
  rfl
theorem ups_succ (n : Nat) : ups (n + 1) = ups n ++ [(n : Int)] := by
  unfold ups
  rw [List.range_succ, List.map_append]
  rfl
theorem ext_upto {α : Type} {xs ys : List α} (hl : xs.length = ys.length) : (∀ i : Nat, i < ys.length → xs[i]? = ys[i]?) ↔ xs = ys := by
  refine ⟨fun h => List.ext_getElem? fun i => ?_, fun h _ _ => by rw [h]⟩
  by_cases hi : i < ys.length
  · exact h i hi
  · rw [List.getElem?_eq_none (by omega), List.getElem?_eq_none (by omega)]
theorem t_all_same {xs ys : List Rule} (h : ys.length ≤ 100000) : m__law_all_same xs ys = .ok (eqB xs ys) := by
  unfold m__law_all_same
  by_cases hl : xs.length = ys.length
  · rw [show (!(decide ((xs.length : Int) = (ys.length : Int)))) = false by rw [decide_eq_true (by omega)]; rfl, cond_false]
    show mb (chk (decide _)) _ = _
    rw [mb_of (chk_of (decide_eq_true (by omega)))]
    rw [mforF_all (p := fun i => match xs[i.toNat]?, ys[i.toNat]? with | some a, some b => eqB a b | _, _ => false) (r := false) fun i hi => ?_]
    · rw [mb_ret]
      have key : ((ups (ys.length : Int).toNat).all fun i => match xs[i.toNat]?, ys[i.toNat]? with | some a, some b => eqB a b | _, _ => false) = eqB xs ys := by
        rw [Bool.eq_iff_iff, List.all_eq_true, eqB_iff, ← ext_upto hl]
        constructor
        · intro q i hi
          have := q (i : Int) (List.mem_map.mpr ⟨i, List.mem_range.mpr hi, rfl⟩)
          rw [Int.toNat_natCast, List.getElem?_eq_getElem hi, List.getElem?_eq_getElem (by omega)] at this
          rw [List.getElem?_eq_getElem hi, List.getElem?_eq_getElem (by omega), eqB_iff.mp this]
        · intro q i hi
          have hi := ups_mem hi
          have := q i.toNat (by omega)
          rw [this, List.getElem?_eq_getElem (by omega)]
          exact eqB_self _
      rw [key]
      cases eqB xs ys <;> rfl
    · have hi := ups_mem hi
      obtain ⟨a, e1, e2, _⟩ := atI_in (xs := xs) hi.1 (by omega)
      obtain ⟨b, e3, e4, _⟩ := atI_in (xs := ys) hi.1 (by omega)
      rw [mb_of (oM_of e1), mb_of (oM_of e3), mb_of (t_same a b), e2, e4]
      show (bif !(eqB a b) then Except.ok (Fl.rt false) else Except.ok (Fl.nx ())) = Except.ok (bif eqB a b then Fl.nx () else Fl.rt false)
      cases eqB a b <;> rfl
  · rw [show (!(decide ((xs.length : Int) = (ys.length : Int)))) = true by rw [decide_eq_false (by omega)]; rfl, cond_true]
    rw [eqB_not.mpr fun e => hl (by rw [e])]
end Gt
/-! M_k03: lines read and written. -/
namespace Gt
open PySem PySem.Spec PyProof.Rows L2
theorem law_ok (ns : List Int) : m_law ns = .ok true := by
  refine Tt.eq ?_
  unfold m_law
  refine Tt.by (t_cell (by decide)) ((t_rules3 (by decide)).bind fun rs ⟨l1, hr⟩ => ?_)
  have l1 : rs.length ≤ 18 := l1
  have k1 := grps_len rs
  have hg : ∀ r ∈ grps rs, ROk r := fun r h => hr r (grps_mem.mp h)
  obtain ⟨a1, a2, a3⟩ := txt_ok l1 hr
  obtain ⟨b1, b2, b3⟩ := txt_ok (rs := grps rs) (by omega) hg
  refine Tt.by (t_lgrouped (by omega)) ?_
  refine (Tt.forF (R := fun o => o = Fl.nx ()) (fun _ _ => True) trivial (fun s _ => rfl) ?_).bind fun o e => ?_
  · rintro pre r post s hx _
    have hr1 := hr r (by rw [hx]; simp)
    rw [mb_of (t_format hr1)]
    have : mor (!true) (mb (m__law_line r) fun t9 => Except.ok (!(decide (ln r = t9)))) = .ok false := by
      unfold mor
      rw [Bool.not_true, cond_false, mb_of (t_line hr1), decide_eq_true rfl]
      rfl
    rw [mb_of this]
    exact trivial
  rw [e]
  refine Tt.chk (by omega) (Tt.by (t_joined hr rfl) (Tt.chk a1 (Tt.chk a2 (Tt.by (t_from l1 hr) (Tt.by (t_all_same (by omega)) ?_)))))
  rw [eqB_self]
  refine Tt.by (t_str (by omega) hg) (Tt.by (a := false) ?_ ?_)
  · unfold mor
    rw [Bool.not_true, cond_false]
    refine Tt.eq ?_
    refine Tt.chk (by omega) (Tt.by (t_joined hg rfl) (Tt.chk b1 (Tt.chk b2 ?_)))
    show (!(decide (txt (grps rs) = txt (grps rs)))) = false
    rw [decide_eq_true rfl]
    rfl
  · rw [cond_false]
    refine Tt.by (t_from (by omega) hg) (Tt.by (t_all_same (by omega)) ?_)
    rw [grps_grps, eqB_self]
    exact rfl
end Gt
namespace Gt
open PySem PySem.Spec PyProof.Rows L2
def topS (i : Nat) : Stmt := PySem.Challenge.pw_guesttongues_k03_lines.main.body.getD i (.Pass ⟨0, 0, 0, 0⟩)
local macro_rules | `(tactic| walk_at "ev") => `(tactic| repeat' (first
  | ((with_reducible show Ev (rEi _ _) (tTup _) _ _); apply ei_T) | ((with_reducible show Ev (rEi _ _) (tCB (rTupU _) _) _ _); apply ei_T)
  | ((with_reducible show Ev (rEi _ _) (tFld _ _ _) _ _); exact a_recE (by first | exact a_ro (by rfl) | exact a_noR (by rfl)) (by first | exact fld_hd | exact fld_tl fld_hd (by decide)) (by assumption) (by assumption) (by exact rfl))
  | ((with_reducible show Ev (rEi _ _) _ _ _); first | exact a_ro (by rfl) | apply ei_L)
  | ((with_reducible show Ev _ (tBM _ "list" _ _ _) _ _); apply ev_index) | ((with_reducible show IdxOk _ _ _); unfold IdxOk; assumption)
  | ((with_reducible show Ev _ (tVar _) _ _); first | exact a_fz (by rfl) | exact a_lst (by rfl) | exact a_ro (by rfl) | exact a_one (by rfl) | exact a_dct (by rfl) | exact a_lkd (by rfl) | exact a_roA (by rfl) | exact a_oneA (by rfl) | exact a_noR (by rfl) | exact a_some (by rfl) (by assumption) | exact a_alias (i := 0) (by rfl) (by rfl) | exact a_alias (i := 1) (by rfl) (by rfl) | exact a_alias (i := 2) (by rfl) (by rfl) | exact a_alias (i := 3) (by rfl) (by rfl) | exact a_alias (i := 4) (by rfl) (by rfl) | exact a_alias (i := 5) (by rfl) (by rfl) | exact a_alias (i := 6) (by rfl) (by rfl))
  | ((with_reducible show Ev _ (tC _) _ _); first | with_reducible exact ev_int | exact ev_cls | (with_reducible refine ev_str ?_; decide +kernel) | with_reducible exact ev_bl | with_reducible exact ev_non)
  | ((with_reducible show Ev (rO _) (tOp (rIx _) _ _) _ (Option.some _)); apply Ev.some)
  | ((with_reducible show Ev _ (tOp _ _ _) _ _); with_reducible first
    | apply ev_add | apply ev_sub | apply ev_mul | apply ev_mulS | apply ev_div | apply ev_mod | apply ev_pow | apply ev_lt | apply ev_le | apply ev_gt | apply ev_ge
    | apply a_eq | apply a_ne | apply a_in | apply a_nin | apply a_inSg | apply a_ninSg | apply a_ix | apply ev_addS | apply a_isN | apply a_notN | apply a_eqD | apply a_neD | apply a_inLD | apply a_ninLD | apply a_inTD | apply a_ninTD | apply ev_catT | apply a_cmpOM | apply a_cmpO | apply a_nl)
  | ((with_reducible show Ev _ (tFld _ _ _) _ _); first | exact a_recF (by first | exact a_ro (by rfl) | exact a_noR (by rfl)) (by first | exact fld_hd | exact fld_tl fld_hd (by decide)) inferInstance (by assumption) (by assumption) (by exact rfl) | with_reducible apply a_oneF | with_reducible apply a_recF)
  | ((with_reducible show FldAt _ _ _ _); first | exact fld_hd | exact fld_tl fld_hd (by decide) | exact fld_tl (fld_tl fld_hd (by decide)) (by decide))
  | ((with_reducible show Ev _ (tXf _ _ _ _ _ _) _ _); first | exact a_xfS (by rfl) (by unfold PayS; assumption) | exact a_xfO (by rfl) (by unfold PayO; assumption) | exact a_xfI (by rfl) (by unfold PayI; assumption))
  | ((with_reducible show Ev _ (tCB (rIsX _ _ _ _) _) _ _); exact a_isX (by rfl) (by assumption))
  | ((with_reducible show EvA (aRest _) _ _ _); refine ea_rest ?_ (Nat.le_of_ble_eq_true rfl))
  | ((with_reducible show Ev _ (tCB (rIsi _) _) _ (!isNone' _)); apply a_isiO)
  | ((with_reducible show Ev _ (tProp _ _ _ _ _) _ _); apply a_prop) | ((with_reducible show Ev _ (tCB (rStrO _ _) _) _ _); apply a_strO)
  | ((with_reducible show Ev _ (tCB _ _) _ _); with_reducible first | apply a_len | apply a_int | apply ev_all | apply ev_any | apply ev_sum | apply a_tupC | apply a_isi | apply a_nl)
  | ((with_reducible show Ev _ _ _ _); with_reducible first
    | apply ev_chain_le | apply ev_chain_lelt | apply ev_neg | apply ev_and | apply ev_or | apply ev_not | apply ev_if
    | apply a_callM | apply a_callX | apply a_call | apply ev_upper | apply ev_partition | apply ev_rpartition | apply ev_join | apply ev_slS | apply ev_slT | apply a_pair | apply a_tup | apply a_dget2 | apply a_dget | apply a_mthM | apply a_mth | apply a_nl | apply a_no | apply a_nd)
  | ((with_reducible show EvT _ _ _); with_reducible first | apply et_test | apply et_B | apply et_not | apply et_and | apply et_or | apply a_tru | exact et_yes)
  | ((with_reducible show EvA _ _ _ _); with_reducible first | exact ea_nil | exact el_nil | apply a_cons | apply a_el | apply a_starT)
  | ((with_reducible show EvO _ _ _); with_reducible first | exact eo_none | apply eo_some)
  | ((with_reducible show Nw _ _ _ _); with_reducible first | apply a_ncallM | apply a_ncall | apply a_lstD | apply a_list | apply a_slL | apply a_cat | apply nw_split | apply nw_oneL | apply nw_recL | apply nw_mkOM | apply nw_mkOM0 | apply nw_mkV | apply nw_cm | apply nw_mkR | apply nw_mkO | apply nw_binOM | apply nw_binO | apply nw_mthM | apply nw_mth | exact nw_dnew)
  | ((with_reducible show MOk _ _ _); unfold MOk; assumption)
  | ((with_reducible show kitB _ _ = some _); decide +kernel)
  | ((with_reducible show SgOk _ _); unfold SgOk; first | assumption | exact rfl)
  | ((with_reducible show AppEq _ _ _); unfold AppEq; first | (dsimp only; exact rfl) | dsimp only | exact rfl)
  | ((with_reducible show PreOk _ _); unfold PreOk; dsimp only; first | done | exact trivial | omega | assumption | (constructor <;> first | omega | assumption))
  | ((with_reducible show IxC _ _ _ _ _ _ _); first | with_reducible exact ixc_0 | with_reducible exact ixc_1 | exact ixc_O0 (by assumption) | exact ixc_O1 (by assumption) | with_reducible apply ixc_L | with_reducible apply ixc_Q | with_reducible apply ixc_T | with_reducible apply ixc_S | with_reducible apply ixc_E)
  | ((with_reducible show LnC _ _ _ _); first | exact lnc_O (by assumption) lnc_P | with_reducible exact lnc_E | with_reducible first | exact lnc_L | exact lnc_T | exact lnc_Q | exact lnc_P | exact lnc_S)
  | ((with_reducible show IntC _ _ _); with_reducible first | exact intc_I | exact intc_B)
  | ((with_reducible show TrC _ _ _ _); with_reducible first | exact trc_L | exact trc_T | exact trc_I | exact trc_S)
  | ((with_reducible show EqC _ _ _ _); with_reducible first | exact eqc_I | exact eqc_S | exact eqc_B | exact eqc_O)
  | ((with_reducible show okS _); assumption)
  | ((with_reducible show (_ = true → _)); intro _) | ((with_reducible show (_ = false → _)); intro _)
  | ((with_reducible show CMul _ _); first | assumption | exact .inr (by decide) | exact .inl (by decide) | exact .inr (by assumption) | exact .inl (by assumption) | exact .inr (b2_small _))
  | ((with_reducible show CDiv _ _); first | assumption | exact ⟨by decide, by decide⟩) | ((with_reducible show CPow _ _); exact ⟨by decide, by decide, by decide⟩)
  | ((with_reducible show (0 : Int) < _); first | assumption | decide | omega) | ((with_reducible show _ ≤ 100000); first | omega | assumption | (simp only [List.length_append, List.length_cons, List.length_nil, List.length_map]; omega) | decide +kernel) | ((with_reducible show _ ≤ 16777216); assumption) | ((with_reducible show _ ≤ 1000); first | assumption | omega) | ((with_reducible show _ ≤ 50); assumption) | ((with_reducible show _ ∧ _); assumption) | ((with_reducible show _ ∉ _); decide)
  | ((with_reducible show ∀ _ ∈ _, okS _); assumption) | ((with_reducible show _ = false); assumption)
  | ((with_reducible show atI _ _ = some _); assumption) | ((with_reducible show atI (_ :: _) _ = some _); exact rfl)
  | ((with_reducible show ((Str.length _ == 0) = false)); exact rfl)
  | ((with_reducible show DatC _ _); exact datC_of (by decide))
  | ((with_reducible show InsR _ _ _ _); first | with_reducible exact one_ins | with_reducible exact rec_ins1 | assumption)
  | ((with_reducible show NilT _ _); assumption)
  | ((with_reducible show Cls _ _); assumption) | ((with_reducible show NoAttr _ _ _); assumption)
  | infer_instance | with_reducible exact rfl | exact dot_eq | with_reducible exact trivial))
/-! ### is_owner -/
abbrev s_is_owner : Stmt := topS 10
abbrev n_is_owner : List Str := ["name", "char"]
abbrev p_is_owner : List Str := ["name"]
theorem sc_is_owner : FnScope n_is_owner p_is_owner (defScope s_is_owner) := ⟨rfl, rfl, rfl, by decide +kernel, rfl, by decide +kernel, by decide +kernel⟩
abbrev sp_is_owner (K : PySem.W.Frag) : Sp := spM (aC rS aN) rB fun a => m_is_owner a.1
theorem c_is_owner {P : Program} {w : World} {K : PySem.W.Frag} {mg : Str → Option Value} {base : Heap} (F : Df K mg "is_owner" s_is_owner) (B_len : mg "len" = none) (B_all : mg "all" = none) (M_LONGEST : ∃ t, mg "LONGEST" = some (.int 8 t)) (M_SMALL : ∃ t, mg "SMALL" = some (.str "abcdefghijklmnopqrstuvwxyz" t)) : Cal P w K mg base CX0 "is_owner" 1 p_is_owner (sp_is_owner K) := by
  obtain ⟨t_LONGEST, M_LONGEST⟩ := M_LONGEST
  obtain ⟨t_SMALL, M_SMALL⟩ := M_SMALL
  refine cal_of F sc_is_owner (fun vs H Q E ⟨a, b, h, _⟩ => LenA.len h) (fun _ _ _ _ _ _ us hl => match us, hl with | [_], _ => rfl) fun cdv f A outer s H vs Q E hr h => ?_
  have sc := sc_is_owner
  refine ⟨_, (pss_one (ps_ret (pe_and (pe_chain op_le op_le pe_int (pe_callB (k_len K) (by rfl) B_len PySem.boot_len (pa_cons (pv 0) pa_nil)) (pe_glob (v := .int 8) (by rfl) M_LONGEST ⟨_, rfl⟩)) (pe_one (pe_callB (k_all K rfl) (by rfl) B_all (by decide +kernel) (pa_cons (pe_lc (own := [("char", 1)]) (g := gName 1) (tt := tYes) (by rfl) sc.nd (pi_str (pv 0)) (blkOk_by (own := [("char", 1)]) (N := n_is_owner) (sc := defScope s_is_owner) (by decide +kernel)) (fun _ _ _ _ _ => (pg_name (i := 1) sc.nd rfl (Or.inl rfl))) (fun _ _ _ _ _ => pts_nil) (fun _ _ _ _ _ => (pe_cmpR op_in_sign (pv 1) (pe_glob (v := .str "abcdefghijklmnopqrstuvwxyz") (by rfl) M_SMALL ⟨_, rfl⟩) rfl))) pa_nil)))))), ?_⟩
  obtain ⟨⟨name1, _⟩, r0, ⟨v_name1, _, rfl, w_name1, rfl⟩, h, k⟩ := h
  have hD : RtOk (fz K rB) H r0 { nx := fun _ H' => Q .non H', rt := Q } := fun v H' ⟨as, s, n, z⟩ => k v H' s z.2.now
  refine Sv.run (K := K) (G := ([fc rS name1, none] : Cells K)) ?_ (.fz w_name1 (.skip .nil))
  have h : m_is_owner name1 = .ok r0 := h
  unfold m_is_owner at h
  obtain ⟨c6, e_c6, h⟩ := mb_ok h
  cases h
  refine r_ret hD ?_
  refine ev_andM ?_ (fun _ e => ?_) e_c6
  · walk_at "ev"
  obtain ⟨_, e_u4, e⟩ := mb_ok e; have e_u4 := of_decide_eq_true (chk_ok e_u4)
  obtain ⟨zs5, e_zs5, e⟩ := mb_ok e
  cases e
  refine ev_all ?_
  refine Nw.lst ?_
  refine nw_lcM (G' := ([fc rS name1, none] : Cells K)) (r := rS) (p := (fun (y2 : Str) => .ok true)) (f := (fun (y2 : Str) => mb (oM (sgn y2)) fun t3 => .ok (decide (t3 ∈ ("abcdefghijklmnopqrstuvwxyz" : Str).cps.toList)))) ?_ (by first | assumption | (rw [ups_len]; omega) | (rw [List.length_map, List.length_range]; omega) | (simp only [List.length_cons, List.length_nil]; omega)) (fun y2 => ⟨_, tb_name, fun _ e => ?_, fun _ e => ?_⟩) e_zs5
  · refine wk_str ?_
    walk_at "ev"
  · cases e
    exact et_yes
  · obtain ⟨t3, e_t3, e⟩ := mb_ok e; have e_t3 := oM_ok e_t3
    cases e
    walk_at "ev"
/-! ### is_plain -/
abbrev s_is_plain : Stmt := topS 11
abbrev n_is_plain : List Str := ["name", "char"]
abbrev p_is_plain : List Str := ["name"]
theorem sc_is_plain : FnScope n_is_plain p_is_plain (defScope s_is_plain) := ⟨rfl, rfl, rfl, by decide +kernel, rfl, by decide +kernel, by decide +kernel⟩
abbrev sp_is_plain (K : PySem.W.Frag) : Sp := spM (aC rS aN) rB fun a => m_is_plain a.1
theorem c_is_plain {P : Program} {w : World} {K : PySem.W.Frag} {mg : Str → Option Value} {base : Heap} (F : Df K mg "is_plain" s_is_plain) (B_len : mg "len" = none) (B_all : mg "all" = none) (M_LONGEST : ∃ t, mg "LONGEST" = some (.int 8 t)) (M_DIGITS : ∃ t, mg "DIGITS" = some (.str "0123456789" t)) (M_SMALL : ∃ t, mg "SMALL" = some (.str "abcdefghijklmnopqrstuvwxyz" t)) (M_CAPITAL : ∃ t, mg "CAPITAL" = some (.str "ABCDEFGHIJKLMNOPQRSTUVWXYZ" t)) : Cal P w K mg base CX0 "is_plain" 1 p_is_plain (sp_is_plain K) := by
  obtain ⟨t_LONGEST, M_LONGEST⟩ := M_LONGEST
  obtain ⟨t_DIGITS, M_DIGITS⟩ := M_DIGITS
  obtain ⟨t_SMALL, M_SMALL⟩ := M_SMALL
  obtain ⟨t_CAPITAL, M_CAPITAL⟩ := M_CAPITAL
  refine cal_of F sc_is_plain (fun vs H Q E ⟨a, b, h, _⟩ => LenA.len h) (fun _ _ _ _ _ _ us hl => match us, hl with | [_], _ => rfl) fun cdv f A outer s H vs Q E hr h => ?_
  have sc := sc_is_plain
  refine ⟨_, (pss_cons (ps_if (PW.pt (pw_or (pt_not (pt_chain op_le op_le pe_int (pe_callB (k_len K) (by rfl) B_len PySem.boot_len (pa_cons (pv 0) pa_nil)) (pe_glob (v := .int 8) (by rfl) M_LONGEST ⟨_, rfl⟩))) (pw_or1 (pt_cmpR op_in_sign (pe_ix (k_ix K) (pv 0) pe_int (fun _ _ => rfl)) (pe_glob (v := .str "0123456789") (by rfl) M_DIGITS ⟨_, rfl⟩) rfl))))
      (pss_one (ps_ret pe_bl)) pss_nil)
      (pss_one (ps_ret (pe_callB (k_all K rfl) (by rfl) B_all (by decide +kernel) (pa_cons (pe_lc (own := [("char", 1)]) (g := gName 1) (tt := tYes) (by rfl) sc.nd (pi_str (pv 0)) (blkOk_by (own := [("char", 1)]) (N := n_is_plain) (sc := defScope s_is_plain) (by decide +kernel)) (fun _ _ _ _ _ => (pg_name (i := 1) sc.nd rfl (Or.inl rfl))) (fun _ _ _ _ _ => pts_nil) (fun _ _ _ _ _ => (pe_or (pe_cmpR op_in_sign (pv 1) (pe_glob (v := .str "abcdefghijklmnopqrstuvwxyz") (by rfl) M_SMALL ⟨_, rfl⟩) rfl) (pe_or (pe_cmpR op_in_sign (pv 1) (pe_glob (v := .str "ABCDEFGHIJKLMNOPQRSTUVWXYZ") (by rfl) M_CAPITAL ⟨_, rfl⟩) rfl) (pe_one (pe_cmpR op_in_sign (pv 1) (pe_glob (v := .str "0123456789") (by rfl) M_DIGITS ⟨_, rfl⟩) rfl)))))) pa_nil))))), ?_⟩
  obtain ⟨⟨name1, _⟩, r0, ⟨v_name1, _, rfl, w_name1, rfl⟩, h, k⟩ := h
  have hD : RtOk (fz K rB) H r0 { nx := fun _ H' => Q .non H', rt := Q } := fun v H' ⟨as, s, n, z⟩ => k v H' s z.2.now
  refine Sv.run (K := K) (G := ([fc rS name1, none] : Cells K)) ?_ (.fz w_name1 (.skip .nil))
  have h : m_is_plain name1 = .ok r0 := h
  unfold m_is_plain at h
  obtain ⟨c4, e_c4, h⟩ := mb_ok h
  refine q_if (c := c4) ?_ ?_ ?_
  · refine et_orM ?_ (fun _ e => ?_) e_c4
    · walk_at "ev"
    obtain ⟨t2, e_t2, e⟩ := mb_ok e; have e_t2 := oM_ok e_t2
    obtain ⟨t3, e_t3, e⟩ := mb_ok e; have e_t3 := oM_ok e_t3
    cases e
    walk_at "ev"
  · intro hc; have h := bif_t h hc
    cases h
    refine r_ret hD ?_
    walk_at "ev"
  · intro hc; have h := bif_f h hc
    refine q_next ?_
    obtain ⟨_, e_u7, h⟩ := mb_ok h; have e_u7 := of_decide_eq_true (chk_ok e_u7)
    obtain ⟨zs8, e_zs8, h⟩ := mb_ok h
    cases h
    refine r_ret hD ?_
    refine ev_all ?_
    refine Nw.lst ?_
    refine nw_lcM (G' := ([fc rS name1, none] : Cells K)) (r := rS) (p := (fun (y5 : Str) => .ok true)) (f := (fun (y5 : Str) => mb (oM (sgn y5)) fun t6 => .ok ((decide (t6 ∈ ("abcdefghijklmnopqrstuvwxyz" : Str).cps.toList)) || ((decide (t6 ∈ ("ABCDEFGHIJKLMNOPQRSTUVWXYZ" : Str).cps.toList)) || (decide (t6 ∈ ("0123456789" : Str).cps.toList)))))) ?_ (by first | assumption | (rw [ups_len]; omega) | (rw [List.length_map, List.length_range]; omega) | (simp only [List.length_cons, List.length_nil]; omega)) (fun y5 => ⟨_, tb_name, fun _ e => ?_, fun _ e => ?_⟩) e_zs8
    · refine wk_str ?_
      walk_at "ev"
    · cases e
      exact et_yes
    · obtain ⟨t6, e_t6, e⟩ := mb_ok e; have e_t6 := oM_ok e_t6
      cases e
      walk_at "ev"
/-! ### is_sign -/
abbrev s_is_sign : Stmt := topS 12
abbrev n_is_sign : List Str := ["name", "parts"]
abbrev p_is_sign : List Str := ["name"]
theorem sc_is_sign : FnScope n_is_sign p_is_sign (defScope s_is_sign) := ⟨rfl, rfl, rfl, by decide +kernel, rfl, by decide +kernel, by decide +kernel⟩
abbrev sp_is_sign (K : PySem.W.Frag) : Sp := spM (aC rS aN) rB fun a => m_is_sign a.1
theorem c_is_sign {P : Program} {w : World} {K : PySem.W.Frag} {mg : Str → Option Value} {base : Heap} (F : Df K mg "is_sign" s_is_sign) (B_len : mg "len" = none) (C_is_owner : Cal P w K mg base CX0 "is_owner" 1 p_is_owner (sp_is_owner K)) (C_is_plain : Cal P w K mg base CX0 "is_plain" 1 p_is_plain (sp_is_plain K)) : Cal P w K mg base CX0 "is_sign" 2 p_is_sign (sp_is_sign K) := by
  refine cal_of F sc_is_sign (fun vs H Q E ⟨a, b, h, _⟩ => LenA.len h) (fun _ _ _ _ _ _ us hl => match us, hl with | [_], _ => rfl) fun cdv f A outer s H vs Q E hr h => ?_
  have sc := sc_is_sign
  refine ⟨_, (pss_cons (ps_set (i := 1) sc.nd rfl (Or.inl rfl) (pe_split (pv 0) pe_str))
      (pss_cons (ps_if (pt_cmpR op_eq (pe_callB (k_len K) (by rfl) B_len PySem.boot_len (pa_cons (pv 1) pa_nil)) pe_int (nomark _))
      (pss_one (ps_ret (pe_and (pe_fn C_is_owner (hr.mono (by decide)) (pa_cons (pe_ix (k_ix K) (pv 1) pe_int (fun _ _ => rfl)) pa_nil)) (pe_one (pe_fn C_is_plain (hr.mono (by decide)) (pa_cons (pe_ix (k_ix K) (pv 1) pe_int (fun _ _ => rfl)) pa_nil)))))) pss_nil)
      (pss_one (ps_ret (pe_fn C_is_plain (hr.mono (by decide)) (pa_cons (pv 0) pa_nil)))))), ?_⟩
  obtain ⟨⟨name1, _⟩, r0, ⟨v_name1, _, rfl, w_name1, rfl⟩, h, k⟩ := h
  have hD : RtOk (fz K rB) H r0 { nx := fun _ H' => Q .non H', rt := Q } := fun v H' ⟨as, s, n, z⟩ => k v H' s z.2.now
  refine Sv.run (K := K) (G := ([fc rS name1, none] : Cells K)) ?_ (.fz w_name1 (.skip .nil))
  have h : m_is_sign name1 = .ok r0 := h
  unfold m_is_sign at h
  obtain ⟨_, e_u2, h⟩ := mb_ok h; have e_u2 := of_decide_eq_true (chk_ok e_u2)
  obtain ⟨_, e_u3, h⟩ := mb_ok h; have e_u3 := of_decide_eq_true (chk_ok e_u3)
  obtain ⟨_, e_u4, h⟩ := mb_ok h; have e_u4 := of_decide_eq_true (chk_ok e_u4)
  obtain ⟨parts5, e_parts5, h⟩ := mb_ok h; have e_parts5 := ok_inj e_parts5
  refine q_asg (R := (nl K rS)) (b := Txt.split name1 ("." : Str)) (b' := parts5) ?_ e_parts5 ?_
  · walk_at "ev"
  refine q_if (c := (decide ((parts5.length : Int) = (2 : Int)))) ?_ ?_ ?_
  · walk_at "ev"
  · intro hc; have h := bif_t h hc
    obtain ⟨t6, e_t6, h⟩ := mb_ok h; have e_t6 := oM_ok e_t6
    obtain ⟨t7, e_t7, h⟩ := mb_ok h
    obtain ⟨c10, e_c10, h⟩ := mb_ok h
    cases h
    refine r_ret hD ?_
    refine ev_andM ?_ (fun _ e => ?_) e_c10
    · walk_at "ev"
    obtain ⟨t8, e_t8, e⟩ := mb_ok e; have e_t8 := oM_ok e_t8
    obtain ⟨t9, e_t9, e⟩ := mb_ok e
    cases e
    walk_at "ev"
  · intro hc; have h := bif_f h hc
    refine q_next ?_
    obtain ⟨t11, e_t11, h⟩ := mb_ok h
    cases h
    refine r_ret hD ?_
    walk_at "ev"
/-! ### is_token -/
abbrev s_is_token : Stmt := topS 13
abbrev n_is_token : List Str := ["sign"]
abbrev p_is_token : List Str := ["sign"]
theorem sc_is_token : FnScope n_is_token p_is_token (defScope s_is_token) := ⟨rfl, rfl, rfl, by decide +kernel, rfl, by decide +kernel, by decide +kernel⟩
abbrev sp_is_token (K : PySem.W.Frag) : Sp := spM (aC rS aN) rB fun a => m_is_token a.1
theorem c_is_token {P : Program} {w : World} {K : PySem.W.Frag} {mg : Str → Option Value} {base : Heap} (F : Df K mg "is_token" s_is_token) (M_SMALL : ∃ t, mg "SMALL" = some (.str "abcdefghijklmnopqrstuvwxyz" t)) : Cal P w K mg base CX0 "is_token" 1 p_is_token (sp_is_token K) := by
  obtain ⟨t_SMALL, M_SMALL⟩ := M_SMALL
  refine cal_of F sc_is_token (fun vs H Q E ⟨a, b, h, _⟩ => LenA.len h) (fun _ _ _ _ _ _ us hl => match us, hl with | [_], _ => rfl) fun cdv f A outer s H vs Q E hr h => ?_
  have sc := sc_is_token
  refine ⟨_, (pss_one (ps_ret (pe_cmpR op_in_sign (pe_ix (k_ix K) (pe_ix (k_ix K) (pe_rpartition (pv 0) pe_str) pe_int (fun _ _ => rfl)) pe_int (fun _ _ => rfl)) (pe_glob (v := .str "abcdefghijklmnopqrstuvwxyz") (by rfl) M_SMALL ⟨_, rfl⟩) rfl))), ?_⟩
  obtain ⟨⟨sign1, _⟩, r0, ⟨v_sign1, _, rfl, w_sign1, rfl⟩, h, k⟩ := h
  have hD : RtOk (fz K rB) H r0 { nx := fun _ H' => Q .non H', rt := Q } := fun v H' ⟨as, s, n, z⟩ => k v H' s z.2.now
  refine Sv.run (K := K) (G := ([fc rS sign1] : Cells K)) ?_ (.fz w_sign1 .nil)
  have h : m_is_token sign1 = .ok r0 := h
  unfold m_is_token at h
  obtain ⟨_, e_u2, h⟩ := mb_ok h; have e_u2 := of_decide_eq_true (chk_ok e_u2)
  obtain ⟨_, e_u3, h⟩ := mb_ok h; have e_u3 := of_decide_eq_true (chk_ok e_u3)
  obtain ⟨t4, e_t4, h⟩ := mb_ok h; have e_t4 := oM_ok e_t4
  obtain ⟨t5, e_t5, h⟩ := mb_ok h; have e_t5 := oM_ok e_t5
  obtain ⟨t6, e_t6, h⟩ := mb_ok h; have e_t6 := oM_ok e_t6
  cases h
  refine r_ret hD ?_
  walk_at "ev"
/-! ### format_rule -/
abbrev s_format_rule : Stmt := topS 14
abbrev n_format_rule : List Str := ["one", "head", "side"]
abbrev p_format_rule : List Str := ["one"]
theorem sc_format_rule : FnScope n_format_rule p_format_rule (defScope s_format_rule) := ⟨rfl, rfl, rfl, by decide +kernel, rfl, by decide +kernel, by decide +kernel⟩
abbrev sp_format_rule (K : PySem.W.Frag) : Sp := spM (aC (rP K rS (rT K rS)) aN) rS fun a => m_format_rule a.1
theorem c_format_rule {P : Program} {w : World} {K : PySem.W.Frag} {mg : Str → Option Value} {base : Heap} (F : Df K mg "format_rule" s_format_rule) : Cal P w K mg base CX0 "format_rule" 1 p_format_rule (sp_format_rule K) := by
  refine cal_of F sc_format_rule (fun vs H Q E ⟨a, b, h, _⟩ => LenA.len h) (fun _ _ _ _ _ _ us hl => match us, hl with | [_], _ => rfl) fun cdv f A outer s H vs Q E hr h => ?_
  have sc := sc_format_rule
  refine ⟨_, (pss_cons (ps_asg (pv 0) (pg_tupK K rfl (pgs_cons (pg_name (i := 1) sc.nd rfl (Or.inl rfl)) (pgs_cons (pg_name (i := 2) sc.nd rfl (Or.inl rfl)) pgs_nil))))
      (pss_one (ps_ret (pe_joinK K pe_str (pe_lst (pa_cons (pv 1) (pa_cons pe_str (pa_starK K (pv 2) pa_nil)))))))), ?_⟩
  obtain ⟨⟨one1, _⟩, r0, ⟨v_one1, _, rfl, w_one1, rfl⟩, h, k⟩ := h
  have hD : RtOk (fz K rS) H r0 { nx := fun _ H' => Q .non H', rt := Q } := fun v H' ⟨as, s, n, z⟩ => k v H' s z.2.now
  refine Sv.run (K := K) (G := ([fc (rP K rS (rT K rS)) one1, none, none] : Cells K)) ?_ (.fz w_one1 (.skip (.skip .nil)))
  have h : m_format_rule one1 = .ok r0 := h
  unfold m_format_rule at h
  refine q_pair (r := rS) (q := (rT K rS)) (p := one1) ?_ ?_
  · walk_at "ev"
  obtain ⟨_, e_u2, h⟩ := mb_ok h; have e_u2 := of_decide_eq_true (chk_ok e_u2)
  obtain ⟨_, e_u3, h⟩ := mb_ok h; have e_u3 := of_decide_eq_true (chk_ok e_u3)
  obtain ⟨_, e_u4, h⟩ := mb_ok h; have e_u4 := of_decide_eq_true (chk_ok e_u4)
  cases h
  refine r_ret hD ?_
  walk_at "ev"
/-! ### parse_rule -/
abbrev s_parse_rule : Stmt := topS 15
abbrev n_parse_rule : List Str := ["line", "words", "word"]
abbrev p_parse_rule : List Str := ["line"]
theorem sc_parse_rule : FnScope n_parse_rule p_parse_rule (defScope s_parse_rule) := ⟨rfl, rfl, rfl, by decide +kernel, rfl, by decide +kernel, by decide +kernel⟩
abbrev sp_parse_rule (K : PySem.W.Frag) : Sp := spM (aC rS aN) (rO (rP K rS (rT K rS))) fun a => m_parse_rule a.1
theorem c_parse_rule {P : Program} {w : World} {K : PySem.W.Frag} {mg : Str → Option Value} {base : Heap} (F : Df K mg "parse_rule" s_parse_rule) (B_len : mg "len" = none) (B_all : mg "all" = none) (B_tuple : mg "tuple" = none) (C_is_sign : Cal P w K mg base CX0 "is_sign" 2 p_is_sign (sp_is_sign K)) (C_is_token : Cal P w K mg base CX0 "is_token" 1 p_is_token (sp_is_token K)) : Cal P w K mg base CX0 "parse_rule" 3 p_parse_rule (sp_parse_rule K) := by
  refine cal_of F sc_parse_rule (fun vs H Q E ⟨a, b, h, _⟩ => LenA.len h) (fun _ _ _ _ _ _ us hl => match us, hl with | [_], _ => rfl) fun cdv f A outer s H vs Q E hr h => ?_
  have sc := sc_parse_rule
  refine ⟨_, (pss_cons (ps_set (i := 1) sc.nd rfl (Or.inl rfl) (pe_split (pv 0) pe_str))
      (pss_cons (ps_if (PW.pt (pw_or (pt_cmpR op_lt (pe_callB (k_len K) (by rfl) B_len PySem.boot_len (pa_cons (pv 1) pa_nil)) pe_int (nomark _)) (pw_or (pt_cmpR op_ne (pe_ix (k_ix K) (pv 1) pe_int (fun _ _ => rfl)) pe_str (nomark _)) (pw_or (pt_not (pt_val (pe_fn C_is_sign (hr.mono (by decide)) (pa_cons (pe_ix (k_ix K) (pv 1) pe_int (fun _ _ => rfl)) pa_nil)))) (pw_or1 (pt_val (pe_fn C_is_token (hr.mono (by decide)) (pa_cons (pe_ix (k_ix K) (pv 1) pe_int (fun _ _ => rfl)) pa_nil))))))))
      (pss_one (ps_ret pe_non)) pss_nil)
      (pss_cons (ps_if (pt_not (pt_val (pe_callB (k_all K rfl) (by rfl) B_all (by decide +kernel) (pa_cons (pe_lc (own := [("word", 2)]) (g := gName 2) (tt := tYes) (by rfl) sc.nd (pi_listK K (pe_slice (k_slL K) (pv 1) (po_some pe_int) po_none)) (blkOk_by (own := [("word", 2)]) (N := n_parse_rule) (sc := defScope s_parse_rule) (by decide +kernel)) (fun _ _ _ _ _ => (pg_name (i := 2) sc.nd rfl (Or.inl rfl))) (fun _ _ _ _ _ => pts_nil) (fun _ _ _ _ _ => (pe_fn C_is_sign (hr.mono (by decide)) (pa_cons (pv 2) pa_nil)))) pa_nil))))
      (pss_one (ps_ret pe_non)) pss_nil)
      (pss_one (ps_ret (pe_tup (pa_cons (pe_ix (k_ix K) (pv 1) pe_int (fun _ _ => rfl)) (pa_cons (pe_callTy (k_tuple K) (by rfl) B_tuple (by decide +kernel) (pa_cons (pe_slice (k_slL K) (pv 1) (po_some pe_int) po_none) pa_nil)) pa_nil)))))))), ?_⟩
  obtain ⟨⟨line1, _⟩, r0, ⟨v_line1, _, rfl, w_line1, rfl⟩, h, k⟩ := h
  have hD : RtOk (fz K (rO (rP K rS (rT K rS)))) H r0 { nx := fun _ H' => Q .non H', rt := Q } := fun v H' ⟨as, s, n, z⟩ => k v H' s z.2.now
  refine Sv.run (K := K) (G := ([fc rS line1, none, none] : Cells K)) ?_ (.fz w_line1 (.skip (.skip .nil)))
  have h : m_parse_rule line1 = .ok r0 := h
  unfold m_parse_rule at h
  obtain ⟨_, e_u2, h⟩ := mb_ok h; have e_u2 := of_decide_eq_true (chk_ok e_u2)
  obtain ⟨_, e_u3, h⟩ := mb_ok h; have e_u3 := of_decide_eq_true (chk_ok e_u3)
  obtain ⟨_, e_u4, h⟩ := mb_ok h; have e_u4 := of_decide_eq_true (chk_ok e_u4)
  obtain ⟨words5, e_words5, h⟩ := mb_ok h; have e_words5 := ok_inj e_words5
  refine q_asg (R := (nl K rS)) (b := Txt.split line1 (" " : Str)) (b' := words5) ?_ e_words5 ?_
  · walk_at "ev"
  obtain ⟨c12, e_c12, h⟩ := mb_ok h
  refine q_if (c := c12) ?_ ?_ ?_
  · refine et_orM ?_ (fun _ e => ?_) e_c12
    · walk_at "ev"
    obtain ⟨t6, e_t6, e⟩ := mb_ok e; have e_t6 := oM_ok e_t6
    obtain ⟨c11, e_c11, e⟩ := mb_ok e
    cases e
    refine et_orM ?_ (fun _ e => ?_) e_c11
    · walk_at "ev"
    obtain ⟨t7, e_t7, e⟩ := mb_ok e; have e_t7 := oM_ok e_t7
    obtain ⟨t8, e_t8, e⟩ := mb_ok e
    obtain ⟨c10, e_c10, e⟩ := mb_ok e
    cases e
    refine et_orM ?_ (fun _ e => ?_) e_c10
    · walk_at "ev"
    obtain ⟨t9, e_t9, e⟩ := mb_ok e
    cases e
    walk_at "ev"
  · intro hc; have h := bif_t h hc
    cases h
    refine r_ret hD ?_
    walk_at "ev"
  · intro hc; have h := bif_f h hc
    refine q_next ?_
    obtain ⟨_, e_u15, h⟩ := mb_ok h; have e_u15 := of_decide_eq_true (chk_ok e_u15)
    obtain ⟨zs16, e_zs16, h⟩ := mb_ok h
    refine q_if (c := (!(zs16.all id))) ?_ ?_ ?_
    · refine et_not ?_
      first | refine et_test ?_ | refine et_B ?_ | refine a_tru ?_ ?_
      refine ev_all ?_
      refine Nw.lst ?_
      refine nw_lcM (G' := ([fc rS line1, some (.ow (nl K rS) words5), none] : Cells K)) (r := rS) (p := (fun (y13 : Str) => .ok true)) (f := (fun (y13 : Str) => mb (m_is_sign y13) fun t14 => .ok t14)) ?_ (by first | assumption | (rw [ups_len]; omega) | (rw [List.length_map, List.length_range]; omega) | (simp only [List.length_cons, List.length_nil]; omega)) (fun y13 => ⟨_, tb_name, fun _ e => ?_, fun _ e => ?_⟩) e_zs16
      · refine wk_new ?_
        walk_at "ev"
      · cases e
        exact et_yes
      · obtain ⟨t14, e_t14, e⟩ := mb_ok e
        cases e
        walk_at "ev"
    · intro hc; have h := bif_t h hc
      cases h
      refine r_ret hD ?_
      walk_at "ev"
    · intro hc; have h := bif_f h hc
      refine q_next ?_
      obtain ⟨t17, e_t17, h⟩ := mb_ok h; have e_t17 := oM_ok e_t17
      cases h
      refine r_ret hD ?_
      refine Ev.some ?_
      walk_at "ev"
/-! ### grouped -/
abbrev s_grouped : Stmt := topS 16
abbrev n_grouped : List Str := ["rules", "groups", "head", "side", "sides"]
abbrev p_grouped : List Str := ["rules"]
theorem sc_grouped : FnScope n_grouped p_grouped (defScope s_grouped) := ⟨rfl, rfl, rfl, by decide +kernel, rfl, by decide +kernel, by decide +kernel⟩
abbrev sp_grouped (K : PySem.W.Frag) : Sp := spMN (aC (rEi K (rRu K)) aN) (nl K (rRu K)) fun a => m_grouped a.1
theorem c_grouped {P : Program} {w : World} {K : PySem.W.Frag} {mg : Str → Option Value} {base : Heap} (F : Df K mg "grouped" s_grouped) : Cal P w K mg base CX0 "grouped" 1 p_grouped (sp_grouped K) := by
  refine cal_of F sc_grouped (fun vs H Q E ⟨a, b, h, _⟩ => LenA.len h) (fun _ _ _ _ _ _ us hl => match us, hl with | [_], _ => rfl) fun cdv f A outer s H vs Q E hr h => ?_
  have sc := sc_grouped
  refine ⟨_, (pss_cons (ps_set (i := 1) sc.nd rfl (Or.inl rfl) pe_dnewK)
      (pss_cons (ps_for PassesOwn.never rfl (pi_eiK K (pv 0)) (pg_tupK K rfl (pgs_cons (pg_name (i := 2) sc.nd rfl (Or.inl rfl)) (pgs_cons (pg_name (i := 3) sc.nd rfl (Or.inl rfl)) pgs_nil)))
      (pss_cons (ps_set (i := 4) sc.nd rfl (Or.inl rfl) (pe_dget2 (Nat.lt_of_le_of_lt (Nat.add_le_add_left (by decide) _) hr.un) (pv 1) (pv 2) (pe_tup pa_nil) ⟨rfl, rfl, rfl, rfl⟩))
      (pss_one (ps_if (pt_cmpR (k_ninTD K (Nat.lt_of_le_of_lt (Nat.add_le_add_left (by decide) _) hr.un)) (pv 3) (pv 4) rfl)
      (pss_one (ps_dput (Nat.lt_of_le_of_lt (Nat.add_le_add_left (by decide) _) hr.un) (pv 1) (pv 2) (pe_op (k_catA K) (pv 4) (pe_tup (pa_cons (pv 3) pa_nil))) rfl)) pss_nil))))
      (pss_one (ps_ret (pe_lock (pe_lc2 (own := [("head", 2), ("side", 3), ("sides", 4)]) (g := gTup _ 2 (gCons (gName 2) (gCons (gName 4) gNil))) (tt := tYes) (vs1 := [3]) (g1 := gName 3) (tt1 := tYes) (by rfl) sc.nd (pi_items (pv 1)) (blkOk_by (own := [("head", 2), ("side", 3), ("sides", 4)]) (N := n_grouped) (sc := defScope s_grouped) (by decide +kernel)) (by decide) (fun _ _ _ _ _ => (pg_tupK K rfl (pgs_cons (pg_name (i := 2) sc.nd rfl (Or.inl rfl)) (pgs_cons (pg_name (i := 4) sc.nd rfl (Or.inl rfl)) pgs_nil)))) (fun _ _ _ _ _ => pts_nil) (fun _ _ _ _ _ => (pi_tupK K (pv 4))) (fun _ _ _ _ _ => (pg_name (i := 3) sc.nd rfl (Or.inl rfl))) (fun _ _ _ _ _ => pts_nil) (fun _ _ _ _ _ => (pe_tup (pa_cons (pv 2) (pa_cons (pv 3) pa_nil)))))))))), ?_⟩
  obtain ⟨⟨rs, _⟩, r0, ⟨v, _, rfl, hv, rfl⟩, hp, k⟩ := h
  have hp : m_grouped rs = .ok r0 := hp
  obtain ⟨_, e, hp⟩ := mb_ok hp
  cases hp
  have hp : rs.length ≤ 10000 := of_decide_eq_true (chk_ok e)
  refine Sv.run (K := K) (G := [rc (rEi K (rRu K)) rs, none, none, none, none]) ?_ (.ro hv (.skip (.skip (.skip (.skip .nil)))))
  refine q_asg (R := nd K (rT K (rT K rS))) (b' := ([] : Gs)) (by walk_at "ev") (by rfl) ?_
  refine q_for (S := Gs) (fun g => [rc (rEi K (rRu K)) rs, some (.ow (nd K (rT K (rT K rS))) g), none, none, none]) grStep [] (wk_ei (by rfl)) (.keep (.keep (.keep (.keep (.keep .nil))))) ?_ ?_
  · intro H0' e0 pre x post hx
    have hl := (grFold_ok pre [] .nil).2.2
    have hl2 := (grFold_ok pre [] .nil).2.1
    have h3 := congrArg List.length hx
    rw [List.length_append, List.length_cons] at h3
    generalize pre.foldl grStep [] = g at hl hl2 ⊢
    refine ⟨_, tg_pair, ?_⟩
    refine q_set (b' := (dkey g x.1).getD []) (by walk_at "ev") (by rfl) ?_
    have few : ∀ {l : List (List Str)}, dkey g x.1 = some l → l.length ≤ gsum g := fun {l} e => by
      unfold dkey at e
      cases q : g.find? fun kv => decide (kv.1 = x.1) with
      | none => rw [q] at e; cases e
      | some y =>
        rw [q] at e
        cases e
        have hy := List.mem_of_find?_eq_some q
        unfold gsum
        exact mem_sum (List.mem_map.mpr ⟨y, hy, rfl⟩)
    have few2 : ((dkey g x.1).getD []).length ≤ 10000 := by
      cases e : dkey g x.1 with
      | none => exact Nat.zero_le _
      | some l => have := few e; have z : gsum ([] : Gs) = 0 := rfl; show l.length ≤ _; omega
    apply l_if
    · walk_at "ev"
    · intro hc
      refine l_dput (xs := g) (x := (dkey g x.1).getD [] ++ [x.2]) rfl (by walk_at "ev") (by walk_at "ev") (by rfl) (by have z : ([] : Gs).length = 0 := rfl; omega) ?_
      have e1 : grStep g x = dput g x.1 ((dkey g x.1).getD [] ++ [x.2]) := by
        unfold grStep
        rw [show memB x.2 ((dkey g x.1).getD []) = false by simpa using hc]
        rfl
      rw [e1]
      exact nx_have (.keep (.keep (.drop (.drop (.drop .nil)))))
    · intro hc
      have e1 : grStep g x = g := by
        unfold grStep
        rw [show memB x.2 ((dkey g x.1).getD []) = true by simpa using hc]
        rfl
      rw [e1]
      exact nx_have (.keep (.keep (.drop (.drop (.drop .nil)))))
  have hg := grp_len rs
  unfold grp at hg
  have e2 : grFlat (rs.foldl grStep []) = flat2 (rs.foldl grStep []) (fun x => x.2) (fun _ _ => true) (fun x s => (x.1, s)) := by
    unfold grFlat flat2
    congr 1
    funext x
    rw [List.filter_eq_self.mpr fun _ _ => rfl]
  rw [e2] at hg
  refine l_retN k (nw_lock (i := 1) (r := rT K (rT K rS)) (xs := rs.foldl grStep []) rfl (nw_lc2 (r1 := rT K rS) (fun x => x.2) (fun _ _ => true) (fun x s => (x.1, s)) (wk_items) (by omega) ?_)) (by show _ = grFlat _; rw [e2])
  intro pre x post hx
  refine ⟨_, tbp_pair, wkp_tup (by walk_at "ev"), fun pre1 y post1 hy => ⟨_, tbp_name, et_yes, fun _ => by walk_at "ev"⟩⟩
/-! ### Grammar.__init__ -/
abbrev s_Grammar___init__ : Stmt := inClass (topS 17) 0
abbrev n_Grammar___init__ : List Str := ["self", "rules"]
abbrev p_Grammar___init__ : List Str := ["self", "rules"]
theorem sc_Grammar___init__ : FnScope n_Grammar___init__ p_Grammar___init__ (defScope s_Grammar___init__) := ⟨rfl, rfl, rfl, by decide +kernel, rfl, by decide +kernel, by decide +kernel⟩
abbrev sp_Grammar___init__ (K : PySem.W.Frag) : Sp := spOneM K (cA K "Grammar") "rows" (rRu K) (aC (rEi K (rRu K)) aN) fun a => m_Grammar___init__ a.1
theorem c_Grammar___init__ {P : Program} {w : World} {K : PySem.W.Frag} {mg : Str → Option Value} {base : Heap} (F : DfE K (cA K "Grammar") "__init__" "Grammar.__init__" s_Grammar___init__ 1) (K_Grammar : ClsF K mg "Grammar") (N_Grammar_rows : NoAttr K (cA K "Grammar") "rows") (C_grouped : Cal P w K mg base CX0 "grouped" 1 p_grouped (sp_grouped K)) : CalI P w K mg base CX0 (cA K "Grammar") 2 p_Grammar___init__ (sp_Grammar___init__ K) ∧ ∀ d, DfE0 K (cA K "Grammar") "Grammar.__init__" s_Grammar___init__ d → CalD P w K mg base (cA K "Grammar") 2 p_Grammar___init__ (sp_Grammar___init__ K) d := by
  have cl_Grammar := K_Grammar.cl
  refine (fun B => ⟨calI_of K_Grammar F sc_Grammar___init__ (fun vs H Q E h => spOneM_len h) ⟨fun h => absurd h (by decide), fun _ _ _ _ _ _ _ _ us its hl hi => match us, hl, its, hi with | [_, _], _, [_], _ => ⟨_, rfl, rfl⟩⟩ B, fun d F0 => calD_of K_Grammar F0 sc_Grammar___init__ (fun vs H Q E h => spOneM_len h) (fun _ _ _ _ _ _ _ _ _ => ⟨_, rfl, rfl⟩) B⟩ : (∀ (cdv : Value) (f : Addr) (A : Around) (outer : List PySem.Env) (s : Shared) (H : Hp) (vs : List V) (Q : VK) (E : XK), Room 1 (A.deeper (envOfC "Grammar.__init__" (defScope s_Grammar___init__) s.heap.objs.size f cdv)) → sp_Grammar___init__ K vs H Q E → ∃ t, PSs (cxOf CX0 P w K mg base n_Grammar___init__ "Grammar.__init__" (defScope s_Grammar___init__) f cdv A outer s H E).nox (defBody s_Grammar___init__) t ∧ t { nx := fun _ H' => Q .non H', rt := Q } (start n_Grammar___init__ vs) H) → _) fun cdv f A outer s H vs Q E hr h => ?_
  have sc := sc_Grammar___init__
  refine ⟨_, (pss_one (ps_fldK K (pv 0) (pe_fn C_grouped (hr.mono (by decide)) (pa_cons (pv 1) pa_nil)))), ?_⟩
  obtain ⟨p, dx, ws, ⟨rs, _⟩, b, rfl, hp, ⟨v, _, rfl, hv, rfl⟩, hm, k⟩ := h
  have hm : m_grouped rs = .ok b := hm
  refine ⟨_, rfl, (rs, ()), b, ⟨v, _, rfl, hv, rfl⟩, hm, fun y H1 as e hf ⟨l, us, ea, ey, hl, z⟩ => ?_⟩
  obtain ⟨_, e9, hm⟩ := mb_ok hm
  cases hm
  have hpre : rs.length ≤ 10000 := of_decide_eq_true (chk_ok e9)
  subst ey
  refine ⟨_, rfl, p, _, dx, [], rfl, e _ _ hp, cl_Grammar, N_Grammar_rows, by decide, ?_⟩
  have hl0 : H l = none := hf l (by rw [ea]; exact List.mem_singleton.mpr rfl)
  have npl : p ≠ l := ne_of_none hp hl0
  have hg := grp_len rs
  exact k l us _ (fun b o nb ho => by rw [upd_ne nb]; exact e _ _ ho) hl0 upd_same (by rw [upd_ne npl.symm]; exact hl) (z.imp fun _ _ w => w.up (ext_upd (e _ _ hp) fun z => z)) (by show (grp rs).length ≤ _; omega)
/-! ### Grammar.from_string -/
abbrev s_Grammar_from_string : Stmt := inClass (topS 17) 1
abbrev n_Grammar_from_string : List Str := ["cls", "string", "rules", "lines", "number", "line", "one"]
abbrev p_Grammar_from_string : List Str := ["cls", "string"]
theorem sc_Grammar_from_string : FnScope n_Grammar_from_string p_Grammar_from_string (defScope s_Grammar_from_string) := ⟨rfl, rfl, rfl, by decide +kernel, rfl, by decide +kernel, by decide +kernel⟩
abbrev sp_Grammar_from_string (K : PySem.W.Frag) : Sp := spXN (aC (rCls (cA K "Grammar")) (aC rS aN)) (nG K) fun a => m_Grammar_from_string a.1 a.2.1
theorem c_Grammar_from_string {P : Program} {w : World} {K : PySem.W.Frag} {mg : Str → Option Value} {base : Heap} (F : DfC K (cA K "Grammar") "from_string" "Grammar.from_string" s_Grammar_from_string) (B_enumerate : mg "enumerate" = none) (K_Grammar : ClsF K mg "Grammar") (I_Grammar : CalI P w K mg base CX0 (cA K "Grammar") 2 p_Grammar___init__ (sp_Grammar___init__ K)) (E_BadLine : ExcK P K mg "BadLine" "number") (C_parse_rule : Cal P w K mg base CX0 "parse_rule" 3 p_parse_rule (sp_parse_rule K)) : CalC P w K mg base (cA K "Grammar") "from_string" 4 (sp_Grammar_from_string K) := by
  have cl_Grammar := K_Grammar.cl
  refine calC_of F sc_Grammar_from_string (fun vs H Q E ⟨a, h, _⟩ => LenA.len h) ⟨fun _ _ _ _ _ _ _ us hl => match us, hl with | [_, _], _ => rfl, fun h => absurd h (by decide)⟩ fun cdv f A outer s H vs Q E hr h => ?_
  have sc := sc_Grammar_from_string
  refine ⟨_, (pss_cons (ps_set (i := 2) sc.nd rfl (Or.inl rfl) (pe_lst pa_nil))
      (pss_cons (ps_set (i := 3) sc.nd rfl (Or.inl rfl) (pe_ifExp (pt_tru K (pv 1)) (pe_split (pv 1) pe_str) (pe_lst pa_nil)))
      (pss_cons (ps_for (passes_of rfl) rfl (pi_enumS K (by rfl) B_enumerate (pa_cons (pv 3) pa_nil) pe_int) (pg_tupK K rfl (pgs_cons (pg_name (i := 4) sc.nd rfl (Or.inl rfl)) (pgs_cons (pg_name (i := 5) sc.nd rfl (Or.inl rfl)) pgs_nil)))
      (pss_cons (ps_set (i := 6) sc.nd rfl (Or.inl rfl) (pe_fn C_parse_rule (hr.mono (by decide)) (pa_cons (pv 5) pa_nil)))
      (pss_cons (ps_if (pt_cmpR op_isN (pv 6) pe_non (nomark _))
      (pss_one (ps_raise rfl (takes_of rfl rfl rfl rfl) (pmk_ex E_BadLine hr (pa_cons (pv 4) pa_nil)))) pss_nil)
      (pss_one (ps_expr (pe_app K (pv 2) (pa_cons (pv 6) pa_nil)))))))
      (pss_one (ps_ret (pe_mkV I_Grammar (hr.mono (by decide)) (pv 0) (pa_cons (pv 2) pa_nil))))))), ?_⟩
  obtain ⟨⟨cls1, string2, _⟩, ⟨v_cls1, _, rfl, w_cls1, ⟨v_string2, _, rfl, w_string2, rfl⟩⟩, hN, hok, hx⟩ := h
  have hD : ∀ r, m_Grammar_from_string cls1 string2 = .ok r → RtOk (nG K) H r { nx := fun _ H' => Q .non H', rt := Q } := fun r e v H' ⟨as, s, n, z⟩ => hok r e v H' as s n z
  have hX : ∀ e, m_Grammar_from_string cls1 string2 = .error e → XOk K H E e := fun e q => match e, q with | .stuck, q => absurd q hN | .ex x fs, q => fun d H' s n z => hx x fs q d H' s n z
  refine Sv.run (K := K) (G := ([fc (rCls (cA K "Grammar")) cls1, fc rS string2, none, none, none, none, none] : Cells K)) ?_ (.fz w_cls1 (.fz w_string2 (.skip (.skip (.skip (.skip (.skip .nil)))))))
  clear hN hok hx
  generalize h : m_Grammar_from_string cls1 string2 = o at hD hX
  have ns := nstk_of hX
  unfold m_Grammar_from_string at h
  obtain ⟨rules3, e_rules3, h⟩ := mbx_ok h
  refine q_asg (R := (nl K (rP K rS (rT K rS)))) (b := ([] : (List (Str × (List Str))))) (b' := rules3) ?_ e_rules3 ?_
  · walk_at "ev"
  obtain ⟨c7, e_c7, h⟩ := mbx_calm h ns
  refine q_asg (R := (nl K rS)) (b := c7) (b' := c7) ?_ rfl ?_
  · refine nw_ifM ?_ (fun _ e => ?_) (fun _ e => ?_) e_c7
    · walk_at "ev"
    · obtain ⟨_, e_u4, e⟩ := mb_ok e; have e_u4 := of_decide_eq_true (chk_ok e_u4)
      obtain ⟨_, e_u5, e⟩ := mb_ok e; have e_u5 := of_decide_eq_true (chk_ok e_u5)
      obtain ⟨_, e_u6, e⟩ := mb_ok e; have e_u6 := of_decide_eq_true (chk_ok e_u6)
      cases e
      walk_at "ev"
    · cases e
      walk_at "ev"
  refine q_forX (r := (rP K rI rS)) (f := (fun (s8 : (List (Str × (List Str)))) (x9 : (Int × Str)) => mb (calm (m_parse_rule x9.2)) fun t11 => bif (isNone' t11) then .error (.ex "BadLine" [("number", (.i x9.1))]) else mb (oM t11) fun z12 => mb (chk (decide (s8.length < 100000))) fun _ => mb (.ok (s8 ++ [z12])) fun rules14 => .ok rules14)) (s0 := rules3) (fun (s8 : (List (Str × (List Str)))) => ([fc (rCls (cA K "Grammar")) cls1, fc rS string2, some (.ow (nl K (rP K rS (rT K rS))) s8), rc (rL rS) c7, none, none, none] : Cells K)) rfl ?_ (.keep (.keep (.keep (.keep (.keep (.keep (.keep .nil))))))) (fun s10 ex => ?_) (fun e q => hX e (mbx_er h q)) (fun H0' D' e0 x9 s8 o' h hD hX => ⟨_, tg_pair, ?_⟩)
  · exact wk_enumOwn (i := 3) (by rfl) (by decide)
  · have h := mbx_to h ex
    obtain ⟨t15, e_t15, h⟩ := mbx_calm h ns
    have hD := hD _ h.symm
    refine r_retN hD ?_
    walk_at "ev"
  · have ns := nstk_of hX
    obtain ⟨t11, e_t11, h⟩ := mbx_calm h ns
    refine q_set (r := (rO (rP K rS (rT K rS)))) (b := t11) (b' := t11) ?_ rfl ?_
    · walk_at "ev"
    refine q_if (c := (isNone' t11)) ?_ ?_ ?_
    · walk_at "ev"
    · intro hc; have h := bif_t h hc
      refine l_raise ?_ (w_of (hX _ h.symm))
      refine ev_pI ?_
      walk_at "ev"
    · intro hc; have h := bif_f h hc
      refine q_next ?_
      obtain ⟨z12, e_z12, h⟩ := mbx_oM h ns
      obtain ⟨e_u13, h⟩ := mbx_chk h ns; have e_u13 := of_decide_eq_true e_u13
      obtain ⟨rules14, e_rules14, h⟩ := mbx_ok h
      refine l_app (x := z12) (xs := s8) (by rfl) (x' := z12) ?_ rfl (by assumption) ?_
      · walk_at "ev"
      rw [e_rules14]
      have hD := hD _ h.symm
      exact fun σ H hv => hD σ H (hv.less (.keep (.keep (.keep (.keep (.drop (.drop (.drop .nil))))))))
/-! ### Grammar.__iter__ -/
abbrev s_Grammar___iter__ : Stmt := inClass (topS 17) 3
abbrev n_Grammar___iter__ : List Str := ["self"]
abbrev p_Grammar___iter__ : List Str := ["self"]
theorem sc_Grammar___iter__ : FnScope n_Grammar___iter__ p_Grammar___iter__ (defScope s_Grammar___iter__) := ⟨rfl, rfl, rfl, by decide +kernel, rfl, by decide +kernel, by decide +kernel⟩

theorem c_Grammar___iter__ {P : Program} {w : World} {K : PySem.W.Frag} {mg : Str → Option Value} {base : Heap} (F : DfE K (cA K "Grammar") "__iter__" "Grammar.__iter__" s_Grammar___iter__ 0) (c : Cls K (cA K "Grammar")) (n : NoAttr K (cA K "Grammar") "rows") (B_iter : mg "iter" = none) : ItOk P w K mg base (cA K "Grammar") "rows" := by
  refine itOk_of F sc_Grammar___iter__ ⟨fun _ _ _ _ _ _ _ us hl => match us, hl with | [_], _ => rfl, fun h => absurd h (by decide)⟩ fun f cdv A outer s H E => ⟨_, pss_one (ps_ret (pe_callB ItX.call_iterN (by rfl) B_iter (by decide +kernel) (pa_cons (pe_fldK K (pv 0)) pa_nil))), fun a dx l fs zs Q ha hl hz hq => ?_⟩
  exact ⟨_, rfl, a, _, dx, fs, _, rfl, ha, c, n, hl, l, zs, rfl, hz, hq⟩
/-! ### Grammar.__str__ -/
abbrev s_Grammar___str__ : Stmt := inClass (topS 17) 4
abbrev n_Grammar___str__ : List Str := ["self", "one"]
abbrev p_Grammar___str__ : List Str := ["self"]
theorem sc_Grammar___str__ : FnScope n_Grammar___str__ p_Grammar___str__ (defScope s_Grammar___str__) := ⟨rfl, rfl, rfl, by decide +kernel, rfl, by decide +kernel, by decide +kernel⟩
abbrev sp_Grammar___str__ (K : PySem.W.Frag) : Sp := spM (aC (rG K) aN) rS fun a => m_Grammar___str__ a.1
theorem c_Grammar___str__ {P : Program} {w : World} {K : PySem.W.Frag} {mg : Str → Option Value} {base : Heap} (F : DfE K (cA K "Grammar") "__str__" "Grammar.__str__" s_Grammar___str__ 0) (K_Grammar : ClsF K mg "Grammar") (N_Grammar_rows : NoAttr K (cA K "Grammar") "rows") (C_format_rule : Cal P w K mg base CX0 "format_rule" 1 p_format_rule (sp_format_rule K)) : CalM P w K mg base CX0 (cA K "Grammar") "__str__" 2 p_Grammar___str__ (sp_Grammar___str__ K) := by
  have cl_Grammar := K_Grammar.cl
  refine calM_of F sc_Grammar___str__ (fun vs H Q E ⟨a, b, h, _⟩ => LenA.len h) ⟨fun _ _ _ _ _ _ _ us hl => match us, hl with | [_], _ => rfl, fun h => absurd h (by decide)⟩ fun cdv f A outer s H vs Q E hr h => ?_
  have sc := sc_Grammar___str__
  refine ⟨_, (pss_one (ps_ret (pe_joinK K pe_str (pe_lc (own := [("one", 1)]) (g := gName 1) (tt := tYes) (by rfl) sc.nd (pi_listK K (pe_fldK K (pv 0))) (blkOk_by (own := [("one", 1)]) (N := n_Grammar___str__) (sc := defScope s_Grammar___str__) (by decide +kernel)) (fun _ _ _ _ _ => (pg_name (i := 1) sc.nd rfl (Or.inl rfl))) (fun _ _ _ _ _ => pts_nil) (fun _ _ _ _ _ => (pe_fn C_format_rule (hr.mono (by decide)) (pa_cons (pv 1) pa_nil))))))), ?_⟩
  obtain ⟨⟨self1, _⟩, r0, ⟨v_self1, _, rfl, w_self1, rfl⟩, h, k⟩ := h
  have hD : RtOk (fz K rS) H r0 { nx := fun _ H' => Q .non H', rt := Q } := fun v H' ⟨as, s, n, z⟩ => k v H' s z.2.now
  refine Sv.run (K := K) (G := ([rc (rG K) self1, none] : Cells K)) ?_ (.ro w_self1 (.skip .nil))
  have h : m_Grammar___str__ self1 = .ok r0 := h
  unfold m_Grammar___str__ at h
  obtain ⟨_, e_u4, h⟩ := mb_ok h; have e_u4 := of_decide_eq_true (chk_ok e_u4)
  obtain ⟨zs5, e_zs5, h⟩ := mb_ok h
  obtain ⟨_, e_u6, h⟩ := mb_ok h; have e_u6 := of_decide_eq_true (chk_ok e_u6)
  obtain ⟨_, e_u7, h⟩ := mb_ok h; have e_u7 := of_decide_eq_true (chk_ok e_u7)
  cases h
  refine r_ret hD ?_
  refine ev_join ?_ ?_ (by assumption) (by assumption)
  · walk_at "ev"
  · refine Nw.lst ?_
    refine nw_lcM (G' := ([rc (rG K) self1, none] : Cells K)) (r := (rP K rS (rT K rS))) (p := (fun (y2 : (Str × (List Str))) => .ok true)) (f := (fun (y2 : (Str × (List Str))) => mb (m_format_rule y2) fun t3 => .ok t3)) ?_ (by first | assumption | (rw [ups_len]; omega) | (rw [List.length_map, List.length_range]; omega) | (simp only [List.length_cons, List.length_nil]; omega)) (fun y2 => ⟨_, tb_name, fun _ e => ?_, fun _ e => ?_⟩) e_zs5
    · exact wk_oneF cl_Grammar N_Grammar_rows (by rfl)
    · cases e
      exact et_yes
    · obtain ⟨t3, e_t3, e⟩ := mb_ok e
      cases e
      walk_at "ev"
/-! ### _law_cell -/
abbrev s__law_cell : Stmt := topS 19
abbrev n__law_cell : List Str := ["_law_script", "_law_k"]
abbrev p__law_cell : List Str := ["_law_script", "_law_k"]
theorem sc__law_cell : FnScope n__law_cell p__law_cell (defScope s__law_cell) := ⟨rfl, rfl, rfl, by decide +kernel, rfl, by decide +kernel, by decide +kernel⟩
abbrev sp__law_cell (K : PySem.W.Frag) : Sp := spM (aC (rQ K rI) (aC rI aN)) rI fun a => m__law_cell a.1 a.2.1
theorem c__law_cell {P : Program} {w : World} {K : PySem.W.Frag} {mg : Str → Option Value} {base : Heap} (F : Df K mg "_law_cell" s__law_cell) (B_len : mg "len" = none) (B_int : mg "int" = none) : Cal P w K mg base CX0 "_law_cell" 1 p__law_cell (sp__law_cell K) := by
  refine cal_of F sc__law_cell (fun vs H Q E ⟨a, b, h, _⟩ => LenA.len h) (fun _ _ _ _ _ _ us hl => match us, hl with | [_, _], _ => rfl) fun cdv f A outer s H vs Q E hr h => ?_
  have sc := sc__law_cell
  refine ⟨_, (pss_one (ps_ret (pe_ifExp (pt_cmpR op_lt (pv 1) (pe_callB (k_len K) (by rfl) B_len PySem.boot_len (pa_cons (pv 0) pa_nil)) (nomark _)) (pe_callTy call_int1 (by rfl) B_int (by decide +kernel) (pa_cons (pe_ix (k_ix K) (pv 0) (pv 1) (fun _ _ => rfl)) pa_nil)) pe_int))), ?_⟩
  obtain ⟨⟨script1, k2, _⟩, r0, ⟨v_script1, _, rfl, w_script1, ⟨v_k2, _, rfl, w_k2, rfl⟩⟩, h, k⟩ := h
  have hD : RtOk (fz K rI) H r0 { nx := fun _ H' => Q .non H', rt := Q } := fun v H' ⟨as, s, n, z⟩ => k v H' s z.2.now
  refine Sv.run (K := K) (G := ([rc (rQ K rI) script1, fc rI k2] : Cells K)) ?_ (.ro w_script1 (.fz w_k2 .nil))
  have h : m__law_cell script1 k2 = .ok r0 := h
  unfold m__law_cell at h
  obtain ⟨c4, e_c4, h⟩ := mb_ok h
  cases h
  refine r_ret hD ?_
  refine ev_ifM ?_ (fun _ e => ?_) (fun _ e => ?_) e_c4
  · walk_at "ev"
  · obtain ⟨t3, e_t3, e⟩ := mb_ok e; have e_t3 := oM_ok e_t3
    cases e
    walk_at "ev"
  · cases e
    walk_at "ev"
/-! ### _law_draws -/
abbrev s__law_draws : Stmt := topS 20
abbrev n__law_draws : List Str := ["_law_cell_here", "_law_many", "_law_rest", "_law_row", "_law_k", "_law_mixed"]
abbrev p__law_draws : List Str := ["_law_cell_here", "_law_many"]
theorem sc__law_draws : FnScope n__law_draws p__law_draws (defScope s__law_draws) := ⟨rfl, rfl, rfl, by decide +kernel, rfl, by decide +kernel, by decide +kernel⟩
abbrev sp__law_draws (K : PySem.W.Frag) : Sp := spMN (aC rI (aC rI aN)) (nl K rI) fun a => m__law_draws a.1 a.2.1
theorem c__law_draws {P : Program} {w : World} {K : PySem.W.Frag} {mg : Str → Option Value} {base : Heap} (F : Df K mg "_law_draws" s__law_draws) (B_int : mg "int" = none) (B_range : mg "range" = none) : Cal P w K mg base CX0 "_law_draws" 1 p__law_draws (sp__law_draws K) := by
  refine cal_of F sc__law_draws (fun vs H Q E ⟨a, b, h, _⟩ => LenA.len h) (fun _ _ _ _ _ _ us hl => match us, hl with | [_, _], _ => rfl) fun cdv f A outer s H vs Q E hr h => ?_
  have sc := sc__law_draws
  refine ⟨_, (pss_cons (ps_set (i := 2) sc.nd rfl (Or.inl rfl) (pe_op op_mul (pv 0) (pe_callTy call_int1 (by rfl) B_int (by decide +kernel) (pa_cons (pe_cmpR op_ge (pv 0) (pe_op op_pow pe_int pe_int) (nomark _)) pa_nil))))
      (pss_cons (ps_set (i := 3) sc.nd rfl (Or.inl rfl) (pe_lst pa_nil))
      (pss_cons (ps_for PassesOwn.never rfl (pi_range1 (by rfl) B_range (pa_cons (pv 1) pa_nil)) (pg_name (i := 4) sc.nd rfl (Or.inl rfl))
      (pss_one (ps_if (pt_cmpR op_gt (pv 2) pe_int (nomark _))
      (pss_cons (ps_expr (pe_app K (pv 3) (pa_cons (pe_op op_mod (pe_callTy call_int1 (by rfl) B_int (by decide +kernel) (pa_cons (pv 2) pa_nil)) pe_int) pa_nil)))
      (pss_one (ps_set (i := 2) sc.nd rfl (Or.inl rfl) (pe_op op_fdiv (pv 2) pe_int)))) (pss_cons (ps_set (i := 5) sc.nd rfl (Or.inl rfl) (pe_op op_mod (pe_callTy call_int1 (by rfl) B_int (by decide +kernel) (pa_cons (pe_op op_add (pe_op op_add (pe_op op_mul (pv 0) pe_int) (pe_op op_mul (pv 4) pe_int)) pe_int) pa_nil)) pe_int))
      (pss_cons (ps_set (i := 5) sc.nd rfl (Or.inl rfl) (pe_op op_mod (pe_callTy call_int1 (by rfl) B_int (by decide +kernel) (pa_cons (pe_op op_add (pe_op op_add (pe_op op_mul (pv 5) (pv 5)) (pe_op op_mul pe_int (pv 5))) (pv 4)) pa_nil)) pe_int))
      (pss_one (ps_expr (pe_app K (pv 3) (pa_cons (pe_op op_mod (pe_op op_mod (pe_callTy call_int1 (by rfl) B_int (by decide +kernel) (pa_cons (pe_op op_add (pe_op op_mul (pv 5) (pv 5)) (pe_op op_mul pe_int (pv 5))) pa_nil)) pe_int) pe_int) pa_nil)))))))))
      (pss_one (ps_ret (pv 3)))))), ?_⟩
  obtain ⟨⟨cellhere1, many2, _⟩, r0, ⟨v_cellhere1, _, rfl, w_cellhere1, ⟨v_many2, _, rfl, w_many2, rfl⟩⟩, h, k⟩ := h
  have hD : RtOk (nl K rI) H r0 { nx := fun _ H' => Q .non H', rt := Q } := fun v H' ⟨as, s, n, z⟩ => k v H' as s n z
  refine Sv.run (K := K) (G := ([fc rI cellhere1, fc rI many2, none, none, none, none] : Cells K)) ?_ (.fz w_cellhere1 (.fz w_many2 (.skip (.skip (.skip (.skip .nil))))))
  have h : m__law_draws cellhere1 many2 = .ok r0 := h
  unfold m__law_draws at h
  obtain ⟨rest3, e_rest3, h⟩ := mb_ok h; have e_rest3 := ok_inj e_rest3
  refine q_set (r := rI) (b := cellhere1 * (b2 (decide (((10 : Int) ^ ((18 : Int)).toNat) ≤ cellhere1)))) (b' := rest3) ?_ e_rest3 ?_
  · walk_at "ev"
  obtain ⟨row4, e_row4, h⟩ := mb_ok h; have e_row4 := ok_inj e_row4
  refine q_asg (R := (nl K rI)) (b := ([] : (List Int))) (b' := row4) ?_ e_row4 ?_
  · walk_at "ev"
  obtain ⟨_, e_u5, h⟩ := mb_ok h; have e_u5 := of_decide_eq_true (chk_ok e_u5)
  obtain ⟨s8, hm, h⟩ := mb_ok h
  refine q_forM (r := rI) (f := (fun (s6 : (Int × (List Int))) (x7 : Int) => bif (decide ((0 : Int) < s6.1)) then mb (chk (decide (s6.2.length < 100000))) fun _ => mb (.ok (s6.2 ++ [s6.1 % (840 : Int)])) fun row10 => mb (.ok (s6.1 / (840 : Int))) fun rest11 => .ok (rest11, row10) else mb (.ok ((((cellhere1 * (48271 : Int)) + (x7 * (6961 : Int))) + (1013 : Int)) % (1000003 : Int))) fun mixed12 => mb (chk (decide (CMul mixed12 mixed12))) fun _ => mb (.ok ((((mixed12 * mixed12) + ((11 : Int) * mixed12)) + x7) % (999983 : Int))) fun mixed14 => mb (chk (decide (CMul mixed14 mixed14))) fun _ => mb (chk (decide (s6.2.length < 100000))) fun _ => mb (.ok (s6.2 ++ [(((mixed14 * mixed14) + ((3 : Int) * mixed14)) % (99991 : Int)) % (840 : Int)])) fun row17 => .ok (s6.1, row17))) (s0 := (rest3, row4)) (fun (s6 : (Int × (List Int))) => ([fc rI cellhere1, fc rI many2, fc rI s6.1, some (.ow (nl K rI) s6.2), none, none] : Cells K)) hm ?_ (.keep (.keep (.keep (.keep (.keep (.keep .nil)))))) (fun H0' e0 x7 s6 s' h => ⟨_, tg_name, ?_⟩) ?_
  · refine wk_rng1 ?_ ?_
    · walk_at "ev"
    · first | assumption | omega
  · have hD : Nx H0' ((fun (s6 : (Int × (List Int))) => ([fc rI cellhere1, fc rI many2, fc rI s6.1, some (.ow (nl K rI) s6.2), none, none] : Cells K)) s') (Have H0' ((fun (s6 : (Int × (List Int))) => ([fc rI cellhere1, fc rI many2, fc rI s6.1, some (.ow (nl K rI) s6.2), none, none] : Cells K)) s')) := fun _ _ z => z
    refine l_if (c := (decide ((0 : Int) < s6.1))) ?_ ?_ ?_
    · walk_at "ev"
    · intro hc; have h := bif_t h hc
      obtain ⟨_, e_u9, h⟩ := mb_ok h; have e_u9 := of_decide_eq_true (chk_ok e_u9)
      obtain ⟨row10, e_row10, h⟩ := mb_ok h; have e_row10 := ok_inj e_row10
      refine q_app (x := s6.1 % (840 : Int)) (xs := s6.2) (by rfl) (x' := s6.1 % (840 : Int)) ?_ rfl (by assumption) ?_
      · walk_at "ev"
      rw [e_row10]
      obtain ⟨rest11, e_rest11, h⟩ := mb_ok h; have e_rest11 := ok_inj e_rest11
      refine l_set (r := rI) (b := s6.1 / (840 : Int)) (b' := rest11) ?_ e_rest11 ?_
      · walk_at "ev"
      cases h
      exact fun σ H hv => hD σ H (hv.less (.keep (.keep (.keep (.keep (.drop (.keep .nil)))))))
    · intro hc; have h := bif_f h hc
      obtain ⟨mixed12, e_mixed12, h⟩ := mb_ok h; have e_mixed12 := ok_inj e_mixed12
      refine q_set (r := rI) (b := (((cellhere1 * (48271 : Int)) + (x7 * (6961 : Int))) + (1013 : Int)) % (1000003 : Int)) (b' := mixed12) ?_ e_mixed12 ?_
      · walk_at "ev"
      obtain ⟨_, e_u13, h⟩ := mb_ok h; have e_u13 := of_decide_eq_true (chk_ok e_u13)
      obtain ⟨mixed14, e_mixed14, h⟩ := mb_ok h; have e_mixed14 := ok_inj e_mixed14
      refine q_set (r := rI) (b := (((mixed12 * mixed12) + ((11 : Int) * mixed12)) + x7) % (999983 : Int)) (b' := mixed14) ?_ e_mixed14 ?_
      · walk_at "ev"
      obtain ⟨_, e_u15, h⟩ := mb_ok h; have e_u15 := of_decide_eq_true (chk_ok e_u15)
      obtain ⟨_, e_u16, h⟩ := mb_ok h; have e_u16 := of_decide_eq_true (chk_ok e_u16)
      obtain ⟨row17, e_row17, h⟩ := mb_ok h; have e_row17 := ok_inj e_row17
      refine l_app (x := (((mixed14 * mixed14) + ((3 : Int) * mixed14)) % (99991 : Int)) % (840 : Int)) (xs := s6.2) (by rfl) (x' := (((mixed14 * mixed14) + ((3 : Int) * mixed14)) % (99991 : Int)) % (840 : Int)) ?_ rfl (by assumption) ?_
      · walk_at "ev"
      rw [e_row17]
      cases h
      exact fun σ H hv => hD σ H (hv.less (.keep (.keep (.keep (.keep (.drop (.drop .nil)))))))
  cases h
  exact r_retO (i := 3) hD (by rfl)
/-! ### _law_name -/
abbrev s__law_name : Stmt := topS 21
abbrev n__law_name : List Str := ["_law_k", "_law_style", "_law_capital", "_law_letter", "_law_word"]
abbrev p__law_name : List Str := ["_law_k", "_law_style", "_law_capital"]
theorem sc__law_name : FnScope n__law_name p__law_name (defScope s__law_name) := ⟨rfl, rfl, rfl, by decide +kernel, rfl, by decide +kernel, by decide +kernel⟩
abbrev sp__law_name (K : PySem.W.Frag) : Sp := spM (aC rI (aC rI (aC rB aN))) rS fun a => m__law_name a.1 a.2.1 a.2.2.1
theorem c__law_name {P : Program} {w : World} {K : PySem.W.Frag} {mg : Str → Option Value} {base : Heap} (F : Df K mg "_law_name" s__law_name) (B_int : mg "int" = none) : Cal P w K mg base CX0 "_law_name" 1 p__law_name (sp__law_name K) := by
  refine cal_of F sc__law_name (fun vs H Q E ⟨a, b, h, _⟩ => LenA.len h) (fun _ _ _ _ _ _ us hl => match us, hl with | [_, _, _], _ => rfl) fun cdv f A outer s H vs Q E hr h => ?_
  have sc := sc__law_name
  refine ⟨_, (pss_cons (ps_set (i := 3) sc.nd rfl (Or.inl rfl) (pe_ix (k_ix K) (pe_ix (k_ix K) (pe_lst (pa_cons pe_str (pa_cons pe_str (pa_cons pe_str pa_nil)))) (pe_op op_mod (pe_callTy call_int1 (by rfl) B_int (by decide +kernel) (pa_cons (pv 1) pa_nil)) pe_int) (fun _ _ => rfl)) (pv 0) (fun _ _ => rfl)))
      (pss_cons (ps_set (i := 4) sc.nd rfl (Or.inl rfl) (pe_ix (k_ix K) (pe_lst (pa_cons (pv 3) (pa_cons (pe_op op_add_str pe_str (pv 3)) (pa_cons (pe_op op_add_str (pv 3) pe_str) (pa_cons (pe_op op_add_str pe_str (pe_op op_mulS (pv 3) (pe_op op_add pe_int (pe_op op_mod (pe_callTy call_int1 (by rfl) B_int (by decide +kernel) (pa_cons (pv 0) pa_nil)) pe_int)))) pa_nil))))) (pe_op op_mod (pe_op op_fdiv (pe_callTy call_int1 (by rfl) B_int (by decide +kernel) (pa_cons (pv 1) pa_nil)) pe_int) pe_int) (fun _ _ => rfl)))
      (pss_one (ps_ret (pe_ifExp (pt_val (pv 2)) (pe_op op_add_str (pe_upper (pe_ix (k_ix K) (pv 4) pe_int (fun _ _ => rfl))) (pe_slice sl_str (pv 4) (po_some pe_int) po_none)) (pv 4)))))), ?_⟩
  obtain ⟨⟨k1, style2, capital3, _⟩, r0, ⟨v_k1, _, rfl, w_k1, ⟨v_style2, _, rfl, w_style2, ⟨v_capital3, _, rfl, w_capital3, rfl⟩⟩⟩, h, k⟩ := h
  have hD : RtOk (fz K rS) H r0 { nx := fun _ H' => Q .non H', rt := Q } := fun v H' ⟨as, s, n, z⟩ => k v H' s z.2.now
  refine Sv.run (K := K) (G := ([fc rI k1, fc rI style2, fc rB capital3, none, none] : Cells K)) ?_ (.fz w_k1 (.fz w_style2 (.fz w_capital3 (.skip (.skip .nil)))))
  have h : m__law_name k1 style2 capital3 = .ok r0 := h
  unfold m__law_name at h
  obtain ⟨t4, e_t4, h⟩ := mb_ok h; have e_t4 := oM_ok e_t4
  obtain ⟨t5, e_t5, h⟩ := mb_ok h; have e_t5 := oM_ok e_t5
  refine q_set (r := rS) (b := t5) (b' := t5) ?_ rfl ?_
  · walk_at "ev"
  obtain ⟨_, e_u6, h⟩ := mb_ok h; have e_u6 := of_decide_eq_true (chk_ok e_u6)
  obtain ⟨_, e_u7, h⟩ := mb_ok h; have e_u7 := of_decide_eq_true (chk_ok e_u7)
  obtain ⟨_, e_u8, h⟩ := mb_ok h; have e_u8 := of_decide_eq_true (chk_ok e_u8)
  obtain ⟨_, e_u9, h⟩ := mb_ok h; have e_u9 := of_decide_eq_true (chk_ok e_u9)
  obtain ⟨_, e_u10, h⟩ := mb_ok h; have e_u10 := of_decide_eq_true (chk_ok e_u10)
  obtain ⟨t11, e_t11, h⟩ := mb_ok h; have e_t11 := oM_ok e_t11
  refine q_set (r := rS) (b := t11) (b' := t11) ?_ rfl ?_
  · walk_at "ev"
  obtain ⟨c15, e_c15, h⟩ := mb_ok h
  cases h
  refine r_ret hD ?_
  refine ev_ifM ?_ (fun _ e => ?_) (fun _ e => ?_) e_c15
  · walk_at "ev"
  · obtain ⟨t12, e_t12, e⟩ := mb_ok e; have e_t12 := oM_ok e_t12
    obtain ⟨_, e_u13, e⟩ := mb_ok e; have e_u13 := of_decide_eq_true (chk_ok e_u13)
    obtain ⟨_, e_u14, e⟩ := mb_ok e; have e_u14 := of_decide_eq_true (chk_ok e_u14)
    cases e
    walk_at "ev"
  · cases e
    walk_at "ev"
/-! ### _law_rules -/
abbrev s__law_rules : Stmt := topS 22
abbrev n__law_rules : List Str := ["_law_cell_here", "_law_most", "_law_row", "_law_heads", "_law_k", "_law_signs", "_law_rules_here", "_law_d", "_law_side", "_law_one"]
abbrev p__law_rules : List Str := ["_law_cell_here", "_law_most"]
theorem sc__law_rules : FnScope n__law_rules p__law_rules (defScope s__law_rules) := ⟨rfl, rfl, rfl, by decide +kernel, rfl, by decide +kernel, by decide +kernel⟩
abbrev sp__law_rules (K : PySem.W.Frag) : Sp := spMN (aC rI (aC rI aN)) (nl K (rP K rS (rT K rS))) fun a => m__law_rules a.1 a.2.1
theorem c__law_rules {P : Program} {w : World} {K : PySem.W.Frag} {mg : Str → Option Value} {base : Heap} (F : Df K mg "_law_rules" s__law_rules) (B_range : mg "range" = none) (B_int : mg "int" = none) (B_len : mg "len" = none) (B_tuple : mg "tuple" = none) (C__law_draws : Cal P w K mg base CX0 "_law_draws" 1 p__law_draws (sp__law_draws K)) (C__law_name : Cal P w K mg base CX0 "_law_name" 1 p__law_name (sp__law_name K)) : Cal P w K mg base CX0 "_law_rules" 2 p__law_rules (sp__law_rules K) := by
  refine cal_of F sc__law_rules (fun vs H Q E ⟨a, b, h, _⟩ => LenA.len h) (fun _ _ _ _ _ _ us hl => match us, hl with | [_, _], _ => rfl) fun cdv f A outer s H vs Q E hr h => ?_
  have sc := sc__law_rules
  refine ⟨_, (pss_cons (ps_set (i := 2) sc.nd rfl (Or.inr rfl) (pe_fn C__law_draws (hr.mono (by decide)) (pa_cons (pv 0) (pa_cons (pe_op op_add pe_int (pe_op op_mul pe_int (pv 1))) pa_nil))))
      (pss_cons (ps_setLc (i := 3) (own := [("_law_k", 4)]) (g := gName 4) (tt := tYes) (by rfl) sc.nd rfl rfl (sw_true rfl rfl rfl (by decide +kernel)) (pi_range1 (by rfl) B_range (pa_cons pe_int pa_nil)) (blkOk_by (own := [("_law_k", 4)]) (N := n__law_rules) (sc := defScope s__law_rules) (by decide +kernel)) (fun _ _ _ _ _ => (pg_name (i := 4) sc.nd rfl (Or.inl rfl))) (fun _ _ _ _ _ => pts_nil) (fun _ _ _ _ _ => (pe_fn C__law_name (hr.mono (by decide)) (pa_cons (pv 4) (pa_cons (pe_ix (k_ix K) (pv 2) pe_int (fun _ _ => rfl)) (pa_cons pe_bl pa_nil))))))
      (pss_cons (ps_set (i := 5) sc.nd rfl (Or.inr rfl) (pe_op op_cat (pv 3) (pe_lc (own := [("_law_k", 4)]) (g := gName 4) (tt := tYes) (by rfl) sc.nd (pi_range1 (by rfl) B_range (pa_cons pe_int pa_nil)) (blkOk_by (own := [("_law_k", 4)]) (N := n__law_rules) (sc := defScope s__law_rules) (by decide +kernel)) (fun _ _ _ _ _ => (pg_name (i := 4) sc.nd rfl (Or.inl rfl))) (fun _ _ _ _ _ => pts_nil) (fun _ _ _ _ _ => (pe_fn C__law_name (hr.mono (by decide)) (pa_cons (pv 4) (pa_cons (pe_op op_fdiv (pe_callTy call_int1 (by rfl) B_int (by decide +kernel) (pa_cons (pe_ix (k_ix K) (pv 2) pe_int (fun _ _ => rfl)) pa_nil)) pe_int) (pa_cons pe_bl pa_nil))))))))
      (pss_cons (ps_if (pt_cmpR op_eq (pe_op op_mod (pe_callTy call_int1 (by rfl) B_int (by decide +kernel) (pa_cons (pe_ix (k_ix K) (pv 2) pe_int (fun _ _ => rfl)) pa_nil)) pe_int) pe_int (nomark _))
      (pss_cons (ps_asg (pe_op op_add_str pe_str (pe_ix (k_ix K) (pv 3) pe_int (fun _ _ => rfl))) (pg_sub (pv 3) pe_int set_list))
      (pss_one (ps_set (i := 5) sc.nd rfl (Or.inr rfl) (pe_op op_cat (pv 5) (pe_lst (pa_cons (pe_ix (k_ix K) (pv 3) pe_int (fun _ _ => rfl)) (pa_cons (pe_op op_add_str pe_str (pe_ix (k_ix K) (pv 5) pe_int (fun _ _ => rfl))) pa_nil))))))) pss_nil)
      (pss_cons (ps_set (i := 6) sc.nd rfl (Or.inl rfl) (pe_lst pa_nil))
      (pss_cons (ps_for PassesOwn.never rfl (pi_range1 (by rfl) B_range (pa_cons (pe_op op_mod (pe_op op_fdiv (pe_callTy call_int1 (by rfl) B_int (by decide +kernel) (pa_cons (pe_ix (k_ix K) (pv 2) pe_int (fun _ _ => rfl)) pa_nil)) pe_int) (pe_op op_add (pv 1) pe_int)) pa_nil)) (pg_name (i := 4) sc.nd rfl (Or.inl rfl))
      (pss_cons (ps_set (i := 7) sc.nd rfl (Or.inl rfl) (pe_slice (k_slL K) (pv 2) (po_some (pe_op op_add pe_int (pe_op op_mul pe_int (pv 4)))) (po_some (pe_op op_add pe_int (pe_op op_mul pe_int (pv 4))))))
      (pss_cons (ps_set (i := 8) sc.nd rfl (Or.inl rfl) (pe_callTy (k_tuple K) (by rfl) B_tuple (by decide +kernel) (pa_cons (pe_lc (own := [("_law_one", 9)]) (g := gName 9) (tt := tYes) (by rfl) sc.nd (pi_listK K (pe_slice (k_slL K) (pv 7) (po_some pe_int) (po_some (pe_op op_add pe_int (pe_op op_mod (pe_op op_fdiv (pe_callTy call_int1 (by rfl) B_int (by decide +kernel) (pa_cons (pe_ix (k_ix K) (pv 7) pe_int (fun _ _ => rfl)) pa_nil)) pe_int) pe_int))))) (blkOk_by (own := [("_law_one", 9)]) (N := n__law_rules) (sc := defScope s__law_rules) (by decide +kernel)) (fun _ _ _ _ _ => (pg_name (i := 9) sc.nd rfl (Or.inl rfl))) (fun _ _ _ _ _ => pts_nil) (fun _ _ _ _ _ => (pe_ix (k_ix K) (pv 5) (pe_op op_mod (pe_callTy call_int1 (by rfl) B_int (by decide +kernel) (pa_cons (pv 9) pa_nil)) (pe_callB (k_len K) (by rfl) B_len PySem.boot_len (pa_cons (pv 5) pa_nil))) (fun _ _ => rfl)))) pa_nil)))
      (pss_cons (ps_expr (pe_app K (pv 6) (pa_cons (pe_tup (pa_cons (pe_ix (k_ix K) (pv 3) (pe_op op_mod (pe_callTy call_int1 (by rfl) B_int (by decide +kernel) (pa_cons (pe_ix (k_ix K) (pv 7) pe_int (fun _ _ => rfl)) pa_nil)) pe_int) (fun _ _ => rfl)) (pa_cons (pv 8) pa_nil))) pa_nil)))
      (pss_one (ps_if (pt_cmpR op_eq (pe_op op_mod (pe_callTy call_int1 (by rfl) B_int (by decide +kernel) (pa_cons (pe_ix (k_ix K) (pv 7) pe_int (fun _ _ => rfl)) pa_nil)) pe_int) pe_int (nomark _))
      (pss_one (ps_expr (pe_app K (pv 6) (pa_cons (pe_ix (k_ix K) (pv 6) (pe_op op_mod (pe_callTy call_int1 (by rfl) B_int (by decide +kernel) (pa_cons (pe_ix (k_ix K) (pv 7) pe_int (fun _ _ => rfl)) pa_nil)) (pe_callB (k_len K) (by rfl) B_len PySem.boot_len (pa_cons (pv 6) pa_nil))) (fun _ _ => rfl)) pa_nil)))) pss_nil))))))
      (pss_one (ps_ret (pv 6))))))))), ?_⟩
  obtain ⟨⟨cellhere1, most2, _⟩, r0, ⟨v_cellhere1, _, rfl, w_cellhere1, ⟨v_most2, _, rfl, w_most2, rfl⟩⟩, h, k⟩ := h
  have hD : RtOk (nl K (rP K rS (rT K rS))) H r0 { nx := fun _ H' => Q .non H', rt := Q } := fun v H' ⟨as, s, n, z⟩ => k v H' as s n z
  refine Sv.run (K := K) (G := ([fc rI cellhere1, fc rI most2, none, none, none, none, none, none, none, none] : Cells K)) ?_ (.fz w_cellhere1 (.fz w_most2 (.skip (.skip (.skip (.skip (.skip (.skip (.skip (.skip .nil))))))))))
  have h : m__law_rules cellhere1 most2 = .ok r0 := h
  unfold m__law_rules at h
  obtain ⟨t3, e_t3, h⟩ := mb_ok h
  refine q_asg (R := (nl K rI)) (b := t3) (b' := t3) ?_ rfl ?_
  · walk_at "ev"
  obtain ⟨zs7, e_zs7, h⟩ := mb_ok h
  refine q_asg (R := (nl K rS)) (b := zs7) (b' := zs7) ?_ rfl ?_
  · refine nw_lcM (G' := ([fc rI cellhere1, fc rI most2, some (.ow (nl K rI) t3), none, none, none, none, none, none, none] : Cells K)) (r := rI) (p := (fun (y4 : Int) => .ok true)) (f := (fun (y4 : Int) => mb (oM (atI t3 (0 : Int))) fun t5 => mb (m__law_name y4 t5 true) fun t6 => .ok t6)) ?_ (by first | assumption | (rw [ups_len]; omega) | (rw [List.length_map, List.length_range]; omega) | (simp only [List.length_cons, List.length_nil]; omega)) (fun y4 => ⟨_, tb_name, fun _ e => ?_, fun _ e => ?_⟩) e_zs7
    · refine wk_rng1 ?_ ?_
      · walk_at "ev"
      · first | assumption | omega
    · cases e
      exact et_yes
    · obtain ⟨t5, e_t5, e⟩ := mb_ok e; have e_t5 := oM_ok e_t5
      obtain ⟨t6, e_t6, e⟩ := mb_ok e
      cases e
      walk_at "ev"
  obtain ⟨zs11, e_zs11, h⟩ := mb_ok h
  obtain ⟨_, e_u12, h⟩ := mb_ok h; have e_u12 := of_decide_eq_true (chk_ok e_u12)
  obtain ⟨signs13, e_signs13, h⟩ := mb_ok h; have e_signs13 := ok_inj e_signs13
  refine q_asg (R := (nl K rS)) (b := zs7 ++ zs11) (b' := signs13) ?_ e_signs13 ?_
  · refine a_cat ?_ inferInstance inferInstance ?_ (by first | assumption | omega)
    · walk_at "ev"
    · refine Nw.lst ?_
      refine nw_lcM (G' := ([fc rI cellhere1, fc rI most2, some (.ow (nl K rI) t3), some (.ow (nl K rS) zs7), none, none, none, none, none, none] : Cells K)) (r := rI) (p := (fun (y8 : Int) => .ok true)) (f := (fun (y8 : Int) => mb (oM (atI t3 (0 : Int))) fun t9 => mb (m__law_name y8 (t9 / (12 : Int)) false) fun t10 => .ok t10)) ?_ (by first | assumption | (rw [ups_len]; omega) | (rw [List.length_map, List.length_range]; omega) | (simp only [List.length_cons, List.length_nil]; omega)) (fun y8 => ⟨_, tb_name, fun _ e => ?_, fun _ e => ?_⟩) e_zs11
      · refine wk_rng1 ?_ ?_
        · walk_at "ev"
        · first | assumption | omega
      · cases e
        exact et_yes
      · obtain ⟨t9, e_t9, e⟩ := mb_ok e; have e_t9 := oM_ok e_t9
        obtain ⟨t10, e_t10, e⟩ := mb_ok e
        cases e
        walk_at "ev"
  obtain ⟨t14, e_t14, h⟩ := mb_ok h; have e_t14 := oM_ok e_t14
  obtain ⟨s15, h1, h⟩ := mb_ok h
  refine cutK ([fc rI cellhere1, fc rI most2, some (.ow (nl K rI) t3), some (.ow (nl K rS) s15.1), none, some (.ow (nl K rS) s15.2), none, none, none, none] : Cells K) (fun K1 => ?_) ?_
  · have h := h1; clear h1; have hD := K1
    refine q_if (c := (decide ((t14 % (2 : Int)) = (1 : Int)))) ?_ ?_ ?_
    · walk_at "ev"
    · intro hc; have h := bif_t h hc
      obtain ⟨t16, e_t16, h⟩ := mb_ok h; have e_t16 := oM_ok e_t16
      obtain ⟨_, e_u17, h⟩ := mb_ok h; have e_u17 := of_decide_eq_true (chk_ok e_u17)
      obtain ⟨j18, e_j18, h⟩ := mb_ok h; have e_j18 := oM_ok e_j18
      obtain ⟨heads19, e_heads19, h⟩ := mb_ok h; have e_heads19 := ok_inj e_heads19
      refine q_lset (xs := zs7) (x := ("x." : Str) ++ t16) (by rfl) ?_ ?_ e_j18 ?_
      · walk_at "ev"
      · walk_at "ev"
      rw [e_heads19]
      obtain ⟨t20, e_t20, h⟩ := mb_ok h; have e_t20 := oM_ok e_t20
      obtain ⟨t21, e_t21, h⟩ := mb_ok h; have e_t21 := oM_ok e_t21
      obtain ⟨_, e_u22, h⟩ := mb_ok h; have e_u22 := of_decide_eq_true (chk_ok e_u22)
      obtain ⟨_, e_u23, h⟩ := mb_ok h; have e_u23 := of_decide_eq_true (chk_ok e_u23)
      obtain ⟨signs24, e_signs24, h⟩ := mb_ok h; have e_signs24 := ok_inj e_signs24
      refine l_asg (R := (nl K rS)) (b := signs13 ++ ([t20, ("x." : Str) ++ t21])) (b' := signs24) ?_ e_signs24 ?_
      · walk_at "ev"
      cases h
      exact fun σ H hv => hD σ H (hv.less (.keep (.keep (.keep (.keep (.keep (.keep (.keep (.keep (.keep (.keep .nil)))))))))))
    · intro hc; have h := bif_f h hc
      cases h
      exact fun σ H hv => hD σ H (hv.less (.keep (.keep (.keep (.keep (.keep (.keep (.keep (.keep (.keep (.keep .nil)))))))))))
  obtain ⟨ruleshere25, e_ruleshere25, h⟩ := mb_ok h; have e_ruleshere25 := ok_inj e_ruleshere25
  refine q_asg (R := (nl K (rP K rS (rT K rS)))) (b := ([] : (List (Str × (List Str))))) (b' := ruleshere25) ?_ e_ruleshere25 ?_
  · walk_at "ev"
  obtain ⟨_, e_u26, h⟩ := mb_ok h; have e_u26 := of_decide_eq_true (chk_ok e_u26)
  obtain ⟨_, e_u27, h⟩ := mb_ok h; have e_u27 := of_decide_eq_true (chk_ok e_u27)
  obtain ⟨s30, hm, h⟩ := mb_ok h
  refine q_forM (r := rI) (f := (fun (s28 : (List (Str × (List Str)))) (x29 : Int) => mb (.ok (cut t3 (some ((2 : Int) + ((4 : Int) * x29))) (some ((6 : Int) + ((4 : Int) * x29))))) fun d31 => mb (oM (atI d31 (0 : Int))) fun t32 => mb (chk (decide ((cut d31 (some (1 : Int)) (some ((1 : Int) + ((t32 / (4 : Int)) % (4 : Int))))).length ≤ 100000))) fun _ => mb (mlc (fun (y33 : Int) => .ok true) (fun (y33 : Int) => mb (chk (decide (0 < (s15.2.length : Int)))) fun _ => mb (oM (atI s15.2 (y33 % (s15.2.length : Int)))) fun t35 => .ok t35) (cut d31 (some (1 : Int)) (some ((1 : Int) + ((t32 / (4 : Int)) % (4 : Int)))))) fun zs37 => mb (oM (atI s15.1 (t32 % (4 : Int)))) fun t38 => mb (chk (decide (s28.length < 100000))) fun _ => mb (.ok (s28 ++ [(t38, zs37)])) fun ruleshere40 => mb (oM (atI d31 (3 : Int))) fun t41 => bif (decide ((t41 % (5 : Int)) = (0 : Int))) then mb (oM (atI d31 (2 : Int))) fun t42 => mb (chk (decide (0 < (ruleshere40.length : Int)))) fun _ => mb (oM (atI ruleshere40 (t42 % (ruleshere40.length : Int)))) fun t44 => mb (chk (decide (ruleshere40.length < 100000))) fun _ => mb (.ok (ruleshere40 ++ [t44])) fun ruleshere46 => .ok ruleshere46 else .ok ruleshere40)) (s0 := ruleshere25) (fun (s28 : (List (Str × (List Str)))) => ([fc rI cellhere1, fc rI most2, some (.ow (nl K rI) t3), some (.ow (nl K rS) s15.1), none, some (.ow (nl K rS) s15.2), some (.ow (nl K (rP K rS (rT K rS))) s28), none, none, none] : Cells K)) hm ?_ (.keep (.keep (.keep (.keep (.keep (.keep (.keep (.keep (.keep (.keep .nil)))))))))) (fun H0' e0 x29 s28 s' h => ⟨_, tg_name, ?_⟩) ?_
  · refine wk_rng1 ?_ ?_
    · walk_at "ev"
    · first | assumption | omega
  · have hD : Nx H0' ((fun (s28 : (List (Str × (List Str)))) => ([fc rI cellhere1, fc rI most2, some (.ow (nl K rI) t3), some (.ow (nl K rS) s15.1), none, some (.ow (nl K rS) s15.2), some (.ow (nl K (rP K rS (rT K rS))) s28), none, none, none] : Cells K)) s') (Have H0' ((fun (s28 : (List (Str × (List Str)))) => ([fc rI cellhere1, fc rI most2, some (.ow (nl K rI) t3), some (.ow (nl K rS) s15.1), none, some (.ow (nl K rS) s15.2), some (.ow (nl K (rP K rS (rT K rS))) s28), none, none, none] : Cells K)) s')) := fun _ _ z => z
    obtain ⟨d31, e_d31, h⟩ := mb_ok h; have e_d31 := ok_inj e_d31
    refine q_asg (R := (nl K rI)) (b := cut t3 (some ((2 : Int) + ((4 : Int) * x29))) (some ((6 : Int) + ((4 : Int) * x29)))) (b' := d31) ?_ e_d31 ?_
    · walk_at "ev"
    obtain ⟨t32, e_t32, h⟩ := mb_ok h; have e_t32 := oM_ok e_t32
    obtain ⟨_, e_u36, h⟩ := mb_ok h; have e_u36 := of_decide_eq_true (chk_ok e_u36)
    obtain ⟨zs37, e_zs37, h⟩ := mb_ok h
    refine q_set (r := (rT K rS)) (b := zs37) (b' := zs37) ?_ rfl ?_
    · refine a_tupC (R := rL _) ?_ inferInstance inferInstance inferInstance
      refine Nw.lst ?_
      refine nw_lcM (G' := ([fc rI cellhere1, fc rI most2, some (.ow (nl K rI) t3), some (.ow (nl K rS) s15.1), fc rI x29, some (.ow (nl K rS) s15.2), some (.ow (nl K (rP K rS (rT K rS))) s28), some (.ow (nl K rI) d31), none, none] : Cells K)) (r := rI) (p := (fun (y33 : Int) => .ok true)) (f := (fun (y33 : Int) => mb (chk (decide (0 < (s15.2.length : Int)))) fun _ => mb (oM (atI s15.2 (y33 % (s15.2.length : Int)))) fun t35 => .ok t35)) ?_ (by first | assumption | (rw [ups_len]; omega) | (rw [List.length_map, List.length_range]; omega) | (simp only [List.length_cons, List.length_nil]; omega)) (fun y33 => ⟨_, tb_name, fun _ e => ?_, fun _ e => ?_⟩) e_zs37
      · refine wk_new ?_
        walk_at "ev"
      · cases e
        exact et_yes
      · obtain ⟨_, e_u34, e⟩ := mb_ok e; have e_u34 := of_decide_eq_true (chk_ok e_u34)
        obtain ⟨t35, e_t35, e⟩ := mb_ok e; have e_t35 := oM_ok e_t35
        cases e
        walk_at "ev"
    obtain ⟨t38, e_t38, h⟩ := mb_ok h; have e_t38 := oM_ok e_t38
    obtain ⟨_, e_u39, h⟩ := mb_ok h; have e_u39 := of_decide_eq_true (chk_ok e_u39)
    obtain ⟨ruleshere40, e_ruleshere40, h⟩ := mb_ok h; have e_ruleshere40 := ok_inj e_ruleshere40
    refine q_app (x := (t38, zs37)) (xs := s28) (by rfl) (x' := (t38, zs37)) ?_ rfl (by assumption) ?_
    · walk_at "ev"
    rw [e_ruleshere40]
    obtain ⟨t41, e_t41, h⟩ := mb_ok h; have e_t41 := oM_ok e_t41
    refine l_if (c := (decide ((t41 % (5 : Int)) = (0 : Int)))) ?_ ?_ ?_
    · walk_at "ev"
    · intro hc; have h := bif_t h hc
      obtain ⟨t42, e_t42, h⟩ := mb_ok h; have e_t42 := oM_ok e_t42
      obtain ⟨_, e_u43, h⟩ := mb_ok h; have e_u43 := of_decide_eq_true (chk_ok e_u43)
      obtain ⟨t44, e_t44, h⟩ := mb_ok h; have e_t44 := oM_ok e_t44
      obtain ⟨_, e_u45, h⟩ := mb_ok h; have e_u45 := of_decide_eq_true (chk_ok e_u45)
      obtain ⟨ruleshere46, e_ruleshere46, h⟩ := mb_ok h; have e_ruleshere46 := ok_inj e_ruleshere46
      refine l_app (x := t44) (xs := ruleshere40) (by rfl) (x' := t44) ?_ rfl (by assumption) ?_
      · walk_at "ev"
      rw [e_ruleshere46]
      cases h
      exact fun σ H hv => hD σ H (hv.less (.keep (.keep (.keep (.keep (.drop (.keep (.keep (.drop (.drop (.keep .nil)))))))))))
    · intro hc; have h := bif_f h hc
      cases h
      exact fun σ H hv => hD σ H (hv.less (.keep (.keep (.keep (.keep (.drop (.keep (.keep (.drop (.drop (.keep .nil)))))))))))
  cases h
  exact r_retO (i := 6) hD (by rfl)
/-! ### _law_grouped -/
abbrev s__law_grouped : Stmt := topS 23
abbrev n__law_grouped : List Str := ["_law_rules_here", "_law_heads", "_law_head", "_law_side", "_law_found", "_law_name_here"]
abbrev p__law_grouped : List Str := ["_law_rules_here"]
theorem sc__law_grouped : FnScope n__law_grouped p__law_grouped (defScope s__law_grouped) := ⟨rfl, rfl, rfl, by decide +kernel, rfl, by decide +kernel, by decide +kernel⟩
abbrev sp__law_grouped (K : PySem.W.Frag) : Sp := spMN (aC (rEi K (rP K rS (rT K rS))) aN) (nl K (rP K rS (rT K rS))) fun a => m__law_grouped a.1
theorem c__law_grouped {P : Program} {w : World} {K : PySem.W.Frag} {mg : Str → Option Value} {base : Heap} (F : Df K mg "_law_grouped" s__law_grouped) : Cal P w K mg base CX0 "_law_grouped" 1 p__law_grouped (sp__law_grouped K) := by
  refine cal_of F sc__law_grouped (fun vs H Q E ⟨a, b, h, _⟩ => LenA.len h) (fun _ _ _ _ _ _ us hl => match us, hl with | [_], _ => rfl) fun cdv f A outer s H vs Q E hr h => ?_
  have sc := sc__law_grouped
  refine ⟨_, (pss_cons (ps_set (i := 1) sc.nd rfl (Or.inl rfl) (pe_lst pa_nil))
      (pss_cons (ps_for PassesOwn.never rfl (pi_eiK K (pv 0)) (pg_tupK K rfl (pgs_cons (pg_name (i := 2) sc.nd rfl (Or.inl rfl)) (pgs_cons (pg_name (i := 3) sc.nd rfl (Or.inl rfl)) pgs_nil)))
      (pss_one (ps_if (pt_cmpR (k_nin K) (pv 2) (pv 1) rfl)
      (pss_one (ps_expr (pe_app K (pv 1) (pa_cons (pv 2) pa_nil)))) pss_nil)))
      (pss_cons (ps_set (i := 4) sc.nd rfl (Or.inl rfl) (pe_lst pa_nil))
      (pss_cons (ps_for PassesOwn.never rfl (pi_listK K (pv 1)) (pg_name (i := 5) sc.nd rfl (Or.inl rfl))
      (pss_one (ps_for PassesOwn.never rfl (pi_eiK K (pv 0)) (pg_tupK K rfl (pgs_cons (pg_name (i := 2) sc.nd rfl (Or.inl rfl)) (pgs_cons (pg_name (i := 3) sc.nd rfl (Or.inl rfl)) pgs_nil)))
      (pss_one (ps_if (PW.pt (pw_and (pt_cmpR op_eq (pv 2) (pv 5) (nomark _)) (pw_and1 (pt_cmpR (k_ninD K (Nat.lt_of_le_of_lt (Nat.add_le_add_left (by decide) _) hr.un)) (pe_tup (pa_cons (pv 2) (pa_cons (pv 3) pa_nil))) (pv 4) rfl))))
      (pss_one (ps_expr (pe_app K (pv 4) (pa_cons (pe_tup (pa_cons (pv 2) (pa_cons (pv 3) pa_nil))) pa_nil)))) pss_nil)))))
      (pss_one (ps_ret (pv 4))))))), ?_⟩
  obtain ⟨⟨ruleshere1, _⟩, r0, ⟨v_ruleshere1, _, rfl, w_ruleshere1, rfl⟩, h, k⟩ := h
  have hD : RtOk (nl K (rP K rS (rT K rS))) H r0 { nx := fun _ H' => Q .non H', rt := Q } := fun v H' ⟨as, s, n, z⟩ => k v H' as s n z
  refine Sv.run (K := K) (G := ([rc (rEi K (rP K rS (rT K rS))) ruleshere1, none, none, none, none, none] : Cells K)) ?_ (.ro w_ruleshere1 (.skip (.skip (.skip (.skip (.skip .nil))))))
  have h : m__law_grouped ruleshere1 = .ok r0 := h
  unfold m__law_grouped at h
  obtain ⟨heads2, e_heads2, h⟩ := mb_ok h; have e_heads2 := ok_inj e_heads2
  refine q_asg (R := (nl K rS)) (b := ([] : (List Str))) (b' := heads2) ?_ e_heads2 ?_
  · walk_at "ev"
  obtain ⟨s5, hm, h⟩ := mb_ok h
  refine q_forM (r := (rP K rS (rT K rS))) (f := (fun (s3 : (List Str)) (x4 : (Str × (List Str))) => bif (!(decide (x4.1 ∈ s3))) then mb (chk (decide (s3.length < 100000))) fun _ => mb (.ok (s3 ++ [x4.1])) fun heads7 => .ok heads7 else .ok s3)) (s0 := heads2) (fun (s3 : (List Str)) => ([rc (rEi K (rP K rS (rT K rS))) ruleshere1, some (.ow (nl K rS) s3), none, none, none, none] : Cells K)) hm ?_ (.keep (.keep (.keep (.keep (.keep (.keep .nil)))))) (fun H0' e0 x4 s3 s' h => ⟨_, tg_pair, ?_⟩) ?_
  · exact wk_ei (by rfl)
  · have hD : Nx H0' ((fun (s3 : (List Str)) => ([rc (rEi K (rP K rS (rT K rS))) ruleshere1, some (.ow (nl K rS) s3), none, none, none, none] : Cells K)) s') (Have H0' ((fun (s3 : (List Str)) => ([rc (rEi K (rP K rS (rT K rS))) ruleshere1, some (.ow (nl K rS) s3), none, none, none, none] : Cells K)) s')) := fun _ _ z => z
    refine l_if (c := (!(decide (x4.1 ∈ s3)))) ?_ ?_ ?_
    · walk_at "ev"
    · intro hc; have h := bif_t h hc
      obtain ⟨_, e_u6, h⟩ := mb_ok h; have e_u6 := of_decide_eq_true (chk_ok e_u6)
      obtain ⟨heads7, e_heads7, h⟩ := mb_ok h; have e_heads7 := ok_inj e_heads7
      refine l_app (x := x4.1) (xs := s3) (by rfl) (x' := x4.1) ?_ rfl (by assumption) ?_
      · walk_at "ev"
      rw [e_heads7]
      cases h
      exact fun σ H hv => hD σ H (hv.less (.keep (.keep (.drop (.drop (.keep (.keep .nil)))))))
    · intro hc; have h := bif_f h hc
      cases h
      exact fun σ H hv => hD σ H (hv.less (.keep (.keep (.drop (.drop (.keep (.keep .nil)))))))
  obtain ⟨found8, e_found8, h⟩ := mb_ok h; have e_found8 := ok_inj e_found8
  refine q_asg (R := (nl K (rP K rS (rT K rS)))) (b := ([] : (List (Str × (List Str))))) (b' := found8) ?_ e_found8 ?_
  · walk_at "ev"
  obtain ⟨s11, hm, h⟩ := mb_ok h
  refine q_forM (r := rS) (f := (fun (s9 : (List (Str × (List Str)))) (x10 : Str) => mb (mfor (fun (s12 : (List (Str × (List Str)))) (x13 : (Str × (List Str))) => bif ((decide (x13.1 = x10)) && (!(memB (x13.1, x13.2) s12))) then mb (chk (decide (s12.length < 100000))) fun _ => mb (.ok (s12 ++ [(x13.1, x13.2)])) fun found16 => .ok found16 else .ok s12) s9 ruleshere1) fun s14 => .ok s14)) (s0 := found8) (fun (s9 : (List (Str × (List Str)))) => ([rc (rEi K (rP K rS (rT K rS))) ruleshere1, rc (rL rS) s5, none, none, some (.ow (nl K (rP K rS (rT K rS))) s9), none] : Cells K)) hm ?_ (.keep (.keep (.keep (.keep (.keep (.keep .nil)))))) (fun H0' e0 x10 s9 s' h => ⟨_, tg_name, ?_⟩) ?_
  · exact wk_own (i := 1) (by rfl)
  · have hD : Nx H0' ((fun (s9 : (List (Str × (List Str)))) => ([rc (rEi K (rP K rS (rT K rS))) ruleshere1, rc (rL rS) s5, none, none, some (.ow (nl K (rP K rS (rT K rS))) s9), none] : Cells K)) s') (Have H0' ((fun (s9 : (List (Str × (List Str)))) => ([rc (rEi K (rP K rS (rT K rS))) ruleshere1, rc (rL rS) s5, none, none, some (.ow (nl K (rP K rS (rT K rS))) s9), none] : Cells K)) s')) := fun _ _ z => z
    obtain ⟨s14, hm, h⟩ := mb_ok h
    refine l_forM (r := (rP K rS (rT K rS))) (f := (fun (s12 : (List (Str × (List Str)))) (x13 : (Str × (List Str))) => bif ((decide (x13.1 = x10)) && (!(memB (x13.1, x13.2) s12))) then mb (chk (decide (s12.length < 100000))) fun _ => mb (.ok (s12 ++ [(x13.1, x13.2)])) fun found16 => .ok found16 else .ok s12)) (s0 := s9) (fun (s12 : (List (Str × (List Str)))) => ([rc (rEi K (rP K rS (rT K rS))) ruleshere1, rc (rL rS) s5, none, none, some (.ow (nl K (rP K rS (rT K rS))) s12), fc rS x10] : Cells K)) hm ?_ (.keep (.keep (.keep (.keep (.keep (.keep .nil)))))) (fun H0' e0 x13 s12 s' h => ⟨_, tg_pair, ?_⟩) ?_
    · exact wk_ei (by rfl)
    · have hD : Nx H0' ((fun (s12 : (List (Str × (List Str)))) => ([rc (rEi K (rP K rS (rT K rS))) ruleshere1, rc (rL rS) s5, none, none, some (.ow (nl K (rP K rS (rT K rS))) s12), fc rS x10] : Cells K)) s') (Have H0' ((fun (s12 : (List (Str × (List Str)))) => ([rc (rEi K (rP K rS (rT K rS))) ruleshere1, rc (rL rS) s5, none, none, some (.ow (nl K (rP K rS (rT K rS))) s12), fc rS x10] : Cells K)) s')) := fun _ _ z => z
      refine l_if (c := ((decide (x13.1 = x10)) && (!(memB (x13.1, x13.2) s12)))) ?_ ?_ ?_
      · walk_at "ev"
      · intro hc; have h := bif_t h hc
        obtain ⟨_, e_u15, h⟩ := mb_ok h; have e_u15 := of_decide_eq_true (chk_ok e_u15)
        obtain ⟨found16, e_found16, h⟩ := mb_ok h; have e_found16 := ok_inj e_found16
        refine l_app (x := (x13.1, x13.2)) (xs := s12) (by rfl) (x' := (x13.1, x13.2)) ?_ rfl (by assumption) ?_
        · walk_at "ev"
        rw [e_found16]
        cases h
        exact fun σ H hv => hD σ H (hv.less (.keep (.keep (.drop (.drop (.keep (.keep .nil)))))))
      · intro hc; have h := bif_f h hc
        cases h
        exact fun σ H hv => hD σ H (hv.less (.keep (.keep (.drop (.drop (.keep (.keep .nil)))))))
    cases h
    exact fun σ H hv => hD σ H (hv.less (.keep (.keep (.keep (.keep (.keep (.drop .nil)))))))
  cases h
  exact r_retO (i := 4) hD (by rfl)
/-! ### _law_same -/
abbrev s__law_same : Stmt := topS 24
abbrev n__law_same : List Str := ["_law_told", "_law_due", "_law_sign"]
abbrev p__law_same : List Str := ["_law_told", "_law_due"]
theorem sc__law_same : FnScope n__law_same p__law_same (defScope s__law_same) := ⟨rfl, rfl, rfl, by decide +kernel, rfl, by decide +kernel, by decide +kernel⟩
abbrev sp__law_same (K : PySem.W.Frag) : Sp := spM (aC (rP K rS (rT K rS)) (aC (rP K rS (rT K rS)) aN)) rB fun a => m__law_same a.1 a.2.1
theorem c__law_same {P : Program} {w : World} {K : PySem.W.Frag} {mg : Str → Option Value} {base : Heap} (F : Df K mg "_law_same" s__law_same) (B_tuple : mg "tuple" = none) (B_isinstance : mg "isinstance" = none) (B_len : mg "len" = none) (B_str : mg "str" = none) : Cal P w K mg base CX0 "_law_same" 1 p__law_same (sp__law_same K) := by
  refine cal_of F sc__law_same (fun vs H Q E ⟨a, b, h, _⟩ => LenA.len h) (fun _ _ _ _ _ _ us hl => match us, hl with | [_, _], _ => rfl) fun cdv f A outer s H vs Q E hr h => ?_
  have sc := sc__law_same
  refine ⟨_, (pss_cons (ps_if (PW.pt (pw_or (pt_not (pt_val (pe_callB (k_isi K) (by rfl) B_isinstance (by decide +kernel) (pa_cons (pv 0) (pa_cons (pe_bltn (v := .ty "tuple") (u := .type "tuple") (by rfl) B_tuple (by decide +kernel) rfl) pa_nil))))) (pw_or (pt_cmpR op_ne (pe_callB (k_len K) (by rfl) B_len PySem.boot_len (pa_cons (pv 0) pa_nil)) pe_int (nomark _)) (pw_or1 (pt_not (pt_val (pe_callB (k_isi K) (by rfl) B_isinstance (by decide +kernel) (pa_cons (pe_ix (k_ix K) (pv 0) pe_int (fun _ _ => rfl)) (pa_cons (pe_bltn (v := .ty "str") (u := .type "str") (by rfl) B_str (by decide +kernel) rfl) pa_nil)))))))))
      (pss_one (ps_ret pe_bl)) pss_nil)
      (pss_cons (ps_if (pt_not (pt_val (pe_callB (k_isi K) (by rfl) B_isinstance (by decide +kernel) (pa_cons (pe_ix (k_ix K) (pv 0) pe_int (fun _ _ => rfl)) (pa_cons (pe_bltn (v := .ty "tuple") (u := .type "tuple") (by rfl) B_tuple (by decide +kernel) rfl) pa_nil)))))
      (pss_one (ps_ret pe_bl)) pss_nil)
      (pss_cons (ps_for PassesOwn.never rfl (pi_tupK K (pe_ix (k_ix K) (pv 0) pe_int (fun _ _ => rfl))) (pg_name (i := 2) sc.nd rfl (Or.inl rfl))
      (pss_one (ps_if (pt_not (pt_val (pe_callB (k_isi K) (by rfl) B_isinstance (by decide +kernel) (pa_cons (pv 2) (pa_cons (pe_bltn (v := .ty "str") (u := .type "str") (by rfl) B_str (by decide +kernel) rfl) pa_nil)))))
      (pss_one (ps_ret pe_bl)) pss_nil)))
      (pss_one (ps_ret (pe_cmpR (k_eqD K (Nat.lt_of_le_of_lt (Nat.add_le_add_left (by decide) _) hr.un)) (pv 0) (pv 1) (nomark _))))))), ?_⟩
  obtain ⟨⟨told1, due2, _⟩, r0, ⟨v_told1, _, rfl, w_told1, ⟨v_due2, _, rfl, w_due2, rfl⟩⟩, h, k⟩ := h
  have hD : RtOk (fz K rB) H r0 { nx := fun _ H' => Q .non H', rt := Q } := fun v H' ⟨as, s, n, z⟩ => k v H' s z.2.now
  refine Sv.run (K := K) (G := ([fc (rP K rS (rT K rS)) told1, fc (rP K rS (rT K rS)) due2, none] : Cells K)) ?_ (.fz w_told1 (.fz w_due2 (.skip .nil)))
  have h : m__law_same told1 due2 = .ok r0 := h
  unfold m__law_same at h
  refine q_if (c := ((!true) || ((!decide (((2 : Nat) : Int) = (2 : Int))) || (!true)))) ?_ ?_ ?_
  · walk_at "ev"
  · intro hc; have h := bif_t h hc
    cases h
    refine r_ret hD ?_
    walk_at "ev"
  · intro hc; have h := bif_f h hc
    refine q_next ?_
    refine q_if (c := (!true)) ?_ ?_ ?_
    · walk_at "ev"
    · intro hc; have h := bif_t h hc
      cases h
      refine r_ret hD ?_
      walk_at "ev"
    · intro hc; have h := bif_f h hc
      refine q_next ?_
      obtain ⟨o5, hm, h⟩ := mb_ok h
      refine q_forF (r := rS) (R := (fz K rB)) (f := (fun (s3 : Unit) (x4 : Str) => bif (!true) then .ok (.rt false) else .ok (.nx ()))) (s0 := ()) (o := o5) (fun (s3 : Unit) => ([fc (rP K rS (rT K rS)) told1, fc (rP K rS (rT K rS)) due2, none] : Cells K)) hm ?_ (.keep (.keep (.keep .nil))) (fun s3 e => ?_) (fun x e => ?_) (fun H0' D' e0 x4 s3 o' h hD => ⟨_, tg_name, ?_⟩)
      · refine wk_tup ?_
        walk_at "ev"
      · subst e; have h := go_nx h
        cases h
        refine r_ret hD ?_
        walk_at "ev"
      · subst e; have h := go_rt h; cases h; exact hD
      · refine l_if (c := (!true)) ?_ ?_ ?_
        · walk_at "ev"
        · intro hc; have h := bif_t h hc
          cases h
          refine r_ret hD ?_
          walk_at "ev"
        · intro hc; have h := bif_f h hc
          cases h
          exact fun σ H hv => hD σ H (hv.less (.keep (.keep (.drop .nil))))
/-! ### _law_all_same -/
abbrev s__law_all_same : Stmt := topS 25
abbrev n__law_all_same : List Str := ["_law_told", "_law_due", "_law_k"]
abbrev p__law_all_same : List Str := ["_law_told", "_law_due"]
theorem sc__law_all_same : FnScope n__law_all_same p__law_all_same (defScope s__law_all_same) := ⟨rfl, rfl, rfl, by decide +kernel, rfl, by decide +kernel, by decide +kernel⟩
abbrev sp__law_all_same (K : PySem.W.Frag) : Sp := spM (aC (rEi K (rP K rS (rT K rS))) (aC (rL (rP K rS (rT K rS))) aN)) rB fun a => m__law_all_same a.1 a.2.1
theorem c__law_all_same {P : Program} {w : World} {K : PySem.W.Frag} {mg : Str → Option Value} {base : Heap} (F : Df K mg "_law_all_same" s__law_all_same) (B_len : mg "len" = none) (B_range : mg "range" = none) (C__law_same : Cal P w K mg base CX0 "_law_same" 1 p__law_same (sp__law_same K)) : Cal P w K mg base CX0 "_law_all_same" 2 p__law_all_same (sp__law_all_same K) := by
  refine cal_of F sc__law_all_same (fun vs H Q E ⟨a, b, h, _⟩ => LenA.len h) (fun _ _ _ _ _ _ us hl => match us, hl with | [_, _], _ => rfl) fun cdv f A outer s H vs Q E hr h => ?_
  have sc := sc__law_all_same
  refine ⟨_, (pss_cons (ps_if (pt_cmpR op_ne (pe_callB (k_len K) (by rfl) B_len PySem.boot_len (pa_cons (pv 0) pa_nil)) (pe_callB (k_len K) (by rfl) B_len PySem.boot_len (pa_cons (pv 1) pa_nil)) (nomark _))
      (pss_one (ps_ret pe_bl)) pss_nil)
      (pss_cons (ps_for PassesOwn.never rfl (pi_range1 (by rfl) B_range (pa_cons (pe_callB (k_len K) (by rfl) B_len PySem.boot_len (pa_cons (pv 1) pa_nil)) pa_nil)) (pg_name (i := 2) sc.nd rfl (Or.inl rfl))
      (pss_one (ps_if (pt_not (pt_val (pe_fn C__law_same (hr.mono (by decide)) (pa_cons (pe_ix (k_ix K) (pv 0) (pv 2) (fun _ _ => rfl)) (pa_cons (pe_ix (k_ix K) (pv 1) (pv 2) (fun _ _ => rfl)) pa_nil)))))
      (pss_one (ps_ret pe_bl)) pss_nil)))
      (pss_one (ps_ret pe_bl)))), ?_⟩
  obtain ⟨⟨told1, due2, _⟩, r0, ⟨v_told1, _, rfl, w_told1, ⟨v_due2, _, rfl, w_due2, rfl⟩⟩, h, k⟩ := h
  have hD : RtOk (fz K rB) H r0 { nx := fun _ H' => Q .non H', rt := Q } := fun v H' ⟨as, s, n, z⟩ => k v H' s z.2.now
  refine Sv.run (K := K) (G := ([rc (rEi K (rP K rS (rT K rS))) told1, rc (rL (rP K rS (rT K rS))) due2, none] : Cells K)) ?_ (.ro w_told1 (.ro w_due2 (.skip .nil)))
  have h : m__law_all_same told1 due2 = .ok r0 := h
  unfold m__law_all_same at h
  refine q_if (c := (!decide ((told1.length : Int) = (due2.length : Int)))) ?_ ?_ ?_
  · walk_at "ev"
  · intro hc; have h := bif_t h hc
    cases h
    refine r_ret hD ?_
    walk_at "ev"
  · intro hc; have h := bif_f h hc
    refine q_next ?_
    obtain ⟨_, e_u3, h⟩ := mb_ok h; have e_u3 := of_decide_eq_true (chk_ok e_u3)
    obtain ⟨o6, hm, h⟩ := mb_ok h
    refine q_forF (r := rI) (R := (fz K rB)) (f := (fun (s4 : Unit) (x5 : Int) => mb (oM (atI told1 x5)) fun t7 => mb (oM (atI due2 x5)) fun t8 => mb (m__law_same t7 t8) fun t9 => bif (!t9) then .ok (.rt false) else .ok (.nx ()))) (s0 := ()) (o := o6) (fun (s4 : Unit) => ([rc (rEi K (rP K rS (rT K rS))) told1, rc (rL (rP K rS (rT K rS))) due2, none] : Cells K)) hm ?_ (.keep (.keep (.keep .nil))) (fun s4 e => ?_) (fun x e => ?_) (fun H0' D' e0 x5 s4 o' h hD => ⟨_, tg_name, ?_⟩)
    · refine wk_rng1 ?_ ?_
      · walk_at "ev"
      · first | assumption | omega
    · subst e; have h := go_nx h
      cases h
      refine r_ret hD ?_
      walk_at "ev"
    · subst e; have h := go_rt h; cases h; exact hD
    · obtain ⟨t7, e_t7, h⟩ := mb_ok h; have e_t7 := oM_ok e_t7
      obtain ⟨t8, e_t8, h⟩ := mb_ok h; have e_t8 := oM_ok e_t8
      obtain ⟨t9, e_t9, h⟩ := mb_ok h
      refine l_if (c := (!t9)) ?_ ?_ ?_
      · walk_at "ev"
      · intro hc; have h := bif_t h hc
        cases h
        refine r_ret hD ?_
        walk_at "ev"
      · intro hc; have h := bif_f h hc
        cases h
        exact fun σ H hv => hD σ H (hv.less (.keep (.keep (.drop .nil))))
/-! ### _law_line -/
abbrev s__law_line : Stmt := topS 26
abbrev n__law_line : List Str := ["_law_one", "_law_line_here", "_law_sign"]
abbrev p__law_line : List Str := ["_law_one"]
theorem sc__law_line : FnScope n__law_line p__law_line (defScope s__law_line) := ⟨rfl, rfl, rfl, by decide +kernel, rfl, by decide +kernel, by decide +kernel⟩
abbrev sp__law_line (K : PySem.W.Frag) : Sp := spM (aC (rP K rS (rT K rS)) aN) rS fun a => m__law_line a.1
theorem c__law_line {P : Program} {w : World} {K : PySem.W.Frag} {mg : Str → Option Value} {base : Heap} (F : Df K mg "_law_line" s__law_line) : Cal P w K mg base CX0 "_law_line" 1 p__law_line (sp__law_line K) := by
  refine cal_of F sc__law_line (fun vs H Q E ⟨a, b, h, _⟩ => LenA.len h) (fun _ _ _ _ _ _ us hl => match us, hl with | [_], _ => rfl) fun cdv f A outer s H vs Q E hr h => ?_
  have sc := sc__law_line
  refine ⟨_, (pss_cons (ps_set (i := 1) sc.nd rfl (Or.inl rfl) (pe_op op_add_str (pe_ix (k_ix K) (pv 0) pe_int (fun _ _ => rfl)) pe_str))
      (pss_cons (ps_for PassesOwn.never rfl (pi_tupK K (pe_ix (k_ix K) (pv 0) pe_int (fun _ _ => rfl))) (pg_name (i := 2) sc.nd rfl (Or.inl rfl))
      (pss_one (ps_set (i := 1) sc.nd rfl (Or.inl rfl) (pe_op op_add_str (pe_op op_add_str (pv 1) pe_str) (pv 2)))))
      (pss_one (ps_ret (pv 1))))), ?_⟩
  obtain ⟨⟨one1, _⟩, r0, ⟨v_one1, _, rfl, w_one1, rfl⟩, h, k⟩ := h
  have hD : RtOk (fz K rS) H r0 { nx := fun _ H' => Q .non H', rt := Q } := fun v H' ⟨as, s, n, z⟩ => k v H' s z.2.now
  refine Sv.run (K := K) (G := ([fc (rP K rS (rT K rS)) one1, none, none] : Cells K)) ?_ (.fz w_one1 (.skip (.skip .nil)))
  have h : m__law_line one1 = .ok r0 := h
  unfold m__law_line at h
  obtain ⟨_, e_u2, h⟩ := mb_ok h; have e_u2 := of_decide_eq_true (chk_ok e_u2)
  obtain ⟨linehere3, e_linehere3, h⟩ := mb_ok h; have e_linehere3 := ok_inj e_linehere3
  refine q_set (r := rS) (b := one1.1 ++ (" ->" : Str)) (b' := linehere3) ?_ e_linehere3 ?_
  · walk_at "ev"
  obtain ⟨s6, hm, h⟩ := mb_ok h
  refine q_forM (r := rS) (f := (fun (s4 : Str) (x5 : Str) => mb (chk (decide (s4.length + (" " : Str).length ≤ 100000))) fun _ => mb (chk (decide ((s4 ++ (" " : Str)).length + x5.length ≤ 100000))) fun _ => mb (.ok ((s4 ++ (" " : Str)) ++ x5)) fun linehere9 => .ok linehere9)) (s0 := linehere3) (fun (s4 : Str) => ([fc (rP K rS (rT K rS)) one1, fc rS s4, none] : Cells K)) hm ?_ (.keep (.keep (.keep .nil))) (fun H0' e0 x5 s4 s' h => ⟨_, tg_name, ?_⟩) ?_
  · refine wk_tup ?_
    walk_at "ev"
  · have hD : Nx H0' ((fun (s4 : Str) => ([fc (rP K rS (rT K rS)) one1, fc rS s4, none] : Cells K)) s') (Have H0' ((fun (s4 : Str) => ([fc (rP K rS (rT K rS)) one1, fc rS s4, none] : Cells K)) s')) := fun _ _ z => z
    obtain ⟨_, e_u7, h⟩ := mb_ok h; have e_u7 := of_decide_eq_true (chk_ok e_u7)
    obtain ⟨_, e_u8, h⟩ := mb_ok h; have e_u8 := of_decide_eq_true (chk_ok e_u8)
    obtain ⟨linehere9, e_linehere9, h⟩ := mb_ok h; have e_linehere9 := ok_inj e_linehere9
    refine l_set (r := rS) (b := (s4 ++ (" " : Str)) ++ x5) (b' := linehere9) ?_ e_linehere9 ?_
    · walk_at "ev"
    cases h
    exact fun σ H hv => hD σ H (hv.less (.keep (.keep (.drop .nil))))
  cases h
  refine r_ret hD ?_
  walk_at "ev"
/-! ### law -/
abbrev s_law : Stmt := topS 27
abbrev n_law : List Str := ["_law_script", "_law_rules_here", "_law_due", "_law_one", "_law_told", "_law_grammar", "_law_written"]
abbrev p_law : List Str := ["_law_script"]
theorem sc_law : FnScope n_law p_law (defScope s_law) := ⟨rfl, rfl, rfl, by decide +kernel, rfl, by decide +kernel, by decide +kernel⟩
abbrev sp_law (K : PySem.W.Frag) : Sp := spM (aC (rQ K rI) aN) rB fun a => m_law a.1
theorem c_law {P : Program} {w : World} {K : PySem.W.Frag} {mg : Str → Option Value} {base : Heap} {f : Addr} {fd : FuncData} (F : Fun K "law" "law" s_law f fd) (B_str : mg "str" = none) (B_isinstance : mg "isinstance" = none) (B_list : mg "list" = none) (K_Grammar : ClsF K mg "Grammar") (CM_Grammar_from_string : CalC P w K mg base (cA K "Grammar") "from_string" 4 (sp_Grammar_from_string K)) (Y_Grammar : ItOk P w K mg base (cA K "Grammar") "rows") (L_Grammar : NoLen K (cA K "Grammar")) (M_Grammar___str__ : CalM P w K mg base CX0 (cA K "Grammar") "__str__" 2 p_Grammar___str__ (sp_Grammar___str__ K)) (C__law_cell : Cal P w K mg base CX0 "_law_cell" 1 p__law_cell (sp__law_cell K)) (C__law_rules : Cal P w K mg base CX0 "_law_rules" 2 p__law_rules (sp__law_rules K)) (C__law_grouped : Cal P w K mg base CX0 "_law_grouped" 1 p__law_grouped (sp__law_grouped K)) (C_format_rule : Cal P w K mg base CX0 "format_rule" 1 p_format_rule (sp_format_rule K)) (C__law_line : Cal P w K mg base CX0 "_law_line" 1 p__law_line (sp__law_line K)) (C__law_all_same : Cal P w K mg base CX0 "_law_all_same" 2 p__law_all_same (sp__law_all_same K)) : FnOk P w K mg base CX0 5 f fd p_law (sp_law K) := by
  have cl_Grammar := K_Grammar.cl
  refine F.ok sc_law (fun vs H Q E ⟨a, b, h, _⟩ => LenA.len h) fun cdv A outer s H vs Q E hr h => ?_
  have sc := sc_law
  refine ⟨_, (pss_cons (ps_set (i := 1) sc.nd rfl (Or.inl rfl) (pe_fn C__law_rules (hr.mono (by decide)) (pa_cons (pe_fn C__law_cell (hr.mono (by decide)) (pa_cons (pv 0) (pa_cons pe_int pa_nil))) (pa_cons pe_int pa_nil))))
      (pss_cons (ps_set (i := 2) sc.nd rfl (Or.inl rfl) (pe_fn C__law_grouped (hr.mono (by decide)) (pa_cons (pv 1) pa_nil)))
      (pss_cons (ps_for PassesOwn.never rfl (pi_listK K (pv 1)) (pg_name (i := 3) sc.nd rfl (Or.inl rfl))
      (pss_cons (ps_set (i := 4) sc.nd rfl (Or.inl rfl) (pe_fn C_format_rule (hr.mono (by decide)) (pa_cons (pv 3) pa_nil)))
      (pss_one (ps_if (PW.pt (pw_or (pt_not (pt_val (pe_callB (k_isi K) (by rfl) B_isinstance (by decide +kernel) (pa_cons (pv 4) (pa_cons (pe_bltn (v := .ty "str") (u := .type "str") (by rfl) B_str (by decide +kernel) rfl) pa_nil))))) (pw_or1 (pt_cmpR op_ne (pv 4) (pe_fn C__law_line (hr.mono (by decide)) (pa_cons (pv 3) pa_nil)) (nomark _)))))
      (pss_one (ps_ret pe_bl)) pss_nil))))
      (pss_cons (ps_set (i := 5) sc.nd rfl (Or.inl rfl) (pe_cmS CM_Grammar_from_string (hr.mono (by decide)) takes_no (pe_glob (v := .ref (cA K "Grammar")) (by rfl) K_Grammar.mg rfl) (pa_cons (pe_joinK K pe_str (pe_lc (own := [("_law_one", 3)]) (g := gName 3) (tt := tYes) (by rfl) sc.nd (pi_listK K (pv 1)) (blkOk_by (own := [("_law_one", 3)]) (N := n_law) (sc := defScope s_law) (by decide +kernel)) (fun _ _ _ _ _ => (pg_name (i := 3) sc.nd rfl (Or.inl rfl))) (fun _ _ _ _ _ => pts_nil) (fun _ _ _ _ _ => (pe_fn C__law_line (hr.mono (by decide)) (pa_cons (pv 3) pa_nil))))) pa_nil)))
      (pss_cons (ps_if (pt_not (pt_val (pe_fn C__law_all_same (hr.mono (by decide)) (pa_cons (pe_callTy (k_listY K Y_Grammar L_Grammar (hr.mono (by decide))) (by rfl) B_list (by decide +kernel) (pa_cons (pv 5) pa_nil)) (pa_cons (pv 2) pa_nil)))))
      (pss_one (ps_ret pe_bl)) pss_nil)
      (pss_cons (ps_set (i := 6) sc.nd rfl (Or.inl rfl) (pe_callTy (k_strO M_Grammar___str__ (hr.mono (by decide))) (by rfl) B_str (by decide +kernel) (pa_cons (pv 5) pa_nil)))
      (pss_cons (ps_if (PW.pt (pw_or (pt_not (pt_val (pe_callB (k_isi K) (by rfl) B_isinstance (by decide +kernel) (pa_cons (pv 6) (pa_cons (pe_bltn (v := .ty "str") (u := .type "str") (by rfl) B_str (by decide +kernel) rfl) pa_nil))))) (pw_or1 (pt_cmpR op_ne (pv 6) (pe_joinK K pe_str (pe_lc (own := [("_law_one", 3)]) (g := gName 3) (tt := tYes) (by rfl) sc.nd (pi_listK K (pv 2)) (blkOk_by (own := [("_law_one", 3)]) (N := n_law) (sc := defScope s_law) (by decide +kernel)) (fun _ _ _ _ _ => (pg_name (i := 3) sc.nd rfl (Or.inl rfl))) (fun _ _ _ _ _ => pts_nil) (fun _ _ _ _ _ => (pe_fn C__law_line (hr.mono (by decide)) (pa_cons (pv 3) pa_nil))))) (nomark _)))))
      (pss_one (ps_ret pe_bl)) pss_nil)
      (pss_one (ps_ret (pe_fn C__law_all_same (hr.mono (by decide)) (pa_cons (pe_callTy (k_listY K Y_Grammar L_Grammar (hr.mono (by decide))) (by rfl) B_list (by decide +kernel) (pa_cons (pe_cmS CM_Grammar_from_string (hr.mono (by decide)) takes_no (pe_glob (v := .ref (cA K "Grammar")) (by rfl) K_Grammar.mg rfl) (pa_cons (pv 6) pa_nil)) pa_nil)) (pa_cons (pv 2) pa_nil)))))))))))), ?_⟩
  obtain ⟨⟨script1, _⟩, r0, ⟨v_script1, _, rfl, w_script1, rfl⟩, h, k⟩ := h
  have hD : RtOk (fz K rB) H r0 { nx := fun _ H' => Q .non H', rt := Q } := fun v H' ⟨as, s, n, z⟩ => k v H' s z.2.now
  refine Sv.run (K := K) (G := ([rc (rQ K rI) script1, none, none, none, none, none, none] : Cells K)) ?_ (.ro w_script1 (.skip (.skip (.skip (.skip (.skip (.skip .nil)))))))
  have h : m_law script1 = .ok r0 := h
  unfold m_law at h
  obtain ⟨t2, e_t2, h⟩ := mb_ok h
  obtain ⟨t3, e_t3, h⟩ := mb_ok h
  refine q_asg (R := (nl K (rP K rS (rT K rS)))) (b := t3) (b' := t3) ?_ rfl ?_
  · walk_at "ev"
  obtain ⟨t4, e_t4, h⟩ := mb_ok h
  refine q_asg (R := (nl K (rP K rS (rT K rS)))) (b := t4) (b' := t4) ?_ rfl ?_
  · walk_at "ev"
  obtain ⟨o7, hm, h⟩ := mb_ok h
  refine q_forF (r := (rP K rS (rT K rS))) (R := (fz K rB)) (f := (fun (s5 : Unit) (x6 : (Str × (List Str))) => mb (m_format_rule x6) fun t8 => mb (mor (!true) (mb (m__law_line x6) fun t9 => .ok (!(decide (t8 = t9))))) fun c10 => bif c10 then .ok (.rt false) else .ok (.nx ()))) (s0 := ()) (o := o7) (fun (s5 : Unit) => ([rc (rQ K rI) script1, rc (rL (rP K rS (rT K rS))) t3, some (.ow (nl K (rP K rS (rT K rS))) t4), none, none, none, none] : Cells K)) hm ?_ (.keep (.keep (.keep (.keep (.keep (.keep (.keep .nil))))))) (fun s5 e => ?_) (fun x e => ?_) (fun H0' D' e0 x6 s5 o' h hD => ⟨_, tg_name, ?_⟩)
  · exact wk_own (i := 1) (by rfl)
  · subst e; have h := go_nx h
    obtain ⟨_, e_u13, h⟩ := mb_ok h; have e_u13 := of_decide_eq_true (chk_ok e_u13)
    obtain ⟨zs14, e_zs14, h⟩ := mb_ok h
    obtain ⟨_, e_u15, h⟩ := mb_ok h; have e_u15 := of_decide_eq_true (chk_ok e_u15)
    obtain ⟨_, e_u16, h⟩ := mb_ok h; have e_u16 := of_decide_eq_true (chk_ok e_u16)
    obtain ⟨t17, e_t17, h⟩ := mb_ok h
    refine q_asg (R := (nG K)) (b := t17) (b' := t17) ?_ rfl ?_
    · refine nw_cm (g := ((Txt.join ("\n" : Str) zs14), ())) ?_ ?_ (show MOk _ _ _ from ?_)
      · exact ev_cls
      · first | refine a_cons ?_ inferInstance ?_ | refine a_el ?_ inferInstance ?_
        · refine ev_join ?_ ?_ (by assumption) (by assumption)
          · walk_at "ev"
          · refine Nw.lst ?_
            refine nw_lcM (G' := ([rc (rQ K rI) script1, rc (rL (rP K rS (rT K rS))) t3, some (.ow (nl K (rP K rS (rT K rS))) t4), none, none, none, none] : Cells K)) (r := (rP K rS (rT K rS))) (p := (fun (y11 : (Str × (List Str))) => .ok true)) (f := (fun (y11 : (Str × (List Str))) => mb (m__law_line y11) fun t12 => .ok t12)) ?_ (by first | assumption | (rw [ups_len]; omega) | (rw [List.length_map, List.length_range]; omega) | (simp only [List.length_cons, List.length_nil]; omega)) (fun y11 => ⟨_, tb_name, fun _ e => ?_, fun _ e => ?_⟩) e_zs14
            · exact wk_ro (by rfl)
            · cases e
              exact et_yes
            · obtain ⟨t12, e_t12, e⟩ := mb_ok e
              cases e
              walk_at "ev"
        first | exact ea_nil | exact el_nil
      · unfold MOk; assumption
    obtain ⟨t18, e_t18, h⟩ := mb_ok h
    refine q_if (c := (!t18)) ?_ ?_ ?_
    · walk_at "ev"
    · intro hc; have h := bif_t h hc
      cases h
      refine r_ret hD ?_
      walk_at "ev"
    · intro hc; have h := bif_f h hc
      refine q_next ?_
      obtain ⟨t19, e_t19, h⟩ := mb_ok h
      refine q_set (r := rS) (b := t19) (b' := t19) ?_ rfl ?_
      · walk_at "ev"
      obtain ⟨c26, e_c26, h⟩ := mb_ok h
      refine q_if (c := c26) ?_ ?_ ?_
      · refine et_orM ?_ (fun _ e => ?_) e_c26
        · walk_at "ev"
        obtain ⟨_, e_u22, e⟩ := mb_ok e; have e_u22 := of_decide_eq_true (chk_ok e_u22)
        obtain ⟨zs23, e_zs23, e⟩ := mb_ok e
        obtain ⟨_, e_u24, e⟩ := mb_ok e; have e_u24 := of_decide_eq_true (chk_ok e_u24)
        obtain ⟨_, e_u25, e⟩ := mb_ok e; have e_u25 := of_decide_eq_true (chk_ok e_u25)
        cases e
        refine et_test ?_
        refine a_ne (r := rS) (a := t19) (x := (Txt.join ("\n" : Str) zs23)) ?_ ?_ ?_
        · walk_at "ev"
        · refine ev_join ?_ ?_ (by assumption) (by assumption)
          · walk_at "ev"
          · refine Nw.lst ?_
            refine nw_lcM (G' := ([rc (rQ K rI) script1, rc (rL (rP K rS (rT K rS))) t3, rc (rL (rP K rS (rT K rS))) t4, none, none, some (.ow (nG K) t17), fc rS t19] : Cells K)) (r := (rP K rS (rT K rS))) (p := (fun (y20 : (Str × (List Str))) => .ok true)) (f := (fun (y20 : (Str × (List Str))) => mb (m__law_line y20) fun t21 => .ok t21)) ?_ (by first | assumption | (rw [ups_len]; omega) | (rw [List.length_map, List.length_range]; omega) | (simp only [List.length_cons, List.length_nil]; omega)) (fun y20 => ⟨_, tb_name, fun _ e => ?_, fun _ e => ?_⟩) e_zs23
            · exact wk_own (i := 2) (by rfl)
            · cases e
              exact et_yes
            · obtain ⟨t21, e_t21, e⟩ := mb_ok e
              cases e
              walk_at "ev"
        · walk_at "ev"
      · intro hc; have h := bif_t h hc
        cases h
        refine r_ret hD ?_
        walk_at "ev"
      · intro hc; have h := bif_f h hc
        refine q_next ?_
        obtain ⟨t27, e_t27, h⟩ := mb_ok h
        obtain ⟨t28, e_t28, h⟩ := mb_ok h
        cases h
        refine r_ret hD ?_
        walk_at "ev"
  · subst e; have h := go_rt h; cases h; exact hD
  · obtain ⟨t8, e_t8, h⟩ := mb_ok h
    refine q_set (r := rS) (b := t8) (b' := t8) ?_ rfl ?_
    · walk_at "ev"
    obtain ⟨c10, e_c10, h⟩ := mb_ok h
    refine l_if (c := c10) ?_ ?_ ?_
    · refine et_orM ?_ (fun _ e => ?_) e_c10
      · walk_at "ev"
      obtain ⟨t9, e_t9, e⟩ := mb_ok e
      cases e
      walk_at "ev"
    · intro hc; have h := bif_t h hc
      cases h
      refine r_ret hD ?_
      walk_at "ev"
    · intro hc; have h := bif_f h hc
      cases h
      exact fun σ H hv => hD σ H (hv.less (.keep (.keep (.keep (.drop (.drop (.keep (.keep .nil))))))))
abbrev s_BadLine___init__ : Stmt := inClass (topS 4) 0
theorem xs_BadLine : XStat s_BadLine___init__ "BadLine.__init__" "number" := ⟨⟨_, _, _, _, _, _, _, _, _, _, _, _, rfl, fun _ _ _ _ => ⟨_, rfl⟩, fun _ _ _ _ => rfl, fun _ _ _ _ => rfl⟩, ⟨_, rfl, rfl⟩, fun _ _ _ _ _ _ _ _ _ => .of_eq rfl, rfl, rfl, rfl, rfl, rfl, rfl, rfl, by decide +kernel, by decide, by decide⟩
/-! ### the end -/
theorem all_mk {l : PySem.W.OpenLaw} {w : World} {K : PySem.W.Frag} {h : Heap} {mg : Str → Option Value} {fa : Addr} {C0 : Addr} {f0 : Addr} {od0 an0 : Option Addr} {sl0 : Array (Option Value)} {oc0 kV0 dc0 pm0 cd0 ct0 : Value} {f1 : Addr} {od1 an1 : Option Addr} {sl1 : Array (Option Value)} {oc1 kV1 dc1 pm1 cd1 ct1 : Value} {f2 : Addr} {od2 an2 : Option Addr} {sl2 : Array (Option Value)} {oc2 kV2 dc2 pm2 cd2 ct2 : Value} {f3 : Addr} {od3 an3 : Option Addr} {sl3 : Array (Option Value)} {oc3 kV3 dc3 pm3 cd3 ct3 : Value} {f4 : Addr} {od4 an4 : Option Addr} {sl4 : Array (Option Value)} {oc4 kV4 dc4 pm4 cd4 ct4 : Value} {f5 : Addr} {od5 an5 : Option Addr} {sl5 : Array (Option Value)} {oc5 kV5 dc5 pm5 cd5 ct5 : Value} {f6 : Addr} {od6 an6 : Option Addr} {sl6 : Array (Option Value)} {oc6 kV6 dc6 pm6 cd6 ct6 : Value} {f7 : Addr} {od7 an7 : Option Addr} {sl7 : Array (Option Value)} {oc7 kV7 dc7 pm7 cd7 ct7 : Value} {f8 : Addr} {od8 an8 : Option Addr} {sl8 : Array (Option Value)} {oc8 kV8 dc8 pm8 cd8 ct8 : Value} {f9 : Addr} {od9 an9 : Option Addr} {sl9 : Array (Option Value)} {oc9 kV9 dc9 pm9 cd9 ct9 : Value} {f10 : Addr} {od10 an10 : Option Addr} {sl10 : Array (Option Value)} {oc10 kV10 dc10 pm10 cd10 ct10 : Value} {f11 : Addr} {od11 an11 : Option Addr} {sl11 : Array (Option Value)} {oc11 kV11 dc11 pm11 cd11 ct11 : Value} {f12 : Addr} {od12 an12 : Option Addr} {sl12 : Array (Option Value)} {oc12 kV12 dc12 pm12 cd12 ct12 : Value} {f13 : Addr} {od13 an13 : Option Addr} {sl13 : Array (Option Value)} {oc13 kV13 dc13 pm13 cd13 ct13 : Value} {f14 : Addr} {od14 an14 : Option Addr} {sl14 : Array (Option Value)} {oc14 kV14 dc14 pm14 cd14 ct14 : Value} {f15 : Addr} {od15 an15 : Option Addr} {sl15 : Array (Option Value)} {oc15 kV15 dc15 pm15 cd15 ct15 : Value} {f16 : Addr} {od16 an16 : Option Addr} {sl16 : Array (Option Value)} {oc16 kV16 dc16 pm16 cd16 ct16 : Value} {T16 : Addr} {tc16 : Value} {td16 : Option Addr} {tn16 : Nat} {ts16 : Array (Option Value)} {v16_0 : Value} {f17 : Addr} {od17 an17 : Option Addr} {sl17 : Array (Option Value)} {oc17 kV17 dc17 pm17 cd17 ct17 : Value} {p17 : Addr} {r17 : List Value} {f18 : Addr} {od18 an18 : Option Addr} {sl18 : Array (Option Value)} {oc18 kV18 dc18 pm18 cd18 ct18 : Value} {f19 : Addr} {od19 an19 : Option Addr} {sl19 : Array (Option Value)} {oc19 kV19 dc19 pm19 cd19 ct19 : Value} {tc0 : Tok} {tc1 : Tok} {tc2 : Tok} {tc3 : Tok} {x_BadLine_C x_BadLine_f x_BadLine_cd x_BadLine_cc x_BadLine_N : Addr} {x_BadLine_oc x_BadLine_dc x_BadLine_pm x_BadLine_ct x_BadLine_cl x_BadLine_cl2 : Value} {x_BadLine_od x_BadLine_cld x_BadLine_cld2 x_BadLine_an x_BadLine_dd : Option Addr} {x_BadLine_osl x_BadLine_csl x_BadLine_csl2 : Array (Option Value)} {x_BadLine_vs : Array Value} {x_BadLine_file x_BadLine_q x_BadLine_nm : Str} {x_BadLine_tf : Tok} {x_BadLine_bs x_BadLine_bm x_BadLine_sub : List Value} {x_BadLine_sn : List Str} {x_BadLine_ab : Bool} {x_BadLine_col : Option Bool} {x_BadLine_k0 x_BadLine_k1 x_BadLine_k2 x_BadLine_k3 x_BadLine_k5 : Option Value} (X : K.In h) (G : h.Ns mainGlobals mg) (hfa : mg "law" = some (.ref fa))
    (aC0 : PySem.W.nsIn K mainGlobals "Grammar" = some (some (.ref C0)))
    (pg0 : PySem.W.plainGet K C0 Str.empty = true)
    (hd0 : PySem.W.hasDictIn K C0 = true)
    (po0 : PySem.W.plainOver K C0 = true)
    (sa0 : PySem.W.findIn K (.ref C0) "__setattr__" = some (some (.builtin "object.__setattr__")))
    (sf0 : PySem.W.selfFirst K C0 = true)
    (nq0 : PySem.W.noSeq K C0 = true)
    (mk0 : PySem.W.makesIn K C0 = true)
    (kc0 : PySem.W.keepIn K (.ref C0) = true)
    (na0 : PySem.W.findIn K (.ref C0) "rows" = some none)
    (nl0 : PySem.W.findIn K (.ref C0) "__len__" = some none)
    (nh0 : PySem.W.findIn K (.ref C0) "__length_hint__" = some none)
    (a0 : PySem.W.nsIn K mainGlobals "is_owner" = some (some (.ref f0)))
    (l0 : K.lookup f0 = some ⟨oc0, od0, .func (PySem.W.fnOf "is_owner" "is_owner" (defArgs s_is_owner) (defBody s_is_owner) (defScope s_is_owner) .none kV0 dc0 pm0 an0 cd0 ct0), sl0⟩)
    (c0 : PySem.W.codeIn K cd0 "is_owner" = true)
    (k0 : PySem.W.keepIn K (.ref f0) = true)
    (a1 : PySem.W.nsIn K mainGlobals "is_plain" = some (some (.ref f1)))
    (l1 : K.lookup f1 = some ⟨oc1, od1, .func (PySem.W.fnOf "is_plain" "is_plain" (defArgs s_is_plain) (defBody s_is_plain) (defScope s_is_plain) .none kV1 dc1 pm1 an1 cd1 ct1), sl1⟩)
    (c1 : PySem.W.codeIn K cd1 "is_plain" = true)
    (k1 : PySem.W.keepIn K (.ref f1) = true)
    (a2 : PySem.W.nsIn K mainGlobals "is_sign" = some (some (.ref f2)))
    (l2 : K.lookup f2 = some ⟨oc2, od2, .func (PySem.W.fnOf "is_sign" "is_sign" (defArgs s_is_sign) (defBody s_is_sign) (defScope s_is_sign) .none kV2 dc2 pm2 an2 cd2 ct2), sl2⟩)
    (c2 : PySem.W.codeIn K cd2 "is_sign" = true)
    (k2 : PySem.W.keepIn K (.ref f2) = true)
    (a3 : PySem.W.nsIn K mainGlobals "is_token" = some (some (.ref f3)))
    (l3 : K.lookup f3 = some ⟨oc3, od3, .func (PySem.W.fnOf "is_token" "is_token" (defArgs s_is_token) (defBody s_is_token) (defScope s_is_token) .none kV3 dc3 pm3 an3 cd3 ct3), sl3⟩)
    (c3 : PySem.W.codeIn K cd3 "is_token" = true)
    (k3 : PySem.W.keepIn K (.ref f3) = true)
    (a4 : PySem.W.nsIn K mainGlobals "format_rule" = some (some (.ref f4)))
    (l4 : K.lookup f4 = some ⟨oc4, od4, .func (PySem.W.fnOf "format_rule" "format_rule" (defArgs s_format_rule) (defBody s_format_rule) (defScope s_format_rule) .none kV4 dc4 pm4 an4 cd4 ct4), sl4⟩)
    (c4 : PySem.W.codeIn K cd4 "format_rule" = true)
    (k4 : PySem.W.keepIn K (.ref f4) = true)
    (a5 : PySem.W.nsIn K mainGlobals "parse_rule" = some (some (.ref f5)))
    (l5 : K.lookup f5 = some ⟨oc5, od5, .func (PySem.W.fnOf "parse_rule" "parse_rule" (defArgs s_parse_rule) (defBody s_parse_rule) (defScope s_parse_rule) .none kV5 dc5 pm5 an5 cd5 ct5), sl5⟩)
    (c5 : PySem.W.codeIn K cd5 "parse_rule" = true)
    (k5 : PySem.W.keepIn K (.ref f5) = true)
    (a6 : PySem.W.nsIn K mainGlobals "grouped" = some (some (.ref f6)))
    (l6 : K.lookup f6 = some ⟨oc6, od6, .func (PySem.W.fnOf "grouped" "grouped" (defArgs s_grouped) (defBody s_grouped) (defScope s_grouped) .none kV6 dc6 pm6 an6 cd6 ct6), sl6⟩)
    (c6 : PySem.W.codeIn K cd6 "grouped" = true)
    (k6 : PySem.W.keepIn K (.ref f6) = true)
    (a7 : PySem.W.nsIn K mainGlobals "_law_cell" = some (some (.ref f7)))
    (l7 : K.lookup f7 = some ⟨oc7, od7, .func (PySem.W.fnOf "_law_cell" "_law_cell" (defArgs s__law_cell) (defBody s__law_cell) (defScope s__law_cell) .none kV7 dc7 pm7 an7 cd7 ct7), sl7⟩)
    (c7 : PySem.W.codeIn K cd7 "_law_cell" = true)
    (k7 : PySem.W.keepIn K (.ref f7) = true)
    (a8 : PySem.W.nsIn K mainGlobals "_law_draws" = some (some (.ref f8)))
    (l8 : K.lookup f8 = some ⟨oc8, od8, .func (PySem.W.fnOf "_law_draws" "_law_draws" (defArgs s__law_draws) (defBody s__law_draws) (defScope s__law_draws) .none kV8 dc8 pm8 an8 cd8 ct8), sl8⟩)
    (c8 : PySem.W.codeIn K cd8 "_law_draws" = true)
    (k8 : PySem.W.keepIn K (.ref f8) = true)
    (a9 : PySem.W.nsIn K mainGlobals "_law_name" = some (some (.ref f9)))
    (l9 : K.lookup f9 = some ⟨oc9, od9, .func (PySem.W.fnOf "_law_name" "_law_name" (defArgs s__law_name) (defBody s__law_name) (defScope s__law_name) .none kV9 dc9 pm9 an9 cd9 ct9), sl9⟩)
    (c9 : PySem.W.codeIn K cd9 "_law_name" = true)
    (k9 : PySem.W.keepIn K (.ref f9) = true)
    (a10 : PySem.W.nsIn K mainGlobals "_law_rules" = some (some (.ref f10)))
    (l10 : K.lookup f10 = some ⟨oc10, od10, .func (PySem.W.fnOf "_law_rules" "_law_rules" (defArgs s__law_rules) (defBody s__law_rules) (defScope s__law_rules) .none kV10 dc10 pm10 an10 cd10 ct10), sl10⟩)
    (c10 : PySem.W.codeIn K cd10 "_law_rules" = true)
    (k10 : PySem.W.keepIn K (.ref f10) = true)
    (a11 : PySem.W.nsIn K mainGlobals "_law_grouped" = some (some (.ref f11)))
    (l11 : K.lookup f11 = some ⟨oc11, od11, .func (PySem.W.fnOf "_law_grouped" "_law_grouped" (defArgs s__law_grouped) (defBody s__law_grouped) (defScope s__law_grouped) .none kV11 dc11 pm11 an11 cd11 ct11), sl11⟩)
    (c11 : PySem.W.codeIn K cd11 "_law_grouped" = true)
    (k11 : PySem.W.keepIn K (.ref f11) = true)
    (a12 : PySem.W.nsIn K mainGlobals "_law_same" = some (some (.ref f12)))
    (l12 : K.lookup f12 = some ⟨oc12, od12, .func (PySem.W.fnOf "_law_same" "_law_same" (defArgs s__law_same) (defBody s__law_same) (defScope s__law_same) .none kV12 dc12 pm12 an12 cd12 ct12), sl12⟩)
    (c12 : PySem.W.codeIn K cd12 "_law_same" = true)
    (k12 : PySem.W.keepIn K (.ref f12) = true)
    (a13 : PySem.W.nsIn K mainGlobals "_law_all_same" = some (some (.ref f13)))
    (l13 : K.lookup f13 = some ⟨oc13, od13, .func (PySem.W.fnOf "_law_all_same" "_law_all_same" (defArgs s__law_all_same) (defBody s__law_all_same) (defScope s__law_all_same) .none kV13 dc13 pm13 an13 cd13 ct13), sl13⟩)
    (c13 : PySem.W.codeIn K cd13 "_law_all_same" = true)
    (k13 : PySem.W.keepIn K (.ref f13) = true)
    (a14 : PySem.W.nsIn K mainGlobals "_law_line" = some (some (.ref f14)))
    (l14 : K.lookup f14 = some ⟨oc14, od14, .func (PySem.W.fnOf "_law_line" "_law_line" (defArgs s__law_line) (defBody s__law_line) (defScope s__law_line) .none kV14 dc14 pm14 an14 cd14 ct14), sl14⟩)
    (c14 : PySem.W.codeIn K cd14 "_law_line" = true)
    (k14 : PySem.W.keepIn K (.ref f14) = true)
    (a15 : PySem.W.nsIn K mainGlobals "law" = some (some (.ref f15)))
    (l15 : K.lookup f15 = some ⟨oc15, od15, .func (PySem.W.fnOf "law" "law" (defArgs s_law) (defBody s_law) (defScope s_law) .none kV15 dc15 pm15 an15 cd15 ct15), sl15⟩)
    (c15 : PySem.W.codeIn K cd15 "law" = true)
    (k15 : PySem.W.keepIn K (.ref f15) = true)
    (a16 : PySem.W.findIn K (.ref C0) "__init__" = some (some (.ref f16)))
    (i16 : PySem.W.isFn K (.ref f16) = true)
    (l16 : K.lookup f16 = some ⟨oc16, od16, .func (PySem.W.fnOf "__init__" "Grammar.__init__" (defArgs s_Grammar___init__) (defBody s_Grammar___init__) (defScope s_Grammar___init__) (.ref T16) kV16 dc16 pm16 an16 cd16 ct16), sl16⟩)
    (lT16 : K.lookup T16 = some ⟨tc16, td16, .seq #[v16_0] tn16, ts16⟩)
    (c16 : PySem.W.codeIn K cd16 "Grammar.__init__" = true)
    (k16 : PySem.W.keepIn K (.ref f16) = true)
    (y_a17 : PySem.W.findCls K (.ref C0) (.type "type") "from_string" = some (.get (.builtin "classmethod.__get__") (.ref p17) .none (.ref C0)))
    (y_c17 : PySem.W.recIn K p17 "classmethod" = some (.ref f17 :: r17))
    (y_f17 : PySem.W.fnIn K f17 = true)
    (y_r17 : PySem.W.readsIn K C0 (.type "type") = true)
    (y_g17 : PySem.W.specialIn K (.ref C0) "__getattribute__" = some (some (.builtin "type.__getattribute__")))
    (l17 : K.lookup f17 = some ⟨oc17, od17, .func (PySem.W.fnOf "from_string" "Grammar.from_string" (defArgs s_Grammar_from_string) (defBody s_Grammar_from_string) (defScope s_Grammar_from_string) .none kV17 dc17 pm17 an17 cd17 ct17), sl17⟩)
    (c17 : PySem.W.codeIn K cd17 "Grammar.from_string" = true)
    (k17 : PySem.W.keepIn K (.ref f17) = true)
    (a18 : PySem.W.findIn K (.ref C0) "__iter__" = some (some (.ref f18)))
    (i18 : PySem.W.isFn K (.ref f18) = true)
    (l18 : K.lookup f18 = some ⟨oc18, od18, .func (PySem.W.fnOf "__iter__" "Grammar.__iter__" (defArgs s_Grammar___iter__) (defBody s_Grammar___iter__) (defScope s_Grammar___iter__) .none kV18 dc18 pm18 an18 cd18 ct18), sl18⟩)
    (c18 : PySem.W.codeIn K cd18 "Grammar.__iter__" = true)
    (k18 : PySem.W.keepIn K (.ref f18) = true)
    (a19 : PySem.W.findIn K (.ref C0) "__str__" = some (some (.ref f19)))
    (i19 : PySem.W.isFn K (.ref f19) = true)
    (l19 : K.lookup f19 = some ⟨oc19, od19, .func (PySem.W.fnOf "__str__" "Grammar.__str__" (defArgs s_Grammar___str__) (defBody s_Grammar___str__) (defScope s_Grammar___str__) .none kV19 dc19 pm19 an19 cd19 ct19), sl19⟩)
    (c19 : PySem.W.codeIn K cd19 "Grammar.__str__" = true)
    (k19 : PySem.W.keepIn K (.ref f19) = true)
    (z0 : PySem.W.nsIn K mainGlobals "len" = some none)
    (z1 : PySem.W.nsIn K mainGlobals "all" = some none)
    (z2 : PySem.W.nsIn K mainGlobals "tuple" = some none)
    (z3 : PySem.W.nsIn K mainGlobals "enumerate" = some none)
    (z4 : PySem.W.nsIn K mainGlobals "iter" = some none)
    (z5 : PySem.W.nsIn K mainGlobals "int" = some none)
    (z6 : PySem.W.nsIn K mainGlobals "range" = some none)
    (z7 : PySem.W.nsIn K mainGlobals "isinstance" = some none)
    (z8 : PySem.W.nsIn K mainGlobals "str" = some none)
    (z9 : PySem.W.nsIn K mainGlobals "list" = some none)
    (mc0 : PySem.W.nsIn K mainGlobals "LONGEST" = some (some (.int 8 tc0)))
    (mc1 : PySem.W.nsIn K mainGlobals "SMALL" = some (some (.str "abcdefghijklmnopqrstuvwxyz" tc1)))
    (mc2 : PySem.W.nsIn K mainGlobals "DIGITS" = some (some (.str "0123456789" tc2)))
    (mc3 : PySem.W.nsIn K mainGlobals "CAPITAL" = some (some (.str "ABCDEFGHIJKLMNOPQRSTUVWXYZ" tc3)))
    (x_BadLine_a : PySem.W.nsIn K mainGlobals "BadLine" = some (some (.ref x_BadLine_C)))
    (x_BadLine_h : K.lookup x_BadLine_C = some (excClassObj x_BadLine_nm x_BadLine_q x_BadLine_C x_BadLine_N x_BadLine_bs x_BadLine_bm true x_BadLine_sn x_BadLine_sub x_BadLine_ab x_BadLine_col x_BadLine_dd x_BadLine_k0 x_BadLine_k1 x_BadLine_k2 x_BadLine_k3 x_BadLine_k5 "ValueError.__new__"))
    (x_BadLine_bm : PySem.HandSPX.refsVE x_BadLine_bm = true)
    (x_BadLine_sa : PySem.W.findIn K (.ref x_BadLine_C) "__setattr__" = some (some (.builtin "object.__setattr__")))
    (x_BadLine_ga : PySem.W.findIn K (.ref x_BadLine_C) "__getattribute__" = some (some (.builtin "BaseException.__getattribute__")))
    (x_BadLine_gg : PySem.W.findIn K (.ref x_BadLine_C) "__getattr__" = some none)
    (x_BadLine_no : PySem.W.findIn K (.ref x_BadLine_C) "number" = some none)
    (x_BadLine_i : PySem.W.findIn K (.ref x_BadLine_C) "__init__" = some (some (.ref x_BadLine_f)))
    (x_BadLine_t : PySem.W.typeIn K (.ref x_BadLine_f) = some (.type "function"))
    (x_BadLine_k : PySem.W.keepIn K (.ref x_BadLine_C) = true)
    (x_BadLine_e : PySem.W.subIn K (.ref x_BadLine_C) (.type "BaseException") = some true)
    (x_BadLine_ty : PySem.W.typeIn K (.ref x_BadLine_C) = some (.type "type"))
    (x_BadLine_hd : PySem.W.hasDictIn K x_BadLine_C = true)
    (x_BadLine_su : PySem.W.ks_superIn K x_BadLine_C x_BadLine_C "__init__" = some (some (.builtin "ValueError.__init__")))
    (x_BadLine_sB : PySem.W.subIn K (.ref x_BadLine_C) (.type "ValueError") = some true)
    (x_BadLine_sS : PySem.W.mroIn K x_BadLine_C (.ref x_BadLine_C) = some true)
    (x_BadLine_op : PySem.W.nsIn K cStatics "thirdparty.any" = some none)
    (x_BadLine_ns : PySem.W.nsIn K mainGlobals "super" = some none)
    (x_BadLine_lf : K.lookup x_BadLine_f = some ⟨x_BadLine_oc, x_BadLine_od, .func (PySem.W.ksFn "__init__" "BadLine.__init__" (defArgs s_BadLine___init__) (defBody s_BadLine___init__) (defScope s_BadLine___init__) .none .none x_BadLine_dc x_BadLine_pm x_BadLine_an (.ref x_BadLine_cd) x_BadLine_ct x_BadLine_cc), x_BadLine_osl⟩)
    (x_BadLine_hc : PySem.W.codeIn K (.ref x_BadLine_cd) "BadLine.__init__" = true)
    (x_BadLine_lc : K.lookup x_BadLine_cc = some ⟨x_BadLine_cl, x_BadLine_cld, .cell (some (.ref x_BadLine_C)), x_BadLine_csl⟩)
    (x_BadLine_lo : K.lookup x_BadLine_cd = some ⟨x_BadLine_cl2, x_BadLine_cld2, .fields x_BadLine_vs, x_BadLine_csl2⟩)
    (x_BadLine_hv : x_BadLine_vs[2]? = some (.str x_BadLine_file x_BadLine_tf))
    (x_BadLine_hf : (((l.prog).main.file : Str) == x_BadLine_file) = true)
    (x_BadLine_ht : ((l.prog).main.scope.names.lookup ("super" : Str)).isSome = false)
    : ∃ fd : FuncData, (∀ (s : Shared) (v : Value), BindsTo s fd ⟨[v], []⟩ [("_law_script", v)]) ∧ ∀ base : Heap, K.In base → base.Ns mainGlobals mg → FnOk l.prog w K mg base CX0 5 fa fd ["_law_script"] (sp_law K) := by
  have e := hfa.symm.trans (PySem.W.mg_of X G a15)
  cases e
  refine ⟨PySem.W.fnOf "law" "law" (defArgs s_law) (defBody s_law) (defScope s_law) .none kV15 dc15 pm15 an15 cd15 ct15, fun s v => .of_eq rfl, fun base _ _ => ?_⟩
  have eC0 := cA_eq aC0
  subst eC0
  have K_Grammar : ClsF K mg "Grammar" := ⟨⟨pg0, hd0, po0, sa0⟩, PySem.W.mg_of X G aC0, sf0, nq0, mk0, kc0⟩
  have N_Grammar_rows : NoAttr K (cA K "Grammar") "rows" := na0
  have L_Grammar : NoLen K (cA K "Grammar") := ⟨nl0, nh0⟩
  have eX_BadLine := cA_eq x_BadLine_a
  subst eX_BadLine
  have E_BadLine : ExcK l.prog K mg "BadLine" "number" := ⟨_, excT_of xs_BadLine (PySem.W.mg_of X G x_BadLine_a) x_BadLine_h x_BadLine_bm x_BadLine_sa x_BadLine_ga x_BadLine_gg x_BadLine_no x_BadLine_i x_BadLine_t x_BadLine_k x_BadLine_e x_BadLine_ty x_BadLine_hd x_BadLine_su x_BadLine_sB x_BadLine_sS x_BadLine_op (PySem.W.mg_none_of X G x_BadLine_ns) x_BadLine_lf x_BadLine_hc x_BadLine_lc x_BadLine_lo x_BadLine_hv x_BadLine_hf x_BadLine_ht⟩
  have B_len := PySem.W.mg_none_of X G z0
  have B_all := PySem.W.mg_none_of X G z1
  have B_tuple := PySem.W.mg_none_of X G z2
  have B_enumerate := PySem.W.mg_none_of X G z3
  have B_iter := PySem.W.mg_none_of X G z4
  have B_int := PySem.W.mg_none_of X G z5
  have B_range := PySem.W.mg_none_of X G z6
  have B_isinstance := PySem.W.mg_none_of X G z7
  have B_str := PySem.W.mg_none_of X G z8
  have B_list := PySem.W.mg_none_of X G z9
  have M_LONGEST : ∃ t, mg "LONGEST" = some (Value.int 8 t) := ⟨_, PySem.W.mg_of X G mc0⟩
  have M_SMALL : ∃ t, mg "SMALL" = some (Value.str "abcdefghijklmnopqrstuvwxyz" t) := ⟨_, PySem.W.mg_of X G mc1⟩
  have M_DIGITS : ∃ t, mg "DIGITS" = some (Value.str "0123456789" t) := ⟨_, PySem.W.mg_of X G mc2⟩
  have M_CAPITAL : ∃ t, mg "CAPITAL" = some (Value.str "ABCDEFGHIJKLMNOPQRSTUVWXYZ" t) := ⟨_, PySem.W.mg_of X G mc3⟩
  have D_is_owner : Df K mg "is_owner" s_is_owner := ⟨f0, _, fun_mk (st := s_is_owner) l0 c0 k0, PySem.W.mg_of X G a0⟩
  have D_is_plain : Df K mg "is_plain" s_is_plain := ⟨f1, _, fun_mk (st := s_is_plain) l1 c1 k1, PySem.W.mg_of X G a1⟩
  have D_is_sign : Df K mg "is_sign" s_is_sign := ⟨f2, _, fun_mk (st := s_is_sign) l2 c2 k2, PySem.W.mg_of X G a2⟩
  have D_is_token : Df K mg "is_token" s_is_token := ⟨f3, _, fun_mk (st := s_is_token) l3 c3 k3, PySem.W.mg_of X G a3⟩
  have D_format_rule : Df K mg "format_rule" s_format_rule := ⟨f4, _, fun_mk (st := s_format_rule) l4 c4 k4, PySem.W.mg_of X G a4⟩
  have D_parse_rule : Df K mg "parse_rule" s_parse_rule := ⟨f5, _, fun_mk (st := s_parse_rule) l5 c5 k5, PySem.W.mg_of X G a5⟩
  have D_grouped : Df K mg "grouped" s_grouped := ⟨f6, _, fun_mk (st := s_grouped) l6 c6 k6, PySem.W.mg_of X G a6⟩
  have D__law_cell : Df K mg "_law_cell" s__law_cell := ⟨f7, _, fun_mk (st := s__law_cell) l7 c7 k7, PySem.W.mg_of X G a7⟩
  have D__law_draws : Df K mg "_law_draws" s__law_draws := ⟨f8, _, fun_mk (st := s__law_draws) l8 c8 k8, PySem.W.mg_of X G a8⟩
  have D__law_name : Df K mg "_law_name" s__law_name := ⟨f9, _, fun_mk (st := s__law_name) l9 c9 k9, PySem.W.mg_of X G a9⟩
  have D__law_rules : Df K mg "_law_rules" s__law_rules := ⟨f10, _, fun_mk (st := s__law_rules) l10 c10 k10, PySem.W.mg_of X G a10⟩
  have D__law_grouped : Df K mg "_law_grouped" s__law_grouped := ⟨f11, _, fun_mk (st := s__law_grouped) l11 c11 k11, PySem.W.mg_of X G a11⟩
  have D__law_same : Df K mg "_law_same" s__law_same := ⟨f12, _, fun_mk (st := s__law_same) l12 c12 k12, PySem.W.mg_of X G a12⟩
  have D__law_all_same : Df K mg "_law_all_same" s__law_all_same := ⟨f13, _, fun_mk (st := s__law_all_same) l13 c13 k13, PySem.W.mg_of X G a13⟩
  have D__law_line : Df K mg "_law_line" s__law_line := ⟨f14, _, fun_mk (st := s__law_line) l14 c14 k14, PySem.W.mg_of X G a14⟩
  have D_Grammar___init__ : DfE K (cA K "Grammar") "__init__" "Grammar.__init__" s_Grammar___init__ 1 := ⟨f16, _, ⟨⟨_, _, _, _, _, _, _, _, _, _, rfl, l16, c16, .inr ⟨T16, _, [v16_0], _, rfl, lT16, rfl, rfl, by decide⟩⟩, k16⟩, a16, i16⟩
  have D_Grammar_from_string : DfC K (cA K "Grammar") "from_string" "Grammar.from_string" s_Grammar_from_string := ⟨p17, f17, _, ⟨⟨_, _, _, _, _, _, _, _, _, _, rfl, l17, c17, .inl ⟨rfl, rfl⟩⟩, k17⟩, ⟨y_r17, y_g17⟩, ⟨y_a17, ⟨_, y_c17⟩, y_f17⟩⟩
  have D_Grammar___iter__ : DfE K (cA K "Grammar") "__iter__" "Grammar.__iter__" s_Grammar___iter__ 0 := ⟨f18, _, ⟨⟨_, _, _, _, _, _, _, _, _, _, rfl, l18, c18, .inl ⟨rfl, rfl⟩⟩, k18⟩, a18, i18⟩
  have D_Grammar___str__ : DfE K (cA K "Grammar") "__str__" "Grammar.__str__" s_Grammar___str__ 0 := ⟨f19, _, ⟨⟨_, _, _, _, _, _, _, _, _, _, rfl, l19, c19, .inl ⟨rfl, rfl⟩⟩, k19⟩, a19, i19⟩
  have C__law_cell : Cal l.prog w K mg base CX0 "_law_cell" 1 p__law_cell (sp__law_cell K) := c__law_cell D__law_cell B_len B_int
  have C__law_draws : Cal l.prog w K mg base CX0 "_law_draws" 1 p__law_draws (sp__law_draws K) := c__law_draws D__law_draws B_int B_range
  have C__law_name : Cal l.prog w K mg base CX0 "_law_name" 1 p__law_name (sp__law_name K) := c__law_name D__law_name B_int
  have C__law_rules : Cal l.prog w K mg base CX0 "_law_rules" 2 p__law_rules (sp__law_rules K) := c__law_rules D__law_rules B_range B_int B_len B_tuple C__law_draws C__law_name
  have C__law_grouped : Cal l.prog w K mg base CX0 "_law_grouped" 1 p__law_grouped (sp__law_grouped K) := c__law_grouped D__law_grouped 
  have C_format_rule : Cal l.prog w K mg base CX0 "format_rule" 1 p_format_rule (sp_format_rule K) := c_format_rule D_format_rule 
  have C__law_line : Cal l.prog w K mg base CX0 "_law_line" 1 p__law_line (sp__law_line K) := c__law_line D__law_line 
  have C_is_owner : Cal l.prog w K mg base CX0 "is_owner" 1 p_is_owner (sp_is_owner K) := c_is_owner D_is_owner B_len B_all M_LONGEST M_SMALL
  have C_is_plain : Cal l.prog w K mg base CX0 "is_plain" 1 p_is_plain (sp_is_plain K) := c_is_plain D_is_plain B_len B_all M_LONGEST M_DIGITS M_SMALL M_CAPITAL
  have C_is_sign : Cal l.prog w K mg base CX0 "is_sign" 2 p_is_sign (sp_is_sign K) := c_is_sign D_is_sign B_len C_is_owner C_is_plain
  have C_is_token : Cal l.prog w K mg base CX0 "is_token" 1 p_is_token (sp_is_token K) := c_is_token D_is_token M_SMALL
  have C_parse_rule : Cal l.prog w K mg base CX0 "parse_rule" 3 p_parse_rule (sp_parse_rule K) := c_parse_rule D_parse_rule B_len B_all B_tuple C_is_sign C_is_token
  have C_grouped : Cal l.prog w K mg base CX0 "grouped" 1 p_grouped (sp_grouped K) := c_grouped D_grouped 
  have I_Grammar : CalI l.prog w K mg base CX0 (cA K "Grammar") 2 p_Grammar___init__ (sp_Grammar___init__ K) := (c_Grammar___init__ D_Grammar___init__ K_Grammar N_Grammar_rows C_grouped).1
  have CM_Grammar_from_string : CalC l.prog w K mg base (cA K "Grammar") "from_string" 4 (sp_Grammar_from_string K) := c_Grammar_from_string D_Grammar_from_string B_enumerate K_Grammar I_Grammar E_BadLine C_parse_rule
  have Y_Grammar : ItOk l.prog w K mg base (cA K "Grammar") "rows" := c_Grammar___iter__ D_Grammar___iter__ K_Grammar.cl N_Grammar_rows B_iter
  have C__law_same : Cal l.prog w K mg base CX0 "_law_same" 1 p__law_same (sp__law_same K) := c__law_same D__law_same B_tuple B_isinstance B_len B_str
  have C__law_all_same : Cal l.prog w K mg base CX0 "_law_all_same" 2 p__law_all_same (sp__law_all_same K) := c__law_all_same D__law_all_same B_len B_range C__law_same
  have M_Grammar___str__ : CalM l.prog w K mg base CX0 (cA K "Grammar") "__str__" 2 p_Grammar___str__ (sp_Grammar___str__ K) := c_Grammar___str__ D_Grammar___str__ K_Grammar N_Grammar_rows C_format_rule
  exact c_law (fun_mk (st := s_law) l15 c15 k15) B_str B_isinstance B_list K_Grammar CM_Grammar_from_string Y_Grammar L_Grammar M_Grammar___str__ C__law_cell C__law_rules C__law_grouped C_format_rule C__law_line C__law_all_same
theorem walk {l : PySem.W.OpenLaw} {q : Program} {loose : List Str} {XP : (Str → Option Value) → Heap → Prop} {YP : World → Heap → Prop} {d : DefRec} {K : Params → PySem.W.Frag} (hn : l.most = some 63) (hdf : d.params.defaults = [])
    (hY : ∀ (w : World) (h : Heap), YP w h → (K w.params).In h)
    (F : ∀ (w : World) (mg : Str → Option Value) (fa : Addr) (h : Heap), (K w.params).In h → h.Ns mainGlobals mg → mg d.name = some (.ref fa) →
      ∃ fd : FuncData, (∀ (s : Shared) (u : Value), BindsTo s fd ⟨[u], []⟩ [("_law_script", u)]) ∧ ∀ base : Heap, (K w.params).In base → base.Ns mainGlobals mg → FnOk l.prog w (K w.params) mg base CX0 5 fa fd ["_law_script"] (sp_law (K w.params))) :
    PySem.W.WalkO q loose XP YP l.row.toRowW d [] (fun f vs => PySem.call f vs) :=
  L2.walk_of (n := 63) (k := 5) (x := "_law_script") (CX := fun _ => CX0) (sp := fun w => sp_law (K w.params)) hn (by decide) hdf ⟨rfl, by decide, by decide⟩ hY F
    (fun _ H a ns hl _ hS => ⟨(ns, ()), true, ⟨_, _, rfl, ⟨a, _, rfl, hS, A2.of_map _⟩, rfl⟩, law_ok ns, fun v H' _ z => z⟩) fun _ _ _ _ _ z => z
end Gt

open PySem PySem.W PyProof.Rows in
set_option maxRecDepth 100000 in
set_option maxHeartbeats 0 in
theorem PySem.Challenge.cw_guesttongues_k03_lines_holds : PySem.Challenge.rw_guesttongues_k03_lines.Holds := by
  w_on; o_law; k_head; (case hw => w_witness2)
  k_fill
  refine Gt.walk (l := PySem.Challenge.rw_guesttongues_k03_lines) rfl rfl (fun w h Y => PySem.W.kIn_of Y) ?F
  case F =>
    intro w mg fa h KX G hmg
    refine' Gt.all_mk KX G hmg ?aC0 ?pg0 ?hd0 ?po0 ?sa0 ?sf0 ?nq0 ?mk0 ?kc0 ?na0 ?nl0 ?nh0 ?a0 ?l0 ?c0 ?k0 ?a1 ?l1 ?c1 ?k1 ?a2 ?l2 ?c2 ?k2 ?a3 ?l3 ?c3 ?k3 ?a4 ?l4 ?c4 ?k4 ?a5 ?l5 ?c5 ?k5 ?a6 ?l6 ?c6 ?k6 ?a7 ?l7 ?c7 ?k7 ?a8 ?l8 ?c8 ?k8 ?a9 ?l9 ?c9 ?k9 ?a10 ?l10 ?c10 ?k10 ?a11 ?l11 ?c11 ?k11 ?a12 ?l12 ?c12 ?k12 ?a13 ?l13 ?c13 ?k13 ?a14 ?l14 ?c14 ?k14 ?a15 ?l15 ?c15 ?k15 ?a16 ?i16 ?l16 ?lT16 ?c16 ?k16 ?y_a17 ?y_c17 ?y_f17 ?y_r17 ?y_g17 ?l17 ?c17 ?k17 ?a18 ?i18 ?l18 ?c18 ?k18 ?a19 ?i19 ?l19 ?c19 ?k19 ?z0 ?z1 ?z2 ?z3 ?z4 ?z5 ?z6 ?z7 ?z8 ?z9 ?mc0 ?mc1 ?mc2 ?mc3 ?x_BadLine_a ?x_BadLine_h ?x_BadLine_bm ?x_BadLine_sa ?x_BadLine_ga ?x_BadLine_gg ?x_BadLine_no ?x_BadLine_i ?x_BadLine_t ?x_BadLine_k ?x_BadLine_e ?x_BadLine_ty ?x_BadLine_hd ?x_BadLine_su ?x_BadLine_sB ?x_BadLine_sS ?x_BadLine_op ?x_BadLine_ns ?x_BadLine_lf ?x_BadLine_hc ?x_BadLine_lc ?x_BadLine_lo ?x_BadLine_hv ?x_BadLine_hf ?x_BadLine_ht
    (case aC0 => k_is)
    (case pg0 => k_is)
    (case hd0 => k_is)
    (case po0 => k_is)
    (case sa0 => k_is)
    (case sf0 => k_is)
    (case nq0 => k_is)
    (case mk0 => k_is)
    (case kc0 => k_is)
    (case na0 => k_is)
    (case nl0 => k_is)
    (case nh0 => k_is)
    (case a0 => k_is)
    (case l0 => k_is)
    (case c0 => k_is)
    (case k0 => k_is)
    (case a1 => k_is)
    (case l1 => k_is)
    (case c1 => k_is)
    (case k1 => k_is)
    (case a2 => k_is)
    (case l2 => k_is)
    (case c2 => k_is)
    (case k2 => k_is)
    (case a3 => k_is)
    (case l3 => k_is)
    (case c3 => k_is)
    (case k3 => k_is)
    (case a4 => k_is)
    (case l4 => k_is)
    (case c4 => k_is)
    (case k4 => k_is)
    (case a5 => k_is)
    (case l5 => k_is)
    (case c5 => k_is)
    (case k5 => k_is)
    (case a6 => k_is)
    (case l6 => k_is)
    (case c6 => k_is)
    (case k6 => k_is)
    (case a7 => k_is)
    (case l7 => k_is)
    (case c7 => k_is)
    (case k7 => k_is)
    (case a8 => k_is)
    (case l8 => k_is)
    (case c8 => k_is)
    (case k8 => k_is)
    (case a9 => k_is)
    (case l9 => k_is)
    (case c9 => k_is)
    (case k9 => k_is)
    (case a10 => k_is)
    (case l10 => k_is)
    (case c10 => k_is)
    (case k10 => k_is)
    (case a11 => k_is)
    (case l11 => k_is)
    (case c11 => k_is)
    (case k11 => k_is)
    (case a12 => k_is)
    (case l12 => k_is)
    (case c12 => k_is)
    (case k12 => k_is)
    (case a13 => k_is)
    (case l13 => k_is)
    (case c13 => k_is)
    (case k13 => k_is)
    (case a14 => k_is)
    (case l14 => k_is)
    (case c14 => k_is)
    (case k14 => k_is)
    (case a15 => k_is)
    (case l15 => k_is)
    (case c15 => k_is)
    (case k15 => k_is)
    (case a16 => k_is)
    (case i16 => k_is)
    (case l16 => k_is)
    (case lT16 => k_is)
    (case c16 => k_is)
    (case k16 => k_is)
    (case y_a17 => first | k_is | rfl | decide +kernel | kernel_rfl)
    (case y_c17 => first | k_is | rfl | decide +kernel | kernel_rfl)
    (case y_f17 => first | k_is | rfl | decide +kernel | kernel_rfl)
    (case y_r17 => first | k_is | rfl | decide +kernel | kernel_rfl)
    (case y_g17 => first | k_is | rfl | decide +kernel | kernel_rfl)
    (case l17 => k_is)
    (case c17 => k_is)
    (case k17 => k_is)
    (case a18 => k_is)
    (case i18 => k_is)
    (case l18 => k_is)
    (case c18 => k_is)
    (case k18 => k_is)
    (case a19 => k_is)
    (case i19 => k_is)
    (case l19 => k_is)
    (case c19 => k_is)
    (case k19 => k_is)
    (case z0 => k_is)
    (case z1 => k_is)
    (case z2 => k_is)
    (case z3 => k_is)
    (case z4 => k_is)
    (case z5 => k_is)
    (case z6 => k_is)
    (case z7 => k_is)
    (case z8 => k_is)
    (case z9 => k_is)
    (case mc0 => k_is)
    (case mc1 => k_is)
    (case mc2 => k_is)
    (case mc3 => k_is)
    (case x_BadLine_a => first | k_is | rfl | decide +kernel | kernel_rfl)
    (case x_BadLine_h => first | k_is | rfl | decide +kernel | kernel_rfl)
    (case x_BadLine_bm => first | k_is | rfl | decide +kernel | kernel_rfl)
    (case x_BadLine_sa => first | k_is | rfl | decide +kernel | kernel_rfl)
    (case x_BadLine_ga => first | k_is | rfl | decide +kernel | kernel_rfl)
    (case x_BadLine_gg => first | k_is | rfl | decide +kernel | kernel_rfl)
    (case x_BadLine_no => first | k_is | rfl | decide +kernel | kernel_rfl)
    (case x_BadLine_i => first | k_is | rfl | decide +kernel | kernel_rfl)
    (case x_BadLine_t => first | k_is | rfl | decide +kernel | kernel_rfl)
    (case x_BadLine_k => first | k_is | rfl | decide +kernel | kernel_rfl)
    (case x_BadLine_e => first | k_is | rfl | decide +kernel | kernel_rfl)
    (case x_BadLine_ty => first | k_is | rfl | decide +kernel | kernel_rfl)
    (case x_BadLine_hd => first | k_is | rfl | decide +kernel | kernel_rfl)
    (case x_BadLine_su => first | k_is | rfl | decide +kernel | kernel_rfl)
    (case x_BadLine_sB => first | k_is | rfl | decide +kernel | kernel_rfl)
    (case x_BadLine_sS => first | k_is | rfl | decide +kernel | kernel_rfl)
    (case x_BadLine_op => first | k_is | rfl | decide +kernel | kernel_rfl)
    (case x_BadLine_ns => first | k_is | rfl | decide +kernel | kernel_rfl)
    (case x_BadLine_lf => first | k_is | rfl | decide +kernel | kernel_rfl)
    (case x_BadLine_hc => first | k_is | rfl | decide +kernel | kernel_rfl)
    (case x_BadLine_lc => first | k_is | rfl | decide +kernel | kernel_rfl)
    (case x_BadLine_lo => first | k_is | rfl | decide +kernel | kernel_rfl)
    (case x_BadLine_hv => first | k_is | rfl | decide +kernel | kernel_rfl)
    (case x_BadLine_hf => first | k_is | rfl | decide +kernel | kernel_rfl)
    (case x_BadLine_ht => first | k_is | rfl | decide +kernel | kernel_rfl)
#print axioms PySem.Challenge.cw_guesttongues_k03_lines_holds
