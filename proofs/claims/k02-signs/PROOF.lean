import PyProof.Rows.All
import Wide.All
import OpenK.AllK
import Wide.FinOn
import HandS.ForMost
import HandS.Evl
import HandS.IsInst
import HandS.Deep
import PyProof.StrLawsLast
import PyProof.StrLawsFirst
import PySem.Challenge.RW_guesttongues_k02_signs
set_option Elab.async false
set_option linter.all false
set_option maxRecDepth 100000
set_option maxHeartbeats 1000000
/-! Gt1: what slots hold, as data (cells), and what an expression or statement makes of them. -/
namespace Gt
open PySem PySem.Spec PyProof.Rows L2

/-- two lists, item by item -/
inductive A2 {α β : Type} (r : α → β → Prop) : List α → List β → Prop
  | nil : A2 r [] []
  | cons {a : α} {b : β} {as : List α} {bs : List β} : r a b → A2 r as bs → A2 r (a :: as) (b :: bs)
theorem A2.imp {α β : Type} {r q : α → β → Prop} (f : ∀ a b, r a b → q a b) : ∀ {as : List α} {bs : List β}, A2 r as bs → A2 q as bs
  | _, _, .nil => .nil
  | _, _, .cons h t => .cons (f _ _ h) (A2.imp f t)
theorem A2.len {α β : Type} {r : α → β → Prop} : ∀ {as : List α} {bs : List β}, A2 r as bs → as.length = bs.length
  | _, _, .nil => rfl
  | _, _, .cons _ t => by rw [List.length_cons, List.length_cons, A2.len t]
theorem A2.get {α β : Type} {r : α → β → Prop} : ∀ {as : List α} {bs : List β} {i : Nat} {a : α}, A2 r as bs → as[i]? = some a → ∃ b, bs[i]? = some b ∧ r a b
  | _, _, _, _, .nil, e => by simp at e
  | _, _, 0, _, .cons h _, e => by simp at e; subst e; exact ⟨_, rfl, h⟩
  | _, _, i + 1, a, .cons _ t, e => by
    obtain ⟨b, h1, h2⟩ := A2.get (i := i) (a := a) t (by simpa using e)
    exact ⟨b, by simpa using h1, h2⟩
theorem A2.get' {α β : Type} {r : α → β → Prop} : ∀ {as : List α} {bs : List β} {i : Nat} {b : β}, A2 r as bs → bs[i]? = some b → ∃ a, as[i]? = some a ∧ r a b
  | _, _, _, _, .nil, e => by simp at e
  | _, _, 0, _, .cons h _, e => by simp at e; subst e; exact ⟨_, rfl, h⟩
  | _, _, i + 1, b, .cons _ t, e => by
    obtain ⟨a, h1, h2⟩ := A2.get' (i := i) (b := b) t (by simpa using e)
    exact ⟨a, by simpa using h1, h2⟩
theorem A2.app {α β : Type} {r : α → β → Prop} {cs : List α} {ds : List β} (t : A2 r cs ds) : ∀ {as : List α} {bs : List β}, A2 r as bs → A2 r (as ++ cs) (bs ++ ds)
  | _, _, .nil => t
  | _, _, .cons h u => .cons h (A2.app t u)
theorem A2.one {α β : Type} {r : α → β → Prop} {a : α} {b : β} (h : r a b) : A2 r [a] [b] := .cons h .nil
theorem A2.drop {α β : Type} {r : α → β → Prop} : ∀ {as : List α} {bs : List β} (n : Nat), A2 r as bs → A2 r (as.drop n) (bs.drop n)
  | _, _, 0, h => h
  | _, _, _ + 1, .nil => .nil
  | _, _, n + 1, .cons _ t => A2.drop n t
theorem A2.take {α β : Type} {r : α → β → Prop} : ∀ {as : List α} {bs : List β} (n : Nat), A2 r as bs → A2 r (as.take n) (bs.take n)
  | _, _, 0, _ => .nil
  | _, _, _ + 1, .nil => .nil
  | _, _, n + 1, .cons h t => .cons h (A2.take n t)
theorem A2.rev {α β : Type} {r : α → β → Prop} : ∀ {as : List α} {bs : List β}, A2 r as bs → A2 r as.reverse bs.reverse
  | _, _, .nil => .nil
  | _, _, .cons h t => by
    rw [List.reverse_cons, List.reverse_cons]
    exact A2.app (.one h) (A2.rev t)
theorem A2.set {α β : Type} {r : α → β → Prop} {a : α} {b : β} (h : r a b) : ∀ {as : List α} {bs : List β} (i : Nat), A2 r as bs → A2 r (as.set i a) (bs.set i b)
  | _, _, _, .nil => .nil
  | _, _, 0, .cons _ t => .cons h t
  | _, _, i + 1, .cons q t => .cons q (A2.set h i t)
theorem A2.map_eq {α β : Type} {f : β → α} : ∀ {as : List α} {bs : List β}, A2 (fun a b => a = f b) as bs → as = bs.map f
  | _, _, .nil => rfl
  | _, _, .cons h t => by rw [List.map_cons, ← A2.map_eq t, h]
theorem A2.of_map {α β : Type} {f : β → α} : ∀ (bs : List β), A2 (fun a b => a = f b) (bs.map f) bs
  | [] => .nil
  | _ :: r => .cons rfl (A2.of_map r)

/-- all tuples stay -/
def ExT (K : PySem.W.Frag) (H H' : Hp) : Prop := ∀ a xs, SqT K H a xs → SqT K H' a xs
theorem ExT.refl {K : PySem.W.Frag} (H : Hp) : ExT K H H := fun _ _ h => h
theorem ExT.trans {K : PySem.W.Frag} {H H1 H2 : Hp} (a : ExT K H H1) (b : ExT K H1 H2) : ExT K H H2 := fun x o h => b x o (a x o h)
theorem ext_same {K : PySem.W.Frag} {H H' : Hp} (e : Same H H') : ExT K H H' := fun a xs h => by
  rcases h with (h | ⟨o, h⟩) | h
  · exact .inl (.inl (e _ _ h))
  · exact .inl (.inr ⟨o, e _ _ h⟩)
  · exact .inr h
def isTup : HO → Prop
  | .tup _ => True
  | .frz _ _ => True
  | _ => False
/-- what is neither a tuple nor locked is changed -/
theorem ext_upd {K : PySem.W.Frag} {H : Hp} {p : Addr} {o u : HO} (h : H p = some o) (n : ¬ isTup o) : ExT K H (upd H p u) := fun a xs q => by
  have hne : ∀ w, H a = some w → isTup w → a ≠ p := fun w e t z => by
    subst z
    rw [h] at e
    cases e
    exact n t
  rcases q with (q | ⟨o', q⟩) | q
  · exact .inl (.inl (by rw [upd_ne (hne _ q trivial)]; exact q))
  · exact .inl (.inr ⟨o', by rw [upd_ne (hne _ q trivial)]; exact q⟩)
  · exact .inr q

abbrev Rp (β : Type) := Hp → V → β → Prop
class Mono {β : Type} (r : Rp β) : Prop where
  up : ∀ {H H' : Hp} {v : V} {b : β}, Same H H' → r H v b → r H' v b
class Frz (K : PySem.W.Frag) {β : Type} (r : Rp β) : Prop where
  up : ∀ {H H' : Hp} {v : V} {b : β}, ExT K H H' → r H v b → r H' v b
theorem Frz.mono {K : PySem.W.Frag} {β : Type} {r : Rp β} [F : Frz K r] {H H' : Hp} {v : V} {b : β} (e : Same H H') (h : r H v b) : r H' v b := F.up (ext_same e) h

/-! ### flat things -/
def rI : Rp Int := fun _ v n => v = .int n
def rB : Rp Bool := fun _ v n => v = .bl n
def rS : Rp Str := fun _ v n => v = .str n
def rN : Rp Unit := fun _ v _ => v = .non
def rV : Rp V := fun _ v w => v = w
/-- None or a thing -/
def rO {β : Type} (r : Rp β) : Rp (Option β) := fun H v o => match o with
  | .none => v = .non
  | .some b => r H v b
/-- a tuple of things of one kind | a pair -/
def rT (K : PySem.W.Frag) {β : Type} (r : Rp β) : Rp (List β) := fun H v xs => ∃ a vs, v = .ref a ∧ SqT K H a vs ∧ A2 (r H) vs xs
def rP (K : PySem.W.Frag) {α β : Type} (r : Rp α) (q : Rp β) : Rp (α × β) := fun H v p => ∃ a x y, v = .ref a ∧ SqT K H a [x, y] ∧ r H x p.1 ∧ q H y p.2
/-- a list of things of one kind -/
def rL {β : Type} (r : Rp β) : Rp (List β) := fun H v xs => ∃ a vs, v = .ref a ∧ H a = some (.lst vs) ∧ A2 (r H) vs xs
section
variable {K : PySem.W.Frag} {α β : Type}
instance : Mono rI := ⟨fun _ h => h⟩
instance : Mono rB := ⟨fun _ h => h⟩
instance : Mono rS := ⟨fun _ h => h⟩
instance : Mono rN := ⟨fun _ h => h⟩
instance : Mono rV := ⟨fun _ h => h⟩
instance : Frz K rI := ⟨fun _ h => h⟩
instance : Frz K rB := ⟨fun _ h => h⟩
instance : Frz K rS := ⟨fun _ h => h⟩
instance : Frz K rN := ⟨fun _ h => h⟩
instance : Frz K rV := ⟨fun _ h => h⟩
instance {r : Rp β} [M : Mono r] : Mono (rO r) := ⟨fun {_ _ _ b} e h => match b, h with
  | .none, h => h
  | .some _, h => M.up (v := _) e h⟩
instance {r : Rp β} [M : Frz K r] : Frz K (rO r) := ⟨fun {_ _ _ b} e h => match b, h with
  | .none, h => h
  | .some _, h => M.up (v := _) e h⟩
instance {r : Rp β} [M : Mono r] : Mono (rT K r) := ⟨fun e ⟨a, vs, ev, h, q⟩ => ⟨a, vs, ev, ext_same e _ _ h, q.imp fun _ _ z => M.up e z⟩⟩
instance {r : Rp β} [M : Frz K r] : Frz K (rT K r) := ⟨fun e ⟨a, vs, ev, h, q⟩ => ⟨a, vs, ev, e _ _ h, q.imp fun _ _ z => M.up e z⟩⟩
instance {r : Rp α} {q : Rp β} [M : Mono r] [N : Mono q] : Mono (rP K r q) := ⟨fun e ⟨a, x, y, ev, h, h1, h2⟩ => ⟨a, x, y, ev, ext_same e _ _ h, M.up e h1, N.up e h2⟩⟩
instance {r : Rp α} {q : Rp β} [M : Frz K r] [N : Frz K q] : Frz K (rP K r q) := ⟨fun e ⟨a, x, y, ev, h, h1, h2⟩ => ⟨a, x, y, ev, e _ _ h, M.up e h1, N.up e h2⟩⟩
instance {r : Rp β} [M : Mono r] : Mono (rL r) := ⟨fun e ⟨a, vs, ev, h, q⟩ => ⟨a, vs, ev, e _ _ h, q.imp fun _ _ z => M.up e z⟩⟩
end

/-! ### owned things: with the addresses that belong to them -/
structure Rs (K : PySem.W.Frag) (β : Type) where
  rep : Hp → V → β → List Addr → Prop
  stay : ∀ {H H' : Hp} {v : V} {b : β} {as : List Addr}, rep H v b as → ExT K H H' → (∀ p, p ∈ as → ∀ o, H p = some o → H' p = some o) → rep H' v b as
  there : ∀ {H : Hp} {v : V} {b : β} {as : List Addr}, rep H v b as → ∀ p, p ∈ as → ∃ o, H p = some o ∧ ¬ isTup o
/-- it is so as long as the tuples stay -/
def Stb (K : PySem.W.Frag) {β : Type} (r : Rp β) : Rp β := fun H v b => ∀ H', ExT K H H' → r H' v b
theorem Stb.up {K : PySem.W.Frag} {β : Type} {r : Rp β} {H H' : Hp} {v : V} {b : β} (x : ExT K H H') (h : Stb K r H v b) : Stb K r H' v b := fun H2 y => h H2 (x.trans y)
theorem Stb.now {K : PySem.W.Frag} {β : Type} {r : Rp β} {H : Hp} {v : V} {b : β} (h : Stb K r H v b) : r H v b := h H (ExT.refl H)
theorem stb {K : PySem.W.Frag} {β : Type} {r : Rp β} [F : Frz K r] {H : Hp} {v : V} {b : β} (h : r H v b) : Stb K r H v b := fun _ x => F.up x h
theorem stbs {K : PySem.W.Frag} {β : Type} {r : Rp β} [F : Frz K r] {H : Hp} {vs : List V} {bs : List β} (h : A2 (r H) vs bs) : A2 (Stb K r H) vs bs := h.imp fun _ _ z => stb z
theorem nows {K : PySem.W.Frag} {β : Type} {r : Rp β} {H : Hp} {vs : List V} {bs : List β} (h : A2 (Stb K r H) vs bs) : A2 (r H) vs bs := h.imp fun _ _ z => z.now
/-- a frozen thing owns nothing -/
def fz (K : PySem.W.Frag) {β : Type} (r : Rp β) : Rs K β where
  rep := fun H v b as => as = [] ∧ Stb K r H v b
  stay := fun ⟨e, h⟩ x _ => ⟨e, h.up x⟩
  there := fun ⟨e, _⟩ p hp => by rw [e] at hp; cases hp
/-- a list (owned) of frozen things -/
def nl (K : PySem.W.Frag) {β : Type} (r : Rp β) : Rs K (List β) where
  rep := fun H v xs as => ∃ p vs, as = [p] ∧ v = .ref p ∧ H p = some (.lst vs) ∧ A2 (Stb K r H) vs xs
  stay := fun ⟨p, vs, e, ev, h, q⟩ x k => ⟨p, vs, e, ev, k p (by rw [e]; exact List.mem_singleton.mpr rfl) _ h, q.imp fun _ _ z => z.up x⟩
  there := fun ⟨p, vs, e, _, h, _⟩ b hb => by
    rw [e] at hb
    cases List.mem_singleton.mp hb
    exact ⟨_, h, fun z => z⟩
/-- a dict (owned) with texts as keys and frozen values -/
def nd (K : PySem.W.Frag) {β : Type} (r : Rp β) : Rs K (List (Str × β)) where
  rep := fun H v xs as => ∃ p kvs, as = [p] ∧ v = .ref p ∧ H p = some (.dK kvs) ∧ A2 (fun (x : Key × V) (y : Str × β) => x.1 = Sum.inr y.1 ∧ Stb K r H x.2 y.2) kvs xs
  stay := fun ⟨p, vs, e, ev, h, q⟩ x k => ⟨p, vs, e, ev, k p (by rw [e]; exact List.mem_singleton.mpr rfl) _ h, q.imp fun _ _ z => ⟨z.1, z.2.up x⟩⟩
  there := fun ⟨p, vs, e, _, h, _⟩ b hb => by
    rw [e] at hb
    cases List.mem_singleton.mp hb
    exact ⟨_, h, fun z => z⟩

/-! ### cells -/
inductive Cell (K : PySem.W.Frag) : Type 1
  | ow {β : Type} (R : Rs K β) (b : β)
  | ro {β : Type} (r : Rp β) (m : Mono r) (b : β)
def Cell.ok {K : PySem.W.Frag} (H0 H : Hp) (v : V) (as : List Addr) : Cell K → Prop
  | .ow R b => R.rep H v b as
  | .ro r _ b => as = [] ∧ r H0 v b
/-- a flat or frozen thing -/
abbrev fc {K : PySem.W.Frag} {β : Type} (r : Rp β) (b : β) : Option (Cell K) := some (.ow (fz K r) b)
/-- a thing that was there, unchanged -/
abbrev rc {K : PySem.W.Frag} {β : Type} (r : Rp β) [m : Mono r] (b : β) : Option (Cell K) := some (.ro r m b)
abbrev Cells (K : PySem.W.Frag) := List (Option (Cell K))

structure Env {K : PySem.W.Frag} (H0 : Hp) (σ : L2.St) (H : Hp) (G : Cells K) : Prop where
  old : Same H0 H
  len : σ.length = G.length
  at_ : ∃ own : Nat → List Addr, (∀ i p, p ∈ own i → H0 p = none ∧ ∃ o, H p = some o ∧ ¬ isTup o) ∧ (∀ i j p, p ∈ own i → p ∈ own j → i = j) ∧
    ∀ (i : Nat) (c : Cell K), G[i]? = some (some c) → ∃ v, σ[i]? = some (some v) ∧ c.ok H0 H v (own i)

section
variable {K : PySem.W.Frag} {H0 H H' : Hp} {σ : L2.St} {G G' : Cells K} {α β γ : Type}
theorem cell_stay {c : Cell K} {v : V} {as : List Addr} (h : c.ok H0 H v as) (x : ExT K H H') (k : ∀ p, p ∈ as → ∀ o, H p = some o → H' p = some o) : c.ok H0 H' v as := by
  cases c with
  | ow R b => exact R.stay h x k
  | ro r m b => exact h
/-- more is tracked -/
theorem Env.grow (E : Env H0 σ H G) (e : Same H H') : Env H0 σ H' G := by
  obtain ⟨own, h1, h2, h3⟩ := E.at_
  refine ⟨E.old.trans e, E.len, own, fun i p hp => ⟨(h1 i p hp).1, ?_⟩, h2, fun i c hc => ?_⟩
  · obtain ⟨o, ho, nt⟩ := (h1 i p hp).2
    exact ⟨o, e _ _ ho, nt⟩
  · obtain ⟨v, hv, hk⟩ := h3 i c hc
    exact ⟨v, hv, cell_stay hk (ext_same e) fun p _ o ho => e _ _ ho⟩
/-- less is said -/
inductive Sub : Cells K → Cells K → Prop
  | nil : Sub [] []
  | keep {c : Option (Cell K)} {G G' : Cells K} : Sub G G' → Sub (c :: G) (c :: G')
  | drop {c : Option (Cell K)} {G G' : Cells K} : Sub G G' → Sub (c :: G) (none :: G')
theorem Sub.get : ∀ {G G' : Cells K} {i : Nat} {c : Cell K}, Sub G G' → G'[i]? = some (some c) → G[i]? = some (some c)
  | _, _, _, _, .nil, h => by simp at h
  | _, _, 0, _, .keep _, h => h
  | _, _, i + 1, c, .keep s, h => by
    have := Sub.get (i := i) (c := c) s (by simpa using h)
    simpa using this
  | _, _, 0, _, .drop _, h => by simp at h
  | _, _, i + 1, c, .drop s, h => by
    have := Sub.get (i := i) (c := c) s (by simpa using h)
    simpa using this
theorem Sub.len : ∀ {G G' : Cells K}, Sub G G' → G.length = G'.length
  | _, _, .nil => rfl
  | _, _, .keep s => by rw [List.length_cons, List.length_cons, Sub.len s]
  | _, _, .drop s => by rw [List.length_cons, List.length_cons, Sub.len s]
theorem Sub.refl : ∀ G : Cells K, Sub G G
  | [] => .nil
  | _ :: G => .keep (Sub.refl G)
theorem Env.less (E : Env H0 σ H G) (s : Sub G G') : Env H0 σ H G' := by
  obtain ⟨own, h1, h2, h3⟩ := E.at_
  exact ⟨E.old, E.len.trans s.len, own, h1, h2, fun i c hc => h3 i c (s.get hc)⟩
/-- a slot gets an owned or frozen thing -/
theorem Env.put {i : Nat} {v : V} {R : Rs K β} {b : β} {as : List Addr} (E : Env H0 σ H G) (e : Same H H') (hn : ∀ p, p ∈ as → H p = none) (h : R.rep H' v b as) : Env H0 (σ.set i (some v)) H' (G.set i (some (.ow R b))) := by
  have E' := E.grow e
  obtain ⟨own, h1, h2, h3⟩ := E.at_
  have hf : ∀ j p, p ∈ own j → H p ≠ none := fun j p hp z => by
    obtain ⟨o, ho, _⟩ := (h1 j p hp).2
    rw [z] at ho
    cases ho
  refine ⟨E'.old, by rw [List.length_set, List.length_set]; exact E.len, fun j => if j = i then as else own j, fun j p hp => ?_, fun j k p hj hk => ?_, fun j c hc => ?_⟩
  · by_cases hji : j = i
    · simp only [hji, if_true] at hp
      refine ⟨?_, R.there h p hp⟩
      cases q : H0 p with
      | none => rfl
      | some o =>
        have := E.old p o q
        rw [hn p hp] at this
        cases this
    · simp only [hji, if_false] at hp
      obtain ⟨o, ho, nt⟩ := (h1 j p hp).2
      exact ⟨(h1 j p hp).1, o, e _ _ ho, nt⟩
  · by_cases hji : j = i <;> by_cases hki : k = i
    · rw [hji, hki]
    · simp only [hji, hki, if_true, if_false] at hj hk
      exact absurd (hn p hj) (hf k p hk)
    · simp only [hji, hki, if_true, if_false] at hj hk
      exact absurd (hn p hk) (hf j p hj)
    · simp only [hji, hki, if_false] at hj hk
      exact h2 j k p hj hk
  · by_cases hji : j = i
    · subst hji
      have hl : j < σ.length := by
        have := (List.getElem?_eq_some_iff.mp hc).1
        rw [List.length_set] at this
        rw [E.len]
        exact this
      rw [List.getElem?_set_self (by rw [← E.len]; exact hl)] at hc
      cases hc
      refine ⟨v, List.getElem?_set_self hl, ?_⟩
      simp only [if_true]
      exact h
    · rw [List.getElem?_set_ne (Ne.symm hji)] at hc
      obtain ⟨w, hw, hk⟩ := h3 j c hc
      refine ⟨w, by rw [List.getElem?_set_ne (Ne.symm hji)]; exact hw, ?_⟩
      simp only [hji, if_false]
      exact cell_stay hk (ext_same e) fun p _ o ho => e _ _ ho
/-- an owned thing at slot i is changed in place -/
theorem Env.mut {i : Nat} {R : Rs K β} {R' : Rs K γ} {b : β} {b' : γ} {v : V} {as : List Addr} (E : Env H0 σ H G) (hi : G[i]? = some (some (.ow R b))) (hv : σ[i]? = some (some v))
    (x : ExT K H H') (k : ∀ p o, p ∉ as → H p = some o → H' p = some o) (th : ∀ w bs, σ[i]? = some (some w) → R.rep H w b bs → bs = as) (h : R'.rep H' v b' as) : Env H0 σ H' (G.set i (some (.ow R' b'))) := by
  obtain ⟨own, h1, h2, h3⟩ := E.at_
  obtain ⟨w, hw, hk⟩ := h3 i _ hi
  have eas : own i = as := th w _ hw hk
  have nas : ∀ j p, j ≠ i → p ∈ own j → p ∉ as := fun j p hj hp z => hj (h2 j i p hp (by rw [eas]; exact z))
  refine ⟨fun p o ho => k p o (fun z => ?_) (E.old p o ho), by rw [List.length_set]; exact E.len, own, fun j p hp => ⟨(h1 j p hp).1, ?_⟩, h2, fun j c hc => ?_⟩
  · have := (h1 i p (by rw [eas]; exact z)).1
    rw [this] at ho
    cases ho
  · by_cases hj : j = i
    · rw [hj, eas] at hp
      exact R'.there h p hp
    · obtain ⟨o, ho, nt⟩ := (h1 j p hp).2
      exact ⟨o, k p o (nas j p hj hp) ho, nt⟩
  · by_cases hj : j = i
    · subst hj
      have hl : j < G.length := (List.getElem?_eq_some_iff.mp hi).1
      rw [List.getElem?_set_self hl] at hc
      cases hc
      exact ⟨v, hv, by rw [eas]; exact h⟩
    · rw [List.getElem?_set_ne (Ne.symm hj)] at hc
      obtain ⟨u, hu, hk'⟩ := h3 j c hc
      exact ⟨u, hu, cell_stay hk' x fun p hp o ho => k p o (nas j p hj hp) ho⟩

/-! ### what evaluates to what -/
def Ev (r : Rp β) (te : TE) (G : Cells K) (b : β) : Prop := ∀ H0 σ H, Env H0 σ H G → ∀ Q : VK, (∀ v H', Same H H' → r H' v b → Q v H') → te σ H Q
/-- .. to a new thing, or a frozen one -/
def Nw (R : Rs K β) (te : TE) (G : Cells K) (b : β) : Prop := ∀ H0 σ H, Env H0 σ H G → ∀ Q : VK, (∀ v H' as, Same H H' → (∀ p, p ∈ as → H p = none) → R.rep H' v b as → Q v H') → te σ H Q
def EvT (tt : TT) (G : Cells K) (b : Bool) : Prop := ∀ H0 σ H, Env H0 σ H G → ∀ Q : Bool → Hp → Prop, (∀ H', Same H H' → Q b H') → tt σ H Q
/-- a list of arguments -/
abbrev Ra (α : Type) := Hp → List V → α → Prop
class MonoA {α : Type} (A : Ra α) : Prop where
  up : ∀ {H H' : Hp} {vs : List V} {a : α}, Same H H' → A H vs a → A H' vs a
def aN : Ra Unit := fun _ vs _ => vs = []
def aC {α β : Type} (r : Rp α) (A : Ra β) : Ra (α × β) := fun H vs p => ∃ v ws, vs = v :: ws ∧ r H v p.1 ∧ A H ws p.2
instance : MonoA aN := ⟨fun _ h => h⟩
instance {α β : Type} {r : Rp α} {A : Ra β} [M : Mono r] [N : MonoA A] : MonoA (aC r A) := ⟨fun e ⟨v, ws, ev, h1, h2⟩ => ⟨v, ws, ev, M.up e h1, N.up e h2⟩⟩
def EvA (A : Ra α) (ta : TA) (G : Cells K) (a : α) : Prop := ∀ H0 σ H, Env H0 σ H G → ∀ Q : List V → Hp → Prop, (∀ vs H', Same H H' → A H' vs a → Q vs H') → ta σ H Q

/-! ### a def's promise: from data to data -/
def spF (A : Ra α) (pre : α → Prop) (r : Rp β) (f : α → β) : Sp := fun vs H Q _ => ∃ a, A H vs a ∧ pre a ∧ ∀ v H', Same H H' → r H' v (f a) → Q v H'
def spN (A : Ra α) (pre : α → Prop) (R : Rs K β) (f : α → β) : Sp := fun vs H Q _ => ∃ a, A H vs a ∧ pre a ∧ ∀ v H' as, Same H H' → (∀ p, p ∈ as → H p = none) → R.rep H' v (f a) as → Q v H'

variable {r : Rp α} {q : Rp β} {R : Rs K α} {te ta tb tc : TE} {a x : α} {b y : β}
/-- a frozen thing is as good as a new one -/
theorem Ev.nw [F : Frz K r] (h : Ev r te G a) : Nw (fz K r) te G a := fun H0 σ H E Q k => h H0 σ H E Q fun v H' e z => k v H' [] e (fun _ hp => nomatch hp) ⟨rfl, stb z⟩
theorem Nw.fz (h : Nw (fz K r) te G a) : Ev r te G a := fun H0 σ H E Q k => h H0 σ H E Q fun v H' _ e _ z => k v H' e z.2.now
theorem Nw.lst {r : Rp α} {xs : List α} (h : Nw (nl K r) te G xs) : Ev (rL r) te G xs := fun H0 σ H E Q k => h H0 σ H E Q fun v H' _ e _ ⟨p, vs, _, ev, hp, z⟩ => k v H' e ⟨p, vs, ev, hp, nows z⟩
theorem Ev.imp {q : Rp α} (h : Ev r te G a) (f : ∀ H v, r H v a → q H v a) : Ev q te G a := fun H0 σ H E Q k => h H0 σ H E Q fun v H' e z => k v H' e (f _ _ z)
theorem Ev.eq (h : Ev r te G a) (e : a = x) : Ev r te G x := e ▸ h
theorem Nw.eq (h : Nw R te G a) (e : a = x) : Nw R te G x := e ▸ h
theorem EvT.eq {tt : TT} {c d : Bool} (h : EvT tt G c) (e : c = d) : EvT tt G d := e ▸ h

/-! ### names and constants -/
theorem ev_fz {i : Nat} (h : G[i]? = some (some (.ow (fz K r) a)) := by rfl) : Ev r (tVar i) G a := fun H0 σ H E Q k => by
  obtain ⟨own, _, _, h3⟩ := E.at_
  obtain ⟨v, hv, hk⟩ := h3 i _ h
  exact ⟨v, hv, k v H (Same.refl H) hk.2.now⟩
theorem ev_lst {i : Nat} {r : Rp α} {xs : List α} (h : G[i]? = some (some (.ow (nl K r) xs)) := by rfl) : Ev (rL r) (tVar i) G xs := fun H0 σ H E Q k => by
  obtain ⟨own, _, _, h3⟩ := E.at_
  obtain ⟨v, hv, p, vs, _, ev, hp, z⟩ := h3 i _ h
  exact ⟨v, hv, k v H (Same.refl H) ⟨p, vs, ev, hp, nows z⟩⟩
theorem ev_ro {i : Nat} {M : Mono r} (h : G[i]? = some (some (.ro r M a)) := by rfl) : Ev r (tVar i) G a := fun H0 σ H E Q k => by
  obtain ⟨own, _, _, h3⟩ := E.at_
  obtain ⟨v, hv, hk⟩ := h3 i _ h
  exact ⟨v, hv, k v H (Same.refl H) (M.up E.old hk.2)⟩
theorem ev_c {v : V} (h : ∀ H, r H v a) : Ev r (tC v) G a := fun _ _ H _ _ k => k v H (Same.refl H) (h H)
theorem ev_int {n : Int} : Ev rI (tC (.int n)) G n := ev_c fun _ => rfl
theorem ev_str {n : Str} : Ev rS (tC (.str n)) G n := ev_c fun _ => rfl
theorem ev_bl {n : Bool} : Ev rB (tC (.bl n)) G n := ev_c fun _ => rfl
theorem ev_non : Ev (rO r) (tC .non) G Option.none := ev_c fun _ => rfl
theorem Ev.some (h : Ev r te G a) : Ev (rO r) te G (Option.some a) := fun H0 σ H E Q k => h H0 σ H E Q fun v H' e z => k v H' e z

/-! ### operators -/
/-- a rule on values, from data to data -/
def OpE (o : R2) (r : Rp α) (q : Rp β) (z : Rp γ) (x : α) (y : β) (c : γ) : Prop := ∀ H u v, r H u x → q H v y → ∀ Q : VK, (∀ w H', Same H H' → z H' w c → Q w H') → o u v H Q
def OpN (o : R2) (r : Rp α) (q : Rp β) (Z : Rs K γ) (x : α) (y : β) (c : γ) : Prop := ∀ H u v, r H u x → q H v y → ∀ Q : VK, (∀ w H' as, Same H H' → (∀ p, p ∈ as → H p = none) → Z.rep H' w c as → Q w H') → o u v H Q
theorem ev_op {o : R2} {z : Rp γ} {c : γ} [M : Mono r] (ha : Ev r ta G x) (hb : Ev q tb G y) (ho : OpE o r q z x y c) : Ev z (tOp o ta tb) G c := fun H0 σ H E Q k =>
  ha H0 σ H E _ fun u H1 e1 h1 => hb H0 σ H1 (E.grow e1) _ fun v H2 e2 h2 => ho H2 u v (M.up e2 h1) h2 Q fun w H3 e3 h3 => k w H3 ((e1.trans e2).trans e3) h3
theorem free_back {p : Addr} (e : Same H H') (h : H' p = none) : H p = none := e.free h
theorem nw_op {o : R2} {Z : Rs K γ} {c : γ} [M : Mono r] (ha : Ev r ta G x) (hb : Ev q tb G y) (ho : OpN o r q Z x y c) : Nw Z (tOp o ta tb) G c := fun H0 σ H E Q k =>
  ha H0 σ H E _ fun u H1 e1 h1 => hb H0 σ H1 (E.grow e1) _ fun v H2 e2 h2 => ho H2 u v (M.up e2 h1) h2 Q fun w H3 as e3 hn h3 => k w H3 as ((e1.trans e2).trans e3) (fun p hp => free_back (e1.trans e2) (hn p hp)) h3
theorem op_I0 {g : Int → Int → V} {z : Rp γ} {c : γ} {i j : Int} (h : ∀ H, z H (g i j) c) : OpE (rI0 g) rI rI z i j c := fun H u v hu hv Q k => by
  cases hu; cases hv
  exact ⟨i, j, rfl, rfl, k _ H (Same.refl H) (h H)⟩
theorem op_I {C : Int → Int → Prop} {g : Int → Int → V} {z : Rp γ} {c : γ} {i j : Int} (hc : C i j) (h : ∀ H, z H (g i j) c) : OpE (L2.rI C g) rI rI z i j c := fun H u v hu hv Q k => by
  cases hu; cases hv
  exact ⟨i, j, rfl, rfl, hc, k _ H (Same.refl H) (h H)⟩
end
end Gt
/-! Gt2: defs, statements and loops over cells. -/
namespace Gt
open PySem PySem.Spec PyProof.Rows L2

/-! ### defs of the text -/
structure Cal (P : Program) (w : World) (K : PySem.W.Frag) (mg : Str → Option Value) (base : Heap) (CX : CXT) (x : Str) (k : Nat) (ps : List Str) (sp : Sp) : Prop where
  ex : ∃ (f : Addr) (fd : FuncData), FnOk P w K mg base CX k f fd ps sp ∧ mg x = some (.ref f) ∧ PySem.W.keepIn K (.ref f) = true ∧ Binds K fd ps []
structure Df (K : PySem.W.Frag) (mg : Str → Option Value) (x : Str) (st : Stmt) : Prop where
  ex : ∃ (f : Addr) (fd : FuncData), Fun K x x st f fd ∧ mg x = some (.ref f)
theorem pe_fn {X : Cx} {x : Str} {k : Nat} {ps : List Str} {sp : Sp} {p pos : Pos} {e : Expr} {es : List Expr} {t : TA} (C : Cal X.prog X.w X.K X.mg X.base CX0 x k ps sp) (hr : Room k X.A) (ha : PA X (e :: es) t) (hg : Gl X x := by rfl)
    (hdb : (x == Str.ofString "__debug__") = false := by decide) (he : starEach (e :: es) X.env = (false, eval e X.env) :: starEach es X.env := by rfl) (hpl : (backTo pos (starEach es X.env)).any (·.1) = false := by rfl) :
    PE X (.Call (.Name x p) (e :: es) [] pos) (tCall sp [] E0 t) := by
  obtain ⟨f, fd, F, m, kp, b⟩ := C.ex
  exact pe_call F hr hg m kp b .nil pass0 ha hdb he hpl
theorem pe_fn0 {X : Cx} {x : Str} {k : Nat} {ps : List Str} {sp : Sp} {p pos : Pos} (C : Cal X.prog X.w X.K X.mg X.base CX0 x k ps sp) (hr : Room k X.A) (hg : Gl X x := by rfl)
    (hdb : (x == Str.ofString "__debug__") = false := by decide) :
    PE X (.Call (.Name x p) [] [] pos) (tCall sp [] E0 tNil) := by
  obtain ⟨f, fd, F, m, kp, b⟩ := C.ex
  exact pe_call0 F hr hg m kp b .nil pass0 hdb
class LenA {α : Type} (A : Ra α) (n : outParam Nat) : Prop where
  len : ∀ {H : Hp} {vs : List V} {a : α}, A H vs a → vs.length = n
instance : LenA aN 0 := ⟨fun h => by rw [show _ = [] from h]; rfl⟩
instance {α β : Type} {r : Rp α} {A : Ra β} {n : Nat} [L : LenA A n] : LenA (aC r A) (n + 1) := ⟨fun ⟨_, ws, e, _, h⟩ => by rw [e, List.length_cons, L.len h]⟩

variable {P : Program} {w : World} {K : PySem.W.Frag} {mg : Str → Option Value} {base : Heap}
theorem cal_of {x : Str} {st : Stmt} {N ps : List Str} {k : Nat} {sp : Sp} (F : Df K mg x st) (S : FnScope N ps (defScope st)) (len : ∀ vs H Q E, sp vs H Q E → vs.length = ps.length)
    (hb : ∀ (kV doc pm : Value) (an : Option Addr) (cdv ct : Value) (us : List Value), us.length = ps.length → bindArgs (PySem.W.fnOf x x (defArgs st) (defBody st) (defScope st) .none kV doc pm an cdv ct) ⟨us, []⟩ = pure (ps.zip us))
    (hbody : ∀ (cdv : Value) (f : Addr) (A : Around) (outer : List PySem.Env) (s : Shared) (H : Hp) (vs : List V) (Q : VK) (E : XK), Room k (A.deeper (envOfC x (defScope st) s.heap.objs.size f cdv)) → sp vs H Q E →
      ∃ t, PSs (cxOf CX0 P w K mg base N x (defScope st) f cdv A outer s H E).nox (defBody st) t ∧ t { nx := fun _ H' => Q .non H', rt := Q } (start N vs) H) : Cal P w K mg base CX0 x (k + 1) ps sp := by
  obtain ⟨f, fd, F, g⟩ := F.ex
  exact ⟨f, fd, F.ok S len (fun cdv A outer s H vs Q E hr h => hbody cdv f A outer s H vs Q E hr h), g, F.kp, F.binds hb⟩

section
variable {H0 H H' : Hp} {σ : L2.St} {G G' G'' : Cells K} {α β γ S : Type}
/-- the cells hold over some base that holds all of H0 -/
def Have (H0 : Hp) (G : Cells K) (σ : L2.St) (H : Hp) : Prop := ∃ H1, Same H0 H1 ∧ Env H1 σ H G
def Sv (H0 : Hp) (G : Cells K) (t : TS) (D : Ends) : Prop := ∀ σ H, Have H0 G σ H → t D σ H
def Nx (H0 : Hp) (G : Cells K) (P : L2.St → Hp → Prop) : Prop := ∀ σ H, Have H0 G σ H → P σ H

/-! ### the start of a def -/
inductive Pw (H0 : Hp) : L2.St → Cells K → Prop
  | nil : Pw H0 [] []
  | skip {o : Option V} {σ : L2.St} {G : Cells K} : Pw H0 σ G → Pw H0 (o :: σ) (none :: G)
  | fz {β : Type} {r : Rp β} [Frz K r] {b : β} {v : V} {σ : L2.St} {G : Cells K} : r H0 v b → Pw H0 σ G → Pw H0 (some v :: σ) (fc r b :: G)
  | ro {β : Type} {r : Rp β} [Mono r] {b : β} {v : V} {σ : L2.St} {G : Cells K} : r H0 v b → Pw H0 σ G → Pw H0 (some v :: σ) (rc r b :: G)
theorem Pw.len (h : Pw H0 σ G) : σ.length = G.length := by
  induction h with
  | nil => rfl
  | skip _ ih => rw [List.length_cons, List.length_cons, ih]
  | fz _ _ ih => rw [List.length_cons, List.length_cons, ih]
  | ro _ _ ih => rw [List.length_cons, List.length_cons, ih]
theorem Pw.get (h : Pw H0 σ G) : ∀ {i : Nat} {c : Cell K}, G[i]? = some (some c) → ∃ v, σ[i]? = some (some v) ∧ c.ok H0 H0 v [] := by
  induction h with
  | nil => intro i c e; simp at e
  | skip _ ih =>
    intro i c e
    cases i with
    | zero => simp at e
    | succ i => simpa using ih (i := i) (c := c) (by simpa using e)
  | fz h _ ih =>
    intro i c e
    cases i with
    | zero =>
      simp at e
      subst e
      exact ⟨_, rfl, rfl, stb h⟩
    | succ i => simpa using ih (i := i) (c := c) (by simpa using e)
  | ro h _ ih =>
    intro i c e
    cases i with
    | zero =>
      simp at e
      subst e
      exact ⟨_, rfl, rfl, h⟩
    | succ i => simpa using ih (i := i) (c := c) (by simpa using e)
theorem Pw.env (p : Pw H0 σ G) : Env H0 σ H0 G := ⟨Same.refl H0, p.len, fun _ => [], fun _ _ h => (nomatch h), fun _ _ _ h => (nomatch h), fun i c h => p.get h⟩
theorem Sv.run {t : TS} {D : Ends} (s : Sv H0 G t D) (p : Pw H0 σ G) : t D σ H0 := s σ H0 ⟨H0, Same.refl H0, p.env⟩

/-! ### statements -/
variable {D : Ends} {t u tb : TS} {te ta : TE} {tt : TT} {r : Rp β} {q : Rp α} {R : Rs K β} {b : β} {a : α}
theorem Have.less (h : Have H0 G σ H) (s : Sub G G') : Have H0 G' σ H := let ⟨H1, e, E⟩ := h; ⟨H1, e, E.less s⟩
theorem Sv.less (s : Sub G G') (h : Sv H0 G' t D) : Sv H0 G t D := fun σ H g => h σ H (g.less s)
theorem Sv.from (e : G = G') (h : Sv H0 G' t D) : Sv H0 G t D := e ▸ h
theorem q_asg {i : Nat} {b' : β} (h : Nw R te G b) (eb : b = b') (k : Sv H0 (G.set i (some (.ow R b'))) u D) : Sv H0 G (tSeq (tAsg te (gName i)) u) D := fun σ H ⟨H1, e, E⟩ =>
  h H1 σ H E _ fun v H' as e' hn z => k _ _ ⟨H1, e, E.put e' hn (eb ▸ z)⟩
theorem q_set {i : Nat} {b' : β} (h : Ev r te G b) (eb : b = b') (k : Sv H0 (G.set i (fc r b')) u D) (F : Frz K r := by infer_instance) : Sv H0 G (tSeq (tAsg te (gName i)) u) D := q_asg h.nw eb k
theorem l_asg {i : Nat} {b' : β} (h : Nw R te G b) (eb : b = b') (k : Nx H0 (G.set i (some (.ow R b'))) D.nx) : Sv H0 G (tAsg te (gName i)) D := fun σ H ⟨H1, e, E⟩ =>
  h H1 σ H E _ fun v H' as e' hn z => k _ _ ⟨H1, e, E.put e' hn (eb ▸ z)⟩
theorem l_set {i : Nat} {b' : β} (h : Ev r te G b) (eb : b = b') (k : Nx H0 (G.set i (fc r b')) D.nx) (F : Frz K r := by infer_instance) : Sv H0 G (tAsg te (gName i)) D := l_asg h.nw eb k
theorem l_ret {b' : β} (k : ∀ v H', Same H0 H' → r H' v b' → D.rt v H') (h : Ev r te G b) (eb : b = b') : Sv H0 G (tRet te) D := fun σ H ⟨H1, e, E⟩ =>
  h H1 σ H E _ fun v H' e' z => k v H' ((e.trans E.old).trans e') (eb ▸ z)
theorem l_retN {b' : β} (k : ∀ v H' as, Same H0 H' → (∀ p, p ∈ as → H0 p = none) → R.rep H' v b' as → D.rt v H') (h : Nw R te G b) (eb : b = b') : Sv H0 G (tRet te) D := fun σ H ⟨H1, e, E⟩ =>
  h H1 σ H E _ fun v H' as e' hn z => k v H' as ((e.trans E.old).trans e') (fun p hp => (e.trans E.old).free (hn p hp)) (eb ▸ z)
/-- an owned list in a slot is handed back -/
theorem l_retO {i : Nat} {xs' : β} (k : ∀ v H' as, Same H0 H' → (∀ p, p ∈ as → H0 p = none) → R.rep H' v xs' as → D.rt v H') (hi : G[i]? = some (some (.ow R b))) (eb : b = xs') : Sv H0 G (tRet (tVar i)) D := fun σ H ⟨H1, e, E⟩ => by
  obtain ⟨own, h1, h2, h3⟩ := E.at_
  obtain ⟨v, hv, hk⟩ := h3 i _ hi
  exact ⟨v, hv, k v H (own i) (e.trans E.old) (fun p hp => e.free (h1 i p hp).1) (eb ▸ hk)⟩
theorem l_if {c : Bool} (h : EvT tt G c) (h1 : c = true → Sv H0 G t D) (h2 : c = false → Sv H0 G u D) : Sv H0 G (tIfS tt t u) D := fun σ H ⟨H1, e, E⟩ =>
  h H1 σ H E _ fun H' e' => by
    cases c with
    | true => exact iteT (h1 rfl σ H' ⟨H1, e, E.grow e'⟩)
    | false => exact iteF (h2 rfl σ H' ⟨H1, e, E.grow e'⟩)
theorem q_if {c : Bool} {v : TS} (h : EvT tt G c) (h1 : c = true → Sv H0 G t { D with nx := v D }) (h2 : c = false → Sv H0 G u { D with nx := v D }) : Sv H0 G (tSeq (tIfS tt t u) v) D := l_if h h1 h2
/-- the ways of t meet ahead of v -/
theorem cutK (G2 : Cells K) {v : TS} (f : Sv H0 G2 v D → Sv H0 G (tSeq t v) D) (k : Sv H0 G2 v D) : Sv H0 G (tSeq t v) D := f k
theorem l_next (k : Nx H0 G D.nx) : Sv H0 G tNext D := k
theorem q_next (k : Sv H0 G u D) : Sv H0 G tNext { D with nx := u D } := k
theorem q_seq (h : Sv H0 G t { D with nx := u D }) : Sv H0 G (tSeq t u) D := h
theorem l_drop (h : Ev r te G b) (k : Nx H0 G D.nx) : Sv H0 G (tDrop te) D := fun σ H ⟨H1, e, E⟩ => h H1 σ H E _ fun v H' e' _ => k σ H' ⟨H1, e, E.grow e'⟩
/-- the end of a loop's turn -/
theorem nx_have (s : Sub G G') : Nx H0 G (Have H0 G') := fun _ _ h => h.less s
theorem nx_eq (e : G = G') : Nx H0 G (Have H0 G') := fun _ _ h => e ▸ h

/-- xs.append(e) -/
theorem app_env {i : Nat} {r : Rp α} {xs : List α} {x : α} {H1 : Hp} {p : Addr} {vs : List V} {v : V} (E : Env H1 σ H G) (hi : G[i]? = some (some (.ow (nl K r) xs))) (hv : σ[i]? = some (some (.ref p))) (hp : H p = some (.lst vs)) (hxs : A2 (Stb K r H) vs xs) (hx : Stb K r H v x) :
    Env H1 σ (upd H p (.lst (vs ++ [v]))) (G.set i (some (.ow (nl K r) (xs ++ [x])))) := by
  have x0 : ExT K H (upd H p (.lst (vs ++ [v]))) := ext_upd hp fun z => z
  refine E.mut (as := [p]) (R := nl K r) (R' := nl K r) hi hv x0 (fun c o hc ho => ?_) (fun w bs hw ⟨p', vs', e1, e2, _, _⟩ => ?_) ⟨p, _, rfl, rfl, upd_same, A2.app (A2.one (hx.up x0)) (hxs.imp fun _ _ z => z.up x0)⟩
  · rw [upd_ne fun z => hc (by rw [z]; exact List.mem_singleton.mpr rfl)]
    exact ho
  · rw [hv] at hw
    cases hw
    cases e2
    exact e1
end
end Gt
/-! Gt3: loops and comprehensions over cells. -/
namespace Gt
open PySem PySem.Spec PyProof.Rows L2

section
variable {K : PySem.W.Frag} {H0 H1 H H' : Hp} {σ : L2.St} {G G' Gx : Cells K} {α β γ S β' : Type}

/-- the heap without some addresses -/
def cutH (H : Hp) (X : Addr → Prop) [DecidablePred X] : Hp := fun b => if X b then none else H b
open Classical in
/-- a base that holds all that no cell owns -/
theorem Env.rebase (E : Env H1 σ H G) (e : Same H H') : ∃ H2, Same H1 H2 ∧ Same H2 H' ∧ ExT K H' H2 ∧ Env H2 σ H' G ∧ ∀ b o, H b = none → H' b = some o → H2 b = some o := by
  have E' := E.grow e
  obtain ⟨own, h1, h2, h3⟩ := E'.at_
  obtain ⟨own0, g1, g2, g3⟩ := E.at_
  let X : Addr → Prop := fun b => (∃ i, b ∈ own0 i)
  have hX : ∀ b, H1 b ≠ none → ¬ X b := fun b hb ⟨i, hi⟩ => hb (g1 i b hi).1
  have key : ∀ b, cutH H' X b = if X b then none else H' b := fun b => rfl
  have s12 : Same H1 (cutH H' X) := fun b o ho => by
    rw [key, if_neg (hX b (by rw [ho]; exact fun z => nomatch z))]
    exact E'.old b o ho
  have s2 : Same (cutH H' X) H' := fun b o ho => by
    rw [key] at ho
    split at ho
    · cases ho
    · exact ho
  refine ⟨cutH H' X, s12, s2, fun a xs q => ?_, ⟨s2, E'.len, own0, fun i p hp => ?_, g2, fun i c hc => ?_⟩, fun b o hn ho => ?_⟩
  · have nX : ∀ o, H' a = some o → isTup o → ¬ X a := fun o ho t ⟨i, hi⟩ => by
      obtain ⟨u, hu, nu⟩ := (g1 i a hi).2
      have := e _ _ hu
      rw [ho] at this
      cases this
      exact nu t
    rcases q with (q | ⟨o', q⟩) | q
    · exact .inl (.inl (by rw [key, if_neg (nX _ q trivial)]; exact q))
    · exact .inl (.inr ⟨o', by rw [key, if_neg (nX _ q trivial)]; exact q⟩)
    · exact .inr q
  · obtain ⟨o, ho, nt⟩ := (g1 i p hp).2
    exact ⟨by rw [key, if_pos ⟨i, hp⟩], o, e _ _ ho, nt⟩
  · obtain ⟨v, hv, hk⟩ := g3 i c hc
    refine ⟨v, hv, ?_⟩
    cases c with
    | ow R b => exact R.stay hk (ext_same e) fun p _ o ho => e _ _ ho
    | ro r m b => exact ⟨hk.1, m.up s12 hk.2⟩
  · rw [key, if_neg fun ⟨i, hi⟩ => by
      obtain ⟨u, hu, _⟩ := (g1 i b hi).2
      rw [hn] at hu
      cases hu]
    exact ho
/-- .. and one list more -/
theorem Env.freeze {i : Nat} {r : Rp α} {xs : List α} (E : Env H1 σ H G) (hi : G[i]? = some (some (.ow (nl K r) xs))) (M : Mono r) : ∃ H2, Same H1 H2 ∧ ExT K H H2 ∧ Env H2 σ H (G.set i (rc (rL r) xs)) := by
  classical
  obtain ⟨own, h1, h2, h3⟩ := E.at_
  let X : Addr → Prop := fun b => (∃ j, j ≠ i ∧ b ∈ own j)
  have hX : ∀ b, H1 b ≠ none → ¬ X b := fun b hb ⟨j, _, hj⟩ => hb (h1 j b hj).1
  have key : ∀ b, cutH H X b = if X b then none else H b := fun b => rfl
  have s12 : Same H1 (cutH H X) := fun b o ho => by
    rw [key, if_neg (hX b (by rw [ho]; exact fun z => nomatch z))]
    exact E.old b o ho
  have s2 : Same (cutH H X) H := fun b o ho => by
    rw [key] at ho
    split at ho
    · cases ho
    · exact ho
  have xt : ExT K H (cutH H X) := fun a xs q => by
    have nX : ∀ o, H a = some o → isTup o → ¬ X a := fun o ho t ⟨j, _, hj⟩ => by
      obtain ⟨u, hu, nu⟩ := (h1 j a hj).2
      rw [ho] at hu
      cases hu
      exact nu t
    rcases q with (q | ⟨o', q⟩) | q
    · exact .inl (.inl (by rw [key, if_neg (nX _ q trivial)]; exact q))
    · exact .inl (.inr ⟨o', by rw [key, if_neg (nX _ q trivial)]; exact q⟩)
    · exact .inr q
  refine ⟨cutH H X, s12, xt, s2, by rw [List.length_set]; exact E.len, fun j => if j = i then [] else own j, fun j p hp => ?_, fun j k p hj hk => ?_, fun j c hc => ?_⟩
  · by_cases hj : j = i
    · simp only [hj, if_true] at hp
      cases hp
    · simp only [hj, if_false] at hp
      exact ⟨by rw [key, if_pos ⟨j, hj, hp⟩], (h1 j p hp).2⟩
  · by_cases hji : j = i
    · simp only [hji, if_true] at hj
      cases hj
    · by_cases hki : k = i
      · simp only [hki, if_true] at hk
        cases hk
      · simp only [hji, hki, if_false] at hj hk
        exact h2 j k p hj hk
  · by_cases hj : j = i
    · subst hj
      have hl : j < G.length := (List.getElem?_eq_some_iff.mp hi).1
      rw [List.getElem?_set_self hl] at hc
      cases hc
      obtain ⟨v, hv, p, vs, e1, e2, e3, e4⟩ := h3 j _ hi
      refine ⟨v, hv, by simp, p, vs, e2, ?_, e4.imp fun _ _ z => (z.up xt).now⟩
      rw [key, if_neg fun ⟨k, hk, hp⟩ => hk (h2 k j p hp (by rw [e1]; exact List.mem_singleton.mpr rfl))]
      exact e3
    · rw [List.getElem?_set_ne (Ne.symm hj)] at hc
      obtain ⟨v, hv, hk⟩ := h3 j c hc
      refine ⟨v, hv, ?_⟩
      simp only [hj, if_false]
      cases c with
      | ow R b => exact hk
      | ro r m b => exact ⟨hk.1, m.up s12 hk.2⟩

/-! ### what is walked -/
structure Wj (J : It) (r : Rp α) (H1 : Hp) (xs : List α) : Prop where
  go : ∀ (H : Hp) (i : Nat) (x : α), Same H1 H → xs[i]? = some x → J.go i H ∧ ∀ v H', J.yld i H v H' → Same H H' ∧ r H' v x
  stop : ∀ H : Hp, Same H1 H → J.stop xs.length H
def Wk (wi : TI) (r : Rp α) (G G' : Cells K) (xs : List α) : Prop := ∀ H1 σ H, Env H1 σ H G → ∀ R : It → Hp → Prop, (∀ J H2 H', Same H1 H2 → Same H H' → Env H2 σ H' G' → Wj J r H2 xs → R J H') → wi σ H R
theorem wj_list {r : Rp α} [M : Mono r] {a : Addr} {vs : List V} {xs : List α} (h : H1 a = some (.lst vs)) (q : A2 (r H1) vs xs) : Wj (Itl K a) r H1 xs where
  go := fun H i x e hx => by
    obtain ⟨v, hv, z⟩ := q.get' hx
    refine ⟨⟨vs, v, SqL.of (e _ _ h), hv⟩, fun w H' ⟨e1, e2⟩ => ?_⟩
    subst e1
    have := e2 vs (SqL.of (e _ _ h))
    rw [hv] at this
    cases this
    exact ⟨Same.refl _, M.up e z⟩
  stop := fun H e => ⟨vs, SqL.of (e _ _ h), Nat.le_of_eq q.len⟩
theorem wj_tup {r : Rp α} [M : Mono r] {a : Addr} {vs : List V} {xs : List α} (h : SqT K H1 a vs) (q : A2 (r H1) vs xs) : Wj (Itt K a) r H1 xs where
  go := fun H i x e hx => by
    obtain ⟨v, hv, z⟩ := q.get' hx
    refine ⟨⟨vs, v, ext_same e _ _ h, hv⟩, fun w H' ⟨e1, e2⟩ => ?_⟩
    subst e1
    have := e2 vs (ext_same e _ _ h)
    rw [hv] at this
    cases this
    exact ⟨Same.refl _, M.up e z⟩
  stop := fun H e => ⟨vs, ext_same e _ _ h, Nat.le_of_eq q.len⟩
theorem wj_rng {lo : Int} {n : Nat} : Wj (Itr lo n) rI H1 ((List.range n).map fun (i : Nat) => lo + (i : Int)) where
  go := fun H i x e hx => by
    rw [List.getElem?_map] at hx
    by_cases hi : i < n
    · rw [List.getElem?_range hi] at hx
      cases hx
      exact ⟨hi, fun v H' ⟨e1, e2⟩ => by subst e1; exact ⟨Same.refl _, e2⟩⟩
    · rw [List.getElem?_eq_none (by rw [List.length_range]; omega)] at hx
      cases hx
  stop := fun H e => by
    show n ≤ _
    rw [List.length_map, List.length_range]
    exact Nat.le_refl _
theorem wj_str {z : Str} : Wj (Its z) rS H1 (z.cps.toList.map fun c => (⟨#[c]⟩ : Str)) where
  go := fun H i x e hx => by
    rw [List.getElem?_map] at hx
    cases q : z.cps.toList[i]? with
    | none => rw [q] at hx; cases hx
    | some c =>
      rw [q] at hx
      cases hx
      have q' : z.cps[i]? = some c := by simpa using q
      have hi : i < z.cps.size := (Array.getElem?_eq_some_iff.mp q').1
      refine ⟨hi, fun v H' ⟨e1, c', e2, e3⟩ => ?_⟩
      subst e1
      rw [q'] at e2
      cases e2
      exact ⟨Same.refl _, e3⟩
  stop := fun H e => by
    show z.cps.size ≤ _
    simp
/-- a list that nothing here owns | a list that was there | an owned list: read only from now on -/
theorem wk_new {r : Rp α} [M : Mono r] {tl : TE} {xs : List α} (h : Nw (nl K r) tl G xs) : Wk (iList K tl) r G G xs := fun H1 σ H E R k =>
  h H1 σ H E _ fun v H' as e hn ⟨p, vs, e1, e2, e3, e4⟩ => by
    obtain ⟨H2, s1, s2, x, E2, ho⟩ := E.rebase e
    have hp : H2 p = some (.lst vs) := ho p _ (hn p (by rw [e1]; exact List.mem_singleton.mpr rfl)) e3
    exact ⟨p, e2, ⟨vs, SqL.of e3⟩, k _ H2 H' s1 e E2 (wj_list hp (e4.imp fun _ _ z => (z.up x).now))⟩
theorem wk_ro {r : Rp α} {M : Mono (rL r)} [N : Mono r] {i : Nat} {xs : List α} (h : G[i]? = some (some (.ro (rL r) M xs)) := by rfl) : Wk (iList K (tVar i)) r G G xs := fun H1 σ H E R k => by
  obtain ⟨own, _, _, h3⟩ := E.at_
  obtain ⟨v, hv, _, p, vs, e2, e3, e4⟩ := h3 i _ h
  exact ⟨v, hv, p, e2, ⟨vs, SqL.of (E.old _ _ e3)⟩, k _ H1 H (Same.refl _) (Same.refl _) E (wj_list e3 e4)⟩
theorem wk_own {r : Rp α} [M : Mono r] {i : Nat} {xs : List α} (h : G[i]? = some (some (.ow (nl K r) xs)) := by rfl) : Wk (iList K (tVar i)) r G (G.set i (rc (rL r) xs)) xs := fun H1 σ H E R k => by
  obtain ⟨H2, s1, x, E2⟩ := E.freeze h M
  obtain ⟨own, _, _, h3⟩ := E2.at_
  have hl : i < G.length := (List.getElem?_eq_some_iff.mp h).1
  obtain ⟨v, hv, _, p, vs, e2, e3, e4⟩ := h3 i _ (List.getElem?_set_self hl)
  exact ⟨v, hv, p, e2, ⟨vs, SqL.of (E2.old _ _ e3)⟩, k _ H2 H s1 (Same.refl _) E2 (wj_list e3 e4)⟩
/-- a tuple -/
theorem wk_tup {r : Rp α} [F : Frz K r] [M : Mono r] {tl : TE} {xs : List α} (h : Ev (rT K r) tl G xs) : Wk (iTup K tl) r G G xs := fun H1 σ H E R k =>
  h H1 σ H E _ fun v H' e ⟨p, vs, e2, e3, e4⟩ => by
    obtain ⟨H2, s1, s2, x, E2, ho⟩ := E.rebase e
    exact ⟨p, e2, ⟨vs, e3⟩, k _ H2 H' s1 e E2 (wj_tup (x _ _ e3) (e4.imp fun _ _ z => F.up x z))⟩
/-- 0, 1, .. below n -/
def ups (n : Nat) : List Int := (List.range n).map fun (i : Nat) => (i : Int)
theorem ups_len (n : Nat) : (ups n).length = n := by unfold ups; rw [List.length_map, List.length_range]
theorem wk_rng1 {ta : TE} {n : Int} (h : Ev rI ta G n) (hn : -100000 ≤ n ∧ n ≤ 100000) : Wk (iRng1 (tCons ta tNil)) rI G G (ups n.toNat) := fun H1 σ H E R k =>
  h H1 σ H E _ fun v H' e z => ⟨n, by rw [show v = .int n from z], by omega, by omega, k (Itr 0 n.toNat) H1 H' (Same.refl _) e (E.grow e) (by
      have w := wj_rng (H1 := H1) (lo := 0) (n := n.toNat)
      have e0 : ((List.range n.toNat).map fun (i : Nat) => (0 : Int) + (i : Int)) = ups n.toNat := by
        unfold ups
        exact List.map_congr_left fun i _ => Int.zero_add _
      rw [e0] at w
      exact w)⟩
def upsFrom (lo : Int) (n : Nat) : List Int := (List.range n).map fun (i : Nat) => lo + (i : Int)
theorem wk_rng2 {ta tb : TE} {m n : Int} (h : Ev rI ta G m) (h' : Ev rI tb G n) (hn : -100000 ≤ m ∧ m ≤ 100000 ∧ -100000 ≤ n ∧ n ≤ 100000) : Wk (iRng2 (tCons ta (tCons tb tNil))) rI G G (upsFrom m (n - m).toNat) := fun H1 σ H E R k =>
  h H1 σ H E _ fun v Ha ea z => h' H1 σ Ha (E.grow ea) _ fun v' H' e z' => ⟨m, n, by rw [show v = .int m from z, show v' = .int n from z'], by omega, k (Itr m (n - m).toNat) H1 H' (Same.refl _) (ea.trans e) (E.grow (ea.trans e)) wj_rng⟩
theorem wk_str {ta : TE} {z : Str} (h : Ev rS ta G z) : Wk (iStr ta) rS G G (z.cps.toList.map fun c => (⟨#[c]⟩ : Str)) := fun H1 σ H E R k =>
  h H1 σ H E _ fun v H' e z' => ⟨z, z', k (Its z) H1 H' (Same.refl _) e (E.grow e) wj_str⟩

/-! ### the target of a loop -/
def Tg (g : TG) (r : Rp α) (x : α) (G G' : Cells K) : Prop := ∀ H1 σ H v, Env H1 σ H G → r H v x → ∀ P : L2.St → Hp → Prop, (∀ σ', Env H1 σ' H G' → P σ' H) → g v σ H P
theorem tg_name {r : Rp α} [F : Frz K r] {x : α} {i : Nat} : Tg (gName i) r x G (G.set i (fc r x)) := fun H1 σ H v E h P k =>
  k _ (E.put (R := fz K r) (as := []) (Same.refl H) (fun _ z => nomatch z) ⟨rfl, stb h⟩)
theorem tg_pair {r : Rp α} {q : Rp β} [F : Frz K r] [F' : Frz K q] {p : α × β} {i j : Nat} : Tg (gTup K 2 (gCons (gName i) (gCons (gName j) gNil))) (rP K r q) p G ((G.set i (fc r p.1)).set j (fc q p.2)) := fun H1 σ H v E ⟨a, x, y, e, h, h1, h2⟩ P k =>
  ⟨a, [x, y], e, h, rfl, x, [y], rfl, y, [], rfl, rfl, k _ ((E.put (R := fz K r) (as := []) (Same.refl H) (fun _ z => nomatch z) ⟨rfl, stb h1⟩).put (R := fz K q) (as := []) (Same.refl H) (fun _ z => nomatch z) ⟨rfl, stb h2⟩)⟩

/-! ### for -/
variable {D : Ends} {t u tb : TS} {wi : TI} {g : TG} {te : TE} {tt : TT} {r : Rp α} {q : Rp β}
/-- I: what holds of the part walked so far and the state; st: the cells of a state -/
theorem l_forI {xs : List α} (st : S → Cells K) (I : List α → S → Prop) (s0 : S) (hw : Wk wi r G G' xs) (h0 : Sub G' (st s0)) (i0 : I [] s0)
    (body : ∀ H0', Same H0 H0' → ∀ pre x post s, xs = pre ++ x :: post → I pre s → ∃ Gx, Tg g r x (st s) Gx ∧
      Sv H0' Gx tb { D with nx := fun σ H => ∃ s', I (pre ++ [x]) s' ∧ Have H0' (st s') σ H, ct := fun σ H => ∃ s', I (pre ++ [x]) s' ∧ Have H0' (st s') σ H, bk := D.nx })
    (after : ∀ s, I xs s → Nx H0 (st s) D.nx) : Sv H0 G (tFor wi g tb) D := fun σ H ⟨H1, e1, E⟩ => by
  refine hw H1 σ H E _ fun J H2 H' s1 sH E2 W => ?_
  refine ⟨fun i m σ' Hh => i + m = xs.length ∧ ∃ s, I (xs.take i) s ∧ Have H2 (st s) σ' Hh, ⟨xs.length, Nat.zero_add _, s0, i0, H2, Same.refl _, E2.less h0⟩, ?_⟩
  rintro i m σ' Hh ⟨hi, s, hI, H3, s3, E3⟩
  by_cases hl : i < xs.length
  · have hx : xs[i]? = some xs[i] := List.getElem?_eq_getElem hl
    have hs : Same H2 Hh := s3.trans E3.old
    obtain ⟨g1, g2⟩ := W.go Hh i _ hs hx
    have etk : xs.take i ++ [xs[i]] = xs.take (i + 1) := by rw [List.take_add_one, hx]; rfl
    refine .inr ⟨g1, fun σ2 Hh2 => ∃ s', I (xs.take i ++ [xs[i]]) s' ∧ Have H2 (st s') σ2 Hh2, fun σ2 Hh2 ⟨s', hI', hv⟩ => ⟨m - 1, by omega, by omega, s', by rw [← etk]; exact hI', hv⟩, fun v Hh2 hy => ?_⟩
    · obtain ⟨e2, z⟩ := g2 v Hh2 hy
      have hsp : xs = xs.take i ++ xs[i] :: xs.drop (i + 1) := by
        rw [List.getElem_cons_drop, List.take_append_drop]
      obtain ⟨Gx, ht, hb⟩ := body H2 (e1.trans s1) (xs.take i) xs[i] (xs.drop (i + 1)) s hsp hI
      exact ht H3 σ' Hh2 v (E3.grow e2) z _ fun σ2 E4 => hb σ2 Hh2 ⟨H3, s3, E4⟩
  · have hi' : i = xs.length := by omega
    subst hi'
    rw [List.take_length] at hI
    exact .inl ⟨W.stop Hh (s3.trans E3.old), after s hI σ' Hh ⟨H3, (e1.trans s1).trans s3, E3⟩⟩
/-- a loop that folds -/
theorem l_for {xs : List α} (st : S → Cells K) (f : S → α → S) (s0 : S) (hw : Wk wi r G G' xs) (h0 : Sub G' (st s0))
    (body : ∀ H0', Same H0 H0' → ∀ pre x post, xs = pre ++ x :: post → ∃ Gx, Tg g r x (st (pre.foldl f s0)) Gx ∧
      Sv H0' Gx tb { D with nx := Have H0' (st (f (pre.foldl f s0) x)), ct := Have H0' (st (f (pre.foldl f s0) x)), bk := D.nx })
    (after : Nx H0 (st (xs.foldl f s0)) D.nx) : Sv H0 G (tFor wi g tb) D :=
  l_forI st (fun pre s => s = pre.foldl f s0) s0 hw h0 rfl (fun H0' e pre x post s hx hs => by
    subst hs
    obtain ⟨Gx, ht, hb⟩ := body H0' e pre x post hx
    have key : (fun σ H => ∃ s', s' = (pre ++ [x]).foldl f s0 ∧ Have H0' (st s') σ H) = Have H0' (st (f (pre.foldl f s0) x)) := by
      funext σ H
      have e0 : (pre ++ [x]).foldl f s0 = f (pre.foldl f s0) x := by rw [List.foldl_append]; rfl
      refine propext ⟨fun ⟨s', hs', h⟩ => ?_, fun h => ⟨_, e0.symm, h⟩⟩
      rw [hs', e0] at h
      exact h
    exact ⟨Gx, ht, by rw [key]; exact hb⟩) fun s hs => by subst hs; exact after

theorem q_for {xs : List α} (st : S → Cells K) (f : S → α → S) (s0 : S) (hw : Wk wi r G G' xs) (h0 : Sub G' (st s0))
    (body : ∀ H0', Same H0 H0' → ∀ pre x post, xs = pre ++ x :: post → ∃ Gx, Tg g r x (st (pre.foldl f s0)) Gx ∧
      Sv H0' Gx tb { nx := Have H0' (st (f (pre.foldl f s0) x)), rt := D.rt, bk := u D, ct := Have H0' (st (f (pre.foldl f s0) x)) })
    (after : Sv H0 (st (xs.foldl f s0)) u D) : Sv H0 G (tSeq (tFor wi g tb) u) D := l_for (D := { D with nx := u D }) st f s0 hw h0 body after
theorem q_forI {xs : List α} (st : S → Cells K) (I : List α → S → Prop) (s0 : S) (hw : Wk wi r G G' xs) (h0 : Sub G' (st s0)) (i0 : I [] s0)
    (body : ∀ H0', Same H0 H0' → ∀ pre x post s, xs = pre ++ x :: post → I pre s → ∃ Gx, Tg g r x (st s) Gx ∧
      Sv H0' Gx tb { nx := fun σ H => ∃ s', I (pre ++ [x]) s' ∧ Have H0' (st s') σ H, rt := D.rt, bk := u D, ct := fun σ H => ∃ s', I (pre ++ [x]) s' ∧ Have H0' (st s') σ H })
    (after : ∀ s, I xs s → Sv H0 (st s) u D) : Sv H0 G (tSeq (tFor wi g tb) u) D := l_forI (D := { D with nx := u D }) st I s0 hw h0 i0 body after

/-- a loop that leaves by return where p fails -/
theorem q_search {xs : List α} (st : Cells K) (p : α → Bool) (hw : Wk wi r G G' xs) (h0 : Sub G' st)
    (body : ∀ H0', Same H0 H0' → ∀ pre x post, xs = pre ++ x :: post → (∀ y ∈ pre, p y = true) → ∃ Gx, Tg g r x st Gx ∧
      Sv H0' Gx tb { nx := fun σ H => p x = true ∧ Have H0' st σ H, rt := D.rt, bk := u D, ct := fun σ H => p x = true ∧ Have H0' st σ H })
    (after : (∀ x ∈ xs, p x = true) → Sv H0 st u D) : Sv H0 G (tSeq (tFor wi g tb) u) D :=
  q_forI (fun _ => st) (fun pre (_ : Unit) => ∀ y ∈ pre, p y = true) () hw h0 (fun _ h => nomatch h) (fun H0' e pre x post _ hx hI => by
    obtain ⟨Gx, ht, hb⟩ := body H0' e pre x post hx hI
    have key : (fun (σ : L2.St) (H : Hp) => ∃ s' : Unit, (∀ y ∈ pre ++ [x], p y = true) ∧ Have H0' st σ H) = (fun σ H => p x = true ∧ Have H0' st σ H) := by
      funext σ H
      refine propext ⟨fun ⟨_, h1, h2⟩ => ⟨h1 x (by simp), h2⟩, fun ⟨h1, h2⟩ => ⟨(), fun y hy => ?_, h2⟩⟩
      rcases List.mem_append.mp hy with q | q
      · exact hI y q
      · cases List.mem_singleton.mp q; exact h1
    exact ⟨Gx, ht, by rw [key]; exact hb⟩) fun _ h => after h

/-! ### while -/
theorem l_while {tc : TT} (st : S → Cells K) (I : S → Prop) (m : S → Nat) (s0 : S) (h0 : Sub G (st s0)) (i0 : I s0)
    (turn : ∀ H0', Same H0 H0' → ∀ s, I s → ∃ c, EvT tc (st s) c ∧ (c = true → Sv H0' (st s) tb { D with nx := fun σ H => ∃ s', I s' ∧ m s' < m s ∧ Have H0' (st s') σ H, ct := fun σ H => ∃ s', I s' ∧ m s' < m s ∧ Have H0' (st s') σ H, bk := D.nx }))
    (after : ∀ s, I s → EvT tc (st s) false → Nx H0 (st s) D.nx) : Sv H0 G (tWhile tc tb) D := fun σ H ⟨H1, e1, E⟩ => by
  refine ⟨fun k σ' Hh => ∃ s, I s ∧ m s = k ∧ Have H0 (st s) σ' Hh, ⟨m s0, s0, i0, rfl, H1, e1, E.less h0⟩, ?_⟩
  rintro k σ' Hh ⟨s, hI, hm, H2, s2, E2⟩
  obtain ⟨c, hc, hb⟩ := turn H0 (Same.refl _) s hI
  refine hc H2 σ' Hh E2 _ fun H' e' => ?_
  cases c with
  | true =>
    refine iteT ⟨_, fun σ2 Hh2 ⟨s', hI', hlt, hv⟩ => ⟨m s', by omega, s', hI', rfl, hv⟩, hb rfl σ' H' ⟨H2, s2, E2.grow e'⟩⟩
  | false => exact iteF (after s hI hc σ' H' ⟨H2, s2, E2.grow e'⟩)

theorem q_while {tc : TT} (st : S → Cells K) (I : S → Prop) (m : S → Nat) (s0 : S) (h0 : Sub G (st s0)) (i0 : I s0)
    (turn : ∀ H0', Same H0 H0' → ∀ s, I s → ∃ c, EvT tc (st s) c ∧ (c = true → Sv H0' (st s) tb { nx := fun σ H => ∃ s', I s' ∧ m s' < m s ∧ Have H0' (st s') σ H, rt := D.rt, bk := u D, ct := fun σ H => ∃ s', I s' ∧ m s' < m s ∧ Have H0' (st s') σ H }))
    (after : ∀ s, I s → EvT tc (st s) false → Sv H0 (st s) u D) : Sv H0 G (tSeq (tWhile tc tb) u) D := l_while (D := { D with nx := u D }) st I m s0 h0 i0 turn after

/-! ### comprehensions -/
def wipeG (G : Cells K) : List Nat → Cells K
  | [] => G
  | v :: vs => (wipeG G vs).set v none
theorem wipeG_get {i : Nat} {c : Cell K} : ∀ {vs : List Nat}, (wipeG G vs)[i]? = some (some c) → G[i]? = some (some c) ∧ i ∉ vs
  | [], h => ⟨h, by simp⟩
  | v :: vs, h => by
    unfold wipeG at h
    by_cases hi : v = i
    · subst hi
      by_cases hv : v < (wipeG G vs).length
      · rw [List.getElem?_set_self hv] at h; cases h
      · rw [List.getElem?_eq_none (by simpa using hv)] at h; cases h
    · rw [List.getElem?_set_ne hi] at h
      obtain ⟨h1, h2⟩ := wipeG_get h
      exact ⟨h1, by simp only [List.mem_cons, not_or]; exact ⟨fun e => hi e.symm, h2⟩⟩
theorem wipeG_len : ∀ vs : List Nat, (wipeG G vs).length = G.length
  | [] => rfl
  | v :: vs => by unfold wipeG; rw [List.length_set, wipeG_len vs]
theorem wipe_out' {i : Nat} : ∀ {vs : List Nat}, i ∉ vs → (wipe σ vs)[i]? = σ[i]?
  | [], _ => rfl
  | v :: vs, h => by
    have h1 : v ≠ i := fun e => h (by rw [e]; exact List.mem_cons_self)
    unfold wipe
    rw [List.getElem?_set_ne h1]
    exact wipe_out' fun z => h (List.mem_cons_of_mem _ z)
theorem wipe_in {i : Nat} : ∀ {vs : List Nat}, i ∈ vs → i < σ.length → (wipe σ vs)[i]? = some none
  | [], h, _ => by cases h
  | v :: vs, h, hl => by
    unfold wipe
    by_cases hv : v = i
    · subst hv
      rw [List.getElem?_set_self (by rw [wipe_length]; exact hl)]
    · rw [List.getElem?_set_ne hv]
      rcases List.mem_cons.mp h with e | e
      · exact absurd e.symm hv
      · exact wipe_in e hl
theorem wipe_set {i : Nat} {v : Option V} {vs : List Nat} (h : i ∈ vs) : wipe ((wipe σ vs).set i v) vs = wipe σ vs := by
  apply List.ext_getElem?
  intro j
  by_cases hj : j ∈ vs
  · by_cases hl : j < σ.length
    · rw [wipe_in hj hl, wipe_in hj (by rw [List.length_set, wipe_length]; exact hl)]
    · rw [List.getElem?_eq_none (by rw [wipe_length, List.length_set, wipe_length]; omega), List.getElem?_eq_none (by rw [wipe_length]; omega)]
  · rw [wipe_out' hj, List.getElem?_set_ne fun e => hj (by rw [← e]; exact h)]
theorem Env.wipe (E : Env H1 σ H G) (vs : List Nat) : Env H1 (L2.wipe σ vs) H (wipeG G vs) := by
  obtain ⟨own, h1, h2, h3⟩ := E.at_
  refine ⟨E.old, by rw [wipe_length, wipeG_len]; exact E.len, own, h1, h2, fun i c hc => ?_⟩
  obtain ⟨a, b⟩ := wipeG_get hc
  obtain ⟨v, hv, hk⟩ := h3 i c a
  exact ⟨v, by rw [wipe_out' b]; exact hv, hk⟩
/-- the target of a comprehension -/
def Tb (g : TG) (r : Rp α) (x : α) (vs : List Nat) (G G' : Cells K) : Prop := ∀ H1 σ σ0 H v, σ = wipe σ0 vs → Env H1 σ H G → r H v x → ∀ P : L2.St → Hp → Prop, (∀ σ', Env H1 σ' H G' → wipe σ' vs = wipe σ0 vs → P σ' H) → g v σ H P
theorem tb_name {r : Rp α} [F : Frz K r] {x : α} {i : Nat} {vs : List Nat} (hi : i ∈ vs := by decide) : Tb (gName i) r x vs G (G.set i (fc r x)) := fun H1 σ σ0 H v e E h P k => by
  subst e
  exact k _ (E.put (R := fz K r) (as := []) (Same.refl H) (fun _ z => nomatch z) ⟨rfl, stb h⟩) (wipe_set hi)
theorem wipe_set2 {i : Nat} {v : Option V} {vs : List Nat} (h : i ∈ vs) : wipe (σ.set i v) vs = wipe σ vs := by
  apply List.ext_getElem?
  intro j
  by_cases hj : j ∈ vs
  · by_cases hl : j < σ.length
    · rw [wipe_in hj hl, wipe_in hj (by rw [List.length_set]; exact hl)]
    · rw [List.getElem?_eq_none (by rw [wipe_length, List.length_set]; omega), List.getElem?_eq_none (by rw [wipe_length]; omega)]
  · rw [wipe_out' hj, List.getElem?_set_ne (fun e => hj (by rw [← e]; exact h)), wipe_out' hj]
theorem tb_pair {r : Rp α} {q : Rp β} [F : Frz K r] [F' : Frz K q] {p : α × β} {i j : Nat} {vs : List Nat} (hi : i ∈ vs := by decide) (hj : j ∈ vs := by decide) : Tb (gTup K 2 (gCons (gName i) (gCons (gName j) gNil))) (rP K r q) p vs G ((G.set i (fc r p.1)).set j (fc q p.2)) := fun H1 σ σ0 H v e0 E ⟨a, x, y, e, h, h1, h2⟩ P k => by
  subst e0
  exact ⟨a, [x, y], e, h, rfl, x, [y], rfl, y, [], rfl, rfl, k _ ((E.put (R := fz K r) (as := []) (Same.refl H) (fun _ z => nomatch z) ⟨rfl, stb h1⟩).put (R := fz K q) (as := []) (Same.refl H) (fun _ z => nomatch z) ⟨rfl, stb h2⟩) (by rw [wipe_set2 hj, wipe_set hi])⟩
theorem getE_last {X : Type _} {l : List X} {x : X} : (l ++ [x])[l.length]? = some x := by simp
theorem getE_old {X : Type _} {l : List X} {x y : X} {i : Nat} (h : l[i]? = some y) : (l ++ [x])[i]? = some y := by
  rw [List.getElem?_append_left (List.getElem?_eq_some_iff.mp h).1]
  exact h
theorem Env.pad (E : Env H1 σ H G) : Env H1 (σ ++ [none]) H (G ++ [none]) := by
  obtain ⟨own, g1, g2, g3⟩ := E.at_
  refine ⟨E.old, by rw [List.length_append, List.length_append, E.len]; rfl, own, g1, g2, fun i c hc => ?_⟩
  by_cases hi : i < G.length
  · rw [List.getElem?_append_left hi] at hc
    obtain ⟨v, hv, hk⟩ := g3 i c hc
    exact ⟨v, getE_old hv, hk⟩
  · rw [List.getElem?_append_right (by omega)] at hc
    cases h : i - G.length with
    | zero => rw [h] at hc; simp at hc
    | succ n => rw [h] at hc; simp at hc
theorem Env.trunc {x : Option V} {c : Option (Cell K)} (E : Env H1 (σ ++ [x]) H (G ++ [c])) : Env H1 σ H G := by
  obtain ⟨own, g1, g2, g3⟩ := E.at_
  have hl : σ.length = G.length := by
    have := E.len
    rw [List.length_append, List.length_append] at this
    simpa using this
  refine ⟨E.old, hl, own, g1, g2, fun i c hc => ?_⟩
  obtain ⟨v, hv, hk⟩ := g3 i c (getE_old hc)
  have hi : i < σ.length := by rw [hl]; exact (List.getElem?_eq_some_iff.mp hc).1
  rw [List.getElem?_append_left hi] at hv
  exact ⟨v, hv, hk⟩
theorem set_last {X : Type _} {l : List X} {x y : X} : (l ++ [x]).set l.length y = l ++ [y] := by simp
theorem Env.push {D : Addr} {q : Rp β} (E : Env H1 σ H G) (hD : H D = none) : Env H1 (σ ++ [some (.ref D)]) (upd H D (.lst [])) (G ++ [some (.ow (nl K q) [])]) := by
  have e : Same H (upd H D (.lst [])) := fun b o hb => by rw [upd_ne (ne_of_none hb hD)]; exact hb
  have E2 := E.pad.put (i := G.length) (v := .ref D) (R := nl K q) (b := []) (as := [D]) e (fun p hp => by rw [List.mem_singleton.mp hp]; exact hD) ⟨D, [], rfl, rfl, upd_same, .nil⟩
  have e1 : (σ ++ [none]).set G.length (some (V.ref D)) = σ ++ [some (.ref D)] := by rw [← E.len]; exact set_last
  rw [e1, set_last] at E2
  exact E2
theorem nw_lc {vs : List Nat} {f : β' → γ} {p : β' → Bool} {q : Rp γ} [F : Frz K q] {r : Rp β'} {ys : List β'} (hw : Wk wi r G G' ys) (hlen : ys.length ≤ 100000)
    (turn : ∀ pre x post, ys = pre ++ x :: post → ∃ Gx, Tb g r x vs (wipeG G' vs) Gx ∧ EvT tt Gx (p x) ∧ (p x = true → Ev q te Gx (f x))) :
    Nw (nl K q) (tLc wi g tt te vs) G ((ys.filter p).map f) := fun H1 σ H E Q k => by
  refine hw H1 σ H E _ fun J H2 Hs s1 sH E2 W => ?_
  intro D hD
  have E3 := (E2.wipe vs).push (q := q) hD
  have Mk : ∀ h, Env H2 (L2.wipe σ vs ++ [some (.ref D)]) h (wipeG G' vs ++ [some (.ow (nl K q) ((ys.filter p).map f))]) → Same Hs h → Q (.ref D) h := fun h Eh sh => by
    obtain ⟨own, g1, g2, g3⟩ := Eh.at_
    have hlg : (L2.wipe σ vs).length = (wipeG G' vs).length := (E2.wipe vs).len
    obtain ⟨v, hv, p', ws, e1, e2, e3, e4⟩ := g3 _ _ getE_last
    rw [← hlg, getE_last] at hv
    cases hv
    cases e2
    exact k _ h [D] (sH.trans sh) (fun b hb => by rw [List.mem_singleton.mp hb]; exact sH.free hD) ⟨D, ws, rfl, rfl, e3, e4⟩
  have same0 : Same Hs (upd Hs D (.lst [])) := fun b o hb => by rw [upd_ne (ne_of_none hb hD)]; exact hb
  refine ⟨fun i m h => i + m = ys.length ∧ Same Hs h ∧ Env H2 (L2.wipe σ vs ++ [some (.ref D)]) h (wipeG G' vs ++ [some (.ow (nl K q) (((ys.take i).filter p).map f))]), ⟨ys.length, Nat.zero_add _, same0, E3⟩, ?_⟩
  rintro i m h ⟨hi, sh, Eh⟩
  by_cases hl : i < ys.length
  · have hx : ys[i]? = some ys[i] := List.getElem?_eq_getElem hl
    have etk : ys.take (i + 1) = ys.take i ++ [ys[i]] := by rw [List.take_add_one, hx]; rfl
    obtain ⟨g1, g2⟩ := W.go h i _ (E2.old.trans sh) hx
    refine .inr ⟨g1, fun h' => Same Hs h' ∧ Env H2 (L2.wipe σ vs ++ [some (.ref D)]) h' (wipeG G' vs ++ [some (.ow (nl K q) (((ys.take (i + 1)).filter p).map f))]), fun h' z => ⟨m - 1, by omega, by omega, z⟩, fun v h2 hy => ?_⟩
    obtain ⟨e2, z⟩ := g2 v h2 hy
    have hsp : ys = ys.take i ++ ys[i] :: ys.drop (i + 1) := by rw [List.getElem_cons_drop, List.take_append_drop]
    obtain ⟨Gx, ht, hb, he⟩ := turn (ys.take i) ys[i] (ys.drop (i + 1)) hsp
    refine ht H2 _ σ h2 v rfl (Eh.trunc.grow e2) z _ fun σ2 E4 hwp => ⟨hwp, hb H2 σ2 h2 E4 _ fun h3 e3 => ?_⟩
    cases hp : p ys[i] with
    | false =>
      refine iteF ⟨(sh.trans e2).trans e3, ?_⟩
      have : ((ys.take (i + 1)).filter p).map f = ((ys.take i).filter p).map f := by
        rw [etk, List.filter_append, List.filter_cons, if_neg (by rw [hp]; exact Bool.false_ne_true), List.filter_nil, List.append_nil]
      rw [this]
      exact Eh.grow (e2.trans e3)
    | true =>
      refine iteT (he hp H2 σ2 h3 (E4.grow e3) _ fun y h4 e4 hq => ?_)
      have E5 := Eh.grow ((e2.trans e3).trans e4)
      obtain ⟨own, k1, k2, k3⟩ := id E5.at_
      have hlg : (L2.wipe σ vs).length = (wipeG G' vs).length := (E2.wipe vs).len
      obtain ⟨w, hw', p', ws, a1, a2, a3, a4⟩ := k3 _ _ getE_last
      have hw2 := hw'
      rw [← hlg, getE_last] at hw'
      cases hw'
      cases a2
      have hlw : ws.length ≤ 100000 := by
        rw [a4.len, List.length_map]
        exact Nat.le_trans (List.length_filter_le _ _) (Nat.le_trans (by rw [List.length_take]; exact Nat.min_le_right _ _) hlen)
      refine ⟨ws, a3, Nat.lt_of_le_of_lt hlw (by decide), ?_, ?_⟩
      · intro b o hb
        rw [upd_ne (ne_of_none hb hD)]
        exact e4 _ _ (e3 _ _ (e2 _ _ (sh _ _ hb)))
      · have E6 := app_env (x := f ys[i]) E5 getE_last hw2 a3 a4 (stb hq)
        rw [set_last] at E6
        have : ((ys.take (i + 1)).filter p).map f = ((ys.take i).filter p).map f ++ [f ys[i]] := by
          rw [etk, List.filter_append, List.filter_cons, if_pos hp, List.filter_nil, List.map_append]
          rfl
        rw [this]
        exact E6
  · have hi' : i = ys.length := by omega
    subst hi'
    rw [List.take_length] at Eh
    exact .inl ⟨W.stop h (E2.old.trans sh), Mk h Eh sh⟩
theorem et_yes : EvT tYes G true := fun H1 σ H E Q k => k H (Same.refl H)
/-- a comprehension without a test -/
theorem nw_lc1 {vs : List Nat} {f : β' → γ} {q : Rp γ} [F : Frz K q] {r : Rp β'} {ys : List β'} (hw : Wk wi r G G' ys) (hlen : ys.length ≤ 100000)
    (turn : ∀ pre x post, ys = pre ++ x :: post → ∃ Gx, Tb g r x vs (wipeG G' vs) Gx ∧ Ev q te Gx (f x)) :
    Nw (nl K q) (tLc wi g tYes te vs) G (ys.map f) := by
  have := nw_lc (p := fun _ => true) (f := f) (tt := tYes) hw hlen fun pre x post h => by
    obtain ⟨Gx, h1, h2⟩ := turn pre x post h
    exact ⟨Gx, h1, et_yes, fun _ => h2⟩
  rw [List.filter_eq_self.mpr fun _ _ => rfl] at this
  exact this
end
end Gt
/-! Gt4: operators, built-in functions and methods, from data to data. -/
namespace Gt
open PySem PySem.Spec PyProof.Rows L2

theorem sz {n : Nat} (h : n ≤ 100000) : n ≤ sizeLine := Nat.le_trans h (by decide)
section
variable {K : PySem.W.Frag} {H0 H1 H H' : Hp} {σ : L2.St} {G G' Gx : Cells K} {α β γ S : Type}
variable {ta tb tc te : TE} {tt tu tv : TT} {r : Rp α} {q : Rp β} {a x : α} {b y : β} {i j n m : Int} {s t : Str} {c d : Bool}

/-! ### ints -/
theorem ev_add (ha : Ev rI ta G i) (hb : Ev rI tb G j) : Ev rI (tOp (rI0 fun i j => .int (i + j)) ta tb) G (i + j) := ev_op ha hb (op_I0 fun _ => rfl)
theorem ev_sub (ha : Ev rI ta G i) (hb : Ev rI tb G j) : Ev rI (tOp (rI0 fun i j => .int (i - j)) ta tb) G (i - j) := ev_op ha hb (op_I0 fun _ => rfl)
theorem ev_mul (ha : Ev rI ta G i) (hb : Ev rI tb G j) (h : CMul i j) : Ev rI (tOp (L2.rI CMul fun i j => .int (i * j)) ta tb) G (i * j) := ev_op ha hb (op_I h fun _ => rfl)
theorem ev_div (ha : Ev rI ta G i) (hb : Ev rI tb G j) (h : CDiv i j) : Ev rI (tOp (L2.rI CDiv fun i j => .int (i / j)) ta tb) G (i / j) := ev_op ha hb (op_I h fun _ => rfl)
theorem ev_mod (ha : Ev rI ta G i) (hb : Ev rI tb G j) (h : 0 < j) : Ev rI (tOp (L2.rI (fun _ j => 0 < j) fun i j => .int (i % j)) ta tb) G (i % j) := ev_op ha hb (op_I h fun _ => rfl)
theorem ev_pow (ha : Ev rI ta G i) (hb : Ev rI tb G j) (h : CPow i j) : Ev rI (tOp (L2.rI CPow fun i j => .int (i ^ j.toNat)) ta tb) G (i ^ j.toNat) := ev_op ha hb (op_I h fun _ => rfl)
theorem ev_lt (ha : Ev rI ta G i) (hb : Ev rI tb G j) : Ev rB (tOp (rI0 fun i j => .bl (decide (i < j))) ta tb) G (decide (i < j)) := ev_op ha hb (op_I0 fun _ => rfl)
theorem ev_le (ha : Ev rI ta G i) (hb : Ev rI tb G j) : Ev rB (tOp (rI0 fun i j => .bl (decide (i ≤ j))) ta tb) G (decide (i ≤ j)) := ev_op ha hb (op_I0 fun _ => rfl)
theorem ev_gt (ha : Ev rI ta G i) (hb : Ev rI tb G j) : Ev rB (tOp (rI0 fun i j => .bl (decide (j < i))) ta tb) G (decide (j < i)) := ev_op ha hb (op_I0 fun _ => rfl)
theorem ev_ge (ha : Ev rI ta G i) (hb : Ev rI tb G j) : Ev rB (tOp (rI0 fun i j => .bl (decide (j ≤ i))) ta tb) G (decide (j ≤ i)) := ev_op ha hb (op_I0 fun _ => rfl)
theorem ev_neg (ha : Ev rI ta G i) : Ev rI (tUn (rU fun i => .int (-i)) ta) G (-i) := fun H0 σ H E Q k => ha H0 σ H E _ fun u H' e h => ⟨i, h, k _ H' e rfl⟩
theorem ev_chain {o o' : Int → Int → V} {f f' : Int → Int → Bool} (h1 : ∀ i j, o i j = .bl (f i j)) (h2 : ∀ i j, o' i j = .bl (f' i j)) (ha : Ev rI ta G i) (hb : Ev rI tb G j) (hc : Ev rI tc G n) : Ev rB (tChain (rI0 o) (rI0 o') ta tb tc) G (f i j && f' j n) := fun H0 σ H E Q k =>
  ha H0 σ H E _ fun u H1 e1 z1 => hb H0 σ H1 (E.grow e1) _ fun v H2 e2 z2 => ⟨i, j, z1, z2, f i j, h1 i j, by
    cases hf : f i j with
    | false => exact iteF (k _ H2 (e1.trans e2) (by rw [hf]; rfl))
    | true => exact iteT (hc H0 σ H2 (E.grow (e1.trans e2)) _ fun w H3 e3 z3 => ⟨j, n, z2, z3, k _ H3 ((e1.trans e2).trans e3) (by rw [hf, h2]; rfl)⟩)⟩
theorem ev_chain_le (ha : Ev rI ta G i) (hb : Ev rI tb G j) (hc : Ev rI tc G n) : Ev rB (tChain (rI0 fun i j => .bl (decide (i ≤ j))) (rI0 fun i j => .bl (decide (i ≤ j))) ta tb tc) G (decide (i ≤ j) && decide (j ≤ n)) :=
  ev_chain (f := fun i j => decide (i ≤ j)) (f' := fun i j => decide (i ≤ j)) (fun _ _ => rfl) (fun _ _ => rfl) ha hb hc
theorem ev_chain_lelt (ha : Ev rI ta G i) (hb : Ev rI tb G j) (hc : Ev rI tc G n) : Ev rB (tChain (rI0 fun i j => .bl (decide (i ≤ j))) (rI0 fun i j => .bl (decide (i < j))) ta tb tc) G (decide (i ≤ j) && decide (j < n)) :=
  ev_chain (f := fun i j => decide (i ≤ j)) (f' := fun i j => decide (i < j)) (fun _ _ => rfl) (fun _ _ => rfl) ha hb hc

/-! ### == of flat things -/
theorem ev_eqI (ha : Ev rI ta G i) (hb : Ev rI tb G j) : Ev rB (tOp rEq ta tb) G (decide (i = j)) := ev_op ha hb fun H u v hu hv Q k => by
  cases hu; cases hv
  exact ⟨rfl, k _ H (Same.refl H) (by show V.bl _ = V.bl _; congr 1; exact decide_eq_decide.mpr ⟨fun h => V.int.inj h, fun h => by rw [h]⟩)⟩
theorem ev_neI (ha : Ev rI ta G i) (hb : Ev rI tb G j) : Ev rB (tOp rNe ta tb) G (!decide (i = j)) := ev_op ha hb fun H u v hu hv Q k => by
  cases hu; cases hv
  exact ⟨rfl, k _ H (Same.refl H) (by show V.bl _ = V.bl _; congr 2; exact decide_eq_decide.mpr ⟨fun h => V.int.inj h, fun h => by rw [h]⟩)⟩
theorem ev_eqS (ha : Ev rS ta G s) (hb : Ev rS tb G t) : Ev rB (tOp rEq ta tb) G (decide (s = t)) := ev_op ha hb fun H u v hu hv Q k => by
  cases hu; cases hv
  exact ⟨rfl, k _ H (Same.refl H) (by show V.bl _ = V.bl _; congr 1; exact decide_eq_decide.mpr ⟨fun h => V.str.inj h, fun h => by rw [h]⟩)⟩
theorem ev_neS (ha : Ev rS ta G s) (hb : Ev rS tb G t) : Ev rB (tOp rNe ta tb) G (!decide (s = t)) := ev_op ha hb fun H u v hu hv Q k => by
  cases hu; cases hv
  exact ⟨rfl, k _ H (Same.refl H) (by show V.bl _ = V.bl _; congr 2; exact decide_eq_decide.mpr ⟨fun h => V.str.inj h, fun h => by rw [h]⟩)⟩
theorem ev_eqB (ha : Ev rB ta G c) (hb : Ev rB tb G d) : Ev rB (tOp rEq ta tb) G (decide (c = d)) := ev_op ha hb fun H u v hu hv Q k => by
  cases hu; cases hv
  exact ⟨rfl, k _ H (Same.refl H) (by show V.bl _ = V.bl _; congr 1; exact decide_eq_decide.mpr ⟨fun h => V.bl.inj h, fun h => by rw [h]⟩)⟩
theorem ev_neB (ha : Ev rB ta G c) (hb : Ev rB tb G d) : Ev rB (tOp rNe ta tb) G (!decide (c = d)) := ev_op ha hb fun H u v hu hv Q k => by
  cases hu; cases hv
  exact ⟨rfl, k _ H (Same.refl H) (by show V.bl _ = V.bl _; congr 2; exact decide_eq_decide.mpr ⟨fun h => V.bl.inj h, fun h => by rw [h]⟩)⟩
/-- is None -/
def isNone' {α : Type} : Option α → Bool
  | .none => true
  | .some _ => false
class NotNon {α : Type} (r : Rp α) : Prop where
  nn : ∀ {H : Hp} {v : V} {a : α}, r H v a → v ≠ .non
instance : NotNon rI := ⟨fun h z => by rw [z] at h; cases h⟩
instance : NotNon rS := ⟨fun h z => by rw [z] at h; cases h⟩
instance : NotNon rB := ⟨fun h z => by rw [z] at h; cases h⟩
instance {r : Rp α} : NotNon (rT K r) := ⟨fun ⟨_, _, e, _⟩ z => by rw [z] at e; cases e⟩
instance {r : Rp α} {q : Rp β} : NotNon (rP K r q) := ⟨fun ⟨_, _, _, e, _⟩ z => by rw [z] at e; cases e⟩
instance {r : Rp α} : NotNon (rL r) := ⟨fun ⟨_, _, e, _⟩ z => by rw [z] at e; cases e⟩
theorem isNone_of {r : Rp α} [N : NotNon r] {v : V} {o : Option α} (h : rO r H v o) : decide (v = .non) = isNone' o := by
  cases o with
  | none => exact decide_eq_true h
  | some a => exact decide_eq_false (N.nn (r := r) (H := H) (a := a) h)
theorem ev_isN [N : NotNon r] [M : Mono r] {o : Option α} (ha : Ev (rO r) ta G o) : Ev rB (tOp (fun x y H Q => y = .non ∧ Q (.bl (decide (x = .non))) H) ta (tC .non)) G (isNone' o) := fun H0 σ H E Q k =>
  ha H0 σ H E _ fun u H1 e1 z => ⟨rfl, k _ H1 e1 (by show V.bl _ = V.bl _; rw [isNone_of z])⟩
theorem ev_notN [N : NotNon r] [M : Mono r] {o : Option α} (ha : Ev (rO r) ta G o) : Ev rB (tOp (fun x y H Q => y = .non ∧ Q (.bl (!decide (x = .non))) H) ta (tC .non)) G (!isNone' o) := fun H0 σ H E Q k =>
  ha H0 σ H E _ fun u H1 e1 z => ⟨rfl, k _ H1 e1 (by show V.bl _ = V.bl _; rw [isNone_of z])⟩

/-! ### tests, and, or, not, if -/
theorem et_test (h : Ev rB te G c) : EvT (tTest te) G c := fun H0 σ H E Q k => h H0 σ H E _ fun v H' e z => ⟨c, z, k H' e⟩
theorem et_B (h : Ev rB te G c) : EvT (tB te) G c := fun H0 σ H E Q k => h H0 σ H E _ fun v H' e z => ⟨c, z, k H' e⟩
theorem et_and (h1 : EvT tt G c) (h2 : c = true → EvT tu G d) : EvT (tAnd tt tu) G (c && d) := fun H0 σ H E Q k => h1 H0 σ H E _ fun H1 e1 => by
  cases c with
  | true => exact iteT (h2 rfl H0 σ H1 (E.grow e1) _ fun H2 e2 => k H2 (e1.trans e2))
  | false => exact iteF (k H1 e1)
theorem et_or (h1 : EvT tt G c) (h2 : c = false → EvT tu G d) : EvT (tOr tt tu) G (c || d) := fun H0 σ H E Q k => h1 H0 σ H E _ fun H1 e1 => by
  cases c with
  | true => exact iteT (k H1 e1)
  | false => exact iteF (h2 rfl H0 σ H1 (E.grow e1) _ fun H2 e2 => k H2 (e1.trans e2))
theorem et_not (h1 : EvT tt G c) : EvT (tNot tt) G (!c) := fun H0 σ H E Q k => h1 H0 σ H E _ fun H1 e1 => k H1 e1
theorem ev_and (h1 : Ev rB ta G c) (h2 : c = true → Ev rB tb G d) : Ev rB (tAndV ta tb) G (c && d) := fun H0 σ H E Q k => h1 H0 σ H E _ fun v H1 e1 z => ⟨c, z, by
  cases c with
  | true => exact iteT (h2 rfl H0 σ H1 (E.grow e1) _ fun w H2 e2 z2 => k w H2 (e1.trans e2) z2)
  | false => exact iteF (k _ H1 e1 rfl)⟩
theorem ev_or (h1 : Ev rB ta G c) (h2 : c = false → Ev rB tb G d) : Ev rB (tOrV ta tb) G (c || d) := fun H0 σ H E Q k => h1 H0 σ H E _ fun v H1 e1 z => ⟨c, z, by
  cases c with
  | true => exact iteT (k _ H1 e1 rfl)
  | false => exact iteF (h2 rfl H0 σ H1 (E.grow e1) _ fun w H2 e2 z2 => k w H2 (e1.trans e2) z2)⟩
theorem ev_not (h1 : Ev rB ta G c) : Ev rB (tNotV ta) G (!c) := fun H0 σ H E Q k => h1 H0 σ H E _ fun v H1 e1 z => ⟨c, z, k _ H1 e1 rfl⟩
theorem ev_if (h : EvT tt G c) (h1 : c = true → Ev r ta G a) (h2 : c = false → Ev r tb G x) : Ev r (tIf tt ta tb) G (bif c then a else x) := fun H0 σ H E Q k => h H0 σ H E _ fun H1 e1 => by
  cases c with
  | true => exact iteT (h1 rfl H0 σ H1 (E.grow e1) _ fun w H2 e2 z2 => k w H2 (e1.trans e2) z2)
  | false => exact iteF (h2 rfl H0 σ H1 (E.grow e1) _ fun w H2 e2 z2 => k w H2 (e1.trans e2) z2)
/-- truth -/
abbrev tTru (K : PySem.W.Frag) (ta : TE) : TT := fun σ H Q => ta σ H fun x H' => ∃ k, TruV K x H' k ∧ Q k H'
theorem et_truI (h : Ev rI ta G i) : EvT (tTru K ta) G (i != 0) := fun H0 σ H E Q k => h H0 σ H E _ fun v H1 e1 z => ⟨_, by rw [show v = .int i from z]; exact rfl, k H1 e1⟩
theorem et_truB (h : Ev rB ta G c) : EvT (tTru K ta) G c := fun H0 σ H E Q k => h H0 σ H E _ fun v H1 e1 z => ⟨_, by rw [show v = .bl c from z]; exact rfl, k H1 e1⟩
theorem et_truS (h : Ev rS ta G s) (hz : s.length ≤ 100000) : EvT (tTru K ta) G ((s.length : Int) != 0) := fun H0 σ H E Q k => h H0 σ H E _ fun v H1 e1 z => ⟨_, by rw [show v = .str s from z]; exact ⟨sz hz, rfl⟩, k H1 e1⟩
theorem a2_empty {r : α → β → Prop} {xs : List α} {ys : List β} (h : A2 r xs ys) : xs.isEmpty = ys.isEmpty := by cases h <;> rfl
theorem et_truL {xs : List α} (h : Ev (rL r) ta G xs) : EvT (tTru K ta) G (!xs.isEmpty) := fun H0 σ H E Q k => h H0 σ H E _ fun v H1 e1 ⟨p, vs, ev, hp, z⟩ => ⟨!xs.isEmpty, by rw [ev]; exact .inl ⟨vs, SqL.of hp, by rw [a2_empty z]⟩, k H1 e1⟩
theorem et_truT {xs : List α} (h : Ev (rT K r) ta G xs) : EvT (tTru K ta) G (!xs.isEmpty) := fun H0 σ H E Q k => h H0 σ H E _ fun v H1 e1 ⟨p, vs, ev, hp, z⟩ => ⟨!xs.isEmpty, by rw [ev]; exact .inr (.inl ⟨vs, hp, by rw [a2_empty z]⟩), k H1 e1⟩

/-! ### calls -/
theorem ea_nil : EvA aN tNil G () := fun H0 σ H E Q k => k [] H (Same.refl H) rfl
theorem ea_cons {A : Ra γ} {g : γ} {tr : TA} [M : Mono r] (h : Ev r te G a) (hr : EvA A tr G g) : EvA (aC r A) (tCons te tr) G (a, g) := fun H0 σ H E Q k =>
  h H0 σ H E _ fun v H1 e1 z1 => hr H0 σ H1 (E.grow e1) _ fun vs H2 e2 z2 => k _ H2 (e1.trans e2) ⟨v, vs, rfl, M.up e2 z1, z2⟩
theorem ev_call {A : Ra γ} {g : γ} {pre : γ → Prop} {f : γ → β} {E' : XK} {t : TA} (h : EvA A t G g) (hp : pre g) (e : f g = b) : Ev q (tCall (spF A pre q f) [] E' t) G b := fun H0 σ H E Q k =>
  h H0 σ H E _ fun vs H1 e1 z1 => by
    rw [List.append_nil]
    exact ⟨g, z1, hp, fun v H2 e2 z2 => k v H2 (e1.trans e2) (e ▸ z2)⟩
theorem nw_call {A : Ra γ} {g : γ} {pre : γ → Prop} {R : Rs K β} {f : γ → β} {E' : XK} {t : TA} (h : EvA A t G g) (hp : pre g) (e : f g = b) : Nw R (tCall (spN A pre R f) [] E' t) G b := fun H0 σ H E Q k =>
  h H0 σ H E _ fun vs H1 e1 z1 => by
    rw [List.append_nil]
    exact ⟨g, z1, hp, fun v H2 as e2 hn z2 => k v H2 as (e1.trans e2) (fun p hp => free_back e1 (hn p hp)) (e ▸ z2)⟩
/-- a built-in function -/
def CbE (o : List V → Hp → VK → Prop) (A : Ra γ) (q : Rp β) (g : γ) (b : β) : Prop := ∀ H vs, A H vs g → ∀ Q : VK, (∀ w H', Same H H' → q H' w b → Q w H') → o vs H Q
def CbN (o : List V → Hp → VK → Prop) (A : Ra γ) (R : Rs K β) (g : γ) (b : β) : Prop := ∀ H vs, A H vs g → ∀ Q : VK, (∀ w H' as, Same H H' → (∀ p, p ∈ as → H p = none) → R.rep H' w b as → Q w H') → o vs H Q
theorem ev_cb {o : List V → Hp → VK → Prop} {A : Ra γ} {g : γ} {t : TA} (h : EvA A t G g) (ho : CbE o A q g b) : Ev q (tCB o t) G b := fun H0 σ H E Q k =>
  h H0 σ H E _ fun vs H1 e1 z1 => ho H1 vs z1 Q fun v H2 e2 z2 => k v H2 (e1.trans e2) z2
theorem nw_cb {o : List V → Hp → VK → Prop} {A : Ra γ} {g : γ} {t : TA} {R : Rs K β} (h : EvA A t G g) (ho : CbN o A R g b) : Nw R (tCB o t) G b := fun H0 σ H E Q k =>
  h H0 σ H E _ fun vs H1 e1 z1 => ho H1 vs z1 Q fun v H2 as e2 hn z2 => k v H2 as (e1.trans e2) (fun p hp => free_back e1 (hn p hp)) z2
abbrev rLenU (K : PySem.W.Frag) : List V → Hp → VK → Prop := fun xs H Q => ∃ x n, xs = [x] ∧ LenV K x H n ∧ Q (.int n) H
theorem ev_lenL {xs : List α} [M : Mono r] (h : Ev (rL r) te G xs) : Ev rI (tCB (rLenU K) (tCons te tNil)) G (xs.length : Int) := ev_cb (ea_cons h ea_nil) fun H vs ⟨v, ws, e, ⟨p, us, ev, hp, z⟩, e2⟩ Q k =>
  ⟨v, us.length, by rw [e, show ws = [] from e2], by rw [ev]; exact .inl ⟨us, SqL.of hp, rfl⟩, k _ H (Same.refl H) (by rw [z.len]; rfl)⟩
theorem ev_lenT {xs : List α} [M : Mono r] (h : Ev (rT K r) te G xs) : Ev rI (tCB (rLenU K) (tCons te tNil)) G (xs.length : Int) := ev_cb (ea_cons h ea_nil) fun H vs ⟨v, ws, e, ⟨p, us, ev, hp, z⟩, e2⟩ Q k =>
  ⟨v, us.length, by rw [e, show ws = [] from e2], by rw [ev]; exact .inr ⟨us, hp, rfl⟩, k _ H (Same.refl H) (by rw [z.len]; rfl)⟩
theorem ev_lenS (h : Ev rS te G s) (hz : s.length ≤ 100000) : Ev rI (tCB (rLenU K) (tCons te tNil)) G (s.length : Int) := ev_cb (ea_cons h ea_nil) fun H vs ⟨v, ws, e, hv, e2⟩ Q k =>
  ⟨v, s.length, by rw [e, show ws = [] from e2], by rw [show v = .str s from hv]; exact ⟨sz hz, rfl⟩, k _ H (Same.refl H) rfl⟩
abbrev rIntU : List V → Hp → VK → Prop := fun xs H Q => (∃ i, xs = [.int i] ∧ Q (.int i) H) ∨ ∃ k, xs = [.bl k] ∧ Q (.int (if k then 1 else 0)) H
theorem ev_intI (h : Ev rI te G i) : Ev rI (tCB rIntU (tCons te tNil)) G i := ev_cb (ea_cons h ea_nil) fun H vs ⟨v, ws, e, hv, e2⟩ Q k =>
  .inl ⟨i, by rw [e, show ws = [] from e2, show v = .int i from hv], k _ H (Same.refl H) rfl⟩
def b2 (c : Bool) : Int := bif c then 1 else 0
theorem b2_small (c : Bool) : -(2 ^ 64) < b2 c ∧ b2 c < 2 ^ 64 := by cases c <;> decide
theorem ev_intB (h : Ev rB te G c) : Ev rI (tCB rIntU (tCons te tNil)) G (b2 c) := ev_cb (ea_cons h ea_nil) fun H vs ⟨v, ws, e, hv, e2⟩ Q k =>
  .inr ⟨c, by rw [e, show ws = [] from e2, show v = .bl c from hv], k _ H (Same.refl H) (by cases c <;> rfl)⟩
theorem bls {vs : List V} {bs : List Bool} (z : A2 (rB H) vs bs) : vs = bs.map V.bl := A2.map_eq z
theorem ev_all {bs : List Bool} (h : Ev (rL rB) te G bs) : Ev rB (tCB (rAll K) (tCons te tNil)) G (bs.all id) := ev_cb (ea_cons h ea_nil) fun H vs ⟨v, ws, e, ⟨p, us, ev, hp, z⟩, e2⟩ Q k =>
  ⟨p, bs, by rw [e, show ws = [] from e2, ev], by rw [← bls z]; exact SqL.of hp, k _ H (Same.refl H) rfl⟩
theorem ev_any {bs : List Bool} (h : Ev (rL rB) te G bs) : Ev rB (tCB (rAny K) (tCons te tNil)) G (bs.any id) := ev_cb (ea_cons h ea_nil) fun H vs ⟨v, ws, e, ⟨p, us, ev, hp, z⟩, e2⟩ Q k =>
  ⟨p, bs, by rw [e, show ws = [] from e2, ev], by rw [← bls z]; exact SqL.of hp, k _ H (Same.refl H) rfl⟩
theorem ev_sum {ns : List Int} (h : Ev (rL rI) te G ns) : Ev rI (tCB (rSum K) (tCons te tNil)) G ns.sum := ev_cb (ea_cons h ea_nil) fun H vs ⟨v, ws, e, ⟨p, us, ev, hp, z⟩, e2⟩ Q k =>
  ⟨p, ns, by rw [e, show ws = [] from e2, ev], by rw [show us = ns.map V.int from A2.map_eq z] at hp; exact SqL.of hp, k _ H (Same.refl H) rfl⟩
abbrev rListU (K : PySem.W.Frag) : List V → Hp → VK → Prop := fun xs H Q => ∃ p ys, xs = [.ref p] ∧ (SqL K H p ys ∨ SqT K H p ys) ∧ ∀ l, H l = none → Q (.ref l) (upd H l (.lst ys))
theorem same_new {p : Addr} {o : HO} (h : H p = none) : Same H (upd H p o) := fun b u e => by rw [upd_ne (ne_of_none e h)]; exact e
theorem nw_listL {xs : List α} [M : Mono r] [F : Frz K r] (h : Ev (rL r) te G xs) : Nw (nl K r) (tCB (rListU K) (tCons te tNil)) G xs := nw_cb (ea_cons h ea_nil) fun H vs ⟨v, ws, e, ⟨p, us, ev, hp, z⟩, e2⟩ Q k =>
  ⟨p, us, by rw [e, show ws = [] from e2, ev], .inl (SqL.of hp), fun l hl => k _ _ [l] (same_new hl) (fun b hb => by rw [List.mem_singleton.mp hb]; exact hl) ⟨l, us, rfl, rfl, upd_same, z.imp fun _ _ q => stb (M.up (same_new hl) q)⟩⟩
theorem nw_listT {xs : List α} [M : Mono r] [F : Frz K r] (h : Ev (rT K r) te G xs) : Nw (nl K r) (tCB (rListU K) (tCons te tNil)) G xs := nw_cb (ea_cons h ea_nil) fun H vs ⟨v, ws, e, ⟨p, us, ev, hp, z⟩, e2⟩ Q k =>
  ⟨p, us, by rw [e, show ws = [] from e2, ev], .inr hp, fun l hl => k _ _ [l] (same_new hl) (fun b hb => by rw [List.mem_singleton.mp hb]; exact hl) ⟨l, us, rfl, rfl, upd_same, z.imp fun _ _ q => stb (M.up (same_new hl) q)⟩⟩
abbrev rTupU (K : PySem.W.Frag) : List V → Hp → VK → Prop := fun xs H Q => ∃ p ys, xs = [.ref p] ∧ ((SqL K H p ys ∧ ∀ l, H l = none → Q (.ref l) (upd H l (.tup ys))) ∨ (SqT K H p ys ∧ Q (.ref p) H))
theorem ev_tupL {xs : List α} [M : Mono r] (h : Ev (rL r) te G xs) : Ev (rT K r) (tCB (rTupU K) (tCons te tNil)) G xs := ev_cb (ea_cons h ea_nil) fun H vs ⟨v, ws, e, ⟨p, us, ev, hp, z⟩, e2⟩ Q k =>
  ⟨p, us, by rw [e, show ws = [] from e2, ev], .inl ⟨SqL.of hp, fun l hl => k _ _ (same_new hl) ⟨l, us, rfl, SqT.of upd_same, z.imp fun _ _ q => M.up (same_new hl) q⟩⟩⟩
theorem ev_tupT {xs : List α} [M : Mono r] (h : Ev (rT K r) te G xs) : Ev (rT K r) (tCB (rTupU K) (tCons te tNil)) G xs := ev_cb (ea_cons h ea_nil) fun H vs ⟨v, ws, e, ⟨p, us, ev, hp, z⟩, e2⟩ Q k =>
  ⟨p, us, by rw [e, show ws = [] from e2, ev], .inr ⟨hp, k _ H (Same.refl H) ⟨p, us, rfl, hp, z⟩⟩⟩

/-! ### displays -/
def aAll (r : Rp α) : Ra (List α) := fun H vs xs => A2 (r H) vs xs
instance [M : Mono r] : MonoA (aAll r) := ⟨fun e h => h.imp fun _ _ z => M.up e z⟩
theorem el_nil : EvA (aAll r) tNil G [] := fun H0 σ H E Q k => k [] H (Same.refl H) .nil
theorem el_cons {tr : TA} {xs : List α} [M : Mono r] (h : Ev r te G x) (hr : EvA (aAll r) tr G xs) : EvA (aAll r) (tCons te tr) G (x :: xs) := fun H0 σ H E Q k =>
  h H0 σ H E _ fun v H1 e1 z1 => hr H0 σ H1 (E.grow e1) _ fun vs H2 e2 z2 => k _ H2 (e1.trans e2) (.cons (M.up e2 z1) z2)
theorem nw_lst {ta : TA} {xs : List α} [M : Mono r] [F : Frz K r] (h : EvA (aAll r) ta G xs) (hz : xs.length ≤ 100000) : Nw (nl K r) (tLst ta) G xs := fun H0 σ H E Q k =>
  h H0 σ H E _ fun vs H1 e1 z => ⟨by rw [A2.len z]; exact sz hz, fun p hp => k _ _ [p] (e1.trans (same_new hp)) (fun b hb => by rw [List.mem_singleton.mp hb]; exact free_back e1 hp) ⟨p, vs, rfl, rfl, upd_same, A2.imp (fun _ _ q => stb (M.up (same_new hp) q)) z⟩⟩
theorem ev_tup {ta : TA} {xs : List α} [M : Mono r] (h : EvA (aAll r) ta G xs) (hz : xs.length ≤ 100000) : Ev (rT K r) (tTup ta) G xs := fun H0 σ H E Q k =>
  h H0 σ H E _ fun vs H1 e1 z => ⟨by rw [A2.len z]; exact sz hz, fun p hp => k _ _ (e1.trans (same_new hp)) ⟨p, vs, rfl, SqT.of upd_same, A2.imp (fun _ _ q => M.up (same_new hp) q) z⟩⟩
theorem ev_pair [M : Mono r] [N : Mono q] (h : Ev r ta G a) (h' : Ev q tb G b) : Ev (rP K r q) (tTup (tCons ta (tCons tb tNil))) G (a, b) := fun H0 σ H E Q k =>
  h H0 σ H E _ fun v H1 e1 z1 => h' H0 σ H1 (E.grow e1) _ fun w H2 e2 z2 => ⟨by show 2 ≤ sizeLine; decide, fun p hp => k _ _ ((e1.trans e2).trans (same_new hp)) ⟨p, v, w, rfl, SqT.of upd_same, M.up (e2.trans (same_new hp)) z1, N.up (same_new hp) z2⟩⟩

/-! ### items and slices -/
theorem atI_A2 {f : V → α → Prop} {vs : List V} {xs : List α} {i : Int} {x : α} (z : A2 f vs xs) (h : atI xs i = some x) : ∃ v, atI vs i = some v ∧ f v x := by
  unfold atI at h ⊢
  rw [z.len]
  cases e : ixN xs.length i with
  | none => rw [e] at h; cases h
  | some j =>
    rw [e] at h
    exact z.get' (i := j) h
theorem ev_ixL {xs : List α} [M : Mono r] (h : Ev (rL r) ta G xs) (hi : Ev rI tb G i) (hx : atI xs i = some x) : Ev r (tOp (rIx K) ta tb) G x := ev_op h hi fun H u v ⟨p, vs, ev, hp, z⟩ hv Q k => by
  obtain ⟨w, hw, hr⟩ := atI_A2 z hx
  exact .inl ⟨p, vs, i, w, ev, hv, SqL.of hp, hw, k w H (Same.refl H) hr⟩
theorem ev_ixT {xs : List α} [M : Mono r] (h : Ev (rT K r) ta G xs) (hi : Ev rI tb G i) (hx : atI xs i = some x) : Ev r (tOp (rIx K) ta tb) G x := ev_op h hi fun H u v ⟨p, vs, ev, hp, z⟩ hv Q k => by
  obtain ⟨w, hw, hr⟩ := atI_A2 z hx
  exact .inr (.inl ⟨p, vs, i, w, ev, hv, hp, hw, k w H (Same.refl H) hr⟩)
theorem ev_ixS {z : Nat} (h : Ev rS ta G s) (hi : Ev rI tb G i) (hz : s.length ≤ 100000) (hx : atI s.cps.toList i = some z) : Ev rS (tOp (rIx K) ta tb) G ⟨#[z]⟩ := ev_op h hi fun H u v hu hv Q k =>
  .inr (.inr ⟨s, i, z, hu, hv, sz hz, hx, k _ H (Same.refl H) rfl⟩)
theorem ev_fst [M : Mono r] [N : Mono q] {p : α × β} (h : Ev (rP K r q) ta G p) : Ev r (tOp (rIx K) ta (tC (.int 0))) G p.1 := fun H0 σ H E Q k =>
  h H0 σ H E _ fun v H1 e1 ⟨c, x, y, ev, hc, z1, z2⟩ => .inr (.inl ⟨c, [x, y], 0, x, ev, rfl, hc, rfl, k x H1 e1 z1⟩)
theorem ev_snd [M : Mono r] [N : Mono q] {p : α × β} (h : Ev (rP K r q) ta G p) : Ev q (tOp (rIx K) ta (tC (.int 1))) G p.2 := fun H0 σ H E Q k =>
  h H0 σ H E _ fun v H1 e1 ⟨c, x, y, ev, hc, z1, z2⟩ => .inr (.inl ⟨c, [x, y], 1, y, ev, rfl, hc, rfl, k y H1 e1 z2⟩)
def EvO (to : TO) (G : Cells K) (o : Option Int) : Prop := ∀ H0 σ H, Env H0 σ H G → ∀ Q : Option Int → Hp → Prop, (∀ H', Same H H' → Q o H') → to σ H Q
theorem eo_none : EvO tNoPart G Option.none := fun H0 σ H E Q k => k H (Same.refl H)
theorem eo_some (h : Ev rI te G i) : EvO (tPart te) G (Option.some i) := fun H0 σ H E Q k => h H0 σ H E _ fun v H' e z => ⟨i, z, k H' e⟩
/-- xs[lo:hi] -/
def cut (xs : List α) (lo hi : Option Int) : List α := (xs.drop (HT.sIx xs.length 0 lo)).take (HT.sIx xs.length xs.length hi - HT.sIx xs.length 0 lo)
theorem cut_A2 {f : V → α → Prop} {vs : List V} {xs : List α} (z : A2 f vs xs) (lo hi : Option Int) : A2 f (cutV vs lo hi) (cut xs lo hi) := by
  unfold cutV cut
  rw [z.len]
  exact (z.drop _).take _
theorem nw_slL {xs : List α} {lo hi : Option Int} {tl th : TO} [M : Mono r] [F : Frz K r] (h : Ev (rL r) ta G xs) (hl : EvO tl G lo) (hh : EvO th G hi) : Nw (nl K r) (tSl (rSlL K) ta tl th) G (cut xs lo hi) := fun H0 σ H E Q k =>
  h H0 σ H E _ fun v H1 e1 ⟨p, vs, ev, hp, z⟩ => hl H0 σ H1 (E.grow e1) _ fun H2 e2 => hh H0 σ H2 (E.grow (e1.trans e2)) _ fun H3 e3 =>
    ⟨p, vs, ev, SqL.of (e3 _ _ (e2 _ _ hp)), fun l hn => k _ _ [l] (((e1.trans e2).trans e3).trans (same_new hn)) (fun b hb => by rw [List.mem_singleton.mp hb]; exact free_back ((e1.trans e2).trans e3) hn)
      ⟨l, _, rfl, rfl, upd_same, (cut_A2 z lo hi).imp fun _ _ q => stb (M.up ((e2.trans e3).trans (same_new hn)) q)⟩⟩
theorem ev_slS {lo hi : Option Int} {tl th : TO} (h : Ev rS ta G s) (hl : EvO tl G lo) (hh : EvO th G hi) (hz : s.length ≤ 100000) : Ev rS (tSl rSlS ta tl th) G (cutS s lo hi) := fun H0 σ H E Q k =>
  h H0 σ H E _ fun v H1 e1 z => hl H0 σ H1 (E.grow e1) _ fun H2 e2 => hh H0 σ H2 (E.grow (e1.trans e2)) _ fun H3 e3 => ⟨s, z, sz hz, k _ H3 ((e1.trans e2).trans e3) rfl⟩

/-! ### + of texts and lists -/
abbrev rAddS : R2 := fun x y H Q => ∃ i j, x = .str i ∧ y = .str j ∧ i.length + j.length ≤ sizeLine ∧ Q (.str (i ++ j)) H
theorem ev_addS (h : Ev rS ta G s) (h' : Ev rS tb G t) (hz : s.length + t.length ≤ 100000) : Ev rS (tOp rAddS ta tb) G (s ++ t) := ev_op h h' fun H u v hu hv Q k => ⟨s, t, hu, hv, sz hz, k _ H (Same.refl H) rfl⟩
theorem nw_cat {xs ys : List α} [M : Mono r] [F : Frz K r] (h : Ev (rL r) ta G xs) (h' : Ev (rL r) tb G ys) (hz : xs.length + ys.length ≤ 100000) : Nw (nl K r) (tOp rCat ta tb) G (xs ++ ys) := nw_op h h' fun H u v ⟨p, vs, ev, hp, z⟩ ⟨p', vs', ev', hp', z'⟩ Q k =>
  ⟨p, p', vs, vs', ev, ev', hp, hp', by rw [z.len, z'.len]; exact sz hz, fun l hl => k _ _ [l] (same_new hl) (fun b hb => by rw [List.mem_singleton.mp hb]; exact hl) ⟨l, _, rfl, rfl, upd_same, (A2.app z' z).imp fun _ _ q => stb (M.up (same_new hl) q)⟩⟩

theorem dot_eq : (Str.ofString ".") = ⟨#[46]⟩ := by decide +kernel
theorem atI_zero {x : α} {l : List α} : atI (x :: l) 0 = some x := by
  unfold atI ixN
  rw [if_pos (by omega), if_pos (by rw [List.length_cons]; omega)]
  rfl
theorem atI_pos {xs : List α} {i : Int} {x : α} (h0 : 0 ≤ i) (h : xs[i.toNat]? = some x) : atI xs i = some x := by
  have hl := (List.getElem?_eq_some_iff.mp h).1
  unfold atI ixN
  rw [if_pos h0, if_pos (by omega)]
  exact h
/-! ### in -/
theorem ev_inSign {z : Nat} (h : Ev rS ta G t) (e : t = ⟨#[z]⟩) (h' : Ev rS tb G s) : Ev rB (tOp (fun x y H Q => ∃ (c : Nat) (z : Str), x = .str ⟨#[c]⟩ ∧ y = .str z ∧ Q (.bl (decide (c ∈ z.cps.toList))) H) ta tb) G (decide (z ∈ s.cps.toList)) := ev_op h h' fun H u v hu hv Q k => ⟨z, s, by rw [← e]; exact hu, hv, k _ H (Same.refl H) rfl⟩
theorem ev_ninSign {z : Nat} (h : Ev rS ta G t) (e : t = ⟨#[z]⟩) (h' : Ev rS tb G s) : Ev rB (tOp (fun x y H Q => ∃ (c : Nat) (z : Str), x = .str ⟨#[c]⟩ ∧ y = .str z ∧ Q (.bl (!decide (c ∈ z.cps.toList))) H) ta tb) G (!decide (z ∈ s.cps.toList)) := ev_op h h' fun H u v hu hv Q k => ⟨z, s, by rw [← e]; exact hu, hv, k _ H (Same.refl H) rfl⟩
theorem inV_strs {xs : List Str} : inV (.str s) (xs.map V.str) = decide (s ∈ xs) := by
  unfold inV
  induction xs with
  | nil => simp
  | cons a l ih =>
    rw [List.map_cons, List.any_cons, ih]
    show ((a == s) || decide (s ∈ l)) = decide (s ∈ a :: l)
    by_cases h : a = s
    · subst h; simp
    · have : (a == s) = false := beq_eq_false_iff_ne.mpr h
      rw [this, Bool.false_or]
      apply decide_eq_decide.mpr
      rw [List.mem_cons]
      exact ⟨Or.inr, fun z => z.resolve_left fun e => h e.symm⟩
theorem flat_strs : ∀ xs : List Str, (xs.map V.str).all flatV = true
  | [] => rfl
  | _ :: r => by rw [List.map_cons, List.all_cons, flat_strs r]; rfl
theorem ev_inL {xs : List Str} (h : Ev rS ta G s) (h' : Ev (rL rS) tb G xs) : Ev rB (tOp (rIn K false) ta tb) G (decide (s ∈ xs)) := ev_op h h' fun H u v hu ⟨p, vs, ev, hp, z⟩ Q k => by
  have e : vs = xs.map V.str := A2.map_eq z
  subst e
  rw [show u = .str s from hu]
  exact ⟨p, _, ev, .inl (SqL.of hp), rfl, flat_strs xs, k _ H (Same.refl H) (by show V.bl (inV _ _) = _; rw [inV_strs])⟩
theorem ev_ninL {xs : List Str} (h : Ev rS ta G s) (h' : Ev (rL rS) tb G xs) : Ev rB (tOp (rIn K true) ta tb) G (!decide (s ∈ xs)) := ev_op h h' fun H u v hu ⟨p, vs, ev, hp, z⟩ Q k => by
  have e : vs = xs.map V.str := A2.map_eq z
  subst e
  rw [show u = .str s from hu]
  exact ⟨p, _, ev, .inl (SqL.of hp), rfl, flat_strs xs, k _ H (Same.refl H) (by show V.bl (!inV _ _) = _; rw [inV_strs])⟩
theorem ev_inT {xs : List Str} (h : Ev rS ta G s) (h' : Ev (rT K rS) tb G xs) : Ev rB (tOp (rIn K false) ta tb) G (decide (s ∈ xs)) := ev_op h h' fun H u v hu ⟨p, vs, ev, hp, z⟩ Q k => by
  have e : vs = xs.map V.str := A2.map_eq z
  subst e
  rw [show u = .str s from hu]
  exact ⟨p, _, ev, .inr hp, rfl, flat_strs xs, k _ H (Same.refl H) (by show V.bl (inV _ _) = _; rw [inV_strs])⟩
theorem ev_ninT {xs : List Str} (h : Ev rS ta G s) (h' : Ev (rT K rS) tb G xs) : Ev rB (tOp (rIn K true) ta tb) G (!decide (s ∈ xs)) := ev_op h h' fun H u v hu ⟨p, vs, ev, hp, z⟩ Q k => by
  have e : vs = xs.map V.str := A2.map_eq z
  subst e
  rw [show u = .str s from hu]
  exact ⟨p, _, ev, .inr hp, rfl, flat_strs xs, k _ H (Same.refl H) (by show V.bl (!inV _ _) = _; rw [inV_strs])⟩

/-! ### methods of texts -/
theorem nw_split (h : Ev rS ta G s) (h' : Ev rS tb G t) (ht : (t.length == 0) = false) (hz : s.length ≤ 1000) :
    Nw (nl K rS) (tM1 (fun x xs H Q => ∃ a b, x = .str a ∧ xs = [.str b] ∧ (b.length == 0) = false ∧ a.length + 2 ≤ sizeLine ∧ rNewStrs (Txt.split a b) H Q) ta tb) G (Txt.split s t) := fun H0 σ H E Q k =>
  h H0 σ H E _ fun v H1 e1 z1 => ⟨⟨s, z1⟩, h' H0 σ H1 (E.grow e1) _ fun w H2 e2 z2 => ⟨s, t, z1, by rw [show w = .str t from z2], ht, sz (by omega), fun p hp => k _ _ [p] ((e1.trans e2).trans (same_new hp)) (fun b hb => by rw [List.mem_singleton.mp hb]; exact free_back (e1.trans e2) hp) ⟨p, _, rfl, rfl, upd_same, stbs (A2.of_map _ : A2 (rS _) _ _)⟩⟩⟩
theorem ev_upper (h : Ev rS ta G s) (hz : s.length ≤ 100000) : Ev rS (tM0 (fun x xs H Q => ∃ a, x = .str a ∧ xs = [] ∧ a.length ≤ 5592405 ∧ Q (.str (Txt.upper a)) H) ta) G (Txt.upper s) := fun H0 σ H E Q k =>
  h H0 σ H E _ fun v H1 e1 z1 => ⟨⟨s, z1⟩, s, z1, rfl, by omega, k _ H1 e1 rfl⟩
theorem ev_join {xs : List Str} (h : Ev rS ta G s) (h' : Ev (rL rS) tb G xs) (hz : (xs.map (·.length)).sum + xs.length * s.length ≤ 16777216) :
    Ev rS (tM1 (fun x xs H Q => ∃ a p, ∃ ys : List Str, x = .str a ∧ xs = [.ref p] ∧ (SqL K H p (ys.map V.str) ∨ SqT K H p (ys.map V.str)) ∧ (ys.map (·.length)).sum + ys.length * a.length ≤ 16777216 ∧ Q (.str (Txt.join a ys)) H) ta tb) G (Txt.join s xs) := fun H0 σ H E Q k =>
  h H0 σ H E _ fun v H1 e1 z1 => ⟨⟨s, z1⟩, h' H0 σ H1 (E.grow e1) _ fun w H2 e2 ⟨p, vs, ev, hp, z2⟩ => ⟨s, p, xs, z1, by rw [ev], .inl (by rw [← (show vs = xs.map V.str from A2.map_eq z2)]; exact SqL.of hp), hz, k _ H2 (e1.trans e2) rfl⟩⟩
abbrev P3 := Str × Str × Str
theorem ev_partition (h : Ev rS ta G s) (h' : Ev rS tb G t) (ht : (t.length == 0) = false) (hz : s.length ≤ 100000) :
    Ev (rT K rS) (tM1 (fun x xs H Q => ∃ a b, x = .str a ∧ xs = [.str b] ∧ (b.length == 0) = false ∧ a.length ≤ sizeLine ∧
      ∀ p, H p = none → Q (.ref p) (upd H p (.tup [.str (Txt.partition a b).1, .str (Txt.partition a b).2.1, .str (Txt.partition a b).2.2]))) ta tb) G [(Txt.partition s t).1, (Txt.partition s t).2.1, (Txt.partition s t).2.2] := fun H0 σ H E Q k =>
  h H0 σ H E _ fun v H1 e1 z1 => ⟨⟨s, z1⟩, h' H0 σ H1 (E.grow e1) _ fun w H2 e2 z2 => ⟨s, t, z1, by rw [show w = .str t from z2], ht, sz hz, fun p hp => k _ _ ((e1.trans e2).trans (same_new hp)) ⟨p, _, rfl, SqT.of upd_same, .cons rfl (.cons rfl (.cons rfl .nil))⟩⟩⟩
end

/-! ### rpartition -/
section
variable {X : Cx} {o e : Expr} {to te : TE}
abbrev rRpart : V → List V → Hp → VK → Prop := fun x xs H Q => ∃ a b, x = .str a ∧ xs = [.str b] ∧ (b.length == 0) = false ∧ a.length ≤ sizeLine ∧
    ∀ p, H p = none → Q (.ref p) (upd H p (.tup [.str (Txt.rpartition a b).1, .str (Txt.rpartition a b).2.1, .str (Txt.rpartition a b).2.2]))
theorem mt_rpartition : MtR X "str.rpartition" rRpart := by
  intro pins s σ H x xs v us Q I rx rs h
  obtain ⟨a, b, rfl, rfl, hb, hz, h⟩ := h
  obtain ⟨t, rfl⟩ := rx
  cases rs with
  | cons r1 rs =>
    cases rs
    obtain ⟨u, rfl⟩ := r1
    refine call_meets F.slot_str_rpartition (typeIs_str _ _ _) F.entry_str_rpartition (F.args_str_rpartition_2 _ _) (meets_str_rpartition a b t u hb hz) ?_
    unfold Txt.rpartition at h
    revert h
    cases hl : Builtin.Str.lastOccurrence a b 0 a.length with
    | none => exact fun h => laid_parts I h
    | some i => exact fun h => laid_parts I h
theorem pe_rpartition {apos pos : Pos} (ho : PE X o to) (he : PE X e te) (hs : starEach [e] X.env = [(false, eval e X.env)] := by rfl) (hbase : attributeBase o "rpartition" X.env (eval o X.env) = eval o X.env := by rfl) (hline : (apos.endLine == pos.line) = true := by rfl) :
    PE X (.Call (.Attribute o "rpartition" apos) [e] [] pos) (tM1 rRpart to te) := pe_m1 F.slot_str_rpartition F.type_str_rpartition mt_rpartition ho he hs hbase hline
end
theorem ev_rpartition {K : PySem.W.Frag} {G : Cells K} {ta tb : TE} {s t : Str} (h : Ev rS ta G s) (h' : Ev rS tb G t) (ht : (t.length == 0) = false) (hz : s.length ≤ 100000) :
    Ev (rT K rS) (tM1 rRpart ta tb) G [(Txt.rpartition s t).1, (Txt.rpartition s t).2.1, (Txt.rpartition s t).2.2] := fun H0 σ H E Q k =>
  h H0 σ H E _ fun v H1 e1 z1 => ⟨⟨s, z1⟩, h' H0 σ H1 (E.grow e1) _ fun w H2 e2 z2 => ⟨s, t, z1, by rw [show w = .str t from z2], ht, sz hz, fun p hp => k _ _ ((e1.trans e2).trans (same_new hp)) ⟨p, _, rfl, SqT.of upd_same, .cons rfl (.cons rfl (.cons rfl .nil))⟩⟩⟩
end Gt
/-! Gt5: one lemma a construct, whatever the kinds (by instances). -/
namespace Gt
open PySem PySem.Spec PyProof.Rows L2
section
variable {K : PySem.W.Frag} {H0 H1 H H' : Hp} {σ : L2.St} {G G' Gx : Cells K} {α β γ S : Type}
variable {ta tb tc te : TE} {tt tu tv : TT} {r : Rp α} {q : Rp β} {R : Rp γ} {a x : α} {b y : β} {i j n m : Int} {s t : Str} {c d : Bool} {z w : γ}
/-- flat things that == compares -/
class EqF {α : Type} (r : Rp α) where
  enc : α → V
  dec : DecidableEq α
  inj : ∀ {x y : α}, enc x = enc y → x = y
  rep : ∀ {H : Hp} {v : V} {a : α}, r H v a → v = enc a
  sc : ∀ x y : α, scal (enc x) (enc y) = true
instance : EqF rI := ⟨V.int, inferInstance, fun h => V.int.inj h, fun h => h, fun _ _ => rfl⟩
instance : EqF rS := ⟨V.str, inferInstance, fun h => V.str.inj h, fun h => h, fun _ _ => rfl⟩
instance : EqF rB := ⟨V.bl, inferInstance, fun h => V.bl.inj h, fun h => h, fun _ _ => rfl⟩
def encO {α : Type} (f : α → V) : Option α → V
  | .none => .non
  | .some a => f a
instance : EqF (rO rS) := ⟨encO V.str, inferInstance, fun {x y} h => match x, y, h with
  | .none, .none, _ => rfl
  | .some _, .some _, h => by rw [V.str.inj h], fun {_ _ a} h => match a, h with
  | .none, h => h
  | .some _, h => h, fun x y => match x, y with
  | .none, .none => rfl
  | .none, .some _ => rfl
  | .some _, .none => rfl
  | .some _, .some _ => rfl⟩
def eqF {α : Type} (r : Rp α) [F : EqF r] (x y : α) : Bool := @decide (x = y) (F.dec x y)
theorem ev_eq [F : EqF r] [M : Mono r] (ha : Ev r ta G a) (hb : Ev r tb G x) : Ev rB (tOp rEq ta tb) G (@decide (a = x) (F.dec a x)) := ev_op ha hb fun H u v hu hv Q k => by
  have e1 := F.rep hu
  have e2 := F.rep hv
  subst e1; subst e2
  refine ⟨F.sc _ _, k _ H (Same.refl H) ?_⟩
  show V.bl _ = V.bl _
  congr 1
  by_cases h : a = x
  · subst h
    rw [decide_eq_true rfl]
    exact (@decide_eq_true _ (F.dec _ _) rfl).symm
  · rw [decide_eq_false fun e => h (F.inj e)]
    exact (@decide_eq_false _ (F.dec _ _) h).symm
theorem ev_ne [F : EqF r] [M : Mono r] (ha : Ev r ta G a) (hb : Ev r tb G x) : Ev rB (tOp rNe ta tb) G (!@decide (a = x) (F.dec a x)) := ev_op ha hb fun H u v hu hv Q k => by
  have e1 := F.rep hu
  have e2 := F.rep hv
  subst e1; subst e2
  refine ⟨F.sc _ _, k _ H (Same.refl H) ?_⟩
  show V.bl _ = V.bl _
  congr 2
  by_cases h : a = x
  · subst h
    rw [decide_eq_true rfl]
    exact (@decide_eq_true _ (F.dec _ _) rfl).symm
  · rw [decide_eq_false fun e => h (F.inj e)]
    exact (@decide_eq_false _ (F.dec _ _) h).symm

/-- a list that is read (the script too) -/
def rQ (K : PySem.W.Frag) {β : Type} (r : Rp β) : Rp (List β) := fun H v xs => ∃ a vs, v = .ref a ∧ SqL K H a vs ∧ A2 (r H) vs xs
instance [M : Mono r] : Mono (rQ K r) := ⟨fun e ⟨a, vs, ev, h, q⟩ => ⟨a, vs, ev, e.seq h, q.imp fun _ _ z => M.up e z⟩⟩
theorem rQ_of (h : rL r H v xs) : rQ K r H v xs := let ⟨a, vs, ev, hp, z⟩ := h; ⟨a, vs, ev, SqL.of hp, z⟩

/-- what has items by place -/
class Ixd (K : PySem.W.Frag) {γ α : Type} (R : Rp γ) (z : γ) (r : outParam (Rp α)) (its : outParam (List α)) (ok : outParam Prop) : Prop where
  ix : ∀ {H : Hp} {u : V} {i : Int} {x : α} {Q : VK}, R H u z → ok → atI its i = some x → (∀ v, r H v x → Q v H) → rIx K u (.int i) H Q
instance {xs : List α} [M : Mono r] : Ixd K (rL r) xs r xs True := ⟨fun {H u i x Q} ⟨p, vs, ev, hp, h⟩ _ hx k => by
  obtain ⟨w, hw, hr⟩ := atI_A2 h hx
  exact .inl ⟨p, vs, i, w, ev, rfl, SqL.of hp, hw, k w hr⟩⟩
instance {xs : List α} [M : Mono r] : Ixd K (rQ K r) xs r xs True := ⟨fun {H u i x Q} ⟨p, vs, ev, hp, h⟩ _ hx k => by
  obtain ⟨w, hw, hr⟩ := atI_A2 h hx
  exact .inl ⟨p, vs, i, w, ev, rfl, hp, hw, k w hr⟩⟩
instance {xs : List α} [M : Mono r] : Ixd K (rT K r) xs r xs True := ⟨fun {H u i x Q} ⟨p, vs, ev, hp, h⟩ _ hx k => by
  obtain ⟨w, hw, hr⟩ := atI_A2 h hx
  exact .inr (.inl ⟨p, vs, i, w, ev, rfl, hp, hw, k w hr⟩)⟩
/-- the signs of a text, each a text -/
def chs (s : Str) : List Str := s.cps.toList.map fun c => (⟨#[c]⟩ : Str)
theorem chs_len (s : Str) : (chs s).length = s.length := by unfold chs; rw [List.length_map]; exact Array.length_toList
theorem atI_map {f : α → β} {l : List α} {i : Int} : atI (l.map f) i = (atI l i).map f := by
  unfold atI
  rw [List.length_map]
  cases ixN l.length i with
  | none => rfl
  | some j => show (l.map f)[j]? = _; rw [List.getElem?_map]; rfl
instance {z : Str} : Ixd K rS z rS (chs z) (z.length ≤ 100000) := ⟨fun {H u i x Q} hu hz hx k => by
  unfold chs at hx
  rw [atI_map] at hx
  cases e : atI z.cps.toList i with
  | none => rw [e] at hx; cases hx
  | some c =>
    rw [e] at hx
    cases hx
    exact .inr (.inr ⟨z, i, c, hu, rfl, sz hz, e, k _ rfl⟩)⟩
theorem ev_ix {its : List α} {ok : Prop} [I : Ixd K R z r its ok] [M : Mono R] (h : Ev R ta G z) (hi : Ev rI tb G i) (hk : ok) (hx : atI its i = some x) : Ev r (tOp (rIx K) ta tb) G x := ev_op h hi fun H u v hu hv Q k => by
  rw [show v = .int i from hv]
  exact I.ix hu hk hx fun w hw => k w H (Same.refl H) hw

/-- what has a length -/
class Lnd (K : PySem.W.Frag) {γ : Type} (R : Rp γ) (z : γ) (ln : outParam Nat) (ok : outParam Prop) : Prop where
  len : ∀ {H : Hp} {u : V}, R H u z → ok → LenV K u H ln
instance {z : List α} : Lnd K (rL r) z z.length True := ⟨fun {H u} ⟨p, vs, ev, hp, h⟩ _ => by rw [ev, ← h.len]; exact .inl ⟨vs, SqL.of hp, rfl⟩⟩
instance {z : List α} : Lnd K (rQ K r) z z.length True := ⟨fun {H u} ⟨p, vs, ev, hp, h⟩ _ => by rw [ev, ← h.len]; exact .inl ⟨vs, hp, rfl⟩⟩
instance {z : List α} : Lnd K (rT K r) z z.length True := ⟨fun {H u} ⟨p, vs, ev, hp, h⟩ _ => by rw [ev, ← h.len]; exact .inr ⟨vs, hp, rfl⟩⟩
instance {z : α × β} : Lnd K (rP K r q) z 2 True := ⟨fun {H u} ⟨p, x, y, ev, hp, _⟩ _ => by rw [ev]; exact .inr ⟨_, hp, rfl⟩⟩
instance {z : Str} : Lnd K rS z z.length (z.length ≤ 100000) := ⟨fun {H u} hu hz => by rw [show u = .str z from hu]; exact ⟨sz hz, rfl⟩⟩
theorem ev_len {ln : Nat} {ok : Prop} [L : Lnd K R z ln ok] [M : Mono R] (h : Ev R te G z) (hk : ok) : Ev rI (tCB (rLenU K) (tCons te tNil)) G (ln : Int) := ev_cb (ea_cons h ea_nil) fun H vs ⟨v, ws, e, hv, e2⟩ Q k =>
  ⟨v, ln, by rw [e, show ws = [] from e2], L.len hv hk, k _ H (Same.refl H) rfl⟩
/-- what truth tells -/
class Tru (K : PySem.W.Frag) {γ : Type} (R : Rp γ) (z : γ) (f : outParam Bool) (ok : outParam Prop) : Prop where
  tru : ∀ {H : Hp} {u : V}, R H u z → ok → TruV K u H f
instance {z : List α} : Tru K (rL r) z (!z.isEmpty) True := ⟨fun {H u} ⟨p, vs, ev, hp, h⟩ _ => by rw [ev]; exact .inl ⟨vs, SqL.of hp, by rw [a2_empty h]⟩⟩
instance {z : List α} : Tru K (rT K r) z (!z.isEmpty) True := ⟨fun {H u} ⟨p, vs, ev, hp, h⟩ _ => by rw [ev]; exact .inr (.inl ⟨vs, hp, by rw [a2_empty h]⟩)⟩
instance {z : Int} : Tru K rI z (z != 0) True := ⟨fun {H u} hu _ => by rw [show u = .int z from hu]; exact rfl⟩
instance {z : Str} : Tru K rS z ((z.length : Int) != 0) (z.length ≤ 100000) := ⟨fun {H u} hu hz => by rw [show u = .str z from hu]; exact ⟨sz hz, rfl⟩⟩
theorem et_tru {f : Bool} {ok : Prop} [L : Tru K R z f ok] (h : Ev R ta G z) (hk : ok) : EvT (tTru K ta) G f := fun H0 σ H E Q k => h H0 σ H E _ fun v H1 e1 hv => ⟨f, L.tru hv hk, k H1 e1⟩
/-- what in asks of a list or tuple of texts -/
class InS (K : PySem.W.Frag) (R : Rp (List Str)) : Prop where
  seq : ∀ {H : Hp} {u : V} {xs : List Str}, R H u xs → ∃ p, u = .ref p ∧ (SqL K H p (xs.map V.str) ∨ SqT K H p (xs.map V.str))
instance : InS K (rL rS) := ⟨fun ⟨p, vs, ev, hp, h⟩ => ⟨p, ev, .inl (by rw [← A2.map_eq (f := V.str) h]; exact SqL.of hp)⟩⟩
instance : InS K (rQ K rS) := ⟨fun ⟨p, vs, ev, hp, h⟩ => ⟨p, ev, .inl (by rw [← A2.map_eq (f := V.str) h]; exact hp)⟩⟩
instance : InS K (rT K rS) := ⟨fun ⟨p, vs, ev, hp, h⟩ => ⟨p, ev, .inr (by rw [← A2.map_eq (f := V.str) h]; exact hp)⟩⟩
theorem ev_in {R : Rp (List Str)} {xs : List Str} [I : InS K R] [M : Mono R] (h : Ev rS ta G s) (h' : Ev R tb G xs) : Ev rB (tOp (rIn K false) ta tb) G (decide (s ∈ xs)) := ev_op h h' fun H u v hu hv Q k => by
  obtain ⟨p, ev, hp⟩ := I.seq hv
  rw [show u = .str s from hu]
  exact ⟨p, _, ev, hp, rfl, flat_strs xs, k _ H (Same.refl H) (by show V.bl (inV _ _) = _; rw [inV_strs])⟩
theorem ev_nin {R : Rp (List Str)} {xs : List Str} [I : InS K R] [M : Mono R] (h : Ev rS ta G s) (h' : Ev R tb G xs) : Ev rB (tOp (rIn K true) ta tb) G (!decide (s ∈ xs)) := ev_op h h' fun H u v hu hv Q k => by
  obtain ⟨p, ev, hp⟩ := I.seq hv
  rw [show u = .str s from hu]
  exact ⟨p, _, ev, hp, rfl, flat_strs xs, k _ H (Same.refl H) (by show V.bl (!inV _ _) = _; rw [inV_strs])⟩
/-- a list or tuple as list(..) and tuple(..) take it -/
class Seq (K : PySem.W.Frag) {α : Type} (r : outParam (Rp α)) (R : Rp (List α)) : Prop where
  seq : ∀ {H : Hp} {u : V} {xs : List α}, R H u xs → ∃ p vs, u = .ref p ∧ (SqL K H p vs ∨ SqT K H p vs) ∧ A2 (r H) vs xs
instance : Seq K r (rL r) := ⟨fun ⟨p, vs, ev, hp, h⟩ => ⟨p, vs, ev, .inl (SqL.of hp), h⟩⟩
instance : Seq K r (rQ K r) := ⟨fun ⟨p, vs, ev, hp, h⟩ => ⟨p, vs, ev, .inl hp, h⟩⟩
instance : Seq K r (rT K r) := ⟨fun ⟨p, vs, ev, hp, h⟩ => ⟨p, vs, ev, .inr hp, h⟩⟩
theorem nw_list {R : Rp (List α)} {xs : List α} [I : Seq K r R] [N : Mono R] [M : Mono r] [F : Frz K r] (h : Ev R te G xs) : Nw (nl K r) (tCB (rListU K) (tCons te tNil)) G xs := nw_cb (ea_cons h ea_nil) fun H vs ⟨v, ws, e, hv, e2⟩ Q k => by
  obtain ⟨p, us, ev, hp, h⟩ := I.seq hv
  exact ⟨p, us, by rw [e, show ws = [] from e2, ev], hp, fun l hl => k _ _ [l] (same_new hl) (fun b hb => by rw [List.mem_singleton.mp hb]; exact hl) ⟨l, us, rfl, rfl, upd_same, h.imp fun _ _ q => stb (M.up (same_new hl) q)⟩⟩
theorem ev_tupC {R : Rp (List α)} {xs : List α} [I : Seq K r R] [N : Mono R] [M : Mono r] (h : Ev R te G xs) : Ev (rT K r) (tCB (rTupU K) (tCons te tNil)) G xs := ev_cb (ea_cons h ea_nil) fun H vs ⟨v, ws, e, hv, e2⟩ Q k => by
  obtain ⟨p, us, ev, hp, h⟩ := I.seq hv
  refine ⟨p, us, by rw [e, show ws = [] from e2, ev], ?_⟩
  rcases hp with hp | hp
  · exact .inl ⟨hp, fun l hl => k _ _ (same_new hl) ⟨l, us, rfl, SqT.of upd_same, h.imp fun _ _ q => M.up (same_new hl) q⟩⟩
  · exact .inr ⟨hp, k _ H (Same.refl H) ⟨p, us, rfl, hp, h⟩⟩
/-- isinstance of a thing whose class its kind tells -/
class TyN (K : PySem.W.Frag) {γ : Type} (R : Rp γ) (T : outParam String) : Prop where
  ty : ∀ {H : Hp} {u : V} {z : γ}, R H u z → TyX K H u (.type T)
instance : TyN K rS "str" := ⟨fun h => by rw [h]; exact .base (.str _)⟩
instance : TyN K rI "int" := ⟨fun h => by rw [h]; exact .base (.int _)⟩
instance : TyN K rB "bool" := ⟨fun h => by rw [h]; exact .base (.bl _)⟩
instance : TyN K (rL r) "list" := ⟨fun ⟨p, vs, ev, hp, _⟩ => by rw [ev]; exact .base (.lst hp)⟩
theorem ty_tup {p : Addr} {vs : List V} (h : SqT K H p vs) : TyX K H (.ref p) (.type "tuple") := by
  rcases h with (h | ⟨o, h⟩) | ⟨o, its, n, h1, h2, _⟩
  · exact .base (.tup h)
  · exact .fTuple h
  · exact .kTuple h1 h2
instance : TyN K (rT K r) "tuple" := ⟨fun ⟨p, vs, ev, hp, _⟩ => by rw [ev]; exact ty_tup hp⟩
instance : TyN K (rP K r q) "tuple" := ⟨fun ⟨p, x, y, ev, hp, _⟩ => by rw [ev]; exact ty_tup hp⟩
theorem ev_isi {T T' : String} {f : Bool} [N : TyN K R T] [M : Mono R] (h : Ev R te G z) (hb : kitB T T' = some f) : Ev rB (tCB (rIsi K) (tCons te (tCons (tC (.ty T')) tNil))) G f := fun H0 σ H E Q k =>
  h H0 σ H E _ fun v H1 e1 hv => ⟨v, .ty T', .type T, .type T', f, rfl, .ty T', N.ty hv, kit_ty hb, k _ H1 e1 rfl⟩
end
end Gt
/-! Gt6: the hand layer's rules with the written part by its own letter. -/
namespace Gt
open PySem PySem.Spec PyProof.Rows L2
section
variable {X : Cx} (K : PySem.W.Frag) {e o l : Expr} {es : List Expr} {te ta tl to : TE} {t : TA} {pos apos cpos : Pos} {tg : Expr}
theorem k_ix (h : X.K = K := by rfl) : IxR X (rIx K) := by subst h; exact ix_seq
theorem k_slL (h : X.K = K := by rfl) : SlR X (rSlL K) := by subst h; exact sl_list
theorem k_len (h : X.K = K := by rfl) : CallR X (.builtin "len") (rLenU K) := by subst h; exact call_len
theorem k_list (h : X.K = K := by rfl) : CallR X (.type "list") (rListU K) := by subst h; exact call_list_of
theorem k_tuple (h : X.K = K := by rfl) : CallR X (.type "tuple") (rTupU K) := by subst h; exact call_tuple_of
theorem k_in (h : X.K = K := by rfl) : OpR X (compareOp .In) (rIn K false) := by subst h; exact op_in_seq
theorem k_nin (h : X.K = K := by rfl) : OpR X (compareOp .NotIn) (rIn K true) := by subst h; exact op_notIn_seq
theorem k_all (hc : X.calm = true) (h : X.K = K := by rfl) : CallR X (.builtin "all") (rAll K) := by subst h; exact cr_all hc
theorem k_any (hc : X.calm = true) (h : X.K = K := by rfl) : CallR X (.builtin "any") (rAny K) := by subst h; exact cr_any hc
theorem k_sum (hc : X.calm = true) (h : X.K = K := by rfl) : CallR X (.builtin "sum") (rSum K) := by subst h; exact cr_sum hc
theorem k_isi (h : X.K = K := by rfl) : CallR X (.builtin "isinstance") (rIsi K) := by subst h; exact call_isi
theorem k_eqD (hu : X.A.units + 64 < cLine) (h : X.K = K := by rfl) : OpR X (compareOp .Eq) (rEqD K) := by subst h; exact op_eqD hu
theorem k_neD (hu : X.A.units + 64 < cLine) (h : X.K = K := by rfl) : OpR X (compareOp .NotEq) (rNeD K) := by subst h; exact op_neD hu
theorem k_inD (hu : X.A.units + 65 < cLine) (h : X.K = K := by rfl) : OpR X (compareOp .In) (rInD K) := by subst h; exact op_inD hu
theorem k_ninD (hu : X.A.units + 65 < cLine) (h : X.K = K := by rfl) : OpR X (compareOp .NotIn) (rNotInD K) := by subst h; exact op_notInD hu
theorem pi_listK (hl : PE X l tl) (h : X.K = K := by rfl) : PI X tg l (iList K tl) := by subst h; exact pi_list hl
theorem pi_tupK (hl : PE X l tl) (h : X.K = K := by rfl) : PI X tg l (iTup K tl) := by subst h; exact pi_tup hl
theorem pg_tupK {k n : Nat} {t : TGs} (hc : X.calm = true) (ht : PGs X es t) (h : X.K = K := by rfl) (hn : (assignEach es X.env).length = n := by rfl) (hst : (assignEach es X.env).findIdx? (·.1) = none := by rfl) : PG X (.Tuple es k pos) (gTup K n t) := by subst h; exact pg_tup hc ht hn hst
theorem pt_tru (ha : PE X e te) (h : X.K = K := by rfl) (he : ∀ whole, isTrue e X.env whole = (do let v ← whole; standAt e.pos; holding [v] (truthy v)) := by intro _; rfl) : PT X e (tTru K te) := by subst h; exact pt_truth ha he
theorem pe_joinK (ho : PE X o to) (he : PE X e te) (h : X.K = K := by rfl) (hs : starEach [e] X.env = [(false, eval e X.env)] := by rfl) (hbase : attributeBase o "join" X.env (eval o X.env) = eval o X.env := by rfl) (hline : (apos.endLine == pos.line) = true := by rfl) :
    PE X (.Call (.Attribute o "join" apos) [e] [] pos) (tM1 (fun x xs H Q => ∃ a p, ∃ ys : List Str, x = .str a ∧ xs = [.ref p] ∧ (SqL K H p (ys.map V.str) ∨ SqT K H p (ys.map V.str)) ∧
      (ys.map (·.length)).sum + ys.length * a.length ≤ 16777216 ∧ Q (.str (Txt.join a ys)) H) to te) := by subst h; exact pe_join ho he hs hbase hline
theorem pe_app (ho : PE X o to) (ha : PA X (e :: es) t) (h : X.K = K := by rfl) (hbase : attributeBase o "append" X.env (eval o X.env) = eval o X.env := by rfl)
    (hfew : ((backTo cpos (starEach (e :: es) X.env)).all (fun x => !x.1) && (backToKw cpos (keywordEach [] X.env)).all (fun x => x.1.isSome)
      && decide ((e :: es).length + ([] : List Keyword).length + (if ([] : List Keyword).isEmpty then 0 else 1) < 30)) = true := by rfl)
    (hline : (apos.endLine == cpos.line) = true := by rfl) (hs : starEach (e :: es) X.env = (false, eval e X.env) :: starEach es X.env := by rfl) (hplain : (backTo cpos (starEach es X.env)).any (·.1) = false := by rfl) :
    PE X (.Call (.Attribute o "append" apos) (e :: es) [] cpos) (tBM K "list" rAppend to t) := by subst h; exact pe_bm PySem.F.plainAttrs_list PySem.F.slot_list_append PySem.F.type_list_append mt_append ho ha hbase hfew hline hs hplain
theorem pe_popK (ho : PE X o to) (h : X.K = K := by rfl) (hbase : attributeBase o "pop" X.env (eval o X.env) = eval o X.env := by rfl) (hline : (apos.endLine == cpos.line) = true := by rfl) : PE X (.Call (.Attribute o "pop" apos) [] [] cpos) (tBM0 K "list" rPop to) := by
  subst h; exact pe_bm0 PySem.F.plainAttrs_list PySem.F.slot_list_pop PySem.F.type_list_pop mt_pop ho hbase hline
theorem pe_fldK {f : Str} (he : PE X e ta) (h : X.K = K := by rfl) (hb : attributeBase e f X.env (eval e X.env) = eval e X.env := by rfl) : PE X (.Attribute e f pos) (tFld K ta f) := by subst h; exact pe_fld he hb
end
/-! ### append, pop on a cell -/
section
variable {K : PySem.W.Frag} {H0 : Hp} {G : Cells K} {α : Type} {r : Rp α} {te : TE} {u : TS} {D : Ends} {i : Nat} {xs : List α} {x : α}
theorem l_app {x' : α} (hi : G[i]? = some (some (.ow (nl K r) xs))) (h : Ev r te G x') (ex : x' = x) (hz : xs.length < 100000) (k : Nx H0 (G.set i (some (.ow (nl K r) (xs ++ [x])))) D.nx) (F : Frz K r := by infer_instance) :
    Sv H0 G (tDrop (tBM K "list" rAppend (tVar i) (tCons te tNil))) D := fun σ H ⟨H1, e1, E⟩ => by
  subst ex
  obtain ⟨own, h1, h2, h3⟩ := id E.at_
  obtain ⟨v, hv, p, vs, ea, ev, hp, z⟩ := h3 i _ hi
  subst ev
  refine ⟨_, hv, .inl ⟨rfl, vs, SqL.of hp⟩, h H1 σ H E _ fun w H2 e2 hw => ?_⟩
  have z2 : A2 (Stb K r H2) vs xs := z.imp fun _ _ q => q.up (ext_same e2)
  exact ⟨p, vs, w, rfl, rfl, e2 _ _ hp, Nat.lt_of_le_of_lt (by rw [z.len]; omega) (by decide : 100000 < sizeLine), k _ _ ⟨H1, e1, app_env (E.grow e2) hi hv (e2 _ _ hp) z2 (stb hw)⟩⟩
theorem q_app {x' : α} (hi : G[i]? = some (some (.ow (nl K r) xs))) (h : Ev r te G x') (ex : x' = x) (hz : xs.length < 100000) (k : Sv H0 (G.set i (some (.ow (nl K r) (xs ++ [x])))) u D) (F : Frz K r := by infer_instance) :
    Sv H0 G (tSeq (tDrop (tBM K "list" rAppend (tVar i) (tCons te tNil))) u) D := l_app hi h ex hz k F
end
end Gt
/-! Gt7: the same for apply: what evaluates first, its instances behind it. -/
namespace Gt
open PySem PySem.Spec PyProof.Rows L2
section
variable {K : PySem.W.Frag} {H0 H1 H H' : Hp} {σ : L2.St} {G G' Gx : Cells K} {α β γ S : Type}
variable {ta tb tc te : TE} {tt tu tv : TT} {r : Rp α} {q : Rp β} {R : Rp γ} {a x : α} {b y : β} {i j n m : Int} {s t : Str} {c d : Bool} {z w : γ}
theorem a_fz {i : Nat} (h : G[i]? = some (some (.ow (fz K r) a))) : Ev r (tVar i) G a := ev_fz h
theorem a_lst {i : Nat} {xs : List α} (h : G[i]? = some (some (.ow (nl K r) xs))) : Ev (rL r) (tVar i) G xs := ev_lst h
theorem a_ro {i : Nat} {M : Mono r} (h : G[i]? = some (some (.ro r M a))) : Ev r (tVar i) G a := ev_ro h
/-- what is left once the first operand is known -/
def EqC (r : Rp α) (a x : α) (f : Bool) : Prop := ∀ (K : PySem.W.Frag) (G : Cells K) ta tb, Ev r ta G a → Ev r tb G x → Ev rB (tOp rEq ta tb) G f ∧ Ev rB (tOp rNe ta tb) G (!f)
theorem eqc_I : EqC rI i j (decide (i = j)) := fun K G ta tb h h' => ⟨ev_eqI h h', ev_neI h h'⟩
theorem eqc_S : EqC rS s t (decide (s = t)) := fun K G ta tb h h' => ⟨ev_eqS h h', ev_neS h h'⟩
theorem eqc_B : EqC rB c d (decide (c = d)) := fun K G ta tb h h' => ⟨ev_eqB h h', ev_neB h h'⟩
theorem eqc_O {s t : Option Str} : EqC (rO rS) s t (decide (s = t)) := fun K G ta tb h h' => ⟨ev_eq h h', ev_ne h h'⟩
theorem a_eq {f : Bool} (h : Ev r ta G a) (h' : Ev r tb G x) (e : EqC r a x f) : Ev rB (tOp rEq ta tb) G f := (e K G ta tb h h').1
theorem a_ne {f : Bool} (h : Ev r ta G a) (h' : Ev r tb G x) (e : EqC r a x f) : Ev rB (tOp rNe ta tb) G (!f) := (e K G ta tb h h').2
theorem a_in {R : Rp (List Str)} {xs : List Str} (h : Ev rS ta G s) (h' : Ev R tb G xs) (I : InS K R) (M : Mono R) : Ev rB (tOp (rIn K false) ta tb) G (decide (s ∈ xs)) := ev_in h h'
theorem a_nin {R : Rp (List Str)} {xs : List Str} (h : Ev rS ta G s) (h' : Ev R tb G xs) (I : InS K R) (M : Mono R) : Ev rB (tOp (rIn K true) ta tb) G (!decide (s ∈ xs)) := ev_nin h h'
def IxC (K : PySem.W.Frag) (R : Rp γ) (z : γ) (tb : TE) (G : Cells K) (r : Rp α) (x : α) : Prop := ∀ ta, Ev R ta G z → Ev r (tOp (rIx K) ta tb) G x
theorem a_ix (h : Ev R ta G z) (k : IxC K R z tb G r x) : Ev r (tOp (rIx K) ta tb) G x := k ta h
theorem ixc_L {xs : List α} [M : Mono r] (hi : Ev rI tb G i) (hx : atI xs i = some x) : IxC K (rL r) xs tb G r x := fun ta h => ev_ix h hi trivial hx
theorem ixc_Q {xs : List α} [M : Mono r] (hi : Ev rI tb G i) (hx : atI xs i = some x) : IxC K (rQ K r) xs tb G r x := fun ta h => ev_ix h hi trivial hx
theorem ixc_T {xs : List α} [M : Mono r] (hi : Ev rI tb G i) (hx : atI xs i = some x) : IxC K (rT K r) xs tb G r x := fun ta h => ev_ix h hi trivial hx
theorem ixc_S {t : Str} (hi : Ev rI tb G i) (hz : s.length ≤ 100000) (hx : atI (chs s) i = some t) : IxC K rS s tb G rS t := fun ta h => ev_ix h hi hz hx
theorem ixc_0 {p : α × β} [M : Mono r] [N : Mono q] : IxC K (rP K r q) p (tC (.int 0)) G r p.1 := fun ta h => ev_fst h
theorem ixc_1 {p : α × β} [M : Mono r] [N : Mono q] : IxC K (rP K r q) p (tC (.int 1)) G q p.2 := fun ta h => ev_snd h
def LnC (K : PySem.W.Frag) (R : Rp γ) (z : γ) (n : Nat) : Prop := ∀ (G : Cells K) te, Ev R te G z → Ev rI (tCB (rLenU K) (tCons te tNil)) G (n : Int)
theorem a_len {n : Nat} (h : Ev R te G z) (k : LnC K R z n) : Ev rI (tCB (rLenU K) (tCons te tNil)) G (n : Int) := k G te h
theorem lnc_L {xs : List α} [M : Mono r] : LnC K (rL r) xs xs.length := fun G te h => ev_len h trivial
theorem lnc_Q {xs : List α} [M : Mono r] : LnC K (rQ K r) xs xs.length := fun G te h => ev_len h trivial
theorem lnc_T {xs : List α} [M : Mono r] : LnC K (rT K r) xs xs.length := fun G te h => ev_len h trivial
theorem lnc_P {p : α × β} [M : Mono r] [N : Mono q] : LnC K (rP K r q) p 2 := fun G te h => ev_len h trivial
theorem lnc_S (hz : s.length ≤ 100000) : LnC K rS s s.length := fun G te h => ev_len h hz
def IntC (R : Rp γ) (z : γ) (n : Int) : Prop := ∀ (K : PySem.W.Frag) (G : Cells K) te, Ev R te G z → Ev rI (tCB rIntU (tCons te tNil)) G n
theorem a_int (h : Ev R te G z) (k : IntC R z n) : Ev rI (tCB rIntU (tCons te tNil)) G n := k K G te h
theorem intc_I : IntC rI i i := fun K G te h => ev_intI h
theorem intc_B : IntC rB c (b2 c) := fun K G te h => ev_intB h
def TrC (K : PySem.W.Frag) (R : Rp γ) (z : γ) (f : Bool) : Prop := ∀ (G : Cells K) te, Ev R te G z → EvT (tTru K te) G f
theorem a_tru {f : Bool} (h : Ev R ta G z) (k : TrC K R z f) : EvT (tTru K ta) G f := k G ta h
theorem trc_L {xs : List α} : TrC K (rL r) xs (!xs.isEmpty) := fun G te h => et_tru h trivial
theorem trc_T {xs : List α} : TrC K (rT K r) xs (!xs.isEmpty) := fun G te h => et_tru h trivial
theorem trc_I : TrC K rI i (i != 0) := fun G te h => et_tru h trivial
theorem trc_S (hz : s.length ≤ 100000) : TrC K rS s ((s.length : Int) != 0) := fun G te h => et_tru h hz
theorem a_tupC {R : Rp (List α)} {xs : List α} (h : Ev R te G xs) (N : Mono R) (I : Seq K r R) (M : Mono r) : Ev (rT K r) (tCB (rTupU K) (tCons te tNil)) G xs := ev_tupC h
theorem a_list {R : Rp (List α)} {xs : List α} (h : Ev R te G xs) (N : Mono R) (I : Seq K r R) (M : Mono r) (F : Frz K r) : Nw (nl K r) (tCB (rListU K) (tCons te tNil)) G xs := nw_list h
theorem a_isi {T T' : String} {f : Bool} (h : Ev R te G z) (M : Mono R) (N : TyN K R T) (hb : kitB T T' = some f) : Ev rB (tCB (rIsi K) (tCons te (tCons (tC (.ty T')) tNil))) G f := ev_isi h hb
theorem a_cons {A : Ra γ} {g : γ} {tr : TA} (h : Ev r te G a) (M : Mono r) (hr : EvA A tr G g) : EvA (aC r A) (tCons te tr) G (a, g) := ea_cons h hr
theorem a_el {tr : TA} {xs : List α} (h : Ev r te G x) (M : Mono r) (hr : EvA (aAll r) tr G xs) : EvA (aAll r) (tCons te tr) G (x :: xs) := el_cons h hr
theorem a_tup {ta : TA} {xs : List α} (h : EvA (aAll r) ta G xs) (M : Mono r) (hz : xs.length ≤ 100000) : Ev (rT K r) (tTup ta) G xs := ev_tup h hz
theorem a_lstD {ta : TA} {xs : List α} (h : EvA (aAll r) ta G xs) (M : Mono r) (F : Frz K r) (hz : xs.length ≤ 100000) : Nw (nl K r) (tLst ta) G xs := nw_lst h hz
theorem a_pair (h : Ev r ta G a) (M : Mono r) (h' : Ev q tb G b) (N : Mono q) : Ev (rP K r q) (tTup (tCons ta (tCons tb tNil))) G (a, b) := ev_pair h h'
theorem a_slL {xs : List α} {lo hi : Option Int} {tl th : TO} (h : Ev (rL r) ta G xs) (M : Mono r) (F : Frz K r) (hl : EvO tl G lo) (hh : EvO th G hi) : Nw (nl K r) (tSl (rSlL K) ta tl th) G (cut xs lo hi) := nw_slL h hl hh
theorem a_cat {xs ys : List α} (h : Ev (rL r) ta G xs) (M : Mono r) (F : Frz K r) (h' : Ev (rL r) tb G ys) (hz : xs.length + ys.length ≤ 100000) : Nw (nl K r) (tOp rCat ta tb) G (xs ++ ys) := nw_cat h h' hz
theorem a_isN {o : Option α} (ha : Ev (rO r) ta G o) (N : NotNon r) (M : Mono r) : Ev rB (tOp (fun x y H Q => y = .non ∧ Q (.bl (decide (x = .non))) H) ta (tC .non)) G (isNone' o) := ev_isN ha
theorem a_notN {o : Option α} (ha : Ev (rO r) ta G o) (N : NotNon r) (M : Mono r) : Ev rB (tOp (fun x y H Q => y = .non ∧ Q (.bl (!decide (x = .non))) H) ta (tC .non)) G (!isNone' o) := ev_notN ha
def PreOk (pre : γ → Prop) (g : γ) : Prop := pre g
def AppEq (f : γ → β) (g : γ) (b : β) : Prop := f g = b
theorem a_call {A : Ra γ} {g : γ} {pre : γ → Prop} {f : γ → β} {E' : XK} {t : TA} (h : EvA A t G g) (hp : PreOk pre g) (e : AppEq f g b) : Ev q (tCall (spF A pre q f) [] E' t) G b := ev_call h hp e
theorem a_ncall {A : Ra γ} {g : γ} {pre : γ → Prop} {R : Rs K β} {f : γ → β} {E' : XK} {t : TA} (h : EvA A t G g) (hp : PreOk pre g) (e : AppEq f g b) : Nw R (tCall (spN A pre R f) [] E' t) G b := nw_call h hp e
/-- a new list where one is read -/
theorem a_nl {xs : List α} (h : Nw (nl K r) te G xs) : Ev (rL r) te G xs := h.lst
end
end Gt
/-! M_text: texts parted at a dot. -/
namespace Gt
open PySem PySem.Spec PyProof.Rows L2
theorem dotL : TL.tl (Str.ofString ".") = [46] := by decide +kernel
theorem dotK : (Str.ofString ".").cps.all (· < 256) = true := by decide +kernel
theorem tl_inj {x y : Str} (h : TL.tl x = TL.tl y) : x = y := TL.ext_tl h
def mkS (l : List Nat) : Str := ⟨l.toArray⟩
theorem tl_mkS (l : List Nat) : TL.tl (mkS l) = l := rfl
theorem mkS_tl (s : Str) : mkS (TL.tl s) = s := tl_inj rfl
theorem mkS_len (l : List Nat) : (mkS l).length = l.length := by rw [TL.len_tl]; rfl
theorem split_tl (s : Str) : (Txt.split s ".").map TL.tl = TL.spl [46] 0 [] (TL.tl s) := by
  rw [← dotL]
  exact TL.split_spl s "." (by rw [dotL]; exact fun h => nomatch h) (TL.kind_ok dotK)
theorem split_none {s : Str} (h : 46 ∉ TL.tl s) : Txt.split s "." = [s] := by
  apply TL.map_tl_inj
  rw [split_tl, TL.spl_last1 h]
  rfl
theorem split_one {s : Str} {p r : List Nat} (e : TL.tl s = p ++ 46 :: r) (hp : 46 ∉ p) : Txt.split s "." = mkS p :: Txt.split (mkS r) "." := by
  apply TL.map_tl_inj
  have h1 : TL.spl [46] 0 [] (p ++ ([46] ++ r)) = ([] ++ p) :: TL.spl [46] 0 [] r := TL.spl_part1 (s := 46) (S := []) hp
  rw [split_tl, e, show p ++ 46 :: r = p ++ ([46] ++ r) from rfl, h1, List.map_cons, split_tl, tl_mkS, tl_mkS]
  rfl
theorem split_pos (s : Str) : 1 ≤ (Txt.split s ".").length := by
  by_cases h : 46 ∈ TL.tl s
  · obtain ⟨p, r, e, hp⟩ := List.eq_append_cons_of_mem h
    rw [split_one e hp, List.length_cons]
    omega
  · rw [split_none h]
    exact Nat.le_refl _
/-- one part, two parts, or more -/
theorem split_cases (s : Str) : (46 ∉ TL.tl s ∧ Txt.split s "." = [s]) ∨ (∃ p r, TL.tl s = p ++ 46 :: r ∧ 46 ∉ p ∧ 46 ∉ r ∧ Txt.split s "." = [mkS p, mkS r]) ∨ 3 ≤ (Txt.split s ".").length := by
  by_cases h : 46 ∈ TL.tl s
  · obtain ⟨p, r, e, hp⟩ := List.eq_append_cons_of_mem h
    by_cases h2 : 46 ∈ r
    · obtain ⟨p2, r2, e2, hp2⟩ := List.eq_append_cons_of_mem h2
      refine .inr (.inr ?_)
      rw [split_one e hp, split_one (s := mkS r) (p := p2) (r := r2) (by rw [tl_mkS]; exact e2) hp2, List.length_cons, List.length_cons]
      have := split_pos (mkS r2)
      omega
    · refine .inr (.inl ⟨p, r, e, hp, h2, ?_⟩)
      rw [split_one e hp, split_none (s := mkS r) (by rw [tl_mkS]; exact h2)]
  · exact .inl ⟨h, split_none h⟩
theorem part_none {s : Str} (h : 46 ∉ TL.tl s) : Txt.partition s "." = (s, Str.empty, Str.empty) := TL.partition_none dotL h
theorem glue3 {s : Str} {p r : List Nat} (e : TL.tl s = p ++ 46 :: r) : s = mkS p ++ Str.ofString "." ++ mkS r := by
  apply tl_inj
  rw [TL.tl_append, TL.tl_append, dotL, tl_mkS, tl_mkS, e, List.append_assoc]
  rfl
theorem part_some {s : Str} {p r : List Nat} (e : TL.tl s = p ++ 46 :: r) (hp : 46 ∉ p) : Txt.partition s "." = (mkS p, Str.ofString ".", mkS r) := by
  have h := TL.partition_app (y := Str.ofString ".") (s := 46) (S := []) dotL (a := mkS p) (b := mkS r) (by rw [tl_mkS]; exact hp)
  rw [← glue3 e] at h
  exact h
theorem at_dot {s : Str} {i : Nat} : StrLaws.At s (Str.ofString ".") s.length i ↔ (TL.tl s)[i]? = some 46 := by
  rw [TL.at_iff (by rw [dotL]; exact fun h => nomatch h), dotL]
  unfold TL.pre
  rw [show ([46] : List Nat).length = 1 from rfl]
  constructor
  · intro h
    have h := eq_of_beq h
    cases e : (TL.tl s).drop i with
    | nil => rw [e] at h; cases h
    | cons c r =>
      rw [e] at h
      have h2 : c = 46 := by injection h
      have := List.getElem?_drop (xs := TL.tl s) (i := i) (j := 0)
      rw [e, Nat.add_zero] at this
      rw [← this, h2]
      rfl
  · intro h
    have h2 := List.drop_eq_getElem_cons (List.getElem?_eq_some_iff.mp h).1
    rw [h2, (List.getElem?_eq_some_iff.mp h).2]
    rfl
theorem rpart_none {s : Str} (h : 46 ∉ TL.tl s) : (Txt.rpartition s ".").2.2 = s := by
  unfold Txt.rpartition
  rcases StrLaws.last_spec s (Str.ofString ".") with ⟨e, _⟩ | ⟨i, e, ha, _⟩
  · rw [e]
  · exact absurd (List.mem_of_getElem? (at_dot.mp ha)) h
theorem rpart_some {s : Str} {p r : List Nat} (e : TL.tl s = p ++ 46 :: r) (hr : 46 ∉ r) : (Txt.rpartition s ".").2.2 = mkS r := by
  unfold Txt.rpartition
  have hp : (TL.tl s)[p.length]? = some 46 := by rw [e, List.getElem?_append_right (Nat.le_refl _), Nat.sub_self]; rfl
  rcases StrLaws.last_spec s (Str.ofString ".") with ⟨_, n⟩ | ⟨i, ei, ha, hn⟩
  · exact absurd (at_dot.mpr hp) (n _)
  · have hi := at_dot.mp ha
    have h1 : i = p.length := by
      rcases Nat.lt_trichotomy i p.length with q | q | q
      · exact absurd (at_dot.mpr hp) (hn _ q)
      · exact q
      · rw [e, List.getElem?_append_right (by omega)] at hi
        obtain ⟨k, hk⟩ : ∃ k, i - p.length = k + 1 := ⟨i - p.length - 1, by omega⟩
        rw [hk, List.getElem?_cons_succ] at hi
        exact absurd (List.mem_of_getElem? hi) hr
    rw [ei]
    apply tl_inj
    show TL.tl (Builtin.Str.strSub s (i + (Str.ofString ".").length) s.length) = _
    rw [TL.tl_strSub_end, tl_mkS, e, h1, show (Str.ofString ".").length = 1 from rfl, List.drop_append]
    simp
end Gt
namespace Gt
open PySem PySem.Spec PyProof.Rows L2
def topS (i : Nat) : Stmt := PySem.Challenge.pw_guesttongues_k02_signs.main.body.getD i (.Pass ⟨0, 0, 0, 0⟩)
local macro_rules | `(tactic| walk_at "ev") => `(tactic| repeat' (first
  | ((with_reducible show Ev _ (tVar _) _ _); first | exact a_fz (by rfl) | exact a_lst (by rfl) | exact a_ro (by rfl))
  | ((with_reducible show Ev _ (tC _) _ _); first | with_reducible exact ev_int | with_reducible exact ev_str | with_reducible exact ev_bl | with_reducible exact ev_non)
  | ((with_reducible show Ev _ (tOp _ _ _) _ _); with_reducible first
    | apply ev_add | apply ev_sub | apply ev_mul | apply ev_div | apply ev_mod | apply ev_pow | apply ev_lt | apply ev_le | apply ev_gt | apply ev_ge
    | apply a_eq | apply a_ne | apply a_in | apply a_nin | apply ev_inSign | apply ev_ninSign | apply a_ix | apply ev_addS | apply a_isN | apply a_notN | apply a_nl)
  | ((with_reducible show Ev _ (tCB _ _) _ _); with_reducible first | apply a_len | apply a_int | apply ev_all | apply ev_any | apply ev_sum | apply a_tupC | apply a_isi | apply a_nl)
  | ((with_reducible show Ev _ _ _ _); with_reducible first
    | apply ev_chain_le | apply ev_chain_lelt | apply ev_neg | apply ev_and | apply ev_or | apply ev_not | apply ev_if
    | apply a_call | apply ev_upper | apply ev_partition | apply ev_rpartition | apply ev_join | apply ev_slS | apply a_tup | apply a_nl)
  | ((with_reducible show EvT _ _ _); with_reducible first | apply et_test | apply et_B | apply et_not | apply et_and | apply et_or | apply a_tru | exact et_yes)
  | ((with_reducible show EvA _ _ _ _); with_reducible first | exact ea_nil | exact el_nil | apply a_cons | apply a_el)
  | ((with_reducible show EvO _ _ _); with_reducible first | exact eo_none | apply eo_some)
  | ((with_reducible show Nw _ _ _ _); with_reducible first | apply a_ncall | apply a_lstD | apply a_list | apply a_slL | apply a_cat | apply nw_split)
  | ((with_reducible show AppEq _ _ _); unfold AppEq; first | (dsimp only; exact rfl) | dsimp only | exact rfl)
  | ((with_reducible show PreOk _ _); unfold PreOk; dsimp only; first | done | exact trivial | omega | assumption | (constructor <;> first | omega | assumption))
  | ((with_reducible show IxC _ _ _ _ _ _ _); with_reducible first | exact ixc_0 | exact ixc_1 | apply ixc_L | apply ixc_Q | apply ixc_T | apply ixc_S)
  | ((with_reducible show LnC _ _ _ _); with_reducible first | exact lnc_L | exact lnc_T | exact lnc_Q | exact lnc_P | apply lnc_S)
  | ((with_reducible show IntC _ _ _); with_reducible first | exact intc_I | exact intc_B)
  | ((with_reducible show TrC _ _ _ _); with_reducible first | exact trc_L | exact trc_T | exact trc_I | apply trc_S)
  | ((with_reducible show EqC _ _ _ _); with_reducible first | exact eqc_I | exact eqc_S | exact eqc_B | exact eqc_O)
  | ((with_reducible show (_ = true → _)); intro _) | ((with_reducible show (_ = false → _)); intro _)
  | ((with_reducible show CMul _ _); first | exact .inr (by decide) | exact .inl (by decide) | exact .inr (by assumption) | exact .inl (by assumption) | exact .inr (b2_small _))
  | ((with_reducible show CDiv _ _); exact ⟨by decide, by decide⟩) | ((with_reducible show CPow _ _); exact ⟨by decide, by decide, by decide⟩)
  | ((with_reducible show (0 : Int) < _); first | decide | omega) | ((with_reducible show _ ≤ 100000); first | omega | assumption | decide +kernel) | ((with_reducible show _ ≤ 1000); omega)
  | ((with_reducible show atI _ _ = some _); assumption) | ((with_reducible show atI (_ :: _) _ = some _); exact rfl)
  | ((with_reducible show ((Str.length _ == 0) = false)); exact rfl)
  | infer_instance | with_reducible exact rfl | exact dot_eq | with_reducible exact trivial))
/-! ### owner -/
abbrev s_owner : Stmt := topS 2
abbrev n_owner : List Str := ["sign"]
abbrev p_owner : List Str := ["sign"]
theorem sc_owner : FnScope n_owner p_owner (defScope s_owner) := ⟨rfl, rfl, rfl, by decide +kernel, rfl, by decide +kernel, by decide +kernel⟩
def ownerOf (s : Str) : Str := bif decide (46 ∈ s.cps.toList) then (Txt.partition s ".").1 else ""
abbrev sp_owner (K : PySem.W.Frag) : Sp := spF (aC rS aN) (fun a => a.1.length ≤ 10000) rS fun a => ownerOf a.1
theorem c_owner {P : Program} {w : World} {K : PySem.W.Frag} {mg : Str → Option Value} {base : Heap} (F : Df K mg "owner" s_owner) : Cal P w K mg base CX0 "owner" 1 p_owner (sp_owner K) := by
  refine cal_of F sc_owner (fun vs H Q E ⟨a, h, _⟩ => LenA.len h) (fun _ _ _ _ _ _ us hl => match us, hl with | [_], _ => rfl) fun cdv f A outer s H vs Q E hr h => ?_
  have sc := sc_owner
  refine ⟨_, (pss_cons (ps_if (pt_cmpR op_in_sign pe_str (pv 0) rfl)
      (pss_one (ps_ret (pe_ix (k_ix K) (pe_partition (pv 0) pe_str) pe_int (fun _ _ => rfl)))) pss_nil)
      (pss_one (ps_ret pe_str))), ?_⟩
  obtain ⟨⟨s, _⟩, ⟨v, _, rfl, hv, rfl⟩, hp, k⟩ := h
  have hp : s.length ≤ 10000 := hp
  refine Sv.run (K := K) (G := [fc rS s]) ?_ (.fz hv .nil)
  apply q_if
  · walk_at "ev"
  · intro hc
    refine l_ret k (by walk_at "ev") ?_
    show _ = ownerOf s
    unfold ownerOf; rw [hc]; rfl
  · intro hc
    refine q_next (l_ret k (by walk_at "ev") ?_)
    show _ = ownerOf s
    unfold ownerOf; rw [hc]; rfl
/-! ### is_token -/
abbrev s_is_token : Stmt := topS 3
abbrev n_is_token : List Str := ["sign"]
abbrev p_is_token : List Str := ["sign"]
theorem sc_is_token : FnScope n_is_token p_is_token (defScope s_is_token) := ⟨rfl, rfl, rfl, by decide +kernel, rfl, by decide +kernel, by decide +kernel⟩
def lastPart (s : Str) : Str := (Txt.rpartition s ".").2.2
def small : Str := "abcdefghijklmnopqrstuvwxyz"
def isTokenC (s : Str) : Bool := match (lastPart s).cps.toList with
  | c :: _ => decide (c ∈ small.cps.toList)
  | [] => false
abbrev sp_is_token (K : PySem.W.Frag) : Sp := spF (aC rS aN) (fun a => a.1.length ≤ 10000 ∧ (lastPart a.1).cps.toList ≠ [] ∧ (lastPart a.1).length ≤ 10000) rB fun a => isTokenC a.1
theorem c_is_token {P : Program} {w : World} {K : PySem.W.Frag} {mg : Str → Option Value} {base : Heap} (F : Df K mg "is_token" s_is_token) (M_SMALL : ∃ t, mg "SMALL" = some (.str "abcdefghijklmnopqrstuvwxyz" t)) : Cal P w K mg base CX0 "is_token" 1 p_is_token (sp_is_token K) := by
  obtain ⟨t_SMALL, M_SMALL⟩ := M_SMALL
  refine cal_of F sc_is_token (fun vs H Q E ⟨a, h, _⟩ => LenA.len h) (fun _ _ _ _ _ _ us hl => match us, hl with | [_], _ => rfl) fun cdv f A outer s H vs Q E hr h => ?_
  have sc := sc_is_token
  refine ⟨_, (pss_one (ps_ret (pe_cmpR op_in_sign (pe_ix (k_ix K) (pe_ix (k_ix K) (pe_rpartition (pv 0) pe_str) pe_int (fun _ _ => rfl)) pe_int (fun _ _ => rfl)) (pe_glob (v := .str "abcdefghijklmnopqrstuvwxyz") (by rfl) M_SMALL ⟨_, rfl⟩) rfl))), ?_⟩
  obtain ⟨⟨s, _⟩, ⟨v, _, rfl, hv, rfl⟩, hp, k⟩ := h
  obtain ⟨hp, hne, hl⟩ : s.length ≤ 10000 ∧ (lastPart s).cps.toList ≠ [] ∧ (lastPart s).length ≤ 10000 := hp
  refine Sv.run (K := K) (G := [fc rS s]) ?_ (.fz hv .nil)
  have hl2 : (Txt.rpartition s ".").2.2.length ≤ 100000 := Nat.le_trans hl (by decide)
  cases e : (lastPart s).cps.toList with
  | nil => exact absurd e hne
  | cons c r =>
    have e0 : atI (chs (lastPart s)) 0 = some ⟨#[c]⟩ := by unfold chs; rw [e]; exact atI_zero
    refine l_ret k (by walk_at "ev") ?_
    show _ = isTokenC s
    unfold isTokenC; rw [e]; rfl
/-! ### _law_cell -/
abbrev s__law_cell : Stmt := topS 5
abbrev n__law_cell : List Str := ["_law_script", "_law_k"]
abbrev p__law_cell : List Str := ["_law_script", "_law_k"]
theorem sc__law_cell : FnScope n__law_cell p__law_cell (defScope s__law_cell) := ⟨rfl, rfl, rfl, by decide +kernel, rfl, by decide +kernel, by decide +kernel⟩
def cellAt (ns : List Int) (k : Int) : Int := bif decide (k < (ns.length : Int)) then ns.getD k.toNat 0 else 0
abbrev sp__law_cell (K : PySem.W.Frag) : Sp := spF (aC (rQ K rI) (aC rI aN)) (fun a => 0 ≤ a.2.1) rI fun a => cellAt a.1 a.2.1
theorem c__law_cell {P : Program} {w : World} {K : PySem.W.Frag} {mg : Str → Option Value} {base : Heap} (F : Df K mg "_law_cell" s__law_cell) (B_len : mg "len" = none) (B_int : mg "int" = none) : Cal P w K mg base CX0 "_law_cell" 1 p__law_cell (sp__law_cell K) := by
  refine cal_of F sc__law_cell (fun vs H Q E ⟨a, h, _⟩ => LenA.len h) (fun _ _ _ _ _ _ us hl => match us, hl with | [_, _], _ => rfl) fun cdv f A outer s H vs Q E hr h => ?_
  have sc := sc__law_cell
  refine ⟨_, (pss_one (ps_ret (pe_ifExp (pt_cmpR op_lt (pv 1) (pe_callB (k_len K) (by rfl) B_len PySem.boot_len (pa_cons (pv 0) pa_nil)) (nomark _)) (pe_callTy call_int1 (by rfl) B_int (by decide +kernel) (pa_cons (pe_ix (k_ix K) (pv 0) (pv 1) (fun _ _ => rfl)) pa_nil)) pe_int))), ?_⟩
  obtain ⟨⟨ns, i, _⟩, ⟨v, _, rfl, hv, w', _, rfl, hw, rfl⟩, hp, k⟩ := h
  have hp : 0 ≤ i := hp
  refine Sv.run (K := K) (G := [rc (rQ K rI) ns, fc rI i]) ?_ (.ro hv (.fz hw .nil))
  refine l_ret k (b := cellAt ns i) (ev_if (c := decide (i < (ns.length : Int))) (by walk_at "ev") (fun hc => ?_) (fun hc => by walk_at "ev")) rfl
  have hc := of_decide_eq_true hc
  walk_at "ev"
  refine atI_pos hp ?_
  rw [List.getElem?_eq_getElem (by omega), List.getD_eq_getElem?_getD, List.getElem?_eq_getElem (by omega)]
  rfl
/-! ### _law_draws -/
abbrev s__law_draws : Stmt := topS 6
abbrev n__law_draws : List Str := ["_law_cell_here", "_law_many", "_law_rest", "_law_row", "_law_k", "_law_mixed"]
abbrev p__law_draws : List Str := ["_law_cell_here", "_law_many"]
theorem sc__law_draws : FnScope n__law_draws p__law_draws (defScope s__law_draws) := ⟨rfl, rfl, rfl, by decide +kernel, rfl, by decide +kernel, by decide +kernel⟩
def mixA (c k : Int) : Int := (c * 48271 + k * 6961 + 1013) % 1000003
def mixB (c k : Int) : Int := (mixA c k * mixA c k + 11 * mixA c k + k) % 999983
def mixC (c k : Int) : Int := (mixB c k * mixB c k + 3 * mixB c k) % 99991 % 840
def drawStep (c : Int) (s : Int × List Int) (k : Int) : Int × List Int := bif decide (0 < s.1) then (s.1 / 840, s.2 ++ [s.1 % 840]) else (s.1, s.2 ++ [mixC c k])
def drawStart (c : Int) : Int := c * b2 (decide ((10 : Int) ^ (18 : Int).toNat ≤ c))
def draws (c n : Int) : List Int := ((ups n.toNat).foldl (drawStep c) (drawStart c, [])).2
theorem drawStep_len (c : Int) (s : Int × List Int) (k : Int) : (drawStep c s k).2.length = s.2.length + 1 := by
  unfold drawStep
  cases decide (0 < s.1) <;> simp
theorem draws_fold_len (c : Int) : ∀ (l : List Int) (s : Int × List Int), (l.foldl (drawStep c) s).2.length = s.2.length + l.length
  | [], s => rfl
  | k :: l, s => by rw [List.foldl_cons, draws_fold_len c l, drawStep_len, List.length_cons]; omega
theorem draws_len (c n : Int) : (draws c n).length = n.toNat := by
  unfold draws
  rw [draws_fold_len, ups_len]; simp
theorem drawStep_ok (c : Int) (s : Int × List Int) (k : Int) (h : ∀ d ∈ s.2, 0 ≤ d ∧ d < 840) : ∀ d ∈ (drawStep c s k).2, 0 ≤ d ∧ d < 840 := by
  unfold drawStep
  cases decide (0 < s.1) <;> (simp only [cond_true, cond_false]; intro d hd; rcases List.mem_append.mp hd with q | q)
  · exact h d q
  · cases List.mem_singleton.mp q; exact ⟨Int.emod_nonneg _ (by decide), Int.emod_lt_of_pos _ (by decide)⟩
  · exact h d q
  · cases List.mem_singleton.mp q; exact ⟨Int.emod_nonneg _ (by decide), Int.emod_lt_of_pos _ (by decide)⟩
theorem draws_fold_ok (c : Int) : ∀ (l : List Int) (s : Int × List Int), (∀ d ∈ s.2, 0 ≤ d ∧ d < 840) → ∀ d ∈ (l.foldl (drawStep c) s).2, 0 ≤ d ∧ d < 840
  | [], s, h => h
  | k :: l, s, h => draws_fold_ok c l _ (drawStep_ok c s k h)
theorem draws_ok (c n : Int) : ∀ d ∈ draws c n, 0 ≤ d ∧ d < 840 := draws_fold_ok c _ _ fun _ h => (nomatch h)
abbrev sp__law_draws (K : PySem.W.Frag) : Sp := spN (aC rI (aC rI aN)) (fun a => 0 ≤ a.2.1 ∧ a.2.1 ≤ 1000) (nl K rI) fun a => draws a.1 a.2.1
theorem c__law_draws {P : Program} {w : World} {K : PySem.W.Frag} {mg : Str → Option Value} {base : Heap} (F : Df K mg "_law_draws" s__law_draws) (B_int : mg "int" = none) (B_range : mg "range" = none) : Cal P w K mg base CX0 "_law_draws" 1 p__law_draws (sp__law_draws K) := by
  refine cal_of F sc__law_draws (fun vs H Q E ⟨a, h, _⟩ => LenA.len h) (fun _ _ _ _ _ _ us hl => match us, hl with | [_, _], _ => rfl) fun cdv f A outer s H vs Q E hr h => ?_
  have sc := sc__law_draws
  refine ⟨_, (pss_cons (ps_set (i := 2) sc.nd rfl (Or.inl rfl) (pe_op op_mul (pv 0) (pe_callTy call_int1 (by rfl) B_int (by decide +kernel) (pa_cons (pe_cmpR op_ge (pv 0) (pe_op op_pow pe_int pe_int) (nomark _)) pa_nil))))
      (pss_cons (ps_set (i := 3) sc.nd rfl (Or.inl rfl) (pe_lst pa_nil))
      (pss_cons (ps_for PassesOwn.never rfl (pi_range1 (by rfl) B_range (pa_cons (pv 1) pa_nil)) (pg_name (i := 4) sc.nd rfl (Or.inl rfl))
      (pss_one (ps_if (pt_cmpR op_gt (pv 2) pe_int (nomark _))
      (pss_cons (ps_expr (pe_app K (pv 3) (pa_cons (pe_op op_mod (pe_callTy call_int1 (by rfl) B_int (by decide +kernel) (pa_cons (pv 2) pa_nil)) pe_int) pa_nil)))
      (pss_one (ps_set (i := 2) sc.nd rfl (Or.inl rfl) (pe_op op_fdiv (pv 2) pe_int)))) (pss_cons (ps_set (i := 5) sc.nd rfl (Or.inl rfl) (pe_op op_mod (pe_callTy call_int1 (by rfl) B_int (by decide +kernel) (pa_cons (pe_op op_add (pe_op op_add (pe_op op_mul (pv 0) pe_int) (pe_op op_mul (pv 4) pe_int)) pe_int) pa_nil)) pe_int))
      (pss_cons (ps_set (i := 5) sc.nd rfl (Or.inl rfl) (pe_op op_mod (pe_callTy call_int1 (by rfl) B_int (by decide +kernel) (pa_cons (pe_op op_add (pe_op op_add (pe_op op_mul (pv 5) (pv 5)) (pe_op op_mul pe_int (pv 5))) (pv 4)) pa_nil)) pe_int))
      (pss_one (ps_expr (pe_app K (pv 3) (pa_cons (pe_op op_mod (pe_op op_mod (pe_callTy call_int1 (by rfl) B_int (by decide +kernel) (pa_cons (pe_op op_add (pe_op op_mul (pv 5) (pv 5)) (pe_op op_mul pe_int (pv 5))) pa_nil)) pe_int) pe_int) pa_nil)))))))))
      (pss_one (ps_ret (pv 3)))))), ?_⟩
  obtain ⟨⟨c, n, _⟩, ⟨v, _, rfl, hv, w', _, rfl, hw, rfl⟩, hp, k⟩ := h
  obtain ⟨hp, hp2⟩ : 0 ≤ n ∧ n ≤ 1000 := hp
  refine Sv.run (K := K) (G := [fc rI c, fc rI n, none, none, none, none]) ?_ (.fz hv (.fz hw (.skip (.skip (.skip (.skip .nil))))))
  refine q_set (b' := drawStart c) (by walk_at "ev") (by rfl) ?_
  refine q_asg (b' := ([] : List Int)) (R := nl K rI) (by walk_at "ev") (by rfl) ?_
  refine q_for (S := Int × List Int) (fun s => [fc rI c, fc rI n, fc rI s.1, some (.ow (nl K rI) s.2), none, none]) (drawStep c) (drawStart c, []) (wk_rng1 (n := n) (by walk_at "ev") (by omega)) (.keep (.keep (.keep (.keep (.drop (.drop .nil)))))) ?_ ?_
  · intro H0' e0 pre i post hx
    have hlen : (pre.foldl (drawStep c) (drawStart c, [])).2.length < 100000 := by
      rw [draws_fold_len]
      have := congrArg List.length hx
      rw [ups_len, List.length_append, List.length_cons] at this
      simp; omega
    generalize pre.foldl (drawStep c) (drawStart c, []) = s at hlen ⊢
    refine ⟨_, tg_name, ?_⟩
    apply l_if
    · walk_at "ev"
    · intro hc
      refine q_app (x := s.1 % 840) (xs := s.2) rfl (by walk_at "ev") (by rfl) hlen ?_
      refine l_set (b' := s.1 / 840) (by walk_at "ev") (by rfl) ?_
      have e1 : drawStep c s i = (s.1 / 840, s.2 ++ [s.1 % 840]) := by unfold drawStep; rw [hc]; rfl
      rw [e1]
      exact nx_have (.keep (.keep (.keep (.keep (.drop (.drop .nil))))))
    · intro hc
      refine q_set (b' := mixA c i) (by walk_at "ev") (by rfl) ?_
      have hA : -(2 ^ 64) < mixA c i ∧ mixA c i < 2 ^ 64 := by unfold mixA; omega
      refine q_set (b' := mixB c i) (by walk_at "ev") (by rfl) ?_
      have hB : -(2 ^ 64) < mixB c i ∧ mixB c i < 2 ^ 64 := by unfold mixB; omega
      refine l_app (x := mixC c i) (xs := s.2) rfl (by walk_at "ev") (by rfl) hlen ?_
      have e1 : drawStep c s i = (s.1, s.2 ++ [mixC c i]) := by unfold drawStep; rw [hc]; rfl
      rw [e1]
      exact nx_have (.keep (.keep (.keep (.keep (.drop (.drop .nil))))))
  · exact l_retO k (i := 3) rfl rfl
/-! ### _law_word -/
abbrev s__law_word : Stmt := topS 7
abbrev n__law_word : List Str := ["_law_row", "_law_capital", "_law_letters", "_law_text", "_law_every", "_law_d", "_law_name", "_law_odd"]
abbrev p__law_word : List Str := ["_law_row", "_law_capital"]
theorem sc__law_word : FnScope n__law_word p__law_word (defScope s__law_word) := ⟨rfl, rfl, rfl, by decide +kernel, rfl, by decide +kernel, by decide +kernel⟩
def az : Str := "abcdefghijklmnopqrstuvwxyz"
def AZ : Str := "ABCDEFGHIJKLMNOPQRSTUVWXYZ"
def an62 : Str := "abcdefghijklmnopqrstuvwxyzABCDEFGHIJKLMNOPQRSTUVWXYZ0123456789"
theorem an62_eq : az ++ Txt.upper az ++ "0123456789" = an62 := by decide +kernel
theorem upz_len : (Txt.upper az).length ≤ 26 * 3 := PyProof.Rows.len_upper az
def chAt (s : Str) (i : Int) : Str := (chs s).getD i.toNat ""
theorem chAt_at {s : Str} {i : Int} {n : Nat} (hn : (chs s).length = n) (h0 : 0 ≤ i) (h1 : i < n) : atI (chs s) i = some (chAt s i) := by
  refine atI_pos h0 ?_
  unfold chAt
  rw [List.getElem?_eq_getElem (by omega), List.getD_eq_getElem?_getD, List.getElem?_eq_getElem (by omega)]
  rfl
theorem chAt_len {s : Str} {i : Int} : (chAt s i).length ≤ 1 := by
  unfold chAt
  rw [List.getD_eq_getElem?_getD]
  cases e : (chs s)[i.toNat]? with
  | none => exact Nat.zero_le _
  | some t =>
    unfold chs at e
    rw [List.getElem?_map] at e
    cases e2 : s.cps.toList[i.toNat]? with
    | none => rw [e2] at e; cases e
    | some c => rw [e2] at e; cases e; exact Nat.le_refl _
def odds : List Str := (["", ".", "9a", "a b", "a-b", ".a", "a.", "a.b.c", "A.b", "a1.c", "abcdefghi"] : List Str) ++ (["abcdefghi.a", "a.9", "a..b", "ABCDEFGHI", "a.Bcdefghij", " a", "a ", "x.a b"] : List Str) ++ (["x.A-", "a_b", "A\n", "->", "Ab.C", "x y.a", "7.a"] : List Str)
def glue (s : Str) (m : Int) (t : Str) (ds : List Int) : Str := ds.foldl (fun t d => t ++ chAt s (d % m)) t
theorem str_len_app (s t : Str) : (s ++ t).length = s.length + t.length := by
  show (s.cps ++ t.cps).size = _
  rw [Array.size_append]
  rfl
theorem glue_len (s : Str) (m : Int) : ∀ (ds : List Int) (t : Str), (glue s m t ds).length ≤ t.length + ds.length
  | [], t => Nat.le_refl _
  | d :: ds, t => by
    have h := glue_len s m ds (t ++ chAt s (d % m))
    rw [str_len_app] at h
    have := chAt_len (s := s) (i := d % m)
    show (glue s m (t ++ chAt s (d % m)) ds).length ≤ _
    rw [List.length_cons]
    omega
theorem cut_len {α : Type} (xs : List α) (lo hi : Option Int) : (cut xs lo hi).length ≤ xs.length := by
  unfold cut
  rw [List.length_take, List.length_drop]
  omega
def at0 (row : List Int) (k : Nat) : Int := row.getD k 0
theorem at0_at {row : List Int} {k : Nat} (h : k < row.length) : atI row (k : Int) = some (at0 row k) := by
  refine atI_pos (by omega) ?_
  unfold at0
  rw [show ((k : Int)).toNat = k from rfl, List.getElem?_eq_getElem h, List.getD_eq_getElem?_getD, List.getElem?_eq_getElem h]
  rfl
def word1 (row : List Int) (cap : Bool) : Str := bif cap then Txt.upper (chAt az (at0 row 1 % 26)) else chAt az (at0 row 1 % 26)
def word2 (row : List Int) (cap : Bool) : Str := glue an62 62 (word1 row cap) (cut row (some 2) (some (2 + at0 row 0 % 8)))
def word3 (row : List Int) : Str := glue az 26 "" (cut row (some 9) (some (10 + at0 row 0 / 24 % 8)))
def word4 (row : List Int) (cap : Bool) : Str := bif decide (at0 row 0 / 8 % 3 = 0) then word3 row ++ "." ++ word2 row cap else word2 row cap
def wordOf (row : List Int) (cap : Bool) : Str := bif decide (at0 row 0 / 192 % 4 = 3) then odds.getD (at0 row 1 % 26).toNat "" else word4 row cap
theorem word1_len (row : List Int) (cap : Bool) : (word1 row cap).length ≤ 3 := by
  unfold word1
  have := chAt_len (s := az) (i := at0 row 1 % 26)
  cases cap with
  | true => have h := PyProof.Rows.len_upper (chAt az (at0 row 1 % 26)); simp only [cond_true]; omega
  | false => simp only [cond_false]; omega
theorem word2_len (row : List Int) (cap : Bool) : (word2 row cap).length ≤ 3 + row.length := by
  unfold word2
  have h := glue_len an62 62 (cut row (some 2) (some (2 + at0 row 0 % 8))) (word1 row cap)
  have h2 := cut_len row (some 2) (some (2 + at0 row 0 % 8))
  have h3 := word1_len row cap
  omega
theorem word3_len (row : List Int) : (word3 row).length ≤ row.length := by
  unfold word3
  have h := glue_len az 26 (cut row (some 9) (some (10 + at0 row 0 / 24 % 8))) ""
  have h2 := cut_len row (some 9) (some (10 + at0 row 0 / 24 % 8))
  have : ("" : Str).length = 0 := rfl
  omega
theorem word4_len (row : List Int) (cap : Bool) : (word4 row cap).length ≤ 4 + 2 * row.length := by
  unfold word4
  have h2 := word2_len row cap
  have h3 := word3_len row
  cases decide (at0 row 0 / 8 % 3 = 0) with
  | true => simp only [cond_true, str_len_app]; have : ("." : Str).length = 1 := rfl; omega
  | false => simp only [cond_false]; omega
theorem odds_len : ∀ s ∈ odds, s.length ≤ 12 := by decide +kernel
theorem wordOf_len (row : List Int) (cap : Bool) : (wordOf row cap).length ≤ 12 + 2 * row.length := by
  unfold wordOf
  have h4 := word4_len row cap
  cases decide (at0 row 0 / 192 % 4 = 3) with
  | true =>
    simp only [cond_true]
    rw [List.getD_eq_getElem?_getD]
    cases e : odds[(at0 row 1 % 26).toNat]? with
    | none => exact Nat.zero_le _
    | some s => have := odds_len s (List.mem_of_getElem? e); simp only [Option.getD_some]; omega
  | false => simp only [cond_false]; omega
abbrev sp__law_word (K : PySem.W.Frag) : Sp := spF (aC (rL rI) (aC rB aN)) (fun a => 2 ≤ a.1.length ∧ a.1.length ≤ 1000) rS fun a => wordOf a.1 a.2.1
theorem az_len : (chs az).length = 26 := by decide +kernel
theorem an_len : (chs an62).length = 62 := by decide +kernel
theorem an_len2 : an62.length = 62 := by decide +kernel
theorem c__law_word {P : Program} {w : World} {K : PySem.W.Frag} {mg : Str → Option Value} {base : Heap} (F : Df K mg "_law_word" s__law_word) (B_int : mg "int" = none) (B_len : mg "len" = none) : Cal P w K mg base CX0 "_law_word" 1 p__law_word (sp__law_word K) := by
  refine cal_of F sc__law_word (fun vs H Q E ⟨a, h, _⟩ => LenA.len h) (fun _ _ _ _ _ _ us hl => match us, hl with | [_, _], _ => rfl) fun cdv f A outer s H vs Q E hr h => ?_
  have sc := sc__law_word
  refine ⟨_, (pss_cons (ps_set (i := 2) sc.nd rfl (Or.inl rfl) pe_str)
      (pss_cons (ps_set (i := 3) sc.nd rfl (Or.inl rfl) (pe_ix (k_ix K) (pv 2) (pe_op op_mod (pe_callTy call_int1 (by rfl) B_int (by decide +kernel) (pa_cons (pe_ix (k_ix K) (pv 0) pe_int (fun _ _ => rfl)) pa_nil)) pe_int) (fun _ _ => rfl)))
      (pss_cons (ps_if (pt_val (pv 1))
      (pss_one (ps_set (i := 3) sc.nd rfl (Or.inl rfl) (pe_upper (pv 3)))) pss_nil)
      (pss_cons (ps_set (i := 4) sc.nd rfl (Or.inl rfl) (pe_op op_add_str (pe_op op_add_str (pv 2) (pe_upper (pv 2))) pe_str))
      (pss_cons (ps_for PassesOwn.never rfl (pi_listK K (pe_slice (k_slL K) (pv 0) (po_some pe_int) (po_some (pe_op op_add pe_int (pe_op op_mod (pe_callTy call_int1 (by rfl) B_int (by decide +kernel) (pa_cons (pe_ix (k_ix K) (pv 0) pe_int (fun _ _ => rfl)) pa_nil)) pe_int))))) (pg_name (i := 5) sc.nd rfl (Or.inl rfl))
      (pss_one (ps_set (i := 3) sc.nd rfl (Or.inl rfl) (pe_op op_add_str (pv 3) (pe_ix (k_ix K) (pv 4) (pe_op op_mod (pe_callTy call_int1 (by rfl) B_int (by decide +kernel) (pa_cons (pv 5) pa_nil)) pe_int) (fun _ _ => rfl))))))
      (pss_cons (ps_if (pt_cmpR op_eq (pe_op op_mod (pe_op op_fdiv (pe_callTy call_int1 (by rfl) B_int (by decide +kernel) (pa_cons (pe_ix (k_ix K) (pv 0) pe_int (fun _ _ => rfl)) pa_nil)) pe_int) pe_int) pe_int (nomark _))
      (pss_cons (ps_set (i := 6) sc.nd rfl (Or.inl rfl) pe_str)
      (pss_cons (ps_for PassesOwn.never rfl (pi_listK K (pe_slice (k_slL K) (pv 0) (po_some pe_int) (po_some (pe_op op_add pe_int (pe_op op_mod (pe_op op_fdiv (pe_callTy call_int1 (by rfl) B_int (by decide +kernel) (pa_cons (pe_ix (k_ix K) (pv 0) pe_int (fun _ _ => rfl)) pa_nil)) pe_int) pe_int))))) (pg_name (i := 5) sc.nd rfl (Or.inl rfl))
      (pss_one (ps_set (i := 6) sc.nd rfl (Or.inl rfl) (pe_op op_add_str (pv 6) (pe_ix (k_ix K) (pv 2) (pe_op op_mod (pe_callTy call_int1 (by rfl) B_int (by decide +kernel) (pa_cons (pv 5) pa_nil)) pe_int) (fun _ _ => rfl))))))
      (pss_one (ps_set (i := 3) sc.nd rfl (Or.inl rfl) (pe_op op_add_str (pe_op op_add_str (pv 6) pe_str) (pv 3)))))) pss_nil)
      (pss_cons (ps_if (pt_cmpR op_eq (pe_op op_mod (pe_op op_fdiv (pe_callTy call_int1 (by rfl) B_int (by decide +kernel) (pa_cons (pe_ix (k_ix K) (pv 0) pe_int (fun _ _ => rfl)) pa_nil)) pe_int) pe_int) pe_int (nomark _))
      (pss_cons (ps_set (i := 7) sc.nd rfl (Or.inl rfl) (pe_lst (pa_cons pe_str (pa_cons pe_str (pa_cons pe_str (pa_cons pe_str (pa_cons pe_str (pa_cons pe_str (pa_cons pe_str (pa_cons pe_str (pa_cons pe_str (pa_cons pe_str (pa_cons pe_str pa_nil)))))))))))))
      (pss_cons (ps_set (i := 7) sc.nd rfl (Or.inl rfl) (pe_op op_cat (pv 7) (pe_lst (pa_cons pe_str (pa_cons pe_str (pa_cons pe_str (pa_cons pe_str (pa_cons pe_str (pa_cons pe_str (pa_cons pe_str (pa_cons pe_str pa_nil)))))))))))
      (pss_cons (ps_set (i := 7) sc.nd rfl (Or.inl rfl) (pe_op op_cat (pv 7) (pe_lst (pa_cons pe_str (pa_cons pe_str (pa_cons pe_str (pa_cons pe_str (pa_cons pe_str (pa_cons pe_str (pa_cons pe_str pa_nil))))))))))
      (pss_one (ps_set (i := 3) sc.nd rfl (Or.inl rfl) (pe_ix (k_ix K) (pv 7) (pe_op op_mod (pe_callTy call_int1 (by rfl) B_int (by decide +kernel) (pa_cons (pe_ix (k_ix K) (pv 0) pe_int (fun _ _ => rfl)) pa_nil)) (pe_callB (k_len K) (by rfl) B_len PySem.boot_len (pa_cons (pv 7) pa_nil))) (fun _ _ => rfl))))))) pss_nil)
      (pss_one (ps_ret (pv 3)))))))))), ?_⟩
  obtain ⟨⟨row, cap, _⟩, ⟨v, _, rfl, hv, w', _, rfl, hw, rfl⟩, hp, k⟩ := h
  obtain ⟨hp, hp2⟩ : 2 ≤ row.length ∧ row.length ≤ 1000 := hp
  have a0 : atI row 0 = some (at0 row 0) := at0_at (k := 0) (by omega)
  have a1 : atI row 1 = some (at0 row 1) := at0_at (k := 1) (by omega)
  have hat : ∀ i : Int, atI (chs az) (i % 26) = some (chAt az (i % 26)) := fun i => chAt_at az_len (Int.emod_nonneg _ (by decide)) (Int.emod_lt_of_pos _ (by decide))
  have han : ∀ i : Int, atI (chs an62) (i % 62) = some (chAt an62 (i % 62)) := fun i => chAt_at an_len (Int.emod_nonneg _ (by decide)) (Int.emod_lt_of_pos _ (by decide))
  have hat1 := hat (at0 row 1)
  have hch := chAt_len (s := az) (i := at0 row 1 % 26)
  refine Sv.run (K := K) (G := [rc (rL rI) row, fc rB cap, none, none, none, none, none, none]) ?_ (.ro hv (.fz hw (.skip (.skip (.skip (.skip (.skip (.skip .nil))))))))
  refine q_set (b' := az) (by walk_at "ev") (by rfl) ?_
  refine q_set (b' := chAt az (at0 row 1 % 26)) (by walk_at "ev") (by rfl) ?_
  -- behind the first if
  refine cutK [rc (rL rI) row, fc rB cap, fc rS az, fc rS (word1 row cap), none, none, none, none] (fun K1 => ?_) ?_
  · apply q_if
    · walk_at "ev"
    · intro hc
      refine l_set (b' := word1 row cap) (by walk_at "ev") (by unfold word1; rw [hc]; rfl) K1
    · intro hc
      refine q_next ?_
      have e1 : chAt az (at0 row 1 % 26) = word1 row cap := by unfold word1; rw [hc]; rfl
      rw [e1]
      exact K1
  have hu := upz_len
  have hz : az.length = 26 := by decide +kernel
  have hd : ("0123456789" : Str).length = 10 := rfl
  have h62 := an_len2
  refine q_set (b' := an62) (by walk_at "ev") an62_eq ?_
  refine q_for (S := Str) (fun t => [rc (rL rI) row, fc rB cap, fc rS az, fc rS t, fc rS an62, none, none, none]) (fun t d => t ++ chAt an62 (d % 62)) (word1 row cap) (wk_new (xs := cut row (some 2) (some (2 + at0 row 0 % 8))) (by walk_at "ev")) (.keep (.keep (.keep (.keep (.keep (.drop (.keep (.keep .nil)))))))) ?_ ?_
  · intro H0' e0 pre d post hx
    refine ⟨_, tg_name, ?_⟩
    have hl := glue_len an62 62 pre (word1 row cap)
    have h1 := word1_len row cap
    have h2 := cut_len row (some 2) (some (2 + at0 row 0 % 8))
    have h3 := congrArg List.length hx
    rw [List.length_append, List.length_cons] at h3
    have h4 := chAt_len (s := an62) (i := d % 62)
    have hand := han d
    show Sv H0' (List.set [rc (rL rI) row, fc rB cap, fc rS az, fc rS (glue an62 62 (word1 row cap) pre), fc rS an62, none, none, none] 5 (fc rI d)) _ { nx := Have H0' [rc (rL rI) row, fc rB cap, fc rS az, fc rS (glue an62 62 (word1 row cap) pre ++ chAt an62 (d % 62)), fc rS an62, none, none, none], rt := _, bk := _, ct := _ }
    refine l_set (b' := glue an62 62 (word1 row cap) pre ++ chAt an62 (d % 62)) (by walk_at "ev") (by rfl) ?_
    exact nx_have (.keep (.keep (.keep (.keep (.keep (.drop (.keep (.keep .nil))))))))
  refine cutK [rc (rL rI) row, fc rB cap, fc rS az, fc rS (word4 row cap), fc rS an62, none, none, none] (fun K2 => ?_) ?_
  · show Sv H [rc (rL rI) row, fc rB cap, fc rS az, fc rS (word2 row cap), fc rS an62, none, none, none] _ _
    apply q_if
    · walk_at "ev"
    · intro hc
      have hc0 : decide (at0 row 0 / 8 % 3 = 0) = true := hc
      refine q_set (b' := ("" : Str)) (by walk_at "ev") (by rfl) ?_
      refine q_for (S := Str) (fun t => [rc (rL rI) row, fc rB cap, fc rS az, fc rS (word2 row cap), fc rS an62, none, fc rS t, none]) (fun t d => t ++ chAt az (d % 26)) "" (wk_new (xs := cut row (some 9) (some (10 + at0 row 0 / 24 % 8))) (by walk_at "ev")) (.keep (.keep (.keep (.keep (.keep (.drop (.keep (.keep .nil)))))))) ?_ ?_
      · intro H0' e0 pre d post hx
        refine ⟨_, tg_name, ?_⟩
        have hl := glue_len az 26 pre ""
        have h2 := cut_len row (some 9) (some (10 + at0 row 0 / 24 % 8))
        have h3 := congrArg List.length hx
        rw [List.length_append, List.length_cons] at h3
        have h4 := chAt_len (s := az) (i := d % 26)
        have hatd := hat d
        have h5 : ("" : Str).length = 0 := rfl
        show Sv H0' (List.set [rc (rL rI) row, fc rB cap, fc rS az, fc rS (word2 row cap), fc rS an62, none, fc rS (glue az 26 "" pre), none] 5 (fc rI d)) _ { nx := Have H0' [rc (rL rI) row, fc rB cap, fc rS az, fc rS (word2 row cap), fc rS an62, none, fc rS (glue az 26 "" pre ++ chAt az (d % 26)), none], rt := _, bk := _, ct := _ }
        refine l_set (b' := glue az 26 "" pre ++ chAt az (d % 26)) (by walk_at "ev") (by rfl) ?_
        exact nx_have (.keep (.keep (.keep (.keep (.keep (.drop (.keep (.keep .nil))))))))
      show Sv H [rc (rL rI) row, fc rB cap, fc rS az, fc rS (word2 row cap), fc rS an62, none, fc rS (word3 row), none] _ _
      have h2 := word2_len row cap
      have h3 := word3_len row
      have h5 : ("." : Str).length = 1 := rfl
      refine l_set (b' := word4 row cap) (by walk_at "ev"; rw [str_len_app]; omega) (by unfold word4; rw [hc0]; rfl) ?_
      exact K2.less (.keep (.keep (.keep (.keep (.keep (.keep (.drop (.keep .nil))))))))
    · intro hc
      have hc0 : decide (at0 row 0 / 8 % 3 = 0) = false := hc
      refine q_next ?_
      have e1 : word2 row cap = word4 row cap := by unfold word4; rw [hc0]; rfl
      rw [e1]
      exact K2
  refine cutK [rc (rL rI) row, fc rB cap, fc rS az, fc rS (wordOf row cap), fc rS an62, none, none, none] (fun K3 => ?_) ?_
  · apply q_if
    · walk_at "ev"
    · intro hc
      have hc0 : decide (at0 row 0 / 192 % 4 = 3) = true := hc
      refine q_asg (R := nl K rS) (by walk_at "ev") (by rfl) ?_
      refine q_asg (R := nl K rS) (by walk_at "ev") (by rfl) ?_
      refine q_asg (R := nl K rS) (b' := odds) (by walk_at "ev") (by rfl) ?_
      have m0 := Int.emod_nonneg (at0 row 1) (show (26 : Int) ≠ 0 by decide)
      have m1 := Int.emod_lt_of_pos (at0 row 1) (show (0 : Int) < 26 by decide)
      have hod : atI odds (at0 row 1 % (odds.length : Int)) = some (odds.getD (at0 row 1 % 26).toNat "") := by
        show atI odds (at0 row 1 % 26) = _
        have hlt : (at0 row 1 % 26).toNat < odds.length := by show _ < 26; omega
        refine atI_pos m0 ?_
        rw [List.getElem?_eq_getElem hlt, List.getD_eq_getElem?_getD, List.getElem?_eq_getElem hlt]
        rfl
      refine l_set (b' := wordOf row cap) (b := odds.getD (at0 row 1 % 26).toNat "") (by walk_at "ev") (by unfold wordOf; rw [hc0]; rfl) ?_
      exact K3.less (.keep (.keep (.keep (.keep (.keep (.keep (.keep (.drop .nil))))))))
    · intro hc
      have hc0 : decide (at0 row 0 / 192 % 4 = 3) = false := hc
      refine q_next ?_
      have e1 : word4 row cap = wordOf row cap := by unfold wordOf; rw [hc0]; rfl
      rw [e1]
      exact K3
  exact l_ret k (by walk_at "ev") rfl
/-! ### _law_is_sign -/
abbrev s__law_is_sign : Stmt := topS 8
abbrev n__law_is_sign : List Str := ["_law_text", "_law_small", "_law_parts", "_law_plain", "_law_char"]
abbrev p__law_is_sign : List Str := ["_law_text"]
theorem sc__law_is_sign : FnScope n__law_is_sign p__law_is_sign (defScope s__law_is_sign) := ⟨rfl, rfl, rfl, by decide +kernel, rfl, by decide +kernel, by decide +kernel⟩
abbrev d10 : Str := "0123456789"
def partsOf (s : Str) : List Str := Txt.split s "."
def lastOf (s : Str) : Str := (partsOf s).getD ((partsOf s).length - 1) ""
def okPlainC (c : Nat) : Bool := decide (c ∈ az.cps.toList) || decide (c ∈ (Txt.upper az).cps.toList) || decide (c ∈ d10.cps.toList)
def headIn (t z : Str) : Bool := match t.cps.toList with
  | c :: _ => decide (c ∈ z.cps.toList)
  | [] => false
def lawSign (s : Str) : Bool :=
  bif decide (2 < (partsOf s).length) then false else
  bif decide ((lastOf s).length < 1) || (decide (8 < (lastOf s).length) || headIn (lastOf s) d10) then false else
  bif !(lastOf s).cps.toList.all okPlainC then false else
  bif decide ((partsOf s).length = 1) then true else
  bif decide (((partsOf s).getD 0 "").length < 1) || decide (8 < ((partsOf s).getD 0 "").length) then false else
  ((partsOf s).getD 0 "").cps.toList.all fun c => decide (c ∈ az.cps.toList)
abbrev sp__law_is_sign (K : PySem.W.Frag) : Sp := spF (aC rS aN) (fun a => a.1.length ≤ 900) rB fun a => lawSign a.1
theorem mem_chs {t s : Str} (h : t ∈ chs s) : ∃ c, c ∈ s.cps.toList ∧ t = ⟨#[c]⟩ := by
  unfold chs at h
  obtain ⟨c, hc, e⟩ := List.mem_map.mp h
  exact ⟨c, hc, e.symm⟩
def okS (p : Nat → Bool) (t : Str) : Bool := t.cps.toList.all p
theorem all_chs {p : Nat → Bool} {s : Str} (h : ∀ t ∈ chs s, okS p t = true) : s.cps.toList.all p = true := by
  rw [List.all_eq_true]
  intro c hc
  have := h ⟨#[c]⟩ (List.mem_map.mpr ⟨c, hc, rfl⟩)
  simpa [okS] using this
theorem not_all_chs {p : Nat → Bool} {s : Str} {c : Nat} (hc : c ∈ s.cps.toList) (h : p c = false) : s.cps.toList.all p = false := by
  rw [Bool.eq_false_iff]
  intro q
  rw [List.all_eq_true] at q
  rw [q c hc] at h
  cases h
theorem last_len (s : Str) (n : Nat) (h : ∀ t ∈ partsOf s, t.length ≤ n) : (lastOf s).length ≤ n := by
  unfold lastOf
  rw [List.getD_eq_getElem?_getD]
  cases e : (partsOf s)[(partsOf s).length - 1]? with
  | none => exact Nat.zero_le _
  | some t => exact h t (List.mem_of_getElem? e)
theorem parts_len (s : Str) : (∀ t ∈ partsOf s, t.length ≤ s.length) ∨ 2 < (partsOf s).length := by
  rcases split_cases s with ⟨_, e⟩ | ⟨p, r, e0, _, _, e⟩ | h
  · refine .inl fun t ht => ?_
    unfold partsOf at ht
    rw [e] at ht
    cases List.mem_singleton.mp ht
    exact Nat.le_refl _
  · refine .inl fun t ht => ?_
    unfold partsOf at ht
    rw [e] at ht
    have hl : s.length = p.length + (r.length + 1) := by rw [TL.len_tl, e0, List.length_append, List.length_cons]
    rcases List.mem_cons.mp ht with q | q
    · rw [q, mkS_len]; omega
    · cases List.mem_singleton.mp q; rw [mkS_len]; omega
  · exact .inr h
theorem atI_last {α : Type} {xs : List α} {d : α} (h : xs ≠ []) : atI xs (-1) = some (xs.getD (xs.length - 1) d) := by
  have hl : 0 < xs.length := List.length_pos_iff.mpr h
  unfold atI ixN
  rw [if_neg (by omega), if_pos (by omega)]
  have e : (-1 + (xs.length : Int)).toNat = xs.length - 1 := by omega
  show (some (-1 + (xs.length : Int)).toNat).bind _ = _
  rw [e, List.getD_eq_getElem?_getD, List.getElem?_eq_getElem (by omega)]
  show xs[xs.length - 1]? = _
  rw [List.getElem?_eq_getElem (by omega)]
  rfl
theorem atI_get {α : Type} {xs : List α} {d : α} {n : Nat} (h : n < xs.length) : atI xs (n : Int) = some (xs.getD n d) := by
  refine atI_pos (by omega) ?_
  show xs[n]? = _
  rw [List.getD_eq_getElem?_getD, List.getElem?_eq_getElem h]
  rfl
theorem parts_ne (s : Str) : partsOf s ≠ [] := List.length_pos_iff.mp (split_pos s)
theorem head_at {t z : Str} (h : ¬ t.length < 1) : ∃ c, atI (chs t) 0 = some ⟨#[c]⟩ ∧ headIn t z = decide (c ∈ z.cps.toList) := by
  unfold headIn chs
  cases e : t.cps.toList with
  | nil => exact absurd (by rw [TL.len_tl]; show t.cps.toList.length < 1; rw [e]; exact Nat.zero_lt_one) h
  | cons c r => exact ⟨c, atI_zero, rfl⟩
theorem c__law_is_sign {P : Program} {w : World} {K : PySem.W.Frag} {mg : Str → Option Value} {base : Heap} (F : Df K mg "_law_is_sign" s__law_is_sign) (B_len : mg "len" = none) : Cal P w K mg base CX0 "_law_is_sign" 1 p__law_is_sign (sp__law_is_sign K) := by
  refine cal_of F sc__law_is_sign (fun vs H Q E ⟨a, h, _⟩ => LenA.len h) (fun _ _ _ _ _ _ us hl => match us, hl with | [_], _ => rfl) fun cdv f A outer s H vs Q E hr h => ?_
  have sc := sc__law_is_sign
  refine ⟨_, (pss_cons (ps_set (i := 1) sc.nd rfl (Or.inl rfl) pe_str)
      (pss_cons (ps_set (i := 2) sc.nd rfl (Or.inl rfl) (pe_split (pv 0) pe_str))
      (pss_cons (ps_if (pt_cmpR op_gt (pe_callB (k_len K) (by rfl) B_len PySem.boot_len (pa_cons (pv 2) pa_nil)) pe_int (nomark _))
      (pss_one (ps_ret pe_bl)) pss_nil)
      (pss_cons (ps_set (i := 3) sc.nd rfl (Or.inl rfl) (pe_ix (k_ix K) (pv 2) (pe_un un_neg pe_int) (fun _ _ => rfl)))
      (pss_cons (ps_if (PW.pt (pw_or (pt_cmpR op_lt (pe_callB (k_len K) (by rfl) B_len PySem.boot_len (pa_cons (pv 3) pa_nil)) pe_int (nomark _)) (pw_or (pt_cmpR op_gt (pe_callB (k_len K) (by rfl) B_len PySem.boot_len (pa_cons (pv 3) pa_nil)) pe_int (nomark _)) (pw_or1 (pt_cmpR op_in_sign (pe_ix (k_ix K) (pv 3) pe_int (fun _ _ => rfl)) pe_str rfl)))))
      (pss_one (ps_ret pe_bl)) pss_nil)
      (pss_cons (ps_for PassesOwn.never rfl (pi_str (pv 3)) (pg_name (i := 4) sc.nd rfl (Or.inl rfl))
      (pss_one (ps_if (PW.pt (pw_and (pt_cmpR op_notIn_sign (pv 4) (pv 1) rfl) (pw_and (pt_cmpR op_notIn_sign (pv 4) (pe_upper (pv 1)) rfl) (pw_and1 (pt_cmpR op_notIn_sign (pv 4) pe_str rfl)))))
      (pss_one (ps_ret pe_bl)) pss_nil)))
      (pss_cons (ps_if (pt_cmpR op_eq (pe_callB (k_len K) (by rfl) B_len PySem.boot_len (pa_cons (pv 2) pa_nil)) pe_int (nomark _))
      (pss_one (ps_ret pe_bl)) pss_nil)
      (pss_cons (ps_if (PW.pt (pw_or (pt_cmpR op_lt (pe_callB (k_len K) (by rfl) B_len PySem.boot_len (pa_cons (pe_ix (k_ix K) (pv 2) pe_int (fun _ _ => rfl)) pa_nil)) pe_int (nomark _)) (pw_or1 (pt_cmpR op_gt (pe_callB (k_len K) (by rfl) B_len PySem.boot_len (pa_cons (pe_ix (k_ix K) (pv 2) pe_int (fun _ _ => rfl)) pa_nil)) pe_int (nomark _)))))
      (pss_one (ps_ret pe_bl)) pss_nil)
      (pss_cons (ps_for PassesOwn.never rfl (pi_str (pe_ix (k_ix K) (pv 2) pe_int (fun _ _ => rfl))) (pg_name (i := 4) sc.nd rfl (Or.inl rfl))
      (pss_one (ps_if (pt_cmpR op_notIn_sign (pv 4) (pv 1) rfl)
      (pss_one (ps_ret pe_bl)) pss_nil)))
      (pss_one (ps_ret pe_bl))))))))))), ?_⟩
  obtain ⟨⟨s, _⟩, ⟨v, _, rfl, hv, rfl⟩, hp, k⟩ := h
  have hp : s.length ≤ 900 := hp
  have k : ∀ v H', Same H H' → rB H' v (lawSign s) → Q v H' := k
  have hz : az.length = 26 := by decide +kernel
  refine Sv.run (K := K) (G := [fc rS s, none, none, none, none]) ?_ (.fz hv (.skip (.skip (.skip (.skip .nil)))))
  refine q_set (b' := az) (by walk_at "ev") (by rfl) ?_
  refine q_asg (R := nl K rS) (b' := partsOf s) (by walk_at "ev") (by rfl) ?_
  apply q_if
  · walk_at "ev"
  · intro hc
    refine l_ret k (by walk_at "ev") ?_
    have hc := of_decide_eq_true hc
    unfold lawSign
    rw [decide_eq_true (show 2 < (partsOf s).length by omega)]
    rfl
  intro hc
  have hc1 := of_decide_eq_false hc
  have hpl : ∀ t ∈ partsOf s, t.length ≤ s.length := by
    rcases parts_len s with h | h
    · exact h
    · exact absurd (by omega) hc1
  have hll := last_len s _ hpl
  have a1 : atI (partsOf s) (-1) = some (lastOf s) := atI_last (parts_ne s)
  have e1 : decide (2 < (partsOf s).length) = false := decide_eq_false (by omega)
  refine q_next ?_
  refine q_set (b' := lastOf s) (by walk_at "ev") (by rfl) ?_
  have e2 : EvT (K := K) (tOr (tTest (tOp (rI0 fun i j => V.bl (decide (i < j))) (tCB (rLenU K) (tCons (tVar 3) tNil)) (tC (V.int 1))))
      (tOr (tTest (tOp (rI0 fun i j => V.bl (decide (j < i))) (tCB (rLenU K) (tCons (tVar 3) tNil)) (tC (V.int 8))))
        (tTest (tOp (fun x y H Q => ∃ (c : Nat) (z : Str), x = .str ⟨#[c]⟩ ∧ y = .str z ∧ Q (.bl (decide (c ∈ z.cps.toList))) H) (tOp (rIx K) (tVar 3) (tC (.int 0))) (tC (.str "0123456789"))))))
      [fc rS s, fc rS az, some (.ow (nl K rS) (partsOf s)), fc rS (lastOf s), none] (decide ((lastOf s).length < 1) || (decide (8 < (lastOf s).length) || headIn (lastOf s) d10)) := by
    refine EvT.eq (c := decide (((lastOf s).length : Int) < 1) || (decide (8 < ((lastOf s).length : Int)) || headIn (lastOf s) d10)) (et_or (by walk_at "ev") fun h => et_or (by walk_at "ev") fun h' => ?_) (by congr 1; exact decide_eq_decide.mpr (by omega); congr 1; exact decide_eq_decide.mpr (by omega))
    obtain ⟨c, hc, eh⟩ := head_at (t := lastOf s) (z := d10) (by have := of_decide_eq_false h; omega)
    rw [eh]
    walk_at "ev"
  refine q_if e2 (fun hc => ?_) (fun hc2 => q_next ?_)
  · refine l_ret k (by walk_at "ev") ?_
    unfold lawSign
    rw [e1, hc]
    rfl
  refine q_search [fc rS s, fc rS az, some (.ow (nl K rS) (partsOf s)), fc rS (lastOf s), none] (okS okPlainC) (wk_str (by walk_at "ev")) (Sub.refl _) ?_ ?_
  · intro H0' e0 pre x post hx hpre
    obtain ⟨c, hcm, rfl⟩ := mem_chs (t := x) (s := lastOf s) (by show x ∈ List.map _ _; rw [hx]; simp)
    refine ⟨_, tg_name, ?_⟩
    have hhu := upz_len
    apply l_if
    · walk_at "ev"
      all_goals exact rfl
    · intro hc3
      refine l_ret (fun v H' e z => k v H' (e0.trans e) z) (by walk_at "ev") ?_
      have : okPlainC c = false := by
        unfold okPlainC
        revert hc3
        cases decide (c ∈ az.cps.toList) <;> cases decide (c ∈ (Txt.upper az).cps.toList) <;> cases h : decide (c ∈ d10.cps.toList) <;> simp_all [d10]
      unfold lawSign
      rw [e1, hc2, not_all_chs hcm this]
      rfl
    · intro hc3
      refine fun σ H h => ⟨?_, h.less (.keep (.keep (.keep (.keep (.drop .nil)))))⟩
      have : okPlainC c = true := by
        unfold okPlainC
        revert hc3
        cases decide (c ∈ az.cps.toList) <;> cases decide (c ∈ (Txt.upper az).cps.toList) <;> cases h : decide (c ∈ d10.cps.toList) <;> simp_all [d10]
      simp [okS, this]
  intro hall
  have e3 := all_chs hall
  apply q_if
  · walk_at "ev"
  · intro hc4
    refine l_ret k (by walk_at "ev") ?_
    have hc4 := of_decide_eq_true hc4
    unfold lawSign
    rw [e1, hc2, e3, decide_eq_true (show (partsOf s).length = 1 by omega)]
    rfl
  intro hc4
  have hc4 := of_decide_eq_false hc4
  have e4 : decide ((partsOf s).length = 1) = false := decide_eq_false (by omega)
  have a0 : atI (partsOf s) 0 = some ((partsOf s).getD 0 "") := atI_get (n := 0) (split_pos s)
  have hl0 : ((partsOf s).getD 0 "").length ≤ 900 := by
    rw [List.getD_eq_getElem?_getD]
    cases e : (partsOf s)[0]? with
    | none => exact Nat.zero_le _
    | some t => have := hpl t (List.mem_of_getElem? e); simp only [Option.getD_some]; omega
  refine q_next ?_
  have e5 : EvT (K := K) (tOr (tTest (tOp (rI0 fun i j => V.bl (decide (i < j))) (tCB (rLenU K) (tCons (tOp (rIx K) (tVar 2) (tC (.int 0))) tNil)) (tC (V.int 1))))
      (tTest (tOp (rI0 fun i j => V.bl (decide (j < i))) (tCB (rLenU K) (tCons (tOp (rIx K) (tVar 2) (tC (.int 0))) tNil)) (tC (V.int 8)))))
      [fc rS s, fc rS az, some (.ow (nl K rS) (partsOf s)), fc rS (lastOf s), none] (decide (((partsOf s).getD 0 "").length < 1) || decide (8 < ((partsOf s).getD 0 "").length)) := by
    refine EvT.eq (c := decide ((((partsOf s).getD 0 "").length : Int) < 1) || decide (8 < (((partsOf s).getD 0 "").length : Int))) (et_or (by walk_at "ev") fun h => (by walk_at "ev")) (by congr 1 <;> exact decide_eq_decide.mpr (by omega))
  refine q_if e5 (fun hc => ?_) (fun hc5 => q_next ?_)
  · refine l_ret k (by walk_at "ev") ?_
    unfold lawSign
    rw [e1, hc2, e3, e4, hc]
    rfl
  refine q_search [fc rS s, fc rS az, some (.ow (nl K rS) (partsOf s)), fc rS (lastOf s), none] (okS fun c => decide (c ∈ az.cps.toList)) (wk_str (z := (partsOf s).getD 0 "") (by walk_at "ev")) (Sub.refl _) ?_ ?_
  · intro H0' e0 pre x post hx hpre
    obtain ⟨c, hcm, rfl⟩ := mem_chs (t := x) (s := (partsOf s).getD 0 "") (by show x ∈ List.map _ _; rw [hx]; simp)
    refine ⟨_, tg_name, ?_⟩
    apply l_if
    · walk_at "ev"
      all_goals exact rfl
    · intro hc6
      refine l_ret (fun v H' e z => k v H' (e0.trans e) z) (by walk_at "ev") ?_
      have h6 : decide (c ∈ az.cps.toList) = false := by simpa using hc6
      unfold lawSign
      rw [e1, hc2, e3, e4, hc5, not_all_chs (p := fun c => decide (c ∈ az.cps.toList)) hcm h6]
      rfl
    · intro hc6
      refine fun σ H h => ⟨?_, h.less (.keep (.keep (.keep (.keep (.drop .nil)))))⟩
      have h6 : decide (c ∈ az.cps.toList) = true := by simpa using hc6
      simp only [okS]
      simpa using h6
  intro hall2
  refine l_ret k (by walk_at "ev") ?_
  unfold lawSign
  rw [e1, hc2, e3, e4, hc5, all_chs hall2]
  rfl
/-! ### law -/
abbrev s_law : Stmt := topS 9
abbrev n_law : List Str := ["_law_script", "_law_k", "_law_row", "_law_sign", "_law_parts", "_law_due", "_law_told", "_law_small"]
abbrev p_law : List Str := ["_law_script"]
theorem sc_law : FnScope n_law p_law (defScope s_law) := ⟨rfl, rfl, rfl, by decide +kernel, rfl, by decide +kernel, by decide +kernel⟩
abbrev sp_law (K : PySem.W.Frag) : Sp := spF (aC (rQ K rI) aN) (fun a => a.1.length ≤ 63) rB fun _ => true
theorem sign_cases {s : Str} (h : lawSign s = true) : (46 ∉ TL.tl s ∧ partsOf s = [s] ∧ ownerOf s = "" ∧ lastPart s = s) ∨
    ∃ p r, partsOf s = [mkS p, mkS r] ∧ ownerOf s = mkS p ∧ lastPart s = mkS r := by
  rcases split_cases s with ⟨h1, e⟩ | ⟨p, r, e0, hp, hr, e⟩ | h3
  · refine .inl ⟨h1, e, ?_, rpart_none h1⟩
    unfold ownerOf
    rw [decide_eq_false h1]
    rfl
  · refine .inr ⟨p, r, e, ?_, rpart_some e0 hr⟩
    unfold ownerOf
    rw [decide_eq_true (show 46 ∈ s.cps.toList from by show 46 ∈ TL.tl s; rw [e0]; simp), part_some e0 hp]
    rfl
  · exfalso
    unfold lawSign at h
    rw [decide_eq_true (show 2 < (partsOf s).length from h3)] at h
    cases h
theorem sign_last {s : Str} (h : lawSign s = true) : ¬ (lastOf s).length < 1 := by
  intro q
  unfold lawSign at h
  rw [decide_eq_true q] at h
  revert h
  cases decide (2 < (partsOf s).length) <;> simp
theorem last_part {s : Str} (h : lawSign s = true) : lastPart s = lastOf s := by
  rcases sign_cases h with ⟨_, e, _, e2⟩ | ⟨p, r, e, _, e2⟩
  · unfold lastOf; rw [e2, e]; rfl
  · unfold lastOf; rw [e2, e]; rfl
def dueOf (s : Str) : Str := bif decide ((partsOf s).length = 2) then (partsOf s).getD 0 "" else ""
theorem owner_due {s : Str} (h : lawSign s = true) : ownerOf s = dueOf s := by
  rcases sign_cases h with ⟨_, e, e1, e2⟩ | ⟨p, r, e, e1, e2⟩
  · unfold dueOf; rw [e1, e]; rfl
  · unfold dueOf; rw [e1, e]; rfl
theorem draws18 {c : Int} {k : Nat} (h : k < 18) : atI (draws c 18) (k : Int) = some ((draws c 18).getD k 0) := atI_get (by rw [draws_len]; exact h)
theorem c_law {P : Program} {w : World} {K : PySem.W.Frag} {mg : Str → Option Value} {base : Heap} {f : Addr} {fd : FuncData} (F : Fun K "law" "law" s_law f fd) (B_range : mg "range" = none) (B_int : mg "int" = none) (B_len : mg "len" = none) (B_str : mg "str" = none) (B_isinstance : mg "isinstance" = none) (B_bool : mg "bool" = none) (C__law_cell : Cal P w K mg base CX0 "_law_cell" 1 p__law_cell (sp__law_cell K)) (C__law_draws : Cal P w K mg base CX0 "_law_draws" 1 p__law_draws (sp__law_draws K)) (C__law_word : Cal P w K mg base CX0 "_law_word" 1 p__law_word (sp__law_word K)) (C__law_is_sign : Cal P w K mg base CX0 "_law_is_sign" 1 p__law_is_sign (sp__law_is_sign K)) (C_owner : Cal P w K mg base CX0 "owner" 1 p_owner (sp_owner K)) (C_is_token : Cal P w K mg base CX0 "is_token" 1 p_is_token (sp_is_token K)) : FnOk P w K mg base CX0 2 f fd p_law (sp_law K) := by
  refine F.ok sc_law (fun vs H Q E ⟨a, h, _⟩ => LenA.len h) fun cdv A outer s H vs Q E hr h => ?_
  have sc := sc_law
  refine ⟨_, (pss_cons (ps_for PassesOwn.never rfl (pi_range1 (by rfl) B_range (pa_cons pe_int pa_nil)) (pg_name (i := 1) sc.nd rfl (Or.inl rfl))
      (pss_cons (ps_set (i := 2) sc.nd rfl (Or.inl rfl) (pe_fn C__law_draws (hr.mono (by decide)) (pa_cons (pe_fn C__law_cell (hr.mono (by decide)) (pa_cons (pv 0) (pa_cons (pv 1) pa_nil))) (pa_cons pe_int pa_nil))))
      (pss_cons (ps_set (i := 3) sc.nd rfl (Or.inl rfl) (pe_fn C__law_word (hr.mono (by decide)) (pa_cons (pv 2) (pa_cons (pe_cmpR op_eq (pe_op op_mod (pe_callTy call_int1 (by rfl) B_int (by decide +kernel) (pa_cons (pe_ix (k_ix K) (pv 2) pe_int (fun _ _ => rfl)) pa_nil)) pe_int) pe_int (nomark _)) pa_nil))))
      (pss_one (ps_if (pt_val (pe_fn C__law_is_sign (hr.mono (by decide)) (pa_cons (pv 3) pa_nil)))
      (pss_cons (ps_set (i := 4) sc.nd rfl (Or.inl rfl) (pe_split (pv 3) pe_str))
      (pss_cons (ps_set (i := 5) sc.nd rfl (Or.inl rfl) pe_str)
      (pss_cons (ps_if (pt_cmpR op_eq (pe_callB (k_len K) (by rfl) B_len PySem.boot_len (pa_cons (pv 4) pa_nil)) pe_int (nomark _))
      (pss_one (ps_set (i := 5) sc.nd rfl (Or.inl rfl) (pe_ix (k_ix K) (pv 4) pe_int (fun _ _ => rfl)))) pss_nil)
      (pss_cons (ps_set (i := 6) sc.nd rfl (Or.inl rfl) (pe_fn C_owner (hr.mono (by decide)) (pa_cons (pv 3) pa_nil)))
      (pss_cons (ps_if (PW.pt (pw_or (pt_not (pt_val (pe_callB (k_isi K) (by rfl) B_isinstance (by decide +kernel) (pa_cons (pv 6) (pa_cons (pe_bltn (v := .ty "str") (u := .type "str") (by rfl) B_str (by decide +kernel) rfl) pa_nil))))) (pw_or1 (pt_cmpR op_ne (pv 6) (pv 5) (nomark _)))))
      (pss_one (ps_ret pe_bl)) pss_nil)
      (pss_cons (ps_set (i := 7) sc.nd rfl (Or.inl rfl) (pe_fn C_is_token (hr.mono (by decide)) (pa_cons (pv 3) pa_nil)))
      (pss_one (ps_if (PW.pt (pw_or (pt_not (pt_val (pe_callB (k_isi K) (by rfl) B_isinstance (by decide +kernel) (pa_cons (pv 7) (pa_cons (pe_bltn (v := .ty "bool") (u := .type "bool") (by rfl) B_bool (by decide +kernel) rfl) pa_nil))))) (pw_or1 (pt_cmpR op_ne (pv 7) (pe_cmpR op_in_sign (pe_ix (k_ix K) (pe_ix (k_ix K) (pv 4) (pe_un un_neg pe_int) (fun _ _ => rfl)) pe_int (fun _ _ => rfl)) pe_str rfl) (nomark _)))))
      (pss_one (ps_ret pe_bl)) pss_nil)))))))) pss_nil)))))
      (pss_one (ps_ret pe_bl))), ?_⟩
  obtain ⟨⟨ns, _⟩, ⟨v, _, rfl, hv, rfl⟩, hp, k⟩ := h
  have hp : ns.length ≤ 63 := hp
  have k : ∀ v H', Same H H' → rB H' v true → Q v H' := k
  refine Sv.run (K := K) (G := [rc (rQ K rI) ns, none, none, none, none, none, none, none]) ?_ (.ro hv (.skip (.skip (.skip (.skip (.skip (.skip (.skip .nil))))))))
  refine q_search [rc (rQ K rI) ns, none, none, none, none, none, none, none] (fun _ => true) (wk_rng1 (n := 2) (by walk_at "ev") (by omega)) (Sub.refl _) ?_ ?_
  · intro H0' e0 pre i post hx _
    have hi : 0 ≤ i := by
      have : i ∈ ups (2 : Int).toNat := by rw [hx]; simp
      unfold ups at this
      obtain ⟨j, _, e⟩ := List.mem_map.mp this
      omega
    refine ⟨_, tg_name, ?_⟩
    refine q_asg (R := nl K rI) (b' := draws (cellAt ns i) 18) (by walk_at "ev") (by rfl) ?_
    have hl : (draws (cellAt ns i) 18).length = 18 := draws_len _ _
    have a17 : atI (draws (cellAt ns i) 18) 17 = some ((draws (cellAt ns i) 18).getD 17 0) := draws18 (k := 17) (by decide)
    generalize draws (cellAt ns i) 18 = row at hl a17 ⊢
    generalize hcap : decide (row.getD 17 0 % 2 = 1) = cap
    refine q_set (b' := wordOf row cap) (by walk_at "ev") (by rw [hcap]) ?_
    have hs := wordOf_len row cap
    generalize wordOf row cap = s at hs ⊢
    apply l_if
    · walk_at "ev"
    · intro hc
      refine q_asg (R := nl K rS) (b' := partsOf s) (by walk_at "ev") (by rfl) ?_
      refine q_set (b' := ("" : Str)) (by walk_at "ev") (by rfl) ?_
      refine cutK [rc (rQ K rI) ns, none, none, fc rS s, some (.ow (nl K rS) (partsOf s)), fc rS (dueOf s), none, none] (fun K1 => ?_) ?_
      · have a0 : atI (partsOf s) 0 = some ((partsOf s).getD 0 "") := atI_get (n := 0) (split_pos s)
        apply q_if
        · walk_at "ev"
        · intro h2
          have h2 := of_decide_eq_true h2
          refine l_set (b' := dueOf s) (by walk_at "ev") (by unfold dueOf; rw [decide_eq_true (show (partsOf s).length = 2 by omega)]; rfl) ?_
          exact K1.less (.keep (.drop (.drop (.keep (.keep (.keep (.keep (.keep .nil))))))))
        · intro h2
          have h2 := of_decide_eq_false h2
          refine q_next ?_
          have e1 : ("" : Str) = dueOf s := by unfold dueOf; rw [decide_eq_false (show ¬ (partsOf s).length = 2 by omega)]; rfl
          rw [e1]
          exact K1.less (.keep (.drop (.drop (.keep (.keep (.keep (.keep (.keep .nil))))))))
      refine q_set (b' := ownerOf s) (by walk_at "ev") (by rfl) ?_
      rw [owner_due hc]
      apply q_if
      · walk_at "ev"
        exact (by decide +kernel : kitB "str" "str" = some true)
      · intro h3
        simp at h3
      intro h3
      refine q_next ?_
      obtain ⟨c, hc0, eh⟩ := head_at (t := lastOf s) (z := az) (sign_last hc)
      have hne : (lastPart s).cps.toList ≠ [] := by
        rw [last_part hc]
        intro z
        refine sign_last hc ?_
        rw [TL.len_tl]
        show (lastOf s).cps.toList.length < 1
        rw [z]
        exact Nat.zero_lt_one
      have hpl : (lastOf s).length ≤ 900 := by
        rcases parts_len s with h | h
        · have := last_len s _ h; omega
        · exfalso
          unfold lawSign at hc
          rw [decide_eq_true h] at hc
          cases hc
      have hq : s.length ≤ 10000 ∧ (lastPart s).cps.toList ≠ [] ∧ (lastPart s).length ≤ 10000 := ⟨by omega, hne, by rw [last_part hc]; omega⟩
      refine q_set (b' := isTokenC s) (by walk_at "ev") (by rfl) ?_
      have et : isTokenC s = decide (c ∈ az.cps.toList) := by
        rw [← eh]
        unfold isTokenC headIn
        rw [last_part hc]
        rfl
      have a1 : atI (partsOf s) (-1) = some (lastOf s) := atI_last (parts_ne s)
      rw [et]
      apply l_if
      · walk_at "ev"
        exact (by decide +kernel : kitB "bool" "bool" = some true)
      · intro h4
        simp at h4
        exact absurd Iff.rfl h4
      · intro h4
        exact fun σ H h => ⟨rfl, h.less (.keep (.drop (.drop (.drop (.drop (.drop (.drop (.drop .nil))))))))⟩
    · intro hc
      exact fun σ H h => ⟨rfl, h.less (.keep (.drop (.drop (.drop (.drop (.drop (.drop (.drop .nil))))))))⟩
  intro _
  exact l_ret k (by walk_at "ev") rfl
/-! ### the end -/
theorem all_mk {l : PySem.W.OpenLaw} {w : World} {K : PySem.W.Frag} {h : Heap} {mg : Str → Option Value} {fa : Addr} {f0 : Addr} {od0 an0 : Option Addr} {sl0 : Array (Option Value)} {oc0 kV0 dc0 pm0 cd0 ct0 : Value} {f1 : Addr} {od1 an1 : Option Addr} {sl1 : Array (Option Value)} {oc1 kV1 dc1 pm1 cd1 ct1 : Value} {f2 : Addr} {od2 an2 : Option Addr} {sl2 : Array (Option Value)} {oc2 kV2 dc2 pm2 cd2 ct2 : Value} {f3 : Addr} {od3 an3 : Option Addr} {sl3 : Array (Option Value)} {oc3 kV3 dc3 pm3 cd3 ct3 : Value} {f4 : Addr} {od4 an4 : Option Addr} {sl4 : Array (Option Value)} {oc4 kV4 dc4 pm4 cd4 ct4 : Value} {f5 : Addr} {od5 an5 : Option Addr} {sl5 : Array (Option Value)} {oc5 kV5 dc5 pm5 cd5 ct5 : Value} {f6 : Addr} {od6 an6 : Option Addr} {sl6 : Array (Option Value)} {oc6 kV6 dc6 pm6 cd6 ct6 : Value} {tc0 : Tok} (X : K.In h) (G : h.Ns mainGlobals mg) (hfa : mg "law" = some (.ref fa))
    (a0 : PySem.W.nsIn K mainGlobals "owner" = some (some (.ref f0)))
    (l0 : K.lookup f0 = some ⟨oc0, od0, .func (PySem.W.fnOf "owner" "owner" (defArgs s_owner) (defBody s_owner) (defScope s_owner) .none kV0 dc0 pm0 an0 cd0 ct0), sl0⟩)
    (c0 : PySem.W.codeIn K cd0 "owner" = true)
    (k0 : PySem.W.keepIn K (.ref f0) = true)
    (a1 : PySem.W.nsIn K mainGlobals "is_token" = some (some (.ref f1)))
    (l1 : K.lookup f1 = some ⟨oc1, od1, .func (PySem.W.fnOf "is_token" "is_token" (defArgs s_is_token) (defBody s_is_token) (defScope s_is_token) .none kV1 dc1 pm1 an1 cd1 ct1), sl1⟩)
    (c1 : PySem.W.codeIn K cd1 "is_token" = true)
    (k1 : PySem.W.keepIn K (.ref f1) = true)
    (a2 : PySem.W.nsIn K mainGlobals "_law_cell" = some (some (.ref f2)))
    (l2 : K.lookup f2 = some ⟨oc2, od2, .func (PySem.W.fnOf "_law_cell" "_law_cell" (defArgs s__law_cell) (defBody s__law_cell) (defScope s__law_cell) .none kV2 dc2 pm2 an2 cd2 ct2), sl2⟩)
    (c2 : PySem.W.codeIn K cd2 "_law_cell" = true)
    (k2 : PySem.W.keepIn K (.ref f2) = true)
    (a3 : PySem.W.nsIn K mainGlobals "_law_draws" = some (some (.ref f3)))
    (l3 : K.lookup f3 = some ⟨oc3, od3, .func (PySem.W.fnOf "_law_draws" "_law_draws" (defArgs s__law_draws) (defBody s__law_draws) (defScope s__law_draws) .none kV3 dc3 pm3 an3 cd3 ct3), sl3⟩)
    (c3 : PySem.W.codeIn K cd3 "_law_draws" = true)
    (k3 : PySem.W.keepIn K (.ref f3) = true)
    (a4 : PySem.W.nsIn K mainGlobals "_law_word" = some (some (.ref f4)))
    (l4 : K.lookup f4 = some ⟨oc4, od4, .func (PySem.W.fnOf "_law_word" "_law_word" (defArgs s__law_word) (defBody s__law_word) (defScope s__law_word) .none kV4 dc4 pm4 an4 cd4 ct4), sl4⟩)
    (c4 : PySem.W.codeIn K cd4 "_law_word" = true)
    (k4 : PySem.W.keepIn K (.ref f4) = true)
    (a5 : PySem.W.nsIn K mainGlobals "_law_is_sign" = some (some (.ref f5)))
    (l5 : K.lookup f5 = some ⟨oc5, od5, .func (PySem.W.fnOf "_law_is_sign" "_law_is_sign" (defArgs s__law_is_sign) (defBody s__law_is_sign) (defScope s__law_is_sign) .none kV5 dc5 pm5 an5 cd5 ct5), sl5⟩)
    (c5 : PySem.W.codeIn K cd5 "_law_is_sign" = true)
    (k5 : PySem.W.keepIn K (.ref f5) = true)
    (a6 : PySem.W.nsIn K mainGlobals "law" = some (some (.ref f6)))
    (l6 : K.lookup f6 = some ⟨oc6, od6, .func (PySem.W.fnOf "law" "law" (defArgs s_law) (defBody s_law) (defScope s_law) .none kV6 dc6 pm6 an6 cd6 ct6), sl6⟩)
    (c6 : PySem.W.codeIn K cd6 "law" = true)
    (k6 : PySem.W.keepIn K (.ref f6) = true)
    (z0 : PySem.W.nsIn K mainGlobals "len" = some none)
    (z1 : PySem.W.nsIn K mainGlobals "int" = some none)
    (z2 : PySem.W.nsIn K mainGlobals "range" = some none)
    (z3 : PySem.W.nsIn K mainGlobals "str" = some none)
    (z4 : PySem.W.nsIn K mainGlobals "isinstance" = some none)
    (z5 : PySem.W.nsIn K mainGlobals "bool" = some none)
    (mc0 : PySem.W.nsIn K mainGlobals "SMALL" = some (some (.str "abcdefghijklmnopqrstuvwxyz" tc0)))
    : ∃ fd : FuncData, (∀ (s : Shared) (v : Value), BindsTo s fd ⟨[v], []⟩ [("_law_script", v)]) ∧ ∀ base : Heap, K.In base → base.Ns mainGlobals mg → FnOk l.prog w K mg base CX0 2 fa fd ["_law_script"] (sp_law K) := by
  have e := hfa.symm.trans (PySem.W.mg_of X G a6)
  cases e
  refine ⟨PySem.W.fnOf "law" "law" (defArgs s_law) (defBody s_law) (defScope s_law) .none kV6 dc6 pm6 an6 cd6 ct6, fun s v => .of_eq rfl, fun base _ _ => ?_⟩
  have B_len := PySem.W.mg_none_of X G z0
  have B_int := PySem.W.mg_none_of X G z1
  have B_range := PySem.W.mg_none_of X G z2
  have B_str := PySem.W.mg_none_of X G z3
  have B_isinstance := PySem.W.mg_none_of X G z4
  have B_bool := PySem.W.mg_none_of X G z5
  have M_SMALL : ∃ t, mg "SMALL" = some (Value.str "abcdefghijklmnopqrstuvwxyz" t) := ⟨_, PySem.W.mg_of X G mc0⟩
  have D_owner : Df K mg "owner" s_owner := ⟨f0, _, fun_mk (st := s_owner) l0 c0 k0, PySem.W.mg_of X G a0⟩
  have D_is_token : Df K mg "is_token" s_is_token := ⟨f1, _, fun_mk (st := s_is_token) l1 c1 k1, PySem.W.mg_of X G a1⟩
  have D__law_cell : Df K mg "_law_cell" s__law_cell := ⟨f2, _, fun_mk (st := s__law_cell) l2 c2 k2, PySem.W.mg_of X G a2⟩
  have D__law_draws : Df K mg "_law_draws" s__law_draws := ⟨f3, _, fun_mk (st := s__law_draws) l3 c3 k3, PySem.W.mg_of X G a3⟩
  have D__law_word : Df K mg "_law_word" s__law_word := ⟨f4, _, fun_mk (st := s__law_word) l4 c4 k4, PySem.W.mg_of X G a4⟩
  have D__law_is_sign : Df K mg "_law_is_sign" s__law_is_sign := ⟨f5, _, fun_mk (st := s__law_is_sign) l5 c5 k5, PySem.W.mg_of X G a5⟩
  have C_owner : Cal l.prog w K mg base CX0 "owner" 1 p_owner (sp_owner K) := c_owner D_owner
  have C_is_token : Cal l.prog w K mg base CX0 "is_token" 1 p_is_token (sp_is_token K) := c_is_token D_is_token M_SMALL
  have C__law_cell : Cal l.prog w K mg base CX0 "_law_cell" 1 p__law_cell (sp__law_cell K) := c__law_cell D__law_cell B_len B_int
  have C__law_draws : Cal l.prog w K mg base CX0 "_law_draws" 1 p__law_draws (sp__law_draws K) := c__law_draws D__law_draws B_int B_range
  have C__law_word : Cal l.prog w K mg base CX0 "_law_word" 1 p__law_word (sp__law_word K) := c__law_word D__law_word B_int B_len
  have C__law_is_sign : Cal l.prog w K mg base CX0 "_law_is_sign" 1 p__law_is_sign (sp__law_is_sign K) := c__law_is_sign D__law_is_sign B_len
  exact c_law (fun_mk (st := s_law) l6 c6 k6) B_range B_int B_len B_str B_isinstance B_bool C__law_cell C__law_draws C__law_word C__law_is_sign C_owner C_is_token
theorem walk {l : PySem.W.OpenLaw} {q : Program} {loose : List Str} {XP : (Str → Option Value) → Heap → Prop} {YP : World → Heap → Prop} {d : DefRec} {K : Params → PySem.W.Frag} (hn : l.most = some 63) (hdf : d.params.defaults = [])
    (hY : ∀ (w : World) (h : Heap), YP w h → (K w.params).In h)
    (F : ∀ (w : World) (mg : Str → Option Value) (fa : Addr) (h : Heap), (K w.params).In h → h.Ns mainGlobals mg → mg d.name = some (.ref fa) →
      ∃ fd : FuncData, (∀ (s : Shared) (u : Value), BindsTo s fd ⟨[u], []⟩ [("_law_script", u)]) ∧ ∀ base : Heap, (K w.params).In base → base.Ns mainGlobals mg → FnOk l.prog w (K w.params) mg base CX0 2 fa fd ["_law_script"] (sp_law (K w.params))) :
    PySem.W.WalkO q loose XP YP l.row.toRowW d [] (fun f vs => PySem.call f vs) :=
  L2.walk_of (n := 63) (k := 2) (x := "_law_script") (CX := fun _ => CX0) (sp := fun w => sp_law (K w.params)) hn (by decide) hdf ⟨rfl, by decide, by decide⟩ hY F
    (fun _ H a ns hl _ hS => ⟨(ns, ()), ⟨_, _, rfl, ⟨a, _, rfl, hS, A2.of_map _⟩, rfl⟩, hl, fun v H' _ z => z⟩) fun _ _ _ _ _ z => z
end Gt

open PySem PySem.W PyProof.Rows in
set_option maxRecDepth 100000 in
set_option maxHeartbeats 0 in
theorem PySem.Challenge.cw_guesttongues_k02_signs_holds : PySem.Challenge.rw_guesttongues_k02_signs.Holds := by
  w_on; o_law; k_head; (case hw => w_witness2)
  k_fill
  refine Gt.walk (l := PySem.Challenge.rw_guesttongues_k02_signs) rfl rfl (fun w h Y => PySem.W.kIn_of Y) ?F
  case F =>
    intro w mg fa h KX G hmg
    refine' Gt.all_mk KX G hmg ?a0 ?l0 ?c0 ?k0 ?a1 ?l1 ?c1 ?k1 ?a2 ?l2 ?c2 ?k2 ?a3 ?l3 ?c3 ?k3 ?a4 ?l4 ?c4 ?k4 ?a5 ?l5 ?c5 ?k5 ?a6 ?l6 ?c6 ?k6 ?z0 ?z1 ?z2 ?z3 ?z4 ?z5 ?mc0
    (case a0 => k_is)
    (case l0 => k_is)
    (case c0 => k_is)
    (case k0 => k_is)
    (case a1 => k_is)
    (case l1 => k_is)
    (case c1 => k_is)
    (case k1 => k_is)
    (case a2 => k_is)
    (case l2 => k_is)
    (case c2 => k_is)
    (case k2 => k_is)
    (case a3 => k_is)
    (case l3 => k_is)
    (case c3 => k_is)
    (case k3 => k_is)
    (case a4 => k_is)
    (case l4 => k_is)
    (case c4 => k_is)
    (case k4 => k_is)
    (case a5 => k_is)
    (case l5 => k_is)
    (case c5 => k_is)
    (case k5 => k_is)
    (case a6 => k_is)
    (case l6 => k_is)
    (case c6 => k_is)
    (case k6 => k_is)
    (case z0 => k_is)
    (case z1 => k_is)
    (case z2 => k_is)
    (case z3 => k_is)
    (case z4 => k_is)
    (case z5 => k_is)
    (case mc0 => k_is)
#print axioms PySem.Challenge.cw_guesttongues_k02_signs_holds
