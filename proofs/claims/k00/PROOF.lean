import PyProof.Rows.All
import Wide.All
import OpenK.AllK
import Wide.FinOn
import HandS.ForMost
import HandS.Exc
import HandS.ExcInit
import HandS.ExcValue
import HandS.HeadHook1
import HandS.SortInts
import HandS.IsInst
import HandS.Style
import HandS.TupAny
import HandS.Defaults
import HandS.WordsExc
import HandS.ExcOwn
import HandS.HeadHook2
import HandS.Dict
import PyProof.ReprReads
import KE.KExcSuper
import KE.KExcIs
import HandS.ExcField
import HandS.ExcIs
import PyProof.ReprRoads
import PyProof.Rows.ReprR
import HandS.Ends
import HandS.HeadEnd
import KE.KStateDown
import HandS.More
import HandS.Words
import HandS.Head0
import HandS.Head1
import HandS.Head2
import HandS.HeadHook3
import HandS.HeadHook4
import PySem.Challenge.RW_splitbooks_k00_errors_of_all_parts
set_option Elab.async false
set_option linter.all false
set_option maxRecDepth 100000
set_option maxHeartbeats 4000000
/-! The layer Mi: a def's body is told by a function over data trees. Part 1: data, stores, the step. -/
namespace Mi
open PySem L2

/-- data: what stands still -/
inductive D where
  | non | bl (b : Bool) | int (i : Int) | str (x : Str) | ty (n : String) | gl (x : Str)
  | scr (ns : List Int) | lst (xs : List D) | tup (xs : List D)
  | dk (kvs : List (Key × D)) | dt (kvs : List (List Key × D))
  | rng (lo hi : Int)
  | ob (C : Str) (fs : List (Str × D))
  | ex (C : Str) | exA (C f : Str) (d : D)
/-- what a name holds: data, or the number of an object that may change -/
inductive S where
  | d (x : D) | h (n : Nat)
/-- an object that may change; drw: the draws (large numbers, the rest, the cells, the turn); fz: frozen from now on -/
inductive MO where
  | lst (xs : List D) | dk (kvs : List (Key × D)) | dt (kvs : List (List Key × D)) | ob (C : Str) (fs : List (Str × D))
  | drw (la : List Int) (re : Int) (ce : List Int) (tu : Int) | fz (x : D)
abbrev Mem := List MO
abbrev Rho := List (Addr × List Addr)
abbrev SD := List (Option S)
inductive Out (α : Type) where
  | ok (a : α) (m : Mem) | exc (c : Str) (fs : List (Str × D)) (m : Mem) | bad
abbrev M (α : Type) := Mem → Out α
def Out.bind {α β : Type} (r : Out α) (f : α → M β) : Out β := match r with
  | .ok a m => f a m
  | .exc c fs m => .exc c fs m
  | .bad => .bad
def M.pure {α : Type} (a : α) : M α := fun m => .ok a m
def M.bind {α β : Type} (x : M α) (f : α → M β) : M β := fun m => (x m).bind f
instance : Monad M where
  pure := M.pure
  bind := M.bind
def bad {α : Type} : M α := fun _ => .bad
def raise {α : Type} (c : Str) (fs : List (Str × D)) : M α := fun m => .exc c fs m

/-! ### data in the heap -/
section
variable (K : PySem.W.Frag) (B : Hp)
mutual
def Rep : D → V → Prop
  | .non, v => v = .non
  | .bl b, v => v = .bl b
  | .int i, v => v = .int i
  | .str x, v => v = .str x
  | .ty n, v => v = .ty n
  | .gl x, v => v = .ref (He.ga K x)
  | .scr ns, v => ∃ a, v = .ref a ∧ SqL K B a (ns.map V.int)
  | .lst ds, v => ∃ a xs, v = .ref a ∧ B a = some (.lst xs) ∧ RepL ds xs
  | .tup ds, v => ∃ a xs, v = .ref a ∧ B a = some (.tup xs) ∧ RepL ds xs
  | .dk kvs, v => ∃ a ps, v = .ref a ∧ B a = some (.dK ps) ∧ RepK kvs ps
  | .dt kvs, v => ∃ a ps, v = .ref a ∧ B a = some (.dT ps) ∧ RepT kvs ps
  | .rng lo hi, v => ∃ a, v = .ref a ∧ B a = some (.rng lo hi)
  | .ob C fs, v => ∃ a dx ps, v = .ref a ∧ B a = some (.ins (He.ga K C) dx ps) ∧ RepF fs ps
  | .ex C, v => ∃ a, v = .ref a ∧ B a = some (ExO (.ref (He.ga K C)) a)
  | .exA C f d, v => ∃ a dx y, v = .ref a ∧ B a = some (exo a (He.ga K C) (some dx)) ∧ B dx = some (exd dx [(f, y)]) ∧ Rep d y
def RepL : List D → List V → Prop
  | [], xs => xs = []
  | d :: ds, xs => ∃ x r, xs = x :: r ∧ Rep d x ∧ RepL ds r
def RepK : List (Key × D) → List (Key × V) → Prop
  | [], xs => xs = []
  | (k, d) :: ds, xs => ∃ x r, xs = (k, x) :: r ∧ Rep d x ∧ RepK ds r
def RepT : List (List Key × D) → List (List Key × V) → Prop
  | [], xs => xs = []
  | (k, d) :: ds, xs => ∃ x r, xs = (k, x) :: r ∧ Rep d x ∧ RepT ds r
def RepF : List (Str × D) → List (Str × V) → Prop
  | [], xs => xs = []
  | (k, d) :: ds, xs => ∃ x r, xs = (k, x) :: r ∧ Rep d x ∧ RepF ds r
end
end
/-- what stood stands -/
def Sub (B B' : Hp) : Prop := ∀ a o, B a = some o → B' a = some o
theorem Sub.refl (B : Hp) : Sub B B := fun _ _ h => h
theorem Sub.trans {A B C : Hp} (h : Sub A B) (g : Sub B C) : Sub A C := fun a o e => g a o (h a o e)
theorem Sub.upd {B : Hp} {p : Addr} {o : HO} (h : B p = none) : Sub B (upd B p o) := fun a u e => by
  rw [upd_ne (ne_of_none e h)]
  exact e
theorem Sub.rd {B B' : Hp} (e : Sub B B') {a : Addr} {u : HO} (h : Rd B a u) : Rd B' a u := by
  rcases h with h | ⟨o, h⟩
  · exact Or.inl (e a _ h)
  · exact Or.inr ⟨o, e a _ h⟩
theorem Sub.l {K : PySem.W.Frag} {B B' : Hp} (e : Sub B B') {a : Addr} {xs : List V} (h : SqL K B a xs) : SqL K B' a xs := by
  rcases h with h | h
  · exact Or.inl (e.rd h)
  · exact Or.inr h
theorem Sub.t {K : PySem.W.Frag} {B B' : Hp} (e : Sub B B') {a : Addr} {xs : List V} (h : SqT K B a xs) : SqT K B' a xs := by
  rcases h with h | h
  · exact Or.inl (e.rd h)
  · exact Or.inr h
section
variable {K : PySem.W.Frag} {B B' : Hp}
mutual
theorem Rep.mono (e : Sub B B') : ∀ {d : D} {v : V}, Rep K B d v → Rep K B' d v
  | .non, _, h => h
  | .bl _, _, h => h
  | .int _, _, h => h
  | .str _, _, h => h
  | .ty _, _, h => h
  | .gl _, _, h => h
  | .scr _, _, h => by
    obtain ⟨a, h1, h2⟩ := h
    exact ⟨a, h1, e.l h2⟩
  | .lst _, _, h => by
    obtain ⟨a, xs, h1, h2, h3⟩ := h
    exact ⟨a, xs, h1, e _ _ h2, RepL.mono e h3⟩
  | .tup _, _, h => by
    obtain ⟨a, xs, h1, h2, h3⟩ := h
    exact ⟨a, xs, h1, e _ _ h2, RepL.mono e h3⟩
  | .dk _, _, h => by
    obtain ⟨a, ps, h1, h2, h3⟩ := h
    exact ⟨a, ps, h1, e _ _ h2, RepK.mono e h3⟩
  | .dt _, _, h => by
    obtain ⟨a, ps, h1, h2, h3⟩ := h
    exact ⟨a, ps, h1, e _ _ h2, RepT.mono e h3⟩
  | .rng _ _, _, h => by
    obtain ⟨a, h1, h2⟩ := h
    exact ⟨a, h1, e _ _ h2⟩
  | .ob _ _, _, h => by
    obtain ⟨a, dx, ps, h1, h2, h3⟩ := h
    exact ⟨a, dx, ps, h1, e _ _ h2, RepF.mono e h3⟩
  | .ex _, _, h => by
    obtain ⟨a, h1, h2⟩ := h
    exact ⟨a, h1, e _ _ h2⟩
  | .exA _ _ _, _, h => by
    obtain ⟨a, dx, y, h1, h2, h3, h4⟩ := h
    exact ⟨a, dx, y, h1, e _ _ h2, e _ _ h3, Rep.mono e h4⟩
theorem RepL.mono (e : Sub B B') : ∀ {ds : List D} {xs : List V}, RepL K B ds xs → RepL K B' ds xs
  | [], _, h => h
  | _ :: _, _, h => by
    obtain ⟨x, r, h1, h2, h3⟩ := h
    exact ⟨x, r, h1, Rep.mono e h2, RepL.mono e h3⟩
theorem RepK.mono (e : Sub B B') : ∀ {ds : List (Key × D)} {xs : List (Key × V)}, RepK K B ds xs → RepK K B' ds xs
  | [], _, h => h
  | (_, _) :: _, _, h => by
    obtain ⟨x, r, h1, h2, h3⟩ := h
    exact ⟨x, r, h1, Rep.mono e h2, RepK.mono e h3⟩
theorem RepT.mono (e : Sub B B') : ∀ {ds : List (List Key × D)} {xs : List (List Key × V)}, RepT K B ds xs → RepT K B' ds xs
  | [], _, h => h
  | (_, _) :: _, _, h => by
    obtain ⟨x, r, h1, h2, h3⟩ := h
    exact ⟨x, r, h1, Rep.mono e h2, RepT.mono e h3⟩
theorem RepF.mono (e : Sub B B') : ∀ {ds : List (Str × D)} {xs : List (Str × V)}, RepF K B ds xs → RepF K B' ds xs
  | [], _, h => h
  | (_, _) :: _, _, h => by
    obtain ⟨x, r, h1, h2, h3⟩ := h
    exact ⟨x, r, h1, Rep.mono e h2, RepF.mono e h3⟩
end
theorem RepL.length : ∀ {ds : List D} {xs : List V}, RepL K B ds xs → xs.length = ds.length
  | [], _, h => by rw [show _ = [] from h] <;> rfl
  | _ :: _, _, h => by
    obtain ⟨x, r, h1, _, h3⟩ := h
    rw [h1, List.length_cons, List.length_cons, RepL.length h3]
theorem RepL.append : ∀ {ds es : List D} {xs ys : List V}, RepL K B ds xs → RepL K B es ys → RepL K B (ds ++ es) (xs ++ ys)
  | [], _, _, _, h, g => by
    rw [show _ = [] from h]
    exact g
  | _ :: _, _, _, _, h, g => by
    obtain ⟨x, r, h1, h2, h3⟩ := h
    rw [h1]
    exact ⟨x, _, rfl, h2, RepL.append h3 g⟩
theorem RepL.one {d : D} {v : V} (h : Rep K B d v) : RepL K B [d] [v] := ⟨v, [], rfl, h, rfl⟩
theorem RepL.get : ∀ {ds : List D} {xs : List V} {i : Nat} {d : D}, RepL K B ds xs → ds[i]? = some d → ∃ v, xs[i]? = some v ∧ Rep K B d v
  | [], _, _, _, _, e => by simp at e
  | _ :: _, _, 0, _, h, e => by
    obtain ⟨x, r, h1, h2, h3⟩ := h
    simp at e
    subst e
    exact ⟨x, by simp [h1], h2⟩
  | _ :: _, _, i + 1, _, h, e => by
    obtain ⟨x, r, h1, h2, h3⟩ := h
    obtain ⟨v, g1, g2⟩ := RepL.get (i := i) h3 (by simpa using e)
    exact ⟨v, by simpa [h1] using g1, g2⟩
theorem RepL.getV : ∀ {ds : List D} {xs : List V} {i : Nat} {v : V}, RepL K B ds xs → xs[i]? = some v → ∃ d, ds[i]? = some d ∧ Rep K B d v
  | [], _, _, _, h, e => by
    rw [show _ = [] from h] at e
    simp at e
  | d :: _, _, 0, _, h, e => by
    obtain ⟨x, r, h1, h2, h3⟩ := h
    subst h1
    simp at e
    subst e
    exact ⟨d, by simp, h2⟩
  | _ :: _, _, i + 1, _, h, e => by
    obtain ⟨x, r, h1, h2, h3⟩ := h
    subst h1
    obtain ⟨v, g1, g2⟩ := RepL.getV (i := i) h3 (by simpa using e)
    exact ⟨v, by simpa using g1, g2⟩
theorem RepL.take : ∀ (n : Nat) {ds : List D} {xs : List V}, RepL K B ds xs → RepL K B (ds.take n) (xs.take n)
  | 0, _, _, _ => by simp [RepL]
  | _ + 1, [], _, h => by
    rw [show _ = [] from h]
    simp [RepL]
  | n + 1, _ :: _, _, h => by
    obtain ⟨x, r, h1, h2, h3⟩ := h
    subst h1
    exact ⟨x, r.take n, rfl, h2, RepL.take n h3⟩
theorem RepL.drop : ∀ (n : Nat) {ds : List D} {xs : List V}, RepL K B ds xs → RepL K B (ds.drop n) (xs.drop n)
  | 0, _, _, h => h
  | _ + 1, [], _, h => by
    rw [show _ = [] from h]
    simp [RepL]
  | n + 1, _ :: _, _, h => by
    obtain ⟨x, r, h1, h2, h3⟩ := h
    subst h1
    exact RepL.drop n h3
theorem RepL.set : ∀ (i : Nat) {ds : List D} {xs : List V} {d : D} {v : V}, Rep K B d v → RepL K B ds xs → RepL K B (ds.set i d) (xs.set i v)
  | _, [], _, _, _, _, h => by
    rw [show _ = [] from h]
    simp [RepL]
  | 0, _ :: _, _, _, _, q, h => by
    obtain ⟨x, r, h1, h2, h3⟩ := h
    subst h1
    exact ⟨_, r, rfl, q, h3⟩
  | i + 1, _ :: _, _, _, _, q, h => by
    obtain ⟨x, r, h1, h2, h3⟩ := h
    subst h1
    exact ⟨x, _, rfl, h2, RepL.set i q h3⟩
theorem RepL.eraseIdx : ∀ (i : Nat) {ds : List D} {xs : List V}, RepL K B ds xs → RepL K B (ds.eraseIdx i) (xs.eraseIdx i)
  | _, [], _, h => by
    rw [show _ = [] from h]
    simp [RepL]
  | 0, _ :: _, _, h => by
    obtain ⟨x, r, h1, h2, h3⟩ := h
    subst h1
    exact h3
  | i + 1, _ :: _, _, h => by
    obtain ⟨x, r, h1, h2, h3⟩ := h
    subst h1
    exact ⟨x, _, rfl, h2, RepL.eraseIdx i h3⟩
theorem RepL.ints : ∀ (ns : List Int), RepL K B (ns.map D.int) (ns.map V.int)
  | [] => rfl
  | n :: ns => ⟨.int n, _, rfl, rfl, RepL.ints ns⟩
theorem RepL.eq_ints : ∀ {ns : List Int} {xs : List V}, RepL K B (ns.map D.int) xs → xs = ns.map V.int
  | [], _, h => h
  | n :: ns, _, h => by
    obtain ⟨x, r, h1, h2, h3⟩ := h
    rw [h1, show x = .int n from h2, RepL.eq_ints h3] <;> rfl
theorem RepL.reverse {ds : List D} {xs : List V} (h : RepL K B ds xs) : RepL K B ds.reverse xs.reverse := by
  induction ds generalizing xs with
  | nil =>
    rw [show xs = [] from h]
    exact rfl
  | cons d ds ih =>
    obtain ⟨x, r, h1, h2, h3⟩ := h
    subst h1
    rw [List.reverse_cons, List.reverse_cons]
    exact (ih h3).append (RepL.one h2)
end

/-! ### the changing objects -/
def own (ρ : Rho) (a : Addr) : Prop := ∃ p ∈ ρ, a = p.1 ∨ a ∈ p.2
theorem own_app {ρ σ : Rho} {a : Addr} (h : own ρ a) : own (ρ ++ σ) a := by
  obtain ⟨p, hp, q⟩ := h
  exact ⟨p, List.mem_append_left _ hp, q⟩
def kDraw (l c : Addr) (re tu : Int) : List (Key × V) := [(.inr "large", .ref l), (.inr "rest", .int re), (.inr "cells", .ref c), (.inr "turn", .int tu)]
def MOk (K : PySem.W.Frag) (B H : Hp) (p : Addr × List Addr) : MO → Prop
  | .lst ds => B p.1 = none ∧ p.2 = [] ∧ ∃ xs, H p.1 = some (.lst xs) ∧ RepL K B ds xs
  | .dk kvs => B p.1 = none ∧ p.2 = [] ∧ ∃ ps, H p.1 = some (.dK ps) ∧ RepK K B kvs ps
  | .dt kvs => B p.1 = none ∧ p.2 = [] ∧ ∃ ps, H p.1 = some (.dT ps) ∧ RepT K B kvs ps
  | .ob C fs => B p.1 = none ∧ ∃ dx ps, p.2 = [dx] ∧ B dx = none ∧ H dx = some (.own p.1) ∧ H p.1 = some (.ins (He.ga K C) dx ps) ∧ RepF K B fs ps
  | .drw la re ce tu => B p.1 = none ∧ ∃ l c, p.2 = [l] ∧ B l = none ∧ p.1 ≠ l ∧ H p.1 = some (.dK (kDraw l c re tu)) ∧ H l = some (.lst (la.map V.int)) ∧ B c = some (.lst (ce.map V.int))
  | .fz d => Rep K B d (.ref p.1) ∧ ∀ a, (a = p.1 ∨ a ∈ p.2) → B a ≠ none
/-- the stores and the heap -/
structure Sim (K : PySem.W.Frag) (B : Hp) (ρ : Rho) (m : Mem) (H : Hp) : Prop where
  ex : Sub B H
  len : ρ.length = m.length
  nd : ∀ (i j : Nat) (p q : Addr × List Addr), ρ[i]? = some p → ρ[j]? = some q → i ≠ j → ∀ a, (a = p.1 ∨ a ∈ p.2) → ¬ (a = q.1 ∨ a ∈ q.2)
  mo : ∀ (i : Nat) (p : Addr × List Addr) (o : MO), ρ[i]? = some p → m[i]? = some o → MOk K B H p o
/-- a step -/
structure Ste (B : Hp) (ρ : Rho) (H B' : Hp) (ρ' : Rho) (H' : Hp) : Prop where
  bb : Sub B B'
  rr : ∃ more, ρ' = ρ ++ more
  kp : ∀ a o, H a = some o → ¬ own ρ a → H' a = some o
  nw : ∀ a, own ρ' a → own ρ a ∨ H a = none
  bn : ∀ a, B' a ≠ none → B a ≠ none ∨ own ρ a ∨ H a = none
theorem Ste.refl (B : Hp) (ρ : Rho) (H : Hp) : Ste B ρ H B ρ H := ⟨Sub.refl B, ⟨[], by simp⟩, fun _ _ h _ => h, fun _ h => .inl h, fun _ h => .inl h⟩
theorem Ste.free {B : Hp} {ρ : Rho} {H B' : Hp} {ρ' : Rho} {H' : Hp} (s : Ste B ρ H B' ρ' H') {a : Addr} (h : H' a = none) : own ρ a ∨ H a = none := by
  cases e : H a with
  | none => exact .inr rfl
  | some o =>
    by_cases q : own ρ a
    · exact .inl q
    · have z := s.kp a o e q
      rw [h] at z
      cases z
theorem Ste.trans {B : Hp} {ρ : Rho} {H B1 : Hp} {ρ1 : Rho} {H1 B2 : Hp} {ρ2 : Rho} {H2 : Hp} (s : Ste B ρ H B1 ρ1 H1) (t : Ste B1 ρ1 H1 B2 ρ2 H2) : Ste B ρ H B2 ρ2 H2 := by
  refine ⟨s.bb.trans t.bb, ?_, fun a o e n => ?_, fun a q => ?_, fun a q => ?_⟩
  · obtain ⟨m1, e1⟩ := s.rr
    obtain ⟨m2, e2⟩ := t.rr
    exact ⟨m1 ++ m2, by rw [e2, e1, List.append_assoc]⟩
  · refine t.kp a o (s.kp a o e n) fun z => ?_
    rcases s.nw a z with z | z
    · exact n z
    · rw [e] at z
      cases z
  · rcases t.nw a q with z | z
    · exact s.nw a z
    · exact s.free z
  · rcases t.bn a q with z | z | z
    · exact s.bn a z
    · rcases s.nw a z with z | z
      · exact .inr (.inl z)
      · exact .inr (.inr z)
    · rcases s.free z with z | z
      · exact .inr (.inl z)
      · exact .inr (.inr z)
/-- a new thing that stands still -/
theorem Ste.new {B : Hp} {ρ : Rho} {H : Hp} {p : Addr} {o : HO} (hb : Sub B H) (h : H p = none) : Ste B ρ H (upd B p o) ρ (upd H p o) := by
  have hB : B p = none := by
    cases e : B p with
    | none => rfl
    | some u =>
      rw [hb _ _ e] at h
      cases h
  refine ⟨Sub.upd hB, ⟨[], by simp⟩, fun a u e _ => ?_, fun _ h => .inl h, fun a q => ?_⟩
  · rw [upd_ne (ne_of_none e h)]
    exact e
  · by_cases e : a = p
    · rw [e]
      exact .inr (.inr h)
    · rw [upd_ne e] at q
      exact .inl q
/-- a new object that was made and is forgotten, or is to be known later -/
theorem Ste.newH {B : Hp} {ρ : Rho} {H : Hp} {p : Addr} {o : HO} (h : H p = none) : Ste B ρ H B ρ (upd H p o) :=
  ⟨Sub.refl B, ⟨[], by simp⟩, fun a u e _ => by rw [upd_ne (ne_of_none e h)]; exact e, fun _ h => .inl h, fun _ h => .inl h⟩
section
variable {K : PySem.W.Frag} {B B' : Hp} {ρ : Rho} {m : Mem} {H H' : Hp}
theorem Sub.ne {B H : Hp} (e : Sub B H) {a : Addr} (h : B a ≠ none) : H a ≠ none := by
  cases q : B a with
  | none => exact absurd q h
  | some o => rw [e a o q]; simp
theorem MOk.owned {p : Addr × List Addr} {o : MO} (hb : Sub B H) (z : MOk K B H p o) {a : Addr} (q : a = p.1 ∨ a ∈ p.2) : H a ≠ none := by
  cases o with
  | lst ds =>
    obtain ⟨_, z2, xs, z3, _⟩ := z
    rcases q with q | q
    · rw [q, z3]; simp
    · rw [z2] at q; cases q
  | dk kvs =>
    obtain ⟨_, z2, xs, z3, _⟩ := z
    rcases q with q | q
    · rw [q, z3]; simp
    · rw [z2] at q; cases q
  | dt kvs =>
    obtain ⟨_, z2, xs, z3, _⟩ := z
    rcases q with q | q
    · rw [q, z3]; simp
    · rw [z2] at q; cases q
  | ob C fs =>
    obtain ⟨_, dx, ps, z2, _, z3, z4, _⟩ := z
    rcases q with q | q
    · rw [q, z4]; simp
    · rw [z2] at q
      rw [List.mem_singleton.mp q, z3]; simp
  | drw la re ce tu =>
    obtain ⟨_, l, c, z2, _, _, z4, z5, _⟩ := z
    rcases q with q | q
    · rw [q, z4]; simp
    · rw [z2] at q
      rw [List.mem_singleton.mp q, z5]; simp
  | fz d => exact hb.ne (z.2 a q)
theorem Sim.ownH (s : Sim K B ρ m H) {a : Addr} (h : own ρ a) : H a ≠ none := by
  obtain ⟨p, hp, q⟩ := h
  obtain ⟨i, hi, e⟩ := List.mem_iff_getElem.mp hp
  have ei : ρ[i]? = some p := by rw [List.getElem?_eq_getElem hi, e]
  have hm : i < m.length := by rw [← s.len]; exact hi
  exact (s.mo i p _ ei (List.getElem?_eq_getElem hm)).owned s.ex q
theorem Sim.nown (s : Sim K B ρ m H) {a : Addr} (h : H a = none) : ¬ own ρ a := fun q => s.ownH q h
theorem Sim.bnone (s : Sim K B ρ m H) {a : Addr} (h : H a = none) : B a = none := by
  cases e : B a with
  | none => rfl
  | some u =>
    rw [s.ex _ _ e] at h
    cases h
theorem own_at {i : Nat} {p : Addr × List Addr} (h : ρ[i]? = some p) {a : Addr} (q : a = p.1 ∨ a ∈ p.2) : own ρ a := ⟨p, List.mem_of_getElem? h, q⟩
theorem MOk.keep {p : Addr × List Addr} {o : MO} (z : MOk K B H p o) (hb : Sub B B') (hn : ∀ a, (a = p.1 ∨ a ∈ p.2) → B a = none → B' a = none) (hh : ∀ a u, (a = p.1 ∨ a ∈ p.2) → H a = some u → H' a = some u) : MOk K B' H' p o := by
  cases o with
  | lst ds =>
    obtain ⟨z1, z2, xs, z3, z4⟩ := z
    exact ⟨hn _ (.inl rfl) z1, z2, xs, hh _ _ (.inl rfl) z3, z4.mono hb⟩
  | dk kvs =>
    obtain ⟨z1, z2, xs, z3, z4⟩ := z
    exact ⟨hn _ (.inl rfl) z1, z2, xs, hh _ _ (.inl rfl) z3, z4.mono hb⟩
  | dt kvs =>
    obtain ⟨z1, z2, xs, z3, z4⟩ := z
    exact ⟨hn _ (.inl rfl) z1, z2, xs, hh _ _ (.inl rfl) z3, z4.mono hb⟩
  | ob C fs =>
    obtain ⟨z1, dx, ps, z2, z3, z4, z5, z6⟩ := z
    have hd : dx = p.1 ∨ dx ∈ p.2 := .inr (by rw [z2]; exact List.mem_singleton.mpr rfl)
    exact ⟨hn _ (.inl rfl) z1, dx, ps, z2, hn _ hd z3, hh _ _ hd z4, hh _ _ (.inl rfl) z5, z6.mono hb⟩
  | drw la re ce tu =>
    obtain ⟨z1, l, c, z2, z3, z4, z5, z6, z7⟩ := z
    have hd : l = p.1 ∨ l ∈ p.2 := .inr (by rw [z2]; exact List.mem_singleton.mpr rfl)
    exact ⟨hn _ (.inl rfl) z1, l, c, z2, hn _ hd z3, z4, hh _ _ (.inl rfl) z5, hh _ _ hd z6, hb _ _ z7⟩
  | fz d => exact ⟨z.1.mono hb, fun a q => hb.ne (z.2 a q)⟩
/-- new, standing still -/
theorem Sim.new {p : Addr} {o : HO} (s : Sim K B ρ m H) (h : H p = none) : Sim K (upd B p o) ρ m (upd H p o) := by
  refine ⟨fun a u e => ?_, s.len, s.nd, fun i q mo h1 h2 => ?_⟩
  · by_cases ea : a = p
    · rw [ea] at e ⊢
      rw [upd_same] at e ⊢
      exact e
    · rw [upd_ne ea] at e ⊢
      exact s.ex a u e
  · have ne : ∀ a, (a = q.1 ∨ a ∈ q.2) → a ≠ p := fun a z e => s.ownH (own_at h1 z) (e ▸ h)
    refine (s.mo i q mo h1 h2).keep (Sub.upd (s.bnone h)) (fun a z e => ?_) fun a u z e => ?_
    · rw [upd_ne (ne a z)]
      exact e
    · rw [upd_ne (ne a z)]
      exact e
/-- new, unknown -/
theorem Sim.newH {p : Addr} {o : HO} (s : Sim K B ρ m H) (h : H p = none) : Sim K B ρ m (upd H p o) := by
  refine ⟨s.ex.trans (Sub.upd h), s.len, s.nd, fun i q mo h1 h2 => ?_⟩
  have ne : ∀ a, (a = q.1 ∨ a ∈ q.2) → a ≠ p := fun a z e => s.ownH (own_at h1 z) (e ▸ h)
  exact (s.mo i q mo h1 h2).keep (Sub.refl B) (fun a z e => e) fun a u z e => by rw [upd_ne (ne a z)]; exact e
/-- an unknown object of ours changes -/
theorem Sim.chH {p : Addr} {o : HO} (s : Sim K B ρ m H) (hB : B p = none) (hn : ¬ own ρ p) : Sim K B ρ m (upd H p o) := by
  refine ⟨fun a u e => ?_, s.len, s.nd, fun i q mo h1 h2 => ?_⟩
  · rw [upd_ne (fun z => by rw [z, hB] at e; cases e)]
    exact s.ex a u e
  · have ne : ∀ a, (a = q.1 ∨ a ∈ q.2) → a ≠ p := fun a z e => hn (e ▸ own_at h1 z)
    exact (s.mo i q mo h1 h2).keep (Sub.refl B) (fun a z e => e) fun a u z e => by rw [upd_ne (ne a z)]; exact e
/-- an unknown object of ours stands still from now on -/
theorem Sim.still {p : Addr} {o : HO} (s : Sim K B ρ m H) (hB : B p = none) (hH : H p = some o) (hn : ¬ own ρ p) : Sim K (upd B p o) ρ m H := by
  refine ⟨fun a u e => ?_, s.len, s.nd, fun i q mo h1 h2 => ?_⟩
  · by_cases ea : a = p
    · rw [ea, upd_same] at e
      rw [ea, hH]
      exact e
    · rw [upd_ne ea] at e
      exact s.ex a u e
  · have ne : ∀ a, (a = q.1 ∨ a ∈ q.2) → a ≠ p := fun a z e => hn (e ▸ own_at h1 z)
    refine (s.mo i q mo h1 h2).keep (Sub.upd hB) (fun a z e => ?_) fun a u z e => e
    rw [upd_ne (ne a z)]
    exact e
theorem own_snoc {p : Addr × List Addr} {a : Addr} : own (ρ ++ [p]) a ↔ own ρ a ∨ (a = p.1 ∨ a ∈ p.2) := by
  constructor
  · rintro ⟨q, hq, z⟩
    rcases List.mem_append.mp hq with hq | hq
    · exact .inl ⟨q, hq, z⟩
    · rw [List.mem_singleton.mp hq] at z
      exact .inr z
  · rintro (h | h)
    · exact own_app h
    · exact ⟨p, List.mem_append_right _ (List.mem_singleton.mpr rfl), h⟩
theorem get_snoc {α : Type} {l : List α} {x y : α} {i : Nat} (h : (l ++ [x])[i]? = some y) : l[i]? = some y ∨ (i = l.length ∧ y = x) := by
  rcases Nat.lt_trichotomy i l.length with q | q | q
  · rw [List.getElem?_append_left q] at h
    exact .inl h
  · subst q
    simp at h
    exact .inr ⟨rfl, h.symm⟩
  · rw [List.getElem?_eq_none_iff.mpr (by simp; omega)] at h
    cases h
/-- an object of ours becomes one that may change -/
theorem Sim.push {p : Addr × List Addr} {o : MO} (s : Sim K B ρ m H) (hn : ∀ a, (a = p.1 ∨ a ∈ p.2) → ¬ own ρ a) (hk : MOk K B H p o) : Sim K B (ρ ++ [p]) (m ++ [o]) H := by
  refine ⟨s.ex, by simp [s.len], fun i j q r h1 h2 hij a z1 z2 => ?_, fun i q u h1 h2 => ?_⟩
  · rcases get_snoc h1 with g1 | ⟨g1, g1'⟩
    · rcases get_snoc h2 with g2 | ⟨g2, g2'⟩
      · exact s.nd i j q r g1 g2 hij a z1 z2
      · subst g2'
        exact hn a z2 (own_at g1 z1)
    · subst g1'
      rcases get_snoc h2 with g2 | ⟨g2, g2'⟩
      · exact hn a z1 (own_at g2 z2)
      · exact hij (g1.trans g2.symm)
  · rcases get_snoc h1 with g1 | ⟨g1, g1'⟩
    · have hi : i < m.length := by rw [← s.len]; exact (List.getElem?_eq_some_iff.mp g1).1
      rw [List.getElem?_append_left hi] at h2
      exact s.mo i q u g1 h2
    · subst g1'
      rw [g1, s.len] at h2
      simp at h2
      rw [← h2]
      exact hk
theorem Ste.push {p : Addr × List Addr} (hp : ∀ a, (a = p.1 ∨ a ∈ p.2) → own ρ a ∨ H a = none) (hk : ∀ a o, H a = some o → ¬ own ρ a → H' a = some o) : Ste B ρ H B (ρ ++ [p]) H' :=
  ⟨Sub.refl B, ⟨[p], rfl⟩, hk, fun a z => by
    rcases own_snoc.mp z with z | z
    · exact .inl z
    · exact hp a z, fun _ h => .inl h⟩
/-- the i-th object is written: the heap changes at it alone -/
theorem Sim.write {i : Nat} {p : Addr × List Addr} {o : MO} (s : Sim K B ρ m H) (hp : ρ[i]? = some p) (hB : ∀ a, (a = p.1 ∨ a ∈ p.2) → B a = none) (hh : ∀ a u, ¬ (a = p.1 ∨ a ∈ p.2) → H a = some u → H' a = some u) (hk : MOk K B H' p o) : Sim K B ρ (m.set i o) H' := by
  refine ⟨fun a u e => hh a u (fun z => by rw [hB a z] at e; cases e) (s.ex a u e), by rw [List.length_set]; exact s.len, s.nd, fun j q u h1 h2 => ?_⟩
  by_cases ej : j = i
  · subst ej
    rw [hp] at h1
    cases h1
    rw [List.getElem?_set_self (by rw [← s.len]; exact (List.getElem?_eq_some_iff.mp hp).1)] at h2
    cases h2
    exact hk
  · rw [List.getElem?_set_ne (Ne.symm ej)] at h2
    exact (s.mo j q u h1 h2).keep (Sub.refl B) (fun a z e => e) fun a v z e => hh a v (s.nd j i q p h1 hp ej a z) e
theorem Ste.write {p : Addr × List Addr} {i : Nat} (hp : ρ[i]? = some p) (hh : ∀ a u, ¬ (a = p.1 ∨ a ∈ p.2) → H a = some u → H' a = some u) : Ste B ρ H B ρ H' :=
  ⟨Sub.refl B, ⟨[], by simp⟩, fun a o e n => hh a o (fun z => n (own_at hp z)) e, fun _ h => .inl h, fun _ h => .inl h⟩
/-- the i-th object stands still from now on -/
theorem Sim.freeze {i : Nat} {p : Addr × List Addr} {d : D} {o : HO} (s : Sim K B ρ m H) (hp : ρ[i]? = some p) (hB : B p.1 = none) (h2 : p.2 = []) (hH : H p.1 = some o) (hr : Rep K (upd B p.1 o) d (.ref p.1)) :
    Sim K (upd B p.1 o) ρ (m.set i (.fz d)) H := by
  refine ⟨fun a u e => ?_, by rw [List.length_set]; exact s.len, s.nd, fun j q u h1 h3 => ?_⟩
  · by_cases ea : a = p.1
    · rw [ea, upd_same] at e
      rw [ea, hH]
      exact e
    · rw [upd_ne ea] at e
      exact s.ex a u e
  · by_cases ej : j = i
    · subst ej
      rw [hp] at h1
      cases h1
      rw [List.getElem?_set_self (by rw [← s.len]; exact (List.getElem?_eq_some_iff.mp hp).1)] at h3
      cases h3
      refine ⟨hr, fun a z => ?_⟩
      rcases z with z | z
      · rw [z, upd_same]; simp
      · rw [h2] at z; cases z
    · rw [List.getElem?_set_ne (Ne.symm ej)] at h3
      have ne : ∀ a, (a = q.1 ∨ a ∈ q.2) → a ≠ p.1 := fun a z e => s.nd j i q p h1 hp ej a z (.inl e)
      refine (s.mo j q u h1 h3).keep (Sub.upd hB) (fun a z e => ?_) fun a v z e => e
      rw [upd_ne (ne a z)]
      exact e
theorem Ste.freeze {p : Addr × List Addr} {i : Nat} {o : HO} (hp : ρ[i]? = some p) (hB : B p.1 = none) : Ste B ρ H (upd B p.1 o) ρ H :=
  ⟨Sub.upd hB, ⟨[], by simp⟩, fun a u e _ => e, fun _ h => .inl h, fun a q => by
    by_cases e : a = p.1
    · rw [e]
      exact .inr (.inl (own_at hp (.inl rfl)))
    · rw [upd_ne e] at q
      exact .inl q⟩
/-- what a def made is forgotten -/
theorem Sim.trunc {more : Rho} (s : Sim K B (ρ ++ more) m H) : Sim K B ρ (m.take ρ.length) H := by
  have hl : ρ.length ≤ m.length := by
    have := s.len
    rw [List.length_append] at this
    omega
  have at_ : ∀ {i : Nat} {p : Addr × List Addr}, ρ[i]? = some p → (ρ ++ more)[i]? = some p := fun {i p} h => by
    rw [List.getElem?_append_left (List.getElem?_eq_some_iff.mp h).1]
    exact h
  refine ⟨s.ex, by rw [List.length_take]; omega, fun i j p q h1 h2 => s.nd i j p q (at_ h1) (at_ h2), fun i p o h1 h2 => s.mo i p o (at_ h1) ?_⟩
  rw [List.getElem?_take] at h2
  split at h2
  · exact h2
  · cases h2
theorem Ste.trunc {B' : Hp} {ρ' : Rho} (s : Ste B ρ H B' ρ' H') : Ste B ρ H B' ρ H' := ⟨s.bb, ⟨[], by simp⟩, s.kp, fun _ h => .inl h, s.bn⟩
end

/-- an object that the step has made stands still from now on -/
theorem Ste.still {B : Hp} {ρ : Rho} {H B' : Hp} {ρ' : Rho} {H' : Hp} (t : Ste B ρ H B' ρ' H') {p : Addr} {o : HO} (h : H p = none) (hB : B' p = none) : Ste B ρ H (upd B' p o) ρ' H' :=
  ⟨t.bb.trans (Sub.upd hB), t.rr, t.kp, t.nw, fun a q => by
    by_cases e : a = p
    · rw [e]
      exact .inr (.inr h)
    · rw [upd_ne e] at q
      exact t.bn a q⟩
/-- .. may change from now on -/
theorem Ste.moves {B : Hp} {ρ : Rho} {H B' : Hp} {ρ' : Rho} {H' : Hp} (t : Ste B ρ H B' ρ' H') {p : Addr} (h : H p = none) : Ste B ρ H B' (ρ' ++ [(p, [])]) H' := by
  obtain ⟨more, e⟩ := t.rr
  refine ⟨t.bb, ⟨more ++ [(p, [])], by rw [e, List.append_assoc]⟩, t.kp, fun a z => ?_, t.bn⟩
  rcases own_snoc.mp z with z | z
  · exact t.nw a z
  · rcases z with z | z
    · rw [z]
      exact .inr h
    · cases z
/-! ### what is wanted of a result -/
def ExR (K : PySem.W.Frag) (B : Hp) (fs : List (Str × D)) (dx : Option Addr) : Prop := (fs = [] ∧ dx = none) ∨ ∃ a ps, dx = some a ∧ B a = some (.xd ps) ∧ RepF K B fs ps
/-- r ends as wished from the stores B, ρ and the heap H on -/
def Wt (K : PySem.W.Frag) (B : Hp) (ρ : Rho) (H : Hp) (E : XK) {α : Type} (P : α → Hp → Rho → Mem → Hp → Prop) : Out α → Prop
  | .ok a m' => ∀ B' ρ' H', Ste B ρ H B' ρ' H' → Sim K B' ρ' m' H' → P a B' ρ' m' H'
  | .exc c fs m' => ∀ B' ρ' H' dx, Ste B ρ H B' ρ' H' → Sim K B' ρ' m' H' → ExR K B' fs dx → E (.ref (He.ga K c)) dx H'
  | .bad => False
section
variable {K : PySem.W.Frag} {B B' : Hp} {ρ ρ' : Rho} {m m' : Mem} {H H' : Hp} {E : XK} {α β : Type}
theorem Wt.trans {P : α → Hp → Rho → Mem → Hp → Prop} {r : Out α} (h : Wt K B ρ H E P r) (s : Ste B ρ H B' ρ' H') : Wt K B' ρ' H' E P r := by
  cases r with
  | ok a m' => exact fun B2 ρ2 H2 s2 => h B2 ρ2 H2 (s.trans s2)
  | exc c fs m' => exact fun B2 ρ2 H2 dx s2 => h B2 ρ2 H2 dx (s.trans s2)
  | bad => exact h
theorem Wt.bind {P : β → Hp → Rho → Mem → Hp → Prop} {r : Out α} {f : α → M β} (h : Wt K B ρ H E P (r.bind f)) :
    Wt K B ρ H E (fun a B' ρ' m' H' => Wt K B' ρ' H' E P (f a m')) r := by
  cases r with
  | ok a m' => exact fun B2 ρ2 H2 s2 _ => Wt.trans (r := f a m') h s2
  | exc c fs m' => exact h
  | bad => exact h
theorem Wt.bind' {P : β → Hp → Rho → Mem → Hp → Prop} {P' : α → Hp → Rho → Mem → Hp → Prop} {r : Out α} {f : α → M β} (h : Wt K B ρ H E P (r.bind f))
    (k : ∀ a B' ρ' m' H', Ste B ρ H B' ρ' H' → Sim K B' ρ' m' H' → Wt K B' ρ' H' E P (f a m') → P' a B' ρ' m' H') : Wt K B ρ H E P' r := by
  cases r with
  | ok a m' => exact fun B2 ρ2 H2 s2 z => k _ _ _ _ _ s2 z (Wt.trans (r := f a m') h s2)
  | exc c fs m' => exact h
  | bad => exact h
theorem Wt.bindO {P : β → Hp → Rho → Mem → Hp → Prop} {P' : α → Hp → Rho → Mem → Hp → Prop} {r : Out α} {f : α → M β} (h : Wt K B ρ H E P (r.bind f))
    (k : ∀ a B' ρ' m' H', Ste B ρ H B' ρ' H' → Sim K B' ρ' m' H' → Wt K B ρ H E P (f a m') → P' a B' ρ' m' H') : Wt K B ρ H E P' r := by
  cases r with
  | ok a m' => exact fun B2 ρ2 H2 s2 z => k _ _ _ _ _ s2 z h
  | exc c fs m' => exact h
  | bad => exact h
theorem Wt.ok {P : α → Hp → Rho → Mem → Hp → Prop} {a : α} (h : Wt K B ρ H E P (.ok a m)) (s : Sim K B ρ m H) : P a B ρ m H := h B ρ H (Ste.refl _ _ _) s
theorem Wt.ok' {P : α → Hp → Rho → Mem → Hp → Prop} {a : α} (h : Wt K B ρ H E P (.ok a m)) (t : Ste B ρ H B' ρ' H') (s : Sim K B' ρ' m H') : P a B' ρ' m H' := h B' ρ' H' t s
theorem Wt.mono {P P' : α → Hp → Rho → Mem → Hp → Prop} {r : Out α} (h : Wt K B ρ H E P r) (k : ∀ a B' ρ' m' H', P a B' ρ' m' H' → P' a B' ρ' m' H') : Wt K B ρ H E P' r := by
  cases r with
  | ok a m' => exact fun B2 ρ2 H2 s2 z => k _ _ _ _ _ (h B2 ρ2 H2 s2 z)
  | exc c fs m' => exact h
  | bad => exact h
end

/-! ### slots -/
def RepS (K : PySem.W.Frag) (B : Hp) (ρ : Rho) : S → V → Prop
  | .d x, v => Rep K B x v
  | .h n, v => ∃ p, ρ[n]? = some p ∧ v = .ref p.1
def RelS (K : PySem.W.Frag) (B : Hp) (ρ : Rho) (σ : St) (sd : SD) : Prop := σ.length = sd.length ∧ ∀ (i : Nat) s, sd[i]? = some (some s) → ∃ v, σ[i]? = some (some v) ∧ RepS K B ρ s v
def RepSL (K : PySem.W.Frag) (B : Hp) (ρ : Rho) : List S → List V → Prop
  | [], xs => xs = []
  | d :: ds, xs => ∃ x r, xs = x :: r ∧ RepS K B ρ d x ∧ RepSL K B ρ ds r
section
variable {K : PySem.W.Frag} {B B' : Hp} {ρ ρ' : Rho} {m m' : Mem} {H H' : Hp}
theorem RepS.ste {s : S} {v : V} (h : RepS K B ρ s v) (t : Ste B ρ H B' ρ' H') : RepS K B' ρ' s v := by
  cases s with
  | d x => exact Rep.mono t.bb h
  | h n =>
    obtain ⟨p, h1, h2⟩ := h
    obtain ⟨more, e⟩ := t.rr
    exact ⟨p, by rw [e, List.getElem?_append_left (List.getElem?_eq_some_iff.mp h1).1]; exact h1, h2⟩
theorem RelS.ste {σ : St} {sd : SD} (h : RelS K B ρ σ sd) (t : Ste B ρ H B' ρ' H') : RelS K B' ρ' σ sd := ⟨h.1, fun i s e => by
  obtain ⟨v, h1, h2⟩ := h.2 i s e
  exact ⟨v, h1, h2.ste t⟩⟩
theorem RepSL.ste : ∀ {ds : List S} {xs : List V}, RepSL K B ρ ds xs → Ste B ρ H B' ρ' H' → RepSL K B' ρ' ds xs
  | [], _, h, _ => h
  | _ :: _, _, h, t => by
    obtain ⟨x, r, h1, h2, h3⟩ := h
    exact ⟨x, r, h1, h2.ste t, RepSL.ste h3 t⟩
theorem RepSL.length : ∀ {ds : List S} {xs : List V}, RepSL K B ρ ds xs → xs.length = ds.length
  | [], _, h => by rw [show _ = [] from h] <;> rfl
  | _ :: _, _, h => by
    obtain ⟨x, r, h1, _, h3⟩ := h
    rw [h1, List.length_cons, List.length_cons, RepSL.length h3]
theorem RelS.set {σ : St} {sd : SD} {s : S} {v : V} (h : RelS K B ρ σ sd) (i : Nat) (q : RepS K B ρ s v) : RelS K B ρ (σ.set i (some v)) (sd.set i (some s)) := by
  refine ⟨by rw [List.length_set, List.length_set, h.1], fun j s' e => ?_⟩
  by_cases ej : j = i
  · subst ej
    by_cases hj : j < sd.length
    · rw [List.getElem?_set_self hj] at e
      cases e
      exact ⟨v, by rw [List.getElem?_set_self (by rw [h.1]; exact hj)], q⟩
    · rw [List.getElem?_eq_none_iff.mpr (by rw [List.length_set]; omega)] at e
      cases e
  · rw [List.getElem?_set_ne (Ne.symm ej)] at e ⊢
    exact h.2 j s' e
theorem RepSL.start : ∀ {ds : List S} {xs : List V}, RepSL K B ρ ds xs → ∀ k : Nat, RelS K B ρ (xs.map some ++ List.replicate k none) (ds.map some ++ List.replicate k none)
  | [], _, h, k => by
    rw [show _ = [] from h]
    refine ⟨by simp, fun i s e => ?_⟩
    simp [List.getElem?_replicate] at e
  | d :: ds, _, h, k => by
    obtain ⟨x, r, h1, h2, h3⟩ := h
    subst h1
    obtain ⟨l, g⟩ := RepSL.start h3 k
    refine ⟨by simpa using l, fun i s e => ?_⟩
    cases i with
    | zero =>
      simp at e
      subst e
      exact ⟨x, by simp, h2⟩
    | succ i =>
      obtain ⟨v, g1, g2⟩ := g i s (by simpa using e)
      exact ⟨v, by simpa using g1, g2⟩
end
end Mi

set_option Elab.async false
set_option linter.all false
set_option maxRecDepth 100000
set_option maxHeartbeats 4000000
/-! The layer Mi. Part 2: expressions. -/
namespace Mi
open PySem PySem.Spec PyProof.Rows L2
abbrev PD (K : PySem.W.Frag) (Q : VK) : D → Hp → Rho → Mem → Hp → Prop := fun d B' _ _ H' => ∀ v, Rep K B' d v → Q v H'
abbrev PSl (K : PySem.W.Frag) (Q : VK) : S → Hp → Rho → Mem → Hp → Prop := fun d B' ρ' _ H' => ∀ v, RepS K B' ρ' d v → Q v H'
abbrev PAl (K : PySem.W.Frag) (Q : List V → Hp → Prop) : List S → Hp → Rho → Mem → Hp → Prop := fun d B' ρ' _ H' => ∀ v, RepSL K B' ρ' d v → Q v H'
abbrev PBl (Q : Bool → Hp → Prop) : Bool → Hp → Rho → Mem → Hp → Prop := fun b _ _ _ H' => Q b H'
/-- a new list: its address is not known to the stores -/
abbrev PFl (K : PySem.W.Frag) (H : Hp) (Q : VK) : List D → Hp → Rho → Mem → Hp → Prop := fun ds B' ρ' _ H' => ∀ p xs, H p = none → B' p = none → ¬ own ρ' p → H' p = some (.lst xs) → RepL K B' ds xs → Q (.ref p) H'
/-- a list that is read, whatever it is -/
abbrev PRl (K : PySem.W.Frag) (Q : VK) : List D → Hp → Rho → Mem → Hp → Prop := fun ds B' ρ' _ H' => ∀ p xs, H' p = some (.lst xs) → RepL K B' ds xs → Q (.ref p) H'
/-- an expression: data; data or a changing object; a new list; a list to be read; a test; arguments -/
def SE (X : Cx) (E : XK) (e : Expr) (f : SD → M D) : Prop := ∃ t, PE X e t ∧ ∀ σ sd B ρ m H Q, Sim X.K B ρ m H → RelS X.K B ρ σ sd → Wt X.K B ρ H E (PD X.K Q) (f sd m) → t σ H Q
def SX (X : Cx) (E : XK) (e : Expr) (f : SD → M S) : Prop := ∃ t, PE X e t ∧ ∀ σ sd B ρ m H Q, Sim X.K B ρ m H → RelS X.K B ρ σ sd → Wt X.K B ρ H E (PSl X.K Q) (f sd m) → t σ H Q
def SF (X : Cx) (E : XK) (e : Expr) (f : SD → M (List D)) : Prop := ∃ t, PE X e t ∧ ∀ σ sd B ρ m H Q, Sim X.K B ρ m H → RelS X.K B ρ σ sd → Wt X.K B ρ H E (PFl X.K H Q) (f sd m) → t σ H Q
def SR (X : Cx) (E : XK) (e : Expr) (f : SD → M (List D)) : Prop := ∃ t, PE X e t ∧ ∀ σ sd B ρ m H Q, Sim X.K B ρ m H → RelS X.K B ρ σ sd → Wt X.K B ρ H E (PRl X.K Q) (f sd m) → t σ H Q
def ST (X : Cx) (E : XK) (e : Expr) (f : SD → M Bool) : Prop := ∃ t, PT X e t ∧ ∀ σ sd B ρ m H Q, Sim X.K B ρ m H → RelS X.K B ρ σ sd → Wt X.K B ρ H E (PBl Q) (f sd m) → t σ H Q
def SW (X : Cx) (E : XK) (e : Expr) (f : SD → M Bool) : Prop := ∃ t, PW X e t ∧ ∀ σ sd B ρ m H Q, Sim X.K B ρ m H → RelS X.K B ρ σ sd → Wt X.K B ρ H E (PBl Q) (f sd m) → t σ H Q
def SA (X : Cx) (E : XK) (es : List Expr) (f : SD → M (List S)) : Prop := ∃ t, PA X es t ∧ ∀ σ sd B ρ m H Q, Sim X.K B ρ m H → RelS X.K B ρ σ sd → Wt X.K B ρ H E (PAl X.K Q) (f sd m) → t σ H Q

/-! ### names -/
/-- frozen where it may change -/
def fzH (n : Nat) : M D := fun m => match m[n]? with
  | some (.lst ds) => .ok (.lst ds) (m.set n (.fz (.lst ds)))
  | some (.dk ds) => .ok (.dk ds) (m.set n (.fz (.dk ds)))
  | some (.dt ds) => .ok (.dt ds) (m.set n (.fz (.dt ds)))
  | some (.fz d) => .ok d m
  | _ => .bad
def fzS : S → M D
  | .d x => M.pure x
  | .h n => fzH n
def getS (i : Nat) (sd : SD) : M S := match sd[i]? with
  | some (some s) => M.pure s
  | _ => bad
def getD (i : Nat) (sd : SD) : M D := match sd[i]? with
  | some (some s) => fzS s
  | _ => bad
/-- the items of what a name holds -/
def rdS : S → M (List D)
  | .d (.lst ds) => M.pure ds
  | .h n => fun m => match m[n]? with
    | some (.lst ds) => .ok ds m
    | some (.fz (.lst ds)) => .ok ds m
    | _ => .bad
  | _ => bad
def getR (i : Nat) (sd : SD) : M (List D) := match sd[i]? with
  | some (some s) => rdS s
  | _ => bad
section
variable {X : Cx} {E : XK} {K : PySem.W.Frag} {B : Hp} {ρ : Rho} {m : Mem} {H : Hp}
theorem Sim.at_ {n : Nat} {p : Addr × List Addr} (s : Sim K B ρ m H) (h : ρ[n]? = some p) : ∃ o, m[n]? = some o ∧ MOk K B H p o := by
  have hm : n < m.length := by rw [← s.len]; exact (List.getElem?_eq_some_iff.mp h).1
  exact ⟨m[n], List.getElem?_eq_getElem hm, s.mo n p _ h (List.getElem?_eq_getElem hm)⟩
theorem fz_ok {s : S} {v : V} {Q : VK} (hs : Sim K B ρ m H) (r : RepS K B ρ s v) (w : Wt K B ρ H E (PD K Q) (fzS s m)) : Q v H := by
  cases s with
  | d x => exact Wt.ok (m := m) w hs v r
  | h n =>
    obtain ⟨p, h1, rfl⟩ := r
    obtain ⟨o, h2, h3⟩ := hs.at_ h1
    have w2 : Wt K B ρ H E (PD K Q) (fzH n m) := w
    unfold fzH at w2
    rw [h2] at w2
    cases o with
    | lst ds =>
      obtain ⟨z1, z2, xs, z3, z4⟩ := h3
      have hr : Rep K (upd B p.1 (.lst xs)) (.lst ds) (.ref p.1) := ⟨_, xs, rfl, upd_same, z4.mono (Sub.upd z1)⟩
      exact Wt.ok' w2 (Ste.freeze h1 z1) (hs.freeze h1 z1 z2 z3 hr) _ hr
    | dk ds =>
      obtain ⟨z1, z2, xs, z3, z4⟩ := h3
      have hr : Rep K (upd B p.1 (.dK xs)) (.dk ds) (.ref p.1) := ⟨_, xs, rfl, upd_same, z4.mono (Sub.upd z1)⟩
      exact Wt.ok' w2 (Ste.freeze h1 z1) (hs.freeze h1 z1 z2 z3 hr) _ hr
    | dt ds =>
      obtain ⟨z1, z2, xs, z3, z4⟩ := h3
      have hr : Rep K (upd B p.1 (.dT xs)) (.dt ds) (.ref p.1) := ⟨_, xs, rfl, upd_same, z4.mono (Sub.upd z1)⟩
      exact Wt.ok' w2 (Ste.freeze h1 z1) (hs.freeze h1 z1 z2 z3 hr) _ hr
    | fz d => exact Wt.ok w2 hs _ h3.1
    | ob C fs => exact w2.elim
    | drw _ _ _ _ => exact w2.elim
theorem se_var {i : Nat} {x : Str} {pos : Pos} (hN : X.N[i]? = some x := by rfl) (hv : Vis X.env.scope x := by first | exact Or.inl rfl | exact Or.inr (Or.inl rfl) | exact Or.inr (Or.inr rfl)) (hd : (x == ("__debug__" : Str)) = false := by decide)
    (hcd : (x == ("__classdict__" : Str)) = false := by decide) : SE X E (.Name x pos) (getD i) := by
  refine ⟨_, pe_var hN hv hd hcd, fun σ sd B ρ m H Q s rl w => ?_⟩
  unfold getD at w
  cases e : sd[i]? with
  | none => rw [e] at w; exact w.elim
  | some o =>
    rw [e] at w
    cases o with
    | none => exact w.elim
    | some z =>
      obtain ⟨v, h1, h2⟩ := rl.2 i z e
      exact ⟨v, h1, fz_ok s h2 w⟩
theorem sx_var {i : Nat} {x : Str} {pos : Pos} (hN : X.N[i]? = some x := by rfl) (hv : Vis X.env.scope x := by first | exact Or.inl rfl | exact Or.inr (Or.inl rfl) | exact Or.inr (Or.inr rfl)) (hd : (x == ("__debug__" : Str)) = false := by decide)
    (hcd : (x == ("__classdict__" : Str)) = false := by decide) : SX X E (.Name x pos) (getS i) := by
  refine ⟨_, pe_var hN hv hd hcd, fun σ sd B ρ m H Q s rl w => ?_⟩
  unfold getS at w
  cases e : sd[i]? with
  | none => rw [e] at w; exact w.elim
  | some o =>
    rw [e] at w
    cases o with
    | none => exact w.elim
    | some z =>
      obtain ⟨v, h1, h2⟩ := rl.2 i z e
      exact ⟨v, h1, Wt.ok (m := m) w s v h2⟩
theorem rd_ok {s : S} {v : V} {Q : VK} (hs : Sim K B ρ m H) (r : RepS K B ρ s v) (w : Wt K B ρ H E (PRl K Q) (rdS s m)) : Q v H := by
  cases s with
  | d x =>
    cases x with
    | lst ds =>
      obtain ⟨a, xs, rfl, h2, h3⟩ := r
      exact Wt.ok (m := m) w hs a xs (hs.ex _ _ h2) h3
    | _ => exact w.elim
  | h n =>
    obtain ⟨p, h1, rfl⟩ := r
    obtain ⟨o, h2, h3⟩ := hs.at_ h1
    have w2 : Wt K B ρ H E (PRl K Q) (match m[n]? with | some (.lst ds) => .ok ds m | some (.fz (.lst ds)) => .ok ds m | _ => .bad) := w
    rw [h2] at w2
    cases o with
    | lst ds =>
      obtain ⟨z1, z2, xs, z3, z4⟩ := h3
      exact Wt.ok w2 hs _ _ z3 z4
    | fz d =>
      cases d with
      | lst ds =>
        obtain ⟨⟨a, xs, e, z3, z4⟩, _⟩ := h3
        cases e
        exact Wt.ok w2 hs _ _ (hs.ex _ _ z3) z4
      | _ => exact w2.elim
    | _ => exact w2.elim
theorem sr_var {i : Nat} {x : Str} {pos : Pos} (hN : X.N[i]? = some x := by rfl) (hv : Vis X.env.scope x := by first | exact Or.inl rfl | exact Or.inr (Or.inl rfl) | exact Or.inr (Or.inr rfl)) (hd : (x == ("__debug__" : Str)) = false := by decide)
    (hcd : (x == ("__classdict__" : Str)) = false := by decide) : SR X E (.Name x pos) (getR i) := by
  refine ⟨_, pe_var hN hv hd hcd, fun σ sd B ρ m H Q s rl w => ?_⟩
  unfold getR at w
  cases e : sd[i]? with
  | none => rw [e] at w; exact w.elim
  | some o =>
    rw [e] at w
    cases o with
    | none => exact w.elim
    | some z =>
      obtain ⟨v, h1, h2⟩ := rl.2 i z e
      exact ⟨v, h1, rd_ok s h2 w⟩
/-! ### from one to another -/
theorem sx_of {e : Expr} {f : SD → M D} (h : SE X E e f) : SX X E e (fun sd => M.bind (f sd) fun d => M.pure (.d d)) := by
  obtain ⟨t, p, k⟩ := h
  refine ⟨t, p, fun σ sd B ρ m H Q s rl w => k σ sd B ρ m H Q s rl ?_⟩
  exact Wt.bind' (r := f sd m) w fun d B1 ρ1 m1 H1 t1 s1 w1 v r => Wt.ok w1 s1 v r
def asL : D → M (List D)
  | .lst ds => M.pure ds
  | _ => bad
theorem sr_of {e : Expr} {f : SD → M D} (h : SE X E e f) : SR X E e (fun sd => M.bind (f sd) asL) := by
  obtain ⟨t, p, k⟩ := h
  refine ⟨t, p, fun σ sd B ρ m H Q s rl w => k σ sd B ρ m H Q s rl ?_⟩
  refine Wt.bind' (r := f sd m) w fun d B1 ρ1 m1 H1 t1 s1 w1 v r => ?_
  cases d with
  | lst ds =>
    obtain ⟨a, xs, rfl, h2, h3⟩ := r
    exact Wt.ok w1 s1 a xs (s1.ex _ _ h2) h3
  | _ => exact w1.elim
theorem se_of {e : Expr} {f : SD → M (List D)} (h : SF X E e f) : SE X E e (fun sd => M.bind (f sd) fun ds => M.pure (.lst ds)) := by
  obtain ⟨t, p, k⟩ := h
  refine ⟨t, p, fun σ sd B ρ m H Q s rl w => k σ sd B ρ m H Q s rl ?_⟩
  refine Wt.bindO (r := f sd m) w fun ds B1 ρ1 m1 H1 t1 s1 w1 p xs h0 hb ho hp r => ?_
  exact Wt.ok' w1 (t1.still h0 hb) (s1.still hb hp ho) _ ⟨p, xs, rfl, upd_same, r.mono (Sub.upd hb)⟩
theorem sr_new {e : Expr} {f : SD → M (List D)} (h : SF X E e f) : SR X E e f := by
  obtain ⟨t, p, k⟩ := h
  refine ⟨t, p, fun σ sd B ρ m H Q s rl w => k σ sd B ρ m H Q s rl ?_⟩
  exact Wt.mono w fun ds B1 ρ1 m1 H1 w1 p xs h0 hb ho hp r => w1 p xs hp r
/-! ### constants -/
theorem se_int {i : Int} {j pos} : SE X E (.Constant (.int i) j pos) (fun _ => M.pure (.int i)) := ⟨_, pe_int, fun σ sd B ρ m H Q s rl w => Wt.ok (m := m) w s _ rfl⟩
theorem se_bl {b j pos} : SE X E (.Constant (.bool b) j pos) (fun _ => M.pure (.bl b)) := ⟨_, pe_bl, fun σ sd B ρ m H Q s rl w => Wt.ok (m := m) w s _ rfl⟩
theorem se_non {j pos} : SE X E (.Constant .none j pos) (fun _ => M.pure .non) := ⟨_, pe_non, fun σ sd B ρ m H Q s rl w => Wt.ok (m := m) w s _ rfl⟩
theorem se_str {x j pos} : SE X E (.Constant (.str x) j pos) (fun _ => M.pure (.str x)) := ⟨_, pe_str, fun σ sd B ρ m H Q s rl w => Wt.ok (m := m) w s _ rfl⟩
/-- a def or class of the module, as a value -/
theorem se_glo {x : Str} {pos : Pos} (hm : X.mg x = some (.ref (He.ga X.K x))) (hg : Gl X x := by rfl) (hd : (x == ("__debug__" : Str)) = false := by decide) : SE X E (.Name x pos) (fun _ => M.pure (.gl x)) := by
  refine ⟨tC (.ref (He.ga X.K x)), ⟨fun pins s σ H Q I h => ?_⟩, fun σ sd B ρ m H Q s rl w => Wt.ok (m := m) w s _ rfl⟩
  exact ld_glob I hg hm ⟨V.ref (He.ga X.K x), H, I, rfl, h⟩ hd
/-- a whole number of the module -/
theorem se_gint {x : Str} {i : Int} {pos : Pos} (hm : ∃ t, X.mg x = some (.int i t)) (hg : Gl X x := by rfl) (hd : (x == ("__debug__" : Str)) = false := by decide) : SE X E (.Name x pos) (fun _ => M.pure (.int i)) := by
  obtain ⟨tk, hm⟩ := hm
  refine ⟨tC (.int i), ⟨fun pins s σ H Q I h => ?_⟩, fun σ sd B ρ m H Q s rl w => Wt.ok (m := m) w s _ rfl⟩
  exact ld_glob I hg hm ⟨V.int i, H, I, ⟨_, rfl⟩, h⟩ hd
/-! ### operators on data -/
def OpD (X : Cx) (E : XK) (r : R2) (f : D → D → M D) : Prop := ∀ x y dx dy B ρ m H Q, Sim X.K B ρ m H → Rep X.K B dx x → Rep X.K B dy y → Wt X.K B ρ H E (PD X.K Q) (f dx dy m) → r x y H Q
def rOr (r r' : R2) : R2 := fun x y H Q => r x y H Q ∨ r' x y H Q
theorem OpR.or {f : Value → Value → Sem Value} {r r' : R2} (h : OpR X f r) (h' : OpR X f r') : OpR X f (rOr r r') := by
  intro pins s σ H x y u v Q I rx ry q
  rcases q with q | q
  · exact h pins s σ H x y u v Q I rx ry q
  · exact h' pins s σ H x y u v Q I rx ry q
theorem se_op {op : Operator} {a b : Expr} {pos : Pos} {r : R2} {f : D → D → M D} {fa fb : SD → M D} (ho : OpR X (binaryOp op) r) (hd : OpD X E r f) (ha : SE X E a fa) (hb : SE X E b fb) :
    SE X E (.BinOp a op b pos) (fun sd => M.bind (fa sd) fun x => M.bind (fb sd) fun y => f x y) := by
  obtain ⟨ta, pa, ka⟩ := ha
  obtain ⟨tb, pb, kb⟩ := hb
  refine ⟨_, pe_op ho pa pb, fun σ sd B ρ m H Q s rl w => ka σ sd B ρ m H _ s rl ?_⟩
  refine Wt.bind' (r := fa sd m) w fun dx B1 ρ1 m1 H1 t1 s1 w1 x rx => kb σ sd B1 ρ1 m1 H1 _ s1 (rl.ste t1) ?_
  exact Wt.bind' (r := fb sd m1) w1 fun dy B2 ρ2 m2 H2 t2 s2 w2 y ry => hd x y dx dy B2 ρ2 m2 H2 Q s2 (rx.mono t2.bb) ry w2
theorem se_cmp {op : CmpOp} {a b : Expr} {pos : Pos} {r : R2} {f : D → D → M D} {fa fb : SD → M D} (ho : OpR X (compareOp op) r) (hd : OpD X E r f) (ha : SE X E a fa) (hb : SE X E b fb) (hm : behindInMarks op b = false) :
    SE X E (.Compare a [op] [b] pos) (fun sd => M.bind (fa sd) fun x => M.bind (fb sd) fun y => f x y) := by
  obtain ⟨ta, pa, ka⟩ := ha
  obtain ⟨tb, pb, kb⟩ := hb
  refine ⟨_, pe_cmpR ho pa pb hm, fun σ sd B ρ m H Q s rl w => ka σ sd B ρ m H _ s rl ?_⟩
  refine Wt.bind' (r := fa sd m) w fun dx B1 ρ1 m1 H1 t1 s1 w1 x rx => kb σ sd B1 ρ1 m1 H1 _ s1 (rl.ste t1) ?_
  exact Wt.bind' (r := fb sd m1) w1 fun dy B2 ρ2 m2 H2 t2 s2 w2 y ry => hd x y dx dy B2 ρ2 m2 H2 Q s2 (rx.mono t2.bb) ry w2
/-- a new thing that stands still, wished for -/
theorem Wt.laid {p : Addr} {o : HO} {d : D} {Q : VK} (hs : Sim K B ρ m H) (w : Wt K B ρ H E (PD K Q) (.ok d m)) (hp : H p = none) (r : Rep K (upd B p o) d (.ref p)) : Q (.ref p) (upd H p o) :=
  Wt.ok' w (Ste.new hs.ex hp) (hs.new hp) _ r
theorem Wt.lst {p : Addr} {ds : List D} {xs : List V} {Q : VK} (hs : Sim K B ρ m H) (w : Wt K B ρ H E (PD K Q) (.ok (.lst ds) m)) (r : RepL K B ds xs) (hp : H p = none) : Q (.ref p) (upd H p (.lst xs)) :=
  Wt.laid hs w hp ⟨p, xs, rfl, upd_same, r.mono (Sub.upd (hs.bnone hp))⟩
theorem Wt.tup {p : Addr} {ds : List D} {xs : List V} {Q : VK} (hs : Sim K B ρ m H) (w : Wt K B ρ H E (PD K Q) (.ok (.tup ds) m)) (r : RepL K B ds xs) (hp : H p = none) : Q (.ref p) (upd H p (.tup xs)) :=
  Wt.laid hs w hp ⟨p, xs, rfl, upd_same, r.mono (Sub.upd (hs.bnone hp))⟩
def addD : D → D → M D
  | .int i, .int j => M.pure (.int (i + j))
  | .lst a, .lst b => if a.length + b.length ≤ 16777216 then M.pure (.lst (a ++ b)) else bad
  | .tup a, .tup b => if a.length + b.length ≤ 16777216 then M.pure (.tup (a ++ b)) else bad
  | .str a, .str b => if a.length + b.length ≤ 16777216 then M.pure (.str (a ++ b)) else bad
  | _, _ => bad
def subD : D → D → M D
  | .int i, .int j => M.pure (.int (i - j))
  | _, _ => bad
def small (i : Int) : Bool := decide (-(18446744073709551616) < i) && decide (i < 18446744073709551616)
def mulD : D → D → M D
  | .int i, .int j => if small i || small j then M.pure (.int (i * j)) else bad
  | .lst a, .int k => if k < 16777216 ∧ a.length * k.toNat ≤ 16777216 ∧ 0 ≤ k then M.pure (.lst ((List.replicate k.toNat a).flatten)) else bad
  | _, _ => bad
def divD : D → D → M D
  | .int i, .int j => if j ≠ 0 ∧ j.natAbs < 1073741824 then M.pure (.int (i.fdiv j)) else bad
  | _, _ => bad
def modD : D → D → M D
  | .int i, .int j => if j ≠ 0 then M.pure (.int (i.fmod j)) else bad
  | _, _ => bad
def powD : D → D → M D
  | .int i, .int j => if 0 ≤ j ∧ j ≤ 1000000 ∧ i.natAbs < 18446744073709551616 then M.pure (.int (i ^ j.toNat)) else bad
  | _, _ => bad
def rStrs : R2 := fun x y H Q => ∃ i j, x = .str i ∧ y = .str j ∧ i.length + j.length ≤ sizeLine ∧ Q (.str (i ++ j)) H
theorem sl16 : sizeLine = 16777216 := sizeLine_eq
theorem op_addD : OpR X (binaryOp .Add) (rOr (rI0 fun i j => .int (i + j)) (rOr rCat (rOr (rCatA X.K) rStrs))) := OpR.or op_add (OpR.or op_cat (OpR.or op_catA op_add_str))
theorem Rep.lstH {ds : List D} {v : V} (h : Rep K B (.lst ds) v) (hs : Sub B H) : ∃ a xs, v = .ref a ∧ H a = some (.lst xs) ∧ RepL K B ds xs := by
  obtain ⟨a, xs, h1, h2, h3⟩ := h
  exact ⟨a, xs, h1, hs _ _ h2, h3⟩
theorem Rep.tupH {ds : List D} {v : V} (h : Rep K B (.tup ds) v) (hs : Sub B H) : ∃ a xs, v = .ref a ∧ H a = some (.tup xs) ∧ RepL K B ds xs := by
  obtain ⟨a, xs, h1, h2, h3⟩ := h
  exact ⟨a, xs, h1, hs _ _ h2, h3⟩
theorem RepL.nil_iff {ds : List D} {xs : List V} (h : RepL K B ds xs) : xs = [] ↔ ds = [] := by
  have := h.length
  rw [← List.length_eq_zero_iff, ← List.length_eq_zero_iff, this]
theorem addD_ok : OpD X E (rOr (rI0 fun i j => .int (i + j)) (rOr rCat (rOr (rCatA X.K) rStrs))) addD := by
  intro x y dx dy B ρ m H Q s rx ry w
  cases dx with
  | int i =>
    cases dy with
    | int j => exact .inl ⟨i, j, rx, ry, Wt.ok (m := m) w s _ rfl⟩
    | _ => exact w.elim
  | lst a =>
    cases dy with
    | lst b =>
      obtain ⟨p, xs, rfl, h1, r1⟩ := rx.lstH s.ex
      obtain ⟨q, ys, rfl, h2, r2⟩ := ry.lstH s.ex
      have w2 : Wt X.K B ρ H E (PD X.K Q) ((if a.length + b.length ≤ 16777216 then M.pure (.lst (a ++ b)) else bad : M D) m) := w
      split at w2
      · rename_i hl
        refine .inr (.inl ⟨p, q, xs, ys, rfl, rfl, h1, h2, by rw [r1.length, r2.length, sl16]; exact hl, fun l hl => Wt.lst s w2 (r1.append r2) hl⟩)
      · exact w2.elim
    | _ => exact w.elim
  | tup a =>
    cases dy with
    | tup b =>
      have rx' := rx
      have ry' := ry
      obtain ⟨p, xs, rfl, h1, r1⟩ := rx.tupH s.ex
      obtain ⟨q, ys, rfl, h2, r2⟩ := ry.tupH s.ex
      have w2 : Wt X.K B ρ H E (PD X.K Q) ((if a.length + b.length ≤ 16777216 then M.pure (.tup (a ++ b)) else bad : M D) m) := w
      split at w2
      · rename_i hl
        refine .inr (.inr (.inl ⟨p, q, xs, ys, rfl, rfl, SqT.of h1, SqT.of h2, by rw [r1.length, r2.length, sl16]; exact hl, fun e => ?_, fun e1 e => ?_, fun _ _ l hl => Wt.tup s w2 (r1.append r2) hl⟩))
        · rw [r1.nil_iff.mp e] at w2
          exact Wt.ok (m := m) w2 s _ ry'
        · rw [r2.nil_iff.mp e, List.append_nil] at w2
          exact Wt.ok (m := m) w2 s _ rx'
      · exact w2.elim
    | _ => exact w.elim
  | str a =>
    cases dy with
    | str b =>
      have w2 : Wt X.K B ρ H E (PD X.K Q) ((if a.length + b.length ≤ 16777216 then M.pure (.str (a ++ b)) else bad : M D) m) := w
      split at w2
      · rename_i hl
        exact .inr (.inr (.inr ⟨a, b, rx, ry, by rw [sl16]; exact hl, Wt.ok (m := m) w2 s _ rfl⟩))
      · exact w2.elim
    | _ => exact w.elim
  | _ => exact w.elim
theorem subD_ok : OpD X E (rI0 fun i j => .int (i - j)) subD := by
  intro x y dx dy B ρ m H Q s rx ry w
  cases dx with
  | int i =>
    cases dy with
    | int j => exact ⟨i, j, rx, ry, Wt.ok (m := m) w s _ rfl⟩
    | _ => exact w.elim
  | _ => exact w.elim
theorem small_ok {i : Int} (h : small i = true) : -(2 ^ 64) < i ∧ i < 2 ^ 64 := by
  unfold small at h
  simp only [Bool.and_eq_true, decide_eq_true_eq] at h
  exact ⟨by omega, by omega⟩
theorem mulD_ok : OpD X E (rOr (rI CMul fun i j => .int (i * j)) rRep) mulD := by
  intro x y dx dy B ρ m H Q s rx ry w
  cases dx with
  | int i =>
    cases dy with
    | int j =>
      have w2 : Wt X.K B ρ H E (PD X.K Q) ((if (small i || small j) = true then M.pure (.int (i * j)) else bad : M D) m) := w
      split at w2
      · rename_i hc
        refine .inl ⟨i, j, rx, ry, ?_, Wt.ok (m := m) w2 s _ rfl⟩
        rcases Bool.or_eq_true_iff.mp hc with hc | hc
        · exact .inl (small_ok hc)
        · exact .inr (small_ok hc)
      · exact w2.elim
    | _ => exact w.elim
  | lst a =>
    cases dy with
    | int k =>
      obtain ⟨p, xs, rfl, h1, r1⟩ := rx.lstH s.ex
      have w2 : Wt X.K B ρ H E (PD X.K Q) ((if k < 16777216 ∧ a.length * k.toNat ≤ 16777216 ∧ 0 ≤ k then M.pure (.lst ((List.replicate k.toNat a).flatten)) else bad : M D) m) := w
      split at w2
      · rename_i hc
        have rr : ∀ n : Nat, RepL X.K B (List.replicate n a).flatten (List.replicate n xs).flatten := fun n => by
          induction n with
          | zero => exact rfl
          | succ n ih =>
            rw [List.replicate_succ, List.replicate_succ, List.flatten_cons, List.flatten_cons]
            exact r1.append ih
        exact .inr ⟨p, k, xs, rfl, ry, h1, by omega, by omega, by rw [r1.length, sl16]; exact hc.2.1, fun l hl => Wt.lst s w2 (rr _) hl⟩
      · exact w2.elim
    | _ => exact w.elim
  | _ => exact w.elim
theorem op_mulD : OpR X (binaryOp .Mult) (rOr (rI CMul fun i j => .int (i * j)) rRep) := OpR.or op_mul op_rep
theorem divD_ok : OpD X E (rI CDivN fun i j => .int (i.fdiv j)) divD := by
  intro x y dx dy B ρ m H Q s rx ry w
  cases dx with
  | int i =>
    cases dy with
    | int j =>
      have w2 : Wt X.K B ρ H E (PD X.K Q) ((if j ≠ 0 ∧ j.natAbs < 1073741824 then M.pure (.int (i.fdiv j)) else bad : M D) m) := w
      split at w2
      · rename_i hc
        exact ⟨i, j, rx, ry, hc, Wt.ok (m := m) w2 s _ rfl⟩
      · exact w2.elim
    | _ => exact w.elim
  | _ => exact w.elim
theorem modD_ok : OpD X E (rI (fun _ j => j ≠ 0) fun i j => .int (i.fmod j)) modD := by
  intro x y dx dy B ρ m H Q s rx ry w
  cases dx with
  | int i =>
    cases dy with
    | int j =>
      have w2 : Wt X.K B ρ H E (PD X.K Q) ((if j ≠ 0 then M.pure (.int (i.fmod j)) else bad : M D) m) := w
      split at w2
      · rename_i hc
        exact ⟨i, j, rx, ry, hc, Wt.ok (m := m) w2 s _ rfl⟩
      · exact w2.elim
    | _ => exact w.elim
  | _ => exact w.elim
theorem powD_ok : OpD X E (rI CPow fun i j => .int (i ^ j.toNat)) powD := by
  intro x y dx dy B ρ m H Q s rx ry w
  cases dx with
  | int i =>
    cases dy with
    | int j =>
      have w2 : Wt X.K B ρ H E (PD X.K Q) ((if 0 ≤ j ∧ j ≤ 1000000 ∧ i.natAbs < 18446744073709551616 then M.pure (.int (i ^ j.toNat)) else bad : M D) m) := w
      split at w2
      · rename_i hc
        exact ⟨i, j, rx, ry, ⟨hc.1, hc.2.1, by have := hc.2.2; omega⟩, Wt.ok (m := m) w2 s _ rfl⟩
      · exact w2.elim
    | _ => exact w.elim
  | _ => exact w.elim
section
variable {a b : Expr} {pos : Pos} {fa fb : SD → M D}
theorem se_add (ha : SE X E a fa) (hb : SE X E b fb) : SE X E (.BinOp a .Add b pos) (fun sd => M.bind (fa sd) fun x => M.bind (fb sd) fun y => addD x y) := se_op op_addD addD_ok ha hb
theorem se_sub (ha : SE X E a fa) (hb : SE X E b fb) : SE X E (.BinOp a .Sub b pos) (fun sd => M.bind (fa sd) fun x => M.bind (fb sd) fun y => subD x y) := se_op op_sub subD_ok ha hb
theorem se_mul (ha : SE X E a fa) (hb : SE X E b fb) : SE X E (.BinOp a .Mult b pos) (fun sd => M.bind (fa sd) fun x => M.bind (fb sd) fun y => mulD x y) := se_op op_mulD mulD_ok ha hb
theorem se_div (ha : SE X E a fa) (hb : SE X E b fb) : SE X E (.BinOp a .FloorDiv b pos) (fun sd => M.bind (fa sd) fun x => M.bind (fb sd) fun y => divD x y) := se_op op_fdivN divD_ok ha hb
theorem se_mod (ha : SE X E a fa) (hb : SE X E b fb) : SE X E (.BinOp a .Mod b pos) (fun sd => M.bind (fa sd) fun x => M.bind (fb sd) fun y => modD x y) := se_op op_modN modD_ok ha hb
theorem se_pow (ha : SE X E a fa) (hb : SE X E b fb) : SE X E (.BinOp a .Pow b pos) (fun sd => M.bind (fa sd) fun x => M.bind (fb sd) fun y => powD x y) := se_op op_pow powD_ok ha hb
end
/-! ### comparisons -/
def cmpI (p : Int → Int → Bool) : D → D → M D
  | .int i, .int j => M.pure (.bl (p i j))
  | _, _ => bad
theorem cmpI_ok {p : Int → Int → Bool} : OpD X E (rI0 fun i j => .bl (p i j)) (cmpI p) := by
  intro x y dx dy B ρ m H Q s rx ry w
  cases dx with
  | int i =>
    cases dy with
    | int j => exact ⟨i, j, rx, ry, Wt.ok (m := m) w s _ rfl⟩
    | _ => exact w.elim
  | _ => exact w.elim
mutual
/-- as the library's data; what is no such data is an empty dict -/
def toP : D → PyData
  | .non => .none
  | .bl b => .bool b
  | .int i => .int i
  | .str x => .str x
  | .lst ds => .list (toPL ds)
  | .tup ds => .tuple (toPL ds)
  | _ => .dict []
def toPL : List D → List PyData
  | [] => []
  | d :: ds => toP d :: toPL ds
end
mutual
theorem Rep.dp (e : Sub B H) : ∀ {d : D} {v : V}, Rep K B d v → (toP d).canLay0 = true → Dp K H v (toP d)
  | .non, v, h, _ => by
    cases (show v = .non from h)
    exact .non
  | .bl b, v, h, _ => by
    cases (show v = .bl b from h)
    exact .bl b
  | .int i, v, h, _ => by
    cases (show v = .int i from h)
    exact .int i
  | .str x, v, h, _ => by
    cases (show v = .str x from h)
    exact .str x
  | .lst ds, v, h, c => by
    obtain ⟨a, xs, rfl, h2, h3⟩ := h
    exact .lst (SqL.of (e _ _ h2)) (RepL.dp e h3 c)
  | .tup ds, v, h, c => by
    obtain ⟨a, xs, rfl, h2, h3⟩ := h
    exact .tup (SqT.of (e _ _ h2)) (RepL.dp e h3 c)
  | .ty _, _, _, c => by cases c
  | .gl _, _, _, c => by cases c
  | .scr _, _, _, c => by cases c
  | .dk _, _, _, c => by cases c
  | .dt _, _, _, c => by cases c
  | .rng _ _, _, _, c => by cases c
  | .ob _ _, _, _, c => by cases c
  | .ex _, _, _, c => by cases c
  | .exA _ _ _, _, _, c => by cases c
theorem RepL.dp (e : Sub B H) : ∀ {ds : List D} {xs : List V}, RepL K B ds xs → PyData.canLayAll0 (toPL ds) = true → DpAll K H xs (toPL ds)
  | [], _, h, _ => by
    rw [show _ = [] from h]
    exact .nil
  | d :: ds, _, h, c => by
    obtain ⟨x, r, rfl, h2, h3⟩ := h
    have c2 : ((toP d).canLay0 && PyData.canLayAll0 (toPL ds)) = true := c
    obtain ⟨c3, c4⟩ := Bool.and_eq_true_iff.mp c2
    exact .cons (Rep.dp e h2 c3) (RepL.dp e h3 c4)
end
def plain (d : D) : Bool := SeqAt.shaped (toP d)
def eqv (x y : D) : Bool := PyData.eqv (toP x) (toP y)
def eqD (x y : D) : M D := if (plain x && plain y) = true then M.pure (.bl (eqv x y)) else bad
def neD (x y : D) : M D := if (plain x && plain y) = true then M.pure (.bl (!eqv x y)) else bad
theorem eqD_ok : OpD X E (rEqD X.K) eqD := by
  intro x y dx dy B ρ m H Q s rx ry w
  unfold eqD at w
  split at w
  · rename_i hc
    obtain ⟨c1, c2⟩ := Bool.and_eq_true_iff.mp hc
    exact ⟨_, _, rx.dp s.ex (SeqAt.canLay_of_shaped c1), ry.dp s.ex (SeqAt.canLay_of_shaped c2), c1, c2, Wt.ok (m := m) w s _ rfl⟩
  · exact w.elim
theorem neD_ok : OpD X E (rNeD X.K) neD := by
  intro x y dx dy B ρ m H Q s rx ry w
  unfold neD at w
  split at w
  · rename_i hc
    obtain ⟨c1, c2⟩ := Bool.and_eq_true_iff.mp hc
    exact ⟨_, _, rx.dp s.ex (SeqAt.canLay_of_shaped c1), ry.dp s.ex (SeqAt.canLay_of_shaped c2), c1, c2, Wt.ok (m := m) w s _ rfl⟩
  · exact w.elim
/-- is None; is a bool -/
def isNone : D → Bool
  | .non => true
  | _ => false
theorem Rep.isNone {d : D} {v : V} (h : Rep K B d v) : decide (v = .non) = isNone d := by
  cases d with
  | non => rw [show v = .non from h]; rfl
  | bl _ => rw [show v = .bl _ from h]; rfl
  | int _ => rw [show v = .int _ from h]; rfl
  | str _ => rw [show v = .str _ from h]; rfl
  | ty _ => rw [show v = .ty _ from h]; rfl
  | gl _ => rw [show v = .ref _ from h]; rfl
  | scr _ => obtain ⟨a, rfl, _⟩ := h; rfl
  | lst _ => obtain ⟨a, _, rfl, _⟩ := h; rfl
  | tup _ => obtain ⟨a, _, rfl, _⟩ := h; rfl
  | dk _ => obtain ⟨a, _, rfl, _⟩ := h; rfl
  | dt _ => obtain ⟨a, _, rfl, _⟩ := h; rfl
  | rng _ _ => obtain ⟨a, rfl, _⟩ := h; rfl
  | ob _ _ => obtain ⟨a, _, _, rfl, _⟩ := h; rfl
  | ex _ => obtain ⟨a, rfl, _⟩ := h; rfl
  | exA _ _ _ => obtain ⟨a, _, _, rfl, _⟩ := h; rfl
def isD : D → D → M D
  | x, .non => M.pure (.bl (isNone x))
  | .bl a, .bl b => M.pure (.bl (decide (a = b)))
  | _, _ => bad
def isNotD : D → D → M D
  | x, .non => M.pure (.bl (!isNone x))
  | .bl a, .bl b => M.pure (.bl (!decide (a = b)))
  | _, _ => bad
theorem isD_ok : OpD X E (rOr (fun x y H Q => y = .non ∧ Q (.bl (decide (x = .non))) H) rIsB) isD := by
  intro x y dx dy B ρ m H Q s rx ry w
  cases dy with
  | non =>
    refine .inl ⟨ry, ?_⟩
    rw [rx.isNone]
    have w2 : Wt X.K B ρ H E (PD X.K Q) ((M.pure (.bl (isNone dx)) : M D) m) := by cases dx <;> exact w
    exact Wt.ok (m := m) w2 s _ rfl
  | bl b =>
    cases dx with
    | bl a => exact .inr ⟨a, b, rx, ry, Wt.ok (m := m) w s _ rfl⟩
    | _ => exact w.elim
  | _ => cases dx <;> exact w.elim
theorem isNotD_ok : OpD X E (rOr (fun x y H Q => y = .non ∧ Q (.bl (!decide (x = .non))) H) rNotB) isNotD := by
  intro x y dx dy B ρ m H Q s rx ry w
  cases dy with
  | non =>
    refine .inl ⟨ry, ?_⟩
    rw [rx.isNone]
    have w2 : Wt X.K B ρ H E (PD X.K Q) ((M.pure (.bl (!isNone dx)) : M D) m) := by cases dx <;> exact w
    exact Wt.ok (m := m) w2 s _ rfl
  | bl b =>
    cases dx with
    | bl a => exact .inr ⟨a, b, rx, ry, Wt.ok (m := m) w s _ rfl⟩
    | _ => exact w.elim
  | _ => cases dx <;> exact w.elim
end
end Mi

set_option Elab.async false
set_option linter.all false
set_option maxRecDepth 100000
set_option maxHeartbeats 4000000
/-! The layer Mi. Part 3: tests, displays, subscripts, calls of built-ins. -/
namespace Mi
open PySem PySem.Spec PyProof.Rows L2
def asB : D → M Bool
  | .bl b => M.pure b
  | _ => bad
def asI : D → M Int
  | .int i => M.pure i
  | _ => bad
theorem Ste.fresh {K : PySem.W.Frag} {B : Hp} {ρ : Rho} {H B1 : Hp} {ρ1 : Rho} {H1 : Hp} {m1 : Mem} (t : Ste B ρ H B1 ρ1 H1) (s : Sim K B1 ρ1 m1 H1) {p : Addr} (hp : H1 p = none) : H p = none := by
  rcases t.free hp with z | z
  · obtain ⟨more, e⟩ := t.rr
    have z2 : own ρ1 p := by
      rw [e]
      exact own_app z
    exact absurd z2 (s.nown hp)
  · exact z
section
variable {X : Cx} {E : XK} {K : PySem.W.Frag} {B : Hp} {ρ : Rho} {m : Mem} {H : Hp} {a b c e : Expr} {pos : Pos} {fa fb fc fe : SD → M D}
theorem se_lt (ha : SE X E a fa) (hb : SE X E b fb) : SE X E (.Compare a [.Lt] [b] pos) (fun sd => M.bind (fa sd) fun x => M.bind (fb sd) fun y => cmpI (fun i j => decide (i < j)) x y) := se_cmp op_lt cmpI_ok ha hb (nomark _)
theorem se_le (ha : SE X E a fa) (hb : SE X E b fb) : SE X E (.Compare a [.LtE] [b] pos) (fun sd => M.bind (fa sd) fun x => M.bind (fb sd) fun y => cmpI (fun i j => decide (i ≤ j)) x y) := se_cmp op_le cmpI_ok ha hb (nomark _)
theorem se_gt (ha : SE X E a fa) (hb : SE X E b fb) : SE X E (.Compare a [.Gt] [b] pos) (fun sd => M.bind (fa sd) fun x => M.bind (fb sd) fun y => cmpI (fun i j => decide (j < i)) x y) := se_cmp op_gt cmpI_ok ha hb (nomark _)
theorem se_ge (ha : SE X E a fa) (hb : SE X E b fb) : SE X E (.Compare a [.GtE] [b] pos) (fun sd => M.bind (fa sd) fun x => M.bind (fb sd) fun y => cmpI (fun i j => decide (j ≤ i)) x y) := se_cmp op_ge cmpI_ok ha hb (nomark _)
theorem se_eq (hu : X.A.units + 64 < cLine) (ha : SE X E a fa) (hb : SE X E b fb) : SE X E (.Compare a [.Eq] [b] pos) (fun sd => M.bind (fa sd) fun x => M.bind (fb sd) fun y => eqD x y) := se_cmp (op_eqD hu) eqD_ok ha hb (nomark _)
theorem se_ne (hu : X.A.units + 64 < cLine) (ha : SE X E a fa) (hb : SE X E b fb) : SE X E (.Compare a [.NotEq] [b] pos) (fun sd => M.bind (fa sd) fun x => M.bind (fb sd) fun y => neD x y) := se_cmp (op_neD hu) neD_ok ha hb (nomark _)
theorem se_is (ha : SE X E a fa) (hb : SE X E b fb) : SE X E (.Compare a [.Is] [b] pos) (fun sd => M.bind (fa sd) fun x => M.bind (fb sd) fun y => isD x y) := se_cmp (OpR.or op_isN op_isBl) isD_ok ha hb (nomark _)
theorem se_isnot (ha : SE X E a fa) (hb : SE X E b fb) : SE X E (.Compare a [.IsNot] [b] pos) (fun sd => M.bind (fa sd) fun x => M.bind (fb sd) fun y => isNotD x y) := se_cmp (OpR.or op_notN op_notBl) isNotD_ok ha hb (nomark _)
/-- a op b op' c, whole numbers -/
theorem se_chain {op op' : CmpOp} {p q : Int → Int → Bool} (ho : OpR X (compareOp op) (rI0 fun i j => .bl (p i j))) (ho' : OpR X (compareOp op') (rI0 fun i j => .bl (q i j))) (ha : SE X E a fa) (hb : SE X E b fb) (hc : SE X E c fc)
    (hm : lastMarks [op, op'] [b, c] = false := by with_unfolding_all rfl) :
    SE X E (.Compare a [op, op'] [b, c] pos) (fun sd => M.bind (fa sd) fun x => M.bind (fb sd) fun y => M.bind (asI x) fun i => M.bind (asI y) fun j => if p i j = true then M.bind (fc sd) fun z => cmpI q (.int j) z else M.pure (.bl false)) := by
  obtain ⟨ta, pa, ka⟩ := ha
  obtain ⟨tb, pb, kb⟩ := hb
  obtain ⟨tc, pc, kc⟩ := hc
  refine ⟨_, pe_chain ho ho' pa pb pc hm, fun σ sd B ρ m H Q s rl w => ka σ sd B ρ m H _ s rl ?_⟩
  refine Wt.bind' (r := fa sd m) w fun dx B1 ρ1 m1 H1 t1 s1 w1 x rx => kb σ sd B1 ρ1 m1 H1 _ s1 (rl.ste t1) ?_
  refine Wt.bind' (r := fb sd m1) w1 fun dy B2 ρ2 m2 H2 t2 s2 w2 y ry => ?_
  cases dx with
  | int i =>
    cases dy with
    | int j =>
      refine ⟨i, j, rx, ry, p i j, rfl, ?_⟩
      have w3 : Wt X.K B2 ρ2 H2 E (PD X.K Q) ((if p i j = true then M.bind (fc sd) fun z => cmpI q (.int j) z else M.pure (.bl false) : M D) m2) := w2
      by_cases hp : p i j = true
      · rw [if_pos hp] at w3 ⊢
        refine kc σ sd B2 ρ2 m2 H2 _ s2 ((rl.ste t1).ste t2) ?_
        exact Wt.bind' (r := fc sd m2) w3 fun dz B3 ρ3 m3 H3 t3 s3 w4 z rz => cmpI_ok (E := E) y z (.int j) dz B3 ρ3 m3 H3 Q s3 ry rz w4
      · rw [if_neg hp] at w3 ⊢
        exact Wt.ok (E := E) (m := m2) w3 s2 _ (by simp [Rep, hp])
    | _ => exact w2.elim
  | _ => exact w2.elim
/-! ### in -/
def flatD : D → Bool
  | .non => true
  | .bl _ => true
  | .int _ => true
  | .str _ => true
  | _ => false
def eqF : D → D → Bool
  | .non, .non => true
  | .bl a, .bl b => a == b
  | .bl a, .int b => (if a then 1 else 0) == b
  | .int a, .bl b => a == (if b then 1 else 0)
  | .int a, .int b => a == b
  | .str a, .str b => a == b
  | _, _ => false
def toV : D → V
  | .non => .non
  | .bl b => .bl b
  | .int i => .int i
  | .str x => .str x
  | _ => .non
theorem Rep.flat {d : D} {v : V} (h : Rep K B d v) (f : flatD d = true) : v = toV d ∧ flatV v = true := by
  cases d with
  | non => exact ⟨h, by rw [show v = .non from h] <;> rfl⟩
  | bl b => exact ⟨h, by rw [show v = .bl b from h] <;> rfl⟩
  | int b => exact ⟨h, by rw [show v = .int b from h] <;> rfl⟩
  | str b => exact ⟨h, by rw [show v = .str b from h] <;> rfl⟩
  | _ => cases f
theorem eqF_ok {x y : D} (fx : flatD x = true) (fy : flatD y = true) : eqV (toV x) (toV y) = eqF x y := by
  cases x <;> cases y <;> first | (exact absurd (show false = true from fx) Bool.false_ne_true) | (exact absurd (show false = true from fy) Bool.false_ne_true) | rfl
theorem RepL.flat : ∀ {ds : List D} {xs : List V}, RepL K B ds xs → ds.all flatD = true → xs = ds.map toV ∧ xs.all flatV = true
  | [], _, h, _ => by
    rw [show _ = [] from h]
    exact ⟨rfl, rfl⟩
  | d :: ds, _, h, f => by
    obtain ⟨x, r, rfl, h2, h3⟩ := h
    rw [List.all_cons, Bool.and_eq_true] at f
    obtain ⟨g1, g2⟩ := h2.flat f.1
    obtain ⟨g3, g4⟩ := RepL.flat h3 f.2
    exact ⟨by rw [g1, g3] <;> rfl, by rw [List.all_cons, g2, g4] <;> rfl⟩
def inL (x : D) (ds : List D) : Bool := ds.any fun y => eqF y x
theorem inL_ok {x : D} : ∀ {ds : List D}, flatD x = true → ds.all flatD = true → inV (toV x) (ds.map toV) = inL x ds
  | [], _, _ => rfl
  | d :: ds, fx, f => by
    rw [List.all_cons, Bool.and_eq_true] at f
    have ih := inL_ok (ds := ds) fx f.2
    unfold inV inL at ih ⊢
    rw [List.map_cons, List.any_cons, List.any_cons, eqF_ok f.1 fx, ih]
/-- the items of a list or tuple -/
def itemsS : S → M (List D)
  | .d (.lst ds) => M.pure ds
  | .d (.tup ds) => M.pure ds
  | .d (.scr ns) => M.pure (ns.map .int)
  | .h n => fun m => match m[n]? with
    | some (.lst ds) => .ok ds m
    | some (.fz (.lst ds)) => .ok ds m
    | _ => .bad
  | _ => bad
theorem items_ok0 {s : S} {v : V} {Pp : List D → Prop} {Q : List D → Hp → Rho → Mem → Hp → Prop} (hs : Sim K B ρ m H) (r : RepS K B ρ s v) (w : Wt K B ρ H E Q (itemsS s m)) :
    ∃ ds xs a, itemsS s m = .ok ds m ∧ v = .ref a ∧ (((∀ es, s ≠ .d (.tup es)) ∧ SqL K H a xs) ∨ (s = .d (.tup ds) ∧ SqT K H a xs)) ∧ RepL K B ds xs := by
  cases s with
  | d x =>
    cases x with
    | lst ds =>
      obtain ⟨a, xs, rfl, h2, h3⟩ := r
      exact ⟨ds, xs, a, rfl, rfl, .inl ⟨(fun _ z => by cases z), SqL.of (hs.ex _ _ h2)⟩, h3⟩
    | tup ds =>
      obtain ⟨a, xs, rfl, h2, h3⟩ := r
      exact ⟨ds, xs, a, rfl, rfl, .inr ⟨rfl, SqT.of (hs.ex _ _ h2)⟩, h3⟩
    | scr ns =>
      obtain ⟨a, rfl, h2⟩ := r
      exact ⟨ns.map .int, ns.map .int, a, rfl, rfl, .inl ⟨(fun _ z => by cases z), hs.ex.l h2⟩, RepL.ints ns⟩
    | _ => exact w.elim
  | h n =>
    obtain ⟨p, h1, rfl⟩ := r
    obtain ⟨o, h2, h3⟩ := hs.at_ h1
    have e : itemsS (.h n) m = (match m[n]? with | some (.lst ds) => .ok ds m | some (.fz (.lst ds)) => .ok ds m | _ => .bad : Out (List D)) := rfl
    rw [e, h2] at w
    cases o with
    | lst ds =>
      obtain ⟨z1, z2, xs, z3, z4⟩ := h3
      exact ⟨ds, xs, p.1, by rw [e, h2], rfl, .inl ⟨(fun _ z => by cases z), SqL.of z3⟩, z4⟩
    | fz d =>
      cases d with
      | lst ds =>
        obtain ⟨⟨a, xs, ea, z3, z4⟩, _⟩ := h3
        cases ea
        exact ⟨ds, xs, p.1, by rw [e, h2], rfl, .inl ⟨(fun _ z => by cases z), SqL.of (hs.ex _ _ z3)⟩, z4⟩
      | _ => exact w.elim
    | _ => exact w.elim
theorem items_ok {s : S} {v : V} {Pp : List D → Prop} {Q : List D → Hp → Rho → Mem → Hp → Prop} (hs : Sim K B ρ m H) (r : RepS K B ρ s v) (w : Wt K B ρ H E Q (itemsS s m)) :
    ∃ ds xs a, itemsS s m = .ok ds m ∧ v = .ref a ∧ (SqL K H a xs ∨ SqT K H a xs) ∧ RepL K B ds xs := by
  obtain ⟨ds, xs, a, h1, h2, h3, h4⟩ := items_ok0 (E := E) (Pp := Pp) hs r w
  exact ⟨ds, xs, a, h1, h2, h3.elim (fun z => .inl z.2) (fun z => .inr z.2), h4⟩
/-! ### operators whose second side may be a changing object -/
def OpS (X : Cx) (E : XK) (r : R2) (f : D → S → M D) : Prop := ∀ x y dx sy B ρ m H Q, Sim X.K B ρ m H → Rep X.K B dx x → RepS X.K B ρ sy y → Wt X.K B ρ H E (PD X.K Q) (f dx sy m) → r x y H Q
theorem se_cmpS {op : CmpOp} {r : R2} {f : D → S → M D} {gb : SD → M S} (ho : OpR X (compareOp op) r) (hd : OpS X E r f) (ha : SE X E a fa) (hb : SX X E b gb) (hm : behindInMarks op b = false) :
    SE X E (.Compare a [op] [b] pos) (fun sd => M.bind (fa sd) fun x => M.bind (gb sd) fun y => f x y) := by
  obtain ⟨ta, pa, ka⟩ := ha
  obtain ⟨tb, pb, kb⟩ := hb
  refine ⟨_, pe_cmpR ho pa pb hm, fun σ sd B ρ m H Q s rl w => ka σ sd B ρ m H _ s rl ?_⟩
  refine Wt.bind' (r := fa sd m) w fun dx B1 ρ1 m1 H1 t1 s1 w1 x rx => kb σ sd B1 ρ1 m1 H1 _ s1 (rl.ste t1) ?_
  exact Wt.bind' (r := gb sd m1) w1 fun dy B2 ρ2 m2 H2 t2 s2 w2 y ry => hd x y dx dy B2 ρ2 m2 H2 Q s2 (rx.mono t2.bb) ry w2
def inS (neg : Bool) (x : D) (s : S) : M D := M.bind (itemsS s) fun ds => if (flatD x && ds.all flatD) = true then M.pure (.bl (if neg then !inL x ds else inL x ds)) else bad
theorem inS_ok {neg : Bool} : OpS X E (rIn X.K neg) (inS neg) := by
  intro x y dx sy B ρ m H Q s rx ry w
  obtain ⟨ds, xs, a, e, rfl, h2, h3⟩ := items_ok (E := E) (Pp := fun _ => True) s ry (Wt.bind w)
  have w2 : Wt X.K B ρ H E (PD X.K Q) ((itemsS sy m).bind fun ds => if (flatD dx && ds.all flatD) = true then M.pure (.bl (if neg then !inL dx ds else inL dx ds)) else bad) := w
  rw [e] at w2
  have w3 : Wt X.K B ρ H E (PD X.K Q) ((if (flatD dx && ds.all flatD) = true then M.pure (.bl (if neg then !inL dx ds else inL dx ds)) else bad : M D) m) := w2
  split at w3
  · rename_i hc
    obtain ⟨c1, c2⟩ := Bool.and_eq_true_iff.mp hc
    obtain ⟨g1, g2⟩ := rx.flat c1
    obtain ⟨g3, g4⟩ := h3.flat c2
    refine ⟨a, xs, rfl, h2, g2, g4, ?_⟩
    rw [g1, g3, inL_ok c1 c2]
    exact Wt.ok (E := E) (m := m) w3 s _ rfl
  · exact w3.elim
theorem se_in {gb : SD → M S} (ha : SE X E a fa) (hb : SX X E b gb) (hm : behindInMarks .In b = false := by rfl) : SE X E (.Compare a [.In] [b] pos) (fun sd => M.bind (fa sd) fun x => M.bind (gb sd) fun y => inS false x y) := se_cmpS op_in_seq inS_ok ha hb hm
theorem se_notin {gb : SD → M S} (ha : SE X E a fa) (hb : SX X E b gb) (hm : behindInMarks .NotIn b = false := by rfl) : SE X E (.Compare a [.NotIn] [b] pos) (fun sd => M.bind (fa sd) fun x => M.bind (gb sd) fun y => inS true x y) := se_cmpS op_notIn_seq inS_ok ha hb hm
/-! ### tests -/
theorem st_val (h : SE X E e fe) (he : ∀ whole, isTrue e X.env whole = (do let v ← whole; standAt e.pos; holding [v] (truthy v)) := by intro _; rfl) : ST X E e (fun sd => M.bind (fe sd) asB) := by
  obtain ⟨t, p, k⟩ := h
  refine ⟨_, pt_val p he, fun σ sd B ρ m H Q s rl w => k σ sd B ρ m H _ s rl ?_⟩
  refine Wt.bind' (r := fe sd m) w fun d B1 ρ1 m1 H1 t1 s1 w1 v r => ?_
  cases d with
  | bl b => exact ⟨b, r, Wt.ok (E := E) (m := m1) w1 s1⟩
  | _ => exact w1.elim
/-- a comparison as a test -/
theorem st_cmp {op : CmpOp} {f : SD → M D} (h : SE X E (.Compare a [op] [b] pos) f) (hp : ∀ t, PE X (.Compare a [op] [b] pos) t → PT X (.Compare a [op] [b] pos) (tTest t)) : ST X E (.Compare a [op] [b] pos) (fun sd => M.bind (f sd) asB) := by
  obtain ⟨t, p, k⟩ := h
  refine ⟨_, hp t p, fun σ sd B ρ m H Q s rl w => k σ sd B ρ m H _ s rl ?_⟩
  refine Wt.bind' (r := f sd m) w fun d B1 ρ1 m1 H1 t1 s1 w1 v r => ?_
  cases d with
  | bl b => exact ⟨b, r, Wt.ok (E := E) (m := m1) w1 s1⟩
  | _ => exact w1.elim
theorem st_not {ga : SD → M Bool} (h : ST X E a ga) : ST X E (.UnaryOp .Not a pos) (fun sd => M.bind (ga sd) fun b => M.pure (!b)) := by
  obtain ⟨t, p, k⟩ := h
  refine ⟨_, pt_not p, fun σ sd B ρ m H Q s rl w => k σ sd B ρ m H _ s rl ?_⟩
  exact Wt.bind' (r := ga sd m) w fun d B1 ρ1 m1 H1 t1 s1 w1 => Wt.ok (E := E) (m := m1) w1 s1
theorem sw_and1 {ga : SD → M Bool} (h : ST X E a ga) : SW X E (.BoolOp .And [a] pos) ga := by
  obtain ⟨t, p, k⟩ := h
  exact ⟨t, pw_and1 p, k⟩
theorem sw_or1 {ga : SD → M Bool} (h : ST X E a ga) : SW X E (.BoolOp .Or [a] pos) ga := by
  obtain ⟨t, p, k⟩ := h
  exact ⟨t, pw_or1 p, k⟩
theorem sw_and {rest : List Expr} {ga gb : SD → M Bool} (h : ST X E a ga) (h2 : SW X E (.BoolOp .And (b :: rest) pos) gb) : SW X E (.BoolOp .And (a :: b :: rest) pos) (fun sd => M.bind (ga sd) fun c => if c = true then gb sd else M.pure false) := by
  obtain ⟨ta, pa, ka⟩ := h
  obtain ⟨tb, pb, kb⟩ := h2
  refine ⟨_, pw_and pa pb, fun σ sd B ρ m H Q s rl w => ka σ sd B ρ m H _ s rl ?_⟩
  refine Wt.bind' (r := ga sd m) w fun d B1 ρ1 m1 H1 t1 s1 w1 => ?_
  cases d with
  | true => exact kb σ sd B1 ρ1 m1 H1 Q s1 (rl.ste t1) w1
  | false => exact Wt.ok (E := E) (m := m1) w1 s1
theorem sw_or {rest : List Expr} {ga gb : SD → M Bool} (h : ST X E a ga) (h2 : SW X E (.BoolOp .Or (b :: rest) pos) gb) : SW X E (.BoolOp .Or (a :: b :: rest) pos) (fun sd => M.bind (ga sd) fun c => if c = true then M.pure true else gb sd) := by
  obtain ⟨ta, pa, ka⟩ := h
  obtain ⟨tb, pb, kb⟩ := h2
  refine ⟨_, pw_or pa pb, fun σ sd B ρ m H Q s rl w => ka σ sd B ρ m H _ s rl ?_⟩
  refine Wt.bind' (r := ga sd m) w fun d B1 ρ1 m1 H1 t1 s1 w1 => ?_
  cases d with
  | false => exact kb σ sd B1 ρ1 m1 H1 Q s1 (rl.ste t1) w1
  | true => exact Wt.ok (E := E) (m := m1) w1 s1
theorem st_bool {ga : SD → M Bool} (h : SW X E e ga) : ST X E e ga := by
  obtain ⟨t, p, k⟩ := h
  exact ⟨t, p.pt, k⟩
theorem se_one {op} (h : SE X E a fa) : SE X E (.BoolOp op [a] pos) fa := by
  obtain ⟨t, p, k⟩ := h
  exact ⟨t, pe_one p, k⟩
theorem se_and {rest : List Expr} (h : SE X E a fa) (h2 : SE X E (.BoolOp .And (b :: rest) pos) fb) : SE X E (.BoolOp .And (a :: b :: rest) pos) (fun sd => M.bind (fa sd) fun x => M.bind (asB x) fun c => if c = true then fb sd else M.pure (.bl false)) := by
  obtain ⟨ta, pa, ka⟩ := h
  obtain ⟨tb, pb, kb⟩ := h2
  refine ⟨_, pe_and pa pb, fun σ sd B ρ m H Q s rl w => ka σ sd B ρ m H _ s rl ?_⟩
  refine Wt.bind' (r := fa sd m) w fun d B1 ρ1 m1 H1 t1 s1 w1 v r => ?_
  cases d with
  | bl c =>
    refine ⟨c, r, ?_⟩
    cases c with
    | true => exact kb σ sd B1 ρ1 m1 H1 Q s1 (rl.ste t1) w1
    | false => exact Wt.ok (E := E) (m := m1) w1 s1 _ rfl
  | _ => exact w1.elim
theorem se_or {rest : List Expr} (h : SE X E a fa) (h2 : SE X E (.BoolOp .Or (b :: rest) pos) fb) : SE X E (.BoolOp .Or (a :: b :: rest) pos) (fun sd => M.bind (fa sd) fun x => M.bind (asB x) fun c => if c = true then M.pure (.bl true) else fb sd) := by
  obtain ⟨ta, pa, ka⟩ := h
  obtain ⟨tb, pb, kb⟩ := h2
  refine ⟨_, pe_or pa pb, fun σ sd B ρ m H Q s rl w => ka σ sd B ρ m H _ s rl ?_⟩
  refine Wt.bind' (r := fa sd m) w fun d B1 ρ1 m1 H1 t1 s1 w1 v r => ?_
  cases d with
  | bl c =>
    refine ⟨c, r, ?_⟩
    cases c with
    | false => exact kb σ sd B1 ρ1 m1 H1 Q s1 (rl.ste t1) w1
    | true => exact Wt.ok (E := E) (m := m1) w1 s1 _ rfl
  | _ => exact w1.elim
theorem se_not (h : SE X E a fa) : SE X E (.UnaryOp .Not a pos) (fun sd => M.bind (fa sd) fun x => M.bind (asB x) fun c => M.pure (.bl (!c))) := by
  obtain ⟨ta, pa, ka⟩ := h
  refine ⟨_, pe_not pa, fun σ sd B ρ m H Q s rl w => ka σ sd B ρ m H _ s rl ?_⟩
  refine Wt.bind' (r := fa sd m) w fun d B1 ρ1 m1 H1 t1 s1 w1 v r => ?_
  cases d with
  | bl c => exact ⟨c, r, Wt.ok (E := E) (m := m1) w1 s1 _ rfl⟩
  | _ => exact w1.elim
theorem se_if {ga : SD → M Bool} (h : ST X E c ga) (ha : SE X E a fa) (hb : SE X E b fb) : SE X E (.IfExp c a b pos) (fun sd => M.bind (ga sd) fun z => if z = true then fa sd else fb sd) := by
  obtain ⟨tc, pc, kc⟩ := h
  obtain ⟨ta, pa, ka⟩ := ha
  obtain ⟨tb, pb, kb⟩ := hb
  refine ⟨_, pe_ifExp pc pa pb, fun σ sd B ρ m H Q s rl w => kc σ sd B ρ m H _ s rl ?_⟩
  refine Wt.bind' (r := ga sd m) w fun d B1 ρ1 m1 H1 t1 s1 w1 => ?_
  cases d with
  | true => exact ka σ sd B1 ρ1 m1 H1 Q s1 (rl.ste t1) w1
  | false => exact kb σ sd B1 ρ1 m1 H1 Q s1 (rl.ste t1) w1
theorem se_neg (h : SE X E a fa) : SE X E (.UnaryOp .USub a pos) (fun sd => M.bind (fa sd) fun x => M.bind (asI x) fun i => M.pure (.int (-i))) := by
  obtain ⟨ta, pa, ka⟩ := h
  refine ⟨_, pe_un un_neg pa, fun σ sd B ρ m H Q s rl w => ka σ sd B ρ m H _ s rl ?_⟩
  refine Wt.bind' (r := fa sd m) w fun d B1 ρ1 m1 H1 t1 s1 w1 v r => ?_
  cases d with
  | int i => exact ⟨i, r, Wt.ok (E := E) (m := m1) w1 s1 _ rfl⟩
  | _ => exact w1.elim
/-! ### arguments, displays -/
theorem sa_nil : SA X E [] (fun _ => M.pure []) := ⟨_, pa_nil, fun σ sd B ρ m H Q s rl w => Wt.ok (E := E) (m := m) w s _ rfl⟩
theorem sa_cons {es : List Expr} {ga : SD → M S} {gs : SD → M (List S)} (ha : SX X E e ga) (hs : SA X E es gs) (hst : starEach (e :: es) X.env = (false, eval e X.env) :: starEach es X.env := by rfl) :
    SA X E (e :: es) (fun sd => M.bind (ga sd) fun x => M.bind (gs sd) fun xs => M.pure (x :: xs)) := by
  obtain ⟨ta, pa, ka⟩ := ha
  obtain ⟨tb, pb, kb⟩ := hs
  refine ⟨_, pa_cons pa pb hst, fun σ sd B ρ m H Q s rl w => ka σ sd B ρ m H _ s rl ?_⟩
  refine Wt.bind' (r := ga sd m) w fun d B1 ρ1 m1 H1 t1 s1 w1 v r => kb σ sd B1 ρ1 m1 H1 _ s1 (rl.ste t1) ?_
  exact Wt.bind' (r := gs sd m1) w1 fun ds B2 ρ2 m2 H2 t2 s2 w2 vs rs => Wt.ok (E := E) (m := m2) w2 s2 _ ⟨v, vs, rfl, r.ste t2, rs⟩
def SL (X : Cx) (E : XK) (es : List Expr) (f : SD → M (List D)) : Prop := ∃ t, PA X es t ∧ ∀ σ sd B ρ m H Q, Sim X.K B ρ m H → RelS X.K B ρ σ sd → Wt X.K B ρ H E (fun ds B' _ _ H' => ∀ vs, RepL X.K B' ds vs → Q vs H') (f sd m) → t σ H Q
theorem sl_nil : SL X E [] (fun _ => M.pure []) := ⟨_, pa_nil, fun σ sd B ρ m H Q s rl w => Wt.ok (E := E) (m := m) w s _ rfl⟩
theorem sl_cons {es : List Expr} {gs : SD → M (List D)} (ha : SE X E e fe) (hs : SL X E es gs) (hst : starEach (e :: es) X.env = (false, eval e X.env) :: starEach es X.env := by rfl) :
    SL X E (e :: es) (fun sd => M.bind (fe sd) fun x => M.bind (gs sd) fun xs => M.pure (x :: xs)) := by
  obtain ⟨ta, pa, ka⟩ := ha
  obtain ⟨tb, pb, kb⟩ := hs
  refine ⟨_, pa_cons pa pb hst, fun σ sd B ρ m H Q s rl w => ka σ sd B ρ m H _ s rl ?_⟩
  refine Wt.bind' (r := fe sd m) w fun d B1 ρ1 m1 H1 t1 s1 w1 v r => kb σ sd B1 ρ1 m1 H1 _ s1 (rl.ste t1) ?_
  exact Wt.bind' (r := gs sd m1) w1 fun ds B2 ρ2 m2 H2 t2 s2 w2 vs rs => Wt.ok (E := E) (m := m2) w2 s2 _ ⟨v, vs, rfl, r.mono t2.bb, rs⟩
def fitL {α : Type} (ds : List D) (x : M α) : M α := if ds.length ≤ 16777216 then x else bad
theorem fitL_ok {α : Type} {ds : List D} {x : M α} {P : α → Hp → Rho → Mem → Hp → Prop} (w : Wt K B ρ H E P (fitL ds x m)) : ds.length ≤ sizeLine ∧ Wt K B ρ H E P (x m) := by
  unfold fitL at w
  split at w
  · rename_i h
    exact ⟨by rw [sl16]; exact h, w⟩
  · exact w.elim
theorem se_tup {es : List Expr} {k} {gs : SD → M (List D)} (hs : SL X E es gs) : SE X E (.Tuple es k pos) (fun sd => M.bind (gs sd) fun ds => fitL ds (M.pure (.tup ds))) := by
  obtain ⟨t, p, kk⟩ := hs
  refine ⟨_, pe_tup p, fun σ sd B ρ m H Q s rl w => kk σ sd B ρ m H _ s rl ?_⟩
  refine Wt.bind' (r := gs sd m) w fun ds B1 ρ1 m1 H1 t1 s1 w1 vs rs => ?_
  obtain ⟨hl, w2⟩ := fitL_ok w1
  exact ⟨by rw [rs.length]; exact hl, fun p hp => Wt.tup s1 w2 rs hp⟩
theorem sf_lst {es : List Expr} {gs : SD → M (List D)} (hs : SL X E es gs) : SF X E (.List es pos) (fun sd => M.bind (gs sd) fun ds => fitL ds (M.pure ds)) := by
  obtain ⟨t, p, kk⟩ := hs
  refine ⟨_, pe_lst p, fun σ sd B ρ m H Q s rl w => kk σ sd B ρ m H _ s rl ?_⟩
  refine Wt.bindO (r := gs sd m) w fun ds B1 ρ1 m1 H1 t1 s1 w1 vs rs => ?_
  obtain ⟨hl, w2⟩ := fitL_ok w1
  refine ⟨by rw [rs.length]; exact hl, fun p hp => ?_⟩
  have h0 : H p = none := t1.fresh s1 hp
  exact Wt.ok' w2 (t1.trans (Ste.newH hp)) (s1.newH hp) p vs h0 (s1.bnone hp) (s1.nown hp) upd_same rs
end
end Mi

set_option Elab.async false
set_option linter.all false
set_option maxRecDepth 100000
set_option maxHeartbeats 4000000
/-! The layer Mi. Part 4: what is walked, targets, statements, loops, comprehensions. -/
namespace Mi
open PySem PySem.Spec PyProof.Rows L2
/-! ### a reading that does not hang on the context's entry -/
def semE (X : Cx) (e : Expr) : TE := fun σ H Q => ∀ pins s, Inv X pins σ H s → wpAny (model X.prog X.w) X.A (eval e X.env) (EP X pins σ Q) X.xe s
def semT (X : Cx) (e : Expr) : TT := fun σ H Q => ∀ pins s, Inv X pins σ H s → wpAny (model X.prog X.w) X.A (isTrue e X.env (eval e X.env)) (TP X pins σ Q) X.xe s
def semG (X : Cx) (tg : Expr) : TG := fun v σ H Q => ∀ pins s u, Inv X pins σ H s → RelV v u → wpAny (model X.prog X.w) X.A (assign tg X.env u) (fun _ s' => ∃ σ' H', Inv X pins σ' H' s' ∧ Q σ' H') X.xe s
def semI (X : Cx) (tg iter : Expr) : TI := fun σ H R => ∀ pins s, Inv X pins σ H s → wpAny (model X.prog X.w) X.A (eval iter X.env) (fun v s1 => wpAny (model X.prog X.w) X.A (pyIter v) (PIE X pins σ tg R) X.xe s1) X.xe s
/-! ### what is walked -/
/-- the iterator J gives the data ds, one by one, whatever steps come between -/
def Yields (K : PySem.W.Frag) (B1 : Hp) (ρ1 : Rho) (H1 : Hp) (ds : List D) (J : It) : Prop := ∀ B' ρ' m' H', Ste B1 ρ1 H1 B' ρ' H' → Sim K B' ρ' m' H' →
  (∀ (i : Nat) d, ds[i]? = some d → J.go i H' ∧ ∀ x H'', J.yld i H' x H'' → ∃ B'', Ste B' ρ' H' B'' ρ' H'' ∧ Sim K B'' ρ' m' H'' ∧ Rep K B'' d x) ∧ ∀ i : Nat, ds.length ≤ i → J.stop i H'
def SI (X : Cx) (E : XK) (tg iter : Expr) (f : SD → M (List D)) : Prop := ∃ wi, PI X tg iter wi ∧ ∀ σ sd B ρ m H R, Sim X.K B ρ m H → RelS X.K B ρ σ sd → Wt X.K B ρ H E (fun ds B1 ρ1 _ H1 => ∀ J, Yields X.K B1 ρ1 H1 ds J → R J H1) (f sd m) → wi σ H R
/-- a target; js: the slots that it may set -/
def SG (X : Cx) (E : XK) (js : List Nat) (tg : Expr) (g : D → SD → M SD) : Prop := ∃ t, PG X tg t ∧ ∀ σ sd B ρ m H v d Q, Sim X.K B ρ m H → RelS X.K B ρ σ sd → Rep X.K B d v →
  Wt X.K B ρ H E (fun sd' B' ρ' _ H' => ∀ σ', σ'.length = σ.length → (∀ i, i ∉ js → σ'[i]? = σ[i]?) → RelS X.K B' ρ' σ' sd' → Q σ' H') (g d sd m) → t v σ H Q
inductive Fl where
  | nx (sd : SD) | rt (d : D) | bk (sd : SD) | ct (sd : SD)
abbrev PFf (K : PySem.W.Frag) (De : Ends) : Fl → Hp → Rho → Mem → Hp → Prop := fun fl B' ρ' _ H' => match fl with
  | .nx sd => ∀ σ', RelS K B' ρ' σ' sd → De.nx σ' H'
  | .rt d => ∀ v, Rep K B' d v → De.rt v H'
  | .bk sd => ∀ σ', RelS K B' ρ' σ' sd → De.bk σ' H'
  | .ct sd => ∀ σ', RelS K B' ρ' σ' sd → De.ct σ' H'
def SS (X : Cx) (E : XK) (st : Stmt) (g : SD → M Fl) : Prop := ∃ t, PS X st t ∧ ∀ De σ sd B ρ m H, Sim X.K B ρ m H → RelS X.K B ρ σ sd → Wt X.K B ρ H E (PFf X.K De) (g sd m) → t De σ H
def SSs (X : Cx) (E : XK) (st : List Stmt) (g : SD → M Fl) : Prop := ∃ t, PSs X st t ∧ ∀ De σ sd B ρ m H, Sim X.K B ρ m H → RelS X.K B ρ σ sd → Wt X.K B ρ H E (PFf X.K De) (g sd m) → t De σ H
section
variable {X : Cx} {E : XK} {K : PySem.W.Frag} {B : Hp} {ρ : Rho} {m : Mem} {H : Hp} {a b c e tg iter : Expr} {pos : Pos} {fa fb fc fe : SD → M D}
/-! #### lists, tuples -/
def itemsD : D → M (List D)
  | .lst ds => M.pure ds
  | .tup ds => M.pure ds
  | .scr ns => M.pure (ns.map .int)
  | _ => bad
theorem yields_list {a : Addr} {xs : List V} {ds : List D} {B1 : Hp} {ρ1 : Rho} {H1 : Hp} (h : SqL K B1 a xs) (r : RepL K B1 ds xs) : Yields K B1 ρ1 H1 ds (Itl K a) := by
  intro B' ρ' m' H' t s
  have hq : SqL K H' a xs := s.ex.l (t.bb.l h)
  have r' := r.mono t.bb
  refine ⟨fun i d e => ?_, fun i hi => ⟨xs, hq, by rw [r.length]; exact hi⟩⟩
  obtain ⟨v, h1, h2⟩ := r'.get e
  refine ⟨⟨xs, v, hq, h1⟩, fun x H'' hy => ?_⟩
  obtain ⟨e1, e2⟩ := hy
  have e3 := e2 xs hq
  rw [h1] at e3
  cases e3
  subst e1
  exact ⟨B', Ste.refl _ _ _, s, h2⟩
theorem yields_tup {a : Addr} {xs : List V} {ds : List D} {B1 : Hp} {ρ1 : Rho} {H1 : Hp} (h : SqT K B1 a xs) (r : RepL K B1 ds xs) : Yields K B1 ρ1 H1 ds (Itt K a) := by
  intro B' ρ' m' H' t s
  have hq : SqT K H' a xs := s.ex.t (t.bb.t h)
  have r' := r.mono t.bb
  refine ⟨fun i d e => ?_, fun i hi => ⟨xs, hq, by rw [r.length]; exact hi⟩⟩
  obtain ⟨v, h1, h2⟩ := r'.get e
  refine ⟨⟨xs, v, hq, h1⟩, fun x H'' hy => ?_⟩
  obtain ⟨e1, e2⟩ := hy
  have e3 := e2 xs hq
  rw [h1] at e3
  cases e3
  subst e1
  exact ⟨B', Ste.refl _ _ _, s, h2⟩
theorem pi_or {w1 w2 : TI} (h1 : PI X tg iter w1) (h2 : PI X tg iter w2) : PI X tg iter (fun σ H R => w1 σ H R ∨ w2 σ H R) := ⟨fun pins s σ H R I q => by
  rcases q with q | q
  · exact h1.run pins s σ H R I q
  · exact h2.run pins s σ H R I q⟩
theorem si_seq (ha : SE X E iter fa) : SI X E tg iter (fun sd => M.bind (fa sd) itemsD) := by
  obtain ⟨ta, pa, ka⟩ := ha
  refine ⟨_, pi_or (pi_list pa) (pi_tup pa), fun σ sd B ρ m H R s rl w => ?_⟩
  have w2 : Wt X.K B ρ H E (fun ds B1 ρ1 _ H1 => ∀ J, Yields X.K B1 ρ1 H1 ds J → R J H1) ((fa sd m).bind itemsD) := w
  have go_l : (∀ d m1, fa sd m = .ok d m1 → ∃ ds, itemsD d = M.pure ds ∧ ∀ B1 v, Rep X.K B1 d v → ∃ a xs, v = .ref a ∧ SqL X.K B1 a xs ∧ RepL X.K B1 ds xs) → iList X.K ta σ H R := fun hh => by
    refine ka σ sd B ρ m H _ s rl ?_
    cases q : fa sd m with
    | ok d m1 =>
      rw [q] at w2
      obtain ⟨ds, e1, e2⟩ := hh d m1 q
      refine fun B1 ρ1 H1 t1 s1 v r => ?_
      obtain ⟨a, xs, rfl, h2, h3⟩ := e2 B1 v r
      refine ⟨a, rfl, ⟨xs, s1.ex.l h2⟩, ?_⟩
      have w3 : Wt X.K B ρ H E (fun ds B1 ρ1 _ H1 => ∀ J, Yields X.K B1 ρ1 H1 ds J → R J H1) (itemsD d m1) := w2
      rw [e1] at w3
      exact Wt.ok' w3 t1 s1 _ (yields_list h2 h3)
    | exc c fs m1 =>
      rw [q] at w2
      exact w2
    | bad =>
      rw [q] at w2
      exact w2
  have go_t : (∀ d m1, fa sd m = .ok d m1 → ∃ ds, itemsD d = M.pure ds ∧ ∀ B1 v, Rep X.K B1 d v → ∃ a xs, v = .ref a ∧ SqT X.K B1 a xs ∧ RepL X.K B1 ds xs) → iTup X.K ta σ H R := fun hh => by
    refine ka σ sd B ρ m H _ s rl ?_
    cases q : fa sd m with
    | ok d m1 =>
      rw [q] at w2
      obtain ⟨ds, e1, e2⟩ := hh d m1 q
      refine fun B1 ρ1 H1 t1 s1 v r => ?_
      obtain ⟨a, xs, rfl, h2, h3⟩ := e2 B1 v r
      refine ⟨a, rfl, ⟨xs, s1.ex.t h2⟩, ?_⟩
      have w3 : Wt X.K B ρ H E (fun ds B1 ρ1 _ H1 => ∀ J, Yields X.K B1 ρ1 H1 ds J → R J H1) (itemsD d m1) := w2
      rw [e1] at w3
      exact Wt.ok' w3 t1 s1 _ (yields_tup h2 h3)
    | exc c fs m1 =>
      rw [q] at w2
      exact w2
    | bad =>
      rw [q] at w2
      exact w2
  cases q : fa sd m with
  | exc c fs m1 => exact .inl (go_l fun d m1 e => by rw [q] at e; cases e)
  | bad => rw [q] at w2; exact w2.elim
  | ok d m1 =>
    rw [q] at w2
    cases d with
    | lst ds =>
      refine .inl (go_l fun d m1 e => ?_)
      rw [q] at e
      cases e
      refine ⟨ds, rfl, fun B1 v r => ?_⟩
      obtain ⟨a, xs, rfl, h2, h3⟩ := r
      exact ⟨a, xs, rfl, SqL.of h2, h3⟩
    | scr ns =>
      refine .inl (go_l fun d m1 e => ?_)
      rw [q] at e
      cases e
      refine ⟨_, rfl, fun B1 v r => ?_⟩
      obtain ⟨a, rfl, h2⟩ := r
      exact ⟨a, _, rfl, h2, RepL.ints ns⟩
    | tup ds =>
      refine .inr (go_t fun d m1 e => ?_)
      rw [q] at e
      cases e
      refine ⟨ds, rfl, fun B1 v r => ?_⟩
      obtain ⟨a, xs, rfl, h2, h3⟩ := r
      exact ⟨a, xs, rfl, SqT.of h2, h3⟩
    | _ => exact w2.elim
/-! #### ranges -/
def rngL (lo hi : Int) : List D := (List.range (hi - lo).toNat).map fun i => .int (lo + (i : Nat))
theorem yields_rng {lo : Int} {n : Nat} {B1 : Hp} {ρ1 : Rho} {H1 : Hp} : Yields K B1 ρ1 H1 ((List.range n).map fun i => D.int (lo + (i : Nat))) (Itr lo n) := by
  intro B' ρ' m' H' t s
  refine ⟨fun i d e => ?_, fun i hi => (show n ≤ i by simpa using hi)⟩
  rw [List.getElem?_map] at e
  have hi : i < n := by
    cases q : (List.range n)[i]? with
    | none => rw [q] at e; cases e
    | some j => simpa using (List.getElem?_eq_some_iff.mp q).1
  rw [List.getElem?_range hi] at e
  cases e
  refine ⟨hi, fun x H'' hy => ?_⟩
  obtain ⟨e1, e2⟩ := hy
  subst e1 e2
  exact ⟨B', Ste.refl _ _ _, s, rfl⟩
def inR (i : Int) : Bool := decide (-(4611686018427387904) ≤ i) && decide (i < 4611686018427387904)
theorem inR_ok {i : Int} (h : inR i = true) : -(2 ^ 62) ≤ i ∧ i < 2 ^ 62 := by
  unfold inR at h
  simp only [Bool.and_eq_true, decide_eq_true_eq] at h
  exact ⟨by omega, by omega⟩
def rng1 (x : D) : M (List D) := M.bind (asI x) fun n => if inR n = true then M.pure (rngL 0 n) else bad
def rng2 (x y : D) : M (List D) := M.bind (asI x) fun lo => M.bind (asI y) fun hi => if (inR lo && inR hi) = true then M.pure (rngL lo hi) else bad
theorem si_rng1 {p : Pos} (hm : X.mg "range" = none) (ha : SE X E a fa) (hg : Gl X "range" := by rfl) (hs : starEach [a] X.env = [(false, eval a X.env)] := by rfl) : SI X E tg (.Call (.Name "range" p) [a] [] pos) (fun sd => M.bind (fa sd) rng1) := by
  obtain ⟨ta, pa, ka⟩ := ha
  refine ⟨_, pi_range1 hg hm (pa_cons pa pa_nil hs) hs, fun σ sd B ρ m H R s rl w => ka σ sd B ρ m H _ s rl ?_⟩
  refine Wt.bind' (r := fa sd m) w fun d B1 ρ1 m1 H1 t1 s1 w1 v r => ?_
  cases d with
  | int n =>
    have w2 : Wt X.K B1 ρ1 H1 E (fun ds B1 ρ1 _ H1 => ∀ J, Yields X.K B1 ρ1 H1 ds J → R J H1) ((if inR n = true then M.pure (rngL 0 n) else bad : M (List D)) m1) := w1
    split at w2
    · rename_i hc
      obtain ⟨h1, h2⟩ := inR_ok hc
      refine ⟨n, by rw [show v = .int n from r], h1, h2, Wt.ok (E := E) (m := m1) w2 s1 _ ?_⟩
      have q := yields_rng (K := X.K) (lo := 0) (n := n.toNat) (B1 := B1) (ρ1 := ρ1) (H1 := H1)
      unfold rngL
      rw [Int.sub_zero]
      exact q
    · exact w2.elim
  | _ => exact w1.elim
theorem si_rng2 {p : Pos} (hm : X.mg "range" = none) (ha : SE X E a fa) (hb : SE X E b fb) (hg : Gl X "range" := by rfl) (hs : starEach [a, b] X.env = [(false, eval a X.env), (false, eval b X.env)] := by rfl) (hs2 : starEach [b] X.env = [(false, eval b X.env)] := by rfl) :
    SI X E tg (.Call (.Name "range" p) [a, b] [] pos) (fun sd => M.bind (fa sd) fun x => M.bind (fb sd) fun y => rng2 x y) := by
  obtain ⟨ta, pa, ka⟩ := ha
  obtain ⟨tb, pb, kb⟩ := hb
  refine ⟨_, pi_range2 hg hm (pa_cons pa (pa_cons pb pa_nil hs2) (by rw [hs, hs2])) hs hs2, fun σ sd B ρ m H R s rl w => ka σ sd B ρ m H _ s rl ?_⟩
  refine Wt.bind' (r := fa sd m) w fun d B1 ρ1 m1 H1 t1 s1 w1 v r => kb σ sd B1 ρ1 m1 H1 _ s1 (rl.ste t1) ?_
  refine Wt.bind' (r := fb sd m1) w1 fun d2 B2 ρ2 m2 H2 t2 s2 w2 v2 r2 => ?_
  cases d with
  | int lo =>
    cases d2 with
    | int hi =>
      have w3 : Wt X.K B2 ρ2 H2 E (fun ds B1 ρ1 _ H1 => ∀ J, Yields X.K B1 ρ1 H1 ds J → R J H1) ((if (inR lo && inR hi) = true then M.pure (rngL lo hi) else bad : M (List D)) m2) := w2
      split at w3
      · rename_i hc
        obtain ⟨c1, c2⟩ := Bool.and_eq_true_iff.mp hc
        obtain ⟨h1, h2⟩ := inR_ok c1
        obtain ⟨h3, h4⟩ := inR_ok c2
        exact ⟨lo, hi, by rw [show v = .int lo from r, show v2 = .int hi from r2], ⟨h1, h2, h3, h4⟩, Wt.ok (E := E) (m := m2) w3 s2 _ yields_rng⟩
      · exact w3.elim
    | _ => exact w2.elim
  | _ => exact w2.elim
/-! #### enumerate of a list, zip of two lists -/
def enumL (ds : List D) : List D := (List.range ds.length).map fun i => .tup [.int (i : Nat), ds.getD i .non]
theorem si_enum {p tpos : Pos} {elts : List Expr} {kk : Nat} (hm : X.mg "enumerate" = none) (ha : SE X E a fa) (hg : Gl X "enumerate" := by rfl) (hs : starEach [a] X.env = [(false, eval a X.env)] := by rfl) :
    SI X E (.Tuple elts kk tpos) (.Call (.Name "enumerate" p) [a] [] pos) (fun sd => M.bind (fa sd) fun x => M.bind (asL x) fun ds => M.pure (enumL ds)) := by
  obtain ⟨ta, pa, ka⟩ := ha
  refine ⟨_, pi_enum hg hm (pa_cons pa pa_nil hs) hs, fun σ sd B ρ m H R s rl w => ka σ sd B ρ m H _ s rl ?_⟩
  refine Wt.bind' (r := fa sd m) w fun d B1 ρ1 m1 H1 t1 s1 w1 v r => ?_
  cases d with
  | lst ds =>
    obtain ⟨a, xs, rfl, h2, h3⟩ := r
    refine ⟨a, xs, rfl, SqL.of (s1.ex _ _ h2), Wt.ok (E := E) (m := m1) w1 s1 _ ?_⟩
    intro B' ρ' m' H' t s'
    have hq : SqL X.K H' a xs := SqL.of (s'.ex _ _ (t.bb _ _ h2))
    have r' := h3.mono t.bb
    refine ⟨fun i d e => ?_, fun i hi => ⟨xs, hq, by rw [h3.length]; simpa [enumL] using hi⟩⟩
    unfold enumL at e
    rw [List.getElem?_map] at e
    have hi : i < ds.length := by
      cases q : (List.range ds.length)[i]? with
      | none => rw [q] at e; cases e
      | some j => simpa using (List.getElem?_eq_some_iff.mp q).1
    rw [List.getElem?_range hi] at e
    cases e
    obtain ⟨x, g1, g2⟩ := r'.get (List.getElem?_eq_getElem hi)
    refine ⟨⟨xs, x, hq, g1⟩, fun y H'' hy => ?_⟩
    obtain ⟨T, x', rfl, hT, rfl, hx⟩ := hy
    have ex : x' = x := by
      have z := hx xs hq
      rw [g1] at z
      exact (Option.some.inj z).symm
    subst ex
    refine ⟨_, Ste.new s'.ex hT, s'.new hT, T, _, rfl, upd_same, ?_⟩
    refine ⟨.int (i : Nat), _, rfl, rfl, x', [], rfl, ?_, rfl⟩
    have ed : ds.getD i .non = ds[i] := by simp [List.getD_eq_getElem?_getD, List.getElem?_eq_getElem hi]
    rw [ed]
    exact g2.mono (Sub.upd (s'.bnone hT))
  | _ => exact w1.elim
/-! #### zip of two lists -/
def zipL (as bs : List D) : List D := (as.zip bs).map fun p => .tup [p.1, p.2]
theorem si_zip {p tpos : Pos} {elts : List Expr} {kk : Nat} (hm : X.mg "zip" = none) (ha : SE X E a fa) (hb : SE X E b fb) (hg : Gl X "zip" := by rfl) (hs : starEach [a, b] X.env = (false, eval a X.env) :: starEach [b] X.env := by rfl)
    (hpl : (backTo pos (starEach [b] X.env)).any (·.1) = false := by rfl) (hs2 : starEach [b] X.env = (false, eval b X.env) :: starEach [] X.env := by rfl) :
    SI X E (.Tuple elts kk tpos) (.Call (.Name "zip" p) [a, b] [] pos) (fun sd => M.bind (fa sd) fun x => M.bind (fb sd) fun y => M.bind (asL x) fun ds => M.bind (asL y) fun es => M.pure (zipL ds es)) := by
  obtain ⟨ta, pa, ka⟩ := ha
  obtain ⟨tb, pb, kb⟩ := hb
  refine ⟨_, pi_zip hg hm (pa_cons pa (pa_cons pb pa_nil hs2) hs) hs hpl, fun σ sd B ρ m H R s rl w => ka σ sd B ρ m H _ s rl ?_⟩
  refine Wt.bind' (r := fa sd m) w fun d B1 ρ1 m1 H1 t1 s1 w1 v r => kb σ sd B1 ρ1 m1 H1 _ s1 (rl.ste t1) ?_
  refine Wt.bind' (r := fb sd m1) w1 fun d2 B2 ρ2 m2 H2 t2 s2 w2 v2 r2 => ?_
  cases d with
  | lst ds =>
    cases d2 with
    | lst es =>
      obtain ⟨a, xs, rfl, h2, h3⟩ := r
      obtain ⟨b, ys, rfl, g2, g3⟩ := r2
      have h2 := t2.bb _ _ h2
      have h3 := h3.mono t2.bb
      refine ⟨a, b, xs, ys, rfl, SqL.of (s2.ex _ _ h2), SqL.of (s2.ex _ _ g2), Wt.ok (E := E) (m := m2) w2 s2 _ ?_⟩
      intro B' ρ' m' H' t s'
      have hq : SqL X.K H' a xs := SqL.of (s'.ex _ _ (t.bb _ _ h2))
      have hq2 : SqL X.K H' b ys := SqL.of (s'.ex _ _ (t.bb _ _ g2))
      have r' := h3.mono t.bb
      have r2' := g3.mono t.bb
      refine ⟨fun i d e => ?_, fun i hi => ⟨xs, ys, hq, hq2, ?_⟩⟩
      · unfold zipL at e
        rw [List.getElem?_map] at e
        cases q : (ds.zip es)[i]? with
        | none => rw [q] at e; cases e
        | some pr =>
          rw [q] at e
          cases e
          obtain ⟨e1, e2⟩ := List.getElem?_zip_eq_some.mp q
          obtain ⟨x, k1, k2⟩ := r'.get e1
          obtain ⟨y, l1, l2⟩ := r2'.get e2
          refine ⟨⟨xs, ys, x, y, hq, hq2, k1, l1⟩, fun z H'' hy => ?_⟩
          obtain ⟨T, x', y', rfl, hT, rfl, hx, hyy⟩ := hy
          have ex : x' = x := by
            have z := hx xs hq
            rw [k1] at z
            exact (Option.some.inj z).symm
          have ey : y' = y := by
            have z := hyy ys hq2
            rw [l1] at z
            exact (Option.some.inj z).symm
          subst ex ey
          refine ⟨_, Ste.new s'.ex hT, s'.new hT, T, _, rfl, upd_same, ?_⟩
          exact ⟨x', _, rfl, k2.mono (Sub.upd (s'.bnone hT)), y', [], rfl, l2.mono (Sub.upd (s'.bnone hT)), rfl⟩
      · have hl : min ds.length es.length ≤ i := by simpa [zipL, List.length_zip] using hi
        rw [h3.length, g3.length]
        omega
    | _ => exact w2.elim
  | _ => exact w2.elim
/-! ### targets -/
theorem sg_name {i : Nat} {x : Str} (hN : X.N.Nodup) (hi : X.N[i]? = some x := by rfl) (hx : Loc X.env.scope x := by first | exact Or.inl rfl | exact Or.inr rfl) (hf : X.fn x = true ∨ X.env.scope.names.lookup x = some .local := by first | exact .inl rfl | exact .inr rfl | assumption) :
    SG X E [i] (.Name x pos) (fun d sd => M.pure (sd.set i (some (.d d)))) := by
  refine ⟨_, pg_name hN hi hx hf, fun σ sd B ρ m H v d Q s rl r w => ?_⟩
  refine Wt.ok (E := E) (m := m) w s _ (by rw [List.length_set]) (fun j hj => ?_) (rl.set i r)
  rw [List.getElem?_set_ne (fun z => hj (by simp [z]))]
/-- several targets, one behind another -/
def SGs (X : Cx) (E : XK) (js : List Nat) (ts : List Expr) (n : Nat) (g : List D → SD → M SD) : Prop := ∃ t, PGs X ts t ∧ (∀ σ sd B ρ m H vs ds Q, Sim X.K B ρ m H → RelS X.K B ρ σ sd → RepL X.K B ds vs → ds.length = n →
  Wt X.K B ρ H E (fun sd' B' ρ' _ H' => ∀ σ', σ'.length = σ.length → (∀ i, i ∉ js → σ'[i]? = σ[i]?) → RelS X.K B' ρ' σ' sd' → Q σ' H') (g ds sd m) → t vs σ H Q)
theorem sgs_nil : SGs X E [] [] 0 (fun _ sd => M.pure sd) := by
  refine ⟨_, pgs_nil, fun σ sd B ρ m H vs ds Q s rl r hl w => ?_⟩
  rw [List.length_eq_zero_iff.mp hl] at r
  exact ⟨r, Wt.ok (E := E) (m := m) w s _ rfl (fun _ _ => rfl) rl⟩
theorem sgs_cons {js ks : List Nat} {ts : List Expr} {n : Nat} {g1 : D → SD → M SD} {g2 : List D → SD → M SD} (h1 : SG X E js tg g1) (h2 : SGs X E ks ts n g2) (hs : (assignEach (tg :: ts) X.env).map (·.2) = assign tg X.env :: (assignEach ts X.env).map (·.2) := by rfl) :
    SGs X E (js ++ ks) (tg :: ts) (n + 1) (fun ds sd => M.bind (g1 (ds.headD .non) sd) fun sd1 => g2 ds.tail sd1) := by
  obtain ⟨t1, p1, k1⟩ := h1
  obtain ⟨t2, p2, k2⟩ := h2
  refine ⟨_, pgs_cons p1 p2 hs, fun σ sd B ρ m H vs ds Q s rl r hl w => ?_⟩
  cases ds with
  | nil => simp at hl
  | cons d ds =>
    obtain ⟨v, vr, rfl, r1, r2⟩ := r
    refine ⟨v, vr, rfl, k1 σ sd B ρ m H v d _ s rl r1 ?_⟩
    refine Wt.bind' (r := g1 d sd m) w fun sd1 B1 ρ1 m1 H1 st1 s1 w1 σ1 l1 c1 rl1 => k2 σ1 sd1 B1 ρ1 m1 H1 vr ds Q s1 rl1 (r2.mono st1.bb) (by simpa using hl) ?_
    refine Wt.mono w1 fun sd2 B2 ρ2 m2 H2 w2 σ2 l2 c2 rl2 => w2 σ2 (l2.trans l1) (fun i hi => ?_) rl2
    rw [c2 i (fun z => hi (List.mem_append_right _ z)), c1 i (fun z => hi (List.mem_append_left _ z))]
theorem sg_tup {js : List Nat} {es : List Expr} {k n : Nat} {g : List D → SD → M SD} (hc : X.calm = true) (h : SGs X E js es n g) (hn : (assignEach es X.env).length = n := by rfl) (hst : (assignEach es X.env).findIdx? (·.1) = none := by rfl) :
    SG X E js (.Tuple es k pos) (fun d sd => match d with | .tup ds => if ds.length = n then g ds sd else bad | _ => bad) := by
  obtain ⟨t, p, kk⟩ := h
  refine ⟨_, pg_tup hc p hn hst, fun σ sd B ρ m H v d Q s rl r w => ?_⟩
  cases d with
  | tup ds =>
    obtain ⟨a, xs, rfl, h2, h3⟩ := r
    have w2 : Wt X.K B ρ H E (fun sd' B' ρ' _ H' => ∀ σ', σ'.length = σ.length → (∀ i, i ∉ js → σ'[i]? = σ[i]?) → RelS X.K B' ρ' σ' sd' → Q σ' H') ((if ds.length = n then g ds sd else bad : M SD) m) := w
    split at w2
    · rename_i hl
      exact ⟨a, xs, rfl, SqT.of (s.ex _ _ h2), by rw [h3.length]; exact hl, kk σ sd B ρ m H xs ds Q s rl h3 hl w2⟩
    · exact w2.elim
  | _ => exact w.elim
/-! ### blocks -/
def seqM (f g : SD → M Fl) : SD → M Fl := fun sd => M.bind (f sd) fun fl => match fl with
  | .nx sd1 => g sd1
  | r => M.pure r
theorem sss_nil : SSs X E [] (fun sd => M.pure (.nx sd)) := ⟨_, pss_nil, fun De σ sd B ρ m H s rl w => Wt.ok (E := E) (m := m) w s σ rl⟩
theorem sss_one {st : Stmt} {g : SD → M Fl} (h : SS X E st g) : SSs X E [st] g := by
  obtain ⟨t, p, k⟩ := h
  exact ⟨t, pss_one p, k⟩
theorem sss_cons {st : Stmt} {rest : List Stmt} {f g : SD → M Fl} (h : SS X E st f) (h2 : SSs X E rest g) : SSs X E (st :: rest) (seqM f g) := by
  obtain ⟨t, p, k⟩ := h
  obtain ⟨t2, p2, k2⟩ := h2
  refine ⟨_, pss_cons p p2, fun De σ sd B ρ m H s rl w => k _ σ sd B ρ m H s rl ?_⟩
  refine Wt.bind' (r := f sd m) w fun fl B1 ρ1 m1 H1 t1 s1 w1 => ?_
  cases fl with
  | nx sd1 => exact fun σ1 rl1 => k2 De σ1 sd1 B1 ρ1 m1 H1 s1 rl1 w1
  | rt d => exact Wt.ok (E := E) (m := m1) w1 s1
  | bk sd1 => exact Wt.ok (E := E) (m := m1) w1 s1
  | ct sd1 => exact Wt.ok (E := E) (m := m1) w1 s1
theorem ss_pass : SS X E (.Pass pos) (fun sd => M.pure (.nx sd)) := ⟨_, ps_pass, fun De σ sd B ρ m H s rl w => Wt.ok (E := E) (m := m) w s σ rl⟩
theorem ss_break : SS X E (.Break pos) (fun sd => M.pure (.bk sd)) := ⟨_, ps_break, fun De σ sd B ρ m H s rl w => Wt.ok (E := E) (m := m) w s σ rl⟩
theorem ss_cont : SS X E (.Continue pos) (fun sd => M.pure (.ct sd)) := ⟨_, ps_continue, fun De σ sd B ρ m H s rl w => Wt.ok (E := E) (m := m) w s σ rl⟩
theorem ss_ret (h : SE X E e fe) : SS X E (.Return (some e) pos) (fun sd => M.bind (fe sd) fun d => M.pure (.rt d)) := by
  obtain ⟨t, p, k⟩ := h
  refine ⟨_, ps_ret p, fun De σ sd B ρ m H s rl w => k σ sd B ρ m H _ s rl ?_⟩
  exact Wt.bind' (r := fe sd m) w fun d B1 ρ1 m1 H1 t1 s1 w1 v r => Wt.ok (E := E) (m := m1) w1 s1 v r
theorem ss_retN : SS X E (.Return none pos) (fun _ => M.pure (.rt .non)) := ⟨_, ps_retN, fun De σ sd B ρ m H s rl w => Wt.ok (E := E) (m := m) w s _ rfl⟩
theorem ss_if {c : Expr} {sa sb : List Stmt} {ga : SD → M Bool} {f g : SD → M Fl} (hc : ST X E c ga) (ha : SSs X E sa f) (hb : SSs X E sb g) : SS X E (.If c sa sb pos) (fun sd => M.bind (ga sd) fun z => if z = true then f sd else g sd) := by
  obtain ⟨tc, pc, kc⟩ := hc
  obtain ⟨t, p, k⟩ := ha
  obtain ⟨t2, p2, k2⟩ := hb
  refine ⟨_, ps_if pc p p2, fun De σ sd B ρ m H s rl w => kc σ sd B ρ m H _ s rl ?_⟩
  refine Wt.bind' (r := ga sd m) w fun d B1 ρ1 m1 H1 t1 s1 w1 => ?_
  cases d with
  | true => exact k De σ sd B1 ρ1 m1 H1 s1 (rl.ste t1) w1
  | false => exact k2 De σ sd B1 ρ1 m1 H1 s1 (rl.ste t1) w1
theorem ss_expr (h : SE X E e fe) (hs : swapsWith e none pos.line X.env = pure false := by rfl) : SS X E (.Expr e pos) (fun sd => M.bind (fe sd) fun _ => M.pure (.nx sd)) := by
  obtain ⟨t, p, k⟩ := h
  refine ⟨_, ps_expr p hs, fun De σ sd B ρ m H s rl w => k σ sd B ρ m H _ s rl ?_⟩
  exact Wt.bind' (r := fe sd m) w fun d B1 ρ1 m1 H1 t1 s1 w1 v r => Wt.ok (E := E) (m := m1) w1 s1 σ (rl.ste t1)
/-- x = e: data -/
theorem ss_set {i : Nat} {x : Str} {pos' : Pos} (hN : X.N.Nodup) (h : SE X E e fe) (hi : X.N[i]? = some x := by rfl) (hx : Loc X.env.scope x := by first | exact Or.inl rfl | exact Or.inr rfl) (hs : swapsWith e (some (.Name x pos')) pos.line X.env = pure false := by rfl)
    (hf : X.fn x = true ∨ X.env.scope.names.lookup x = some .local := by first | exact .inl rfl | exact .inr rfl | assumption) :
    SS X E (.Assign [.Name x pos'] e pos) (fun sd => M.bind (fe sd) fun d => M.pure (.nx (sd.set i (some (.d d))))) := by
  obtain ⟨t, p, k⟩ := h
  refine ⟨_, ps_set hN hi hx p hs hf, fun De σ sd B ρ m H s rl w => k σ sd B ρ m H _ s rl ?_⟩
  exact Wt.bind' (r := fe sd m) w fun d B1 ρ1 m1 H1 t1 s1 w1 v r => Wt.ok (E := E) (m := m1) w1 s1 _ ((rl.ste t1).set i r)
/-- x = e: data, or the very changing object -/
theorem ss_setX {i : Nat} {x : Str} {pos' : Pos} {gx : SD → M S} (hN : X.N.Nodup) (h : SX X E e gx) (hi : X.N[i]? = some x := by rfl) (hx : Loc X.env.scope x := by first | exact Or.inl rfl | exact Or.inr rfl) (hs : swapsWith e (some (.Name x pos')) pos.line X.env = pure false := by rfl)
    (hf : X.fn x = true ∨ X.env.scope.names.lookup x = some .local := by first | exact .inl rfl | exact .inr rfl | assumption) :
    SS X E (.Assign [.Name x pos'] e pos) (fun sd => M.bind (gx sd) fun d => M.pure (.nx (sd.set i (some d)))) := by
  obtain ⟨t, p, k⟩ := h
  refine ⟨_, ps_set hN hi hx p hs hf, fun De σ sd B ρ m H s rl w => k σ sd B ρ m H _ s rl ?_⟩
  exact Wt.bind' (r := gx sd m) w fun d B1 ρ1 m1 H1 t1 s1 w1 v r => Wt.ok (E := E) (m := m1) w1 s1 _ ((rl.ste t1).set i r)
/-- a new changing list -/
def pushL (ds : List D) : M S := fun m => .ok (.h m.length) (m ++ [.lst ds])
/-- x = e: a new list, that may change from now on -/
theorem ss_setL {i : Nat} {x : Str} {pos' : Pos} {gl : SD → M (List D)} (hN : X.N.Nodup) (h : SF X E e gl) (hi : X.N[i]? = some x := by rfl) (hx : Loc X.env.scope x := by first | exact Or.inl rfl | exact Or.inr rfl) (hs : swapsWith e (some (.Name x pos')) pos.line X.env = pure false := by rfl)
    (hf : X.fn x = true ∨ X.env.scope.names.lookup x = some .local := by first | exact .inl rfl | exact .inr rfl | assumption) :
    SS X E (.Assign [.Name x pos'] e pos) (fun sd => M.bind (gl sd) fun ds => M.bind (pushL ds) fun s => M.pure (.nx (sd.set i (some s)))) := by
  obtain ⟨t, p, k⟩ := h
  refine ⟨_, ps_set hN hi hx p hs hf, fun De σ sd B ρ m H s rl w => k σ sd B ρ m H _ s rl ?_⟩
  refine Wt.bindO (r := gl sd m) w fun ds B1 ρ1 m1 H1 t1 s1 w1 p xs h0 hb ho hp r => ?_
  have s2 : Sim X.K B1 (ρ1 ++ [(p, [])]) (m1 ++ [.lst ds]) H1 := s1.push (fun a z => by
    rcases z with z | z
    · rw [z]; exact ho
    · cases z) ⟨hb, rfl, xs, hp, r⟩
  have t2 := t1.moves h0
  refine Wt.ok' w1 t2 s2 _ ((rl.ste t2).set i ⟨(p, []), ?_, rfl⟩)
  rw [← s1.len]
  simp
end
end Mi

set_option Elab.async false
set_option linter.all false
set_option maxRecDepth 100000
set_option maxHeartbeats 4000000
/-! The layer Mi. Part 5: loops, comprehensions, changing lists, calls. -/
namespace Mi
open PySem PySem.Spec PyProof.Rows L2
/-- for: the target, the body, turn by turn -/
def forM (gt : D → SD → M SD) (gb : SD → M Fl) : List D → SD → M Fl
  | [], sd => M.pure (.nx sd)
  | d :: ds, sd => M.bind (gt d sd) fun sd1 => M.bind (gb sd1) fun fl => match fl with
    | .nx sd2 => forM gt gb ds sd2
    | .ct sd2 => forM gt gb ds sd2
    | .bk sd2 => M.pure (.nx sd2)
    | .rt v => M.pure (.rt v)
/-- while, n turns at most -/
def whileM (gc : SD → M Bool) (gb : SD → M Fl) : Nat → SD → M Fl
  | 0, _ => bad
  | n + 1, sd => M.bind (gc sd) fun c => if c = true then M.bind (gb sd) fun fl => match fl with
      | .nx sd2 => whileM gc gb n sd2
      | .ct sd2 => whileM gc gb n sd2
      | .bk sd2 => M.pure (.nx sd2)
      | .rt v => M.pure (.rt v)
    else M.pure (.nx sd)
def wipeD (sd : SD) : List Nat → SD
  | [] => sd
  | v :: vs => (wipeD sd vs).set v none
/-- a comprehension, acc: what is made so far -/
def compM (vs : List Nat) (gt : D → SD → M SD) (gc : SD → M Bool) (ge : SD → M D) (sd : SD) : List D → List D → M (List D)
  | acc, [] => M.pure acc
  | acc, d :: ds => M.bind (gt d (wipeD sd vs)) fun sd2 => M.bind (gc sd2) fun b => if b = true then M.bind (ge sd2) fun y => if acc.length < 16777216 then compM vs gt gc ge sd (acc ++ [y]) ds else bad
    else compM vs gt gc ge sd acc ds
section
variable {X : Cx} {E : XK} {K : PySem.W.Frag} {B : Hp} {ρ : Rho} {m : Mem} {H : Hp} {a b c e tg iter elt : Expr} {pos : Pos} {fa fb fc fe : SD → M D}
theorem drop_get {α : Type} {l : List α} {i : Nat} {x : α} {r : List α} (h : l.drop i = x :: r) : l[i]? = some x ∧ l.drop (i + 1) = r := by
  have h1 : (l.drop i)[0]? = some x := by rw [h]; rfl
  rw [List.getElem?_drop] at h1
  refine ⟨by simpa using h1, ?_⟩
  have h2 : (l.drop i).drop 1 = r := by rw [h]; rfl
  rw [List.drop_drop] at h2
  exact h2
theorem ss_for {js : List Nat} {body : List Stmt} {fi : SD → M (List D)} {gt : D → SD → M SD} {gb : SD → M Fl} (hp : PassesOwn (model X.prog X.w) X.A X.env X.xe) (hc : X.calm = true) (hi : SI X E tg iter fi) (hg : SG X E js tg gt) (hb : SSs X E body gb)
    (hs : ∀ x, foldedSetIterable iter X.env x = pure x := by intro _; rfl) : SS X E (.For tg iter body [] pos) (fun sd => M.bind (fi sd) fun ds => forM gt gb ds sd) := by
  obtain ⟨wi, pi, ki⟩ := hi
  obtain ⟨tgt, pg, kg⟩ := hg
  obtain ⟨tb, pb, kb⟩ := hb
  refine ⟨_, ps_for hp hc pi pg pb hs, fun De σ sd B ρ m H s rl w => ki σ sd B ρ m H _ s rl ?_⟩
  refine Wt.bind' (r := fi sd m) w fun ds B1 ρ1 m1 H1 t1 s1 w1 J hJ => ?_
  refine ⟨fun i n σ' H' => ∃ sd' B' ρ' m', Ste B1 ρ1 H1 B' ρ' H' ∧ Sim X.K B' ρ' m' H' ∧ RelS X.K B' ρ' σ' sd' ∧ Wt X.K B' ρ' H' E (PFf X.K De) (forM gt gb (ds.drop i) sd' m') ∧ n = ds.length - i, ⟨ds.length, sd, B1, ρ1, m1, Ste.refl _ _ _, s1, rl.ste t1, w1, rfl⟩, ?_⟩
  rintro i n σ' H' ⟨sd', B', ρ', m', t', s', rl', w', rfl⟩
  obtain ⟨go, stop⟩ := hJ B' ρ' m' H' t' s'
  cases hd : ds.drop i with
  | nil =>
    have hl : ds.length ≤ i := by
      have := congrArg List.length hd
      rw [List.length_drop] at this
      simp at this
      omega
    refine .inl ⟨stop i hl, ?_⟩
    rw [hd] at w'
    exact Wt.ok (E := E) (m := m') w' s' σ' rl'
  | cons d r =>
    obtain ⟨e1, e2⟩ := drop_get hd
    have hlt : i < ds.length := (List.getElem?_eq_some_iff.mp e1).1
    obtain ⟨g1, g2⟩ := go i d e1
    rw [hd] at w'
    refine .inr ⟨g1, fun σ2 H2 => ∃ sd2 B2 ρ2 m2, Ste B1 ρ1 H1 B2 ρ2 H2 ∧ Sim X.K B2 ρ2 m2 H2 ∧ RelS X.K B2 ρ2 σ2 sd2 ∧ Wt X.K B2 ρ2 H2 E (PFf X.K De) (forM gt gb (ds.drop (i + 1)) sd2 m2), ?_, ?_⟩
    · rintro σ2 H2 ⟨sd2, B2, ρ2, m2, q1, q2, q3, q4⟩
      exact ⟨ds.length - (i + 1), by omega, sd2, B2, ρ2, m2, q1, q2, q3, q4, rfl⟩
    · intro x H2 hy
      obtain ⟨B2, u1, u2, u3⟩ := g2 x H2 hy
      refine kg σ' sd' B2 ρ' m' H2 x d _ u2 (rl'.ste u1) u3 ?_
      have w2 : Wt X.K B2 ρ' H2 E (PFf X.K De) ((gt d sd' m').bind fun sd1 => M.bind (gb sd1) fun fl => match fl with
        | .nx sd2 => forM gt gb r sd2
        | .ct sd2 => forM gt gb r sd2
        | .bk sd2 => M.pure (.nx sd2)
        | .rt v => M.pure (.rt v)) := Wt.trans (r := forM gt gb (d :: r) sd' m') w' u1
      refine Wt.bind' (r := gt d sd' m') w2 fun sd3 B3 ρ3 m3 H3 t3 s3 w3 σ3 l3 c3 rl3 => ?_
      refine kb _ σ3 sd3 B3 ρ3 m3 H3 s3 rl3 ?_
      refine Wt.bind' (r := gb sd3 m3) w3 fun fl B4 ρ4 m4 H4 t4 s4 w4 => ?_
      have tt : Ste B1 ρ1 H1 B4 ρ4 H4 := ((t'.trans u1).trans t3).trans t4
      cases fl with
      | nx sd4 => exact fun σ4 rl4 => ⟨sd4, B4, ρ4, m4, tt, s4, rl4, by rw [e2]; exact w4⟩
      | ct sd4 => exact fun σ4 rl4 => ⟨sd4, B4, ρ4, m4, tt, s4, rl4, by rw [e2]; exact w4⟩
      | bk sd4 => exact fun σ4 rl4 => Wt.ok (E := E) (m := m4) w4 s4 σ4 rl4
      | rt v => exact Wt.ok (E := E) (m := m4) w4 s4
theorem ss_while {n : Nat} {body : List Stmt} {gc : SD → M Bool} {gb : SD → M Fl} (hp : PassesOwn (model X.prog X.w) X.A X.env X.xe) (hc : ST X E c gc) (hb : SSs X E body gb) : SS X E (.While c body [] pos) (whileM gc gb n) := by
  obtain ⟨tc, pc, kc⟩ := hc
  obtain ⟨tb, pb, kb⟩ := hb
  refine ⟨_, ps_while hp pc pb, fun De σ sd B ρ m H s rl w => ?_⟩
  refine ⟨fun k σ' H' => ∃ sd' B' ρ' m', Sim X.K B' ρ' m' H' ∧ RelS X.K B' ρ' σ' sd' ∧ Wt X.K B' ρ' H' E (PFf X.K De) (whileM gc gb k sd' m'), ⟨n, sd, B, ρ, m, s, rl, w⟩, ?_⟩
  rintro k σ' H' ⟨sd', B', ρ', m', s', rl', w'⟩
  cases k with
  | zero => exact w'.elim
  | succ k =>
    refine kc σ' sd' B' ρ' m' H' _ s' rl' ?_
    refine Wt.bind' (r := gc sd' m') w' fun z B1 ρ1 m1 H1 t1 s1 w1 => ?_
    cases z with
    | false => exact Wt.ok (E := E) (m := m1) w1 s1 σ' (rl'.ste t1)
    | true =>
      refine ⟨fun σ2 H2 => ∃ sd2 B2 ρ2 m2, Sim X.K B2 ρ2 m2 H2 ∧ RelS X.K B2 ρ2 σ2 sd2 ∧ Wt X.K B2 ρ2 H2 E (PFf X.K De) (whileM gc gb k sd2 m2), ?_, ?_⟩
      · rintro σ2 H2 ⟨sd2, B2, ρ2, m2, q1, q2, q3⟩
        exact ⟨k, Nat.lt_succ_self k, sd2, B2, ρ2, m2, q1, q2, q3⟩
      · refine kb _ σ' sd' B1 ρ1 m1 H1 s1 (rl'.ste t1) ?_
        refine Wt.bind' (r := gb sd' m1) w1 fun fl B4 ρ4 m4 H4 t4 s4 w4 => ?_
        cases fl with
        | nx sd4 => exact fun σ4 rl4 => ⟨sd4, B4, ρ4, m4, s4, rl4, w4⟩
        | ct sd4 => exact fun σ4 rl4 => ⟨sd4, B4, ρ4, m4, s4, rl4, w4⟩
        | bk sd4 => exact fun σ4 rl4 => Wt.ok (E := E) (m := m4) w4 s4 σ4 rl4
        | rt v => exact Wt.ok (E := E) (m := m4) w4 s4
/-! ### comprehensions -/
theorem wipeD_length (sd : SD) : ∀ vs : List Nat, (wipeD sd vs).length = sd.length
  | [] => rfl
  | v :: vs => by
    unfold wipeD
    rw [List.length_set, wipeD_length sd vs]
theorem RelS.unset {σ : L2.St} {sd : SD} (h : RelS K B ρ σ sd) (i : Nat) : RelS K B ρ (σ.set i none) (sd.set i none) := by
  refine ⟨by rw [List.length_set, List.length_set, h.1], fun j s e => ?_⟩
  by_cases ej : j = i
  · subst ej
    by_cases hj : j < sd.length
    · rw [List.getElem?_set_self hj] at e
      cases e
    · rw [List.getElem?_eq_none_iff.mpr (by rw [List.length_set]; omega)] at e
      cases e
  · rw [List.getElem?_set_ne (Ne.symm ej)] at e ⊢
    exact h.2 j s e
theorem RelS.wipe {σ : L2.St} {sd : SD} (h : RelS K B ρ σ sd) : ∀ vs : List Nat, RelS K B ρ (L2.wipe σ vs) (wipeD sd vs)
  | [] => h
  | v :: vs => (RelS.wipe h vs).unset v
theorem wipe_get {σ : L2.St} {i : Nat} : ∀ {vs : List Nat}, i ∉ vs → (L2.wipe σ vs)[i]? = σ[i]?
  | [], _ => rfl
  | v :: vs, h => by
    unfold L2.wipe
    rw [List.getElem?_set_ne (fun z => h (by simp [z])), wipe_get fun z => h (List.mem_cons_of_mem _ z)]
theorem wipe_none {σ : L2.St} {i : Nat} : ∀ {vs : List Nat}, i ∈ vs → i < σ.length → (L2.wipe σ vs)[i]? = some none
  | [], h, _ => by cases h
  | v :: vs, h, hl => by
    unfold L2.wipe
    by_cases e : v = i
    · rw [e, List.getElem?_set_self (by rw [L2.wipe_length]; exact hl)]
    · rw [List.getElem?_set_ne e]
      rcases List.mem_cons.mp h with z | z
      · exact absurd z.symm e
      · exact wipe_none z hl
theorem wipe_same {σ τ : L2.St} {vs : List Nat} (hl : τ.length = σ.length) (h : ∀ i, i ∉ vs → τ[i]? = σ[i]?) : L2.wipe τ vs = L2.wipe σ vs := by
  apply List.ext_getElem?
  intro i
  by_cases hi : i ∈ vs
  · by_cases hb : i < σ.length
    · rw [wipe_none hi hb, wipe_none hi (by rw [hl]; exact hb)]
    · rw [List.getElem?_eq_none_iff.mpr (by rw [L2.wipe_length, hl]; omega), List.getElem?_eq_none_iff.mpr (by rw [L2.wipe_length]; omega)]
  · rw [wipe_get hi, wipe_get hi, h i hi]
theorem wipe_wipe {σ : L2.St} {vs : List Nat} : L2.wipe (L2.wipe σ vs) vs = L2.wipe σ vs := wipe_same (L2.wipe_length σ vs) fun i hi => wipe_get hi
/-- a part of a comprehension's block, whatever the block's entry -/
def InB (X : Cx) (scope : Scope) (P : Cx → Prop) : Prop := ∀ (s : Shared) (H : Hp) (C : Addr) (cl : List (Str × Addr)) (fp : List Addr), P (X.blk s H scope (compEnvC scope cl C X.env) fp)
def STs (X : Cx) (E : XK) (ifs : List Expr) (f : SD → M Bool) : Prop := ∃ t, PTs X ifs t ∧ ∀ σ sd B ρ m H Q, Sim X.K B ρ m H → RelS X.K B ρ σ sd → Wt X.K B ρ H E (PBl Q) (f sd m) → t σ H Q
theorem sts_nil : STs X E [] (fun _ => M.pure true) := ⟨_, pts_nil, fun σ sd B ρ m H Q s rl w => Wt.ok (E := E) (m := m) w s⟩
theorem sts_one {f : SD → M Bool} (h : ST X E c f) : STs X E [c] f := by
  obtain ⟨t, p, k⟩ := h
  exact ⟨t, pts_one p, k⟩
def semTs (X : Cx) (ifs : List Expr) : TT := fun σ H Q => ∀ pins s, Inv X pins σ H s → wpAny (model X.prog X.w) X.A (forIn ifs true fun c r => if r = true then do let ok ← isTrue c X.env (eval c X.env); pure (ForInStep.yield ok) else pure (ForInStep.yield r)) (TP X pins σ Q) X.xe s
/-- the new list D of a comprehension, under steps of the parts -/
theorem comp_turn {Dl : Addr} {B' : Hp} {ρ' : Rho} {H' : Hp} {o : HO} (t : Ste B ρ H B' ρ' H') (hB : B Dl = none) (hn : ¬ own ρ Dl) (hD : H Dl = some o) : B' Dl = none ∧ ¬ own ρ' Dl ∧ H' Dl = some o := by
  refine ⟨?_, ?_, t.kp Dl o hD hn⟩
  · cases q : B' Dl with
    | none => rfl
    | some u =>
      rcases t.bn Dl (by rw [q]; simp) with z | z | z
      · exact absurd hB z
      · exact absurd z hn
      · rw [hD] at z; cases z
  · intro z
    rcases t.nw Dl z with z | z
    · exact hn z
    · rw [hD] at z; cases z
theorem Ste.ch {B' : Hp} {ρ' : Rho} {H' : Hp} {Dl : Addr} {o : HO} (t : Ste B ρ H B' ρ' H') (h : H Dl = none) : Ste B ρ H B' ρ' (upd H' Dl o) :=
  ⟨t.bb, t.rr, fun a u e n => by rw [upd_ne (ne_of_none e h)]; exact t.kp a u e n, t.nw, t.bn⟩
abbrev snds (o : List (Str × Nat)) : List Nat := o.map (·.2)
/-- no exception: it would be bad -/
def noxO {α : Type} : Out α → Out α
  | .ok a m => .ok a m
  | _ => .bad
def nox {α : Type} (x : M α) : M α := fun m => noxO (x m)
theorem Wt.noxT {α β : Type} {P : β → Hp → Rho → Mem → Hp → Prop} {P' : α → Hp → Rho → Mem → Hp → Prop} {r : Out α} {f : α → M β} {E' : XK} {Bc : Hp} {ρc : Rho} {Hc : Hp} (h : Wt K B ρ H E P (noxO (r.bind f))) 
    (k : ∀ a B' ρ' m' H', Ste Bc ρc Hc B' ρ' H' → Sim K B' ρ' m' H' → Wt K B ρ H E P (noxO (f a m')) → P' a B' ρ' m' H') : Wt K Bc ρc Hc E' P' r := by
  cases r with
  | ok a m' => exact fun B2 ρ2 H2 s2 z => k _ _ _ _ _ s2 z h
  | exc c fs m' => exact h.elim
  | bad => exact h.elim
abbrev gB (X : Cx) (scope : Scope) (tg : Expr) : TG := fun v σ H Q => ∀ s0 H0 C cl fp, semG (X.blk s0 H0 scope (compEnvC scope cl C X.env) fp) tg v σ H Q
abbrev tB' (X : Cx) (scope : Scope) (ifs : List Expr) : TT := fun σ H Q => ∀ s0 H0 C cl fp, semTs (X.blk s0 H0 scope (compEnvC scope cl C X.env) fp) ifs σ H Q
abbrev eB (X : Cx) (scope : Scope) (elt : Expr) : TE := fun σ H Q => ∀ s0 H0 C cl fp, semE (X.blk s0 H0 scope (compEnvC scope cl C X.env) fp) elt σ H Q
theorem gB_ok {scope : Scope} : ∀ (s : Shared) (H : Hp) (C : Addr) (cl : List (Str × Addr)) (fp : List Addr), PG (X.blk s H scope (compEnvC scope cl C X.env) fp) tg (gB X scope tg) := fun s0 H0 C cl fp => ⟨fun pins s σ H v u Q I r h => h s0 H0 C cl fp pins s u I r⟩
theorem tB_ok {scope : Scope} {ifs : List Expr} : ∀ (s : Shared) (H : Hp) (C : Addr) (cl : List (Str × Addr)) (fp : List Addr), PTs (X.blk s H scope (compEnvC scope cl C X.env) fp) ifs (tB' X scope ifs) := fun s0 H0 C cl fp => ⟨fun pins s σ H Q I h => h s0 H0 C cl fp pins s I⟩
theorem eB_ok {scope : Scope} : ∀ (s : Shared) (H : Hp) (C : Addr) (cl : List (Str × Addr)) (fp : List Addr), PE (X.blk s H scope (compEnvC scope cl C X.env) fp) elt (eB X scope elt) := fun s0 H0 C cl fp => ⟨fun pins s σ H Q I h => h s0 H0 C cl fp pins s I⟩
theorem lc_read {js : List Nat} {ifs : List Expr} {scope : Scope} {own' : List (Str × Nat)} {wi : TI} {fi : SD → M (List D)} {gt : D → SD → M SD} {gc : SD → M Bool} {ge : SD → M D}
    (ki : ∀ σ sd B ρ m H R, Sim X.K B ρ m H → RelS X.K B ρ σ sd → Wt X.K B ρ H E (fun ds B1 ρ1 _ H1 => ∀ J, Yields X.K B1 ρ1 H1 ds J → R J H1) (fi sd m) → wi σ H R) (hj : ∀ j ∈ js, j ∈ snds own')
    (hg : InB X scope fun Y => SG Y E0 js tg gt) (ht : InB X scope fun Y => STs Y E0 ifs gc) (he : InB X scope fun Y => SE Y E0 elt ge) :
    ∀ σ sd B ρ m H Q, Sim X.K B ρ m H → RelS X.K B ρ σ sd → Wt X.K B ρ H E (PFl X.K H Q) (M.bind (fi sd) (fun ds => nox (compM (snds own') gt gc ge sd [] ds)) m) → tLc wi (gB X scope tg) (tB' X scope ifs) (eB X scope elt) (snds own') σ H Q := by
  intro σ sd B ρ m H Q s rl w
  refine ki σ sd B ρ m H _ s rl ?_
  refine Wt.bindO (r := fi sd m) w fun ds B1 ρ1 m1 H1 t1 s1 w1 J hJ Dl hD => ?_
  have hD0 : H Dl = none := t1.fresh s1 hD
  refine ⟨fun i n H' => ∃ acc xs B' ρ' m', Ste B1 ρ1 H1 B' ρ' H' ∧ Sim X.K B' ρ' m' H' ∧ B' Dl = none ∧ ¬ own ρ' Dl ∧ H' Dl = some (.lst xs) ∧ RepL X.K B' acc xs ∧
    Wt X.K B ρ H E (PFl X.K H Q) (noxO (compM (snds own') gt gc ge sd acc (ds.drop i) m')) ∧ n = ds.length - i, ⟨ds.length, [], [], B1, ρ1, m1, Ste.newH hD, s1.newH hD, s1.bnone hD, s1.nown hD, upd_same, rfl, w1, rfl⟩, ?_⟩
  rintro i n H' ⟨acc, xs, B', ρ', m', t', s', b1, b2, b3, r', w', rfl⟩
  obtain ⟨go, stop⟩ := hJ B' ρ' m' H' t' s'
  cases hd : ds.drop i with
  | nil =>
    have hl : ds.length ≤ i := by
      have := congrArg List.length hd
      rw [List.length_drop] at this
      simp at this
      omega
    refine .inl ⟨stop i hl, ?_⟩
    rw [hd] at w'
    exact Wt.ok' (E := E) (m := m') w' (t1.trans t') s' Dl xs hD0 b1 b2 b3 r'
  | cons d r =>
    obtain ⟨e1, e2⟩ := drop_get hd
    have hlt : i < ds.length := (List.getElem?_eq_some_iff.mp e1).1
    obtain ⟨g1, g2⟩ := go i d e1
    rw [hd] at w'
    refine .inr ⟨g1, fun H2 => ∃ acc xs B' ρ' m', Ste B1 ρ1 H1 B' ρ' H2 ∧ Sim X.K B' ρ' m' H2 ∧ B' Dl = none ∧ ¬ own ρ' Dl ∧ H2 Dl = some (.lst xs) ∧ RepL X.K B' acc xs ∧
      Wt X.K B ρ H E (PFl X.K H Q) (noxO (compM (snds own') gt gc ge sd acc (ds.drop (i + 1)) m')), ?_, ?_⟩
    · rintro H2 ⟨acc, xs, B2, ρ2, m2, q1, q2, q3, q4, q5, q6, q7⟩
      exact ⟨ds.length - (i + 1), by omega, acc, xs, B2, ρ2, m2, q1, q2, q3, q4, q5, q6, q7, rfl⟩
    · intro x H2 hy
      obtain ⟨B2, u1, u2, u3⟩ := g2 x H2 hy
      obtain ⟨b1, b2, b3⟩ := comp_turn u1 b1 b2 b3
      have rlc : RelS X.K B2 ρ' (L2.wipe σ (snds own')) (wipeD sd (snds own')) := RelS.wipe (((rl.ste t1).ste t').ste u1) _
      intro s0 H0 C cl fp
      obtain ⟨tgt, pg, kg⟩ := hg s0 H0 C cl fp
      intro pins ss u I rv
      refine pg.run pins ss _ H2 x u _ I rv ?_
      refine kg _ _ B2 ρ' m' H2 x d _ u2 rlc u3 ?_
      refine Wt.noxT (r := gt d (wipeD sd (snds own')) m') w' fun sd3 B3 ρ3 m3 H3 t3 s3 w3 σ3 l3 c3 rl3 => ⟨?_, ?_⟩
      · have e3 : L2.wipe σ3 (snds own') = L2.wipe (L2.wipe σ (snds own')) (snds own') := wipe_same l3 fun i hi => c3 i fun z => hi (hj i z)
        rw [e3, wipe_wipe]
      · obtain ⟨b1, b2, b3⟩ := comp_turn t3 b1 b2 b3
        have r3 := (r'.mono u1.bb).mono t3.bb
        intro s0 H0 C cl fp
        obtain ⟨tt, pt, kt⟩ := ht s0 H0 C cl fp
        intro pins ss I
        refine pt.run pins ss σ3 H3 _ I ?_
        refine kt σ3 sd3 B3 ρ3 m3 H3 _ s3 rl3 ?_
        refine Wt.noxT (r := gc sd3 m3) w3 fun z B4 ρ4 m4 H4 t4 s4 w4 => ?_
        obtain ⟨b1, b2, b3⟩ := comp_turn t4 b1 b2 b3
        have r4 := r3.mono t4.bb
        have tt4 : Ste B1 ρ1 H1 B4 ρ4 H4 := ((t'.trans u1).trans t3).trans t4
        cases z with
        | false =>
          refine ⟨acc, xs, B4, ρ4, m4, tt4, s4, b1, b2, b3, r4, ?_⟩
          rw [e2]
          exact w4
        | true =>
          intro s0 H0 C cl fp
          obtain ⟨te, pe, ke⟩ := he s0 H0 C cl fp
          intro pins ss I
          refine pe.run pins ss σ3 H4 _ I ?_
          refine ke σ3 sd3 B4 ρ4 m4 H4 _ s4 (rl3.ste t4) ?_
          refine Wt.noxT (r := ge sd3 m4) w4 fun y B5 ρ5 m5 H5 t5 s5 w5 v rv => ?_
          obtain ⟨b1, b2, b3⟩ := comp_turn t5 b1 b2 b3
          have r5 := r4.mono t5.bb
          have w6 : Wt X.K B ρ H E (PFl X.K H Q) (noxO ((if acc.length < 16777216 then compM (snds own') gt gc ge sd (acc ++ [y]) r else bad : M (List D)) m5)) := w5
          split at w6
          · rename_i hl
            refine ⟨xs, b3, by rw [r5.length, sl16]; exact hl, acc ++ [y], xs ++ [v], B5, ρ5, m5, (tt4.trans t5).ch hD, s5.chH b1 b2, b1, b2, upd_same, r5.append (RepL.one rv), ?_⟩
            rw [e2]
            exact w6
          · exact w6.elim
theorem sf_lc {js : List Nat} {ifs : List Expr} {scope : Scope} {own' : List (Str × Nat)} {fi : SD → M (List D)} {gt : D → SD → M SD} {gc : SD → M Bool} {ge : SD → M D} (hc : X.calm = true) (hN : X.N.Nodup) (hi : SI X E tg iter fi)
    (ok : blkC X.N X.env.scope scope own' = true) (hj : ∀ j ∈ js, j ∈ snds own')
    (hg : InB X scope fun Y => SG Y E0 js tg gt) (ht : InB X scope fun Y => STs Y E0 ifs gc) (he : InB X scope fun Y => SE Y E0 elt ge) (hs : ∀ x, foldedSetIterable iter X.env x = pure x := by intro _; rfl) :
    SF X E (.ListComp elt [⟨tg, iter, ifs, 0⟩] scope pos) (fun sd => M.bind (fi sd) fun ds => nox (compM (snds own') gt gc ge sd [] ds)) := by
  obtain ⟨wi, pi, ki⟩ := hi
  exact ⟨_, pe_lc hc hN pi (blkOk_by ok) gB_ok tB_ok eB_ok hs, lc_read ki hj hg ht he⟩
/-- x = [..] on one line, x a plain local: data -/
theorem ss_setLc {js : List Nat} {ifs : List Expr} {scope : Scope} {own' : List (Str × Nat)} {fi : SD → M (List D)} {gt : D → SD → M SD} {gc : SD → M Bool} {ge : SD → M D} {i : Nat} {x : Str} {px sp : Pos} (hc : X.calm = true) (hN : X.N.Nodup) (hi : SI X E tg iter fi)
    (ok : blkC X.N X.env.scope scope own' = true) (hj : ∀ j ∈ js, j ∈ snds own')
    (hg : InB X scope fun Y => SG Y E0 js tg gt) (ht : InB X scope fun Y => STs Y E0 ifs gc) (he : InB X scope fun Y => SE Y E0 elt ge)
    (hsw : swapsWith (.ListComp elt [⟨tg, iter, ifs, 0⟩] scope pos) (some (.Name x px)) sp.line X.env = pure true) (hx : X.N[i]? = some x := by rfl) (hxl : X.env.scope.names.lookup x = some .local := by rfl) (hs : ∀ x, foldedSetIterable iter X.env x = pure x := by intro _; rfl) :
    SS X E (.Assign [.Name x px] (.ListComp elt [⟨tg, iter, ifs, 0⟩] scope pos) sp) (fun sd => M.bind (M.bind (fi sd) fun ds => nox (compM (snds own') gt gc ge sd [] ds)) fun ds => M.pure (.nx (sd.set i (some (.d (.lst ds)))))) := by
  obtain ⟨wi, pi, ki⟩ := hi
  refine ⟨_, ps_setLc hc hN hx hxl hsw pi (blkOk_by ok) gB_ok tB_ok eB_ok hs, fun De σ sd B ρ m H s rl w => lc_read (E := E) ki hj hg ht he σ sd B ρ m H _ s rl ?_⟩
  refine Wt.bindO (r := (M.bind (fi sd) fun ds => nox (compM (snds own') gt gc ge sd [] ds)) m) w fun ds B1 ρ1 m1 H1 t1 s1 w1 p xs h0 hb ho hp r => ?_
  exact Wt.ok' w1 (t1.still h0 hb) (s1.still hb hp ho) _ ((rl.ste (t1.still h0 hb)).set i ⟨p, xs, rfl, upd_same, r.mono (Sub.upd hb)⟩)
/-- .. a list that may change from now on -/
theorem ss_setLcX {js : List Nat} {ifs : List Expr} {scope : Scope} {own' : List (Str × Nat)} {fi : SD → M (List D)} {gt : D → SD → M SD} {gc : SD → M Bool} {ge : SD → M D} {i : Nat} {x : Str} {px sp : Pos} (hc : X.calm = true) (hN : X.N.Nodup) (hi : SI X E tg iter fi)
    (ok : blkC X.N X.env.scope scope own' = true) (hj : ∀ j ∈ js, j ∈ snds own')
    (hg : InB X scope fun Y => SG Y E0 js tg gt) (ht : InB X scope fun Y => STs Y E0 ifs gc) (he : InB X scope fun Y => SE Y E0 elt ge)
    (hsw : swapsWith (.ListComp elt [⟨tg, iter, ifs, 0⟩] scope pos) (some (.Name x px)) sp.line X.env = pure true) (hx : X.N[i]? = some x := by rfl) (hxl : X.env.scope.names.lookup x = some .local := by rfl) (hs : ∀ x, foldedSetIterable iter X.env x = pure x := by intro _; rfl) :
    SS X E (.Assign [.Name x px] (.ListComp elt [⟨tg, iter, ifs, 0⟩] scope pos) sp) (fun sd => M.bind (M.bind (fi sd) fun ds => nox (compM (snds own') gt gc ge sd [] ds)) fun ds => M.bind (pushL ds) fun s => M.pure (.nx (sd.set i (some s)))) := by
  obtain ⟨wi, pi, ki⟩ := hi
  refine ⟨_, ps_setLc hc hN hx hxl hsw pi (blkOk_by ok) gB_ok tB_ok eB_ok hs, fun De σ sd B ρ m H s rl w => lc_read (E := E) ki hj hg ht he σ sd B ρ m H _ s rl ?_⟩
  refine Wt.bindO (r := (M.bind (fi sd) fun ds => nox (compM (snds own') gt gc ge sd [] ds)) m) w fun ds B1 ρ1 m1 H1 t1 s1 w1 p xs h0 hb ho hp r => ?_
  have s2 : Sim X.K B1 (ρ1 ++ [(p, [])]) (m1 ++ [.lst ds]) H1 := s1.push (fun a z => by
    rcases z with z | z
    · rw [z]; exact ho
    · cases z) ⟨hb, rfl, xs, hp, r⟩
  have t2 := t1.moves h0
  refine Wt.ok' w1 t2 s2 _ ((rl.ste t2).set i ⟨(p, []), ?_, rfl⟩)
  rw [← s1.len]
  simp
end
end Mi

set_option Elab.async false
set_option linter.all false
set_option maxRecDepth 100000
set_option maxHeartbeats 4000000
/-! The layer Mi. Part 6: built-ins, subscripts, slices, changing lists. -/
namespace Mi
open PySem PySem.Spec PyProof.Rows L2
/-- what a call of values does: one argument, two -/
def C1 (X : Cx) (E : XK) (r : List V → Hp → VK → Prop) (f : S → M D) : Prop := ∀ s v B ρ m H Q, Sim X.K B ρ m H → RepS X.K B ρ s v → Wt X.K B ρ H E (PD X.K Q) (f s m) → r [v] H Q
def C1F (X : Cx) (E : XK) (r : List V → Hp → VK → Prop) (f : S → M (List D)) : Prop := ∀ s v B ρ m H Q, Sim X.K B ρ m H → RepS X.K B ρ s v → Wt X.K B ρ H E (PFl X.K H Q) (f s m) → r [v] H Q
def C2 (X : Cx) (E : XK) (r : List V → Hp → VK → Prop) (f : S → S → M D) : Prop := ∀ s1 s2 v1 v2 B ρ m H Q, Sim X.K B ρ m H → RepS X.K B ρ s1 v1 → RepS X.K B ρ s2 v2 → Wt X.K B ρ H E (PD X.K Q) (f s1 s2 m) → r [v1, v2] H Q
section
variable {X : Cx} {E : XK} {K : PySem.W.Frag} {B : Hp} {ρ : Rho} {m : Mem} {H : Hp} {a b c e : Expr} {pos p : Pos} {x : Str} {id : String} {r : List V → Hp → VK → Prop} {ga gb : SD → M S} {fa fb : SD → M D}
theorem se_b1 {f : S → M D} (hc : CallR X (.builtin id) r) (hd : C1 X E r f) (hm : X.mg x = none) (ha : SX X E e ga) (hv : bootBuiltins x = some (.builtin id) := by decide +kernel) (hg : Gl X x := by rfl) (hn : x ≠ "__name__" := by decide) (hdb : (x == ("__debug__" : Str)) = false := by decide)
    (he : starEach [e] X.env = (false, eval e X.env) :: starEach [] X.env := by rfl) (hpl : (backTo pos (starEach [] X.env)).any (·.1) = false := by rfl) : SE X E (.Call (.Name x p) [e] [] pos) (fun sd => M.bind (ga sd) f) := by
  obtain ⟨ta, pa, ka⟩ := ha
  refine ⟨_, pe_callB hc hg hm hv (pa_cons pa pa_nil he) hn hdb he hpl, fun σ sd B ρ m H Q s rl w => ka σ sd B ρ m H _ s rl ?_⟩
  exact Wt.bind' (r := ga sd m) w fun d B1 ρ1 m1 H1 t1 s1 w1 v r => hd d v B1 ρ1 m1 H1 Q s1 r w1
theorem se_t1 {f : S → M D} (hc : CallR X (.type id) r) (hd : C1 X E r f) (hm : X.mg x = none) (ha : SX X E e ga) (hv : bootBuiltins x = some (.type id) := by decide +kernel) (hg : Gl X x := by rfl) (hn : x ≠ "__name__" := by decide) (hdb : (x == ("__debug__" : Str)) = false := by decide)
    (he : starEach [e] X.env = (false, eval e X.env) :: starEach [] X.env := by rfl) (hpl : (backTo pos (starEach [] X.env)).any (·.1) = false := by rfl) : SE X E (.Call (.Name x p) [e] [] pos) (fun sd => M.bind (ga sd) f) := by
  obtain ⟨ta, pa, ka⟩ := ha
  refine ⟨_, pe_callTy hc hg hm hv (pa_cons pa pa_nil he) hn hdb he hpl, fun σ sd B ρ m H Q s rl w => ka σ sd B ρ m H _ s rl ?_⟩
  exact Wt.bind' (r := ga sd m) w fun d B1 ρ1 m1 H1 t1 s1 w1 v r => hd d v B1 ρ1 m1 H1 Q s1 r w1
theorem Wt.freshP {Q : VK} {B1 : Hp} {ρ1 : Rho} {H1 : Hp} {m1 : Mem} {r : Out (List D)} (t : Ste B ρ H B1 ρ1 H1) (s : Sim K B1 ρ1 m1 H1) (w : Wt K B ρ H E (PFl K H Q) r) : Wt K B1 ρ1 H1 E (PFl K H1 Q) r := by
  cases r with
  | ok ds m' => exact fun B2 ρ2 H2 t2 s2 p xs h0 hb ho hp rr => w B2 ρ2 H2 (t.trans t2) s2 p xs (t.fresh s h0) hb ho hp rr
  | exc c fs m' => exact fun B2 ρ2 H2 dx t2 => w B2 ρ2 H2 dx (t.trans t2)
  | bad => exact w
theorem sf_b1 {f : S → M (List D)} (hc : CallR X (.builtin id) r) (hd : C1F X E r f) (hm : X.mg x = none) (ha : SX X E e ga) (hv : bootBuiltins x = some (.builtin id) := by decide +kernel) (hg : Gl X x := by rfl) (hn : x ≠ "__name__" := by decide) (hdb : (x == ("__debug__" : Str)) = false := by decide)
    (he : starEach [e] X.env = (false, eval e X.env) :: starEach [] X.env := by rfl) (hpl : (backTo pos (starEach [] X.env)).any (·.1) = false := by rfl) : SF X E (.Call (.Name x p) [e] [] pos) (fun sd => M.bind (ga sd) f) := by
  obtain ⟨ta, pa, ka⟩ := ha
  refine ⟨_, pe_callB hc hg hm hv (pa_cons pa pa_nil he) hn hdb he hpl, fun σ sd B ρ m H Q s rl w => ka σ sd B ρ m H _ s rl ?_⟩
  exact Wt.bindO (r := ga sd m) w fun d B1 ρ1 m1 H1 t1 s1 w1 v r => hd d v B1 ρ1 m1 H1 Q s1 r (Wt.freshP t1 s1 w1)
theorem sf_t1 {f : S → M (List D)} (hc : CallR X (.type id) r) (hd : C1F X E r f) (hm : X.mg x = none) (ha : SX X E e ga) (hv : bootBuiltins x = some (.type id) := by decide +kernel) (hg : Gl X x := by rfl) (hn : x ≠ "__name__" := by decide) (hdb : (x == ("__debug__" : Str)) = false := by decide)
    (he : starEach [e] X.env = (false, eval e X.env) :: starEach [] X.env := by rfl) (hpl : (backTo pos (starEach [] X.env)).any (·.1) = false := by rfl) : SF X E (.Call (.Name x p) [e] [] pos) (fun sd => M.bind (ga sd) f) := by
  obtain ⟨ta, pa, ka⟩ := ha
  refine ⟨_, pe_callTy hc hg hm hv (pa_cons pa pa_nil he) hn hdb he hpl, fun σ sd B ρ m H Q s rl w => ka σ sd B ρ m H _ s rl ?_⟩
  exact Wt.bindO (r := ga sd m) w fun d B1 ρ1 m1 H1 t1 s1 w1 v r => hd d v B1 ρ1 m1 H1 Q s1 r (Wt.freshP t1 s1 w1)
theorem se_b2 {f : S → S → M D} (hc : CallR X (.builtin id) r) (hd : C2 X E r f) (hm : X.mg x = none) (ha : SX X E a ga) (hb : SX X E b gb) (hv : bootBuiltins x = some (.builtin id) := by decide +kernel) (hg : Gl X x := by rfl) (hn : x ≠ "__name__" := by decide) (hdb : (x == ("__debug__" : Str)) = false := by decide)
    (he : starEach [a, b] X.env = (false, eval a X.env) :: starEach [b] X.env := by rfl) (he2 : starEach [b] X.env = (false, eval b X.env) :: starEach [] X.env := by rfl) (hpl : (backTo pos (starEach [b] X.env)).any (·.1) = false := by rfl) :
    SE X E (.Call (.Name x p) [a, b] [] pos) (fun sd => M.bind (ga sd) fun s1 => M.bind (gb sd) fun s2 => f s1 s2) := by
  obtain ⟨ta, pa, ka⟩ := ha
  obtain ⟨tb, pb, kb⟩ := hb
  refine ⟨_, pe_callB hc hg hm hv (pa_cons pa (pa_cons pb pa_nil he2) he) hn hdb he hpl, fun σ sd B ρ m H Q s rl w => ka σ sd B ρ m H _ s rl ?_⟩
  refine Wt.bind' (r := ga sd m) w fun d B1 ρ1 m1 H1 t1 s1 w1 v r => kb σ sd B1 ρ1 m1 H1 _ s1 (rl.ste t1) ?_
  exact Wt.bind' (r := gb sd m1) w1 fun d2 B2 ρ2 m2 H2 t2 s2 w2 v2 r2 => hd d d2 v v2 B2 ρ2 m2 H2 Q s2 (r.ste t2) r2 w2
/-! ### one argument -/
/-- a function of the items of a list or tuple -/
def onItems {α : Type} (f : List D → M α) (s : S) : M α := M.bind (itemsS s) f
theorem onItems_ok {α : Type} {f : List D → M α} {s : S} {v : V} {P : α → Hp → Rho → Mem → Hp → Prop} (hs : Sim K B ρ m H) (r : RepS K B ρ s v) (w : Wt K B ρ H E P (onItems f s m)) :
    ∃ ds xs a, v = .ref a ∧ (SqL K H a xs ∨ SqT K H a xs) ∧ RepL K B ds xs ∧ Wt K B ρ H E P (f ds m) := by
  obtain ⟨ds, xs, a, e, rfl, h2, h3⟩ := items_ok (E := E) (Pp := fun _ => True) hs r (Wt.bind (f := f) w)
  refine ⟨ds, xs, a, rfl, h2, h3, ?_⟩
  have w2 : Wt K B ρ H E P ((itemsS s m).bind f) := w
  rw [e] at w2
  exact w2
def lenS : S → M D
  | .d (.str x) => if x.length ≤ 16777216 then M.pure (.int x.length) else bad
  | s => onItems (fun ds => M.pure (.int ds.length)) s
def rLen2 (K : PySem.W.Frag) : List V → Hp → VK → Prop := fun xs H Q => (∃ p ys, xs = [.ref p] ∧ (SqL K H p ys ∨ SqT K H p ys) ∧ Q (.int ys.length) H) ∨ (∃ z, xs = [.str z] ∧ z.length ≤ sizeLine ∧ Q (.int z.length) H)
theorem CallR.or {f : Value} {r r' : List V → Hp → VK → Prop} (h : CallR X f r) (h' : CallR X f r') : CallR X f (fun xs H Q => r xs H Q ∨ r' xs H Q) := by
  intro pins s σ H xs us Q I rx q
  rcases q with q | q
  · exact h pins s σ H xs us Q I rx q
  · exact h' pins s σ H xs us Q I rx q
theorem call_len2 : CallR X (.builtin "len") (rLen2 X.K) := CallR.or call_len_seq call_len_str
theorem lenS_ok : C1 X E (rLen2 X.K) lenS := by
  intro s v B ρ m H Q hs r w
  have seq : Wt X.K B ρ H E (PD X.K Q) (onItems (fun ds => M.pure (.int ds.length)) s m) → rLen2 X.K [v] H Q := fun w => by
    obtain ⟨ds, xs, a, rfl, h2, h3, w2⟩ := onItems_ok hs r w
    refine .inl ⟨a, xs, rfl, h2, ?_⟩
    rw [h3.length]
    exact Wt.ok (E := E) (m := m) w2 hs _ rfl
  cases s with
  | h n => exact seq w
  | d x =>
    cases x with
    | str z =>
      have w2 : Wt X.K B ρ H E (PD X.K Q) ((if z.length ≤ 16777216 then M.pure (.int z.length) else bad : M D) m) := w
      split at w2
      · rename_i hl
        refine .inr ⟨z, by rw [show v = .str z from r], by rw [sl16]; exact hl, Wt.ok (E := E) (m := m) w2 hs _ rfl⟩
      · exact w2.elim
    | _ => exact seq w
def listS (s : S) : M (List D) := onItems (fun ds => M.pure ds) s
theorem listS_ok : C1F X E (fun xs H Q => ∃ p ys, xs = [.ref p] ∧ (SqL X.K H p ys ∨ SqT X.K H p ys) ∧ ∀ l, H l = none → Q (.ref l) (upd H l (.lst ys))) listS := by
  intro s v B ρ m H Q hs r w
  obtain ⟨ds, xs, a, rfl, h2, h3, w2⟩ := onItems_ok hs r w
  exact ⟨a, xs, rfl, h2, fun l hl => Wt.ok' (E := E) (m := m) w2 (Ste.newH hl) (hs.newH hl) l xs hl (hs.bnone hl) (hs.nown hl) upd_same h3⟩
def tupleS : S → M D
  | .d (.tup ds) => M.pure (.tup ds)
  | s => onItems (fun ds => M.pure (.tup ds)) s
theorem tupleS_ok : C1 X E (fun xs H Q => ∃ p ys, xs = [.ref p] ∧ ((SqL X.K H p ys ∧ ∀ l, H l = none → Q (.ref l) (upd H l (.tup ys))) ∨ (SqT X.K H p ys ∧ Q (.ref p) H))) tupleS := by
  intro s v B ρ m H Q hs r w
  have seq : (∀ ds, s ≠ .d (.tup ds)) → Wt X.K B ρ H E (PD X.K Q) (onItems (fun ds => M.pure (D.tup ds)) s m) → ∃ p ys, [v] = [V.ref p] ∧ ((SqL X.K H p ys ∧ ∀ l, H l = none → Q (.ref l) (upd H l (.tup ys))) ∨ (SqT X.K H p ys ∧ Q (.ref p) H)) := fun hn w => by
    obtain ⟨ds, xs, a, e, rfl, h2, h3⟩ := items_ok0 (E := E) (Pp := fun _ => True) hs r (Wt.bind (f := fun ds => M.pure (D.tup ds)) w)
    have w2 : Wt X.K B ρ H E (PD X.K Q) ((itemsS s m).bind fun ds => M.pure (D.tup ds)) := w
    rw [e] at w2
    rcases h2 with ⟨_, h2⟩ | ⟨z, _⟩
    · exact ⟨a, xs, rfl, .inl ⟨h2, fun l hl => Wt.tup hs w2 h3 hl⟩⟩
    · exact absurd z (hn ds)
  cases s with
  | h n => exact seq (fun _ z => by cases z) w
  | d x =>
    cases x with
    | tup ds =>
      obtain ⟨a, xs, rfl, h2, h3⟩ := r
      exact ⟨a, xs, rfl, .inr ⟨SqT.of (hs.ex _ _ h2), Wt.ok (E := E) (m := m) w hs _ ⟨a, xs, rfl, h2, h3⟩⟩⟩
    | _ => exact seq (fun _ z => by cases z) w
/-- the ints of a list -/
def intsL : List D → M (List Int)
  | [] => M.pure []
  | .int i :: ds => M.bind (intsL ds) fun is => M.pure (i :: is)
  | _ :: _ => bad
theorem intsL_ok {P : List Int → Hp → Rho → Mem → Hp → Prop} : ∀ {ds : List D} {xs : List V}, RepL K B ds xs → ∀ {α : Type} {f : List Int → M α} {P : α → Hp → Rho → Mem → Hp → Prop}, Wt K B ρ H E P (M.bind (intsL ds) f m) → ∃ is, ds = is.map D.int ∧ xs = is.map V.int ∧ Wt K B ρ H E P (f is m)
  | [], _, h, α, f, P, w => ⟨[], rfl, h, w⟩
  | .int i :: ds, _, h, α, f, P, w => by
    obtain ⟨x, r, rfl, h2, h3⟩ := h
    have w2 : Wt K B ρ H E P (M.bind (intsL ds) (fun is => f (i :: is)) m) := by
      have e : M.bind (intsL (.int i :: ds)) f m = M.bind (intsL ds) (fun is => f (i :: is)) m := by
        show ((intsL ds m).bind fun is => M.pure (i :: is)).bind f = (intsL ds m).bind fun is => f (i :: is)
        cases intsL ds m <;> rfl
      rw [e] at w
      exact w
    obtain ⟨is, e1, e2, e3⟩ := intsL_ok (P := fun _ _ _ _ _ => True) h3 w2
    exact ⟨i :: is, by rw [e1] <;> rfl, by rw [e2, show x = .int i from h2] <;> rfl, e3⟩
  | .non :: _, _, _, _, _, _, w => w.elim
  | .bl _ :: _, _, _, _, _, _, w => w.elim
  | .str _ :: _, _, _, _, _, _, w => w.elim
  | .ty _ :: _, _, _, _, _, _, w => w.elim
  | .gl _ :: _, _, _, _, _, _, w => w.elim
  | .scr _ :: _, _, _, _, _, _, w => w.elim
  | .lst _ :: _, _, _, _, _, _, w => w.elim
  | .tup _ :: _, _, _, _, _, _, w => w.elim
  | .dk _ :: _, _, _, _, _, _, w => w.elim
  | .dt _ :: _, _, _, _, _, _, w => w.elim
  | .rng _ _ :: _, _, _, _, _, _, w => w.elim
  | .ob _ _ :: _, _, _, _, _, _, w => w.elim
/-- a list (no tuple) -/
def onList {α : Type} (f : List D → M α) : S → M α
  | .d (.tup _) => bad
  | s => onItems f s
theorem onList_ok {α : Type} {f : List D → M α} {s : S} {v : V} {P : α → Hp → Rho → Mem → Hp → Prop} (hs : Sim K B ρ m H) (r : RepS K B ρ s v) (w : Wt K B ρ H E P (onList f s m)) :
    ∃ ds xs a, v = .ref a ∧ SqL K H a xs ∧ RepL K B ds xs ∧ Wt K B ρ H E P (f ds m) := by
  have seq : (∀ ds, s ≠ .d (.tup ds)) → Wt K B ρ H E P (onItems f s m) → ∃ ds xs a, v = .ref a ∧ SqL K H a xs ∧ RepL K B ds xs ∧ Wt K B ρ H E P (f ds m) := fun hn w => by
    obtain ⟨ds, xs, a, e, rfl, h2, h3⟩ := items_ok0 (E := E) (Pp := fun _ => True) hs r (Wt.bind (f := f) w)
    have w2 : Wt K B ρ H E P ((itemsS s m).bind f) := w
    rw [e] at w2
    rcases h2 with ⟨_, h2⟩ | ⟨z, _⟩
    · exact ⟨ds, xs, a, rfl, h2, h3, w2⟩
    · exact absurd z (hn ds)
  cases s with
  | h n => exact seq (fun _ z => by cases z) w
  | d x =>
    cases x with
    | tup ds => exact w.elim
    | _ => exact seq (fun _ z => by cases z) w
def sumS (s : S) : M D := onList (fun ds => M.bind (intsL ds) fun is => M.pure (.int is.sum)) s
theorem sumS_ok : C1 X E (rSum X.K) sumS := by
  intro s v B ρ m H Q hs r w
  obtain ⟨ds, xs, a, rfl, h2, h3, w2⟩ := onList_ok hs r w
  obtain ⟨is, rfl, rfl, w3⟩ := intsL_ok (P := fun _ _ _ _ _ => True) h3 w2
  exact ⟨a, is, rfl, h2, Wt.ok (E := E) (m := m) w3 hs _ rfl⟩
def maxI : List Int → Int
  | [] => 0
  | [a] => a
  | a :: as => let b := maxI as; if a < b then b else a
theorem maxI_mem : ∀ {l : List Int}, l ≠ [] → maxI l ∈ l ∧ ∀ y ∈ l, y ≤ maxI l
  | [], h => absurd rfl h
  | [a], _ => ⟨by simp [maxI], fun y hy => by simp [maxI] at *; omega⟩
  | a :: b :: l, _ => by
    obtain ⟨h1, h2⟩ := maxI_mem (l := b :: l) (by simp)
    have e : maxI (a :: b :: l) = if a < maxI (b :: l) then maxI (b :: l) else a := rfl
    rw [e]
    split
    · rename_i h
      refine ⟨List.mem_cons_of_mem _ h1, fun y hy => ?_⟩
      rcases List.mem_cons.mp hy with z | z
      · omega
      · exact h2 y z
    · rename_i h
      refine ⟨List.mem_cons_self, fun y hy => ?_⟩
      rcases List.mem_cons.mp hy with z | z
      · omega
      · have := h2 y z
        omega
theorem maxI_eq {l : List Int} {x : Int} (h1 : x ∈ l) (h2 : ∀ y ∈ l, y ≤ x) : x = maxI l := by
  obtain ⟨g1, g2⟩ := maxI_mem (l := l) (fun z => by rw [z] at h1; cases h1)
  have := g2 x h1
  have := h2 _ g1
  omega
def maxS (s : S) : M D := onList (fun ds => M.bind (intsL ds) fun is => if is ≠ [] then M.pure (.int (maxI is)) else bad) s
theorem maxS_ok : C1 X E (rMax X.K) maxS := by
  intro s v B ρ m H Q hs r w
  obtain ⟨ds, xs, a, rfl, h2, h3, w2⟩ := onList_ok hs r w
  obtain ⟨is, rfl, rfl, w3⟩ := intsL_ok (P := fun _ _ _ _ _ => True) h3 w2
  split at w3
  · rename_i hn
    refine ⟨a, is, rfl, h2, List.length_pos_iff.mpr hn, fun x h4 h5 => ?_⟩
    rw [maxI_eq h4 h5]
    exact Wt.ok (E := E) (m := m) w3 hs _ rfl
  · exact w3.elim
/-- sorted, whole numbers -/
def sortI (l : List Int) : List Int := l.mergeSort (fun a b => decide (a ≤ b))
theorem sortI_eq {l l' : List Int} (h1 : l'.Perm l) (h2 : l'.Pairwise (· ≤ ·)) : l' = sortI l := by
  refine List.Perm.eq_of_pairwise (le := fun a b : Int => a ≤ b) (fun a b _ _ h h' => Int.le_antisymm h h') h2 ?_ (h1.trans (List.mergeSort_perm l _).symm)
  have := List.pairwise_mergeSort (le := fun a b : Int => decide (a ≤ b)) (fun a b c h h' => by simp at *; omega) (fun a b => by simp; omega) l
  exact this.imp (fun h => by simpa using h)
def sortedS (s : S) : M (List D) := onList (fun ds => M.bind (intsL ds) fun is => M.pure ((sortI is).map .int)) s
theorem sortedS_ok : C1F X E (rSortedI X.K) sortedS := by
  intro s v B ρ m H Q hs r w
  obtain ⟨ds, xs, a, rfl, h2, h3, w2⟩ := onList_ok hs r w
  obtain ⟨is, rfl, rfl, w3⟩ := intsL_ok (P := fun _ _ _ _ _ => True) h3 w2
  refine ⟨a, is, rfl, h2, fun ns' l h4 h5 hl => ?_⟩
  rw [sortI_eq h4 h5]
  exact Wt.ok' (E := E) (m := m) w3 (Ste.newH hl) (hs.newH hl) l _ hl (hs.bnone hl) (hs.nown hl) upd_same (RepL.ints _)
def boolsL : List D → M (List Bool)
  | [] => M.pure []
  | .bl i :: ds => M.bind (boolsL ds) fun is => M.pure (i :: is)
  | _ :: _ => bad
theorem boolsL_ok {P : List Int → Hp → Rho → Mem → Hp → Prop} : ∀ {ds : List D} {xs : List V}, RepL K B ds xs → ∀ {α : Type} {f : List Bool → M α} {P : α → Hp → Rho → Mem → Hp → Prop}, Wt K B ρ H E P (M.bind (boolsL ds) f m) → ∃ is, ds = is.map D.bl ∧ xs = is.map V.bl ∧ Wt K B ρ H E P (f is m)
  | [], _, h, α, f, P, w => ⟨[], rfl, h, w⟩
  | .bl i :: ds, _, h, α, f, P, w => by
    obtain ⟨x, r, rfl, h2, h3⟩ := h
    have w2 : Wt K B ρ H E P (M.bind (boolsL ds) (fun is => f (i :: is)) m) := by
      have e : M.bind (boolsL (.bl i :: ds)) f m = M.bind (boolsL ds) (fun is => f (i :: is)) m := by
        show ((boolsL ds m).bind fun is => M.pure (i :: is)).bind f = (boolsL ds m).bind fun is => f (i :: is)
        cases boolsL ds m <;> rfl
      rw [e] at w
      exact w
    obtain ⟨is, e1, e2, e3⟩ := boolsL_ok (P := fun _ _ _ _ _ => True) h3 w2
    exact ⟨i :: is, by rw [e1] <;> rfl, by rw [e2, show x = .bl i from h2] <;> rfl, e3⟩
  | .non :: _, _, _, _, _, _, w => w.elim
  | .int _ :: _, _, _, _, _, _, w => w.elim
  | .str _ :: _, _, _, _, _, _, w => w.elim
  | .ty _ :: _, _, _, _, _, _, w => w.elim
  | .gl _ :: _, _, _, _, _, _, w => w.elim
  | .scr _ :: _, _, _, _, _, _, w => w.elim
  | .lst _ :: _, _, _, _, _, _, w => w.elim
  | .tup _ :: _, _, _, _, _, _, w => w.elim
  | .dk _ :: _, _, _, _, _, _, w => w.elim
  | .dt _ :: _, _, _, _, _, _, w => w.elim
  | .rng _ _ :: _, _, _, _, _, _, w => w.elim
  | .ob _ _ :: _, _, _, _, _, _, w => w.elim
def allS (s : S) : M D := onList (fun ds => M.bind (boolsL ds) fun is => M.pure (.bl (is.all _root_.id))) s
theorem allS_ok : C1 X E (rAll X.K) allS := by
  intro s v B ρ m H Q hs r w
  obtain ⟨ds, xs, a, rfl, h2, h3, w2⟩ := onList_ok hs r w
  obtain ⟨is, rfl, rfl, w3⟩ := boolsL_ok (P := fun _ _ _ _ _ => True) h3 w2
  exact ⟨a, is, rfl, h2, Wt.ok (E := E) (m := m) w3 hs _ rfl⟩
/-- whole numbers -/
def intS (f : Int → D) : S → M D
  | .d (.int i) => M.pure (f i)
  | _ => bad
def absS : S → M D := intS fun i => .int (if i < 0 then -i else i)
theorem absS_ok : C1 X E (fun xs H Q => ∃ i, xs = [.int i] ∧ Q (.int (if i < 0 then -i else i)) H) absS := by
  intro s v B ρ m H Q hs r w
  cases s with
  | h n => exact w.elim
  | d x =>
    cases x with
    | int i => exact ⟨i, by rw [show v = .int i from r], Wt.ok (E := E) (m := m) w hs _ rfl⟩
    | _ => exact w.elim
def toIntS : S → M D
  | .d (.int i) => M.pure (.int i)
  | .d (.bl b) => M.pure (.int (if b then 1 else 0))
  | _ => bad
theorem toIntS_ok : C1 X E (fun xs H Q => (∃ i, xs = [.int i] ∧ Q (.int i) H) ∨ ∃ k, xs = [.bl k] ∧ Q (.int (if k then 1 else 0)) H) toIntS := by
  intro s v B ρ m H Q hs r w
  cases s with
  | h n => exact w.elim
  | d x =>
    cases x with
    | int i => exact .inl ⟨i, by rw [show v = .int i from r], Wt.ok (E := E) (m := m) w hs _ rfl⟩
    | bl i => exact .inr ⟨i, by rw [show v = .bl i from r], Wt.ok (E := E) (m := m) w hs _ rfl⟩
    | _ => exact w.elim
def mm2 (f : Int → Int → Int) : S → S → M D
  | .d (.int i), .d (.int j) => M.pure (.int (f i j))
  | _, _ => bad
theorem mm2_ok {f : Int → Int → Int} : C2 X E (fun xs H Q => ∃ i j, xs = [.int i, .int j] ∧ Q (.int (f i j)) H) (mm2 f) := by
  intro s1 s2 v1 v2 B ρ m H Q hs r1 r2 w
  cases s1 with
  | h n => exact w.elim
  | d x =>
    cases x with
    | int i =>
      cases s2 with
      | h n => exact w.elim
      | d y =>
        cases y with
        | int j => exact ⟨i, j, by rw [show v1 = .int i from r1, show v2 = .int j from r2], Wt.ok (E := E) (m := m) w hs _ rfl⟩
        | _ => exact w.elim
    | _ => exact w.elim
end
end Mi

set_option Elab.async false
set_option linter.all false
set_option maxRecDepth 100000
set_option maxHeartbeats 4000000
/-! The layer Mi. Part 7: isinstance, subscripts, slices, changing lists, calls of defs. -/
namespace Mi
open PySem PySem.Spec PyProof.Rows L2
section
variable {X : Cx} {E : XK} {K : PySem.W.Frag} {B : Hp} {ρ : Rho} {m : Mem} {H : Hp} {a b c e : Expr} {pos p : Pos} {x : Str} {id : String} {r : List V → Hp → VK → Prop} {ga gb : SD → M S} {fa fb : SD → M D}
/-! ### built-in classes as values, isinstance -/
theorem se_ty {T : String} (hm : X.mg x = none) (hv : bootBuiltins x = some (.type T) := by decide +kernel) (hg : Gl X x := by rfl) (hn : x ≠ "__name__" := by decide) (hdb : (x == ("__debug__" : Str)) = false := by decide) : SE X E (.Name x pos) (fun _ => M.pure (.ty T)) := by
  refine ⟨tC (.ty T), ⟨fun pins s σ H Q I h => ?_⟩, fun σ sd B ρ m H Q s rl w => Wt.ok (E := E) (m := m) w s _ rfl⟩
  exact ld_blt I hg hm hv ⟨V.ty T, H, I, rfl, h⟩ hn hdb
def tyN : S → Option String
  | .d .non => some "NoneType"
  | .d (.bl _) => some "bool"
  | .d (.int _) => some "int"
  | .d (.str _) => some "str"
  | .d (.lst _) => some "list"
  | .d (.tup _) => some "tuple"
  | .d (.dk _) => some "dict"
  | .d (.dt _) => some "dict"
  | _ => none
theorem tyN_ok {s : S} {v : V} {T : String} (hs : Sim K B ρ m H) (r : RepS K B ρ s v) (h : tyN s = some T) : TyX K H v (.type T) := by
  cases s with
  | h n => cases h
  | d x =>
    cases x with
    | non => cases h; rw [show v = .non from r]; exact .base .non
    | bl b => cases h; rw [show v = .bl b from r]; exact .base (.bl b)
    | int i => cases h; rw [show v = .int i from r]; exact .base (.int i)
    | str z => cases h; rw [show v = .str z from r]; exact .base (.str z)
    | lst ds => cases h; obtain ⟨a, xs, rfl, h2, _⟩ := r; exact .base (.lst (hs.ex _ _ h2))
    | tup ds => cases h; obtain ⟨a, xs, rfl, h2, _⟩ := r; exact .base (.tup (hs.ex _ _ h2))
    | dk ds => cases h; obtain ⟨a, xs, rfl, h2, _⟩ := r; exact .base (.dK (hs.ex _ _ h2))
    | dt ds => cases h; obtain ⟨a, xs, rfl, h2, _⟩ := r; exact .base (.dT (hs.ex _ _ h2))
    | _ => cases h
/-- is one of the kind t of one of the kinds -/
def kits (t : String) : List String → Option Bool
  | [] => some false
  | c :: cs => match kitB t c with
    | some true => some true
    | some false => kits t cs
    | none => none
theorem kits_ok {t : String} : ∀ {cs : List String} {r : Bool}, kits t cs = some r → PySem.W.kitAny K (.type t) (cs.map Value.type) = some r
  | [], r, h => by
    cases h
    exact kitAny_nil
  | c :: cs, r, h => by
    unfold kits at h
    cases q : kitB t c with
    | none => rw [q] at h; cases h
    | some z =>
      rw [q] at h
      cases z with
      | true =>
        cases h
        exact kitAny_cons (kit_ty q) (fun z => by cases z) (fun _ => rfl)
      | false => exact kitAny_cons (kit_ty q) (fun _ => kits_ok h) (fun z => by cases z)
def tysL : List D → Option (List String)
  | [] => some []
  | .ty T :: ds => (tysL ds).map fun r => T :: r
  | _ :: _ => none
theorem tysL_ok : ∀ {ds : List D} {xs : List V} {Ts : List String}, RepL K B ds xs → tysL ds = some Ts → Paired ClsV xs (Ts.map Value.type)
  | [], _, _, h, e => by
    rw [show _ = [] from h]
    cases e
    exact .nil
  | .ty T :: ds, _, _, h, e => by
    obtain ⟨x, r, rfl, h2, h3⟩ := h
    unfold tysL at e
    cases q : tysL ds with
    | none => rw [q] at e; cases e
    | some Ts =>
      rw [q] at e
      cases e
      rw [show x = .ty T from h2]
      exact .cons (.ty T) (tysL_ok h3 q)
  | .non :: _, _, _, _, e => by cases e
  | .bl _ :: _, _, _, _, e => by cases e
  | .int _ :: _, _, _, _, e => by cases e
  | .str _ :: _, _, _, _, e => by cases e
  | .gl _ :: _, _, _, _, e => by cases e
  | .scr _ :: _, _, _, _, e => by cases e
  | .lst _ :: _, _, _, _, e => by cases e
  | .tup _ :: _, _, _, _, e => by cases e
  | .dk _ :: _, _, _, _, e => by cases e
  | .dt _ :: _, _, _, _, e => by cases e
  | .rng _ _ :: _, _, _, _, e => by cases e
  | .ob _ _ :: _, _, _, _, e => by cases e
def isi (s : S) : S → M D
  | .d (.ty T) => (match (tyN s).bind fun t => kitB t T with
    | some r => M.pure (.bl r)
    | none => bad)
  | .d (.tup ds) => (match (tyN s).bind fun t => (tysL ds).bind fun Ts => kits t Ts with
    | some r => M.pure (.bl r)
    | none => bad)
  | _ => bad
def rIsi2 (K : PySem.W.Frag) : List V → Hp → VK → Prop := fun xs H Q => rIsi K xs H Q ∨ rIsiT K xs H Q
theorem isi_ok : C2 X E (rIsi2 X.K) isi := by
  intro s1 s2 v1 v2 B ρ m H Q hs r1 r2 w
  cases s2 with
  | h n => exact w.elim
  | d y =>
    cases y with
    | ty T =>
      have w2 : Wt X.K B ρ H E (PD X.K Q) ((match (tyN s1).bind fun t => kitB t T with | some r => M.pure (.bl r) | none => bad : M D) m) := w
      cases q : tyN s1 with
      | none => rw [q] at w2; exact w2.elim
      | some t =>
        rw [q] at w2
        have w3 : Wt X.K B ρ H E (PD X.K Q) ((match kitB t T with | some r => M.pure (.bl r) | none => bad : M D) m) := w2
        cases k : kitB t T with
        | none => rw [k] at w3; exact w3.elim
        | some z =>
          rw [k] at w3
          exact .inl ⟨v1, .ty T, .type t, .type T, z, by rw [show v2 = .ty T from r2], .ty T, tyN_ok hs r1 q, kit_ty k, Wt.ok (E := E) (m := m) w3 hs _ rfl⟩
    | tup ds =>
      obtain ⟨a, xs, rfl, h2, h3⟩ := r2
      have w2 : Wt X.K B ρ H E (PD X.K Q) ((match (tyN s1).bind fun t => (tysL ds).bind fun Ts => kits t Ts with | some r => M.pure (.bl r) | none => bad : M D) m) := w
      cases q : tyN s1 with
      | none => rw [q] at w2; exact w2.elim
      | some t =>
        rw [q] at w2
        cases q2 : tysL ds with
        | none => rw [q2] at w2; exact w2.elim
        | some Ts =>
          rw [q2] at w2
          have w3 : Wt X.K B ρ H E (PD X.K Q) ((match kits t Ts with | some r => M.pure (.bl r) | none => bad : M D) m) := w2
          cases k : kits t Ts with
          | none => rw [k] at w3; exact w3.elim
          | some z =>
            rw [k] at w3
            exact .inr ⟨v1, a, xs, .type t, Ts.map Value.type, z, rfl, hs.ex _ _ h2, tysL_ok h3 q2, tyN_ok hs r1 q, kits_ok k, Wt.ok (E := E) (m := m) w3 hs _ rfl⟩
    | _ => exact w.elim
theorem call_isi2 : CallR X (.builtin "isinstance") (rIsi2 X.K) := CallR.or call_isi call_isiT
/-! ### subscripts -/
theorem atI_rep {ds : List D} {xs : List V} {i : Int} {d : D} (h : RepL K B ds xs) (e : atI ds i = some d) : ∃ v, atI xs i = some v ∧ Rep K B d v := by
  unfold atI at e ⊢
  rw [h.length]
  cases q : ixN ds.length i with
  | none => rw [q] at e; cases e
  | some j =>
    rw [q] at e
    exact h.get e
def ixS (s : S) (i : D) : M D := match s, i with
  | .d (.str z), .int k => if z.length ≤ 16777216 then (match atI z.cps.toList k with
    | some c => M.pure (.str ⟨#[c]⟩)
    | none => bad) else bad
  | s, .int k => onItems (fun ds => match atI ds k with
    | some d => M.pure d
    | none => bad) s
  | _, _ => bad
theorem ixS_ok {s : S} {v y : V} {d : D} {Q : VK} (hs : Sim K B ρ m H) (r : RepS K B ρ s v) (ry : Rep K B d y) (w : Wt K B ρ H E (PD K Q) (ixS s d m)) : rIx K v y H Q := by
  cases d with
  | int k =>
    have seq : Wt K B ρ H E (PD K Q) (onItems (fun ds => match atI ds k with | some d => M.pure d | none => bad) s m) → rIx K v y H Q := fun w => by
      obtain ⟨ds, xs, a, rfl, h2, h3, w2⟩ := onItems_ok hs r w
      cases q : atI ds k with
      | none =>
        have w3 : Wt K B ρ H E (PD K Q) ((match atI ds k with | some d => M.pure d | none => bad : M D) m) := w2
        rw [q] at w3
        exact w3.elim
      | some d =>
        have w3 : Wt K B ρ H E (PD K Q) ((match atI ds k with | some d => M.pure d | none => bad : M D) m) := w2
        rw [q] at w3
        obtain ⟨u, g1, g2⟩ := atI_rep h3 q
        rcases h2 with h2 | h2
        · exact .inl ⟨a, xs, k, u, rfl, ry, h2, g1, Wt.ok (E := E) (m := m) w3 hs _ g2⟩
        · exact .inr (.inl ⟨a, xs, k, u, rfl, ry, h2, g1, Wt.ok (E := E) (m := m) w3 hs _ g2⟩)
    cases s with
    | h n => exact seq w
    | d x =>
      cases x with
      | str z =>
        have w2 : Wt K B ρ H E (PD K Q) ((if z.length ≤ 16777216 then (match atI z.cps.toList k with | some c => M.pure (.str ⟨#[c]⟩) | none => bad) else bad : M D) m) := w
        split at w2
        · rename_i hl
          cases q : atI z.cps.toList k with
          | none => rw [q] at w2; exact w2.elim
          | some c =>
            rw [q] at w2
            exact .inr (.inr ⟨z, k, c, r, ry, by rw [sl16]; exact hl, q, Wt.ok (E := E) (m := m) w2 hs _ rfl⟩)
        · exact w2.elim
      | _ => exact seq w
  | _ => cases s with
    | h n => exact w.elim
    | d x => cases x <;> exact w.elim
theorem se_ix (ha : SX X E a ga) (hb : SE X E b fb) (hs : PlainIx b := by exact fun _ _ => rfl) : SE X E (.Subscript a b pos) (fun sd => M.bind (ga sd) fun s => M.bind (fb sd) fun i => ixS s i) := by
  obtain ⟨ta, pa, ka⟩ := ha
  obtain ⟨tb, pb, kb⟩ := hb
  refine ⟨_, pe_ix ix_seq pa pb hs, fun σ sd B ρ m H Q s rl w => ka σ sd B ρ m H _ s rl ?_⟩
  refine Wt.bind' (r := ga sd m) w fun d B1 ρ1 m1 H1 t1 s1 w1 v r => kb σ sd B1 ρ1 m1 H1 _ s1 (rl.ste t1) ?_
  exact Wt.bind' (r := fb sd m1) w1 fun d2 B2 ρ2 m2 H2 t2 s2 w2 v2 r2 => ixS_ok s2 (r.ste t2) r2 w2
/-! ### slices -/
def SO (X : Cx) (E : XK) (e : Option Expr) (f : SD → M (Option Int)) : Prop := ∃ t, PO X e t ∧ ∀ σ sd B ρ m H Q, Sim X.K B ρ m H → RelS X.K B ρ σ sd → Wt X.K B ρ H E (fun o _ _ _ H' => Q o H') (f sd m) → t σ H Q
theorem so_none : SO X E none (fun _ => M.pure none) := ⟨_, po_none, fun σ sd B ρ m H Q s rl w => Wt.ok (E := E) (m := m) w s⟩
theorem so_some (h : SE X E e fa) : SO X E (some e) (fun sd => M.bind (fa sd) fun d => M.bind (asI d) fun i => M.pure (some i)) := by
  obtain ⟨t, p, k⟩ := h
  refine ⟨_, po_some p, fun σ sd B ρ m H Q s rl w => k σ sd B ρ m H _ s rl ?_⟩
  refine Wt.bind' (r := fa sd m) w fun d B1 ρ1 m1 H1 t1 s1 w1 v r => ?_
  cases d with
  | int i => exact ⟨i, r, Wt.ok (E := E) (m := m1) w1 s1⟩
  | _ => exact w1.elim
def cutD (ds : List D) (lo hi : Option Int) : List D := (ds.drop (HT.sIx ds.length 0 lo)).take (HT.sIx ds.length ds.length hi - HT.sIx ds.length 0 lo)
theorem cut_rep {ds : List D} {xs : List V} (h : RepL K B ds xs) (lo hi : Option Int) : RepL K B (cutD ds lo hi) (cutV xs lo hi) := by
  unfold cutD cutV
  rw [h.length]
  exact (h.drop _).take _
/-- a slice of a list: a new list -/
theorem sf_slice {lo hi : Option Expr} {p2 : Pos} {go gh : SD → M (Option Int)} (ha : SX X E a ga) (hl : SO X E lo go) (hh : SO X E hi gh) : SF X E (.Subscript a (.Slice lo hi none p2) pos) (fun sd => M.bind (ga sd) fun s => M.bind (go sd) fun l => M.bind (gh sd) fun h => onList (fun ds => M.pure (cutD ds l h)) s) := by
  obtain ⟨ta, pa, ka⟩ := ha
  obtain ⟨tl, pl, kl⟩ := hl
  obtain ⟨th, ph, kh⟩ := hh
  refine ⟨_, pe_slice sl_list pa pl ph, fun σ sd B ρ m H Q s rl w => ka σ sd B ρ m H _ s rl ?_⟩
  refine Wt.bindO (r := ga sd m) w fun d B1 ρ1 m1 H1 t1 s1 w1 v r => kl σ sd B1 ρ1 m1 H1 _ s1 (rl.ste t1) ?_
  refine Wt.bindO (r := go sd m1) (Wt.freshP t1 s1 w1) fun l B2 ρ2 m2 H2 t2 s2 w2 => kh σ sd B2 ρ2 m2 H2 _ s2 ((rl.ste t1).ste t2) ?_
  refine Wt.bindO (r := gh sd m2) (Wt.freshP t2 s2 w2) fun h B3 ρ3 m3 H3 t3 s3 w3 => ?_
  have w4 := Wt.freshP t3 s3 w3
  obtain ⟨ds, xs, a, rfl, h2, h3, w5⟩ := onList_ok s3 ((r.ste t2).ste t3) w4
  refine ⟨a, xs, rfl, h2, fun p hp => ?_⟩
  exact Wt.ok' (E := E) (m := m3) w5 (Ste.newH hp) (s3.newH hp) p _ hp (s3.bnone hp) (s3.nown hp) upd_same (cut_rep h3 l h)
/-! ### changing lists -/
/-- the changing list n -/
def onH {α : Type} (f : Nat → List D → M α) : S → M α
  | .h n => fun m => match m[n]? with
    | some (.lst ds) => f n ds m
    | _ => .bad
  | _ => bad
theorem onH_ok {α : Type} {f : Nat → List D → M α} {s : S} {v : V} {P : α → Hp → Rho → Mem → Hp → Prop} (hs : Sim K B ρ m H) (r : RepS K B ρ s v) (w : Wt K B ρ H E P (onH f s m)) :
    ∃ n p ds xs, s = .h n ∧ ρ[n]? = some p ∧ v = .ref p.1 ∧ B p.1 = none ∧ p.2 = [] ∧ H p.1 = some (.lst xs) ∧ RepL K B ds xs ∧ m[n]? = some (.lst ds) ∧ Wt K B ρ H E P (f n ds m) := by
  cases s with
  | d x => exact w.elim
  | h n =>
    obtain ⟨p, h1, rfl⟩ := r
    obtain ⟨o, h2, h3⟩ := hs.at_ h1
    have w2 : Wt K B ρ H E P (match m[n]? with | some (.lst ds) => f n ds m | _ => .bad) := w
    rw [h2] at w2
    cases o with
    | lst ds =>
      obtain ⟨z1, z2, xs, z3, z4⟩ := h3
      exact ⟨n, p, ds, xs, rfl, h1, rfl, z1, z2, z3, z4, h2, w2⟩
    | _ => exact w2.elim
def setH (n : Nat) (ds : List D) : M D := fun m => .ok .non (m.set n (.lst ds))
/-- the list is written -/
theorem Wt.set {α : Type} {a : α} {n : Nat} {p : Addr × List Addr} {ds : List D} {xs : List V} {P : α → Hp → Rho → Mem → Hp → Prop} (hs : Sim K B ρ m H) (hp : ρ[n]? = some p) (hB : B p.1 = none) (h2 : p.2 = []) (r : RepL K B ds xs)
    (w : Wt K B ρ H E P (.ok a (m.set n (.lst ds)))) : P a B ρ (m.set n (.lst ds)) (upd H p.1 (.lst xs)) := by
  have hne : ∀ a u, ¬ (a = p.1 ∨ a ∈ p.2) → H a = some u → upd H p.1 (.lst xs) a = some u := fun a u z e => by
    rw [upd_ne (fun q => z (.inl q))]
    exact e
  refine Wt.ok' w (Ste.write hp hne) (hs.write hp (fun a z => ?_) hne ⟨hB, h2, xs, upd_same, r⟩)
  rcases z with z | z
  · rw [z]; exact hB
  · rw [h2] at z; cases z
def appS (s : S) (d : D) : M D := onH (fun n ds => if ds.length < 16777216 then setH n (ds ++ [d]) else bad) s
def isL : S → M Unit := onH fun _ _ => M.pure ()
theorem isL_ok {s : S} {v : V} {P : Unit → Hp → Rho → Mem → Hp → Prop} (hs : Sim K B ρ m H) (r : RepS K B ρ s v) (w : Wt K B ρ H E P (isL s m)) : tyV K "list" v H ∧ P () B ρ m H := by
  obtain ⟨n, p, ds, xs, rfl, h1, rfl, z1, z2, z3, z4, h2, w2⟩ := onH_ok hs r w
  exact ⟨.inl ⟨rfl, _, SqL.of z3⟩, Wt.ok (E := E) (m := m) w2 hs⟩
section
variable {apos : Pos}
/-- a method of a changing list, one argument -/
theorem se_lm {name : Str} {id : String} {rr : V → List V → Hp → VK → Prop} {f : S → D → M D} (slot : Slot "list" name id) (hty : typeOf (.builtin id) = pure (.type "method_descriptor")) (hm : MtR X id rr)
    (hf : ∀ s v d y B ρ m H Q, Sim X.K B ρ m H → RepS X.K B ρ s v → Rep X.K B d y → Wt X.K B ρ H E (PD X.K Q) (f s d m) → rr v [y] H Q) (ha : SX X E a ga) (hb : SE X E b fb) (hbase : attributeBase a name X.env (eval a X.env) = eval a X.env := by rfl)
    (hfew : ((backTo pos (starEach [b] X.env)).all (fun x => !x.1) && (backToKw pos (keywordEach [] X.env)).all (fun x => x.1.isSome) && decide (([b] : List Expr).length + ([] : List Keyword).length + (if ([] : List Keyword).isEmpty then 0 else 1) < 30)) = true := by rfl)
    (hline : (apos.endLine == pos.line) = true := by rfl) (he : starEach [b] X.env = (false, eval b X.env) :: starEach [] X.env := by rfl) (hpl : (backTo pos (starEach [] X.env)).any (·.1) = false := by rfl) :
    SE X E (.Call (.Attribute a name apos) [b] [] pos) (fun sd => M.bind (ga sd) fun s => M.bind (isL s) fun _ => M.bind (fb sd) fun d => f s d) := by
  obtain ⟨ta, pa, ka⟩ := ha
  obtain ⟨tb, pb, kb⟩ := hb
  refine ⟨_, pe_bm PySem.F.plainAttrs_list slot hty hm pa (pa_cons pb pa_nil he) hbase hfew hline he hpl, fun σ sd B ρ m H Q s rl w => ka σ sd B ρ m H _ s rl ?_⟩
  refine Wt.bind' (r := ga sd m) w fun d B1 ρ1 m1 H1 t1 s1 w1 v r => ?_
  obtain ⟨ty, w2⟩ := isL_ok (E := E) s1 r (Wt.bind (f := fun _ => M.bind (fb sd) fun x => f d x) w1)
  refine ⟨ty, kb σ sd B1 ρ1 m1 H1 _ s1 (rl.ste t1) ?_⟩
  exact Wt.bind' (r := fb sd m1) w2 fun d2 B2 ρ2 m2 H2 t2 s2 w3 v2 r2 => hf d v d2 v2 B2 ρ2 m2 H2 Q s2 (r.ste t2) r2 w3
/-- .. no argument -/
theorem se_lm0 {name : Str} {id : String} {rr : V → List V → Hp → VK → Prop} {f : S → M D} (slot : Slot "list" name id) (hty : typeOf (.builtin id) = pure (.type "method_descriptor")) (hm : MtR X id rr)
    (hf : ∀ s v B ρ m H Q, Sim X.K B ρ m H → RepS X.K B ρ s v → Wt X.K B ρ H E (PD X.K Q) (f s m) → rr v [] H Q) (ha : SX X E a ga) (hbase : attributeBase a name X.env (eval a X.env) = eval a X.env := by rfl)
    (hline : (apos.endLine == pos.line) = true := by rfl) : SE X E (.Call (.Attribute a name apos) [] [] pos) (fun sd => M.bind (ga sd) fun s => M.bind (isL s) fun _ => f s) := by
  obtain ⟨ta, pa, ka⟩ := ha
  refine ⟨_, pe_bm0 PySem.F.plainAttrs_list slot hty hm pa hbase hline, fun σ sd B ρ m H Q s rl w => ka σ sd B ρ m H _ s rl ?_⟩
  refine Wt.bind' (r := ga sd m) w fun d B1 ρ1 m1 H1 t1 s1 w1 v r => ?_
  obtain ⟨ty, w2⟩ := isL_ok (E := E) s1 r (Wt.bind (f := fun _ => f d) w1)
  exact ⟨ty, hf d v B1 ρ1 m1 H1 Q s1 r w2⟩
theorem appS_ok {s : S} {v y : V} {d : D} {Q : VK} (hs : Sim K B ρ m H) (r : RepS K B ρ s v) (ry : Rep K B d y) (w : Wt K B ρ H E (PD K Q) (appS s d m)) : rAppend v [y] H Q := by
  obtain ⟨n, p, ds, xs, rfl, h1, rfl, z1, z2, z3, z4, h2, w2⟩ := onH_ok hs r w
  split at w2
  · rename_i hl
    exact ⟨p.1, xs, y, rfl, rfl, z3, by rw [z4.length, sl16]; exact hl, Wt.set hs h1 z1 z2 (z4.append (RepL.one ry)) w2 _ rfl⟩
  · exact w2.elim
theorem se_append (ha : SX X E a ga) (hb : SE X E b fb) (hbase : attributeBase a "append" X.env (eval a X.env) = eval a X.env := by rfl)
    (hfew : ((backTo pos (starEach [b] X.env)).all (fun x => !x.1) && (backToKw pos (keywordEach [] X.env)).all (fun x => x.1.isSome) && decide (([b] : List Expr).length + ([] : List Keyword).length + (if ([] : List Keyword).isEmpty then 0 else 1) < 30)) = true := by rfl)
    (hline : (apos.endLine == pos.line) = true := by rfl) (he : starEach [b] X.env = (false, eval b X.env) :: starEach [] X.env := by rfl) (hpl : (backTo pos (starEach [] X.env)).any (·.1) = false := by rfl) :
    SE X E (.Call (.Attribute a "append" apos) [b] [] pos) (fun sd => M.bind (ga sd) fun s => M.bind (isL s) fun _ => M.bind (fb sd) fun d => appS s d) :=
  se_lm PySem.F.slot_list_append PySem.F.type_list_append mt_append (fun s v d y B ρ m H Q hs r ry w => appS_ok hs r ry w) ha hb hbase hfew hline he hpl
/-- xs.pop(i), 0 <= i -/
def popS (s : S) (i : D) : M D := onH (fun n ds => M.bind (asI i) fun k => if 0 ≤ k ∧ k < 9223372036854775808 then (match ds[k.toNat]? with
  | some d => M.bind (setH n (ds.eraseIdx k.toNat)) fun _ => M.pure d
  | none => bad) else bad) s
theorem popS_ok {s : S} {v y : V} {d : D} {Q : VK} (hs : Sim K B ρ m H) (r : RepS K B ρ s v) (ry : Rep K B d y) (w : Wt K B ρ H E (PD K Q) (popS s d m)) : rPopAt v [y] H Q := by
  obtain ⟨n, p, ds, xs, rfl, h1, rfl, z1, z2, z3, z4, h2, w2⟩ := onH_ok hs r w
  cases d with
  | int k =>
    have w3 : Wt K B ρ H E (PD K Q) ((if 0 ≤ k ∧ k < 9223372036854775808 then (match ds[k.toNat]? with | some d => M.bind (setH n (ds.eraseIdx k.toNat)) fun _ => M.pure d | none => bad) else bad : M D) m) := w2
    split at w3
    · rename_i hk
      cases q : ds[k.toNat]? with
      | none => rw [q] at w3; exact w3.elim
      | some d =>
        rw [q] at w3
        obtain ⟨u, g1, g2⟩ := z4.get q
        have hlt : k.toNat < xs.length := (List.getElem?_eq_some_iff.mp g1).1
        have hix : seqIndex? k xs.length = some k.toNat := seqIndex_of hk.1 (by omega)
        exact ⟨p.1, xs, k, k.toNat, u, rfl, by rw [show y = .int k from ry], z3, by omega, by omega, hix, g1, Wt.set hs h1 z1 z2 (z4.eraseIdx k.toNat) (P := PD K Q) w3 _ g2⟩
    · exact w3.elim
  | _ => exact w2.elim
theorem se_pop (ha : SX X E a ga) (hb : SE X E b fb) (hbase : attributeBase a "pop" X.env (eval a X.env) = eval a X.env := by rfl)
    (hfew : ((backTo pos (starEach [b] X.env)).all (fun x => !x.1) && (backToKw pos (keywordEach [] X.env)).all (fun x => x.1.isSome) && decide (([b] : List Expr).length + ([] : List Keyword).length + (if ([] : List Keyword).isEmpty then 0 else 1) < 30)) = true := by rfl)
    (hline : (apos.endLine == pos.line) = true := by rfl) (he : starEach [b] X.env = (false, eval b X.env) :: starEach [] X.env := by rfl) (hpl : (backTo pos (starEach [] X.env)).any (·.1) = false := by rfl) :
    SE X E (.Call (.Attribute a "pop" apos) [b] [] pos) (fun sd => M.bind (ga sd) fun s => M.bind (isL s) fun _ => M.bind (fb sd) fun d => popS s d) :=
  se_lm PySem.F.slot_list_pop PySem.F.type_list_pop mt_popAt (fun s v d y B ρ m H Q hs r ry w => popS_ok hs r ry w) ha hb hbase hfew hline he hpl
def pop0S (s : S) : M D := onH (fun n ds => match ds[ds.length - 1]? with
  | some d => M.bind (setH n ds.dropLast) fun _ => M.pure d
  | none => bad) s
theorem RepL.dropLast {ds : List D} {xs : List V} (h : RepL K B ds xs) : RepL K B ds.dropLast xs.dropLast := by
  rw [List.dropLast_eq_take, List.dropLast_eq_take, h.length]
  exact h.take _
theorem pop0S_ok {s : S} {v : V} {Q : VK} (hs : Sim K B ρ m H) (r : RepS K B ρ s v) (w : Wt K B ρ H E (PD K Q) (pop0S s m)) : rPop v [] H Q := by
  obtain ⟨n, p, ds, xs, rfl, h1, rfl, z1, z2, z3, z4, h2, w2⟩ := onH_ok hs r w
  cases q : ds[ds.length - 1]? with
  | none =>
    have w3 : Wt K B ρ H E (PD K Q) ((match ds[ds.length - 1]? with | some d => M.bind (setH n ds.dropLast) fun _ => M.pure d | none => bad : M D) m) := w2
    rw [q] at w3
    exact w3.elim
  | some d =>
    have w3 : Wt K B ρ H E (PD K Q) ((match ds[ds.length - 1]? with | some d => M.bind (setH n ds.dropLast) fun _ => M.pure d | none => bad : M D) m) := w2
    rw [q] at w3
    obtain ⟨u, g1, g2⟩ := z4.get q
    exact ⟨p.1, xs, u, rfl, rfl, z3, by rw [z4.length]; exact g1, Wt.set hs h1 z1 z2 z4.dropLast (P := PD K Q) w3 _ g2⟩
/-- xs.index(d), flat items -/
def indexL (d : D) : Nat → List D → Option Nat
  | _, [] => none
  | i, x :: xs => if eqF x d = true then some i else indexL d (i + 1) xs
theorem indexL_spec {d : D} : ∀ {ds : List D} {i j : Nat}, indexL d i ds = some j → i ≤ j ∧ (∃ z, ds[j - i]? = some z ∧ eqF z d = true) ∧ ∀ k z, k < j - i → ds[k]? = some z → eqF z d = false
  | [], _, _, h => by cases h
  | x :: xs, i, j, h => by
    unfold indexL at h
    split at h
    · rename_i hq
      cases h
      refine ⟨Nat.le_refl _, ⟨x, by simp, hq⟩, fun k z hk => by omega⟩
    · rename_i hq
      obtain ⟨h1, ⟨z, h2, h3⟩, h4⟩ := indexL_spec h
      refine ⟨by omega, ⟨z, ?_, h3⟩, fun k y hk hy => ?_⟩
      · have e : j - i = (j - (i + 1)) + 1 := by omega
        rw [e]
        simpa using h2
      · cases k with
        | zero =>
          simp at hy
          rw [← hy]
          exact Bool.eq_false_iff.mpr hq
        | succ k => exact h4 k y (by omega) (by simpa using hy)
def indexS (s : S) (d : D) : M D := onList (fun ds => if (flatD d && ds.all flatD) = true then (match indexL d 0 ds with
  | some j => M.pure (.int (j : Nat))
  | none => bad) else bad) s
theorem toV_get {ds : List D} {j : Nat} : (ds.map toV)[j]? = (ds[j]?).map toV := List.getElem?_map ..
theorem indexS_ok {s : S} {v y : V} {d : D} {Q : VK} (hs : Sim K B ρ m H) (r : RepS K B ρ s v) (ry : Rep K B d y) (w : Wt K B ρ H E (PD K Q) (indexS s d m)) : rIndex K v [y] H Q := by
  obtain ⟨ds, xs, a, rfl, h2, h3, w2⟩ := onList_ok hs r w
  split at w2
  · rename_i hc
    obtain ⟨c1, c2⟩ := Bool.and_eq_true_iff.mp hc
    obtain ⟨g1, g2⟩ := ry.flat c1
    obtain ⟨g3, g4⟩ := h3.flat c2
    have flat : ∀ {j : Nat} {z : D}, ds[j]? = some z → flatD z = true := fun h => List.all_eq_true.mp c2 _ (List.mem_of_getElem? h)
    cases q : indexL d 0 ds with
    | none => rw [q] at w2; exact w2.elim
    | some j =>
      rw [q] at w2
      obtain ⟨_, ⟨z, k1, k2⟩, k3⟩ := indexL_spec q
      simp only [Nat.sub_zero] at k1 k3
      refine ⟨a, xs, y, j, toV z, rfl, rfl, h2, g2, g4, by rw [g3, toV_get, k1] <;> rfl, by rw [g1, eqF_ok (flat k1) c1]; exact k2, fun k z' hk hz => ?_, Wt.ok (E := E) (m := m) w2 hs _ rfl⟩
      rw [g3, toV_get] at hz
      cases q2 : ds[k]? with
      | none => rw [q2] at hz; cases hz
      | some u =>
        rw [q2] at hz
        cases hz
        rw [g1, eqF_ok (flat q2) c1]
        exact k3 k u hk q2
  · exact w2.elim
/-- a list that is read, at the receiver's time -/
def isList : S → M Unit := onList fun _ => M.pure ()
theorem isList_ok {s : S} {v : V} {P : Unit → Hp → Rho → Mem → Hp → Prop} (hs : Sim K B ρ m H) (r : RepS K B ρ s v) (w : Wt K B ρ H E P (isList s m)) : tyV K "list" v H ∧ P () B ρ m H := by
  obtain ⟨ds, xs, a, rfl, h2, h3, w2⟩ := onList_ok hs r w
  exact ⟨.inl ⟨rfl, xs, h2⟩, Wt.ok (E := E) (m := m) w2 hs⟩
theorem se_index (ha : SX X E a ga) (hb : SE X E b fb) (hbase : attributeBase a "index" X.env (eval a X.env) = eval a X.env := by rfl)
    (hfew : ((backTo pos (starEach [b] X.env)).all (fun x => !x.1) && (backToKw pos (keywordEach [] X.env)).all (fun x => x.1.isSome) && decide (([b] : List Expr).length + ([] : List Keyword).length + (if ([] : List Keyword).isEmpty then 0 else 1) < 30)) = true := by rfl)
    (hline : (apos.endLine == pos.line) = true := by rfl) (he : starEach [b] X.env = (false, eval b X.env) :: starEach [] X.env := by rfl) (hpl : (backTo pos (starEach [] X.env)).any (·.1) = false := by rfl) :
    SE X E (.Call (.Attribute a "index" apos) [b] [] pos) (fun sd => M.bind (ga sd) fun s => M.bind (isList s) fun _ => M.bind (fb sd) fun d => indexS s d) := by
  obtain ⟨ta, pa, ka⟩ := ha
  obtain ⟨tb, pb, kb⟩ := hb
  refine ⟨_, pe_bm PySem.F.plainAttrs_list PySem.F.slot_list_index PySem.F.type_list_index mt_index pa (pa_cons pb pa_nil he) hbase hfew hline he hpl, fun σ sd B ρ m H Q s rl w => ka σ sd B ρ m H _ s rl ?_⟩
  refine Wt.bind' (r := ga sd m) w fun d B1 ρ1 m1 H1 t1 s1 w1 v r => ?_
  obtain ⟨ty, w2⟩ := isList_ok (E := E) s1 r (Wt.bind (f := fun _ => M.bind (fb sd) fun x => indexS d x) w1)
  refine ⟨ty, kb σ sd B1 ρ1 m1 H1 _ s1 (rl.ste t1) ?_⟩
  exact Wt.bind' (r := fb sd m1) w2 fun d2 B2 ρ2 m2 H2 t2 s2 w3 v2 r2 => indexS_ok s2 (r.ste t2) r2 w3
end
/-- xs[i] = v: the value first, then the list, then the place -/
def setS (s : S) (i d : D) : M Unit := onH (fun n ds => M.bind (asI i) fun k => match ixN ds.length k with
  | some j => fun m => .ok () (m.set n (.lst (ds.set j d)))
  | none => bad) s
theorem sg_sub (ha : SX X E a ga) (hb : SE X E b fb) (hpa : ∀ v, assign (.Subscript a b pos) X.env v = (do
      let ov ← holding [v] (eval a X.env)
      let iv ← holding [v, ov] (eval b X.env)
      standAt pos
      holding [v, ov, iv] (setItem ov iv v)
      release [v, ov, iv] []) := by intro _; rfl) : SG X E [] (.Subscript a b pos) (fun d sd => M.bind (ga sd) fun s => M.bind (fb sd) fun i => M.bind (setS s i d) fun _ => M.pure sd) := by
  obtain ⟨ta, pa, ka⟩ := ha
  obtain ⟨tb, pb, kb⟩ := hb
  refine ⟨_, pg_sub pa pb set_list hpa, fun σ sd B ρ m H v d Q hs rl r w => ka σ sd B ρ m H _ hs rl ?_⟩
  refine Wt.bind' (r := ga sd m) w fun s B1 ρ1 m1 H1 t1 s1 w1 o ro => kb σ sd B1 ρ1 m1 H1 _ s1 (rl.ste t1) ?_
  refine Wt.bind' (r := fb sd m1) w1 fun i B2 ρ2 m2 H2 t2 s2 w2 y ry => ?_
  obtain ⟨n, p, ds, xs, rfl, h1, rfl, z1, z2, z3, z4, h2, w3⟩ := onH_ok (E := E) (f := fun n ds => M.bind (asI i) fun k => match ixN ds.length k with | some j => fun m => .ok () (m.set n (.lst (ds.set j d))) | none => bad) s2 (ro.ste t2) (Wt.bind (f := fun _ => M.pure sd) w2)
  cases i with
  | int k =>
    have w4 : Wt X.K B2 ρ2 H2 E _ ((match ixN ds.length k with | some j => fun m => .ok () (m.set n (.lst (ds.set j d))) | none => bad : M Unit) m2) := w3
    cases q : ixN ds.length k with
    | none => rw [q] at w4; exact w4.elim
    | some j =>
      rw [q] at w4
      refine ⟨p.1, xs, k, j, rfl, ry, z3, by rw [z4.length]; exact q, ?_⟩
      have rd : Rep X.K B2 d v := (r.mono t1.bb).mono t2.bb
      have hsub : ∀ a u, ¬ (a = p.1 ∨ a ∈ p.2) → H2 a = some u → upd H2 p.1 (.lst (xs.set j v)) a = some u := fun a u z e => by
        rw [upd_ne (fun q => z (.inl q))]
        exact e
      have w5 := Wt.set s2 h1 z1 z2 (z4.set j rd) w4
      have s3 : Sim X.K B2 ρ2 (m2.set n (.lst (ds.set j d))) (upd H2 p.1 (.lst (xs.set j v))) := s2.write h1 (fun a z => by
        rcases z with z | z
        · rw [z]; exact z1
        · rw [z2] at z; cases z) hsub ⟨z1, z2, _, upd_same, z4.set j rd⟩
      exact Wt.ok (E := E) w5 s3 σ rfl (fun _ _ => rfl) (((rl.ste t1).ste t2).ste (Ste.write h1 hsub))
  | _ => exact w3.elim
/-- target = value -/
theorem ss_asg {js : List Nat} {tg : Expr} {gt : D → SD → M SD} (he : SE X E e fa) (hg : SG X E js tg gt) (hs : swapsWithSole [tg] e pos.line X.env = pure false := by rfl) (hw : swappedStores [tg] e X.env = pure none := by rfl) (h1 : (assignEach [tg] X.env).map (·.2) = [assign tg X.env] := by rfl) :
    SS X E (.Assign [tg] e pos) (fun sd => M.bind (fa sd) fun d => M.bind (gt d sd) fun sd2 => M.pure (.nx sd2)) := by
  obtain ⟨t, p, k⟩ := he
  obtain ⟨t2, p2, k2⟩ := hg
  refine ⟨_, ps_asg p p2 hs hw h1, fun De σ sd B ρ m H s rl w => k σ sd B ρ m H _ s rl ?_⟩
  refine Wt.bind' (r := fa sd m) w fun d B1 ρ1 m1 H1 t1 s1 w1 v r => k2 σ sd B1 ρ1 m1 H1 v d _ s1 (rl.ste t1) r ?_
  exact Wt.bind' (r := gt d sd m1) w1 fun sd2 B2 ρ2 m2 H2 t3 s2 w2 σ2 _ _ rl2 => Wt.ok (E := E) (m := m2) w2 s2 σ2 rl2
end
end Mi

set_option Elab.async false
set_option linter.all false
set_option maxRecDepth 100000
set_option maxHeartbeats 4000000
/-! The layer Mi. Part 8: defs and their calls, raise, parallel and augmented stores. -/
namespace Mi
open PySem PySem.Spec PyProof.Rows L2
/-- a def's body over its arguments: n slots; what it made is forgotten -/
def fnM (n : Nat) (g : SD → M Fl) (args : List S) : M D := fun m => match g (args.map some ++ List.replicate (n - args.length) none) m with
  | .ok (.rt d) m' => .ok d (m'.take m.length)
  | .ok (.nx _) m' => .ok .non (m'.take m.length)
  | .exc c fs m' => .exc c fs (m'.take m.length)
  | _ => .bad
/-- a def's promise, by its function -/
def spF (K : PySem.W.Frag) (n : Nat) (F : List S → M D) : Sp := fun vs H Q E => ∃ B ρ m ss, Sim K B ρ m H ∧ RepSL K B ρ ss vs ∧ ss.length = n ∧ Wt K B ρ H E (PD K Q) (F ss m)
section
variable {P : Program} {w : World} {K : PySem.W.Frag} {mg : Str → Option Value} {base : Heap}
theorem fn_mk {x qual : Str} {params : Arguments} {body : List Stmt} {scope : Scope} {f : Addr} {fd : FuncData} {N ps : List Str} {k : Nat} {g : SD → M Fl} (F : FunD K x qual params body scope [] [] f fd) (S : FnScope N ps scope)
    (hb : ∀ (cdv : Value) (A : Around) (outer : List Env) (s : Shared) (H : Hp) (E : XK), Room k (A.deeper (envOfC qual scope s.heap.objs.size f cdv)) → SSs (cxOf (L2.CX P w) P w K mg base N qual scope f cdv A outer s H E) E body g) :
    FnOk P w K mg base (L2.CX P w) (k + 1) f fd ps (spF K ps.length (fnM N.length g)) := by
  refine F.ok S (fun vs H Q E h => ?_) (fun cdv A outer s H vs Q E hr h => ?_)
  · obtain ⟨B, ρ, m, ss, h1, h2, h3, h4⟩ := h
    rw [h2.length, h3]
  · obtain ⟨B, ρ, m, ss, h1, h2, h3, h4⟩ := h
    obtain ⟨t, p, kk⟩ := hb cdv A outer s H E hr
    refine ⟨t, p, kk _ _ (ss.map some ++ List.replicate (N.length - ss.length) none) B ρ m H h1 ?_ ?_⟩
    · unfold L2.start
      rw [h2.length]
      exact h2.start _
    · have tr : ∀ {B' : Hp} {ρ' : Rho} {H' : Hp} {m' : Mem}, Ste B ρ H B' ρ' H' → Sim K B' ρ' m' H' → Sim K B' ρ (m'.take m.length) H' := fun {B' ρ' H' m'} t s => by
        obtain ⟨more, e⟩ := t.rr
        subst e
        rw [← h1.len]
        exact s.trunc
      unfold fnM at h4
      cases q : g (ss.map some ++ List.replicate (N.length - ss.length) none) m with
      | ok fl m' =>
        rw [q] at h4
        cases fl with
        | rt d => exact fun B' ρ' H' t s v r => h4 B' ρ H' t.trunc (tr t s) v r
        | nx sd => exact fun B' ρ' H' t s σ' _ => h4 B' ρ H' t.trunc (tr t s) .non rfl
        | bk sd => exact h4.elim
        | ct sd => exact h4.elim
      | exc c fs m' =>
        rw [q] at h4
        exact fun B' ρ' H' dx t s e => h4 B' ρ H' dx t.trunc (tr t s) e
      | bad =>
        rw [q] at h4
        exact h4.elim
end
/-- a def of the module, to be called -/
structure Fx (P : Program) (w : World) (K : PySem.W.Frag) (mg : Str → Option Value) (base : Heap) (k : Nat) (x : Str) (ps : List Str) (F : List S → M D) : Prop where
  ok : ∃ fd, FnOk P w K mg base (L2.CX P w) k (He.ga K x) fd ps (spF K ps.length F) ∧ Binds K fd ps []
  mgx : mg x = some (.ref (He.ga K x))
  kp : PySem.W.keepIn K (.ref (He.ga K x)) = true
def argN (n : Nat) (F : List S → M D) (ss : List S) : M D := if ss.length = n then F ss else bad
section
variable {X : Cx} {E : XK} {K : PySem.W.Frag} {B : Hp} {ρ : Rho} {m : Mem} {H : Hp} {a b c e : Expr} {es : List Expr} {pos p : Pos} {x : Str} {ga gb : SD → M S} {fa fb : SD → M D} {k j : Nat} {ps : List Str} {F : List S → M D}
theorem se_call {gs : SD → M (List S)} (hF : Fx X.prog X.w X.K X.mg X.base k x ps F) (hr : Room k X.A) (hp : Passes (L2.CX X.prog X.w) X E) (ha : SA X E (e :: es) gs) (hg : Gl X x := by rfl) (hdb : (x == ("__debug__" : Str)) = false := by decide)
    (he : starEach (e :: es) X.env = (false, eval e X.env) :: starEach es X.env := by rfl) (hpl : (backTo pos (starEach es X.env)).any (·.1) = false := by rfl) :
    SE X E (.Call (.Name x p) (e :: es) [] pos) (fun sd => M.bind (gs sd) fun ss => argN ps.length F ss) := by
  obtain ⟨t, pa, ka⟩ := ha
  obtain ⟨fd, ok, bi⟩ := hF.ok
  refine ⟨_, pe_call ok hr hg hF.mgx hF.kp bi .nil hp pa hdb he hpl, fun σ sd B ρ m H Q s rl w => ka σ sd B ρ m H _ s rl ?_⟩
  refine Wt.bind' (r := gs sd m) w fun ss B1 ρ1 m1 H1 t1 s1 w1 vs r => ?_
  have w2 : Wt X.K B1 ρ1 H1 E (PD X.K Q) ((if ss.length = ps.length then F ss else bad : M D) m1) := w1
  split at w2
  · rename_i hl
    exact ⟨B1, ρ1, m1, ss, s1, by rw [List.append_nil]; exact r, hl, w2⟩
  · exact w2.elim
theorem se_call0 (hF : Fx X.prog X.w X.K X.mg X.base k x [] F) (hr : Room k X.A) (hp : Passes (L2.CX X.prog X.w) X E) (hg : Gl X x := by rfl) (hdb : (x == ("__debug__" : Str)) = false := by decide) :
    SE X E (.Call (.Name x p) [] [] pos) (fun _ => F []) := by
  obtain ⟨fd, ok, bi⟩ := hF.ok
  exact ⟨_, pe_call0 ok hr hg hF.mgx hF.kp bi .nil hp hdb, fun σ sd B ρ m H Q s rl w => ⟨B, ρ, m, [], s, rfl, rfl, w⟩⟩
/-- a new list, that may change from now on -/
theorem sx_new {gl : SD → M (List D)} (h : SF X E e gl) : SX X E e (fun sd => M.bind (gl sd) fun ds => pushL ds) := by
  obtain ⟨t, p, k⟩ := h
  refine ⟨t, p, fun σ sd B ρ m H Q s rl w => k σ sd B ρ m H _ s rl ?_⟩
  refine Wt.bindO (r := gl sd m) w fun ds B1 ρ1 m1 H1 t1 s1 w1 p xs h0 hb ho hp r => ?_
  have s2 : Sim X.K B1 (ρ1 ++ [(p, [])]) (m1 ++ [.lst ds]) H1 := s1.push (fun a z => by
    rcases z with z | z
    · rw [z]; exact ho
    · cases z) ⟨hb, rfl, xs, hp, r⟩
  refine Wt.ok' w1 (t1.moves h0) s2 _ ⟨(p, []), ?_, rfl⟩
  rw [← s1.len]
  simp
/-- x, y = a, b: plain locals -/
theorem ss_par {i j : Nat} {x y : Str} {px py pt : Pos} {kt k2 pt2} (hc : X.calm = true) (hN : X.N.Nodup) (ha : SX X E a ga) (hb : SX X E b gb) (hw : swappedStores [.Tuple [.Name x px, .Name y py] kt pt] (.Tuple [a, b] k2 pt2) X.env = pure (some [x, y]))
    (hi : X.N[i]? = some x := by rfl) (hj : X.N[j]? = some y := by rfl) (hij : i ≠ j := by decide) (hx : X.env.scope.names.lookup x = some .local := by rfl) (hy : X.env.scope.names.lookup y = some .local := by rfl)
    (hs : swapsWithSole [.Tuple [.Name x px, .Name y py] kt pt] (.Tuple [a, b] k2 pt2) pos.line X.env = pure false := by rfl)
    (he : starEach [a, b] X.env = (false, eval a X.env) :: starEach [b] X.env := by rfl) (he2 : starEach [b] X.env = (false, eval b X.env) :: starEach [] X.env := by rfl) :
    SS X E (.Assign [.Tuple [.Name x px, .Name y py] kt pt] (.Tuple [a, b] k2 pt2) pos) (fun sd => M.bind (ga sd) fun s1 => M.bind (gb sd) fun s2 => M.pure (.nx ((sd.set i (some s1)).set j (some s2)))) := by
  obtain ⟨ta, pa, ka⟩ := ha
  obtain ⟨tb, pb, kb⟩ := hb
  refine ⟨_, ps_par hc hN hi hj hij hx hy (pa_cons pa (pa_cons pb pa_nil he2) he) hw hs, fun De σ sd B ρ m H s rl w => ka σ sd B ρ m H _ s rl ?_⟩
  refine Wt.bind' (r := ga sd m) w fun d B1 ρ1 m1 H1 t1 s1 w1 v r => kb σ sd B1 ρ1 m1 H1 _ s1 (rl.ste t1) ?_
  refine Wt.bind' (r := gb sd m1) w1 fun d2 B2 ρ2 m2 H2 t2 s2 w2 v2 r2 => ⟨v, v2, rfl, ?_⟩
  exact Wt.ok (E := E) (m := m2) w2 s2 _ ((((rl.ste t1).ste t2).set i (r.ste t2)).set j r2)
def getI (i : Nat) (sd : SD) : M D := match sd[i]? with
  | some (some (.d x)) => M.pure x
  | _ => bad
/-- x op= e, whole numbers -/
def augI (f : Int → Int → Int) : D → D → M D
  | .int i, .int j => M.pure (.int (f i j))
  | _, _ => bad
theorem ss_augI {i : Nat} {op : Operator} {f : Int → Int → Int} {px : Pos} (hN : X.N.Nodup) (ho : PIp X op (ipI f)) (he : SE X E e fa) (hi : X.N[i]? = some x := by rfl) (hx : Loc X.env.scope x := by first | exact Or.inl rfl | exact Or.inr rfl) (hf : X.fn x = true ∨ X.env.scope.names.lookup x = some .local := by first | exact .inl rfl | exact .inr rfl | assumption) :
    SS X E (.AugAssign (.Name x px) op e pos) (fun sd => M.bind (getI i sd) fun x => M.bind (fa sd) fun y => M.bind (augI f x y) fun z => M.pure (.nx (sd.set i (some (.d z))))) := by
  obtain ⟨t, p, k⟩ := he
  refine ⟨_, ps_aug hN hi hx p ho hf, fun De σ sd B ρ m H s rl w => ?_⟩
  cases q : sd[i]? with
  | none =>
    have w2 : Wt X.K B ρ H E (PFf X.K De) (((getI i sd) m).bind fun x => M.bind (fa sd) fun y => M.bind (augI f x y) fun z => M.pure (.nx (sd.set i (some (.d z))))) := w
    unfold getI at w2
    rw [q] at w2
    exact w2.elim
  | some o =>
    have w2 : Wt X.K B ρ H E (PFf X.K De) (((getI i sd) m).bind fun x => M.bind (fa sd) fun y => M.bind (augI f x y) fun z => M.pure (.nx (sd.set i (some (.d z))))) := w
    unfold getI at w2
    rw [q] at w2
    cases o with
    | none => exact w2.elim
    | some s' =>
      obtain ⟨v, h1, h2⟩ := rl.2 i s' q
      refine ⟨v, h1, ?_⟩
      cases s' with
      | h n => exact w2.elim
      | d x =>
        refine k σ sd B ρ m H _ s rl ?_
        refine Wt.bind' (r := fa sd m) w2 fun d B1 ρ1 m1 H1 t1 s1 w1 y ry => ?_
        cases x with
        | int a =>
          cases d with
          | int b => exact ⟨a, b, h2, ry, Wt.ok (E := E) (m := m1) w1 s1 _ ((rl.ste t1).set i rfl)⟩
          | _ => exact w1.elim
        | _ => cases d <;> exact w1.elim
/-! ### raise -/
/-- an error of the module without an attribute -/
structure Ex0 (K : PySem.W.Frag) (mg : Str → Option Value) (x : Str) : Prop where
  gC : mg x = some (.ref (He.ga K x))
  ok : PySem.W.excIn K (He.ga K x) He.veBase "ValueError.__new__" = true
  kC : PySem.W.keepIn K (.ref (He.ga K x)) = true
  sub : PySem.W.subIn K (.ref (He.ga K x)) (.type "BaseException") = some true
  ty : PySem.W.typeIn K (.ref (He.ga K x)) = some (.type "type")
theorem ss_raise0 {msg : Str} {jj : Nat} {p2 rp : Pos} (hc : X.calm = true) (tk : Takes X (fun c d _ H => E c d H)) (e0 : Ex0 X.K X.mg x) (hg : Gl X x := by rfl) (hdb : (x == ("__debug__" : Str)) = false := by decide) :
    SS X E (.Raise (some (.Call (.Name x p) [.Constant (.str msg) jj p2] [] pos)) none rp) (fun _ => raise x []) := by
  refine ⟨_, ps_raise hc tk (pmk_own PySem.F.excBase_ValueError e0.ok e0.gC e0.kC (raises_own e0.sub e0.ty) hg hdb), fun De σ sd B ρ m H s rl w => ?_⟩
  exact w B ρ H none (Ste.refl _ _ _) s (.inl ⟨rfl, rfl⟩)
end
end Mi

set_option Elab.async false
set_option linter.all false
set_option maxRecDepth 100000
set_option maxHeartbeats 4000000
/-! The layer Mi. Part 9: comparisons as tests; short words for the functions. -/
namespace Mi
open PySem PySem.Spec PyProof.Rows L2
section
variable {X : Cx} {E : XK} {K : PySem.W.Frag} {B : Hp} {ρ : Rho} {m : Mem} {H : Hp} {a b c e : Expr} {es : List Expr} {pos p : Pos} {x : Str} {ga gb : SD → M S} {fa fb fc : SD → M D}
theorem st_cmpR {op : CmpOp} {r : R2} {f : D → D → M D} (ho : OpR X (compareOp op) r) (hd : OpD X E r f) (ha : SE X E a fa) (hb : SE X E b fb) (hm : behindInMarks op b = false) :
    ST X E (.Compare a [op] [b] pos) (fun sd => M.bind (fa sd) fun x => M.bind (fb sd) fun y => M.bind (f x y) asB) := by
  obtain ⟨ta, pa, ka⟩ := ha
  obtain ⟨tb, pb, kb⟩ := hb
  refine ⟨_, pt_cmpR ho pa pb hm, fun σ sd B ρ m H Q s rl w => ka σ sd B ρ m H _ s rl ?_⟩
  refine Wt.bind' (r := fa sd m) w fun dx B1 ρ1 m1 H1 t1 s1 w1 x rx => kb σ sd B1 ρ1 m1 H1 _ s1 (rl.ste t1) ?_
  refine Wt.bind' (r := fb sd m1) w1 fun dy B2 ρ2 m2 H2 t2 s2 w2 y ry => hd x y dx dy B2 ρ2 m2 H2 _ s2 (rx.mono t2.bb) ry ?_
  refine Wt.bind' (r := f dx dy m2) w2 fun d B3 ρ3 m3 H3 t3 s3 w3 v r => ?_
  cases d with
  | bl z => exact ⟨z, r, Wt.ok (E := E) (m := m3) w3 s3⟩
  | _ => exact w3.elim
theorem st_cmpRS {op : CmpOp} {r : R2} {f : D → S → M D} (ho : OpR X (compareOp op) r) (hd : OpS X E r f) (ha : SE X E a fa) (hb : SX X E b gb) (hm : behindInMarks op b = false) :
    ST X E (.Compare a [op] [b] pos) (fun sd => M.bind (fa sd) fun x => M.bind (gb sd) fun y => M.bind (f x y) asB) := by
  obtain ⟨ta, pa, ka⟩ := ha
  obtain ⟨tb, pb, kb⟩ := hb
  refine ⟨_, pt_cmpR ho pa pb hm, fun σ sd B ρ m H Q s rl w => ka σ sd B ρ m H _ s rl ?_⟩
  refine Wt.bind' (r := fa sd m) w fun dx B1 ρ1 m1 H1 t1 s1 w1 x rx => kb σ sd B1 ρ1 m1 H1 _ s1 (rl.ste t1) ?_
  refine Wt.bind' (r := gb sd m1) w1 fun dy B2 ρ2 m2 H2 t2 s2 w2 y ry => hd x y dx dy B2 ρ2 m2 H2 _ s2 (rx.mono t2.bb) ry ?_
  refine Wt.bind' (r := f dx dy m2) w2 fun d B3 ρ3 m3 H3 t3 s3 w3 v r => ?_
  cases d with
  | bl z => exact ⟨z, r, Wt.ok (E := E) (m := m3) w3 s3⟩
  | _ => exact w3.elim
abbrev ltD := cmpI fun i j => decide (i < j)
abbrev leD := cmpI fun i j => decide (i ≤ j)
abbrev gtD := cmpI fun i j => decide (j < i)
abbrev geD := cmpI fun i j => decide (j ≤ i)
theorem st_lt (ha : SE X E a fa) (hb : SE X E b fb) : ST X E (.Compare a [.Lt] [b] pos) (fun sd => M.bind (fa sd) fun x => M.bind (fb sd) fun y => M.bind (ltD x y) asB) := st_cmpR op_lt cmpI_ok ha hb (nomark _)
theorem st_le (ha : SE X E a fa) (hb : SE X E b fb) : ST X E (.Compare a [.LtE] [b] pos) (fun sd => M.bind (fa sd) fun x => M.bind (fb sd) fun y => M.bind (leD x y) asB) := st_cmpR op_le cmpI_ok ha hb (nomark _)
theorem st_gt (ha : SE X E a fa) (hb : SE X E b fb) : ST X E (.Compare a [.Gt] [b] pos) (fun sd => M.bind (fa sd) fun x => M.bind (fb sd) fun y => M.bind (gtD x y) asB) := st_cmpR op_gt cmpI_ok ha hb (nomark _)
theorem st_ge (ha : SE X E a fa) (hb : SE X E b fb) : ST X E (.Compare a [.GtE] [b] pos) (fun sd => M.bind (fa sd) fun x => M.bind (fb sd) fun y => M.bind (geD x y) asB) := st_cmpR op_ge cmpI_ok ha hb (nomark _)
theorem st_eq (hu : X.A.units + 64 < cLine) (ha : SE X E a fa) (hb : SE X E b fb) : ST X E (.Compare a [.Eq] [b] pos) (fun sd => M.bind (fa sd) fun x => M.bind (fb sd) fun y => M.bind (eqD x y) asB) := st_cmpR (op_eqD hu) eqD_ok ha hb (nomark _)
theorem st_ne (hu : X.A.units + 64 < cLine) (ha : SE X E a fa) (hb : SE X E b fb) : ST X E (.Compare a [.NotEq] [b] pos) (fun sd => M.bind (fa sd) fun x => M.bind (fb sd) fun y => M.bind (neD x y) asB) := st_cmpR (op_neD hu) neD_ok ha hb (nomark _)
theorem st_is (ha : SE X E a fa) (hb : SE X E b fb) : ST X E (.Compare a [.Is] [b] pos) (fun sd => M.bind (fa sd) fun x => M.bind (fb sd) fun y => M.bind (isD x y) asB) := st_cmpR (OpR.or op_isN op_isBl) isD_ok ha hb (nomark _)
theorem st_isnot (ha : SE X E a fa) (hb : SE X E b fb) : ST X E (.Compare a [.IsNot] [b] pos) (fun sd => M.bind (fa sd) fun x => M.bind (fb sd) fun y => M.bind (isNotD x y) asB) := st_cmpR (OpR.or op_notN op_notBl) isNotD_ok ha hb (nomark _)
theorem st_in (ha : SE X E a fa) (hb : SX X E b gb) (hm : behindInMarks .In b = false := by rfl) : ST X E (.Compare a [.In] [b] pos) (fun sd => M.bind (fa sd) fun x => M.bind (gb sd) fun y => M.bind (inS false x y) asB) := st_cmpRS op_in_seq inS_ok ha hb hm
theorem st_notin (ha : SE X E a fa) (hb : SX X E b gb) (hm : behindInMarks .NotIn b = false := by rfl) : ST X E (.Compare a [.NotIn] [b] pos) (fun sd => M.bind (fa sd) fun x => M.bind (gb sd) fun y => M.bind (inS true x y) asB) := st_cmpRS op_notIn_seq inS_ok ha hb hm
def chainM (p q : Int → Int → Bool) (fa fb fc : SD → M D) : SD → M D := fun sd => M.bind (fa sd) fun x => M.bind (fb sd) fun y => M.bind (asI x) fun i => M.bind (asI y) fun j => if p i j = true then M.bind (fc sd) fun z => cmpI q (.int j) z else M.pure (.bl false)
theorem st_chain {op op' : CmpOp} {p q : Int → Int → Bool} (ho : OpR X (compareOp op) (rI0 fun i j => .bl (p i j))) (ho' : OpR X (compareOp op') (rI0 fun i j => .bl (q i j))) (ha : SE X E a fa) (hb : SE X E b fb) (hc : SE X E c fc)
    (hm : lastMarks [op, op'] [b, c] = false := by with_unfolding_all rfl) :
    ST X E (.Compare a [op, op'] [b, c] pos) (fun sd => M.bind (chainM p q fa fb fc sd) asB) := by
  obtain ⟨ta, pa, ka⟩ := ha
  obtain ⟨tb, pb, kb⟩ := hb
  obtain ⟨tc, pc, kc⟩ := hc
  refine ⟨_, pt_chain ho ho' pa pb pc hm, fun σ sd B ρ m H Q s rl w => ka σ sd B ρ m H _ s rl ?_⟩
  have w0 : Wt X.K B ρ H E (PBl Q) ((fa sd m).bind fun x => M.bind (M.bind (fb sd) fun y => M.bind (asI x) fun i => M.bind (asI y) fun j => if p i j = true then M.bind (fc sd) fun z => cmpI q (.int j) z else M.pure (.bl false)) asB) := by
    have e : (M.bind (chainM p q fa fb fc sd) asB) m = (fa sd m).bind fun x => M.bind (M.bind (fb sd) fun y => M.bind (asI x) fun i => M.bind (asI y) fun j => if p i j = true then M.bind (fc sd) fun z => cmpI q (.int j) z else M.pure (.bl false)) asB := by
      show ((fa sd m).bind _).bind asB = _
      cases fa sd m <;> rfl
    exact e ▸ w
  refine Wt.bind' (r := fa sd m) w0 fun dx B1 ρ1 m1 H1 t1 s1 w1 x rx => kb σ sd B1 ρ1 m1 H1 _ s1 (rl.ste t1) ?_
  have w1' : Wt X.K B1 ρ1 H1 E (PBl Q) ((fb sd m1).bind fun y => M.bind (M.bind (asI dx) fun i => M.bind (asI y) fun j => if p i j = true then M.bind (fc sd) fun z => cmpI q (.int j) z else M.pure (.bl false)) asB) := by
    have e : (M.bind (M.bind (fb sd) fun y => M.bind (asI dx) fun i => M.bind (asI y) fun j => if p i j = true then M.bind (fc sd) fun z => cmpI q (.int j) z else M.pure (.bl false)) asB) m1 = (fb sd m1).bind fun y => M.bind (M.bind (asI dx) fun i => M.bind (asI y) fun j => if p i j = true then M.bind (fc sd) fun z => cmpI q (.int j) z else M.pure (.bl false)) asB := by
      show ((fb sd m1).bind _).bind asB = _
      cases fb sd m1 <;> rfl
    exact e ▸ w1
  refine Wt.bind' (r := fb sd m1) w1' fun dy B2 ρ2 m2 H2 t2 s2 w2 y ry => ?_
  cases dx with
  | int i =>
    cases dy with
    | int j =>
      refine ⟨i, j, rx, ry, p i j, rfl, ?_⟩
      have w3 : Wt X.K B2 ρ2 H2 E (PBl Q) ((M.bind (if p i j = true then M.bind (fc sd) fun z => cmpI q (.int j) z else M.pure (.bl false) : M D) asB) m2) := w2
      by_cases hp : p i j = true
      · rw [if_pos hp] at w3 ⊢
        have w4 : Wt X.K B2 ρ2 H2 E (PBl Q) ((fc sd m2).bind fun z => M.bind (cmpI q (.int j) z) asB) := by
          have e : (M.bind (M.bind (fc sd) fun z => cmpI q (.int j) z) asB) m2 = (fc sd m2).bind fun z => M.bind (cmpI q (.int j) z) asB := by
            show ((fc sd m2).bind _).bind asB = _
            cases fc sd m2 <;> rfl
          exact e ▸ w3
        refine kc σ sd B2 ρ2 m2 H2 _ s2 ((rl.ste t1).ste t2) ?_
        refine Wt.bind' (r := fc sd m2) w4 fun dz B3 ρ3 m3 H3 t3 s3 w5 z rz => cmpI_ok (E := E) y z (.int j) dz B3 ρ3 m3 H3 _ s3 ry rz ?_
        refine Wt.bind' (r := cmpI q (.int j) dz m3) w5 fun d B4 ρ4 m4 H4 t4 s4 w6 v r => ?_
        cases d with
        | bl z => exact ⟨z, r, Wt.ok (E := E) (m := m4) w6 s4⟩
        | _ => exact w6.elim
      · rw [if_neg hp] at w3 ⊢
        exact ⟨false, by simp [hp], Wt.ok (E := E) (m := m2) w3 s2⟩
    | _ => exact w2.elim
  | _ => exact w2.elim
end
/-! ### the functions in short -/
abbrev kD (d : D) : SD → M D := fun _ => M.pure d
abbrev u1 {α β : Type} (f : α → M β) (fa : SD → M α) : SD → M β := fun sd => M.bind (fa sd) f
abbrev u2 {α β γ : Type} (f : α → β → M γ) (fa : SD → M α) (fb : SD → M β) : SD → M γ := fun sd => M.bind (fa sd) fun x => M.bind (fb sd) fun y => f x y
abbrev tst (f : SD → M D) : SD → M Bool := fun sd => M.bind (f sd) asB
abbrev c2 (f : D → D → M D) (fa fb : SD → M D) : SD → M Bool := fun sd => M.bind (fa sd) fun x => M.bind (fb sd) fun y => M.bind (f x y) asB
abbrev c2S (f : D → S → M D) (fa : SD → M D) (fb : SD → M S) : SD → M Bool := fun sd => M.bind (fa sd) fun x => M.bind (fb sd) fun y => M.bind (f x y) asB
abbrev notB (ga : SD → M Bool) : SD → M Bool := fun sd => M.bind (ga sd) fun b => M.pure (!b)
abbrev andB (ga gb : SD → M Bool) : SD → M Bool := fun sd => M.bind (ga sd) fun c => if c = true then gb sd else M.pure false
abbrev orB (ga gb : SD → M Bool) : SD → M Bool := fun sd => M.bind (ga sd) fun c => if c = true then M.pure true else gb sd
abbrev andV (fa fb : SD → M D) : SD → M D := fun sd => M.bind (fa sd) fun x => M.bind (asB x) fun c => if c = true then fb sd else M.pure (.bl false)
abbrev orV (fa fb : SD → M D) : SD → M D := fun sd => M.bind (fa sd) fun x => M.bind (asB x) fun c => if c = true then M.pure (.bl true) else fb sd
abbrev notV (fa : SD → M D) : SD → M D := fun sd => M.bind (fa sd) fun x => M.bind (asB x) fun c => M.pure (.bl (!c))
abbrev negV (fa : SD → M D) : SD → M D := fun sd => M.bind (fa sd) fun x => M.bind (asI x) fun i => M.pure (.int (-i))
abbrev ifV {α : Type} (ga : SD → M Bool) (fa fb : SD → M α) : SD → M α := fun sd => M.bind (ga sd) fun z => if z = true then fa sd else fb sd
abbrev nilV {α : Type} : SD → M (List α) := fun _ => M.pure []
abbrev consV {α : Type} (fa : SD → M α) (fs : SD → M (List α)) : SD → M (List α) := fun sd => M.bind (fa sd) fun x => M.bind (fs sd) fun xs => M.pure (x :: xs)
abbrev tupV (fs : SD → M (List D)) : SD → M D := fun sd => M.bind (fs sd) fun ds => fitL ds (M.pure (.tup ds))
abbrev lstV (fs : SD → M (List D)) : SD → M (List D) := fun sd => M.bind (fs sd) fun ds => fitL ds (M.pure ds)
abbrev ofL (fs : SD → M (List D)) : SD → M D := fun sd => M.bind (fs sd) fun ds => M.pure (.lst ds)
abbrev ofD (fs : SD → M D) : SD → M S := fun sd => M.bind (fs sd) fun d => M.pure (.d d)
abbrev newV (fs : SD → M (List D)) : SD → M S := fun sd => M.bind (fs sd) fun ds => pushL ds
abbrev lm1 (f : S → D → M D) (ga : SD → M S) (fb : SD → M D) : SD → M D := fun sd => M.bind (ga sd) fun s => M.bind (isL s) fun _ => M.bind (fb sd) fun d => f s d
abbrev lm0 (f : S → M D) (ga : SD → M S) : SD → M D := fun sd => M.bind (ga sd) fun s => M.bind (isL s) fun _ => f s
abbrev idxV (ga : SD → M S) (fb : SD → M D) : SD → M D := fun sd => M.bind (ga sd) fun s => M.bind (isList s) fun _ => M.bind (fb sd) fun d => indexS s d
abbrev noI : SD → M (Option Int) := fun _ => M.pure none
abbrev someI (fa : SD → M D) : SD → M (Option Int) := fun sd => M.bind (fa sd) fun d => M.bind (asI d) fun i => M.pure (some i)
abbrev cutM (ga : SD → M S) (go gh : SD → M (Option Int)) : SD → M (List D) := fun sd => M.bind (ga sd) fun s => M.bind (go sd) fun l => M.bind (gh sd) fun h => onList (fun ds => M.pure (cutD ds l h)) s
abbrev callM (n : Nat) (F : List S → M D) (gs : SD → M (List S)) : SD → M D := fun sd => M.bind (gs sd) fun ss => argN n F ss
abbrev lcM (vs : List Nat) (fi : SD → M (List D)) (gt : D → SD → M SD) (gc : SD → M Bool) (ge : SD → M D) : SD → M (List D) := fun sd => M.bind (fi sd) fun ds => nox (compM vs gt gc ge sd [] ds)
abbrev seqI (fa : SD → M D) : SD → M (List D) := fun sd => M.bind (fa sd) itemsD
abbrev enumI (fa : SD → M D) : SD → M (List D) := fun sd => M.bind (fa sd) fun x => M.bind (asL x) fun ds => M.pure (enumL ds)
abbrev zipI (fa fb : SD → M D) : SD → M (List D) := fun sd => M.bind (fa sd) fun x => M.bind (fb sd) fun y => M.bind (asL x) fun ds => M.bind (asL y) fun es => M.pure (zipL ds es)
abbrev yes : SD → M Bool := fun _ => M.pure true
abbrev tgN (i : Nat) : D → SD → M SD := fun d sd => M.pure (sd.set i (some (.d d)))
abbrev tg0 : List D → SD → M SD := fun _ sd => M.pure sd
abbrev tgC (g1 : D → SD → M SD) (g2 : List D → SD → M SD) : List D → SD → M SD := fun ds sd => M.bind (g1 (ds.headD .non) sd) fun sd1 => g2 ds.tail sd1
def tgT (n : Nat) (g : List D → SD → M SD) : D → SD → M SD := fun d sd => match d with | .tup ds => if ds.length = n then g ds sd else bad | _ => bad
abbrev tgS (ga : SD → M S) (fb : SD → M D) : D → SD → M SD := fun d sd => M.bind (ga sd) fun s => M.bind (fb sd) fun i => M.bind (setS s i d) fun _ => M.pure sd
abbrev nxV : SD → M Fl := fun sd => M.pure (.nx sd)
abbrev retV (fe : SD → M D) : SD → M Fl := fun sd => M.bind (fe sd) fun d => M.pure (.rt d)
abbrev retN : SD → M Fl := fun _ => M.pure (.rt .non)
abbrev dropV (fe : SD → M D) : SD → M Fl := fun sd => M.bind (fe sd) fun _ => M.pure (.nx sd)
abbrev setV (i : Nat) (fe : SD → M D) : SD → M Fl := fun sd => M.bind (fe sd) fun d => M.pure (.nx (sd.set i (some (.d d))))
abbrev setX (i : Nat) (gx : SD → M S) : SD → M Fl := fun sd => M.bind (gx sd) fun d => M.pure (.nx (sd.set i (some d)))
abbrev parV (i j : Nat) (ga gb : SD → M S) : SD → M Fl := fun sd => M.bind (ga sd) fun s1 => M.bind (gb sd) fun s2 => M.pure (.nx ((sd.set i (some s1)).set j (some s2)))
abbrev asgV (fa : SD → M D) (gt : D → SD → M SD) : SD → M Fl := fun sd => M.bind (fa sd) fun d => M.bind (gt d sd) fun sd2 => M.pure (.nx sd2)
abbrev augV (i : Nat) (f : Int → Int → Int) (fa : SD → M D) : SD → M Fl := fun sd => M.bind (getI i sd) fun x => M.bind (fa sd) fun y => M.bind (augI f x y) fun z => M.pure (.nx (sd.set i (some (.d z))))
abbrev forV (fi : SD → M (List D)) (gt : D → SD → M SD) (gb : SD → M Fl) : SD → M Fl := fun sd => M.bind (fi sd) fun ds => forM gt gb ds sd
abbrev setLV (i : Nat) (fs : SD → M (List D)) : SD → M Fl := fun sd => M.bind (fs sd) fun ds => M.pure (.nx (sd.set i (some (.d (.lst ds)))))
abbrev setLX (i : Nat) (fs : SD → M (List D)) : SD → M Fl := fun sd => M.bind (fs sd) fun ds => M.bind (pushL ds) fun s => M.pure (.nx (sd.set i (some s)))
abbrev raiseV (c : Str) : SD → M Fl := fun _ => raise c []
theorem sg_tupT {X : Cx} {E : XK} {pos : Pos} {js : List Nat} {es : List Expr} {k n : Nat} {g : List D → SD → M SD} (hc : X.calm = true) (h : SGs X E js es n g) (hn : (assignEach es X.env).length = n := by rfl) (hst : (assignEach es X.env).findIdx? (·.1) = none := by rfl) :
    SG X E js (.Tuple es k pos) (tgT n g) := sg_tup hc h hn hst
end Mi

set_option Elab.async false
set_option linter.all false
set_option maxRecDepth 100000
set_option maxHeartbeats 4000000
/-! The layer Mi. Part 10: the draws. -/
namespace Mi
open PySem PySem.Spec PyProof.Rows L2
section
variable {K : PySem.W.Frag} {B : Hp} {ρ : Rho} {m : Mem} {H : Hp}
theorem drw_at {v : V} {n : Nat} {la : List Int} {re : Int} {ce : List Int} {tu : Int} (hs : Sim K B ρ m H) (r : RepS K B ρ (.h n) v) (q : m[n]? = some (.drw la re ce tu)) :
    ∃ p l c, ρ[n]? = some p ∧ v = .ref p.1 ∧ B p.1 = none ∧ p.2 = [l] ∧ B l = none ∧ p.1 ≠ l ∧ H p.1 = some (.dK (kDraw l c re tu)) ∧ H l = some (.lst (la.map V.int)) ∧ B c = some (.lst (ce.map V.int)) := by
  obtain ⟨p, h1, rfl⟩ := r
  obtain ⟨o, h2, h3⟩ := hs.at_ h1
  rw [q] at h2
  cases h2
  obtain ⟨b1, l, c, b2, b3, b4, b5, b6, b7⟩ := h3
  exact ⟨p, l, c, h1, rfl, b1, b2, b3, b4, b5, b6, b7⟩
theorem val_large {l c : Addr} {re tu : Int} : valV (kDraw l c re tu) (.inr "large") = some (.ref l) := rfl
theorem val_rest {l c : Addr} {re tu : Int} : valV (kDraw l c re tu) (.inr "rest") = some (.int re) := rfl
theorem val_cells {l c : Addr} {re tu : Int} : valV (kDraw l c re tu) (.inr "cells") = some (.ref c) := rfl
theorem val_turn {l c : Addr} {re tu : Int} : valV (kDraw l c re tu) (.inr "turn") = some (.int tu) := rfl
theorem put_rest {l c : Addr} {re tu i : Int} : putK (kDraw l c re tu) (.inr "rest") (.int i) = kDraw l c i tu := rfl
theorem put_turn {l c : Addr} {re tu i : Int} : putK (kDraw l c re tu) (.inr "turn") (.int i) = kDraw l c re i := rfl
end
theorem lt64 {n : Nat} (h : n + 64 < cLine) : n + 1 < cLine := by omega
theorem toPL_ints : ∀ la : List Int, PyData.canLayAll0 (toPL (la.map .int)) = true ∧ PyData.depthAll (toPL (la.map .int)) ≤ 1
  | [] => ⟨rfl, by simp [toPL, PyData.depthAll]⟩
  | x :: la => by
    obtain ⟨h1, h2⟩ := toPL_ints la
    refine ⟨?_, ?_⟩
    · show (PyData.canLay0 (.int x) && PyData.canLayAll0 (toPL (la.map .int))) = true
      rw [h1]
      rfl
    · show PyData.depthAll (.int x :: toPL (la.map .int)) ≤ 1
      simp only [PyData.depthAll, PyData.depth]
      omega
theorem plain_ints (la : List Int) : plain (.lst (la.map .int)) = true := by
  obtain ⟨h1, h2⟩ := toPL_ints la
  unfold plain SeqAt.shaped
  refine Bool.and_eq_true_iff.mpr ⟨h1, decide_eq_true ?_⟩
  show PyData.depth (.list (toPL (la.map .int))) ≤ 64
  simp only [PyData.depth]
  omega
/-- what the draws hold at a key -/
def drwK (k : Str) : S → M D
  | .h n => fun m => match m[n]? with
    | some (.drw _ re ce tu) => if k = "rest" then .ok (.int re) m else if k = "turn" then .ok (.int tu) m else if k = "cells" then .ok (.lst (ce.map .int)) m else .bad
    | _ => .bad
  | _ => bad
def drwPut (k : Str) : S → D → M Unit
  | .h n, .int i => fun m => match m[n]? with
    | some (.drw la re ce tu) => if k = "rest" then .ok () (m.set n (.drw la i ce tu)) else if k = "turn" then .ok () (m.set n (.drw la re ce i)) else .bad
    | _ => .bad
  | _, _ => bad
def drwPop : S → M D
  | .h n => fun m => match m[n]? with
    | some (.drw (x :: la) re ce tu) => .ok (.int x) (m.set n (.drw la re ce tu))
    | _ => .bad
  | _ => bad
def drwLa : S → M Bool
  | .h n => fun m => match m[n]? with
    | some (.drw la re ce tu) => .ok (!la.isEmpty) m
    | _ => .bad
  | _ => bad
abbrev dputV (k : Str) (fe : SD → M D) (ga : SD → M S) : SD → M Fl := fun sd => M.bind (fe sd) fun d => M.bind (ga sd) fun s => M.bind (drwPut k s d) fun _ => M.pure (.nx sd)
section
variable {X : Cx} {E : XK} {K : PySem.W.Frag} {B : Hp} {ρ : Rho} {m : Mem} {H : Hp} {a b c e : Expr} {es : List Expr} {pos p p2 p3 p4 : Pos} {x k : Str} {ga gb : SD → M S} {fa fb fe : SD → M D}
theorem se_drwK {j} (hu : X.A.units + 1 < cLine) (ha : SX X E a ga) : SE X E (.Subscript a (.Constant (.str k) j p2) pos) (fun sd => M.bind (ga sd) (drwK k)) := by
  obtain ⟨t, pa, ka⟩ := ha
  refine ⟨_, pe_dget hu pa pe_str (fun _ _ => rfl), fun σ sd B ρ m H Q s rl w => ka σ sd B ρ m H _ s rl ?_⟩
  refine Wt.bind' (r := ga sd m) w fun d B1 ρ1 m1 H1 t1 s1 w1 v r => ?_
  cases d with
  | d x => exact w1.elim
  | h n =>
    have w2 : Wt X.K B1 ρ1 H1 E (PD X.K Q) (match m1[n]? with
      | some (.drw _ re ce tu) => if k = "rest" then .ok (.int re) m1 else if k = "turn" then .ok (.int tu) m1 else if k = "cells" then .ok (.lst (ce.map .int)) m1 else .bad
      | _ => .bad) := w1
    cases q : m1[n]? with
    | none => rw [q] at w2; exact w2.elim
    | some o =>
      rw [q] at w2
      cases o with
      | drw la re ce tu =>
        obtain ⟨p, l, c, h1, rfl, b1, b2, b3, b4, b5, b6, b7⟩ := drw_at s1 r q
        have w3 : Wt X.K B1 ρ1 H1 E (PD X.K Q) (if k = "rest" then .ok (.int re) m1 else if k = "turn" then .ok (.int tu) m1 else if k = "cells" then .ok (.lst (ce.map .int)) m1 else .bad) := w2
        have g := fun (k : Key) => DGet.k (k := k) b5
        split at w3
        · rename_i e
          subst e
          exact ⟨p.1, .int re, rfl, val_rest (l := l) (c := c) (tu := tu) ▸ g (.inr "rest"), Wt.ok (E := E) (m := m1) w3 s1 _ rfl⟩
        · split at w3
          · rename_i e
            subst e
            exact ⟨p.1, .int tu, rfl, val_turn (l := l) (c := c) (re := re) ▸ g (.inr "turn"), Wt.ok (E := E) (m := m1) w3 s1 _ rfl⟩
          · split at w3
            · rename_i e
              subst e
              exact ⟨p.1, .ref c, rfl, val_cells (l := l) (tu := tu) (re := re) ▸ g (.inr "cells"), Wt.ok (E := E) (m := m1) w3 s1 _ ⟨c, _, rfl, b7, RepL.ints ce⟩⟩
            · exact w3.elim
      | _ => exact w2.elim
theorem ss_drwPut {j} (hu : X.A.units + 1 < cLine) (ha : SX X E a ga) (he : SE X E e fe) (hs : swapsWith e (some (.Subscript a (.Constant (.str k) j p2) p3)) pos.line X.env = pure false := by rfl) :
    SS X E (.Assign [.Subscript a (.Constant (.str k) j p2) p3] e pos) (fun sd => M.bind (fe sd) fun d => M.bind (ga sd) fun s => M.bind (drwPut k s d) fun _ => M.pure (.nx sd)) := by
  obtain ⟨t, pa, ka⟩ := ha
  obtain ⟨t2, pe, ke⟩ := he
  refine ⟨_, ps_dput hu pa pe_str pe hs, fun De σ sd B ρ m H s rl w => ke σ sd B ρ m H _ s rl ?_⟩
  refine Wt.bind' (r := fe sd m) w fun d B1 ρ1 m1 H1 t1 s1 w1 v rv => ka σ sd B1 ρ1 m1 H1 _ s1 (rl.ste t1) ?_
  refine Wt.bind' (r := ga sd m1) w1 fun o B2 ρ2 m2 H2 t2 s2 w2 u r => ?_
  cases o with
  | d x => exact w2.elim
  | h n =>
    cases d with
    | int i =>
      have w3 : Wt X.K B2 ρ2 H2 E (PFf X.K De) (Out.bind (match m2[n]? with
        | some (.drw la re ce tu) => if k = "rest" then .ok () (m2.set n (.drw la i ce tu)) else if k = "turn" then .ok () (m2.set n (.drw la re ce i)) else .bad
        | _ => .bad) fun _ => M.pure (.nx sd)) := w2
      cases q : m2[n]? with
      | none => rw [q] at w3; exact w3.elim
      | some o =>
        rw [q] at w3
        cases o with
        | drw la re ce tu =>
          obtain ⟨p, l, c, h1, rfl, b1, b2, b3, b4, b5, b6, b7⟩ := drw_at s2 r q
          have w4 : Wt X.K B2 ρ2 H2 E (PFf X.K De) (Out.bind (if k = "rest" then .ok () (m2.set n (.drw la i ce tu)) else if k = "turn" then .ok () (m2.set n (.drw la re ce i)) else .bad) fun _ => M.pure (.nx sd)) := w3
          have hv : v = .int i := rv
          subst hv
          have fin : ∀ re' tu', Wt X.K B2 ρ2 H2 E (PFf X.K De) (.ok (.nx sd) (m2.set n (.drw la re' ce tu'))) → De.nx σ (upd H2 p.1 (.dK (kDraw l c re' tu'))) := fun re' tu' w => by
            have hne : ∀ a u, ¬ (a = p.1 ∨ a ∈ p.2) → H2 a = some u → upd H2 p.1 (.dK (kDraw l c re' tu')) a = some u := fun a u z e => by
              rw [upd_ne (fun q => z (.inl q))]
              exact e
            refine Wt.ok' w (Ste.write h1 hne) (s2.write h1 (fun a z => ?_) hne ⟨b1, l, c, b2, b3, b4, upd_same, ?_, b7⟩) σ (((rl.ste t1).ste t2).ste (Ste.write h1 hne))
            · rcases z with z | z
              · rw [z]; exact b1
              · rw [b2] at z
                rw [List.mem_singleton.mp z]; exact b3
            · rw [upd_ne (Ne.symm b4)]; exact b6
          split at w4
          · rename_i e
            subst e
            exact ⟨p.1, _, rfl, put_rest (l := l) (c := c) (tu := tu) (re := re) (i := i) ▸ DPut.k (k := .inr "rest") b5 (by rw [sl16]; show 4 < 16777216; decide), fin _ _ w4⟩
          · split at w4
            · rename_i e
              subst e
              exact ⟨p.1, _, rfl, put_turn (l := l) (c := c) (tu := tu) (re := re) (i := i) ▸ DPut.k (k := .inr "turn") b5 (by rw [sl16]; show 4 < 16777216; decide), fin _ _ w4⟩
            · exact w4.elim
        | _ => exact w3.elim
    | _ => exact w2.elim
theorem se_drwPop {j p5} {jj p6} (hu : X.A.units + 1 < cLine) (ha : SX X E a ga) (hbase : attributeBase (.Subscript a (.Constant (.str "large") j p2) p3) "pop" X.env (eval (.Subscript a (.Constant (.str "large") j p2) p3) X.env) = eval (.Subscript a (.Constant (.str "large") j p2) p3) X.env := by rfl)
    (hfew : ((backTo pos (starEach [.Constant (.int 0) jj p6] X.env)).all (fun x => !x.1) && (backToKw pos (keywordEach [] X.env)).all (fun x => x.1.isSome) && decide (([.Constant (.int 0) jj p6] : List Expr).length + ([] : List Keyword).length + (if ([] : List Keyword).isEmpty then 0 else 1) < 30)) = true := by rfl)
    (hline : (p5.endLine == pos.line) = true := by rfl) (he : starEach [.Constant (.int 0) jj p6] X.env = (false, eval (.Constant (.int 0) jj p6) X.env) :: starEach [] X.env := by rfl) (hpl : (backTo pos (starEach [] X.env)).any (·.1) = false := by rfl) :
    SE X E (.Call (.Attribute (.Subscript a (.Constant (.str "large") j p2) p3) "pop" p5) [.Constant (.int 0) jj p6] [] pos) (fun sd => M.bind (ga sd) drwPop) := by
  obtain ⟨t, pa, ka⟩ := ha
  refine ⟨_, pe_bm PySem.F.plainAttrs_list PySem.F.slot_list_pop PySem.F.type_list_pop mt_popAt (pe_dget hu pa pe_str (fun _ _ => rfl)) (pa_cons pe_int pa_nil he) hbase hfew hline he hpl, fun σ sd B ρ m H Q s rl w => ka σ sd B ρ m H _ s rl ?_⟩
  refine Wt.bind' (r := ga sd m) w fun d B1 ρ1 m1 H1 t1 s1 w1 v r => ?_
  cases d with
  | d x => exact w1.elim
  | h n =>
    have w2 : Wt X.K B1 ρ1 H1 E (PD X.K Q) (match m1[n]? with
      | some (.drw (x :: la) re ce tu) => .ok (.int x) (m1.set n (.drw la re ce tu))
      | _ => .bad) := w1
    cases q : m1[n]? with
    | none => rw [q] at w2; exact w2.elim
    | some o =>
      rw [q] at w2
      cases o with
      | drw la re ce tu =>
        cases la with
        | nil => exact w2.elim
        | cons x la =>
          obtain ⟨p, l, c, h1, rfl, b1, b2, b3, b4, b5, b6, b7⟩ := drw_at s1 r q
          have hne : ∀ a u, ¬ (a = p.1 ∨ a ∈ p.2) → H1 a = some u → upd H1 l (.lst (la.map V.int)) a = some u := fun a u z e => by
            rw [upd_ne (fun q => z (.inr (by rw [b2]; simp [q])))]
            exact e
          refine ⟨p.1, .ref l, rfl, val_large (c := c) (re := re) (tu := tu) ▸ DGet.k (k := .inr "large") b5, .inl ⟨rfl, _, SqL.of b6⟩, ?_⟩
          refine ⟨l, _, 0, 0, .int x, rfl, rfl, b6, by decide, by decide, seqIndex_of (by decide) (by simp), by simp, ?_⟩
          refine Wt.ok' w2 (Ste.write h1 hne) (s1.write h1 (fun a z => ?_) hne ⟨b1, l, c, b2, b3, b4, ?_, upd_same, b7⟩) _ rfl
          · rcases z with z | z
            · rw [z]; exact b1
            · rw [b2] at z
              rw [List.mem_singleton.mp z]; exact b3
          · rw [upd_ne b4]; exact b5
      | _ => exact w2.elim
theorem st_drwLa {j} (hu : X.A.units + 64 < cLine) (ha : SX X E a ga) : ST X E (.Compare (.Subscript a (.Constant (.str "large") j p2) p3) [.NotEq] [.List [] p4] pos) (fun sd => M.bind (ga sd) drwLa) := by
  obtain ⟨t, pa, ka⟩ := ha
  obtain ⟨tb, pb, kb⟩ := se_of (X := X) (E := E) (sf_lst (pos := p4) sl_nil)
  refine ⟨_, pt_cmpR (op_neD hu) (pe_dget (by omega) pa pe_str (fun _ _ => rfl)) pb (nomark _), fun σ sd B ρ m H Q s rl w => ka σ sd B ρ m H _ s rl ?_⟩
  refine Wt.bind' (r := ga sd m) w fun d B1 ρ1 m1 H1 t1 s1 w1 v r => ?_
  cases d with
  | d x => exact w1.elim
  | h n =>
    have w2 : Wt X.K B1 ρ1 H1 E (PBl Q) (match m1[n]? with
      | some (.drw la re ce tu) => .ok (!la.isEmpty) m1
      | _ => .bad) := w1
    cases q : m1[n]? with
    | none => rw [q] at w2; exact w2.elim
    | some o =>
      rw [q] at w2
      cases o with
      | drw la re ce tu =>
        obtain ⟨p, l, c, h1, rfl, b1, b2, b3, b4, b5, b6, b7⟩ := drw_at s1 r q
        refine ⟨p.1, .ref l, rfl, val_large (c := c) (re := re) (tu := tu) ▸ DGet.k (k := .inr "large") b5, ?_⟩
        refine kb σ sd B1 ρ1 m1 H1 _ s1 (rl.ste t1) ?_
        show Wt X.K B1 ρ1 H1 E _ (Out.ok (D.lst []) m1)
        refine fun B2 ρ2 H2 t2 s2 y ry => ?_
        obtain ⟨p', l', c', c0, e', c1, c2, c3, c4, c5, c6, c7⟩ := drw_at s2 (r.ste t2) q
        obtain ⟨more, em⟩ := t2.rr
        have ep : ρ2[n]? = some p := by
          rw [em, List.getElem?_append_left (List.getElem?_eq_some_iff.mp h1).1]
          exact h1
        rw [c0] at ep
        cases ep
        rw [b2] at c2
        cases c2
        have rl2 : Rep X.K H2 (.lst (la.map .int)) (.ref l) := ⟨l, _, rfl, c6, RepL.ints la⟩
        have hpl : plain (.lst (la.map .int)) = true := plain_ints la
        have heq : PyData.eqv (toP (.lst (la.map .int))) (toP (.lst [])) = la.isEmpty := by cases la <;> rfl
        refine ⟨_, _, rl2.dp (Sub.refl _) (SeqAt.canLay_of_shaped hpl), ry.dp s2.ex (by rfl), hpl, by rfl, ?_⟩
        refine ⟨_, rfl, ?_⟩
        rw [heq]
        exact Wt.ok' (E := E) (m := m1) w2 t2 s2
      | _ => exact w2.elim
end
end Mi

set_option Elab.async false
set_option linter.all false
set_option maxRecDepth 100000
set_option maxHeartbeats 4000000
/-! The layer Mi. Part 11: the making of the draws; defs that give a changing object back. -/
namespace Mi
open PySem PySem.Spec PyProof.Rows L2
/-- a def that gives data or a changing object back -/
def spX (K : PySem.W.Frag) (n : Nat) (F : List S → M S) : Sp := fun vs H Q E => ∃ B ρ m ss, Sim K B ρ m H ∧ RepSL K B ρ ss vs ∧ ss.length = n ∧ Wt K B ρ H E (PSl K Q) (F ss m)
structure FxX (P : Program) (w : World) (K : PySem.W.Frag) (mg : Str → Option Value) (base : Heap) (k : Nat) (x : Str) (ps : List Str) (F : List S → M S) : Prop where
  ok : ∃ fd, FnOk P w K mg base (L2.CX P w) k (He.ga K x) fd ps (spX K ps.length F) ∧ Binds K fd ps []
  mgx : mg x = some (.ref (He.ga K x))
  kp : PySem.W.keepIn K (.ref (He.ga K x)) = true
def argNX (n : Nat) (F : List S → M S) (ss : List S) : M S := if ss.length = n then F ss else bad
section
variable {X : Cx} {E : XK} {e : Expr} {es : List Expr} {pos p : Pos} {x : Str} {k : Nat} {ps : List Str} {F : List S → M S}
theorem sx_call {gs : SD → M (List S)} (hF : FxX X.prog X.w X.K X.mg X.base k x ps F) (hr : Room k X.A) (hp : Passes (L2.CX X.prog X.w) X E) (ha : SA X E (e :: es) gs) (hg : Gl X x := by rfl) (hdb : (x == ("__debug__" : Str)) = false := by decide)
    (he : starEach (e :: es) X.env = (false, eval e X.env) :: starEach es X.env := by rfl) (hpl : (backTo pos (starEach es X.env)).any (·.1) = false := by rfl) :
    SX X E (.Call (.Name x p) (e :: es) [] pos) (fun sd => M.bind (gs sd) fun ss => argNX ps.length F ss) := by
  obtain ⟨t, pa, ka⟩ := ha
  obtain ⟨fd, ok, bi⟩ := hF.ok
  refine ⟨_, pe_call ok hr hg hF.mgx hF.kp bi .nil hp pa hdb he hpl, fun σ sd B ρ m H Q s rl w => ka σ sd B ρ m H _ s rl ?_⟩
  refine Wt.bind' (r := gs sd m) w fun ss B1 ρ1 m1 H1 t1 s1 w1 vs r => ?_
  have w2 : Wt X.K B1 ρ1 H1 E (PSl X.K Q) ((if ss.length = ps.length then F ss else bad : M S) m1) := w1
  split at w2
  · rename_i hl
    exact ⟨B1, ρ1, m1, ss, s1, by rw [List.append_nil]; exact r, hl, w2⟩
  · exact w2.elim
end
abbrev absI (i : Int) : Int := if i < 0 then -i else i
def largeL (ns : List Int) : List Int := (ns.filter fun i => decide (1000000000000000000 ≤ absI i)).map fun i => absI i - 1000000000000000000
def F_begun : List S → M S
  | [.d (.scr ns)] => fun m => if ns.length ≤ 1000 then .ok (.h m.length) (m ++ [.drw (largeL ns) 0 (ns.map absI) 0]) else .bad
  | _ => bad
section
variable {P : Program} {w : World} {K : PySem.W.Frag} {mg : Str → Option Value} {base : Heap}
theorem fn_begun {x qual : Str} {params : Arguments} {st1 : Stmt} {lg cells : Expr} {j1 j2 j3 j4 j5 j6 p1 p2 p3 p4 p5 p6 dp rp} {scope : Scope} {f : Addr} {fd : FuncData} {k : Nat} {g1 : SD → M Fl} {gc : SD → M (List D)}
    (F : FunD K x qual params [st1, .Return (some (.Dict [some (.Constant (.str "large") j1 p1), some (.Constant (.str "rest") j2 p2), some (.Constant (.str "cells") j3 p3), some (.Constant (.str "turn") j4 p4)] [lg, .Constant (.int 0) j5 p5, cells, .Constant (.int 0) j6 p6] dp)) rp] scope [] [] f fd)
    (SC : FnScope ["_law_script", "_law_large", "_law_grain"] ["_law_script"] scope)
    (h1 : ∀ (cdv : Value) (A : Around) (outer : List Env) (s : Shared) (H : Hp) (E : XK), Room k (A.deeper (envOfC qual scope s.heap.objs.size f cdv)) → SS (cxOf (L2.CX P w) P w K mg base ["_law_script", "_law_large", "_law_grain"] qual scope f cdv A outer s H E) E st1 g1)
    (hv : ∀ (cdv : Value) (A : Around) (outer : List Env) (s : Shared) (H : Hp) (E : XK), SX (cxOf (L2.CX P w) P w K mg base ["_law_script", "_law_large", "_law_grain"] qual scope f cdv A outer s H E) E lg (getS 1))
    (h2 : ∀ (cdv : Value) (A : Around) (outer : List Env) (s : Shared) (H : Hp) (E : XK), Room k (A.deeper (envOfC qual scope s.heap.objs.size f cdv)) → SF (cxOf (L2.CX P w) P w K mg base ["_law_script", "_law_large", "_law_grain"] qual scope f cdv A outer s H E) E cells gc)
    (e1 : ∀ ns m, ns.length ≤ 1000 → g1 [some (.d (.scr ns)), none, none] m = .ok (.nx [some (.d (.scr ns)), some (.h m.length), none]) (m ++ [.lst ((largeL ns).map .int)]))
    (e2 : ∀ ns z m, ns.length ≤ 1000 → gc [some (.d (.scr ns)), z, none] m = .ok ((ns.map absI).map .int) m) :
    FnOk P w K mg base (L2.CX P w) (k + 1) f fd ["_law_script"] (spX K 1 F_begun) := by
  refine F.ok SC (fun vs H Q E h => ?_) (fun cdv A outer s H vs Q E hr h => ?_)
  · obtain ⟨B, ρ, m, ss, h1, h2, h3, h4⟩ := h
    rw [h2.length, h3]
    rfl
  · obtain ⟨B, ρ, m, ss, hs, hrep, hl, hw⟩ := h
    obtain ⟨t1, q1, k1⟩ := h1 cdv A outer s H E hr
    obtain ⟨tv, qv, kv⟩ := hv cdv A outer s H E
    obtain ⟨tc, qc, kc⟩ := h2 cdv A outer s H E hr
    refine ⟨_, pss_cons q1 (pss_one (ps_ret (pe_disp (pps_cons pe_str qv (pps_cons pe_str pe_int (pps_cons pe_str qc (pps_cons pe_str pe_int pps_nil)))) rfl rfl (by simp) (by simp)))), ?_⟩
    match ss, hl, hrep, hw with
    | [.h n], _, _, hw => exact hw.elim
    | [.d (.scr ns)], _, hrep, hw =>
      have hw1 : Wt K B ρ H E (PSl K Q) (if ns.length ≤ 1000 then Out.ok (S.h m.length) (m ++ [MO.drw (largeL ns) 0 (ns.map absI) 0]) else Out.bad) := hw
      have hle : ns.length ≤ 1000 := by
        refine Decidable.byContradiction fun hn => ?_
        rw [if_neg hn] at hw1
        exact hw1.elim
      rw [if_pos hle] at hw1
      have hw2 := hw1
      refine k1 _ _ [some (.d (.scr ns)), none, none] B ρ m H hs ?_ ?_
      · unfold L2.start
        rw [hrep.length]
        exact hrep.start _
      · rw [e1 ns m hle]
        intro B1 ρ1 H1 st1 sm1 σ1 rl1 p hp
        have hpB := sm1.bnone hp
        have sm1' := sm1.newH (o := .dK []) hp
        have stp : Ste B1 ρ1 H1 B1 ρ1 (upd H1 p (.dK [])) := Ste.newH hp
        refine kv σ1 _ B1 ρ1 _ _ _ sm1' (rl1.ste stp) ?_
        show Wt K B1 ρ1 (upd H1 p (.dK [])) E _ (Out.ok (S.h m.length) (m ++ [MO.lst ((largeL ns).map .int)]))
        intro B2 ρ2 H2 st2 sm2 v rv
        refine kc σ1 _ B2 ρ2 _ _ _ sm2 ((rl1.ste stp).ste st2) ?_
        rw [e2 ns _ _ hle]
        intro B3 ρ3 H3 st3 sm3 c xs h0 hb ho hc hrl
        obtain ⟨pl, z1, rfl⟩ := rv.ste st3
        obtain ⟨o, z2, z3⟩ := sm3.at_ z1
        rw [List.getElem?_append_right (Nat.le_refl _), Nat.sub_self] at z2
        cases z2
        obtain ⟨b1, b2, ys, b3, b4⟩ := z3
        have hys : ys = (largeL ns).map V.int := b4.eq_ints
        have hxs : xs = (ns.map absI).map V.int := hrl.eq_ints
        subst hys hxs
        have T : Ste B ρ H B3 ρ3 H3 := st1.trans (stp.trans (st2.trans st3))
        have hpH : H p = none := st1.fresh sm1 hp
        have hnp : ¬ own ρ1 p := sm1.nown hp
        have hp3 : H3 p = some (.dK []) := by
          refine (st2.trans st3).kp p _ upd_same hnp
        obtain ⟨more, em⟩ := T.rr
        have hlen : ρ3.length = m.length + 1 := by rw [sm3.len]; simp
        have hrl : ρ.length = m.length := hs.len
        have npl : ¬ own ρ pl.1 := by
          rintro ⟨q, hq, hqa⟩
          obtain ⟨i, hi⟩ := List.mem_iff_getElem?.mp hq
          have hi3 : ρ3[i]? = some q := by
            rw [em, List.getElem?_append_left (List.getElem?_eq_some_iff.mp hi).1]
            exact hi
          have hlt := (List.getElem?_eq_some_iff.mp hi).1
          exact sm3.nd i m.length q pl hi3 z1 (by omega) pl.1 hqa (.inl rfl)
        have hcp : c ≠ p := fun z => by
          rw [z] at h0
          have := st2.kp p _ upd_same hnp
          rw [h0] at this
          cases this
        have hcl : c ≠ pl.1 := fun z => ho (by rw [z]; exact own_at z1 (.inl rfl))
        have hpl : p ≠ pl.1 := fun z => by
          rw [z] at hp3
          rw [b3] at hp3
          cases hp3
        have hcH : H c = none := (st1.trans (stp.trans st2)).fresh sm2 h0
        have s3 : Sim K B3 ρ m H3 := by
          have z := em ▸ sm3
          have z2 := z.trunc
          rwa [hrl, List.take_left' rfl] at z2
        have npo : ¬ own ρ p := hs.nown hpH
        have nco : ¬ own ρ c := hs.nown hcH
        have hpB3 : B3 p = none := by
          cases q : B3 p with
          | none => rfl
          | some u =>
            rcases (st2.trans st3).bn p (by rw [q]; simp) with z | z | z
            · exact absurd hpB z
            · exact absurd z hnp
            · rw [upd_same] at z; cases z
        have s4 : Sim K (upd B3 c (.lst ((ns.map absI).map V.int))) ρ m H3 := s3.still hb hc nco
        have s5 : Sim K (upd B3 c (.lst ((ns.map absI).map V.int))) ρ m (upd H3 p (.dK (kDraw pl.1 c 0 0))) := s4.chH (by rw [upd_ne (Ne.symm hcp)]; exact hpB3) npo
        have s6 := s5.push (p := (p, [pl.1])) (o := .drw (largeL ns) 0 (ns.map absI) 0) (fun a z => by
          rcases z with z | z
          · rw [z]; exact npo
          · rw [List.mem_singleton.mp z]; exact npl) ⟨by rw [upd_ne (Ne.symm hcp)]; exact hpB3, pl.1, c, rfl, by rw [upd_ne (Ne.symm hcl)]; exact b1, hpl, upd_same, by rw [upd_ne (Ne.symm hpl)]; exact b3, upd_same⟩
        refine ⟨hp3, kDraw pl.1 c 0 0, rfl, (by show 4 ≤ 15; decide), ?_⟩
        have T2 : Ste B ρ H (upd B3 c (.lst ((ns.map absI).map V.int))) (ρ ++ [(p, [pl.1])]) (upd H3 p (.dK (kDraw pl.1 c 0 0))) := by
          refine ⟨T.bb.trans (Sub.upd hb), ⟨_, rfl⟩, fun a o e n => ?_, fun a z => ?_, fun a z => ?_⟩
          · rw [upd_ne (ne_of_none e hpH)]
            exact T.kp a o e n
          · rcases own_snoc.mp z with z | z | z
            · exact .inl z
            · rw [z]; exact .inr hpH
            · rw [List.mem_singleton.mp z]
              exact T.nw _ (own_at z1 (.inl rfl))
          · by_cases ea : a = c
            · rw [ea]; exact .inr (.inr hcH)
            · rw [upd_ne ea] at z
              exact T.bn a z
        refine hw2 _ _ _ T2 s6 _ ⟨(p, [pl.1]), ?_, rfl⟩
        rw [← hrl]
        simp
end
/-! ### the texts of the three defs -/
abbrev G_begun1 : SD → M Fl := setLX 1 (lcM [2] (seqI (getD 0)) (tgN 2) (c2 geD (u1 absS (getS 2)) (u2 powD (kD (.int 10)) (kD (.int 18)))) (u2 subD (u1 absS (getS 2)) (u2 powD (kD (.int 10)) (kD (.int 18)))))
abbrev G_begunC : SD → M (List D) := lcM [2] (seqI (getD 0)) (tgN 2) yes (u1 absS (getS 2))
theorem comp_c (a z : Option S) : ∀ (ns : List Int) (acc : List D) (m : Mem), acc.length + ns.length ≤ 1000 → compM [2] (tgN 2) yes (u1 absS (getS 2)) [a, z, none] acc (ns.map .int) m = .ok (acc ++ (ns.map absI).map .int) m
  | [], acc, m, _ => by
    show Out.ok acc m = _
    simp
  | n :: ns, acc, m, h => by
    rw [List.length_cons] at h
    show (if acc.length < 16777216 then compM [2] (tgN 2) yes (u1 absS (getS 2)) [a, z, none] (acc ++ [.int (absI n)]) (ns.map .int) else bad : M (List D)) m = _
    rw [if_pos (by omega), comp_c a z ns _ m (by simp; omega)]
    simp
theorem comp_l (a z : Option S) : ∀ (ns : List Int) (acc : List D) (m : Mem), acc.length + ns.length ≤ 1000 → compM [2] (tgN 2) (c2 geD (u1 absS (getS 2)) (u2 powD (kD (.int 10)) (kD (.int 18)))) (u2 subD (u1 absS (getS 2)) (u2 powD (kD (.int 10)) (kD (.int 18)))) [a, z, none] acc (ns.map .int) m = .ok (acc ++ (largeL ns).map .int) m
  | [], acc, m, _ => by
    show Out.ok acc m = _
    simp [largeL]
  | n :: ns, acc, m, h => by
    rw [List.length_cons] at h
    by_cases q : (1000000000000000000 : Int) ≤ absI n
    · have hd : decide ((10 : Int) ^ 18 ≤ absI n) = true := decide_eq_true q
      have e : compM [2] (tgN 2) (c2 geD (u1 absS (getS 2)) (u2 powD (kD (.int 10)) (kD (.int 18)))) (u2 subD (u1 absS (getS 2)) (u2 powD (kD (.int 10)) (kD (.int 18)))) [a, z, none] acc ((n :: ns).map .int) m
        = (if decide ((10 : Int) ^ 18 ≤ absI n) = true then (if acc.length < 16777216 then compM [2] (tgN 2) (c2 geD (u1 absS (getS 2)) (u2 powD (kD (.int 10)) (kD (.int 18)))) (u2 subD (u1 absS (getS 2)) (u2 powD (kD (.int 10)) (kD (.int 18)))) [a, z, none] (acc ++ [.int (absI n - 10 ^ 18)]) (ns.map .int) else bad : M (List D))
          else compM [2] (tgN 2) (c2 geD (u1 absS (getS 2)) (u2 powD (kD (.int 10)) (kD (.int 18)))) (u2 subD (u1 absS (getS 2)) (u2 powD (kD (.int 10)) (kD (.int 18)))) [a, z, none] acc (ns.map .int)) m := rfl
      rw [e, if_pos hd, if_pos (by omega), comp_l a z ns _ m (by simp; omega)]
      have el : largeL (n :: ns) = (absI n - 1000000000000000000) :: largeL ns := by simp [largeL, List.filter_cons, q]
      rw [el]
      simp
    · have hd : ¬ decide ((10 : Int) ^ 18 ≤ absI n) = true := fun z => q (of_decide_eq_true z)
      have e : compM [2] (tgN 2) (c2 geD (u1 absS (getS 2)) (u2 powD (kD (.int 10)) (kD (.int 18)))) (u2 subD (u1 absS (getS 2)) (u2 powD (kD (.int 10)) (kD (.int 18)))) [a, z, none] acc ((n :: ns).map .int) m
        = (if decide ((10 : Int) ^ 18 ≤ absI n) = true then (if acc.length < 16777216 then compM [2] (tgN 2) (c2 geD (u1 absS (getS 2)) (u2 powD (kD (.int 10)) (kD (.int 18)))) (u2 subD (u1 absS (getS 2)) (u2 powD (kD (.int 10)) (kD (.int 18)))) [a, z, none] (acc ++ [.int (absI n - 10 ^ 18)]) (ns.map .int) else bad : M (List D))
          else compM [2] (tgN 2) (c2 geD (u1 absS (getS 2)) (u2 powD (kD (.int 10)) (kD (.int 18)))) (u2 subD (u1 absS (getS 2)) (u2 powD (kD (.int 10)) (kD (.int 18)))) [a, z, none] acc (ns.map .int)) m := rfl
      rw [e, if_neg hd, comp_l a z ns _ m (by omega)]
      have el : largeL (n :: ns) = largeL ns := by simp [largeL, List.filter_cons, q]
      rw [el]
theorem begun_e1 (ns : List Int) (m : Mem) (h : ns.length ≤ 1000) : G_begun1 [some (.d (.scr ns)), none, none] m = .ok (.nx [some (.d (.scr ns)), some (.h m.length), none]) (m ++ [.lst ((largeL ns).map .int)]) := by
  have e := comp_l (some (.d (.scr ns))) none ns [] m (by simpa using h)
  have e2 : G_begun1 [some (.d (.scr ns)), none, none] m = (noxO (compM [2] (tgN 2) (c2 geD (u1 absS (getS 2)) (u2 powD (kD (.int 10)) (kD (.int 18)))) (u2 subD (u1 absS (getS 2)) (u2 powD (kD (.int 10)) (kD (.int 18)))) [some (.d (.scr ns)), none, none] [] (ns.map .int) m)).bind fun ds => M.bind (pushL ds) fun s => M.pure (.nx [some (.d (.scr ns)), some s, none]) := rfl
  rw [e2, e]
  rfl
theorem begun_e2 (ns : List Int) (z : Option S) (m : Mem) (h : ns.length ≤ 1000) : G_begunC [some (.d (.scr ns)), z, none] m = .ok ((ns.map absI).map .int) m := by
  have e := comp_c (some (.d (.scr ns))) z ns [] m (by simpa using h)
  have e2 : G_begunC [some (.d (.scr ns)), z, none] m = noxO (compM [2] (tgN 2) yes (u1 absS (getS 2)) [some (.d (.scr ns)), z, none] [] (ns.map .int) m) := rfl
  rw [e2, e]
  rfl
def G__law_mixed : SD → M Fl :=
    (seqM (dputV "turn" (u2 addD (u1 (drwK "turn") (getS 0)) (kD (.int 1))) (getS 0))
    (seqM (parV 1 2 (ofD (u1 toIntS (ofD (u1 (drwK "turn") (getS 0))))) (ofD (kD (.int 0))))
    (seqM (forV (seqI (ofL (lstV (consV (kD (.int 2147483629)) (consV (kD (.int 2147483587)) (consV (kD (.int 2147483579)) nilV)))))) (tgN 3) (seqM (setV 4 (u2 modD (u2 addD (u2 mulD (getD 1) (kD (.int 69621))) (u2 divD (getD 3) (kD (.int 7)))) (getD 3)))
    (seqM (forV (seqI (u1 (drwK "cells") (getS 0))) (tgN 5) (setV 4 (u2 modD (u2 addD (u2 mulD (getD 4) (kD (.int 48271))) (u1 toIntS (getS 5))) (getD 3))))
    (setV 2 (u2 addD (u2 mulD (getD 2) (kD (.int 2147483647))) (u2 modD (u2 powD (getD 4) (kD (.int 5))) (getD 3)))))))
    (retV (getD 2)))))
def F__law_mixed : List S → M D := fnM 6 G__law_mixed
def G__law_take : SD → M Fl :=
    (seqM (ifV (c2 eqD (u1 (drwK "rest") (getS 0)) (kD (.int 0))) (dputV "rest" (ifV (u1 drwLa (getS 0)) (u1 drwPop (getS 0)) (callM 1 F__law_mixed (consV (getS 0) nilV))) (getS 0)) nxV)
    (seqM (setV 2 (u2 modD (u1 toIntS (ofD (u1 (drwK "rest") (getS 0)))) (getD 1)))
    (seqM (dputV "rest" (u2 divD (u1 toIntS (ofD (u1 (drwK "rest") (getS 0)))) (getD 1)) (getS 0))
    (retV (getD 2)))))
def F__law_take : List S → M D := fnM 3 G__law_take

end Mi

set_option Elab.async false
set_option linter.all false
set_option maxRecDepth 100000
set_option maxHeartbeats 4000000
/-! The layer Mi. Part 12: comparisons of what may change; more built-ins. -/
namespace Mi
open PySem PySem.Spec PyProof.Rows L2
/-- what stands there now -/
def cur : S → M D
  | .d x => M.pure x
  | .h n => fun m => match m[n]? with
    | some (.lst ds) => .ok (.lst ds) m
    | some (.fz d) => .ok d m
    | _ => .bad
section
variable {K : PySem.W.Frag} {B : Hp} {ρ : Rho} {m : Mem} {H : Hp}
theorem cur_ok {s : S} {v : V} {P : D → Hp → Rho → Mem → Hp → Prop} {E : XK} (hs : Sim K B ρ m H) (r : RepS K B ρ s v) (w : Wt K B ρ H E P (cur s m)) : ∃ d, Rep K H d v ∧ P d B ρ m H := by
  cases s with
  | d x => exact ⟨x, Rep.mono hs.ex r, Wt.ok (E := E) (m := m) w hs⟩
  | h n =>
    obtain ⟨p, h1, rfl⟩ := r
    obtain ⟨o, h2, h3⟩ := hs.at_ h1
    have w2 : Wt K B ρ H E P (match m[n]? with | some (.lst ds) => .ok (.lst ds) m | some (.fz d) => .ok d m | _ => .bad) := w
    rw [h2] at w2
    cases o with
    | lst ds =>
      obtain ⟨z1, z2, xs, z3, z4⟩ := h3
      exact ⟨.lst ds, ⟨p.1, xs, rfl, z3, z4.mono hs.ex⟩, Wt.ok w2 hs⟩
    | fz d => exact ⟨d, Rep.mono hs.ex h3.1, Wt.ok w2 hs⟩
    | _ => exact w2.elim
end
def eqS (x y : S) : M D := M.bind (cur x) fun a => M.bind (cur y) fun b => eqD a b
def neS (x y : S) : M D := M.bind (cur x) fun a => M.bind (cur y) fun b => neD a b
section
variable {X : Cx} {E : XK} {K : PySem.W.Frag} {B : Hp} {ρ : Rho} {m : Mem} {H : Hp} {a b c e : Expr} {es : List Expr} {pos p p2 p3 p4 : Pos} {ga gb : SD → M S} {fa fb fe : SD → M D}
theorem Wt.unb {α β : Type} {P : β → Hp → Rho → Mem → Hp → Prop} {r : Out α} {f : α → M β} (h : Wt K B ρ H E P (r.bind f)) : Wt K B ρ H E (fun a B' ρ' m' H' => Wt K B' ρ' H' E P (f a m')) r := Wt.bind h
theorem eqS_ok {s1 s2 : S} {x y : V} {Q : VK} (hs : Sim K B ρ m H) (r1 : RepS K B ρ s1 x) (r2 : RepS K B ρ s2 y) (w : Wt K B ρ H E (PD K Q) (eqS s1 s2 m)) : rEqD K x y H Q := by
  have w1 : Wt K B ρ H E (PD K Q) ((cur s1 m).bind fun a => M.bind (cur s2) fun b => eqD a b) := w
  obtain ⟨d, rd, w2⟩ := cur_ok hs r1 (Wt.unb w1)
  have w3 : Wt K B ρ H E (PD K Q) ((cur s2 m).bind fun b => eqD d b) := w2
  obtain ⟨d2, rd2, w4⟩ := cur_ok hs r2 (Wt.unb w3)
  unfold eqD at w4
  split at w4
  · rename_i hc
    obtain ⟨c1, c2⟩ := Bool.and_eq_true_iff.mp hc
    exact ⟨_, _, rd.dp (Sub.refl H) (SeqAt.canLay_of_shaped c1), rd2.dp (Sub.refl H) (SeqAt.canLay_of_shaped c2), c1, c2, Wt.ok (m := m) w4 hs _ rfl⟩
  · exact w4.elim
theorem neS_ok {s1 s2 : S} {x y : V} {Q : VK} (hs : Sim K B ρ m H) (r1 : RepS K B ρ s1 x) (r2 : RepS K B ρ s2 y) (w : Wt K B ρ H E (PD K Q) (neS s1 s2 m)) : rNeD K x y H Q := by
  have w1 : Wt K B ρ H E (PD K Q) ((cur s1 m).bind fun a => M.bind (cur s2) fun b => neD a b) := w
  obtain ⟨d, rd, w2⟩ := cur_ok hs r1 (Wt.unb w1)
  have w3 : Wt K B ρ H E (PD K Q) ((cur s2 m).bind fun b => neD d b) := w2
  obtain ⟨d2, rd2, w4⟩ := cur_ok hs r2 (Wt.unb w3)
  unfold neD at w4
  split at w4
  · rename_i hc
    obtain ⟨c1, c2⟩ := Bool.and_eq_true_iff.mp hc
    exact ⟨_, _, rd.dp (Sub.refl H) (SeqAt.canLay_of_shaped c1), rd2.dp (Sub.refl H) (SeqAt.canLay_of_shaped c2), c1, c2, Wt.ok (m := m) w4 hs _ rfl⟩
  · exact w4.elim
def OpSS (X : Cx) (E : XK) (r : R2) (f : S → S → M D) : Prop := ∀ s1 s2 x y B ρ m H Q, Sim X.K B ρ m H → RepS X.K B ρ s1 x → RepS X.K B ρ s2 y → Wt X.K B ρ H E (PD X.K Q) (f s1 s2 m) → r x y H Q
theorem st_cmpSS {op : CmpOp} {r : R2} {f : S → S → M D} (ho : OpR X (compareOp op) r) (hd : OpSS X E r f) (ha : SX X E a ga) (hb : SX X E b gb) (hm : behindInMarks op b = false) :
    ST X E (.Compare a [op] [b] pos) (fun sd => M.bind (ga sd) fun x => M.bind (gb sd) fun y => M.bind (f x y) asB) := by
  obtain ⟨ta, pa, ka⟩ := ha
  obtain ⟨tb, pb, kb⟩ := hb
  refine ⟨_, pt_cmpR ho pa pb hm, fun σ sd B ρ m H Q s rl w => ka σ sd B ρ m H _ s rl ?_⟩
  refine Wt.bind' (r := ga sd m) w fun dx B1 ρ1 m1 H1 t1 s1 w1 x rx => kb σ sd B1 ρ1 m1 H1 _ s1 (rl.ste t1) ?_
  refine Wt.bind' (r := gb sd m1) w1 fun dy B2 ρ2 m2 H2 t2 s2 w2 y ry => hd dx dy x y B2 ρ2 m2 H2 _ s2 (rx.ste t2) ry ?_
  refine Wt.bind' (r := f dx dy m2) w2 fun d B3 ρ3 m3 H3 t3 s3 w3 v r => ?_
  cases d with
  | bl z => exact ⟨z, r, Wt.ok (E := E) (m := m3) w3 s3⟩
  | _ => exact w3.elim
theorem st_eqX (hu : X.A.units + 64 < cLine) (ha : SX X E a ga) (hb : SX X E b gb) : ST X E (.Compare a [.Eq] [b] pos) (fun sd => M.bind (ga sd) fun x => M.bind (gb sd) fun y => M.bind (eqS x y) asB) := st_cmpSS (op_eqD hu) (fun _ _ _ _ _ _ _ _ _ hs r1 r2 w => eqS_ok hs r1 r2 w) ha hb (nomark _)
theorem st_neX (hu : X.A.units + 64 < cLine) (ha : SX X E a ga) (hb : SX X E b gb) : ST X E (.Compare a [.NotEq] [b] pos) (fun sd => M.bind (ga sd) fun x => M.bind (gb sd) fun y => M.bind (neS x y) asB) := st_cmpSS (op_neD hu) (fun _ _ _ _ _ _ _ _ _ hs r1 r2 w => neS_ok hs r1 r2 w) ha hb (nomark _)
abbrev c2X (f : S → S → M D) (fa fb : SD → M S) : SD → M Bool := fun sd => M.bind (fa sd) fun x => M.bind (fb sd) fun y => M.bind (f x y) asB
end
end Mi

set_option Elab.async false
set_option linter.all false
set_option maxRecDepth 100000
set_option maxHeartbeats 4000000
/-! The layer Mi, exceptions as values. Part 1: an own __init__ that says super().__init__('..') and self.f = x. -/
namespace Mi
open PySem PySem.Spec PyProof.Rows L2 PySem.W PySem.Calls
structure SupF (P : Program) (K : PySem.W.Frag) (nm qual : Str) (params : Arguments) (body : List Stmt) (scope : Scope) (attr : Str) (f C : Addr) (fd : FuncData) : Prop where
  ex : ∃ oc od dV kV doc pm an cda ct cc osl, fd = PySem.W.ksFn nm qual params body scope dV kV doc pm an (.ref cda) ct cc ∧ K.lookup f = some ⟨oc, od, .func fd, osl⟩ ∧ PySem.W.codeIn K (.ref cda) qual = true ∧
    (∃ cl cld csl, K.lookup cc = some ⟨cl, cld, .cell (some (.ref C)), csl⟩) ∧ (∃ ccl cdd vs ccs file tf, K.lookup cda = some ⟨ccl, cdd, .fields vs, ccs⟩ ∧ vs[2]? = some (.str file tf) ∧ ((P.main.file : Str) == file) = true)
  op : PySem.W.nsIn K cStatics "thirdparty.any" = some none
  sup : PySem.W.ks_superIn K C C "__init__" = some (some (.builtin "ValueError.__init__"))
  sub : PySem.W.subIn K (.ref C) (.type "ValueError") = some true
  slf : PySem.W.mroIn K C (.ref C) = some true
  no : PySem.W.findIn K (.ref C) attr = some none
  T : OexC K C
def spInit (C : Addr) (attr : Str) : Sp := fun vs H Q E => ∃ a y, vs = [.ref a, y] ∧ H a = some (exo a C none) ∧ ∀ dx, H dx = none → dx ≠ a → Q .non (upd (upd H dx (exd dx [(attr, y)])) a (exo a C (some dx)))
section
variable {P : Program} {w : World} {K : PySem.W.Frag} {mg : Str → Option Value} {base : Heap}
theorem init_fn {nm qual par attr msg : Str} {params : Arguments} {scope : Scope} {f C : Addr} {fd : FuncData} {k : Nat} {p0 p1 p2 p3 p4 p5 p6 p7 p8 p9 : Pos} {j : Nat} {ar : Arg}
    (F : SupF P K nm qual params [.Expr (.Call (.Attribute (.Call (.Name "super" p0) [] [] p1) "__init__" p2) [.Constant (.str msg) j p3] [] p4) p5, .Assign [.Attribute (.Name "self" p6) attr p7] (.Name par p8) p9] scope attr f C fd)
    {pl : Env → Sem Bool} (he : ∀ env : Env, eval (.Call (.Attribute (.Call (.Name "super" p0) [] [] p1) "__init__" p2) [.Constant (.str msg) j p3] [] p4) env = (do
      let ov ← attributeBase (.Call (.Name "super" p0) [] [] p1) "__init__" env (eval (.Call (.Name "super" p0) [] [] p1) env)
      standAt p2.atName
      let (f, first) ← holding [ov] (getMethod ov "__init__" (pl env))
      callWith p4 f first (backTo p4 (starEach [.Constant (.str msg) j p3] env)) []))
    (hsw1 : ∀ env : Env, swapsWith (.Call (.Attribute (.Call (.Name "super" p0) [] [] p1) "__init__" p2) [.Constant (.str msg) j p3] [] p4) none p5.line env = pure false)
    (hsw2 : ∀ env : Env, swapsWith (.Name par p8) (some (.Attribute (.Name "self" p6) attr p7)) p9.line env = pure false)
    (hp : (params.posonlyargs ++ params.args).head? = some ar) (har : ar.arg = "self") (hpar : par ≠ "self") (hpd : (par == ("__debug__" : Str)) = false)
    (htop : (P.main.scope.names.lookup ("super" : Str)).isSome = false) (hmg : mg "super" = none) (hks : scope.names.lookup ("super" : Str) = some .globalImplicit) (hkc : scope.names.lookup ("__class__" : Str) = some .free)
    (hls : scope.names.lookup ("self" : Str) = some .local) (hlp : scope.names.lookup par = some .local) (hcell : ∀ x ∈ scope.names, x.2 ≠ .cell) (hco : scope.isCoroutine = false) (hgen : scope.isGenerator = false) (hk : scope.kind = .function) :
    FnOk P w K mg base (L2.CX P w) (k + 1) f fd ["self", par] (spInit C attr) := by
  refine ⟨fun vs H Q E h => ?_, fun A outer s H args us vs Q E hr e0 hb r hsp => ?_⟩
  · obtain ⟨a, y, rfl, _⟩ := h
    rfl
  obtain ⟨a, y, rfl, ha, hq⟩ := hsp
  cases r with
  | @cons _ u0 _ ur r0 rr =>
  cases rr with
  | @cons _ u _ ur r1 rr =>
  cases rr
  obtain rfl : u0 = Value.ref a := r0
  have KX : K.In s.heap := e0.mod.kin.keeps fun b o e => (e0.bs b o e).1
  have lim : s.heap.NoLimit := e0.mod.nolimit.keeps fun b o e => (e0.bs b o e).1
  obtain ⟨oc, od, dV, kV, doc, pm, an, cda, ct, cc, osl, rfl, lk, hcd, ⟨cl, cld, csl, lcc⟩, ⟨ccl, cdd, vs, ccs, file, tf, lcd, hvs, hfile⟩⟩ := F.ex
  refine ks_codeAny_call_defAt (binds := [("self", Value.ref a), (par, u)]) hr.depth (KX _ _ lk) rfl lim (codeRec_of KX hcd) rfl hb hcell (fun x hx => ?_) (fun h₁ hns hk₁ => ?_) hco hgen hk
  · rcases List.mem_cons.mp hx with rfl | hx
    · exact hls
    · rw [List.mem_singleton.mp hx]
      exact hlp
  have lk_self : ([(("self" : Str), Value.ref a), (par, u)] : List (Str × Value)).reverse.lookup ("self" : Str) = some (Value.ref a) := by
    have e : (("self" : Str) == par) = false := beq_eq_false_iff_ne.mpr (Ne.symm hpar)
    show ([(par, u), (("self" : Str), Value.ref a)] : List (Str × Value)).lookup ("self" : Str) = some (Value.ref a)
    rw [List.lookup_cons, e]
    rfl
  have lk_par : ([(("self" : Str), Value.ref a), (par, u)] : List (Str × Value)).reverse.lookup par = some u := by
    show ([(par, u), (("self" : Str), Value.ref a)] : List (Str × Value)).lookup par = some u
    rw [List.lookup_cons, beq_self_eq_true]
  have KX1 : K.In h₁ := KX.keeps hk₁
  obtain ⟨t1, hex⟩ := exo_at e0.hok ha
  obtain ⟨nmC, q, N, bs, bm, sn, sub, ab, col, dd, k0, k1, k2, k3, k5, hC, hbm⟩ := F.T.cls
  obtain ⟨hp0, g, d, t, os⟩ := s
  have hex1 := hk₁ _ _ hex
  have hCl := KX1 _ _ hC
  have I1 : InstAt h₁ a { cls := .ref C, dict := none, data := .fields #[.ref t1, .none, .none, .none, .bool false, .none] } C none := ⟨hex1, rfl, rfl, trivial⟩
  refine ks_wpAt_execs_cons (ks_wpAt_Expr_any (ks_wpAt_MethodCall (ks_wpAt_super_base hks hkc rfl rfl (KX1 _ _ lk) rfl hp rfl (KX1 _ _ lcd) rfl hvs hfile htop ?_) (he _)) (by simp [interactive, callEnv, newEnv, hk]) (hsw1 _))
  have X1b : ∀ b o, base.get? b = some o → h₁.get? b = some o := fun b o e => hk₁ b o (e0.bs b o e).1
  obtain ⟨mb, hb1, hb2⟩ := e0.mod.blt
  refine ks_loadName_global hk hks (loadGlobal_builtin (e0.mod.glob.keeps X1b) hmg (hb1.keeps X1b) ((hb2 "super" (by decide)).trans (show bootBuiltins "super" = some (.type "super") by kernel_rfl)) ⟨rfl, ?_⟩)
  refine wpAny_loadName_free hk hkc (by rfl) ⟨_, KX1 _ _ lcc, rfl⟩ ?_
  rw [har]
  refine wpAny_loadName_local hk hls hns (m := fun x => ([(("self" : Str), Value.ref a), (par, u)] : List (Str × Value)).reverse.lookup x) (show ([(("self" : Str), Value.ref a), (par, u)] : List (Str × Value)).reverse.lookup ("self" : Str) = some (Value.ref a) from lk_self) ?_
  refine ks_wpAny_isType_cls hCl rfl ⟨rfl, ?_⟩
  refine ks_wpAny_call_super hCl rfl hex1 rfl (fun c e => by cases e) (looks_mroIn KX1 F.slf) (fun h2 e2 k2 => ?_)
  have KX2 : K.In h2 := KX1.keeps k2
  have hex2 := k2 _ _ hex1
  have hCl2 := KX2 _ _ hC
  have I2 : InstAt h2 a { cls := .ref C, dict := none, data := .fields #[.ref t1, .none, .none, .none, .bool false, .none] } C none := ⟨hex2, rfl, rfl, trivial⟩
  have hcl : PySem.W.clsIn K C = some { name := nmC, bases := bs, mro := .ref C :: bm, ns := N, qualname := q, hasDict := true, slotNames := sn, subclasses := sub, abstract := ab, collection := col, hasDel := false } := by unfold PySem.W.clsIn; rw [hC] <;> rfl
  have hsup := F.sup
  unfold ks_superIn at hsup
  rw [hcl, Option.bind_some] at hsup
  refine kxs_getMethod kxs_ValueError e2 (looks_opaque KX2 F.op) (l₀ := .ref C :: bm) (fun A Q E s k q => wpAny_bind ((looks_clsIn KX2 hcl) A _ E s k (wpAny_pure q))) rfl KX2 hsup (I2.type.andThen (looks_subIn KX2 F.sub)) (ks_ne KX2 I2 hcl) rfl ?_
  refine kxs_callWith (i := "ValueError.__init__") (x := a) rfl ?_
  refine evalArgs_plain ?_
  refine Calls.spliced_cons (Calls.Constant_str (x := msg) (k := j) (pos := p3) (Calls.spliced_nil ⟨Heap.get?_push_at rfl rfl, ?_⟩))
  have kp3 : ∀ b o, h2.get? b = some o → (h2.push (kxs_mw "ValueError.__init__" a)).get? b = some o := fun b o e => Heap.get?_push_of_some _ e
  have hu : (h2.push (kxs_mw "ValueError.__init__" a)).get? h2.objs.size = some (kxs_mw "ValueError.__init__" a) := Heap.get?_push_at rfl rfl
  have hex3 := kp3 _ _ hex2
  have hCl3 := kp3 _ _ hCl2
  refine wpAny_call (codeAny_of_tree ?_)
  show wpAny _ _ (callAny (.ref h2.objs.size) _) _ _ _
  simp only [callAny]
  refine wpAny_bind (wpAny_load hu ?_)
  simp only [kxs_mw, show (Value.type "method-wrapper" == Value.type "method" || Value.type "method-wrapper" == Value.type "builtin_function_or_method" || Value.type "method-wrapper" == Value.type "method-wrapper") = true by decide, if_true]
  refine KFB.if_so (by decide) ?_
  refine wpAny_bind (check_bound_init PySem.F.excBase_ValueError.toExcCallFacts hCl3 hex3 rfl ?_)
  refine wpAny_bind (wpAny_pure (wpAny_pure ?_))
  refine ⟨plainId_quiet PySem.F.excBase_ValueError.init.plain _, codeAny_builtin PySem.F.excBase_ValueError.initEntry ?_⟩
  refine exc_init_tree (cls := .ref C) (t0 := t1) (dv := none) (c2 := .none) (c3 := .none) (b4 := .bool false) hex3 (by rw [sizeLine_eq]; show 1 ≤ _; omega) (fun h4 k4 e4 _ => ?_)
  obtain ⟨oL, es, ep, hL, rL⟩ := hns
  have hane : hp0.objs.size ≠ a := Nat.ne_of_gt (Heap.lt_size hex)
  have kAll : ∀ b o, b ≠ a → h₁.get? b = some o → h4.get? b = some o := fun b o hb e => k4 b o hb (kp3 b o (k2 b o e))
  have hL4 : h4.get? hp0.objs.size = some oL := kAll _ _ hane hL
  have hns4 : h4.Ns hp0.objs.size (fun x => ([(("self" : Str), Value.ref a), (par, u)] : List (Str × Value)).reverse.lookup x) := ⟨oL, es, ep, hL4, rL⟩
  have hkn : ∀ b o, e0.mod.kin = e0.mod.kin → K.lookup b = some o → b ≠ a := fun b o _ e z => by
    have h1 := (e0.bs b o (e0.mod.kin _ _ e)).2
    rw [z, ha] at h1
    cases h1
  have KX4 : K.In h4 := fun b o e => kAll b o (hkn b o rfl e) (KX1 b o e)
  have e4' : h4.get? a = some ({ cls := .ref C, dict := none, data := .fields #[.ref (h2.push (kxs_mw "ValueError.__init__" a)).objs.size, .none, .none, .none, .bool false, .none] } : Obj) := e4
  have hx : hp0.objs.size < h4.objs.size := Heap.lt_size hL4
  have fin : ∀ h5 tk5 dx, (∀ b o, b ≠ a → h4.get? b = some o → h5.get? b = some o) → h4.objs.size ≤ dx → dx ≠ a → h5.get? a = some ({ cls := .ref C, dict := some dx, data := .fields #[.ref (h2.push (kxs_mw "ValueError.__init__" a)).objs.size, .none, .none, .none, .bool false, .none] } : Obj) →
      h5.Ns1 dx (fun y => if y = attr then some u else none) → CE outer P w H ⟨hp0, g, d, t, os⟩ Q .none ⟨h5, g, d, tk5, os⟩ := fun h5 tk5 dx k5 dn dne hx5 hn5 => by
    have hnd : H dx = none := e0.hok.fresh (Nat.le_of_lt (Nat.lt_of_lt_of_le hx dn))
    have nd : ∀ {b : Addr} {o : Obj}, hp0.get? b = some o → b ≠ dx := fun {b o} q => Nat.ne_of_lt (Nat.lt_of_lt_of_le (Heap.lt_size q) (Nat.le_of_lt (Nat.lt_of_lt_of_le hx dn)))
    have na : ∀ {b : Addr}, H b = none → b ≠ a := fun {b} n z => by
      rw [z, ha] at n
      cases n
    have kk : ∀ b o, b ≠ a → hp0.get? b = some o → h5.get? b = some o := fun b o hb e => k5 b o hb (kAll b o hb (hk₁ b o e))
    have Un1 : Un (frs outer) [] H (upd (upd H dx (exd dx [(attr, y)])) a (exo a C (some dx))) hp0 h5 := {
      keep := fun b o q n _ _ => kk b o (na n) q
      slot := fun b o q n _ _ => ⟨o.slots, kk b o (na n) q⟩
      free := fun b o q n _ => by rw [upd_ne (na n), upd_ne (nd q)]; exact n
      there := fun b o q _ => by
        by_cases hb : b = a
        · exact ⟨_, by rw [hb]; exact hx5⟩
        · exact ⟨o, kk b o hb q⟩
      tups := fun b xs q => by rw [upd_ne (at_ne ha q exo_tup), upd_ne (ne_of_none q hnd)]; exact q
      frzs := fun b o v q => by rw [upd_ne (at_ne ha q exo_frz), upd_ne (ne_of_none q hnd)]; exact q
      tbls := fun b ps q => ⟨#[], by rw [upd_ne (at_ne ha q exo_tbl), upd_ne (ne_of_none q hnd), q]; simp⟩ }
    refine ⟨.non, upd (upd H dx (exd dx [(attr, y)])) a (exo a C (some dx)), rfl, e0.bare, Un1, fun b o q => ?_, rfl, hq dx hnd dne⟩
    by_cases hb : b = a
    · rw [hb] at q ⊢
      rw [upd_same] at q
      rw [← Option.some.inj q]
      exact exo_ok hx5
    · rw [upd_ne hb] at q
      by_cases hd : b = dx
      · rw [hd] at q ⊢
        rw [upd_same] at q
        rw [← Option.some.inj q]
        exact exd_ok hn5 (relO_put (fs := []) r1 fun g => True.intro)
      · rw [upd_ne hd] at q
        exact (e0.hok b o q).stay (fun c v hc z => kk c v (by
            rcases hc with hc | hc
            · rw [hc]
              exact hb
            · exact at_ne ha hc exo_own) z)
          (fun c hc => by rw [upd_ne (at_ne ha hc exo_own), upd_ne (ne_of_none hc hnd)]; exact hc) (fun c xs hc => by rw [upd_ne (at_ne ha hc exo_tup), upd_ne (ne_of_none hc hnd)]; exact hc)
  refine ks_wpAt_execs_cons (wpAt_of_wpAny (plainObj_wpAny_Assign_Attribute ?_ (hsw2 _)))
  refine wpAny_Name (wpAny_loadName_local hk hlp hns4 lk_par ?_) hpd
  refine wpAny_Name (wpAny_loadName_local hk hls hns4 lk_self ?_) (by decide)
  refine PySem.W.set_plain KX4 (ox := { cls := .ref C, dict := none, data := .fields #[.ref (h2.push (kxs_mw "ValueError.__init__" a)).objs.size, .none, .none, .none, .bool false, .none] }) (od := none) ⟨e4', rfl, rfl, trivial⟩ F.T.sa ?_
  refine PySem.HandSPX.exc_osa KX4 e4' hcl (show PySem.HandSPX.refsVE (.ref C :: bm) = true from hbm) rfl F.no (fun h5 tk5 dx k5 dn dne hx5 hn5 => ?_)
  refine wpAt_of_wpAny ?_
  exact wpAny_execs_nil (fin h5 tk5 dx k5 dn dne hx5 hn5)
end
end Mi

set_option Elab.async false
set_option linter.all false
set_option maxRecDepth 100000
set_option maxHeartbeats 4000000
/-! The layer Mi, exceptions as values. Part 2: such an exception made, with a positional value or a keyword. -/
namespace Mi
open PySem PySem.Spec PyProof.Rows L2 PySem.W PySem.Calls PySem.HandSPX
section
variable {M : Model} {prog : Program} {w : World} {A : Around} {E : Value → Shared → Prop} {R : Result → Shared → Prop} {h : Heap} {g : Array GenState} {d : Drawn} {t : Nat} {os : OsState}
variable {nm q : Str} {C N : Addr} {bs bm bmB : List Value} {hdct : Bool} {sn : List Str} {sub : List Value} {ab : Bool} {col : Option Bool} {dd : Option Addr} {k0 k1 k2 k3 k5 : Option Value} {B newId initId : String}
/-! the steps of the making, keywords beside -/
theorem kw_check_new (F : ExcBaseFacts B newId initId bmB) (hT : ∀ X : String, bm.contains (.type X) = bmB.contains (.type X)) {rest : List Value} {kw : List (Str × Value)} {Q : Unit → Shared → Prop}
    (hC : h.get? C = some (excClassObj nm q C N bs bm hdct sn sub ab col dd k0 k1 k2 k3 k5 newId)) (hq : Q () ⟨h, g, d, t, os⟩) : wpAny M A (checkBuiltinCall newId ⟨.ref C :: rest, kw⟩) Q E ⟨h, g, d, t, os⟩ := by
  have c1 : (Value.ref C :: bm).contains (.type B) = true := by rw [List.contains_cons, hT, F.hasB, Bool.or_true]
  have c2 := F.noStar
  simp only [checkBuiltinCall, F.newKind, F.newSplit, F.newRow]
  repeat (first | refine wpAny_loadPart_at hC ?_ | (refine wpAny_isSubtype_exc hC ?_; rw [c1]) | refine wpAny_staticBase_exc hC ?_ | refine wpAny_madeBy_exc hC ?_ | simp only [bne_self_eq_false, Bool.false_eq_true, if_false] | wp_step)
  exact hq
theorem kw_new (F : ExcBaseFacts B newId initId bmB) (hT : ∀ X : String, bm.contains (.type X) = bmB.contains (.type X)) {rest : List Value} {kw : List (Str × Value)}
    (hC : h.get? C = some (excClassObj nm q C N bs bm hdct sn sub ab col dd k0 k1 k2 k3 k5 newId))
    (hq : R (.ok (.ret (.ref (h.objs.size + 1)))) ⟨(h.push (kdv_tup rest)).push (excO C h.objs.size), g, d, t, os⟩) (hrest : rest.length ≤ sizeLine) :
    codeAny (model prog w) A (.builtin newId ⟨.ref C :: rest, kw⟩) R ⟨h, g, d, t, os⟩ := by
  have c0 := F.ends
  have c1 : (Value.ref C :: bm).contains (.type B) = true := by rw [List.contains_cons, hT, F.hasB, Bool.or_true]
  have c2 : (Value.ref C :: bm).contains (.type "AttributeError") = false := by rw [List.contains_cons, hT, F.noAttr]; rfl
  have c3 : (Value.ref C :: bm).contains (.type "NameError") = false := by rw [List.contains_cons, hT, F.noName]; rfl
  refine codeAny_builtinAt F.entry ?_
  unfold Builtin.«BaseException.__new__»
  refine PySem.wpAt_bind ?_
  show PySem.wpAt _ _ _ (stack >>= _) _ _ _
  refine PySem.wpAt_bind (PySem.wpAt_stack fun p below => PySem.wpAt_of_wpAny ?_)
  wp_walk
  refine PySem.wpAt_of_wpAny ?_
  rw [F.owner]
  repeat (first | with_reducible refine wpAny_madeHere_exc F.canon hC ?_ | with_reducible refine wpAny_loadPart_at hC ?_ | (with_reducible refine wpAny_isSubtype_exc hC ?_; first | rw [c1] | rw [c2] | rw [c3]) | wp_step)
  show R _ _
  rw [Heap.size_push]
  exact hq
theorem kw_type_call (F : ExcBaseFacts B newId initId bmB) (hT : ∀ X : String, bm.contains (.type X) = bmB.contains (.type X)) {rest : List Value} {kw : List (Str × Value)} {fI : Addr} {Q : Fin → Shared → Prop}
    (hC : h.get? C = some (excClassObj nm q C N bs bm hdct sn sub ab col dd k0 k1 k2 k3 k5 newId))
    (hi : Looks (model prog w) h (typeLookup (.ref C) "__init__") (some (.ref fI))) (hb : ∀ self, Looks (model prog w) h (bindSpecial (.ref fI) self) (.ref fI, [self])) (hrest : rest.length ≤ sizeLine)
    (hq : codeAny (model prog w) A (.call (.ref fI) ⟨.ref (h.objs.size + 1) :: rest, kw⟩)
      (fun r s' => match r with | .ok (.ret v) => v = .none ∧ Q (.done (.ret (.ref (h.objs.size + 1)))) s' | .ok _ => False | .error e => E e s')
      ⟨(h.push (kdv_tup rest)).push (excO C h.objs.size), g, d, t, os⟩) :
    wpAny (model prog w) A (Builtin.«type.__call__» ⟨.ref C :: rest, kw⟩) Q E ⟨h, g, d, t, os⟩ := by
  repeat (first | with_reducible refine wpAny_loadPart_at hC ?_ | with_reducible refine wpAny_madeBy_exc hC ?_ | wp_step)
  refine codeAny_call_builtin_code (Code.quiet_builtin _ F.quiet) (kw_check_new F hT hC ?_)
  refine kw_new F hT hC ?_ hrest
  show wpAny _ _ _ _ _ _
  have up : ∀ b o, h.get? b = some o → ((h.push (kdv_tup rest)).push (excO C h.objs.size)).get? b = some o := fun b o e => Heap.get?_push_of_some _ (Heap.get?_push_of_some _ e)
  have e1 := up _ _ hC
  have e2 : ((h.push (kdv_tup rest)).push (excO C h.objs.size)).get? (h.objs.size + 1) = some (excO C h.objs.size) := by heap_get
  have e3 : (Value.ref C :: bm).contains (.ref C) = true := by simp
  have i1 := hi.keeps up
  have b1 := (hb (.ref (h.objs.size + 1))).keeps up
  unfold isInstance
  repeat (first | with_reducible refine wpAny_loadPart_at e2 ?_ | (with_reducible refine wpAny_isSubtype_exc e1 ?_; rw [e3]) | wp_step)
  show wpAny _ _ (typeLookup (.ref C) _) _ _ _
  refine i1.at ?_
  refine wpAny_holding (wpAny_bind (b1.at ?_))
  refine wpAny_bind (wpAny_call (codeAny_mono hq fun r s' z => ?_))
  rcases r with e | (v | _ | _ | _) <;> first | exact z | exact z.elim | skip
  obtain ⟨rfl, z⟩ := z
  first
    | exact wpAny_pure (wpAny_pure z)
    | (wp_walk; exact z)
theorem kw_check_tc {rest : List Value} {kw : List (Str × Value)} {Q : Unit → Shared → Prop} (hC : h.get? C = some (excClassObj nm q C N bs bm hdct sn sub ab col dd k0 k1 k2 k3 k5 newId))
    (hq : Q () ⟨h, g, d, t, os⟩) : wpAny M A (checkBuiltinCall "type.__call__" ⟨.ref C :: rest, kw⟩) Q E ⟨h, g, d, t, os⟩ := by
  have f3 := tc_sub
  have hT : (⟨h, g, d, t, os⟩ : Shared).TypeIs (.ref C) "type" := ⟨_, hC, rfl⟩
  simp only [checkBuiltinCall, tc_kind, tc_split]
  repeat (any_goals (first | assumption | with_reducible refine wpAny_loadPart_at hC ?_ | with_reducible refine wpAny_onRaise ?_ | with_reducible refine wpAny_map ?_ | wp_step))
theorem kw_call_own (F : ExcBaseFacts B newId initId bmB) (hT : ∀ X : String, bm.contains (.type X) = bmB.contains (.type X)) {rest : List Value} {kw : List (Str × Value)} {fI : Addr}
    (hC : h.get? C = some (excClassObj nm q C N bs bm hdct sn sub ab col dd k0 k1 k2 k3 k5 newId))
    (hi : Looks (model prog w) h (typeLookup (.ref C) "__init__") (some (.ref fI))) (hb : ∀ self, Looks (model prog w) h (bindSpecial (.ref fI) self) (.ref fI, [self])) (hrest : rest.length ≤ sizeLine)
    (hq : codeAny (model prog w) (A.under (.builtin "type.__call__" ⟨.ref C :: rest, kw⟩)) (.call (.ref fI) ⟨.ref (h.objs.size + 1) :: rest, kw⟩) (InitBack (h.objs.size + 1) R)
      ⟨(h.push (kdv_tup rest)).push (excO C h.objs.size), g, d, t, os⟩) :
    codeAny (model prog w) A (.call (.ref C) ⟨rest, kw⟩) R ⟨h, g, d, t, os⟩ := by
  have f1 := tc_lookup
  have f2 := tc_bind (.ref C)
  have hTy : (⟨h, g, d, t, os⟩ : Shared).TypeIs (.ref C) "type" := ⟨_, hC, rfl⟩
  refine codeAny_of_tree ?_
  show wpAny _ _ (callAny (.ref C) _) _ _ _
  repeat (any_goals (first | assumption | with_reducible refine wpAny_loadPart_at hC ?_ | wp_step))
  refine ⟨rfl, ?_⟩
  refine codeAny_call_builtin_at (Code.quiet_builtin _ (by decide +kernel)) entry_typeCall (kw_check_tc hC (kw_type_call F hT hC hi hb hrest ?_))
  refine codeAny_mono hq fun r s' z => ?_
  rcases r with e | (v | _ | _ | _) <;> exact z
end
end Mi

set_option Elab.async false
set_option linter.all false
set_option maxRecDepth 100000
set_option maxHeartbeats 4000000
/-! The layer Mi, exceptions as values. Part 3: rules: C(e), C(f=e), e.f, isinstance. -/
namespace Mi
open PySem PySem.Spec PyProof.Rows L2 PySem.Calls
theorem upd3 {H : Hp} {a dx : Addr} {o u v : HO} : upd (upd (upd H a o) dx u) a v = upd (upd H dx u) a v := by
  funext b
  by_cases hb : b = a
  · rw [hb, upd_same, upd_same]
  · rw [upd_ne hb, upd_ne hb]
    by_cases hd : b = dx
    · rw [hd, upd_same, upd_same]
    · rw [upd_ne hd, upd_ne hd, upd_ne hb]
def tMkX (C : Addr) (attr : Str) (ta : TA) : TE := fun σ H Q => ta σ H fun vs H1 => ∃ y, vs = [y] ∧ ∀ a dx, H1 a = none → H1 dx = none → dx ≠ a → Q (.ref a) (upd (upd H1 dx (exd dx [(attr, y)])) a (exo a C (some dx)))
section
variable {X : Cx} {e : Expr} {x par attr : Str} {C fI : Addr} {fd : FuncData} {k : Nat} {ta : TA} {p pos : Pos}
theorem run_mkx {pins : List (Addr × Obj)} {σ : L2.St} {H1 : Hp} {s1 : Shared} {y : V} {u : Value} {us : List Value} {kw : List (Str × Value)} {Q : VK} (F1 : FnOk X.prog X.w X.K X.mg X.base (L2.CX X.prog X.w) k fI fd ["self", par] (spInit C attr)) (T : OexC X.K C)
    (iC : PySem.W.findIn X.K (.ref C) "__init__" = some (some (.ref fI))) (tI : PySem.W.typeIn X.K (.ref fI) = some (.type "function")) (hr : Room (k + 1) X.A) (hx : Passes (L2.CX X.prog X.w) X (fun _ _ _ => False))
    (I1 : Inv X pins σ H1 s1) (r : RelV y u) (hl : us.length ≤ 1) (hb : ∀ (s : Shared) (a : Addr), X.K.In s.heap → BindsTo s fd ⟨.ref a :: us, kw⟩ ([(("self" : Str)), par].zip [.ref a, u]))
    (hq : ∀ a dx, H1 a = none → H1 dx = none → dx ≠ a → Q (.ref a) (upd (upd H1 dx (exd dx [(attr, y)])) a (exo a C (some dx)))) : wpAny (model X.prog X.w) X.A (call (.ref C) us kw) (EP X pins σ Q) X.xe s1 := by
  obtain ⟨nm, q, N, bs, bm, sn, sub, ab, col, dd, k0, k1, k2, k3, k5, hC, hbm⟩ := T.cls
  obtain ⟨hp, g, dr, tk, os⟩ := s1
  have hsz : hp.objs.size ≤ hp.objs.size + 1 := Nat.le_succ _
  have hn : H1 (hp.objs.size + 1) = none := I1.hok.fresh hsz
  have up : ∀ b o, hp.get? b = some o → ((hp.push (PySem.W.kdv_tup us)).push (PySem.HandSPX.excO C hp.objs.size)).get? b = some o := fun b o e => Heap.get?_push_of_some _ (Heap.get?_push_of_some _ e)
  have hget : ((hp.push (PySem.W.kdv_tup us)).push (PySem.HandSPX.excO C hp.objs.size)).get? (hp.objs.size + 1) = some (PySem.HandSPX.excO C hp.objs.size) := by heap_get
  have I2 : Inv X pins σ (upd H1 (hp.objs.size + 1) (exo (hp.objs.size + 1) C none)) ⟨(hp.push (PySem.W.kdv_tup us)).push (PySem.HandSPX.excO C hp.objs.size), g, dr, tk, os⟩ :=
    I1.laid (t' := tk) (a := hp.objs.size + 1) (o := exo (hp.objs.size + 1) C none) (h' := (hp.push (PySem.W.kdv_tup us)).push (PySem.HandSPX.excO C hp.objs.size)) up hsz (exo_ok hget)
  refine wpAny_call (kw_call_own F.excBase_ValueError (fun Y => PySem.HandSPX.refsVE_contains Y bm hbm) (I1.kIn _ _ hC) (PySem.W.looks_findIn I1.kIn iC) (fun self => PySem.W.bind_fn I1.kIn self tI) (by rw [sizeLine_eq]; omega)
    (codeAny_mono (F1.run _ X.stack _ _ ⟨Value.ref (hp.objs.size + 1) :: us, kw⟩ [.ref (hp.objs.size + 1), u] [.ref (hp.objs.size + 1), y] (fun v H' => v = .non ∧ Q (.ref (hp.objs.size + 1)) H') (fun _ _ _ => False) (hr.make C us kw) (I2.env0.make C us kw) (hb _ _ I2.kIn) (.cons rfl (.cons r .nil)) ⟨_, _, rfl, upd_same, fun dx n ne => ⟨rfl, ?_⟩⟩) fun rr s' hq' => ?_))
  · rw [upd3]
    rw [upd_ne ne] at n
    exact hq _ _ hn n ne
  · cases rr with
    | error er => exact hx pins σ _ _ er s' I2 hq'
    | ok fl =>
      cases fl with
      | ret v =>
        obtain ⟨v', H', J, rv, rfl, q'⟩ := I2.after hq'
        exact ⟨rv, .ref (hp.objs.size + 1), H', J, rfl, q'⟩
      | next => exact False.elim hq'
      | brk => exact False.elim hq'
      | cont => exact False.elim hq'
theorem pe_mkx (F1 : FnOk X.prog X.w X.K X.mg X.base (L2.CX X.prog X.w) k fI fd ["self", par] (spInit C attr)) (T : OexC X.K C)
    (iC : PySem.W.findIn X.K (.ref C) "__init__" = some (some (.ref fI))) (tI : PySem.W.typeIn X.K (.ref fI) = some (.type "function")) (hr : Room (k + 1) X.A) (hx : Passes (L2.CX X.prog X.w) X (fun _ _ _ => False))
    (hb : Binds X.K fd ["self", par] []) (hg : Gl X x) (hm : X.mg x = some (.ref C)) (ha : PA X [e] ta)
    (hdb : (x == ("__debug__" : Str)) = false := by decide) (he : starEach [e] X.env = (false, eval e X.env) :: starEach [] X.env := by rfl) (hpl : (backTo pos (starEach [] X.env)).any (·.1) = false := by rfl) :
    PE X (.Call (.Name x p) [e] [] pos) (tMkX C attr ta) := by
  refine ⟨fun pins s σ H Q I h => ?_⟩
  refine wpAny_Call_Name_kw (ld_glob I hg hm ?_ hdb)
  refine PySem.W.callWith_K (h₀ := X.base) I.ok.mod.kin T.kC (thn (ha.run pos pins s σ H _ I h) fun us s1 ⟨vs, H1, I1, r1, y, ev, hq⟩ => ⟨I1.kIn, ?_⟩) he hpl
  subst ev
  cases r1 with
  | cons r rr =>
    cases rr
    exact run_mkx F1 T iC tI hr hx I1 r (Nat.le_refl 1) (fun s a K1 => hb s [.ref a, _] K1 rfl) hq
theorem pe_mkxk {kpos : Pos} {nm : Option Str} (F1 : FnOk X.prog X.w X.K X.mg X.base (L2.CX X.prog X.w) k fI fd ["self", par] (spInit C attr)) (T : OexC X.K C)
    (iC : PySem.W.findIn X.K (.ref C) "__init__" = some (some (.ref fI))) (tI : PySem.W.typeIn X.K (.ref fI) = some (.type "function")) (hr : Room (k + 1) X.A) (hx : Passes (L2.CX X.prog X.w) X (fun _ _ _ => False))
    (hb : ∀ (s : Shared) (a : Addr) (u : Value), X.K.In s.heap → BindsTo s fd ⟨[.ref a], [(par, u)]⟩ ([(("self" : Str)), par].zip [.ref a, u])) (hg : Gl X x) (hm : X.mg x = some (.ref C)) (ha : PK X [⟨nm, e, kpos⟩] ta)
    (hks : (backToKw pos (keywordEach [⟨nm, e, kpos⟩] X.env)).filterMap (·.1) = [par] := by rfl) (hall : (backToKw pos (keywordEach [⟨nm, e, kpos⟩] X.env)).all (·.1.isSome) = true := by rfl)
    (hdb : (x == ("__debug__" : Str)) = false := by decide) (hpl : ((backTo pos (starEach [] X.env)).any (·.1) || (backToKw pos (keywordEach [⟨nm, e, kpos⟩] X.env)).any (·.1.isNone)) = false := by rfl) :
    PE X (.Call (.Name x p) [] [⟨nm, e, kpos⟩] pos) (tMkX C attr ta) := by
  refine ⟨fun pins s σ H Q I h => ?_⟩
  refine wpAny_Call_Name_kw (ld_glob I hg hm ?_ hdb)
  refine PySem.W.callWith_KW0 (h₀ := X.base) I.ok.mod.kin T.kC hall (thn (ha.run pos pins s σ H _ I h) fun us s1 ⟨vs, H1, I1, r1, y, ev, hq⟩ => ⟨I1.kIn, ?_⟩) hpl
  subst ev
  rw [hks]
  cases r1 with
  | cons r rr =>
    cases rr
    exact run_mkx F1 T iC tI hr hx I1 r (Nat.zero_le 1) (fun s a K1 => hb s a _ K1) hq
/-- e.f of such an exception -/
def tXa (K : PySem.W.Frag) (f : Str) (te : TE) : TE := fun σ H Q => te σ H fun x H1 => ∃ a C dx fs v, x = .ref a ∧ H1 a = some (exo a C (some dx)) ∧ H1 dx = some (exd dx fs) ∧ XfC K C ∧ PySem.W.findIn K (.ref C) f = some none ∧ fs.lookup f = some v ∧ Q v H1
theorem pe_xa {te : TE} {n : Str} (he : PE X e te) (hb : attributeBase e n X.env (eval e X.env) = eval e X.env := by rfl) : PE X (.Attribute e n pos) (tXa X.K n te) := by
  refine ⟨fun pins s σ H Q I h => ?_⟩
  refine attr_of hb (thn (he.run pins s σ H _ I h) fun u s1 hh => ?_)
  obtain ⟨x, H1, I1, rx, a, C, dx, fs, v, ex, ea, ed, T, hno, l, q⟩ := hh
  subst ex
  obtain rfl : u = Value.ref a := rx
  obtain ⟨t1, ho⟩ := exo_at I1.hok ea
  obtain ⟨mA, hns, hr⟩ := exd_at I1.hok ed
  obtain ⟨od, hod, hl⟩ := lookIn_ns hns
  obtain ⟨u, hu, ru⟩ := RelO.some_of (v := v) (o := mA n) (by rw [← l]; exact hr n)
  have J : PySem.W.InstAt s1.heap a { cls := .ref C, dict := some dx, data := .fields #[.ref t1, .none, .none, .none, .bool false, .none] } C (some od) := ⟨ho, rfl, rfl, hod⟩
  exact HandSPX.exc_get I1.kIn J T.ga T.gg T.exC (PySem.W.findObj_own T.hdC hno rfl (by rw [hl, hu])) (handed_of ru) ⟨v, H1, I1.tok _, ru, q⟩
/-- isinstance of an exception -/
def rIsX (K : PySem.W.Frag) : List V → Hp → VK → Prop := fun xs H Q => ∃ (a C : Addr) (c : V) (cv : Value) (b : Bool), xs = [.ref a, c] ∧ (H a = some (ExO (.ref C) a) ∨ ∃ dx fs, H a = some (exo a C (some dx)) ∧ H dx = some (exd dx fs)) ∧ ExcC K C ∧
  (∀ u, RelV c u → u = cv) ∧ PySem.W.kitOne K (.ref C) cv = some b ∧ Q (.bl b) H
theorem call_isX : CallR X (.builtin "isinstance") (rIsX X.K) := by
  intro pins s σ H xs us Q I r h
  obtain ⟨a, C, c, cv, b, rfl, ha, T, hcv, e, q⟩ := h
  cases r with
  | cons rx rr =>
    cases rr with
    | cons rt rr =>
      cases rr
      cases rx
      have ec := hcv _ rt
      subst ec
      have hcl : (PySem.W.clsIn X.K C).isSome = true := by
        obtain ⟨cd, hc, _⟩ := PySem.W.any_some T.hd
        rw [hc] <;> rfl
      rcases ha with ha | ⟨dx, fs, ha, hd⟩
      · obtain ⟨⟨oe, vs, ho, hz, hdt, _⟩, _, _⟩ := I.hok a _ ha
        have J : PySem.W.InstAt s.heap a oe C none := by
          obtain ⟨oc, od, oda, osl⟩ := oe
          obtain ⟨h1, h2⟩ := hz
          dsimp only at h1 h2 hdt
          subst h1 h2 hdt
          exact ⟨ho, rfl, rfl, trivial⟩
        exact PySem.W.kia_one (PySem.W.kitx_exc hcl T.hg T.hk T.hs T.ha T.hn T.ht T.hm) I.kIn J e (fun z => nomatch z) fun tk => ⟨.bl b, H, I.kept (t' := tk) fun _ _ z => z, rfl, q⟩
      · obtain ⟨t1, ho⟩ := exo_at I.hok ha
        obtain ⟨mA, ⟨od, _, _, hod, _⟩, _⟩ := exd_at I.hok hd
        have J : PySem.W.InstAt s.heap a { cls := .ref C, dict := some dx, data := .fields #[.ref t1, .none, .none, .none, .bool false, .none] } C (some od) := ⟨ho, rfl, rfl, hod⟩
        exact PySem.W.kia_one (PySem.W.kitx_exc hcl T.hg T.hk T.hs T.ha T.hn T.ht T.hm) I.kIn J e (fun z => nomatch z) fun tk => ⟨.bl b, H, I.kept (t' := tk) fun _ _ z => z, rfl, q⟩
end
end Mi

set_option Elab.async false
set_option linter.all false
set_option maxRecDepth 100000
set_option maxHeartbeats 4000000
/-! The layer Mi, exceptions as values. Part 4: the rules over data. -/
namespace Mi
open PySem PySem.Spec PyProof.Rows L2
/-- an own exception class over ValueError whose __init__(self, par) keeps par as attr -/
structure ExI (P : Program) (w : World) (K : PySem.W.Frag) (mg : Str → Option Value) (base : Heap) (k : Nat) (C par attr : Str) : Prop where
  ex : ∃ fI fd, FnOk P w K mg base (L2.CX P w) k fI fd ["self", par] (spInit (He.ga K C) attr) ∧ OexC K (He.ga K C) ∧ PySem.W.findIn K (.ref (He.ga K C)) "__init__" = some (some (.ref fI)) ∧ PySem.W.typeIn K (.ref fI) = some (.type "function") ∧
    Binds K fd ["self", par] [] ∧ ∀ (s : Shared) (a : Addr) (u : Value), K.In s.heap → BindsTo s fd ⟨[.ref a], [(par, u)]⟩ ([(("self" : Str)), par].zip [.ref a, u])
  mgx : mg C = some (.ref (He.ga K C))
def exC : D → Option Str
  | .ex C => some C
  | .exA C _ _ => some C
  | _ => none
def isE2 (Ls : List Str) (sub : Str → Str → Bool) (C : Str) : D → M D
  | .gl z => if Ls.contains z = true then M.pure (.bl (sub C z)) else bad
  | .ty n => if n = "ValueError" then M.pure (.bl true) else bad
  | _ => bad
/-- isinstance of exceptions: Ls the classes known, sub C D: C lies below D -/
def isE (Ls : List Str) (sub : Str → Str → Bool) : S → S → M D
  | .d x, .d c => match exC x with
    | some C => if Ls.contains C = true then isE2 Ls sub C c else bad
    | none => bad
  | _, _ => bad
/-- what K says of the classes -/
structure ExCs (K : PySem.W.Frag) (Ls : List Str) (sub : Str → Str → Bool) : Prop where
  c : ∀ C, Ls.contains C = true → ExcC K (He.ga K C)
  s : ∀ C z, Ls.contains C = true → Ls.contains z = true → PySem.W.kitOne K (.ref (He.ga K C)) (.ref (He.ga K z)) = some (sub C z)
  v : ∀ C, Ls.contains C = true → PySem.W.kitOne K (.ref (He.ga K C)) (.type "ValueError") = some true
/-- e.f: L the classes with that attribute -/
def getX (Ls : List Str) (f : Str) : D → M D
  | .exA C g d => if g = f ∧ Ls.contains C = true then M.pure d else bad
  | _ => bad
structure XAs (K : PySem.W.Frag) (Ls : List Str) (f : Str) : Prop where
  x : ∀ C, Ls.contains C = true → XfC K (He.ga K C) ∧ PySem.W.findIn K (.ref (He.ga K C)) f = some none
section
variable {X : Cx} {E : XK} {K : PySem.W.Frag} {B : Hp} {ρ : Rho} {m : Mem} {H : Hp} {a b c e : Expr} {es : List Expr} {pos p p2 p3 p4 : Pos} {x k f : Str} {ga gb : SD → M S} {fa fb fe : SD → M D}
theorem Wt.bindT {α β : Type} {P : β → Hp → Rho → Mem → Hp → Prop} {P' : α → Hp → Rho → Mem → Hp → Prop} {r : Out α} {f : α → M β} {Bc : Hp} {ρc : Rho} {Hc : Hp} (t0 : Ste B ρ H Bc ρc Hc) (h : Wt K B ρ H E P (r.bind f))
    (k : ∀ a B' ρ' m' H', Ste Bc ρc Hc B' ρ' H' → Sim K B' ρ' m' H' → Wt K B ρ H E P (f a m') → P' a B' ρ' m' H') : Wt K Bc ρc Hc E P' r := by
  cases r with
  | ok a m' => exact fun B2 ρ2 H2 s2 z => k _ _ _ _ _ s2 z h
  | exc c fs m' => exact fun B2 ρ2 H2 dx s2 z e => h B2 ρ2 H2 dx (t0.trans s2) z e
  | bad => exact h.elim
theorem se_ex1 (h0 : Ex0 X.K X.mg x) (he : SE X E e fe) (hg : Gl X x := by rfl) (hs : starEach [e] X.env = (false, eval e X.env) :: starEach [] X.env := by rfl) (hdb : (x == ("__debug__" : Str)) = false := by decide) :
    SE X E (.Call (.Name x p) [e] [] pos) (fun sd => M.bind (fe sd) fun _ => M.pure (.ex x)) := by
  obtain ⟨t, pe, ke⟩ := he
  refine ⟨_, pe_exc1 PySem.F.excBase_ValueError h0.ok h0.gC h0.kC hg pe hs hdb, fun σ sd B ρ m H Q s rl w => ke σ sd B ρ m H _ s rl ?_⟩
  refine Wt.bind' (r := fe sd m) w fun d B1 ρ1 m1 H1 t1 s1 w1 v r a ha => ?_
  exact Wt.laid (E := E) s1 w1 ha ⟨a, rfl, upd_same⟩
theorem laid2 {Q : VK} {C g : Str} {d : D} {y : V} {a dx : Addr} (hs : Sim K B ρ m H) (w : Wt K B ρ H E (PD K Q) (.ok (.exA C g d) m)) (ry : Rep K B d y) (ha : H a = none) (hd : H dx = none) (ne : dx ≠ a) :
    Q (.ref a) (upd (upd H dx (exd dx [(g, y)])) a (exo a (He.ga K C) (some dx))) := by
  have s1 := hs.new (o := exd dx [(g, y)]) hd
  have ha1 : upd H dx (exd dx [(g, y)]) a = none := by rw [upd_ne (Ne.symm ne)]; exact ha
  have s2 := s1.new (o := exo a (He.ga K C) (some dx)) ha1
  have t1 : Ste B ρ H (upd B dx (exd dx [(g, y)])) ρ (upd H dx (exd dx [(g, y)])) := Ste.new hs.ex hd
  have t2 := t1.trans (Ste.new (o := exo a (He.ga K C) (some dx)) s1.ex ha1)
  refine Wt.ok' w t2 s2 _ ⟨a, dx, y, rfl, upd_same, ?_, ?_⟩
  · rw [upd_ne ne, upd_same]
  · exact Rep.mono t2.bb ry
theorem se_mkx {kk : Nat} {par attr : Str} (hI : ExI X.prog X.w X.K X.mg X.base kk x par attr) (hr : Room (kk + 1) X.A) (hx : Passes (L2.CX X.prog X.w) X (fun _ _ _ => False)) (he : SE X E e fe) (hg : Gl X x := by rfl)
    (hs : starEach [e] X.env = (false, eval e X.env) :: starEach [] X.env := by rfl) (hdb : (x == ("__debug__" : Str)) = false := by decide) :
    SE X E (.Call (.Name x p) [e] [] pos) (fun sd => M.bind (fe sd) fun d => M.pure (.exA x attr d)) := by
  obtain ⟨t, pe, ke⟩ := he
  obtain ⟨fI, fd, F1, T, iC, tI, hb, _⟩ := hI.ex
  refine ⟨_, pe_mkx F1 T iC tI hr hx hb hg hI.mgx (pa_cons pe pa_nil hs) hdb hs, fun σ sd B ρ m H Q s rl w => ke σ sd B ρ m H _ s rl ?_⟩
  refine Wt.bind' (r := fe sd m) w fun d B1 ρ1 m1 H1 t1 s1 w1 v r => ⟨v, rfl, fun a dx ha hd ne => laid2 s1 w1 r ha hd ne⟩
theorem se_mkxk {kk : Nat} {par attr : Str} {kpos : Pos} {nm : Option Str} (hI : ExI X.prog X.w X.K X.mg X.base kk x par attr) (hr : Room (kk + 1) X.A) (hx : Passes (L2.CX X.prog X.w) X (fun _ _ _ => False)) (he : SE X E e fe) (hg : Gl X x := by rfl)
    (hks : (backToKw pos (keywordEach [⟨nm, e, kpos⟩] X.env)).filterMap (·.1) = [par] := by rfl) (hall : (backToKw pos (keywordEach [⟨nm, e, kpos⟩] X.env)).all (·.1.isSome) = true := by rfl)
    (hdb : (x == ("__debug__" : Str)) = false := by decide) (hpl : ((backTo pos (starEach [] X.env)).any (·.1) || (backToKw pos (keywordEach [⟨nm, e, kpos⟩] X.env)).any (·.1.isNone)) = false := by rfl) :
    SE X E (.Call (.Name x p) [] [⟨nm, e, kpos⟩] pos) (fun sd => M.bind (fe sd) fun d => M.pure (.exA x attr d)) := by
  obtain ⟨t, pe, ke⟩ := he
  obtain ⟨fI, fd, F1, T, iC, tI, _, hb⟩ := hI.ex
  refine ⟨_, pe_mkxk F1 T iC tI hr hx hb hg hI.mgx (pk_cons pe pk_nil) hks hall hdb hpl, fun σ sd B ρ m H Q s rl w => ke σ sd B ρ m H _ s rl ?_⟩
  refine Wt.bind' (r := fe sd m) w fun d B1 ρ1 m1 H1 t1 s1 w1 v r => ⟨v, rfl, fun a dx ha hd ne => laid2 s1 w1 r ha hd ne⟩
theorem se_xa {Ls : List Str} (hX : XAs X.K Ls f) (he : SE X E e fe) (hb : attributeBase e f X.env (eval e X.env) = eval e X.env := by rfl) : SE X E (.Attribute e f pos) (fun sd => M.bind (fe sd) (getX Ls f)) := by
  obtain ⟨t, pe, ke⟩ := he
  refine ⟨_, pe_xa pe hb, fun σ sd B ρ m H Q s rl w => ke σ sd B ρ m H _ s rl ?_⟩
  refine Wt.bind' (r := fe sd m) w fun d B1 ρ1 m1 H1 t1 s1 w1 v r => ?_
  cases d with
  | exA C g d =>
    have w2 : Wt X.K B1 ρ1 H1 E (PD X.K Q) ((if g = f ∧ Ls.contains C = true then M.pure d else bad : M D) m1) := w1
    split at w2
    · rename_i hc
      obtain ⟨rfl, hc⟩ := hc
      obtain ⟨a, dx, y, rfl, r1, r2, r3⟩ := r
      obtain ⟨T, no⟩ := hX.x C hc
      exact ⟨a, _, dx, _, y, rfl, s1.ex _ _ r1, s1.ex _ _ r2, T, no, by simp [List.lookup], Wt.ok (E := E) (m := m1) w2 s1 _ r3⟩
    · exact w2.elim
  | _ => exact w1.elim
theorem isE_ok {Ls : List Str} {sub : Str → Str → Bool} (hX : ExCs X.K Ls sub) : C2 X E (rIsX X.K) (isE Ls sub) := by
  intro s1 s2 x y B ρ m H Q hs r1 r2 w
  cases s1 with
  | h n => exact w.elim
  | d d =>
    cases s2 with
    | h n => exact w.elim
    | d c =>
      have key : ∀ C, exC d = some C → Ls.contains C = true → ∃ a, x = .ref a ∧ (H a = some (ExO (.ref (He.ga X.K C)) a) ∨ ∃ dx fs, H a = some (exo a (He.ga X.K C) (some dx)) ∧ H dx = some (exd dx fs)) := by
        intro C e hc
        cases d with
        | ex C' =>
          cases e
          obtain ⟨a, h1, h2⟩ := r1
          exact ⟨a, h1, .inl (hs.ex _ _ h2)⟩
        | exA C' g y =>
          cases e
          obtain ⟨a, dx, y, h1, h2, h3, _⟩ := r1
          exact ⟨a, h1, .inr ⟨dx, _, hs.ex _ _ h2, hs.ex _ _ h3⟩⟩
        | _ => cases e
      have w2 : Wt X.K B ρ H E (PD X.K Q) ((match exC d with
        | some C => if Ls.contains C = true then isE2 Ls sub C c else bad
        | none => bad : M D) m) := w
      cases q : exC d with
      | none => rw [q] at w2; exact w2.elim
      | some C =>
        rw [q] at w2
        have w3 : Wt X.K B ρ H E (PD X.K Q) ((if Ls.contains C = true then isE2 Ls sub C c else bad : M D) m) := w2
        split at w3
        · rename_i hc
          obtain ⟨a, rfl, ha⟩ := key C q hc
          cases c with
          | gl z =>
            have w4 : Wt X.K B ρ H E (PD X.K Q) ((if Ls.contains z = true then M.pure (.bl (sub C z)) else bad : M D) m) := w3
            split at w4
            · rename_i hz
              have hy : y = .ref (He.ga X.K z) := r2
              subst hy
              exact ⟨a, _, _, .ref (He.ga X.K z), _, rfl, ha, hX.c C hc, fun u ru => ru, hX.s C z hc hz, Wt.ok (E := E) (m := m) w4 hs _ rfl⟩
            · exact w4.elim
          | ty n =>
            have w4 : Wt X.K B ρ H E (PD X.K Q) ((if n = "ValueError" then M.pure (.bl true) else bad : M D) m) := w3
            split at w4
            · rename_i hz
              subst hz
              have hy : y = .ty "ValueError" := r2
              subst hy
              exact ⟨a, _, _, .type "ValueError", _, rfl, ha, hX.c C hc, fun u ru => ru, hX.v C hc, Wt.ok (E := E) (m := m) w4 hs _ rfl⟩
            · exact w4.elim
          | _ => exact w3.elim
        · exact w3.elim
/-! ### dicts written out -/
theorem se_dict0 : SE X E (.Dict [] [] pos) (fun _ => M.pure (.dk [])) := ⟨_, pe_dnewK, fun σ sd B ρ m H Q s rl w p hp => Wt.laid (E := E) s w hp ⟨p, [], rfl, upd_same, rfl⟩⟩
theorem se_dict1 {j} (he : SE X E e fe) : SE X E (.Dict [some (.Constant (.str k) j p2)] [e] pos) (fun sd => M.bind (fe sd) fun d => M.pure (.dk [(.inr k, d)])) := by
  obtain ⟨t, pe, ke⟩ := he
  refine ⟨_, pe_disp (pps_cons pe_str pe pps_nil) rfl rfl (by simp) (by simp), fun σ sd B ρ m H Q s rl w p hp => ?_⟩
  have stp : Ste B ρ H B ρ (upd H p (.dK [])) := Ste.newH hp
  have sp := s.newH (o := .dK []) hp
  refine ke σ sd B ρ m _ _ sp (rl.ste stp) ?_
  refine Wt.bindT (r := fe sd m) stp w fun d B1 ρ1 m1 H1 t1 s1 w1 v r => ?_
  have hnp : ¬ own ρ p := s.nown hp
  have hB := s.bnone hp
  obtain ⟨b1, b2, b3⟩ := comp_turn t1 hB hnp upd_same
  refine ⟨b3, [(.inr k, v)], rfl, (by show 1 ≤ 15; decide), ?_⟩
  have s2 := s1.chH (o := .dK [(.inr k, v)]) b1 b2
  have s3 := s2.still b1 upd_same b2
  exact Wt.ok' (E := E) (m := m1) w1 (((stp.trans t1).ch hp).still hp b1) s3 _ ⟨p, [(.inr k, v)], rfl, upd_same, v, [], rfl, Rep.mono (Sub.upd b1) r, rfl⟩
end
end Mi

set_option Elab.async false
set_option linter.all false
set_option maxRecDepth 100000
set_option maxHeartbeats 4000000
/-! The layer Mi: repr of data. -/
namespace Mi
open PySem PySem.Spec PyProof.Rows L2
def keyP : Key → PyData
  | .inl i => .int i
  | .inr x => .str x
mutual
/-- as the library's data, dicts too -/
def toQ : D → PyData
  | .non => .none
  | .bl b => .bool b
  | .int i => .int i
  | .str x => .str x
  | .lst ds => .list (toQL ds)
  | .tup ds => .tuple (toQL ds)
  | .dk kvs => .dict (toQK kvs)
  | _ => .none
def toQL : List D → List PyData
  | [] => []
  | d :: ds => toQ d :: toQL ds
def toQK : List (Key × D) → List (PyData × PyData)
  | [] => []
  | (k, d) :: ds => (keyP k, toQ d) :: toQK ds
end
mutual
def okQ : D → Bool
  | .non | .bl _ | .int _ | .str _ => true
  | .lst ds | .tup ds => okQL ds
  | .dk kvs => okQK kvs
  | _ => false
def okQL : List D → Bool
  | [] => true
  | d :: ds => okQ d && okQL ds
def okQK : List (Key × D) → Bool
  | [] => true
  | (_, d) :: ds => okQ d && okQK ds
end
section
variable {P : Program} {w : World} {K : PySem.W.Frag} {H : Hp} {h : Heap}
theorem key_reads {prog : Program} {w : World} {k : Key} {v : Value} (hk : (mixKind prog w).is k v = true) {h : Heap} : Reads h v (keyP k) [] := by
  rcases keyIs_shape (show keyIs k v = true from hk) with ⟨i, t, rfl, rfl⟩ | ⟨x, t, rfl, rfl⟩
  · exact .int i t
  · exact .str x t
theorem kv_split {prog : Program} {w : World} {h : Heap} : ∀ {es : List DictEntry} {vs : List (Key × Value)}, Pairs (mixKind prog w) es vs → ∀ {kvs : List (Key × V)}, KV kvs vs → (∃ as, ReadsAll h (es.map (·.key)) (kvs.map fun p => keyP p.1) as ∧ sysModules ∉ as) ∧ Vals (kvs.map (·.2)) (es.map (·.val)) := by
  intro es vs p
  induction p with
  | nil =>
    intro kvs r
    cases r
    exact ⟨⟨[], .nil, by simp⟩, .nil⟩
  | @cons e kv es kvs hk hv hp ih =>
    intro ks r
    cases r with
    | @cons a b as bs r1 rr =>
      obtain ⟨e1, e2⟩ := r1
      obtain ⟨⟨bs, g1, g3⟩, g2⟩ := ih rr
      rw [← e1] at hk
      rw [← hv] at e2
      exact ⟨⟨[] ++ bs, .cons (key_reads hk) g1, g3⟩, .cons e2 g2⟩
mutual
theorem Rep.rds (hok : HOk P w H h) (hm : H sysModules = none) : ∀ {d : D} {v : V} {u : Value}, Rep K H d v → okQ d = true → RelV v u → ∃ as, Reads h u (toQ d) as ∧ sysModules ∉ as
  | .non, _, _, r, _, ru => by
    cases (show _ = V.non from r)
    cases (show _ = Value.none from ru)
    exact ⟨[], .none, by simp⟩
  | .bl b, _, _, r, _, ru => by
    cases (show _ = V.bl b from r)
    cases (show _ = Value.bool b from ru)
    exact ⟨[], .bool b, by simp⟩
  | .int i, _, _, r, _, ru => by
    cases (show _ = V.int i from r)
    obtain ⟨t, rfl⟩ := ru
    exact ⟨[], .int i t, by simp⟩
  | .str x, _, _, r, _, ru => by
    cases (show _ = V.str x from r)
    obtain ⟨t, rfl⟩ := ru
    exact ⟨[], .str x t, by simp⟩
  | .lst ds, _, _, r, c, ru => by
    obtain ⟨a, xs, rfl, h1, h2⟩ := r
    cases (show _ = Value.ref a from ru)
    obtain ⟨_, its, n, rv, ho⟩ := hok a _ h1
    obtain ⟨as, g1, g2⟩ := RepL.rds hok hm h2 c rv
    refine ⟨a :: as, .list ho rfl rfl g1, fun z => ?_⟩
    rcases List.mem_cons.mp z with z | z
    · rw [z, h1] at hm
      cases hm
    · exact g2 z
  | .tup ds, _, _, r, c, ru => by
    obtain ⟨a, xs, rfl, h1, h2⟩ := r
    cases (show _ = Value.ref a from ru)
    obtain ⟨_, its, rv, ho⟩ := hok a _ h1
    obtain ⟨as, g1, g2⟩ := RepL.rds hok hm h2 c rv
    obtain ⟨o, q1, q2, n, q3⟩ := ho
    exact ⟨as, .tuple q1 q2 q3 g1, g2⟩
  | .dk kvs, _, _, r, c, ru => by
    obtain ⟨a, ps, rfl, h1, h2⟩ := r
    cases (show _ = Value.ref a from ru)
    obtain ⟨_, hne, vs, kv, o, es, ep, ho, ex, dd, _, pr, _⟩ := hok a _ h1
    obtain ⟨⟨as, g1, g2⟩, g3⟩ := kv_split (h := h) pr kv
    obtain ⟨bs, g4, g5, e1⟩ := RepK.rds hok hm h2 c g3
    rw [e1] at g1
    refine ⟨a :: as ++ bs, .dict ho ex.1 dd g1 g4, fun z => ?_⟩
    rcases List.mem_append.mp z with z | z
    · rcases List.mem_cons.mp z with z | z
      · rw [← z, beq_self_eq_true] at hne
        cases hne
      · exact g2 z
    · exact g5 z
  | .ty _, _, _, _, c, _ => by cases c
  | .gl _, _, _, _, c, _ => by cases c
  | .scr _, _, _, _, c, _ => by cases c
  | .dt _, _, _, _, c, _ => by cases c
  | .rng _ _, _, _, _, c, _ => by cases c
  | .ob _ _, _, _, _, c, _ => by cases c
  | .ex _, _, _, _, c, _ => by cases c
  | .exA _ _ _, _, _, _, c, _ => by cases c
theorem RepL.rds (hok : HOk P w H h) (hm : H sysModules = none) : ∀ {ds : List D} {xs : List V} {us : List Value}, RepL K H ds xs → okQL ds = true → Vals xs us → ∃ as, ReadsAll h us (toQL ds) as ∧ sysModules ∉ as
  | [], _, _, r, _, rv => by
    rw [show _ = [] from r] at rv
    cases rv
    exact ⟨[], .nil, by simp⟩
  | d :: ds, _, _, r, c, rv => by
    obtain ⟨x, xr, rfl, r1, r2⟩ := r
    obtain ⟨c1, c2⟩ := Bool.and_eq_true_iff.mp (show (okQ d && okQL ds) = true from c)
    cases rv with
    | cons ra rb =>
      obtain ⟨as, g1, g2⟩ := Rep.rds hok hm r1 c1 ra
      obtain ⟨bs, g3, g4⟩ := RepL.rds hok hm r2 c2 rb
      exact ⟨as ++ bs, .cons g1 g3, fun z => (List.mem_append.mp z).elim g2 g4⟩
theorem RepK.rds (hok : HOk P w H h) (hm : H sysModules = none) : ∀ {ds : List (Key × D)} {ps : List (Key × V)} {us : List Value}, RepK K H ds ps → okQK ds = true → Vals (ps.map (·.2)) us → ∃ as, ReadsAll h us ((toQK ds).map (·.2)) as ∧ sysModules ∉ as ∧ ps.map (fun p => keyP p.1) = (toQK ds).map (·.1)
  | [], _, _, r, _, rv => by
    rw [show _ = [] from r] at rv ⊢
    cases rv
    exact ⟨[], .nil, by simp, rfl⟩
  | (k, d) :: ds, _, _, r, c, rv => by
    obtain ⟨x, xr, rfl, r1, r2⟩ := r
    obtain ⟨c1, c2⟩ := Bool.and_eq_true_iff.mp (show (okQ d && okQK ds) = true from c)
    cases rv with
    | cons ra rb =>
      obtain ⟨as, g1, g2⟩ := Rep.rds hok hm r1 c1 ra
      obtain ⟨bs, g3, g4, g5⟩ := RepK.rds hok hm r2 c2 rb
      refine ⟨as ++ bs, .cons g1 g3, fun z => (List.mem_append.mp z).elim g2 g4, ?_⟩
      show keyP k :: _ = keyP k :: _
      rw [g5]
end
end
/-- repr of a list of data -/
def rReprL (K : PySem.W.Frag) : List V → Hp → VK → Prop := fun xs H Q => ∃ (a : Addr) (ds : List D), xs = [.ref a] ∧ Rep K H (.lst ds) (.ref a) ∧ okQ (.lst ds) = true ∧ (toQ (.lst ds)).showable = true ∧ (toQ (.lst ds)).shown.length ≤ sizeLine ∧ (toQ (.lst ds)).depth ≤ 40 ∧ Q (.str (toQ (.lst ds)).shown) H
theorem call_repr_lst {X : Cx} (hg : X.A.guards = some []) (hu : X.A.units + 64 < cLine) (hs : (X.K.lookup sysModules).isSome = true) : CallR X (.builtin "repr") (rReprL X.K) := by
  intro pins s σ H xs us Q I r h
  obtain ⟨a, ds, rfl, r1, c, sh, sz, dp, q⟩ := h
  cases r with
  | cons rx rr =>
    cases rr
    cases rx
    obtain ⟨o, ho⟩ := Option.isSome_iff_exists.mp hs
    have hm : H sysModules = none := (I.bs _ _ (I.ok.mod.kin _ _ ho)).2
    obtain ⟨as, g1, g2⟩ := r1.rds I.hok hm c rfl
    exact PySem.repr_of_reads' g1 sh (fun _ => g2) hg (by omega) (fun _ _ e => e) (fun h' u tk hk => ⟨.str _, H, I.kept (t' := tk) hk, ⟨_, rfl⟩, q⟩) sz
def reprS : S → M D
  | .d (.lst ds) => if okQ (.lst ds) = true ∧ (toQ (.lst ds)).showable = true ∧ (toQ (.lst ds)).shown.length ≤ 16777216 ∧ (toQ (.lst ds)).depth ≤ 40 then M.pure (.str (toQ (.lst ds)).shown) else bad
  | _ => bad
theorem reprS_ok {X : Cx} {E : XK} : C1 X E (rReprL X.K) reprS := by
  intro s v B ρ m H Q hs r w
  cases s with
  | h n => exact w.elim
  | d d =>
    cases d with
    | lst ds =>
      have w2 : Wt X.K B ρ H E (PD X.K Q) ((if okQ (.lst ds) = true ∧ (toQ (.lst ds)).showable = true ∧ (toQ (.lst ds)).shown.length ≤ 16777216 ∧ (toQ (.lst ds)).depth ≤ 40 then M.pure (.str (toQ (.lst ds)).shown) else bad : M D) m) := w
      split at w2
      · rename_i hc
        obtain ⟨c1, c2, c3, c4⟩ := hc
        have r' : Rep X.K H (.lst ds) v := Rep.mono hs.ex r
        obtain ⟨a, xs, rfl, z⟩ := r'
        exact ⟨a, ds, rfl, ⟨a, xs, rfl, z⟩, c1, c2, by rw [sl16]; exact c3, c4, Wt.ok (E := E) (m := m) w2 hs _ rfl⟩
      · exact w2.elim
    | _ => exact w.elim
end Mi

set_option Elab.async false
set_option linter.all false
set_option maxRecDepth 100000
set_option maxHeartbeats 4000000
/-! The layer Mi: the law's def where no repr is under way; the head's facts widened by one more test. -/
namespace Mi
open PySem PySem.Spec PyProof.Rows L2
/-- a run of f under the given surroundings -/
def RunAt (P : Program) (w : World) (K : PySem.W.Frag) (mg : Str → Option Value) (base : Heap) (CX : CXT) (A : Around) (f : Addr) (fd : FuncData) (ps : List Str) (sp : Sp) : Prop :=
  ∀ (outer : List Env) (s : Shared) (H : Hp) (args : Args) (us : List Value) (vs : List V) (Q : VK) (E : XK), Env0 P w K mg base A outer s H → BindsTo s fd args (ps.zip us) → Vals vs us → sp vs H Q E →
    codeAny (model P w) A (.call (.ref f) args) (CR CX outer P w H s Q E) s
section
variable {P : Program} {w : World} {K : PySem.W.Frag} {mg : Str → Option Value} {base : Heap} {x qual : Str} {params : Arguments} {body : List Stmt} {scope : Scope} {dvs : List V} {kws : List (Str × V)} {f : Addr} {fd : FuncData}
theorem run_at {CX : CXT} {A : Around} {N ps : List Str} {k : Nat} {sp : Sp} (hr : Room (k + 1) A) (F : FunD K x qual params body scope dvs kws f fd) (SC : FnScope N ps scope) (len : ∀ vs H Q E, sp vs H Q E → vs.length = ps.length)
    (hbody : ∀ (cdv : Value) (outer : List Env) (s : Shared) (H : Hp) (vs : List V) (Q : VK) (E : XK), Room k (A.deeper (envOfC qual scope s.heap.objs.size f cdv)) → sp vs H Q E →
      ∃ t, PSs (cxOf CX P w K mg base N qual scope f cdv A outer s H E) body t ∧ t { nx := fun _ H' => Q .non H', rt := Q } (L2.start N vs) H) : RunAt P w K mg base CX A f fd ps sp := by
  obtain ⟨oc, od, dV, kV, doc, pm, an, cdv, ct, osl, rfl, lk, hcd, _, _⟩ := F.ex
  intro outer s H args us vs Q E e0 hb r hsp
  have hl := len _ _ _ _ hsp
  have KX : K.In s.heap := e0.mod.kin.keeps fun b o e => (e0.bs b o e).1
  have lim : s.heap.NoLimit := e0.mod.nolimit.keeps fun b o e => (e0.bs b o e).1
  have hk : ∀ y ∈ ps.zip us, scope.names.lookup y.1 = some .local ∨ (scope.names.lookup y.1 = some .cell ∧ ((cellsFrom (s.heap.objs.size + 1) scope.names []).lookup y.1).isSome = true) := fun ⟨n, v⟩ hy => by
    rcases SC.par n (List.of_mem_zip hy).1 with q | q
    · exact .inl q
    · exact .inr ⟨q, PySem.W.cellsFrom_some _ _ _ (.inl q)⟩
  refine codeAny_call_function hr.depth (KX _ _ lk) rfl SC.co SC.gen rfl (PySem.W.codeRec_of KX hcd) (hb _ _ _ _ ?_)
  refine wpAny_newFunctionEnv_cells SC.kind hk fun env he s1 z => ?_
  subst he
  refine ⟨lim.keeps z.toInCall.keep, codeAny_func ?_⟩
  obtain ⟨t, ht, hq⟩ := hbody cdv outer s H vs Q E (hr.deeper _) hsp
  have I : Inv (cxOf CX P w K mg base N qual scope f cdv A outer s H E) [] (L2.start N vs) H s1 := inv_start SC hr.hd e0 hl r z
  refine wpAny_mono (ht.run [] s1 (L2.start N vs) H _ I hq) (fun fl s' hs => ?_) fun e s' hs => hs
  have fin : ∀ {σ' : L2.St} {H' : Hp} {v : V} {u : Value}, Inv (cxOf CX P w K mg base N qual scope f cdv A outer s H E) [] σ' H' s' → RelV v u → Q v H' → CE outer P w H s Q u s' :=
    fun {σ' H' v u} J rv q => ⟨v, H', J.os, J.bare, J.base, J.hok, rv, q⟩
  cases fl with
  | ret u =>
    obtain ⟨v, σ', H', J, rv, q⟩ := hs
    exact fin J rv q
  | next =>
    obtain ⟨σ', H', J, q⟩ := hs
    exact fin (v := V.non) (u := Value.none) J rfl q
  | brk =>
    obtain ⟨_, _, _, q⟩ := hs
    exact False.elim q
  | cont =>
    obtain ⟨_, _, _, q⟩ := hs
    exact False.elim q
end
theorem law_at {P : Program} {w : World} {K : PySem.W.Frag} {mg mb : Str → Option Value} {CX : CXT} {fa a : Addr} {fd : FuncData} {x : Str} {sp : Sp} {s₁ : Shared} {vs : List Value} {ns : List Int}
    (KX : K.In s₁.heap) (hns : s₁.heap.Ns mainGlobals mg) (hb : s₁.heap.Ns builtinsNs mb) (hbb : ∀ x : Str, x ≠ "__name__" → mb x = bootBuiltins x) (hlim : s₁.heap.NoLimit) (hg : s₁.gens = #[])
    (ha : s₁.heap.get? a = some { cls := .type "list", data := .seq vs.toArray }) (hi : IntsAre vs ns) (hl : ns.length ≤ sizeLine)
    (F : ∀ base : Heap, K.In base → base.Ns mainGlobals mg → RunAt P w K mg base CX callerA fa fd [x] sp) (hbind : ∀ (s : Shared) (u : Value), BindsTo s fd ⟨[u], []⟩ [(x, u)])
    (hsp : ∀ H : Hp, Only H → SqL K H a (ns.map V.int) → sp [.ref a] H (fun v _ => v = .bl true) fun _ _ _ => False)
    (hCX : ∀ H e s', CX [] H s₁ (fun _ _ _ => False) e s' → False) :
    codeAny (model P w) callerA (.call (.ref fa) ⟨[.ref a], []⟩) (fun r s' => r = .ok (.ret (.bool true)) ∧ OldK s₁.heap s'.heap ∧ s'.os = s₁.os ∧ AllBare s'.gens) s₁ := by
  have rv := vals_ints hi
  have lenV := hi.length
  have core : ∀ H : Hp, Only H → SqL K H a (ns.map V.int) → HOk P w H s₁.heap → (∀ b, H b ≠ none → b = a) → (H a ≠ none → K.lookup a = none) →
      codeAny (model P w) callerA (.call (.ref fa) ⟨[.ref a], []⟩) (fun r s' => r = .ok (.ret (.bool true)) ∧ OldK s₁.heap s'.heap ∧ s'.os = s₁.os ∧ AllBare s'.gens) s₁ := by
    intro H hO hS hok hA hK
    have bo : ∀ {b : Addr} {o : Obj}, s₁.heap.get? b = some o → H b = none → (hidT s₁.heap H).get? b = some o := fun e n => hidT_get e n
    have nA : ∀ {b : Addr} {o : Obj} {es : Array DictEntry} {ep : Nat}, s₁.heap.get? b = some o → o.data = .dict es ep → H b = none := fun {b o es ep} e d => by
      cases q : H b with
      | none => rfl
      | some u =>
        have e' : b = a := hA b (by rw [q]; simp)
        subst e'
        rw [ha] at e; cases e
        have d' : Data.seq vs.toArray _ = Data.dict es ep := d
        cases d'
    have nsK : ∀ {b : Addr} {m : Str → Option Value}, s₁.heap.Ns b m → (hidT s₁.heap H).Ns b m := fun {b m} ⟨o, es, ep, e, d, r⟩ => ⟨o, es, ep, bo e (nA e d), d, r⟩
    have hKb : K.In (hidT s₁.heap H) := fun b o e => bo (KX b o e) (by
      cases q : H b with
      | none => rfl
      | some u =>
        have e' : b = a := hA b (by rw [q]; simp)
        subst e'
        rw [hK (by rw [q]; simp)] at e; cases e)
    have hM : Mod K mg (hidT s₁.heap H) := ⟨hKb, nsK hns, ⟨mb, nsK hb, hbb⟩, let ⟨mc, h1, h2⟩ := hlim; ⟨mc, nsK h1, h2⟩⟩
    have e0 : Env0 P w K mg (hidT s₁.heap H) callerA [] s₁ H := ⟨rfl, hM, fun b o e => of_hidT e, Nat.le_of_eq (hidT_size _ _), trivial, fun b hb => absurd (show b ∈ ([] : List Addr) from hb) (by simp), hok, .of_eq hg⟩
    refine codeAny_mono (F _ hKb (nsK hns) [] s₁ H ⟨[.ref a], []⟩ [.ref a] [.ref a] _ _ e0 (hbind s₁ (.ref a)) (.cons rfl .nil) (hsp H hO hS)) fun r s' h => ?_
    cases r with
    | error e => exact (hCX H e s' h).elim
    | ok fl =>
      cases fl with
      | next => exact False.elim h
      | brk => exact False.elim h
      | cont => exact False.elim h
      | ret u =>
        obtain ⟨v, H', os, bare, un, hok', r', q⟩ := h
        have q' : v = .bl true := q
        subst q'
        obtain rfl : u = Value.bool true := r'
        refine ⟨rfl, OldK.of_keep fun b o e => ?_, os, bare⟩
        cases q : H b with
        | none => exact un.keep b o e q (by intro z; exact absurd (show b ∈ ([] : List Addr) from z) (by simp)) (by simp)
        | some u =>
          rcases hO b with z | ⟨ob, xs, z⟩
          · rw [q] at z; cases z
          · have z2 := un.frzs b ob _ z
            obtain ⟨e1, _⟩ := hok b _ z
            obtain ⟨e2, _⟩ := hok' b _ z2
            rw [e] at e1; cases e1
            exact e2
  cases hk : K.lookup a with
  | some o =>
    have e := KX a o hk
    rw [ha] at e
    cases e
    refine core (fun _ => none) (fun _ => .inl rfl) (.inr ⟨_, vs.toArray, _, hk, rfl, rfl, rfl, by rw [List.size_toArray, lenV]; exact hl, by simpa using rv⟩) (fun b u z => by have z' : (none : Option HO) = some u := z; cases z') (fun b z => absurd rfl z) fun z => absurd rfl z
  | none =>
    refine core (fun b => if b = a then some (.frz { cls := .type "list", data := .seq vs.toArray } (.lst (ns.map V.int))) else none) (fun b => ?_) (.inl (.inr ⟨{ cls := .type "list", data := .seq vs.toArray }, if_pos rfl⟩)) (fun b u z => ?_) (fun b z => ?_) fun _ => hk
    · by_cases hb : b = a
      · exact .inr ⟨_, _, if_pos hb⟩
      · exact .inl (if_neg hb)
    · by_cases hb : b = a
      · have z' := (if_pos hb).symm.trans z
        cases z'
        subst hb
        exact ⟨ha, by rw [List.length_map]; exact hl, vs, _, rv, ha⟩
      · have z' := (if_neg hb).symm.trans z
        cases z'
    · by_cases hb : b = a
      · exact hb
      · exact absurd (if_neg hb) z
theorem walk_at {l : PySem.W.OpenLaw} {n : Nat} {q : Program} {loose : List Str} {XP : (Str → Option Value) → Heap → Prop} {YP : World → Heap → Prop} {d : DefRec} {CX : World → CXT} {x : Str}
    (hn : l.most = some n) (hn2 : n ≤ sizeLine) (hdf : d.params.defaults = [])
    (F : ∀ (w : World) (mg : Str → Option Value) (fa : Addr) (h : Heap), YP w h → h.Ns mainGlobals mg → mg d.name = some (.ref fa) →
      ∃ (K : PySem.W.Frag) (fd : FuncData) (sp : Sp), K.In h ∧ (∀ (s : Shared) (u : Value), BindsTo s fd ⟨[u], []⟩ [(x, u)]) ∧
        (∀ (H : Hp) (a : Addr) (ns : List Int), ns.length ≤ n → Only H → SqL K H a (ns.map V.int) → sp [.ref a] H (fun v _ => v = .bl true) fun _ _ _ => False) ∧
        ∀ base : Heap, K.In base → base.Ns mainGlobals mg → RunAt l.prog w K mg base (CX w) callerA fa fd [x] sp)
    (hCX : ∀ (w : World) (H : Hp) (s : Shared) (e : Value) (s' : Shared), CX w [] H s (fun _ _ _ => False) e s' → False) :
    PySem.W.WalkO q loose XP YP l.row.toRowW d [] (fun f vs => PySem.call f vs) := by
  refine Att.attach_call hn hdf fun w s₀ s₁ mg mb fa o pm cd doc a vs ns G Y ho hd hcd hmg hobj hints hlen hg => ?_
  obtain ⟨K, fd, sp, KX, hb, hsp, hF⟩ := F w mg fa _ Y G.T.g hmg
  exact law_at KX G.T.g G.T.b G.T.builtins G.T.nolimit hg hobj hints (Nat.le_trans hlen hn2) hF hb (fun H hO hS => hsp H a ns hlen hO hS) fun H e s' => hCX w H s₁ e s'
theorem cx_none {P : Program} {w : World} {outer : List Env} {H : Hp} {s s' : Shared} {e : Value} (z : L2.CX P w outer H s (fun _ _ _ => False) e s') : False := by
  obtain ⟨_, _, _, _, _, _, _, _, _, _, _, _, q⟩ := z
  exact q
/-! ### the hook -/
/-- two objects that no name leads to, beside what the names reach -/
def asY (g : Addr → Option Obj) (n : Nat) : List Addr := cStatics :: sysModules :: He.asD g n
abbrev AlY (β : Type) : Type := He.AlD × β
def obsYG {β : Type} (n : Nat) (fa : List He.Fa) (fn : List He.DefD) (more : PySem.W.Frag → β) (g : Addr → Option Obj) : AlY β := (He.obsD fa fn (He.frG g (asY g n)), more (He.frG g (asY g n)))
def hookY {β : Type} (n : Nat) (fa : List He.Fa) (fn : List He.DefD) (more : PySem.W.Frag → β) (due : β) : PySem.W.Hook where
  α := AlY β
  obs := fun s => obsYG n fa fn more s.heap.get?
  val := fun _ => (He.valD fn, due)
  says := fun _ h => ∃ K : PySem.W.Frag, K.In h ∧ He.SaysD fa fn K ∧ more K = due
  of := fun _ _ e => ⟨_, He.frG_in, congrArg Prod.fst e, congrArg Prod.snd e⟩
  keeps := fun _ _ _ ⟨K, hK, c⟩ k => ⟨K, PySem.W.Frag.In.keeps hK k, c⟩
theorem obsYG_eq {β : Type} {n : Nat} {fa : List He.Fa} {fn : List He.DefD} {more : PySem.W.Frag → β} {due : β} {g : Addr → Option Obj} {s : Shared} (h : ∀ a, g a = s.heap.get? a) : obsYG n fa fn more g = (hookY n fa fn more due).obs s := by
  have e : g = s.heap.get? := funext h
  rw [e] <;> rfl
end Mi

set_option Elab.async false
set_option linter.all false
set_option maxRecDepth 100000
set_option maxHeartbeats 4000000
/-! The layer Mi: what the head says of exception classes with and without an own __init__. -/
namespace Mi
open PySem PySem.Spec PyProof.Rows L2
def oexB (K : PySem.W.Frag) (C : Addr) : Bool := (match K.lookup C with
  | some ⟨.type "type", _, .cls cd, sl⟩ => (match cd.mro, sl.toList with
    | .ref C' :: bm, [_, _, _, _, some (.builtin n), _] => decide (C' = C) && (decide (n = "ValueError.__new__") && (!cd.hasDel && (cd.hasDict && PySem.HandSPX.refsVE bm)))
    | _, _ => false)
  | _ => false) && (decide (PySem.W.findIn K (.ref C) "__setattr__" = some (some (.builtin "object.__setattr__"))) && (decide (PySem.W.subIn K (.ref C) (.type "BaseException") = some true) &&
    (decide (PySem.W.typeIn K (.ref C) = some (.type "type")) && PySem.W.keepIn K (.ref C))))
theorem ba {a b : Bool} (h : (a && b) = true) : a = true ∧ b = true := Bool.and_eq_true_iff.mp h
theorem oexB_ok {K : PySem.W.Frag} {C : Addr} (h : oexB K C = true) : OexC K C := by
  obtain ⟨h1, h⟩ := ba h
  obtain ⟨h2, h⟩ := ba h
  obtain ⟨h3, h⟩ := ba h
  obtain ⟨h4, h5⟩ := ba h
  refine ⟨?_, of_decide_eq_true h2, of_decide_eq_true h3, of_decide_eq_true h4, h5⟩
  split at h1
  · rename_i dd cd sl ho
    split at h1
    · rename_i C' bm k0 k1 k2 k3 n k5 hm hs
      obtain ⟨g1, h1⟩ := ba h1
      obtain ⟨g2, h1⟩ := ba h1
      obtain ⟨g3, h1⟩ := ba h1
      obtain ⟨g4, g5⟩ := ba h1
      have g1 := of_decide_eq_true g1
      have g2 := of_decide_eq_true g2
      obtain ⟨nm, bs, mro, ns, qn, hd, sn, sub, ab, col, del⟩ := cd
      dsimp only at hm g3 g4
      have g3 : del = false := by simpa using g3
      subst hm g1 g2 g3 g4
      have hsl : sl = #[k0, k1, k2, k3, some (.builtin "ValueError.__new__"), k5] := by
        obtain ⟨l⟩ := sl
        simp only at hs
        rw [hs]
      subst hsl
      exact ⟨nm, qn, ns, bs, bm, sn, sub, ab, col, dd, k0, k1, k2, k3, k5, ho, g5⟩
    · cases h1
  · cases h1
/-- an own __init__: the class's name, the parameter, the attribute, the text -/
structure InD where
  cls : Str
  par : Str
  attr : Str
  st : Stmt
abbrev InW : Type := Option (Str × Str × Arguments × FuncBody × Scope × Addr × List Str × Addr)
def inA (K : PySem.W.Frag) (C : Str) : Addr := He.ma K (He.ga K C) "__init__"
def inW (K : PySem.W.Frag) (C : Str) : InW := match K.lookup (inA K C) with
  | some ⟨_, _, .func fd, _⟩ => some (fd.name, fd.qualname, fd.params, fd.body, fd.scope, fd.globals, fd.closure.map (·.1), fd.builtins)
  | _ => none
def InD.qual (d : InD) : Str := d.cls ++ ".__init__"
def InD.val (q : Str → Str) (d : InD) : InW := some ("__init__", q d.cls, defArgs d.st, .stmts (defBody d.st), defScope d.st, mainGlobals, ["__class__"], builtinsNs)
def inB (P : Program) (K : PySem.W.Frag) (C attr : Str) : Bool := (match K.lookup (inA K C) with
  | some ⟨_, _, .func fd, _⟩ => (match fd.code, fd.closure, fd.defaults with
    | .ref cda, [(_, cc)], .none => (match K.lookup cda, K.lookup cc with
      | some ⟨_, _, .fields vs, _⟩, some ⟨_, _, .cell (some (.ref D)), _⟩ => (match (vs[2]? : Option Value) with
        | some (.str file _) => decide (D = He.ga K C) && ((P.main.file : Str) == file)
        | _ => false) && PySem.W.codeIn K (.ref cda) fd.qualname
      | _, _ => false)
    | _, _, _ => false)
  | _ => false) && (oexB K (He.ga K C) && (decide (PySem.W.nsIn K cStatics "thirdparty.any" = some none) && (decide (PySem.W.ks_superIn K (He.ga K C) (He.ga K C) "__init__" = some (some (.builtin "ValueError.__init__"))) &&
    (decide (PySem.W.subIn K (.ref (He.ga K C)) (.type "ValueError") = some true) && (decide (PySem.W.mroIn K (He.ga K C) (.ref (He.ga K C)) = some true) && (decide (PySem.W.findIn K (.ref (He.ga K C)) attr = some none) &&
    (decide (PySem.W.findIn K (.ref (He.ga K C)) "__init__" = some (some (.ref (inA K C)))) && (decide (PySem.W.typeIn K (.ref (inA K C)) = some (.type "function")) && decide (PySem.W.nsIn K mainGlobals C = some (some (.ref (He.ga K C)))))))))))) 
theorem inB_ok {P : Program} {K : PySem.W.Frag} {d : InD} {q : Str → Str} (h : inB P K d.cls d.attr = true) (e : inW K d.cls = d.val q) :
    ∃ fd, SupF P K "__init__" (q d.cls) (defArgs d.st) (defBody d.st) (defScope d.st) d.attr (inA K d.cls) (He.ga K d.cls) fd ∧ PySem.W.findIn K (.ref (He.ga K d.cls)) "__init__" = some (some (.ref (inA K d.cls))) ∧
      PySem.W.typeIn K (.ref (inA K d.cls)) = some (.type "function") ∧ PySem.W.nsIn K mainGlobals d.cls = some (some (.ref (He.ga K d.cls))) ∧
      ∃ kV doc pm an cda ct cc, fd = PySem.W.ksFn "__init__" (q d.cls) (defArgs d.st) (defBody d.st) (defScope d.st) .none kV doc pm an (.ref cda) ct cc := by
  obtain ⟨h1, h⟩ := ba h
  obtain ⟨h2, h⟩ := ba h
  obtain ⟨h3, h⟩ := ba h
  obtain ⟨h4, h⟩ := ba h
  obtain ⟨h5, h⟩ := ba h
  obtain ⟨h6, h⟩ := ba h
  obtain ⟨h7, h⟩ := ba h
  obtain ⟨h8, h⟩ := ba h
  obtain ⟨h9, h10⟩ := ba h
  unfold inW at e
  split at h1
  · rename_i oc od fd osl lk
    rw [lk] at e
    split at h1
    · rename_i cda nn cc hcode hclo hdfl
      split at h1
      · rename_i c1 c2 vs c3 c4 c5 D c6 lcd lcc
        obtain ⟨h11, h12⟩ := ba h1
        split at h11
        · rename_i file tf hvs
          obtain ⟨hD, hfile⟩ := ba h11
          have hD := of_decide_eq_true hD
          obtain ⟨n1, n2, n3, n4, n5, n6, n7, n8, n9, n10, n11, n12, n13, n14, n15⟩ := fd
          dsimp only at hcode hclo hdfl h12
          subst hcode hclo hdfl hD
          have e2 : (some (n1, n2, n3, n4, n5, n6, [nn], n15) : InW) = (some ((("__init__" : Str)), q d.cls, defArgs d.st, FuncBody.stmts (defBody d.st), defScope d.st, mainGlobals, [(("__class__" : Str))], builtinsNs) : InW) := e
          simp only [Option.some.injEq, Prod.mk.injEq, List.cons.injEq, and_true] at e2
          obtain ⟨e1, e2, e3, e4, e5, e6, e7, e8⟩ := e2
          subst e1 e2 e3 e4 e5 e6 e7 e8
          refine ⟨_, ⟨⟨oc, od, .none, n9, n10, n11, n12, cda, n14, cc, osl, rfl, lk, h12, ⟨_, _, _, lcc⟩, ⟨_, _, vs, _, file, tf, lcd, hvs, hfile⟩⟩, of_decide_eq_true h3, of_decide_eq_true h4, of_decide_eq_true h5, of_decide_eq_true h6, of_decide_eq_true h7, oexB_ok h2⟩, of_decide_eq_true h8, of_decide_eq_true h9, of_decide_eq_true h10, n9, n10, n11, n12, cda, n14, cc, rfl⟩
        · cases h11
      · cases h1
    · cases h1
  · cases h1
/-- isinstance, attributes -/
def excB (K : PySem.W.Frag) (C : Addr) : Bool := decide (PySem.W.findIn K (.ref C) "__getattribute__" = some (some (.builtin "BaseException.__getattribute__"))) && (decide (PySem.W.findIn K (.ref C) "__getattr__" = some none) &&
  (decide (PySem.W.subIn K (.ref C) (.type "BaseException") = some true) && (PySem.W.hasDictIn K C && (decide (PySem.W.findIn K (.ref C) "__class__" = some (some (.builtin "object.__class__"))) &&
  (decide (PySem.W.specialIn K (.builtin "object.__class__") "__get__" = some (some (.builtin "getset_descriptor.__get__"))) && (decide (PySem.W.takesIn K (.builtin "object.__class__") = some true) && decide (PySem.W.mroIn K C (.type "object") = some true)))))))
theorem excB_ok {K : PySem.W.Frag} {C : Addr} (h : excB K C = true) : ExcC K C := by
  obtain ⟨h1, h⟩ := ba h
  obtain ⟨h2, h⟩ := ba h
  obtain ⟨h3, h⟩ := ba h
  obtain ⟨h4, h⟩ := ba h
  obtain ⟨h5, h⟩ := ba h
  obtain ⟨h6, h⟩ := ba h
  obtain ⟨h7, h8⟩ := ba h
  exact ⟨of_decide_eq_true h1, of_decide_eq_true h2, of_decide_eq_true h3, h4, of_decide_eq_true h5, of_decide_eq_true h6, of_decide_eq_true h7, of_decide_eq_true h8⟩
def excsB (K : PySem.W.Frag) (Ls : List Str) (sub : Str → Str → Bool) : Bool := Ls.all fun C => excB K (He.ga K C) && (decide (PySem.W.kitOne K (.ref (He.ga K C)) (.type "ValueError") = some true) &&
  Ls.all fun z => decide (PySem.W.kitOne K (.ref (He.ga K C)) (.ref (He.ga K z)) = some (sub C z)))
theorem excsB_ok {K : PySem.W.Frag} {Ls : List Str} {sub : Str → Str → Bool} (h : excsB K Ls sub = true) : ExCs K Ls sub := by
  have at_ : ∀ C, Ls.contains C = true → excB K (He.ga K C) = true ∧ PySem.W.kitOne K (.ref (He.ga K C)) (.type "ValueError") = some true ∧ ∀ z, Ls.contains z = true → PySem.W.kitOne K (.ref (He.ga K C)) (.ref (He.ga K z)) = some (sub C z) := fun C hC => by
    have z := List.all_eq_true.mp h C (List.contains_iff_mem.mp hC)
    obtain ⟨h1, h2⟩ := ba z
    obtain ⟨h3, h4⟩ := ba h2
    exact ⟨h1, of_decide_eq_true h3, fun z hz => of_decide_eq_true (List.all_eq_true.mp h4 z (List.contains_iff_mem.mp hz))⟩
  exact ⟨fun C hC => excB_ok (at_ C hC).1, fun C z hC hz => (at_ C hC).2.2 z hz, fun C hC => (at_ C hC).2.1⟩
def xasB (K : PySem.W.Frag) (Ls : List Str) (f : Str) : Bool := Ls.all fun C => xfB K (He.ga K C) && decide (PySem.W.findIn K (.ref (He.ga K C)) f = some none)
theorem xasB_ok {K : PySem.W.Frag} {Ls : List Str} {f : Str} (h : xasB K Ls f = true) : XAs K Ls f := ⟨fun C hC => by
  obtain ⟨h1, h2⟩ := ba (List.all_eq_true.mp h C (List.contains_iff_mem.mp hC))
  exact ⟨xfB_ok h1, of_decide_eq_true h2⟩⟩
end Mi

set_option Elab.async false
set_option linter.all false
set_option maxRecDepth 100000
set_option maxHeartbeats 4000000
/-! The layer Mi: the promise of an own __init__ from the head's facts. -/
namespace Mi
open PySem PySem.Spec PyProof.Rows L2
abbrev dk1 (k : Str) (fe : SD → M D) : SD → M D := fun sd => M.bind (fe sd) fun d => M.pure (.dk [(.inr k, d)])
abbrev mkE (C : Str) (fe : SD → M D) : SD → M D := fun sd => M.bind (fe sd) fun _ => M.pure (.ex C)
abbrev mkX (C f : Str) (fe : SD → M D) : SD → M D := fun sd => M.bind (fe sd) fun d => M.pure (.exA C f d)
abbrev callX (n : Nat) (F : List S → M S) (gs : SD → M (List S)) : SD → M S := fun sd => M.bind (gs sd) fun ss => argNX n F ss
theorem exI_of {P : Program} {w : World} {K : PySem.W.Frag} {mg : Str → Option Value} {base : Heap} {d : InD} {q : Str → Str} {msg : Str} {k : Nat} {p0 p1 p2 p3 p4 p5 p6 p7 p8 p9 : Pos} {j : Nat} {ar : Arg}
    (hh : ∃ h : Heap, K.In h ∧ h.Ns mainGlobals mg) (hB : inB P K d.cls d.attr = true) (hW : inW K d.cls = d.val q) (hmg : mg "super" = none)
    (hbody : defBody d.st = [.Expr (.Call (.Attribute (.Call (.Name "super" p0) [] [] p1) "__init__" p2) [.Constant (.str msg) j p3] [] p4) p5, .Assign [.Attribute (.Name "self" p6) d.attr p7] (.Name d.par p8) p9])
    {pl : Env → Sem Bool} (he : ∀ env : Env, eval (.Call (.Attribute (.Call (.Name "super" p0) [] [] p1) "__init__" p2) [.Constant (.str msg) j p3] [] p4) env = (do
      let ov ← attributeBase (.Call (.Name "super" p0) [] [] p1) "__init__" env (eval (.Call (.Name "super" p0) [] [] p1) env)
      standAt p2.atName
      let (f, first) ← holding [ov] (getMethod ov "__init__" (pl env))
      callWith p4 f first (backTo p4 (starEach [.Constant (.str msg) j p3] env)) []))
    (hsw1 : ∀ env : Env, swapsWith (.Call (.Attribute (.Call (.Name "super" p0) [] [] p1) "__init__" p2) [.Constant (.str msg) j p3] [] p4) none p5.line env = pure false)
    (hsw2 : ∀ env : Env, swapsWith (.Name d.par p8) (some (.Attribute (.Name "self" p6) d.attr p7)) p9.line env = pure false)
    (hp : ((defArgs d.st).posonlyargs ++ (defArgs d.st).args).head? = some ar) (har : ar.arg = "self") (hpar : d.par ≠ "self") (hpd : (d.par == ("__debug__" : Str)) = false)
    (htop : (P.main.scope.names.lookup ("super" : Str)).isSome = false) (hks : (defScope d.st).names.lookup ("super" : Str) = some .globalImplicit) (hkc : (defScope d.st).names.lookup ("__class__" : Str) = some .free)
    (hls : (defScope d.st).names.lookup ("self" : Str) = some .local) (hlp : (defScope d.st).names.lookup d.par = some .local) (hcell : ∀ x ∈ (defScope d.st).names, x.2 ≠ .cell) (hco : (defScope d.st).isCoroutine = false) (hgen : (defScope d.st).isGenerator = false) (hk : (defScope d.st).kind = .function)
    (b1 : ∀ (kV doc pm : Value) (an : Option Addr) (cda : Addr) (ct : Value) (cc : Addr) (u v : Value), bindArgs (PySem.W.ksFn "__init__" (q d.cls) (defArgs d.st) (defBody d.st) (defScope d.st) .none kV doc pm an (.ref cda) ct cc) ⟨[u, v], []⟩ = pure [((("self" : Str)), u), (d.par, v)])
    (b2 : ∀ (kV doc pm : Value) (an : Option Addr) (cda : Addr) (ct : Value) (cc : Addr) (u v : Value), bindArgs (PySem.W.ksFn "__init__" (q d.cls) (defArgs d.st) (defBody d.st) (defScope d.st) .none kV doc pm an (.ref cda) ct cc) ⟨[u], [(d.par, v)]⟩ = pure [((("self" : Str)), u), (d.par, v)]) :
    ExI P w K mg base (k + 1) d.cls d.par d.attr := by
  obtain ⟨fd, F, h1, h2, h3, kV, doc, pm, an, cda, ct, cc, hfd⟩ := inB_ok hB hW
  rw [hbody] at F
  refine ⟨⟨inA K d.cls, fd, init_fn F he hsw1 hsw2 hp har hpar hpd htop hmg hks hkc hls hlp hcell hco hgen hk, F.T, h1, h2, ?_, ?_⟩, hh.elim fun _ p => PySem.W.mg_of p.1 p.2 h3⟩
  · subst hfd
    refine Binds.all fun us hl => ?_
    match us, hl with
    | [u, v], _ => exact b1 kV doc pm an cda ct cc u v
  · subst hfd
    intro s a u _
    exact .of_eq (b2 kV doc pm an cda ct cc (.ref a) u)
end Mi

set_option Elab.async false
set_option linter.all false
set_option maxRecDepth 100000
set_option maxHeartbeats 4000000
/-! The layer Mi: the law's def by its function, where no repr is under way. -/
namespace Mi
open PySem PySem.Spec PyProof.Rows L2
theorem fn_at {P : Program} {w : World} {K : PySem.W.Frag} {mg : Str → Option Value} {base : Heap} {A : Around} {x qual : Str} {params : Arguments} {body : List Stmt} {scope : Scope} {f : Addr} {fd : FuncData} {N ps : List Str} {k : Nat} {g : SD → M Fl} (hr0 : Room (k + 1) A)
    (F : FunD K x qual params body scope [] [] f fd) (SC : FnScope N ps scope)
    (hb : ∀ (cdv : Value) (outer : List Env) (s : Shared) (H : Hp) (E : XK), Room k (A.deeper (envOfC qual scope s.heap.objs.size f cdv)) → SSs (cxOf (L2.CX P w) P w K mg base N qual scope f cdv A outer s H E) E body g) :
    RunAt P w K mg base (L2.CX P w) A f fd ps (spF K ps.length (fnM N.length g)) := by
  refine run_at hr0 F SC (fun vs H Q E h => ?_) (fun cdv outer s H vs Q E hr h => ?_)
  · obtain ⟨B, ρ, m, ss, h1, h2, h3, h4⟩ := h
    rw [h2.length, h3]
  · obtain ⟨B, ρ, m, ss, h1, h2, h3, h4⟩ := h
    obtain ⟨t, p, kk⟩ := hb cdv outer s H E hr
    refine ⟨t, p, kk _ _ (ss.map some ++ List.replicate (N.length - ss.length) none) B ρ m H h1 ?_ ?_⟩
    · unfold L2.start
      rw [h2.length]
      exact h2.start _
    · have tr : ∀ {B' : Hp} {ρ' : Rho} {H' : Hp} {m' : Mem}, Ste B ρ H B' ρ' H' → Sim K B' ρ' m' H' → Sim K B' ρ (m'.take m.length) H' := fun {B' ρ' H' m'} t s => by
        obtain ⟨more, e⟩ := t.rr
        subst e
        rw [← h1.len]
        exact s.trunc
      unfold fnM at h4
      cases q : g (ss.map some ++ List.replicate (N.length - ss.length) none) m with
      | ok fl m' =>
        rw [q] at h4
        cases fl with
        | rt d => exact fun B' ρ' H' t s v r => h4 B' ρ H' t.trunc (tr t s) v r
        | nx sd => exact fun B' ρ' H' t s σ' _ => h4 B' ρ H' t.trunc (tr t s) .non rfl
        | bk sd => exact h4.elim
        | ct sd => exact h4.elim
      | exc c fs m' =>
        rw [q] at h4
        exact fun B' ρ' H' dx t s e => h4 B' ρ H' dx t.trunc (tr t s) e
      | bad =>
        rw [q] at h4
        exact h4.elim
/-- the law's own promise: True at this script -/
theorem sp_true {K : PySem.W.Frag} {F : List S → M D} {H : Hp} {a : Addr} {ns : List Int} {m' : Mem} (hS : SqL K H a (ns.map V.int)) (hO : ∀ b o, H b = some o → True) (e : F [.d (.scr ns)] [] = .ok (.bl true) m') :
    spF K 1 F [.ref a] H (fun v _ => v = .bl true) fun _ _ _ => False := by
  refine ⟨H, [], [], [.d (.scr ns)], ⟨Sub.refl H, rfl, fun i j p q h => by simp at h, fun i p o h => by simp at h⟩, ⟨.ref a, [], rfl, ⟨a, rfl, hS⟩, rfl⟩, rfl, ?_⟩
  rw [e]
  intro B' ρ' H' t s v r
  exact r
end Mi

set_option Elab.async false
set_option linter.all false
set_option maxRecDepth 100000
set_option maxHeartbeats 4000000
/-! The draws: what taking one gives. -/
namespace Mi
open PySem PySem.Spec PyProof.Rows L2
theorem mulD_r (b k : Int) (h : small k = true) : mulD (.int b) (.int k) = M.pure (.int (b * k)) := by
  show (if (small b || small k) = true then _ else _) = _
  rw [if_pos (by rw [h, Bool.or_true])]
theorem modD_p (b g : Int) (h : g ≠ 0) : modD (.int b) (.int g) = M.pure (.int (b.fmod g)) := by
  show (if g ≠ 0 then _ else _) = _
  rw [if_pos h]
theorem divD_p (b g : Int) (h : g ≠ 0 ∧ g.natAbs < 1073741824) : divD (.int b) (.int g) = M.pure (.int (b.fdiv g)) := by
  show (if g ≠ 0 ∧ g.natAbs < 1073741824 then _ else _) = _
  rw [if_pos h]
theorem powD_p (b g : Int) (h : 0 ≤ g ∧ g ≤ 1000000 ∧ b.natAbs < 18446744073709551616) : powD (.int b) (.int g) = M.pure (.int (b ^ g.toNat)) := by
  show (if 0 ≤ g ∧ g ≤ 1000000 ∧ b.natAbs < 18446744073709551616 then _ else _) = _
  rw [if_pos h]
theorem mix_step (n : Nat) (t f g c b : Int) (hg : 0 < g) (m : Mem) : (setV 4 (u2 modD (u2 addD (u2 mulD (getD 4) (kD (.int 48271))) (u1 toIntS (getS 5))) (getD 3))) [some (.h n), some (.d (.int t)), some (.d (.int f)), some (.d (.int g)), some (.d (.int b)), some (.d (.int c))] m
    = .ok (.nx [some (.h n), some (.d (.int t)), some (.d (.int f)), some (.d (.int g)), some (.d (.int ((b * 48271 + c).fmod g))), some (.d (.int c))]) m := by
  have e1 := mulD_r b 48271 (by decide)
  have e2 := modD_p (b * 48271 + c) g (by omega)
  show ((((((mulD (.int b) (.int 48271)) m).bind fun x => fun m => Out.bind ((toIntS (.d (.int c))) m) (fun y => addD x y)).bind fun x => fun m => Out.bind (.ok (.int g) m) fun y => modD x y)).bind fun d => M.pure (Fl.nx [some (.h n), some (.d (.int t)), some (.d (.int f)), some (.d (.int g)), some (.d d), some (.d (.int c))])) = _
  rw [e1]
  show ((modD (.int (b * 48271 + c)) (.int g)) m).bind _ = _
  rw [e2]
  rfl
theorem mix_in (n : Nat) (t f g : Int) (hg : 0 < g) : ∀ (ce : List Int) (b : Int) (z : Option S) (m : Mem), 0 ≤ b ∧ b < g →
    ∃ b' z', forM (tgN 5) (setV 4 (u2 modD (u2 addD (u2 mulD (getD 4) (kD (.int 48271))) (u1 toIntS (getS 5))) (getD 3))) (ce.map .int) [some (.h n), some (.d (.int t)), some (.d (.int f)), some (.d (.int g)), some (.d (.int b)), z] m
      = .ok (.nx [some (.h n), some (.d (.int t)), some (.d (.int f)), some (.d (.int g)), some (.d (.int b')), z']) m ∧ 0 ≤ b' ∧ b' < g := by
  intro ce
  induction ce with
  | nil => exact fun b z m h => ⟨b, z, rfl, h⟩
  | cons c ce ih =>
    intro b z m h
    obtain ⟨b', z', e, h'⟩ := ih ((b * 48271 + c).fmod g) (some (.d (.int c))) m ⟨Int.fmod_nonneg_of_pos _ hg, Int.fmod_lt_of_pos _ hg⟩
    refine ⟨b', z', ?_, h'⟩
    rw [← e]
    show ((setV 4 (u2 modD (u2 addD (u2 mulD (getD 4) (kD (.int 48271))) (u1 toIntS (getS 5))) (getD 3))) [some (.h n), some (.d (.int t)), some (.d (.int f)), some (.d (.int g)), some (.d (.int b)), some (.d (.int c))] m).bind _ = _
    rw [mix_step n t f g c b hg m]
    rfl
abbrev mixBody : SD → M Fl := (seqM (setV 4 (u2 modD (u2 addD (u2 mulD (getD 1) (kD (.int 69621))) (u2 divD (getD 3) (kD (.int 7)))) (getD 3)))
    (seqM (forV (seqI (u1 (drwK "cells") (getS 0))) (tgN 5) (setV 4 (u2 modD (u2 addD (u2 mulD (getD 4) (kD (.int 48271))) (u1 toIntS (getS 5))) (getD 3))))
    (setV 2 (u2 addD (u2 mulD (getD 2) (kD (.int 2147483647))) (u2 modD (u2 powD (getD 4) (kD (.int 5))) (getD 3))))))
theorem mix_a (n : Nat) (t f g : Int) (hg : 0 < g) (y z : Option S) (m : Mem) : (setV 4 (u2 modD (u2 addD (u2 mulD (getD 1) (kD (.int 69621))) (u2 divD (getD 3) (kD (.int 7)))) (getD 3))) [some (.h n), some (.d (.int t)), some (.d (.int f)), some (.d (.int g)), y, z] m
    = .ok (.nx [some (.h n), some (.d (.int t)), some (.d (.int f)), some (.d (.int g)), some (.d (.int ((t * 69621 + g.fdiv 7).fmod g))), z]) m := by
  have e1 := mulD_r t 69621 (by decide)
  have e2 := divD_p g 7 (by decide)
  have e3 := modD_p (t * 69621 + g.fdiv 7) g (by omega)
  show ((((((mulD (.int t) (.int 69621)) m).bind fun x => fun m => Out.bind ((divD (.int g) (.int 7)) m) (fun y => addD x y)).bind fun x => fun m => Out.bind (.ok (.int g) m) fun y => modD x y)).bind fun d => M.pure (Fl.nx [some (.h n), some (.d (.int t)), some (.d (.int f)), some (.d (.int g)), some (.d d), z])) = _
  rw [e1, e2]
  show ((modD (.int (t * 69621 + g.fdiv 7)) (.int g)) m).bind _ = _
  rw [e3]
  rfl
theorem mix_b (n : Nat) (t f g b : Int) (hg : 0 < g) (hb : 0 ≤ b ∧ b < g) (hl : g < 4294967296) (z : Option S) (m : Mem) : (setV 2 (u2 addD (u2 mulD (getD 2) (kD (.int 2147483647))) (u2 modD (u2 powD (getD 4) (kD (.int 5))) (getD 3)))) [some (.h n), some (.d (.int t)), some (.d (.int f)), some (.d (.int g)), some (.d (.int b)), z] m
    = .ok (.nx [some (.h n), some (.d (.int t)), some (.d (.int (f * 2147483647 + (b ^ 5).fmod g))), some (.d (.int g)), some (.d (.int b)), z]) m := by
  have e1 := mulD_r f 2147483647 (by decide)
  have e2 := powD_p b 5 ⟨by omega, by omega, by omega⟩
  have e3 := modD_p (b ^ 5) g (by omega)
  show (((mulD (.int f) (.int 2147483647)) m).bind fun x => fun m => Out.bind (((powD (.int b) (.int 5)) m).bind fun y => fun m => Out.bind (.ok (.int g) m) fun z => modD y z) (fun y => addD x y)).bind (fun d => M.pure (Fl.nx [some (.h n), some (.d (.int t)), some (.d d), some (.d (.int g)), some (.d (.int b)), z])) = _
  rw [e1, e2]
  show ((((modD (.int (b ^ 5)) (.int g)) m).bind _).bind _) = _
  rw [e3]
  rfl
theorem mix_turn (n : Nat) (t f g : Int) (hg : 0 < g) (hl : g < 4294967296) (y z : Option S) (m : Mem) {la : List Int} {re : Int} {ce : List Int} {tu : Int} (hm : m[n]? = some (.drw la re ce tu)) :
    ∃ f' y' z', mixBody [some (.h n), some (.d (.int t)), some (.d (.int f)), some (.d (.int g)), y, z] m = .ok (.nx [some (.h n), some (.d (.int t)), some (.d (.int f')), some (.d (.int g)), y', z']) m := by
  obtain ⟨b', z', e, hb⟩ := mix_in n t f g hg ce ((t * 69621 + g.fdiv 7).fmod g) z m ⟨Int.fmod_nonneg_of_pos _ hg, Int.fmod_lt_of_pos _ hg⟩
  refine ⟨f * 2147483647 + (b' ^ 5).fmod g, some (.d (.int b')), z', ?_⟩
  show (((setV 4 (u2 modD (u2 addD (u2 mulD (getD 1) (kD (.int 69621))) (u2 divD (getD 3) (kD (.int 7)))) (getD 3))) [some (.h n), some (.d (.int t)), some (.d (.int f)), some (.d (.int g)), y, z] m).bind _) = _
  rw [mix_a n t f g hg y z m]
  have e0 : (seqI (u1 (drwK "cells") (getS 0))) [some (.h n), some (.d (.int t)), some (.d (.int f)), some (.d (.int g)), some (.d (.int ((t * 69621 + g.fdiv 7).fmod g))), z] m = .ok (ce.map .int) m := by
    show ((drwK "cells" (.h n)) m).bind itemsD = _
    have e1 : drwK "cells" (.h n) m = .ok (.lst (ce.map .int)) m := by
      show (match m[n]? with
        | some (.drw _ re ce tu) => if ("cells" : Str) = "rest" then .ok (.int re) m else if ("cells" : Str) = "turn" then .ok (.int tu) m else if ("cells" : Str) = "cells" then .ok (.lst (ce.map .int)) m else .bad
        | _ => .bad : Out D) = _
      rw [hm]
      rfl
    rw [e1]
    rfl
  show (((((seqI (u1 (drwK "cells") (getS 0))) [some (.h n), some (.d (.int t)), some (.d (.int f)), some (.d (.int g)), some (.d (.int ((t * 69621 + g.fdiv 7).fmod g))), z] m).bind fun ds => forM _ _ ds _).bind _)) = _
  rw [e0]
  show (((forM (tgN 5) (setV 4 (u2 modD (u2 addD (u2 mulD (getD 4) (kD (.int 48271))) (u1 toIntS (getS 5))) (getD 3))) (ce.map .int) [some (.h n), some (.d (.int t)), some (.d (.int f)), some (.d (.int g)), some (.d (.int ((t * 69621 + g.fdiv 7).fmod g))), z] m).bind _)) = _
  rw [e]
  exact mix_b n t f g b' hg hb hl z' m
section
variable {m : Mem} {n : Nat} {la : List Int} {re : Int} {ce : List Int} {tu : Int}
theorem drwK_rest (hm : m[n]? = some (.drw la re ce tu)) : drwK "rest" (.h n) m = .ok (.int re) m := by
  show (match m[n]? with
    | some (.drw _ re ce tu) => if ("rest" : Str) = "rest" then .ok (.int re) m else if ("rest" : Str) = "turn" then .ok (.int tu) m else if ("rest" : Str) = "cells" then .ok (.lst (ce.map .int)) m else .bad
    | _ => .bad : Out D) = _
  rw [hm]
  rfl
theorem drwK_turn (hm : m[n]? = some (.drw la re ce tu)) : drwK "turn" (.h n) m = .ok (.int tu) m := by
  show (match m[n]? with
    | some (.drw _ re ce tu) => if ("turn" : Str) = "rest" then .ok (.int re) m else if ("turn" : Str) = "turn" then .ok (.int tu) m else if ("turn" : Str) = "cells" then .ok (.lst (ce.map .int)) m else .bad
    | _ => .bad : Out D) = _
  rw [hm]
  rfl
theorem drwPut_rest (hm : m[n]? = some (.drw la re ce tu)) (i : Int) : drwPut "rest" (.h n) (.int i) m = .ok () (m.set n (.drw la i ce tu)) := by
  show (match m[n]? with
    | some (.drw la re ce tu) => if ("rest" : Str) = "rest" then .ok () (m.set n (.drw la i ce tu)) else if ("rest" : Str) = "turn" then .ok () (m.set n (.drw la re ce i)) else .bad
    | _ => .bad : Out Unit) = _
  rw [hm]
  rfl
theorem drwPut_turn (hm : m[n]? = some (.drw la re ce tu)) (i : Int) : drwPut "turn" (.h n) (.int i) m = .ok () (m.set n (.drw la re ce i)) := by
  show (match m[n]? with
    | some (.drw la re ce tu) => if ("turn" : Str) = "rest" then .ok () (m.set n (.drw la i ce tu)) else if ("turn" : Str) = "turn" then .ok () (m.set n (.drw la re ce i)) else .bad
    | _ => .bad : Out Unit) = _
  rw [hm]
  rfl
theorem drwLa_at (hm : m[n]? = some (.drw la re ce tu)) : drwLa (.h n) m = .ok (!la.isEmpty) m := by
  show (match m[n]? with
    | some (.drw la re ce tu) => .ok (!la.isEmpty) m
    | _ => .bad : Out Bool) = _
  rw [hm]
theorem drwPop_at {x : Int} (hm : m[n]? = some (.drw (x :: la) re ce tu)) : drwPop (.h n) m = .ok (.int x) (m.set n (.drw la re ce tu)) := by
  show (match m[n]? with
    | some (.drw (x :: la) re ce tu) => .ok (.int x) (m.set n (.drw la re ce tu))
    | _ => .bad : Out D) = _
  rw [hm]
theorem set_self {o : MO} (hm : m[n]? = some o) : m.set n o = m := by
  apply List.ext_getElem?
  intro i
  by_cases h : i = n
  · rw [h, hm, List.getElem?_set_self (List.getElem?_eq_some_iff.mp hm).1]
  · rw [List.getElem?_set_ne (Ne.symm h)]
theorem set_at {o o' : MO} (hm : m[n]? = some o) : (m.set n o')[n]? = some o' := List.getElem?_set_self (List.getElem?_eq_some_iff.mp hm).1
theorem mixed_at (hm : m[n]? = some (.drw la re ce tu)) : ∃ v, F__law_mixed [.h n] m = .ok (.int v) (m.set n (.drw la re ce (tu + 1))) := by
  have hm1 := set_at (o' := .drw la re ce (tu + 1)) hm
  generalize hq : m.set n (.drw la re ce (tu + 1)) = m1 at hm1 ⊢
  have hl : m1.length = m.length := by rw [← hq, List.length_set]
  obtain ⟨f1, y1, z1, e1⟩ := mix_turn n (tu + 1) 0 2147483629 (by decide) (by decide) none none m1 hm1
  obtain ⟨f2, y2, z2, e2⟩ := mix_turn n (tu + 1) f1 2147483587 (by decide) (by decide) y1 z1 m1 hm1
  obtain ⟨f3, y3, z3, e3⟩ := mix_turn n (tu + 1) f2 2147483579 (by decide) (by decide) y2 z2 m1 hm1
  refine ⟨f3, ?_⟩
  have a1 : dputV "turn" (u2 addD (u1 (drwK "turn") (getS 0)) (kD (.int 1))) (getS 0) [some (.h n), none, none, none, none, none] m = .ok (.nx [some (.h n), none, none, none, none, none]) m1 := by
    show ((((drwK "turn" (.h n) m).bind fun x => fun m => Out.bind (.ok (.int 1) m) fun y => addD x y)).bind fun d => fun m => Out.bind (.ok (.h n) m) fun s => M.bind (drwPut "turn" s d) fun _ => M.pure (Fl.nx [some (.h n), none, none, none, none, none])) = _
    rw [drwK_turn hm]
    show ((drwPut "turn" (.h n) (.int (tu + 1)) m).bind fun _ => M.pure (Fl.nx [some (.h n), none, none, none, none, none])) = _
    rw [drwPut_turn hm, hq]
    rfl
  have a2 : parV 1 2 (ofD (u1 toIntS (ofD (u1 (drwK "turn") (getS 0))))) (ofD (kD (.int 0))) [some (.h n), none, none, none, none, none] m1 = .ok (.nx [some (.h n), some (.d (.int (tu + 1))), some (.d (.int 0)), none, none, none]) m1 := by
    have e : drwK "turn" (.h n) m1 = .ok (.int (tu + 1)) m1 := drwK_turn hm1
    show (((((((drwK "turn" (.h n) m1)).bind fun d => M.pure (S.d d)).bind toIntS).bind fun d => M.pure (S.d d)).bind fun s1 => fun m => Out.bind (.ok (.d (.int 0)) m) fun s2 => M.pure (Fl.nx [some (.h n), some s1, some s2, none, none, none]))) = _
    rw [e]
    rfl
  have a3 : forM (tgN 3) mixBody [.int 2147483629, .int 2147483587, .int 2147483579] [some (.h n), some (.d (.int (tu + 1))), some (.d (.int 0)), none, none, none] m1 = .ok (.nx [some (.h n), some (.d (.int (tu + 1))), some (.d (.int f3)), some (.d (.int 2147483579)), y3, z3]) m1 := by
    show ((mixBody [some (.h n), some (.d (.int (tu + 1))), some (.d (.int 0)), some (.d (.int 2147483629)), none, none] m1).bind fun fl => match fl with
      | .nx sd2 => forM (tgN 3) mixBody [.int 2147483587, .int 2147483579] sd2
      | .ct sd2 => forM (tgN 3) mixBody [.int 2147483587, .int 2147483579] sd2
      | .bk sd2 => M.pure (.nx sd2)
      | .rt v => M.pure (.rt v)) = _
    rw [e1]
    show ((mixBody [some (.h n), some (.d (.int (tu + 1))), some (.d (.int f1)), some (.d (.int 2147483587)), y1, z1] m1).bind fun fl => match fl with
      | .nx sd2 => forM (tgN 3) mixBody [.int 2147483579] sd2
      | .ct sd2 => forM (tgN 3) mixBody [.int 2147483579] sd2
      | .bk sd2 => M.pure (.nx sd2)
      | .rt v => M.pure (.rt v)) = _
    rw [e2]
    show ((mixBody [some (.h n), some (.d (.int (tu + 1))), some (.d (.int f2)), some (.d (.int 2147483579)), y2, z2] m1).bind fun fl => match fl with
      | .nx sd2 => forM (tgN 3) mixBody [] sd2
      | .ct sd2 => forM (tgN 3) mixBody [] sd2
      | .bk sd2 => M.pure (.nx sd2)
      | .rt v => M.pure (.rt v)) = _
    rw [e3]
    rfl
  have a4 : G__law_mixed [some (.h n), none, none, none, none, none] m = .ok (.rt (.int f3)) m1 := by
    show (((dputV "turn" (u2 addD (u1 (drwK "turn") (getS 0)) (kD (.int 1))) (getS 0)) [some (.h n), none, none, none, none, none] m).bind _) = _
    rw [a1]
    show ((parV 1 2 (ofD (u1 toIntS (ofD (u1 (drwK "turn") (getS 0))))) (ofD (kD (.int 0))) [some (.h n), none, none, none, none, none] m1).bind _) = _
    rw [a2]
    show (((forM (tgN 3) mixBody [.int 2147483629, .int 2147483587, .int 2147483579] [some (.h n), some (.d (.int (tu + 1))), some (.d (.int 0)), none, none, none] m1)).bind _) = _
    rw [a3]
    rfl
  show (match G__law_mixed [some (.h n), none, none, none, none, none] m with
    | .ok (.rt d) m' => .ok d (m'.take m.length)
    | .ok (.nx _) m' => .ok .non (m'.take m.length)
    | .exc c fs m' => .exc c fs (m'.take m.length)
    | _ => .bad : Out D) = _
  rw [a4]
  show Out.ok (D.int f3) (m1.take m.length) = _
  rw [← hl, List.take_length]
theorem take_at (hm : m[n]? = some (.drw la re ce tu)) (k : Int) (hk : 0 < k ∧ k < 1073741824) :
    ∃ r la' re' tu', F__law_take [.h n, .d (.int k)] m = .ok (.int r) (m.set n (.drw la' re' ce tu')) ∧ 0 ≤ r ∧ r < k := by
  -- the rest filled
  have fill : ∃ la1 re1 tu1, (ifV (c2 eqD (u1 (drwK "rest") (getS 0)) (kD (.int 0))) (dputV "rest" (ifV (u1 drwLa (getS 0)) (u1 drwPop (getS 0)) (callM 1 F__law_mixed (consV (getS 0) nilV))) (getS 0)) nxV) [some (.h n), some (.d (.int k)), none] m
      = .ok (.nx [some (.h n), some (.d (.int k)), none]) (m.set n (.drw la1 re1 ce tu1)) := by
    have q0 : (c2 eqD (u1 (drwK "rest") (getS 0)) (kD (.int 0))) [some (.h n), some (.d (.int k)), none] m = .ok (re == 0) m := by
      show ((drwK "rest" (.h n) m).bind fun x => fun m => Out.bind (.ok (.int 0) m) fun y => M.bind (eqD x y) asB) = _
      rw [drwK_rest hm]
      rfl
    cases e : re == 0 with
    | false =>
      refine ⟨la, re, tu, ?_⟩
      show (((c2 eqD (u1 (drwK "rest") (getS 0)) (kD (.int 0))) [some (.h n), some (.d (.int k)), none] m).bind _) = _
      rw [q0, e, show m.set n (.drw la re ce tu) = m from set_self hm]
      rfl
    | true =>
      cases la with
      | cons x la =>
        refine ⟨la, x, tu, ?_⟩
        show (((c2 eqD (u1 (drwK "rest") (getS 0)) (kD (.int 0))) [some (.h n), some (.d (.int k)), none] m).bind _) = _
        rw [q0, e]
        show ((((drwLa (.h n) m).bind fun z => if z = true then (u1 drwPop (getS 0)) [some (.h n), some (.d (.int k)), none] else (callM 1 F__law_mixed (consV (getS 0) nilV)) [some (.h n), some (.d (.int k)), none])).bind _) = _
        rw [drwLa_at hm]
        show (((drwPop (.h n) m)).bind fun d => fun m => Out.bind (.ok (.h n) m) fun s => M.bind (drwPut "rest" s d) fun _ => M.pure (Fl.nx [some (.h n), some (.d (.int k)), none])) = _
        rw [drwPop_at hm]
        show ((drwPut "rest" (.h n) (.int x) (m.set n (.drw la re ce tu))).bind fun _ => M.pure (Fl.nx [some (.h n), some (.d (.int k)), none])) = _
        rw [drwPut_rest (set_at hm), List.set_set]
        rfl
      | nil =>
        obtain ⟨v, ev⟩ := mixed_at hm
        refine ⟨[], v, tu + 1, ?_⟩
        show (((c2 eqD (u1 (drwK "rest") (getS 0)) (kD (.int 0))) [some (.h n), some (.d (.int k)), none] m).bind _) = _
        rw [q0, e]
        show ((((drwLa (.h n) m).bind fun z => if z = true then (u1 drwPop (getS 0)) [some (.h n), some (.d (.int k)), none] else (callM 1 F__law_mixed (consV (getS 0) nilV)) [some (.h n), some (.d (.int k)), none])).bind _) = _
        rw [drwLa_at hm]
        show (((F__law_mixed [.h n] m)).bind fun d => fun m => Out.bind (.ok (.h n) m) fun s => M.bind (drwPut "rest" s d) fun _ => M.pure (Fl.nx [some (.h n), some (.d (.int k)), none])) = _
        rw [ev]
        show ((drwPut "rest" (.h n) (.int v) (m.set n (.drw [] re ce (tu + 1)))).bind fun _ => M.pure (Fl.nx [some (.h n), some (.d (.int k)), none])) = _
        rw [drwPut_rest (set_at hm), List.set_set]
        rfl
  obtain ⟨la1, re1, tu1, e1⟩ := fill
  have hm1 := set_at (o' := .drw la1 re1 ce tu1) hm
  generalize hq : m.set n (.drw la1 re1 ce tu1) = m1 at hm1 e1
  have hl : m1.length = m.length := by rw [← hq, List.length_set]
  have hk0 : k ≠ 0 := by omega
  have a1 : (setV 2 (u2 modD (u1 toIntS (ofD (u1 (drwK "rest") (getS 0)))) (getD 1))) [some (.h n), some (.d (.int k)), none] m1 = .ok (.nx [some (.h n), some (.d (.int k)), some (.d (.int (re1.fmod k)))]) m1 := by
    show ((((((drwK "rest" (.h n) m1)).bind fun d => M.pure (S.d d)).bind toIntS).bind fun x => fun m => Out.bind (.ok (.int k) m) fun y => modD x y).bind fun d => M.pure (Fl.nx [some (.h n), some (.d (.int k)), some (.d d)])) = _
    rw [drwK_rest hm1]
    show ((modD (.int re1) (.int k) m1).bind _) = _
    rw [modD_p re1 k hk0]
    rfl
  have a2 : (dputV "rest" (u2 divD (u1 toIntS (ofD (u1 (drwK "rest") (getS 0)))) (getD 1)) (getS 0)) [some (.h n), some (.d (.int k)), some (.d (.int (re1.fmod k)))] m1 = .ok (.nx [some (.h n), some (.d (.int k)), some (.d (.int (re1.fmod k)))]) (m1.set n (.drw la1 (re1.fdiv k) ce tu1)) := by
    show ((((((drwK "rest" (.h n) m1)).bind fun d => M.pure (S.d d)).bind toIntS).bind fun x => fun m => Out.bind (.ok (.int k) m) fun y => divD x y).bind fun d => fun m => Out.bind (.ok (.h n) m) fun s => M.bind (drwPut "rest" s d) fun _ => M.pure (Fl.nx [some (.h n), some (.d (.int k)), some (.d (.int (re1.fmod k)))])) = _
    rw [drwK_rest hm1]
    show ((divD (.int re1) (.int k) m1).bind _) = _
    rw [divD_p re1 k ⟨hk0, by omega⟩]
    show ((drwPut "rest" (.h n) (.int (re1.fdiv k)) m1).bind fun _ => M.pure (Fl.nx [some (.h n), some (.d (.int k)), some (.d (.int (re1.fmod k)))])) = _
    rw [drwPut_rest hm1]
    rfl
  refine ⟨re1.fmod k, la1, re1.fdiv k, tu1, ?_, Int.fmod_nonneg_of_pos _ hk.1, Int.fmod_lt_of_pos _ hk.1⟩
  have a3 : G__law_take [some (.h n), some (.d (.int k)), none] m = .ok (.rt (.int (re1.fmod k))) (m1.set n (.drw la1 (re1.fdiv k) ce tu1)) := by
    show ((((ifV (c2 eqD (u1 (drwK "rest") (getS 0)) (kD (.int 0))) (dputV "rest" (ifV (u1 drwLa (getS 0)) (u1 drwPop (getS 0)) (callM 1 F__law_mixed (consV (getS 0) nilV))) (getS 0)) nxV) [some (.h n), some (.d (.int k)), none] m)).bind _) = _
    rw [e1]
    show ((((setV 2 (u2 modD (u1 toIntS (ofD (u1 (drwK "rest") (getS 0)))) (getD 1))) [some (.h n), some (.d (.int k)), none] m1)).bind _) = _
    rw [a1]
    show ((((dputV "rest" (u2 divD (u1 toIntS (ofD (u1 (drwK "rest") (getS 0)))) (getD 1)) (getS 0)) [some (.h n), some (.d (.int k)), some (.d (.int (re1.fmod k)))] m1)).bind _) = _
    rw [a2]
    rfl
  show (match G__law_take [some (.h n), some (.d (.int k)), none] m with
    | .ok (.rt d) m' => .ok d (m'.take m.length)
    | .ok (.nx _) m' => .ok .non (m'.take m.length)
    | .exc c fs m' => .exc c fs (m'.take m.length)
    | _ => .bad : Out D) = _
  rw [a3]
  show Out.ok (D.int (re1.fmod k)) ((m1.set n (.drw la1 (re1.fdiv k) ce tu1)).take m.length) = _
  rw [← hl, ← List.length_set (as := m1) (i := n) (a := MO.drw la1 (re1.fdiv k) ce tu1), List.take_length, ← hq, List.set_set]
end
end Mi

set_option Elab.async false
set_option linter.all false
set_option maxRecDepth 100000
set_option maxHeartbeats 4000000
namespace Pr
open PySem PySem.Spec PyProof.Rows L2 Mi
def top (i : Nat) : Stmt := PySem.Challenge.pw_splitbooks_k00_errors_of_all_parts.main.body.getD i (.Pass ⟨0, 0, 0, 0⟩)
def mkD (a : Str × Option Str) (x q : Str) (st : Stmt) : He.DefD := ⟨a, x, q, defArgs st, defBody st, defScope st, [], []⟩
abbrev max2I (i j : Int) : Int := if j > i then j else i
abbrev min2I (i j : Int) : Int := if j < i then j else i

def ins : List InD := [
  ⟨"BadShape", "part", "part", (inClass (top 3) 0)⟩,
  ⟨"BadBook", "part", "part", (inClass (top 4) 0)⟩,
  ⟨"BadNumber", "part", "part", (inClass (top 9) 0)⟩,
  ⟨"BadBrackets", "part", "part", (inClass (top 11) 0)⟩,
  ⟨"BadRoom", "part", "part", (inClass (top 13) 0)⟩,
  ⟨"BadTable", "part", "part", (inClass (top 14) 0)⟩,
  ⟨"BadDoing", "part", "part", (inClass (top 15) 0)⟩,
  ⟨"BadText", "at", "at", (inClass (top 21) 0)⟩,
  ⟨"NoWatch", "name", "name", (inClass (top 22) 0)⟩,
  ⟨"NoMark", "name", "name", (inClass (top 23) 0)⟩,
  ⟨"TooMany", "most", "most", (inClass (top 25) 0)⟩,
  ⟨"BadLeads", "part", "part", (inClass (top 40) 0)⟩,
  ⟨"BadInner", "part", "part", (inClass (top 41) 0)⟩,
  ⟨"BadCrossed", "part", "part", (inClass (top 43) 0)⟩]
def qual (c : Str) : Str := c ++ ".__init__"
def Ls0 : List Str := ["SplitError", "BadPrime", "BadShape", "BadBook", "BadRow", "BadSquare", "BadMap", "BadBasis", "BadNumber", "BadGroup", "BadBrackets", "BadCrossing", "BadRoom", "BadTable", "BadDoing", "BadTwist", "BadStart", "BadDeed", "BadName", "BadLive"]
def Ls1 : List Str := ["BadText", "NoWatch", "NoMark", "NothingLeft", "TooMany", "BadSelfsplit", "BadStrands", "BadBraid", "BadOrders", "BadWeigher", "NoTwist", "BadCut", "NotSimple", "BadThing", "BadPair", "BadLetters", "BadWay", "BadGrades", "BadPairRoom", "BadLeads"]
def Ls2 : List Str := ["BadInner", "BadStay", "BadCrossed", "BadForm"]
def Ls : List Str := Ls0 ++ Ls1 ++ Ls2
def sub (c z : Str) : Bool := c == z || z == "SplitError"
def L_at : List Str := ["BadText"]
def L_most : List Str := ["TooMany"]
def L_name : List Str := ["NoWatch", "NoMark"]
def L_part : List Str := ["BadShape", "BadBook", "BadNumber", "BadBrackets", "BadRoom", "BadTable", "BadDoing", "BadLeads", "BadInner", "BadCrossed"]
abbrev PP : Program := PySem.Challenge.pw_splitbooks_k00_errors_of_all_parts
def more (K : PySem.W.Frag) : Bool × List InW := ((ins.all fun d => inB PP K d.cls d.attr) && (excsB K Ls sub && (xasB K L_at "at" && xasB K L_most "most" && xasB K L_name "name" && xasB K L_part "part" && (K.lookup sysModules).isSome)), ins.map fun d => inW K d.cls)
def due : Bool × List InW := (true, ins.map fun d => d.val qual)
def fn : List He.DefD := [
  mkD ("_law_begun", none) "_law_begun" "_law_begun" (top 46),
  mkD ("_law_mixed", none) "_law_mixed" "_law_mixed" (top 47),
  mkD ("_law_take", none) "_law_take" "_law_take" (top 48),
  mkD ("_law_pick", none) "_law_pick" "_law_pick" (top 49),
  mkD ("_law_any", none) "_law_any" "_law_any" (top 50),
  mkD ("_law_kinds", none) "_law_kinds" "_law_kinds" (top 51),
  mkD ("_law_plain_errors", none) "_law_plain_errors" "_law_plain_errors" (top 52),
  mkD ("_law_errors_of", none) "_law_errors_of" "_law_errors_of" (top 53),
  mkD ("law", none) "law" "law" (top 54)]
def fa : List He.Fa := [
  .glo "_law_begun",
  .glo "_law_mixed",
  .glo "_law_take",
  .glo "_law_pick",
  .glo "_law_any",
  .glo "_law_kinds",
  .glo "_law_plain_errors",
  .glo "_law_errors_of",
  .glo "law",
  .glo "SplitError",
  .glo "BadPrime",
  .glo "BadShape",
  .glo "BadBook",
  .glo "BadRow",
  .glo "BadSquare",
  .glo "BadMap",
  .glo "BadBasis",
  .glo "BadNumber",
  .glo "BadGroup",
  .glo "BadBrackets",
  .glo "BadCrossing",
  .glo "BadRoom",
  .glo "BadTable",
  .glo "BadDoing",
  .glo "BadTwist",
  .glo "BadStart",
  .glo "BadDeed",
  .glo "BadName",
  .glo "BadLive",
  .glo "BadText",
  .glo "NoWatch",
  .glo "NoMark",
  .glo "NothingLeft",
  .glo "TooMany",
  .glo "BadSelfsplit",
  .glo "BadStrands",
  .glo "BadBraid",
  .glo "BadOrders",
  .glo "BadWeigher",
  .glo "NoTwist",
  .glo "BadCut",
  .glo "NotSimple",
  .glo "BadThing",
  .glo "BadPair",
  .glo "BadLetters",
  .glo "BadWay",
  .glo "BadGrades",
  .glo "BadPairRoom",
  .glo "BadLeads",
  .glo "BadInner",
  .glo "BadStay",
  .glo "BadCrossed",
  .glo "BadForm",
  .free "ValueError",
  .free "abs",
  .free "enumerate",
  .free "int",
  .free "isinstance",
  .free "len",
  .free "range",
  .free "repr",
  .free "super",
  .exc "SplitError",
  .exc "BadPrime",
  .exc "BadRow",
  .exc "BadSquare",
  .exc "BadMap",
  .exc "BadBasis",
  .exc "BadGroup",
  .exc "BadCrossing",
  .exc "BadTwist",
  .exc "BadStart",
  .exc "BadDeed",
  .exc "BadName",
  .exc "BadLive",
  .exc "NothingLeft",
  .exc "BadSelfsplit",
  .exc "BadStrands",
  .exc "BadBraid",
  .exc "BadOrders",
  .exc "BadWeigher",
  .exc "NoTwist",
  .exc "BadCut",
  .exc "NotSimple",
  .exc "BadThing",
  .exc "BadPair",
  .exc "BadLetters",
  .exc "BadWay",
  .exc "BadGrades",
  .exc "BadPairRoom",
  .exc "BadStay",
  .exc "BadForm"]
/-- the facts of the top that the defs lean on -/
structure Tx (K : PySem.W.Frag) (mg : Str → Option Value) : Prop where
  c : He.SaysD fa fn K
  h : ∃ h : Heap, K.In h ∧ h.Ns mainGlobals mg
  y : more K = due
section
variable {K : PySem.W.Frag} {mg : Str → Option Value}
theorem g__law_begun (T : Tx K mg) : mg "_law_begun" = some (.ref (He.ga K "_law_begun")) := T.h.elim fun _ p => He.glo_ok p.1 p.2 (T.c.fact 0 rfl)
theorem g__law_mixed (T : Tx K mg) : mg "_law_mixed" = some (.ref (He.ga K "_law_mixed")) := T.h.elim fun _ p => He.glo_ok p.1 p.2 (T.c.fact 1 rfl)
theorem g__law_take (T : Tx K mg) : mg "_law_take" = some (.ref (He.ga K "_law_take")) := T.h.elim fun _ p => He.glo_ok p.1 p.2 (T.c.fact 2 rfl)
theorem g__law_pick (T : Tx K mg) : mg "_law_pick" = some (.ref (He.ga K "_law_pick")) := T.h.elim fun _ p => He.glo_ok p.1 p.2 (T.c.fact 3 rfl)
theorem g__law_any (T : Tx K mg) : mg "_law_any" = some (.ref (He.ga K "_law_any")) := T.h.elim fun _ p => He.glo_ok p.1 p.2 (T.c.fact 4 rfl)
theorem g__law_kinds (T : Tx K mg) : mg "_law_kinds" = some (.ref (He.ga K "_law_kinds")) := T.h.elim fun _ p => He.glo_ok p.1 p.2 (T.c.fact 5 rfl)
theorem g__law_plain_errors (T : Tx K mg) : mg "_law_plain_errors" = some (.ref (He.ga K "_law_plain_errors")) := T.h.elim fun _ p => He.glo_ok p.1 p.2 (T.c.fact 6 rfl)
theorem g__law_errors_of (T : Tx K mg) : mg "_law_errors_of" = some (.ref (He.ga K "_law_errors_of")) := T.h.elim fun _ p => He.glo_ok p.1 p.2 (T.c.fact 7 rfl)
theorem g_law (T : Tx K mg) : mg "law" = some (.ref (He.ga K "law")) := T.h.elim fun _ p => He.glo_ok p.1 p.2 (T.c.fact 8 rfl)
theorem g_SplitError (T : Tx K mg) : mg "SplitError" = some (.ref (He.ga K "SplitError")) := T.h.elim fun _ p => He.glo_ok p.1 p.2 (T.c.fact 9 rfl)
theorem g_BadPrime (T : Tx K mg) : mg "BadPrime" = some (.ref (He.ga K "BadPrime")) := T.h.elim fun _ p => He.glo_ok p.1 p.2 (T.c.fact 10 rfl)
theorem g_BadShape (T : Tx K mg) : mg "BadShape" = some (.ref (He.ga K "BadShape")) := T.h.elim fun _ p => He.glo_ok p.1 p.2 (T.c.fact 11 rfl)
theorem g_BadBook (T : Tx K mg) : mg "BadBook" = some (.ref (He.ga K "BadBook")) := T.h.elim fun _ p => He.glo_ok p.1 p.2 (T.c.fact 12 rfl)
theorem g_BadRow (T : Tx K mg) : mg "BadRow" = some (.ref (He.ga K "BadRow")) := T.h.elim fun _ p => He.glo_ok p.1 p.2 (T.c.fact 13 rfl)
theorem g_BadSquare (T : Tx K mg) : mg "BadSquare" = some (.ref (He.ga K "BadSquare")) := T.h.elim fun _ p => He.glo_ok p.1 p.2 (T.c.fact 14 rfl)
theorem g_BadMap (T : Tx K mg) : mg "BadMap" = some (.ref (He.ga K "BadMap")) := T.h.elim fun _ p => He.glo_ok p.1 p.2 (T.c.fact 15 rfl)
theorem g_BadBasis (T : Tx K mg) : mg "BadBasis" = some (.ref (He.ga K "BadBasis")) := T.h.elim fun _ p => He.glo_ok p.1 p.2 (T.c.fact 16 rfl)
theorem g_BadNumber (T : Tx K mg) : mg "BadNumber" = some (.ref (He.ga K "BadNumber")) := T.h.elim fun _ p => He.glo_ok p.1 p.2 (T.c.fact 17 rfl)
theorem g_BadGroup (T : Tx K mg) : mg "BadGroup" = some (.ref (He.ga K "BadGroup")) := T.h.elim fun _ p => He.glo_ok p.1 p.2 (T.c.fact 18 rfl)
theorem g_BadBrackets (T : Tx K mg) : mg "BadBrackets" = some (.ref (He.ga K "BadBrackets")) := T.h.elim fun _ p => He.glo_ok p.1 p.2 (T.c.fact 19 rfl)
theorem g_BadCrossing (T : Tx K mg) : mg "BadCrossing" = some (.ref (He.ga K "BadCrossing")) := T.h.elim fun _ p => He.glo_ok p.1 p.2 (T.c.fact 20 rfl)
theorem g_BadRoom (T : Tx K mg) : mg "BadRoom" = some (.ref (He.ga K "BadRoom")) := T.h.elim fun _ p => He.glo_ok p.1 p.2 (T.c.fact 21 rfl)
theorem g_BadTable (T : Tx K mg) : mg "BadTable" = some (.ref (He.ga K "BadTable")) := T.h.elim fun _ p => He.glo_ok p.1 p.2 (T.c.fact 22 rfl)
theorem g_BadDoing (T : Tx K mg) : mg "BadDoing" = some (.ref (He.ga K "BadDoing")) := T.h.elim fun _ p => He.glo_ok p.1 p.2 (T.c.fact 23 rfl)
theorem g_BadTwist (T : Tx K mg) : mg "BadTwist" = some (.ref (He.ga K "BadTwist")) := T.h.elim fun _ p => He.glo_ok p.1 p.2 (T.c.fact 24 rfl)
theorem g_BadStart (T : Tx K mg) : mg "BadStart" = some (.ref (He.ga K "BadStart")) := T.h.elim fun _ p => He.glo_ok p.1 p.2 (T.c.fact 25 rfl)
theorem g_BadDeed (T : Tx K mg) : mg "BadDeed" = some (.ref (He.ga K "BadDeed")) := T.h.elim fun _ p => He.glo_ok p.1 p.2 (T.c.fact 26 rfl)
theorem g_BadName (T : Tx K mg) : mg "BadName" = some (.ref (He.ga K "BadName")) := T.h.elim fun _ p => He.glo_ok p.1 p.2 (T.c.fact 27 rfl)
theorem g_BadLive (T : Tx K mg) : mg "BadLive" = some (.ref (He.ga K "BadLive")) := T.h.elim fun _ p => He.glo_ok p.1 p.2 (T.c.fact 28 rfl)
theorem g_BadText (T : Tx K mg) : mg "BadText" = some (.ref (He.ga K "BadText")) := T.h.elim fun _ p => He.glo_ok p.1 p.2 (T.c.fact 29 rfl)
theorem g_NoWatch (T : Tx K mg) : mg "NoWatch" = some (.ref (He.ga K "NoWatch")) := T.h.elim fun _ p => He.glo_ok p.1 p.2 (T.c.fact 30 rfl)
theorem g_NoMark (T : Tx K mg) : mg "NoMark" = some (.ref (He.ga K "NoMark")) := T.h.elim fun _ p => He.glo_ok p.1 p.2 (T.c.fact 31 rfl)
theorem g_NothingLeft (T : Tx K mg) : mg "NothingLeft" = some (.ref (He.ga K "NothingLeft")) := T.h.elim fun _ p => He.glo_ok p.1 p.2 (T.c.fact 32 rfl)
theorem g_TooMany (T : Tx K mg) : mg "TooMany" = some (.ref (He.ga K "TooMany")) := T.h.elim fun _ p => He.glo_ok p.1 p.2 (T.c.fact 33 rfl)
theorem g_BadSelfsplit (T : Tx K mg) : mg "BadSelfsplit" = some (.ref (He.ga K "BadSelfsplit")) := T.h.elim fun _ p => He.glo_ok p.1 p.2 (T.c.fact 34 rfl)
theorem g_BadStrands (T : Tx K mg) : mg "BadStrands" = some (.ref (He.ga K "BadStrands")) := T.h.elim fun _ p => He.glo_ok p.1 p.2 (T.c.fact 35 rfl)
theorem g_BadBraid (T : Tx K mg) : mg "BadBraid" = some (.ref (He.ga K "BadBraid")) := T.h.elim fun _ p => He.glo_ok p.1 p.2 (T.c.fact 36 rfl)
theorem g_BadOrders (T : Tx K mg) : mg "BadOrders" = some (.ref (He.ga K "BadOrders")) := T.h.elim fun _ p => He.glo_ok p.1 p.2 (T.c.fact 37 rfl)
theorem g_BadWeigher (T : Tx K mg) : mg "BadWeigher" = some (.ref (He.ga K "BadWeigher")) := T.h.elim fun _ p => He.glo_ok p.1 p.2 (T.c.fact 38 rfl)
theorem g_NoTwist (T : Tx K mg) : mg "NoTwist" = some (.ref (He.ga K "NoTwist")) := T.h.elim fun _ p => He.glo_ok p.1 p.2 (T.c.fact 39 rfl)
theorem g_BadCut (T : Tx K mg) : mg "BadCut" = some (.ref (He.ga K "BadCut")) := T.h.elim fun _ p => He.glo_ok p.1 p.2 (T.c.fact 40 rfl)
theorem g_NotSimple (T : Tx K mg) : mg "NotSimple" = some (.ref (He.ga K "NotSimple")) := T.h.elim fun _ p => He.glo_ok p.1 p.2 (T.c.fact 41 rfl)
theorem g_BadThing (T : Tx K mg) : mg "BadThing" = some (.ref (He.ga K "BadThing")) := T.h.elim fun _ p => He.glo_ok p.1 p.2 (T.c.fact 42 rfl)
theorem g_BadPair (T : Tx K mg) : mg "BadPair" = some (.ref (He.ga K "BadPair")) := T.h.elim fun _ p => He.glo_ok p.1 p.2 (T.c.fact 43 rfl)
theorem g_BadLetters (T : Tx K mg) : mg "BadLetters" = some (.ref (He.ga K "BadLetters")) := T.h.elim fun _ p => He.glo_ok p.1 p.2 (T.c.fact 44 rfl)
theorem g_BadWay (T : Tx K mg) : mg "BadWay" = some (.ref (He.ga K "BadWay")) := T.h.elim fun _ p => He.glo_ok p.1 p.2 (T.c.fact 45 rfl)
theorem g_BadGrades (T : Tx K mg) : mg "BadGrades" = some (.ref (He.ga K "BadGrades")) := T.h.elim fun _ p => He.glo_ok p.1 p.2 (T.c.fact 46 rfl)
theorem g_BadPairRoom (T : Tx K mg) : mg "BadPairRoom" = some (.ref (He.ga K "BadPairRoom")) := T.h.elim fun _ p => He.glo_ok p.1 p.2 (T.c.fact 47 rfl)
theorem g_BadLeads (T : Tx K mg) : mg "BadLeads" = some (.ref (He.ga K "BadLeads")) := T.h.elim fun _ p => He.glo_ok p.1 p.2 (T.c.fact 48 rfl)
theorem g_BadInner (T : Tx K mg) : mg "BadInner" = some (.ref (He.ga K "BadInner")) := T.h.elim fun _ p => He.glo_ok p.1 p.2 (T.c.fact 49 rfl)
theorem g_BadStay (T : Tx K mg) : mg "BadStay" = some (.ref (He.ga K "BadStay")) := T.h.elim fun _ p => He.glo_ok p.1 p.2 (T.c.fact 50 rfl)
theorem g_BadCrossed (T : Tx K mg) : mg "BadCrossed" = some (.ref (He.ga K "BadCrossed")) := T.h.elim fun _ p => He.glo_ok p.1 p.2 (T.c.fact 51 rfl)
theorem g_BadForm (T : Tx K mg) : mg "BadForm" = some (.ref (He.ga K "BadForm")) := T.h.elim fun _ p => He.glo_ok p.1 p.2 (T.c.fact 52 rfl)
theorem m_ValueError (T : Tx K mg) : mg "ValueError" = none := T.h.elim fun _ p => He.free_ok p.1 p.2 (T.c.fact 53 rfl)
theorem m_abs (T : Tx K mg) : mg "abs" = none := T.h.elim fun _ p => He.free_ok p.1 p.2 (T.c.fact 54 rfl)
theorem m_enumerate (T : Tx K mg) : mg "enumerate" = none := T.h.elim fun _ p => He.free_ok p.1 p.2 (T.c.fact 55 rfl)
theorem m_int (T : Tx K mg) : mg "int" = none := T.h.elim fun _ p => He.free_ok p.1 p.2 (T.c.fact 56 rfl)
theorem m_isinstance (T : Tx K mg) : mg "isinstance" = none := T.h.elim fun _ p => He.free_ok p.1 p.2 (T.c.fact 57 rfl)
theorem m_len (T : Tx K mg) : mg "len" = none := T.h.elim fun _ p => He.free_ok p.1 p.2 (T.c.fact 58 rfl)
theorem m_range (T : Tx K mg) : mg "range" = none := T.h.elim fun _ p => He.free_ok p.1 p.2 (T.c.fact 59 rfl)
theorem m_repr (T : Tx K mg) : mg "repr" = none := T.h.elim fun _ p => He.free_ok p.1 p.2 (T.c.fact 60 rfl)
theorem m_super (T : Tx K mg) : mg "super" = none := T.h.elim fun _ p => He.free_ok p.1 p.2 (T.c.fact 61 rfl)
theorem x_SplitError (T : Tx K mg) : Ex0 K mg "SplitError" := let z := He.exc_ok (T.c.fact 62 rfl); ⟨g_SplitError T, z.1, z.2.1, z.2.2.1, z.2.2.2⟩
theorem x_BadPrime (T : Tx K mg) : Ex0 K mg "BadPrime" := let z := He.exc_ok (T.c.fact 63 rfl); ⟨g_BadPrime T, z.1, z.2.1, z.2.2.1, z.2.2.2⟩
theorem x_BadRow (T : Tx K mg) : Ex0 K mg "BadRow" := let z := He.exc_ok (T.c.fact 64 rfl); ⟨g_BadRow T, z.1, z.2.1, z.2.2.1, z.2.2.2⟩
theorem x_BadSquare (T : Tx K mg) : Ex0 K mg "BadSquare" := let z := He.exc_ok (T.c.fact 65 rfl); ⟨g_BadSquare T, z.1, z.2.1, z.2.2.1, z.2.2.2⟩
theorem x_BadMap (T : Tx K mg) : Ex0 K mg "BadMap" := let z := He.exc_ok (T.c.fact 66 rfl); ⟨g_BadMap T, z.1, z.2.1, z.2.2.1, z.2.2.2⟩
theorem x_BadBasis (T : Tx K mg) : Ex0 K mg "BadBasis" := let z := He.exc_ok (T.c.fact 67 rfl); ⟨g_BadBasis T, z.1, z.2.1, z.2.2.1, z.2.2.2⟩
theorem x_BadGroup (T : Tx K mg) : Ex0 K mg "BadGroup" := let z := He.exc_ok (T.c.fact 68 rfl); ⟨g_BadGroup T, z.1, z.2.1, z.2.2.1, z.2.2.2⟩
theorem x_BadCrossing (T : Tx K mg) : Ex0 K mg "BadCrossing" := let z := He.exc_ok (T.c.fact 69 rfl); ⟨g_BadCrossing T, z.1, z.2.1, z.2.2.1, z.2.2.2⟩
theorem x_BadTwist (T : Tx K mg) : Ex0 K mg "BadTwist" := let z := He.exc_ok (T.c.fact 70 rfl); ⟨g_BadTwist T, z.1, z.2.1, z.2.2.1, z.2.2.2⟩
theorem x_BadStart (T : Tx K mg) : Ex0 K mg "BadStart" := let z := He.exc_ok (T.c.fact 71 rfl); ⟨g_BadStart T, z.1, z.2.1, z.2.2.1, z.2.2.2⟩
theorem x_BadDeed (T : Tx K mg) : Ex0 K mg "BadDeed" := let z := He.exc_ok (T.c.fact 72 rfl); ⟨g_BadDeed T, z.1, z.2.1, z.2.2.1, z.2.2.2⟩
theorem x_BadName (T : Tx K mg) : Ex0 K mg "BadName" := let z := He.exc_ok (T.c.fact 73 rfl); ⟨g_BadName T, z.1, z.2.1, z.2.2.1, z.2.2.2⟩
theorem x_BadLive (T : Tx K mg) : Ex0 K mg "BadLive" := let z := He.exc_ok (T.c.fact 74 rfl); ⟨g_BadLive T, z.1, z.2.1, z.2.2.1, z.2.2.2⟩
theorem x_NothingLeft (T : Tx K mg) : Ex0 K mg "NothingLeft" := let z := He.exc_ok (T.c.fact 75 rfl); ⟨g_NothingLeft T, z.1, z.2.1, z.2.2.1, z.2.2.2⟩
theorem x_BadSelfsplit (T : Tx K mg) : Ex0 K mg "BadSelfsplit" := let z := He.exc_ok (T.c.fact 76 rfl); ⟨g_BadSelfsplit T, z.1, z.2.1, z.2.2.1, z.2.2.2⟩
theorem x_BadStrands (T : Tx K mg) : Ex0 K mg "BadStrands" := let z := He.exc_ok (T.c.fact 77 rfl); ⟨g_BadStrands T, z.1, z.2.1, z.2.2.1, z.2.2.2⟩
theorem x_BadBraid (T : Tx K mg) : Ex0 K mg "BadBraid" := let z := He.exc_ok (T.c.fact 78 rfl); ⟨g_BadBraid T, z.1, z.2.1, z.2.2.1, z.2.2.2⟩
theorem x_BadOrders (T : Tx K mg) : Ex0 K mg "BadOrders" := let z := He.exc_ok (T.c.fact 79 rfl); ⟨g_BadOrders T, z.1, z.2.1, z.2.2.1, z.2.2.2⟩
theorem x_BadWeigher (T : Tx K mg) : Ex0 K mg "BadWeigher" := let z := He.exc_ok (T.c.fact 80 rfl); ⟨g_BadWeigher T, z.1, z.2.1, z.2.2.1, z.2.2.2⟩
theorem x_NoTwist (T : Tx K mg) : Ex0 K mg "NoTwist" := let z := He.exc_ok (T.c.fact 81 rfl); ⟨g_NoTwist T, z.1, z.2.1, z.2.2.1, z.2.2.2⟩
theorem x_BadCut (T : Tx K mg) : Ex0 K mg "BadCut" := let z := He.exc_ok (T.c.fact 82 rfl); ⟨g_BadCut T, z.1, z.2.1, z.2.2.1, z.2.2.2⟩
theorem x_NotSimple (T : Tx K mg) : Ex0 K mg "NotSimple" := let z := He.exc_ok (T.c.fact 83 rfl); ⟨g_NotSimple T, z.1, z.2.1, z.2.2.1, z.2.2.2⟩
theorem x_BadThing (T : Tx K mg) : Ex0 K mg "BadThing" := let z := He.exc_ok (T.c.fact 84 rfl); ⟨g_BadThing T, z.1, z.2.1, z.2.2.1, z.2.2.2⟩
theorem x_BadPair (T : Tx K mg) : Ex0 K mg "BadPair" := let z := He.exc_ok (T.c.fact 85 rfl); ⟨g_BadPair T, z.1, z.2.1, z.2.2.1, z.2.2.2⟩
theorem x_BadLetters (T : Tx K mg) : Ex0 K mg "BadLetters" := let z := He.exc_ok (T.c.fact 86 rfl); ⟨g_BadLetters T, z.1, z.2.1, z.2.2.1, z.2.2.2⟩
theorem x_BadWay (T : Tx K mg) : Ex0 K mg "BadWay" := let z := He.exc_ok (T.c.fact 87 rfl); ⟨g_BadWay T, z.1, z.2.1, z.2.2.1, z.2.2.2⟩
theorem x_BadGrades (T : Tx K mg) : Ex0 K mg "BadGrades" := let z := He.exc_ok (T.c.fact 88 rfl); ⟨g_BadGrades T, z.1, z.2.1, z.2.2.1, z.2.2.2⟩
theorem x_BadPairRoom (T : Tx K mg) : Ex0 K mg "BadPairRoom" := let z := He.exc_ok (T.c.fact 89 rfl); ⟨g_BadPairRoom T, z.1, z.2.1, z.2.2.1, z.2.2.2⟩
theorem x_BadStay (T : Tx K mg) : Ex0 K mg "BadStay" := let z := He.exc_ok (T.c.fact 90 rfl); ⟨g_BadStay T, z.1, z.2.1, z.2.2.1, z.2.2.2⟩
theorem x_BadForm (T : Tx K mg) : Ex0 K mg "BadForm" := let z := He.exc_ok (T.c.fact 91 rfl); ⟨g_BadForm T, z.1, z.2.1, z.2.2.1, z.2.2.2⟩
theorem d__law_begun (T : Tx K mg) : ∃ fd, FunD K "_law_begun" "_law_begun" (defArgs (top 46)) (defBody (top 46)) (defScope (top 46)) [] [] (He.ga K "_law_begun") fd := T.c.def_ 0 (d := mkD ("_law_begun", none) "_law_begun" "_law_begun" (top 46)) rfl
theorem d__law_mixed (T : Tx K mg) : ∃ fd, FunD K "_law_mixed" "_law_mixed" (defArgs (top 47)) (defBody (top 47)) (defScope (top 47)) [] [] (He.ga K "_law_mixed") fd := T.c.def_ 1 (d := mkD ("_law_mixed", none) "_law_mixed" "_law_mixed" (top 47)) rfl
theorem d__law_take (T : Tx K mg) : ∃ fd, FunD K "_law_take" "_law_take" (defArgs (top 48)) (defBody (top 48)) (defScope (top 48)) [] [] (He.ga K "_law_take") fd := T.c.def_ 2 (d := mkD ("_law_take", none) "_law_take" "_law_take" (top 48)) rfl
theorem d__law_pick (T : Tx K mg) : ∃ fd, FunD K "_law_pick" "_law_pick" (defArgs (top 49)) (defBody (top 49)) (defScope (top 49)) [] [] (He.ga K "_law_pick") fd := T.c.def_ 3 (d := mkD ("_law_pick", none) "_law_pick" "_law_pick" (top 49)) rfl
theorem d__law_any (T : Tx K mg) : ∃ fd, FunD K "_law_any" "_law_any" (defArgs (top 50)) (defBody (top 50)) (defScope (top 50)) [] [] (He.ga K "_law_any") fd := T.c.def_ 4 (d := mkD ("_law_any", none) "_law_any" "_law_any" (top 50)) rfl
theorem d__law_kinds (T : Tx K mg) : ∃ fd, FunD K "_law_kinds" "_law_kinds" (defArgs (top 51)) (defBody (top 51)) (defScope (top 51)) [] [] (He.ga K "_law_kinds") fd := T.c.def_ 5 (d := mkD ("_law_kinds", none) "_law_kinds" "_law_kinds" (top 51)) rfl
theorem d__law_plain_errors (T : Tx K mg) : ∃ fd, FunD K "_law_plain_errors" "_law_plain_errors" (defArgs (top 52)) (defBody (top 52)) (defScope (top 52)) [] [] (He.ga K "_law_plain_errors") fd := T.c.def_ 6 (d := mkD ("_law_plain_errors", none) "_law_plain_errors" "_law_plain_errors" (top 52)) rfl
theorem d__law_errors_of (T : Tx K mg) : ∃ fd, FunD K "_law_errors_of" "_law_errors_of" (defArgs (top 53)) (defBody (top 53)) (defScope (top 53)) [] [] (He.ga K "_law_errors_of") fd := T.c.def_ 7 (d := mkD ("_law_errors_of", none) "_law_errors_of" "_law_errors_of" (top 53)) rfl
theorem d_law (T : Tx K mg) : ∃ fd, FunD K "law" "law" (defArgs (top 54)) (defBody (top 54)) (defScope (top 54)) [] [] (He.ga K "law") fd := T.c.def_ 8 (d := mkD ("law", none) "law" "law" (top 54)) rfl
end
section
variable {K : PySem.W.Frag} {mg : Str → Option Value}
theorem moreT (T : Tx K mg) : ((ins.all fun d => inB PP K d.cls d.attr) && (excsB K Ls sub && (xasB K L_at "at" && xasB K L_most "most" && xasB K L_name "name" && xasB K L_part "part" && (K.lookup sysModules).isSome))) = true := congrArg Prod.fst T.y
theorem exs (T : Tx K mg) : ExCs K Ls sub := excsB_ok (Mi.ba (Mi.ba (moreT T)).2).1
theorem restT (T : Tx K mg) : (xasB K L_at "at" && xasB K L_most "most" && xasB K L_name "name" && xasB K L_part "part" && (K.lookup sysModules).isSome) = true := (Mi.ba (Mi.ba (moreT T)).2).2
theorem smk (T : Tx K mg) : (K.lookup sysModules).isSome = true := (Mi.ba (restT T)).2
theorem xa_part (T : Tx K mg) : XAs K L_part "part" := xasB_ok (Mi.ba (Mi.ba (restT T)).1).2
theorem xa_name (T : Tx K mg) : XAs K L_name "name" := xasB_ok (Mi.ba (Mi.ba (Mi.ba (restT T)).1).1).2
theorem xa_most (T : Tx K mg) : XAs K L_most "most" := xasB_ok (Mi.ba (Mi.ba (Mi.ba (Mi.ba (restT T)).1).1).1).2
theorem xa_at (T : Tx K mg) : XAs K L_at "at" := xasB_ok (Mi.ba (Mi.ba (Mi.ba (Mi.ba (restT T)).1).1).1).1
theorem inB_at (T : Tx K mg) (i : Nat) {d : InD} (h : ins[i]? = some d) : inB PP K d.cls d.attr = true := List.all_eq_true.mp (Mi.ba (moreT T)).1 d (List.mem_of_getElem? h)
theorem inW_at (T : Tx K mg) (i : Nat) {d : InD} (h : ins[i]? = some d) : inW K d.cls = d.val qual := by
  have e : ins.map (fun d => inW K d.cls) = ins.map fun d => d.val qual := congrArg Prod.snd T.y
  have e2 : (ins.map fun d => inW K d.cls)[i]? = (ins.map fun d => d.val qual)[i]? := by rw [e]
  rw [List.getElem?_map, List.getElem?_map, h] at e2
  exact Option.some.inj e2
end
section
variable {w : World} {K : PySem.W.Frag} {mg : Str → Option Value} {base : Heap}
theorem in_BadShape (T : Tx K mg) : ExI PP w K mg base 1 "BadShape" "part" "part" :=
  exI_of (d := ⟨"BadShape", "part", "part", (inClass (top 3) 0)⟩) (q := qual) T.h (inB_at T 0 rfl) (inW_at T 0 rfl) (m_super T) rfl (fun _ => rfl) (fun _ => rfl) (fun _ => rfl) rfl rfl (by decide) (by decide) (by kernel_rfl) (by kernel_rfl) (by kernel_rfl) (by kernel_rfl) (by kernel_rfl) (by decide +kernel) rfl rfl rfl (fun _ _ _ _ _ _ _ _ _ => rfl) (fun _ _ _ _ _ _ _ _ _ => rfl)
theorem in_BadBook (T : Tx K mg) : ExI PP w K mg base 1 "BadBook" "part" "part" :=
  exI_of (d := ⟨"BadBook", "part", "part", (inClass (top 4) 0)⟩) (q := qual) T.h (inB_at T 1 rfl) (inW_at T 1 rfl) (m_super T) rfl (fun _ => rfl) (fun _ => rfl) (fun _ => rfl) rfl rfl (by decide) (by decide) (by kernel_rfl) (by kernel_rfl) (by kernel_rfl) (by kernel_rfl) (by kernel_rfl) (by decide +kernel) rfl rfl rfl (fun _ _ _ _ _ _ _ _ _ => rfl) (fun _ _ _ _ _ _ _ _ _ => rfl)
theorem in_BadNumber (T : Tx K mg) : ExI PP w K mg base 1 "BadNumber" "part" "part" :=
  exI_of (d := ⟨"BadNumber", "part", "part", (inClass (top 9) 0)⟩) (q := qual) T.h (inB_at T 2 rfl) (inW_at T 2 rfl) (m_super T) rfl (fun _ => rfl) (fun _ => rfl) (fun _ => rfl) rfl rfl (by decide) (by decide) (by kernel_rfl) (by kernel_rfl) (by kernel_rfl) (by kernel_rfl) (by kernel_rfl) (by decide +kernel) rfl rfl rfl (fun _ _ _ _ _ _ _ _ _ => rfl) (fun _ _ _ _ _ _ _ _ _ => rfl)
theorem in_BadBrackets (T : Tx K mg) : ExI PP w K mg base 1 "BadBrackets" "part" "part" :=
  exI_of (d := ⟨"BadBrackets", "part", "part", (inClass (top 11) 0)⟩) (q := qual) T.h (inB_at T 3 rfl) (inW_at T 3 rfl) (m_super T) rfl (fun _ => rfl) (fun _ => rfl) (fun _ => rfl) rfl rfl (by decide) (by decide) (by kernel_rfl) (by kernel_rfl) (by kernel_rfl) (by kernel_rfl) (by kernel_rfl) (by decide +kernel) rfl rfl rfl (fun _ _ _ _ _ _ _ _ _ => rfl) (fun _ _ _ _ _ _ _ _ _ => rfl)
theorem in_BadRoom (T : Tx K mg) : ExI PP w K mg base 1 "BadRoom" "part" "part" :=
  exI_of (d := ⟨"BadRoom", "part", "part", (inClass (top 13) 0)⟩) (q := qual) T.h (inB_at T 4 rfl) (inW_at T 4 rfl) (m_super T) rfl (fun _ => rfl) (fun _ => rfl) (fun _ => rfl) rfl rfl (by decide) (by decide) (by kernel_rfl) (by kernel_rfl) (by kernel_rfl) (by kernel_rfl) (by kernel_rfl) (by decide +kernel) rfl rfl rfl (fun _ _ _ _ _ _ _ _ _ => rfl) (fun _ _ _ _ _ _ _ _ _ => rfl)
theorem in_BadTable (T : Tx K mg) : ExI PP w K mg base 1 "BadTable" "part" "part" :=
  exI_of (d := ⟨"BadTable", "part", "part", (inClass (top 14) 0)⟩) (q := qual) T.h (inB_at T 5 rfl) (inW_at T 5 rfl) (m_super T) rfl (fun _ => rfl) (fun _ => rfl) (fun _ => rfl) rfl rfl (by decide) (by decide) (by kernel_rfl) (by kernel_rfl) (by kernel_rfl) (by kernel_rfl) (by kernel_rfl) (by decide +kernel) rfl rfl rfl (fun _ _ _ _ _ _ _ _ _ => rfl) (fun _ _ _ _ _ _ _ _ _ => rfl)
theorem in_BadDoing (T : Tx K mg) : ExI PP w K mg base 1 "BadDoing" "part" "part" :=
  exI_of (d := ⟨"BadDoing", "part", "part", (inClass (top 15) 0)⟩) (q := qual) T.h (inB_at T 6 rfl) (inW_at T 6 rfl) (m_super T) rfl (fun _ => rfl) (fun _ => rfl) (fun _ => rfl) rfl rfl (by decide) (by decide) (by kernel_rfl) (by kernel_rfl) (by kernel_rfl) (by kernel_rfl) (by kernel_rfl) (by decide +kernel) rfl rfl rfl (fun _ _ _ _ _ _ _ _ _ => rfl) (fun _ _ _ _ _ _ _ _ _ => rfl)
theorem in_BadText (T : Tx K mg) : ExI PP w K mg base 1 "BadText" "at" "at" :=
  exI_of (d := ⟨"BadText", "at", "at", (inClass (top 21) 0)⟩) (q := qual) T.h (inB_at T 7 rfl) (inW_at T 7 rfl) (m_super T) rfl (fun _ => rfl) (fun _ => rfl) (fun _ => rfl) rfl rfl (by decide) (by decide) (by kernel_rfl) (by kernel_rfl) (by kernel_rfl) (by kernel_rfl) (by kernel_rfl) (by decide +kernel) rfl rfl rfl (fun _ _ _ _ _ _ _ _ _ => rfl) (fun _ _ _ _ _ _ _ _ _ => rfl)
theorem in_NoWatch (T : Tx K mg) : ExI PP w K mg base 1 "NoWatch" "name" "name" :=
  exI_of (d := ⟨"NoWatch", "name", "name", (inClass (top 22) 0)⟩) (q := qual) T.h (inB_at T 8 rfl) (inW_at T 8 rfl) (m_super T) rfl (fun _ => rfl) (fun _ => rfl) (fun _ => rfl) rfl rfl (by decide) (by decide) (by kernel_rfl) (by kernel_rfl) (by kernel_rfl) (by kernel_rfl) (by kernel_rfl) (by decide +kernel) rfl rfl rfl (fun _ _ _ _ _ _ _ _ _ => rfl) (fun _ _ _ _ _ _ _ _ _ => rfl)
theorem in_NoMark (T : Tx K mg) : ExI PP w K mg base 1 "NoMark" "name" "name" :=
  exI_of (d := ⟨"NoMark", "name", "name", (inClass (top 23) 0)⟩) (q := qual) T.h (inB_at T 9 rfl) (inW_at T 9 rfl) (m_super T) rfl (fun _ => rfl) (fun _ => rfl) (fun _ => rfl) rfl rfl (by decide) (by decide) (by kernel_rfl) (by kernel_rfl) (by kernel_rfl) (by kernel_rfl) (by kernel_rfl) (by decide +kernel) rfl rfl rfl (fun _ _ _ _ _ _ _ _ _ => rfl) (fun _ _ _ _ _ _ _ _ _ => rfl)
theorem in_TooMany (T : Tx K mg) : ExI PP w K mg base 1 "TooMany" "most" "most" :=
  exI_of (d := ⟨"TooMany", "most", "most", (inClass (top 25) 0)⟩) (q := qual) T.h (inB_at T 10 rfl) (inW_at T 10 rfl) (m_super T) rfl (fun _ => rfl) (fun _ => rfl) (fun _ => rfl) rfl rfl (by decide) (by decide) (by kernel_rfl) (by kernel_rfl) (by kernel_rfl) (by kernel_rfl) (by kernel_rfl) (by decide +kernel) rfl rfl rfl (fun _ _ _ _ _ _ _ _ _ => rfl) (fun _ _ _ _ _ _ _ _ _ => rfl)
theorem in_BadLeads (T : Tx K mg) : ExI PP w K mg base 1 "BadLeads" "part" "part" :=
  exI_of (d := ⟨"BadLeads", "part", "part", (inClass (top 40) 0)⟩) (q := qual) T.h (inB_at T 11 rfl) (inW_at T 11 rfl) (m_super T) rfl (fun _ => rfl) (fun _ => rfl) (fun _ => rfl) rfl rfl (by decide) (by decide) (by kernel_rfl) (by kernel_rfl) (by kernel_rfl) (by kernel_rfl) (by kernel_rfl) (by decide +kernel) rfl rfl rfl (fun _ _ _ _ _ _ _ _ _ => rfl) (fun _ _ _ _ _ _ _ _ _ => rfl)
theorem in_BadInner (T : Tx K mg) : ExI PP w K mg base 1 "BadInner" "part" "part" :=
  exI_of (d := ⟨"BadInner", "part", "part", (inClass (top 41) 0)⟩) (q := qual) T.h (inB_at T 12 rfl) (inW_at T 12 rfl) (m_super T) rfl (fun _ => rfl) (fun _ => rfl) (fun _ => rfl) rfl rfl (by decide) (by decide) (by kernel_rfl) (by kernel_rfl) (by kernel_rfl) (by kernel_rfl) (by kernel_rfl) (by decide +kernel) rfl rfl rfl (fun _ _ _ _ _ _ _ _ _ => rfl) (fun _ _ _ _ _ _ _ _ _ => rfl)
theorem in_BadCrossed (T : Tx K mg) : ExI PP w K mg base 1 "BadCrossed" "part" "part" :=
  exI_of (d := ⟨"BadCrossed", "part", "part", (inClass (top 43) 0)⟩) (q := qual) T.h (inB_at T 13 rfl) (inW_at T 13 rfl) (m_super T) rfl (fun _ => rfl) (fun _ => rfl) (fun _ => rfl) rfl rfl (by decide) (by decide) (by kernel_rfl) (by kernel_rfl) (by kernel_rfl) (by kernel_rfl) (by kernel_rfl) (by decide +kernel) rfl rfl rfl (fun _ _ _ _ _ _ _ _ _ => rfl) (fun _ _ _ _ _ _ _ _ _ => rfl)
end
abbrev P : Program := PP
section
variable {w : World} {K : PySem.W.Frag} {mg : Str → Option Value} {base : Heap}
theorem sc__law_begun : FnScope ["_law_script", "_law_large", "_law_grain"] ["_law_script"] (defScope (top 46)) := ⟨rfl, rfl, rfl, by decide +kernel, rfl, by decide +kernel, by decide +kernel⟩
theorem ok__law_begun (T : Tx K mg) : FxX P w K mg base 1 "_law_begun" ["_law_script"] F_begun := by
  have nd := sc__law_begun.nd
  obtain ⟨fd, FD⟩ := d__law_begun T
  refine ⟨⟨fd, fn_begun FD sc__law_begun (fun cdv A outer s H E hr => ?_) (fun cdv A outer s H E => sx_var (i := 1)) (fun cdv A outer s H E hr => ?_) begun_e1 begun_e2, FD.bindsN fun _ _ _ _ _ _ us hl => match us, hl with | [_], _ => rfl⟩, g__law_begun T, FD.kp⟩
  · exact (ss_setLcX (i := 1) (own' := [("_law_grain", 2)]) rfl nd (si_seq (se_var (i := 0))) (by kernel_rfl) (by decide) (fun _ _ _ _ _ => (sg_name (i := 2) nd)) (fun _ _ _ _ _ => (sts_one (st_ge (se_b1 call_abs absS_ok (m_abs T) (sx_var (i := 2))) (se_pow se_int se_int)))) (fun _ _ _ _ _ => (se_sub (se_b1 call_abs absS_ok (m_abs T) (sx_var (i := 2))) (se_pow se_int se_int))) (sw_true rfl rfl rfl (by decide +kernel)))
  · exact (sf_lc (own' := [("_law_grain", 2)]) rfl nd (si_seq (se_var (i := 0))) (by kernel_rfl) (by decide) (fun _ _ _ _ _ => (sg_name (i := 2) nd)) (fun _ _ _ _ _ => sts_nil) (fun _ _ _ _ _ => (se_b1 call_abs absS_ok (m_abs T) (sx_var (i := 2)))))

theorem sc__law_mixed : FnScope ["_law_draw", "_law_turn", "_law_found", "_law_great", "_law_blend", "_law_grain"] ["_law_draw"] (defScope (top 47)) := ⟨rfl, rfl, rfl, by decide +kernel, rfl, by decide +kernel, by decide +kernel⟩
theorem ok__law_mixed (T : Tx K mg) : Fx P w K mg base 1 "_law_mixed" ["_law_draw"] F__law_mixed := by
  have nd := sc__law_mixed.nd
  obtain ⟨fd, FD⟩ := d__law_mixed T
  refine ⟨⟨fd, fn_mk FD sc__law_mixed (fun cdv A outer s H E hr => ?_), FD.bindsN fun _ _ _ _ _ _ us hl => match us, hl with | [_], _ => rfl⟩, g__law_mixed T, FD.kp⟩
  have tk := takes_of (X := cxOf (L2.CX P w) P w K mg base ["_law_draw", "_law_turn", "_law_found", "_law_great", "_law_blend", "_law_grain"] "_law_mixed" (defScope (top 47)) (He.ga K "_law_mixed") cdv A outer s H E) (E := E) rfl rfl rfl rfl
  have ps : Passes (L2.CX P w) (cxOf (L2.CX P w) P w K mg base ["_law_draw", "_law_turn", "_law_found", "_law_great", "_law_blend", "_law_grain"] "_law_mixed" (defScope (top 47)) (He.ga K "_law_mixed") cdv A outer s H E) E := passes_call tk (fun _ _ _ _ h => h)
  have psX : Passes (L2.CX P w) (cxOf (L2.CX P w) P w K mg base ["_law_draw", "_law_turn", "_law_found", "_law_great", "_law_blend", "_law_grain"] "_law_mixed" (defScope (top 47)) (He.ga K "_law_mixed") cdv A outer s H E) (fun _ _ _ => False) := passes_call tk (fun _ _ _ _ h => h.elim)
  exact (sss_cons (ss_drwPut (lt64 hr.units) (sx_var (i := 0)) (se_add (se_drwK (lt64 hr.units) (sx_var (i := 0))) se_int))
    (sss_cons (ss_par (i := 1) (j := 2) rfl nd (sx_of (se_t1 call_int1 toIntS_ok (m_int T) (sx_of (se_drwK (lt64 hr.units) (sx_var (i := 0)))))) (sx_of se_int) rfl)
    (sss_cons (ss_for (passes_of rfl) rfl (si_seq (se_of (sf_lst (sl_cons se_int (sl_cons se_int (sl_cons se_int sl_nil)))))) (sg_name (i := 3) nd) (sss_cons (ss_set (i := 4) nd (se_mod (se_add (se_mul (se_var (i := 1)) se_int) (se_div (se_var (i := 3)) se_int)) (se_var (i := 3))))
    (sss_cons (ss_for (passes_of rfl) rfl (si_seq (se_drwK (lt64 hr.units) (sx_var (i := 0)))) (sg_name (i := 5) nd) (sss_one (ss_set (i := 4) nd (se_mod (se_add (se_mul (se_var (i := 4)) se_int) (se_t1 call_int1 toIntS_ok (m_int T) (sx_var (i := 5)))) (se_var (i := 3))))))
    (sss_one (ss_set (i := 2) nd (se_add (se_mul (se_var (i := 2)) se_int) (se_mod (se_pow (se_var (i := 4)) se_int) (se_var (i := 3)))))))))
    (sss_one (ss_ret (se_var (i := 2)))))))

theorem sc__law_take : FnScope ["_law_draw", "_law_amount", "_law_found"] ["_law_draw", "_law_amount"] (defScope (top 48)) := ⟨rfl, rfl, rfl, by decide +kernel, rfl, by decide +kernel, by decide +kernel⟩
theorem ok__law_take (T : Tx K mg) : Fx P w K mg base 2 "_law_take" ["_law_draw", "_law_amount"] F__law_take := by
  have nd := sc__law_take.nd
  obtain ⟨fd, FD⟩ := d__law_take T
  refine ⟨⟨fd, fn_mk FD sc__law_take (fun cdv A outer s H E hr => ?_), FD.bindsN fun _ _ _ _ _ _ us hl => match us, hl with | [_, _], _ => rfl⟩, g__law_take T, FD.kp⟩
  have tk := takes_of (X := cxOf (L2.CX P w) P w K mg base ["_law_draw", "_law_amount", "_law_found"] "_law_take" (defScope (top 48)) (He.ga K "_law_take") cdv A outer s H E) (E := E) rfl rfl rfl rfl
  have ps : Passes (L2.CX P w) (cxOf (L2.CX P w) P w K mg base ["_law_draw", "_law_amount", "_law_found"] "_law_take" (defScope (top 48)) (He.ga K "_law_take") cdv A outer s H E) E := passes_call tk (fun _ _ _ _ h => h)
  have psX : Passes (L2.CX P w) (cxOf (L2.CX P w) P w K mg base ["_law_draw", "_law_amount", "_law_found"] "_law_take" (defScope (top 48)) (He.ga K "_law_take") cdv A outer s H E) (fun _ _ _ => False) := passes_call tk (fun _ _ _ _ h => h.elim)
  exact (sss_cons (ss_if (st_eq hr.units (se_drwK (lt64 hr.units) (sx_var (i := 0))) se_int) (sss_one (ss_drwPut (lt64 hr.units) (sx_var (i := 0)) (se_if (st_drwLa hr.units (sx_var (i := 0))) (se_drwPop (lt64 hr.units) (sx_var (i := 0))) (se_call (ok__law_mixed T) (hr.mono (by decide)) ps (sa_cons (sx_var (i := 0)) sa_nil))))) sss_nil)
    (sss_cons (ss_set (i := 2) nd (se_mod (se_t1 call_int1 toIntS_ok (m_int T) (sx_of (se_drwK (lt64 hr.units) (sx_var (i := 0))))) (se_var (i := 1))))
    (sss_cons (ss_drwPut (lt64 hr.units) (sx_var (i := 0)) (se_div (se_t1 call_int1 toIntS_ok (m_int T) (sx_of (se_drwK (lt64 hr.units) (sx_var (i := 0))))) (se_var (i := 1))))
    (sss_one (ss_ret (se_var (i := 2)))))))

def G__law_pick : SD → M Fl :=
    (retV (u2 ixS (getS 1) (callM 2 F__law_take (consV (getS 0) (consV (ofD (u1 lenS (getS 1))) nilV)))))
def F__law_pick : List S → M D := fnM 2 G__law_pick
theorem sc__law_pick : FnScope ["_law_draw", "_law_some"] ["_law_draw", "_law_some"] (defScope (top 49)) := ⟨rfl, rfl, rfl, by decide +kernel, rfl, by decide +kernel, by decide +kernel⟩
theorem ok__law_pick (T : Tx K mg) : Fx P w K mg base 4 "_law_pick" ["_law_draw", "_law_some"] F__law_pick := by
  have nd := sc__law_pick.nd
  obtain ⟨fd, FD⟩ := d__law_pick T
  refine ⟨⟨fd, fn_mk FD sc__law_pick (fun cdv A outer s H E hr => ?_), FD.bindsN fun _ _ _ _ _ _ us hl => match us, hl with | [_, _], _ => rfl⟩, g__law_pick T, FD.kp⟩
  have tk := takes_of (X := cxOf (L2.CX P w) P w K mg base ["_law_draw", "_law_some"] "_law_pick" (defScope (top 49)) (He.ga K "_law_pick") cdv A outer s H E) (E := E) rfl rfl rfl rfl
  have ps : Passes (L2.CX P w) (cxOf (L2.CX P w) P w K mg base ["_law_draw", "_law_some"] "_law_pick" (defScope (top 49)) (He.ga K "_law_pick") cdv A outer s H E) E := passes_call tk (fun _ _ _ _ h => h)
  have psX : Passes (L2.CX P w) (cxOf (L2.CX P w) P w K mg base ["_law_draw", "_law_some"] "_law_pick" (defScope (top 49)) (He.ga K "_law_pick") cdv A outer s H E) (fun _ _ _ => False) := passes_call tk (fun _ _ _ _ h => h.elim)
  exact (sss_one (ss_ret (se_ix (sx_var (i := 1)) (se_call (ok__law_take T) (hr.mono (by decide)) ps (sa_cons (sx_var (i := 0)) (sa_cons (sx_of (se_b1 call_len2 lenS_ok (m_len T) (sx_var (i := 1)))) sa_nil))))))

def G__law_any : SD → M Fl :=
    (seqM (setV 1 (ofL (lstV (consV (kD .non) (consV (kD (.bl false)) (consV (negV (kD (.int 5))) (consV (u2 powD (kD (.int 10)) (kD (.int 45))) (consV (kD (.str "")) (consV (kD (.str "wide")) (consV (kD (.str "two words")) (consV (ofL (lstV nilV)) (consV (ofL (lstV (consV (tupV (consV (kD (.int 0)) (consV (kD (.int 2)) nilV))) nilV))) (consV (tupV nilV) (consV (tupV (consV (kD (.int 4)) nilV)) (consV (kD (.dk [])) (consV (dk1 "a" (tupV (consV (kD (.int 1)) nilV))) (consV (ofL (lstV (consV (ofL (lstV (consV (kD .non) nilV))) nilV))) nilV)))))))))))))))))
    (retV (callM 2 F__law_pick (consV (getS 0) (consV (getS 1) nilV)))))
def F__law_any : List S → M D := fnM 2 G__law_any
theorem sc__law_any : FnScope ["_law_draw", "_law_some"] ["_law_draw"] (defScope (top 50)) := ⟨rfl, rfl, rfl, by decide +kernel, rfl, by decide +kernel, by decide +kernel⟩
theorem ok__law_any (T : Tx K mg) : Fx P w K mg base 5 "_law_any" ["_law_draw"] F__law_any := by
  have nd := sc__law_any.nd
  obtain ⟨fd, FD⟩ := d__law_any T
  refine ⟨⟨fd, fn_mk FD sc__law_any (fun cdv A outer s H E hr => ?_), FD.bindsN fun _ _ _ _ _ _ us hl => match us, hl with | [_], _ => rfl⟩, g__law_any T, FD.kp⟩
  have tk := takes_of (X := cxOf (L2.CX P w) P w K mg base ["_law_draw", "_law_some"] "_law_any" (defScope (top 50)) (He.ga K "_law_any") cdv A outer s H E) (E := E) rfl rfl rfl rfl
  have ps : Passes (L2.CX P w) (cxOf (L2.CX P w) P w K mg base ["_law_draw", "_law_some"] "_law_any" (defScope (top 50)) (He.ga K "_law_any") cdv A outer s H E) E := passes_call tk (fun _ _ _ _ h => h)
  have psX : Passes (L2.CX P w) (cxOf (L2.CX P w) P w K mg base ["_law_draw", "_law_some"] "_law_any" (defScope (top 50)) (He.ga K "_law_any") cdv A outer s H E) (fun _ _ _ => False) := passes_call tk (fun _ _ _ _ h => h.elim)
  exact (sss_cons (ss_set (i := 1) nd (se_of (sf_lst (sl_cons se_non (sl_cons se_bl (sl_cons (se_neg se_int) (sl_cons (se_pow se_int se_int) (sl_cons se_str (sl_cons se_str (sl_cons se_str (sl_cons (se_of (sf_lst sl_nil)) (sl_cons (se_of (sf_lst (sl_cons (se_tup (sl_cons se_int (sl_cons se_int sl_nil))) sl_nil))) (sl_cons (se_tup sl_nil) (sl_cons (se_tup (sl_cons se_int sl_nil)) (sl_cons se_dict0 (sl_cons (se_dict1 (se_tup (sl_cons se_int sl_nil))) (sl_cons (se_of (sf_lst (sl_cons (se_of (sf_lst (sl_cons se_non sl_nil))) sl_nil))) sl_nil)))))))))))))))))
    (sss_one (ss_ret (se_call (ok__law_pick T) (hr.mono (by decide)) ps (sa_cons (sx_var (i := 0)) (sa_cons (sx_var (i := 1)) sa_nil))))))

def G__law_kinds : SD → M Fl :=
    (seqM (setV 1 (ofL (lstV nilV)))
    (seqM (setV 1 (u2 addD (getD 1) (ofL (lstV (consV (u2 (isE Ls sub) (getS 0) (ofD (kD (.gl "BadPrime")))) (consV (u2 (isE Ls sub) (getS 0) (ofD (kD (.gl "BadRow")))) (consV (u2 (isE Ls sub) (getS 0) (ofD (kD (.gl "BadSquare")))) nilV)))))))
    (seqM (setV 1 (u2 addD (getD 1) (ofL (lstV (consV (u2 (isE Ls sub) (getS 0) (ofD (kD (.gl "BadMap")))) (consV (u2 (isE Ls sub) (getS 0) (ofD (kD (.gl "BadBasis")))) (consV (u2 (isE Ls sub) (getS 0) (ofD (kD (.gl "BadGroup")))) nilV)))))))
    (seqM (setV 1 (u2 addD (getD 1) (ofL (lstV (consV (u2 (isE Ls sub) (getS 0) (ofD (kD (.gl "BadCrossing")))) (consV (u2 (isE Ls sub) (getS 0) (ofD (kD (.gl "BadTwist")))) (consV (u2 (isE Ls sub) (getS 0) (ofD (kD (.gl "BadStart")))) nilV)))))))
    (seqM (setV 1 (u2 addD (getD 1) (ofL (lstV (consV (u2 (isE Ls sub) (getS 0) (ofD (kD (.gl "BadDeed")))) (consV (u2 (isE Ls sub) (getS 0) (ofD (kD (.gl "BadName")))) (consV (u2 (isE Ls sub) (getS 0) (ofD (kD (.gl "BadLive")))) nilV)))))))
    (seqM (setV 1 (u2 addD (getD 1) (ofL (lstV (consV (u2 (isE Ls sub) (getS 0) (ofD (kD (.gl "NothingLeft")))) (consV (u2 (isE Ls sub) (getS 0) (ofD (kD (.gl "BadSelfsplit")))) nilV))))))
    (seqM (setV 1 (u2 addD (getD 1) (ofL (lstV (consV (u2 (isE Ls sub) (getS 0) (ofD (kD (.gl "BadStrands")))) (consV (u2 (isE Ls sub) (getS 0) (ofD (kD (.gl "BadBraid")))) (consV (u2 (isE Ls sub) (getS 0) (ofD (kD (.gl "BadOrders")))) nilV)))))))
    (seqM (setV 1 (u2 addD (getD 1) (ofL (lstV (consV (u2 (isE Ls sub) (getS 0) (ofD (kD (.gl "BadWeigher")))) (consV (u2 (isE Ls sub) (getS 0) (ofD (kD (.gl "NoTwist")))) (consV (u2 (isE Ls sub) (getS 0) (ofD (kD (.gl "BadCut")))) nilV)))))))
    (seqM (setV 1 (u2 addD (getD 1) (ofL (lstV (consV (u2 (isE Ls sub) (getS 0) (ofD (kD (.gl "NotSimple")))) (consV (u2 (isE Ls sub) (getS 0) (ofD (kD (.gl "BadThing")))) (consV (u2 (isE Ls sub) (getS 0) (ofD (kD (.gl "BadPair")))) nilV)))))))
    (seqM (setV 1 (u2 addD (getD 1) (ofL (lstV (consV (u2 (isE Ls sub) (getS 0) (ofD (kD (.gl "BadLetters")))) (consV (u2 (isE Ls sub) (getS 0) (ofD (kD (.gl "BadWay")))) (consV (u2 (isE Ls sub) (getS 0) (ofD (kD (.gl "BadGrades")))) nilV)))))))
    (seqM (setV 1 (u2 addD (getD 1) (ofL (lstV (consV (u2 (isE Ls sub) (getS 0) (ofD (kD (.gl "BadPairRoom")))) (consV (u2 (isE Ls sub) (getS 0) (ofD (kD (.gl "BadStay")))) (consV (u2 (isE Ls sub) (getS 0) (ofD (kD (.gl "BadForm")))) nilV)))))))
    (seqM (setV 1 (u2 addD (getD 1) (ofL (lstV (consV (u2 (isE Ls sub) (getS 0) (ofD (kD (.gl "BadShape")))) (consV (u2 (isE Ls sub) (getS 0) (ofD (kD (.gl "BadBook")))) (consV (u2 (isE Ls sub) (getS 0) (ofD (kD (.gl "BadNumber")))) nilV)))))))
    (seqM (setV 1 (u2 addD (getD 1) (ofL (lstV (consV (u2 (isE Ls sub) (getS 0) (ofD (kD (.gl "BadBrackets")))) (consV (u2 (isE Ls sub) (getS 0) (ofD (kD (.gl "BadRoom")))) (consV (u2 (isE Ls sub) (getS 0) (ofD (kD (.gl "BadTable")))) nilV)))))))
    (seqM (setV 1 (u2 addD (getD 1) (ofL (lstV (consV (u2 (isE Ls sub) (getS 0) (ofD (kD (.gl "BadDoing")))) (consV (u2 (isE Ls sub) (getS 0) (ofD (kD (.gl "BadText")))) (consV (u2 (isE Ls sub) (getS 0) (ofD (kD (.gl "NoWatch")))) nilV)))))))
    (seqM (setV 1 (u2 addD (getD 1) (ofL (lstV (consV (u2 (isE Ls sub) (getS 0) (ofD (kD (.gl "NoMark")))) (consV (u2 (isE Ls sub) (getS 0) (ofD (kD (.gl "TooMany")))) (consV (u2 (isE Ls sub) (getS 0) (ofD (kD (.gl "BadLeads")))) nilV)))))))
    (seqM (setV 1 (u2 addD (getD 1) (ofL (lstV (consV (u2 (isE Ls sub) (getS 0) (ofD (kD (.gl "BadInner")))) (consV (u2 (isE Ls sub) (getS 0) (ofD (kD (.gl "BadCrossed")))) nilV))))))
    (retV (getD 1))))))))))))))))))
def F__law_kinds : List S → M D := fnM 2 G__law_kinds
theorem sc__law_kinds : FnScope ["_law_error", "_law_found"] ["_law_error"] (defScope (top 51)) := ⟨rfl, rfl, rfl, by decide +kernel, rfl, by decide +kernel, by decide +kernel⟩
theorem ok__law_kinds (T : Tx K mg) : Fx P w K mg base 4 "_law_kinds" ["_law_error"] F__law_kinds := by
  have nd := sc__law_kinds.nd
  obtain ⟨fd, FD⟩ := d__law_kinds T
  refine ⟨⟨fd, fn_mk FD sc__law_kinds (fun cdv A outer s H E hr => ?_), FD.bindsN fun _ _ _ _ _ _ us hl => match us, hl with | [_], _ => rfl⟩, g__law_kinds T, FD.kp⟩
  have tk := takes_of (X := cxOf (L2.CX P w) P w K mg base ["_law_error", "_law_found"] "_law_kinds" (defScope (top 51)) (He.ga K "_law_kinds") cdv A outer s H E) (E := E) rfl rfl rfl rfl
  have ps : Passes (L2.CX P w) (cxOf (L2.CX P w) P w K mg base ["_law_error", "_law_found"] "_law_kinds" (defScope (top 51)) (He.ga K "_law_kinds") cdv A outer s H E) E := passes_call tk (fun _ _ _ _ h => h)
  have psX : Passes (L2.CX P w) (cxOf (L2.CX P w) P w K mg base ["_law_error", "_law_found"] "_law_kinds" (defScope (top 51)) (He.ga K "_law_kinds") cdv A outer s H E) (fun _ _ _ => False) := passes_call tk (fun _ _ _ _ h => h.elim)
  exact (sss_cons (ss_set (i := 1) nd (se_of (sf_lst sl_nil)))
    (sss_cons (ss_set (i := 1) nd (se_add (se_var (i := 1)) (se_of (sf_lst (sl_cons (se_b2 call_isX (isE_ok (exs T)) (m_isinstance T) (sx_var (i := 0)) (sx_of (se_glo (g_BadPrime T)))) (sl_cons (se_b2 call_isX (isE_ok (exs T)) (m_isinstance T) (sx_var (i := 0)) (sx_of (se_glo (g_BadRow T)))) (sl_cons (se_b2 call_isX (isE_ok (exs T)) (m_isinstance T) (sx_var (i := 0)) (sx_of (se_glo (g_BadSquare T)))) sl_nil)))))))
    (sss_cons (ss_set (i := 1) nd (se_add (se_var (i := 1)) (se_of (sf_lst (sl_cons (se_b2 call_isX (isE_ok (exs T)) (m_isinstance T) (sx_var (i := 0)) (sx_of (se_glo (g_BadMap T)))) (sl_cons (se_b2 call_isX (isE_ok (exs T)) (m_isinstance T) (sx_var (i := 0)) (sx_of (se_glo (g_BadBasis T)))) (sl_cons (se_b2 call_isX (isE_ok (exs T)) (m_isinstance T) (sx_var (i := 0)) (sx_of (se_glo (g_BadGroup T)))) sl_nil)))))))
    (sss_cons (ss_set (i := 1) nd (se_add (se_var (i := 1)) (se_of (sf_lst (sl_cons (se_b2 call_isX (isE_ok (exs T)) (m_isinstance T) (sx_var (i := 0)) (sx_of (se_glo (g_BadCrossing T)))) (sl_cons (se_b2 call_isX (isE_ok (exs T)) (m_isinstance T) (sx_var (i := 0)) (sx_of (se_glo (g_BadTwist T)))) (sl_cons (se_b2 call_isX (isE_ok (exs T)) (m_isinstance T) (sx_var (i := 0)) (sx_of (se_glo (g_BadStart T)))) sl_nil)))))))
    (sss_cons (ss_set (i := 1) nd (se_add (se_var (i := 1)) (se_of (sf_lst (sl_cons (se_b2 call_isX (isE_ok (exs T)) (m_isinstance T) (sx_var (i := 0)) (sx_of (se_glo (g_BadDeed T)))) (sl_cons (se_b2 call_isX (isE_ok (exs T)) (m_isinstance T) (sx_var (i := 0)) (sx_of (se_glo (g_BadName T)))) (sl_cons (se_b2 call_isX (isE_ok (exs T)) (m_isinstance T) (sx_var (i := 0)) (sx_of (se_glo (g_BadLive T)))) sl_nil)))))))
    (sss_cons (ss_set (i := 1) nd (se_add (se_var (i := 1)) (se_of (sf_lst (sl_cons (se_b2 call_isX (isE_ok (exs T)) (m_isinstance T) (sx_var (i := 0)) (sx_of (se_glo (g_NothingLeft T)))) (sl_cons (se_b2 call_isX (isE_ok (exs T)) (m_isinstance T) (sx_var (i := 0)) (sx_of (se_glo (g_BadSelfsplit T)))) sl_nil))))))
    (sss_cons (ss_set (i := 1) nd (se_add (se_var (i := 1)) (se_of (sf_lst (sl_cons (se_b2 call_isX (isE_ok (exs T)) (m_isinstance T) (sx_var (i := 0)) (sx_of (se_glo (g_BadStrands T)))) (sl_cons (se_b2 call_isX (isE_ok (exs T)) (m_isinstance T) (sx_var (i := 0)) (sx_of (se_glo (g_BadBraid T)))) (sl_cons (se_b2 call_isX (isE_ok (exs T)) (m_isinstance T) (sx_var (i := 0)) (sx_of (se_glo (g_BadOrders T)))) sl_nil)))))))
    (sss_cons (ss_set (i := 1) nd (se_add (se_var (i := 1)) (se_of (sf_lst (sl_cons (se_b2 call_isX (isE_ok (exs T)) (m_isinstance T) (sx_var (i := 0)) (sx_of (se_glo (g_BadWeigher T)))) (sl_cons (se_b2 call_isX (isE_ok (exs T)) (m_isinstance T) (sx_var (i := 0)) (sx_of (se_glo (g_NoTwist T)))) (sl_cons (se_b2 call_isX (isE_ok (exs T)) (m_isinstance T) (sx_var (i := 0)) (sx_of (se_glo (g_BadCut T)))) sl_nil)))))))
    (sss_cons (ss_set (i := 1) nd (se_add (se_var (i := 1)) (se_of (sf_lst (sl_cons (se_b2 call_isX (isE_ok (exs T)) (m_isinstance T) (sx_var (i := 0)) (sx_of (se_glo (g_NotSimple T)))) (sl_cons (se_b2 call_isX (isE_ok (exs T)) (m_isinstance T) (sx_var (i := 0)) (sx_of (se_glo (g_BadThing T)))) (sl_cons (se_b2 call_isX (isE_ok (exs T)) (m_isinstance T) (sx_var (i := 0)) (sx_of (se_glo (g_BadPair T)))) sl_nil)))))))
    (sss_cons (ss_set (i := 1) nd (se_add (se_var (i := 1)) (se_of (sf_lst (sl_cons (se_b2 call_isX (isE_ok (exs T)) (m_isinstance T) (sx_var (i := 0)) (sx_of (se_glo (g_BadLetters T)))) (sl_cons (se_b2 call_isX (isE_ok (exs T)) (m_isinstance T) (sx_var (i := 0)) (sx_of (se_glo (g_BadWay T)))) (sl_cons (se_b2 call_isX (isE_ok (exs T)) (m_isinstance T) (sx_var (i := 0)) (sx_of (se_glo (g_BadGrades T)))) sl_nil)))))))
    (sss_cons (ss_set (i := 1) nd (se_add (se_var (i := 1)) (se_of (sf_lst (sl_cons (se_b2 call_isX (isE_ok (exs T)) (m_isinstance T) (sx_var (i := 0)) (sx_of (se_glo (g_BadPairRoom T)))) (sl_cons (se_b2 call_isX (isE_ok (exs T)) (m_isinstance T) (sx_var (i := 0)) (sx_of (se_glo (g_BadStay T)))) (sl_cons (se_b2 call_isX (isE_ok (exs T)) (m_isinstance T) (sx_var (i := 0)) (sx_of (se_glo (g_BadForm T)))) sl_nil)))))))
    (sss_cons (ss_set (i := 1) nd (se_add (se_var (i := 1)) (se_of (sf_lst (sl_cons (se_b2 call_isX (isE_ok (exs T)) (m_isinstance T) (sx_var (i := 0)) (sx_of (se_glo (g_BadShape T)))) (sl_cons (se_b2 call_isX (isE_ok (exs T)) (m_isinstance T) (sx_var (i := 0)) (sx_of (se_glo (g_BadBook T)))) (sl_cons (se_b2 call_isX (isE_ok (exs T)) (m_isinstance T) (sx_var (i := 0)) (sx_of (se_glo (g_BadNumber T)))) sl_nil)))))))
    (sss_cons (ss_set (i := 1) nd (se_add (se_var (i := 1)) (se_of (sf_lst (sl_cons (se_b2 call_isX (isE_ok (exs T)) (m_isinstance T) (sx_var (i := 0)) (sx_of (se_glo (g_BadBrackets T)))) (sl_cons (se_b2 call_isX (isE_ok (exs T)) (m_isinstance T) (sx_var (i := 0)) (sx_of (se_glo (g_BadRoom T)))) (sl_cons (se_b2 call_isX (isE_ok (exs T)) (m_isinstance T) (sx_var (i := 0)) (sx_of (se_glo (g_BadTable T)))) sl_nil)))))))
    (sss_cons (ss_set (i := 1) nd (se_add (se_var (i := 1)) (se_of (sf_lst (sl_cons (se_b2 call_isX (isE_ok (exs T)) (m_isinstance T) (sx_var (i := 0)) (sx_of (se_glo (g_BadDoing T)))) (sl_cons (se_b2 call_isX (isE_ok (exs T)) (m_isinstance T) (sx_var (i := 0)) (sx_of (se_glo (g_BadText T)))) (sl_cons (se_b2 call_isX (isE_ok (exs T)) (m_isinstance T) (sx_var (i := 0)) (sx_of (se_glo (g_NoWatch T)))) sl_nil)))))))
    (sss_cons (ss_set (i := 1) nd (se_add (se_var (i := 1)) (se_of (sf_lst (sl_cons (se_b2 call_isX (isE_ok (exs T)) (m_isinstance T) (sx_var (i := 0)) (sx_of (se_glo (g_NoMark T)))) (sl_cons (se_b2 call_isX (isE_ok (exs T)) (m_isinstance T) (sx_var (i := 0)) (sx_of (se_glo (g_TooMany T)))) (sl_cons (se_b2 call_isX (isE_ok (exs T)) (m_isinstance T) (sx_var (i := 0)) (sx_of (se_glo (g_BadLeads T)))) sl_nil)))))))
    (sss_cons (ss_set (i := 1) nd (se_add (se_var (i := 1)) (se_of (sf_lst (sl_cons (se_b2 call_isX (isE_ok (exs T)) (m_isinstance T) (sx_var (i := 0)) (sx_of (se_glo (g_BadInner T)))) (sl_cons (se_b2 call_isX (isE_ok (exs T)) (m_isinstance T) (sx_var (i := 0)) (sx_of (se_glo (g_BadCrossed T)))) sl_nil))))))
    (sss_one (ss_ret (se_var (i := 1))))))))))))))))))))

def G__law_plain_errors : SD → M Fl :=
    (seqM (setV 1 (ofL (lstV nilV)))
    (seqM (setV 1 (u2 addD (getD 1) (ofL (lstV (consV (mkE "BadPrime" (getD 0)) (consV (mkE "BadRow" (getD 0)) (consV (mkE "BadSquare" (getD 0)) (consV (mkE "BadMap" (getD 0)) nilV))))))))
    (seqM (setV 1 (u2 addD (getD 1) (ofL (lstV (consV (mkE "BadBasis" (getD 0)) (consV (mkE "BadGroup" (getD 0)) (consV (mkE "BadCrossing" (getD 0)) nilV)))))))
    (seqM (setV 1 (u2 addD (getD 1) (ofL (lstV (consV (mkE "BadTwist" (getD 0)) (consV (mkE "BadStart" (getD 0)) (consV (mkE "BadDeed" (getD 0)) (consV (mkE "BadName" (getD 0)) nilV))))))))
    (seqM (setV 1 (u2 addD (getD 1) (ofL (lstV (consV (mkE "BadLive" (getD 0)) (consV (mkE "NothingLeft" (getD 0)) (consV (mkE "BadSelfsplit" (getD 0)) nilV)))))))
    (seqM (setV 1 (u2 addD (getD 1) (ofL (lstV (consV (mkE "BadStrands" (getD 0)) (consV (mkE "BadBraid" (getD 0)) (consV (mkE "BadOrders" (getD 0)) nilV)))))))
    (seqM (setV 1 (u2 addD (getD 1) (ofL (lstV (consV (mkE "BadWeigher" (getD 0)) (consV (mkE "NoTwist" (getD 0)) (consV (mkE "BadCut" (getD 0)) (consV (mkE "NotSimple" (getD 0)) nilV))))))))
    (seqM (setV 1 (u2 addD (getD 1) (ofL (lstV (consV (mkE "BadThing" (getD 0)) (consV (mkE "BadPair" (getD 0)) (consV (mkE "BadLetters" (getD 0)) (consV (mkE "BadWay" (getD 0)) nilV))))))))
    (seqM (setV 1 (u2 addD (getD 1) (ofL (lstV (consV (mkE "BadGrades" (getD 0)) (consV (mkE "BadPairRoom" (getD 0)) (consV (mkE "BadStay" (getD 0)) (consV (mkE "BadForm" (getD 0)) nilV))))))))
    (retV (getD 1)))))))))))
def F__law_plain_errors : List S → M D := fnM 2 G__law_plain_errors
theorem sc__law_plain_errors : FnScope ["_law_words_here", "_law_found"] ["_law_words_here"] (defScope (top 52)) := ⟨rfl, rfl, rfl, by decide +kernel, rfl, by decide +kernel, by decide +kernel⟩
theorem ok__law_plain_errors (T : Tx K mg) : Fx P w K mg base 4 "_law_plain_errors" ["_law_words_here"] F__law_plain_errors := by
  have nd := sc__law_plain_errors.nd
  obtain ⟨fd, FD⟩ := d__law_plain_errors T
  refine ⟨⟨fd, fn_mk FD sc__law_plain_errors (fun cdv A outer s H E hr => ?_), FD.bindsN fun _ _ _ _ _ _ us hl => match us, hl with | [_], _ => rfl⟩, g__law_plain_errors T, FD.kp⟩
  have tk := takes_of (X := cxOf (L2.CX P w) P w K mg base ["_law_words_here", "_law_found"] "_law_plain_errors" (defScope (top 52)) (He.ga K "_law_plain_errors") cdv A outer s H E) (E := E) rfl rfl rfl rfl
  have ps : Passes (L2.CX P w) (cxOf (L2.CX P w) P w K mg base ["_law_words_here", "_law_found"] "_law_plain_errors" (defScope (top 52)) (He.ga K "_law_plain_errors") cdv A outer s H E) E := passes_call tk (fun _ _ _ _ h => h)
  have psX : Passes (L2.CX P w) (cxOf (L2.CX P w) P w K mg base ["_law_words_here", "_law_found"] "_law_plain_errors" (defScope (top 52)) (He.ga K "_law_plain_errors") cdv A outer s H E) (fun _ _ _ => False) := passes_call tk (fun _ _ _ _ h => h.elim)
  exact (sss_cons (ss_set (i := 1) nd (se_of (sf_lst sl_nil)))
    (sss_cons (ss_set (i := 1) nd (se_add (se_var (i := 1)) (se_of (sf_lst (sl_cons (se_ex1 (x_BadPrime T) (se_var (i := 0))) (sl_cons (se_ex1 (x_BadRow T) (se_var (i := 0))) (sl_cons (se_ex1 (x_BadSquare T) (se_var (i := 0))) (sl_cons (se_ex1 (x_BadMap T) (se_var (i := 0))) sl_nil))))))))
    (sss_cons (ss_set (i := 1) nd (se_add (se_var (i := 1)) (se_of (sf_lst (sl_cons (se_ex1 (x_BadBasis T) (se_var (i := 0))) (sl_cons (se_ex1 (x_BadGroup T) (se_var (i := 0))) (sl_cons (se_ex1 (x_BadCrossing T) (se_var (i := 0))) sl_nil)))))))
    (sss_cons (ss_set (i := 1) nd (se_add (se_var (i := 1)) (se_of (sf_lst (sl_cons (se_ex1 (x_BadTwist T) (se_var (i := 0))) (sl_cons (se_ex1 (x_BadStart T) (se_var (i := 0))) (sl_cons (se_ex1 (x_BadDeed T) (se_var (i := 0))) (sl_cons (se_ex1 (x_BadName T) (se_var (i := 0))) sl_nil))))))))
    (sss_cons (ss_set (i := 1) nd (se_add (se_var (i := 1)) (se_of (sf_lst (sl_cons (se_ex1 (x_BadLive T) (se_var (i := 0))) (sl_cons (se_ex1 (x_NothingLeft T) (se_var (i := 0))) (sl_cons (se_ex1 (x_BadSelfsplit T) (se_var (i := 0))) sl_nil)))))))
    (sss_cons (ss_set (i := 1) nd (se_add (se_var (i := 1)) (se_of (sf_lst (sl_cons (se_ex1 (x_BadStrands T) (se_var (i := 0))) (sl_cons (se_ex1 (x_BadBraid T) (se_var (i := 0))) (sl_cons (se_ex1 (x_BadOrders T) (se_var (i := 0))) sl_nil)))))))
    (sss_cons (ss_set (i := 1) nd (se_add (se_var (i := 1)) (se_of (sf_lst (sl_cons (se_ex1 (x_BadWeigher T) (se_var (i := 0))) (sl_cons (se_ex1 (x_NoTwist T) (se_var (i := 0))) (sl_cons (se_ex1 (x_BadCut T) (se_var (i := 0))) (sl_cons (se_ex1 (x_NotSimple T) (se_var (i := 0))) sl_nil))))))))
    (sss_cons (ss_set (i := 1) nd (se_add (se_var (i := 1)) (se_of (sf_lst (sl_cons (se_ex1 (x_BadThing T) (se_var (i := 0))) (sl_cons (se_ex1 (x_BadPair T) (se_var (i := 0))) (sl_cons (se_ex1 (x_BadLetters T) (se_var (i := 0))) (sl_cons (se_ex1 (x_BadWay T) (se_var (i := 0))) sl_nil))))))))
    (sss_cons (ss_set (i := 1) nd (se_add (se_var (i := 1)) (se_of (sf_lst (sl_cons (se_ex1 (x_BadGrades T) (se_var (i := 0))) (sl_cons (se_ex1 (x_BadPairRoom T) (se_var (i := 0))) (sl_cons (se_ex1 (x_BadStay T) (se_var (i := 0))) (sl_cons (se_ex1 (x_BadForm T) (se_var (i := 0))) sl_nil))))))))
    (sss_one (ss_ret (se_var (i := 1)))))))))))))

def G__law_errors_of : SD → M Fl :=
    (seqM (setX 1 (newV (lstV nilV)))
    (seqM (dropV (lm1 appS (getS 1) (tupV (consV (mkX "BadShape" "part" (getD 0)) (consV (u1 (getX L_part "part") (mkX "BadShape" "part" (getD 0))) (consV (u1 (getX L_part "part") (mkX "BadShape" "part" (getD 0))) nilV))))))
    (seqM (dropV (lm1 appS (getS 1) (tupV (consV (mkX "BadBook" "part" (getD 0)) (consV (u1 (getX L_part "part") (mkX "BadBook" "part" (getD 0))) (consV (u1 (getX L_part "part") (mkX "BadBook" "part" (getD 0))) nilV))))))
    (seqM (dropV (lm1 appS (getS 1) (tupV (consV (mkX "BadNumber" "part" (getD 0)) (consV (u1 (getX L_part "part") (mkX "BadNumber" "part" (getD 0))) (consV (u1 (getX L_part "part") (mkX "BadNumber" "part" (getD 0))) nilV))))))
    (seqM (dropV (lm1 appS (getS 1) (tupV (consV (mkX "BadBrackets" "part" (getD 0)) (consV (u1 (getX L_part "part") (mkX "BadBrackets" "part" (getD 0))) (consV (u1 (getX L_part "part") (mkX "BadBrackets" "part" (getD 0))) nilV))))))
    (seqM (dropV (lm1 appS (getS 1) (tupV (consV (mkX "BadRoom" "part" (getD 0)) (consV (u1 (getX L_part "part") (mkX "BadRoom" "part" (getD 0))) (consV (u1 (getX L_part "part") (mkX "BadRoom" "part" (getD 0))) nilV))))))
    (seqM (dropV (lm1 appS (getS 1) (tupV (consV (mkX "BadTable" "part" (getD 0)) (consV (u1 (getX L_part "part") (mkX "BadTable" "part" (getD 0))) (consV (u1 (getX L_part "part") (mkX "BadTable" "part" (getD 0))) nilV))))))
    (seqM (dropV (lm1 appS (getS 1) (tupV (consV (mkX "BadDoing" "part" (getD 0)) (consV (u1 (getX L_part "part") (mkX "BadDoing" "part" (getD 0))) (consV (u1 (getX L_part "part") (mkX "BadDoing" "part" (getD 0))) nilV))))))
    (seqM (dropV (lm1 appS (getS 1) (tupV (consV (mkX "BadText" "at" (getD 0)) (consV (u1 (getX L_at "at") (mkX "BadText" "at" (getD 0))) (consV (u1 (getX L_at "at") (mkX "BadText" "at" (getD 0))) nilV))))))
    (seqM (dropV (lm1 appS (getS 1) (tupV (consV (mkX "NoWatch" "name" (getD 0)) (consV (u1 (getX L_name "name") (mkX "NoWatch" "name" (getD 0))) (consV (u1 (getX L_name "name") (mkX "NoWatch" "name" (getD 0))) nilV))))))
    (seqM (dropV (lm1 appS (getS 1) (tupV (consV (mkX "NoMark" "name" (getD 0)) (consV (u1 (getX L_name "name") (mkX "NoMark" "name" (getD 0))) (consV (u1 (getX L_name "name") (mkX "NoMark" "name" (getD 0))) nilV))))))
    (seqM (dropV (lm1 appS (getS 1) (tupV (consV (mkX "TooMany" "most" (getD 0)) (consV (u1 (getX L_most "most") (mkX "TooMany" "most" (getD 0))) (consV (u1 (getX L_most "most") (mkX "TooMany" "most" (getD 0))) nilV))))))
    (seqM (dropV (lm1 appS (getS 1) (tupV (consV (mkX "BadLeads" "part" (getD 0)) (consV (u1 (getX L_part "part") (mkX "BadLeads" "part" (getD 0))) (consV (u1 (getX L_part "part") (mkX "BadLeads" "part" (getD 0))) nilV))))))
    (seqM (dropV (lm1 appS (getS 1) (tupV (consV (mkX "BadInner" "part" (getD 0)) (consV (u1 (getX L_part "part") (mkX "BadInner" "part" (getD 0))) (consV (u1 (getX L_part "part") (mkX "BadInner" "part" (getD 0))) nilV))))))
    (seqM (dropV (lm1 appS (getS 1) (tupV (consV (mkX "BadCrossed" "part" (getD 0)) (consV (u1 (getX L_part "part") (mkX "BadCrossed" "part" (getD 0))) (consV (u1 (getX L_part "part") (mkX "BadCrossed" "part" (getD 0))) nilV))))))
    (retV (getD 1)))))))))))))))))
def F__law_errors_of : List S → M D := fnM 2 G__law_errors_of
theorem sc__law_errors_of : FnScope ["_law_each", "_law_found"] ["_law_each"] (defScope (top 53)) := ⟨rfl, rfl, rfl, by decide +kernel, rfl, by decide +kernel, by decide +kernel⟩
theorem ok__law_errors_of (T : Tx K mg) : Fx P w K mg base 4 "_law_errors_of" ["_law_each"] F__law_errors_of := by
  have nd := sc__law_errors_of.nd
  obtain ⟨fd, FD⟩ := d__law_errors_of T
  refine ⟨⟨fd, fn_mk FD sc__law_errors_of (fun cdv A outer s H E hr => ?_), FD.bindsN fun _ _ _ _ _ _ us hl => match us, hl with | [_], _ => rfl⟩, g__law_errors_of T, FD.kp⟩
  have tk := takes_of (X := cxOf (L2.CX P w) P w K mg base ["_law_each", "_law_found"] "_law_errors_of" (defScope (top 53)) (He.ga K "_law_errors_of") cdv A outer s H E) (E := E) rfl rfl rfl rfl
  have ps : Passes (L2.CX P w) (cxOf (L2.CX P w) P w K mg base ["_law_each", "_law_found"] "_law_errors_of" (defScope (top 53)) (He.ga K "_law_errors_of") cdv A outer s H E) E := passes_call tk (fun _ _ _ _ h => h)
  have psX : Passes (L2.CX P w) (cxOf (L2.CX P w) P w K mg base ["_law_each", "_law_found"] "_law_errors_of" (defScope (top 53)) (He.ga K "_law_errors_of") cdv A outer s H E) (fun _ _ _ => False) := passes_call tk (fun _ _ _ _ h => h.elim)
  exact (sss_cons (ss_setX (i := 1) nd (sx_new (sf_lst sl_nil)))
    (sss_cons (ss_expr (se_append (sx_var (i := 1)) (se_tup (sl_cons (se_mkx (in_BadShape T) (hr.mono (by decide)) psX (se_var (i := 0))) (sl_cons (se_xa (xa_part T) (se_mkx (in_BadShape T) (hr.mono (by decide)) psX (se_var (i := 0)))) (sl_cons (se_xa (xa_part T) (se_mkxk (in_BadShape T) (hr.mono (by decide)) psX (se_var (i := 0)))) sl_nil))))))
    (sss_cons (ss_expr (se_append (sx_var (i := 1)) (se_tup (sl_cons (se_mkx (in_BadBook T) (hr.mono (by decide)) psX (se_var (i := 0))) (sl_cons (se_xa (xa_part T) (se_mkx (in_BadBook T) (hr.mono (by decide)) psX (se_var (i := 0)))) (sl_cons (se_xa (xa_part T) (se_mkxk (in_BadBook T) (hr.mono (by decide)) psX (se_var (i := 0)))) sl_nil))))))
    (sss_cons (ss_expr (se_append (sx_var (i := 1)) (se_tup (sl_cons (se_mkx (in_BadNumber T) (hr.mono (by decide)) psX (se_var (i := 0))) (sl_cons (se_xa (xa_part T) (se_mkx (in_BadNumber T) (hr.mono (by decide)) psX (se_var (i := 0)))) (sl_cons (se_xa (xa_part T) (se_mkxk (in_BadNumber T) (hr.mono (by decide)) psX (se_var (i := 0)))) sl_nil))))))
    (sss_cons (ss_expr (se_append (sx_var (i := 1)) (se_tup (sl_cons (se_mkx (in_BadBrackets T) (hr.mono (by decide)) psX (se_var (i := 0))) (sl_cons (se_xa (xa_part T) (se_mkx (in_BadBrackets T) (hr.mono (by decide)) psX (se_var (i := 0)))) (sl_cons (se_xa (xa_part T) (se_mkxk (in_BadBrackets T) (hr.mono (by decide)) psX (se_var (i := 0)))) sl_nil))))))
    (sss_cons (ss_expr (se_append (sx_var (i := 1)) (se_tup (sl_cons (se_mkx (in_BadRoom T) (hr.mono (by decide)) psX (se_var (i := 0))) (sl_cons (se_xa (xa_part T) (se_mkx (in_BadRoom T) (hr.mono (by decide)) psX (se_var (i := 0)))) (sl_cons (se_xa (xa_part T) (se_mkxk (in_BadRoom T) (hr.mono (by decide)) psX (se_var (i := 0)))) sl_nil))))))
    (sss_cons (ss_expr (se_append (sx_var (i := 1)) (se_tup (sl_cons (se_mkx (in_BadTable T) (hr.mono (by decide)) psX (se_var (i := 0))) (sl_cons (se_xa (xa_part T) (se_mkx (in_BadTable T) (hr.mono (by decide)) psX (se_var (i := 0)))) (sl_cons (se_xa (xa_part T) (se_mkxk (in_BadTable T) (hr.mono (by decide)) psX (se_var (i := 0)))) sl_nil))))))
    (sss_cons (ss_expr (se_append (sx_var (i := 1)) (se_tup (sl_cons (se_mkx (in_BadDoing T) (hr.mono (by decide)) psX (se_var (i := 0))) (sl_cons (se_xa (xa_part T) (se_mkx (in_BadDoing T) (hr.mono (by decide)) psX (se_var (i := 0)))) (sl_cons (se_xa (xa_part T) (se_mkxk (in_BadDoing T) (hr.mono (by decide)) psX (se_var (i := 0)))) sl_nil))))))
    (sss_cons (ss_expr (se_append (sx_var (i := 1)) (se_tup (sl_cons (se_mkx (in_BadText T) (hr.mono (by decide)) psX (se_var (i := 0))) (sl_cons (se_xa (xa_at T) (se_mkx (in_BadText T) (hr.mono (by decide)) psX (se_var (i := 0)))) (sl_cons (se_xa (xa_at T) (se_mkxk (in_BadText T) (hr.mono (by decide)) psX (se_var (i := 0)))) sl_nil))))))
    (sss_cons (ss_expr (se_append (sx_var (i := 1)) (se_tup (sl_cons (se_mkx (in_NoWatch T) (hr.mono (by decide)) psX (se_var (i := 0))) (sl_cons (se_xa (xa_name T) (se_mkx (in_NoWatch T) (hr.mono (by decide)) psX (se_var (i := 0)))) (sl_cons (se_xa (xa_name T) (se_mkxk (in_NoWatch T) (hr.mono (by decide)) psX (se_var (i := 0)))) sl_nil))))))
    (sss_cons (ss_expr (se_append (sx_var (i := 1)) (se_tup (sl_cons (se_mkx (in_NoMark T) (hr.mono (by decide)) psX (se_var (i := 0))) (sl_cons (se_xa (xa_name T) (se_mkx (in_NoMark T) (hr.mono (by decide)) psX (se_var (i := 0)))) (sl_cons (se_xa (xa_name T) (se_mkxk (in_NoMark T) (hr.mono (by decide)) psX (se_var (i := 0)))) sl_nil))))))
    (sss_cons (ss_expr (se_append (sx_var (i := 1)) (se_tup (sl_cons (se_mkx (in_TooMany T) (hr.mono (by decide)) psX (se_var (i := 0))) (sl_cons (se_xa (xa_most T) (se_mkx (in_TooMany T) (hr.mono (by decide)) psX (se_var (i := 0)))) (sl_cons (se_xa (xa_most T) (se_mkxk (in_TooMany T) (hr.mono (by decide)) psX (se_var (i := 0)))) sl_nil))))))
    (sss_cons (ss_expr (se_append (sx_var (i := 1)) (se_tup (sl_cons (se_mkx (in_BadLeads T) (hr.mono (by decide)) psX (se_var (i := 0))) (sl_cons (se_xa (xa_part T) (se_mkx (in_BadLeads T) (hr.mono (by decide)) psX (se_var (i := 0)))) (sl_cons (se_xa (xa_part T) (se_mkxk (in_BadLeads T) (hr.mono (by decide)) psX (se_var (i := 0)))) sl_nil))))))
    (sss_cons (ss_expr (se_append (sx_var (i := 1)) (se_tup (sl_cons (se_mkx (in_BadInner T) (hr.mono (by decide)) psX (se_var (i := 0))) (sl_cons (se_xa (xa_part T) (se_mkx (in_BadInner T) (hr.mono (by decide)) psX (se_var (i := 0)))) (sl_cons (se_xa (xa_part T) (se_mkxk (in_BadInner T) (hr.mono (by decide)) psX (se_var (i := 0)))) sl_nil))))))
    (sss_cons (ss_expr (se_append (sx_var (i := 1)) (se_tup (sl_cons (se_mkx (in_BadCrossed T) (hr.mono (by decide)) psX (se_var (i := 0))) (sl_cons (se_xa (xa_part T) (se_mkx (in_BadCrossed T) (hr.mono (by decide)) psX (se_var (i := 0)))) (sl_cons (se_xa (xa_part T) (se_mkxk (in_BadCrossed T) (hr.mono (by decide)) psX (se_var (i := 0)))) sl_nil))))))
    (sss_one (ss_ret (se_var (i := 1)))))))))))))))))))

def G_law : SD → M Fl :=
    (seqM (setX 1 (callX 1 F_begun (consV (getS 0) nilV)))
    (seqM (asgV (tupV (consV (callM 2 F__law_pick (consV (getS 1) (consV (ofD (ofL (lstV (consV (kD (.str "")) (consV (kD (.str "w")) (consV (kD (.str "nothing of the kind")) nilV)))))) nilV))) (consV (callM 1 F__law_any (consV (getS 1) nilV)) nilV))) (tgT 2 (tgC (tgN 2) (tgC (tgN 3) tg0))))
    (seqM (setV 4 (callM 1 F__law_errors_of (consV (getS 3) nilV)))
    (seqM (setV 5 (u2 addD (callM 1 F__law_plain_errors (consV (getS 2) nilV)) (ofL (lcM [6] (seqI (getD 4)) (tgN 6) yes (u2 ixS (getS 6) (kD (.int 0)))))))
    (seqM (forV (enumI (getD 5)) (tgT 2 (tgC (tgN 7) (tgC (tgN 8) tg0))) (seqM (ifV (c2 neD (callM 1 F__law_kinds (consV (getS 8) nilV)) (ofL (lcM [9] (u1 rng1 (kD (.int 43))) (tgN 9) yes (u2 eqD (getD 9) (getD 7))))) (retV (kD (.bl false))) nxV)
    (ifV (orB (notB (tst (u2 (isE Ls sub) (getS 8) (ofD (kD (.gl "SplitError")))))) (notB (tst (u2 (isE Ls sub) (getS 8) (ofD (kD (.ty "ValueError"))))))) (retV (kD (.bl false))) nxV)))
    (seqM (ifV (c2 neD (ofL (lcM [6] (seqI (getD 4)) (tgN 6) (c2 neD (u1 reprS (ofD (ofL (lstV (consV (u2 ixS (getS 6) (kD (.int 1))) (consV (u2 ixS (getS 6) (kD (.int 2))) nilV)))))) (u1 reprS (ofD (ofL (lstV (consV (getD 3) (consV (getD 3) nilV))))))) (kD (.int 1)))) (ofL (lstV nilV))) (retV (kD (.bl false))) nxV)
    (seqM (setV 10 (mkE "SplitError" (kD (.str "w"))))
    (retV (andV (u2 (inS true) (kD (.bl true)) (ofD (callM 1 F__law_kinds (consV (getS 10) nilV)))) (u2 (isE Ls sub) (getS 10) (ofD (kD (.ty "ValueError")))))))))))))
def F_law : List S → M D := fnM 11 G_law
theorem sc_law : FnScope ["_law_script", "_law_draw", "_law_words_here", "_law_each", "_law_threes_here", "_law_errors_here", "_law_item", "_law_spot", "_law_error", "_law_k", "_law_base_here"] ["_law_script"] (defScope (top 54)) := ⟨rfl, rfl, rfl, by decide +kernel, rfl, by decide +kernel, by decide +kernel⟩
theorem run_law (T : Tx K mg) : ∃ fd, (∀ (s : Shared) (v : Value), BindsTo s fd ⟨[v], []⟩ [("_law_script", v)]) ∧ ∀ base : Heap, RunAt P w K mg base (L2.CX P w) callerA (He.ga K "law") fd ["_law_script"] (spF K 1 F_law) := by
  have nd := sc_law.nd
  obtain ⟨fd, FD⟩ := d_law T
  refine ⟨fd, fun s v => (FD.bindsA (ps := ["_law_script"]) fun _ _ _ _ _ _ us hl => match us, hl with | [_], _ => rfl) s [v] rfl, fun base => fn_at (k := 8) ⟨rfl, by decide, by decide⟩ FD sc_law (fun cdv outer s H E hr => ?_)⟩
  have tk := takes_of (X := (cxOf (L2.CX P w) P w K mg base ["_law_script", "_law_draw", "_law_words_here", "_law_each", "_law_threes_here", "_law_errors_here", "_law_item", "_law_spot", "_law_error", "_law_k", "_law_base_here"] "law" (defScope (top 54)) (He.ga K "law") cdv callerA outer s H E)) (E := E) rfl rfl rfl rfl
  have ps : Passes (L2.CX P w) (cxOf (L2.CX P w) P w K mg base ["_law_script", "_law_draw", "_law_words_here", "_law_each", "_law_threes_here", "_law_errors_here", "_law_item", "_law_spot", "_law_error", "_law_k", "_law_base_here"] "law" (defScope (top 54)) (He.ga K "law") cdv callerA outer s H E) E := passes_call tk (fun _ _ _ _ h => h)
  have psX : Passes (L2.CX P w) (cxOf (L2.CX P w) P w K mg base ["_law_script", "_law_draw", "_law_words_here", "_law_each", "_law_threes_here", "_law_errors_here", "_law_item", "_law_spot", "_law_error", "_law_k", "_law_base_here"] "law" (defScope (top 54)) (He.ga K "law") cdv callerA outer s H E) (fun _ _ _ => False) := passes_call tk (fun _ _ _ _ h => h.elim)
  have hgd : (cxOf (L2.CX P w) P w K mg base ["_law_script", "_law_draw", "_law_words_here", "_law_each", "_law_threes_here", "_law_errors_here", "_law_item", "_law_spot", "_law_error", "_law_k", "_law_base_here"] "law" (defScope (top 54)) (He.ga K "law") cdv callerA outer s H E).A.guards = some [] := rfl
  exact (sss_cons (ss_setX (i := 1) nd (sx_call (ok__law_begun T) (hr.mono (by decide)) ps (sa_cons (sx_var (i := 0)) sa_nil)))
    (sss_cons (ss_asg (se_tup (sl_cons (se_call (ok__law_pick T) (hr.mono (by decide)) ps (sa_cons (sx_var (i := 1)) (sa_cons (sx_of (se_of (sf_lst (sl_cons se_str (sl_cons se_str (sl_cons se_str sl_nil)))))) sa_nil))) (sl_cons (se_call (ok__law_any T) (hr.mono (by decide)) ps (sa_cons (sx_var (i := 1)) sa_nil)) sl_nil))) (sg_tupT rfl (sgs_cons (sg_name (i := 2) nd) (sgs_cons (sg_name (i := 3) nd) sgs_nil))))
    (sss_cons (ss_set (i := 4) nd (se_call (ok__law_errors_of T) (hr.mono (by decide)) ps (sa_cons (sx_var (i := 3)) sa_nil)))
    (sss_cons (ss_set (i := 5) nd (se_add (se_call (ok__law_plain_errors T) (hr.mono (by decide)) ps (sa_cons (sx_var (i := 2)) sa_nil)) (se_of (sf_lc (own' := [("_law_item", 6)]) rfl nd (si_seq (se_var (i := 4))) (by kernel_rfl) (by decide) (fun _ _ _ _ _ => (sg_name (i := 6) nd)) (fun _ _ _ _ _ => sts_nil) (fun _ _ _ _ _ => (se_ix (sx_var (i := 6)) se_int))))))
    (sss_cons (ss_for (passes_of rfl) rfl (si_enum (m_enumerate T) (se_var (i := 5))) (sg_tupT rfl (sgs_cons (sg_name (i := 7) nd) (sgs_cons (sg_name (i := 8) nd) sgs_nil))) (sss_cons (ss_if (st_ne hr.units (se_call (ok__law_kinds T) (hr.mono (by decide)) ps (sa_cons (sx_var (i := 8)) sa_nil)) (se_of (sf_lc (own' := [("_law_k", 9)]) rfl nd (si_rng1 (m_range T) se_int) (by kernel_rfl) (by decide) (fun _ _ _ _ _ => (sg_name (i := 9) nd)) (fun _ _ _ _ _ => sts_nil) (fun _ _ _ _ _ => (se_eq hr.units (se_var (i := 9)) (se_var (i := 7))))))) (sss_one (ss_ret se_bl)) sss_nil)
    (sss_one (ss_if (st_bool (sw_or (st_not (st_val (se_b2 call_isX (isE_ok (exs T)) (m_isinstance T) (sx_var (i := 8)) (sx_of (se_glo (g_SplitError T)))))) (sw_or1 (st_not (st_val (se_b2 call_isX (isE_ok (exs T)) (m_isinstance T) (sx_var (i := 8)) (sx_of (se_ty (m_ValueError T))))))))) (sss_one (ss_ret se_bl)) sss_nil))))
    (sss_cons (ss_if (st_ne hr.units (se_of (sf_lc (own' := [("_law_item", 6)]) rfl nd (si_seq (se_var (i := 4))) (by kernel_rfl) (by decide) (fun _ _ _ _ _ => (sg_name (i := 6) nd)) (fun _ _ _ _ _ => (sts_one (st_ne hr.units (se_b1 (call_repr_lst hgd hr.units (smk T)) reprS_ok (m_repr T) (sx_of (se_of (sf_lst (sl_cons (se_ix (sx_var (i := 6)) se_int) (sl_cons (se_ix (sx_var (i := 6)) se_int) sl_nil)))))) (se_b1 (call_repr_lst hgd hr.units (smk T)) reprS_ok (m_repr T) (sx_of (se_of (sf_lst (sl_cons (se_var (i := 3)) (sl_cons (se_var (i := 3)) sl_nil))))))))) (fun _ _ _ _ _ => se_int))) (se_of (sf_lst sl_nil))) (sss_one (ss_ret se_bl)) sss_nil)
    (sss_cons (ss_set (i := 10) nd (se_ex1 (x_SplitError T) se_str))
    (sss_one (ss_ret (se_and (se_notin se_bl (sx_of (se_call (ok__law_kinds T) (hr.mono (by decide)) ps (sa_cons (sx_var (i := 10)) sa_nil)))) (se_one (se_b2 call_isX (isE_ok (exs T)) (m_isinstance T) (sx_var (i := 10)) (sx_of (se_ty (m_ValueError T)))))))))))))))

end
end Pr

set_option Elab.async false
set_option linter.all false
set_option maxRecDepth 1000000
set_option maxHeartbeats 0
namespace Pr
open PySem PySem.Spec PyProof.Rows L2 Mi
def g0 : SD → M Fl := (setX 1 (callX 1 F_begun (consV (getS 0) nilV)))
def g1 : SD → M Fl := (asgV (tupV (consV (callM 2 F__law_pick (consV (getS 1) (consV (ofD (ofL (lstV (consV (kD (.str "")) (consV (kD (.str "w")) (consV (kD (.str "nothing of the kind")) nilV)))))) nilV))) (consV (callM 1 F__law_any (consV (getS 1) nilV)) nilV))) (tgT 2 (tgC (tgN 2) (tgC (tgN 3) tg0))))
def g2 : SD → M Fl := (setV 4 (callM 1 F__law_errors_of (consV (getS 3) nilV)))
def g3 : SD → M Fl := (setV 5 (u2 addD (callM 1 F__law_plain_errors (consV (getS 2) nilV)) (ofL (lcM [6] (seqI (getD 4)) (tgN 6) yes (u2 ixS (getS 6) (kD (.int 0)))))))
def g4 : SD → M Fl := (forV (enumI (getD 5)) (tgT 2 (tgC (tgN 7) (tgC (tgN 8) tg0))) (seqM (ifV (c2 neD (callM 1 F__law_kinds (consV (getS 8) nilV)) (ofL (lcM [9] (u1 rng1 (kD (.int 43))) (tgN 9) yes (u2 eqD (getD 9) (getD 7))))) (retV (kD (.bl false))) nxV)
    (ifV (orB (notB (tst (u2 (isE Ls sub) (getS 8) (ofD (kD (.gl "SplitError")))))) (notB (tst (u2 (isE Ls sub) (getS 8) (ofD (kD (.ty "ValueError"))))))) (retV (kD (.bl false))) nxV)))
def g5 : SD → M Fl := (ifV (c2 neD (ofL (lcM [6] (seqI (getD 4)) (tgN 6) (c2 neD (u1 reprS (ofD (ofL (lstV (consV (u2 ixS (getS 6) (kD (.int 1))) (consV (u2 ixS (getS 6) (kD (.int 2))) nilV)))))) (u1 reprS (ofD (ofL (lstV (consV (getD 3) (consV (getD 3) nilV))))))) (kD (.int 1)))) (ofL (lstV nilV))) (retV (kD (.bl false))) nxV)
def g6 : SD → M Fl := (setV 10 (mkE "SplitError" (kD (.str "w"))))
def g7 : SD → M Fl := (retV (andV (u2 (inS true) (kD (.bl true)) (ofD (callM 1 F__law_kinds (consV (getS 10) nilV)))) (u2 (isE Ls sub) (getS 10) (ofD (kD (.ty "ValueError"))))))
theorem law_eq : G_law = (seqM g0 (seqM g1 (seqM g2 (seqM g3 (seqM g4 (seqM g5 (seqM g6 g7))))))) := rfl
def Tl (e : D) : List D := [.tup [.exA "BadShape" "part" e, e, e], .tup [.exA "BadBook" "part" e, e, e], .tup [.exA "BadNumber" "part" e, e, e], .tup [.exA "BadBrackets" "part" e, e, e], .tup [.exA "BadRoom" "part" e, e, e], .tup [.exA "BadTable" "part" e, e, e], .tup [.exA "BadDoing" "part" e, e, e], .tup [.exA "BadText" "at" e, e, e], .tup [.exA "NoWatch" "name" e, e, e], .tup [.exA "NoMark" "name" e, e, e], .tup [.exA "TooMany" "most" e, e, e], .tup [.exA "BadLeads" "part" e, e, e], .tup [.exA "BadInner" "part" e, e, e], .tup [.exA "BadCrossed" "part" e, e, e]]
def El (e : D) : List D := [.ex "BadPrime", .ex "BadRow", .ex "BadSquare", .ex "BadMap", .ex "BadBasis", .ex "BadGroup", .ex "BadCrossing", .ex "BadTwist", .ex "BadStart", .ex "BadDeed", .ex "BadName", .ex "BadLive", .ex "NothingLeft", .ex "BadSelfsplit", .ex "BadStrands", .ex "BadBraid", .ex "BadOrders", .ex "BadWeigher", .ex "NoTwist", .ex "BadCut", .ex "NotSimple", .ex "BadThing", .ex "BadPair", .ex "BadLetters", .ex "BadWay", .ex "BadGrades", .ex "BadPairRoom", .ex "BadStay", .ex "BadForm"] ++ [.exA "BadShape" "part" e, .exA "BadBook" "part" e, .exA "BadNumber" "part" e, .exA "BadBrackets" "part" e, .exA "BadRoom" "part" e, .exA "BadTable" "part" e, .exA "BadDoing" "part" e, .exA "BadText" "at" e, .exA "NoWatch" "name" e, .exA "NoMark" "name" e, .exA "TooMany" "most" e, .exA "BadLeads" "part" e, .exA "BadInner" "part" e, .exA "BadCrossed" "part" e]
section
variable (ns : List Int) (w e : D) (la ce : List Int) (re tu : Int)
abbrev sd0 : SD := [some (.d (.scr ns)), some (.h 0), some (.d w), some (.d e), none, none, none, none, none, none, none]
abbrev sd4 : SD := [some (.d (.scr ns)), some (.h 0), some (.d w), some (.d e), some (.d (.lst (Tl e))), none, none, none, none, none, none]
abbrev sd5 : SD := [some (.d (.scr ns)), some (.h 0), some (.d w), some (.d e), some (.d (.lst (Tl e))), some (.d (.lst (El e))), none, none, none, none, none]
abbrev sd6 : SD := [some (.d (.scr ns)), some (.h 0), some (.d w), some (.d e), some (.d (.lst (Tl e))), some (.d (.lst (El e))), none, some (.d (.int 42)), some (.d (.exA "BadCrossed" "part" e)), none, none]
theorem t4 : g2 (sd0 ns w e) [.drw la re ce tu] = .ok (.nx (sd4 ns w e)) [.drw la re ce tu] := by kernel_rfl
theorem t5 : g3 (sd4 ns w e) [.drw la re ce tu] = .ok (.nx (sd5 ns w e)) [.drw la re ce tu] := by kernel_rfl
theorem t6 : g4 (sd5 ns w e) [.drw la re ce tu] = .ok (.nx (sd6 ns w e)) [.drw la re ce tu] := by kernel_rfl

theorem t8 : (seqM g6 g7) (sd6 ns w e) [.drw la re ce tu] = .ok (.rt (.bl true)) [.drw la re ce tu] := by kernel_rfl
end

end Pr

set_option Elab.async false
set_option linter.all false
set_option maxRecDepth 1000000
set_option maxHeartbeats 0
namespace Pr
open PySem PySem.Spec PyProof.Rows L2 Mi
/-! the texts -/
theorem seq_ok {f g : SD → M Fl} {sd sd' : SD} {m m' : Mem} (h : f sd m = .ok (.nx sd') m') : seqM f g sd m = g sd' m' := by
  show ((f sd m).bind _) = _
  rw [h]
  rfl
theorem lc_ok {vs : List Nat} {fi : SD → M (List D)} {gt : D → SD → M SD} {gc : SD → M Bool} {ge : SD → M D} {sd : SD} {m m1 m2 : Mem} {ds r : List D} (h1 : fi sd m = .ok ds m1) (h2 : compM vs gt gc ge sd [] ds m1 = .ok r m2) : lcM vs fi gt gc ge sd m = .ok r m2 := by
  show ((fi sd m).bind fun ds => nox (compM vs gt gc ge sd [] ds)) = _
  rw [h1]
  show noxO (compM vs gt gc ge sd [] ds m1) = _
  rw [h2]
  rfl
theorem ofL_ok {fs : SD → M (List D)} {sd : SD} {m m1 : Mem} {r : List D} (h : fs sd m = .ok r m1) : ofL fs sd m = .ok (.lst r) m1 := by
  show ((fs sd m).bind _) = _
  rw [h]
  rfl
theorem c2_ok {f : D → D → M D} {fa fb : SD → M D} {sd : SD} {m m1 m2 m3 : Mem} {x y : D} {b : Bool} (h1 : fa sd m = .ok x m1) (h2 : fb sd m1 = .ok y m2) (h3 : f x y m2 = .ok (.bl b) m3) : c2 f fa fb sd m = .ok b m3 := by
  show ((fa sd m).bind _) = _
  rw [h1]
  show ((fb sd m1).bind _) = _
  rw [h2]
  show ((f x y m2).bind _) = _
  rw [h3]
  rfl
theorem if_f {ga : SD → M Bool} {fa fb : SD → M Fl} {sd : SD} {m m1 : Mem} (h : ga sd m = .ok false m1) : ifV ga fa fb sd m = fb sd m1 := by
  show ((ga sd m).bind _) = _
  rw [h]
  rfl
theorem call_ok {n : Nat} {F : List S → M D} {gs : SD → M (List S)} {sd : SD} {m m1 m2 : Mem} {ss : List S} {d : D} (h1 : gs sd m = .ok ss m1) (hl : ss.length = n) (h2 : F ss m1 = .ok d m2) : callM n F gs sd m = .ok d m2 := by
  show ((gs sd m).bind _) = _
  rw [h1]
  show ((if ss.length = n then F ss else bad : M D) m1) = _
  rw [if_pos hl, h2]
theorem ret_ok {fe : SD → M D} {sd : SD} {m m1 : Mem} {d : D} (h : fe sd m = .ok d m1) : retV fe sd m = .ok (.rt d) m1 := by
  show ((fe sd m).bind _) = _
  rw [h]
  rfl
theorem cons_ok {α : Type} {fa : SD → M α} {fs : SD → M (List α)} {sd : SD} {m m1 m2 : Mem} {x : α} {xs : List α} (h1 : fa sd m = .ok x m1) (h2 : fs sd m1 = .ok xs m2) : consV fa fs sd m = .ok (x :: xs) m2 := by
  show ((fa sd m).bind _) = _
  rw [h1]
  show ((fs sd m1).bind _) = _
  rw [h2]
  rfl
theorem tup_ok {fs : SD → M (List D)} {sd : SD} {m m1 : Mem} {ds : List D} (h : fs sd m = .ok ds m1) (h2 : fitL ds (M.pure (D.tup ds)) m1 = .ok (D.tup ds) m1) : tupV fs sd m = .ok (.tup ds) m1 := by
  show ((fs sd m).bind _) = _
  rw [h]
  exact h2
theorem asg_ok {fa : SD → M D} {gt : D → SD → M SD} {sd sd' : SD} {m m1 m2 : Mem} {d : D} (h : fa sd m = .ok d m1) (h2 : gt d sd m1 = .ok sd' m2) : asgV fa gt sd m = .ok (.nx sd') m2 := by
  show ((fa sd m).bind _) = _
  rw [h]
  show ((gt d sd m1).bind _) = _
  rw [h2]
  rfl

def okE (e : D) : Bool := okQ (.lst [e, e]) && ((toQ (.lst [e, e])).showable && (decide ((toQ (.lst [e, e])).shown.length ≤ 16777216) && (decide ((toQ (.lst [e, e])).depth ≤ 40) && plain (.str (toQ (.lst [e, e])).shown))))
theorem repr_e {e : D} (h : okE e = true) (m : Mem) : reprS (.d (.lst [e, e])) m = .ok (.str (toQ (.lst [e, e])).shown) m := by
  obtain ⟨h1, h⟩ := Mi.ba h
  obtain ⟨h2, h⟩ := Mi.ba h
  obtain ⟨h3, h⟩ := Mi.ba h
  obtain ⟨h4, h5⟩ := Mi.ba h
  show ((if okQ (.lst [e, e]) = true ∧ (toQ (.lst [e, e])).showable = true ∧ (toQ (.lst [e, e])).shown.length ≤ 16777216 ∧ (toQ (.lst [e, e])).depth ≤ 40 then M.pure (.str (toQ (.lst [e, e])).shown) else bad : M D) m) = _
  rw [if_pos ⟨h1, h2, of_decide_eq_true h3, of_decide_eq_true h4⟩]
  rfl
theorem ne_e {e : D} (h : okE e = true) (m : Mem) : neD (.str (toQ (.lst [e, e])).shown) (.str (toQ (.lst [e, e])).shown) m = .ok (.bl false) m := by
  obtain ⟨h1, h⟩ := Mi.ba h
  obtain ⟨h2, h⟩ := Mi.ba h
  obtain ⟨h3, h⟩ := Mi.ba h
  obtain ⟨h4, h5⟩ := Mi.ba h
  generalize (toQ (.lst [e, e])).shown = x at h5 ⊢
  show ((if (plain (.str x) && plain (.str x)) = true then M.pure (.bl (!eqv (.str x) (.str x))) else bad : M D) m) = _
  rw [h5]
  show Out.ok (D.bl (!(x == x))) m = _
  rw [beq_self_eq_true]
  rfl
abbrev gc7 : SD → M Bool := (c2 neD (u1 reprS (ofD (ofL (lstV (consV (u2 ixS (getS 6) (kD (.int 1))) (consV (u2 ixS (getS 6) (kD (.int 2))) nilV)))))) (u1 reprS (ofD (ofL (lstV (consV (getD 3) (consV (getD 3) nilV)))))))
theorem gc_ok {e : D} (h : okE e = true) (a1 a2 a3 a5 a6 a7 a8 : Option S) (x : D) (m : Mem) : gc7 [a1, a2, a3, some (.d e), a5, a6, some (.d (.tup [x, e, e])), a7, a8, none, none] m = .ok false m := by
  show (((reprS (.d (.lst [e, e])) m)).bind fun x => fun m => Out.bind (reprS (.d (.lst [e, e])) m) fun y => M.bind (neD x y) asB) = _
  rw [repr_e h]
  show (((reprS (.d (.lst [e, e])) m)).bind fun y => M.bind (neD (.str (toQ (.lst [e, e])).shown) y) asB) = _
  rw [repr_e h]
  show ((neD (.str (toQ (.lst [e, e])).shown) (.str (toQ (.lst [e, e])).shown) m).bind asB) = _
  rw [ne_e h]
  rfl
theorem comp7 {e : D} (h : okE e = true) (a1 a2 a3 a5 a6 a7 a8 : Option S) (m : Mem) : ∀ (L : List (Str × Str)) (acc : List D), compM [6] (tgN 6) gc7 (kD (.int 1)) [a1, a2, a3, some (.d e), a5, a6, none, a7, a8, none, none] acc (L.map fun p => .tup [.exA p.1 p.2 e, e, e]) m = .ok acc m
  | [], acc => rfl
  | p :: L, acc => by
    show ((gc7 [a1, a2, a3, some (.d e), a5, a6, some (.d (.tup [.exA p.1 p.2 e, e, e])), a7, a8, none, none] m).bind fun b => if b = true then _ else compM [6] (tgN 6) gc7 (kD (.int 1)) [a1, a2, a3, some (.d e), a5, a6, none, a7, a8, none, none] acc (L.map fun p => .tup [.exA p.1 p.2 e, e, e])) = _
    rw [gc_ok h]
    exact comp7 h a1 a2 a3 a5 a6 a7 a8 m L acc
def Pl : List (Str × Str) := [("BadShape", "part"), ("BadBook", "part"), ("BadNumber", "part"), ("BadBrackets", "part"), ("BadRoom", "part"), ("BadTable", "part"), ("BadDoing", "part"), ("BadText", "at"), ("NoWatch", "name"), ("NoMark", "name"), ("TooMany", "most"), ("BadLeads", "part"), ("BadInner", "part"), ("BadCrossed", "part")]
theorem t7a (ns : List Int) (w e : D) (m : Mem) : (seqI (getD 4)) (sd6 ns w e) m = .ok (Pl.map fun p => .tup [.exA p.1 p.2 e, e, e]) m := by kernel_rfl
theorem t7 (ns : List Int) (w : D) {e : D} (h : okE e = true) (m : Mem) : g5 (sd6 ns w e) m = .ok (.nx (sd6 ns w e)) m := by
  have q := comp7 h (some (.d (.scr ns))) (some (.h 0)) (some (.d w)) (some (.d (.lst (Tl e)))) (some (.d (.lst (El e)))) (some (.d (.int 42))) (some (.d (.exA "BadCrossed" "part" e))) m Pl []
  have q1 : c2 neD (ofL (lcM [6] (seqI (getD 4)) (tgN 6) gc7 (kD (.int 1)))) (ofL (lstV nilV)) (sd6 ns w e) m = .ok false m :=
    c2_ok (ofL_ok (lc_ok (t7a ns w e m) q)) (m2 := m) (y := .lst []) (by kernel_rfl) (by kernel_rfl)
  exact (if_f (fa := retV (kD (.bl false))) (fb := nxV) q1)
/-! the draws -/
theorem pick_at {m : Mem} {la ce : List Int} {re tu : Int} (hm : m[0]? = some (.drw la re ce tu)) (ds : List D) (hl : 0 < ds.length ∧ ds.length < 1000) : ∃ r la' re' tu', 0 ≤ r ∧ r < (ds.length : Int) ∧ ∀ d, atI ds r = some d → F__law_pick [.h 0, .d (.lst ds)] m = .ok d (m.set 0 (.drw la' re' ce tu')) := by
  obtain ⟨r, la', re', tu', e, h0, h1⟩ := take_at hm (ds.length : Int) ⟨by omega, by omega⟩
  refine ⟨r, la', re', tu', h0, h1, fun d hd => ?_⟩
  have a : G__law_pick [some (.h 0), some (.d (.lst ds))] m = .ok (.rt d) (m.set 0 (.drw la' re' ce tu')) := by
    show ((((F__law_take [.h 0, .d (.int (ds.length : Int))] m)).bind fun i => ixS (.d (.lst ds)) i).bind fun d => M.pure (Fl.rt d)) = _
    rw [e]
    show (((match atI ds r with | some d => M.pure d | none => bad : M D) (m.set 0 (.drw la' re' ce tu'))).bind fun d => M.pure (Fl.rt d)) = _
    rw [hd]
    rfl
  show (match G__law_pick [some (.h 0), some (.d (.lst ds))] m with
    | .ok (.rt d) m' => .ok d (m'.take m.length)
    | .ok (.nx _) m' => .ok .non (m'.take m.length)
    | .exc c fs m' => .exc c fs (m'.take m.length)
    | _ => .bad : Out D) = _
  rw [a]
  show Out.ok d ((m.set 0 (.drw la' re' ce tu')).take m.length) = _
  rw [← List.length_set (as := m) (i := 0) (a := MO.drw la' re' ce tu'), List.take_length]
def L14 : List D := [.non, .bl false, .int (-5), .int 1000000000000000000000000000000000000000000000, .str "", .str "wide", .str "two words", .lst [], .lst [.tup [.int 0, .int 2]], .tup [], .tup [.int 4], .dk [], .dk [(.inr "a", .tup [.int 1])], .lst [.lst [.non]]]
theorem any_a (m : Mem) : (setV 1 (ofL (lstV (consV (kD .non) (consV (kD (.bl false)) (consV (negV (kD (.int 5))) (consV (u2 powD (kD (.int 10)) (kD (.int 45))) (consV (kD (.str "")) (consV (kD (.str "wide")) (consV (kD (.str "two words")) (consV (ofL (lstV nilV)) (consV (ofL (lstV (consV (tupV (consV (kD (.int 0)) (consV (kD (.int 2)) nilV))) nilV))) (consV (tupV nilV) (consV (tupV (consV (kD (.int 4)) nilV)) (consV (kD (.dk [])) (consV (dk1 "a" (tupV (consV (kD (.int 1)) nilV))) (consV (ofL (lstV (consV (ofL (lstV (consV (kD .non) nilV))) nilV))) nilV))))))))))))))))) [some (.h 0), none] m = .ok (.nx [some (.h 0), some (.d (.lst L14))]) m := by kernel_rfl
theorem any_at {m : Mem} {la ce : List Int} {re tu : Int} (hm : m[0]? = some (.drw la re ce tu)) : ∃ r la' re' tu', 0 ≤ r ∧ r < 14 ∧ ∀ d, atI L14 r = some d → F__law_any [.h 0] m = .ok d (m.set 0 (.drw la' re' ce tu')) := by
  obtain ⟨r, la', re', tu', h0, h1, k⟩ := pick_at hm L14 (by decide)
  refine ⟨r, la', re', tu', h0, h1, fun d hd => ?_⟩
  have a : G__law_any [some (.h 0), none] m = .ok (.rt d) (m.set 0 (.drw la' re' ce tu')) := by
    exact (seq_ok (any_a m)).trans (ret_ok (call_ok (m1 := m) (ss := [.h 0, .d (.lst L14)]) (by kernel_rfl) rfl (k d hd)))
  show (match G__law_any [some (.h 0), none] m with
    | .ok (.rt d) m' => .ok d (m'.take m.length)
    | .ok (.nx _) m' => .ok .non (m'.take m.length)
    | .exc c fs m' => .exc c fs (m'.take m.length)
    | _ => .bad : Out D) = _
  rw [a]
  show Out.ok d ((m.set 0 (.drw la' re' ce tu')).take m.length) = _
  rw [← List.length_set (as := m) (i := 0) (a := MO.drw la' re' ce tu'), List.take_length]
theorem all14 : L14.all okE = true := by decide +kernel
theorem at_some {ds : List D} {r : Int} (h0 : 0 ≤ r) (h1 : r < (ds.length : Int)) : ∃ d, atI ds r = some d ∧ d ∈ ds := by
  have h2 : r.toNat < ds.length := by omega
  refine ⟨ds[r.toNat], ?_, List.getElem_mem h2⟩
  unfold atI ixN
  rw [if_pos h0, if_pos (by omega)]
  simp [h2]
theorem law_true (ns : List Int) (h : ns.length ≤ 63) : ∃ m', F_law [.d (.scr ns)] [] = .ok (.bl true) m' := by
  have a0 : g0 [some (.d (.scr ns)), none, none, none, none, none, none, none, none, none, none] [] = .ok (.nx [some (.d (.scr ns)), some (.h 0), none, none, none, none, none, none, none, none, none]) [.drw (largeL ns) 0 (ns.map absI) 0] := by
    show ((if ns.length ≤ 1000 then Out.ok (S.h 0) [MO.drw (largeL ns) 0 (ns.map absI) 0] else Out.bad).bind _) = _
    rw [if_pos (by omega)]
    rfl
  obtain ⟨r1, la1, re1, tu1, p0, p1, k1⟩ := pick_at (m := [.drw (largeL ns) 0 (ns.map absI) 0]) rfl [.str "", .str "w", .str "nothing of the kind"] (by decide)
  obtain ⟨w, hw, _⟩ := at_some p0 p1
  have k1 := k1 w hw
  obtain ⟨r2, la2, re2, tu2, q0, q1, k2⟩ := any_at (m := [.drw la1 re1 (ns.map absI) tu1]) rfl
  obtain ⟨e, he, hm⟩ := at_some (ds := L14) q0 q1
  have k2 := k2 e he
  have ok := List.all_eq_true.mp all14 e hm
  have a1 : g1 [some (.d (.scr ns)), some (.h 0), none, none, none, none, none, none, none, none, none] [.drw (largeL ns) 0 (ns.map absI) 0] = .ok (.nx (sd0 ns w e)) [.drw la2 re2 (ns.map absI) tu2] :=
    asg_ok (m1 := [.drw la2 re2 (ns.map absI) tu2]) (d := .tup [w, e]) (tup_ok (cons_ok (m1 := [.drw la1 re1 (ns.map absI) tu1]) (call_ok (m1 := [.drw (largeL ns) 0 (ns.map absI) 0]) (ss := [.h 0, .d (.lst [.str "", .str "w", .str "nothing of the kind"])]) (by kernel_rfl) rfl k1)
      (cons_ok (m1 := [.drw la2 re2 (ns.map absI) tu2]) (call_ok (m1 := [.drw la1 re1 (ns.map absI) tu1]) (ss := [.h 0]) (by kernel_rfl) rfl k2) (m2 := [.drw la2 re2 (ns.map absI) tu2]) (xs := []) (by kernel_rfl))) (by kernel_rfl)) (by kernel_rfl)
  have b : G_law [some (.d (.scr ns)), none, none, none, none, none, none, none, none, none, none] [] = .ok (.rt (.bl true)) [.drw la2 re2 (ns.map absI) tu2] := by
    rw [law_eq]
    exact (seq_ok a0).trans ((seq_ok a1).trans ((seq_ok (t4 ns w e la2 (ns.map absI) re2 tu2)).trans ((seq_ok (t5 ns w e la2 (ns.map absI) re2 tu2)).trans ((seq_ok (t6 ns w e la2 (ns.map absI) re2 tu2)).trans ((seq_ok (t7 ns w ok [.drw la2 re2 (ns.map absI) tu2])).trans (t8 ns w e la2 (ns.map absI) re2 tu2))))))
  refine ⟨[], ?_⟩
  show (match G_law [some (.d (.scr ns)), none, none, none, none, none, none, none, none, none, none] [] with
    | .ok (.rt d) m' => .ok d (m'.take 0)
    | .ok (.nx _) m' => .ok .non (m'.take 0)
    | .exc c fs m' => .exc c fs (m'.take 0)
    | _ => .bad : Out D) = _
  rw [b]
  rfl
end Pr

set_option maxHeartbeats 0
namespace Pr
open PySem PySem.Spec PyProof.Rows L2 Mi
abbrev R : PySem.W.OpenRow := PySem.W.OpenLaw.row PySem.Challenge.rw_splitbooks_k00_errors_of_all_parts
abbrev hk : PySem.W.Hook := hookY 6 fa fn more due
def ob (s : PySem.W.SharedT) : AlY (Bool × List InW) := obsYG 6 fa fn more (HandSHeadRun.getT s)
theorem ob_eq (s : PySem.W.SharedT) : ob s = hk.obs s.abs := obsYG_eq (HandSHeadRun.getT_eq s)
def nm0 : List PySem.Str := ["SplitError", "BadPrime", "BadShape", "BadBook", "BadRow", "BadSquare", "BadMap", "BadBasis", "BadNumber", "BadGroup", "BadBrackets", "BadCrossing", "BadRoom", "BadTable", "BadDoing", "BadTwist", "BadStart", "BadDeed", "BadName", "BadLive", "BadText", "NoWatch", "NoMark", "NothingLeft", "TooMany", "BadSelfsplit", "BadStrands", "BadBraid", "BadOrders", "BadWeigher"]
def nm1 : List PySem.Str := ["NoTwist", "BadCut", "NotSimple", "BadThing", "BadPair", "BadLetters", "BadWay", "BadGrades", "BadPairRoom", "BadLeads", "BadInner", "BadStay", "BadCrossed", "BadForm", "_law_begun", "_law_mixed", "_law_take", "_law_pick", "_law_any", "_law_kinds", "_law_plain_errors", "_law_errors_of"]
def nms : List PySem.Str := nm0 ++ nm1
theorem run (w : World) : HandSHeadRun.RunEq R (PySem.W.view R.prog [54]) hk ob 20000 nms w := by
  intro os
  kernel_rfl
end Pr
open PySem PySem.W PySem.Calls PyProof.Rows
theorem PySem.Challenge.cw_splitbooks_k00_errors_of_all_parts_holds : PySem.Challenge.rw_splitbooks_k00_errors_of_all_parts.Holds := by
  w_on; o_law
  refine HandSHeadRun.head_any (r := OpenLaw.row PySem.Challenge.rw_splitbooks_k00_errors_of_all_parts) (q := view (OpenLaw.row PySem.Challenge.rw_splitbooks_k00_errors_of_all_parts).prog [54]) (H := Pr.hk) (ob := Pr.ob) (M := 20000) (loose := Pr.nms) (d := HandSHeadRun.topDef (OpenLaw.row PySem.Challenge.rw_splitbooks_k00_errors_of_all_parts).prog 54) (kwd := []) Pr.ob_eq
    (by kernel_rfl) (fun s => by kernel_rfl) Pr.run (by kernel_rfl) (by kernel_rfl) (by kernel_rfl) (by rfl) (by first | assumption | decide +kernel) (by decide +kernel) ⟨rfl, rfl, rfl, rfl, rfl, by decide +kernel⟩ ?hw ?hc
  case hw => w_witness2
  case hc =>
    refine Mi.walk_at (l := PySem.Challenge.rw_splitbooks_k00_errors_of_all_parts) (n := 63) (x := "_law_script") (CX := fun w => L2.CX PySem.Challenge.pw_splitbooks_k00_errors_of_all_parts w) rfl (by decide) (by kernel_rfl) ?F ?C
    case C => exact fun w H s e s' z => Mi.cx_none z
    case F =>
      intro w mg fa h Y G hmg0
      obtain ⟨K, KX, c, y⟩ := Y
      have hmg : mg ("law" : PySem.Str) = some (.ref fa) := by
        have e : (HandSHeadRun.topDef (OpenLaw.row PySem.Challenge.rw_splitbooks_k00_errors_of_all_parts).prog 54).name = ("law" : PySem.Str) := by kernel_rfl
        rw [← e]
        exact hmg0
      have T : Pr.Tx K mg := ⟨c, ⟨h, KX, G⟩, y⟩
      have e := hmg.symm.trans (Pr.g_law T)
      obtain rfl : fa = He.ga K "law" := Value.ref.inj (Option.some.inj e)
      obtain ⟨fd, hb, hF⟩ := Pr.run_law (w := w) T
      exact ⟨K, fd, Mi.spF K 1 Pr.F_law, KX, hb, fun H a ns hl _ hS => by
        obtain ⟨m', em⟩ := Pr.law_true ns hl
        exact Mi.sp_true hS (fun _ _ _ => trivial) em, fun base _ _ => hF base⟩

