import PyProof.Rows.All
import Wide.All
import OpenK.AllK
import Wide.FinOn
import HandS.ForMost
import HandS.Exc
import HandS.ExcInit
import HandS.ExcValue
import HandS.HeadHook1
import HandS.Lambda
import HandS.SortInts
import HandS.IsInst
import HandS.Style
import HandS.TupAny
import HandS.Defaults
import HandS.WordsExc
import HandS.ExcOwn
import HandS.HeadHook2
import HandS.Dict
import PyProof.ReprReads
import HandS.Conv
import HandS.ExcIs
import KE.KExcIs
import HandS.RaiseMore
import KE.GoesMore
import PyProof.EnumMake
import PyProof.Draws
import HandS.EndTab
import HandS.Ends
import HandS.HeadEnd
import KE.DatumOrd
import HandS.More
import HandS.Words
import HandS.Head0
import HandS.Head1
import HandS.Head2
import HandS.HeadHook3
import HandS.HeadHook4
import PySem.Challenge.RW_splitbooks_k83_cuts_of_surfaces
import KE.KStateDown
set_option Elab.async false
set_option linter.all false
set_option maxRecDepth 100000
set_option maxHeartbeats 4000000
/-! The layer Mi: a def's body is told by a function over data trees. Part 1: data, stores, the step. -/
namespace Mi
open PySem L2
/-- data: what stands still -/
inductive D where
  | non | bl (b : Bool) | int (i : Int) | str (x : Str) | ty (n : String) | gl (x : Str)
  | scr (ns : List Int) | lst (xs : List D) | tup (xs : List D)
  | dk (kvs : List (Key × D)) | dt (kvs : List (List Key × D))
  | rng (lo hi : Int)
  | ob (C : Str) (fs : List (Str × D))
  | ex (C : Str) | exA (C f : Str) (d : D)
/-- what a name holds: data, or the number of an object that may change -/
inductive S where
  | d (x : D) | h (n : Nat)
/-- an object that may change; drw: the draws (large numbers, the rest, the cells, the turn); fz: frozen from now on -/
inductive MO where
  | lst (xs : List D) | dk (kvs : List (Key × D)) | dt (kvs : List (List Key × D)) | ob (C : Str) (fs : List (Str × D))
  | drw (la : List Int) (re : Int) (ce : List Int) (tu : Int) | fz (x : D)
  | tab (x q : Str)
abbrev Mem := List MO
abbrev Rho := List (Addr × List Addr)
abbrev SD := List (Option S)
inductive Out (α : Type) where
  | ok (a : α) (m : Mem) | exc (c : Str) (fs : List (Str × D)) (m : Mem) | bad
abbrev M (α : Type) := Mem → Out α
def Out.bind {α β : Type} (r : Out α) (f : α → M β) : Out β := match r with
  | .ok a m => f a m
  | .exc c fs m => .exc c fs m
  | .bad => .bad
def M.pure {α : Type} (a : α) : M α := fun m => .ok a m
def M.bind {α β : Type} (x : M α) (f : α → M β) : M β := fun m => (x m).bind f
instance : Monad M where
  pure := M.pure
  bind := M.bind
def bad {α : Type} : M α := fun _ => .bad
def raise {α : Type} (c : Str) (fs : List (Str × D)) : M α := fun m => .exc c fs m
/-! ### data in the heap -/
/-- an exception of the class cls, whatever else it holds -/
def XcO (cls : Value) (a : Addr) : HO := .ext fun h => ∃ (oe : Obj) (vs : Array Value), h.get? a = some oe ∧ Zc cls none oe ∧ oe.data = .fields vs
section
variable (K : PySem.W.Frag) (B : Hp)
mutual
def Rep : D → V → Prop
  | .non, v => v = .non
  | .bl b, v => v = .bl b
  | .int i, v => v = .int i
  | .str x, v => v = .str x
  | .ty n, v => v = .ty n
  | .gl x, v => v = .ref (He.ga K x)
  | .scr ns, v => ∃ a, v = .ref a ∧ SqL K B a (ns.map V.int)
  | .lst ds, v => ∃ a xs, v = .ref a ∧ B a = some (.lst xs) ∧ RepL ds xs
  | .tup ds, v => ∃ a xs, v = .ref a ∧ B a = some (.tup xs) ∧ RepL ds xs
  | .dk kvs, v => ∃ a o ps, v = .ref a ∧ B a = some (.frz o (.dK ps)) ∧ RepK kvs ps
  | .dt kvs, v => ∃ a o ps, v = .ref a ∧ B a = some (.frz o (.dT ps)) ∧ RepT kvs ps
  | .rng lo hi, v => ∃ a, v = .ref a ∧ B a = some (.rng lo hi)
  | .ob C fs, v => ∃ a dx ps, v = .ref a ∧ B a = some (.ins (He.ga K C) dx ps) ∧ RepF fs ps
  | .ex C, v => ∃ a, v = .ref a ∧ B a = some (XcO (.ref (He.ga K C)) a)
  | .exA C f d, v => ∃ a dx y, v = .ref a ∧ B a = some (exo a (He.ga K C) (some dx)) ∧ B dx = some (exd dx [(f, y)]) ∧ Rep d y
def RepL : List D → List V → Prop
  | [], xs => xs = []
  | d :: ds, xs => ∃ x r, xs = x :: r ∧ Rep d x ∧ RepL ds r
def RepK : List (Key × D) → List (Key × V) → Prop
  | [], xs => xs = []
  | (k, d) :: ds, xs => ∃ x r, xs = (k, x) :: r ∧ Rep d x ∧ RepK ds r
def RepT : List (List Key × D) → List (List Key × V) → Prop
  | [], xs => xs = []
  | (k, d) :: ds, xs => ∃ x r, xs = (k, x) :: r ∧ Rep d x ∧ RepT ds r
def RepF : List (Str × D) → List (Str × V) → Prop
  | [], xs => xs = []
  | (k, d) :: ds, xs => ∃ x r, xs = (k, x) :: r ∧ Rep d x ∧ RepF ds r
end
end
/-- what stood stands -/
def Sub (B B' : Hp) : Prop := ∀ a o, B a = some o → B' a = some o
theorem Sub.refl (B : Hp) : Sub B B := fun _ _ h => h
theorem Sub.trans {A B C : Hp} (h : Sub A B) (g : Sub B C) : Sub A C := fun a o e => g a o (h a o e)
theorem Sub.upd {B : Hp} {p : Addr} {o : HO} (h : B p = none) : Sub B (upd B p o) := fun a u e => by
  rw [upd_ne (ne_of_none e h)]
  exact e
theorem Sub.rd {B B' : Hp} (e : Sub B B') {a : Addr} {u : HO} (h : Rd B a u) : Rd B' a u := by
  rcases h with h | ⟨o, h⟩
  · exact Or.inl (e a _ h)
  · exact Or.inr ⟨o, e a _ h⟩
theorem Sub.l {K : PySem.W.Frag} {B B' : Hp} (e : Sub B B') {a : Addr} {xs : List V} (h : SqL K B a xs) : SqL K B' a xs := by
  rcases h with h | h
  · exact Or.inl (e.rd h)
  · exact Or.inr h
theorem Sub.t {K : PySem.W.Frag} {B B' : Hp} (e : Sub B B') {a : Addr} {xs : List V} (h : SqT K B a xs) : SqT K B' a xs := by
  rcases h with h | h
  · exact Or.inl (e.rd h)
  · exact Or.inr h
section
variable {K : PySem.W.Frag} {B B' : Hp}
mutual
theorem Rep.mono (e : Sub B B') : ∀ {d : D} {v : V}, Rep K B d v → Rep K B' d v
  | .non, _, h => h
  | .bl _, _, h => h
  | .int _, _, h => h
  | .str _, _, h => h
  | .ty _, _, h => h
  | .gl _, _, h => h
  | .scr _, _, h => by
    obtain ⟨a, h1, h2⟩ := h
    exact ⟨a, h1, e.l h2⟩
  | .lst _, _, h => by
    obtain ⟨a, xs, h1, h2, h3⟩ := h
    exact ⟨a, xs, h1, e _ _ h2, RepL.mono e h3⟩
  | .tup _, _, h => by
    obtain ⟨a, xs, h1, h2, h3⟩ := h
    exact ⟨a, xs, h1, e _ _ h2, RepL.mono e h3⟩
  | .dk _, _, h => by
    obtain ⟨a, o, ps, h1, h2, h3⟩ := h
    exact ⟨a, o, ps, h1, e _ _ h2, RepK.mono e h3⟩
  | .dt _, _, h => by
    obtain ⟨a, o, ps, h1, h2, h3⟩ := h
    exact ⟨a, o, ps, h1, e _ _ h2, RepT.mono e h3⟩
  | .rng _ _, _, h => by
    obtain ⟨a, h1, h2⟩ := h
    exact ⟨a, h1, e _ _ h2⟩
  | .ob _ _, _, h => by
    obtain ⟨a, dx, ps, h1, h2, h3⟩ := h
    exact ⟨a, dx, ps, h1, e _ _ h2, RepF.mono e h3⟩
  | .ex _, _, h => by
    obtain ⟨a, h1, h2⟩ := h
    exact ⟨a, h1, e _ _ h2⟩
  | .exA _ _ _, _, h => by
    obtain ⟨a, dx, y, h1, h2, h3, h4⟩ := h
    exact ⟨a, dx, y, h1, e _ _ h2, e _ _ h3, Rep.mono e h4⟩
theorem RepL.mono (e : Sub B B') : ∀ {ds : List D} {xs : List V}, RepL K B ds xs → RepL K B' ds xs
  | [], _, h => h
  | _ :: _, _, h => by
    obtain ⟨x, r, h1, h2, h3⟩ := h
    exact ⟨x, r, h1, Rep.mono e h2, RepL.mono e h3⟩
theorem RepK.mono (e : Sub B B') : ∀ {ds : List (Key × D)} {xs : List (Key × V)}, RepK K B ds xs → RepK K B' ds xs
  | [], _, h => h
  | (_, _) :: _, _, h => by
    obtain ⟨x, r, h1, h2, h3⟩ := h
    exact ⟨x, r, h1, Rep.mono e h2, RepK.mono e h3⟩
theorem RepT.mono (e : Sub B B') : ∀ {ds : List (List Key × D)} {xs : List (List Key × V)}, RepT K B ds xs → RepT K B' ds xs
  | [], _, h => h
  | (_, _) :: _, _, h => by
    obtain ⟨x, r, h1, h2, h3⟩ := h
    exact ⟨x, r, h1, Rep.mono e h2, RepT.mono e h3⟩
theorem RepF.mono (e : Sub B B') : ∀ {ds : List (Str × D)} {xs : List (Str × V)}, RepF K B ds xs → RepF K B' ds xs
  | [], _, h => h
  | (_, _) :: _, _, h => by
    obtain ⟨x, r, h1, h2, h3⟩ := h
    exact ⟨x, r, h1, Rep.mono e h2, RepF.mono e h3⟩
end
theorem RepL.length : ∀ {ds : List D} {xs : List V}, RepL K B ds xs → xs.length = ds.length
  | [], _, h => by rw [show _ = [] from h] <;> rfl
  | _ :: _, _, h => by
    obtain ⟨x, r, h1, _, h3⟩ := h
    rw [h1, List.length_cons, List.length_cons, RepL.length h3]
theorem RepL.append : ∀ {ds es : List D} {xs ys : List V}, RepL K B ds xs → RepL K B es ys → RepL K B (ds ++ es) (xs ++ ys)
  | [], _, _, _, h, g => by
    rw [show _ = [] from h]
    exact g
  | _ :: _, _, _, _, h, g => by
    obtain ⟨x, r, h1, h2, h3⟩ := h
    rw [h1]
    exact ⟨x, _, rfl, h2, RepL.append h3 g⟩
theorem RepL.one {d : D} {v : V} (h : Rep K B d v) : RepL K B [d] [v] := ⟨v, [], rfl, h, rfl⟩
theorem RepL.get : ∀ {ds : List D} {xs : List V} {i : Nat} {d : D}, RepL K B ds xs → ds[i]? = some d → ∃ v, xs[i]? = some v ∧ Rep K B d v
  | [], _, _, _, _, e => by simp at e
  | _ :: _, _, 0, _, h, e => by
    obtain ⟨x, r, h1, h2, h3⟩ := h
    simp at e
    subst e
    exact ⟨x, by simp [h1], h2⟩
  | _ :: _, _, i + 1, _, h, e => by
    obtain ⟨x, r, h1, h2, h3⟩ := h
    obtain ⟨v, g1, g2⟩ := RepL.get (i := i) h3 (by simpa using e)
    exact ⟨v, by simpa [h1] using g1, g2⟩
theorem RepL.getV : ∀ {ds : List D} {xs : List V} {i : Nat} {v : V}, RepL K B ds xs → xs[i]? = some v → ∃ d, ds[i]? = some d ∧ Rep K B d v
  | [], _, _, _, h, e => by
    rw [show _ = [] from h] at e
    simp at e
  | d :: _, _, 0, _, h, e => by
    obtain ⟨x, r, h1, h2, h3⟩ := h
    subst h1
    simp at e
    subst e
    exact ⟨d, by simp, h2⟩
  | _ :: _, _, i + 1, _, h, e => by
    obtain ⟨x, r, h1, h2, h3⟩ := h
    subst h1
    obtain ⟨v, g1, g2⟩ := RepL.getV (i := i) h3 (by simpa using e)
    exact ⟨v, by simpa using g1, g2⟩
theorem RepL.take : ∀ (n : Nat) {ds : List D} {xs : List V}, RepL K B ds xs → RepL K B (ds.take n) (xs.take n)
  | 0, _, _, _ => by simp [RepL]
  | _ + 1, [], _, h => by
    rw [show _ = [] from h]
    simp [RepL]
  | n + 1, _ :: _, _, h => by
    obtain ⟨x, r, h1, h2, h3⟩ := h
    subst h1
    exact ⟨x, r.take n, rfl, h2, RepL.take n h3⟩
theorem RepL.drop : ∀ (n : Nat) {ds : List D} {xs : List V}, RepL K B ds xs → RepL K B (ds.drop n) (xs.drop n)
  | 0, _, _, h => h
  | _ + 1, [], _, h => by
    rw [show _ = [] from h]
    simp [RepL]
  | n + 1, _ :: _, _, h => by
    obtain ⟨x, r, h1, h2, h3⟩ := h
    subst h1
    exact RepL.drop n h3
theorem RepL.set : ∀ (i : Nat) {ds : List D} {xs : List V} {d : D} {v : V}, Rep K B d v → RepL K B ds xs → RepL K B (ds.set i d) (xs.set i v)
  | _, [], _, _, _, _, h => by
    rw [show _ = [] from h]
    simp [RepL]
  | 0, _ :: _, _, _, _, q, h => by
    obtain ⟨x, r, h1, h2, h3⟩ := h
    subst h1
    exact ⟨_, r, rfl, q, h3⟩
  | i + 1, _ :: _, _, _, _, q, h => by
    obtain ⟨x, r, h1, h2, h3⟩ := h
    subst h1
    exact ⟨x, _, rfl, h2, RepL.set i q h3⟩
theorem RepL.eraseIdx : ∀ (i : Nat) {ds : List D} {xs : List V}, RepL K B ds xs → RepL K B (ds.eraseIdx i) (xs.eraseIdx i)
  | _, [], _, h => by
    rw [show _ = [] from h]
    simp [RepL]
  | 0, _ :: _, _, h => by
    obtain ⟨x, r, h1, h2, h3⟩ := h
    subst h1
    exact h3
  | i + 1, _ :: _, _, h => by
    obtain ⟨x, r, h1, h2, h3⟩ := h
    subst h1
    exact ⟨x, _, rfl, h2, RepL.eraseIdx i h3⟩
theorem RepL.ints : ∀ (ns : List Int), RepL K B (ns.map D.int) (ns.map V.int)
  | [] => rfl
  | n :: ns => ⟨.int n, _, rfl, rfl, RepL.ints ns⟩
theorem RepL.eq_ints : ∀ {ns : List Int} {xs : List V}, RepL K B (ns.map D.int) xs → xs = ns.map V.int
  | [], _, h => h
  | n :: ns, _, h => by
    obtain ⟨x, r, h1, h2, h3⟩ := h
    rw [h1, show x = .int n from h2, RepL.eq_ints h3] <;> rfl
theorem RepL.reverse {ds : List D} {xs : List V} (h : RepL K B ds xs) : RepL K B ds.reverse xs.reverse := by
  induction ds generalizing xs with
  | nil =>
    rw [show xs = [] from h]
    exact rfl
  | cons d ds ih =>
    obtain ⟨x, r, h1, h2, h3⟩ := h
    subst h1
    rw [List.reverse_cons, List.reverse_cons]
    exact (ih h3).append (RepL.one h2)
end
/-! ### the changing objects -/
def own (ρ : Rho) (a : Addr) : Prop := ∃ p ∈ ρ, a = p.1 ∨ a ∈ p.2
theorem own_app {ρ σ : Rho} {a : Addr} (h : own ρ a) : own (ρ ++ σ) a := by
  obtain ⟨p, hp, q⟩ := h
  exact ⟨p, List.mem_append_left _ hp, q⟩
def kDraw (l c : Addr) (re tu : Int) : List (Key × V) := [(.inr "large", .ref l), (.inr "rest", .int re), (.inr "cells", .ref c), (.inr "turn", .int tu)]
/-- the code object of a def, and its table of code objects -/
def codeA (K : PySem.W.Frag) (x : Str) : Addr := match K.lookup (He.ga K x) with
  | some ⟨_, _, .func fd, _⟩ => (match fd.code with
    | .ref c => c
    | _ => 0)
  | _ => 0
def tabA (K : PySem.W.Frag) (x : Str) : Addr := match K.lookup (codeA K x) with
  | some ⟨_, _, .fields vs, _⟩ => (match vs.getD 11 .none with
    | .ref P => P
    | _ => 0)
  | _ => 0
def MOk (K : PySem.W.Frag) (B H : Hp) (p : Addr × List Addr) : MO → Prop
  | .lst ds => B p.1 = none ∧ p.2 = [] ∧ ∃ xs, H p.1 = some (.lst xs) ∧ RepL K B ds xs
  | .dk kvs => B p.1 = none ∧ p.2 = [] ∧ ∃ ps, H p.1 = some (.dK ps) ∧ RepK K B kvs ps
  | .dt kvs => B p.1 = none ∧ p.2 = [] ∧ ∃ ps, H p.1 = some (.dT ps) ∧ RepT K B kvs ps
  | .ob C fs => B p.1 = none ∧ ∃ dx ps, p.2 = [dx] ∧ B dx = none ∧ H dx = some (.own p.1) ∧ H p.1 = some (.ins (He.ga K C) dx ps) ∧ RepF K B fs ps
  | .drw la re ce tu => B p.1 = none ∧ ∃ l c, p.2 = [l] ∧ B l = none ∧ p.1 ≠ l ∧ H p.1 = some (.dK (kDraw l c re tu)) ∧ H l = some (.lst (la.map V.int)) ∧ B c = some (.lst (ce.map V.int))
  | .fz d => Rep K B d (.ref p.1) ∧ ∀ a, (a = p.1 ∨ a ∈ p.2) → B a ≠ none
  | .tab x q => p.1 = tabA K x ∧ B p.1 = none ∧ p.2 = [] ∧ ∃ ps : Array Value, H p.1 = some (.tbl ps) ∧ TriplesOk ps.toList ∧ ∀ (pos : Pos) (cv : Value), codeAmong pos ps.toList = some cv → ∃ c, cv = .ref c ∧ B c = some (LamX.CodeO c q)
/-- the stores and the heap -/
structure Sim (K : PySem.W.Frag) (B : Hp) (ρ : Rho) (m : Mem) (H : Hp) : Prop where
  ex : Sub B H
  len : ρ.length = m.length
  nd : ∀ (i j : Nat) (p q : Addr × List Addr), ρ[i]? = some p → ρ[j]? = some q → i ≠ j → ∀ a, (a = p.1 ∨ a ∈ p.2) → ¬ (a = q.1 ∨ a ∈ q.2)
  mo : ∀ (i : Nat) (p : Addr × List Addr) (o : MO), ρ[i]? = some p → m[i]? = some o → MOk K B H p o
/-- a step -/
structure Ste (B : Hp) (ρ : Rho) (H B' : Hp) (ρ' : Rho) (H' : Hp) : Prop where
  bb : Sub B B'
  rr : ∃ more, ρ' = ρ ++ more
  kp : ∀ a o, H a = some o → ¬ own ρ a → H' a = some o
  nw : ∀ a, own ρ' a → own ρ a ∨ H a = none
  bn : ∀ a, B' a ≠ none → B a ≠ none ∨ own ρ a ∨ H a = none
theorem Ste.refl (B : Hp) (ρ : Rho) (H : Hp) : Ste B ρ H B ρ H := ⟨Sub.refl B, ⟨[], by simp⟩, fun _ _ h _ => h, fun _ h => .inl h, fun _ h => .inl h⟩
theorem Ste.free {B : Hp} {ρ : Rho} {H B' : Hp} {ρ' : Rho} {H' : Hp} (s : Ste B ρ H B' ρ' H') {a : Addr} (h : H' a = none) : own ρ a ∨ H a = none := by
  cases e : H a with
  | none => exact .inr rfl
  | some o =>
    by_cases q : own ρ a
    · exact .inl q
    · have z := s.kp a o e q
      rw [h] at z
      cases z
theorem Ste.trans {B : Hp} {ρ : Rho} {H B1 : Hp} {ρ1 : Rho} {H1 B2 : Hp} {ρ2 : Rho} {H2 : Hp} (s : Ste B ρ H B1 ρ1 H1) (t : Ste B1 ρ1 H1 B2 ρ2 H2) : Ste B ρ H B2 ρ2 H2 := by
  refine ⟨s.bb.trans t.bb, ?_, fun a o e n => ?_, fun a q => ?_, fun a q => ?_⟩
  · obtain ⟨m1, e1⟩ := s.rr
    obtain ⟨m2, e2⟩ := t.rr
    exact ⟨m1 ++ m2, by rw [e2, e1, List.append_assoc]⟩
  · refine t.kp a o (s.kp a o e n) fun z => ?_
    rcases s.nw a z with z | z
    · exact n z
    · rw [e] at z
      cases z
  · rcases t.nw a q with z | z
    · exact s.nw a z
    · exact s.free z
  · rcases t.bn a q with z | z | z
    · exact s.bn a z
    · rcases s.nw a z with z | z
      · exact .inr (.inl z)
      · exact .inr (.inr z)
    · rcases s.free z with z | z
      · exact .inr (.inl z)
      · exact .inr (.inr z)
/-- a new thing that stands still -/
theorem Ste.new {B : Hp} {ρ : Rho} {H : Hp} {p : Addr} {o : HO} (hb : Sub B H) (h : H p = none) : Ste B ρ H (upd B p o) ρ (upd H p o) := by
  have hB : B p = none := by
    cases e : B p with
    | none => rfl
    | some u =>
      rw [hb _ _ e] at h
      cases h
  refine ⟨Sub.upd hB, ⟨[], by simp⟩, fun a u e _ => ?_, fun _ h => .inl h, fun a q => ?_⟩
  · rw [upd_ne (ne_of_none e h)]
    exact e
  · by_cases e : a = p
    · rw [e]
      exact .inr (.inr h)
    · rw [upd_ne e] at q
      exact .inl q
/-- a new object that was made and is forgotten, or is to be known later -/
theorem Ste.newH {B : Hp} {ρ : Rho} {H : Hp} {p : Addr} {o : HO} (h : H p = none) : Ste B ρ H B ρ (upd H p o) :=
  ⟨Sub.refl B, ⟨[], by simp⟩, fun a u e _ => by rw [upd_ne (ne_of_none e h)]; exact e, fun _ h => .inl h, fun _ h => .inl h⟩
section
variable {K : PySem.W.Frag} {B B' : Hp} {ρ : Rho} {m : Mem} {H H' : Hp}
theorem Sub.ne {B H : Hp} (e : Sub B H) {a : Addr} (h : B a ≠ none) : H a ≠ none := by
  cases q : B a with
  | none => exact absurd q h
  | some o => rw [e a o q]; simp
theorem MOk.owned {p : Addr × List Addr} {o : MO} (hb : Sub B H) (z : MOk K B H p o) {a : Addr} (q : a = p.1 ∨ a ∈ p.2) : H a ≠ none := by
  cases o with
  | lst ds =>
    obtain ⟨_, z2, xs, z3, _⟩ := z
    rcases q with q | q
    · rw [q, z3]; simp
    · rw [z2] at q; cases q
  | dk kvs =>
    obtain ⟨_, z2, xs, z3, _⟩ := z
    rcases q with q | q
    · rw [q, z3]; simp
    · rw [z2] at q; cases q
  | dt kvs =>
    obtain ⟨_, z2, xs, z3, _⟩ := z
    rcases q with q | q
    · rw [q, z3]; simp
    · rw [z2] at q; cases q
  | ob C fs =>
    obtain ⟨_, dx, ps, z2, _, z3, z4, _⟩ := z
    rcases q with q | q
    · rw [q, z4]; simp
    · rw [z2] at q
      rw [List.mem_singleton.mp q, z3]; simp
  | drw la re ce tu =>
    obtain ⟨_, l, c, z2, _, _, z4, z5, _⟩ := z
    rcases q with q | q
    · rw [q, z4]; simp
    · rw [z2] at q
      rw [List.mem_singleton.mp q, z5]; simp
  | fz d => exact hb.ne (z.2 a q)
  | tab x0 q0 =>
    obtain ⟨_, _, z2, xs, z3, _⟩ := z
    rcases q with q | q
    · rw [q, z3]; simp
    · rw [z2] at q; cases q
theorem Sim.ownH (s : Sim K B ρ m H) {a : Addr} (h : own ρ a) : H a ≠ none := by
  obtain ⟨p, hp, q⟩ := h
  obtain ⟨i, hi, e⟩ := List.mem_iff_getElem.mp hp
  have ei : ρ[i]? = some p := by rw [List.getElem?_eq_getElem hi, e]
  have hm : i < m.length := by rw [← s.len]; exact hi
  exact (s.mo i p _ ei (List.getElem?_eq_getElem hm)).owned s.ex q
theorem Sim.nown (s : Sim K B ρ m H) {a : Addr} (h : H a = none) : ¬ own ρ a := fun q => s.ownH q h
theorem Sim.bnone (s : Sim K B ρ m H) {a : Addr} (h : H a = none) : B a = none := by
  cases e : B a with
  | none => rfl
  | some u =>
    rw [s.ex _ _ e] at h
    cases h
theorem own_at {i : Nat} {p : Addr × List Addr} (h : ρ[i]? = some p) {a : Addr} (q : a = p.1 ∨ a ∈ p.2) : own ρ a := ⟨p, List.mem_of_getElem? h, q⟩
theorem MOk.keep {p : Addr × List Addr} {o : MO} (z : MOk K B H p o) (hb : Sub B B') (hn : ∀ a, (a = p.1 ∨ a ∈ p.2) → B a = none → B' a = none) (hh : ∀ a u, (a = p.1 ∨ a ∈ p.2) → H a = some u → H' a = some u) : MOk K B' H' p o := by
  cases o with
  | lst ds =>
    obtain ⟨z1, z2, xs, z3, z4⟩ := z
    exact ⟨hn _ (.inl rfl) z1, z2, xs, hh _ _ (.inl rfl) z3, z4.mono hb⟩
  | dk kvs =>
    obtain ⟨z1, z2, xs, z3, z4⟩ := z
    exact ⟨hn _ (.inl rfl) z1, z2, xs, hh _ _ (.inl rfl) z3, z4.mono hb⟩
  | dt kvs =>
    obtain ⟨z1, z2, xs, z3, z4⟩ := z
    exact ⟨hn _ (.inl rfl) z1, z2, xs, hh _ _ (.inl rfl) z3, z4.mono hb⟩
  | ob C fs =>
    obtain ⟨z1, dx, ps, z2, z3, z4, z5, z6⟩ := z
    have hd : dx = p.1 ∨ dx ∈ p.2 := .inr (by rw [z2]; exact List.mem_singleton.mpr rfl)
    exact ⟨hn _ (.inl rfl) z1, dx, ps, z2, hn _ hd z3, hh _ _ hd z4, hh _ _ (.inl rfl) z5, z6.mono hb⟩
  | drw la re ce tu =>
    obtain ⟨z1, l, c, z2, z3, z4, z5, z6, z7⟩ := z
    have hd : l = p.1 ∨ l ∈ p.2 := .inr (by rw [z2]; exact List.mem_singleton.mpr rfl)
    exact ⟨hn _ (.inl rfl) z1, l, c, z2, hn _ hd z3, z4, hh _ _ (.inl rfl) z5, hh _ _ hd z6, hb _ _ z7⟩
  | fz d => exact ⟨z.1.mono hb, fun a q => hb.ne (z.2 a q)⟩
  | tab x0 q0 =>
    obtain ⟨z0, z1, z2, xs, z3, z4, z5⟩ := z
    refine ⟨z0, hn _ (.inl rfl) z1, z2, xs, hh _ _ (.inl rfl) z3, z4, fun pos cv e => ?_⟩
    obtain ⟨c, e1, e2⟩ := z5 pos cv e
    exact ⟨c, e1, hb _ _ e2⟩
/-- new, standing still -/
theorem Sim.new {p : Addr} {o : HO} (s : Sim K B ρ m H) (h : H p = none) : Sim K (upd B p o) ρ m (upd H p o) := by
  refine ⟨fun a u e => ?_, s.len, s.nd, fun i q mo h1 h2 => ?_⟩
  · by_cases ea : a = p
    · rw [ea] at e ⊢
      rw [upd_same] at e ⊢
      exact e
    · rw [upd_ne ea] at e ⊢
      exact s.ex a u e
  · have ne : ∀ a, (a = q.1 ∨ a ∈ q.2) → a ≠ p := fun a z e => s.ownH (own_at h1 z) (e ▸ h)
    refine (s.mo i q mo h1 h2).keep (Sub.upd (s.bnone h)) (fun a z e => ?_) fun a u z e => ?_
    · rw [upd_ne (ne a z)]
      exact e
    · rw [upd_ne (ne a z)]
      exact e
/-- new, unknown -/
theorem Sim.newH {p : Addr} {o : HO} (s : Sim K B ρ m H) (h : H p = none) : Sim K B ρ m (upd H p o) := by
  refine ⟨s.ex.trans (Sub.upd h), s.len, s.nd, fun i q mo h1 h2 => ?_⟩
  have ne : ∀ a, (a = q.1 ∨ a ∈ q.2) → a ≠ p := fun a z e => s.ownH (own_at h1 z) (e ▸ h)
  exact (s.mo i q mo h1 h2).keep (Sub.refl B) (fun a z e => e) fun a u z e => by rw [upd_ne (ne a z)]; exact e
/-- an unknown object of ours changes -/
theorem Sim.chH {p : Addr} {o : HO} (s : Sim K B ρ m H) (hB : B p = none) (hn : ¬ own ρ p) : Sim K B ρ m (upd H p o) := by
  refine ⟨fun a u e => ?_, s.len, s.nd, fun i q mo h1 h2 => ?_⟩
  · rw [upd_ne (fun z => by rw [z, hB] at e; cases e)]
    exact s.ex a u e
  · have ne : ∀ a, (a = q.1 ∨ a ∈ q.2) → a ≠ p := fun a z e => hn (e ▸ own_at h1 z)
    exact (s.mo i q mo h1 h2).keep (Sub.refl B) (fun a z e => e) fun a u z e => by rw [upd_ne (ne a z)]; exact e
/-- an unknown object of ours stands still from now on -/
theorem Sim.still {p : Addr} {o : HO} (s : Sim K B ρ m H) (hB : B p = none) (hH : H p = some o) (hn : ¬ own ρ p) : Sim K (upd B p o) ρ m H := by
  refine ⟨fun a u e => ?_, s.len, s.nd, fun i q mo h1 h2 => ?_⟩
  · by_cases ea : a = p
    · rw [ea, upd_same] at e
      rw [ea, hH]
      exact e
    · rw [upd_ne ea] at e
      exact s.ex a u e
  · have ne : ∀ a, (a = q.1 ∨ a ∈ q.2) → a ≠ p := fun a z e => hn (e ▸ own_at h1 z)
    refine (s.mo i q mo h1 h2).keep (Sub.upd hB) (fun a z e => ?_) fun a u z e => e
    rw [upd_ne (ne a z)]
    exact e
theorem own_snoc {p : Addr × List Addr} {a : Addr} : own (ρ ++ [p]) a ↔ own ρ a ∨ (a = p.1 ∨ a ∈ p.2) := by
  constructor
  · rintro ⟨q, hq, z⟩
    rcases List.mem_append.mp hq with hq | hq
    · exact .inl ⟨q, hq, z⟩
    · rw [List.mem_singleton.mp hq] at z
      exact .inr z
  · rintro (h | h)
    · exact own_app h
    · exact ⟨p, List.mem_append_right _ (List.mem_singleton.mpr rfl), h⟩
theorem get_snoc {α : Type} {l : List α} {x y : α} {i : Nat} (h : (l ++ [x])[i]? = some y) : l[i]? = some y ∨ (i = l.length ∧ y = x) := by
  rcases Nat.lt_trichotomy i l.length with q | q | q
  · rw [List.getElem?_append_left q] at h
    exact .inl h
  · subst q
    simp at h
    exact .inr ⟨rfl, h.symm⟩
  · rw [List.getElem?_eq_none_iff.mpr (by simp; omega)] at h
    cases h
/-- an object of ours becomes one that may change -/
theorem Sim.push {p : Addr × List Addr} {o : MO} (s : Sim K B ρ m H) (hn : ∀ a, (a = p.1 ∨ a ∈ p.2) → ¬ own ρ a) (hk : MOk K B H p o) : Sim K B (ρ ++ [p]) (m ++ [o]) H := by
  refine ⟨s.ex, by simp [s.len], fun i j q r h1 h2 hij a z1 z2 => ?_, fun i q u h1 h2 => ?_⟩
  · rcases get_snoc h1 with g1 | ⟨g1, g1'⟩
    · rcases get_snoc h2 with g2 | ⟨g2, g2'⟩
      · exact s.nd i j q r g1 g2 hij a z1 z2
      · subst g2'
        exact hn a z2 (own_at g1 z1)
    · subst g1'
      rcases get_snoc h2 with g2 | ⟨g2, g2'⟩
      · exact hn a z1 (own_at g2 z2)
      · exact hij (g1.trans g2.symm)
  · rcases get_snoc h1 with g1 | ⟨g1, g1'⟩
    · have hi : i < m.length := by rw [← s.len]; exact (List.getElem?_eq_some_iff.mp g1).1
      rw [List.getElem?_append_left hi] at h2
      exact s.mo i q u g1 h2
    · subst g1'
      rw [g1, s.len] at h2
      simp at h2
      rw [← h2]
      exact hk
theorem Ste.push {p : Addr × List Addr} (hp : ∀ a, (a = p.1 ∨ a ∈ p.2) → own ρ a ∨ H a = none) (hk : ∀ a o, H a = some o → ¬ own ρ a → H' a = some o) : Ste B ρ H B (ρ ++ [p]) H' :=
  ⟨Sub.refl B, ⟨[p], rfl⟩, hk, fun a z => by
    rcases own_snoc.mp z with z | z
    · exact .inl z
    · exact hp a z, fun _ h => .inl h⟩
/-- the i-th object is written: the heap changes at it alone -/
theorem Sim.write {i : Nat} {p : Addr × List Addr} {o : MO} (s : Sim K B ρ m H) (hp : ρ[i]? = some p) (hB : ∀ a, (a = p.1 ∨ a ∈ p.2) → B a = none) (hh : ∀ a u, ¬ (a = p.1 ∨ a ∈ p.2) → H a = some u → H' a = some u) (hk : MOk K B H' p o) : Sim K B ρ (m.set i o) H' := by
  refine ⟨fun a u e => hh a u (fun z => by rw [hB a z] at e; cases e) (s.ex a u e), by rw [List.length_set]; exact s.len, s.nd, fun j q u h1 h2 => ?_⟩
  by_cases ej : j = i
  · subst ej
    rw [hp] at h1
    cases h1
    rw [List.getElem?_set_self (by rw [← s.len]; exact (List.getElem?_eq_some_iff.mp hp).1)] at h2
    cases h2
    exact hk
  · rw [List.getElem?_set_ne (Ne.symm ej)] at h2
    exact (s.mo j q u h1 h2).keep (Sub.refl B) (fun a z e => e) fun a v z e => hh a v (s.nd j i q p h1 hp ej a z) e
theorem Ste.write {p : Addr × List Addr} {i : Nat} (hp : ρ[i]? = some p) (hh : ∀ a u, ¬ (a = p.1 ∨ a ∈ p.2) → H a = some u → H' a = some u) : Ste B ρ H B ρ H' :=
  ⟨Sub.refl B, ⟨[], by simp⟩, fun a o e n => hh a o (fun z => n (own_at hp z)) e, fun _ h => .inl h, fun _ h => .inl h⟩
/-- the i-th object stands still from now on -/
theorem Sim.freeze {i : Nat} {p : Addr × List Addr} {d : D} {o : HO} (s : Sim K B ρ m H) (hp : ρ[i]? = some p) (hB : B p.1 = none) (h2 : p.2 = []) (hH : H p.1 = some o) (hr : Rep K (upd B p.1 o) d (.ref p.1)) :
    Sim K (upd B p.1 o) ρ (m.set i (.fz d)) H := by
  refine ⟨fun a u e => ?_, by rw [List.length_set]; exact s.len, s.nd, fun j q u h1 h3 => ?_⟩
  · by_cases ea : a = p.1
    · rw [ea, upd_same] at e
      rw [ea, hH]
      exact e
    · rw [upd_ne ea] at e
      exact s.ex a u e
  · by_cases ej : j = i
    · subst ej
      rw [hp] at h1
      cases h1
      rw [List.getElem?_set_self (by rw [← s.len]; exact (List.getElem?_eq_some_iff.mp hp).1)] at h3
      cases h3
      refine ⟨hr, fun a z => ?_⟩
      rcases z with z | z
      · rw [z, upd_same]; simp
      · rw [h2] at z; cases z
    · rw [List.getElem?_set_ne (Ne.symm ej)] at h3
      have ne : ∀ a, (a = q.1 ∨ a ∈ q.2) → a ≠ p.1 := fun a z e => s.nd j i q p h1 hp ej a z (.inl e)
      refine (s.mo j q u h1 h3).keep (Sub.upd hB) (fun a z e => ?_) fun a v z e => e
      rw [upd_ne (ne a z)]
      exact e
theorem Ste.freeze {p : Addr × List Addr} {i : Nat} {o : HO} (hp : ρ[i]? = some p) (hB : B p.1 = none) : Ste B ρ H (upd B p.1 o) ρ H :=
  ⟨Sub.upd hB, ⟨[], by simp⟩, fun a u e _ => e, fun _ h => .inl h, fun a q => by
    by_cases e : a = p.1
    · rw [e]
      exact .inr (.inl (own_at hp (.inl rfl)))
    · rw [upd_ne e] at q
      exact .inl q⟩
/-- what a def made is forgotten -/
theorem Sim.trunc {more : Rho} (s : Sim K B (ρ ++ more) m H) : Sim K B ρ (m.take ρ.length) H := by
  have hl : ρ.length ≤ m.length := by
    have := s.len
    rw [List.length_append] at this
    omega
  have at_ : ∀ {i : Nat} {p : Addr × List Addr}, ρ[i]? = some p → (ρ ++ more)[i]? = some p := fun {i p} h => by
    rw [List.getElem?_append_left (List.getElem?_eq_some_iff.mp h).1]
    exact h
  refine ⟨s.ex, by rw [List.length_take]; omega, fun i j p q h1 h2 => s.nd i j p q (at_ h1) (at_ h2), fun i p o h1 h2 => s.mo i p o (at_ h1) ?_⟩
  rw [List.getElem?_take] at h2
  split at h2
  · exact h2
  · cases h2
theorem Ste.trunc {B' : Hp} {ρ' : Rho} (s : Ste B ρ H B' ρ' H') : Ste B ρ H B' ρ H' := ⟨s.bb, ⟨[], by simp⟩, s.kp, fun _ h => .inl h, s.bn⟩
end
/-- an object that the step has made stands still from now on -/
theorem Ste.still {B : Hp} {ρ : Rho} {H B' : Hp} {ρ' : Rho} {H' : Hp} (t : Ste B ρ H B' ρ' H') {p : Addr} {o : HO} (h : H p = none) (hB : B' p = none) : Ste B ρ H (upd B' p o) ρ' H' :=
  ⟨t.bb.trans (Sub.upd hB), t.rr, t.kp, t.nw, fun a q => by
    by_cases e : a = p
    · rw [e]
      exact .inr (.inr h)
    · rw [upd_ne e] at q
      exact t.bn a q⟩
/-- .. may change from now on -/
theorem Ste.moves {B : Hp} {ρ : Rho} {H B' : Hp} {ρ' : Rho} {H' : Hp} (t : Ste B ρ H B' ρ' H') {p : Addr} (h : H p = none) : Ste B ρ H B' (ρ' ++ [(p, [])]) H' := by
  obtain ⟨more, e⟩ := t.rr
  refine ⟨t.bb, ⟨more ++ [(p, [])], by rw [e, List.append_assoc]⟩, t.kp, fun a z => ?_, t.bn⟩
  rcases own_snoc.mp z with z | z
  · exact t.nw a z
  · rcases z with z | z
    · rw [z]
      exact .inr h
    · cases z
/-! ### what is wanted of a result -/
def ExR (K : PySem.W.Frag) (B : Hp) (fs : List (Str × D)) (dx : Option Addr) : Prop := (fs = [] ∧ dx = none) ∨ fs ≠ [] ∧ ∃ a ps, dx = some a ∧ B a = some (.xd ps) ∧ RepF K B fs ps
/-- r ends as wished from the stores B, ρ and the heap H on -/
def Wt (K : PySem.W.Frag) (B : Hp) (ρ : Rho) (H : Hp) (E : XK) {α : Type} (P : α → Hp → Rho → Mem → Hp → Prop) : Out α → Prop
  | .ok a m' => ∀ B' ρ' H', Ste B ρ H B' ρ' H' → Sim K B' ρ' m' H' → P a B' ρ' m' H'
  | .exc c fs m' => ∀ B' ρ' H' dx, Ste B ρ H B' ρ' H' → Sim K B' ρ' m' H' → ExR K B' fs dx → E (.ref (He.ga K c)) dx H'
  | .bad => False
section
variable {K : PySem.W.Frag} {B B' : Hp} {ρ ρ' : Rho} {m m' : Mem} {H H' : Hp} {E : XK} {α β : Type}
theorem Wt.trans {P : α → Hp → Rho → Mem → Hp → Prop} {r : Out α} (h : Wt K B ρ H E P r) (s : Ste B ρ H B' ρ' H') : Wt K B' ρ' H' E P r := by
  cases r with
  | ok a m' => exact fun B2 ρ2 H2 s2 => h B2 ρ2 H2 (s.trans s2)
  | exc c fs m' => exact fun B2 ρ2 H2 dx s2 => h B2 ρ2 H2 dx (s.trans s2)
  | bad => exact h
theorem Wt.bind {P : β → Hp → Rho → Mem → Hp → Prop} {r : Out α} {f : α → M β} (h : Wt K B ρ H E P (r.bind f)) :
    Wt K B ρ H E (fun a B' ρ' m' H' => Wt K B' ρ' H' E P (f a m')) r := by
  cases r with
  | ok a m' => exact fun B2 ρ2 H2 s2 _ => Wt.trans (r := f a m') h s2
  | exc c fs m' => exact h
  | bad => exact h
theorem Wt.bind' {P : β → Hp → Rho → Mem → Hp → Prop} {P' : α → Hp → Rho → Mem → Hp → Prop} {r : Out α} {f : α → M β} (h : Wt K B ρ H E P (r.bind f))
    (k : ∀ a B' ρ' m' H', Ste B ρ H B' ρ' H' → Sim K B' ρ' m' H' → Wt K B' ρ' H' E P (f a m') → P' a B' ρ' m' H') : Wt K B ρ H E P' r := by
  cases r with
  | ok a m' => exact fun B2 ρ2 H2 s2 z => k _ _ _ _ _ s2 z (Wt.trans (r := f a m') h s2)
  | exc c fs m' => exact h
  | bad => exact h
theorem Wt.bindO {P : β → Hp → Rho → Mem → Hp → Prop} {P' : α → Hp → Rho → Mem → Hp → Prop} {r : Out α} {f : α → M β} (h : Wt K B ρ H E P (r.bind f))
    (k : ∀ a B' ρ' m' H', Ste B ρ H B' ρ' H' → Sim K B' ρ' m' H' → Wt K B ρ H E P (f a m') → P' a B' ρ' m' H') : Wt K B ρ H E P' r := by
  cases r with
  | ok a m' => exact fun B2 ρ2 H2 s2 z => k _ _ _ _ _ s2 z h
  | exc c fs m' => exact h
  | bad => exact h
theorem Wt.ok {P : α → Hp → Rho → Mem → Hp → Prop} {a : α} (h : Wt K B ρ H E P (.ok a m)) (s : Sim K B ρ m H) : P a B ρ m H := h B ρ H (Ste.refl _ _ _) s
theorem Wt.ok' {P : α → Hp → Rho → Mem → Hp → Prop} {a : α} (h : Wt K B ρ H E P (.ok a m)) (t : Ste B ρ H B' ρ' H') (s : Sim K B' ρ' m H') : P a B' ρ' m H' := h B' ρ' H' t s
theorem Wt.mono {P P' : α → Hp → Rho → Mem → Hp → Prop} {r : Out α} (h : Wt K B ρ H E P r) (k : ∀ a B' ρ' m' H', P a B' ρ' m' H' → P' a B' ρ' m' H') : Wt K B ρ H E P' r := by
  cases r with
  | ok a m' => exact fun B2 ρ2 H2 s2 z => k _ _ _ _ _ (h B2 ρ2 H2 s2 z)
  | exc c fs m' => exact h
  | bad => exact h
end
/-! ### slots -/
def RepS (K : PySem.W.Frag) (B : Hp) (ρ : Rho) : S → V → Prop
  | .d x, v => Rep K B x v
  | .h n, v => ∃ p, ρ[n]? = some p ∧ v = .ref p.1
def RelS (K : PySem.W.Frag) (B : Hp) (ρ : Rho) (σ : St) (sd : SD) : Prop := σ.length = sd.length ∧ ∀ (i : Nat) s, sd[i]? = some (some s) → ∃ v, σ[i]? = some (some v) ∧ RepS K B ρ s v
def RepSL (K : PySem.W.Frag) (B : Hp) (ρ : Rho) : List S → List V → Prop
  | [], xs => xs = []
  | d :: ds, xs => ∃ x r, xs = x :: r ∧ RepS K B ρ d x ∧ RepSL K B ρ ds r
section
variable {K : PySem.W.Frag} {B B' : Hp} {ρ ρ' : Rho} {m m' : Mem} {H H' : Hp}
theorem RepS.ste {s : S} {v : V} (h : RepS K B ρ s v) (t : Ste B ρ H B' ρ' H') : RepS K B' ρ' s v := by
  cases s with
  | d x => exact Rep.mono t.bb h
  | h n =>
    obtain ⟨p, h1, h2⟩ := h
    obtain ⟨more, e⟩ := t.rr
    exact ⟨p, by rw [e, List.getElem?_append_left (List.getElem?_eq_some_iff.mp h1).1]; exact h1, h2⟩
theorem RelS.ste {σ : St} {sd : SD} (h : RelS K B ρ σ sd) (t : Ste B ρ H B' ρ' H') : RelS K B' ρ' σ sd := ⟨h.1, fun i s e => by
  obtain ⟨v, h1, h2⟩ := h.2 i s e
  exact ⟨v, h1, h2.ste t⟩⟩
theorem RepSL.ste : ∀ {ds : List S} {xs : List V}, RepSL K B ρ ds xs → Ste B ρ H B' ρ' H' → RepSL K B' ρ' ds xs
  | [], _, h, _ => h
  | _ :: _, _, h, t => by
    obtain ⟨x, r, h1, h2, h3⟩ := h
    exact ⟨x, r, h1, h2.ste t, RepSL.ste h3 t⟩
theorem RepSL.length : ∀ {ds : List S} {xs : List V}, RepSL K B ρ ds xs → xs.length = ds.length
  | [], _, h => by rw [show _ = [] from h] <;> rfl
  | _ :: _, _, h => by
    obtain ⟨x, r, h1, _, h3⟩ := h
    rw [h1, List.length_cons, List.length_cons, RepSL.length h3]
theorem RelS.set {σ : St} {sd : SD} {s : S} {v : V} (h : RelS K B ρ σ sd) (i : Nat) (q : RepS K B ρ s v) : RelS K B ρ (σ.set i (some v)) (sd.set i (some s)) := by
  refine ⟨by rw [List.length_set, List.length_set, h.1], fun j s' e => ?_⟩
  by_cases ej : j = i
  · subst ej
    by_cases hj : j < sd.length
    · rw [List.getElem?_set_self hj] at e
      cases e
      exact ⟨v, by rw [List.getElem?_set_self (by rw [h.1]; exact hj)], q⟩
    · rw [List.getElem?_eq_none_iff.mpr (by rw [List.length_set]; omega)] at e
      cases e
  · rw [List.getElem?_set_ne (Ne.symm ej)] at e ⊢
    exact h.2 j s' e
theorem RepSL.start : ∀ {ds : List S} {xs : List V}, RepSL K B ρ ds xs → ∀ k : Nat, RelS K B ρ (xs.map some ++ List.replicate k none) (ds.map some ++ List.replicate k none)
  | [], _, h, k => by
    rw [show _ = [] from h]
    refine ⟨by simp, fun i s e => ?_⟩
    simp [List.getElem?_replicate] at e
  | d :: ds, _, h, k => by
    obtain ⟨x, r, h1, h2, h3⟩ := h
    subst h1
    obtain ⟨l, g⟩ := RepSL.start h3 k
    refine ⟨by simpa using l, fun i s e => ?_⟩
    cases i with
    | zero =>
      simp at e
      subst e
      exact ⟨x, by simp, h2⟩
    | succ i =>
      obtain ⟨v, g1, g2⟩ := g i s (by simpa using e)
      exact ⟨v, by simpa using g1, g2⟩
end
end Mi
set_option maxRecDepth 100000
set_option maxHeartbeats 4000000
/-! The layer Mi. Part 2: expressions. -/
namespace Mi
open PySem PySem.Spec PyProof.Rows L2
abbrev PD (K : PySem.W.Frag) (Q : VK) : D → Hp → Rho → Mem → Hp → Prop := fun d B' _ _ H' => ∀ v, Rep K B' d v → Q v H'
abbrev PSl (K : PySem.W.Frag) (Q : VK) : S → Hp → Rho → Mem → Hp → Prop := fun d B' ρ' _ H' => ∀ v, RepS K B' ρ' d v → Q v H'
abbrev PAl (K : PySem.W.Frag) (Q : List V → Hp → Prop) : List S → Hp → Rho → Mem → Hp → Prop := fun d B' ρ' _ H' => ∀ v, RepSL K B' ρ' d v → Q v H'
abbrev PBl (Q : Bool → Hp → Prop) : Bool → Hp → Rho → Mem → Hp → Prop := fun b _ _ _ H' => Q b H'
/-- a new list: its address is not known to the stores -/
abbrev PFl (K : PySem.W.Frag) (H : Hp) (Q : VK) : List D → Hp → Rho → Mem → Hp → Prop := fun ds B' ρ' _ H' => ∀ p xs, H p = none → B' p = none → ¬ own ρ' p → H' p = some (.lst xs) → RepL K B' ds xs → Q (.ref p) H'
/-- a list that is read, whatever it is -/
abbrev PRl (K : PySem.W.Frag) (Q : VK) : List D → Hp → Rho → Mem → Hp → Prop := fun ds B' ρ' _ H' => ∀ p xs, H' p = some (.lst xs) → RepL K B' ds xs → Q (.ref p) H'
/-- an expression: data; data or a changing object; a new list; a list to be read; a test; arguments -/
def SE (X : Cx) (E : XK) (e : Expr) (f : SD → M D) : Prop := ∃ t, PE X e t ∧ ∀ σ sd B ρ m H Q, Sim X.K B ρ m H → RelS X.K B ρ σ sd → Wt X.K B ρ H E (PD X.K Q) (f sd m) → t σ H Q
def SX (X : Cx) (E : XK) (e : Expr) (f : SD → M S) : Prop := ∃ t, PE X e t ∧ ∀ σ sd B ρ m H Q, Sim X.K B ρ m H → RelS X.K B ρ σ sd → Wt X.K B ρ H E (PSl X.K Q) (f sd m) → t σ H Q
def SF (X : Cx) (E : XK) (e : Expr) (f : SD → M (List D)) : Prop := ∃ t, PE X e t ∧ ∀ σ sd B ρ m H Q, Sim X.K B ρ m H → RelS X.K B ρ σ sd → Wt X.K B ρ H E (PFl X.K H Q) (f sd m) → t σ H Q
def SR (X : Cx) (E : XK) (e : Expr) (f : SD → M (List D)) : Prop := ∃ t, PE X e t ∧ ∀ σ sd B ρ m H Q, Sim X.K B ρ m H → RelS X.K B ρ σ sd → Wt X.K B ρ H E (PRl X.K Q) (f sd m) → t σ H Q
def ST (X : Cx) (E : XK) (e : Expr) (f : SD → M Bool) : Prop := ∃ t, PT X e t ∧ ∀ σ sd B ρ m H Q, Sim X.K B ρ m H → RelS X.K B ρ σ sd → Wt X.K B ρ H E (PBl Q) (f sd m) → t σ H Q
def SW (X : Cx) (E : XK) (e : Expr) (f : SD → M Bool) : Prop := ∃ t, PW X e t ∧ ∀ σ sd B ρ m H Q, Sim X.K B ρ m H → RelS X.K B ρ σ sd → Wt X.K B ρ H E (PBl Q) (f sd m) → t σ H Q
def SA (X : Cx) (E : XK) (es : List Expr) (f : SD → M (List S)) : Prop := ∃ t, PA X es t ∧ ∀ σ sd B ρ m H Q, Sim X.K B ρ m H → RelS X.K B ρ σ sd → Wt X.K B ρ H E (PAl X.K Q) (f sd m) → t σ H Q
/-! ### names -/
/-- frozen where it may change -/
def fzH (n : Nat) : M D := fun m => match m[n]? with
  | some (.lst ds) => .ok (.lst ds) (m.set n (.fz (.lst ds)))
  | some (.fz d) => .ok d m
  | _ => .bad
def fzS : S → M D
  | .d x => M.pure x
  | .h n => fzH n
def getS (i : Nat) (sd : SD) : M S := match sd[i]? with
  | some (some s) => M.pure s
  | _ => bad
def getD (i : Nat) (sd : SD) : M D := match sd[i]? with
  | some (some s) => fzS s
  | _ => bad
/-- the items of what a name holds -/
def rdS : S → M (List D)
  | .d (.lst ds) => M.pure ds
  | .h n => fun m => match m[n]? with
    | some (.lst ds) => .ok ds m
    | some (.fz (.lst ds)) => .ok ds m
    | _ => .bad
  | _ => bad
def getR (i : Nat) (sd : SD) : M (List D) := match sd[i]? with
  | some (some s) => rdS s
  | _ => bad
section
variable {X : Cx} {E : XK} {K : PySem.W.Frag} {B : Hp} {ρ : Rho} {m : Mem} {H : Hp}
theorem Sim.at_ {n : Nat} {p : Addr × List Addr} (s : Sim K B ρ m H) (h : ρ[n]? = some p) : ∃ o, m[n]? = some o ∧ MOk K B H p o := by
  have hm : n < m.length := by rw [← s.len]; exact (List.getElem?_eq_some_iff.mp h).1
  exact ⟨m[n], List.getElem?_eq_getElem hm, s.mo n p _ h (List.getElem?_eq_getElem hm)⟩
theorem fz_ok {s : S} {v : V} {Q : VK} (hs : Sim K B ρ m H) (r : RepS K B ρ s v) (w : Wt K B ρ H E (PD K Q) (fzS s m)) : Q v H := by
  cases s with
  | d x => exact Wt.ok (m := m) w hs v r
  | h n =>
    obtain ⟨p, h1, rfl⟩ := r
    obtain ⟨o, h2, h3⟩ := hs.at_ h1
    have w2 : Wt K B ρ H E (PD K Q) (fzH n m) := w
    unfold fzH at w2
    rw [h2] at w2
    cases o with
    | lst ds =>
      obtain ⟨z1, z2, xs, z3, z4⟩ := h3
      have hr : Rep K (upd B p.1 (.lst xs)) (.lst ds) (.ref p.1) := ⟨_, xs, rfl, upd_same, z4.mono (Sub.upd z1)⟩
      exact Wt.ok' w2 (Ste.freeze h1 z1) (hs.freeze h1 z1 z2 z3 hr) _ hr
    | fz d => exact Wt.ok w2 hs _ h3.1
    | _ => exact w2.elim
theorem se_var {i : Nat} {x : Str} {pos : Pos} (hN : X.N[i]? = some x := by rfl) (hv : Vis X.env.scope x := by first | exact Or.inl rfl | exact Or.inr (Or.inl rfl) | exact Or.inr (Or.inr rfl)) (hd : (x == ("__debug__" : Str)) = false := by decide)
    (hcd : (x == ("__classdict__" : Str)) = false := by decide) : SE X E (.Name x pos) (getD i) := by
  refine ⟨_, pe_var hN hv hd hcd, fun σ sd B ρ m H Q s rl w => ?_⟩
  unfold getD at w
  cases e : sd[i]? with
  | none => rw [e] at w; exact w.elim
  | some o =>
    rw [e] at w
    cases o with
    | none => exact w.elim
    | some z =>
      obtain ⟨v, h1, h2⟩ := rl.2 i z e
      exact ⟨v, h1, fz_ok s h2 w⟩
theorem sx_var {i : Nat} {x : Str} {pos : Pos} (hN : X.N[i]? = some x := by rfl) (hv : Vis X.env.scope x := by first | exact Or.inl rfl | exact Or.inr (Or.inl rfl) | exact Or.inr (Or.inr rfl)) (hd : (x == ("__debug__" : Str)) = false := by decide)
    (hcd : (x == ("__classdict__" : Str)) = false := by decide) : SX X E (.Name x pos) (getS i) := by
  refine ⟨_, pe_var hN hv hd hcd, fun σ sd B ρ m H Q s rl w => ?_⟩
  unfold getS at w
  cases e : sd[i]? with
  | none => rw [e] at w; exact w.elim
  | some o =>
    rw [e] at w
    cases o with
    | none => exact w.elim
    | some z =>
      obtain ⟨v, h1, h2⟩ := rl.2 i z e
      exact ⟨v, h1, Wt.ok (m := m) w s v h2⟩
theorem rd_ok {s : S} {v : V} {Q : VK} (hs : Sim K B ρ m H) (r : RepS K B ρ s v) (w : Wt K B ρ H E (PRl K Q) (rdS s m)) : Q v H := by
  cases s with
  | d x =>
    cases x with
    | lst ds =>
      obtain ⟨a, xs, rfl, h2, h3⟩ := r
      exact Wt.ok (m := m) w hs a xs (hs.ex _ _ h2) h3
    | _ => exact w.elim
  | h n =>
    obtain ⟨p, h1, rfl⟩ := r
    obtain ⟨o, h2, h3⟩ := hs.at_ h1
    have w2 : Wt K B ρ H E (PRl K Q) (match m[n]? with | some (.lst ds) => .ok ds m | some (.fz (.lst ds)) => .ok ds m | _ => .bad) := w
    rw [h2] at w2
    cases o with
    | lst ds =>
      obtain ⟨z1, z2, xs, z3, z4⟩ := h3
      exact Wt.ok w2 hs _ _ z3 z4
    | fz d =>
      cases d with
      | lst ds =>
        obtain ⟨⟨a, xs, e, z3, z4⟩, _⟩ := h3
        cases e
        exact Wt.ok w2 hs _ _ (hs.ex _ _ z3) z4
      | _ => exact w2.elim
    | _ => exact w2.elim
theorem sr_var {i : Nat} {x : Str} {pos : Pos} (hN : X.N[i]? = some x := by rfl) (hv : Vis X.env.scope x := by first | exact Or.inl rfl | exact Or.inr (Or.inl rfl) | exact Or.inr (Or.inr rfl)) (hd : (x == ("__debug__" : Str)) = false := by decide)
    (hcd : (x == ("__classdict__" : Str)) = false := by decide) : SR X E (.Name x pos) (getR i) := by
  refine ⟨_, pe_var hN hv hd hcd, fun σ sd B ρ m H Q s rl w => ?_⟩
  unfold getR at w
  cases e : sd[i]? with
  | none => rw [e] at w; exact w.elim
  | some o =>
    rw [e] at w
    cases o with
    | none => exact w.elim
    | some z =>
      obtain ⟨v, h1, h2⟩ := rl.2 i z e
      exact ⟨v, h1, rd_ok s h2 w⟩
/-! ### from one to another -/
theorem sx_of {e : Expr} {f : SD → M D} (h : SE X E e f) : SX X E e (fun sd => M.bind (f sd) fun d => M.pure (.d d)) := by
  obtain ⟨t, p, k⟩ := h
  refine ⟨t, p, fun σ sd B ρ m H Q s rl w => k σ sd B ρ m H Q s rl ?_⟩
  exact Wt.bind' (r := f sd m) w fun d B1 ρ1 m1 H1 t1 s1 w1 v r => Wt.ok w1 s1 v r
def asL : D → M (List D)
  | .lst ds => M.pure ds
  | _ => bad
theorem sr_of {e : Expr} {f : SD → M D} (h : SE X E e f) : SR X E e (fun sd => M.bind (f sd) asL) := by
  obtain ⟨t, p, k⟩ := h
  refine ⟨t, p, fun σ sd B ρ m H Q s rl w => k σ sd B ρ m H Q s rl ?_⟩
  refine Wt.bind' (r := f sd m) w fun d B1 ρ1 m1 H1 t1 s1 w1 v r => ?_
  cases d with
  | lst ds =>
    obtain ⟨a, xs, rfl, h2, h3⟩ := r
    exact Wt.ok w1 s1 a xs (s1.ex _ _ h2) h3
  | _ => exact w1.elim
theorem se_of {e : Expr} {f : SD → M (List D)} (h : SF X E e f) : SE X E e (fun sd => M.bind (f sd) fun ds => M.pure (.lst ds)) := by
  obtain ⟨t, p, k⟩ := h
  refine ⟨t, p, fun σ sd B ρ m H Q s rl w => k σ sd B ρ m H Q s rl ?_⟩
  refine Wt.bindO (r := f sd m) w fun ds B1 ρ1 m1 H1 t1 s1 w1 p xs h0 hb ho hp r => ?_
  exact Wt.ok' w1 (t1.still h0 hb) (s1.still hb hp ho) _ ⟨p, xs, rfl, upd_same, r.mono (Sub.upd hb)⟩
theorem sr_new {e : Expr} {f : SD → M (List D)} (h : SF X E e f) : SR X E e f := by
  obtain ⟨t, p, k⟩ := h
  refine ⟨t, p, fun σ sd B ρ m H Q s rl w => k σ sd B ρ m H Q s rl ?_⟩
  exact Wt.mono w fun ds B1 ρ1 m1 H1 w1 p xs h0 hb ho hp r => w1 p xs hp r
/-! ### constants -/
theorem se_int {i : Int} {j pos} : SE X E (.Constant (.int i) j pos) (fun _ => M.pure (.int i)) := ⟨_, pe_int, fun σ sd B ρ m H Q s rl w => Wt.ok (m := m) w s _ rfl⟩
theorem se_bl {b j pos} : SE X E (.Constant (.bool b) j pos) (fun _ => M.pure (.bl b)) := ⟨_, pe_bl, fun σ sd B ρ m H Q s rl w => Wt.ok (m := m) w s _ rfl⟩
theorem se_non {j pos} : SE X E (.Constant .none j pos) (fun _ => M.pure .non) := ⟨_, pe_non, fun σ sd B ρ m H Q s rl w => Wt.ok (m := m) w s _ rfl⟩
theorem se_str {x j pos} : SE X E (.Constant (.str x) j pos) (fun _ => M.pure (.str x)) := ⟨_, pe_str, fun σ sd B ρ m H Q s rl w => Wt.ok (m := m) w s _ rfl⟩
/-- a def or class of the module, as a value -/
theorem se_glo {x : Str} {pos : Pos} (hm : X.mg x = some (.ref (He.ga X.K x))) (hg : Gl X x := by rfl) (hd : (x == ("__debug__" : Str)) = false := by decide) : SE X E (.Name x pos) (fun _ => M.pure (.gl x)) := by
  refine ⟨tC (.ref (He.ga X.K x)), ⟨fun pins s σ H Q I h => ?_⟩, fun σ sd B ρ m H Q s rl w => Wt.ok (m := m) w s _ rfl⟩
  exact ld_glob I hg hm ⟨V.ref (He.ga X.K x), H, I, rfl, h⟩ hd
/-- a whole number of the module -/
theorem se_gint {x : Str} {i : Int} {pos : Pos} (hm : ∃ t, X.mg x = some (.int i t)) (hg : Gl X x := by rfl) (hd : (x == ("__debug__" : Str)) = false := by decide) : SE X E (.Name x pos) (fun _ => M.pure (.int i)) := by
  obtain ⟨tk, hm⟩ := hm
  refine ⟨tC (.int i), ⟨fun pins s σ H Q I h => ?_⟩, fun σ sd B ρ m H Q s rl w => Wt.ok (m := m) w s _ rfl⟩
  exact ld_glob I hg hm ⟨V.int i, H, I, ⟨_, rfl⟩, h⟩ hd
/-! ### operators on data -/
def OpD (X : Cx) (E : XK) (r : R2) (f : D → D → M D) : Prop := ∀ x y dx dy B ρ m H Q, Sim X.K B ρ m H → Rep X.K B dx x → Rep X.K B dy y → Wt X.K B ρ H E (PD X.K Q) (f dx dy m) → r x y H Q
def rOr (r r' : R2) : R2 := fun x y H Q => r x y H Q ∨ r' x y H Q
theorem OpR.or {f : Value → Value → Sem Value} {r r' : R2} (h : OpR X f r) (h' : OpR X f r') : OpR X f (rOr r r') := by
  intro pins s σ H x y u v Q I rx ry q
  rcases q with q | q
  · exact h pins s σ H x y u v Q I rx ry q
  · exact h' pins s σ H x y u v Q I rx ry q
theorem se_op {op : Operator} {a b : Expr} {pos : Pos} {r : R2} {f : D → D → M D} {fa fb : SD → M D} (ho : OpR X (binaryOp op) r) (hd : OpD X E r f) (ha : SE X E a fa) (hb : SE X E b fb) :
    SE X E (.BinOp a op b pos) (fun sd => M.bind (fa sd) fun x => M.bind (fb sd) fun y => f x y) := by
  obtain ⟨ta, pa, ka⟩ := ha
  obtain ⟨tb, pb, kb⟩ := hb
  refine ⟨_, pe_op ho pa pb, fun σ sd B ρ m H Q s rl w => ka σ sd B ρ m H _ s rl ?_⟩
  refine Wt.bind' (r := fa sd m) w fun dx B1 ρ1 m1 H1 t1 s1 w1 x rx => kb σ sd B1 ρ1 m1 H1 _ s1 (rl.ste t1) ?_
  exact Wt.bind' (r := fb sd m1) w1 fun dy B2 ρ2 m2 H2 t2 s2 w2 y ry => hd x y dx dy B2 ρ2 m2 H2 Q s2 (rx.mono t2.bb) ry w2
theorem se_cmp {op : CmpOp} {a b : Expr} {pos : Pos} {r : R2} {f : D → D → M D} {fa fb : SD → M D} (ho : OpR X (compareOp op) r) (hd : OpD X E r f) (ha : SE X E a fa) (hb : SE X E b fb) (hm : behindInMarks op b = false) :
    SE X E (.Compare a [op] [b] pos) (fun sd => M.bind (fa sd) fun x => M.bind (fb sd) fun y => f x y) := by
  obtain ⟨ta, pa, ka⟩ := ha
  obtain ⟨tb, pb, kb⟩ := hb
  refine ⟨_, pe_cmpR ho pa pb hm, fun σ sd B ρ m H Q s rl w => ka σ sd B ρ m H _ s rl ?_⟩
  refine Wt.bind' (r := fa sd m) w fun dx B1 ρ1 m1 H1 t1 s1 w1 x rx => kb σ sd B1 ρ1 m1 H1 _ s1 (rl.ste t1) ?_
  exact Wt.bind' (r := fb sd m1) w1 fun dy B2 ρ2 m2 H2 t2 s2 w2 y ry => hd x y dx dy B2 ρ2 m2 H2 Q s2 (rx.mono t2.bb) ry w2
/-- a new thing that stands still, wished for -/
theorem Wt.laid {p : Addr} {o : HO} {d : D} {Q : VK} (hs : Sim K B ρ m H) (w : Wt K B ρ H E (PD K Q) (.ok d m)) (hp : H p = none) (r : Rep K (upd B p o) d (.ref p)) : Q (.ref p) (upd H p o) :=
  Wt.ok' w (Ste.new hs.ex hp) (hs.new hp) _ r
theorem Wt.lst {p : Addr} {ds : List D} {xs : List V} {Q : VK} (hs : Sim K B ρ m H) (w : Wt K B ρ H E (PD K Q) (.ok (.lst ds) m)) (r : RepL K B ds xs) (hp : H p = none) : Q (.ref p) (upd H p (.lst xs)) :=
  Wt.laid hs w hp ⟨p, xs, rfl, upd_same, r.mono (Sub.upd (hs.bnone hp))⟩
theorem Wt.tup {p : Addr} {ds : List D} {xs : List V} {Q : VK} (hs : Sim K B ρ m H) (w : Wt K B ρ H E (PD K Q) (.ok (.tup ds) m)) (r : RepL K B ds xs) (hp : H p = none) : Q (.ref p) (upd H p (.tup xs)) :=
  Wt.laid hs w hp ⟨p, xs, rfl, upd_same, r.mono (Sub.upd (hs.bnone hp))⟩
def addD : D → D → M D
  | .int i, .int j => M.pure (.int (i + j))
  | .lst a, .lst b => if a.length + b.length ≤ 16777216 then M.pure (.lst (a ++ b)) else bad
  | .tup a, .tup b => if a.length + b.length ≤ 16777216 then M.pure (.tup (a ++ b)) else bad
  | .str a, .str b => if a.length + b.length ≤ 16777216 then M.pure (.str (a ++ b)) else bad
  | _, _ => bad
def subD : D → D → M D
  | .int i, .int j => M.pure (.int (i - j))
  | _, _ => bad
def small (i : Int) : Bool := decide (-(18446744073709551616) < i) && decide (i < 18446744073709551616)
def mulD : D → D → M D
  | .int i, .int j => if small i || small j then M.pure (.int (i * j)) else bad
  | .lst a, .int k => if k < 16777216 ∧ a.length * k.toNat ≤ 16777216 ∧ 0 ≤ k then M.pure (.lst ((List.replicate k.toNat a).flatten)) else bad
  | _, _ => bad
def divD : D → D → M D
  | .int i, .int j => if j ≠ 0 ∧ j.natAbs < 1073741824 then M.pure (.int (i.fdiv j)) else bad
  | _, _ => bad
def modD : D → D → M D
  | .int i, .int j => if j ≠ 0 then M.pure (.int (i.fmod j)) else bad
  | _, _ => bad
def powD : D → D → M D
  | .int i, .int j => if 0 ≤ j ∧ j ≤ 1000000 ∧ i.natAbs < 18446744073709551616 then M.pure (.int (i ^ j.toNat)) else bad
  | _, _ => bad
def rStrs : R2 := fun x y H Q => ∃ i j, x = .str i ∧ y = .str j ∧ i.length + j.length ≤ sizeLine ∧ Q (.str (i ++ j)) H
theorem sl16 : sizeLine = 16777216 := sizeLine_eq
theorem op_addD : OpR X (binaryOp .Add) (rOr (rI0 fun i j => .int (i + j)) (rOr rCat (rOr (rCatA X.K) rStrs))) := OpR.or op_add (OpR.or op_cat (OpR.or op_catA op_add_str))
theorem Rep.lstH {ds : List D} {v : V} (h : Rep K B (.lst ds) v) (hs : Sub B H) : ∃ a xs, v = .ref a ∧ H a = some (.lst xs) ∧ RepL K B ds xs := by
  obtain ⟨a, xs, h1, h2, h3⟩ := h
  exact ⟨a, xs, h1, hs _ _ h2, h3⟩
theorem Rep.tupH {ds : List D} {v : V} (h : Rep K B (.tup ds) v) (hs : Sub B H) : ∃ a xs, v = .ref a ∧ H a = some (.tup xs) ∧ RepL K B ds xs := by
  obtain ⟨a, xs, h1, h2, h3⟩ := h
  exact ⟨a, xs, h1, hs _ _ h2, h3⟩
theorem RepL.nil_iff {ds : List D} {xs : List V} (h : RepL K B ds xs) : xs = [] ↔ ds = [] := by
  have := h.length
  rw [← List.length_eq_zero_iff, ← List.length_eq_zero_iff, this]
theorem addD_ok : OpD X E (rOr (rI0 fun i j => .int (i + j)) (rOr rCat (rOr (rCatA X.K) rStrs))) addD := by
  intro x y dx dy B ρ m H Q s rx ry w
  cases dx with
  | int i =>
    cases dy with
    | int j => exact .inl ⟨i, j, rx, ry, Wt.ok (m := m) w s _ rfl⟩
    | _ => exact w.elim
  | lst a =>
    cases dy with
    | lst b =>
      obtain ⟨p, xs, rfl, h1, r1⟩ := rx.lstH s.ex
      obtain ⟨q, ys, rfl, h2, r2⟩ := ry.lstH s.ex
      have w2 : Wt X.K B ρ H E (PD X.K Q) ((if a.length + b.length ≤ 16777216 then M.pure (.lst (a ++ b)) else bad : M D) m) := w
      split at w2
      · rename_i hl
        refine .inr (.inl ⟨p, q, xs, ys, rfl, rfl, h1, h2, by rw [r1.length, r2.length, sl16]; exact hl, fun l hl => Wt.lst s w2 (r1.append r2) hl⟩)
      · exact w2.elim
    | _ => exact w.elim
  | tup a =>
    cases dy with
    | tup b =>
      have rx' := rx
      have ry' := ry
      obtain ⟨p, xs, rfl, h1, r1⟩ := rx.tupH s.ex
      obtain ⟨q, ys, rfl, h2, r2⟩ := ry.tupH s.ex
      have w2 : Wt X.K B ρ H E (PD X.K Q) ((if a.length + b.length ≤ 16777216 then M.pure (.tup (a ++ b)) else bad : M D) m) := w
      split at w2
      · rename_i hl
        refine .inr (.inr (.inl ⟨p, q, xs, ys, rfl, rfl, SqT.of h1, SqT.of h2, by rw [r1.length, r2.length, sl16]; exact hl, fun e => ?_, fun e1 e => ?_, fun _ _ l hl => Wt.tup s w2 (r1.append r2) hl⟩))
        · rw [r1.nil_iff.mp e] at w2
          exact Wt.ok (m := m) w2 s _ ry'
        · rw [r2.nil_iff.mp e, List.append_nil] at w2
          exact Wt.ok (m := m) w2 s _ rx'
      · exact w2.elim
    | _ => exact w.elim
  | str a =>
    cases dy with
    | str b =>
      have w2 : Wt X.K B ρ H E (PD X.K Q) ((if a.length + b.length ≤ 16777216 then M.pure (.str (a ++ b)) else bad : M D) m) := w
      split at w2
      · rename_i hl
        exact .inr (.inr (.inr ⟨a, b, rx, ry, by rw [sl16]; exact hl, Wt.ok (m := m) w2 s _ rfl⟩))
      · exact w2.elim
    | _ => exact w.elim
  | _ => exact w.elim
theorem subD_ok : OpD X E (rI0 fun i j => .int (i - j)) subD := by
  intro x y dx dy B ρ m H Q s rx ry w
  cases dx with
  | int i =>
    cases dy with
    | int j => exact ⟨i, j, rx, ry, Wt.ok (m := m) w s _ rfl⟩
    | _ => exact w.elim
  | _ => exact w.elim
theorem small_ok {i : Int} (h : small i = true) : -(2 ^ 64) < i ∧ i < 2 ^ 64 := by
  unfold small at h
  simp only [Bool.and_eq_true, decide_eq_true_eq] at h
  exact ⟨by omega, by omega⟩
theorem mulD_ok : OpD X E (rOr (rI CMul fun i j => .int (i * j)) rRep) mulD := by
  intro x y dx dy B ρ m H Q s rx ry w
  cases dx with
  | int i =>
    cases dy with
    | int j =>
      have w2 : Wt X.K B ρ H E (PD X.K Q) ((if (small i || small j) = true then M.pure (.int (i * j)) else bad : M D) m) := w
      split at w2
      · rename_i hc
        refine .inl ⟨i, j, rx, ry, ?_, Wt.ok (m := m) w2 s _ rfl⟩
        rcases Bool.or_eq_true_iff.mp hc with hc | hc
        · exact .inl (small_ok hc)
        · exact .inr (small_ok hc)
      · exact w2.elim
    | _ => exact w.elim
  | lst a =>
    cases dy with
    | int k =>
      obtain ⟨p, xs, rfl, h1, r1⟩ := rx.lstH s.ex
      have w2 : Wt X.K B ρ H E (PD X.K Q) ((if k < 16777216 ∧ a.length * k.toNat ≤ 16777216 ∧ 0 ≤ k then M.pure (.lst ((List.replicate k.toNat a).flatten)) else bad : M D) m) := w
      split at w2
      · rename_i hc
        have rr : ∀ n : Nat, RepL X.K B (List.replicate n a).flatten (List.replicate n xs).flatten := fun n => by
          induction n with
          | zero => exact rfl
          | succ n ih =>
            rw [List.replicate_succ, List.replicate_succ, List.flatten_cons, List.flatten_cons]
            exact r1.append ih
        exact .inr ⟨p, k, xs, rfl, ry, h1, by omega, by omega, by rw [r1.length, sl16]; exact hc.2.1, fun l hl => Wt.lst s w2 (rr _) hl⟩
      · exact w2.elim
    | _ => exact w.elim
  | _ => exact w.elim
theorem op_mulD : OpR X (binaryOp .Mult) (rOr (rI CMul fun i j => .int (i * j)) rRep) := OpR.or op_mul op_rep
theorem divD_ok : OpD X E (rI CDivN fun i j => .int (i.fdiv j)) divD := by
  intro x y dx dy B ρ m H Q s rx ry w
  cases dx with
  | int i =>
    cases dy with
    | int j =>
      have w2 : Wt X.K B ρ H E (PD X.K Q) ((if j ≠ 0 ∧ j.natAbs < 1073741824 then M.pure (.int (i.fdiv j)) else bad : M D) m) := w
      split at w2
      · rename_i hc
        exact ⟨i, j, rx, ry, hc, Wt.ok (m := m) w2 s _ rfl⟩
      · exact w2.elim
    | _ => exact w.elim
  | _ => exact w.elim
theorem modD_ok : OpD X E (rI (fun _ j => j ≠ 0) fun i j => .int (i.fmod j)) modD := by
  intro x y dx dy B ρ m H Q s rx ry w
  cases dx with
  | int i =>
    cases dy with
    | int j =>
      have w2 : Wt X.K B ρ H E (PD X.K Q) ((if j ≠ 0 then M.pure (.int (i.fmod j)) else bad : M D) m) := w
      split at w2
      · rename_i hc
        exact ⟨i, j, rx, ry, hc, Wt.ok (m := m) w2 s _ rfl⟩
      · exact w2.elim
    | _ => exact w.elim
  | _ => exact w.elim
theorem powD_ok : OpD X E (rI CPow fun i j => .int (i ^ j.toNat)) powD := by
  intro x y dx dy B ρ m H Q s rx ry w
  cases dx with
  | int i =>
    cases dy with
    | int j =>
      have w2 : Wt X.K B ρ H E (PD X.K Q) ((if 0 ≤ j ∧ j ≤ 1000000 ∧ i.natAbs < 18446744073709551616 then M.pure (.int (i ^ j.toNat)) else bad : M D) m) := w
      split at w2
      · rename_i hc
        exact ⟨i, j, rx, ry, ⟨hc.1, hc.2.1, by have := hc.2.2; omega⟩, Wt.ok (m := m) w2 s _ rfl⟩
      · exact w2.elim
    | _ => exact w.elim
  | _ => exact w.elim
section
variable {a b : Expr} {pos : Pos} {fa fb : SD → M D}
theorem se_add (ha : SE X E a fa) (hb : SE X E b fb) : SE X E (.BinOp a .Add b pos) (fun sd => M.bind (fa sd) fun x => M.bind (fb sd) fun y => addD x y) := se_op op_addD addD_ok ha hb
theorem se_sub (ha : SE X E a fa) (hb : SE X E b fb) : SE X E (.BinOp a .Sub b pos) (fun sd => M.bind (fa sd) fun x => M.bind (fb sd) fun y => subD x y) := se_op op_sub subD_ok ha hb
theorem se_mul (ha : SE X E a fa) (hb : SE X E b fb) : SE X E (.BinOp a .Mult b pos) (fun sd => M.bind (fa sd) fun x => M.bind (fb sd) fun y => mulD x y) := se_op op_mulD mulD_ok ha hb
theorem se_div (ha : SE X E a fa) (hb : SE X E b fb) : SE X E (.BinOp a .FloorDiv b pos) (fun sd => M.bind (fa sd) fun x => M.bind (fb sd) fun y => divD x y) := se_op op_fdivN divD_ok ha hb
theorem se_mod (ha : SE X E a fa) (hb : SE X E b fb) : SE X E (.BinOp a .Mod b pos) (fun sd => M.bind (fa sd) fun x => M.bind (fb sd) fun y => modD x y) := se_op op_modN modD_ok ha hb
theorem se_pow (ha : SE X E a fa) (hb : SE X E b fb) : SE X E (.BinOp a .Pow b pos) (fun sd => M.bind (fa sd) fun x => M.bind (fb sd) fun y => powD x y) := se_op op_pow powD_ok ha hb
end
/-! ### comparisons -/
def cmpI (p : Int → Int → Bool) : D → D → M D
  | .int i, .int j => M.pure (.bl (p i j))
  | _, _ => bad
theorem cmpI_ok {p : Int → Int → Bool} : OpD X E (rI0 fun i j => .bl (p i j)) (cmpI p) := by
  intro x y dx dy B ρ m H Q s rx ry w
  cases dx with
  | int i =>
    cases dy with
    | int j => exact ⟨i, j, rx, ry, Wt.ok (m := m) w s _ rfl⟩
    | _ => exact w.elim
  | _ => exact w.elim
mutual
/-- as the library's data; what is no such data is an empty dict -/
def toP : D → PyData
  | .non => .none
  | .bl b => .bool b
  | .int i => .int i
  | .str x => .str x
  | .lst ds => .list (toPL ds)
  | .tup ds => .tuple (toPL ds)
  | _ => .dict []
def toPL : List D → List PyData
  | [] => []
  | d :: ds => toP d :: toPL ds
end
mutual
theorem Rep.dp (e : Sub B H) : ∀ {d : D} {v : V}, Rep K B d v → (toP d).canLay0 = true → Dp K H v (toP d)
  | .non, v, h, _ => by
    cases (show v = .non from h)
    exact .non
  | .bl b, v, h, _ => by
    cases (show v = .bl b from h)
    exact .bl b
  | .int i, v, h, _ => by
    cases (show v = .int i from h)
    exact .int i
  | .str x, v, h, _ => by
    cases (show v = .str x from h)
    exact .str x
  | .lst ds, v, h, c => by
    obtain ⟨a, xs, rfl, h2, h3⟩ := h
    exact .lst (SqL.of (e _ _ h2)) (RepL.dp e h3 c)
  | .tup ds, v, h, c => by
    obtain ⟨a, xs, rfl, h2, h3⟩ := h
    exact .tup (SqT.of (e _ _ h2)) (RepL.dp e h3 c)
  | .ty _, _, _, c => by cases c
  | .gl _, _, _, c => by cases c
  | .scr _, _, _, c => by cases c
  | .dk _, _, _, c => by cases c
  | .dt _, _, _, c => by cases c
  | .rng _ _, _, _, c => by cases c
  | .ob _ _, _, _, c => by cases c
  | .ex _, _, _, c => by cases c
  | .exA _ _ _, _, _, c => by cases c
theorem RepL.dp (e : Sub B H) : ∀ {ds : List D} {xs : List V}, RepL K B ds xs → PyData.canLayAll0 (toPL ds) = true → DpAll K H xs (toPL ds)
  | [], _, h, _ => by
    rw [show _ = [] from h]
    exact .nil
  | d :: ds, _, h, c => by
    obtain ⟨x, r, rfl, h2, h3⟩ := h
    have c2 : ((toP d).canLay0 && PyData.canLayAll0 (toPL ds)) = true := c
    obtain ⟨c3, c4⟩ := Bool.and_eq_true_iff.mp c2
    exact .cons (Rep.dp e h2 c3) (RepL.dp e h3 c4)
end
def plain (d : D) : Bool := SeqAt.shaped (toP d)
def eqv (x y : D) : Bool := PyData.eqv (toP x) (toP y)
def eqD (x y : D) : M D := if (plain x && plain y) = true then M.pure (.bl (eqv x y)) else bad
def neD (x y : D) : M D := if (plain x && plain y) = true then M.pure (.bl (!eqv x y)) else bad
theorem eqD_ok : OpD X E (rEqD X.K) eqD := by
  intro x y dx dy B ρ m H Q s rx ry w
  unfold eqD at w
  split at w
  · rename_i hc
    obtain ⟨c1, c2⟩ := Bool.and_eq_true_iff.mp hc
    exact ⟨_, _, rx.dp s.ex (SeqAt.canLay_of_shaped c1), ry.dp s.ex (SeqAt.canLay_of_shaped c2), c1, c2, Wt.ok (m := m) w s _ rfl⟩
  · exact w.elim
theorem neD_ok : OpD X E (rNeD X.K) neD := by
  intro x y dx dy B ρ m H Q s rx ry w
  unfold neD at w
  split at w
  · rename_i hc
    obtain ⟨c1, c2⟩ := Bool.and_eq_true_iff.mp hc
    exact ⟨_, _, rx.dp s.ex (SeqAt.canLay_of_shaped c1), ry.dp s.ex (SeqAt.canLay_of_shaped c2), c1, c2, Wt.ok (m := m) w s _ rfl⟩
  · exact w.elim
/-- is None; is a bool -/
def isNone : D → Bool
  | .non => true
  | _ => false
theorem Rep.isNone {d : D} {v : V} (h : Rep K B d v) : decide (v = .non) = isNone d := by
  cases d with
  | non => rw [show v = .non from h]; rfl
  | bl _ => rw [show v = .bl _ from h]; rfl
  | int _ => rw [show v = .int _ from h]; rfl
  | str _ => rw [show v = .str _ from h]; rfl
  | ty _ => rw [show v = .ty _ from h]; rfl
  | gl _ => rw [show v = .ref _ from h]; rfl
  | scr _ => obtain ⟨a, rfl, _⟩ := h; rfl
  | lst _ => obtain ⟨a, _, rfl, _⟩ := h; rfl
  | tup _ => obtain ⟨a, _, rfl, _⟩ := h; rfl
  | dk _ => obtain ⟨a, _, _, rfl, _⟩ := h; rfl
  | dt _ => obtain ⟨a, _, _, rfl, _⟩ := h; rfl
  | rng _ _ => obtain ⟨a, rfl, _⟩ := h; rfl
  | ob _ _ => obtain ⟨a, _, _, rfl, _⟩ := h; rfl
  | ex _ => obtain ⟨a, rfl, _⟩ := h; rfl
  | exA _ _ _ => obtain ⟨a, _, _, rfl, _⟩ := h; rfl
def isD : D → D → M D
  | x, .non => M.pure (.bl (isNone x))
  | .bl a, .bl b => M.pure (.bl (decide (a = b)))
  | _, _ => bad
def isNotD : D → D → M D
  | x, .non => M.pure (.bl (!isNone x))
  | .bl a, .bl b => M.pure (.bl (!decide (a = b)))
  | _, _ => bad
theorem isD_ok : OpD X E (rOr (fun x y H Q => y = .non ∧ Q (.bl (decide (x = .non))) H) rIsB) isD := by
  intro x y dx dy B ρ m H Q s rx ry w
  cases dy with
  | non =>
    refine .inl ⟨ry, ?_⟩
    rw [rx.isNone]
    have w2 : Wt X.K B ρ H E (PD X.K Q) ((M.pure (.bl (isNone dx)) : M D) m) := by cases dx <;> exact w
    exact Wt.ok (m := m) w2 s _ rfl
  | bl b =>
    cases dx with
    | bl a => exact .inr ⟨a, b, rx, ry, Wt.ok (m := m) w s _ rfl⟩
    | _ => exact w.elim
  | _ => cases dx <;> exact w.elim
theorem isNotD_ok : OpD X E (rOr (fun x y H Q => y = .non ∧ Q (.bl (!decide (x = .non))) H) rNotB) isNotD := by
  intro x y dx dy B ρ m H Q s rx ry w
  cases dy with
  | non =>
    refine .inl ⟨ry, ?_⟩
    rw [rx.isNone]
    have w2 : Wt X.K B ρ H E (PD X.K Q) ((M.pure (.bl (!isNone dx)) : M D) m) := by cases dx <;> exact w
    exact Wt.ok (m := m) w2 s _ rfl
  | bl b =>
    cases dx with
    | bl a => exact .inr ⟨a, b, rx, ry, Wt.ok (m := m) w s _ rfl⟩
    | _ => exact w.elim
  | _ => cases dx <;> exact w.elim
end
end Mi
set_option maxRecDepth 100000
set_option maxHeartbeats 4000000
/-! The layer Mi. Part 3: tests, displays, subscripts, calls of built-ins. -/
namespace Mi
open PySem PySem.Spec PyProof.Rows L2
def asB : D → M Bool
  | .bl b => M.pure b
  | _ => bad
def asI : D → M Int
  | .int i => M.pure i
  | _ => bad
theorem Ste.fresh {K : PySem.W.Frag} {B : Hp} {ρ : Rho} {H B1 : Hp} {ρ1 : Rho} {H1 : Hp} {m1 : Mem} (t : Ste B ρ H B1 ρ1 H1) (s : Sim K B1 ρ1 m1 H1) {p : Addr} (hp : H1 p = none) : H p = none := by
  rcases t.free hp with z | z
  · obtain ⟨more, e⟩ := t.rr
    have z2 : own ρ1 p := by
      rw [e]
      exact own_app z
    exact absurd z2 (s.nown hp)
  · exact z
section
variable {X : Cx} {E : XK} {K : PySem.W.Frag} {B : Hp} {ρ : Rho} {m : Mem} {H : Hp} {a b c e : Expr} {pos : Pos} {fa fb fc fe : SD → M D}
theorem se_lt (ha : SE X E a fa) (hb : SE X E b fb) : SE X E (.Compare a [.Lt] [b] pos) (fun sd => M.bind (fa sd) fun x => M.bind (fb sd) fun y => cmpI (fun i j => decide (i < j)) x y) := se_cmp op_lt cmpI_ok ha hb (nomark _)
theorem se_le (ha : SE X E a fa) (hb : SE X E b fb) : SE X E (.Compare a [.LtE] [b] pos) (fun sd => M.bind (fa sd) fun x => M.bind (fb sd) fun y => cmpI (fun i j => decide (i ≤ j)) x y) := se_cmp op_le cmpI_ok ha hb (nomark _)
theorem se_gt (ha : SE X E a fa) (hb : SE X E b fb) : SE X E (.Compare a [.Gt] [b] pos) (fun sd => M.bind (fa sd) fun x => M.bind (fb sd) fun y => cmpI (fun i j => decide (j < i)) x y) := se_cmp op_gt cmpI_ok ha hb (nomark _)
theorem se_ge (ha : SE X E a fa) (hb : SE X E b fb) : SE X E (.Compare a [.GtE] [b] pos) (fun sd => M.bind (fa sd) fun x => M.bind (fb sd) fun y => cmpI (fun i j => decide (j ≤ i)) x y) := se_cmp op_ge cmpI_ok ha hb (nomark _)
theorem se_eq (hu : X.A.units + 64 < cLine) (ha : SE X E a fa) (hb : SE X E b fb) : SE X E (.Compare a [.Eq] [b] pos) (fun sd => M.bind (fa sd) fun x => M.bind (fb sd) fun y => eqD x y) := se_cmp (op_eqD hu) eqD_ok ha hb (nomark _)
theorem se_ne (hu : X.A.units + 64 < cLine) (ha : SE X E a fa) (hb : SE X E b fb) : SE X E (.Compare a [.NotEq] [b] pos) (fun sd => M.bind (fa sd) fun x => M.bind (fb sd) fun y => neD x y) := se_cmp (op_neD hu) neD_ok ha hb (nomark _)
theorem se_is (ha : SE X E a fa) (hb : SE X E b fb) : SE X E (.Compare a [.Is] [b] pos) (fun sd => M.bind (fa sd) fun x => M.bind (fb sd) fun y => isD x y) := se_cmp (OpR.or op_isN op_isBl) isD_ok ha hb (nomark _)
theorem se_isnot (ha : SE X E a fa) (hb : SE X E b fb) : SE X E (.Compare a [.IsNot] [b] pos) (fun sd => M.bind (fa sd) fun x => M.bind (fb sd) fun y => isNotD x y) := se_cmp (OpR.or op_notN op_notBl) isNotD_ok ha hb (nomark _)
/-- a op b op' c, whole numbers -/
theorem se_chain {op op' : CmpOp} {p q : Int → Int → Bool} (ho : OpR X (compareOp op) (rI0 fun i j => .bl (p i j))) (ho' : OpR X (compareOp op') (rI0 fun i j => .bl (q i j))) (ha : SE X E a fa) (hb : SE X E b fb) (hc : SE X E c fc)
    (hm : lastMarks [op, op'] [b, c] = false := by with_unfolding_all rfl) :
    SE X E (.Compare a [op, op'] [b, c] pos) (fun sd => M.bind (fa sd) fun x => M.bind (fb sd) fun y => M.bind (asI x) fun i => M.bind (asI y) fun j => if p i j = true then M.bind (fc sd) fun z => cmpI q (.int j) z else M.pure (.bl false)) := by
  obtain ⟨ta, pa, ka⟩ := ha
  obtain ⟨tb, pb, kb⟩ := hb
  obtain ⟨tc, pc, kc⟩ := hc
  refine ⟨_, pe_chain ho ho' pa pb pc hm, fun σ sd B ρ m H Q s rl w => ka σ sd B ρ m H _ s rl ?_⟩
  refine Wt.bind' (r := fa sd m) w fun dx B1 ρ1 m1 H1 t1 s1 w1 x rx => kb σ sd B1 ρ1 m1 H1 _ s1 (rl.ste t1) ?_
  refine Wt.bind' (r := fb sd m1) w1 fun dy B2 ρ2 m2 H2 t2 s2 w2 y ry => ?_
  cases dx with
  | int i =>
    cases dy with
    | int j =>
      refine ⟨i, j, rx, ry, p i j, rfl, ?_⟩
      have w3 : Wt X.K B2 ρ2 H2 E (PD X.K Q) ((if p i j = true then M.bind (fc sd) fun z => cmpI q (.int j) z else M.pure (.bl false) : M D) m2) := w2
      by_cases hp : p i j = true
      · rw [if_pos hp] at w3 ⊢
        refine kc σ sd B2 ρ2 m2 H2 _ s2 ((rl.ste t1).ste t2) ?_
        exact Wt.bind' (r := fc sd m2) w3 fun dz B3 ρ3 m3 H3 t3 s3 w4 z rz => cmpI_ok (E := E) y z (.int j) dz B3 ρ3 m3 H3 Q s3 ry rz w4
      · rw [if_neg hp] at w3 ⊢
        exact Wt.ok (E := E) (m := m2) w3 s2 _ (by simp [Rep, hp])
    | _ => exact w2.elim
  | _ => exact w2.elim
/-! ### in -/
def flatD : D → Bool
  | .non => true
  | .bl _ => true
  | .int _ => true
  | .str _ => true
  | _ => false
def eqF : D → D → Bool
  | .non, .non => true
  | .bl a, .bl b => a == b
  | .bl a, .int b => (if a then 1 else 0) == b
  | .int a, .bl b => a == (if b then 1 else 0)
  | .int a, .int b => a == b
  | .str a, .str b => a == b
  | _, _ => false
def toV : D → V
  | .non => .non
  | .bl b => .bl b
  | .int i => .int i
  | .str x => .str x
  | _ => .non
theorem Rep.flat {d : D} {v : V} (h : Rep K B d v) (f : flatD d = true) : v = toV d ∧ flatV v = true := by
  cases d with
  | non => exact ⟨h, by rw [show v = .non from h] <;> rfl⟩
  | bl b => exact ⟨h, by rw [show v = .bl b from h] <;> rfl⟩
  | int b => exact ⟨h, by rw [show v = .int b from h] <;> rfl⟩
  | str b => exact ⟨h, by rw [show v = .str b from h] <;> rfl⟩
  | _ => cases f
theorem eqF_ok {x y : D} (fx : flatD x = true) (fy : flatD y = true) : eqV (toV x) (toV y) = eqF x y := by
  cases x <;> cases y <;> first | (exact absurd (show false = true from fx) Bool.false_ne_true) | (exact absurd (show false = true from fy) Bool.false_ne_true) | rfl
theorem RepL.flat : ∀ {ds : List D} {xs : List V}, RepL K B ds xs → ds.all flatD = true → xs = ds.map toV ∧ xs.all flatV = true
  | [], _, h, _ => by
    rw [show _ = [] from h]
    exact ⟨rfl, rfl⟩
  | d :: ds, _, h, f => by
    obtain ⟨x, r, rfl, h2, h3⟩ := h
    rw [List.all_cons, Bool.and_eq_true] at f
    obtain ⟨g1, g2⟩ := h2.flat f.1
    obtain ⟨g3, g4⟩ := RepL.flat h3 f.2
    exact ⟨by rw [g1, g3] <;> rfl, by rw [List.all_cons, g2, g4] <;> rfl⟩
def inL (x : D) (ds : List D) : Bool := ds.any fun y => eqF y x
theorem inL_ok {x : D} : ∀ {ds : List D}, flatD x = true → ds.all flatD = true → inV (toV x) (ds.map toV) = inL x ds
  | [], _, _ => rfl
  | d :: ds, fx, f => by
    rw [List.all_cons, Bool.and_eq_true] at f
    have ih := inL_ok (ds := ds) fx f.2
    unfold inV inL at ih ⊢
    rw [List.map_cons, List.any_cons, List.any_cons, eqF_ok f.1 fx, ih]
/-- the items of a list or tuple -/
def itemsS : S → M (List D)
  | .d (.lst ds) => M.pure ds
  | .d (.tup ds) => M.pure ds
  | .d (.scr ns) => M.pure (ns.map .int)
  | .h n => fun m => match m[n]? with
    | some (.lst ds) => .ok ds m
    | some (.fz (.lst ds)) => .ok ds m
    | _ => .bad
  | _ => bad
theorem items_ok0 {s : S} {v : V} {Pp : List D → Prop} {Q : List D → Hp → Rho → Mem → Hp → Prop} (hs : Sim K B ρ m H) (r : RepS K B ρ s v) (w : Wt K B ρ H E Q (itemsS s m)) :
    ∃ ds xs a, itemsS s m = .ok ds m ∧ v = .ref a ∧ (((∀ es, s ≠ .d (.tup es)) ∧ SqL K H a xs) ∨ (s = .d (.tup ds) ∧ SqT K H a xs)) ∧ RepL K B ds xs := by
  cases s with
  | d x =>
    cases x with
    | lst ds =>
      obtain ⟨a, xs, rfl, h2, h3⟩ := r
      exact ⟨ds, xs, a, rfl, rfl, .inl ⟨(fun _ z => by cases z), SqL.of (hs.ex _ _ h2)⟩, h3⟩
    | tup ds =>
      obtain ⟨a, xs, rfl, h2, h3⟩ := r
      exact ⟨ds, xs, a, rfl, rfl, .inr ⟨rfl, SqT.of (hs.ex _ _ h2)⟩, h3⟩
    | scr ns =>
      obtain ⟨a, rfl, h2⟩ := r
      exact ⟨ns.map .int, ns.map .int, a, rfl, rfl, .inl ⟨(fun _ z => by cases z), hs.ex.l h2⟩, RepL.ints ns⟩
    | _ => exact w.elim
  | h n =>
    obtain ⟨p, h1, rfl⟩ := r
    obtain ⟨o, h2, h3⟩ := hs.at_ h1
    have e : itemsS (.h n) m = (match m[n]? with | some (.lst ds) => .ok ds m | some (.fz (.lst ds)) => .ok ds m | _ => .bad : Out (List D)) := rfl
    rw [e, h2] at w
    cases o with
    | lst ds =>
      obtain ⟨z1, z2, xs, z3, z4⟩ := h3
      exact ⟨ds, xs, p.1, by rw [e, h2], rfl, .inl ⟨(fun _ z => by cases z), SqL.of z3⟩, z4⟩
    | fz d =>
      cases d with
      | lst ds =>
        obtain ⟨⟨a, xs, ea, z3, z4⟩, _⟩ := h3
        cases ea
        exact ⟨ds, xs, p.1, by rw [e, h2], rfl, .inl ⟨(fun _ z => by cases z), SqL.of (hs.ex _ _ z3)⟩, z4⟩
      | _ => exact w.elim
    | _ => exact w.elim
theorem items_ok {s : S} {v : V} {Pp : List D → Prop} {Q : List D → Hp → Rho → Mem → Hp → Prop} (hs : Sim K B ρ m H) (r : RepS K B ρ s v) (w : Wt K B ρ H E Q (itemsS s m)) :
    ∃ ds xs a, itemsS s m = .ok ds m ∧ v = .ref a ∧ (SqL K H a xs ∨ SqT K H a xs) ∧ RepL K B ds xs := by
  obtain ⟨ds, xs, a, h1, h2, h3, h4⟩ := items_ok0 (E := E) (Pp := Pp) hs r w
  exact ⟨ds, xs, a, h1, h2, h3.elim (fun z => .inl z.2) (fun z => .inr z.2), h4⟩
/-! ### operators whose second side may be a changing object -/
def OpS (X : Cx) (E : XK) (r : R2) (f : D → S → M D) : Prop := ∀ x y dx sy B ρ m H Q, Sim X.K B ρ m H → Rep X.K B dx x → RepS X.K B ρ sy y → Wt X.K B ρ H E (PD X.K Q) (f dx sy m) → r x y H Q
theorem se_cmpS {op : CmpOp} {r : R2} {f : D → S → M D} {gb : SD → M S} (ho : OpR X (compareOp op) r) (hd : OpS X E r f) (ha : SE X E a fa) (hb : SX X E b gb) (hm : behindInMarks op b = false) :
    SE X E (.Compare a [op] [b] pos) (fun sd => M.bind (fa sd) fun x => M.bind (gb sd) fun y => f x y) := by
  obtain ⟨ta, pa, ka⟩ := ha
  obtain ⟨tb, pb, kb⟩ := hb
  refine ⟨_, pe_cmpR ho pa pb hm, fun σ sd B ρ m H Q s rl w => ka σ sd B ρ m H _ s rl ?_⟩
  refine Wt.bind' (r := fa sd m) w fun dx B1 ρ1 m1 H1 t1 s1 w1 x rx => kb σ sd B1 ρ1 m1 H1 _ s1 (rl.ste t1) ?_
  exact Wt.bind' (r := gb sd m1) w1 fun dy B2 ρ2 m2 H2 t2 s2 w2 y ry => hd x y dx dy B2 ρ2 m2 H2 Q s2 (rx.mono t2.bb) ry w2
def inS (neg : Bool) (x : D) (s : S) : M D := M.bind (itemsS s) fun ds => if (flatD x && ds.all flatD) = true then M.pure (.bl (if neg then !inL x ds else inL x ds)) else bad
theorem inS_ok {neg : Bool} : OpS X E (rIn X.K neg) (inS neg) := by
  intro x y dx sy B ρ m H Q s rx ry w
  obtain ⟨ds, xs, a, e, rfl, h2, h3⟩ := items_ok (E := E) (Pp := fun _ => True) s ry (Wt.bind w)
  have w2 : Wt X.K B ρ H E (PD X.K Q) ((itemsS sy m).bind fun ds => if (flatD dx && ds.all flatD) = true then M.pure (.bl (if neg then !inL dx ds else inL dx ds)) else bad) := w
  rw [e] at w2
  have w3 : Wt X.K B ρ H E (PD X.K Q) ((if (flatD dx && ds.all flatD) = true then M.pure (.bl (if neg then !inL dx ds else inL dx ds)) else bad : M D) m) := w2
  split at w3
  · rename_i hc
    obtain ⟨c1, c2⟩ := Bool.and_eq_true_iff.mp hc
    obtain ⟨g1, g2⟩ := rx.flat c1
    obtain ⟨g3, g4⟩ := h3.flat c2
    refine ⟨a, xs, rfl, h2, g2, g4, ?_⟩
    rw [g1, g3, inL_ok c1 c2]
    exact Wt.ok (E := E) (m := m) w3 s _ rfl
  · exact w3.elim
theorem se_in {gb : SD → M S} (ha : SE X E a fa) (hb : SX X E b gb) (hm : behindInMarks .In b = false := by rfl) : SE X E (.Compare a [.In] [b] pos) (fun sd => M.bind (fa sd) fun x => M.bind (gb sd) fun y => inS false x y) := se_cmpS op_in_seq inS_ok ha hb hm
theorem se_notin {gb : SD → M S} (ha : SE X E a fa) (hb : SX X E b gb) (hm : behindInMarks .NotIn b = false := by rfl) : SE X E (.Compare a [.NotIn] [b] pos) (fun sd => M.bind (fa sd) fun x => M.bind (gb sd) fun y => inS true x y) := se_cmpS op_notIn_seq inS_ok ha hb hm
/-! ### tests -/
theorem st_val (h : SE X E e fe) (he : ∀ whole, isTrue e X.env whole = (do let v ← whole; standAt e.pos; holding [v] (truthy v)) := by intro _; rfl) : ST X E e (fun sd => M.bind (fe sd) asB) := by
  obtain ⟨t, p, k⟩ := h
  refine ⟨_, pt_val p he, fun σ sd B ρ m H Q s rl w => k σ sd B ρ m H _ s rl ?_⟩
  refine Wt.bind' (r := fe sd m) w fun d B1 ρ1 m1 H1 t1 s1 w1 v r => ?_
  cases d with
  | bl b => exact ⟨b, r, Wt.ok (E := E) (m := m1) w1 s1⟩
  | _ => exact w1.elim
/-- a comparison as a test -/
theorem st_cmp {op : CmpOp} {f : SD → M D} (h : SE X E (.Compare a [op] [b] pos) f) (hp : ∀ t, PE X (.Compare a [op] [b] pos) t → PT X (.Compare a [op] [b] pos) (tTest t)) : ST X E (.Compare a [op] [b] pos) (fun sd => M.bind (f sd) asB) := by
  obtain ⟨t, p, k⟩ := h
  refine ⟨_, hp t p, fun σ sd B ρ m H Q s rl w => k σ sd B ρ m H _ s rl ?_⟩
  refine Wt.bind' (r := f sd m) w fun d B1 ρ1 m1 H1 t1 s1 w1 v r => ?_
  cases d with
  | bl b => exact ⟨b, r, Wt.ok (E := E) (m := m1) w1 s1⟩
  | _ => exact w1.elim
theorem st_not {ga : SD → M Bool} (h : ST X E a ga) : ST X E (.UnaryOp .Not a pos) (fun sd => M.bind (ga sd) fun b => M.pure (!b)) := by
  obtain ⟨t, p, k⟩ := h
  refine ⟨_, pt_not p, fun σ sd B ρ m H Q s rl w => k σ sd B ρ m H _ s rl ?_⟩
  exact Wt.bind' (r := ga sd m) w fun d B1 ρ1 m1 H1 t1 s1 w1 => Wt.ok (E := E) (m := m1) w1 s1
theorem sw_and1 {ga : SD → M Bool} (h : ST X E a ga) : SW X E (.BoolOp .And [a] pos) ga := by
  obtain ⟨t, p, k⟩ := h
  exact ⟨t, pw_and1 p, k⟩
theorem sw_or1 {ga : SD → M Bool} (h : ST X E a ga) : SW X E (.BoolOp .Or [a] pos) ga := by
  obtain ⟨t, p, k⟩ := h
  exact ⟨t, pw_or1 p, k⟩
theorem sw_and {rest : List Expr} {ga gb : SD → M Bool} (h : ST X E a ga) (h2 : SW X E (.BoolOp .And (b :: rest) pos) gb) : SW X E (.BoolOp .And (a :: b :: rest) pos) (fun sd => M.bind (ga sd) fun c => if c = true then gb sd else M.pure false) := by
  obtain ⟨ta, pa, ka⟩ := h
  obtain ⟨tb, pb, kb⟩ := h2
  refine ⟨_, pw_and pa pb, fun σ sd B ρ m H Q s rl w => ka σ sd B ρ m H _ s rl ?_⟩
  refine Wt.bind' (r := ga sd m) w fun d B1 ρ1 m1 H1 t1 s1 w1 => ?_
  cases d with
  | true => exact kb σ sd B1 ρ1 m1 H1 Q s1 (rl.ste t1) w1
  | false => exact Wt.ok (E := E) (m := m1) w1 s1
theorem sw_or {rest : List Expr} {ga gb : SD → M Bool} (h : ST X E a ga) (h2 : SW X E (.BoolOp .Or (b :: rest) pos) gb) : SW X E (.BoolOp .Or (a :: b :: rest) pos) (fun sd => M.bind (ga sd) fun c => if c = true then M.pure true else gb sd) := by
  obtain ⟨ta, pa, ka⟩ := h
  obtain ⟨tb, pb, kb⟩ := h2
  refine ⟨_, pw_or pa pb, fun σ sd B ρ m H Q s rl w => ka σ sd B ρ m H _ s rl ?_⟩
  refine Wt.bind' (r := ga sd m) w fun d B1 ρ1 m1 H1 t1 s1 w1 => ?_
  cases d with
  | false => exact kb σ sd B1 ρ1 m1 H1 Q s1 (rl.ste t1) w1
  | true => exact Wt.ok (E := E) (m := m1) w1 s1
theorem st_bool {ga : SD → M Bool} (h : SW X E e ga) : ST X E e ga := by
  obtain ⟨t, p, k⟩ := h
  exact ⟨t, p.pt, k⟩
theorem se_one {op} (h : SE X E a fa) : SE X E (.BoolOp op [a] pos) fa := by
  obtain ⟨t, p, k⟩ := h
  exact ⟨t, pe_one p, k⟩
theorem se_and {rest : List Expr} (h : SE X E a fa) (h2 : SE X E (.BoolOp .And (b :: rest) pos) fb) : SE X E (.BoolOp .And (a :: b :: rest) pos) (fun sd => M.bind (fa sd) fun x => M.bind (asB x) fun c => if c = true then fb sd else M.pure (.bl false)) := by
  obtain ⟨ta, pa, ka⟩ := h
  obtain ⟨tb, pb, kb⟩ := h2
  refine ⟨_, pe_and pa pb, fun σ sd B ρ m H Q s rl w => ka σ sd B ρ m H _ s rl ?_⟩
  refine Wt.bind' (r := fa sd m) w fun d B1 ρ1 m1 H1 t1 s1 w1 v r => ?_
  cases d with
  | bl c =>
    refine ⟨c, r, ?_⟩
    cases c with
    | true => exact kb σ sd B1 ρ1 m1 H1 Q s1 (rl.ste t1) w1
    | false => exact Wt.ok (E := E) (m := m1) w1 s1 _ rfl
  | _ => exact w1.elim
theorem se_or {rest : List Expr} (h : SE X E a fa) (h2 : SE X E (.BoolOp .Or (b :: rest) pos) fb) : SE X E (.BoolOp .Or (a :: b :: rest) pos) (fun sd => M.bind (fa sd) fun x => M.bind (asB x) fun c => if c = true then M.pure (.bl true) else fb sd) := by
  obtain ⟨ta, pa, ka⟩ := h
  obtain ⟨tb, pb, kb⟩ := h2
  refine ⟨_, pe_or pa pb, fun σ sd B ρ m H Q s rl w => ka σ sd B ρ m H _ s rl ?_⟩
  refine Wt.bind' (r := fa sd m) w fun d B1 ρ1 m1 H1 t1 s1 w1 v r => ?_
  cases d with
  | bl c =>
    refine ⟨c, r, ?_⟩
    cases c with
    | false => exact kb σ sd B1 ρ1 m1 H1 Q s1 (rl.ste t1) w1
    | true => exact Wt.ok (E := E) (m := m1) w1 s1 _ rfl
  | _ => exact w1.elim
theorem se_not (h : SE X E a fa) : SE X E (.UnaryOp .Not a pos) (fun sd => M.bind (fa sd) fun x => M.bind (asB x) fun c => M.pure (.bl (!c))) := by
  obtain ⟨ta, pa, ka⟩ := h
  refine ⟨_, pe_not pa, fun σ sd B ρ m H Q s rl w => ka σ sd B ρ m H _ s rl ?_⟩
  refine Wt.bind' (r := fa sd m) w fun d B1 ρ1 m1 H1 t1 s1 w1 v r => ?_
  cases d with
  | bl c => exact ⟨c, r, Wt.ok (E := E) (m := m1) w1 s1 _ rfl⟩
  | _ => exact w1.elim
theorem se_if {ga : SD → M Bool} (h : ST X E c ga) (ha : SE X E a fa) (hb : SE X E b fb) : SE X E (.IfExp c a b pos) (fun sd => M.bind (ga sd) fun z => if z = true then fa sd else fb sd) := by
  obtain ⟨tc, pc, kc⟩ := h
  obtain ⟨ta, pa, ka⟩ := ha
  obtain ⟨tb, pb, kb⟩ := hb
  refine ⟨_, pe_ifExp pc pa pb, fun σ sd B ρ m H Q s rl w => kc σ sd B ρ m H _ s rl ?_⟩
  refine Wt.bind' (r := ga sd m) w fun d B1 ρ1 m1 H1 t1 s1 w1 => ?_
  cases d with
  | true => exact ka σ sd B1 ρ1 m1 H1 Q s1 (rl.ste t1) w1
  | false => exact kb σ sd B1 ρ1 m1 H1 Q s1 (rl.ste t1) w1
theorem se_neg (h : SE X E a fa) : SE X E (.UnaryOp .USub a pos) (fun sd => M.bind (fa sd) fun x => M.bind (asI x) fun i => M.pure (.int (-i))) := by
  obtain ⟨ta, pa, ka⟩ := h
  refine ⟨_, pe_un un_neg pa, fun σ sd B ρ m H Q s rl w => ka σ sd B ρ m H _ s rl ?_⟩
  refine Wt.bind' (r := fa sd m) w fun d B1 ρ1 m1 H1 t1 s1 w1 v r => ?_
  cases d with
  | int i => exact ⟨i, r, Wt.ok (E := E) (m := m1) w1 s1 _ rfl⟩
  | _ => exact w1.elim
/-! ### arguments, displays -/
theorem sa_nil : SA X E [] (fun _ => M.pure []) := ⟨_, pa_nil, fun σ sd B ρ m H Q s rl w => Wt.ok (E := E) (m := m) w s _ rfl⟩
theorem sa_cons {es : List Expr} {ga : SD → M S} {gs : SD → M (List S)} (ha : SX X E e ga) (hs : SA X E es gs) (hst : starEach (e :: es) X.env = (false, eval e X.env) :: starEach es X.env := by rfl) :
    SA X E (e :: es) (fun sd => M.bind (ga sd) fun x => M.bind (gs sd) fun xs => M.pure (x :: xs)) := by
  obtain ⟨ta, pa, ka⟩ := ha
  obtain ⟨tb, pb, kb⟩ := hs
  refine ⟨_, pa_cons pa pb hst, fun σ sd B ρ m H Q s rl w => ka σ sd B ρ m H _ s rl ?_⟩
  refine Wt.bind' (r := ga sd m) w fun d B1 ρ1 m1 H1 t1 s1 w1 v r => kb σ sd B1 ρ1 m1 H1 _ s1 (rl.ste t1) ?_
  exact Wt.bind' (r := gs sd m1) w1 fun ds B2 ρ2 m2 H2 t2 s2 w2 vs rs => Wt.ok (E := E) (m := m2) w2 s2 _ ⟨v, vs, rfl, r.ste t2, rs⟩
def SL (X : Cx) (E : XK) (es : List Expr) (f : SD → M (List D)) : Prop := ∃ t, PA X es t ∧ ∀ σ sd B ρ m H Q, Sim X.K B ρ m H → RelS X.K B ρ σ sd → Wt X.K B ρ H E (fun ds B' _ _ H' => ∀ vs, RepL X.K B' ds vs → Q vs H') (f sd m) → t σ H Q
theorem sl_nil : SL X E [] (fun _ => M.pure []) := ⟨_, pa_nil, fun σ sd B ρ m H Q s rl w => Wt.ok (E := E) (m := m) w s _ rfl⟩
theorem sl_cons {es : List Expr} {gs : SD → M (List D)} (ha : SE X E e fe) (hs : SL X E es gs) (hst : starEach (e :: es) X.env = (false, eval e X.env) :: starEach es X.env := by rfl) :
    SL X E (e :: es) (fun sd => M.bind (fe sd) fun x => M.bind (gs sd) fun xs => M.pure (x :: xs)) := by
  obtain ⟨ta, pa, ka⟩ := ha
  obtain ⟨tb, pb, kb⟩ := hs
  refine ⟨_, pa_cons pa pb hst, fun σ sd B ρ m H Q s rl w => ka σ sd B ρ m H _ s rl ?_⟩
  refine Wt.bind' (r := fe sd m) w fun d B1 ρ1 m1 H1 t1 s1 w1 v r => kb σ sd B1 ρ1 m1 H1 _ s1 (rl.ste t1) ?_
  exact Wt.bind' (r := gs sd m1) w1 fun ds B2 ρ2 m2 H2 t2 s2 w2 vs rs => Wt.ok (E := E) (m := m2) w2 s2 _ ⟨v, vs, rfl, r.mono t2.bb, rs⟩
def fitL {α : Type} (ds : List D) (x : M α) : M α := if ds.length ≤ 16777216 then x else bad
theorem fitL_ok {α : Type} {ds : List D} {x : M α} {P : α → Hp → Rho → Mem → Hp → Prop} (w : Wt K B ρ H E P (fitL ds x m)) : ds.length ≤ sizeLine ∧ Wt K B ρ H E P (x m) := by
  unfold fitL at w
  split at w
  · rename_i h
    exact ⟨by rw [sl16]; exact h, w⟩
  · exact w.elim
theorem se_tup {es : List Expr} {k} {gs : SD → M (List D)} (hs : SL X E es gs) : SE X E (.Tuple es k pos) (fun sd => M.bind (gs sd) fun ds => fitL ds (M.pure (.tup ds))) := by
  obtain ⟨t, p, kk⟩ := hs
  refine ⟨_, pe_tup p, fun σ sd B ρ m H Q s rl w => kk σ sd B ρ m H _ s rl ?_⟩
  refine Wt.bind' (r := gs sd m) w fun ds B1 ρ1 m1 H1 t1 s1 w1 vs rs => ?_
  obtain ⟨hl, w2⟩ := fitL_ok w1
  exact ⟨by rw [rs.length]; exact hl, fun p hp => Wt.tup s1 w2 rs hp⟩
theorem sf_lst {es : List Expr} {gs : SD → M (List D)} (hs : SL X E es gs) : SF X E (.List es pos) (fun sd => M.bind (gs sd) fun ds => fitL ds (M.pure ds)) := by
  obtain ⟨t, p, kk⟩ := hs
  refine ⟨_, pe_lst p, fun σ sd B ρ m H Q s rl w => kk σ sd B ρ m H _ s rl ?_⟩
  refine Wt.bindO (r := gs sd m) w fun ds B1 ρ1 m1 H1 t1 s1 w1 vs rs => ?_
  obtain ⟨hl, w2⟩ := fitL_ok w1
  refine ⟨by rw [rs.length]; exact hl, fun p hp => ?_⟩
  have h0 : H p = none := t1.fresh s1 hp
  exact Wt.ok' w2 (t1.trans (Ste.newH hp)) (s1.newH hp) p vs h0 (s1.bnone hp) (s1.nown hp) upd_same rs
end
end Mi
set_option maxRecDepth 100000
set_option maxHeartbeats 4000000
/-! The layer Mi. Part 4: what is walked, targets, statements, loops, comprehensions. -/
namespace Mi
open PySem PySem.Spec PyProof.Rows L2
/-! ### a reading that does not hang on the context's entry -/
def semE (X : Cx) (e : Expr) : TE := fun σ H Q => ∀ pins s, Inv X pins σ H s → wpAny (model X.prog X.w) X.A (eval e X.env) (EP X pins σ Q) X.xe s
def semT (X : Cx) (e : Expr) : TT := fun σ H Q => ∀ pins s, Inv X pins σ H s → wpAny (model X.prog X.w) X.A (isTrue e X.env (eval e X.env)) (TP X pins σ Q) X.xe s
def semG (X : Cx) (tg : Expr) : TG := fun v σ H Q => ∀ pins s u, Inv X pins σ H s → RelV v u → wpAny (model X.prog X.w) X.A (assign tg X.env u) (fun _ s' => ∃ σ' H', Inv X pins σ' H' s' ∧ Q σ' H') X.xe s
def semI (X : Cx) (tg iter : Expr) : TI := fun σ H R => ∀ pins s, Inv X pins σ H s → wpAny (model X.prog X.w) X.A (eval iter X.env) (fun v s1 => wpAny (model X.prog X.w) X.A (pyIter v) (PIE X pins σ tg R) X.xe s1) X.xe s
/-! ### what is walked -/
/-- the iterator J gives the data ds, one by one, whatever steps come between -/
def Yields (K : PySem.W.Frag) (B1 : Hp) (ρ1 : Rho) (H1 : Hp) (ds : List D) (J : It) : Prop := ∀ B' ρ' m' H', Sub B1 B' → Sim K B' ρ' m' H' →
  (∀ (i : Nat) d, ds[i]? = some d → J.go i H' ∧ ∀ x H'', J.yld i H' x H'' → ∃ B'', Ste B' ρ' H' B'' ρ' H'' ∧ Sim K B'' ρ' m' H'' ∧ Rep K B'' d x) ∧ ∀ i : Nat, ds.length ≤ i → J.stop i H'
def SI (X : Cx) (E : XK) (tg iter : Expr) (f : SD → M (List D)) : Prop := ∃ wi, PI X tg iter wi ∧ ∀ σ sd B ρ m H R, Sim X.K B ρ m H → RelS X.K B ρ σ sd → Wt X.K B ρ H E (fun ds B1 ρ1 _ H1 => ∀ J, Yields X.K B1 ρ1 H1 ds J → R J H1) (f sd m) → wi σ H R
/-- a target; js: the slots that it may set -/
def SG (X : Cx) (E : XK) (js : List Nat) (tg : Expr) (g : D → SD → M SD) : Prop := ∃ t, PG X tg t ∧ ∀ σ sd B ρ m H v d Q, Sim X.K B ρ m H → RelS X.K B ρ σ sd → Rep X.K B d v →
  Wt X.K B ρ H E (fun sd' B' ρ' _ H' => ∀ σ', σ'.length = σ.length → (∀ i, i ∉ js → σ'[i]? = σ[i]?) → RelS X.K B' ρ' σ' sd' → Q σ' H') (g d sd m) → t v σ H Q
inductive Fl where
  | nx (sd : SD) | rt (d : D) | bk (sd : SD) | ct (sd : SD)
abbrev PFf (K : PySem.W.Frag) (De : Ends) : Fl → Hp → Rho → Mem → Hp → Prop := fun fl B' ρ' _ H' => match fl with
  | .nx sd => ∀ σ', RelS K B' ρ' σ' sd → De.nx σ' H'
  | .rt d => ∀ v, Rep K B' d v → De.rt v H'
  | .bk sd => ∀ σ', RelS K B' ρ' σ' sd → De.bk σ' H'
  | .ct sd => ∀ σ', RelS K B' ρ' σ' sd → De.ct σ' H'
def SS (X : Cx) (E : XK) (st : Stmt) (g : SD → M Fl) : Prop := ∃ t, PS X st t ∧ ∀ De σ sd B ρ m H, Sim X.K B ρ m H → RelS X.K B ρ σ sd → Wt X.K B ρ H E (PFf X.K De) (g sd m) → t De σ H
def SSs (X : Cx) (E : XK) (st : List Stmt) (g : SD → M Fl) : Prop := ∃ t, PSs X st t ∧ ∀ De σ sd B ρ m H, Sim X.K B ρ m H → RelS X.K B ρ σ sd → Wt X.K B ρ H E (PFf X.K De) (g sd m) → t De σ H
section
variable {X : Cx} {E : XK} {K : PySem.W.Frag} {B : Hp} {ρ : Rho} {m : Mem} {H : Hp} {a b c e tg iter : Expr} {pos : Pos} {fa fb fc fe : SD → M D}
/-! #### lists, tuples -/
def itemsD : D → M (List D)
  | .lst ds => M.pure ds
  | .tup ds => M.pure ds
  | .scr ns => M.pure (ns.map .int)
  | _ => bad
theorem yields_list {a : Addr} {xs : List V} {ds : List D} {B1 : Hp} {ρ1 : Rho} {H1 : Hp} (h : SqL K B1 a xs) (r : RepL K B1 ds xs) : Yields K B1 ρ1 H1 ds (Itl K a) := by
  intro B' ρ' m' H' t s
  have hq : SqL K H' a xs := s.ex.l (t.l h)
  have r' := r.mono t
  refine ⟨fun i d e => ?_, fun i hi => ⟨xs, hq, by rw [r.length]; exact hi⟩⟩
  obtain ⟨v, h1, h2⟩ := r'.get e
  refine ⟨⟨xs, v, hq, h1⟩, fun x H'' hy => ?_⟩
  obtain ⟨e1, e2⟩ := hy
  have e3 := e2 xs hq
  rw [h1] at e3
  cases e3
  subst e1
  exact ⟨B', Ste.refl _ _ _, s, h2⟩
theorem yields_tup {a : Addr} {xs : List V} {ds : List D} {B1 : Hp} {ρ1 : Rho} {H1 : Hp} (h : SqT K B1 a xs) (r : RepL K B1 ds xs) : Yields K B1 ρ1 H1 ds (Itt K a) := by
  intro B' ρ' m' H' t s
  have hq : SqT K H' a xs := s.ex.t (t.t h)
  have r' := r.mono t
  refine ⟨fun i d e => ?_, fun i hi => ⟨xs, hq, by rw [r.length]; exact hi⟩⟩
  obtain ⟨v, h1, h2⟩ := r'.get e
  refine ⟨⟨xs, v, hq, h1⟩, fun x H'' hy => ?_⟩
  obtain ⟨e1, e2⟩ := hy
  have e3 := e2 xs hq
  rw [h1] at e3
  cases e3
  subst e1
  exact ⟨B', Ste.refl _ _ _, s, h2⟩
theorem pi_or {w1 w2 : TI} (h1 : PI X tg iter w1) (h2 : PI X tg iter w2) : PI X tg iter (fun σ H R => w1 σ H R ∨ w2 σ H R) := ⟨fun pins s σ H R I q => by
  rcases q with q | q
  · exact h1.run pins s σ H R I q
  · exact h2.run pins s σ H R I q⟩
theorem si_seq (ha : SE X E iter fa) : SI X E tg iter (fun sd => M.bind (fa sd) itemsD) := by
  obtain ⟨ta, pa, ka⟩ := ha
  refine ⟨_, pi_or (pi_list pa) (pi_tup pa), fun σ sd B ρ m H R s rl w => ?_⟩
  have w2 : Wt X.K B ρ H E (fun ds B1 ρ1 _ H1 => ∀ J, Yields X.K B1 ρ1 H1 ds J → R J H1) ((fa sd m).bind itemsD) := w
  have go_l : (∀ d m1, fa sd m = .ok d m1 → ∃ ds, itemsD d = M.pure ds ∧ ∀ B1 v, Rep X.K B1 d v → ∃ a xs, v = .ref a ∧ SqL X.K B1 a xs ∧ RepL X.K B1 ds xs) → iList X.K ta σ H R := fun hh => by
    refine ka σ sd B ρ m H _ s rl ?_
    cases q : fa sd m with
    | ok d m1 =>
      rw [q] at w2
      obtain ⟨ds, e1, e2⟩ := hh d m1 q
      refine fun B1 ρ1 H1 t1 s1 v r => ?_
      obtain ⟨a, xs, rfl, h2, h3⟩ := e2 B1 v r
      refine ⟨a, rfl, ⟨xs, s1.ex.l h2⟩, ?_⟩
      have w3 : Wt X.K B ρ H E (fun ds B1 ρ1 _ H1 => ∀ J, Yields X.K B1 ρ1 H1 ds J → R J H1) (itemsD d m1) := w2
      rw [e1] at w3
      exact Wt.ok' w3 t1 s1 _ (yields_list h2 h3)
    | exc c fs m1 =>
      rw [q] at w2
      exact w2
    | bad =>
      rw [q] at w2
      exact w2
  have go_t : (∀ d m1, fa sd m = .ok d m1 → ∃ ds, itemsD d = M.pure ds ∧ ∀ B1 v, Rep X.K B1 d v → ∃ a xs, v = .ref a ∧ SqT X.K B1 a xs ∧ RepL X.K B1 ds xs) → iTup X.K ta σ H R := fun hh => by
    refine ka σ sd B ρ m H _ s rl ?_
    cases q : fa sd m with
    | ok d m1 =>
      rw [q] at w2
      obtain ⟨ds, e1, e2⟩ := hh d m1 q
      refine fun B1 ρ1 H1 t1 s1 v r => ?_
      obtain ⟨a, xs, rfl, h2, h3⟩ := e2 B1 v r
      refine ⟨a, rfl, ⟨xs, s1.ex.t h2⟩, ?_⟩
      have w3 : Wt X.K B ρ H E (fun ds B1 ρ1 _ H1 => ∀ J, Yields X.K B1 ρ1 H1 ds J → R J H1) (itemsD d m1) := w2
      rw [e1] at w3
      exact Wt.ok' w3 t1 s1 _ (yields_tup h2 h3)
    | exc c fs m1 =>
      rw [q] at w2
      exact w2
    | bad =>
      rw [q] at w2
      exact w2
  cases q : fa sd m with
  | exc c fs m1 => exact .inl (go_l fun d m1 e => by rw [q] at e; cases e)
  | bad => rw [q] at w2; exact w2.elim
  | ok d m1 =>
    rw [q] at w2
    cases d with
    | lst ds =>
      refine .inl (go_l fun d m1 e => ?_)
      rw [q] at e
      cases e
      refine ⟨ds, rfl, fun B1 v r => ?_⟩
      obtain ⟨a, xs, rfl, h2, h3⟩ := r
      exact ⟨a, xs, rfl, SqL.of h2, h3⟩
    | scr ns =>
      refine .inl (go_l fun d m1 e => ?_)
      rw [q] at e
      cases e
      refine ⟨_, rfl, fun B1 v r => ?_⟩
      obtain ⟨a, rfl, h2⟩ := r
      exact ⟨a, _, rfl, h2, RepL.ints ns⟩
    | tup ds =>
      refine .inr (go_t fun d m1 e => ?_)
      rw [q] at e
      cases e
      refine ⟨ds, rfl, fun B1 v r => ?_⟩
      obtain ⟨a, xs, rfl, h2, h3⟩ := r
      exact ⟨a, xs, rfl, SqT.of h2, h3⟩
    | _ => exact w2.elim
/-! #### ranges -/
def rngL (lo hi : Int) : List D := (List.range (hi - lo).toNat).map fun i => .int (lo + (i : Nat))
theorem yields_rng {lo : Int} {n : Nat} {B1 : Hp} {ρ1 : Rho} {H1 : Hp} : Yields K B1 ρ1 H1 ((List.range n).map fun i => D.int (lo + (i : Nat))) (Itr lo n) := by
  intro B' ρ' m' H' t s
  refine ⟨fun i d e => ?_, fun i hi => (show n ≤ i by simpa using hi)⟩
  rw [List.getElem?_map] at e
  have hi : i < n := by
    cases q : (List.range n)[i]? with
    | none => rw [q] at e; cases e
    | some j => simpa using (List.getElem?_eq_some_iff.mp q).1
  rw [List.getElem?_range hi] at e
  cases e
  refine ⟨hi, fun x H'' hy => ?_⟩
  obtain ⟨e1, e2⟩ := hy
  subst e1 e2
  exact ⟨B', Ste.refl _ _ _, s, rfl⟩
def inR (i : Int) : Bool := decide (-(4611686018427387904) ≤ i) && decide (i < 4611686018427387904)
theorem inR_ok {i : Int} (h : inR i = true) : -(2 ^ 62) ≤ i ∧ i < 2 ^ 62 := by
  unfold inR at h
  simp only [Bool.and_eq_true, decide_eq_true_eq] at h
  exact ⟨by omega, by omega⟩
def rng1 (x : D) : M (List D) := M.bind (asI x) fun n => if inR n = true then M.pure (rngL 0 n) else bad
def rng2 (x y : D) : M (List D) := M.bind (asI x) fun lo => M.bind (asI y) fun hi => if (inR lo && inR hi) = true then M.pure (rngL lo hi) else bad
theorem si_rng1 {p : Pos} (hm : X.mg "range" = none) (ha : SE X E a fa) (hg : Gl X "range" := by rfl) (hs : starEach [a] X.env = [(false, eval a X.env)] := by rfl) : SI X E tg (.Call (.Name "range" p) [a] [] pos) (fun sd => M.bind (fa sd) rng1) := by
  obtain ⟨ta, pa, ka⟩ := ha
  refine ⟨_, pi_range1 hg hm (pa_cons pa pa_nil hs) hs, fun σ sd B ρ m H R s rl w => ka σ sd B ρ m H _ s rl ?_⟩
  refine Wt.bind' (r := fa sd m) w fun d B1 ρ1 m1 H1 t1 s1 w1 v r => ?_
  cases d with
  | int n =>
    have w2 : Wt X.K B1 ρ1 H1 E (fun ds B1 ρ1 _ H1 => ∀ J, Yields X.K B1 ρ1 H1 ds J → R J H1) ((if inR n = true then M.pure (rngL 0 n) else bad : M (List D)) m1) := w1
    split at w2
    · rename_i hc
      obtain ⟨h1, h2⟩ := inR_ok hc
      refine ⟨n, by rw [show v = .int n from r], h1, h2, Wt.ok (E := E) (m := m1) w2 s1 _ ?_⟩
      have q := yields_rng (K := X.K) (lo := 0) (n := n.toNat) (B1 := B1) (ρ1 := ρ1) (H1 := H1)
      unfold rngL
      rw [Int.sub_zero]
      exact q
    · exact w2.elim
  | _ => exact w1.elim
theorem si_rng2 {p : Pos} (hm : X.mg "range" = none) (ha : SE X E a fa) (hb : SE X E b fb) (hg : Gl X "range" := by rfl) (hs : starEach [a, b] X.env = [(false, eval a X.env), (false, eval b X.env)] := by rfl) (hs2 : starEach [b] X.env = [(false, eval b X.env)] := by rfl) :
    SI X E tg (.Call (.Name "range" p) [a, b] [] pos) (fun sd => M.bind (fa sd) fun x => M.bind (fb sd) fun y => rng2 x y) := by
  obtain ⟨ta, pa, ka⟩ := ha
  obtain ⟨tb, pb, kb⟩ := hb
  refine ⟨_, pi_range2 hg hm (pa_cons pa (pa_cons pb pa_nil hs2) (by rw [hs, hs2])) hs hs2, fun σ sd B ρ m H R s rl w => ka σ sd B ρ m H _ s rl ?_⟩
  refine Wt.bind' (r := fa sd m) w fun d B1 ρ1 m1 H1 t1 s1 w1 v r => kb σ sd B1 ρ1 m1 H1 _ s1 (rl.ste t1) ?_
  refine Wt.bind' (r := fb sd m1) w1 fun d2 B2 ρ2 m2 H2 t2 s2 w2 v2 r2 => ?_
  cases d with
  | int lo =>
    cases d2 with
    | int hi =>
      have w3 : Wt X.K B2 ρ2 H2 E (fun ds B1 ρ1 _ H1 => ∀ J, Yields X.K B1 ρ1 H1 ds J → R J H1) ((if (inR lo && inR hi) = true then M.pure (rngL lo hi) else bad : M (List D)) m2) := w2
      split at w3
      · rename_i hc
        obtain ⟨c1, c2⟩ := Bool.and_eq_true_iff.mp hc
        obtain ⟨h1, h2⟩ := inR_ok c1
        obtain ⟨h3, h4⟩ := inR_ok c2
        exact ⟨lo, hi, by rw [show v = .int lo from r, show v2 = .int hi from r2], ⟨h1, h2, h3, h4⟩, Wt.ok (E := E) (m := m2) w3 s2 _ yields_rng⟩
      · exact w3.elim
    | _ => exact w2.elim
  | _ => exact w2.elim
/-! #### enumerate of a list, zip of two lists -/
def enumL (ds : List D) : List D := (List.range ds.length).map fun i => .tup [.int (i : Nat), ds.getD i .non]
theorem si_enum {p tpos : Pos} {elts : List Expr} {kk : Nat} (hm : X.mg "enumerate" = none) (ha : SE X E a fa) (hg : Gl X "enumerate" := by rfl) (hs : starEach [a] X.env = [(false, eval a X.env)] := by rfl) :
    SI X E (.Tuple elts kk tpos) (.Call (.Name "enumerate" p) [a] [] pos) (fun sd => M.bind (fa sd) fun x => M.bind (asL x) fun ds => M.pure (enumL ds)) := by
  obtain ⟨ta, pa, ka⟩ := ha
  refine ⟨_, pi_enum hg hm (pa_cons pa pa_nil hs) hs, fun σ sd B ρ m H R s rl w => ka σ sd B ρ m H _ s rl ?_⟩
  refine Wt.bind' (r := fa sd m) w fun d B1 ρ1 m1 H1 t1 s1 w1 v r => ?_
  cases d with
  | lst ds =>
    obtain ⟨a, xs, rfl, h2, h3⟩ := r
    refine ⟨a, xs, rfl, SqL.of (s1.ex _ _ h2), Wt.ok (E := E) (m := m1) w1 s1 _ ?_⟩
    intro B' ρ' m' H' t s'
    have hq : SqL X.K H' a xs := SqL.of (s'.ex _ _ (t _ _ h2))
    have r' := h3.mono t
    refine ⟨fun i d e => ?_, fun i hi => ⟨xs, hq, by rw [h3.length]; simpa [enumL] using hi⟩⟩
    unfold enumL at e
    rw [List.getElem?_map] at e
    have hi : i < ds.length := by
      cases q : (List.range ds.length)[i]? with
      | none => rw [q] at e; cases e
      | some j => simpa using (List.getElem?_eq_some_iff.mp q).1
    rw [List.getElem?_range hi] at e
    cases e
    obtain ⟨x, g1, g2⟩ := r'.get (List.getElem?_eq_getElem hi)
    refine ⟨⟨xs, x, hq, g1⟩, fun y H'' hy => ?_⟩
    obtain ⟨T, x', rfl, hT, rfl, hx⟩ := hy
    have ex : x' = x := by
      have z := hx xs hq
      rw [g1] at z
      exact (Option.some.inj z).symm
    subst ex
    refine ⟨_, Ste.new s'.ex hT, s'.new hT, T, _, rfl, upd_same, ?_⟩
    refine ⟨.int (i : Nat), _, rfl, rfl, x', [], rfl, ?_, rfl⟩
    have ed : ds.getD i .non = ds[i] := by simp [List.getD_eq_getElem?_getD, List.getElem?_eq_getElem hi]
    rw [ed]
    exact g2.mono (Sub.upd (s'.bnone hT))
  | _ => exact w1.elim
/-! #### zip of two lists -/
def zipL (as bs : List D) : List D := (as.zip bs).map fun p => .tup [p.1, p.2]
theorem si_zip {p tpos : Pos} {elts : List Expr} {kk : Nat} (hm : X.mg "zip" = none) (ha : SE X E a fa) (hb : SE X E b fb) (hg : Gl X "zip" := by rfl) (hs : starEach [a, b] X.env = (false, eval a X.env) :: starEach [b] X.env := by rfl)
    (hpl : (backTo pos (starEach [b] X.env)).any (·.1) = false := by rfl) (hs2 : starEach [b] X.env = (false, eval b X.env) :: starEach [] X.env := by rfl) :
    SI X E (.Tuple elts kk tpos) (.Call (.Name "zip" p) [a, b] [] pos) (fun sd => M.bind (fa sd) fun x => M.bind (fb sd) fun y => M.bind (asL x) fun ds => M.bind (asL y) fun es => M.pure (zipL ds es)) := by
  obtain ⟨ta, pa, ka⟩ := ha
  obtain ⟨tb, pb, kb⟩ := hb
  refine ⟨_, pi_zip hg hm (pa_cons pa (pa_cons pb pa_nil hs2) hs) hs hpl, fun σ sd B ρ m H R s rl w => ka σ sd B ρ m H _ s rl ?_⟩
  refine Wt.bind' (r := fa sd m) w fun d B1 ρ1 m1 H1 t1 s1 w1 v r => kb σ sd B1 ρ1 m1 H1 _ s1 (rl.ste t1) ?_
  refine Wt.bind' (r := fb sd m1) w1 fun d2 B2 ρ2 m2 H2 t2 s2 w2 v2 r2 => ?_
  cases d with
  | lst ds =>
    cases d2 with
    | lst es =>
      obtain ⟨a, xs, rfl, h2, h3⟩ := r
      obtain ⟨b, ys, rfl, g2, g3⟩ := r2
      have h2 := t2.bb _ _ h2
      have h3 := h3.mono t2.bb
      refine ⟨a, b, xs, ys, rfl, SqL.of (s2.ex _ _ h2), SqL.of (s2.ex _ _ g2), Wt.ok (E := E) (m := m2) w2 s2 _ ?_⟩
      intro B' ρ' m' H' t s'
      have hq : SqL X.K H' a xs := SqL.of (s'.ex _ _ (t _ _ h2))
      have hq2 : SqL X.K H' b ys := SqL.of (s'.ex _ _ (t _ _ g2))
      have r' := h3.mono t
      have r2' := g3.mono t
      refine ⟨fun i d e => ?_, fun i hi => ⟨xs, ys, hq, hq2, ?_⟩⟩
      · unfold zipL at e
        rw [List.getElem?_map] at e
        cases q : (ds.zip es)[i]? with
        | none => rw [q] at e; cases e
        | some pr =>
          rw [q] at e
          cases e
          obtain ⟨e1, e2⟩ := List.getElem?_zip_eq_some.mp q
          obtain ⟨x, k1, k2⟩ := r'.get e1
          obtain ⟨y, l1, l2⟩ := r2'.get e2
          refine ⟨⟨xs, ys, x, y, hq, hq2, k1, l1⟩, fun z H'' hy => ?_⟩
          obtain ⟨T, x', y', rfl, hT, rfl, hx, hyy⟩ := hy
          have ex : x' = x := by
            have z := hx xs hq
            rw [k1] at z
            exact (Option.some.inj z).symm
          have ey : y' = y := by
            have z := hyy ys hq2
            rw [l1] at z
            exact (Option.some.inj z).symm
          subst ex ey
          refine ⟨_, Ste.new s'.ex hT, s'.new hT, T, _, rfl, upd_same, ?_⟩
          exact ⟨x', _, rfl, k2.mono (Sub.upd (s'.bnone hT)), y', [], rfl, l2.mono (Sub.upd (s'.bnone hT)), rfl⟩
      · have hl : min ds.length es.length ≤ i := by simpa [zipL, List.length_zip] using hi
        rw [h3.length, g3.length]
        omega
    | _ => exact w2.elim
  | _ => exact w2.elim
/-! ### targets -/
theorem sg_name {i : Nat} {x : Str} (hN : X.N.Nodup) (hi : X.N[i]? = some x := by rfl) (hx : Loc X.env.scope x := by first | exact Or.inl rfl | exact Or.inr rfl) (hf : X.fn x = true ∨ X.env.scope.names.lookup x = some .local := by first | exact .inl rfl | exact .inr rfl | assumption) :
    SG X E [i] (.Name x pos) (fun d sd => M.pure (sd.set i (some (.d d)))) := by
  refine ⟨_, pg_name hN hi hx hf, fun σ sd B ρ m H v d Q s rl r w => ?_⟩
  refine Wt.ok (E := E) (m := m) w s _ (by rw [List.length_set]) (fun j hj => ?_) (rl.set i r)
  rw [List.getElem?_set_ne (fun z => hj (by simp [z]))]
/-- several targets, one behind another -/
def SGs (X : Cx) (E : XK) (js : List Nat) (ts : List Expr) (n : Nat) (g : List D → SD → M SD) : Prop := ∃ t, PGs X ts t ∧ (∀ σ sd B ρ m H vs ds Q, Sim X.K B ρ m H → RelS X.K B ρ σ sd → RepL X.K B ds vs → ds.length = n →
  Wt X.K B ρ H E (fun sd' B' ρ' _ H' => ∀ σ', σ'.length = σ.length → (∀ i, i ∉ js → σ'[i]? = σ[i]?) → RelS X.K B' ρ' σ' sd' → Q σ' H') (g ds sd m) → t vs σ H Q)
theorem sgs_nil : SGs X E [] [] 0 (fun _ sd => M.pure sd) := by
  refine ⟨_, pgs_nil, fun σ sd B ρ m H vs ds Q s rl r hl w => ?_⟩
  rw [List.length_eq_zero_iff.mp hl] at r
  exact ⟨r, Wt.ok (E := E) (m := m) w s _ rfl (fun _ _ => rfl) rl⟩
theorem sgs_cons {js ks : List Nat} {ts : List Expr} {n : Nat} {g1 : D → SD → M SD} {g2 : List D → SD → M SD} (h1 : SG X E js tg g1) (h2 : SGs X E ks ts n g2) (hs : (assignEach (tg :: ts) X.env).map (·.2) = assign tg X.env :: (assignEach ts X.env).map (·.2) := by rfl) :
    SGs X E (js ++ ks) (tg :: ts) (n + 1) (fun ds sd => M.bind (g1 (ds.headD .non) sd) fun sd1 => g2 ds.tail sd1) := by
  obtain ⟨t1, p1, k1⟩ := h1
  obtain ⟨t2, p2, k2⟩ := h2
  refine ⟨_, pgs_cons p1 p2 hs, fun σ sd B ρ m H vs ds Q s rl r hl w => ?_⟩
  cases ds with
  | nil => simp at hl
  | cons d ds =>
    obtain ⟨v, vr, rfl, r1, r2⟩ := r
    refine ⟨v, vr, rfl, k1 σ sd B ρ m H v d _ s rl r1 ?_⟩
    refine Wt.bind' (r := g1 d sd m) w fun sd1 B1 ρ1 m1 H1 st1 s1 w1 σ1 l1 c1 rl1 => k2 σ1 sd1 B1 ρ1 m1 H1 vr ds Q s1 rl1 (r2.mono st1.bb) (by simpa using hl) ?_
    refine Wt.mono w1 fun sd2 B2 ρ2 m2 H2 w2 σ2 l2 c2 rl2 => w2 σ2 (l2.trans l1) (fun i hi => ?_) rl2
    rw [c2 i (fun z => hi (List.mem_append_right _ z)), c1 i (fun z => hi (List.mem_append_left _ z))]
theorem sg_tup {js : List Nat} {es : List Expr} {k n : Nat} {g : List D → SD → M SD} (hc : X.calm = true) (h : SGs X E js es n g) (hn : (assignEach es X.env).length = n := by rfl) (hst : (assignEach es X.env).findIdx? (·.1) = none := by rfl) :
    SG X E js (.Tuple es k pos) (fun d sd => match d with | .tup ds => if ds.length = n then g ds sd else bad | _ => bad) := by
  obtain ⟨t, p, kk⟩ := h
  refine ⟨_, pg_tup hc p hn hst, fun σ sd B ρ m H v d Q s rl r w => ?_⟩
  cases d with
  | tup ds =>
    obtain ⟨a, xs, rfl, h2, h3⟩ := r
    have w2 : Wt X.K B ρ H E (fun sd' B' ρ' _ H' => ∀ σ', σ'.length = σ.length → (∀ i, i ∉ js → σ'[i]? = σ[i]?) → RelS X.K B' ρ' σ' sd' → Q σ' H') ((if ds.length = n then g ds sd else bad : M SD) m) := w
    split at w2
    · rename_i hl
      exact ⟨a, xs, rfl, SqT.of (s.ex _ _ h2), by rw [h3.length]; exact hl, kk σ sd B ρ m H xs ds Q s rl h3 hl w2⟩
    · exact w2.elim
  | _ => exact w.elim
/-! ### blocks -/
def seqM (f g : SD → M Fl) : SD → M Fl := fun sd => M.bind (f sd) fun fl => match fl with
  | .nx sd1 => g sd1
  | r => M.pure r
theorem sss_nil : SSs X E [] (fun sd => M.pure (.nx sd)) := ⟨_, pss_nil, fun De σ sd B ρ m H s rl w => Wt.ok (E := E) (m := m) w s σ rl⟩
theorem sss_one {st : Stmt} {g : SD → M Fl} (h : SS X E st g) : SSs X E [st] g := by
  obtain ⟨t, p, k⟩ := h
  exact ⟨t, pss_one p, k⟩
theorem sss_cons {st : Stmt} {rest : List Stmt} {f g : SD → M Fl} (h : SS X E st f) (h2 : SSs X E rest g) : SSs X E (st :: rest) (seqM f g) := by
  obtain ⟨t, p, k⟩ := h
  obtain ⟨t2, p2, k2⟩ := h2
  refine ⟨_, pss_cons p p2, fun De σ sd B ρ m H s rl w => k _ σ sd B ρ m H s rl ?_⟩
  refine Wt.bind' (r := f sd m) w fun fl B1 ρ1 m1 H1 t1 s1 w1 => ?_
  cases fl with
  | nx sd1 => exact fun σ1 rl1 => k2 De σ1 sd1 B1 ρ1 m1 H1 s1 rl1 w1
  | rt d => exact Wt.ok (E := E) (m := m1) w1 s1
  | bk sd1 => exact Wt.ok (E := E) (m := m1) w1 s1
  | ct sd1 => exact Wt.ok (E := E) (m := m1) w1 s1
theorem ss_pass : SS X E (.Pass pos) (fun sd => M.pure (.nx sd)) := ⟨_, ps_pass, fun De σ sd B ρ m H s rl w => Wt.ok (E := E) (m := m) w s σ rl⟩
theorem ss_break : SS X E (.Break pos) (fun sd => M.pure (.bk sd)) := ⟨_, ps_break, fun De σ sd B ρ m H s rl w => Wt.ok (E := E) (m := m) w s σ rl⟩
theorem ss_cont : SS X E (.Continue pos) (fun sd => M.pure (.ct sd)) := ⟨_, ps_continue, fun De σ sd B ρ m H s rl w => Wt.ok (E := E) (m := m) w s σ rl⟩
theorem ss_ret (h : SE X E e fe) : SS X E (.Return (some e) pos) (fun sd => M.bind (fe sd) fun d => M.pure (.rt d)) := by
  obtain ⟨t, p, k⟩ := h
  refine ⟨_, ps_ret p, fun De σ sd B ρ m H s rl w => k σ sd B ρ m H _ s rl ?_⟩
  exact Wt.bind' (r := fe sd m) w fun d B1 ρ1 m1 H1 t1 s1 w1 v r => Wt.ok (E := E) (m := m1) w1 s1 v r
theorem ss_retN : SS X E (.Return none pos) (fun _ => M.pure (.rt .non)) := ⟨_, ps_retN, fun De σ sd B ρ m H s rl w => Wt.ok (E := E) (m := m) w s _ rfl⟩
theorem ss_if {c : Expr} {sa sb : List Stmt} {ga : SD → M Bool} {f g : SD → M Fl} (hc : ST X E c ga) (ha : SSs X E sa f) (hb : SSs X E sb g) : SS X E (.If c sa sb pos) (fun sd => M.bind (ga sd) fun z => if z = true then f sd else g sd) := by
  obtain ⟨tc, pc, kc⟩ := hc
  obtain ⟨t, p, k⟩ := ha
  obtain ⟨t2, p2, k2⟩ := hb
  refine ⟨_, ps_if pc p p2, fun De σ sd B ρ m H s rl w => kc σ sd B ρ m H _ s rl ?_⟩
  refine Wt.bind' (r := ga sd m) w fun d B1 ρ1 m1 H1 t1 s1 w1 => ?_
  cases d with
  | true => exact k De σ sd B1 ρ1 m1 H1 s1 (rl.ste t1) w1
  | false => exact k2 De σ sd B1 ρ1 m1 H1 s1 (rl.ste t1) w1
theorem ss_expr (h : SE X E e fe) (hs : swapsWith e none pos.line X.env = pure false := by rfl) : SS X E (.Expr e pos) (fun sd => M.bind (fe sd) fun _ => M.pure (.nx sd)) := by
  obtain ⟨t, p, k⟩ := h
  refine ⟨_, ps_expr p hs, fun De σ sd B ρ m H s rl w => k σ sd B ρ m H _ s rl ?_⟩
  exact Wt.bind' (r := fe sd m) w fun d B1 ρ1 m1 H1 t1 s1 w1 v r => Wt.ok (E := E) (m := m1) w1 s1 σ (rl.ste t1)
/-- x = e: data -/
theorem ss_set {i : Nat} {x : Str} {pos' : Pos} (hN : X.N.Nodup) (h : SE X E e fe) (hi : X.N[i]? = some x := by rfl) (hx : Loc X.env.scope x := by first | exact Or.inl rfl | exact Or.inr rfl) (hs : swapsWith e (some (.Name x pos')) pos.line X.env = pure false := by rfl)
    (hf : X.fn x = true ∨ X.env.scope.names.lookup x = some .local := by first | exact .inl rfl | exact .inr rfl | assumption) :
    SS X E (.Assign [.Name x pos'] e pos) (fun sd => M.bind (fe sd) fun d => M.pure (.nx (sd.set i (some (.d d))))) := by
  obtain ⟨t, p, k⟩ := h
  refine ⟨_, ps_set hN hi hx p hs hf, fun De σ sd B ρ m H s rl w => k σ sd B ρ m H _ s rl ?_⟩
  exact Wt.bind' (r := fe sd m) w fun d B1 ρ1 m1 H1 t1 s1 w1 v r => Wt.ok (E := E) (m := m1) w1 s1 _ ((rl.ste t1).set i r)
/-- x = e: data, or the very changing object -/
theorem ss_setX {i : Nat} {x : Str} {pos' : Pos} {gx : SD → M S} (hN : X.N.Nodup) (h : SX X E e gx) (hi : X.N[i]? = some x := by rfl) (hx : Loc X.env.scope x := by first | exact Or.inl rfl | exact Or.inr rfl) (hs : swapsWith e (some (.Name x pos')) pos.line X.env = pure false := by rfl)
    (hf : X.fn x = true ∨ X.env.scope.names.lookup x = some .local := by first | exact .inl rfl | exact .inr rfl | assumption) :
    SS X E (.Assign [.Name x pos'] e pos) (fun sd => M.bind (gx sd) fun d => M.pure (.nx (sd.set i (some d)))) := by
  obtain ⟨t, p, k⟩ := h
  refine ⟨_, ps_set hN hi hx p hs hf, fun De σ sd B ρ m H s rl w => k σ sd B ρ m H _ s rl ?_⟩
  exact Wt.bind' (r := gx sd m) w fun d B1 ρ1 m1 H1 t1 s1 w1 v r => Wt.ok (E := E) (m := m1) w1 s1 _ ((rl.ste t1).set i r)
/-- a new changing list -/
def pushL (ds : List D) : M S := fun m => .ok (.h m.length) (m ++ [.lst ds])
/-- x = e: a new list, that may change from now on -/
theorem ss_setL {i : Nat} {x : Str} {pos' : Pos} {gl : SD → M (List D)} (hN : X.N.Nodup) (h : SF X E e gl) (hi : X.N[i]? = some x := by rfl) (hx : Loc X.env.scope x := by first | exact Or.inl rfl | exact Or.inr rfl) (hs : swapsWith e (some (.Name x pos')) pos.line X.env = pure false := by rfl)
    (hf : X.fn x = true ∨ X.env.scope.names.lookup x = some .local := by first | exact .inl rfl | exact .inr rfl | assumption) :
    SS X E (.Assign [.Name x pos'] e pos) (fun sd => M.bind (gl sd) fun ds => M.bind (pushL ds) fun s => M.pure (.nx (sd.set i (some s)))) := by
  obtain ⟨t, p, k⟩ := h
  refine ⟨_, ps_set hN hi hx p hs hf, fun De σ sd B ρ m H s rl w => k σ sd B ρ m H _ s rl ?_⟩
  refine Wt.bindO (r := gl sd m) w fun ds B1 ρ1 m1 H1 t1 s1 w1 p xs h0 hb ho hp r => ?_
  have s2 : Sim X.K B1 (ρ1 ++ [(p, [])]) (m1 ++ [.lst ds]) H1 := s1.push (fun a z => by
    rcases z with z | z
    · rw [z]; exact ho
    · cases z) ⟨hb, rfl, xs, hp, r⟩
  have t2 := t1.moves h0
  refine Wt.ok' w1 t2 s2 _ ((rl.ste t2).set i ⟨(p, []), ?_, rfl⟩)
  rw [← s1.len]
  simp
end
end Mi
set_option maxRecDepth 100000
set_option maxHeartbeats 4000000
/-! The layer Mi. Part 5: loops, comprehensions, changing lists, calls. -/
namespace Mi
open PySem PySem.Spec PyProof.Rows L2
/-- for: the target, the body, turn by turn -/
def forM (gt : D → SD → M SD) (gb : SD → M Fl) : List D → SD → M Fl
  | [], sd => M.pure (.nx sd)
  | d :: ds, sd => M.bind (gt d sd) fun sd1 => M.bind (gb sd1) fun fl => match fl with
    | .nx sd2 => forM gt gb ds sd2
    | .ct sd2 => forM gt gb ds sd2
    | .bk sd2 => M.pure (.nx sd2)
    | .rt v => M.pure (.rt v)
/-- while, n turns at most -/
def whileM (gc : SD → M Bool) (gb : SD → M Fl) : Nat → SD → M Fl
  | 0, _ => bad
  | n + 1, sd => M.bind (gc sd) fun c => if c = true then M.bind (gb sd) fun fl => match fl with
      | .nx sd2 => whileM gc gb n sd2
      | .ct sd2 => whileM gc gb n sd2
      | .bk sd2 => M.pure (.nx sd2)
      | .rt v => M.pure (.rt v)
    else M.pure (.nx sd)
def wipeD (sd : SD) : List Nat → SD
  | [] => sd
  | v :: vs => (wipeD sd vs).set v none
/-- a comprehension, acc: what is made so far -/
def compM (vs : List Nat) (gt : D → SD → M SD) (gc : SD → M Bool) (ge : SD → M D) (sd : SD) : List D → List D → M (List D)
  | acc, [] => M.pure acc
  | acc, d :: ds => M.bind (gt d (wipeD sd vs)) fun sd2 => M.bind (gc sd2) fun b => if b = true then M.bind (ge sd2) fun y => if acc.length < 16777216 then compM vs gt gc ge sd (acc ++ [y]) ds else bad
    else compM vs gt gc ge sd acc ds
section
variable {X : Cx} {E : XK} {K : PySem.W.Frag} {B : Hp} {ρ : Rho} {m : Mem} {H : Hp} {a b c e tg iter elt : Expr} {pos : Pos} {fa fb fc fe : SD → M D}
theorem drop_get {α : Type} {l : List α} {i : Nat} {x : α} {r : List α} (h : l.drop i = x :: r) : l[i]? = some x ∧ l.drop (i + 1) = r := by
  have h1 : (l.drop i)[0]? = some x := by rw [h]; rfl
  rw [List.getElem?_drop] at h1
  refine ⟨by simpa using h1, ?_⟩
  have h2 : (l.drop i).drop 1 = r := by rw [h]; rfl
  rw [List.drop_drop] at h2
  exact h2
theorem ss_for {js : List Nat} {body : List Stmt} {fi : SD → M (List D)} {gt : D → SD → M SD} {gb : SD → M Fl} (hp : PassesOwn (model X.prog X.w) X.A X.env X.xe) (hc : X.calm = true) (hi : SI X E tg iter fi) (hg : SG X E js tg gt) (hb : SSs X E body gb)
    (hs : ∀ x, foldedSetIterable iter X.env x = pure x := by intro _; rfl) : SS X E (.For tg iter body [] pos) (fun sd => M.bind (fi sd) fun ds => forM gt gb ds sd) := by
  obtain ⟨wi, pi, ki⟩ := hi
  obtain ⟨tgt, pg, kg⟩ := hg
  obtain ⟨tb, pb, kb⟩ := hb
  refine ⟨_, ps_for hp hc pi pg pb hs, fun De σ sd B ρ m H s rl w => ki σ sd B ρ m H _ s rl ?_⟩
  refine Wt.bind' (r := fi sd m) w fun ds B1 ρ1 m1 H1 t1 s1 w1 J hJ => ?_
  refine ⟨fun i n σ' H' => ∃ sd' B' ρ' m', Ste B1 ρ1 H1 B' ρ' H' ∧ Sim X.K B' ρ' m' H' ∧ RelS X.K B' ρ' σ' sd' ∧ Wt X.K B' ρ' H' E (PFf X.K De) (forM gt gb (ds.drop i) sd' m') ∧ n = ds.length - i, ⟨ds.length, sd, B1, ρ1, m1, Ste.refl _ _ _, s1, rl.ste t1, w1, rfl⟩, ?_⟩
  rintro i n σ' H' ⟨sd', B', ρ', m', t', s', rl', w', rfl⟩
  obtain ⟨go, stop⟩ := hJ B' ρ' m' H' t'.bb s'
  cases hd : ds.drop i with
  | nil =>
    have hl : ds.length ≤ i := by
      have := congrArg List.length hd
      rw [List.length_drop] at this
      simp at this
      omega
    refine .inl ⟨stop i hl, ?_⟩
    rw [hd] at w'
    exact Wt.ok (E := E) (m := m') w' s' σ' rl'
  | cons d r =>
    obtain ⟨e1, e2⟩ := drop_get hd
    have hlt : i < ds.length := (List.getElem?_eq_some_iff.mp e1).1
    obtain ⟨g1, g2⟩ := go i d e1
    rw [hd] at w'
    refine .inr ⟨g1, fun σ2 H2 => ∃ sd2 B2 ρ2 m2, Ste B1 ρ1 H1 B2 ρ2 H2 ∧ Sim X.K B2 ρ2 m2 H2 ∧ RelS X.K B2 ρ2 σ2 sd2 ∧ Wt X.K B2 ρ2 H2 E (PFf X.K De) (forM gt gb (ds.drop (i + 1)) sd2 m2), ?_, ?_⟩
    · rintro σ2 H2 ⟨sd2, B2, ρ2, m2, q1, q2, q3, q4⟩
      exact ⟨ds.length - (i + 1), by omega, sd2, B2, ρ2, m2, q1, q2, q3, q4, rfl⟩
    · intro x H2 hy
      obtain ⟨B2, u1, u2, u3⟩ := g2 x H2 hy
      refine kg σ' sd' B2 ρ' m' H2 x d _ u2 (rl'.ste u1) u3 ?_
      have w2 : Wt X.K B2 ρ' H2 E (PFf X.K De) ((gt d sd' m').bind fun sd1 => M.bind (gb sd1) fun fl => match fl with
        | .nx sd2 => forM gt gb r sd2
        | .ct sd2 => forM gt gb r sd2
        | .bk sd2 => M.pure (.nx sd2)
        | .rt v => M.pure (.rt v)) := Wt.trans (r := forM gt gb (d :: r) sd' m') w' u1
      refine Wt.bind' (r := gt d sd' m') w2 fun sd3 B3 ρ3 m3 H3 t3 s3 w3 σ3 l3 c3 rl3 => ?_
      refine kb _ σ3 sd3 B3 ρ3 m3 H3 s3 rl3 ?_
      refine Wt.bind' (r := gb sd3 m3) w3 fun fl B4 ρ4 m4 H4 t4 s4 w4 => ?_
      have tt : Ste B1 ρ1 H1 B4 ρ4 H4 := ((t'.trans u1).trans t3).trans t4
      cases fl with
      | nx sd4 => exact fun σ4 rl4 => ⟨sd4, B4, ρ4, m4, tt, s4, rl4, by rw [e2]; exact w4⟩
      | ct sd4 => exact fun σ4 rl4 => ⟨sd4, B4, ρ4, m4, tt, s4, rl4, by rw [e2]; exact w4⟩
      | bk sd4 => exact fun σ4 rl4 => Wt.ok (E := E) (m := m4) w4 s4 σ4 rl4
      | rt v => exact Wt.ok (E := E) (m := m4) w4 s4
theorem ss_while {n : Nat} {body : List Stmt} {gc : SD → M Bool} {gb : SD → M Fl} (hp : PassesOwn (model X.prog X.w) X.A X.env X.xe) (hc : ST X E c gc) (hb : SSs X E body gb) : SS X E (.While c body [] pos) (whileM gc gb n) := by
  obtain ⟨tc, pc, kc⟩ := hc
  obtain ⟨tb, pb, kb⟩ := hb
  refine ⟨_, ps_while hp pc pb, fun De σ sd B ρ m H s rl w => ?_⟩
  refine ⟨fun k σ' H' => ∃ sd' B' ρ' m', Sim X.K B' ρ' m' H' ∧ RelS X.K B' ρ' σ' sd' ∧ Wt X.K B' ρ' H' E (PFf X.K De) (whileM gc gb k sd' m'), ⟨n, sd, B, ρ, m, s, rl, w⟩, ?_⟩
  rintro k σ' H' ⟨sd', B', ρ', m', s', rl', w'⟩
  cases k with
  | zero => exact w'.elim
  | succ k =>
    refine kc σ' sd' B' ρ' m' H' _ s' rl' ?_
    refine Wt.bind' (r := gc sd' m') w' fun z B1 ρ1 m1 H1 t1 s1 w1 => ?_
    cases z with
    | false => exact Wt.ok (E := E) (m := m1) w1 s1 σ' (rl'.ste t1)
    | true =>
      refine ⟨fun σ2 H2 => ∃ sd2 B2 ρ2 m2, Sim X.K B2 ρ2 m2 H2 ∧ RelS X.K B2 ρ2 σ2 sd2 ∧ Wt X.K B2 ρ2 H2 E (PFf X.K De) (whileM gc gb k sd2 m2), ?_, ?_⟩
      · rintro σ2 H2 ⟨sd2, B2, ρ2, m2, q1, q2, q3⟩
        exact ⟨k, Nat.lt_succ_self k, sd2, B2, ρ2, m2, q1, q2, q3⟩
      · refine kb _ σ' sd' B1 ρ1 m1 H1 s1 (rl'.ste t1) ?_
        refine Wt.bind' (r := gb sd' m1) w1 fun fl B4 ρ4 m4 H4 t4 s4 w4 => ?_
        cases fl with
        | nx sd4 => exact fun σ4 rl4 => ⟨sd4, B4, ρ4, m4, s4, rl4, w4⟩
        | ct sd4 => exact fun σ4 rl4 => ⟨sd4, B4, ρ4, m4, s4, rl4, w4⟩
        | bk sd4 => exact fun σ4 rl4 => Wt.ok (E := E) (m := m4) w4 s4 σ4 rl4
        | rt v => exact Wt.ok (E := E) (m := m4) w4 s4
/-! ### comprehensions -/
theorem wipeD_length (sd : SD) : ∀ vs : List Nat, (wipeD sd vs).length = sd.length
  | [] => rfl
  | v :: vs => by
    unfold wipeD
    rw [List.length_set, wipeD_length sd vs]
theorem RelS.unset {σ : L2.St} {sd : SD} (h : RelS K B ρ σ sd) (i : Nat) : RelS K B ρ (σ.set i none) (sd.set i none) := by
  refine ⟨by rw [List.length_set, List.length_set, h.1], fun j s e => ?_⟩
  by_cases ej : j = i
  · subst ej
    by_cases hj : j < sd.length
    · rw [List.getElem?_set_self hj] at e
      cases e
    · rw [List.getElem?_eq_none_iff.mpr (by rw [List.length_set]; omega)] at e
      cases e
  · rw [List.getElem?_set_ne (Ne.symm ej)] at e ⊢
    exact h.2 j s e
theorem RelS.wipe {σ : L2.St} {sd : SD} (h : RelS K B ρ σ sd) : ∀ vs : List Nat, RelS K B ρ (L2.wipe σ vs) (wipeD sd vs)
  | [] => h
  | v :: vs => (RelS.wipe h vs).unset v
theorem wipe_get {σ : L2.St} {i : Nat} : ∀ {vs : List Nat}, i ∉ vs → (L2.wipe σ vs)[i]? = σ[i]?
  | [], _ => rfl
  | v :: vs, h => by
    unfold L2.wipe
    rw [List.getElem?_set_ne (fun z => h (by simp [z])), wipe_get fun z => h (List.mem_cons_of_mem _ z)]
theorem wipe_none {σ : L2.St} {i : Nat} : ∀ {vs : List Nat}, i ∈ vs → i < σ.length → (L2.wipe σ vs)[i]? = some none
  | [], h, _ => by cases h
  | v :: vs, h, hl => by
    unfold L2.wipe
    by_cases e : v = i
    · rw [e, List.getElem?_set_self (by rw [L2.wipe_length]; exact hl)]
    · rw [List.getElem?_set_ne e]
      rcases List.mem_cons.mp h with z | z
      · exact absurd z.symm e
      · exact wipe_none z hl
theorem wipe_same {σ τ : L2.St} {vs : List Nat} (hl : τ.length = σ.length) (h : ∀ i, i ∉ vs → τ[i]? = σ[i]?) : L2.wipe τ vs = L2.wipe σ vs := by
  apply List.ext_getElem?
  intro i
  by_cases hi : i ∈ vs
  · by_cases hb : i < σ.length
    · rw [wipe_none hi hb, wipe_none hi (by rw [hl]; exact hb)]
    · rw [List.getElem?_eq_none_iff.mpr (by rw [L2.wipe_length, hl]; omega), List.getElem?_eq_none_iff.mpr (by rw [L2.wipe_length]; omega)]
  · rw [wipe_get hi, wipe_get hi, h i hi]
theorem wipe_wipe {σ : L2.St} {vs : List Nat} : L2.wipe (L2.wipe σ vs) vs = L2.wipe σ vs := wipe_same (L2.wipe_length σ vs) fun i hi => wipe_get hi
/-- a part of a comprehension's block, whatever the block's entry -/
def InB (X : Cx) (scope : Scope) (P : Cx → Prop) : Prop := ∀ (s : Shared) (H : Hp) (C : Addr) (cl : List (Str × Addr)) (fp : List Addr), P (X.blk s H scope (compEnvC scope cl C X.env) fp)
def STs (X : Cx) (E : XK) (ifs : List Expr) (f : SD → M Bool) : Prop := ∃ t, PTs X ifs t ∧ ∀ σ sd B ρ m H Q, Sim X.K B ρ m H → RelS X.K B ρ σ sd → Wt X.K B ρ H E (PBl Q) (f sd m) → t σ H Q
theorem sts_nil : STs X E [] (fun _ => M.pure true) := ⟨_, pts_nil, fun σ sd B ρ m H Q s rl w => Wt.ok (E := E) (m := m) w s⟩
theorem sts_one {f : SD → M Bool} (h : ST X E c f) : STs X E [c] f := by
  obtain ⟨t, p, k⟩ := h
  exact ⟨t, pts_one p, k⟩
def semTs (X : Cx) (ifs : List Expr) : TT := fun σ H Q => ∀ pins s, Inv X pins σ H s → wpAny (model X.prog X.w) X.A (forIn ifs true fun c r => if r = true then do let ok ← isTrue c X.env (eval c X.env); pure (ForInStep.yield ok) else pure (ForInStep.yield r)) (TP X pins σ Q) X.xe s
/-- the new list D of a comprehension, under steps of the parts -/
theorem comp_turn {Dl : Addr} {B' : Hp} {ρ' : Rho} {H' : Hp} {o : HO} (t : Ste B ρ H B' ρ' H') (hB : B Dl = none) (hn : ¬ own ρ Dl) (hD : H Dl = some o) : B' Dl = none ∧ ¬ own ρ' Dl ∧ H' Dl = some o := by
  refine ⟨?_, ?_, t.kp Dl o hD hn⟩
  · cases q : B' Dl with
    | none => rfl
    | some u =>
      rcases t.bn Dl (by rw [q]; simp) with z | z | z
      · exact absurd hB z
      · exact absurd z hn
      · rw [hD] at z; cases z
  · intro z
    rcases t.nw Dl z with z | z
    · exact hn z
    · rw [hD] at z; cases z
theorem Ste.ch {B' : Hp} {ρ' : Rho} {H' : Hp} {Dl : Addr} {o : HO} (t : Ste B ρ H B' ρ' H') (h : H Dl = none) : Ste B ρ H B' ρ' (upd H' Dl o) :=
  ⟨t.bb, t.rr, fun a u e n => by rw [upd_ne (ne_of_none e h)]; exact t.kp a u e n, t.nw, t.bn⟩
abbrev snds (o : List (Str × Nat)) : List Nat := o.map (·.2)
/-- no exception: it would be bad -/
def noxO {α : Type} : Out α → Out α
  | .ok a m => .ok a m
  | _ => .bad
def nox {α : Type} (x : M α) : M α := fun m => noxO (x m)
theorem Wt.noxT {α β : Type} {P : β → Hp → Rho → Mem → Hp → Prop} {P' : α → Hp → Rho → Mem → Hp → Prop} {r : Out α} {f : α → M β} {E' : XK} {Bc : Hp} {ρc : Rho} {Hc : Hp} (h : Wt K B ρ H E P (noxO (r.bind f))) 
    (k : ∀ a B' ρ' m' H', Ste Bc ρc Hc B' ρ' H' → Sim K B' ρ' m' H' → Wt K B ρ H E P (noxO (f a m')) → P' a B' ρ' m' H') : Wt K Bc ρc Hc E' P' r := by
  cases r with
  | ok a m' => exact fun B2 ρ2 H2 s2 z => k _ _ _ _ _ s2 z h
  | exc c fs m' => exact h.elim
  | bad => exact h.elim
abbrev gB (X : Cx) (scope : Scope) (tg : Expr) : TG := fun v σ H Q => ∀ s0 H0 C cl fp, semG (X.blk s0 H0 scope (compEnvC scope cl C X.env) fp) tg v σ H Q
abbrev tB' (X : Cx) (scope : Scope) (ifs : List Expr) : TT := fun σ H Q => ∀ s0 H0 C cl fp, semTs (X.blk s0 H0 scope (compEnvC scope cl C X.env) fp) ifs σ H Q
abbrev eB (X : Cx) (scope : Scope) (elt : Expr) : TE := fun σ H Q => ∀ s0 H0 C cl fp, semE (X.blk s0 H0 scope (compEnvC scope cl C X.env) fp) elt σ H Q
theorem gB_ok {scope : Scope} : ∀ (s : Shared) (H : Hp) (C : Addr) (cl : List (Str × Addr)) (fp : List Addr), PG (X.blk s H scope (compEnvC scope cl C X.env) fp) tg (gB X scope tg) := fun s0 H0 C cl fp => ⟨fun pins s σ H v u Q I r h => h s0 H0 C cl fp pins s u I r⟩
theorem tB_ok {scope : Scope} {ifs : List Expr} : ∀ (s : Shared) (H : Hp) (C : Addr) (cl : List (Str × Addr)) (fp : List Addr), PTs (X.blk s H scope (compEnvC scope cl C X.env) fp) ifs (tB' X scope ifs) := fun s0 H0 C cl fp => ⟨fun pins s σ H Q I h => h s0 H0 C cl fp pins s I⟩
theorem eB_ok {scope : Scope} : ∀ (s : Shared) (H : Hp) (C : Addr) (cl : List (Str × Addr)) (fp : List Addr), PE (X.blk s H scope (compEnvC scope cl C X.env) fp) elt (eB X scope elt) := fun s0 H0 C cl fp => ⟨fun pins s σ H Q I h => h s0 H0 C cl fp pins s I⟩
theorem lc_read {js : List Nat} {ifs : List Expr} {scope : Scope} {own' : List (Str × Nat)} {wi : TI} {fi : SD → M (List D)} {gt : D → SD → M SD} {gc : SD → M Bool} {ge : SD → M D}
    (ki : ∀ σ sd B ρ m H R, Sim X.K B ρ m H → RelS X.K B ρ σ sd → Wt X.K B ρ H E (fun ds B1 ρ1 _ H1 => ∀ J, Yields X.K B1 ρ1 H1 ds J → R J H1) (fi sd m) → wi σ H R) (hj : ∀ j ∈ js, j ∈ snds own')
    (hg : InB X scope fun Y => SG Y E0 js tg gt) (ht : InB X scope fun Y => STs Y E0 ifs gc) (he : InB X scope fun Y => SE Y E0 elt ge) :
    ∀ σ sd B ρ m H Q, Sim X.K B ρ m H → RelS X.K B ρ σ sd → Wt X.K B ρ H E (PFl X.K H Q) (M.bind (fi sd) (fun ds => nox (compM (snds own') gt gc ge sd [] ds)) m) → tLc wi (gB X scope tg) (tB' X scope ifs) (eB X scope elt) (snds own') σ H Q := by
  intro σ sd B ρ m H Q s rl w
  refine ki σ sd B ρ m H _ s rl ?_
  refine Wt.bindO (r := fi sd m) w fun ds B1 ρ1 m1 H1 t1 s1 w1 J hJ Dl hD => ?_
  have hD0 : H Dl = none := t1.fresh s1 hD
  refine ⟨fun i n H' => ∃ acc xs B' ρ' m', Ste B1 ρ1 H1 B' ρ' H' ∧ Sim X.K B' ρ' m' H' ∧ B' Dl = none ∧ ¬ own ρ' Dl ∧ H' Dl = some (.lst xs) ∧ RepL X.K B' acc xs ∧
    Wt X.K B ρ H E (PFl X.K H Q) (noxO (compM (snds own') gt gc ge sd acc (ds.drop i) m')) ∧ n = ds.length - i, ⟨ds.length, [], [], B1, ρ1, m1, Ste.newH hD, s1.newH hD, s1.bnone hD, s1.nown hD, upd_same, rfl, w1, rfl⟩, ?_⟩
  rintro i n H' ⟨acc, xs, B', ρ', m', t', s', b1, b2, b3, r', w', rfl⟩
  obtain ⟨go, stop⟩ := hJ B' ρ' m' H' t'.bb s'
  cases hd : ds.drop i with
  | nil =>
    have hl : ds.length ≤ i := by
      have := congrArg List.length hd
      rw [List.length_drop] at this
      simp at this
      omega
    refine .inl ⟨stop i hl, ?_⟩
    rw [hd] at w'
    exact Wt.ok' (E := E) (m := m') w' (t1.trans t') s' Dl xs hD0 b1 b2 b3 r'
  | cons d r =>
    obtain ⟨e1, e2⟩ := drop_get hd
    have hlt : i < ds.length := (List.getElem?_eq_some_iff.mp e1).1
    obtain ⟨g1, g2⟩ := go i d e1
    rw [hd] at w'
    refine .inr ⟨g1, fun H2 => ∃ acc xs B' ρ' m', Ste B1 ρ1 H1 B' ρ' H2 ∧ Sim X.K B' ρ' m' H2 ∧ B' Dl = none ∧ ¬ own ρ' Dl ∧ H2 Dl = some (.lst xs) ∧ RepL X.K B' acc xs ∧
      Wt X.K B ρ H E (PFl X.K H Q) (noxO (compM (snds own') gt gc ge sd acc (ds.drop (i + 1)) m')), ?_, ?_⟩
    · rintro H2 ⟨acc, xs, B2, ρ2, m2, q1, q2, q3, q4, q5, q6, q7⟩
      exact ⟨ds.length - (i + 1), by omega, acc, xs, B2, ρ2, m2, q1, q2, q3, q4, q5, q6, q7, rfl⟩
    · intro x H2 hy
      obtain ⟨B2, u1, u2, u3⟩ := g2 x H2 hy
      obtain ⟨b1, b2, b3⟩ := comp_turn u1 b1 b2 b3
      have rlc : RelS X.K B2 ρ' (L2.wipe σ (snds own')) (wipeD sd (snds own')) := RelS.wipe (((rl.ste t1).ste t').ste u1) _
      intro s0 H0 C cl fp
      obtain ⟨tgt, pg, kg⟩ := hg s0 H0 C cl fp
      intro pins ss u I rv
      refine pg.run pins ss _ H2 x u _ I rv ?_
      refine kg _ _ B2 ρ' m' H2 x d _ u2 rlc u3 ?_
      refine Wt.noxT (r := gt d (wipeD sd (snds own')) m') w' fun sd3 B3 ρ3 m3 H3 t3 s3 w3 σ3 l3 c3 rl3 => ⟨?_, ?_⟩
      · have e3 : L2.wipe σ3 (snds own') = L2.wipe (L2.wipe σ (snds own')) (snds own') := wipe_same l3 fun i hi => c3 i fun z => hi (hj i z)
        rw [e3, wipe_wipe]
      · obtain ⟨b1, b2, b3⟩ := comp_turn t3 b1 b2 b3
        have r3 := (r'.mono u1.bb).mono t3.bb
        intro s0 H0 C cl fp
        obtain ⟨tt, pt, kt⟩ := ht s0 H0 C cl fp
        intro pins ss I
        refine pt.run pins ss σ3 H3 _ I ?_
        refine kt σ3 sd3 B3 ρ3 m3 H3 _ s3 rl3 ?_
        refine Wt.noxT (r := gc sd3 m3) w3 fun z B4 ρ4 m4 H4 t4 s4 w4 => ?_
        obtain ⟨b1, b2, b3⟩ := comp_turn t4 b1 b2 b3
        have r4 := r3.mono t4.bb
        have tt4 : Ste B1 ρ1 H1 B4 ρ4 H4 := ((t'.trans u1).trans t3).trans t4
        cases z with
        | false =>
          refine ⟨acc, xs, B4, ρ4, m4, tt4, s4, b1, b2, b3, r4, ?_⟩
          rw [e2]
          exact w4
        | true =>
          intro s0 H0 C cl fp
          obtain ⟨te, pe, ke⟩ := he s0 H0 C cl fp
          intro pins ss I
          refine pe.run pins ss σ3 H4 _ I ?_
          refine ke σ3 sd3 B4 ρ4 m4 H4 _ s4 (rl3.ste t4) ?_
          refine Wt.noxT (r := ge sd3 m4) w4 fun y B5 ρ5 m5 H5 t5 s5 w5 v rv => ?_
          obtain ⟨b1, b2, b3⟩ := comp_turn t5 b1 b2 b3
          have r5 := r4.mono t5.bb
          have w6 : Wt X.K B ρ H E (PFl X.K H Q) (noxO ((if acc.length < 16777216 then compM (snds own') gt gc ge sd (acc ++ [y]) r else bad : M (List D)) m5)) := w5
          split at w6
          · rename_i hl
            refine ⟨xs, b3, by rw [r5.length, sl16]; exact hl, acc ++ [y], xs ++ [v], B5, ρ5, m5, (tt4.trans t5).ch hD, s5.chH b1 b2, b1, b2, upd_same, r5.append (RepL.one rv), ?_⟩
            rw [e2]
            exact w6
          · exact w6.elim
theorem sf_lc {js : List Nat} {ifs : List Expr} {scope : Scope} {own' : List (Str × Nat)} {fi : SD → M (List D)} {gt : D → SD → M SD} {gc : SD → M Bool} {ge : SD → M D} (hc : X.calm = true) (hN : X.N.Nodup) (hi : SI X E tg iter fi)
    (ok : blkC X.N X.env.scope scope own' = true) (hj : ∀ j ∈ js, j ∈ snds own')
    (hg : InB X scope fun Y => SG Y E0 js tg gt) (ht : InB X scope fun Y => STs Y E0 ifs gc) (he : InB X scope fun Y => SE Y E0 elt ge) (hs : ∀ x, foldedSetIterable iter X.env x = pure x := by intro _; rfl) :
    SF X E (.ListComp elt [⟨tg, iter, ifs, 0⟩] scope pos) (fun sd => M.bind (fi sd) fun ds => nox (compM (snds own') gt gc ge sd [] ds)) := by
  obtain ⟨wi, pi, ki⟩ := hi
  exact ⟨_, pe_lc hc hN pi (blkOk_by ok) gB_ok tB_ok eB_ok hs, lc_read ki hj hg ht he⟩
/-- x = [..] on one line, x a plain local: data -/
theorem ss_setLc {js : List Nat} {ifs : List Expr} {scope : Scope} {own' : List (Str × Nat)} {fi : SD → M (List D)} {gt : D → SD → M SD} {gc : SD → M Bool} {ge : SD → M D} {i : Nat} {x : Str} {px sp : Pos} (hc : X.calm = true) (hN : X.N.Nodup) (hi : SI X E tg iter fi)
    (ok : blkC X.N X.env.scope scope own' = true) (hj : ∀ j ∈ js, j ∈ snds own')
    (hg : InB X scope fun Y => SG Y E0 js tg gt) (ht : InB X scope fun Y => STs Y E0 ifs gc) (he : InB X scope fun Y => SE Y E0 elt ge)
    (hsw : swapsWith (.ListComp elt [⟨tg, iter, ifs, 0⟩] scope pos) (some (.Name x px)) sp.line X.env = pure true) (hx : X.N[i]? = some x := by rfl) (hxl : X.env.scope.names.lookup x = some .local := by rfl) (hs : ∀ x, foldedSetIterable iter X.env x = pure x := by intro _; rfl) :
    SS X E (.Assign [.Name x px] (.ListComp elt [⟨tg, iter, ifs, 0⟩] scope pos) sp) (fun sd => M.bind (M.bind (fi sd) fun ds => nox (compM (snds own') gt gc ge sd [] ds)) fun ds => M.pure (.nx (sd.set i (some (.d (.lst ds)))))) := by
  obtain ⟨wi, pi, ki⟩ := hi
  refine ⟨_, ps_setLc hc hN hx hxl hsw pi (blkOk_by ok) gB_ok tB_ok eB_ok hs, fun De σ sd B ρ m H s rl w => lc_read (E := E) ki hj hg ht he σ sd B ρ m H _ s rl ?_⟩
  refine Wt.bindO (r := (M.bind (fi sd) fun ds => nox (compM (snds own') gt gc ge sd [] ds)) m) w fun ds B1 ρ1 m1 H1 t1 s1 w1 p xs h0 hb ho hp r => ?_
  exact Wt.ok' w1 (t1.still h0 hb) (s1.still hb hp ho) _ ((rl.ste (t1.still h0 hb)).set i ⟨p, xs, rfl, upd_same, r.mono (Sub.upd hb)⟩)
/-- .. a list that may change from now on -/
theorem ss_setLcX {js : List Nat} {ifs : List Expr} {scope : Scope} {own' : List (Str × Nat)} {fi : SD → M (List D)} {gt : D → SD → M SD} {gc : SD → M Bool} {ge : SD → M D} {i : Nat} {x : Str} {px sp : Pos} (hc : X.calm = true) (hN : X.N.Nodup) (hi : SI X E tg iter fi)
    (ok : blkC X.N X.env.scope scope own' = true) (hj : ∀ j ∈ js, j ∈ snds own')
    (hg : InB X scope fun Y => SG Y E0 js tg gt) (ht : InB X scope fun Y => STs Y E0 ifs gc) (he : InB X scope fun Y => SE Y E0 elt ge)
    (hsw : swapsWith (.ListComp elt [⟨tg, iter, ifs, 0⟩] scope pos) (some (.Name x px)) sp.line X.env = pure true) (hx : X.N[i]? = some x := by rfl) (hxl : X.env.scope.names.lookup x = some .local := by rfl) (hs : ∀ x, foldedSetIterable iter X.env x = pure x := by intro _; rfl) :
    SS X E (.Assign [.Name x px] (.ListComp elt [⟨tg, iter, ifs, 0⟩] scope pos) sp) (fun sd => M.bind (M.bind (fi sd) fun ds => nox (compM (snds own') gt gc ge sd [] ds)) fun ds => M.bind (pushL ds) fun s => M.pure (.nx (sd.set i (some s)))) := by
  obtain ⟨wi, pi, ki⟩ := hi
  refine ⟨_, ps_setLc hc hN hx hxl hsw pi (blkOk_by ok) gB_ok tB_ok eB_ok hs, fun De σ sd B ρ m H s rl w => lc_read (E := E) ki hj hg ht he σ sd B ρ m H _ s rl ?_⟩
  refine Wt.bindO (r := (M.bind (fi sd) fun ds => nox (compM (snds own') gt gc ge sd [] ds)) m) w fun ds B1 ρ1 m1 H1 t1 s1 w1 p xs h0 hb ho hp r => ?_
  have s2 : Sim X.K B1 (ρ1 ++ [(p, [])]) (m1 ++ [.lst ds]) H1 := s1.push (fun a z => by
    rcases z with z | z
    · rw [z]; exact ho
    · cases z) ⟨hb, rfl, xs, hp, r⟩
  have t2 := t1.moves h0
  refine Wt.ok' w1 t2 s2 _ ((rl.ste t2).set i ⟨(p, []), ?_, rfl⟩)
  rw [← s1.len]
  simp
end
end Mi
set_option maxRecDepth 100000
set_option maxHeartbeats 4000000
/-! The layer Mi. Part 6: built-ins, subscripts, slices, changing lists. -/
namespace Mi
open PySem PySem.Spec PyProof.Rows L2
/-- what a call of values does: one argument, two -/
def C1 (X : Cx) (E : XK) (r : List V → Hp → VK → Prop) (f : S → M D) : Prop := ∀ s v B ρ m H Q, Sim X.K B ρ m H → RepS X.K B ρ s v → Wt X.K B ρ H E (PD X.K Q) (f s m) → r [v] H Q
def C1F (X : Cx) (E : XK) (r : List V → Hp → VK → Prop) (f : S → M (List D)) : Prop := ∀ s v B ρ m H Q, Sim X.K B ρ m H → RepS X.K B ρ s v → Wt X.K B ρ H E (PFl X.K H Q) (f s m) → r [v] H Q
def C2 (X : Cx) (E : XK) (r : List V → Hp → VK → Prop) (f : S → S → M D) : Prop := ∀ s1 s2 v1 v2 B ρ m H Q, Sim X.K B ρ m H → RepS X.K B ρ s1 v1 → RepS X.K B ρ s2 v2 → Wt X.K B ρ H E (PD X.K Q) (f s1 s2 m) → r [v1, v2] H Q
section
variable {X : Cx} {E : XK} {K : PySem.W.Frag} {B : Hp} {ρ : Rho} {m : Mem} {H : Hp} {a b c e : Expr} {pos p : Pos} {x : Str} {id : String} {r : List V → Hp → VK → Prop} {ga gb : SD → M S} {fa fb : SD → M D}
theorem se_b1 {f : S → M D} (hc : CallR X (.builtin id) r) (hd : C1 X E r f) (hm : X.mg x = none) (ha : SX X E e ga) (hv : bootBuiltins x = some (.builtin id) := by decide +kernel) (hg : Gl X x := by rfl) (hn : x ≠ "__name__" := by decide) (hdb : (x == ("__debug__" : Str)) = false := by decide)
    (he : starEach [e] X.env = (false, eval e X.env) :: starEach [] X.env := by rfl) (hpl : (backTo pos (starEach [] X.env)).any (·.1) = false := by rfl) : SE X E (.Call (.Name x p) [e] [] pos) (fun sd => M.bind (ga sd) f) := by
  obtain ⟨ta, pa, ka⟩ := ha
  refine ⟨_, pe_callB hc hg hm hv (pa_cons pa pa_nil he) hn hdb he hpl, fun σ sd B ρ m H Q s rl w => ka σ sd B ρ m H _ s rl ?_⟩
  exact Wt.bind' (r := ga sd m) w fun d B1 ρ1 m1 H1 t1 s1 w1 v r => hd d v B1 ρ1 m1 H1 Q s1 r w1
theorem se_t1 {f : S → M D} (hc : CallR X (.type id) r) (hd : C1 X E r f) (hm : X.mg x = none) (ha : SX X E e ga) (hv : bootBuiltins x = some (.type id) := by decide +kernel) (hg : Gl X x := by rfl) (hn : x ≠ "__name__" := by decide) (hdb : (x == ("__debug__" : Str)) = false := by decide)
    (he : starEach [e] X.env = (false, eval e X.env) :: starEach [] X.env := by rfl) (hpl : (backTo pos (starEach [] X.env)).any (·.1) = false := by rfl) : SE X E (.Call (.Name x p) [e] [] pos) (fun sd => M.bind (ga sd) f) := by
  obtain ⟨ta, pa, ka⟩ := ha
  refine ⟨_, pe_callTy hc hg hm hv (pa_cons pa pa_nil he) hn hdb he hpl, fun σ sd B ρ m H Q s rl w => ka σ sd B ρ m H _ s rl ?_⟩
  exact Wt.bind' (r := ga sd m) w fun d B1 ρ1 m1 H1 t1 s1 w1 v r => hd d v B1 ρ1 m1 H1 Q s1 r w1
theorem Wt.freshP {Q : VK} {B1 : Hp} {ρ1 : Rho} {H1 : Hp} {m1 : Mem} {r : Out (List D)} (t : Ste B ρ H B1 ρ1 H1) (s : Sim K B1 ρ1 m1 H1) (w : Wt K B ρ H E (PFl K H Q) r) : Wt K B1 ρ1 H1 E (PFl K H1 Q) r := by
  cases r with
  | ok ds m' => exact fun B2 ρ2 H2 t2 s2 p xs h0 hb ho hp rr => w B2 ρ2 H2 (t.trans t2) s2 p xs (t.fresh s h0) hb ho hp rr
  | exc c fs m' => exact fun B2 ρ2 H2 dx t2 => w B2 ρ2 H2 dx (t.trans t2)
  | bad => exact w
theorem sf_b1 {f : S → M (List D)} (hc : CallR X (.builtin id) r) (hd : C1F X E r f) (hm : X.mg x = none) (ha : SX X E e ga) (hv : bootBuiltins x = some (.builtin id) := by decide +kernel) (hg : Gl X x := by rfl) (hn : x ≠ "__name__" := by decide) (hdb : (x == ("__debug__" : Str)) = false := by decide)
    (he : starEach [e] X.env = (false, eval e X.env) :: starEach [] X.env := by rfl) (hpl : (backTo pos (starEach [] X.env)).any (·.1) = false := by rfl) : SF X E (.Call (.Name x p) [e] [] pos) (fun sd => M.bind (ga sd) f) := by
  obtain ⟨ta, pa, ka⟩ := ha
  refine ⟨_, pe_callB hc hg hm hv (pa_cons pa pa_nil he) hn hdb he hpl, fun σ sd B ρ m H Q s rl w => ka σ sd B ρ m H _ s rl ?_⟩
  exact Wt.bindO (r := ga sd m) w fun d B1 ρ1 m1 H1 t1 s1 w1 v r => hd d v B1 ρ1 m1 H1 Q s1 r (Wt.freshP t1 s1 w1)
theorem sf_t1 {f : S → M (List D)} (hc : CallR X (.type id) r) (hd : C1F X E r f) (hm : X.mg x = none) (ha : SX X E e ga) (hv : bootBuiltins x = some (.type id) := by decide +kernel) (hg : Gl X x := by rfl) (hn : x ≠ "__name__" := by decide) (hdb : (x == ("__debug__" : Str)) = false := by decide)
    (he : starEach [e] X.env = (false, eval e X.env) :: starEach [] X.env := by rfl) (hpl : (backTo pos (starEach [] X.env)).any (·.1) = false := by rfl) : SF X E (.Call (.Name x p) [e] [] pos) (fun sd => M.bind (ga sd) f) := by
  obtain ⟨ta, pa, ka⟩ := ha
  refine ⟨_, pe_callTy hc hg hm hv (pa_cons pa pa_nil he) hn hdb he hpl, fun σ sd B ρ m H Q s rl w => ka σ sd B ρ m H _ s rl ?_⟩
  exact Wt.bindO (r := ga sd m) w fun d B1 ρ1 m1 H1 t1 s1 w1 v r => hd d v B1 ρ1 m1 H1 Q s1 r (Wt.freshP t1 s1 w1)
theorem se_b2 {f : S → S → M D} (hc : CallR X (.builtin id) r) (hd : C2 X E r f) (hm : X.mg x = none) (ha : SX X E a ga) (hb : SX X E b gb) (hv : bootBuiltins x = some (.builtin id) := by decide +kernel) (hg : Gl X x := by rfl) (hn : x ≠ "__name__" := by decide) (hdb : (x == ("__debug__" : Str)) = false := by decide)
    (he : starEach [a, b] X.env = (false, eval a X.env) :: starEach [b] X.env := by rfl) (he2 : starEach [b] X.env = (false, eval b X.env) :: starEach [] X.env := by rfl) (hpl : (backTo pos (starEach [b] X.env)).any (·.1) = false := by rfl) :
    SE X E (.Call (.Name x p) [a, b] [] pos) (fun sd => M.bind (ga sd) fun s1 => M.bind (gb sd) fun s2 => f s1 s2) := by
  obtain ⟨ta, pa, ka⟩ := ha
  obtain ⟨tb, pb, kb⟩ := hb
  refine ⟨_, pe_callB hc hg hm hv (pa_cons pa (pa_cons pb pa_nil he2) he) hn hdb he hpl, fun σ sd B ρ m H Q s rl w => ka σ sd B ρ m H _ s rl ?_⟩
  refine Wt.bind' (r := ga sd m) w fun d B1 ρ1 m1 H1 t1 s1 w1 v r => kb σ sd B1 ρ1 m1 H1 _ s1 (rl.ste t1) ?_
  exact Wt.bind' (r := gb sd m1) w1 fun d2 B2 ρ2 m2 H2 t2 s2 w2 v2 r2 => hd d d2 v v2 B2 ρ2 m2 H2 Q s2 (r.ste t2) r2 w2
/-! ### one argument -/
/-- a function of the items of a list or tuple -/
def onItems {α : Type} (f : List D → M α) (s : S) : M α := M.bind (itemsS s) f
theorem onItems_ok {α : Type} {f : List D → M α} {s : S} {v : V} {P : α → Hp → Rho → Mem → Hp → Prop} (hs : Sim K B ρ m H) (r : RepS K B ρ s v) (w : Wt K B ρ H E P (onItems f s m)) :
    ∃ ds xs a, v = .ref a ∧ (SqL K H a xs ∨ SqT K H a xs) ∧ RepL K B ds xs ∧ Wt K B ρ H E P (f ds m) := by
  obtain ⟨ds, xs, a, e, rfl, h2, h3⟩ := items_ok (E := E) (Pp := fun _ => True) hs r (Wt.bind (f := f) w)
  refine ⟨ds, xs, a, rfl, h2, h3, ?_⟩
  have w2 : Wt K B ρ H E P ((itemsS s m).bind f) := w
  rw [e] at w2
  exact w2
def lenS : S → M D
  | .d (.str x) => if x.length ≤ 16777216 then M.pure (.int x.length) else bad
  | s => onItems (fun ds => M.pure (.int ds.length)) s
def rLen2 (K : PySem.W.Frag) : List V → Hp → VK → Prop := fun xs H Q => (∃ p ys, xs = [.ref p] ∧ (SqL K H p ys ∨ SqT K H p ys) ∧ Q (.int ys.length) H) ∨ (∃ z, xs = [.str z] ∧ z.length ≤ sizeLine ∧ Q (.int z.length) H)
theorem CallR.or {f : Value} {r r' : List V → Hp → VK → Prop} (h : CallR X f r) (h' : CallR X f r') : CallR X f (fun xs H Q => r xs H Q ∨ r' xs H Q) := by
  intro pins s σ H xs us Q I rx q
  rcases q with q | q
  · exact h pins s σ H xs us Q I rx q
  · exact h' pins s σ H xs us Q I rx q
theorem call_len2 : CallR X (.builtin "len") (rLen2 X.K) := CallR.or call_len_seq call_len_str
theorem lenS_ok : C1 X E (rLen2 X.K) lenS := by
  intro s v B ρ m H Q hs r w
  have seq : Wt X.K B ρ H E (PD X.K Q) (onItems (fun ds => M.pure (.int ds.length)) s m) → rLen2 X.K [v] H Q := fun w => by
    obtain ⟨ds, xs, a, rfl, h2, h3, w2⟩ := onItems_ok hs r w
    refine .inl ⟨a, xs, rfl, h2, ?_⟩
    rw [h3.length]
    exact Wt.ok (E := E) (m := m) w2 hs _ rfl
  cases s with
  | h n => exact seq w
  | d x =>
    cases x with
    | str z =>
      have w2 : Wt X.K B ρ H E (PD X.K Q) ((if z.length ≤ 16777216 then M.pure (.int z.length) else bad : M D) m) := w
      split at w2
      · rename_i hl
        refine .inr ⟨z, by rw [show v = .str z from r], by rw [sl16]; exact hl, Wt.ok (E := E) (m := m) w2 hs _ rfl⟩
      · exact w2.elim
    | _ => exact seq w
def listS (s : S) : M (List D) := onItems (fun ds => M.pure ds) s
theorem listS_ok : C1F X E (fun xs H Q => ∃ p ys, xs = [.ref p] ∧ (SqL X.K H p ys ∨ SqT X.K H p ys) ∧ ∀ l, H l = none → Q (.ref l) (upd H l (.lst ys))) listS := by
  intro s v B ρ m H Q hs r w
  obtain ⟨ds, xs, a, rfl, h2, h3, w2⟩ := onItems_ok hs r w
  exact ⟨a, xs, rfl, h2, fun l hl => Wt.ok' (E := E) (m := m) w2 (Ste.newH hl) (hs.newH hl) l xs hl (hs.bnone hl) (hs.nown hl) upd_same h3⟩
def tupleS : S → M D
  | .d (.tup ds) => M.pure (.tup ds)
  | s => onItems (fun ds => M.pure (.tup ds)) s
theorem tupleS_ok : C1 X E (fun xs H Q => ∃ p ys, xs = [.ref p] ∧ ((SqL X.K H p ys ∧ ∀ l, H l = none → Q (.ref l) (upd H l (.tup ys))) ∨ (SqT X.K H p ys ∧ Q (.ref p) H))) tupleS := by
  intro s v B ρ m H Q hs r w
  have seq : (∀ ds, s ≠ .d (.tup ds)) → Wt X.K B ρ H E (PD X.K Q) (onItems (fun ds => M.pure (D.tup ds)) s m) → ∃ p ys, [v] = [V.ref p] ∧ ((SqL X.K H p ys ∧ ∀ l, H l = none → Q (.ref l) (upd H l (.tup ys))) ∨ (SqT X.K H p ys ∧ Q (.ref p) H)) := fun hn w => by
    obtain ⟨ds, xs, a, e, rfl, h2, h3⟩ := items_ok0 (E := E) (Pp := fun _ => True) hs r (Wt.bind (f := fun ds => M.pure (D.tup ds)) w)
    have w2 : Wt X.K B ρ H E (PD X.K Q) ((itemsS s m).bind fun ds => M.pure (D.tup ds)) := w
    rw [e] at w2
    rcases h2 with ⟨_, h2⟩ | ⟨z, _⟩
    · exact ⟨a, xs, rfl, .inl ⟨h2, fun l hl => Wt.tup hs w2 h3 hl⟩⟩
    · exact absurd z (hn ds)
  cases s with
  | h n => exact seq (fun _ z => by cases z) w
  | d x =>
    cases x with
    | tup ds =>
      obtain ⟨a, xs, rfl, h2, h3⟩ := r
      exact ⟨a, xs, rfl, .inr ⟨SqT.of (hs.ex _ _ h2), Wt.ok (E := E) (m := m) w hs _ ⟨a, xs, rfl, h2, h3⟩⟩⟩
    | _ => exact seq (fun _ z => by cases z) w
/-- the ints of a list -/
def intsL : List D → M (List Int)
  | [] => M.pure []
  | .int i :: ds => M.bind (intsL ds) fun is => M.pure (i :: is)
  | _ :: _ => bad
theorem intsL_ok {P : List Int → Hp → Rho → Mem → Hp → Prop} : ∀ {ds : List D} {xs : List V}, RepL K B ds xs → ∀ {α : Type} {f : List Int → M α} {P : α → Hp → Rho → Mem → Hp → Prop}, Wt K B ρ H E P (M.bind (intsL ds) f m) → ∃ is, ds = is.map D.int ∧ xs = is.map V.int ∧ Wt K B ρ H E P (f is m)
  | [], _, h, α, f, P, w => ⟨[], rfl, h, w⟩
  | .int i :: ds, _, h, α, f, P, w => by
    obtain ⟨x, r, rfl, h2, h3⟩ := h
    have w2 : Wt K B ρ H E P (M.bind (intsL ds) (fun is => f (i :: is)) m) := by
      have e : M.bind (intsL (.int i :: ds)) f m = M.bind (intsL ds) (fun is => f (i :: is)) m := by
        show ((intsL ds m).bind fun is => M.pure (i :: is)).bind f = (intsL ds m).bind fun is => f (i :: is)
        cases intsL ds m <;> rfl
      rw [e] at w
      exact w
    obtain ⟨is, e1, e2, e3⟩ := intsL_ok (P := fun _ _ _ _ _ => True) h3 w2
    exact ⟨i :: is, by rw [e1] <;> rfl, by rw [e2, show x = .int i from h2] <;> rfl, e3⟩
  | .non :: _, _, _, _, _, _, w => w.elim
  | .bl _ :: _, _, _, _, _, _, w => w.elim
  | .str _ :: _, _, _, _, _, _, w => w.elim
  | .ty _ :: _, _, _, _, _, _, w => w.elim
  | .gl _ :: _, _, _, _, _, _, w => w.elim
  | .scr _ :: _, _, _, _, _, _, w => w.elim
  | .lst _ :: _, _, _, _, _, _, w => w.elim
  | .tup _ :: _, _, _, _, _, _, w => w.elim
  | .dk _ :: _, _, _, _, _, _, w => w.elim
  | .dt _ :: _, _, _, _, _, _, w => w.elim
  | .rng _ _ :: _, _, _, _, _, _, w => w.elim
  | .ob _ _ :: _, _, _, _, _, _, w => w.elim
/-- a list (no tuple) -/
def onList {α : Type} (f : List D → M α) : S → M α
  | .d (.tup _) => bad
  | s => onItems f s
theorem onList_ok {α : Type} {f : List D → M α} {s : S} {v : V} {P : α → Hp → Rho → Mem → Hp → Prop} (hs : Sim K B ρ m H) (r : RepS K B ρ s v) (w : Wt K B ρ H E P (onList f s m)) :
    ∃ ds xs a, v = .ref a ∧ SqL K H a xs ∧ RepL K B ds xs ∧ Wt K B ρ H E P (f ds m) := by
  have seq : (∀ ds, s ≠ .d (.tup ds)) → Wt K B ρ H E P (onItems f s m) → ∃ ds xs a, v = .ref a ∧ SqL K H a xs ∧ RepL K B ds xs ∧ Wt K B ρ H E P (f ds m) := fun hn w => by
    obtain ⟨ds, xs, a, e, rfl, h2, h3⟩ := items_ok0 (E := E) (Pp := fun _ => True) hs r (Wt.bind (f := f) w)
    have w2 : Wt K B ρ H E P ((itemsS s m).bind f) := w
    rw [e] at w2
    rcases h2 with ⟨_, h2⟩ | ⟨z, _⟩
    · exact ⟨ds, xs, a, rfl, h2, h3, w2⟩
    · exact absurd z (hn ds)
  cases s with
  | h n => exact seq (fun _ z => by cases z) w
  | d x =>
    cases x with
    | tup ds => exact w.elim
    | _ => exact seq (fun _ z => by cases z) w
def sumS (s : S) : M D := onList (fun ds => M.bind (intsL ds) fun is => M.pure (.int is.sum)) s
theorem sumS_ok : C1 X E (rSum X.K) sumS := by
  intro s v B ρ m H Q hs r w
  obtain ⟨ds, xs, a, rfl, h2, h3, w2⟩ := onList_ok hs r w
  obtain ⟨is, rfl, rfl, w3⟩ := intsL_ok (P := fun _ _ _ _ _ => True) h3 w2
  exact ⟨a, is, rfl, h2, Wt.ok (E := E) (m := m) w3 hs _ rfl⟩
def maxI : List Int → Int
  | [] => 0
  | [a] => a
  | a :: as => let b := maxI as; if a < b then b else a
theorem maxI_mem : ∀ {l : List Int}, l ≠ [] → maxI l ∈ l ∧ ∀ y ∈ l, y ≤ maxI l
  | [], h => absurd rfl h
  | [a], _ => ⟨by simp [maxI], fun y hy => by simp [maxI] at *; omega⟩
  | a :: b :: l, _ => by
    obtain ⟨h1, h2⟩ := maxI_mem (l := b :: l) (by simp)
    have e : maxI (a :: b :: l) = if a < maxI (b :: l) then maxI (b :: l) else a := rfl
    rw [e]
    split
    · rename_i h
      refine ⟨List.mem_cons_of_mem _ h1, fun y hy => ?_⟩
      rcases List.mem_cons.mp hy with z | z
      · omega
      · exact h2 y z
    · rename_i h
      refine ⟨List.mem_cons_self, fun y hy => ?_⟩
      rcases List.mem_cons.mp hy with z | z
      · omega
      · have := h2 y z
        omega
theorem maxI_eq {l : List Int} {x : Int} (h1 : x ∈ l) (h2 : ∀ y ∈ l, y ≤ x) : x = maxI l := by
  obtain ⟨g1, g2⟩ := maxI_mem (l := l) (fun z => by rw [z] at h1; cases h1)
  have := g2 x h1
  have := h2 _ g1
  omega
def maxS (s : S) : M D := onList (fun ds => M.bind (intsL ds) fun is => if is ≠ [] then M.pure (.int (maxI is)) else bad) s
theorem maxS_ok : C1 X E (rMax X.K) maxS := by
  intro s v B ρ m H Q hs r w
  obtain ⟨ds, xs, a, rfl, h2, h3, w2⟩ := onList_ok hs r w
  obtain ⟨is, rfl, rfl, w3⟩ := intsL_ok (P := fun _ _ _ _ _ => True) h3 w2
  split at w3
  · rename_i hn
    refine ⟨a, is, rfl, h2, List.length_pos_iff.mpr hn, fun x h4 h5 => ?_⟩
    rw [maxI_eq h4 h5]
    exact Wt.ok (E := E) (m := m) w3 hs _ rfl
  · exact w3.elim
/-- sorted, whole numbers -/
def sortI (l : List Int) : List Int := l.mergeSort (fun a b => decide (a ≤ b))
theorem sortI_eq {l l' : List Int} (h1 : l'.Perm l) (h2 : l'.Pairwise (· ≤ ·)) : l' = sortI l := by
  refine List.Perm.eq_of_pairwise (le := fun a b : Int => a ≤ b) (fun a b _ _ h h' => Int.le_antisymm h h') h2 ?_ (h1.trans (List.mergeSort_perm l _).symm)
  have := List.pairwise_mergeSort (le := fun a b : Int => decide (a ≤ b)) (fun a b c h h' => by simp at *; omega) (fun a b => by simp; omega) l
  exact this.imp (fun h => by simpa using h)
def sortedS (s : S) : M (List D) := onList (fun ds => M.bind (intsL ds) fun is => M.pure ((sortI is).map .int)) s
theorem sortedS_ok : C1F X E (rSortedI X.K) sortedS := by
  intro s v B ρ m H Q hs r w
  obtain ⟨ds, xs, a, rfl, h2, h3, w2⟩ := onList_ok hs r w
  obtain ⟨is, rfl, rfl, w3⟩ := intsL_ok (P := fun _ _ _ _ _ => True) h3 w2
  refine ⟨a, is, rfl, h2, fun ns' l h4 h5 hl => ?_⟩
  rw [sortI_eq h4 h5]
  exact Wt.ok' (E := E) (m := m) w3 (Ste.newH hl) (hs.newH hl) l _ hl (hs.bnone hl) (hs.nown hl) upd_same (RepL.ints _)
def boolsL : List D → M (List Bool)
  | [] => M.pure []
  | .bl i :: ds => M.bind (boolsL ds) fun is => M.pure (i :: is)
  | _ :: _ => bad
theorem boolsL_ok {P : List Int → Hp → Rho → Mem → Hp → Prop} : ∀ {ds : List D} {xs : List V}, RepL K B ds xs → ∀ {α : Type} {f : List Bool → M α} {P : α → Hp → Rho → Mem → Hp → Prop}, Wt K B ρ H E P (M.bind (boolsL ds) f m) → ∃ is, ds = is.map D.bl ∧ xs = is.map V.bl ∧ Wt K B ρ H E P (f is m)
  | [], _, h, α, f, P, w => ⟨[], rfl, h, w⟩
  | .bl i :: ds, _, h, α, f, P, w => by
    obtain ⟨x, r, rfl, h2, h3⟩ := h
    have w2 : Wt K B ρ H E P (M.bind (boolsL ds) (fun is => f (i :: is)) m) := by
      have e : M.bind (boolsL (.bl i :: ds)) f m = M.bind (boolsL ds) (fun is => f (i :: is)) m := by
        show ((boolsL ds m).bind fun is => M.pure (i :: is)).bind f = (boolsL ds m).bind fun is => f (i :: is)
        cases boolsL ds m <;> rfl
      rw [e] at w
      exact w
    obtain ⟨is, e1, e2, e3⟩ := boolsL_ok (P := fun _ _ _ _ _ => True) h3 w2
    exact ⟨i :: is, by rw [e1] <;> rfl, by rw [e2, show x = .bl i from h2] <;> rfl, e3⟩
  | .non :: _, _, _, _, _, _, w => w.elim
  | .int _ :: _, _, _, _, _, _, w => w.elim
  | .str _ :: _, _, _, _, _, _, w => w.elim
  | .ty _ :: _, _, _, _, _, _, w => w.elim
  | .gl _ :: _, _, _, _, _, _, w => w.elim
  | .scr _ :: _, _, _, _, _, _, w => w.elim
  | .lst _ :: _, _, _, _, _, _, w => w.elim
  | .tup _ :: _, _, _, _, _, _, w => w.elim
  | .dk _ :: _, _, _, _, _, _, w => w.elim
  | .dt _ :: _, _, _, _, _, _, w => w.elim
  | .rng _ _ :: _, _, _, _, _, _, w => w.elim
  | .ob _ _ :: _, _, _, _, _, _, w => w.elim
def allS (s : S) : M D := onList (fun ds => M.bind (boolsL ds) fun is => M.pure (.bl (is.all _root_.id))) s
theorem allS_ok : C1 X E (rAll X.K) allS := by
  intro s v B ρ m H Q hs r w
  obtain ⟨ds, xs, a, rfl, h2, h3, w2⟩ := onList_ok hs r w
  obtain ⟨is, rfl, rfl, w3⟩ := boolsL_ok (P := fun _ _ _ _ _ => True) h3 w2
  exact ⟨a, is, rfl, h2, Wt.ok (E := E) (m := m) w3 hs _ rfl⟩
/-- whole numbers -/
def intS (f : Int → D) : S → M D
  | .d (.int i) => M.pure (f i)
  | _ => bad
def absS : S → M D := intS fun i => .int (if i < 0 then -i else i)
theorem absS_ok : C1 X E (fun xs H Q => ∃ i, xs = [.int i] ∧ Q (.int (if i < 0 then -i else i)) H) absS := by
  intro s v B ρ m H Q hs r w
  cases s with
  | h n => exact w.elim
  | d x =>
    cases x with
    | int i => exact ⟨i, by rw [show v = .int i from r], Wt.ok (E := E) (m := m) w hs _ rfl⟩
    | _ => exact w.elim
def toIntS : S → M D
  | .d (.int i) => M.pure (.int i)
  | .d (.bl b) => M.pure (.int (if b then 1 else 0))
  | _ => bad
theorem toIntS_ok : C1 X E (fun xs H Q => (∃ i, xs = [.int i] ∧ Q (.int i) H) ∨ ∃ k, xs = [.bl k] ∧ Q (.int (if k then 1 else 0)) H) toIntS := by
  intro s v B ρ m H Q hs r w
  cases s with
  | h n => exact w.elim
  | d x =>
    cases x with
    | int i => exact .inl ⟨i, by rw [show v = .int i from r], Wt.ok (E := E) (m := m) w hs _ rfl⟩
    | bl i => exact .inr ⟨i, by rw [show v = .bl i from r], Wt.ok (E := E) (m := m) w hs _ rfl⟩
    | _ => exact w.elim
def mm2 (f : Int → Int → Int) : S → S → M D
  | .d (.int i), .d (.int j) => M.pure (.int (f i j))
  | _, _ => bad
theorem mm2_ok {f : Int → Int → Int} : C2 X E (fun xs H Q => ∃ i j, xs = [.int i, .int j] ∧ Q (.int (f i j)) H) (mm2 f) := by
  intro s1 s2 v1 v2 B ρ m H Q hs r1 r2 w
  cases s1 with
  | h n => exact w.elim
  | d x =>
    cases x with
    | int i =>
      cases s2 with
      | h n => exact w.elim
      | d y =>
        cases y with
        | int j => exact ⟨i, j, by rw [show v1 = .int i from r1, show v2 = .int j from r2], Wt.ok (E := E) (m := m) w hs _ rfl⟩
        | _ => exact w.elim
    | _ => exact w.elim
end
end Mi
set_option maxRecDepth 100000
set_option maxHeartbeats 4000000
/-! The layer Mi. Part 7: isinstance, subscripts, slices, changing lists, calls of defs. -/
namespace Mi
open PySem PySem.Spec PyProof.Rows L2
section
variable {X : Cx} {E : XK} {K : PySem.W.Frag} {B : Hp} {ρ : Rho} {m : Mem} {H : Hp} {a b c e : Expr} {pos p : Pos} {x : Str} {id : String} {r : List V → Hp → VK → Prop} {ga gb : SD → M S} {fa fb : SD → M D}
/-! ### built-in classes as values, isinstance -/
theorem se_ty {T : String} (hm : X.mg x = none) (hv : bootBuiltins x = some (.type T) := by decide +kernel) (hg : Gl X x := by rfl) (hn : x ≠ "__name__" := by decide) (hdb : (x == ("__debug__" : Str)) = false := by decide) : SE X E (.Name x pos) (fun _ => M.pure (.ty T)) := by
  refine ⟨tC (.ty T), ⟨fun pins s σ H Q I h => ?_⟩, fun σ sd B ρ m H Q s rl w => Wt.ok (E := E) (m := m) w s _ rfl⟩
  exact ld_blt I hg hm hv ⟨V.ty T, H, I, rfl, h⟩ hn hdb
def tyN : S → Option String
  | .d .non => some "NoneType"
  | .d (.bl _) => some "bool"
  | .d (.int _) => some "int"
  | .d (.str _) => some "str"
  | .d (.lst _) => some "list"
  | .d (.tup _) => some "tuple"
  | .d (.dk _) => some "dict"
  | _ => none
theorem tyN_ok {s : S} {v : V} {T : String} (hs : Sim K B ρ m H) (r : RepS K B ρ s v) (h : tyN s = some T) : TyX K H v (.type T) := by
  cases s with
  | h n => cases h
  | d x =>
    cases x with
    | non => cases h; rw [show v = .non from r]; exact .base .non
    | bl b => cases h; rw [show v = .bl b from r]; exact .base (.bl b)
    | int i => cases h; rw [show v = .int i from r]; exact .base (.int i)
    | str z => cases h; rw [show v = .str z from r]; exact .base (.str z)
    | lst ds => cases h; obtain ⟨a, xs, rfl, h2, _⟩ := r; exact .base (.lst (hs.ex _ _ h2))
    | tup ds => cases h; obtain ⟨a, xs, rfl, h2, _⟩ := r; exact .base (.tup (hs.ex _ _ h2))
    | dk ds => cases h; obtain ⟨a, o, xs, rfl, h2, _⟩ := r; exact .fDict (hs.ex _ _ h2)
    | _ => cases h
/-- is one of the kind t of one of the kinds -/
def kits (t : String) : List String → Option Bool
  | [] => some false
  | c :: cs => match kitB t c with
    | some true => some true
    | some false => kits t cs
    | none => none
theorem kits_ok {t : String} : ∀ {cs : List String} {r : Bool}, kits t cs = some r → PySem.W.kitAny K (.type t) (cs.map Value.type) = some r
  | [], r, h => by
    cases h
    exact kitAny_nil
  | c :: cs, r, h => by
    unfold kits at h
    cases q : kitB t c with
    | none => rw [q] at h; cases h
    | some z =>
      rw [q] at h
      cases z with
      | true =>
        cases h
        exact kitAny_cons (kit_ty q) (fun z => by cases z) (fun _ => rfl)
      | false => exact kitAny_cons (kit_ty q) (fun _ => kits_ok h) (fun z => by cases z)
def tysL : List D → Option (List String)
  | [] => some []
  | .ty T :: ds => (tysL ds).map fun r => T :: r
  | _ :: _ => none
theorem tysL_ok : ∀ {ds : List D} {xs : List V} {Ts : List String}, RepL K B ds xs → tysL ds = some Ts → Paired ClsV xs (Ts.map Value.type)
  | [], _, _, h, e => by
    rw [show _ = [] from h]
    cases e
    exact .nil
  | .ty T :: ds, _, _, h, e => by
    obtain ⟨x, r, rfl, h2, h3⟩ := h
    unfold tysL at e
    cases q : tysL ds with
    | none => rw [q] at e; cases e
    | some Ts =>
      rw [q] at e
      cases e
      rw [show x = .ty T from h2]
      exact .cons (.ty T) (tysL_ok h3 q)
  | .non :: _, _, _, _, e => by cases e
  | .bl _ :: _, _, _, _, e => by cases e
  | .int _ :: _, _, _, _, e => by cases e
  | .str _ :: _, _, _, _, e => by cases e
  | .gl _ :: _, _, _, _, e => by cases e
  | .scr _ :: _, _, _, _, e => by cases e
  | .lst _ :: _, _, _, _, e => by cases e
  | .tup _ :: _, _, _, _, e => by cases e
  | .dk _ :: _, _, _, _, e => by cases e
  | .dt _ :: _, _, _, _, e => by cases e
  | .rng _ _ :: _, _, _, _, e => by cases e
  | .ob _ _ :: _, _, _, _, e => by cases e
def isi (s : S) : S → M D
  | .d (.ty T) => (match (tyN s).bind fun t => kitB t T with
    | some r => M.pure (.bl r)
    | none => bad)
  | .d (.tup ds) => (match (tyN s).bind fun t => (tysL ds).bind fun Ts => kits t Ts with
    | some r => M.pure (.bl r)
    | none => bad)
  | _ => bad
def rIsi2 (K : PySem.W.Frag) : List V → Hp → VK → Prop := fun xs H Q => rIsi K xs H Q ∨ rIsiT K xs H Q
theorem isi_ok : C2 X E (rIsi2 X.K) isi := by
  intro s1 s2 v1 v2 B ρ m H Q hs r1 r2 w
  cases s2 with
  | h n => exact w.elim
  | d y =>
    cases y with
    | ty T =>
      have w2 : Wt X.K B ρ H E (PD X.K Q) ((match (tyN s1).bind fun t => kitB t T with | some r => M.pure (.bl r) | none => bad : M D) m) := w
      cases q : tyN s1 with
      | none => rw [q] at w2; exact w2.elim
      | some t =>
        rw [q] at w2
        have w3 : Wt X.K B ρ H E (PD X.K Q) ((match kitB t T with | some r => M.pure (.bl r) | none => bad : M D) m) := w2
        cases k : kitB t T with
        | none => rw [k] at w3; exact w3.elim
        | some z =>
          rw [k] at w3
          exact .inl ⟨v1, .ty T, .type t, .type T, z, by rw [show v2 = .ty T from r2], .ty T, tyN_ok hs r1 q, kit_ty k, Wt.ok (E := E) (m := m) w3 hs _ rfl⟩
    | tup ds =>
      obtain ⟨a, xs, rfl, h2, h3⟩ := r2
      have w2 : Wt X.K B ρ H E (PD X.K Q) ((match (tyN s1).bind fun t => (tysL ds).bind fun Ts => kits t Ts with | some r => M.pure (.bl r) | none => bad : M D) m) := w
      cases q : tyN s1 with
      | none => rw [q] at w2; exact w2.elim
      | some t =>
        rw [q] at w2
        cases q2 : tysL ds with
        | none => rw [q2] at w2; exact w2.elim
        | some Ts =>
          rw [q2] at w2
          have w3 : Wt X.K B ρ H E (PD X.K Q) ((match kits t Ts with | some r => M.pure (.bl r) | none => bad : M D) m) := w2
          cases k : kits t Ts with
          | none => rw [k] at w3; exact w3.elim
          | some z =>
            rw [k] at w3
            exact .inr ⟨v1, a, xs, .type t, Ts.map Value.type, z, rfl, hs.ex _ _ h2, tysL_ok h3 q2, tyN_ok hs r1 q, kits_ok k, Wt.ok (E := E) (m := m) w3 hs _ rfl⟩
    | _ => exact w.elim
theorem call_isi2 : CallR X (.builtin "isinstance") (rIsi2 X.K) := CallR.or call_isi call_isiT
/-! ### subscripts -/
theorem atI_rep {ds : List D} {xs : List V} {i : Int} {d : D} (h : RepL K B ds xs) (e : atI ds i = some d) : ∃ v, atI xs i = some v ∧ Rep K B d v := by
  unfold atI at e ⊢
  rw [h.length]
  cases q : ixN ds.length i with
  | none => rw [q] at e; cases e
  | some j =>
    rw [q] at e
    exact h.get e
def ixS (s : S) (i : D) : M D := match s, i with
  | .d (.str z), .int k => if z.length ≤ 16777216 then (match atI z.cps.toList k with
    | some c => M.pure (.str ⟨#[c]⟩)
    | none => bad) else bad
  | s, .int k => onItems (fun ds => match atI ds k with
    | some d => M.pure d
    | none => bad) s
  | _, _ => bad
theorem ixS_ok {s : S} {v y : V} {d : D} {Q : VK} (hs : Sim K B ρ m H) (r : RepS K B ρ s v) (ry : Rep K B d y) (w : Wt K B ρ H E (PD K Q) (ixS s d m)) : rIx K v y H Q := by
  cases d with
  | int k =>
    have seq : Wt K B ρ H E (PD K Q) (onItems (fun ds => match atI ds k with | some d => M.pure d | none => bad) s m) → rIx K v y H Q := fun w => by
      obtain ⟨ds, xs, a, rfl, h2, h3, w2⟩ := onItems_ok hs r w
      cases q : atI ds k with
      | none =>
        have w3 : Wt K B ρ H E (PD K Q) ((match atI ds k with | some d => M.pure d | none => bad : M D) m) := w2
        rw [q] at w3
        exact w3.elim
      | some d =>
        have w3 : Wt K B ρ H E (PD K Q) ((match atI ds k with | some d => M.pure d | none => bad : M D) m) := w2
        rw [q] at w3
        obtain ⟨u, g1, g2⟩ := atI_rep h3 q
        rcases h2 with h2 | h2
        · exact .inl ⟨a, xs, k, u, rfl, ry, h2, g1, Wt.ok (E := E) (m := m) w3 hs _ g2⟩
        · exact .inr (.inl ⟨a, xs, k, u, rfl, ry, h2, g1, Wt.ok (E := E) (m := m) w3 hs _ g2⟩)
    cases s with
    | h n => exact seq w
    | d x =>
      cases x with
      | str z =>
        have w2 : Wt K B ρ H E (PD K Q) ((if z.length ≤ 16777216 then (match atI z.cps.toList k with | some c => M.pure (.str ⟨#[c]⟩) | none => bad) else bad : M D) m) := w
        split at w2
        · rename_i hl
          cases q : atI z.cps.toList k with
          | none => rw [q] at w2; exact w2.elim
          | some c =>
            rw [q] at w2
            exact .inr (.inr ⟨z, k, c, r, ry, by rw [sl16]; exact hl, q, Wt.ok (E := E) (m := m) w2 hs _ rfl⟩)
        · exact w2.elim
      | _ => exact seq w
  | _ => cases s with
    | h n => exact w.elim
    | d x => cases x <;> exact w.elim
theorem se_ix (ha : SX X E a ga) (hb : SE X E b fb) (hs : PlainIx b := by exact fun _ _ => rfl) : SE X E (.Subscript a b pos) (fun sd => M.bind (ga sd) fun s => M.bind (fb sd) fun i => ixS s i) := by
  obtain ⟨ta, pa, ka⟩ := ha
  obtain ⟨tb, pb, kb⟩ := hb
  refine ⟨_, pe_ix ix_seq pa pb hs, fun σ sd B ρ m H Q s rl w => ka σ sd B ρ m H _ s rl ?_⟩
  refine Wt.bind' (r := ga sd m) w fun d B1 ρ1 m1 H1 t1 s1 w1 v r => kb σ sd B1 ρ1 m1 H1 _ s1 (rl.ste t1) ?_
  exact Wt.bind' (r := fb sd m1) w1 fun d2 B2 ρ2 m2 H2 t2 s2 w2 v2 r2 => ixS_ok s2 (r.ste t2) r2 w2
/-! ### slices -/
def SO (X : Cx) (E : XK) (e : Option Expr) (f : SD → M (Option Int)) : Prop := ∃ t, PO X e t ∧ ∀ σ sd B ρ m H Q, Sim X.K B ρ m H → RelS X.K B ρ σ sd → Wt X.K B ρ H E (fun o _ _ _ H' => Q o H') (f sd m) → t σ H Q
theorem so_none : SO X E none (fun _ => M.pure none) := ⟨_, po_none, fun σ sd B ρ m H Q s rl w => Wt.ok (E := E) (m := m) w s⟩
theorem so_some (h : SE X E e fa) : SO X E (some e) (fun sd => M.bind (fa sd) fun d => M.bind (asI d) fun i => M.pure (some i)) := by
  obtain ⟨t, p, k⟩ := h
  refine ⟨_, po_some p, fun σ sd B ρ m H Q s rl w => k σ sd B ρ m H _ s rl ?_⟩
  refine Wt.bind' (r := fa sd m) w fun d B1 ρ1 m1 H1 t1 s1 w1 v r => ?_
  cases d with
  | int i => exact ⟨i, r, Wt.ok (E := E) (m := m1) w1 s1⟩
  | _ => exact w1.elim
def cutD (ds : List D) (lo hi : Option Int) : List D := (ds.drop (HT.sIx ds.length 0 lo)).take (HT.sIx ds.length ds.length hi - HT.sIx ds.length 0 lo)
theorem cut_rep {ds : List D} {xs : List V} (h : RepL K B ds xs) (lo hi : Option Int) : RepL K B (cutD ds lo hi) (cutV xs lo hi) := by
  unfold cutD cutV
  rw [h.length]
  exact (h.drop _).take _
/-- a slice of a list: a new list -/
theorem sf_slice {lo hi : Option Expr} {p2 : Pos} {go gh : SD → M (Option Int)} (ha : SX X E a ga) (hl : SO X E lo go) (hh : SO X E hi gh) : SF X E (.Subscript a (.Slice lo hi none p2) pos) (fun sd => M.bind (ga sd) fun s => M.bind (go sd) fun l => M.bind (gh sd) fun h => onList (fun ds => M.pure (cutD ds l h)) s) := by
  obtain ⟨ta, pa, ka⟩ := ha
  obtain ⟨tl, pl, kl⟩ := hl
  obtain ⟨th, ph, kh⟩ := hh
  refine ⟨_, pe_slice sl_list pa pl ph, fun σ sd B ρ m H Q s rl w => ka σ sd B ρ m H _ s rl ?_⟩
  refine Wt.bindO (r := ga sd m) w fun d B1 ρ1 m1 H1 t1 s1 w1 v r => kl σ sd B1 ρ1 m1 H1 _ s1 (rl.ste t1) ?_
  refine Wt.bindO (r := go sd m1) (Wt.freshP t1 s1 w1) fun l B2 ρ2 m2 H2 t2 s2 w2 => kh σ sd B2 ρ2 m2 H2 _ s2 ((rl.ste t1).ste t2) ?_
  refine Wt.bindO (r := gh sd m2) (Wt.freshP t2 s2 w2) fun h B3 ρ3 m3 H3 t3 s3 w3 => ?_
  have w4 := Wt.freshP t3 s3 w3
  obtain ⟨ds, xs, a, rfl, h2, h3, w5⟩ := onList_ok s3 ((r.ste t2).ste t3) w4
  refine ⟨a, xs, rfl, h2, fun p hp => ?_⟩
  exact Wt.ok' (E := E) (m := m3) w5 (Ste.newH hp) (s3.newH hp) p _ hp (s3.bnone hp) (s3.nown hp) upd_same (cut_rep h3 l h)
/-! ### changing lists -/
/-- the changing list n -/
def onH {α : Type} (f : Nat → List D → M α) : S → M α
  | .h n => fun m => match m[n]? with
    | some (.lst ds) => f n ds m
    | _ => .bad
  | _ => bad
theorem onH_ok {α : Type} {f : Nat → List D → M α} {s : S} {v : V} {P : α → Hp → Rho → Mem → Hp → Prop} (hs : Sim K B ρ m H) (r : RepS K B ρ s v) (w : Wt K B ρ H E P (onH f s m)) :
    ∃ n p ds xs, s = .h n ∧ ρ[n]? = some p ∧ v = .ref p.1 ∧ B p.1 = none ∧ p.2 = [] ∧ H p.1 = some (.lst xs) ∧ RepL K B ds xs ∧ m[n]? = some (.lst ds) ∧ Wt K B ρ H E P (f n ds m) := by
  cases s with
  | d x => exact w.elim
  | h n =>
    obtain ⟨p, h1, rfl⟩ := r
    obtain ⟨o, h2, h3⟩ := hs.at_ h1
    have w2 : Wt K B ρ H E P (match m[n]? with | some (.lst ds) => f n ds m | _ => .bad) := w
    rw [h2] at w2
    cases o with
    | lst ds =>
      obtain ⟨z1, z2, xs, z3, z4⟩ := h3
      exact ⟨n, p, ds, xs, rfl, h1, rfl, z1, z2, z3, z4, h2, w2⟩
    | _ => exact w2.elim
def setH (n : Nat) (ds : List D) : M D := fun m => .ok .non (m.set n (.lst ds))
/-- the list is written -/
theorem Wt.set {α : Type} {a : α} {n : Nat} {p : Addr × List Addr} {ds : List D} {xs : List V} {P : α → Hp → Rho → Mem → Hp → Prop} (hs : Sim K B ρ m H) (hp : ρ[n]? = some p) (hB : B p.1 = none) (h2 : p.2 = []) (r : RepL K B ds xs)
    (w : Wt K B ρ H E P (.ok a (m.set n (.lst ds)))) : P a B ρ (m.set n (.lst ds)) (upd H p.1 (.lst xs)) := by
  have hne : ∀ a u, ¬ (a = p.1 ∨ a ∈ p.2) → H a = some u → upd H p.1 (.lst xs) a = some u := fun a u z e => by
    rw [upd_ne (fun q => z (.inl q))]
    exact e
  refine Wt.ok' w (Ste.write hp hne) (hs.write hp (fun a z => ?_) hne ⟨hB, h2, xs, upd_same, r⟩)
  rcases z with z | z
  · rw [z]; exact hB
  · rw [h2] at z; cases z
def appS (s : S) (d : D) : M D := onH (fun n ds => if ds.length < 16777216 then setH n (ds ++ [d]) else bad) s
def isL : S → M Unit := onH fun _ _ => M.pure ()
theorem isL_ok {s : S} {v : V} {P : Unit → Hp → Rho → Mem → Hp → Prop} (hs : Sim K B ρ m H) (r : RepS K B ρ s v) (w : Wt K B ρ H E P (isL s m)) : tyV K "list" v H ∧ P () B ρ m H := by
  obtain ⟨n, p, ds, xs, rfl, h1, rfl, z1, z2, z3, z4, h2, w2⟩ := onH_ok hs r w
  exact ⟨.inl ⟨rfl, _, SqL.of z3⟩, Wt.ok (E := E) (m := m) w2 hs⟩
section
variable {apos : Pos}
/-- a method of a changing list, one argument -/
theorem se_lm {name : Str} {id : String} {rr : V → List V → Hp → VK → Prop} {f : S → D → M D} (slot : Slot "list" name id) (hty : typeOf (.builtin id) = pure (.type "method_descriptor")) (hm : MtR X id rr)
    (hf : ∀ s v d y B ρ m H Q, Sim X.K B ρ m H → RepS X.K B ρ s v → Rep X.K B d y → Wt X.K B ρ H E (PD X.K Q) (f s d m) → rr v [y] H Q) (ha : SX X E a ga) (hb : SE X E b fb) (hbase : attributeBase a name X.env (eval a X.env) = eval a X.env := by rfl)
    (hfew : ((backTo pos (starEach [b] X.env)).all (fun x => !x.1) && (backToKw pos (keywordEach [] X.env)).all (fun x => x.1.isSome) && decide (([b] : List Expr).length + ([] : List Keyword).length + (if ([] : List Keyword).isEmpty then 0 else 1) < 30)) = true := by rfl)
    (hline : (apos.endLine == pos.line) = true := by rfl) (he : starEach [b] X.env = (false, eval b X.env) :: starEach [] X.env := by rfl) (hpl : (backTo pos (starEach [] X.env)).any (·.1) = false := by rfl) :
    SE X E (.Call (.Attribute a name apos) [b] [] pos) (fun sd => M.bind (ga sd) fun s => M.bind (isL s) fun _ => M.bind (fb sd) fun d => f s d) := by
  obtain ⟨ta, pa, ka⟩ := ha
  obtain ⟨tb, pb, kb⟩ := hb
  refine ⟨_, pe_bm PySem.F.plainAttrs_list slot hty hm pa (pa_cons pb pa_nil he) hbase hfew hline he hpl, fun σ sd B ρ m H Q s rl w => ka σ sd B ρ m H _ s rl ?_⟩
  refine Wt.bind' (r := ga sd m) w fun d B1 ρ1 m1 H1 t1 s1 w1 v r => ?_
  obtain ⟨ty, w2⟩ := isL_ok (E := E) s1 r (Wt.bind (f := fun _ => M.bind (fb sd) fun x => f d x) w1)
  refine ⟨ty, kb σ sd B1 ρ1 m1 H1 _ s1 (rl.ste t1) ?_⟩
  exact Wt.bind' (r := fb sd m1) w2 fun d2 B2 ρ2 m2 H2 t2 s2 w3 v2 r2 => hf d v d2 v2 B2 ρ2 m2 H2 Q s2 (r.ste t2) r2 w3
/-- .. no argument -/
theorem se_lm0 {name : Str} {id : String} {rr : V → List V → Hp → VK → Prop} {f : S → M D} (slot : Slot "list" name id) (hty : typeOf (.builtin id) = pure (.type "method_descriptor")) (hm : MtR X id rr)
    (hf : ∀ s v B ρ m H Q, Sim X.K B ρ m H → RepS X.K B ρ s v → Wt X.K B ρ H E (PD X.K Q) (f s m) → rr v [] H Q) (ha : SX X E a ga) (hbase : attributeBase a name X.env (eval a X.env) = eval a X.env := by rfl)
    (hline : (apos.endLine == pos.line) = true := by rfl) : SE X E (.Call (.Attribute a name apos) [] [] pos) (fun sd => M.bind (ga sd) fun s => M.bind (isL s) fun _ => f s) := by
  obtain ⟨ta, pa, ka⟩ := ha
  refine ⟨_, pe_bm0 PySem.F.plainAttrs_list slot hty hm pa hbase hline, fun σ sd B ρ m H Q s rl w => ka σ sd B ρ m H _ s rl ?_⟩
  refine Wt.bind' (r := ga sd m) w fun d B1 ρ1 m1 H1 t1 s1 w1 v r => ?_
  obtain ⟨ty, w2⟩ := isL_ok (E := E) s1 r (Wt.bind (f := fun _ => f d) w1)
  exact ⟨ty, hf d v B1 ρ1 m1 H1 Q s1 r w2⟩
theorem appS_ok {s : S} {v y : V} {d : D} {Q : VK} (hs : Sim K B ρ m H) (r : RepS K B ρ s v) (ry : Rep K B d y) (w : Wt K B ρ H E (PD K Q) (appS s d m)) : rAppend v [y] H Q := by
  obtain ⟨n, p, ds, xs, rfl, h1, rfl, z1, z2, z3, z4, h2, w2⟩ := onH_ok hs r w
  split at w2
  · rename_i hl
    exact ⟨p.1, xs, y, rfl, rfl, z3, by rw [z4.length, sl16]; exact hl, Wt.set hs h1 z1 z2 (z4.append (RepL.one ry)) w2 _ rfl⟩
  · exact w2.elim
theorem se_append (ha : SX X E a ga) (hb : SE X E b fb) (hbase : attributeBase a "append" X.env (eval a X.env) = eval a X.env := by rfl)
    (hfew : ((backTo pos (starEach [b] X.env)).all (fun x => !x.1) && (backToKw pos (keywordEach [] X.env)).all (fun x => x.1.isSome) && decide (([b] : List Expr).length + ([] : List Keyword).length + (if ([] : List Keyword).isEmpty then 0 else 1) < 30)) = true := by rfl)
    (hline : (apos.endLine == pos.line) = true := by rfl) (he : starEach [b] X.env = (false, eval b X.env) :: starEach [] X.env := by rfl) (hpl : (backTo pos (starEach [] X.env)).any (·.1) = false := by rfl) :
    SE X E (.Call (.Attribute a "append" apos) [b] [] pos) (fun sd => M.bind (ga sd) fun s => M.bind (isL s) fun _ => M.bind (fb sd) fun d => appS s d) :=
  se_lm PySem.F.slot_list_append PySem.F.type_list_append mt_append (fun s v d y B ρ m H Q hs r ry w => appS_ok hs r ry w) ha hb hbase hfew hline he hpl
/-- xs.pop(i), 0 <= i -/
def popS (s : S) (i : D) : M D := onH (fun n ds => M.bind (asI i) fun k => if 0 ≤ k ∧ k < 9223372036854775808 then (match ds[k.toNat]? with
  | some d => M.bind (setH n (ds.eraseIdx k.toNat)) fun _ => M.pure d
  | none => bad) else bad) s
theorem popS_ok {s : S} {v y : V} {d : D} {Q : VK} (hs : Sim K B ρ m H) (r : RepS K B ρ s v) (ry : Rep K B d y) (w : Wt K B ρ H E (PD K Q) (popS s d m)) : rPopAt v [y] H Q := by
  obtain ⟨n, p, ds, xs, rfl, h1, rfl, z1, z2, z3, z4, h2, w2⟩ := onH_ok hs r w
  cases d with
  | int k =>
    have w3 : Wt K B ρ H E (PD K Q) ((if 0 ≤ k ∧ k < 9223372036854775808 then (match ds[k.toNat]? with | some d => M.bind (setH n (ds.eraseIdx k.toNat)) fun _ => M.pure d | none => bad) else bad : M D) m) := w2
    split at w3
    · rename_i hk
      cases q : ds[k.toNat]? with
      | none => rw [q] at w3; exact w3.elim
      | some d =>
        rw [q] at w3
        obtain ⟨u, g1, g2⟩ := z4.get q
        have hlt : k.toNat < xs.length := (List.getElem?_eq_some_iff.mp g1).1
        have hix : seqIndex? k xs.length = some k.toNat := seqIndex_of hk.1 (by omega)
        exact ⟨p.1, xs, k, k.toNat, u, rfl, by rw [show y = .int k from ry], z3, by omega, by omega, hix, g1, Wt.set hs h1 z1 z2 (z4.eraseIdx k.toNat) (P := PD K Q) w3 _ g2⟩
    · exact w3.elim
  | _ => exact w2.elim
theorem se_pop (ha : SX X E a ga) (hb : SE X E b fb) (hbase : attributeBase a "pop" X.env (eval a X.env) = eval a X.env := by rfl)
    (hfew : ((backTo pos (starEach [b] X.env)).all (fun x => !x.1) && (backToKw pos (keywordEach [] X.env)).all (fun x => x.1.isSome) && decide (([b] : List Expr).length + ([] : List Keyword).length + (if ([] : List Keyword).isEmpty then 0 else 1) < 30)) = true := by rfl)
    (hline : (apos.endLine == pos.line) = true := by rfl) (he : starEach [b] X.env = (false, eval b X.env) :: starEach [] X.env := by rfl) (hpl : (backTo pos (starEach [] X.env)).any (·.1) = false := by rfl) :
    SE X E (.Call (.Attribute a "pop" apos) [b] [] pos) (fun sd => M.bind (ga sd) fun s => M.bind (isL s) fun _ => M.bind (fb sd) fun d => popS s d) :=
  se_lm PySem.F.slot_list_pop PySem.F.type_list_pop mt_popAt (fun s v d y B ρ m H Q hs r ry w => popS_ok hs r ry w) ha hb hbase hfew hline he hpl
def pop0S (s : S) : M D := onH (fun n ds => match ds[ds.length - 1]? with
  | some d => M.bind (setH n ds.dropLast) fun _ => M.pure d
  | none => bad) s
theorem RepL.dropLast {ds : List D} {xs : List V} (h : RepL K B ds xs) : RepL K B ds.dropLast xs.dropLast := by
  rw [List.dropLast_eq_take, List.dropLast_eq_take, h.length]
  exact h.take _
theorem pop0S_ok {s : S} {v : V} {Q : VK} (hs : Sim K B ρ m H) (r : RepS K B ρ s v) (w : Wt K B ρ H E (PD K Q) (pop0S s m)) : rPop v [] H Q := by
  obtain ⟨n, p, ds, xs, rfl, h1, rfl, z1, z2, z3, z4, h2, w2⟩ := onH_ok hs r w
  cases q : ds[ds.length - 1]? with
  | none =>
    have w3 : Wt K B ρ H E (PD K Q) ((match ds[ds.length - 1]? with | some d => M.bind (setH n ds.dropLast) fun _ => M.pure d | none => bad : M D) m) := w2
    rw [q] at w3
    exact w3.elim
  | some d =>
    have w3 : Wt K B ρ H E (PD K Q) ((match ds[ds.length - 1]? with | some d => M.bind (setH n ds.dropLast) fun _ => M.pure d | none => bad : M D) m) := w2
    rw [q] at w3
    obtain ⟨u, g1, g2⟩ := z4.get q
    exact ⟨p.1, xs, u, rfl, rfl, z3, by rw [z4.length]; exact g1, Wt.set hs h1 z1 z2 z4.dropLast (P := PD K Q) w3 _ g2⟩
/-- xs.index(d), flat items -/
def indexL (d : D) : Nat → List D → Option Nat
  | _, [] => none
  | i, x :: xs => if eqF x d = true then some i else indexL d (i + 1) xs
theorem indexL_spec {d : D} : ∀ {ds : List D} {i j : Nat}, indexL d i ds = some j → i ≤ j ∧ (∃ z, ds[j - i]? = some z ∧ eqF z d = true) ∧ ∀ k z, k < j - i → ds[k]? = some z → eqF z d = false
  | [], _, _, h => by cases h
  | x :: xs, i, j, h => by
    unfold indexL at h
    split at h
    · rename_i hq
      cases h
      refine ⟨Nat.le_refl _, ⟨x, by simp, hq⟩, fun k z hk => by omega⟩
    · rename_i hq
      obtain ⟨h1, ⟨z, h2, h3⟩, h4⟩ := indexL_spec h
      refine ⟨by omega, ⟨z, ?_, h3⟩, fun k y hk hy => ?_⟩
      · have e : j - i = (j - (i + 1)) + 1 := by omega
        rw [e]
        simpa using h2
      · cases k with
        | zero =>
          simp at hy
          rw [← hy]
          exact Bool.eq_false_iff.mpr hq
        | succ k => exact h4 k y (by omega) (by simpa using hy)
def indexS (s : S) (d : D) : M D := onList (fun ds => if (flatD d && ds.all flatD) = true then (match indexL d 0 ds with
  | some j => M.pure (.int (j : Nat))
  | none => bad) else bad) s
theorem toV_get {ds : List D} {j : Nat} : (ds.map toV)[j]? = (ds[j]?).map toV := List.getElem?_map ..
theorem indexS_ok {s : S} {v y : V} {d : D} {Q : VK} (hs : Sim K B ρ m H) (r : RepS K B ρ s v) (ry : Rep K B d y) (w : Wt K B ρ H E (PD K Q) (indexS s d m)) : rIndex K v [y] H Q := by
  obtain ⟨ds, xs, a, rfl, h2, h3, w2⟩ := onList_ok hs r w
  split at w2
  · rename_i hc
    obtain ⟨c1, c2⟩ := Bool.and_eq_true_iff.mp hc
    obtain ⟨g1, g2⟩ := ry.flat c1
    obtain ⟨g3, g4⟩ := h3.flat c2
    have flat : ∀ {j : Nat} {z : D}, ds[j]? = some z → flatD z = true := fun h => List.all_eq_true.mp c2 _ (List.mem_of_getElem? h)
    cases q : indexL d 0 ds with
    | none => rw [q] at w2; exact w2.elim
    | some j =>
      rw [q] at w2
      obtain ⟨_, ⟨z, k1, k2⟩, k3⟩ := indexL_spec q
      simp only [Nat.sub_zero] at k1 k3
      refine ⟨a, xs, y, j, toV z, rfl, rfl, h2, g2, g4, by rw [g3, toV_get, k1] <;> rfl, by rw [g1, eqF_ok (flat k1) c1]; exact k2, fun k z' hk hz => ?_, Wt.ok (E := E) (m := m) w2 hs _ rfl⟩
      rw [g3, toV_get] at hz
      cases q2 : ds[k]? with
      | none => rw [q2] at hz; cases hz
      | some u =>
        rw [q2] at hz
        cases hz
        rw [g1, eqF_ok (flat q2) c1]
        exact k3 k u hk q2
  · exact w2.elim
/-- a list that is read, at the receiver's time -/
def isList : S → M Unit := onList fun _ => M.pure ()
theorem isList_ok {s : S} {v : V} {P : Unit → Hp → Rho → Mem → Hp → Prop} (hs : Sim K B ρ m H) (r : RepS K B ρ s v) (w : Wt K B ρ H E P (isList s m)) : tyV K "list" v H ∧ P () B ρ m H := by
  obtain ⟨ds, xs, a, rfl, h2, h3, w2⟩ := onList_ok hs r w
  exact ⟨.inl ⟨rfl, xs, h2⟩, Wt.ok (E := E) (m := m) w2 hs⟩
theorem se_index (ha : SX X E a ga) (hb : SE X E b fb) (hbase : attributeBase a "index" X.env (eval a X.env) = eval a X.env := by rfl)
    (hfew : ((backTo pos (starEach [b] X.env)).all (fun x => !x.1) && (backToKw pos (keywordEach [] X.env)).all (fun x => x.1.isSome) && decide (([b] : List Expr).length + ([] : List Keyword).length + (if ([] : List Keyword).isEmpty then 0 else 1) < 30)) = true := by rfl)
    (hline : (apos.endLine == pos.line) = true := by rfl) (he : starEach [b] X.env = (false, eval b X.env) :: starEach [] X.env := by rfl) (hpl : (backTo pos (starEach [] X.env)).any (·.1) = false := by rfl) :
    SE X E (.Call (.Attribute a "index" apos) [b] [] pos) (fun sd => M.bind (ga sd) fun s => M.bind (isList s) fun _ => M.bind (fb sd) fun d => indexS s d) := by
  obtain ⟨ta, pa, ka⟩ := ha
  obtain ⟨tb, pb, kb⟩ := hb
  refine ⟨_, pe_bm PySem.F.plainAttrs_list PySem.F.slot_list_index PySem.F.type_list_index mt_index pa (pa_cons pb pa_nil he) hbase hfew hline he hpl, fun σ sd B ρ m H Q s rl w => ka σ sd B ρ m H _ s rl ?_⟩
  refine Wt.bind' (r := ga sd m) w fun d B1 ρ1 m1 H1 t1 s1 w1 v r => ?_
  obtain ⟨ty, w2⟩ := isList_ok (E := E) s1 r (Wt.bind (f := fun _ => M.bind (fb sd) fun x => indexS d x) w1)
  refine ⟨ty, kb σ sd B1 ρ1 m1 H1 _ s1 (rl.ste t1) ?_⟩
  exact Wt.bind' (r := fb sd m1) w2 fun d2 B2 ρ2 m2 H2 t2 s2 w3 v2 r2 => indexS_ok s2 (r.ste t2) r2 w3
end
/-- xs[i] = v: the value first, then the list, then the place -/
def setS (s : S) (i d : D) : M Unit := onH (fun n ds => M.bind (asI i) fun k => match ixN ds.length k with
  | some j => fun m => .ok () (m.set n (.lst (ds.set j d)))
  | none => bad) s
theorem sg_sub (ha : SX X E a ga) (hb : SE X E b fb) (hpa : ∀ v, assign (.Subscript a b pos) X.env v = (do
      let ov ← holding [v] (eval a X.env)
      let iv ← holding [v, ov] (eval b X.env)
      standAt pos
      holding [v, ov, iv] (setItem ov iv v)
      release [v, ov, iv] []) := by intro _; rfl) : SG X E [] (.Subscript a b pos) (fun d sd => M.bind (ga sd) fun s => M.bind (fb sd) fun i => M.bind (setS s i d) fun _ => M.pure sd) := by
  obtain ⟨ta, pa, ka⟩ := ha
  obtain ⟨tb, pb, kb⟩ := hb
  refine ⟨_, pg_sub pa pb set_list hpa, fun σ sd B ρ m H v d Q hs rl r w => ka σ sd B ρ m H _ hs rl ?_⟩
  refine Wt.bind' (r := ga sd m) w fun s B1 ρ1 m1 H1 t1 s1 w1 o ro => kb σ sd B1 ρ1 m1 H1 _ s1 (rl.ste t1) ?_
  refine Wt.bind' (r := fb sd m1) w1 fun i B2 ρ2 m2 H2 t2 s2 w2 y ry => ?_
  obtain ⟨n, p, ds, xs, rfl, h1, rfl, z1, z2, z3, z4, h2, w3⟩ := onH_ok (E := E) (f := fun n ds => M.bind (asI i) fun k => match ixN ds.length k with | some j => fun m => .ok () (m.set n (.lst (ds.set j d))) | none => bad) s2 (ro.ste t2) (Wt.bind (f := fun _ => M.pure sd) w2)
  cases i with
  | int k =>
    have w4 : Wt X.K B2 ρ2 H2 E _ ((match ixN ds.length k with | some j => fun m => .ok () (m.set n (.lst (ds.set j d))) | none => bad : M Unit) m2) := w3
    cases q : ixN ds.length k with
    | none => rw [q] at w4; exact w4.elim
    | some j =>
      rw [q] at w4
      refine ⟨p.1, xs, k, j, rfl, ry, z3, by rw [z4.length]; exact q, ?_⟩
      have rd : Rep X.K B2 d v := (r.mono t1.bb).mono t2.bb
      have hsub : ∀ a u, ¬ (a = p.1 ∨ a ∈ p.2) → H2 a = some u → upd H2 p.1 (.lst (xs.set j v)) a = some u := fun a u z e => by
        rw [upd_ne (fun q => z (.inl q))]
        exact e
      have w5 := Wt.set s2 h1 z1 z2 (z4.set j rd) w4
      have s3 : Sim X.K B2 ρ2 (m2.set n (.lst (ds.set j d))) (upd H2 p.1 (.lst (xs.set j v))) := s2.write h1 (fun a z => by
        rcases z with z | z
        · rw [z]; exact z1
        · rw [z2] at z; cases z) hsub ⟨z1, z2, _, upd_same, z4.set j rd⟩
      exact Wt.ok (E := E) w5 s3 σ rfl (fun _ _ => rfl) (((rl.ste t1).ste t2).ste (Ste.write h1 hsub))
  | _ => exact w3.elim
/-- target = value -/
theorem ss_asg {js : List Nat} {tg : Expr} {gt : D → SD → M SD} (he : SE X E e fa) (hg : SG X E js tg gt) (hs : swapsWithSole [tg] e pos.line X.env = pure false := by rfl) (hw : swappedStores [tg] e X.env = pure none := by rfl) (h1 : (assignEach [tg] X.env).map (·.2) = [assign tg X.env] := by rfl) :
    SS X E (.Assign [tg] e pos) (fun sd => M.bind (fa sd) fun d => M.bind (gt d sd) fun sd2 => M.pure (.nx sd2)) := by
  obtain ⟨t, p, k⟩ := he
  obtain ⟨t2, p2, k2⟩ := hg
  refine ⟨_, ps_asg p p2 hs hw h1, fun De σ sd B ρ m H s rl w => k σ sd B ρ m H _ s rl ?_⟩
  refine Wt.bind' (r := fa sd m) w fun d B1 ρ1 m1 H1 t1 s1 w1 v r => k2 σ sd B1 ρ1 m1 H1 v d _ s1 (rl.ste t1) r ?_
  exact Wt.bind' (r := gt d sd m1) w1 fun sd2 B2 ρ2 m2 H2 t3 s2 w2 σ2 _ _ rl2 => Wt.ok (E := E) (m := m2) w2 s2 σ2 rl2
end
end Mi
set_option maxRecDepth 100000
set_option maxHeartbeats 4000000
/-! The layer Mi. Part 8: defs and their calls, raise, parallel and augmented stores. -/
namespace Mi
open PySem PySem.Spec PyProof.Rows L2
/-- a def's body over its arguments: n slots; what it made is forgotten -/
def fnM (n : Nat) (g : SD → M Fl) (args : List S) : M D := fun m => match g (args.map some ++ List.replicate (n - args.length) none) m with
  | .ok (.rt d) m' => .ok d (m'.take m.length)
  | .ok (.nx _) m' => .ok .non (m'.take m.length)
  | .exc c fs m' => .exc c fs (m'.take m.length)
  | _ => .bad
/-- a def's promise, by its function -/
def spF (K : PySem.W.Frag) (n : Nat) (F : List S → M D) : Sp := fun vs H Q E => ∃ B ρ m ss, Sim K B ρ m H ∧ RepSL K B ρ ss vs ∧ ss.length = n ∧ Wt K B ρ H E (PD K Q) (F ss m)
section
variable {P : Program} {w : World} {K : PySem.W.Frag} {mg : Str → Option Value} {base : Heap}
theorem fn_mk {x qual : Str} {params : Arguments} {body : List Stmt} {scope : Scope} {f : Addr} {fd : FuncData} {N ps : List Str} {k : Nat} {g : SD → M Fl} (F : FunD K x qual params body scope [] [] f fd) (S : FnScope N ps scope)
    (hb : ∀ (cdv : Value) (A : Around) (outer : List Env) (s : Shared) (H : Hp) (E : XK), Room k (A.deeper (envOfC qual scope s.heap.objs.size f cdv)) → SSs (cxOf (L2.CX P w) P w K mg base N qual scope f cdv A outer s H E) E body g) :
    FnOk P w K mg base (L2.CX P w) (k + 1) f fd ps (spF K ps.length (fnM N.length g)) := by
  refine F.ok S (fun vs H Q E h => ?_) (fun cdv A outer s H vs Q E hr h => ?_)
  · obtain ⟨B, ρ, m, ss, h1, h2, h3, h4⟩ := h
    rw [h2.length, h3]
  · obtain ⟨B, ρ, m, ss, h1, h2, h3, h4⟩ := h
    obtain ⟨t, p, kk⟩ := hb cdv A outer s H E hr
    refine ⟨t, p, kk _ _ (ss.map some ++ List.replicate (N.length - ss.length) none) B ρ m H h1 ?_ ?_⟩
    · unfold L2.start
      rw [h2.length]
      exact h2.start _
    · have tr : ∀ {B' : Hp} {ρ' : Rho} {H' : Hp} {m' : Mem}, Ste B ρ H B' ρ' H' → Sim K B' ρ' m' H' → Sim K B' ρ (m'.take m.length) H' := fun {B' ρ' H' m'} t s => by
        obtain ⟨more, e⟩ := t.rr
        subst e
        rw [← h1.len]
        exact s.trunc
      unfold fnM at h4
      cases q : g (ss.map some ++ List.replicate (N.length - ss.length) none) m with
      | ok fl m' =>
        rw [q] at h4
        cases fl with
        | rt d => exact fun B' ρ' H' t s v r => h4 B' ρ H' t.trunc (tr t s) v r
        | nx sd => exact fun B' ρ' H' t s σ' _ => h4 B' ρ H' t.trunc (tr t s) .non rfl
        | bk sd => exact h4.elim
        | ct sd => exact h4.elim
      | exc c fs m' =>
        rw [q] at h4
        exact fun B' ρ' H' dx t s e => h4 B' ρ H' dx t.trunc (tr t s) e
      | bad =>
        rw [q] at h4
        exact h4.elim
end
/-- a def of the module, to be called -/
structure Fx (P : Program) (w : World) (K : PySem.W.Frag) (mg : Str → Option Value) (base : Heap) (k : Nat) (x : Str) (ps : List Str) (F : List S → M D) : Prop where
  ok : ∃ fd, FnOk P w K mg base (L2.CX P w) k (He.ga K x) fd ps (spF K ps.length F) ∧ Binds K fd ps [] ∧ ∃ oc od osl, K.lookup (He.ga K x) = some ⟨oc, od, .func fd, osl⟩
  mgx : mg x = some (.ref (He.ga K x))
  kp : PySem.W.keepIn K (.ref (He.ga K x)) = true
def argN (n : Nat) (F : List S → M D) (ss : List S) : M D := if ss.length = n then F ss else bad
section
variable {X : Cx} {E : XK} {K : PySem.W.Frag} {B : Hp} {ρ : Rho} {m : Mem} {H : Hp} {a b c e : Expr} {es : List Expr} {pos p : Pos} {x : Str} {ga gb : SD → M S} {fa fb : SD → M D} {k j : Nat} {ps : List Str} {F : List S → M D}
theorem se_call {gs : SD → M (List S)} (hF : Fx X.prog X.w X.K X.mg X.base k x ps F) (hr : Room k X.A) (hp : Passes (L2.CX X.prog X.w) X E) (ha : SA X E (e :: es) gs) (hg : Gl X x := by rfl) (hdb : (x == ("__debug__" : Str)) = false := by decide)
    (he : starEach (e :: es) X.env = (false, eval e X.env) :: starEach es X.env := by rfl) (hpl : (backTo pos (starEach es X.env)).any (·.1) = false := by rfl) :
    SE X E (.Call (.Name x p) (e :: es) [] pos) (fun sd => M.bind (gs sd) fun ss => argN ps.length F ss) := by
  obtain ⟨t, pa, ka⟩ := ha
  obtain ⟨fd, ok, bi, _⟩ := hF.ok
  refine ⟨_, pe_call ok hr hg hF.mgx hF.kp bi .nil hp pa hdb he hpl, fun σ sd B ρ m H Q s rl w => ka σ sd B ρ m H _ s rl ?_⟩
  refine Wt.bind' (r := gs sd m) w fun ss B1 ρ1 m1 H1 t1 s1 w1 vs r => ?_
  have w2 : Wt X.K B1 ρ1 H1 E (PD X.K Q) ((if ss.length = ps.length then F ss else bad : M D) m1) := w1
  split at w2
  · rename_i hl
    exact ⟨B1, ρ1, m1, ss, s1, by rw [List.append_nil]; exact r, hl, w2⟩
  · exact w2.elim
theorem se_call0 (hF : Fx X.prog X.w X.K X.mg X.base k x [] F) (hr : Room k X.A) (hp : Passes (L2.CX X.prog X.w) X E) (hg : Gl X x := by rfl) (hdb : (x == ("__debug__" : Str)) = false := by decide) :
    SE X E (.Call (.Name x p) [] [] pos) (fun _ => F []) := by
  obtain ⟨fd, ok, bi, _⟩ := hF.ok
  exact ⟨_, pe_call0 ok hr hg hF.mgx hF.kp bi .nil hp hdb, fun σ sd B ρ m H Q s rl w => ⟨B, ρ, m, [], s, rfl, rfl, w⟩⟩
/-- a new list, that may change from now on -/
theorem sx_new {gl : SD → M (List D)} (h : SF X E e gl) : SX X E e (fun sd => M.bind (gl sd) fun ds => pushL ds) := by
  obtain ⟨t, p, k⟩ := h
  refine ⟨t, p, fun σ sd B ρ m H Q s rl w => k σ sd B ρ m H _ s rl ?_⟩
  refine Wt.bindO (r := gl sd m) w fun ds B1 ρ1 m1 H1 t1 s1 w1 p xs h0 hb ho hp r => ?_
  have s2 : Sim X.K B1 (ρ1 ++ [(p, [])]) (m1 ++ [.lst ds]) H1 := s1.push (fun a z => by
    rcases z with z | z
    · rw [z]; exact ho
    · cases z) ⟨hb, rfl, xs, hp, r⟩
  refine Wt.ok' w1 (t1.moves h0) s2 _ ⟨(p, []), ?_, rfl⟩
  rw [← s1.len]
  simp
/-- x, y = a, b: plain locals -/
theorem ss_par {i j : Nat} {x y : Str} {px py pt : Pos} {kt k2 pt2} (hc : X.calm = true) (hN : X.N.Nodup) (ha : SX X E a ga) (hb : SX X E b gb) (hw : swappedStores [.Tuple [.Name x px, .Name y py] kt pt] (.Tuple [a, b] k2 pt2) X.env = pure (some [x, y]))
    (hi : X.N[i]? = some x := by rfl) (hj : X.N[j]? = some y := by rfl) (hij : i ≠ j := by decide) (hx : X.env.scope.names.lookup x = some .local := by rfl) (hy : X.env.scope.names.lookup y = some .local := by rfl)
    (hs : swapsWithSole [.Tuple [.Name x px, .Name y py] kt pt] (.Tuple [a, b] k2 pt2) pos.line X.env = pure false := by rfl)
    (he : starEach [a, b] X.env = (false, eval a X.env) :: starEach [b] X.env := by rfl) (he2 : starEach [b] X.env = (false, eval b X.env) :: starEach [] X.env := by rfl) :
    SS X E (.Assign [.Tuple [.Name x px, .Name y py] kt pt] (.Tuple [a, b] k2 pt2) pos) (fun sd => M.bind (ga sd) fun s1 => M.bind (gb sd) fun s2 => M.pure (.nx ((sd.set i (some s1)).set j (some s2)))) := by
  obtain ⟨ta, pa, ka⟩ := ha
  obtain ⟨tb, pb, kb⟩ := hb
  refine ⟨_, ps_par hc hN hi hj hij hx hy (pa_cons pa (pa_cons pb pa_nil he2) he) hw hs, fun De σ sd B ρ m H s rl w => ka σ sd B ρ m H _ s rl ?_⟩
  refine Wt.bind' (r := ga sd m) w fun d B1 ρ1 m1 H1 t1 s1 w1 v r => kb σ sd B1 ρ1 m1 H1 _ s1 (rl.ste t1) ?_
  refine Wt.bind' (r := gb sd m1) w1 fun d2 B2 ρ2 m2 H2 t2 s2 w2 v2 r2 => ⟨v, v2, rfl, ?_⟩
  exact Wt.ok (E := E) (m := m2) w2 s2 _ ((((rl.ste t1).ste t2).set i (r.ste t2)).set j r2)
def getI (i : Nat) (sd : SD) : M D := match sd[i]? with
  | some (some (.d x)) => M.pure x
  | _ => bad
/-- x op= e, whole numbers -/
def augI (f : Int → Int → Int) : D → D → M D
  | .int i, .int j => M.pure (.int (f i j))
  | _, _ => bad
theorem ss_augI {i : Nat} {op : Operator} {f : Int → Int → Int} {px : Pos} (hN : X.N.Nodup) (ho : PIp X op (ipI f)) (he : SE X E e fa) (hi : X.N[i]? = some x := by rfl) (hx : Loc X.env.scope x := by first | exact Or.inl rfl | exact Or.inr rfl) (hf : X.fn x = true ∨ X.env.scope.names.lookup x = some .local := by first | exact .inl rfl | exact .inr rfl | assumption) :
    SS X E (.AugAssign (.Name x px) op e pos) (fun sd => M.bind (getI i sd) fun x => M.bind (fa sd) fun y => M.bind (augI f x y) fun z => M.pure (.nx (sd.set i (some (.d z))))) := by
  obtain ⟨t, p, k⟩ := he
  refine ⟨_, ps_aug hN hi hx p ho hf, fun De σ sd B ρ m H s rl w => ?_⟩
  cases q : sd[i]? with
  | none =>
    have w2 : Wt X.K B ρ H E (PFf X.K De) (((getI i sd) m).bind fun x => M.bind (fa sd) fun y => M.bind (augI f x y) fun z => M.pure (.nx (sd.set i (some (.d z))))) := w
    unfold getI at w2
    rw [q] at w2
    exact w2.elim
  | some o =>
    have w2 : Wt X.K B ρ H E (PFf X.K De) (((getI i sd) m).bind fun x => M.bind (fa sd) fun y => M.bind (augI f x y) fun z => M.pure (.nx (sd.set i (some (.d z))))) := w
    unfold getI at w2
    rw [q] at w2
    cases o with
    | none => exact w2.elim
    | some s' =>
      obtain ⟨v, h1, h2⟩ := rl.2 i s' q
      refine ⟨v, h1, ?_⟩
      cases s' with
      | h n => exact w2.elim
      | d x =>
        refine k σ sd B ρ m H _ s rl ?_
        refine Wt.bind' (r := fa sd m) w2 fun d B1 ρ1 m1 H1 t1 s1 w1 y ry => ?_
        cases x with
        | int a =>
          cases d with
          | int b => exact ⟨a, b, h2, ry, Wt.ok (E := E) (m := m1) w1 s1 _ ((rl.ste t1).set i rfl)⟩
          | _ => exact w1.elim
        | _ => cases d <;> exact w1.elim
/-! ### raise -/
/-- an error of the module without an attribute -/
structure Ex0 (K : PySem.W.Frag) (mg : Str → Option Value) (x : Str) : Prop where
  gC : mg x = some (.ref (He.ga K x))
  ok : PySem.W.excIn K (He.ga K x) He.veBase "ValueError.__new__" = true
  kC : PySem.W.keepIn K (.ref (He.ga K x)) = true
  sub : PySem.W.subIn K (.ref (He.ga K x)) (.type "BaseException") = some true
  ty : PySem.W.typeIn K (.ref (He.ga K x)) = some (.type "type")
theorem ss_raise0 {msg : Str} {jj : Nat} {p2 rp : Pos} (hc : X.calm = true) (tk : Takes X (fun c d _ H => E c d H)) (e0 : Ex0 X.K X.mg x) (hg : Gl X x := by rfl) (hdb : (x == ("__debug__" : Str)) = false := by decide) :
    SS X E (.Raise (some (.Call (.Name x p) [.Constant (.str msg) jj p2] [] pos)) none rp) (fun _ => raise x []) := by
  refine ⟨_, ps_raise hc tk (pmk_own PySem.F.excBase_ValueError e0.ok e0.gC e0.kC (raises_own e0.sub e0.ty) hg hdb), fun De σ sd B ρ m H s rl w => ?_⟩
  exact w B ρ H none (Ste.refl _ _ _) s (.inl ⟨rfl, rfl⟩)
end
end Mi
set_option maxRecDepth 100000
set_option maxHeartbeats 4000000
/-! The layer Mi. Part 9: comparisons as tests; short words for the functions. -/
namespace Mi
open PySem PySem.Spec PyProof.Rows L2
section
variable {X : Cx} {E : XK} {K : PySem.W.Frag} {B : Hp} {ρ : Rho} {m : Mem} {H : Hp} {a b c e : Expr} {es : List Expr} {pos p : Pos} {x : Str} {ga gb : SD → M S} {fa fb fc : SD → M D}
theorem st_cmpR {op : CmpOp} {r : R2} {f : D → D → M D} (ho : OpR X (compareOp op) r) (hd : OpD X E r f) (ha : SE X E a fa) (hb : SE X E b fb) (hm : behindInMarks op b = false) :
    ST X E (.Compare a [op] [b] pos) (fun sd => M.bind (fa sd) fun x => M.bind (fb sd) fun y => M.bind (f x y) asB) := by
  obtain ⟨ta, pa, ka⟩ := ha
  obtain ⟨tb, pb, kb⟩ := hb
  refine ⟨_, pt_cmpR ho pa pb hm, fun σ sd B ρ m H Q s rl w => ka σ sd B ρ m H _ s rl ?_⟩
  refine Wt.bind' (r := fa sd m) w fun dx B1 ρ1 m1 H1 t1 s1 w1 x rx => kb σ sd B1 ρ1 m1 H1 _ s1 (rl.ste t1) ?_
  refine Wt.bind' (r := fb sd m1) w1 fun dy B2 ρ2 m2 H2 t2 s2 w2 y ry => hd x y dx dy B2 ρ2 m2 H2 _ s2 (rx.mono t2.bb) ry ?_
  refine Wt.bind' (r := f dx dy m2) w2 fun d B3 ρ3 m3 H3 t3 s3 w3 v r => ?_
  cases d with
  | bl z => exact ⟨z, r, Wt.ok (E := E) (m := m3) w3 s3⟩
  | _ => exact w3.elim
theorem st_cmpRS {op : CmpOp} {r : R2} {f : D → S → M D} (ho : OpR X (compareOp op) r) (hd : OpS X E r f) (ha : SE X E a fa) (hb : SX X E b gb) (hm : behindInMarks op b = false) :
    ST X E (.Compare a [op] [b] pos) (fun sd => M.bind (fa sd) fun x => M.bind (gb sd) fun y => M.bind (f x y) asB) := by
  obtain ⟨ta, pa, ka⟩ := ha
  obtain ⟨tb, pb, kb⟩ := hb
  refine ⟨_, pt_cmpR ho pa pb hm, fun σ sd B ρ m H Q s rl w => ka σ sd B ρ m H _ s rl ?_⟩
  refine Wt.bind' (r := fa sd m) w fun dx B1 ρ1 m1 H1 t1 s1 w1 x rx => kb σ sd B1 ρ1 m1 H1 _ s1 (rl.ste t1) ?_
  refine Wt.bind' (r := gb sd m1) w1 fun dy B2 ρ2 m2 H2 t2 s2 w2 y ry => hd x y dx dy B2 ρ2 m2 H2 _ s2 (rx.mono t2.bb) ry ?_
  refine Wt.bind' (r := f dx dy m2) w2 fun d B3 ρ3 m3 H3 t3 s3 w3 v r => ?_
  cases d with
  | bl z => exact ⟨z, r, Wt.ok (E := E) (m := m3) w3 s3⟩
  | _ => exact w3.elim
abbrev ltD := cmpI fun i j => decide (i < j)
abbrev leD := cmpI fun i j => decide (i ≤ j)
abbrev gtD := cmpI fun i j => decide (j < i)
abbrev geD := cmpI fun i j => decide (j ≤ i)
theorem st_lt (ha : SE X E a fa) (hb : SE X E b fb) : ST X E (.Compare a [.Lt] [b] pos) (fun sd => M.bind (fa sd) fun x => M.bind (fb sd) fun y => M.bind (ltD x y) asB) := st_cmpR op_lt cmpI_ok ha hb (nomark _)
theorem st_le (ha : SE X E a fa) (hb : SE X E b fb) : ST X E (.Compare a [.LtE] [b] pos) (fun sd => M.bind (fa sd) fun x => M.bind (fb sd) fun y => M.bind (leD x y) asB) := st_cmpR op_le cmpI_ok ha hb (nomark _)
theorem st_gt (ha : SE X E a fa) (hb : SE X E b fb) : ST X E (.Compare a [.Gt] [b] pos) (fun sd => M.bind (fa sd) fun x => M.bind (fb sd) fun y => M.bind (gtD x y) asB) := st_cmpR op_gt cmpI_ok ha hb (nomark _)
theorem st_ge (ha : SE X E a fa) (hb : SE X E b fb) : ST X E (.Compare a [.GtE] [b] pos) (fun sd => M.bind (fa sd) fun x => M.bind (fb sd) fun y => M.bind (geD x y) asB) := st_cmpR op_ge cmpI_ok ha hb (nomark _)
theorem st_eq (hu : X.A.units + 64 < cLine) (ha : SE X E a fa) (hb : SE X E b fb) : ST X E (.Compare a [.Eq] [b] pos) (fun sd => M.bind (fa sd) fun x => M.bind (fb sd) fun y => M.bind (eqD x y) asB) := st_cmpR (op_eqD hu) eqD_ok ha hb (nomark _)
theorem st_ne (hu : X.A.units + 64 < cLine) (ha : SE X E a fa) (hb : SE X E b fb) : ST X E (.Compare a [.NotEq] [b] pos) (fun sd => M.bind (fa sd) fun x => M.bind (fb sd) fun y => M.bind (neD x y) asB) := st_cmpR (op_neD hu) neD_ok ha hb (nomark _)
theorem st_is (ha : SE X E a fa) (hb : SE X E b fb) : ST X E (.Compare a [.Is] [b] pos) (fun sd => M.bind (fa sd) fun x => M.bind (fb sd) fun y => M.bind (isD x y) asB) := st_cmpR (OpR.or op_isN op_isBl) isD_ok ha hb (nomark _)
theorem st_isnot (ha : SE X E a fa) (hb : SE X E b fb) : ST X E (.Compare a [.IsNot] [b] pos) (fun sd => M.bind (fa sd) fun x => M.bind (fb sd) fun y => M.bind (isNotD x y) asB) := st_cmpR (OpR.or op_notN op_notBl) isNotD_ok ha hb (nomark _)
theorem st_in (ha : SE X E a fa) (hb : SX X E b gb) (hm : behindInMarks .In b = false := by rfl) : ST X E (.Compare a [.In] [b] pos) (fun sd => M.bind (fa sd) fun x => M.bind (gb sd) fun y => M.bind (inS false x y) asB) := st_cmpRS op_in_seq inS_ok ha hb hm
theorem st_notin (ha : SE X E a fa) (hb : SX X E b gb) (hm : behindInMarks .NotIn b = false := by rfl) : ST X E (.Compare a [.NotIn] [b] pos) (fun sd => M.bind (fa sd) fun x => M.bind (gb sd) fun y => M.bind (inS true x y) asB) := st_cmpRS op_notIn_seq inS_ok ha hb hm
def chainM (p q : Int → Int → Bool) (fa fb fc : SD → M D) : SD → M D := fun sd => M.bind (fa sd) fun x => M.bind (fb sd) fun y => M.bind (asI x) fun i => M.bind (asI y) fun j => if p i j = true then M.bind (fc sd) fun z => cmpI q (.int j) z else M.pure (.bl false)
theorem st_chain {op op' : CmpOp} {p q : Int → Int → Bool} (ho : OpR X (compareOp op) (rI0 fun i j => .bl (p i j))) (ho' : OpR X (compareOp op') (rI0 fun i j => .bl (q i j))) (ha : SE X E a fa) (hb : SE X E b fb) (hc : SE X E c fc)
    (hm : lastMarks [op, op'] [b, c] = false := by with_unfolding_all rfl) :
    ST X E (.Compare a [op, op'] [b, c] pos) (fun sd => M.bind (chainM p q fa fb fc sd) asB) := by
  obtain ⟨ta, pa, ka⟩ := ha
  obtain ⟨tb, pb, kb⟩ := hb
  obtain ⟨tc, pc, kc⟩ := hc
  refine ⟨_, pt_chain ho ho' pa pb pc hm, fun σ sd B ρ m H Q s rl w => ka σ sd B ρ m H _ s rl ?_⟩
  have w0 : Wt X.K B ρ H E (PBl Q) ((fa sd m).bind fun x => M.bind (M.bind (fb sd) fun y => M.bind (asI x) fun i => M.bind (asI y) fun j => if p i j = true then M.bind (fc sd) fun z => cmpI q (.int j) z else M.pure (.bl false)) asB) := by
    have e : (M.bind (chainM p q fa fb fc sd) asB) m = (fa sd m).bind fun x => M.bind (M.bind (fb sd) fun y => M.bind (asI x) fun i => M.bind (asI y) fun j => if p i j = true then M.bind (fc sd) fun z => cmpI q (.int j) z else M.pure (.bl false)) asB := by
      show ((fa sd m).bind _).bind asB = _
      cases fa sd m <;> rfl
    exact e ▸ w
  refine Wt.bind' (r := fa sd m) w0 fun dx B1 ρ1 m1 H1 t1 s1 w1 x rx => kb σ sd B1 ρ1 m1 H1 _ s1 (rl.ste t1) ?_
  have w1' : Wt X.K B1 ρ1 H1 E (PBl Q) ((fb sd m1).bind fun y => M.bind (M.bind (asI dx) fun i => M.bind (asI y) fun j => if p i j = true then M.bind (fc sd) fun z => cmpI q (.int j) z else M.pure (.bl false)) asB) := by
    have e : (M.bind (M.bind (fb sd) fun y => M.bind (asI dx) fun i => M.bind (asI y) fun j => if p i j = true then M.bind (fc sd) fun z => cmpI q (.int j) z else M.pure (.bl false)) asB) m1 = (fb sd m1).bind fun y => M.bind (M.bind (asI dx) fun i => M.bind (asI y) fun j => if p i j = true then M.bind (fc sd) fun z => cmpI q (.int j) z else M.pure (.bl false)) asB := by
      show ((fb sd m1).bind _).bind asB = _
      cases fb sd m1 <;> rfl
    exact e ▸ w1
  refine Wt.bind' (r := fb sd m1) w1' fun dy B2 ρ2 m2 H2 t2 s2 w2 y ry => ?_
  cases dx with
  | int i =>
    cases dy with
    | int j =>
      refine ⟨i, j, rx, ry, p i j, rfl, ?_⟩
      have w3 : Wt X.K B2 ρ2 H2 E (PBl Q) ((M.bind (if p i j = true then M.bind (fc sd) fun z => cmpI q (.int j) z else M.pure (.bl false) : M D) asB) m2) := w2
      by_cases hp : p i j = true
      · rw [if_pos hp] at w3 ⊢
        have w4 : Wt X.K B2 ρ2 H2 E (PBl Q) ((fc sd m2).bind fun z => M.bind (cmpI q (.int j) z) asB) := by
          have e : (M.bind (M.bind (fc sd) fun z => cmpI q (.int j) z) asB) m2 = (fc sd m2).bind fun z => M.bind (cmpI q (.int j) z) asB := by
            show ((fc sd m2).bind _).bind asB = _
            cases fc sd m2 <;> rfl
          exact e ▸ w3
        refine kc σ sd B2 ρ2 m2 H2 _ s2 ((rl.ste t1).ste t2) ?_
        refine Wt.bind' (r := fc sd m2) w4 fun dz B3 ρ3 m3 H3 t3 s3 w5 z rz => cmpI_ok (E := E) y z (.int j) dz B3 ρ3 m3 H3 _ s3 ry rz ?_
        refine Wt.bind' (r := cmpI q (.int j) dz m3) w5 fun d B4 ρ4 m4 H4 t4 s4 w6 v r => ?_
        cases d with
        | bl z => exact ⟨z, r, Wt.ok (E := E) (m := m4) w6 s4⟩
        | _ => exact w6.elim
      · rw [if_neg hp] at w3 ⊢
        exact ⟨false, by simp [hp], Wt.ok (E := E) (m := m2) w3 s2⟩
    | _ => exact w2.elim
  | _ => exact w2.elim
end
/-! ### the functions in short -/
abbrev kD (d : D) : SD → M D := fun _ => M.pure d
abbrev u1 {α β : Type} (f : α → M β) (fa : SD → M α) : SD → M β := fun sd => M.bind (fa sd) f
abbrev u2 {α β γ : Type} (f : α → β → M γ) (fa : SD → M α) (fb : SD → M β) : SD → M γ := fun sd => M.bind (fa sd) fun x => M.bind (fb sd) fun y => f x y
abbrev tst (f : SD → M D) : SD → M Bool := fun sd => M.bind (f sd) asB
abbrev c2 (f : D → D → M D) (fa fb : SD → M D) : SD → M Bool := fun sd => M.bind (fa sd) fun x => M.bind (fb sd) fun y => M.bind (f x y) asB
abbrev c2S (f : D → S → M D) (fa : SD → M D) (fb : SD → M S) : SD → M Bool := fun sd => M.bind (fa sd) fun x => M.bind (fb sd) fun y => M.bind (f x y) asB
abbrev notB (ga : SD → M Bool) : SD → M Bool := fun sd => M.bind (ga sd) fun b => M.pure (!b)
abbrev andB (ga gb : SD → M Bool) : SD → M Bool := fun sd => M.bind (ga sd) fun c => if c = true then gb sd else M.pure false
abbrev orB (ga gb : SD → M Bool) : SD → M Bool := fun sd => M.bind (ga sd) fun c => if c = true then M.pure true else gb sd
abbrev andV (fa fb : SD → M D) : SD → M D := fun sd => M.bind (fa sd) fun x => M.bind (asB x) fun c => if c = true then fb sd else M.pure (.bl false)
abbrev orV (fa fb : SD → M D) : SD → M D := fun sd => M.bind (fa sd) fun x => M.bind (asB x) fun c => if c = true then M.pure (.bl true) else fb sd
abbrev notV (fa : SD → M D) : SD → M D := fun sd => M.bind (fa sd) fun x => M.bind (asB x) fun c => M.pure (.bl (!c))
abbrev negV (fa : SD → M D) : SD → M D := fun sd => M.bind (fa sd) fun x => M.bind (asI x) fun i => M.pure (.int (-i))
abbrev ifV {α : Type} (ga : SD → M Bool) (fa fb : SD → M α) : SD → M α := fun sd => M.bind (ga sd) fun z => if z = true then fa sd else fb sd
abbrev nilV {α : Type} : SD → M (List α) := fun _ => M.pure []
abbrev consV {α : Type} (fa : SD → M α) (fs : SD → M (List α)) : SD → M (List α) := fun sd => M.bind (fa sd) fun x => M.bind (fs sd) fun xs => M.pure (x :: xs)
abbrev tupV (fs : SD → M (List D)) : SD → M D := fun sd => M.bind (fs sd) fun ds => fitL ds (M.pure (.tup ds))
abbrev lstV (fs : SD → M (List D)) : SD → M (List D) := fun sd => M.bind (fs sd) fun ds => fitL ds (M.pure ds)
abbrev ofL (fs : SD → M (List D)) : SD → M D := fun sd => M.bind (fs sd) fun ds => M.pure (.lst ds)
abbrev ofD (fs : SD → M D) : SD → M S := fun sd => M.bind (fs sd) fun d => M.pure (.d d)
abbrev newV (fs : SD → M (List D)) : SD → M S := fun sd => M.bind (fs sd) fun ds => pushL ds
abbrev lm1 (f : S → D → M D) (ga : SD → M S) (fb : SD → M D) : SD → M D := fun sd => M.bind (ga sd) fun s => M.bind (isL s) fun _ => M.bind (fb sd) fun d => f s d
abbrev lm0 (f : S → M D) (ga : SD → M S) : SD → M D := fun sd => M.bind (ga sd) fun s => M.bind (isL s) fun _ => f s
abbrev idxV (ga : SD → M S) (fb : SD → M D) : SD → M D := fun sd => M.bind (ga sd) fun s => M.bind (isList s) fun _ => M.bind (fb sd) fun d => indexS s d
abbrev noI : SD → M (Option Int) := fun _ => M.pure none
abbrev someI (fa : SD → M D) : SD → M (Option Int) := fun sd => M.bind (fa sd) fun d => M.bind (asI d) fun i => M.pure (some i)
abbrev cutM (ga : SD → M S) (go gh : SD → M (Option Int)) : SD → M (List D) := fun sd => M.bind (ga sd) fun s => M.bind (go sd) fun l => M.bind (gh sd) fun h => onList (fun ds => M.pure (cutD ds l h)) s
abbrev callM (n : Nat) (F : List S → M D) (gs : SD → M (List S)) : SD → M D := fun sd => M.bind (gs sd) fun ss => argN n F ss
abbrev lcM (vs : List Nat) (fi : SD → M (List D)) (gt : D → SD → M SD) (gc : SD → M Bool) (ge : SD → M D) : SD → M (List D) := fun sd => M.bind (fi sd) fun ds => nox (compM vs gt gc ge sd [] ds)
abbrev seqI (fa : SD → M D) : SD → M (List D) := fun sd => M.bind (fa sd) itemsD
abbrev enumI (fa : SD → M D) : SD → M (List D) := fun sd => M.bind (fa sd) fun x => M.bind (asL x) fun ds => M.pure (enumL ds)
abbrev zipI (fa fb : SD → M D) : SD → M (List D) := fun sd => M.bind (fa sd) fun x => M.bind (fb sd) fun y => M.bind (asL x) fun ds => M.bind (asL y) fun es => M.pure (zipL ds es)
abbrev yes : SD → M Bool := fun _ => M.pure true
abbrev tgN (i : Nat) : D → SD → M SD := fun d sd => M.pure (sd.set i (some (.d d)))
abbrev tg0 : List D → SD → M SD := fun _ sd => M.pure sd
abbrev tgC (g1 : D → SD → M SD) (g2 : List D → SD → M SD) : List D → SD → M SD := fun ds sd => M.bind (g1 (ds.headD .non) sd) fun sd1 => g2 ds.tail sd1
def tgT (n : Nat) (g : List D → SD → M SD) : D → SD → M SD := fun d sd => match d with | .tup ds => if ds.length = n then g ds sd else bad | _ => bad
abbrev tgS (ga : SD → M S) (fb : SD → M D) : D → SD → M SD := fun d sd => M.bind (ga sd) fun s => M.bind (fb sd) fun i => M.bind (setS s i d) fun _ => M.pure sd
abbrev nxV : SD → M Fl := fun sd => M.pure (.nx sd)
abbrev retV (fe : SD → M D) : SD → M Fl := fun sd => M.bind (fe sd) fun d => M.pure (.rt d)
abbrev retN : SD → M Fl := fun _ => M.pure (.rt .non)
abbrev dropV (fe : SD → M D) : SD → M Fl := fun sd => M.bind (fe sd) fun _ => M.pure (.nx sd)
abbrev setV (i : Nat) (fe : SD → M D) : SD → M Fl := fun sd => M.bind (fe sd) fun d => M.pure (.nx (sd.set i (some (.d d))))
abbrev setX (i : Nat) (gx : SD → M S) : SD → M Fl := fun sd => M.bind (gx sd) fun d => M.pure (.nx (sd.set i (some d)))
abbrev parV (i j : Nat) (ga gb : SD → M S) : SD → M Fl := fun sd => M.bind (ga sd) fun s1 => M.bind (gb sd) fun s2 => M.pure (.nx ((sd.set i (some s1)).set j (some s2)))
abbrev asgV (fa : SD → M D) (gt : D → SD → M SD) : SD → M Fl := fun sd => M.bind (fa sd) fun d => M.bind (gt d sd) fun sd2 => M.pure (.nx sd2)
abbrev augV (i : Nat) (f : Int → Int → Int) (fa : SD → M D) : SD → M Fl := fun sd => M.bind (getI i sd) fun x => M.bind (fa sd) fun y => M.bind (augI f x y) fun z => M.pure (.nx (sd.set i (some (.d z))))
abbrev forV (fi : SD → M (List D)) (gt : D → SD → M SD) (gb : SD → M Fl) : SD → M Fl := fun sd => M.bind (fi sd) fun ds => forM gt gb ds sd
abbrev setLV (i : Nat) (fs : SD → M (List D)) : SD → M Fl := fun sd => M.bind (fs sd) fun ds => M.pure (.nx (sd.set i (some (.d (.lst ds)))))
abbrev setLX (i : Nat) (fs : SD → M (List D)) : SD → M Fl := fun sd => M.bind (fs sd) fun ds => M.bind (pushL ds) fun s => M.pure (.nx (sd.set i (some s)))
abbrev raiseV (c : Str) : SD → M Fl := fun _ => raise c []
theorem sg_tupT {X : Cx} {E : XK} {pos : Pos} {js : List Nat} {es : List Expr} {k n : Nat} {g : List D → SD → M SD} (hc : X.calm = true) (h : SGs X E js es n g) (hn : (assignEach es X.env).length = n := by rfl) (hst : (assignEach es X.env).findIdx? (·.1) = none := by rfl) :
    SG X E js (.Tuple es k pos) (tgT n g) := sg_tup hc h hn hst
end Mi
set_option maxRecDepth 100000
set_option maxHeartbeats 4000000
/-! The layer Mi. Part 10: the draws. -/
namespace Mi
open PySem PySem.Spec PyProof.Rows L2
section
variable {K : PySem.W.Frag} {B : Hp} {ρ : Rho} {m : Mem} {H : Hp}
theorem drw_at {v : V} {n : Nat} {la : List Int} {re : Int} {ce : List Int} {tu : Int} (hs : Sim K B ρ m H) (r : RepS K B ρ (.h n) v) (q : m[n]? = some (.drw la re ce tu)) :
    ∃ p l c, ρ[n]? = some p ∧ v = .ref p.1 ∧ B p.1 = none ∧ p.2 = [l] ∧ B l = none ∧ p.1 ≠ l ∧ H p.1 = some (.dK (kDraw l c re tu)) ∧ H l = some (.lst (la.map V.int)) ∧ B c = some (.lst (ce.map V.int)) := by
  obtain ⟨p, h1, rfl⟩ := r
  obtain ⟨o, h2, h3⟩ := hs.at_ h1
  rw [q] at h2
  cases h2
  obtain ⟨b1, l, c, b2, b3, b4, b5, b6, b7⟩ := h3
  exact ⟨p, l, c, h1, rfl, b1, b2, b3, b4, b5, b6, b7⟩
theorem val_large {l c : Addr} {re tu : Int} : valV (kDraw l c re tu) (.inr "large") = some (.ref l) := rfl
theorem val_rest {l c : Addr} {re tu : Int} : valV (kDraw l c re tu) (.inr "rest") = some (.int re) := rfl
theorem val_cells {l c : Addr} {re tu : Int} : valV (kDraw l c re tu) (.inr "cells") = some (.ref c) := rfl
theorem val_turn {l c : Addr} {re tu : Int} : valV (kDraw l c re tu) (.inr "turn") = some (.int tu) := rfl
theorem put_rest {l c : Addr} {re tu i : Int} : putK (kDraw l c re tu) (.inr "rest") (.int i) = kDraw l c i tu := rfl
theorem put_turn {l c : Addr} {re tu i : Int} : putK (kDraw l c re tu) (.inr "turn") (.int i) = kDraw l c re i := rfl
end
theorem lt64 {n : Nat} (h : n + 64 < cLine) : n + 1 < cLine := by omega
theorem toPL_ints : ∀ la : List Int, PyData.canLayAll0 (toPL (la.map .int)) = true ∧ PyData.depthAll (toPL (la.map .int)) ≤ 1
  | [] => ⟨rfl, by simp [toPL, PyData.depthAll]⟩
  | x :: la => by
    obtain ⟨h1, h2⟩ := toPL_ints la
    refine ⟨?_, ?_⟩
    · show (PyData.canLay0 (.int x) && PyData.canLayAll0 (toPL (la.map .int))) = true
      rw [h1]
      rfl
    · show PyData.depthAll (.int x :: toPL (la.map .int)) ≤ 1
      simp only [PyData.depthAll, PyData.depth]
      omega
theorem plain_ints (la : List Int) : plain (.lst (la.map .int)) = true := by
  obtain ⟨h1, h2⟩ := toPL_ints la
  unfold plain SeqAt.shaped
  refine Bool.and_eq_true_iff.mpr ⟨h1, decide_eq_true ?_⟩
  show PyData.depth (.list (toPL (la.map .int))) ≤ 64
  simp only [PyData.depth]
  omega
/-- what the draws hold at a key -/
def drwK (k : Str) : S → M D
  | .h n => fun m => match m[n]? with
    | some (.drw _ re ce tu) => if k = "rest" then .ok (.int re) m else if k = "turn" then .ok (.int tu) m else if k = "cells" then .ok (.lst (ce.map .int)) m else .bad
    | _ => .bad
  | _ => bad
def drwPut (k : Str) : S → D → M Unit
  | .h n, .int i => fun m => match m[n]? with
    | some (.drw la re ce tu) => if k = "rest" then .ok () (m.set n (.drw la i ce tu)) else if k = "turn" then .ok () (m.set n (.drw la re ce i)) else .bad
    | _ => .bad
  | _, _ => bad
def drwPop : S → M D
  | .h n => fun m => match m[n]? with
    | some (.drw (x :: la) re ce tu) => .ok (.int x) (m.set n (.drw la re ce tu))
    | _ => .bad
  | _ => bad
def drwLa : S → M Bool
  | .h n => fun m => match m[n]? with
    | some (.drw la re ce tu) => .ok (!la.isEmpty) m
    | _ => .bad
  | _ => bad
abbrev dputV (k : Str) (fe : SD → M D) (ga : SD → M S) : SD → M Fl := fun sd => M.bind (fe sd) fun d => M.bind (ga sd) fun s => M.bind (drwPut k s d) fun _ => M.pure (.nx sd)
section
variable {X : Cx} {E : XK} {K : PySem.W.Frag} {B : Hp} {ρ : Rho} {m : Mem} {H : Hp} {a b c e : Expr} {es : List Expr} {pos p p2 p3 p4 : Pos} {x k : Str} {ga gb : SD → M S} {fa fb fe : SD → M D}
theorem se_drwK {j} (hu : X.A.units + 1 < cLine) (ha : SX X E a ga) : SE X E (.Subscript a (.Constant (.str k) j p2) pos) (fun sd => M.bind (ga sd) (drwK k)) := by
  obtain ⟨t, pa, ka⟩ := ha
  refine ⟨_, pe_dget hu pa pe_str (fun _ _ => rfl), fun σ sd B ρ m H Q s rl w => ka σ sd B ρ m H _ s rl ?_⟩
  refine Wt.bind' (r := ga sd m) w fun d B1 ρ1 m1 H1 t1 s1 w1 v r => ?_
  cases d with
  | d x => exact w1.elim
  | h n =>
    have w2 : Wt X.K B1 ρ1 H1 E (PD X.K Q) (match m1[n]? with
      | some (.drw _ re ce tu) => if k = "rest" then .ok (.int re) m1 else if k = "turn" then .ok (.int tu) m1 else if k = "cells" then .ok (.lst (ce.map .int)) m1 else .bad
      | _ => .bad) := w1
    cases q : m1[n]? with
    | none => rw [q] at w2; exact w2.elim
    | some o =>
      rw [q] at w2
      cases o with
      | drw la re ce tu =>
        obtain ⟨p, l, c, h1, rfl, b1, b2, b3, b4, b5, b6, b7⟩ := drw_at s1 r q
        have w3 : Wt X.K B1 ρ1 H1 E (PD X.K Q) (if k = "rest" then .ok (.int re) m1 else if k = "turn" then .ok (.int tu) m1 else if k = "cells" then .ok (.lst (ce.map .int)) m1 else .bad) := w2
        have g := fun (k : Key) => DGet.k (k := k) b5
        split at w3
        · rename_i e
          subst e
          exact ⟨p.1, .int re, rfl, val_rest (l := l) (c := c) (tu := tu) ▸ g (.inr "rest"), Wt.ok (E := E) (m := m1) w3 s1 _ rfl⟩
        · split at w3
          · rename_i e
            subst e
            exact ⟨p.1, .int tu, rfl, val_turn (l := l) (c := c) (re := re) ▸ g (.inr "turn"), Wt.ok (E := E) (m := m1) w3 s1 _ rfl⟩
          · split at w3
            · rename_i e
              subst e
              exact ⟨p.1, .ref c, rfl, val_cells (l := l) (tu := tu) (re := re) ▸ g (.inr "cells"), Wt.ok (E := E) (m := m1) w3 s1 _ ⟨c, _, rfl, b7, RepL.ints ce⟩⟩
            · exact w3.elim
      | _ => exact w2.elim
theorem ss_drwPut {j} (hu : X.A.units + 1 < cLine) (ha : SX X E a ga) (he : SE X E e fe) (hs : swapsWith e (some (.Subscript a (.Constant (.str k) j p2) p3)) pos.line X.env = pure false := by rfl) :
    SS X E (.Assign [.Subscript a (.Constant (.str k) j p2) p3] e pos) (fun sd => M.bind (fe sd) fun d => M.bind (ga sd) fun s => M.bind (drwPut k s d) fun _ => M.pure (.nx sd)) := by
  obtain ⟨t, pa, ka⟩ := ha
  obtain ⟨t2, pe, ke⟩ := he
  refine ⟨_, ps_dput hu pa pe_str pe hs, fun De σ sd B ρ m H s rl w => ke σ sd B ρ m H _ s rl ?_⟩
  refine Wt.bind' (r := fe sd m) w fun d B1 ρ1 m1 H1 t1 s1 w1 v rv => ka σ sd B1 ρ1 m1 H1 _ s1 (rl.ste t1) ?_
  refine Wt.bind' (r := ga sd m1) w1 fun o B2 ρ2 m2 H2 t2 s2 w2 u r => ?_
  cases o with
  | d x => exact w2.elim
  | h n =>
    cases d with
    | int i =>
      have w3 : Wt X.K B2 ρ2 H2 E (PFf X.K De) (Out.bind (match m2[n]? with
        | some (.drw la re ce tu) => if k = "rest" then .ok () (m2.set n (.drw la i ce tu)) else if k = "turn" then .ok () (m2.set n (.drw la re ce i)) else .bad
        | _ => .bad) fun _ => M.pure (.nx sd)) := w2
      cases q : m2[n]? with
      | none => rw [q] at w3; exact w3.elim
      | some o =>
        rw [q] at w3
        cases o with
        | drw la re ce tu =>
          obtain ⟨p, l, c, h1, rfl, b1, b2, b3, b4, b5, b6, b7⟩ := drw_at s2 r q
          have w4 : Wt X.K B2 ρ2 H2 E (PFf X.K De) (Out.bind (if k = "rest" then .ok () (m2.set n (.drw la i ce tu)) else if k = "turn" then .ok () (m2.set n (.drw la re ce i)) else .bad) fun _ => M.pure (.nx sd)) := w3
          have hv : v = .int i := rv
          subst hv
          have fin : ∀ re' tu', Wt X.K B2 ρ2 H2 E (PFf X.K De) (.ok (.nx sd) (m2.set n (.drw la re' ce tu'))) → De.nx σ (upd H2 p.1 (.dK (kDraw l c re' tu'))) := fun re' tu' w => by
            have hne : ∀ a u, ¬ (a = p.1 ∨ a ∈ p.2) → H2 a = some u → upd H2 p.1 (.dK (kDraw l c re' tu')) a = some u := fun a u z e => by
              rw [upd_ne (fun q => z (.inl q))]
              exact e
            refine Wt.ok' w (Ste.write h1 hne) (s2.write h1 (fun a z => ?_) hne ⟨b1, l, c, b2, b3, b4, upd_same, ?_, b7⟩) σ (((rl.ste t1).ste t2).ste (Ste.write h1 hne))
            · rcases z with z | z
              · rw [z]; exact b1
              · rw [b2] at z
                rw [List.mem_singleton.mp z]; exact b3
            · rw [upd_ne (Ne.symm b4)]; exact b6
          split at w4
          · rename_i e
            subst e
            exact ⟨p.1, _, rfl, put_rest (l := l) (c := c) (tu := tu) (re := re) (i := i) ▸ DPut.k (k := .inr "rest") b5 (by rw [sl16]; show 4 < 16777216; decide), fin _ _ w4⟩
          · split at w4
            · rename_i e
              subst e
              exact ⟨p.1, _, rfl, put_turn (l := l) (c := c) (tu := tu) (re := re) (i := i) ▸ DPut.k (k := .inr "turn") b5 (by rw [sl16]; show 4 < 16777216; decide), fin _ _ w4⟩
            · exact w4.elim
        | _ => exact w3.elim
    | _ => exact w2.elim
theorem se_drwPop {j p5} {jj p6} (hu : X.A.units + 1 < cLine) (ha : SX X E a ga) (hbase : attributeBase (.Subscript a (.Constant (.str "large") j p2) p3) "pop" X.env (eval (.Subscript a (.Constant (.str "large") j p2) p3) X.env) = eval (.Subscript a (.Constant (.str "large") j p2) p3) X.env := by rfl)
    (hfew : ((backTo pos (starEach [.Constant (.int 0) jj p6] X.env)).all (fun x => !x.1) && (backToKw pos (keywordEach [] X.env)).all (fun x => x.1.isSome) && decide (([.Constant (.int 0) jj p6] : List Expr).length + ([] : List Keyword).length + (if ([] : List Keyword).isEmpty then 0 else 1) < 30)) = true := by rfl)
    (hline : (p5.endLine == pos.line) = true := by rfl) (he : starEach [.Constant (.int 0) jj p6] X.env = (false, eval (.Constant (.int 0) jj p6) X.env) :: starEach [] X.env := by rfl) (hpl : (backTo pos (starEach [] X.env)).any (·.1) = false := by rfl) :
    SE X E (.Call (.Attribute (.Subscript a (.Constant (.str "large") j p2) p3) "pop" p5) [.Constant (.int 0) jj p6] [] pos) (fun sd => M.bind (ga sd) drwPop) := by
  obtain ⟨t, pa, ka⟩ := ha
  refine ⟨_, pe_bm PySem.F.plainAttrs_list PySem.F.slot_list_pop PySem.F.type_list_pop mt_popAt (pe_dget hu pa pe_str (fun _ _ => rfl)) (pa_cons pe_int pa_nil he) hbase hfew hline he hpl, fun σ sd B ρ m H Q s rl w => ka σ sd B ρ m H _ s rl ?_⟩
  refine Wt.bind' (r := ga sd m) w fun d B1 ρ1 m1 H1 t1 s1 w1 v r => ?_
  cases d with
  | d x => exact w1.elim
  | h n =>
    have w2 : Wt X.K B1 ρ1 H1 E (PD X.K Q) (match m1[n]? with
      | some (.drw (x :: la) re ce tu) => .ok (.int x) (m1.set n (.drw la re ce tu))
      | _ => .bad) := w1
    cases q : m1[n]? with
    | none => rw [q] at w2; exact w2.elim
    | some o =>
      rw [q] at w2
      cases o with
      | drw la re ce tu =>
        cases la with
        | nil => exact w2.elim
        | cons x la =>
          obtain ⟨p, l, c, h1, rfl, b1, b2, b3, b4, b5, b6, b7⟩ := drw_at s1 r q
          have hne : ∀ a u, ¬ (a = p.1 ∨ a ∈ p.2) → H1 a = some u → upd H1 l (.lst (la.map V.int)) a = some u := fun a u z e => by
            rw [upd_ne (fun q => z (.inr (by rw [b2]; simp [q])))]
            exact e
          refine ⟨p.1, .ref l, rfl, val_large (c := c) (re := re) (tu := tu) ▸ DGet.k (k := .inr "large") b5, .inl ⟨rfl, _, SqL.of b6⟩, ?_⟩
          refine ⟨l, _, 0, 0, .int x, rfl, rfl, b6, by decide, by decide, seqIndex_of (by decide) (by simp), by simp, ?_⟩
          refine Wt.ok' w2 (Ste.write h1 hne) (s1.write h1 (fun a z => ?_) hne ⟨b1, l, c, b2, b3, b4, ?_, upd_same, b7⟩) _ rfl
          · rcases z with z | z
            · rw [z]; exact b1
            · rw [b2] at z
              rw [List.mem_singleton.mp z]; exact b3
          · rw [upd_ne b4]; exact b5
      | _ => exact w2.elim
theorem st_drwLa {j} (hu : X.A.units + 64 < cLine) (ha : SX X E a ga) : ST X E (.Compare (.Subscript a (.Constant (.str "large") j p2) p3) [.NotEq] [.List [] p4] pos) (fun sd => M.bind (ga sd) drwLa) := by
  obtain ⟨t, pa, ka⟩ := ha
  obtain ⟨tb, pb, kb⟩ := se_of (X := X) (E := E) (sf_lst (pos := p4) sl_nil)
  refine ⟨_, pt_cmpR (op_neD hu) (pe_dget (by omega) pa pe_str (fun _ _ => rfl)) pb (nomark _), fun σ sd B ρ m H Q s rl w => ka σ sd B ρ m H _ s rl ?_⟩
  refine Wt.bind' (r := ga sd m) w fun d B1 ρ1 m1 H1 t1 s1 w1 v r => ?_
  cases d with
  | d x => exact w1.elim
  | h n =>
    have w2 : Wt X.K B1 ρ1 H1 E (PBl Q) (match m1[n]? with
      | some (.drw la re ce tu) => .ok (!la.isEmpty) m1
      | _ => .bad) := w1
    cases q : m1[n]? with
    | none => rw [q] at w2; exact w2.elim
    | some o =>
      rw [q] at w2
      cases o with
      | drw la re ce tu =>
        obtain ⟨p, l, c, h1, rfl, b1, b2, b3, b4, b5, b6, b7⟩ := drw_at s1 r q
        refine ⟨p.1, .ref l, rfl, val_large (c := c) (re := re) (tu := tu) ▸ DGet.k (k := .inr "large") b5, ?_⟩
        refine kb σ sd B1 ρ1 m1 H1 _ s1 (rl.ste t1) ?_
        show Wt X.K B1 ρ1 H1 E _ (Out.ok (D.lst []) m1)
        refine fun B2 ρ2 H2 t2 s2 y ry => ?_
        obtain ⟨p', l', c', c0, e', c1, c2, c3, c4, c5, c6, c7⟩ := drw_at s2 (r.ste t2) q
        obtain ⟨more, em⟩ := t2.rr
        have ep : ρ2[n]? = some p := by
          rw [em, List.getElem?_append_left (List.getElem?_eq_some_iff.mp h1).1]
          exact h1
        rw [c0] at ep
        cases ep
        rw [b2] at c2
        cases c2
        have rl2 : Rep X.K H2 (.lst (la.map .int)) (.ref l) := ⟨l, _, rfl, c6, RepL.ints la⟩
        have hpl : plain (.lst (la.map .int)) = true := plain_ints la
        have heq : PyData.eqv (toP (.lst (la.map .int))) (toP (.lst [])) = la.isEmpty := by cases la <;> rfl
        refine ⟨_, _, rl2.dp (Sub.refl _) (SeqAt.canLay_of_shaped hpl), ry.dp s2.ex (by rfl), hpl, by rfl, ?_⟩
        refine ⟨_, rfl, ?_⟩
        rw [heq]
        exact Wt.ok' (E := E) (m := m1) w2 t2 s2
      | _ => exact w2.elim
end
end Mi
set_option maxRecDepth 100000
set_option maxHeartbeats 4000000
/-! The layer Mi. Part 11: the making of the draws; defs that give a changing object back. -/
namespace Mi
open PySem PySem.Spec PyProof.Rows L2
/-- a def that gives data or a changing object back -/
def spX (K : PySem.W.Frag) (n : Nat) (F : List S → M S) : Sp := fun vs H Q E => ∃ B ρ m ss, Sim K B ρ m H ∧ RepSL K B ρ ss vs ∧ ss.length = n ∧ Wt K B ρ H E (PSl K Q) (F ss m)
structure FxX (P : Program) (w : World) (K : PySem.W.Frag) (mg : Str → Option Value) (base : Heap) (k : Nat) (x : Str) (ps : List Str) (F : List S → M S) : Prop where
  ok : ∃ fd, FnOk P w K mg base (L2.CX P w) k (He.ga K x) fd ps (spX K ps.length F) ∧ Binds K fd ps []
  mgx : mg x = some (.ref (He.ga K x))
  kp : PySem.W.keepIn K (.ref (He.ga K x)) = true
def argNX (n : Nat) (F : List S → M S) (ss : List S) : M S := if ss.length = n then F ss else bad
section
variable {X : Cx} {E : XK} {e : Expr} {es : List Expr} {pos p : Pos} {x : Str} {k : Nat} {ps : List Str} {F : List S → M S}
theorem sx_call {gs : SD → M (List S)} (hF : FxX X.prog X.w X.K X.mg X.base k x ps F) (hr : Room k X.A) (hp : Passes (L2.CX X.prog X.w) X E) (ha : SA X E (e :: es) gs) (hg : Gl X x := by rfl) (hdb : (x == ("__debug__" : Str)) = false := by decide)
    (he : starEach (e :: es) X.env = (false, eval e X.env) :: starEach es X.env := by rfl) (hpl : (backTo pos (starEach es X.env)).any (·.1) = false := by rfl) :
    SX X E (.Call (.Name x p) (e :: es) [] pos) (fun sd => M.bind (gs sd) fun ss => argNX ps.length F ss) := by
  obtain ⟨t, pa, ka⟩ := ha
  obtain ⟨fd, ok, bi⟩ := hF.ok
  refine ⟨_, pe_call ok hr hg hF.mgx hF.kp bi .nil hp pa hdb he hpl, fun σ sd B ρ m H Q s rl w => ka σ sd B ρ m H _ s rl ?_⟩
  refine Wt.bind' (r := gs sd m) w fun ss B1 ρ1 m1 H1 t1 s1 w1 vs r => ?_
  have w2 : Wt X.K B1 ρ1 H1 E (PSl X.K Q) ((if ss.length = ps.length then F ss else bad : M S) m1) := w1
  split at w2
  · rename_i hl
    exact ⟨B1, ρ1, m1, ss, s1, by rw [List.append_nil]; exact r, hl, w2⟩
  · exact w2.elim
end
abbrev absI (i : Int) : Int := if i < 0 then -i else i
def largeL (ns : List Int) : List Int := (ns.filter fun i => decide (1000000000000000000 ≤ absI i)).map fun i => absI i - 1000000000000000000
def F_begun : List S → M S
  | [.d (.scr ns)] => fun m => if ns.length ≤ 1000 then .ok (.h m.length) (m ++ [.drw (largeL ns) 0 (ns.map absI) 0]) else .bad
  | _ => bad
section
variable {P : Program} {w : World} {K : PySem.W.Frag} {mg : Str → Option Value} {base : Heap}
theorem fn_begun {x qual : Str} {params : Arguments} {st1 : Stmt} {lg cells : Expr} {j1 j2 j3 j4 j5 j6 p1 p2 p3 p4 p5 p6 dp rp} {scope : Scope} {f : Addr} {fd : FuncData} {k : Nat} {g1 : SD → M Fl} {gc : SD → M (List D)}
    (F : FunD K x qual params [st1, .Return (some (.Dict [some (.Constant (.str "large") j1 p1), some (.Constant (.str "rest") j2 p2), some (.Constant (.str "cells") j3 p3), some (.Constant (.str "turn") j4 p4)] [lg, .Constant (.int 0) j5 p5, cells, .Constant (.int 0) j6 p6] dp)) rp] scope [] [] f fd)
    (SC : FnScope ["_law_script", "_law_large", "_law_grain"] ["_law_script"] scope)
    (h1 : ∀ (cdv : Value) (A : Around) (outer : List Env) (s : Shared) (H : Hp) (E : XK), Room k (A.deeper (envOfC qual scope s.heap.objs.size f cdv)) → SS (cxOf (L2.CX P w) P w K mg base ["_law_script", "_law_large", "_law_grain"] qual scope f cdv A outer s H E) E st1 g1)
    (hv : ∀ (cdv : Value) (A : Around) (outer : List Env) (s : Shared) (H : Hp) (E : XK), SX (cxOf (L2.CX P w) P w K mg base ["_law_script", "_law_large", "_law_grain"] qual scope f cdv A outer s H E) E lg (getS 1))
    (h2 : ∀ (cdv : Value) (A : Around) (outer : List Env) (s : Shared) (H : Hp) (E : XK), Room k (A.deeper (envOfC qual scope s.heap.objs.size f cdv)) → SF (cxOf (L2.CX P w) P w K mg base ["_law_script", "_law_large", "_law_grain"] qual scope f cdv A outer s H E) E cells gc)
    (e1 : ∀ ns m, ns.length ≤ 1000 → g1 [some (.d (.scr ns)), none, none] m = .ok (.nx [some (.d (.scr ns)), some (.h m.length), none]) (m ++ [.lst ((largeL ns).map .int)]))
    (e2 : ∀ ns z m, ns.length ≤ 1000 → gc [some (.d (.scr ns)), z, none] m = .ok ((ns.map absI).map .int) m) :
    FnOk P w K mg base (L2.CX P w) (k + 1) f fd ["_law_script"] (spX K 1 F_begun) := by
  refine F.ok SC (fun vs H Q E h => ?_) (fun cdv A outer s H vs Q E hr h => ?_)
  · obtain ⟨B, ρ, m, ss, h1, h2, h3, h4⟩ := h
    rw [h2.length, h3]
    rfl
  · obtain ⟨B, ρ, m, ss, hs, hrep, hl, hw⟩ := h
    obtain ⟨t1, q1, k1⟩ := h1 cdv A outer s H E hr
    obtain ⟨tv, qv, kv⟩ := hv cdv A outer s H E
    obtain ⟨tc, qc, kc⟩ := h2 cdv A outer s H E hr
    refine ⟨_, pss_cons q1 (pss_one (ps_ret (pe_disp (pps_cons pe_str qv (pps_cons pe_str pe_int (pps_cons pe_str qc (pps_cons pe_str pe_int pps_nil)))) rfl rfl (by simp) (by simp)))), ?_⟩
    obtain ⟨ns, rfl⟩ : ∃ ns, ss = [.d (.scr ns)] := by
      rcases ss with _ | ⟨x, _ | ⟨y, ys⟩⟩
      · cases hl
      · cases x with
        | h n => exact hw.elim
        | d x => cases x with
          | scr ns => exact ⟨ns, rfl⟩
          | _ => exact hw.elim
      · simp at hl
    have hw1 : Wt K B ρ H E (PSl K Q) (if ns.length ≤ 1000 then Out.ok (S.h m.length) (m ++ [MO.drw (largeL ns) 0 (ns.map absI) 0]) else Out.bad) := hw
    have hle : ns.length ≤ 1000 := by
      refine Decidable.byContradiction fun hn => ?_
      rw [if_neg hn] at hw1
      exact hw1.elim
    rw [if_pos hle] at hw1
    have hw2 := hw1
    refine k1 _ _ [some (.d (.scr ns)), none, none] B ρ m H hs ?_ ?_
    · unfold L2.start
      rw [hrep.length]
      exact hrep.start _
    · rw [e1 ns m hle]
      intro B1 ρ1 H1 st1 sm1 σ1 rl1 p hp
      have hpB := sm1.bnone hp
      have sm1' := sm1.newH (o := .dK []) hp
      have stp : Ste B1 ρ1 H1 B1 ρ1 (upd H1 p (.dK [])) := Ste.newH hp
      refine kv σ1 _ B1 ρ1 _ _ _ sm1' (rl1.ste stp) ?_
      show Wt K B1 ρ1 (upd H1 p (.dK [])) E _ (Out.ok (S.h m.length) (m ++ [MO.lst ((largeL ns).map .int)]))
      intro B2 ρ2 H2 st2 sm2 v rv
      refine kc σ1 _ B2 ρ2 _ _ _ sm2 ((rl1.ste stp).ste st2) ?_
      rw [e2 ns _ _ hle]
      intro B3 ρ3 H3 st3 sm3 c xs h0 hb ho hc hrl
      obtain ⟨pl, z1, rfl⟩ := rv.ste st3
      obtain ⟨o, z2, z3⟩ := sm3.at_ z1
      rw [List.getElem?_append_right (Nat.le_refl _), Nat.sub_self] at z2
      cases z2
      obtain ⟨b1, b2, ys, b3, b4⟩ := z3
      have hys : ys = (largeL ns).map V.int := b4.eq_ints
      have hxs : xs = (ns.map absI).map V.int := hrl.eq_ints
      subst hys hxs
      have T : Ste B ρ H B3 ρ3 H3 := st1.trans (stp.trans (st2.trans st3))
      have hpH : H p = none := st1.fresh sm1 hp
      have hnp : ¬ own ρ1 p := sm1.nown hp
      have hp3 : H3 p = some (.dK []) := by
        refine (st2.trans st3).kp p _ upd_same hnp
      obtain ⟨more, em⟩ := T.rr
      have hlen : ρ3.length = m.length + 1 := by rw [sm3.len]; simp
      have hrl : ρ.length = m.length := hs.len
      have npl : ¬ own ρ pl.1 := by
        rintro ⟨q, hq, hqa⟩
        obtain ⟨i, hi⟩ := List.mem_iff_getElem?.mp hq
        have hi3 : ρ3[i]? = some q := by
          rw [em, List.getElem?_append_left (List.getElem?_eq_some_iff.mp hi).1]
          exact hi
        have hlt := (List.getElem?_eq_some_iff.mp hi).1
        exact sm3.nd i m.length q pl hi3 z1 (by omega) pl.1 hqa (.inl rfl)
      have hcp : c ≠ p := fun z => by
        rw [z] at h0
        have := st2.kp p _ upd_same hnp
        rw [h0] at this
        cases this
      have hcl : c ≠ pl.1 := fun z => ho (by rw [z]; exact own_at z1 (.inl rfl))
      have hpl : p ≠ pl.1 := fun z => by
        rw [z] at hp3
        rw [b3] at hp3
        cases hp3
      have hcH : H c = none := (st1.trans (stp.trans st2)).fresh sm2 h0
      have s3 : Sim K B3 ρ m H3 := by
        have z := em ▸ sm3
        have z2 := z.trunc
        rwa [hrl, List.take_left' rfl] at z2
      have npo : ¬ own ρ p := hs.nown hpH
      have nco : ¬ own ρ c := hs.nown hcH
      have hpB3 : B3 p = none := by
        cases q : B3 p with
        | none => rfl
        | some u =>
          rcases (st2.trans st3).bn p (by rw [q]; simp) with z | z | z
          · exact absurd hpB z
          · exact absurd z hnp
          · rw [upd_same] at z; cases z
      have s4 : Sim K (upd B3 c (.lst ((ns.map absI).map V.int))) ρ m H3 := s3.still hb hc nco
      have s5 : Sim K (upd B3 c (.lst ((ns.map absI).map V.int))) ρ m (upd H3 p (.dK (kDraw pl.1 c 0 0))) := s4.chH (by rw [upd_ne (Ne.symm hcp)]; exact hpB3) npo
      have s6 := s5.push (p := (p, [pl.1])) (o := .drw (largeL ns) 0 (ns.map absI) 0) (fun a z => by
        rcases z with z | z
        · rw [z]; exact npo
        · rw [List.mem_singleton.mp z]; exact npl) ⟨by rw [upd_ne (Ne.symm hcp)]; exact hpB3, pl.1, c, rfl, by rw [upd_ne (Ne.symm hcl)]; exact b1, hpl, upd_same, by rw [upd_ne (Ne.symm hpl)]; exact b3, upd_same⟩
      refine ⟨hp3, kDraw pl.1 c 0 0, rfl, (by show 4 ≤ 15; decide), ?_⟩
      have T2 : Ste B ρ H (upd B3 c (.lst ((ns.map absI).map V.int))) (ρ ++ [(p, [pl.1])]) (upd H3 p (.dK (kDraw pl.1 c 0 0))) := by
        refine ⟨T.bb.trans (Sub.upd hb), ⟨_, rfl⟩, fun a o e n => ?_, fun a z => ?_, fun a z => ?_⟩
        · rw [upd_ne (ne_of_none e hpH)]
          exact T.kp a o e n
        · rcases own_snoc.mp z with z | z | z
          · exact .inl z
          · rw [z]; exact .inr hpH
          · rw [List.mem_singleton.mp z]
            exact T.nw _ (own_at z1 (.inl rfl))
        · by_cases ea : a = c
          · rw [ea]; exact .inr (.inr hcH)
          · rw [upd_ne ea] at z
            exact T.bn a z
      refine hw2 _ _ _ T2 s6 _ ⟨(p, [pl.1]), ?_, rfl⟩
      rw [← hrl]
      simp
end
/-! ### the texts of the three defs -/
abbrev G_begun1 : SD → M Fl := setLX 1 (lcM [2] (seqI (getD 0)) (tgN 2) (c2 geD (u1 absS (getS 2)) (u2 powD (kD (.int 10)) (kD (.int 18)))) (u2 subD (u1 absS (getS 2)) (u2 powD (kD (.int 10)) (kD (.int 18)))))
abbrev G_begunC : SD → M (List D) := lcM [2] (seqI (getD 0)) (tgN 2) yes (u1 absS (getS 2))
theorem comp_c (a z : Option S) : ∀ (ns : List Int) (acc : List D) (m : Mem), acc.length + ns.length ≤ 1000 → compM [2] (tgN 2) yes (u1 absS (getS 2)) [a, z, none] acc (ns.map .int) m = .ok (acc ++ (ns.map absI).map .int) m
  | [], acc, m, _ => by
    show Out.ok acc m = _
    simp
  | n :: ns, acc, m, h => by
    rw [List.length_cons] at h
    show (if acc.length < 16777216 then compM [2] (tgN 2) yes (u1 absS (getS 2)) [a, z, none] (acc ++ [.int (absI n)]) (ns.map .int) else bad : M (List D)) m = _
    rw [if_pos (by omega), comp_c a z ns _ m (by simp; omega)]
    simp
theorem comp_l (a z : Option S) : ∀ (ns : List Int) (acc : List D) (m : Mem), acc.length + ns.length ≤ 1000 → compM [2] (tgN 2) (c2 geD (u1 absS (getS 2)) (u2 powD (kD (.int 10)) (kD (.int 18)))) (u2 subD (u1 absS (getS 2)) (u2 powD (kD (.int 10)) (kD (.int 18)))) [a, z, none] acc (ns.map .int) m = .ok (acc ++ (largeL ns).map .int) m
  | [], acc, m, _ => by
    show Out.ok acc m = _
    simp [largeL]
  | n :: ns, acc, m, h => by
    rw [List.length_cons] at h
    by_cases q : (1000000000000000000 : Int) ≤ absI n
    · have hd : decide ((10 : Int) ^ 18 ≤ absI n) = true := decide_eq_true q
      have e : compM [2] (tgN 2) (c2 geD (u1 absS (getS 2)) (u2 powD (kD (.int 10)) (kD (.int 18)))) (u2 subD (u1 absS (getS 2)) (u2 powD (kD (.int 10)) (kD (.int 18)))) [a, z, none] acc ((n :: ns).map .int) m
        = (if decide ((10 : Int) ^ 18 ≤ absI n) = true then (if acc.length < 16777216 then compM [2] (tgN 2) (c2 geD (u1 absS (getS 2)) (u2 powD (kD (.int 10)) (kD (.int 18)))) (u2 subD (u1 absS (getS 2)) (u2 powD (kD (.int 10)) (kD (.int 18)))) [a, z, none] (acc ++ [.int (absI n - 10 ^ 18)]) (ns.map .int) else bad : M (List D))
          else compM [2] (tgN 2) (c2 geD (u1 absS (getS 2)) (u2 powD (kD (.int 10)) (kD (.int 18)))) (u2 subD (u1 absS (getS 2)) (u2 powD (kD (.int 10)) (kD (.int 18)))) [a, z, none] acc (ns.map .int)) m := rfl
      rw [e, if_pos hd, if_pos (by omega), comp_l a z ns _ m (by simp; omega)]
      have el : largeL (n :: ns) = (absI n - 1000000000000000000) :: largeL ns := by simp [largeL, List.filter_cons, q]
      rw [el]
      simp
    · have hd : ¬ decide ((10 : Int) ^ 18 ≤ absI n) = true := fun z => q (of_decide_eq_true z)
      have e : compM [2] (tgN 2) (c2 geD (u1 absS (getS 2)) (u2 powD (kD (.int 10)) (kD (.int 18)))) (u2 subD (u1 absS (getS 2)) (u2 powD (kD (.int 10)) (kD (.int 18)))) [a, z, none] acc ((n :: ns).map .int) m
        = (if decide ((10 : Int) ^ 18 ≤ absI n) = true then (if acc.length < 16777216 then compM [2] (tgN 2) (c2 geD (u1 absS (getS 2)) (u2 powD (kD (.int 10)) (kD (.int 18)))) (u2 subD (u1 absS (getS 2)) (u2 powD (kD (.int 10)) (kD (.int 18)))) [a, z, none] (acc ++ [.int (absI n - 10 ^ 18)]) (ns.map .int) else bad : M (List D))
          else compM [2] (tgN 2) (c2 geD (u1 absS (getS 2)) (u2 powD (kD (.int 10)) (kD (.int 18)))) (u2 subD (u1 absS (getS 2)) (u2 powD (kD (.int 10)) (kD (.int 18)))) [a, z, none] acc (ns.map .int)) m := rfl
      rw [e, if_neg hd, comp_l a z ns _ m (by omega)]
      have el : largeL (n :: ns) = largeL ns := by simp [largeL, List.filter_cons, q]
      rw [el]
theorem begun_e1 (ns : List Int) (m : Mem) (h : ns.length ≤ 1000) : G_begun1 [some (.d (.scr ns)), none, none] m = .ok (.nx [some (.d (.scr ns)), some (.h m.length), none]) (m ++ [.lst ((largeL ns).map .int)]) := by
  have e := comp_l (some (.d (.scr ns))) none ns [] m (by simpa using h)
  have e2 : G_begun1 [some (.d (.scr ns)), none, none] m = (noxO (compM [2] (tgN 2) (c2 geD (u1 absS (getS 2)) (u2 powD (kD (.int 10)) (kD (.int 18)))) (u2 subD (u1 absS (getS 2)) (u2 powD (kD (.int 10)) (kD (.int 18)))) [some (.d (.scr ns)), none, none] [] (ns.map .int) m)).bind fun ds => M.bind (pushL ds) fun s => M.pure (.nx [some (.d (.scr ns)), some s, none]) := rfl
  rw [e2, e]
  rfl
theorem begun_e2 (ns : List Int) (z : Option S) (m : Mem) (h : ns.length ≤ 1000) : G_begunC [some (.d (.scr ns)), z, none] m = .ok ((ns.map absI).map .int) m := by
  have e := comp_c (some (.d (.scr ns))) z ns [] m (by simpa using h)
  have e2 : G_begunC [some (.d (.scr ns)), z, none] m = noxO (compM [2] (tgN 2) yes (u1 absS (getS 2)) [some (.d (.scr ns)), z, none] [] (ns.map .int) m) := rfl
  rw [e2, e]
  rfl
def G__law_mixed : SD → M Fl :=
    (seqM (dputV "turn" (u2 addD (u1 (drwK "turn") (getS 0)) (kD (.int 1))) (getS 0))
    (seqM (parV 1 2 (ofD (u1 toIntS (ofD (u1 (drwK "turn") (getS 0))))) (ofD (kD (.int 0))))
    (seqM (forV (seqI (ofL (lstV (consV (kD (.int 2147483629)) (consV (kD (.int 2147483587)) (consV (kD (.int 2147483579)) nilV)))))) (tgN 3) (seqM (setV 4 (u2 modD (u2 addD (u2 mulD (getD 1) (kD (.int 69621))) (u2 divD (getD 3) (kD (.int 7)))) (getD 3)))
    (seqM (forV (seqI (u1 (drwK "cells") (getS 0))) (tgN 5) (setV 4 (u2 modD (u2 addD (u2 mulD (getD 4) (kD (.int 48271))) (u1 toIntS (getS 5))) (getD 3))))
    (setV 2 (u2 addD (u2 mulD (getD 2) (kD (.int 2147483647))) (u2 modD (u2 powD (getD 4) (kD (.int 5))) (getD 3)))))))
    (retV (getD 2)))))
def F__law_mixed : List S → M D := fnM 6 G__law_mixed
def G__law_take : SD → M Fl :=
    (seqM (ifV (c2 eqD (u1 (drwK "rest") (getS 0)) (kD (.int 0))) (dputV "rest" (ifV (u1 drwLa (getS 0)) (u1 drwPop (getS 0)) (callM 1 F__law_mixed (consV (getS 0) nilV))) (getS 0)) nxV)
    (seqM (setV 2 (u2 modD (u1 toIntS (ofD (u1 (drwK "rest") (getS 0)))) (getD 1)))
    (seqM (dputV "rest" (u2 divD (u1 toIntS (ofD (u1 (drwK "rest") (getS 0)))) (getD 1)) (getS 0))
    (retV (getD 2)))))
def F__law_take : List S → M D := fnM 3 G__law_take
end Mi
set_option maxRecDepth 100000
set_option maxHeartbeats 4000000
/-! The layer Mi. Part 12: comparisons of what may change; more built-ins. -/
namespace Mi
open PySem PySem.Spec PyProof.Rows L2
/-- what stands there now -/
def cur : S → M D
  | .d x => M.pure x
  | .h n => fun m => match m[n]? with
    | some (.lst ds) => .ok (.lst ds) m
    | some (.fz d) => .ok d m
    | _ => .bad
section
variable {K : PySem.W.Frag} {B : Hp} {ρ : Rho} {m : Mem} {H : Hp}
theorem cur_ok {s : S} {v : V} {P : D → Hp → Rho → Mem → Hp → Prop} {E : XK} (hs : Sim K B ρ m H) (r : RepS K B ρ s v) (w : Wt K B ρ H E P (cur s m)) : ∃ d, Rep K H d v ∧ P d B ρ m H := by
  cases s with
  | d x => exact ⟨x, Rep.mono hs.ex r, Wt.ok (E := E) (m := m) w hs⟩
  | h n =>
    obtain ⟨p, h1, rfl⟩ := r
    obtain ⟨o, h2, h3⟩ := hs.at_ h1
    have w2 : Wt K B ρ H E P (match m[n]? with | some (.lst ds) => .ok (.lst ds) m | some (.fz d) => .ok d m | _ => .bad) := w
    rw [h2] at w2
    cases o with
    | lst ds =>
      obtain ⟨z1, z2, xs, z3, z4⟩ := h3
      exact ⟨.lst ds, ⟨p.1, xs, rfl, z3, z4.mono hs.ex⟩, Wt.ok w2 hs⟩
    | fz d => exact ⟨d, Rep.mono hs.ex h3.1, Wt.ok w2 hs⟩
    | _ => exact w2.elim
end
def eqS (x y : S) : M D := M.bind (cur x) fun a => M.bind (cur y) fun b => eqD a b
def neS (x y : S) : M D := M.bind (cur x) fun a => M.bind (cur y) fun b => neD a b
section
variable {X : Cx} {E : XK} {K : PySem.W.Frag} {B : Hp} {ρ : Rho} {m : Mem} {H : Hp} {a b c e : Expr} {es : List Expr} {pos p p2 p3 p4 : Pos} {ga gb : SD → M S} {fa fb fe : SD → M D}
theorem Wt.unb {α β : Type} {P : β → Hp → Rho → Mem → Hp → Prop} {r : Out α} {f : α → M β} (h : Wt K B ρ H E P (r.bind f)) : Wt K B ρ H E (fun a B' ρ' m' H' => Wt K B' ρ' H' E P (f a m')) r := Wt.bind h
theorem eqS_ok {s1 s2 : S} {x y : V} {Q : VK} (hs : Sim K B ρ m H) (r1 : RepS K B ρ s1 x) (r2 : RepS K B ρ s2 y) (w : Wt K B ρ H E (PD K Q) (eqS s1 s2 m)) : rEqD K x y H Q := by
  have w1 : Wt K B ρ H E (PD K Q) ((cur s1 m).bind fun a => M.bind (cur s2) fun b => eqD a b) := w
  obtain ⟨d, rd, w2⟩ := cur_ok hs r1 (Wt.unb w1)
  have w3 : Wt K B ρ H E (PD K Q) ((cur s2 m).bind fun b => eqD d b) := w2
  obtain ⟨d2, rd2, w4⟩ := cur_ok hs r2 (Wt.unb w3)
  unfold eqD at w4
  split at w4
  · rename_i hc
    obtain ⟨c1, c2⟩ := Bool.and_eq_true_iff.mp hc
    exact ⟨_, _, rd.dp (Sub.refl H) (SeqAt.canLay_of_shaped c1), rd2.dp (Sub.refl H) (SeqAt.canLay_of_shaped c2), c1, c2, Wt.ok (m := m) w4 hs _ rfl⟩
  · exact w4.elim
theorem neS_ok {s1 s2 : S} {x y : V} {Q : VK} (hs : Sim K B ρ m H) (r1 : RepS K B ρ s1 x) (r2 : RepS K B ρ s2 y) (w : Wt K B ρ H E (PD K Q) (neS s1 s2 m)) : rNeD K x y H Q := by
  have w1 : Wt K B ρ H E (PD K Q) ((cur s1 m).bind fun a => M.bind (cur s2) fun b => neD a b) := w
  obtain ⟨d, rd, w2⟩ := cur_ok hs r1 (Wt.unb w1)
  have w3 : Wt K B ρ H E (PD K Q) ((cur s2 m).bind fun b => neD d b) := w2
  obtain ⟨d2, rd2, w4⟩ := cur_ok hs r2 (Wt.unb w3)
  unfold neD at w4
  split at w4
  · rename_i hc
    obtain ⟨c1, c2⟩ := Bool.and_eq_true_iff.mp hc
    exact ⟨_, _, rd.dp (Sub.refl H) (SeqAt.canLay_of_shaped c1), rd2.dp (Sub.refl H) (SeqAt.canLay_of_shaped c2), c1, c2, Wt.ok (m := m) w4 hs _ rfl⟩
  · exact w4.elim
def OpSS (X : Cx) (E : XK) (r : R2) (f : S → S → M D) : Prop := ∀ s1 s2 x y B ρ m H Q, Sim X.K B ρ m H → RepS X.K B ρ s1 x → RepS X.K B ρ s2 y → Wt X.K B ρ H E (PD X.K Q) (f s1 s2 m) → r x y H Q
theorem st_cmpSS {op : CmpOp} {r : R2} {f : S → S → M D} (ho : OpR X (compareOp op) r) (hd : OpSS X E r f) (ha : SX X E a ga) (hb : SX X E b gb) (hm : behindInMarks op b = false) :
    ST X E (.Compare a [op] [b] pos) (fun sd => M.bind (ga sd) fun x => M.bind (gb sd) fun y => M.bind (f x y) asB) := by
  obtain ⟨ta, pa, ka⟩ := ha
  obtain ⟨tb, pb, kb⟩ := hb
  refine ⟨_, pt_cmpR ho pa pb hm, fun σ sd B ρ m H Q s rl w => ka σ sd B ρ m H _ s rl ?_⟩
  refine Wt.bind' (r := ga sd m) w fun dx B1 ρ1 m1 H1 t1 s1 w1 x rx => kb σ sd B1 ρ1 m1 H1 _ s1 (rl.ste t1) ?_
  refine Wt.bind' (r := gb sd m1) w1 fun dy B2 ρ2 m2 H2 t2 s2 w2 y ry => hd dx dy x y B2 ρ2 m2 H2 _ s2 (rx.ste t2) ry ?_
  refine Wt.bind' (r := f dx dy m2) w2 fun d B3 ρ3 m3 H3 t3 s3 w3 v r => ?_
  cases d with
  | bl z => exact ⟨z, r, Wt.ok (E := E) (m := m3) w3 s3⟩
  | _ => exact w3.elim
theorem st_eqX (hu : X.A.units + 64 < cLine) (ha : SX X E a ga) (hb : SX X E b gb) : ST X E (.Compare a [.Eq] [b] pos) (fun sd => M.bind (ga sd) fun x => M.bind (gb sd) fun y => M.bind (eqS x y) asB) := st_cmpSS (op_eqD hu) (fun _ _ _ _ _ _ _ _ _ hs r1 r2 w => eqS_ok hs r1 r2 w) ha hb (nomark _)
theorem st_neX (hu : X.A.units + 64 < cLine) (ha : SX X E a ga) (hb : SX X E b gb) : ST X E (.Compare a [.NotEq] [b] pos) (fun sd => M.bind (ga sd) fun x => M.bind (gb sd) fun y => M.bind (neS x y) asB) := st_cmpSS (op_neD hu) (fun _ _ _ _ _ _ _ _ _ hs r1 r2 w => neS_ok hs r1 r2 w) ha hb (nomark _)
abbrev c2X (f : S → S → M D) (fa fb : SD → M S) : SD → M Bool := fun sd => M.bind (fa sd) fun x => M.bind (fb sd) fun y => M.bind (f x y) asB
end
end Mi
set_option maxRecDepth 100000
set_option maxHeartbeats 4000000
/-! The layer Mi. Part 13: lists of ranges. -/
namespace Mi
open PySem PySem.Spec PyProof.Rows L2
def rngOk (a b : Int) : Bool := decide (-4611686018427387904 ≤ a) && (decide (a < 4611686018427387904) && (decide (-4611686018427387904 ≤ b) && (decide (b < 4611686018427387904) && decide ((b - a).toNat ≤ 16777216))))
/-- list(range(a, b)) -/
def rngM (a b : Int) : M (List D) := if rngOk a b = true then M.pure (rngL a b) else bad
abbrev lr1 (fa : SD → M D) : SD → M (List D) := fun sd => M.bind (fa sd) fun x => M.bind (asI x) fun n => rngM 0 n
abbrev lr2 (fa fb : SD → M D) : SD → M (List D) := fun sd => M.bind (fa sd) fun x => M.bind (fb sd) fun y => M.bind (asI x) fun n => M.bind (asI y) fun k => rngM n k
theorem rngOk_ok {a b : Int} (h : rngOk a b = true) : RgOk a b := by
  obtain ⟨h1, h⟩ := Bool.and_eq_true_iff.mp h
  obtain ⟨h2, h⟩ := Bool.and_eq_true_iff.mp h
  obtain ⟨h3, h⟩ := Bool.and_eq_true_iff.mp h
  obtain ⟨h4, h5⟩ := Bool.and_eq_true_iff.mp h
  have h1 := of_decide_eq_true h1
  have h2 := of_decide_eq_true h2
  have h3 := of_decide_eq_true h3
  have h4 := of_decide_eq_true h4
  have h5 := of_decide_eq_true h5
  exact ⟨by omega, by omega, by omega, by omega, by omega⟩
theorem rng_rep {K : PySem.W.Frag} {B : Hp} (a : Int) : ∀ (l : List Nat), RepL K B (l.map fun i => D.int (a + (i : Nat))) (l.map fun i => V.int (a + (i : Nat)))
  | [] => rfl
  | n :: l => ⟨_, _, rfl, rfl, rng_rep a l⟩
section
variable {X : Cx} {E : XK} {K : PySem.W.Frag} {B : Hp} {ρ : Rho} {m : Mem} {H : Hp} {a b e : Expr} {pos p p2 p3 : Pos} {fa fb : SD → M D}
theorem rng_end {Q : VK} {i j : Int} {H0 : Hp} (hs : Sim K B ρ m H) (w : Wt K B ρ H E (PFl K H0 Q) (rngM i j m)) (h0 : ∀ q, H q = none → H0 q = none) : RgOk i j ∧ ∀ q, H q = none → Q (.ref q) (upd H q (.lst (rgV i j))) := by
  have w2 : Wt K B ρ H E (PFl K H0 Q) ((if rngOk i j = true then M.pure (rngL i j) else bad : M (List D)) m) := w
  split at w2
  · rename_i hc
    refine ⟨rngOk_ok hc, fun q hq => ?_⟩
    exact Wt.ok' (E := E) (m := m) w2 (Ste.newH hq) (hs.newH hq) q _ (h0 q hq) (hs.bnone hq) (hs.nown hq) upd_same (rng_rep i _)
  · exact w2.elim
theorem sf_rng1 (hc : X.calm = true) (hml : X.mg "list" = none) (hmr : X.mg "range" = none) (ha : SE X E a fa) (hgl : Gl X "list" := by rfl) (hgr : Gl X "range" := by rfl)
    (hs : starEach [a] X.env = (false, eval a X.env) :: starEach [] X.env := by rfl) (na : starEach [Expr.Call (.Name "range" p2) [a] [] p3] X.env = (false, eval (.Call (.Name "range" p2) [a] [] p3) X.env) :: starEach [] X.env := by rfl) :
    SF X E (.Call (.Name "list" p) [.Call (.Name "range" p2) [a] [] p3] [] pos) (fun sd => M.bind (fa sd) fun x => M.bind (asI x) fun n => rngM 0 n) := by
  obtain ⟨t, pa, ka⟩ := ha
  refine ⟨_, pe_listRg hc hgl hml (prg_1 hgr hmr pa (by first | exact hs | rfl)) na, fun σ sd B ρ m H Q s rl w => ka σ sd B ρ m H _ s rl ?_⟩
  refine Wt.bind' (r := fa sd m) w fun d B1 ρ1 m1 H1 t1 s1 w1 v r => ?_
  cases d with
  | int n => exact ⟨n, r, rng_end s1 w1 fun q hq => t1.fresh s1 hq⟩
  | _ => exact w1.elim
theorem sf_rng2 (hc : X.calm = true) (hml : X.mg "list" = none) (hmr : X.mg "range" = none) (ha : SE X E a fa) (hb : SE X E b fb) (hgl : Gl X "list" := by rfl) (hgr : Gl X "range" := by rfl)
    (hs : starEach [a, b] X.env = (false, eval a X.env) :: starEach [b] X.env := by rfl) (hs2 : starEach [b] X.env = (false, eval b X.env) :: starEach [] X.env := by rfl)
    (hp3 : (backTo p3 (starEach [b] X.env)).any (·.1) = false := by rfl) (na : starEach [Expr.Call (.Name "range" p2) [a, b] [] p3] X.env = (false, eval (.Call (.Name "range" p2) [a, b] [] p3) X.env) :: starEach [] X.env := by rfl) :
    SF X E (.Call (.Name "list" p) [.Call (.Name "range" p2) [a, b] [] p3] [] pos) (fun sd => M.bind (fa sd) fun x => M.bind (fb sd) fun y => M.bind (asI x) fun n => M.bind (asI y) fun k => rngM n k) := by
  obtain ⟨t, pa, ka⟩ := ha
  obtain ⟨t', pb, kb⟩ := hb
  refine ⟨_, pe_listRg hc hgl hml (prg_2 hgr hmr pa pb hs hs2 hp3) na, fun σ sd B ρ m H Q s rl w => ka σ sd B ρ m H _ s rl ?_⟩
  refine Wt.bind' (r := fa sd m) w fun d B1 ρ1 m1 H1 t1 s1 w1 v r => kb σ sd B1 ρ1 m1 H1 _ s1 (rl.ste t1) ?_
  refine Wt.bind' (r := fb sd m1) w1 fun d2 B2 ρ2 m2 H2 t2 s2 w2 v2 r2 => ?_
  cases d with
  | int n =>
    cases d2 with
    | int k => exact ⟨n, k, r, r2, rng_end s2 w2 fun q hq => t1.fresh s1 (t2.fresh s2 hq)⟩
    | _ => exact w2.elim
  | _ => cases d2 <;> exact w2.elim
end
end Mi
set_option maxRecDepth 100000
set_option maxHeartbeats 4000000
/-! The draws: what taking one gives. -/
namespace Mi
open PySem PySem.Spec PyProof.Rows L2
theorem mulD_r (b k : Int) (h : small k = true) : mulD (.int b) (.int k) = M.pure (.int (b * k)) := by
  show (if (small b || small k) = true then _ else _) = _
  rw [if_pos (by rw [h, Bool.or_true])]
theorem modD_p (b g : Int) (h : g ≠ 0) : modD (.int b) (.int g) = M.pure (.int (b.fmod g)) := by
  show (if g ≠ 0 then _ else _) = _
  rw [if_pos h]
theorem divD_p (b g : Int) (h : g ≠ 0 ∧ g.natAbs < 1073741824) : divD (.int b) (.int g) = M.pure (.int (b.fdiv g)) := by
  show (if g ≠ 0 ∧ g.natAbs < 1073741824 then _ else _) = _
  rw [if_pos h]
theorem powD_p (b g : Int) (h : 0 ≤ g ∧ g ≤ 1000000 ∧ b.natAbs < 18446744073709551616) : powD (.int b) (.int g) = M.pure (.int (b ^ g.toNat)) := by
  show (if 0 ≤ g ∧ g ≤ 1000000 ∧ b.natAbs < 18446744073709551616 then _ else _) = _
  rw [if_pos h]
theorem mix_step (n : Nat) (t f g c b : Int) (hg : 0 < g) (m : Mem) : (setV 4 (u2 modD (u2 addD (u2 mulD (getD 4) (kD (.int 48271))) (u1 toIntS (getS 5))) (getD 3))) [some (.h n), some (.d (.int t)), some (.d (.int f)), some (.d (.int g)), some (.d (.int b)), some (.d (.int c))] m
    = .ok (.nx [some (.h n), some (.d (.int t)), some (.d (.int f)), some (.d (.int g)), some (.d (.int ((b * 48271 + c).fmod g))), some (.d (.int c))]) m := by
  have e1 := mulD_r b 48271 (by decide)
  have e2 := modD_p (b * 48271 + c) g (by omega)
  show ((((((mulD (.int b) (.int 48271)) m).bind fun x => fun m => Out.bind ((toIntS (.d (.int c))) m) (fun y => addD x y)).bind fun x => fun m => Out.bind (.ok (.int g) m) fun y => modD x y)).bind fun d => M.pure (Fl.nx [some (.h n), some (.d (.int t)), some (.d (.int f)), some (.d (.int g)), some (.d d), some (.d (.int c))])) = _
  rw [e1]
  show ((modD (.int (b * 48271 + c)) (.int g)) m).bind _ = _
  rw [e2]
  rfl
theorem mix_in (n : Nat) (t f g : Int) (hg : 0 < g) : ∀ (ce : List Int) (b : Int) (z : Option S) (m : Mem), 0 ≤ b ∧ b < g →
    ∃ b' z', forM (tgN 5) (setV 4 (u2 modD (u2 addD (u2 mulD (getD 4) (kD (.int 48271))) (u1 toIntS (getS 5))) (getD 3))) (ce.map .int) [some (.h n), some (.d (.int t)), some (.d (.int f)), some (.d (.int g)), some (.d (.int b)), z] m
      = .ok (.nx [some (.h n), some (.d (.int t)), some (.d (.int f)), some (.d (.int g)), some (.d (.int b')), z']) m ∧ 0 ≤ b' ∧ b' < g := by
  intro ce
  induction ce with
  | nil => exact fun b z m h => ⟨b, z, rfl, h⟩
  | cons c ce ih =>
    intro b z m h
    obtain ⟨b', z', e, h'⟩ := ih ((b * 48271 + c).fmod g) (some (.d (.int c))) m ⟨Int.fmod_nonneg_of_pos _ hg, Int.fmod_lt_of_pos _ hg⟩
    refine ⟨b', z', ?_, h'⟩
    rw [← e]
    show ((setV 4 (u2 modD (u2 addD (u2 mulD (getD 4) (kD (.int 48271))) (u1 toIntS (getS 5))) (getD 3))) [some (.h n), some (.d (.int t)), some (.d (.int f)), some (.d (.int g)), some (.d (.int b)), some (.d (.int c))] m).bind _ = _
    rw [mix_step n t f g c b hg m]
    rfl
abbrev mixBody : SD → M Fl := (seqM (setV 4 (u2 modD (u2 addD (u2 mulD (getD 1) (kD (.int 69621))) (u2 divD (getD 3) (kD (.int 7)))) (getD 3)))
    (seqM (forV (seqI (u1 (drwK "cells") (getS 0))) (tgN 5) (setV 4 (u2 modD (u2 addD (u2 mulD (getD 4) (kD (.int 48271))) (u1 toIntS (getS 5))) (getD 3))))
    (setV 2 (u2 addD (u2 mulD (getD 2) (kD (.int 2147483647))) (u2 modD (u2 powD (getD 4) (kD (.int 5))) (getD 3))))))
theorem mix_a (n : Nat) (t f g : Int) (hg : 0 < g) (y z : Option S) (m : Mem) : (setV 4 (u2 modD (u2 addD (u2 mulD (getD 1) (kD (.int 69621))) (u2 divD (getD 3) (kD (.int 7)))) (getD 3))) [some (.h n), some (.d (.int t)), some (.d (.int f)), some (.d (.int g)), y, z] m
    = .ok (.nx [some (.h n), some (.d (.int t)), some (.d (.int f)), some (.d (.int g)), some (.d (.int ((t * 69621 + g.fdiv 7).fmod g))), z]) m := by
  have e1 := mulD_r t 69621 (by decide)
  have e2 := divD_p g 7 (by decide)
  have e3 := modD_p (t * 69621 + g.fdiv 7) g (by omega)
  show ((((((mulD (.int t) (.int 69621)) m).bind fun x => fun m => Out.bind ((divD (.int g) (.int 7)) m) (fun y => addD x y)).bind fun x => fun m => Out.bind (.ok (.int g) m) fun y => modD x y)).bind fun d => M.pure (Fl.nx [some (.h n), some (.d (.int t)), some (.d (.int f)), some (.d (.int g)), some (.d d), z])) = _
  rw [e1, e2]
  show ((modD (.int (t * 69621 + g.fdiv 7)) (.int g)) m).bind _ = _
  rw [e3]
  rfl
theorem mix_b (n : Nat) (t f g b : Int) (hg : 0 < g) (hb : 0 ≤ b ∧ b < g) (hl : g < 4294967296) (z : Option S) (m : Mem) : (setV 2 (u2 addD (u2 mulD (getD 2) (kD (.int 2147483647))) (u2 modD (u2 powD (getD 4) (kD (.int 5))) (getD 3)))) [some (.h n), some (.d (.int t)), some (.d (.int f)), some (.d (.int g)), some (.d (.int b)), z] m
    = .ok (.nx [some (.h n), some (.d (.int t)), some (.d (.int (f * 2147483647 + (b ^ 5).fmod g))), some (.d (.int g)), some (.d (.int b)), z]) m := by
  have e1 := mulD_r f 2147483647 (by decide)
  have e2 := powD_p b 5 ⟨by omega, by omega, by omega⟩
  have e3 := modD_p (b ^ 5) g (by omega)
  show (((mulD (.int f) (.int 2147483647)) m).bind fun x => fun m => Out.bind (((powD (.int b) (.int 5)) m).bind fun y => fun m => Out.bind (.ok (.int g) m) fun z => modD y z) (fun y => addD x y)).bind (fun d => M.pure (Fl.nx [some (.h n), some (.d (.int t)), some (.d d), some (.d (.int g)), some (.d (.int b)), z])) = _
  rw [e1, e2]
  show ((((modD (.int (b ^ 5)) (.int g)) m).bind _).bind _) = _
  rw [e3]
  rfl
theorem mix_turn (n : Nat) (t f g : Int) (hg : 0 < g) (hl : g < 4294967296) (y z : Option S) (m : Mem) {la : List Int} {re : Int} {ce : List Int} {tu : Int} (hm : m[n]? = some (.drw la re ce tu)) :
    ∃ f' y' z', mixBody [some (.h n), some (.d (.int t)), some (.d (.int f)), some (.d (.int g)), y, z] m = .ok (.nx [some (.h n), some (.d (.int t)), some (.d (.int f')), some (.d (.int g)), y', z']) m := by
  obtain ⟨b', z', e, hb⟩ := mix_in n t f g hg ce ((t * 69621 + g.fdiv 7).fmod g) z m ⟨Int.fmod_nonneg_of_pos _ hg, Int.fmod_lt_of_pos _ hg⟩
  refine ⟨f * 2147483647 + (b' ^ 5).fmod g, some (.d (.int b')), z', ?_⟩
  show (((setV 4 (u2 modD (u2 addD (u2 mulD (getD 1) (kD (.int 69621))) (u2 divD (getD 3) (kD (.int 7)))) (getD 3))) [some (.h n), some (.d (.int t)), some (.d (.int f)), some (.d (.int g)), y, z] m).bind _) = _
  rw [mix_a n t f g hg y z m]
  have e0 : (seqI (u1 (drwK "cells") (getS 0))) [some (.h n), some (.d (.int t)), some (.d (.int f)), some (.d (.int g)), some (.d (.int ((t * 69621 + g.fdiv 7).fmod g))), z] m = .ok (ce.map .int) m := by
    show ((drwK "cells" (.h n)) m).bind itemsD = _
    have e1 : drwK "cells" (.h n) m = .ok (.lst (ce.map .int)) m := by
      show (match m[n]? with
        | some (.drw _ re ce tu) => if ("cells" : Str) = "rest" then .ok (.int re) m else if ("cells" : Str) = "turn" then .ok (.int tu) m else if ("cells" : Str) = "cells" then .ok (.lst (ce.map .int)) m else .bad
        | _ => .bad : Out D) = _
      rw [hm]
      rfl
    rw [e1]
    rfl
  show (((((seqI (u1 (drwK "cells") (getS 0))) [some (.h n), some (.d (.int t)), some (.d (.int f)), some (.d (.int g)), some (.d (.int ((t * 69621 + g.fdiv 7).fmod g))), z] m).bind fun ds => forM _ _ ds _).bind _)) = _
  rw [e0]
  show (((forM (tgN 5) (setV 4 (u2 modD (u2 addD (u2 mulD (getD 4) (kD (.int 48271))) (u1 toIntS (getS 5))) (getD 3))) (ce.map .int) [some (.h n), some (.d (.int t)), some (.d (.int f)), some (.d (.int g)), some (.d (.int ((t * 69621 + g.fdiv 7).fmod g))), z] m).bind _)) = _
  rw [e]
  exact mix_b n t f g b' hg hb hl z' m
section
variable {m : Mem} {n : Nat} {la : List Int} {re : Int} {ce : List Int} {tu : Int}
theorem drwK_rest (hm : m[n]? = some (.drw la re ce tu)) : drwK "rest" (.h n) m = .ok (.int re) m := by
  show (match m[n]? with
    | some (.drw _ re ce tu) => if ("rest" : Str) = "rest" then .ok (.int re) m else if ("rest" : Str) = "turn" then .ok (.int tu) m else if ("rest" : Str) = "cells" then .ok (.lst (ce.map .int)) m else .bad
    | _ => .bad : Out D) = _
  rw [hm]
  rfl
theorem drwK_turn (hm : m[n]? = some (.drw la re ce tu)) : drwK "turn" (.h n) m = .ok (.int tu) m := by
  show (match m[n]? with
    | some (.drw _ re ce tu) => if ("turn" : Str) = "rest" then .ok (.int re) m else if ("turn" : Str) = "turn" then .ok (.int tu) m else if ("turn" : Str) = "cells" then .ok (.lst (ce.map .int)) m else .bad
    | _ => .bad : Out D) = _
  rw [hm]
  rfl
theorem drwPut_rest (hm : m[n]? = some (.drw la re ce tu)) (i : Int) : drwPut "rest" (.h n) (.int i) m = .ok () (m.set n (.drw la i ce tu)) := by
  show (match m[n]? with
    | some (.drw la re ce tu) => if ("rest" : Str) = "rest" then .ok () (m.set n (.drw la i ce tu)) else if ("rest" : Str) = "turn" then .ok () (m.set n (.drw la re ce i)) else .bad
    | _ => .bad : Out Unit) = _
  rw [hm]
  rfl
theorem drwPut_turn (hm : m[n]? = some (.drw la re ce tu)) (i : Int) : drwPut "turn" (.h n) (.int i) m = .ok () (m.set n (.drw la re ce i)) := by
  show (match m[n]? with
    | some (.drw la re ce tu) => if ("turn" : Str) = "rest" then .ok () (m.set n (.drw la i ce tu)) else if ("turn" : Str) = "turn" then .ok () (m.set n (.drw la re ce i)) else .bad
    | _ => .bad : Out Unit) = _
  rw [hm]
  rfl
theorem drwLa_at (hm : m[n]? = some (.drw la re ce tu)) : drwLa (.h n) m = .ok (!la.isEmpty) m := by
  show (match m[n]? with
    | some (.drw la re ce tu) => .ok (!la.isEmpty) m
    | _ => .bad : Out Bool) = _
  rw [hm]
theorem drwPop_at {x : Int} (hm : m[n]? = some (.drw (x :: la) re ce tu)) : drwPop (.h n) m = .ok (.int x) (m.set n (.drw la re ce tu)) := by
  show (match m[n]? with
    | some (.drw (x :: la) re ce tu) => .ok (.int x) (m.set n (.drw la re ce tu))
    | _ => .bad : Out D) = _
  rw [hm]
theorem set_self {o : MO} (hm : m[n]? = some o) : m.set n o = m := by
  apply List.ext_getElem?
  intro i
  by_cases h : i = n
  · rw [h, hm, List.getElem?_set_self (List.getElem?_eq_some_iff.mp hm).1]
  · rw [List.getElem?_set_ne (Ne.symm h)]
theorem set_at {o o' : MO} (hm : m[n]? = some o) : (m.set n o')[n]? = some o' := List.getElem?_set_self (List.getElem?_eq_some_iff.mp hm).1
theorem mixed_at (hm : m[n]? = some (.drw la re ce tu)) : ∃ v, F__law_mixed [.h n] m = .ok (.int v) (m.set n (.drw la re ce (tu + 1))) := by
  have hm1 := set_at (o' := .drw la re ce (tu + 1)) hm
  generalize hq : m.set n (.drw la re ce (tu + 1)) = m1 at hm1 ⊢
  have hl : m1.length = m.length := by rw [← hq, List.length_set]
  obtain ⟨f1, y1, z1, e1⟩ := mix_turn n (tu + 1) 0 2147483629 (by decide) (by decide) none none m1 hm1
  obtain ⟨f2, y2, z2, e2⟩ := mix_turn n (tu + 1) f1 2147483587 (by decide) (by decide) y1 z1 m1 hm1
  obtain ⟨f3, y3, z3, e3⟩ := mix_turn n (tu + 1) f2 2147483579 (by decide) (by decide) y2 z2 m1 hm1
  refine ⟨f3, ?_⟩
  have a1 : dputV "turn" (u2 addD (u1 (drwK "turn") (getS 0)) (kD (.int 1))) (getS 0) [some (.h n), none, none, none, none, none] m = .ok (.nx [some (.h n), none, none, none, none, none]) m1 := by
    show ((((drwK "turn" (.h n) m).bind fun x => fun m => Out.bind (.ok (.int 1) m) fun y => addD x y)).bind fun d => fun m => Out.bind (.ok (.h n) m) fun s => M.bind (drwPut "turn" s d) fun _ => M.pure (Fl.nx [some (.h n), none, none, none, none, none])) = _
    rw [drwK_turn hm]
    show ((drwPut "turn" (.h n) (.int (tu + 1)) m).bind fun _ => M.pure (Fl.nx [some (.h n), none, none, none, none, none])) = _
    rw [drwPut_turn hm, hq]
    rfl
  have a2 : parV 1 2 (ofD (u1 toIntS (ofD (u1 (drwK "turn") (getS 0))))) (ofD (kD (.int 0))) [some (.h n), none, none, none, none, none] m1 = .ok (.nx [some (.h n), some (.d (.int (tu + 1))), some (.d (.int 0)), none, none, none]) m1 := by
    have e : drwK "turn" (.h n) m1 = .ok (.int (tu + 1)) m1 := drwK_turn hm1
    show (((((((drwK "turn" (.h n) m1)).bind fun d => M.pure (S.d d)).bind toIntS).bind fun d => M.pure (S.d d)).bind fun s1 => fun m => Out.bind (.ok (.d (.int 0)) m) fun s2 => M.pure (Fl.nx [some (.h n), some s1, some s2, none, none, none]))) = _
    rw [e]
    rfl
  have a3 : forM (tgN 3) mixBody [.int 2147483629, .int 2147483587, .int 2147483579] [some (.h n), some (.d (.int (tu + 1))), some (.d (.int 0)), none, none, none] m1 = .ok (.nx [some (.h n), some (.d (.int (tu + 1))), some (.d (.int f3)), some (.d (.int 2147483579)), y3, z3]) m1 := by
    show ((mixBody [some (.h n), some (.d (.int (tu + 1))), some (.d (.int 0)), some (.d (.int 2147483629)), none, none] m1).bind fun fl => match fl with
      | .nx sd2 => forM (tgN 3) mixBody [.int 2147483587, .int 2147483579] sd2
      | .ct sd2 => forM (tgN 3) mixBody [.int 2147483587, .int 2147483579] sd2
      | .bk sd2 => M.pure (.nx sd2)
      | .rt v => M.pure (.rt v)) = _
    rw [e1]
    show ((mixBody [some (.h n), some (.d (.int (tu + 1))), some (.d (.int f1)), some (.d (.int 2147483587)), y1, z1] m1).bind fun fl => match fl with
      | .nx sd2 => forM (tgN 3) mixBody [.int 2147483579] sd2
      | .ct sd2 => forM (tgN 3) mixBody [.int 2147483579] sd2
      | .bk sd2 => M.pure (.nx sd2)
      | .rt v => M.pure (.rt v)) = _
    rw [e2]
    show ((mixBody [some (.h n), some (.d (.int (tu + 1))), some (.d (.int f2)), some (.d (.int 2147483579)), y2, z2] m1).bind fun fl => match fl with
      | .nx sd2 => forM (tgN 3) mixBody [] sd2
      | .ct sd2 => forM (tgN 3) mixBody [] sd2
      | .bk sd2 => M.pure (.nx sd2)
      | .rt v => M.pure (.rt v)) = _
    rw [e3]
    rfl
  have a4 : G__law_mixed [some (.h n), none, none, none, none, none] m = .ok (.rt (.int f3)) m1 := by
    show (((dputV "turn" (u2 addD (u1 (drwK "turn") (getS 0)) (kD (.int 1))) (getS 0)) [some (.h n), none, none, none, none, none] m).bind _) = _
    rw [a1]
    show ((parV 1 2 (ofD (u1 toIntS (ofD (u1 (drwK "turn") (getS 0))))) (ofD (kD (.int 0))) [some (.h n), none, none, none, none, none] m1).bind _) = _
    rw [a2]
    show (((forM (tgN 3) mixBody [.int 2147483629, .int 2147483587, .int 2147483579] [some (.h n), some (.d (.int (tu + 1))), some (.d (.int 0)), none, none, none] m1)).bind _) = _
    rw [a3]
    rfl
  show (match G__law_mixed [some (.h n), none, none, none, none, none] m with
    | .ok (.rt d) m' => .ok d (m'.take m.length)
    | .ok (.nx _) m' => .ok .non (m'.take m.length)
    | .exc c fs m' => .exc c fs (m'.take m.length)
    | _ => .bad : Out D) = _
  rw [a4]
  show Out.ok (D.int f3) (m1.take m.length) = _
  rw [← hl, List.take_length]
theorem take_at (hm : m[n]? = some (.drw la re ce tu)) (k : Int) (hk : 0 < k ∧ k < 1073741824) :
    ∃ r la' re' tu', F__law_take [.h n, .d (.int k)] m = .ok (.int r) (m.set n (.drw la' re' ce tu')) ∧ 0 ≤ r ∧ r < k := by
  -- the rest filled
  have fill : ∃ la1 re1 tu1, (ifV (c2 eqD (u1 (drwK "rest") (getS 0)) (kD (.int 0))) (dputV "rest" (ifV (u1 drwLa (getS 0)) (u1 drwPop (getS 0)) (callM 1 F__law_mixed (consV (getS 0) nilV))) (getS 0)) nxV) [some (.h n), some (.d (.int k)), none] m
      = .ok (.nx [some (.h n), some (.d (.int k)), none]) (m.set n (.drw la1 re1 ce tu1)) := by
    have q0 : (c2 eqD (u1 (drwK "rest") (getS 0)) (kD (.int 0))) [some (.h n), some (.d (.int k)), none] m = .ok (re == 0) m := by
      show ((drwK "rest" (.h n) m).bind fun x => fun m => Out.bind (.ok (.int 0) m) fun y => M.bind (eqD x y) asB) = _
      rw [drwK_rest hm]
      rfl
    cases e : re == 0 with
    | false =>
      refine ⟨la, re, tu, ?_⟩
      show (((c2 eqD (u1 (drwK "rest") (getS 0)) (kD (.int 0))) [some (.h n), some (.d (.int k)), none] m).bind _) = _
      rw [q0, e, show m.set n (.drw la re ce tu) = m from set_self hm]
      rfl
    | true =>
      cases la with
      | cons x la =>
        refine ⟨la, x, tu, ?_⟩
        show (((c2 eqD (u1 (drwK "rest") (getS 0)) (kD (.int 0))) [some (.h n), some (.d (.int k)), none] m).bind _) = _
        rw [q0, e]
        show ((((drwLa (.h n) m).bind fun z => if z = true then (u1 drwPop (getS 0)) [some (.h n), some (.d (.int k)), none] else (callM 1 F__law_mixed (consV (getS 0) nilV)) [some (.h n), some (.d (.int k)), none])).bind _) = _
        rw [drwLa_at hm]
        show (((drwPop (.h n) m)).bind fun d => fun m => Out.bind (.ok (.h n) m) fun s => M.bind (drwPut "rest" s d) fun _ => M.pure (Fl.nx [some (.h n), some (.d (.int k)), none])) = _
        rw [drwPop_at hm]
        show ((drwPut "rest" (.h n) (.int x) (m.set n (.drw la re ce tu))).bind fun _ => M.pure (Fl.nx [some (.h n), some (.d (.int k)), none])) = _
        rw [drwPut_rest (set_at hm), List.set_set]
        rfl
      | nil =>
        obtain ⟨v, ev⟩ := mixed_at hm
        refine ⟨[], v, tu + 1, ?_⟩
        show (((c2 eqD (u1 (drwK "rest") (getS 0)) (kD (.int 0))) [some (.h n), some (.d (.int k)), none] m).bind _) = _
        rw [q0, e]
        show ((((drwLa (.h n) m).bind fun z => if z = true then (u1 drwPop (getS 0)) [some (.h n), some (.d (.int k)), none] else (callM 1 F__law_mixed (consV (getS 0) nilV)) [some (.h n), some (.d (.int k)), none])).bind _) = _
        rw [drwLa_at hm]
        show (((F__law_mixed [.h n] m)).bind fun d => fun m => Out.bind (.ok (.h n) m) fun s => M.bind (drwPut "rest" s d) fun _ => M.pure (Fl.nx [some (.h n), some (.d (.int k)), none])) = _
        rw [ev]
        show ((drwPut "rest" (.h n) (.int v) (m.set n (.drw [] re ce (tu + 1)))).bind fun _ => M.pure (Fl.nx [some (.h n), some (.d (.int k)), none])) = _
        rw [drwPut_rest (set_at hm), List.set_set]
        rfl
  obtain ⟨la1, re1, tu1, e1⟩ := fill
  have hm1 := set_at (o' := .drw la1 re1 ce tu1) hm
  generalize hq : m.set n (.drw la1 re1 ce tu1) = m1 at hm1 e1
  have hl : m1.length = m.length := by rw [← hq, List.length_set]
  have hk0 : k ≠ 0 := by omega
  have a1 : (setV 2 (u2 modD (u1 toIntS (ofD (u1 (drwK "rest") (getS 0)))) (getD 1))) [some (.h n), some (.d (.int k)), none] m1 = .ok (.nx [some (.h n), some (.d (.int k)), some (.d (.int (re1.fmod k)))]) m1 := by
    show ((((((drwK "rest" (.h n) m1)).bind fun d => M.pure (S.d d)).bind toIntS).bind fun x => fun m => Out.bind (.ok (.int k) m) fun y => modD x y).bind fun d => M.pure (Fl.nx [some (.h n), some (.d (.int k)), some (.d d)])) = _
    rw [drwK_rest hm1]
    show ((modD (.int re1) (.int k) m1).bind _) = _
    rw [modD_p re1 k hk0]
    rfl
  have a2 : (dputV "rest" (u2 divD (u1 toIntS (ofD (u1 (drwK "rest") (getS 0)))) (getD 1)) (getS 0)) [some (.h n), some (.d (.int k)), some (.d (.int (re1.fmod k)))] m1 = .ok (.nx [some (.h n), some (.d (.int k)), some (.d (.int (re1.fmod k)))]) (m1.set n (.drw la1 (re1.fdiv k) ce tu1)) := by
    show ((((((drwK "rest" (.h n) m1)).bind fun d => M.pure (S.d d)).bind toIntS).bind fun x => fun m => Out.bind (.ok (.int k) m) fun y => divD x y).bind fun d => fun m => Out.bind (.ok (.h n) m) fun s => M.bind (drwPut "rest" s d) fun _ => M.pure (Fl.nx [some (.h n), some (.d (.int k)), some (.d (.int (re1.fmod k)))])) = _
    rw [drwK_rest hm1]
    show ((divD (.int re1) (.int k) m1).bind _) = _
    rw [divD_p re1 k ⟨hk0, by omega⟩]
    show ((drwPut "rest" (.h n) (.int (re1.fdiv k)) m1).bind fun _ => M.pure (Fl.nx [some (.h n), some (.d (.int k)), some (.d (.int (re1.fmod k)))])) = _
    rw [drwPut_rest hm1]
    rfl
  refine ⟨re1.fmod k, la1, re1.fdiv k, tu1, ?_, Int.fmod_nonneg_of_pos _ hk.1, Int.fmod_lt_of_pos _ hk.1⟩
  have a3 : G__law_take [some (.h n), some (.d (.int k)), none] m = .ok (.rt (.int (re1.fmod k))) (m1.set n (.drw la1 (re1.fdiv k) ce tu1)) := by
    show ((((ifV (c2 eqD (u1 (drwK "rest") (getS 0)) (kD (.int 0))) (dputV "rest" (ifV (u1 drwLa (getS 0)) (u1 drwPop (getS 0)) (callM 1 F__law_mixed (consV (getS 0) nilV))) (getS 0)) nxV) [some (.h n), some (.d (.int k)), none] m)).bind _) = _
    rw [e1]
    show ((((setV 2 (u2 modD (u1 toIntS (ofD (u1 (drwK "rest") (getS 0)))) (getD 1))) [some (.h n), some (.d (.int k)), none] m1)).bind _) = _
    rw [a1]
    show ((((dputV "rest" (u2 divD (u1 toIntS (ofD (u1 (drwK "rest") (getS 0)))) (getD 1)) (getS 0)) [some (.h n), some (.d (.int k)), some (.d (.int (re1.fmod k)))] m1)).bind _) = _
    rw [a2]
    rfl
  show (match G__law_take [some (.h n), some (.d (.int k)), none] m with
    | .ok (.rt d) m' => .ok d (m'.take m.length)
    | .ok (.nx _) m' => .ok .non (m'.take m.length)
    | .exc c fs m' => .exc c fs (m'.take m.length)
    | _ => .bad : Out D) = _
  rw [a3]
  show Out.ok (D.int (re1.fmod k)) ((m1.set n (.drw la1 (re1.fdiv k) ce tu1)).take m.length) = _
  rw [← hl, ← List.length_set (as := m1) (i := n) (a := MO.drw la1 (re1.fdiv k) ce tu1), List.take_length, ← hq, List.set_set]
end
end Mi
set_option maxRecDepth 100000
set_option maxHeartbeats 4000000
/-! The layer Mi, part Na: dicts with keys that are ints or texts. Data dicts stand locked. -/
namespace Mi
open PySem PySem.Spec PyProof.Rows L2
def keyD : D → Option Key
  | .int i => some (.inl i)
  | .str x => some (.inr x)
  | _ => none
def dKey : Key → D
  | .inl i => .int i
  | .inr x => .str x
def valA (kvs : List (Key × D)) (k : Key) : Option D := (kvs.find? fun kv => decide (kv.1 = k)).map (·.2)
def putA (kvs : List (Key × D)) (k : Key) (d : D) : List (Key × D) :=
  if (kvs.any fun kv => decide (kv.1 = k)) = true then kvs.map (fun kv => if kv.1 = k then (kv.1, d) else kv) else kvs ++ [(k, d)]
def mergeA (kvs more : List (Key × D)) : List (Key × D) := more.foldl (fun acc kv => putA acc kv.1 kv.2) kvs
section
variable {K : PySem.W.Frag} {B : Hp}
theorem keyD_ok {d : D} {k : Key} {v : V} (h : keyD d = some k) (r : Rep K B d v) : v = kV k := by
  cases d with
  | int i => cases h; exact r
  | str x => cases h; exact r
  | _ => cases h
theorem dKey_rep (k : Key) : Rep K B (dKey k) (kV k) := by
  cases k with
  | inl i => exact rfl
  | inr x => exact rfl
theorem RepK.val : ∀ {kvs : List (Key × D)} {ps : List (Key × V)} {k : Key} {d : D}, RepK K B kvs ps → valA kvs k = some d → ∃ v, valV ps k = some v ∧ Rep K B d v
  | [], _, _, _, h, e => by cases e
  | (j, x) :: r, _, k, d, h, e => by
    obtain ⟨y, q, rfl, h2, h3⟩ := h
    by_cases ej : j = k
    · have : valA ((j, x) :: r) k = some x := by simp [valA, List.find?_cons, ej]
      rw [this] at e
      cases e
      exact ⟨y, valV_pos ej, h2⟩
    · have : valA ((j, x) :: r) k = valA r k := by simp [valA, List.find?_cons, ej]
      rw [this] at e
      obtain ⟨v, g1, g2⟩ := RepK.val h3 e
      exact ⟨v, by rw [valV_neg ej]; exact g1, g2⟩
theorem RepK.any (k : Key) : ∀ {kvs : List (Key × D)} {ps : List (Key × V)}, RepK K B kvs ps → (ps.any fun kv => decide (kv.1 = k)) = (kvs.any fun kv => decide (kv.1 = k))
  | [], _, h => by rw [show _ = [] from h] <;> rfl
  | (j, x) :: r, _, h => by
    obtain ⟨y, q, rfl, h2, h3⟩ := h
    rw [List.any_cons, List.any_cons, RepK.any k h3]
theorem RepK.map {d : D} {v : V} (k : Key) (rd : Rep K B d v) : ∀ {kvs : List (Key × D)} {ps : List (Key × V)}, RepK K B kvs ps → RepK K B (kvs.map (fun kv => if kv.1 = k then (kv.1, d) else kv)) (ps.map (fun kv => if kv.1 = k then (kv.1, v) else kv))
  | [], _, h => by rw [show _ = [] from h] <;> exact rfl
  | (j, x) :: r, _, h => by
    obtain ⟨y, q, rfl, h2, h3⟩ := h
    rw [List.map_cons, List.map_cons]
    by_cases e : j = k
    · simp only [e, if_true]
      exact ⟨v, _, rfl, rd, RepK.map k rd h3⟩
    · simp only [e, if_false]
      exact ⟨y, _, rfl, h2, RepK.map k rd h3⟩
theorem RepK.app {d : D} {v : V} (k : Key) (rd : Rep K B d v) : ∀ {kvs : List (Key × D)} {ps : List (Key × V)}, RepK K B kvs ps → RepK K B (kvs ++ [(k, d)]) (ps ++ [(k, v)])
  | [], _, h => by rw [show _ = [] from h] <;> exact ⟨v, [], rfl, rd, rfl⟩
  | (j, x) :: r, _, h => by
    obtain ⟨y, q, rfl, h2, h3⟩ := h
    exact ⟨y, _, rfl, h2, RepK.app k rd h3⟩
theorem RepK.put {kvs : List (Key × D)} {ps : List (Key × V)} {d : D} {v : V} (h : RepK K B kvs ps) (k : Key) (rd : Rep K B d v) : RepK K B (putA kvs k d) (putK ps k v) := by
  unfold putA putK
  rw [RepK.any k h]
  split
  · exact RepK.map k rd h
  · exact RepK.app k rd h
theorem RepK.merge : ∀ {more : List (Key × D)} {ms : List (Key × V)} {kvs : List (Key × D)} {ps : List (Key × V)}, RepK K B more ms → RepK K B kvs ps → RepK K B (mergeA kvs more) (mergeK ps ms)
  | [], _, _, _, h, g => by rw [show _ = [] from h] <;> exact g
  | (j, x) :: r, _, _, _, h, g => by
    obtain ⟨y, q, rfl, h2, h3⟩ := h
    exact RepK.merge (more := r) (ms := q) h3 (g.put j h2)
theorem RepK.length : ∀ {kvs : List (Key × D)} {ps : List (Key × V)}, RepK K B kvs ps → ps.length = kvs.length
  | [], _, h => by rw [show _ = [] from h] <;> rfl
  | (j, x) :: r, _, h => by
    obtain ⟨y, q, rfl, h2, h3⟩ := h
    rw [List.length_cons, List.length_cons, RepK.length h3]
theorem RepK.getK : ∀ {kvs : List (Key × D)} {ps : List (Key × V)} {i : Nat} {k : Key} {v : V}, RepK K B kvs ps → ps[i]? = some (k, v) → (kvs.map Prod.fst)[i]? = some k
  | [], _, _, _, _, h, e => by rw [show _ = [] from h] at e; simp at e
  | (j, x) :: r, _, 0, _, _, h, e => by
    obtain ⟨y, q, rfl, h2, h3⟩ := h
    simp at e
    simp [e.1]
  | (j, x) :: r, _, i + 1, _, _, h, e => by
    obtain ⟨y, q, rfl, h2, h3⟩ := h
    simpa using RepK.getK h3 (by simpa using e)
/-- the pairs of a list of tuples -/
def pairsL : List D → Option (List (Key × D))
  | [] => some []
  | .tup [k, v] :: r => match keyD k, pairsL r with
    | some k, some l => some ((k, v) :: l)
    | _, _ => none
  | _ => none
theorem pairsL_ok {H : Hp} (hs : Sub B H) : ∀ {ds : List D} {xs : List V} {kvs : List (Key × D)}, RepL K B ds xs → pairsL ds = some kvs → ∃ (as : List Addr) (ps : List (Key × V)), xs = as.map V.ref ∧ Paired (fun p kv => SqT K H p [kV kv.1, kv.2]) as ps ∧ RepK K B kvs ps
  | [], _, _, h, e => by
    cases e
    rw [show _ = [] from h]
    exact ⟨[], [], rfl, .nil, rfl⟩
  | d :: r, _, kvs, h, e => by
    obtain ⟨x, q, rfl, h2, h3⟩ := h
    cases d with
    | tup l =>
      match l with
      | [] => cases e
      | [_] => cases e
      | [k, v] =>
        have e2 : (match keyD k, pairsL r with | some k, some l => some ((k, v) :: l) | _, _ => none) = some kvs := e
        cases hk : keyD k with
        | none => rw [hk] at e2; cases e2
        | some kk =>
          cases hr : pairsL r with
          | none => rw [hk, hr] at e2; cases e2
          | some l =>
            rw [hk, hr] at e2
            cases e2
            obtain ⟨as, ps, rfl, g2, g3⟩ := pairsL_ok hs h3 hr
            obtain ⟨a, ys, rfl, u1, y1, q1, rfl, u2, y2, q2, rfl, u3, u4⟩ := h2
            have ek := keyD_ok hk u2
            subst ek
            have : q2 = [] := u4
            subst this
            exact ⟨a :: as, (kk, y2) :: ps, rfl, .cons (SqT.of (hs _ _ u1)) g2, y2, ps, rfl, u3, g3⟩
      | _ :: _ :: _ :: _ => cases e
    | _ => cases e
end
/-! ### rules -/
/-- a new dict -/
abbrev PDl (K : PySem.W.Frag) (H : Hp) (Q : VK) : List (Key × D) → Hp → Rho → Mem → Hp → Prop := fun kvs B' ρ' _ H' => ∀ p ps, H p = none → B' p = none → ¬ own ρ' p → H' p = some (.dK ps) → RepK K B' kvs ps → Q (.ref p) H'
def SDn (X : Cx) (E : XK) (e : Expr) (f : SD → M (List (Key × D))) : Prop := ∃ t, PE X e t ∧ ∀ σ sd B ρ m H Q, Sim X.K B ρ m H → RelS X.K B ρ σ sd → Wt X.K B ρ H E (PDl X.K H Q) (f sd m) → t σ H Q
def pushD (kvs : List (Key × D)) : M S := fun m => .ok (.h m.length) (m ++ [.dk kvs])
section
variable {X : Cx} {E : XK} {K : PySem.W.Frag} {B : Hp} {ρ : Rho} {m : Mem} {H : Hp} {a b c e tg iter : Expr} {pos p2 p3 : Pos} {fa fb fc fe : SD → M D} {ga gb : SD → M S}
/-- locked behind the making, for good -/
theorem pe_lockA {e : Expr} {t : TE} (h : PE X e t) : PE X e (fun σ H Q => t σ H fun v H1 => ∃ d u, v = .ref d ∧ H1 d = some u ∧ Mut (some u) ∧ ∀ od, Q v (upd H1 d (.frz od u))) := by
  refine ⟨fun pins s σ H Q I hw => ?_⟩
  refine thn (h.run pins s σ H _ I hw) fun v s1 ⟨x, H1, I1, r, d, u, e1, e2, mu, q⟩ => ?_
  obtain ⟨od, I2⟩ := I1.lock e2 mu
  exact ⟨x, _, I2, r, q od⟩
theorem se_ofD {f : SD → M (List (Key × D))} (h : SDn X E e f) : SE X E e (fun sd => M.bind (f sd) fun kvs => M.pure (.dk kvs)) := by
  obtain ⟨t, p, k⟩ := h
  refine ⟨_, pe_lockA p, fun σ sd B ρ m H Q s rl w => k σ sd B ρ m H _ s rl ?_⟩
  refine Wt.bindO (r := f sd m) w fun kvs B1 ρ1 m1 H1 t1 s1 w1 p ps h0 hb ho hp r => ⟨p, _, rfl, hp, trivial, fun od => ?_⟩
  have s2 : Sim X.K B1 ρ1 m1 (upd H1 p (.frz od (.dK ps))) := s1.chH hb ho
  have s3 := s2.still (o := .frz od (.dK ps)) hb upd_same ho
  exact Wt.ok' w1 ((t1.ch h0).still h0 hb) s3 _ ⟨p, od, ps, rfl, upd_same, r.mono (Sub.upd hb)⟩
theorem sx_newD {f : SD → M (List (Key × D))} (h : SDn X E e f) : SX X E e (fun sd => M.bind (f sd) fun kvs => pushD kvs) := by
  obtain ⟨t, p, k⟩ := h
  refine ⟨_, p, fun σ sd B ρ m H Q s rl w => k σ sd B ρ m H _ s rl ?_⟩
  refine Wt.bindO (r := f sd m) w fun kvs B1 ρ1 m1 H1 t1 s1 w1 p ps h0 hb ho hp r => ?_
  have s2 : Sim X.K B1 (ρ1 ++ [(p, [])]) (m1 ++ [.dk kvs]) H1 := s1.push (fun a z => by
    rcases z with z | z
    · rw [z]; exact ho
    · cases z) ⟨hb, rfl, ps, hp, r⟩
  refine Wt.ok' w1 (t1.moves h0) s2 _ ⟨(p, []), ?_, rfl⟩
  rw [← s1.len]
  simp
/-- dict(pairs) -/
def dictS (s : S) : M (List (Key × D)) := onList (fun ds => match pairsL ds with
  | some kvs => M.pure (mergeA [] kvs)
  | none => bad) s
theorem sd_dictP {p : Pos} (hc : X.calm = true) (hm : X.mg "dict" = none) (ha : SX X E e ga) (hg : Gl X "dict" := by rfl) (hst : starEach [e] X.env = (false, eval e X.env) :: starEach [] X.env := by rfl) (hpl : (backTo pos (starEach [] X.env)).any (·.1) = false := by rfl) :
    SDn X E (.Call (.Name "dict" p) [e] [] pos) (fun sd => M.bind (ga sd) dictS) := by
  obtain ⟨t, pp, k⟩ := ha
  refine ⟨_, pe_callTy (call_dictP hc) hg hm (by decide +kernel) (pa_cons pp pa_nil hst) (by decide) (by decide) hst hpl, fun σ sd B ρ m H Q hs rl w => k σ sd B ρ m H _ hs rl ?_⟩
  refine Wt.bindO (r := ga sd m) w fun s B1 ρ1 m1 H1 t1 s1 w1 v r => ?_
  obtain ⟨ds, xs, a, rfl, h1, h2, w2⟩ := onList_ok (E := E) s1 (r) (w1.trans t1)
  cases hp : pairsL ds with
  | none => rw [hp] at w2; exact w2.elim
  | some kvs =>
    rw [hp] at w2
    obtain ⟨as, ps, rfl, g2, g3⟩ := pairsL_ok s1.ex h2 hp
    refine ⟨a, as, ps, rfl, h1, g2, fun q hq => ?_⟩
    have hq0 := t1.fresh s1 hq
    have w3 : Wt X.K B1 ρ1 H1 E (PDl X.K H Q) (.ok (mergeA [] kvs) m1) := w2
    exact Wt.ok' w3 (Ste.newH hq) (s1.newH hq) q _ hq0 (s1.bnone hq) (s1.nown hq) upd_same (RepK.merge g3 rfl)
/-- d[k] -/
def dgetS (s : S) (i : D) : M D := match keyD i with
  | none => bad
  | some k => match s with
    | .d (.dk kvs) => (match valA kvs k with
      | some d => M.pure d
      | none => bad)
    | .h n => fun m => match m[n]? with
      | some (.dk kvs) => (match valA kvs k with
        | some d => .ok d m
        | none => .bad)
      | _ => .bad
    | _ => bad
theorem dgetS_ok {s : S} {v y : V} {i : D} {Q : VK} (hs : Sim K B ρ m H) (r : RepS K B ρ s v) (ry : Rep K B i y) (w : Wt K B ρ H E (PD K Q) (dgetS s i m)) : ∃ a v', v = .ref a ∧ DGet H a y (some v') ∧ Q v' H := by
  unfold dgetS at w
  cases hk : keyD i with
  | none => rw [hk] at w; exact w.elim
  | some k =>
    rw [hk] at w
    have ey := keyD_ok hk ry
    subst ey
    cases s with
    | d x =>
      cases x with
      | dk kvs =>
        obtain ⟨a, o, ps, rfl, h2, h3⟩ := r
        have w2 : Wt K B ρ H E (PD K Q) ((match valA kvs k with | some d => M.pure d | none => bad : M D) m) := w
        cases hv : valA kvs k with
        | none => rw [hv] at w2; exact w2.elim
        | some d =>
          rw [hv] at w2
          obtain ⟨v', g1, g2⟩ := h3.val hv
          exact ⟨a, v', rfl, .inl ⟨ps, k, .inr ⟨o, hs.ex _ _ h2⟩, rfl, g1.symm⟩, Wt.ok (E := E) (m := m) w2 hs _ g2⟩
      | _ => exact w.elim
    | h n =>
      obtain ⟨p, h1, rfl⟩ := r
      obtain ⟨o, h2, h3⟩ := hs.at_ h1
      have w2 : Wt K B ρ H E (PD K Q) (match m[n]? with | some (.dk kvs) => (match valA kvs k with | some d => .ok d m | none => .bad) | _ => .bad) := w
      rw [h2] at w2
      cases o with
      | dk kvs =>
        obtain ⟨z1, z2, ps, z3, z4⟩ := h3
        have w3 : Wt K B ρ H E (PD K Q) (match valA kvs k with | some d => .ok d m | none => .bad) := w2
        cases hv : valA kvs k with
        | none => rw [hv] at w3; exact w3.elim
        | some d =>
          rw [hv] at w3
          obtain ⟨v', g1, g2⟩ := z4.val hv
          exact ⟨p.1, v', rfl, .inl ⟨ps, k, .inl z3, rfl, g1.symm⟩, Wt.ok (E := E) (m := m) w3 hs _ g2⟩
      | _ => exact w2.elim
theorem se_dget (hu : X.A.units + 64 < cLine) (ha : SX X E a ga) (hb : SE X E b fb) (hs : NoSl b := by exact fun _ _ => rfl) : SE X E (.Subscript a b pos) (fun sd => M.bind (ga sd) fun s => M.bind (fb sd) fun i => dgetS s i) := by
  obtain ⟨ta, pa, ka⟩ := ha
  obtain ⟨tb, pb, kb⟩ := hb
  refine ⟨_, pe_dget (by omega) pa pb hs, fun σ sd B ρ m H Q hs rl w => ka σ sd B ρ m H _ hs rl ?_⟩
  refine Wt.bind' (r := ga sd m) w fun s B1 ρ1 m1 H1 t1 s1 w1 v r => kb σ sd B1 ρ1 m1 H1 _ s1 (rl.ste t1) ?_
  exact Wt.bind' (r := fb sd m1) w1 fun i B2 ρ2 m2 H2 t2 s2 w2 y ry => dgetS_ok s2 (r.ste t2) ry w2
/-- d[k] = v -/
def dputS (s : S) (i d : D) : M Unit := match keyD i with
  | none => bad
  | some k => match s with
    | .h n => fun m => match m[n]? with
      | some (.dk kvs) => if kvs.length < 16777216 then .ok () (m.set n (.dk (putA kvs k d))) else .bad
      | _ => .bad
    | _ => bad
theorem setD_ok {X : Cx} (hu : X.A.units + 1 < cLine) : PSet X (fun x y v H R => ∃ a H4, x = .ref a ∧ DPut H a y v H4 ∧ R H4) := by
  intro pins s σ H x y v ov iv u R I rx ry rv q
  obtain ⟨a, H4, ex, g, q⟩ := q
  subst ex
  obtain rfl : ov = Value.ref a := rx
  exact d_setItem hu I g ry rv fun s4 I4 => ⟨H4, I4, q⟩
theorem sg_dput (hu : X.A.units + 64 < cLine) (ha : SX X E a ga) (hb : SE X E b fb) (hpa : ∀ v, assign (.Subscript a b pos) X.env v = (do
      let ov ← holding [v] (eval a X.env)
      let iv ← holding [v, ov] (eval b X.env)
      standAt pos
      holding [v, ov, iv] (setItem ov iv v)
      release [v, ov, iv] []) := by intro _; rfl) : SG X E [] (.Subscript a b pos) (fun d sd => M.bind (ga sd) fun s => M.bind (fb sd) fun i => M.bind (dputS s i d) fun _ => M.pure sd) := by
  obtain ⟨ta, pa, ka⟩ := ha
  obtain ⟨tb, pb, kb⟩ := hb
  refine ⟨_, pg_sub pa pb (setD_ok (by omega)) hpa, fun σ sd B ρ m H v d Q hs rl r w => ka σ sd B ρ m H _ hs rl ?_⟩
  refine Wt.bind' (r := ga sd m) w fun s B1 ρ1 m1 H1 t1 s1 w1 o ro => kb σ sd B1 ρ1 m1 H1 _ s1 (rl.ste t1) ?_
  refine Wt.bind' (r := fb sd m1) w1 fun i B2 ρ2 m2 H2 t2 s2 w2 y ry => ?_
  have w2' := Wt.bind (f := fun _ => M.pure sd) w2
  unfold dputS at w2'
  cases hk : keyD i with
  | none => rw [hk] at w2'; exact w2'.elim
  | some k =>
    rw [hk] at w2'
    have ey := keyD_ok hk ry
    subst ey
    cases s with
    | d x => exact w2'.elim
    | h n =>
      obtain ⟨p, h1, rfl⟩ := ro.ste t2
      obtain ⟨ob, h2, h3⟩ := s2.at_ h1
      have w3 : Wt X.K B2 ρ2 H2 E _ (match m2[n]? with | some (.dk kvs) => if kvs.length < 16777216 then .ok () (m2.set n (.dk (putA kvs k d))) else .bad | _ => .bad) := w2'
      rw [h2] at w3
      cases ob with
      | dk kvs =>
        obtain ⟨z1, z2, ps, z3, z4⟩ := h3
        have w4 : Wt X.K B2 ρ2 H2 E _ (if kvs.length < 16777216 then .ok () (m2.set n (.dk (putA kvs k d))) else .bad) := w3
        split at w4
        · rename_i hl
          have rd : Rep X.K B2 d v := (r.mono t1.bb).mono t2.bb
          refine ⟨p.1, _, rfl, DPut.k z3 (by rw [z4.length, sl16]; exact hl), ?_⟩
          have hsub : ∀ a u, ¬ (a = p.1 ∨ a ∈ p.2) → H2 a = some u → upd H2 p.1 (.dK (putK ps k v)) a = some u := fun a u z e => by
            rw [upd_ne (fun q => z (.inl q))]
            exact e
          have s3 : Sim X.K B2 ρ2 (m2.set n (.dk (putA kvs k d))) (upd H2 p.1 (.dK (putK ps k v))) := s2.write h1 (fun a z => by
            rcases z with z | z
            · rw [z]; exact z1
            · rw [z2] at z; cases z) hsub ⟨z1, z2, _, upd_same, z4.put k rd⟩
          have w5 := Wt.ok' w4 (Ste.write h1 hsub) s3
          exact Wt.ok (E := E) w5 s3 σ rfl (fun _ _ => rfl) (((rl.ste t1).ste t2).ste (Ste.write h1 hsub))
        · exact w4.elim
      | _ => exact w3.elim
/-- for k in d, d data -/
def keysD : D → M (List D)
  | .dk kvs => M.pure (kvs.map fun kv => dKey kv.1)
  | _ => bad
theorem yields_keys {d : Addr} {o : Obj} {ps : List (Key × V)} {kvs : List (Key × D)} {B1 : Hp} {ρ1 : Rho} {H1 : Hp} (h : B1 d = some (.frz o (.dK ps))) (r : RepK K B1 kvs ps) : Yields K B1 ρ1 H1 (kvs.map fun kv => dKey kv.1) (Itk d o ps) := by
  intro B' ρ' m' H' t s
  have hq : H' d = some (.frz o (.dK ps)) := s.ex _ _ (t _ _ h)
  refine ⟨fun i x e => ?_, fun i hi => ⟨hq, by rw [r.length]; simpa using hi⟩⟩
  have hi : i < kvs.length := by
    have := (List.getElem?_eq_some_iff.mp e).1
    simpa using this
  refine ⟨⟨hq, by rw [r.length]; exact hi⟩, fun v H'' hy => ?_⟩
  obtain ⟨e1, k, v', e2, e3⟩ := hy
  subst e1 e3
  have g := r.getK e2
  rw [List.getElem?_map] at e g
  cases hkv : kvs[i]? with
  | none => rw [hkv] at g; cases g
  | some kv =>
    rw [hkv] at e g
    simp at e g
    subst e g
    exact ⟨B', Ste.refl _ _ _, s, dKey_rep _⟩
theorem si_keys (ha : SE X E iter fa) : SI X E tg iter (fun sd => M.bind (fa sd) keysD) := by
  obtain ⟨t, p, k⟩ := ha
  refine ⟨_, pi_keys p, fun σ sd B ρ m H R s rl w => k σ sd B ρ m H _ s rl ?_⟩
  refine Wt.bind' (r := fa sd m) w fun d B1 ρ1 m1 H1 t1 s1 w1 v r => ?_
  cases d with
  | dk kvs =>
    obtain ⟨a, o, ps, rfl, h2, h3⟩ := r
    exact ⟨a, o, rfl, .inl ⟨ps, s1.ex _ _ h2, Wt.ok (E := E) (m := m1) w1 s1 _ (yields_keys h2 h3)⟩⟩
  | _ => exact w1.elim
/-! ### dicts written out -/
theorem se_dict0 : SE X E (.Dict [] [] pos) (fun _ => M.pure (.dk [])) := by
  refine ⟨_, pe_lockA pe_dnewK, fun σ sd B ρ m H Q s rl w p hp => ⟨p, _, rfl, upd_same, trivial, fun od => ?_⟩⟩
  have s1 := s.newH (o := .dK []) hp
  have s2 : Sim X.K B ρ m (upd (upd H p (.dK [])) p (.frz od (.dK []))) := s1.chH (s.bnone hp) (s.nown hp)
  have s3 := s2.still (o := .frz od (.dK [])) (s.bnone hp) upd_same (s.nown hp)
  exact Wt.ok' (E := E) (m := m) w (((Ste.newH (o := .dK []) hp).ch hp).still hp (s.bnone hp)) s3 _ ⟨p, od, [], rfl, upd_same, rfl⟩
theorem Wt.bindT {α β : Type} {P : β → Hp → Rho → Mem → Hp → Prop} {P' : α → Hp → Rho → Mem → Hp → Prop} {r : Out α} {f : α → M β} {Bc : Hp} {ρc : Rho} {Hc : Hp} (t0 : Ste B ρ H Bc ρc Hc) (h : Wt K B ρ H E P (r.bind f))
    (k : ∀ a B' ρ' m' H', Ste Bc ρc Hc B' ρ' H' → Sim K B' ρ' m' H' → Wt K B ρ H E P (f a m') → P' a B' ρ' m' H') : Wt K Bc ρc Hc E P' r := by
  cases r with
  | ok a m' => exact fun B2 ρ2 H2 s2 z => k _ _ _ _ _ s2 z h
  | exc c fs m' => exact fun B2 ρ2 H2 dx s2 => h B2 ρ2 H2 dx (t0.trans s2)
  | bad => exact h
/-- {k: e}, k a written key -/
theorem se_dict1 {k : Key} {ke : Expr} (hk : PE X ke (tC (kV k))) (he : SE X E e fe) : SE X E (.Dict [some ke] [e] pos) (fun sd => M.bind (fe sd) fun d => M.pure (.dk [(k, d)])) := by
  obtain ⟨t, pe, kk⟩ := he
  refine ⟨_, pe_lockA (pe_disp (pps_cons hk pe pps_nil) rfl rfl (by simp) (by simp)), fun σ sd B ρ m H Q s rl w p hp => ?_⟩
  have stp : Ste B ρ H B ρ (upd H p (.dK [])) := Ste.newH hp
  have sp := s.newH (o := .dK []) hp
  refine kk σ sd B ρ m _ _ sp (rl.ste stp) ?_
  refine Wt.bindT (r := fe sd m) stp w fun d B1 ρ1 m1 H1 t1 s1 w1 v r => ?_
  have hnp : ¬ own ρ p := s.nown hp
  have hB := s.bnone hp
  obtain ⟨b1, b2, b3⟩ := comp_turn t1 hB hnp upd_same
  refine ⟨b3, [(k, v)], rfl, (by show 1 ≤ 15; decide), p, _, rfl, upd_same, trivial, fun od => ?_⟩
  have s3 : Sim X.K B1 ρ1 m1 (upd (upd H1 p (.dK (mergeK [] [(k, v)]))) p (.frz od (.dK (mergeK [] [(k, v)])))) := (s1.chH b1 b2).chH b1 b2
  have s4 := s3.still (o := .frz od (.dK (mergeK [] [(k, v)]))) b1 upd_same b2
  exact Wt.ok' (E := E) (m := m1) w1 ((((stp.trans t1).ch hp).ch hp).still hp b1) s4 _ ⟨p, od, [(k, v)], rfl, upd_same, v, [], rfl, Rep.mono (Sub.upd b1) r, rfl⟩
abbrev dgetV (ga : SD → M S) (fb : SD → M D) : SD → M D := fun sd => M.bind (ga sd) fun s => M.bind (fb sd) fun i => dgetS s i
abbrev tgDP (ga : SD → M S) (fb : SD → M D) : D → SD → M SD := fun d sd => M.bind (ga sd) fun s => M.bind (fb sd) fun i => M.bind (dputS s i d) fun _ => M.pure sd
abbrev dk1 (k : Key) (fe : SD → M D) : SD → M D := fun sd => M.bind (fe sd) fun d => M.pure (.dk [(k, d)])
abbrev ofDk (f : SD → M (List (Key × D))) : SD → M D := fun sd => M.bind (f sd) fun kvs => M.pure (.dk kvs)
abbrev newDk (f : SD → M (List (Key × D))) : SD → M S := fun sd => M.bind (f sd) fun kvs => pushD kvs
end
end Mi
set_option maxRecDepth 100000
set_option maxHeartbeats 4000000
/-! The layer Mi, part Nb: comprehensions with two clauses. -/
namespace Mi
open PySem PySem.Spec PyProof.Rows L2
def compM2 (vs vs1 : List Nat) (gt : D → SD → M SD) (gc : SD → M Bool) (fi1 : SD → M (List D)) (gt1 : D → SD → M SD) (gc1 : SD → M Bool) (ge : SD → M D) (sd : SD) : List D → List D → M (List D)
  | acc, [] => M.pure acc
  | acc, d :: r => M.bind (gt d (wipeD sd vs)) fun sd2 => M.bind (gc sd2) fun b => if b = true then M.bind (fi1 sd2) fun es => M.bind (compM vs1 gt1 gc1 ge sd2 acc es) fun acc' => compM2 vs vs1 gt gc fi1 gt1 gc1 ge sd acc' r else compM2 vs vs1 gt gc fi1 gt1 gc1 ge sd acc r
theorem Out.bind_assoc {α β γ : Type} (r : Out α) (f : α → M β) (k : β → M γ) : (r.bind f).bind k = r.bind fun a m => (f a m).bind k := by
  cases r <;> rfl
section
variable {X : Cx} {E : XK} {K : PySem.W.Frag} {B : Hp} {ρ : Rho} {m : Mem} {H : Hp} {a b c e elt tg iter tg1 iter1 : Expr} {pos : Pos} {fa fb fc fe : SD → M D}
abbrev iB (X : Cx) (scope : Scope) (tg iter : Expr) : TI := fun σ H R => ∀ s0 H0 C cl fp, semI (X.blk s0 H0 scope (compEnvC scope cl C X.env) fp) tg iter σ H R
theorem iB_ok {scope : Scope} : ∀ (s : Shared) (H : Hp) (C : Addr) (cl : List (Str × Addr)) (fp : List Addr), PI (X.blk s H scope (compEnvC scope cl C X.env) fp) tg iter (iB X scope tg iter) := fun s0 H0 C cl fp => ⟨fun pins s σ H R I h => h s0 H0 C cl fp pins s I⟩
theorem lc2_read {js js1 vs1 : List Nat} {ifs ifs1 : List Expr} {scope : Scope} {own' : List (Str × Nat)} {wi : TI} {fi fi1 : SD → M (List D)} {gt gt1 : D → SD → M SD} {gc gc1 : SD → M Bool} {ge : SD → M D}
    (ki : ∀ σ sd B ρ m H R, Sim X.K B ρ m H → RelS X.K B ρ σ sd → Wt X.K B ρ H E (fun ds B1 ρ1 _ H1 => ∀ J, Yields X.K B1 ρ1 H1 ds J → R J H1) (fi sd m) → wi σ H R) (hj : ∀ j ∈ js, j ∈ snds own') (hj1 : ∀ j ∈ js1, j ∈ vs1)
    (hg : InB X scope fun Y => SG Y E0 js tg gt) (ht : InB X scope fun Y => STs Y E0 ifs gc) (hi1 : InB X scope fun Y => SI Y E0 tg1 iter1 fi1) (hg1 : InB X scope fun Y => SG Y E0 js1 tg1 gt1) (ht1 : InB X scope fun Y => STs Y E0 ifs1 gc1) (he : InB X scope fun Y => SE Y E0 elt ge) :
    ∀ σ sd B ρ m H Q, Sim X.K B ρ m H → RelS X.K B ρ σ sd → Wt X.K B ρ H E (PFl X.K H Q) (M.bind (fi sd) (fun ds => nox (compM2 (snds own') vs1 gt gc fi1 gt1 gc1 ge sd [] ds)) m) →
      tLc2 wi (gB X scope tg) (tB' X scope ifs) (iB X scope tg1 iter1) (gB X scope tg1) (tB' X scope ifs1) (eB X scope elt) (snds own') vs1 σ H Q := by
  intro σ sd B ρ m H Q s rl w
  refine ki σ sd B ρ m H _ s rl ?_
  refine Wt.bindO (r := fi sd m) w fun ds B1 ρ1 m1 H1 t1 s1 w1 J hJ Dl hD => ?_
  have hD0 : H Dl = none := t1.fresh s1 hD
  refine ⟨fun i n H' => ∃ acc xs B' ρ' m', Ste B1 ρ1 H1 B' ρ' H' ∧ Sim X.K B' ρ' m' H' ∧ B' Dl = none ∧ ¬ own ρ' Dl ∧ H' Dl = some (.lst xs) ∧ RepL X.K B' acc xs ∧
    Wt X.K B ρ H E (PFl X.K H Q) (noxO (compM2 (snds own') vs1 gt gc fi1 gt1 gc1 ge sd acc (ds.drop i) m')) ∧ n = ds.length - i, ⟨ds.length, [], [], B1, ρ1, m1, Ste.newH hD, s1.newH hD, s1.bnone hD, s1.nown hD, upd_same, rfl, w1, rfl⟩, ?_⟩
  rintro i n H' ⟨acc, xs, B', ρ', m', t', s', b1, b2, b3, r', w', rfl⟩
  obtain ⟨go, stop⟩ := hJ B' ρ' m' H' t'.bb s'
  cases hd : ds.drop i with
  | nil =>
    have hl : ds.length ≤ i := by
      have := congrArg List.length hd
      rw [List.length_drop] at this
      simp at this
      omega
    refine .inl ⟨stop i hl, ?_⟩
    rw [hd] at w'
    exact Wt.ok' (E := E) (m := m') w' (t1.trans t') s' Dl xs hD0 b1 b2 b3 r'
  | cons d r =>
    obtain ⟨e1, e2⟩ := drop_get hd
    have hlt : i < ds.length := (List.getElem?_eq_some_iff.mp e1).1
    obtain ⟨g1, g2⟩ := go i d e1
    rw [hd] at w'
    refine .inr ⟨g1, fun H2 => ∃ acc xs B' ρ' m', Ste B1 ρ1 H1 B' ρ' H2 ∧ Sim X.K B' ρ' m' H2 ∧ B' Dl = none ∧ ¬ own ρ' Dl ∧ H2 Dl = some (.lst xs) ∧ RepL X.K B' acc xs ∧
      Wt X.K B ρ H E (PFl X.K H Q) (noxO (compM2 (snds own') vs1 gt gc fi1 gt1 gc1 ge sd acc (ds.drop (i + 1)) m')), ?_, ?_⟩
    · rintro H2 ⟨acc, xs, B2, ρ2, m2, q1, q2, q3, q4, q5, q6, q7⟩
      exact ⟨ds.length - (i + 1), by omega, acc, xs, B2, ρ2, m2, q1, q2, q3, q4, q5, q6, q7, rfl⟩
    · intro x H2 hy
      obtain ⟨B2, u1, u2, u3⟩ := g2 x H2 hy
      obtain ⟨b1, b2, b3⟩ := comp_turn u1 b1 b2 b3
      have rlc : RelS X.K B2 ρ' (L2.wipe σ (snds own')) (wipeD sd (snds own')) := RelS.wipe (((rl.ste t1).ste t').ste u1) _
      intro s0 H0 C cl fp
      obtain ⟨tgt, pg, kg⟩ := hg s0 H0 C cl fp
      intro pins ss u I rv
      refine pg.run pins ss _ H2 x u _ I rv ?_
      refine kg _ _ B2 ρ' m' H2 x d _ u2 rlc u3 ?_
      refine Wt.noxT (r := gt d (wipeD sd (snds own')) m') w' fun sd3 B3 ρ3 m3 H3 t3 s3 w3 σ3 l3 c3 rl3 => ⟨?_, ?_⟩
      · have e3 : L2.wipe σ3 (snds own') = L2.wipe (L2.wipe σ (snds own')) (snds own') := wipe_same l3 fun i hi => c3 i fun z => hi (hj i z)
        rw [e3, wipe_wipe]
      · obtain ⟨b1, b2, b3⟩ := comp_turn t3 b1 b2 b3
        have r3 := (r'.mono u1.bb).mono t3.bb
        intro s0 H0 C cl fp
        obtain ⟨tt, pt, kt⟩ := ht s0 H0 C cl fp
        intro pins ss I
        refine pt.run pins ss σ3 H3 _ I ?_
        refine kt σ3 sd3 B3 ρ3 m3 H3 _ s3 rl3 ?_
        refine Wt.noxT (r := gc sd3 m3) w3 fun z B4 ρ4 m4 H4 t4 s4 w4 => ?_
        obtain ⟨b1, b2, b3⟩ := comp_turn t4 b1 b2 b3
        have r4 := r3.mono t4.bb
        have tt4 : Ste B1 ρ1 H1 B4 ρ4 H4 := ((t'.trans u1).trans t3).trans t4
        have rl4 := rl3.ste t4
        cases z with
        | false =>
          refine ⟨acc, xs, B4, ρ4, m4, tt4, s4, b1, b2, b3, r4, ?_⟩
          rw [e2]
          exact w4
        | true =>
          intro s0 H0 C cl fp
          obtain ⟨wi1, pi1, ki1⟩ := hi1 s0 H0 C cl fp
          intro pins ss I
          refine pi1.run pins ss σ3 H4 _ I ?_
          refine ki1 σ3 sd3 B4 ρ4 m4 H4 _ s4 rl4 ?_
          refine Wt.noxT (r := fi1 sd3 m4) w4 fun es B5 ρ5 m5 H5 t5 s5 w5 J1 hJ1 => ?_
          obtain ⟨b1, b2, b3⟩ := comp_turn t5 b1 b2 b3
          have r5 := r4.mono t5.bb
          have tt5 := tt4.trans t5
          have rl5 := rl4.ste t5
          refine ⟨fun j k H' => ∃ acc xs B' ρ' m', Sub B5 B' ∧ RelS X.K B' ρ' σ3 sd3 ∧ Sim X.K B' ρ' m' H' ∧ Ste B1 ρ1 H1 B' ρ' H' ∧ B' Dl = none ∧ ¬ own ρ' Dl ∧ H' Dl = some (.lst xs) ∧ RepL X.K B' acc xs ∧
            Wt X.K B ρ H E (PFl X.K H Q) (noxO ((compM vs1 gt1 gc1 ge sd3 acc (es.drop j) m').bind fun acc' => compM2 (snds own') vs1 gt gc fi1 gt1 gc1 ge sd acc' r)) ∧ k = es.length - j,
            ⟨es.length, acc, xs, B5, ρ5, m5, Sub.refl _, rl5, s5, tt5, b1, b2, b3, r5, w5, rfl⟩, ?_⟩
          rintro j k H' ⟨acc, xs, B', ρ', m', v', rlv, s', vv, b1, b2, b3, r', w', rfl⟩
          obtain ⟨go1, stop1⟩ := hJ1 B' ρ' m' H' v' s'
          cases hd1 : es.drop j with
          | nil =>
            have hl : es.length ≤ j := by
              have := congrArg List.length hd1
              rw [List.length_drop] at this
              simp at this
              omega
            refine .inl ⟨stop1 j hl, acc, xs, B', ρ', m', vv, s', b1, b2, b3, r', ?_⟩
            rw [hd1] at w'
            rw [e2]
            exact w'
          | cons d1 q =>
            obtain ⟨f1, f2⟩ := drop_get hd1
            have hlt1 : j < es.length := (List.getElem?_eq_some_iff.mp f1).1
            obtain ⟨go2, yl2⟩ := go1 j d1 f1
            rw [hd1] at w'
            refine .inr ⟨go2, fun H2 => ∃ acc xs B' ρ' m', Sub B5 B' ∧ RelS X.K B' ρ' σ3 sd3 ∧ Sim X.K B' ρ' m' H2 ∧ Ste B1 ρ1 H1 B' ρ' H2 ∧ B' Dl = none ∧ ¬ own ρ' Dl ∧ H2 Dl = some (.lst xs) ∧ RepL X.K B' acc xs ∧
              Wt X.K B ρ H E (PFl X.K H Q) (noxO ((compM vs1 gt1 gc1 ge sd3 acc (es.drop (j + 1)) m').bind fun acc' => compM2 (snds own') vs1 gt gc fi1 gt1 gc1 ge sd acc' r)), ?_, ?_⟩
            · rintro H2 ⟨acc, xs, B2, ρ2, m2, q1, qr, q2, q2', q3, q4, q5, q6, q7⟩
              exact ⟨es.length - (j + 1), by omega, acc, xs, B2, ρ2, m2, q1, qr, q2, q2', q3, q4, q5, q6, q7, rfl⟩
            · intro y H2 hy
              obtain ⟨B6, y1, y2, y3⟩ := yl2 y H2 hy
              obtain ⟨b1, b2, b3⟩ := comp_turn y1 b1 b2 b3
              have rlc1 : RelS X.K B6 ρ' (L2.wipe σ3 vs1) (wipeD sd3 vs1) := RelS.wipe (rlv.ste y1) _
              have w7 : Wt X.K B ρ H E (PFl X.K H Q) (noxO ((M.bind (gt1 d1 (wipeD sd3 vs1)) (fun sd2 => M.bind (gc1 sd2) fun b => if b = true then M.bind (ge sd2) fun y => if acc.length < 16777216 then compM vs1 gt1 gc1 ge sd3 (acc ++ [y]) q else bad else compM vs1 gt1 gc1 ge sd3 acc q) m').bind fun acc' => compM2 (snds own') vs1 gt gc fi1 gt1 gc1 ge sd acc' r)) := w'
              unfold M.bind at w7
              rw [Out.bind_assoc] at w7
              intro s0 H0 C cl fp
              obtain ⟨tgt1, pg1, kg1⟩ := hg1 s0 H0 C cl fp
              intro pins ss u I rv
              refine pg1.run pins ss _ H2 y u _ I rv ?_
              refine kg1 _ _ B6 ρ' m' H2 y d1 _ y2 rlc1 y3 ?_
              refine Wt.noxT (r := gt1 d1 (wipeD sd3 vs1) m') w7 fun sd6 B7 ρ7 m7 H7 t7 s7 w8 σ6 l6 c6 rl6 => ⟨?_, ?_⟩
              · have e3 : L2.wipe σ6 vs1 = L2.wipe (L2.wipe σ3 vs1) vs1 := wipe_same l6 fun i hi => c6 i fun z => hi (hj1 i z)
                rw [e3, wipe_wipe]
              · obtain ⟨b1, b2, b3⟩ := comp_turn t7 b1 b2 b3
                have r7 := (r'.mono y1.bb).mono t7.bb
                intro s0 H0 C cl fp
                obtain ⟨tt1, pt1, kt1⟩ := ht1 s0 H0 C cl fp
                intro pins ss I
                refine pt1.run pins ss σ6 H7 _ I ?_
                refine kt1 σ6 sd6 B7 ρ7 m7 H7 _ s7 rl6 ?_
                rw [Out.bind_assoc] at w8
                refine Wt.noxT (r := gc1 sd6 m7) w8 fun z B8 ρ8 m8 H8 t8 s8 w9 => ?_
                obtain ⟨b1, b2, b3⟩ := comp_turn t8 b1 b2 b3
                have r8 := r7.mono t8.bb
                have rl8 : RelS X.K B8 ρ8 σ3 sd3 := ((rlv.ste y1).ste t7).ste t8
                have tt8 : Sub B5 B8 := ((v'.trans y1.bb).trans t7.bb).trans t8.bb
                have vv8 : Ste B1 ρ1 H1 B8 ρ8 H8 := ((vv.trans y1).trans t7).trans t8
                cases z with
                | false =>
                  refine ⟨acc, xs, B8, ρ8, m8, tt8, rl8, s8, vv8, b1, b2, b3, r8, ?_⟩
                  rw [f2]
                  exact w9
                | true =>
                  intro s0 H0 C cl fp
                  obtain ⟨te, pe, ke⟩ := he s0 H0 C cl fp
                  intro pins ss I
                  refine pe.run pins ss σ6 H8 _ I ?_
                  refine ke σ6 sd6 B8 ρ8 m8 H8 _ s8 (rl6.ste t8) ?_
                  have w10 : Wt X.K B ρ H E (PFl X.K H Q) (noxO (((ge sd6 m8).bind (fun y => if acc.length < 16777216 then compM vs1 gt1 gc1 ge sd3 (acc ++ [y]) q else bad)).bind fun acc' => compM2 (snds own') vs1 gt gc fi1 gt1 gc1 ge sd acc' r)) := w9
                  rw [Out.bind_assoc] at w10
                  refine Wt.noxT (r := ge sd6 m8) w10 fun y B9 ρ9 m9 H9 t9 s9 w11 v rv => ?_
                  obtain ⟨b1, b2, b3⟩ := comp_turn t9 b1 b2 b3
                  have r9 := r8.mono t9.bb
                  have w12 : Wt X.K B ρ H E (PFl X.K H Q) (noxO (((if acc.length < 16777216 then compM vs1 gt1 gc1 ge sd3 (acc ++ [y]) q else bad : M (List D)) m9).bind fun acc' => compM2 (snds own') vs1 gt gc fi1 gt1 gc1 ge sd acc' r)) := w11
                  split at w12
                  · rename_i hl
                    refine ⟨xs, b3, by rw [r9.length, sl16]; exact hl, acc ++ [y], xs ++ [v], B9, ρ9, m9, ?_, rl8.ste t9, s9.chH b1 b2, (vv8.trans t9).ch hD, b1, b2, upd_same, r9.append (RepL.one rv), ?_⟩
                    · exact tt8.trans t9.bb
                    · rw [f2]
                      exact w12
                  · exact w12.elim
abbrev lcM2 (vs vs1 : List Nat) (fi : SD → M (List D)) (gt : D → SD → M SD) (gc : SD → M Bool) (fi1 : SD → M (List D)) (gt1 : D → SD → M SD) (gc1 : SD → M Bool) (ge : SD → M D) : SD → M (List D) := fun sd => M.bind (fi sd) fun ds => nox (compM2 vs vs1 gt gc fi1 gt1 gc1 ge sd [] ds)
theorem sf_lc2 {js js1 vs1 : List Nat} {ifs ifs1 : List Expr} {scope : Scope} {own' : List (Str × Nat)} {fi fi1 : SD → M (List D)} {gt gt1 : D → SD → M SD} {gc gc1 : SD → M Bool} {ge : SD → M D} (hc : X.calm = true) (hN : X.N.Nodup) (hi : SI X E tg iter fi)
    (ok : blkC X.N X.env.scope scope own' = true) (hv : ∀ i ∈ vs1, i ∈ snds own') (hj : ∀ j ∈ js, j ∈ snds own') (hj1 : ∀ j ∈ js1, j ∈ vs1)
    (hg : InB X scope fun Y => SG Y E0 js tg gt) (ht : InB X scope fun Y => STs Y E0 ifs gc) (hi1 : InB X scope fun Y => SI Y E0 tg1 iter1 fi1) (hg1 : InB X scope fun Y => SG Y E0 js1 tg1 gt1) (ht1 : InB X scope fun Y => STs Y E0 ifs1 gc1) (he : InB X scope fun Y => SE Y E0 elt ge)
    (hs : ∀ x, foldedSetIterable iter X.env x = pure x := by intro _; rfl) (hs1 : ∀ env x, foldedSetIterable iter1 env x = pure x := by intro _ _; rfl) :
    SF X E (.ListComp elt [⟨tg, iter, ifs, 0⟩, ⟨tg1, iter1, ifs1, 0⟩] scope pos) (lcM2 (snds own') vs1 fi gt gc fi1 gt1 gc1 ge) := by
  obtain ⟨wi, pi, ki⟩ := hi
  exact ⟨_, pe_lc2 hc hN pi (blkOk_by ok) hv gB_ok tB_ok iB_ok gB_ok tB_ok eB_ok hs hs1, lc2_read ki hj hj1 hg ht hi1 hg1 ht1 he⟩
theorem ss_setLc2 {js js1 vs1 : List Nat} {ifs ifs1 : List Expr} {scope : Scope} {own' : List (Str × Nat)} {fi fi1 : SD → M (List D)} {gt gt1 : D → SD → M SD} {gc gc1 : SD → M Bool} {ge : SD → M D} {i : Nat} {x : Str} {px sp : Pos} (hc : X.calm = true) (hN : X.N.Nodup) (hi : SI X E tg iter fi)
    (ok : blkC X.N X.env.scope scope own' = true) (hv : ∀ i ∈ vs1, i ∈ snds own') (hj : ∀ j ∈ js, j ∈ snds own') (hj1 : ∀ j ∈ js1, j ∈ vs1)
    (hg : InB X scope fun Y => SG Y E0 js tg gt) (ht : InB X scope fun Y => STs Y E0 ifs gc) (hi1 : InB X scope fun Y => SI Y E0 tg1 iter1 fi1) (hg1 : InB X scope fun Y => SG Y E0 js1 tg1 gt1) (ht1 : InB X scope fun Y => STs Y E0 ifs1 gc1) (he : InB X scope fun Y => SE Y E0 elt ge)
    (hsw : swapsWith (.ListComp elt [⟨tg, iter, ifs, 0⟩, ⟨tg1, iter1, ifs1, 0⟩] scope pos) (some (.Name x px)) sp.line X.env = pure true) (hx : X.N[i]? = some x := by rfl) (hxl : X.env.scope.names.lookup x = some .local := by rfl)
    (hs : ∀ x, foldedSetIterable iter X.env x = pure x := by intro _; rfl) (hs1 : ∀ env x, foldedSetIterable iter1 env x = pure x := by intro _ _; rfl) :
    SS X E (.Assign [.Name x px] (.ListComp elt [⟨tg, iter, ifs, 0⟩, ⟨tg1, iter1, ifs1, 0⟩] scope pos) sp) (setLV i (lcM2 (snds own') vs1 fi gt gc fi1 gt1 gc1 ge)) := by
  obtain ⟨wi, pi, ki⟩ := hi
  refine ⟨_, ps_setLc2 hc hN hx hxl hsw pi (blkOk_by ok) hv gB_ok tB_ok iB_ok gB_ok tB_ok eB_ok hs hs1, fun De σ sd B ρ m H s rl w => lc2_read (E := E) ki hj hj1 hg ht hi1 hg1 ht1 he σ sd B ρ m H _ s rl ?_⟩
  refine Wt.bindO (r := (lcM2 (snds own') vs1 fi gt gc fi1 gt1 gc1 ge) sd m) w fun ds B1 ρ1 m1 H1 t1 s1 w1 p xs h0 hb ho hp r => ?_
  exact Wt.ok' w1 (t1.still h0 hb) (s1.still hb hp ho) _ ((rl.ste (t1.still h0 hb)).set i ⟨p, xs, rfl, upd_same, r.mono (Sub.upd hb)⟩)
end
end Mi
set_option maxRecDepth 100000
set_option maxHeartbeats 4000000
/-! The layer Mi, part Nc1: an exception that was caught stays known behind the try. -/
namespace Mi
open PySem PySem.Spec PyProof.Rows L2
theorem xcO_ok {P : Program} {w : World} {H : Hp} {h : Heap} {a : Addr} {cls : Value} {oe : Obj} {vs : Array Value} (e : h.get? a = some oe) (z : Zc cls none oe) (q : oe.data = .fields vs) : ObjOk P w H h a (XcO cls a) :=
  ⟨⟨oe, vs, e, z, q⟩, ⟨oe, e⟩, fun h1 h2 ⟨oe1, vs1, e1, z1, q1⟩ k => ⟨oe1, vs1, k _ e1, z1, q1⟩⟩
section
variable {X : Cx} {pins : List (Addr × Obj)} {σ : L2.St} {H : Hp} {s : Shared}
/-- an object of this frame's own time, not tracked so far, is tracked from now on -/
theorem inv_know {a : Addr} {o : HO} {oe : Obj} {vs : Array Value} (I : Inv X pins σ H s) (h0 : X.s_0.heap.get? a = none) (hn : H a = none) (he : s.heap.get? a = some oe) (hd : oe.data = .fields vs) (hp : ∀ p ∈ X.pn ++ pins, p.1 ≠ a)
    (new : ObjOk X.prog X.w (upd H a o) s.heap a o) : Inv X pins σ (upd H a o) s := by
  have nl : X.env.locals ≠ a := by
    intro z
    obtain ⟨m, ⟨ol, es, ep, e1, e2, _⟩, _⟩ := I.loc
    rw [z, he] at e1
    cases e1
    rw [hd] at e2
    cases e2
  have nc : ∀ x c, X.env.cells.lookup x = some c → c ≠ a := by
    intro x c hx z
    obtain ⟨v, ol, e1, e2⟩ := I.cell x c hx
    rw [z, he] at e1
    cases e1
    rw [hd] at e2
    cases e2
  have ne0 : ∀ b ob, X.s_0.heap.get? b = some ob → b ≠ a := by
    intro b ob e z
    rw [z, h0] at e
    cases e
  have neH : ∀ b u, H b = some u → b ≠ a := by
    intro b u e z
    rw [z, hn] at e
    cases e
  refine ⟨I.ok, I.os, I.bare, ⟨I.base.keep, I.base.slot, ?_, I.base.there, ?_, ?_, ?_⟩, I.loc, I.cell, ?_, ?_, ?_, I.hok.laidN (fun _ _ z => z) hn new, I.len⟩
  · intro b ob e n hx
    rw [upd_ne (ne0 b ob e)]
    exact I.base.free b ob e n hx
  · intro b xs e
    have q := I.base.tups b xs e
    rw [upd_ne (neH b _ q)]
    exact q
  · intro b ob u e
    have q := I.base.frzs b ob u e
    rw [upd_ne (neH b _ q)]
    exact q
  · intro b ps e
    obtain ⟨mo, q⟩ := I.base.tbls b ps e
    exact ⟨mo, by rw [upd_ne (neH b _ q)]; exact q⟩
  · rw [upd_ne nl]
    exact I.free
  · intro x c e
    rw [upd_ne (nc x c e)]
    exact I.freeC x c e
  · intro p h
    obtain ⟨q1, q2, q3⟩ := I.pin p h
    exact ⟨q1, by rw [upd_ne (hp p h)]; exact q2, q3⟩
end
/-- .. its ends, the exception at a of the class cls known -/
def endsL (D : Ends) (i : Nat) (a : Addr) (cls : Value) : Ends where
  nx := fun σ H => D.nx (σ.set i none) (upd H a (XcO cls a))
  rt := fun v H => D.rt v (upd H a (XcO cls a))
  bk := fun σ H => D.bk (σ.set i none) (upd H a (XcO cls a))
  ct := fun σ H => D.ct (σ.set i none) (upd H a (XcO cls a))
/-- the wish of 'except x as n' (n: slot i), for exceptions without attributes -/
def wAsL (K : PySem.W.Frag) (c : Value) (i : Nat) (ts : Addr → Value → TS) (Wo : WX) (D : Ends) : WX := fun cls d σ H =>
  ∃ b, PySem.W.exmOne K cls c = some b ∧ (b = true → d = none ∧ ∀ a, H a = none → ts a cls (endsL D i a cls) (σ.set i (some (.ref a))) H) ∧ (b = false → Wo cls d σ H)
section
variable {X : Cx} {x n : Str} {c : Value} {i : Nat} {body su : List Stmt} {b₀ : Stmt} {np p1 p2 : Pos} {tb : WX → TS} {ts : Addr → Value → TS} {Wo : WX}
theorem ps_try_asL (hex : X.ex = []) (hs : X.stack = X.env :: X.outer) (hf : X.env.frame = some X.env.locals) (hN : X.N.Nodup) (hi : X.N[i]? = some n) (hln : X.env.kindOf n = some .local) (hc : Names X x c) (tk : Takes X Wo)
    (hb : ∀ (W : WX) (pn : List (Addr × Obj)) (xe : Value → Shared → Prop), Takes (X.tr pn xe) W → PassesOwn (model X.prog X.w) X.A X.env xe → PSs (X.tr pn xe) body (tb W))
    (hsu : ∀ (a : Addr) (oe : Obj) (cls : Value) (pn : List (Addr × Obj)), Zc cls none oe → (∃ vs, oe.data = .fields vs) → PSs (X.suite a ((a, oe) :: pn)) (b₀ :: su) (ts a cls)) :
    PS X (.Try body [.ExceptHandler (some (.Name x np)) (some n) (b₀ :: su) p2] [] [] p1) (fun D σ H => tb (wAsL X.K c i ts Wo D) D σ H) := by
  constructor
  intro pins s σ H D I hyp
  have okX := I.ok
  have fr : X.A.frames = some (X.env :: X.outer) := okX.frames.trans (congrArg some hs)
  have lcl : Loc X.env.scope n := .inl hln
  apply wpAny_Try_except
  have caught : ∀ (u : Value) (sh : Shared), XE (X.tr (X.pn ++ pins) (fun e s₁ => wpAny (model X.prog X.w) X.A (noteFrame e X.env) (fun _ s₂ => wpAny (model X.prog X.w) X.A (setFlight e none) (fun _ s₃ =>
      wpAny (model X.prog X.w) X.A (handleBy e X.env [.ExceptHandler (some (.Name x np)) (some n) (b₀ :: su) p2]) (SP X pins D) X.xe s₃) X.xe s₂) X.xe s₁)) (wAsL X.K c i ts Wo D) u sh →
      wpAny (model X.prog X.w) X.A (noteFrame u X.env) (fun _ s₂ => wpAny (model X.prog X.w) X.A (setFlight u none) (fun _ s₃ =>
      wpAny (model X.prog X.w) X.A (handleBy u X.env [.ExceptHandler (some (.Name x np)) (some n) (b₀ :: su) p2]) (SP X pins D) X.xe s₃) X.xe s₂) X.xe sh := by
    rintro u sh ⟨a, G, sI, pinsI, σI, HI, cls, d, rfl, Ji, ground, ups, sky, free, eos, eag, b, hyb, yes, no⟩
    have Jx : Inv X pins σI HI sI := Ji.ofTry okX
    have sky2 : Sky G (X.env :: X.outer) a (Zc cls d) X.env.locals sh.heap := hs ▸ sky
    apply Sky.land Zc.steady fr hf sky2
    intro hp3 fly up3
    have J3 : Inv X pins σI HI { sh with heap := hp3 } := Jx.landed ground fly.1 (ups.trans up3) eos eag
    obtain ⟨o3, v3, at3, z3, dt3⟩ := fly.there
    have aG : G.get? a = none := fly.2.1
    have noFrame : a ∉ frs (X.env :: X.outer) := by
      intro hm
      obtain ⟨_, o', e', hnf⟩ := fly.2.2.1.mem hm
      rw [at3] at e'
      cases e'
      exact hnf _ dt3
    have noFrameS : a ∉ frs X.stack := by rw [hs]; exact noFrame
    have aI : sI.heap.get? a = none := by
      cases q : sI.heap.get? a with
      | none => rfl
      | some oo =>
        have z := ground a oo q noFrameS
        rw [aG] at z
        cases z
    have a0 : X.s_0.heap.get? a = none := by
      cases q : X.s_0.heap.get? a with
      | none => rfl
      | some oo =>
        obtain ⟨o', z⟩ := Jx.base.there a oo q (by rw [hex]; simp)
        rw [aI] at z
        cases z
    have pinNe : ∀ p ∈ X.pn ++ pins, p.1 ≠ a := by
      intro p hm z
      have q := (Jx.pin p hm).1
      rw [z, aI] at q
      cases q
    have nL : a ≠ X.env.locals := by
      intro z
      exact noFrame (List.mem_filterMap.mpr ⟨X.env, List.mem_cons_self, by rw [hf, z]⟩)
    have nF : a ∉ X.fs := by
      intro hm
      obtain ⟨en, hen, q⟩ := List.mem_filterMap.mp hm
      exact noFrame (List.mem_filterMap.mpr ⟨en, List.mem_cons_of_mem _ hen, q⟩)
    have su3 := J3.suite at3 dt3 free nL nF
    apply wpAny_handleBy_cons
    · apply codeAny_handlers_test
      have kind : PySem.W.Looks (model X.prog X.w) hp3 (typeOf (.ref a)) cls := by
        intro A2 Q2 E2 s2 kk q
        exact wpAny_typeOf_ref (kk _ _ at3) (by rw [z3.1]; exact q)
      have match_ := PySem.W.exm_one (M := model X.prog X.w) J3.kIn kind hyb
      have name_ : ∀ {Q2 E2 : Value → Shared → Prop}, Q2 c { sh with heap := hp3 } → wpAny (model X.prog X.w) (X.A.mark (some (.ref a))) (eval (.Name x np) X.env) Q2 E2 { sh with heap := hp3 } := by
        intro Q2 E2 q
        obtain ⟨hgl, hdg, hm | ⟨hm, hv, hnn⟩⟩ := hc
        · exact ld_glob (X := X.suite a ((a, o3) :: (X.pn ++ pins))) su3 hgl hm q hdg
        · exact ld_blt (X := X.suite a ((a, o3) :: (X.pn ++ pins))) su3 hgl hm hv q hnn hdg
      apply name_
      apply match_.here
      cases b with
      | true =>
        apply codeAny_handlers_suite_as
        apply HandSPX.lands_againZ fly
        intro hp4 fly4 up4
        obtain ⟨dn, yes2⟩ := yes rfl
        subst dn
        have J4 : Inv X pins σI HI { sh with heap := hp4 } := Jx.landed ground fly4.1 ((ups.trans up3).trans up4) eos eag
        obtain ⟨o4, v4, at4, z4, dt4⟩ := fly4.there
        have su4 := J4.suite at4 dt4 free nL nF
        apply store_ok (X := X.suite a ((a, o4) :: (X.pn ++ pins))) (v := .ref a) su4 hN hi lcl rfl ?_ (.inr hln)
        intro s5 su5
        refine wpAny_mono ((hsu a o4 cls (X.pn ++ pins) z4 ⟨_, dt4⟩).run [] s5 _ HI _ su5 (yes2 a free)) ?_ (fun _ _ z => z.elim)
        intro fl s6 post
        have leave : ∀ {σ6 : L2.St} {H6 : Hp} {R : Shared → Prop}, Inv (X.suite a ((a, o4) :: (X.pn ++ pins))) [] σ6 H6 s6 → (∀ s7, Inv X pins (σ6.set i none) (upd H6 a (XcO cls a)) s7 → R s7) →
            wpAny (model X.prog X.w) X.A (do bindName X.env n .none; unbindBehindTheSuite X.env n p2) (fun _ s7 => R s7) X.xe s6 := by
          intro σ6 H6 R u6 k
          have pinA := u6.pin (a, o4) (List.mem_append_left _ List.mem_cons_self)
          have v6 : Inv X pins σ6 (upd H6 a (XcO cls a)) s6 := inv_know (u6.unsuite okX) a0 pinA.2.1 pinA.1 dt4 pinNe (xcO_ok pinA.1 z4 dt4)
          exact gone_ok v6 hN hi hln k
        cases fl with
        | next =>
          obtain ⟨_, _, u6, q6⟩ := post
          exact leave u6 fun s7 J7 => ⟨_, _, J7, q6⟩
        | brk =>
          obtain ⟨_, _, u6, q6⟩ := post
          exact leave u6 fun s7 J7 => ⟨_, _, J7, q6⟩
        | cont =>
          obtain ⟨_, _, u6, q6⟩ := post
          exact leave u6 fun s7 J7 => ⟨_, _, J7, q6⟩
        | ret u =>
          obtain ⟨_, _, _, u6, r6, q6⟩ := post
          exact leave u6 fun s7 J7 => ⟨_, _, _, J7, r6, q6⟩
      | false =>
        show wpAny _ X.A (handleBy (.ref a) X.env []) _ _ _
        apply wpAny_handleBy_nil
        obtain ⟨k1, k2, k3, oe, vs, T, oT, ts', heT, hzT, hdT, h1T, hrT⟩ := id fly
        unfold PySem.passOn
        apply wpAny_bind
        apply wpAny_field heT hdT h1T
        rw [if_neg (show ¬ ((Value.ref T == Value.none) = true) from by simp)]
        have go : wpAny (model X.prog X.w) X.A (setFlight (.ref a) X.env.frame) (fun _ s4 => wpAny (model X.prog X.w) X.A (throw (.ref a) : Sem Flow) (SP X pins D) X.xe s4) X.xe { sh with heap := hp3 } := by
          rw [hf]
          apply HandSPX.setFlight_upZ fly
          intro hp4 held4 up4
          apply wpAny_throw
          apply tk
          exact ⟨a, G, sI, pins, σI, HI, cls, d, rfl, Jx, ground, (ups.trans up3).trans up4, .inr (.inr (by rw [hs]; exact held4)), free, eos, eag, no rfl⟩
        first
          | exact wpAny_bind (wpAny_pure (wpAny_bind go))
          | exact wpAny_bind go
    · intro q
      cases q
  refine wpAny_mono ((hb (wAsL X.K c i ts Wo D) (X.pn ++ pins) _ caught PassesOwn.looking).run [] s σ H D (I.toTry _) hyp) ?_ (fun e s1 he => he)
  intro fl s1 post
  cases fl with
  | next =>
    obtain ⟨_, _, u1, q⟩ := post
    exact wpAny_execs_nil ⟨_, _, u1.ofTry okX, q⟩
  | brk =>
    obtain ⟨_, _, u1, q⟩ := post
    exact ⟨_, _, u1.ofTry okX, q⟩
  | cont =>
    obtain ⟨_, _, u1, q⟩ := post
    exact ⟨_, _, u1.ofTry okX, q⟩
  | ret u =>
    obtain ⟨_, _, _, u1, r, q⟩ := post
    exact ⟨_, _, _, u1.ofTry okX, r, q⟩
end
end Mi
set_option maxRecDepth 100000
set_option maxHeartbeats 4000000
/-! The layer Mi, part Nc2: _law_caught(lambda: ..), the tables of code objects told exactly. -/
namespace Mi
open PySem PySem.Spec PyProof.Rows L2 LamX
/-- behind the making of a lambda: nothing is new, or its code object is, and stands in the table -/
def Lam1 (H : Hp) (P : Addr) (q : Str) (ps : Array Value) (H1 : Hp) : Prop := H1 = H ∨ ∃ (c : Addr) (qs : Array Value), H1 = upd (upd H P (.tbl qs)) c (CodeO c q) ∧ H c = none ∧ TriplesOk qs.toList ∧
  ∀ (pos : Pos) (cv : Value), codeAmong pos qs.toList = some cv → codeAmong pos ps.toList = some cv ∨ cv = .ref c
/-- the table at P tells code objects of the name q -/
def TabQ (H : Hp) (P : Addr) (q : Str) (ps : Array Value) : Prop := H P = some (.tbl ps) ∧ TriplesOk ps.toList ∧ ∀ (pos : Pos) (cv : Value), codeAmong pos ps.toList = some cv → ∃ c, cv = .ref c ∧ H c = some (CodeO c q)
section
variable {X : Cx} {pins : List (Addr × Obj)} {σ : L2.St} {H : Hp} {s : Shared}
theorem lam_mk {c P : Addr} {ps : Array Value} {params : Arguments} {body : Expr} {scope : Scope} {pos : Pos} {E Q : Value → Shared → Prop} (I : Inv X pins σ H s) (TB : TabB X.base X.mg c P) (hcode : X.env.code = .ref c)
    (hT : TabQ H P (X.env.qual ++ "<lambda>") ps) (hdef : defaultsOf params X.env = ([], [])) (hfree : ∀ y ∈ scope.names, y.2 = .free → ∃ c, X.env.cells.lookup y.1 = some c)
    (k : ∀ (f c' : Addr) (pm ctv : Value) (H1 : Hp) (s' : Shared), Inv X pins σ H1 s' → Lam1 H P (X.env.qual ++ "<lambda>") ps H1 → H1 c' = some (CodeO c' (X.env.qual ++ "<lambda>")) → H1 f = none → f ∉ frs X.stack →
      s'.heap.get? f = some (PySem.W.kla_obj "<lambda>" (X.env.qual ++ "<lambda>") params body scope (cloFrom X.env.cells scope.names []) pm c' ctv) → Q (.ref f) s') :
    wpAny (model X.prog X.w) X.A (eval (.Lambda params body scope pos) X.env) Q E s := by
  obtain ⟨atP, tri, told⟩ := hT
  apply PySem.W.kla_eval hdef
  have bk : s.heap.BuiltinsAt X.mg P := TB.bm.keeps I.bk
  have getP : s.heap.get? P = some { cls := .none, data := .fields ps } := I.hok P _ atP
  have outer : ∀ f, s.heap.objs.size ≤ f → f ∉ frs X.stack := by
    intro f hf z
    rcases List.mem_cons.mp (I.stkSub _ z) with e | e
    · have q := I.lt
      rw [← e] at q
      exact Nat.not_le_of_lt q hf
    · exact I.nofs hf e
  cases q : codeAmong pos ps.toList with
  | some cv =>
    obtain ⟨c', e, known⟩ := told pos cv q
    subst e
    apply PySem.W.kla_makeFunctionHit (mg := X.mg) (c := c) (P := P) (ps := ps) (closure_ok hfree) I.ok.glob (I.mod.glob.keeps I.bk) hcode (TB.code.keeps I.bk) getP tri q bk
    intro ctv h' tk ext sz
    have J : Inv X pins σ H { s with heap := h'.push (PySem.W.kla_obj "<lambda>" (X.env.qual ++ "<lambda>") params body scope (cloFrom X.env.cells scope.names []) ((X.mg "__name__").getD .none) c' ctv), toks := tk } :=
      I.kept fun b o e => Heap.get?_push_of_some _ (ext b o e)
    exact k h'.objs.size c' _ ctv H _ J (.inl rfl) known (I.hok.fresh sz) (outer _ sz) (Heap.get?_push_size _ rfl)
  | none =>
    apply PySem.W.kla_makeFunction (mg := X.mg) (c := c) (P := P) (ps := ps) (closure_ok hfree) I.ok.glob (I.mod.glob.keeps I.bk) hcode (TB.code.keeps I.bk) getP tri q TB.gP bk
    intro c' ctv h' tk ext ge lt rec tab
    obtain ⟨c2, oc, vs, t, e2, at2, dt2, nm2⟩ := rec
    cases e2
    have sz : s.heap.objs.size ≤ h'.objs.size := Nat.le_trans ge (Nat.le_of_lt lt)
    have fresh : H c' = none := I.hok.fresh ge
    have J := inv_table (t' := tk) (more := #[rawInt pos.line, rawInt pos.col, .ref c']) (h' := h'.push (PySem.W.kla_obj "<lambda>" (X.env.qual ++ "<lambda>") params body scope (cloFrom X.env.cells scope.names []) ((X.mg "__name__").getD .none) c' ctv)) I atP
      (fun b o hb e => Heap.get?_push_of_some _ (ext b o hb e)) (Heap.get?_push_of_some _ tab) ge ⟨oc, vs, t, Heap.get?_push_of_some _ at2, dt2, nm2⟩
    have lst : (ps ++ #[rawInt pos.line, rawInt pos.col, .ref c']).toList = ps.toList ++ [rawInt pos.line, rawInt pos.col, .ref c'] := by simp
    refine k h'.objs.size c' _ ctv _ _ J (.inr ⟨c', _, rfl, fresh, ?_, ?_⟩) upd_same ?_ (outer _ sz) (Heap.get?_push_size _ rfl)
    · rw [lst]
      exact PySem.TriplesOk_snoc _ _ _ _ tri
    · intro p2 cv h2
      rw [lst] at h2
      exact among_app _ tri h2
    · have n1 : h'.objs.size ≠ c' := Nat.ne_of_gt lt
      have n2 : h'.objs.size ≠ P := Nat.ne_of_gt (Nat.lt_of_lt_of_le (Heap.lt_size getP) sz)
      rw [upd_ne n1, upd_ne n2]
      exact I.hok.fresh sz
end
def tLam1 (P : Addr) (q : Str) (TT : (XK → Hp → VK → Prop) → Hp → VK → Prop) (t : XK → TE) : TE := fun σ H Q => ∃ ps, TabQ H P q ps ∧ ∀ H1, Lam1 H P q ps H1 → TT (fun E H' Q' => t E σ H' Q') H1 Q
section
variable {X : Cx}
/-- x(lambda: body) -/
theorem pe_lam1 {TT : (XK → Hp → VK → Prop) → Hp → VK → Prop} {x a : Str} {g c P : Addr} {k : Nat} {pg : Arguments} {bg : List Stmt} {sg : Scope} {fd : FuncData} {Ng : List Str}
    {params : Arguments} {body : Expr} {scope : Scope} {t : XK → TE} {p lpos pos : Pos} (hg : Gl X x) (hm : X.mg x = some (.ref g))
    (FD : FunD X.K x x pg bg sg [] [] g fd) (hb : L2.Binds X.K fd [a] []) (Sg : FnScope Ng [a] sg) (hNg : Ng[0]? = some a) (hva : Vis sg a)
    (hG : ∀ cdg, GivesTo X Ng x sg g cdg bg a (X.env.qual ++ "<lambda>") TT)
    (TB : TabB X.base X.mg c P) (hcode : X.env.code = .ref c) (hr : Room (k + 2) X.A) (L : LamS X.env.scope scope) (hdef : defaultsOf params X.env = ([], []))
    (hbind : ∀ (q : Str) (cl : List (Str × Addr)) (pm cv ctv : Value), bindArgs (PySem.W.kla_fn "<lambda>" q params body scope cl pm cv ctv) ⟨[], []⟩ = pure [])
    (hbody : ∀ (A : Around) (outer : List Env) (s : Shared) (H : Hp) (E : XK) (f c' : Addr), Room k (A.deeper (lamEnv X scope s.heap.objs.size f c')) → PE (lamCx X A outer s H E scope f c') body (t E))
    (hdb : (x == ("__debug__" : Str)) = false := by decide) (hd : (a == ("__debug__" : Str)) = false := by decide) (hcd : (a == ("__classdict__" : Str)) = false := by decide) :
    PE X (.Call (.Name x p) [.Lambda params body scope lpos] [] pos) (tLam1 P (X.env.qual ++ "<lambda>") TT t) := by
  obtain ⟨⟨oc, od, dV, kV, doc, pm, an, cdv, ct, osl, rfl, lk, hcg, _, _⟩, hk⟩ := FD
  constructor
  intro pins s σ H Q I h
  obtain ⟨ps, hT, h⟩ := h
  apply wpAny_Call_Name_kw
  apply ld_glob I hg hm ?_ hdb
  apply PySem.W.callWith_K (h₀ := X.base) I.ok.mod.kin hk ?_ (by rfl) (by rfl)
  show wpAny _ _ (spliced ((false, eval (.Lambda params body scope lpos) X.env) :: backTo pos (starEach [] X.env))) _ _ s
  apply Calls.spliced_cons
  apply lam_mk I TB hcode hT hdef (L.has I.ok)
  intro f c' pm' ctv H1 s' I1 l1 hco hfn hfr hf
  apply Calls.spliced_nil
  refine ⟨I1.kIn, ?_⟩
  have run : codeAny (model X.prog X.w) X.A (.call (.ref g) ⟨[.ref f], []⟩) (CR C8.CX0 X.stack X.prog X.w H1 s' Q C8.E0) s' := by
    apply run_ofS (N := Ng) (ps := [a]) (us := [.ref f]) (vs := [.ref f]) lk hcg Sg hr I1.env0 (hb s' [.ref f] I1.kIn rfl) (.cons rfl .nil) rfl
    intro hr'
    obtain ⟨t', ht', hq'⟩ := hG cdv f c' s' H1 Q (fun E H' Q' => t E σ H' Q') (fun W pn xe E q1 q2 tk hW => pe_act (i := 0) I1 L hf hfn hfr (hbind _ _ _ _ _) tk hW hr' (fun A outer s H hr2 => hbody A outer s H E f c' hr2) hNg hva hd hcd) hco (h H1 l1)
    exact ⟨t', ht'.nox, hq'⟩
  apply wpAny_call
  apply codeAny_mono run
  intro r s2 hq
  cases r with
  | error e => exact (show False from hq).elim
  | ok fl =>
    cases fl with
    | ret u => exact I1.after hq
    | next => exact False.elim hq
    | brk => exact False.elim hq
    | cont => exact False.elim hq
/-- what _law_caught makes of the lambda's reading -/
def TCau (K : PySem.W.Frag) (CS : Addr) : (XK → Hp → VK → Prop) → Hp → VK → Prop := fun tl H Q =>
  tl (fun cls d H' => d = none ∧ PySem.W.exmOne K cls (.ref CS) = some true ∧ ∀ a, H' a = none → Q (.ref a) (upd H' a (XcO cls a))) H (fun _ H' => ∃ v, (some (some V.non) : Option (Option V)) = some (some v) ∧ Q v H')
theorem cau_gives {x w h e n q : Str} {sg : Scope} {g CS : Addr} {cdg : Value} {jj : Nat} {p14 p1 p2 p3 p4 p5 p6 p7 p8 p9 p10 p11 p12 p13 : Pos} (SC : FnScope [w, h, n] [w] sg) (hge : sg.names.lookup e = some .globalImplicit) (hme : X.mg e = some (.ref CS)) (hde : (e == ("__debug__" : Str)) = false)
    (hh : sg.names.lookup h = some .local) (hn : sg.names.lookup n = some .local) (hd : (n == ("__debug__" : Str)) = false) (hcd : (n == ("__classdict__" : Str)) = false) (hd2 : (h == ("__debug__" : Str)) = false) (hcd2 : (h == ("__classdict__" : Str)) = false)
    (hs1 : ∀ env, swapsWith (.Constant .none jj p1) (some (.Name h p2)) p3.line env = pure false) (hs2 : ∀ env, swapsWith (.Name n p7) (some (.Name h p8)) p9.line env = pure false) (hs3 : ∀ env, swapsWith (.Call (.Name w p4) [] [] p5) none p6.line env = pure false) :
    GivesTo X [w, h, n] x sg g cdg [.Assign [.Name h p2] (.Constant .none jj p1) p3, .Try [.Expr (.Call (.Name w p4) [] [] p5) p6] [.ExceptHandler (some (.Name e p10)) (some n) [.Assign [.Name h p8] (.Name n p7) p9] p11] [] [] p12, .Return (some (.Name h p13)) p14] w q (TCau X.K CS) := by
  intro f c' s H Q tl act hc hq
  have gl : Gl (cxOf C8.CX0 X.prog X.w X.K X.mg X.base [w, h, n] x sg g cdg X.A X.stack s H C8.E0).nox e := hge
  refine ⟨_, pss_cons (ps_set (i := 1) SC.nd rfl (.inl hh) pe_non (hs1 _)) (pss_cons (ps_try_asL (X := (cxOf C8.CX0 X.prog X.w X.K X.mg X.base [w, h, n] x sg g cdg X.A X.stack s H C8.E0).nox) (i := 2) (c := .ref CS) (ts := fun _ _ => tAsg (tVar 2) (gName 1))
      (tb := fun W D σ H => ∃ Ech : XK, (∀ cls d σ' H', Ech cls d H' → σ'.length = 3 → W cls d σ' H') ∧ σ[0]? = some (some (.ref f)) ∧ H c' = some (CodeO c' q) ∧ tl Ech H fun _ H' => D.nx σ H') rfl rfl rfl SC.nd rfl hn ⟨gl, hde, .inl hme⟩ LamX.takes0 ?_ ?_) (pss_one (ps_ret (pe_var (i := 1) rfl (.inl hh) hd2 hcd2)))), ?_⟩
  · intro W pn xe tk _
    have tk2 : Takes ((cxOf C8.CX0 X.prog X.w X.K X.mg X.base [w, h, n] x sg g cdg X.A X.stack s H C8.E0).nox.tr pn xe) (fun cls d σ' H' => σ'.length = 3 → W cls d σ' H') := by
      rintro u s2 ⟨a, G, sI, pinsI, σI, HI, cls, d, e1, J, r1, r2, r3, r4, r5, r6, wish⟩
      exact tk u s2 ⟨a, G, sI, pinsI, σI, HI, cls, d, e1, J, r1, r2, r3, r4, r5, r6, wish J.len⟩
    constructor
    intro pins s2 σ2 H2 D I hw
    obtain ⟨Ech, k, h1, h2, h3⟩ := hw
    have step := act _ pn xe Ech p4 p5 tk2 k
    exact (pss_one (ps_expr step (hs3 _))).run pins s2 σ2 H2 D I ⟨h1, h2, h3⟩
  · intro a oe cls pn _ _
    exact pss_one (ps_set (i := 1) SC.nd rfl (.inl hh) (pe_var (i := 2) rfl (.inl hn) hd hcd) (hs2 _))
  · refine ⟨fun cls d H' => d = none ∧ PySem.W.exmOne X.K cls (.ref CS) = some true ∧ ∀ a, H' a = none → Q (.ref a) (upd H' a (XcO cls a)), ?_, rfl, hc, ?_⟩
    · rintro cls d σ' H' ⟨e1, e2, e3⟩ hl
      refine ⟨true, e2, fun _ => ⟨e1, fun a ha => ?_⟩, fun z => by cases z⟩
      match σ', hl with
      | [u0, u1, u2], _ => exact ⟨.ref a, rfl, .ref a, rfl, e3 a ha⟩
    · exact hq
end
end Mi
set_option maxRecDepth 100000
set_option maxHeartbeats 4000000
/-! The layer Mi, part Nc3: what _law_caught hands back, isinstance of it. -/
namespace Mi
open PySem PySem.Spec PyProof.Rows L2 LamX
/-- the module's _law_caught -/
def CauDef (K : PySem.W.Frag) (mg : Str → Option Value) : Prop := mg "_law_caught" = some (.ref (He.ga K "_law_caught")) ∧ ∀ (X : Cx), X.K = K → X.mg = mg → ∀ q, ∃ (pg : Arguments) (bg : List Stmt) (sg : Scope) (fd : FuncData) (Ng : List Str) (a : Str),
  FunD K "_law_caught" "_law_caught" pg bg sg [] [] (He.ga K "_law_caught") fd ∧ L2.Binds K fd [a] [] ∧ FnScope Ng [a] sg ∧ Ng[0]? = some a ∧ Vis sg a ∧ (a == ("__debug__" : Str)) = false ∧ (a == ("__classdict__" : Str)) = false ∧
  ∀ cdg, GivesTo X Ng "_law_caught" sg (He.ga K "_law_caught") cdg bg a q (TCau K (He.ga K "SplitError"))
/-- the classes Ls lie below SplitError -/
def Below (K : PySem.W.Frag) (Ls : List Str) : Prop := ∀ c, Ls.contains c = true → PySem.W.exmOne K (.ref (He.ga K c)) (.ref (He.ga K "SplitError")) = some true
def caughtV (Ls : List Str) (n : Nat) (x q : Str) (f : SD → M D) : SD → M D := fun sd m => match m[n]? with
  | some (.tab y p) => if y = x ∧ p = q then (match f sd m with
    | .ok _ m' => .ok .non m'
    | .exc c [] m' => if Ls.contains c = true then .ok (.ex c) m' else .bad
    | _ => .bad) else .bad
  | _ => .bad
/-- a lambda's body lets out what the lambda may -/
theorem lam_takes {X : Cx} {A : Around} {outer : List Env} {s : Shared} {H : Hp} {E : XK} {scope : Scope} {f c' : Addr} : Takes (LamX.lamCx X A outer s H E scope f c') (fun cls d _ H => E cls d H) :=
  takes_of (X := LamX.lamCx X A outer s H E scope f c') (E := E) rfl rfl rfl rfl
theorem lam_pass {X : Cx} {A : Around} {outer : List Env} {s : Shared} {H : Hp} {E : XK} {scope : Scope} {f c' : Addr} : Passes (L2.CX X.prog X.w) (LamX.lamCx X A outer s H E scope f c') E :=
  passes_call (X := LamX.lamCx X A outer s H E scope f c') lam_takes (fun _ _ _ _ h => h)
section
variable {X : Cx} {E : XK} {K : PySem.W.Frag} {B : Hp} {ρ : Rho} {m : Mem} {H : Hp} {pos : Pos}
theorem Sim.lam {n : Nat} {x q : Str} {H1 : Hp} (s : Sim K B ρ m H) (hm : m[n]? = some (.tab x q)) : ∃ ps, TabQ H (tabA K x) q ps ∧ ∀ H1, Lam1 H (tabA K x) q ps H1 → ∃ B1, Ste B ρ H B1 ρ H1 ∧ Sim K B1 ρ m H1 := by
  have hn : n < ρ.length := by
    rw [s.len]
    exact (List.getElem?_eq_some_iff.mp hm).1
  have hp : ρ[n]? = some ρ[n] := List.getElem?_eq_getElem hn
  obtain ⟨z0, z1, z2, ps, z3, z4, z5⟩ := s.mo n _ _ hp hm
  rw [z0] at z1 z3
  refine ⟨ps, ⟨z3, z4, fun pos cv e => ?_⟩, fun H1 l => ?_⟩
  · obtain ⟨c, e1, e2⟩ := z5 pos cv e
    exact ⟨c, e1, s.ex _ _ e2⟩
  · rcases l with rfl | ⟨c, qs, rfl, fr, tri, told⟩
    · exact ⟨B, Ste.refl _ _ _, s⟩
    · have ne : tabA K x ≠ c := fun z => by rw [z, fr] at z3; cases z3
      have s1 := s.new (o := CodeO c q) fr
      have sw : upd (upd H (tabA K x) (.tbl qs)) c (CodeO c q) = upd (upd H c (CodeO c q)) (tabA K x) (.tbl qs) := by
        funext a
        by_cases h1 : a = c
        · rw [h1, upd_same, upd_ne (Ne.symm ne), upd_same]
        · rw [upd_ne h1]
          by_cases h2 : a = tabA K x
          · rw [h2, upd_same, upd_same]
          · rw [upd_ne h2, upd_ne h2, upd_ne h1]
      rw [sw]
      have keep : ∀ a u, ¬ (a = ρ[n].1 ∨ a ∈ ρ[n].2) → upd H c (CodeO c q) a = some u → upd (upd H c (CodeO c q)) (tabA K x) (.tbl qs) a = some u := fun a u h e => by
        rw [upd_ne (fun z => h (.inl (z.trans z0.symm)))]
        exact e
      have own0 : ∀ a, (a = ρ[n].1 ∨ a ∈ ρ[n].2) → upd B c (CodeO c q) a = none := fun a h => by
        rcases h with h | h
        · rw [h, z0, upd_ne ne]
          exact z1
        · rw [z2] at h
          cases h
      have s2 := s1.write (o := .tab x q) hp own0 keep ⟨z0, by rw [z0, upd_ne ne]; exact z1, z2, qs, by rw [z0, upd_same], tri, fun p2 cv e => ?_⟩
      · have em : m.set n (.tab x q) = m := by
          apply List.ext_getElem?
          intro j
          by_cases hj : n = j
          · subst hj
            rw [List.getElem?_set_self (by rw [← s.len]; exact hn), hm]
          · rw [List.getElem?_set_ne hj]
        rw [em] at s2
        exact ⟨_, (Ste.new s.ex fr).trans (Ste.write hp keep), s2⟩
      · rcases told p2 cv e with h | h
        · obtain ⟨c2, e1, e2⟩ := z5 p2 cv h
          exact ⟨c2, e1, by rw [upd_ne (ne_of_none e2 (s.bnone fr))]; exact e2⟩
        · exact ⟨c, h, upd_same⟩
theorem se_caught {Ls : List Str} {n k : Nat} {x qu : Str} {params : Arguments} {body : Expr} {scope : Scope} {p lpos : Pos} {fb : SD → M D} (CD : CauDef X.K X.mg) (hL : Below X.K Ls)
    (TB : TabB X.base X.mg (codeA X.K x) (tabA X.K x)) (hcode : X.env.code = .ref (codeA X.K x)) (hq : X.env.qual ++ "<lambda>" = qu) (hr : Room (k + 2) X.A) (L : LamS X.env.scope scope) (hdef : defaultsOf params X.env = ([], []))
    (hbind : ∀ (q : Str) (cl : List (Str × Addr)) (pm cv ctv : Value), bindArgs (PySem.W.kla_fn "<lambda>" q params body scope cl pm cv ctv) ⟨[], []⟩ = pure [])
    (hb : ∀ (A : Around) (outer : List Env) (s : Shared) (H : Hp) (E : XK) (f c' : Addr), Room k (A.deeper (lamEnv X scope s.heap.objs.size f c')) → Passes (L2.CX (lamCx X A outer s H E scope f c').prog (lamCx X A outer s H E scope f c').w) (lamCx X A outer s H E scope f c') E → SE (lamCx X A outer s H E scope f c') E body fb) (hg : Gl X "_law_caught" := by rfl) :
    SE X E (.Call (.Name "_law_caught" p) [.Lambda params body scope lpos] [] pos) (caughtV Ls n x qu fb) := by
  subst hq
  obtain ⟨hm, CD⟩ := CD
  obtain ⟨pg, bg, sg, fd, Ng, a, FD, hbd, Sg, hNg, hva, hd, hcd, hG⟩ := CD X rfl rfl (X.env.qual ++ "<lambda>")
  refine ⟨_, pe_lam1 (t := fun E' σ H' Q => ∀ (A : Around) (outer : List Env) (s0 : Shared) (H0 : Hp) (f c' : Addr), Room k (A.deeper (lamEnv X scope s0.heap.objs.size f c')) → semE (lamCx X A outer s0 H0 E' scope f c') body σ H' Q)
    hg hm FD hbd Sg hNg hva hG TB hcode hr L hdef hbind (fun A outer s0 H0 E' f c' room => ⟨fun pins s1 σ H1 Q I h => h A outer s0 H0 f c' room pins s1 I⟩) (by decide) hd hcd, fun σ sd B ρ m H Q s rl w => ?_⟩
  unfold caughtV at w
  cases hn : m[n]? with
  | none => rw [hn] at w; exact w.elim
  | some o =>
    rw [hn] at w
    cases o with
    | tab y qq =>
      have w1 : Wt X.K B ρ H E (PD X.K Q) (if y = x ∧ qq = X.env.qual ++ "<lambda>" then (match fb sd m with
        | .ok _ m' => .ok .non m'
        | .exc c [] m' => if Ls.contains c = true then .ok (.ex c) m' else .bad
        | _ => .bad) else .bad) := w
      split at w1
      · rename_i hc
        obtain ⟨rfl, rfl⟩ := hc
        obtain ⟨ps, hT, kk⟩ := Sim.lam (H1 := H) s hn
        refine ⟨ps, hT, fun H1 l => ?_⟩
        obtain ⟨B1, st1, sm1⟩ := kk H1 l
        intro A outer s0 H0 f c' room pins ss I
        have key := fun (E' : XK) => hb A outer s0 H0 E' f c' room (lam_pass (X := X) (A := A) (outer := outer) (s := s0) (H := H0) (E := E') (scope := scope) (f := f) (c' := c'))
        obtain ⟨tb, pb, kb⟩ := key _
        refine pb.run pins ss σ H1 _ I (kb σ sd B1 ρ m H1 _ sm1 (rl.ste st1) ?_)
        cases q : fb sd m with
        | bad => rw [q] at w1; exact w1.elim
        | ok d m' =>
          rw [q] at w1
          intro B' ρ' H' st sm v _
          exact ⟨.non, rfl, w1 B' ρ' H' (st1.trans st) sm .non rfl⟩
        | exc c fs m' =>
          rw [q] at w1
          cases fs with
          | cons _ _ => exact w1.elim
          | nil =>
            have w2 : Wt X.K B ρ H E (PD X.K Q) (if Ls.contains c = true then .ok (.ex c) m' else .bad) := w1
            split at w2
            · rename_i hc
              intro B' ρ' H' dx st sm ex
              rcases ex with ⟨_, e⟩ | ⟨z, _⟩
              · refine ⟨e, hL c hc, fun a ha => ?_⟩
                exact w2 _ ρ' _ ((st1.trans st).trans (Ste.new sm.ex ha)) (sm.new ha) _ ⟨a, rfl, upd_same⟩
              · exact absurd rfl z
            · exact w2.elim
      · exact w1.elim
    | _ => exact w.elim
/-! ### isinstance of what was caught -/
def rIsXc (K : PySem.W.Frag) : List V → Hp → VK → Prop := fun xs H Q => ∃ (a C : Addr) (c : V) (cv : Value) (b : Bool), xs = [.ref a, c] ∧ H a = some (XcO (.ref C) a) ∧ ExcC K C ∧ (∀ u, RelV c u → u = cv) ∧ PySem.W.kitOne K (.ref C) cv = some b ∧ Q (.bl b) H
theorem call_isXc : CallR X (.builtin "isinstance") (rIsXc X.K) := by
  intro pins s σ H xs us Q I r h
  obtain ⟨a, C, c, cv, b, rfl, ha, T, hcv, e, q⟩ := h
  cases r with
  | cons rx rr =>
    cases rr with
    | cons rt rr =>
      cases rr
      cases rx
      have ec := hcv _ rt
      subst ec
      have hcl : (PySem.W.clsIn X.K C).isSome = true := by
        obtain ⟨cd, hc, _⟩ := PySem.W.any_some T.hd
        rw [hc] <;> rfl
      obtain ⟨⟨oe, vs, ho, hz, hdt⟩, _, _⟩ := I.hok a _ ha
      have J : PySem.W.InstAt s.heap a oe C none := by
        obtain ⟨oc, od, oda, osl⟩ := oe
        obtain ⟨h1, h2⟩ := hz
        dsimp only at h1 h2 hdt
        subst h1 h2 hdt
        exact ⟨ho, rfl, rfl, trivial⟩
      exact PySem.W.kia_one (PySem.W.kitx_exc hcl T.hg T.hk T.hs T.ha T.hn T.ht T.hm) I.kIn J e (fun z => nomatch z) fun tk => ⟨.bl b, H, I.kept (t' := tk) fun _ _ z => z, rfl, q⟩
/-- what K says of the classes -/
structure ExCl (K : PySem.W.Frag) (Ls : List Str) (sub : Str → Str → Bool) : Prop where
  c : ∀ C, Ls.contains C = true → ExcC K (He.ga K C)
  s : ∀ C z, Ls.contains C = true → Ls.contains z = true → PySem.W.kitOne K (.ref (He.ga K C)) (.ref (He.ga K z)) = some (sub C z)
  n : ∀ z, Ls.contains z = true → PySem.W.kitOne K (.type "NoneType") (.ref (He.ga K z)) = some false
def isXc (Ls : List Str) (sub : Str → Str → Bool) : S → S → M D
  | .d .non, .d (.gl z) => if Ls.contains z = true then M.pure (.bl false) else bad
  | .d (.ex C), .d (.gl z) => if Ls.contains C = true ∧ Ls.contains z = true then M.pure (.bl (sub C z)) else bad
  | _, _ => bad
theorem isXc_ok {Ls : List Str} {sub : Str → Str → Bool} (hX : ExCl X.K Ls sub) : C2 X E (fun xs H Q => rIsi X.K xs H Q ∨ rIsXc X.K xs H Q) (isXc Ls sub) := by
  intro s1 s2 x y B ρ m H Q hs r1 r2 w
  cases s1 with
  | h n => cases s2 <;> exact w.elim
  | d d =>
    cases s2 with
    | h n => cases d <;> exact w.elim
    | d c =>
      cases c with
      | gl z =>
        have hy : y = .ref (He.ga X.K z) := r2
        subst hy
        cases d with
        | non =>
          have hx : x = .non := r1
          subst hx
          have w2 : Wt X.K B ρ H E (PD X.K Q) ((if Ls.contains z = true then M.pure (.bl false) else bad : M D) m) := w
          split at w2
          · rename_i hz
            exact .inl ⟨.non, _, _, _, false, rfl, .own _, .base .non, hX.n z hz, Wt.ok (E := E) (m := m) w2 hs _ rfl⟩
          · exact w2.elim
        | ex C =>
          obtain ⟨a, rfl, h2⟩ := r1
          have w2 : Wt X.K B ρ H E (PD X.K Q) ((if Ls.contains C = true ∧ Ls.contains z = true then M.pure (.bl (sub C z)) else bad : M D) m) := w
          split at w2
          · rename_i hz
            exact .inr ⟨a, _, _, .ref (He.ga X.K z), _, rfl, hs.ex _ _ h2, hX.c C hz.1, fun u ru => ru, hX.s C z hz.1 hz.2, Wt.ok (E := E) (m := m) w2 hs _ rfl⟩
          · exact w2.elim
        | _ => exact w.elim
      | _ => cases d <;> exact w.elim
theorem call_isiXc : CallR X (.builtin "isinstance") (fun xs H Q => rIsi X.K xs H Q ∨ rIsXc X.K xs H Q) := CallR.or call_isi call_isXc
/-! ### repr of whole numbers; tuple(list) .. -/
def reprI : S → M D
  | .d (.int i) => if i.natAbs < 18446744073709551616 then M.pure (.str (toString i : String)) else bad
  | _ => bad
theorem reprI_ok : C1 X E (fun xs H Q => ∃ i, xs = [.int i] ∧ i.natAbs.log2 < 1920 ∧ Q (.str (toString i)) H) reprI := by
  intro s v B ρ m H Q hs r w
  cases s with
  | h n => exact w.elim
  | d x =>
    cases x with
    | int i =>
      have w2 : Wt X.K B ρ H E (PD X.K Q) ((if i.natAbs < 18446744073709551616 then M.pure (.str (toString i : String)) else bad : M D) m) := w
      split at w2
      · rename_i hi
        have hx : v = .int i := r
        subst hx
        refine ⟨i, rfl, ?_, Wt.ok (E := E) (m := m) w2 hs _ rfl⟩
        by_cases h0 : i.natAbs = 0
        · rw [h0]
          decide
        · have : i.natAbs.log2 < 64 := (Nat.log2_lt h0).mpr (by omega)
          omega
      · exact w2.elim
    | _ => exact w.elim
end
end Mi
set_option maxRecDepth 100000
set_option maxHeartbeats 4000000
/-! The layer Mi, part Nd: calls by keywords; a def whose code object is known; a lambda's body lets exceptions out. -/
namespace Mi
open PySem PySem.Spec PyProof.Rows L2
theorem FunD_look {K : PySem.W.Frag} {x qual : Str} {params : Arguments} {body : List Stmt} {scope : Scope} {f : Addr} {fd : FuncData} (F : FunD K x qual params body scope [] [] f fd) : ∃ oc od osl, K.lookup f = some ⟨oc, od, .func fd, osl⟩ := by
  obtain ⟨oc, od, dV, kV, doc, pm, an, cdv, ct, osl, rfl, lk, hcd, _, _⟩ := F.ex
  exact ⟨_, _, _, lk⟩
section
variable {P : Program} {w : World} {K : PySem.W.Frag} {mg : Str → Option Value} {base : Heap}
theorem fn_mkT {x x0 qual : Str} {params : Arguments} {body : List Stmt} {scope : Scope} {fd : FuncData} {N ps : List Str} {k : Nat} {g : SD → M Fl} (F : FunD K x qual params body scope [] [] (He.ga K x0) fd) (S : FnScope N ps scope)
    (hb : ∀ (cdv : Value), cdv = .ref (codeA K x0) → ∀ (A : Around) (outer : List Env) (s : Shared) (H : Hp) (E : XK), Room k (A.deeper (envOfC qual scope s.heap.objs.size (He.ga K x0) cdv)) → SSs (cxOf (L2.CX P w) P w K mg base N qual scope (He.ga K x0) cdv A outer s H E) E body g) :
    FnOk P w K mg base (L2.CX P w) (k + 1) (He.ga K x0) fd ps (spF K ps.length (fnM N.length g)) := by
  obtain ⟨oc, od, dV, kV, doc, pm, an, cdv, ct, osl, rfl, lk, hcd, _, _⟩ := F.ex
  have hc : cdv = .ref (codeA K x0) := by
    unfold codeA
    rw [lk]
    unfold PySem.W.codeIn at hcd
    cases cdv with
    | ref c => rfl
    | _ => simp at hcd
  refine fn_of lk hcd S (fun vs H Q E h => ?_) (fun A outer s H vs Q E hr h => ?_)
  · obtain ⟨B, ρ, m, ss, h1, h2, h3, h4⟩ := h
    rw [h2.length, h3]
  · obtain ⟨B, ρ, m, ss, h1, h2, h3, h4⟩ := h
    obtain ⟨t, p, kk⟩ := hb cdv hc A outer s H E hr
    refine ⟨t, p, kk _ _ (ss.map some ++ List.replicate (N.length - ss.length) none) B ρ m H h1 ?_ ?_⟩
    · unfold L2.start
      rw [h2.length]
      exact h2.start _
    · have tr : ∀ {B' : Hp} {ρ' : Rho} {H' : Hp} {m' : Mem}, Ste B ρ H B' ρ' H' → Sim K B' ρ' m' H' → Sim K B' ρ (m'.take m.length) H' := fun {B' ρ' H' m'} t s => by
        obtain ⟨more, e⟩ := t.rr
        subst e
        rw [← h1.len]
        exact s.trunc
      unfold fnM at h4
      cases q : g (ss.map some ++ List.replicate (N.length - ss.length) none) m with
      | ok fl m' =>
        rw [q] at h4
        cases fl with
        | rt d => exact fun B' ρ' H' t s v r => h4 B' ρ H' t.trunc (tr t s) v r
        | nx sd => exact fun B' ρ' H' t s σ' _ => h4 B' ρ H' t.trunc (tr t s) .non rfl
        | bk sd => exact h4.elim
        | ct sd => exact h4.elim
      | exc c fs m' =>
        rw [q] at h4
        exact fun B' ρ' H' dx t s e => h4 B' ρ H' dx t.trunc (tr t s) e
      | bad =>
        rw [q] at h4
        exact h4.elim
end
section
variable {X : Cx} {E : XK} {B : Hp} {ρ : Rho} {m : Mem} {H : Hp} {e : Expr} {kws : List Keyword} {pos p kpos : Pos} {x : Str} {nm : Option Str} {fe : SD → M D} {ga : SD → M S}
/-- the values of keywords -/
def SK (X : Cx) (E : XK) (kws : List Keyword) (f : SD → M (List S)) : Prop := ∃ t, PK X kws t ∧ ∀ σ sd B ρ m H Q, Sim X.K B ρ m H → RelS X.K B ρ σ sd → Wt X.K B ρ H E (PAl X.K Q) (f sd m) → t σ H Q
theorem sk_nil : SK X E [] (fun _ => M.pure []) := ⟨_, pk_nil, fun σ sd B ρ m H Q s rl w => Wt.ok (E := E) (m := m) w s _ rfl⟩
theorem sk_cons {gs : SD → M (List S)} (ha : SX X E e ga) (hs : SK X E kws gs) : SK X E (⟨nm, e, kpos⟩ :: kws) (fun sd => M.bind (ga sd) fun x => M.bind (gs sd) fun xs => M.pure (x :: xs)) := by
  obtain ⟨ta, pa, ka⟩ := ha
  obtain ⟨tb, pb, kb⟩ := hs
  refine ⟨_, pk_cons pa pb, fun σ sd B ρ m H Q s rl w => ka σ sd B ρ m H _ s rl ?_⟩
  refine Wt.bind' (r := ga sd m) w fun d B1 ρ1 m1 H1 t1 s1 w1 v r => kb σ sd B1 ρ1 m1 H1 _ s1 (rl.ste t1) ?_
  exact Wt.bind' (r := gs sd m1) w1 fun ds B2 ρ2 m2 H2 t2 s2 w2 vs rs => Wt.ok (E := E) (m := m2) w2 s2 _ ⟨v, vs, rfl, r.ste t2, rs⟩
/-- the parameters' order, out of the keywords' -/
def permL {α : Type} (d : α) (pm : List Nat) (ws : List α) : List α := pm.map fun i => ws.getD i d
theorem vals_at {vs : List V} {us : List Value} (r : Vals vs us) (i : Nat) : L2.RelV (vs.getD i .non) (us.getD i .none) := by
  cases q : vs[i]? with
  | none =>
    have h : us[i]? = none := by
      rw [List.getElem?_eq_none_iff] at q ⊢
      rw [← r.length]
      exact q
    rw [List.getD_eq_getElem?_getD, List.getD_eq_getElem?_getD, q, h]
    exact rfl
  | some v =>
    obtain ⟨u, hu, rv⟩ := r.get q
    rw [List.getD_eq_getElem?_getD, List.getD_eq_getElem?_getD, q, hu]
    exact rv
theorem vals_perm {vs : List V} {us : List Value} (r : Vals vs us) : ∀ pm : List Nat, Vals (permL .non pm vs) (permL .none pm us)
  | [] => .nil
  | i :: pm => .cons (vals_at r i) (vals_perm r pm)
theorem RepSL.at_ {K : PySem.W.Frag} : ∀ {ds : List S} {vs : List V}, RepSL K B ρ ds vs → ∀ i, RepS K B ρ (ds.getD i (.d .non)) (vs.getD i .non)
  | [], _, h, i => by
    rw [show _ = [] from h]
    exact rfl
  | d :: ds, _, h, 0 => by
    obtain ⟨x, r, rfl, h2, h3⟩ := h
    exact h2
  | d :: ds, _, h, i + 1 => by
    obtain ⟨x, r, rfl, h2, h3⟩ := h
    simpa using RepSL.at_ h3 i
theorem RepSL.perm {K : PySem.W.Frag} {ds : List S} {vs : List V} (h : RepSL K B ρ ds vs) : ∀ pm : List Nat, RepSL K B ρ (permL (.d .non) pm ds) (permL .non pm vs)
  | [] => rfl
  | i :: pm => ⟨_, _, rfl, h.at_ i, RepSL.perm h pm⟩
/-- f(k = v, ..), all by keywords -/
theorem se_callk {k : Nat} {ps ks : List Str} {pm : List Nat} {F : List S → M D} {gs : SD → M (List S)} {qual : Str} {params : Arguments} {body : List Stmt} {scope : Scope} {fd : FuncData} (hF : Fx X.prog X.w X.K X.mg X.base k x ps F) (FD : FunD X.K x qual params body scope [] [] (He.ga X.K x) fd)
    (hbk : ∀ (kV doc pmv : Value) (an : Option Addr) (cdv ct : Value) (ws : List Value), ws.length = ks.length → bindArgs (PySem.W.fnOf x qual params body scope .none kV doc pmv an cdv ct) ⟨[], ks.zip ws⟩ = pure (ps.zip (permL .none pm ws)))
    (hr : Room k X.A) (hp : Passes (L2.CX X.prog X.w) X E) (ha : SK X E kws gs) (hg : Gl X x := by rfl) (hdb : (x == ("__debug__" : Str)) = false := by decide)
    (hall : (backToKw pos (keywordEach kws X.env)).all (·.1.isSome) = true := by rfl) (hks : (backToKw pos (keywordEach kws X.env)).filterMap (·.1) = ks := by rfl)
    (hpl : ((backTo pos (starEach [] X.env)).any (·.1) || (backToKw pos (keywordEach kws X.env)).any (·.1.isNone)) = false := by rfl) :
    SE X E (.Call (.Name x p) [] kws pos) (fun sd => M.bind (gs sd) fun ss => if ss.length = ks.length then argN ps.length F (permL (.d .non) pm ss) else bad) := by
  obtain ⟨t, pa, ka⟩ := ha
  obtain ⟨fd', ok, bi, oc1, od1, osl1, lk1⟩ := hF.ok
  obtain ⟨oc, od, dV, kV, doc, pmv, an, cdv, ct, osl, rfl, lk, hcd, hD, _⟩ := FD.ex
  rw [lk] at lk1
  have e3 : (Data.func (PySem.W.fnOf x qual params body scope dV kV doc pmv an cdv ct)) = Data.func fd' := congrArg Obj.data (Option.some.inj lk1)
  have e4 : PySem.W.fnOf x qual params body scope dV kV doc pmv an cdv ct = fd' := by injection e3
  subst e4
  have hdv : dV = .none := by
    rcases hD with ⟨_, h⟩ | ⟨h, _⟩
    · exact h
    · exact absurd rfl h
  subst hdv
  refine ⟨fun σ H Q => t σ H fun vs H1 => vs.length = ks.length ∧ spF X.K ps.length F (permL .non pm vs) H1 Q E, ⟨fun pins s σ H Q I h => ?_⟩, fun σ sd B ρ m H Q s rl w => ka σ sd B ρ m H _ s rl ?_⟩
  · apply wpAny_Call_Name_kw
    apply ld_glob I hg hF.mgx ?_ hdb
    apply PySem.W.callWith_KW0 (h₀ := X.base) I.ok.mod.kin hF.kp hall ?_ hpl
    refine thn (pa.run pos pins s σ H _ I h) fun us s1 ⟨vs, H1, I1, r1, hl, hq⟩ => ⟨I1.kIn, ?_⟩
    rw [hks]
    have hlu : us.length = ks.length := by rw [← r1.length]; exact hl
    apply wpAny_call
    refine codeAny_mono (ok.run X.A X.stack s1 H1 ⟨[], ks.zip us⟩ (permL .none pm us) (permL .non pm vs) Q E hr I1.env0 (.of_eq (hbk kV doc pmv an cdv ct us hlu)) (vals_perm r1 pm) hq) fun r s' hz => ?_
    cases r with
    | error e => exact hp pins σ H1 s1 e s' I1 hz
    | ok fl =>
      cases fl with
      | ret u => exact I1.after hz
      | next => exact False.elim hz
      | brk => exact False.elim hz
      | cont => exact False.elim hz
  · refine Wt.bind' (r := gs sd m) w fun ss B1 ρ1 m1 H1 t1 s1 w1 vs r => ?_
    have w2 : Wt X.K B1 ρ1 H1 E (PD X.K Q) ((if ss.length = ks.length then argN ps.length F (permL (.d .non) pm ss) else bad : M D) m1) := w1
    split at w2
    · rename_i hl
      have w3 : Wt X.K B1 ρ1 H1 E (PD X.K Q) ((if (permL (.d .non) pm ss).length = ps.length then F (permL (.d .non) pm ss) else bad : M D) m1) := w2
      split at w3
      · rename_i hl2
        exact ⟨by rw [r.length]; exact hl, B1, ρ1, m1, _, s1, r.perm pm, hl2, w3⟩
      · exact w3.elim
    · exact w2.elim
abbrev callK (n j : Nat) (F : List S → M D) (pm : List Nat) (gs : SD → M (List S)) : SD → M D := fun sd => M.bind (gs sd) fun ss => if ss.length = j then argN n F (permL (.d .non) pm ss) else bad
end
end Mi
set_option maxRecDepth 100000
set_option maxHeartbeats 4000000
/-! The layer Mi, part Ne: enumerate(tuple). -/
namespace Mi
open PySem PySem.Spec PyProof.Rows L2
open AutoSeq1 (wpAny_loadPart')
theorem newT {t : Addr} {o : Obj} {items : Array Value} : Meets (Builtin.«enumerate.__new__» ⟨[.type "enumerate", .ref t], []⟩) (fun _ R s => s.heap.get? t = some o ∧ s.heap.IsTuple t items ∧
    R (.ok (.ret (.ref (s.heap.push { cls := .type "tuple_iterator", data := .fields #[.ref t, .int 0 0] }).objs.size)))
      { s with heap := (s.heap.push { cls := .type "tuple_iterator", data := .fields #[.ref t, .int 0 0] }).push { cls := .type "enumerate", data := .fields #[.none, .bool false, .ref s.heap.objs.size, rawInt 0, .none, .none] } }) :=
  .of_wp fun prog w A R s h => by
    obtain ⟨hp, g, d, tk, os⟩ := s
    obtain ⟨h0, ht, h⟩ := h
    have sb := sub_enumerate
    have tup : Heap.IsTuple (Shared.heap ⟨hp, g, d, tk, os⟩) t items := ht
    wp_walk using wpAny_loadPart' h0
    refine wpAny_stack_any fun st => wpAny_pure ?_
    split
    · rename_i c _ _ _ _ _
      cases (c == Value.type "enumerate")
      · wp_walk using wpAny_loadPart' h0, wpAny_pyIter_tuple tup
        exact ⟨_, rfl, h⟩
      · wp_walk using wpAny_loadPart' h0, wpAny_pyIter_tuple tup
        exact ⟨_, rfl, h⟩
    · wp_walk using wpAny_loadPart' h0, wpAny_pyIter_tuple tup
      exact ⟨_, rfl, h⟩
section
variable {prog : Program} {w : World} {A : Around} {E : Value → Shared → Prop} {s : Shared}
theorem call_enumT {t : Addr} {items : Array Value} {Q : Value → Shared → Prop} (hT : s.heap.IsTuple t items)
    (k : ∀ h', IsEnum h' (s.heap.objs.size + 1) s.heap.objs.size 0 .none → h'.IsTupleIter s.heap.objs.size t 0 → (∀ b o, s.heap.get? b = some o → h'.get? b = some o) → Q (.ref (s.heap.objs.size + 1)) { s with heap := h' }) :
    wpAny (model prog w) A (call (.type "enumerate") [.ref t]) Q E s := by
  obtain ⟨o, ho, r⟩ := id hT
  refine callType_new F.called_enumerate (by decide) (F.typeCall_enumerate_1 _) (F.newCall_enumerate_1 _) (fun obj => F.args_object_init_2 obj _) F.entry_enumerate_new (newT (t := t) (o := o) (items := items)) ⟨ho, hT, ?_⟩
  have sz : (s.heap.push { cls := .type "tuple_iterator", data := .fields #[.ref t, .int 0 0] }).objs.size = s.heap.objs.size + 1 := Heap.size_push ..
  show _ ∧ _
  rw [sz]
  have en : IsEnum ((s.heap.push { cls := .type "tuple_iterator", data := .fields #[.ref t, .int 0 0] }).push { cls := .type "enumerate", data := .fields #[.none, .bool false, .ref s.heap.objs.size, rawInt 0, .none, .none] }) (s.heap.objs.size + 1) s.heap.objs.size 0 .none := by
    have q := Heap.get?_push_size (s.heap.push { cls := .type "tuple_iterator", data := .fields #[.ref t, .int 0 0] }) (o := { cls := .type "enumerate", data := .fields #[.none, .bool false, .ref s.heap.objs.size, rawInt 0, .none, .none] }) rfl
    rw [sz] at q
    exact q
  exact ⟨⟨_, en, rfl⟩, k _ en ⟨_, Heap.get?_push_of_some _ (Heap.get?_push_size _ rfl), rfl, rfl⟩ fun b ob x => Heap.get?_push_of_some _ (Heap.get?_push_of_some _ x)⟩
end
/-- the tuple at a, each item in a new pair -/
def IteT (K : PySem.W.Frag) (a : Addr) : It where
  go := fun i H => ∃ (xs : List V) (x : V), SqT K H a xs ∧ xs[i]? = some x
  yld := fun i H v H' => ∃ T x, v = .ref T ∧ H T = none ∧ H' = upd H T (.tup [.int (i : Nat), x]) ∧ ∀ xs, SqT K H a xs → xs[i]? = some x
  stop := fun i H => ∃ xs : List V, SqT K H a xs ∧ xs.length ≤ i
theorem turn_enT {P : Program} {w : World} {K : PySem.W.Frag} {elts : List Expr} {kk : Nat} {tpos : Pos} (a e it : Addr) (hai : a ≠ it) (hae : a ≠ e) :
    Turn P w K (.Tuple elts kk tpos) (IteT K a) [e, it] e (fun i h => (∃ old, IsEnum h e it ((i : Nat) : Int) old) ∧ h.IsTupleIter it a i ∧ e ≠ it) where
  mem := by simp
  obj := fun i h st b hb => by
    obtain ⟨⟨old, en⟩, ⟨o, ho, hc, hd⟩, _⟩ := st
    rcases (show b = e ∨ b = it by simpa using hb) with z | z
    · rw [z]; exact ⟨_, en, fun v q => nomatch q⟩
    · rw [z]; exact ⟨o, ho, fun v q => by rw [hd] at q; cases q⟩
  keep := fun i h h' st k => let ⟨⟨old, en⟩, hi, ne⟩ := st; ⟨⟨old, k e (by simp) _ en⟩, hi.at fun o q => k it (by simp) o q, ne⟩
  item := by
    intro X hP hw hK hc i pins s σ H E I hf st hg
    subst hP hw hK
    obtain ⟨⟨old, en⟩, hit, ne⟩ := st
    obtain ⟨xs, x, hq, hx⟩ := hg
    obtain ⟨its, rv, p, hz⟩ := I.tuple hq
    obtain ⟨u, hu, ru⟩ := rv.get hx
    have el : e < s.heap.objs.size := Heap.lt_size en
    have il : it < s.heap.objs.size := by obtain ⟨_, q, _⟩ := hit; exact Heap.lt_size q
    have tp : s.heap.IsTuple a its.toArray := p
    have lt : i < its.toArray.size := by
      have := (List.getElem?_eq_some_iff.mp hu).1
      simpa using this
    refine wpAny_pyNext_enum_itemD (Draws.tuple (w := X.w) (prog := X.prog) (A := X.A.in1) (I.ok.hd hc) it a hai its.toArray) en ⟨hit, tp⟩ lt ne (by simp [ne, Ne.symm hae]) fun y h' tk hy ho hit' hT sz hk => ?_
    have ey : y = u := by
      have h2 : its.toArray[i]? = some y := hy
      rw [List.getElem?_toArray, hu] at h2
      exact (Option.some.inj h2).symm
    subst ey
    refine ⟨_, rfl, wpAny_letOwnedTupleGo_enum (s := { s with heap := h', toks := tk + 1 }) ho fun h'' en' sb => ?_⟩
    have hT2 : h''.get? s.heap.objs.size = some { cls := .type "tuple", data := .seq #[.int i tk, y] } := (sb.2 _ (Nat.ne_of_gt el)).trans hT
    have new : ObjOk X.prog X.w (upd H s.heap.objs.size (.tup [.int (i : Nat), x])) h'' s.heap.objs.size (.tup [.int (i : Nat), x]) :=
      ⟨by show 2 ≤ sizeLine; decide, [.int i tk, y], .cons ⟨_, rfl⟩ (.cons ru .nil), ⟨_, hT2, rfl, _, rfl⟩⟩
    have I1 : Inv X pins σ (upd H s.heap.objs.size (.tup [.int (i : Nat), x])) { s with heap := h'', toks := tk + 1 } :=
      I.turnedNew (ch := [e, it]) (fun b ob hb q => (sb.2 b (fun z => hb (by simp [z]))).trans (hk b ob (fun z => hb (by simp [z])) (fun z => hb (by simp [z])) q)) hf (Nat.le_refl _) new
    refine ⟨.ref s.heap.objs.size, _, I1, rfl, ⟨_, x, rfl, I.hok.fresh (Nat.le_refl _), rfl, fun ys hy => by rw [I.tuple_inj hy hq]; exact hx⟩, ⟨⟨y, ?_⟩, hit'.1.at fun o q => (sb.2 it (Ne.symm ne)).trans q, ne⟩, fun b hb => ?_⟩
    · have e1 : ((i + 1 : Nat) : Int) = (i : Int) + 1 := by omega
      rw [e1]; exact en'
    · have lt2 : b < s.heap.objs.size := by
        rcases (show b = e ∨ b = it by simpa using hb) with z | z
        · rw [z]; exact el
        · rw [z]; exact il
      rw [upd_ne (Nat.ne_of_lt lt2)]
      exact (hf b hb).1
  done := by
    intro X hP hw hK hc i pins s σ H E I hf st hg
    subst hP hw hK
    obtain ⟨⟨old, en⟩, hit, ne⟩ := st
    obtain ⟨xs, hq, hx⟩ := hg
    obtain ⟨its, rv, p, hz⟩ := I.tuple hq
    obtain ⟨f0, f1, f2, f3, f4, f5⟩ := hf it (by simp)
    have tp : s.heap.IsTuple a its.toArray := p
    have hl := rv.length
    have none_ : its.toArray[i]? = none := by
      simp
      omega
    have hT : s.TypeIs (.ref e) "enumerate" := ⟨_, en, rfl⟩
    have stop : wpAny (model X.prog X.w) X.A (pyNext (.ref e)) (fun v s' => v = none ∧ Inv X pins σ H s') E s := by
      unfold pyNext
      apply wpAny_bind
      apply wpAny_attempt
      apply wpAny_callSpecial?_slot (name := Str.ofString "__next__") hT F.slot_enumerate_next
      apply wpAny_call_entry F.slot_enumerate_next hT F.entry_enumerate_next ?_ (F.args_enumerate_next_1 _)
      show wpAny _ _ (field (.ref e) 2 >>= _) _ _ _
      apply wpAny_bind
      apply wpAny_field en rfl (x := .ref it) rfl
      apply wpAny_bind
      apply wpAny_nextOf_tuple_end (A := X.A.in1) (show X.A.in1.handled = none from I.ok.hd hc) hit tp none_
      rintro h' x eb ⟨o, ho, cls⟩
      apply wpAny_bind
      refine wpAny_isInstance (v := .ref x) (T := "StopIteration") (b := true) ⟨o, ho, cls⟩ isSubtype_stop ?_
      exact wpAny_pure ⟨rfl, I.turned (t' := s.toks) (fun b o hb q => eb b o hb q) f0 f1 f3 f4 f5⟩
    exact stop
  self := fun A i s Q E st h => let ⟨⟨_, en⟩, _⟩ := st; wpAny_pyIter_enum en h
section
variable {X : Cx} {E : XK} {K : PySem.W.Frag} {B : Hp} {ρ : Rho} {m : Mem} {H : Hp} {a : Expr} {pos : Pos} {fa : SD → M D}
def iEnum2 (K : PySem.W.Frag) (ta : TA) : TI := fun σ H R => ta σ H fun vs H1 => ∃ a xs, vs = [.ref a] ∧ ((SqL K H1 a xs ∧ R (Ite K a) H1) ∨ (SqT K H1 a xs ∧ R (IteT K a) H1))
theorem pi_enum2 {e : Expr} {ta : TA} {p tpos : Pos} {elts : List Expr} {kk : Nat} (hg : Gl X "enumerate") (hm : X.mg "enumerate" = none) (ha : PA X [e] ta) (hs : starEach [e] X.env = [(false, eval e X.env)] := by rfl) :
    PI X (.Tuple elts kk tpos) (.Call (.Name "enumerate" p) [e] [] pos) (iEnum2 X.K ta) := by
  constructor
  intro pins s σ H R I h
  refine Call_ (ld_blt I hg hm boot_enumerate (PyProof.Rows.callWith_type1 ?_ hs rfl))
  apply thn (ha.run pos pins s σ H _ I h)
  rintro us s1 ⟨vs, H1, I1, r1, a, xs, rfl, q⟩
  cases r1 with
  | cons r rr =>
    cases rr
    cases r
    rcases q with ⟨hq, q⟩ | ⟨hq, q⟩
    · obtain ⟨its, rv, p', _⟩ := I1.list hq
      apply call_enumerate_list p'.isList
      intro h' en hit sz hk
      apply wpAny_pyIter_enum en
      have I2 : Inv X pins σ H1 { s1 with heap := h' } := I1.kept (t' := s1.toks) hk
      refine ⟨s1.heap.objs.size + 1, [s1.heap.objs.size + 1, s1.heap.objs.size], _, _, H1, rfl, I2, turn_enum a (s1.heap.objs.size + 1) s1.heap.objs.size, ⟨⟨.none, en⟩, hit, Nat.succ_ne_self _⟩, fun b hb => ?_, q⟩
      have le : s1.heap.objs.size ≤ b := by
        rcases (show b = s1.heap.objs.size + 1 ∨ b = s1.heap.objs.size by simpa using hb) with z | z
        · rw [z]; exact Nat.le_add_right _ _
        · rw [z]; exact Nat.le_refl _
      exact I1.fpOk le (I1.hok.fresh le)
    · obtain ⟨its, rv, p', _⟩ := I1.tuple hq
      have tp : s1.heap.IsTuple a its.toArray := p'
      have al : a < s1.heap.objs.size := by obtain ⟨_, q, _⟩ := tp; exact Heap.lt_size q
      apply call_enumT tp
      intro h' en hit hk
      apply wpAny_pyIter_enum en
      have I2 : Inv X pins σ H1 { s1 with heap := h' } := I1.kept (t' := s1.toks) hk
      refine ⟨s1.heap.objs.size + 1, [s1.heap.objs.size + 1, s1.heap.objs.size], _, _, H1, rfl, I2, turn_enT a (s1.heap.objs.size + 1) s1.heap.objs.size (Nat.ne_of_lt al) (Nat.ne_of_lt (Nat.lt_succ_of_lt al)), ⟨⟨.none, en⟩, hit, Nat.succ_ne_self _⟩, fun b hb => ?_, q⟩
      have le : s1.heap.objs.size ≤ b := by
        rcases (show b = s1.heap.objs.size + 1 ∨ b = s1.heap.objs.size by simpa using hb) with z | z
        · rw [z]; exact Nat.le_add_right _ _
        · rw [z]; exact Nat.le_refl _
      exact I1.fpOk le (I1.hok.fresh le)
theorem enum_get {ds : List D} {i : Nat} {d : D} (e : (enumL ds)[i]? = some d) : ∃ h : i < ds.length, d = .tup [.int (i : Nat), ds[i]] := by
  unfold enumL at e
  rw [List.getElem?_map] at e
  have hi : i < ds.length := by
    cases q : (List.range ds.length)[i]? with
    | none => rw [q] at e; cases e
    | some j => simpa using (List.getElem?_eq_some_iff.mp q).1
  rw [List.getElem?_range hi] at e
  cases e
  exact ⟨hi, by simp [List.getD_eq_getElem?_getD, List.getElem?_eq_getElem hi]⟩
theorem enum_len (ds : List D) : (enumL ds).length = ds.length := by simp [enumL]
def asLT : D → M (List D)
  | .lst ds => M.pure ds
  | .tup ds => M.pure ds
  | _ => bad
abbrev enumT (fa : SD → M D) : SD → M (List D) := fun sd => M.bind (fa sd) fun x => M.bind (asLT x) fun ds => M.pure (enumL ds)
theorem si_enumT {p tpos : Pos} {elts : List Expr} {kk : Nat} (hm : X.mg "enumerate" = none) (ha : SE X E a fa) (hg : Gl X "enumerate" := by rfl) (hs : starEach [a] X.env = [(false, eval a X.env)] := by rfl) :
    SI X E (.Tuple elts kk tpos) (.Call (.Name "enumerate" p) [a] [] pos) (enumT fa) := by
  obtain ⟨ta, pa, ka⟩ := ha
  refine ⟨_, pi_enum2 hg hm (pa_cons pa pa_nil hs) hs, fun σ sd B ρ m H R s rl w => ka σ sd B ρ m H _ s rl ?_⟩
  refine Wt.bind' (r := fa sd m) w fun d B1 ρ1 m1 H1 t1 s1 w1 v r => ?_
  have pair : ∀ {B' : Hp} {m' : Mem} {ρ' : Rho} {H' : Hp} {T : Addr} {x : V} {ds : List D} {i : Nat} (hi : i < ds.length), Sim X.K B' ρ' m' H' → H' T = none → Rep X.K B' ds[i] x →
      ∃ B'', Ste B' ρ' H' B'' ρ' (upd H' T (.tup [.int (i : Nat), x])) ∧ Sim X.K B'' ρ' m' (upd H' T (.tup [.int (i : Nat), x])) ∧ Rep X.K B'' (.tup [.int (i : Nat), ds[i]]) (.ref T) := by
    intro B' m' ρ' H' T x ds i hi s' hT g2
    exact ⟨_, Ste.new s'.ex hT, s'.new hT, T, _, rfl, upd_same, .int (i : Nat), _, rfl, rfl, x, [], rfl, g2.mono (Sub.upd (s'.bnone hT)), rfl⟩
  cases d with
  | lst ds =>
    obtain ⟨a, xs, rfl, h2, h3⟩ := r
    refine ⟨a, xs, rfl, .inl ⟨SqL.of (s1.ex _ _ h2), Wt.ok (E := E) (m := m1) w1 s1 _ ?_⟩⟩
    intro B' ρ' m' H' t s'
    have hq : SqL X.K H' a xs := SqL.of (s'.ex _ _ (t _ _ h2))
    have r' := h3.mono t
    refine ⟨fun i d e => ?_, fun i hi => ⟨xs, hq, by rw [h3.length]; rw [enum_len] at hi; exact hi⟩⟩
    obtain ⟨hi, rfl⟩ := enum_get e
    obtain ⟨x, g1, g2⟩ := r'.get (List.getElem?_eq_getElem hi)
    refine ⟨⟨xs, x, hq, g1⟩, fun y H'' hy => ?_⟩
    obtain ⟨T, x', rfl, hT, rfl, hx⟩ := hy
    have ex : x' = x := by
      have z := hx xs hq
      rw [g1] at z
      exact (Option.some.inj z).symm
    subst ex
    exact pair hi s' hT g2
  | tup ds =>
    obtain ⟨a, xs, rfl, h2, h3⟩ := r
    refine ⟨a, xs, rfl, .inr ⟨SqT.of (s1.ex _ _ h2), Wt.ok (E := E) (m := m1) w1 s1 _ ?_⟩⟩
    intro B' ρ' m' H' t s'
    have hq : SqT X.K H' a xs := SqT.of (s'.ex _ _ (t _ _ h2))
    have r' := h3.mono t
    refine ⟨fun i d e => ?_, fun i hi => ⟨xs, hq, by rw [h3.length]; rw [enum_len] at hi; exact hi⟩⟩
    obtain ⟨hi, rfl⟩ := enum_get e
    obtain ⟨x, g1, g2⟩ := r'.get (List.getElem?_eq_getElem hi)
    refine ⟨⟨xs, x, hq, g1⟩, fun y H'' hy => ?_⟩
    obtain ⟨T, x', rfl, hT, rfl, hx⟩ := hy
    have ex : x' = x := by
      have z := hx xs hq
      rw [g1] at z
      exact (Option.some.inj z).symm
    subst ex
    exact pair hi s' hT g2
  | _ => exact w1.elim
end
end Mi
set_option maxRecDepth 100000
set_option maxHeartbeats 4000000
/-! The layer Mi, part Nf: what is read off the head; the law's end with tables of code objects. -/
namespace Mi
open PySem PySem.Spec PyProof.Rows L2
theorem ba {a b : Bool} (h : (a && b) = true) : a = true ∧ b = true := Bool.and_eq_true_iff.mp h
def excB (K : PySem.W.Frag) (C : Addr) : Bool := decide (PySem.W.findIn K (.ref C) "__getattribute__" = some (some (.builtin "BaseException.__getattribute__"))) && (decide (PySem.W.findIn K (.ref C) "__getattr__" = some none) &&
  (decide (PySem.W.subIn K (.ref C) (.type "BaseException") = some true) && (PySem.W.hasDictIn K C && (decide (PySem.W.findIn K (.ref C) "__class__" = some (some (.builtin "object.__class__"))) &&
  (decide (PySem.W.specialIn K (.builtin "object.__class__") "__get__" = some (some (.builtin "getset_descriptor.__get__"))) && (decide (PySem.W.takesIn K (.builtin "object.__class__") = some true) && decide (PySem.W.mroIn K C (.type "object") = some true)))))))
theorem excB_ok {K : PySem.W.Frag} {C : Addr} (h : excB K C = true) : ExcC K C := by
  obtain ⟨h1, h⟩ := ba h
  obtain ⟨h2, h⟩ := ba h
  obtain ⟨h3, h⟩ := ba h
  obtain ⟨h4, h⟩ := ba h
  obtain ⟨h5, h⟩ := ba h
  obtain ⟨h6, h⟩ := ba h
  obtain ⟨h7, h8⟩ := ba h
  exact ⟨of_decide_eq_true h1, of_decide_eq_true h2, of_decide_eq_true h3, h4, of_decide_eq_true h5, of_decide_eq_true h6, of_decide_eq_true h7, of_decide_eq_true h8⟩
def cap1 (K : PySem.W.Frag) (Ls : List Str) (sub : Str → Str → Bool) (C : Str) : Bool := excB K (He.ga K C) && (decide (PySem.W.exmOne K (.ref (He.ga K C)) (.ref (He.ga K "SplitError")) = some true) &&
  (decide (PySem.W.kitOne K (.type "NoneType") (.ref (He.ga K C)) = some false) && Ls.all fun z => decide (PySem.W.kitOne K (.ref (He.ga K C)) (.ref (He.ga K z)) = some (sub C z))))
/-- the exception classes, read off -/
def capB (K : PySem.W.Frag) (Ls : List Str) (sub : Str → Str → Bool) : Bool := Ls.all fun C => cap1 K Ls sub C
theorem capB_ok {K : PySem.W.Frag} {Ls : List Str} {sub : Str → Str → Bool} (h : capB K Ls sub = true) : ExCl K Ls sub ∧ Below K Ls := by
  have at_ : ∀ C, Ls.contains C = true → cap1 K Ls sub C = true := fun C hC => List.all_eq_true.mp h C (List.contains_iff_mem.mp hC)
  refine ⟨⟨fun C hC => excB_ok (ba (at_ C hC)).1, fun C z hC hz => ?_, fun C hC => ?_⟩, fun C hC => ?_⟩
  · exact of_decide_eq_true (List.all_eq_true.mp (ba (ba (ba (at_ C hC)).2).2).2 z (List.contains_iff_mem.mp hz))
  · exact of_decide_eq_true (ba (ba (ba (at_ C hC)).2).2).1
  · exact of_decide_eq_true (ba (ba (at_ C hC)).2).1
def isStr : Value → Bool
  | .str _ _ => true
  | _ => false
def isInt : Value → Bool
  | .int _ _ => true
  | _ => false
def isBool : Value → Bool
  | .bool _ => true
  | _ => false
def isRef (P : Addr) : Option Value → Bool
  | some (.ref a) => decide (a = P)
  | _ => false
theorem isStr_ok {v : Value} (h : isStr v = true) : ∃ x t, v = .str x t := by cases v <;> first | exact ⟨_, _, rfl⟩ | cases h
theorem isInt_ok {v : Value} (h : isInt v = true) : ∃ x t, v = .int x t := by cases v <;> first | exact ⟨_, _, rfl⟩ | cases h
theorem isBool_ok {v : Value} (h : isBool v = true) : ∃ x, v = .bool x := by cases v <;> first | exact ⟨_, rfl⟩ | cases h
theorem isRef_ok {P : Addr} {v : Option Value} (h : isRef P v = true) : v = some (.ref P) := by
  unfold isRef at h
  split at h
  · rw [of_decide_eq_true h]
  · cases h
/-- the code object of the def x, read off -/
def cod1 (K : PySem.W.Frag) (x : Str) : Bool := match K.lookup (codeA K x) with
  | some ⟨.type c, _, .fields vs, _⟩ => decide (c = "code") && (isRef (tabA K x) vs[11]? && (isStr (vs.getD 18 .none) && (isInt (vs.getD 7 .none) && (isBool (vs.getD 9 .none) && (isInt (vs.getD 10 .none) && !decide (codeA K x = tabA K x))))))
  | _ => false
theorem cod1_ok {K : PySem.W.Frag} {x : Str} {h : Heap} (KX : K.In h) (c : cod1 K x = true) : PySem.W.CodeHd h (codeA K x) (tabA K x) := by
  unfold cod1 at c
  split at c
  · rename_i cn od vs sl q
    obtain ⟨h1, c⟩ := ba c
    obtain ⟨h2, c⟩ := ba c
    obtain ⟨h3, c⟩ := ba c
    obtain ⟨h4, c⟩ := ba c
    obtain ⟨h5, c⟩ := ba c
    obtain ⟨h6, h7⟩ := ba c
    obtain ⟨f, tf, e3⟩ := isStr_ok h3
    obtain ⟨g, tg, e4⟩ := isInt_ok h4
    obtain ⟨b, e5⟩ := isBool_ok h5
    obtain ⟨u, tu, e6⟩ := isInt_ok h6
    have e2 := isRef_ok h2
    refine ⟨_, vs, f, tf, g, tg, b, u, tu, KX _ _ q, ?_, rfl, e2, ?_, e3, e4, e5, e6, ?_⟩
    · rw [of_decide_eq_true h1]
    · simp [Array.getD_eq_getD_getElem?, e2]
    · simpa using h7
  · cases c
def tabsB (K : PySem.W.Frag) (xs : List Str) : Bool := xs.all (cod1 K) && decide ((xs.map (tabA K)).Nodup)
/-! ### the hook -/
def asT (g : Addr → Option Obj) (n : Nat) : List Addr := cStatics :: sysModules :: He.asD g n
/-- an empty table, outside the written part -/
def emptyB (K : PySem.W.Frag) (g : Addr → Option Obj) (P : Addr) : Bool := (match g P with
  | some ⟨.none, none, .fields a, sl⟩ => a.isEmpty && sl.isEmpty
  | _ => false) && (K.lookup P).isNone
theorem emptyB_ok {K : PySem.W.Frag} {g : Addr → Option Obj} {P : Addr} (h : emptyB K g P = true) : g P = some { cls := .none, data := .fields #[] } ∧ K.lookup P = none := by
  obtain ⟨h1, h2⟩ := ba h
  refine ⟨?_, Option.isNone_iff_eq_none.mp h2⟩
  split at h1
  · rename_i a sl q
    obtain ⟨h3, h4⟩ := ba h1
    rw [q, Array.isEmpty_iff.mp h3, Array.isEmpty_iff.mp h4]
  · cases h1
/-- .. without the tables of the defs xs -/
def asU (g : Addr → Option Obj) (n : Nat) (xs : List Str) : List Addr := (asT g n).filter fun a => !(xs.map (tabA (He.frG g (asT g n)))).contains a
abbrev AlT : Type := He.AlD × Bool
def obsTG (n : Nat) (fa : List He.Fa) (fn : List He.DefD) (more : PySem.W.Frag → Bool) (xs : List Str) (g : Addr → Option Obj) : AlT :=
  (He.obsD fa fn (He.frG g (asU g n xs)), more (He.frG g (asU g n xs)) && xs.all fun x => emptyB (He.frG g (asU g n xs)) g (tabA (He.frG g (asU g n xs)) x))
def hookT (n : Nat) (fa : List He.Fa) (fn : List He.DefD) (more : PySem.W.Frag → Bool) (xs : List Str) : PySem.W.Hook where
  α := AlT
  obs := fun s => obsTG n fa fn more xs s.heap.get?
  val := fun _ => (He.valD fn, true)
  says := fun _ h => ∃ K : PySem.W.Frag, K.In h ∧ He.SaysD fa fn K ∧ more K = true ∧ ∀ x ∈ xs, h.get? (tabA K x) = some { cls := .none, data := .fields #[] } ∧ K.lookup (tabA K x) = none
  of := fun _ _ e => by
    have e2 := ba (congrArg Prod.snd e)
    exact ⟨_, He.frG_in, congrArg Prod.fst e, e2.1, fun x hx => emptyB_ok (List.all_eq_true.mp e2.2 x hx)⟩
  keeps := fun _ _ _ ⟨K, hK, c, d, f⟩ k => ⟨K, PySem.W.Frag.In.keeps hK k, c, d, fun x hx => ⟨k _ _ (f x hx).1, (f x hx).2⟩⟩
theorem obsTG_eq {n : Nat} {fa : List He.Fa} {fn : List He.DefD} {more : PySem.W.Frag → Bool} {xs : List Str} {g : Addr → Option Obj} {s : Shared} (h : ∀ a, g a = s.heap.get? a) : obsTG n fa fn more xs g = (hookT n fa fn more xs).obs s := by
  have e : g = s.heap.get? := funext h
  rw [e] <;> rfl
abbrev callX (n : Nat) (F : List S → M S) (gs : SD → M (List S)) : SD → M S := fun sd => M.bind (gs sd) fun ss => argNX n F ss
/-! ### the end -/
theorem cx_none {P : Program} {w : World} {outer : List Env} {H : Hp} {s s' : Shared} {e : Value} (z : L2.CX P w outer H s (fun _ _ _ => False) e s') : False := by
  obtain ⟨_, _, _, _, _, _, _, _, _, _, _, _, q⟩ := z
  exact q
theorem walk_T {l : PySem.W.OpenLaw} {n k : Nat} {q : Program} {loose : List Str} {XP : (Str → Option Value) → Heap → Prop} {YP : World → Heap → Prop} {d : DefRec} {CX : World → CXT} {x : Str}
    (hn : l.most = some n) (hn2 : n ≤ sizeLine) (hdf : d.params.defaults = []) (hr : Room k callerA)
    (F : ∀ (w : World) (mg : Str → Option Value) (fa : Addr) (h : Heap), YP w h → h.Ns mainGlobals mg → mg d.name = some (.ref fa) → ∃ K : PySem.W.Frag, K.In h ∧ LamX.LawAtS l w K (CX w) k n x mg fa h)
    (hCX : ∀ (w : World) (H : Hp) (s : Shared) (e : Value) (s' : Shared), CX w [] H s (fun _ _ _ => False) e s' → False) :
    PySem.W.WalkO q loose XP YP l.row.toRowW d [] (fun f vs => PySem.call f vs) := by
  refine Att.attach_callB hn hdf fun w s₀ s₁ mg mb fa o pm cd doc a vs ns G Y ho hd hcd hmg hobj hints hlen hbits hg => ?_
  obtain ⟨K, KX, fd, cs, sp, hT, nT, C, hb, hsp, hF⟩ := F w mg fa _ Y G.T.g hmg
  exact LamX.law_callTs KX G.T.g G.T.b G.T.builtins G.T.nolimit hg hT nT C G.T.bmain hobj hints (Nat.le_trans hlen hn2) hr hF hb (fun H hH hS => hsp H a ns hlen hbits hH hS) fun H e s' => hCX w H s₁ e s'
/-- the memory at the law's entry -/
def mem0 (xs : List Str) : Mem := xs.map fun x => .tab x (x ++ ".<locals>.<lambda>")
theorem sp_true {K : PySem.W.Frag} {F : List S → M D} {H : Hp} {a : Addr} {ns : List Int} {m' : Mem} {xs : List Str} (hnd : (xs.map (tabA K)).Nodup) (hT : ∀ x ∈ xs, H (tabA K x) = some (.tbl #[])) (hS : SqL K H a (ns.map V.int)) (e : F [.d (.scr ns)] (mem0 xs) = .ok (.bl true) m') :
    spF K 1 F [.ref a] H (fun v _ => v = .bl true) fun _ _ _ => False := by
  have aT : ∀ x ∈ xs, SqL K H a (ns.map V.int) → Rd H a (.lst (ns.map V.int)) → a ≠ tabA K x := by
    intro x hx _ r z
    rcases r with r | ⟨o, r⟩
    · rw [z, hT x hx] at r; cases r
    · rw [z, hT x hx] at r; cases r
  refine ⟨fun b => if b ∈ xs.map (tabA K) then none else H b, xs.map fun x => (tabA K x, []), mem0 xs, [.d (.scr ns)], ⟨?_, by simp [mem0], ?_, ?_⟩, ⟨.ref a, [], rfl, ⟨a, rfl, ?_⟩, rfl⟩, rfl, ?_⟩
  · intro b o h
    have h' : (if b ∈ xs.map (tabA K) then none else H b) = some o := h
    by_cases hb : b ∈ xs.map (tabA K)
    · rw [if_pos hb] at h'; cases h'
    · rw [if_neg hb] at h'; exact h'
  · intro i j p q hi hj hij b h1 h2
    rw [List.getElem?_map] at hi hj
    cases ei : xs[i]? with
    | none => rw [ei] at hi; cases hi
    | some x =>
      cases ej : xs[j]? with
      | none => rw [ej] at hj; cases hj
      | some y =>
        rw [ei] at hi
        rw [ej] at hj
        cases hi
        cases hj
        have b1 : b = tabA K x := h1.elim id (fun z => by cases z)
        have b2 : b = tabA K y := h2.elim id (fun z => by cases z)
        have g1 : (xs.map (tabA K))[i]? = some b := by rw [List.getElem?_map, ei, b1]; rfl
        have g2 : (xs.map (tabA K))[j]? = some b := by rw [List.getElem?_map, ej, b2]; rfl
        obtain ⟨l1, e1⟩ := List.getElem?_eq_some_iff.mp g1
        obtain ⟨l2, e2⟩ := List.getElem?_eq_some_iff.mp g2
        exact hij ((List.getElem_inj hnd).mp (e1.trans e2.symm))
  · intro i p o hi ho
    unfold mem0 at ho
    rw [List.getElem?_map] at hi ho
    cases ei : xs[i]? with
    | none => rw [ei] at hi; cases hi
    | some x =>
      rw [ei] at hi ho
      cases hi
      cases ho
      have hx : x ∈ xs := List.mem_of_getElem? ei
      exact ⟨rfl, if_pos (List.mem_map.mpr ⟨x, hx, rfl⟩), rfl, #[], hT x hx, True.intro, fun pos cv h => by
        have z : codeAmong pos [] = some cv := h
        simp [codeAmong] at z⟩
  · rcases hS with r | r
    · refine .inl ?_
      have ne : a ∉ xs.map (tabA K) := by
        intro h
        obtain ⟨x, hx, ex⟩ := List.mem_map.mp h
        exact aT x hx (.inl r) r ex.symm
      rcases r with r | ⟨o, r⟩
      · exact .inl ((if_neg ne).trans r)
      · exact .inr ⟨o, (if_neg ne).trans r⟩
    · exact .inr r
  · show Wt K _ _ H _ _ (F [.d (.scr ns)] (mem0 xs))
    rw [e]
    exact fun B' ρ' H' _ _ v r => r
end Mi
set_option maxRecDepth 100000
set_option maxHeartbeats 4000000
/-! The layer Mi, part Ng: max of a tuple of whole numbers. -/
namespace Mi
open PySem PySem.Spec PyProof.Rows L2
theorem maxOf_eq (x : Int) (xs : List Int) : PySem.W.maxOf x xs = maxI (x :: xs) := by
  have key : ∀ (xs : List Int) (x : Int), (PySem.W.maxOf x xs = x ∨ PySem.W.maxOf x xs ∈ xs) ∧ x ≤ PySem.W.maxOf x xs ∧ ∀ y ∈ xs, y ≤ PySem.W.maxOf x xs := by
    intro xs
    induction xs with
    | nil => intro x; exact ⟨.inl rfl, Int.le_refl x, fun y hy => by cases hy⟩
    | cons a l ih =>
      intro x
      have e : PySem.W.maxOf x (a :: l) = PySem.W.maxOf (if decide (x < a) = true then a else x) l := rfl
      rw [e]
      by_cases h : x < a
      · rw [if_pos (decide_eq_true h)]
        obtain ⟨h1, h2, h3⟩ := ih a
        refine ⟨.inr ?_, by omega, fun y hy => ?_⟩
        · rcases h1 with h1 | h1
          · rw [h1]; exact List.mem_cons_self
          · exact List.mem_cons_of_mem _ h1
        · rcases List.mem_cons.mp hy with z | z
          · rw [z]; exact h2
          · exact h3 y z
      · rw [if_neg (fun z => h (of_decide_eq_true z))]
        obtain ⟨h1, h2, h3⟩ := ih x
        refine ⟨?_, h2, fun y hy => ?_⟩
        · rcases h1 with h1 | h1
          · exact .inl h1
          · exact .inr (List.mem_cons_of_mem _ h1)
        · rcases List.mem_cons.mp hy with z | z
          · omega
          · exact h3 y z
  obtain ⟨h1, h2, h3⟩ := key xs x
  refine maxI_eq ?_ ?_
  · rcases h1 with h1 | h1
    · rw [h1]; exact List.mem_cons_self
    · exact List.mem_cons_of_mem _ h1
  · intro y hy
    rcases List.mem_cons.mp hy with z | z
    · rw [z]; exact h2
    · exact h3 y z
section
variable {X : Cx} {E : XK}
def rMaxT (K : PySem.W.Frag) : List V → Hp → VK → Prop := fun vs H Q => ∃ (a : Addr) (ns : List Int), vs = [V.ref a] ∧ SqT K H a (ns.map V.int) ∧ ns ≠ [] ∧ Q (.int (maxI ns)) H
theorem reads_ints {h : Heap} {ns : List Int} {us : List Value} (r : Vals (ns.map V.int) us) : PySem.W.HoldAll h us ns := PySem.W.HoldAll.of_ints r.ints
theorem call_maxT (hc : X.calm = true) (hu : X.A.units + 64 < cLine) : CallR X (.builtin "max") (rMaxT X.K) := by
  intro pins s σ H vs us Q I r h
  obtain ⟨a, ns, rfl, hs, hne, q⟩ := h
  obtain ⟨its, rv, tp, _⟩ := I.tuple hs
  rw [Vals.ref1 r]
  cases ns with
  | nil => exact absurd rfl hne
  | cons x xs =>
    have ho : PySem.W.HoldAll s.heap its.toArray.toList (x :: xs) := by
      simpa using reads_ints (h := s.heap) rv
    refine PySem.W.max_tuple_datum (I.ok.hd hc) (show s.heap.IsTuple a its.toArray from tp) ho (by show X.A.units + 1 + 0 < cLine; omega) fun i v h' tk hi hv hk => ?_
    obtain ⟨as, rd⟩ := hv
    have e := maxOf_eq x xs
    have rd2 : Reads h' v (.int (maxI (x :: xs))) as := by rw [← e]; exact rd
    cases rd2 with
    | int i t => exact ⟨.int (maxI (x :: xs)), H, I.kept (t' := tk) hk, ⟨_, rfl⟩, q⟩
def maxTS : S → M D
  | .d (.tup ds) => M.bind (intsL ds) fun is => if is ≠ [] then M.pure (.int (maxI is)) else bad
  | s => maxS s
theorem maxTS_ok : C1 X E (fun xs H Q => rMax X.K xs H Q ∨ rMaxT X.K xs H Q) maxTS := by
  intro s v B ρ m H Q hs r w
  cases s with
  | h n => exact .inl (maxS_ok (E := E) _ v B ρ m H Q hs r w)
  | d x =>
    cases x with
    | tup ds =>
      obtain ⟨a, xs, rfl, h2, h3⟩ := r
      have w2 : Wt X.K B ρ H E (PD X.K Q) (M.bind (intsL ds) (fun is => if is ≠ [] then M.pure (.int (maxI is)) else bad) m) := w
      obtain ⟨is, rfl, rfl, w3⟩ := intsL_ok (P := fun _ _ _ _ _ => True) h3 w2
      split at w3
      · rename_i hn
        exact .inr ⟨a, is, rfl, SqT.of (hs.ex _ _ h2), hn, Wt.ok (E := E) (m := m) w3 hs _ rfl⟩
      · exact w3.elim
    | _ => exact .inl (maxS_ok (E := E) _ v B ρ m H Q hs r w)
theorem call_max2T (hc : X.calm = true) (hu : X.A.units + 64 < cLine) : CallR X (.builtin "max") (fun xs H Q => rMax X.K xs H Q ∨ rMaxT X.K xs H Q) := CallR.or (cr_max hc) (call_maxT hc hu)
end
end Mi
set_option maxRecDepth 100000
set_option maxHeartbeats 4000000
namespace Pr
open PySem PySem.Spec PyProof.Rows L2 Mi
def top (i : Nat) : Stmt := PySem.Challenge.pw_splitbooks_k83_cuts_of_surfaces.main.body.getD i (.Pass ⟨0, 0, 0, 0⟩)
def mkD (a : Str × Option Str) (x q : Str) (st : Stmt) : He.DefD := ⟨a, x, q, defArgs st, defBody st, defScope st, [], []⟩
abbrev max2I (i j : Int) : Int := if j > i then j else i
abbrev min2I (i j : Int) : Int := if j < i then j else i
def fn : List He.DefD := [
  mkD ("is_number", none) "is_number" "is_number" (top 4),
  mkD ("is_list", none) "is_list" "is_list" (top 5),
  mkD ("numbers_pair", none) "numbers_pair" "numbers_pair" (top 8),
  mkD ("put_in_lots", none) "put_in_lots" "put_in_lots" (top 9),
  mkD ("hang_together", none) "hang_together" "hang_together" (top 10),
  mkD ("is_cut", none) "is_cut" "is_cut" (top 11),
  mkD ("need_cut", none) "need_cut" "need_cut" (top 12),
  mkD ("corners_of", none) "corners_of" "corners_of" (top 13),
  mkD ("genus", none) "genus" "genus" (top 14),
  mkD ("_law_begun", none) "_law_begun" "_law_begun" (top 16),
  mkD ("_law_mixed", none) "_law_mixed" "_law_mixed" (top 17),
  mkD ("_law_take", none) "_law_take" "_law_take" (top 18),
  mkD ("_law_shuffled", none) "_law_shuffled" "_law_shuffled" (top 19),
  mkD ("_law_is_truth", none) "_law_is_truth" "_law_is_truth" (top 20),
  mkD ("_law_caught", none) "_law_caught" "_law_caught" (top 21),
  mkD ("_law_lot_of", none) "_law_lot_of" "_law_lot_of" (top 22),
  mkD ("_law_genus_of", none) "_law_genus_of" "_law_genus_of" (top 23),
  mkD ("_law_turned_face", none) "_law_turned_face" "_law_turned_face" (top 24),
  mkD ("_law_recut", none) "_law_recut" "_law_recut" (top 25),
  mkD ("_law_closed_up", none) "_law_closed_up" "_law_closed_up" (top 26),
  mkD ("_law_named_anew", none) "_law_named_anew" "_law_named_anew" (top 27),
  mkD ("_law_plain_cut", none) "_law_plain_cut" "_law_plain_cut" (top 28),
  mkD ("_law_drawn_cut", none) "_law_drawn_cut" "_law_drawn_cut" (top 29),
  mkD ("_law_due_cut", none) "_law_due_cut" "_law_due_cut" (top 30),
  mkD ("_law_odd_cuts", none) "_law_odd_cuts" "_law_odd_cuts" (top 31),
  mkD ("law", none) "law" "law" (top 32)]
def fa : List He.Fa := [
  .glo "is_number",
  .glo "is_list",
  .glo "numbers_pair",
  .glo "put_in_lots",
  .glo "hang_together",
  .glo "is_cut",
  .glo "need_cut",
  .glo "corners_of",
  .glo "genus",
  .glo "_law_begun",
  .glo "_law_mixed",
  .glo "_law_take",
  .glo "_law_shuffled",
  .glo "_law_is_truth",
  .glo "_law_caught",
  .glo "_law_lot_of",
  .glo "_law_genus_of",
  .glo "_law_turned_face",
  .glo "_law_recut",
  .glo "_law_closed_up",
  .glo "_law_named_anew",
  .glo "_law_plain_cut",
  .glo "_law_drawn_cut",
  .glo "_law_due_cut",
  .glo "_law_odd_cuts",
  .glo "law",
  .glo "SplitError",
  .glo "BadCut",
  .free "ValueError",
  .free "abs",
  .free "all",
  .free "bool",
  .free "dict",
  .free "enumerate",
  .free "int",
  .free "isinstance",
  .free "len",
  .free "list",
  .free "max",
  .free "min",
  .free "range",
  .free "repr",
  .free "sorted",
  .free "sum",
  .free "tuple",
  .int "MOST_EDGES" 30,
  .exc "SplitError",
  .exc "BadCut"]
def lams : List Str := ["law"]
def Ls : List Str := ["SplitError", "BadCut"]
def sub (c z : Str) : Bool := c == z || z == "SplitError"
def more (K : PySem.W.Frag) : Bool := capB K Ls sub && tabsB K lams
/-- the facts of the top that the defs lean on -/
structure Tx (K : PySem.W.Frag) (mg : Str → Option Value) (base : Heap) : Prop where
  c : He.SaysD fa fn K
  h : ∃ h : Heap, K.In h ∧ h.Ns mainGlobals mg
  y : more K = true
  tb : ∀ x, x ∈ lams → LamX.TabB base mg (codeA K x) (tabA K x)
section
variable {K : PySem.W.Frag} {mg : Str → Option Value} {base : Heap}
theorem g_is_number (T : Tx K mg base) : mg "is_number" = some (.ref (He.ga K "is_number")) := T.h.elim fun _ p => He.glo_ok p.1 p.2 (T.c.fact 0 rfl)
theorem g_is_list (T : Tx K mg base) : mg "is_list" = some (.ref (He.ga K "is_list")) := T.h.elim fun _ p => He.glo_ok p.1 p.2 (T.c.fact 1 rfl)
theorem g_numbers_pair (T : Tx K mg base) : mg "numbers_pair" = some (.ref (He.ga K "numbers_pair")) := T.h.elim fun _ p => He.glo_ok p.1 p.2 (T.c.fact 2 rfl)
theorem g_put_in_lots (T : Tx K mg base) : mg "put_in_lots" = some (.ref (He.ga K "put_in_lots")) := T.h.elim fun _ p => He.glo_ok p.1 p.2 (T.c.fact 3 rfl)
theorem g_hang_together (T : Tx K mg base) : mg "hang_together" = some (.ref (He.ga K "hang_together")) := T.h.elim fun _ p => He.glo_ok p.1 p.2 (T.c.fact 4 rfl)
theorem g_is_cut (T : Tx K mg base) : mg "is_cut" = some (.ref (He.ga K "is_cut")) := T.h.elim fun _ p => He.glo_ok p.1 p.2 (T.c.fact 5 rfl)
theorem g_need_cut (T : Tx K mg base) : mg "need_cut" = some (.ref (He.ga K "need_cut")) := T.h.elim fun _ p => He.glo_ok p.1 p.2 (T.c.fact 6 rfl)
theorem g_corners_of (T : Tx K mg base) : mg "corners_of" = some (.ref (He.ga K "corners_of")) := T.h.elim fun _ p => He.glo_ok p.1 p.2 (T.c.fact 7 rfl)
theorem g_genus (T : Tx K mg base) : mg "genus" = some (.ref (He.ga K "genus")) := T.h.elim fun _ p => He.glo_ok p.1 p.2 (T.c.fact 8 rfl)
theorem g__law_begun (T : Tx K mg base) : mg "_law_begun" = some (.ref (He.ga K "_law_begun")) := T.h.elim fun _ p => He.glo_ok p.1 p.2 (T.c.fact 9 rfl)
theorem g__law_mixed (T : Tx K mg base) : mg "_law_mixed" = some (.ref (He.ga K "_law_mixed")) := T.h.elim fun _ p => He.glo_ok p.1 p.2 (T.c.fact 10 rfl)
theorem g__law_take (T : Tx K mg base) : mg "_law_take" = some (.ref (He.ga K "_law_take")) := T.h.elim fun _ p => He.glo_ok p.1 p.2 (T.c.fact 11 rfl)
theorem g__law_shuffled (T : Tx K mg base) : mg "_law_shuffled" = some (.ref (He.ga K "_law_shuffled")) := T.h.elim fun _ p => He.glo_ok p.1 p.2 (T.c.fact 12 rfl)
theorem g__law_is_truth (T : Tx K mg base) : mg "_law_is_truth" = some (.ref (He.ga K "_law_is_truth")) := T.h.elim fun _ p => He.glo_ok p.1 p.2 (T.c.fact 13 rfl)
theorem g__law_caught (T : Tx K mg base) : mg "_law_caught" = some (.ref (He.ga K "_law_caught")) := T.h.elim fun _ p => He.glo_ok p.1 p.2 (T.c.fact 14 rfl)
theorem g__law_lot_of (T : Tx K mg base) : mg "_law_lot_of" = some (.ref (He.ga K "_law_lot_of")) := T.h.elim fun _ p => He.glo_ok p.1 p.2 (T.c.fact 15 rfl)
theorem g__law_genus_of (T : Tx K mg base) : mg "_law_genus_of" = some (.ref (He.ga K "_law_genus_of")) := T.h.elim fun _ p => He.glo_ok p.1 p.2 (T.c.fact 16 rfl)
theorem g__law_turned_face (T : Tx K mg base) : mg "_law_turned_face" = some (.ref (He.ga K "_law_turned_face")) := T.h.elim fun _ p => He.glo_ok p.1 p.2 (T.c.fact 17 rfl)
theorem g__law_recut (T : Tx K mg base) : mg "_law_recut" = some (.ref (He.ga K "_law_recut")) := T.h.elim fun _ p => He.glo_ok p.1 p.2 (T.c.fact 18 rfl)
theorem g__law_closed_up (T : Tx K mg base) : mg "_law_closed_up" = some (.ref (He.ga K "_law_closed_up")) := T.h.elim fun _ p => He.glo_ok p.1 p.2 (T.c.fact 19 rfl)
theorem g__law_named_anew (T : Tx K mg base) : mg "_law_named_anew" = some (.ref (He.ga K "_law_named_anew")) := T.h.elim fun _ p => He.glo_ok p.1 p.2 (T.c.fact 20 rfl)
theorem g__law_plain_cut (T : Tx K mg base) : mg "_law_plain_cut" = some (.ref (He.ga K "_law_plain_cut")) := T.h.elim fun _ p => He.glo_ok p.1 p.2 (T.c.fact 21 rfl)
theorem g__law_drawn_cut (T : Tx K mg base) : mg "_law_drawn_cut" = some (.ref (He.ga K "_law_drawn_cut")) := T.h.elim fun _ p => He.glo_ok p.1 p.2 (T.c.fact 22 rfl)
theorem g__law_due_cut (T : Tx K mg base) : mg "_law_due_cut" = some (.ref (He.ga K "_law_due_cut")) := T.h.elim fun _ p => He.glo_ok p.1 p.2 (T.c.fact 23 rfl)
theorem g__law_odd_cuts (T : Tx K mg base) : mg "_law_odd_cuts" = some (.ref (He.ga K "_law_odd_cuts")) := T.h.elim fun _ p => He.glo_ok p.1 p.2 (T.c.fact 24 rfl)
theorem g_law (T : Tx K mg base) : mg "law" = some (.ref (He.ga K "law")) := T.h.elim fun _ p => He.glo_ok p.1 p.2 (T.c.fact 25 rfl)
theorem g_SplitError (T : Tx K mg base) : mg "SplitError" = some (.ref (He.ga K "SplitError")) := T.h.elim fun _ p => He.glo_ok p.1 p.2 (T.c.fact 26 rfl)
theorem g_BadCut (T : Tx K mg base) : mg "BadCut" = some (.ref (He.ga K "BadCut")) := T.h.elim fun _ p => He.glo_ok p.1 p.2 (T.c.fact 27 rfl)
theorem m_ValueError (T : Tx K mg base) : mg "ValueError" = none := T.h.elim fun _ p => He.free_ok p.1 p.2 (T.c.fact 28 rfl)
theorem m_abs (T : Tx K mg base) : mg "abs" = none := T.h.elim fun _ p => He.free_ok p.1 p.2 (T.c.fact 29 rfl)
theorem m_all (T : Tx K mg base) : mg "all" = none := T.h.elim fun _ p => He.free_ok p.1 p.2 (T.c.fact 30 rfl)
theorem m_bool (T : Tx K mg base) : mg "bool" = none := T.h.elim fun _ p => He.free_ok p.1 p.2 (T.c.fact 31 rfl)
theorem m_dict (T : Tx K mg base) : mg "dict" = none := T.h.elim fun _ p => He.free_ok p.1 p.2 (T.c.fact 32 rfl)
theorem m_enumerate (T : Tx K mg base) : mg "enumerate" = none := T.h.elim fun _ p => He.free_ok p.1 p.2 (T.c.fact 33 rfl)
theorem m_int (T : Tx K mg base) : mg "int" = none := T.h.elim fun _ p => He.free_ok p.1 p.2 (T.c.fact 34 rfl)
theorem m_isinstance (T : Tx K mg base) : mg "isinstance" = none := T.h.elim fun _ p => He.free_ok p.1 p.2 (T.c.fact 35 rfl)
theorem m_len (T : Tx K mg base) : mg "len" = none := T.h.elim fun _ p => He.free_ok p.1 p.2 (T.c.fact 36 rfl)
theorem m_list (T : Tx K mg base) : mg "list" = none := T.h.elim fun _ p => He.free_ok p.1 p.2 (T.c.fact 37 rfl)
theorem m_max (T : Tx K mg base) : mg "max" = none := T.h.elim fun _ p => He.free_ok p.1 p.2 (T.c.fact 38 rfl)
theorem m_min (T : Tx K mg base) : mg "min" = none := T.h.elim fun _ p => He.free_ok p.1 p.2 (T.c.fact 39 rfl)
theorem m_range (T : Tx K mg base) : mg "range" = none := T.h.elim fun _ p => He.free_ok p.1 p.2 (T.c.fact 40 rfl)
theorem m_repr (T : Tx K mg base) : mg "repr" = none := T.h.elim fun _ p => He.free_ok p.1 p.2 (T.c.fact 41 rfl)
theorem m_sorted (T : Tx K mg base) : mg "sorted" = none := T.h.elim fun _ p => He.free_ok p.1 p.2 (T.c.fact 42 rfl)
theorem m_sum (T : Tx K mg base) : mg "sum" = none := T.h.elim fun _ p => He.free_ok p.1 p.2 (T.c.fact 43 rfl)
theorem m_tuple (T : Tx K mg base) : mg "tuple" = none := T.h.elim fun _ p => He.free_ok p.1 p.2 (T.c.fact 44 rfl)
theorem i_MOST_EDGES (T : Tx K mg base) : ∃ t, mg "MOST_EDGES" = some (.int 30 t) := T.h.elim fun _ p => He.int_ok p.1 p.2 (T.c.fact 45 rfl)
theorem x_SplitError (T : Tx K mg base) : Ex0 K mg "SplitError" := let z := He.exc_ok (T.c.fact 46 rfl); ⟨g_SplitError T, z.1, z.2.1, z.2.2.1, z.2.2.2⟩
theorem x_BadCut (T : Tx K mg base) : Ex0 K mg "BadCut" := let z := He.exc_ok (T.c.fact 47 rfl); ⟨g_BadCut T, z.1, z.2.1, z.2.2.1, z.2.2.2⟩
theorem d_is_number (T : Tx K mg base) : ∃ fd, FunD K "is_number" "is_number" (defArgs (top 4)) (defBody (top 4)) (defScope (top 4)) [] [] (He.ga K "is_number") fd := T.c.def_ 0 (d := mkD ("is_number", none) "is_number" "is_number" (top 4)) rfl
theorem d_is_list (T : Tx K mg base) : ∃ fd, FunD K "is_list" "is_list" (defArgs (top 5)) (defBody (top 5)) (defScope (top 5)) [] [] (He.ga K "is_list") fd := T.c.def_ 1 (d := mkD ("is_list", none) "is_list" "is_list" (top 5)) rfl
theorem d_numbers_pair (T : Tx K mg base) : ∃ fd, FunD K "numbers_pair" "numbers_pair" (defArgs (top 8)) (defBody (top 8)) (defScope (top 8)) [] [] (He.ga K "numbers_pair") fd := T.c.def_ 2 (d := mkD ("numbers_pair", none) "numbers_pair" "numbers_pair" (top 8)) rfl
theorem d_put_in_lots (T : Tx K mg base) : ∃ fd, FunD K "put_in_lots" "put_in_lots" (defArgs (top 9)) (defBody (top 9)) (defScope (top 9)) [] [] (He.ga K "put_in_lots") fd := T.c.def_ 3 (d := mkD ("put_in_lots", none) "put_in_lots" "put_in_lots" (top 9)) rfl
theorem d_hang_together (T : Tx K mg base) : ∃ fd, FunD K "hang_together" "hang_together" (defArgs (top 10)) (defBody (top 10)) (defScope (top 10)) [] [] (He.ga K "hang_together") fd := T.c.def_ 4 (d := mkD ("hang_together", none) "hang_together" "hang_together" (top 10)) rfl
theorem d_is_cut (T : Tx K mg base) : ∃ fd, FunD K "is_cut" "is_cut" (defArgs (top 11)) (defBody (top 11)) (defScope (top 11)) [] [] (He.ga K "is_cut") fd := T.c.def_ 5 (d := mkD ("is_cut", none) "is_cut" "is_cut" (top 11)) rfl
theorem d_need_cut (T : Tx K mg base) : ∃ fd, FunD K "need_cut" "need_cut" (defArgs (top 12)) (defBody (top 12)) (defScope (top 12)) [] [] (He.ga K "need_cut") fd := T.c.def_ 6 (d := mkD ("need_cut", none) "need_cut" "need_cut" (top 12)) rfl
theorem d_corners_of (T : Tx K mg base) : ∃ fd, FunD K "corners_of" "corners_of" (defArgs (top 13)) (defBody (top 13)) (defScope (top 13)) [] [] (He.ga K "corners_of") fd := T.c.def_ 7 (d := mkD ("corners_of", none) "corners_of" "corners_of" (top 13)) rfl
theorem d_genus (T : Tx K mg base) : ∃ fd, FunD K "genus" "genus" (defArgs (top 14)) (defBody (top 14)) (defScope (top 14)) [] [] (He.ga K "genus") fd := T.c.def_ 8 (d := mkD ("genus", none) "genus" "genus" (top 14)) rfl
theorem d__law_begun (T : Tx K mg base) : ∃ fd, FunD K "_law_begun" "_law_begun" (defArgs (top 16)) (defBody (top 16)) (defScope (top 16)) [] [] (He.ga K "_law_begun") fd := T.c.def_ 9 (d := mkD ("_law_begun", none) "_law_begun" "_law_begun" (top 16)) rfl
theorem d__law_mixed (T : Tx K mg base) : ∃ fd, FunD K "_law_mixed" "_law_mixed" (defArgs (top 17)) (defBody (top 17)) (defScope (top 17)) [] [] (He.ga K "_law_mixed") fd := T.c.def_ 10 (d := mkD ("_law_mixed", none) "_law_mixed" "_law_mixed" (top 17)) rfl
theorem d__law_take (T : Tx K mg base) : ∃ fd, FunD K "_law_take" "_law_take" (defArgs (top 18)) (defBody (top 18)) (defScope (top 18)) [] [] (He.ga K "_law_take") fd := T.c.def_ 11 (d := mkD ("_law_take", none) "_law_take" "_law_take" (top 18)) rfl
theorem d__law_shuffled (T : Tx K mg base) : ∃ fd, FunD K "_law_shuffled" "_law_shuffled" (defArgs (top 19)) (defBody (top 19)) (defScope (top 19)) [] [] (He.ga K "_law_shuffled") fd := T.c.def_ 12 (d := mkD ("_law_shuffled", none) "_law_shuffled" "_law_shuffled" (top 19)) rfl
theorem d__law_is_truth (T : Tx K mg base) : ∃ fd, FunD K "_law_is_truth" "_law_is_truth" (defArgs (top 20)) (defBody (top 20)) (defScope (top 20)) [] [] (He.ga K "_law_is_truth") fd := T.c.def_ 13 (d := mkD ("_law_is_truth", none) "_law_is_truth" "_law_is_truth" (top 20)) rfl
theorem d__law_caught (T : Tx K mg base) : ∃ fd, FunD K "_law_caught" "_law_caught" (defArgs (top 21)) (defBody (top 21)) (defScope (top 21)) [] [] (He.ga K "_law_caught") fd := T.c.def_ 14 (d := mkD ("_law_caught", none) "_law_caught" "_law_caught" (top 21)) rfl
theorem d__law_lot_of (T : Tx K mg base) : ∃ fd, FunD K "_law_lot_of" "_law_lot_of" (defArgs (top 22)) (defBody (top 22)) (defScope (top 22)) [] [] (He.ga K "_law_lot_of") fd := T.c.def_ 15 (d := mkD ("_law_lot_of", none) "_law_lot_of" "_law_lot_of" (top 22)) rfl
theorem d__law_genus_of (T : Tx K mg base) : ∃ fd, FunD K "_law_genus_of" "_law_genus_of" (defArgs (top 23)) (defBody (top 23)) (defScope (top 23)) [] [] (He.ga K "_law_genus_of") fd := T.c.def_ 16 (d := mkD ("_law_genus_of", none) "_law_genus_of" "_law_genus_of" (top 23)) rfl
theorem d__law_turned_face (T : Tx K mg base) : ∃ fd, FunD K "_law_turned_face" "_law_turned_face" (defArgs (top 24)) (defBody (top 24)) (defScope (top 24)) [] [] (He.ga K "_law_turned_face") fd := T.c.def_ 17 (d := mkD ("_law_turned_face", none) "_law_turned_face" "_law_turned_face" (top 24)) rfl
theorem d__law_recut (T : Tx K mg base) : ∃ fd, FunD K "_law_recut" "_law_recut" (defArgs (top 25)) (defBody (top 25)) (defScope (top 25)) [] [] (He.ga K "_law_recut") fd := T.c.def_ 18 (d := mkD ("_law_recut", none) "_law_recut" "_law_recut" (top 25)) rfl
theorem d__law_closed_up (T : Tx K mg base) : ∃ fd, FunD K "_law_closed_up" "_law_closed_up" (defArgs (top 26)) (defBody (top 26)) (defScope (top 26)) [] [] (He.ga K "_law_closed_up") fd := T.c.def_ 19 (d := mkD ("_law_closed_up", none) "_law_closed_up" "_law_closed_up" (top 26)) rfl
theorem d__law_named_anew (T : Tx K mg base) : ∃ fd, FunD K "_law_named_anew" "_law_named_anew" (defArgs (top 27)) (defBody (top 27)) (defScope (top 27)) [] [] (He.ga K "_law_named_anew") fd := T.c.def_ 20 (d := mkD ("_law_named_anew", none) "_law_named_anew" "_law_named_anew" (top 27)) rfl
theorem d__law_plain_cut (T : Tx K mg base) : ∃ fd, FunD K "_law_plain_cut" "_law_plain_cut" (defArgs (top 28)) (defBody (top 28)) (defScope (top 28)) [] [] (He.ga K "_law_plain_cut") fd := T.c.def_ 21 (d := mkD ("_law_plain_cut", none) "_law_plain_cut" "_law_plain_cut" (top 28)) rfl
theorem d__law_drawn_cut (T : Tx K mg base) : ∃ fd, FunD K "_law_drawn_cut" "_law_drawn_cut" (defArgs (top 29)) (defBody (top 29)) (defScope (top 29)) [] [] (He.ga K "_law_drawn_cut") fd := T.c.def_ 22 (d := mkD ("_law_drawn_cut", none) "_law_drawn_cut" "_law_drawn_cut" (top 29)) rfl
theorem d__law_due_cut (T : Tx K mg base) : ∃ fd, FunD K "_law_due_cut" "_law_due_cut" (defArgs (top 30)) (defBody (top 30)) (defScope (top 30)) [] [] (He.ga K "_law_due_cut") fd := T.c.def_ 23 (d := mkD ("_law_due_cut", none) "_law_due_cut" "_law_due_cut" (top 30)) rfl
theorem d__law_odd_cuts (T : Tx K mg base) : ∃ fd, FunD K "_law_odd_cuts" "_law_odd_cuts" (defArgs (top 31)) (defBody (top 31)) (defScope (top 31)) [] [] (He.ga K "_law_odd_cuts") fd := T.c.def_ 24 (d := mkD ("_law_odd_cuts", none) "_law_odd_cuts" "_law_odd_cuts" (top 31)) rfl
theorem d_law (T : Tx K mg base) : ∃ fd, FunD K "law" "law" (defArgs (top 32)) (defBody (top 32)) (defScope (top 32)) [] [] (He.ga K "law") fd := T.c.def_ 25 (d := mkD ("law", none) "law" "law" (top 32)) rfl
end
section
variable {K : PySem.W.Frag} {mg : Str → Option Value} {base : Heap}
theorem exl (T : Tx K mg base) : ExCl K Ls sub := (capB_ok (ba T.y).1).1
theorem below (T : Tx K mg base) : Below K Ls := (capB_ok (ba T.y).1).2
theorem sc__law_caught : FnScope ["_law_work", "_law_caught_here", "error"] ["_law_work"] (defScope (top 21)) := ⟨rfl, rfl, rfl, by decide +kernel, rfl, by decide +kernel, by decide +kernel⟩
theorem cau (T : Tx K mg base) : CauDef K mg := by
  refine ⟨g__law_caught T, fun X eK eM q => ?_⟩
  subst eK eM
  obtain ⟨fd, FD⟩ := d__law_caught T
  exact ⟨_, _, _, fd, _, "_law_work", FD, FD.bindsN fun _ _ _ _ _ _ us hl => match us, hl with | [_], _ => rfl, sc__law_caught, rfl, .inl rfl, by decide, by decide, fun cdg => cau_gives sc__law_caught rfl (g_SplitError T) (by decide) rfl rfl (by decide) (by decide) (by decide) (by decide) (fun _ => rfl) (fun _ => rfl) (fun _ => rfl)⟩
end
section
variable {P : Program} {w : World} {K : PySem.W.Frag} {mg : Str → Option Value} {base : Heap}
def G_is_number : SD → M Fl :=
    (retV (andV (u2 isi (getS 0) (ofD (kD (.ty "int")))) (notV (u2 isi (getS 0) (ofD (kD (.ty "bool")))))))
def F_is_number : List S → M D := fnM 1 G_is_number
theorem sc_is_number : FnScope ["thing"] ["thing"] (defScope (top 4)) := ⟨rfl, rfl, rfl, by decide +kernel, rfl, by decide +kernel, by decide +kernel⟩
theorem ok_is_number (T : Tx K mg base) : Fx P w K mg base 1 "is_number" ["thing"] F_is_number := by
  have nd := sc_is_number.nd
  obtain ⟨fd, FD⟩ := d_is_number T
  refine ⟨⟨fd, fn_mk FD sc_is_number (fun cdv A outer s H E hr => ?_), FD.bindsN fun _ _ _ _ _ _ us hl => match us, hl with | [_], _ => rfl, FunD_look FD⟩, g_is_number T, FD.kp⟩
  have tk := takes_of (X := cxOf (L2.CX P w) P w K mg base ["thing"] "is_number" (defScope (top 4)) (He.ga K "is_number") cdv A outer s H E) (E := E) rfl rfl rfl rfl
  have ps : Passes (L2.CX P w) (cxOf (L2.CX P w) P w K mg base ["thing"] "is_number" (defScope (top 4)) (He.ga K "is_number") cdv A outer s H E) E := passes_call tk (fun _ _ _ _ h => h)
  exact (sss_one (ss_ret (se_and (se_b2 call_isi2 isi_ok (m_isinstance T) (sx_var (i := 0)) (sx_of (se_ty (m_int T)))) (se_one (se_not (se_b2 call_isi2 isi_ok (m_isinstance T) (sx_var (i := 0)) (sx_of (se_ty (m_bool T)))))))))
def G_is_list : SD → M Fl :=
    (retV (u2 isi (getS 0) (ofD (tupV (consV (kD (.ty "list")) (consV (kD (.ty "tuple")) nilV))))))
def F_is_list : List S → M D := fnM 1 G_is_list
theorem sc_is_list : FnScope ["thing"] ["thing"] (defScope (top 5)) := ⟨rfl, rfl, rfl, by decide +kernel, rfl, by decide +kernel, by decide +kernel⟩
theorem ok_is_list (T : Tx K mg base) : Fx P w K mg base 1 "is_list" ["thing"] F_is_list := by
  have nd := sc_is_list.nd
  obtain ⟨fd, FD⟩ := d_is_list T
  refine ⟨⟨fd, fn_mk FD sc_is_list (fun cdv A outer s H E hr => ?_), FD.bindsN fun _ _ _ _ _ _ us hl => match us, hl with | [_], _ => rfl, FunD_look FD⟩, g_is_list T, FD.kp⟩
  have tk := takes_of (X := cxOf (L2.CX P w) P w K mg base ["thing"] "is_list" (defScope (top 5)) (He.ga K "is_list") cdv A outer s H E) (E := E) rfl rfl rfl rfl
  have ps : Passes (L2.CX P w) (cxOf (L2.CX P w) P w K mg base ["thing"] "is_list" (defScope (top 5)) (He.ga K "is_list") cdv A outer s H E) E := passes_call tk (fun _ _ _ _ h => h)
  exact (sss_one (ss_ret (se_b2 call_isi2 isi_ok (m_isinstance T) (sx_var (i := 0)) (sx_of (se_tup (sl_cons (se_ty (m_list T)) (sl_cons (se_ty (m_tuple T)) sl_nil)))))))
def G_numbers_pair : SD → M Fl :=
    (seqM (setLV 1 (lcM2 [2, 3] [3] (seqI (getD 0)) (tgN 2) yes (seqI (getD 2)) (tgN 3) yes (getD 3)))
    (seqM (setV 4 (u2 divD (u1 lenS (getS 1)) (kD (.int 2))))
    (retV (andV (u2 leD (getD 4) (kD (.int 30))) (u2 eqD (ofL (u1 sortedS (getS 1))) (ofL (lcM [3] (u2 rng2 (u2 subD (kD (.int 0)) (getD 4)) (u2 addD (getD 4) (kD (.int 1)))) (tgN 3) (c2 neD (getD 3) (kD (.int 0))) (getD 3))))))))
def F_numbers_pair : List S → M D := fnM 5 G_numbers_pair
theorem sc_numbers_pair : FnScope ["faces", "some", "face", "e", "many"] ["faces"] (defScope (top 8)) := ⟨rfl, rfl, rfl, by decide +kernel, rfl, by decide +kernel, by decide +kernel⟩
theorem ok_numbers_pair (T : Tx K mg base) : Fx P w K mg base 1 "numbers_pair" ["faces"] F_numbers_pair := by
  have nd := sc_numbers_pair.nd
  obtain ⟨fd, FD⟩ := d_numbers_pair T
  refine ⟨⟨fd, fn_mk FD sc_numbers_pair (fun cdv A outer s H E hr => ?_), FD.bindsN fun _ _ _ _ _ _ us hl => match us, hl with | [_], _ => rfl, FunD_look FD⟩, g_numbers_pair T, FD.kp⟩
  have tk := takes_of (X := cxOf (L2.CX P w) P w K mg base ["faces", "some", "face", "e", "many"] "numbers_pair" (defScope (top 8)) (He.ga K "numbers_pair") cdv A outer s H E) (E := E) rfl rfl rfl rfl
  have ps : Passes (L2.CX P w) (cxOf (L2.CX P w) P w K mg base ["faces", "some", "face", "e", "many"] "numbers_pair" (defScope (top 8)) (He.ga K "numbers_pair") cdv A outer s H E) E := passes_call tk (fun _ _ _ _ h => h)
  exact (sss_cons (ss_setLc2 (i := 1) (own' := [("face", 2), ("e", 3)]) (vs1 := [3]) rfl nd (si_seq (se_var (i := 0))) (by kernel_rfl) (by decide) (by decide) (by decide) (fun _ _ _ _ _ => (sg_name (i := 2) nd)) (fun _ _ _ _ _ => sts_nil) (fun _ _ _ _ _ => (si_seq (se_var (i := 2)))) (fun _ _ _ _ _ => (sg_name (i := 3) nd)) (fun _ _ _ _ _ => sts_nil) (fun _ _ _ _ _ => (se_var (i := 3))) (sw_true rfl rfl rfl (by decide +kernel)))
    (sss_cons (ss_set (i := 4) nd (se_div (se_b1 call_len2 lenS_ok (m_len T) (sx_var (i := 1))) se_int))
    (sss_one (ss_ret (se_and (se_le (se_var (i := 4)) (se_gint (i_MOST_EDGES T))) (se_one (se_eq hr.units (se_of (sf_b1 cr_sortedI sortedS_ok (m_sorted T) (sx_var (i := 1)))) (se_of (sf_lc (own' := [("e", 3)]) rfl nd (si_rng2 (m_range T) (se_sub se_int (se_var (i := 4))) (se_add (se_var (i := 4)) se_int)) (by kernel_rfl) (by decide) (fun _ _ _ _ _ => (sg_name (i := 3) nd)) (fun _ _ _ _ _ => (sts_one (st_ne hr.units (se_var (i := 3)) se_int))) (fun _ _ _ _ _ => (se_var (i := 3))))))))))))
def G_put_in_lots : SD → M Fl :=
    (seqM (setV 2 (ofL (lr1 (getD 0))))
    (seqM (forV (seqI (getD 1)) (tgT 2 (tgC (tgN 3) (tgC (tgN 4) tg0))) (seqM (parV 5 6 (ofD (u2 ixS (getS 2) (getD 3))) (ofD (u2 ixS (getS 2) (getD 4))))
    (seqM (asgV (tupV (consV (u2 (mm2 min2I) (getS 5) (getS 6)) (consV (u2 (mm2 max2I) (getS 5) (getS 6)) nilV))) (tgT 2 (tgC (tgN 7) (tgC (tgN 8) tg0))))
    (setLV 2 (lcM [9] (seqI (getD 2)) (tgN 9) yes (ifV (c2 eqD (getD 9) (getD 8)) (getD 7) (getD 9)))))))
    (retV (u1 tupleS (getS 2)))))
def F_put_in_lots : List S → M D := fnM 10 G_put_in_lots
theorem sc_put_in_lots : FnScope ["many", "pairs", "found", "one", "other", "here", "there", "low", "high", "k"] ["many", "pairs"] (defScope (top 9)) := ⟨rfl, rfl, rfl, by decide +kernel, rfl, by decide +kernel, by decide +kernel⟩
theorem ok_put_in_lots (T : Tx K mg base) : Fx P w K mg base 1 "put_in_lots" ["many", "pairs"] F_put_in_lots := by
  have nd := sc_put_in_lots.nd
  obtain ⟨fd, FD⟩ := d_put_in_lots T
  refine ⟨⟨fd, fn_mk FD sc_put_in_lots (fun cdv A outer s H E hr => ?_), FD.bindsN fun _ _ _ _ _ _ us hl => match us, hl with | [_, _], _ => rfl, FunD_look FD⟩, g_put_in_lots T, FD.kp⟩
  have tk := takes_of (X := cxOf (L2.CX P w) P w K mg base ["many", "pairs", "found", "one", "other", "here", "there", "low", "high", "k"] "put_in_lots" (defScope (top 9)) (He.ga K "put_in_lots") cdv A outer s H E) (E := E) rfl rfl rfl rfl
  have ps : Passes (L2.CX P w) (cxOf (L2.CX P w) P w K mg base ["many", "pairs", "found", "one", "other", "here", "there", "low", "high", "k"] "put_in_lots" (defScope (top 9)) (He.ga K "put_in_lots") cdv A outer s H E) E := passes_call tk (fun _ _ _ _ h => h)
  exact (sss_cons (ss_set (i := 2) nd (se_of (sf_rng1 rfl (m_list T) (m_range T) (se_var (i := 0)))))
    (sss_cons (ss_for (passes_of rfl) rfl (si_seq (se_var (i := 1))) (sg_tupT rfl (sgs_cons (sg_name (i := 3) nd) (sgs_cons (sg_name (i := 4) nd) sgs_nil))) (sss_cons (ss_par (i := 5) (j := 6) rfl nd (sx_of (se_ix (sx_var (i := 2)) (se_var (i := 3)))) (sx_of (se_ix (sx_var (i := 2)) (se_var (i := 4)))) rfl)
    (sss_cons (ss_asg (se_tup (sl_cons (se_b2 (call_min2 rfl) mm2_ok (m_min T) (sx_var (i := 5)) (sx_var (i := 6))) (sl_cons (se_b2 (call_max2 rfl) mm2_ok (m_max T) (sx_var (i := 5)) (sx_var (i := 6))) sl_nil))) (sg_tupT rfl (sgs_cons (sg_name (i := 7) nd) (sgs_cons (sg_name (i := 8) nd) sgs_nil))))
    (sss_one (ss_setLc (i := 2) (own' := [("k", 9)]) rfl nd (si_seq (se_var (i := 2))) (by kernel_rfl) (by decide) (fun _ _ _ _ _ => (sg_name (i := 9) nd)) (fun _ _ _ _ _ => sts_nil) (fun _ _ _ _ _ => (se_if (st_eq hr.units (se_var (i := 9)) (se_var (i := 8))) (se_var (i := 7)) (se_var (i := 9)))) (sw_true rfl rfl rfl (by decide +kernel)))))))
    (sss_one (ss_ret (se_t1 call_tuple_of tupleS_ok (m_tuple T) (sx_var (i := 2)))))))
def G_hang_together : SD → M Fl :=
    (seqM (setV 1 (ofDk (u1 dictS (ofD (ofL (lcM2 [2, 3, 4] [4] (enumT (getD 0)) (tgT 2 (tgC (tgN 2) (tgC (tgN 3) tg0))) yes (seqI (getD 3)) (tgN 4) yes (tupV (consV (getD 4) (consV (getD 2) nilV)))))))))
    (seqM (setV 5 (callM 2 F_put_in_lots (consV (ofD (u1 lenS (getS 0))) (consV (ofD (ofL (lcM [4] (u1 keysD (getD 1)) (tgN 4) (c2 gtD (getD 4) (kD (.int 0))) (tupV (consV (dgetV (getS 1) (getD 4)) (consV (dgetV (getS 1) (u2 subD (kD (.int 0)) (getD 4))) nilV)))))) nilV))))
    (retV (u2 eqD (u1 maxTS (getS 5)) (kD (.int 0))))))
def F_hang_together : List S → M D := fnM 6 G_hang_together
theorem sc_hang_together : FnScope ["faces", "spots", "at", "face", "e", "lots"] ["faces"] (defScope (top 10)) := ⟨rfl, rfl, rfl, by decide +kernel, rfl, by decide +kernel, by decide +kernel⟩
theorem ok_hang_together (T : Tx K mg base) : Fx P w K mg base 2 "hang_together" ["faces"] F_hang_together := by
  have nd := sc_hang_together.nd
  obtain ⟨fd, FD⟩ := d_hang_together T
  refine ⟨⟨fd, fn_mk FD sc_hang_together (fun cdv A outer s H E hr => ?_), FD.bindsN fun _ _ _ _ _ _ us hl => match us, hl with | [_], _ => rfl, FunD_look FD⟩, g_hang_together T, FD.kp⟩
  have tk := takes_of (X := cxOf (L2.CX P w) P w K mg base ["faces", "spots", "at", "face", "e", "lots"] "hang_together" (defScope (top 10)) (He.ga K "hang_together") cdv A outer s H E) (E := E) rfl rfl rfl rfl
  have ps : Passes (L2.CX P w) (cxOf (L2.CX P w) P w K mg base ["faces", "spots", "at", "face", "e", "lots"] "hang_together" (defScope (top 10)) (He.ga K "hang_together") cdv A outer s H E) E := passes_call tk (fun _ _ _ _ h => h)
  exact (sss_cons (ss_set (i := 1) nd (se_ofD (sd_dictP rfl (m_dict T) (sx_of (se_of (sf_lc2 (own' := [("at", 2), ("face", 3), ("e", 4)]) (vs1 := [4]) rfl nd (si_enumT (m_enumerate T) (se_var (i := 0))) (by kernel_rfl) (by decide) (by decide) (by decide) (fun _ _ _ _ _ => (sg_tupT rfl (sgs_cons (sg_name (i := 2) nd) (sgs_cons (sg_name (i := 3) nd) sgs_nil)))) (fun _ _ _ _ _ => sts_nil) (fun _ _ _ _ _ => (si_seq (se_var (i := 3)))) (fun _ _ _ _ _ => (sg_name (i := 4) nd)) (fun _ _ _ _ _ => sts_nil) (fun _ _ _ _ _ => (se_tup (sl_cons (se_var (i := 4)) (sl_cons (se_var (i := 2)) sl_nil))))))))))
    (sss_cons (ss_set (i := 5) nd (se_call (ok_put_in_lots T) (hr.mono (by decide)) ps (sa_cons (sx_of (se_b1 call_len2 lenS_ok (m_len T) (sx_var (i := 0)))) (sa_cons (sx_of (se_of (sf_lc (own' := [("e", 4)]) rfl nd (si_keys (se_var (i := 1))) (by kernel_rfl) (by decide) (fun _ _ _ _ _ => (sg_name (i := 4) nd)) (fun _ _ _ _ _ => (sts_one (st_gt (se_var (i := 4)) se_int))) (fun _ _ _ _ _ => (se_tup (sl_cons (se_dget hr.units (sx_var (i := 1)) (se_var (i := 4))) (sl_cons (se_dget hr.units (sx_var (i := 1)) (se_sub se_int (se_var (i := 4)))) sl_nil))))))) sa_nil))))
    (sss_one (ss_ret (se_eq hr.units (se_b1 (call_max2T rfl hr.units) maxTS_ok (m_max T) (sx_var (i := 5))) se_int)))))
def G_is_cut : SD → M Fl :=
    (seqM (ifV (orB (notB (tst (callM 1 F_is_list (consV (getS 0) nilV)))) (c2 eqD (u1 lenS (getS 0)) (kD (.int 0)))) (retV (kD (.bl false))) nxV)
    (seqM (forV (seqI (getD 0)) (tgN 1) (ifV (orB (notB (tst (callM 1 F_is_list (consV (getS 1) nilV)))) (orB (c2 eqD (u1 lenS (getS 1)) (kD (.int 0))) (notB (tst (u1 allS (ofD (ofL (lcM [2] (seqI (getD 1)) (tgN 2) yes (callM 1 F_is_number (consV (getS 2) nilV)))))))))) (retV (kD (.bl false))) nxV))
    (retV (andV (callM 1 F_numbers_pair (consV (getS 0) nilV)) (callM 1 F_hang_together (consV (getS 0) nilV))))))
def F_is_cut : List S → M D := fnM 3 G_is_cut
theorem sc_is_cut : FnScope ["thing", "face", "e"] ["thing"] (defScope (top 11)) := ⟨rfl, rfl, rfl, by decide +kernel, rfl, by decide +kernel, by decide +kernel⟩
theorem ok_is_cut (T : Tx K mg base) : Fx P w K mg base 3 "is_cut" ["thing"] F_is_cut := by
  have nd := sc_is_cut.nd
  obtain ⟨fd, FD⟩ := d_is_cut T
  refine ⟨⟨fd, fn_mk FD sc_is_cut (fun cdv A outer s H E hr => ?_), FD.bindsN fun _ _ _ _ _ _ us hl => match us, hl with | [_], _ => rfl, FunD_look FD⟩, g_is_cut T, FD.kp⟩
  have tk := takes_of (X := cxOf (L2.CX P w) P w K mg base ["thing", "face", "e"] "is_cut" (defScope (top 11)) (He.ga K "is_cut") cdv A outer s H E) (E := E) rfl rfl rfl rfl
  have ps : Passes (L2.CX P w) (cxOf (L2.CX P w) P w K mg base ["thing", "face", "e"] "is_cut" (defScope (top 11)) (He.ga K "is_cut") cdv A outer s H E) E := passes_call tk (fun _ _ _ _ h => h)
  exact (sss_cons (ss_if (st_bool (sw_or (st_not (st_val (se_call (ok_is_list T) (hr.mono (by decide)) ps (sa_cons (sx_var (i := 0)) sa_nil)))) (sw_or1 (st_eq hr.units (se_b1 call_len2 lenS_ok (m_len T) (sx_var (i := 0))) se_int)))) (sss_one (ss_ret se_bl)) sss_nil)
    (sss_cons (ss_for (passes_of rfl) rfl (si_seq (se_var (i := 0))) (sg_name (i := 1) nd) (sss_one (ss_if (st_bool (sw_or (st_not (st_val (se_call (ok_is_list T) (hr.mono (by decide)) ps (sa_cons (sx_var (i := 1)) sa_nil)))) (sw_or (st_eq hr.units (se_b1 call_len2 lenS_ok (m_len T) (sx_var (i := 1))) se_int) (sw_or1 (st_not (st_val (se_b1 (cr_all rfl) allS_ok (m_all T) (sx_of (se_of (sf_lc (own' := [("e", 2)]) rfl nd (si_seq (se_var (i := 1))) (by kernel_rfl) (by decide) (fun _ _ _ _ _ => (sg_name (i := 2) nd)) (fun _ _ _ _ _ => sts_nil) (fun _ _ _ _ _ => (se_call (ok_is_number T) (hr.mono (by decide)) passL (sa_cons (sx_var (i := 2)) sa_nil))))))))))))) (sss_one (ss_ret se_bl)) sss_nil)))
    (sss_one (ss_ret (se_and (se_call (ok_numbers_pair T) (hr.mono (by decide)) ps (sa_cons (sx_var (i := 0)) sa_nil)) (se_one (se_call (ok_hang_together T) (hr.mono (by decide)) ps (sa_cons (sx_var (i := 0)) sa_nil))))))))
def G_need_cut : SD → M Fl :=
    (ifV (notB (tst (callM 1 F_is_cut (consV (getS 0) nilV)))) (raiseV "BadCut") nxV)
def F_need_cut : List S → M D := fnM 1 G_need_cut
theorem sc_need_cut : FnScope ["cut"] ["cut"] (defScope (top 12)) := ⟨rfl, rfl, rfl, by decide +kernel, rfl, by decide +kernel, by decide +kernel⟩
theorem ok_need_cut (T : Tx K mg base) : Fx P w K mg base 4 "need_cut" ["cut"] F_need_cut := by
  have nd := sc_need_cut.nd
  obtain ⟨fd, FD⟩ := d_need_cut T
  refine ⟨⟨fd, fn_mk FD sc_need_cut (fun cdv A outer s H E hr => ?_), FD.bindsN fun _ _ _ _ _ _ us hl => match us, hl with | [_], _ => rfl, FunD_look FD⟩, g_need_cut T, FD.kp⟩
  have tk := takes_of (X := cxOf (L2.CX P w) P w K mg base ["cut"] "need_cut" (defScope (top 12)) (He.ga K "need_cut") cdv A outer s H E) (E := E) rfl rfl rfl rfl
  have ps : Passes (L2.CX P w) (cxOf (L2.CX P w) P w K mg base ["cut"] "need_cut" (defScope (top 12)) (He.ga K "need_cut") cdv A outer s H E) E := passes_call tk (fun _ _ _ _ h => h)
  exact (sss_one (ss_if (st_not (st_val (se_call (ok_is_cut T) (hr.mono (by decide)) ps (sa_cons (sx_var (i := 0)) sa_nil)))) (sss_one (ss_raise0 rfl tk (x_BadCut T))) sss_nil))
def G_corners_of : SD → M Fl :=
    (seqM (setV 1 (u2 divD (u1 sumS (ofD (ofL (lcM [2] (seqI (getD 0)) (tgN 2) yes (u1 lenS (getS 2)))))) (kD (.int 2))))
    (seqM (setX 3 (newDk (u1 dictS (ofD (ofL (lcM [4] (u2 rng2 (kD (.int 1)) (u2 addD (getD 1) (kD (.int 1)))) (tgN 4) yes (tupV (consV (getD 4) (consV (u2 subD (u2 mulD (kD (.int 2)) (getD 4)) (kD (.int 1))) nilV)))))))))
    (seqM (setX 5 (newDk (u1 dictS (ofD (ofL (lcM [4] (u2 rng2 (kD (.int 1)) (u2 addD (getD 1) (kD (.int 1)))) (tgN 4) yes (tupV (consV (getD 4) (consV (u2 subD (u2 mulD (kD (.int 2)) (getD 4)) (kD (.int 2))) nilV)))))))))
    (seqM (forV (u2 rng2 (kD (.int 1)) (u2 addD (getD 1) (kD (.int 1)))) (tgN 4) (asgV (tupV (consV (u2 subD (u2 mulD (kD (.int 2)) (getD 4)) (kD (.int 2))) (consV (u2 subD (u2 mulD (kD (.int 2)) (getD 4)) (kD (.int 1))) nilV))) (tgT 2 (tgC (tgDP (getS 3) (u2 subD (kD (.int 0)) (getD 4))) (tgC (tgDP (getS 5) (u2 subD (kD (.int 0)) (getD 4))) tg0)))))
    (seqM (setX 6 (newV (lstV nilV)))
    (seqM (forV (seqI (getD 0)) (tgN 2) (forV (enumT (getD 2)) (tgT 2 (tgC (tgN 7) (tgC (tgN 4) tg0))) (dropV (lm1 appS (getS 6) (tupV (consV (dgetV (getS 3) (getD 4)) (consV (dgetV (getS 5) (u2 ixS (getS 2) (u2 modD (u2 addD (getD 7) (kD (.int 1))) (u1 lenS (getS 2))))) nilV)))))))
    (seqM (setV 8 (callM 2 F_put_in_lots (consV (ofD (u2 mulD (kD (.int 2)) (getD 1))) (consV (getS 6) nilV))))
    (retV (u1 lenS (ofD (ofL (lcM [9, 10] (enumT (getD 8)) (tgT 2 (tgC (tgN 9) (tgC (tgN 10) tg0))) (c2 eqD (getD 9) (getD 10)) (getD 9)))))))))))))
def F_corners_of : List S → M D := fnM 11 G_corners_of
theorem sc_corners_of : FnScope ["faces", "many", "face", "ends", "e", "begins", "pairs", "at", "lots", "k", "least"] ["faces"] (defScope (top 13)) := ⟨rfl, rfl, rfl, by decide +kernel, rfl, by decide +kernel, by decide +kernel⟩
theorem ok_corners_of (T : Tx K mg base) : Fx P w K mg base 2 "corners_of" ["faces"] F_corners_of := by
  have nd := sc_corners_of.nd
  obtain ⟨fd, FD⟩ := d_corners_of T
  refine ⟨⟨fd, fn_mk FD sc_corners_of (fun cdv A outer s H E hr => ?_), FD.bindsN fun _ _ _ _ _ _ us hl => match us, hl with | [_], _ => rfl, FunD_look FD⟩, g_corners_of T, FD.kp⟩
  have tk := takes_of (X := cxOf (L2.CX P w) P w K mg base ["faces", "many", "face", "ends", "e", "begins", "pairs", "at", "lots", "k", "least"] "corners_of" (defScope (top 13)) (He.ga K "corners_of") cdv A outer s H E) (E := E) rfl rfl rfl rfl
  have ps : Passes (L2.CX P w) (cxOf (L2.CX P w) P w K mg base ["faces", "many", "face", "ends", "e", "begins", "pairs", "at", "lots", "k", "least"] "corners_of" (defScope (top 13)) (He.ga K "corners_of") cdv A outer s H E) E := passes_call tk (fun _ _ _ _ h => h)
  exact (sss_cons (ss_set (i := 1) nd (se_div (se_b1 (cr_sum rfl) sumS_ok (m_sum T) (sx_of (se_of (sf_lc (own' := [("face", 2)]) rfl nd (si_seq (se_var (i := 0))) (by kernel_rfl) (by decide) (fun _ _ _ _ _ => (sg_name (i := 2) nd)) (fun _ _ _ _ _ => sts_nil) (fun _ _ _ _ _ => (se_b1 call_len2 lenS_ok (m_len T) (sx_var (i := 2)))))))) se_int))
    (sss_cons (ss_setX (i := 3) nd (sx_newD (sd_dictP rfl (m_dict T) (sx_of (se_of (sf_lc (own' := [("e", 4)]) rfl nd (si_rng2 (m_range T) se_int (se_add (se_var (i := 1)) se_int)) (by kernel_rfl) (by decide) (fun _ _ _ _ _ => (sg_name (i := 4) nd)) (fun _ _ _ _ _ => sts_nil) (fun _ _ _ _ _ => (se_tup (sl_cons (se_var (i := 4)) (sl_cons (se_sub (se_mul se_int (se_var (i := 4))) se_int) sl_nil))))))))))
    (sss_cons (ss_setX (i := 5) nd (sx_newD (sd_dictP rfl (m_dict T) (sx_of (se_of (sf_lc (own' := [("e", 4)]) rfl nd (si_rng2 (m_range T) se_int (se_add (se_var (i := 1)) se_int)) (by kernel_rfl) (by decide) (fun _ _ _ _ _ => (sg_name (i := 4) nd)) (fun _ _ _ _ _ => sts_nil) (fun _ _ _ _ _ => (se_tup (sl_cons (se_var (i := 4)) (sl_cons (se_sub (se_mul se_int (se_var (i := 4))) se_int) sl_nil))))))))))
    (sss_cons (ss_for (passes_of rfl) rfl (si_rng2 (m_range T) se_int (se_add (se_var (i := 1)) se_int)) (sg_name (i := 4) nd) (sss_one (ss_asg (se_tup (sl_cons (se_sub (se_mul se_int (se_var (i := 4))) se_int) (sl_cons (se_sub (se_mul se_int (se_var (i := 4))) se_int) sl_nil))) (sg_tupT rfl (sgs_cons (sg_dput hr.units (sx_var (i := 3)) (se_sub se_int (se_var (i := 4)))) (sgs_cons (sg_dput hr.units (sx_var (i := 5)) (se_sub se_int (se_var (i := 4)))) sgs_nil))))))
    (sss_cons (ss_setX (i := 6) nd (sx_new (sf_lst sl_nil)))
    (sss_cons (ss_for (passes_of rfl) rfl (si_seq (se_var (i := 0))) (sg_name (i := 2) nd) (sss_one (ss_for (passes_of rfl) rfl (si_enumT (m_enumerate T) (se_var (i := 2))) (sg_tupT rfl (sgs_cons (sg_name (i := 7) nd) (sgs_cons (sg_name (i := 4) nd) sgs_nil))) (sss_one (ss_expr (se_append (sx_var (i := 6)) (se_tup (sl_cons (se_dget hr.units (sx_var (i := 3)) (se_var (i := 4))) (sl_cons (se_dget hr.units (sx_var (i := 5)) (se_ix (sx_var (i := 2)) (se_mod (se_add (se_var (i := 7)) se_int) (se_b1 call_len2 lenS_ok (m_len T) (sx_var (i := 2)))))) sl_nil)))))))))
    (sss_cons (ss_set (i := 8) nd (se_call (ok_put_in_lots T) (hr.mono (by decide)) ps (sa_cons (sx_of (se_mul se_int (se_var (i := 1)))) (sa_cons (sx_var (i := 6)) sa_nil))))
    (sss_one (ss_ret (se_b1 call_len2 lenS_ok (m_len T) (sx_of (se_of (sf_lc (own' := [("k", 9), ("least", 10)]) rfl nd (si_enumT (m_enumerate T) (se_var (i := 8))) (by kernel_rfl) (by decide) (fun _ _ _ _ _ => (sg_tupT rfl (sgs_cons (sg_name (i := 9) nd) (sgs_cons (sg_name (i := 10) nd) sgs_nil)))) (fun _ _ _ _ _ => (sts_one (st_eq hr.units (se_var (i := 9)) (se_var (i := 10))))) (fun _ _ _ _ _ => (se_var (i := 9))))))))))))))))
def G_genus : SD → M Fl :=
    (seqM (dropV (callM 1 F_need_cut (consV (getS 0) nilV)))
    (seqM (setV 1 (u2 divD (u1 sumS (ofD (ofL (lcM [2] (seqI (getD 0)) (tgN 2) yes (u1 lenS (getS 2)))))) (kD (.int 2))))
    (retV (u2 divD (u2 subD (u2 addD (u2 subD (kD (.int 2)) (callM 1 F_corners_of (consV (getS 0) nilV))) (getD 1)) (u1 lenS (getS 0))) (kD (.int 2))))))
def F_genus : List S → M D := fnM 3 G_genus
theorem sc_genus : FnScope ["cut", "many", "face"] ["cut"] (defScope (top 14)) := ⟨rfl, rfl, rfl, by decide +kernel, rfl, by decide +kernel, by decide +kernel⟩
theorem ok_genus (T : Tx K mg base) : Fx P w K mg base 5 "genus" ["cut"] F_genus := by
  have nd := sc_genus.nd
  obtain ⟨fd, FD⟩ := d_genus T
  refine ⟨⟨fd, fn_mk FD sc_genus (fun cdv A outer s H E hr => ?_), FD.bindsN fun _ _ _ _ _ _ us hl => match us, hl with | [_], _ => rfl, FunD_look FD⟩, g_genus T, FD.kp⟩
  have tk := takes_of (X := cxOf (L2.CX P w) P w K mg base ["cut", "many", "face"] "genus" (defScope (top 14)) (He.ga K "genus") cdv A outer s H E) (E := E) rfl rfl rfl rfl
  have ps : Passes (L2.CX P w) (cxOf (L2.CX P w) P w K mg base ["cut", "many", "face"] "genus" (defScope (top 14)) (He.ga K "genus") cdv A outer s H E) E := passes_call tk (fun _ _ _ _ h => h)
  exact (sss_cons (ss_expr (se_call (ok_need_cut T) (hr.mono (by decide)) ps (sa_cons (sx_var (i := 0)) sa_nil)))
    (sss_cons (ss_set (i := 1) nd (se_div (se_b1 (cr_sum rfl) sumS_ok (m_sum T) (sx_of (se_of (sf_lc (own' := [("face", 2)]) rfl nd (si_seq (se_var (i := 0))) (by kernel_rfl) (by decide) (fun _ _ _ _ _ => (sg_name (i := 2) nd)) (fun _ _ _ _ _ => sts_nil) (fun _ _ _ _ _ => (se_b1 call_len2 lenS_ok (m_len T) (sx_var (i := 2)))))))) se_int))
    (sss_one (ss_ret (se_div (se_sub (se_add (se_sub se_int (se_call (ok_corners_of T) (hr.mono (by decide)) ps (sa_cons (sx_var (i := 0)) sa_nil))) (se_var (i := 1))) (se_b1 call_len2 lenS_ok (m_len T) (sx_var (i := 0)))) se_int)))))
theorem sc__law_begun : FnScope ["_law_script", "_law_large", "_law_grain"] ["_law_script"] (defScope (top 16)) := ⟨rfl, rfl, rfl, by decide +kernel, rfl, by decide +kernel, by decide +kernel⟩
theorem ok__law_begun (T : Tx K mg base) : FxX P w K mg base 1 "_law_begun" ["_law_script"] F_begun := by
  have nd := sc__law_begun.nd
  obtain ⟨fd, FD⟩ := d__law_begun T
  refine ⟨⟨fd, fn_begun FD sc__law_begun (fun cdv A outer s H E hr => ?_) (fun cdv A outer s H E => sx_var (i := 1)) (fun cdv A outer s H E hr => ?_) begun_e1 begun_e2, FD.bindsN fun _ _ _ _ _ _ us hl => match us, hl with | [_], _ => rfl⟩, g__law_begun T, FD.kp⟩
  · exact (ss_setLcX (i := 1) (own' := [("_law_grain", 2)]) rfl nd (si_seq (se_var (i := 0))) (by kernel_rfl) (by decide) (fun _ _ _ _ _ => (sg_name (i := 2) nd)) (fun _ _ _ _ _ => (sts_one (st_ge (se_b1 call_abs absS_ok (m_abs T) (sx_var (i := 2))) (se_pow se_int se_int)))) (fun _ _ _ _ _ => (se_sub (se_b1 call_abs absS_ok (m_abs T) (sx_var (i := 2))) (se_pow se_int se_int))) (sw_true rfl rfl rfl (by decide +kernel)))
  · exact (sf_lc (own' := [("_law_grain", 2)]) rfl nd (si_seq (se_var (i := 0))) (by kernel_rfl) (by decide) (fun _ _ _ _ _ => (sg_name (i := 2) nd)) (fun _ _ _ _ _ => sts_nil) (fun _ _ _ _ _ => (se_b1 call_abs absS_ok (m_abs T) (sx_var (i := 2)))))
theorem sc__law_mixed : FnScope ["_law_draw", "_law_turn", "_law_found", "_law_great", "_law_blend", "_law_grain"] ["_law_draw"] (defScope (top 17)) := ⟨rfl, rfl, rfl, by decide +kernel, rfl, by decide +kernel, by decide +kernel⟩
theorem ok__law_mixed (T : Tx K mg base) : Fx P w K mg base 1 "_law_mixed" ["_law_draw"] F__law_mixed := by
  have nd := sc__law_mixed.nd
  obtain ⟨fd, FD⟩ := d__law_mixed T
  refine ⟨⟨fd, fn_mk FD sc__law_mixed (fun cdv A outer s H E hr => ?_), FD.bindsN fun _ _ _ _ _ _ us hl => match us, hl with | [_], _ => rfl, FunD_look FD⟩, g__law_mixed T, FD.kp⟩
  have tk := takes_of (X := cxOf (L2.CX P w) P w K mg base ["_law_draw", "_law_turn", "_law_found", "_law_great", "_law_blend", "_law_grain"] "_law_mixed" (defScope (top 17)) (He.ga K "_law_mixed") cdv A outer s H E) (E := E) rfl rfl rfl rfl
  have ps : Passes (L2.CX P w) (cxOf (L2.CX P w) P w K mg base ["_law_draw", "_law_turn", "_law_found", "_law_great", "_law_blend", "_law_grain"] "_law_mixed" (defScope (top 17)) (He.ga K "_law_mixed") cdv A outer s H E) E := passes_call tk (fun _ _ _ _ h => h)
  exact (sss_cons (ss_drwPut (lt64 hr.units) (sx_var (i := 0)) (se_add (se_drwK (lt64 hr.units) (sx_var (i := 0))) se_int))
    (sss_cons (ss_par (i := 1) (j := 2) rfl nd (sx_of (se_t1 call_int1 toIntS_ok (m_int T) (sx_of (se_drwK (lt64 hr.units) (sx_var (i := 0)))))) (sx_of se_int) rfl)
    (sss_cons (ss_for (passes_of rfl) rfl (si_seq (se_of (sf_lst (sl_cons se_int (sl_cons se_int (sl_cons se_int sl_nil)))))) (sg_name (i := 3) nd) (sss_cons (ss_set (i := 4) nd (se_mod (se_add (se_mul (se_var (i := 1)) se_int) (se_div (se_var (i := 3)) se_int)) (se_var (i := 3))))
    (sss_cons (ss_for (passes_of rfl) rfl (si_seq (se_drwK (lt64 hr.units) (sx_var (i := 0)))) (sg_name (i := 5) nd) (sss_one (ss_set (i := 4) nd (se_mod (se_add (se_mul (se_var (i := 4)) se_int) (se_t1 call_int1 toIntS_ok (m_int T) (sx_var (i := 5)))) (se_var (i := 3))))))
    (sss_one (ss_set (i := 2) nd (se_add (se_mul (se_var (i := 2)) se_int) (se_mod (se_pow (se_var (i := 4)) se_int) (se_var (i := 3)))))))))
    (sss_one (ss_ret (se_var (i := 2)))))))
theorem sc__law_take : FnScope ["_law_draw", "_law_amount", "_law_found"] ["_law_draw", "_law_amount"] (defScope (top 18)) := ⟨rfl, rfl, rfl, by decide +kernel, rfl, by decide +kernel, by decide +kernel⟩
theorem ok__law_take (T : Tx K mg base) : Fx P w K mg base 2 "_law_take" ["_law_draw", "_law_amount"] F__law_take := by
  have nd := sc__law_take.nd
  obtain ⟨fd, FD⟩ := d__law_take T
  refine ⟨⟨fd, fn_mk FD sc__law_take (fun cdv A outer s H E hr => ?_), FD.bindsN fun _ _ _ _ _ _ us hl => match us, hl with | [_, _], _ => rfl, FunD_look FD⟩, g__law_take T, FD.kp⟩
  have tk := takes_of (X := cxOf (L2.CX P w) P w K mg base ["_law_draw", "_law_amount", "_law_found"] "_law_take" (defScope (top 18)) (He.ga K "_law_take") cdv A outer s H E) (E := E) rfl rfl rfl rfl
  have ps : Passes (L2.CX P w) (cxOf (L2.CX P w) P w K mg base ["_law_draw", "_law_amount", "_law_found"] "_law_take" (defScope (top 18)) (He.ga K "_law_take") cdv A outer s H E) E := passes_call tk (fun _ _ _ _ h => h)
  exact (sss_cons (ss_if (st_eq hr.units (se_drwK (lt64 hr.units) (sx_var (i := 0))) se_int) (sss_one (ss_drwPut (lt64 hr.units) (sx_var (i := 0)) (se_if (st_drwLa hr.units (sx_var (i := 0))) (se_drwPop (lt64 hr.units) (sx_var (i := 0))) (se_call (ok__law_mixed T) (hr.mono (by decide)) ps (sa_cons (sx_var (i := 0)) sa_nil))))) sss_nil)
    (sss_cons (ss_set (i := 2) nd (se_mod (se_t1 call_int1 toIntS_ok (m_int T) (sx_of (se_drwK (lt64 hr.units) (sx_var (i := 0))))) (se_var (i := 1))))
    (sss_cons (ss_drwPut (lt64 hr.units) (sx_var (i := 0)) (se_div (se_t1 call_int1 toIntS_ok (m_int T) (sx_of (se_drwK (lt64 hr.units) (sx_var (i := 0))))) (se_var (i := 1))))
    (sss_one (ss_ret (se_var (i := 2)))))))
def G__law_shuffled : SD → M Fl :=
    (seqM (parV 2 3 (newV (u1 listS (getS 1))) (newV (lstV nilV)))
    (seqM (whileM (c2X neS (getS 2) (ofD (ofL (lstV nilV)))) (dropV (lm1 appS (getS 3) (lm1 popS (getS 2) (callM 2 F__law_take (consV (getS 0) (consV (ofD (u1 lenS (getS 2))) nilV)))))) 100000)
    (retV (getD 3))))
def F__law_shuffled : List S → M D := fnM 4 G__law_shuffled
theorem sc__law_shuffled : FnScope ["_law_draw", "_law_some", "_law_left", "_law_found"] ["_law_draw", "_law_some"] (defScope (top 19)) := ⟨rfl, rfl, rfl, by decide +kernel, rfl, by decide +kernel, by decide +kernel⟩
theorem ok__law_shuffled (T : Tx K mg base) : Fx P w K mg base 3 "_law_shuffled" ["_law_draw", "_law_some"] F__law_shuffled := by
  have nd := sc__law_shuffled.nd
  obtain ⟨fd, FD⟩ := d__law_shuffled T
  refine ⟨⟨fd, fn_mk FD sc__law_shuffled (fun cdv A outer s H E hr => ?_), FD.bindsN fun _ _ _ _ _ _ us hl => match us, hl with | [_, _], _ => rfl, FunD_look FD⟩, g__law_shuffled T, FD.kp⟩
  have tk := takes_of (X := cxOf (L2.CX P w) P w K mg base ["_law_draw", "_law_some", "_law_left", "_law_found"] "_law_shuffled" (defScope (top 19)) (He.ga K "_law_shuffled") cdv A outer s H E) (E := E) rfl rfl rfl rfl
  have ps : Passes (L2.CX P w) (cxOf (L2.CX P w) P w K mg base ["_law_draw", "_law_some", "_law_left", "_law_found"] "_law_shuffled" (defScope (top 19)) (He.ga K "_law_shuffled") cdv A outer s H E) E := passes_call tk (fun _ _ _ _ h => h)
  exact (sss_cons (ss_par (i := 2) (j := 3) rfl nd (sx_new (sf_t1 call_list_of listS_ok (m_list T) (sx_var (i := 1)))) (sx_new (sf_lst sl_nil)) rfl)
    (sss_cons (ss_while (n := 100000) (passes_of rfl) (st_neX hr.units (sx_var (i := 2)) (sx_of (se_of (sf_lst sl_nil)))) (sss_one (ss_expr (se_append (sx_var (i := 3)) (se_pop (sx_var (i := 2)) (se_call (ok__law_take T) (hr.mono (by decide)) ps (sa_cons (sx_var (i := 0)) (sa_cons (sx_of (se_b1 call_len2 lenS_ok (m_len T) (sx_var (i := 2)))) sa_nil))))))))
    (sss_one (ss_ret (se_var (i := 3))))))
def G__law_is_truth : SD → M Fl :=
    (retV (ifV (tst (getD 1)) (u2 isD (getD 0) (kD (.bl true))) (u2 isD (getD 0) (kD (.bl false)))))
def F__law_is_truth : List S → M D := fnM 2 G__law_is_truth
theorem sc__law_is_truth : FnScope ["_law_found", "_law_due"] ["_law_found", "_law_due"] (defScope (top 20)) := ⟨rfl, rfl, rfl, by decide +kernel, rfl, by decide +kernel, by decide +kernel⟩
theorem ok__law_is_truth (T : Tx K mg base) : Fx P w K mg base 1 "_law_is_truth" ["_law_found", "_law_due"] F__law_is_truth := by
  have nd := sc__law_is_truth.nd
  obtain ⟨fd, FD⟩ := d__law_is_truth T
  refine ⟨⟨fd, fn_mk FD sc__law_is_truth (fun cdv A outer s H E hr => ?_), FD.bindsN fun _ _ _ _ _ _ us hl => match us, hl with | [_, _], _ => rfl, FunD_look FD⟩, g__law_is_truth T, FD.kp⟩
  have tk := takes_of (X := cxOf (L2.CX P w) P w K mg base ["_law_found", "_law_due"] "_law_is_truth" (defScope (top 20)) (He.ga K "_law_is_truth") cdv A outer s H E) (E := E) rfl rfl rfl rfl
  have ps : Passes (L2.CX P w) (cxOf (L2.CX P w) P w K mg base ["_law_found", "_law_due"] "_law_is_truth" (defScope (top 20)) (He.ga K "_law_is_truth") cdv A outer s H E) E := passes_call tk (fun _ _ _ _ h => h)
  exact (sss_one (ss_ret (se_if (st_val (se_var (i := 1))) (se_is (se_var (i := 0)) se_bl) (se_is (se_var (i := 0)) se_bl))))
def G__law_lot_of : SD → M Fl :=
    (seqM (setV 2 (ofL (lr1 (getD 1))))
    (seqM (forV (seqI (getD 0)) (tgT 2 (tgC (tgN 3) (tgC (tgN 4) tg0))) (seqM (asgV (tupV (consV (u2 ixS (getS 2) (getD 3)) (consV (u2 ixS (getS 2) (getD 4)) nilV))) (tgT 2 (tgC (tgN 5) (tgC (tgN 6) tg0))))
    (setV 2 (ofL (lcM [7] (seqI (getD 2)) (tgN 7) yes (ifV (c2 eqD (getD 7) (getD 6)) (getD 5) (getD 7)))))))
    (retV (u1 lenS (ofD (ofL (lcM [7, 8] (enumT (getD 2)) (tgT 2 (tgC (tgN 7) (tgC (tgN 8) tg0))) (c2 eqD (idxV (getS 2) (getD 8)) (getD 7)) (getD 7))))))))
def F__law_lot_of : List S → M D := fnM 9 G__law_lot_of
theorem sc__law_lot_of : FnScope ["_law_pairs_here", "_law_many_here", "_law_lots_here", "_law_one", "_law_two", "_law_a", "_law_b", "_law_k", "_law_lot"] ["_law_pairs_here", "_law_many_here"] (defScope (top 22)) := ⟨rfl, rfl, rfl, by decide +kernel, rfl, by decide +kernel, by decide +kernel⟩
theorem ok__law_lot_of (T : Tx K mg base) : Fx P w K mg base 1 "_law_lot_of" ["_law_pairs_here", "_law_many_here"] F__law_lot_of := by
  have nd := sc__law_lot_of.nd
  obtain ⟨fd, FD⟩ := d__law_lot_of T
  refine ⟨⟨fd, fn_mk FD sc__law_lot_of (fun cdv A outer s H E hr => ?_), FD.bindsN fun _ _ _ _ _ _ us hl => match us, hl with | [_, _], _ => rfl, FunD_look FD⟩, g__law_lot_of T, FD.kp⟩
  have tk := takes_of (X := cxOf (L2.CX P w) P w K mg base ["_law_pairs_here", "_law_many_here", "_law_lots_here", "_law_one", "_law_two", "_law_a", "_law_b", "_law_k", "_law_lot"] "_law_lot_of" (defScope (top 22)) (He.ga K "_law_lot_of") cdv A outer s H E) (E := E) rfl rfl rfl rfl
  have ps : Passes (L2.CX P w) (cxOf (L2.CX P w) P w K mg base ["_law_pairs_here", "_law_many_here", "_law_lots_here", "_law_one", "_law_two", "_law_a", "_law_b", "_law_k", "_law_lot"] "_law_lot_of" (defScope (top 22)) (He.ga K "_law_lot_of") cdv A outer s H E) E := passes_call tk (fun _ _ _ _ h => h)
  exact (sss_cons (ss_set (i := 2) nd (se_of (sf_rng1 rfl (m_list T) (m_range T) (se_var (i := 1)))))
    (sss_cons (ss_for (passes_of rfl) rfl (si_seq (se_var (i := 0))) (sg_tupT rfl (sgs_cons (sg_name (i := 3) nd) (sgs_cons (sg_name (i := 4) nd) sgs_nil))) (sss_cons (ss_asg (se_tup (sl_cons (se_ix (sx_var (i := 2)) (se_var (i := 3))) (sl_cons (se_ix (sx_var (i := 2)) (se_var (i := 4))) sl_nil))) (sg_tupT rfl (sgs_cons (sg_name (i := 5) nd) (sgs_cons (sg_name (i := 6) nd) sgs_nil))))
    (sss_one (ss_set (i := 2) nd (se_of (sf_lc (own' := [("_law_k", 7)]) rfl nd (si_seq (se_var (i := 2))) (by kernel_rfl) (by decide) (fun _ _ _ _ _ => (sg_name (i := 7) nd)) (fun _ _ _ _ _ => sts_nil) (fun _ _ _ _ _ => (se_if (st_eq hr.units (se_var (i := 7)) (se_var (i := 6))) (se_var (i := 5)) (se_var (i := 7))))))))))
    (sss_one (ss_ret (se_b1 call_len2 lenS_ok (m_len T) (sx_of (se_of (sf_lc (own' := [("_law_k", 7), ("_law_lot", 8)]) rfl nd (si_enumT (m_enumerate T) (se_var (i := 2))) (by kernel_rfl) (by decide) (fun _ _ _ _ _ => (sg_tupT rfl (sgs_cons (sg_name (i := 7) nd) (sgs_cons (sg_name (i := 8) nd) sgs_nil)))) (fun _ _ _ _ _ => (sts_one (st_eq hr.units (se_index (sx_var (i := 2)) (se_var (i := 8))) (se_var (i := 7))))) (fun _ _ _ _ _ => (se_var (i := 7)))))))))))
def G__law_genus_of : SD → M Fl :=
    (seqM (parV 1 2 (ofD (u2 divD (u1 sumS (ofD (ofL (lcM [3] (seqI (getD 0)) (tgN 3) yes (u1 lenS (getS 3)))))) (kD (.int 2)))) (newV (lstV nilV)))
    (seqM (forV (seqI (getD 0)) (tgN 3) (forV (enumT (getD 3)) (tgT 2 (tgC (tgN 4) (tgC (tgN 5) tg0))) (seqM (setV 6 (u2 ixS (getS 3) (u2 modD (u2 addD (getD 4) (kD (.int 1))) (u1 lenS (getS 3)))))
    (seqM (setV 7 (ifV (c2 gtD (getD 5) (kD (.int 0))) (u2 subD (u2 mulD (kD (.int 2)) (u1 absS (getS 5))) (kD (.int 1))) (u2 subD (u2 mulD (kD (.int 2)) (u1 absS (getS 5))) (kD (.int 2)))))
    (seqM (setV 8 (ifV (c2 gtD (getD 6) (kD (.int 0))) (u2 subD (u2 mulD (kD (.int 2)) (u1 absS (getS 6))) (kD (.int 2))) (u2 subD (u2 mulD (kD (.int 2)) (u1 absS (getS 6))) (kD (.int 1)))))
    (dropV (lm1 appS (getS 2) (tupV (consV (getD 7) (consV (getD 8) nilV))))))))))
    (retV (u2 divD (u2 subD (u2 addD (u2 subD (kD (.int 2)) (callM 2 F__law_lot_of (consV (getS 2) (consV (ofD (u2 mulD (kD (.int 2)) (getD 1))) nilV)))) (getD 1)) (u1 lenS (getS 0))) (kD (.int 2))))))
def F__law_genus_of : List S → M D := fnM 9 G__law_genus_of
theorem sc__law_genus_of : FnScope ["_law_cut_here", "_law_many_here", "_law_pairs_here", "_law_face", "_law_at", "_law_e", "_law_after", "_law_end", "_law_start"] ["_law_cut_here"] (defScope (top 23)) := ⟨rfl, rfl, rfl, by decide +kernel, rfl, by decide +kernel, by decide +kernel⟩
theorem ok__law_genus_of (T : Tx K mg base) : Fx P w K mg base 2 "_law_genus_of" ["_law_cut_here"] F__law_genus_of := by
  have nd := sc__law_genus_of.nd
  obtain ⟨fd, FD⟩ := d__law_genus_of T
  refine ⟨⟨fd, fn_mk FD sc__law_genus_of (fun cdv A outer s H E hr => ?_), FD.bindsN fun _ _ _ _ _ _ us hl => match us, hl with | [_], _ => rfl, FunD_look FD⟩, g__law_genus_of T, FD.kp⟩
  have tk := takes_of (X := cxOf (L2.CX P w) P w K mg base ["_law_cut_here", "_law_many_here", "_law_pairs_here", "_law_face", "_law_at", "_law_e", "_law_after", "_law_end", "_law_start"] "_law_genus_of" (defScope (top 23)) (He.ga K "_law_genus_of") cdv A outer s H E) (E := E) rfl rfl rfl rfl
  have ps : Passes (L2.CX P w) (cxOf (L2.CX P w) P w K mg base ["_law_cut_here", "_law_many_here", "_law_pairs_here", "_law_face", "_law_at", "_law_e", "_law_after", "_law_end", "_law_start"] "_law_genus_of" (defScope (top 23)) (He.ga K "_law_genus_of") cdv A outer s H E) E := passes_call tk (fun _ _ _ _ h => h)
  exact (sss_cons (ss_par (i := 1) (j := 2) rfl nd (sx_of (se_div (se_b1 (cr_sum rfl) sumS_ok (m_sum T) (sx_of (se_of (sf_lc (own' := [("_law_face", 3)]) rfl nd (si_seq (se_var (i := 0))) (by kernel_rfl) (by decide) (fun _ _ _ _ _ => (sg_name (i := 3) nd)) (fun _ _ _ _ _ => sts_nil) (fun _ _ _ _ _ => (se_b1 call_len2 lenS_ok (m_len T) (sx_var (i := 3)))))))) se_int)) (sx_new (sf_lst sl_nil)) rfl)
    (sss_cons (ss_for (passes_of rfl) rfl (si_seq (se_var (i := 0))) (sg_name (i := 3) nd) (sss_one (ss_for (passes_of rfl) rfl (si_enumT (m_enumerate T) (se_var (i := 3))) (sg_tupT rfl (sgs_cons (sg_name (i := 4) nd) (sgs_cons (sg_name (i := 5) nd) sgs_nil))) (sss_cons (ss_set (i := 6) nd (se_ix (sx_var (i := 3)) (se_mod (se_add (se_var (i := 4)) se_int) (se_b1 call_len2 lenS_ok (m_len T) (sx_var (i := 3))))))
    (sss_cons (ss_set (i := 7) nd (se_if (st_gt (se_var (i := 5)) se_int) (se_sub (se_mul se_int (se_b1 call_abs absS_ok (m_abs T) (sx_var (i := 5)))) se_int) (se_sub (se_mul se_int (se_b1 call_abs absS_ok (m_abs T) (sx_var (i := 5)))) se_int)))
    (sss_cons (ss_set (i := 8) nd (se_if (st_gt (se_var (i := 6)) se_int) (se_sub (se_mul se_int (se_b1 call_abs absS_ok (m_abs T) (sx_var (i := 6)))) se_int) (se_sub (se_mul se_int (se_b1 call_abs absS_ok (m_abs T) (sx_var (i := 6)))) se_int)))
    (sss_one (ss_expr (se_append (sx_var (i := 2)) (se_tup (sl_cons (se_var (i := 7)) (sl_cons (se_var (i := 8)) sl_nil))))))))))))
    (sss_one (ss_ret (se_div (se_sub (se_add (se_sub se_int (se_call (ok__law_lot_of T) (hr.mono (by decide)) ps (sa_cons (sx_var (i := 2)) (sa_cons (sx_of (se_mul se_int (se_var (i := 1)))) sa_nil)))) (se_var (i := 1))) (se_b1 call_len2 lenS_ok (m_len T) (sx_var (i := 0)))) se_int)))))
def G__law_turned_face : SD → M Fl :=
    (seqM (setV 2 (callM 2 F__law_take (consV (getS 0) (consV (ofD (u1 lenS (getS 1))) nilV))))
    (retV (u2 addD (ofL (cutM (getS 1) (someI (getD 2)) noI)) (ofL (cutM (getS 1) noI (someI (getD 2)))))))
def F__law_turned_face : List S → M D := fnM 3 G__law_turned_face
theorem sc__law_turned_face : FnScope ["_law_draw", "_law_face", "_law_at"] ["_law_draw", "_law_face"] (defScope (top 24)) := ⟨rfl, rfl, rfl, by decide +kernel, rfl, by decide +kernel, by decide +kernel⟩
theorem ok__law_turned_face (T : Tx K mg base) : Fx P w K mg base 3 "_law_turned_face" ["_law_draw", "_law_face"] F__law_turned_face := by
  have nd := sc__law_turned_face.nd
  obtain ⟨fd, FD⟩ := d__law_turned_face T
  refine ⟨⟨fd, fn_mk FD sc__law_turned_face (fun cdv A outer s H E hr => ?_), FD.bindsN fun _ _ _ _ _ _ us hl => match us, hl with | [_, _], _ => rfl, FunD_look FD⟩, g__law_turned_face T, FD.kp⟩
  have tk := takes_of (X := cxOf (L2.CX P w) P w K mg base ["_law_draw", "_law_face", "_law_at"] "_law_turned_face" (defScope (top 24)) (He.ga K "_law_turned_face") cdv A outer s H E) (E := E) rfl rfl rfl rfl
  have ps : Passes (L2.CX P w) (cxOf (L2.CX P w) P w K mg base ["_law_draw", "_law_face", "_law_at"] "_law_turned_face" (defScope (top 24)) (He.ga K "_law_turned_face") cdv A outer s H E) E := passes_call tk (fun _ _ _ _ h => h)
  exact (sss_cons (ss_set (i := 2) nd (se_call (ok__law_take T) (hr.mono (by decide)) ps (sa_cons (sx_var (i := 0)) (sa_cons (sx_of (se_b1 call_len2 lenS_ok (m_len T) (sx_var (i := 1)))) sa_nil))))
    (sss_one (ss_ret (se_add (se_of (sf_slice (sx_var (i := 1)) (so_some (se_var (i := 2))) so_none)) (se_of (sf_slice (sx_var (i := 1)) so_none (so_some (se_var (i := 2)))))))))
def G__law_closed_up : SD → M Fl :=
    (seqM (setX 2 (newV (lstV nilV)))
    (seqM (forV (seqI (getD 0)) (tgN 3) (dropV (lm1 appS (getS 2) (ofL (lcM [4] (seqI (getD 3)) (tgN 4) yes (ifV (c2 ltD (u1 absS (getS 4)) (getD 1)) (getD 4) (ifV (c2 gtD (getD 4) (kD (.int 0))) (u2 subD (getD 4) (kD (.int 1))) (u2 addD (getD 4) (kD (.int 1))))))))))
    (retV (getD 2))))
def F__law_closed_up : List S → M D := fnM 5 G__law_closed_up
theorem sc__law_closed_up : FnScope ["_law_faces", "_law_less", "_law_found", "_law_face", "_law_e"] ["_law_faces", "_law_less"] (defScope (top 26)) := ⟨rfl, rfl, rfl, by decide +kernel, rfl, by decide +kernel, by decide +kernel⟩
theorem ok__law_closed_up (T : Tx K mg base) : Fx P w K mg base 1 "_law_closed_up" ["_law_faces", "_law_less"] F__law_closed_up := by
  have nd := sc__law_closed_up.nd
  obtain ⟨fd, FD⟩ := d__law_closed_up T
  refine ⟨⟨fd, fn_mk FD sc__law_closed_up (fun cdv A outer s H E hr => ?_), FD.bindsN fun _ _ _ _ _ _ us hl => match us, hl with | [_, _], _ => rfl, FunD_look FD⟩, g__law_closed_up T, FD.kp⟩
  have tk := takes_of (X := cxOf (L2.CX P w) P w K mg base ["_law_faces", "_law_less", "_law_found", "_law_face", "_law_e"] "_law_closed_up" (defScope (top 26)) (He.ga K "_law_closed_up") cdv A outer s H E) (E := E) rfl rfl rfl rfl
  have ps : Passes (L2.CX P w) (cxOf (L2.CX P w) P w K mg base ["_law_faces", "_law_less", "_law_found", "_law_face", "_law_e"] "_law_closed_up" (defScope (top 26)) (He.ga K "_law_closed_up") cdv A outer s H E) E := passes_call tk (fun _ _ _ _ h => h)
  exact (sss_cons (ss_setX (i := 2) nd (sx_new (sf_lst sl_nil)))
    (sss_cons (ss_for (passes_of rfl) rfl (si_seq (se_var (i := 0))) (sg_name (i := 3) nd) (sss_one (ss_expr (se_append (sx_var (i := 2)) (se_of (sf_lc (own' := [("_law_e", 4)]) rfl nd (si_seq (se_var (i := 3))) (by kernel_rfl) (by decide) (fun _ _ _ _ _ => (sg_name (i := 4) nd)) (fun _ _ _ _ _ => sts_nil) (fun _ _ _ _ _ => (se_if (st_lt (se_b1 call_abs absS_ok (m_abs T) (sx_var (i := 4))) (se_var (i := 1))) (se_var (i := 4)) (se_if (st_gt (se_var (i := 4)) se_int) (se_sub (se_var (i := 4)) se_int) (se_add (se_var (i := 4)) se_int))))))))))
    (sss_one (ss_ret (se_var (i := 2))))))
def G__law_recut : SD → M Fl :=
    (seqM (parV 3 4 (ofD (ofL (lcM [5] (seqI (getD 1)) (tgN 5) yes (ofL (u1 listS (getS 5)))))) (ofD (callM 2 F__law_take (consV (getS 0) (consV (ofD (kD (.int 4))) nilV)))))
    (seqM (parV 6 7 (ofD (u2 divD (u1 sumS (ofD (ofL (lcM [5] (seqI (getD 1)) (tgN 5) yes (u1 lenS (getS 5)))))) (kD (.int 2)))) (ofD (callM 2 F__law_take (consV (getS 0) (consV (ofD (u1 lenS (getS 1))) nilV)))))
    (seqM (setV 5 (callM 2 F__law_turned_face (consV (getS 0) (consV (ofD (u2 ixS (getS 3) (getD 7))) nilV))))
    (seqM (setV 8 (u2 addD (ofL (cutM (getS 3) noI (someI (getD 7)))) (ofL (cutM (getS 3) (someI (u2 addD (getD 7) (kD (.int 1)))) noI))))
    (seqM (setV 9 (u2 addD (getD 6) (kD (.int 1))))
    (seqM (ifV (andB (c2 eqD (getD 4) (kD (.int 0))) (andB (c2 ltD (getD 6) (getD 2)) (c2 gtD (u1 lenS (getS 5)) (kD (.int 1))))) (seqM (setV 10 (u2 addD (kD (.int 1)) (callM 2 F__law_take (consV (getS 0) (consV (ofD (u2 subD (u1 lenS (getS 5)) (kD (.int 1)))) nilV)))))
    (retV (u2 addD (getD 8) (ofL (lstV (consV (u2 addD (ofL (cutM (getS 5) noI (someI (getD 10)))) (ofL (lstV (consV (getD 9) nilV)))) (consV (u2 addD (ofL (lstV (consV (u2 subD (kD (.int 0)) (getD 9)) nilV))) (ofL (cutM (getS 5) (someI (getD 10)) noI))) nilV))))))) nxV)
    (seqM (ifV (andB (c2 eqD (getD 4) (kD (.int 1))) (c2 ltD (getD 6) (getD 2))) (retV (u2 addD (getD 8) (ofL (lstV (consV (u2 addD (getD 5) (ofL (lstV (consV (getD 9) (consV (u2 subD (kD (.int 0)) (getD 9)) nilV))))) nilV))))) nxV)
    (seqM (ifV (c2 eqD (getD 4) (kD (.int 2))) (forV (enumT (getD 8)) (tgT 2 (tgC (tgN 11) (tgC (tgN 12) tg0))) (ifV (c2S (inS false) (u2 subD (kD (.int 0)) (u2 ixS (getS 5) (negV (kD (.int 1))))) (getS 12)) (seqM (setV 10 (idxV (getS 12) (u2 subD (kD (.int 0)) (u2 ixS (getS 5) (negV (kD (.int 1)))))))
    (seqM (setV 13 (u2 addD (u2 addD (ofL (cutM (getS 5) noI (someI (negV (kD (.int 1)))))) (ofL (cutM (getS 12) (someI (u2 addD (getD 10) (kD (.int 1)))) noI))) (ofL (cutM (getS 12) noI (someI (getD 10))))))
    (ifV (c2 neD (getD 13) (ofL (lstV nilV))) (retV (callM 2 F__law_closed_up (consV (ofD (u2 addD (u2 addD (ofL (cutM (getS 8) noI (someI (getD 11)))) (ofL (cutM (getS 8) (someI (u2 addD (getD 11) (kD (.int 1)))) noI))) (ofL (lstV (consV (getD 13) nilV))))) (consV (ofD (u1 absS (ofD (u2 ixS (getS 5) (negV (kD (.int 1))))))) nilV)))) nxV))) nxV)) nxV)
    (retV (u2 addD (getD 8) (ofL (lstV (consV (getD 5) nilV)))))))))))))
def F__law_recut : List S → M D := fnM 14 G__law_recut
theorem sc__law_recut : FnScope ["_law_draw", "_law_cut_here", "_law_most", "_law_faces", "_law_way", "_law_face", "_law_many_here", "_law_at", "_law_rest", "_law_fresh", "_law_spot", "_law_k", "_law_other", "_law_joined_here"] ["_law_draw", "_law_cut_here", "_law_most"] (defScope (top 25)) := ⟨rfl, rfl, rfl, by decide +kernel, rfl, by decide +kernel, by decide +kernel⟩
theorem ok__law_recut (T : Tx K mg base) : Fx P w K mg base 4 "_law_recut" ["_law_draw", "_law_cut_here", "_law_most"] F__law_recut := by
  have nd := sc__law_recut.nd
  obtain ⟨fd, FD⟩ := d__law_recut T
  refine ⟨⟨fd, fn_mk FD sc__law_recut (fun cdv A outer s H E hr => ?_), FD.bindsN fun _ _ _ _ _ _ us hl => match us, hl with | [_, _, _], _ => rfl, FunD_look FD⟩, g__law_recut T, FD.kp⟩
  have tk := takes_of (X := cxOf (L2.CX P w) P w K mg base ["_law_draw", "_law_cut_here", "_law_most", "_law_faces", "_law_way", "_law_face", "_law_many_here", "_law_at", "_law_rest", "_law_fresh", "_law_spot", "_law_k", "_law_other", "_law_joined_here"] "_law_recut" (defScope (top 25)) (He.ga K "_law_recut") cdv A outer s H E) (E := E) rfl rfl rfl rfl
  have ps : Passes (L2.CX P w) (cxOf (L2.CX P w) P w K mg base ["_law_draw", "_law_cut_here", "_law_most", "_law_faces", "_law_way", "_law_face", "_law_many_here", "_law_at", "_law_rest", "_law_fresh", "_law_spot", "_law_k", "_law_other", "_law_joined_here"] "_law_recut" (defScope (top 25)) (He.ga K "_law_recut") cdv A outer s H E) E := passes_call tk (fun _ _ _ _ h => h)
  exact (sss_cons (ss_par (i := 3) (j := 4) rfl nd (sx_of (se_of (sf_lc (own' := [("_law_face", 5)]) rfl nd (si_seq (se_var (i := 1))) (by kernel_rfl) (by decide) (fun _ _ _ _ _ => (sg_name (i := 5) nd)) (fun _ _ _ _ _ => sts_nil) (fun _ _ _ _ _ => (se_of (sf_t1 call_list_of listS_ok (m_list T) (sx_var (i := 5)))))))) (sx_of (se_call (ok__law_take T) (hr.mono (by decide)) ps (sa_cons (sx_var (i := 0)) (sa_cons (sx_of se_int) sa_nil)))) rfl)
    (sss_cons (ss_par (i := 6) (j := 7) rfl nd (sx_of (se_div (se_b1 (cr_sum rfl) sumS_ok (m_sum T) (sx_of (se_of (sf_lc (own' := [("_law_face", 5)]) rfl nd (si_seq (se_var (i := 1))) (by kernel_rfl) (by decide) (fun _ _ _ _ _ => (sg_name (i := 5) nd)) (fun _ _ _ _ _ => sts_nil) (fun _ _ _ _ _ => (se_b1 call_len2 lenS_ok (m_len T) (sx_var (i := 5)))))))) se_int)) (sx_of (se_call (ok__law_take T) (hr.mono (by decide)) ps (sa_cons (sx_var (i := 0)) (sa_cons (sx_of (se_b1 call_len2 lenS_ok (m_len T) (sx_var (i := 1)))) sa_nil)))) rfl)
    (sss_cons (ss_set (i := 5) nd (se_call (ok__law_turned_face T) (hr.mono (by decide)) ps (sa_cons (sx_var (i := 0)) (sa_cons (sx_of (se_ix (sx_var (i := 3)) (se_var (i := 7)))) sa_nil))))
    (sss_cons (ss_set (i := 8) nd (se_add (se_of (sf_slice (sx_var (i := 3)) so_none (so_some (se_var (i := 7))))) (se_of (sf_slice (sx_var (i := 3)) (so_some (se_add (se_var (i := 7)) se_int)) so_none))))
    (sss_cons (ss_set (i := 9) nd (se_add (se_var (i := 6)) se_int))
    (sss_cons (ss_if (st_bool (sw_and (st_eq hr.units (se_var (i := 4)) se_int) (sw_and (st_lt (se_var (i := 6)) (se_var (i := 2))) (sw_and1 (st_gt (se_b1 call_len2 lenS_ok (m_len T) (sx_var (i := 5))) se_int))))) (sss_cons (ss_set (i := 10) nd (se_add se_int (se_call (ok__law_take T) (hr.mono (by decide)) ps (sa_cons (sx_var (i := 0)) (sa_cons (sx_of (se_sub (se_b1 call_len2 lenS_ok (m_len T) (sx_var (i := 5))) se_int)) sa_nil)))))
    (sss_one (ss_ret (se_add (se_var (i := 8)) (se_of (sf_lst (sl_cons (se_add (se_of (sf_slice (sx_var (i := 5)) so_none (so_some (se_var (i := 10))))) (se_of (sf_lst (sl_cons (se_var (i := 9)) sl_nil)))) (sl_cons (se_add (se_of (sf_lst (sl_cons (se_sub se_int (se_var (i := 9))) sl_nil))) (se_of (sf_slice (sx_var (i := 5)) (so_some (se_var (i := 10))) so_none))) sl_nil)))))))) sss_nil)
    (sss_cons (ss_if (st_bool (sw_and (st_eq hr.units (se_var (i := 4)) se_int) (sw_and1 (st_lt (se_var (i := 6)) (se_var (i := 2)))))) (sss_one (ss_ret (se_add (se_var (i := 8)) (se_of (sf_lst (sl_cons (se_add (se_var (i := 5)) (se_of (sf_lst (sl_cons (se_var (i := 9)) (sl_cons (se_sub se_int (se_var (i := 9))) sl_nil))))) sl_nil)))))) sss_nil)
    (sss_cons (ss_if (st_eq hr.units (se_var (i := 4)) se_int) (sss_one (ss_for (passes_of rfl) rfl (si_enumT (m_enumerate T) (se_var (i := 8))) (sg_tupT rfl (sgs_cons (sg_name (i := 11) nd) (sgs_cons (sg_name (i := 12) nd) sgs_nil))) (sss_one (ss_if (st_in (se_sub se_int (se_ix (sx_var (i := 5)) (se_neg se_int))) (sx_var (i := 12))) (sss_cons (ss_set (i := 10) nd (se_index (sx_var (i := 12)) (se_sub se_int (se_ix (sx_var (i := 5)) (se_neg se_int)))))
    (sss_cons (ss_set (i := 13) nd (se_add (se_add (se_of (sf_slice (sx_var (i := 5)) so_none (so_some (se_neg se_int)))) (se_of (sf_slice (sx_var (i := 12)) (so_some (se_add (se_var (i := 10)) se_int)) so_none))) (se_of (sf_slice (sx_var (i := 12)) so_none (so_some (se_var (i := 10)))))))
    (sss_one (ss_if (st_ne hr.units (se_var (i := 13)) (se_of (sf_lst sl_nil))) (sss_one (ss_ret (se_call (ok__law_closed_up T) (hr.mono (by decide)) ps (sa_cons (sx_of (se_add (se_add (se_of (sf_slice (sx_var (i := 8)) so_none (so_some (se_var (i := 11))))) (se_of (sf_slice (sx_var (i := 8)) (so_some (se_add (se_var (i := 11)) se_int)) so_none))) (se_of (sf_lst (sl_cons (se_var (i := 13)) sl_nil))))) (sa_cons (sx_of (se_b1 call_abs absS_ok (m_abs T) (sx_of (se_ix (sx_var (i := 5)) (se_neg se_int))))) sa_nil))))) sss_nil)))) sss_nil)))) sss_nil)
    (sss_one (ss_ret (se_add (se_var (i := 8)) (se_of (sf_lst (sl_cons (se_var (i := 5)) sl_nil))))))))))))))
def G__law_named_anew : SD → M Fl :=
    (seqM (setV 2 (u2 divD (u1 sumS (ofD (ofL (lcM [3] (seqI (getD 1)) (tgN 3) yes (u1 lenS (getS 3)))))) (kD (.int 2))))
    (seqM (setV 4 (callM 2 F__law_shuffled (consV (getS 0) (consV (ofD (ofL (lr2 (kD (.int 1)) (u2 addD (getD 2) (kD (.int 1)))))) nilV))))
    (seqM (setV 4 (ofL (lcM [5] (seqI (getD 4)) (tgN 5) yes (ifV (c2 eqD (callM 2 F__law_take (consV (getS 0) (consV (ofD (kD (.int 2))) nilV))) (kD (.int 0))) (getD 5) (u2 subD (kD (.int 0)) (getD 5))))))
    (seqM (setX 6 (newV (lstV nilV)))
    (seqM (forV (seqI (getD 1)) (tgN 3) (dropV (lm1 appS (getS 6) (ofL (lcM [7] (seqI (getD 3)) (tgN 7) yes (ifV (c2 gtD (getD 7) (kD (.int 0))) (u2 ixS (getS 4) (u2 subD (u1 absS (getS 7)) (kD (.int 1)))) (u2 subD (kD (.int 0)) (u2 ixS (getS 4) (u2 subD (u1 absS (getS 7)) (kD (.int 1)))))))))))
    (retV (callM 2 F__law_shuffled (consV (getS 0) (consV (getS 6) nilV)))))))))
def F__law_named_anew : List S → M D := fnM 8 G__law_named_anew
theorem sc__law_named_anew : FnScope ["_law_draw", "_law_cut_here", "_law_many_here", "_law_face", "_law_names_here", "_law_name", "_law_found", "_law_e"] ["_law_draw", "_law_cut_here"] (defScope (top 27)) := ⟨rfl, rfl, rfl, by decide +kernel, rfl, by decide +kernel, by decide +kernel⟩
theorem ok__law_named_anew (T : Tx K mg base) : Fx P w K mg base 4 "_law_named_anew" ["_law_draw", "_law_cut_here"] F__law_named_anew := by
  have nd := sc__law_named_anew.nd
  obtain ⟨fd, FD⟩ := d__law_named_anew T
  refine ⟨⟨fd, fn_mk FD sc__law_named_anew (fun cdv A outer s H E hr => ?_), FD.bindsN fun _ _ _ _ _ _ us hl => match us, hl with | [_, _], _ => rfl, FunD_look FD⟩, g__law_named_anew T, FD.kp⟩
  have tk := takes_of (X := cxOf (L2.CX P w) P w K mg base ["_law_draw", "_law_cut_here", "_law_many_here", "_law_face", "_law_names_here", "_law_name", "_law_found", "_law_e"] "_law_named_anew" (defScope (top 27)) (He.ga K "_law_named_anew") cdv A outer s H E) (E := E) rfl rfl rfl rfl
  have ps : Passes (L2.CX P w) (cxOf (L2.CX P w) P w K mg base ["_law_draw", "_law_cut_here", "_law_many_here", "_law_face", "_law_names_here", "_law_name", "_law_found", "_law_e"] "_law_named_anew" (defScope (top 27)) (He.ga K "_law_named_anew") cdv A outer s H E) E := passes_call tk (fun _ _ _ _ h => h)
  exact (sss_cons (ss_set (i := 2) nd (se_div (se_b1 (cr_sum rfl) sumS_ok (m_sum T) (sx_of (se_of (sf_lc (own' := [("_law_face", 3)]) rfl nd (si_seq (se_var (i := 1))) (by kernel_rfl) (by decide) (fun _ _ _ _ _ => (sg_name (i := 3) nd)) (fun _ _ _ _ _ => sts_nil) (fun _ _ _ _ _ => (se_b1 call_len2 lenS_ok (m_len T) (sx_var (i := 3)))))))) se_int))
    (sss_cons (ss_set (i := 4) nd (se_call (ok__law_shuffled T) (hr.mono (by decide)) ps (sa_cons (sx_var (i := 0)) (sa_cons (sx_of (se_of (sf_rng2 rfl (m_list T) (m_range T) se_int (se_add (se_var (i := 2)) se_int)))) sa_nil))))
    (sss_cons (ss_set (i := 4) nd (se_of (sf_lc (own' := [("_law_name", 5)]) rfl nd (si_seq (se_var (i := 4))) (by kernel_rfl) (by decide) (fun _ _ _ _ _ => (sg_name (i := 5) nd)) (fun _ _ _ _ _ => sts_nil) (fun _ _ _ _ _ => (se_if (st_eq hr.units (se_call (ok__law_take T) (hr.mono (by decide)) passL (sa_cons (sx_var (i := 0)) (sa_cons (sx_of se_int) sa_nil))) se_int) (se_var (i := 5)) (se_sub se_int (se_var (i := 5))))))))
    (sss_cons (ss_setX (i := 6) nd (sx_new (sf_lst sl_nil)))
    (sss_cons (ss_for (passes_of rfl) rfl (si_seq (se_var (i := 1))) (sg_name (i := 3) nd) (sss_one (ss_expr (se_append (sx_var (i := 6)) (se_of (sf_lc (own' := [("_law_e", 7)]) rfl nd (si_seq (se_var (i := 3))) (by kernel_rfl) (by decide) (fun _ _ _ _ _ => (sg_name (i := 7) nd)) (fun _ _ _ _ _ => sts_nil) (fun _ _ _ _ _ => (se_if (st_gt (se_var (i := 7)) se_int) (se_ix (sx_var (i := 4)) (se_sub (se_b1 call_abs absS_ok (m_abs T) (sx_var (i := 7))) se_int)) (se_sub se_int (se_ix (sx_var (i := 4)) (se_sub (se_b1 call_abs absS_ok (m_abs T) (sx_var (i := 7))) se_int)))))))))))
    (sss_one (ss_ret (se_call (ok__law_shuffled T) (hr.mono (by decide)) ps (sa_cons (sx_var (i := 0)) (sa_cons (sx_var (i := 6)) sa_nil))))))))))
def G__law_plain_cut : SD → M Fl :=
    (seqM (setV 1 (ifV (c2 eqD (getD 0) (kD (.int 0))) (ofL (lstV (consV (kD (.int 1)) (consV (negV (kD (.int 1))) nilV)))) (ofL (lstV nilV))))
    (seqM (forV (u1 rng1 (getD 0)) (tgN 2) (setV 1 (u2 addD (getD 1) (ofL (lstV (consV (u2 addD (u2 mulD (kD (.int 2)) (getD 2)) (kD (.int 1))) (consV (u2 addD (u2 mulD (kD (.int 2)) (getD 2)) (kD (.int 2))) (consV (u2 subD (u2 subD (kD (.int 0)) (u2 mulD (kD (.int 2)) (getD 2))) (kD (.int 1))) (consV (u2 subD (u2 subD (kD (.int 0)) (u2 mulD (kD (.int 2)) (getD 2))) (kD (.int 2))) nilV)))))))))
    (retV (ofL (lstV (consV (getD 1) nilV))))))
def F__law_plain_cut : List S → M D := fnM 3 G__law_plain_cut
theorem sc__law_plain_cut : FnScope ["_law_genus_here", "_law_face", "_law_k"] ["_law_genus_here"] (defScope (top 28)) := ⟨rfl, rfl, rfl, by decide +kernel, rfl, by decide +kernel, by decide +kernel⟩
theorem ok__law_plain_cut (T : Tx K mg base) : Fx P w K mg base 1 "_law_plain_cut" ["_law_genus_here"] F__law_plain_cut := by
  have nd := sc__law_plain_cut.nd
  obtain ⟨fd, FD⟩ := d__law_plain_cut T
  refine ⟨⟨fd, fn_mk FD sc__law_plain_cut (fun cdv A outer s H E hr => ?_), FD.bindsN fun _ _ _ _ _ _ us hl => match us, hl with | [_], _ => rfl, FunD_look FD⟩, g__law_plain_cut T, FD.kp⟩
  have tk := takes_of (X := cxOf (L2.CX P w) P w K mg base ["_law_genus_here", "_law_face", "_law_k"] "_law_plain_cut" (defScope (top 28)) (He.ga K "_law_plain_cut") cdv A outer s H E) (E := E) rfl rfl rfl rfl
  have ps : Passes (L2.CX P w) (cxOf (L2.CX P w) P w K mg base ["_law_genus_here", "_law_face", "_law_k"] "_law_plain_cut" (defScope (top 28)) (He.ga K "_law_plain_cut") cdv A outer s H E) E := passes_call tk (fun _ _ _ _ h => h)
  exact (sss_cons (ss_set (i := 1) nd (se_if (st_eq hr.units (se_var (i := 0)) se_int) (se_of (sf_lst (sl_cons se_int (sl_cons (se_neg se_int) sl_nil)))) (se_of (sf_lst sl_nil))))
    (sss_cons (ss_for (passes_of rfl) rfl (si_rng1 (m_range T) (se_var (i := 0))) (sg_name (i := 2) nd) (sss_one (ss_set (i := 1) nd (se_add (se_var (i := 1)) (se_of (sf_lst (sl_cons (se_add (se_mul se_int (se_var (i := 2))) se_int) (sl_cons (se_add (se_mul se_int (se_var (i := 2))) se_int) (sl_cons (se_sub (se_sub se_int (se_mul se_int (se_var (i := 2)))) se_int) (sl_cons (se_sub (se_sub se_int (se_mul se_int (se_var (i := 2)))) se_int) sl_nil))))))))))
    (sss_one (ss_ret (se_of (sf_lst (sl_cons (se_var (i := 1)) sl_nil)))))))
def G__law_drawn_cut : SD → M Fl :=
    (seqM (setV 3 (callM 2 F__law_take (consV (getS 0) (consV (ofD (u2 addD (getD 1) (kD (.int 1)))) nilV))))
    (seqM (setV 4 (callM 1 F__law_plain_cut (consV (getS 3) nilV)))
    (seqM (forV (u1 rng1 (callM 2 F__law_take (consV (getS 0) (consV (ofD (kD (.int 9))) nilV)))) (tgN 5) (setV 4 (callM 3 F__law_recut (consV (getS 0) (consV (getS 4) (consV (getS 2) nilV))))))
    (retV (tupV (consV (callM 2 F__law_named_anew (consV (getS 0) (consV (getS 4) nilV))) (consV (getD 3) nilV)))))))
def F__law_drawn_cut : List S → M D := fnM 6 G__law_drawn_cut
theorem sc__law_drawn_cut : FnScope ["_law_draw", "_law_highest", "_law_most", "_law_due", "_law_found", "_law_lap"] ["_law_draw", "_law_highest", "_law_most"] (defScope (top 29)) := ⟨rfl, rfl, rfl, by decide +kernel, rfl, by decide +kernel, by decide +kernel⟩
theorem ok__law_drawn_cut (T : Tx K mg base) : Fx P w K mg base 5 "_law_drawn_cut" ["_law_draw", "_law_highest", "_law_most"] F__law_drawn_cut := by
  have nd := sc__law_drawn_cut.nd
  obtain ⟨fd, FD⟩ := d__law_drawn_cut T
  refine ⟨⟨fd, fn_mk FD sc__law_drawn_cut (fun cdv A outer s H E hr => ?_), FD.bindsN fun _ _ _ _ _ _ us hl => match us, hl with | [_, _, _], _ => rfl, FunD_look FD⟩, g__law_drawn_cut T, FD.kp⟩
  have tk := takes_of (X := cxOf (L2.CX P w) P w K mg base ["_law_draw", "_law_highest", "_law_most", "_law_due", "_law_found", "_law_lap"] "_law_drawn_cut" (defScope (top 29)) (He.ga K "_law_drawn_cut") cdv A outer s H E) (E := E) rfl rfl rfl rfl
  have ps : Passes (L2.CX P w) (cxOf (L2.CX P w) P w K mg base ["_law_draw", "_law_highest", "_law_most", "_law_due", "_law_found", "_law_lap"] "_law_drawn_cut" (defScope (top 29)) (He.ga K "_law_drawn_cut") cdv A outer s H E) E := passes_call tk (fun _ _ _ _ h => h)
  exact (sss_cons (ss_set (i := 3) nd (se_call (ok__law_take T) (hr.mono (by decide)) ps (sa_cons (sx_var (i := 0)) (sa_cons (sx_of (se_add (se_var (i := 1)) se_int)) sa_nil))))
    (sss_cons (ss_set (i := 4) nd (se_call (ok__law_plain_cut T) (hr.mono (by decide)) ps (sa_cons (sx_var (i := 3)) sa_nil)))
    (sss_cons (ss_for (passes_of rfl) rfl (si_rng1 (m_range T) (se_call (ok__law_take T) (hr.mono (by decide)) ps (sa_cons (sx_var (i := 0)) (sa_cons (sx_of se_int) sa_nil)))) (sg_name (i := 5) nd) (sss_one (ss_set (i := 4) nd (se_call (ok__law_recut T) (hr.mono (by decide)) ps (sa_cons (sx_var (i := 0)) (sa_cons (sx_var (i := 4)) (sa_cons (sx_var (i := 2)) sa_nil)))))))
    (sss_one (ss_ret (se_tup (sl_cons (se_call (ok__law_named_anew T) (hr.mono (by decide)) ps (sa_cons (sx_var (i := 0)) (sa_cons (sx_var (i := 4)) sa_nil))) (sl_cons (se_var (i := 3)) sl_nil))))))))
def G__law_due_cut : SD → M Fl :=
    (seqM (ifV (orB (notB (tst (u2 isi (getS 0) (ofD (tupV (consV (kD (.ty "list")) (consV (kD (.ty "tuple")) nilV))))))) (c2 eqD (u1 lenS (getS 0)) (kD (.int 0)))) (retV (kD (.bl false))) nxV)
    (seqM (setV 1 (ofL (lstV nilV)))
    (seqM (forV (seqI (getD 0)) (tgN 2) (seqM (ifV (orB (notB (tst (u2 isi (getS 2) (ofD (tupV (consV (kD (.ty "list")) (consV (kD (.ty "tuple")) nilV))))))) (c2 eqD (u1 lenS (getS 2)) (kD (.int 0)))) (retV (kD (.bl false))) nxV)
    (setV 1 (u2 addD (getD 1) (ofL (u1 listS (getS 2)))))))
    (seqM (ifV (orB (c2 neD (ofL (lcM [3] (seqI (getD 1)) (tgN 3) (orB (notB (tst (u2 isi (getS 3) (ofD (kD (.ty "int")))))) (tst (u2 isi (getS 3) (ofD (kD (.ty "bool")))))) (getD 3))) (ofL (lstV nilV))) (c2 gtD (u1 lenS (getS 1)) (kD (.int 60)))) (retV (kD (.bl false))) nxV)
    (seqM (setV 4 (u2 divD (u1 lenS (getS 1)) (kD (.int 2))))
    (seqM (ifV (c2 neD (ofL (u1 sortedS (getS 1))) (u2 addD (ofL (lr2 (u2 subD (kD (.int 0)) (getD 4)) (kD (.int 0)))) (ofL (lr2 (kD (.int 1)) (u2 addD (getD 4) (kD (.int 1))))))) (retV (kD (.bl false))) nxV)
    (seqM (asgV (tupV (consV (ofL (u1 listS (ofD (u2 ixS (getS 0) (kD (.int 0)))))) (consV (kD (.bl true)) nilV))) (tgT 2 (tgC (tgN 5) (tgC (tgN 6) tg0))))
    (seqM (whileM (tst (getD 6)) (seqM (setV 7 (ofL (lstV nilV)))
    (seqM (forV (seqI (getD 0)) (tgN 2) (ifV (andB (c2 neD (ofL (lcM [3] (seqI (getD 2)) (tgN 3) (c2S (inS false) (u2 subD (kD (.int 0)) (getD 3)) (getS 5)) (getD 3))) (ofL (lstV nilV))) (c2 neD (ofL (lcM [3] (seqI (getD 2)) (tgN 3) (c2S (inS true) (getD 3) (getS 5)) (getD 3))) (ofL (lstV nilV)))) (setV 7 (u2 addD (getD 7) (ofL (u1 listS (getS 2))))) nxV))
    (seqM (setV 6 (u2 neD (getD 7) (ofL (lstV nilV))))
    (setV 5 (u2 addD (getD 5) (getD 7)))))) 100000)
    (retV (u2 eqD (ofL (lcM [3] (seqI (getD 1)) (tgN 3) (c2S (inS true) (getD 3) (getS 5)) (getD 3))) (ofL (lstV nilV))))))))))))
def F__law_due_cut : List S → M D := fnM 8 G__law_due_cut
theorem sc__law_due_cut : FnScope ["_law_thing", "_law_some", "_law_face", "_law_e", "_law_many_here", "_law_known", "_law_more", "_law_fresh"] ["_law_thing"] (defScope (top 30)) := ⟨rfl, rfl, rfl, by decide +kernel, rfl, by decide +kernel, by decide +kernel⟩
theorem ok__law_due_cut (T : Tx K mg base) : Fx P w K mg base 1 "_law_due_cut" ["_law_thing"] F__law_due_cut := by
  have nd := sc__law_due_cut.nd
  obtain ⟨fd, FD⟩ := d__law_due_cut T
  refine ⟨⟨fd, fn_mk FD sc__law_due_cut (fun cdv A outer s H E hr => ?_), FD.bindsN fun _ _ _ _ _ _ us hl => match us, hl with | [_], _ => rfl, FunD_look FD⟩, g__law_due_cut T, FD.kp⟩
  have tk := takes_of (X := cxOf (L2.CX P w) P w K mg base ["_law_thing", "_law_some", "_law_face", "_law_e", "_law_many_here", "_law_known", "_law_more", "_law_fresh"] "_law_due_cut" (defScope (top 30)) (He.ga K "_law_due_cut") cdv A outer s H E) (E := E) rfl rfl rfl rfl
  have ps : Passes (L2.CX P w) (cxOf (L2.CX P w) P w K mg base ["_law_thing", "_law_some", "_law_face", "_law_e", "_law_many_here", "_law_known", "_law_more", "_law_fresh"] "_law_due_cut" (defScope (top 30)) (He.ga K "_law_due_cut") cdv A outer s H E) E := passes_call tk (fun _ _ _ _ h => h)
  exact (sss_cons (ss_if (st_bool (sw_or (st_not (st_val (se_b2 call_isi2 isi_ok (m_isinstance T) (sx_var (i := 0)) (sx_of (se_tup (sl_cons (se_ty (m_list T)) (sl_cons (se_ty (m_tuple T)) sl_nil))))))) (sw_or1 (st_eq hr.units (se_b1 call_len2 lenS_ok (m_len T) (sx_var (i := 0))) se_int)))) (sss_one (ss_ret se_bl)) sss_nil)
    (sss_cons (ss_set (i := 1) nd (se_of (sf_lst sl_nil)))
    (sss_cons (ss_for (passes_of rfl) rfl (si_seq (se_var (i := 0))) (sg_name (i := 2) nd) (sss_cons (ss_if (st_bool (sw_or (st_not (st_val (se_b2 call_isi2 isi_ok (m_isinstance T) (sx_var (i := 2)) (sx_of (se_tup (sl_cons (se_ty (m_list T)) (sl_cons (se_ty (m_tuple T)) sl_nil))))))) (sw_or1 (st_eq hr.units (se_b1 call_len2 lenS_ok (m_len T) (sx_var (i := 2))) se_int)))) (sss_one (ss_ret se_bl)) sss_nil)
    (sss_one (ss_set (i := 1) nd (se_add (se_var (i := 1)) (se_of (sf_t1 call_list_of listS_ok (m_list T) (sx_var (i := 2)))))))))
    (sss_cons (ss_if (st_bool (sw_or (st_ne hr.units (se_of (sf_lc (own' := [("_law_e", 3)]) rfl nd (si_seq (se_var (i := 1))) (by kernel_rfl) (by decide) (fun _ _ _ _ _ => (sg_name (i := 3) nd)) (fun _ _ _ _ _ => (sts_one (st_bool (sw_or (st_not (st_val (se_b2 call_isi2 isi_ok (m_isinstance T) (sx_var (i := 3)) (sx_of (se_ty (m_int T)))))) (sw_or1 (st_val (se_b2 call_isi2 isi_ok (m_isinstance T) (sx_var (i := 3)) (sx_of (se_ty (m_bool T)))))))))) (fun _ _ _ _ _ => (se_var (i := 3))))) (se_of (sf_lst sl_nil))) (sw_or1 (st_gt (se_b1 call_len2 lenS_ok (m_len T) (sx_var (i := 1))) se_int)))) (sss_one (ss_ret se_bl)) sss_nil)
    (sss_cons (ss_set (i := 4) nd (se_div (se_b1 call_len2 lenS_ok (m_len T) (sx_var (i := 1))) se_int))
    (sss_cons (ss_if (st_ne hr.units (se_of (sf_b1 cr_sortedI sortedS_ok (m_sorted T) (sx_var (i := 1)))) (se_add (se_of (sf_rng2 rfl (m_list T) (m_range T) (se_sub se_int (se_var (i := 4))) se_int)) (se_of (sf_rng2 rfl (m_list T) (m_range T) se_int (se_add (se_var (i := 4)) se_int))))) (sss_one (ss_ret se_bl)) sss_nil)
    (sss_cons (ss_asg (se_tup (sl_cons (se_of (sf_t1 call_list_of listS_ok (m_list T) (sx_of (se_ix (sx_var (i := 0)) se_int)))) (sl_cons se_bl sl_nil))) (sg_tupT rfl (sgs_cons (sg_name (i := 5) nd) (sgs_cons (sg_name (i := 6) nd) sgs_nil))))
    (sss_cons (ss_while (n := 100000) (passes_of rfl) (st_val (se_var (i := 6))) (sss_cons (ss_set (i := 7) nd (se_of (sf_lst sl_nil)))
    (sss_cons (ss_for (passes_of rfl) rfl (si_seq (se_var (i := 0))) (sg_name (i := 2) nd) (sss_one (ss_if (st_bool (sw_and (st_ne hr.units (se_of (sf_lc (own' := [("_law_e", 3)]) rfl nd (si_seq (se_var (i := 2))) (by kernel_rfl) (by decide) (fun _ _ _ _ _ => (sg_name (i := 3) nd)) (fun _ _ _ _ _ => (sts_one (st_in (se_sub se_int (se_var (i := 3))) (sx_var (i := 5))))) (fun _ _ _ _ _ => (se_var (i := 3))))) (se_of (sf_lst sl_nil))) (sw_and1 (st_ne hr.units (se_of (sf_lc (own' := [("_law_e", 3)]) rfl nd (si_seq (se_var (i := 2))) (by kernel_rfl) (by decide) (fun _ _ _ _ _ => (sg_name (i := 3) nd)) (fun _ _ _ _ _ => (sts_one (st_notin (se_var (i := 3)) (sx_var (i := 5))))) (fun _ _ _ _ _ => (se_var (i := 3))))) (se_of (sf_lst sl_nil)))))) (sss_one (ss_set (i := 7) nd (se_add (se_var (i := 7)) (se_of (sf_t1 call_list_of listS_ok (m_list T) (sx_var (i := 2))))))) sss_nil)))
    (sss_cons (ss_set (i := 6) nd (se_ne hr.units (se_var (i := 7)) (se_of (sf_lst sl_nil))))
    (sss_one (ss_set (i := 5) nd (se_add (se_var (i := 5)) (se_var (i := 7)))))))))
    (sss_one (ss_ret (se_eq hr.units (se_of (sf_lc (own' := [("_law_e", 3)]) rfl nd (si_seq (se_var (i := 1))) (by kernel_rfl) (by decide) (fun _ _ _ _ _ => (sg_name (i := 3) nd)) (fun _ _ _ _ _ => (sts_one (st_notin (se_var (i := 3)) (sx_var (i := 5))))) (fun _ _ _ _ _ => (se_var (i := 3))))) (se_of (sf_lst sl_nil)))))))))))))
def G__law_odd_cuts : SD → M Fl :=
    (seqM (parV 2 3 (ofD (ofL (lcM [4] (seqI (getD 1)) (tgN 4) yes (ofL (u1 listS (getS 4)))))) (ofD (callM 2 F__law_take (consV (getS 0) (consV (ofD (u1 lenS (getS 1))) nilV)))))
    (seqM (setV 4 (u2 ixS (getS 2) (getD 3)))
    (seqM (setV 5 (callM 2 F__law_take (consV (getS 0) (consV (ofD (u1 lenS (getS 4))) nilV))))
    (seqM (setX 6 (newV (lstV (consV (kD .non) (consV (ofL (lstV nilV)) (consV (kD (.dk [])) (consV (kD (.str "cut")) (consV (kD (.int 7)) (consV (ofL (lstV (consV (ofL (lstV nilV)) nilV))) (consV (u2 addD (getD 2) (ofL (lstV (consV (ofL (lstV nilV)) nilV)))) (consV (u2 addD (ofL (cutM (getS 2) noI (someI (getD 3)))) (ofL (cutM (getS 2) (someI (u2 addD (getD 3) (kD (.int 1)))) noI))) (consV (u2 addD (getD 2) (ofL (lstV (consV (getD 4) nilV)))) (consV (ofL (lcM [4] (seqI (getD 2)) (tgN 4) yes (u1 tupleS (getS 4)))) nilV)))))))))))))
    (seqM (forV (seqI (ofL (lstV (consV (u2 subD (kD (.int 0)) (u2 ixS (getS 4) (getD 5))) (consV (kD (.int 0)) (consV (kD (.int 99)) (consV (kD (.bl true)) (consV (kD .non) (consV (kD (.str "1")) (consV (u2 addD (u2 ixS (getS 4) (getD 5)) (kD (.int 1))) nilV)))))))))) (tgN 7) (dropV (lm1 appS (getS 6) (u2 addD (u2 addD (ofL (cutM (getS 2) noI (someI (getD 3)))) (ofL (lstV (consV (u2 addD (u2 addD (ofL (cutM (getS 4) noI (someI (getD 5)))) (ofL (lstV (consV (getD 7) nilV)))) (ofL (cutM (getS 4) (someI (u2 addD (getD 5) (kD (.int 1)))) noI))) nilV)))) (ofL (cutM (getS 2) (someI (u2 addD (getD 3) (kD (.int 1)))) noI))))))
    (seqM (setV 8 (u2 divD (u1 sumS (ofD (ofL (lcM [9] (seqI (getD 2)) (tgN 9) yes (u1 lenS (getS 9)))))) (kD (.int 2))))
    (seqM (dropV (lm1 appS (getS 6) (u2 addD (getD 2) (ofL (lstV (consV (ofL (lstV (consV (u2 addD (getD 8) (kD (.int 1))) (consV (u2 subD (u2 subD (kD (.int 0)) (getD 8)) (kD (.int 1))) nilV)))) nilV))))))
    (seqM (dropV (lm1 appS (getS 6) (u2 addD (getD 2) (ofL (lstV (consV (ofL (lstV (consV (u2 addD (getD 8) (kD (.int 1))) nilV))) (consV (ofL (lstV (consV (u2 subD (u2 subD (kD (.int 0)) (getD 8)) (kD (.int 1))) nilV))) nilV)))))))
    (seqM (dropV (lm1 appS (getS 6) (ofL (lstV (consV (ofL (lcM [10] (u2 rng2 (kD (.int 1)) (kD (.int 32))) (tgN 10) yes (getD 10))) (consV (ofL (lcM [10] (u2 rng2 (kD (.int 1)) (kD (.int 32))) (tgN 10) yes (u2 subD (kD (.int 0)) (getD 10)))) nilV))))))
    (retV (u2 addD (getD 6) (ofL (lstV (consV (ofL (lstV (consV (ofL (lcM [10] (u2 rng2 (kD (.int 1)) (kD (.int 31))) (tgN 10) yes (getD 10))) (consV (ofL (lcM [10] (u2 rng2 (kD (.int 1)) (kD (.int 31))) (tgN 10) yes (u2 subD (kD (.int 0)) (getD 10)))) nilV)))) (consV (dk1 (.inl 0) (getD 4)) (consV (u2 addD (ofL (lstV (consV (ofL (cutM (getS 4) noI (someI (negV (kD (.int 1)))))) nilV))) (ofL (cutM (getS 2) (someI (kD (.int 1))) noI))) nilV))))))))))))))))
def F__law_odd_cuts : List S → M D := fnM 11 G__law_odd_cuts
theorem sc__law_odd_cuts : FnScope ["_law_draw", "_law_cut_here", "_law_faces", "_law_at", "_law_face", "_law_spot", "_law_some", "_law_item", "_law_many_here", "_law_one", "_law_e"] ["_law_draw", "_law_cut_here"] (defScope (top 31)) := ⟨rfl, rfl, rfl, by decide +kernel, rfl, by decide +kernel, by decide +kernel⟩
theorem ok__law_odd_cuts (T : Tx K mg base) : Fx P w K mg base 3 "_law_odd_cuts" ["_law_draw", "_law_cut_here"] F__law_odd_cuts := by
  have nd := sc__law_odd_cuts.nd
  obtain ⟨fd, FD⟩ := d__law_odd_cuts T
  refine ⟨⟨fd, fn_mk FD sc__law_odd_cuts (fun cdv A outer s H E hr => ?_), FD.bindsN fun _ _ _ _ _ _ us hl => match us, hl with | [_, _], _ => rfl, FunD_look FD⟩, g__law_odd_cuts T, FD.kp⟩
  have tk := takes_of (X := cxOf (L2.CX P w) P w K mg base ["_law_draw", "_law_cut_here", "_law_faces", "_law_at", "_law_face", "_law_spot", "_law_some", "_law_item", "_law_many_here", "_law_one", "_law_e"] "_law_odd_cuts" (defScope (top 31)) (He.ga K "_law_odd_cuts") cdv A outer s H E) (E := E) rfl rfl rfl rfl
  have ps : Passes (L2.CX P w) (cxOf (L2.CX P w) P w K mg base ["_law_draw", "_law_cut_here", "_law_faces", "_law_at", "_law_face", "_law_spot", "_law_some", "_law_item", "_law_many_here", "_law_one", "_law_e"] "_law_odd_cuts" (defScope (top 31)) (He.ga K "_law_odd_cuts") cdv A outer s H E) E := passes_call tk (fun _ _ _ _ h => h)
  exact (sss_cons (ss_par (i := 2) (j := 3) rfl nd (sx_of (se_of (sf_lc (own' := [("_law_face", 4)]) rfl nd (si_seq (se_var (i := 1))) (by kernel_rfl) (by decide) (fun _ _ _ _ _ => (sg_name (i := 4) nd)) (fun _ _ _ _ _ => sts_nil) (fun _ _ _ _ _ => (se_of (sf_t1 call_list_of listS_ok (m_list T) (sx_var (i := 4)))))))) (sx_of (se_call (ok__law_take T) (hr.mono (by decide)) ps (sa_cons (sx_var (i := 0)) (sa_cons (sx_of (se_b1 call_len2 lenS_ok (m_len T) (sx_var (i := 1)))) sa_nil)))) rfl)
    (sss_cons (ss_set (i := 4) nd (se_ix (sx_var (i := 2)) (se_var (i := 3))))
    (sss_cons (ss_set (i := 5) nd (se_call (ok__law_take T) (hr.mono (by decide)) ps (sa_cons (sx_var (i := 0)) (sa_cons (sx_of (se_b1 call_len2 lenS_ok (m_len T) (sx_var (i := 4)))) sa_nil))))
    (sss_cons (ss_setX (i := 6) nd (sx_new (sf_lst (sl_cons se_non (sl_cons (se_of (sf_lst sl_nil)) (sl_cons se_dict0 (sl_cons se_str (sl_cons se_int (sl_cons (se_of (sf_lst (sl_cons (se_of (sf_lst sl_nil)) sl_nil))) (sl_cons (se_add (se_var (i := 2)) (se_of (sf_lst (sl_cons (se_of (sf_lst sl_nil)) sl_nil)))) (sl_cons (se_add (se_of (sf_slice (sx_var (i := 2)) so_none (so_some (se_var (i := 3))))) (se_of (sf_slice (sx_var (i := 2)) (so_some (se_add (se_var (i := 3)) se_int)) so_none))) (sl_cons (se_add (se_var (i := 2)) (se_of (sf_lst (sl_cons (se_var (i := 4)) sl_nil)))) (sl_cons (se_of (sf_lc (own' := [("_law_face", 4)]) rfl nd (si_seq (se_var (i := 2))) (by kernel_rfl) (by decide) (fun _ _ _ _ _ => (sg_name (i := 4) nd)) (fun _ _ _ _ _ => sts_nil) (fun _ _ _ _ _ => (se_t1 call_tuple_of tupleS_ok (m_tuple T) (sx_var (i := 4)))))) sl_nil)))))))))))))
    (sss_cons (ss_for (passes_of rfl) rfl (si_seq (se_of (sf_lst (sl_cons (se_sub se_int (se_ix (sx_var (i := 4)) (se_var (i := 5)))) (sl_cons se_int (sl_cons se_int (sl_cons se_bl (sl_cons se_non (sl_cons se_str (sl_cons (se_add (se_ix (sx_var (i := 4)) (se_var (i := 5))) se_int) sl_nil)))))))))) (sg_name (i := 7) nd) (sss_one (ss_expr (se_append (sx_var (i := 6)) (se_add (se_add (se_of (sf_slice (sx_var (i := 2)) so_none (so_some (se_var (i := 3))))) (se_of (sf_lst (sl_cons (se_add (se_add (se_of (sf_slice (sx_var (i := 4)) so_none (so_some (se_var (i := 5))))) (se_of (sf_lst (sl_cons (se_var (i := 7)) sl_nil)))) (se_of (sf_slice (sx_var (i := 4)) (so_some (se_add (se_var (i := 5)) se_int)) so_none))) sl_nil)))) (se_of (sf_slice (sx_var (i := 2)) (so_some (se_add (se_var (i := 3)) se_int)) so_none)))))))
    (sss_cons (ss_set (i := 8) nd (se_div (se_b1 (cr_sum rfl) sumS_ok (m_sum T) (sx_of (se_of (sf_lc (own' := [("_law_one", 9)]) rfl nd (si_seq (se_var (i := 2))) (by kernel_rfl) (by decide) (fun _ _ _ _ _ => (sg_name (i := 9) nd)) (fun _ _ _ _ _ => sts_nil) (fun _ _ _ _ _ => (se_b1 call_len2 lenS_ok (m_len T) (sx_var (i := 9)))))))) se_int))
    (sss_cons (ss_expr (se_append (sx_var (i := 6)) (se_add (se_var (i := 2)) (se_of (sf_lst (sl_cons (se_of (sf_lst (sl_cons (se_add (se_var (i := 8)) se_int) (sl_cons (se_sub (se_sub se_int (se_var (i := 8))) se_int) sl_nil)))) sl_nil))))))
    (sss_cons (ss_expr (se_append (sx_var (i := 6)) (se_add (se_var (i := 2)) (se_of (sf_lst (sl_cons (se_of (sf_lst (sl_cons (se_add (se_var (i := 8)) se_int) sl_nil))) (sl_cons (se_of (sf_lst (sl_cons (se_sub (se_sub se_int (se_var (i := 8))) se_int) sl_nil))) sl_nil)))))))
    (sss_cons (ss_expr (se_append (sx_var (i := 6)) (se_of (sf_lst (sl_cons (se_of (sf_lc (own' := [("_law_e", 10)]) rfl nd (si_rng2 (m_range T) se_int se_int) (by kernel_rfl) (by decide) (fun _ _ _ _ _ => (sg_name (i := 10) nd)) (fun _ _ _ _ _ => sts_nil) (fun _ _ _ _ _ => (se_var (i := 10))))) (sl_cons (se_of (sf_lc (own' := [("_law_e", 10)]) rfl nd (si_rng2 (m_range T) se_int se_int) (by kernel_rfl) (by decide) (fun _ _ _ _ _ => (sg_name (i := 10) nd)) (fun _ _ _ _ _ => sts_nil) (fun _ _ _ _ _ => (se_sub se_int (se_var (i := 10)))))) sl_nil))))))
    (sss_one (ss_ret (se_add (se_var (i := 6)) (se_of (sf_lst (sl_cons (se_of (sf_lst (sl_cons (se_of (sf_lc (own' := [("_law_e", 10)]) rfl nd (si_rng2 (m_range T) se_int se_int) (by kernel_rfl) (by decide) (fun _ _ _ _ _ => (sg_name (i := 10) nd)) (fun _ _ _ _ _ => sts_nil) (fun _ _ _ _ _ => (se_var (i := 10))))) (sl_cons (se_of (sf_lc (own' := [("_law_e", 10)]) rfl nd (si_rng2 (m_range T) se_int se_int) (by kernel_rfl) (by decide) (fun _ _ _ _ _ => (sg_name (i := 10) nd)) (fun _ _ _ _ _ => sts_nil) (fun _ _ _ _ _ => (se_sub se_int (se_var (i := 10)))))) sl_nil)))) (sl_cons (se_dict1 (k := (.inl 0)) pe_int (se_var (i := 4))) (sl_cons (se_add (se_of (sf_lst (sl_cons (se_of (sf_slice (sx_var (i := 4)) so_none (so_some (se_neg se_int)))) sl_nil))) (se_of (sf_slice (sx_var (i := 2)) (so_some se_int) so_none))) sl_nil)))))))))))))))))
def G_law : SD → M Fl :=
    (seqM (setX 1 (callX 1 F_begun (consV (getS 0) nilV)))
    (seqM (forV (u1 rng1 (u2 addD (kD (.int 1)) (u2 (mm2 min2I) (ofD (u1 lenS (getS 0))) (ofD (kD (.int 2)))))) (tgN 2) (seqM (asgV (callM 3 F__law_drawn_cut (consV (getS 1) (consV (ofD (kD (.int 2))) (consV (ofD (kD (.int 10))) nilV)))) (tgT 2 (tgC (tgN 3) (tgC (tgN 4) tg0))))
    (seqM (ifV (orB (c2 neD (u1 reprI (ofD (callK 1 1 F_genus [0] (consV (getS 3) nilV)))) (u1 reprI (getS 4))) (c2 neD (u1 reprI (ofD (callM 1 F_genus (consV (ofD (u1 tupleS (ofD (ofL (lcM [5] (seqI (getD 3)) (tgN 5) yes (u1 tupleS (getS 5))))))) nilV)))) (u1 reprI (getS 4)))) (retV (kD (.bl false))) nxV)
    (seqM (ifV (c2 neD (callM 1 F__law_genus_of (consV (getS 3) nilV)) (getD 4)) (retV (kD (.bl false))) nxV)
    (forV (seqI (u2 addD (ofL (lstV (consV (getD 3) nilV))) (callM 2 F__law_odd_cuts (consV (getS 1) (consV (getS 3) nilV))))) (tgN 6) (seqM (setV 7 (callM 1 F__law_due_cut (consV (getS 6) nilV)))
    (seqM (ifV (notB (tst (callM 2 F__law_is_truth (consV (ofD (callM 1 F_is_cut (consV (getS 6) nilV))) (consV (getS 7) nilV))))) (retV (kD (.bl false))) nxV)
    (seqM (ifV (andB (tst (getD 7)) (c2 neD (callM 1 F_genus (consV (getS 6) nilV)) (callM 1 F__law_genus_of (consV (ofD (ofL (lcM [5] (seqI (getD 6)) (tgN 5) yes (ofL (u1 listS (getS 5)))))) nilV)))) (retV (kD (.bl false))) nxV)
    (ifV (andB (notB (tst (getD 7))) (notB (tst (u2 (isXc Ls sub) (ofD (caughtV Ls 0 "law" ("law.<locals>.<lambda>") (callM 1 F_genus (consV (getS 6) nilV)))) (ofD (kD (.gl "BadCut"))))))) (retV (kD (.bl false))) nxV)))))))))
    (retV (kD (.bl true)))))
def F_law : List S → M D := fnM 8 G_law
theorem sc_law : FnScope ["_law_script", "_law_draw", "_law_turn", "_law_cut_here", "_law_due", "_law_face", "_law_thing", "_law_right"] ["_law_script"] (defScope (top 32)) := ⟨rfl, rfl, rfl, by decide +kernel, rfl, by decide +kernel, by decide +kernel⟩
theorem ok_law (T : Tx K mg base) : Fx P w K mg base 8 "law" ["_law_script"] F_law := by
  have nd := sc_law.nd
  obtain ⟨fd, FD⟩ := d_law T
  refine ⟨⟨fd, fn_mkT FD sc_law (fun cdv hcode A outer s H E hr => ?_), FD.bindsN fun _ _ _ _ _ _ us hl => match us, hl with | [_], _ => rfl, FunD_look FD⟩, g_law T, FD.kp⟩
  have tk := takes_of (X := cxOf (L2.CX P w) P w K mg base ["_law_script", "_law_draw", "_law_turn", "_law_cut_here", "_law_due", "_law_face", "_law_thing", "_law_right"] "law" (defScope (top 32)) (He.ga K "law") cdv A outer s H E) (E := E) rfl rfl rfl rfl
  have ps : Passes (L2.CX P w) (cxOf (L2.CX P w) P w K mg base ["_law_script", "_law_draw", "_law_turn", "_law_cut_here", "_law_due", "_law_face", "_law_thing", "_law_right"] "law" (defScope (top 32)) (He.ga K "law") cdv A outer s H E) E := passes_call tk (fun _ _ _ _ h => h)
  exact (sss_cons (ss_setX (i := 1) nd (sx_call (ok__law_begun T) (hr.mono (by decide)) ps (sa_cons (sx_var (i := 0)) sa_nil)))
    (sss_cons (ss_for (passes_of rfl) rfl (si_rng1 (m_range T) (se_add se_int (se_b2 (call_min2 rfl) mm2_ok (m_min T) (sx_of (se_b1 call_len2 lenS_ok (m_len T) (sx_var (i := 0)))) (sx_of se_int)))) (sg_name (i := 2) nd) (sss_cons (ss_asg (se_call (ok__law_drawn_cut T) (hr.mono (by decide)) ps (sa_cons (sx_var (i := 1)) (sa_cons (sx_of se_int) (sa_cons (sx_of se_int) sa_nil)))) (sg_tupT rfl (sgs_cons (sg_name (i := 3) nd) (sgs_cons (sg_name (i := 4) nd) sgs_nil))))
    (sss_cons (ss_if (st_bool (sw_or (st_ne hr.units (se_b1 SkE.call_repr_int reprI_ok (m_repr T) (sx_of ((d_genus T).elim fun _ FD => se_callk (ks := ["cut"]) (pm := [0]) (ok_genus T) FD (fun _ _ _ _ _ _ ws hl => match ws, hl with | [_], _ => rfl) (hr.mono (by decide)) ps (sk_cons (sx_var (i := 3)) sk_nil)))) (se_b1 SkE.call_repr_int reprI_ok (m_repr T) (sx_var (i := 4)))) (sw_or1 (st_ne hr.units (se_b1 SkE.call_repr_int reprI_ok (m_repr T) (sx_of (se_call (ok_genus T) (hr.mono (by decide)) ps (sa_cons (sx_of (se_t1 call_tuple_of tupleS_ok (m_tuple T) (sx_of (se_of (sf_lc (own' := [("_law_face", 5)]) rfl nd (si_seq (se_var (i := 3))) (by kernel_rfl) (by decide) (fun _ _ _ _ _ => (sg_name (i := 5) nd)) (fun _ _ _ _ _ => sts_nil) (fun _ _ _ _ _ => (se_t1 call_tuple_of tupleS_ok (m_tuple T) (sx_var (i := 5))))))))) sa_nil)))) (se_b1 SkE.call_repr_int reprI_ok (m_repr T) (sx_var (i := 4))))))) (sss_one (ss_ret se_bl)) sss_nil)
    (sss_cons (ss_if (st_ne hr.units (se_call (ok__law_genus_of T) (hr.mono (by decide)) ps (sa_cons (sx_var (i := 3)) sa_nil)) (se_var (i := 4))) (sss_one (ss_ret se_bl)) sss_nil)
    (sss_one (ss_for (passes_of rfl) rfl (si_seq (se_add (se_of (sf_lst (sl_cons (se_var (i := 3)) sl_nil))) (se_call (ok__law_odd_cuts T) (hr.mono (by decide)) ps (sa_cons (sx_var (i := 1)) (sa_cons (sx_var (i := 3)) sa_nil))))) (sg_name (i := 6) nd) (sss_cons (ss_set (i := 7) nd (se_call (ok__law_due_cut T) (hr.mono (by decide)) ps (sa_cons (sx_var (i := 6)) sa_nil)))
    (sss_cons (ss_if (st_not (st_val (se_call (ok__law_is_truth T) (hr.mono (by decide)) ps (sa_cons (sx_of (se_call (ok_is_cut T) (hr.mono (by decide)) ps (sa_cons (sx_var (i := 6)) sa_nil))) (sa_cons (sx_var (i := 7)) sa_nil))))) (sss_one (ss_ret se_bl)) sss_nil)
    (sss_cons (ss_if (st_bool (sw_and (st_val (se_var (i := 7))) (sw_and1 (st_ne hr.units (se_call (ok_genus T) (hr.mono (by decide)) ps (sa_cons (sx_var (i := 6)) sa_nil)) (se_call (ok__law_genus_of T) (hr.mono (by decide)) ps (sa_cons (sx_of (se_of (sf_lc (own' := [("_law_face", 5)]) rfl nd (si_seq (se_var (i := 6))) (by kernel_rfl) (by decide) (fun _ _ _ _ _ => (sg_name (i := 5) nd)) (fun _ _ _ _ _ => sts_nil) (fun _ _ _ _ _ => (se_of (sf_t1 call_list_of listS_ok (m_list T) (sx_var (i := 5)))))))) sa_nil)))))) (sss_one (ss_ret se_bl)) sss_nil)
    (sss_one (ss_if (st_bool (sw_and (st_not (st_val (se_var (i := 7)))) (sw_and1 (st_not (st_val (se_b2 call_isiXc (isXc_ok (exl T)) (m_isinstance T) (sx_of (se_caught (k := 5) (n := 0) (Ls := Ls) (cau T) (below T) (T.tb "law" (by decide)) hcode rfl (hr.mono (by decide)) (LamX.lamS_by (by kernel_rfl)) rfl (fun _ _ _ _ _ => rfl) (fun _ _ _ _ _ _ _ hr lp => (se_call (ok_genus T) (hr.mono (by decide)) lp (sa_cons (sx_var (i := 6) (hv := .inr (.inr rfl))) sa_nil))))) (sx_of (se_glo (g_BadCut T))))))))) (sss_one (ss_ret se_bl)) sss_nil)))))))))))
    (sss_one (ss_ret se_bl))))
end
end Pr
set_option maxRecDepth 100000
set_option maxHeartbeats 0
namespace Pr
open PySem PySem.Spec PyProof.Rows L2 Mi
abbrev R : PySem.W.OpenRow := PySem.W.OpenLaw.row PySem.Challenge.rw_splitbooks_k83_cuts_of_surfaces
abbrev hk : PySem.W.Hook := hookT 6 fa fn more lams
def ob (s : PySem.W.SharedT) : AlT := obsTG 6 fa fn more lams (HandSHeadRun.getT s)
theorem ob_eq (s : PySem.W.SharedT) : ob s = hk.obs s.abs := obsTG_eq (HandSHeadRun.getT_eq s)
def nm0 : List PySem.Str := ["SplitError", "BadCut", "is_number", "is_list", "MOST_EDGES", "numbers_pair", "put_in_lots", "hang_together", "is_cut", "need_cut", "corners_of", "genus", "_law_begun", "_law_mixed", "_law_take", "_law_shuffled", "_law_is_truth", "_law_caught", "_law_lot_of", "_law_genus_of", "_law_turned_face", "_law_recut", "_law_closed_up", "_law_named_anew", "_law_plain_cut", "_law_drawn_cut", "_law_due_cut", "_law_odd_cuts"]
def nms : List PySem.Str := nm0
theorem run (w : World) : HandSHeadRun.RunEq R (PySem.W.view R.prog [32]) hk ob 12000 nms w := by
  intro os
  kernel_rfl
end Pr
/-! Plain: classes of a relation that pairs make, how many they are. -/
namespace Pl
inductive Cl {α : Type} (ps : List (α × α)) : α → α → Prop where
  | refl (a : α) : Cl ps a a
  | pair {a b : α} : (a, b) ∈ ps → Cl ps a b
  | symm {a b : α} : Cl ps a b → Cl ps b a
  | trans {a b c : α} : Cl ps a b → Cl ps b c → Cl ps a c
theorem Cl.map {α β : Type} {ps : List (α × α)} {qs : List (β × β)} (g : α → β) (h : ∀ p ∈ ps, Cl qs (g p.1) (g p.2)) {a b : α} (c : Cl ps a b) : Cl qs (g a) (g b) := by
  induction c with
  | refl a => exact .refl _
  | pair m => exact h _ m
  | symm _ ih => exact .symm ih
  | trans _ _ i j => exact .trans i j
theorem Cl.mono {α : Type} {ps qs : List (α × α)} (h : ∀ p ∈ ps, Cl qs p.1 p.2) {a b : α} (c : Cl ps a b) : Cl qs a b := Cl.map (fun x => x) h c
theorem Cl.nil {α : Type} {a b : α} (c : Cl ([] : List (α × α)) a b) : a = b := by
  induction c with
  | refl a => rfl
  | pair m => cases m
  | symm _ ih => exact ih.symm
  | trans _ _ i j => exact i.trans j
theorem Cl.snoc {α : Type} {ps : List (α × α)} {x y a b : α} : Cl (ps ++ [(x, y)]) a b ↔ Cl ps a b ∨ (Cl ps a x ∧ Cl ps y b) ∨ (Cl ps a y ∧ Cl ps x b) := by
  constructor
  · intro c
    induction c with
    | refl a => exact .inl (.refl a)
    | pair m =>
      rcases List.mem_append.mp m with m | m
      · exact .inl (.pair m)
      · have e := List.mem_singleton.mp m
        cases e
        exact .inr (.inl ⟨.refl _, .refl _⟩)
    | symm _ ih =>
      rcases ih with h | ⟨h, k⟩ | ⟨h, k⟩
      · exact .inl h.symm
      · exact .inr (.inr ⟨k.symm, h.symm⟩)
      · exact .inr (.inl ⟨k.symm, h.symm⟩)
    | trans _ _ i j =>
      rcases i with h | ⟨h, k⟩ | ⟨h, k⟩
      · rcases j with h2 | ⟨h2, k2⟩ | ⟨h2, k2⟩
        · exact .inl (h.trans h2)
        · exact .inr (.inl ⟨h.trans h2, k2⟩)
        · exact .inr (.inr ⟨h.trans h2, k2⟩)
      · rcases j with h2 | ⟨h2, k2⟩ | ⟨h2, k2⟩
        · exact .inr (.inl ⟨h, k.trans h2⟩)
        · exact .inr (.inl ⟨h, k2⟩)
        · exact .inl (h.trans k2)
      · rcases j with h2 | ⟨h2, k2⟩ | ⟨h2, k2⟩
        · exact .inr (.inr ⟨h, k.trans h2⟩)
        · exact .inl (h.trans k2)
        · exact .inr (.inr ⟨h, k2⟩)
  · have up : ∀ {c d : α}, Cl ps c d → Cl (ps ++ [(x, y)]) c d := fun c => c.mono fun p m => .pair (List.mem_append_left _ m)
    have xy : Cl (ps ++ [(x, y)]) x y := .pair (List.mem_append_right _ (List.mem_singleton.mpr rfl))
    rintro (h | ⟨h, k⟩ | ⟨h, k⟩)
    · exact up h
    · exact ((up h).trans xy).trans (up k)
    · exact ((up h).trans xy.symm).trans (up k)
/-- there are k classes among the things of S -/
def NC {α : Type} (S : List α) (ps : List (α × α)) (k : Nat) : Prop := ∃ R : List α, R.length = k ∧ (∀ r ∈ R, r ∈ S) ∧ (∀ i ∈ S, ∃ r ∈ R, Cl ps i r) ∧ R.Pairwise (fun a b => ¬ Cl ps a b)
theorem le_of_reach {α β : Type} (T : α → β → Prop) : ∀ (R : List α) (R' : List β), (∀ r ∈ R, ∃ s ∈ R', T r s) → R.Pairwise (fun a b => ∀ s, T a s → ¬ T b s) → R.length ≤ R'.length
  | [], _, _, _ => Nat.zero_le _
  | r :: R, R', h, p => by
    obtain ⟨s, hs, ts⟩ := h r List.mem_cons_self
    obtain ⟨A, B, rfl⟩ := List.append_of_mem hs
    have p' := List.pairwise_cons.mp p
    have ih := le_of_reach T R (A ++ B) (fun q hq => by
      obtain ⟨t, ht, tt⟩ := h q (List.mem_cons_of_mem _ hq)
      refine ⟨t, ?_, tt⟩
      rcases List.mem_append.mp ht with z | z
      · exact List.mem_append_left _ z
      · rcases List.mem_cons.mp z with z | z
        · subst z
          exact absurd tt (p'.1 q hq t ts)
        · exact List.mem_append_right _ z) p'.2
    simp only [List.length_cons, List.length_append] at ih ⊢
    omega
theorem NC.le {α : Type} {S : List α} {ps : List (α × α)} {k k' : Nat} (h : NC S ps k) (h' : NC S ps k') : k ≤ k' := by
  obtain ⟨R, rfl, a, b, c⟩ := h
  obtain ⟨R', rfl, a', b', c'⟩ := h'
  refine le_of_reach (Cl ps) R R' (fun r hr => b' r (a r hr)) (c.imp fun hab s h1 h2 => hab (h1.trans h2.symm))
theorem NC.uniq {α : Type} {S : List α} {ps : List (α × α)} {k k' : Nat} (h : NC S ps k) (h' : NC S ps k') : k = k' := Nat.le_antisymm (h.le h') (h'.le h)
/-- the same classes over other names -/
theorem NC.image {α β : Type} {S : List α} {S' : List β} {ps : List (α × α)} {qs : List (β × β)} {k : Nat} (h : NC S ps k) (f : α → β) (f1 : ∀ x ∈ S, f x ∈ S') (f2 : ∀ y ∈ S', ∃ x ∈ S, Cl qs y (f x))
    (e : ∀ x ∈ S, ∀ y ∈ S, Cl qs (f x) (f y) ↔ Cl ps x y) : NC S' qs k := by
  obtain ⟨R, rfl, a, b, c⟩ := h
  refine ⟨R.map f, by simp, ?_, ?_, ?_⟩
  · intro r hr
    obtain ⟨x, hx, rfl⟩ := List.mem_map.mp hr
    exact f1 x (a x hx)
  · intro i hi
    obtain ⟨x, hx, cx⟩ := f2 i hi
    obtain ⟨r, hr, cr⟩ := b x hx
    exact ⟨f r, List.mem_map.mpr ⟨r, hr, rfl⟩, cx.trans ((e x hx r (a r hr)).mpr cr)⟩
  · have key : ∀ l : List α, (∀ r ∈ l, r ∈ S) → l.Pairwise (fun a b => ¬ Cl ps a b) → (l.map f).Pairwise (fun a b => ¬ Cl qs a b) := by
      intro l
      induction l with
      | nil => intro _ _; exact .nil
      | cons x l ih =>
        intro hs hp
        have hp' := List.pairwise_cons.mp hp
        refine List.pairwise_cons.mpr ⟨fun y hy => ?_, ih (fun r hr => hs r (List.mem_cons_of_mem _ hr)) hp'.2⟩
        obtain ⟨z, hz, rfl⟩ := List.mem_map.mp hy
        exact fun q => hp'.1 z hz ((e x (hs x List.mem_cons_self) z (hs z (List.mem_cons_of_mem _ hz))).mp q)
    exact key R a c
/-- the same, one class more: the thing z alone -/
theorem NC.image1 {α β : Type} {S : List α} {S' : List β} {ps : List (α × α)} {qs : List (β × β)} {k : Nat} (h : NC S ps k) (f : α → β) (z : β) (f1 : ∀ x ∈ S, f x ∈ S') (fz : z ∈ S') (f2 : ∀ y ∈ S', y = z ∨ ∃ x ∈ S, Cl qs y (f x))
    (fn : ∀ x ∈ S, ¬ Cl qs (f x) z) (e : ∀ x ∈ S, ∀ y ∈ S, Cl qs (f x) (f y) ↔ Cl ps x y) : NC S' qs (k + 1) := by
  obtain ⟨R, rfl, a, b, c⟩ := h
  refine ⟨R.map f ++ [z], by simp, ?_, ?_, ?_⟩
  · intro r hr
    rcases List.mem_append.mp hr with hr | hr
    · obtain ⟨x, hx, rfl⟩ := List.mem_map.mp hr
      exact f1 x (a x hx)
    · rw [List.mem_singleton.mp hr]
      exact fz
  · intro i hi
    rcases f2 i hi with rfl | ⟨x, hx, cx⟩
    · exact ⟨i, List.mem_append_right _ (List.mem_singleton.mpr rfl), .refl _⟩
    · obtain ⟨r, hr, cr⟩ := b x hx
      exact ⟨f r, List.mem_append_left _ (List.mem_map.mpr ⟨r, hr, rfl⟩), cx.trans ((e x hx r (a r hr)).mpr cr)⟩
  · have key : ∀ l : List α, (∀ r ∈ l, r ∈ S) → l.Pairwise (fun a b => ¬ Cl ps a b) → (l.map f).Pairwise (fun a b => ¬ Cl qs a b) := by
      intro l
      induction l with
      | nil => intro _ _; exact .nil
      | cons x l ih =>
        intro hs hp
        have hp' := List.pairwise_cons.mp hp
        refine List.pairwise_cons.mpr ⟨fun y hy => ?_, ih (fun r hr => hs r (List.mem_cons_of_mem _ hr)) hp'.2⟩
        obtain ⟨z, hz, rfl⟩ := List.mem_map.mp hy
        exact fun q => hp'.1 z hz ((e x (hs x List.mem_cons_self) z (hs z (List.mem_cons_of_mem _ hz))).mp q)
    refine List.pairwise_append.mpr ⟨key R a c, List.pairwise_singleton _ _, fun x hx y hy => ?_⟩
    obtain ⟨w, hw, rfl⟩ := List.mem_map.mp hx
    rw [List.mem_singleton.mp hy]
    exact fn w (a w hw)
/-! ### labels -/
/-- the labels l tell the classes of ps among the numbers below l's length -/
def Lab (l : List Nat) (ps : List (Nat × Nat)) : Prop := ∀ i j, i < l.length → j < l.length → (l[i]? = l[j]? ↔ Cl ps i j)
theorem lab_range (n : Nat) : Lab (List.range n) [] := by
  intro i j hi hj
  simp only [List.length_range] at hi hj
  rw [List.getElem?_range hi, List.getElem?_range hj]
  constructor
  · intro e
    cases e
    exact .refl _
  · intro c
    rw [c.nil]
/-- all labels y become x -/
def rel (l : List Nat) (y x : Nat) : List Nat := l.map fun k => if k = y then x else k
theorem lab_rel {l : List Nat} {ps : List (Nat × Nat)} {a b x y : Nat} (h : Lab l ps) (ha : l[a]? = some x) (hb : l[b]? = some y) : Lab (rel l y x) (ps ++ [(a, b)]) ∧ Lab (rel l x y) (ps ++ [(a, b)]) := by
  have la : a < l.length := (List.getElem?_eq_some_iff.mp ha).1
  have lb : b < l.length := (List.getElem?_eq_some_iff.mp hb).1
  constructor
  all_goals
    intro i j hi hj
    simp only [rel, List.length_map] at hi hj
    obtain ⟨u, hu⟩ : ∃ u, l[i]? = some u := ⟨_, List.getElem?_eq_getElem hi⟩
    obtain ⟨v, hv⟩ : ∃ v, l[j]? = some v := ⟨_, List.getElem?_eq_getElem hj⟩
    rw [Cl.snoc, ← h i j hi hj, ← h i a hi la, ← h b j lb hj, ← h i b hi lb, ← h a j la hj]
    simp only [rel, List.getElem?_map, hu, hv, ha, hb, Option.map_some, Option.some.injEq]
    by_cases h1 : u = y <;> by_cases h2 : v = y <;> by_cases h3 : u = x <;> by_cases h4 : v = x <;> simp_all <;> omega
end Pl
/-! Plain: counting classes by labels. -/
namespace Pl
/-- k is the first one with its label -/
def rep (l : List Nat) (k : Nat) : Bool := decide (∀ j, j < k → l[j]? ≠ l[k]?)
def reps (l : List Nat) : List Nat := (List.range l.length).filter (rep l)
theorem first_of (l : List Nat) (i : Nat) : ∃ j, j ≤ i ∧ l[j]? = l[i]? ∧ rep l j = true := by
  induction i using Nat.strongRecOn with
  | _ i ih =>
    by_cases h : rep l i = true
    · exact ⟨i, Nat.le_refl i, rfl, h⟩
    · have : ∃ j, j < i ∧ l[j]? = l[i]? := by
        refine Classical.byContradiction fun q => h (decide_eq_true fun j hj e => q ⟨j, hj, e⟩)
      obtain ⟨j, hj, e⟩ := this
      obtain ⟨m, h1, h2, h3⟩ := ih j hj
      exact ⟨m, by omega, h2.trans e, h3⟩
theorem nc_reps {l : List Nat} {ps : List (Nat × Nat)} (h : Lab l ps) : NC (List.range l.length) ps (reps l).length := by
  refine ⟨reps l, rfl, fun r hr => (List.mem_filter.mp hr).1, fun i hi => ?_, ?_⟩
  · have hi' := List.mem_range.mp hi
    obtain ⟨j, h1, h2, h3⟩ := first_of l i
    refine ⟨j, List.mem_filter.mpr ⟨List.mem_range.mpr (by omega), h3⟩, ?_⟩
    exact (h i j hi' (by omega)).mp h2.symm
  · have s : (reps l).Pairwise (· < ·) := List.Pairwise.filter _ List.pairwise_lt_range
    refine List.Pairwise.imp_of_mem (fun {a b} ha hb hab c => ?_) s
    have hb' := List.mem_filter.mp hb
    have ha' := List.mem_range.mp (List.mem_filter.mp ha).1
    have e := (h a b ha' (List.mem_range.mp hb'.1)).mpr c
    exact of_decide_eq_true hb'.2 a hab e
/-- one pair, the law's way: the second's label becomes the first's -/
def stepL (l : List Nat) (p : Nat × Nat) : List Nat := rel l (l.getD p.2 0) (l.getD p.1 0)
/-- .. the program's way: the greater one becomes the less one -/
def stepP (l : List Nat) (p : Nat × Nat) : List Nat := rel l (max (l.getD p.1 0) (l.getD p.2 0)) (min (l.getD p.1 0) (l.getD p.2 0))
theorem rel_len (l : List Nat) (y x : Nat) : (rel l y x).length = l.length := by simp [rel]
theorem getD_some {l : List Nat} {i : Nat} (h : i < l.length) : l[i]? = some (l.getD i 0) := by
  rw [List.getD_eq_getElem?_getD, List.getElem?_eq_getElem h]
  rfl
theorem labL {n : Nat} : ∀ (qs : List (Nat × Nat)) {ps : List (Nat × Nat)} {l : List Nat}, l.length = n → Lab l ps → (∀ p ∈ qs, p.1 < n ∧ p.2 < n) → (qs.foldl stepL l).length = n ∧ Lab (qs.foldl stepL l) (ps ++ qs)
  | [], ps, l, hl, h, _ => ⟨hl, by simpa using h⟩
  | p :: qs, ps, l, hl, h, hb => by
    have hp := hb p List.mem_cons_self
    have s := (lab_rel h (getD_some (by rw [hl]; exact hp.1)) (getD_some (by rw [hl]; exact hp.2))).1
    have := labL qs (ps := ps ++ [p]) (l := stepL l p) (by unfold stepL; rw [rel_len, hl]) s (fun q hq => hb q (List.mem_cons_of_mem _ hq))
    simpa using this
/-- labels that are the least of their classes -/
def Least (l : List Nat) : Prop := ∀ i, i < l.length → l.getD i 0 ≤ i ∧ l.getD (l.getD i 0) 0 = l.getD i 0
theorem least_range (n : Nat) : Least (List.range n) := by
  intro i hi
  simp only [List.length_range] at hi
  have : ∀ j, j < n → (List.range n).getD j 0 = j := fun j hj => by
    rw [List.getD_eq_getElem?_getD, List.getElem?_range hj]; rfl
  rw [this i hi]
  exact ⟨Nat.le_refl i, this i hi⟩
theorem rel_getD {l : List Nat} {y x i : Nat} (hi : i < l.length) : (rel l y x).getD i 0 = if l.getD i 0 = y then x else l.getD i 0 := by
  rw [List.getD_eq_getElem?_getD, List.getD_eq_getElem?_getD]
  simp [rel, List.getElem?_map, List.getElem?_eq_getElem hi]
theorem least_rel {l : List Nat} {lo hi : Nat} (h : Least l) (h1 : lo ≤ hi) (hlo : lo < l.length) (e1 : l.getD lo 0 = lo) (e2 : hi < l.length) : Least (rel l hi lo) := by
  intro i hl
  rw [rel_len] at hl
  obtain ⟨a, b⟩ := h i hl
  rw [rel_getD hl]
  by_cases q : l.getD i 0 = hi
  · rw [if_pos q]
    refine ⟨by omega, ?_⟩
    rw [rel_getD hlo, e1]
    split
    · rfl
    · rfl
  · rw [if_neg q]
    refine ⟨a, ?_⟩
    rw [rel_getD (by omega), b, if_neg q]
theorem labP {n : Nat} : ∀ (qs : List (Nat × Nat)) {ps : List (Nat × Nat)} {l : List Nat}, l.length = n → Lab l ps → Least l → (∀ p ∈ qs, p.1 < n ∧ p.2 < n) → (qs.foldl stepP l).length = n ∧ Lab (qs.foldl stepP l) (ps ++ qs) ∧ Least (qs.foldl stepP l)
  | [], ps, l, hl, h, g, _ => ⟨hl, by simpa using h, g⟩
  | p :: qs, ps, l, hl, h, g, hb => by
    have hp := hb p List.mem_cons_self
    have p1 : p.1 < l.length := by rw [hl]; exact hp.1
    have p2 : p.2 < l.length := by rw [hl]; exact hp.2
    have s := lab_rel h (getD_some p1) (getD_some p2)
    have g1 := g p.1 p1
    have g2 := g p.2 p2
    have s' : Lab (stepP l p) (ps ++ [p]) := by
      unfold stepP
      rcases Nat.le_total (l.getD p.1 0) (l.getD p.2 0) with q | q
      · rw [Nat.max_eq_right q, Nat.min_eq_left q]; exact s.1
      · rw [Nat.max_eq_left q, Nat.min_eq_right q]; exact s.2
    have g' : Least (stepP l p) := by
      unfold stepP
      rcases Nat.le_total (l.getD p.1 0) (l.getD p.2 0) with q | q
      · rw [Nat.max_eq_right q, Nat.min_eq_left q]
        exact least_rel g q (by omega) g1.2 (by omega)
      · rw [Nat.max_eq_left q, Nat.min_eq_right q]
        exact least_rel g q (by omega) g2.2 (by omega)
    have := labP qs (ps := ps ++ [p]) (l := stepP l p) (by unfold stepP; rw [rel_len, hl]) s' g' (fun q hq => hb q (List.mem_cons_of_mem _ hq))
    simpa using this
theorem rep_least {l : List Nat} (g : Least l) {k : Nat} (hk : k < l.length) : rep l k = decide (l.getD k 0 = k) := by
  unfold rep
  by_cases q : l.getD k 0 = k
  · rw [decide_eq_true q]
    refine decide_eq_true fun j hj e => ?_
    have hl : j < l.length := by omega
    rw [getD_some hl, getD_some hk, q] at e
    have := (g j hl).1
    have e' := Option.some.inj e
    omega
  · rw [decide_eq_false q]
    refine decide_eq_false fun z => ?_
    obtain ⟨a, b⟩ := g k hk
    have hl : l.getD k 0 < l.length := by omega
    refine z (l.getD k 0) (by omega) ?_
    rw [getD_some hl, getD_some hk, b]
theorem reps_least {l : List Nat} (g : Least l) : reps l = (List.range l.length).filter fun k => decide (l.getD k 0 = k) := by
  unfold reps
  exact List.filter_congr fun k hk => rep_least g (List.mem_range.mp hk)
/-- both ways count the same -/
theorem count_same {n : Nat} (qs : List (Nat × Nat)) (hb : ∀ p ∈ qs, p.1 < n ∧ p.2 < n) : (reps (qs.foldl stepP (List.range n))).length = (reps (qs.foldl stepL (List.range n))).length ∧ NC (List.range n) qs (reps (qs.foldl stepL (List.range n))).length := by
  have a := labP qs (ps := []) (l := List.range n) (by simp) (lab_range n) (least_range n) hb
  have b := labL qs (ps := []) (l := List.range n) (by simp) (lab_range n) hb
  have a1 := nc_reps a.2.1
  have b1 := nc_reps b.2
  rw [a.1] at a1
  rw [b.1] at b1
  simp only [List.nil_append] at a1 b1
  exact ⟨a1.uniq b1, b1⟩
end Pl
/-! Plain: faces, corners, what moves leave as it is. -/
namespace Pl
def inn : Int → List Int → List (Int × Int)
  | _, [] => []
  | e, e' :: r => (e, -e') :: inn e' r
def lst : Int → List Int → Int
  | e, [] => e
  | _, e' :: r => lst e' r
def cyc : List Int → List (Int × Int)
  | [] => []
  | h :: t => inn h t ++ [(lst h t, -h)]
def dps (c : List (List Int)) : List (Int × Int) := c.flatMap cyc
theorem inn_app (e : Int) : ∀ (A : List Int) (b : Int) (B : List Int), inn e (A ++ b :: B) = inn e A ++ (lst e A, -b) :: inn b B := by
  intro A
  induction A generalizing e with
  | nil => intro b B; rfl
  | cons a A ih =>
    intro b B
    show (e, -a) :: inn a (A ++ b :: B) = (e, -a) :: inn a A ++ (lst a A, -b) :: inn b B
    rw [ih a b B]
    rfl
theorem lst_app (e : Int) : ∀ (A : List Int) (b : Int) (B : List Int), lst e (A ++ b :: B) = lst b B := by
  intro A
  induction A generalizing e with
  | nil => intro b B; rfl
  | cons a A ih => intro b B; exact ih a b B
theorem lst_mem (e : Int) : ∀ A : List Int, lst e A ∈ e :: A := by
  intro A
  induction A generalizing e with
  | nil => exact List.mem_cons_self
  | cons a A ih => exact List.mem_cons_of_mem _ (ih a)
theorem inn_mem (e : Int) : ∀ (A : List Int) (p : Int × Int), p ∈ inn e A → p.1 ∈ e :: A ∧ -p.2 ∈ e :: A := by
  intro A
  induction A generalizing e with
  | nil => intro p h; cases h
  | cons a A ih =>
    intro p h
    rcases List.mem_cons.mp h with h | h
    · subst h
      exact ⟨List.mem_cons_self, by simp⟩
    · obtain ⟨h1, h2⟩ := ih a p h
      exact ⟨List.mem_cons_of_mem _ h1, List.mem_cons_of_mem _ h2⟩
theorem cyc_mem {F : List Int} {p : Int × Int} (h : p ∈ cyc F) : p.1 ∈ F ∧ -p.2 ∈ F := by
  cases F with
  | nil => cases h
  | cons a A =>
    rcases List.mem_append.mp h with h | h
    · exact inn_mem a A p h
    · rw [List.mem_singleton.mp h]
      exact ⟨lst_mem a A, by simp⟩
theorem dps_mem {c : List (List Int)} {p : Int × Int} (h : p ∈ dps c) : p.1 ∈ c.flatten ∧ -p.2 ∈ c.flatten := by
  obtain ⟨F, hF, hp⟩ := List.mem_flatMap.mp h
  obtain ⟨h1, h2⟩ := cyc_mem hp
  exact ⟨List.mem_flatten.mpr ⟨F, hF, h1⟩, List.mem_flatten.mpr ⟨F, hF, h2⟩⟩
theorem cyc_two (a : Int) (A : List Int) (b : Int) (B : List Int) : cyc (a :: A ++ b :: B) = inn a A ++ (lst a A, -b) :: inn b B ++ [(lst b B, -a)] := by
  show inn a (A ++ b :: B) ++ [(lst a (A ++ b :: B), -a)] = _
  rw [inn_app, lst_app]
theorem cyc_rot (A B : List Int) (p : Int × Int) : p ∈ cyc (A ++ B) ↔ p ∈ cyc (B ++ A) := by
  cases A with
  | nil => simp
  | cons a A =>
    cases B with
    | nil => simp
    | cons b B =>
      rw [cyc_two, cyc_two]
      simp only [List.mem_append, List.mem_cons, List.mem_singleton, List.not_mem_nil, or_false]
      constructor <;> (rintro ((h | h | h) | h) <;> simp [h])
/-! ### links by negatives, too -/
def negs (S : List Int) : List (Int × Int) := S.map fun e => (e, -e)
def Conn (S : List Int) (ps : List (Int × Int)) : Prop := ∀ x ∈ S, ∀ y ∈ S, Cl (ps ++ negs S) x y
theorem negs_mem {S : List Int} {e : Int} (h : e ∈ S) : (e, -e) ∈ negs S := List.mem_map.mpr ⟨e, h, rfl⟩
theorem inn_conn (e : Int) : ∀ (A : List Int) {S : List Int} {ps : List (Int × Int)}, (∀ x ∈ e :: A, x ∈ S) → (∀ p ∈ inn e A, p ∈ ps) → ∀ x ∈ e :: A, Cl (ps ++ negs S) e x := by
  intro A
  induction A generalizing e with
  | nil => intro S ps hS hp x hx; rw [List.mem_singleton.mp hx]; exact .refl _
  | cons a A ih =>
    intro S ps hS hp x hx
    have h1 : Cl (ps ++ negs S) e a := (Cl.pair (List.mem_append_left _ (hp (e, -a) List.mem_cons_self))).trans (Cl.pair (List.mem_append_right _ (negs_mem (hS a (by simp))))).symm
    rcases List.mem_cons.mp hx with h | h
    · rw [h]; exact .refl _
    · exact h1.trans (ih a (fun y hy => hS y (List.mem_cons_of_mem _ hy)) (fun p h => hp p (List.mem_cons_of_mem _ h)) x h)
theorem face_conn {F S : List Int} {ps : List (Int × Int)} (hS : ∀ x ∈ F, x ∈ S) (hp : ∀ p ∈ cyc F, p ∈ ps) {x y : Int} (hx : x ∈ F) (hy : y ∈ F) : Cl (ps ++ negs S) x y := by
  cases F with
  | nil => cases hx
  | cons a A =>
    have := inn_conn a A hS (fun p h => hp p (List.mem_append_left _ h))
    exact (this x hx).symm.trans (this y hy)
/-! ### collapsing -/
theorem nc_collapse {α : Type} {S S' : List α} {ps qs : List (α × α)} (γ : α → α) (sub : ∀ x ∈ S, x ∈ S') (hγ : ∀ x ∈ S, γ x = x) (into : ∀ x ∈ S', γ x ∈ S) (eq : ∀ x ∈ S', Cl qs x (γ x))
    (hps : ∀ p ∈ ps, Cl qs p.1 p.2) (hqs : ∀ p ∈ qs, Cl ps (γ p.1) (γ p.2)) (k : Nat) : NC S ps k ↔ NC S' qs k := by
  have e1 : ∀ x ∈ S, ∀ y ∈ S, Cl qs x y ↔ Cl ps x y := fun x hx y hy => ⟨fun c => by
    have := Cl.map γ hqs c
    rw [hγ x hx, hγ y hy] at this
    exact this, fun c => c.mono hps⟩
  constructor
  · intro h
    exact h.image (fun x => x) sub (fun y hy => ⟨γ y, into y hy, eq y hy⟩) e1
  · intro h
    refine h.image γ into (fun y hy => ⟨y, sub y hy, by rw [hγ y hy]; exact .refl _⟩) fun x hx y hy => ?_
    rw [← e1 _ (into x hx) _ (into y hy)]
    exact ⟨fun c => ((eq x hx).trans c).trans (eq y hy).symm, fun c => ((eq x hx).symm.trans c).trans (eq y hy)⟩
theorem nc_congr {α : Type} {S S' : List α} {ps qs : List (α × α)} {k : Nat} (h : NC S ps k) (hS : ∀ x, x ∈ S ↔ x ∈ S') (hp : ∀ p, p ∈ ps ↔ p ∈ qs) : NC S' qs k :=
  (nc_collapse (fun x => x) (fun x hx => (hS x).mp hx) (fun _ _ => rfl) (fun x hx => (hS x).mpr hx) (fun x _ => .refl _) (fun p h => .pair ((hp p).mp h)) (fun p h => .pair ((hp p).mpr h)) k).mp h
theorem conn_congr {S S' : List Int} {ps qs : List (Int × Int)} (h : Conn S ps) (hS : ∀ x, x ∈ S ↔ x ∈ S') (hp : ∀ p, p ∈ ps ↔ p ∈ qs) : Conn S' qs := by
  intro x hx y hy
  refine (h x ((hS x).mpr hx) y ((hS y).mpr hy)).mono fun p hm => ?_
  rcases List.mem_append.mp hm with hm | hm
  · exact .pair (List.mem_append_left _ ((hp p).mp hm))
  · obtain ⟨e, he, rfl⟩ := List.mem_map.mp hm
    exact .pair (List.mem_append_right _ (negs_mem ((hS e).mp he)))
/-- a face split along a new edge f, or two faces joined: A, B not both empty -/
structure SplitG (R : List (Int × Int)) (S : List Int) (A B : List Int) (f : Int) : Prop where
  f0 : f ≠ -f
  nf : f ∉ S
  nn : -f ∉ S
  rs : ∀ p ∈ R, p.1 ∈ S ∧ p.2 ∈ S
  as : ∀ x ∈ A, x ∈ S ∧ -x ∈ S
  bs : ∀ x ∈ B, x ∈ S ∧ -x ∈ S
  ne : A ≠ [] ∨ B ≠ []
def gam (f u v : Int) (x : Int) : Int := if x = f then u else if x = -f then v else x
theorem split_nc {R : List (Int × Int)} {S S' A B : List Int} {f : Int} (g : SplitG R S A B f) (hS : ∀ x, x ∈ S' ↔ x ∈ S ∨ x = f ∨ x = -f) (k : Nat) :
    ∃ u v, u ∈ A ++ B ∧ v ∈ A ++ B ∧ (NC S (R ++ cyc (A ++ B)) k ↔ NC S' (R ++ (cyc (A ++ [f]) ++ cyc (-f :: B))) k) ∧ (∀ x ∈ S', Cl (R ++ (cyc (A ++ [f]) ++ cyc (-f :: B))) x (gam f u v x)) ∧
      (∀ p ∈ R ++ cyc (A ++ B), Cl (R ++ (cyc (A ++ [f]) ++ cyc (-f :: B))) p.1 p.2) ∧ (∀ p ∈ R ++ (cyc (A ++ [f]) ++ cyc (-f :: B)), Cl (R ++ cyc (A ++ B)) (gam f u v p.1) (gam f u v p.2)) := by
  have gid : ∀ {u v x : Int}, x ∈ S → gam f u v x = x := fun {u v x} hx => by
    unfold gam
    rw [if_neg (fun z : x = f => g.nf (by rw [← z]; exact hx)), if_neg (fun z : x = -f => g.nn (by rw [← z]; exact hx))]
  have gf : ∀ {u v : Int}, gam f u v f = u := fun {u v} => by simp [gam]
  have gn : ∀ {u v : Int}, gam f u v (-f) = v := fun {u v} => by
    unfold gam
    rw [if_neg (fun z => g.f0 z.symm), if_pos rfl]
  have main : ∀ u v, u ∈ A ++ B → v ∈ A ++ B → Cl (R ++ (cyc (A ++ [f]) ++ cyc (-f :: B))) f u → Cl (R ++ (cyc (A ++ [f]) ++ cyc (-f :: B))) (-f) v →
      (∀ p ∈ cyc (A ++ B), Cl (R ++ (cyc (A ++ [f]) ++ cyc (-f :: B))) p.1 p.2) → (∀ p ∈ cyc (A ++ [f]) ++ cyc (-f :: B), Cl (R ++ cyc (A ++ B)) (gam f u v p.1) (gam f u v p.2)) →
      (NC S (R ++ cyc (A ++ B)) k ↔ NC S' (R ++ (cyc (A ++ [f]) ++ cyc (-f :: B))) k) ∧ (∀ x ∈ S', Cl (R ++ (cyc (A ++ [f]) ++ cyc (-f :: B))) x (gam f u v x)) ∧
      (∀ p ∈ R ++ cyc (A ++ B), Cl (R ++ (cyc (A ++ [f]) ++ cyc (-f :: B))) p.1 p.2) ∧ (∀ p ∈ R ++ (cyc (A ++ [f]) ++ cyc (-f :: B)), Cl (R ++ cyc (A ++ B)) (gam f u v p.1) (gam f u v p.2)) := by
    intro u v hu hv cu cv h1 h2
    have inS : ∀ x ∈ A ++ B, x ∈ S := fun x hx => (List.mem_append.mp hx).elim (fun z => (g.as x z).1) (fun z => (g.bs x z).1)
    have eq : ∀ x ∈ S', Cl (R ++ (cyc (A ++ [f]) ++ cyc (-f :: B))) x (gam f u v x) := fun x hx => by
      rcases (hS x).mp hx with h | h | h
      · rw [gid h]; exact .refl _
      · rw [h, gf]; exact cu
      · rw [h, gn]; exact cv
    have hp : ∀ p ∈ R ++ cyc (A ++ B), Cl (R ++ (cyc (A ++ [f]) ++ cyc (-f :: B))) p.1 p.2 := fun p hp => by
      rcases List.mem_append.mp hp with h | h
      · exact .pair (List.mem_append_left _ h)
      · exact h1 p h
    have hq : ∀ p ∈ R ++ (cyc (A ++ [f]) ++ cyc (-f :: B)), Cl (R ++ cyc (A ++ B)) (gam f u v p.1) (gam f u v p.2) := fun p hp => by
      rcases List.mem_append.mp hp with h | h
      · obtain ⟨h3, h4⟩ := g.rs p h
        rw [gid h3, gid h4]
        exact .pair (List.mem_append_left _ h)
      · exact h2 p h
    refine ⟨nc_collapse (gam f u v) (fun x hx => (hS x).mpr (.inl hx)) (fun x hx => gid hx) (fun x hx => ?_) eq hp hq k, eq, hp, hq⟩
    rcases (hS x).mp hx with h | h | h
    · rw [gid h]; exact h
    · rw [h, gf]; exact inS u hu
    · rw [h, gn]; exact inS v hv
  have big : ∀ {p : Int × Int}, p ∈ cyc (A ++ [f]) ++ cyc (-f :: B) → Cl (R ++ (cyc (A ++ [f]) ++ cyc (-f :: B))) p.1 p.2 := fun {p} h => .pair (List.mem_append_right _ h)
  have small : ∀ {p : Int × Int}, p ∈ cyc (A ++ B) → Cl (R ++ cyc (A ++ B)) p.1 p.2 := fun {p} h => .pair (List.mem_append_right _ h)
  cases A with
  | nil =>
    cases B with
    | nil => exact absurd rfl (g.ne.elim id id)
    | cons b B =>
      have hb : lst b B ∈ b :: B := lst_mem b B
      refine ⟨lst b B, lst b B, hb, hb, main _ _ hb hb ?_ ?_ ?_ ?_⟩
      · have := big (p := (lst b B, - -f)) (by simp [cyc, inn, lst])
        rw [Int.neg_neg] at this
        exact this.symm
      · have h1 := big (p := (f, -f)) (by simp [cyc, inn, lst])
        have h2 := big (p := (lst b B, - -f)) (by simp [cyc, inn, lst])
        rw [Int.neg_neg] at h2
        exact h1.symm.trans h2.symm
      · intro p hp
        rcases List.mem_append.mp hp with h | h
        · exact big (by simp [cyc, inn, lst, h])
        · rw [List.mem_singleton.mp h]
          have h1 := big (p := (f, -f)) (by simp [cyc, inn, lst])
          have h2 := big (p := (lst b B, - -f)) (by simp [cyc, inn, lst])
          have h3 := big (p := (-f, -b)) (by simp [cyc, inn, lst])
          rw [Int.neg_neg] at h2
          exact (h2.trans h1).trans h3
      · intro p hp
        have hin : ∀ x, x ∈ b :: B → x ∈ S ∧ -x ∈ S := g.bs
        simp only [cyc, inn, lst, List.nil_append, List.mem_append, List.mem_cons, List.not_mem_nil, or_false, List.append_assoc, List.cons_append, Int.neg_neg] at hp
        rcases hp with h | h | h | h
        · subst h
          rw [gf, gn]
          exact .refl _
        · subst h
          have q : Cl (R ++ cyc ([] ++ b :: B)) (lst b B) (-b) := small (p := (lst b B, -b)) (by simp [cyc])
          show Cl _ (gam f (lst b B) (lst b B) (-f)) (gam f (lst b B) (lst b B) (-b))
          rw [gn, gid (hin b List.mem_cons_self).2]
          exact q
        · obtain ⟨h1, h2⟩ := inn_mem b B p h
          have h3 := (hin _ h2).2
          rw [Int.neg_neg] at h3
          rw [gid (hin _ h1).1, gid h3]
          exact small (by simp [cyc, h])
        · subst h
          show Cl _ (gam f (lst b B) (lst b B) (lst b B)) (gam f (lst b B) (lst b B) f)
          rw [gid (hin _ hb).1, gf]
          exact .refl _
  | cons a A =>
    have ha : lst a A ∈ a :: A := lst_mem a A
    cases B with
    | nil =>
      have ha' : lst a A ∈ a :: A ++ [] := by simpa using ha
      refine ⟨lst a A, lst a A, ha', ha', main _ _ ha' ha' ?_ ?_ ?_ ?_⟩
      · have h1 := big (p := (-f, - -f)) (by simp [cyc, inn, lst])
        have h2 := big (p := (lst a A, -f)) (by rw [cyc_two]; simp [cyc, inn, lst])
        rw [Int.neg_neg] at h1
        exact h1.symm.trans h2.symm
      · have h2 := big (p := (lst a A, -f)) (by rw [cyc_two]; simp [cyc, inn, lst])
        exact h2.symm
      · intro p hp
        rw [List.append_nil] at hp
        rcases List.mem_append.mp hp with h | h
        · exact big (by rw [cyc_two]; simp [h])
        · rw [List.mem_singleton.mp h]
          have h1 := big (p := (-f, - -f)) (by simp [cyc, inn, lst])
          have h2 := big (p := (lst a A, -f)) (by rw [cyc_two]; simp [cyc, inn, lst])
          have h3 := big (p := (f, -a)) (by rw [cyc_two]; simp [cyc, inn, lst])
          rw [Int.neg_neg] at h1
          exact (h2.trans h1).trans h3
      · intro p hp
        have hin : ∀ x, x ∈ a :: A → x ∈ S ∧ -x ∈ S := g.as
        rw [cyc_two] at hp
        simp only [cyc, inn, lst, List.nil_append, List.mem_append, List.mem_cons, List.not_mem_nil, or_false, Int.neg_neg] at hp
        rcases hp with ((h | h) | h) | h
        · obtain ⟨h1, h2⟩ := inn_mem a A p h
          have h3 := (hin _ h2).2
          rw [Int.neg_neg] at h3
          rw [gid (hin _ h1).1, gid h3]
          exact small (by simp [cyc, h])
        · subst h
          show Cl _ (gam f (lst a A) (lst a A) (lst a A)) (gam f (lst a A) (lst a A) (-f))
          rw [gid (hin _ ha).1, gn]
          exact .refl _
        · subst h
          show Cl _ (gam f (lst a A) (lst a A) f) (gam f (lst a A) (lst a A) (-a))
          rw [gf, gid (hin a List.mem_cons_self).2]
          exact small (p := (lst a A, -a)) (by simp [cyc])
        · subst h
          show Cl _ (gam f (lst a A) (lst a A) (-f)) (gam f (lst a A) (lst a A) f)
          rw [gf, gn]
          exact .refl _
    | cons b B =>
      have hb : lst b B ∈ b :: B := lst_mem b B
      have hu : lst b B ∈ a :: A ++ b :: B := List.mem_append_right _ hb
      have hv : lst a A ∈ a :: A ++ b :: B := List.mem_append_left _ ha
      have m1 : Cl (R ++ (cyc (a :: A ++ [f]) ++ cyc (-f :: b :: B))) (lst a A) (-f) := big (p := (lst a A, -f)) (by rw [cyc_two]; simp [cyc, inn, lst])
      have m2 : Cl (R ++ (cyc (a :: A ++ [f]) ++ cyc (-f :: b :: B))) f (-a) := big (p := (f, -a)) (by rw [cyc_two]; simp [cyc, inn, lst])
      have m3 : Cl (R ++ (cyc (a :: A ++ [f]) ++ cyc (-f :: b :: B))) (-f) (-b) := big (p := (-f, -b)) (by simp [cyc, inn, lst])
      have m4 : Cl (R ++ (cyc (a :: A ++ [f]) ++ cyc (-f :: b :: B))) (lst b B) f := by
        have := big (p := (lst b B, - -f)) (by simp [cyc, inn, lst])
        rw [Int.neg_neg] at this
        exact this
      refine ⟨lst b B, lst a A, hu, hv, main _ _ hu hv m4.symm m1.symm ?_ ?_⟩
      · intro p hp
        rw [cyc_two] at hp
        simp only [List.mem_append, List.mem_cons, List.not_mem_nil, or_false] at hp
        rcases hp with (h | h | h) | h
        · exact big (by rw [cyc_two]; simp [h])
        · subst h
          exact m1.trans m3
        · exact big (by simp [cyc, inn, h])
        · subst h
          exact m4.trans m2
      · intro p hp
        have hA : ∀ x, x ∈ a :: A → x ∈ S ∧ -x ∈ S := g.as
        have hB : ∀ x, x ∈ b :: B → x ∈ S ∧ -x ∈ S := g.bs
        rw [cyc_two] at hp
        simp only [cyc, inn, lst, List.nil_append, List.mem_append, List.mem_cons, List.not_mem_nil, or_false, Int.neg_neg] at hp
        rcases hp with ((h | h) | h) | ((h | h) | h)
        · obtain ⟨h1, h2⟩ := inn_mem a A p h
          have h3 := (hA _ h2).2
          rw [Int.neg_neg] at h3
          rw [gid (hA _ h1).1, gid h3]
          exact small (by rw [cyc_two]; simp [h])
        · subst h
          show Cl _ (gam f (lst b B) (lst a A) (lst a A)) (gam f (lst b B) (lst a A) (-f))
          rw [gid (hA _ ha).1, gn]
          exact .refl _
        · subst h
          show Cl _ (gam f (lst b B) (lst a A) f) (gam f (lst b B) (lst a A) (-a))
          rw [gf, gid (hA a List.mem_cons_self).2]
          exact small (p := (lst b B, -a)) (by rw [cyc_two]; simp)
        · subst h
          show Cl _ (gam f (lst b B) (lst a A) (-f)) (gam f (lst b B) (lst a A) (-b))
          rw [gn, gid (hB b List.mem_cons_self).2]
          exact small (p := (lst a A, -b)) (by rw [cyc_two]; simp)
        · obtain ⟨h1, h2⟩ := inn_mem b B p h
          have h3 := (hB _ h2).2
          rw [Int.neg_neg] at h3
          rw [gid (hB _ h1).1, gid h3]
          exact small (by rw [cyc_two]; simp [h])
        · subst h
          show Cl _ (gam f (lst b B) (lst a A) (lst b B)) (gam f (lst b B) (lst a A) f)
          rw [gid (hB _ hb).1, gf]
          exact .refl _
end Pl
/-! Plain: cuts of a surface, kept by moves. -/
namespace Pl
theorem split_conn {R : List (Int × Int)} {S S' A B : List Int} {f : Int} (g : SplitG R S A B f) (hS : ∀ x, x ∈ S' ↔ x ∈ S ∨ x = f ∨ x = -f) (hneg : ∀ x ∈ S, -x ∈ S) :
    Conn S (R ++ cyc (A ++ B)) ↔ Conn S' (R ++ (cyc (A ++ [f]) ++ cyc (-f :: B))) := by
  obtain ⟨u, v, hu, hv, _, eq, hp, hq⟩ := split_nc g hS 0
  have inS : ∀ x ∈ A ++ B, x ∈ S := fun x hx => (List.mem_append.mp hx).elim (fun z => (g.as x z).1) (fun z => (g.bs x z).1)
  have gid : ∀ {x : Int}, x ∈ S → gam f u v x = x := fun {x} hx => by
    unfold gam
    rw [if_neg (fun z : x = f => g.nf (by rw [← z]; exact hx)), if_neg (fun z : x = -f => g.nn (by rw [← z]; exact hx))]
  have gf : gam f u v f = u := by simp [gam]
  have gn : gam f u v (-f) = v := by
    unfold gam
    rw [if_neg (fun z => g.f0 z.symm), if_pos rfl]
  have into : ∀ x ∈ S', gam f u v x ∈ S := fun x hx => by
    rcases (hS x).mp hx with h | h | h
    · rw [gid h]; exact h
    · rw [h, gf]; exact inS u hu
    · rw [h, gn]; exact inS v hv
  constructor
  · intro h x hx y hy
    have lift : ∀ {a b : Int}, Cl (R ++ (cyc (A ++ [f]) ++ cyc (-f :: B))) a b → Cl (R ++ (cyc (A ++ [f]) ++ cyc (-f :: B)) ++ negs S') a b := fun c => c.mono fun p hp => .pair (List.mem_append_left _ hp)
    refine ((lift (eq x hx)).trans ?_).trans (lift (eq y hy)).symm
    refine (h _ (into x hx) _ (into y hy)).mono fun p hm => ?_
    rcases List.mem_append.mp hm with hm | hm
    · exact lift (hp p hm)
    · obtain ⟨e, he, rfl⟩ := List.mem_map.mp hm
      exact .pair (List.mem_append_right _ (negs_mem ((hS e).mpr (.inl he))))
  · intro h x hx y hy
    have lift : ∀ {a b : Int}, Cl (R ++ cyc (A ++ B)) a b → Cl (R ++ cyc (A ++ B) ++ negs S) a b := fun c => c.mono fun p hp => .pair (List.mem_append_left _ hp)
    have c := h x ((hS x).mpr (.inl hx)) y ((hS y).mpr (.inl hy))
    have c2 := Cl.map (qs := R ++ cyc (A ++ B) ++ negs S) (gam f u v) (fun p hm => ?_) c
    · rw [gid hx, gid hy] at c2
      exact c2
    · rcases List.mem_append.mp hm with hm | hm
      · exact lift (hq p hm)
      · obtain ⟨e, he, rfl⟩ := List.mem_map.mp hm
        have fc : ∀ {a b : Int}, a ∈ A ++ B → b ∈ A ++ B → Cl (R ++ cyc (A ++ B) ++ negs S) a b := fun ha hb => face_conn inS (fun p hp => List.mem_append_right _ hp) ha hb
        show Cl _ (gam f u v e) (gam f u v (-e))
        rcases (hS e).mp he with q | q | q
        · rw [gid q, gid (hneg e q)]
          exact .pair (List.mem_append_right _ (negs_mem q))
        · rw [q, gf, gn]
          exact fc hu hv
        · rw [q, Int.neg_neg, gf, gn]
          exact fc hv hu
/-- a spur: a new edge f with a new corner at its end -/
theorem spur {R : List (Int × Int)} {S S' A : List Int} {f : Int} (g : SplitG R S A [] f) (hA : A ≠ []) (hS : ∀ x, x ∈ S' ↔ x ∈ S ∨ x = f ∨ x = -f) {k : Nat} (h : NC S (R ++ cyc A) k) (hc : Conn S (R ++ cyc A)) :
    NC S' (R ++ cyc (A ++ [f, -f])) (k + 1) ∧ Conn S' (R ++ cyc (A ++ [f, -f])) := by
  cases A with
  | nil => exact absurd rfl hA
  | cons a A =>
    have ha : lst a A ∈ a :: A := lst_mem a A
    have eC : cyc (a :: A ++ [f, -f]) = inn a A ++ (lst a A, -f) :: [(f, f)] ++ [(-f, -a)] := by
      rw [cyc_two]
      simp [inn, lst]
    have neS : ∀ {x : Int}, x ∈ S → x ≠ f ∧ x ≠ -f := fun {x} hx => ⟨fun z => g.nf (by rw [← z]; exact hx), fun z => g.nn (by rw [← z]; exact hx)⟩
    have big : ∀ {p : Int × Int}, p ∈ cyc (a :: A ++ [f, -f]) → Cl (R ++ cyc (a :: A ++ [f, -f])) p.1 p.2 := fun {p} h => .pair (List.mem_append_right _ h)
    have m1 : Cl (R ++ cyc (a :: A ++ [f, -f])) (lst a A) (-f) := big (p := (lst a A, -f)) (by rw [eC]; simp)
    have m2 : Cl (R ++ cyc (a :: A ++ [f, -f])) (-f) (-a) := big (p := (-f, -a)) (by rw [eC]; simp)
    have up : ∀ p ∈ R ++ cyc (a :: A), Cl (R ++ cyc (a :: A ++ [f, -f])) p.1 p.2 := fun p hp => by
      rcases List.mem_append.mp hp with h | h
      · exact .pair (List.mem_append_left _ h)
      · rcases List.mem_append.mp h with h | h
        · exact big (by rw [eC]; simp [h])
        · rw [List.mem_singleton.mp h]
          exact m1.trans m2
    let gm : Int → Option Int := fun x => if x = f then none else some (if x = -f then lst a A else x)
    have gS : ∀ {x : Int}, x ∈ S → gm x = some x := fun {x} hx => by
      show (if x = f then none else some (if x = -f then lst a A else x)) = some x
      rw [if_neg (neS hx).1, if_neg (neS hx).2]
    have gfn : gm f = none := if_pos rfl
    have gnn : gm (-f) = some (lst a A) := by
      show (if -f = f then none else some (if -f = -f then lst a A else -f)) = _
      rw [if_neg (fun z => g.f0 z.symm), if_pos rfl]
    have down : ∀ p ∈ R ++ cyc (a :: A ++ [f, -f]), Cl ((R ++ cyc (a :: A)).map fun p => (some p.1, some p.2)) (gm p.1) (gm p.2) := fun p hp => by
      have sm : ∀ {q : Int × Int}, q ∈ R ++ cyc (a :: A) → Cl ((R ++ cyc (a :: A)).map fun p => (some p.1, some p.2)) (some q.1) (some q.2) := fun {q} h => .pair (List.mem_map.mpr ⟨q, h, rfl⟩)
      rcases List.mem_append.mp hp with h | h
      · obtain ⟨h3, h4⟩ := g.rs p h
        rw [gS h3, gS h4]
        exact sm (List.mem_append_left _ h)
      · rw [eC] at h
        simp only [List.mem_append, List.mem_cons, List.not_mem_nil, or_false] at h
        rcases h with (h | h | h) | h
        · obtain ⟨h1, h2⟩ := inn_mem a A p h
          have h3 := (g.as _ h2).2
          rw [Int.neg_neg] at h3
          rw [gS (g.as _ h1).1, gS h3]
          exact sm (List.mem_append_right _ (List.mem_append_left _ h))
        · subst h
          show Cl _ (gm (lst a A)) (gm (-f))
          rw [gS (g.as _ ha).1, gnn]
          exact .refl _
        · subst h
          exact .refl _
        · subst h
          show Cl _ (gm (-f)) (gm (-a))
          rw [gnn, gS (g.as a List.mem_cons_self).2]
          exact sm (q := (lst a A, -a)) (List.mem_append_right _ (by simp [cyc]))
    have back : ∀ {x y : Int}, Cl ((R ++ cyc (a :: A)).map fun p => (some p.1, some p.2)) (some x) (some y) → Cl (R ++ cyc (a :: A)) x y := fun {x y} c => by
      have := Cl.map (qs := R ++ cyc (a :: A)) (fun o : Option Int => o.getD 0) (fun p hp => by
        obtain ⟨q, hq, rfl⟩ := List.mem_map.mp hp
        exact .pair hq) c
      exact this
    have no : ∀ {x : Int}, ¬ Cl ((R ++ cyc (a :: A)).map fun p => (some p.1, some p.2)) (some x) none := fun {x} c => by
      have := Cl.map (qs := ([] : List (Bool × Bool))) (fun o : Option Int => o.isSome) (fun p hp => by
        obtain ⟨q, hq, rfl⟩ := List.mem_map.mp hp
        exact .refl _) c
      have := this.nil
      cases this
    refine ⟨h.image1 (fun x => x) f (fun x hx => (hS x).mpr (.inl hx)) ((hS f).mpr (.inr (.inl rfl))) (fun y hy => ?_) (fun x hx c => ?_) (fun x hx y hy => ⟨fun c => ?_, fun c => c.mono up⟩), ?_⟩
    · rcases (hS y).mp hy with q | q | q
      · exact .inr ⟨y, q, .refl _⟩
      · exact .inl q
      · exact .inr ⟨lst a A, (g.as _ ha).1, by rw [q]; exact m1.symm⟩
    · have := Cl.map gm down c
      rw [gS hx, gfn] at this
      exact no this
    · have := Cl.map gm down c
      rw [gS hx, gS hy] at this
      exact back this
    · have lift : ∀ {x y : Int}, Cl (R ++ cyc (a :: A ++ [f, -f])) x y → Cl (R ++ cyc (a :: A ++ [f, -f]) ++ negs S') x y := fun c => c.mono fun p hp => .pair (List.mem_append_left _ hp)
      have old : ∀ x ∈ S, ∀ y ∈ S, Cl (R ++ cyc (a :: A ++ [f, -f]) ++ negs S') x y := fun x hx y hy => (hc x hx y hy).mono fun p hm => by
        rcases List.mem_append.mp hm with hm | hm
        · exact lift (up p hm)
        · obtain ⟨e, he, rfl⟩ := List.mem_map.mp hm
          exact .pair (List.mem_append_right _ (negs_mem ((hS e).mpr (.inl he))))
      have to : ∀ x ∈ S', Cl (R ++ cyc (a :: A ++ [f, -f]) ++ negs S') x (lst a A) := fun x hx => by
        have n1 : Cl (R ++ cyc (a :: A ++ [f, -f]) ++ negs S') (-f) (lst a A) := lift m1.symm
        rcases (hS x).mp hx with q | q | q
        · exact old x q _ (g.as _ ha).1
        · rw [q]
          exact (Cl.pair (List.mem_append_right _ (negs_mem ((hS f).mpr (.inr (.inl rfl)))))).trans n1
        · rw [q]
          exact n1
      exact fun x hx y hy => (to x hx).trans (to y hy).symm
/-- a cut of a surface of the genus g, whatever its edges are called -/
structure Cut (g : Int) (c : List (List Int)) : Prop where
  nd : c.flatten.Nodup
  neg : ∀ e ∈ c.flatten, -e ∈ c.flatten ∧ e ≠ 0
  ne : ∀ F ∈ c, F ≠ []
  conn : Conn c.flatten (dps c)
  eul : ∃ k : Nat, NC c.flatten (dps c) k ∧ 2 * (k : Int) - c.flatten.length + 2 * c.length = 4 - 4 * g
theorem dps_app (c d : List (List Int)) : dps (c ++ d) = dps c ++ dps d := by simp [dps]
theorem dps_one (F : List Int) : dps [F] = cyc F := by simp [dps]
/-- the same faces, in another sequence -/
theorem Cut.perm {g : Int} {c d : List (List Int)} (h : Cut g c) (p : c.Perm d) : Cut g d := by
  have pf : c.flatten.Perm d.flatten := p.flatten
  have mS : ∀ x, x ∈ c.flatten ↔ x ∈ d.flatten := fun x => pf.mem_iff
  have mp : ∀ q, q ∈ dps c ↔ q ∈ dps d := fun q => by
    unfold dps
    rw [List.mem_flatMap, List.mem_flatMap]
    constructor
    · rintro ⟨F, hF, hq⟩; exact ⟨F, p.mem_iff.mp hF, hq⟩
    · rintro ⟨F, hF, hq⟩; exact ⟨F, p.mem_iff.mpr hF, hq⟩
  obtain ⟨k, hk, ek⟩ := h.eul
  refine ⟨pf.nodup_iff.mp h.nd, fun e he => ?_, fun F hF => h.ne F (p.mem_iff.mpr hF), conn_congr h.conn mS mp, k, nc_congr hk mS mp, ?_⟩
  · obtain ⟨a, b⟩ := h.neg e ((mS e).mpr he)
    exact ⟨(mS _).mp a, b⟩
  · rw [← pf.length_eq, ← p.length_eq]
    exact ek
theorem Cut.rot {g : Int} {c : List (List Int)} {A B : List Int} (h : Cut g (c ++ [A ++ B])) : Cut g (c ++ [B ++ A]) := by
  have mS : ∀ x, x ∈ (c ++ [A ++ B]).flatten ↔ x ∈ (c ++ [B ++ A]).flatten := fun x => by simp; constructor <;> (rintro (h | h | h) <;> simp [h])
  have mp : ∀ q, q ∈ dps (c ++ [A ++ B]) ↔ q ∈ dps (c ++ [B ++ A]) := fun q => by
    rw [dps_app, dps_app, dps_one, dps_one, List.mem_append, List.mem_append, cyc_rot]
  have pf : (c ++ [A ++ B]).flatten.Perm (c ++ [B ++ A]).flatten := by
    simp only [List.flatten_append, List.flatten_cons, List.flatten_nil, List.append_nil]
    exact List.Perm.append_left _ List.perm_append_comm
  obtain ⟨k, hk, ek⟩ := h.eul
  refine ⟨pf.nodup_iff.mp h.nd, fun e he => ?_, fun F hF => ?_, conn_congr h.conn mS mp, k, nc_congr hk mS mp, ?_⟩
  · obtain ⟨a, b⟩ := h.neg e ((mS e).mpr he)
    exact ⟨(mS _).mp a, b⟩
  · rcases List.mem_append.mp hF with z | z
    · exact h.ne F (List.mem_append_left _ z)
    · have := h.ne (A ++ B) (List.mem_append_right _ (List.mem_singleton.mpr rfl))
      rw [List.mem_singleton.mp z]
      intro q
      apply this
      simp at q ⊢
      exact ⟨q.2, q.1⟩
  · rw [← pf.length_eq]
    simpa using ek
end Pl
/-! Plain: the moves on cuts; corners by numbers. -/
namespace Pl
theorem or3 {p q r : Prop} : (q ∨ r ∨ p) ↔ (p ∨ q ∨ r) := ⟨fun h => h.elim (fun z => .inr (.inl z)) (fun z => z.elim (fun z => .inr (.inr z)) .inl), fun h => h.elim (fun z => .inr (.inr z)) (fun z => z.elim .inl (fun z => .inr (.inl z)))⟩
theorem Cut.inS {g : Int} {c : List (List Int)} {A B : List Int} {S : List Int} (hS : S = (c ++ [A ++ B]).flatten) (hneg : ∀ e ∈ S, -e ∈ S) {f : Int} (f0 : f ≠ 0) (nf : f ∉ S) (nn : -f ∉ S) (ne : A ≠ [] ∨ B ≠ []) : SplitG (dps c) S A B f := by
  subst hS
  refine ⟨by omega, nf, nn, fun p hp => ?_, fun x hx => ?_, fun x hx => ?_, ne⟩
  · obtain ⟨h1, h2⟩ := dps_mem hp
    have a1 : p.1 ∈ (c ++ [A ++ B]).flatten := by rw [List.flatten_append]; exact List.mem_append_left _ h1
    have a2 : -p.2 ∈ (c ++ [A ++ B]).flatten := by rw [List.flatten_append]; exact List.mem_append_left _ h2
    have := hneg _ a2
    rw [Int.neg_neg] at this
    exact ⟨a1, this⟩
  · have a1 : x ∈ (c ++ [A ++ B]).flatten := by simp [hx]
    exact ⟨a1, hneg _ a1⟩
  · have a1 : x ∈ (c ++ [A ++ B]).flatten := by simp [hx]
    exact ⟨a1, hneg _ a1⟩
theorem flat2 (c : List (List Int)) (A B : List Int) (f : Int) : (c ++ [A ++ [f], -f :: B]).flatten.Perm (f :: -f :: (c ++ [A ++ B]).flatten) := by
  simp only [List.flatten_append, List.flatten_cons, List.flatten_nil, List.append_nil]
  have h1 : (A ++ [f] ++ -f :: B).Perm (f :: -f :: (A ++ B)) := by
    rw [List.append_assoc]
    have : (A ++ ([f] ++ -f :: B)).Perm (([f] ++ -f :: B) ++ A) := List.perm_append_comm
    refine this.trans ?_
    show (f :: -f :: (B ++ A)).Perm _
    exact (List.Perm.cons _ (List.Perm.cons _ List.perm_append_comm))
  refine (List.Perm.append_left _ h1).trans ?_
  refine List.perm_middle.trans ?_
  exact List.Perm.cons _ List.perm_middle
theorem dps2 (c : List (List Int)) (A B : List Int) (f : Int) : dps (c ++ [A ++ [f], -f :: B]) = dps c ++ (cyc (A ++ [f]) ++ cyc (-f :: B)) := by simp [dps]
theorem Cut.split {g : Int} {c : List (List Int)} {A B : List Int} {f : Int} (h : Cut g (c ++ [A ++ B])) (hA : A ≠ []) (hB : B ≠ []) (f0 : f ≠ 0) (nf : f ∉ (c ++ [A ++ B]).flatten) (nn : -f ∉ (c ++ [A ++ B]).flatten) :
    Cut g (c ++ [A ++ [f], -f :: B]) := by
  have G := Cut.inS (g := g) (c := c) (A := A) (B := B) rfl (fun e he => (h.neg e he).1) f0 nf nn (.inl hA)
  have pf := flat2 c A B f
  have mS : ∀ x, x ∈ (c ++ [A ++ [f], -f :: B]).flatten ↔ x ∈ (c ++ [A ++ B]).flatten ∨ x = f ∨ x = -f := fun x => by
    rw [pf.mem_iff, List.mem_cons, List.mem_cons]
    exact or3
  obtain ⟨k, hk, ek⟩ := h.eul
  have ed : dps (c ++ [A ++ B]) = dps c ++ cyc (A ++ B) := by rw [dps_app, dps_one]
  refine ⟨pf.nodup_iff.mpr ?_, fun e he => ?_, fun F hF => ?_, ?_, k, ?_, ?_⟩
  · refine List.nodup_cons.mpr ⟨?_, List.nodup_cons.mpr ⟨nn, h.nd⟩⟩
    intro z
    rcases List.mem_cons.mp z with z | z
    · omega
    · exact nf z
  · rcases (mS e).mp he with q | q | q
    · obtain ⟨a, b⟩ := h.neg e q
      exact ⟨(mS _).mpr (.inl a), b⟩
    · rw [q]
      exact ⟨(mS _).mpr (.inr (.inr rfl)), f0⟩
    · rw [q, Int.neg_neg]
      exact ⟨(mS _).mpr (.inr (.inl rfl)), by omega⟩
  · rcases List.mem_append.mp hF with z | z
    · exact h.ne F (List.mem_append_left _ z)
    · rcases List.mem_cons.mp z with z | z
      · rw [z]; simp
      · rw [List.mem_singleton.mp z]; simp
  · rw [dps2]
    exact (split_conn G mS (fun e he => (h.neg e he).1)).mp (ed ▸ h.conn)
  · obtain ⟨u, v, _, _, q, _⟩ := split_nc G mS k
    rw [dps2]
    exact q.mp (ed ▸ hk)
  · rw [pf.length_eq]
    simp only [List.length_cons, List.length_append, List.length_nil] at ek ⊢
    omega
theorem Cut.join {g : Int} {c : List (List Int)} {A B : List Int} {f : Int} (h : Cut g (c ++ [A ++ [f], -f :: B])) (ne : A ≠ [] ∨ B ≠ []) : Cut g (c ++ [A ++ B]) := by
  have pf := flat2 c A B f
  have nd := pf.nodup_iff.mp h.nd
  have n1 := List.nodup_cons.mp nd
  have n2 := List.nodup_cons.mp n1.2
  have mS : ∀ x, x ∈ (c ++ [A ++ [f], -f :: B]).flatten ↔ x ∈ (c ++ [A ++ B]).flatten ∨ x = f ∨ x = -f := fun x => by
    rw [pf.mem_iff, List.mem_cons, List.mem_cons]
    exact or3
  have nf : f ∉ (c ++ [A ++ B]).flatten := fun z => n1.1 (List.mem_cons_of_mem _ z)
  have hneg : ∀ e ∈ (c ++ [A ++ B]).flatten, -e ∈ (c ++ [A ++ B]).flatten := fun e he => by
    rcases (mS _).mp (h.neg e ((mS e).mpr (.inl he))).1 with q | q | q
    · exact q
    · have : e = -f := by omega
      rw [this] at he
      exact absurd he n2.1
    · have : e = f := by omega
      rw [this] at he
      exact absurd he nf
  have f0 : f ≠ 0 := (h.neg f ((mS f).mpr (.inr (.inl rfl)))).2
  have G := Cut.inS (g := g) (c := c) (A := A) (B := B) rfl hneg f0 nf n2.1 ne
  obtain ⟨k, hk, ek⟩ := h.eul
  have ed : dps (c ++ [A ++ B]) = dps c ++ cyc (A ++ B) := by rw [dps_app, dps_one]
  refine ⟨n2.2, fun e he => ⟨hneg e he, (h.neg e ((mS e).mpr (.inl he))).2⟩, fun F hF => ?_, ?_, k, ?_, ?_⟩
  · rcases List.mem_append.mp hF with z | z
    · exact h.ne F (List.mem_append_left _ z)
    · rw [List.mem_singleton.mp z]
      intro q
      have := List.append_eq_nil_iff.mp q
      exact ne.elim (fun z => z this.1) (fun z => z this.2)
  · rw [ed]
    exact (split_conn G mS hneg).mpr (dps2 c A B f ▸ h.conn)
  · obtain ⟨u, v, _, _, q, _⟩ := split_nc G mS k
    rw [ed]
    exact q.mpr (dps2 c A B f ▸ hk)
  · rw [pf.length_eq] at ek
    simp only [List.length_cons, List.length_append, List.length_nil] at ek ⊢
    omega
theorem Cut.spur {g : Int} {c : List (List Int)} {A : List Int} {f : Int} (h : Cut g (c ++ [A])) (f0 : f ≠ 0) (nf : f ∉ (c ++ [A]).flatten) (nn : -f ∉ (c ++ [A]).flatten) : Cut g (c ++ [A ++ [f, -f]]) := by
  have hA : A ≠ [] := h.ne A (by simp)
  have G := Cut.inS (g := g) (c := c) (A := A) (B := []) rfl (fun e he => (by rw [List.append_nil] at he ⊢; exact (h.neg e he).1)) f0 (by rw [List.append_nil]; exact nf) (by rw [List.append_nil]; exact nn) (.inl hA)
  rw [List.append_nil] at G
  have pf : (c ++ [A ++ [f, -f]]).flatten.Perm (f :: -f :: (c ++ [A]).flatten) := by
    simp only [List.flatten_append, List.flatten_cons, List.flatten_nil, List.append_nil]
    have h1 : (A ++ [f, -f]).Perm (f :: -f :: A) := List.perm_append_comm
    refine (List.Perm.append_left _ h1).trans ?_
    refine List.perm_middle.trans ?_
    exact List.Perm.cons _ List.perm_middle
  have mS : ∀ x, x ∈ (c ++ [A ++ [f, -f]]).flatten ↔ x ∈ (c ++ [A]).flatten ∨ x = f ∨ x = -f := fun x => by
    rw [pf.mem_iff, List.mem_cons, List.mem_cons]
    exact or3
  obtain ⟨k, hk, ek⟩ := h.eul
  have ed : dps (c ++ [A]) = dps c ++ cyc A := by rw [dps_app, dps_one]
  have ed2 : dps (c ++ [A ++ [f, -f]]) = dps c ++ cyc (A ++ [f, -f]) := by rw [dps_app, dps_one]
  have sp := Pl.spur G hA mS (k := k) (ed ▸ hk) (ed ▸ h.conn)
  refine ⟨pf.nodup_iff.mpr ?_, fun e he => ?_, fun F hF => ?_, ed2 ▸ sp.2, k + 1, ed2 ▸ sp.1, ?_⟩
  · refine List.nodup_cons.mpr ⟨?_, List.nodup_cons.mpr ⟨nn, h.nd⟩⟩
    intro z
    rcases List.mem_cons.mp z with z | z
    · omega
    · exact nf z
  · rcases (mS e).mp he with q | q | q
    · obtain ⟨a, b⟩ := h.neg e q
      exact ⟨(mS _).mpr (.inl a), b⟩
    · rw [q]
      exact ⟨(mS _).mpr (.inr (.inr rfl)), f0⟩
    · rw [q, Int.neg_neg]
      exact ⟨(mS _).mpr (.inr (.inl rfl)), by omega⟩
  · rcases List.mem_append.mp hF with z | z
    · exact h.ne F (List.mem_append_left _ z)
    · rw [List.mem_singleton.mp z]; simp
  · rw [pf.length_eq]
    simp only [List.length_cons, List.length_append, List.length_nil] at ek ⊢
    omega
/-! ### other names -/
theorem inn_map (σ : Int → Int) : ∀ (A : List Int) (e : Int), (∀ x ∈ e :: A, σ (-x) = -σ x) → inn (σ e) (A.map σ) = (inn e A).map fun p => (σ p.1, σ p.2)
  | [], e, _ => rfl
  | a :: A, e, h => by
    show (σ e, -σ a) :: inn (σ a) (A.map σ) = (σ e, σ (-a)) :: (inn a A).map fun p => (σ p.1, σ p.2)
    rw [inn_map σ A a (fun x hx => h x (List.mem_cons_of_mem _ hx)), h a (by simp)]
theorem lst_map (σ : Int → Int) : ∀ (A : List Int) (e : Int), lst (σ e) (A.map σ) = σ (lst e A)
  | [], e => rfl
  | a :: A, e => lst_map σ A a
theorem cyc_map (σ : Int → Int) (F : List Int) (h : ∀ x ∈ F, σ (-x) = -σ x) : cyc (F.map σ) = (cyc F).map fun p => (σ p.1, σ p.2) := by
  cases F with
  | nil => rfl
  | cons a A =>
    show inn (σ a) (A.map σ) ++ [(lst (σ a) (A.map σ), -σ a)] = (inn a A ++ [(lst a A, -a)]).map fun p => (σ p.1, σ p.2)
    rw [inn_map σ A a h, lst_map, List.map_append, ← h a List.mem_cons_self]
    rfl
theorem dps_map (σ : Int → Int) (c : List (List Int)) (h : ∀ x ∈ c.flatten, σ (-x) = -σ x) : dps (c.map (·.map σ)) = (dps c).map fun p => (σ p.1, σ p.2) := by
  induction c with
  | nil => rfl
  | cons F c ih =>
    have h1 := cyc_map σ F (fun x hx => h x (by simp [hx]))
    have h2 := ih (fun x hx => h x (by rw [List.flatten_cons]; exact List.mem_append_right _ hx))
    show cyc (F.map σ) ++ dps (c.map (·.map σ)) = (cyc F ++ dps c).map fun p => (σ p.1, σ p.2)
    rw [h1, h2, List.map_append]
theorem map_back {α β : Type} {ps : List (α × α)} {S : List α} (σ : α → β) (τ : β → α) (h : ∀ x ∈ S, τ (σ x) = x) (hp : ∀ p ∈ ps, p.1 ∈ S ∧ p.2 ∈ S) {x y : α} (hx : x ∈ S) (hy : y ∈ S) : Cl (ps.map fun p => (σ p.1, σ p.2)) (σ x) (σ y) ↔ Cl ps x y := by
  constructor
  · intro c
    have := Cl.map (qs := ps) τ (fun p hm => by
      obtain ⟨q, hq, rfl⟩ := List.mem_map.mp hm
      obtain ⟨h1, h2⟩ := hp q hq
      show Cl ps (τ (σ q.1)) (τ (σ q.2))
      rw [h _ h1, h _ h2]
      exact .pair hq) c
    rw [h x hx, h y hy] at this
    exact this
  · intro c
    exact Cl.map σ (fun p hm => .pair (List.mem_map.mpr ⟨p, hm, rfl⟩)) c
theorem Cut.names {g : Int} {c : List (List Int)} (h : Cut g c) (σ τ : Int → Int) (h1 : ∀ x ∈ c.flatten, σ (-x) = -σ x) (h2 : ∀ x ∈ c.flatten, τ (σ x) = x) (h0 : ∀ x ∈ c.flatten, σ x ≠ 0) : Cut g (c.map (·.map σ)) := by
  have ef : (c.map (·.map σ)).flatten = c.flatten.map σ := by rw [List.map_flatten]
  have pS : ∀ p ∈ dps c, p.1 ∈ c.flatten ∧ p.2 ∈ c.flatten := fun p hp => by
    obtain ⟨a, b⟩ := dps_mem hp
    have := (h.neg _ b).1
    rw [Int.neg_neg] at this
    exact ⟨a, this⟩
  obtain ⟨k, hk, ek⟩ := h.eul
  refine ⟨?_, fun e he => ?_, fun F hF => ?_, ?_, k, ?_, ?_⟩
  · rw [ef]
    refine List.pairwise_map.mpr (List.Pairwise.imp_of_mem (fun {a b} ha hb hab z => hab ?_) h.nd)
    rw [← h2 a ha, ← h2 b hb, z]
  · rw [ef] at he ⊢
    obtain ⟨x, hx, rfl⟩ := List.mem_map.mp he
    obtain ⟨a, b⟩ := h.neg x hx
    exact ⟨List.mem_map.mpr ⟨-x, a, h1 x hx⟩, h0 x hx⟩
  · obtain ⟨G, hG, rfl⟩ := List.mem_map.mp hF
    intro z
    exact h.ne G hG (List.map_eq_nil_iff.mp z)
  · intro x hx y hy
    rw [ef] at hx hy
    obtain ⟨u, hu, rfl⟩ := List.mem_map.mp hx
    obtain ⟨v, hv, rfl⟩ := List.mem_map.mp hy
    refine Cl.map σ (fun p hm => ?_) (h.conn u hu v hv)
    rcases List.mem_append.mp hm with hm | hm
    · exact .pair (List.mem_append_left _ (by rw [dps_map σ c h1]; exact List.mem_map.mpr ⟨p, hm, rfl⟩))
    · obtain ⟨e, he, rfl⟩ := List.mem_map.mp hm
      show Cl _ (σ e) (σ (-e))
      rw [h1 e he]
      exact .pair (List.mem_append_right _ (negs_mem (by rw [ef]; exact List.mem_map.mpr ⟨e, he, rfl⟩)))
  · rw [ef, dps_map σ c h1]
    refine hk.image σ (fun x hx => List.mem_map.mpr ⟨x, hx, rfl⟩) (fun y hy => ?_) fun x hx y hy => map_back σ τ h2 pS hx hy
    obtain ⟨x, hx, rfl⟩ := List.mem_map.mp hy
    exact ⟨x, hx, .refl _⟩
  · rw [ef, List.length_map, List.length_map]
    exact ek
end Pl
set_option maxRecDepth 100000
/-! Running the functions F: general lemmas. -/
namespace Mi
open PySem
theorem comp_spec {vs : List Nat} {gt : D → SD → M SD} {gc : SD → M Bool} {ge : SD → M D} {sd : SD} {m : Mem} (p : D → Bool) (v : D → D) : ∀ (ds acc : List D),
    (∀ d ∈ ds, ∃ sd2, gt d (wipeD sd vs) m = .ok sd2 m ∧ gc sd2 m = .ok (p d) m ∧ (p d = true → ge sd2 m = .ok (v d) m)) → acc.length + ds.length ≤ 16777216 →
    compM vs gt gc ge sd acc ds m = .ok (acc ++ (ds.filter p).map v) m
  | [], acc, _, _ => by
    show Out.ok acc m = _
    simp
  | d :: ds, acc, h, hl => by
    obtain ⟨sd2, h1, h2, h3⟩ := h d List.mem_cons_self
    rw [List.length_cons] at hl
    show (gt d (wipeD sd vs) m).bind _ = _
    rw [h1]
    show (gc sd2 m).bind _ = _
    rw [h2]
    cases q : p d with
    | false =>
      show compM vs gt gc ge sd acc ds m = _
      rw [comp_spec p v ds acc (fun d hd => h d (List.mem_cons_of_mem _ hd)) (by omega), List.filter_cons, q]
      simp
    | true =>
      show (ge sd2 m).bind _ = _
      rw [h3 q]
      show (if acc.length < 16777216 then compM vs gt gc ge sd (acc ++ [v d]) ds else bad : M (List D)) m = _
      rw [if_pos (by omega), comp_spec p v ds _ (fun d hd => h d (List.mem_cons_of_mem _ hd)) (by simp; omega), List.filter_cons, q]
      simp
theorem lc_spec {vs : List Nat} {fi : SD → M (List D)} {gt : D → SD → M SD} {gc : SD → M Bool} {ge : SD → M D} {sd : SD} {m : Mem} {ds : List D} (p : D → Bool) (v : D → D) (hi : fi sd m = .ok ds m)
    (h : ∀ d ∈ ds, ∃ sd2, gt d (wipeD sd vs) m = .ok sd2 m ∧ gc sd2 m = .ok (p d) m ∧ (p d = true → ge sd2 m = .ok (v d) m)) (hl : ds.length ≤ 16777216) :
    lcM vs fi gt gc ge sd m = .ok ((ds.filter p).map v) m := by
  show (fi sd m).bind _ = _
  rw [hi]
  show noxO (compM vs gt gc ge sd [] ds m) = _
  rw [comp_spec p v ds [] h (by simpa using hl)]
  simp [noxO]
/-- .. without a test -/
theorem lc_map {vs : List Nat} {fi : SD → M (List D)} {gt : D → SD → M SD} {ge : SD → M D} {sd : SD} {m : Mem} {ds : List D} (v : D → D) (hi : fi sd m = .ok ds m)
    (h : ∀ d ∈ ds, ∃ sd2, gt d (wipeD sd vs) m = .ok sd2 m ∧ ge sd2 m = .ok (v d) m) (hl : ds.length ≤ 16777216) :
    lcM vs fi gt yes ge sd m = .ok (ds.map v) m := by
  have := lc_spec (vs := vs) (gc := yes) (gt := gt) (ge := ge) (sd := sd) (m := m) (ds := ds) (fun _ => true) v hi (fun d hd => by
    obtain ⟨sd2, h1, h2⟩ := h d hd
    exact ⟨sd2, h1, rfl, fun _ => h2⟩) hl
  rw [this]
  rw [List.filter_eq_self.mpr (fun _ _ => rfl)]
theorem comp2_spec {vs vs1 : List Nat} {gt gt1 : D → SD → M SD} {fi1 : SD → M (List D)} {ge : SD → M D} {sd : SD} {m : Mem} (es : D → List D) (v : D → D → D) : ∀ (ds acc : List D),
    (∀ d ∈ ds, ∃ sd2, gt d (wipeD sd vs) m = .ok sd2 m ∧ fi1 sd2 m = .ok (es d) m ∧ ∀ e ∈ es d, ∃ sd3, gt1 e (wipeD sd2 vs1) m = .ok sd3 m ∧ ge sd3 m = .ok (v d e) m) → acc.length + (ds.flatMap es).length ≤ 16777216 →
    compM2 vs vs1 gt yes fi1 gt1 yes ge sd acc ds m = .ok (acc ++ ds.flatMap fun d => (es d).map (v d)) m
  | [], acc, _, _ => by
    show Out.ok acc m = _
    simp
  | d :: ds, acc, h, hl => by
    obtain ⟨sd2, h1, h2, h3⟩ := h d List.mem_cons_self
    rw [List.flatMap_cons, List.length_append] at hl
    show (gt d (wipeD sd vs) m).bind _ = _
    rw [h1]
    show (fi1 sd2 m).bind _ = _
    rw [h2]
    show (compM vs1 gt1 yes ge sd2 acc (es d) m).bind _ = _
    have := comp_spec (vs := vs1) (gt := gt1) (gc := yes) (ge := ge) (sd := sd2) (m := m) (fun _ => true) (v d) (es d) acc (fun e he => by
      obtain ⟨sd3, q1, q2⟩ := h3 e he
      exact ⟨sd3, q1, rfl, fun _ => q2⟩) (by omega)
    rw [this]
    show compM2 vs vs1 gt yes fi1 gt1 yes ge sd _ ds m = _
    rw [List.filter_eq_self.mpr (fun _ _ => rfl), comp2_spec es v ds _ (fun d hd => h d (List.mem_cons_of_mem _ hd)) (by simp only [List.length_append, List.length_map]; omega), List.flatMap_cons, List.append_assoc]
theorem lc2_map {vs vs1 : List Nat} {fi : SD → M (List D)} {gt gt1 : D → SD → M SD} {fi1 : SD → M (List D)} {ge : SD → M D} {sd : SD} {m : Mem} {ds : List D} (es : D → List D) (v : D → D → D) (hi : fi sd m = .ok ds m)
    (h : ∀ d ∈ ds, ∃ sd2, gt d (wipeD sd vs) m = .ok sd2 m ∧ fi1 sd2 m = .ok (es d) m ∧ ∀ e ∈ es d, ∃ sd3, gt1 e (wipeD sd2 vs1) m = .ok sd3 m ∧ ge sd3 m = .ok (v d e) m) (hl : (ds.flatMap es).length ≤ 16777216) :
    lcM2 vs vs1 fi gt yes fi1 gt1 yes ge sd m = .ok (ds.flatMap fun d => (es d).map (v d)) m := by
  show (fi sd m).bind _ = _
  rw [hi]
  show noxO (compM2 vs vs1 gt yes fi1 gt1 yes ge sd [] ds m) = _
  rw [comp2_spec es v ds [] h (by simpa using hl)]
  simp [noxO]
/-! ### statements, one behind the other -/
theorem seq_nx {f g : SD → M Fl} {sd sd' : SD} {m m' : Mem} (h : f sd m = .ok (.nx sd') m') : seqM f g sd m = g sd' m' := by
  show (f sd m).bind _ = _
  rw [h]
  rfl
theorem seq_rt {f g : SD → M Fl} {sd : SD} {d : D} {m m' : Mem} (h : f sd m = .ok (.rt d) m') : seqM f g sd m = .ok (.rt d) m' := by
  show (f sd m).bind _ = _
  rw [h]
  rfl
theorem seq_exc {f g : SD → M Fl} {sd : SD} {c : Str} {fs : List (Str × D)} {m m' : Mem} (h : f sd m = .exc c fs m') : seqM f g sd m = .exc c fs m' := by
  show (f sd m).bind _ = _
  rw [h]
  rfl
theorem set_ok {i : Nat} {fe : SD → M D} {sd : SD} {d : D} {m m' : Mem} (h : fe sd m = .ok d m') : setV i fe sd m = .ok (.nx (sd.set i (some (.d d)))) m' := by
  show (fe sd m).bind _ = _
  rw [h]
  rfl
theorem setL_ok {i : Nat} {fe : SD → M (List D)} {sd : SD} {d : List D} {m m' : Mem} (h : fe sd m = .ok d m') : setLV i fe sd m = .ok (.nx (sd.set i (some (.d (.lst d))))) m' := by
  show (fe sd m).bind _ = _
  rw [h]
  rfl
theorem ret_ok {fe : SD → M D} {sd : SD} {d : D} {m m' : Mem} (h : fe sd m = .ok d m') : retV fe sd m = .ok (.rt d) m' := by
  show (fe sd m).bind _ = _
  rw [h]
  rfl
theorem if_ok {α : Type} {ga : SD → M Bool} {fa fb : SD → M α} {sd : SD} {b : Bool} {m m' : Mem} (h : ga sd m = .ok b m') : ifV ga fa fb sd m = (if b = true then fa sd else fb sd) m' := by
  show (ga sd m).bind _ = _
  rw [h]
  rfl
theorem u1_ok {α β : Type} {f : α → M β} {fa : SD → M α} {sd : SD} {a : α} {m m' : Mem} (h : fa sd m = .ok a m') : u1 f fa sd m = f a m' := by
  show (fa sd m).bind _ = _
  rw [h]
  rfl
theorem u2_ok {α β γ : Type} {f : α → β → M γ} {fa : SD → M α} {fb : SD → M β} {sd : SD} {a : α} {b : β} {m m' m'' : Mem} (h : fa sd m = .ok a m') (h2 : fb sd m' = .ok b m'') : u2 f fa fb sd m = f a b m'' := by
  show (fa sd m).bind _ = _
  rw [h]
  show (fb sd m').bind _ = _
  rw [h2]
  rfl
theorem ofD_ok {f : SD → M D} {sd : SD} {d : D} {m m' : Mem} (h : f sd m = .ok d m') : ofD f sd m = .ok (.d d) m' := by
  show (f sd m).bind _ = _
  rw [h]
  rfl
theorem ofL_ok {f : SD → M (List D)} {sd : SD} {d : List D} {m m' : Mem} (h : f sd m = .ok d m') : ofL f sd m = .ok (.lst d) m' := by
  show (f sd m).bind _ = _
  rw [h]
  rfl
theorem c2_ok {f : D → D → M D} {fa fb : SD → M D} {sd : SD} {a b : D} {r : Bool} {m m' m'' : Mem} (h : fa sd m = .ok a m') (h2 : fb sd m' = .ok b m'') (h3 : f a b m'' = .ok (.bl r) m'') : c2 f fa fb sd m = .ok r m'' := by
  show (fa sd m).bind _ = _
  rw [h]
  show (fb sd m').bind _ = _
  rw [h2]
  show (f a b m'').bind _ = _
  rw [h3]
  rfl
theorem for_ok {fi : SD → M (List D)} {gt : D → SD → M SD} {gb : SD → M Fl} {sd : SD} {ds : List D} {m m' : Mem} (h : fi sd m = .ok ds m') : forV fi gt gb sd m = forM gt gb ds sd m' := by
  show (fi sd m).bind _ = _
  rw [h]
  rfl
theorem call1_ok {F : List S → M D} {g1 : SD → M S} {sd : SD} {s : S} {m m' : Mem} (h : g1 sd m = .ok s m') : callM 1 F (consV g1 nilV) sd m = F [s] m' := by
  show ((g1 sd m).bind _).bind _ = _
  rw [h]
  rfl
theorem call2_ok {F : List S → M D} {g1 g2 : SD → M S} {sd : SD} {s1 s2 : S} {m m' m'' : Mem} (h : g1 sd m = .ok s1 m') (h2 : g2 sd m' = .ok s2 m'') : callM 2 F (consV g1 (consV g2 nilV)) sd m = F [s1, s2] m'' := by
  show ((g1 sd m).bind _).bind _ = _
  rw [h]
  show ((g2 sd m').bind _ |>.bind _).bind _ = _
  rw [h2]
  rfl
theorem pb {α β : Type} (a : α) (f : α → M β) (m : Mem) : M.bind (M.pure a) f m = f a m := rfl
theorem lr1_ok {fa : SD → M D} {sd : SD} {n : Int} {m m' : Mem} (h : fa sd m = .ok (.int n) m') : lr1 fa sd m = rngM 0 n m' := by
  show (fa sd m).bind _ = _
  rw [h]
  show M.bind (asI (.int n)) (fun k => rngM 0 k) m' = _
  rw [show asI (.int n) = M.pure n from rfl, pb]
theorem lr2_ok {fa fb : SD → M D} {sd : SD} {a b : Int} {m m' m'' : Mem} (h : fa sd m = .ok (.int a) m') (h2 : fb sd m' = .ok (.int b) m'') : lr2 fa fb sd m = rngM a b m'' := by
  show (fa sd m).bind _ = _
  rw [h]
  show (fb sd m').bind _ = _
  rw [h2]
  show M.bind (asI (.int a)) (fun k => M.bind (asI (.int b)) fun j => rngM k j) m'' = _
  rw [show asI (.int a) = M.pure a from rfl, pb, show asI (.int b) = M.pure b from rfl, pb]
theorem rng1_ok {n : Int} {m : Mem} (h : inR n = true) : rng1 (.int n) m = .ok (rngL 0 n) m := by
  show M.bind (asI (.int n)) (fun k => if inR k = true then M.pure (rngL 0 k) else bad) m = _
  rw [show asI (.int n) = M.pure n from rfl, pb, if_pos h]
  rfl
theorem rng2_ok {a b : Int} {m : Mem} (h1 : inR a = true) (h2 : inR b = true) : rng2 (.int a) (.int b) m = .ok (rngL a b) m := by
  show M.bind (asI (.int a)) (fun k => M.bind (asI (.int b)) fun j => if (inR k && inR j) = true then M.pure (rngL k j) else bad) m = _
  rw [show asI (.int a) = M.pure a from rfl, pb, show asI (.int b) = M.pure b from rfl, pb, h1, h2]
  rfl
theorem inR_of {i : Int} (h1 : -1000000 ≤ i) (h2 : i ≤ 1000000) : inR i = true := by
  unfold inR
  rw [decide_eq_true (show (-(4611686018427387904) : Int) ≤ i by omega), decide_eq_true (show i < 4611686018427387904 by omega)]
  rfl
theorem fn_rt {n : Nat} {g : SD → M Fl} {args : List S} {d : D} {m m' : Mem} (h : g (args.map some ++ List.replicate (n - args.length) none) m = .ok (.rt d) m') : fnM n g args m = .ok d (m'.take m.length) := by
  unfold fnM
  rw [h]
theorem take_self (m : Mem) : m.take m.length = m := List.take_length
theorem take_app (m x : Mem) : (m ++ x).take m.length = m := List.take_left' rfl
/-- lists of whole numbers, cuts -/
abbrev iL (l : List Int) : List D := l.map D.int
abbrev nL (l : List Nat) : List D := l.map fun n : Nat => D.int (n : Int)
end Mi
set_option maxRecDepth 100000
namespace Pr
open PySem Mi Pl
theorem ixN_nat {n a : Nat} (h : a < n) : L2.ixN n (a : Int) = some a := by
  unfold L2.ixN
  rw [if_pos (by omega), if_pos (by omega)]
  simp
theorem atI_nat {α : Type} {l : List α} {a : Nat} (h : a < l.length) : L2.atI l (a : Int) = l[a]? := by
  unfold L2.atI
  rw [ixN_nat h]
  rfl
theorem nL_get {l : List Nat} {a : Nat} (h : a < l.length) : (nL l)[a]? = some (.int ((l.getD a 0 : Nat) : Int)) := by
  rw [List.getElem?_map, getD_some h]
  rfl
theorem ix_nL {l : List Nat} {a : Nat} (h : a < l.length) (m : Mem) : ixS (.d (.lst (nL l))) (.int (a : Int)) m = .ok (.int ((l.getD a 0 : Nat) : Int)) m := by
  show (match L2.atI (nL l) (a : Int) with | some d => M.pure d | none => bad : M D) m = _
  rw [atI_nat (by simpa using h), nL_get h]
  rfl
theorem eqD_int (a b : Int) (m : Mem) : eqD (.int a) (.int b) m = .ok (.bl (decide (a = b))) m := by
  have : eqv (.int a) (.int b) = decide (a = b) := by
    show PyData.eqv (.int a) (.int b) = _
    simp only [PyData.eqv]
    by_cases h : a = b <;> simp [h]
  show (if (plain (.int a) && plain (.int b)) = true then M.pure (.bl (eqv (.int a) (.int b))) else bad : M D) m = _
  have hp : (plain (.int a) && plain (.int b)) = true := rfl
  rw [if_pos hp, this]
  rfl
theorem rngL_nat (n : Nat) : rngL 0 (n : Int) = nL (List.range n) := by
  unfold rngL
  rw [Int.sub_zero, Int.toNat_natCast]
  refine List.map_congr_left fun k _ => ?_
  rw [Int.zero_add]
theorem rng_nat (n : Nat) (h : n ≤ 16777216) (m : Mem) : rngM 0 (n : Int) m = .ok (nL (List.range n)) m := by
  unfold rngM
  have : rngOk 0 (n : Int) = true := by
    unfold rngOk
    simp only [Bool.and_eq_true, decide_eq_true_eq]
    refine ⟨by omega, by omega, by omega, by omega, by omega⟩
  rw [if_pos this, rngL_nat]
  rfl
abbrev pD (p : Nat × Nat) : D := .tup [.int (p.1 : Int), .int (p.2 : Int)]
abbrev lotsB : SD → M Fl := (seqM (parV 5 6 (ofD (u2 ixS (getS 2) (getD 3))) (ofD (u2 ixS (getS 2) (getD 4))))
    (seqM (asgV (tupV (consV (u2 (mm2 min2I) (getS 5) (getS 6)) (consV (u2 (mm2 max2I) (getS 5) (getS 6)) nilV))) (tgT 2 (tgC (tgN 7) (tgC (tgN 8) tg0))))
    (setLV 2 (lcM [9] (seqI (getD 2)) (tgN 9) yes (ifV (c2 eqD (getD 9) (getD 8)) (getD 7) (getD 9))))))
theorem min2_nat (x y : Nat) : min2I (x : Int) (y : Int) = ((min x y : Nat) : Int) := by
  unfold min2I
  split <;> omega
theorem max2_nat (x y : Nat) : max2I (x : Int) (y : Int) = ((max x y : Nat) : Int) := by
  unfold max2I
  split <;> omega
theorem lots_step (l : List Nat) (p : Nat × Nat) (h1 : p.1 < l.length) (h2 : p.2 < l.length) (hl : l.length ≤ 16777216) (a b y3 y4 y5 y6 y7 y8 y9 : Option S) (m : Mem) :
    ∃ z5 z6 z7 z8, lotsB [a, b, some (.d (.lst (nL l))), some (.d (.int (p.1 : Int))), some (.d (.int (p.2 : Int))), y5, y6, y7, y8, y9] m
      = .ok (.nx [a, b, some (.d (.lst (nL (stepP l p)))), some (.d (.int (p.1 : Int))), some (.d (.int (p.2 : Int))), z5, z6, z7, z8, y9]) m := by
  refine ⟨some (.d (.int ((l.getD p.1 0 : Nat) : Int))), some (.d (.int ((l.getD p.2 0 : Nat) : Int))), some (.d (.int ((min (l.getD p.1 0) (l.getD p.2 0) : Nat) : Int))), some (.d (.int ((max (l.getD p.1 0) (l.getD p.2 0) : Nat) : Int))), ?_⟩
  have e1 : (parV 5 6 (ofD (u2 ixS (getS 2) (getD 3))) (ofD (u2 ixS (getS 2) (getD 4)))) [a, b, some (.d (.lst (nL l))), some (.d (.int (p.1 : Int))), some (.d (.int (p.2 : Int))), y5, y6, y7, y8, y9] m
      = .ok (.nx [a, b, some (.d (.lst (nL l))), some (.d (.int (p.1 : Int))), some (.d (.int (p.2 : Int))), some (.d (.int ((l.getD p.1 0 : Nat) : Int))), some (.d (.int ((l.getD p.2 0 : Nat) : Int))), y7, y8, y9]) m := by
    show (((ixS (.d (.lst (nL l))) (.int (p.1 : Int)) m).bind fun d => M.pure (S.d d)).bind _) = _
    rw [ix_nL h1]
    show (((ixS (.d (.lst (nL l))) (.int (p.2 : Int)) m).bind fun d => M.pure (S.d d)).bind _) = _
    rw [ix_nL h2]
    rfl
  refine (seq_nx e1).trans ?_
  have e2 : (asgV (tupV (consV (u2 (mm2 min2I) (getS 5) (getS 6)) (consV (u2 (mm2 max2I) (getS 5) (getS 6)) nilV))) (tgT 2 (tgC (tgN 7) (tgC (tgN 8) tg0))))
      [a, b, some (.d (.lst (nL l))), some (.d (.int (p.1 : Int))), some (.d (.int (p.2 : Int))), some (.d (.int ((l.getD p.1 0 : Nat) : Int))), some (.d (.int ((l.getD p.2 0 : Nat) : Int))), y7, y8, y9] m
      = .ok (.nx [a, b, some (.d (.lst (nL l))), some (.d (.int (p.1 : Int))), some (.d (.int (p.2 : Int))), some (.d (.int ((l.getD p.1 0 : Nat) : Int))), some (.d (.int ((l.getD p.2 0 : Nat) : Int))),
          some (.d (.int ((min (l.getD p.1 0) (l.getD p.2 0) : Nat) : Int))), some (.d (.int ((max (l.getD p.1 0) (l.getD p.2 0) : Nat) : Int))), y9]) m := by
    rw [← min2_nat, ← max2_nat]
    rfl
  refine (seq_nx e2).trans ?_
  refine setL_ok ?_
  have := lc_map (vs := [9]) (fi := seqI (getD 2)) (gt := tgN 9) (ge := ifV (c2 eqD (getD 9) (getD 8)) (getD 7) (getD 9))
    (sd := [a, b, some (.d (.lst (nL l))), some (.d (.int (p.1 : Int))), some (.d (.int (p.2 : Int))), some (.d (.int ((l.getD p.1 0 : Nat) : Int))), some (.d (.int ((l.getD p.2 0 : Nat) : Int))),
          some (.d (.int ((min (l.getD p.1 0) (l.getD p.2 0) : Nat) : Int))), some (.d (.int ((max (l.getD p.1 0) (l.getD p.2 0) : Nat) : Int))), y9]) (m := m) (ds := nL l)
    (fun d => match d with | .int k => .int (if k = ((max (l.getD p.1 0) (l.getD p.2 0) : Nat) : Int) then ((min (l.getD p.1 0) (l.getD p.2 0) : Nat) : Int) else k) | x => x) rfl (fun d hd => by
      obtain ⟨k, hk, rfl⟩ := List.mem_map.mp hd
      refine ⟨_, rfl, ?_⟩
      rw [if_ok (c2_ok (a := .int (k : Int)) (b := .int ((max (l.getD p.1 0) (l.getD p.2 0) : Nat) : Int)) (m' := m) (m'' := m) rfl rfl (eqD_int _ _ m))]
      by_cases q : (k : Int) = ((max (l.getD p.1 0) (l.getD p.2 0) : Nat) : Int)
      · rw [if_pos (decide_eq_true q)]
        show Out.ok _ m = _
        simp only [q, if_true]
      · rw [if_neg (fun z => q (of_decide_eq_true z))]
        show Out.ok _ m = _
        simp only [q, if_false]) (by simpa using hl)
  rw [this]
  refine congrArg (fun z => Out.ok z m) ?_
  show (nL l).map _ = nL ((l.map fun k => if k = max (l.getD p.1 0) (l.getD p.2 0) then min (l.getD p.1 0) (l.getD p.2 0) else k))
  simp only [nL, List.map_map]
  refine List.map_congr_left fun k _ => ?_
  simp only [Function.comp]
  congr 1
  by_cases q : k = max (l.getD p.1 0) (l.getD p.2 0)
  · rw [if_pos q, if_pos (by omega)]
  · rw [if_neg q, if_neg (by omega)]
theorem lots_loop (n : Nat) (hn : n ≤ 16777216) : ∀ (ps : List (Nat × Nat)) (l : List Nat) (a b y3 y4 y5 y6 y7 y8 y9 : Option S) (m : Mem), l.length = n → (∀ p ∈ ps, p.1 < n ∧ p.2 < n) →
    ∃ z3 z4 z5 z6 z7 z8 z9, forM (tgT 2 (tgC (tgN 3) (tgC (tgN 4) tg0))) lotsB (ps.map pD) [a, b, some (.d (.lst (nL l))), y3, y4, y5, y6, y7, y8, y9] m
      = .ok (.nx [a, b, some (.d (.lst (nL (ps.foldl stepP l)))), z3, z4, z5, z6, z7, z8, z9]) m
  | [], l, a, b, y3, y4, y5, y6, y7, y8, y9, m, _, _ => ⟨y3, y4, y5, y6, y7, y8, y9, rfl⟩
  | p :: ps, l, a, b, y3, y4, y5, y6, y7, y8, y9, m, hl, hp => by
    obtain ⟨h1, h2⟩ := hp p List.mem_cons_self
    obtain ⟨z5, z6, z7, z8, e⟩ := lots_step l p (by omega) (by omega) (by omega) a b y3 y4 y5 y6 y7 y8 y9 m
    obtain ⟨w3, w4, w5, w6, w7, w8, w9, e2⟩ := lots_loop n hn ps (stepP l p) a b (some (.d (.int (p.1 : Int)))) (some (.d (.int (p.2 : Int)))) z5 z6 z7 z8 y9 m (by unfold stepP; rw [rel_len, hl]) (fun q hq => hp q (List.mem_cons_of_mem _ hq))
    refine ⟨w3, w4, w5, w6, w7, w8, w9, ?_⟩
    show (lotsB [a, b, some (.d (.lst (nL l))), some (.d (.int (p.1 : Int))), some (.d (.int (p.2 : Int))), y5, y6, y7, y8, y9] m).bind _ = _
    rw [e]
    exact e2
theorem put_lots (n : Nat) (hn : n ≤ 16777216) (ps : List (Nat × Nat)) (hp : ∀ p ∈ ps, p.1 < n ∧ p.2 < n) (s : S) (m m' : Mem) (hs : fzS s m = .ok (.lst (ps.map pD)) m') (hm : m'.take m.length = m') :
    F_put_in_lots [.d (.int (n : Int)), s] m = .ok (.tup (nL (ps.foldl stepP (List.range n)))) m' := by
  obtain ⟨z3, z4, z5, z6, z7, z8, z9, e⟩ := lots_loop n hn ps (List.range n) (some (.d (.int (n : Int)))) (some s) none none none none none none none m' (by simp) hp
  have e1 : G_put_in_lots [some (.d (.int (n : Int))), some s, none, none, none, none, none, none, none, none] m = .ok (.rt (.tup (nL (ps.foldl stepP (List.range n))))) m' := by
    have a1 : (setV 2 (ofL (lr1 (getD 0)))) [some (.d (.int (n : Int))), some s, none, none, none, none, none, none, none, none] m = .ok (.nx [some (.d (.int (n : Int))), some s, some (.d (.lst (nL (List.range n)))), none, none, none, none, none, none, none]) m := by
      refine set_ok (ofL_ok ?_)
      exact (lr1_ok (n := (n : Int)) (m' := m) rfl).trans (rng_nat n hn m)
    unfold G_put_in_lots
    refine (seq_nx a1).trans ?_
    have a2 : (forV (seqI (getD 1)) (tgT 2 (tgC (tgN 3) (tgC (tgN 4) tg0))) lotsB) [some (.d (.int (n : Int))), some s, some (.d (.lst (nL (List.range n)))), none, none, none, none, none, none, none] m
        = .ok (.nx [some (.d (.int (n : Int))), some s, some (.d (.lst (nL (ps.foldl stepP (List.range n))))), z3, z4, z5, z6, z7, z8, z9]) m' := by
      have : (seqI (getD 1)) [some (.d (.int (n : Int))), some s, some (.d (.lst (nL (List.range n)))), none, none, none, none, none, none, none] m = .ok (ps.map pD) m' := by
        show (fzS s m).bind itemsD = _
        rw [hs]
        rfl
      exact (for_ok this).trans e
    refine (seq_nx a2).trans ?_
    rfl
  have := fn_rt (n := 10) (g := G_put_in_lots) (args := [.d (.int (n : Int)), s]) (m := m) e1
  rw [hm] at this
  exact this
end Pr
set_option maxRecDepth 100000
namespace Pr
open PySem Mi Pl
theorem indexL_nL (x : Nat) : ∀ (l : List Nat) (i : Nat), (∃ j : Nat, l[j]? = some x) → ∃ j : Nat, indexL (.int (x : Int)) i (nL l) = some (i + j) ∧ l[j]? = some x ∧ ∀ j' : Nat, j' < j → l[j']? ≠ some x
  | [], i, ⟨j, h⟩ => by simp at h
  | a :: l, i, h => by
    have e : indexL (.int (x : Int)) i (nL (a :: l)) = if eqF (.int (a : Int)) (.int (x : Int)) = true then some i else indexL (.int (x : Int)) (i + 1) (nL l) := rfl
    by_cases q : a = x
    · refine ⟨0, ?_, by simp [q], fun j' hj => by omega⟩
      rw [e, if_pos (by simp [eqF, q])]
      rfl
    · obtain ⟨j, hj⟩ := h
      cases j with
      | zero => simp at hj; exact absurd hj q
      | succ j =>
        obtain ⟨k, h1, h2, h3⟩ := indexL_nL x l (i + 1) ⟨j, by simpa using hj⟩
        refine ⟨k + 1, ?_, by simpa using h2, fun j' hj' => ?_⟩
        · rw [e, if_neg (by simp [eqF]; omega), h1]
          congr 1
          omega
        · cases j' with
          | zero => simp; exact q
          | succ j' => simpa using h3 j' (by omega)
theorem flat_nL (l : List Nat) : (nL l).all flatD = true := by
  rw [List.all_eq_true]
  intro d hd
  obtain ⟨k, _, rfl⟩ := List.mem_map.mp hd
  rfl
theorem idx_nL {l : List Nat} {k : Nat} (hk : k < l.length) (m : Mem) : ∃ j : Nat, indexS (.d (.lst (nL l))) (.int ((l.getD k 0 : Nat) : Int)) m = .ok (.int (j : Int)) m ∧ ((j : Int) = (k : Int) ↔ rep l k = true) := by
  obtain ⟨j, h1, h2, h3⟩ := indexL_nL (l.getD k 0) l 0 ⟨k, getD_some hk⟩
  refine ⟨j, ?_, ?_⟩
  · show (if (flatD (.int ((l.getD k 0 : Nat) : Int)) && (nL l).all flatD) = true then (match indexL (.int ((l.getD k 0 : Nat) : Int)) 0 (nL l) with | some j => M.pure (.int j) | none => bad) else bad : M D) m = _
    rw [flat_nL, h1]
    simp only [Nat.zero_add]
    rfl
  · constructor
    · intro e
      have e' : j = k := by omega
      subst e'
      refine decide_eq_true fun j' hj' z => h3 j' hj' ?_
      rw [z, getD_some hk]
    · intro r
      have r' := of_decide_eq_true r
      have : ¬ j < k := fun z => r' j z (by rw [h2, getD_some hk])
      have : ¬ k < j := fun z => h3 k z (getD_some hk)
      omega
abbrev lotB : SD → M Fl := (seqM (asgV (tupV (consV (u2 ixS (getS 2) (getD 3)) (consV (u2 ixS (getS 2) (getD 4)) nilV))) (tgT 2 (tgC (tgN 5) (tgC (tgN 6) tg0))))
    (setV 2 (ofL (lcM [7] (seqI (getD 2)) (tgN 7) yes (ifV (c2 eqD (getD 7) (getD 6)) (getD 5) (getD 7))))))
theorem lot_step (l : List Nat) (p : Nat × Nat) (h1 : p.1 < l.length) (h2 : p.2 < l.length) (hl : l.length ≤ 16777216) (a b y5 y6 y7 y8 : Option S) (m : Mem) :
    ∃ z5 z6, lotB [a, b, some (.d (.lst (nL l))), some (.d (.int (p.1 : Int))), some (.d (.int (p.2 : Int))), y5, y6, y7, y8] m
      = .ok (.nx [a, b, some (.d (.lst (nL (stepL l p)))), some (.d (.int (p.1 : Int))), some (.d (.int (p.2 : Int))), z5, z6, y7, y8]) m := by
  refine ⟨some (.d (.int ((l.getD p.1 0 : Nat) : Int))), some (.d (.int ((l.getD p.2 0 : Nat) : Int))), ?_⟩
  have e1 : (asgV (tupV (consV (u2 ixS (getS 2) (getD 3)) (consV (u2 ixS (getS 2) (getD 4)) nilV))) (tgT 2 (tgC (tgN 5) (tgC (tgN 6) tg0))))
      [a, b, some (.d (.lst (nL l))), some (.d (.int (p.1 : Int))), some (.d (.int (p.2 : Int))), y5, y6, y7, y8] m
      = .ok (.nx [a, b, some (.d (.lst (nL l))), some (.d (.int (p.1 : Int))), some (.d (.int (p.2 : Int))), some (.d (.int ((l.getD p.1 0 : Nat) : Int))), some (.d (.int ((l.getD p.2 0 : Nat) : Int))), y7, y8]) m := by
    show ((((ixS (.d (.lst (nL l))) (.int (p.1 : Int)) m).bind _).bind _).bind _) = _
    rw [ix_nL h1]
    show (((((ixS (.d (.lst (nL l))) (.int (p.2 : Int)) m).bind _).bind _).bind _).bind _) = _
    rw [ix_nL h2]
    rfl
  refine (seq_nx e1).trans ?_
  refine set_ok (ofL_ok ?_)
  have := lc_map (vs := [7]) (fi := seqI (getD 2)) (gt := tgN 7) (ge := ifV (c2 eqD (getD 7) (getD 6)) (getD 5) (getD 7))
    (sd := [a, b, some (.d (.lst (nL l))), some (.d (.int (p.1 : Int))), some (.d (.int (p.2 : Int))), some (.d (.int ((l.getD p.1 0 : Nat) : Int))), some (.d (.int ((l.getD p.2 0 : Nat) : Int))), y7, y8]) (m := m) (ds := nL l)
    (fun d => match d with | .int k => .int (if k = ((l.getD p.2 0 : Nat) : Int) then ((l.getD p.1 0 : Nat) : Int) else k) | x => x) rfl (fun d hd => by
      obtain ⟨k, hk, rfl⟩ := List.mem_map.mp hd
      refine ⟨_, rfl, ?_⟩
      rw [if_ok (c2_ok (a := .int (k : Int)) (b := .int ((l.getD p.2 0 : Nat) : Int)) (m' := m) (m'' := m) rfl rfl (eqD_int _ _ m))]
      by_cases q : (k : Int) = ((l.getD p.2 0 : Nat) : Int)
      · rw [if_pos (decide_eq_true q)]
        show Out.ok _ m = _
        simp only [q, if_true]
      · rw [if_neg (fun z => q (of_decide_eq_true z))]
        show Out.ok _ m = _
        simp only [q, if_false]) (by simpa using hl)
  rw [this]
  refine congrArg (fun z => Out.ok z m) ?_
  show (nL l).map _ = nL ((l.map fun k => if k = l.getD p.2 0 then l.getD p.1 0 else k))
  simp only [nL, List.map_map]
  refine List.map_congr_left fun k _ => ?_
  simp only [Function.comp]
  congr 1
  by_cases q : k = l.getD p.2 0
  · rw [if_pos q, if_pos (by omega)]
  · rw [if_neg q, if_neg (by omega)]
theorem lot_loop (n : Nat) (hn : n ≤ 16777216) : ∀ (ps : List (Nat × Nat)) (l : List Nat) (a b y3 y4 y5 y6 y7 y8 : Option S) (m : Mem), l.length = n → (∀ p ∈ ps, p.1 < n ∧ p.2 < n) →
    ∃ z3 z4 z5 z6, forM (tgT 2 (tgC (tgN 3) (tgC (tgN 4) tg0))) lotB (ps.map pD) [a, b, some (.d (.lst (nL l))), y3, y4, y5, y6, y7, y8] m
      = .ok (.nx [a, b, some (.d (.lst (nL (ps.foldl stepL l)))), z3, z4, z5, z6, y7, y8]) m
  | [], l, a, b, y3, y4, y5, y6, y7, y8, m, _, _ => ⟨y3, y4, y5, y6, rfl⟩
  | p :: ps, l, a, b, y3, y4, y5, y6, y7, y8, m, hl, hp => by
    obtain ⟨h1, h2⟩ := hp p List.mem_cons_self
    obtain ⟨z5, z6, e⟩ := lot_step l p (by omega) (by omega) (by omega) a b y5 y6 y7 y8 m
    obtain ⟨w3, w4, w5, w6, e2⟩ := lot_loop n hn ps (stepL l p) a b (some (.d (.int (p.1 : Int)))) (some (.d (.int (p.2 : Int)))) z5 z6 y7 y8 m (by unfold stepL; rw [rel_len, hl]) (fun q hq => hp q (List.mem_cons_of_mem _ hq))
    refine ⟨w3, w4, w5, w6, ?_⟩
    show (lotB [a, b, some (.d (.lst (nL l))), some (.d (.int (p.1 : Int))), some (.d (.int (p.2 : Int))), y5, y6, y7, y8] m).bind _ = _
    rw [e]
    exact e2
/-- what a walk with numbers gives -/
theorem enum_nL (l : List Nat) : enumL (nL l) = (List.range l.length).map fun i : Nat => .tup [.int (i : Int), .int ((l.getD i 0 : Nat) : Int)] := by
  unfold enumL
  rw [List.length_map]
  refine List.map_congr_left fun i hi => ?_
  have := nL_get (l := l) (List.mem_range.mp hi)
  rw [List.getD_eq_getElem?_getD, this]
  rfl
theorem lot_of (n : Nat) (hn : n ≤ 16777216) (ps : List (Nat × Nat)) (hp : ∀ p ∈ ps, p.1 < n ∧ p.2 < n) (s : S) (m m' : Mem) (hs : fzS s m = .ok (.lst (ps.map pD)) m') (hm : m'.take m.length = m') :
    F__law_lot_of [s, .d (.int (n : Int))] m = .ok (.int ((reps (ps.foldl stepL (List.range n))).length : Int)) m' := by
  obtain ⟨z3, z4, z5, z6, e⟩ := lot_loop n hn ps (List.range n) (some s) (some (.d (.int (n : Int)))) none none none none none none m' (by simp) hp
  have hlen := (labL ps (ps := []) (l := List.range n) (by simp) (lab_range n) hp).1
  have e1 : G__law_lot_of [some s, some (.d (.int (n : Int))), none, none, none, none, none, none, none] m = .ok (.rt (.int ((reps (ps.foldl stepL (List.range n))).length : Int))) m' := by
    have a1 : (setV 2 (ofL (lr1 (getD 1)))) [some s, some (.d (.int (n : Int))), none, none, none, none, none, none, none] m = .ok (.nx [some s, some (.d (.int (n : Int))), some (.d (.lst (nL (List.range n)))), none, none, none, none, none, none]) m := by
      refine set_ok (ofL_ok ?_)
      exact (lr1_ok (n := (n : Int)) (m' := m) rfl).trans (rng_nat n hn m)
    unfold G__law_lot_of
    refine (seq_nx a1).trans ?_
    have a2 : (forV (seqI (getD 0)) (tgT 2 (tgC (tgN 3) (tgC (tgN 4) tg0))) lotB) [some s, some (.d (.int (n : Int))), some (.d (.lst (nL (List.range n)))), none, none, none, none, none, none] m
        = .ok (.nx [some s, some (.d (.int (n : Int))), some (.d (.lst (nL (ps.foldl stepL (List.range n))))), z3, z4, z5, z6, none, none]) m' := by
      have : (seqI (getD 0)) [some s, some (.d (.int (n : Int))), some (.d (.lst (nL (List.range n)))), none, none, none, none, none, none] m = .ok (ps.map pD) m' := by
        show (fzS s m).bind itemsD = _
        rw [hs]
        rfl
      exact (for_ok this).trans e
    refine (seq_nx a2).trans ?_
    generalize hL : ps.foldl stepL (List.range n) = L at hlen
    refine ret_ok ?_
    have := lc_spec (vs := [7, 8]) (fi := enumT (getD 2)) (gt := tgT 2 (tgC (tgN 7) (tgC (tgN 8) tg0))) (gc := c2 eqD (idxV (getS 2) (getD 8)) (getD 7)) (ge := getD 7)
      (sd := [some s, some (.d (.int (n : Int))), some (.d (.lst (nL L))), z3, z4, z5, z6, none, none]) (m := m') (ds := enumL (nL L))
      (fun d => match d with | .tup [.int i, _] => rep L i.toNat | _ => false) (fun d => match d with | .tup (x :: _) => x | x => x) rfl (fun d hd => by
        rw [enum_nL] at hd
        obtain ⟨i, hi, rfl⟩ := List.mem_map.mp hd
        have hi' := List.mem_range.mp hi
        obtain ⟨j, h1, h2⟩ := idx_nL hi' m'
        refine ⟨_, rfl, ?_, fun _ => rfl⟩
        refine c2_ok (a := .int (j : Int)) (b := .int (i : Int)) (m' := m') (m'' := m') ?_ rfl ?_
        · exact h1
        · rw [eqD_int]
          have : rep L (i : Int).toNat = decide ((j : Int) = (i : Int)) := by
            rw [Int.toNat_natCast]
            by_cases q : (j : Int) = (i : Int)
            · rw [decide_eq_true q, h2.mp q]
            · rw [decide_eq_false q]
              cases r : rep L i with
              | false => rfl
              | true => exact absurd (h2.mpr r) q
          show Out.ok (D.bl (decide ((j : Int) = (i : Int)))) m' = Out.ok (D.bl (rep L (i : Int).toNat)) m'
          rw [this]) (by rw [enum_nL, List.length_map, List.length_range]; omega)
    have h3 := ofD_ok (ofL_ok this)
    refine (u1_ok h3).trans ?_
    show Out.ok (D.int _) m' = Out.ok (D.int _) m'
    refine congrArg (fun z : Nat => Out.ok (D.int (z : Int)) m') ?_
    rw [List.length_map, enum_nL, List.filter_map, List.length_map]
    unfold reps
    refine congrArg List.length (List.filter_congr fun i _ => ?_)
    show rep L (i : Int).toNat = rep L i
    rw [Int.toNat_natCast]
  have := fn_rt (n := 9) (g := G__law_lot_of) (args := [s, .d (.int (n : Int))]) (m := m) e1
  rw [hm] at this
  exact this
end Pr
set_option maxRecDepth 100000
namespace Pr
open PySem Mi Pl
/-! ### faces and cuts as data -/
def isFace (d : D) (l : List Int) : Prop := d = .lst (iL l) ∨ d = .tup (iL l)
inductive Faces : List D → List (List Int) → Prop where
  | nil : Faces [] []
  | cons {d : D} {l : List Int} {ds : List D} {c : List (List Int)} : isFace d l → Faces ds c → Faces (d :: ds) (l :: c)
def isCutD (d : D) (c : List (List Int)) : Prop := ∃ ds, Faces ds c ∧ (d = .lst ds ∨ d = .tup ds)
theorem Faces.length {ds : List D} {c : List (List Int)} (h : Faces ds c) : ds.length = c.length := by
  induction h with
  | nil => rfl
  | cons _ _ ih => simp [ih]
theorem Faces.mem {ds : List D} {c : List (List Int)} (h : Faces ds c) : ∀ d ∈ ds, ∃ l ∈ c, isFace d l := by
  induction h with
  | nil => intro d hd; cases hd
  | cons f _ ih =>
    intro d hd
    rcases List.mem_cons.mp hd with z | z
    · rw [z]; exact ⟨_, List.mem_cons_self, f⟩
    · obtain ⟨l, hl, q⟩ := ih d z
      exact ⟨l, List.mem_cons_of_mem _ hl, q⟩
theorem face_len {d : D} {l : List Int} (h : isFace d l) (m : Mem) : lenS (.d d) m = .ok (.int (l.length : Int)) m := by
  rcases h with rfl | rfl
  · show Out.ok (D.int ((iL l).length : Int)) m = _
    rw [List.length_map]
  · show Out.ok (D.int ((iL l).length : Int)) m = _
    rw [List.length_map]
theorem face_items {d : D} {l : List Int} (h : isFace d l) (m : Mem) : itemsD d m = .ok (iL l) m := by
  rcases h with rfl | rfl <;> rfl
theorem face_asLT {d : D} {l : List Int} (h : isFace d l) (m : Mem) : asLT d m = .ok (iL l) m := by
  rcases h with rfl | rfl <;> rfl
theorem iL_get {l : List Int} {a : Nat} (h : a < l.length) : (iL l)[a]? = some (.int (l.getD a 0)) := by
  rw [List.getElem?_map, List.getD_eq_getElem?_getD, List.getElem?_eq_getElem h]
  rfl
theorem face_ix {d : D} {l : List Int} (h : isFace d l) {a : Nat} (ha : a < l.length) (m : Mem) : ixS (.d d) (.int (a : Int)) m = .ok (.int (l.getD a 0)) m := by
  rcases h with rfl | rfl
  all_goals
    show (match L2.atI (iL l) (a : Int) with | some d => M.pure d | none => bad : M D) m = _
    rw [atI_nat (by simpa using ha), iL_get ha]
    rfl
theorem cutD_items {d : D} {ds : List D} (h : d = .lst ds ∨ d = .tup ds) (m : Mem) : itemsD d m = .ok ds m := by
  rcases h with rfl | rfl <;> rfl
theorem cutD_len {d : D} {ds : List D} (h : d = .lst ds ∨ d = .tup ds) (m : Mem) : lenS (.d d) m = .ok (.int (ds.length : Int)) m := by
  rcases h with rfl | rfl <;> rfl
theorem enum_iL (l : List Int) : enumL (iL l) = (List.range l.length).map fun i : Nat => .tup [.int (i : Int), .int (l.getD i 0)] := by
  unfold enumL
  rw [List.length_map]
  refine List.map_congr_left fun i hi => ?_
  have := iL_get (l := l) (List.mem_range.mp hi)
  rw [List.getD_eq_getElem?_getD, this]
  rfl
/-! ### half of the items -/
theorem ints_map (l : List Int) (m : Mem) : intsL (iL l) m = .ok l m := by
  induction l with
  | nil => rfl
  | cons a l ih =>
    have e : intsL (iL (a :: l)) m = (intsL (iL l) m).bind fun r => M.pure (a :: r) := rfl
    rw [e, ih]
    rfl
theorem sum_ints (l : List Int) (m : Mem) : sumS (.d (.lst (iL l))) m = .ok (.int l.sum) m := by
  show Out.bind (intsL (iL l) m) (fun is => M.pure (D.int is.sum)) = _
  rw [ints_map]
  rfl
def lens (c : List (List Int)) : List Int := c.map fun l => (l.length : Int)
theorem lens_sum (c : List (List Int)) : (lens c).sum = (c.flatten.length : Int) := by
  induction c with
  | nil => rfl
  | cons l c ih =>
    show (l.length : Int) + (lens c).sum = _
    rw [ih, List.flatten_cons, List.length_append]
    omega
theorem lc_lens {vs : List Nat} {i : Nat} {fi : SD → M (List D)} {sd : SD} {ds : List D} {c : List (List Int)} {m : Mem} (hF : Faces ds c) (hi : fi sd m = .ok ds m) (hl : ds.length ≤ 16777216)
    (hw : ∀ d : D, ∃ sd2, tgN i d (wipeD sd vs) m = .ok sd2 m ∧ getS i sd2 m = .ok (.d d) m) : lcM vs fi (tgN i) yes (u1 lenS (getS i)) sd m = .ok (iL (lens c)) m := by
  have key : ∀ {ds : List D} {c : List (List Int)}, Faces ds c → ds.map (fun d => match d with | .lst xs => D.int (xs.length : Int) | .tup xs => D.int (xs.length : Int) | x => x) = iL (lens c) := by
    intro ds c h
    induction h with
    | nil => rfl
    | cons f _ ih =>
      rw [List.map_cons, ih]
      rcases f with rfl | rfl
      all_goals
        show D.int ((iL _).length : Int) :: _ = D.int (_ : Int) :: _
        rw [List.length_map]
        rfl
  have := lc_map (vs := vs) (gt := tgN i) (ge := u1 lenS (getS i)) (sd := sd) (m := m) (ds := ds) (fun d => match d with | .lst xs => D.int (xs.length : Int) | .tup xs => D.int (xs.length : Int) | x => x) hi (fun d hd => by
    obtain ⟨sd2, h1, h2⟩ := hw d
    obtain ⟨l, _, f⟩ := hF.mem d hd
    refine ⟨sd2, h1, (u1_ok h2).trans ?_⟩
    rcases f with rfl | rfl <;> rfl) hl
  rw [this, key hF]
theorem div2 (n : Nat) (m : Mem) : divD (.int ((2 * n : Nat) : Int)) (.int 2) m = .ok (.int (n : Int)) m := by
  show (if (2 : Int) ≠ 0 ∧ (2 : Int).natAbs < 1073741824 then M.pure (D.int (((2 * n : Nat) : Int).fdiv 2)) else bad : M D) m = _
  rw [if_pos (by decide)]
  have : ((2 * n : Nat) : Int).fdiv 2 = (n : Int) := by
    rw [Int.fdiv_eq_ediv_of_nonneg _ (by omega)]
    omega
  rw [this]
  rfl
/-! ### the pairs of corners -/
def endp (e : Int) : Nat := if 0 < e then (2 * e - 1).toNat else (2 * (-e) - 2).toNat
def fpairs (F : List Int) : List (Nat × Nat) := (List.range F.length).map fun i => (endp (F.getD i 0), endp (-(F.getD ((i + 1) % F.length) 0)))
def QL (c : List (List Int)) : List (Nat × Nat) := c.flatMap fpairs
theorem inn_range : ∀ (t : List Int) (h : Int), inn h t = (List.range t.length).map fun i => ((h :: t).getD i 0, -((h :: t).getD (i + 1) 0))
  | [], h => rfl
  | a :: t, h => by
    show (h, -a) :: inn a t = _
    rw [inn_range t a, List.length_cons, List.range_succ_eq_map, List.map_cons, List.map_map]
    rfl
theorem lst_get : ∀ (t : List Int) (h : Int), lst h t = (h :: t).getD t.length 0
  | [], h => rfl
  | a :: t, h => by
    show lst a t = _
    rw [lst_get t a]
    rfl
theorem cyc_range (F : List Int) : (cyc F).map (fun p => (endp p.1, endp p.2)) = fpairs F := by
  cases F with
  | nil => rfl
  | cons h t =>
    unfold fpairs
    show (inn h t ++ [(lst h t, -h)]).map _ = _
    rw [List.length_cons, List.range_succ, List.map_append, List.map_append, inn_range, List.map_map]
    congr 1
    · refine List.map_congr_left fun i hi => ?_
      have hi' := List.mem_range.mp hi
      have : (i + 1) % (t.length + 1) = i + 1 := Nat.mod_eq_of_lt (by omega)
      rw [this]
      rfl
    · show [(endp (lst h t), endp (-h))] = [(endp ((h :: t).getD t.length 0), endp (-((h :: t).getD ((t.length + 1) % (t.length + 1)) 0)))]
      rw [Nat.mod_self, lst_get]
      rfl
theorem QL_eq (c : List (List Int)) : QL c = (dps c).map fun p => (endp p.1, endp p.2) := by
  unfold QL dps
  induction c with
  | nil => rfl
  | cons F c ih => rw [List.flatMap_cons, List.flatMap_cons, List.map_append, ih, cyc_range]
end Pr
set_option maxRecDepth 100000
namespace Pr
open PySem Mi Pl
theorem small2 : small 2 = true := by decide +kernel
theorem mul2 (x : Int) (m : Mem) : mulD (.int 2) (.int x) m = .ok (.int (2 * x)) m := by
  show (if (small 2 || small x) = true then M.pure (D.int (2 * x)) else bad : M D) m = _
  rw [if_pos (by rw [small2]; rfl)]
  rfl
theorem mod_nat {a n : Nat} (h : n ≠ 0) (m : Mem) : modD (.int ((a : Int) + 1)) (.int (n : Int)) m = .ok (.int (((a + 1) % n : Nat) : Int)) m := by
  show (if (n : Int) ≠ 0 then M.pure (D.int (((a : Int) + 1).fmod (n : Int))) else bad : M D) m = _
  rw [if_pos (by omega), Int.fmod_eq_emod_of_nonneg _ (by omega)]
  rfl
theorem gt0 (e : Int) (m : Mem) : gtD (.int e) (.int 0) m = .ok (.bl (decide (0 < e))) m := rfl
theorem abs_int (e : Int) (m : Mem) : absS (.d (.int e)) m = .ok (.int (if e < 0 then -e else e)) m := rfl
theorem corner_at {k : Nat} {sd : SD} {m : Mem} {e : Int} (h1 : getD k sd m = .ok (.int e) m) (h2 : getS k sd m = .ok (.d (.int e)) m) (he : e ≠ 0) :
    ifV (c2 gtD (getD k) (kD (.int 0))) (u2 subD (u2 mulD (kD (.int 2)) (u1 absS (getS k))) (kD (.int 1))) (u2 subD (u2 mulD (kD (.int 2)) (u1 absS (getS k))) (kD (.int 2))) sd m = .ok (.int (endp e : Nat)) m := by
  have hm : u2 mulD (kD (.int 2)) (u1 absS (getS k)) sd m = .ok (.int (2 * (if e < 0 then -e else e))) m :=
    (u2_ok (f := mulD) (a := .int 2) (b := .int (if e < 0 then -e else e)) (m' := m) (m'' := m) rfl ((u1_ok (f := absS) h2).trans (abs_int e m))).trans (mul2 _ m)
  refine (if_ok (c2_ok (f := gtD) (a := .int e) (b := .int 0) (m' := m) (m'' := m) h1 rfl (gt0 e m))).trans ?_
  unfold endp
  by_cases q : 0 < e
  · rw [if_pos (decide_eq_true q), if_pos q]
    refine (u2_ok (f := subD) (a := .int (2 * (if e < 0 then -e else e))) (b := .int 1) (m' := m) (m'' := m) hm rfl).trans ?_
    refine congrArg (fun z => Out.ok (D.int z) m) ?_
    rw [if_neg (by omega)]
    omega
  · rw [if_neg (fun z => q (of_decide_eq_true z)), if_neg q]
    refine (u2_ok (f := subD) (a := .int (2 * (if e < 0 then -e else e))) (b := .int 2) (m' := m) (m'' := m) hm rfl).trans ?_
    refine congrArg (fun z => Out.ok (D.int z) m) ?_
    rw [if_pos (by omega)]
    omega
theorem corner_neg {k : Nat} {sd : SD} {m : Mem} {e : Int} (h1 : getD k sd m = .ok (.int e) m) (h2 : getS k sd m = .ok (.d (.int e)) m) (he : e ≠ 0) :
    ifV (c2 gtD (getD k) (kD (.int 0))) (u2 subD (u2 mulD (kD (.int 2)) (u1 absS (getS k))) (kD (.int 2))) (u2 subD (u2 mulD (kD (.int 2)) (u1 absS (getS k))) (kD (.int 1))) sd m = .ok (.int (endp (-e) : Nat)) m := by
  have hm : u2 mulD (kD (.int 2)) (u1 absS (getS k)) sd m = .ok (.int (2 * (if e < 0 then -e else e))) m :=
    (u2_ok (f := mulD) (a := .int 2) (b := .int (if e < 0 then -e else e)) (m' := m) (m'' := m) rfl ((u1_ok (f := absS) h2).trans (abs_int e m))).trans (mul2 _ m)
  refine (if_ok (c2_ok (f := gtD) (a := .int e) (b := .int 0) (m' := m) (m'' := m) h1 rfl (gt0 e m))).trans ?_
  unfold endp
  by_cases q : 0 < e
  · rw [if_pos (decide_eq_true q), if_neg (by omega)]
    refine (u2_ok (f := subD) (a := .int (2 * (if e < 0 then -e else e))) (b := .int 2) (m' := m) (m'' := m) hm rfl).trans ?_
    refine congrArg (fun z => Out.ok (D.int z) m) ?_
    rw [if_neg (by omega)]
    omega
  · rw [if_neg (fun z => q (of_decide_eq_true z)), if_pos (by omega)]
    refine (u2_ok (f := subD) (a := .int (2 * (if e < 0 then -e else e))) (b := .int 1) (m' := m) (m'' := m) hm rfl).trans ?_
    refine congrArg (fun z => Out.ok (D.int z) m) ?_
    rw [if_pos (by omega)]
    omega
/-! ### a list that grows at the end of the memory -/
theorem onH_at {α : Type} {f : Nat → List D → M α} {n : Nat} {m : Mem} {ds : List D} (e : m[n]? = some (.lst ds)) : onH f (.h n) m = f n ds m := by
  simp only [onH, e]
theorem at_end (m0 : Mem) (x : MO) : (m0 ++ [x])[m0.length]? = some x := by simp
theorem set_end (m0 : Mem) (x y : MO) : (m0 ++ [x]).set m0.length y = m0 ++ [y] := by
  rw [List.set_append_right _ _ (Nat.le_refl _), Nat.sub_self]
  rfl
theorem app_at (m0 : Mem) (ds : List D) (d : D) (h : ds.length < 16777216) : appS (.h m0.length) d (m0 ++ [MO.lst ds]) = .ok .non (m0 ++ [MO.lst (ds ++ [d])]) := by
  refine (onH_at (at_end m0 (.lst ds))).trans ?_
  rw [if_pos h]
  exact congrArg (Out.ok D.non) (set_end m0 _ _)
theorem isL_at (m0 : Mem) (ds : List D) : isL (.h m0.length) (m0 ++ [MO.lst ds]) = .ok () (m0 ++ [MO.lst ds]) :=
  (onH_at (at_end m0 (.lst ds))).trans rfl
theorem fz_at (m0 : Mem) (ds : List D) : fzS (.h m0.length) (m0 ++ [MO.lst ds]) = .ok (.lst ds) (m0 ++ [MO.fz (.lst ds)]) := by
  show fzH m0.length _ = _
  simp only [fzH, at_end, set_end]
theorem app_ok {ga : SD → M S} {fb : SD → M D} {sd : SD} {m0 : Mem} {ds : List D} {d : D} (h1 : ga sd (m0 ++ [MO.lst ds]) = .ok (.h m0.length) (m0 ++ [MO.lst ds])) (h2 : fb sd (m0 ++ [MO.lst ds]) = .ok d (m0 ++ [MO.lst ds])) (h : ds.length < 16777216) :
    dropV (lm1 appS ga fb) sd (m0 ++ [MO.lst ds]) = .ok (.nx sd) (m0 ++ [MO.lst (ds ++ [d])]) := by
  show Out.bind (Out.bind (ga sd (m0 ++ [MO.lst ds])) _) _ = _
  rw [h1]
  show Out.bind (Out.bind (isL (.h m0.length) (m0 ++ [MO.lst ds])) _) _ = _
  rw [isL_at]
  show Out.bind (Out.bind (fb sd (m0 ++ [MO.lst ds])) _) _ = _
  rw [h2]
  show Out.bind (appS (.h m0.length) d (m0 ++ [MO.lst ds])) _ = _
  rw [app_at m0 ds d h]
  rfl
/-! ### the law's genus -/
def fpair (F : List Int) (i : Nat) : Nat × Nat := (endp (F.getD i 0), endp (-(F.getD ((i + 1) % F.length) 0)))
abbrev genB : SD → M Fl := (seqM (setV 6 (u2 ixS (getS 3) (u2 modD (u2 addD (getD 4) (kD (.int 1))) (u1 lenS (getS 3)))))
    (seqM (setV 7 (ifV (c2 gtD (getD 5) (kD (.int 0))) (u2 subD (u2 mulD (kD (.int 2)) (u1 absS (getS 5))) (kD (.int 1))) (u2 subD (u2 mulD (kD (.int 2)) (u1 absS (getS 5))) (kD (.int 2)))))
    (seqM (setV 8 (ifV (c2 gtD (getD 6) (kD (.int 0))) (u2 subD (u2 mulD (kD (.int 2)) (u1 absS (getS 6))) (kD (.int 2))) (u2 subD (u2 mulD (kD (.int 2)) (u1 absS (getS 6))) (kD (.int 1)))))
    (dropV (lm1 appS (getS 2) (tupV (consV (getD 7) (consV (getD 8) nilV))))))))
theorem getD_mem {F : List Int} {i : Nat} (h : i < F.length) : F.getD i 0 ∈ F := by
  rw [List.getD_eq_getElem?_getD, List.getElem?_eq_getElem h]
  exact List.getElem_mem h
theorem gen_step (fd : D) (F : List Int) (hf : isFace fd F) (hv : ∀ e ∈ F, e ≠ 0) (m0 : Mem) (ds : List D) (hl : ds.length < 16777216) (i : Nat) (hi : i < F.length) (a b y6 y7 y8 : Option S) :
    ∃ z6 z7 z8, genB [a, b, some (.h m0.length), some (.d fd), some (.d (.int (i : Int))), some (.d (.int (F.getD i 0))), y6, y7, y8] (m0 ++ [MO.lst ds])
      = .ok (.nx [a, b, some (.h m0.length), some (.d fd), some (.d (.int (i : Int))), some (.d (.int (F.getD i 0))), z6, z7, z8]) (m0 ++ [MO.lst (ds ++ [pD (fpair F i)])]) := by
  have hj : (i + 1) % F.length < F.length := Nat.mod_lt _ (by omega)
  refine ⟨some (.d (.int (F.getD ((i + 1) % F.length) 0))), some (.d (.int (endp (F.getD i 0) : Nat))), some (.d (.int (endp (-(F.getD ((i + 1) % F.length) 0)) : Nat))), ?_⟩
  generalize hm : m0 ++ [MO.lst ds] = m
  have e1 : (setV 6 (u2 ixS (getS 3) (u2 modD (u2 addD (getD 4) (kD (.int 1))) (u1 lenS (getS 3))))) [a, b, some (.h m0.length), some (.d fd), some (.d (.int (i : Int))), some (.d (.int (F.getD i 0))), y6, y7, y8] m
      = .ok (.nx [a, b, some (.h m0.length), some (.d fd), some (.d (.int (i : Int))), some (.d (.int (F.getD i 0))), some (.d (.int (F.getD ((i + 1) % F.length) 0))), y7, y8]) m := by
    refine set_ok ?_
    refine (u2_ok (f := ixS) (a := .d fd) (b := .int (((i + 1) % F.length : Nat) : Int)) (m' := m) (m'' := m) rfl ?_).trans (face_ix hf hj m)
    exact (u2_ok (f := modD) (a := .int ((i : Int) + 1)) (b := .int (F.length : Int)) (m' := m) (m'' := m) rfl ((u1_ok (f := lenS) (a := .d fd) (m' := m) rfl).trans (face_len hf m))).trans (mod_nat (by omega) m)
  refine (seq_nx e1).trans ?_
  refine (seq_nx (set_ok (corner_at (k := 5) (e := F.getD i 0) rfl rfl (hv _ (getD_mem hi))))).trans ?_
  refine (seq_nx (set_ok (corner_neg (k := 6) (e := F.getD ((i + 1) % F.length) 0) rfl rfl (hv _ (getD_mem hj))))).trans ?_
  subst hm
  exact app_ok (d := pD (fpair F i)) rfl rfl hl
theorem gen_inner (fd : D) (F : List Int) (hf : isFace fd F) (hv : ∀ e ∈ F, e ≠ 0) (m0 : Mem) (a b : Option S) : ∀ (is : List Nat) (ds : List D) (y4 y5 y6 y7 y8 : Option S), (∀ i ∈ is, i < F.length) → ds.length + is.length ≤ 16777216 →
    ∃ z4 z5 z6 z7 z8, forM (tgT 2 (tgC (tgN 4) (tgC (tgN 5) tg0))) genB (is.map fun i : Nat => .tup [.int (i : Int), .int (F.getD i 0)]) [a, b, some (.h m0.length), some (.d fd), y4, y5, y6, y7, y8] (m0 ++ [MO.lst ds])
      = .ok (.nx [a, b, some (.h m0.length), some (.d fd), z4, z5, z6, z7, z8]) (m0 ++ [MO.lst (ds ++ is.map fun i => pD (fpair F i))])
  | [], ds, y4, y5, y6, y7, y8, _, _ => ⟨y4, y5, y6, y7, y8, by
    show _ = Out.ok _ (m0 ++ [MO.lst (ds ++ [])])
    rw [List.append_nil]
    rfl⟩
  | i :: is, ds, y4, y5, y6, y7, y8, hi, hl => by
    rw [List.length_cons] at hl
    obtain ⟨z6, z7, z8, e⟩ := gen_step fd F hf hv m0 ds (by omega) i (hi i List.mem_cons_self) a b y6 y7 y8
    obtain ⟨w4, w5, w6, w7, w8, e2⟩ := gen_inner fd F hf hv m0 a b is (ds ++ [pD (fpair F i)]) (some (.d (.int (i : Int)))) (some (.d (.int (F.getD i 0)))) z6 z7 z8 (fun j hj => hi j (List.mem_cons_of_mem _ hj)) (by rw [List.length_append]; simp; omega)
    refine ⟨w4, w5, w6, w7, w8, ?_⟩
    show (genB [a, b, some (.h m0.length), some (.d fd), some (.d (.int (i : Int))), some (.d (.int (F.getD i 0))), y6, y7, y8] (m0 ++ [MO.lst ds])).bind _ = _
    rw [e]
    refine e2.trans ?_
    rw [List.append_assoc]
    rfl
theorem face_enum {fd : D} {F : List Int} (hf : isFace fd F) {sd : SD} {k : Nat} {m : Mem} (h : getD k sd m = .ok fd m) : enumT (getD k) sd m = .ok ((List.range F.length).map fun i : Nat => .tup [.int (i : Int), .int (F.getD i 0)]) m := by
  rw [← enum_iL]
  show (getD k sd m).bind _ = _
  rw [h]
  rcases hf with rfl | rfl <;> rfl
theorem fpairs_eq (F : List Int) : (List.range F.length).map (fun i => pD (fpair F i)) = (fpairs F).map pD := by
  unfold fpairs fpair
  rw [List.map_map]
  rfl
theorem gen_outer (m0 : Mem) (a b : Option S) : ∀ {fds : List D} {c : List (List Int)}, Faces fds c → (∀ F ∈ c, ∀ e ∈ F, e ≠ 0) → ∀ (ds : List D) (y3 y4 y5 y6 y7 y8 : Option S), ds.length + c.flatten.length ≤ 16777216 →
    ∃ z3 z4 z5 z6 z7 z8, forM (tgN 3) (forV (enumT (getD 3)) (tgT 2 (tgC (tgN 4) (tgC (tgN 5) tg0))) genB) fds [a, b, some (.h m0.length), y3, y4, y5, y6, y7, y8] (m0 ++ [MO.lst ds])
      = .ok (.nx [a, b, some (.h m0.length), z3, z4, z5, z6, z7, z8]) (m0 ++ [MO.lst (ds ++ (QL c).map pD)]) := by
  intro fds c hF
  induction hF with
  | nil =>
    intro _ ds y3 y4 y5 y6 y7 y8 _
    refine ⟨y3, y4, y5, y6, y7, y8, ?_⟩
    show _ = Out.ok _ (m0 ++ [MO.lst (ds ++ [])])
    rw [List.append_nil]
    rfl
  | @cons fd F fds c hf hF ih =>
    intro hv ds y3 y4 y5 y6 y7 y8 hl
    rw [List.flatten_cons, List.length_append] at hl
    obtain ⟨z4, z5, z6, z7, z8, e⟩ := gen_inner fd F hf (hv F List.mem_cons_self) m0 a b (List.range F.length) ds y4 y5 y6 y7 y8 (fun i hi => List.mem_range.mp hi) (by rw [List.length_range]; omega)
    rw [fpairs_eq] at e
    obtain ⟨w3, w4, w5, w6, w7, w8, e2⟩ := ih (fun G hG => hv G (List.mem_cons_of_mem _ hG)) (ds ++ (fpairs F).map pD) (some (.d fd)) z4 z5 z6 z7 z8 (by
      rw [List.length_append, List.length_map]
      unfold fpairs
      rw [List.length_map, List.length_range]
      omega)
    refine ⟨w3, w4, w5, w6, w7, w8, ?_⟩
    show (forV (enumT (getD 3)) (tgT 2 (tgC (tgN 4) (tgC (tgN 5) tg0))) genB [a, b, some (.h m0.length), some (.d fd), y4, y5, y6, y7, y8] (m0 ++ [MO.lst ds])).bind _ = _
    rw [for_ok (face_enum hf (k := 3) rfl), e]
    refine e2.trans ?_
    unfold QL
    rw [List.flatMap_cons, List.map_append, List.append_assoc]
theorem endp_lt {e : Int} {n : Nat} (h0 : e ≠ 0) (h1 : -(n : Int) ≤ e) (h2 : e ≤ n) : endp e < 2 * n := by
  unfold endp
  split <;> omega
theorem QL_lt {c : List (List Int)} {n : Nat} (h0 : ∀ F ∈ c, ∀ e ∈ F, e ≠ 0) (h1 : ∀ F ∈ c, ∀ e ∈ F, -(n : Int) ≤ e ∧ e ≤ n) : ∀ p ∈ QL c, p.1 < 2 * n ∧ p.2 < 2 * n := by
  intro p hp
  obtain ⟨F, hF, q⟩ := List.mem_flatMap.mp hp
  obtain ⟨i, hi, rfl⟩ := List.mem_map.mp q
  have hi' := List.mem_range.mp hi
  have hj : (i + 1) % F.length < F.length := Nat.mod_lt _ (by omega)
  have a1 := h0 F hF _ (getD_mem hi')
  have a2 := h1 F hF _ (getD_mem hi')
  have b1 := h0 F hF _ (getD_mem hj)
  have b2 := h1 F hF _ (getD_mem hj)
  exact ⟨endp_lt a1 a2.1 a2.2, endp_lt (by omega) (by omega) (by omega)⟩
/-- the number the law works out -/
def lawG (c : List (List Int)) (n : Nat) : Int := (2 - ((reps ((QL c).foldl stepL (List.range (2 * n)))).length : Int) + n - c.length).fdiv 2
theorem div2i (x : Int) (m : Mem) : divD (.int x) (.int 2) m = .ok (.int (x.fdiv 2)) m := by
  show (if (2 : Int) ≠ 0 ∧ (2 : Int).natAbs < 1073741824 then M.pure (D.int (x.fdiv 2)) else bad : M D) m = _
  rw [if_pos (by decide)]
  rfl
theorem law_genus {d : D} {c : List (List Int)} (hd : isCutD d c) {n : Nat} (hn : c.flatten.length = 2 * n) (hN : n ≤ 1000000) (hc : c.length ≤ 1000000) (h0 : ∀ F ∈ c, ∀ e ∈ F, e ≠ 0) (h1 : ∀ F ∈ c, ∀ e ∈ F, -(n : Int) ≤ e ∧ e ≤ n) (m : Mem) :
    F__law_genus_of [.d d] m = .ok (.int (lawG c n)) m := by
  obtain ⟨fds, hF, hdd⟩ := hd
  have hlen := hF.length
  obtain ⟨z3, z4, z5, z6, z7, z8, e⟩ := gen_outer m (some (.d d)) (some (.d (.int (n : Int)))) hF h0 [] none none none none none none (by rw [List.length_nil]; omega)
  rw [List.nil_append] at e
  have e1 : (parV 1 2 (ofD (u2 divD (u1 sumS (ofD (ofL (lcM [3] (seqI (getD 0)) (tgN 3) yes (u1 lenS (getS 3)))))) (kD (.int 2)))) (newV (lstV nilV))) [some (.d d), none, none, none, none, none, none, none, none] m
      = .ok (.nx [some (.d d), some (.d (.int (n : Int))), some (.h m.length), none, none, none, none, none, none]) (m ++ [MO.lst []]) := by
    have a1 : lcM [3] (seqI (getD 0)) (tgN 3) yes (u1 lenS (getS 3)) [some (.d d), none, none, none, none, none, none, none, none] m = .ok (iL (lens c)) m :=
      lc_lens hF (cutD_items hdd m) (by omega) (fun d => ⟨_, rfl, rfl⟩)
    have a2 : u2 divD (u1 sumS (ofD (ofL (lcM [3] (seqI (getD 0)) (tgN 3) yes (u1 lenS (getS 3)))))) (kD (.int 2)) [some (.d d), none, none, none, none, none, none, none, none] m = .ok (.int (n : Int)) m := by
      refine (u2_ok (f := divD) (a := .int ((2 * n : Nat) : Int)) (b := .int 2) (m' := m) (m'' := m) ?_ rfl).trans (div2 n m)
      rw [u1_ok (ofD_ok (ofL_ok a1)), sum_ints, lens_sum, hn]
    show Out.bind (ofD (u2 divD _ _) _ m) _ = _
    rw [ofD_ok a2]
    rfl
  have e3 : G__law_genus_of [some (.d d), none, none, none, none, none, none, none, none] m = .ok (.rt (.int (lawG c n))) (m ++ [MO.fz (.lst ((QL c).map pD))]) := by
    unfold G__law_genus_of
    refine (seq_nx e1).trans ?_
    have e2 : (forV (seqI (getD 0)) (tgN 3) (forV (enumT (getD 3)) (tgT 2 (tgC (tgN 4) (tgC (tgN 5) tg0))) genB)) [some (.d d), some (.d (.int (n : Int))), some (.h m.length), none, none, none, none, none, none] (m ++ [MO.lst []])
        = .ok (.nx [some (.d d), some (.d (.int (n : Int))), some (.h m.length), z3, z4, z5, z6, z7, z8]) (m ++ [MO.lst ((QL c).map pD)]) :=
      (for_ok (cutD_items hdd _)).trans e
    refine (seq_nx e2).trans (ret_ok ?_)
    have h2n : u2 mulD (kD (.int 2)) (getD 1) [some (.d d), some (.d (.int (n : Int))), some (.h m.length), z3, z4, z5, z6, z7, z8] (m ++ [MO.lst ((QL c).map pD)]) = .ok (.int ((2 * n : Nat) : Int)) (m ++ [MO.lst ((QL c).map pD)]) :=
      (u2_ok (f := mulD) (a := .int 2) (b := .int (n : Int)) (m' := m ++ [MO.lst ((QL c).map pD)]) (m'' := m ++ [MO.lst ((QL c).map pD)]) rfl rfl).trans (mul2 _ _)
    have hk : callM 2 F__law_lot_of (consV (getS 2) (consV (ofD (u2 mulD (kD (.int 2)) (getD 1))) nilV)) [some (.d d), some (.d (.int (n : Int))), some (.h m.length), z3, z4, z5, z6, z7, z8] (m ++ [MO.lst ((QL c).map pD)])
        = .ok (.int ((reps ((QL c).foldl stepL (List.range (2 * n)))).length : Int)) (m ++ [MO.fz (.lst ((QL c).map pD))]) := by
      refine (call2_ok (s1 := .h m.length) (s2 := .d (.int ((2 * n : Nat) : Int))) (m' := m ++ [MO.lst ((QL c).map pD)]) (m'' := m ++ [MO.lst ((QL c).map pD)]) rfl (ofD_ok h2n)).trans ?_
      refine lot_of (2 * n) (by omega) (QL c) (QL_lt h0 h1) (.h m.length) _ _ (fz_at _ _) ?_
      rw [List.length_append]
      exact List.take_of_length_le (by simp)
    generalize m ++ [MO.fz (.lst ((QL c).map pD))] = m2 at hk
    have s1 := (u2_ok (f := subD) (fa := kD (.int 2)) (a := .int 2) (m' := m ++ [MO.lst ((QL c).map pD)]) rfl hk).trans (show _ = Out.ok (D.int (2 - ((reps ((QL c).foldl stepL (List.range (2 * n)))).length : Int))) m2 from rfl)
    have s2 := (u2_ok (f := addD) (fb := getD 1) (b := .int (n : Int)) (m'' := m2) s1 rfl).trans (show _ = Out.ok (D.int (2 - ((reps ((QL c).foldl stepL (List.range (2 * n)))).length : Int) + n)) m2 from rfl)
    have s3 := (u2_ok (f := subD) (fb := u1 lenS (getS 0)) (b := .int (fds.length : Int)) (m'' := m2) s2 ((u1_ok (f := lenS) (a := .d d) (m' := m2) rfl).trans (cutD_len hdd m2))).trans (show _ = Out.ok (D.int (2 - ((reps ((QL c).foldl stepL (List.range (2 * n)))).length : Int) + n - fds.length)) m2 from rfl)
    refine (u2_ok (f := divD) (fb := kD (.int 2)) (b := .int 2) (m'' := m2) s3 rfl).trans ?_
    rw [div2i]
    unfold lawG
    rw [hlen]
  have := fn_rt (n := 9) (g := G__law_genus_of) (args := [.d d]) (m := m) e3
  rw [take_app] at this
  exact this
end Pr
set_option maxRecDepth 100000
namespace Pr
open PySem Mi Pl
open L2 (Key)
theorem tup2_ok {g1 g2 : SD → M D} {sd : SD} {a b : D} {m m' m'' : Mem} (h1 : g1 sd m = .ok a m') (h2 : g2 sd m' = .ok b m'') : tupV (consV g1 (consV g2 nilV)) sd m = .ok (.tup [a, b]) m'' := by
  show ((g1 sd m).bind _).bind _ = _
  rw [h1]
  show (((g2 sd m').bind _).bind _).bind _ = _
  rw [h2]
  rfl
theorem asg_ok {g1 : SD → M D} {t : D → SD → M SD} {sd sd' : SD} {a : D} {m m' m'' : Mem} (h1 : g1 sd m = .ok a m') (h2 : t a sd m' = .ok sd' m'') : asgV g1 t sd m = .ok (.nx sd') m'' := by
  show (g1 sd m).bind _ = _
  rw [h1]
  show (t a sd m').bind _ = _
  rw [h2]
  rfl
theorem tgDP_ok {ga : SD → M S} {fb : SD → M D} {d i : D} {s : S} {sd : SD} {m m' : Mem} (h1 : ga sd m = .ok s m) (h2 : fb sd m = .ok i m) (h3 : dputS s i d m = .ok () m') : tgDP ga fb d sd m = .ok sd m' := by
  show (ga sd m).bind _ = _
  rw [h1]
  show (fb sd m).bind _ = _
  rw [h2]
  show (dputS s i d m).bind _ = _
  rw [h3]
  rfl
theorem tg2_ok {t1 t2 : D → SD → M SD} {a b : D} {sd sd' sd'' : SD} {m m' m'' : Mem} (h1 : t1 a sd m = .ok sd' m') (h2 : t2 b sd' m' = .ok sd'' m'') : tgT 2 (tgC t1 (tgC t2 tg0)) (.tup [a, b]) sd m = .ok sd'' m'' := by
  show (t1 a sd m).bind _ = _
  rw [h1]
  show (t2 b sd' m').bind _ = _
  rw [h2]
  rfl
theorem dget_ok {ga : SD → M S} {fb : SD → M D} {d i : D} {s : S} {sd : SD} {m : Mem} (h1 : ga sd m = .ok s m) (h2 : fb sd m = .ok i m) (h3 : dgetS s i m = .ok d m) : dgetV ga fb sd m = .ok d m := by
  show (ga sd m).bind _ = _
  rw [h1]
  show (fb sd m).bind _ = _
  rw [h2]
  exact h3
/-! ### dicts -/
theorem val_put (kvs : List (Key × D)) (k : Key) (d : D) (k' : Key) : valA (putA kvs k d) k' = if k' = k then some d else valA kvs k' := by
  unfold putA
  by_cases q : (kvs.any fun kv => decide (kv.1 = k)) = true
  · rw [if_pos q]
    induction kvs with
    | nil => simp at q
    | cons p kvs ih =>
      obtain ⟨a, x⟩ := p
      rw [List.any_cons] at q
      by_cases q1 : a = k
      · by_cases q2 : k' = k
        · subst q2; subst q1
          simp [valA]
        · rw [if_neg q2]
          have h1 : a ≠ k' := fun z => q2 (z ▸ q1)
          have h2 : k ≠ k' := fun z => q2 z.symm
          subst q1
          by_cases q3 : (kvs.any fun kv => decide (kv.1 = a)) = true
          · have := ih q3
            rw [if_neg q2] at this
            simp only [valA, List.map_cons, if_true, List.find?_cons, decide_eq_false h1] at this ⊢
            exact this
          · have e : kvs.map (fun kv => if kv.1 = a then (kv.1, d) else kv) = kvs := by
              have : ∀ kv ∈ kvs, (if kv.1 = a then (kv.1, d) else kv) = kv := fun kv hkv => by
                rw [if_neg]
                intro z
                exact q3 (List.any_eq_true.mpr ⟨kv, hkv, decide_eq_true z⟩)
              rw [List.map_congr_left this]
              simp
            simp only [valA, List.map_cons, if_true, List.find?_cons, decide_eq_false h1, e]
      · have q3 : (kvs.any fun kv => decide (kv.1 = k)) = true := by simpa [q1] using q
        have := ih q3
        by_cases q4 : a = k'
        · have h5 : k' ≠ k := fun z => q1 (q4.trans z)
          rw [if_neg h5]
          simp [valA, q1, q4, h5]
        · simp only [valA, List.map_cons, if_neg q1, List.find?_cons, decide_eq_false q4] at this ⊢
          exact this
  · rw [if_neg q]
    by_cases q2 : k' = k
    · subst q2
      have : kvs.find? (fun kv => decide (kv.1 = k')) = none := by
        rw [List.find?_eq_none]
        intro kv hkv z
        exact q (List.any_eq_true.mpr ⟨kv, hkv, z⟩)
      simp [valA, List.find?_append, this]
    · have : k ≠ k' := fun z => q2 z.symm
      simp [valA, List.find?_append, q2, this]
theorem len_put (kvs : List (Key × D)) (k : Key) (d : D) : (putA kvs k d).length ≤ kvs.length + 1 := by
  unfold putA
  split <;> simp
theorem val_merge (g : Int → D) : ∀ (es : List Int) (kvs : List (Key × D)) (e : Int), valA (mergeA kvs (es.map fun e => (.inl e, g e))) (.inl e) = if e ∈ es then some (g e) else valA kvs (.inl e)
  | [], kvs, e => rfl
  | a :: es, kvs, e => by
    show valA (mergeA (putA kvs (.inl a) (g a)) (es.map fun e => (.inl e, g e))) (.inl e) = _
    rw [val_merge g es, val_put]
    by_cases q : e ∈ es
    · rw [if_pos q, if_pos (List.mem_cons_of_mem _ q)]
    · rw [if_neg q]
      by_cases q2 : e = a
      · subst q2
        rw [if_pos rfl, if_pos List.mem_cons_self]
      · rw [if_neg (fun z => q2 (by cases z; rfl)), if_neg (fun z => (List.mem_cons.mp z).elim q2 q)]
theorem len_merge : ∀ (more kvs : List (Key × D)), (mergeA kvs more).length ≤ kvs.length + more.length
  | [], kvs => Nat.le_refl _
  | a :: more, kvs => by
    have := len_merge more (putA kvs a.1 a.2)
    have h2 := len_put kvs a.1 a.2
    show (mergeA (putA kvs a.1 a.2) more).length ≤ _
    rw [List.length_cons]
    omega
theorem pairs_map (g : Int → D) (es : List Int) : pairsL (es.map fun e => .tup [.int e, g e]) = some (es.map fun e => (.inl e, g e)) := by
  induction es with
  | nil => rfl
  | cons a es ih =>
    rw [List.map_cons, List.map_cons]
    simp only [pairsL, keyD, ih]
theorem dict_ok {ds : List D} {kvs : List (Key × D)} (h : pairsL ds = some kvs) (m : Mem) : dictS (.d (.lst ds)) m = .ok (mergeA [] kvs) m := by
  show (match pairsL ds with | some kvs => M.pure (mergeA [] kvs) | none => bad : M (List (Key × D))) m = _
  rw [h]
  rfl
theorem dput_at {m : Mem} {n : Nat} {kvs : List (Key × D)} (e : m[n]? = some (.dk kvs)) (hl : kvs.length < 16777216) (i : Int) (d : D) : dputS (.h n) (.int i) d m = .ok () (m.set n (.dk (putA kvs (.inl i) d))) := by
  simp only [dputS, keyD, e, if_pos hl]
theorem dget_at {m : Mem} {n : Nat} {kvs : List (Key × D)} {i : Int} {d : D} (e : m[n]? = some (.dk kvs)) (hv : valA kvs (.inl i) = some d) : dgetS (.h n) (.int i) m = .ok d m := by
  simp only [dgetS, keyD, e, hv]
theorem dget_dk {kvs : List (Key × D)} {i : Int} {d : D} (hv : valA kvs (.inl i) = some d) (m : Mem) : dgetS (.d (.dk kvs)) (.int i) m = .ok d m := by
  simp only [dgetS, keyD, hv]
  rfl
def es (n : Nat) : List Int := (List.range n).map fun k : Nat => 1 + (k : Int)
theorem mem_es {n : Nat} {e : Int} : e ∈ es n ↔ 1 ≤ e ∧ e ≤ n := by
  unfold es
  rw [List.mem_map]
  constructor
  · rintro ⟨k, hk, rfl⟩
    have := List.mem_range.mp hk
    omega
  · intro h
    exact ⟨(e - 1).toNat, List.mem_range.mpr (by omega), by omega⟩
theorem es_len (n : Nat) : (es n).length = n := by simp [es]
theorem rngL_es (n : Nat) : rngL 1 ((n : Int) + 1) = iL (es n) := by
  unfold rngL es iL
  rw [List.map_map, show ((n : Int) + 1 - 1).toNat = n by omega]
  rfl
theorem rng_es {fa : SD → M D} {sd : SD} {n : Nat} {m : Mem} (hn : n ≤ 900000) (h : fa sd m = .ok (.int (n : Int)) m) : u2 rng2 (kD (.int 1)) (u2 addD fa (kD (.int 1))) sd m = .ok (iL (es n)) m := by
  refine (u2_ok (f := rng2) (a := .int 1) (b := .int ((n : Int) + 1)) (m' := m) (m'' := m) rfl ((u2_ok (f := addD) (b := .int 1) (m'' := m) h rfl).trans rfl)).trans ?_
  rw [rng2_ok (inR_of (by decide) (by decide)) (inR_of (by omega) (by omega)), rngL_es]
/-! ### the program's corners -/
abbrev kv0 (n : Nat) (c : Int) : List (Key × D) := mergeA [] ((es n).map fun e => (.inl e, .int (2 * e - c)))
theorem kv0_len (n : Nat) (c : Int) : (kv0 n c).length ≤ n := by
  have := len_merge ((es n).map fun e => ((.inl e, .int (2 * e - c)) : Key × D)) []
  rw [List.length_map, es_len, List.length_nil, Nat.zero_add] at this
  exact this
theorem newdk_ok {i : Nat} {sd : SD} {n : Nat} {c : Int} {m : Mem} (hn : n ≤ 900000) (h : getD 1 sd m = .ok (.int (n : Int)) m) (hc : ∀ d : D, ∃ sd2, tgN 4 d (wipeD sd [4]) m = .ok sd2 m ∧ getD 4 sd2 m = .ok d m) :
    setX i (newDk (u1 dictS (ofD (ofL (lcM [4] (u2 rng2 (kD (.int 1)) (u2 addD (getD 1) (kD (.int 1)))) (tgN 4) yes (tupV (consV (getD 4) (consV (u2 subD (u2 mulD (kD (.int 2)) (getD 4)) (kD (.int c))) nilV)))))))) sd m
      = .ok (.nx (sd.set i (some (.h m.length)))) (m ++ [MO.dk (kv0 n c)]) := by
  have e1 : lcM [4] (u2 rng2 (kD (.int 1)) (u2 addD (getD 1) (kD (.int 1)))) (tgN 4) yes (tupV (consV (getD 4) (consV (u2 subD (u2 mulD (kD (.int 2)) (getD 4)) (kD (.int c))) nilV))) sd m
      = .ok ((es n).map fun e => .tup [.int e, .int (2 * e - c)]) m := by
    have := lc_map (vs := [4]) (gt := tgN 4) (ge := tupV (consV (getD 4) (consV (u2 subD (u2 mulD (kD (.int 2)) (getD 4)) (kD (.int c))) nilV))) (sd := sd) (m := m) (ds := iL (es n))
      (fun d => match d with | .int e => .tup [.int e, .int (2 * e - c)] | x => x) (rng_es hn h) (fun d hd => by
        obtain ⟨e, _, rfl⟩ := List.mem_map.mp hd
        obtain ⟨sd2, h1, h2⟩ := hc (.int e)
        refine ⟨sd2, h1, ?_⟩
        have a1 : u2 mulD (kD (.int 2)) (getD 4) sd2 m = .ok (.int (2 * e)) m := (u2_ok (f := mulD) (a := .int 2) (b := .int e) (m' := m) (m'' := m) rfl h2).trans (mul2 e m)
        have a2 : u2 subD (u2 mulD (kD (.int 2)) (getD 4)) (kD (.int c)) sd2 m = .ok (.int (2 * e - c)) m := (u2_ok (f := subD) (b := .int c) (m'' := m) a1 rfl).trans rfl
        exact tup2_ok h2 a2) (by rw [List.length_map, es_len]; omega)
    rw [this, List.map_map]
    rfl
  show (((u1 dictS _ sd m).bind _).bind _) = _
  rw [u1_ok (ofD_ok (ofL_ok e1)), dict_ok (pairs_map (fun e => .int (2 * e - c)) (es n))]
  rfl
abbrev edgB : SD → M Fl := (asgV (tupV (consV (u2 subD (u2 mulD (kD (.int 2)) (getD 4)) (kD (.int 2))) (consV (u2 subD (u2 mulD (kD (.int 2)) (getD 4)) (kD (.int 1))) nilV))) (tgT 2 (tgC (tgDP (getS 3) (u2 subD (kD (.int 0)) (getD 4))) (tgC (tgDP (getS 5) (u2 subD (kD (.int 0)) (getD 4))) tg0))))
theorem at_end2 (m : Mem) (x y : MO) : (m ++ [x, y])[m.length + 1]? = some y := by simp
theorem at_end1 (m : Mem) (x y : MO) : (m ++ [x, y])[m.length]? = some x := by simp
theorem set_end1 (m : Mem) (x y z : MO) : (m ++ [x, y]).set m.length z = m ++ [z, y] := by
  rw [List.set_append_right _ _ (Nat.le_refl _), Nat.sub_self]
  rfl
theorem set_end2 (m : Mem) (x y z : MO) : (m ++ [x, y]).set (m.length + 1) z = m ++ [x, z] := by
  rw [List.set_append_right _ _ (by omega), show m.length + 1 - m.length = 1 by omega]
  rfl
theorem edg_step (m : Mem) (A B : List (Key × D)) (e : Int) (hA : A.length < 16777216) (hB : B.length < 16777216) (a b c y6 y7 y8 y9 y10 : Option S) :
    edgB [a, b, c, some (.h m.length), some (.d (.int e)), some (.h (m.length + 1)), y6, y7, y8, y9, y10] (m ++ [MO.dk A, MO.dk B])
      = .ok (.nx [a, b, c, some (.h m.length), some (.d (.int e)), some (.h (m.length + 1)), y6, y7, y8, y9, y10]) (m ++ [MO.dk (putA A (.inl (0 - e)) (.int (2 * e - 2))), MO.dk (putA B (.inl (0 - e)) (.int (2 * e - 1)))]) := by
  have a1 : ∀ c' : Int, u2 subD (u2 mulD (kD (.int 2)) (getD 4)) (kD (.int c')) [a, b, c, some (.h m.length), some (.d (.int e)), some (.h (m.length + 1)), y6, y7, y8, y9, y10] (m ++ [MO.dk A, MO.dk B]) = .ok (.int (2 * e - c')) (m ++ [MO.dk A, MO.dk B]) := fun c' =>
    (u2_ok (f := subD) (b := .int c') (m'' := m ++ [MO.dk A, MO.dk B]) ((u2_ok (f := mulD) (a := .int 2) (b := .int e) (m' := m ++ [MO.dk A, MO.dk B]) (m'' := m ++ [MO.dk A, MO.dk B]) rfl rfl).trans (mul2 e _)) rfl).trans rfl
  refine asg_ok (tup2_ok (a1 2) (a1 1)) (tg2_ok (tgDP_ok (i := .int (0 - e)) rfl rfl ((dput_at (at_end1 m _ _) hA _ _).trans ?_)) (tgDP_ok (i := .int (0 - e)) rfl rfl ((dput_at (at_end2 m (.dk (putA A (.inl (0 - e)) (.int (2 * e - 2)))) _) hB _ _).trans ?_)))
  · rw [set_end1]
  · rw [set_end2]
theorem edg_loop (m : Mem) (a b c y6 y7 y8 y9 y10 : Option S) : ∀ (l : List Int) (A B : List (Key × D)) (y4 : Option S), A.length + l.length < 16777216 → B.length + l.length < 16777216 →
    ∃ A' B' z4, forM (tgN 4) edgB (iL l) [a, b, c, some (.h m.length), y4, some (.h (m.length + 1)), y6, y7, y8, y9, y10] (m ++ [MO.dk A, MO.dk B])
      = .ok (.nx [a, b, c, some (.h m.length), z4, some (.h (m.length + 1)), y6, y7, y8, y9, y10]) (m ++ [MO.dk A', MO.dk B'])
      ∧ (∀ e : Int, valA A' (.inl e) = if -e ∈ l then some (.int (2 * -e - 2)) else valA A (.inl e)) ∧ (∀ e : Int, valA B' (.inl e) = if -e ∈ l then some (.int (2 * -e - 1)) else valA B (.inl e))
  | [], A, B, y4, _, _ => ⟨A, B, y4, rfl, fun _ => rfl, fun _ => rfl⟩
  | x :: l, A, B, y4, hA, hB => by
    rw [List.length_cons] at hA hB
    have p1 := len_put A (.inl (0 - x)) (.int (2 * x - 2))
    have p2 := len_put B (.inl (0 - x)) (.int (2 * x - 1))
    obtain ⟨A', B', z4, h1, h2, h3⟩ := edg_loop m a b c y6 y7 y8 y9 y10 l (putA A (.inl (0 - x)) (.int (2 * x - 2))) (putA B (.inl (0 - x)) (.int (2 * x - 1))) (some (.d (.int x))) (by omega) (by omega)
    refine ⟨A', B', z4, ?_, fun e => ?_, fun e => ?_⟩
    · show (edgB [a, b, c, some (.h m.length), some (.d (.int x)), some (.h (m.length + 1)), y6, y7, y8, y9, y10] (m ++ [MO.dk A, MO.dk B])).bind _ = _
      rw [edg_step m A B x (by omega) (by omega)]
      exact h1
    · rw [h2, val_put]
      by_cases q : -e ∈ l
      · rw [if_pos q, if_pos (List.mem_cons_of_mem _ q)]
      · rw [if_neg q]
        by_cases q2 : -e = x
        · rw [if_pos (by rw [← q2]; simp), if_pos (by rw [q2]; exact List.mem_cons_self), ← q2]
        · rw [if_neg (fun z => q2 (by have := Sum.inl.inj z; omega)), if_neg (fun z => (List.mem_cons.mp z).elim q2 q)]
    · rw [h3, val_put]
      by_cases q : -e ∈ l
      · rw [if_pos q, if_pos (List.mem_cons_of_mem _ q)]
      · rw [if_neg q]
        by_cases q2 : -e = x
        · rw [if_pos (by rw [← q2]; simp), if_pos (by rw [q2]; exact List.mem_cons_self), ← q2]
        · rw [if_neg (fun z => q2 (by have := Sum.inl.inj z; omega)), if_neg (fun z => (List.mem_cons.mp z).elim q2 q)]
abbrev corB : SD → M Fl := (dropV (lm1 appS (getS 6) (tupV (consV (dgetV (getS 3) (getD 4)) (consV (dgetV (getS 5) (u2 ixS (getS 2) (u2 modD (u2 addD (getD 7) (kD (.int 1))) (u1 lenS (getS 2))))) nilV)))))
theorem cor_step (fd : D) (F : List Int) (hf : isFace fd F) (m : Mem) (A B : List (Key × D)) (ds : List D) (hl : ds.length < 16777216) (hA : ∀ e ∈ F, valA A (.inl e) = some (.int (endp e : Nat))) (hB : ∀ e ∈ F, valA B (.inl e) = some (.int (endp (-e) : Nat))) (i : Nat) (hi : i < F.length) (a b y8 y9 y10 : Option S) :
    corB [a, b, some (.d fd), some (.h m.length), some (.d (.int (F.getD i 0))), some (.h (m.length + 1)), some (.h (m ++ [MO.dk A, MO.dk B]).length), some (.d (.int (i : Int))), y8, y9, y10] ((m ++ [MO.dk A, MO.dk B]) ++ [MO.lst ds])
      = .ok (.nx [a, b, some (.d fd), some (.h m.length), some (.d (.int (F.getD i 0))), some (.h (m.length + 1)), some (.h (m ++ [MO.dk A, MO.dk B]).length), some (.d (.int (i : Int))), y8, y9, y10]) ((m ++ [MO.dk A, MO.dk B]) ++ [MO.lst (ds ++ [pD (fpair F i)])]) := by
  have hj : (i + 1) % F.length < F.length := Nat.mod_lt _ (by omega)
  have g1 : ((m ++ [MO.dk A, MO.dk B]) ++ [MO.lst ds])[m.length]? = some (.dk A) := by simp
  have g2 : ((m ++ [MO.dk A, MO.dk B]) ++ [MO.lst ds])[m.length + 1]? = some (.dk B) := by simp
  refine app_ok (d := pD (fpair F i)) rfl ?_ hl
  generalize (m ++ [MO.dk A, MO.dk B]) ++ [MO.lst ds] = m2 at g1 g2
  generalize (m ++ [MO.dk A, MO.dk B]).length = k
  have e1 : u2 ixS (getS 2) (u2 modD (u2 addD (getD 7) (kD (.int 1))) (u1 lenS (getS 2))) [a, b, some (.d fd), some (.h m.length), some (.d (.int (F.getD i 0))), some (.h (m.length + 1)), some (.h k), some (.d (.int (i : Int))), y8, y9, y10] m2 = .ok (.int (F.getD ((i + 1) % F.length) 0)) m2 := by
    refine (u2_ok (f := ixS) (a := .d fd) (b := .int (((i + 1) % F.length : Nat) : Int)) (m' := m2) (m'' := m2) rfl ?_).trans (face_ix hf hj m2)
    exact (u2_ok (f := modD) (a := .int ((i : Int) + 1)) (b := .int (F.length : Int)) (m' := m2) (m'' := m2) rfl ((u1_ok (f := lenS) (a := .d fd) (m' := m2) rfl).trans (face_len hf m2))).trans (mod_nat (by omega) m2)
  exact tup2_ok (dget_ok (i := .int (F.getD i 0)) rfl rfl (dget_at g1 (hA _ (getD_mem hi)))) (dget_ok rfl e1 (dget_at g2 (hB _ (getD_mem hj))))
theorem cor_inner (fd : D) (F : List Int) (hf : isFace fd F) (m : Mem) (A B : List (Key × D)) (hA : ∀ e ∈ F, valA A (.inl e) = some (.int (endp e : Nat))) (hB : ∀ e ∈ F, valA B (.inl e) = some (.int (endp (-e) : Nat))) (a b y8 y9 y10 : Option S) : ∀ (is : List Nat) (ds : List D) (y4 y7 : Option S), (∀ i ∈ is, i < F.length) → ds.length + is.length ≤ 16777216 →
    ∃ z4 z7, forM (tgT 2 (tgC (tgN 7) (tgC (tgN 4) tg0))) corB (is.map fun i : Nat => .tup [.int (i : Int), .int (F.getD i 0)]) [a, b, some (.d fd), some (.h m.length), y4, some (.h (m.length + 1)), some (.h (m ++ [MO.dk A, MO.dk B]).length), y7, y8, y9, y10] ((m ++ [MO.dk A, MO.dk B]) ++ [MO.lst ds])
      = .ok (.nx [a, b, some (.d fd), some (.h m.length), z4, some (.h (m.length + 1)), some (.h (m ++ [MO.dk A, MO.dk B]).length), z7, y8, y9, y10]) ((m ++ [MO.dk A, MO.dk B]) ++ [MO.lst (ds ++ is.map fun i => pD (fpair F i))])
  | [], ds, y4, y7, _, _ => ⟨y4, y7, by
    show _ = Out.ok _ ((m ++ [MO.dk A, MO.dk B]) ++ [MO.lst (ds ++ [])])
    rw [List.append_nil]
    rfl⟩
  | i :: is, ds, y4, y7, hi, hl => by
    rw [List.length_cons] at hl
    have e := cor_step fd F hf m A B ds (by omega) hA hB i (hi i List.mem_cons_self) a b y8 y9 y10
    obtain ⟨w4, w7, e2⟩ := cor_inner fd F hf m A B hA hB a b y8 y9 y10 is (ds ++ [pD (fpair F i)]) (some (.d (.int (F.getD i 0)))) (some (.d (.int (i : Int)))) (fun j hj => hi j (List.mem_cons_of_mem _ hj)) (by rw [List.length_append, List.length_singleton]; omega)
    refine ⟨w4, w7, ?_⟩
    show (corB [a, b, some (.d fd), some (.h m.length), some (.d (.int (F.getD i 0))), some (.h (m.length + 1)), some (.h (m ++ [MO.dk A, MO.dk B]).length), some (.d (.int (i : Int))), y8, y9, y10] ((m ++ [MO.dk A, MO.dk B]) ++ [MO.lst ds])).bind _ = _
    rw [e]
    refine e2.trans ?_
    rw [List.append_assoc ds]
    rfl
theorem cor_outer (m : Mem) (A B : List (Key × D)) (a b y8 y9 y10 : Option S) : ∀ {fds : List D} {c : List (List Int)}, Faces fds c → (∀ F ∈ c, ∀ e ∈ F, valA A (.inl e) = some (.int (endp e : Nat))) → (∀ F ∈ c, ∀ e ∈ F, valA B (.inl e) = some (.int (endp (-e) : Nat))) → ∀ (ds : List D) (y2 y4 y7 : Option S), ds.length + c.flatten.length ≤ 16777216 →
    ∃ z2 z4 z7, forM (tgN 2) (forV (enumT (getD 2)) (tgT 2 (tgC (tgN 7) (tgC (tgN 4) tg0))) corB) fds [a, b, y2, some (.h m.length), y4, some (.h (m.length + 1)), some (.h (m ++ [MO.dk A, MO.dk B]).length), y7, y8, y9, y10] ((m ++ [MO.dk A, MO.dk B]) ++ [MO.lst ds])
      = .ok (.nx [a, b, z2, some (.h m.length), z4, some (.h (m.length + 1)), some (.h (m ++ [MO.dk A, MO.dk B]).length), z7, y8, y9, y10]) ((m ++ [MO.dk A, MO.dk B]) ++ [MO.lst (ds ++ (QL c).map pD)]) := by
  intro fds c hF
  induction hF with
  | nil =>
    intro _ _ ds y2 y4 y7 _
    refine ⟨y2, y4, y7, ?_⟩
    show _ = Out.ok _ ((m ++ [MO.dk A, MO.dk B]) ++ [MO.lst (ds ++ [])])
    rw [List.append_nil]
    rfl
  | @cons fd F fds c hf hF ih =>
    intro hA hB ds y2 y4 y7 hl
    rw [List.flatten_cons, List.length_append] at hl
    obtain ⟨z4, z7, e⟩ := cor_inner fd F hf m A B (hA F List.mem_cons_self) (hB F List.mem_cons_self) a b y8 y9 y10 (List.range F.length) ds y4 y7 (fun i hi => List.mem_range.mp hi) (by rw [List.length_range]; omega)
    rw [fpairs_eq] at e
    obtain ⟨w2, w4, w7, e2⟩ := ih (fun G hG => hA G (List.mem_cons_of_mem _ hG)) (fun G hG => hB G (List.mem_cons_of_mem _ hG)) (ds ++ (fpairs F).map pD) (some (.d fd)) z4 z7 (by
      rw [List.length_append, List.length_map]
      unfold fpairs
      rw [List.length_map, List.length_range]
      omega)
    refine ⟨w2, w4, w7, ?_⟩
    show (forV (enumT (getD 2)) (tgT 2 (tgC (tgN 7) (tgC (tgN 4) tg0))) corB [a, b, some (.d fd), some (.h m.length), y4, some (.h (m.length + 1)), some (.h (m ++ [MO.dk A, MO.dk B]).length), y7, y8, y9, y10] ((m ++ [MO.dk A, MO.dk B]) ++ [MO.lst ds])).bind _ = _
    rw [for_ok (face_enum hf (k := 2) rfl), e]
    refine e2.trans ?_
    unfold QL
    rw [List.flatMap_cons, List.map_append, List.append_assoc ds]
theorem half_ok {vs : List Nat} {i : Nat} {sd : SD} {d : D} {fds : List D} {c : List (List Int)} {n : Nat} {m : Mem} (hF : Faces fds c) (hdd : d = .lst fds ∨ d = .tup fds) (h0 : getD 0 sd m = .ok d m) (hn : c.flatten.length = 2 * n) (hc : c.length ≤ 1000000)
    (hw : ∀ d : D, ∃ sd2, tgN i d (wipeD sd vs) m = .ok sd2 m ∧ getS i sd2 m = .ok (.d d) m) :
    u2 divD (u1 sumS (ofD (ofL (lcM vs (seqI (getD 0)) (tgN i) yes (u1 lenS (getS i)))))) (kD (.int 2)) sd m = .ok (.int (n : Int)) m := by
  have hi : seqI (getD 0) sd m = .ok fds m := by
    show (getD 0 sd m).bind _ = _
    rw [h0]
    exact cutD_items hdd m
  have a1 := lc_lens (vs := vs) (i := i) hF hi (by rw [hF.length]; omega) hw
  refine (u2_ok (f := divD) (a := .int ((2 * n : Nat) : Int)) (b := .int 2) (m' := m) (m'' := m) ?_ rfl).trans (div2 n m)
  rw [u1_ok (ofD_ok (ofL_ok a1)), sum_ints, lens_sum, hn]
theorem corners {d : D} {c : List (List Int)} (hd : isCutD d c) {n : Nat} (hn : c.flatten.length = 2 * n) (hN : n ≤ 900000) (hc : c.length ≤ 1000000) (h0 : ∀ F ∈ c, ∀ e ∈ F, e ≠ 0) (h1 : ∀ F ∈ c, ∀ e ∈ F, -(n : Int) ≤ e ∧ e ≤ n) (m : Mem) :
    F_corners_of [.d d] m = .ok (.int ((reps ((QL c).foldl stepP (List.range (2 * n)))).length : Int)) m := by
  obtain ⟨fds, hF, hdd⟩ := hd
  have hlen := hF.length
  obtain ⟨A, B, z4, eE, hA, hB⟩ := edg_loop m (some (.d d)) (some (.d (.int (n : Int)))) none none none none none none (es n) (kv0 n 1) (kv0 n 2) none (by have := kv0_len n 1; rw [es_len]; omega) (by have := kv0_len n 2; rw [es_len]; omega)
  have hA2 : ∀ F ∈ c, ∀ e ∈ F, valA A (.inl e) = some (.int (endp e : Nat)) := fun F hF e he => by
    have a0 := h0 F hF e he
    have a1 := h1 F hF e he
    rw [hA, val_merge (fun e => .int (2 * e - 1))]
    unfold endp
    by_cases q : 0 < e
    · rw [if_neg (fun z => by have := mem_es.mp z; omega), if_pos (mem_es.mpr (by omega)), if_pos q]
      congr 2
      omega
    · rw [if_pos (mem_es.mpr (by omega)), if_neg q]
      congr 2
      omega
  have hB2 : ∀ F ∈ c, ∀ e ∈ F, valA B (.inl e) = some (.int (endp (-e) : Nat)) := fun F hF e he => by
    have a0 := h0 F hF e he
    have a1 := h1 F hF e he
    rw [hB, val_merge (fun e => .int (2 * e - 2))]
    unfold endp
    by_cases q : 0 < e
    · rw [if_neg (fun z => by have := mem_es.mp z; omega), if_pos (mem_es.mpr (by omega)), if_neg (by omega)]
      congr 2
      omega
    · rw [if_pos (mem_es.mpr (by omega)), if_pos (by omega)]
      congr 2
      omega
  obtain ⟨z2, w4, z7, eC⟩ := cor_outer m A B (some (.d d)) (some (.d (.int (n : Int)))) none none none hF hA2 hB2 [] none z4 none (by rw [List.length_nil]; omega)
  rw [List.nil_append] at eC
  have e3 : ∃ m2, m2.take m.length = m ∧ G_corners_of [some (.d d), none, none, none, none, none, none, none, none, none, none] m = .ok (.rt (.int ((reps ((QL c).foldl stepP (List.range (2 * n)))).length : Int))) m2 := by
    refine ⟨(m ++ [MO.dk A, MO.dk B]) ++ [MO.fz (.lst ((QL c).map pD))], by rw [List.append_assoc]; exact take_app m _, ?_⟩
    unfold G_corners_of
    refine (seq_nx (set_ok (half_ok (vs := [2]) (i := 2) hF hdd rfl hn hc (fun d => ⟨_, rfl, rfl⟩)))).trans ?_
    refine (seq_nx (newdk_ok (n := n) (c := 1) (by omega) rfl (fun d => ⟨_, rfl, rfl⟩))).trans ?_
    refine (seq_nx (newdk_ok (n := n) (c := 2) (by omega) rfl (fun d => ⟨_, rfl, rfl⟩))).trans ?_
    rw [List.length_append, List.length_singleton, List.append_assoc]
    refine (seq_nx ((for_ok (rng_es (n := n) (by omega) rfl)).trans eE)).trans ?_
    have eN : setX 6 (newV (lstV nilV)) [some (.d d), some (.d (.int (n : Int))), none, some (.h m.length), z4, some (.h (m.length + 1)), none, none, none, none, none] (m ++ [MO.dk A, MO.dk B]) = .ok (.nx [some (.d d), some (.d (.int (n : Int))), none, some (.h m.length), z4, some (.h (m.length + 1)), some (.h (m ++ [MO.dk A, MO.dk B]).length), none, none, none, none]) ((m ++ [MO.dk A, MO.dk B]) ++ [MO.lst []]) := rfl
    refine (seq_nx eN).trans ?_
    refine (seq_nx ((for_ok (cutD_items hdd _)).trans eC)).trans ?_
    generalize m ++ [MO.dk A, MO.dk B] = m3
    have h2n : u2 mulD (kD (.int 2)) (getD 1) [some (.d d), some (.d (.int (n : Int))), z2, some (.h m.length), w4, some (.h (m.length + 1)), some (.h m3.length), z7, none, none, none] (m3 ++ [MO.lst ((QL c).map pD)]) = .ok (.int ((2 * n : Nat) : Int)) (m3 ++ [MO.lst ((QL c).map pD)]) :=
      (u2_ok (f := mulD) (a := .int 2) (b := .int (n : Int)) (m' := m3 ++ [MO.lst ((QL c).map pD)]) (m'' := m3 ++ [MO.lst ((QL c).map pD)]) rfl rfl).trans (mul2 _ _)
    have hk : callM 2 F_put_in_lots (consV (ofD (u2 mulD (kD (.int 2)) (getD 1))) (consV (getS 6) nilV)) [some (.d d), some (.d (.int (n : Int))), z2, some (.h m.length), w4, some (.h (m.length + 1)), some (.h m3.length), z7, none, none, none] (m3 ++ [MO.lst ((QL c).map pD)])
        = .ok (.tup (nL ((QL c).foldl stepP (List.range (2 * n))))) (m3 ++ [MO.fz (.lst ((QL c).map pD))]) := by
      refine (call2_ok (s1 := .d (.int ((2 * n : Nat) : Int))) (s2 := .h m3.length) (m' := m3 ++ [MO.lst ((QL c).map pD)]) (m'' := m3 ++ [MO.lst ((QL c).map pD)]) (ofD_ok h2n) rfl).trans ?_
      refine put_lots (2 * n) (by omega) (QL c) (QL_lt h0 h1) (.h m3.length) _ _ (fz_at _ _) ?_
      rw [List.length_append]
      exact List.take_of_length_le (by simp)
    refine (seq_nx (set_ok hk)).trans ?_
    generalize m3 ++ [MO.fz (.lst ((QL c).map pD))] = m2
    have hL := labP (QL c) (ps := []) (l := List.range (2 * n)) (by simp) (lab_range _) (least_range _) (QL_lt h0 h1)
    generalize (QL c).foldl stepP (List.range (2 * n)) = L at hL
    have hll : L.length = 2 * n := hL.1
    refine ret_ok ?_
    have := lc_spec (vs := [9, 10]) (fi := enumT (getD 8)) (gt := tgT 2 (tgC (tgN 9) (tgC (tgN 10) tg0))) (gc := c2 eqD (getD 9) (getD 10)) (ge := getD 9)
      (sd := [some (.d d), some (.d (.int (n : Int))), z2, some (.h m.length), w4, some (.h (m.length + 1)), some (.h m3.length), z7, some (.d (.tup (nL L))), none, none]) (m := m2) (ds := enumL (nL L))
      (fun d => match d with | .tup [.int i, .int j] => decide (i = j) | _ => false) (fun d => match d with | .tup (x :: _) => x | x => x) rfl (fun d hd => by
        rw [enum_nL] at hd
        obtain ⟨i, hi, rfl⟩ := List.mem_map.mp hd
        exact ⟨_, rfl, c2_ok (f := eqD) (a := .int (i : Int)) (b := .int ((L.getD i 0 : Nat) : Int)) (m' := m2) (m'' := m2) rfl rfl (eqD_int _ _ _), fun _ => rfl⟩) (by rw [enum_nL, List.length_map, List.length_range]; omega)
    refine (u1_ok (ofD_ok (ofL_ok this))).trans ?_
    show Out.ok (D.int _) m2 = Out.ok (D.int _) m2
    refine congrArg (fun z : Nat => Out.ok (D.int (z : Int)) m2) ?_
    rw [List.length_map, enum_nL, List.filter_map, List.length_map, reps_least hL.2.2]
    refine congrArg List.length (List.filter_congr fun i _ => ?_)
    show decide ((i : Int) = ((L.getD i 0 : Nat) : Int)) = decide (L.getD i 0 = i)
    by_cases q : L.getD i 0 = i
    · rw [decide_eq_true q, decide_eq_true (by omega)]
    · rw [decide_eq_false q, decide_eq_false (by omega)]
  obtain ⟨m2, ht, e3⟩ := e3
  have := fn_rt (n := 11) (g := G_corners_of) (args := [.d d]) (m := m) e3
  rw [ht] at this
  exact this
end Pr
set_option maxRecDepth 100000
namespace Pr
open PySem Mi Pl
open L2 (Key)
/-! ### lists of ints are compared -/
theorem toP_ints (l : List Int) : toP (.lst (iL l)) = .list (l.map PyData.int) := by
  have : ∀ l : List Int, toP (.lst (iL l)) = .list (l.map PyData.int) := by
    intro l
    have key : ∀ l : List Int, toPL (iL l) = l.map PyData.int := by
      intro l
      induction l with
      | nil => rfl
      | cons a l ih =>
        show PyData.int a :: toPL (iL l) = _
        rw [ih]
        rfl
    show PyData.list (toPL (iL l)) = _
    rw [key]
  exact this l
theorem eqvAll_ints : ∀ a b : List Int, PyData.eqvAll (a.map PyData.int) (b.map PyData.int) = decide (a = b)
  | [], [] => rfl
  | [], b :: bs => rfl
  | a :: as, [] => rfl
  | a :: as, b :: bs => by
    show (PyData.eqv (.int a) (.int b) && PyData.eqvAll (as.map PyData.int) (bs.map PyData.int)) = _
    rw [eqvAll_ints as bs]
    have : PyData.eqv (.int a) (.int b) = decide (a = b) := by
      simp only [PyData.eqv]
      by_cases h : a = b <;> simp [h]
    rw [this]
    by_cases h1 : a = b <;> by_cases h2 : as = bs <;> simp [h1, h2]
theorem eqv_ints (a b : List Int) : eqv (.lst (iL a)) (.lst (iL b)) = decide (a = b) := by
  show PyData.eqv (toP (.lst (iL a))) (toP (.lst (iL b))) = _
  rw [toP_ints, toP_ints]
  exact eqvAll_ints a b
theorem eqD_ints (a b : List Int) (m : Mem) : eqD (.lst (iL a)) (.lst (iL b)) m = .ok (.bl (decide (a = b))) m := by
  unfold eqD
  rw [plain_ints, plain_ints, eqv_ints]
  rfl
theorem neD_ints (a b : List Int) (m : Mem) : neD (.lst (iL a)) (.lst (iL b)) m = .ok (.bl (!decide (a = b))) m := by
  unfold neD
  rw [plain_ints, plain_ints, eqv_ints]
  rfl
theorem neD_int (a b : Int) (m : Mem) : neD (.int a) (.int b) m = .ok (.bl (!decide (a = b))) m := by
  have : eqv (.int a) (.int b) = decide (a = b) := by
    show PyData.eqv (.int a) (.int b) = _
    simp only [PyData.eqv]
    by_cases h : a = b <;> simp [h]
  show (if (plain (.int a) && plain (.int b)) = true then M.pure (.bl (!eqv (.int a) (.int b))) else bad : M D) m = _
  have hp : (plain (.int a) && plain (.int b)) = true := rfl
  rw [if_pos hp, this]
  rfl
/-! ### values that are looked at -/
inductive Atom : D → Prop where
  | non : Atom .non
  | bl (b : Bool) : Atom (.bl b)
  | int (i : Int) : Atom (.int i)
  | str (x : Str) (h : (PyData.str x).canLay0 = true) : Atom (.str x)
def isI : D → Bool
  | .int _ => true
  | _ => false
def isRow (d : D) (xs : List D) : Prop := d = .lst xs ∨ d = .tup xs
inductive Rows : List D → List (List D) → Prop where
  | nil : Rows [] []
  | cons {d : D} {xs : List D} {ds : List D} {xss : List (List D)} : isRow d xs → Rows ds xss → Rows (d :: ds) (xs :: xss)
inductive Scal : D → Prop where
  | non : Scal .non
  | bl (b : Bool) : Scal (.bl b)
  | int (i : Int) : Scal (.int i)
  | str (x : Str) : Scal (.str x)
  | dk (kvs : List (Key × D)) : Scal (.dk kvs)
structure GoodR (d : D) (ds : List D) (xss : List (List D)) : Prop where
  row : isRow d ds
  rows : Rows ds xss
  atoms : ∀ xs ∈ xss, ∀ x ∈ xs, Atom x
  small : xss.flatten.length ≤ 1000
  few : xss.length ≤ 1000
def Good (d : D) : Prop := Scal d ∨ ∃ ds xss, GoodR d ds xss
theorem Rows.length {ds : List D} {xss : List (List D)} (h : Rows ds xss) : ds.length = xss.length := by
  induction h with
  | nil => rfl
  | cons _ _ ih => simp [ih]
theorem row_items {d : D} {xs : List D} (h : isRow d xs) (m : Mem) : itemsD d m = .ok xs m := by
  rcases h with rfl | rfl <;> rfl
theorem row_len {d : D} {xs : List D} (h : isRow d xs) (m : Mem) : lenS (.d d) m = .ok (.int (xs.length : Int)) m := by
  rcases h with rfl | rfl <;> rfl
theorem is_number {d : D} (h : Atom d) (m : Mem) : F_is_number [.d d] m = .ok (.bl (isI d)) m := by
  have e : G_is_number [some (.d d)] m = .ok (.rt (.bl (isI d))) m := by cases h <;> rfl
  have := fn_rt (n := 1) (g := G_is_number) (args := [.d d]) (m := m) e
  rw [take_self] at this
  exact this
theorem is_list_row {d : D} {xs : List D} (h : isRow d xs) (m : Mem) : F_is_list [.d d] m = .ok (.bl true) m := by
  have e : G_is_list [some (.d d)] m = .ok (.rt (.bl true)) m := by rcases h with rfl | rfl <;> rfl
  have := fn_rt (n := 1) (g := G_is_list) (args := [.d d]) (m := m) e
  rw [take_self] at this
  exact this
theorem is_list_scal {d : D} (h : Scal d) (m : Mem) : F_is_list [.d d] m = .ok (.bl false) m := by
  have e : G_is_list [some (.d d)] m = .ok (.rt (.bl false)) m := by cases h <;> rfl
  have := fn_rt (n := 1) (g := G_is_list) (args := [.d d]) (m := m) e
  rw [take_self] at this
  exact this
theorem notB_ok {g : SD → M Bool} {sd : SD} {b : Bool} {m m' : Mem} (h : g sd m = .ok b m') : notB g sd m = .ok (!b) m' := by
  show (g sd m).bind _ = _
  rw [h]
  rfl
theorem tst_ok {g : SD → M D} {sd : SD} {b : Bool} {m m' : Mem} (h : g sd m = .ok (.bl b) m') : tst g sd m = .ok b m' := by
  show (g sd m).bind _ = _
  rw [h]
  rfl
theorem orB_ok {g g2 : SD → M Bool} {sd : SD} {a b : Bool} {m : Mem} (h : g sd m = .ok a m) (h2 : a = false → g2 sd m = .ok b m) : orB g g2 sd m = .ok (a || b) m := by
  show (g sd m).bind _ = _
  rw [h]
  cases a with
  | true => rfl
  | false => exact h2 rfl
theorem andB_ok {g g2 : SD → M Bool} {sd : SD} {a b : Bool} {m : Mem} (h : g sd m = .ok a m) (h2 : a = true → g2 sd m = .ok b m) : andB g g2 sd m = .ok (a && b) m := by
  show (g sd m).bind _ = _
  rw [h]
  cases a with
  | false => rfl
  | true => exact h2 rfl
theorem andV_ok {g g2 : SD → M D} {sd : SD} {a b : Bool} {m : Mem} (h : g sd m = .ok (.bl a) m) (h2 : a = true → g2 sd m = .ok (.bl b) m) : andV g g2 sd m = .ok (.bl (a && b)) m := by
  show (g sd m).bind _ = _
  rw [h]
  cases a with
  | false => rfl
  | true => exact h2 rfl
theorem allS_bools {α : Type} (l : List α) (f : α → Bool) (m : Mem) : allS (.d (.lst (l.map fun x => .bl (f x)))) m = .ok (.bl (l.all f)) m := by
  have key : ∀ l : List α, boolsL (l.map fun x => .bl (f x)) m = .ok (l.map f) m := by
    intro l
    induction l with
    | nil => rfl
    | cons a l ih =>
      show Out.bind (boolsL (l.map fun x => .bl (f x)) m) (fun is => M.pure (f a :: is)) = _
      rw [ih]
      rfl
  show Out.bind (boolsL (l.map fun x => .bl (f x)) m) (fun is => M.pure (D.bl (is.all _root_.id))) = _
  rw [key]
  show Out.ok (D.bl ((l.map f).all _root_.id)) m = _
  rw [List.all_map]
  rfl
/-- a face of numbers -/
def okRow (xs : List D) : Bool := !decide (xs.length = 0) && xs.all isI
abbrev isB : SD → M Fl := (ifV (orB (notB (tst (callM 1 F_is_list (consV (getS 1) nilV)))) (orB (c2 eqD (u1 lenS (getS 1)) (kD (.int 0))) (notB (tst (u1 allS (ofD (ofL (lcM [2] (seqI (getD 1)) (tgN 2) yes (callM 1 F_is_number (consV (getS 2) nilV)))))))))) (retV (kD (.bl false))) nxV)
theorem is_step {d : D} {xs : List D} (h : isRow d xs) (ha : ∀ x ∈ xs, Atom x) (hl : xs.length ≤ 1000) (a y2 : Option S) (m : Mem) :
    isB [a, some (.d d), y2] m = .ok (if okRow xs = true then .nx [a, some (.d d), y2] else .rt (.bl false)) m := by
  have h1 : notB (tst (callM 1 F_is_list (consV (getS 1) nilV))) [a, some (.d d), y2] m = .ok false m :=
    notB_ok (b := true) (tst_ok ((call1_ok (s := .d d) (m' := m) rfl).trans (is_list_row h m)))
  have h2 : c2 eqD (u1 lenS (getS 1)) (kD (.int 0)) [a, some (.d d), y2] m = .ok (decide ((xs.length : Int) = 0)) m :=
    c2_ok (f := eqD) (a := .int (xs.length : Int)) (b := .int 0) (m' := m) (m'' := m) ((u1_ok (f := lenS) (a := .d d) (m' := m) rfl).trans (row_len h m)) rfl (eqD_int _ _ m)
  have h3 : lcM [2] (seqI (getD 1)) (tgN 2) yes (callM 1 F_is_number (consV (getS 2) nilV)) [a, some (.d d), y2] m = .ok (xs.map fun x => .bl (isI x)) m :=
    lc_map (vs := [2]) (fi := seqI (getD 1)) (gt := tgN 2) (ge := callM 1 F_is_number (consV (getS 2) nilV)) (ds := xs) (fun x => .bl (isI x)) (row_items h m) (fun x hx => ⟨_, rfl, (call1_ok (s := .d x) (m' := m) rfl).trans (is_number (ha x hx) m)⟩) (by omega)
  have h4 : notB (tst (u1 allS (ofD (ofL (lcM [2] (seqI (getD 1)) (tgN 2) yes (callM 1 F_is_number (consV (getS 2) nilV))))))) [a, some (.d d), y2] m = .ok (!xs.all isI) m :=
    notB_ok (tst_ok ((u1_ok (f := allS) (ofD_ok (ofL_ok h3))).trans (allS_bools xs isI m)))
  refine (if_ok (orB_ok h1 (fun _ => orB_ok h2 fun _ => h4))).trans ?_
  have e : (false || (decide ((xs.length : Int) = 0) || !xs.all isI)) = !okRow xs := by
    unfold okRow
    by_cases q : xs.length = 0
    · rw [decide_eq_true q, decide_eq_true (show (xs.length : Int) = 0 by omega)]
      rfl
    · rw [decide_eq_false q, decide_eq_false (show ¬ (xs.length : Int) = 0 by omega)]
      cases xs.all isI <;> rfl
  rw [e]
  cases okRow xs <;> rfl
theorem is_loop (a y2 : Option S) (m : Mem) : ∀ {ds : List D} {xss : List (List D)}, Rows ds xss → (∀ xs ∈ xss, ∀ x ∈ xs, Atom x) → xss.flatten.length ≤ 1000 → ∀ y1 : Option S,
    ∃ z1, forM (tgN 1) isB ds [a, y1, y2] m = .ok (if xss.all okRow = true then .nx [a, z1, y2] else .rt (.bl false)) m := by
  intro ds xss h
  induction h with
  | nil => exact fun _ _ y1 => ⟨y1, rfl⟩
  | @cons d xs ds xss h1 h2 ih =>
    intro ha hl y1
    rw [List.flatten_cons, List.length_append] at hl
    obtain ⟨z1, e⟩ := ih (fun ys hys => ha ys (List.mem_cons_of_mem _ hys)) (by omega) (some (.d d))
    refine ⟨z1, ?_⟩
    show (isB [a, some (.d d), y2] m).bind _ = _
    rw [is_step h1 (ha xs List.mem_cons_self) (by omega)]
    rw [List.all_cons]
    cases okRow xs with
    | false => rfl
    | true => exact e
end Pr
set_option maxRecDepth 100000
namespace Pr
open PySem Mi Pl
open L2 (Key)
theorem rows_faces {ds : List D} {xss : List (List D)} (h : Rows ds xss) (ok : xss.all okRow = true) : ∃ c, Faces ds c ∧ xss = c.map (fun l => iL l) ∧ ∀ F ∈ c, F ≠ [] := by
  induction h with
  | nil => exact ⟨[], .nil, rfl, by simp⟩
  | @cons d xs ds xss h1 h2 ih =>
    rw [List.all_cons, Bool.and_eq_true] at ok
    obtain ⟨c, hc, e, hn⟩ := ih ok.2
    have o1 := ok.1
    unfold okRow at o1
    rw [Bool.and_eq_true] at o1
    have key : ∀ xs : List D, xs.all isI = true → ∃ l : List Int, xs = iL l := by
      intro xs
      induction xs with
      | nil => exact fun _ => ⟨[], rfl⟩
      | cons x xs ih =>
        intro q
        rw [List.all_cons, Bool.and_eq_true] at q
        obtain ⟨l, rfl⟩ := ih q.2
        cases x with
        | int i => exact ⟨i :: l, rfl⟩
        | _ => exact absurd q.1 (by simp [isI])
    obtain ⟨l, rfl⟩ := key xs o1.2
    refine ⟨l :: c, .cons h1 hc, by rw [e]; rfl, fun F hF => ?_⟩
    rcases List.mem_cons.mp hF with z | z
    · subst z
      intro z
      subst z
      simp at o1
    · exact hn F z
def tgt (n : Nat) : List Int := ((List.range (2 * n + 1)).map fun k : Nat => 0 - (n : Int) + k).filter fun e => !decide (e = 0)
theorem mem_tgt {n : Nat} {e : Int} : e ∈ tgt n ↔ e ≠ 0 ∧ -(n : Int) ≤ e ∧ e ≤ n := by
  unfold tgt
  rw [List.mem_filter, List.mem_map]
  constructor
  · rintro ⟨⟨k, hk, rfl⟩, h2⟩
    have := List.mem_range.mp hk
    have h3 : ¬ (0 - (n : Int) + k = 0) := by simpa using h2
    omega
  · intro h
    refine ⟨⟨(e + n).toNat, List.mem_range.mpr (by omega), by omega⟩, by simpa using h.1⟩
theorem nodup_tgt (n : Nat) : (tgt n).Nodup := by
  unfold tgt
  rw [List.nodup_iff_pairwise_ne]
  refine List.Pairwise.filter _ ?_
  rw [List.pairwise_map]
  have := List.nodup_range (n := 2 * n + 1)
  rw [List.nodup_iff_pairwise_ne] at this
  exact this.imp (fun h z => h (by omega))
theorem len_tgt : ∀ n, n < 31 → (tgt n).length = 2 * n := by decide +kernel
theorem sort_perm {l t : List Int} (h : sortI l = t) : l.Perm t := by
  rw [← h]
  exact (List.mergeSort_perm l _).symm
/-- the numbers are the numbers 1..n and their negatives -/
structure Nums (c : List (List Int)) (n : Nat) : Prop where
  perm : c.flatten.Perm (tgt n)
  small : n ≤ 30
theorem Nums.nd {c : List (List Int)} {n : Nat} (h : Nums c n) : c.flatten.Nodup := h.perm.nodup_iff.mpr (nodup_tgt n)
theorem Nums.mem {c : List (List Int)} {n : Nat} (h : Nums c n) {e : Int} : e ∈ c.flatten ↔ e ≠ 0 ∧ -(n : Int) ≤ e ∧ e ≤ n := h.perm.mem_iff.trans mem_tgt
theorem Nums.len {c : List (List Int)} {n : Nat} (h : Nums c n) : c.flatten.length = 2 * n := by
  rw [h.perm.length_eq]
  exact len_tgt n (by have := h.small; omega)
theorem Nums.neg {c : List (List Int)} {n : Nat} (h : Nums c n) {e : Int} (he : e ∈ c.flatten) : -e ∈ c.flatten := by
  have := h.mem.mp he
  exact h.mem.mpr ⟨by omega, by omega, by omega⟩
def numsOk (c : List (List Int)) : Bool := decide (c.flatten.length / 2 ≤ 30) && decide (sortI c.flatten = tgt (c.flatten.length / 2))
theorem numsOk_iff {c : List (List Int)} : numsOk c = true ↔ ∃ n, Nums c n := by
  unfold numsOk
  rw [Bool.and_eq_true, decide_eq_true_eq, decide_eq_true_eq]
  constructor
  · rintro ⟨h1, h2⟩
    exact ⟨_, sort_perm h2, h1⟩
  · rintro ⟨n, h⟩
    have hl := h.len
    rw [hl, show 2 * n / 2 = n by omega]
    refine ⟨h.small, ?_⟩
    have hs : (tgt n).Pairwise (· ≤ ·) := by
      unfold tgt
      refine List.Pairwise.filter _ ?_
      rw [List.pairwise_map]
      exact (List.pairwise_lt_range (n := 2 * n + 1)).imp (fun h => by omega)
    exact (sortI_eq h.perm.symm hs).symm
theorem items_flat {ds : List D} {c : List (List Int)} (h : Faces ds c) : (ds.flatMap fun d => (match d with | .lst xs => xs | .tup xs => xs | _ => [] : List D)) = iL c.flatten := by
  induction h with
  | nil => rfl
  | cons f _ ih =>
    rw [List.flatMap_cons, ih, List.flatten_cons]
    unfold iL
    rw [List.map_append]
    rcases f with rfl | rfl <;> rfl
theorem half_nat (k : Nat) (m : Mem) : divD (.int (k : Int)) (.int 2) m = .ok (.int ((k / 2 : Nat) : Int)) m := by
  show (if (2 : Int) ≠ 0 ∧ (2 : Int).natAbs < 1073741824 then M.pure (D.int ((k : Int).fdiv 2)) else bad : M D) m = _
  rw [if_pos (by decide)]
  have : (k : Int).fdiv 2 = ((k / 2 : Nat) : Int) := by
    rw [Int.fdiv_eq_ediv_of_nonneg _ (by omega)]
    omega
  rw [this]
  rfl
theorem lst_len (l : List Int) (m : Mem) : lenS (.d (.lst (iL l))) m = .ok (.int (l.length : Int)) m := by
  show Out.ok (D.int ((iL l).length : Int)) m = _
  rw [List.length_map]
theorem sorted_ints (l : List Int) (m : Mem) : sortedS (.d (.lst (iL l))) m = .ok (iL (sortI l)) m := by
  show Out.bind (intsL (iL l) m) (fun is => M.pure ((sortI is).map D.int)) = _
  rw [ints_map]
  rfl
theorem numbers_pair {d : D} {ds : List D} {c : List (List Int)} (hF : Faces ds c) (hdd : d = .lst ds ∨ d = .tup ds) (hl : c.flatten.length ≤ 1000) (m : Mem) : F_numbers_pair [.d d] m = .ok (.bl (numsOk c)) m := by
  have e : G_numbers_pair [some (.d d), none, none, none, none] m = .ok (.rt (.bl (numsOk c))) m := by
    have a1 : lcM2 [2, 3] [3] (seqI (getD 0)) (tgN 2) yes (seqI (getD 2)) (tgN 3) yes (getD 3) [some (.d d), none, none, none, none] m = .ok (iL c.flatten) m := by
      have := lc2_map (vs := [2, 3]) (vs1 := [3]) (fi := seqI (getD 0)) (gt := tgN 2) (fi1 := seqI (getD 2)) (gt1 := tgN 3) (ge := getD 3) (sd := [some (.d d), none, none, none, none]) (m := m) (ds := ds)
        (fun d => (match d with | .lst xs => xs | .tup xs => xs | _ => [] : List D)) (fun _ e => e) (cutD_items hdd m) (fun d hd => by
          obtain ⟨l, _, f⟩ := hF.mem d hd
          refine ⟨[_, none, some (.d d), none, none], rfl, ?_, fun e _ => ⟨_, rfl, rfl⟩⟩
          rcases f with rfl | rfl <;> rfl) (by rw [items_flat hF, List.length_map]; omega)
      rw [this, ← items_flat hF]
      refine congrArg (fun z => Out.ok z m) ?_
      refine congrArg (fun f => ds.flatMap f) (funext fun d => ?_)
      exact List.map_id _
    unfold G_numbers_pair
    refine (seq_nx (setL_ok a1)).trans ?_
    refine (seq_nx (set_ok ((u2_ok (f := divD) (b := .int 2) (m'' := m) ((u1_ok (f := lenS) (a := .d (.lst (iL c.flatten))) (m' := m) rfl).trans (lst_len _ m)) rfl).trans (half_nat _ m)))).trans ?_
    refine ret_ok ?_
    refine andV_ok (a := decide (c.flatten.length / 2 ≤ 30)) (b := decide (sortI c.flatten = tgt (c.flatten.length / 2))) ?_ (fun h => ?_)
    · refine (u2_ok (f := leD) (a := .int ((c.flatten.length / 2 : Nat) : Int)) (b := .int 30) (m' := m) (m'' := m) rfl rfl).trans ?_
      show Out.ok (D.bl (decide (((c.flatten.length / 2 : Nat) : Int) ≤ 30))) m = _
      refine congrArg (fun z => Out.ok (D.bl z) m) ?_
      by_cases q : c.flatten.length / 2 ≤ 30
      · rw [decide_eq_true q, decide_eq_true (by omega)]
      · rw [decide_eq_false q, decide_eq_false (by omega)]
    · have h30 := of_decide_eq_true h
      generalize c.flatten.length / 2 = n at h30
      have r1 : u2 rng2 (u2 subD (kD (.int 0)) (getD 4)) (u2 addD (getD 4) (kD (.int 1))) [some (.d d), some (.d (.lst (iL c.flatten))), none, none, some (.d (.int (n : Int)))] m = .ok (rngL (0 - (n : Int)) ((n : Int) + 1)) m :=
        (u2_ok (f := rng2) (a := .int (0 - (n : Int))) (b := .int ((n : Int) + 1)) (m' := m) (m'' := m) rfl rfl).trans (rng2_ok (inR_of (by omega) (by omega)) (inR_of (by omega) (by omega)))
      have r2 : lcM [3] (u2 rng2 (u2 subD (kD (.int 0)) (getD 4)) (u2 addD (getD 4) (kD (.int 1)))) (tgN 3) (c2 neD (getD 3) (kD (.int 0))) (getD 3) [some (.d d), some (.d (.lst (iL c.flatten))), none, none, some (.d (.int (n : Int)))] m = .ok (iL (tgt n)) m := by
        have := lc_spec (vs := [3]) (gt := tgN 3) (gc := c2 neD (getD 3) (kD (.int 0))) (ge := getD 3) (sd := [some (.d d), some (.d (.lst (iL c.flatten))), none, none, some (.d (.int (n : Int)))]) (m := m) (ds := rngL (0 - (n : Int)) ((n : Int) + 1))
          (fun d => match d with | .int e => !decide (e = 0) | _ => false) (fun d => d) r1 (fun d hd => by
            obtain ⟨k, _, rfl⟩ := List.mem_map.mp hd
            exact ⟨_, rfl, c2_ok (f := neD) (a := .int (0 - (n : Int) + k)) (b := .int 0) (m' := m) (m'' := m) rfl rfl (neD_int _ _ m), fun _ => rfl⟩) (by unfold rngL; rw [List.length_map, List.length_range]; omega)
        rw [this]
        refine congrArg (fun z => Out.ok z m) ?_
        unfold rngL tgt iL
        rw [List.map_id'', List.filter_map, List.filter_map, List.map_map, show ((n : Int) + 1 - (0 - (n : Int))).toNat = 2 * n + 1 by omega]
        · rfl
        · exact fun _ => rfl
      exact (u2_ok (f := eqD) (ofL_ok ((u1_ok (f := sortedS) (a := .d (.lst (iL c.flatten))) (m' := m) rfl).trans (sorted_ints _ m))) (ofL_ok r2)).trans (eqD_ints _ _ m)
  have := fn_rt (n := 5) (g := G_numbers_pair) (args := [.d d]) (m := m) e
  rw [take_self] at this
  exact this
/-! ### which face holds a number -/
def fidx : List (List Int) → Int → Nat
  | [], _ => 0
  | F :: c, e => if e ∈ F then 0 else fidx c e + 1
theorem fidx_spec : ∀ {c : List (List Int)} {e : Int}, e ∈ c.flatten → ∃ F, c[fidx c e]? = some F ∧ e ∈ F
  | [], e, h => by simp at h
  | F :: c, e, h => by
    unfold fidx
    by_cases q : e ∈ F
    · rw [if_pos q]
      exact ⟨F, rfl, q⟩
    · rw [if_neg q]
      rw [List.flatten_cons, List.mem_append] at h
      obtain ⟨G, h1, h2⟩ := fidx_spec (h.resolve_left q)
      exact ⟨G, by simpa using h1, h2⟩
theorem fidx_eq : ∀ {c : List (List Int)} {e : Int} {i : Nat} {F : List Int}, c.flatten.Nodup → c[i]? = some F → e ∈ F → fidx c e = i
  | [], e, i, F, _, h, _ => by simp at h
  | G :: c, e, i, F, hn, h, he => by
    rw [List.flatten_cons, List.nodup_append] at hn
    unfold fidx
    cases i with
    | zero =>
      have : G = F := by simpa using h
      rw [if_pos (this ▸ he)]
    | succ i =>
      have h' : c[i]? = some F := by simpa using h
      have hm : e ∈ c.flatten := List.mem_flatten.mpr ⟨F, List.mem_of_getElem? h', he⟩
      rw [if_neg (fun z => hn.2.2 e z e hm rfl), fidx_eq hn.2.1 h' he]
theorem fidx_lt {c : List (List Int)} {e : Int} (h : e ∈ c.flatten) : fidx c e < c.length := by
  obtain ⟨F, h1, _⟩ := fidx_spec h
  exact (List.getElem?_eq_some_iff.mp h1).1
def fps (c : List (List Int)) : List (Nat × Nat) := (c.flatten.filter fun e => decide (0 < e)).map fun e => (fidx c e, fidx c (-e))
end Pr
set_option maxRecDepth 100000
namespace Pr
open PySem Mi Pl
open L2 (Key)
/-! ### do the faces hang together -/
theorem put_fresh {kvs : List (Key × D)} {k : Key} {d : D} (h : ∀ kv ∈ kvs, kv.1 ≠ k) : putA kvs k d = kvs ++ [(k, d)] := by
  unfold putA
  rw [if_neg]
  intro z
  obtain ⟨kv, h1, h2⟩ := List.any_eq_true.mp z
  exact h kv h1 (of_decide_eq_true h2)
theorem merge_fresh (g : Int → D) : ∀ (l k : List Int), (k ++ l).Nodup → mergeA (k.map fun e => ((.inl e : Key), g e)) (l.map fun e => ((.inl e : Key), g e)) = (k ++ l).map fun e => ((.inl e : Key), g e)
  | [], k, _ => by
    rw [List.append_nil]
    rfl
  | a :: l, k, h => by
    show mergeA (putA (k.map fun e => ((.inl e : Key), g e)) (.inl a) (g a)) (l.map fun e => ((.inl e : Key), g e)) = _
    rw [put_fresh (fun kv hkv => by
      obtain ⟨e, he, rfl⟩ := List.mem_map.mp hkv
      intro z
      have := (List.nodup_append.mp h).2.2 e he a List.mem_cons_self
      exact this (Sum.inl.inj z))]
    have : (k.map fun e => ((.inl e : Key), g e)) ++ [(.inl a, g a)] = (k ++ [a]).map fun e => ((.inl e : Key), g e) := by rw [List.map_append]; rfl
    rw [this, merge_fresh g l (k ++ [a]) (by rw [List.append_assoc]; exact h), List.append_assoc]
    rfl
theorem enum_faces (g : Nat → List D → List D) : ∀ {ds : List D} {c : List (List Int)}, Faces ds c → ∀ k : Nat,
    (List.range ds.length).flatMap (fun i => g (k + i) (match ds.getD i .non with | .lst xs => xs | .tup xs => xs | _ => [])) = (List.range c.length).flatMap (fun i => g (k + i) (iL (c.getD i []))) := by
  intro ds c h
  induction h with
  | nil => exact fun _ => rfl
  | @cons d F ds c f h ih =>
    intro k
    rw [List.length_cons, List.length_cons, List.range_succ_eq_map, List.range_succ_eq_map, List.flatMap_cons, List.flatMap_cons, List.flatMap_map, List.flatMap_map]
    have := ih (k + 1)
    have e1 : ∀ i, k + 1 + i = k + (i + 1) := fun i => by omega
    simp only [e1] at this
    rw [show (List.range ds.length).flatMap (fun a => g (k + a.succ) (match (d :: ds).getD a.succ .non with | .lst xs => xs | .tup xs => xs | _ => [])) = (List.range ds.length).flatMap (fun i => g (k + (i + 1)) (match ds.getD i .non with | .lst xs => xs | .tup xs => xs | _ => [])) from rfl, this]
    rcases f with rfl | rfl <;> rfl
theorem flat_idx (w : Int → Nat → D) : ∀ (c : List (List Int)), c.flatten.Nodup → ∀ k : Nat, (List.range c.length).flatMap (fun i => (c.getD i []).map fun e => w e (k + i)) = c.flatten.map fun e => w e (k + fidx c e)
  | [], _, _ => rfl
  | F :: c, hn, k => by
    have hn2 := hn
    rw [List.flatten_cons, List.nodup_append] at hn2
    rw [List.length_cons, List.range_succ_eq_map, List.flatMap_cons, List.flatMap_map, List.flatten_cons, List.map_append]
    have := flat_idx w c hn2.2.1 (k + 1)
    have e1 : (List.range c.length).flatMap (fun a => ((F :: c).getD a.succ []).map fun e => w e (k + a.succ)) = (List.range c.length).flatMap (fun i => (c.getD i []).map fun e => w e (k + 1 + i)) := by
      refine congrArg (fun f => (List.range c.length).flatMap f) (funext fun a => ?_)
      rw [show k + a.succ = k + 1 + a by omega]
      rfl
    rw [e1, this]
    refine congr (congrArg _ ?_) ?_
    · refine List.map_congr_left fun e he => ?_
      show w e (k + 0) = _
      unfold fidx
      rw [if_pos (show e ∈ F from he)]
    · refine List.map_congr_left fun e he => ?_
      have : fidx (F :: c) e = fidx c e + 1 := by
        show (if e ∈ F then 0 else fidx c e + 1) = _
        rw [if_neg (fun z => hn2.2.2 e z e he rfl)]
      rw [this]
      congr 1
      omega
theorem val_list (g : Int → D) : ∀ (l : List Int) (e : Int), e ∈ l → valA (l.map fun e => ((.inl e : Key), g e)) (.inl e) = some (g e)
  | [], e, h => by cases h
  | a :: l, e, h => by
    by_cases q : a = e
    · subst q
      simp [valA]
    · have := val_list g l e ((List.mem_cons.mp h).resolve_left (fun z => q z.symm))
      have q2 : ¬ (Sum.inl a : Key) = Sum.inl e := fun z => q (Sum.inl.inj z)
      simp only [valA, List.map_cons, List.find?_cons, decide_eq_false q2] at this ⊢
      exact this
theorem ofDk_ok {f : SD → M (List (Key × D))} {sd : SD} {kvs : List (Key × D)} {m m' : Mem} (h : f sd m = .ok kvs m') : ofDk f sd m = .ok (.dk kvs) m' := by
  show (f sd m).bind _ = _
  rw [h]
  rfl
theorem hang {d : D} {ds : List D} {c : List (List Int)} {n : Nat} (hF : Faces ds c) (hdd : d = .lst ds ∨ d = .tup ds) (hc : c ≠ []) (hN : Nums c n) (hl : c.length ≤ 1000) (m : Mem) :
    ∃ b, F_hang_together [.d d] m = .ok (.bl b) m ∧ (b = true ↔ ∀ i, i < c.length → Cl (fps c) i 0) := by
  have hlen := hF.length
  have hfl := hN.len
  have hsm := hN.small
  generalize hL : (fps c).foldl stepP (List.range c.length) = L
  have hb : ∀ p ∈ fps c, p.1 < c.length ∧ p.2 < c.length := by
    intro p hp
    obtain ⟨e, he, rfl⟩ := List.mem_map.mp hp
    have he' := (List.mem_filter.mp he).1
    exact ⟨fidx_lt he', fidx_lt (hN.neg he')⟩
  obtain ⟨l1, l2, l3⟩ := labP (fps c) (ps := []) (l := List.range c.length) (by simp) (lab_range _) (least_range _) hb
  rw [hL] at l1 l2 l3
  rw [List.nil_append] at l2
  have hc0 : 0 < c.length := List.length_pos_iff.mpr hc
  have e : G_hang_together [some (.d d), none, none, none, none, none] m = .ok (.rt (.bl (decide (maxI (L.map fun k : Nat => (k : Int)) = 0)))) m := by
    have a0 : lcM2 [2, 3, 4] [4] (enumT (getD 0)) (tgT 2 (tgC (tgN 2) (tgC (tgN 3) tg0))) yes (seqI (getD 3)) (tgN 4) yes (tupV (consV (getD 4) (consV (getD 2) nilV))) [some (.d d), none, none, none, none, none] m
        = .ok (c.flatten.map fun e => .tup [.int e, .int (fidx c e : Nat)]) m := by
      have hen : (enumL ds).flatMap (fun t => (match t with | .tup [_, .lst xs] => xs | .tup [_, .tup xs] => xs | _ => [] : List D).map fun e => (.tup [e, (match t with | .tup (i :: _) => i | _ => .non)] : D)) = c.flatten.map fun e => .tup [.int e, .int (fidx c e : Nat)] := by
        unfold enumL
        rw [List.flatMap_map]
        have q1 := enum_faces (fun i xs => xs.map fun e => (.tup [e, .int (i : Nat)] : D)) hF 0
        have q2 := flat_idx (fun e i => .tup [.int e, .int (i : Nat)]) c hN.nd 0
        simp only [Nat.zero_add] at q1 q2
        refine Eq.trans ?_ (Eq.trans q1 ?_)
        · refine congrArg (fun f => (List.range ds.length).flatMap f) (funext fun i => ?_)
          cases ds.getD i .non <;> rfl
        · refine Eq.trans ?_ q2
          refine congrArg (fun f => (List.range c.length).flatMap f) (funext fun i => ?_)
          rw [List.map_map]
          rfl
      have := lc2_map (vs := [2, 3, 4]) (vs1 := [4]) (fi := enumT (getD 0)) (gt := tgT 2 (tgC (tgN 2) (tgC (tgN 3) tg0))) (fi1 := seqI (getD 3)) (gt1 := tgN 4) (ge := tupV (consV (getD 4) (consV (getD 2) nilV))) (sd := [some (.d d), none, none, none, none, none]) (m := m) (ds := enumL ds)
        (fun t => (match t with | .tup [_, .lst xs] => xs | .tup [_, .tup xs] => xs | _ => [] : List D)) (fun t e => (.tup [e, (match t with | .tup (i :: _) => i | _ => .non)] : D)) (by
          rcases hdd with rfl | rfl <;> rfl) (fun t ht => by
          obtain ⟨i, hi, rfl⟩ := List.mem_map.mp ht
          have hi' := List.mem_range.mp hi
          have hm : ds.getD i .non ∈ ds := by
            rw [List.getD_eq_getElem?_getD, List.getElem?_eq_getElem hi']
            exact List.getElem_mem hi'
          obtain ⟨l, _, f⟩ := hF.mem _ hm
          generalize ds.getD i .non = fd at f
          refine ⟨[some (.d d), none, some (.d (.int (i : Nat))), some (.d fd), none, none], rfl, ?_, fun e _ => ⟨[some (.d d), none, some (.d (.int (i : Nat))), some (.d fd), some (.d e), none], rfl, ?_⟩⟩
          · rcases f with rfl | rfl <;> rfl
          · rcases f with rfl | rfl <;> rfl) (by
          have := congrArg List.length hen
          rw [List.length_map] at this
          have h3 : ∀ (l : List D) (f : D → List D) (g : D → D → D), (l.flatMap fun t => (f t).map (g t)).length = (l.flatMap f).length := by
            intro l f g
            induction l with
            | nil => rfl
            | cons a l ih => simp only [List.flatMap_cons, List.length_append, ih, List.length_map]
          rw [h3] at this
          rw [this]
          omega)
      rw [this, hen]
    have a1 : setV 1 (ofDk (u1 dictS (ofD (ofL (lcM2 [2, 3, 4] [4] (enumT (getD 0)) (tgT 2 (tgC (tgN 2) (tgC (tgN 3) tg0))) yes (seqI (getD 3)) (tgN 4) yes (tupV (consV (getD 4) (consV (getD 2) nilV)))))))) [some (.d d), none, none, none, none, none] m
        = .ok (.nx [some (.d d), some (.d (.dk (c.flatten.map fun e => ((.inl e : Key), .int (fidx c e : Nat))))), none, none, none, none]) m := by
      refine set_ok (ofDk_ok ?_)
      rw [u1_ok (f := dictS) (ofD_ok (ofL_ok a0)), dict_ok (pairs_map (fun e => .int (fidx c e : Nat)) c.flatten)]
      exact congrArg (fun z => Out.ok z m) (merge_fresh (fun e => .int (fidx c e : Nat)) c.flatten [] hN.nd)
    unfold G_hang_together
    refine (seq_nx a1).trans ?_
    have a2 : lcM [4] (u1 keysD (getD 1)) (tgN 4) (c2 gtD (getD 4) (kD (.int 0))) (tupV (consV (dgetV (getS 1) (getD 4)) (consV (dgetV (getS 1) (u2 subD (kD (.int 0)) (getD 4))) nilV))) [some (.d d), some (.d (.dk (c.flatten.map fun e => ((.inl e : Key), .int (fidx c e : Nat))))), none, none, none, none] m
        = .ok ((fps c).map pD) m := by
      have := lc_spec (vs := [4]) (fi := u1 keysD (getD 1)) (gt := tgN 4) (gc := c2 gtD (getD 4) (kD (.int 0))) (ge := tupV (consV (dgetV (getS 1) (getD 4)) (consV (dgetV (getS 1) (u2 subD (kD (.int 0)) (getD 4))) nilV))) (sd := [some (.d d), some (.d (.dk (c.flatten.map fun e => ((.inl e : Key), .int (fidx c e : Nat))))), none, none, none, none]) (m := m) (ds := iL c.flatten)
        (fun x => match x with | .int e => decide (0 < e) | _ => false) (fun x => match x with | .int e => pD (fidx c e, fidx c (-e)) | x => x) (by
          show Out.ok ((c.flatten.map fun e => ((.inl e : Key), D.int (fidx c e : Nat))).map fun kv => dKey kv.1) m = _
          rw [List.map_map]
          rfl) (fun x hx => by
          obtain ⟨e, he, rfl⟩ := List.mem_map.mp hx
          refine ⟨_, rfl, c2_ok (f := gtD) (a := .int e) (b := .int 0) (m' := m) (m'' := m) rfl rfl (gt0 e m), fun _ => ?_⟩
          refine tup2_ok (dget_ok (i := .int e) rfl rfl (dget_dk (val_list (fun e => .int (fidx c e : Nat)) c.flatten e he) m)) (dget_ok (i := .int (-e)) rfl ?_ (dget_dk (val_list (fun e => .int (fidx c e : Nat)) c.flatten (-e) (hN.neg he)) m))
          refine (u2_ok (f := subD) (a := .int 0) (b := .int e) (m' := m) (m'' := m) rfl rfl).trans ?_
          show Out.ok (D.int (0 - e)) m = _
          rw [Int.zero_sub]) (by rw [List.length_map]; omega)
      rw [this]
      refine congrArg (fun z => Out.ok z m) ?_
      unfold fps iL
      rw [List.filter_map, List.map_map, List.map_map]
      rfl
    have a3 : callM 2 F_put_in_lots (consV (ofD (u1 lenS (getS 0))) (consV (ofD (ofL (lcM [4] (u1 keysD (getD 1)) (tgN 4) (c2 gtD (getD 4) (kD (.int 0))) (tupV (consV (dgetV (getS 1) (getD 4)) (consV (dgetV (getS 1) (u2 subD (kD (.int 0)) (getD 4))) nilV)))))) nilV)) [some (.d d), some (.d (.dk (c.flatten.map fun e => ((.inl e : Key), .int (fidx c e : Nat))))), none, none, none, none] m
        = .ok (.tup (nL L)) m := by
      refine (call2_ok (s1 := .d (.int (c.length : Int))) (s2 := .d (.lst ((fps c).map pD))) (m' := m) (m'' := m) (ofD_ok ((u1_ok (f := lenS) (a := .d d) (m' := m) rfl).trans (by rw [cutD_len hdd, hlen]))) (ofD_ok (ofL_ok a2))).trans ?_
      rw [put_lots c.length (by omega) (fps c) hb (.d (.lst ((fps c).map pD))) m m rfl (take_self m), hL]
    refine (seq_nx (set_ok a3)).trans (ret_ok ?_)
    refine (u2_ok (f := eqD) (a := .int (maxI (L.map fun k : Nat => (k : Int)))) (b := .int 0) (m' := m) (m'' := m) ((u1_ok (f := maxTS) (a := .d (.tup (nL L))) (m' := m) rfl).trans ?_) rfl).trans (eqD_int _ _ m)
    have : nL L = iL (L.map fun k : Nat => (k : Int)) := by
      unfold nL iL
      rw [List.map_map]
      rfl
    rw [this]
    show Out.bind (intsL (iL (L.map fun k : Nat => (k : Int))) m) (fun is => if is ≠ [] then M.pure (D.int (maxI is)) else bad) = _
    rw [ints_map]
    show (if (L.map fun k : Nat => (k : Int)) ≠ [] then M.pure (D.int (maxI (L.map fun k : Nat => (k : Int)))) else bad : M D) m = _
    rw [if_pos]
    · rfl
    · intro z
      have := congrArg List.length z
      rw [List.length_map, l1, List.length_nil] at this
      omega
  refine ⟨decide (maxI (L.map fun k : Nat => (k : Int)) = 0), ?_, ?_⟩
  · have := fn_rt (n := 6) (g := G_hang_together) (args := [.d d]) (m := m) e
    rw [take_self] at this
    exact this
  · rw [decide_eq_true_eq]
    have hne : (L.map fun k : Nat => (k : Int)) ≠ [] := by
      intro z
      have := congrArg List.length z
      rw [List.length_map, l1, List.length_nil] at this
      omega
    obtain ⟨x1, x2⟩ := maxI_mem hne
    have z0 : L.getD 0 0 = 0 := by
      have := (l3 0 (by omega)).1
      omega
    constructor
    · intro h0 i hi
      refine (l2 i 0 (by omega) (by omega)).mp ?_
      rw [getD_some (by omega), getD_some (by omega), z0]
      have hm : ((L.getD i 0 : Nat) : Int) ∈ L.map fun k : Nat => (k : Int) := List.mem_map.mpr ⟨L.getD i 0, List.mem_of_getElem? (getD_some (by omega)), rfl⟩
      have := x2 _ hm
      rw [h0] at this
      congr 1
      omega
    · intro h
      obtain ⟨k, hk, e⟩ := List.mem_map.mp x1
      obtain ⟨i, hi, rfl⟩ := List.getElem_of_mem hk
      have := (l2 i 0 (by omega) (by omega)).mpr (h i (by omega))
      rw [getD_some (by omega), getD_some (by omega), z0] at this
      have e2 : L[i] = L.getD i 0 := by rw [List.getD_eq_getElem?_getD, List.getElem?_eq_getElem hi]; rfl
      have := Option.some.inj this
      omega
end Pr
set_option maxRecDepth 100000
namespace Pr
open PySem Mi Pl
open L2 (Key)
structure IsC (c : List (List Int)) (n : Nat) : Prop where
  ne : c ≠ []
  nef : ∀ F ∈ c, F ≠ []
  nums : Nums c n
  conn : ∀ i, i < c.length → Cl (fps c) i 0
def CutD (d : D) : Prop := ∃ c n, isCutD d c ∧ IsC c n
theorem faces_rows {ds : List D} {c : List (List Int)} (h : Faces ds c) : ∀ {xss : List (List D)}, Rows ds xss → xss = c.map fun l => iL l := by
  induction h with
  | nil =>
    intro xss h
    cases h
    rfl
  | @cons d F ds c f h ih =>
    intro xss h2
    cases h2 with
    | cons r h3 =>
      rw [ih h3, List.map_cons]
      congr 1
      rcases f with rfl | rfl <;> rcases r with e | e <;> cases e <;> rfl
theorem iL_inj : ∀ {a b : List Int}, iL a = iL b → a = b
  | [], [], _ => rfl
  | [], b :: bs, h => by cases h
  | a :: as, [], h => by cases h
  | a :: as, b :: bs, h => by
    have h1 : D.int a :: iL as = D.int b :: iL bs := h
    injection h1 with h2 h3
    injection h2 with h4
    rw [h4, iL_inj h3]
theorem faces_fun {ds : List D} {c : List (List Int)} (h : Faces ds c) : ∀ {c' : List (List Int)}, Faces ds c' → c = c' := by
  induction h with
  | nil =>
    intro c' h
    cases h
    rfl
  | @cons d F ds c f h ih =>
    intro c' h2
    cases h2 with
    | cons f2 h3 =>
      rw [ih h3]
      congr 1
      rcases f with rfl | rfl <;> rcases f2 with e | e
      · exact iL_inj (by injection e)
      · cases e
      · cases e
      · exact iL_inj (by injection e)
theorem row_fun {d : D} {ds ds' : List D} (h : isRow d ds) (h' : isRow d ds') : ds = ds' := by
  rcases h with rfl | rfl <;> rcases h' with e | e <;> cases e <;> rfl
theorem cut_of_scal {d : D} (h : Scal d) : ¬ CutD d := by
  rintro ⟨c, n, ⟨ds, _, h2⟩, _⟩
  rcases h2 with rfl | rfl <;> cases h
theorem ok_rows {c : List (List Int)} (h : ∀ F ∈ c, F ≠ []) : (c.map fun l => iL l).all okRow = true := by
  rw [List.all_eq_true]
  intro xs hxs
  obtain ⟨l, hl, rfl⟩ := List.mem_map.mp hxs
  unfold okRow
  rw [Bool.and_eq_true]
  refine ⟨?_, ?_⟩
  · have : ¬ (iL l).length = 0 := by
      rw [List.length_map]
      intro z
      exact h l hl (List.eq_nil_of_length_eq_zero z)
    rw [decide_eq_false this]
    rfl
  · rw [List.all_eq_true]
    intro x hx
    obtain ⟨k, _, rfl⟩ := List.mem_map.mp hx
    rfl
theorem is_cut_scal {d : D} (h : Scal d) (m : Mem) : F_is_cut [.d d] m = .ok (.bl false) m := by
  have h1 : orB (notB (tst (callM 1 F_is_list (consV (getS 0) nilV)))) (c2 eqD (u1 lenS (getS 0)) (kD (.int 0))) [some (.d d), none, none] m = .ok true m :=
    orB_ok (a := true) (b := true) (notB_ok (b := false) (tst_ok ((call1_ok (s := .d d) (m' := m) rfl).trans (is_list_scal h m)))) (fun z => by cases z)
  have e : G_is_cut [some (.d d), none, none] m = .ok (.rt (.bl false)) m := by
    unfold G_is_cut
    refine seq_rt ?_
    rw [if_ok h1]
    rfl
  have := fn_rt (n := 3) (g := G_is_cut) (args := [.d d]) (m := m) e
  rw [take_self] at this
  exact this
theorem flat_len (c : List (List Int)) : (c.map fun l => iL l).flatten.length = c.flatten.length := by
  induction c with
  | nil => rfl
  | cons F c ih =>
    rw [List.map_cons, List.flatten_cons, List.flatten_cons, List.length_append, List.length_append, ih, List.length_map]
theorem is_cut_row {d : D} {ds : List D} {xss : List (List D)} (g : GoodR d ds xss) (m : Mem) : ∃ b, F_is_cut [.d d] m = .ok (.bl b) m ∧ (b = true ↔ CutD d) := by
  obtain ⟨hd, hr, ha, hs, hf⟩ := g
  have hlen := hr.length
  have h1 : orB (notB (tst (callM 1 F_is_list (consV (getS 0) nilV)))) (c2 eqD (u1 lenS (getS 0)) (kD (.int 0))) [some (.d d), none, none] m = .ok (false || decide ((ds.length : Int) = 0)) m :=
    orB_ok (notB_ok (b := true) (tst_ok ((call1_ok (s := .d d) (m' := m) rfl).trans (is_list_row hd m)))) (fun _ =>
      c2_ok (f := eqD) (a := .int (ds.length : Int)) (b := .int 0) (m' := m) (m'' := m) ((u1_ok (f := lenS) (a := .d d) (m' := m) rfl).trans (row_len hd m)) rfl (eqD_int _ _ m))
  rw [Bool.false_or] at h1
  have fin : ∀ b, G_is_cut [some (.d d), none, none] m = .ok (.rt (.bl b)) m → F_is_cut [.d d] m = .ok (.bl b) m := fun b e => by
    have := fn_rt (n := 3) (g := G_is_cut) (args := [.d d]) (m := m) e
    rw [take_self] at this
    exact this
  by_cases q0 : ds.length = 0
  · refine ⟨false, fin _ ?_, ⟨fun z => (Bool.false_ne_true z).elim, ?_⟩⟩
    · unfold G_is_cut
      refine seq_rt ?_
      rw [if_ok h1, decide_eq_true (by omega)]
      rfl
    · rintro ⟨c, n, ⟨ds', hF, h2⟩, hC⟩
      exfalso
      have := row_fun hd h2
      subst this
      exact hC.ne (List.eq_nil_of_length_eq_zero (by rw [← hF.length]; exact q0))
  · have s1 : (ifV (orB (notB (tst (callM 1 F_is_list (consV (getS 0) nilV)))) (c2 eqD (u1 lenS (getS 0)) (kD (.int 0)))) (retV (kD (.bl false))) nxV) [some (.d d), none, none] m = .ok (.nx [some (.d d), none, none]) m := by
      rw [if_ok h1, decide_eq_false (by omega)]
      rfl
    obtain ⟨z1, s2⟩ := is_loop (some (.d d)) none m hr ha hs none
    by_cases q1 : xss.all okRow = true
    · rw [if_pos q1] at s2
      obtain ⟨c, hF, e, hn⟩ := rows_faces hr q1
      have hfl : c.flatten.length ≤ 1000 := by rw [← flat_len, ← e]; exact hs
      have hc : c ≠ [] := by
        rintro rfl
        have := hF.length
        exact q0 this
      have hnp := numbers_pair hF hd hfl m
      have same : ∀ c', ∀ n, isCutD d c' → IsC c' n → c' = c := by
        rintro c' n ⟨ds', h3, h4⟩ _
        have := row_fun hd h4
        subst this
        exact faces_fun h3 hF
      cases hnum : numsOk c with
      | false =>
        refine ⟨false, fin _ ?_, ⟨fun z => (Bool.false_ne_true z).elim, ?_⟩⟩
        · unfold G_is_cut
          refine (seq_nx s1).trans ((seq_nx ((for_ok (row_items hd m)).trans s2)).trans (ret_ok ?_))
          exact andV_ok (a := false) (b := false) ((call1_ok (s := .d d) (m' := m) rfl).trans (by rw [hnp, hnum])) (fun z => by cases z)
        · rintro ⟨c', n, h3, h4⟩
          have := same c' n h3 h4
          subst this
          rw [numsOk_iff.mpr ⟨n, h4.nums⟩] at hnum
          cases hnum
      | true =>
        obtain ⟨n, hN⟩ := numsOk_iff.mp hnum
        obtain ⟨b, h5, h6⟩ := hang hF hd hc hN (by rw [← hF.length, hlen]; exact hf) m
        refine ⟨b, fin _ ?_, ?_⟩
        · unfold G_is_cut
          refine (seq_nx s1).trans ((seq_nx ((for_ok (row_items hd m)).trans s2)).trans (ret_ok ?_))
          exact andV_ok (a := true) (b := b) ((call1_ok (s := .d d) (m' := m) rfl).trans (by rw [hnp, hnum])) (fun _ => (call1_ok (s := .d d) (m' := m) rfl).trans h5)
        · rw [h6]
          constructor
          · exact fun h => ⟨c, n, ⟨ds, hF, hd⟩, hc, hn, hN, h⟩
          · rintro ⟨c', n', h3, h4⟩
            have := same c' n' h3 h4
            subst this
            exact h4.conn
    · rw [if_neg q1] at s2
      refine ⟨false, fin _ ?_, ⟨fun z => (Bool.false_ne_true z).elim, ?_⟩⟩
      · unfold G_is_cut
        refine (seq_nx s1).trans (seq_rt ((for_ok (row_items hd m)).trans s2))
      · rintro ⟨c, n, ⟨ds', hF, h2⟩, hC⟩
        exfalso
        have := row_fun hd h2
        subst this
        exact q1 (by rw [faces_rows hF hr]; exact ok_rows hC.nef)
theorem is_cut {d : D} (h : Good d) (m : Mem) : ∃ b, F_is_cut [.d d] m = .ok (.bl b) m ∧ (b = true ↔ CutD d) := by
  rcases h with h | ⟨ds, xss, g⟩
  · exact ⟨false, is_cut_scal h m, fun z => by (cases z), fun z => absurd z (cut_of_scal h)⟩
  · exact is_cut_row g m
/-! ### the genus -/
theorem need_yes {d : D} {m : Mem} (h : F_is_cut [.d d] m = .ok (.bl true) m) : F_need_cut [.d d] m = .ok .non m := by
  have e : G_need_cut [some (.d d)] m = .ok (.nx [some (.d d)]) m := by
    unfold G_need_cut
    rw [if_ok (notB_ok (b := true) (tst_ok ((call1_ok (s := .d d) (m' := m) rfl).trans h)))]
    rfl
  unfold F_need_cut fnM
  show (match G_need_cut [some (.d d)] m with | .ok (.rt d) m' => Out.ok d (m'.take m.length) | .ok (.nx _) m' => .ok .non (m'.take m.length) | .exc c fs m' => .exc c fs (m'.take m.length) | _ => .bad) = _
  rw [e]
  show Out.ok D.non (m.take m.length) = _
  rw [take_self]
theorem need_no {d : D} {m : Mem} (h : F_is_cut [.d d] m = .ok (.bl false) m) : F_need_cut [.d d] m = .exc "BadCut" [] m := by
  have e : G_need_cut [some (.d d)] m = .exc "BadCut" [] m := by
    unfold G_need_cut
    rw [if_ok (notB_ok (b := false) (tst_ok ((call1_ok (s := .d d) (m' := m) rfl).trans h)))]
    rfl
  unfold F_need_cut fnM
  show (match G_need_cut [some (.d d)] m with | .ok (.rt d) m' => Out.ok d (m'.take m.length) | .ok (.nx _) m' => .ok .non (m'.take m.length) | .exc c fs m' => .exc c fs (m'.take m.length) | _ => .bad) = _
  rw [e]
  show Out.exc "BadCut" [] (m.take m.length) = _
  rw [take_self]
theorem genus_no {d : D} (g : Good d) (h : ¬ CutD d) (m : Mem) : F_genus [.d d] m = .exc "BadCut" [] m := by
  obtain ⟨b, h1, h2⟩ := is_cut g m
  have hb : b = false := by
    cases b with
    | false => rfl
    | true => exact absurd (h2.mp rfl) h
  subst hb
  have e : G_genus [some (.d d), none, none] m = .exc "BadCut" [] m := by
    unfold G_genus
    refine seq_exc ?_
    show Out.bind (callM 1 F_need_cut (consV (getS 0) nilV) [some (.d d), none, none] m) _ = _
    rw [call1_ok (s := .d d) (m' := m) rfl, need_no h1]
    rfl
  unfold F_genus fnM
  show (match G_genus [some (.d d), none, none] m with | .ok (.rt d) m' => Out.ok d (m'.take m.length) | .ok (.nx _) m' => .ok .non (m'.take m.length) | .exc c fs m' => .exc c fs (m'.take m.length) | _ => .bad) = _
  rw [e]
  show Out.exc "BadCut" [] (m.take m.length) = _
  rw [take_self]
theorem flat_mem {c : List (List Int)} {F : List Int} {e : Int} (hF : F ∈ c) (he : e ∈ F) : e ∈ c.flatten := List.mem_flatten.mpr ⟨F, hF, he⟩
theorem few_faces : ∀ {c : List (List Int)}, (∀ F ∈ c, F ≠ []) → c.length ≤ c.flatten.length
  | [], _ => Nat.le_refl _
  | F :: c, h => by
    have h1 := few_faces (c := c) fun G hG => h G (List.mem_cons_of_mem _ hG)
    have h2 := List.length_pos_iff.mpr (h F List.mem_cons_self)
    rw [List.flatten_cons, List.length_append, List.length_cons]
    omega
theorem genus_yes {d : D} (g : Good d) {c : List (List Int)} {n : Nat} (hd : isCutD d c) (hC : IsC c n) (m : Mem) : F_genus [.d d] m = .ok (.int (lawG c n)) m := by
  obtain ⟨b, h1, h2⟩ := is_cut g m
  have hb : b = true := h2.mpr ⟨c, n, hd, hC⟩
  subst hb
  have hfl := hC.nums.len
  have hsm := hC.nums.small
  have hfw := few_faces hC.nef
  have h0 : ∀ F ∈ c, ∀ e ∈ F, e ≠ 0 := fun F hF e he => (hC.nums.mem.mp (flat_mem hF he)).1
  have hbd : ∀ F ∈ c, ∀ e ∈ F, -(n : Int) ≤ e ∧ e ≤ n := fun F hF e he => (hC.nums.mem.mp (flat_mem hF he)).2
  have hcr := corners hd hfl (by omega) (by omega) h0 hbd m
  obtain ⟨ds, hF, hdd⟩ := hd
  have hlen := hF.length
  have e : G_genus [some (.d d), none, none] m = .ok (.rt (.int (lawG c n))) m := by
    unfold G_genus
    have s1 : dropV (callM 1 F_need_cut (consV (getS 0) nilV)) [some (.d d), none, none] m = .ok (.nx [some (.d d), none, none]) m := by
      show Out.bind (callM 1 F_need_cut (consV (getS 0) nilV) [some (.d d), none, none] m) _ = _
      rw [call1_ok (s := .d d) (m' := m) rfl, need_yes h1]
      rfl
    refine (seq_nx s1).trans ?_
    refine (seq_nx (set_ok (half_ok (vs := [2]) (i := 2) hF hdd rfl hfl (by omega) (fun d => ⟨_, rfl, rfl⟩)))).trans (ret_ok ?_)
    have hk := (call1_ok (F := F_corners_of) (g1 := getS 0) (sd := [some (.d d), some (.d (.int (n : Int))), none]) (s := .d d) (m := m) (m' := m) rfl).trans hcr
    rw [(count_same (n := 2 * n) (QL c) (QL_lt h0 hbd)).1] at hk
    have t1 := (u2_ok (f := subD) (fa := kD (.int 2)) (a := .int 2) (m' := m) rfl hk).trans (show _ = Out.ok (D.int (2 - ((reps ((QL c).foldl stepL (List.range (2 * n)))).length : Int))) m from rfl)
    have t2 := (u2_ok (f := addD) (fb := getD 1) (b := .int (n : Int)) (m'' := m) t1 rfl).trans (show _ = Out.ok (D.int (2 - ((reps ((QL c).foldl stepL (List.range (2 * n)))).length : Int) + n)) m from rfl)
    have t3 := (u2_ok (f := subD) (fb := u1 lenS (getS 0)) (b := .int (ds.length : Int)) (m'' := m) t2 ((u1_ok (f := lenS) (a := .d d) (m' := m) rfl).trans (cutD_len hdd m))).trans (show _ = Out.ok (D.int (2 - ((reps ((QL c).foldl stepL (List.range (2 * n)))).length : Int) + n - ds.length)) m from rfl)
    refine (u2_ok (f := divD) (fb := kD (.int 2)) (b := .int 2) (m'' := m) t3 rfl).trans ?_
    rw [div2i]
    unfold lawG
    rw [hlen]
  have := fn_rt (n := 3) (g := G_genus) (args := [.d d]) (m := m) e
  rw [take_self] at this
  exact this
end Pr
set_option maxRecDepth 100000
namespace Pr
open PySem Mi Pl
open L2 (Key)
def ende (y : Nat) : Int := if y % 2 = 1 then ((y / 2 : Nat) : Int) + 1 else -((y / 2 : Nat) : Int) - 1
theorem ende_endp {e : Int} (h : e ≠ 0) : ende (endp e) = e := by
  unfold endp ende
  by_cases q : 0 < e
  · rw [if_pos q, if_pos (by omega)]
    omega
  · rw [if_neg q, if_neg (by omega)]
    omega
theorem endp_ende (y : Nat) : endp (ende y) = y := by
  unfold endp ende
  by_cases q : y % 2 = 1
  · rw [if_pos q, if_pos (by omega)]
    omega
  · rw [if_neg q, if_neg (by omega)]
    omega
theorem cut_genus {g : Int} {c : List (List Int)} {n : Nat} (h : Cut g c) (hN : Nums c n) : lawG c n = g := by
  obtain ⟨k, h1, h2⟩ := h.eul
  have hl := hN.len
  have h0 : ∀ F ∈ c, ∀ e ∈ F, e ≠ 0 := fun F hF e he => (hN.mem.mp (flat_mem hF he)).1
  have hbd : ∀ F ∈ c, ∀ e ∈ F, -(n : Int) ≤ e ∧ e ≤ n := fun F hF e he => (hN.mem.mp (flat_mem hF he)).2
  have hp : ∀ p ∈ dps c, p.1 ∈ c.flatten ∧ p.2 ∈ c.flatten := fun p hp => by
    obtain ⟨a, b⟩ := dps_mem hp
    exact ⟨a, by have := hN.neg b; rwa [Int.neg_neg] at this⟩
  have im : NC (List.range (2 * n)) (QL c) k := by
    refine NC.image h1 endp (fun x hx => ?_) (fun y hy => ?_) (fun x hx y hy => ?_)
    · have := hN.mem.mp hx
      exact List.mem_range.mpr (endp_lt this.1 this.2.1 this.2.2)
    · have hy' := List.mem_range.mp hy
      refine ⟨ende y, hN.mem.mpr ?_, by rw [endp_ende]; exact .refl _⟩
      unfold ende
      split <;> omega
    · rw [QL_eq]
      exact map_back endp ende (fun x hx => ende_endp (hN.mem.mp hx).1) hp hx hy
  have hk := im.uniq (count_same (n := 2 * n) (QL c) (QL_lt h0 hbd)).2
  unfold lawG
  rw [← hk]
  rw [hl] at h2
  have : (2 - (k : Int) + n - c.length) = 2 * g := by omega
  rw [this, Int.fdiv_eq_ediv_of_nonneg _ (by omega)]
  omega
theorem fps_neg {c : List (List Int)} {n : Nat} (hN : Nums c n) {e : Int} (he : e ∈ c.flatten) : Cl (fps c) (fidx c e) (fidx c (-e)) := by
  have h0 := (hN.mem.mp he).1
  by_cases q : 0 < e
  · exact .pair (List.mem_map.mpr ⟨e, List.mem_filter.mpr ⟨he, decide_eq_true q⟩, rfl⟩)
  · refine .symm (.pair (List.mem_map.mpr ⟨-e, List.mem_filter.mpr ⟨hN.neg he, decide_eq_true (by omega)⟩, ?_⟩))
    rw [Int.neg_neg]
theorem same_face {c : List (List Int)} (hn : c.flatten.Nodup) {F : List Int} (hF : F ∈ c) {x y : Int} (hx : x ∈ F) (hy : y ∈ F) : fidx c x = fidx c y := by
  obtain ⟨i, hi, e⟩ := List.getElem_of_mem hF
  have : c[i]? = some F := by rw [List.getElem?_eq_getElem hi, e]
  rw [fidx_eq hn this hx, fidx_eq hn this hy]
theorem cyc_face {c : List (List Int)} {p : Int × Int} (hp : p ∈ dps c) : ∃ F ∈ c, p.1 ∈ F ∧ -p.2 ∈ F := by
  obtain ⟨F, hF, q⟩ := List.mem_flatMap.mp hp
  exact ⟨F, hF, cyc_mem q⟩
theorem cut_isC {g : Int} {c : List (List Int)} {n : Nat} (h : Cut g c) (hN : Nums c n) (hne : c ≠ []) : IsC c n := by
  refine ⟨hne, h.ne, hN, fun i hi => ?_⟩
  have hc0 : 0 < c.length := List.length_pos_iff.mpr hne
  have pick : ∀ j, (hj : j < c.length) → ∃ x, x ∈ c.flatten ∧ fidx c x = j := fun j hj => by
    have hm : c[j] ∈ c := List.getElem_mem hj
    obtain ⟨x, hx⟩ := List.exists_mem_of_ne_nil _ (h.ne _ hm)
    exact ⟨x, flat_mem hm hx, fidx_eq hN.nd (List.getElem?_eq_getElem hj) hx⟩
  obtain ⟨x, hx, rfl⟩ := pick i hi
  obtain ⟨y, hy, e⟩ := pick 0 hc0
  rw [← e]
  refine Cl.map (fidx c) (fun p hp => ?_) (h.conn x hx y hy)
  rcases List.mem_append.mp hp with q | q
  · obtain ⟨F, hF, a, b⟩ := cyc_face q
    rw [same_face hN.nd hF a b]
    have := fps_neg hN (flat_mem hF b)
    rwa [Int.neg_neg] at this
  · obtain ⟨z, hz, rfl⟩ := List.mem_map.mp q
    exact fps_neg hN hz
/-! ### the law's way to see whether the faces hang together -/
/-- what a turn adds -/
def grow (reach : List Int) (c : List (List Int)) : List Int := (c.filter fun F => (F.any fun e => reach.contains (-e)) && (F.any fun e => !reach.contains e)).flatten
def outside (c : List (List Int)) (reach : List Int) : Nat := (c.flatten.filter fun e => !reach.contains e).length
theorem grow_mem {reach : List Int} {c : List (List Int)} {x : Int} (h : x ∈ grow reach c) : ∃ F ∈ c, x ∈ F ∧ (∃ e ∈ F, -e ∈ reach) ∧ ∃ e ∈ F, e ∉ reach := by
  obtain ⟨F, hF, hx⟩ := List.mem_flatten.mp h
  obtain ⟨h1, h2⟩ := List.mem_filter.mp hF
  rw [Bool.and_eq_true, List.any_eq_true, List.any_eq_true] at h2
  obtain ⟨⟨e, he, q⟩, ⟨e', he', q'⟩⟩ := h2
  exact ⟨F, h1, hx, ⟨e, he, by simpa using q⟩, ⟨e', he', by simpa using q'⟩⟩
theorem grow_nil {reach : List Int} {c : List (List Int)} (hne : ∀ F ∈ c, F ≠ []) (h : grow reach c = []) {F : List Int} (hF : F ∈ c) {e : Int} (he : e ∈ F) (hr : -e ∈ reach) : ∀ x ∈ F, x ∈ reach := by
  intro x hx
  by_cases q : x ∈ reach
  · exact q
  · exfalso
    have : x ∈ grow reach c := by
      refine List.mem_flatten.mpr ⟨F, List.mem_filter.mpr ⟨hF, ?_⟩, hx⟩
      rw [Bool.and_eq_true, List.any_eq_true, List.any_eq_true]
      exact ⟨⟨e, he, by simpa using hr⟩, ⟨x, hx, by simpa using q⟩⟩
    rw [h] at this
    cases this
theorem grow_len (reach : List Int) : ∀ c : List (List Int), (grow reach c).length ≤ c.flatten.length
  | [] => Nat.le_refl _
  | F :: c => by
    have := grow_len reach c
    unfold grow at this ⊢
    rw [List.filter_cons]
    split
    · rw [List.flatten_cons, List.flatten_cons, List.length_append, List.length_append]
      omega
    · rw [List.flatten_cons, List.length_append]
      omega
theorem filter_lt {α : Type} (p q : α → Bool) : ∀ (l : List α), (∀ x ∈ l, q x = true → p x = true) → (∃ x ∈ l, p x = true ∧ q x = false) → (l.filter q).length < (l.filter p).length
  | [], _, ⟨x, h, _⟩ => by cases h
  | a :: l, h1, ⟨x, hx, h2, h3⟩ => by
    have le : ∀ l : List α, (∀ x ∈ l, q x = true → p x = true) → (l.filter q).length ≤ (l.filter p).length := by
      intro l
      induction l with
      | nil => exact fun _ => Nat.le_refl _
      | cons b l ih =>
        intro h
        have := ih fun x hx => h x (List.mem_cons_of_mem _ hx)
        have hb := h b List.mem_cons_self
        rw [List.filter_cons, List.filter_cons]
        cases hq : q b with
        | true =>
          rw [hb hq]
          simpa using this
        | false =>
          cases p b with
          | true => simp; omega
          | false => simpa using this
    have ha := h1 a List.mem_cons_self
    rw [List.filter_cons, List.filter_cons]
    rcases List.mem_cons.mp hx with rfl | hx
    · rw [h2, h3]
      have := le l fun x hx => h1 x (List.mem_cons_of_mem _ hx)
      simp
      omega
    · have := filter_lt p q l (fun x hx => h1 x (List.mem_cons_of_mem _ hx)) ⟨x, hx, h2, h3⟩
      cases hq : q a with
      | true =>
        rw [ha hq]
        simpa using this
      | false =>
        cases p a with
        | true => simp; omega
        | false => simpa using this
theorem out_less {reach : List Int} {c : List (List Int)} (h : grow reach c ≠ []) : outside c (reach ++ grow reach c) < outside c reach := by
  obtain ⟨x, hx⟩ := List.exists_mem_of_ne_nil _ h
  obtain ⟨F, hF, hxF, a, ⟨e, he, hne⟩⟩ := grow_mem hx
  have hem : e ∈ grow reach c := by
    obtain ⟨y, hy, z⟩ := a
    refine List.mem_flatten.mpr ⟨F, List.mem_filter.mpr ⟨hF, ?_⟩, he⟩
    rw [Bool.and_eq_true, List.any_eq_true, List.any_eq_true]
    exact ⟨⟨y, hy, by simpa using z⟩, ⟨e, he, by simpa using hne⟩⟩
  refine filter_lt _ _ _ (fun x _ q => ?_) ⟨e, flat_mem hF he, by simpa using hne, by simp [hem]⟩
  simp at q ⊢
  exact q.1
/-- all of it is reached -/
structure Rch (c : List (List Int)) (reach : List Int) : Prop where
  sub : ∀ x ∈ reach, x ∈ c.flatten ∧ Cl (fps c) (fidx c x) 0
  zero : ∀ F, c[0]? = some F → ∀ e ∈ F, e ∈ reach
theorem rch_grow {c : List (List Int)} {n : Nat} (hN : Nums c n) {reach : List Int} (h : Rch c reach) : Rch c (reach ++ grow reach c) := by
  refine ⟨fun x hx => ?_, fun F hF e he => List.mem_append_left _ (h.zero F hF e he)⟩
  rcases List.mem_append.mp hx with q | q
  · exact h.sub x q
  · obtain ⟨F, hF, hxF, ⟨e, he, hr⟩, _⟩ := grow_mem q
    refine ⟨flat_mem hF hxF, ?_⟩
    rw [same_face hN.nd hF hxF he]
    exact .trans (fps_neg hN (flat_mem hF he)) (h.sub _ hr).2
theorem rch_all {c : List (List Int)} {n : Nat} (hN : Nums c n) (hne : ∀ F ∈ c, F ≠ []) {reach : List Int} (h : Rch c reach) (hm : grow reach c = []) : (∀ x ∈ c.flatten, x ∈ reach) ↔ ∀ i, i < c.length → Cl (fps c) i 0 := by
  constructor
  · intro q i hi
    have hmem : c[i] ∈ c := List.getElem_mem hi
    obtain ⟨x, hx⟩ := List.exists_mem_of_ne_nil _ (hne _ hmem)
    have := (h.sub x (q x (flat_mem hmem hx))).2
    rwa [fidx_eq hN.nd (List.getElem?_eq_getElem hi) hx] at this
  · intro q x hx
    have key : ∀ i j, Cl (fps c) i j → ((∀ F, c[i]? = some F → ∀ e ∈ F, e ∈ reach) ↔ (∀ F, c[j]? = some F → ∀ e ∈ F, e ∈ reach)) := by
      intro i j hc
      have one : ∀ e : Int, e ∈ c.flatten → (∀ F, c[fidx c e]? = some F → ∀ x ∈ F, x ∈ reach) → (∀ F, c[fidx c (-e)]? = some F → ∀ x ∈ F, x ∈ reach) := by
        intro e he hs F hF
        obtain ⟨G, g1, g2⟩ := fidx_spec he
        have er := hs G g1 e g2
        obtain ⟨G2, g3, g4⟩ := fidx_spec (hN.neg he)
        have : G2 = F := by rw [g3] at hF; exact Option.some.inj hF
        subst this
        refine grow_nil hne hm (List.mem_of_getElem? hF) g4 ?_
        rwa [Int.neg_neg]
      induction hc with
      | refl a => exact Iff.rfl
      | pair m =>
        obtain ⟨e, he, z⟩ := List.mem_map.mp m
        have he' := (List.mem_filter.mp he).1
        cases z
        refine ⟨one e he', fun z => ?_⟩
        have := one (-e) (hN.neg he') z
        rwa [Int.neg_neg] at this
      | symm _ ih => exact ih.symm
      | trans _ _ i1 i2 => exact i1.trans i2
    obtain ⟨F, h1, h2⟩ := fidx_spec hx
    exact (key _ _ (q _ (fidx_lt hx))).mpr h.zero F h1 x h2
end Pr
set_option maxRecDepth 100000
namespace Pr
open PySem Mi Pl
open L2 (Key)
theorem rng_ok {a b : Int} (h1 : -1000000 ≤ a) (h2 : a ≤ 1000000) (h3 : -1000000 ≤ b) (h4 : b ≤ 1000000) (m : Mem) : rngM a b m = .ok (rngL a b) m := by
  unfold rngM
  have : rngOk a b = true := by
    unfold rngOk
    simp only [Bool.and_eq_true, decide_eq_true_eq]
    refine ⟨by omega, by omega, by omega, by omega, by omega⟩
  rw [if_pos this]
  rfl
theorem toPL_atoms : ∀ xs : List D, (∀ x ∈ xs, Atom x) → PyData.canLayAll0 (toPL xs) = true ∧ PyData.depthAll (toPL xs) ≤ 1
  | [], _ => ⟨rfl, Nat.zero_le _⟩
  | x :: xs, h => by
    obtain ⟨h1, h2⟩ := toPL_atoms xs fun y hy => h y (List.mem_cons_of_mem _ hy)
    have hx := h x List.mem_cons_self
    constructor
    · show (PyData.canLay0 (toP x) && PyData.canLayAll0 (toPL xs)) = true
      rw [h1, Bool.and_true]
      cases hx with
      | str x q => exact q
      | _ => rfl
    · show max (PyData.depth (toP x)) (PyData.depthAll (toPL xs)) ≤ 1
      have : PyData.depth (toP x) ≤ 1 := by cases hx <;> simp [toP, PyData.depth]
      omega
theorem plain_atoms {xs : List D} (h : ∀ x ∈ xs, Atom x) : plain (.lst xs) = true := by
  obtain ⟨h1, h2⟩ := toPL_atoms xs h
  unfold Mi.plain SeqAt.shaped
  refine Bool.and_eq_true_iff.mpr ⟨h1, decide_eq_true ?_⟩
  show PyData.depth (.list (toPL xs)) ≤ 64
  simp only [PyData.depth]
  omega
theorem ne_nil {xs : List D} (h : ∀ x ∈ xs, Atom x) (m : Mem) : neD (.lst xs) (.lst []) m = .ok (.bl (!decide (xs = []))) m := by
  unfold neD
  rw [plain_atoms h, show plain (.lst []) = true from plain_ints []]
  cases xs with
  | nil => rfl
  | cons x xs => rfl
theorem in_ints (neg : Bool) (x : Int) (l : List Int) (m : Mem) : inS neg (.int x) (.d (.lst (iL l))) m = .ok (.bl (if neg then !l.contains x else l.contains x)) m := by
  have h1 : (iL l).all flatD = true := by
    rw [List.all_eq_true]
    intro d hd
    obtain ⟨k, _, rfl⟩ := List.mem_map.mp hd
    rfl
  have h2 : inL (.int x) (iL l) = l.contains x := by
    unfold inL iL
    rw [List.any_map]
    induction l with
    | nil => rfl
    | cons a l ih =>
      rw [List.any_cons, List.contains_cons]
      have ih' := ih (by
        rw [List.all_eq_true]
        intro d hd
        obtain ⟨k, _, rfl⟩ := List.mem_map.mp hd
        rfl)
      rw [ih']
      show ((a == x) || _) = ((x == a) || _)
      by_cases q : a = x
      · subst q; rfl
      · have q2 : ¬ x = a := fun z => q z.symm
        rw [beq_eq_false_iff_ne.mpr q, beq_eq_false_iff_ne.mpr q2]
  show (if (flatD (.int x) && (iL l).all flatD) = true then M.pure (.bl (if neg then !inL (.int x) (iL l) else inL (.int x) (iL l))) else bad : M D) m = _
  rw [h1, h2]
  rfl
theorem c2S_ok {f : D → S → M D} {fa : SD → M D} {fb : SD → M S} {sd : SD} {a : D} {s : S} {r : Bool} {m m' m'' : Mem} (h : fa sd m = .ok a m') (h2 : fb sd m' = .ok s m'') (h3 : f a s m'' = .ok (.bl r) m'') : c2S f fa fb sd m = .ok r m'' := by
  show (fa sd m).bind _ = _
  rw [h]
  show (fb sd m').bind _ = _
  rw [h2]
  show (f a s m'').bind _ = _
  rw [h3]
  rfl
/-- the numbers of a list that pass a test -/
theorem lc_sel {vs : List Nat} {fi : SD → M (List D)} {gt : D → SD → M SD} {gc : SD → M Bool} {ge : SD → M D} {sd : SD} {m : Mem} {l : List Int} (p : Int → Bool) (hi : fi sd m = .ok (iL l) m)
    (h : ∀ e : Int, ∃ sd2, gt (.int e) (wipeD sd vs) m = .ok sd2 m ∧ gc sd2 m = .ok (p e) m ∧ ge sd2 m = .ok (.int e) m) (hl : l.length ≤ 16777216) :
    lcM vs fi gt gc ge sd m = .ok (iL (l.filter p)) m := by
  have := lc_spec (vs := vs) (gt := gt) (gc := gc) (ge := ge) (sd := sd) (m := m) (ds := iL l) (fun d => match d with | .int e => p e | _ => false) (fun d => d) hi (fun d hd => by
    obtain ⟨e, _, rfl⟩ := List.mem_map.mp hd
    obtain ⟨sd2, h1, h2, h3⟩ := h e
    exact ⟨sd2, h1, h2, fun _ => h3⟩) (by rw [List.length_map]; omega)
  rw [this]
  refine congrArg (fun z => Out.ok z m) ?_
  unfold iL
  rw [List.map_id'', List.filter_map]
  · rfl
  · exact fun _ => rfl
theorem filter_nil {l : List Int} {p : Int → Bool} : (!decide (l.filter p = [])) = l.any p := by
  induction l with
  | nil => rfl
  | cons a l ih =>
    rw [List.filter_cons, List.any_cons]
    cases p a with
    | true => rfl
    | false => simpa using ih
/-! ### one turn of the closure -/
abbrev duF : SD → M Fl := (ifV (andB (c2 neD (ofL (lcM [3] (seqI (getD 2)) (tgN 3) (c2S (inS false) (u2 subD (kD (.int 0)) (getD 3)) (getS 5)) (getD 3))) (ofL (lstV nilV))) (c2 neD (ofL (lcM [3] (seqI (getD 2)) (tgN 3) (c2S (inS true) (getD 3) (getS 5)) (getD 3))) (ofL (lstV nilV)))) (setV 7 (u2 addD (getD 7) (ofL (u1 listS (getS 2))))) nxV)
theorem add_lists (a b : List Int) (h : a.length + b.length ≤ 16777216) (m : Mem) : addD (.lst (iL a)) (.lst (iL b)) m = .ok (.lst (iL (a ++ b))) m := by
  show (if (iL a).length + (iL b).length ≤ 16777216 then M.pure (.lst (iL a ++ iL b)) else bad : M D) m = _
  rw [if_pos (by rw [List.length_map, List.length_map]; exact h)]
  unfold iL
  rw [List.map_append]
  rfl
theorem list_face {d : D} {F : List Int} (h : isFace d F) (m : Mem) : listS (.d d) m = .ok (iL F) m := by
  rcases h with rfl | rfl <;> rfl
theorem duF_step {d : D} {F : List Int} (hf : isFace d F) (hF : F.length ≤ 1000) (reach acc : List Int) (ha : acc.length ≤ 1000) (y0 y1 y3 y4 y6 : Option S) (m : Mem) :
    duF [y0, y1, some (.d d), y3, y4, some (.d (.lst (iL reach))), y6, some (.d (.lst (iL acc)))] m
      = .ok (.nx [y0, y1, some (.d d), y3, y4, some (.d (.lst (iL reach))), y6, some (.d (.lst (iL (acc ++ if ((F.any fun e => reach.contains (-e)) && F.any fun e => !reach.contains e) = true then F else []))))]) m := by
  have hi : seqI (getD 2) [y0, y1, some (.d d), y3, y4, some (.d (.lst (iL reach))), y6, some (.d (.lst (iL acc)))] m = .ok (iL F) m := face_items hf m
  have c1 : c2 neD (ofL (lcM [3] (seqI (getD 2)) (tgN 3) (c2S (inS false) (u2 subD (kD (.int 0)) (getD 3)) (getS 5)) (getD 3))) (ofL (lstV nilV)) [y0, y1, some (.d d), y3, y4, some (.d (.lst (iL reach))), y6, some (.d (.lst (iL acc)))] m = .ok (F.any fun e => reach.contains (-e)) m := by
    have := lc_sel (vs := [3]) (gt := tgN 3) (gc := c2S (inS false) (u2 subD (kD (.int 0)) (getD 3)) (getS 5)) (ge := getD 3) (fun e => reach.contains (-e)) hi (fun e => ⟨[y0, y1, some (.d d), some (.d (.int e)), y4, some (.d (.lst (iL reach))), y6, some (.d (.lst (iL acc)))], rfl, by
      refine c2S_ok (a := .int (-e)) (s := .d (.lst (iL reach))) (m' := m) (m'' := m) ?_ rfl (in_ints false _ _ m)
      refine (u2_ok (f := subD) (a := .int 0) (b := .int e) (m' := m) (m'' := m) rfl rfl).trans ?_
      show Out.ok (D.int (0 - e)) m = _
      rw [Int.zero_sub], rfl⟩) (by omega)
    rw [← filter_nil]
    exact c2_ok (f := neD) (a := .lst (iL (F.filter fun e => reach.contains (-e)))) (b := .lst (iL [])) (m' := m) (m'' := m) (ofL_ok this) rfl (neD_ints _ _ m)
  have c2' : c2 neD (ofL (lcM [3] (seqI (getD 2)) (tgN 3) (c2S (inS true) (getD 3) (getS 5)) (getD 3))) (ofL (lstV nilV)) [y0, y1, some (.d d), y3, y4, some (.d (.lst (iL reach))), y6, some (.d (.lst (iL acc)))] m = .ok (F.any fun e => !reach.contains e) m := by
    have := lc_sel (vs := [3]) (gt := tgN 3) (gc := c2S (inS true) (getD 3) (getS 5)) (ge := getD 3) (fun e => !reach.contains e) hi (fun e => ⟨[y0, y1, some (.d d), some (.d (.int e)), y4, some (.d (.lst (iL reach))), y6, some (.d (.lst (iL acc)))], rfl, by
      exact c2S_ok (a := .int e) (s := .d (.lst (iL reach))) (m' := m) (m'' := m) rfl rfl (in_ints true _ _ m), rfl⟩) (by omega)
    rw [← filter_nil]
    exact c2_ok (f := neD) (a := .lst (iL (F.filter fun e => !reach.contains e))) (b := .lst (iL [])) (m' := m) (m'' := m) (ofL_ok this) rfl (neD_ints _ _ m)
  refine (if_ok (andB_ok c1 fun _ => c2')).trans ?_
  by_cases q : ((F.any fun e => reach.contains (-e)) && F.any fun e => !reach.contains e) = true
  · rw [if_pos q, if_pos q]
    exact set_ok ((u2_ok (f := addD) (a := .lst (iL acc)) (b := .lst (iL F)) (m' := m) (m'' := m) rfl (ofL_ok ((u1_ok (f := listS) (a := .d d) (m' := m) rfl).trans (list_face hf m)))).trans (add_lists _ _ (by omega) m))
  · rw [if_neg q, if_neg q, List.append_nil]
    rfl
theorem duF_loop (reach : List Int) (y0 y1 y4 y6 : Option S) (m : Mem) : ∀ {ds : List D} {c : List (List Int)}, Faces ds c → ∀ (acc : List Int) (y2 y3 : Option S), acc.length + c.flatten.length ≤ 1000 →
    ∃ z2 z3, forM (tgN 2) duF ds [y0, y1, y2, y3, y4, some (.d (.lst (iL reach))), y6, some (.d (.lst (iL acc)))] m = .ok (.nx [y0, y1, z2, z3, y4, some (.d (.lst (iL reach))), y6, some (.d (.lst (iL (acc ++ grow reach c))))]) m := by
  intro ds c h
  induction h with
  | nil =>
    intro acc y2 y3 _
    refine ⟨y2, y3, ?_⟩
    show _ = Out.ok (Fl.nx [y0, y1, y2, y3, y4, some (.d (.lst (iL reach))), y6, some (.d (.lst (iL (acc ++ []))))]) m
    rw [List.append_nil]
    rfl
  | @cons d F ds c f h ih =>
    intro acc y2 y3 hl
    rw [List.flatten_cons, List.length_append] at hl
    obtain ⟨z2, z3, e⟩ := ih (acc ++ if ((F.any fun e => reach.contains (-e)) && F.any fun e => !reach.contains e) = true then F else []) (some (.d d)) y3 (by
      rw [List.length_append]
      split
      · omega
      · rw [List.length_nil]; omega)
    refine ⟨z2, z3, ?_⟩
    show (duF [y0, y1, some (.d d), y3, y4, some (.d (.lst (iL reach))), y6, some (.d (.lst (iL acc)))] m).bind _ = _
    rw [duF_step f (by omega) reach acc (by omega)]
    refine e.trans ?_
    rw [List.append_assoc]
    have : (if ((F.any fun e => reach.contains (-e)) && F.any fun e => !reach.contains e) = true then F else []) ++ grow reach c = grow reach (F :: c) := by
      unfold grow
      rw [List.filter_cons]
      split
      · rw [List.flatten_cons]
      · rfl
    rw [this]
abbrev duW : SD → M Fl := (seqM (setV 7 (ofL (lstV nilV)))
    (seqM (forV (seqI (getD 0)) (tgN 2) duF)
    (seqM (setV 6 (u2 neD (getD 7) (ofL (lstV nilV))))
    (setV 5 (u2 addD (getD 5) (getD 7))))))
theorem duW_step {d : D} {ds : List D} {c : List (List Int)} (hF : Faces ds c) (hd : isRow d ds) (reach : List Int) (hr : reach.length ≤ 100000) (hc : c.flatten.length ≤ 1000) (y1 y2 y3 y4 y6 y7 : Option S) (m : Mem) :
    ∃ z2 z3, duW [some (.d d), y1, y2, y3, y4, some (.d (.lst (iL reach))), y6, y7] m = .ok (.nx [some (.d d), y1, z2, z3, y4, some (.d (.lst (iL (reach ++ grow reach c)))), some (.d (.bl (!decide (grow reach c = [])))), some (.d (.lst (iL (grow reach c))))]) m := by
  obtain ⟨z2, z3, e⟩ := duF_loop reach (some (.d d)) y1 y4 y6 m hF [] y2 y3 (by rw [List.length_nil]; omega)
  rw [List.nil_append] at e
  refine ⟨z2, z3, ?_⟩
  have s1 : setV 7 (ofL (lstV nilV)) [some (.d d), y1, y2, y3, y4, some (.d (.lst (iL reach))), y6, y7] m = .ok (.nx [some (.d d), y1, y2, y3, y4, some (.d (.lst (iL reach))), y6, some (.d (.lst (iL [])))]) m := rfl
  refine (seq_nx s1).trans ?_
  refine (seq_nx ((for_ok (row_items hd m)).trans e)).trans ?_
  refine (seq_nx (set_ok ((u2_ok (f := neD) (a := .lst (iL (grow reach c))) (b := .lst (iL [])) (m' := m) (m'' := m) rfl rfl).trans (neD_ints _ _ m)))).trans ?_
  have hg := grow_len reach c
  exact set_ok ((u2_ok (f := addD) (a := .lst (iL reach)) (b := .lst (iL (grow reach c))) (m' := m) (m'' := m) rfl rfl).trans (add_lists _ _ (by omega) m))
theorem duW_loop {d : D} {ds : List D} {c : List (List Int)} {n : Nat} (hF : Faces ds c) (hd : isRow d ds) (hN : Nums c n) (y1 y4 : Option S) (m : Mem) : ∀ (fuel : Nat) (reach : List Int) (y2 y3 y7 : Option S), outside c reach + 2 ≤ fuel → reach.length + 60 * outside c reach ≤ 10000 → Rch c reach →
    ∃ z2 z3 z6 z7 r, whileM (tst (getD 6)) duW fuel [some (.d d), y1, y2, y3, y4, some (.d (.lst (iL reach))), some (.d (.bl true)), y7] m = .ok (.nx [some (.d d), y1, z2, z3, y4, some (.d (.lst (iL r))), z6, z7]) m ∧ Rch c r ∧ grow r c = []
  | 0, _, _, _, _, h, _, _ => by omega
  | 1, _, _, _, _, h, _, _ => by omega
  | fuel + 2, reach, y2, y3, y7, h, hl, hR => by
    have hfl := hN.len
    have hsm := hN.small
    obtain ⟨z2, z3, e⟩ := duW_step hF hd reach (by omega) (by omega) y1 y2 y3 y4 (some (.d (.bl true))) y7 m
    have e1 : whileM (tst (getD 6)) duW (fuel + 2) [some (.d d), y1, y2, y3, y4, some (.d (.lst (iL reach))), some (.d (.bl true)), y7] m = whileM (tst (getD 6)) duW (fuel + 1) [some (.d d), y1, z2, z3, y4, some (.d (.lst (iL (reach ++ grow reach c)))), some (.d (.bl (!decide (grow reach c = [])))), some (.d (.lst (iL (grow reach c))))] m := by
      show (duW [some (.d d), y1, y2, y3, y4, some (.d (.lst (iL reach))), some (.d (.bl true)), y7] m).bind _ = _
      rw [e]
      rfl
    rw [e1]
    by_cases q : grow reach c = []
    · rw [q, List.append_nil]
      exact ⟨z2, z3, _, _, reach, rfl, hR, q⟩
    · have hlt := out_less q
      have hg := grow_len reach c
      rw [decide_eq_false q]
      exact duW_loop hF hd hN y1 y4 m (fuel + 1) _ _ _ _ (by omega) (by rw [List.length_append]; omega) (rch_grow hN hR)
end Pr
set_option maxRecDepth 100000
namespace Pr
open PySem Mi Pl
open L2 (Key)
abbrev LT : D := .tup [.ty "list", .ty "tuple"]
theorem isi_row {d : D} {xs : List D} (h : isRow d xs) (m : Mem) : isi (.d d) (.d LT) m = .ok (.bl true) m := by
  rcases h with rfl | rfl <;> rfl
theorem isi_scal {d : D} (h : Scal d) (m : Mem) : isi (.d d) (.d LT) m = .ok (.bl false) m := by
  cases h <;> rfl
theorem list_row {d : D} {xs : List D} (h : isRow d xs) (m : Mem) : listS (.d d) m = .ok xs m := by
  rcases h with rfl | rfl <;> rfl
theorem row_ix {d : D} {xs : List D} (h : isRow d xs) {a : Nat} {x : D} (ha : xs[a]? = some x) (m : Mem) : ixS (.d d) (.int (a : Int)) m = .ok x m := by
  have hl : a < xs.length := (List.getElem?_eq_some_iff.mp ha).1
  rcases h with rfl | rfl
  all_goals
    show (match L2.atI xs (a : Int) with | some d => M.pure d | none => bad : M D) m = _
    rw [atI_nat hl, ha]
    rfl
abbrev dcI : SD → M Fl := (ifV (orB (notB (tst (u2 isi (getS 2) (ofD (tupV (consV (kD (.ty "list")) (consV (kD (.ty "tuple")) nilV))))))) (c2 eqD (u1 lenS (getS 2)) (kD (.int 0)))) (retV (kD (.bl false))) nxV)
abbrev dcB : SD → M Fl := (seqM dcI (setV 1 (u2 addD (getD 1) (ofL (u1 listS (getS 2))))))
theorem dc_step {d : D} {xs : List D} (h : isRow d xs) (acc : List D) (hl : xs.length + acc.length ≤ 1000) (y0 y3 y4 y5 y6 y7 : Option S) (m : Mem) :
    dcB [y0, some (.d (.lst acc)), some (.d d), y3, y4, y5, y6, y7] m = .ok (if xs = [] then .rt (.bl false) else .nx [y0, some (.d (.lst (acc ++ xs))), some (.d d), y3, y4, y5, y6, y7]) m := by
  have h1 : notB (tst (u2 isi (getS 2) (ofD (tupV (consV (kD (.ty "list")) (consV (kD (.ty "tuple")) nilV)))))) [y0, some (.d (.lst acc)), some (.d d), y3, y4, y5, y6, y7] m = .ok false m :=
    notB_ok (b := true) (tst_ok ((u2_ok (f := isi) (a := .d d) (b := .d LT) (m' := m) (m'' := m) rfl rfl).trans (isi_row h m)))
  have h2 : c2 eqD (u1 lenS (getS 2)) (kD (.int 0)) [y0, some (.d (.lst acc)), some (.d d), y3, y4, y5, y6, y7] m = .ok (decide ((xs.length : Int) = 0)) m :=
    c2_ok (f := eqD) (a := .int (xs.length : Int)) (b := .int 0) (m' := m) (m'' := m) ((u1_ok (f := lenS) (a := .d d) (m' := m) rfl).trans (row_len h m)) rfl (eqD_int _ _ m)
  have h3 := orB_ok h1 (fun _ => h2)
  rw [Bool.false_or] at h3
  by_cases q : xs = []
  · rw [if_pos q]
    refine seq_rt ?_
    refine (if_ok h3).trans ?_
    rw [decide_eq_true (by rw [q]; rfl)]
    rfl
  · rw [if_neg q]
    have hp := List.length_pos_iff.mpr q
    have s1 : dcI [y0, some (.d (.lst acc)), some (.d d), y3, y4, y5, y6, y7] m = .ok (.nx [y0, some (.d (.lst acc)), some (.d d), y3, y4, y5, y6, y7]) m := by
      refine (if_ok h3).trans ?_
      rw [decide_eq_false (by omega)]
      rfl
    refine (seq_nx s1).trans (set_ok ?_)
    refine (u2_ok (f := addD) (a := .lst acc) (b := .lst xs) (m' := m) (m'' := m) rfl (ofL_ok ((u1_ok (f := listS) (a := .d d) (m' := m) rfl).trans (list_row h m)))).trans ?_
    show (if acc.length + xs.length ≤ 16777216 then M.pure (.lst (acc ++ xs)) else bad : M D) m = _
    rw [if_pos (by omega)]
    rfl
theorem dc_loop (y0 y3 y4 y5 y6 y7 : Option S) (m : Mem) : ∀ {ds : List D} {xss : List (List D)}, Rows ds xss → ∀ (acc : List D) (y2 : Option S), acc.length + xss.flatten.length ≤ 1000 →
    ((∀ xs ∈ xss, xs ≠ []) ∧ ∃ z2, forM (tgN 2) dcB ds [y0, some (.d (.lst acc)), y2, y3, y4, y5, y6, y7] m = .ok (.nx [y0, some (.d (.lst (acc ++ xss.flatten))), z2, y3, y4, y5, y6, y7]) m)
    ∨ ((∃ xs ∈ xss, xs = []) ∧ forM (tgN 2) dcB ds [y0, some (.d (.lst acc)), y2, y3, y4, y5, y6, y7] m = .ok (.rt (.bl false)) m) := by
  intro ds xss h
  induction h with
  | nil =>
    intro acc y2 _
    refine .inl ⟨by simp, y2, ?_⟩
    show _ = Out.ok (Fl.nx [y0, some (.d (.lst (acc ++ []))), y2, y3, y4, y5, y6, y7]) m
    rw [List.append_nil]
    rfl
  | @cons d xs ds xss f h ih =>
    intro acc y2 hl
    rw [List.flatten_cons, List.length_append] at hl
    have st := dc_step f acc (by omega) y0 y3 y4 y5 y6 y7 m
    have e1 : forM (tgN 2) dcB (d :: ds) [y0, some (.d (.lst acc)), y2, y3, y4, y5, y6, y7] m = (dcB [y0, some (.d (.lst acc)), some (.d d), y3, y4, y5, y6, y7] m).bind (fun fl => match fl with
      | .nx sd2 => forM (tgN 2) dcB ds sd2
      | .ct sd2 => forM (tgN 2) dcB ds sd2
      | .bk sd2 => M.pure (.nx sd2)
      | .rt v => M.pure (.rt v)) := rfl
    rw [e1, st]
    by_cases q : xs = []
    · rw [if_pos q]
      exact .inr ⟨⟨xs, List.mem_cons_self, q⟩, rfl⟩
    · rw [if_neg q]
      rcases ih (acc ++ xs) (some (.d d)) (by rw [List.length_append]; omega) with ⟨h1, z2, h2⟩ | ⟨⟨ys, hy, hq⟩, h2⟩
      · refine .inl ⟨fun ys hys => ?_, z2, ?_⟩
        · rcases List.mem_cons.mp hys with z | z
          · rw [z]; exact q
          · exact h1 ys z
        · refine h2.trans ?_
          rw [List.append_assoc]
          rfl
      · exact .inr ⟨⟨ys, List.mem_cons_of_mem _ hy, hq⟩, h2⟩
theorem tgt_two : ∀ n, n < 31 → tgt n = ((List.range n).map fun k : Nat => 0 - (n : Int) + k) ++ ((List.range n).map fun k : Nat => 1 + (k : Int)) := by decide +kernel
theorem isi_int {x : D} (h : Atom x) (m : Mem) : isi (.d x) (.d (.ty "int")) m = .ok (.bl (match x with | .int _ => true | .bl _ => true | _ => false)) m := by
  cases h <;> rfl
theorem isi_bool {x : D} (h : Atom x) (m : Mem) : isi (.d x) (.d (.ty "bool")) m = .ok (.bl (match x with | .bl _ => true | _ => false)) m := by
  cases h <;> rfl
theorem not_ints {xs : List D} : (!decide (xs.filter (fun x => !isI x) = [])) = !xs.all isI := by
  induction xs with
  | nil => rfl
  | cons x xs ih =>
    rw [List.filter_cons, List.all_cons]
    cases isI x with
    | true => simpa using ih
    | false => rfl
theorem all_flat : ∀ {xss : List (List D)}, xss.flatten.all isI = xss.all fun xs => xs.all isI
  | [] => rfl
  | xs :: xss => by rw [List.flatten_cons, List.all_append, List.all_cons, all_flat]
abbrev dc1 : SD → M Bool := (orB (notB (tst (u2 isi (getS 0) (ofD (tupV (consV (kD (.ty "list")) (consV (kD (.ty "tuple")) nilV))))))) (c2 eqD (u1 lenS (getS 0)) (kD (.int 0))))
theorem due_cut_scal {d : D} (h : Scal d) (m : Mem) : F__law_due_cut [.d d] m = .ok (.bl false) m := by
  have h1 : dc1 [some (.d d), none, none, none, none, none, none, none] m = .ok true m :=
    orB_ok (a := true) (b := true) (notB_ok (b := false) (tst_ok ((u2_ok (f := isi) (a := .d d) (b := .d LT) (m' := m) (m'' := m) rfl rfl).trans (isi_scal h m)))) (fun z => by cases z)
  have e : G__law_due_cut [some (.d d), none, none, none, none, none, none, none] m = .ok (.rt (.bl false)) m := by
    unfold G__law_due_cut
    refine seq_rt ?_
    refine (if_ok h1).trans ?_
    rfl
  have := fn_rt (n := 8) (g := G__law_due_cut) (args := [.d d]) (m := m) e
  rw [take_self] at this
  exact this
abbrev dc2 : SD → M Bool := (orB (c2 neD (ofL (lcM [3] (seqI (getD 1)) (tgN 3) (orB (notB (tst (u2 isi (getS 3) (ofD (kD (.ty "int")))))) (tst (u2 isi (getS 3) (ofD (kD (.ty "bool")))))) (getD 3))) (ofL (lstV nilV))) (c2 gtD (u1 lenS (getS 1)) (kD (.int 60))))
theorem dc2_ok {xs : List D} (ha : ∀ x ∈ xs, Atom x) (hl : xs.length ≤ 1000) (y0 y2 y3 y4 y5 y6 y7 : Option S) (m : Mem) :
    dc2 [y0, some (.d (.lst xs)), y2, y3, y4, y5, y6, y7] m = .ok (!xs.all isI || decide (60 < xs.length)) m := by
  have a1 : lcM [3] (seqI (getD 1)) (tgN 3) (orB (notB (tst (u2 isi (getS 3) (ofD (kD (.ty "int")))))) (tst (u2 isi (getS 3) (ofD (kD (.ty "bool")))))) (getD 3) [y0, some (.d (.lst xs)), y2, y3, y4, y5, y6, y7] m = .ok (xs.filter fun x => !isI x) m := by
    have := lc_spec (vs := [3]) (fi := seqI (getD 1)) (gt := tgN 3) (gc := (orB (notB (tst (u2 isi (getS 3) (ofD (kD (.ty "int")))))) (tst (u2 isi (getS 3) (ofD (kD (.ty "bool"))))))) (ge := getD 3) (sd := [y0, some (.d (.lst xs)), y2, y3, y4, y5, y6, y7]) (m := m) (ds := xs) (fun x => !isI x) (fun d => d) rfl (fun x hx => by
      refine ⟨[y0, some (.d (.lst xs)), y2, some (.d x), y4, y5, y6, y7], rfl, ?_, fun _ => rfl⟩
      have hx' := ha x hx
      have b1 := notB_ok (tst_ok ((u2_ok (f := isi) (fa := getS 3) (fb := ofD (kD (.ty "int"))) (sd := [y0, some (.d (.lst xs)), y2, some (.d x), y4, y5, y6, y7]) (a := .d x) (b := .d (.ty "int")) (m := m) (m' := m) (m'' := m) rfl rfl).trans (isi_int hx' m)))
      have b2 := tst_ok ((u2_ok (f := isi) (fa := getS 3) (fb := ofD (kD (.ty "bool"))) (sd := [y0, some (.d (.lst xs)), y2, some (.d x), y4, y5, y6, y7]) (a := .d x) (b := .d (.ty "bool")) (m := m) (m' := m) (m'' := m) rfl rfl).trans (isi_bool hx' m))
      refine (orB_ok b1 fun _ => b2).trans ?_
      cases hx' <;> rfl) (by omega)
    rw [this, List.map_id'']
    exact fun _ => rfl
  refine orB_ok ?_ (fun _ => ?_)
  · rw [← not_ints]
    exact c2_ok (f := neD) (a := .lst (xs.filter fun x => !isI x)) (b := .lst []) (m' := m) (m'' := m) (ofL_ok a1) rfl (ne_nil (fun x hx => ha x (List.mem_filter.mp hx).1) m)
  · refine c2_ok (f := gtD) (a := .int (xs.length : Int)) (b := .int 60) (m' := m) (m'' := m) rfl rfl ?_
    show Out.ok (D.bl (decide ((60 : Int) < (xs.length : Int)))) m = _
    refine congrArg (fun z => Out.ok (D.bl z) m) ?_
    by_cases q : 60 < xs.length
    · rw [decide_eq_true q, decide_eq_true (by omega)]
    · rw [decide_eq_false q, decide_eq_false (by omega)]
theorem due_cut_row {d : D} {ds : List D} {xss : List (List D)} (g : GoodR d ds xss) (m : Mem) : ∃ b, F__law_due_cut [.d d] m = .ok (.bl b) m ∧ (b = true ↔ CutD d) := by
  obtain ⟨hd, hr, ha, hs, hf⟩ := g
  have hlen := hr.length
  have hat : ∀ x ∈ xss.flatten, Atom x := fun x hx => by
    obtain ⟨xs, h1, h2⟩ := List.mem_flatten.mp hx
    exact ha xs h1 x h2
  have fin : ∀ b, G__law_due_cut [some (.d d), none, none, none, none, none, none, none] m = .ok (.rt (.bl b)) m → F__law_due_cut [.d d] m = .ok (.bl b) m := fun b e => by
    have := fn_rt (n := 8) (g := G__law_due_cut) (args := [.d d]) (m := m) e
    rw [take_self] at this
    exact this
  have h1 : dc1 [some (.d d), none, none, none, none, none, none, none] m = .ok (false || decide ((ds.length : Int) = 0)) m :=
    orB_ok (notB_ok (b := true) (tst_ok ((u2_ok (f := isi) (a := .d d) (b := .d LT) (m' := m) (m'' := m) rfl rfl).trans (isi_row hd m)))) (fun _ =>
      c2_ok (f := eqD) (a := .int (ds.length : Int)) (b := .int 0) (m' := m) (m'' := m) ((u1_ok (f := lenS) (a := .d d) (m' := m) rfl).trans (row_len hd m)) rfl (eqD_int _ _ m))
  rw [Bool.false_or] at h1
  have no : (∀ c n, isCutD d c → IsC c n → False) → ∀ b, b = false → (b = true ↔ CutD d) := fun h b hb => by
    subst hb
    exact ⟨fun z => (Bool.false_ne_true z).elim, fun ⟨c, n, h1, h2⟩ => (h c n h1 h2).elim⟩
  have same : ∀ c n, isCutD d c → IsC c n → xss = c.map fun l => iL l := by
    rintro c n ⟨ds', h3, h4⟩ _
    have := row_fun hd h4
    subst this
    exact faces_rows h3 hr
  by_cases q0 : ds.length = 0
  · refine ⟨false, fin _ ?_, no ?_ _ rfl⟩
    · unfold G__law_due_cut
      refine seq_rt ((if_ok h1).trans ?_)
      rw [decide_eq_true (by omega)]
      rfl
    · intro c n h3 h4
      have := congrArg List.length (same c n h3 h4)
      rw [List.length_map, ← hlen, q0] at this
      exact h4.ne (List.eq_nil_of_length_eq_zero this.symm)
  have s1 : ifV dc1 (retV (kD (.bl false))) nxV [some (.d d), none, none, none, none, none, none, none] m = .ok (.nx [some (.d d), none, none, none, none, none, none, none]) m := by
    refine (if_ok h1).trans ?_
    rw [decide_eq_false (by omega)]
    rfl
  have s2 : setV 1 (ofL (lstV nilV)) [some (.d d), none, none, none, none, none, none, none] m = .ok (.nx [some (.d d), some (.d (.lst [])), none, none, none, none, none, none]) m := rfl
  rcases dc_loop (some (.d d)) none none none none none m hr [] none (by rw [List.length_nil]; omega) with ⟨hne, z2, s3⟩ | ⟨⟨xs, hx, hq⟩, s3⟩
  rotate_left
  · refine ⟨false, fin _ ?_, no ?_ _ rfl⟩
    · unfold G__law_due_cut
      exact (seq_nx s1).trans ((seq_nx s2).trans (seq_rt ((for_ok (row_items hd m)).trans s3)))
    · intro c n h3 h4
      rw [same c n h3 h4] at hx
      obtain ⟨l, hl, e⟩ := List.mem_map.mp hx
      have e2 : iL l = iL [] := by rw [e, hq]; rfl
      exact h4.nef l hl (iL_inj e2)
  rw [List.nil_append] at s3
  have h4 := dc2_ok hat hs (some (.d d)) z2 none none none none none m
  by_cases q1 : (!xss.flatten.all isI || decide (60 < xss.flatten.length)) = true
  · refine ⟨false, fin _ ?_, no ?_ _ rfl⟩
    · unfold G__law_due_cut
      refine (seq_nx s1).trans ((seq_nx s2).trans ((seq_nx ((for_ok (row_items hd m)).trans s3)).trans (seq_rt ((if_ok h4).trans ?_))))
      rw [q1]
      rfl
    · intro c n h3 h5
      have e := same c n h3 h5
      have hfl : xss.flatten.length = 2 * n := by rw [e, flat_len]; exact h5.nums.len
      have hall : xss.flatten.all isI = true := by
        rw [all_flat, e, List.all_map, List.all_eq_true]
        intro l _
        show (iL l).all isI = true
        rw [List.all_eq_true]
        intro x hx
        obtain ⟨k, _, rfl⟩ := List.mem_map.mp hx
        rfl
      rw [hall, hfl] at q1
      have hsm := h5.nums.small
      rw [decide_eq_false (by omega)] at q1
      cases q1
  have q1' : (!xss.flatten.all isI || decide (60 < xss.flatten.length)) = false := by simpa using q1
  rw [q1'] at h4
  have q2 := Bool.or_eq_false_iff.mp q1'
  have hall : xss.flatten.all isI = true := by simpa using q2.1
  have h60 : ¬ 60 < xss.flatten.length := of_decide_eq_false q2.2
  have hok : xss.all okRow = true := by
    rw [all_flat, List.all_eq_true] at hall
    rw [List.all_eq_true]
    intro xs hx
    unfold okRow
    rw [hall xs hx, Bool.and_true, decide_eq_false (by
      intro z
      exact hne xs hx (List.eq_nil_of_length_eq_zero z))]
    rfl
  obtain ⟨c, hF, e, hnf⟩ := rows_faces hr hok
  have efl : xss.flatten = iL c.flatten := by
    rw [e]
    clear e hok hF hnf hall
    induction c with
    | nil => rfl
    | cons F c ih =>
      rw [List.map_cons, List.flatten_cons, List.flatten_cons, ih]
      unfold iL
      rw [List.map_append]
  have hcl : c.flatten.length ≤ 60 := by
    rw [efl, List.length_map] at h60
    omega
  have hc : c ≠ [] := by
    rintro rfl
    exact q0 hF.length
  have uniq : ∀ c' n, isCutD d c' → IsC c' n → c' = c := by
    rintro c' n ⟨ds', h3, h4⟩ _
    have := row_fun hd h4
    subst this
    exact faces_fun h3 hF
  rw [efl] at s3 h4
  have s4 : ifV dc2 (retV (kD (.bl false))) nxV [some (.d d), some (.d (.lst (iL c.flatten))), z2, none, none, none, none, none] m = .ok (.nx [some (.d d), some (.d (.lst (iL c.flatten))), z2, none, none, none, none, none]) m := (if_ok h4).trans rfl
  have s5 : setV 4 (u2 divD (u1 lenS (getS 1)) (kD (.int 2))) [some (.d d), some (.d (.lst (iL c.flatten))), z2, none, none, none, none, none] m = .ok (.nx [some (.d d), some (.d (.lst (iL c.flatten))), z2, none, some (.d (.int ((c.flatten.length / 2 : Nat) : Int))), none, none, none]) m :=
    set_ok ((u2_ok (f := divD) (a := .int (c.flatten.length : Int)) (b := .int 2) (m' := m) (m'' := m) ((u1_ok (f := lenS) (a := .d (.lst (iL c.flatten))) (m' := m) rfl).trans (lst_len _ m)) rfl).trans (half_nat _ m))
  have h6 : c2 neD (ofL (u1 sortedS (getS 1))) (u2 addD (ofL (lr2 (u2 subD (kD (.int 0)) (getD 4)) (kD (.int 0)))) (ofL (lr2 (kD (.int 1)) (u2 addD (getD 4) (kD (.int 1)))))) [some (.d d), some (.d (.lst (iL c.flatten))), z2, none, some (.d (.int ((c.flatten.length / 2 : Nat) : Int))), none, none, none] m = .ok (!numsOk c) m := by
    have hn30 : c.flatten.length / 2 ≤ 30 := by omega
    have eN : numsOk c = decide (sortI c.flatten = tgt (c.flatten.length / 2)) := by
      unfold numsOk
      rw [decide_eq_true hn30, Bool.true_and]
    rw [eN]
    generalize c.flatten.length / 2 = n at hn30
    refine c2_ok (f := neD) (a := .lst (iL (sortI c.flatten))) (b := .lst (iL (tgt n))) (m' := m) (m'' := m) (ofL_ok ((u1_ok (f := sortedS) (a := .d (.lst (iL c.flatten))) (m' := m) rfl).trans (sorted_ints _ m))) ?_ (neD_ints _ _ m)
    have r1 : lr2 (u2 subD (kD (.int 0)) (getD 4)) (kD (.int 0)) [some (.d d), some (.d (.lst (iL c.flatten))), z2, none, some (.d (.int (n : Int))), none, none, none] m = .ok (iL ((List.range n).map fun k : Nat => 0 - (n : Int) + k)) m := by
      refine (lr2_ok (a := 0 - (n : Int)) (b := 0) (m' := m) (m'' := m) rfl rfl).trans ((rng_ok (by omega) (by omega) (by omega) (by omega) m).trans ?_)
      unfold rngL iL
      rw [List.map_map, show ((0 : Int) - (0 - (n : Int))).toNat = n by omega]
      rfl
    have r2 : lr2 (kD (.int 1)) (u2 addD (getD 4) (kD (.int 1))) [some (.d d), some (.d (.lst (iL c.flatten))), z2, none, some (.d (.int (n : Int))), none, none, none] m = .ok (iL ((List.range n).map fun k : Nat => 1 + (k : Int))) m := by
      refine (lr2_ok (a := 1) (b := (n : Int) + 1) (m' := m) (m'' := m) rfl rfl).trans ((rng_ok (by omega) (by omega) (by omega) (by omega) m).trans ?_)
      unfold rngL iL
      rw [List.map_map, show ((n : Int) + 1 - 1).toNat = n by omega]
      rfl
    refine (u2_ok (f := addD) (ofL_ok r1) (ofL_ok r2)).trans ?_
    rw [add_lists _ _ (by rw [List.length_map, List.length_map, List.length_range]; omega) m, ← tgt_two n (by omega)]
  cases hnum : numsOk c with
  | false =>
    rw [hnum] at h6
    refine ⟨false, fin _ ?_, no ?_ _ rfl⟩
    · unfold G__law_due_cut
      exact (seq_nx s1).trans ((seq_nx s2).trans ((seq_nx ((for_ok (row_items hd m)).trans s3)).trans ((seq_nx s4).trans ((seq_nx s5).trans (seq_rt ((if_ok h6).trans rfl))))))
    · intro c' n h7 h8
      have := uniq c' n h7 h8
      subst this
      rw [numsOk_iff.mpr ⟨n, h8.nums⟩] at hnum
      cases hnum
  | true =>
    rw [hnum] at h6
    obtain ⟨n, hN⟩ := numsOk_iff.mp hnum
    have hfl := hN.len
    have hsm := hN.small
    obtain ⟨F0, c', rfl⟩ : ∃ F0 c', c = F0 :: c' := by
      cases c with
      | nil => exact absurd rfl hc
      | cons F0 c' => exact ⟨F0, c', rfl⟩
    have s6 : asgV (tupV (consV (ofL (u1 listS (ofD (u2 ixS (getS 0) (kD (.int 0)))))) (consV (kD (.bl true)) nilV))) (tgT 2 (tgC (tgN 5) (tgC (tgN 6) tg0))) [some (.d d), some (.d (.lst (iL (F0 :: c').flatten))), z2, none, some (.d (.int (((F0 :: c').flatten.length / 2 : Nat) : Int))), none, none, none] m
        = .ok (.nx [some (.d d), some (.d (.lst (iL (F0 :: c').flatten))), z2, none, some (.d (.int (((F0 :: c').flatten.length / 2 : Nat) : Int))), some (.d (.lst (iL F0))), some (.d (.bl true)), none]) m := by
      generalize (F0 :: c').flatten = fl
      cases hF with
      | cons f hF =>
        rename_i d0 ds0
        refine asg_ok (tup2_ok (a := .lst (iL F0)) (b := .bl true) (m' := m) (m'' := m) (ofL_ok ((u1_ok (f := listS) (a := .d d0) (m' := m) (ofD_ok ?_)).trans (list_face f m))) rfl) rfl
        refine (u2_ok (f := ixS) (a := .d d) (b := .int 0) (m' := m) (m'' := m) rfl rfl).trans ?_
        exact row_ix hd (a := 0) rfl m
    have hR0 : Rch (F0 :: c') F0 := by
      refine ⟨fun x hx => ⟨flat_mem List.mem_cons_self hx, ?_⟩, fun F hF e he => ?_⟩
      · rw [fidx_eq (i := 0) (F := F0) hN.nd rfl hx]
        exact .refl _
      · have : F0 = F := by simpa using hF
        rw [this]
        exact he
    have hF0 : F0.length ≤ (F0 :: c').flatten.length := by rw [List.flatten_cons, List.length_append]; omega
    have hout : outside (F0 :: c') F0 ≤ (F0 :: c').flatten.length := List.length_filter_le _ _
    obtain ⟨w2, w3, w6, w7, r, s7, hR, hg⟩ := duW_loop hF hd hN (some (.d (.lst (iL (F0 :: c').flatten)))) (some (.d (.int (((F0 :: c').flatten.length / 2 : Nat) : Int)))) m 100000 F0 z2 none none (by omega) (by omega) hR0
    refine ⟨decide ((F0 :: c').flatten.filter (fun e => !r.contains e) = []), fin _ ?_, ?_⟩
    · unfold G__law_due_cut
      refine (seq_nx s1).trans ((seq_nx s2).trans ((seq_nx ((for_ok (row_items hd m)).trans s3)).trans ((seq_nx s4).trans ((seq_nx s5).trans ((seq_nx ((if_ok h6).trans rfl)).trans ((seq_nx s6).trans ((seq_nx s7).trans (ret_ok ?_))))))))
      have := lc_sel (vs := [3]) (fi := seqI (getD 1)) (gt := tgN 3) (gc := c2S (inS true) (getD 3) (getS 5)) (ge := getD 3) (m := m) (l := (F0 :: c').flatten) (sd := [some (.d d), some (.d (.lst (iL (F0 :: c').flatten))), w2, w3, some (.d (.int (((F0 :: c').flatten.length / 2 : Nat) : Int))), some (.d (.lst (iL r))), w6, w7]) (fun e => !r.contains e) rfl (fun e => ⟨[some (.d d), some (.d (.lst (iL (F0 :: c').flatten))), w2, some (.d (.int e)), some (.d (.int (((F0 :: c').flatten.length / 2 : Nat) : Int))), some (.d (.lst (iL r))), w6, w7], rfl, by
        exact c2S_ok (a := .int e) (s := .d (.lst (iL r))) (m' := m) (m'' := m) rfl rfl (in_ints true _ _ m), rfl⟩) (by omega)
      exact (u2_ok (f := eqD) (ofL_ok this) (show ofL (lstV nilV) _ m = .ok (.lst (iL [])) m from rfl)).trans (eqD_ints _ _ m)
    · rw [decide_eq_true_eq, List.filter_eq_nil_iff]
      have e1 : (∀ a ∈ (F0 :: c').flatten, ¬ (!r.contains a) = true) ↔ ∀ x ∈ (F0 :: c').flatten, x ∈ r := by
        refine forall_congr' fun x => forall_congr' fun _ => ?_
        simp
      rw [e1, rch_all hN hnf hR hg]
      constructor
      · exact fun h => ⟨F0 :: c', n, ⟨ds, hF, hd⟩, hc, hnf, hN, h⟩
      · rintro ⟨c2, n', h3, h4⟩
        have := uniq c2 n' h3 h4
        subst this
        exact h4.conn
theorem due_cut {d : D} (h : Good d) (m : Mem) : ∃ b, F__law_due_cut [.d d] m = .ok (.bl b) m ∧ (b = true ↔ CutD d) := by
  rcases h with h | ⟨ds, xss, g⟩
  · exact ⟨false, due_cut_scal h m, fun z => (Bool.false_ne_true z).elim, fun z => absurd z (cut_of_scal h)⟩
  · exact due_cut_row g m
end Pr
set_option maxRecDepth 100000
namespace Pr
open PySem Mi Pl
open L2 (Key)
/-! ### the memory changes at the draws alone -/
def IsDr (n : Nat) (m : Mem) : Prop := ∃ la re ce tu, m[n]? = some (.drw la re ce tu)
def DrS (n : Nat) (m m' : Mem) : Prop := ∃ la re ce tu, m' = m.set n (.drw la re ce tu)
theorem IsDr.lt {n : Nat} {m : Mem} (h : IsDr n m) : n < m.length := by
  obtain ⟨_, _, _, _, e⟩ := h
  exact (List.getElem?_eq_some_iff.mp e).1
theorem DrS.refl {n : Nat} {m : Mem} (h : IsDr n m) : DrS n m m := by
  obtain ⟨la, re, ce, tu, e⟩ := h
  exact ⟨la, re, ce, tu, (set_self e).symm⟩
theorem DrS.trans {n : Nat} {m m' m'' : Mem} (h : DrS n m m') (h' : DrS n m' m'') : DrS n m m'' := by
  obtain ⟨_, _, _, _, rfl⟩ := h
  obtain ⟨la, re, ce, tu, rfl⟩ := h'
  exact ⟨la, re, ce, tu, by rw [List.set_set]⟩
theorem DrS.is {n : Nat} {m m' : Mem} (h : DrS n m m') (i : IsDr n m) : IsDr n m' := by
  obtain ⟨la, re, ce, tu, rfl⟩ := h
  exact ⟨la, re, ce, tu, List.getElem?_set_self i.lt⟩
theorem DrS.len {n : Nat} {m m' : Mem} (h : DrS n m m') : m'.length = m.length := by
  obtain ⟨la, re, ce, tu, rfl⟩ := h
  exact List.length_set
theorem DrS.cut {n : Nat} {m m' : Mem} (h : DrS n m m') : m'.take m.length = m' := by
  rw [← h.len]
  exact List.take_length
theorem IsDr.app {n : Nat} {m : Mem} (h : IsDr n m) (x : Mem) : IsDr n (m ++ x) := by
  have hl := h.lt
  obtain ⟨la, re, ce, tu, e⟩ := h
  exact ⟨la, re, ce, tu, by rw [List.getElem?_append_left hl]; exact e⟩
theorem DrS.app {n : Nat} {m x m' : Mem} (h : DrS n (m ++ x) m') (hn : n < m.length) : ∃ m1, m' = m1 ++ x ∧ DrS n m m1 := by
  obtain ⟨la, re, ce, tu, rfl⟩ := h
  exact ⟨_, List.set_append_left _ _ hn, la, re, ce, tu, rfl⟩
theorem take_c {n : Nat} {m : Mem} (h : IsDr n m) {k : Nat} (h1 : 0 < k) (h2 : k ≤ 1000000) : ∃ (r : Nat) (m' : Mem), F__law_take [.h n, .d (.int (k : Int))] m = .ok (.int (r : Int)) m' ∧ DrS n m m' ∧ r < k := by
  obtain ⟨la, re, ce, tu, e⟩ := h
  obtain ⟨r, la', re', tu', h3, h4, h5⟩ := take_at e (k : Int) ⟨by omega, by omega⟩
  exact ⟨r.toNat, _, by rw [h3, show ((r.toNat : Nat) : Int) = r by omega], ⟨la', re', ce, tu', rfl⟩, by omega⟩
/-! ### slices -/
theorem cut_from (ds : List D) (k : Nat) : cutD ds (some (k : Int)) none = ds.drop k := by
  unfold cutD
  rw [HT.sIx_nat, HT.sIx_none]
  by_cases q : k ≤ ds.length
  · rw [Nat.min_eq_left q, List.take_of_length_le]
    rw [List.length_drop]
    omega
  · rw [Nat.min_eq_right (by omega), List.drop_eq_nil_of_le (Nat.le_refl _), List.drop_eq_nil_of_le (by omega), List.take_nil]
theorem cut_to (ds : List D) (k : Nat) : cutD ds none (some (k : Int)) = ds.take k := by
  unfold cutD
  rw [HT.sIx_nat, HT.sIx_none, List.drop_zero, Nat.sub_zero]
  by_cases q : k ≤ ds.length
  · rw [Nat.min_eq_left q]
  · rw [Nat.min_eq_right (by omega), List.take_of_length_le (Nat.le_refl _), List.take_of_length_le (by omega)]
theorem cut_last (ds : List D) : cutD ds none (some (-1)) = ds.take (ds.length - 1) := by
  unfold cutD
  rw [HT.sIx_none, List.drop_zero, Nat.sub_zero]
  show ds.take ((-1 + (ds.length : Int)).toNat) = _
  congr 1
  omega
theorem from_ok {ga : SD → M S} {fb : SD → M D} {sd : SD} {ds : List D} {k : Nat} {m : Mem} (h1 : ga sd m = .ok (.d (.lst ds)) m) (h2 : fb sd m = .ok (.int (k : Int)) m) : cutM ga (someI fb) noI sd m = .ok (ds.drop k) m := by
  show (ga sd m).bind _ = _
  rw [h1]
  show ((fb sd m).bind _).bind _ = _
  rw [h2]
  show Out.ok (cutD ds (some (k : Int)) none) m = _
  rw [cut_from]
theorem to_ok {ga : SD → M S} {fb : SD → M D} {sd : SD} {ds : List D} {k : Nat} {m : Mem} (h1 : ga sd m = .ok (.d (.lst ds)) m) (h2 : fb sd m = .ok (.int (k : Int)) m) : cutM ga noI (someI fb) sd m = .ok (ds.take k) m := by
  show (ga sd m).bind _ = _
  rw [h1]
  show ((fb sd m).bind _).bind _ = _
  rw [h2]
  show Out.ok (cutD ds none (some (k : Int))) m = _
  rw [cut_to]
theorem last_ok {ga : SD → M S} {sd : SD} {ds : List D} {m : Mem} (h1 : ga sd m = .ok (.d (.lst ds)) m) : cutM ga noI (someI (negV (kD (.int 1)))) sd m = .ok (ds.take (ds.length - 1)) m := by
  show (ga sd m).bind _ = _
  rw [h1]
  show Out.ok (cutD ds none (some (-1))) m = _
  rw [cut_last]
theorem add_lst (a b : List D) (h : a.length + b.length ≤ 16777216) (m : Mem) : addD (.lst a) (.lst b) m = .ok (.lst (a ++ b)) m := by
  show (if a.length + b.length ≤ 16777216 then M.pure (.lst (a ++ b)) else bad : M D) m = _
  rw [if_pos h]
  rfl
/-! ### a face is turned -/
theorem turned {n : Nat} {m : Mem} (h : IsDr n m) {xs : List D} (h1 : xs ≠ []) (h2 : xs.length ≤ 1000) : ∃ (r : Nat) (m' : Mem), F__law_turned_face [.h n, .d (.lst xs)] m = .ok (.lst (xs.drop r ++ xs.take r)) m' ∧ DrS n m m' := by
  obtain ⟨r, m', h3, h4, h5⟩ := take_c h (List.length_pos_iff.mpr h1) (by omega)
  refine ⟨r, m', ?_, h4⟩
  have e : G__law_turned_face [some (.h n), some (.d (.lst xs)), none] m = .ok (.rt (.lst (xs.drop r ++ xs.take r))) m' := by
    have s1 : setV 2 (callM 2 F__law_take (consV (getS 0) (consV (ofD (u1 lenS (getS 1))) nilV))) [some (.h n), some (.d (.lst xs)), none] m = .ok (.nx [some (.h n), some (.d (.lst xs)), some (.d (.int (r : Int)))]) m' :=
      set_ok ((call2_ok (s1 := .h n) (s2 := .d (.int (xs.length : Int))) (m' := m) (m'' := m) rfl (ofD_ok rfl)).trans h3)
    unfold G__law_turned_face
    refine (seq_nx s1).trans (ret_ok ?_)
    refine (u2_ok (f := addD) (ofL_ok (from_ok rfl rfl)) (ofL_ok (to_ok rfl rfl))).trans (add_lst _ _ ?_ m')
    rw [List.length_drop, List.length_take]
    omega
  have := fn_rt (n := 3) (g := G__law_turned_face) (args := [.h n, .d (.lst xs)]) (m := m) e
  rw [h4.cut] at this
  exact this
end Pr
set_option maxRecDepth 100000
namespace Pr
open PySem Mi Pl
open L2 (Key)
def Full (c : List (List Int)) (k : Nat) : Prop := ∀ e : Int, e ∈ c.flatten ↔ e ≠ 0 ∧ -(k : Int) ≤ e ∧ e ≤ k
structure Inv (g : Int) (c : List (List Int)) (k : Nat) : Prop where
  cut : Cut g c
  full : Full c k
  pos : 1 ≤ k
theorem Inv.nums {g : Int} {c : List (List Int)} {k : Nat} (h : Inv g c k) (hk : k ≤ 30) : Nums c k :=
  ⟨(List.perm_ext_iff_of_nodup h.cut.nd (nodup_tgt k)).mpr fun e => (h.full e).trans mem_tgt.symm, hk⟩
theorem Inv.some {g : Int} {c : List (List Int)} {k : Nat} (h : Inv g c k) : c ≠ [] := by
  rintro rfl
  have hp := h.pos
  have := (h.full 1).mpr ⟨by decide, by omega, by omega⟩
  cases this
theorem Inv.perm {g : Int} {c d : List (List Int)} {k : Nat} (h : Inv g c k) (p : c.Perm d) : Inv g d k :=
  ⟨h.cut.perm p, fun e => (p.flatten.mem_iff.symm.trans (h.full e)), h.pos⟩
theorem Inv.rot {g : Int} {c : List (List Int)} {A B : List Int} {k : Nat} (h : Inv g (c ++ [A ++ B]) k) : Inv g (c ++ [B ++ A]) k := by
  refine ⟨h.cut.rot, fun e => ?_, h.pos⟩
  rw [← h.full e]
  simp only [List.flatten_append, List.flatten_cons, List.flatten_nil, List.append_nil, List.mem_append]
  constructor
  · rintro (q | q | q)
    · exact .inl q
    · exact .inr (.inr q)
    · exact .inr (.inl q)
  · rintro (q | q | q)
    · exact .inl q
    · exact .inr (.inr q)
    · exact .inr (.inl q)
theorem Inv.split {g : Int} {c : List (List Int)} {A B : List Int} {k : Nat} (h : Inv g (c ++ [A ++ B]) k) (hA : A ≠ []) (hB : B ≠ []) : Inv g (c ++ [A ++ [(k : Int) + 1], -((k : Int) + 1) :: B]) (k + 1) := by
  have n1 : ((k : Int) + 1) ∉ (c ++ [A ++ B]).flatten := fun z => by have := (h.full _).mp z; omega
  have n2 : -((k : Int) + 1) ∉ (c ++ [A ++ B]).flatten := fun z => by have := (h.full _).mp z; omega
  refine ⟨h.cut.split hA hB (by omega) n1 n2, fun e => ?_, by omega⟩
  rw [(flat2 c A B ((k : Int) + 1)).mem_iff, List.mem_cons, List.mem_cons, h.full e]
  omega
theorem Inv.spur {g : Int} {c : List (List Int)} {A : List Int} {k : Nat} (h : Inv g (c ++ [A]) k) : Inv g (c ++ [A ++ [(k : Int) + 1, -((k : Int) + 1)]]) (k + 1) := by
  have n1 : ((k : Int) + 1) ∉ (c ++ [A]).flatten := fun z => by have := (h.full _).mp z; omega
  have n2 : -((k : Int) + 1) ∉ (c ++ [A]).flatten := fun z => by have := (h.full _).mp z; omega
  refine ⟨h.cut.spur (by omega) n1 n2, fun e => ?_, by omega⟩
  have e1 : e ∈ (c ++ [A ++ [(k : Int) + 1, -((k : Int) + 1)]]).flatten ↔ e ∈ (c ++ [A]).flatten ∨ e = (k : Int) + 1 ∨ e = -((k : Int) + 1) := by
    simp only [List.flatten_append, List.flatten_cons, List.flatten_nil, List.append_nil, List.mem_append, List.mem_cons, List.not_mem_nil, or_false]
    constructor
    · rintro (q | q | q | q)
      · exact .inl (.inl q)
      · exact .inl (.inr q)
      · exact .inr (.inl q)
      · exact .inr (.inr q)
    · rintro ((q | q) | q | q)
      · exact .inl q
      · exact .inr (.inl q)
      · exact .inr (.inr (.inl q))
      · exact .inr (.inr (.inr q))
  rw [e1, h.full e]
  omega
def ab (i : Int) : Int := if i < 0 then -i else i
/-- the numbers above the gone one come down by one -/
def clo (gone : Int) (e : Int) : Int := if ab e < gone then e else if 0 < e then e - 1 else e + 1
def opn (gone : Int) (e : Int) : Int := if ab e < gone then e else if 0 < e then e + 1 else e - 1
theorem ab_spec (e : Int) : (0 ≤ e ∧ ab e = e) ∨ (e < 0 ∧ ab e = -e) := by
  unfold ab
  split <;> omega
theorem clo_spec {g : Int} (hg : 0 < g) (e : Int) : (-g < e ∧ e < g ∧ clo g e = e) ∨ (g ≤ e ∧ clo g e = e - 1) ∨ (e ≤ -g ∧ clo g e = e + 1) := by
  have := ab_spec e
  unfold clo
  generalize ab e = a at this
  split
  · omega
  · split <;> omega
theorem opn_spec {g : Int} (hg : 0 < g) (e : Int) : (-g < e ∧ e < g ∧ opn g e = e) ∨ (g ≤ e ∧ opn g e = e + 1) ∨ (e ≤ -g ∧ opn g e = e - 1) := by
  have := ab_spec e
  unfold opn
  generalize ab e = a at this
  split
  · omega
  · split <;> omega
theorem Inv.join {g : Int} {c : List (List Int)} {A B : List Int} {f : Int} {k : Nat} (h : Inv g (c ++ [A ++ [f], -f :: B]) k) (ne : A ++ B ≠ []) : Inv g ((c ++ [A ++ B]).map (·.map (clo (ab f)))) (k - 1) := by
  have hcut := h.cut.join (by
    rcases A with _ | ⟨a, A⟩
    · exact .inr (by simpa using ne)
    · exact .inl (by simp))
  have hp := flat2 c A B f
  have hnd := hp.nodup_iff.mp h.cut.nd
  have hmem : ∀ e, e ∈ (c ++ [A ++ B]).flatten ↔ e ≠ 0 ∧ -(k : Int) ≤ e ∧ e ≤ k ∧ e ≠ f ∧ e ≠ -f := fun e => by
    have h1 := (hp.mem_iff (a := e)).symm.trans (h.full e)
    rw [List.mem_cons, List.mem_cons] at h1
    rw [List.nodup_cons, List.nodup_cons] at hnd
    constructor
    · intro q
      have := h1.mp (.inr (.inr q))
      refine ⟨this.1, this.2.1, this.2.2, fun z => ?_, fun z => ?_⟩
      · subst z; exact hnd.1 (List.mem_cons_of_mem _ q)
      · subst z; exact hnd.2.1 q
    · rintro ⟨a1, a2, a3, a4, a5⟩
      rcases h1.mpr ⟨a1, a2, a3⟩ with z | z | z
      · exact absurd z a4
      · exact absurd z a5
      · exact z
  have hf : f ≠ 0 ∧ -(k : Int) ≤ f ∧ f ≤ k := (h.full f).mp (hp.mem_iff.mpr List.mem_cons_self)
  have hk : 2 ≤ k := by
    obtain ⟨x, hx⟩ := List.exists_mem_of_ne_nil _ ne
    have hx2 : x ∈ (c ++ [A ++ B]).flatten := by
      rw [List.flatten_append]
      exact List.mem_append_right _ (by simpa using hx)
    have := (hmem x).mp hx2
    omega
  have hg : 0 < ab f := by have := ab_spec f; omega
  have hgk : ab f ≤ k := by have := ab_spec f; omega
  have hgf : ab f = f ∨ ab f = -f := by have := ab_spec f; omega
  generalize ab f = g0 at hg hgk hgf
  refine ⟨hcut.names (clo g0) (opn g0) (fun x hx => ?_) (fun x hx => ?_) (fun x hx => ?_), fun e => ?_, by omega⟩
  · have := (hmem x).mp hx
    have h1 := clo_spec hg x
    have h2 := clo_spec hg (-x)
    omega
  · have := (hmem x).mp hx
    have h1 := clo_spec hg x
    have h2 := opn_spec hg (clo g0 x)
    omega
  · have := (hmem x).mp hx
    have h1 := clo_spec hg x
    omega
  · have e1 : e ∈ ((c ++ [A ++ B]).map (·.map (clo g0))).flatten ↔ ∃ x ∈ (c ++ [A ++ B]).flatten, clo g0 x = e := by
      rw [← List.map_flatten, List.mem_map]
    rw [e1]
    clear e1
    constructor
    · rintro ⟨x, hx, rfl⟩
      have := (hmem x).mp hx
      have h1 := clo_spec hg x
      omega
    · rintro ⟨a1, a2, a3⟩
      have h1 := opn_spec hg e
      have h2 := clo_spec hg (opn g0 e)
      exact ⟨opn g0 e, (hmem _).mpr (by omega), by omega⟩
end Pr
set_option maxRecDepth 100000
namespace Pr
open PySem Mi Pl
open L2 (Key)
abbrev fL (c : List (List Int)) : List D := c.map fun F => D.lst (iL F)
abbrev cD (c : List (List Int)) : D := .lst (fL c)
theorem fL_faces : ∀ c : List (List Int), Faces (fL c) c
  | [] => .nil
  | F :: c => .cons (.inl rfl) (fL_faces c)
theorem cD_cut (c : List (List Int)) : isCutD (cD c) c := ⟨fL c, fL_faces c, .inl rfl⟩
theorem fL_len (c : List (List Int)) : (fL c).length = c.length := List.length_map _
abbrev cuB : SD → M Fl := (dropV (lm1 appS (getS 2) (ofL (lcM [4] (seqI (getD 3)) (tgN 4) yes (ifV (c2 ltD (u1 absS (getS 4)) (getD 1)) (getD 4) (ifV (c2 gtD (getD 4) (kD (.int 0))) (u2 subD (getD 4) (kD (.int 1))) (u2 addD (getD 4) (kD (.int 1)))))))))
theorem map_ints {vs : List Nat} {fi : SD → M (List D)} {gt : D → SD → M SD} {ge : SD → M D} {sd : SD} {m : Mem} {l : List Int} (f : Int → Int) (hi : fi sd m = .ok (iL l) m)
    (h : ∀ e ∈ l, ∃ sd2, gt (.int e) (wipeD sd vs) m = .ok sd2 m ∧ ge sd2 m = .ok (.int (f e)) m) (hl : l.length ≤ 16777216) : lcM vs fi gt yes ge sd m = .ok (iL (l.map f)) m := by
  have := lc_map (vs := vs) (gt := gt) (ge := ge) (sd := sd) (m := m) (ds := iL l) (fun d => match d with | .int e => .int (f e) | x => x) hi (fun d hd => by
    obtain ⟨e, he, rfl⟩ := List.mem_map.mp hd
    exact h e he) (by rw [List.length_map]; omega)
  rw [this]
  unfold iL
  rw [List.map_map, List.map_map]
  rfl
theorem clo_at {sd : SD} {m : Mem} {e g : Int} (h4 : getD 4 sd m = .ok (.int e) m) (h4s : getS 4 sd m = .ok (.d (.int e)) m) (h1 : getD 1 sd m = .ok (.int g) m) :
    ifV (c2 ltD (u1 absS (getS 4)) (getD 1)) (getD 4) (ifV (c2 gtD (getD 4) (kD (.int 0))) (u2 subD (getD 4) (kD (.int 1))) (u2 addD (getD 4) (kD (.int 1)))) sd m = .ok (.int (clo g e)) m := by
  refine (if_ok (c2_ok (f := ltD) (a := .int (ab e)) (b := .int g) (r := decide (ab e < g)) (m' := m) (m'' := m) ((u1_ok (f := absS) h4s).trans (abs_int e m)) h1 rfl)).trans ?_
  unfold clo
  by_cases q : ab e < g
  · rw [if_pos (decide_eq_true q), if_pos q]
    exact h4
  · rw [if_neg (fun z => q (of_decide_eq_true z)), if_neg q]
    refine (if_ok (c2_ok (f := gtD) (a := .int e) (b := .int 0) (m' := m) (m'' := m) h4 rfl (gt0 e m))).trans ?_
    by_cases q2 : 0 < e
    · rw [if_pos (decide_eq_true q2), if_pos q2]
      exact (u2_ok (f := subD) (b := .int 1) (m'' := m) h4 rfl).trans rfl
    · rw [if_neg (fun z => q2 (of_decide_eq_true z)), if_neg q2]
      exact (u2_ok (f := addD) (b := .int 1) (m'' := m) h4 rfl).trans rfl
theorem cu_loop (g : Int) (a : Option S) (m : Mem) : ∀ (c : List (List Int)) (acc : List D) (y3 y4 : Option S), acc.length + c.length ≤ 100000 → c.flatten.length ≤ 1000 →
    ∃ z3 z4, forM (tgN 3) cuB (fL c) [a, some (.d (.int g)), some (.h m.length), y3, y4] (m ++ [MO.lst acc]) = .ok (.nx [a, some (.d (.int g)), some (.h m.length), z3, z4]) (m ++ [MO.lst (acc ++ fL (c.map (·.map (clo g))))])
  | [], acc, y3, y4, _, _ => ⟨y3, y4, by
    show _ = Out.ok _ (m ++ [MO.lst (acc ++ [])])
    rw [List.append_nil]
    rfl⟩
  | F :: c, acc, y3, y4, hl, hf => by
    rw [List.length_cons] at hl
    rw [List.flatten_cons, List.length_append] at hf
    obtain ⟨z3, z4, e⟩ := cu_loop g a m c (acc ++ [.lst (iL (F.map (clo g)))]) (some (.d (.lst (iL F)))) y4 (by rw [List.length_append, List.length_singleton]; omega) (by omega)
    refine ⟨z3, z4, ?_⟩
    show (cuB [a, some (.d (.int g)), some (.h m.length), some (.d (.lst (iL F))), y4] (m ++ [MO.lst acc])).bind _ = _
    have st : cuB [a, some (.d (.int g)), some (.h m.length), some (.d (.lst (iL F))), y4] (m ++ [MO.lst acc]) = .ok (.nx [a, some (.d (.int g)), some (.h m.length), some (.d (.lst (iL F))), y4]) (m ++ [MO.lst (acc ++ [.lst (iL (F.map (clo g)))])]) := by
      refine app_ok (d := .lst (iL (F.map (clo g)))) rfl (ofL_ok ?_) (by omega)
      exact map_ints (vs := [4]) (clo g) rfl (fun e _ => ⟨[a, some (.d (.int g)), some (.h m.length), some (.d (.lst (iL F))), some (.d (.int e))], rfl, clo_at rfl rfl rfl⟩) (by omega)
    rw [st]
    refine e.trans ?_
    rw [List.append_assoc]
    rfl
theorem getD_end {i : Nat} {sd : SD} {m : Mem} {ds : List D} (h : sd[i]? = some (some (.h m.length))) : getD i sd (m ++ [MO.lst ds]) = .ok (.lst ds) (m ++ [MO.fz (.lst ds)]) := by
  unfold getD
  rw [h]
  exact fz_at m ds
theorem closed_up (c : List (List Int)) (g : Int) (m : Mem) (h1 : c.length ≤ 1000) (h2 : c.flatten.length ≤ 1000) : F__law_closed_up [.d (cD c), .d (.int g)] m = .ok (cD (c.map (·.map (clo g)))) m := by
  obtain ⟨z3, z4, e⟩ := cu_loop g (some (.d (cD c))) m c [] none none (by rw [List.length_nil]; omega) h2
  have e1 : G__law_closed_up [some (.d (cD c)), some (.d (.int g)), none, none, none] m = .ok (.rt (cD (c.map (·.map (clo g))))) (m ++ [MO.fz (.lst (fL (c.map (·.map (clo g)))))]) := by
    unfold G__law_closed_up
    have s1 : setX 2 (newV (lstV nilV)) [some (.d (cD c)), some (.d (.int g)), none, none, none] m = .ok (.nx [some (.d (cD c)), some (.d (.int g)), some (.h m.length), none, none]) (m ++ [MO.lst []]) := rfl
    refine (seq_nx s1).trans ((seq_nx ((for_ok (ds := fL c) (m' := m ++ [MO.lst []]) rfl).trans e)).trans (ret_ok ?_))
    rw [List.nil_append]
    exact getD_end rfl
  have := fn_rt (n := 5) (g := G__law_closed_up) (args := [.d (cD c), .d (.int g)]) (m := m) e1
  rw [take_app] at this
  exact this
end Pr
set_option maxRecDepth 100000
namespace Pr
open PySem Mi Pl
open L2 (Key)
theorem par_ok {i j : Nat} {ga gb : SD → M S} {sd : SD} {a b : S} {m m' m'' : Mem} (h1 : ga sd m = .ok a m') (h2 : gb sd m' = .ok b m'') : parV i j ga gb sd m = .ok (.nx ((sd.set i (some a)).set j (some b))) m'' := by
  show (ga sd m).bind _ = _
  rw [h1]
  show (gb sd m').bind _ = _
  rw [h2]
  rfl
theorem split_at {α : Type} {c : List α} {r : Nat} (h : r < c.length) : ∃ c1 F c2, c = c1 ++ F :: c2 ∧ c1.length = r :=
  ⟨c.take r, c[r], c.drop (r + 1), by rw [List.getElem_cons_drop, List.take_append_drop], by rw [List.length_take]; omega⟩
theorem list1_ok {g : SD → M D} {sd : SD} {a : D} {m m' : Mem} (h : g sd m = .ok a m') : ofL (lstV (consV g nilV)) sd m = .ok (.lst [a]) m' := by
  show ((((g sd m).bind _).bind _).bind _) = _
  rw [h]
  rfl
theorem list2_ok {g g2 : SD → M D} {sd : SD} {a b : D} {m m' m'' : Mem} (h : g sd m = .ok a m') (h2 : g2 sd m' = .ok b m'') : ofL (lstV (consV g (consV g2 nilV))) sd m = .ok (.lst [a, b]) m'' := by
  show ((((g sd m).bind _).bind _).bind _) = _
  rw [h]
  show (((((g2 sd m').bind _).bind _).bind _).bind _) = _
  rw [h2]
  rfl
def AbL {g : Int} {c : List (List Int)} {k : Nat} (h : Inv g c k) (hk : k ≤ 10) : c.flatten.length ≤ 20 ∧ c.length ≤ 20 := by
  have h1 := (h.nums (by omega)).len
  have h2 := few_faces h.cut.ne
  omega
abbrev rcA : SD → M Fl := (ifV (andB (c2 eqD (getD 4) (kD (.int 0))) (andB (c2 ltD (getD 6) (getD 2)) (c2 gtD (u1 lenS (getS 5)) (kD (.int 1))))) (seqM (setV 10 (u2 addD (kD (.int 1)) (callM 2 F__law_take (consV (getS 0) (consV (ofD (u2 subD (u1 lenS (getS 5)) (kD (.int 1)))) nilV)))))
    (retV (u2 addD (getD 8) (ofL (lstV (consV (u2 addD (ofL (cutM (getS 5) noI (someI (getD 10)))) (ofL (lstV (consV (getD 9) nilV)))) (consV (u2 addD (ofL (lstV (consV (u2 subD (kD (.int 0)) (getD 9)) nilV))) (ofL (cutM (getS 5) (someI (getD 10)) noI))) nilV))))))) nxV)
abbrev sd8 (n : Nat) (c R : List (List Int)) (G : List Int) (way k at_ : Nat) (y10 y11 y12 y13 : Option S) : SD := [some (.h n), some (.d (cD c)), some (.d (.int 10)), some (.d (cD c)), some (.d (.int (way : Int))), some (.d (.lst (iL G))), some (.d (.int (k : Int))), some (.d (.int (at_ : Int))), some (.d (cD R)), some (.d (.int ((k : Int) + 1))), y10, y11, y12, y13]
theorem fL_app (a b : List (List Int)) : fL (a ++ b) = fL a ++ fL b := List.map_append
theorem iL_app (a b : List Int) : iL (a ++ b) = iL a ++ iL b := List.map_append
/-- what a recut may give -/
def Ok (n : Nat) (g : Int) (m : Mem) (r : Out Fl) : Prop := ∃ c' k' m', r = .ok (.rt (cD c')) m' ∧ DrS n m m' ∧ Inv g c' k' ∧ k' ≤ 10
theorem rcA_run {n : Nat} {m : Mem} (h : IsDr n m) {g : Int} {c R : List (List Int)} {G : List Int} {way k at_ : Nat} (hI : Inv g (R ++ [G]) k) (hk : k ≤ 10) :
    rcA (sd8 n c R G way k at_ none none none none) m = .ok (.nx (sd8 n c R G way k at_ none none none none)) m ∨ Ok n g m (rcA (sd8 n c R G way k at_ none none none none) m) := by
  have hb := AbL hI hk
  have hGl : G.length ≤ 20 := by
    have := hb.1
    rw [List.flatten_append, List.length_append] at this
    simp at this
    omega
  have hRl : R.length ≤ 20 := by
    have := hb.2
    rw [List.length_append] at this
    omega
  have hc : andB (c2 eqD (getD 4) (kD (.int 0))) (andB (c2 ltD (getD 6) (getD 2)) (c2 gtD (u1 lenS (getS 5)) (kD (.int 1)))) (sd8 n c R G way k at_ none none none none) m = .ok (decide ((way : Int) = 0) && (decide ((k : Int) < 10) && decide ((1 : Int) < G.length))) m :=
    andB_ok (c2_ok (f := eqD) (a := .int (way : Int)) (b := .int 0) (m' := m) (m'' := m) rfl rfl (eqD_int _ _ m)) fun _ =>
      andB_ok (c2_ok (f := ltD) (a := .int (k : Int)) (b := .int 10) (m' := m) (m'' := m) rfl rfl rfl) fun _ =>
        c2_ok (f := gtD) (a := .int (G.length : Int)) (b := .int 1) (m' := m) (m'' := m) ((u1_ok (f := lenS) (a := .d (.lst (iL G))) (m' := m) rfl).trans (lst_len G m)) rfl rfl
  by_cases q : (decide ((way : Int) = 0) && (decide ((k : Int) < 10) && decide ((1 : Int) < G.length))) = true
  · right
    rw [q] at hc
    have qk : (k : Int) < 10 := of_decide_eq_true (Bool.and_eq_true_iff.mp (Bool.and_eq_true_iff.mp q).2).1
    have qG : (1 : Int) < G.length := of_decide_eq_true (Bool.and_eq_true_iff.mp (Bool.and_eq_true_iff.mp q).2).2
    obtain ⟨r, m', h3, h4, h5⟩ := take_c h (k := G.length - 1) (by omega) (by omega)
    have s1 : setV 10 (u2 addD (kD (.int 1)) (callM 2 F__law_take (consV (getS 0) (consV (ofD (u2 subD (u1 lenS (getS 5)) (kD (.int 1)))) nilV)))) (sd8 n c R G way k at_ none none none none) m = .ok (.nx (sd8 n c R G way k at_ (some (.d (.int ((r + 1 : Nat) : Int)))) none none none)) m' := by
      have e0 : u2 subD (u1 lenS (getS 5)) (kD (.int 1)) (sd8 n c R G way k at_ none none none none) m = .ok (.int ((G.length - 1 : Nat) : Int)) m := by
        refine (u2_ok (f := subD) (a := .int (G.length : Int)) (b := .int 1) (m' := m) (m'' := m) ((u1_ok (f := lenS) (a := .d (.lst (iL G))) (m' := m) rfl).trans (lst_len G m)) rfl).trans ?_
        show Out.ok (D.int ((G.length : Int) - 1)) m = _
        refine congrArg (fun z => Out.ok (D.int z) m) ?_
        omega
      refine set_ok ((u2_ok (f := addD) (a := .int 1) (b := .int (r : Int)) (m' := m) (m'' := m') rfl ((call2_ok (s1 := .h n) (m' := m) rfl (ofD_ok e0)).trans h3)).trans ?_)
      show Out.ok (D.int (1 + (r : Int))) m' = _
      refine congrArg (fun z => Out.ok (D.int z) m') ?_
      omega
    refine ⟨R ++ [G.take (r + 1) ++ [(k : Int) + 1], -((k : Int) + 1) :: G.drop (r + 1)], k + 1, m', ?_, h4, ?_, by omega⟩
    · refine (if_ok hc).trans ?_
      rw [if_pos rfl]
      refine (seq_nx s1).trans (ret_ok ?_)
      have e1 := (u2_ok (f := addD) (ofL_ok (to_ok (ga := getS 5) (fb := getD 10) (sd := sd8 n c R G way k at_ (some (.d (.int ((r + 1 : Nat) : Int)))) none none none) (ds := iL G) (k := r + 1) (m := m') rfl rfl)) (list1_ok (g := getD 9) (a := .int ((k : Int) + 1)) rfl)).trans (add_lst _ _ (by rw [List.length_take, List.length_map]; simp; omega) m')
      have e3 : u2 subD (kD (.int 0)) (getD 9) (sd8 n c R G way k at_ (some (.d (.int ((r + 1 : Nat) : Int)))) none none none) m' = .ok (.int (-((k : Int) + 1))) m' := by
        refine (u2_ok (f := subD) (a := .int 0) (b := .int ((k : Int) + 1)) (m' := m') (m'' := m') rfl rfl).trans ?_
        show Out.ok (D.int (0 - ((k : Int) + 1))) m' = _
        rw [Int.zero_sub]
      have e2 := (u2_ok (f := addD) (list1_ok e3) (ofL_ok (from_ok (ga := getS 5) (fb := getD 10) (sd := sd8 n c R G way k at_ (some (.d (.int ((r + 1 : Nat) : Int)))) none none none) (ds := iL G) (k := r + 1) (m := m') rfl rfl))).trans (add_lst _ _ (by rw [List.length_drop, List.length_map]; simp; omega) m')
      refine (u2_ok (f := addD) (a := cD R) (m' := m') rfl (list2_ok e1 e2)).trans ((add_lst _ _ (by rw [fL_len]; simp; omega) m').trans ?_)
      refine congrArg (fun z => Out.ok (D.lst z) m') ?_
      rw [fL_app]
      refine congrArg (fun z => fL R ++ z) ?_
      show [D.lst ((iL G).take (r + 1) ++ [.int ((k : Int) + 1)]), D.lst ([.int (-((k : Int) + 1))] ++ (iL G).drop (r + 1))] = [D.lst (iL (G.take (r + 1) ++ [(k : Int) + 1])), D.lst (iL (-((k : Int) + 1) :: G.drop (r + 1)))]
      simp only [iL, List.map_append, List.map_take, List.map_drop, List.map_cons, List.map_nil, List.cons_append, List.nil_append]
    · refine Inv.split ?_ ?_ ?_
      · rw [List.take_append_drop]
        exact hI
      · intro z
        have := congrArg List.length z
        rw [List.length_take, List.length_nil] at this
        omega
      · intro z
        have := congrArg List.length z
        rw [List.length_drop, List.length_nil] at this
        omega
  · left
    refine (if_ok hc).trans ?_
    rw [if_neg q]
    rfl
abbrev rcBV : SD → M Fl := (ifV (andB (c2 eqD (getD 4) (kD (.int 1))) (c2 ltD (getD 6) (getD 2))) (retV (u2 addD (getD 8) (ofL (lstV (consV (u2 addD (getD 5) (ofL (lstV (consV (getD 9) (consV (u2 subD (kD (.int 0)) (getD 9)) nilV))))) nilV))))) nxV)
theorem small_of {g : Int} {R : List (List Int)} {G : List Int} {k : Nat} (hI : Inv g (R ++ [G]) k) (hk : k ≤ 10) : G.length ≤ 20 ∧ R.length ≤ 20 ∧ R.flatten.length ≤ 20 := by
  have hb := AbL hI hk
  have h1 := hb.1
  have h2 := hb.2
  rw [List.flatten_append, List.length_append] at h1
  rw [List.length_append] at h2
  simp at h1
  simp at h2
  refine ⟨by omega, by omega, ?_⟩
  rw [List.length_flatten]
  omega
theorem rcB_run {n : Nat} {m : Mem} (h : IsDr n m) {g : Int} {c R : List (List Int)} {G : List Int} {way k at_ : Nat} (hI : Inv g (R ++ [G]) k) (hk : k ≤ 10) :
    rcBV (sd8 n c R G way k at_ none none none none) m = .ok (.nx (sd8 n c R G way k at_ none none none none)) m ∨ Ok n g m (rcBV (sd8 n c R G way k at_ none none none none) m) := by
  obtain ⟨hGl, hRl, _⟩ := small_of hI hk
  have hc : andB (c2 eqD (getD 4) (kD (.int 1))) (c2 ltD (getD 6) (getD 2)) (sd8 n c R G way k at_ none none none none) m = .ok (decide ((way : Int) = 1) && decide ((k : Int) < 10)) m :=
    andB_ok (c2_ok (f := eqD) (a := .int (way : Int)) (b := .int 1) (m' := m) (m'' := m) rfl rfl (eqD_int _ _ m)) fun _ =>
      c2_ok (f := ltD) (a := .int (k : Int)) (b := .int 10) (m' := m) (m'' := m) rfl rfl rfl
  by_cases q : (decide ((way : Int) = 1) && decide ((k : Int) < 10)) = true
  · right
    rw [q] at hc
    have qk : (k : Int) < 10 := of_decide_eq_true (Bool.and_eq_true_iff.mp q).2
    refine ⟨R ++ [G ++ [(k : Int) + 1, -((k : Int) + 1)]], k + 1, m, ?_, DrS.refl h, hI.spur, by omega⟩
    refine (if_ok hc).trans ?_
    rw [if_pos rfl]
    refine ret_ok ?_
    have e3 : u2 subD (kD (.int 0)) (getD 9) (sd8 n c R G way k at_ none none none none) m = .ok (.int (-((k : Int) + 1))) m := by
      refine (u2_ok (f := subD) (a := .int 0) (b := .int ((k : Int) + 1)) (m' := m) (m'' := m) rfl rfl).trans ?_
      show Out.ok (D.int (0 - ((k : Int) + 1))) m = _
      rw [Int.zero_sub]
    have e2 := (u2_ok (f := addD) (fa := getD 5) (a := .lst (iL G)) (m' := m) rfl (list2_ok (g := getD 9) (a := .int ((k : Int) + 1)) (m' := m) rfl e3)).trans (add_lst _ _ (by rw [List.length_map]; simp; omega) m)
    refine (u2_ok (f := addD) (a := cD R) (m' := m) rfl (list1_ok e2)).trans ((add_lst _ _ (by rw [fL_len]; simp; omega) m).trans ?_)
    refine congrArg (fun z => Out.ok (D.lst z) m) ?_
    rw [fL_app]
    refine congrArg (fun z => fL R ++ z) ?_
    show [D.lst (iL G ++ [.int ((k : Int) + 1), .int (-((k : Int) + 1))])] = [D.lst (iL (G ++ [(k : Int) + 1, -((k : Int) + 1)]))]
    simp only [iL, List.map_append, List.map_cons, List.map_nil]
  · left
    refine (if_ok hc).trans ?_
    rw [if_neg q]
    rfl
end Pr
set_option maxRecDepth 100000
namespace Pr
open PySem Mi Pl
open L2 (Key)
theorem indexL_iL (x : Int) : ∀ (l : List Int) (i : Nat), x ∈ l → ∃ j : Nat, indexL (.int x) i (iL l) = some (i + j) ∧ l[j]? = some x
  | [], i, h => by cases h
  | a :: l, i, h => by
    have e : indexL (.int x) i (iL (a :: l)) = if eqF (.int a) (.int x) = true then some i else indexL (.int x) (i + 1) (iL l) := rfl
    by_cases q : a = x
    · refine ⟨0, ?_, by simp [q]⟩
      rw [e, if_pos (by simp [eqF, q])]
      rfl
    · obtain ⟨j, h1, h2⟩ := indexL_iL x l (i + 1) ((List.mem_cons.mp h).resolve_left (fun z => q z.symm))
      refine ⟨j + 1, ?_, by simpa using h2⟩
      rw [e, if_neg (by simp [eqF, q]), h1]
      congr 1
      omega
theorem flat_iL (l : List Int) : (iL l).all flatD = true := by
  rw [List.all_eq_true]
  intro d hd
  obtain ⟨k, _, rfl⟩ := List.mem_map.mp hd
  rfl
theorem idx_iL {l : List Int} {x : Int} (h : x ∈ l) (m : Mem) : ∃ j : Nat, indexS (.d (.lst (iL l))) (.int x) m = .ok (.int (j : Int)) m ∧ l[j]? = some x := by
  obtain ⟨j, h1, h2⟩ := indexL_iL x l 0 h
  refine ⟨j, ?_, h2⟩
  show (if (flatD (.int x) && (iL l).all flatD) = true then (match indexL (.int x) 0 (iL l) with | some j => M.pure (.int j) | none => bad) else bad : M D) m = _
  rw [flat_iL, h1]
  simp only [Nat.zero_add]
  rfl
theorem ix_last (A : List Int) (f : Int) (m : Mem) : ixS (.d (.lst (iL (A ++ [f])))) (.int (-1)) m = .ok (.int f) m := by
  show (match L2.atI (iL (A ++ [f])) (-1) with | some d => M.pure d | none => bad : M D) m = _
  have : L2.atI (iL (A ++ [f])) (-1) = some (.int f) := by
    unfold L2.atI L2.ixN
    have hl : (iL (A ++ [f])).length = A.length + 1 := by rw [List.length_map, List.length_append]; rfl
    rw [hl]
    simp
    rw [if_pos (by omega)]
    simp [iL]
    rw [show (-1 + ((A.length : Int) + 1)).toNat = A.length by omega]
    simp
  rw [this]
  rfl
abbrev lastN : SD → M D := (u2 subD (kD (.int 0)) (u2 ixS (getS 5) (negV (kD (.int 1)))))
abbrev joB : SD → M Fl := (ifV (c2S (inS false) lastN (getS 12)) (seqM (setV 10 (idxV (getS 12) lastN))
    (seqM (setV 13 (u2 addD (u2 addD (ofL (cutM (getS 5) noI (someI (negV (kD (.int 1)))))) (ofL (cutM (getS 12) (someI (u2 addD (getD 10) (kD (.int 1)))) noI))) (ofL (cutM (getS 12) noI (someI (getD 10))))))
    (ifV (c2 neD (getD 13) (ofL (lstV nilV))) (retV (callM 2 F__law_closed_up (consV (ofD (u2 addD (u2 addD (ofL (cutM (getS 8) noI (someI (getD 11)))) (ofL (cutM (getS 8) (someI (u2 addD (getD 11) (kD (.int 1)))) noI))) (ofL (lstV (consV (getD 13) nilV))))) (consV (ofD (u1 absS (ofD (u2 ixS (getS 5) (negV (kD (.int 1))))))) nilV)))) nxV))) nxV)
theorem joB_run {n : Nat} {m : Mem} (h : IsDr n m) {g : Int} {c R1 R2 : List (List Int)} {A O : List Int} {f : Int} {way k at_ : Nat} (hI : Inv g ((R1 ++ O :: R2) ++ [A ++ [f]]) k) (hk : k ≤ 10) (y10 y13 : Option S) :
    (∃ z10 z13, joB (sd8 n c (R1 ++ O :: R2) (A ++ [f]) way k at_ y10 (some (.d (.int (R1.length : Nat)))) (some (.d (.lst (iL O)))) y13) m = .ok (.nx (sd8 n c (R1 ++ O :: R2) (A ++ [f]) way k at_ z10 (some (.d (.int (R1.length : Nat)))) (some (.d (.lst (iL O)))) z13)) m)
      ∨ Ok n g m (joB (sd8 n c (R1 ++ O :: R2) (A ++ [f]) way k at_ y10 (some (.d (.int (R1.length : Nat)))) (some (.d (.lst (iL O)))) y13) m) := by
  obtain ⟨hGl, hRl, hRf⟩ := small_of hI hk
  have hO : O.length ≤ 20 := by
    rw [List.flatten_append, List.flatten_cons, List.length_append, List.length_append] at hRf
    omega
  have hlast : ∀ y10 y13, lastN (sd8 n c (R1 ++ O :: R2) (A ++ [f]) way k at_ y10 (some (.d (.int (R1.length : Nat)))) (some (.d (.lst (iL O)))) y13) m = .ok (.int (-f)) m := fun y10 y13 => by
    refine (u2_ok (f := subD) (a := .int 0) (b := .int f) (m' := m) (m'' := m) rfl ((u2_ok (f := ixS) (a := .d (.lst (iL (A ++ [f])))) (b := .int (-1)) (m' := m) (m'' := m) rfl rfl).trans (ix_last A f m))).trans ?_
    show Out.ok (D.int (0 - f)) m = _
    rw [Int.zero_sub]
  have hc : c2S (inS false) lastN (getS 12) (sd8 n c (R1 ++ O :: R2) (A ++ [f]) way k at_ y10 (some (.d (.int (R1.length : Nat)))) (some (.d (.lst (iL O)))) y13) m = .ok (O.contains (-f)) m := c2S_ok (f := inS false) (fa := lastN) (fb := getS 12) (hlast y10 y13) (s := .d (.lst (iL O))) (m'' := m) rfl (in_ints false _ _ m)
  by_cases q : O.contains (-f) = true
  · have hm : -f ∈ O := by simpa using q
    obtain ⟨j, h1, h2⟩ := idx_iL hm m
    have hj : j < O.length := (List.getElem?_eq_some_iff.mp h2).1
    have eO : O = O.take j ++ -f :: O.drop (j + 1) := by
      have : O[j] = -f := (List.getElem?_eq_some_iff.mp h2).2
      rw [← this, List.getElem_cons_drop, List.take_append_drop]
    have s1 : setV 10 (idxV (getS 12) lastN) (sd8 n c (R1 ++ O :: R2) (A ++ [f]) way k at_ y10 (some (.d (.int (R1.length : Nat)))) (some (.d (.lst (iL O)))) y13) m = .ok (.nx (sd8 n c (R1 ++ O :: R2) (A ++ [f]) way k at_ (some (.d (.int (j : Int)))) (some (.d (.int (R1.length : Nat)))) (some (.d (.lst (iL O)))) y13)) m := by
      refine set_ok ?_
      show Out.bind (lastN _ m) (fun d => indexS (.d (.lst (iL O))) d) = _
      rw [hlast y10 y13]
      exact h1
    have s2 : setV 13 (u2 addD (u2 addD (ofL (cutM (getS 5) noI (someI (negV (kD (.int 1)))))) (ofL (cutM (getS 12) (someI (u2 addD (getD 10) (kD (.int 1)))) noI))) (ofL (cutM (getS 12) noI (someI (getD 10))))) (sd8 n c (R1 ++ O :: R2) (A ++ [f]) way k at_ (some (.d (.int (j : Int)))) (some (.d (.int (R1.length : Nat)))) (some (.d (.lst (iL O)))) y13) m
        = .ok (.nx (sd8 n c (R1 ++ O :: R2) (A ++ [f]) way k at_ (some (.d (.int (j : Int)))) (some (.d (.int (R1.length : Nat)))) (some (.d (.lst (iL O)))) (some (.d (.lst (iL (A ++ (O.drop (j + 1) ++ O.take j)))))))) m := by
      refine set_ok ?_
      have a1 := last_ok (ga := getS 5) (sd := sd8 n c (R1 ++ O :: R2) (A ++ [f]) way k at_ (some (.d (.int (j : Int)))) (some (.d (.int (R1.length : Nat)))) (some (.d (.lst (iL O)))) y13) (ds := iL (A ++ [f])) (m := m) rfl
      have a2 := from_ok (ga := getS 12) (fb := u2 addD (getD 10) (kD (.int 1))) (sd := sd8 n c (R1 ++ O :: R2) (A ++ [f]) way k at_ (some (.d (.int (j : Int)))) (some (.d (.int (R1.length : Nat)))) (some (.d (.lst (iL O)))) y13) (ds := iL O) (k := j + 1) (m := m) rfl rfl
      have a3 := to_ok (ga := getS 12) (fb := getD 10) (sd := sd8 n c (R1 ++ O :: R2) (A ++ [f]) way k at_ (some (.d (.int (j : Int)))) (some (.d (.int (R1.length : Nat)))) (some (.d (.lst (iL O)))) y13) (ds := iL O) (k := j) (m := m) rfl rfl
      have e1 : (iL (A ++ [f])).take ((iL (A ++ [f])).length - 1) = iL A := by
        rw [List.length_map, List.length_append, List.length_singleton, Nat.add_sub_cancel]
        unfold iL
        rw [List.map_append, List.take_left' (List.length_map _)]
      rw [e1] at a1
      have b1 := (u2_ok (f := addD) (ofL_ok a1) (ofL_ok a2)).trans (add_lst _ _ (by rw [List.length_drop, List.length_map, List.length_map]; simp at hGl; omega) m)
      refine (u2_ok (f := addD) b1 (ofL_ok a3)).trans ((add_lst _ _ (by rw [List.length_append, List.length_drop, List.length_take, List.length_map, List.length_map]; simp at hGl; omega) m).trans ?_)
      refine congrArg (fun z => Out.ok (D.lst z) m) ?_
      simp only [iL, List.map_append, List.map_take, List.map_drop, List.append_assoc]
    have hc3 : c2 neD (getD 13) (ofL (lstV nilV)) (sd8 n c (R1 ++ O :: R2) (A ++ [f]) way k at_ (some (.d (.int (j : Int)))) (some (.d (.int (R1.length : Nat)))) (some (.d (.lst (iL O)))) (some (.d (.lst (iL (A ++ (O.drop (j + 1) ++ O.take j))))))) m = .ok (!decide (A ++ (O.drop (j + 1) ++ O.take j) = [])) m :=
      c2_ok (f := neD) (a := .lst (iL (A ++ (O.drop (j + 1) ++ O.take j)))) (b := .lst (iL [])) (m' := m) (m'' := m) rfl rfl (neD_ints _ _ m)
    rw [q] at hc
    by_cases q2 : A ++ (O.drop (j + 1) ++ O.take j) = []
    · left
      refine ⟨some (.d (.int (j : Int))), some (.d (.lst (iL (A ++ (O.drop (j + 1) ++ O.take j))))), ?_⟩
      refine (if_ok hc).trans ?_
      rw [if_pos rfl]
      refine (seq_nx s1).trans ((seq_nx s2).trans ((if_ok hc3).trans ?_))
      rw [decide_eq_true q2]
      rfl
    · right
      have hJ : Inv g ((R1 ++ R2) ++ [A ++ [f], -f :: (O.drop (j + 1) ++ O.take j)]) k := by
        have p1 : ((R1 ++ O :: R2) ++ [A ++ [f]]).Perm (((R1 ++ R2) ++ [A ++ [f]]) ++ [O]) := by
          have : (R1 ++ O :: R2).Perm ((R1 ++ R2) ++ [O]) := by
            rw [List.append_assoc]
            exact List.Perm.append_left R1 (List.perm_append_singleton O R2).symm
          refine (this.append_right _).trans ?_
          rw [List.append_assoc (R1 ++ R2), List.append_assoc (R1 ++ R2)]
          exact List.Perm.append_left _ (List.Perm.swap _ _ [])
        have h5 := hI.perm p1
        rw [eO] at h5
        have h6 := h5.rot
        rw [List.append_assoc] at h6
        exact h6
      have h7 := hJ.join q2
      refine ⟨_, k - 1, m, ?_, DrS.refl h, h7, by omega⟩
      refine (if_ok hc).trans ?_
      rw [if_pos rfl]
      refine (seq_nx s1).trans ((seq_nx s2).trans ((if_ok hc3).trans ?_))
      rw [decide_eq_false q2]
      refine ret_ok ?_
      have b1 := to_ok (ga := getS 8) (fb := getD 11) (sd := sd8 n c (R1 ++ O :: R2) (A ++ [f]) way k at_ (some (.d (.int (j : Int)))) (some (.d (.int (R1.length : Nat)))) (some (.d (.lst (iL O)))) (some (.d (.lst (iL (A ++ (O.drop (j + 1) ++ O.take j))))))) (ds := fL (R1 ++ O :: R2)) (k := R1.length) (m := m) rfl rfl
      have b2 := from_ok (ga := getS 8) (fb := u2 addD (getD 11) (kD (.int 1))) (sd := sd8 n c (R1 ++ O :: R2) (A ++ [f]) way k at_ (some (.d (.int (j : Int)))) (some (.d (.int (R1.length : Nat)))) (some (.d (.lst (iL O)))) (some (.d (.lst (iL (A ++ (O.drop (j + 1) ++ O.take j))))))) (ds := fL (R1 ++ O :: R2)) (k := R1.length + 1) (m := m) rfl rfl
      have e1 : (fL (R1 ++ O :: R2)).take R1.length = fL R1 := by
        rw [fL_app, List.take_left' (fL_len R1)]
      have e2 : (fL (R1 ++ O :: R2)).drop (R1.length + 1) = fL R2 := by
        rw [fL_app, ← fL_len R1, ← List.drop_drop, List.drop_left' rfl]
        rfl
      rw [e1] at b1
      rw [e2] at b2
      have hRl2 : R1.length + R2.length ≤ 20 := by
        rw [List.length_append, List.length_cons] at hRl
        omega
      have b3 := (u2_ok (f := addD) (ofL_ok b1) (ofL_ok b2)).trans (add_lst _ _ (by rw [fL_len, fL_len]; omega) m)
      have b4 := (u2_ok (f := addD) b3 (list1_ok (g := getD 13) (a := .lst (iL (A ++ (O.drop (j + 1) ++ O.take j)))) (m' := m) rfl)).trans (add_lst _ _ (by rw [List.length_append, fL_len, fL_len, List.length_singleton]; omega) m)
      have b5 : fL R1 ++ fL R2 ++ [D.lst (iL (A ++ (O.drop (j + 1) ++ O.take j)))] = fL ((R1 ++ R2) ++ [A ++ (O.drop (j + 1) ++ O.take j)]) := by
        rw [fL_app, fL_app]
        rfl
      rw [b5] at b4
      refine (call2_ok (s1 := .d (cD ((R1 ++ R2) ++ [A ++ (O.drop (j + 1) ++ O.take j)]))) (s2 := .d (.int (ab f))) (m' := m) (m'' := m) (ofD_ok b4) (ofD_ok ((u1_ok (f := absS) (ofD_ok ((u2_ok (f := ixS) (a := .d (.lst (iL (A ++ [f])))) (b := .int (-1)) (m' := m) (m'' := m) rfl rfl).trans (ix_last A f m)))).trans (abs_int f m)))).trans ?_
      have hb := AbL h7 (by omega)
      rw [List.length_map] at hb
      refine closed_up _ _ m (by omega) ?_
      have : (((R1 ++ R2) ++ [A ++ (O.drop (j + 1) ++ O.take j)]).map (·.map (clo (ab f)))).flatten.length = ((R1 ++ R2) ++ [A ++ (O.drop (j + 1) ++ O.take j)]).flatten.length := by
        rw [← List.map_flatten, List.length_map]
      omega
  · left
    refine ⟨y10, y13, (if_ok hc).trans ?_⟩
    rw [if_neg q]
    rfl
end Pr
set_option maxRecDepth 100000
namespace Pr
open PySem Mi Pl
open L2 (Key)
theorem jo_loop {n : Nat} {m : Mem} (h : IsDr n m) {g : Int} {c : List (List Int)} {A : List Int} {f : Int} {way k at_ : Nat} (hk : k ≤ 10) : ∀ (R2 R1 : List (List Int)) (y10 y11 y12 y13 : Option S), Inv g ((R1 ++ R2) ++ [A ++ [f]]) k →
    (∃ z10 z11 z12 z13, forM (tgT 2 (tgC (tgN 11) (tgC (tgN 12) tg0))) joB ((List.range R2.length).map fun i : Nat => .tup [.int ((R1.length + i : Nat) : Int), .lst (iL (R2.getD i []))]) (sd8 n c (R1 ++ R2) (A ++ [f]) way k at_ y10 y11 y12 y13) m = .ok (.nx (sd8 n c (R1 ++ R2) (A ++ [f]) way k at_ z10 z11 z12 z13)) m)
      ∨ Ok n g m (forM (tgT 2 (tgC (tgN 11) (tgC (tgN 12) tg0))) joB ((List.range R2.length).map fun i : Nat => .tup [.int ((R1.length + i : Nat) : Int), .lst (iL (R2.getD i []))]) (sd8 n c (R1 ++ R2) (A ++ [f]) way k at_ y10 y11 y12 y13) m)
  | [], R1, y10, y11, y12, y13, _ => .inl ⟨y10, y11, y12, y13, rfl⟩
  | O :: R2, R1, y10, y11, y12, y13, hI => by
    have e0 : forM (tgT 2 (tgC (tgN 11) (tgC (tgN 12) tg0))) joB ((List.range (O :: R2).length).map fun i : Nat => .tup [.int ((R1.length + i : Nat) : Int), .lst (iL ((O :: R2).getD i []))]) (sd8 n c (R1 ++ O :: R2) (A ++ [f]) way k at_ y10 y11 y12 y13) m
        = (joB (sd8 n c (R1 ++ O :: R2) (A ++ [f]) way k at_ y10 (some (.d (.int (R1.length : Nat)))) (some (.d (.lst (iL O)))) y13) m).bind (fun fl => match fl with
          | .nx sd2 => forM (tgT 2 (tgC (tgN 11) (tgC (tgN 12) tg0))) joB ((List.range R2.length).map fun i : Nat => .tup [.int (((R1 ++ [O]).length + i : Nat) : Int), .lst (iL (R2.getD i []))]) sd2
          | .ct sd2 => forM (tgT 2 (tgC (tgN 11) (tgC (tgN 12) tg0))) joB ((List.range R2.length).map fun i : Nat => .tup [.int (((R1 ++ [O]).length + i : Nat) : Int), .lst (iL (R2.getD i []))]) sd2
          | .bk sd2 => M.pure (.nx sd2)
          | .rt v => M.pure (.rt v)) := by
      have e1 : ((List.range (O :: R2).length).map fun i : Nat => (.tup [.int ((R1.length + i : Nat) : Int), .lst (iL ((O :: R2).getD i []))] : D)) = .tup [.int (R1.length : Nat), .lst (iL O)] :: ((List.range R2.length).map fun i : Nat => .tup [.int (((R1 ++ [O]).length + i : Nat) : Int), .lst (iL (R2.getD i []))]) := by
        rw [List.length_cons, List.range_succ_eq_map, List.map_cons, List.map_map]
        refine congr (congrArg _ rfl) ?_
        refine List.map_congr_left fun i _ => ?_
        rw [List.length_append, List.length_singleton]
        show (D.tup [.int ((R1.length + (i + 1) : Nat) : Int), .lst (iL (R2.getD i []))]) = _
        rw [show R1.length + (i + 1) = R1.length + 1 + i by omega]
      rw [e1]
      rfl
    rw [e0]
    rcases joB_run h (c := c) (way := way) (at_ := at_) hI hk y10 y13 with ⟨z10, z13, e⟩ | ⟨c', k', m', e, q⟩
    · rw [e]
      have := jo_loop h (c := c) (way := way) (at_ := at_) hk R2 (R1 ++ [O]) z10 (some (.d (.int (R1.length : Nat)))) (some (.d (.lst (iL O)))) z13 (by rw [List.append_assoc R1]; exact hI)
      rw [List.append_assoc R1] at this
      exact this
    · rw [e]
      exact .inr ⟨c', k', m', rfl, q⟩
abbrev rcC : SD → M Fl := (ifV (c2 eqD (getD 4) (kD (.int 2))) (forV (enumT (getD 8)) (tgT 2 (tgC (tgN 11) (tgC (tgN 12) tg0))) joB) nxV)
theorem enum_fL (R : List (List Int)) : enumL (fL R) = (List.range R.length).map fun i : Nat => .tup [.int ((([] : List (List Int)).length + i : Nat) : Int), .lst (iL (R.getD i []))] := by
  unfold enumL
  rw [fL_len]
  refine List.map_congr_left fun i hi => ?_
  have hi' := List.mem_range.mp hi
  have : (fL R).getD i .non = .lst (iL (R.getD i [])) := by
    rw [List.getD_eq_getElem?_getD, List.getD_eq_getElem?_getD, List.getElem?_map, List.getElem?_eq_getElem hi']
    rfl
  rw [this, List.length_nil, Nat.zero_add]
theorem rcC_run {n : Nat} {m : Mem} (h : IsDr n m) {g : Int} {c R : List (List Int)} {G : List Int} {way k at_ : Nat} (hI : Inv g (R ++ [G]) k) (hk : k ≤ 10) :
    (∃ z10 z11 z12 z13, rcC (sd8 n c R G way k at_ none none none none) m = .ok (.nx (sd8 n c R G way k at_ z10 z11 z12 z13)) m) ∨ Ok n g m (rcC (sd8 n c R G way k at_ none none none none) m) := by
  have hc : c2 eqD (getD 4) (kD (.int 2)) (sd8 n c R G way k at_ none none none none) m = .ok (decide ((way : Int) = 2)) m :=
    c2_ok (f := eqD) (a := .int (way : Int)) (b := .int 2) (m' := m) (m'' := m) rfl rfl (eqD_int _ _ m)
  by_cases q : (way : Int) = 2
  · have hG : G ≠ [] := hI.cut.ne G (List.mem_append_right _ List.mem_cons_self)
    obtain ⟨A, f, rfl⟩ : ∃ A f, G = A ++ [f] := ⟨G.dropLast, G.getLast hG, (List.dropLast_concat_getLast hG).symm⟩
    have e : rcC (sd8 n c R (A ++ [f]) way k at_ none none none none) m = forM (tgT 2 (tgC (tgN 11) (tgC (tgN 12) tg0))) joB ((List.range R.length).map fun i : Nat => .tup [.int ((([] : List (List Int)).length + i : Nat) : Int), .lst (iL (R.getD i []))]) (sd8 n c R (A ++ [f]) way k at_ none none none none) m := by
      refine (if_ok hc).trans ?_
      rw [if_pos (decide_eq_true q)]
      refine for_ok ?_
      rw [← enum_fL]
      rfl
    rw [e]
    exact jo_loop h (c := c) (way := way) (at_ := at_) hk R [] none none none none hI
  · left
    refine ⟨none, none, none, none, (if_ok hc).trans ?_⟩
    rw [if_neg (fun z => q (of_decide_eq_true z))]
    rfl
theorem seq_Ok {n : Nat} {g : Int} {m : Mem} {f1 f2 : SD → M Fl} {sd : SD} (h : Ok n g m (f1 sd m)) : Ok n g m (seqM f1 f2 sd m) := by
  obtain ⟨c', k', m', e, q⟩ := h
  exact ⟨c', k', m', seq_rt e, q⟩
theorem recut {n : Nat} {m : Mem} (h : IsDr n m) {g : Int} {c : List (List Int)} {k : Nat} (hI : Inv g c k) (hk : k ≤ 10) :
    ∃ c' k' m', F__law_recut [.h n, .d (cD c), .d (.int 10)] m = .ok (cD c') m' ∧ DrS n m m' ∧ Inv g c' k' ∧ k' ≤ 10 := by
  have hb := AbL hI hk
  have hfl := (hI.nums (by omega)).len
  obtain ⟨way, m1, w1, w2, w3⟩ := take_c h (k := 4) (by omega) (by omega)
  have h1 := w2.is h
  obtain ⟨at_, m2, t1, t2, t3⟩ := take_c h1 (k := c.length) (List.length_pos_iff.mpr hI.some) (by omega)
  have h2 := t2.is h1
  obtain ⟨c1, F, c2, rfl, hc1⟩ := split_at t3
  have hF : F ≠ [] := hI.cut.ne F (by simp)
  have hFl : F.length ≤ 20 := by
    have := hb.1
    rw [List.flatten_append, List.flatten_cons, List.length_append, List.length_append] at this
    omega
  obtain ⟨r, m3, u1', u2'⟩ := turned h2 (xs := iL F) (by
    intro z
    exact hF (List.map_eq_nil_iff.mp z)) (by rw [List.length_map]; omega)
  have h3 := u2'.is h2
  have hG : (iL F).drop r ++ (iL F).take r = iL (F.drop r ++ F.take r) := by
    simp only [iL, List.map_append, List.map_take, List.map_drop]
  rw [hG] at u1'
  have hI2 : Inv g ((c1 ++ c2) ++ [F.drop r ++ F.take r]) k := by
    refine Inv.rot ?_
    rw [List.take_append_drop]
    refine hI.perm ?_
    rw [List.append_assoc]
    exact List.Perm.append_left c1 (List.perm_append_singleton F c2).symm
  have d1 : DrS n m m3 := (w2.trans t2).trans u2'
  have hd : isCutD (cD (c1 ++ F :: c2)) (c1 ++ F :: c2) := cD_cut _
  have key : ∃ c' k' m', G__law_recut [some (.h n), some (.d (cD (c1 ++ F :: c2))), some (.d (.int 10)), none, none, none, none, none, none, none, none, none, none, none] m = .ok (.rt (cD c')) m' ∧ DrS n m m' ∧ Inv g c' k' ∧ k' ≤ 10 := by
    have s1 : parV 3 4 (ofD (ofL (lcM [5] (seqI (getD 1)) (tgN 5) yes (ofL (u1 listS (getS 5)))))) (ofD (callM 2 F__law_take (consV (getS 0) (consV (ofD (kD (.int 4))) nilV)))) [some (.h n), some (.d (cD (c1 ++ F :: c2))), some (.d (.int 10)), none, none, none, none, none, none, none, none, none, none, none] m
        = .ok (.nx [some (.h n), some (.d (cD (c1 ++ F :: c2))), some (.d (.int 10)), some (.d (cD (c1 ++ F :: c2))), some (.d (.int (way : Int))), none, none, none, none, none, none, none, none, none]) m1 := by
      refine par_ok (a := .d (cD (c1 ++ F :: c2))) (b := .d (.int (way : Int))) (m' := m) (ofD_ok (ofL_ok ?_)) (ofD_ok ((call2_ok (s1 := .h n) (s2 := .d (.int ((4 : Nat) : Int))) (m' := m) (m'' := m) rfl rfl).trans w1))
      have := lc_map (vs := [5]) (fi := seqI (getD 1)) (gt := tgN 5) (ge := ofL (u1 listS (getS 5))) (sd := [some (.h n), some (.d (cD (c1 ++ F :: c2))), some (.d (.int 10)), none, none, none, none, none, none, none, none, none, none, none]) (m := m) (ds := fL (c1 ++ F :: c2)) (fun d => d) rfl (fun d hd => by
        obtain ⟨G, _, rfl⟩ := List.mem_map.mp hd
        exact ⟨[some (.h n), some (.d (cD (c1 ++ F :: c2))), some (.d (.int 10)), none, none, some (.d (.lst (iL G))), none, none, none, none, none, none, none, none], rfl, rfl⟩) (by rw [fL_len]; omega)
      rw [this, List.map_id'']
      exact fun _ => rfl
    have s2 : parV 6 7 (ofD (u2 divD (u1 sumS (ofD (ofL (lcM [5] (seqI (getD 1)) (tgN 5) yes (u1 lenS (getS 5)))))) (kD (.int 2)))) (ofD (callM 2 F__law_take (consV (getS 0) (consV (ofD (u1 lenS (getS 1))) nilV)))) [some (.h n), some (.d (cD (c1 ++ F :: c2))), some (.d (.int 10)), some (.d (cD (c1 ++ F :: c2))), some (.d (.int (way : Int))), none, none, none, none, none, none, none, none, none] m1
        = .ok (.nx [some (.h n), some (.d (cD (c1 ++ F :: c2))), some (.d (.int 10)), some (.d (cD (c1 ++ F :: c2))), some (.d (.int (way : Int))), none, some (.d (.int (k : Int))), some (.d (.int (at_ : Int))), none, none, none, none, none, none]) m2 := by
      refine par_ok (a := .d (.int (k : Int))) (b := .d (.int (at_ : Int))) (m' := m1) (ofD_ok ?_) (ofD_ok ((call2_ok (s1 := .h n) (s2 := .d (.int ((c1 ++ F :: c2).length : Int))) (m' := m1) (m'' := m1) rfl (ofD_ok ((u1_ok (f := lenS) (a := .d (cD (c1 ++ F :: c2))) (m' := m1) rfl).trans (by rw [cutD_len (.inl rfl), fL_len])))).trans t1))
      have a1 := lc_lens (vs := [5]) (i := 5) (fi := seqI (getD 1)) (sd := [some (.h n), some (.d (cD (c1 ++ F :: c2))), some (.d (.int 10)), some (.d (cD (c1 ++ F :: c2))), some (.d (.int (way : Int))), none, none, none, none, none, none, none, none, none]) (m := m1) (fL_faces (c1 ++ F :: c2)) rfl (by rw [fL_len]; omega) (fun d => ⟨_, rfl, rfl⟩)
      refine (u2_ok (f := divD) (a := .int ((2 * k : Nat) : Int)) (b := .int 2) (m' := m1) (m'' := m1) ?_ rfl).trans (div2 k m1)
      rw [u1_ok (f := sumS) (ofD_ok (ofL_ok a1)), sum_ints, lens_sum, hfl]
    have hat : (fL (c1 ++ F :: c2))[at_]? = some (.lst (iL F)) := by
      rw [← hc1, List.getElem?_map]
      simp
    have s3 : setV 5 (callM 2 F__law_turned_face (consV (getS 0) (consV (ofD (u2 ixS (getS 3) (getD 7))) nilV))) [some (.h n), some (.d (cD (c1 ++ F :: c2))), some (.d (.int 10)), some (.d (cD (c1 ++ F :: c2))), some (.d (.int (way : Int))), none, some (.d (.int (k : Int))), some (.d (.int (at_ : Int))), none, none, none, none, none, none] m2
        = .ok (.nx [some (.h n), some (.d (cD (c1 ++ F :: c2))), some (.d (.int 10)), some (.d (cD (c1 ++ F :: c2))), some (.d (.int (way : Int))), some (.d (.lst (iL (F.drop r ++ F.take r)))), some (.d (.int (k : Int))), some (.d (.int (at_ : Int))), none, none, none, none, none, none]) m3 :=
      set_ok ((call2_ok (s1 := .h n) (s2 := .d (.lst (iL F))) (m' := m2) (m'' := m2) rfl (ofD_ok ((u2_ok (f := ixS) (a := .d (cD (c1 ++ F :: c2))) (b := .int (at_ : Int)) (m' := m2) (m'' := m2) rfl rfl).trans (row_ix (.inl rfl) hat m2)))).trans u1')
    have e1 : (fL (c1 ++ F :: c2)).take at_ = fL c1 := by rw [fL_app, ← hc1, List.take_left' (fL_len c1)]
    have e2 : (fL (c1 ++ F :: c2)).drop (at_ + 1) = fL c2 := by
      rw [fL_app, ← hc1, ← fL_len c1, ← List.drop_drop, List.drop_left' rfl]
      rfl
    have hll : c1.length + c2.length ≤ 20 := by
      have := hb.2
      rw [List.length_append, List.length_cons] at this
      omega
    have s4 : setV 8 (u2 addD (ofL (cutM (getS 3) noI (someI (getD 7)))) (ofL (cutM (getS 3) (someI (u2 addD (getD 7) (kD (.int 1)))) noI))) [some (.h n), some (.d (cD (c1 ++ F :: c2))), some (.d (.int 10)), some (.d (cD (c1 ++ F :: c2))), some (.d (.int (way : Int))), some (.d (.lst (iL (F.drop r ++ F.take r)))), some (.d (.int (k : Int))), some (.d (.int (at_ : Int))), none, none, none, none, none, none] m3
        = .ok (.nx [some (.h n), some (.d (cD (c1 ++ F :: c2))), some (.d (.int 10)), some (.d (cD (c1 ++ F :: c2))), some (.d (.int (way : Int))), some (.d (.lst (iL (F.drop r ++ F.take r)))), some (.d (.int (k : Int))), some (.d (.int (at_ : Int))), some (.d (cD (c1 ++ c2))), none, none, none, none, none]) m3 := by
      refine set_ok ?_
      have b1 := to_ok (ga := getS 3) (fb := getD 7) (sd := [some (.h n), some (.d (cD (c1 ++ F :: c2))), some (.d (.int 10)), some (.d (cD (c1 ++ F :: c2))), some (.d (.int (way : Int))), some (.d (.lst (iL (F.drop r ++ F.take r)))), some (.d (.int (k : Int))), some (.d (.int (at_ : Int))), none, none, none, none, none, none]) (ds := fL (c1 ++ F :: c2)) (k := at_) (m := m3) rfl rfl
      have b2 := from_ok (ga := getS 3) (fb := u2 addD (getD 7) (kD (.int 1))) (sd := [some (.h n), some (.d (cD (c1 ++ F :: c2))), some (.d (.int 10)), some (.d (cD (c1 ++ F :: c2))), some (.d (.int (way : Int))), some (.d (.lst (iL (F.drop r ++ F.take r)))), some (.d (.int (k : Int))), some (.d (.int (at_ : Int))), none, none, none, none, none, none]) (ds := fL (c1 ++ F :: c2)) (k := at_ + 1) (m := m3) rfl rfl
      rw [e1] at b1
      rw [e2] at b2
      refine (u2_ok (f := addD) (ofL_ok b1) (ofL_ok b2)).trans ((add_lst _ _ (by rw [fL_len, fL_len]; omega) m3).trans ?_)
      rw [← fL_app]
    have s5 : setV 9 (u2 addD (getD 6) (kD (.int 1))) [some (.h n), some (.d (cD (c1 ++ F :: c2))), some (.d (.int 10)), some (.d (cD (c1 ++ F :: c2))), some (.d (.int (way : Int))), some (.d (.lst (iL (F.drop r ++ F.take r)))), some (.d (.int (k : Int))), some (.d (.int (at_ : Int))), some (.d (cD (c1 ++ c2))), none, none, none, none, none] m3
        = .ok (.nx (sd8 n (c1 ++ F :: c2) (c1 ++ c2) (F.drop r ++ F.take r) way k at_ none none none none)) m3 := rfl
    have rest : Ok n g m3 (seqM rcA (seqM rcBV (seqM rcC (retV (u2 addD (getD 8) (ofL (lstV (consV (getD 5) nilV))))))) (sd8 n (c1 ++ F :: c2) (c1 ++ c2) (F.drop r ++ F.take r) way k at_ none none none none) m3) := by
      rcases rcA_run h3 (c := c1 ++ F :: c2) (way := way) (at_ := at_) hI2 hk with q | q
      rotate_left
      · exact seq_Ok q
      rw [seq_nx q]
      rcases rcB_run h3 (c := c1 ++ F :: c2) (way := way) (at_ := at_) hI2 hk with q | q
      rotate_left
      · exact seq_Ok q
      rw [seq_nx q]
      rcases rcC_run h3 (c := c1 ++ F :: c2) (way := way) (at_ := at_) hI2 hk with ⟨z10, z11, z12, z13, q⟩ | q
      rotate_left
      · exact seq_Ok q
      rw [seq_nx q]
      refine ⟨(c1 ++ c2) ++ [F.drop r ++ F.take r], k, m3, ret_ok ?_, DrS.refl h3, hI2, hk⟩
      refine (u2_ok (f := addD) (a := cD (c1 ++ c2)) (b := .lst [.lst (iL (F.drop r ++ F.take r))]) (m' := m3) (m'' := m3) rfl rfl).trans ((add_lst _ _ (by rw [fL_len, List.length_append, List.length_singleton]; omega) m3).trans ?_)
      exact congrArg (fun z => Out.ok (D.lst z) m3) (fL_app (c1 ++ c2) [F.drop r ++ F.take r]).symm
    obtain ⟨c', k', m', e, q1, q2⟩ := rest
    refine ⟨c', k', m', ?_, d1.trans q1, q2⟩
    unfold G__law_recut
    exact (seq_nx s1).trans ((seq_nx s2).trans ((seq_nx s3).trans ((seq_nx s4).trans ((seq_nx s5).trans e))))
  obtain ⟨c', k', m', e, q1, q2⟩ := key
  refine ⟨c', k', m', ?_, q1, q2⟩
  have := fn_rt (n := 14) (g := G__law_recut) (args := [.h n, .d (cD (c1 ++ F :: c2)), .d (.int 10)]) (m := m) e
  rw [q1.cut] at this
  exact this
end Pr
set_option maxRecDepth 100000
namespace Pr
open PySem Mi Pl
open L2 (Key)
/-- the plain cuts -/
def pc : Nat → List (List Int)
  | 0 => [[1, -1]]
  | 1 => [[1, 2, -1, -2]]
  | _ => [[1, 2, -1, -2, 3, 4, -3, -4]]
def pk : Nat → Nat
  | 0 => 1
  | 1 => 2
  | _ => 4
theorem full_dec (c : List (List Int)) (k : Nat) (h : c.flatten.Perm (tgt k)) : Full c k := fun e => h.mem_iff.trans mem_tgt
theorem pc_perm : ∀ g, g < 3 → (pc g).flatten.Perm (tgt (pk g)) := by decide +kernel
theorem pc_count : ∀ g, g < 3 → 2 * ((reps ((QL (pc g)).foldl stepL (List.range (2 * pk g)))).length : Int) - (pc g).flatten.length + 2 * (pc g).length = 4 - 4 * (g : Int) := by decide +kernel
theorem pc_inv (g : Nat) (hg : g < 3) : Inv (g : Int) (pc g) (pk g) := by
  have hp := pc_perm g hg
  have hk : pk g ≤ 30 := by
    have : ∀ g, g < 3 → pk g ≤ 30 := by decide
    exact this g hg
  have hN : Nums (pc g) (pk g) := ⟨hp, hk⟩
  have hone : ∃ F, pc g = [F] ∧ F ≠ [] := by
    match g, hg with
    | 0, _ => exact ⟨_, rfl, by decide⟩
    | 1, _ => exact ⟨_, rfl, by decide⟩
    | 2, _ => exact ⟨_, rfl, by decide⟩
  obtain ⟨F, eF, hF⟩ := hone
  have h0 : ∀ F ∈ pc g, ∀ e ∈ F, e ≠ 0 := fun F hF e he => (hN.mem.mp (flat_mem hF he)).1
  have hbd : ∀ F ∈ pc g, ∀ e ∈ F, -((pk g : Nat) : Int) ≤ e ∧ e ≤ (pk g : Nat) := fun F hF e he => (hN.mem.mp (flat_mem hF he)).2
  refine ⟨⟨hN.nd, fun e he => ⟨hN.neg he, (hN.mem.mp he).1⟩, ?_, ?_, ?_⟩, full_dec _ _ hp, ?_⟩
  · intro G hG
    rw [eF, List.mem_singleton] at hG
    rw [hG]
    exact hF
  · intro x hx y hy
    rw [eF] at hx hy ⊢
    simp only [List.flatten_cons, List.flatten_nil, List.append_nil] at hx hy ⊢
    exact face_conn (fun z hz => hz) (fun p hp => by rw [dps_one]; exact hp) hx hy
  · refine ⟨(reps ((QL (pc g)).foldl stepL (List.range (2 * pk g)))).length, ?_, pc_count g hg⟩
    have hc := (count_same (n := 2 * pk g) (QL (pc g)) (QL_lt h0 hbd)).2
    have hpp : ∀ p ∈ dps (pc g), p.1 ∈ (pc g).flatten ∧ p.2 ∈ (pc g).flatten := fun p hp => by
      obtain ⟨a, b⟩ := dps_mem hp
      exact ⟨a, by have := hN.neg b; rwa [Int.neg_neg] at this⟩
    refine NC.image hc ende (fun y hy => ?_) (fun e he => ?_) (fun x hx y hy => ?_)
    · have hy' := List.mem_range.mp hy
      refine hN.mem.mpr ?_
      unfold ende
      split <;> omega
    · have := hN.mem.mp he
      exact ⟨endp e, List.mem_range.mpr (endp_lt this.1 this.2.1 this.2.2), by rw [ende_endp this.1]; exact .refl _⟩
    · have mem : ∀ y ∈ List.range (2 * pk g), ende y ∈ (pc g).flatten := fun y hy => by
        have hy' := List.mem_range.mp hy
        refine hN.mem.mpr ?_
        unfold ende
        split <;> omega
      have := map_back endp ende (fun x hx => ende_endp (hN.mem.mp hx).1) hpp (mem x hx) (mem y hy)
      rw [endp_ende, endp_ende, ← QL_eq] at this
      exact this.symm
  · have : ∀ g, g < 3 → 1 ≤ pk g := by decide
    exact this g hg
theorem plain_cut (g : Nat) (hg : g < 3) (m : Mem) : F__law_plain_cut [.d (.int (g : Int))] m = .ok (cD (pc g)) m := by
  have e : G__law_plain_cut [some (.d (.int (g : Int))), none, none] m = .ok (.rt (cD (pc g))) m := by
    match g, hg with
    | 0, _ => rfl
    | 1, _ => rfl
    | 2, _ => rfl
  have := fn_rt (n := 3) (g := G__law_plain_cut) (args := [.d (.int (g : Int))]) (m := m) e
  rw [take_self] at this
  exact this
end Pr
set_option maxRecDepth 100000
namespace Pr
open PySem Mi Pl
open L2 (Key)
/-! ### shuffled -/
abbrev shB : SD → M Fl := (dropV (lm1 appS (getS 3) (lm1 popS (getS 2) (callM 2 F__law_take (consV (getS 0) (consV (ofD (u1 lenS (getS 2))) nilV))))))
theorem onH_eq {α : Type} {f : Nat → List D → M α} {n : Nat} {m : Mem} {ds : List D} (e : m[n]? = some (.lst ds)) : onH f (.h n) m = f n ds m := by
  simp only [onH, e]
theorem len_h {n : Nat} {m : Mem} {ds : List D} (e : m[n]? = some (.lst ds)) : lenS (.h n) m = .ok (.int (ds.length : Int)) m := by
  have : itemsS (.h n) m = .ok ds m := by simp only [itemsS, e]
  show Out.bind (itemsS (.h n) m) (fun ds => M.pure (D.int (ds.length : Int))) = _
  rw [this]
  rfl
theorem pop_h {n : Nat} {m : Mem} {ds : List D} {k : Nat} {d : D} (e : m[n]? = some (.lst ds)) (hk : ds[k]? = some d) (hl : ds.length ≤ 1000) : popS (.h n) (.int (k : Int)) m = .ok d (m.set n (.lst (ds.eraseIdx k))) := by
  have hlt := (List.getElem?_eq_some_iff.mp hk).1
  unfold popS
  rw [onH_eq e, show asI (.int (k : Int)) = M.pure (k : Int) from rfl, pb, if_pos ⟨by omega, by omega⟩, Int.toNat_natCast, hk]
  rfl
theorem two1 (m : Mem) (x y : MO) : (m ++ [x, y])[m.length]? = some x := at_end1 m x y
theorem sh_step {n : Nat} {m : Mem} (h : IsDr n m) (xs acc : List D) (hx : xs ≠ []) (hl : xs.length + acc.length ≤ 1000) (y1 : Option S) :
    ∃ (r : Nat) (x : D) (m' : Mem), xs[r]? = some x ∧ shB [some (.h n), y1, some (.h m.length), some (.h (m.length + 1))] (m ++ [MO.lst xs, MO.lst acc]) = .ok (.nx [some (.h n), y1, some (.h m.length), some (.h (m.length + 1))]) (m' ++ [MO.lst (xs.eraseIdx r), MO.lst (acc ++ [x])]) ∧ DrS n m m' := by
  have hp := List.length_pos_iff.mpr hx
  obtain ⟨r, m2, t1, t2, t3⟩ := take_c (h.app [MO.lst xs, MO.lst acc]) hp (by omega)
  obtain ⟨m', rfl, t4⟩ := t2.app h.lt
  have hm := t4.len
  refine ⟨r, xs[r], m', List.getElem?_eq_getElem t3, ?_, t4⟩
  have a1 : isL (.h (m.length + 1)) (m ++ [MO.lst xs, MO.lst acc]) = .ok () (m ++ [MO.lst xs, MO.lst acc]) := (onH_eq (at_end2 m _ _)).trans rfl
  have a2 : isL (.h m.length) (m ++ [MO.lst xs, MO.lst acc]) = .ok () (m ++ [MO.lst xs, MO.lst acc]) := (onH_eq (at_end1 m _ _)).trans rfl
  have a3 : callM 2 F__law_take (consV (getS 0) (consV (ofD (u1 lenS (getS 2))) nilV)) [some (.h n), y1, some (.h m.length), some (.h (m.length + 1))] (m ++ [MO.lst xs, MO.lst acc]) = .ok (.int (r : Int)) (m' ++ [MO.lst xs, MO.lst acc]) :=
    (call2_ok (s1 := .h n) (s2 := .d (.int (xs.length : Int))) (m' := m ++ [MO.lst xs, MO.lst acc]) (m'' := m ++ [MO.lst xs, MO.lst acc]) rfl (ofD_ok ((u1_ok (f := lenS) (a := .h m.length) (m' := m ++ [MO.lst xs, MO.lst acc]) rfl).trans (len_h (at_end1 m _ _))))).trans t1
  have a4 : popS (.h m.length) (.int (r : Int)) (m' ++ [MO.lst xs, MO.lst acc]) = .ok xs[r] (m' ++ [MO.lst (xs.eraseIdx r), MO.lst acc]) := by
    rw [← hm, pop_h (at_end1 m' _ _) (List.getElem?_eq_getElem t3) (by omega), set_end1]
  have a5 : appS (.h (m.length + 1)) xs[r] (m' ++ [MO.lst (xs.eraseIdx r), MO.lst acc]) = .ok .non (m' ++ [MO.lst (xs.eraseIdx r), MO.lst (acc ++ [xs[r]])]) := by
    rw [← hm]
    refine (onH_eq (at_end2 m' _ _)).trans ?_
    rw [if_pos (by omega)]
    exact congrArg (Out.ok D.non) (set_end2 m' _ _ _)
  show Out.bind (Out.bind (isL (.h (m.length + 1)) (m ++ [MO.lst xs, MO.lst acc])) _) _ = _
  rw [a1]
  show Out.bind (Out.bind (Out.bind (isL (.h m.length) (m ++ [MO.lst xs, MO.lst acc])) _) _) _ = _
  rw [a2]
  show Out.bind (Out.bind (Out.bind (callM 2 F__law_take (consV (getS 0) (consV (ofD (u1 lenS (getS 2))) nilV)) [some (.h n), y1, some (.h m.length), some (.h (m.length + 1))] (m ++ [MO.lst xs, MO.lst acc])) _) _) _ = _
  rw [a3]
  show Out.bind (Out.bind (popS (.h m.length) (.int (r : Int)) (m' ++ [MO.lst xs, MO.lst acc])) _) _ = _
  rw [a4]
  show Out.bind (appS (.h (m.length + 1)) xs[r] (m' ++ [MO.lst (xs.eraseIdx r), MO.lst acc])) _ = _
  rw [a5]
  rfl
end Pr
set_option maxRecDepth 100000
namespace Pr
open PySem Mi Pl
open L2 (Key)
abbrev shC : SD → M Bool := (c2X neS (getS 2) (ofD (ofL (lstV nilV))))
theorem shC_run {n k : Nat} {m : Mem} {xs : List D} (e : m[k]? = some (.lst xs)) (hp : Mi.plain (.lst xs) = true) (y1 y3 : Option S) : shC [some (.h n), y1, some (.h k), y3] m = .ok (!decide (xs = [])) m := by
  have c1 : cur (.h k) m = .ok (.lst xs) m := by simp only [cur, e]
  have c2 : neD (.lst xs) (.lst []) m = .ok (.bl (!decide (xs = []))) m := by
    unfold neD
    rw [hp, show Mi.plain (.lst []) = true from plain_ints []]
    cases xs with
    | nil => rfl
    | cons x xs => rfl
  show Out.bind (Out.bind (cur (.h k) m) (fun a => M.bind (cur (.d (.lst []))) fun b => neD a b)) asB = _
  rw [c1]
  show Out.bind (neD (.lst xs) (.lst []) m) asB = _
  rw [c2]
  rfl
theorem erase_perm {α : Type} : ∀ {l : List α} {i : Nat} {x : α}, l[i]? = some x → (x :: l.eraseIdx i).Perm l
  | [], i, x, h => by simp at h
  | a :: l, 0, x, h => by
    have : a = x := by simpa using h
    subst this
    exact .refl _
  | a :: l, i + 1, x, h => by
    have := erase_perm (l := l) (i := i) (x := x) (by simpa using h)
    show (x :: a :: l.eraseIdx i).Perm (a :: l)
    exact (List.Perm.swap _ _ _).trans (this.cons a)
theorem sh_loop {n : Nat} {P : D → Prop} (hP : ∀ ys : List D, (∀ y ∈ ys, P y) → Mi.plain (.lst ys) = true) (y1 : Option S) : ∀ (fuel : Nat) (xs acc : List D) (m : Mem), IsDr n m → xs.length + 1 ≤ fuel → (∀ x ∈ xs, P x) → xs.length + acc.length ≤ 1000 →
    ∃ out m', whileM shC shB fuel [some (.h n), y1, some (.h m.length), some (.h (m.length + 1))] (m ++ [MO.lst xs, MO.lst acc]) = .ok (.nx [some (.h n), y1, some (.h m.length), some (.h (m.length + 1))]) (m' ++ [MO.lst [], MO.lst out]) ∧ DrS n m m' ∧ out.Perm (acc ++ xs)
  | 0, _, _, _, _, h, _, _ => by omega
  | fuel + 1, xs, acc, m, h, hf, hx, hl => by
    have c := shC_run (n := n) (at_end1 m (.lst xs) (.lst acc)) (hP xs hx) y1 (some (.h (m.length + 1)))
    by_cases q : xs = []
    · subst q
      refine ⟨acc, m, ?_, DrS.refl h, by rw [List.append_nil]⟩
      show Out.bind (shC _ (m ++ [MO.lst [], MO.lst acc])) _ = _
      rw [c]
      rfl
    · obtain ⟨r, x, m2, g1, g2, g3⟩ := sh_step h xs acc q hl y1
      have hm := g3.len
      have hle : (xs.eraseIdx r).length + 1 = xs.length := by
        rw [List.length_eraseIdx]
        have := (List.getElem?_eq_some_iff.mp g1).1
        rw [if_pos this]
        omega
      obtain ⟨out, m', g4, g5, g6⟩ := sh_loop hP y1 fuel (xs.eraseIdx r) (acc ++ [x]) m2 (g3.is h) (by omega) (fun y hy => hx y (List.mem_of_mem_eraseIdx hy)) (by rw [List.length_append, List.length_singleton]; omega)
      refine ⟨out, m', ?_, g3.trans g5, g6.trans ?_⟩
      · show Out.bind (shC _ (m ++ [MO.lst xs, MO.lst acc])) _ = _
        rw [c, decide_eq_false q]
        show Out.bind (shB _ (m ++ [MO.lst xs, MO.lst acc])) _ = _
        rw [g2]
        rw [hm] at g4
        exact g4
      · rw [List.append_assoc]
        exact List.Perm.append_left acc (erase_perm g1)
theorem shuffled {n : Nat} {m : Mem} (h : IsDr n m) {P : D → Prop} (hP : ∀ ys : List D, (∀ y ∈ ys, P y) → Mi.plain (.lst ys) = true) {s : S} {xs : List D} (hs : itemsS s m = .ok xs m) (hx : ∀ x ∈ xs, P x) (hl : xs.length ≤ 1000) :
    ∃ out m', F__law_shuffled [.h n, s] m = .ok (.lst out) m' ∧ DrS n m m' ∧ out.Perm xs := by
  obtain ⟨out, m', e, d, p⟩ := sh_loop hP (some s) 100000 xs [] m h (by omega) hx (by rw [List.length_nil]; omega)
  refine ⟨out, m', ?_, d, by simpa using p⟩
  have e1 : G__law_shuffled [some (.h n), some s, none, none] m = .ok (.rt (.lst out)) (m' ++ [MO.lst [], MO.fz (.lst out)]) := by
    have s1 : parV 2 3 (newV (u1 listS (getS 1))) (newV (lstV nilV)) [some (.h n), some s, none, none] m = .ok (.nx [some (.h n), some s, some (.h m.length), some (.h (m.length + 1))]) (m ++ [MO.lst xs, MO.lst []]) := by
      refine (par_ok (a := .h m.length) (b := .h (m.length + 1)) (m' := m ++ [MO.lst xs]) (m'' := m ++ [MO.lst xs, MO.lst []]) ?_ ?_).trans rfl
      · have : listS s m = .ok xs m := by
          show Out.bind (itemsS s m) _ = _
          rw [hs]
          rfl
        show Out.bind (listS s m) _ = _
        rw [this]
        rfl
      · show Out.ok (S.h (m ++ [MO.lst xs]).length) ((m ++ [MO.lst xs]) ++ [MO.lst []]) = _
        rw [List.length_append, List.length_singleton, List.append_assoc]
        rfl
    unfold G__law_shuffled
    refine (seq_nx s1).trans ((seq_nx e).trans (ret_ok ?_))
    show fzH (m.length + 1) (m' ++ [MO.lst [], MO.lst out]) = _
    rw [← d.len]
    simp only [fzH, at_end2, set_end2]
  have := fn_rt (n := 4) (g := G__law_shuffled) (args := [.h n, s]) (m := m) e1
  rw [← d.len, take_app] at this
  exact this
end Pr
set_option maxRecDepth 100000
namespace Pr
open PySem Mi Pl
open L2 (Key)
/-! ### signs are drawn -/
abbrev sgE : SD → M D := (ifV (c2 eqD (callM 2 F__law_take (consV (getS 0) (consV (ofD (kD (.int 2))) nilV))) (kD (.int 0))) (getD 5) (u2 subD (kD (.int 0)) (getD 5)))
theorem sg_loop {n : Nat} (y1 y2 y3 y4 y6 y7 : Option S) : ∀ (l : List Int) (acc : List Int) (y5 : Option S) (m : Mem), IsDr n m → acc.length + l.length ≤ 1000 →
    ∃ (l' : List Int) (m' : Mem), compM [5] (tgN 5) yes sgE [some (.h n), y1, y2, y3, y4, y5, y6, y7] (iL acc) (iL l) m = .ok (iL (acc ++ l')) m' ∧ DrS n m m' ∧ l'.length = l.length ∧ ∀ i, i < l.length → l'.getD i 0 = l.getD i 0 ∨ l'.getD i 0 = -(l.getD i 0)
  | [], acc, y5, m, h, _ => ⟨[], m, by rw [List.append_nil]; rfl, DrS.refl h, rfl, fun i hi => by simp at hi⟩
  | a :: l, acc, y5, m, h, hl => by
    rw [List.length_cons] at hl
    obtain ⟨r, m1, t1, t2, t3⟩ := take_c h (k := 2) (by omega) (by omega)
    have hv : ∃ b : Int, (b = a ∨ b = -a) ∧ sgE [some (.h n), y1, y2, y3, y4, some (.d (.int a)), y6, y7] m = .ok (.int b) m1 := by
      have c := c2_ok (f := eqD) (fa := callM 2 F__law_take (consV (getS 0) (consV (ofD (kD (.int 2))) nilV))) (fb := kD (.int 0)) (sd := [some (.h n), y1, y2, y3, y4, some (.d (.int a)), y6, y7]) (m := m) (a := .int (r : Int)) (b := .int 0) (m' := m1) (m'' := m1) ((call2_ok (s1 := .h n) (s2 := .d (.int ((2 : Nat) : Int))) (m' := m) (m'' := m) rfl rfl).trans t1) rfl (eqD_int _ _ m1)
      by_cases q : (r : Int) = 0
      · refine ⟨a, .inl rfl, (if_ok c).trans ?_⟩
        rw [if_pos (decide_eq_true q)]
        rfl
      · refine ⟨-a, .inr rfl, (if_ok c).trans ?_⟩
        rw [if_neg (fun z => q (of_decide_eq_true z))]
        refine (u2_ok (f := subD) (a := .int 0) (b := .int a) (m' := m1) (m'' := m1) rfl rfl).trans ?_
        show Out.ok (D.int (0 - a)) m1 = _
        rw [Int.zero_sub]
    obtain ⟨b, hb, eb⟩ := hv
    obtain ⟨l', m', g1, g2, g3, g4⟩ := sg_loop y1 y2 y3 y4 y6 y7 l (acc ++ [b]) y5 m1 (t2.is h) (by rw [List.length_append, List.length_singleton]; omega)
    refine ⟨b :: l', m', ?_, t2.trans g2, by rw [List.length_cons, List.length_cons, g3], fun i hi => ?_⟩
    · show Out.bind (sgE [some (.h n), y1, y2, y3, y4, some (.d (.int a)), y6, y7] m) _ = _
      rw [eb]
      show (if (iL acc).length < 16777216 then compM [5] (tgN 5) yes sgE [some (.h n), y1, y2, y3, y4, y5, y6, y7] (iL acc ++ [.int b]) (iL l) else bad : M (List D)) m1 = _
      rw [if_pos (by rw [List.length_map]; omega)]
      have : iL acc ++ [D.int b] = iL (acc ++ [b]) := by rw [iL_app]; rfl
      rw [this, g1, List.append_assoc]
      rfl
    · cases i with
      | zero => exact hb
      | succ i => exact g4 i (by rw [List.length_cons] at hi; omega)
end Pr
set_option maxRecDepth 100000
namespace Pr
open PySem Mi Pl
open L2 (Key)
/-- the new name of a number -/
def sg (l : List Int) (e : Int) : Int := if 0 < e then l.getD (ab e - 1).toNat 0 else -(l.getD (ab e - 1).toNat 0)
/-- names: 1..k in some order, with signs -/
structure Names (l l' : List Int) (k : Nat) : Prop where
  perm : l.Perm (es k)
  len : l'.length = l.length
  sign : ∀ i, i < l.length → l'.getD i 0 = l.getD i 0 ∨ l'.getD i 0 = -(l.getD i 0)
theorem es_nodup (k : Nat) : (es k).Nodup := by
  unfold es
  rw [List.nodup_iff_pairwise_ne, List.pairwise_map]
  have := List.nodup_range (n := k)
  rw [List.nodup_iff_pairwise_ne] at this
  exact this.imp (fun h z => h (by omega))
theorem Names.llen {l l' : List Int} {k : Nat} (h : Names l l' k) : l.length = k := by
  rw [h.perm.length_eq, es_len]
theorem Names.bd {l l' : List Int} {k : Nat} (h : Names l l' k) {i : Nat} (hi : i < k) : 1 ≤ l.getD i 0 ∧ l.getD i 0 ≤ k := by
  have := h.llen
  exact mem_es.mp (h.perm.mem_iff.mp (getD_mem (by omega)))
theorem Names.inj {l l' : List Int} {k : Nat} (h : Names l l' k) {i j : Nat} (hi : i < k) (hj : j < k) (e : l.getD i 0 = l.getD j 0) : i = j := by
  have hl := h.llen
  have hn : l.Nodup := h.perm.nodup_iff.mpr (es_nodup k)
  rw [List.getD_eq_getElem?_getD, List.getD_eq_getElem?_getD, List.getElem?_eq_getElem (by omega), List.getElem?_eq_getElem (by omega)] at e
  exact (List.getElem_inj hn).mp e
theorem sg_neg {l l' : List Int} {k : Nat} {x : Int} (h0 : x ≠ 0) : sg l' (-x) = -sg l' x := by
  have e : ab (-x) = ab x := by
    have := ab_spec x
    have := ab_spec (-x)
    omega
  unfold sg
  rw [e]
  by_cases q : 0 < x
  · rw [if_neg (by omega), if_pos q]
  · rw [if_pos (by omega), if_neg q, Int.neg_neg]
theorem sg_val {l l' : List Int} {k : Nat} (h : Names l l' k) {x : Int} (h0 : x ≠ 0) (h1 : -(k : Int) ≤ x) (h2 : x ≤ k) : ∃ i, i < k ∧ ab x = (i : Int) + 1 ∧ (sg l' x = l.getD i 0 ∨ sg l' x = -(l.getD i 0)) := by
  have ha := ab_spec x
  refine ⟨(ab x - 1).toNat, by omega, by omega, ?_⟩
  have hs := h.sign (ab x - 1).toNat (by rw [h.llen]; omega)
  unfold sg
  split <;> omega
theorem sg_inj {l l' : List Int} {k : Nat} (h : Names l l' k) {x y : Int} (x0 : x ≠ 0) (x1 : -(k : Int) ≤ x) (x2 : x ≤ k) (y0 : y ≠ 0) (y1 : -(k : Int) ≤ y) (y2 : y ≤ k) (e : sg l' x = sg l' y) : x = y := by
  obtain ⟨i, hi, ei, si⟩ := sg_val h x0 x1 x2
  obtain ⟨j, hj, ej, sj⟩ := sg_val h y0 y1 y2
  have bi := h.bd hi
  have bj := h.bd hj
  have : i = j := h.inj hi hj (by omega)
  subst this
  have ax := ab_spec x
  have ay := ab_spec y
  by_cases q : x = y
  · exact q
  · have : y = -x := by omega
    rw [this, sg_neg (l := l) (l' := l') (k := k) x0] at e
    omega
theorem Inv.named {g : Int} {c : List (List Int)} {k : Nat} (hI : Inv g c k) {l l' : List Int} (h : Names l l' k) : Inv g (c.map (·.map (sg l'))) k := by
  have hm : ∀ x ∈ c.flatten, x ≠ 0 ∧ -(k : Int) ≤ x ∧ x ≤ k := fun x hx => (hI.full x).mp hx
  refine ⟨hI.cut.names (sg l') (fun y => (c.flatten.find? fun x => decide (sg l' x = y)).getD 0) (fun x hx => sg_neg (l := l) (k := k) (hm x hx).1) (fun x hx => ?_) (fun x hx => ?_), fun e => ?_, hI.pos⟩
  · cases q : c.flatten.find? fun z => decide (sg l' z = sg l' x) with
    | none =>
      have := List.find?_eq_none.mp q x hx
      simp at this
    | some z =>
      have h1 := List.mem_of_find?_eq_some q
      have h2 : sg l' z = sg l' x := by simpa using List.find?_some q
      obtain ⟨a1, a2, a3⟩ := hm x hx
      obtain ⟨b1, b2, b3⟩ := hm z h1
      exact sg_inj h b1 b2 b3 a1 a2 a3 h2
  · obtain ⟨a1, a2, a3⟩ := hm x hx
    obtain ⟨i, hi, _, si⟩ := sg_val h a1 a2 a3
    have := h.bd hi
    omega
  · have e1 : e ∈ (c.map (·.map (sg l'))).flatten ↔ ∃ x ∈ c.flatten, sg l' x = e := by
      rw [← List.map_flatten, List.mem_map]
    rw [e1]
    clear e1
    constructor
    · rintro ⟨x, hx, rfl⟩
      obtain ⟨a1, a2, a3⟩ := hm x hx
      obtain ⟨i, hi, _, si⟩ := sg_val h a1 a2 a3
      have := h.bd hi
      omega
    · rintro ⟨a1, a2, a3⟩
      have ha := ab_spec e
      have hmem : ab e ∈ l := h.perm.mem_iff.mpr (mem_es.mpr (by omega))
      obtain ⟨i, hi, ei⟩ := List.getElem_of_mem hmem
      have hik : i < k := by rw [← h.llen]; exact hi
      have eg : l.getD i 0 = ab e := by
        rw [List.getD_eq_getElem?_getD, List.getElem?_eq_getElem hi]
        exact ei
      have hs := h.sign i hi
      have hp : sg l' ((i : Int) + 1) = l'.getD i 0 := by
        have : ab ((i : Int) + 1) = (i : Int) + 1 := by have := ab_spec ((i : Int) + 1); omega
        unfold sg
        rw [this, if_pos (by omega), show ((i : Int) + 1 - 1).toNat = i by omega]
      by_cases q : l'.getD i 0 = e
      · exact ⟨(i : Int) + 1, (hI.full _).mpr ⟨by omega, by omega, by omega⟩, by rw [hp, q]⟩
      · refine ⟨-((i : Int) + 1), (hI.full _).mpr ⟨by omega, by omega, by omega⟩, ?_⟩
        rw [sg_neg (l := l) (k := k) (by omega), hp]
        omega
end Pr
set_option maxRecDepth 100000
namespace Pr
open PySem Mi Pl
open L2 (Key)
theorem toPL_rows : ∀ xs : List D, (∀ x ∈ xs, ∃ l : List Int, x = .lst (iL l)) → PyData.canLayAll0 (toPL xs) = true ∧ PyData.depthAll (toPL xs) ≤ 3
  | [], _ => ⟨rfl, Nat.zero_le _⟩
  | x :: xs, h => by
    obtain ⟨h1, h2⟩ := toPL_rows xs fun y hy => h y (List.mem_cons_of_mem _ hy)
    obtain ⟨l, rfl⟩ := h x List.mem_cons_self
    obtain ⟨a1, a2⟩ := toPL_ints l
    constructor
    · show (PyData.canLay0 (.list (toPL (l.map .int))) && PyData.canLayAll0 (toPL xs)) = true
      rw [h1, Bool.and_true]
      exact a1
    · show PyData.depthAll (.list (toPL (l.map .int)) :: toPL xs) ≤ 3
      simp only [PyData.depthAll, PyData.depth]
      omega
theorem plain_rows {xs : List D} (h : ∀ x ∈ xs, ∃ l : List Int, x = .lst (iL l)) : Mi.plain (.lst xs) = true := by
  obtain ⟨h1, h2⟩ := toPL_rows xs h
  unfold Mi.plain SeqAt.shaped
  refine Bool.and_eq_true_iff.mpr ⟨h1, decide_eq_true ?_⟩
  show PyData.depth (.list (toPL xs)) ≤ 64
  simp only [PyData.depth]
  omega
theorem ints_of {xs : List D} {l : List Int} (p : xs.Perm (iL l)) : ∃ l', xs = iL l' ∧ l'.Perm l := by
  have h : ∀ x ∈ xs, ∃ i, x = D.int i := fun x hx => by
    obtain ⟨i, _, rfl⟩ := List.mem_map.mp (p.mem_iff.mp hx)
    exact ⟨i, rfl⟩
  let f : D → Int := fun d => match d with | .int i => i | _ => 0
  refine ⟨xs.map f, ?_, ?_⟩
  · unfold iL
    rw [List.map_map]
    have : xs.map (fun x => x) = xs := List.map_id'' (fun _ => rfl) xs
    refine this.symm.trans ?_
    refine List.map_congr_left fun x hx => ?_
    obtain ⟨i, rfl⟩ := h x hx
    rfl
  · have := p.map f
    unfold iL at this
    rw [List.map_map] at this
    refine this.trans ?_
    rw [show (f ∘ D.int) = fun x => x from rfl, List.map_id'']
    exact fun _ => rfl
theorem rows_of {xs : List D} {c : List (List Int)} (p : xs.Perm (fL c)) : ∃ c', xs = fL c' ∧ c'.Perm c := by
  let f : D → List Int := fun d => match d with | .lst ys => ys.map (fun y => match y with | .int i => i | _ => 0) | _ => []
  have hf : ∀ l : List Int, f (.lst (iL l)) = l := fun l => by
    show (iL l).map _ = l
    unfold iL
    rw [List.map_map]
    exact List.map_id'' (fun _ => rfl) l
  refine ⟨xs.map f, ?_, ?_⟩
  · unfold fL
    rw [List.map_map]
    have : xs.map (fun x => x) = xs := List.map_id'' (fun _ => rfl) xs
    refine this.symm.trans ?_
    refine List.map_congr_left fun x hx => ?_
    obtain ⟨l, _, rfl⟩ := List.mem_map.mp (p.mem_iff.mp hx)
    show D.lst (iL l) = D.lst (iL (f (D.lst (iL l))))
    rw [hf]
  · have := p.map f
    unfold fL at this
    rw [List.map_map] at this
    refine this.trans ?_
    have e : (f ∘ fun F => D.lst (iL F)) = fun x => x := funext hf
    rw [e, List.map_id'']
    exact fun _ => rfl
end Pr
set_option maxRecDepth 100000
namespace Pr
open PySem Mi Pl
open L2 (Key)
abbrev naB : SD → M Fl := (dropV (lm1 appS (getS 6) (ofL (lcM [7] (seqI (getD 3)) (tgN 7) yes (ifV (c2 gtD (getD 7) (kD (.int 0))) (u2 ixS (getS 4) (u2 subD (u1 absS (getS 7)) (kD (.int 1)))) (u2 subD (kD (.int 0)) (u2 ixS (getS 4) (u2 subD (u1 absS (getS 7)) (kD (.int 1))))))))))
theorem ix_iL {l : List Int} {a : Nat} (h : a < l.length) (m : Mem) : ixS (.d (.lst (iL l))) (.int (a : Int)) m = .ok (.int (l.getD a 0)) m := face_ix (.inl rfl) h m
theorem sg_at {sd : SD} {m : Mem} {e : Int} {l' : List Int} (h7 : getD 7 sd m = .ok (.int e) m) (h7s : getS 7 sd m = .ok (.d (.int e)) m) (h4 : getS 4 sd m = .ok (.d (.lst (iL l'))) m) (h0 : e ≠ 0) (hb : (ab e - 1).toNat < l'.length) :
    ifV (c2 gtD (getD 7) (kD (.int 0))) (u2 ixS (getS 4) (u2 subD (u1 absS (getS 7)) (kD (.int 1)))) (u2 subD (kD (.int 0)) (u2 ixS (getS 4) (u2 subD (u1 absS (getS 7)) (kD (.int 1))))) sd m = .ok (.int (sg l' e)) m := by
  have ha := ab_spec e
  have e1 : u2 ixS (getS 4) (u2 subD (u1 absS (getS 7)) (kD (.int 1))) sd m = .ok (.int (l'.getD (ab e - 1).toNat 0)) m := by
    refine (u2_ok (f := ixS) (b := .int (ab e - 1)) (m'' := m) h4 ((u2_ok (f := subD) (b := .int 1) (m'' := m) ((u1_ok (f := absS) h7s).trans (abs_int e m)) rfl).trans rfl)).trans ?_
    rw [← ix_iL hb, show (((ab e - 1).toNat : Nat) : Int) = ab e - 1 by omega]
  refine (if_ok (c2_ok (f := gtD) (a := .int e) (b := .int 0) (m' := m) (m'' := m) h7 rfl (gt0 e m))).trans ?_
  unfold sg
  by_cases q : 0 < e
  · rw [if_pos (decide_eq_true q), if_pos q]
    exact e1
  · rw [if_neg (fun z => q (of_decide_eq_true z)), if_neg q]
    refine (u2_ok (f := subD) (a := .int 0) (m' := m) rfl e1).trans ?_
    show Out.ok (D.int (0 - _)) m = _
    rw [Int.zero_sub]
theorem na_loop {k : Nat} {l l' : List Int} (hN : Names l l' k) (m : Mem) (a b y2 y5 : Option S) : ∀ (c : List (List Int)) (acc : List D) (y3 y7 : Option S), acc.length + c.length ≤ 100000 → c.flatten.length ≤ 1000 → (∀ e ∈ c.flatten, e ≠ 0 ∧ -(k : Int) ≤ e ∧ e ≤ k) →
    ∃ z3 z7, forM (tgN 3) naB (fL c) [a, b, y2, y3, some (.d (.lst (iL l'))), y5, some (.h m.length), y7] (m ++ [MO.lst acc]) = .ok (.nx [a, b, y2, z3, some (.d (.lst (iL l'))), y5, some (.h m.length), z7]) (m ++ [MO.lst (acc ++ fL (c.map (·.map (sg l'))))])
  | [], acc, y3, y7, _, _, _ => ⟨y3, y7, by
    show _ = Out.ok _ (m ++ [MO.lst (acc ++ [])])
    rw [List.append_nil]
    rfl⟩
  | F :: c, acc, y3, y7, hl, hf, hm => by
    rw [List.length_cons] at hl
    rw [List.flatten_cons, List.length_append] at hf
    obtain ⟨z3, z7, e⟩ := na_loop hN m a b y2 y5 c (acc ++ [.lst (iL (F.map (sg l')))]) (some (.d (.lst (iL F)))) y7 (by rw [List.length_append, List.length_singleton]; omega) (by omega) (fun e he => hm e (by rw [List.flatten_cons]; exact List.mem_append_right _ he))
    refine ⟨z3, z7, ?_⟩
    have st : naB [a, b, y2, some (.d (.lst (iL F))), some (.d (.lst (iL l'))), y5, some (.h m.length), y7] (m ++ [MO.lst acc]) = .ok (.nx [a, b, y2, some (.d (.lst (iL F))), some (.d (.lst (iL l'))), y5, some (.h m.length), y7]) (m ++ [MO.lst (acc ++ [.lst (iL (F.map (sg l')))])]) := by
      refine app_ok (d := .lst (iL (F.map (sg l')))) rfl (ofL_ok ?_) (by omega)
      refine map_ints (vs := [7]) (sg l') rfl (fun e he => ⟨[a, b, y2, some (.d (.lst (iL F))), some (.d (.lst (iL l'))), y5, some (.h m.length), some (.d (.int e))], rfl, ?_⟩) (by omega)
      obtain ⟨h0, h1, h2⟩ := hm e (by rw [List.flatten_cons]; exact List.mem_append_left _ he)
      have ha := ab_spec e
      exact sg_at rfl rfl rfl h0 (by rw [hN.len, hN.llen]; omega)
    show (naB [a, b, y2, some (.d (.lst (iL F))), some (.d (.lst (iL l'))), y5, some (.h m.length), y7] (m ++ [MO.lst acc])).bind _ = _
    rw [st]
    refine e.trans ?_
    rw [List.append_assoc]
    rfl
end Pr
set_option maxRecDepth 100000
namespace Pr
open PySem Mi Pl
open L2 (Key)
theorem named_anew {n : Nat} {m : Mem} (h : IsDr n m) {g : Int} {c : List (List Int)} {k : Nat} (hI : Inv g c k) (hk : k ≤ 10) :
    ∃ c' m', F__law_named_anew [.h n, .d (cD c)] m = .ok (cD c') m' ∧ DrS n m m' ∧ Inv g c' k := by
  have hb := AbL hI hk
  have hfl := (hI.nums (by omega)).len
  -- the numbers 1..k in another order
  obtain ⟨out, m1, t1, t2, t3⟩ := shuffled h (P := fun d => ∃ i, d = D.int i) (fun ys hy => by
    obtain ⟨l, e⟩ : ∃ l : List Int, ys = iL l := by
      clear h hI hb hfl
      induction ys with
      | nil => exact ⟨[], rfl⟩
      | cons y ys ih =>
        obtain ⟨i, rfl⟩ := hy y List.mem_cons_self
        obtain ⟨l, rfl⟩ := ih fun z hz => hy z (List.mem_cons_of_mem _ hz)
        exact ⟨i :: l, rfl⟩
    rw [e]
    exact plain_ints l) (s := .d (.lst (iL (es k)))) (xs := iL (es k)) rfl (fun x hx => by
    obtain ⟨i, _, rfl⟩ := List.mem_map.mp hx
    exact ⟨i, rfl⟩) (by rw [List.length_map, es_len]; omega)
  obtain ⟨l, rfl, pl⟩ := ints_of t3
  have h1 := t2.is h
  have hll : l.length = k := by rw [pl.length_eq, es_len]
  obtain ⟨l', m2, g1, g2, g3, g4⟩ := sg_loop (n := n) (some (.d (cD c))) (some (.d (.int (k : Int)))) none (some (.d (.lst (iL l)))) none none l [] none m1 h1 (by rw [List.length_nil]; omega)
  rw [List.nil_append] at g1
  have h2 := g2.is h1
  have hN : Names l l' k := ⟨pl, g3, g4⟩
  have hm : ∀ e ∈ c.flatten, e ≠ 0 ∧ -(k : Int) ≤ e ∧ e ≤ k := fun e he => (hI.full e).mp he
  obtain ⟨z3, z7, q1⟩ := na_loop hN m2 (some (.h n)) (some (.d (cD c))) (some (.d (.int (k : Int)))) none c [] none none (by rw [List.length_nil]; omega) (by omega) hm
  rw [List.nil_append] at q1
  have hI2 := hI.named hN
  obtain ⟨out2, m3', r1, r2, r3⟩ := shuffled (h2.app [MO.lst (fL (c.map (·.map (sg l'))))]) (P := fun d => ∃ l : List Int, d = D.lst (iL l)) (fun ys hy => plain_rows hy) (s := .h m2.length) (xs := fL (c.map (·.map (sg l')))) (by simp only [itemsS, at_end]) (fun x hx => by
    obtain ⟨F, _, rfl⟩ := List.mem_map.mp hx
    exact ⟨F, rfl⟩) (by rw [fL_len, List.length_map]; omega)
  obtain ⟨c', rfl, pc'⟩ := rows_of r3
  obtain ⟨m3, rfl, r4⟩ := r2.app h2.lt
  refine ⟨c', m3, ?_, (t2.trans g2).trans r4, hI2.perm pc'.symm⟩
  have e : G__law_named_anew [some (.h n), some (.d (cD c)), none, none, none, none, none, none] m = .ok (.rt (cD c')) (m3 ++ [MO.lst (fL (c.map (·.map (sg l'))))]) := by
    have s1 : setV 2 (u2 divD (u1 sumS (ofD (ofL (lcM [3] (seqI (getD 1)) (tgN 3) yes (u1 lenS (getS 3)))))) (kD (.int 2))) [some (.h n), some (.d (cD c)), none, none, none, none, none, none] m = .ok (.nx [some (.h n), some (.d (cD c)), some (.d (.int (k : Int))), none, none, none, none, none]) m := by
      refine set_ok ?_
      have a1 := lc_lens (vs := [3]) (i := 3) (fi := seqI (getD 1)) (sd := [some (.h n), some (.d (cD c)), none, none, none, none, none, none]) (m := m) (fL_faces c) rfl (by rw [fL_len]; omega) (fun d => ⟨_, rfl, rfl⟩)
      refine (u2_ok (f := divD) (a := .int ((2 * k : Nat) : Int)) (b := .int 2) (m' := m) (m'' := m) ?_ rfl).trans (div2 k m)
      rw [u1_ok (f := sumS) (ofD_ok (ofL_ok a1)), sum_ints, lens_sum, hfl]
    have r0 : lr2 (kD (.int 1)) (u2 addD (getD 2) (kD (.int 1))) [some (.h n), some (.d (cD c)), some (.d (.int (k : Int))), none, none, none, none, none] m = .ok (iL (es k)) m := by
      refine (lr2_ok (a := 1) (b := (k : Int) + 1) (m' := m) (m'' := m) rfl rfl).trans ((rng_ok (by omega) (by omega) (by omega) (by omega) m).trans ?_)
      rw [rngL_es]
    have s2 : setV 4 (callM 2 F__law_shuffled (consV (getS 0) (consV (ofD (ofL (lr2 (kD (.int 1)) (u2 addD (getD 2) (kD (.int 1)))))) nilV))) [some (.h n), some (.d (cD c)), some (.d (.int (k : Int))), none, none, none, none, none] m = .ok (.nx [some (.h n), some (.d (cD c)), some (.d (.int (k : Int))), none, some (.d (.lst (iL l))), none, none, none]) m1 :=
      set_ok ((call2_ok (s1 := .h n) (m' := m) rfl (ofD_ok (ofL_ok r0))).trans t1)
    have s3 : setV 4 (ofL (lcM [5] (seqI (getD 4)) (tgN 5) yes sgE)) [some (.h n), some (.d (cD c)), some (.d (.int (k : Int))), none, some (.d (.lst (iL l))), none, none, none] m1 = .ok (.nx [some (.h n), some (.d (cD c)), some (.d (.int (k : Int))), none, some (.d (.lst (iL l'))), none, none, none]) m2 := by
      refine set_ok (ofL_ok ?_)
      show noxO (compM [5] (tgN 5) yes sgE [some (.h n), some (.d (cD c)), some (.d (.int (k : Int))), none, some (.d (.lst (iL l))), none, none, none] (iL []) (iL l) m1) = _
      rw [g1]
      rfl
    have s4 : setX 6 (newV (lstV nilV)) [some (.h n), some (.d (cD c)), some (.d (.int (k : Int))), none, some (.d (.lst (iL l'))), none, none, none] m2 = .ok (.nx [some (.h n), some (.d (cD c)), some (.d (.int (k : Int))), none, some (.d (.lst (iL l'))), none, some (.h m2.length), none]) (m2 ++ [MO.lst []]) := rfl
    unfold G__law_named_anew
    refine (seq_nx s1).trans ((seq_nx s2).trans ((seq_nx s3).trans ((seq_nx s4).trans ((seq_nx ((for_ok (ds := fL c) (m' := m2 ++ [MO.lst []]) rfl).trans q1)).trans (ret_ok ?_)))))
    exact (call2_ok (s1 := .h n) (s2 := .h m2.length) (m' := m2 ++ [MO.lst (fL (c.map (·.map (sg l'))))]) (m'' := m2 ++ [MO.lst (fL (c.map (·.map (sg l'))))]) rfl rfl).trans r1
  have := fn_rt (n := 8) (g := G__law_named_anew) (args := [.h n, .d (cD c)]) (m := m) e
  have hlen : m3.length = m.length := by rw [r4.len, g2.len, t2.len]
  rw [← hlen, take_app] at this
  exact this
end Pr
set_option maxRecDepth 100000
namespace Pr
open PySem Mi Pl
open L2 (Key)
abbrev drB : SD → M Fl := (setV 4 (callM 3 F__law_recut (consV (getS 0) (consV (getS 4) (consV (getS 2) nilV)))))
theorem call3_ok {F : List S → M D} {g1 g2 g3 : SD → M S} {sd : SD} {s1 s2 s3 : S} {m m' m'' m3 : Mem} (h : g1 sd m = .ok s1 m') (h2 : g2 sd m' = .ok s2 m'') (h3 : g3 sd m'' = .ok s3 m3) : callM 3 F (consV g1 (consV g2 (consV g3 nilV))) sd m = F [s1, s2, s3] m3 := by
  show ((g1 sd m).bind _).bind _ = _
  rw [h]
  show (((g2 sd m').bind _).bind _).bind _ = _
  rw [h2]
  show ((((g3 sd m'').bind _).bind _).bind _).bind _ = _
  rw [h3]
  rfl
theorem dr_loop {n : Nat} {g : Int} (y1 y3 : Option S) : ∀ (ds : List D) (c : List (List Int)) (k : Nat) (m : Mem) (y5 : Option S), IsDr n m → Inv g c k → k ≤ 10 →
    ∃ c' k' m' z5, forM (tgN 5) drB ds [some (.h n), y1, some (.d (.int 10)), y3, some (.d (cD c)), y5] m = .ok (.nx [some (.h n), y1, some (.d (.int 10)), y3, some (.d (cD c')), z5]) m' ∧ DrS n m m' ∧ Inv g c' k' ∧ k' ≤ 10
  | [], c, k, m, y5, h, hI, hk => ⟨c, k, m, y5, rfl, DrS.refl h, hI, hk⟩
  | d :: ds, c, k, m, y5, h, hI, hk => by
    obtain ⟨c1, k1, m1, e1, d1, i1, l1⟩ := recut h hI hk
    obtain ⟨c', k', m', z5, e2, d2, i2, l2⟩ := dr_loop y1 y3 ds c1 k1 m1 (some (.d d)) (d1.is h) i1 l1
    refine ⟨c', k', m', z5, ?_, d1.trans d2, i2, l2⟩
    show Out.bind (drB [some (.h n), y1, some (.d (.int 10)), y3, some (.d (cD c)), some (.d d)] m) _ = _
    have : drB [some (.h n), y1, some (.d (.int 10)), y3, some (.d (cD c)), some (.d d)] m = .ok (.nx [some (.h n), y1, some (.d (.int 10)), y3, some (.d (cD c1)), some (.d d)]) m1 :=
      set_ok ((call3_ok (s1 := .h n) (s2 := .d (cD c)) (s3 := .d (.int 10)) (m' := m) (m'' := m) (m3 := m) rfl rfl rfl).trans e1)
    rw [this]
    exact e2
theorem drawn_cut {n : Nat} {m : Mem} (h : IsDr n m) : ∃ (g : Nat) (c : List (List Int)) (k : Nat) (m' : Mem), F__law_drawn_cut [.h n, .d (.int 2), .d (.int 10)] m = .ok (.tup [cD c, .int (g : Int)]) m' ∧ DrS n m m' ∧ Inv (g : Int) c k ∧ k ≤ 10 ∧ g < 3 := by
  obtain ⟨g, m1, t1, t2, t3⟩ := take_c h (k := 3) (by omega) (by omega)
  have h1 := t2.is h
  obtain ⟨r, m2, u1', u2', u3⟩ := take_c h1 (k := 9) (by omega) (by omega)
  have h2 := u2'.is h1
  have hpk : pk g ≤ 10 := by
    have : ∀ g, g < 3 → pk g ≤ 10 := by decide
    exact this g t3
  obtain ⟨c1, k1, m3, z5, e1, d1, i1, l1⟩ := dr_loop (n := n) (g := (g : Int)) (some (.d (.int 2))) (some (.d (.int (g : Int)))) (rngL 0 (r : Int)) (pc g) (pk g) m2 none h2 (pc_inv g t3) hpk
  obtain ⟨c2, m4, e2, d2, i2⟩ := named_anew (d1.is h2) i1 l1
  have dd := ((t2.trans u2').trans d1).trans d2
  refine ⟨g, c2, k1, m4, ?_, dd, i2, l1, t3⟩
  have e : G__law_drawn_cut [some (.h n), some (.d (.int 2)), some (.d (.int 10)), none, none, none] m = .ok (.rt (.tup [cD c2, .int (g : Int)])) m4 := by
    have s1 : setV 3 (callM 2 F__law_take (consV (getS 0) (consV (ofD (u2 addD (getD 1) (kD (.int 1)))) nilV))) [some (.h n), some (.d (.int 2)), some (.d (.int 10)), none, none, none] m = .ok (.nx [some (.h n), some (.d (.int 2)), some (.d (.int 10)), some (.d (.int (g : Int))), none, none]) m1 :=
      set_ok ((call2_ok (s1 := .h n) (s2 := .d (.int ((3 : Nat) : Int))) (m' := m) (m'' := m) rfl rfl).trans t1)
    have s2 : setV 4 (callM 1 F__law_plain_cut (consV (getS 3) nilV)) [some (.h n), some (.d (.int 2)), some (.d (.int 10)), some (.d (.int (g : Int))), none, none] m1 = .ok (.nx [some (.h n), some (.d (.int 2)), some (.d (.int 10)), some (.d (.int (g : Int))), some (.d (cD (pc g))), none]) m1 :=
      set_ok ((call1_ok (s := .d (.int (g : Int))) (m' := m1) rfl).trans (plain_cut g t3 m1))
    have s3 : (u1 rng1 (callM 2 F__law_take (consV (getS 0) (consV (ofD (kD (.int 9))) nilV)))) [some (.h n), some (.d (.int 2)), some (.d (.int 10)), some (.d (.int (g : Int))), some (.d (cD (pc g))), none] m1 = .ok (rngL 0 (r : Int)) m2 :=
      (u1_ok (f := rng1) ((call2_ok (s1 := .h n) (s2 := .d (.int ((9 : Nat) : Int))) (m' := m1) (m'' := m1) rfl rfl).trans u1')).trans (rng1_ok (inR_of (by omega) (by omega)))
    unfold G__law_drawn_cut
    refine (seq_nx s1).trans ((seq_nx s2).trans ((seq_nx ((for_ok s3).trans e1)).trans (ret_ok ?_)))
    exact tup2_ok ((call2_ok (s1 := .h n) (s2 := .d (cD c1)) (m' := m3) (m'' := m3) rfl rfl).trans e2) rfl
  have := fn_rt (n := 6) (g := G__law_drawn_cut) (args := [.h n, .d (.int 2), .d (.int 10)]) (m := m) e
  rw [dd.cut] at this
  exact this
end Pr
set_option maxRecDepth 100000
namespace Pr
open PySem Mi Pl
open L2 (Key)
/-- rows of atoms, not too many -/
structure AR (xss : List (List D)) (N : Nat) : Prop where
  atoms : ∀ xs ∈ xss, ∀ x ∈ xs, Atom x
  fl : xss.flatten.length ≤ N
  len : xss.length ≤ N
theorem AR.app {a b : List (List D)} {N M : Nat} (h : AR a N) (h' : AR b M) : AR (a ++ b) (N + M) := by
  refine ⟨fun xs hx => (List.mem_append.mp hx).elim (h.atoms xs) (h'.atoms xs), ?_, ?_⟩
  · rw [List.flatten_append, List.length_append]
    have := h.fl
    have := h'.fl
    omega
  · rw [List.length_append]
    have := h.len
    have := h'.len
    omega
theorem AR.take {a : List (List D)} {N : Nat} (h : AR a N) (k : Nat) : AR (a.take k) N := by
  refine ⟨fun xs hx => h.atoms xs (List.mem_of_mem_take hx), ?_, ?_⟩
  · have := h.fl
    have e : a.flatten.length = (a.take k).flatten.length + (a.drop k).flatten.length := by
      rw [← List.length_append, ← List.flatten_append, List.take_append_drop]
    omega
  · have := h.len
    rw [List.length_take]
    omega
theorem AR.drop {a : List (List D)} {N : Nat} (h : AR a N) (k : Nat) : AR (a.drop k) N := by
  refine ⟨fun xs hx => h.atoms xs (List.mem_of_mem_drop hx), ?_, ?_⟩
  · have := h.fl
    have e : a.flatten.length = (a.take k).flatten.length + (a.drop k).flatten.length := by
      rw [← List.length_append, ← List.flatten_append, List.take_append_drop]
    omega
  · have := h.len
    rw [List.length_drop]
    omega
theorem AR.one {xs : List D} {N : Nat} (h : ∀ x ∈ xs, Atom x) (hl : xs.length ≤ N) (h1 : 1 ≤ N) : AR [xs] N := by
  refine ⟨fun ys hy => ?_, ?_, h1⟩
  · rw [List.mem_singleton.mp hy]
    exact h
  · simpa using hl
theorem rows_lst : ∀ xss : List (List D), Rows (xss.map .lst) xss
  | [] => .nil
  | xs :: xss => .cons (.inl rfl) (rows_lst xss)
theorem rows_tup : ∀ xss : List (List D), Rows (xss.map .tup) xss
  | [] => .nil
  | xs :: xss => .cons (.inr rfl) (rows_tup xss)
theorem AR.good {xss : List (List D)} {N : Nat} (h : AR xss N) (hN : N ≤ 1000) : Good (.lst (xss.map .lst)) :=
  .inr ⟨_, xss, .inl rfl, rows_lst xss, h.atoms, Nat.le_trans h.fl hN, Nat.le_trans h.len hN⟩
theorem AR.goodT {xss : List (List D)} {N : Nat} (h : AR xss N) (hN : N ≤ 1000) : Good (.lst (xss.map .tup)) :=
  .inr ⟨_, xss, .inl rfl, rows_tup xss, h.atoms, Nat.le_trans h.fl hN, Nat.le_trans h.len hN⟩
theorem AR.goodTT {xss : List (List D)} {N : Nat} (h : AR xss N) (hN : N ≤ 1000) : Good (.tup (xss.map .tup)) :=
  .inr ⟨_, xss, .inr rfl, rows_tup xss, h.atoms, Nat.le_trans h.fl hN, Nat.le_trans h.len hN⟩
end Pr
set_option maxRecDepth 100000
namespace Pr
open PySem Mi Pl
open L2 (Key)
theorem cons_ok {α : Type} {g : SD → M α} {gs : SD → M (List α)} {sd : SD} {a : α} {as : List α} {m m' m'' : Mem} (h : g sd m = .ok a m') (h2 : gs sd m' = .ok as m'') : consV g gs sd m = .ok (a :: as) m'' := by
  show (g sd m).bind _ = _
  rw [h]
  show (gs sd m').bind _ = _
  rw [h2]
  rfl
theorem nil_ok {α : Type} {sd : SD} {m : Mem} : (nilV : SD → M (List α)) sd m = .ok [] m := rfl
theorem lst_ok {gs : SD → M (List D)} {sd : SD} {ds : List D} {m m' : Mem} (h : gs sd m = .ok ds m') (hl : ds.length ≤ 1000) : lstV gs sd m = .ok ds m' := by
  show (gs sd m).bind _ = _
  rw [h]
  show (if ds.length ≤ 16777216 then M.pure ds else bad : M (List D)) m' = _
  rw [if_pos (by omega)]
  rfl
abbrev osd (n : Nat) (c : List (List Int)) (at_ w : Nat) (F : List Int) (y6 y7 y8 y9 y10 : Option S) : SD := [some (.h n), some (.d (cD c)), some (.d (cD c)), some (.d (.int (at_ : Int))), some (.d (.lst (iL F))), some (.d (.int (w : Int))), y6, y7, y8, y9, y10]
abbrev rows (c : List (List Int)) : List (List D) := c.map fun F => iL F
theorem fL_rows (c : List (List Int)) : fL c = (rows c).map .lst := by
  unfold fL rows
  rw [List.map_map]
  rfl
theorem atoms_iL (l : List Int) : ∀ x ∈ iL l, Atom x := fun x hx => by
  obtain ⟨i, _, rfl⟩ := List.mem_map.mp hx
  exact .int i
theorem rows_AR {c : List (List Int)} (h1 : c.flatten.length ≤ 20) (h2 : c.length ≤ 20) : AR (rows c) 20 := by
  refine ⟨fun xs hx => ?_, ?_, ?_⟩
  · obtain ⟨F, _, rfl⟩ := List.mem_map.mp hx
    exact atoms_iL F
  · rw [flat_len]
    exact h1
  · rw [List.length_map]
    exact h2
abbrev wo (c : List (List Int)) (at_ : Nat) : List (List D) := (rows c).take at_ ++ (rows c).drop (at_ + 1)
abbrev before : SD → M D := ofL (cutM (getS 2) noI (someI (getD 3)))
abbrev after : SD → M D := ofL (cutM (getS 2) (someI (u2 addD (getD 3) (kD (.int 1)))) noI)
theorem before_ok (n : Nat) (c : List (List Int)) (at_ w : Nat) (F : List Int) (y6 y7 y8 y9 y10 : Option S) (m : Mem) : before (osd n c at_ w F y6 y7 y8 y9 y10) m = .ok (.lst (((rows c).take at_).map .lst)) m := by
  have := to_ok (ga := getS 2) (fb := getD 3) (sd := osd n c at_ w F y6 y7 y8 y9 y10) (ds := fL c) (k := at_) (m := m) rfl rfl
  rw [fL_rows, ← List.map_take] at this
  exact ofL_ok this
theorem after_ok (n : Nat) (c : List (List Int)) (at_ w : Nat) (F : List Int) (y6 y7 y8 y9 y10 : Option S) (m : Mem) : after (osd n c at_ w F y6 y7 y8 y9 y10) m = .ok (.lst (((rows c).drop (at_ + 1)).map .lst)) m := by
  have := from_ok (ga := getS 2) (fb := u2 addD (getD 3) (kD (.int 1))) (sd := osd n c at_ w F y6 y7 y8 y9 y10) (ds := fL c) (k := at_ + 1) (m := m) rfl rfl
  rw [fL_rows, ← List.map_drop] at this
  exact ofL_ok this
/-- adding rows to the cut -/
theorem plus_ok {n : Nat} {c : List (List Int)} {at_ w : Nat} {F : List Int} {y6 y7 y8 y9 y10 : Option S} {m : Mem} (hc : c.length ≤ 20) {gb : SD → M D} {R : List (List D)} (hR : R.length ≤ 100) (h : gb (osd n c at_ w F y6 y7 y8 y9 y10) m = .ok (.lst (R.map .lst)) m) :
    u2 addD (getD 2) gb (osd n c at_ w F y6 y7 y8 y9 y10) m = .ok (.lst ((rows c ++ R).map .lst)) m := by
  refine (u2_ok (f := addD) (a := .lst (fL c)) (m' := m) rfl h).trans ((add_lst _ _ (by rw [fL_len, List.length_map]; omega) m).trans ?_)
  rw [fL_rows, ← List.map_append]
theorem wo_ok (n : Nat) (c : List (List Int)) (hc : c.length ≤ 20) (at_ w : Nat) (F : List Int) (y6 y7 y8 y9 y10 : Option S) (m : Mem) : u2 addD before after (osd n c at_ w F y6 y7 y8 y9 y10) m = .ok (.lst ((wo c at_).map .lst)) m := by
  refine (u2_ok (f := addD) (before_ok n c at_ w F y6 y7 y8 y9 y10 m) (after_ok n c at_ w F y6 y7 y8 y9 y10 m)).trans ((add_lst _ _ (by rw [List.length_map, List.length_map, List.length_take, List.length_drop, List.length_map]; omega) m).trans ?_)
  rw [← List.map_append]
/-- the cut with one number of one face changed -/
abbrev var (c : List (List Int)) (at_ w : Nat) (F : List Int) (x : D) : List (List D) := (rows c).take at_ ++ [(iL F).take w ++ [x] ++ (iL F).drop (w + 1)] ++ (rows c).drop (at_ + 1)
abbrev vaE : SD → M D := (u2 addD (u2 addD before (ofL (lstV (consV (u2 addD (u2 addD (ofL (cutM (getS 4) noI (someI (getD 5)))) (ofL (lstV (consV (getD 7) nilV)))) (ofL (cutM (getS 4) (someI (u2 addD (getD 5) (kD (.int 1)))) noI))) nilV)))) after)
theorem va_ok (n : Nat) (c : List (List Int)) (hc : c.length ≤ 20) (at_ w : Nat) (F : List Int) (hF : F.length ≤ 20) (y6 y8 y9 y10 : Option S) (x : D) (m : Mem) : vaE (osd n c at_ w F y6 (some (.d x)) y8 y9 y10) m = .ok (.lst ((var c at_ w F x).map .lst)) m := by
  have b1 := to_ok (ga := getS 4) (fb := getD 5) (sd := osd n c at_ w F y6 (some (.d x)) y8 y9 y10) (ds := iL F) (k := w) (m := m) rfl rfl
  have b2 := from_ok (ga := getS 4) (fb := u2 addD (getD 5) (kD (.int 1))) (sd := osd n c at_ w F y6 (some (.d x)) y8 y9 y10) (ds := iL F) (k := w + 1) (m := m) rfl rfl
  have b3 := (u2_ok (f := addD) (ofL_ok b1) (list1_ok (g := getD 7) (a := x) (m' := m) rfl)).trans (add_lst _ _ (by rw [List.length_take, List.length_map, List.length_singleton]; omega) m)
  have b4 := (u2_ok (f := addD) b3 (ofL_ok b2)).trans (add_lst _ _ (by rw [List.length_append, List.length_take, List.length_drop, List.length_map, List.length_singleton]; omega) m)
  have b5 := (u2_ok (f := addD) (before_ok n c at_ w F y6 (some (.d x)) y8 y9 y10 m) (list1_ok b4)).trans (add_lst _ _ (by rw [List.length_map, List.length_take, List.length_map, List.length_singleton]; omega) m)
  refine (u2_ok (f := addD) b5 (after_ok n c at_ w F y6 (some (.d x)) y8 y9 y10 m)).trans ((add_lst _ _ (by rw [List.length_append, List.length_map, List.length_map, List.length_take, List.length_drop, List.length_map, List.length_singleton]; omega) m).trans ?_)
  rw [List.map_append, List.map_append]
  rfl
theorem var_good {c : List (List Int)} (h1 : c.flatten.length ≤ 20) (h2 : c.length ≤ 20) (at_ w : Nat) {F : List Int} (hF : F.length ≤ 20) {x : D} (hx : Atom x) : Good (.lst ((var c at_ w F x).map .lst)) := by
  have r := rows_AR h1 h2
  refine (((r.take at_).app (AR.one (N := 50) (fun y hy => ?_) ?_ (by omega))).app (r.drop (at_ + 1))).good (by omega)
  · rcases List.mem_append.mp hy with q | q
    · rcases List.mem_append.mp q with q | q
      · exact atoms_iL F y (List.mem_of_mem_take q)
      · rw [List.mem_singleton.mp q]
        exact hx
    · exact atoms_iL F y (List.mem_of_mem_drop q)
  · rw [List.length_append, List.length_append, List.length_take, List.length_drop, List.length_map, List.length_singleton]
    omega
end Pr
set_option maxRecDepth 100000
namespace Pr
open PySem Mi Pl
open L2 (Key)
theorem oc_loop {n : Nat} {c : List (List Int)} (h1 : c.flatten.length ≤ 20) (h2 : c.length ≤ 20) {at_ w : Nat} {F : List Int} (hF : F.length ≤ 20) (m : Mem) : ∀ (vs : List D) (acc : List D) (y7 : Option S), (∀ v ∈ vs, Atom v) → (∀ d ∈ acc, Good d) → acc.length + vs.length ≤ 500 →
    ∃ acc' z7, forM (tgN 7) (dropV (lm1 appS (getS 6) vaE)) vs (osd n c at_ w F (some (.h m.length)) y7 none none none) (m ++ [MO.lst acc]) = .ok (.nx (osd n c at_ w F (some (.h m.length)) z7 none none none)) (m ++ [MO.lst acc']) ∧ (∀ d ∈ acc', Good d) ∧ acc'.length = acc.length + vs.length
  | [], acc, y7, _, hg, _ => ⟨acc, y7, rfl, hg, rfl⟩
  | v :: vs, acc, y7, hv, hg, hl => by
    rw [List.length_cons] at hl
    have st : dropV (lm1 appS (getS 6) vaE) (osd n c at_ w F (some (.h m.length)) (some (.d v)) none none none) (m ++ [MO.lst acc]) = .ok (.nx (osd n c at_ w F (some (.h m.length)) (some (.d v)) none none none)) (m ++ [MO.lst (acc ++ [.lst ((var c at_ w F v).map .lst)])]) :=
      app_ok rfl (va_ok n c h2 at_ w F hF _ _ _ _ v _) (by omega)
    obtain ⟨acc', z7, e, g, le⟩ := oc_loop h1 h2 hF m vs (acc ++ [.lst ((var c at_ w F v).map .lst)]) (some (.d v)) (fun u hu => hv u (List.mem_cons_of_mem _ hu)) (fun d hd => by
      rcases List.mem_append.mp hd with q | q
      · exact hg d q
      · rw [List.mem_singleton.mp q]
        exact var_good h1 h2 at_ w hF (hv v List.mem_cons_self)) (by rw [List.length_append, List.length_singleton]; omega)
    refine ⟨acc', z7, ?_, g, by rw [le, List.length_append, List.length_singleton, List.length_cons]; omega⟩
    show Out.bind (dropV (lm1 appS (getS 6) vaE) (osd n c at_ w F (some (.h m.length)) (some (.d v)) none none none) (m ++ [MO.lst acc])) _ = _
    rw [st]
    exact e
theorem lc_rng (n : Nat) (hn : n ≤ 100) {gs : SD → M (List D)} {sd : SD} {m : Mem} (ge : SD → M D) (f : Int → Int) (hw : ∀ e : Int, ∃ sd2, tgN 10 (.int e) (wipeD sd [10]) m = .ok sd2 m ∧ ge sd2 m = .ok (.int (f e)) m) :
    lcM [10] (u2 rng2 (kD (.int 1)) (kD (.int ((n : Int) + 1)))) (tgN 10) yes ge sd m = .ok (iL ((es n).map f)) m :=
  map_ints (vs := [10]) f ((u2_ok (f := rng2) (a := .int 1) (b := .int ((n : Int) + 1)) (m' := m) (m'' := m) rfl rfl).trans (by
    rw [rng2_ok (inR_of (by decide) (by decide)) (inR_of (by omega) (by omega)), rngL_es])) (fun e _ => hw e) (by rw [es_len]; omega)
theorem two_rows (a b : List Int) (ha : a.length ≤ 100) (hb : b.length ≤ 100) : Good (.lst [.lst (iL a), .lst (iL b)]) := by
  have : AR ([iL a] ++ [iL b]) 200 := (AR.one (N := 100) (atoms_iL a) (by rw [List.length_map]; exact ha) (by omega)).app (AR.one (N := 100) (atoms_iL b) (by rw [List.length_map]; exact hb) (by omega))
  exact this.good (by omega)
theorem neg_at {n : Nat} {c : List (List Int)} {at_ w : Nat} {F : List Int} {y6 y7 y8 y9 y10 : Option S} {m : Mem} (hw : w < F.length) : u2 ixS (getS 4) (getD 5) (osd n c at_ w F y6 y7 y8 y9 y10) m = .ok (.int (F.getD w 0)) m :=
  (u2_ok (f := ixS) (a := .d (.lst (iL F))) (b := .int (w : Int)) (m' := m) (m'' := m) rfl rfl).trans (ix_iL hw m)
/-- what stands in the list before the loop -/
theorem oc_first {n : Nat} {c : List (List Int)} (h1 : c.flatten.length ≤ 20) (h2 : c.length ≤ 20) {at_ w : Nat} {F : List Int} (hF : F.length ≤ 20) (m : Mem) :
    ∃ ds, lstV (consV (kD .non) (consV (ofL (lstV nilV)) (consV (kD (.dk [])) (consV (kD (.str "cut")) (consV (kD (.int 7)) (consV (ofL (lstV (consV (ofL (lstV nilV)) nilV))) (consV (u2 addD (getD 2) (ofL (lstV (consV (ofL (lstV nilV)) nilV)))) (consV (u2 addD before after) (consV (u2 addD (getD 2) (ofL (lstV (consV (getD 4) nilV)))) (consV (ofL (lcM [4] (seqI (getD 2)) (tgN 4) yes (u1 tupleS (getS 4)))) nilV))))))))))
      (osd n c at_ w F none none none none none) m = .ok ds m ∧ (∀ d ∈ ds, Good d) ∧ ds.length = 10 := by
  have r := rows_AR h1 h2
  have a7 := plus_ok (n := n) (at_ := at_) (w := w) (F := F) (y6 := none) (y7 := none) (y8 := none) (y9 := none) (y10 := none) (m := m) h2 (gb := ofL (lstV (consV (ofL (lstV nilV)) nilV))) (R := [[]]) (by decide) rfl
  have a8 := wo_ok n c h2 at_ w F none none none none none m
  have a9 := plus_ok (n := n) (at_ := at_) (w := w) (F := F) (y6 := none) (y7 := none) (y8 := none) (y9 := none) (y10 := none) (m := m) h2 (gb := ofL (lstV (consV (getD 4) nilV))) (R := [iL F]) (by simp) rfl
  have a10 : lcM [4] (seqI (getD 2)) (tgN 4) yes (u1 tupleS (getS 4)) (osd n c at_ w F none none none none none) m = .ok ((rows c).map .tup) m := by
    have := lc_map (vs := [4]) (fi := seqI (getD 2)) (gt := tgN 4) (ge := u1 tupleS (getS 4)) (sd := osd n c at_ w F none none none none none) (m := m) (ds := fL c) (fun d => match d with | .lst xs => .tup xs | x => x) rfl (fun d hd => by
      obtain ⟨G, _, rfl⟩ := List.mem_map.mp hd
      exact ⟨[some (.h n), some (.d (cD c)), some (.d (cD c)), some (.d (.int (at_ : Int))), some (.d (.lst (iL G))), some (.d (.int (w : Int))), none, none, none, none, none], rfl, rfl⟩) (by rw [fL_len]; omega)
    rw [this, fL_rows, List.map_map]
    rfl
  refine ⟨_, lst_ok (cons_ok (m' := m) rfl (cons_ok (m' := m) rfl (cons_ok (m' := m) rfl (cons_ok (m' := m) rfl (cons_ok (m' := m) rfl (cons_ok (m' := m) rfl (cons_ok a7 (cons_ok a8 (cons_ok a9 (cons_ok (ofL_ok a10) nil_ok)))))))))) (by simp), ?_, rfl⟩
  intro d hd
  have e0 : AR ([[]] : List (List D)) 1 := AR.one (N := 1) (by simp) (by simp) (by omega)
  have eF : AR [iL F] 20 := AR.one (atoms_iL F) (by rw [List.length_map]; exact hF) (by omega)
  simp only [List.mem_cons, List.not_mem_nil, or_false] at hd
  rcases hd with rfl | rfl | rfl | rfl | rfl | rfl | rfl | rfl | rfl | rfl
  · exact .inl .non
  · exact (AR.good (xss := []) (N := 0) ⟨by simp, by simp, by simp⟩ (by omega))
  · exact .inl (.dk _)
  · exact .inl (.str _)
  · exact .inl (.int _)
  · exact e0.good (by omega)
  · exact (r.app e0).good (by omega)
  · exact ((r.take at_).app (r.drop (at_ + 1))).good (by omega)
  · exact (r.app eF).good (by omega)
  · exact r.goodT (by omega)
end Pr
set_option maxRecDepth 100000
namespace Pr
open PySem Mi Pl
open L2 (Key)
theorem new_ok {gs : SD → M (List D)} {sd : SD} {ds : List D} {m m' : Mem} (h : gs sd m = .ok ds m') : newV gs sd m = .ok (.h m'.length) (m' ++ [MO.lst ds]) := by
  show (gs sd m).bind _ = _
  rw [h]
  rfl
theorem setX_ok {i : Nat} {g : SD → M S} {sd : SD} {s : S} {m m' : Mem} (h : g sd m = .ok s m') : setX i g sd m = .ok (.nx (sd.set i (some s))) m' := by
  show (g sd m).bind _ = _
  rw [h]
  rfl
theorem seqI_lst {g : SD → M D} {sd : SD} {ds : List D} {m m' : Mem} (h : g sd m = .ok (.lst ds) m') : seqI g sd m = .ok ds m' := by
  show (g sd m).bind _ = _
  rw [h]
  rfl
theorem dk1_ok {k : Key} {g : SD → M D} {sd : SD} {d : D} {m m' : Mem} (h : g sd m = .ok d m') : dk1 k g sd m = .ok (.dk [(k, d)]) m' := by
  show (g sd m).bind _ = _
  rw [h]
  rfl
theorem list3_ok {g g2 g3 : SD → M D} {sd : SD} {a b c : D} {m m' m'' m3 : Mem} (h : g sd m = .ok a m') (h2 : g2 sd m' = .ok b m'') (h3 : g3 sd m'' = .ok c m3) : ofL (lstV (consV g (consV g2 (consV g3 nilV)))) sd m = .ok (.lst [a, b, c]) m3 :=
  ofL_ok (lst_ok (cons_ok h (cons_ok h2 (cons_ok h3 nil_ok))) (by simp only [List.length_cons, List.length_nil]; omega))
/-- the last part: memory `m ++ [the list]` -/
theorem oc_ret {n : Nat} {c : List (List Int)} (h1 : c.flatten.length ≤ 20) (h2 : c.length ≤ 20) {at_ w : Nat} {F : List Int} (hF : F.length ≤ 20) (m : Mem) (ds : List D) (hl : ds.length ≤ 1000) (y7 y8 y9 y10 : Option S) :
    ∃ e, (u2 addD (getD 6) (ofL (lstV (consV (ofL (lstV (consV (ofL (lcM [10] (u2 rng2 (kD (.int 1)) (kD (.int 31))) (tgN 10) yes (getD 10))) (consV (ofL (lcM [10] (u2 rng2 (kD (.int 1)) (kD (.int 31))) (tgN 10) yes (u2 subD (kD (.int 0)) (getD 10)))) nilV)))) (consV (dk1 (.inl 0) (getD 4)) (consV (u2 addD (ofL (lstV (consV (ofL (cutM (getS 4) noI (someI (negV (kD (.int 1)))))) nilV))) (ofL (cutM (getS 2) (someI (kD (.int 1))) noI))) nilV)))))) (osd n c at_ w F (some (.h m.length)) y7 y8 y9 y10) (m ++ [MO.lst ds]) = .ok (.lst (ds ++ e)) (m ++ [MO.fz (.lst ds)]) ∧ (∀ d ∈ e, Good d) ∧ e.length = 3 := by
  have r := rows_AR h1 h2
  have a1 := lc_rng (n := 30) (by decide) (gs := fun _ => M.pure []) (sd := osd n c at_ w F (some (.h m.length)) y7 y8 y9 y10) (m := m ++ [MO.fz (.lst ds)]) (getD 10) (fun e => e) (fun e => ⟨_, rfl, rfl⟩)
  have a2 := lc_rng (n := 30) (by decide) (gs := fun _ => M.pure []) (sd := osd n c at_ w F (some (.h m.length)) y7 y8 y9 y10) (m := m ++ [MO.fz (.lst ds)]) (u2 subD (kD (.int 0)) (getD 10)) (fun e => 0 - e) (fun e => ⟨_, rfl, rfl⟩)
  have b1 := last_ok (ga := getS 4) (sd := osd n c at_ w F (some (.h m.length)) y7 y8 y9 y10) (ds := iL F) (m := m ++ [MO.fz (.lst ds)]) rfl
  have b2 := from_ok (ga := getS 2) (fb := kD (.int 1)) (sd := osd n c at_ w F (some (.h m.length)) y7 y8 y9 y10) (ds := fL c) (k := 1) (m := m ++ [MO.fz (.lst ds)]) rfl rfl
  rw [fL_rows, ← List.map_drop] at b2
  have b3 := (u2_ok (f := addD) (list1_ok (ofL_ok b1)) (ofL_ok b2)).trans (add_lst _ _ (by
    simp only [List.length_cons, List.length_nil, List.length_map, List.length_drop]
    omega) _)
  have ee : [D.lst ((iL F).take ((iL F).length - 1))] ++ ((rows c).drop 1).map .lst = ([(iL F).take ((iL F).length - 1)] ++ (rows c).drop 1).map .lst := by
    rw [List.map_append]
    rfl
  rw [ee] at b3
  have t := list3_ok (list2_ok (ofL_ok a1) (ofL_ok a2)) (dk1_ok (k := .inl 0) (g := getD 4) (d := .lst (iL F)) (m' := m ++ [MO.fz (.lst ds)]) rfl) b3
  refine ⟨_, (u2_ok (f := addD) (getD_end rfl) t).trans (add_lst _ _ (by simp only [List.length_cons, List.length_nil]; omega) _), ?_, rfl⟩
  intro d hd
  simp only [List.mem_cons, List.not_mem_nil, or_false] at hd
  rcases hd with rfl | rfl | rfl
  · exact two_rows _ _ (by rw [List.length_map, es_len]; omega) (by rw [List.length_map, es_len]; omega)
  · exact .inl (.dk _)
  · refine ((AR.one (N := 50) (fun y hy => atoms_iL F y (List.mem_of_mem_take hy)) ?_ (by omega)).app (r.drop 1)).good (by omega)
    rw [List.length_take, List.length_map]
    omega
/-- the seven values that are put into a face -/
theorem oc_items {n : Nat} {c : List (List Int)} {at_ w : Nat} {F : List Int} (hw : w < F.length) (y6 y7 y8 y9 y10 : Option S) (m : Mem) :
    ∃ vs, seqI (ofL (lstV (consV (u2 subD (kD (.int 0)) (u2 ixS (getS 4) (getD 5))) (consV (kD (.int 0)) (consV (kD (.int 99)) (consV (kD (.bl true)) (consV (kD .non) (consV (kD (.str "1")) (consV (u2 addD (u2 ixS (getS 4) (getD 5)) (kD (.int 1))) nilV))))))))) (osd n c at_ w F y6 y7 y8 y9 y10) m = .ok vs m ∧ (∀ v ∈ vs, Atom v) ∧ vs.length = 7 := by
  have a0 := neg_at (n := n) (c := c) (at_ := at_) (w := w) (F := F) (y6 := y6) (y7 := y7) (y8 := y8) (y9 := y9) (y10 := y10) (m := m) hw
  have a1 : u2 subD (kD (.int 0)) (u2 ixS (getS 4) (getD 5)) (osd n c at_ w F y6 y7 y8 y9 y10) m = .ok (.int (0 - F.getD w 0)) m := (u2_ok (f := subD) (a := .int 0) (m' := m) rfl a0).trans rfl
  have a2 : u2 addD (u2 ixS (getS 4) (getD 5)) (kD (.int 1)) (osd n c at_ w F y6 y7 y8 y9 y10) m = .ok (.int (F.getD w 0 + 1)) m := (u2_ok (f := addD) (b := .int 1) (m'' := m) a0 rfl).trans rfl
  refine ⟨_, seqI_lst (ofL_ok (lst_ok (cons_ok a1 (cons_ok (m' := m) rfl (cons_ok (m' := m) rfl (cons_ok (m' := m) rfl (cons_ok (m' := m) rfl (cons_ok (m' := m) rfl (cons_ok a2 nil_ok))))))) (by simp only [List.length_cons, List.length_nil]; omega))), ?_, rfl⟩
  intro v hv
  simp only [List.mem_cons, List.not_mem_nil, or_false] at hv
  rcases hv with rfl | rfl | rfl | rfl | rfl | rfl | rfl
  · exact .int _
  · exact .int _
  · exact .int _
  · exact .bl _
  · exact .non
  · exact .str _ (by decide +kernel)
  · exact .int _
end Pr
set_option maxRecDepth 100000
namespace Pr
open PySem Mi Pl
open L2 (Key)
theorem odd_cuts {n : Nat} {m : Mem} (h : IsDr n m) {g : Int} {c : List (List Int)} {k : Nat} (hI : Inv g c k) (hk : k ≤ 10) :
    ∃ ds m', F__law_odd_cuts [.h n, .d (cD c)] m = .ok (.lst ds) m' ∧ DrS n m m' ∧ (∀ d ∈ ds, Good d) ∧ ds.length ≤ 100 := by
  have hb := AbL hI hk
  have hfl := (hI.nums (by omega)).len
  obtain ⟨at_, m1, t1, t2, t3⟩ := take_c h (k := c.length) (List.length_pos_iff.mpr hI.some) (by omega)
  have h1 := t2.is h
  obtain ⟨F, hF⟩ : ∃ F, c[at_]? = some F := ⟨c[at_], List.getElem?_eq_getElem t3⟩
  have hFm : F ∈ c := List.mem_of_getElem? hF
  have hF0 : F ≠ [] := hI.cut.ne F hFm
  have hFl : F.length ≤ 20 := by
    have : F.length ≤ c.flatten.length := by
      obtain ⟨a, b, e⟩ := List.append_of_mem hFm
      rw [e, List.flatten_append, List.flatten_cons, List.length_append, List.length_append]
      omega
    omega
  obtain ⟨w, m2, u1', u2', u3⟩ := take_c h1 (k := F.length) (List.length_pos_iff.mpr hF0) (by omega)
  have dd := t2.trans u2'
  have s1 : parV 2 3 (ofD (ofL (lcM [4] (seqI (getD 1)) (tgN 4) yes (ofL (u1 listS (getS 4)))))) (ofD (callM 2 F__law_take (consV (getS 0) (consV (ofD (u1 lenS (getS 1))) nilV)))) [some (.h n), some (.d (cD c)), none, none, none, none, none, none, none, none, none] m
      = .ok (.nx [some (.h n), some (.d (cD c)), some (.d (cD c)), some (.d (.int (at_ : Int))), none, none, none, none, none, none, none]) m1 := by
    refine par_ok (a := .d (cD c)) (b := .d (.int (at_ : Int))) (m' := m) (ofD_ok (ofL_ok ?_)) (ofD_ok ((call2_ok (s1 := .h n) (s2 := .d (.int (c.length : Int))) (m' := m) (m'' := m) rfl (ofD_ok ((u1_ok (f := lenS) (a := .d (cD c)) (m' := m) rfl).trans (by rw [cutD_len (.inl rfl), fL_len])))).trans t1))
    have := lc_map (vs := [4]) (fi := seqI (getD 1)) (gt := tgN 4) (ge := ofL (u1 listS (getS 4))) (sd := [some (.h n), some (.d (cD c)), none, none, none, none, none, none, none, none, none]) (m := m) (ds := fL c) (fun d => d) rfl (fun d hd => by
      obtain ⟨G, _, rfl⟩ := List.mem_map.mp hd
      exact ⟨[some (.h n), some (.d (cD c)), none, none, some (.d (.lst (iL G))), none, none, none, none, none, none], rfl, rfl⟩) (by rw [fL_len]; omega)
    rw [this, List.map_id'']
    exact fun _ => rfl
  have hat : (fL c)[at_]? = some (.lst (iL F)) := by
    rw [List.getElem?_map, hF]
    rfl
  have s2 : setV 4 (u2 ixS (getS 2) (getD 3)) [some (.h n), some (.d (cD c)), some (.d (cD c)), some (.d (.int (at_ : Int))), none, none, none, none, none, none, none] m1
      = .ok (.nx [some (.h n), some (.d (cD c)), some (.d (cD c)), some (.d (.int (at_ : Int))), some (.d (.lst (iL F))), none, none, none, none, none, none]) m1 :=
    set_ok ((u2_ok (f := ixS) (a := .d (cD c)) (b := .int (at_ : Int)) (m' := m1) (m'' := m1) rfl rfl).trans (row_ix (.inl rfl) hat m1))
  have s3 : setV 5 (callM 2 F__law_take (consV (getS 0) (consV (ofD (u1 lenS (getS 4))) nilV))) [some (.h n), some (.d (cD c)), some (.d (cD c)), some (.d (.int (at_ : Int))), some (.d (.lst (iL F))), none, none, none, none, none, none] m1
      = .ok (.nx (osd n c at_ w F none none none none none)) m2 :=
    set_ok ((call2_ok (s1 := .h n) (s2 := .d (.int (F.length : Int))) (m' := m1) (m'' := m1) rfl (ofD_ok ((u1_ok (f := lenS) (a := .d (.lst (iL F))) (m' := m1) rfl).trans (lst_len F m1)))).trans u1')
  obtain ⟨ds0, f1, f2, f3⟩ := oc_first (n := n) hb.1 hb.2 (at_ := at_) (w := w) hFl m2
  have s4 := setX_ok (i := 6) (new_ok f1)
  obtain ⟨vs, v1, v2, v3⟩ := oc_items (n := n) (c := c) (at_ := at_) u3 (some (.h m2.length)) none none none none (m2 ++ [MO.lst ds0])
  obtain ⟨ds1, z7, l1, l2, l3⟩ := oc_loop (n := n) hb.1 hb.2 (at_ := at_) (w := w) hFl m2 vs ds0 none v2 f2 (by omega)
  have s6 : setV 8 (u2 divD (u1 sumS (ofD (ofL (lcM [9] (seqI (getD 2)) (tgN 9) yes (u1 lenS (getS 9)))))) (kD (.int 2))) (osd n c at_ w F (some (.h m2.length)) z7 none none none) (m2 ++ [MO.lst ds1])
      = .ok (.nx (osd n c at_ w F (some (.h m2.length)) z7 (some (.d (.int (k : Int)))) none none)) (m2 ++ [MO.lst ds1]) := by
    refine set_ok ?_
    have a1 := lc_lens (vs := [9]) (i := 9) (fi := seqI (getD 2)) (sd := osd n c at_ w F (some (.h m2.length)) z7 none none none) (m := m2 ++ [MO.lst ds1]) (fL_faces c) rfl (by rw [fL_len]; omega) (fun d => ⟨_, rfl, rfl⟩)
    refine (u2_ok (f := divD) (a := .int ((2 * k : Nat) : Int)) (b := .int 2) (m' := m2 ++ [MO.lst ds1]) (m'' := m2 ++ [MO.lst ds1]) ?_ rfl).trans (div2 k _)
    rw [u1_ok (f := sumS) (ofD_ok (ofL_ok a1)), sum_ints, lens_sum, hfl]
  have r := rows_AR hb.1 hb.2
  let K : Option S := some (.d (.int (k : Int)))
  let R1 : List (List D) := [[.int ((k : Int) + 1), .int (0 - (k : Int) - 1)]]
  let R2 : List (List D) := [[.int ((k : Int) + 1)], [.int (0 - (k : Int) - 1)]]
  have p7 := plus_ok (n := n) (at_ := at_) (w := w) (F := F) (y6 := some (.h m2.length)) (y7 := z7) (y8 := K) (y9 := none) (y10 := none) (m := m2 ++ [MO.lst ds1]) hb.2 (gb := ofL (lstV (consV (ofL (lstV (consV (u2 addD (getD 8) (kD (.int 1))) (consV (u2 subD (u2 subD (kD (.int 0)) (getD 8)) (kD (.int 1))) nilV)))) nilV))) (R := R1) (by simp [R1]) rfl
  have s7 := app_ok (ga := getS 6) rfl p7 (by omega)
  let ds2 := ds1 ++ [D.lst ((rows c ++ R1).map .lst)]
  have hl2 : ds2.length = ds1.length + 1 := by rw [List.length_append]; rfl
  have p8 := plus_ok (n := n) (at_ := at_) (w := w) (F := F) (y6 := some (.h m2.length)) (y7 := z7) (y8 := K) (y9 := none) (y10 := none) (m := m2 ++ [MO.lst ds2]) hb.2 (gb := ofL (lstV (consV (ofL (lstV (consV (u2 addD (getD 8) (kD (.int 1))) nilV))) (consV (ofL (lstV (consV (u2 subD (u2 subD (kD (.int 0)) (getD 8)) (kD (.int 1))) nilV))) nilV)))) (R := R2) (by simp [R2]) rfl
  have s8 := app_ok (ga := getS 6) rfl p8 (by omega)
  let ds3 := ds2 ++ [D.lst ((rows c ++ R2).map .lst)]
  have hl3 : ds3.length = ds2.length + 1 := by rw [List.length_append]; rfl
  have a1 := lc_rng (n := 31) (by decide) (gs := fun _ => M.pure []) (sd := osd n c at_ w F (some (.h m2.length)) z7 K none none) (m := m2 ++ [MO.lst ds3]) (getD 10) (fun e => e) (fun e => ⟨_, rfl, rfl⟩)
  have a2 := lc_rng (n := 31) (by decide) (gs := fun _ => M.pure []) (sd := osd n c at_ w F (some (.h m2.length)) z7 K none none) (m := m2 ++ [MO.lst ds3]) (u2 subD (kD (.int 0)) (getD 10)) (fun e => 0 - e) (fun e => ⟨_, rfl, rfl⟩)
  have s9 := app_ok (ga := getS 6) rfl (list2_ok (ofL_ok a1) (ofL_ok a2)) (by omega)
  let ds4 := ds3 ++ [D.lst [.lst (iL ((es 31).map fun e => e)), .lst (iL ((es 31).map fun e => 0 - e))]]
  have hl4 : ds4.length = ds3.length + 1 := by rw [List.length_append]; rfl
  obtain ⟨e, x1, x2, x3⟩ := oc_ret (n := n) hb.1 hb.2 (at_ := at_) (w := w) hFl m2 ds4 (by omega) z7 K none none
  refine ⟨ds4 ++ e, m2, ?_, dd, ?_, ?_⟩
  · have ee : G__law_odd_cuts [some (.h n), some (.d (cD c)), none, none, none, none, none, none, none, none, none] m = .ok (.rt (.lst (ds4 ++ e))) (m2 ++ [MO.fz (.lst ds4)]) := by
      unfold G__law_odd_cuts
      exact (seq_nx s1).trans ((seq_nx s2).trans ((seq_nx s3).trans ((seq_nx s4).trans ((seq_nx ((for_ok v1).trans l1)).trans ((seq_nx s6).trans ((seq_nx s7).trans ((seq_nx s8).trans ((seq_nx s9).trans (ret_ok x1)))))))))
    have := fn_rt (n := 11) (g := G__law_odd_cuts) (args := [.h n, .d (cD c)]) (m := m) ee
    rw [← dd.len, take_app] at this
    exact this
  · intro d hd
    rcases List.mem_append.mp hd with hd | hd
    rotate_left
    · exact x2 d hd
    rcases List.mem_append.mp hd with hd | hd
    rotate_left
    · rw [List.mem_singleton.mp hd]
      exact two_rows _ _ (by rw [List.length_map, es_len]; omega) (by rw [List.length_map, es_len]; omega)
    have b1 : ∀ i : Int, AR [[D.int i]] 2 := fun i => AR.one (fun x hx => by rw [List.mem_singleton.mp hx]; exact .int i) (by simp) (by omega)
    rcases List.mem_append.mp hd with hd | hd
    rotate_left
    · rw [List.mem_singleton.mp hd]
      exact (r.app ((b1 _).app (b1 _))).good (by omega)
    rcases List.mem_append.mp hd with hd | hd
    rotate_left
    · rw [List.mem_singleton.mp hd]
      refine (r.app (AR.one (N := 2) (fun x hx => ?_) (by simp) (by omega))).good (by omega)
      simp only [List.mem_cons, List.not_mem_nil, or_false] at hx
      rcases hx with rfl | rfl
      · exact .int _
      · exact .int _
    exact l2 d hd
  · rw [List.length_append]
    omega
end Pr
set_option maxRecDepth 100000
namespace Pr
open PySem Mi Pl
open L2 (Key)
abbrev inB : SD → M Fl := (seqM (setV 7 (callM 1 F__law_due_cut (consV (getS 6) nilV)))
    (seqM (ifV (notB (tst (callM 2 F__law_is_truth (consV (ofD (callM 1 F_is_cut (consV (getS 6) nilV))) (consV (getS 7) nilV))))) (retV (kD (.bl false))) nxV)
    (seqM (ifV (andB (tst (getD 7)) (c2 neD (callM 1 F_genus (consV (getS 6) nilV)) (callM 1 F__law_genus_of (consV (ofD (ofL (lcM [5] (seqI (getD 6)) (tgN 5) yes (ofL (u1 listS (getS 5)))))) nilV)))) (retV (kD (.bl false))) nxV)
    (ifV (andB (notB (tst (getD 7))) (notB (tst (u2 (isXc Ls sub) (ofD (caughtV Ls 0 "law" ("law.<locals>.<lambda>") (callM 1 F_genus (consV (getS 6) nilV)))) (ofD (kD (.gl "BadCut"))))))) (retV (kD (.bl false))) nxV))))
theorem is_truth (b : Bool) (m : Mem) : F__law_is_truth [.d (.bl b), .d (.bl b)] m = .ok (.bl true) m := by
  have e : G__law_is_truth [some (.d (.bl b)), some (.d (.bl b))] m = .ok (.rt (.bl true)) m := by cases b <;> rfl
  have := fn_rt (n := 2) (g := G__law_is_truth) (args := [.d (.bl b), .d (.bl b)]) (m := m) e
  rw [take_self] at this
  exact this
theorem caught_ok {x q : Str} {f : SD → M D} {sd : SD} {C : Str} {m m' : Mem} (h : m[0]? = some (.tab x q)) (e : f sd m = .exc C [] m') (hc : Ls.contains C = true) : caughtV Ls 0 x q f sd m = .ok (.ex C) m' := by
  unfold caughtV
  rw [h]
  show (if x = x ∧ q = q then _ else _) = _
  rw [if_pos ⟨rfl, rfl⟩, e]
  show (if Ls.contains C = true then _ else _) = _
  rw [if_pos hc]
def asL : D → D
  | .tup xs => .lst xs
  | x => x
theorem faces_lst {ds : List D} {c : List (List Int)} (h : Faces ds c) : ds.map asL = fL c := by
  induction h with
  | nil => rfl
  | @cons d F ds c h1 h2 ih =>
    show asL d :: ds.map asL = .lst (iL F) :: fL c
    rw [ih]
    rcases h1 with rfl | rfl <;> rfl
theorem face_list {ds : List D} {c : List (List Int)} (h : Faces ds c) (m : Mem) : ∀ d ∈ ds, listS (.d d) m = .ok (match asL d with | .lst xs => xs | _ => []) m := by
  induction h with
  | nil => simp
  | @cons d F ds c h1 h2 ih =>
    intro e he
    rcases List.mem_cons.mp he with rfl | he
    · rcases h1 with rfl | rfl <;> rfl
    · exact ih e he
theorem faces_asL {ds : List D} {c : List (List Int)} (h : Faces ds c) : ∀ d ∈ ds, ∃ xs, asL d = .lst xs := by
  induction h with
  | nil => simp
  | @cons d F ds c h1 h2 ih =>
    intro e he
    rcases List.mem_cons.mp he with rfl | he
    · rcases h1 with rfl | rfl <;> exact ⟨_, rfl⟩
    · exact ih e he
abbrev lwE : SD → M D := ofL (lcM [5] (seqI (getD 6)) (tgN 5) yes (ofL (u1 listS (getS 5))))
theorem lwE_ok {d : D} {c : List (List Int)} (hd : isCutD d c) (hc : c.length ≤ 1000) (a0 a1 a2 a3 a4 a5 a7 : Option S) (m : Mem) : lwE [a0, a1, a2, a3, a4, a5, some (.d d), a7] m = .ok (cD c) m := by
  obtain ⟨ds, hF, hdd⟩ := hd
  have hl := hF.length
  have := lc_map (vs := [5]) (fi := seqI (getD 6)) (gt := tgN 5) (ge := ofL (u1 listS (getS 5))) (sd := [a0, a1, a2, a3, a4, a5, some (.d d), a7]) (m := m) (ds := ds) asL (by rcases hdd with rfl | rfl <;> rfl) (fun x hx => by
    refine ⟨[a0, a1, a2, a3, a4, some (.d x), some (.d d), a7], rfl, ?_⟩
    obtain ⟨xs, e⟩ := faces_asL hF x hx
    have q := face_list hF m x hx
    rw [e] at q ⊢
    exact ofL_ok ((u1_ok (f := listS) (a := .d x) (m' := m) rfl).trans q)) (by omega)
  rw [faces_lst hF] at this
  exact ofL_ok this
theorem isC_genus {d : D} {c : List (List Int)} {n : Nat} (hd : isCutD d c) (hC : IsC c n) (m : Mem) : F__law_genus_of [.d d] m = .ok (.int (lawG c n)) m := by
  have hl := hC.nums.len
  have hs := hC.nums.small
  have hf := few_faces hC.nef
  exact law_genus hd hl (by omega) (by omega) (fun F hF e he => (hC.nums.mem.mp (flat_mem hF he)).1) (fun F hF e he => (hC.nums.mem.mp (flat_mem hF he)).2) m
/-- one value -/
theorem in_step {d : D} (g : Good d) {m : Mem} (h0 : m[0]? = some (.tab "law" "law.<locals>.<lambda>")) (a0 a1 a2 a3 a4 a5 a7 : Option S) : ∃ z7, inB [a0, a1, a2, a3, a4, a5, some (.d d), a7] m = .ok (.nx [a0, a1, a2, a3, a4, a5, some (.d d), z7]) m := by
  obtain ⟨b, b1, b2⟩ := due_cut g m
  obtain ⟨b', c1, c2'⟩ := is_cut g m
  have hbb : b' = b := by
    cases b <;> cases b'
    · rfl
    · exact absurd (b2.mpr (c2'.mp rfl)) (by decide)
    · exact absurd (c2'.mpr (b2.mp rfl)) (by decide)
    · rfl
  subst hbb
  refine ⟨some (.d (.bl b')), ?_⟩
  have s1 : setV 7 (callM 1 F__law_due_cut (consV (getS 6) nilV)) [a0, a1, a2, a3, a4, a5, some (.d d), a7] m = .ok (.nx [a0, a1, a2, a3, a4, a5, some (.d d), some (.d (.bl b'))]) m :=
    set_ok ((call1_ok (s := .d d) (m' := m) rfl).trans b1)
  have t2 : notB (tst (callM 2 F__law_is_truth (consV (ofD (callM 1 F_is_cut (consV (getS 6) nilV))) (consV (getS 7) nilV)))) [a0, a1, a2, a3, a4, a5, some (.d d), some (.d (.bl b'))] m = .ok false m :=
    notB_ok (b := true) (tst_ok ((call2_ok (s1 := .d (.bl b')) (s2 := .d (.bl b')) (m' := m) (m'' := m) (ofD_ok ((call1_ok (s := .d d) (m' := m) rfl).trans c1)) rfl).trans (is_truth b' m)))
  have h7 : tst (getD 7) [a0, a1, a2, a3, a4, a5, some (.d d), some (.d (.bl b'))] m = .ok b' m := tst_ok rfl
  cases b' with
  | true =>
    obtain ⟨c, n, hd, hC⟩ := b2.mp rfl
    have hf := few_faces hC.nef
    have hl := hC.nums.len
    have hs := hC.nums.small
    have t3 : c2 neD (callM 1 F_genus (consV (getS 6) nilV)) (callM 1 F__law_genus_of (consV (ofD lwE) nilV)) [a0, a1, a2, a3, a4, a5, some (.d d), some (.d (.bl true))] m = .ok false m := by
      refine c2_ok (f := neD) (a := .int (lawG c n)) (b := .int (lawG c n)) (m' := m) (m'' := m) ((call1_ok (s := .d d) (m' := m) rfl).trans (genus_yes g hd hC m)) ((call1_ok (s := .d (cD c)) (m' := m) (ofD_ok (lwE_ok hd (by omega) _ _ _ _ _ _ _ m))).trans (isC_genus (cD_cut c) hC m)) ?_
      rw [neD_int, decide_eq_true rfl]
      rfl
    refine (seq_nx s1).trans ((seq_nx ((if_ok t2).trans rfl)).trans ((seq_nx ((if_ok (andB_ok h7 fun _ => t3)).trans rfl)).trans ?_))
    exact (if_ok (andB_ok (b := false) (notB_ok h7) (fun z => absurd z (by decide)))).trans rfl
  | false =>
    have hn : ¬ CutD d := fun z => absurd (b2.mpr z) (by decide)
    have t4 : notB (tst (u2 (isXc Ls sub) (ofD (caughtV Ls 0 "law" ("law.<locals>.<lambda>") (callM 1 F_genus (consV (getS 6) nilV)))) (ofD (kD (.gl "BadCut"))))) [a0, a1, a2, a3, a4, a5, some (.d d), some (.d (.bl false))] m = .ok false m := by
      refine notB_ok (b := true) (tst_ok ?_)
      refine (u2_ok (f := isXc Ls sub) (a := .d (.ex "BadCut")) (b := .d (.gl "BadCut")) (m' := m) (m'' := m) (ofD_ok (caught_ok h0 ((call1_ok (s := .d d) (m' := m) rfl).trans (genus_no g hn m)) rfl)) rfl).trans ?_
      rfl
    refine (seq_nx s1).trans ((seq_nx ((if_ok t2).trans rfl)).trans ((seq_nx ((if_ok (andB_ok (b := false) h7 (fun z => absurd z (by decide)))).trans rfl)).trans ?_))
    exact (if_ok (andB_ok (notB_ok h7) fun _ => t4)).trans rfl
theorem in_loop {m : Mem} (h0 : m[0]? = some (.tab "law" "law.<locals>.<lambda>")) (a0 a1 a2 a3 a4 a5 : Option S) : ∀ (ds : List D) (y6 y7 : Option S), (∀ d ∈ ds, Good d) → ∃ z6 z7, forM (tgN 6) inB ds [a0, a1, a2, a3, a4, a5, y6, y7] m = .ok (.nx [a0, a1, a2, a3, a4, a5, z6, z7]) m
  | [], y6, y7, _ => ⟨y6, y7, rfl⟩
  | d :: ds, y6, y7, hg => by
    obtain ⟨w7, e⟩ := in_step (hg d List.mem_cons_self) h0 a0 a1 a2 a3 a4 a5 y7
    obtain ⟨z6, z7, e2⟩ := in_loop h0 a0 a1 a2 a3 a4 a5 ds (some (.d d)) w7 (fun x hx => hg x (List.mem_cons_of_mem _ hx))
    refine ⟨z6, z7, ?_⟩
    show Out.bind (inB [a0, a1, a2, a3, a4, a5, some (.d d), y7] m) _ = _
    rw [e]
    exact e2
end Pr
set_option maxRecDepth 100000
namespace Pr
open PySem Mi Pl
open L2 (Key)
abbrev ouB : SD → M Fl := (seqM (asgV (callM 3 F__law_drawn_cut (consV (getS 1) (consV (ofD (kD (.int 2))) (consV (ofD (kD (.int 10))) nilV)))) (tgT 2 (tgC (tgN 3) (tgC (tgN 4) tg0))))
    (seqM (ifV (orB (c2 neD (u1 reprI (ofD (callK 1 1 F_genus [0] (consV (getS 3) nilV)))) (u1 reprI (getS 4))) (c2 neD (u1 reprI (ofD (callM 1 F_genus (consV (ofD (u1 tupleS (ofD (ofL (lcM [5] (seqI (getD 3)) (tgN 5) yes (u1 tupleS (getS 5))))))) nilV)))) (u1 reprI (getS 4)))) (retV (kD (.bl false))) nxV)
    (seqM (ifV (c2 neD (callM 1 F__law_genus_of (consV (getS 3) nilV)) (getD 4)) (retV (kD (.bl false))) nxV)
    (forV (seqI (u2 addD (ofL (lstV (consV (getD 3) nilV))) (callM 2 F__law_odd_cuts (consV (getS 1) (consV (getS 3) nilV))))) (tgN 6) inB))))
theorem callK_ok {F : List S → M D} {g : SD → M S} {sd : SD} {s : S} {m m' : Mem} (h : g sd m = .ok s m') : callK 1 1 F [0] (consV g nilV) sd m = F [s] m' := by
  show ((g sd m).bind _).bind _ = _
  rw [h]
  rfl
theorem repr_ok (g : Nat) (hg : g < 3) (m : Mem) : reprI (.d (.int (g : Int))) m = .ok (.str (toString (g : Int))) m := by
  have : ∀ g, g < 3 → ((g : Nat) : Int).natAbs < 18446744073709551616 := by decide
  show (if ((g : Nat) : Int).natAbs < 18446744073709551616 then M.pure (.str (toString (g : Int))) else bad : M D) m = _
  rw [if_pos (this g hg)]
  rfl
theorem neS_ok (g : Nat) (hg : g < 3) (m : Mem) : neD (.str (toString (g : Int))) (.str (toString (g : Int))) m = .ok (.bl false) m := by
  have hp : plain (.str (toString (g : Int))) = true := by
    have : ∀ g, g < 3 → plain (.str (toString ((g : Nat) : Int))) = true := by decide +kernel
    exact this g hg
  have he : eqv (.str (toString (g : Int))) (.str (toString (g : Int))) = true := by
    have : ∀ g, g < 3 → eqv (.str (toString ((g : Nat) : Int))) (.str (toString ((g : Nat) : Int))) = true := by decide +kernel
    exact this g hg
  unfold neD
  rw [hp, he]
  rfl
theorem faces_tup : ∀ c : List (List Int), Faces ((rows c).map .tup) c
  | [] => .nil
  | F :: c => .cons (.inr rfl) (faces_tup c)
theorem ou_step {n : Nat} {m : Mem} (h : IsDr 1 m) (h0 : m[0]? = some (.tab "law" "law.<locals>.<lambda>")) (a0 a2 y3 y4 y5 y6 y7 : Option S) :
    ∃ z3 z4 z6 z7 m', ouB [a0, some (.h 1), a2, y3, y4, y5, y6, y7] m = .ok (.nx [a0, some (.h 1), a2, z3, z4, y5, z6, z7]) m' ∧ DrS 1 m m' := by
  obtain ⟨g, c, k, m1, e1, d1, hI, hk, hg⟩ := drawn_cut h
  have h1 := d1.is h
  obtain ⟨ds, m2, e2, d2, hG, hl⟩ := odd_cuts h1 hI hk
  have hb := AbL hI hk
  have hN := hI.nums (by omega)
  have hC : IsC c k := cut_isC hI.cut hN hI.some
  have hgen : lawG c k = (g : Int) := cut_genus hI.cut hN
  have r := rows_AR hb.1 hb.2
  have gL : Good (cD c) := by
    have := r.good (by omega)
    rw [← fL_rows] at this
    exact this
  have gT : Good (.tup ((rows c).map .tup)) := r.goodTT (by omega)
  have at0 : ∀ {a b : Mem}, DrS 1 a b → a[0]? = b[0]? := by
    rintro a b ⟨la, re, ce, tu, rfl⟩
    rw [List.getElem?_set_ne (by decide)]
  have h02 : m2[0]? = some (.tab "law" "law.<locals>.<lambda>") := by rw [← at0 d2, ← at0 d1, h0]
  let C : Option S := some (.d (cD c))
  let G : Option S := some (.d (.int (g : Int)))
  have s1 : asgV (callM 3 F__law_drawn_cut (consV (getS 1) (consV (ofD (kD (.int 2))) (consV (ofD (kD (.int 10))) nilV)))) (tgT 2 (tgC (tgN 3) (tgC (tgN 4) tg0))) [a0, some (.h 1), a2, y3, y4, y5, y6, y7] m = .ok (.nx [a0, some (.h 1), a2, C, G, y5, y6, y7]) m1 :=
    asg_ok ((call3_ok (s1 := .h 1) (s2 := .d (.int 2)) (s3 := .d (.int 10)) (m' := m) (m'' := m) (m3 := m) rfl rfl rfl).trans e1) rfl
  have rr : u1 reprI (getS 4) [a0, some (.h 1), a2, C, G, y5, y6, y7] m1 = .ok (.str (toString (g : Int))) m1 := (u1_ok (f := reprI) (a := .d (.int (g : Int))) (m' := m1) rfl).trans (repr_ok g hg m1)
  have gy := genus_yes gL (cD_cut c) hC m1
  have gy2 := genus_yes gT ⟨_, faces_tup c, .inr rfl⟩ hC m1
  rw [hgen] at gy gy2
  have q1 : c2 neD (u1 reprI (ofD (callK 1 1 F_genus [0] (consV (getS 3) nilV)))) (u1 reprI (getS 4)) [a0, some (.h 1), a2, C, G, y5, y6, y7] m1 = .ok false m1 :=
    c2_ok (f := neD) (m' := m1) (m'' := m1) ((u1_ok (f := reprI) (ofD_ok ((callK_ok (s := .d (cD c)) (m' := m1) rfl).trans gy))).trans (repr_ok g hg m1)) rr (neS_ok g hg m1)
  have lt : lcM [5] (seqI (getD 3)) (tgN 5) yes (u1 tupleS (getS 5)) [a0, some (.h 1), a2, C, G, y5, y6, y7] m1 = .ok ((rows c).map .tup) m1 := by
    have := lc_map (vs := [5]) (fi := seqI (getD 3)) (gt := tgN 5) (ge := u1 tupleS (getS 5)) (sd := [a0, some (.h 1), a2, C, G, y5, y6, y7]) (m := m1) (ds := fL c) (fun d => match d with | .lst xs => .tup xs | x => x) rfl (fun d hd => by
      obtain ⟨F, _, rfl⟩ := List.mem_map.mp hd
      exact ⟨[a0, some (.h 1), a2, C, G, some (.d (.lst (iL F))), y6, y7], rfl, rfl⟩) (by rw [fL_len]; omega)
    rw [this, fL_rows, List.map_map]
    rfl
  have q2 : c2 neD (u1 reprI (ofD (callM 1 F_genus (consV (ofD (u1 tupleS (ofD (ofL (lcM [5] (seqI (getD 3)) (tgN 5) yes (u1 tupleS (getS 5))))))) nilV)))) (u1 reprI (getS 4)) [a0, some (.h 1), a2, C, G, y5, y6, y7] m1 = .ok false m1 :=
    c2_ok (f := neD) (m' := m1) (m'' := m1) ((u1_ok (f := reprI) (ofD_ok ((call1_ok (s := .d (.tup ((rows c).map .tup))) (m' := m1) (ofD_ok ((u1_ok (f := tupleS) (ofD_ok (ofL_ok lt))).trans rfl))).trans gy2))).trans (repr_ok g hg m1)) rr (neS_ok g hg m1)
  have q3 : c2 neD (callM 1 F__law_genus_of (consV (getS 3) nilV)) (getD 4) [a0, some (.h 1), a2, C, G, y5, y6, y7] m1 = .ok false m1 := by
    have lg := isC_genus (cD_cut c) hC m1
    rw [hgen] at lg
    refine c2_ok (f := neD) (a := .int (g : Int)) (b := .int (g : Int)) (m' := m1) (m'' := m1) ((call1_ok (s := .d (cD c)) (m' := m1) rfl).trans lg) rfl ?_
    rw [neD_int, decide_eq_true rfl]
    rfl
  have q4 : u2 addD (ofL (lstV (consV (getD 3) nilV))) (callM 2 F__law_odd_cuts (consV (getS 1) (consV (getS 3) nilV))) [a0, some (.h 1), a2, C, G, y5, y6, y7] m1 = .ok (.lst (cD c :: ds)) m2 :=
    (u2_ok (f := addD) (list1_ok (g := getD 3) (a := cD c) (m' := m1) rfl) ((call2_ok (s1 := .h 1) (s2 := .d (cD c)) (m' := m1) (m'' := m1) rfl rfl).trans e2)).trans (add_lst [cD c] ds (by rw [List.length_singleton]; omega) m2)
  obtain ⟨z6, z7, e3⟩ := in_loop h02 a0 (some (.h 1)) a2 C G y5 (cD c :: ds) y6 y7 (fun d hd => by
    rcases List.mem_cons.mp hd with rfl | hd
    · exact gL
    · exact hG d hd)
  refine ⟨C, G, z6, z7, m2, ?_, d1.trans d2⟩
  exact (seq_nx s1).trans ((seq_nx ((if_ok (orB_ok q1 fun _ => q2)).trans rfl)).trans ((seq_nx ((if_ok q3).trans rfl)).trans ((for_ok (seqI_lst q4)).trans e3)))
theorem ou_loop (a0 : Option S) : ∀ (ds : List D) (m : Mem) (y2 y3 y4 y5 y6 y7 : Option S), IsDr 1 m → m[0]? = some (.tab "law" "law.<locals>.<lambda>") →
    ∃ sd' m', forM (tgN 2) ouB ds [a0, some (.h 1), y2, y3, y4, y5, y6, y7] m = .ok (.nx sd') m'
  | [], m, y2, y3, y4, y5, y6, y7, _, _ => ⟨_, m, rfl⟩
  | d :: ds, m, y2, y3, y4, y5, y6, y7, h, h0 => by
    obtain ⟨z3, z4, z6, z7, m1, e1, d1⟩ := ou_step (n := 1) h h0 a0 (some (.d d)) y3 y4 y5 y6 y7
    obtain ⟨sd', m', e2⟩ := ou_loop a0 ds m1 (some (.d d)) z3 z4 y5 z6 z7 (d1.is h) (by
      obtain ⟨la, re, ce, tu, rfl⟩ := d1
      rw [List.getElem?_set_ne (by decide)]
      exact h0)
    refine ⟨sd', m', ?_⟩
    show Out.bind (ouB [a0, some (.h 1), some (.d d), y3, y4, y5, y6, y7] m) _ = _
    rw [e1]
    exact e2
theorem callX_ok {F : List S → M S} {g : SD → M S} {sd : SD} {s : S} {m m' : Mem} (h : g sd m = .ok s m') : callX 1 F (consV g nilV) sd m = F [s] m' := by
  show ((g sd m).bind _).bind _ = _
  rw [h]
  rfl
theorem law_true (ns : List Int) (h : ns.length ≤ 63) : ∃ m', F_law [.d (.scr ns)] (mem0 lams) = .ok (.bl true) m' := by
  let m0 : Mem := mem0 lams
  let m1 : Mem := m0 ++ [.drw (largeL ns) 0 (ns.map absI) 0]
  have s1 : setX 1 (callX 1 F_begun (consV (getS 0) nilV)) [some (.d (.scr ns)), none, none, none, none, none, none, none] m0 = .ok (.nx [some (.d (.scr ns)), some (.h 1), none, none, none, none, none, none]) m1 := by
    refine setX_ok ((callX_ok (s := .d (.scr ns)) (m' := m0) rfl).trans ?_)
    show (if ns.length ≤ 1000 then Out.ok (S.h m0.length) m1 else .bad) = _
    rw [if_pos (by omega)]
    rfl
  have hr : IsDr 1 m1 := ⟨_, _, _, _, rfl⟩
  have h0 : m1[0]? = some (.tab "law" "law.<locals>.<lambda>") := rfl
  have r1 : u1 rng1 (u2 addD (kD (.int 1)) (u2 (mm2 min2I) (ofD (u1 lenS (getS 0))) (ofD (kD (.int 2))))) [some (.d (.scr ns)), some (.h 1), none, none, none, none, none, none] m1 = .ok (rngL 0 (1 + min2I ns.length 2)) m1 := by
    have a1 : u2 (mm2 min2I) (ofD (u1 lenS (getS 0))) (ofD (kD (.int 2))) [some (.d (.scr ns)), some (.h 1), none, none, none, none, none, none] m1 = .ok (.int (min2I ns.length 2)) m1 := by
      refine (u2_ok (f := mm2 min2I) (a := .d (.int ((ns.map D.int).length : Int))) (b := .d (.int 2)) (m' := m1) (m'' := m1) (ofD_ok rfl) rfl).trans ?_
      rw [List.length_map]
      rfl
    have a2 := (u2_ok (f := addD) (fa := kD (.int 1)) (a := .int 1) (m' := m1) rfl a1).trans (show _ = Out.ok (D.int (1 + min2I ns.length 2)) m1 from rfl)
    refine (u1_ok (f := rng1) a2).trans (rng1_ok (inR_of ?_ ?_))
    · unfold min2I
      split <;> omega
    · unfold min2I
      split <;> omega
  obtain ⟨sd', m', e⟩ := ou_loop (some (.d (.scr ns))) (rngL 0 (1 + min2I ns.length 2)) m1 none none none none none none hr h0
  have ee : G_law [some (.d (.scr ns)), none, none, none, none, none, none, none] m0 = .ok (.rt (.bl true)) m' := by
    unfold G_law
    exact (seq_nx s1).trans ((seq_nx ((for_ok r1).trans e)).trans (ret_ok rfl))
  exact ⟨_, fn_rt (n := 8) (g := G_law) (args := [.d (.scr ns)]) (m := m0) ee⟩
end Pr
set_option maxRecDepth 100000
set_option maxHeartbeats 0
namespace Pr
open PySem PySem.Spec PyProof.Rows L2 Mi
theorem fd_law {K : PySem.W.Frag} (c : He.SaysD fa fn K) : ∃ fd, FunD K "law" "law" (defArgs (top 32)) (defBody (top 32)) (defScope (top 32)) [] [] (He.ga K "law") fd := c.def_ 25 (d := mkD ("law", none) "law" "law" (top 32)) rfl
theorem bind_law {K : PySem.W.Frag} {fd : FuncData} (FD : FunD K "law" "law" (defArgs (top 32)) (defBody (top 32)) (defScope (top 32)) [] [] (He.ga K "law") fd) (s : Shared) (u : Value) : BindsTo s fd ⟨[u], []⟩ [("_law_script", u)] :=
  FD.bindsA (ps := ["_law_script"]) (fun _ _ _ _ _ _ us hl => match us, hl with | [_], _ => rfl) s [u] rfl
theorem glo_law {K : PySem.W.Frag} {mg : Str → Option Value} {h : Heap} (c : He.SaysD fa fn K) (KX : K.In h) (G : h.Ns mainGlobals mg) : mg "law" = some (.ref (He.ga K "law")) := He.glo_ok KX G (c.fact 25 rfl)
theorem ok_law2 {P : Program} {w : World} {K : PySem.W.Frag} {mg : Str → Option Value} {base : Heap} (T : Tx K mg base) {fd : FuncData} (FD : FunD K "law" "law" (defArgs (top 32)) (defBody (top 32)) (defScope (top 32)) [] [] (He.ga K "law") fd) :
    FnOk P w K mg base (L2.CX P w) 8 (He.ga K "law") fd ["_law_script"] (spF K 1 F_law) := by
  obtain ⟨fd', ok, _, oc, od, osl, lk⟩ := (ok_law (P := P) (w := w) T).ok
  obtain ⟨oc2, od2, osl2, lk2⟩ := FunD_look FD
  rw [lk] at lk2
  have e1 : Data.func fd' = Data.func fd := congrArg Obj.data (Option.some.inj lk2)
  have e2 : fd' = fd := by injection e1
  rw [← e2]
  exact ok
end Pr
open PySem PySem.W PySem.Calls PyProof.Rows
theorem PySem.Challenge.cw_splitbooks_k83_cuts_of_surfaces_holds : PySem.Challenge.rw_splitbooks_k83_cuts_of_surfaces.Holds := by
  w_on; o_law
  refine HandSHeadRun.head_any (r := OpenLaw.row PySem.Challenge.rw_splitbooks_k83_cuts_of_surfaces) (q := view (OpenLaw.row PySem.Challenge.rw_splitbooks_k83_cuts_of_surfaces).prog [32]) (H := Pr.hk) (ob := Pr.ob) (M := 12000) (loose := Pr.nms) (d := HandSHeadRun.topDef (OpenLaw.row PySem.Challenge.rw_splitbooks_k83_cuts_of_surfaces).prog 32) (kwd := []) Pr.ob_eq
    (by kernel_rfl) (fun s => by kernel_rfl) Pr.run (by kernel_rfl) (by kernel_rfl) (by kernel_rfl) (by rfl) (by first | assumption | decide +kernel) (by decide +kernel) ⟨rfl, rfl, rfl, rfl, rfl, by decide +kernel⟩ ?hw ?hc
  case hw => w_witness2
  case hc =>
    refine Mi.walk_T (l := PySem.Challenge.rw_splitbooks_k83_cuts_of_surfaces) (n := 63) (k := 8) (x := "_law_script") (CX := fun w => L2.CX PySem.Challenge.pw_splitbooks_k83_cuts_of_surfaces w) rfl (by decide) (by kernel_rfl) ?R ?F ?C
    case R => exact ⟨rfl, by decide, by decide⟩
    case C => exact fun w H s e s' z => Mi.cx_none z
    case F =>
      intro w mg fa h Y G hmg0
      obtain ⟨K, KX, c, y, tabs⟩ := Y
      have hmg : mg ("law" : PySem.Str) = some (.ref fa) := by
        have e : (HandSHeadRun.topDef (OpenLaw.row PySem.Challenge.rw_splitbooks_k83_cuts_of_surfaces).prog 32).name = ("law" : PySem.Str) := by kernel_rfl
        rw [← e]
        exact hmg0
      have e : fa = He.ga K "law" := Value.ref.inj (Option.some.inj (hmg.symm.trans (Pr.glo_law c KX G)))
      subst e
      have cods := (Mi.ba (Mi.ba y).2).1
      have ndup := of_decide_eq_true (Mi.ba (Mi.ba y).2).2
      obtain ⟨fd, FD⟩ := Pr.fd_law c
      refine ⟨K, KX, fd, Pr.lams.map fun x => (Mi.codeA K x, Mi.tabA K x), Mi.spF K 1 Pr.F_law, ?_, ?_, ?_, ?_, ?_, ?_⟩
      · intro p hp
        obtain ⟨x, hx, rfl⟩ := List.mem_map.mp hp
        exact (tabs x hx).1
      · intro p hp
        obtain ⟨x, hx, rfl⟩ := List.mem_map.mp hp
        exact (tabs x hx).2
      · intro p hp
        obtain ⟨x, hx, rfl⟩ := List.mem_map.mp hp
        exact Mi.cod1_ok KX (List.all_eq_true.mp cods x hx)
      · exact Pr.bind_law FD
      · intro H a ns hl _ hT hS
        obtain ⟨m', em⟩ := Pr.law_true ns hl
        exact Mi.sp_true ndup (fun x hx => hT (Mi.codeA K x, Mi.tabA K x) (List.mem_map.mpr ⟨x, hx, rfl⟩)) hS em
      · intro base KB GB TB
        have T : Pr.Tx K mg base := ⟨c, ⟨h, KX, G⟩, y, fun x hx => TB (Mi.codeA K x, Mi.tabA K x) (List.mem_map.mpr ⟨x, hx, rfl⟩)⟩
        exact Pr.ok_law2 T FD
