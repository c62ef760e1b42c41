import PyProof.Rows.All
import Wide.All
import OpenK.AllK
import Wide.FinOn
import HandS.ForMost
import HandS.ForExc
import HandS.Wide
import HandS.Dict
import HandS.TupAny
import HandS.TupMul
import HandS.Deep
import HandS.Strs
import HandS.IsInst
import HandS.Style
import HandS.Flow
import HandS.Flt
import KE.KTupSum
import HandS.Conv
import HandS.More
import HandS.RevRange
import HandS.WordsExc
import HandS.ExcInit
import HandS.ExcField
import HandS.TryMany
import HandS.Comp
import HandS.SortInts
import HandS.SortKw
import HandS.SetFor
import HandS.Zip
import KE.KExcIs
import HandS.ExcIs
import HandS.Gcd
import HandS.SortRule
import KE.DataMinMax
import PySem.Challenge.RW_presswork_k40_presses
set_option Elab.async false
set_option linter.all false
set_option maxRecDepth 100000
set_option maxHeartbeats 4000000

namespace DL
open PySem PySem.Spec PyProof.Rows L2
abbrev St := L2.St
abbrev Hp := L2.Hp

/-! ### pure data -/
inductive D where
  | non
  | bl (b : Bool)
  | int (i : Int)
  | str (s : Str)
  | lst (xs : List D)
  | tup (xs : List D)
  /-- a list that is read alone (the script) -/
  | rol (xs : List D)
  | dct (kvs : List (D × D))
  | dtt (kvs : List (D × D))
  | obj (c : Str) (fs : List (Str × D))

/-- a datum as a key of a dict -/
def D.key? : D → Option Key
  | .int i => some (.inl i)
  | .str s => some (.inr s)
  | _ => none
def D.keys? : List D → Option (List Key)
  | [] => some []
  | d :: r => match d.key?, D.keys? r with
    | some k, some ks => some (k :: ks)
    | _, _ => none

section
variable (K : PySem.W.Frag) (mg : Str → Option Value)
mutual
def Rep (F : Hp) : D → V → Prop
  | .non, v => v = .non
  | .bl b, v => v = .bl b
  | .int i, v => v = .int i
  | .str s, v => v = .str s
  | .lst ds, v => ∃ a vs, v = .ref a ∧ F a = some (.lst vs) ∧ RepL F ds vs
  | .rol ds, v => ∃ a vs, v = .ref a ∧ SqL K F a vs ∧ RepL F ds vs
  | .tup ds, v => ∃ a vs, v = .ref a ∧ SqT K F a vs ∧ RepL F ds vs
  | .dct kvs, v => ∃ a ks, v = .ref a ∧ F a = some (.dK ks) ∧ RepK F kvs ks
  | .dtt kvs, v => ∃ a ks, v = .ref a ∧ F a = some (.dT ks) ∧ RepT F kvs ks
  | .obj c fs, v => ∃ a C dx fv, v = .ref a ∧ mg c = some (.ref C) ∧ F a = some (.ins C dx fv) ∧ RepF F fs fv
def RepL (F : Hp) : List D → List V → Prop
  | [], vs => vs = []
  | d :: ds, vs => ∃ v r, vs = v :: r ∧ Rep F d v ∧ RepL F ds r
def RepK (F : Hp) : List (D × D) → List (Key × V) → Prop
  | [], ks => ks = []
  | (k, d) :: r, ks => ∃ kk v q, ks = (kk, v) :: q ∧ D.key? k = some kk ∧ Rep F d v ∧ RepK F r q
def RepT (F : Hp) : List (D × D) → List (List Key × V) → Prop
  | [], ks => ks = []
  | (k, d) :: r, ks => ∃ kk v q ts, ks = (kk, v) :: q ∧ k = .tup ts ∧ D.keys? ts = some kk ∧ Rep F d v ∧ RepT F r q
def RepF (F : Hp) : List (Str × D) → List (Str × V) → Prop
  | [], fv => fv = []
  | (n, d) :: r, fv => ∃ v q, fv = (n, v) :: q ∧ Rep F d v ∧ RepF F r q
end
end

section
variable {K : PySem.W.Frag} {mg : Str → Option Value} {F F' H H' : Hp}
theorem same_SqT {a : Addr} {xs : List V} (e : Same F F') (h : SqT K F a xs) : SqT K F' a xs := by
  rcases h with (h | ⟨o, h⟩) | h
  · exact .inl (.inl (e _ _ h))
  · exact .inl (.inr ⟨o, e _ _ h⟩)
  · exact .inr h
mutual
theorem Rep.mono (e : Same F F') : ∀ (d : D) (v : V), Rep K mg F d v → Rep K mg F' d v
  | .non, _, h => by simpa only [Rep] using h
  | .bl _, _, h => by simpa only [Rep] using h
  | .int _, _, h => by simpa only [Rep] using h
  | .str _, _, h => by simpa only [Rep] using h
  | .lst ds, _, h => by
    simp only [Rep] at h ⊢
    obtain ⟨a, vs, rfl, h1, h2⟩ := h
    exact ⟨a, vs, rfl, e _ _ h1, RepL.mono e ds vs h2⟩
  | .rol ds, _, h => by
    simp only [Rep] at h ⊢
    obtain ⟨a, vs, rfl, h1, h2⟩ := h
    exact ⟨a, vs, rfl, e.seq h1, RepL.mono e ds vs h2⟩
  | .tup ds, _, h => by
    simp only [Rep] at h ⊢
    obtain ⟨a, vs, rfl, h1, h2⟩ := h
    exact ⟨a, vs, rfl, same_SqT e h1, RepL.mono e ds vs h2⟩
  | .dct kvs, _, h => by
    simp only [Rep] at h ⊢
    obtain ⟨a, ks, rfl, h1, h2⟩ := h
    exact ⟨a, ks, rfl, e _ _ h1, RepK.mono e kvs ks h2⟩
  | .dtt kvs, _, h => by
    simp only [Rep] at h ⊢
    obtain ⟨a, ks, rfl, h1, h2⟩ := h
    exact ⟨a, ks, rfl, e _ _ h1, RepT.mono e kvs ks h2⟩
  | .obj c fs, _, h => by
    simp only [Rep] at h ⊢
    obtain ⟨a, C, dx, fv, rfl, h1, h2, h3⟩ := h
    exact ⟨a, C, dx, fv, rfl, h1, e _ _ h2, RepF.mono e fs fv h3⟩
theorem RepL.mono (e : Same F F') : ∀ (ds : List D) (vs : List V), RepL K mg F ds vs → RepL K mg F' ds vs
  | [], _, h => by simpa only [RepL] using h
  | d :: ds, _, h => by
    simp only [RepL] at h ⊢
    obtain ⟨v, r, rfl, h1, h2⟩ := h
    exact ⟨v, r, rfl, Rep.mono e d v h1, RepL.mono e ds r h2⟩
theorem RepK.mono (e : Same F F') : ∀ (ds : List (D × D)) (vs : List (Key × V)), RepK K mg F ds vs → RepK K mg F' ds vs
  | [], _, h => by simpa only [RepK] using h
  | (k, d) :: ds, _, h => by
    simp only [RepK] at h ⊢
    obtain ⟨kk, v, q, rfl, h0, h1, h2⟩ := h
    exact ⟨kk, v, q, rfl, h0, Rep.mono e d v h1, RepK.mono e ds q h2⟩
theorem RepT.mono (e : Same F F') : ∀ (ds : List (D × D)) (vs : List (List Key × V)), RepT K mg F ds vs → RepT K mg F' ds vs
  | [], _, h => by simpa only [RepT] using h
  | (k, d) :: ds, _, h => by
    simp only [RepT] at h ⊢
    obtain ⟨kk, v, q, ts, rfl, h0, h3, h1, h2⟩ := h
    exact ⟨kk, v, q, ts, rfl, h0, h3, Rep.mono e d v h1, RepT.mono e ds q h2⟩
theorem RepF.mono (e : Same F F') : ∀ (ds : List (Str × D)) (vs : List (Str × V)), RepF K mg F ds vs → RepF K mg F' ds vs
  | [], _, h => by simpa only [RepF] using h
  | (k, d) :: ds, _, h => by
    simp only [RepF] at h ⊢
    obtain ⟨v, q, rfl, h1, h2⟩ := h
    exact ⟨v, q, rfl, Rep.mono e d v h1, RepF.mono e ds q h2⟩
end
theorem RepL.length : ∀ {ds : List D} {vs : List V}, RepL K mg F ds vs → ds.length = vs.length
  | [], _, h => by simp only [RepL] at h; subst h; rfl
  | d :: ds, _, h => by
    simp only [RepL] at h
    obtain ⟨v, r, rfl, _, h2⟩ := h
    simp [RepL.length h2]
theorem RepL.get : ∀ {ds : List D} {vs : List V} {i : Nat} {d : D}, RepL K mg F ds vs → ds[i]? = some d → ∃ v, vs[i]? = some v ∧ Rep K mg F d v
  | [], _, _, _, _, e => by simp at e
  | d0 :: ds, _, 0, d, h, e => by
    simp only [RepL] at h
    obtain ⟨v, r, rfl, h1, _⟩ := h
    simp at e; subst e
    exact ⟨v, rfl, h1⟩
  | d0 :: ds, _, i + 1, d, h, e => by
    simp only [RepL] at h
    obtain ⟨v, r, rfl, _, h2⟩ := h
    simp at e
    obtain ⟨v', e1, e2⟩ := RepL.get h2 e
    exact ⟨v', by simpa using e1, e2⟩
theorem RepL.append : ∀ {ds es : List D} {vs us : List V}, RepL K mg F ds vs → RepL K mg F es us → RepL K mg F (ds ++ es) (vs ++ us)
  | [], _, _, _, h, h' => by simp only [RepL] at h; subst h; simpa using h'
  | d :: ds, es, _, us, h, h' => by
    simp only [RepL] at h
    obtain ⟨v, r, rfl, h1, h2⟩ := h
    simp only [List.cons_append, RepL]
    exact ⟨v, r ++ us, rfl, h1, RepL.append h2 h'⟩
theorem RepL.take : ∀ {ds : List D} {vs : List V} (n : Nat), RepL K mg F ds vs → RepL K mg F (ds.take n) (vs.take n)
  | _, _, 0, h => by simp [RepL]
  | [], _, n + 1, h => by simp only [RepL] at h; subst h; simp [RepL]
  | d :: ds, _, n + 1, h => by
    simp only [RepL] at h
    obtain ⟨v, r, rfl, h1, h2⟩ := h
    simp only [List.take_succ_cons, RepL]
    exact ⟨v, r.take n, rfl, h1, RepL.take n h2⟩
theorem RepL.drop : ∀ {ds : List D} {vs : List V} (n : Nat), RepL K mg F ds vs → RepL K mg F (ds.drop n) (vs.drop n)
  | _, _, 0, h => by simpa using h
  | [], _, n + 1, h => by simp only [RepL] at h; subst h; simp [RepL]
  | d :: ds, _, n + 1, h => by
    simp only [RepL] at h
    obtain ⟨v, r, rfl, h1, h2⟩ := h
    simpa using RepL.drop n h2
theorem RepL.set : ∀ {ds : List D} {vs : List V} {d : D} {v : V} (n : Nat), RepL K mg F ds vs → Rep K mg F d v → RepL K mg F (ds.set n d) (vs.set n v)
  | [], _, _, _, n, h, _ => by simp only [RepL] at h; subst h; simp [RepL]
  | d :: ds, _, d', v', 0, h, h' => by
    simp only [RepL] at h
    obtain ⟨v, r, rfl, h1, h2⟩ := h
    simp only [List.set_cons_zero, RepL]
    exact ⟨v', r, rfl, h', h2⟩
  | d :: ds, _, d', v', n + 1, h, h' => by
    simp only [RepL] at h
    obtain ⟨v, r, rfl, h1, h2⟩ := h
    simp only [List.set_cons_succ, RepL]
    exact ⟨v, r.set n v', rfl, h1, RepL.set n h2 h'⟩
theorem RepL.reverse : ∀ {ds : List D} {vs : List V}, RepL K mg F ds vs → RepL K mg F ds.reverse vs.reverse
  | [], _, h => by simp only [RepL] at h; subst h; simp [RepL]
  | d :: ds, _, h => by
    simp only [RepL] at h
    obtain ⟨v, r, rfl, h1, h2⟩ := h
    simp only [List.reverse_cons]
    exact RepL.append (RepL.reverse h2) (by simp only [RepL]; exact ⟨v, [], rfl, h1, rfl⟩)
theorem RepL.one {d : D} {v : V} (h : Rep K mg F d v) : RepL K mg F [d] [v] := by
  simp only [RepL]
  exact ⟨v, [], rfl, h, rfl⟩
theorem RepL.nil : RepL K mg F [] [] := by simp only [RepL]
theorem RepL.cons {d : D} {ds : List D} {v : V} {vs : List V} (h : Rep K mg F d v) (t : RepL K mg F ds vs) : RepL K mg F (d :: ds) (v :: vs) := by
  simp only [RepL]
  exact ⟨v, vs, rfl, h, t⟩
end

/-! ### slots, outcomes -/
/-- what a slot holds: unknown; a datum that never changes any more; a new list (dict, object) of one's own; a caller's list that may be changed -/
inductive Sl where
  | un
  | val (d : D)
  | own (d : D)
  | io (d : D)
abbrev Env := List Sl
inductive Out (α : Type) where
  | ok (a : α) (ρ : Env)
  | err (c : Str) (fs : List (Str × D)) (ρ : Env)
  | bad
abbrev M (α : Type) := Env → Out α
/-- what was passed at a def's entry: the heap, the part of it that never changes, the places of the lists that may be changed -/
structure Bd where
  H0 : Hp
  F0 : Hp
  io : List (Nat × Addr)

section
variable (K : PySem.W.Frag) (mg : Str → Option Value)
/-- an object of one's own -/
def Own (F : Hp) (o : Option HO) : D → Prop
  | .lst ds => ∃ vs, o = some (.lst vs) ∧ RepL K mg F ds vs
  | .dct kvs => ∃ ks, o = some (.dK ks) ∧ RepK K mg F kvs ks
  | .dtt kvs => ∃ ks, o = some (.dT ks) ∧ RepT K mg F kvs ks
  | .obj c fs => ∃ C dx fv, mg c = some (.ref C) ∧ o = some (.ins C dx fv) ∧ RepF K mg F fs fv
  | _ => False
def SlotR (B : Bd) (H F : Hp) (i : Nat) (ov : Option (Option V)) : Sl → Prop
  | .un => True
  | .val d => ∃ v, ov = some (some v) ∧ Rep K mg F d v
  | .own d => ∃ a, ov = some (some (.ref a)) ∧ F a = none ∧ B.H0 a = none ∧ Own K mg F (H a) d
  | .io d => ∃ a, ov = some (some (.ref a)) ∧ F a = none ∧ (i, a) ∈ B.io ∧ Own K mg F (H a) d
def Sl.mine : Sl → Bool
  | .own _ => true
  | .io _ => true
  | _ => false
structure Sim (B : Bd) (σ : St) (H F : Hp) (ρ : Env) : Prop where
  sub : Same F H
  len : ρ.length = σ.length
  slot : ∀ (i : Nat) (s : Sl), ρ[i]? = some s → SlotR K mg B H F i σ[i]? s
  sep : ∀ (i j : Nat) (s t : Sl) (a : Addr), ρ[i]? = some s → ρ[j]? = some t → s.mine = true → t.mine = true → σ[i]? = some (some (.ref a)) → σ[j]? = some (some (.ref a)) → i = j
  ios : ∀ p ∈ B.io, ∃ d, ρ[p.1]? = some (.io d) ∧ σ[p.1]? = some (some (.ref p.2))
  keepH : ∀ b o, B.H0 b = some o → (∀ i, (i, b) ∉ B.io) → H b = some o
  keepF : ∀ b, B.H0 b ≠ none → F b = B.F0 b
  there : ∀ b, B.H0 b ≠ none → H b ≠ none
end

/-- new objects alone, all of them to stay -/
structure Grow (H F H' F' : Hp) : Prop where
  h : Same H H'
  f : Same F F'
  sub : Same F' H'
  old : ∀ b, H b ≠ none → F' b = F b
theorem Grow.refl {H F : Hp} (s : Same F H) : Grow H F H F := ⟨Same.refl _, Same.refl _, s, fun _ _ => rfl⟩
theorem Grow.trans {H F H1 F1 H2 F2 : Hp} (a : Grow H F H1 F1) (b : Grow H1 F1 H2 F2) : Grow H F H2 F2 :=
  ⟨a.h.trans b.h, a.f.trans b.f, b.sub, fun c hc => (b.old c (fun z => by
    cases e : H c with
    | none => exact hc e
    | some o => rw [a.h c o e] at z; cases z)).trans (a.old c hc)⟩
theorem same_upd {H : Hp} {p : Addr} {o : HO} (h : H p = none) : Same H (upd H p o) := fun b x e => by
  rw [upd_ne (ne_of_none e h)]; exact e
theorem Grow.new {H F : Hp} {p : Addr} {o : HO} (s : Same F H) (h : H p = none) : Grow H F (upd H p o) (upd F p o) :=
  ⟨same_upd h, same_upd (s.free h), fun b x e => by
    by_cases hb : b = p
    · subst hb; rw [upd_same] at e ⊢; exact e
    · rw [upd_ne hb] at e ⊢; exact s b x e,
   fun b hb => by
    have : b ≠ p := fun z => hb (by rw [z]; exact h)
    rw [upd_ne this]⟩

section
variable {K : PySem.W.Frag} {mg : Str → Option Value} {B : Bd} {σ : St} {H F H' F' : Hp} {ρ : Env}
theorem Own.mono (e : Same F F') {o : Option HO} : ∀ {d : D}, Own K mg F o d → Own K mg F' o d
  | .lst ds, ⟨vs, h1, h2⟩ => ⟨vs, h1, RepL.mono e ds vs h2⟩
  | .dct kvs, ⟨ks, h1, h2⟩ => ⟨ks, h1, RepK.mono e kvs ks h2⟩
  | .dtt kvs, ⟨ks, h1, h2⟩ => ⟨ks, h1, RepT.mono e kvs ks h2⟩
  | .obj c fs, ⟨C, dx, fv, h1, h2, h3⟩ => ⟨C, dx, fv, h1, h2, RepF.mono e fs fv h3⟩
  | .non, h => h.elim
  | .bl _, h => h.elim
  | .int _, h => h.elim
  | .str _, h => h.elim
  | .tup _, h => h.elim
  | .rol _, h => h.elim
theorem Own.there {o : Option HO} : ∀ {d : D}, Own K mg F o d → ∃ u, o = some u
  | .lst ds, ⟨vs, h1, h2⟩ => ⟨_, h1⟩
  | .dct kvs, ⟨ks, h1, h2⟩ => ⟨_, h1⟩
  | .dtt kvs, ⟨ks, h1, h2⟩ => ⟨_, h1⟩
  | .obj c fs, ⟨C, dx, fv, h1, h2, h3⟩ => ⟨_, h2⟩
  | .non, h => h.elim
  | .bl _, h => h.elim
  | .int _, h => h.elim
  | .str _, h => h.elim
  | .tup _, h => h.elim
  | .rol _, h => h.elim
theorem Sim.grow (S : Sim K mg B σ H F ρ) (g : Grow H F H' F') : Sim K mg B σ H' F' ρ where
  sub := g.sub
  len := S.len
  slot := fun i s e => by
    have q := S.slot i s e
    cases s with
    | un => trivial
    | val d =>
      obtain ⟨v, h1, h2⟩ := q
      exact ⟨v, h1, Rep.mono g.f d v h2⟩
    | own d =>
      obtain ⟨a, h1, h2, h3, h4⟩ := q
      obtain ⟨u, hu⟩ := h4.there
      exact ⟨a, h1, (g.old a (by rw [hu]; exact fun z => nomatch z)).trans h2, h3, by rw [g.h a u hu, ← hu]; exact h4.mono g.f⟩
    | io d =>
      obtain ⟨a, h1, h2, h3, h4⟩ := q
      obtain ⟨u, hu⟩ := h4.there
      exact ⟨a, h1, (g.old a (by rw [hu]; exact fun z => nomatch z)).trans h2, h3, by rw [g.h a u hu, ← hu]; exact h4.mono g.f⟩
  sep := S.sep
  ios := S.ios
  keepH := fun b o e n => g.h b o (S.keepH b o e n)
  keepF := fun b e => by
    have hb := S.there b e
    rw [g.old b hb]
    exact S.keepF b e
  there := fun b e z => by
    cases q : H b with
    | none => exact S.there b e q
    | some o => rw [g.h b o q] at z; cases z
end
end DL

namespace DL
open PySem PySem.Spec PyProof.Rows L2

def Out.then {α β : Type} (o : Out α) (k : α → M β) : Out β := match o with
  | .ok a ρ => k a ρ
  | .err c fs ρ => .err c fs ρ
  | .bad => .bad
def M.bind {α β : Type} (m : M α) (k : α → M β) : M β := fun ρ => (m ρ).then k
def M.ret {α : Type} (a : α) : M α := fun ρ => .ok a ρ
def M.map {α β : Type} (g : α → β) (m : M α) : M β := m.bind fun a => M.ret (g a)
@[simp] theorem then_ok {α β : Type} (a : α) (ρ : Env) (k : α → M β) : (Out.ok a ρ).then k = k a ρ := rfl
@[simp] theorem then_err {α β : Type} (c : Str) (fs : List (Str × D)) (ρ : Env) (k : α → M β) : (Out.err c fs ρ : Out α).then k = .err c fs ρ := rfl
@[simp] theorem then_bad {α β : Type} (k : α → M β) : (Out.bad : Out α).then k = .bad := rfl

/-- an operand: a datum, or a slot that is read when the operation is done -/
inductive OV where
  | now (d : D)
  | late (i : Nat)
def Sl.get : Sl → Option D
  | .un => none
  | .val d => some d
  | .own d => some d
  | .io d => some d
def OV.get (ρ : Env) : OV → Option D
  | .now d => some d
  | .late i => match ρ[i]? with
    | some s => s.get
    | none => none

section
variable (X : Cx) (B : Bd) (W : WX)
/-- a raised exception, as it lies -/
def ErrR (H F : Hp) (c : Str) (fs : List (Str × D)) (cls : Value) (dd : Option Addr) : Prop :=
  ∃ C a fv, X.mg c = some (.ref C) ∧ cls = .ref C ∧ dd = some a ∧ H a = some (.xd fv) ∧ RepF X.K X.mg F fs fv
abbrev RT (α β : Type) := St → Hp → Hp → Env → α → β → Prop
def Post {α β : Type} (R : RT α β) (F : Hp) (σ : St) (Q : β → Hp → Prop) : Out α → Prop
  | .ok a ρ => ∀ v H' F', Sim X.K X.mg B σ H' F' ρ → Same F F' → R σ H' F' ρ a v → Q v H'
  | .err c fs ρ => ∀ cls dd H' F', Sim X.K X.mg B σ H' F' ρ → Same F F' → ErrR X H' F' c fs cls dd → W cls dd σ H'
  | .bad => False
structure At {α β : Type} (R : RT α β) (f : M α) (F : Hp) (ρ : Env) (σ : St) (H : Hp) (Q : β → Hp → Prop) : Prop where
  sim : Sim X.K X.mg B σ H F ρ
  post : Post X B W R F σ Q (f ρ)
def tG {α β : Type} (R : RT α β) (f : M α) : St → Hp → (β → Hp → Prop) → Prop := fun σ H Q => ∃ F ρ, At X B W R f F ρ σ H Q

/-- results: a datum; an operand; operands; a test's answer; a datum or a new object of one's own -/
def RE : RT D V := fun _ _ F _ d v => Rep X.K X.mg F d v
def RO : RT OV V := fun σ _ F _ o v => match o with
  | .now d => Rep X.K X.mg F d v
  | .late i => σ[i]? = some (some v)
def ROs : List OV → List V → St → Hp → Prop
  | [], vs, _, _ => vs = []
  | o :: os, vs, σ, F => ∃ v r, vs = v :: r ∧ (match o with
    | .now d => Rep X.K X.mg F d v
    | .late i => σ[i]? = some (some v)) ∧ ROs os r σ F
def RL : RT (List OV) (List V) := fun σ _ F _ os vs => ROs X os vs σ F
def RDs : RT (List D) (List V) := fun _ _ F _ ds vs => RepL X.K X.mg F ds vs
def RB : RT Bool Bool := fun _ _ _ _ a b => a = b
def NewR (H F : Hp) (σ : St) (ρ : Env) (d : D) (v : V) : Prop :=
  ∃ a, v = .ref a ∧ F a = none ∧ B.H0 a = none ∧ Own X.K X.mg F (H a) d ∧ ∀ (i : Nat) (s : Sl), ρ[i]? = some s → s.mine = true → σ[i]? ≠ some (some (.ref a))
def RV : RT (D × Bool) V := fun σ H F ρ p v => if p.2 = true then NewR X B H F σ ρ p.1 v else Rep X.K X.mg F p.1 v
end

section
variable {X : Cx} {B : Bd} {W : WX}
theorem Post.anti {α β : Type} {R : RT α β} {F F' : Hp} {σ : St} {Q : β → Hp → Prop} {o : Out α} (s : Same F F') (h : Post X B W R F σ Q o) : Post X B W R F' σ Q o := by
  cases o with
  | ok a ρ => exact fun v H' F2 S t r => h v H' F2 S (s.trans t) r
  | err c fs ρ => exact fun cls dd H' F2 S t r => h cls dd H' F2 S (s.trans t) r
  | bad => exact h
theorem Post.imp {α β : Type} {R : RT α β} {F : Hp} {σ : St} {Q Q' : β → Hp → Prop} {o : Out α} (h : Post X B W R F σ Q o) (q : ∀ v H, Q v H → Q' v H) : Post X B W R F σ Q' o := by
  cases o with
  | ok a ρ => exact fun v H' F2 S t r => q _ _ (h v H' F2 S t r)
  | err c fs ρ => exact h
  | bad => exact h
theorem At.toG {α β : Type} {R : RT α β} {f : M α} {F : Hp} {ρ : Env} {σ : St} {H : Hp} {Q : β → Hp → Prop} (h : At X B W R f F ρ σ H Q) : tG X B W R f σ H Q := ⟨F, ρ, h⟩
/-- one step: f, then what it hands on -/
theorem At.step {α β γ δ : Type} {R : RT α β} {R' : RT γ δ} {f : M α} {k : α → M γ} {F : Hp} {ρ : Env} {σ : St} {H : Hp} {Q : δ → Hp → Prop}
    (h : At X B W R' (f.bind k) F ρ σ H Q) : At X B W R f F ρ σ H (fun v H1 => ∃ F1 ρ1 a, Same F F1 ∧ R σ H1 F1 ρ1 a v ∧ At X B W R' (k a) F1 ρ1 σ H1 Q) := by
  refine ⟨h.sim, ?_⟩
  have p := h.post
  unfold M.bind at p
  cases e : f ρ with
  | ok a ρ1 =>
    rw [e] at p
    exact fun v H1 F1 S1 s1 r1 => ⟨F1, ρ1, a, s1, r1, S1, p.anti s1⟩
  | err c fs ρ1 => rw [e] at p; exact p
  | bad => rw [e] at p; exact p.elim
theorem At.go {α β γ δ : Type} {R : RT α β} {R' : RT γ δ} {f : M α} {k : α → M γ} {F : Hp} {ρ : Env} {σ : St} {H : Hp} {Q : δ → Hp → Prop} {Q1 : β → Hp → Prop}
    (h : At X B W R' (f.bind k) F ρ σ H Q) (hk : ∀ v H1 F1 ρ1 a, Same F F1 → R σ H1 F1 ρ1 a v → At X B W R' (k a) F1 ρ1 σ H1 Q → Q1 v H1) : tG X B W R f σ H Q1 :=
  ⟨F, ρ, h.sim, (h.step (R := R)).post.imp fun v H1 ⟨F1, ρ1, a, s1, r1, h1⟩ => hk v H1 F1 ρ1 a s1 r1 h1⟩
/-- the end: nothing more is done -/
theorem At.fin {α β : Type} {R : RT α β} {f : M α} {F : Hp} {ρ ρ' : Env} {σ : St} {H H' F' : Hp} {Q : β → Hp → Prop} {a : α} {v : β} (h : At X B W R f F ρ σ H Q) (e : f ρ = .ok a ρ') (S : Sim X.K X.mg B σ H' F' ρ') (s : Same F F') (r : R σ H' F' ρ' a v) : Q v H' := by
  have p := h.post
  rw [e] at p
  exact p v H' F' S s r
theorem At.nobad {α β : Type} {R : RT α β} {f : M α} {F : Hp} {ρ : Env} {σ : St} {H : Hp} {Q : β → Hp → Prop} (h : At X B W R f F ρ σ H Q) : f ρ ≠ .bad := fun e => by
  have p := h.post
  rw [e] at p
  exact p

/-! ### the judgements: an expression (its value; a value or something new), an operand, arguments, a test -/
abbrev SE (X : Cx) (B : Bd) (W : WX) (e : Expr) (f : M D) : Prop := PE X e (tG X B W (RE X) f)
abbrev SV (X : Cx) (B : Bd) (W : WX) (e : Expr) (f : M (D × Bool)) : Prop := PE X e (tG X B W (RV X B) f)
abbrev SO (X : Cx) (B : Bd) (W : WX) (e : Expr) (f : M OV) : Prop := PE X e (tG X B W (RO X) f)
abbrev SOs (X : Cx) (B : Bd) (W : WX) (es : List Expr) (f : M (List OV)) : Prop := PA X es (tG X B W (RL X) f)
abbrev SDs (X : Cx) (B : Bd) (W : WX) (es : List Expr) (f : M (List D)) : Prop := PA X es (tG X B W (RDs X) f)
abbrev ST (X : Cx) (B : Bd) (W : WX) (e : Expr) (f : M Bool) : Prop := PT X e (tG X B W RB f)

theorem pe_mono {e : Expr} {t t' : TE} (h : PE X e t) (i : ∀ σ H Q, t' σ H Q → t σ H Q) : PE X e t' := ⟨fun pins s σ H Q I q => h.run pins s σ H Q I (i σ H Q q)⟩
theorem pt_mono {e : Expr} {t t' : TT} (h : PT X e t) (i : ∀ σ H Q, t' σ H Q → t σ H Q) : PT X e t' := ⟨fun pins s σ H Q I q => h.run pins s σ H Q I (i σ H Q q)⟩
theorem pa_mono {e : List Expr} {t t' : TA} (h : PA X e t) (i : ∀ σ H Q, t' σ H Q → t σ H Q) : PA X e t' := ⟨fun pos pins s σ H Q I q => h.run pos pins s σ H Q I (i σ H Q q)⟩

/-- a new object of one's own is let be -/
theorem Sim.freeze {K : PySem.W.Frag} {mg : Str → Option Value} {σ : St} {H F : Hp} {ρ : Env} {a : Addr} {d : D} (S : Sim K mg B σ H F ρ) (hF : F a = none) (hB : B.H0 a = none) (ho : Own K mg F (H a) d)
    (hs : ∀ (i : Nat) (s : Sl), ρ[i]? = some s → s.mine = true → σ[i]? ≠ some (some (.ref a))) :
    ∃ F', Sim K mg B σ H F' ρ ∧ Same F F' ∧ Rep K mg F' d (.ref a) ∧ (∀ b, b ≠ a → F' b = F b) := by
  obtain ⟨u, hu⟩ := ho.there
  have sm : Same F (upd F a u) := same_upd hF
  refine ⟨upd F a u, ⟨fun b x e => ?_, S.len, fun i s e => ?_, S.sep, S.ios, S.keepH, fun b hb => ?_, S.there⟩, sm, ?_, fun b hb => upd_ne hb⟩
  · by_cases hb : b = a
    · subst hb; rw [upd_same] at e; rw [hu]; exact e
    · rw [upd_ne hb] at e; exact S.sub b x e
  · have q := S.slot i s e
    cases s with
    | un => trivial
    | val d' => obtain ⟨v, h1, h2⟩ := q; exact ⟨v, h1, Rep.mono sm d' v h2⟩
    | own d' =>
      obtain ⟨a', h1, h2, h3, h4⟩ := q
      have : a' ≠ a := fun z => hs i _ e rfl (by rw [← z]; exact h1)
      exact ⟨a', h1, by rw [upd_ne this]; exact h2, h3, h4.mono sm⟩
    | io d' =>
      obtain ⟨a', h1, h2, h3, h4⟩ := q
      have : a' ≠ a := fun z => hs i _ e rfl (by rw [← z]; exact h1)
      exact ⟨a', h1, by rw [upd_ne this]; exact h2, h3, h4.mono sm⟩
  · have : b ≠ a := fun z => hb (by rw [z]; exact hB)
    rw [upd_ne this]; exact S.keepF b hb
  · have hself : (upd F a u) a = some u := upd_same
    cases d with
    | lst ds =>
      obtain ⟨vs, h1, h2⟩ := ho
      rw [hu] at h1; cases h1
      simp only [Rep]
      exact ⟨a, vs, rfl, hself, RepL.mono sm ds vs h2⟩
    | dct kvs =>
      simp only [Rep]
      obtain ⟨ks, h1, h2⟩ := ho
      rw [hu] at h1; cases h1
      exact ⟨a, ks, rfl, hself, RepK.mono sm kvs ks h2⟩
    | dtt kvs =>
      simp only [Rep]
      obtain ⟨ks, h1, h2⟩ := ho
      rw [hu] at h1; cases h1
      exact ⟨a, ks, rfl, hself, RepT.mono sm kvs ks h2⟩
    | obj c fs =>
      obtain ⟨C, dx, fv, h1, h2, h3⟩ := ho
      rw [hu] at h2; cases h2
      simp only [Rep]
      exact ⟨a, C, dx, fv, rfl, h1, hself, RepF.mono sm fs fv h3⟩
    | non => exact ho.elim
    | bl _ => exact ho.elim
    | int _ => exact ho.elim
    | str _ => exact ho.elim
    | tup _ => exact ho.elim
    | rol _ => exact ho.elim
theorem SV.toE {e : Expr} {f : M (D × Bool)} (h : SV X B W e f) : SE X B W e (f.map Prod.fst) := by
  refine pe_mono h fun σ H Q ⟨F, ρ, a⟩ => ⟨F, ρ, a.sim, ?_⟩
  have p := a.post
  unfold M.map M.bind at p
  cases e : f ρ with
  | ok x ρ1 =>
    rw [e] at p
    intro v H' F' S s r
    unfold RV at r
    by_cases hx : x.2 = true
    · rw [if_pos hx] at r
      obtain ⟨b, rfl, h1, h2, h3, h4⟩ := r
      obtain ⟨F2, S2, s2, r2, _⟩ := S.freeze h1 h2 h3 h4
      exact p _ H' F2 S2 (s.trans s2) r2
    · rw [if_neg hx] at r
      exact p v H' F' S s r
  | err c fs ρ1 => rw [e] at p; exact p
  | bad => rw [e] at p; exact p
theorem SE.toO {e : Expr} {f : M D} (h : SE X B W e f) : SO X B W e (f.map OV.now) := by
  refine pe_mono h fun σ H Q ⟨F, ρ, a⟩ => ⟨F, ρ, a.sim, ?_⟩
  have p := a.post
  unfold M.map M.bind at p
  cases e : f ρ with
  | ok x ρ1 => rw [e] at p; exact fun v H' F' S s r => p v H' F' S s r
  | err c fs ρ1 => rw [e] at p; exact p
  | bad => rw [e] at p; exact p
theorem SE.toV {e : Expr} {f : M D} (h : SE X B W e f) : SV X B W e (f.map fun d => (d, false)) := by
  refine pe_mono h fun σ H Q ⟨F, ρ, a⟩ => ⟨F, ρ, a.sim, ?_⟩
  have p := a.post
  unfold M.map M.bind at p
  cases e : f ρ with
  | ok x ρ1 => rw [e] at p; exact fun v H' F' S s r => p v H' F' S s (by unfold RV; rw [if_neg (by simp)]; exact r)
  | err c fs ρ1 => rw [e] at p; exact p
  | bad => rw [e] at p; exact p

/-! ### names and constants -/
def mLit (d : D) : M D := M.ret d
def eVar (i : Nat) : M D := fun ρ => match ρ[i]? with
  | some (.val d) => .ok d ρ
  | some (.own d) => .ok d (ρ.set i (.val d))
  | _ => .bad
def oVar (i : Nat) : M OV := fun ρ => match ρ[i]? with
  | some (.val _) => .ok (.late i) ρ
  | some (.own _) => .ok (.late i) ρ
  | some (.io _) => .ok (.late i) ρ
  | _ => .bad
theorem se_tC {e : Expr} {v : V} {d : D} (h : PE X e (tC v)) (r : ∀ F, Rep X.K X.mg F d v) : SE X B W e (mLit d) := by
  refine pe_mono h fun σ H Q ⟨F, ρ, a⟩ => ?_
  exact a.fin rfl a.sim (Same.refl _) (r F)
theorem se_int {i j pos} : SE X B W (.Constant (.int i) j pos) (mLit (.int i)) := se_tC pe_int fun _ => by simp only [Rep]
theorem se_bl {b j pos} : SE X B W (.Constant (.bool b) j pos) (mLit (.bl b)) := se_tC pe_bl fun _ => by simp only [Rep]
theorem se_non {j pos} : SE X B W (.Constant .none j pos) (mLit .non) := se_tC pe_non fun _ => by simp only [Rep]
theorem se_str {x j pos} : SE X B W (.Constant (.str x) j pos) (mLit (.str x)) := se_tC pe_str fun _ => by simp only [Rep]
theorem so_pv {i : Nat} {e : Expr} (h : PE X e (tVar i)) : SO X B W e (oVar i) := by
  refine pe_mono h fun σ H Q ⟨F, ρ, a⟩ => ?_
  have p := a.post
  unfold oVar at p
  cases q : ρ[i]? with
  | none => rw [q] at p; exact p.elim
  | some s =>
    rw [q] at p
    have r := a.sim.slot i s q
    cases s with
    | un => exact p.elim
    | val d =>
      obtain ⟨v, h1, h2⟩ := r
      exact ⟨v, h1, p v H F a.sim (Same.refl _) h1⟩
    | own d =>
      obtain ⟨b, h1, _⟩ := r
      exact ⟨.ref b, h1, p _ H F a.sim (Same.refl _) h1⟩
    | io d =>
      obtain ⟨b, h1, _⟩ := r
      exact ⟨.ref b, h1, p _ H F a.sim (Same.refl _) h1⟩
/-- an own object is given away: the slot bears it as a datum -/
theorem Sim.give {K : PySem.W.Frag} {mg : Str → Option Value} {σ : St} {H F : Hp} {ρ : Env} {i : Nat} {d : D} (S : Sim K mg B σ H F ρ) (e : ρ[i]? = some (.own d)) :
    ∃ v F', Sim K mg B σ H F' (ρ.set i (.val d)) ∧ Same F F' ∧ Rep K mg F' d v ∧ σ[i]? = some (some v) := by
  obtain ⟨a, h1, h2, h3, h4⟩ := S.slot i _ e
  have hi : i < ρ.length := (List.getElem?_eq_some_iff.mp e).1
  -- the slot is forgotten first
  have S0 : Sim K mg B σ H F (ρ.set i .un) := by
    refine ⟨S.sub, by rw [List.length_set]; exact S.len, fun j s q => ?_, fun j k s t b q1 q2 m1 m2 => ?_, fun p hp => ?_, S.keepH, S.keepF, S.there⟩
    · by_cases hj : i = j
      · subst hj
        rw [List.getElem?_set_self hi] at q
        cases q
        trivial
      · rw [List.getElem?_set_ne hj] at q
        exact S.slot j s q
    · have n1 : i ≠ j := fun z => by
        subst z; rw [List.getElem?_set_self hi] at q1; cases q1; cases m1
      have n2 : i ≠ k := fun z => by
        subst z; rw [List.getElem?_set_self hi] at q2; cases q2; cases m2
      rw [List.getElem?_set_ne n1] at q1
      rw [List.getElem?_set_ne n2] at q2
      exact S.sep j k s t b q1 q2 m1 m2
    · obtain ⟨d', q1, q2⟩ := S.ios p hp
      have n1 : i ≠ p.1 := fun z => by
        rw [← z, e] at q1; cases q1
      exact ⟨d', by rw [List.getElem?_set_ne n1]; exact q1, q2⟩
  obtain ⟨F', S1, s1, r1, o1⟩ := S0.freeze h2 h3 h4 (fun j s q m z => by
    have n1 : i ≠ j := fun z => by
      subst z; rw [List.getElem?_set_self hi] at q; cases q; cases m
    rw [List.getElem?_set_ne n1] at q
    exact n1 (S.sep i j _ s a e q rfl m h1 z))
  refine ⟨.ref a, F', ?_, s1, r1, h1⟩
  refine ⟨S1.sub, by rw [List.length_set]; exact S.len, fun j s q => ?_, fun j k s t b q1 q2 m1 m2 => ?_, fun p hp => ?_, S1.keepH, S1.keepF, S1.there⟩
  · by_cases hj : i = j
    · subst hj
      rw [List.getElem?_set_self hi] at q
      cases q
      exact ⟨.ref a, h1, r1⟩
    · rw [List.getElem?_set_ne hj] at q
      exact S1.slot j s (by rw [List.getElem?_set_ne hj]; exact q)
  · have n1 : i ≠ j := fun z => by
      subst z; rw [List.getElem?_set_self hi] at q1; cases q1; cases m1
    have n2 : i ≠ k := fun z => by
      subst z; rw [List.getElem?_set_self hi] at q2; cases q2; cases m2
    rw [List.getElem?_set_ne n1] at q1
    rw [List.getElem?_set_ne n2] at q2
    exact S.sep j k s t b q1 q2 m1 m2
  · obtain ⟨d', q1, q2⟩ := S.ios p hp
    have n1 : i ≠ p.1 := fun z => by
      rw [← z, e] at q1; cases q1
    exact ⟨d', by rw [List.getElem?_set_ne n1]; exact q1, q2⟩
theorem se_pv {i : Nat} {e : Expr} (h : PE X e (tVar i)) : SE X B W e (eVar i) := by
  refine pe_mono h fun σ H Q ⟨F, ρ, a⟩ => ?_
  have p := a.post
  unfold eVar at p
  cases q : ρ[i]? with
  | none => rw [q] at p; exact p.elim
  | some s =>
    rw [q] at p
    cases s with
    | un => exact p.elim
    | val d =>
      obtain ⟨v, h1, h2⟩ := a.sim.slot i _ q
      exact ⟨v, h1, p v H F a.sim (Same.refl _) h2⟩
    | own d =>
      obtain ⟨v, F', S1, s1, r1, h1⟩ := a.sim.give q
      exact ⟨v, h1, p v H F' S1 s1 r1⟩
    | io d => exact p.elim

/-! ### operands, read when the operation is done -/
def RepB (X : Cx) (H F : Hp) (d : D) (v : V) : Prop := Rep X.K X.mg F d v ∨ ∃ a, v = .ref a ∧ F a = none ∧ Own X.K X.mg F (H a) d
theorem RO.read {σ : St} {H F : Hp} {ρ : Env} {o : OV} {d : D} {v : V} {H1 : Hp} {ρ1 : Env} (S : Sim X.K X.mg B σ H F ρ) (r : RO X σ H1 F ρ1 o v) (e : o.get ρ = some d) : RepB X H F d v := by
  cases o with
  | now d' => cases e; exact .inl r
  | late i =>
    have e' : (match ρ[i]? with | some s => s.get | none => none) = some d := e
    cases q : ρ[i]? with
    | none => rw [q] at e'; cases e'
    | some s =>
      rw [q] at e'
      have z := S.slot i s q
      have r' : σ[i]? = some (some v) := r
      cases s with
      | un => cases e'
      | val d' =>
        cases e'
        obtain ⟨v', h1, h2⟩ := z
        rw [r'] at h1; cases h1
        exact .inl h2
      | own d' =>
        cases e'
        obtain ⟨a, h1, h2, h3, h4⟩ := z
        rw [r'] at h1; cases h1
        exact .inr ⟨a, rfl, h2, h4⟩
      | io d' =>
        cases e'
        obtain ⟨a, h1, h2, h3, h4⟩ := z
        rw [r'] at h1; cases h1
        exact .inr ⟨a, rfl, h2, h4⟩
theorem RO.mono {σ : St} {H H' F F' : Hp} {ρ ρ' : Env} {o : OV} {v : V} (s : Same F F') (r : RO X σ H F ρ o v) : RO X σ H' F' ρ' o v := by
  cases o with
  | now d => exact Rep.mono s d v r
  | late i => exact r
theorem RepB.lst {H F : Hp} {ds : List D} {v : V} (s : Same F H) (h : RepB X H F (.lst ds) v) : ∃ a vs, v = .ref a ∧ H a = some (.lst vs) ∧ RepL X.K X.mg F ds vs := by
  rcases h with h | ⟨a, rfl, _, vs, h1, h2⟩
  · simp only [Rep] at h
    obtain ⟨a, vs, rfl, h1, h2⟩ := h
    exact ⟨a, vs, rfl, s _ _ h1, h2⟩
  · exact ⟨a, vs, rfl, h1, h2⟩
theorem RepB.tup {H F : Hp} {ds : List D} {v : V} (s : Same F H) (h : RepB X H F (.tup ds) v) : ∃ a vs, v = .ref a ∧ SqT X.K H a vs ∧ RepL X.K X.mg F ds vs := by
  rcases h with h | ⟨a, rfl, _, h⟩
  · simp only [Rep] at h
    obtain ⟨a, vs, rfl, h1, h2⟩ := h
    exact ⟨a, vs, rfl, same_SqT s h1, h2⟩
  · exact h.elim
theorem RepB.int {H F : Hp} {i : Int} {v : V} (h : RepB X H F (.int i) v) : v = .int i := by
  rcases h with h | ⟨a, rfl, _, h⟩
  · simpa only [Rep] using h
  · exact h.elim
theorem RepB.bl {H F : Hp} {i : Bool} {v : V} (h : RepB X H F (.bl i) v) : v = .bl i := by
  rcases h with h | ⟨a, rfl, _, h⟩
  · simpa only [Rep] using h
  · exact h.elim
theorem RepB.str {H F : Hp} {i : Str} {v : V} (h : RepB X H F (.str i) v) : v = .str i := by
  rcases h with h | ⟨a, rfl, _, h⟩
  · simpa only [Rep] using h
  · exact h.elim
theorem RepB.non {H F : Hp} {v : V} (h : RepB X H F .non v) : v = .non := by
  rcases h with h | ⟨a, rfl, _, h⟩
  · simpa only [Rep] using h
  · exact h.elim

/-- how an operation answers: a datum that stands, or a new list (dict) -/
def Ans (X : Cx) (H F : Hp) (d : D) (Q : V → Hp → Prop) : Bool → Prop
  | false => ∀ z H' F', Grow H F H' F' → Rep X.K X.mg F' d z → Q z H'
  | true => ∀ p u, H p = none → Own X.K X.mg F (some u) d → Q (.ref p) (upd H p u)
/-- a step of the whole from an answer -/
theorem At.ans {f : M (D × Bool)} {F : Hp} {ρ : Env} {σ : St} {H : Hp} {Q : V → Hp → Prop} {d : D} {nw : Bool} (h : At X B W (RV X B) f F ρ σ H Q) (e : f ρ = .ok (d, nw) ρ) : Ans X H F d Q nw := by
  cases nw with
  | false =>
    intro z H' F' g r
    exact h.fin e (h.sim.grow g) g.f (by unfold RV; rw [if_neg (by simp)]; exact r)
  | true =>
    intro p u hp ho
    have sub := h.sim.sub
    have hFp : F p = none := sub.free hp
    have S' : Sim X.K X.mg B σ (upd H p u) F ρ := h.sim.grow ⟨same_upd hp, Same.refl _, fun b x e => by
      rw [upd_ne (ne_of_none e hFp)]; exact sub b x e, fun _ _ => rfl⟩
    refine h.fin e S' (Same.refl _) ?_
    unfold RV
    rw [if_pos rfl]
    refine ⟨p, rfl, hFp, ?_, by rw [upd_same]; exact ho, fun i s q m z => ?_⟩
    · cases q : B.H0 p with
      | none => rfl
      | some o => exact absurd hp (h.sim.there p (by rw [q]; exact fun z => nomatch z))
    · have r := h.sim.slot i s q
      cases s with
      | un => cases m
      | val _ => cases m
      | own d' =>
        obtain ⟨a, h1, _, _, h4⟩ := r
        rw [z] at h1; cases h1
        obtain ⟨u', hu⟩ := h4.there
        rw [hp] at hu; cases hu
      | io d' =>
        obtain ⟨a, h1, _, _, h4⟩ := r
        rw [z] at h1; cases h1
        obtain ⟨u', hu⟩ := h4.there
        rw [hp] at hu; cases hu

/-! ### operations of two values -/
abbrev Op2 := D → D → Option (D × Bool)
def rD2 (X : Cx) (op : Op2) : R2 := fun x y H Q => ∃ F dx dy d nw, Same F H ∧ RepB X H F dx x ∧ RepB X H F dy y ∧ op dx dy = some (d, nw) ∧ Ans X H F d Q nw
def mBin (op : Op2) (a b : M OV) : M (D × Bool) := a.bind fun x => b.bind fun y => fun ρ => match x.get ρ, y.get ρ with
  | some dx, some dy => match op dx dy with
    | some r => .ok r ρ
    | none => .bad
  | _, _ => .bad
theorem bin_ans {op : Op2} {o1 o2 : OV} {F : Hp} {ρ : Env} {σ : St} {H : Hp} {Q : V → Hp → Prop} {x y : V} {H1 H2 : Hp} {ρ1 ρ2 : Env}
    (h : At X B W (RV X B) (fun ρ => match o1.get ρ, o2.get ρ with
      | some dx, some dy => match op dx dy with
        | some r => .ok r ρ
        | none => .bad
      | _, _ => .bad) F ρ σ H Q) (r1 : RO X σ H1 F ρ1 o1 x) (r2 : RO X σ H2 F ρ2 o2 y) : rD2 X op x y H Q := by
  cases e1 : o1.get ρ with
  | none => exact absurd (by simp only [e1]) h.nobad
  | some dx =>
    cases e2 : o2.get ρ with
    | none => exact absurd (by simp only [e1, e2]) h.nobad
    | some dy =>
      cases e3 : op dx dy with
      | none => exact absurd (by simp only [e1, e2, e3]) h.nobad
      | some r =>
        exact ⟨F, dx, dy, r.1, r.2, h.sim.sub, r1.read h.sim e1, r2.read h.sim e2, e3, h.ans (by simp only [e1, e2, e3])⟩
theorem sv_bin {op : Operator} {opd : Op2} {a b : Expr} {fa fb : M OV} {pos : Pos} (ho : OpR X (binaryOp op) (rD2 X opd)) (ha : SO X B W a fa) (hb : SO X B W b fb) : SV X B W (.BinOp a op b pos) (mBin opd fa fb) := by
  refine pe_mono (pe_op ho ha hb) fun σ H Q ⟨F, ρ, h⟩ => ?_
  refine h.go fun x H1 F1 ρ1 o1 s1 r1 h1 => h1.go fun y H2 F2 ρ2 o2 s2 r2 h2 => ?_
  exact bin_ans h2 (r1.mono (H' := H2) (ρ' := ρ2) s2) r2
/-- a comparison, as a value; as a test -/
theorem sv_cmp {op : CmpOp} {opd : Op2} {a b : Expr} {fa fb : M OV} {pos : Pos} (ho : OpR X (compareOp op) (rD2 X opd)) (ha : SO X B W a fa) (hb : SO X B W b fb) (hn : behindInMarks op b = false) : SV X B W (.Compare a [op] [b] pos) (mBin opd fa fb) := by
  refine pe_mono (pe_cmpR ho ha hb hn) fun σ H Q ⟨F, ρ, h⟩ => ?_
  refine h.go fun x H1 F1 ρ1 o1 s1 r1 h1 => h1.go fun y H2 F2 ρ2 o2 s2 r2 h2 => ?_
  exact bin_ans h2 (r1.mono (H' := H2) (ρ' := ρ2) s2) r2
end
end DL

namespace DL
open PySem PySem.Spec PyProof.Rows L2

/-! ### dicts of ints and texts: what stands under a key, what is put there -/
def getD (kvs : List (D × D)) (k : Key) : Option D := match kvs with
  | [] => none
  | p :: r => if p.1.key? = some k then some p.2 else getD r k
def hasD (kvs : List (D × D)) (k : Key) : Bool := (getD kvs k).isSome
def mapD (kvs : List (D × D)) (k : Key) (d : D) : List (D × D) := kvs.map fun p => if p.1.key? = some k then (p.1, d) else p
def putD (kvs : List (D × D)) (kd : D) (k : Key) (d : D) : List (D × D) := if hasD kvs k = true then mapD kvs k d else kvs ++ [(kd, d)]
section
variable {K : PySem.W.Frag} {mg : Str → Option Value} {F : Hp}
theorem RepK.len : ∀ {kvs : List (D × D)} {ks : List (Key × V)}, RepK K mg F kvs ks → kvs.length = ks.length
  | [], _, h => by simp only [RepK] at h; subst h; rfl
  | (k, d) :: r, _, h => by
    simp only [RepK] at h
    obtain ⟨kk, v, q, rfl, h0, h1, h2⟩ := h
    rw [List.length_cons, List.length_cons, RepK.len h2]
theorem RepK.get : ∀ {kvs : List (D × D)} {ks : List (Key × V)} (k : Key), RepK K mg F kvs ks → (getD kvs k = none ∧ valV ks k = none) ∨ ∃ d v, getD kvs k = some d ∧ valV ks k = some v ∧ Rep K mg F d v
  | [], _, k, h => by simp only [RepK] at h; subst h; exact .inl ⟨rfl, rfl⟩
  | (kd, d) :: r, _, k, h => by
    simp only [RepK] at h
    obtain ⟨kk, v, q, rfl, h0, h1, h2⟩ := h
    by_cases c : kk = k
    · subst c
      exact .inr ⟨d, v, by unfold getD; rw [if_pos h0], valV_pos rfl, h1⟩
    · have e1 : getD ((kd, d) :: r) k = getD r k := by
        rw [getD, if_neg (fun e => c (Option.some.inj (h0.symm.trans e)))]
      rw [e1, valV_neg (p := (kk, v)) c]
      exact RepK.get k h2
theorem RepK.has {kvs : List (D × D)} {ks : List (Key × V)} {k : Key} (h : RepK K mg F kvs ks) : (valV ks k).isSome = hasD kvs k := by
  unfold hasD
  rcases RepK.get k h with ⟨h1, h2⟩ | ⟨d, v, h1, h2, _⟩ <;> rw [h1, h2] <;> rfl
theorem RepK.map : ∀ {kvs : List (D × D)} {ks : List (Key × V)} {k : Key} {d : D} {v : V}, RepK K mg F kvs ks → Rep K mg F d v → RepK K mg F (mapD kvs k d) (ks.map fun kv => if kv.1 = k then (kv.1, v) else kv)
  | [], _, k, d, v, h, _ => by simp only [RepK] at h; subst h; simp only [mapD, List.map_nil, RepK]
  | (kd, d0) :: r, _, k, d, v, h, hd => by
    simp only [RepK] at h
    obtain ⟨kk, v0, q, rfl, h0, h1, h2⟩ := h
    have ih := RepK.map (k := k) h2 hd
    unfold mapD at ih ⊢
    rw [List.map_cons, List.map_cons]
    by_cases c : kk = k
    · subst c
      rw [if_pos h0, if_pos rfl]
      simp only [RepK]
      exact ⟨kk, v, _, rfl, h0, hd, ih⟩
    · rw [if_neg (fun e => c (Option.some.inj (h0.symm.trans e))), if_neg c]
      simp only [RepK]
      exact ⟨kk, v0, _, rfl, h0, h1, ih⟩
theorem RepK.snoc : ∀ {kvs : List (D × D)} {ks : List (Key × V)} {kd : D} {k : Key} {d : D} {v : V}, RepK K mg F kvs ks → kd.key? = some k → Rep K mg F d v → RepK K mg F (kvs ++ [(kd, d)]) (ks ++ [(k, v)])
  | [], _, kd, k, d, v, h, hk, hd => by
    simp only [RepK] at h
    subst h
    simp only [List.nil_append, RepK]
    exact ⟨k, v, [], rfl, hk, hd, rfl⟩
  | (kd0, d0) :: r, _, kd, k, d, v, h, hk, hd => by
    simp only [RepK] at h
    obtain ⟨kk, v0, q, rfl, h0, h1, h2⟩ := h
    simp only [List.cons_append, RepK]
    exact ⟨kk, v0, _, rfl, h0, h1, RepK.snoc h2 hk hd⟩
theorem RepK.put {kvs : List (D × D)} {ks : List (Key × V)} {kd : D} {k : Key} {d : D} {v : V} (h : RepK K mg F kvs ks) (hk : kd.key? = some k) (hd : Rep K mg F d v) : RepK K mg F (putD kvs kd k d) (putK ks k v) := by
  unfold putD putK
  rw [valV_any, h.has]
  by_cases c : hasD kvs k = true
  · rw [if_pos c, if_pos c]
    exact h.map hd
  · rw [if_neg c, if_neg c]
    exact h.snoc hk hd
end
section
variable {X : Cx}
theorem RepB.dct {H F : Hp} {kvs : List (D × D)} {v : V} (s : Same F H) (h : RepB X H F (.dct kvs) v) : ∃ a ks, v = .ref a ∧ H a = some (.dK ks) ∧ RepK X.K X.mg F kvs ks := by
  rcases h with h | ⟨a, rfl, _, ks, h1, h2⟩
  · simp only [Rep] at h
    obtain ⟨a, ks, rfl, h1, h2⟩ := h
    exact ⟨a, ks, rfl, s _ _ h1, h2⟩
  · exact ⟨a, ks, rfl, h1, h2⟩
end
theorem RepB.key {X : Cx} {H F : Hp} {d : D} {v : V} {k : Key} (h : RepB X H F d v) (hk : d.key? = some k) : v = kV k := by
  cases d with
  | int i => cases hk; exact h.int
  | str s => cases hk; exact h.str
  | _ => cases hk
theorem Rep.key {K : PySem.W.Frag} {mg : Str → Option Value} {F : Hp} {d : D} {v : V} {k : Key} (h : Rep K mg F d v) (hk : d.key? = some k) : v = kV k := by
  cases d with
  | int i => cases hk; simp only [Rep] at h; exact h
  | str s => cases hk; simp only [Rep] at h; exact h
  | _ => cases hk
end DL

namespace DL
open PySem PySem.Spec PyProof.Rows L2

/-- an answer under a condition -/
def ifOk {α : Type} (c : Bool) (r : α) : Option α := if c = true then some r else none
theorem ifOk_some {α : Type} {c : Bool} {r x : α} (h : ifOk c r = some x) : c = true ∧ x = r := by
  unfold ifOk at h
  split at h
  · exact ⟨by assumption, (Option.some.inj h).symm⟩
  · cases h
@[simp] theorem ifOk_true {α : Type} (r : α) : ifOk true r = some r := rfl
def fits (n : Nat) : Bool := decide (n ≤ sizeLine)
def mulOk (i j : Int) : Bool := decide ((-(2 ^ 64) < i ∧ i < 2 ^ 64) ∨ (-(2 ^ 64) < j ∧ j < 2 ^ 64)) || decide (i.natAbs.log2 + j.natAbs.log2 < 1000000)
def divOk (j : Int) : Bool := decide (j ≠ 0 ∧ j.natAbs < 1073741824) || decide (0 < j ∧ j.natAbs.log2 < 9000)
def powOk (i j : Int) : Bool := decide (0 ≤ j ∧ j ≤ 1000000 ∧ i.natAbs < 2 ^ 64)
def repOk (n : Nat) (k : Int) : Bool := decide (-(2 ^ 63) ≤ k ∧ k < 2 ^ 63 ∧ n * k.toNat ≤ sizeLine)
def repTOk (n : Nat) (k : Int) : Bool := decide (n ≠ 0 ∧ 2 ≤ k ∧ k ≤ 1000 ∧ n ≤ 1000)

def opAdd : Op2
  | .int i, .int j => some (.int (i + j), false)
  | .int i, .bl k => some (.int (i + b2i k), false)
  | .str x, .str y => ifOk (fits (x.length + y.length)) (.str (x ++ y), false)
  | .lst xs, .lst ys => ifOk (fits (xs.length + ys.length)) (.lst (xs ++ ys), true)
  | .tup xs, .tup ys => ifOk (fits (xs.length + ys.length)) (.tup (xs ++ ys), false)
  | _, _ => none
def opSub : Op2
  | .int i, .int j => some (.int (i - j), false)
  | _, _ => none
def opMul : Op2
  | .int i, .int j => ifOk (mulOk i j) (.int (i * j), false)
  | .lst xs, .int k => ifOk (repOk xs.length k) (.lst (List.replicate k.toNat xs).flatten, true)
  | .tup xs, .int k => ifOk (repTOk xs.length k) (.tup (List.replicate k.toNat xs).flatten, false)
  | _, _ => none
def opFdiv : Op2
  | .int i, .int j => ifOk (divOk j) (.int (i.fdiv j), false)
  | _, _ => none
def opMod : Op2
  | .int i, .int j => ifOk (decide (j ≠ 0)) (.int (i.fmod j), false)
  | _, _ => none
def opPow : Op2
  | .int i, .int j => ifOk (powOk i j) (.int (i ^ j.toNat), false)
  | _, _ => none

theorem repL_flat {K : PySem.W.Frag} {mg : Str → Option Value} {F : Hp} {ds : List D} {vs : List V} (h : RepL K mg F ds vs) : ∀ n : Nat, RepL K mg F (List.replicate n ds).flatten (List.replicate n vs).flatten
  | 0 => by simpa using RepL.nil
  | n + 1 => by
    rw [List.replicate_succ, List.replicate_succ, List.flatten_cons, List.flatten_cons]
    exact RepL.append h (repL_flat h n)

section
variable {X : Cx}
theorem ans_atom {H F : Hp} {d : D} {Q : V → Hp → Prop} {v : V} (s : Same F H) (a : Ans X H F d Q false) (r : ∀ F, Rep X.K X.mg F d v) : Q v H := a v H F (Grow.refl s) (r F)
theorem Own.lst {H F : Hp} {ds : List D} {vs : List V} (r : RepL X.K X.mg F ds vs) : Own X.K X.mg F (some (.lst vs)) (.lst ds) := ⟨vs, rfl, r⟩
theorem od_add : OpR X (binaryOp .Add) (rD2 X opAdd) := by
  intro pins s σ H x y v u Q I rx ry ⟨F, dx, dy, d, nw, sub, hx, hy, e, a⟩
  cases dx with
  | int i =>
    cases hx.int
    cases dy with
    | int j =>
      cases e
      cases hy.int
      exact op_add pins s σ H _ _ v u Q I rx ry ⟨i, j, rfl, rfl, ans_atom sub a fun F => by simp only [Rep]⟩
    | bl k =>
      cases e
      cases hy.bl
      exact op_add_ib pins s σ H _ _ v u Q I rx ry ⟨i, k, rfl, rfl, ans_atom sub a fun F => by simp only [Rep]⟩
    | _ => cases e
  | str x' =>
    cases hx.str
    cases dy with
    | str y' =>
      obtain ⟨c, e⟩ := ifOk_some e
      cases e
      cases hy.str
      exact op_add_str pins s σ H _ _ v u Q I rx ry ⟨x', y', rfl, rfl, of_decide_eq_true c, ans_atom sub a fun F => by simp only [Rep]⟩
    | _ => cases e
  | lst xs =>
    cases dy with
    | lst ys =>
      obtain ⟨c, e⟩ := ifOk_some e
      cases e
      obtain ⟨l, vs, rfl, h1, r1⟩ := hx.lst sub
      obtain ⟨b, us, rfl, h2, r2⟩ := hy.lst sub
      have c' := of_decide_eq_true c
      rw [r1.length, r2.length] at c'
      exact op_cat pins s σ H _ _ v u Q I rx ry ⟨l, b, vs, us, rfl, rfl, h1, h2, c', fun p hp => a p _ hp (Own.lst (H := H) (r1.append r2))⟩
    | _ => cases e
  | tup xs =>
    cases dy with
    | tup ys =>
      obtain ⟨c, e⟩ := ifOk_some e
      cases e
      obtain ⟨l, vs, rfl, h1, r1⟩ := hx.tup sub
      obtain ⟨b, us, rfl, h2, r2⟩ := hy.tup sub
      have c' := of_decide_eq_true c
      rw [r1.length, r2.length] at c'
      refine op_catA pins s σ H _ _ v u Q I rx ry ⟨l, b, vs, us, rfl, rfl, h1, h2, c', fun z => ?_, fun _ z => ?_, fun _ _ p hp => ?_⟩
      · subst z
        have z : xs = [] := List.eq_nil_of_length_eq_zero (by rw [r1.length]; rfl)
        subst z
        rcases hy with hy | ⟨_, _, _, hy⟩
        · exact a _ H F (Grow.refl sub) (by simpa using hy)
        · exact hy.elim
      · subst z
        have z : ys = [] := List.eq_nil_of_length_eq_zero (by rw [r2.length]; rfl)
        subst z
        rcases hx with hx | ⟨_, _, _, hx⟩
        · exact a _ H F (Grow.refl sub) (by simpa using hx)
        · exact hx.elim
      · refine a _ _ _ (Grow.new sub hp) ?_
        simp only [Rep]
        exact ⟨p, _, rfl, SqT.of upd_same, RepL.mono (same_upd (sub.free hp)) _ _ (r1.append r2)⟩
    | _ => cases e
  | _ => cases e
theorem od_sub : OpR X (binaryOp .Sub) (rD2 X opSub) := by
  intro pins s σ H x y v u Q I rx ry ⟨F, dx, dy, d, nw, sub, hx, hy, e, a⟩
  cases dx with
  | int i =>
    cases hx.int
    cases dy with
    | int j =>
      cases e
      cases hy.int
      exact op_sub pins s σ H _ _ v u Q I rx ry ⟨i, j, rfl, rfl, ans_atom sub a fun F => by simp only [Rep]⟩
    | _ => cases e
  | _ => cases e
theorem mul_any {i j : Int} (c : mulOk i j = true) : IntMulOk i j := by
  unfold mulOk at c
  rw [Bool.or_eq_true] at c
  rcases c with c | c
  · have c := of_decide_eq_true c
    exact CMul.ok c
  · have c := of_decide_eq_true c
    exact CMulW.ok c
theorem od_mul : OpR X (binaryOp .Mult) (rD2 X opMul) := by
  intro pins s σ H x y v u Q I rx ry ⟨F, dx, dy, d, nw, sub, hx, hy, e, a⟩
  cases dx with
  | int i =>
    cases hx.int
    cases dy with
    | int j =>
      obtain ⟨c, e⟩ := ifOk_some e
      cases e
      cases hy.int
      obtain ⟨t, rfl⟩ := rx
      obtain ⟨t', rfl⟩ := ry
      exact mul_int ⟨.int (i * j), H, I.tok _, ⟨_, rfl⟩, ans_atom sub a fun F => by simp only [Rep]⟩ (mul_any c)
    | _ => cases e
  | lst xs =>
    cases dy with
    | int k =>
      obtain ⟨c, e⟩ := ifOk_some e
      cases e
      obtain ⟨l, vs, rfl, h1, r1⟩ := hx.lst sub
      cases hy.int
      obtain ⟨c1, c2, c3⟩ := of_decide_eq_true c
      rw [r1.length] at c3
      exact op_rep pins s σ H _ _ v u Q I rx ry ⟨l, k, vs, rfl, rfl, h1, c1, c2, c3, fun p hp => a p _ hp (Own.lst (H := H) (repL_flat r1 _))⟩
    | _ => cases e
  | tup xs =>
    cases dy with
    | int k =>
      obtain ⟨c, e⟩ := ifOk_some e
      cases e
      obtain ⟨l, vs, rfl, h1, r1⟩ := hx.tup sub
      cases hy.int
      obtain ⟨c1, c2, c3, c4⟩ := of_decide_eq_true c
      rw [r1.length] at c1 c4
      refine op_repT pins s σ H _ _ v u Q I rx ry ⟨l, k, vs, rfl, rfl, h1, fun z => c1 (by rw [z]; rfl), c2, c3, c4, fun p hp => ?_⟩
      refine a _ _ _ (Grow.new sub hp) ?_
      simp only [Rep]
      exact ⟨p, _, rfl, SqT.of upd_same, RepL.mono (same_upd (sub.free hp)) _ _ (repL_flat r1 _)⟩
    | _ => cases e
  | _ => cases e
theorem od_fdiv : OpR X (binaryOp .FloorDiv) (rD2 X opFdiv) := by
  intro pins s σ H x y v u Q I rx ry ⟨F, dx, dy, d, nw, sub, hx, hy, e, a⟩
  cases dx with
  | int i =>
    cases hx.int
    cases dy with
    | int j =>
      obtain ⟨c, e⟩ := ifOk_some e
      cases e
      cases hy.int
      unfold divOk at c
      rw [Bool.or_eq_true] at c
      have q : Q (.int (i.fdiv j)) H := ans_atom sub a fun F => by simp only [Rep]
      rcases c with c | c
      · have c := of_decide_eq_true c
        exact op_fdivN pins s σ H _ _ v u Q I rx ry ⟨i, j, rfl, rfl, c, q⟩
      · have c := of_decide_eq_true c
        exact op_fdivW pins s σ H _ _ v u Q I rx ry ⟨i, j, rfl, rfl, c, by rw [Int.fdiv_eq_ediv_of_nonneg i (Int.le_of_lt c.1)] at q; exact q⟩
    | _ => cases e
  | _ => cases e
theorem od_mod : OpR X (binaryOp .Mod) (rD2 X opMod) := by
  intro pins s σ H x y v u Q I rx ry ⟨F, dx, dy, d, nw, sub, hx, hy, e, a⟩
  cases dx with
  | int i =>
    cases hx.int
    cases dy with
    | int j =>
      obtain ⟨c, e⟩ := ifOk_some e
      cases e
      cases hy.int
      exact op_modN pins s σ H _ _ v u Q I rx ry ⟨i, j, rfl, rfl, of_decide_eq_true c, ans_atom sub a fun F => by simp only [Rep]⟩
    | _ => cases e
  | _ => cases e
theorem od_pow : OpR X (binaryOp .Pow) (rD2 X opPow) := by
  intro pins s σ H x y v u Q I rx ry ⟨F, dx, dy, d, nw, sub, hx, hy, e, a⟩
  cases dx with
  | int i =>
    cases hx.int
    cases dy with
    | int j =>
      obtain ⟨c, e⟩ := ifOk_some e
      cases e
      cases hy.int
      have c := of_decide_eq_true c
      exact op_pow pins s σ H _ _ v u Q I rx ry ⟨i, j, rfl, rfl, c, ans_atom sub a fun F => by simp only [Rep]⟩
    | _ => cases e
  | _ => cases e
end

/-! ### == -/
mutual
def D.py : D → Option PyData
  | .non => some .none
  | .bl b => some (.bool b)
  | .int i => some (.int i)
  | .str s => some (.str s)
  | .lst xs => match D.pys xs with
    | some ps => some (.list ps)
    | none => none
  | .tup xs => match D.pys xs with
    | some ps => some (.tuple ps)
    | none => none
  | .rol _ => none
  | .dct _ => none
  | .dtt _ => none
  | .obj _ _ => none
def D.pys : List D → Option (List PyData)
  | [] => some []
  | d :: r => match D.py d, D.pys r with
    | some p, some ps => some (p :: ps)
    | _, _ => none
end
section
variable {X : Cx} {H F : Hp}
mutual
theorem dp_of (s : Same F H) : ∀ (d : D) (v : V) (p : PyData), Rep X.K X.mg F d v → d.py = some p → Dp X.K H v p
  | .non, _, _, h, e => by simp only [Rep] at h; simp only [D.py] at e; subst h; cases e; exact .non
  | .bl b, _, _, h, e => by simp only [Rep] at h; simp only [D.py] at e; subst h; cases e; exact .bl b
  | .int b, _, _, h, e => by simp only [Rep] at h; simp only [D.py] at e; subst h; cases e; exact .int b
  | .str b, _, _, h, e => by simp only [Rep] at h; simp only [D.py] at e; subst h; cases e; exact .str b
  | .lst xs, _, _, h, e => by
    simp only [Rep] at h
    simp only [D.py] at e
    obtain ⟨a, vs, rfl, h1, h2⟩ := h
    cases q : D.pys xs with
    | none => rw [q] at e; cases e
    | some ps => rw [q] at e; cases e; exact .lst (SqL.of (s _ _ h1)) (dps_of s xs vs ps h2 q)
  | .tup xs, _, _, h, e => by
    simp only [Rep] at h
    simp only [D.py] at e
    obtain ⟨a, vs, rfl, h1, h2⟩ := h
    cases q : D.pys xs with
    | none => rw [q] at e; cases e
    | some ps => rw [q] at e; cases e; exact .tup (same_SqT s h1) (dps_of s xs vs ps h2 q)
  | .rol _, _, _, _, e => by simp only [D.py] at e; cases e
  | .dct _, _, _, _, e => by simp only [D.py] at e; cases e
  | .dtt _, _, _, _, e => by simp only [D.py] at e; cases e
  | .obj _ _, _, _, _, e => by simp only [D.py] at e; cases e
theorem dps_of (s : Same F H) : ∀ (ds : List D) (vs : List V) (ps : List PyData), RepL X.K X.mg F ds vs → D.pys ds = some ps → DpAll X.K H vs ps
  | [], _, _, h, e => by simp only [RepL] at h; simp only [D.pys] at e; subst h; cases e; exact .nil
  | d :: ds, _, _, h, e => by
    simp only [RepL] at h
    simp only [D.pys] at e
    obtain ⟨v, r, rfl, h1, h2⟩ := h
    cases q : D.py d with
    | none => rw [q] at e; cases e
    | some p =>
      cases q2 : D.pys ds with
      | none => rw [q, q2] at e; cases e
      | some ps => rw [q, q2] at e; cases e; exact .cons (dp_of s d v p h1 q) (dps_of s ds r ps h2 q2)
end
theorem dp_ofB (s : Same F H) {d : D} {v : V} {p : PyData} (h : RepB X H F d v) (e : d.py = some p) : Dp X.K H v p := by
  rcases h with h | ⟨a, rfl, hF, h⟩
  · exact dp_of s d v p h e
  · cases d with
    | lst xs =>
      obtain ⟨vs, h1, h2⟩ := h
      simp only [D.py] at e
      cases q : D.pys xs with
      | none => rw [q] at e; cases e
      | some ps => rw [q] at e; cases e; exact .lst (SqL.of h1) (dps_of s xs vs ps h2 q)
    | dct _ => simp only [D.py] at e; cases e
    | dtt _ => simp only [D.py] at e; cases e
    | obj _ _ => simp only [D.py] at e; cases e
    | non => exact h.elim
    | bl _ => exact h.elim
    | int _ => exact h.elim
    | str _ => exact h.elim
    | tup _ => exact h.elim
    | rol _ => exact h.elim
end
def eqWith (g : Bool → Bool) : Op2 := fun a b => match a.py, b.py with
  | some p, some q => ifOk (SeqAt.shaped p && SeqAt.shaped q) (.bl (g (PyData.eqv p q)), false)
  | _, _ => none
def opEq : Op2 := eqWith id
def opNe : Op2 := eqWith not
section
variable {X : Cx}
theorem od_eq (hu : X.A.units + 64 < cLine) : OpR X (compareOp .Eq) (rD2 X opEq) := by
  intro pins s σ H x y v u Q I rx ry ⟨F, dx, dy, d, nw, sub, hx, hy, e, a⟩
  unfold opEq eqWith at e
  split at e
  · rename_i p q e1 e2
    obtain ⟨c, e⟩ := ifOk_some e
    cases e
    rw [Bool.and_eq_true] at c
    exact op_eqD hu pins s σ H x y v u Q I rx ry ⟨p, q, dp_ofB sub hx e1, dp_ofB sub hy e2, c.1, c.2, ans_atom sub a fun F => by simp only [Rep, id]⟩
  · cases e
theorem od_ne (hu : X.A.units + 64 < cLine) : OpR X (compareOp .NotEq) (rD2 X opNe) := by
  intro pins s σ H x y v u Q I rx ry ⟨F, dx, dy, d, nw, sub, hx, hy, e, a⟩
  unfold opNe eqWith at e
  split at e
  · rename_i p q e1 e2
    obtain ⟨c, e⟩ := ifOk_some e
    cases e
    rw [Bool.and_eq_true] at c
    exact op_neD hu pins s σ H x y v u Q I rx ry ⟨p, q, dp_ofB sub hx e1, dp_ofB sub hy e2, c.1, c.2, ans_atom sub a fun F => by simp only [Rep]⟩
  · cases e
end
end DL

namespace DL
open PySem PySem.Spec PyProof.Rows L2

/-! ### order, is, in -/
def strLt (a b : Str) : Bool := decide (a.cps.toList < b.cps.toList)
def opLt : Op2
  | .int i, .int j => some (.bl (decide (i < j)), false)
  | .str x, .str y => some (.bl (strLt x y), false)
  | _, _ => none
def opLe : Op2
  | .int i, .int j => some (.bl (decide (i ≤ j)), false)
  | .str x, .str y => some (.bl (!strLt y x), false)
  | _, _ => none
def opGt : Op2
  | .int i, .int j => some (.bl (decide (j < i)), false)
  | .str x, .str y => some (.bl (strLt y x), false)
  | _, _ => none
def opGe : Op2
  | .int i, .int j => some (.bl (decide (j ≤ i)), false)
  | .str x, .str y => some (.bl (!strLt x y), false)
  | _, _ => none
def D.isNon : D → Bool
  | .non => true
  | _ => false
/-- is None; is True, is False of a truth value -/
def isWith (g : Bool → Bool) : Op2
  | .bl a, .bl b => some (.bl (g (decide (a = b))), false)
  | .non, .bl _ => some (.bl (g false), false)
  | d, .non => some (.bl (g d.isNon), false)
  | _, _ => none
def opIs : Op2 := isWith id
def opIsNot : Op2 := isWith not
/-- x in a list (a tuple of flat things); one text in another -/
def D.flat : D → Bool
  | .non => true
  | .bl _ => true
  | .int _ => true
  | .str _ => true
  | _ => false
def inWith (g : Bool → Bool) : Op2
  | x, .lst ys => match x.py, D.pys ys with
    | some p, some q => ifOk (SeqAt.shaped p && SeqAt.shaped (.list q)) (.bl (g (q.any fun z => PyData.eqv z p)), false)
    | _, _ => none
  | x, .tup ys => match x.py, D.pys ys with
    | some p, some q => ifOk (x.flat && ys.all D.flat) (.bl (g (q.any fun z => PyData.eqv z p)), false)
    | _, _ => none
  | .str x, .str y => some (.bl (g (!(Builtin.Str.occurrences y x 0 y.length 1).isEmpty)), false)
  | x, .dct kvs => x.key?.map fun k => (.bl (g (hasD kvs k)), false)
  | _, _ => none
def opIn : Op2 := inWith id
def opNotIn : Op2 := inWith not

section
variable {X : Cx}
theorem isNon_v {H F : Hp} {d : D} {x : V} (h : RepB X H F d x) : decide (x = .non) = d.isNon := by
  rcases h with h | ⟨a, rfl, _, h⟩
  · cases d <;> simp only [Rep] at h
    · subst h; rfl
    · subst h; rfl
    · subst h; rfl
    · subst h; rfl
    · obtain ⟨a, vs, rfl, _⟩ := h; rfl
    · obtain ⟨a, vs, rfl, _⟩ := h; rfl
    · obtain ⟨a, vs, rfl, _⟩ := h; rfl
    · obtain ⟨a, ks, rfl, _⟩ := h; rfl
    · obtain ⟨a, ks, rfl, _⟩ := h; rfl
    · obtain ⟨a, C, dx, fv, rfl, _⟩ := h; rfl
  · cases d <;> first | rfl | exact h.elim
theorem od_lt : OpR X (compareOp .Lt) (rD2 X opLt) := by
  intro pins s σ H x y v u Q I rx ry ⟨F, dx, dy, d, nw, sub, hx, hy, e, a⟩
  cases dx with
  | int i =>
    cases dy with
    | int j => cases hx.int; cases hy.int; cases e; exact op_lt pins s σ H _ _ v u Q I rx ry ⟨i, j, rfl, rfl, ans_atom sub a fun F => by simp only [Rep]⟩
    | _ => cases e
  | str i =>
    cases dy with
    | str j => cases hx.str; cases hy.str; cases e; exact op_lt_str pins s σ H _ _ v u Q I rx ry ⟨i, j, rfl, rfl, ans_atom sub a fun F => by simp only [Rep, strLt]⟩
    | _ => cases e
  | _ => cases e
theorem od_le : OpR X (compareOp .LtE) (rD2 X opLe) := by
  intro pins s σ H x y v u Q I rx ry ⟨F, dx, dy, d, nw, sub, hx, hy, e, a⟩
  cases dx with
  | int i =>
    cases dy with
    | int j => cases hx.int; cases hy.int; cases e; exact op_le pins s σ H _ _ v u Q I rx ry ⟨i, j, rfl, rfl, ans_atom sub a fun F => by simp only [Rep]⟩
    | _ => cases e
  | str i =>
    cases dy with
    | str j => cases hx.str; cases hy.str; cases e; exact op_le_str pins s σ H _ _ v u Q I rx ry ⟨i, j, rfl, rfl, ans_atom sub a fun F => by simp only [Rep, strLt]⟩
    | _ => cases e
  | _ => cases e
theorem od_gt : OpR X (compareOp .Gt) (rD2 X opGt) := by
  intro pins s σ H x y v u Q I rx ry ⟨F, dx, dy, d, nw, sub, hx, hy, e, a⟩
  cases dx with
  | int i =>
    cases dy with
    | int j => cases hx.int; cases hy.int; cases e; exact op_gt pins s σ H _ _ v u Q I rx ry ⟨i, j, rfl, rfl, ans_atom sub a fun F => by simp only [Rep]⟩
    | _ => cases e
  | str i =>
    cases dy with
    | str j => cases hx.str; cases hy.str; cases e; exact op_gt_str pins s σ H _ _ v u Q I rx ry ⟨i, j, rfl, rfl, ans_atom sub a fun F => by simp only [Rep, strLt]⟩
    | _ => cases e
  | _ => cases e
theorem od_ge : OpR X (compareOp .GtE) (rD2 X opGe) := by
  intro pins s σ H x y v u Q I rx ry ⟨F, dx, dy, d, nw, sub, hx, hy, e, a⟩
  cases dx with
  | int i =>
    cases dy with
    | int j => cases hx.int; cases hy.int; cases e; exact op_ge pins s σ H _ _ v u Q I rx ry ⟨i, j, rfl, rfl, ans_atom sub a fun F => by simp only [Rep]⟩
    | _ => cases e
  | str i =>
    cases dy with
    | str j => cases hx.str; cases hy.str; cases e; exact op_ge_str pins s σ H _ _ v u Q I rx ry ⟨i, j, rfl, rfl, ans_atom sub a fun F => by simp only [Rep, strLt]⟩
    | _ => cases e
  | _ => cases e
theorem isWith_non {g : Bool → Bool} {d : D} {r : D × Bool} (e : isWith g d .non = some r) : r = (.bl (g d.isNon), false) := by
  cases d <;> exact (Option.some.inj e).symm
theorem isWith_cases {g : Bool → Bool} {dx dy : D} {r : D × Bool} (e : isWith g dx dy = some r) : dy = .non ∨ (∃ a b, dx = .bl a ∧ dy = .bl b) ∨ ∃ b, dx = .non ∧ dy = .bl b := by
  cases dy with
  | non => exact .inl rfl
  | bl b =>
    cases dx with
    | bl a => exact .inr (.inl ⟨a, b, rfl, rfl⟩)
    | non => exact .inr (.inr ⟨b, rfl, rfl⟩)
    | _ => cases e
  | _ => cases dx <;> cases e
theorem od_is : OpR X (compareOp .Is) (rD2 X opIs) := by
  intro pins s σ H x y v u Q I rx ry ⟨F, dx, dy, d, nw, sub, hx, hy, e, a⟩
  rcases isWith_cases e with rfl | ⟨i, j, rfl, rfl⟩ | ⟨j, rfl, rfl⟩
  · have e := isWith_non e
    cases e
    cases hy.non
    refine op_isN pins s σ H _ _ v u Q I rx ry ⟨rfl, ?_⟩
    rw [isNon_v hx]
    exact ans_atom sub a fun F => by simp only [Rep, id]
  · cases e
    cases hx.bl
    cases hy.bl
    exact op_isBl pins s σ H _ _ v u Q I rx ry ⟨i, j, rfl, rfl, ans_atom sub a fun F => by simp only [Rep, id]⟩
  · cases e
    cases hx.non
    cases hy.bl
    cases (show v = Value.none from rx)
    cases (show u = Value.bool j from ry)
    exact wpAny_is_other rfl (fun z => nomatch z) ⟨.bl false, H, I, rfl, ans_atom sub a fun F => by simp only [Rep, id]⟩
theorem od_isnot : OpR X (compareOp .IsNot) (rD2 X opIsNot) := by
  intro pins s σ H x y v u Q I rx ry ⟨F, dx, dy, d, nw, sub, hx, hy, e, a⟩
  rcases isWith_cases e with rfl | ⟨i, j, rfl, rfl⟩ | ⟨j, rfl, rfl⟩
  · have e := isWith_non e
    cases e
    cases hy.non
    refine op_notN pins s σ H _ _ v u Q I rx ry ⟨rfl, ?_⟩
    rw [isNon_v hx]
    exact ans_atom sub a fun F => by simp only [Rep]
  · cases e
    cases hx.bl
    cases hy.bl
    exact op_notBl pins s σ H _ _ v u Q I rx ry ⟨i, j, rfl, rfl, ans_atom sub a fun F => by simp only [Rep]⟩
  · cases e
    cases hx.non
    cases hy.bl
    cases (show v = Value.none from rx)
    cases (show u = Value.bool j from ry)
    exact wpAny_isNot_other rfl (fun z => nomatch z) ⟨.bl true, H, I, rfl, ans_atom sub a fun F => by simp only [Rep, Bool.not_false]⟩
/-- the flat ones by value -/
theorem flat_v {H F : Hp} {d : D} {x : V} {p : PyData} (h : Rep X.K X.mg F d x) (f : d.flat = true) (e : d.py = some p) : flatV x = true ∧ ∀ {d' : D} {x' : V} {p' : PyData}, Rep X.K X.mg F d' x' → d'.flat = true → d'.py = some p' → eqV x x' = PyData.eqv p p' := by
  cases d with
  | non =>
    simp only [Rep] at h; subst h; cases e
    refine ⟨rfl, fun {d' x' p'} h' f' e' => ?_⟩
    cases d' <;> first | (cases f'; done) | (simp only [Rep] at h'; subst h'; cases e'; simp [eqV, PyData.eqv])
  | bl b =>
    simp only [Rep] at h; subst h; cases e
    refine ⟨rfl, fun {d' x' p'} h' f' e' => ?_⟩
    cases d' <;> first | (cases f'; done) | (simp only [Rep] at h'; subst h'; cases e'; simp [eqV, PyData.eqv])
  | int b =>
    simp only [Rep] at h; subst h; cases e
    refine ⟨rfl, fun {d' x' p'} h' f' e' => ?_⟩
    cases d' <;> first | (cases f'; done) | (simp only [Rep] at h'; subst h'; cases e'; simp [eqV, PyData.eqv])
  | str b =>
    simp only [Rep] at h; subst h; cases e
    refine ⟨rfl, fun {d' x' p'} h' f' e' => ?_⟩
    cases d' <;> first | (cases f'; done) | (simp only [Rep] at h'; subst h'; cases e'; simp [eqV, PyData.eqv])
  | _ => cases f
theorem any_flat {H F : Hp} {x : D} {xv : V} {p : PyData} (hx : Rep X.K X.mg F x xv) (fx : x.flat = true) (ex : x.py = some p) : ∀ {ds : List D} {vs : List V} {q : List PyData}, RepL X.K X.mg F ds vs → ds.all D.flat = true → D.pys ds = some q →
    vs.all flatV = true ∧ (vs.any fun y => eqV y xv) = q.any fun z => PyData.eqv z p
  | [], _, _, h, _, e => by
    simp only [RepL] at h; subst h
    simp only [D.pys] at e; cases e
    exact ⟨rfl, rfl⟩
  | d :: ds, _, _, h, f, e => by
    simp only [RepL] at h
    obtain ⟨v, r, rfl, h1, h2⟩ := h
    rw [List.all_cons, Bool.and_eq_true] at f
    simp only [D.pys] at e
    cases q1 : D.py d with
    | none => rw [q1] at e; cases e
    | some p1 =>
      cases q2 : D.pys ds with
      | none => rw [q1, q2] at e; cases e
      | some ps =>
        rw [q1, q2] at e; cases e
        obtain ⟨g1, g2⟩ := any_flat (H := H) hx fx ex h2 f.2 q2
        obtain ⟨f1, f2⟩ := flat_v (H := H) h1 f.1 q1
        rw [List.all_cons, List.any_cons, List.any_cons, f1, g1, g2, f2 hx fx ex]
        exact ⟨rfl, rfl⟩
theorem RepB.rep_flat {H F : Hp} {d : D} {v : V} (h : RepB X H F d v) (f : d.flat = true) : Rep X.K X.mg F d v := by
  rcases h with h | ⟨a, rfl, _, h⟩
  · exact h
  · cases d <;> first | exact h.elim | cases f
theorem in_lst {g : Bool → Bool} {x : D} {ys : List D} {r : D × Bool} (e : inWith g x (.lst ys) = some r) : ∃ p q, x.py = some p ∧ D.pys ys = some q ∧ SeqAt.shaped p = true ∧ SeqAt.shaped (.list q) = true ∧ r = (.bl (g (q.any fun z => PyData.eqv z p)), false) := by
  have e' : (match x.py, D.pys ys with
    | some p, some q => ifOk (SeqAt.shaped p && SeqAt.shaped (.list q)) (.bl (g (q.any fun z => PyData.eqv z p)), false)
    | _, _ => none) = some r := by cases x <;> exact e
  cases q1 : x.py with
  | none => rw [q1] at e'; cases e'
  | some p =>
    cases q2 : D.pys ys with
    | none => rw [q1, q2] at e'; cases e'
    | some q =>
      rw [q1, q2] at e'
      obtain ⟨c, e'⟩ := ifOk_some e'
      rw [Bool.and_eq_true] at c
      exact ⟨p, q, rfl, rfl, c.1, c.2, e'⟩
theorem in_tup {g : Bool → Bool} {x : D} {ys : List D} {r : D × Bool} (e : inWith g x (.tup ys) = some r) : ∃ p q, x.py = some p ∧ D.pys ys = some q ∧ x.flat = true ∧ ys.all D.flat = true ∧ r = (.bl (g (q.any fun z => PyData.eqv z p)), false) := by
  have e' : (match x.py, D.pys ys with
    | some p, some q => ifOk (x.flat && ys.all D.flat) (.bl (g (q.any fun z => PyData.eqv z p)), false)
    | _, _ => none) = some r := by cases x <;> exact e
  cases q1 : x.py with
  | none => rw [q1] at e'; cases e'
  | some p =>
    cases q2 : D.pys ys with
    | none => rw [q1, q2] at e'; cases e'
    | some q =>
      rw [q1, q2] at e'
      obtain ⟨c, e'⟩ := ifOk_some e'
      rw [Bool.and_eq_true] at c
      exact ⟨p, q, rfl, rfl, c.1, c.2, e'⟩
theorem inWith_cases {g : Bool → Bool} {x y : D} {r : D × Bool} (e : inWith g x y = some r) : (∃ ys, y = .lst ys) ∨ (∃ ys, y = .tup ys) ∨ (∃ a b, x = .str a ∧ y = .str b) ∨ ∃ kvs, y = .dct kvs := by
  cases y with
  | lst ys => exact .inl ⟨ys, rfl⟩
  | tup ys => exact .inr (.inl ⟨ys, rfl⟩)
  | str b =>
    cases x with
    | str a => exact .inr (.inr (.inl ⟨a, b, rfl, rfl⟩))
    | _ => cases e
  | dct kvs => exact .inr (.inr (.inr ⟨kvs, rfl⟩))
  | _ => cases x <;> cases e
theorem in_dct {g : Bool → Bool} {x : D} {kvs : List (D × D)} {r : D × Bool} (e : inWith g x (.dct kvs) = some r) : ∃ k, x.key? = some k ∧ r = (.bl (g (hasD kvs k)), false) := by
  have e' : (x.key?.map fun k => ((.bl (g (hasD kvs k)), false) : D × Bool)) = some r := by cases x <;> exact e
  cases q : x.key? with
  | none => rw [q] at e'; cases e'
  | some k => rw [q] at e'; cases e'; exact ⟨k, rfl, rfl⟩
theorem od_in (hu : X.A.units + 65 < cLine) : OpR X (compareOp .In) (rD2 X opIn) := by
  intro pins s σ H x y v u Q I rx ry ⟨F, dx, dy, d, nw, sub, hx, hy, e, a⟩
  rcases inWith_cases e with ⟨ys, rfl⟩ | ⟨ys, rfl⟩ | ⟨x', y', rfl, rfl⟩ | ⟨kvs, rfl⟩
  · obtain ⟨p, q, e1, e2, c1, c2, e3⟩ := in_lst e
    cases e3
    exact op_inD hu pins s σ H x y v u Q I rx ry ⟨p, q, dp_ofB sub hx e1, dp_ofB sub hy (by simp only [D.py, e2]), c1, c2, ans_atom sub a fun F => by simp only [Rep, id]⟩
  · obtain ⟨p, q, e1, e2, c1, c2, e3⟩ := in_tup e
    cases e3
    obtain ⟨b, vs, rfl, h1, h2⟩ := hy.tup sub
    have hx := hx.rep_flat c1
    obtain ⟨f1, f2⟩ := any_flat (H := H) hx c1 e1 h2 c2 e2
    refine op_in_seq pins s σ H x _ v u Q I rx ry ⟨b, vs, rfl, .inr h1, (flat_v (H := H) hx c1 e1).1, f1, ?_⟩
    show Q (.bl (inV x vs)) H
    unfold inV
    rw [f2]
    exact ans_atom sub a fun F => by simp only [Rep, id]
  · cases e
    cases hx.str
    cases hy.str
    exact op_in_str pins s σ H _ _ v u Q I rx ry ⟨x', y', rfl, rfl, ans_atom sub a fun F => by simp only [Rep, id]⟩
  · obtain ⟨k, hk, e3⟩ := in_dct e
    cases e3
    obtain ⟨b, ks, rfl, h1, h2⟩ := hy.dct sub
    have ek := hx.key hk
    subst ek
    obtain rfl : u = Value.ref b := ry
    refine d_in (by omega) I (DGet.k h1) rx fun s3 I3 => ⟨.bl (hasD kvs k), H, I3, by rw [← h2.has]; rfl, ?_⟩
    exact ans_atom sub a fun F => by simp only [Rep, id]
theorem od_notin (hu : X.A.units + 65 < cLine) : OpR X (compareOp .NotIn) (rD2 X opNotIn) := by
  intro pins s σ H x y v u Q I rx ry ⟨F, dx, dy, d, nw, sub, hx, hy, e, a⟩
  rcases inWith_cases e with ⟨ys, rfl⟩ | ⟨ys, rfl⟩ | ⟨x', y', rfl, rfl⟩ | ⟨kvs, rfl⟩
  · obtain ⟨p, q, e1, e2, c1, c2, e3⟩ := in_lst e
    cases e3
    exact op_notInD hu pins s σ H x y v u Q I rx ry ⟨p, q, dp_ofB sub hx e1, dp_ofB sub hy (by simp only [D.py, e2]), c1, c2, ans_atom sub a fun F => by simp only [Rep]⟩
  · obtain ⟨p, q, e1, e2, c1, c2, e3⟩ := in_tup e
    cases e3
    obtain ⟨b, vs, rfl, h1, h2⟩ := hy.tup sub
    have hx := hx.rep_flat c1
    obtain ⟨f1, f2⟩ := any_flat (H := H) hx c1 e1 h2 c2 e2
    refine op_notIn_seq pins s σ H x _ v u Q I rx ry ⟨b, vs, rfl, .inr h1, (flat_v (H := H) hx c1 e1).1, f1, ?_⟩
    show Q (.bl (!inV x vs)) H
    unfold inV
    rw [f2]
    exact ans_atom sub a fun F => by simp only [Rep]
  · cases e
    cases hx.str
    cases hy.str
    exact op_notIn_str pins s σ H _ _ v u Q I rx ry ⟨x', y', rfl, rfl, ans_atom sub a fun F => by simp only [Rep]⟩
  · obtain ⟨k, hk, e3⟩ := in_dct e
    cases e3
    obtain ⟨b, ks, rfl, h1, h2⟩ := hy.dct sub
    have ek := hx.key hk
    subst ek
    obtain rfl : u = Value.ref b := ry
    refine d_notIn (by omega) I (DGet.k h1) rx fun s3 I3 => ⟨.bl (!hasD kvs k), H, I3, by rw [← h2.has]; rfl, ?_⟩
    exact ans_atom sub a fun F => by simp only [Rep]
end
end DL

namespace DL
open PySem PySem.Spec PyProof.Rows L2

/-! ### tests -/
def truthD : D → Option Bool
  | .non => some false
  | .bl b => some b
  | .int i => some (i != 0)
  | .str s => ifOk (fits s.length) ((s.length : Int) != 0)
  | .lst xs => some (!xs.isEmpty)
  | .tup xs => some (!xs.isEmpty)
  | .dct kvs => some (!kvs.isEmpty)
  | _ => none
def mTruth (a : M OV) : M Bool := a.bind fun x => fun ρ => match x.get ρ with
  | some d => match truthD d with
    | some b => .ok b ρ
    | none => .bad
  | none => .bad
/-- an answer that is a truth value -/
def asB (m : M (D × Bool)) : M Bool := m.bind fun r => match r.1 with
  | .bl b => M.ret b
  | _ => fun _ => .bad
def mNot (a : M Bool) : M Bool := a.bind fun b => M.ret (!b)
def mAnd (a b : M Bool) : M Bool := a.bind fun c => if c = true then b else M.ret false
def mOr (a b : M Bool) : M Bool := a.bind fun c => if c = true then M.ret true else b
def mIf {α : Type} (c : M Bool) (a b : M α) : M α := c.bind fun k => if k = true then a else b
def bl (a : M Bool) : M D := a.bind fun b => M.ret (.bl b)

section
variable {X : Cx} {B : Bd} {W : WX}
theorem RepK.length {K : PySem.W.Frag} {mg : Str → Option Value} {F : Hp} : ∀ {ds : List (D × D)} {vs : List (Key × V)}, RepK K mg F ds vs → ds.isEmpty = vs.isEmpty
  | [], _, h => by simp only [RepK] at h; subst h; rfl
  | (k, d) :: ds, _, h => by simp only [RepK] at h; obtain ⟨kk, v, q, rfl, _⟩ := h; rfl
theorem RepT.length {K : PySem.W.Frag} {mg : Str → Option Value} {F : Hp} : ∀ {ds : List (D × D)} {vs : List (List Key × V)}, RepT K mg F ds vs → ds.isEmpty = vs.isEmpty
  | [], _, h => by simp only [RepT] at h; subst h; rfl
  | (k, d) :: ds, _, h => by simp only [RepT] at h; obtain ⟨kk, v, q, ts, rfl, _⟩ := h; rfl
theorem RepB.dtt {H F : Hp} {kvs : List (D × D)} {v : V} (s : Same F H) (h : RepB X H F (.dtt kvs) v) : ∃ a ks, v = .ref a ∧ H a = some (.dT ks) ∧ RepT X.K X.mg F kvs ks := by
  rcases h with h | ⟨a, rfl, _, ks, h1, h2⟩
  · simp only [Rep] at h
    obtain ⟨a, ks, rfl, h1, h2⟩ := h
    exact ⟨a, ks, rfl, s _ _ h1, h2⟩
  · exact ⟨a, ks, rfl, h1, h2⟩
theorem isEmpty_repL {K : PySem.W.Frag} {mg : Str → Option Value} {F : Hp} {ds : List D} {vs : List V} (h : RepL K mg F ds vs) : ds.isEmpty = vs.isEmpty := by
  have := h.length
  cases ds <;> cases vs <;> first | rfl | cases this
theorem truV_of {H F : Hp} {d : D} {x : V} {b : Bool} (s : Same F H) (h : RepB X H F d x) (e : truthD d = some b) : TruV X.K x H b := by
  cases d with
  | non => cases h.non; cases e; exact rfl
  | bl k => cases h.bl; cases e; exact rfl
  | int i => cases h.int; cases e; exact rfl
  | str t =>
    cases h.str
    obtain ⟨c, e⟩ := ifOk_some e
    exact ⟨of_decide_eq_true c, e⟩
  | lst xs =>
    obtain ⟨a, vs, rfl, h1, h2⟩ := h.lst s
    cases e
    exact .inl ⟨vs, SqL.of h1, by rw [isEmpty_repL h2]⟩
  | tup xs =>
    obtain ⟨a, vs, rfl, h1, h2⟩ := h.tup s
    cases e
    exact .inr (.inl ⟨vs, h1, by rw [isEmpty_repL h2]⟩)
  | dct kvs =>
    obtain ⟨a, ks, rfl, h1, h2⟩ := h.dct s
    cases e
    exact .inr (.inr ⟨ks, h1, by rw [h2.length]⟩)
  | _ => cases e

/-- truth of an operand (he by fun _ => rfl on the text) -/
theorem st_truth {a : Expr} {f : M OV} (h : SO X B W a f) (he : ∀ whole, isTrue a X.env whole = (do let v ← whole; standAt a.pos; holding [v] (truthy v))) : ST X B W a (mTruth f) := by
  refine pt_mono (pt_truth h he) fun σ H Q ⟨F, ρ, a⟩ => a.go fun x H1 F1 ρ1 o s1 r1 h1 => ?_
  cases e1 : o.get ρ1 with
  | none => exact absurd (by simp only [e1]) h1.nobad
  | some d =>
    cases e2 : truthD d with
    | none => exact absurd (by simp only [e1, e2]) h1.nobad
    | some b => exact ⟨b, truV_of h1.sim.sub (r1.read h1.sim e1) e2, h1.fin (by simp only [e1, e2]) h1.sim (Same.refl _) rfl⟩
theorem asB_fin {r : D × Bool} {F : Hp} {ρ : Env} {σ : St} {H : Hp} {Q : Bool → Hp → Prop} {z : V} (h : At X B W RB (match r.1 with
  | .bl b => M.ret b
  | _ => fun _ => .bad) F ρ σ H Q) (q : RV X B σ H F ρ r z) : ∃ k, z = .bl k ∧ Q k H := by
  obtain ⟨d, nw⟩ := r
  cases d with
  | bl b =>
    refine ⟨b, ?_, h.fin rfl h.sim (Same.refl _) rfl⟩
    unfold RV at q
    by_cases hx : nw = true
    · rw [if_pos hx] at q
      obtain ⟨a, _, _, _, z, _⟩ := q
      exact z.elim
    · rw [if_neg hx] at q
      simpa only [Rep] using q
  | _ => exact absurd rfl h.nobad
theorem st_cmp {op : CmpOp} {opd : Op2} {a b : Expr} {fa fb : M OV} {pos : Pos} (ho : OpR X (compareOp op) (rD2 X opd)) (ha : SO X B W a fa) (hb : SO X B W b fb) (hn : behindInMarks op b = false) : ST X B W (.Compare a [op] [b] pos) (asB (mBin opd fa fb)) := by
  have hv := sv_cmp (pos := pos) ho ha hb hn
  refine pt_mono (pt_cmpR ho ha hb hn) fun σ H Q ⟨F, ρ, h⟩ => ?_
  -- the reading of the value's rule, with the test's end
  have key : tOp (rD2 X opd) (tG X B W (RO X) fa) (tG X B W (RO X) fb) σ H (fun x H' => ∃ k, x = .bl k ∧ Q k H') := by
    obtain ⟨F0, ρ0, g⟩ := h.go (R := RV X B) (Q1 := fun x H' => ∃ k, x = .bl k ∧ Q k H') fun v H1 F1 ρ1 r s1 r1 h1 => asB_fin h1 r1
    exact g.go fun x H1 F1 ρ1 o1 s1 r1 h1 => h1.go fun y H2 F2 ρ2 o2 s2 r2 h2 => bin_ans h2 (r1.mono (H' := H2) (ρ' := ρ2) s2) r2
  exact key
/-- a value that is a truth value, as a test where the test is plain -/
theorem st_val {e : Expr} {f : M (D × Bool)} (h : SV X B W e f) (he : ∀ whole, isTrue e X.env whole = (do let v ← whole; standAt e.pos; holding [v] (truthy v))) : ST X B W e (asB f) :=
  pt_mono (pt_val h he) fun σ H Q ⟨F, ρ, h⟩ => h.go (R := RV X B) fun v H1 F1 ρ1 r s1 r1 h1 => asB_fin h1 r1
theorem st_not {a : Expr} {f : M Bool} {pos : Pos} (h : ST X B W a f) : ST X B W (.UnaryOp .Not a pos) (mNot f) :=
  pt_mono (pt_not h) fun σ H Q ⟨F, ρ, h⟩ => h.go fun v H1 F1 ρ1 r s1 r1 h1 => by
    cases r1
    exact h1.fin rfl h1.sim (Same.refl _) rfl
abbrev SW (X : Cx) (B : Bd) (W : WX) (e : Expr) (f : M Bool) : Prop := PW X e (tG X B W RB f)
theorem pw_mono {e : Expr} {t t' : TT} (h : PW X e t) (i : ∀ σ H Q, t' σ H Q → t σ H Q) : PW X e t' := ⟨fun whole pins s σ H Q I q => h.run whole pins s σ H Q I (i σ H Q q)⟩
theorem sw_and1 {a : Expr} {f : M Bool} {pos : Pos} (h : ST X B W a f) : SW X B W (.BoolOp .And [a] pos) f := pw_and1 h
theorem sw_or1 {a : Expr} {f : M Bool} {pos : Pos} (h : ST X B W a f) : SW X B W (.BoolOp .Or [a] pos) f := pw_or1 h
theorem sw_and {a b : Expr} {r : List Expr} {f g : M Bool} {pos : Pos} (h : ST X B W a f) (h' : SW X B W (.BoolOp .And (b :: r) pos) g) : SW X B W (.BoolOp .And (a :: b :: r) pos) (mAnd f g) :=
  pw_mono (pw_and h h') fun σ H Q ⟨F, ρ, h⟩ => h.go fun c H1 F1 ρ1 k s1 r1 h1 => by
    cases r1
    cases c with
    | true => exact h1.toG
    | false => exact h1.fin rfl h1.sim (Same.refl _) rfl
theorem sw_or {a b : Expr} {r : List Expr} {f g : M Bool} {pos : Pos} (h : ST X B W a f) (h' : SW X B W (.BoolOp .Or (b :: r) pos) g) : SW X B W (.BoolOp .Or (a :: b :: r) pos) (mOr f g) :=
  pw_mono (pw_or h h') fun σ H Q ⟨F, ρ, h⟩ => h.go fun c H1 F1 ρ1 k s1 r1 h1 => by
    cases r1
    cases c with
    | true => exact h1.fin rfl h1.sim (Same.refl _) rfl
    | false => exact h1.toG
theorem SW.t {e : Expr} {f : M Bool} (h : SW X B W e f) : ST X B W e f := PW.pt h

/-! ### truth values made by not, and, or -/
theorem se_not {a : Expr} {f : M OV} {pos : Pos} (h : SO X B W a f) : SE X B W (.UnaryOp .Not a pos) (bl (mNot (mTruth f))) := by
  refine pe_mono (pe_notT h) fun σ H Q ⟨F, ρ, a⟩ => ?_
  have a' : At X B W (RE X) (f.bind fun x => bl (mNot (fun ρ => match x.get ρ with
    | some d => match truthD d with
      | some b => .ok b ρ
      | none => .bad
    | none => .bad))) F ρ σ H Q := by
    refine ⟨a.sim, ?_⟩
    have p := a.post
    unfold bl mNot mTruth M.bind at p
    unfold M.bind
    cases e : f ρ with
    | ok x ρ1 => rw [e] at p; exact p
    | err c fs ρ1 => rw [e] at p; exact p
    | bad => rw [e] at p; exact p
  refine a'.go fun x H1 F1 ρ1 o s1 r1 h1 => ?_
  cases e1 : o.get ρ1 with
  | none => exact absurd (by simp only [bl, mNot, M.bind, e1, then_bad]) h1.nobad
  | some d =>
    cases e2 : truthD d with
    | none => exact absurd (by simp only [bl, mNot, M.bind, e1, e2, then_bad]) h1.nobad
    | some b => exact ⟨b, truV_of h1.sim.sub (r1.read h1.sim e1) e2, h1.fin (by simp only [bl, mNot, M.bind, e1, e2, then_ok, M.ret]; rfl) h1.sim (Same.refl _) (by show Rep _ _ _ _ _; simp only [Rep])⟩
def mAndV (a b : M (D × Bool)) : M (D × Bool) := (asB a).bind fun c => if c = true then b else M.ret (.bl false, false)
def mOrV (a b : M (D × Bool)) : M (D × Bool) := (asB a).bind fun c => if c = true then M.ret (.bl true, false) else b
theorem rep_bl {F : Hp} {b : Bool} {σ : St} {H : Hp} {ρ : Env} : RV X B σ H F ρ (.bl b, false) (.bl b) := by
  unfold RV
  rw [if_neg (by simp)]
  simp only [Rep]
theorem asB_go {f : M (D × Bool)} {γ δ : Type} {R' : RT γ δ} {k : Bool → M γ} {F : Hp} {ρ : Env} {σ : St} {H : Hp} {Q : δ → Hp → Prop} {Q1 : V → Hp → Prop} (h : At X B W R' ((asB f).bind k) F ρ σ H Q)
    (hk : ∀ b H1 F1 ρ1, Same F F1 → At X B W R' (k b) F1 ρ1 σ H1 Q → Q1 (.bl b) H1) : tG X B W (RV X B) f σ H Q1 := by
  obtain ⟨F0, ρ0, g⟩ := h.go (R := RB) (Q1 := fun b H1 => Q1 (.bl b) H1) fun c H1 F1 ρ1 k s1 r1 h1 => by
    cases r1
    exact hk _ H1 F1 ρ1 s1 h1
  refine g.go fun v H1 F1 ρ1 r s1 r1 h1 => ?_
  obtain ⟨k, rfl, q⟩ := asB_fin h1 r1
  exact q
theorem sv_and {a b : Expr} {r : List Expr} {f g : M (D × Bool)} {pos : Pos} (h : SV X B W a f) (h' : SV X B W (.BoolOp .And (b :: r) pos) g) : SV X B W (.BoolOp .And (a :: b :: r) pos) (mAndV f g) :=
  pe_mono (pe_and h h') fun σ H Q ⟨F, ρ, h⟩ => asB_go h fun c H1 F1 ρ1 s1 h1 => ⟨c, rfl, by
    cases c with
    | true => exact h1.toG
    | false => exact h1.fin rfl h1.sim (Same.refl _) rep_bl⟩
theorem sv_or {a b : Expr} {r : List Expr} {f g : M (D × Bool)} {pos : Pos} (h : SV X B W a f) (h' : SV X B W (.BoolOp .Or (b :: r) pos) g) : SV X B W (.BoolOp .Or (a :: b :: r) pos) (mOrV f g) :=
  pe_mono (pe_or h h') fun σ H Q ⟨F, ρ, h⟩ => asB_go h fun c H1 F1 ρ1 s1 h1 => ⟨c, rfl, by
    cases c with
    | true => exact h1.fin rfl h1.sim (Same.refl _) rep_bl
    | false => exact h1.toG⟩
theorem sv_one {op : BoolOp} {a : Expr} {f : M (D × Bool)} {pos : Pos} (h : SV X B W a f) : SV X B W (.BoolOp op [a] pos) f := pe_one h
theorem sv_if {c a b : Expr} {fc : M Bool} {fa fb : M (D × Bool)} {pos : Pos} (hc : ST X B W c fc) (ha : SV X B W a fa) (hb : SV X B W b fb) : SV X B W (.IfExp c a b pos) (mIf fc fa fb) :=
  pe_mono (pe_ifExp hc ha hb) fun σ H Q ⟨F, ρ, h⟩ => h.go fun c H1 F1 ρ1 k s1 r1 h1 => by
    cases r1
    cases c with
    | true => exact h1.toG
    | false => exact h1.toG

/-! ### a chain of two comparisons -/
def mOp (op : Op2) (x y : OV) : M (D × Bool) := fun ρ => match x.get ρ, y.get ρ with
  | some dx, some dy => match op dx dy with
    | some r => .ok r ρ
    | none => .bad
  | _, _ => .bad
def mChain (o1 o2 : Op2) (a b c : M OV) : M (D × Bool) := a.bind fun x => b.bind fun y => (asB (mOp o1 x y)).bind fun k =>
  if k = true then c.bind fun z => mOp o2 y z else M.ret (.bl false, false)
theorem op_go {op : Op2} {o1 o2 : OV} {γ δ : Type} {R' : RT γ δ} {k : Bool → M γ} {F : Hp} {ρ : Env} {σ : St} {H : Hp} {Q : δ → Hp → Prop} {Q1 : V → Hp → Prop} {x y : V} {H1 H2 : Hp} {ρ1 ρ2 : Env}
    (h : At X B W R' ((asB (mOp op o1 o2)).bind k) F ρ σ H Q) (r1 : RO X σ H1 F ρ1 o1 x) (r2 : RO X σ H2 F ρ2 o2 y)
    (hk : ∀ b H1 F1, Same F F1 → At X B W R' (k b) F1 ρ σ H1 Q → Q1 (.bl b) H1) : rD2 X op x y H Q1 := by
  have nb := h.nobad
  have p := h.post
  unfold asB mOp M.bind at nb p
  cases e1 : o1.get ρ with
  | none => exact absurd (by simp only [e1, then_bad]) nb
  | some dx =>
    cases e2 : o2.get ρ with
    | none => exact absurd (by simp only [e1, e2, then_bad]) nb
    | some dy =>
      cases e3 : op dx dy with
      | none => exact absurd (by simp only [e1, e2, e3, then_bad]) nb
      | some r =>
        refine ⟨F, dx, dy, r.1, r.2, h.sim.sub, r1.read h.sim e1, r2.read h.sim e2, e3, ?_⟩
        obtain ⟨d, nw⟩ := r
        simp only [e1, e2, e3, then_ok] at p
        cases d with
        | bl b =>
          cases nw with
          | true => exact fun p u _ z => z.elim
          | false =>
            intro z H' F' g rz
            simp only [Rep] at rz
            subst rz
            exact hk b H' F' g.f ⟨h.sim.grow g, p.anti g.f⟩
        | _ => exact p.elim
theorem chain_read {o1 o2 : Op2} {fa fb fc : M OV} {F : Hp} {ρ : Env} {σ : St} {H : Hp} {Q : V → Hp → Prop} (h : At X B W (RV X B) (mChain o1 o2 fa fb fc) F ρ σ H Q) :
    tChain (rD2 X o1) (rD2 X o2) (tG X B W (RO X) fa) (tG X B W (RO X) fb) (tG X B W (RO X) fc) σ H Q := by
  refine h.go fun x H1 F1 ρ1 ox s1 r1 h1 => h1.go fun y H2 F2 ρ2 oy s2 r2 h2 => ?_
  refine op_go h2 (r1.mono (H' := H2) (ρ' := ρ2) s2) r2 fun k H3 F3 s3 h3 => ⟨k, rfl, ?_⟩
  cases k with
  | true =>
    refine h3.go fun z H4 F4 ρ4 oz s4 r4 h4 => ?_
    exact bin_ans h4 ((r2.mono (H' := H3) (ρ' := ρ2) s3).mono (H' := H4) (ρ' := ρ4) s4) r4
  | false => exact h3.fin rfl h3.sim (Same.refl _) rep_bl
theorem sv_chain {op op' : CmpOp} {o1 o2 : Op2} {a b c : Expr} {fa fb fc : M OV} {pos : Pos} (ho : OpR X (compareOp op) (rD2 X o1)) (ho' : OpR X (compareOp op') (rD2 X o2)) (ha : SO X B W a fa) (hb : SO X B W b fb) (hc : SO X B W c fc)
    (hm : lastMarks [op, op'] [b, c] = false) : SV X B W (.Compare a [op, op'] [b, c] pos) (mChain o1 o2 fa fb fc) :=
  pe_mono (pe_chain ho ho' ha hb hc hm) fun σ H Q ⟨F, ρ, h⟩ => chain_read h
theorem st_chain {op op' : CmpOp} {o1 o2 : Op2} {a b c : Expr} {fa fb fc : M OV} {pos : Pos} (ho : OpR X (compareOp op) (rD2 X o1)) (ho' : OpR X (compareOp op') (rD2 X o2)) (ha : SO X B W a fa) (hb : SO X B W b fb) (hc : SO X B W c fc)
    (hm : lastMarks [op, op'] [b, c] = false) : ST X B W (.Compare a [op, op'] [b, c] pos) (asB (mChain o1 o2 fa fb fc)) := by
  refine pt_mono (pt_chain ho ho' ha hb hc hm) fun σ H Q ⟨F, ρ, h⟩ => ?_
  have key : tChain (rD2 X o1) (rD2 X o2) (tG X B W (RO X) fa) (tG X B W (RO X) fb) (tG X B W (RO X) fc) σ H (fun x H' => ∃ k, x = .bl k ∧ Q k H') := by
    obtain ⟨F0, ρ0, g⟩ := h.go (R := RV X B) (Q1 := fun x H' => ∃ k, x = .bl k ∧ Q k H') fun v H1 F1 ρ1 r s1 r1 h1 => asB_fin h1 r1
    exact chain_read g
  exact key

/-! ### one-place operations -/
abbrev Op1 := D → Option (D × Bool)
def rD1 (X : Cx) (op : Op1) : V → Hp → VK → Prop := fun x H Q => ∃ F dx d nw, Same F H ∧ RepB X H F dx x ∧ op dx = some (d, nw) ∧ Ans X H F d Q nw
def mOp1 (op : Op1) (x : OV) : M (D × Bool) := fun ρ => match x.get ρ with
  | some dx => match op dx with
    | some r => .ok r ρ
    | none => .bad
  | none => .bad
def mUn (op : Op1) (a : M OV) : M (D × Bool) := a.bind fun x => mOp1 op x
theorem op1_ans {op : Op1} {o1 : OV} {F : Hp} {ρ : Env} {σ : St} {H : Hp} {Q : V → Hp → Prop} {x : V} {H1 : Hp} {ρ1 : Env}
    (h : At X B W (RV X B) (mOp1 op o1) F ρ σ H Q) (r1 : RO X σ H1 F ρ1 o1 x) : rD1 X op x H Q := by
  unfold mOp1 at h
  cases e1 : o1.get ρ with
  | none => exact absurd (by simp only [e1]) h.nobad
  | some dx =>
    cases e3 : op dx with
    | none => exact absurd (by simp only [e1, e3]) h.nobad
    | some r => exact ⟨F, dx, r.1, r.2, h.sim.sub, r1.read h.sim e1, e3, h.ans (by simp only [e1, e3])⟩
def opNeg : Op1
  | .int i => some (.int (-i), false)
  | _ => none
theorem od_neg : UnR X (unaryOp .USub) (rD1 X opNeg) := by
  intro pins s σ H x v Q I rx ⟨F, dx, d, nw, sub, hx, e, a⟩
  cases dx with
  | int i =>
    cases e
    cases hx.int
    exact un_neg pins s σ H _ v Q I rx ⟨i, rfl, ans_atom sub a fun F => by simp only [Rep]⟩
  | _ => cases e
theorem sv_un {op : UnaryOp} {opd : Op1} {a : Expr} {f : M OV} {pos : Pos} (ho : UnR X (unaryOp op) (rD1 X opd)) (ha : SO X B W a f) : SV X B W (.UnaryOp op a pos) (mUn opd f) :=
  pe_mono (pe_un ho ha) fun σ H Q ⟨F, ρ, h⟩ => h.go fun x H1 F1 ρ1 o s1 r1 h1 => op1_ans h1 r1

/-! ### lists of arguments; displays -/
def mNil {α : Type} : M (List α) := M.ret []
def mCons {α : Type} (a : M α) (r : M (List α)) : M (List α) := a.bind fun x => r.bind fun xs => M.ret (x :: xs)
theorem sds_nil : SDs X B W [] mNil := pa_mono pa_nil fun σ H Q ⟨F, ρ, h⟩ => h.fin rfl h.sim (Same.refl _) (show RDs X σ H F ρ [] [] from RepL.nil)
theorem sds_cons {e : Expr} {es : List Expr} {f : M D} {g : M (List D)} (h : SE X B W e f) (h' : SDs X B W es g) (hs : starEach (e :: es) X.env = (false, eval e X.env) :: starEach es X.env) : SDs X B W (e :: es) (mCons f g) :=
  pa_mono (pa_cons h h' hs) fun σ H Q ⟨F, ρ, h⟩ => h.go fun x H1 F1 ρ1 d s1 r1 h1 => h1.go fun xs H2 F2 ρ2 ds s2 r2 h2 =>
    h2.fin rfl h2.sim (Same.refl _) (show RDs X σ H2 F2 ρ2 _ _ from RepL.cons (Rep.mono s2 d x r1) r2)
theorem sos_nil : SOs X B W [] mNil := pa_mono pa_nil fun σ H Q ⟨F, ρ, h⟩ => h.fin rfl h.sim (Same.refl _) (show RL X σ H F ρ [] [] from rfl)
theorem sos_cons {e : Expr} {es : List Expr} {f : M OV} {g : M (List OV)} (h : SO X B W e f) (h' : SOs X B W es g) (hs : starEach (e :: es) X.env = (false, eval e X.env) :: starEach es X.env) : SOs X B W (e :: es) (mCons f g) :=
  pa_mono (pa_cons h h' hs) fun σ H Q ⟨F, ρ, h⟩ => h.go fun x H1 F1 ρ1 d s1 r1 h1 => h1.go fun xs H2 F2 ρ2 ds s2 r2 h2 =>
    h2.fin rfl h2.sim (Same.refl _) (show RL X σ H2 F2 ρ2 _ _ from ⟨x, xs, rfl, r1.mono (H' := H2) (ρ' := ρ2) s2, r2⟩)
def mList (f : M (List D)) : M (D × Bool) := f.bind fun ds => if fits ds.length = true then M.ret (.lst ds, true) else fun _ => .bad
def mTup (f : M (List D)) : M D := f.bind fun ds => if fits ds.length = true then M.ret (.tup ds) else fun _ => .bad
theorem sv_lst {es : List Expr} {f : M (List D)} {pos : Pos} (h : SDs X B W es f) : SV X B W (.List es pos) (mList f) :=
  pe_mono (pe_lst h) fun σ H Q ⟨F, ρ, h⟩ => h.go fun xs H1 F1 ρ1 ds s1 r1 h1 => by
    by_cases c : fits ds.length = true
    · rw [if_pos c] at h1
      refine ⟨by rw [← RepL.length r1]; exact of_decide_eq_true c, fun p hp => ?_⟩
      exact h1.ans rfl p _ hp ⟨xs, rfl, r1⟩
    · rw [if_neg c] at h1
      exact absurd rfl h1.nobad
theorem se_tup {es : List Expr} {f : M (List D)} {k : Nat} {pos : Pos} (h : SDs X B W es f) : SE X B W (.Tuple es k pos) (mTup f) :=
  pe_mono (pe_tup h) fun σ H Q ⟨F, ρ, h⟩ => h.go fun xs H1 F1 ρ1 ds s1 r1 h1 => by
    by_cases c : fits ds.length = true
    · rw [if_pos c] at h1
      refine ⟨by rw [← RepL.length r1]; exact of_decide_eq_true c, fun p hp => ?_⟩
      have g := Grow.new (o := .tup xs) h1.sim.sub hp
      refine h1.fin rfl (h1.sim.grow g) g.f ?_
      show Rep _ _ _ _ _
      simp only [Rep]
      exact ⟨p, xs, rfl, SqT.of upd_same, RepL.mono g.f _ _ r1⟩
    · rw [if_neg c] at h1
      exact absurd rfl h1.nobad

/-! ### subscripts, slices -/
def opIx : Op2
  | .lst xs, .int i => (atI xs i).map fun d => (d, false)
  | .rol xs, .int i => (atI xs i).map fun d => (d, false)
  | .tup xs, .int i => (atI xs i).map fun d => (d, false)
  | .str z, .int i => if fits z.length = true then (atI z.cps.toList i).map fun c => (.str ⟨#[c]⟩, false) else none
  | _, _ => none
theorem RepB.rol {H F : Hp} {ds : List D} {v : V} (s : Same F H) (h : RepB X H F (.rol ds) v) : ∃ a vs, v = .ref a ∧ SqL X.K H a vs ∧ RepL X.K X.mg F ds vs := by
  rcases h with h | ⟨a, rfl, _, h⟩
  · simp only [Rep] at h
    obtain ⟨a, vs, rfl, h1, h2⟩ := h
    exact ⟨a, vs, rfl, s.seq h1, h2⟩
  · exact h.elim
theorem atI_rep {K : PySem.W.Frag} {mg : Str → Option Value} {F : Hp} {ds : List D} {vs : List V} {i : Int} {d : D} (h : RepL K mg F ds vs) (e : atI ds i = some d) : ∃ v, atI vs i = some v ∧ Rep K mg F d v := by
  unfold atI at e ⊢
  rw [← h.length]
  cases q : ixN ds.length i with
  | none => rw [q] at e; cases e
  | some j =>
    rw [q] at e
    exact RepL.get h e
theorem map_some {α β : Type} {o : Option α} {g : α → β} {b : β} (h : o.map g = some b) : ∃ a, o = some a ∧ g a = b := Option.map_eq_some_iff.mp h
theorem od_ix : IxR X (rD2 X opIx) := by
  intro value slice pins s σ H x y v u Q I rx ry ⟨F, dx, dy, d, nw, sub, hx, hy, e, a⟩ hs
  cases dy with
  | int i =>
    cases hy.int
    cases dx with
    | lst xs =>
      obtain ⟨d', e1, e2⟩ := map_some e
      cases e2
      obtain ⟨p, vs, rfl, h1, h2⟩ := hx.lst sub
      obtain ⟨w, q1, q2⟩ := atI_rep h2 e1
      exact ix_list value slice pins s σ H _ _ v u Q I rx ry ⟨p, vs, i, w, rfl, rfl, SqL.of h1, q1, a w H F (Grow.refl sub) q2⟩ hs
    | rol xs =>
      obtain ⟨d', e1, e2⟩ := map_some e
      cases e2
      obtain ⟨p, vs, rfl, h1, h2⟩ := hx.rol sub
      obtain ⟨w, q1, q2⟩ := atI_rep h2 e1
      exact ix_list value slice pins s σ H _ _ v u Q I rx ry ⟨p, vs, i, w, rfl, rfl, h1, q1, a w H F (Grow.refl sub) q2⟩ hs
    | tup xs =>
      obtain ⟨d', e1, e2⟩ := map_some e
      cases e2
      obtain ⟨p, vs, rfl, h1, h2⟩ := hx.tup sub
      obtain ⟨w, q1, q2⟩ := atI_rep h2 e1
      exact ix_tup value slice pins s σ H _ _ v u Q I rx ry ⟨p, vs, i, w, rfl, rfl, h1, q1, a w H F (Grow.refl sub) q2⟩ hs
    | str z =>
      cases hx.str
      have e' : (if fits z.length = true then (atI z.cps.toList i).map fun c => (D.str ⟨#[c]⟩, false) else none) = some (d, nw) := e
      split at e'
      · rename_i c
        obtain ⟨k, e1, e2⟩ := map_some e'
        cases e2
        exact ix_str value slice pins s σ H _ _ v u Q I rx ry ⟨z, i, k, rfl, rfl, of_decide_eq_true c, e1, ans_atom sub a fun F => by simp only [Rep]⟩ hs
      · cases e'
    | _ => cases e
  | _ => cases dx <;> cases e
theorem sv_ix {a b : Expr} {fa fb : M OV} {pos : Pos} (ha : SO X B W a fa) (hb : SO X B W b fb) (hp : PlainIx b) : SV X B W (.Subscript a b pos) (mBin opIx fa fb) :=
  pe_mono (pe_ix od_ix ha hb hp) fun σ H Q ⟨F, ρ, h⟩ => h.go fun x H1 F1 ρ1 o1 s1 r1 h1 => h1.go fun y H2 F2 ρ2 o2 s2 r2 h2 => bin_ans h2 (r1.mono (H' := H2) (ρ' := ρ2) s2) r2
def cutD {α : Type} (xs : List α) (lo hi : Option Int) : List α := (xs.drop (HT.sIx xs.length 0 lo)).take (HT.sIx xs.length xs.length hi - HT.sIx xs.length 0 lo)
def opSl (d : D) (lo hi : Option Int) : Option (D × Bool) := match d with
  | .lst xs => some (.lst (cutD xs lo hi), true)
  | .tup xs => some (.tup (cutD xs lo hi), false)
  | .str z => ifOk (fits z.length) (.str (cutS z lo hi), false)
  | _ => none
def RPt : RT (Option Int) (Option Int) := fun _ _ _ _ a b => a = b
abbrev SPt (X : Cx) (B : Bd) (W : WX) (e : Option Expr) (f : M (Option Int)) : Prop := PO X e (tG X B W RPt f)
def mPart (f : M OV) : M (Option Int) := f.bind fun x => fun ρ => match x.get ρ with
  | some (.int i) => .ok (some i) ρ
  | _ => .bad
theorem po_mono {e : Option Expr} {t t' : TO} (h : PO X e t) (i : ∀ σ H Q, t' σ H Q → t σ H Q) : PO X e t' := ⟨fun pins s σ H Q I q => h.run pins s σ H Q I (i σ H Q q)⟩
theorem sp_none : SPt X B W none (M.ret none) := po_mono po_none fun σ H Q ⟨F, ρ, h⟩ => h.fin rfl h.sim (Same.refl _) rfl
theorem sp_some {e : Expr} {f : M OV} (h : SO X B W e f) : SPt X B W (some e) (mPart f) := po_mono (po_some h) fun σ H Q ⟨F, ρ, h⟩ => h.go fun x H1 F1 ρ1 o s1 r1 h1 => by
  cases e1 : o.get ρ1 with
  | none => exact absurd (by simp only [e1]) h1.nobad
  | some d =>
    cases d with
    | int i => exact ⟨i, (r1.read h1.sim e1).int, h1.fin (by simp only [e1]) h1.sim (Same.refl _) rfl⟩
    | _ => exact absurd (by simp only [e1]) h1.nobad
def mSlice (a : M OV) (l u : M (Option Int)) : M (D × Bool) := a.bind fun x => l.bind fun lo => u.bind fun hi => fun ρ => match x.get ρ with
  | some d => match opSl d lo hi with
    | some r => .ok r ρ
    | none => .bad
  | none => .bad
theorem cut_rep {K : PySem.W.Frag} {mg : Str → Option Value} {F : Hp} {ds : List D} {vs : List V} (h : RepL K mg F ds vs) (lo hi : Option Int) : RepL K mg F (cutD ds lo hi) (cutV vs lo hi) := by
  unfold cutD cutV
  rw [h.length]
  exact RepL.take _ (RepL.drop _ h)
def rSlD (X : Cx) : V → Option Int → Option Int → Hp → VK → Prop := fun x lo hi H Q => ∃ F dx d nw, Same F H ∧ RepB X H F dx x ∧ opSl dx lo hi = some (d, nw) ∧ Ans X H F d Q nw
theorem od_sl : SlR X (rSlD X) := by
  intro pins s σ H x v vl vu lo hi sl Q I rx hs pl pu ⟨F, dx, d, nw, sub, hx, e, a⟩
  cases dx with
  | lst xs =>
    cases e
    obtain ⟨p, vs, rfl, h1, h2⟩ := hx.lst sub
    exact sl_list pins s σ H _ v vl vu lo hi sl Q I rx hs pl pu ⟨p, vs, rfl, SqL.of h1, fun q hq => a q _ hq ⟨_, rfl, cut_rep h2 lo hi⟩⟩
  | tup xs =>
    cases e
    obtain ⟨p, vs, rfl, h1, h2⟩ := hx.tup sub
    refine sl_tupA pins s σ H _ v vl vu lo hi sl Q I rx hs pl pu ⟨p, vs, rfl, h1, fun z => ?_, fun _ q hq => ?_⟩
    · have e : cutD xs lo hi = xs := by
        unfold cutD
        rw [h2.length, z.1, z.2]
        simp [← h2.length]
      rcases hx with hx | ⟨_, _, _, hx⟩
      · exact a _ H F (Grow.refl sub) (by rw [e]; exact hx)
      · exact hx.elim
    · refine a _ _ _ (Grow.new sub hq) ?_
      simp only [Rep]
      exact ⟨q, _, rfl, SqT.of upd_same, RepL.mono (same_upd (sub.free hq)) _ _ (cut_rep h2 lo hi)⟩
  | str z =>
    cases hx.str
    obtain ⟨c, e⟩ := ifOk_some e
    cases e
    exact sl_str pins s σ H _ v vl vu lo hi sl Q I rx hs pl pu ⟨z, rfl, of_decide_eq_true c, ans_atom sub a fun F => by simp only [Rep]⟩
  | _ => cases e
theorem sv_slice {a : Expr} {lo hi : Option Expr} {fa : M OV} {fl fu : M (Option Int)} {p2 pos : Pos} (ha : SO X B W a fa) (hl : SPt X B W lo fl) (hu : SPt X B W hi fu) : SV X B W (.Subscript a (.Slice lo hi none p2) pos) (mSlice fa fl fu) :=
  pe_mono (pe_slice od_sl ha hl hu) fun σ H Q ⟨F, ρ, h⟩ => h.go fun x H1 F1 ρ1 o1 s1 r1 h1 => h1.go fun l H2 F2 ρ2 l' s2 r2 h2 => h2.go fun u H3 F3 ρ3 u' s3 r3 h3 => by
    cases r2
    cases r3
    cases e1 : o1.get ρ3 with
    | none => exact absurd (by simp only [e1]) h3.nobad
    | some d =>
      cases e2 : opSl d l u with
      | none => exact absurd (by simp only [e1, e2]) h3.nobad
      | some r => exact ⟨F3, d, r.1, r.2, h3.sim.sub, ((r1.mono (H' := H2) (ρ' := ρ2) s2).mono (H' := H3) (ρ' := ρ3) s3).read h3.sim e1, e2, h3.ans (by simp only [e1, e2])⟩
/-- xs[::-1] -/
def opRev : Op1
  | .lst xs => some (.lst xs.reverse, true)
  | _ => none
theorem sv_revL {a : Expr} {fa : M OV} {k : Nat} {p1 p2 p3 pos : Pos} (ha : SO X B W a fa) : SV X B W (.Subscript a (.Slice none none (some (.UnaryOp .USub (.Constant (.int 1) k p1) p2)) p3) pos) (mUn opRev fa) :=
  pe_mono (pe_revL ha) fun σ H Q ⟨F, ρ, h⟩ => h.go fun x H1 F1 ρ1 o s1 r1 h1 => by
    obtain ⟨F2, dx, d, nw, sub, hx, e, an⟩ := op1_ans h1 r1
    cases dx with
    | lst xs =>
      cases e
      obtain ⟨p, vs, rfl, h1, h2⟩ := hx.lst sub
      exact ⟨p, vs, rfl, SqL.of h1, fun q hq => an q _ hq ⟨_, rfl, RepL.reverse h2⟩⟩
    | _ => cases e
end
end DL

namespace DL
open PySem PySem.Spec PyProof.Rows L2

/-! ### calls of built-in functions and classes, by data -/
abbrev OpN := List D → Option (D × Bool)
def ovs (ρ : Env) : List OV → Option (List D)
  | [] => some []
  | o :: r => match o.get ρ, ovs ρ r with
    | some d, some ds => some (d :: ds)
    | _, _ => none
def RepBs (X : Cx) (H F : Hp) : List D → List V → Prop
  | [], vs => vs = []
  | d :: ds, vs => ∃ v r, vs = v :: r ∧ RepB X H F d v ∧ RepBs X H F ds r
def rDN (X : Cx) (op : OpN) : List V → Hp → VK → Prop := fun vs H Q => ∃ F ds d nw, Same F H ∧ RepBs X H F ds vs ∧ op ds = some (d, nw) ∧ Ans X H F d Q nw
def mOpN (op : OpN) (os : List OV) : M (D × Bool) := fun ρ => match ovs ρ os with
  | some ds => match op ds with
    | some r => .ok r ρ
    | none => .bad
  | none => .bad
def mCallB (op : OpN) (args : M (List OV)) : M (D × Bool) := args.bind fun os => mOpN op os
section
variable {X : Cx} {B : Bd} {W : WX}
theorem ROs.read {σ : St} {H F : Hp} {ρ : Env} (S : Sim X.K X.mg B σ H F ρ) : ∀ {os : List OV} {ds : List D} {vs : List V}, ROs X os vs σ F → ovs ρ os = some ds → RepBs X H F ds vs
  | [], _, _, h, e => by cases e; exact h
  | o :: os, _, _, h, e => by
    obtain ⟨v, r, rfl, h1, h2⟩ := h
    simp only [ovs] at e
    cases e1 : o.get ρ with
    | none => rw [e1] at e; cases e
    | some d =>
      cases e2 : ovs ρ os with
      | none => rw [e1, e2] at e; cases e
      | some ds =>
        rw [e1, e2] at e
        cases e
        exact ⟨v, r, rfl, RO.read (H1 := H) (ρ1 := ρ) S h1 e1, ROs.read S h2 e2⟩
theorem opN_ans {op : OpN} {os : List OV} {F : Hp} {ρ : Env} {σ : St} {H : Hp} {Q : V → Hp → Prop} {vs : List V} (h : At X B W (RV X B) (mOpN op os) F ρ σ H Q) (r1 : ROs X os vs σ F) : rDN X op vs H Q := by
  unfold mOpN at h
  cases e1 : ovs ρ os with
  | none => exact absurd (by simp only [e1]) h.nobad
  | some ds =>
    cases e3 : op ds with
    | none => exact absurd (by simp only [e1, e3]) h.nobad
    | some r => exact ⟨F, ds, r.1, r.2, h.sim.sub, ROs.read h.sim r1 e1, e3, h.ans (by simp only [e1, e3])⟩
theorem sv_callB {op : OpN} {id : String} {x : Str} {e : Expr} {es : List Expr} {f : M (List OV)} {p pos : Pos} (hc : CallR X (.builtin id) (rDN X op)) (hg : Gl X x) (hm : X.mg x = none) (hv : bootBuiltins x = some (.builtin id)) (ha : SOs X B W (e :: es) f)
    (hn : x ≠ "__name__") (hdb : (x == ("__debug__" : Str)) = false) (he : starEach (e :: es) X.env = (false, eval e X.env) :: starEach es X.env) (hpl : (backTo pos (starEach es X.env)).any (·.1) = false) : SV X B W (.Call (.Name x p) (e :: es) [] pos) (mCallB op f) :=
  pe_mono (pe_callB hc hg hm hv ha hn hdb he hpl) fun σ H Q ⟨F, ρ, h⟩ => h.go fun vs H1 F1 ρ1 os s1 r1 h1 => opN_ans h1 r1
theorem sv_callTy {op : OpN} {T : String} {x : Str} {e : Expr} {es : List Expr} {f : M (List OV)} {p pos : Pos} (hc : CallR X (.type T) (rDN X op)) (hg : Gl X x) (hm : X.mg x = none) (hv : bootBuiltins x = some (.type T)) (ha : SOs X B W (e :: es) f)
    (hn : x ≠ "__name__") (hdb : (x == ("__debug__" : Str)) = false) (he : starEach (e :: es) X.env = (false, eval e X.env) :: starEach es X.env) (hpl : (backTo pos (starEach es X.env)).any (·.1) = false) : SV X B W (.Call (.Name x p) (e :: es) [] pos) (mCallB op f) :=
  pe_mono (pe_callTy hc hg hm hv ha hn hdb he hpl) fun σ H Q ⟨F, ρ, h⟩ => h.go fun vs H1 F1 ρ1 os s1 r1 h1 => opN_ans h1 r1

theorem reps1 {H F : Hp} {d : D} {vs : List V} (h : RepBs X H F [d] vs) : ∃ v, vs = [v] ∧ RepB X H F d v := by
  obtain ⟨v, r, rfl, h1, h2⟩ := h
  have h2 : r = [] := h2
  subst h2
  exact ⟨v, rfl, h1⟩
theorem reps2 {H F : Hp} {d e : D} {vs : List V} (h : RepBs X H F [d, e] vs) : ∃ v w, vs = [v, w] ∧ RepB X H F d v ∧ RepB X H F e w := by
  obtain ⟨v, r, rfl, h1, w, q, rfl, h2, h3⟩ := h
  have h3 : q = [] := h3
  subst h3
  exact ⟨v, w, rfl, h1, h2⟩

/-! ### len, int, abs, list, tuple, two-place min and max, sum, any, all -/
def opLen : OpN
  | [.lst xs] => some (.int xs.length, false)
  | [.rol xs] => some (.int xs.length, false)
  | [.tup xs] => some (.int xs.length, false)
  | [.str s] => ifOk (fits s.length) (.int s.length, false)
  | _ => none
theorem od_len : CallR X (.builtin "len") (rDN X opLen) := by
  intro pins s σ H vs us Q I r ⟨F, ds, d, nw, sub, hd, e, a⟩
  match ds, e, hd with
  | [.lst xs], e, hd =>
    cases e
    obtain ⟨v, rfl, h⟩ := reps1 hd
    obtain ⟨p, ws, rfl, h1, h2⟩ := h.lst sub
    exact call_len_seq pins s σ H _ us Q I r ⟨p, ws, rfl, .inl (SqL.of h1), ans_atom sub a fun F => by simp only [Rep, h2.length]⟩
  | [.rol xs], e, hd =>
    cases e
    obtain ⟨v, rfl, h⟩ := reps1 hd
    obtain ⟨p, ws, rfl, h1, h2⟩ := h.rol sub
    exact call_len_seq pins s σ H _ us Q I r ⟨p, ws, rfl, .inl h1, ans_atom sub a fun F => by simp only [Rep, h2.length]⟩
  | [.tup xs], e, hd =>
    cases e
    obtain ⟨v, rfl, h⟩ := reps1 hd
    obtain ⟨p, ws, rfl, h1, h2⟩ := h.tup sub
    exact call_len_seq pins s σ H _ us Q I r ⟨p, ws, rfl, .inr h1, ans_atom sub a fun F => by simp only [Rep, h2.length]⟩
  | [.str z], e, hd =>
    obtain ⟨c, e⟩ := ifOk_some e
    cases e
    obtain ⟨v, rfl, h⟩ := reps1 hd
    cases h.str
    exact call_len_str pins s σ H _ us Q I r ⟨z, rfl, of_decide_eq_true c, ans_atom sub a fun F => by simp only [Rep]⟩
def opInt : OpN
  | [.int i] => some (.int i, false)
  | [.bl b] => some (.int (if b then 1 else 0), false)
  | _ => none
theorem od_int : CallR X (.type "int") (rDN X opInt) := by
  intro pins s σ H vs us Q I r ⟨F, ds, d, nw, sub, hd, e, a⟩
  match ds, e, hd with
  | [.int i], e, hd =>
    cases e
    obtain ⟨v, rfl, h⟩ := reps1 hd
    cases h.int
    exact call_int1 pins s σ H _ us Q I r (.inl ⟨i, rfl, ans_atom sub a fun F => by simp only [Rep]⟩)
  | [.bl b], e, hd =>
    cases e
    obtain ⟨v, rfl, h⟩ := reps1 hd
    cases h.bl
    exact call_int1 pins s σ H _ us Q I r (.inr ⟨b, rfl, ans_atom sub a fun F => by simp only [Rep]⟩)
def opAbs : OpN
  | [.int i] => some (.int (if i < 0 then -i else i), false)
  | _ => none
theorem od_abs : CallR X (.builtin "abs") (rDN X opAbs) := by
  intro pins s σ H vs us Q I r ⟨F, ds, d, nw, sub, hd, e, a⟩
  match ds, e, hd with
  | [.int i], e, hd =>
    cases e
    obtain ⟨v, rfl, h⟩ := reps1 hd
    cases h.int
    exact call_abs pins s σ H _ us Q I r ⟨i, rfl, ans_atom sub a fun F => by simp only [Rep]⟩
def opList : OpN
  | [.lst xs] => some (.lst xs, true)
  | [.rol xs] => some (.lst xs, true)
  | [.tup xs] => some (.lst xs, true)
  | _ => none
theorem od_list : CallR X (.type "list") (rDN X opList) := by
  intro pins s σ H vs us Q I r ⟨F, ds, d, nw, sub, hd, e, a⟩
  match ds, e, hd with
  | [.lst xs], e, hd =>
    cases e
    obtain ⟨v, rfl, h⟩ := reps1 hd
    obtain ⟨p, ws, rfl, h1, h2⟩ := h.lst sub
    exact call_list_of pins s σ H _ us Q I r ⟨p, ws, rfl, .inl (SqL.of h1), fun l hl => a l _ hl ⟨ws, rfl, h2⟩⟩
  | [.rol xs], e, hd =>
    cases e
    obtain ⟨v, rfl, h⟩ := reps1 hd
    obtain ⟨p, ws, rfl, h1, h2⟩ := h.rol sub
    exact call_list_of pins s σ H _ us Q I r ⟨p, ws, rfl, .inl h1, fun l hl => a l _ hl ⟨ws, rfl, h2⟩⟩
  | [.tup xs], e, hd =>
    cases e
    obtain ⟨v, rfl, h⟩ := reps1 hd
    obtain ⟨p, ws, rfl, h1, h2⟩ := h.tup sub
    exact call_list_of pins s σ H _ us Q I r ⟨p, ws, rfl, .inr h1, fun l hl => a l _ hl ⟨ws, rfl, h2⟩⟩
def opTuple : OpN
  | [.lst xs] => some (.tup xs, false)
  | [.rol xs] => some (.tup xs, false)
  | [.tup xs] => some (.tup xs, false)
  | _ => none
theorem od_tuple : CallR X (.type "tuple") (rDN X opTuple) := by
  intro pins s σ H vs us Q I r ⟨F, ds, d, nw, sub, hd, e, a⟩
  have new : ∀ {p : Addr} {ws : List V} {xs : List D} {l : Addr}, RepL X.K X.mg F xs ws → Ans X H F (.tup xs) Q false → H l = none → Q (.ref l) (upd H l (.tup ws)) := fun {p ws xs l} h2 a hl => by
    refine a _ _ _ (Grow.new sub hl) ?_
    simp only [Rep]
    exact ⟨l, _, rfl, SqT.of upd_same, RepL.mono (same_upd (sub.free hl)) _ _ h2⟩
  match ds, e, hd with
  | [.lst xs], e, hd =>
    cases e
    obtain ⟨v, rfl, h⟩ := reps1 hd
    obtain ⟨p, ws, rfl, h1, h2⟩ := h.lst sub
    exact call_tuple_of pins s σ H _ us Q I r ⟨p, ws, rfl, .inl ⟨SqL.of h1, fun l hl => new (p := p) h2 a hl⟩⟩
  | [.rol xs], e, hd =>
    cases e
    obtain ⟨v, rfl, h⟩ := reps1 hd
    obtain ⟨p, ws, rfl, h1, h2⟩ := h.rol sub
    exact call_tuple_of pins s σ H _ us Q I r ⟨p, ws, rfl, .inl ⟨h1, fun l hl => new (p := p) h2 a hl⟩⟩
  | [.tup xs], e, hd =>
    cases e
    obtain ⟨v, rfl, h⟩ := reps1 hd
    obtain ⟨p, ws, rfl, h1, h2⟩ := h.tup sub
    refine call_tuple_of pins s σ H _ us Q I r ⟨p, ws, rfl, .inr ⟨h1, ?_⟩⟩
    rcases h with h | ⟨_, _, _, h⟩
    · exact a _ H F (Grow.refl sub) h
    · exact h.elim
def D.ints? : List D → Option (List Int)
  | [] => some []
  | .int i :: r => (D.ints? r).map fun is => i :: is
  | _ => none
theorem ints_rep {K : PySem.W.Frag} {mg : Str → Option Value} {F : Hp} : ∀ {ds : List D} {vs : List V} {ns : List Int}, RepL K mg F ds vs → D.ints? ds = some ns → vs = ns.map V.int
  | [], _, _, h, e => by simp only [RepL] at h; cases e; exact h
  | d :: ds, _, _, h, e => by
    simp only [RepL] at h
    obtain ⟨v, r, rfl, h1, h2⟩ := h
    cases d with
    | int i =>
      simp only [D.ints?] at e
      obtain ⟨is, e1, rfl⟩ := map_some e
      simp only [Rep] at h1
      rw [h1, ints_rep h2 e1, List.map_cons]
    | _ => cases e
def maxI (i j : Int) : Int := if j > i then j else i
def minI (i j : Int) : Int := if j < i then j else i
def opMax : OpN
  | [.int i, .int j] => some (.int (maxI i j), false)
  | [.int i, .int j, .int k] => some (.int (maxI (maxI i j) k), false)
  | [.lst xs] => match D.ints? xs with
    | some (n :: ns) => some (.int (ns.foldl maxI n), false)
    | _ => none
  | _ => none
def opMin : OpN
  | [.int i, .int j] => some (.int (minI i j), false)
  | [.int i, .int j, .int k] => some (.int (minI (minI i j) k), false)
  | [.lst xs] => match D.ints? xs with
    | some (n :: ns) => some (.int (ns.foldl minI n), false)
    | _ => none
  | _ => none
theorem fold_max : ∀ (ns : List Int) (n : Int), (ns.foldl maxI n ∈ n :: ns) ∧ ∀ y ∈ n :: ns, y ≤ ns.foldl maxI n
  | [], n => ⟨List.mem_cons_self, fun y hy => by simp at hy; subst hy; exact Int.le_refl _⟩
  | m :: ns, n => by
    obtain ⟨h1, h2⟩ := fold_max ns (maxI n m)
    have c : (maxI n m = n ∨ maxI n m = m) ∧ n ≤ maxI n m ∧ m ≤ maxI n m := by unfold maxI; split <;> omega
    refine ⟨?_, fun y hy => ?_⟩
    · rw [List.foldl_cons]
      rcases List.mem_cons.mp h1 with e | e
      · rw [e]
        rcases c.1 with z | z
        · rw [z]; exact List.mem_cons_self
        · rw [z]; exact List.mem_cons_of_mem _ List.mem_cons_self
      · exact List.mem_cons_of_mem _ (List.mem_cons_of_mem _ e)
    · rw [List.foldl_cons]
      have q := h2 (maxI n m) List.mem_cons_self
      rcases List.mem_cons.mp hy with e | hy
      · subst e; omega
      · rcases List.mem_cons.mp hy with e | hy
        · subst e; omega
        · exact h2 y (List.mem_cons_of_mem _ hy)
theorem fold_min : ∀ (ns : List Int) (n : Int), (ns.foldl minI n ∈ n :: ns) ∧ ∀ y ∈ n :: ns, ns.foldl minI n ≤ y
  | [], n => ⟨List.mem_cons_self, fun y hy => by simp at hy; subst hy; exact Int.le_refl _⟩
  | m :: ns, n => by
    obtain ⟨h1, h2⟩ := fold_min ns (minI n m)
    have c : (minI n m = n ∨ minI n m = m) ∧ minI n m ≤ n ∧ minI n m ≤ m := by unfold minI; split <;> omega
    refine ⟨?_, fun y hy => ?_⟩
    · rw [List.foldl_cons]
      rcases List.mem_cons.mp h1 with e | e
      · rw [e]
        rcases c.1 with z | z
        · rw [z]; exact List.mem_cons_self
        · rw [z]; exact List.mem_cons_of_mem _ List.mem_cons_self
      · exact List.mem_cons_of_mem _ (List.mem_cons_of_mem _ e)
    · rw [List.foldl_cons]
      have q := h2 (minI n m) List.mem_cons_self
      rcases List.mem_cons.mp hy with e | hy
      · subst e; omega
      · rcases List.mem_cons.mp hy with e | hy
        · subst e; omega
        · exact h2 y (List.mem_cons_of_mem _ hy)
theorem reps3 {H F : Hp} {d e f : D} {vs : List V} (h : RepBs X H F [d, e, f] vs) : ∃ v w x, vs = [v, w, x] ∧ RepB X H F d v ∧ RepB X H F e w ∧ RepB X H F f x := by
  obtain ⟨v, r, rfl, h1, h2⟩ := h
  obtain ⟨w, x, rfl, h3, h4⟩ := reps2 h2
  exact ⟨v, w, x, rfl, h1, h3, h4⟩
theorem nuMax2_ints (i j : Int) : nuMax2 (.int i) (.int j) = some (.int (maxI i j)) := by
  show (some (decide (i < j))).map (fun c => if c = true then V.int j else V.int i) = _
  unfold maxI
  by_cases c : i < j
  · rw [Option.map_some, if_pos (decide_eq_true c), if_pos c]
  · rw [Option.map_some, if_neg (by simpa using c), if_neg c]
theorem nuMin2_ints (i j : Int) : nuMin2 (.int i) (.int j) = some (.int (minI i j)) := by
  show (some (decide (j < i))).map (fun c => if c = true then V.int j else V.int i) = _
  unfold minI
  by_cases c : j < i
  · rw [Option.map_some, if_pos (decide_eq_true c), if_pos c]
  · rw [Option.map_some, if_neg (by simpa using c), if_neg c]
theorem nuMax3_ints (i j k : Int) : nuMax3 (.int i) (.int j) (.int k) = some (.int (maxI (maxI i j) k)) := by
  unfold nuMax3
  rw [nuMax2_ints]
  exact nuMax2_ints _ _
theorem nuMin3_ints (i j k : Int) : nuMin3 (.int i) (.int j) (.int k) = some (.int (minI (minI i j) k)) := by
  unfold nuMin3
  rw [nuMin2_ints]
  exact nuMin2_ints _ _
theorem od_max (hc : X.calm = true) : CallR X (.builtin "max") (rDN X opMax) := by
  intro pins s σ H vs us Q I r ⟨F, ds, d, nw, sub, hd, e, a⟩
  match ds, e, hd with
  | [.int i, .int j], e, hd =>
    cases e
    obtain ⟨v, w, rfl, h1, h2⟩ := reps2 hd
    cases h1.int
    cases h2.int
    exact call_max2 hc pins s σ H _ us Q I r ⟨i, j, rfl, ans_atom sub a fun F => by simp only [Rep, maxI]⟩
  | [.int i, .int j, .int k], e, hd =>
    cases e
    obtain ⟨v, w, x, rfl, h1, h2, h3⟩ := reps3 hd
    cases h1.int
    cases h2.int
    cases h3.int
    exact call_max3Nu hc pins s σ H _ us Q I r ⟨.int i, .int j, .int k, .int (maxI (maxI i j) k), rfl, nuMax3_ints i j k, ans_atom sub a fun F => by simp only [Rep]⟩
  | [.lst xs], e, hd =>
    obtain ⟨v, rfl, h⟩ := reps1 hd
    obtain ⟨p, ws, rfl, h1, h2⟩ := h.lst sub
    have e' : (match D.ints? xs with
      | some (n :: ns) => some (D.int (ns.foldl maxI n), false)
      | _ => none) = some (d, nw) := e
    cases q : D.ints? xs with
    | none => rw [q] at e'; cases e'
    | some l =>
      cases l with
      | nil => rw [q] at e'; cases e'
      | cons n ns =>
        rw [q] at e'
        cases e'
        have ev := ints_rep h2 q
        subst ev
        refine cr_max hc pins s σ H _ us Q I r ⟨p, n :: ns, rfl, SqL.of h1, by simp, fun m hm hb => ?_⟩
        obtain ⟨f1, f2⟩ := fold_max ns n
        have : m = ns.foldl maxI n := Int.le_antisymm (f2 m hm) (hb _ f1)
        rw [this]
        exact ans_atom sub a fun F => by simp only [Rep]
theorem od_min (hc : X.calm = true) : CallR X (.builtin "min") (rDN X opMin) := by
  intro pins s σ H vs us Q I r ⟨F, ds, d, nw, sub, hd, e, a⟩
  match ds, e, hd with
  | [.int i, .int j], e, hd =>
    cases e
    obtain ⟨v, w, rfl, h1, h2⟩ := reps2 hd
    cases h1.int
    cases h2.int
    exact call_min2 hc pins s σ H _ us Q I r ⟨i, j, rfl, ans_atom sub a fun F => by simp only [Rep, minI]⟩
  | [.int i, .int j, .int k], e, hd =>
    cases e
    obtain ⟨v, w, x, rfl, h1, h2, h3⟩ := reps3 hd
    cases h1.int
    cases h2.int
    cases h3.int
    exact call_min3Nu hc pins s σ H _ us Q I r ⟨.int i, .int j, .int k, .int (minI (minI i j) k), rfl, nuMin3_ints i j k, ans_atom sub a fun F => by simp only [Rep]⟩
  | [.lst xs], e, hd =>
    obtain ⟨v, rfl, h⟩ := reps1 hd
    obtain ⟨p, ws, rfl, h1, h2⟩ := h.lst sub
    have e' : (match D.ints? xs with
      | some (n :: ns) => some (D.int (ns.foldl minI n), false)
      | _ => none) = some (d, nw) := e
    cases q : D.ints? xs with
    | none => rw [q] at e'; cases e'
    | some l =>
      cases l with
      | nil => rw [q] at e'; cases e'
      | cons n ns =>
        rw [q] at e'
        cases e'
        have ev := ints_rep h2 q
        subst ev
        refine cr_min hc pins s σ H _ us Q I r ⟨p, n :: ns, rfl, SqL.of h1, by simp, fun m hm hb => ?_⟩
        obtain ⟨f1, f2⟩ := fold_min ns n
        have : m = ns.foldl minI n := Int.le_antisymm (hb _ f1) (f2 m hm)
        rw [this]
        exact ans_atom sub a fun F => by simp only [Rep]
theorem sumT_raw {prog : Program} {w : World} {A : Around} {E : Value → Shared → Prop} {s : Shared} {l : Addr} {its : List Value} {ns : List Int} {Q : Value → Shared → Prop} (hh : A.handled = none) (hl : s.heap.IsTuple l its.toArray) (hi : IntsAre its ns)
    (h : ∀ h' tk t', (∀ b o, s.heap.get? b = some o → h'.get? b = some o) → Q (.int ns.sum t') { s with heap := h', toks := tk }) : wpAny (model prog w) A (call (.builtin "sum") [.ref l]) Q E s := by
  obtain ⟨xs, e⟩ := hi.allInts.items
  have hn : numsOf (intItems xs).toList = ns := by rw [← e]; exact hi.numsOf
  rw [nums_intItems] at hn
  rw [e] at hl
  refine PySem.W.ktm_sumG hh hl fun h' tk t' hk => ?_
  have := h h' tk t' hk
  rw [preSum_eq, List.take_of_length_le (by simp), hn]
  exact this
theorem cr_sumT (hc : X.calm = true) : CallR X (.builtin "sum") (fun vs H Q => ∃ (a : Addr) (ns : List Int), vs = [V.ref a] ∧ SqT X.K H a (ns.map V.int) ∧ Q (.int ns.sum) H) := by
  intro pins s σ H vs us Q I r h
  obtain ⟨a, ns, rfl, hs, q⟩ := h
  obtain ⟨its, rv, hl, _⟩ := I.tuple hs
  rw [Vals.ref1 r]
  exact sumT_raw (I.ok.hd hc) hl rv.ints fun h' tk t' hk => ⟨.int _, H, I.kept hk, ⟨_, rfl⟩, q⟩
def opSum : OpN
  | [.lst xs] => (D.ints? xs).map fun ns => (.int ns.sum, false)
  | [.tup xs] => (D.ints? xs).map fun ns => (.int ns.sum, false)
  | _ => none
theorem od_sum (hc : X.calm = true) : CallR X (.builtin "sum") (rDN X opSum) := by
  intro pins s σ H vs us Q I r ⟨F, ds, d, nw, sub, hd, e, a⟩
  match ds, e, hd with
  | [.lst xs], e, hd =>
    obtain ⟨ns, q, e⟩ := map_some e
    cases e
    obtain ⟨v, rfl, h⟩ := reps1 hd
    obtain ⟨p, ws, rfl, h1, h2⟩ := h.lst sub
    have ev := ints_rep h2 q
    subst ev
    exact cr_sum hc pins s σ H _ us Q I r ⟨p, ns, rfl, SqL.of h1, ans_atom sub a fun F => by simp only [Rep]⟩
  | [.tup xs], e, hd =>
    obtain ⟨ns, q, e⟩ := map_some e
    cases e
    obtain ⟨v, rfl, h⟩ := reps1 hd
    obtain ⟨p, ws, rfl, h1, h2⟩ := h.tup sub
    have ev := ints_rep h2 q
    subst ev
    exact cr_sumT hc pins s σ H _ us Q I r ⟨p, ns, rfl, h1, ans_atom sub a fun F => by simp only [Rep]⟩
/-! ### list(range(a, b)) -/
def rgD (a b : Int) : List D := (List.range (b - a).toNat).map fun i => D.int (a + (i : Nat))
def rgOk (a b : Int) : Bool := decide (-(2 ^ 62) ≤ a ∧ a < 2 ^ 62 ∧ -(2 ^ 62) ≤ b ∧ b < 2 ^ 62 ∧ (b - a).toNat ≤ 2 ^ 24)

/-! ### isinstance with built-in classes -/
def D.tyName : D → String
  | .non => "NoneType"
  | .bl _ => "bool"
  | .int _ => "int"
  | .str _ => "str"
  | .lst _ => "list"
  | .rol _ => "list"
  | .tup _ => "tuple"
  | .dct _ => "dict"
  | .dtt _ => "dict"
  | .obj c _ => "object"
def isB (T : String) : D → Option Bool
  | .obj _ _ => none
  | .rol _ => none
  | d => some (d.tyName == T || (T == "int" && d.tyName == "bool"))
def isBs (Ts : List String) (d : D) : Option Bool := match d with
  | .obj _ _ => none
  | .rol _ => none
  | d => some (Ts.any fun T => d.tyName == T || (T == "int" && d.tyName == "bool"))
theorem tyX_of {H F : Hp} {d : D} {v : V} (s : Same F H) (h : RepB X H F d v) (n1 : ∀ c fs, d ≠ .obj c fs) (n2 : ∀ xs, d ≠ .rol xs) : TyX X.K H v (.type d.tyName) := by
  cases d with
  | non => cases h.non; exact .base .non
  | bl b => cases h.bl; exact .base (.bl b)
  | int i => cases h.int; exact .base (.int i)
  | str z => cases h.str; exact .base (.str z)
  | lst xs => obtain ⟨a, vs, rfl, h1, h2⟩ := h.lst s; exact .base (.lst h1)
  | rol xs => exact absurd rfl (n2 xs)
  | tup xs =>
    obtain ⟨a, vs, rfl, h1, h2⟩ := h.tup s
    rcases h1 with (h1 | ⟨o, h1⟩) | ⟨o, its, n, h1, h3, _⟩
    · exact .base (.tup h1)
    · exact .fTuple h1
    · exact .kTuple h1 h3
  | dct kvs => obtain ⟨a, ks, rfl, h1, h2⟩ := h.dct s; exact .base (.dK h1)
  | dtt kvs => obtain ⟨a, ks, rfl, h1, h2⟩ := h.dtt s; exact .base (.dT h1)
  | obj c fs => exact absurd rfl (n1 c fs)
end
end DL

namespace DL
open PySem PySem.Spec PyProof.Rows L2
def tyNames : List String := ["NoneType", "bool", "int", "str", "list", "tuple", "dict"]
def isT (T a : String) : Bool := a == T || (T == "int" && a == "bool")
/-- what isinstance tells of the built-in class T -/
def IsiOk (T : String) : Prop := ∀ a ∈ tyNames, kitB a T = some (isT T a)
theorem isi_int : IsiOk "int" := by unfold IsiOk; decide +kernel
theorem isi_bool : IsiOk "bool" := by unfold IsiOk; decide +kernel
theorem isi_str : IsiOk "str" := by unfold IsiOk; decide +kernel
theorem isi_list : IsiOk "list" := by unfold IsiOk; decide +kernel
theorem isi_tuple : IsiOk "tuple" := by unfold IsiOk; decide +kernel
theorem isi_dict : IsiOk "dict" := by unfold IsiOk; decide +kernel
theorem tyName_mem {d : D} (n1 : ∀ c fs, d ≠ .obj c fs) : d.tyName ∈ tyNames := by
  cases d <;> first | exact absurd rfl (n1 _ _) | (simp [D.tyName, tyNames])
def mIsi (Ts : List String) (a : M OV) : M D := a.bind fun x => fun ρ => match x.get ρ with
  | some d => match isBs Ts d with
    | some b => .ok (.bl b) ρ
    | none => .bad
  | none => .bad
theorem isBs_some {Ts : List String} {d : D} {b : Bool} (e : isBs Ts d = some b) : (∀ c fs, d ≠ .obj c fs) ∧ (∀ xs, d ≠ .rol xs) ∧ b = Ts.any (fun T => isT T d.tyName) := by
  cases d <;> first | (cases e; done) | exact ⟨fun _ _ z => (nomatch z), fun _ z => (nomatch z), (Option.some.inj e).symm⟩
section
variable {X : Cx} {B : Bd} {W : WX}
theorem sv_isi {T : String} {e e2 : Expr} {f : M OV} {p pos : Pos} (hk : IsiOk T) (ha : SO X B W e f) (h2 : PE X e2 (tC (.ty T))) (hg : Gl X "isinstance") (hm : X.mg "isinstance" = none) (hv : bootBuiltins "isinstance" = some (.builtin "isinstance"))
    (he1 : starEach [e2] X.env = (false, eval e2 X.env) :: starEach [] X.env)
    (he : starEach [e, e2] X.env = (false, eval e X.env) :: starEach [e2] X.env) (hpl : (backTo pos (starEach [e2] X.env)).any (·.1) = false) : SE X B W (.Call (.Name "isinstance" p) [e, e2] [] pos) (mIsi [T] f) := by
  refine pe_mono (pe_callB call_isi hg hm hv (pa_cons ha (pa_cons h2 pa_nil he1) he) (by decide) (by decide) he hpl) fun σ H Q ⟨F, ρ, h⟩ => h.go fun x H1 F1 ρ1 o s1 r1 h1 => ?_
  cases e1 : o.get ρ1 with
  | none => exact absurd (by simp only [e1]) h1.nobad
  | some d =>
    cases e3 : isBs [T] d with
    | none => exact absurd (by simp only [e1, e3]) h1.nobad
    | some b =>
      obtain ⟨n1, n2, eb⟩ := isBs_some e3
      refine ⟨x, .ty T, .type d.tyName, .type T, b, rfl, .ty T, tyX_of h1.sim.sub (r1.read h1.sim e1) n1 n2, kit_ty (by rw [hk _ (tyName_mem n1), eb]; simp only [List.any_cons, List.any_nil, Bool.or_false]), ?_⟩
      exact h1.fin (a := D.bl b) (by simp only [e1, e3]) h1.sim (Same.refl _) (by show Rep _ _ _ _ _; simp only [Rep])
theorem kit_all {K : PySem.W.Frag} {a : String} (ha : a ∈ tyNames) : ∀ {Ts : List String}, (∀ T ∈ Ts, IsiOk T) → PySem.W.kitAny K (.type a) (Ts.map Value.type) = some (Ts.any fun T => isT T a)
  | [], _ => rfl
  | T :: Ts, h => by
    have h1 : PySem.W.kitOne K (.type a) (.type T) = some (isT T a) := kit_ty (h T List.mem_cons_self a ha)
    have ih := kit_all (K := K) ha (Ts := Ts) fun T' hT => h T' (List.mem_cons_of_mem _ hT)
    rw [List.map_cons]
    unfold PySem.W.kitAny
    rw [h1, List.any_cons]
    cases isT T a with
    | true => rfl
    | false => simpa using ih
theorem cls_all : ∀ (Ts : List String), Paired ClsV (Ts.map V.ty) (Ts.map Value.type)
  | [] => .nil
  | T :: Ts => .cons (.ty T) (cls_all Ts)
theorem sv_isis {Ts : List String} {e : Expr} {es2 : List Expr} {ta : TA} {k : Nat} {f : M OV} {p p2 pos : Pos} (hk : ∀ T ∈ Ts, IsiOk T) (ha : SO X B W e f) (h2 : PA X es2 ta) (ht : ∀ σ H Q, Q (Ts.map V.ty) H → ta σ H Q) (hl : Ts.length ≤ 100) (hg : Gl X "isinstance") (hm : X.mg "isinstance" = none) (hv : bootBuiltins "isinstance" = some (.builtin "isinstance"))
    (he1 : starEach [Expr.Tuple es2 k p2] X.env = (false, eval (Expr.Tuple es2 k p2) X.env) :: starEach [] X.env)
    (he : starEach [e, Expr.Tuple es2 k p2] X.env = (false, eval e X.env) :: starEach [Expr.Tuple es2 k p2] X.env) (hpl : (backTo pos (starEach [Expr.Tuple es2 k p2] X.env)).any (·.1) = false) : SE X B W (.Call (.Name "isinstance" p) [e, .Tuple es2 k p2] [] pos) (mIsi Ts f) := by
  refine pe_mono (pe_callB call_isiT hg hm hv (pa_cons ha (pa_cons (pe_tup h2) pa_nil he1) he) (by decide) (by decide) he hpl) fun σ H Q ⟨F, ρ, h⟩ => h.go fun x H1 F1 ρ1 o s1 r1 h1 => ?_
  refine ht _ _ _ ⟨by rw [List.length_map, sizeLine_eq]; omega, fun q hq => ?_⟩
  cases e1 : o.get ρ1 with
  | none => exact absurd (by simp only [e1]) h1.nobad
  | some d =>
    cases e3 : isBs Ts d with
    | none => exact absurd (by simp only [e1, e3]) h1.nobad
    | some b =>
      obtain ⟨n1, n2, eb⟩ := isBs_some e3
      have g := Grow.new (o := .tup (Ts.map V.ty)) h1.sim.sub hq
      have S2 := h1.sim.grow g
      refine ⟨x, q, Ts.map V.ty, .type d.tyName, Ts.map Value.type, b, rfl, upd_same, cls_all Ts, tyX_of S2.sub ((r1.mono (H' := upd H1 q (.tup (Ts.map V.ty))) (ρ' := ρ1) g.f).read S2 e1) n1 n2, ?_, ?_⟩
      · rw [kit_all (tyName_mem n1) hk, eb]
      · exact h1.fin (a := D.bl b) (by simp only [e1, e3]) S2 g.f (by show Rep _ _ _ _ _; simp only [Rep])
/-! ### list(range(a, b)), tuple(range(..)) -/
def mRg (f : M OV) (g : M OV) : M (Int × Int) := f.bind fun x => g.bind fun y => fun ρ => match x.get ρ, y.get ρ with
  | some (.int i), some (.int j) => if rgOk i j = true then .ok (i, j) ρ else .bad
  | _, _ => .bad
def mListRg (f : M (Int × Int)) : M (D × Bool) := f.bind fun r => M.ret (.lst (rgD r.1 r.2), true)
theorem rg_rep {K : PySem.W.Frag} {mg : Str → Option Value} {F : Hp} (a b : Int) : RepL K mg F (rgD a b) (rgV a b) := by
  unfold rgD rgV
  generalize (b - a).toNat = n
  induction n with
  | zero => simpa using RepL.nil
  | succ n ih =>
    rw [List.range_succ, List.map_append, List.map_append]
    exact RepL.append ih (RepL.one (by simp only [Rep]))
abbrev TRg := L2.St → L2.Hp → (Int → Int → L2.Hp → Prop) → Prop
/-- a range as an argument -/
def SRg (X : Cx) (B : Bd) (W : WX) (e : Expr) (f : M (Int × Int)) : Prop := ∃ t : TRg, PRg X e t ∧ ∀ σ H (Q : Int → Int → L2.Hp → Prop), tG X B W (fun _ _ _ _ (a : Int × Int) (b : Int × Int) => a = b) f σ H (fun r H' => rgOk r.1 r.2 = true → Q r.1 r.2 H') → t σ H Q
theorem rg_fin {x y : OV} {F : Hp} {ρ : Env} {σ : St} {H : Hp} {Q : Int × Int → Hp → Prop} {v w : V} {H1 H2 : Hp} {ρ1 ρ2 : Env} (h : At X B W (fun _ _ _ _ (a : Int × Int) (b : Int × Int) => a = b) (fun ρ => match x.get ρ, y.get ρ with
  | some (.int i), some (.int j) => if rgOk i j = true then .ok (i, j) ρ else .bad
  | _, _ => .bad) F ρ σ H Q) (r1 : RO X σ H1 F ρ1 x v) (r2 : RO X σ H2 F ρ2 y w) : ∃ i j, v = .int i ∧ w = .int j ∧ rgOk i j = true ∧ Q (i, j) H := by
  cases e1 : x.get ρ with
  | none => exact absurd (by simp only [e1]) h.nobad
  | some d =>
    cases e2 : y.get ρ with
    | none => exact absurd (by cases d <;> simp only [e1, e2]) h.nobad
    | some d2 =>
      cases d with
      | int i =>
        cases d2 with
        | int j =>
          by_cases c : rgOk i j = true
          · exact ⟨i, j, (r1.read h.sim e1).int, (r2.read h.sim e2).int, c, h.fin (by simp only [e1, e2, if_pos c]) h.sim (Same.refl _) rfl⟩
          · exact absurd (by simp only [e1, e2, if_neg c]) h.nobad
        | _ => exact absurd (by simp only [e1, e2]) h.nobad
      | _ => exact absurd (by simp only [e1, e2]) h.nobad
theorem srg_2 {a b : Expr} {f g : M OV} {p pos : Pos} (hg : Gl X "range") (hm : X.mg "range" = none) (ha : SO X B W a f) (hb : SO X B W b g) (na : starEach [a, b] X.env = (false, eval a X.env) :: starEach [b] X.env)
    (nb : starEach [b] X.env = (false, eval b X.env) :: starEach [] X.env) (hp : (backTo pos (starEach [b] X.env)).any (·.1) = false) : SRg X B W (.Call (.Name "range" p) [a, b] [] pos) (mRg f g) :=
  ⟨_, prg_2 hg hm ha hb na nb hp, fun σ H Q ⟨F, ρ, h⟩ => h.go fun x H1 F1 ρ1 o1 s1 r1 h1 => h1.go fun y H2 F2 ρ2 o2 s2 r2 h2 => by
    obtain ⟨i, j, rfl, rfl, c, q⟩ := rg_fin h2 (r1.mono (H' := H2) (ρ' := ρ2) s2) r2
    exact ⟨i, j, rfl, rfl, q c⟩⟩
def mRg1 (f : M OV) : M (Int × Int) := mRg (M.ret (.now (.int 0))) f
theorem srg_1 {a : Expr} {f : M OV} {p pos : Pos} (hg : Gl X "range") (hm : X.mg "range" = none) (ha : SO X B W a f) (na : starEach [a] X.env = (false, eval a X.env) :: starEach [] X.env) : SRg X B W (.Call (.Name "range" p) [a] [] pos) (mRg1 f) :=
  ⟨_, prg_1 hg hm ha na, fun σ H Q ⟨F, ρ, h⟩ => by
    have h' : At X B W (fun _ _ _ _ (a : Int × Int) (b : Int × Int) => a = b) (f.bind fun y => fun ρ => match (OV.now (.int 0)).get ρ, y.get ρ with
      | some (.int i), some (.int j) => if rgOk i j = true then .ok (i, j) ρ else .bad
      | _, _ => .bad) F ρ σ H (fun r H' => rgOk r.1 r.2 = true → Q r.1 r.2 H') := h
    refine h'.go fun y H2 F2 ρ2 o2 s2 r2 h2 => ?_
    obtain ⟨i, j, e1, rfl, c, q⟩ := rg_fin (x := .now (.int 0)) (v := .int 0) (H1 := H2) (ρ1 := ρ2) h2 (by show Rep _ _ _ _ _; simp only [Rep]) r2
    cases e1
    exact ⟨j, rfl, q c⟩⟩
theorem sv_listRg {e : Expr} {f : M (Int × Int)} {p pos : Pos} (hc : X.calm = true) (hg : Gl X "list") (hm : X.mg "list" = none) (he : SRg X B W e f) (na : starEach [e] X.env = (false, eval e X.env) :: starEach [] X.env) : SV X B W (.Call (.Name "list" p) [e] [] pos) (mListRg f) := by
  obtain ⟨t, h1, h2⟩ := he
  refine pe_mono (pe_listRg hc hg hm h1 na) fun σ H Q ⟨F, ρ, h⟩ => h2 σ H _ (h.go fun r H1 F1 ρ1 r' s1 r1 h1 c => ?_)
  subst r1
  have c := of_decide_eq_true c
  exact ⟨c, fun q hq => h1.ans rfl q _ hq ⟨_, rfl, rg_rep _ _⟩⟩
end
end DL

namespace DL
open PySem PySem.Spec PyProof.Rows L2

/-! ### statements -/
inductive Fl where
  | next | brk | cont
  | ret (d : D)
  | new (d : D)
section
variable (X : Cx) (B : Bd) (W : WX)
def PostS (F : Hp) (D : Ends) : Out Fl → Prop
  | .ok .next ρ => ∀ σ H F', Sim X.K X.mg B σ H F' ρ → Same F F' → D.nx σ H
  | .ok .brk ρ => ∀ σ H F', Sim X.K X.mg B σ H F' ρ → Same F F' → D.bk σ H
  | .ok .cont ρ => ∀ σ H F', Sim X.K X.mg B σ H F' ρ → Same F F' → D.ct σ H
  | .ok (.ret d) ρ => ∀ σ v H F', Sim X.K X.mg B σ H F' ρ → Same F F' → Rep X.K X.mg F' d v → D.rt v H
  | .ok (.new d) ρ => ∀ σ v H F', Sim X.K X.mg B σ H F' ρ → Same F F' → NewR X B H F' σ ρ d v → D.rt v H
  | .err c fs ρ => ∀ σ cls dd H F', Sim X.K X.mg B σ H F' ρ → Same F F' → ErrR X H F' c fs cls dd → W cls dd σ H
  | .bad => False
def tS (f : M Fl) : TS := fun D σ H => ∃ F ρ, Sim X.K X.mg B σ H F ρ ∧ PostS X B W F D (f ρ)
def PostU (F : Hp) (Q : St → Hp → Prop) : Out Unit → Prop
  | .ok _ ρ => ∀ σ H F', Sim X.K X.mg B σ H F' ρ → Same F F' → Q σ H
  | .err c fs ρ => ∀ σ cls dd H F', Sim X.K X.mg B σ H F' ρ → Same F F' → ErrR X H F' c fs cls dd → W cls dd σ H
  | .bad => False
def tT (g : D → M Unit) : TG := fun v σ H Q => ∃ F ρ d, Sim X.K X.mg B σ H F ρ ∧ Rep X.K X.mg F d v ∧ PostU X B W F Q (g d ρ)
def tTs (g : List D → M Unit) : TGs := fun vs σ H Q => ∃ F ρ ds, Sim X.K X.mg B σ H F ρ ∧ RepL X.K X.mg F ds vs ∧ PostU X B W F Q (g ds ρ)
end
abbrev SS (X : Cx) (B : Bd) (W : WX) (st : Stmt) (f : M Fl) : Prop := PS X st (tS X B W f)
abbrev SSs (X : Cx) (B : Bd) (W : WX) (st : List Stmt) (f : M Fl) : Prop := PSs X st (tS X B W f)
abbrev STg (X : Cx) (B : Bd) (W : WX) (tg : Expr) (g : D → M Unit) : Prop := PG X tg (tT X B W g)
abbrev STgs (X : Cx) (B : Bd) (W : WX) (tgs : List Expr) (g : List D → M Unit) : Prop := PGs X tgs (tTs X B W g)

theorem ps_mono {X : Cx} {st : Stmt} {t t' : TS} (h : PS X st t) (i : ∀ D σ H, t' D σ H → t D σ H) : PS X st t' := ⟨fun pins s σ H D I q => h.run pins s σ H D I (i D σ H q)⟩
theorem pss_mono {X : Cx} {st : List Stmt} {t t' : TS} (h : PSs X st t) (i : ∀ D σ H, t' D σ H → t D σ H) : PSs X st t' := ⟨fun pins s σ H D I q => h.run pins s σ H D I (i D σ H q)⟩
theorem pg_mono {X : Cx} {tg : Expr} {t t' : TG} (h : PG X tg t) (i : ∀ v σ H Q, t' v σ H Q → t v σ H Q) : PG X tg t' := ⟨fun pins s σ H v u Q I r q => h.run pins s σ H v u Q I r (i v σ H Q q)⟩
theorem pgs_mono {X : Cx} {tg : List Expr} {t t' : TGs} (h : PGs X tg t) (i : ∀ v σ H Q, t' v σ H Q → t v σ H Q) : PGs X tg t' := ⟨fun pins s σ H v u Q I r q => h.run pins s σ H v u Q I r (i v σ H Q q)⟩
theorem pi_mono {X : Cx} {tg e : Expr} {t t' : TI} (h : PI X tg e t) (i : ∀ σ H R, t' σ H R → t σ H R) : PI X tg e t' := ⟨fun pins s σ H R I q => h.run pins s σ H R I (i σ H R q)⟩
theorem pi_or {X : Cx} {tg e : Expr} {t t' : TI} (h : PI X tg e t) (h' : PI X tg e t') : PI X tg e (fun σ H R => t σ H R ∨ t' σ H R) := ⟨fun pins s σ H R I q => q.elim (h.run pins s σ H R I) (h'.run pins s σ H R I)⟩

/-! ### the flow -/
def mSkip : M Fl := M.ret .next
def mSeq (f g : M Fl) : M Fl := f.bind fun r => match r with
  | .next => g
  | x => M.ret x
def toFl (f : M Unit) : M Fl := f.bind fun _ => M.ret .next
def mRet (f : M D) : M Fl := f.bind fun d => M.ret (.ret d)
def mExpr {α : Type} (f : M α) : M Fl := f.bind fun _ => M.ret .next
def mBrk : M Fl := M.ret .brk
def mCont : M Fl := M.ret .cont
/-- what is not needed any more is forgotten -/
def kill (is : List Nat) (ρ : Env) : Env := is.foldl (fun (r : Env) (i : Nat) => match r[i]? with
  | some (.io d) => r
  | some _ => r.set i .un
  | none => r) ρ
def mKill (is : List Nat) (f : M Fl) : M Fl := fun ρ => match f ρ with
  | .ok r ρ' => .ok r (kill is ρ')
  | .err c fs ρ' => .err c fs ρ'
  | .bad => .bad

section
variable {X : Cx} {B : Bd} {W : WX}
theorem PostS.anti {F F' : Hp} {D : Ends} {o : Out Fl} (s : Same F F') (h : PostS X B W F D o) : PostS X B W F' D o := by
  cases o with
  | ok r ρ =>
    cases r with
    | next => exact fun σ H F2 S t => h σ H F2 S (s.trans t)
    | brk => exact fun σ H F2 S t => h σ H F2 S (s.trans t)
    | cont => exact fun σ H F2 S t => h σ H F2 S (s.trans t)
    | ret d => exact fun σ v H F2 S t r => h σ v H F2 S (s.trans t) r
    | new d => exact fun σ v H F2 S t r => h σ v H F2 S (s.trans t) r
  | err c fs ρ => exact fun σ cls dd H F2 S t r => h σ cls dd H F2 S (s.trans t) r
  | bad => exact h
theorem PostU.anti {F F' : Hp} {Q : St → Hp → Prop} {o : Out Unit} (s : Same F F') (h : PostU X B W F Q o) : PostU X B W F' Q o := by
  cases o with
  | ok r ρ => exact fun σ H F2 S t => h σ H F2 S (s.trans t)
  | err c fs ρ => exact fun σ cls dd H F2 S t r => h σ cls dd H F2 S (s.trans t) r
  | bad => exact h
/-- forgetting -/
theorem Sim.forget {K : PySem.W.Frag} {mg : Str → Option Value} {σ : St} {H F : Hp} {ρ : Env} (i : Nat) (S : Sim K mg B σ H F ρ) (hio : ∀ d, ρ[i]? ≠ some (.io d)) : Sim K mg B σ H F (ρ.set i .un) := by
  refine ⟨S.sub, by rw [List.length_set]; exact S.len, fun j s q => ?_, fun j k s t b q1 q2 m1 m2 => ?_, fun p hp => ?_, S.keepH, S.keepF, S.there⟩
  · by_cases hj : i = j
    · subst hj
      by_cases hi : i < ρ.length
      · rw [List.getElem?_set_self hi] at q
        cases q
        trivial
      · rw [List.getElem?_eq_none_iff.mpr (by rw [List.length_set]; omega)] at q
        cases q
    · rw [List.getElem?_set_ne hj] at q
      exact S.slot j s q
  · have key : ∀ {j : Nat} {s : Sl}, (ρ.set i .un)[j]? = some s → s.mine = true → ρ[j]? = some s := fun {j s} q m => by
      by_cases hj : i = j
      · subst hj
        by_cases hi : i < ρ.length
        · rw [List.getElem?_set_self hi] at q; cases q; cases m
        · rw [List.getElem?_eq_none_iff.mpr (by rw [List.length_set]; omega)] at q; cases q
      · rw [List.getElem?_set_ne hj] at q; exact q
    exact S.sep j k s t b (key q1 m1) (key q2 m2) m1 m2
  · obtain ⟨d', q1, q2⟩ := S.ios p hp
    have n1 : i ≠ p.1 := fun z => hio d' (by rw [z]; exact q1)
    exact ⟨d', by rw [List.getElem?_set_ne n1]; exact q1, q2⟩
theorem Sim.kill {K : PySem.W.Frag} {mg : Str → Option Value} {σ : St} {H F : Hp} : ∀ (is : List Nat) {ρ : Env}, Sim K mg B σ H F ρ → Sim K mg B σ H F (kill is ρ)
  | [], _, S => S
  | i :: is, ρ, S => by
    refine Sim.kill is (ρ := match ρ[i]? with
      | some (.io d) => ρ
      | some _ => ρ.set i .un
      | none => ρ) ?_
    cases q : ρ[i]? with
    | none => exact S
    | some s =>
      cases s with
      | io d => exact S
      | un => exact S.forget i (fun d z => by rw [q] at z; cases z)
      | val _ => exact S.forget i (fun d z => by rw [q] at z; cases z)
      | own _ => exact S.forget i (fun d z => by rw [q] at z; cases z)
theorem kill_mine : ∀ (is : List Nat) {ρ : Env} {j : Nat} {s : Sl}, (kill is ρ)[j]? = some s → s.mine = true → ρ[j]? = some s
  | [], _, _, _, h, _ => h
  | i :: is, ρ, j, s, h, m => by
    have q := kill_mine is (ρ := match ρ[i]? with
      | some (.io d) => ρ
      | some _ => ρ.set i .un
      | none => ρ) h m
    cases e : ρ[i]? with
    | none => rw [e] at q; exact q
    | some t =>
      have set : (ρ.set i .un)[j]? = some s → ρ[j]? = some s := fun q => by
        by_cases hj : i = j
        · subst hj
          rw [List.getElem?_set_self (List.getElem?_eq_some_iff.mp e).1] at q
          cases q
          cases m
        · rw [List.getElem?_set_ne hj] at q
          exact q
      rw [e] at q
      cases t with
      | io d => exact q
      | un => exact set q
      | val _ => exact set q
      | own _ => exact set q
theorem NewR.kill {H F : Hp} {σ : St} {ρ : Env} {d : D} {v : V} (is : List Nat) (h : NewR X B H F σ ρ d v) : NewR X B H F σ (kill is ρ) d v := by
  obtain ⟨a, h1, h2, h3, h4, h5⟩ := h
  exact ⟨a, h1, h2, h3, h4, fun i s q m => h5 i s (kill_mine is q m) m⟩
theorem PostS.kill {F : Hp} {D : Ends} {is : List Nat} {f : M Fl} {ρ : Env} (h : PostS X B W F D (mKill is f ρ)) : PostS X B W F D (f ρ) := by
  unfold mKill at h
  cases e : f ρ with
  | ok r ρ' =>
    rw [e] at h
    cases r with
    | next => exact fun σ H F2 S t => h σ H F2 (S.kill is) t
    | brk => exact fun σ H F2 S t => h σ H F2 (S.kill is) t
    | cont => exact fun σ H F2 S t => h σ H F2 (S.kill is) t
    | ret d => exact fun σ v H F2 S t r => h σ v H F2 (S.kill is) t r
    | new d => exact fun σ v H F2 S t r => h σ v H F2 (S.kill is) t (r.kill is)
  | err c fs ρ' => rw [e] at h; exact h
  | bad => rw [e] at h; exact h
theorem ss_kill {st : Stmt} {f : M Fl} (is : List Nat) (h : SS X B W st f) : SS X B W st (mKill is f) := ps_mono h fun D σ H ⟨F, ρ, S, p⟩ => ⟨F, ρ, S, p.kill⟩
theorem sss_kill {st : List Stmt} {f : M Fl} (is : List Nat) (h : SSs X B W st f) : SSs X B W st (mKill is f) := pss_mono h fun D σ H ⟨F, ρ, S, p⟩ => ⟨F, ρ, S, p.kill⟩

/-- from an expression's step to a statement's -/
theorem At.goS {α β : Type} {R : RT α β} {f : M α} {k : α → M Fl} {F : Hp} {ρ : Env} {σ : St} {H : Hp} {D : Ends} {Q1 : β → Hp → Prop}
    (S : Sim X.K X.mg B σ H F ρ) (h : PostS X B W F D ((f.bind k) ρ)) (hk : ∀ v H1 F1 ρ1 a, Same F F1 → Sim X.K X.mg B σ H1 F1 ρ1 → R σ H1 F1 ρ1 a v → PostS X B W F1 D (k a ρ1) → Q1 v H1) : tG X B W R f σ H Q1 := by
  refine ⟨F, ρ, S, ?_⟩
  unfold M.bind at h
  cases e : f ρ with
  | ok a ρ1 => rw [e] at h; exact fun v H1 F1 S1 s1 r1 => hk v H1 F1 ρ1 a s1 S1 r1 (h.anti s1)
  | err c fs ρ1 => rw [e] at h; exact fun cls dd H' F' S' t r => h σ cls dd H' F' S' t r
  | bad => rw [e] at h; exact h.elim
theorem sss_nil : SSs X B W [] mSkip := pss_mono pss_nil fun D σ H ⟨F, ρ, S, p⟩ => p σ H F S (Same.refl _)
theorem PostS.seq {F : Hp} {D : Ends} {f g : M Fl} {ρ : Env} (h : PostS X B W F D (mSeq f g ρ)) : PostS X B W F { D with nx := fun σ H => tS X B W g D σ H } (f ρ) := by
  unfold mSeq M.bind at h
  cases e : f ρ with
  | ok r ρ' =>
    rw [e] at h
    cases r with
    | next => exact fun σ H F2 S t => ⟨F2, ρ', S, PostS.anti t h⟩
    | brk => exact h
    | cont => exact h
    | ret d => exact h
    | new d => exact h
  | err c fs ρ' => rw [e] at h; exact h
  | bad => rw [e] at h; exact h
theorem sss_cons {st : Stmt} {r : List Stmt} {f g : M Fl} (h : SS X B W st f) (h' : SSs X B W r g) : SSs X B W (st :: r) (mSeq f g) :=
  pss_mono (pss_cons h h') fun D σ H ⟨F, ρ, S, p⟩ => ⟨F, ρ, S, p.seq⟩
theorem sss_one {st : Stmt} {f : M Fl} (h : SS X B W st f) : SSs X B W [st] f := pss_one h
theorem ss_pass {pos : Pos} : SS X B W (.Pass pos) mSkip := ps_mono ps_pass fun D σ H ⟨F, ρ, S, p⟩ => p σ H F S (Same.refl _)
theorem ss_break {pos : Pos} : SS X B W (.Break pos) mBrk := ps_mono ps_break fun D σ H ⟨F, ρ, S, p⟩ => p σ H F S (Same.refl _)
theorem ss_continue {pos : Pos} : SS X B W (.Continue pos) mCont := ps_mono ps_continue fun D σ H ⟨F, ρ, S, p⟩ => p σ H F S (Same.refl _)
theorem ss_expr {e : Expr} {f : M (D × Bool)} {pos : Pos} (h : SV X B W e f) (hs : swapsWith e none pos.line X.env = pure false) : SS X B W (.Expr e pos) (mExpr f) :=
  ps_mono (ps_expr h hs) fun D σ H ⟨F, ρ, S, p⟩ => At.goS S p fun v H1 F1 ρ1 a s1 S1 r1 p1 => p1 σ H1 F1 S1 (Same.refl _)
theorem ss_ret {e : Expr} {f : M D} {pos : Pos} (h : SE X B W e f) : SS X B W (.Return (some e) pos) (mRet f) :=
  ps_mono (ps_ret h) fun D σ H ⟨F, ρ, S, p⟩ => At.goS S p fun v H1 F1 ρ1 a s1 S1 r1 p1 => p1 σ v H1 F1 S1 (Same.refl _) r1
/-- something new is handed out -/
def mOwn (i : Nat) : M (D × Bool) := fun ρ => match ρ[i]? with
  | some (.own d) => .ok (d, true) (ρ.set i .un)
  | _ => .bad
theorem sv_own {i : Nat} {e : Expr} (h : PE X e (tVar i)) : SV X B W e (mOwn i) := by
  refine pe_mono h fun σ H Q ⟨F, ρ, a⟩ => ?_
  have p := a.post
  unfold mOwn at p
  cases q : ρ[i]? with
  | none => rw [q] at p; exact p.elim
  | some s =>
    rw [q] at p
    cases s with
    | un => exact p.elim
    | val d => exact p.elim
    | io d => exact p.elim
    | own d =>
      obtain ⟨b, h1, h2, h3, h4⟩ := a.sim.slot i _ q
      refine ⟨.ref b, h1, p (.ref b) H F (a.sim.forget i fun d' z => by rw [q] at z; cases z) (Same.refl _) ?_⟩
      unfold RV
      rw [if_pos rfl]
      refine ⟨b, rfl, h2, h3, h4, fun j t q1 m z => ?_⟩
      by_cases hj : i = j
      · subst hj
        rw [List.getElem?_set_self (List.getElem?_eq_some_iff.mp q).1] at q1
        cases q1
        cases m
      · rw [List.getElem?_set_ne hj] at q1
        exact hj (a.sim.sep i j _ t b q q1 rfl m h1 z)
def mRetV (f : M (D × Bool)) : M Fl := f.bind fun r => M.ret (if r.2 = true then .new r.1 else .ret r.1)
theorem ss_retV {e : Expr} {f : M (D × Bool)} {pos : Pos} (h : SV X B W e f) : SS X B W (.Return (some e) pos) (mRetV f) :=
  ps_mono (ps_ret h) fun D σ H ⟨F, ρ, S, p⟩ => At.goS S p fun v H1 F1 ρ1 r s1 S1 r1 p1 => by
    unfold RV at r1
    by_cases c : r.2 = true
    · rw [if_pos c] at r1 p1
      exact p1 σ v H1 F1 S1 (Same.refl _) r1
    · rw [if_neg c] at r1 p1
      exact p1 σ v H1 F1 S1 (Same.refl _) r1
theorem ss_retN {pos : Pos} : SS X B W (.Return none pos) (mRet (mLit .non)) :=
  ps_mono ps_retN fun D σ H ⟨F, ρ, S, p⟩ => p σ .non H F S (Same.refl _) (by simp only [Rep])
theorem ss_if {c : Expr} {a b : List Stmt} {fc : M Bool} {fa fb : M Fl} {pos : Pos} (hc : ST X B W c fc) (ha : SSs X B W a fa) (hb : SSs X B W b fb) : SS X B W (.If c a b pos) (mIf fc fa fb) :=
  ps_mono (ps_if hc ha hb) fun D σ H ⟨F, ρ, S, p⟩ => At.goS S p fun k H1 F1 ρ1 k' s1 S1 r1 p1 => by
    cases r1
    cases k with
    | true => exact ⟨F1, ρ1, S1, p1⟩
    | false => exact ⟨F1, ρ1, S1, p1⟩

/-! ### stores -/
def put (i : Nat) (s : Sl) : M Unit := fun ρ => match ρ[i]? with
  | some (.io _) => .bad
  | some _ => .ok () (ρ.set i s)
  | none => .bad
theorem put_ok {i : Nat} {s : Sl} {ρ : Env} (h : put i s ρ ≠ .bad) : put i s ρ = .ok () (ρ.set i s) ∧ i < ρ.length ∧ ∀ d, ρ[i]? ≠ some (.io d) := by
  unfold put at h ⊢
  cases q : ρ[i]? with
  | none => rw [q] at h; exact absurd rfl h
  | some t =>
    have hi : i < ρ.length := (List.getElem?_eq_some_iff.mp q).1
    cases t with
    | io d => rw [q] at h; exact absurd rfl h
    | _ => exact ⟨rfl, hi, fun d z => by cases z⟩
theorem Sim.put {K : PySem.W.Frag} {mg : Str → Option Value} {σ : St} {H F : Hp} {ρ : Env} {i : Nat} {v : V} {s : Sl} (S : Sim K mg B σ H F ρ) (hi : i < ρ.length) (hio : ∀ d, ρ[i]? ≠ some (.io d))
    (hs : SlotR K mg B H F i (some (some v)) s) (hm : s.mine = true → ∀ (j : Nat) (t : Sl) (a : Addr), ρ[j]? = some t → t.mine = true → v = .ref a → σ[j]? ≠ some (some (.ref a))) (hni : ∀ d, s ≠ .io d) : Sim K mg B (σ.set i (some v)) H F (ρ.set i s) := by
  have hσ : i < σ.length := by rw [← S.len]; exact hi
  refine ⟨S.sub, by rw [List.length_set, List.length_set]; exact S.len, fun j t q => ?_, fun j k t t' b q1 q2 m1 m2 e1 e2 => ?_, fun p hp => ?_, S.keepH, S.keepF, S.there⟩
  · by_cases hj : i = j
    · subst hj
      rw [List.getElem?_set_self hi] at q
      cases q
      rw [List.getElem?_set_self hσ]
      exact hs
    · rw [List.getElem?_set_ne hj] at q
      rw [List.getElem?_set_ne hj]
      exact S.slot j t q
  · by_cases hj : i = j
    · subst hj
      rw [List.getElem?_set_self hi] at q1
      rw [List.getElem?_set_self hσ] at e1
      cases q1
      by_cases hk : i = k
      · exact hk
      · rw [List.getElem?_set_ne hk] at q2 e2
        have ev : v = .ref b := Option.some.inj (Option.some.inj e1)
        exact absurd e2 (hm m1 k t' b q2 m2 ev)
    · rw [List.getElem?_set_ne hj] at q1 e1
      by_cases hk : i = k
      · subst hk
        rw [List.getElem?_set_self hi] at q2
        rw [List.getElem?_set_self hσ] at e2
        cases q2
        have ev : v = .ref b := Option.some.inj (Option.some.inj e2)
        exact absurd e1 (hm m2 j t b q1 m1 ev)
      · rw [List.getElem?_set_ne hk] at q2 e2
        exact S.sep j k t t' b q1 q2 m1 m2 e1 e2
  · obtain ⟨d', q1, q2⟩ := S.ios p hp
    have n1 : i ≠ p.1 := fun z => hio d' (by rw [z]; exact q1)
    exact ⟨d', by rw [List.getElem?_set_ne n1]; exact q1, by rw [List.getElem?_set_ne n1]; exact q2⟩
def mSet (i : Nat) (f : M (D × Bool)) : M Fl := f.bind fun r => toFl (put i (if r.2 = true then .own r.1 else .val r.1))
theorem toFl_eq {f : M Unit} {ρ ρ' : Env} (h : f ρ = .ok () ρ') : toFl f ρ = .ok .next ρ' := by
  unfold toFl M.bind
  rw [h]
  rfl
theorem set_fin {i : Nat} {r : D × Bool} {F : Hp} {ρ : Env} {σ : St} {H : Hp} {D : Ends} {v : V} (S : Sim X.K X.mg B σ H F ρ) (q : RV X B σ H F ρ r v) (p : PostS X B W F D (toFl (put i (if r.2 = true then .own r.1 else .val r.1)) ρ)) : D.nx (σ.set i (some v)) H := by
  have nb : put i (if r.2 = true then .own r.1 else .val r.1) ρ ≠ .bad := fun z => by
    unfold toFl M.bind at p
    rw [z] at p
    exact p
  obtain ⟨e, hi, hio⟩ := put_ok nb
  rw [toFl_eq e] at p
  refine p _ _ F (S.put hi hio ?_ (fun m j t a e1 m1 ev => ?_) (fun d z => ?_)) (Same.refl _)
  · unfold RV at q
    by_cases hx : r.2 = true
    · rw [if_pos hx] at q ⊢
      obtain ⟨a, rfl, h1, h2, h3, _⟩ := q
      exact ⟨a, rfl, h1, h2, h3⟩
    · rw [if_neg hx] at q ⊢
      exact ⟨v, rfl, q⟩
  · unfold RV at q
    by_cases hx : r.2 = true
    · rw [if_pos hx] at q
      obtain ⟨b, rfl, h1, h2, h3, h4⟩ := q
      cases ev
      exact h4 j t e1 m1
    · rw [if_neg hx] at m
      cases m
  · by_cases hx : r.2 = true
    · rw [if_pos hx] at z; cases z
    · rw [if_neg hx] at z; cases z
theorem ss_set {i : Nat} {x : Str} {e : Expr} {f : M (D × Bool)} {pos' pos : Pos} (hN : X.N.Nodup) (hi : X.N[i]? = some x) (hx : Loc X.env.scope x) (he : SV X B W e f) (hs : swapsWith e (some (.Name x pos')) pos.line X.env = pure false) (hf : X.fn x = true ∨ X.env.scope.names.lookup x = some .local) :
    SS X B W (.Assign [.Name x pos'] e pos) (mSet i f) :=
  ps_mono (ps_set hN hi hx he hs hf) fun D σ H ⟨F, ρ, S, p⟩ => At.goS S p fun v H1 F1 ρ1 r s1 S1 r1 p1 => set_fin S1 r1 p1
/-- targets -/
def gSet (i : Nat) : D → M Unit := fun d => put i (.val d)
theorem put_fin {i : Nat} {d : D} {F : Hp} {ρ : Env} {σ : St} {H : Hp} {Q : St → Hp → Prop} {v : V} (S : Sim X.K X.mg B σ H F ρ) (q : Rep X.K X.mg F d v) (p : PostU X B W F Q (put i (.val d) ρ)) : Q (σ.set i (some v)) H := by
  have nb : put i (.val d) ρ ≠ .bad := fun z => by rw [z] at p; exact p
  obtain ⟨e, hi, hio⟩ := put_ok nb
  rw [e] at p
  exact p _ _ F (S.put hi hio ⟨v, rfl, q⟩ (fun m => by cases m) (fun d z => by cases z)) (Same.refl _)
theorem st_name {i : Nat} {x : Str} {pos : Pos} (hN : X.N.Nodup) (hi : X.N[i]? = some x) (hx : Loc X.env.scope x) (hf : X.fn x = true ∨ X.env.scope.names.lookup x = some .local) : STg X B W (.Name x pos) (gSet i) :=
  pg_mono (pg_name hN hi hx hf) fun v σ H Q ⟨F, ρ, d, S, r, p⟩ => put_fin S r p
def gsNil : List D → M Unit := fun ds => match ds with
  | [] => M.ret ()
  | _ => fun _ => .bad
def gsCons (g : D → M Unit) (gs : List D → M Unit) : List D → M Unit := fun ds => match ds with
  | d :: r => (g d).bind fun _ => gs r
  | [] => fun _ => .bad
theorem stgs_nil : STgs X B W [] gsNil := pgs_mono pgs_nil fun vs σ H Q ⟨F, ρ, ds, S, r, p⟩ => by
  cases ds with
  | nil => simp only [RepL] at r; exact ⟨r, p σ H F S (Same.refl _)⟩
  | cons d ds => exact p.elim
theorem stgs_cons {e : Expr} {es : List Expr} {g : D → M Unit} {gs : List D → M Unit} (h1 : STg X B W e g) (h2 : STgs X B W es gs) (hs : (assignEach (e :: es) X.env).map (·.2) = assign e X.env :: (assignEach es X.env).map (·.2)) : STgs X B W (e :: es) (gsCons g gs) :=
  pgs_mono (pgs_cons h1 h2 hs) fun vs σ H Q ⟨F, ρ, ds, S, r, p⟩ => by
    cases ds with
    | nil => exact p.elim
    | cons d ds =>
      simp only [RepL] at r
      obtain ⟨v, q, rfl, r1, r2⟩ := r
      refine ⟨v, q, rfl, F, ρ, d, S, r1, ?_⟩
      have p' : PostU X B W F Q (((g d).bind fun _ => gs ds) ρ) := p
      unfold M.bind at p'
      cases e1 : g d ρ with
      | ok u ρ1 => rw [e1] at p'; exact fun σ1 H1 F1 S1 s1 => ⟨F1, ρ1, ds, S1, RepL.mono s1 _ _ r2, p'.anti s1⟩
      | err c fs ρ1 => rw [e1] at p'; exact p'
      | bad => rw [e1] at p'; exact p'
def gTupD (n : Nat) (gs : List D → M Unit) : D → M Unit := fun d => match d with
  | .tup ds => if ds.length = n then gs ds else fun _ => .bad
  | _ => fun _ => .bad
theorem st_tup {es : List Expr} {k n : Nat} {gs : List D → M Unit} {pos : Pos} (hc : X.calm = true) (h : STgs X B W es gs) (hn : (assignEach es X.env).length = n) (hst : (assignEach es X.env).findIdx? (·.1) = none) : STg X B W (.Tuple es k pos) (gTupD n gs) :=
  pg_mono (pg_tup hc h hn hst) fun v σ H Q ⟨F, ρ, d, S, r, p⟩ => by
    cases d with
    | tup ds =>
      simp only [Rep] at r
      obtain ⟨a, vs, rfl, h1, h2⟩ := r
      by_cases hl : ds.length = n
      · refine ⟨a, vs, rfl, same_SqT S.sub h1, by rw [← h2.length]; exact hl, F, ρ, ds, S, h2, ?_⟩
        have p' : PostU X B W F Q ((if ds.length = n then gs ds else fun _ => .bad) ρ) := p
        rw [if_pos hl] at p'
        exact p'
      · have p' : PostU X B W F Q ((if ds.length = n then gs ds else fun _ => .bad) ρ) := p
        rw [if_neg hl] at p'
        exact p'.elim
    | _ => exact p.elim
def mAsg (f : M D) (g : D → M Unit) : M Fl := f.bind fun d => toFl (g d)
theorem postU_of {F : Hp} {D : Ends} {f : M Unit} {ρ : Env} (p : PostS X B W F D (toFl f ρ)) : PostU X B W F D.nx (f ρ) := by
  unfold toFl M.bind at p
  cases e : f ρ with
  | ok u ρ1 => rw [e] at p; exact p
  | err c fs ρ1 => rw [e] at p; exact p
  | bad => rw [e] at p; exact p
theorem ss_asg {tg e : Expr} {f : M D} {g : D → M Unit} {pos : Pos} (he : SE X B W e f) (hg : STg X B W tg g) (hs : swapsWithSole [tg] e pos.line X.env = pure false) (hw : swappedStores [tg] e X.env = pure none)
    (h1 : (assignEach [tg] X.env).map (·.2) = [assign tg X.env]) : SS X B W (.Assign [tg] e pos) (mAsg f g) :=
  ps_mono (ps_asg he hg hs hw h1) fun D σ H ⟨F, ρ, S, p⟩ => At.goS S p fun v H1 F1 ρ1 d s1 S1 r1 p1 => ⟨F1, ρ1, d, S1, r1, postU_of p1⟩
end
end DL

namespace DL
open PySem PySem.Spec PyProof.Rows L2

/-! ### loops -/
/-- what a loop's turn hands on -/
def Out.turn (o : Out Fl) (k : M Fl) : Out Fl := match o with
  | .ok .next ρ => k ρ
  | .ok .cont ρ => k ρ
  | .ok .brk ρ => .ok .next ρ
  | .ok (.ret d) ρ => .ok (.ret d) ρ
  | .ok (.new d) ρ => .ok (.new d) ρ
  | .err c fs ρ => .err c fs ρ
  | .bad => .bad
@[simp] theorem turn_next (ρ : Env) (k : M Fl) : (Out.ok .next ρ).turn k = k ρ := rfl
@[simp] theorem turn_cont (ρ : Env) (k : M Fl) : (Out.ok .cont ρ).turn k = k ρ := rfl
@[simp] theorem turn_brk (ρ : Env) (k : M Fl) : (Out.ok .brk ρ).turn k = .ok .next ρ := rfl
@[simp] theorem turn_ret (d : D) (ρ : Env) (k : M Fl) : (Out.ok (.ret d) ρ).turn k = .ok (.ret d) ρ := rfl
@[simp] theorem turn_err (c : Str) (fs : List (Str × D)) (ρ : Env) (k : M Fl) : (Out.err c fs ρ : Out Fl).turn k = .err c fs ρ := rfl
@[simp] theorem turn_bad (k : M Fl) : (Out.bad : Out Fl).turn k = .bad := rfl
def loopL (step : D → M Fl) : List D → M Fl
  | [] => mSkip
  | d :: r => fun ρ => (step d ρ).turn (loopL step r)
def forStep (g : D → M Unit) (is : List Nat) (body : M Fl) : D → M Fl := fun d => mKill is ((g d).bind fun _ => body)
def mFor (src : M (List D)) (g : D → M Unit) (is : List Nat) (body : M Fl) : M Fl := src.bind fun ds => loopL (forStep g is body) ds
def loopW (c : M Bool) (b : M Fl) : Nat → M Fl
  | 0 => fun _ => .bad
  | n + 1 => c.bind fun k => if k = true then fun ρ => (b ρ).turn (loopW c b n) else mSkip
/-- turns of a while at most -/
def FUEL : Nat := 1000000
def mWhile (c : M Bool) (is : List Nat) (b : M Fl) : M Fl := loopW c (mKill is b) FUEL

section
variable {X : Cx} {B : Bd} {W : WX}
/-- what an iterator gives, turn by turn -/
def JOk (X : Cx) (J : It) (F : Hp) (ds : List D) : Prop := ∀ (i : Nat) (H F' : Hp), Same F F' → Same F' H →
  (ds.length ≤ i → J.stop i H) ∧ ∀ d, ds[i]? = some d → J.go i H ∧ ∀ x H', J.yld i H x H' → ∃ F2, Grow H F' H' F2 ∧ Rep X.K X.mg F2 d x
def RJ (X : Cx) : RT (List D) It := fun _ _ F _ ds J => JOk X J F ds
abbrev SI (X : Cx) (B : Bd) (W : WX) (tg e : Expr) (f : M (List D)) : Prop := PI X tg e (tG X B W (RJ X) f)
theorem turn_post {F : Hp} {D : Ends} {o : Out Fl} {k : M Fl} {N : St → Hp → Prop} (p : PostS X B W F D (o.turn k)) (hN : ∀ ρ σ H F', Sim X.K X.mg B σ H F' ρ → Same F F' → PostS X B W F' D (k ρ) → N σ H) : PostS X B W F { D with nx := N, ct := N, bk := D.nx } o := by
  cases o with
  | ok r ρ =>
    cases r with
    | next => exact fun σ H F2 S t => hN ρ σ H F2 S t (PostS.anti t p)
    | cont => exact fun σ H F2 S t => hN ρ σ H F2 S t (PostS.anti t p)
    | brk => exact p
    | ret d => exact p
    | new d => exact p
  | err c fs ρ => exact p
  | bad => exact p
theorem ss_for {tg e : Expr} {body : List Stmt} {f : M (List D)} {g : D → M Unit} {b : M Fl} {pos : Pos} (is : List Nat) (hp : PassesOwn (model X.prog X.w) X.A X.env X.xe) (hc : X.calm = true) (hi : SI X B W tg e f) (hg : STg X B W tg g) (hb : SSs X B W body b)
    (hs : ∀ x, foldedSetIterable e X.env x = pure x) : SS X B W (.For tg e body [] pos) (mFor f g is b) := by
  refine ps_mono (ps_for hp hc hi hg hb hs) fun D σ H ⟨F, ρ, S, p⟩ => At.goS S p fun J H1 F1 ρ1 ds s1 S1 r1 p1 => ?_
  refine ⟨fun i m σ H => ∃ F ρ, m = ds.length - i ∧ i ≤ ds.length ∧ Same F1 F ∧ Sim X.K X.mg B σ H F ρ ∧ PostS X B W F D (loopL (forStep g is b) (ds.drop i) ρ), ⟨ds.length, F1, ρ1, by simp, Nat.zero_le _, Same.refl _, S1, p1⟩, ?_⟩
  rintro i m σ2 H2 ⟨F2, ρ2, rfl, hi, s2, S2, p2⟩
  obtain ⟨j1, j2⟩ := r1 i H2 F2 s2 S2.sub
  by_cases hlt : i < ds.length
  · have e1 : ds[i]? = some ds[i] := List.getElem?_eq_getElem hlt
    rw [List.drop_eq_getElem_cons hlt] at p2
    obtain ⟨go, y⟩ := j2 _ e1
    refine .inr ⟨go, fun σ' H' => ∃ F ρ, i + 1 ≤ ds.length ∧ Same F1 F ∧ Sim X.K X.mg B σ' H' F ρ ∧ PostS X B W F D (loopL (forStep g is b) (ds.drop (i + 1)) ρ), fun σ' H' ⟨F', ρ', q1, q2, q3, q4⟩ => ⟨ds.length - (i + 1), by omega, F', ρ', rfl, q1, q2, q3, q4⟩, fun x H' hy => ?_⟩
    obtain ⟨F3, g3, r3⟩ := y x H' hy
    refine ⟨F3, ρ2, _, S2.grow g3, r3, ?_⟩
    have p3 := PostS.kill (turn_post (N := fun σ' H' => ∃ F ρ, i + 1 ≤ ds.length ∧ Same F1 F ∧ Sim X.K X.mg B σ' H' F ρ ∧ PostS X B W F D (loopL (forStep g is b) (ds.drop (i + 1)) ρ)) p2 fun ρ' σ' H'' F' S' t q => ⟨F', ρ', hlt, s2.trans t, S', q⟩)
    unfold M.bind at p3
    cases q : g ds[i] ρ2 with
    | ok u ρ3 => rw [q] at p3; exact fun σ4 H4 F4 S4 s4 => ⟨F4, ρ3, S4, PostS.anti (g3.f.trans s4) p3⟩
    | err c fs ρ3 => rw [q] at p3; exact fun σ cls dd H F4 S t r => p3 σ cls dd H F4 S (g3.f.trans t) r
    | bad => rw [q] at p3; exact p3
  · have ei : i = ds.length := by omega
    refine .inl ⟨j1 (by omega), ?_⟩
    rw [ei, List.drop_length] at p2
    exact p2 σ2 H2 F2 S2 (Same.refl _)
theorem ss_while {c : Expr} {body : List Stmt} {fc : M Bool} {b : M Fl} {pos : Pos} (is : List Nat) (hp : PassesOwn (model X.prog X.w) X.A X.env X.xe) (hc : ST X B W c fc) (hb : SSs X B W body b) : SS X B W (.While c body [] pos) (mWhile fc is b) := by
  refine ps_mono (ps_while hp hc hb) fun D σ H ⟨F, ρ, S, p⟩ => ?_
  refine ⟨fun m σ H => ∃ F ρ, Sim X.K X.mg B σ H F ρ ∧ PostS X B W F D (loopW fc (mKill is b) m ρ), ⟨FUEL, F, ρ, S, p⟩, ?_⟩
  rintro m σ1 H1 ⟨F1, ρ1, S1, p1⟩
  cases m with
  | zero => exact p1.elim
  | succ m =>
    refine At.goS S1 p1 fun k H2 F2 ρ2 k' s2 S2 r2 p2 => ?_
    cases r2
    cases k with
    | true =>
      refine ⟨fun σ' H' => ∃ F ρ, Sim X.K X.mg B σ' H' F ρ ∧ PostS X B W F D (loopW fc (mKill is b) m ρ), fun σ' H' q => ⟨m, Nat.lt_succ_self _, q⟩, F2, ρ2, S2, ?_⟩
      exact PostS.kill (turn_post p2 fun ρ' σ' H'' F' S' t q => ⟨F', ρ', S', q⟩)
    | false => exact p2 σ1 H2 F2 S2 (Same.refl _)

/-! ### what is walked -/
/-- the items of a list, a tuple; the signs of a text -/
def itemsD : D → Option (List D)
  | .lst ds => some ds
  | .tup ds => some ds
  | .rol ds => some ds
  | .str s => some (s.cps.toList.map fun c => .str ⟨#[c]⟩)
  | _ => none
def mItems (f : M D) : M (List D) := f.bind fun d => fun ρ => match itemsD d with
  | some ds => .ok ds ρ
  | none => .bad
theorem j_list {a : Addr} {F : Hp} {ds : List D} {vs : List V} (h : SqL X.K F a vs) (r : RepL X.K X.mg F ds vs) : JOk X (Itl X.K a) F ds := fun i H F' s1 s2 => by
  have hq : SqL X.K H a vs := s2.seq (s1.seq h)
  refine ⟨fun hl => ⟨vs, hq, by rw [← r.length]; exact hl⟩, fun d e => ?_⟩
  obtain ⟨v, e1, r1⟩ := r.get e
  refine ⟨⟨vs, v, hq, e1⟩, fun x H' ⟨e2, y⟩ => ?_⟩
  subst e2
  have e3 := y vs hq
  rw [e1] at e3
  cases e3
  exact ⟨F', Grow.refl s2, Rep.mono s1 _ _ r1⟩
theorem j_tup {a : Addr} {F : Hp} {ds : List D} {vs : List V} (h : SqT X.K F a vs) (r : RepL X.K X.mg F ds vs) : JOk X (Itt X.K a) F ds := fun i H F' s1 s2 => by
  have hq : SqT X.K H a vs := same_SqT s2 (same_SqT s1 h)
  refine ⟨fun hl => ⟨vs, hq, by rw [← r.length]; exact hl⟩, fun d e => ?_⟩
  obtain ⟨v, e1, r1⟩ := r.get e
  refine ⟨⟨vs, v, hq, e1⟩, fun x H' ⟨e2, y⟩ => ?_⟩
  subst e2
  have e3 := y vs hq
  rw [e1] at e3
  cases e3
  exact ⟨F', Grow.refl s2, Rep.mono s1 _ _ r1⟩
theorem j_str {F : Hp} {z : Str} : JOk X (Its z) F (z.cps.toList.map fun c => .str ⟨#[c]⟩) := fun i H F' s1 s2 => by
  refine ⟨fun hl => by show z.cps.size ≤ i; simpa using hl, fun d e => ?_⟩
  rw [List.getElem?_map] at e
  obtain ⟨c, e1, rfl⟩ := map_some e
  have e1' : z.cps[i]? = some c := by rw [← Array.getElem?_toList]; exact e1
  refine ⟨(Array.getElem?_eq_some_iff.mp e1').1, fun x H' ⟨e2, k, e3, e4⟩ => ?_⟩
  subst e2
  rw [e1'] at e3
  cases e3
  subst e4
  exact ⟨F', Grow.refl s2, by simp only [Rep]⟩
theorem si_items {tg e : Expr} {f : M D} (h : SE X B W e f) : SI X B W tg e (mItems f) :=
  pi_mono (pi_or (pi_list h) (pi_or (pi_tup h) (pi_str h))) fun σ H R ⟨F, ρ, a⟩ => by
    -- which of the three it is, is read off the datum
    have key : ∀ {Q1 : V → Hp → Prop}, (∀ v H1 F1 ρ1 d, Same F F1 → f ρ = .ok d ρ1 → Rep X.K X.mg F1 d v → At X B W (RJ X) (fun ρ => match itemsD d with
      | some ds => .ok ds ρ
      | none => .bad) F1 ρ1 σ H1 R → Q1 v H1) → tG X B W (RE X) f σ H Q1 := fun {Q1} hk => by
      refine ⟨F, ρ, a.sim, ?_⟩
      have p := a.post
      unfold mItems M.bind at p
      cases e1 : f ρ with
      | ok d ρ1 => rw [e1] at p; exact fun v H1 F1 S1 s1 r1 => hk v H1 F1 ρ1 d s1 e1 r1 ⟨S1, p.anti s1⟩
      | err c fs ρ1 => rw [e1] at p; exact p
      | bad => rw [e1] at p; exact p
    cases e1 : f ρ with
    | ok d ρ1 =>
      cases d with
      | lst ds =>
        refine .inl (key fun v H1 F1 ρ2 d s1 e2 r1 h1 => ?_)
        rw [e1] at e2
        cases e2
        simp only [Rep] at r1
        obtain ⟨b, vs, rfl, q1, q2⟩ := r1
        exact ⟨b, rfl, ⟨vs, SqL.of (h1.sim.sub _ _ q1)⟩, h1.fin rfl h1.sim (Same.refl _) (j_list (SqL.of q1) q2)⟩
      | rol ds =>
        refine .inl (key fun v H1 F1 ρ2 d s1 e2 r1 h1 => ?_)
        rw [e1] at e2
        cases e2
        simp only [Rep] at r1
        obtain ⟨b, vs, rfl, q1, q2⟩ := r1
        exact ⟨b, rfl, ⟨vs, h1.sim.sub.seq q1⟩, h1.fin rfl h1.sim (Same.refl _) (j_list q1 q2)⟩
      | tup ds =>
        refine .inr (.inl (key fun v H1 F1 ρ2 d s1 e2 r1 h1 => ?_))
        rw [e1] at e2
        cases e2
        simp only [Rep] at r1
        obtain ⟨b, vs, rfl, q1, q2⟩ := r1
        exact ⟨b, rfl, ⟨vs, same_SqT h1.sim.sub q1⟩, h1.fin rfl h1.sim (Same.refl _) (j_tup q1 q2)⟩
      | str z =>
        refine .inr (.inr (key fun v H1 F1 ρ2 d s1 e2 r1 h1 => ?_))
        rw [e1] at e2
        cases e2
        simp only [Rep] at r1
        subst r1
        exact ⟨z, rfl, h1.fin rfl h1.sim (Same.refl _) j_str⟩
      | _ =>
        have p := a.post
        unfold mItems M.bind at p
        rw [e1] at p
        exact p.elim
    | err c fs ρ1 => exact .inl (key fun v H1 F1 ρ2 d s1 e2 r1 h1 => by rw [e1] at e2; cases e2)
    | bad =>
      have p := a.post
      unfold mItems M.bind at p
      rw [e1] at p
      exact p.elim
def rngD (lo : Int) (n : Nat) : List D := (List.range n).map fun i => D.int (lo + (i : Nat))
theorem j_rng {F : Hp} {lo : Int} {n : Nat} : JOk X (Itr lo n) F (rngD lo n) := fun i H F' s1 s2 => by
  unfold rngD
  refine ⟨fun hl => by show n ≤ i; simpa using hl, fun d e => ?_⟩
  rw [List.getElem?_map] at e
  obtain ⟨c, e1, rfl⟩ := map_some e
  have hi : i < n := by
    have := (List.getElem?_eq_some_iff.mp e1).1
    simpa using this
  rw [List.getElem?_range hi] at e1
  cases e1
  refine ⟨hi, fun x H' ⟨e2, e3⟩ => ?_⟩
  subst e2
  subst e3
  exact ⟨F', Grow.refl s2, by simp only [Rep]⟩
def rng1Ok (j : Int) : Bool := decide (-(2 ^ 62) ≤ j ∧ j < 2 ^ 62)
def mRange1 (f : M (List OV)) : M (List D) := f.bind fun os => fun ρ => match ovs ρ os with
  | some [.int j] => if rng1Ok j = true then .ok (rngD 0 j.toNat) ρ else .bad
  | _ => .bad
def mRange2 (f : M (List OV)) : M (List D) := f.bind fun os => fun ρ => match ovs ρ os with
  | some [.int i, .int j] => if (rng1Ok i && rng1Ok j) = true then .ok (rngD i (j - i).toNat) ρ else .bad
  | _ => .bad
def rngC (lo c : Int) (n : Nat) : List D := (List.range n).map fun i => D.int (lo + (i : Nat) * c)
/-- range(i, j, -1) -/
def mRange3 (f : M (List OV)) : M (List D) := f.bind fun os => fun ρ => match ovs ρ os with
  | some [.int i, .int j, .int c] => if (rng1Ok i && rng1Ok j && decide (c = -1)) = true then .ok (rngC i (-1) (i - j).toNat) ρ else .bad
  | _ => .bad
theorem si_range1 {tg a : Expr} {f : M (List OV)} {p pos : Pos} (hg : Gl X "range") (hm : X.mg "range" = none) (ha : SOs X B W [a] f) (hs : starEach [a] X.env = [(false, eval a X.env)]) : SI X B W tg (.Call (.Name "range" p) [a] [] pos) (mRange1 f) :=
  pi_mono (pi_range1 hg hm ha hs) fun σ H R ⟨F, ρ, h⟩ => h.go fun vs H1 F1 ρ1 os s1 r1 h1 => by
    have nb := h1.nobad
    cases e1 : ovs ρ1 os with
    | none => exact absurd (by simp only [e1]) nb
    | some ds =>
      have rr := ROs.read h1.sim r1 e1
      match ds, e1, rr with
      | [.int j], e1, rr =>
        by_cases c : rng1Ok j = true
        · obtain ⟨v, rfl, q⟩ := reps1 rr
          cases q.int
          obtain ⟨c1, c2⟩ := of_decide_eq_true c
          exact ⟨j, rfl, c1, c2, h1.fin (by simp only [e1, if_pos c]) h1.sim (Same.refl _) j_rng⟩
        · exact absurd (by simp only [e1, if_neg c]) nb
      | [], e1, _ => exact absurd (by simp only [e1]) nb
      | .int _ :: _ :: _, e1, _ => exact absurd (by simp only [e1]) nb
      | .non :: _, e1, _ => exact absurd (by simp only [e1]) nb
      | .bl _ :: _, e1, _ => exact absurd (by simp only [e1]) nb
      | .str _ :: _, e1, _ => exact absurd (by simp only [e1]) nb
      | .lst _ :: _, e1, _ => exact absurd (by simp only [e1]) nb
      | .rol _ :: _, e1, _ => exact absurd (by simp only [e1]) nb
      | .tup _ :: _, e1, _ => exact absurd (by simp only [e1]) nb
      | .dct _ :: _, e1, _ => exact absurd (by simp only [e1]) nb
      | .dtt _ :: _, e1, _ => exact absurd (by simp only [e1]) nb
      | .obj _ _ :: _, e1, _ => exact absurd (by simp only [e1]) nb
theorem match2 {α : Type} {o : Option (List D)} {ρ : Env} {k : Int → Int → Out α} (h : (match o with
  | some [.int i, .int j] => k i j
  | _ => .bad) ≠ .bad) : ∃ i j, o = some [.int i, .int j] := by
  split at h
  · exact ⟨_, _, rfl⟩
  · exact absurd rfl h
theorem match3 {α : Type} {o : Option (List D)} {ρ : Env} {k : Int → Int → Int → Out α} (h : (match o with
  | some [.int i, .int j, .int c] => k i j c
  | _ => .bad) ≠ .bad) : ∃ i j c, o = some [.int i, .int j, .int c] := by
  split at h
  · exact ⟨_, _, _, rfl⟩
  · exact absurd rfl h
theorem si_range2 {tg a b : Expr} {f : M (List OV)} {p pos : Pos} (hg : Gl X "range") (hm : X.mg "range" = none) (ha : SOs X B W [a, b] f) (hs : starEach [a, b] X.env = [(false, eval a X.env), (false, eval b X.env)]) (hs2 : starEach [b] X.env = [(false, eval b X.env)]) :
    SI X B W tg (.Call (.Name "range" p) [a, b] [] pos) (mRange2 f) :=
  pi_mono (pi_range2 hg hm ha hs hs2) fun σ H R ⟨F, ρ, h⟩ => h.go fun vs H1 F1 ρ1 os s1 r1 h1 => by
    obtain ⟨i, j, e1⟩ := match2 (ρ := ρ1) h1.nobad
    have rr := ROs.read h1.sim r1 e1
    by_cases c : (rng1Ok i && rng1Ok j) = true
    · obtain ⟨v, w, rfl, q1, q2⟩ := reps2 rr
      cases q1.int
      cases q2.int
      have c' := c
      rw [Bool.and_eq_true] at c'
      obtain ⟨c1, c2⟩ := of_decide_eq_true c'.1
      obtain ⟨c3, c4⟩ := of_decide_eq_true c'.2
      exact ⟨i, j, rfl, ⟨c1, c2, c3, c4⟩, h1.fin (by simp only [e1, if_pos c]) h1.sim (Same.refl _) j_rng⟩
    · exact absurd (by simp only [e1, if_neg c]) h1.nobad
theorem j_rngC {F : Hp} {lo c : Int} {n : Nat} : JOk X (Itc lo c n) F (rngC lo c n) := fun i H F' s1 s2 => by
  unfold rngC
  refine ⟨fun hl => by show n ≤ i; simpa using hl, fun d e => ?_⟩
  rw [List.getElem?_map] at e
  obtain ⟨k, e1, rfl⟩ := map_some e
  have hi : i < n := by
    have := (List.getElem?_eq_some_iff.mp e1).1
    simpa using this
  rw [List.getElem?_range hi] at e1
  cases e1
  refine ⟨hi, fun x H' ⟨e2, e3⟩ => ?_⟩
  subst e2
  subst e3
  exact ⟨F', Grow.refl s2, by simp only [Rep]⟩
theorem si_range3 {tg a b c : Expr} {f : M (List OV)} {p pos : Pos} (hi : PI X tg (.Call (.Name "range" p) [a, b, c] [] pos) (iRng3 (tG X B W (RL X) f))) : SI X B W tg (.Call (.Name "range" p) [a, b, c] [] pos) (mRange3 f) :=
  pi_mono hi fun σ H R ⟨F, ρ, h⟩ => h.go fun vs H1 F1 ρ1 os s1 r1 h1 => by
    obtain ⟨i, j, k, e1⟩ := match3 (ρ := ρ1) h1.nobad
    have rr := ROs.read h1.sim r1 e1
    by_cases c : (rng1Ok i && rng1Ok j && decide (k = -1)) = true
    · obtain ⟨v, w, u, rfl, q1, q2, q3⟩ := reps3 rr
      cases q1.int
      cases q2.int
      cases q3.int
      have c' := c
      rw [Bool.and_eq_true, Bool.and_eq_true] at c'
      obtain ⟨c1, c2⟩ := of_decide_eq_true c'.1.1
      obtain ⟨c3, c4⟩ := of_decide_eq_true c'.1.2
      have ek := of_decide_eq_true c'.2
      subst ek
      exact ⟨i, j, -1, (i - j).toNat, rfl, RgC.neg c1 c2 c3 c4, h1.fin (a := rngC i (-1) (i - j).toNat) (by simp only [e1]; exact if_pos c) h1.sim (Same.refl _) j_rngC⟩
    · exact absurd (by simp only [e1, if_neg c]) h1.nobad
end
end DL

namespace DL
open PySem PySem.Spec PyProof.Rows L2

/-! ### a list of one's own is changed: append, pop, reverse, extend, xs[i] = v -/
abbrev OpM := D → List D → Option (D × D)
/-- the slot's object changes -/
def Sl.upd (s : Sl) (d : D) : Sl := match s with
  | .own _ => .own d
  | .io _ => .io d
  | s => s
def Sl.obj : Sl → Option D
  | .own d => some d
  | .io d => some d
  | _ => none
def mMut (i : Nat) (op : OpM) (args : M (List D)) : M D := fun ρ => match ρ[i]?.bind Sl.obj with
  | none => .bad
  | some _ => (args.bind fun ds => fun ρ => match ρ[i]? with
    | some s => match s.obj with
      | some d => match op d ds with
        | some r => .ok r.2 (ρ.set i (s.upd r.1))
        | none => .bad
      | none => .bad
    | none => .bad) ρ
def rMut (X : Cx) (op : OpM) : V → List V → Hp → VK → Prop := fun x xs H Q => ∃ F a d ds r, x = .ref a ∧ Same F H ∧ F a = none ∧ Own X.K X.mg F (H a) d ∧ RepL X.K X.mg F ds xs ∧ op d ds = some r ∧
  ∀ u z, Own X.K X.mg F (some u) r.1 → Rep X.K X.mg F r.2 z → Q z (upd H a u)
section
variable {X : Cx} {B : Bd} {W : WX}
theorem Sim.mine_at {K : PySem.W.Frag} {mg : Str → Option Value} {σ : St} {H F : Hp} {ρ : Env} {i : Nat} {s : Sl} {d : D} (S : Sim K mg B σ H F ρ) (e : ρ[i]? = some s) (o : s.obj = some d) :
    ∃ a, σ[i]? = some (some (.ref a)) ∧ F a = none ∧ Own K mg F (H a) d ∧ (B.H0 a = none ∨ (i, a) ∈ B.io) ∧ s.mine = true := by
  have q := S.slot i s e
  cases s with
  | own d' => cases o; obtain ⟨a, h1, h2, h3, h4⟩ := q; exact ⟨a, h1, h2, h4, .inl h3, rfl⟩
  | io d' => cases o; obtain ⟨a, h1, h2, h3, h4⟩ := q; exact ⟨a, h1, h2, h4, .inr h3, rfl⟩
  | un => cases o
  | val _ => cases o
theorem Sim.change {K : PySem.W.Frag} {mg : Str → Option Value} {σ : St} {H F : Hp} {ρ : Env} {i : Nat} {s : Sl} {d d' : D} {a : Addr} {u : HO} (S : Sim K mg B σ H F ρ) (e : ρ[i]? = some s) (o : s.obj = some d) (ha : σ[i]? = some (some (.ref a)))
    (hu : Own K mg F (some u) d') : Sim K mg B σ (upd H a u) F (ρ.set i (s.upd d')) := by
  obtain ⟨a', h1, h2, h3, h4, h5⟩ := S.mine_at e o
  rw [ha] at h1
  cases h1
  have hi : i < ρ.length := (List.getElem?_eq_some_iff.mp e).1
  have hm : (s.upd d').mine = true := by cases s <;> first | rfl | cases o
  refine ⟨fun b x q => ?_, by rw [List.length_set]; exact S.len, fun j t q => ?_, fun j k t t' b q1 q2 m1 m2 e1 e2 => ?_, fun p hp => ?_, fun b x q n => ?_, S.keepF, fun b q => ?_⟩
  · rw [upd_ne (ne_of_none q h2)]; exact S.sub b x q
  · by_cases hj : i = j
    · subst hj
      rw [List.getElem?_set_self hi] at q
      cases q
      have r := S.slot i s e
      cases s with
      | own _ => obtain ⟨b, r1, r2, r3, r4⟩ := r; rw [ha] at r1; cases r1; exact ⟨a, ha, h2, r3, by rw [upd_same]; exact hu⟩
      | io _ => obtain ⟨b, r1, r2, r3, r4⟩ := r; rw [ha] at r1; cases r1; exact ⟨a, ha, h2, r3, by rw [upd_same]; exact hu⟩
      | un => cases o
      | val _ => cases o
    · rw [List.getElem?_set_ne hj] at q
      have r := S.slot j t q
      cases t with
      | un => trivial
      | val _ => exact r
      | own _ =>
        obtain ⟨b, r1, r2, r3, r4⟩ := r
        have : b ≠ a := fun z => hj (S.sep i j s _ a e q h5 rfl ha (by rw [← z]; exact r1))
        exact ⟨b, r1, r2, r3, by rw [upd_ne this]; exact r4⟩
      | io _ =>
        obtain ⟨b, r1, r2, r3, r4⟩ := r
        have : b ≠ a := fun z => hj (S.sep i j s _ a e q h5 rfl ha (by rw [← z]; exact r1))
        exact ⟨b, r1, r2, r3, by rw [upd_ne this]; exact r4⟩
  · have key : ∀ {j : Nat} {t : Sl}, (ρ.set i (s.upd d'))[j]? = some t → t.mine = true → ∃ t', ρ[j]? = some t' ∧ t'.mine = true := fun {j t} q m => by
      by_cases hj : i = j
      · subst hj; exact ⟨s, e, h5⟩
      · rw [List.getElem?_set_ne hj] at q; exact ⟨t, q, m⟩
    obtain ⟨t1, w1, w2⟩ := key q1 m1
    obtain ⟨t2, w3, w4⟩ := key q2 m2
    exact S.sep j k t1 t2 b w1 w3 w2 w4 e1 e2
  · obtain ⟨d2, q1, q2⟩ := S.ios p hp
    by_cases hj : i = p.1
    · rw [← hj, e] at q1
      cases q1
      exact ⟨d', by rw [← hj, List.getElem?_set_self hi]; rfl, q2⟩
    · exact ⟨d2, by rw [List.getElem?_set_ne hj]; exact q1, q2⟩
  · have : b ≠ a := fun z => by
      rcases h4 with z' | z'
      · rw [← z, q] at z'; cases z'
      · exact n i (by rw [z]; exact z')
    rw [upd_ne this]; exact S.keepH b x q n
  · by_cases hb : b = a
    · rw [hb, upd_same]; exact fun z => nomatch z
    · rw [upd_ne hb]; exact S.there b q
def isLst : D → Bool
  | .lst _ => true
  | _ => false
theorem own_tyL {H F : Hp} {a : Addr} {d : D} (h : Own X.K X.mg F (H a) d) (l : isLst d = true) : tyV X.K "list" (.ref a) H := by
  cases d with
  | lst ds => obtain ⟨vs, h1, h2⟩ := h; exact .inl ⟨rfl, vs, SqL.of h1⟩
  | _ => cases l
/-- the lists alone have these methods -/
def OpM.lists (op : OpM) : OpM := fun d ds => if isLst d = true then op d ds else none
def mMutL (i : Nat) (op : OpM) (args : M (List D)) : M D := fun ρ => match ρ[i]?.bind Sl.obj with
  | some (.lst _) => mMut i op args ρ
  | _ => .bad
theorem bind_obj {ρ : Env} {i : Nat} {d : D} (h : ρ[i]?.bind Sl.obj = some d) : ∃ s, ρ[i]? = some s ∧ s.obj = some d := by
  cases e : ρ[i]? with
  | none => rw [e] at h; cases h
  | some s => rw [e] at h; exact ⟨s, rfl, h⟩
theorem mut_read {i : Nat} {op : OpM} {args : M (List D)} {F : Hp} {ρ : Env} {σ : St} {H : Hp} {Q : V → Hp → Prop} (h : At X B W (RE X) (mMutL i op args) F ρ σ H Q) :
    ∃ a, σ[i]? = some (some (.ref a)) ∧ tyV X.K "list" (.ref a) H ∧ tG X B W (RDs X) args σ H (fun xs H2 => rMut X op (.ref a) xs H2 Q) := by
  have nb := h.nobad
  have p := h.post
  unfold mMutL at nb p
  cases e1 : ρ[i]?.bind Sl.obj with
  | none => rw [e1] at p; exact p.elim
  | some d0 =>
    cases d0 with
    | lst ds0 =>
      rw [e1] at p
      obtain ⟨s, q1, q2⟩ := bind_obj e1
      obtain ⟨a, h1, h2, h3, h4, h5⟩ := h.sim.mine_at q1 q2
      refine ⟨a, h1, own_tyL h3 rfl, ?_⟩
      have p' : Post X B W (RE X) F σ Q (mMut i op args ρ) := p
      unfold mMut at p'
      rw [e1] at p'
      have h' : At X B W (RE X) (args.bind fun ds => fun ρ => match ρ[i]? with
        | some s => match s.obj with
          | some d => match op d ds with
            | some r => .ok r.2 (ρ.set i (s.upd r.1))
            | none => .bad
          | none => .bad
        | none => .bad) F ρ σ H Q := ⟨h.sim, p'⟩
      refine h'.go fun xs H1 F1 ρ1 ds s1 r1 hh => ?_
      have nb1 := hh.nobad
      cases e2 : ρ1[i]? with
      | none => exact absurd (by simp only [e2]) nb1
      | some s2 =>
        cases e3 : s2.obj with
        | none => exact absurd (by simp only [e2, e3]) nb1
        | some d =>
          cases e4 : op d ds with
          | none => exact absurd (by simp only [e2, e3, e4]) nb1
          | some r =>
            obtain ⟨a', k1, k2, k3, k4, k5⟩ := hh.sim.mine_at e2 e3
            rw [h1] at k1
            cases k1
            refine ⟨F1, a, d, ds, r, rfl, hh.sim.sub, k2, k3, r1, e4, fun u z hu hz => ?_⟩
            exact hh.fin (by simp only [e2, e3, e4]) (hh.sim.change e2 e3 h1 hu) (Same.refl _) hz
    | _ => rw [e1] at p; exact p.elim
theorem se_mutL {i : Nat} {op : OpM} {name : Str} {id : String} {o e : Expr} {es : List Expr} {f : M (List D)} {apos cpos : Pos} (slot : Slot "list" name id) (hty : typeOf (.builtin id) = pure (.type "method_descriptor")) (hm : MtR X id (rMut X op)) (ho : PE X o (tVar i)) (ha : SDs X B W (e :: es) f)
    (hbase : attributeBase o name X.env (eval o X.env) = eval o X.env)
    (hfew : ((backTo cpos (starEach (e :: es) X.env)).all (fun x => !x.1) && (backToKw cpos (keywordEach [] X.env)).all (fun x => x.1.isSome)
      && decide ((e :: es).length + ([] : List Keyword).length + (if ([] : List Keyword).isEmpty then 0 else 1) < 30)) = true)
    (hline : (apos.endLine == cpos.line) = true) (hs : starEach (e :: es) X.env = (false, eval e X.env) :: starEach es X.env) (hplain : (backTo cpos (starEach es X.env)).any (·.1) = false) :
    SE X B W (.Call (.Attribute o name apos) (e :: es) [] cpos) (mMutL i op f) :=
  pe_mono (pe_bm PySem.F.plainAttrs_list slot hty hm ho ha hbase hfew hline hs hplain) fun σ H Q ⟨F, ρ, h⟩ => by
    obtain ⟨a, h1, h2, h3⟩ := mut_read h
    exact ⟨.ref a, h1, h2, h3⟩
theorem se_mutL0 {i : Nat} {op : OpM} {name : Str} {id : String} {o : Expr} {apos cpos : Pos} (slot : Slot "list" name id) (hty : typeOf (.builtin id) = pure (.type "method_descriptor")) (hm : MtR X id (rMut X op)) (ho : PE X o (tVar i))
    (hbase : attributeBase o name X.env (eval o X.env) = eval o X.env) (hline : (apos.endLine == cpos.line) = true) :
    SE X B W (.Call (.Attribute o name apos) [] [] cpos) (mMutL i op mNil) :=
  pe_mono (pe_bm0 PySem.F.plainAttrs_list slot hty hm ho hbase hline) fun σ H Q ⟨F, ρ, h⟩ => by
    obtain ⟨a, h1, h2, F', ρ', h3⟩ := mut_read h
    exact ⟨.ref a, h1, h2, h3.fin (v := []) rfl h3.sim (Same.refl _) (show RDs X _ _ _ _ _ _ from RepL.nil)⟩
def opAppend : OpM
  | .lst xs, [d] => if xs.length < sizeLine then some (.lst (xs ++ [d]), .non) else none
  | _, _ => none
def opReverse : OpM
  | .lst xs, [] => some (.lst xs.reverse, .non)
  | _, _ => none
def opPop : OpM
  | .lst xs, [] => match xs.getLast? with
    | some d => some (.lst xs.dropLast, d)
    | none => none
  | _, _ => none
def opPopAt : OpM
  | .lst xs, [.int i] => if 0 ≤ i ∧ i < xs.length then match xs[i.toNat]? with
    | some d => some (.lst (xs.eraseIdx i.toNat), d)
    | none => none else none
  | _, _ => none
def opExtend : OpM
  | .lst xs, [.lst ys] => if xs.length + ys.length ≤ sizeLine then some (.lst (xs ++ ys), .non) else none
  | .lst xs, [.tup ys] => if xs.length + ys.length ≤ sizeLine then some (.lst (xs ++ ys), .non) else none
  | _, _ => none
theorem repL_one {K : PySem.W.Frag} {mg : Str → Option Value} {F : Hp} {d : D} {vs : List V} (h : RepL K mg F [d] vs) : ∃ v, vs = [v] ∧ Rep K mg F d v := by
  simp only [RepL] at h
  obtain ⟨v, r, rfl, h1, h2⟩ := h
  exact ⟨v, by rw [h2], h1⟩
theorem om_append : MtR X "list.append" (rMut X opAppend) := by
  intro pins s σ H x xs v us Q I rx rxs ⟨F, a, d, ds, r, ex, sub, hF, ho, hr, e, k⟩
  subst ex
  cases d with
  | lst ys =>
    match ds, e, hr with
    | [d], e, hr =>
      have e' : (if ys.length < sizeLine then some (D.lst (ys ++ [d]), D.non) else none) = some r := e
      split at e'
      · rename_i hl
        cases e'
        obtain ⟨vs, h1, h2⟩ := ho
        obtain ⟨w, rfl, h3⟩ := repL_one hr
        exact mt_append pins s σ H _ _ v us Q I rx rxs ⟨a, vs, w, rfl, rfl, h1, by rw [← h2.length]; exact hl, k _ _ ⟨_, rfl, h2.append (RepL.one h3)⟩ (by simp only [Rep])⟩
      · cases e'
  | _ => cases ds <;> cases e
theorem om_reverse : MtR X "list.reverse" (rMut X opReverse) := by
  intro pins s σ H x xs v us Q I rx rxs ⟨F, a, d, ds, r, ex, sub, hF, ho, hr, e, k⟩
  subst ex
  cases d with
  | lst ys =>
    match ds, e, hr with
    | [], e, hr =>
      cases e
      obtain ⟨vs, h1, h2⟩ := ho
      simp only [RepL] at hr
      exact mt_reverse pins s σ H _ _ v us Q I rx rxs ⟨a, vs, rfl, hr, h1, k _ _ ⟨_, rfl, h2.reverse⟩ (by simp only [Rep])⟩
  | _ => cases ds <;> cases e
theorem repL_last {K : PySem.W.Frag} {mg : Str → Option Value} {F : Hp} {ds : List D} {vs : List V} {d : D} (h : RepL K mg F ds vs) (e : ds.getLast? = some d) : ∃ v, vs[vs.length - 1]? = some v ∧ Rep K mg F d v := by
  rw [List.getLast?_eq_getElem?, h.length] at e
  exact RepL.get h e
theorem repL_dropLast {K : PySem.W.Frag} {mg : Str → Option Value} {F : Hp} {ds : List D} {vs : List V} (h : RepL K mg F ds vs) : RepL K mg F ds.dropLast vs.dropLast := by
  rw [List.dropLast_eq_take, List.dropLast_eq_take, h.length]
  exact RepL.take _ h
theorem om_pop : MtR X "list.pop" (rMut X opPop) := by
  intro pins s σ H x xs v us Q I rx rxs ⟨F, a, d, ds, r, ex, sub, hF, ho, hr, e, k⟩
  subst ex
  cases d with
  | lst ys =>
    match ds, e, hr with
    | [], e, hr =>
      have e' : (match ys.getLast? with
        | some d => some (D.lst ys.dropLast, d)
        | none => none) = some r := e
      cases q : ys.getLast? with
      | none => rw [q] at e'; cases e'
      | some d =>
        rw [q] at e'
        cases e'
        obtain ⟨vs, h1, h2⟩ := ho
        simp only [RepL] at hr
        obtain ⟨w, h3, h4⟩ := repL_last h2 q
        exact mt_pop pins s σ H _ _ v us Q I rx rxs ⟨a, vs, w, rfl, hr, h1, h3, k _ _ ⟨_, rfl, repL_dropLast h2⟩ h4⟩
  | _ => cases ds <;> cases e
theorem repL_erase {K : PySem.W.Frag} {mg : Str → Option Value} {F : Hp} : ∀ {ds : List D} {vs : List V} (i : Nat), RepL K mg F ds vs → RepL K mg F (ds.eraseIdx i) (vs.eraseIdx i)
  | [], _, i, h => by simp only [RepL] at h; subst h; simpa using RepL.nil
  | d :: ds, _, 0, h => by
    simp only [RepL] at h
    obtain ⟨v, r, rfl, h1, h2⟩ := h
    simpa using h2
  | d :: ds, _, i + 1, h => by
    simp only [RepL] at h
    obtain ⟨v, r, rfl, h1, h2⟩ := h
    simpa using RepL.cons h1 (repL_erase i h2)
theorem om_popAt : MtR X "list.pop" (rMut X opPopAt) := by
  intro pins s σ H x xs v us Q I rx rxs ⟨F, a, d, ds, r, ex, sub, hF, ho, hr, e, k⟩
  subst ex
  cases d with
  | lst ys =>
    match ds, e, hr with
    | [.int i], e, hr =>
      have e' : (if 0 ≤ i ∧ i < ys.length then match ys[i.toNat]? with
        | some d => some (D.lst (ys.eraseIdx i.toNat), d)
        | none => none else none) = some r := e
      split at e'
      · rename_i hi
        cases q : ys[i.toNat]? with
        | none => rw [q] at e'; cases e'
        | some d =>
          rw [q] at e'
          cases e'
          obtain ⟨vs, h1, h2⟩ := ho
          obtain ⟨w0, rfl, h3⟩ := repL_one hr
          simp only [Rep] at h3
          subst h3
          obtain ⟨w, h4, h5⟩ := RepL.get h2 q
          have hl := h2.length
          have hz := (I.lst h1)
          obtain ⟨_, _, _, _, hz⟩ := hz
          have hn := line63
          refine mt_popAt pins s σ H _ _ v us Q I rx rxs ⟨a, vs, i, i.toNat, w, rfl, rfl, h1, by omega, by omega, ?_, h4, k _ _ ⟨_, rfl, repL_erase _ h2⟩ h5⟩
          exact seqIndex_of hi.1 (by omega)
      · cases e'
  | _ => cases ds <;> cases e
theorem extend_tup (l : Addr) (items : Array Value) (n : Nat) (b : Addr) (items2 : Array Value) (n2 : Nat) (dd : Option Addr) (sl : Array (Option Value)) (hs0 : ¬(!items.isEmpty && Builtin.List.listTooLong (items.size + items2.size)) = true) (hs1 : items.size ≤ sizeLine) (hs2 : items.size + items2.size ≤ sizeLine + 1) :
    Meets (Builtin.«list.extend» ⟨[.ref l, .ref b], []⟩) (fun _ R s => s.heap.get? l = some { cls := .type "list", dict := none, data := .seq items n, slots := #[] } ∧ s.heap.get? b = some { cls := .type "tuple", dict := dd, data := .seq items2 n2, slots := sl } ∧ R (.ok (.ret Value.none)) { s with heap := s.heap.update l (Obj.mapSeq fun x => x ++ items2), toks := s.toks }) :=
  .of_wp fun prog w A R s h => by
    obtain ⟨hp, g, d, tk, os⟩ := s; obtain ⟨hl, hb, h⟩ := h; have f1 := PySem.AutoSeq1.idx_int; have f2 := sub_tuple_tuple; have f3 := sub_list_list; have f4 := sub_tuple_list; have f5 := sub_list_tuple;
    have hz' : (items ++ items2).size ≤ sizeLine + 1 := by rw [Array.size_append]; exact hs2
    wp_walk using (wpAny_updateSeq hl rfl (hz := hs1) (_hz' := hz')), wpAny_loadPart' hl, wpAny_loadPart' hb; exact ⟨_, rfl, h⟩
def rExtendT (X : Cx) : V → List V → Hp → VK → Prop := fun x vs H Q => ∃ l b xs zs, x = .ref l ∧ vs = [.ref b] ∧ H l = some (.lst xs) ∧ SqT X.K H b zs ∧ xs.length + zs.length ≤ sizeLine ∧ Q .non (upd H l (.lst (xs ++ zs)))
theorem mt_extendT : MtM X "list.extend" (rExtendT X) := by
  intro pins s σ H x vs v us Q I rx rv h
  obtain ⟨l, b, xs, zs, rfl, rfl, hH, hB, hz, q⟩ := h
  cases rx
  obtain ⟨u, rfl, ru⟩ := rv.one
  cases ru
  obtain ⟨z, its, n, r, hl, e⟩ := I.lstM hH
  obtain ⟨its2, r2, ⟨o2, e2, hc2, n2, hd2⟩, z2⟩ := I.tuple hB
  have hl2 := r2.length
  have e2' : s.heap.get? b = some { cls := .type "tuple", dict := o2.dict, data := .seq its2.toArray n2, slots := o2.slots } := by
    rw [e2]
    cases o2
    simp only at hc2 hd2 ⊢
    rw [hc2, hd2]
  have hsz : its.toArray.size + its2.toArray.size ≤ sizeLine := by rw [List.size_toArray, List.size_toArray]; omega
  have hlong : ¬ (!its.toArray.isEmpty && Builtin.List.listTooLong (its.toArray.size + its2.toArray.size)) = true := by
    rw [notLongL hsz, Bool.and_false]
    exact Bool.false_ne_true
  refine call_meets PySem.F.slot_list_extend ⟨_, e, rfl⟩ PySem.F.entry_list_extend (PySem.F.args_list_extend_2 _ _)
    (extend_tup l its.toArray n b its2.toArray n2 o2.dict o2.slots hlong (by rw [List.size_toArray]; omega) (by omega)) ⟨e, e2', ?_⟩
  refine ⟨.non, _, I.lset (its' := its ++ its2) hH e (by simp) (r.append r2) ?_, rfl, q⟩
  rw [List.length_append]
  omega
theorem om_extend : MtR X "list.extend" (rMut X opExtend) := by
  intro pins s σ H x xs v us Q I rx rxs ⟨F, a, d, ds, r, ex, sub, hF, ho, hr, e, k⟩
  subst ex
  cases d with
  | lst ys =>
    match ds, e, hr with
    | [.lst zs], e, hr =>
      have e' : (if ys.length + zs.length ≤ sizeLine then some (D.lst (ys ++ zs), D.non) else none) = some r := e
      split at e'
      · rename_i hl
        cases e'
        obtain ⟨vs, h1, h2⟩ := ho
        obtain ⟨w, rfl, h3⟩ := repL_one hr
        simp only [Rep] at h3
        obtain ⟨b, ws, rfl, h4, h5⟩ := h3
        rw [h2.length, h5.length] at hl
        exact mt_extend pins s σ H _ _ v us Q I rx rxs ⟨a, b, vs, ws, rfl, rfl, h1, sub _ _ h4, hl, k _ _ ⟨_, rfl, h2.append h5⟩ (by simp only [Rep])⟩
      · cases e'
    | [.tup zs], e, hr =>
      have e' : (if ys.length + zs.length ≤ sizeLine then some (D.lst (ys ++ zs), D.non) else none) = some r := e
      split at e'
      · rename_i hl
        cases e'
        obtain ⟨vs, h1, h2⟩ := ho
        obtain ⟨w, rfl, h3⟩ := repL_one hr
        simp only [Rep] at h3
        obtain ⟨b, ws, rfl, h4, h5⟩ := h3
        rw [h2.length, h5.length] at hl
        exact mt_extendT pins s σ H _ _ v us Q I rx rxs ⟨a, b, vs, ws, rfl, rfl, h1, same_SqT sub h4, hl, k _ _ ⟨_, rfl, h2.append h5⟩ (by simp only [Rep])⟩
      · cases e'
  | _ => cases ds <;> cases e

/-! ### xs[i] = v -/
def mStore (k : Nat) (idx : M OV) (val : M D) : M Fl := val.bind fun d => fun ρ => match ρ[k]?.bind Sl.obj with
  | none => .bad
  | some _ => (idx.bind fun o => fun ρ => match ρ[k]?, o.get ρ with
    | some s, some (.int i) => match s.obj with
      | some (.lst xs) => match ixN xs.length i with
        | some j => .ok .next (ρ.set k (s.upd (.lst (xs.set j d))))
        | none => .bad
      | _ => .bad
    | _, _ => .bad) ρ
theorem ss_store {k : Nat} {o i e : Expr} {fi : M OV} {fe : M D} {tpos pos : Pos} (he : SE X B W e fe) (ho : PE X o (tVar k)) (hi : SO X B W i fi)
    (ha : ∀ v, assign (.Subscript o i tpos) X.env v = (do
      let ov ← holding [v] (eval o X.env)
      let iv ← holding [v, ov] (eval i X.env)
      standAt tpos
      holding [v, ov, iv] (setItem ov iv v)
      release [v, ov, iv] []))
    (hs : swapsWithSole [.Subscript o i tpos] e pos.line X.env = pure false) (hw : swappedStores [.Subscript o i tpos] e X.env = pure none)
    (h1 : (assignEach [.Subscript o i tpos] X.env).map (·.2) = [assign (.Subscript o i tpos) X.env]) : SS X B W (.Assign [.Subscript o i tpos] e pos) (mStore k fi fe) :=
  ps_mono (ps_asg he (pg_sub ho hi set_list ha) hs hw h1) fun D σ H ⟨F, ρ, S, p⟩ => At.goS S p fun v H1 F1 ρ1 d s1 S1 r1 p1 => by
    cases e1 : ρ1[k]?.bind Sl.obj with
    | none => rw [e1] at p1; exact p1.elim
    | some d0 =>
      rw [e1] at p1
      obtain ⟨s, q1, q2⟩ := bind_obj e1
      obtain ⟨a, h1, h2, h3, h4, h5⟩ := S1.mine_at q1 q2
      refine ⟨.ref a, h1, At.goS S1 p1 fun w H2 F2 ρ2 ow s2 S2 r2 p2 => ?_⟩
      cases e2 : ρ2[k]? with
      | none => rw [e2] at p2; exact p2.elim
      | some s3 =>
        rw [e2] at p2
        cases e3 : ow.get ρ2 with
        | none => rw [e3] at p2; exact p2.elim
        | some di =>
          rw [e3] at p2
          cases di with
          | int i' =>
            cases e4 : s3.obj with
            | none => simp only [e4] at p2; exact p2.elim
            | some d3 =>
              cases d3 with
              | lst xs =>
                simp only [e4] at p2
                cases e5 : ixN xs.length i' with
                | none => rw [e5] at p2; exact p2.elim
                | some j =>
                  rw [e5] at p2
                  obtain ⟨a', k1, k2, ⟨vs, k3, k3'⟩, k4, k5⟩ := S2.mine_at e2 e4
                  rw [h1] at k1
                  cases k1
                  refine ⟨a, vs, i', j, rfl, (r2.read S2 e3).int, k3, by rw [← k3'.length]; exact e5, ?_⟩
                  exact p2 _ _ F2 (S2.change e2 e4 h1 ⟨_, rfl, RepL.set j k3' (Rep.mono s2 _ _ r1)⟩) (Same.refl _)
              | _ => simp only [e4] at p2; exact p2.elim
          | _ => exact p2.elim

/-! ### x op= e -/
def rIp (X : Cx) (op : Op2) : TIp := fun x y H Q => rD2 X op x y H Q
theorem ip_of {op : Operator} {opd : Op2} (h : OpR X (inplaceOp op) (rD2 X opd)) : PIp X op (rIp X opd) := fun pins s σ H x y v u Q I r1 r2 q => h pins s σ H x y v u Q I r1 r2 q
def ints2 (g : Int → Int → Int) : Op2
  | .int i, .int j => some (.int (g i j), false)
  | _, _ => none
def opIAdd : Op2 := ints2 (· + ·)
def opISub : Op2 := ints2 (· - ·)
def opIMul : Op2
  | .int i, .int j => ifOk (mulOk i j) (.int (i * j), false)
  | _, _ => none
theorem oi_add : OpR X (inplaceOp .Add) (rD2 X opIAdd) := by
  intro pins s σ H x y v u Q I rx ry ⟨F, dx, dy, d, nw, sub, hx, hy, e, a⟩
  cases dx with
  | int i =>
    cases hx.int
    cases dy with
    | int j => cases e; cases hy.int; exact iop_add pins s σ H _ _ v u Q I rx ry ⟨i, j, rfl, rfl, ans_atom sub a fun F => by simp only [Rep]⟩
    | _ => cases e
  | _ => cases e
theorem oi_sub : OpR X (inplaceOp .Sub) (rD2 X opISub) := by
  intro pins s σ H x y v u Q I rx ry ⟨F, dx, dy, d, nw, sub, hx, hy, e, a⟩
  cases dx with
  | int i =>
    cases hx.int
    cases dy with
    | int j => cases e; cases hy.int; exact iop_sub pins s σ H _ _ v u Q I rx ry ⟨i, j, rfl, rfl, ans_atom sub a fun F => by simp only [Rep]⟩
    | _ => cases e
  | _ => cases e
theorem oi_mul : OpR X (inplaceOp .Mult) (rD2 X opIMul) := by
  intro pins s σ H x y v u Q I rx ry ⟨F, dx, dy, d, nw, sub, hx, hy, e, a⟩
  cases dx with
  | int i =>
    cases hx.int
    cases dy with
    | int j =>
      obtain ⟨c, e⟩ := ifOk_some e
      cases e
      cases hy.int
      obtain ⟨t, rfl⟩ := rx
      obtain ⟨t', rfl⟩ := ry
      exact imul_int ⟨.int (i * j), H, I.tok _, ⟨_, rfl⟩, ans_atom sub a fun F => by simp only [Rep]⟩ (mul_any c)
    | _ => cases e
  | _ => cases e
def mAug (i : Nat) (op : Op2) (f : M OV) : M Fl := fun ρ => match ρ[i]? with
  | some (.val d) => (f.bind fun o => fun ρ => match o.get ρ with
    | some d2 => match op d d2 with
      | some (r, false) => (put i (.val r)).bind (fun _ => M.ret .next) ρ
      | _ => .bad
    | none => .bad) ρ
  | _ => .bad
theorem ss_aug {i : Nat} {x : Str} {e : Expr} {op : Operator} {opd : Op2} {f : M OV} {pos' pos : Pos} (hN : X.N.Nodup) (hi : X.N[i]? = some x) (hx : Loc X.env.scope x) (he : SO X B W e f) (ho : OpR X (inplaceOp op) (rD2 X opd)) (hf : X.fn x = true ∨ X.env.scope.names.lookup x = some .local) :
    SS X B W (.AugAssign (.Name x pos') op e pos) (mAug i opd f) :=
  ps_mono (ps_aug hN hi hx he (ip_of ho) hf) fun D σ H ⟨F, ρ, S, p⟩ => by
    unfold mAug at p
    cases e0 : ρ[i]? with
    | none => rw [e0] at p; exact p.elim
    | some s =>
      rw [e0] at p
      cases s with
      | val d =>
        obtain ⟨v, h1, h2⟩ := S.slot i _ e0
        refine ⟨v, h1, At.goS S p fun w H1 F1 ρ1 o s1 S1 r1 p1 => ?_⟩
        cases e1 : o.get ρ1 with
        | none => rw [e1] at p1; exact p1.elim
        | some d2 =>
          rw [e1] at p1
          cases e2 : opd d d2 with
          | none => simp only [e2] at p1; exact p1.elim
          | some r =>
            obtain ⟨rd, nw⟩ := r
            cases nw with
            | true => simp only [e2] at p1; exact p1.elim
            | false =>
              simp only [e2] at p1
              refine ⟨F1, d, d2, rd, false, S1.sub, .inl (Rep.mono s1 _ _ h2), r1.read S1 e1, e2, fun z H2 F2 g rz => ?_⟩
              exact put_fin (S1.grow g) rz (postU_of (PostS.anti g.f p1))
      | _ => exact p.elim
end
end DL

namespace DL
open PySem PySem.Spec PyProof.Rows L2

/-! ### defs and their calls -/
abbrev Fn := List Sl → Out D
def runDef (n : Nat) (body : M Fl) : Fn := fun args => match body (args ++ List.replicate (n - args.length) .un) with
  | .ok .next ρ => .ok .non ρ
  | .ok (.ret d) ρ => .ok d ρ
  | .err c fs ρ => .err c fs ρ
  | _ => .bad
def ErrK (K : PySem.W.Frag) (mg : Str → Option Value) (H F : Hp) (c : Str) (fs : List (Str × D)) (cls : Value) (dd : Option Addr) : Prop :=
  ∃ C a fv, mg c = some (.ref C) ∧ cls = .ref C ∧ dd = some a ∧ H a = some (.xd fv) ∧ RepF K mg F fs fv
def PostF (K : PySem.W.Frag) (mg : Str → Option Value) (B : Bd) (F : Hp) (Q : VK) (E : XK) : Out D → Prop
  | .ok d ρ => ∀ σ v H' F', Sim K mg B σ H' F' ρ → Same F F' → Rep K mg F' d v → Q v H'
  | .err c fs ρ => ∀ σ cls dd H' F', Sim K mg B σ H' F' ρ → Same F F' → ErrK K mg H' F' c fs cls dd → E cls dd H'
  | .bad => False
/-- what a def promises: it does what fn says -/
def spD (K : PySem.W.Frag) (mg : Str → Option Value) (n : Nat) (fn : Fn) : Sp := fun vs H Q E =>
  vs.length = n ∧ ∃ F as io, Sim K mg ⟨H, F, io⟩ (vs.map some) H F as ∧ PostF K mg ⟨H, F, io⟩ F Q E (fn as)
/-- more slots, nothing known of them -/
theorem Sim.more {K : PySem.W.Frag} {mg : Str → Option Value} {B : Bd} {σ : St} {H F : Hp} {ρ : Env} (S : Sim K mg B σ H F ρ) (n : Nat) : Sim K mg B (σ ++ List.replicate n none) H F (ρ ++ List.replicate n .un) := by
  have key : ∀ {j : Nat} {s : Sl}, (ρ ++ List.replicate n Sl.un)[j]? = some s → s = .un ∨ (ρ[j]? = some s ∧ (σ ++ List.replicate n none)[j]? = σ[j]?) := fun {j s} q => by
    by_cases hj : j < ρ.length
    · rw [List.getElem?_append_left hj] at q
      exact .inr ⟨q, List.getElem?_append_left (by rw [← S.len]; exact hj)⟩
    · rw [List.getElem?_append_right (by omega), List.getElem?_replicate] at q
      split at q
      · cases q; exact .inl rfl
      · cases q
  refine ⟨S.sub, by rw [List.length_append, List.length_append, List.length_replicate, List.length_replicate, S.len], fun j s q => ?_, fun i j s t a q1 q2 m1 m2 e1 e2 => ?_, fun p hp => ?_, S.keepH, S.keepF, S.there⟩
  · rcases key q with rfl | ⟨q', e⟩
    · trivial
    · rw [e]; exact S.slot j s q'
  · rcases key q1 with rfl | ⟨q1', e1'⟩
    · cases m1
    · rcases key q2 with rfl | ⟨q2', e2'⟩
      · cases m2
      · exact S.sep i j s t a q1' q2' m1 m2 (by rw [← e1']; exact e1) (by rw [← e2']; exact e2)
  · obtain ⟨d, q1, q2⟩ := S.ios p hp
    have h1 : p.1 < ρ.length := (List.getElem?_eq_some_iff.mp q1).1
    exact ⟨d, by rw [List.getElem?_append_left h1]; exact q1, by rw [List.getElem?_append_left (by rw [← S.len]; exact h1)]; exact q2⟩
section
variable {P : Program} {w : World} {K : PySem.W.Frag} {mg : Str → Option Value} {base : Heap}
theorem def_ok {x qual : Str} {st : Stmt} {f : Addr} {fd : FuncData} {N ps : List Str} {k : Nat} {body : M Fl} (F : L2.Fun K x qual st f fd) (S : FnScope N ps (defScope st))
    (h : ∀ (cdv : Value) (A : Around) (outer : List PySem.Env) (s : Shared) (H : Hp) (E : XK) (B : Bd), Room k (A.deeper (envOfC qual (defScope st) s.heap.objs.size f cdv)) →
      SSs (cxOf (L2.CX P w) P w K mg base N qual (defScope st) f cdv A outer s H E) B (fun cls d _ H => E cls d H) (defBody st) body) :
    FnOk P w K mg base (L2.CX P w) (k + 1) f fd ps (spD K mg ps.length (runDef N.length body)) := by
  refine Fun.okX F S (fun vs H Q E q => q.1) fun cdv A outer s H vs Q E hr ⟨hl, F0, as, io, Si, p⟩ => ⟨_, h cdv A outer s H E ⟨H, F0, io⟩ hr, F0, as ++ List.replicate (N.length - as.length) .un, ?_, ?_⟩
  · have e : as.length = vs.length := by rw [Si.len, List.length_map]
    rw [e]
    exact Si.more (N.length - vs.length)
  · unfold runDef at p
    cases q : body (as ++ List.replicate (N.length - as.length) .un) with
    | ok r ρ =>
      rw [q] at p
      cases r with
      | next => exact fun σ H' F' S' s' => p σ .non H' F' S' s' (by simp only [Rep])
      | ret d => exact p
      | new d => exact p.elim
      | brk => exact p.elim
      | cont => exact p.elim
    | err c fs ρ =>
      rw [q] at p
      exact fun σ cls dd H' F' S' t r => p σ cls dd H' F' S' t r
    | bad => rw [q] at p; exact p.elim
end
/-- arguments: data, or lists that may be changed there -/
def mkArgs (ρ : Env) : List OV → Option (List Sl)
  | [] => some []
  | .now d :: os => (mkArgs ρ os).map (.val d :: ·)
  | .late i :: os => match ρ[i]? with
    | some s => match s.obj with
      | some d => if (os.any fun o => match o with | .late j => j == i | .now _ => false) = true then none else (mkArgs ρ os).map (.io d :: ·)
      | none => none
    | none => none
/-- what became of them -/
def backs : List OV → Env → Env → Env
  | .late i :: os, r :: rs, ρ => match r.obj, ρ[i]? with
    | some d, some s => backs os rs (ρ.set i (s.upd d))
    | _, _ => backs os rs ρ
  | .now _ :: os, _ :: rs, ρ => backs os rs ρ
  | _, _, ρ => ρ
def callOn (n : Nat) (fn : Fn) (os : List OV) : M D := fun ρ => match mkArgs ρ os with
  | some as => if as.length = n then
      match fn as with
      | .ok d ρ' => .ok d (backs os ρ' ρ)
      | .err c fs ρ' => .err c fs (backs os ρ' ρ)
      | .bad => .bad
    else .bad
  | none => .bad
def mCall (n : Nat) (fn : Fn) (args : M (List OV)) : M D := args.bind (callOn n fn)
theorem upd_upd {s : Sl} {d d' : D} : (s.upd d).upd d' = s.upd d' := by cases s <;> rfl
theorem upd_obj {s : Sl} {d e : D} (h : s.obj = some e) : (s.upd d).obj = some d := by cases s <;> first | rfl | cases h
theorem backs_at : ∀ (os : List OV) (rs ρ : Env) (j : Nat),
    (∃ (k : Nat) (d : D) (s r : Sl), os[k]? = some (OV.late j) ∧ rs[k]? = some r ∧ r.obj = some d ∧ ρ[j]? = some s ∧ (backs os rs ρ)[j]? = some (s.upd d)) ∨
    ((backs os rs ρ)[j]? = ρ[j]? ∧ ∀ (k : Nat) (r : Sl) (d : D) (s : Sl), os[k]? = some (OV.late j) → rs[k]? = some r → r.obj = some d → ρ[j]? = some s → False)
  | [], rs, ρ, j => .inr ⟨rfl, fun k r d s h => by simp at h⟩
  | o :: os, [], ρ, j => .inr ⟨by unfold backs; cases o <;> rfl, fun k r d s _ h => by simp at h⟩
  | .now d0 :: os, r0 :: rs, ρ, j => by
    rcases backs_at os rs ρ j with ⟨k, d, s, r, h1, h2, h3, h4, h5⟩ | ⟨h1, h2⟩
    · exact .inl ⟨k + 1, d, s, r, h1, h2, h3, h4, h5⟩
    · refine .inr ⟨h1, fun k r d s q1 q2 q3 q4 => ?_⟩
      cases k with
      | zero => simp at q1
      | succ k => exact h2 k r d s q1 q2 q3 q4
  | .late i :: os, r0 :: rs, ρ, j => by
    cases e1 : r0.obj with
    | none =>
      have e : backs (.late i :: os) (r0 :: rs) ρ = backs os rs ρ := by
        show (match r0.obj, ρ[i]? with
          | some d, some s => backs os rs (ρ.set i (s.upd d))
          | _, _ => backs os rs ρ) = _
        rw [e1]
      rw [e]
      rcases backs_at os rs ρ j with ⟨k, d, s, r, h1, h2, h3, h4, h5⟩ | ⟨h1, h2⟩
      · exact .inl ⟨k + 1, d, s, r, h1, h2, h3, h4, h5⟩
      · refine .inr ⟨h1, fun k r d s q1 q2 q3 q4 => ?_⟩
        cases k with
        | zero => simp at q2; rw [← q2, e1] at q3; cases q3
        | succ k => exact h2 k r d s q1 q2 q3 q4
    | some d0 =>
      cases e2 : ρ[i]? with
      | none =>
        have e : backs (.late i :: os) (r0 :: rs) ρ = backs os rs ρ := by
          show (match r0.obj, ρ[i]? with
            | some d, some s => backs os rs (ρ.set i (s.upd d))
            | _, _ => backs os rs ρ) = _
          rw [e1, e2]
        rw [e]
        rcases backs_at os rs ρ j with ⟨k, d, s, r, h1, h2, h3, h4, h5⟩ | ⟨h1, h2⟩
        · exact .inl ⟨k + 1, d, s, r, h1, h2, h3, h4, h5⟩
        · refine .inr ⟨h1, fun k r d s q1 q2 q3 q4 => ?_⟩
          cases k with
          | zero => simp at q1; rw [← q1, e2] at q4; cases q4
          | succ k => exact h2 k r d s q1 q2 q3 q4
      | some s0 =>
        have e : backs (.late i :: os) (r0 :: rs) ρ = backs os rs (ρ.set i (s0.upd d0)) := by
          show (match r0.obj, ρ[i]? with
            | some d, some s => backs os rs (ρ.set i (s.upd d))
            | _, _ => backs os rs ρ) = _
          rw [e1, e2]
        have hi : i < ρ.length := (List.getElem?_eq_some_iff.mp e2).1
        rw [e]
        rcases backs_at os rs (ρ.set i (s0.upd d0)) j with ⟨k, d, s, r, h1, h2, h3, h4, h5⟩ | ⟨h1, h2⟩
        · by_cases hj : i = j
          · subst hj
            rw [List.getElem?_set_self hi] at h4
            cases h4
            rw [upd_upd] at h5
            exact .inl ⟨k + 1, d, s0, r, h1, h2, h3, e2, h5⟩
          · rw [List.getElem?_set_ne hj] at h4
            exact .inl ⟨k + 1, d, s, r, h1, h2, h3, h4, h5⟩
        · by_cases hj : i = j
          · subst hj
            rw [List.getElem?_set_self hi] at h1
            exact .inl ⟨0, d0, s0, r0, rfl, rfl, e1, e2, h1⟩
          · rw [List.getElem?_set_ne hj] at h1
            refine .inr ⟨h1, fun k r d s q1 q2 q3 q4 => ?_⟩
            cases k with
            | zero => simp at q1; exact hj q1
            | succ k => exact h2 k r d s q1 q2 q3 (by rw [List.getElem?_set_ne hj]; exact q4)
theorem backs_len : ∀ (os : List OV) (rs ρ : Env), (backs os rs ρ).length = ρ.length
  | [], rs, ρ => rfl
  | o :: os, [], ρ => by unfold backs; cases o <;> rfl
  | .now d0 :: os, r0 :: rs, ρ => backs_len os rs ρ
  | .late i :: os, r0 :: rs, ρ => by
    show (match r0.obj, ρ[i]? with
      | some d, some s => backs os rs (ρ.set i (s.upd d))
      | _, _ => backs os rs ρ).length = _
    cases r0.obj with
    | none => exact backs_len os rs ρ
    | some d =>
      cases ρ[i]? with
      | none => exact backs_len os rs ρ
      | some s => show (backs os rs (ρ.set i (s.upd d))).length = _; rw [backs_len, List.length_set]
section
variable {X : Cx} {B : Bd} {W : WX}
/-- the arguments, place by place -/
theorem mk_at {ρ : Env} {σ : St} {F : Hp} : ∀ {os : List OV} {as : List Sl} {vs : List V}, mkArgs ρ os = some as → ROs X os vs σ F → as.length = vs.length ∧
    (∀ (k : Nat) (sl : Sl), as[k]? = some sl → (∃ (d : D) (v : V), sl = Sl.val d ∧ vs[k]? = some v ∧ Rep X.K X.mg F d v) ∨ (∃ (i : Nat) (s : Sl) (d : D) (v : V), sl = Sl.io d ∧ os[k]? = some (OV.late i) ∧ ρ[i]? = some s ∧ s.obj = some d ∧ vs[k]? = some v ∧ σ[i]? = some (some v))) ∧
    (∀ (k i : Nat), os[k]? = some (OV.late i) → ∃ (d : D) (s : Sl) (v : V), as[k]? = some (Sl.io d) ∧ ρ[i]? = some s ∧ s.obj = some d ∧ vs[k]? = some v ∧ σ[i]? = some (some v)) ∧
    (∀ (k l i : Nat), os[k]? = some (OV.late i) → os[l]? = some (OV.late i) → k = l)
  | [], as, vs, h, r => by
    cases h
    cases (show vs = [] from r)
    exact ⟨rfl, fun k sl q => by simp at q, fun k i q => by simp at q, fun k l i q => by simp at q⟩
  | .now d :: os, as, vs, h, r => by
    obtain ⟨v, vr, rfl, r1, r2⟩ := r
    have h' : (mkArgs ρ os).map (Sl.val d :: ·) = some as := h
    cases e : mkArgs ρ os with
    | none => rw [e] at h'; cases h'
    | some ar =>
      rw [e] at h'
      cases h'
      obtain ⟨g1, g2, g3, g4⟩ := mk_at e r2
      refine ⟨by simp [g1], fun k sl q => ?_, fun k i q => ?_, fun k l i q1 q2 => ?_⟩
      · cases k with
        | zero => cases q; exact .inl ⟨d, v, rfl, rfl, r1⟩
        | succ k => exact g2 k sl q
      · cases k with
        | zero => cases q
        | succ k => exact g3 k i q
      · cases k with
        | zero => cases q1
        | succ k =>
          cases l with
          | zero => cases q2
          | succ l => rw [g4 k l i q1 q2]
  | .late i :: os, as, vs, h, r => by
    obtain ⟨v, vr, rfl, r1, r2⟩ := r
    have h' : (match ρ[i]? with
      | some s => match s.obj with
        | some d => if (os.any fun o => match o with | .late j => j == i | .now _ => false) = true then none else (mkArgs ρ os).map (Sl.io d :: ·)
        | none => none
      | none => none) = some as := h
    cases e1 : ρ[i]? with
    | none => rw [e1] at h'; cases h'
    | some s =>
      cases e2 : s.obj with
      | none => simp only [e1, e2] at h'; cases h'
      | some d =>
        simp only [e1, e2] at h'
        by_cases ha : (os.any fun o => match o with | .late j => j == i | .now _ => false) = true
        · rw [if_pos ha] at h'; cases h'
        · rw [if_neg ha] at h'
          cases e : mkArgs ρ os with
          | none => rw [e] at h'; cases h'
          | some ar =>
            rw [e] at h'
            cases h'
            have hno : ∀ k : Nat, os[k]? ≠ some (OV.late i) := fun k z => ha (by
              rw [List.any_eq_true]
              exact ⟨_, List.mem_of_getElem? z, by simp⟩)
            obtain ⟨g1, g2, g3, g4⟩ := mk_at e r2
            refine ⟨by simp [g1], fun k sl q => ?_, fun k j q => ?_, fun k l j q1 q2 => ?_⟩
            · cases k with
              | zero => cases q; exact .inr ⟨i, s, d, v, rfl, rfl, e1, e2, rfl, r1⟩
              | succ k => exact g2 k sl q
            · cases k with
              | zero => cases q; exact ⟨d, s, v, rfl, e1, e2, rfl, r1⟩
              | succ k => exact g3 k j q
            · cases k with
              | zero =>
                cases q1
                cases l with
                | zero => rfl
                | succ l => exact absurd q2 (hno l)
              | succ k =>
                cases l with
                | zero => cases q2; exact absurd q1 (hno k)
                | succ l => rw [g4 k l j q1 q2]
def ioOf (as : List Sl) (vs : List V) : List (Nat × Addr) := (List.range as.length).filterMap fun k => match as[k]?, vs[k]? with
  | some (Sl.io _), some (V.ref a) => some (k, a)
  | _, _ => none
theorem mem_io {as : List Sl} {vs : List V} {k : Nat} {a : Addr} : (k, a) ∈ ioOf as vs ↔ ∃ d : D, as[k]? = some (Sl.io d) ∧ vs[k]? = some (V.ref a) := by
  unfold ioOf
  rw [List.mem_filterMap]
  refine ⟨fun ⟨j, h1, h2⟩ => ?_, fun ⟨d, h1, h2⟩ => ⟨k, List.mem_range.mpr (List.getElem?_eq_some_iff.mp h1).1, by rw [h1, h2]⟩⟩
  split at h2
  · rename_i q1 q2
    cases h2
    exact ⟨_, q1, q2⟩
  · cases h2
/-- a call: into the callee -/
theorem Sim.into {σ : St} {H F : Hp} {ρ : Env} {os : List OV} {as : List Sl} {vs : List V} (S : Sim X.K X.mg B σ H F ρ) (h : mkArgs ρ os = some as) (r : ROs X os vs σ F) :
    Sim X.K X.mg ⟨H, F, ioOf as vs⟩ (vs.map some) H F as := by
  obtain ⟨g1, g2, g3, g4⟩ := mk_at h r
  refine ⟨S.sub, by rw [List.length_map, g1], fun k sl q => ?_, fun k l s t a q1 q2 m1 m2 e1 e2 => ?_, fun p hp => ?_, fun b o e _ => e, fun b _ => rfl, fun b e => e⟩
  · rcases g2 k sl q with ⟨d, v, rfl, h1, h2⟩ | ⟨i, s, d, v, rfl, h1, h2, h3, h4, h5⟩
    · exact ⟨v, by rw [List.getElem?_map, h1]; rfl, h2⟩
    · obtain ⟨a, k1, k2, k3, _, _⟩ := S.mine_at h2 h3
      rw [h5] at k1
      cases k1
      exact ⟨a, by rw [List.getElem?_map, h4]; rfl, k2, mem_io.mpr ⟨d, q, h4⟩, k3⟩
  · rcases g2 k s q1 with ⟨d, v, rfl, _, _⟩ | ⟨i, s0, d, v, rfl, h1, h2, h3, h4, h5⟩
    · cases m1
    · rcases g2 l t q2 with ⟨d', v', rfl, _, _⟩ | ⟨j, s1, d', v', rfl, k1, k2, k3, k4, k5⟩
      · cases m2
      · rw [List.getElem?_map, h4] at e1
        rw [List.getElem?_map, k4] at e2
        cases e1
        cases e2
        obtain ⟨_, _, _, _, _, w1⟩ := S.mine_at h2 h3
        obtain ⟨_, _, _, _, _, w2⟩ := S.mine_at k2 k3
        have hij := S.sep i j s0 s1 a h2 k2 w1 w2 h5 k5
        subst hij
        exact g4 k l i h1 k1
  · obtain ⟨k, a⟩ := p
    obtain ⟨d, h1, h2⟩ := mem_io.mp hp
    exact ⟨d, h1, by rw [List.getElem?_map, h2]; rfl⟩
/-- and back -/
theorem Sim.outof {σ σ' : St} {H F H' F' : Hp} {ρ ρ' : Env} {os : List OV} {as : List Sl} {vs : List V} (S : Sim X.K X.mg B σ H F ρ) (h : mkArgs ρ os = some as) (r : ROs X os vs σ F)
    (S' : Sim X.K X.mg ⟨H, F, ioOf as vs⟩ σ' H' F' ρ') : Sim X.K X.mg B σ H' F' (backs os ρ' ρ) := by
  obtain ⟨g1, g2, g3, g4⟩ := mk_at h r
  have sm : Same F F' := fun b o e => by
    rw [S'.keepF b (by show H b ≠ none; rw [S.sub b o e]; exact fun z => nomatch z)]
    exact e
  -- where a slot's object was passed
  have passed : ∀ {b : Addr} {k : Nat}, (k, b) ∈ ioOf as vs → ∃ i s d, os[k]? = some (.late i) ∧ ρ[i]? = some s ∧ s.obj = some d ∧ σ[i]? = some (some (.ref b)) := fun {b k} hb => by
    obtain ⟨d, h1, h2⟩ := mem_io.mp hb
    rcases g2 k _ h1 with ⟨_, _, z, _, _⟩ | ⟨i, s, d', v, z, q1, q2, q3, q4, q5⟩
    · cases z
    · rw [h2] at q4
      cases q4
      exact ⟨i, s, d', q1, q2, q3, q5⟩
  have slotAt : ∀ (j : Nat) (s1 : Sl), (backs os ρ' ρ)[j]? = some s1 → ∃ s, ρ[j]? = some s ∧ s.mine = s1.mine ∧ SlotR X.K X.mg B H' F' j σ[j]? s1 := fun j s1 q => by
    rcases backs_at os ρ' ρ j with ⟨k, d, s, r0, h1, h2, h3, h4, h5⟩ | ⟨h1, h2⟩
    · rw [h5] at q
      cases q
      obtain ⟨d0, s0, v, k1, k2, k3, k4, k5⟩ := g3 k j h1
      rw [h4] at k2
      cases k2
      obtain ⟨a, w1, w2, w3, w4, w5⟩ := S.mine_at h4 k3
      rw [k5] at w1
      cases w1
      have hio : (k, a) ∈ ioOf as vs := mem_io.mpr ⟨d0, k1, k4⟩
      obtain ⟨d2, z1, z2⟩ := S'.ios _ hio
      rw [h2] at z1
      cases z1
      cases h3
      obtain ⟨a2, y1, y2, y3, y4⟩ := S'.slot k _ h2
      rw [z2] at y1
      cases y1
      have q0 := S.slot j s h4
      refine ⟨s, h4, by cases s <;> rfl, ?_⟩
      cases s with
      | un => cases k3
      | val _ => cases k3
      | own _ =>
        obtain ⟨b, u1, u2, u3, u4⟩ := q0
        rw [k5] at u1; cases u1
        exact ⟨a, k5, y2, u3, y4⟩
      | io _ =>
        obtain ⟨b, u1, u2, u3, u4⟩ := q0
        rw [k5] at u1; cases u1
        exact ⟨a, k5, y2, u3, y4⟩
    · rw [h1] at q
      refine ⟨s1, q, rfl, ?_⟩
      have q0 := S.slot j s1 q
      have hno : ∀ a, s1.mine = true → σ[j]? = some (some (.ref a)) → ∀ k, (k, a) ∉ ioOf as vs := fun a m e k hk => by
        obtain ⟨i, s, d, u1, u2, u3, u4⟩ := passed hk
        obtain ⟨_, _, _, _, _, w⟩ := S.mine_at u2 u3
        have : i = j := S.sep i j s s1 a u2 q w m u4 e
        subst this
        obtain ⟨d2, z1, z2⟩ := S'.ios _ hk
        exact h2 k _ d2 s1 u1 z1 rfl q
      cases s1 with
      | un => trivial
      | val d => obtain ⟨v, u1, u2⟩ := q0; exact ⟨v, u1, Rep.mono sm d v u2⟩
      | own d =>
        obtain ⟨a, u1, u2, u3, u4⟩ := q0
        obtain ⟨u, hu⟩ := u4.there
        refine ⟨a, u1, (S'.keepF a (by show H a ≠ none; rw [hu]; exact fun z => nomatch z)).trans u2, u3, ?_⟩
        rw [S'.keepH a u hu (hno a rfl u1), ← hu]
        exact u4.mono sm
      | io d =>
        obtain ⟨a, u1, u2, u3, u4⟩ := q0
        obtain ⟨u, hu⟩ := u4.there
        refine ⟨a, u1, (S'.keepF a (by show H a ≠ none; rw [hu]; exact fun z => nomatch z)).trans u2, u3, ?_⟩
        rw [S'.keepH a u hu (hno a rfl u1), ← hu]
        exact u4.mono sm
  refine ⟨S'.sub, by rw [backs_len]; exact S.len, fun j s1 q => (slotAt j s1 q).elim fun _ z => z.2.2, fun i j s t a q1 q2 m1 m2 e1 e2 => ?_, fun p hp => ?_, fun b o e n => ?_, fun b e => ?_, fun b e => ?_⟩
  · obtain ⟨s0, u1, u2, _⟩ := slotAt i s q1
    obtain ⟨t0, v1, v2, _⟩ := slotAt j t q2
    exact S.sep i j s0 t0 a u1 v1 (by rw [u2]; exact m1) (by rw [v2]; exact m2) e1 e2
  · obtain ⟨d, q1, q2⟩ := S.ios p hp
    rcases backs_at os ρ' ρ p.1 with ⟨k, d', s, r0, h1, h2, h3, h4, h5⟩ | ⟨h1, h2⟩
    · rw [q1] at h4
      cases h4
      exact ⟨d', h5, q2⟩
    · exact ⟨d, by rw [h1]; exact q1, q2⟩
  · refine S'.keepH b o (S.keepH b o e n) fun k hk => ?_
    obtain ⟨i, s, d, u1, u2, u3, u4⟩ := passed hk
    obtain ⟨a, w1, w2, w3, w4, w5⟩ := S.mine_at u2 u3
    rw [u4] at w1
    cases w1
    rcases w4 with w4 | w4
    · rw [w4] at e; cases e
    · exact n i w4
  · exact (S'.keepF b (S.there b e)).trans (S.keepF b e)
  · exact S'.there b (S.there b e)
theorem sp_of {fn : Fn} {n : Nat} {σ : St} {H F : Hp} {ρ : Env} {os : List OV} {vs : List V} {Q : VK} (r : ROs X os vs σ F) (h : At X B W (RE X) (callOn n fn os) F ρ σ H Q) : spD X.K X.mg n fn vs H Q (WE W σ) := by
  have p := h.post
  unfold callOn at p
  cases e1 : mkArgs ρ os with
  | none => rw [e1] at p; exact p.elim
  | some as =>
    rw [e1] at p
    by_cases hn : as.length = n
    · simp only [if_pos hn] at p
      have g1 := (mk_at e1 r).1
      refine ⟨by rw [← g1]; exact hn, F, as, ioOf as vs, h.sim.into e1 r, ?_⟩
      cases e2 : fn as with
      | ok d ρ' =>
        rw [e2] at p
        exact fun σ' v H' F' S' s' r' => p v H' F' (h.sim.outof e1 r S') s' r'
      | err c fs ρ' =>
        rw [e2] at p
        exact fun σ' cls dd H' F' S' t r' => p cls dd H' F' (h.sim.outof e1 r S') t r'
      | bad => rw [e2] at p; exact p.elim
    · simp only [if_neg hn] at p
      exact p.elim
theorem se_call {k : Nat} {f : Addr} {fd : FuncData} {ps : List Str} {fn : Fn} {n : Nat} {x : Str} {p pos : Pos} {e : Expr} {es : List Expr} {g : M (List OV)} (F : FnOk X.prog X.w X.K X.mg X.base (L2.CX X.prog X.w) k f fd ps (spD X.K X.mg n fn)) (hr : Room k X.A) (tk : Takes X W)
    (hg : Gl X x) (hm : X.mg x = some (.ref f)) (hk : PySem.W.keepIn X.K (.ref f) = true) (hb : Binds X.K fd ps []) (ha : SOs X B W (e :: es) g) 
    (hdb : (x == ("__debug__" : Str)) = false) (he : starEach (e :: es) X.env = (false, eval e X.env) :: starEach es X.env) (hpl : (backTo pos (starEach es X.env)).any (·.1) = false) :
    SE X B W (.Call (.Name x p) (e :: es) [] pos) (mCall n fn g) := by
  refine pe_mono (pe_callS F hr hg hm hk hb (fun σ => passAt tk σ) ha hdb he hpl) fun σ H Q ⟨F0, ρ, a⟩ => ?_
  refine a.go fun vs H1 F1 ρ1 os s1 r1 hh => ?_
  exact sp_of r1 hh
end
end DL

namespace DL
open PySem PySem.Spec PyProof.Rows L2

/-! ### defs that hand out something new -/
def runDefN (n : Nat) (body : M Fl) : Fn := fun args => match body (args ++ List.replicate (n - args.length) .un) with
  | .ok (.new d) ρ => .ok d ρ
  | .err c fs ρ => .err c fs ρ
  | _ => .bad
def NewK (K : PySem.W.Frag) (mg : Str → Option Value) (B : Bd) (H F : Hp) (σ : St) (ρ : Env) (d : D) (v : V) : Prop :=
  ∃ a, v = .ref a ∧ F a = none ∧ B.H0 a = none ∧ Own K mg F (H a) d ∧ ∀ (i : Nat) (s : Sl), ρ[i]? = some s → s.mine = true → σ[i]? ≠ some (some (.ref a))
def PostN (K : PySem.W.Frag) (mg : Str → Option Value) (B : Bd) (F : Hp) (Q : VK) (E : XK) : Out D → Prop
  | .ok d ρ => ∀ σ v H' F', Sim K mg B σ H' F' ρ → Same F F' → NewK K mg B H' F' σ ρ d v → Q v H'
  | .err c fs ρ => ∀ σ cls dd H' F', Sim K mg B σ H' F' ρ → Same F F' → ErrK K mg H' F' c fs cls dd → E cls dd H'
  | .bad => False
def spN (K : PySem.W.Frag) (mg : Str → Option Value) (n : Nat) (fn : Fn) : Sp := fun vs H Q E =>
  vs.length = n ∧ ∃ F as io, Sim K mg ⟨H, F, io⟩ (vs.map some) H F as ∧ PostN K mg ⟨H, F, io⟩ F Q E (fn as)
section
variable {P : Program} {w : World} {K : PySem.W.Frag} {mg : Str → Option Value} {base : Heap}
theorem def_okN {x qual : Str} {st : Stmt} {f : Addr} {fd : FuncData} {N ps : List Str} {k : Nat} {body : M Fl} (F : L2.Fun K x qual st f fd) (S : FnScope N ps (defScope st))
    (h : ∀ (cdv : Value) (A : Around) (outer : List PySem.Env) (s : Shared) (H : Hp) (E : XK) (B : Bd), Room k (A.deeper (envOfC qual (defScope st) s.heap.objs.size f cdv)) →
      SSs (cxOf (L2.CX P w) P w K mg base N qual (defScope st) f cdv A outer s H E) B (fun cls d _ H => E cls d H) (defBody st) body) :
    FnOk P w K mg base (L2.CX P w) (k + 1) f fd ps (spN K mg ps.length (runDefN N.length body)) := by
  refine Fun.okX F S (fun vs H Q E q => q.1) fun cdv A outer s H vs Q E hr ⟨hl, F0, as, io, Si, p⟩ => ⟨_, h cdv A outer s H E ⟨H, F0, io⟩ hr, F0, as ++ List.replicate (N.length - as.length) .un, ?_, ?_⟩
  · have e : as.length = vs.length := by rw [Si.len, List.length_map]
    rw [e]
    exact Si.more (N.length - vs.length)
  · unfold runDefN at p
    cases q : body (as ++ List.replicate (N.length - as.length) .un) with
    | ok r ρ =>
      rw [q] at p
      cases r with
      | next => exact p.elim
      | ret d => exact p.elim
      | new d => exact p
      | brk => exact p.elim
      | cont => exact p.elim
    | err c fs ρ =>
      rw [q] at p
      exact fun σ cls dd H' F' S' t r => p σ cls dd H' F' S' t r
    | bad => rw [q] at p; exact p.elim
end
def callOnN (n : Nat) (fn : Fn) (os : List OV) : M (D × Bool) := fun ρ => match mkArgs ρ os with
  | some as => if as.length = n then
      match fn as with
      | .ok d ρ' => .ok (d, true) (backs os ρ' ρ)
      | .err c fs ρ' => .err c fs (backs os ρ' ρ)
      | .bad => .bad
    else .bad
  | none => .bad
def mCallN (n : Nat) (fn : Fn) (args : M (List OV)) : M (D × Bool) := args.bind (callOnN n fn)
section
variable {X : Cx} {B : Bd} {W : WX}
theorem backs_mine {os : List OV} {rs ρ : Env} {j : Nat} {s1 : Sl} (q : (backs os rs ρ)[j]? = some s1) (m : s1.mine = true) : ∃ s, ρ[j]? = some s ∧ s.mine = true := by
  rcases backs_at os rs ρ j with ⟨k, d, s, r0, h1, h2, h3, h4, h5⟩ | ⟨h1, _⟩
  · rw [h5] at q
    cases q
    exact ⟨s, h4, by cases s <;> first | rfl | cases m⟩
  · rw [h1] at q
    exact ⟨s1, q, m⟩
theorem mine_there {K : PySem.W.Frag} {mg : Str → Option Value} {σ : St} {H F : Hp} {ρ : Env} (S : Sim K mg B σ H F ρ) {i : Nat} {s : Sl} {a : Addr} (q : ρ[i]? = some s) (m : s.mine = true) (e : σ[i]? = some (some (.ref a))) : H a ≠ none := by
  have z := S.slot i s q
  cases s with
  | un => cases m
  | val _ => cases m
  | own d =>
    obtain ⟨b, h1, h2, h3, h4⟩ := z
    rw [e] at h1
    cases h1
    obtain ⟨u, hu⟩ := h4.there
    rw [hu]
    exact fun z => nomatch z
  | io d =>
    obtain ⟨b, h1, h2, h3, h4⟩ := z
    rw [e] at h1
    cases h1
    obtain ⟨u, hu⟩ := h4.there
    rw [hu]
    exact fun z => nomatch z
theorem spN_of {fn : Fn} {n : Nat} {σ : St} {H F : Hp} {ρ : Env} {os : List OV} {vs : List V} {Q : VK} (r : ROs X os vs σ F) (h : At X B W (RV X B) (callOnN n fn os) F ρ σ H Q) : spN X.K X.mg n fn vs H Q (WE W σ) := by
  have p := h.post
  unfold callOnN at p
  cases e1 : mkArgs ρ os with
  | none => rw [e1] at p; exact p.elim
  | some as =>
    rw [e1] at p
    by_cases hn : as.length = n
    · simp only [if_pos hn] at p
      have g1 := (mk_at e1 r).1
      refine ⟨by rw [← g1]; exact hn, F, as, ioOf as vs, h.sim.into e1 r, ?_⟩
      cases e2 : fn as with
      | ok d ρ' =>
        rw [e2] at p
        intro σ' v H' F' S' s' r'
        refine p v H' F' (h.sim.outof e1 r S') s' ?_
        unfold RV
        rw [if_pos rfl]
        obtain ⟨a, q1, q2, q3, q4, q5⟩ := r'
        have ha : H a = none := q3
        refine ⟨a, q1, q2, ?_, q4, fun i s q m e => ?_⟩
        · cases z : B.H0 a with
          | none => rfl
          | some o => exact absurd ha (h.sim.there a (by rw [z]; exact fun z => nomatch z))
        · obtain ⟨t, t1, t2⟩ := backs_mine q m
          exact mine_there h.sim t1 t2 e ha
      | err c fs ρ' =>
        rw [e2] at p
        exact fun σ' cls dd H' F' S' t r' => p cls dd H' F' (h.sim.outof e1 r S') t r'
      | bad => rw [e2] at p; exact p.elim
    · simp only [if_neg hn] at p
      exact p.elim
theorem se_callN {k : Nat} {f : Addr} {fd : FuncData} {ps : List Str} {fn : Fn} {n : Nat} {x : Str} {p pos : Pos} {e : Expr} {es : List Expr} {g : M (List OV)} (F : FnOk X.prog X.w X.K X.mg X.base (L2.CX X.prog X.w) k f fd ps (spN X.K X.mg n fn)) (hr : Room k X.A) (tk : Takes X W)
    (hg : Gl X x) (hm : X.mg x = some (.ref f)) (hk : PySem.W.keepIn X.K (.ref f) = true) (hb : Binds X.K fd ps []) (ha : SOs X B W (e :: es) g)
    (hdb : (x == ("__debug__" : Str)) = false) (he : starEach (e :: es) X.env = (false, eval e X.env) :: starEach es X.env) (hpl : (backTo pos (starEach es X.env)).any (·.1) = false) :
    SV X B W (.Call (.Name x p) (e :: es) [] pos) (mCallN n fn g) := by
  refine pe_mono (pe_callS F hr hg hm hk hb (fun σ => passAt tk σ) ha hdb he hpl) fun σ H Q ⟨F0, ρ, a⟩ => ?_
  refine a.go fun vs H1 F1 ρ1 os s1 r1 hh => ?_
  exact spN_of r1 hh
end
end DL

namespace DL
open PySem PySem.Spec PyProof.Rows L2

/-! ### several clauses «except x as n», each of them with a return for its end -/
/-- what the clauses wish of the body's exception -/
def wClauses (K : PySem.W.Frag) (i : Nat) (Wout : WX) (D : Ends) : List (Value × (Addr → Value → Option Addr → TS)) → WX
  | [] => Wout
  | (c, ts) :: r => fun cls d σ H => ∃ b, PySem.W.exmOne K cls c = some b ∧
      (b = true → ∀ a, H a = none → ts a cls d { nx := fun _ _ => False, rt := D.rt, bk := fun _ _ => False, ct := fun _ _ => False } (σ.set i (some (.ref a))) H) ∧
      (b = false → wClauses K i Wout D r cls d σ H)
inductive ClausesOk (X : Cx) (n : Str) : List ExceptHandler → List (Value × (Addr → Value → Option Addr → TS)) → Prop
  | nil : ClausesOk X n [] []
  | cons {x : Str} {c : Value} {ts : Addr → Value → Option Addr → TS} {b₀ : Stmt} {su : List Stmt} {np pos' : Pos} {hds : List ExceptHandler} {l : List (Value × (Addr → Value → Option Addr → TS))} (nm : Names X x c)
      (run : ∀ (a : Addr) (oe : Obj) (cls : Value) (d : Option Addr) (pn : List (Addr × Obj)), Zc cls d oe → (∃ vs, oe.data = .fields vs) → PSs (X.suite a ((a, oe) :: pn)) (b₀ :: su) (ts a cls d)) (r : ClausesOk X n hds l) :
      ClausesOk X n (.ExceptHandler (some (.Name x np)) (some n) (b₀ :: su) pos' :: hds) ((c, ts) :: l)
section
variable {X : Cx} {n : Str} {i : Nat} {body : List Stmt} {h₀ : ExceptHandler} {hds : List ExceptHandler} {l : List (Value × (Addr → Value → Option Addr → TS))} {pos : Pos} {tb : WX → TS} {Wout : WX}
theorem ps_tryR (hs : X.stack = X.env :: X.outer) (hf : X.env.frame = some X.env.locals) (hN : X.N.Nodup) (hi : X.N[i]? = some n) (hln : X.env.kindOf n = some .local) (tk : Takes X Wout)
    (hb : ∀ (W : WX) (pn : List (Addr × Obj)) (xe : Value → Shared → Prop), Takes (X.tr pn xe) W → PassesOwn (model X.prog X.w) X.A X.env xe → PSs (X.tr pn xe) body (tb W))
    (hh : ClausesOk X n (h₀ :: hds) l) : PS X (.Try body (h₀ :: hds) [] [] pos) (fun D σ H => tb (wClauses X.K i Wout D l) D σ H) := by
  refine ⟨fun pins s σ H D I h => ?_⟩
  have ok := I.ok
  have hfr : X.A.frames = some (X.env :: X.outer) := by rw [ok.frames, hs]
  have hloc : Loc X.env.scope n := .inl hln
  refine wpAny_Try_except ?_
  refine wpAny_mono ((hb (wClauses X.K i Wout D l) (X.pn ++ pins) (fun e s₁ => wpAny (model X.prog X.w) X.A (noteFrame e X.env) (fun _ s₂ => wpAny (model X.prog X.w) X.A (setFlight e none) (fun _ s₃ =>
    wpAny (model X.prog X.w) X.A (handleBy e X.env (h₀ :: hds)) (SP X pins D) X.xe s₃) X.xe s₂) X.xe s₁) (fun u s' xx => ?_) PassesOwn.looking).run [] s σ H D (I.toTry _) h) (fun f s1 hsp => ?_) (fun e s1 he => he)
  · obtain ⟨a, B, sI, pins', σ', H', cls, d, rfl, J', nb, up, sky, na, os, ag, w⟩ := xx
    have J : Inv X pins σ' H' sI := J'.ofTry ok
    have sky' : Sky B (X.env :: X.outer) a (Zc cls d) X.env.locals s'.heap := by rw [← hs]; exact sky
    show wpAny (model X.prog X.w) X.A (noteFrame (.ref a) X.env) _ _ _
    refine Sky.land Zc.steady hfr hf sky' fun h3 fl3 up3 => ?_
    have J3 : Inv X pins σ' H' { s' with heap := h3 } := J.landed nb fl3.1 (up.trans up3) os ag
    obtain ⟨oe3, vs3, he3, hz3, hd3⟩ := fl3.there
    have nfr : a ∉ frs (X.env :: X.outer) := fun hm => by
      obtain ⟨_, o', e', hnf⟩ := fl3.2.2.1.mem hm
      rw [he3] at e'; cases e'
      exact hnf _ hd3
    have nL : a ≠ X.env.locals := fun z => nfr (List.mem_filterMap.mpr ⟨X.env, List.mem_cons_self, by rw [hf, z]⟩)
    have nF : a ∉ X.fs := fun hm => by
      obtain ⟨e, he, q⟩ := List.mem_filterMap.mp hm
      exact nfr (List.mem_filterMap.mpr ⟨e, List.mem_cons_of_mem _ he, q⟩)
    have S3 := J3.suite he3 hd3 na nL nF
    have go : ∀ {hds' : List ExceptHandler} {l' : List (Value × (Addr → Value → Option Addr → TS))}, ClausesOk X n hds' l' → wClauses X.K i Wout D l' cls d σ' H' →
        wpAny (model X.prog X.w) X.A (handleBy (.ref a) X.env hds') (SP X pins D) X.xe { s' with heap := h3 } := by
      intro hds' l' hk
      induction hk with
      | nil =>
        intro w
        refine wpAny_handleBy_nil ?_
        obtain ⟨k1, k2, k3, oe, vs, T, oT, ts', he, hz, hd, h1, hr⟩ := id fl3
        unfold PySem.passOn
        refine wpAny_bind (wpAny_field he hd h1 ?_)
        rw [if_neg (show ¬ ((Value.ref T == Value.none) = true) from by simp)]
        have fin : wpAny (model X.prog X.w) X.A (setFlight (.ref a) X.env.frame) (fun _ s4 => wpAny (model X.prog X.w) X.A (throw (.ref a) : Sem Flow) (SP X pins D) X.xe s4) X.xe { s' with heap := h3 } := by
          rw [hf]
          refine HandSPX.setFlight_upZ fl3 fun h4 hh4 up4 => wpAny_throw (tk _ _ ?_)
          exact ⟨a, B, sI, pins, σ', H', cls, d, rfl, J, nb, (up.trans up3).trans up4, .inr (.inr (by rw [hs]; exact hh4)), na, os, ag, w⟩
        first
          | exact wpAny_bind (wpAny_pure (wpAny_bind fin))
          | exact wpAny_bind fin
      | @cons x c ts b₀ suite np pos' hds2 l2 hc hsu r ih =>
        intro w
        obtain ⟨b, hb1, hyes, hno⟩ := w
        refine wpAny_handleBy_cons (codeAny_handlers_test ?_) (by intro q; cases q)
        have LT : PySem.W.Looks (model X.prog X.w) h3 (typeOf (.ref a)) cls := fun A Q E s k q => wpAny_typeOf_ref (k _ _ he3) (by rw [hz3.1]; exact q)
        have LM := PySem.W.exm_one (M := model X.prog X.w) (J3.kIn) LT hb1
        have test : ∀ {Q : Value → Shared → Prop} {E : Value → Shared → Prop}, Q c { s' with heap := h3 } → wpAny (model X.prog X.w) (X.A.mark (some (.ref a))) (eval (.Name x np) X.env) Q E { s' with heap := h3 } := fun {Q E} q => by
          obtain ⟨hg, hdbg, hm | ⟨hm, hv, hnn⟩⟩ := hc
          · exact ld_glob (X := X.suite a ((a, oe3) :: (X.pn ++ pins))) S3 hg hm q hdbg
          · exact ld_blt (X := X.suite a ((a, oe3) :: (X.pn ++ pins))) S3 hg hm hv q hnn hdbg
        refine test (LM.here ?_)
        cases b with
        | true =>
          refine codeAny_handlers_suite_as ?_
          refine HandSPX.lands_againZ fl3 fun h4 fl4 up4 => ?_
          have J4 : Inv X pins σ' H' { s' with heap := h4 } := J.landed nb fl4.1 ((up.trans up3).trans up4) os ag
          obtain ⟨oe4, vs4, he4, hz4, hd4⟩ := fl4.there
          have S4 := J4.suite he4 hd4 na nL nF
          refine store_ok (X := X.suite a ((a, oe4) :: (X.pn ++ pins))) (v := .ref a) S4 hN hi hloc rfl (fun s5 S5 => ?_) (.inr hln)
          refine wpAny_mono ((hsu a oe4 cls d (X.pn ++ pins) hz4 ⟨_, hd4⟩).run [] s5 _ H' _ S5 (hyes rfl a na)) (fun f s6 hsp => ?_) (fun _ _ z => False.elim z)
          cases f with
          | next => obtain ⟨σ6, H6, S6, q6⟩ := hsp; exact q6.elim
          | brk => obtain ⟨σ6, H6, S6, q6⟩ := hsp; exact q6.elim
          | cont => obtain ⟨σ6, H6, S6, q6⟩ := hsp; exact q6.elim
          | ret u =>
            obtain ⟨v6, σ6, H6, S6, r6, q6⟩ := hsp
            exact gone_ok (S6.unsuite ok) hN hi hln fun s7 J7 => ⟨_, _, _, J7, r6, q6⟩
        | false =>
          show wpAny _ X.A (handleBy (.ref a) X.env hds2) _ _ _
          exact ih (hno rfl)
    exact go hh w
  · cases f with
    | next => obtain ⟨σ', H', J', q⟩ := hsp; exact wpAny_execs_nil ⟨σ', H', J'.ofTry ok, q⟩
    | brk => obtain ⟨σ', H', J', q⟩ := hsp; exact ⟨σ', H', J'.ofTry ok, q⟩
    | cont => obtain ⟨σ', H', J', q⟩ := hsp; exact ⟨σ', H', J'.ofTry ok, q⟩
    | ret u => obtain ⟨v, σ', H', J', r, q⟩ := hsp; exact ⟨v, σ', H', J'.ofTry ok, r, q⟩
end

/-! ### what a clause does with the exception -/
abbrev ExF := Str → List (Str × D) → Option D
def tHE (X : Cx) (i : Nat) (a : Addr) (cls : Value) (d : Option Addr) (g : ExF) : TE := fun σ H Q => ∃ F c fs r, Same F H ∧ ErrR X H F c fs cls d ∧ σ[i]? = some (some (.ref a)) ∧ g c fs = some r ∧
  ∀ v H' F', Grow H F H' F' → Rep X.K X.mg F' r v → Q v H'
def HE (X : Cx) (i : Nat) (e : Expr) (g : ExF) : Prop := ∀ (a : Addr) (oe : Obj) (cls : Value) (d : Option Addr) (pn : List (Addr × Obj)), Zc cls d oe → (∃ vs, oe.data = .fields vs) → PE (X.suite a ((a, oe) :: pn)) e (tHE X i a cls d g)
def tHS (X : Cx) (i : Nat) (a : Addr) (cls : Value) (d : Option Addr) (g : ExF) : TS := fun D σ H => ∃ F c fs r, Same F H ∧ ErrR X H F c fs cls d ∧ σ[i]? = some (some (.ref a)) ∧ g c fs = some r ∧
  ∀ v H' F', Grow H F H' F' → Rep X.K X.mg F' r v → D.rt v H'
def HS (X : Cx) (i : Nat) (su : List Stmt) (g : ExF) : Prop := ∀ (a : Addr) (oe : Obj) (cls : Value) (d : Option Addr) (pn : List (Addr × Obj)), Zc cls d oe → (∃ vs, oe.data = .fields vs) → PSs (X.suite a ((a, oe) :: pn)) su (tHS X i a cls d g)
def exFld (cs : List Str) (f : Str) : ExF := fun c fs => if c ∈ cs then fs.lookup f else none
def exLit (d : D) : ExF := fun _ _ => some d
def exTup2 (g h : ExF) : ExF := fun c fs => match g c fs, h c fs with
  | some a, some b => some (.tup [a, b])
  | _, _ => none
theorem ErrR.grow {X : Cx} {H F H' F' : Hp} {c : Str} {fs : List (Str × D)} {cls : Value} {d : Option Addr} (r : ErrR X H F c fs cls d) (g : Grow H F H' F') : ErrR X H' F' c fs cls d := by
  obtain ⟨C, a, fv, h1, h2, h3, h4, h5⟩ := r
  exact ⟨C, a, fv, h1, h2, h3, g.h _ _ h4, RepF.mono g.f fs fv h5⟩
section
variable {X : Cx} {i : Nat}
theorem RepF.look {K : PySem.W.Frag} {mg : Str → Option Value} {F : Hp} {f : Str} {d : D} : ∀ {fs : List (Str × D)} {fv : List (Str × V)}, RepF K mg F fs fv → fs.lookup f = some d → ∃ v, fv.lookup f = some v ∧ Rep K mg F d v
  | [], fv, h, e => by cases e
  | (g, x) :: fs, fv, h, e => by
    simp only [RepF] at h
    obtain ⟨v, r, rfl, h1, h2⟩ := h
    by_cases q : (f == g) = true
    · simp only [List.lookup, q] at e ⊢
      cases e
      exact ⟨v, rfl, h1⟩
    · have q' : (f == g) = false := by simpa using q
      simp only [List.lookup, q'] at e ⊢
      exact RepF.look h2 e
theorem he_fld {n f : Str} {p1 p2 : Pos} {cs : List Str} (hf : ∀ c ∈ cs, ∀ C, X.mg c = some (.ref C) → XfC X.K C ∧ PySem.W.findIn X.K (.ref C) f = some none)
    (hv : ∀ (a : Addr) (pn : List (Addr × Obj)), PE (X.suite a pn) (.Name n p1) (tVar i)) (hb : ∀ E, attributeBase (.Name n p1) f E (eval (.Name n p1) E) = eval (.Name n p1) E) : HE X i (.Attribute (.Name n p1) f p2) (exFld cs f) := by
  intro a oe cls d pn hz hd
  refine ⟨fun pins s σ H Q I h => ?_⟩
  obtain ⟨F, c, fs, r, sm, er, es, eg, hq⟩ := h
  obtain ⟨C, dd, fv, h1, h2, h3, h4, h5⟩ := id er
  unfold exFld at eg
  by_cases hc : c ∈ cs
  · rw [if_pos hc] at eg
    obtain ⟨v, l1, l2⟩ := RepF.look h5 eg
    obtain ⟨T, hno⟩ := hf c hc C h1
    exact (pe_xf T hno hz hd (hv a _) (hb _)).run pins s σ H Q I ⟨.ref a, es, rfl, h2, dd, fv, v, h3, h4, l1, hq v H F (Grow.refl sm) l2⟩
  · rw [if_neg hc] at eg
    cases eg
theorem he_str {x : Str} {j pos} : HE X i (.Constant (.str x) j pos) (exLit (.str x)) := fun a oe cls d pn hz hd => pe_mono pe_str fun σ H Q ⟨F, c, fs, r, sm, er, es, eg, hq⟩ => by
  cases eg
  exact hq _ H F (Grow.refl sm) (by simp only [Rep])
theorem he_tup2 {a b : Expr} {g h : ExF} {x1} {pos : Pos} (ha : HE X i a g) (hb : HE X i b h) (hs1 : ∀ E, starEach [a, b] E = (false, eval a E) :: starEach [b] E) (hs2 : ∀ E, starEach [b] E = (false, eval b E) :: starEach [] E) : HE X i (.Tuple [a, b] x1 pos) (exTup2 g h) := by
  intro q oe cls d pn hz hd
  refine pe_mono (pe_tup (pa_cons (ha q oe cls d pn hz hd) (pa_cons (hb q oe cls d pn hz hd) pa_nil (hs2 _)) (hs1 _))) fun σ H Q ⟨F, c, fs, r, sm, er, es, eg, hq⟩ => ?_
  unfold exTup2 at eg
  cases e1 : g c fs with
  | none => rw [e1] at eg; cases eg
  | some r1 =>
    cases e2 : h c fs with
    | none => rw [e1, e2] at eg; cases eg
    | some r2 =>
      rw [e1, e2] at eg
      cases eg
      refine ⟨F, c, fs, r1, sm, er, es, e1, fun v1 H1 F1 g1 rv1 => ⟨F1, c, fs, r2, g1.sub, er.grow g1, es, e2, fun v2 H2 F2 g2 rv2 => ?_⟩⟩
      refine ⟨by rw [sizeLine_eq]; simp, fun p hp => ?_⟩
      refine hq _ _ _ ((g1.trans g2).trans (Grow.new g2.sub hp)) ?_
      have sF := (Grow.new (o := HO.tup [v1, v2]) g2.sub hp).f
      simp only [Rep]
      exact ⟨p, [v1, v2], rfl, .inl (.inl upd_same), RepL.mono sF _ _ (.cons (Rep.mono g2.f _ _ rv1) (.one rv2))⟩
theorem hs_ret {e : Expr} {g : ExF} {pos : Pos} (h : HE X i e g) : HS X i [.Return (some e) pos] g := fun a oe cls d pn hz hd =>
  pss_mono (pss_one (ps_ret (h a oe cls d pn hz hd))) fun D σ H ⟨F, c, fs, r, sm, er, es, eg, hq⟩ => ⟨F, c, fs, r, sm, er, es, eg, hq⟩
end

/-! ### try -/
structure Hdl where
  sub : List (Str × Bool)
  out : ExF
def onErr : List Hdl → Str → List (Str × D) → M Fl
  | [], c, fs => fun ρ => .err c fs ρ
  | h :: hs, c, fs => fun ρ => match h.sub.lookup c with
    | some true => match h.out c fs with
      | some d => .ok (.ret d) ρ
      | none => .bad
    | some false => onErr hs c fs ρ
    | none => .bad
def mTry (i : Nat) (f : M Fl) (hs : List Hdl) : M Fl := fun ρ => match f ρ with
  | .ok r ρ' => .ok r ρ'
  | .err c fs ρ' => if i < ρ'.length then onErr hs c fs ρ' else .bad
  | .bad => .bad
inductive HdlsOk (X : Cx) (i : Nat) (n : Str) : List ExceptHandler → List Hdl → Prop
  | nil : HdlsOk X i n [] []
  | cons {x : Str} {cv : Value} {h : Hdl} {b₀ : Stmt} {su : List Stmt} {np pos' : Pos} {hds : List ExceptHandler} {l : List Hdl} (nm : Names X x cv)
      (sub : ∀ c ∈ h.sub, ∀ C, X.mg c.1 = some (.ref C) → PySem.W.exmOne X.K (.ref C) cv = some c.2) (run : HS X i (b₀ :: su) h.out) (r : HdlsOk X i n hds l) :
      HdlsOk X i n (.ExceptHandler (some (.Name x np)) (some n) (b₀ :: su) pos' :: hds) (h :: l)
theorem mem_look {β : Type} : ∀ {l : List (Str × β)} {c : Str} {b : β}, l.lookup c = some b → (c, b) ∈ l
  | [], c, b, h => by cases h
  | (k, x) :: l, c, b, h => by
    by_cases q : (c == k) = true
    · simp only [List.lookup, q] at h
      cases h
      have : c = k := by simpa using q
      rw [this]
      exact List.mem_cons_self ..
    · have q' : (c == k) = false := by simpa using q
      simp only [List.lookup, q'] at h
      exact List.mem_cons_of_mem _ (mem_look h)
section
variable {X : Cx} {B : Bd} {W : WX}
theorem clauses_of {i : Nat} {n : Str} {hds : List ExceptHandler} {l : List Hdl} (h : HdlsOk X i n hds l) : ∃ cl, ClausesOk X n hds cl ∧ ∀ {F : Hp} {c : Str} {fs : List (Str × D)} {ρ : Env}, i < ρ.length → ∀ D : Ends, PostS X B W F D (onErr l c fs ρ) →
    ∀ σ cls dd H' F', Sim X.K X.mg B σ H' F' ρ → Same F F' → ErrR X H' F' c fs cls dd → wClauses X.K i W D cl cls dd σ H' := by
  induction h with
  | nil => exact ⟨[], .nil, fun hi D p σ cls dd H' F' S s r => p σ cls dd H' F' S s r⟩
  | @cons x cv hd b₀ su np pos' hds l nm sub run r ih =>
    obtain ⟨cl, h1, h2⟩ := ih
    refine ⟨(cv, fun a cls d => tHS X i a cls d hd.out) :: cl, .cons nm (fun a oe cls d pn hz hf => run a oe cls d pn hz hf) h1, fun {F c fs ρ} hi D p σ cls dd H' F' S s er => ?_⟩
    obtain ⟨C, ad, fv, e1, e2, e3, e4, e5⟩ := id er
    unfold onErr at p
    cases q : hd.sub.lookup c with
    | none => simp only [q] at p; exact p.elim
    | some b =>
      simp only [q] at p
      refine ⟨b, by rw [e2]; exact sub _ (mem_look q) C e1, fun hb a na => ?_, fun hb => ?_⟩
      · subst hb
        cases q2 : hd.out c fs with
        | none => simp only [q2] at p; exact p.elim
        | some d =>
          simp only [q2] at p
          refine ⟨F', c, fs, d, S.sub, er, ?_, q2, fun v H2 F2 g rv => p σ v H2 F2 (S.grow g) (s.trans g.f) rv⟩
          rw [List.getElem?_set_self (by rw [← S.len]; exact hi)]
      · subst hb
        exact h2 hi D p σ cls dd H' F' S s er
theorem ss_try {n : Str} {i : Nat} {body : List Stmt} {f : M Fl} {h₀ : ExceptHandler} {hds : List ExceptHandler} {l : List Hdl} {pos : Pos} (hs : X.stack = X.env :: X.outer) (hf : X.env.frame = some X.env.locals) (hN : X.N.Nodup) (hi : X.N[i]? = some n) (hln : X.env.kindOf n = some .local) (tk : Takes X W)
    (hb : ∀ (W : WX) (pn : List (Addr × Obj)) (xe : Value → Shared → Prop), Takes (X.tr pn xe) W → PassesOwn (model X.prog X.w) X.A X.env xe → SSs (X.tr pn xe) B W body f)
    (hh : HdlsOk X i n (h₀ :: hds) l) : SS X B W (.Try body (h₀ :: hds) [] [] pos) (mTry i f l) := by
  obtain ⟨cl, k1, k2⟩ := clauses_of (B := B) (W := W) hh
  refine ps_mono (ps_tryR hs hf hN hi hln tk (tb := fun W => tS X B W f) hb k1) fun D σ H ⟨F, ρ, S, p⟩ => ⟨F, ρ, S, ?_⟩
  unfold mTry at p
  cases e : f ρ with
  | ok r ρ' =>
    rw [e] at p
    cases r with
    | next => exact p
    | brk => exact p
    | cont => exact p
    | ret d => exact p
    | new d => exact p
  | err c fs ρ' =>
    simp only [e] at p
    by_cases hi : i < ρ'.length
    · rw [if_pos hi] at p
      exact k2 hi D p
    · rw [if_neg hi] at p
      exact p.elim
  | bad => rw [e] at p; exact p.elim
end

/-! ### raise, of a class with its own __init__ -/
/-- Base.__init__(self, ..), the base a class of the text that has none of its own -/
theorem pe_clsinit {X : Cx} {b : Str} {C0 : Addr} {e : Expr} {es : List Expr} {ta : TA} {p1 p2 pos : Pos} {pl : Sem Bool} (hg : Gl X b) (hm : X.mg b = some (.ref C0)) (hdb : (b == ("__debug__" : Str)) = false)
    (sp : PySem.W.specialIn X.K (.ref C0) "__getattribute__" = some (some (.builtin "type.__getattribute__"))) (rd : PySem.W.readsIn X.K C0 (.type "type") = true)
    (fc : PySem.W.findCls X.K (.ref C0) (.type "type") "__init__" = some (.val (.builtin "ValueError.__init__"))) (ha : PA X (e :: es) ta)
    (hc : eval (.Call (.Attribute (.Name b p1) "__init__" p2) (e :: es) [] pos) X.env = (do
      let base ← eval (.Name b p1) X.env
      standAt p2.atName
      let (fn, fst) ← holding [base] (getMethod base "__init__" pl)
      callWith pos fn fst (backTo pos (starEach (e :: es) X.env)) (backToKw pos (keywordEach [] X.env))))
    (he : starEach (e :: es) X.env = (false, eval e X.env) :: starEach es X.env) (hpl : (backTo pos (starEach es X.env)).any (·.1) = false) :
    PE X (.Call (.Attribute (.Name b p1) "__init__" p2) (e :: es) [] pos) (tVeI X.K ta) := by
  refine ⟨fun pins s σ H Q I h => ?_⟩
  refine PySem.W.methodCall_KW (ld_glob I hg hm ?_ hdb) hc
  refine PySem.W.method_cls I.kIn sp (PySem.W.cls_value I.kIn rd fc (by decide +kernel) ?_)
  refine PyProof.Rows.callWith_method1 (thn (ha.run pos pins _ σ H _ (I.tok _) h) fun us s1 ⟨vs, H1, I1, r1, a, C, ws, ev, hl, T, ea, q⟩ => ?_) he hpl
  subst ev
  cases r1 with
  | @cons _ u0 _ ur ra rw' =>
    obtain rfl : u0 = Value.ref a := ra
    have hlen : ur.length ≤ sizeLine := by
      rw [← Paired.length rw', sizeLine_eq]
      omega
    exact oinit_ok T I1 ea hlen fun s' J => ⟨.non, H1, J, rfl, q⟩
/-- the promise of such an __init__: it keeps its argument as field f -/
def spIni (K : PySem.W.Frag) (f : Str) (ok : V → Prop) : Sp := fun vs H Q _ => ∃ a C v, vs = [.ref a, v] ∧ H a = some (exo a C none) ∧ OexC K C ∧ PySem.W.findIn K (.ref C) f = some none ∧ ok v ∧
  ∀ d, H d = none → d ≠ a → Q .non (upd (upd H d (exd d [(f, v)])) a (exo a C (some d)))
def strV (v : V) : Prop := ∃ s : Str, v = .str s ∧ s.length ≤ 900
section
variable {P : Program} {w : World} {K : PySem.W.Frag} {mg : Str → Option Value} {base : Heap}
theorem init_ok {qual : Str} {st : Stmt} {fa C0 : Addr} {fd : FuncData} {f msg : Str} {j1 p1 p2 p3 p4 p5 p6 p7 p8 p9 p10 p11 p12} (F : L2.Fun K "__init__" qual st fa fd) (S : FnScope ["self", "what"] ["self", "what"] (defScope st))
    (hb : defBody st = [.Expr (.Call (.Attribute (.Name "PressError" p1) "__init__" p2) [.Name "self" p3, .BinOp (.Constant (.str msg) j1 p4) .Add (.Name "what" p5) p6] [] p7) p8, .Assign [.Attribute (.Name "self" p9) f p10] (.Name "what" p11) p12])
    (l0 : (defScope st).names.lookup ("self" : Str) = some .local) (l1 : (defScope st).names.lookup ("what" : Str) = some .local) (lb : ∀ (n : Addr) (f : Addr) (cdv : Value), (envOfC qual (defScope st) n f cdv).kindOf "PressError" = some .globalImplicit) (hml : msg.length ≤ 100)
    (hm : mg "PressError" = some (.ref C0))
    (sp : PySem.W.specialIn K (.ref C0) "__getattribute__" = some (some (.builtin "type.__getattribute__"))) (rd : PySem.W.readsIn K C0 (.type "type") = true)
    (fc : PySem.W.findCls K (.ref C0) (.type "type") "__init__" = some (.val (.builtin "ValueError.__init__")))
    (hc : ∀ (n : Addr) (g : Addr) (cdv : Value), ∃ pl, eval (.Call (.Attribute (.Name "PressError" p1) "__init__" p2) [.Name "self" p3, .BinOp (.Constant (.str msg) j1 p4) .Add (.Name "what" p5) p6] [] p7) (envOfC qual (defScope st) n g cdv) = (do
      let base ← eval (.Name "PressError" p1) (envOfC qual (defScope st) n g cdv)
      standAt p2.atName
      let (fn, fst) ← holding [base] (getMethod base "__init__" pl)
      callWith p7 fn fst (backTo p7 (starEach [.Name "self" p3, .BinOp (.Constant (.str msg) j1 p4) .Add (.Name "what" p5) p6] (envOfC qual (defScope st) n g cdv))) (backToKw p7 (keywordEach [] (envOfC qual (defScope st) n g cdv))))) :
    FnOk P w K mg base (L2.CX P w) 1 fa fd ["self", "what"] (spIni K f strV) := by
  refine Fun.okX F S (fun vs H Q E ⟨a, C, v, e, _⟩ => by rw [e]; rfl) fun cdv A outer s H vs Q E hr ⟨a, C, v, ev, ea, T, hno, ⟨z, ev2, hz⟩, hq⟩ => ?_
  subst ev2
  subst ev
  rw [hb]
  obtain ⟨pl, hc⟩ := hc s.heap.objs.size fa cdv
  refine ⟨_, pss_cons (ps_expr (pe_clsinit (lb _ _ _) hm (by decide) sp rd fc (pa_cons (pe_var (i := 0) rfl (Or.inl l0)) (pa_cons (pe_op op_add_str pe_str (pe_var (i := 1) rfl (Or.inl l1))) pa_nil)) hc rfl rfl) rfl) (pss_one (ps_ost (pe_var (i := 0) rfl (Or.inl l0)) (pe_var (i := 1) rfl (Or.inl l1)) rfl)), ?_⟩
  refine ⟨.ref a, rfl, .str z, rfl, msg, z, rfl, rfl, by rw [sizeLine_eq]; omega, a, C, _, rfl, by simp, T, ea, ?_⟩
  refine ⟨.str z, rfl, .ref a, rfl, a, C, rfl, T, hno, .inl ⟨ea, fun dx hd hne => hq dx hd hne⟩⟩
end
def okStr : D → Bool
  | .str s => decide (s.length ≤ 900)
  | _ => false
def mRaise (c f : Str) (args : M (List D)) : M Fl := args.bind fun ds => match ds with
  | [d] => if okStr d = true then fun ρ => .err c [(f, d)] ρ else fun _ => .bad
  | _ => fun _ => .bad
section
variable {X : Cx} {B : Bd} {W : WX}
theorem ss_raise {k : Nat} {C fI : Addr} {fd : FuncData} {ps : List Str} {x f : Str} {p pos pos2 : Pos} {e : Expr} {es : List Expr} {g : M (List D)} (hc : X.calm = true) (tk : Takes X W) (T : OexC X.K C) (iC : PySem.W.findIn X.K (.ref C) "__init__" = some (some (.ref fI)))
    (tI : PySem.W.typeIn X.K (.ref fI) = some (.type "function")) (F1 : FnOk X.prog X.w X.K X.mg X.base (L2.CX X.prog X.w) k fI fd ps (spIni X.K f strV)) (hr : Room (k + 1) X.A) (hb : Binds X.K fd ps []) (hg : Gl X x) (hm : X.mg x = some (.ref C))
    (hn : PySem.W.findIn X.K (.ref C) f = some none) (ha : SDs X B W (e :: es) g) (hdb : (x == ("__debug__" : Str)) = false) (he : starEach (e :: es) X.env = (false, eval e X.env) :: starEach es X.env) (hpl : (backTo pos (starEach es X.env)).any (·.1) = false) :
    SS X B W (.Raise (some (.Call (.Name x p) (e :: es) [] pos)) none pos2) (mRaise x f g) := by
  refine ps_mono (L2.ps_raise hc tk (pmk_oex T iC tI F1 hr hb .nil passL hg hm ha hdb he hpl)) fun D σ H ⟨F, ρ, S, pp⟩ => ?_
  refine At.goS S pp fun vs H1 F1 ρ1 ds s1 S1 r1 p1 => ?_
  match ds, r1, p1 with
  | [], r1, p1 => exact p1.elim
  | _ :: _ :: _, r1, p1 => exact p1.elim
  | [d], r1, p1 =>
    by_cases ho : okStr d = true
    · simp only [if_pos ho] at p1
      cases d with
      | str s =>
        have r1 : RepL X.K X.mg F1 [.str s] vs := r1
        simp only [RepL] at r1
        obtain ⟨v, r, rfl, rv, rfl⟩ := r1
        simp only [Rep] at rv
        subst rv
        refine ⟨by simp, fun a na => ⟨a, C, .str s, rfl, upd_same, T, hn, ⟨s, rfl, of_decide_eq_true ho⟩, fun dx hd hne => ⟨rfl, dx, [(f, .str s)], upd_same, ?_, ?_, ?_⟩⟩⟩
        · rw [upd_ne hne, upd_same]
        · rw [upd_ne hne] at hd; exact hd
        · rw [upd_ne hne] at hd
          have eH : upd (del (upd (upd (upd H1 a (exo a C none)) dx (exd dx [(f, V.str s)])) a (exo a C (some dx))) a) dx (.xd [(f, .str s)]) = upd H1 dx (.xd [(f, .str s)]) := by
            funext b
            by_cases hb : b = dx
            · rw [hb, upd_same, upd_same]
            · rw [upd_ne hb, upd_ne hb]
              by_cases hba : b = a
              · rw [hba, del_same, na]
              · rw [del_ne hba, upd_ne hba, upd_ne hb, upd_ne hba]
          rw [eH]
          refine p1 σ _ _ _ F1 (S1.grow ⟨same_upd hd, Same.refl _, fun b o z => ?_, fun _ _ => rfl⟩) (Same.refl _) ⟨C, dx, [(f, .str s)], hm, rfl, rfl, upd_same, ?_⟩
          · exact same_upd hd b o (S1.sub b o z)
          · simp only [RepF, Rep]
            exact ⟨.str s, [], rfl, rfl, rfl⟩
      | _ => cases ho
    · simp only [if_neg ho] at p1
      exact p1.elim
end
end DL

namespace DL
open PySem PySem.Spec PyProof.Rows L2

/-! ### list comprehensions -/
def wipeE (ρ : Env) : List Nat → Env
  | [] => ρ
  | v :: vs => (wipeE ρ vs).set v .un
def keepV : Option Sl → Sl
  | some (.val d) => .val d
  | _ => .un
def restE (ρ0 ρ : Env) : List Nat → Env
  | [] => ρ
  | v :: vs => (restE ρ0 ρ vs).set v (keepV ρ0[v]?)
def okOwn (own : List Nat) (ρ : Env) : Bool := own.all fun i => match ρ[i]? with
  | some (.io _) => false
  | _ => true
def compTurn (g : D → M Unit) (tt : M Bool) (te : M D) (d : D) (acc : List D) : M (List D) := (g d).bind fun _ => tt.bind fun b => if b = true then (te.bind fun y => M.ret (acc ++ [y])) else M.ret acc
def compL (own : List Nat) (g : D → M Unit) (tt : M Bool) (te : M D) : List D → List D → M (List D)
  | [], acc => M.ret acc
  | d :: ds, acc => fun ρ => match compTurn g tt te d acc ρ with
    | .ok acc' ρ' => if acc.length < sizeLine then compL own g tt te ds acc' (wipeE ρ' own) else .bad
    | _ => .bad
def mLc (own : List Nat) (src : M (List D)) (g : D → M Unit) (tt : M Bool) (te : M D) : M (D × Bool) := src.bind fun ds => fun ρ => if okOwn own ρ = true then
    match compL own g tt te ds [] (wipeE ρ own) with
    | .ok acc ρ' => .ok (.lst acc, true) (restE ρ ρ' own)
    | _ => .bad
  else .bad

theorem wipe_at {σ : St} {j : Nat} : ∀ {vs : List Nat}, (wipe σ vs)[j]? = if j ∈ vs then σ[j]?.map (fun _ => none) else σ[j]?
  | [] => rfl
  | v :: vs => by
    unfold wipe
    by_cases hj : v = j
    · subst hj
      rw [if_pos List.mem_cons_self]
      by_cases hi : v < σ.length
      · rw [List.getElem?_set_self (by rw [wipe_length]; exact hi), List.getElem?_eq_getElem hi]; rfl
      · rw [List.getElem?_eq_none (by rw [List.length_set, wipe_length]; omega), List.getElem?_eq_none (by omega)]; rfl
    · rw [List.getElem?_set_ne hj, wipe_at]
      by_cases hm : j ∈ vs
      · rw [if_pos hm, if_pos (List.mem_cons_of_mem _ hm)]
      · rw [if_neg hm, if_neg (fun z => (List.mem_cons.mp z).elim (fun e => hj e.symm) hm)]
theorem wipe_set {σ : St} {i : Nat} {x : Option V} {vs : List Nat} (h : i ∈ vs) : wipe (σ.set i x) vs = wipe σ vs := by
  refine List.ext_getElem? fun j => ?_
  rw [wipe_at, wipe_at]
  by_cases hj : i = j
  · subst hj
    rw [if_pos h, if_pos h]
    by_cases hi : i < σ.length
    · rw [List.getElem?_set_self hi, List.getElem?_eq_getElem hi]; rfl
    · rw [List.getElem?_eq_none (by rw [List.length_set]; omega), List.getElem?_eq_none (by omega)]
  · rw [List.getElem?_set_ne hj]
theorem wipeE_len {ρ : Env} : ∀ {vs : List Nat}, (wipeE ρ vs).length = ρ.length
  | [] => rfl
  | v :: vs => by unfold wipeE; rw [List.length_set, wipeE_len]
theorem restE_len {ρ0 ρ : Env} : ∀ {vs : List Nat}, (restE ρ0 ρ vs).length = ρ.length
  | [] => rfl
  | v :: vs => by unfold restE; rw [List.length_set, restE_len]
theorem wipeE_at {ρ : Env} {j : Nat} {s : Sl} : ∀ {vs : List Nat}, (wipeE ρ vs)[j]? = some s → (j ∈ vs ∧ s = .un) ∨ (j ∉ vs ∧ ρ[j]? = some s)
  | [], h => .inr ⟨by simp, h⟩
  | v :: vs, h => by
    unfold wipeE at h
    by_cases hj : v = j
    · subst hj
      have hi : v < (wipeE ρ vs).length := by
        have := (List.getElem?_eq_some_iff.mp h).1
        rwa [List.length_set] at this
      rw [List.getElem?_set_self hi] at h
      cases h
      exact .inl ⟨List.mem_cons_self, rfl⟩
    · rw [List.getElem?_set_ne hj] at h
      rcases wipeE_at h with ⟨a, b⟩ | ⟨a, b⟩
      · exact .inl ⟨List.mem_cons_of_mem _ a, b⟩
      · exact .inr ⟨fun z => (List.mem_cons.mp z).elim (fun e => hj e.symm) a, b⟩
theorem wipeE_out {ρ : Env} {j : Nat} : ∀ {vs : List Nat}, j ∉ vs → (wipeE ρ vs)[j]? = ρ[j]?
  | [], h => rfl
  | v :: vs, h => by
    unfold wipeE
    rw [List.getElem?_set_ne (fun e => h (by rw [e]; exact List.mem_cons_self))]
    exact wipeE_out fun z => h (List.mem_cons_of_mem _ z)
theorem restE_at {ρ0 ρ : Env} {j : Nat} {s : Sl} : ∀ {vs : List Nat}, (restE ρ0 ρ vs)[j]? = some s → (j ∈ vs ∧ s = keepV ρ0[j]?) ∨ (j ∉ vs ∧ ρ[j]? = some s)
  | [], h => .inr ⟨by simp, h⟩
  | v :: vs, h => by
    unfold restE at h
    by_cases hj : v = j
    · subst hj
      have hi : v < (restE ρ0 ρ vs).length := by
        have := (List.getElem?_eq_some_iff.mp h).1
        rwa [List.length_set] at this
      rw [List.getElem?_set_self hi] at h
      cases h
      exact .inl ⟨List.mem_cons_self, rfl⟩
    · rw [List.getElem?_set_ne hj] at h
      rcases restE_at h with ⟨a, b⟩ | ⟨a, b⟩
      · exact .inl ⟨List.mem_cons_of_mem _ a, b⟩
      · exact .inr ⟨fun z => (List.mem_cons.mp z).elim (fun e => hj e.symm) a, b⟩
theorem restE_out {ρ0 ρ : Env} {j : Nat} : ∀ {vs : List Nat}, j ∉ vs → (restE ρ0 ρ vs)[j]? = ρ[j]?
  | [], h => rfl
  | v :: vs, h => by
    unfold restE
    rw [List.getElem?_set_ne (fun e => h (by rw [e]; exact List.mem_cons_self))]
    exact restE_out fun z => h (List.mem_cons_of_mem _ z)
theorem wipe_ref {σ : St} {j : Nat} {vs : List Nat} {v : V} (h : (wipe σ vs)[j]? = some (some v)) : σ[j]? = some (some v) := (wipe_some h).1

/-- a further object that stays -/
def addB (B : Bd) (d : Addr) (o : HO) : Bd := ⟨upd B.H0 d o, fun b => if b = d then none else B.F0 b, B.io⟩
section
variable {K : PySem.W.Frag} {mg : Str → Option Value} {B : Bd} {σ : St} {H F : Hp} {ρ : Env}
theorem Sim.wipe {vs : List Nat} (S : Sim K mg B σ H F ρ) (hio : ∀ p ∈ B.io, p.1 ∉ vs) : Sim K mg B (wipe σ vs) H F (wipeE ρ vs) := by
  refine ⟨S.sub, by rw [wipeE_len, wipe_length]; exact S.len, fun j s q => ?_, fun i j s t a q1 q2 m1 m2 e1 e2 => ?_, fun p hp => ?_, S.keepH, S.keepF, S.there⟩
  · rcases wipeE_at q with ⟨_, rfl⟩ | ⟨n, q⟩
    · trivial
    · rw [wipe_at, if_neg n]
      exact S.slot j s q
  · rcases wipeE_at q1 with ⟨_, rfl⟩ | ⟨_, q1⟩
    · cases m1
    · rcases wipeE_at q2 with ⟨_, rfl⟩ | ⟨_, q2⟩
      · cases m2
      · exact S.sep i j s t a q1 q2 m1 m2 (wipe_ref e1) (wipe_ref e2)
  · obtain ⟨d, q1, q2⟩ := S.ios p hp
    exact ⟨d, by rw [wipeE_out (hio p hp)]; exact q1, by rw [wipe_at, if_neg (hio p hp)]; exact q2⟩
theorem Sim.rest {vs : List Nat} {H1 F1 : Hp} {ρ0 : Env} (S0 : Sim K mg B σ H1 F1 ρ0) (S : Sim K mg B (L2.wipe σ vs) H F ρ) (sm : Same F1 F) (hio : ∀ p ∈ B.io, p.1 ∉ vs) : Sim K mg B σ H F (restE ρ0 ρ vs) := by
  have hk : ∀ {j : Nat} {s : Sl}, (restE ρ0 ρ vs)[j]? = some s → s.mine = true → j ∉ vs ∧ ρ[j]? = some s := fun {j s} q m => by
    rcases restE_at q with ⟨_, rfl⟩ | q
    · exfalso
      unfold keepV at m
      split at m <;> cases m
    · exact q
  refine ⟨S.sub, by rw [restE_len]; have := S.len; rwa [wipe_length] at this, fun j s q => ?_, fun i j s t a q1 q2 m1 m2 e1 e2 => ?_, fun p hp => ?_, S.keepH, S.keepF, S.there⟩
  · rcases restE_at q with ⟨n, rfl⟩ | ⟨n, q⟩
    · unfold keepV
      split
      · rename_i d e
        obtain ⟨v, h1, h2⟩ := S0.slot j _ e
        exact ⟨v, h1, Rep.mono sm d v h2⟩
      · trivial
    · have z := S.slot j s q
      rw [wipe_at, if_neg n] at z
      exact z
  · obtain ⟨n1, q1⟩ := hk q1 m1
    obtain ⟨n2, q2⟩ := hk q2 m2
    exact S.sep i j s t a q1 q2 m1 m2 (by rw [wipe_at, if_neg n1]; exact e1) (by rw [wipe_at, if_neg n2]; exact e2)
  · obtain ⟨d, q1, q2⟩ := S.ios p hp
    exact ⟨d, by rw [restE_out (hio p hp)]; exact q1, by rw [wipe_at, if_neg (hio p hp)] at q2; exact q2⟩
theorem Sim.addB {d : Addr} {o : HO} (S : Sim K mg B σ H F ρ) (n : H d = none) : Sim K mg (addB B d o) σ (upd H d o) F ρ := by
  have nF : F d = none := by
    cases e : F d with
    | none => rfl
    | some x => have := S.sub d x e; rw [n] at this; cases this
  have up : ∀ {a : Addr} {u : HO}, H a = some u → (upd H d o) a = some u := fun {a u} e => by rw [upd_ne (ne_of_none e n)]; exact e
  refine ⟨fun b x e => up (S.sub b x e), S.len, fun j s q => ?_, S.sep, S.ios, fun b x e hn => ?_, fun b e => ?_, fun b e => ?_⟩
  · have z := S.slot j s q
    cases s with
    | un => trivial
    | val _ => exact z
    | own x =>
      obtain ⟨a, h1, h2, h3, h4⟩ := z
      obtain ⟨u, hu⟩ := h4.there
      have hd : a ≠ d := ne_of_none hu n
      exact ⟨a, h1, h2, by show upd B.H0 d o a = none; rw [upd_ne hd]; exact h3, by rw [upd_ne hd]; exact h4⟩
    | io x =>
      obtain ⟨a, h1, h2, h3, h4⟩ := z
      obtain ⟨u, hu⟩ := h4.there
      have hd : a ≠ d := ne_of_none hu n
      exact ⟨a, h1, h2, h3, by rw [upd_ne hd]; exact h4⟩
  · have e' : upd B.H0 d o b = some x := e
    by_cases hb : b = d
    · subst hb; rw [upd_same] at e' ⊢; exact e'
    · rw [upd_ne hb] at e' ⊢; exact S.keepH b x e' hn
  · have e' : upd B.H0 d o b ≠ none := e
    by_cases hb : b = d
    · show F b = if b = d then none else B.F0 b
      rw [if_pos hb, hb]; exact nF
    · show F b = if b = d then none else B.F0 b
      rw [upd_ne hb] at e'
      rw [if_neg hb]; exact S.keepF b e'
  · have e' : upd B.H0 d o b ≠ none := e
    by_cases hb : b = d
    · subst hb; rw [upd_same]; exact fun z => nomatch z
    · rw [upd_ne hb] at e' ⊢; exact S.there b e'
theorem Sim.chgB {d : Addr} {o o' : HO} (S : Sim K mg (DL.addB B d o) σ H F ρ) (nio : ∀ p ∈ B.io, p.2 ≠ d) : Sim K mg (DL.addB B d o') σ (upd H d o') F ρ := by
  have nF : F d = none := by
    have := S.keepF d (by show upd B.H0 d o d ≠ none; rw [upd_same]; exact fun z => nomatch z)
    rw [this]
    show (if d = d then none else B.F0 d) = none
    rw [if_pos rfl]
  refine ⟨fun b x e => ?_, S.len, fun j s q => ?_, S.sep, S.ios, fun b x e hn => ?_, fun b e => ?_, fun b e => ?_⟩
  · rw [upd_ne (ne_of_none e nF)]; exact S.sub b x e
  · have z := S.slot j s q
    cases s with
    | un => trivial
    | val _ => exact z
    | own x =>
      obtain ⟨a, h1, h2, h3, h4⟩ := z
      have h3' : upd B.H0 d o a = none := h3
      have hd : a ≠ d := fun e => by rw [e, upd_same] at h3'; cases h3'
      rw [upd_ne hd] at h3'
      exact ⟨a, h1, h2, by show upd B.H0 d o' a = none; rw [upd_ne hd]; exact h3', by rw [upd_ne hd]; exact h4⟩
    | io x =>
      obtain ⟨a, h1, h2, h3, h4⟩ := z
      have hd : a ≠ d := nio _ h3
      exact ⟨a, h1, h2, h3, by rw [upd_ne hd]; exact h4⟩
  · have e' : upd B.H0 d o' b = some x := e
    by_cases hb : b = d
    · subst hb; rw [upd_same] at e' ⊢; exact e'
    · rw [upd_ne hb] at e' ⊢; exact S.keepH b x (by show upd B.H0 d o b = some x; rw [upd_ne hb]; exact e') hn
  · have e' : upd B.H0 d o' b ≠ none := e
    by_cases hb : b = d
    · show F b = if b = d then none else B.F0 b
      rw [if_pos hb, hb]; exact nF
    · rw [upd_ne hb] at e'
      exact S.keepF b (by show upd B.H0 d o b ≠ none; rw [upd_ne hb]; exact e')
  · have e' : upd B.H0 d o' b ≠ none := e
    by_cases hb : b = d
    · subst hb; rw [upd_same]; exact fun z => nomatch z
    · rw [upd_ne hb] at e' ⊢; exact S.there b (by show upd B.H0 d o b ≠ none; rw [upd_ne hb]; exact e')
theorem Sim.dropB {d : Addr} {o : HO} (S : Sim K mg (DL.addB B d o) σ H F ρ) (n : B.H0 d = none) : Sim K mg B σ H F ρ := by
  refine ⟨S.sub, S.len, fun j s q => ?_, S.sep, S.ios, fun b x e hn => ?_, fun b e => ?_, fun b e => ?_⟩
  · have z := S.slot j s q
    cases s with
    | un => trivial
    | val _ => exact z
    | own x =>
      obtain ⟨a, h1, h2, h3, h4⟩ := z
      have h3' : upd B.H0 d o a = none := h3
      have hd : a ≠ d := fun e => by rw [e, upd_same] at h3'; cases h3'
      rw [upd_ne hd] at h3'
      exact ⟨a, h1, h2, h3', h4⟩
    | io x => exact z
  · have hb : b ≠ d := ne_of_none e n
    exact S.keepH b x (by show upd B.H0 d o b = some x; rw [upd_ne hb]; exact e) hn
  · have hb : b ≠ d := fun z => e (by rw [z]; exact n)
    have q := S.keepF b (by show upd B.H0 d o b ≠ none; rw [upd_ne hb]; exact e)
    have q' : F b = if b = d then none else B.F0 b := q
    rw [if_neg hb] at q'
    exact q'
  · have hb : b ≠ d := fun z => e (by rw [z]; exact n)
    exact S.there b (by show upd B.H0 d o b ≠ none; rw [upd_ne hb]; exact e)
theorem Sim.apart {d : Addr} {o : HO} (S : Sim K mg (DL.addB B d o) σ H F ρ) (nio : ∀ p ∈ B.io, p.2 ≠ d) (i : Nat) (s : Sl) (q : ρ[i]? = some s) (m : s.mine = true) : σ[i]? ≠ some (some (.ref d)) := fun e => by
  have z := S.slot i s q
  cases s with
  | un => cases m
  | val _ => cases m
  | own x =>
    obtain ⟨a, h1, h2, h3, h4⟩ := z
    rw [e] at h1
    cases h1
    have h3' : upd B.H0 d o d = none := h3
    rw [upd_same] at h3'
    cases h3'
  | io x =>
    obtain ⟨a, h1, h2, h3, h4⟩ := z
    rw [e] at h1
    cases h1
    exact nio _ h3 rfl
end

/-! targets within a comprehension -/
abbrev W0 : WX := fun _ _ _ _ => False
section
variable (X : Cx) (B : Bd) (vs : List Nat)
def PostW (F : Hp) (σ : St) (Q : St → Hp → Prop) : Out Unit → Prop
  | .ok _ ρ => ∀ σ' H F', Sim X.K X.mg B σ' H F' ρ → Same F F' → wipe σ' vs = wipe σ vs → Q σ' H
  | _ => False
def tW (g : D → M Unit) : TG := fun v σ H Q => ∃ F ρ d, Sim X.K X.mg B σ H F ρ ∧ Rep X.K X.mg F d v ∧ PostW X B vs F σ Q (g d ρ)
def tWs (g : List D → M Unit) : TGs := fun us σ H Q => ∃ F ρ ds, Sim X.K X.mg B σ H F ρ ∧ RepL X.K X.mg F ds us ∧ PostW X B vs F σ Q (g ds ρ)
end
abbrev STw (X : Cx) (B : Bd) (vs : List Nat) (tg : Expr) (g : D → M Unit) : Prop := PG X tg (tW X B vs g)
abbrev STws (X : Cx) (B : Bd) (vs : List Nat) (tgs : List Expr) (g : List D → M Unit) : Prop := PGs X tgs (tWs X B vs g)
abbrev STs (X : Cx) (B : Bd) (W : WX) (es : List Expr) (f : M Bool) : Prop := PTs X es (tG X B W RB f)
section
variable {X : Cx} {B : Bd} {vs : List Nat}
theorem stw_name {i : Nat} {x : Str} {pos : Pos} (hN : X.N.Nodup) (hi : X.N[i]? = some x) (hx : Loc X.env.scope x) (hf : X.fn x = true ∨ X.env.scope.names.lookup x = some .local) (hm : i ∈ vs) : STw X B vs (.Name x pos) (gSet i) :=
  pg_mono (pg_name hN hi hx hf) fun v σ H Q ⟨F, ρ, d, S, r, p⟩ => by
    have nb : put i (.val d) ρ ≠ .bad := fun z => by
      have p' : PostW X B vs F σ Q (put i (.val d) ρ) := p
      rw [z] at p'
      exact p'
    obtain ⟨e, h2, hio⟩ := put_ok nb
    have p' : PostW X B vs F σ Q (put i (.val d) ρ) := p
    rw [e] at p'
    exact p' _ _ F (S.put h2 hio ⟨v, rfl, r⟩ (fun m => by cases m) (fun d z => by cases z)) (Same.refl _) (wipe_set hm)
theorem stws_nil : STws X B vs [] gsNil := pgs_mono pgs_nil fun us σ H Q ⟨F, ρ, ds, S, r, p⟩ => by
  cases ds with
  | nil => simp only [RepL] at r; exact ⟨r, p σ H F S (Same.refl _) rfl⟩
  | cons d ds => exact p.elim
theorem stws_cons {e : Expr} {es : List Expr} {g : D → M Unit} {gs : List D → M Unit} (h1 : STw X B vs e g) (h2 : STws X B vs es gs) (hs : (assignEach (e :: es) X.env).map (·.2) = assign e X.env :: (assignEach es X.env).map (·.2)) : STws X B vs (e :: es) (gsCons g gs) :=
  pgs_mono (pgs_cons h1 h2 hs) fun us σ H Q ⟨F, ρ, ds, S, r, p⟩ => by
    cases ds with
    | nil => exact p.elim
    | cons d ds =>
      simp only [RepL] at r
      obtain ⟨v, q, rfl, r1, r2⟩ := r
      refine ⟨v, q, rfl, F, ρ, d, S, r1, ?_⟩
      have p' : PostW X B vs F σ Q (((g d).bind fun _ => gs ds) ρ) := p
      unfold M.bind at p'
      cases e1 : g d ρ with
      | ok u ρ1 =>
        rw [e1] at p'
        intro σ1 H1 F1 S1 s1 w1
        refine ⟨F1, ρ1, ds, S1, RepL.mono s1 _ _ r2, ?_⟩
        have p2 : PostW X B vs F σ Q (gs ds ρ1) := p'
        cases e2 : gs ds ρ1 with
        | ok u2 ρ2 => rw [e2] at p2; exact fun σ3 H3 F3 S3 s3 w3 => p2 σ3 H3 F3 S3 (s1.trans s3) (w3.trans w1)
        | err c fs ρ2 => rw [e2] at p2; exact p2.elim
        | bad => rw [e2] at p2; exact p2.elim
      | err c fs ρ1 => rw [e1] at p'; exact p'.elim
      | bad => rw [e1] at p'; exact p'.elim
theorem stw_tup {es : List Expr} {k n : Nat} {gs : List D → M Unit} {pos : Pos} (hc : X.calm = true) (h : STws X B vs es gs) (hn : (assignEach es X.env).length = n) (hst : (assignEach es X.env).findIdx? (·.1) = none) : STw X B vs (.Tuple es k pos) (gTupD n gs) :=
  pg_mono (pg_tup hc h hn hst) fun v σ H Q ⟨F, ρ, d, S, r, p⟩ => by
    cases d with
    | tup ds =>
      simp only [Rep] at r
      obtain ⟨a, us, rfl, h1, h2⟩ := r
      by_cases hl : ds.length = n
      · refine ⟨a, us, rfl, same_SqT S.sub h1, by rw [← h2.length]; exact hl, F, ρ, ds, S, h2, ?_⟩
        have p' : PostW X B vs F σ Q ((if ds.length = n then gs ds else fun _ => .bad) ρ) := p
        rw [if_pos hl] at p'
        exact p'
      · have p' : PostW X B vs F σ Q ((if ds.length = n then gs ds else fun _ => .bad) ρ) := p
        rw [if_neg hl] at p'
        exact p'.elim
    | _ => exact p.elim
def mYes : M Bool := M.ret true
theorem sts_nil {W : WX} : STs X B W [] mYes := ⟨fun pins s σ H Q I ⟨F, ρ, a⟩ => pts_nil.run pins s σ H Q I (a.fin rfl a.sim (Same.refl _) rfl)⟩
theorem sts_one {W : WX} {c : Expr} {f : M Bool} (h : ST X B W c f) : STs X B W [c] f := pts_one h
end

/-! the rule -/
section
variable {X : Cx} {B : Bd} {W : WX}
theorem wipe_wipe {σ : St} {vs : List Nat} : wipe (wipe σ vs) vs = wipe σ vs := by
  refine List.ext_getElem? fun j => ?_
  rw [wipe_at]
  by_cases h : j ∈ vs
  · rw [if_pos h, wipe_at, if_pos h]
    cases σ[j]? <;> rfl
  · rw [if_neg h]
/-- readings with the new list as a further object -/
def rdG (X : Cx) (B : Bd) (vs : List Nat) (g : D → M Unit) : TG := fun v σ H Q => ∃ Dx o, tW X (DL.addB B Dx o) vs g v σ H Q
def rdT (X : Cx) (B : Bd) (tt : M Bool) : TT := fun σ H Q => ∃ Dx o, tG X (DL.addB B Dx o) W0 RB tt σ H Q
def rdE (X : Cx) (B : Bd) (te : M D) : TE := fun σ H Q => ∃ Dx o, tG X (DL.addB B Dx o) W0 (RE X) te σ H Q
theorem lc_key {src : M (List D)} {g : D → M Unit} {tt : M Bool} {te : M D} {vs : List Nat} {σ : St} {H : Hp} {Q : VK} (h : tG X B W (RV X B) (mLc vs src g tt te) σ H Q) :
    tLc (tG X B W (RJ X) src) (rdG X B vs g) (rdT X B tt) (rdE X B te) vs σ H Q := by
  obtain ⟨F, ρ, a⟩ := h
  refine a.go fun J H1 F1 ρ1 ds s1 r1 hh => fun Dx nD => ?_
  have S1 := hh.sim
  have p := hh.post
  by_cases hok : okOwn vs ρ1 = true
  · simp only [if_pos hok] at p
    have hio : ∀ q ∈ B.io, q.1 ∉ vs := fun q hq hm => by
      obtain ⟨d, q1, _⟩ := S1.ios q hq
      have := List.all_eq_true.mp hok q.1 hm
      rw [q1] at this
      cases this
    have nio : ∀ q ∈ B.io, q.2 ≠ Dx := fun q hq e => by
      obtain ⟨d, q1, q2⟩ := S1.ios q hq
      obtain ⟨b, k1, k2, k3, k4⟩ := S1.slot _ _ q1
      rw [q2] at k1
      cases k1
      obtain ⟨u, hu⟩ := k4.there
      rw [e, nD] at hu
      cases hu
    have nB : B.H0 Dx = none := by
      cases e : B.H0 Dx with
      | none => rfl
      | some o => exact absurd nD (S1.there Dx (by rw [e]; exact fun z => nomatch z))
    have atD : ∀ {us : List V} {H' F' : Hp} {σ' : St} {ρ' : Env}, Sim X.K X.mg (DL.addB B Dx (.lst us)) σ' H' F' ρ' → H' Dx = some (.lst us) := fun {us H' F' σ' ρ'} S' =>
      S'.keepH Dx _ (show upd B.H0 Dx (.lst us) Dx = some (.lst us) from upd_same) fun i hm => nio _ hm rfl
    let PostL : Hp → Out (List D) → Prop := fun F0 o => match o with
      | .ok acc' ρ' => ∀ H' F' us', Same F0 F' → RepL X.K X.mg F' acc' us' → Sim X.K X.mg (DL.addB B Dx (.lst us')) (wipe σ vs) H' F' ρ' → Q (.ref Dx) H'
      | _ => False
    let PL : Nat → Hp → Prop := fun i H => ∃ F ρ acc us, Same F1 F ∧ RepL X.K X.mg F acc us ∧ Sim X.K X.mg (DL.addB B Dx (.lst us)) (wipe σ vs) H F ρ ∧ PostL F (compL vs g tt te (ds.drop i) acc ρ)
    refine ⟨fun i m H => m = ds.length - i ∧ i ≤ ds.length ∧ PL i H, ⟨ds.length, by simp, Nat.zero_le _, F1, wipeE ρ1 vs, [], [], Same.refl _, .nil, (S1.addB nD).wipe hio, ?_⟩, ?_⟩
    · show PostL F1 (compL vs g tt te ds [] (wipeE ρ1 vs))
      cases e : compL vs g tt te ds [] (wipeE ρ1 vs) with
      | err c fs ρ' => rw [e] at p; exact p
      | bad => rw [e] at p; exact p
      | ok acc' ρ' =>
        rw [e] at p
        intro H' F' us' s' r' S'
        refine p (.ref Dx) H' F' ((S1.rest (S'.dropB nB) s' hio)) s' ⟨Dx, rfl, ?_, nB, ⟨us', atD S', r'⟩, fun i s q m e => ?_⟩
        · have := S'.keepF Dx (by show upd B.H0 Dx (.lst us') Dx ≠ none; rw [upd_same]; exact fun z => nomatch z)
          rw [this]
          show (if Dx = Dx then none else B.F0 Dx) = none
          rw [if_pos rfl]
        · rcases restE_at q with ⟨_, rfl⟩ | ⟨n, q⟩
          · unfold keepV at m
            split at m <;> cases m
          · exact S'.apart nio i s q m (by rw [wipe_at, if_neg n]; exact e)
    · rintro i m H2 ⟨rfl, hi, F2, ρ2, acc, us, s2, ra, S2, p2⟩
      obtain ⟨j1, j2⟩ := r1 i H2 F2 s2 S2.sub
      by_cases hlt : i < ds.length
      · have ed : ds[i]? = some ds[i] := List.getElem?_eq_getElem hlt
        rw [List.drop_eq_getElem_cons hlt] at p2
        obtain ⟨go, y⟩ := j2 _ ed
        refine .inr ⟨go, fun H' => PL (i + 1) H', fun H' pl => ⟨ds.length - (i + 1), by omega, rfl, hlt, pl⟩, fun x H' hy => ?_⟩
        obtain ⟨F3, g3, r3⟩ := y x H' hy
        have p3 : PostL F2 (match compTurn g tt te ds[i] acc ρ2 with
          | .ok acc' ρ' => if acc.length < sizeLine then compL vs g tt te (ds.drop (i + 1)) acc' (wipeE ρ' vs) else .bad
          | _ => .bad) := p2
        unfold compTurn M.bind at p3
        refine ⟨Dx, .lst us, F3, ρ2, ds[i], S2.grow g3, r3, ?_⟩
        cases e1 : g ds[i] ρ2 with
        | err c fs ρ' => rw [e1] at p3; exact p3
        | bad => rw [e1] at p3; exact p3
        | ok u ρ3 =>
          simp only [e1, then_ok] at p3
          intro σ4 H4 F4 S4 s4 w4
          rw [wipe_wipe] at w4
          refine ⟨w4, Dx, .lst us, F4, ρ3, S4, ?_⟩
          cases e2 : tt ρ3 with
          | err c fs ρ' => rw [e2] at p3; exact p3.elim
          | bad => rw [e2] at p3; exact p3.elim
          | ok b ρ4 =>
            simp only [e2, then_ok] at p3
            intro b' H5 F5 S5 s5 rb
            cases rb
            cases b with
            | false =>
              rw [if_neg (by decide)] at p3
              have p3' : PostL F2 (if acc.length < sizeLine then compL vs g tt te (ds.drop (i + 1)) acc (wipeE ρ4 vs) else .bad) := p3
              by_cases hz : acc.length < sizeLine
              · rw [if_pos hz] at p3'
                have sm := (g3.f.trans s4).trans s5
                refine ⟨F5, wipeE ρ4 vs, acc, us, s2.trans sm, RepL.mono sm _ _ ra, by rw [← w4]; exact S5.wipe hio, ?_⟩
                cases e3 : compL vs g tt te (ds.drop (i + 1)) acc (wipeE ρ4 vs) with
                | err c fs ρ' => rw [e3] at p3'; exact p3'
                | bad => rw [e3] at p3'; exact p3'
                | ok a' ρ' => rw [e3] at p3'; exact fun H' F' us' s' => p3' H' F' us' (sm.trans s')
              · rw [if_neg hz] at p3'
                exact p3'.elim
            | true =>
              rw [if_pos rfl] at p3
              show ∃ Dx o, tG X (DL.addB B Dx o) W0 (RE X) te σ4 H5 _
              refine ⟨Dx, .lst us, F5, ρ4, S5, ?_⟩
              cases e4 : te ρ4 with
              | err c fs ρ' => rw [e4] at p3; exact p3.elim
              | bad => rw [e4] at p3; exact p3.elim
              | ok y ρ5 =>
                simp only [e4, then_ok] at p3
                intro v H6 F6 S6 s6 rv
                have p3' : PostL F2 (if acc.length < sizeLine then compL vs g tt te (ds.drop (i + 1)) (acc ++ [y]) (wipeE ρ5 vs) else .bad) := p3
                by_cases hz : acc.length < sizeLine
                · rw [if_pos hz] at p3'
                  have sm := ((g3.f.trans s4).trans s5).trans s6
                  refine ⟨us, atD S6, by rw [← ra.length]; exact hz, F6, wipeE ρ5 vs, acc ++ [y], us ++ [v], s2.trans sm, (RepL.mono sm _ _ ra).append (.one rv), ?_, ?_⟩
                  · rw [← w4]; exact (S6.chgB nio).wipe hio
                  · cases e3 : compL vs g tt te (ds.drop (i + 1)) (acc ++ [y]) (wipeE ρ5 vs) with
                    | err c fs ρ' => rw [e3] at p3'; exact p3'
                    | bad => rw [e3] at p3'; exact p3'
                    | ok a' ρ' => rw [e3] at p3'; exact fun H' F' us' s' => p3' H' F' us' (sm.trans s')
                · rw [if_neg hz] at p3'
                  exact p3'.elim
      · have ei : i = ds.length := by omega
        subst ei
        rw [List.drop_length] at p2
        exact .inl ⟨j1 (Nat.le_refl _), p2 H2 F2 us (Same.refl _) ra S2⟩
  · simp only [if_neg hok] at p
    exact p.elim
theorem rd_G {s : Shared} {H : Hp} {env : PySem.Env} {scope : Scope} {fp : List Addr} {vs : List Nat} {tg : Expr} {g : D → M Unit} (hg : ∀ B : Bd, STw (X.blk s H scope env fp) B vs tg g) : PG (X.blk s H scope env fp) tg (rdG X B vs g) :=
  ⟨fun pins s' σ H' v u Q I r ⟨Dx, o, q⟩ => (hg (DL.addB B Dx o)).run pins s' σ H' v u Q I r q⟩
theorem rd_T {s : Shared} {H : Hp} {env : PySem.Env} {scope : Scope} {fp : List Addr} {ifs : List Expr} {tt : M Bool} (ht : ∀ B : Bd, STs (X.blk s H scope env fp) B W0 ifs tt) : PTs (X.blk s H scope env fp) ifs (rdT X B tt) :=
  ⟨fun pins s' σ H' Q I ⟨Dx, o, Fq, ρq, aq⟩ => (ht (DL.addB B Dx o)).run pins s' σ H' Q I ⟨Fq, ρq, aq.sim, aq.post⟩⟩
theorem rd_E {s : Shared} {H : Hp} {env : PySem.Env} {scope : Scope} {fp : List Addr} {e : Expr} {te : M D} (he : ∀ B : Bd, SE (X.blk s H scope env fp) B W0 e te) : PE (X.blk s H scope env fp) e (rdE X B te) :=
  ⟨fun pins s' σ H' Q I ⟨Dx, o, Fq, ρq, aq⟩ => (he (DL.addB B Dx o)).run pins s' σ H' Q I ⟨Fq, ρq, aq.sim, aq.post⟩⟩
section
variable {elt tg iter : Expr} {ifs : List Expr} {scope : Scope} {own : List (Str × Nat)} {vs : List Nat} {pos : Pos} {src : M (List D)} {g : D → M Unit} {tt : M Bool} {te : M D}
theorem sv_lc (hc : X.calm = true) (hN : X.N.Nodup) (hi : SI X B W tg iter src) (ok : BlkOk X.N X.env.scope scope own) (hvs : own.map (·.2) = vs)
    (hg : ∀ (s : Shared) (H : Hp) (C : Addr) (cl : List (Str × Addr)) (fp : List Addr) (B : Bd), STw (X.blk s H scope (compEnvC scope cl C X.env) fp) B vs tg g)
    (ht : ∀ (s : Shared) (H : Hp) (C : Addr) (cl : List (Str × Addr)) (fp : List Addr) (B : Bd), STs (X.blk s H scope (compEnvC scope cl C X.env) fp) B W0 ifs tt)
    (he : ∀ (s : Shared) (H : Hp) (C : Addr) (cl : List (Str × Addr)) (fp : List Addr) (B : Bd), SE (X.blk s H scope (compEnvC scope cl C X.env) fp) B W0 elt te) (hs : ∀ x, foldedSetIterable iter X.env x = pure x) :
    SV X B W (.ListComp elt [⟨tg, iter, ifs, 0⟩] scope pos) (mLc vs src g tt te) := by
  subst hvs
  exact pe_mono (pe_lc hc hN hi ok (fun s H C cl fp => rd_G (B := B) (hg s H C cl fp)) (fun s H C cl fp => rd_T (B := B) (ht s H C cl fp)) (fun s H C cl fp => rd_E (B := B) (he s H C cl fp)) hs) fun σ H Q h => lc_key h
theorem ss_setLc {i : Nat} {y : Str} {py spos : Pos} (hc : X.calm = true) (hN : X.N.Nodup) (hy : X.N[i]? = some y) (hyl : X.env.scope.names.lookup y = some .local)
    (hsw : swapsWith (.ListComp elt [⟨tg, iter, ifs, 0⟩] scope pos) (some (.Name y py)) spos.line X.env = pure true) (hi : SI X B W tg iter src) (ok : BlkOk X.N X.env.scope scope own) (hvs : own.map (·.2) = vs)
    (hg : ∀ (s : Shared) (H : Hp) (C : Addr) (cl : List (Str × Addr)) (fp : List Addr) (B : Bd), STw (X.blk s H scope (compEnvC scope cl C X.env) fp) B vs tg g)
    (ht : ∀ (s : Shared) (H : Hp) (C : Addr) (cl : List (Str × Addr)) (fp : List Addr) (B : Bd), STs (X.blk s H scope (compEnvC scope cl C X.env) fp) B W0 ifs tt)
    (he : ∀ (s : Shared) (H : Hp) (C : Addr) (cl : List (Str × Addr)) (fp : List Addr) (B : Bd), SE (X.blk s H scope (compEnvC scope cl C X.env) fp) B W0 elt te) (hs : ∀ x, foldedSetIterable iter X.env x = pure x) :
    SS X B W (.Assign [.Name y py] (.ListComp elt [⟨tg, iter, ifs, 0⟩] scope pos) spos) (mSet i (mLc vs src g tt te)) := by
  subst hvs
  refine ps_mono (ps_setLc hc hN hy hyl hsw hi ok (fun s H C cl fp => rd_G (B := B) (hg s H C cl fp)) (fun s H C cl fp => rd_T (B := B) (ht s H C cl fp)) (fun s H C cl fp => rd_E (B := B) (he s H C cl fp)) hs) fun D σ H ⟨F, ρ, S, p⟩ => ?_
  exact lc_key (At.goS S p fun v H1 F1 ρ1 r s1 S1 r1 p1 => set_fin S1 r1 p1)
end
end
end DL

namespace DL
open PySem PySem.Spec PyProof.Rows L2

/-! ### enumerate, sorted of ints, any, all -/
def enumD (ds : List D) : List D := ds.zipIdx.map fun p => .tup [.int (p.2 : Nat), p.1]
theorem enumD_get {ds : List D} {i : Nat} {d : D} (h : (enumD ds)[i]? = some d) : ∃ x, ds[i]? = some x ∧ d = .tup [.int (i : Nat), x] := by
  unfold enumD at h
  rw [List.getElem?_map, List.getElem?_zipIdx] at h
  cases e : ds[i]? with
  | none => rw [e] at h; cases h
  | some x => rw [e] at h; cases h; exact ⟨x, rfl, by simp⟩
def mEnum (f : M (List D)) : M (List D) := f.bind fun ds => fun ρ => match ds with
  | [.lst xs] => .ok (enumD xs) ρ
  | [.rol xs] => .ok (enumD xs) ρ
  | _ => .bad
section
variable {X : Cx} {B : Bd} {W : WX}
theorem j_enum {F : Hp} {a : Addr} {ds : List D} {vs : List V} (h : SqL X.K F a vs) (r : RepL X.K X.mg F ds vs) : JOk X (Ite X.K a) F (enumD ds) := fun i H F' s1 s2 => by
  have hq : SqL X.K H a vs := s2.seq (s1.seq h)
  refine ⟨fun hl => ⟨vs, hq, by rw [← r.length]; simpa [enumD] using hl⟩, fun d e => ?_⟩
  obtain ⟨x0, e1, rfl⟩ := enumD_get e
  obtain ⟨v, e2, rv⟩ := r.get e1
  refine ⟨⟨vs, v, hq, e2⟩, fun x H' ⟨T, y, ex, hT, eH, hy⟩ => ?_⟩
  subst ex
  subst eH
  have ey := hy vs hq
  rw [e2] at ey
  cases ey
  refine ⟨upd F' T (.tup [.int (i : Nat), v]), Grow.new s2 hT, ?_⟩
  have g := Grow.new (o := HO.tup [.int (i : Nat), v]) s2 hT
  simp only [Rep]
  exact ⟨T, [.int (i : Nat), v], rfl, .inl (.inl upd_same), .cons (by simp only [Rep]) (.one (Rep.mono (s1.trans g.f) x0 v rv))⟩
theorem si_enum {e : Expr} {f : M (List D)} {p pos tpos : Pos} {elts : List Expr} {kk : Nat} (hg : Gl X "enumerate") (hm : X.mg "enumerate" = none) (ha : SDs X B W [e] f) (hs : starEach [e] X.env = [(false, eval e X.env)]) :
    SI X B W (.Tuple elts kk tpos) (.Call (.Name "enumerate" p) [e] [] pos) (mEnum f) :=
  pi_mono (pi_enum hg hm ha hs) fun σ H R ⟨F, ρ, h⟩ => h.go fun vs H1 F1 ρ1 ds s1 r1 h1 => by
    have r1 : RepL X.K X.mg F1 ds vs := r1
    match ds, r1, h1 with
    | [.lst xs], r1, h1 =>
      obtain ⟨v, rfl, rv⟩ := repL_one r1
      simp only [Rep] at rv
      obtain ⟨a, us, rfl, q1, q2⟩ := rv
      exact ⟨a, us, rfl, SqL.of (h1.sim.sub _ _ q1), h1.fin rfl h1.sim (Same.refl _) (j_enum (SqL.of q1) q2)⟩
    | [.rol xs], r1, h1 =>
      obtain ⟨v, rfl, rv⟩ := repL_one r1
      simp only [Rep] at rv
      obtain ⟨a, us, rfl, q1, q2⟩ := rv
      exact ⟨a, us, rfl, h1.sim.sub.seq q1, h1.fin rfl h1.sim (Same.refl _) (j_enum q1 q2)⟩
    | [], r1, h1 => exact absurd rfl h1.nobad
    | d :: _ :: _, r1, h1 => exact absurd (by cases d <;> rfl) h1.nobad
    | [.non], r1, h1 => exact absurd rfl h1.nobad
    | [.bl _], r1, h1 => exact absurd rfl h1.nobad
    | [.int _], r1, h1 => exact absurd rfl h1.nobad
    | [.str _], r1, h1 => exact absurd rfl h1.nobad
    | [.tup _], r1, h1 => exact absurd rfl h1.nobad
    | [.dct _], r1, h1 => exact absurd rfl h1.nobad
    | [.dtt _], r1, h1 => exact absurd rfl h1.nobad
    | [.obj _ _], r1, h1 => exact absurd rfl h1.nobad
/-! sorted, any, all -/
def sortI (ns : List Int) : List Int := ns.mergeSort fun a b => decide (a ≤ b)
theorem sortI_perm (ns : List Int) : (sortI ns).Perm ns := List.mergeSort_perm ns _
theorem sortI_sorted (ns : List Int) : (sortI ns).Pairwise (· ≤ ·) := by
  have := List.pairwise_mergeSort (le := fun (a b : Int) => decide (a ≤ b)) (fun a b c h1 h2 => by simp at *; omega) (fun a b => by simp; omega) ns
  exact this.imp fun h => by simpa using h
theorem sorted_unique {xs ys : List Int} (p : xs.Perm ys) (hx : xs.Pairwise (· ≤ ·)) (hy : ys.Pairwise (· ≤ ·)) : xs = ys :=
  p.eq_of_pairwise (fun a b _ _ h1 h2 => Int.le_antisymm h1 h2) hx hy
def opSorted : OpN
  | [.lst xs] => (D.ints? xs).map fun ns => (.lst ((sortI ns).map D.int), true)
  | _ => none
theorem repL_intsV {K : PySem.W.Frag} {mg : Str → Option Value} {F : Hp} : ∀ ns : List Int, RepL K mg F (ns.map D.int) (ns.map V.int)
  | [] => .nil
  | n :: ns => .cons (by simp only [Rep]) (repL_intsV ns)
theorem od_sorted : CallR X (.builtin "sorted") (rDN X opSorted) := by
  intro pins s σ H vs us Q I r ⟨F, ds, d, nw, sub, hd, e, a⟩
  match ds, e, hd with
  | [.lst xs], e, hd =>
    obtain ⟨ns, q, e⟩ := map_some e
    cases e
    obtain ⟨v, rfl, h⟩ := reps1 hd
    obtain ⟨p, ws, rfl, h1, h2⟩ := h.lst sub
    have ev := ints_rep h2 q
    subst ev
    refine cr_sortedI pins s σ H _ us Q I r ⟨p, ns, rfl, SqL.of h1, fun ns' l hp hs hl => ?_⟩
    have : ns' = sortI ns := sorted_unique (hp.trans (sortI_perm ns).symm) hs (sortI_sorted ns)
    subst this
    exact a l _ hl ⟨_, rfl, repL_intsV _⟩
def D.bl? : D → Option Bool
  | .bl b => some b
  | _ => none
def D.bls? : List D → Option (List Bool)
  | [] => some []
  | d :: r => match d.bl?, D.bls? r with
    | some b, some bs => some (b :: bs)
    | _, _ => none
theorem bls_rep {K : PySem.W.Frag} {mg : Str → Option Value} {F : Hp} : ∀ {xs : List D} {vs : List V} {bs : List Bool}, RepL K mg F xs vs → D.bls? xs = some bs → vs = bs.map V.bl
  | [], _, _, h, e => by simp only [RepL] at h; cases e; exact h
  | d :: r, _, _, h, e => by
    simp only [RepL] at h
    obtain ⟨v, q, rfl, h1, h2⟩ := h
    unfold D.bls? at e
    cases e1 : d.bl? with
    | none => rw [e1] at e; cases e
    | some b =>
      cases e2 : D.bls? r with
      | none => rw [e1, e2] at e; cases e
      | some bs =>
        rw [e1, e2] at e
        cases e
        rw [bls_rep h2 e2]
        cases d <;> first | cases e1 | skip
        simp only [Rep] at h1
        rw [h1]
        rfl
def opAny : OpN
  | [.lst xs] => (D.bls? xs).map fun bs => (.bl (bs.any id), false)
  | _ => none
def opAll : OpN
  | [.lst xs] => (D.bls? xs).map fun bs => (.bl (bs.all id), false)
  | _ => none
theorem od_any (hc : X.calm = true) : CallR X (.builtin "any") (rDN X opAny) := by
  intro pins s σ H vs us Q I r ⟨F, ds, d, nw, sub, hd, e, a⟩
  match ds, e, hd with
  | [.lst xs], e, hd =>
    obtain ⟨bs, q, e⟩ := map_some e
    cases e
    obtain ⟨v, rfl, h⟩ := reps1 hd
    obtain ⟨p, ws, rfl, h1, h2⟩ := h.lst sub
    have ev := bls_rep h2 q
    subst ev
    exact cr_any hc pins s σ H _ us Q I r ⟨p, bs, rfl, SqL.of h1, ans_atom sub a fun F => by simp only [Rep]⟩
theorem od_all (hc : X.calm = true) : CallR X (.builtin "all") (rDN X opAll) := by
  intro pins s σ H vs us Q I r ⟨F, ds, d, nw, sub, hd, e, a⟩
  match ds, e, hd with
  | [.lst xs], e, hd =>
    obtain ⟨bs, q, e⟩ := map_some e
    cases e
    obtain ⟨v, rfl, h⟩ := reps1 hd
    obtain ⟨p, ws, rfl, h1, h2⟩ := h.lst sub
    have ev := bls_rep h2 q
    subst ev
    exact cr_all hc pins s σ H _ us Q I r ⟨p, bs, rfl, SqL.of h1, ans_atom sub a fun F => by simp only [Rep]⟩
end
end DL

namespace DL
open PySem PySem.Spec PyProof.Rows L2

/-! ### sorted(xs, reverse=True) -/
def mSortRev (f : M (List D)) : M (D × Bool) := f.bind fun ds => fun ρ => match ds with
  | [.lst xs] => match D.ints? xs with
    | some ns => .ok (.lst ((sortI ns).reverse.map D.int), true) ρ
    | none => .bad
  | _ => .bad
section
variable {X : Cx} {B : Bd} {W : WX}
theorem sv_sortedRev {e : Expr} {f : M (List D)} {j : Nat} {p p2 kpos pos : Pos} (hg : Gl X "sorted") (hm : X.mg "sorted" = none) (hv : bootBuiltins "sorted" = some (.builtin "sorted")) (ha : SDs X B W [e] f)
    (he : backTo pos (starEach [e] X.env) = (false, eval e X.env) :: backTo pos (starEach [] X.env)) (hpl : (backTo pos (starEach [e] X.env)).any (·.1) = false)
    (hall : (backToKw pos (keywordEach [⟨some "reverse", .Constant (.bool true) j p2, kpos⟩] X.env)).all (·.1.isSome) = true) (hnone : (backToKw pos (keywordEach [⟨some "reverse", .Constant (.bool true) j p2, kpos⟩] X.env)).any (·.1.isNone) = false)
    (hks : (backToKw pos (keywordEach [⟨some "reverse", .Constant (.bool true) j p2, kpos⟩] X.env)).filterMap (·.1) = [Str.ofString "reverse"]) :
    SV X B W (.Call (.Name "sorted" p) [e] [⟨some "reverse", .Constant (.bool true) j p2, kpos⟩] pos) (mSortRev f) := by
  refine pe_mono (pe_callBK (cr_sortedRev (b := true)) hg hm hv ha (pk_cons pe_bl pk_nil) (by decide) (by decide) he hpl hall hnone hks) fun σ H Q ⟨F, ρ, h⟩ => ?_
  refine h.go fun vs H1 F1 ρ1 ds s1 r1 h1 => ?_
  have r1 : RepL X.K X.mg F1 ds vs := r1
  cases ds with
  | nil => exact absurd rfl h1.nobad
  | cons d r =>
    cases d with
    | lst xs =>
      cases r with
      | cons _ _ => exact absurd rfl h1.nobad
      | nil =>
        obtain ⟨v, rfl, rv⟩ := repL_one r1
        simp only [Rep] at rv
        obtain ⟨a, us, rfl, q1, q2⟩ := rv
        cases e1 : D.ints? xs with
        | none => exact absurd (by simp only [e1]) h1.nobad
        | some ns =>
          have ev := ints_rep q2 e1
          subst ev
          refine ⟨a, ns, rfl, rfl, SqL.of (h1.sim.sub _ _ q1), fun ns' l hp ho hl => ?_⟩
          have ho' : ns'.Pairwise (· ≥ ·) := ho
          have : ns' = (sortI ns).reverse := by
            have h2 := sorted_unique (xs := ns'.reverse) (ys := sortI ns) ((List.reverse_perm _).trans (hp.trans (sortI_perm ns).symm)) (List.pairwise_reverse.mpr ho') (sortI_sorted ns)
            rw [← h2, List.reverse_reverse]
          subst this
          have an : Ans X H1 F1 (.lst ((sortI ns).reverse.map D.int)) Q true := h1.ans (by simp only [e1])
          exact an l _ hl ⟨_, rfl, repL_intsV _⟩
    | _ => exact absurd (by cases r <;> rfl) h1.nobad
end

/-! ### methods that only read: xs.count(n), xs.index(d), texts' methods -/
def isTyD (T : String) : D → Bool
  | .lst _ => T == "list"
  | .rol _ => T == "list"
  | .str _ => T == "str"
  | .dct _ => T == "dict"
  | .dtt _ => T == "dict"
  | _ => false
abbrev OpR2 := D → List D → Option (D × Bool)
def mMeth (T : String) (op : OpR2) (o : M OV) (args : M (List OV)) : M (D × Bool) := o.bind fun x => fun ρ => match x.get ρ with
  | some d => if isTyD T d = true then
      (args.bind fun os => fun ρ => match x.get ρ, ovs ρ os with
        | some d, some ds => match op d ds with
          | some r => .ok r ρ
          | none => .bad
        | _, _ => .bad) ρ
    else .bad
  | none => .bad
def rDM (X : Cx) (op : OpR2) : V → List V → Hp → VK → Prop := fun x xs H Q => ∃ F dx ds d nw, Same F H ∧ RepB X H F dx x ∧ RepBs X H F ds xs ∧ op dx ds = some (d, nw) ∧ Ans X H F d Q nw
section
variable {X : Cx} {B : Bd} {W : WX}
theorem tyV_D {T : String} {H F : Hp} {d : D} {v : V} (s : Same F H) (h : RepB X H F d v) (e : isTyD T d = true) : tyV X.K T v H := by
  cases d with
  | lst xs =>
    have e' : T = "list" := by simpa [isTyD] using e
    obtain ⟨a, vs, rfl, h1, _⟩ := h.lst s
    exact .inl ⟨e', vs, SqL.of h1⟩
  | rol xs =>
    have e' : T = "list" := by simpa [isTyD] using e
    obtain ⟨a, vs, rfl, h1, _⟩ := h.rol s
    exact .inl ⟨e', vs, h1⟩
  | str z =>
    have e' : T = "str" := by simpa [isTyD] using e
    cases h.str
    exact e'
  | dct kvs =>
    have e' : T = "dict" := by simpa [isTyD] using e
    obtain ⟨a, ks, rfl, h1, _⟩ := h.dct s
    exact .inr (.inr (.inl ⟨e', .inl ⟨ks, h1⟩⟩))
  | dtt kvs =>
    have e' : T = "dict" := by simpa [isTyD] using e
    obtain ⟨a, ks, rfl, h1, _⟩ := h.dtt s
    exact .inr (.inr (.inl ⟨e', .inr ⟨ks, h1⟩⟩))
  | _ => cases e
theorem meth_read {T : String} {op : OpR2} {fo : M OV} {fa : M (List OV)} {F : Hp} {ρ : Env} {σ : St} {H : Hp} {Q : V → Hp → Prop} (h : At X B W (RV X B) (mMeth T op fo fa) F ρ σ H Q) :
    tG X B W (RO X) fo σ H (fun x H1 => tyV X.K T x H1 ∧ tG X B W (RL X) fa σ H1 (fun xs H2 => rDM X op x xs H2 Q)) := by
  refine h.go fun v H1 F1 ρ1 o s1 r1 h1 => ?_
  cases e1 : o.get ρ1 with
  | none => exact absurd (by simp only [e1]) h1.nobad
  | some d =>
    by_cases c : isTyD T d = true
    · have p := h1.post
      simp only [e1, if_pos c] at p
      have h2 : At X B W (RV X B) (fa.bind fun os => fun ρ => match o.get ρ, ovs ρ os with
        | some d, some ds => match op d ds with
          | some r => .ok r ρ
          | none => .bad
        | _, _ => .bad) F1 ρ1 σ H1 Q := ⟨h1.sim, p⟩
      refine ⟨tyV_D h1.sim.sub (r1.read h1.sim e1) c, h2.go fun vs H2 F2 ρ2 os s2 r2 h3 => ?_⟩
      cases e2 : o.get ρ2 with
      | none => exact absurd (by simp only [e2]) h3.nobad
      | some d2 =>
        cases e3 : ovs ρ2 os with
        | none => exact absurd (by simp only [e2, e3]) h3.nobad
        | some ds =>
          cases e4 : op d2 ds with
          | none => exact absurd (by simp only [e2, e3, e4]) h3.nobad
          | some r =>
            have r1' : RO X σ H2 F2 ρ2 o v := r1.mono s2
            exact ⟨F2, d2, ds, r.1, r.2, h3.sim.sub, r1'.read h3.sim e2, ROs.read h3.sim r2 e3, e4, h3.ans (by simp only [e2, e3, e4])⟩
    · exact absurd (by simp only [e1, if_neg c]) h1.nobad
theorem sv_meth {T : String} {op : OpR2} {name : Str} {id : String} {o e : Expr} {es : List Expr} {fo : M OV} {fa : M (List OV)} {apos cpos : Pos} (pa : PlainAttrs T) (slot : Slot T name id) (hty : typeOf (.builtin id) = pure (.type "method_descriptor")) (hm : MtR X id (rDM X op))
    (ho : SO X B W o fo) (ha : SOs X B W (e :: es) fa) (hbase : attributeBase o name X.env (eval o X.env) = eval o X.env)
    (hfew : ((backTo cpos (starEach (e :: es) X.env)).all (fun x => !x.1) && (backToKw cpos (keywordEach [] X.env)).all (fun x => x.1.isSome)
      && decide ((e :: es).length + ([] : List Keyword).length + (if ([] : List Keyword).isEmpty then 0 else 1) < 30)) = true)
    (hline : (apos.endLine == cpos.line) = true) (hs : starEach (e :: es) X.env = (false, eval e X.env) :: starEach es X.env) (hplain : (backTo cpos (starEach es X.env)).any (·.1) = false) :
    SV X B W (.Call (.Attribute o name apos) (e :: es) [] cpos) (mMeth T op fo fa) :=
  pe_mono (pe_bm pa slot hty hm ho ha hbase hfew hline hs hplain) fun σ H Q ⟨F, ρ, h⟩ => meth_read h
def opCount : OpR2
  | .lst xs, [.int k] => (D.ints? xs).map fun ns => (.int (ns.count k : Nat), false)
  | _, _ => none
theorem or_count : MtR X "list.count" (rDM X opCount) := by
  intro pins s σ H x xs v us Q I rx rxs ⟨F, dx, ds, d, nw, sub, hx, hds, e, a⟩
  cases dx with
  | lst zs =>
    match ds, e, hds with
    | [.int k], e, hds =>
      obtain ⟨ns, q, e⟩ := map_some e
      cases e
      obtain ⟨w, rfl, hw⟩ := reps1 hds
      cases hw.int
      obtain ⟨p, ws, rfl, h1, h2⟩ := hx.lst sub
      have ev := ints_rep h2 q
      subst ev
      exact mt_lcount pins s σ H _ _ v us Q I rx rxs ⟨p, ns, k, rfl, rfl, SqL.of h1, ans_atom sub a fun F => by simp only [Rep]⟩
  | _ => cases ds <;> cases e
def opIndex : OpR2
  | .lst xs, [y] => match D.pys xs, y.py with
    | some ps, some p => if (SeqAt.shaped (.list ps) && SeqAt.shaped p) = true then (ps.findIdx? fun z => PyData.eqv z p).map fun j => (.int (j : Nat), false) else none
    | _, _ => none
  | _, _ => none
theorem or_index (hu : X.A.units + 65 < cLine) : MtR X "list.index" (rDM X opIndex) := by
  intro pins s σ H x xs v us Q I rx rxs ⟨F, dx, ds, d, nw, sub, hx, hds, e, a⟩
  cases dx with
  | lst zs =>
    match ds, e, hds with
    | [y], e, hds =>
      unfold opIndex at e
      cases e1 : D.pys zs with
      | none => simp only [e1] at e; cases e
      | some ps =>
        cases e2 : y.py with
        | none => simp only [e1, e2] at e; cases e
        | some p =>
          simp only [e1, e2] at e
          by_cases c : (SeqAt.shaped (.list ps) && SeqAt.shaped p) = true
          · rw [if_pos c] at e
            obtain ⟨j, e3, e⟩ := map_some e
            cases e
            obtain ⟨w, rfl, hw⟩ := reps1 hds
            rw [Bool.and_eq_true] at c
            have hl : (D.lst zs).py = some (.list ps) := by simp only [D.py, e1]
            have dl := dp_ofB sub hx hl
            obtain ⟨b, ws, rfl, h1, h2⟩ := hx.lst sub
            rw [List.findIdx?_eq_some_iff_getElem] at e3
            obtain ⟨hj, k1, k2⟩ := e3
            refine mt_indexD hu pins s σ H _ _ v us Q I rx rxs ⟨b, w, p, ps, j, ps[j], rfl, rfl, dl, dp_ofB sub hw e2, c.1, c.2, List.getElem?_eq_getElem hj, k1, fun m z' hm hz => ?_, ans_atom sub a fun F => by simp only [Rep]⟩
            obtain ⟨hm2, rfl⟩ := List.getElem?_eq_some_iff.mp hz
            simpa using k2 m hm
          · rw [if_neg c] at e
            cases e
    | [], e, hds => cases e
    | _ :: _ :: _, e, hds => cases e
  | _ => cases ds <;> cases e
end
end DL

namespace DL
open PySem PySem.Spec PyProof.Rows L2

/-! ### ends, boot names, what else a derivation wants -/
theorem bt_len : bootBuiltins "len" = some (.builtin "len") := by decide +kernel
theorem bt_abs : bootBuiltins "abs" = some (.builtin "abs") := by decide +kernel
theorem bt_max : bootBuiltins "max" = some (.builtin "max") := by decide +kernel
theorem bt_min : bootBuiltins "min" = some (.builtin "min") := by decide +kernel
theorem bt_sum : bootBuiltins "sum" = some (.builtin "sum") := by decide +kernel
theorem bt_any : bootBuiltins "any" = some (.builtin "any") := by decide +kernel
theorem bt_all : bootBuiltins "all" = some (.builtin "all") := by decide +kernel
theorem bt_sorted : bootBuiltins "sorted" = some (.builtin "sorted") := by decide +kernel
theorem bt_isinstance : bootBuiltins "isinstance" = some (.builtin "isinstance") := by decide +kernel
theorem bt_int : bootBuiltins "int" = some (.type "int") := by decide +kernel
theorem bt_bool : bootBuiltins "bool" = some (.type "bool") := by decide +kernel
theorem bt_str : bootBuiltins "str" = some (.type "str") := by decide +kernel
theorem bt_list : bootBuiltins "list" = some (.type "list") := by decide +kernel
theorem bt_tuple : bootBuiltins "tuple" = some (.type "tuple") := by decide +kernel
theorem bt_dict : bootBuiltins "dict" = some (.type "dict") := by decide +kernel
theorem bt_set : bootBuiltins "set" = some (.type "set") := by decide +kernel

/-- an error of C1 at «except C2» -/
theorem exm_of {K : PySem.W.Frag} {C1 C2 : Addr} {b : Bool} (h1 : PySem.W.subIn K (.ref C2) (.type "BaseException") = some true) (h2 : PySem.W.isClsIn K C2 = true) (h3 : PySem.W.typeIn K (.ref C2) = some (.type "type")) (h4 : PySem.W.subIn K (.ref C1) (.ref C2) = some b) :
    PySem.W.exmOne K (.ref C1) (.ref C2) = some b := by
  have h2' : (PySem.W.clsIn K C2).isSome = true := h2
  unfold PySem.W.exmOne PySem.W.kitCls
  rw [if_pos (by rw [h1]; rfl)]
  show (if ((PySem.W.clsIn K C2).isSome && PySem.W.typeIn K (.ref C2) == some (.type "type")) = true then PySem.W.subIn K (.ref C1) (.ref C2) else none) = some b
  rw [if_pos (by rw [h2', h3]; rfl)]
  exact h4
section
variable {P : Program} {w : World} {K : PySem.W.Frag} {mg : Str → Option Value} {base : Heap}
theorem fn_badN {k : Nat} {f : Addr} {fd : FuncData} {ps : List Str} : FnOk P w K mg base (L2.CX P w) k f fd ps (spN K mg ps.length fun _ => .bad) :=
  ⟨fun vs H Q E q => q.1, fun A outer s H args us vs Q E hr he hb hv ⟨_, F, as, io, S, p⟩ => p.elim⟩
theorem fn_bad {k : Nat} {f : Addr} {fd : FuncData} {ps : List Str} : FnOk P w K mg base (L2.CX P w) k f fd ps (spD K mg ps.length fun _ => .bad) :=
  ⟨fun vs H Q E q => q.1, fun A outer s H args us vs Q E hr he hb hv ⟨_, F, as, io, S, p⟩ => p.elim⟩
/-- the law's promise: True, whatever the script -/
def spLaw (K : PySem.W.Frag) : Sp := fun vs H Q _ => ∃ (a : Addr) (ns : List Int), vs = [.ref a] ∧ SqL K H a (ns.map V.int) ∧ ns.length ≤ 63 ∧ ∀ v H', v = .bl true → Q v H'
theorem repL_ints {F : Hp} : ∀ ns : List Int, RepL K mg F (ns.map D.int) (ns.map V.int)
  | [] => .nil
  | n :: ns => .cons (by simp only [Rep]) (repL_ints ns)
theorem law_end {k : Nat} {f : Addr} {fd : FuncData} {fn : Fn} (F : FnOk P w K mg base (L2.CX P w) k f fd ["script"] (spD K mg 1 fn)) (h : ∀ ns : List Int, ns.length ≤ 63 → ∃ ρ, fn [.val (.rol (ns.map D.int))] = .ok (.bl true) ρ) :
    FnOk P w K mg base (L2.CX P w) k f fd ["script"] (spLaw K) :=
  F.imp fun vs H Q E ⟨a, ns, ev, hs, hl, hq⟩ => by
    subst ev
    refine ⟨rfl, H, [.val (.rol (ns.map D.int))], [], ⟨Same.refl _, rfl, fun i s e => ?_, fun i j s t b e1 e2 m1 m2 => ?_, fun p hp => (by cases hp), fun b o e _ => e, fun b _ => rfl, fun b e => e⟩, ?_⟩
    · match i, e with
      | 0, e =>
        cases e
        exact ⟨.ref a, rfl, by simp only [Rep]; exact ⟨a, _, rfl, hs, repL_ints ns⟩⟩
      | i + 1, e => simp at e
    · match i, e1 with
      | 0, e1 => cases e1; cases m1
      | i + 1, e1 => simp at e1
    · obtain ⟨ρ, e⟩ := h ns hl
      rw [e]
      exact fun σ v H' F' S s r => hq v H' (by simpa only [Rep] using r)
end
theorem cx_no {P : Program} {w : World} {st : List PySem.Env} {H : Hp} {s : Shared} {e : Value} {s' : Shared} (h : L2.CX P w st H s (fun _ _ _ => False) e s') : False := by
  obtain ⟨_, _, _, _, _, _, _, _, _, _, _, _, z⟩ := h
  exact z
/-- a module's constant -/
theorem se_gval {X : Cx} {B : Bd} {W : WX} {x : Str} {d : D} {pos : Pos} (hg : Gl X x) (h : ∃ u v, X.mg x = some u ∧ RelV v u ∧ ∀ F, Rep X.K X.mg F d v) (hd : (x == ("__debug__" : Str)) = false) : SE X B W (.Name x pos) (mLit d) := by
  obtain ⟨u, v, h1, h2, h3⟩ := h
  exact se_tC (pe_glob hg h1 h2 hd) h3
theorem rep_tupK {K : PySem.W.Frag} {mg : Str → Option Value} {F : Hp} {a : Addr} {o : Obj} {its : Array Value} {n : Nat} {vs : List V} {ds : List D} (h : K.lookup a = some o) (hc : o.cls = .type "tuple") (hd : o.data = .seq its n)
    (hv : Vals vs its.toList) (hr : RepL K mg F ds vs) (hz : Nat.ble vs.length 1000 = true) : Rep K mg F (.tup ds) (.ref a) := by
  simp only [Rep]
  have e := hv.length
  simp only [Array.length_toList] at e
  have hz := Nat.le_of_ble_eq_true hz
  exact ⟨a, vs, rfl, .inr ⟨o, its, n, h, hc, hd, by rw [show sizeLine = 16777216 from rfl]; omega, hv⟩, hr⟩
def exEqS (g : ExF) (z : Str) : ExF := fun c fs => match g c fs with
  | some (.str s) => some (.bl (decide (s = z)))
  | _ => none
section
variable {X : Cx} {i : Nat}
theorem he_eqS {e : Expr} {g : ExF} {z : Str} {j : Nat} {p1 pos : Pos} (h : HE X i e g) (hn : behindInMarks .Eq (.Constant (.str z) j p1) = false) : HE X i (.Compare e [.Eq] [.Constant (.str z) j p1] pos) (exEqS g z) := by
  intro a oe cls d pn hz hd
  refine pe_mono (pe_cmpR op_eq (h a oe cls d pn hz hd) pe_str hn) fun σ H Q ⟨F, c, fs, r, sm, er, es, eg, hq⟩ => ?_
  unfold exEqS at eg
  cases e1 : g c fs with
  | none => rw [e1] at eg; cases eg
  | some d1 =>
    rw [e1] at eg
    cases d1 with
    | str s =>
      cases eg
      refine ⟨F, c, fs, .str s, sm, er, es, e1, fun v H' F' gr rv => ?_⟩
      simp only [Rep] at rv
      subst rv
      have q := hq (.bl (decide (s = z))) H' F' gr (by simp only [Rep])
      have e2 : decide (V.str s = V.str z) = decide (s = z) := by simp
      exact ⟨rfl, by rw [e2]; exact q⟩
    | _ => cases eg
end
end DL

namespace DL
open PySem L2

/-! ## what a text's reading comes to: weakest conditions -/
abbrev EQ := Str → List (Str × D) → Env → Prop
def noE : EQ := fun _ _ _ => False
@[irreducible] def wp {α : Type} (m : M α) (ρ : Env) (Q : α → Env → Prop) (E : EQ) : Prop := match m ρ with
  | .ok a ρ' => Q a ρ'
  | .err c fs ρ' => E c fs ρ'
  | .bad => False
section
variable {α β : Type} {ρ : Env} {E : EQ}
theorem wp_mono {m : M α} {Q Q' : α → Env → Prop} {E' : EQ} (h : wp m ρ Q E) (q : ∀ a ρ', Q a ρ' → Q' a ρ') (e : ∀ c fs ρ', E c fs ρ' → E' c fs ρ') : wp m ρ Q' E' := by
  unfold wp at h ⊢
  cases e1 : m ρ with
  | ok a ρ' => rw [e1] at h; exact q _ _ h
  | err c fs ρ' => rw [e1] at h; exact e _ _ _ h
  | bad => rw [e1] at h; exact h
@[simp, simp ↓] theorem wp_ret {a : α} {Q : α → Env → Prop} : wp (M.ret a) ρ Q E = Q a ρ := by unfold wp; rfl
@[simp, simp ↓] theorem wp_bind {m : M α} {k : α → M β} {Q : β → Env → Prop} : wp (M.bind m k) ρ Q E = wp m ρ (fun a ρ' => wp (k a) ρ' Q E) E := by
  unfold wp M.bind
  cases m ρ <;> (first | rfl | (unfold wp; rfl))
@[simp, simp ↓] theorem wp_map {m : M α} {g : α → β} {Q : β → Env → Prop} : wp (M.map g m) ρ Q E = wp m ρ (fun a ρ' => Q (g a) ρ') E := by
  unfold M.map
  rw [wp_bind]
  (first | rfl | (unfold wp; rfl))
@[simp, simp ↓] theorem wp_ok {a : α} {ρ0 : Env} {Q : α → Env → Prop} : wp (fun _ => Out.ok a ρ0) ρ Q E = Q a ρ0 := by unfold wp; rfl
@[simp, simp ↓] theorem wp_err {c : Str} {fs : List (Str × D)} {ρ0 : Env} {Q : α → Env → Prop} : wp (fun _ => (Out.err c fs ρ0 : Out α)) ρ Q E = E c fs ρ0 := by unfold wp; rfl
@[simp, simp ↓] theorem wp_bad {Q : α → Env → Prop} : wp (fun _ => (Out.bad : Out α)) ρ Q E = False := by unfold wp; rfl
@[simp, simp ↓] theorem wp_lit {d : D} {Q : D → Env → Prop} : wp (mLit d) ρ Q E = Q d ρ := by unfold wp; rfl
/-- what a slot bears, asked for -/
def atE (ρ : Env) (i : Nat) (P : Sl → Prop) : Prop := match ρ[i]? with
  | some s => P s
  | none => False
@[simp, simp ↓] theorem atE_0 {s : Sl} {P : Sl → Prop} : atE (s :: ρ) 0 P = P s := rfl
@[simp, simp ↓] theorem atE_s {s : Sl} {i : Nat} {P : Sl → Prop} : atE (s :: ρ) (i + 1) P = atE ρ i P := rfl
@[simp, simp ↓] theorem wp_oVar {i : Nat} {Q : OV → Env → Prop} : wp (oVar i) ρ Q E = atE ρ i (fun s => s ≠ .un ∧ Q (.late i) ρ) := by
  unfold wp oVar atE
  cases ρ[i]? with
  | none => (first | rfl | (unfold wp; rfl))
  | some s => cases s <;> simp
@[simp, simp ↓] theorem wp_eVar {i : Nat} {Q : D → Env → Prop} : wp (eVar i) ρ Q E = atE ρ i (fun s => match s with | .val d => Q d ρ | .own d => Q d (ρ.set i (.val d)) | _ => False) := by
  unfold wp eVar atE
  cases ρ[i]? with
  | none => (first | rfl | (unfold wp; rfl))
  | some s => cases s <;> (first | rfl | (unfold wp; rfl))
@[simp] theorem get_now {d : D} : OV.get ρ (.now d) = some d := rfl
theorem get_late {i : Nat} : OV.get ρ (.late i) = ρ[i]?.bind Sl.get := by
  show (match ρ[i]? with | some s => s.get | none => none) = _
  cases ρ[i]? <;> (first | rfl | (unfold wp; rfl))
@[simp] theorem get_late0 {s : Sl} : OV.get (s :: ρ) (.late 0) = s.get := rfl
@[simp] theorem get_lateS {s : Sl} {i : Nat} : OV.get (s :: ρ) (.late (i + 1)) = OV.get ρ (.late i) := rfl
@[simp] theorem sl_get_val {d : D} : (Sl.val d).get = some d := rfl
@[simp] theorem sl_get_own {d : D} : (Sl.own d).get = some d := rfl
@[simp] theorem sl_get_io {d : D} : (Sl.io d).get = some d := rfl
@[simp] theorem sl_obj_own {d : D} : (Sl.own d).obj = some d := rfl
@[simp] theorem sl_obj_io {d : D} : (Sl.io d).obj = some d := rfl
@[simp] theorem sl_obj_val {d : D} : (Sl.val d).obj = none := rfl
@[simp] theorem sl_upd_own {d e : D} : (Sl.own d).upd e = .own e := rfl
@[simp] theorem sl_upd_io {d e : D} : (Sl.io d).upd e = .io e := rfl
/-- an optional answer, asked for -/
def opt {γ : Type} (o : Option γ) (P : γ → Prop) : Prop := match o with
  | some x => P x
  | none => False
@[simp, simp ↓] theorem opt_some {γ : Type} {x : γ} {P : γ → Prop} : opt (some x) P = P x := rfl
@[simp, simp ↓] theorem opt_none {γ : Type} {P : γ → Prop} : opt none P = False := rfl
@[simp, simp ↓] theorem opt_ifOk {γ : Type} {c : Bool} {x : γ} {P : γ → Prop} : opt (ifOk c x) P = (c = true ∧ P x) := by
  cases c <;> simp [ifOk, opt]
@[simp, simp ↓] theorem opt_map {γ δ : Type} {g : γ → δ} {o : Option γ} {P : δ → Prop} : opt (o.map g) P = opt o fun x => P (g x) := by cases o <;> (first | rfl | (unfold wp; rfl))
@[simp, simp ↓] theorem wp_mBin {op : Op2} {a b : M OV} {Q : D × Bool → Env → Prop} : wp (mBin op a b) ρ Q E = wp a ρ (fun x ρ1 => wp b ρ1 (fun y ρ2 => opt (x.get ρ2) fun dx => opt (y.get ρ2) fun dy => opt (op dx dy) fun r => Q r ρ2) E) E := by
  unfold mBin
  rw [wp_bind]
  congr 1; funext x ρ1
  rw [wp_bind]
  congr 1; funext y ρ2
  unfold wp opt
  try dsimp only
  cases x.get ρ2 with
  | none => (first | rfl | (unfold wp; rfl))
  | some dx =>
    cases y.get ρ2 with
    | none => (first | rfl | (unfold wp; rfl))
    | some dy => cases e : op dx dy <;> simp only [e]
@[simp, simp ↓] theorem wp_mOp {op : Op2} {x y : OV} {Q : D × Bool → Env → Prop} : wp (mOp op x y) ρ Q E = opt (x.get ρ) fun dx => opt (y.get ρ) fun dy => opt (op dx dy) fun r => Q r ρ := by
  unfold wp mOp opt
  cases x.get ρ with
  | none => (first | rfl | (unfold wp; rfl))
  | some dx =>
    cases y.get ρ with
    | none => (first | rfl | (unfold wp; rfl))
    | some dy => cases e : op dx dy <;> simp only [e]
@[simp, simp ↓] theorem wp_asB {m : M (D × Bool)} {Q : Bool → Env → Prop} : wp (asB m) ρ Q E = wp m ρ (fun r ρ' => match r.1 with | .bl b => Q b ρ' | _ => False) E := by
  unfold asB
  rw [wp_bind]
  congr 1; funext r ρ'
  cases r with
  | mk d b => cases d <;> (first | rfl | (unfold wp; rfl))
@[simp, simp ↓] theorem wp_mUn {op : Op1} {a : M OV} {Q : D × Bool → Env → Prop} : wp (mUn op a) ρ Q E = wp a ρ (fun x ρ1 => opt (x.get ρ1) fun dx => opt (op dx) fun r => Q r ρ1) E := by
  unfold mUn
  rw [wp_bind]
  congr 1; funext x ρ1
  unfold wp mOp1 opt
  cases x.get ρ1 with
  | none => (first | rfl | (unfold wp; rfl))
  | some dx => cases e : op dx <;> simp only [e]
@[simp, simp ↓] theorem wp_mTruth {a : M OV} {Q : Bool → Env → Prop} : wp (mTruth a) ρ Q E = wp a ρ (fun x ρ1 => opt (x.get ρ1) fun dx => opt (truthD dx) fun r => Q r ρ1) E := by
  unfold mTruth
  rw [wp_bind]
  congr 1; funext x ρ1
  unfold wp opt
  try dsimp only
  cases x.get ρ1 with
  | none => (first | rfl | (unfold wp; rfl))
  | some dx => cases e : truthD dx <;> simp only [e]
@[simp, simp ↓] theorem wp_mNot {a : M Bool} {Q : Bool → Env → Prop} : wp (mNot a) ρ Q E = wp a ρ (fun b ρ' => Q (!b) ρ') E := by unfold mNot; rw [wp_bind]; (first | rfl | (unfold wp; rfl))
@[simp, simp ↓] theorem wp_bl {a : M Bool} {Q : D → Env → Prop} : wp (bl a) ρ Q E = wp a ρ (fun b ρ' => Q (.bl b) ρ') E := by unfold bl; rw [wp_bind]; (first | rfl | (unfold wp; rfl))
/-- a fork -/
def fork (b : Bool) (P R : Prop) : Prop := if b = true then P else R
@[simp, simp ↓] theorem fork_t {P R : Prop} : fork true P R = P := if_pos rfl
@[simp, simp ↓] theorem fork_f {P R : Prop} : fork false P R = R := if_neg (by decide)
@[simp, simp ↓] theorem fork_d {c : Prop} [Decidable c] {P R : Prop} : fork (decide c) P R = ((c → P) ∧ (¬ c → R)) := by
  by_cases h : c
  · simp [fork, h]
  · simp [fork, h]
@[simp, simp ↓] theorem fork_n {b : Bool} {P R : Prop} : fork (!b) P R = fork b R P := by cases b <;> (first | rfl | (unfold wp; rfl))
theorem fork_and {b : Bool} {P R : Prop} (h1 : b = true → P) (h2 : b = false → R) : fork b P R := by
  cases b
  · exact h2 rfl
  · exact h1 rfl
theorem wp_if {γ : Type} {b : Bool} {p q : M γ} {Q : γ → Env → Prop} : wp (if b = true then p else q) ρ Q E = fork b (wp p ρ Q E) (wp q ρ Q E) := by cases b <;> (first | rfl | (unfold wp; rfl))
@[simp, simp ↓] theorem wp_mIf {γ : Type} {c : M Bool} {p q : M γ} {Q : γ → Env → Prop} : wp (mIf c p q) ρ Q E = wp c ρ (fun b ρ' => fork b (wp p ρ' Q E) (wp q ρ' Q E)) E := by
  unfold mIf
  rw [wp_bind]
  congr 1; funext b ρ'
  exact wp_if
@[simp, simp ↓] theorem wp_mAnd {a b : M Bool} {Q : Bool → Env → Prop} : wp (mAnd a b) ρ Q E = wp a ρ (fun c ρ' => fork c (wp b ρ' Q E) (Q false ρ')) E := by
  unfold mAnd
  rw [wp_bind]
  congr 1; funext c ρ'
  cases c <;> (first | rfl | (unfold wp; rfl))
@[simp, simp ↓] theorem wp_mOr {a b : M Bool} {Q : Bool → Env → Prop} : wp (mOr a b) ρ Q E = wp a ρ (fun c ρ' => fork c (Q true ρ') (wp b ρ' Q E)) E := by
  unfold mOr
  rw [wp_bind]
  congr 1; funext c ρ'
  cases c <;> (first | rfl | (unfold wp; rfl))
@[simp, simp ↓] theorem wp_mAndV {a b : M (D × Bool)} {Q : D × Bool → Env → Prop} : wp (mAndV a b) ρ Q E = wp a ρ (fun r ρ' => match r.1 with | .bl c => fork c (wp b ρ' Q E) (Q (.bl false, false) ρ') | _ => False) E := by
  unfold mAndV
  rw [wp_bind, wp_asB]
  congr 1; funext r ρ'
  cases r with
  | mk d k => cases d <;> first | (unfold wp; rfl) | rfl | (rename_i c; cases c <;> (first | rfl | (unfold wp; rfl)))
@[simp, simp ↓] theorem wp_mOrV {a b : M (D × Bool)} {Q : D × Bool → Env → Prop} : wp (mOrV a b) ρ Q E = wp a ρ (fun r ρ' => match r.1 with | .bl c => fork c (Q (.bl true, false) ρ') (wp b ρ' Q E) | _ => False) E := by
  unfold mOrV
  rw [wp_bind, wp_asB]
  congr 1; funext r ρ'
  cases r with
  | mk d k => cases d <;> first | (unfold wp; rfl) | rfl | (rename_i c; cases c <;> (first | rfl | (unfold wp; rfl)))
@[simp, simp ↓] theorem wp_mChain {o1 o2 : Op2} {a b c : M OV} {Q : D × Bool → Env → Prop} : wp (mChain o1 o2 a b c) ρ Q E = wp a ρ (fun x ρ1 => wp b ρ1 (fun y ρ2 => opt (x.get ρ2) fun dx => opt (y.get ρ2) fun dy => opt (o1 dx dy) fun r => match r.1 with
    | .bl k => fork k (wp c ρ2 (fun z ρ3 => opt (y.get ρ3) fun dy => opt (z.get ρ3) fun dz => opt (o2 dy dz) fun r => Q r ρ3) E) (Q (.bl false, false) ρ2)
    | _ => False) E) E := by
  unfold mChain
  rw [wp_bind]
  congr 1; funext x ρ1
  rw [wp_bind]
  congr 1; funext y ρ2
  rw [wp_bind, wp_asB, wp_mOp]
  congr 1; funext dx
  congr 1; funext dy
  congr 1; funext r
  cases r with
  | mk d k =>
    cases d with
    | bl kk =>
      cases kk
      · (first | rfl | (unfold wp; rfl))
      · show wp (c.bind fun z => mOp o2 y z) ρ2 Q E = _
        rw [wp_bind]
        dsimp only
        rw [fork_t]
        congr 1; funext z ρ3
        exact wp_mOp
    | _ => (first | rfl | (unfold wp; rfl))
@[simp, simp ↓] theorem wp_mNil {γ : Type} {Q : List γ → Env → Prop} : wp mNil ρ Q E = Q [] ρ := by unfold wp; rfl
@[simp, simp ↓] theorem wp_mCons {γ : Type} {a : M γ} {r : M (List γ)} {Q : List γ → Env → Prop} : wp (mCons a r) ρ Q E = wp a ρ (fun x ρ1 => wp r ρ1 (fun xs ρ2 => Q (x :: xs) ρ2) E) E := by
  unfold mCons
  rw [wp_bind]
  congr 1; funext x ρ1
  rw [wp_bind]
  (first | rfl | (unfold wp; rfl))
theorem fits_small {n : Nat} (h : n ≤ 1000000) : fits n = true := by
  unfold fits
  rw [decide_eq_true_eq, sizeLine_eq]
  omega
@[simp, simp ↓] theorem wp_mList {f : M (List D)} {Q : D × Bool → Env → Prop} : wp (mList f) ρ Q E = wp f ρ (fun ds ρ' => fits ds.length = true ∧ Q (.lst ds, true) ρ') E := by
  unfold mList
  rw [wp_bind]
  congr 1; funext ds ρ'
  by_cases h : fits ds.length = true
  · rw [if_pos h]; simp [h]
  · rw [if_neg h]; simp [h]
@[simp, simp ↓] theorem wp_mTup {f : M (List D)} {Q : D → Env → Prop} : wp (mTup f) ρ Q E = wp f ρ (fun ds ρ' => fits ds.length = true ∧ Q (.tup ds) ρ') E := by
  unfold mTup
  rw [wp_bind]
  congr 1; funext ds ρ'
  by_cases h : fits ds.length = true
  · rw [if_pos h]; simp [h]
  · rw [if_neg h]; simp [h]
@[simp] theorem ovs_nil : ovs ρ [] = some [] := rfl
@[simp] theorem ovs_cons {o : OV} {r : List OV} : ovs ρ (o :: r) = (o.get ρ).bind fun d => (ovs ρ r).map (d :: ·) := by
  show (match o.get ρ, ovs ρ r with | some d, some ds => some (d :: ds) | _, _ => none) = _
  cases o.get ρ <;> cases ovs ρ r <;> (first | rfl | (unfold wp; rfl))
@[simp, simp ↓] theorem wp_mOpN {op : OpN} {os : List OV} {Q : D × Bool → Env → Prop} : wp (mOpN op os) ρ Q E = opt (ovs ρ os) fun ds => opt (op ds) fun r => Q r ρ := by
  unfold wp mOpN opt
  cases ovs ρ os with
  | none => (first | rfl | (unfold wp; rfl))
  | some ds => cases e : op ds <;> simp only [e]
@[simp, simp ↓] theorem wp_mCallB {op : OpN} {f : M (List OV)} {Q : D × Bool → Env → Prop} : wp (mCallB op f) ρ Q E = wp f ρ (fun os ρ' => opt (ovs ρ' os) fun ds => opt (op ds) fun r => Q r ρ') E := by
  unfold mCallB
  rw [wp_bind]
  congr 1; funext os ρ'
  exact wp_mOpN
@[simp, simp ↓] theorem wp_mIsi {Ts : List String} {a : M OV} {Q : D → Env → Prop} : wp (mIsi Ts a) ρ Q E = wp a ρ (fun x ρ' => opt (x.get ρ') fun d => opt (isBs Ts d) fun b => Q (.bl b) ρ') E := by
  unfold mIsi
  rw [wp_bind]
  congr 1; funext x ρ'
  unfold wp opt
  try dsimp only
  cases x.get ρ' with
  | none => (first | rfl | (unfold wp; rfl))
  | some d => cases e : isBs Ts d <;> simp only [e]
@[simp, simp ↓] theorem wp_mItems {f : M D} {Q : List D → Env → Prop} : wp (mItems f) ρ Q E = wp f ρ (fun d ρ' => opt (itemsD d) fun ds => Q ds ρ') E := by
  unfold mItems
  rw [wp_bind]
  congr 1; funext d ρ'
  unfold wp opt
  try dsimp only
  cases e : itemsD d <;> simp only [e]
@[simp, simp ↓] theorem wp_mPart {f : M OV} {Q : Option Int → Env → Prop} : wp (mPart f) ρ Q E = wp f ρ (fun x ρ' => opt (x.get ρ') fun d => match d with | .int i => Q (some i) ρ' | _ => False) E := by
  unfold mPart
  rw [wp_bind]
  congr 1; funext x ρ'
  unfold wp opt
  try dsimp only
  cases x.get ρ' with
  | none => (first | rfl | (unfold wp; rfl))
  | some d => cases d <;> (first | rfl | (unfold wp; rfl))
@[simp, simp ↓] theorem wp_mSlice {a : M OV} {l u : M (Option Int)} {Q : D × Bool → Env → Prop} : wp (mSlice a l u) ρ Q E = wp a ρ (fun x ρ1 => wp l ρ1 (fun lo ρ2 => wp u ρ2 (fun hi ρ3 => opt (x.get ρ3) fun d => opt (opSl d lo hi) fun r => Q r ρ3) E) E) E := by
  unfold mSlice
  rw [wp_bind]
  congr 1; funext x ρ1
  rw [wp_bind]
  congr 1; funext lo ρ2
  rw [wp_bind]
  congr 1; funext hi ρ3
  unfold wp opt
  try dsimp only
  cases x.get ρ3 with
  | none => (first | rfl | (unfold wp; rfl))
  | some d => cases e : opSl d lo hi <;> simp only [e]
@[simp, simp ↓] theorem wp_mRg {f g : M OV} {Q : Int × Int → Env → Prop} : wp (mRg f g) ρ Q E = wp f ρ (fun x ρ1 => wp g ρ1 (fun y ρ2 => opt (x.get ρ2) fun a => opt (y.get ρ2) fun b => match a, b with | .int i, .int j => rgOk i j = true ∧ Q (i, j) ρ2 | _, _ => False) E) E := by
  unfold mRg
  rw [wp_bind]
  congr 1; funext x ρ1
  rw [wp_bind]
  congr 1; funext y ρ2
  unfold wp opt
  try dsimp only
  cases x.get ρ2 with
  | none => (first | rfl | (unfold wp; rfl))
  | some a =>
    cases y.get ρ2 with
    | none => cases a <;> (first | rfl | (unfold wp; rfl))
    | some b =>
      cases a <;> first | rfl | (cases b <;> first | rfl | (rename_i i j; by_cases h : rgOk i j = true <;> simp [h]))
@[simp, simp ↓] theorem wp_mRg1 {f : M OV} {Q : Int × Int → Env → Prop} : wp (mRg1 f) ρ Q E = wp f ρ (fun y ρ2 => opt (y.get ρ2) fun b => match b with | .int j => rgOk 0 j = true ∧ Q (0, j) ρ2 | _ => False) E := by
  unfold mRg1
  rw [wp_mRg]
  simp only [wp_ret, get_now, opt_some]
  congr 1; funext y ρ2
  congr 1; funext b
  cases b <;> (first | rfl | (unfold wp; rfl))
@[simp, simp ↓] theorem wp_mListRg {f : M (Int × Int)} {Q : D × Bool → Env → Prop} : wp (mListRg f) ρ Q E = wp f ρ (fun r ρ' => Q (.lst (rgD r.1 r.2), true) ρ') E := by
  unfold mListRg
  rw [wp_bind]
  (first | rfl | (unfold wp; rfl))

/-! statements -/
@[simp, simp ↓] theorem wp_mSkip {Q : Fl → Env → Prop} : wp mSkip ρ Q E = Q .next ρ := by unfold wp; rfl
@[simp, simp ↓] theorem wp_mBrk {Q : Fl → Env → Prop} : wp mBrk ρ Q E = Q .brk ρ := by unfold wp; rfl
@[simp, simp ↓] theorem wp_mCont {Q : Fl → Env → Prop} : wp mCont ρ Q E = Q .cont ρ := by unfold wp; rfl
@[simp, simp ↓] theorem wp_mRet {f : M D} {Q : Fl → Env → Prop} : wp (mRet f) ρ Q E = wp f ρ (fun d ρ' => Q (.ret d) ρ') E := by unfold mRet; rw [wp_bind]; (first | rfl | (unfold wp; rfl))
@[simp, simp ↓] theorem wp_mExpr {γ : Type} {f : M γ} {Q : Fl → Env → Prop} : wp (mExpr f) ρ Q E = wp f ρ (fun d ρ' => Q .next ρ') E := by unfold mExpr; rw [wp_bind]; (first | rfl | (unfold wp; rfl))
/-- what follows a statement -/
def andThen (r : Fl) (P : Prop) (Q : Fl → Prop) : Prop := match r with
  | .next => P
  | x => Q x
@[simp] theorem at_next {P : Prop} {Q : Fl → Prop} : andThen .next P Q = P := rfl
@[simp] theorem at_ret {P : Prop} {Q : Fl → Prop} {d : D} : andThen (.ret d) P Q = Q (.ret d) := rfl
@[simp] theorem at_new {P : Prop} {Q : Fl → Prop} {d : D} : andThen (.new d) P Q = Q (.new d) := rfl
@[simp] theorem at_brk {P : Prop} {Q : Fl → Prop} : andThen .brk P Q = Q .brk := rfl
@[simp] theorem at_cont {P : Prop} {Q : Fl → Prop} : andThen .cont P Q = Q .cont := rfl
@[simp, simp ↓] theorem wp_mSeq {f g : M Fl} {Q : Fl → Env → Prop} : wp (mSeq f g) ρ Q E = wp f ρ (fun r ρ' => andThen r (wp g ρ' Q E) (fun x => Q x ρ')) E := by
  unfold mSeq
  rw [wp_bind]
  congr 1; funext r ρ'
  cases r <;> (first | rfl | (unfold wp; rfl))
@[simp, simp ↓] theorem wp_put {i : Nat} {s : Sl} {Q : Unit → Env → Prop} : wp (put i s) ρ Q E = atE ρ i (fun t => match t with | .io _ => False | _ => Q () (ρ.set i s)) := by
  unfold wp put atE
  cases ρ[i]? with
  | none => (first | rfl | (unfold wp; rfl))
  | some t => cases t <;> (first | rfl | (unfold wp; rfl))
@[simp, simp ↓] theorem wp_toFl {f : M Unit} {Q : Fl → Env → Prop} : wp (toFl f) ρ Q E = wp f ρ (fun _ ρ' => Q .next ρ') E := by unfold toFl; rw [wp_bind]; (first | rfl | (unfold wp; rfl))
@[simp, simp ↓] theorem wp_mSet {i : Nat} {f : M (D × Bool)} {Q : Fl → Env → Prop} : wp (mSet i f) ρ Q E = wp f ρ (fun r ρ' => wp (put i (if r.2 = true then .own r.1 else .val r.1)) ρ' (fun _ ρ'' => Q .next ρ'') E) E := by
  unfold mSet
  rw [wp_bind]
  congr 1; funext r ρ'
  exact wp_toFl
@[simp, simp ↓] theorem wp_gSet {i : Nat} {d : D} {Q : Unit → Env → Prop} : wp (gSet i d) ρ Q E = wp (put i (.val d)) ρ Q E := by unfold wp; rfl
@[simp, simp ↓] theorem wp_gsNil {ds : List D} {Q : Unit → Env → Prop} : wp (gsNil ds) ρ Q E = (ds = [] ∧ Q () ρ) := by
  cases ds with
  | nil => simp [gsNil]
  | cons d ds => simp [gsNil]
@[simp, simp ↓] theorem wp_gsCons {g : D → M Unit} {gs : List D → M Unit} {d : D} {ds : List D} {Q : Unit → Env → Prop} : wp (gsCons g gs (d :: ds)) ρ Q E = wp (g d) ρ (fun _ ρ' => wp (gs ds) ρ' Q E) E := by
  show wp ((g d).bind fun _ => gs ds) ρ Q E = _
  rw [wp_bind]
@[simp, simp ↓] theorem wp_gTupD {n : Nat} {gs : List D → M Unit} {ds : List D} {Q : Unit → Env → Prop} : wp (gTupD n gs (.tup ds)) ρ Q E = (ds.length = n ∧ wp (gs ds) ρ Q E) := by
  show wp (if ds.length = n then gs ds else fun _ => .bad) ρ Q E = _
  by_cases h : ds.length = n <;> simp [h]
@[simp, simp ↓] theorem wp_mAsg {f : M D} {g : D → M Unit} {Q : Fl → Env → Prop} : wp (mAsg f g) ρ Q E = wp f ρ (fun d ρ' => wp (g d) ρ' (fun _ ρ'' => Q .next ρ'') E) E := by
  unfold mAsg
  rw [wp_bind]
  congr 1; funext d ρ'
  exact wp_toFl
@[simp, simp ↓] theorem wp_mKill {is : List Nat} {f : M Fl} {Q : Fl → Env → Prop} : wp (mKill is f) ρ Q E = wp f ρ (fun r ρ' => Q r (kill is ρ')) E := by
  unfold wp mKill
  cases f ρ <;> (first | rfl | (unfold wp; rfl))
def kill1 (ρ : Env) (i : Nat) : Env := match ρ[i]? with
  | some (.io _) => ρ
  | some _ => ρ.set i .un
  | none => ρ
@[simp] theorem kill_nil : kill [] ρ = ρ := rfl
@[simp] theorem kill_cons {i : Nat} {is : List Nat} : kill (i :: is) ρ = kill is (kill1 ρ i) := rfl
@[simp] theorem kill1_val {d : D} : kill1 (.val d :: ρ) 0 = .un :: ρ := rfl
@[simp] theorem kill1_own {d : D} : kill1 (.own d :: ρ) 0 = .un :: ρ := rfl
@[simp] theorem kill1_un : kill1 (.un :: ρ) 0 = .un :: ρ := rfl
@[simp] theorem kill1_io {d : D} : kill1 (.io d :: ρ) 0 = .io d :: ρ := rfl
@[simp] theorem kill1_s {s : Sl} {i : Nat} : kill1 (s :: ρ) (i + 1) = s :: kill1 ρ i := by
  show (match (s :: ρ)[i + 1]? with | some (.io _) => s :: ρ | some _ => (s :: ρ).set (i + 1) .un | none => s :: ρ) = s :: (match ρ[i]? with | some (.io _) => ρ | some _ => ρ.set i .un | none => ρ)
  rw [List.getElem?_cons_succ]
  cases ρ[i]? with
  | none => (first | rfl | (unfold wp; rfl))
  | some t => cases t <;> (first | rfl | (unfold wp; rfl))
@[simp, simp ↓] theorem wp_mFor {src : M (List D)} {g : D → M Unit} {is : List Nat} {b : M Fl} {Q : Fl → Env → Prop} : wp (mFor src g is b) ρ Q E = wp src ρ (fun ds ρ' => wp (loopL (forStep g is b) ds) ρ' Q E) E := by
  unfold mFor
  rw [wp_bind]
@[simp, simp ↓] theorem wp_forStep {g : D → M Unit} {is : List Nat} {b : M Fl} {d : D} {Q : Fl → Env → Prop} : wp (forStep g is b d) ρ Q E = wp (g d) ρ (fun _ ρ' => wp b ρ' (fun r ρ'' => Q r (kill is ρ'')) E) E := by
  unfold forStep
  rw [wp_mKill, wp_bind]
@[simp, simp ↓] theorem wp_mRange1 {f : M (List OV)} {Q : List D → Env → Prop} : wp (mRange1 f) ρ Q E = wp f ρ (fun os ρ' => opt (ovs ρ' os) fun ds => match ds with | [.int j] => rng1Ok j = true ∧ Q (rngD 0 j.toNat) ρ' | _ => False) E := by
  unfold mRange1
  rw [wp_bind]
  congr 1; funext os ρ'
  unfold wp opt
  try dsimp only
  cases ovs ρ' os with
  | none => (first | rfl | (unfold wp; rfl))
  | some ds =>
    match ds with
    | [] => (first | rfl | (unfold wp; rfl))
    | [d] =>
      cases d with
      | int j => by_cases h : rng1Ok j = true <;> simp [h]
      | _ => (first | rfl | (unfold wp; rfl))
    | d :: _ :: _ => cases d <;> (first | rfl | (unfold wp; rfl))
@[simp, simp ↓] theorem wp_mRange2 {f : M (List OV)} {Q : List D → Env → Prop} : wp (mRange2 f) ρ Q E = wp f ρ (fun os ρ' => opt (ovs ρ' os) fun ds => match ds with | [.int i, .int j] => (rng1Ok i && rng1Ok j) = true ∧ Q (rngD i (j - i).toNat) ρ' | _ => False) E := by
  unfold mRange2
  rw [wp_bind]
  congr 1; funext os ρ'
  unfold wp opt
  try dsimp only
  cases ovs ρ' os with
  | none => (first | rfl | (unfold wp; rfl))
  | some ds =>
    match ds with
    | [] => (first | rfl | (unfold wp; rfl))
    | [d] => cases d <;> (first | rfl | (unfold wp; rfl))
    | [d, e] =>
      cases d with
      | int i =>
        cases e with
        | int j =>
          dsimp only
          generalize (rng1Ok i && rng1Ok j) = b
          cases b <;> simp
        | _ => (first | rfl | (unfold wp; rfl))
      | _ => (first | rfl | (unfold wp; rfl))
    | d :: e :: _ :: _ =>
      cases d with
      | int i => cases e <;> (first | rfl | (unfold wp; rfl))
      | _ => (first | rfl | (unfold wp; rfl))
@[simp, simp ↓] theorem wp_mRange3 {f : M (List OV)} {Q : List D → Env → Prop} : wp (mRange3 f) ρ Q E = wp f ρ (fun os ρ' => opt (ovs ρ' os) fun ds => match ds with | [.int i, .int j, .int c] => (rng1Ok i && rng1Ok j && decide (c = -1)) = true ∧ Q (rngC i (-1) (i - j).toNat) ρ' | _ => False) E := by
  unfold mRange3
  rw [wp_bind]
  congr 1; funext os ρ'
  unfold wp opt
  try dsimp only
  cases ovs ρ' os with
  | none => (first | rfl | (unfold wp; rfl))
  | some ds =>
    match ds with
    | [] => (first | rfl | (unfold wp; rfl))
    | [d] => cases d <;> (first | rfl | (unfold wp; rfl))
    | [d, e] =>
      cases d with
      | int i => cases e <;> (first | rfl | (unfold wp; rfl))
      | _ => (first | rfl | (unfold wp; rfl))
    | [d, e, c] =>
      cases d with
      | int i =>
        cases e with
        | int j =>
          cases c with
          | int k =>
            dsimp only
            generalize (rng1Ok i && rng1Ok j && decide (k = -1)) = b
            cases b <;> simp
          | _ => (first | rfl | (unfold wp; rfl))
        | _ => (first | rfl | (unfold wp; rfl))
      | _ => (first | rfl | (unfold wp; rfl))
    | d :: e :: c :: _ :: _ =>
      cases d with
      | int i =>
        cases e with
        | int j => cases c <;> (first | rfl | (unfold wp; rfl))
        | _ => (first | rfl | (unfold wp; rfl))
      | _ => (first | rfl | (unfold wp; rfl))
end
end DL

namespace DL
open PySem L2

/-! ## calls, changes, loops -/
inductive Res where
  | ok (d : D)
  | err (c : Str) (fs : List (Str × D))
  | bad
/-- a call with data alone -/
def Fn.app (fn : Fn) (ds : List D) : Res := match fn (ds.map .val) with
  | .ok d _ => .ok d
  | .err c fs _ => .err c fs
  | .bad => .bad
def Res.go (r : Res) (Q : D → Prop) (E : Str → List (Str × D) → Prop) : Prop := match r with
  | .ok d => Q d
  | .err c fs => E c fs
  | .bad => False
@[simp, simp ↓] theorem go_ok {d : D} {Q : D → Prop} {E : Str → List (Str × D) → Prop} : (Res.ok d).go Q E = Q d := rfl
@[simp, simp ↓] theorem go_err {c : Str} {fs : List (Str × D)} {Q : D → Prop} {E : Str → List (Str × D) → Prop} : (Res.err c fs).go Q E = E c fs := rfl
section
variable {ρ : Env} {E : EQ} {fn : Fn}
theorem backs_now : ∀ (ds : List D) (rs : Env), backs (ds.map OV.now) rs ρ = ρ
  | [], rs => rfl
  | d :: ds, [] => rfl
  | d :: ds, r :: rs => backs_now ds rs
theorem mk_now : ∀ (ds : List D), mkArgs ρ (ds.map OV.now) = some (ds.map Sl.val)
  | [] => rfl
  | d :: ds => by
    show (mkArgs ρ (ds.map OV.now)).map (Sl.val d :: ·) = _
    rw [mk_now ds]
    (first | rfl | (unfold wp; rfl))
theorem wp_calls {ds : List D} {Q : D → Env → Prop} : wp (callOn ds.length fn (ds.map OV.now)) ρ Q E = (fn.app ds).go (fun d => Q d ρ) (fun c fs => E c fs ρ) := by
  unfold wp callOn Fn.app
  rw [mk_now]
  dsimp only
  rw [if_pos (by simp)]
  cases fn (ds.map Sl.val) with
  | ok d ρ' => dsimp only; rw [backs_now]; (first | rfl | (unfold wp; rfl))
  | err c fs ρ' => dsimp only; rw [backs_now]; (first | rfl | (unfold wp; rfl))
  | bad => (first | rfl | (unfold wp; rfl))
@[simp, simp ↓] theorem wp_call1 {a : D} {Q : D → Env → Prop} : wp (callOn 1 fn [.now a]) ρ Q E = (fn.app [a]).go (fun d => Q d ρ) (fun c fs => E c fs ρ) := wp_calls (ds := [a])
@[simp, simp ↓] theorem wp_call2 {a b : D} {Q : D → Env → Prop} : wp (callOn 2 fn [.now a, .now b]) ρ Q E = (fn.app [a, b]).go (fun d => Q d ρ) (fun c fs => E c fs ρ) := wp_calls (ds := [a, b])
@[simp, simp ↓] theorem wp_call3 {a b c : D} {Q : D → Env → Prop} : wp (callOn 3 fn [.now a, .now b, .now c]) ρ Q E = (fn.app [a, b, c]).go (fun d => Q d ρ) (fun c fs => E c fs ρ) := wp_calls (ds := [a, b, c])
@[simp, simp ↓] theorem wp_call4 {a b c d : D} {Q : D → Env → Prop} : wp (callOn 4 fn [.now a, .now b, .now c, .now d]) ρ Q E = (fn.app [a, b, c, d]).go (fun d => Q d ρ) (fun c fs => E c fs ρ) := wp_calls (ds := [a, b, c, d])
@[simp, simp ↓] theorem wp_call5 {a b c d e : D} {Q : D → Env → Prop} : wp (callOn 5 fn [.now a, .now b, .now c, .now d, .now e]) ρ Q E = (fn.app [a, b, c, d, e]).go (fun d => Q d ρ) (fun c fs => E c fs ρ) := wp_calls (ds := [a, b, c, d, e])
@[simp, simp ↓] theorem wp_call6 {a b c d e f : D} {Q : D → Env → Prop} : wp (callOn 6 fn [.now a, .now b, .now c, .now d, .now e, .now f]) ρ Q E = (fn.app [a, b, c, d, e, f]).go (fun d => Q d ρ) (fun c fs => E c fs ρ) := wp_calls (ds := [a, b, c, d, e, f])
theorem wp_callsN {ds : List D} {Q : D × Bool → Env → Prop} : wp (callOnN ds.length fn (ds.map OV.now)) ρ Q E = (fn.app ds).go (fun d => Q (d, true) ρ) (fun c fs => E c fs ρ) := by
  unfold wp callOnN Fn.app
  rw [mk_now]
  dsimp only
  rw [if_pos (by simp)]
  cases fn (ds.map Sl.val) with
  | ok d ρ' => dsimp only; rw [backs_now]; (first | rfl | (unfold wp; rfl))
  | err c fs ρ' => dsimp only; rw [backs_now]; (first | rfl | (unfold wp; rfl))
  | bad => (first | rfl | (unfold wp; rfl))
@[simp, simp ↓] theorem wp_callN1 {a : D} {Q : D × Bool → Env → Prop} : wp (callOnN 1 fn [.now a]) ρ Q E = (fn.app [a]).go (fun d => Q (d, true) ρ) (fun c fs => E c fs ρ) := wp_callsN (ds := [a])
@[simp, simp ↓] theorem wp_callN2 {a b : D} {Q : D × Bool → Env → Prop} : wp (callOnN 2 fn [.now a, .now b]) ρ Q E = (fn.app [a, b]).go (fun d => Q (d, true) ρ) (fun c fs => E c fs ρ) := wp_callsN (ds := [a, b])
@[simp, simp ↓] theorem wp_callN3 {a b c : D} {Q : D × Bool → Env → Prop} : wp (callOnN 3 fn [.now a, .now b, .now c]) ρ Q E = (fn.app [a, b, c]).go (fun d => Q (d, true) ρ) (fun c fs => E c fs ρ) := wp_callsN (ds := [a, b, c])
@[simp, simp ↓] theorem wp_mCallN {n : Nat} {args : M (List OV)} {Q : D × Bool → Env → Prop} : wp (mCallN n fn args) ρ Q E = wp args ρ (fun os ρ' => wp (callOnN n fn os) ρ' Q E) E := by unfold mCallN; rw [wp_bind]
@[simp, simp ↓] theorem wp_mOwn {i : Nat} {Q : D × Bool → Env → Prop} : wp (mOwn i) ρ Q E = atE ρ i (fun s => match s with | .own d => Q (d, true) (ρ.set i .un) | _ => False) := by
  unfold wp mOwn atE
  cases ρ[i]? with
  | none => (first | rfl | (unfold wp; rfl))
  | some s => cases s <;> (first | rfl | (unfold wp; rfl))
@[simp, simp ↓] theorem wp_mRetV {f : M (D × Bool)} {Q : Fl → Env → Prop} : wp (mRetV f) ρ Q E = wp f ρ (fun r ρ' => Q (if r.2 = true then .new r.1 else .ret r.1) ρ') E := by unfold mRetV; rw [wp_bind]; (first | rfl | (unfold wp; rfl))
theorem app_anyN {n : Nat} {body : M Fl} {ds : List D} {P : D → Prop} (h : wp body (ds.map Sl.val ++ List.replicate (n - ds.length) .un) (fun r _ => ∃ d, r = .new d ∧ P d) noE) : ∃ d, Fn.app (runDefN n body) ds = .ok d ∧ P d := by
  unfold wp at h
  unfold Fn.app runDefN
  rw [List.length_map]
  cases e : body (ds.map Sl.val ++ List.replicate (n - ds.length) .un) with
  | ok r ρ' => rw [e] at h; dsimp only at h; obtain ⟨d, rfl, p⟩ := h; exact ⟨d, rfl, p⟩
  | err c fs ρ' => rw [e] at h; exact h.elim
  | bad => rw [e] at h; exact h.elim
@[simp, simp ↓] theorem wp_mCall {n : Nat} {args : M (List OV)} {Q : D → Env → Prop} : wp (mCall n fn args) ρ Q E = wp args ρ (fun os ρ' => wp (callOn n fn os) ρ' Q E) E := by unfold mCall; rw [wp_bind]
/-- a def's body -/
theorem app_of {n : Nat} {body : M Fl} {ds : List D} {d : D} (h : wp body (ds.map Sl.val ++ List.replicate (n - ds.length) .un) (fun r _ => r = .ret d) noE) : Fn.app (runDef n body) ds = .ok d := by
  unfold wp at h
  unfold Fn.app runDef
  rw [List.length_map]
  cases e : body (ds.map Sl.val ++ List.replicate (n - ds.length) .un) with
  | ok r ρ' => rw [e] at h; dsimp only at h; subst h; (first | rfl | (unfold wp; rfl))
  | err c fs ρ' => rw [e] at h; exact h.elim
  | bad => rw [e] at h; exact h.elim
theorem app_ofE {n : Nat} {body : M Fl} {ds : List D} {c0 : Str} {fs0 : List (Str × D)} (h : wp body (ds.map Sl.val ++ List.replicate (n - ds.length) .un) (fun _ _ => False) (fun c fs _ => c = c0 ∧ fs = fs0)) : Fn.app (runDef n body) ds = .err c0 fs0 := by
  unfold wp at h
  unfold Fn.app runDef
  rw [List.length_map]
  cases e : body (ds.map Sl.val ++ List.replicate (n - ds.length) .un) with
  | ok r ρ' => rw [e] at h; exact h.elim
  | err c fs ρ' => rw [e] at h; obtain ⟨rfl, rfl⟩ := h; (first | rfl | (unfold wp; rfl))
  | bad => rw [e] at h; exact h.elim
/-- a def without a return at its end -/
theorem app_ofN {n : Nat} {body : M Fl} {ds : List D} (h : wp body (ds.map Sl.val ++ List.replicate (n - ds.length) .un) (fun r _ => r = .next ∨ r = .ret .non) noE) : Fn.app (runDef n body) ds = .ok .non := by
  unfold wp at h
  unfold Fn.app runDef
  rw [List.length_map]
  cases e : body (ds.map Sl.val ++ List.replicate (n - ds.length) .un) with
  | ok r ρ' => rw [e] at h; rcases h with rfl | rfl <;> (first | rfl | (unfold wp; rfl))
  | err c fs ρ' => rw [e] at h; exact h.elim
  | bad => rw [e] at h; exact h.elim
theorem app_any {n : Nat} {body : M Fl} {ds : List D} {P : D → Prop} (h : wp body (ds.map Sl.val ++ List.replicate (n - ds.length) .un) (fun r _ => ∃ d, r = .ret d ∧ P d) noE) : ∃ d, Fn.app (runDef n body) ds = .ok d ∧ P d := by
  unfold wp at h
  unfold Fn.app runDef
  rw [List.length_map]
  cases e : body (ds.map Sl.val ++ List.replicate (n - ds.length) .un) with
  | ok r ρ' => rw [e] at h; dsimp only at h; obtain ⟨d, rfl, p⟩ := h; exact ⟨d, rfl, p⟩
  | err c fs ρ' => rw [e] at h; exact h.elim
  | bad => rw [e] at h; exact h.elim

theorem law_of {n : Nat} {body : M Fl} {d0 d : D} (h : wp body (.val d0 :: List.replicate (n - 1) .un) (fun r _ => r = .ret d) noE) : ∃ ρ, runDef n body [.val d0] = .ok d ρ := by
  unfold wp at h
  unfold runDef
  show ∃ ρ, (match body (.val d0 :: List.replicate (n - 1) .un) with
    | .ok .next ρ => .ok .non ρ
    | .ok (.ret d) ρ => .ok d ρ
    | .err c fs ρ => .err c fs ρ
    | _ => .bad) = Out.ok d ρ
  cases e : body (.val d0 :: List.replicate (n - 1) .un) with
  | ok r ρ' => rw [e] at h; dsimp only at h; subst h; exact ⟨ρ', rfl⟩
  | err c fs ρ' => rw [e] at h; exact h.elim
  | bad => rw [e] at h; exact h.elim
/-- a call whose first argument may be changed (a deck); the others are data -/
def Fn.app1 (fn : Fn) (d0 : D) (ds : List D) : Option (D × D) := match fn (.io d0 :: ds.map .val) with
  | .ok d ρ => match ρ[0]?.bind Sl.obj with
    | some e => some (d, e)
    | none => none
  | _ => none
theorem wp_callio {i : Nat} {s : Sl} {d0 : D} {ds : List D} {Q : D → Env → Prop} (hs : ρ[i]? = some s) (ho : s.obj = some d0) (h : opt (fn.app1 d0 ds) fun r => Q r.1 (ρ.set i (s.upd r.2))) : wp (callOn (ds.length + 1) fn (.late i :: ds.map OV.now)) ρ Q E := by
  have e : mkArgs ρ (.late i :: ds.map OV.now) = some (.io d0 :: ds.map .val) := by
    show (match ρ[i]? with
      | some s => match s.obj with
        | some d => if ((ds.map OV.now).any fun o => match o with | .late j => j == i | .now _ => false) = true then none else (mkArgs ρ (ds.map OV.now)).map (Sl.io d :: ·)
        | none => none
      | none => none) = _
    rw [hs]
    dsimp only
    rw [ho]
    dsimp only
    rw [if_neg (by simp), mk_now]
    (first | rfl | (unfold wp; rfl))
  unfold wp callOn
  rw [e]
  dsimp only
  rw [if_pos (by simp)]
  unfold Fn.app1 at h
  cases e2 : fn (.io d0 :: ds.map Sl.val) with
  | err c fs ρ' => rw [e2] at h; exact h.elim
  | bad => rw [e2] at h; exact h.elim
  | ok d ρ' =>
    rw [e2] at h
    dsimp only at h ⊢
    cases e3 : ρ'[0]?.bind Sl.obj with
    | none => rw [e3] at h; exact h.elim
    | some x =>
      rw [e3] at h
      obtain ⟨t, q1, q2⟩ := bind_obj e3
      cases ρ' with
      | nil => cases q1
      | cons t' rs =>
        cases q1
        have eb : backs (.late i :: ds.map OV.now) (t :: rs) ρ = ρ.set i (s.upd x) := by
          show (match t.obj, ρ[i]? with
            | some d, some s => backs (ds.map OV.now) rs (ρ.set i (s.upd d))
            | _, _ => backs (ds.map OV.now) rs ρ) = _
          rw [q2, hs]
          dsimp only
          rw [backs_now]
        rw [eb]
        exact h
theorem app1_of {n : Nat} {body : M Fl} {d0 : D} {ds : List D} {P : D × D → Prop} (h : wp body (.io d0 :: ds.map Sl.val ++ List.replicate (n - (ds.length + 1)) .un) (fun r ρ' => ∃ d e, r = .ret d ∧ ρ'[0]?.bind Sl.obj = some e ∧ P (d, e)) noE) : opt (Fn.app1 (runDef n body) d0 ds) P := by
  unfold wp at h
  unfold Fn.app1 runDef
  rw [List.length_cons, List.length_map]
  cases e : body (.io d0 :: ds.map Sl.val ++ List.replicate (n - (ds.length + 1)) .un) with
  | ok r ρ' =>
    rw [e] at h
    dsimp only at h
    obtain ⟨d, x, rfl, q, p⟩ := h
    dsimp only
    rw [q]
    exact p
  | err c fs ρ' => rw [e] at h; exact h.elim
  | bad => rw [e] at h; exact h.elim

/-! changes -/
def lstOf : Sl → Option (List D)
  | .own (.lst xs) => some xs
  | .io (.lst xs) => some xs
  | _ => none
@[simp] theorem lstOf_own {xs : List D} : lstOf (.own (.lst xs)) = some xs := rfl
@[simp] theorem lstOf_io {xs : List D} : lstOf (.io (.lst xs)) = some xs := rfl
theorem mMut_at {i : Nat} {op : OpM} {args : M (List D)} {s : Sl} {d0 : D} (e : ρ[i]?.bind Sl.obj = some d0) : mMut i op args ρ = (args.bind fun ds => fun ρ => match ρ[i]? with
    | some s => match s.obj with
      | some d => match op d ds with
        | some r => .ok r.2 (ρ.set i (s.upd r.1))
        | none => .bad
      | none => .bad
    | none => .bad) ρ := by
  unfold mMut
  rw [e] <;> (first | rfl | (unfold wp; rfl))
theorem wp_of {α : Type} {m m' : M α} {Q : α → Env → Prop} (h : m ρ = m' ρ) : wp m ρ Q E = wp m' ρ Q E := by
  unfold wp
  rw [h]
@[simp, simp ↓] theorem wp_mMutL {i : Nat} {op : OpM} {args : M (List D)} {Q : D → Env → Prop} : wp (mMutL i op args) ρ Q E = atE ρ i (fun s => opt (lstOf s) fun _ => wp args ρ (fun ds ρ' => atE ρ' i fun s => opt s.obj fun d => opt (op d ds) fun r => Q r.2 (ρ'.set i (s.upd r.1))) E) := by
  have bad : ∀ {s : Sl}, ρ[i]? = some s → lstOf s = none → wp (mMutL i op args) ρ Q E = False := fun {s} e h => by
    have : mMutL i op args ρ = .bad := by
      unfold mMutL
      rw [e]
      cases s with
      | un => (first | rfl | (unfold wp; rfl))
      | val d => (first | rfl | (unfold wp; rfl))
      | own d => cases d <;> first | rfl | cases h
      | io d => cases d <;> first | rfl | cases h
    unfold wp
    rw [this]
  have good : ∀ {s : Sl} {xs : List D}, ρ[i]? = some s → s.obj = some (.lst xs) → wp (mMutL i op args) ρ Q E = wp args ρ (fun ds ρ' => atE ρ' i fun s => opt s.obj fun d => opt (op d ds) fun r => Q r.2 (ρ'.set i (s.upd r.1))) E := fun {s xs} e h => by
    have eb : ρ[i]?.bind Sl.obj = some (.lst xs) := by rw [e]; exact h
    have e1 : mMutL i op args ρ = mMut i op args ρ := by
      unfold mMutL
      rw [eb]
    rw [wp_of (e1.trans (mMut_at (s := s) eb)), wp_bind]
    congr 1; funext ds ρ'
    unfold wp atE opt
    dsimp only
    cases ρ'[i]? with
    | none => (first | rfl | (unfold wp; rfl))
    | some s' =>
      dsimp only
      cases s'.obj with
      | none => (first | rfl | (unfold wp; rfl))
      | some d1 => dsimp only; cases op d1 ds <;> (first | rfl | (unfold wp; rfl))
  cases e : ρ[i]? with
  | none =>
    have : mMutL i op args ρ = .bad := by
      unfold mMutL
      rw [e]
      (first | rfl | (unfold wp; rfl))
    unfold wp atE
    rw [this, e]
  | some s =>
    show _ = (match ρ[i]? with | some s => (fun s => opt (lstOf s) fun _ => _) s | none => False)
    rw [e]
    cases s with
    | un => exact bad e rfl
    | val d => exact bad e rfl
    | own d =>
      cases d with
      | lst xs => exact good e rfl
      | _ => exact bad e rfl
    | io d =>
      cases d with
      | lst xs => exact good e rfl
      | _ => exact bad e rfl
@[simp, simp ↓] theorem op_append {xs : List D} {d : D} {P : D × D → Prop} : opt (opAppend (.lst xs) [d]) P = (xs.length < sizeLine ∧ P (.lst (xs ++ [d]), .non)) := by
  unfold opAppend
  by_cases h : xs.length < sizeLine <;> simp [h]
@[simp, simp ↓] theorem op_reverse {xs : List D} {P : D × D → Prop} : opt (opReverse (.lst xs) []) P = P (.lst xs.reverse, .non) := rfl
@[simp, simp ↓] theorem op_extend {xs ys : List D} {P : D × D → Prop} : opt (opExtend (.lst xs) [.lst ys]) P = (xs.length + ys.length ≤ sizeLine ∧ P (.lst (xs ++ ys), .non)) := by
  unfold opExtend
  by_cases h : xs.length + ys.length ≤ sizeLine <;> simp [h]
@[simp, simp ↓] theorem op_pop {xs : List D} {x : D} {P : D × D → Prop} : opt (opPop (.lst (xs ++ [x])) []) P = P (.lst xs, x) := by
  simp [opPop]
@[simp, simp ↓] theorem wp_mRaise {c f : Str} {args : M (List D)} {Q : Fl → Env → Prop} : wp (mRaise c f args) ρ Q E = wp args ρ (fun ds ρ' => match ds with | [d] => okStr d = true ∧ E c [(f, d)] ρ' | _ => False) E := by
  unfold mRaise
  rw [wp_bind]
  congr 1; funext ds ρ'
  match ds with
  | [] => (first | rfl | (unfold wp; rfl))
  | [d] =>
    by_cases h : okStr d = true
    · show wp (if okStr d = true then fun ρ => .err c [(f, d)] ρ else fun _ => .bad) ρ' Q E = (okStr d = true ∧ E c [(f, d)] ρ')
      rw [if_pos h]
      have e : wp (fun ρ => Out.err c [(f, d)] ρ : M Fl) ρ' Q E = E c [(f, d)] ρ' := by unfold wp; rfl
      rw [e]
      exact propext ⟨fun q => ⟨h, q⟩, fun q => q.2⟩
    · show wp (if okStr d = true then fun ρ => .err c [(f, d)] ρ else fun _ => .bad) ρ' Q E = (okStr d = true ∧ E c [(f, d)] ρ')
      rw [if_neg h]
      simp [h]
  | _ :: _ :: _ => (first | rfl | (unfold wp; rfl))
theorem wp_mTry {i : Nat} {f : M Fl} {hs : List Hdl} {Q : Fl → Env → Prop} : wp (mTry i f hs) ρ Q E = wp f ρ Q (fun c fs ρ' => i < ρ'.length ∧ wp (onErr hs c fs) ρ' Q E) := by
  unfold wp mTry
  cases e : f ρ with
  | ok r ρ' => (first | rfl | (unfold wp; rfl))
  | bad => (first | rfl | (unfold wp; rfl))
  | err c fs ρ' =>
    dsimp only
    by_cases h : i < ρ'.length
    · rw [if_pos h]; simp [h]
    · rw [if_neg h]; simp [h]
theorem wp_onErr {h : Hdl} {hs : List Hdl} {c : Str} {fs : List (Str × D)} {Q : Fl → Env → Prop} : wp (onErr (h :: hs) c fs) ρ Q E = opt (h.sub.lookup c) fun b => fork b (opt (h.out c fs) fun d => Q (.ret d) ρ) (wp (onErr hs c fs) ρ Q E) := by
  show wp (fun ρ => match h.sub.lookup c with | some true => _ | some false => _ | none => _) ρ Q E = _
  unfold wp opt
  dsimp only
  cases h.sub.lookup c with
  | none => (first | rfl | (unfold wp; rfl))
  | some b =>
    cases b with
    | false => (first | rfl | (unfold wp; rfl))
    | true => dsimp only; cases h.out c fs <;> simp [fork]
@[simp, simp ↓] theorem wp_mStore {k : Nat} {idx : M OV} {e : M D} {Q : Fl → Env → Prop} : wp (mStore k idx e) ρ Q E = wp e ρ (fun d ρ1 => atE ρ1 k fun s => opt s.obj fun _ => wp idx ρ1 (fun o ρ2 => atE ρ2 k fun s => opt (o.get ρ2) fun i => match i with
    | .int i => opt (lstOf s) fun xs => opt (ixN xs.length i) fun j => Q .next (ρ2.set k (s.upd (.lst (xs.set j d))))
    | _ => False) E) E := by
  unfold mStore
  rw [wp_bind]
  congr 1; funext d ρ1
  have bad : ρ1[k]?.bind Sl.obj = none → wp (fun ρ => match ρ[k]?.bind Sl.obj with
      | none => .bad
      | some _ => (idx.bind fun o => fun ρ => match ρ[k]?, o.get ρ with
        | some s, some (.int i) => match s.obj with
          | some (.lst xs) => match ixN xs.length i with
            | some j => .ok .next (ρ.set k (s.upd (.lst (xs.set j d))))
            | none => .bad
          | _ => .bad
        | _, _ => .bad) ρ) ρ1 Q E = False := fun h => by
    simp only [wp, h]
  have good : ∀ {d0 : D}, ρ1[k]?.bind Sl.obj = some d0 → wp (fun ρ => match ρ[k]?.bind Sl.obj with
      | none => .bad
      | some _ => (idx.bind fun o => fun ρ => match ρ[k]?, o.get ρ with
        | some s, some (.int i) => match s.obj with
          | some (.lst xs) => match ixN xs.length i with
            | some j => .ok .next (ρ.set k (s.upd (.lst (xs.set j d))))
            | none => .bad
          | _ => .bad
        | _, _ => .bad) ρ) ρ1 Q E = wp idx ρ1 (fun o ρ2 => atE ρ2 k fun s => opt (o.get ρ2) fun i => match i with
    | .int i => opt (lstOf s) fun xs => opt (ixN xs.length i) fun j => Q .next (ρ2.set k (s.upd (.lst (xs.set j d))))
    | _ => False) E := fun {d0} h => by
    refine Eq.trans (wp_of (m' := idx.bind fun o => fun ρ => match ρ[k]?, o.get ρ with
        | some s, some (.int i) => match s.obj with
          | some (.lst xs) => match ixN xs.length i with
            | some j => .ok .next (ρ.set k (s.upd (.lst (xs.set j d))))
            | none => .bad
          | _ => .bad
        | _, _ => .bad) (by rw [h])) ?_
    rw [wp_bind]
    congr 1; funext o ρ2
    unfold wp atE opt
    dsimp only
    cases ρ2[k]? with
    | none => (first | rfl | (unfold wp; rfl))
    | some s =>
      cases o.get ρ2 with
      | none => (first | rfl | (unfold wp; rfl))
      | some i =>
        cases i with
        | int i =>
          cases s with
          | un => (first | rfl | (unfold wp; rfl))
          | val _ => (first | rfl | (unfold wp; rfl))
          | own d' =>
            cases d' with
            | lst xs => simp only [sl_obj_own, lstOf_own]; cases ixN xs.length i <;> (first | rfl | (unfold wp; rfl))
            | _ => (first | rfl | (unfold wp; rfl))
          | io d' =>
            cases d' with
            | lst xs => simp only [sl_obj_io, lstOf_io]; cases ixN xs.length i <;> (first | rfl | (unfold wp; rfl))
            | _ => (first | rfl | (unfold wp; rfl))
        | _ => (first | rfl | (unfold wp; rfl))
  unfold atE opt
  cases e1 : ρ1[k]? with
  | none => exact bad (by rw [e1]; rfl)
  | some s =>
    dsimp only
    cases e2 : s.obj with
    | none => exact bad (by rw [e1]; exact e2)
    | some d0 => exact good (d0 := d0) (by rw [e1]; exact e2)

/-- a stop between two statements -/
theorem wp_cut {f g : M Fl} {Q : Fl → Env → Prop} (I : Env → Prop) (hf : wp f ρ (fun r ρ' => andThen r (I ρ') (fun x => Q x ρ')) E) (hg : ∀ ρ', I ρ' → wp g ρ' Q E) : wp (mSeq f g) ρ Q E := by
  rw [wp_mSeq]
  refine wp_mono hf (fun r ρ' h => ?_) fun _ _ _ h => h
  cases r with
  | next => exact hg ρ' h
  | brk => exact h
  | cont => exact h
  | ret d => exact h
  | new d => exact h
theorem wp_step {f g : M Fl} {Q : Fl → Env → Prop} {I : Env → Prop} (hf : wp f ρ (fun r ρ' => r = .next ∧ I ρ') noE) (hg : ∀ ρ', I ρ' → wp g ρ' Q E) : wp (mSeq f g) ρ Q E :=
  wp_cut I (wp_mono hf (fun r ρ' h => by obtain ⟨rfl, h⟩ := h; exact h) fun _ _ _ h => h.elim) hg
theorem wp_seqA {f g h : M Fl} {Q : Fl → Env → Prop} (q : wp (mSeq (mSeq f g) h) ρ Q E) : wp (mSeq f (mSeq g h)) ρ Q E := by
  simp only [wp_mSeq] at q ⊢
  refine wp_mono q (fun r ρ' h => ?_) fun _ _ _ h => h
  cases r with
  | next =>
    refine wp_mono h (fun r ρ' h => ?_) fun _ _ _ h => h
    cases r <;> exact h
  | brk => exact h
  | cont => exact h
  | ret d => exact h
  | new d => exact h

/-! loops -/
/-- a turn's end -/
def turnE (r : Fl) (P : Prop) (Q : Fl → Prop) : Prop := match r with
  | .next => P
  | .cont => P
  | .brk => Q .next
  | .ret d => Q (.ret d)
  | .new d => Q (.new d)
@[simp, simp ↓] theorem te_next {P : Prop} {Q : Fl → Prop} : turnE .next P Q = P := rfl
@[simp, simp ↓] theorem te_cont {P : Prop} {Q : Fl → Prop} : turnE .cont P Q = P := rfl
@[simp, simp ↓] theorem te_brk {P : Prop} {Q : Fl → Prop} : turnE .brk P Q = Q .next := rfl
@[simp, simp ↓] theorem te_ret {P : Prop} {Q : Fl → Prop} {d : D} : turnE (.ret d) P Q = Q (.ret d) := rfl
@[simp, simp ↓] theorem te_new {P : Prop} {Q : Fl → Prop} {d : D} : turnE (.new d) P Q = Q (.new d) := rfl
theorem wp_turn {o : Out Fl} {k : M Fl} {Q : Fl → Env → Prop} : wp (fun _ => o.turn k) ρ Q E = wp (fun _ => o) ρ (fun r ρ' => turnE r (wp k ρ' Q E) (fun x => Q x ρ')) E := by
  unfold wp
  cases o with
  | ok r ρ' => cases r <;> (first | rfl | (unfold wp; rfl))
  | err c fs ρ' => (first | rfl | (unfold wp; rfl))
  | bad => (first | rfl | (unfold wp; rfl))
@[simp, simp ↓] theorem wp_loop0 {step : D → M Fl} {Q : Fl → Env → Prop} : wp (loopL step []) ρ Q E = Q .next ρ := by unfold wp; rfl
theorem wp_loopS {step : D → M Fl} {d : D} {ds : List D} {Q : Fl → Env → Prop} : wp (loopL step (d :: ds)) ρ Q E = wp (step d) ρ (fun r ρ' => turnE r (wp (loopL step ds) ρ' Q E) (fun x => Q x ρ')) E :=
  (wp_of (m := loopL step (d :: ds)) (m' := fun _ => (step d ρ).turn (loopL step ds)) rfl).trans ((wp_turn (ρ := ρ) (o := step d ρ)).trans (wp_of rfl))
/-- a for over xs, what was walked so far: pre -/
theorem wp_for {α : Type} {e : α → D} {xs : List α} {step : D → M Fl} {Q : Fl → Env → Prop} (I : List α → Env → Prop) (h0 : I [] ρ)
    (hs : ∀ pre x suf ρ, xs = pre ++ x :: suf → I pre ρ → wp (step (e x)) ρ (fun r ρ' => turnE r (I (pre ++ [x]) ρ') (fun y => Q y ρ')) E) (hd : ∀ ρ, I xs ρ → Q .next ρ) : wp (loopL step (xs.map e)) ρ Q E := by
  have key : ∀ (suf pre : List α) (ρ : Env), xs = pre ++ suf → I pre ρ → wp (loopL step (suf.map e)) ρ Q E := by
    intro suf
    induction suf with
    | nil => intro pre ρ hx hi; rw [List.append_nil] at hx; subst hx; rw [List.map_nil, wp_loop0]; exact hd ρ hi
    | cons x suf ih =>
      intro pre ρ hx hi
      rw [List.map_cons, wp_loopS]
      refine wp_mono (hs pre x suf ρ hx hi) (fun r ρ' h => ?_) (fun _ _ _ h => h)
      cases r with
      | next => exact ih (pre ++ [x]) ρ' (by rw [hx, List.append_assoc]; rfl) h
      | cont => exact ih (pre ++ [x]) ρ' (by rw [hx, List.append_assoc]; rfl) h
      | brk => exact h
      | ret d => exact h
      | new d => exact h
  exact key xs [] ρ rfl h0
theorem rngD_map (lo : Int) (n : Nat) : rngD lo n = (List.range n).map fun i => D.int (lo + (i : Nat)) := rfl
/-- a for over a range: i turns done -/
theorem wp_range {lo : Int} {n : Nat} {step : D → M Fl} {Q : Fl → Env → Prop} (I : Nat → Env → Prop) (h0 : I 0 ρ) (hs : ∀ i ρ, i < n → I i ρ → wp (step (.int (lo + (i : Nat)))) ρ (fun r ρ' => turnE r (I (i + 1) ρ') (fun y => Q y ρ')) E) (hd : ∀ ρ, I n ρ → Q .next ρ) :
    wp (loopL step (rngD lo n)) ρ Q E := by
  rw [rngD_map]
  refine wp_for (fun pre ρ => I pre.length ρ) h0 (fun pre x suf ρ hx hi => ?_) (fun ρ h => hd ρ (by rw [List.length_range] at h; exact h))
  have hl : pre.length < n := by
    have := congrArg List.length hx
    rw [List.length_range, List.length_append, List.length_cons] at this
    omega
  have ex : x = pre.length := by
    have h1 : (List.range n)[pre.length]? = some x := by rw [hx]; simp
    rw [List.getElem?_range hl] at h1
    exact (Option.some.inj h1).symm
  subst ex
  rw [List.length_append, List.length_singleton]
  exact hs _ ρ hl hi
theorem wp_rangeC {lo c : Int} {n : Nat} {step : D → M Fl} {Q : Fl → Env → Prop} (I : Nat → Env → Prop) (h0 : I 0 ρ) (hs : ∀ i ρ, i < n → I i ρ → wp (step (.int (lo + (i : Nat) * c))) ρ (fun r ρ' => turnE r (I (i + 1) ρ') (fun y => Q y ρ')) E) (hd : ∀ ρ, I n ρ → Q .next ρ) :
    wp (loopL step (rngC lo c n)) ρ Q E := by
  unfold rngC
  refine wp_for (fun pre ρ => I pre.length ρ) h0 (fun pre x suf ρ hx hi => ?_) (fun ρ h => hd ρ (by rw [List.length_range] at h; exact h))
  have hl : pre.length < n := by
    have := congrArg List.length hx
    rw [List.length_range, List.length_append, List.length_cons] at this
    omega
  have ex : x = pre.length := by
    have h1 : (List.range n)[pre.length]? = some x := by rw [hx]; simp
    rw [List.getElem?_range hl] at h1
    exact (Option.some.inj h1).symm
  subst ex
  rw [List.length_append, List.length_singleton]
  exact hs _ ρ hl hi
/-- a while: I by a measure -/
theorem wp_while {c : M Bool} {is : List Nat} {b : M Fl} {Q : Fl → Env → Prop} (I : Nat → Env → Prop) (m : Nat) (hm : m < FUEL) (h0 : I m ρ)
    (hs : ∀ n ρ, I n ρ → wp c ρ (fun k ρ1 => fork k (wp b ρ1 (fun r ρ2 => turnE r (∃ n', n' < n ∧ I n' (kill is ρ2)) (fun y => Q y (kill is ρ2))) E) (Q .next ρ1)) E) : wp (mWhile c is b) ρ Q E := by
  have key : ∀ (f n : Nat) (ρ : Env), n < f → I n ρ → wp (loopW c (mKill is b) f) ρ Q E := by
    intro f
    induction f with
    | zero => intro n ρ h; omega
    | succ f ih =>
      intro n ρ hn hi
      show wp (c.bind fun k => if k = true then fun ρ => (mKill is b ρ).turn (loopW c (mKill is b) f) else mSkip) ρ Q E
      rw [wp_bind]
      refine wp_mono (hs n ρ hi) (fun k ρ1 h => ?_) (fun _ _ _ h => h)
      cases k with
      | false => rw [fork_f] at h; exact (by unfold wp; exact h)
      | true =>
        rw [fork_t] at h
        have h : wp b ρ1 (fun r ρ2 => turnE r (∃ n', n' < n ∧ I n' (kill is ρ2)) (fun y => Q y (kill is ρ2))) E := h
        have e : wp (fun ρ => (mKill is b ρ).turn (loopW c (mKill is b) f)) ρ1 Q E = wp (mKill is b) ρ1 (fun r ρ' => turnE r (wp (loopW c (mKill is b) f) ρ' Q E) (fun x => Q x ρ')) E :=
          (wp_of (m' := fun _ => (mKill is b ρ1).turn (loopW c (mKill is b) f)) rfl).trans ((wp_turn (ρ := ρ1) (o := mKill is b ρ1)).trans (wp_of rfl))
        show wp (fun ρ => (mKill is b ρ).turn (loopW c (mKill is b) f)) ρ1 Q E
        rw [e, wp_mKill]
        refine wp_mono h (fun r ρ2 h => ?_) (fun _ _ _ h => h)
        cases r with
        | next => obtain ⟨n', h1, h2⟩ := h; exact ih n' _ (by omega) h2
        | cont => obtain ⟨n', h1, h2⟩ := h; exact ih n' _ (by omega) h2
        | brk => exact h
        | ret d => exact h
        | new d => exact h
  exact key FUEL m ρ hm h0
/-- a comprehension over xs, what was walked so far: pre, what it gave: acc -/
theorem wp_comp {α : Type} {e : α → D} {xs : List α} {own : List Nat} {g : D → M Unit} {tt : M Bool} {te : M D} {Q : D × Bool → Env → Prop} (hx : xs.length ≤ sizeLine) (ho : okOwn own ρ = true) (I : List α → List D → Env → Prop) (h0 : I [] [] (wipeE ρ own))
    (hs : ∀ pre x suf acc ρ, xs = pre ++ x :: suf → I pre acc ρ → wp (g (e x)) ρ (fun _ ρ1 => wp tt ρ1 (fun b ρ2 => fork b (wp te ρ2 (fun y ρ3 => I (pre ++ [x]) (acc ++ [y]) (wipeE ρ3 own)) noE) (I (pre ++ [x]) acc (wipeE ρ2 own))) noE) noE)
    (hd : ∀ acc ρ', I xs acc ρ' → Q (.lst acc, true) (restE ρ ρ' own)) : wp (mLc own (M.ret (xs.map e)) g tt te) ρ Q E := by
  unfold mLc
  rw [wp_bind, wp_ret]
  have key : ∀ (suf pre : List α) (acc : List D) (ρ0 : Env), xs = pre ++ suf → acc.length ≤ pre.length → I pre acc ρ0 → ∃ acc' ρ', compL own g tt te (suf.map e) acc ρ0 = .ok acc' ρ' ∧ I xs acc' ρ' := by
    intro suf
    induction suf with
    | nil => intro pre acc ρ0 hx' _ hi; rw [List.append_nil] at hx'; subst hx'; exact ⟨acc, ρ0, rfl, hi⟩
    | cons x suf ih =>
      intro pre acc ρ0 hx' hl hi
      have hs' := hs pre x suf acc ρ0 hx' hi
      have hlen : pre.length + (suf.length + 1) = xs.length := by rw [hx', List.length_append, List.length_cons]
      have hz : acc.length < sizeLine := by omega
      rw [List.map_cons]
      show ∃ acc' ρ', (match compTurn g tt te (e x) acc ρ0 with
        | .ok acc' ρ' => if acc.length < sizeLine then compL own g tt te (suf.map e) acc' (wipeE ρ' own) else .bad
        | _ => .bad) = .ok acc' ρ' ∧ I xs acc' ρ'
      unfold compTurn M.bind
      unfold wp at hs'
      cases e1 : g (e x) ρ0 with
      | err c fs ρ1 => rw [e1] at hs'; exact hs'.elim
      | bad => rw [e1] at hs'; exact hs'.elim
      | ok u ρ1 =>
        rw [e1] at hs'
        simp only [then_ok]
        dsimp only at hs'
        cases e2 : tt ρ1 with
        | err c fs ρ2 => rw [e2] at hs'; exact hs'.elim
        | bad => rw [e2] at hs'; exact hs'.elim
        | ok b ρ2 =>
          rw [e2] at hs'
          simp only [then_ok]
          dsimp only at hs'
          cases b with
          | false =>
            have hs' : I (pre ++ [x]) acc (wipeE ρ2 own) := hs'
            rw [if_neg (by decide)]
            show ∃ acc' ρ', (if acc.length < sizeLine then compL own g tt te (suf.map e) acc (wipeE ρ2 own) else .bad) = .ok acc' ρ' ∧ I xs acc' ρ'
            rw [if_pos hz]
            exact ih (pre ++ [x]) acc _ (by rw [hx', List.append_assoc]; rfl) (by rw [List.length_append]; simp; omega) hs'
          | true =>
            rw [fork_t] at hs'
            rw [if_pos rfl]
            cases e3 : te ρ2 with
            | err c fs ρ3 => rw [e3] at hs'; exact hs'.elim
            | bad => rw [e3] at hs'; exact hs'.elim
            | ok y ρ3 =>
              rw [e3] at hs'
              simp only [then_ok]
              show ∃ acc' ρ', (if acc.length < sizeLine then compL own g tt te (suf.map e) (acc ++ [y]) (wipeE ρ3 own) else .bad) = .ok acc' ρ' ∧ I xs acc' ρ'
              rw [if_pos hz]
              exact ih (pre ++ [x]) (acc ++ [y]) _ (by rw [hx', List.append_assoc]; rfl) (by rw [List.length_append, List.length_append]; simp; omega) hs'
  obtain ⟨acc', ρ', e1, hi⟩ := key xs [] [] (wipeE ρ own) rfl (Nat.le_refl _) h0
  unfold wp
  dsimp only
  rw [if_pos ho, e1]
  exact hd acc' ρ' hi
end
end DL
namespace DL
open PySem L2
@[simp ↓] theorem opt_now {ρ : Env} {d : D} {P : D → Prop} : opt (OV.get ρ (.now d)) P = P d := rfl
@[simp ↓] theorem opt_late0 {ρ : Env} {s : Sl} {P : D → Prop} : opt (OV.get (s :: ρ) (.late 0)) P = opt s.get P := rfl
@[simp ↓] theorem opt_lateS {ρ : Env} {s : Sl} {i : Nat} {P : D → Prop} : opt (OV.get (s :: ρ) (.late (i + 1))) P = opt (OV.get ρ (.late i)) P := rfl
@[simp ↓] theorem opt_val {d : D} {P : D → Prop} : opt (Sl.val d).get P = P d := rfl
@[simp ↓] theorem opt_own {d : D} {P : D → Prop} : opt (Sl.own d).get P = P d := rfl
@[simp ↓] theorem opt_io {d : D} {P : D → Prop} : opt (Sl.io d).get P = P d := rfl
end DL

namespace DL
open PySem L2

/-! ## the three defs that every law has: the deck, a draw, the plain form -/
def bDeck : M Fl := (mSeq (mSet 3 (mList mNil))
  (mSeq (mSet 4 (mBin opAdd (M.map OV.now (mLit (.int 7))) (M.map OV.now (M.map Prod.fst (mCallB opLen (mCons (oVar 0) mNil))))))
  (mSeq (mKill [4, 5, 6, 7, 8] (mFor (mRange1 (mCons (oVar 1) mNil)) (gSet 5) [5, 6, 7, 8] (mSeq (mSet 6 (M.map (fun d => (d, false)) (mLit (.int 0))))
  (mSeq (mIf (asB (mBin opLt (oVar 5) (M.map OV.now (M.map Prod.fst (mCallB opLen (mCons (oVar 0) mNil)))))) (mSet 6 (mBin opIx (oVar 0) (oVar 5))) mSkip)
  (mSeq (mSet 7 (mCallB opAbs (mCons (oVar 6) mNil)))
  (mKill [7, 8] (mIf (asB (mBin opGe (oVar 7) (M.map OV.now (M.map Prod.fst (mBin opPow (M.map OV.now (mLit (.int 10))) (M.map OV.now (mLit (.int 30)))))))) (mKill [7, 8] (mFor (mRange1 (mCons (oVar 2) mNil)) (gSet 8) [8] (mSeq (mExpr (M.map (fun d => (d, false)) (mMutL 3 opAppend (mCons (M.map Prod.fst (mBin opMod (M.map OV.now (M.map Prod.fst (mCallB opInt (mCons (oVar 7) mNil)))) (M.map OV.now (mLit (.int 1000003))))) mNil))))
  (mSet 7 (mBin opFdiv (oVar 7) (M.map OV.now (mLit (.int 1000003)))))))) (mSeq (mSet 4 (mBin opMod (M.map OV.now (M.map Prod.fst (mCallB opInt (mCons (M.map OV.now (M.map Prod.fst (mBin opAdd (M.map OV.now (M.map Prod.fst (mBin opAdd (M.map OV.now (M.map Prod.fst (mBin opAdd (M.map OV.now (M.map Prod.fst (mBin opMul (oVar 4) (M.map OV.now (mLit (.int 48271)))))) (M.map OV.now (M.map Prod.fst (mBin opMul (M.map OV.now (mLit (.int 2))) (oVar 7))))))) (M.map OV.now (M.map Prod.fst (mCallB opInt (mCons (M.map OV.now (M.map Prod.fst (mBin opLt (oVar 6) (M.map OV.now (mLit (.int 0)))))) mNil))))))) (oVar 5)))) mNil)))) (M.map OV.now (mLit (.int 2147483647)))))
  (mKill [8] (mFor (mRange1 (mCons (oVar 2) mNil)) (gSet 8) [8] (mSeq (mSet 4 (mBin opMod (M.map OV.now (M.map Prod.fst (mCallB opInt (mCons (M.map OV.now (M.map Prod.fst (mBin opAdd (M.map OV.now (M.map Prod.fst (mBin opAdd (M.map OV.now (M.map Prod.fst (mBin opMul (oVar 4) (M.map OV.now (mLit (.int 69621)))))) (oVar 8)))) (M.map OV.now (mLit (.int 1)))))) mNil)))) (M.map OV.now (mLit (.int 2147483629)))))
  (mExpr (M.map (fun d => (d, false)) (mMutL 3 opAppend (mCons (M.map Prod.fst (mBin opMod (M.map OV.now (M.map Prod.fst (mCallB opInt (mCons (M.map OV.now (M.map Prod.fst (mBin opFdiv (oVar 4) (M.map OV.now (mLit (.int 5)))))) mNil)))) (M.map OV.now (mLit (.int 1000003))))) mNil)))))))))))))))
  (mSeq (mExpr (M.map (fun d => (d, false)) (mMutL 3 opReverse mNil)))
  (mRetV (mOwn 3))))))
def fDeck : Fn := runDefN 9 bDeck
def bPlain (rf : Fn) : M Fl := (mSeq (mIf (mTruth (M.map OV.now (mIsi ["tuple", "list"] (oVar 0)))) (mRet (M.map Prod.fst (mBin opAdd (M.map OV.now (M.map Prod.fst (mList (mCons (mIsi ["list"] (oVar 0)) mNil)))) (M.map OV.now (M.map Prod.fst (mLc [1] (mItems (eVar 0)) (gSet 1) mYes (mCall 1 rf (mCons (M.map OV.now (eVar 1)) mNil)))))))) mSkip)
  (mSeq (mIf (mOr (asB (mBin opIs (oVar 0) (M.map OV.now (mLit .non)))) (mTruth (M.map OV.now (mIsi ["bool"] (oVar 0))))) (mRet (M.map Prod.fst (mBin opIx (M.map OV.now (M.map Prod.fst (mList (mCons (mLit (.str "None")) (mCons (mLit (.str "False")) (mCons (mLit (.str "True")) mNil)))))) (M.map OV.now (M.map Prod.fst (mBin opAdd (M.map OV.now (M.map Prod.fst (mCallB opInt (mCons (M.map OV.now (M.map Prod.fst (mBin opIsNot (oVar 0) (M.map OV.now (mLit .non))))) mNil)))) (M.map OV.now (M.map Prod.fst (mCallB opInt (mCons (M.map OV.now (M.map Prod.fst (mBin opIs (oVar 0) (M.map OV.now (mLit (.bl true)))))) mNil)))))))))) mSkip)
  (mSeq (mIf (mTruth (M.map OV.now (mIsi ["int", "str"] (oVar 0)))) (mRet (M.map Prod.fst (mList (mCons (mIsi ["str"] (oVar 0)) (mCons (eVar 0) mNil))))) mSkip)
  (mRet (mLit (.str "another"))))))
def fPlain : Nat → Fn
  | 0 => fun _ => .bad
  | n + 1 => runDef 2 (bPlain (fPlain n))
def bTake : M Fl := (mSeq (mIf (asB (mBin opEq (M.map OV.now (M.map Prod.fst (mCallB opLen (mCons (oVar 0) mNil)))) (M.map OV.now (mLit (.int 0))))) (mRet (mLit (.int 0))) mSkip)
  (mRet (M.map Prod.fst (mBin opMod (M.map OV.now (M.map Prod.fst (mCallB opInt (mCons (M.map OV.now (mMutL 0 opPop mNil)) mNil)))) (oVar 1)))))
def fTake : Fn := runDef 2 bTake
def deckD (ds : List Int) : D := .lst (ds.map D.int)
@[simp] theorem fits_0 : fits 0 = true := rfl
@[simp] theorem fits_1 : fits 1 = true := rfl
@[simp] theorem fits_2 : fits 2 = true := rfl
@[simp] theorem fits_3 : fits 3 = true := rfl
@[simp] theorem fits_4 : fits 4 = true := rfl
@[simp] theorem fits_5 : fits 5 = true := rfl
@[simp] theorem fits_6 : fits 6 = true := rfl
@[simp] theorem fits_7 : fits 7 = true := rfl
@[simp] theorem fits_8 : fits 8 = true := rfl
@[simp] theorem fits_9 : fits 9 = true := rfl
@[simp] theorem fits_10 : fits 10 = true := rfl
@[simp] theorem fits_11 : fits 11 = true := rfl
@[simp] theorem fits_12 : fits 12 = true := rfl
@[simp] theorem truthD_bl {b : Bool} : truthD (.bl b) = some b := rfl
@[simp] theorem truthD_non : truthD .non = some false := rfl
@[simp] theorem truthD_int {i : Int} : truthD (.int i) = some (i != 0) := rfl
@[simp] theorem truthD_lst {xs : List D} : truthD (.lst xs) = some (!xs.isEmpty) := rfl
@[simp] theorem truthD_tup {xs : List D} : truthD (.tup xs) = some (!xs.isEmpty) := rfl
@[simp] theorem itemsD_lst {xs : List D} : itemsD (.lst xs) = some xs := rfl
@[simp] theorem itemsD_tup {xs : List D} : itemsD (.tup xs) = some xs := rfl
@[simp] theorem itemsD_rol {xs : List D} : itemsD (.rol xs) = some xs := rfl
@[simp, simp ↓] theorem opTuple_lst {xs : List D} {P : D × Bool → Prop} : opt (opTuple [.lst xs]) P = P (.tup xs, false) := rfl
@[simp, simp ↓] theorem opTuple_tup {xs : List D} {P : D × Bool → Prop} : opt (opTuple [.tup xs]) P = P (.tup xs, false) := rfl
@[simp, simp ↓] theorem opList_lst {xs : List D} {P : D × Bool → Prop} : opt (opList [.lst xs]) P = P (.lst xs, true) := rfl
@[simp, simp ↓] theorem opList_tup {xs : List D} {P : D × Bool → Prop} : opt (opList [.tup xs]) P = P (.lst xs, true) := rfl
@[simp, simp ↓] theorem opRev_lst {xs : List D} {P : D × Bool → Prop} : opt (opRev (.lst xs)) P = P (.lst xs.reverse, true) := rfl
/-! == of data of one shape -/
theorem opEq_py {a b : D} {p q : PyData} {P : D × Bool → Prop} (h1 : a.py = some p) (h2 : b.py = some q) (s1 : SeqAt.shaped p = true) (s2 : SeqAt.shaped q = true) : opt (opEq a b) P = P (.bl (PyData.eqv p q), false) := by
  unfold opEq eqWith
  rw [h1, h2]
  dsimp only
  rw [opt_ifOk, s1, s2]
  simp
theorem opNe_py {a b : D} {p q : PyData} {P : D × Bool → Prop} (h1 : a.py = some p) (h2 : b.py = some q) (s1 : SeqAt.shaped p = true) (s2 : SeqAt.shaped q = true) : opt (opNe a b) P = P (.bl (!PyData.eqv p q), false) := by
  unfold opNe eqWith
  rw [h1, h2]
  dsimp only
  rw [opt_ifOk, s1, s2]
  simp
@[simp, simp ↓] theorem opLen_lst {xs : List D} {P : D × Bool → Prop} : opt (opLen [.lst xs]) P = P (.int xs.length, false) := rfl
@[simp, simp ↓] theorem opLen_tup {xs : List D} {P : D × Bool → Prop} : opt (opLen [.tup xs]) P = P (.int xs.length, false) := rfl
@[simp, simp ↓] theorem opLen_rol {xs : List D} {P : D × Bool → Prop} : opt (opLen [.rol xs]) P = P (.int xs.length, false) := rfl
@[simp, simp ↓] theorem opInt_int {i : Int} {P : D × Bool → Prop} : opt (opInt [.int i]) P = P (.int i, false) := rfl
@[simp, simp ↓] theorem opInt_bl {b : Bool} {P : D × Bool → Prop} : opt (opInt [.bl b]) P = P (.int (if b then 1 else 0), false) := rfl
@[simp, simp ↓] theorem opAbs_int {i : Int} {P : D × Bool → Prop} : opt (opAbs [.int i]) P = P (.int (if i < 0 then -i else i), false) := rfl
@[simp, simp ↓] theorem opAdd_int {i j : Int} {P : D × Bool → Prop} : opt (opAdd (.int i) (.int j)) P = P (.int (i + j), false) := rfl
@[simp, simp ↓] theorem opSub_int {i j : Int} {P : D × Bool → Prop} : opt (opSub (.int i) (.int j)) P = P (.int (i - j), false) := rfl
@[simp, simp ↓] theorem opMul_int {i j : Int} {P : D × Bool → Prop} : opt (opMul (.int i) (.int j)) P = (mulOk i j = true ∧ P (.int (i * j), false)) := opt_ifOk
@[simp, simp ↓] theorem opEq_int {i j : Int} {P : D × Bool → Prop} : opt (opEq (.int i) (.int j)) P = P (.bl (decide (i = j)), false) := by
  have : opEq (.int i) (.int j) = some (.bl (i == j), false) := rfl
  rw [this]
  show P (.bl (i == j), false) = _
  congr 2
@[simp, simp ↓] theorem opNe_int {i j : Int} {P : D × Bool → Prop} : opt (opNe (.int i) (.int j)) P = P (.bl (!decide (i = j)), false) := by
  have : opNe (.int i) (.int j) = some (.bl (!(i == j)), false) := rfl
  rw [this]
  show P (.bl (!(i == j)), false) = _
  congr 2
@[simp, simp ↓] theorem opMod_int {i j : Int} {P : D × Bool → Prop} : opt (opMod (.int i) (.int j)) P = (j ≠ 0 ∧ P (.int (i.fmod j), false)) := by
  show opt (ifOk (decide (j ≠ 0)) _) P = _
  rw [opt_ifOk, decide_eq_true_eq]
@[simp, simp ↓] theorem opFdiv_int {i j : Int} {P : D × Bool → Prop} : opt (opFdiv (.int i) (.int j)) P = (divOk j = true ∧ P (.int (i.fdiv j), false)) := opt_ifOk
@[simp, simp ↓] theorem opPow_int {i j : Int} {P : D × Bool → Prop} : opt (opPow (.int i) (.int j)) P = (powOk i j = true ∧ P (.int (i ^ j.toNat), false)) := opt_ifOk
@[simp, simp ↓] theorem opLt_int {i j : Int} {P : D × Bool → Prop} : opt (opLt (.int i) (.int j)) P = P (.bl (decide (i < j)), false) := rfl
@[simp, simp ↓] theorem opLe_int {i j : Int} {P : D × Bool → Prop} : opt (opLe (.int i) (.int j)) P = P (.bl (decide (i ≤ j)), false) := rfl
@[simp, simp ↓] theorem opGt_int {i j : Int} {P : D × Bool → Prop} : opt (opGt (.int i) (.int j)) P = P (.bl (decide (j < i)), false) := rfl
@[simp, simp ↓] theorem opGe_int {i j : Int} {P : D × Bool → Prop} : opt (opGe (.int i) (.int j)) P = P (.bl (decide (j ≤ i)), false) := rfl
@[simp, simp ↓] theorem opNeg_int {i : Int} {P : D × Bool → Prop} : opt (opNeg (.int i)) P = P (.int (-i), false) := rfl
@[simp, simp ↓] theorem opIx_lst {xs : List D} {i : Int} {P : D × Bool → Prop} : opt (opIx (.lst xs) (.int i)) P = opt (atI xs i) fun d => P (d, false) := opt_map
@[simp, simp ↓] theorem opIx_rol {xs : List D} {i : Int} {P : D × Bool → Prop} : opt (opIx (.rol xs) (.int i)) P = opt (atI xs i) fun d => P (d, false) := opt_map
@[simp, simp ↓] theorem opIx_tup {xs : List D} {i : Int} {P : D × Bool → Prop} : opt (opIx (.tup xs) (.int i)) P = opt (atI xs i) fun d => P (d, false) := opt_map
@[simp, simp ↓] theorem opAdd_lst {xs ys : List D} {P : D × Bool → Prop} : opt (opAdd (.lst xs) (.lst ys)) P = (fits (xs.length + ys.length) = true ∧ P (.lst (xs ++ ys), true)) := opt_ifOk
theorem atI_lit {α : Type} {xs : List α} {n : Nat} : atI xs (n : Int) = xs[n]? := by
  cases h : xs[n]? with
  | some x => exact atI_nat h
  | none =>
    have hl : xs.length ≤ n := List.getElem?_eq_none_iff.mp h
    unfold atI ixN
    simp
    omega
@[simp] theorem atI_0 {α : Type} {xs : List α} : atI xs 0 = xs[0]? := atI_lit (n := 0)
@[simp] theorem atI_1 {α : Type} {xs : List α} : atI xs 1 = xs[1]? := atI_lit (n := 1)
@[simp] theorem atI_2 {α : Type} {xs : List α} : atI xs 2 = xs[2]? := atI_lit (n := 2)
@[simp] theorem atI_3 {α : Type} {xs : List α} : atI xs 3 = xs[3]? := atI_lit (n := 3)
@[simp] theorem atI_4 {α : Type} {xs : List α} : atI xs 4 = xs[4]? := atI_lit (n := 4)
@[simp] theorem isNon_non : D.isNon .non = true := rfl
@[simp] theorem isNon_bl {b : Bool} : D.isNon (.bl b) = false := rfl
@[simp] theorem isNon_int {i : Int} : D.isNon (.int i) = false := rfl
@[simp] theorem isNon_str {s : Str} : D.isNon (.str s) = false := rfl
@[simp] theorem isNon_lst {xs : List D} : D.isNon (.lst xs) = false := rfl
@[simp] theorem isNon_tup {xs : List D} : D.isNon (.tup xs) = false := rfl
@[simp, simp ↓] theorem opIs_non {d : D} {P : D × Bool → Prop} : opt (opIs d .non) P = P (.bl d.isNon, false) := by cases d <;> rfl
@[simp, simp ↓] theorem opIsNot_non {d : D} {P : D × Bool → Prop} : opt (opIsNot d .non) P = P (.bl (!d.isNon), false) := by cases d <;> rfl
@[simp, simp ↓] theorem opIs_bl {a b : Bool} {P : D × Bool → Prop} : opt (opIs (.bl a) (.bl b)) P = P (.bl (decide (a = b)), false) := rfl
@[simp, simp ↓] theorem opIs_nb {b : Bool} {P : D × Bool → Prop} : opt (opIs .non (.bl b)) P = P (.bl false, false) := rfl
@[simp] theorem isBs_int {Ts : List String} {i : Int} : isBs Ts (.int i) = some (Ts.any fun T => "int" == T) := by
  show some _ = _
  congr 2; funext T
  by_cases h : T = "int" <;> simp [D.tyName]
@[simp] theorem isBs_bl {Ts : List String} {b : Bool} : isBs Ts (.bl b) = some (Ts.any fun T => "bool" == T || T == "int") := by
  show some _ = _
  congr 2; funext T
  simp [D.tyName]
@[simp] theorem isBs_str {Ts : List String} {s : Str} : isBs Ts (.str s) = some (Ts.any fun T => "str" == T) := by
  show some _ = _
  congr 2; funext T
  simp [D.tyName]
@[simp] theorem isBs_non {Ts : List String} : isBs Ts .non = some (Ts.any fun T => "NoneType" == T) := by
  show some _ = _
  congr 2; funext T
  simp [D.tyName]
@[simp] theorem isBs_lst {Ts : List String} {xs : List D} : isBs Ts (.lst xs) = some (Ts.any fun T => "list" == T) := by
  show some _ = _
  congr 2; funext T
  simp [D.tyName]
@[simp] theorem isBs_tup {Ts : List String} {xs : List D} : isBs Ts (.tup xs) = some (Ts.any fun T => "tuple" == T) := by
  show some _ = _
  congr 2; funext T
  simp [D.tyName]
theorem atI_get {α : Type} {xs : List α} {i : Nat} {x : α} (h : xs[i]? = some x) : atI xs (i : Int) = some x := atI_nat h

theorem take_app {ds : List Int} {m : Int} (hm : 0 < m) {P : D × D → Prop} (h : ∀ x ds', 0 ≤ x → x < m → P (.int x, deckD ds')) : opt (fTake.app1 (deckD ds) [.int m]) P := by
  unfold fTake
  refine app1_of ?_
  unfold bTake deckD
  rcases List.eq_nil_or_concat ds with rfl | ⟨ds0, d, rfl⟩
  · simp
    exact h 0 [] (Int.le_refl _) hm
  · simp
    refine ⟨fun h0 => by omega, fun _ => ⟨by omega, ?_⟩⟩
    exact h _ ds0 (Int.fmod_nonneg_of_pos _ hm) (Int.fmod_lt_of_pos _ hm)
theorem wp_take {ρ : Env} {E : EQ} {i : Nat} {s : Sl} {ds : List Int} {m : Int} {Q : D → Env → Prop} (hs : ρ[i]? = some s) (ho : s.obj = some (deckD ds)) (hm : 0 < m)
    (h : ∀ x ds', 0 ≤ x → x < m → Q (.int x) (ρ.set i (s.upd (deckD ds')))) : wp (callOn 2 fTake [.late i, .now (.int m)]) ρ Q E :=
  wp_callio (ds := [.int m]) hs ho (take_app hm fun x ds' h1 h2 => h x ds' h1 h2)

theorem ints_app {ds : List Int} {x : Int} : ds.map D.int ++ [D.int x] = (ds ++ [x]).map D.int := by simp
theorem deck_app {ns : List Int} {cells each : Int} (hc : 0 ≤ cells ∧ cells < 1000) (he : 0 ≤ each ∧ each < 1000) : ∃ ds : List Int, fDeck.app [.rol (ns.map D.int), .int cells, .int each] = .ok (deckD ds) := by
  obtain ⟨d, h, ds, rfl⟩ := app_anyN (n := 9) (body := bDeck) (ds := [.rol (ns.map D.int), .int cells, .int each]) (P := fun d => ∃ ds, d = deckD ds) (by
    unfold bDeck
    simp
    refine ⟨by unfold rng1Ok; simp; omega, ?_⟩
    refine wp_range (I := fun i ρ => ∃ (ds : List Int) (seed : Int), ρ = [.val (.rol (ns.map D.int)), .val (.int cells), .val (.int each), .own (deckD ds), .val (.int seed), .un, .un, .un, .un] ∧ ds.length ≤ i * 1000) ⟨[], _, rfl, by simp⟩ ?_ ?_
    · rintro i ρ hi ⟨ds, seed, rfl, hl⟩
      simp [-wp_mSeq]
      refine wp_seqA (wp_cut (fun ρ' => ∃ c : Int, ρ' = [.val (.rol (ns.map D.int)), .val (.int cells), .val (.int each), .own (deckD ds), .val (.int seed), .val (.int i), .val (.int c), .un, .un]) ?_ ?_)
      · simp
        intro h
        rw [atI_get (x := .int (ns[i]'h)) (by rw [List.getElem?_map, List.getElem?_eq_getElem h]; rfl)]
        exact ⟨_, rfl⟩
      · rintro ρ' ⟨c, rfl⟩
        simp
        have hpow : powOk 10 30 = true := by decide
        have hm1 : mulOk seed 48271 = true := by unfold mulOk; simp
        have mul2 : mulOk 2 (if c < 0 then -c else c) = true := by unfold mulOk; simp
        refine ⟨hpow, fun hc => ?_, fun hc => ?_⟩
        · refine ⟨by unfold rng1Ok; simp; omega, ?_⟩
          refine wp_range (I := fun j ρ => ∃ (ds : List Int) (rest : Int), ρ = [.val (.rol (ns.map D.int)), .val (.int cells), .val (.int each), .own (deckD ds), .val (.int seed), .val (.int i), .val (.int c), .val (.int rest), .un] ∧ ds.length ≤ i * 1000 + j) ⟨ds, _, rfl, by omega⟩ ?_ ?_
          · rintro j ρ hj ⟨ds, rest, rfl, hl⟩
            simp [deckD]
            exact ⟨by rw [sizeLine_eq]; omega, by decide, ds ++ [rest.fmod 1000003], by simp, by simp; omega⟩
          · rintro ρ ⟨ds, rest, rfl, hl⟩
            simp
            exact ⟨ds, rfl, by omega⟩
        · refine ⟨hm1, mul2, by unfold rng1Ok; simp; omega, ?_⟩
          refine wp_range (I := fun j ρ => ∃ (ds : List Int) (seed : Int), ρ = [.val (.rol (ns.map D.int)), .val (.int cells), .val (.int each), .own (deckD ds), .val (.int seed), .val (.int i), .val (.int c), .val (.int (if c < 0 then -c else c)), .un] ∧ ds.length ≤ i * 1000 + j) ⟨ds, _, rfl, by omega⟩ ?_ ?_
          · rintro j ρ hj ⟨ds, seed, rfl, hl⟩
            simp [deckD]
            exact ⟨by unfold mulOk; simp, by decide, by rw [sizeLine_eq]; omega, ds ++ [_], by simp; rfl, by simp; omega⟩
          · rintro ρ ⟨ds, rest, rfl, hl⟩
            simp
            exact ⟨ds, rfl, by omega⟩
    · rintro ρ ⟨ds, seed, rfl, hl⟩
      simp [deckD]
      exact ⟨ds.reverse, by simp⟩)
  exact ⟨ds, h⟩

/-! the plain form -/
mutual
def plainD : D → D
  | .non => .str "None"
  | .bl b => .str (if b then "True" else "False")
  | .int i => .lst [.bl false, .int i]
  | .str s => .lst [.bl true, .str s]
  | .lst xs => .lst (.bl true :: plainDs xs)
  | .tup xs => .lst (.bl false :: plainDs xs)
  | _ => .str "another"
def plainDs : List D → List D
  | [] => []
  | d :: ds => plainD d :: plainDs ds
end
theorem plainDs_map : ∀ ds : List D, plainDs ds = ds.map plainD
  | [] => by simp only [plainDs, List.map_nil]
  | d :: ds => by simp only [plainDs, List.map_cons, plainDs_map ds]
/-- data of some depth, no list too long -/
def pOk : Nat → D → Prop
  | 0, _ => False
  | _ + 1, .non => True
  | _ + 1, .bl _ => True
  | _ + 1, .int _ => True
  | _ + 1, .str _ => True
  | n + 1, .lst xs => xs.length ≤ 100000 ∧ ∀ x ∈ xs, pOk n x
  | n + 1, .tup xs => xs.length ≤ 100000 ∧ ∀ x ∈ xs, pOk n x
  | _ + 1, _ => False
theorem wp_lc0 {own : List Nat} {src : M (List D)} {g : D → M Unit} {tt : M Bool} {te : M D} {ρ ρ' : Env} {E : EQ} {Q : D × Bool → Env → Prop} {xs : List D} (h1 : wp src ρ (fun ds r => ds = xs ∧ r = ρ') E) (h2 : wp (mLc own (M.ret xs) g tt te) ρ' Q E) : wp (mLc own src g tt te) ρ Q E := by
  unfold mLc at h2 ⊢
  rw [wp_bind] at h2 ⊢
  rw [wp_ret] at h2
  refine wp_mono h1 (fun ds r h => ?_) fun _ _ _ h => h
  obtain ⟨rfl, rfl⟩ := h
  exact h2
theorem plain_seq {n : Nat} {d : D} {xs : List D} {k : Bool} (hk : isBs ["tuple", "list"] d = some true) (hl : isBs ["list"] d = some k) (hi : itemsD d = some xs) (hz : xs.length ≤ 100000) (ih : ∀ x ∈ xs, (fPlain n).app [x] = .ok (plainD x)) :
    (fPlain (n + 1)).app [d] = .ok (.lst (.bl k :: plainDs xs)) := by
  refine app_of ?_
  unfold bPlain
  simp [hk, hl, truthD]
  refine wp_lc0 (xs := xs) (ρ' := [.val d, .un]) (by simp [hi]) ?_
  rw [← List.map_id xs]
  refine wp_comp (by rw [sizeLine_eq]; omega) rfl (I := fun pre acc ρ => acc = plainDs pre ∧ ρ = [.val d, .un]) ⟨rfl, rfl⟩ ?_ ?_
  · rintro pre x suf acc ρ hx ⟨rfl, rfl⟩
    have := ih x (by rw [hx]; simp)
    simp [mYes, this, plainDs_map, wipeE]
  · rintro acc ρ' ⟨rfl, rfl⟩
    have : fits (1 + (plainDs xs).length) = true := fits_small (by rw [plainDs_map, List.length_map]; omega)
    simp [restE, this]
theorem plain_app : ∀ (n : Nat) (d : D), pOk n d → (fPlain n).app [d] = .ok (plainD d)
  | 0, _, h => h.elim
  | n + 1, .lst xs, ⟨h1, h2⟩ => by
    have := plain_seq (n := n) (d := .lst xs) (xs := xs) (k := true) rfl rfl rfl h1 fun x hx => plain_app n x (h2 x hx)
    simpa only [plainD] using this
  | n + 1, .tup xs, ⟨h1, h2⟩ => by
    have := plain_seq (n := n) (d := .tup xs) (xs := xs) (k := false) rfl rfl rfl h1 fun x hx => plain_app n x (h2 x hx)
    simpa only [plainD] using this
  | n + 1, .non, _ => by
    refine app_of ?_
    unfold bPlain
    simp [truthD, plainD]
  | n + 1, .bl b, _ => by
    refine app_of ?_
    unfold bPlain
    cases b <;> simp [truthD, plainD]
  | n + 1, .int i, _ => by
    refine app_of ?_
    unfold bPlain
    simp [truthD, plainD]
  | n + 1, .str s, _ => by
    refine app_of ?_
    unfold bPlain
    simp [truthD, plainD]
end DL

namespace DL
open PySem L2

/-! ## == of data -/
/-- data that == looks at, of depth n at most -/
def Dat : Nat → D → Prop
  | _, .non => True
  | _, .bl _ => True
  | _, .int _ => True
  | _, .str s => PyData.strOk s = true
  | n + 1, .lst xs => ∀ x ∈ xs, Dat n x
  | n + 1, .tup xs => ∀ x ∈ xs, Dat n x
  | _, _ => False
/-- .. without a bool in it -/
def Cl : Nat → D → Prop
  | _, .non => True
  | _, .int _ => True
  | _, .str s => PyData.strOk s = true
  | n + 1, .lst xs => ∀ x ∈ xs, Cl n x
  | n + 1, .tup xs => ∀ x ∈ xs, Cl n x
  | _, _ => False
theorem Cl.dat : ∀ {n : Nat} {d : D}, Cl n d → Dat n d := by
  intro n
  induction n with
  | zero => intro d h; cases d <;> first | exact h | exact h.elim | trivial
  | succ n ih =>
    intro d h
    cases d with
    | lst xs => exact fun x hx => ih (h x hx)
    | tup xs => exact fun x hx => ih (h x hx)
    | non => trivial
    | int _ => trivial
    | str _ => exact h
    | bl _ => trivial
    | rol _ => exact h.elim
    | dct _ => exact h.elim
    | dtt _ => exact h.elim
    | obj _ _ => exact h.elim
/-- a datum's PyData, told -/
structure PyAt (n : Nat) (d : D) (p : PyData) : Prop where
  py : d.py = some p
  lay : p.canLay0 = true
  dep : p.depth ≤ n
theorem pys_of {n : Nat} : ∀ {xs : List D}, (∀ x ∈ xs, ∃ p, PyAt n x p) → ∃ ps, D.pys xs = some ps ∧ PyData.canLayAll0 ps = true ∧ PyData.depthAll ps ≤ n
  | [], _ => ⟨[], by simp only [D.pys], by simp only [PyData.canLayAll0], by simp only [PyData.depthAll]; exact Nat.zero_le _⟩
  | x :: xs, h => by
    obtain ⟨p, h1⟩ := h x List.mem_cons_self
    obtain ⟨ps, h2, h3, h4⟩ := pys_of fun y hy => h y (List.mem_cons_of_mem _ hy)
    refine ⟨p :: ps, by simp only [D.pys, h1.py, h2], by simp only [PyData.canLayAll0, h1.lay, h3, Bool.and_self], ?_⟩
    simp only [PyData.depthAll]
    have := h1.dep
    omega
theorem Dat.at : ∀ {n : Nat} {d : D}, Dat n d → ∃ p, PyAt n d p := by
  intro n
  induction n with
  | zero =>
    intro d h
    cases d with
    | non => exact ⟨.none, by simp only [D.py], by simp only [PyData.canLay0], by simp only [PyData.depth]; exact Nat.zero_le _⟩
    | bl b => exact ⟨.bool b, by simp only [D.py], by simp only [PyData.canLay0], by simp only [PyData.depth]; exact Nat.zero_le _⟩
    | int b => exact ⟨.int b, by simp only [D.py], by simp only [PyData.canLay0], by simp only [PyData.depth]; exact Nat.zero_le _⟩
    | str b => exact ⟨.str b, by simp only [D.py], by simp only [PyData.canLay0]; exact h, by simp only [PyData.depth]; exact Nat.zero_le _⟩
    | _ => exact h.elim
  | succ n ih =>
    intro d h
    cases d with
    | non => exact ⟨.none, by simp only [D.py], by simp only [PyData.canLay0], by simp only [PyData.depth]; exact Nat.zero_le _⟩
    | bl b => exact ⟨.bool b, by simp only [D.py], by simp only [PyData.canLay0], by simp only [PyData.depth]; exact Nat.zero_le _⟩
    | int b => exact ⟨.int b, by simp only [D.py], by simp only [PyData.canLay0], by simp only [PyData.depth]; exact Nat.zero_le _⟩
    | str b => exact ⟨.str b, by simp only [D.py], by simp only [PyData.canLay0]; exact h, by simp only [PyData.depth]; exact Nat.zero_le _⟩
    | lst xs =>
      obtain ⟨ps, h1, h2, h3⟩ := pys_of fun x hx => ih (h x hx)
      exact ⟨.list ps, by simp only [D.py, h1], by simp only [PyData.canLay0]; exact h2, by simp only [PyData.depth]; omega⟩
    | tup xs =>
      obtain ⟨ps, h1, h2, h3⟩ := pys_of fun x hx => ih (h x hx)
      exact ⟨.tuple ps, by simp only [D.py, h1], by simp only [PyData.canLay0]; exact h2, by simp only [PyData.depth]; omega⟩
    | _ => exact h.elim
theorem PyAt.shaped {n : Nat} {d : D} {p : PyData} (h : PyAt n d p) (hn : n ≤ 64) : SeqAt.shaped p = true := by
  unfold SeqAt.shaped
  rw [h.lay, decide_eq_true (Nat.le_trans h.dep hn)]
  rfl
theorem eq_self {n : Nat} {d : D} {P : D × Bool → Prop} (h : Dat n d) (hn : n ≤ 64) : opt (opEq d d) P = P (.bl true, false) := by
  obtain ⟨p, hp⟩ := h.at
  rw [opEq_py hp.py hp.py (hp.shaped hn) (hp.shaped hn), SeqAt.eqv_refl p hp.lay]
theorem ne_self {n : Nat} {d : D} {P : D × Bool → Prop} (h : Dat n d) (hn : n ≤ 64) : opt (opNe d d) P = P (.bl false, false) := by
  obtain ⟨p, hp⟩ := h.at
  rw [opNe_py hp.py hp.py (hp.shaped hn) (hp.shaped hn), SeqAt.eqv_refl p hp.lay]
  rfl
theorem Cl.eqv : ∀ {n m : Nat} {d e : D} {p q : PyData}, Cl n d → Cl m e → d.py = some p → e.py = some q → (PyData.eqv p q = true ↔ d = e) := by
  have lists : ∀ {n m : Nat}, (∀ {d e : D} {p q : PyData}, Cl n d → Cl m e → d.py = some p → e.py = some q → (PyData.eqv p q = true ↔ d = e)) →
      ∀ {xs ys : List D} {ps qs : List PyData}, (∀ x ∈ xs, Cl n x) → (∀ y ∈ ys, Cl m y) → D.pys xs = some ps → D.pys ys = some qs → (PyData.eqvAll ps qs = true ↔ xs = ys) := by
    intro n m ih xs
    induction xs with
    | nil =>
      intro ys ps qs _ _ h1 h2
      simp only [D.pys] at h1
      cases h1
      cases ys with
      | nil => simp only [D.pys] at h2; cases h2; simp [PyData.eqvAll]
      | cons y ys =>
        simp only [D.pys] at h2
        cases e1 : D.py y with
        | none => rw [e1] at h2; cases h2
        | some q =>
          cases e2 : D.pys ys with
          | none => rw [e1, e2] at h2; cases h2
          | some qs' => rw [e1, e2] at h2; cases h2; simp [PyData.eqvAll]
    | cons x xs ihx =>
      intro ys ps qs hx hy h1 h2
      simp only [D.pys] at h1
      cases e1 : D.py x with
      | none => rw [e1] at h1; cases h1
      | some p =>
        cases e2 : D.pys xs with
        | none => rw [e1, e2] at h1; cases h1
        | some ps' =>
          rw [e1, e2] at h1
          cases h1
          cases ys with
          | nil => simp only [D.pys] at h2; cases h2; simp [PyData.eqvAll]
          | cons y ys =>
            simp only [D.pys] at h2
            cases e3 : D.py y with
            | none => rw [e3] at h2; cases h2
            | some q =>
              cases e4 : D.pys ys with
              | none => rw [e3, e4] at h2; cases h2
              | some qs' =>
                rw [e3, e4] at h2
                cases h2
                have a1 := ih (hx x List.mem_cons_self) (hy y List.mem_cons_self) e1 e3
                have a2 := ihx (fun z hz => hx z (List.mem_cons_of_mem _ hz)) (fun z hz => hy z (List.mem_cons_of_mem _ hz)) e2 e4
                rw [PyData.eqvAll, Bool.and_eq_true, a1, a2, List.cons.injEq]
  have atoms : ∀ {d e : D} {p q : PyData}, (d = .non ∨ (∃ i, d = .int i) ∨ ∃ s, d = .str s) → (e = .non ∨ (∃ i, e = .int i) ∨ (∃ s, e = .str s) ∨ (∃ xs, e = .lst xs) ∨ ∃ xs, e = .tup xs) → d.py = some p → e.py = some q → (PyData.eqv p q = true ↔ d = e) := by
    intro d e p q hd he h1 h2
    have key : ∀ {xs : List D} {q : PyData}, (D.lst xs).py = some q → ∃ ps, q = .list ps := fun {xs q} h => by
      simp only [D.py] at h
      cases e : D.pys xs with
      | none => rw [e] at h; cases h
      | some ps => rw [e] at h; cases h; exact ⟨ps, rfl⟩
    have key2 : ∀ {xs : List D} {q : PyData}, (D.tup xs).py = some q → ∃ ps, q = .tuple ps := fun {xs q} h => by
      simp only [D.py] at h
      cases e : D.pys xs with
      | none => rw [e] at h; cases h
      | some ps => rw [e] at h; cases h; exact ⟨ps, rfl⟩
    rcases hd with rfl | ⟨i, rfl⟩ | ⟨s, rfl⟩ <;> simp only [D.py] at h1 <;> cases h1 <;> rcases he with rfl | ⟨j, rfl⟩ | ⟨t, rfl⟩ | ⟨ys, rfl⟩ | ⟨ys, rfl⟩
    all_goals first
      | (simp only [D.py] at h2; cases h2; simp [PyData.eqv])
      | (obtain ⟨ps, rfl⟩ := key h2; simp [PyData.eqv])
      | (obtain ⟨ps, rfl⟩ := key2 h2; simp [PyData.eqv])
  have listy : ∀ {k : Bool} {xs : List D} {d : D} {p : PyData}, d = (if k = true then D.tup xs else D.lst xs) → d.py = some p → ∃ ps, D.pys xs = some ps ∧ p = (if k = true then .tuple ps else .list ps) := fun {k xs d p} hd h => by
    subst hd
    cases k with
    | true =>
      simp only [if_true, D.py] at h ⊢
      cases e : D.pys xs with
      | none => rw [e] at h; cases h
      | some ps => rw [e] at h; cases h; exact ⟨ps, rfl, rfl⟩
    | false =>
      simp only [Bool.false_eq_true, if_false, D.py] at h ⊢
      cases e : D.pys xs with
      | none => rw [e] at h; cases h
      | some ps => rw [e] at h; cases h; exact ⟨ps, rfl, rfl⟩
  have kinds : ∀ {m : Nat} {e : D}, Cl m e → (e = .non ∨ (∃ i, e = .int i) ∨ (∃ s, e = .str s) ∨ (∃ xs, e = .lst xs ∧ ∃ k, m = k + 1 ∧ ∀ x ∈ xs, Cl k x) ∨ ∃ xs, e = .tup xs ∧ ∃ k, m = k + 1 ∧ ∀ x ∈ xs, Cl k x) := fun {m e} h => by
    cases m with
    | zero =>
      cases e with
      | non => exact .inl rfl
      | int i => exact .inr (.inl ⟨i, rfl⟩)
      | str s => exact .inr (.inr (.inl ⟨s, rfl⟩))
      | _ => exact h.elim
    | succ k =>
      cases e with
      | non => exact .inl rfl
      | int i => exact .inr (.inl ⟨i, rfl⟩)
      | str s => exact .inr (.inr (.inl ⟨s, rfl⟩))
      | lst xs => exact .inr (.inr (.inr (.inl ⟨xs, rfl, k, rfl, h⟩)))
      | tup xs => exact .inr (.inr (.inr (.inr ⟨xs, rfl, k, rfl, h⟩)))
      | _ => exact h.elim
  intro n
  induction n with
  | zero =>
    intro m d e p q hd he h1 h2
    refine atoms ?_ ?_ h1 h2
    · rcases kinds hd with h | h | h | ⟨_, _, _, h, _⟩ | ⟨_, _, _, h, _⟩
      · exact .inl h
      · exact .inr (.inl h)
      · exact .inr (.inr h)
      · cases h
      · cases h
    · rcases kinds he with h | h | h | ⟨xs, h, _⟩ | ⟨xs, h, _⟩
      · exact .inl h
      · exact .inr (.inl h)
      · exact .inr (.inr (.inl h))
      · exact .inr (.inr (.inr (.inl ⟨xs, h⟩)))
      · exact .inr (.inr (.inr (.inr ⟨xs, h⟩)))
  | succ n ih =>
    intro m d e p q hd he h1 h2
    have he' : e = .non ∨ (∃ i, e = .int i) ∨ (∃ s, e = .str s) ∨ (∃ xs, e = .lst xs) ∨ ∃ xs, e = .tup xs := by
      rcases kinds he with h | h | h | ⟨xs, h, _⟩ | ⟨xs, h, _⟩
      · exact .inl h
      · exact .inr (.inl h)
      · exact .inr (.inr (.inl h))
      · exact .inr (.inr (.inr (.inl ⟨xs, h⟩)))
      · exact .inr (.inr (.inr (.inr ⟨xs, h⟩)))
    rcases kinds hd with h | h | h | ⟨xs, rfl, k, hk, hx⟩ | ⟨xs, rfl, k, hk, hx⟩
    · exact atoms (.inl h) he' h1 h2
    · exact atoms (.inr (.inl h)) he' h1 h2
    · exact atoms (.inr (.inr h)) he' h1 h2
    · obtain ⟨ps, q1, rfl⟩ := listy (k := false) (xs := xs) rfl h1
      cases hk
      rcases kinds he with rfl | ⟨j, rfl⟩ | ⟨t, rfl⟩ | ⟨ys, rfl, k', hk', hy⟩ | ⟨ys, rfl, k', hk', hy⟩
      · simp only [D.py] at h2; cases h2; simp [PyData.eqv]
      · simp only [D.py] at h2; cases h2; simp [PyData.eqv]
      · simp only [D.py] at h2; cases h2; simp [PyData.eqv]
      · obtain ⟨qs, q2, rfl⟩ := listy (k := false) (xs := ys) rfl h2
        have := lists (n := n) (m := k') ih hx hy q1 q2
        simpa [PyData.eqv] using this
      · obtain ⟨qs, q2, rfl⟩ := listy (k := true) (xs := ys) rfl h2
        simp [PyData.eqv]
    · obtain ⟨ps, q1, rfl⟩ := listy (k := true) (xs := xs) rfl h1
      cases hk
      rcases kinds he with rfl | ⟨j, rfl⟩ | ⟨t, rfl⟩ | ⟨ys, rfl, k', hk', hy⟩ | ⟨ys, rfl, k', hk', hy⟩
      · simp only [D.py] at h2; cases h2; simp [PyData.eqv]
      · simp only [D.py] at h2; cases h2; simp [PyData.eqv]
      · simp only [D.py] at h2; cases h2; simp [PyData.eqv]
      · obtain ⟨qs, q2, rfl⟩ := listy (k := false) (xs := ys) rfl h2
        simp [PyData.eqv]
      · obtain ⟨qs, q2, rfl⟩ := listy (k := true) (xs := ys) rfl h2
        have := lists (n := n) (m := k') ih hx hy q1 q2
        simpa [PyData.eqv] using this
/-- == tells whether they are the same -/
theorem eq_cl {n m : Nat} {d e : D} {b : Bool} {P : D × Bool → Prop} (h1 : Cl n d) (h2 : Cl m e) (hn : n ≤ 64) (hm : m ≤ 64) (hb : b = true ↔ d = e) : opt (opEq d e) P = P (.bl b, false) := by
  obtain ⟨p, hp⟩ := h1.dat.at
  obtain ⟨q, hq⟩ := h2.dat.at
  rw [opEq_py hp.py hq.py (hp.shaped hn) (hq.shaped hm)]
  have : PyData.eqv p q = b := by rw [Bool.eq_iff_iff, Cl.eqv h1 h2 hp.py hq.py, hb]
  rw [this]
theorem ne_cl {n m : Nat} {d e : D} {b : Bool} {P : D × Bool → Prop} (h1 : Cl n d) (h2 : Cl m e) (hn : n ≤ 64) (hm : m ≤ 64) (hb : b = true ↔ d = e) : opt (opNe d e) P = P (.bl (!b), false) := by
  obtain ⟨p, hp⟩ := h1.dat.at
  obtain ⟨q, hq⟩ := h2.dat.at
  rw [opNe_py hp.py hq.py (hp.shaped hn) (hq.shaped hm)]
  have : PyData.eqv p q = b := by rw [Bool.eq_iff_iff, Cl.eqv h1 h2 hp.py hq.py, hb]
  rw [this]
/-- the plain form of a datum is data -/
theorem plain_dat : ∀ {n : Nat} {d : D}, Dat n d → Dat (n + 1) (plainD d) := by
  have s1 : ∀ {n : Nat}, Dat n (.str "None") ∧ Dat n (.str "True") ∧ Dat n (.str "False") := fun {n} => by
    cases n <;> exact ⟨show PyData.strOk _ = true by decide +kernel, show PyData.strOk _ = true by decide +kernel, show PyData.strOk _ = true by decide +kernel⟩
  have atom : ∀ {n : Nat} {b : Bool} {d : D}, Dat n d → Dat (n + 1) (.lst [.bl b, d]) := fun {n b d} h x hx => by
    simp only [List.mem_cons, List.not_mem_nil, or_false] at hx
    rcases hx with rfl | rfl
    · cases n <;> trivial
    · exact h
  intro n
  induction n with
  | zero =>
    intro d h
    cases d with
    | non => simp only [plainD]; exact s1.1
    | bl b => simp only [plainD]; cases b <;> first | exact s1.2.1 | exact s1.2.2
    | int i => simp only [plainD]; exact atom h
    | str s => simp only [plainD]; exact atom h
    | _ => exact h.elim
  | succ n ih =>
    intro d h
    have seq : ∀ {b : Bool} {xs : List D}, (∀ x ∈ xs, Dat n x) → Dat (n + 2) (.lst (.bl b :: plainDs xs)) := fun {b xs} hx y hy => by
      rcases List.mem_cons.mp hy with rfl | hy
      · trivial
      · rw [plainDs_map] at hy
        obtain ⟨x, h1, rfl⟩ := List.mem_map.mp hy
        exact ih (hx x h1)
    cases d with
    | non => simp only [plainD]; exact s1.1
    | bl b => simp only [plainD]; cases b <;> first | exact s1.2.1 | exact s1.2.2
    | int i => simp only [plainD]; exact atom h
    | str s => simp only [plainD]; exact atom h
    | lst xs => simp only [plainD]; exact seq h
    | tup xs => simp only [plainD]; exact seq h
    | _ => exact h.elim
/-- lists of ints -/
def intsD (xs : List Int) : D := .lst (xs.map D.int)
theorem dat_ints {n : Nat} {xs : List Int} : Cl (n + 1) (intsD xs) := fun x hx => by
  obtain ⟨i, _, rfl⟩ := List.mem_map.mp hx
  cases n <;> trivial
theorem map_int_inj : ∀ {xs ys : List Int}, xs.map D.int = ys.map D.int → xs = ys
  | [], [], _ => rfl
  | [], _ :: _, h => by cases h
  | _ :: _, [], h => by cases h
  | x :: xs, y :: ys, h => by
    rw [List.map_cons, List.map_cons, List.cons.injEq, D.int.injEq] at h
    rw [h.1, map_int_inj h.2]
theorem ints_inj {xs ys : List Int} : intsD xs = intsD ys ↔ xs = ys := by
  unfold intsD
  rw [D.lst.injEq]
  exact ⟨fun h => map_int_inj h, fun h => by rw [h]⟩
theorem plain_ints {n : Nat} {xs : List Int} (h : xs.length ≤ 100000) : (fPlain (n + 2)).app [intsD xs] = .ok (plainD (intsD xs)) :=
  plain_app _ _ ⟨by rw [List.length_map]; exact h, fun x hx => by obtain ⟨i, _, rfl⟩ := List.mem_map.mp hx; trivial⟩
end DL

namespace DL
open PySem PySem.Spec PyProof.Rows L2

/-! ### small laws of use -/
theorem wp_forD {ρ : Env} {E : EQ} {xs : List D} {step : D → M Fl} {Q : Fl → Env → Prop} (I : List D → Env → Prop) (h0 : I [] ρ)
    (hs : ∀ pre x suf ρ, xs = pre ++ x :: suf → I pre ρ → wp (step x) ρ (fun r ρ' => turnE r (I (pre ++ [x]) ρ') (fun y => Q y ρ')) E) (hd : ∀ ρ, I xs ρ → Q .next ρ) : wp (loopL step xs) ρ Q E := by
  have := wp_for (e := id) (xs := xs) (step := step) (Q := Q) (E := E) I h0 hs hd
  rwa [List.map_id] at this
theorem mulOk_l {i j : Int} (h : -1000000 ≤ i ∧ i ≤ 1000000) : mulOk i j = true := by
  unfold mulOk
  rw [Bool.or_eq_true, decide_eq_true_eq]
  left
  left
  omega
theorem mulOk_r {i j : Int} (h : -1000000 ≤ j ∧ j ≤ 1000000) : mulOk i j = true := by
  unfold mulOk
  rw [Bool.or_eq_true, decide_eq_true_eq]
  left
  right
  omega
theorem divOk_l {j : Int} (h : 0 < j ∧ j ≤ 1000000) : divOk j = true := by
  unfold divOk
  rw [Bool.or_eq_true, decide_eq_true_eq]
  left
  omega
theorem sizeLine_pos : 0 < sizeLine := by rw [sizeLine_eq]; omega
theorem rng1_of {j : Int} (h : -1000000 ≤ j ∧ j ≤ 1000000) : rng1Ok j = true := by
  unfold rng1Ok
  rw [decide_eq_true_eq]
  omega
theorem rg_of {a b : Int} (h : -1000000 ≤ a ∧ a ≤ 1000000) (h' : -1000000 ≤ b ∧ b ≤ 1000000) : rgOk a b = true := by
  unfold rgOk
  rw [decide_eq_true_eq]
  omega
theorem atI_int {α : Type} {xs : List α} {z : Int} {x : α} (k : Nat) (hz : z = k) (h : xs[k]? = some x) : atI xs z = some x := by
  rw [hz]
  exact atI_get h
theorem ixN_of {n j : Nat} (h : j < n) : ixN n (j : Int) = some j := by
  unfold ixN
  simp
  omega
theorem sum_set : ∀ {zs : List Nat} {i z w : Nat}, zs[i]? = some z → (zs.set i w).sum + z = zs.sum + w
  | [], i, z, w, h => by simp at h
  | y :: zs, 0, z, w, h => by
    simp at h
    subst h
    simp
    omega
  | y :: zs, i + 1, z, w, h => by
    have := sum_set (w := w) (show zs[i]? = some z from h)
    simp
    omega
theorem le_sum : ∀ {zs : List Nat} {z : Nat}, z ∈ zs → z ≤ zs.sum
  | y :: ys, z, h => by
    rw [List.sum_cons]
    rcases List.mem_cons.mp h with rfl | h
    · omega
    · have := le_sum h; omega
theorem cut_take {α : Type} {xs : List α} {k : Nat} (h : k ≤ xs.length) : cutD xs none (some (k : Int)) = xs.take k := by
  unfold cutD
  simp [HT.sIx_none, HT.sIx_nat]
theorem cut_drop {α : Type} {xs : List α} {k : Nat} (h : k ≤ xs.length) : cutD xs (some (k : Int)) none = xs.drop k := by
  unfold cutD
  rw [HT.sIx_none, HT.sIx_nat, Nat.min_eq_left h]
  rw [List.take_of_length_le (by rw [List.length_drop]; omega)]
theorem flat_rep {α : Type} (m : Nat) (x : α) : (List.replicate m [x]).flatten = List.replicate m x := by
  induction m with
  | zero => rfl
  | succ m ih => rw [List.replicate_succ, List.flatten_cons, ih, List.replicate_succ]; rfl
@[simp, simp ↓] theorem opMul_rep {xs : List D} {k : Int} {P : D × Bool → Prop} : opt (opMul (.lst xs) (.int k)) P = (repOk xs.length k = true ∧ P (.lst (List.replicate k.toNat xs).flatten, true)) := opt_ifOk
theorem rep_of {n : Nat} {k : Int} (h : n = 1) (hk : 0 ≤ k ∧ k ≤ 1000000) : repOk n k = true := by
  subst h
  unfold repOk
  rw [decide_eq_true_eq, sizeLine_eq]
  omega
def up (a : Int) (n : Nat) : List Int := (List.range n).map fun (i : Nat) => a + i
theorem up_len {a : Int} {n : Nat} : (up a n).length = n := by simp [up]
theorem up_succ (a : Int) (n : Nat) : up a (n + 1) = up a n ++ [a + n] := by simp [up, List.range_succ]
theorem up_add (a : Int) (n m : Nat) : up a (n + m) = up a n ++ up (a + n) m := by
  induction m with
  | zero => simp [up]
  | succ m ih =>
    rw [← Nat.add_assoc, up_succ, ih, up_succ, List.append_assoc]
    congr 3
    simp
    omega
theorem rgD_up (n : Nat) : D.lst (rgD 1 ((n : Int) + 1)) = intsD (up 1 n) := by
  unfold rgD intsD up
  have : ((n : Int) + 1 - 1).toNat = n := by omega
  rw [this, List.map_map]
  rfl
theorem up_nodup (a : Int) (n : Nat) : (up a n).Nodup := by
  unfold up List.Nodup
  rw [List.pairwise_map]
  exact List.Pairwise.imp (fun h e => h (by omega)) (List.nodup_range (n := n))
theorem ints?_map : ∀ xs : List Int, D.ints? (xs.map D.int) = some xs
  | [] => rfl
  | x :: xs => by
    show D.ints? (D.int x :: xs.map D.int) = _
    unfold D.ints?
    rw [ints?_map xs]
    rfl
def natsD (zs : List Nat) : D := .lst (zs.map fun (z : Nat) => D.int z)
theorem natsD_ints (zs : List Nat) : natsD zs = intsD (zs.map fun (z : Nat) => (z : Int)) := by
  unfold natsD intsD
  rw [List.map_map]
  rfl
theorem ints_cl {n : Nat} {xs : List Int} : Dat (n + 1) (intsD xs) := Cl.dat dat_ints
def opSortRev : List D → Option (D × Bool)
  | [.lst xs] => (D.ints? xs).map fun ns => (intsD (sortI ns).reverse, true)
  | _ => none
@[simp, simp ↓] theorem wp_mSortRev {ρ : Env} {E : EQ} {f : M (List D)} {Q : D × Bool → Env → Prop} : wp (mSortRev f) ρ Q E = wp f ρ (fun ds ρ' => opt (opSortRev ds) fun r => Q r ρ') E := by
  unfold mSortRev
  rw [wp_bind]
  congr 1; funext ds ρ'
  unfold wp opt opSortRev
  match ds with
  | [] => rfl
  | [d] =>
    cases d with
    | lst xs => cases e : D.ints? xs <;> simp only [e] <;> rfl
    | _ => rfl
  | d :: _ :: _ => cases d <;> rfl
theorem opSortRev_ints {xs : List Int} {P : D × Bool → Prop} : opt (opSortRev [intsD xs]) P = P (intsD (sortI xs).reverse, true) := by
  unfold opSortRev intsD
  simp only [ints?_map]
  rfl
theorem opSum_ints {xs : List Int} {P : D × Bool → Prop} : opt (opSum [intsD xs]) P = P (.int xs.sum, false) := by
  unfold opSum intsD
  simp only [ints?_map]
  rfl
theorem opSumT_ints {xs : List Int} {P : D × Bool → Prop} : opt (opSum [.tup (xs.map D.int)]) P = P (.int xs.sum, false) := by
  unfold opSum
  simp only [ints?_map]
  rfl
theorem opSorted_ints {xs : List Int} {P : D × Bool → Prop} : opt (opSorted [intsD xs]) P = P (intsD (sortI xs), true) := by
  unfold opSorted intsD
  simp only [ints?_map]
  rfl
theorem opMax_ints {x : Int} {xs : List Int} {P : D × Bool → Prop} : opt (opMax [intsD (x :: xs)]) P = P (.int (xs.foldl maxI x), false) := by
  unfold opMax intsD
  simp only [ints?_map]
  rfl
theorem opMin_ints {x : Int} {xs : List Int} {P : D × Bool → Prop} : opt (opMin [intsD (x :: xs)]) P = P (.int (xs.foldl minI x), false) := by
  unfold opMin intsD
  simp only [ints?_map]
  rfl
@[simp, simp ↓] theorem opMax2 {i j : Int} {P : D × Bool → Prop} : opt (opMax [.int i, .int j]) P = P (.int (maxI i j), false) := rfl
@[simp, simp ↓] theorem opMax3 {i j k : Int} {P : D × Bool → Prop} : opt (opMax [.int i, .int j, .int k]) P = P (.int (maxI (maxI i j) k), false) := rfl
@[simp, simp ↓] theorem opMin3 {i j k : Int} {P : D × Bool → Prop} : opt (opMin [.int i, .int j, .int k]) P = P (.int (minI (minI i j) k), false) := rfl
@[simp, simp ↓] theorem opMin2 {i j : Int} {P : D × Bool → Prop} : opt (opMin [.int i, .int j]) P = P (.int (minI i j), false) := rfl
theorem sortRev_desc {xs : List Int} (h : xs.Pairwise (· ≥ ·)) : (sortI xs).reverse = xs := by
  have : xs.reverse = sortI xs := sorted_unique ((List.reverse_perm _).trans (sortI_perm xs).symm) (List.pairwise_reverse.mpr h) (sortI_sorted xs)
  rw [← this, List.reverse_reverse]
theorem sortI_asc {xs : List Int} (h : xs.Pairwise (· ≤ ·)) : sortI xs = xs := sorted_unique (sortI_perm xs) (sortI_sorted xs) h
theorem exFld_one {c f : Str} {d : D} : exFld [c] f c [(f, d)] = some d := by
  unfold exFld
  rw [if_pos (by simp)]
  simp [List.lookup]
theorem exTup2_some {g h : ExF} {c : Str} {fs : List (Str × D)} {a b : D} (h1 : g c fs = some a) (h2 : h c fs = some b) : exTup2 g h c fs = some (.tup [a, b]) := by
  unfold exTup2
  rw [h1, h2]
@[simp, simp ↓] theorem op_extendT {xs ys : List D} {P : D × D → Prop} : opt (opExtend (.lst xs) [.tup ys]) P = (xs.length + ys.length ≤ sizeLine ∧ P (.lst (xs ++ ys), .non)) := by
  show opt (if xs.length + ys.length ≤ sizeLine then some (D.lst (xs ++ ys), D.non) else none) P = _
  by_cases h : xs.length + ys.length ≤ sizeLine <;> simp [h]
theorem wp_lcS {own : List Nat} {src : M (List D)} {g : D → M Unit} {tt : M Bool} {te : M D} {ρ : Env} {E : EQ} {Q : D × Bool → Env → Prop} (h : wp src ρ (fun ds r => wp (mLc own (M.ret ds) g tt te) r Q E) E) : wp (mLc own src g tt te) ρ Q E := by
  unfold mLc at h ⊢
  simp only [wp_bind, wp_ret] at h ⊢
  exact h
/-! even parts -/
def szs (m j : Nat) : List Nat := (List.range m).map fun i => j / m + if i < j % m then 1 else 0
theorem szs_len (m j : Nat) : (szs m j).length = m := by simp [szs]
theorem szs_at {m j i : Nat} (h : i < m) : (szs m j)[i]? = some (j / m + if i < j % m then 1 else 0) := by
  simp [szs, h]
theorem szs_0 (m : Nat) : szs m 0 = List.replicate m 0 := by
  apply List.ext_getElem?
  intro i
  by_cases h : i < m
  · rw [szs_at h]; simp [h]
  · rw [List.getElem?_eq_none (by rw [szs_len]; omega), List.getElem?_eq_none (by simp; omega)]
theorem divmod_step {m j : Nat} (h : 0 < m) : (j % m + 1 = m ∧ (j + 1) / m = j / m + 1 ∧ (j + 1) % m = 0) ∨ (j % m + 1 < m ∧ (j + 1) / m = j / m ∧ (j + 1) % m = j % m + 1) := by
  have h1 := Nat.div_add_mod j m
  have h2 := Nat.mod_lt j h
  have h3 := Nat.div_add_mod (j + 1) m
  have h4 := Nat.mod_lt (j + 1) h
  rcases Nat.lt_or_ge (j % m + 1) m with c | c
  · right
    have e : (j + 1) / m = j / m := by
      rw [← h1, show m * (j / m) + j % m + 1 = (j % m + 1) + m * (j / m) by omega, Nat.add_mul_div_left _ _ h, Nat.div_eq_of_lt c]
      rw [h1]; omega
    refine ⟨c, e, ?_⟩
    rw [e] at h3
    omega
  · left
    have e : (j + 1) / m = j / m + 1 := by
      have : j + 1 = 0 + m * (j / m + 1) := by rw [Nat.mul_add]; omega
      rw [this, Nat.add_mul_div_left _ _ h]
      simp
    refine ⟨by omega, e, ?_⟩
    rw [e, Nat.mul_add] at h3
    omega
theorem szs_step {m j : Nat} (h : 0 < m) : (szs m j).set (j % m) (j / m + 1) = szs m (j + 1) := by
  have h2 := Nat.mod_lt j h
  apply List.ext_getElem?
  intro i
  by_cases hi : i < m
  · rw [szs_at hi]
    by_cases e : j % m = i
    · subst e
      rw [List.getElem?_set_self (by rw [szs_len]; exact h2)]
      rcases divmod_step (j := j) h with ⟨a, b, c⟩ | ⟨a, b, c⟩ <;> rw [b, c] <;> simp
    · rw [List.getElem?_set_ne e, szs_at hi]
      rcases divmod_step (j := j) h with ⟨a, b, c⟩ | ⟨a, b, c⟩ <;> rw [b, c]
      · rw [if_pos (by omega), if_neg (by omega)]
      · by_cases c : i < j % m
        · rw [if_pos c, if_pos (by omega)]
        · rw [if_neg c, if_neg (by omega)]
  · rw [List.getElem?_eq_none (by rw [List.length_set, szs_len]; omega), List.getElem?_eq_none (by rw [szs_len]; omega)]
theorem szs_sum {m : Nat} (h : 0 < m) : ∀ j, (szs m j).sum = j
  | 0 => by rw [szs_0]; simp
  | j + 1 => by
    have e := szs_at (m := m) (j := j) (Nat.mod_lt j h)
    rw [if_neg (by omega)] at e
    have := sum_set (w := j / m + 1) e
    rw [szs_step h, szs_sum h j] at this
    omega
theorem szs_mem {m j z : Nat} (hz : z ∈ szs m j) : z = j / m ∨ (z = j / m + 1 ∧ 0 < j % m) := by
  simp only [szs, List.mem_map, List.mem_range] at hz
  obtain ⟨i, hi, rfl⟩ := hz
  by_cases c : i < j % m
  · rw [if_pos c]; right; exact ⟨rfl, by omega⟩
  · rw [if_neg c]; left; rfl
theorem szs_desc (m j : Nat) : (szs m j).Pairwise (· ≥ ·) := by
  unfold szs
  rw [List.pairwise_map]
  refine List.Pairwise.imp (fun {a b} h => ?_) (List.pairwise_lt_range (n := m))
  have : a < b := h
  show _ ≤ _
  by_cases c : b < j % m
  · rw [if_pos c, if_pos (by omega)]; omega
  · rw [if_neg c]; omega
theorem szs_pos {m k z : Nat} (h : 1 ≤ m) (hk : m ≤ k) (hz : z ∈ szs m k) : 1 ≤ z := by
  have : 1 ≤ k / m := Nat.div_pos hk h
  rcases szs_mem hz with rfl | ⟨rfl, _⟩ <;> omega
theorem szs_le {m k z t : Nat} (h : 1 ≤ m) (hk : k ≤ m * t) (hz : z ∈ szs m k) : z ≤ t := by
  have h1 := Nat.div_add_mod k m
  rcases szs_mem hz with rfl | ⟨rfl, h2⟩
  · exact Nat.le_of_mul_le_mul_left (show m * (k / m) ≤ m * t by omega) h
  · have : m * (k / m) < m * t := by omega
    exact Nat.lt_of_mul_lt_mul_left this
end DL

namespace DL
open PySem PySem.Spec PyProof.Rows L2

/-! ### in, index: of data without bools -/
theorem pys_cons {y : D} {ys : List D} {q : List PyData} (h : D.pys (y :: ys) = some q) : ∃ p ps, y.py = some p ∧ D.pys ys = some ps ∧ q = p :: ps := by
  simp only [D.pys] at h
  cases e1 : D.py y with
  | none => rw [e1] at h; cases h
  | some p =>
    cases e2 : D.pys ys with
    | none => rw [e1, e2] at h; cases h
    | some ps => rw [e1, e2] at h; cases h; exact ⟨p, ps, rfl, rfl, rfl⟩
theorem any_cl {n m : Nat} {x : D} {p : PyData} (hx : Cl m x) (hp : x.py = some p) : ∀ {ys : List D} {q : List PyData}, (∀ y ∈ ys, Cl n y) → D.pys ys = some q → (q.any (fun z => PyData.eqv z p) = true ↔ x ∈ ys)
  | [], q, _, h => by
    simp only [D.pys] at h
    cases h
    simp
  | y :: ys, q, hy, h => by
    obtain ⟨p1, ps, h1, h2, e⟩ := pys_cons h
    subst e
    have a := Cl.eqv (hy y List.mem_cons_self) hx h1 hp
    have b := any_cl hx hp (fun z hz => hy z (List.mem_cons_of_mem _ hz)) h2
    rw [List.any_cons, Bool.or_eq_true, a, b, List.mem_cons]
    constructor
    · rintro (h | h)
      · exact .inl h.symm
      · exact .inr h
    · rintro (h | h)
      · exact .inl h.symm
      · exact .inr h
theorem lst_py {n : Nat} {ys : List D} (hy : ∀ y ∈ ys, Dat n y) : ∃ q, D.pys ys = some q ∧ PyAt (n + 1) (.lst ys) (.list q) := by
  obtain ⟨p, h⟩ := Dat.at (n := n + 1) (d := .lst ys) hy
  have h1 := h.py
  simp only [D.py] at h1
  cases e : D.pys ys with
  | none => rw [e] at h1; cases h1
  | some q => rw [e] at h1; cases h1; exact ⟨q, rfl, h⟩
theorem inWL {g : Bool → Bool} {n m : Nat} {x : D} {ys : List D} {b : Bool} {P : D × Bool → Prop} (hx : Cl m x) (hy : ∀ y ∈ ys, Cl n y) (hm : m ≤ 64) (hn : n < 64) (hb : b = true ↔ x ∈ ys) : opt (inWith g x (.lst ys)) P = P (.bl (g b), false) := by
  obtain ⟨p, hp⟩ := hx.dat.at
  obtain ⟨q, hq, hq2⟩ := lst_py fun y h => (hy y h).dat
  have e : q.any (fun z => PyData.eqv z p) = b := by rw [Bool.eq_iff_iff, any_cl hx hp.py hy hq, hb]
  have h1 := hp.shaped hm
  have h2 := hq2.shaped (by omega)
  unfold inWith
  cases x <;> simp only [hp.py, hq, h1, h2, e] <;> simp
theorem inL {n m : Nat} {x : D} {ys : List D} {b : Bool} {P : D × Bool → Prop} (hx : Cl m x) (hy : ∀ y ∈ ys, Cl n y) (hm : m ≤ 64) (hn : n < 64) (hb : b = true ↔ x ∈ ys) : opt (opIn x (.lst ys)) P = P (.bl b, false) := inWL (g := id) hx hy hm hn hb
theorem notinL {n m : Nat} {x : D} {ys : List D} {b : Bool} {P : D × Bool → Prop} (hx : Cl m x) (hy : ∀ y ∈ ys, Cl n y) (hm : m ≤ 64) (hn : n < 64) (hb : b = true ↔ x ∈ ys) : opt (opNotIn x (.lst ys)) P = P (.bl (!b), false) := inWL (g := not) hx hy hm hn hb
theorem inWT {g : Bool → Bool} {x : D} {ys : List D} {b : Bool} {P : D × Bool → Prop} (hx : Cl 0 x) (hy : ∀ y ∈ ys, Cl 0 y) (hb : b = true ↔ x ∈ ys) : opt (inWith g x (.tup ys)) P = P (.bl (g b), false) := by
  obtain ⟨p, hp⟩ := hx.dat.at
  obtain ⟨q, hq, hq2⟩ := lst_py fun y h => (hy y h).dat
  have e : q.any (fun z => PyData.eqv z p) = b := by rw [Bool.eq_iff_iff, any_cl hx hp.py hy hq, hb]
  have fl : ∀ {y : D}, Cl 0 y → y.flat = true := fun {y} h => by cases y <;> first | rfl | exact h.elim
  have h1 := fl hx
  have h2 : ys.all D.flat = true := by
    rw [List.all_eq_true]
    exact fun y h => fl (hy y h)
  unfold inWith
  cases x <;> first | exact absurd hx id | (simp only [hp.py, hq, h1, h2, e]; simp)
theorem inT {x : D} {ys : List D} {b : Bool} {P : D × Bool → Prop} (hx : Cl 0 x) (hy : ∀ y ∈ ys, Cl 0 y) (hb : b = true ↔ x ∈ ys) : opt (opIn x (.tup ys)) P = P (.bl b, false) := inWT (g := id) hx hy hb
theorem notinT {x : D} {ys : List D} {b : Bool} {P : D × Bool → Prop} (hx : Cl 0 x) (hy : ∀ y ∈ ys, Cl 0 y) (hb : b = true ↔ x ∈ ys) : opt (opNotIn x (.tup ys)) P = P (.bl (!b), false) := inWT (g := not) hx hy hb
theorem find_cl {n m : Nat} {x : D} {p : PyData} (hx : Cl m x) (hp : x.py = some p) : ∀ {ys : List D} {q : List PyData} {j : Nat}, (∀ y ∈ ys, Cl n y) → D.pys ys = some q → ys[j]? = some x → (∀ i, i < j → ys[i]? ≠ some x) → q.findIdx? (fun z => PyData.eqv z p) = some j
  | [], q, j, _, h, hj, _ => by simp at hj
  | y :: ys, q, j, hy, h, hj, hn => by
    obtain ⟨p1, ps, h1, h2, e⟩ := pys_cons h
    subst e
    have a := Cl.eqv (hy y List.mem_cons_self) hx h1 hp
    rw [List.findIdx?_cons]
    cases j with
    | zero =>
      simp at hj
      rw [if_pos (a.mpr hj)]
    | succ j =>
      have hne : ¬ y = x := fun e => hn 0 (by omega) (by simp [e])
      have b := find_cl (j := j) hx hp (fun z hz => hy z (List.mem_cons_of_mem _ hz)) h2 (by simpa using hj) fun i hi => by
        have := hn (i + 1) (by omega)
        simpa using this
      rw [if_neg (fun h => hne (a.mp h)), b]
      rfl
theorem index_cl {n m : Nat} {x : D} {ys : List D} {j : Nat} {P : D × Bool → Prop} (hx : Cl m x) (hy : ∀ y ∈ ys, Cl n y) (hm : m ≤ 64) (hn : n < 64) (hj : ys[j]? = some x) (hf : ∀ i, i < j → ys[i]? ≠ some x) : opt (opIndex (.lst ys) [x]) P = P (.int j, false) := by
  obtain ⟨p, hp⟩ := hx.dat.at
  obtain ⟨q, hq, hq2⟩ := lst_py fun y h => (hy y h).dat
  have e := find_cl hx hp.py hy hq hj hf
  unfold opIndex
  simp only [hq, hp.py, hp.shaped hm, hq2.shaped (by omega), Bool.and_self, if_true, e]
  rfl
theorem eq_str {a b : Str} {P : D × Bool → Prop} (ha : PyData.strOk a = true) (hb : PyData.strOk b = true) : opt (opEq (.str a) (.str b)) P = P (.bl (decide (a = b)), false) :=
  eq_cl (n := 0) (m := 0) ha hb (by omega) (by omega) (by rw [decide_eq_true_eq, D.str.injEq])
theorem cl_ints {n : Nat} {xs : List Int} : ∀ y ∈ xs.map D.int, Cl n y := by
  intro y hy
  obtain ⟨i, _, e⟩ := List.mem_map.mp hy
  subst e
  cases n <;> trivial
theorem cl_int {n : Nat} {i : Int} : Cl n (.int i) := by cases n <;> trivial
theorem mem_ints {xs : List Int} {i : Int} : D.int i ∈ xs.map D.int ↔ i ∈ xs := by
  rw [List.mem_map]
  constructor
  · rintro ⟨j, h, e⟩
    cases e
    exact h
  · exact fun h => ⟨i, h, rfl⟩
theorem in_ints {xs : List Int} {i : Int} {P : D × Bool → Prop} : opt (opIn (.int i) (intsD xs)) P = P (.bl (decide (i ∈ xs)), false) :=
  inL (n := 0) (m := 0) cl_int cl_ints (by omega) (by omega) (by rw [decide_eq_true_eq, mem_ints])
theorem notin_ints {xs : List Int} {i : Int} {P : D × Bool → Prop} : opt (opNotIn (.int i) (intsD xs)) P = P (.bl (!decide (i ∈ xs)), false) :=
  notinL (n := 0) (m := 0) cl_int cl_ints (by omega) (by omega) (by rw [decide_eq_true_eq, mem_ints])
theorem index_ints {xs : List Int} {i : Int} {j : Nat} {P : D × Bool → Prop} (hj : xs[j]? = some i) (hf : ∀ k, k < j → xs[k]? ≠ some i) : opt (opIndex (intsD xs) [.int i]) P = P (.int j, false) := by
  refine index_cl (n := 0) (m := 0) cl_int cl_ints (by omega) (by omega) (by rw [List.getElem?_map, hj]; rfl) fun k hk h => ?_
  rw [List.getElem?_map, Option.map_eq_some_iff] at h
  obtain ⟨z, h1, h2⟩ := h
  cases h2
  exact hf k hk h1
theorem filter_one {s k : Nat} {P : Nat → Bool} (hk : k < s) (h : ∀ i, i < s → (P i = true ↔ i = k)) : (List.range s).filter P = [k] := by
  induction s with
  | zero => omega
  | succ s ih =>
    rw [List.range_succ, List.filter_append]
    by_cases c : k = s
    · have e : (List.range s).filter P = [] := by
        rw [List.filter_eq_nil_iff]
        intro i hi hp
        have := (h i (by have := List.mem_range.mp hi; omega)).mp hp
        have := List.mem_range.mp hi
        omega
      rw [e, c]
      have := (h s (by omega)).mpr c.symm
      simp [this]
    · rw [ih (by omega) fun i hi => h i (by omega)]
      have : P s = false := by
        rw [← Bool.not_eq_true]
        intro hp
        exact c ((h s (by omega)).mp hp).symm
      simp [this]
/-! any slot that is no io is killed -/
theorem mem_up {a x : Int} {n : Nat} : x ∈ up a n ↔ a ≤ x ∧ x < a + n := by
  simp only [up, List.mem_map, List.mem_range]
  constructor
  · rintro ⟨i, h, e⟩
    omega
  · rintro ⟨h1, h2⟩
    exact ⟨(x - a).toNat, by omega, by omega⟩
theorem up_at {a : Int} {n i : Nat} (h : i < n) : (up a n)[i]? = some (a + i) := by simp [up, h]
theorem up_take {a : Int} {n i : Nat} (h : i ≤ n) : (up a n).take i = up a i := by
  have e : n = i + (n - i) := by omega
  rw [e, up_add, List.take_left' up_len]
theorem up_drop {a : Int} {n i : Nat} (h : i ≤ n) : (up a n).drop i = up (a + i) (n - i) := by
  have e : n = i + (n - i) := by omega
  rw [e, up_add, List.drop_left' up_len]
  congr 1
  omega
theorem cut_map {α β : Type} (g : α → β) (xs : List α) (lo hi : Option Int) : cutD (xs.map g) lo hi = (cutD xs lo hi).map g := by
  unfold cutD
  rw [List.length_map, List.map_take, List.map_drop]
theorem opSl_ints {xs : List Int} {lo hi : Option Int} {P : D × Bool → Prop} : opt (opSl (intsD xs) lo hi) P = P (intsD (cutD xs lo hi), true) := by
  show P (.lst (cutD (xs.map D.int) lo hi), true) = _
  rw [cut_map]
  rfl
theorem cut_mid {α : Type} {xs : List α} {a b : Nat} (h : a ≤ b) (h2 : b ≤ xs.length) : cutD xs (some (a : Int)) (some (b : Int)) = (xs.drop a).take (b - a) := by
  unfold cutD
  rw [HT.sIx_nat, HT.sIx_nat, Nat.min_eq_left h2, Nat.min_eq_left (Nat.le_trans h h2)]
theorem rgD_upG (a b : Int) : D.lst (rgD a b) = intsD (up a (b - a).toNat) := by
  unfold rgD intsD up
  rw [List.map_map]
  rfl
theorem opAdd_ints {xs ys : List Int} {P : D × Bool → Prop} (h : xs.length + ys.length ≤ 1000000) : opt (opAdd (intsD xs) (intsD ys)) P = P (intsD (xs ++ ys), true) := by
  unfold intsD
  rw [opAdd_lst]
  simp [fits_small h]
theorem opLen_ints {xs : List Int} {P : D × Bool → Prop} : opt (opLen [intsD xs]) P = P (.int xs.length, false) := by
  unfold intsD
  rw [opLen_lst]
  simp
@[simp, simp ↓] theorem wp_mMeth {ρ : Env} {E : EQ} {T : String} {op : OpR2} {o : M OV} {args : M (List OV)} {Q : D × Bool → Env → Prop} : wp (mMeth T op o args) ρ Q E = wp o ρ (fun x ρ1 => opt (x.get ρ1) fun d => isTyD T d = true ∧ wp args ρ1 (fun os ρ2 => opt (x.get ρ2) fun d => opt (ovs ρ2 os) fun ds => opt (op d ds) fun r => Q r ρ2) E) E := by
  unfold mMeth
  rw [wp_bind]
  congr 1; funext x ρ1
  cases e : x.get ρ1 with
  | none => simp only [opt_none]; unfold wp; simp only [e]
  | some d =>
    simp only [opt_some]
    by_cases c : isTyD T d = true
    · rw [show (isTyD T d = true ∧ _) = _ from propext (and_iff_right c)]
      refine (wp_of (m' := args.bind fun os => fun ρ => match x.get ρ, ovs ρ os with
        | some d, some ds => match op d ds with
          | some r => .ok r ρ
          | none => .bad
        | _, _ => .bad) (by simp only [e, if_pos c]; try rfl)).trans ?_
      rw [wp_bind]
      congr 1; funext os ρ2
      unfold wp opt
      cases e3 : x.get ρ2 with
      | none => simp only [e3]
      | some d2 =>
        cases e4 : ovs ρ2 os with
        | none => simp only [e3, e4]
        | some ds => cases e5 : op d2 ds <;> simp only [e3, e4, e5]
    · rw [show (isTyD T d = true ∧ _) = False from propext ⟨fun h => c h.1, False.elim⟩]
      unfold wp
      simp only [e, if_neg c]
@[simp] theorem isTyD_ll {xs : List D} : isTyD "list" (.lst xs) = true := rfl
@[simp] theorem isTyD_li {xs : List Int} : isTyD "list" (intsD xs) = true := rfl
@[simp] theorem isTyD_ss {x : Str} : isTyD "str" (.str x) = true := rfl
/-- a comprehension that changes nothing: its test c, its items f -/
theorem wp_lcF {α : Type} {e : α → D} {xs : List α} {own : List Nat} {src : M (List D)} {g : D → M Unit} {tt : M Bool} {te : M D} {ρ ρ0 : Env} {E : EQ} {Q : D × Bool → Env → Prop} {c : α → Bool} {f : α → D}
    (hsrc : wp src ρ (fun ds r => ds = xs.map e ∧ r = ρ0) E) (hx : xs.length ≤ sizeLine) (ho : okOwn own ρ0 = true) (hw : wipeE ρ0 own = ρ0)
    (step : ∀ x ∈ xs, wp (g (e x)) ρ0 (fun _ ρ1 => wp tt ρ1 (fun b ρ2 => b = c x ∧ fork b (wp te ρ2 (fun y ρ3 => y = f x ∧ wipeE ρ3 own = ρ0) noE) (wipeE ρ2 own = ρ0)) noE) noE)
    (hr : restE ρ0 ρ0 own = ρ0) (hq : Q (.lst ((xs.filter c).map f), true) ρ0) : wp (mLc own src g tt te) ρ Q E := by
  refine wp_lc0 hsrc ?_
  refine wp_comp hx ho (I := fun pre acc ρ => acc = (pre.filter c).map f ∧ ρ = ρ0) ⟨rfl, hw⟩ ?_ ?_
  · intro pre x suf acc ρ he h
    obtain ⟨h1, h2⟩ := h
    subst h1
    subst h2
    have hxm : x ∈ xs := by rw [he]; simp
    refine wp_mono (step x hxm) (fun _ ρ1 h => ?_) fun _ _ _ h => h
    refine wp_mono h (fun b ρ2 h => ?_) fun _ _ _ h => h
    obtain ⟨hb, h⟩ := h
    cases b with
    | false =>
      rw [fork_f] at h ⊢
      refine ⟨?_, h⟩
      rw [List.filter_append]
      simp [← hb]
    | true =>
      rw [fork_t] at h ⊢
      refine wp_mono h (fun y ρ3 h => ?_) fun _ _ _ h => h
      obtain ⟨hy, h⟩ := h
      refine ⟨?_, h⟩
      rw [List.filter_append]
      simp [← hb, hy]
  · intro acc ρ' h
    obtain ⟨h1, h2⟩ := h
    subst h1
    subst h2
    rw [hr]
    exact hq
@[simp, simp ↓] theorem wp_mAug {ρ : Env} {E : EQ} {i : Nat} {op : Op2} {f : M OV} {Q : Fl → Env → Prop} : wp (mAug i op f) ρ Q E = atE ρ i (fun s => match s with
    | .val d => wp f ρ (fun o ρ1 => opt (o.get ρ1) fun d2 => opt (op d d2) fun r => r.2 = false ∧ wp (put i (.val r.1)) ρ1 (fun _ ρ2 => Q .next ρ2) E) E
    | _ => False) := by
  cases e : ρ[i]? with
  | none =>
    have h : mAug i op f ρ = .bad := by unfold mAug; simp only [e]
    rw [wp_of (m' := fun _ => .bad) h, wp_bad]
    unfold atE
    simp only [e]
  | some s =>
    have h2 : ∀ P : Sl → Prop, atE ρ i P = P s := fun P => by unfold atE; simp only [e]
    rw [h2]
    cases s with
    | val d =>
      refine (wp_of (m' := f.bind fun o => fun ρ => match o.get ρ with
        | some d2 => match op d d2 with
          | some (r, false) => (put i (.val r)).bind (fun _ => M.ret .next) ρ
          | _ => .bad
        | none => .bad) (by unfold mAug; simp only [e]; try rfl)).trans ?_
      rw [wp_bind]
      congr 1; funext o ρ1
      cases e1 : o.get ρ1 with
      | none => rw [opt_none]; unfold wp; simp only [e1]
      | some d2 =>
        rw [opt_some]
        cases e2 : op d d2 with
        | none => rw [opt_none]; unfold wp; simp only [e1, e2]
        | some r =>
          rw [opt_some]
          obtain ⟨r, b⟩ := r
          cases b with
          | true => unfold wp; simp only [e1, e2]; try simp
          | false =>
            refine (wp_of (m' := (put i (.val r)).bind fun _ => M.ret .next) (by simp only [e1, e2]; try rfl)).trans ?_
            rw [wp_bind]
            simp
    | _ =>
      have h : mAug i op f ρ = .bad := by unfold mAug; simp only [e]
      rw [wp_of (m' := fun _ => .bad) h, wp_bad]
@[simp, simp ↓] theorem opIAdd_int {i j : Int} {P : D × Bool → Prop} : opt (opIAdd (.int i) (.int j)) P = P (.int (i + j), false) := rfl
@[simp, simp ↓] theorem opISub_int {i j : Int} {P : D × Bool → Prop} : opt (opISub (.int i) (.int j)) P = P (.int (i - j), false) := rfl
end DL

namespace DL
open PySem PySem.Spec PyProof.Rows L2

/-! ## dicts, zip -/
def mDct0 : M (D × Bool) := M.ret (.dct [], true)
section
variable {X : Cx} {B : Bd} {W : WX}
theorem sv_dct0 {pos : Pos} : SV X B W (.Dict [] [] pos) mDct0 :=
  pe_mono pe_dnewK fun σ H Q ⟨F, ρ, h⟩ => fun p hp => h.ans rfl p _ hp ⟨[], rfl, by simp only [RepK]⟩
def putAt (k : Nat) (d : D) (o : OV) : M Fl := fun ρ => match ρ[k]?, o.get ρ with
  | some s, some kd => match s.obj, kd.key? with
    | some (.dct kvs), some key => if kvs.length < sizeLine then .ok .next (ρ.set k (s.upd (.dct (putD kvs kd key d)))) else .bad
    | _, _ => .bad
  | _, _ => .bad
def mStoreK (k : Nat) (idx : M OV) (val : M D) : M Fl := val.bind fun d => fun ρ => match ρ[k]?.bind Sl.obj with
  | none => .bad
  | some _ => (idx.bind (putAt k d)) ρ
theorem ss_dput {k : Nat} {o i e : Expr} {fi : M OV} {fe : M D} {pos pos' : Pos} (hu : X.A.units + 64 < cLine) (he : SE X B W e fe) (ho : PE X o (tVar k)) (hi : SO X B W i fi)
    (hs : swapsWith e (some (.Subscript o i pos')) pos.line X.env = pure false) : SS X B W (.Assign [.Subscript o i pos'] e pos) (mStoreK k fi fe) :=
  ps_mono (ps_dput (by omega) ho hi he hs) fun D σ H ⟨F, ρ, S, p⟩ => At.goS S p fun v H1 F1 ρ1 d s1 S1 r1 p1 => by
    cases e1 : ρ1[k]?.bind Sl.obj with
    | none => rw [e1] at p1; exact p1.elim
    | some d0 =>
      rw [e1] at p1
      obtain ⟨s, q1, q2⟩ := bind_obj e1
      obtain ⟨a, h1, h2, h3, h4, h5⟩ := S1.mine_at q1 q2
      refine ⟨.ref a, h1, At.goS S1 p1 fun w H2 F2 ρ2 ow s2 S2 r2 p2 => ?_⟩
      unfold putAt at p2
      cases e2 : ρ2[k]? with
      | none => rw [e2] at p2; exact p2.elim
      | some s3 =>
        rw [e2] at p2
        cases e3 : ow.get ρ2 with
        | none => rw [e3] at p2; exact p2.elim
        | some kd =>
          rw [e3] at p2
          cases e4 : s3.obj with
          | none => simp only [e4] at p2; exact p2.elim
          | some d3 =>
            cases d3 with
            | dct kvs =>
              cases e5 : kd.key? with
              | none => simp only [e4, e5] at p2; exact p2.elim
              | some key =>
                simp only [e4, e5] at p2
                by_cases c : kvs.length < sizeLine
                · rw [if_pos c] at p2
                  obtain ⟨a', k1, k2, ⟨ks, k3, k3'⟩, k4, k5⟩ := S2.mine_at e2 e4
                  rw [h1] at k1
                  cases k1
                  have ek := (r2.read S2 e3).key e5
                  subst ek
                  refine ⟨a, _, rfl, DPut.k k3 (by rw [← k3'.len]; exact c), ?_⟩
                  exact p2 _ _ F2 (S2.change e2 e4 h1 ⟨_, rfl, RepK.put k3' e5 (Rep.mono s2 _ _ r1)⟩) (Same.refl _)
                · rw [if_neg c] at p2; exact p2.elim
            | _ => simp only [e4] at p2; exact p2.elim
def zipD (xs ys : List D) : List D := (xs.zip ys).map fun p => .tup [p.1, p.2]
def zipOp : List D → Option (List D)
  | [.lst xs, .lst ys] => some (zipD xs ys)
  | [.tup xs, .tup ys] => some (zipD xs ys)
  | _ => none
theorem zipOp_some {ds r : List D} (h : zipOp ds = some r) : ∃ xs ys, (ds = [.lst xs, .lst ys] ∨ ds = [.tup xs, .tup ys]) ∧ r = zipD xs ys := by
  unfold zipOp at h
  split at h
  · cases h; exact ⟨_, _, .inl rfl, rfl⟩
  · cases h; exact ⟨_, _, .inr rfl, rfl⟩
  · cases h
def mZip (f : M (List D)) : M (List D) := f.bind fun ds => fun ρ => match zipOp ds with
  | some r => .ok r ρ
  | none => .bad
theorem zipD_get {xs ys : List D} {i : Nat} {d : D} (h : (zipD xs ys)[i]? = some d) : ∃ x y, xs[i]? = some x ∧ ys[i]? = some y ∧ d = .tup [x, y] := by
  unfold zipD at h
  rw [List.getElem?_map, Option.map_eq_some_iff] at h
  obtain ⟨p, h1, rfl⟩ := h
  rw [List.getElem?_zip_eq_some] at h1
  exact ⟨p.1, p.2, h1.1, h1.2, rfl⟩
theorem j_zip {F : Hp} {a b : Addr} {ds es : List D} {vs us : List V} (h : SqL X.K F a vs) (h' : SqL X.K F b us) (r : RepL X.K X.mg F ds vs) (r' : RepL X.K X.mg F es us) : JOk X (Itz X.K a b) F (zipD ds es) := fun i H F' s1 s2 => by
  have hq : SqL X.K H a vs := s2.seq (s1.seq h)
  have hq' : SqL X.K H b us := s2.seq (s1.seq h')
  refine ⟨fun hl => ⟨vs, us, hq, hq', ?_⟩, fun d e => ?_⟩
  · rw [← r.length, ← r'.length]
    unfold zipD at hl
    rw [List.length_map, List.length_zip] at hl
    omega
  · obtain ⟨x0, y0, e1, e2, rfl⟩ := zipD_get e
    obtain ⟨v, e3, rv⟩ := r.get e1
    obtain ⟨u, e4, ru⟩ := r'.get e2
    refine ⟨⟨vs, us, v, u, hq, hq', e3, e4⟩, fun x H' ⟨T, y, z, ex, hT, eH, hy, hz⟩ => ?_⟩
    subst ex
    subst eH
    have ey := hy vs hq
    have ez := hz us hq'
    rw [e3] at ey
    rw [e4] at ez
    cases ey
    cases ez
    refine ⟨upd F' T (.tup [v, u]), Grow.new s2 hT, ?_⟩
    have g := Grow.new (o := HO.tup [v, u]) s2 hT
    simp only [Rep]
    exact ⟨T, [v, u], rfl, .inl (.inl upd_same), .cons (Rep.mono (s1.trans g.f) x0 v rv) (.one (Rep.mono (s1.trans g.f) y0 u ru))⟩
theorem j_zipT {F : Hp} {a b : Addr} {ds es : List D} {vs us : List V} (h : SqT X.K F a vs) (h' : SqT X.K F b us) (r : RepL X.K X.mg F ds vs) (r' : RepL X.K X.mg F es us) : JOk X (RZ.ItzT X.K a b) F (zipD ds es) := fun i H F' s1 s2 => by
  have hq : SqT X.K H a vs := same_SqT s2 (same_SqT s1 h)
  have hq' : SqT X.K H b us := same_SqT s2 (same_SqT s1 h')
  refine ⟨fun hl => ⟨vs, us, hq, hq', ?_⟩, fun d e => ?_⟩
  · rw [← r.length, ← r'.length]
    unfold zipD at hl
    rw [List.length_map, List.length_zip] at hl
    omega
  · obtain ⟨x0, y0, e1, e2, rfl⟩ := zipD_get e
    obtain ⟨v, e3, rv⟩ := r.get e1
    obtain ⟨u, e4, ru⟩ := r'.get e2
    refine ⟨⟨vs, us, v, u, hq, hq', e3, e4⟩, fun x H' ⟨T, y, z, ex, hT, eH, hy, hz⟩ => ?_⟩
    subst ex
    subst eH
    have ey := hy vs hq
    have ez := hz us hq'
    rw [e3] at ey
    rw [e4] at ez
    cases ey
    cases ez
    refine ⟨upd F' T (.tup [v, u]), Grow.new s2 hT, ?_⟩
    have g := Grow.new (o := HO.tup [v, u]) s2 hT
    simp only [Rep]
    exact ⟨T, [v, u], rfl, .inl (.inl upd_same), .cons (Rep.mono (s1.trans g.f) x0 v rv) (.one (Rep.mono (s1.trans g.f) y0 u ru))⟩
theorem si_zip {e e2 : Expr} {f : M (List D)} {p pos tpos : Pos} {elts : List Expr} {kk : Nat} (hg : Gl X "zip") (hm : X.mg "zip" = none) (ha : SDs X B W [e, e2] f) (hs : starEach [e, e2] X.env = (false, eval e X.env) :: starEach [e2] X.env)
    (hpl : (backTo pos (starEach [e2] X.env)).any (·.1) = false) : SI X B W (.Tuple elts kk tpos) (.Call (.Name "zip" p) [e, e2] [] pos) (mZip f) :=
  pi_mono (RZ.pi_zipA hg hm ha hs hpl) fun σ H R ⟨F, ρ, h⟩ => h.go fun vs H1 F1 ρ1 ds s1 r1 h1 => by
    have r1 : RepL X.K X.mg F1 ds vs := r1
    cases e : zipOp ds with
    | none => exact absurd (by simp only [e]) h1.nobad
    | some r =>
      obtain ⟨xs, ys, hd, rfl⟩ := zipOp_some e
      rcases hd with rfl | rfl
      · simp only [RepL] at r1
        obtain ⟨v, q, rfl, rv, w, q2, rfl, rw', rfl⟩ := r1
        simp only [Rep] at rv rw'
        obtain ⟨a, us, rfl, q1, q2⟩ := rv
        obtain ⟨b, ws, rfl, q3, q4⟩ := rw'
        exact ⟨a, b, us, ws, rfl, .inl ⟨SqL.of (h1.sim.sub _ _ q1), SqL.of (h1.sim.sub _ _ q3), h1.fin rfl h1.sim (Same.refl _) (j_zip (SqL.of q1) (SqL.of q3) q2 q4)⟩⟩
      · simp only [RepL] at r1
        obtain ⟨v, q, rfl, rv, w, q2, rfl, rw', rfl⟩ := r1
        simp only [Rep] at rv rw'
        obtain ⟨a, us, rfl, q1, q2⟩ := rv
        obtain ⟨b, ws, rfl, q3, q4⟩ := rw'
        exact ⟨a, b, us, ws, rfl, .inr ⟨same_SqT h1.sim.sub q1, same_SqT h1.sim.sub q3, h1.fin rfl h1.sim (Same.refl _) (j_zipT q1 q3 q2 q4)⟩⟩
end
/-! what they promise -/
@[simp, simp ↓] theorem wp_mDct0 {ρ : Env} {E : EQ} {Q : D × Bool → Env → Prop} : wp mDct0 ρ Q E = Q (.dct [], true) ρ := by unfold mDct0; rw [wp_ret]
@[simp, simp ↓] theorem wp_mZip {ρ : Env} {E : EQ} {f : M (List D)} {Q : List D → Env → Prop} : wp (mZip f) ρ Q E = wp f ρ (fun ds ρ' => opt (zipOp ds) fun r => Q r ρ') E := by
  unfold mZip
  rw [wp_bind]
  congr 1; funext ds ρ'
  unfold wp opt
  dsimp only
  cases e : zipOp ds <;> simp only [e]
@[simp, simp ↓] theorem zipOp_tt {xs ys : List D} {P : List D → Prop} : opt (zipOp [.tup xs, .tup ys]) P = P (zipD xs ys) := rfl
@[simp, simp ↓] theorem zipOp_ll {xs ys : List D} {P : List D → Prop} : opt (zipOp [.lst xs, .lst ys]) P = P (zipD xs ys) := rfl
theorem wp_putAt {ρ : Env} {E : EQ} {k : Nat} {d : D} {o : OV} {Q : Fl → Env → Prop} : wp (putAt k d o) ρ Q E = atE ρ k fun s => opt (o.get ρ) fun kd => opt s.obj fun d3 => opt kd.key? fun key => match d3 with
    | .dct kvs => kvs.length < sizeLine ∧ Q .next (ρ.set k (s.upd (.dct (putD kvs kd key d))))
    | _ => False := by
  unfold wp putAt atE opt
  dsimp only
  cases ρ[k]? with
  | none => rfl
  | some s =>
    cases o.get ρ with
    | none => rfl
    | some kd =>
      dsimp only
      cases s.obj with
      | none => rfl
      | some d3 =>
        cases kd.key? with
        | none => cases d3 <;> rfl
        | some key =>
          cases d3 with
          | dct kvs => by_cases c : kvs.length < sizeLine <;> simp [c]
          | _ => rfl
@[simp, simp ↓] theorem wp_mStoreK {ρ : Env} {E : EQ} {k : Nat} {idx : M OV} {e : M D} {Q : Fl → Env → Prop} : wp (mStoreK k idx e) ρ Q E = wp e ρ (fun d ρ1 => atE ρ1 k fun s => opt s.obj fun _ => wp idx ρ1 (fun o ρ2 => atE ρ2 k fun s => opt (o.get ρ2) fun kd => opt s.obj fun d3 => opt kd.key? fun key => match d3 with
    | .dct kvs => kvs.length < sizeLine ∧ Q .next (ρ2.set k (s.upd (.dct (putD kvs kd key d))))
    | _ => False) E) E := by
  unfold mStoreK
  rw [wp_bind]
  congr 1; funext d ρ1
  unfold atE
  cases e1 : ρ1[k]? with
  | none => exact (wp_of (m' := fun _ => .bad) (by rw [e1]; rfl)).trans (by rw [wp_bad])
  | some s =>
    dsimp only
    cases e2 : s.obj with
    | none => exact (wp_of (m' := fun _ => .bad) (by rw [e1]; simp only [Option.bind_some, e2])).trans (by rw [wp_bad, opt_none])
    | some d0 =>
      rw [opt_some]
      refine (wp_of (m' := idx.bind (putAt k d)) (by rw [e1]; simp only [Option.bind_some, e2])).trans ?_
      rw [wp_bind]
      congr 1; funext o ρ2
      rw [wp_putAt]
      rfl
@[simp] theorem keyI {i : Int} : (D.int i).key? = some (.inl i) := rfl
@[simp] theorem keyS {s : Str} : (D.str s).key? = some (.inr s) := rfl
theorem opIn_dct {d : D} {kvs : List (D × D)} {k : Key} (h : d.key? = some k) {P : D × Bool → Prop} : opt (opIn d (.dct kvs)) P = P (.bl (hasD kvs k), false) := by
  cases d with
  | int i => cases h; rfl
  | str s => cases h; rfl
  | _ => cases h
theorem opNotIn_dct {d : D} {kvs : List (D × D)} {k : Key} (h : d.key? = some k) {P : D × Bool → Prop} : opt (opNotIn d (.dct kvs)) P = P (.bl (!hasD kvs k), false) := by
  cases d with
  | int i => cases h; rfl
  | str s => cases h; rfl
  | _ => cases h
theorem has_put {kvs : List (D × D)} {kd : D} {k k' : Key} {d : D} (h : kd.key? = some k) : hasD (putD kvs kd k d) k' = (decide (k = k') || hasD kvs k') := by
  have hm : ∀ kvs : List (D × D), hasD (mapD kvs k d) k' = hasD kvs k' := fun kvs => by
    induction kvs with
    | nil => rfl
    | cons p r ih =>
      unfold hasD mapD at ih ⊢
      rw [List.map_cons]
      by_cases c : p.1.key? = some k
      · rw [if_pos c]
        unfold getD
        by_cases e : p.1.key? = some k'
        · rw [if_pos e, if_pos e]; rfl
        · rw [if_neg e, if_neg e]; exact ih
      · rw [if_neg c]
        unfold getD
        by_cases e : p.1.key? = some k'
        · rw [if_pos e, if_pos e]
        · rw [if_neg e, if_neg e]; exact ih
  have ha : ∀ kvs : List (D × D), hasD (kvs ++ [(kd, d)]) k' = (decide (k = k') || hasD kvs k') := fun kvs => by
    induction kvs with
    | nil =>
      unfold hasD
      rw [List.nil_append]
      unfold getD
      by_cases e : k = k'
      · rw [if_pos (by rw [h, e]), decide_eq_true e]; rfl
      · rw [if_neg (fun z => e (Option.some.inj (h.symm.trans z))), decide_eq_false e]; rfl
    | cons p r ih =>
      unfold hasD at ih ⊢
      rw [List.cons_append]
      unfold getD
      by_cases e : p.1.key? = some k'
      · rw [if_pos e, if_pos e]; simp
      · rw [if_neg e, if_neg e]; exact ih
  unfold putD
  by_cases c : hasD kvs k = true
  · rw [if_pos c, hm]
    by_cases e : k = k'
    · subst e; rw [c]; simp
    · rw [decide_eq_false e]; rfl
  · rw [if_neg c, ha]
theorem put_len {kvs : List (D × D)} {kd : D} {k : Key} {d : D} : (putD kvs kd k d).length ≤ kvs.length + 1 := by
  unfold putD mapD
  split
  · rw [List.length_map]; omega
  · simp
end DL

namespace DL
open PySem PySem.Spec PyProof.Rows L2

/-! ## len(set(xs)) of a list of ints -/
def uniqI (ns : List Int) : List Int := PyProof.Rows.firstMet (fun i => ns.getD i 0) ns.length
theorem uniq_step {acc : List Int} {x : Int} : PyProof.Rows.step_dedup acc x = if acc.contains x = true then acc else acc ++ [x] := by
  unfold PyProof.Rows.step_dedup
  have : acc.any (· == x) = acc.contains x := by
    induction acc with
    | nil => rfl
    | cons a r ih =>
      rw [List.any_cons, List.contains_cons, ih]
      congr 1
      exact Bool.eq_iff_iff.mpr ⟨fun h => by simpa using (beq_iff_eq.mp h).symm, fun h => by simpa using (beq_iff_eq.mp h).symm⟩
  rw [this]
theorem uniq_fold (ns : List Int) : uniqI ns = ns.foldl (fun acc x => if acc.contains x = true then acc else acc ++ [x]) [] := by
  unfold uniqI PyProof.Rows.firstMet
  have e : (List.range ns.length).map (fun i => ns.getD i 0) = ns := by
    apply List.ext_getElem?
    intro i
    rw [List.getElem?_map]
    by_cases h : i < ns.length
    · rw [List.getElem?_range h, List.getElem?_eq_getElem h]
      simp [List.getD, h]
    · rw [List.getElem?_eq_none (by simpa using h), List.getElem?_eq_none (by omega)]
      rfl
  rw [e]
  congr 1
  funext acc x
  exact uniq_step
theorem uniq_facts : ∀ (ns acc : List Int), acc.Nodup → ((ns.foldl (fun acc x => if acc.contains x = true then acc else acc ++ [x]) acc).Nodup ∧ ∀ y, y ∈ ns.foldl (fun acc x => if acc.contains x = true then acc else acc ++ [x]) acc ↔ y ∈ acc ∨ y ∈ ns)
  | [], acc, h => ⟨h, fun y => by simp⟩
  | x :: ns, acc, h => by
    rw [List.foldl_cons]
    by_cases c : acc.contains x = true
    · rw [if_pos c]
      obtain ⟨h1, h2⟩ := uniq_facts ns acc h
      refine ⟨h1, fun y => ?_⟩
      rw [h2 y, List.mem_cons]
      have hx : x ∈ acc := by simpa using c
      constructor
      · rintro (h | h)
        · exact .inl h
        · exact .inr (.inr h)
      · rintro (h | h | h)
        · exact .inl h
        · subst h; exact .inl hx
        · exact .inr h
    · rw [if_neg c]
      have hx : x ∉ acc := fun h => c (by simpa using h)
      obtain ⟨h1, h2⟩ := uniq_facts ns (acc ++ [x]) (by
        rw [List.nodup_append]
        exact ⟨h, by simp, fun a ha b hb => by
          rw [List.mem_singleton] at hb
          subst hb
          intro e
          subst e
          exact hx ha⟩)
      refine ⟨h1, fun y => ?_⟩
      rw [h2 y, List.mem_append, List.mem_singleton, List.mem_cons]
      constructor
      · rintro ((h | h) | h)
        · exact .inl h
        · exact .inr (.inl h)
        · exact .inr (.inr h)
      · rintro (h | h | h)
        · exact .inl (.inl h)
        · exact .inl (.inr h)
        · exact .inr h
theorem uniq_nodup (ns : List Int) : (uniqI ns).Nodup := by
  rw [uniq_fold]
  exact (uniq_facts ns [] List.nodup_nil).1
theorem uniq_mem {ns : List Int} {y : Int} : y ∈ uniqI ns ↔ y ∈ ns := by
  rw [uniq_fold, (uniq_facts ns [] List.nodup_nil).2 y]
  simp
theorem nodup_len_le : ∀ {xs ys : List Int}, xs.Nodup → (∀ x ∈ xs, x ∈ ys) → xs.length ≤ ys.length
  | [], _, _, _ => Nat.zero_le _
  | x :: xs, ys, h, hs => by
    obtain ⟨h1, h2⟩ := List.nodup_cons.mp h
    have hx := hs x List.mem_cons_self
    have := nodup_len_le (ys := ys.erase x) h2 fun y hy => by
      have hne : y ≠ x := fun e => h1 (e ▸ hy)
      exact (List.mem_erase_of_ne hne).mpr (hs y (List.mem_cons_of_mem _ hy))
    rw [List.length_erase_of_mem hx] at this
    have : 0 < ys.length := List.length_pos_of_mem hx
    rw [List.length_cons]
    omega
theorem uniq_len_eq {ns : List Int} : (uniqI ns).length = ns.length ↔ ns.Nodup := by
  constructor
  · intro h
    rw [uniq_fold] at h
    have key : ∀ (ns acc : List Int), (ns.foldl (fun acc x => if acc.contains x = true then acc else acc ++ [x]) acc).length ≤ acc.length + ns.length ∧ ((ns.foldl (fun acc x => if acc.contains x = true then acc else acc ++ [x]) acc).length = acc.length + ns.length → ns.foldl (fun acc x => if acc.contains x = true then acc else acc ++ [x]) acc = acc ++ ns) := by
      intro ns
      induction ns with
      | nil => intro acc; simp
      | cons x ns ih =>
        intro acc
        rw [List.foldl_cons]
        by_cases c : acc.contains x = true
        · rw [if_pos c]
          have := ih acc
          rw [List.length_cons]
          exact ⟨by omega, fun e => by omega⟩
        · rw [if_neg c]
          have := ih (acc ++ [x])
          rw [List.length_append, List.length_singleton] at this
          rw [List.length_cons]
          refine ⟨by omega, fun e => ?_⟩
          rw [this.2 (by omega)]
          simp
    have e := (key ns []).2 (by simpa using h)
    have hn := (uniq_facts ns [] List.nodup_nil).1
    rw [e] at hn
    simpa using hn
  · intro h
    exact Nat.le_antisymm (nodup_len_le (uniq_nodup ns) fun x hx => uniq_mem.mp hx) (nodup_len_le h fun x hx => uniq_mem.mpr hx)
def opLenSet : D → Option (D × Bool)
  | .lst xs => match D.ints? xs with
    | some ns => if ns.length ≤ 4000 then some (.int ((uniqI ns).length : Nat), false) else none
    | none => none
  | _ => none
theorem opLenSet_some {d : D} {r : D × Bool} (h : opLenSet d = some r) : ∃ xs ns, d = .lst xs ∧ D.ints? xs = some ns ∧ ns.length ≤ 4000 ∧ r = (.int ((uniqI ns).length : Nat), false) := by
  cases d with
  | lst xs =>
    unfold opLenSet at h
    cases e : D.ints? xs with
    | none => simp only [e] at h; cases h
    | some ns =>
      simp only [e] at h
      by_cases c : ns.length ≤ 4000
      · rw [if_pos c] at h
        cases h
        exact ⟨xs, ns, rfl, e, c, rfl⟩
      · rw [if_neg c] at h
        cases h
  | _ => cases h
def mLenSet (f : M D) : M (D × Bool) := f.bind fun d => fun ρ => match opLenSet d with
  | some r => .ok r ρ
  | none => .bad
section
variable {X : Cx} {B : Bd} {W : WX}
def tLs (K : PySem.W.Frag) (ta : TE) : TE := fun σ H Q => ta σ H fun v H1 => ∃ (l : Addr) (ns : List Int), v = .ref l ∧ SqL K H1 l (ns.map V.int) ∧ ns.length ≤ 4000 ∧ Q (.int ((uniqI ns).length : Nat)) H1
theorem pe_ls {a : Expr} {ta : TE} {p p2 q pos : Pos} (hc : X.calm = true) (hg : Gl X "len") (hm : X.mg "len" = none) (hg2 : Gl X "set") (hm2 : X.mg "set" = none) (ha : PE X a ta)
    (na : starEach [a] X.env = (false, eval a X.env) :: starEach [] X.env) : PE X (.Call (.Name "len" p) [.Call (.Name "set" p2) [a] [] q] [] pos) (tLs X.K ta) :=
  ⟨fun pin st si hp wq inv tt => by
    refine Call_ (ld_blt inv hg hm bt_len ?_)
    refine PyProof.Rows.callWith_builtin1 (PyProof.Rows.args_cons ?outer rfl) rfl rfl
    refine Call_ (ld_blt inv hg2 hm2 bt_set ?_)
    refine PyProof.Rows.callWith_type1 (PyProof.Rows.args_cons (thn (ha.run pin st si hp _ inv tt) fun vv st1 ⟨x1, hp1, inv1, rel1, want⟩ => PyProof.Rows.args_nil ?_) na) na rfl
    obtain ⟨l, ns, rfl, sq, small, want⟩ := want
    cases rel1
    obtain ⟨items, vals, pl, big⟩ := inv1.list sq
    have hlen : items.toArray.size = ns.length := by
      rw [List.size_toArray, ← vals.length, List.length_map]
    have hbd : items.toArray.size + 1 < scanBound := by
      rw [hlen]
      unfold scanBound
      omega
    refine call_set_list (inv1.ok.hd hc) pl.isList (by simpa using vals.ints) hbd fun hp' tk made kept => ?_
    refine PyProof.Rows.args_nil ?_
    rw [hlen] at made
    obtain ⟨o, es, ep, t, ho, hex, hd, _, _, _, hf, hn⟩ := made
    have inv2 : Inv X pin si hp1 { st1 with heap := hp', toks := tk } := inv1.kept fun b o e => kept b o (Heap.lt_size e) e
    have hle : (PyProof.Rows.firstMet (fun i => ns.getD i 0) ns.length).length ≤ ns.length := PyProof.Rows.firstMet_length_le _ _
    exact call_len_set ho hex hd hf (by rw [hn]; omega) ⟨.int ((uniqI ns).length : Nat), hp1, inv2.tok _, ⟨_, by rw [hn]; rfl⟩, want⟩⟩
theorem sv_ls {a : Expr} {f : M D} {p p2 q pos : Pos} (hc : X.calm = true) (hg : Gl X "len") (hm : X.mg "len" = none) (hg2 : Gl X "set") (hm2 : X.mg "set" = none) (ha : SE X B W a f)
    (na : starEach [a] X.env = (false, eval a X.env) :: starEach [] X.env) : SV X B W (.Call (.Name "len" p) [.Call (.Name "set" p2) [a] [] q] [] pos) (mLenSet f) :=
  pe_mono (pe_ls hc hg hm hg2 hm2 ha na) fun σ H Q ⟨F, ρ, h⟩ => h.go fun v H1 F1 ρ1 d s1 r1 h1 => by
    cases e : opLenSet d with
    | none => exact absurd (by simp only [e]) h1.nobad
    | some r =>
      obtain ⟨xs, ns, rfl, e1, e2, rfl⟩ := opLenSet_some e
      have r1 : Rep X.K X.mg F1 (.lst xs) v := r1
      simp only [Rep] at r1
      obtain ⟨b, us, rfl, q1, q2⟩ := r1
      have ev := ints_rep q2 e1
      subst ev
      refine ⟨b, ns, rfl, SqL.of (h1.sim.sub _ _ q1), e2, ?_⟩
      have an : Ans X H1 F1 (.int ((uniqI ns).length : Nat)) Q false := h1.ans (by simp only [e]; try rfl)
      exact ans_atom h1.sim.sub an fun F => by simp only [Rep]
end
@[simp, simp ↓] theorem wp_mLenSet {ρ : Env} {E : EQ} {f : M D} {Q : D × Bool → Env → Prop} : wp (mLenSet f) ρ Q E = wp f ρ (fun d ρ' => opt (opLenSet d) fun r => Q r ρ') E := by
  unfold mLenSet
  rw [wp_bind]
  congr 1; funext d ρ'
  unfold wp opt
  dsimp only
  cases e : opLenSet d <;> simp only [e]
theorem opLenSet_ints {ns : List Int} {P : D × Bool → Prop} (h : ns.length ≤ 4000) : opt (opLenSet (intsD ns)) P = P (.int ((uniqI ns).length : Nat), false) := by
  unfold opLenSet intsD
  simp only [ints?_map, if_pos h]
  rfl
end DL

namespace DL
open PySem PySem.Spec PyProof.Rows L2

/-! ## a, b = e1, e2 -/
def put2 (i j : Nat) (a b : D) : M Fl := fun ρ => match put i (.val a) ρ with
  | .ok _ ρ1 => match put j (.val b) ρ1 with
    | .ok _ ρ2 => .ok .next ρ2
    | _ => .bad
  | _ => .bad
def mPar (i j : Nat) (f : M (List D)) : M Fl := f.bind fun ds => match ds with
  | [a, b] => put2 i j a b
  | _ => fun _ => .bad
section
variable {X : Cx} {B : Bd} {W : WX}
theorem ss_par {i j : Nat} {x y : Str} {a b : Expr} {f : M (List D)} {px py pt : Pos} {kt k2 : Nat} {pt2 pos : Pos} (hc : X.calm = true) (hN : X.N.Nodup) (hi : X.N[i]? = some x) (hj : X.N[j]? = some y) (hij : i ≠ j)
    (hx : X.env.scope.names.lookup x = some .local) (hy : X.env.scope.names.lookup y = some .local) (ha : SDs X B W [a, b] f)
    (hw : swappedStores [.Tuple [.Name x px, .Name y py] kt pt] (.Tuple [a, b] k2 pt2) X.env = pure (some [x, y]))
    (hs : swapsWithSole [.Tuple [.Name x px, .Name y py] kt pt] (.Tuple [a, b] k2 pt2) pos.line X.env = pure false) :
    SS X B W (.Assign [.Tuple [.Name x px, .Name y py] kt pt] (.Tuple [a, b] k2 pt2) pos) (mPar i j f) :=
  ps_mono (ps_par hc hN hi hj hij hx hy ha hw hs) fun D σ H ⟨F, ρ, S, p⟩ => At.goS S p fun vs H1 F1 ρ1 ds s1 S1 r1 p1 => by
    match ds, r1, p1 with
    | [], r1, p1 => exact p1.elim
    | [_], r1, p1 => exact p1.elim
    | _ :: _ :: _ :: _, r1, p1 => exact p1.elim
    | [d1, d2], r1, p1 =>
      have r1 : RepL X.K X.mg F1 [d1, d2] vs := r1
      simp only [RepL] at r1
      obtain ⟨v, q, rfl, rv, w, q2, rfl, rw', rfl⟩ := r1
      refine ⟨v, w, rfl, ?_⟩
      have p2 : PostS X B W F1 D (put2 i j d1 d2 ρ1) := p1
      unfold put2 at p2
      have nb : put i (.val d1) ρ1 ≠ .bad := fun z => by rw [z] at p2; exact p2
      obtain ⟨e, hi1, hio⟩ := put_ok nb
      rw [e] at p2
      have S2 := S1.put (s := .val d1) (v := v) hi1 hio ⟨v, rfl, rv⟩ (fun m => by cases m) (fun d z => by cases z)
      have nb2 : put j (.val d2) (ρ1.set i (.val d1)) ≠ .bad := fun z => by
        dsimp only at p2
        rw [z] at p2
        exact p2
      obtain ⟨e2, hj1, hjo⟩ := put_ok nb2
      dsimp only at p2
      rw [e2] at p2
      exact p2 _ _ F1 (S2.put (s := .val d2) (v := w) hj1 hjo ⟨w, rfl, rw'⟩ (fun m => by cases m) (fun d z => by cases z)) (Same.refl _)
end
@[simp, simp ↓] theorem wp_put2 {ρ : Env} {E : EQ} {i j : Nat} {a b : D} {Q : Fl → Env → Prop} : wp (put2 i j a b) ρ Q E = wp (put i (.val a)) ρ (fun _ ρ1 => wp (put j (.val b)) ρ1 (fun _ ρ2 => Q .next ρ2) noE) noE := by
  have np : ∀ (i : Nat) (s : Sl) (ρ : Env), (∃ ρ', put i s ρ = .ok () ρ') ∨ put i s ρ = .bad := fun i s ρ => by
    unfold put
    cases ρ[i]? with
    | none => exact .inr rfl
    | some t => cases t <;> first | exact .inl ⟨_, rfl⟩ | exact .inr rfl
  unfold wp put2
  dsimp only
  rcases np i (.val a) ρ with ⟨ρ1, e⟩ | e
  · rw [e]
    dsimp only
    rcases np j (.val b) ρ1 with ⟨ρ2, e2⟩ | e2 <;> rw [e2]
  · rw [e]
@[simp, simp ↓] theorem wp_mPar {ρ : Env} {E : EQ} {i j : Nat} {f : M (List D)} {Q : Fl → Env → Prop} : wp (mPar i j f) ρ Q E = wp f ρ (fun ds ρ' => match ds with
    | [a, b] => wp (put2 i j a b) ρ' Q E
    | _ => False) E := by
  unfold mPar
  rw [wp_bind]
  congr 1; funext ds ρ'
  match ds with
  | [] => exact wp_bad
  | [_] => exact wp_bad
  | [_, _] => rfl
  | _ :: _ :: _ :: _ => exact wp_bad
end DL

namespace DL
open PySem PySem.Spec PyProof.Rows L2

/-! ## displays of dicts -/
def mVals : List (D × Key × M D) → M (List D)
  | [] => mNil
  | p :: r => mCons p.2.2 (mVals r)
def dispD : List (D × Key × M D) → List D → List (D × D)
  | p :: r, d :: ds => (p.1, d) :: dispD r ds
  | _, _ => []
def mergeD : List (D × D) → List (D × Key × M D) → List D → List (D × D)
  | acc, p :: r, d :: ds => mergeD (putD acc p.1 p.2.1 d) r ds
  | acc, _, _ => acc
def mDisp (kfs : List (D × Key × M D)) : M (D × Bool) := (mVals kfs).bind fun ds => if ds.length ≤ 15 then M.ret (.dct (mergeD [] kfs ds), true) else fun _ => .bad
section
variable {X : Cx} {B : Bd} {W : WX}
/-- a value whose reading wants nothing of its place -/
def tAny (X : Cx) (f : M D) : TE := fun σ H Q => ∃ B W, tG X B W (RE X) f σ H Q
theorem pe_any {e : Expr} {f : M D} (h : ∀ B W, SE X B W e f) : PE X e (tAny X f) := ⟨fun pin st σ H Q inv ⟨B, W, q⟩ => (h B W).run pin st σ H Q inv q⟩
/-- keys and values of a display -/
inductive Dsp (X : Cx) (pos : Pos) : List (Option Expr) → List Expr → List (D × Key × M D) → Prop
  | nil : Dsp X pos [] [] []
  | cons {k v : Expr} {ks : List (Option Expr)} {vs : List Expr} {kd : D} {key : Key} {f : M D} {r : List (D × Key × M D)} (hk : PE X k (tC (kV key))) (he : kd.key? = some key) (hv : ∀ B W, SE X B W v f) (hr : Dsp X pos ks vs r) : Dsp X pos (some k :: ks) (v :: vs) ((kd, key, f) :: r)
def trsOf (X : Cx) : List (D × Key × M D) → List (TE × TE)
  | [] => []
  | p :: r => (tC (kV p.2.1), tAny X p.2.2) :: trsOf X r
theorem Dsp.pps {pos : Pos} {keys : List (Option Expr)} {vals : List Expr} {kfs : List (D × Key × M D)} (h : Dsp X pos keys vals kfs) : PPs X pos keys vals (trsOf X kfs) := by
  induction h with
  | nil => exact pps_nil
  | cons hk he hv hr ih => exact pps_cons hk (pe_any hv) ih
theorem Dsp.ok {pos : Pos} {keys : List (Option Expr)} {vals : List Expr} {kfs : List (D × Key × M D)} (h : Dsp X pos keys vals kfs) : ∀ p ∈ kfs, p.1.key? = some p.2.1 := by
  induction h with
  | nil => intro p hp; cases hp
  | cons hk he hv hr ih =>
    intro p hp
    rcases List.mem_cons.mp hp with e | hp
    · subst e; exact he
    · exact ih p hp
def zipKV : List (D × Key × M D) → List V → List (Key × V)
  | p :: r, v :: vs => (p.2.1, v) :: zipKV r vs
  | _, _ => []
theorem pairs_of : ∀ {kfs : List (D × Key × M D)} {F : Hp} {ρ : Env} {σ : St} {H : Hp} {Q : List V → Hp → Prop} {G : List (V × V) → Hp → Prop}, At X B W (RDs X) (mVals kfs) F ρ σ H Q → (∀ vs H2, vs.length = kfs.length → Q vs H2 → G ((zipKV kfs vs).map (fun kv => (kV kv.1, kv.2))) H2) → tPairs (trsOf X kfs) σ H G
  | [], F, ρ, σ, H, Q, G, h, hg => hg [] H rfl (h.fin rfl h.sim (Same.refl _) (show RDs X σ H F ρ [] [] from RepL.nil))
  | p :: r, F, ρ, σ, H, Q, G, h, hg => by
    have h : At X B W (RDs X) (mCons p.2.2 (mVals r)) F ρ σ H Q := h
    show ∃ B W, tG X B W (RE X) p.2.2 σ H fun y H2 => tPairs (trsOf X r) σ H2 fun ps H3 => G ((kV p.2.1, y) :: ps) H3
    refine ⟨B, W, h.go fun y H1 F1 ρ1 d s1 r1 h1 => ?_⟩
    have r1 : Rep X.K X.mg F1 d y := r1
    have h2 : At X B W (RDs X) (mVals r) F1 ρ1 σ H1 (fun vs H2 => Q (y :: vs) H2) := by
      refine ⟨h1.sim, ?_⟩
      have p1 := h1.post
      unfold M.bind at p1
      cases e : mVals r ρ1 with
      | ok ds ρ2 =>
        rw [e] at p1
        exact fun vs H' F' S t q => p1 (y :: vs) H' F' S t (show RDs X σ H' F' ρ2 (d :: ds) (y :: vs) from RepL.cons (Rep.mono t d y r1) q)
      | err c fs ρ2 => rw [e] at p1; exact p1
      | bad => rw [e] at p1; exact p1
    exact pairs_of h2 fun vs H2 hl q => hg (y :: vs) H2 (by rw [List.length_cons, List.length_cons, hl]) q
theorem zipKV_len : ∀ {kfs : List (D × Key × M D)} {vs : List V}, vs.length = kfs.length → (zipKV kfs vs).length = vs.length
  | [], [], _ => rfl
  | [], _ :: _, h => by cases h
  | p :: r, [], h => by cases h
  | p :: r, v :: vs, h => by
    show (zipKV r vs).length + 1 = vs.length + 1
    rw [zipKV_len (kfs := r) (vs := vs) (Nat.succ.inj h)]
theorem repK_merge {K : PySem.W.Frag} {mg : Str → Option Value} {F : Hp} : ∀ {kfs : List (D × Key × M D)} {ds : List D} {vs : List V} {acc : List (D × D)} {ak : List (Key × V)}, (∀ p ∈ kfs, p.1.key? = some p.2.1) → RepL K mg F ds vs → vs.length = kfs.length → RepK K mg F acc ak → RepK K mg F (mergeD acc kfs ds) (mergeK ak (zipKV kfs vs))
  | [], ds, vs, acc, ak, _, h, hl, ha => by
    have : vs = [] := List.eq_nil_of_length_eq_zero hl
    subst this
    have := h.length
    have : ds = [] := List.eq_nil_of_length_eq_zero (by simpa using this)
    subst this
    exact ha
  | p :: r, ds, vs, acc, ak, hk, h, hl, ha => by
    match vs, hl with
    | v :: vs, hl =>
      match ds, h with
      | d :: ds, h =>
        simp only [RepL] at h
        obtain ⟨v', q, e, h1, h2⟩ := h
        cases e
        show RepK K mg F (mergeD (putD acc p.1 p.2.1 d) r ds) (mergeK (putK ak p.2.1 v) (zipKV r vs))
        exact repK_merge (fun x hx => hk x (List.mem_cons_of_mem _ hx)) h2 (Nat.succ.inj hl) (ha.put (hk p List.mem_cons_self) h1)
      | [], h => simp only [RepL] at h; cases h
/-- the place of the dict under way, told as one that was there before -/
def Bd.with (B : Bd) (p : Addr) : Bd := ⟨fun b => if b = p then some (.dK []) else B.H0 b, fun b => if b = p then none else B.F0 b, B.io⟩
theorem sim_with {K : PySem.W.Frag} {mg : Str → Option Value} {σ : St} {H F : Hp} {ρ : Env} {p : Addr} (S : Sim K mg B σ H F ρ) (hp : H p = none) : Sim K mg (B.with p) σ (upd H p (.dK [])) F ρ := by
  have hFp : F p = none := S.sub.free hp
  have S' : Sim K mg B σ (upd H p (.dK [])) F ρ := S.grow ⟨same_upd hp, Same.refl _, fun b x e => by
    rw [upd_ne (ne_of_none e hFp)]; exact S.sub b x e, fun _ _ => rfl⟩
  have hio : ∀ q ∈ B.io, q.2 ≠ p := fun q hq e => by
    obtain ⟨d, h1, h2⟩ := S.ios q hq
    have h3 := S.slot q.1 _ h1
    obtain ⟨a, k1, k2, k3, k4⟩ := h3
    rw [h2] at k1
    cases k1
    obtain ⟨u, hu⟩ := k4.there
    rw [e, hp] at hu
    cases hu
  refine ⟨S'.sub, S'.len, fun i s e => ?_, S'.sep, S'.ios, fun b o e hi => ?_, fun b e => ?_, fun b e => ?_⟩
  · have q := S'.slot i s e
    cases s with
    | un => trivial
    | val d => exact q
    | own d =>
      obtain ⟨a, h1, h2, h3, h4⟩ := q
      refine ⟨a, h1, h2, ?_, h4⟩
      show (if a = p then some (HO.dK []) else B.H0 a) = none
      have ha : a ≠ p := fun z => by
        have r := S.slot i _ e
        obtain ⟨a', k1, _, _, k4⟩ := r
        rw [h1] at k1
        cases k1
        obtain ⟨u, hu⟩ := k4.there
        rw [z, hp] at hu
        cases hu
      rw [if_neg ha]
      exact h3
    | io d => exact q
  · by_cases c : b = p
    · subst c
      have e : (if b = b then some (HO.dK []) else B.H0 b) = some o := e
      rw [if_pos rfl] at e
      rw [upd_same]
      exact e
    · have e : (if b = p then some (HO.dK []) else B.H0 b) = some o := e
      rw [if_neg c] at e
      exact S'.keepH b o e hi
  · by_cases c : b = p
    · subst c
      show F b = if b = b then none else B.F0 b
      rw [if_pos rfl]
      exact hFp
    · have e : (if b = p then some (HO.dK []) else B.H0 b) ≠ none := e
      rw [if_neg c] at e
      show F b = if b = p then none else B.F0 b
      rw [if_neg c]
      exact S'.keepF b e
  · by_cases c : b = p
    · subst c
      rw [upd_same]
      exact fun z => nomatch z
    · have e : (if b = p then some (HO.dK []) else B.H0 b) ≠ none := e
      rw [if_neg c] at e
      exact S'.there b e
theorem sim_without {K : PySem.W.Frag} {mg : Str → Option Value} {σ : St} {H F : Hp} {ρ : Env} {p : Addr} {o : HO} (hB : B.H0 p = none) (hio : ∀ q ∈ B.io, q.2 ≠ p) (S : Sim K mg (B.with p) σ H F ρ) : H p = some (.dK []) ∧ F p = none ∧ Sim K mg B σ (upd H p o) F ρ ∧ ∀ (i : Nat) (s : Sl), ρ[i]? = some s → s.mine = true → σ[i]? ≠ some (some (.ref p)) := by
  have w0 : (B.with p).H0 p = some (.dK []) := if_pos rfl
  have hH : H p = some (.dK []) := S.keepH p _ w0 fun i hi => hio (i, p) hi rfl
  have hF : F p = none := (S.keepF p (by rw [w0]; exact fun z => nomatch z)).trans (if_pos rfl)
  have own_ne : ∀ {a : Addr}, (B.with p).H0 a = none → a ≠ p := fun {a} h e => by
    subst e
    rw [w0] at h
    cases h
  have hB0 : ∀ {a : Addr}, a ≠ p → (B.with p).H0 a = B.H0 a := fun {a} h => if_neg h
  have nomine : ∀ (i : Nat) (s : Sl), ρ[i]? = some s → s.mine = true → σ[i]? ≠ some (some (.ref p)) := fun i s e m z => by
    have q := S.slot i s e
    cases s with
    | un => cases m
    | val _ => cases m
    | own d =>
      obtain ⟨a, h1, h2, h3, h4⟩ := q
      rw [z] at h1
      cases h1
      exact own_ne h3 rfl
    | io d =>
      obtain ⟨a, h1, h2, h3, h4⟩ := q
      rw [z] at h1
      cases h1
      exact hio _ h3 rfl
  refine ⟨hH, hF, ⟨fun b x e => ?_, S.len, fun i s e => ?_, S.sep, S.ios, fun b x e hi => ?_, fun b e => ?_, fun b e => ?_⟩, nomine⟩
  · rw [upd_ne (ne_of_none e hF)]
    exact S.sub b x e
  · have q := S.slot i s e
    cases s with
    | un => trivial
    | val d => exact q
    | own d =>
      obtain ⟨a, h1, h2, h3, h4⟩ := q
      have ha := own_ne h3
      refine ⟨a, h1, h2, by rw [← hB0 ha]; exact h3, by rw [upd_ne ha]; exact h4⟩
    | io d =>
      obtain ⟨a, h1, h2, h3, h4⟩ := q
      have ha : a ≠ p := hio _ h3
      exact ⟨a, h1, h2, h3, by rw [upd_ne ha]; exact h4⟩
  · have hb : b ≠ p := fun z => by rw [z, hB] at e; cases e
    rw [upd_ne hb]
    exact S.keepH b x (by rw [hB0 hb]; exact e) hi
  · have hb : b ≠ p := fun z => e (by rw [z]; exact hB)
    rw [S.keepF b (by rw [hB0 hb]; exact e)]
    exact if_neg hb
  · have hb : b ≠ p := fun z => e (by rw [z]; exact hB)
    rw [upd_ne hb]
    exact S.there b (by rw [hB0 hb]; exact e)
theorem sv_disp {pos : Pos} {keys : List (Option Expr)} {vals : List Expr} {kfs : List (D × Key × M D)} (h : Dsp X pos keys vals kfs) (hall : keys.all (·.isSome) = true) (hl : keys.length = vals.length) (h0 : keys ≠ []) (h15 : keys.length ≤ 15) : SV X B W (.Dict keys vals pos) (mDisp kfs) :=
  pe_mono (pe_disp h.pps hall hl h0 h15) fun σ H Q ⟨F, ρ, q⟩ => fun p hp => by
    have hB : B.H0 p = none := by
      cases e : B.H0 p with
      | none => rfl
      | some o => exact absurd hp (q.sim.there p (by rw [e]; exact fun z => nomatch z))
    have hio : ∀ x ∈ B.io, x.2 ≠ p := fun x hx e => by
      obtain ⟨d, h1, h2⟩ := q.sim.ios x hx
      have h3 := q.sim.slot x.1 _ h1
      obtain ⟨a, k1, k2, k3, k4⟩ := h3
      rw [h2] at k1
      cases k1
      obtain ⟨u, hu⟩ := k4.there
      rw [e, hp] at hu
      cases hu
    let G : List (V × V) → Hp → Prop := fun ps H2 => H2 p = some (.dK []) ∧ ∃ kvs : List (Key × V), ps = kvs.map (fun kv => (kV kv.1, kv.2)) ∧ kvs.length ≤ 15 ∧ Q (.ref p) (upd H2 p (.dK (mergeK [] kvs)))
    show tPairs (trsOf X kfs) σ (upd H p (.dK [])) G
    have hA : At X (B.with p) (fun _ _ _ _ => True) (RDs X) (mVals kfs) F ρ σ (upd H p (.dK [])) (fun vs H2 => vs.length = kfs.length → G ((zipKV kfs vs).map fun kv => (kV kv.1, kv.2)) H2) := by
      refine ⟨sim_with q.sim hp, ?_⟩
      have pq := q.post
      unfold mDisp M.bind at pq
      cases e : mVals kfs ρ with
      | bad => rw [e] at pq; exact pq
      | err c fs ρ1 => exact fun _ _ _ _ _ _ _ => trivial
      | ok ds ρ1 =>
        rw [e] at pq
        intro vs H' F' S t r hlen
        have r : RepL X.K X.mg F' ds vs := r
        have hdl := r.length
        have pq : Post X B W (RV X B) F σ Q ((if ds.length ≤ 15 then M.ret (.dct (mergeD [] kfs ds), true) else fun _ => .bad) ρ1) := pq
        by_cases c : ds.length ≤ 15
        · rw [if_pos c] at pq
          obtain ⟨s1, s2, s3, s4⟩ := sim_without (o := .dK (mergeK [] (zipKV kfs vs))) hB hio S
          refine ⟨s1, zipKV kfs vs, rfl, by rw [zipKV_len hlen]; omega, ?_⟩
          refine pq (.ref p) _ F' s3 t ?_
          show RV X B σ _ F' ρ1 (.dct (mergeD [] kfs ds), true) (.ref p)
          unfold RV
          rw [if_pos rfl]
          exact ⟨p, rfl, s2, hB, ⟨_, upd_same, repK_merge h.ok r hlen (by simp only [RepK])⟩, s4⟩
        · rw [if_neg c] at pq
          exact pq.elim
    exact pairs_of hA fun vs H2 hlen g => g hlen
end
/-! ## d.get(k, z) -/
def opGet2 (d k z : D) : Option D := match d, k.key? with
  | .dct kvs, some key => some ((getD kvs key).getD z)
  | _, _ => none
theorem opGet2_some {d k z r : D} (h : opGet2 d k z = some r) : ∃ kvs key, d = .dct kvs ∧ k.key? = some key ∧ r = (getD kvs key).getD z := by
  unfold opGet2 at h
  cases d with
  | dct kvs =>
    cases e : k.key? with
    | none => simp only [e] at h; cases h
    | some key => simp only [e] at h; cases h; exact ⟨kvs, key, rfl, rfl, rfl⟩
  | _ => cases h
def isDct : D → Bool
  | .dct _ => true
  | _ => false
def getAt (x : OV) (k z : D) : M (D × Bool) := fun ρ => match x.get ρ with
  | some d => match opGet2 d k z with
    | some r => .ok (r, false) ρ
    | none => .bad
  | none => .bad
def mGet2 (o : M OV) (k z : M D) : M (D × Bool) := o.bind fun x => fun ρ => match x.get ρ with
  | some d => if isDct d = true then (k.bind fun dk => z.bind fun dz => getAt x dk dz) ρ else .bad
  | none => .bad
section
variable {X : Cx} {B : Bd} {W : WX}
theorem sv_get2 {o e f : Expr} {fo : M OV} {fe ff : M D} {apos cpos : Pos} (hu : X.A.units + 64 < cLine) (ho : SO X B W o fo) (he : SE X B W e fe) (hf : SE X B W f ff) (m : M2 X o "get" apos e f cpos) : SV X B W (.Call (.Attribute o "get" apos) [e, f] [] cpos) (mGet2 fo fe ff) :=
  pe_mono (pe_dget2 (by omega) ho he hf m) fun σ H Q ⟨F, ρ, h⟩ => h.go fun v H1 F1 ρ1 ow s1 r1 h1 => by
    cases e1 : ow.get ρ1 with
    | none => exact absurd (by simp only [e1]) h1.nobad
    | some d =>
      by_cases c : isDct d = true
      · have p := h1.post
        simp only [e1, if_pos c] at p
        have h2 : At X B W (RV X B) (fe.bind fun dk => ff.bind fun dz => getAt ow dk dz) F1 ρ1 σ H1 Q := ⟨h1.sim, p⟩
        cases d with
        | dct kvs =>
          obtain ⟨a, ks, rfl, q1, q2⟩ := (r1.read h1.sim e1).dct h1.sim.sub
          refine ⟨a, rfl, .inl ⟨ks, .inl q1⟩, h2.go fun y H2 F2 ρ2 dk s2 r2 h3 => h3.go fun z H3 F3 ρ3 dz s3 r3 h4 => ?_⟩
          unfold getAt at h4
          cases e2 : ow.get ρ3 with
          | none => exact absurd (by simp only [e2]) h4.nobad
          | some d2 =>
            cases e3 : opGet2 d2 dk dz with
            | none => exact absurd (by simp only [e2, e3]) h4.nobad
            | some r =>
              obtain ⟨kvs2, key, rfl, k1, rfl⟩ := opGet2_some e3
              have r1' : RO X σ H3 F3 ρ3 ow (.ref a) := r1.mono (s2.trans s3)
              obtain ⟨a', ks2, ea, w1, w2⟩ := (r1'.read h4.sim e2).dct h4.sim.sub
              cases ea
              have ey := Rep.key (K := X.K) (mg := X.mg) r2 k1
              subst ey
              refine ⟨valV ks2 key, DGet.k w1, ?_⟩
              have an : Ans X H3 F3 ((getD kvs2 key).getD dz) Q false := h4.ans (by simp only [e2, e3])
              rcases RepK.get key w2 with ⟨g1, g2⟩ | ⟨d3, v3, g1, g2, g3⟩
              · rw [g2]
                rw [g1] at an
                exact an z H3 F3 (Grow.refl h4.sim.sub) r3
              · rw [g2]
                rw [g1] at an
                exact an v3 H3 F3 (Grow.refl h4.sim.sub) g3
        | _ => cases c
      · exact absurd (by simp only [e1, if_neg c]) h1.nobad
end
@[simp, simp ↓] theorem wp_getAt {ρ : Env} {E : EQ} {x : OV} {k z : D} {Q : D × Bool → Env → Prop} : wp (getAt x k z) ρ Q E = opt (x.get ρ) fun d => opt (opGet2 d k z) fun r => Q (r, false) ρ := by
  unfold wp getAt opt
  dsimp only
  cases x.get ρ with
  | none => rfl
  | some d =>
    dsimp only
    cases opGet2 d k z <;> rfl
@[simp, simp ↓] theorem wp_mGet2 {ρ : Env} {E : EQ} {o : M OV} {k z : M D} {Q : D × Bool → Env → Prop} : wp (mGet2 o k z) ρ Q E = wp o ρ (fun x ρ1 => opt (x.get ρ1) fun d => isDct d = true ∧ wp k ρ1 (fun dk ρ2 => wp z ρ2 (fun dz ρ3 => opt (x.get ρ3) fun d => opt (opGet2 d dk dz) fun r => Q (r, false) ρ3) E) E) E := by
  unfold mGet2
  rw [wp_bind]
  congr 1; funext x ρ1
  cases e : x.get ρ1 with
  | none => rw [opt_none]; unfold wp; simp only [e]
  | some d =>
    rw [opt_some]
    by_cases c : isDct d = true
    · rw [show (isDct d = true ∧ _) = _ from propext (and_iff_right c)]
      refine (wp_of (m' := k.bind fun dk => z.bind fun dz => getAt x dk dz) (by simp only [e, if_pos c]; try rfl)).trans ?_
      rw [wp_bind]
      congr 1; funext dk ρ2
      rw [wp_bind]
      congr 1; funext dz ρ3
      rw [wp_getAt]
    · rw [show (isDct d = true ∧ _) = False from propext ⟨fun h => c h.1, False.elim⟩]
      unfold wp
      simp only [e, if_neg c]
@[simp] theorem isDct_d {kvs : List (D × D)} : isDct (.dct kvs) = true := rfl
theorem opGet2_dct {kvs : List (D × D)} {k z : D} {key : Key} (h : k.key? = some key) {P : D → Prop} : opt (opGet2 (.dct kvs) k z) P = P ((getD kvs key).getD z) := by
  unfold opGet2
  rw [h]
  rfl
@[simp, simp ↓] theorem wp_mDisp {ρ : Env} {E : EQ} {kfs : List (D × Key × M D)} {Q : D × Bool → Env → Prop} : wp (mDisp kfs) ρ Q E = wp (mVals kfs) ρ (fun ds ρ' => ds.length ≤ 15 ∧ Q (.dct (mergeD [] kfs ds), true) ρ') E := by
  unfold mDisp
  rw [wp_bind]
  congr 1; funext ds ρ'
  by_cases c : ds.length ≤ 15
  · rw [if_pos c, wp_ret]
    exact (propext (and_iff_right c)).symm
  · rw [if_neg c, wp_bad]
    exact (propext ⟨False.elim, fun h => c h.1⟩)
@[simp] theorem mVals_nil : mVals [] = mNil := rfl
@[simp] theorem mVals_cons {p : D × Key × M D} {r : List (D × Key × M D)} : mVals (p :: r) = mCons p.2.2 (mVals r) := rfl
end DL

namespace DL
open PySem PySem.Spec PyProof.Rows L2

/-! ## list.count of data -/
def opCountD : OpR2
  | .lst xs, [y] => match D.pys xs, y.py with
    | some ps, some p => if (SeqAt.shaped (.list ps) && SeqAt.shaped p) = true then some (.int ((ps.countP fun z => PyData.eqv z p : Nat) : Int), false) else none
    | _, _ => none
  | _, _ => none
section
variable {X : Cx}
theorem or_countD (hu : X.A.units + 65 < cLine) : MtR X "list.count" (rDM X opCountD) := by
  intro pins s σ H x xs v us Q I rx rxs hh
  obtain ⟨F, dx, ds, d, nw, sub, hx, hds, e, a⟩ := hh
  cases dx with
  | lst zs =>
    match ds, e, hds with
    | [y], e, hds =>
      unfold opCountD at e
      cases e1 : D.pys zs with
      | none => simp only [e1] at e; cases e
      | some ps =>
        cases e2 : y.py with
        | none => simp only [e1, e2] at e; cases e
        | some p =>
          simp only [e1, e2] at e
          by_cases c : (SeqAt.shaped (.list ps) && SeqAt.shaped p) = true
          · rw [if_pos c] at e
            cases e
            obtain ⟨w, ex, hw⟩ := reps1 hds
            subst ex
            rw [Bool.and_eq_true] at c
            have dl := dp_ofB sub hx (show (D.lst zs).py = some (.list ps) by simp only [D.py, e1])
            have dy := dp_ofB sub hw e2
            obtain ⟨b, ws, ex, h1, h2⟩ := hx.lst sub
            subst ex
            cases rx
            cases rxs with
            | cons ry rt =>
              cases rt
              obtain ⟨bs, r1⟩ := Dp.reads I p w _ dy ry
              have lay := SeqAt.canLay_of_shaped c.1
              cases dl with
              | lst sq all =>
                obtain ⟨its, rv, il, small⟩ := I.list sq
                obtain ⟨as, many⟩ := Dp.readsAll I ps _ its all rv
                have same := SeqAt.readsAll_map ps its as lay many
                obtain ⟨ob, k, q1, q2, q3, q4⟩ := il
                obtain ⟨oc, od, oda, osl⟩ := ob
                simp only at q2 q4
                subst q2
                subst q4
                refine call_meets PySem.F.slot_list_count ⟨_, q1, rfl⟩ PySem.F.entry_list_count (PySem.F.args_list_count_2 _ _)
                  (SeqAt.list_countAt b its.toArray k od osl _ fun y => PyData.eqv (SeqAt.readOf s.heap y) p) ⟨q1, fun y hy => ?_, ?_⟩
                · exact SeqAt.items_eqAt many r1 lay (SeqAt.canLay_of_shaped c.2) (room_in_shaped c.2 hu) y hy
                · have cnt : its.toArray.toList.countP (fun y => PyData.eqv (SeqAt.readOf s.heap y) p) = ps.countP fun z => PyData.eqv z p := by
                    rw [← same, List.countP_map]
                    rfl
                  refine ans_atom (X := X) (H := H) (Q := fun v H1 => _) sub a (fun F => by simp only [Rep]) |> fun q => ⟨.int _, H, I.tok _, ⟨s.toks, congrArg (fun (n : Nat) => Value.int (n : Int) s.toks) cnt⟩, q⟩
          · rw [if_neg c] at e
            cases e
    | [], e, hds => cases e
    | _ :: _ :: _, e, hds => cases e
  | _ => cases ds <;> cases e
end
@[simp, simp ↓] theorem wp_mEnumL {ρ : Env} {E : EQ} {f : M (List D)} {Q : List D → Env → Prop} : wp (mEnum f) ρ Q E = wp f ρ (fun ds ρ' => match ds with
    | [.lst xs] => Q (enumD xs) ρ'
    | [.rol xs] => Q (enumD xs) ρ'
    | _ => False) E := by
  unfold mEnum
  rw [wp_bind]
  congr 1; funext ds ρ'
  match ds with
  | [] => unfold wp <;> rfl
  | [.lst xs] => unfold wp <;> rfl
  | [.rol xs] => unfold wp <;> rfl
  | [.non] => unfold wp <;> rfl
  | [.bl _] => unfold wp <;> rfl
  | [.int _] => unfold wp <;> rfl
  | [.str _] => unfold wp <;> rfl
  | [.tup _] => unfold wp <;> rfl
  | [.dct _] => unfold wp <;> rfl
  | [.dtt _] => unfold wp <;> rfl
  | [.obj _ _] => unfold wp <;> rfl
  | d :: _ :: _ => cases d <;> unfold wp <;> rfl
theorem enum_at {xs : List D} (d0 : D) : enumD xs = (List.range xs.length).map fun i => .tup [.int (i : Nat), xs.getD i d0] := by
  apply List.ext_getElem?
  intro i
  unfold enumD
  rw [List.getElem?_map, List.getElem?_zipIdx, List.getElem?_map]
  by_cases h : i < xs.length
  · rw [List.getElem?_range h, List.getElem?_eq_getElem h]
    simp [List.getD, h]
  · rw [List.getElem?_eq_none (by omega), List.getElem?_eq_none (by simpa using h)]
    rfl
theorem enum_nats (ps : List Nat) : enumD (ps.map fun (z : Nat) => D.int z) = (List.range ps.length).map fun i => .tup [.int (i : Nat), .int ((ps.getD i 0 : Nat) : Int)] := by
  rw [enum_at (.int ((0 : Nat) : Int)), List.length_map]
  apply List.map_congr_left
  intro i hi
  have h := List.mem_range.mp hi
  simp [List.getD, h]
theorem wp_stepE {ρ : Env} {E : EQ} {f g : M Fl} {Q : Fl → Env → Prop} {I : Env → Prop} (hf : wp f ρ (fun r ρ' => r = .next ∧ I ρ') E) (hg : ∀ ρ', I ρ' → wp g ρ' Q E) : wp (mSeq f g) ρ Q E := by
  rw [wp_mSeq]
  exact wp_mono hf (fun r ρ' h => by
    obtain ⟨e, h⟩ := h
    subst e
    exact hg ρ' h) fun _ _ _ h => h
theorem wp_seqB {ρ : Env} {E : EQ} {f g h : M Fl} {Q : Fl → Env → Prop} (q : wp (mSeq f (mSeq g h)) ρ Q E) : wp (mSeq (mSeq f g) h) ρ Q E := by
  simp only [wp_mSeq] at q ⊢
  refine wp_mono q (fun r ρ' h => ?_) fun _ _ _ h => h
  cases r <;> exact h
/-- a for over data told by places -/
theorem wp_forR {ρ : Env} {E : EQ} {n : Nat} {e : Nat → D} {step : D → M Fl} {Q : Fl → Env → Prop} (I : Nat → Env → Prop) (h0 : I 0 ρ) (hs : ∀ i ρ, i < n → I i ρ → wp (step (e i)) ρ (fun r ρ' => turnE r (I (i + 1) ρ') (fun y => Q y ρ')) E) (hd : ∀ ρ, I n ρ → Q .next ρ) :
    wp (loopL step ((List.range n).map e)) ρ Q E := by
  refine wp_for (fun pre ρ => I pre.length ρ) h0 (fun pre x suf ρ hx hi => ?_) (fun ρ h => hd ρ (by rw [List.length_range] at h; exact h))
  have hl : pre.length < n := by
    have := congrArg List.length hx
    rw [List.length_range, List.length_append, List.length_cons] at this
    omega
  have ex : x = pre.length := by
    have h1 : (List.range n)[pre.length]? = some x := by rw [hx]; simp
    rw [List.getElem?_range hl] at h1
    exact (Option.some.inj h1).symm
  subst ex
  rw [List.length_append, List.length_singleton]
  exact hs _ ρ hl hi
theorem zip_nats (xs ys : List Nat) : zipD (xs.map fun (z : Nat) => D.int z) (ys.map fun (z : Nat) => D.int z) = (xs.zip ys).map fun p => .tup [.int (p.1 : Nat), .int (p.2 : Nat)] := by
  unfold zipD
  rw [List.zip_map, List.map_map]
  rfl
theorem countP_cl {n m : Nat} {x : D} {p : PyData} (hx : Cl m x) (hp : x.py = some p) {c : D → Bool} : ∀ {ys : List D} {q : List PyData}, (∀ y ∈ ys, Cl n y) → (∀ y ∈ ys, (c y = true ↔ y = x)) → D.pys ys = some q → q.countP (fun z => PyData.eqv z p) = ys.countP c
  | [], q, _, _, h => by
    simp only [D.pys] at h
    cases h
    rfl
  | y :: ys, q, hy, hc, h => by
    obtain ⟨p1, ps, h1, h2, e⟩ := pys_cons h
    subst e
    have a := Cl.eqv (hy y List.mem_cons_self) hx h1 hp
    have b := countP_cl hx hp (fun z hz => hy z (List.mem_cons_of_mem _ hz)) (fun z hz => hc z (List.mem_cons_of_mem _ hz)) h2
    have e2 : PyData.eqv p1 p = c y := by rw [Bool.eq_iff_iff, a, hc y List.mem_cons_self]
    rw [List.countP_cons, List.countP_cons, b, e2]
theorem count_cl {n m : Nat} {x : D} {ys : List D} {c : D → Bool} {P : D × Bool → Prop} (hx : Cl m x) (hy : ∀ y ∈ ys, Cl n y) (hm : m ≤ 64) (hn : n < 64) (hc : ∀ y ∈ ys, (c y = true ↔ y = x)) : opt (opCountD (.lst ys) [x]) P = P (.int ((ys.countP c : Nat) : Int), false) := by
  obtain ⟨p, hp⟩ := hx.dat.at
  obtain ⟨q, hq, hq2⟩ := lst_py fun y h => (hy y h).dat
  have e := countP_cl hx hp.py hy hc hq
  unfold opCountD
  simp only [hq, hp.py, hp.shaped hm, hq2.shaped (by omega), Bool.and_self, if_true, e]
  rfl
theorem count_ints {xs : List Int} {i : Int} {P : D × Bool → Prop} : opt (opCountD (intsD xs) [.int i]) P = P (.int (xs.count i : Nat), false) := by
  unfold intsD
  rw [count_cl (n := 0) (m := 0) (c := fun d => match d with
    | .int j => j == i
    | _ => false) cl_int cl_ints (by omega) (by omega) (fun y hy => by
      obtain ⟨j, _, e⟩ := List.mem_map.mp hy
      subst e
      simp)]
  rw [List.countP_map]
  rfl
end DL

namespace DL
open PySem PySem.Spec PyProof.Rows L2

theorem wp_ifB {α : Type} {ρ : Env} {E : EQ} {c : M Bool} {f g : M α} {Q : α → Env → Prop} {b : Bool} (hc : wp c ρ (fun x ρ' => x = b ∧ ρ' = ρ) E) (h1 : b = true → wp f ρ Q E) (h2 : b = false → wp g ρ Q E) : wp (mIf c f g) ρ Q E := by
  rw [wp_mIf]
  refine wp_mono hc (fun x ρ' h => ?_) fun _ _ _ h => h
  obtain ⟨e1, e2⟩ := h
  subst e1
  subst e2
  cases x
  · exact h2 rfl
  · exact h1 rfl
theorem wp_ifT {α : Type} {ρ : Env} {E : EQ} {c : M Bool} {f g : M α} {Q : α → Env → Prop} (hc : wp c ρ (fun x ρ' => x = true ∧ ρ' = ρ) E) (h1 : wp f ρ Q E) : wp (mIf c f g) ρ Q E :=
  wp_ifB hc (fun _ => h1) fun h => nomatch h
theorem wp_ifF {α : Type} {ρ : Env} {E : EQ} {c : M Bool} {f g : M α} {Q : α → Env → Prop} (hc : wp c ρ (fun x ρ' => x = false ∧ ρ' = ρ) E) (h1 : wp g ρ Q E) : wp (mIf c f g) ρ Q E :=
  wp_ifB hc (fun h => nomatch h) fun _ => h1
end DL

namespace DL
open PySem PySem.Spec PyProof.Rows L2

/-! ## isinstance of the caught exception (with its fields) -/
section
variable {X : Cx} {a : Addr} {oe : Obj} {pn : List (Addr × Obj)} {cls : Value} {d : Option Addr}
/-- what is asked of the class of the exception -/
def ExK (K : PySem.W.Frag) (C : Addr) : Prop := L2.ExcC K C ∧ (PySem.W.clsIn K C).isSome = true
def rIsX (K : PySem.W.Frag) (a : Addr) (cls : Value) (d : Option Addr) : List V → Hp → VK → Prop := fun xs H Q => ∃ (D dd : Addr) (fs : List (Str × V)) (c : V) (cv : Value) (b : Bool),
  xs = [.ref a, c] ∧ cls = .ref D ∧ d = some dd ∧ H dd = some (.xd fs) ∧ ClsV c cv ∧ ExK K D ∧ PySem.W.kitOne K (.ref D) cv = some b ∧ Q (.bl b) H
def rIsXT (K : PySem.W.Frag) (a : Addr) (cls : Value) (d : Option Addr) : List V → Hp → VK → Prop := fun xs H Q => ∃ (D dd : Addr) (fs : List (Str × V)) (tp : Addr) (cs : List V) (us : List Value) (b : Bool),
  xs = [.ref a, .ref tp] ∧ cls = .ref D ∧ d = some dd ∧ H dd = some (.xd fs) ∧ H tp = some (.tup cs) ∧ Paired ClsV cs us ∧ ExK K D ∧ PySem.W.kitAny K (.ref D) us = some b ∧ Q (.bl b) H
theorem inst_of {pins : List (Addr × Obj)} {σ : St} {H : Hp} {s : Shared} {D dd : Addr} {fs : List (Str × V)} (hz : Zc (.ref D) (some dd) oe) (hf : ∃ vs, oe.data = .fields vs) (I : Inv (X.suite a ((a, oe) :: pn)) pins σ H s) (ea : H dd = some (.xd fs)) :
    ∃ od, PySem.W.InstAt s.heap a oe D (some od) := by
  obtain ⟨ha, _⟩ := I.pin (a, oe) (List.mem_append_left _ List.mem_cons_self)
  obtain ⟨vs, hd⟩ := hf
  have hx : ObjOk X.prog X.w H s.heap dd (.xd fs) := I.hok dd _ ea
  obtain ⟨mA, hns, hr⟩ := hx
  obtain ⟨od, ho, hl⟩ := lookIn_ns hns
  exact ⟨od, ha, hz.1, by unfold PySem.W.notCls; rw [hd] <;> rfl, by rw [hz.2]; exact ho⟩
theorem call_isX (hz : Zc cls d oe) (hf : ∃ vs, oe.data = .fields vs) : CallR (X.suite a ((a, oe) :: pn)) (.builtin "isinstance") (rIsX X.K a cls d) := by
  intro pins s σ H xs us Q I r h
  obtain ⟨D, dd, fs, c, cv, b, rfl, ec, ed, ea, hcv, C, e, q⟩ := h
  obtain ⟨u1, u2, rfl, r1, r2⟩ := vals2 r
  obtain rfl : u1 = Value.ref a := r1
  have e2 := hcv.eq r2
  subst e2
  subst ec
  subst ed
  obtain ⟨od, J⟩ := inst_of hz hf I ea
  exact PySem.W.kia_one (PySem.W.kitx_exc C.2 C.1.hg C.1.hk C.1.hs C.1.ha C.1.hn C.1.ht C.1.hm) I.kIn J e (fun z => nomatch z) fun tk => ⟨.bl b, H, I.tok tk, rfl, q⟩
theorem call_isXT (hz : Zc cls d oe) (hf : ∃ vs, oe.data = .fields vs) : CallR (X.suite a ((a, oe) :: pn)) (.builtin "isinstance") (rIsXT X.K a cls d) := by
  intro pins s σ H xs us Q I r h
  obtain ⟨D, dd, fs, tp, cs, ws, b, rfl, ec, ed, ea, hT, k, C, e, q⟩ := h
  obtain ⟨u1, u2, rfl, r1, r2⟩ := vals2 r
  obtain rfl : u1 = Value.ref a := r1
  obtain rfl : u2 = Value.ref tp := r2
  subst ec
  subst ed
  obtain ⟨od, J⟩ := inst_of hz hf I ea
  obtain ⟨_, its, rv, o, h1, h2, n, h3⟩ := (show ObjOk X.prog X.w H s.heap tp (.tup cs) from I.hok tp _ hT)
  have e3 := ClsV.all k rv
  subst e3
  obtain ⟨oc, od', dt, sl⟩ := o
  simp only at h2 h3
  subst h2 h3
  exact PySem.W.kia_tup (PySem.W.kitx_exc C.2 C.1.hg C.1.hk C.1.hs C.1.ha C.1.hn C.1.ht C.1.hm) I.kIn J h1 e (fun z => nomatch z) fun tk => ⟨.bl b, H, I.tok tk, rfl, q⟩
end
theorem kit_one {K : PySem.W.Frag} {C1 C2 : Addr} {b : Bool} (h1 : PySem.W.subIn K (.ref C1) (.ref C1) = some true) (h2 : PySem.W.isClsIn K C2 = true) (h3 : PySem.W.typeIn K (.ref C2) = some (.type "type")) (h4 : PySem.W.subIn K (.ref C1) (.ref C2) = some b) :
    PySem.W.kitOne K (.ref C1) (.ref C2) = some b := by
  have h2' : (PySem.W.clsIn K C2).isSome = true := h2
  unfold PySem.W.kitOne PySem.W.kitCls
  by_cases c : (Value.ref C1 == Value.ref C2) = true
  · rw [if_pos c]
    have e : C1 = C2 := Value.ref.inj (beq_iff_eq.mp c)
    subst e
    rw [h1] at h4
    cases h4
    rfl
  · rw [if_neg c]
    show (if ((PySem.W.clsIn K C2).isSome && PySem.W.typeIn K (.ref C2) == some (.type "type")) = true then PySem.W.subIn K (.ref C1) (.ref C2) else none) = some b
    rw [if_pos (by rw [h2', h3]; rfl)]
    exact h4

theorem relabel_free {sc : Scope} {E : PySem.Env} {x : Str} (h : sc.names.lookup x = some .cell ∨ sc.names.lookup x = some .free) : (relabel sc E).names.lookup x = some .cell ∨ (relabel sc E).names.lookup x = some .free := by
  unfold relabel
  dsimp only
  generalize sc.names = l at h ⊢
  induction l with
  | nil => rcases h with h | h <;> cases h
  | cons p r ih =>
    obtain ⟨n, k⟩ := p
    by_cases q : (x == n) = true
    · simp only [List.lookup, q] at h
      rw [List.map_cons]
      rcases h with h | h <;> cases h <;> dsimp only <;> split <;> simp [List.lookup, q]
    · have q' : (x == n) = false := by simpa using q
      simp only [List.lookup, q'] at h
      have k2 := ih h
      rw [List.map_cons]
      dsimp only
      split <;> simpa only [List.lookup, q'] using k2

/-! ## tests in an except suite -/
abbrev ExB := Str → Option Bool
def tHB (X : Cx) (i : Nat) (a : Addr) (cls : Value) (d : Option Addr) (g : ExB) : TT := fun σ H Q => ∃ F c fs b, Same F H ∧ ErrR X H F c fs cls d ∧ σ[i]? = some (some (.ref a)) ∧ g c = some b ∧
  ∀ H' F', Grow H F H' F' → Q b H'
def HB (X : Cx) (i : Nat) (e : Expr) (g : ExB) : Prop := ∀ (a : Addr) (oe : Obj) (cls : Value) (d : Option Addr) (pn : List (Addr × Obj)), Zc cls d oe → (∃ vs, oe.data = .fields vs) → PT (X.suite a ((a, oe) :: pn)) e (tHB X i a cls d g)
def bIs (l : List (Str × Bool)) : ExB := fun c => l.lookup c
def bNot (g : ExB) : ExB := fun c => match g c with
  | some b => some (!b)
  | none => none
def bAnd (g h : ExB) : ExB := fun c => match g c with
  | some true => h c
  | some false => some false
  | none => none
def bOr (g h : ExB) : ExB := fun c => match g c with
  | some true => some true
  | some false => h c
  | none => none
def exIf (t : ExB) (g h : ExF) : ExF := fun c fs => match t c with
  | some true => g c fs
  | some false => h c fs
  | none => none
def exBad : ExF := fun _ _ => none
/-- the table of a class, as isinstance answers it -/
def IsTab (X : Cx) (cv : Addr) (l : List (Str × Bool)) : Prop := ∀ c ∈ l, ∀ C, X.mg c.1 = some (.ref C) → ExK X.K C ∧ PySem.W.kitOne X.K (.ref C) (.ref cv) = some c.2
section
variable {X : Cx} {i : Nat}
theorem pe_bad {X : Cx} {e : Expr} : PE X e (fun _ _ _ => False) := ⟨fun _ _ _ _ _ _ h => h.elim⟩
theorem he_no {e : Expr} : HE X i e exBad := fun a oe cls d pn hz hd => pe_mono pe_bad fun σ H Q ⟨F, c, fs, r, _, _, _, z, _⟩ => nomatch z
theorem hb_is {n x : Str} {D : Addr} {p p1 p2 pos : Pos} {l : List (Str × Bool)} (hl : IsTab X D l) (hn : ∀ (a : Addr) (pn : List (Addr × Obj)), PE (X.suite a pn) (.Name n p1) (tVar i)) (hx : ∀ (a : Addr) (pn : List (Addr × Obj)), Gl (X.suite a pn) x) (hm : X.mg x = some (.ref D)) (hd : (x == ("__debug__" : Str)) = false)
    (hg : ∀ (a : Addr) (pn : List (Addr × Obj)), Gl (X.suite a pn) "isinstance") (hi : X.mg "isinstance" = none)
    (he1 : ∀ E, starEach [Expr.Name x p2] E = (false, eval (Expr.Name x p2) E) :: starEach [] E)
    (he : ∀ E, starEach [Expr.Name n p1, Expr.Name x p2] E = (false, eval (Expr.Name n p1) E) :: starEach [Expr.Name x p2] E) (hpl : ∀ E, (backTo pos (starEach [Expr.Name x p2] E)).any (·.1) = false)
    (ht : ∀ E whole, isTrue (.Call (.Name "isinstance" p) [.Name n p1, .Name x p2] [] pos) E whole = (do let v ← whole; standAt (Expr.Call (.Name "isinstance" p) [.Name n p1, .Name x p2] [] pos).pos; holding [v] (truthy v))) :
    HB X i (.Call (.Name "isinstance" p) [.Name n p1, .Name x p2] [] pos) (bIs l) := by
  intro a oe cls d pn hz hf
  have k := pe_callB (call_isX (X := X) (pn := pn) hz hf) (x := "isinstance") (pos := pos) (p := p) (hg a _) hi bt_isinstance (pa_cons (hn a _) (pa_cons (pe_glob (pos := p2) (hx a _) hm (show RelV (.ref D) _ from rfl) hd) pa_nil (he1 _)) (he _)) (by decide) (by decide) (he _) (hpl _)
  refine pt_mono (pt_truth k (ht _)) fun σ H Q ⟨F, c, fs, b, sm, er, es, eg, hq⟩ => ?_
  obtain ⟨C, dd, fv, h1, h2, h3, h4, h5⟩ := id er
  obtain ⟨hk, ho⟩ := hl _ (mem_look eg) C h1
  exact ⟨.ref a, es, C, dd, fv, .ref D, .ref D, b, rfl, h2, h3, h4, .own D, hk, ho, b, rfl, hq H F (Grow.refl sm)⟩
theorem hb_is2 {n x y : Str} {D D2 : Addr} {k : Nat} {p p1 p2 p3 p4 pos : Pos} {l l2 : List (Str × Bool)} (hl : IsTab X D l) (hl2 : IsTab X D2 l2) (hn : ∀ (a : Addr) (pn : List (Addr × Obj)), PE (X.suite a pn) (.Name n p1) (tVar i)) (hx : ∀ (a : Addr) (pn : List (Addr × Obj)), Gl (X.suite a pn) x) (hm : X.mg x = some (.ref D)) (hd : (x == ("__debug__" : Str)) = false)
    (hx2 : ∀ (a : Addr) (pn : List (Addr × Obj)), Gl (X.suite a pn) y) (hm2 : X.mg y = some (.ref D2)) (hd2 : (y == ("__debug__" : Str)) = false) (hg : ∀ (a : Addr) (pn : List (Addr × Obj)), Gl (X.suite a pn) "isinstance") (hi : X.mg "isinstance" = none)
    (hs1 : ∀ E, starEach [Expr.Name x p2, Expr.Name y p3] E = (false, eval (Expr.Name x p2) E) :: starEach [Expr.Name y p3] E) (hs2 : ∀ E, starEach [Expr.Name y p3] E = (false, eval (Expr.Name y p3) E) :: starEach [] E)
    (he1 : ∀ E, starEach [Expr.Tuple [.Name x p2, .Name y p3] k p4] E = (false, eval (Expr.Tuple [.Name x p2, .Name y p3] k p4) E) :: starEach [] E)
    (he : ∀ E, starEach [Expr.Name n p1, Expr.Tuple [.Name x p2, .Name y p3] k p4] E = (false, eval (Expr.Name n p1) E) :: starEach [Expr.Tuple [.Name x p2, .Name y p3] k p4] E) (hpl : ∀ E, (backTo pos (starEach [Expr.Tuple [.Name x p2, .Name y p3] k p4] E)).any (·.1) = false)
    (ht : ∀ E whole, isTrue (.Call (.Name "isinstance" p) [.Name n p1, .Tuple [.Name x p2, .Name y p3] k p4] [] pos) E whole = (do let v ← whole; standAt (Expr.Call (.Name "isinstance" p) [.Name n p1, .Tuple [.Name x p2, .Name y p3] k p4] [] pos).pos; holding [v] (truthy v))) :
    HB X i (.Call (.Name "isinstance" p) [.Name n p1, .Tuple [.Name x p2, .Name y p3] k p4] [] pos) (bOr (bIs l) (bIs l2)) := by
  intro a oe cls d pn hz hf
  have kk := pe_callB (call_isXT (X := X) (pn := pn) hz hf) (x := "isinstance") (pos := pos) (p := p) (hg a _) hi bt_isinstance (pa_cons (hn a _) (pa_cons (pe_tup (pa_cons (pe_glob (pos := p2) (hx a _) hm (show RelV (.ref D) _ from rfl) hd) (pa_cons (pe_glob (pos := p3) (hx2 a _) hm2 (show RelV (.ref D2) _ from rfl) hd2) pa_nil (hs2 _)) (hs1 _))) pa_nil (he1 _)) (he _)) (by decide) (by decide) (he _) (hpl _)
  refine pt_mono (pt_truth kk (ht _)) fun σ H Q ⟨F, c, fs, b, sm, er, es, eg, hq⟩ => ?_
  refine ⟨.ref a, es, by rw [sizeLine_eq]; simp, fun q hq0 => ?_⟩
  have gr := Grow.new (o := HO.tup [.ref D, .ref D2]) sm hq0
  obtain ⟨C, dd, fv, h1, h2, h3, h4, h5⟩ := id (er.grow gr)
  unfold bOr bIs at eg
  cases e1 : l.lookup c with
  | none => rw [e1] at eg; cases eg
  | some b1 =>
    rw [e1] at eg
    obtain ⟨hk, ho⟩ := hl _ (mem_look e1) C h1
    have any : PySem.W.kitAny X.K (.ref C) [.ref D, .ref D2] = some b := by
      unfold PySem.W.kitAny
      rw [ho]
      cases b1 with
      | true => exact eg
      | false =>
        have h6 := (hl2 _ (mem_look eg) C h1).2
        unfold PySem.W.kitAny
        rw [h6]
        cases b <;> rfl
    exact ⟨C, dd, fv, q, [.ref D, .ref D2], [.ref D, .ref D2], b, rfl, h2, h3, h4, upd_same, .cons (.own D) (.cons (.own D2) .nil), hk, any, b, rfl, hq _ _ gr⟩
theorem hb_not {e : Expr} {g : ExB} {pos : Pos} (h : HB X i e g) : HB X i (.UnaryOp .Not e pos) (bNot g) := fun a oe cls d pn hz hf =>
  pt_mono (pt_not (h a oe cls d pn hz hf)) fun σ H Q ⟨F, c, fs, b, sm, er, es, eg, hq⟩ => by
    unfold bNot at eg
    cases e1 : g c with
    | none => rw [e1] at eg; cases eg
    | some b1 =>
      rw [e1] at eg
      cases eg
      exact ⟨F, c, fs, b1, sm, er, es, e1, hq⟩
theorem hb_and {e e2 : Expr} {g h : ExB} {pos : Pos} (he : HB X i e g) (h2 : HB X i e2 h) : HB X i (.BoolOp .And [e, e2] pos) (bAnd g h) := fun a oe cls d pn hz hf =>
  pt_mono (PW.pt (pw_and (he a oe cls d pn hz hf) (pw_and1 (h2 a oe cls d pn hz hf)))) fun σ H Q ⟨F, c, fs, b, sm, er, es, eg, hq⟩ => by
    unfold bAnd at eg
    cases e1 : g c with
    | none => rw [e1] at eg; cases eg
    | some b1 =>
      rw [e1] at eg
      refine ⟨F, c, fs, b1, sm, er, es, e1, fun H' F' gr => ?_⟩
      cases b1 with
      | true =>
        exact ⟨F', c, fs, b, gr.sub, er.grow gr, es, eg, fun H2 F2 g2 => hq H2 F2 (gr.trans g2)⟩
      | false =>
        cases eg
        exact hq H' F' gr
theorem hs_if {t : Expr} {e : Expr} {su : List Stmt} {g : ExB} {h k : ExF} {p1 p2 : Pos} (ht : HB X i t g) (he : HE X i e h) (hs : HS X i su k) : HS X i (.If t [.Return (some e) p1] [] p2 :: su) (exIf g h k) := by
  intro a oe cls d pn hz hf
  refine pss_mono (pss_cons (ps_if (ht a oe cls d pn hz hf) (pss_one (ps_ret (he a oe cls d pn hz hf))) pss_nil) (hs a oe cls d pn hz hf)) fun D σ H ⟨F, c, fs, r, sm, er, es, eg, hq⟩ => ?_
  unfold exIf at eg
  cases e1 : g c with
  | none => rw [e1] at eg; cases eg
  | some b =>
    rw [e1] at eg
    refine ⟨F, c, fs, b, sm, er, es, e1, fun H' F' gr => ?_⟩
    cases b with
    | true =>
      exact ⟨F', c, fs, r, gr.sub, er.grow gr, es, eg, fun v H2 F2 g2 rv => hq v H2 F2 (gr.trans g2) rv⟩
    | false =>
      exact ⟨F', c, fs, r, gr.sub, er.grow gr, es, eg, fun v H2 F2 g2 rv => hq v H2 F2 (gr.trans g2) rv⟩
end
end DL

namespace DL
open PySem PySem.Spec PyProof.Rows L2

/-! ## lists and tuples of ints -/
def sq (b : Bool) (xs : List Int) : D := if b = true then .lst (xs.map D.int) else .tup (xs.map D.int)
@[simp] theorem items_sq {b : Bool} {xs : List Int} : itemsD (sq b xs) = some (xs.map D.int) := by cases b <;> rfl
@[simp, simp ↓] theorem len_sq {b : Bool} {xs : List Int} {P : D × Bool → Prop} : opt (opLen [sq b xs]) P = P (.int xs.length, false) := by
  cases b <;> simp [sq]
@[simp, simp ↓] theorem sum_sq {b : Bool} {xs : List Int} {P : D × Bool → Prop} : opt (opSum [sq b xs]) P = P (.int xs.sum, false) := by
  cases b
  · exact opSumT_ints
  · exact opSum_ints
@[simp, simp ↓] theorem ix_sq {b : Bool} {xs : List Int} {i : Int} {P : D × Bool → Prop} : opt (opIx (sq b xs) (.int i)) P = opt (atI xs i) fun x => P (.int x, false) := by
  have h : atI (xs.map D.int) i = (atI xs i).map D.int := by
    unfold atI
    rw [List.length_map]
    cases ixN xs.length i with
    | none => rfl
    | some k => simp
  have e : opt (atI (xs.map D.int) i) (fun d => P (d, false)) = opt (atI xs i) fun x => P (.int x, false) := by
    rw [h]
    cases atI xs i <;> rfl
  cases b
  · show opt (opIx (.tup _) _) P = _
    rw [opIx_tup, e]
  · show opt (opIx (.lst _) _) P = _
    rw [opIx_lst, e]
theorem bls_map {α : Type} {c : α → Bool} : ∀ {xs : List α}, D.bls? (xs.map fun x => D.bl (c x)) = some (xs.map c)
  | [] => rfl
  | x :: xs => by
    simp only [List.map_cons, D.bls?, D.bl?, bls_map]
theorem opAny_map {α : Type} {c : α → Bool} {xs : List α} {P : D × Bool → Prop} : opt (opAny [.lst (xs.map fun x => D.bl (c x))]) P = P (.bl (xs.any c), false) := by
  show opt ((D.bls? _).map _) P = _
  rw [bls_map]
  show P (.bl ((xs.map c).any id), false) = _
  rw [List.any_map]
  rfl
theorem pick_at {α : Type} {xs : List α} {y : Int} {P : α → Prop} (h0 : 0 ≤ y) (h1 : y < xs.length) (h : ∀ x ∈ xs, P x) : opt (atI xs y) P := by
  have hl : y.toNat < xs.length := by omega
  rw [atI_int y.toNat (by omega) (List.getElem?_eq_getElem hl), opt_some]
  exact h _ (List.getElem_mem hl)
/-- a comprehension over range(n), each item drawn -/
theorem wp_lcD {α : Type} {emb : α → D} {R : α → Prop} {n : Nat} {own : List Nat} {g : D → M Unit} {te : M D} {ρ : List Int → Env} {ds0 : List Int} {E : EQ} {Q : D × Bool → Env → Prop}
    (hw : ∀ ds, wipeE (ρ ds) own = ρ ds) (ho : okOwn own (ρ ds0) = true) (hr : ∀ ds, restE (ρ ds0) (ρ ds) own = ρ ds) (hn : n ≤ sizeLine)
    (hs : ∀ ds (i : Nat), i < n → wp (g (.int i)) (ρ ds) (fun _ ρ1 => wp te ρ1 (fun y ρ2 => ∃ (ds' : List Int) (x : α), y = emb x ∧ R x ∧ wipeE ρ2 own = ρ ds') noE) noE)
    (hq : ∀ (ds' : List Int) (xs : List α), xs.length = n → (∀ x ∈ xs, R x) → Q (.lst (xs.map emb), true) (ρ ds')) :
    wp (mLc own (M.ret ((List.range n).map fun (i : Nat) => D.int i)) g mYes te) (ρ ds0) Q E := by
  refine wp_comp (by simpa using hn) ho (I := fun pre acc ρ1 => ∃ (ds' : List Int) (xs : List α), acc = xs.map emb ∧ xs.length = pre.length ∧ (∀ x ∈ xs, R x) ∧ ρ1 = ρ ds') ⟨ds0, [], rfl, rfl, by simp, hw _⟩ ?_ ?_
  · rintro pre x suf acc ρ1 he ⟨ds', xs, rfl, h2, h3, rfl⟩
    have hx : x < n := by
      have := List.mem_range.mp (by rw [he]; simp : x ∈ List.range n)
      exact this
    refine wp_mono (hs ds' x hx) (fun _ ρ2 h => ?_) fun _ _ _ h => h
    unfold mYes
    rw [wp_ret, fork_t]
    refine wp_mono h (fun y ρ3 h => ?_) fun _ _ _ h => h
    obtain ⟨ds2, z, rfl, hz, e⟩ := h
    exact ⟨ds2, xs ++ [z], by simp, by simp [h2], fun w hw => by
      rcases List.mem_append.mp hw with hw | hw
      · exact h3 w hw
      · rw [List.mem_singleton] at hw; subst hw; exact hz, e⟩
  · rintro acc ρ1 ⟨ds', xs, rfl, h2, h3, rfl⟩
    rw [hr]
    exact hq ds' xs (by simpa using h2) h3
end DL

namespace DL
open PySem PySem.Spec PyProof.Rows L2

/-! ## == of data of one form (bools against bools) -/
def EqS (d e : D) : Prop := ∀ p q, d.py = some p → e.py = some q → (PyData.eqv p q = true ↔ d = e)
theorem EqS.cl {n m : Nat} {d e : D} (h : Cl n d) (k : Cl m e) : EqS d e := fun _ _ h1 h2 => Cl.eqv h k h1 h2
theorem EqS.bl {a b : Bool} : EqS (.bl a) (.bl b) := fun p q h1 h2 => by
  simp only [D.py] at h1 h2
  cases h1
  cases h2
  cases a <;> cases b <;> simp [PyData.eqv]
theorem EqS.int {a b : Int} : EqS (.int a) (.int b) := EqS.cl (n := 0) (m := 0) trivial trivial
theorem EqS.all : ∀ {xs ys : List D} {ps qs : List PyData}, (∀ (i : Nat) x y, xs[i]? = some x → ys[i]? = some y → EqS x y) → D.pys xs = some ps → D.pys ys = some qs → (PyData.eqvAll ps qs = true ↔ xs = ys)
  | [], ys, ps, qs, h, h1, h2 => by
    simp only [D.pys] at h1
    cases h1
    cases ys with
    | nil => simp only [D.pys] at h2; cases h2; simp [PyData.eqvAll]
    | cons y ys =>
      obtain ⟨p, ps, _, _, e⟩ := pys_cons h2
      subst e
      simp [PyData.eqvAll]
  | x :: xs, ys, ps, qs, h, h1, h2 => by
    obtain ⟨p, ps', a1, a2, e⟩ := pys_cons h1
    subst e
    cases ys with
    | nil => simp only [D.pys] at h2; cases h2; simp [PyData.eqvAll]
    | cons y ys =>
      obtain ⟨q, qs', b1, b2, e⟩ := pys_cons h2
      subst e
      have c1 := h 0 x y rfl rfl p q a1 b1
      have c2 := EqS.all (fun i x' y' e1 e2 => h (i + 1) x' y' (by simpa using e1) (by simpa using e2)) a2 b2
      rw [PyData.eqvAll, Bool.and_eq_true, c1, c2, List.cons.injEq]
theorem EqS.lst {xs ys : List D} (h : ∀ (i : Nat) x y, xs[i]? = some x → ys[i]? = some y → EqS x y) : EqS (.lst xs) (.lst ys) := fun p q h1 h2 => by
  simp only [D.py] at h1 h2
  cases e1 : D.pys xs with
  | none => rw [e1] at h1; cases h1
  | some ps =>
    cases e2 : D.pys ys with
    | none => rw [e2] at h2; cases h2
    | some qs =>
      rw [e1] at h1
      rw [e2] at h2
      cases h1
      cases h2
      rw [PyData.eqv, EqS.all h e1 e2, D.lst.injEq]
theorem EqS.tup {xs ys : List D} (h : ∀ (i : Nat) x y, xs[i]? = some x → ys[i]? = some y → EqS x y) : EqS (.tup xs) (.tup ys) := fun p q h1 h2 => by
  simp only [D.py] at h1 h2
  cases e1 : D.pys xs with
  | none => rw [e1] at h1; cases h1
  | some ps =>
    cases e2 : D.pys ys with
    | none => rw [e2] at h2; cases h2
    | some qs =>
      rw [e1] at h1
      rw [e2] at h2
      cases h1
      cases h2
      rw [PyData.eqv, EqS.all h e1 e2, D.tup.injEq]
theorem EqS.nil_l {ys : List D} : ∀ (i : Nat) x y, ([] : List D)[i]? = some x → ys[i]? = some y → EqS x y := fun i x y h => by simp at h
theorem EqS.cons_l {a b : D} {xs ys : List D} (h : EqS a b) (t : ∀ (i : Nat) x y, xs[i]? = some x → ys[i]? = some y → EqS x y) : ∀ (i : Nat) x y, (a :: xs)[i]? = some x → (b :: ys)[i]? = some y → EqS x y
  | 0, x, y, e1, e2 => by
    cases e1
    cases e2
    exact h
  | i + 1, x, y, e1, e2 => t i x y (by simpa using e1) (by simpa using e2)
theorem EqS.maps {α β : Type} {f : α → D} {g : β → D} {xs : List α} {ys : List β} (h : ∀ x ∈ xs, ∀ y ∈ ys, EqS (f x) (g y)) : EqS (.lst (xs.map f)) (.lst (ys.map g)) :=
  EqS.lst fun i x y e1 e2 => by
    obtain ⟨a, ha, rfl⟩ := List.mem_map.mp (List.mem_of_getElem? e1)
    obtain ⟨b, hb, rfl⟩ := List.mem_map.mp (List.mem_of_getElem? e2)
    exact h a ha b hb
theorem eq_S {n m : Nat} {d e : D} {b : Bool} {P : D × Bool → Prop} (h1 : Dat n d) (h2 : Dat m e) (h : EqS d e) (hn : n ≤ 64) (hm : m ≤ 64) (hb : b = true ↔ d = e) : opt (opEq d e) P = P (.bl b, false) := by
  obtain ⟨p, hp⟩ := h1.at
  obtain ⟨q, hq⟩ := h2.at
  rw [opEq_py hp.py hq.py (hp.shaped hn) (hq.shaped hm)]
  have k := h p q hp.py hq.py
  have : PyData.eqv p q = b := by rw [Bool.eq_iff_iff, k, hb]
  rw [this]
theorem ne_S {n m : Nat} {d e : D} {b : Bool} {P : D × Bool → Prop} (h1 : Dat n d) (h2 : Dat m e) (h : EqS d e) (hn : n ≤ 64) (hm : m ≤ 64) (hb : b = true ↔ d = e) : opt (opNe d e) P = P (.bl (!b), false) := by
  obtain ⟨p, hp⟩ := h1.at
  obtain ⟨q, hq⟩ := h2.at
  rw [opNe_py hp.py hq.py (hp.shaped hn) (hq.shaped hm)]
  have k := h p q hp.py hq.py
  have : PyData.eqv p q = b := by rw [Bool.eq_iff_iff, k, hb]
  rw [this]
theorem wp_ifF2 {α : Type} {ρ ρ1 : Env} {E : EQ} {c : M Bool} {f g : M α} {Q : α → Env → Prop} (hc : wp c ρ (fun x ρ' => x = false ∧ ρ' = ρ1) E) (h1 : wp g ρ1 Q E) : wp (mIf c f g) ρ Q E := by
  rw [wp_mIf]
  refine wp_mono hc (fun x ρ' h => ?_) fun _ _ _ h => h
  obtain ⟨e1, e2⟩ := h
  subst e1
  subst e2
  exact h1
end DL

namespace DL
open PySem PySem.Spec PyProof.Rows L2
/-! ## math.gcd -/
def opGcd : OpN
  | [.int a, .int b] => some (.int ((Nat.gcd a.natAbs b.natAbs : Nat) : Int), false)
  | _ => none
section
variable {X : Cx} {B : Bd} {W : WX}
theorem od_gcd : CallR X (.builtin "math.gcd") (rDN X opGcd) := by
  intro pins s σ H vs us Q I r ⟨F, ds, d, nw, sub, hd, e, a⟩
  match ds, e, hd with
  | [.int x, .int y], e, hd =>
    cases e
    obtain ⟨v, w, rfl, h, k⟩ := reps2 hd
    cases h.int
    cases k.int
    exact cr_gcd pins s σ H _ us Q I r ⟨x, y, rfl, ans_atom sub a fun F => by simp only [Rep]⟩
theorem sv_callF {op : OpN} {id : String} {x : Str} {e : Expr} {es : List Expr} {f : M (List OV)} {p pos : Pos} (hc : CallR X (.builtin id) (rDN X op)) (hg : Gl X x) (hm : X.mg x = some (.builtin id)) (ha : SOs X B W (e :: es) f)
    (hdb : (x == ("__debug__" : Str)) = false) (he : starEach (e :: es) X.env = (false, eval e X.env) :: starEach es X.env) (hpl : (backTo pos (starEach es X.env)).any (·.1) = false) : SV X B W (.Call (.Name x p) (e :: es) [] pos) (mCallB op f) :=
  pe_mono (pe_callBfun hc hg hm ha hdb he hpl) fun σ H Q ⟨F, ρ, h⟩ => h.go fun vs H1 F1 ρ1 os s1 r1 h1 => opN_ans h1 r1
end
@[simp, simp ↓] theorem opGcd_int {a b : Int} {P : D × Bool → Prop} : opt (opGcd [.int a, .int b]) P = P (.int ((Nat.gcd a.natAbs b.natAbs : Nat) : Int), false) := rfl
end DL

namespace DL
open PySem PySem.Spec PyProof.Rows L2
/-! ## a law's own gcd -/
def bGcd : M Fl := (mSeq (mSet 0 (mCallB opAbs (mCons (oVar 0) mNil)))
  (mSeq (mSet 1 (mCallB opAbs (mCons (oVar 1) mNil)))
  (mSeq (mKill [1] (mWhile (asB (mBin opNe (oVar 1) (M.map OV.now (mLit (.int 0))))) [] (mPar 0 1 (mCons (eVar 1) (mCons (M.map Prod.fst (mBin opMod (M.map OV.now (M.map Prod.fst (mCallB opInt (mCons (oVar 0) mNil)))) (oVar 1))) mNil)))))
  (mRet (eVar 0)))))
def gst (x y : Nat) : Nat := if h : y = 0 then 0 else 1 + gst y (x % y)
termination_by y
decreasing_by exact Nat.mod_lt _ (Nat.pos_of_ne_zero h)
theorem gst_le : ∀ (k x y : Nat), y < 2 ^ k → gst x y ≤ 2 * k
  | 0, x, y, h => by
    have : y = 0 := by simpa using h
    subst this
    unfold gst
    simp
  | k + 1, x, y, h => by
    unfold gst
    by_cases c : y = 0
    · rw [dif_pos c]; omega
    rw [dif_neg c]
    by_cases d : x % y = 0
    · rw [d]
      unfold gst
      simp
      omega
    · unfold gst
      rw [dif_neg d]
      have h1 : x % y < y := Nat.mod_lt _ (Nat.pos_of_ne_zero c)
      have h2 : y % (x % y) < x % y := Nat.mod_lt _ (Nat.pos_of_ne_zero d)
      have h3 : y % (x % y) ≤ y - x % y := by
        have h4 := Nat.div_add_mod y (x % y)
        have h5 : 1 ≤ y / (x % y) := Nat.div_pos (Nat.le_of_lt h1) (Nat.pos_of_ne_zero d)
        have h6 : x % y ≤ (x % y) * (y / (x % y)) := Nat.le_mul_of_pos_right _ h5
        omega
      have h7 : y % (x % y) < 2 ^ k := by
        rw [Nat.pow_succ] at h
        omega
      have := gst_le k (x % y) (y % (x % y)) h7
      omega
theorem abs_int {i : Int} : (if i < 0 then -i else i) = (i.natAbs : Int) := by split <;> omega
theorem gcd_app {a b : Int} (hb : b.natAbs < 2 ^ 1000) : (runDef 2 bGcd).app [.int a, .int b] = .ok (.int ((Nat.gcd a.natAbs b.natAbs : Nat) : Int)) := by
  refine app_of ?_
  unfold bGcd
  refine wp_step (I := fun ρ => ρ = [.val (.int (a.natAbs : Int)), .val (.int b)]) (by simp (implicitDefEqProofs := false); exact abs_int) ?_
  intro ρ e
  subst e
  refine wp_step (I := fun ρ => ρ = [.val (.int (a.natAbs : Int)), .val (.int (b.natAbs : Int))]) (by simp (implicitDefEqProofs := false); exact abs_int) ?_
  intro ρ e
  subst e
  refine wp_step (I := fun ρ => ρ = [.val (.int ((Nat.gcd a.natAbs b.natAbs : Nat) : Int)), .un]) ?_ ?_
  · rw [wp_mKill]
    have hm := gst_le 1000 a.natAbs b.natAbs hb
    refine wp_while (I := fun m ρ => ∃ x y : Nat, ρ = [.val (.int (x : Int)), .val (.int (y : Int))] ∧ m = gst x y ∧ Nat.gcd x y = Nat.gcd a.natAbs b.natAbs) (gst a.natAbs b.natAbs) (by unfold FUEL; omega) ⟨_, _, rfl, rfl, rfl⟩ ?_
    intro n ρ hh
    obtain ⟨x, y, e, hn, hg⟩ := hh
    subst e
    by_cases c : y = 0
    · subst c
      simp (implicitDefEqProofs := false)
      rw [Nat.gcd_zero_right] at hg
      rw [hg]
    · have c2 : ¬ (y : Int) = 0 := by omega
      simp (implicitDefEqProofs := false) [c2]
      refine ⟨fun h => absurd h c, fun _ => ⟨c, gst y (x % y), ?_, y, x % y, ⟨rfl, ?_⟩, rfl, ?_⟩⟩
      · rw [hn]
        conv => rhs; unfold gst
        rw [dif_neg c]
        omega
      · rw [Int.fmod_eq_emod_of_nonneg _ (by omega)]
        simp
      · rw [← hg, Nat.gcd_comm x y, Nat.gcd_rec y x]
        exact Nat.gcd_comm _ _
  intro ρ e
  subst e
  simp (implicitDefEqProofs := false)
theorem divOk_pos {j : Int} (h : 0 < j ∧ j < 2 ^ 1000) : divOk j = true := by
  unfold divOk
  have h1 : j.natAbs < 2 ^ 1000 := by omega
  have h2 : j.natAbs.log2 < 9000 := Nat.lt_of_lt_of_le ((Nat.log2_lt (by omega)).mpr h1) (by decide)
  rw [decide_eq_true (p := 0 < j ∧ j.natAbs.log2 < 9000) ⟨h.1, h2⟩, Bool.or_true]
theorem mulOk_big {i j : Int} (h : i.natAbs < 2 ^ 1000) (k : j.natAbs < 2 ^ 1000) : mulOk i j = true := by
  unfold mulOk
  have lg : ∀ n : Nat, n < 2 ^ 1000 → n.log2 ≤ 1000 := fun n hn => by
    by_cases c : n = 0
    · subst c; decide
    · exact Nat.le_of_lt ((Nat.log2_lt c).mpr hn)
  have := lg _ h
  have := lg _ k
  rw [decide_eq_true (p := i.natAbs.log2 + j.natAbs.log2 < 1000000) (by omega), Bool.or_true]
/-! ## fractions in least terms -/
def frN (a b : Nat) : Nat × Nat := (a / Nat.gcd a b, b / Nat.gcd a b)
def frD (a b : Nat) : D := .tup [.int ((frN a b).1 : Nat), .int ((frN a b).2 : Nat)]
theorem frN_mul {g a b : Nat} (hg : 0 < g) : frN (g * a) (g * b) = frN a b := by
  unfold frN
  rw [Nat.gcd_mul_left, Nat.mul_div_mul_left _ _ hg, Nat.mul_div_mul_left _ _ hg]
theorem frN_eq (a b : Nat) : a = Nat.gcd a b * (frN a b).1 ∧ b = Nat.gcd a b * (frN a b).2 :=
  ⟨(Nat.mul_div_cancel' (Nat.gcd_dvd_left a b)).symm, (Nat.mul_div_cancel' (Nat.gcd_dvd_right a b)).symm⟩
theorem frN_pos {a b : Nat} (hb : 0 < b) : 0 < (frN a b).2 := Nat.div_pos (Nat.le_of_dvd hb (Nat.gcd_dvd_right a b)) (Nat.gcd_pos_of_pos_right _ hb)
theorem frN_le {a b : Nat} : (frN a b).1 ≤ a ∧ (frN a b).2 ≤ b := ⟨Nat.div_le_self _ _, Nat.div_le_self _ _⟩
/-- a fraction's upper number times m: the same as m times the fraction -/
theorem frN_scale {m a b : Nat} (hb : 0 < b) : frN (m * a) b = frN (m * (frN a b).1) (frN a b).2 := by
  have hg : 0 < Nat.gcd a b := Nat.gcd_pos_of_pos_right _ hb
  have h := frN_eq a b
  have h1 : m * a = Nat.gcd a b * (m * (frN a b).1) := by
    conv => lhs; rw [h.1]
    exact Nat.mul_left_comm _ _ _
  have h2 : frN (m * a) b = frN (Nat.gcd a b * (m * (frN a b).1)) (Nat.gcd a b * (frN a b).2) := by
    rw [← h1]
    congr 1
    exact h.2
  rw [h2, frN_mul hg]
theorem fdiv_nat (a b : Nat) : (a : Int).fdiv (b : Int) = ((a / b : Nat) : Int) := by
  rw [Int.fdiv_eq_ediv_of_nonneg _ (by omega)]
  simp
def bFrac : M Fl := (mSeq (mSet 2 (mCallB opGcd (mCons (oVar 0) (mCons (oVar 1) mNil))))
  (mSeq (mIf (asB (mBin opLt (oVar 1) (M.map OV.now (mLit (.int 0))))) (mSet 2 (mUn opNeg (oVar 2))) mSkip)
  (mRet (mTup (mCons (M.map Prod.fst (mBin opFdiv (oVar 0) (oVar 2))) (mCons (M.map Prod.fst (mBin opFdiv (oVar 1) (oVar 2))) mNil))))))
def bLFrac : M Fl := (mSeq (mSet 2 (M.map (fun d => (d, false)) (mCall 2 (runDef 2 bGcd) (mCons (M.map OV.now (eVar 0)) (mCons (M.map OV.now (eVar 1)) mNil)))))
  (mSeq (mIf (asB (mBin opLt (oVar 1) (M.map OV.now (mLit (.int 0))))) (mSet 2 (mUn opNeg (oVar 2))) mSkip)
  (mRet (mTup (mCons (M.map Prod.fst (mBin opFdiv (oVar 0) (oVar 2))) (mCons (M.map Prod.fst (mBin opFdiv (oVar 1) (oVar 2))) mNil))))))
theorem frac_app {a b : Nat} (hb : 0 < b) (hb2 : b < 2 ^ 1000) : (runDef 3 bFrac).app [.int a, .int b] = .ok (frD a b) := by
  have hg : 0 < Nat.gcd a b := Nat.gcd_pos_of_pos_right _ hb
  have hg2 : Nat.gcd a b ≤ b := Nat.le_of_dvd hb (Nat.gcd_dvd_right a b)
  have dv : divOk ((Nat.gcd a b : Nat) : Int) = true := divOk_pos (by omega)
  have nb : ¬ (b : Int) < 0 := by omega
  refine app_of ?_
  unfold bFrac
  simp (implicitDefEqProofs := false) [dv, nb]
  rw [fdiv_nat, fdiv_nat]
  rfl
theorem lfrac_app {a b : Nat} (hb : 0 < b) (hb2 : b < 2 ^ 1000) : (runDef 3 bLFrac).app [.int a, .int b] = .ok (frD a b) := by
  have hg : 0 < Nat.gcd a b := Nat.gcd_pos_of_pos_right _ hb
  have hg2 : Nat.gcd a b ≤ b := Nat.le_of_dvd hb (Nat.gcd_dvd_right a b)
  have dv : divOk ((Nat.gcd a b : Nat) : Int) = true := divOk_pos (by omega)
  have nb : ¬ (b : Int) < 0 := by omega
  have gc := gcd_app (a := a) (b := b) (by omega)
  refine app_of ?_
  unfold bLFrac
  simp (implicitDefEqProofs := false) [gc, dv, nb]
  rw [fdiv_nat, fdiv_nat]
  rfl
/-! ## rounding up -/
def up1 (n d : Nat) : Nat := (n + d - 1) / d
theorem up1_iff {n d : Nat} (hd : 0 < d) {c : Int} : c = (up1 n d : Nat) ↔ ((d : Int) * (c - 1) < n ∧ (n : Int) ≤ d * c) := by
  have k : (d : Int) * ((up1 n d : Nat) - 1) < n ∧ (n : Int) ≤ d * (up1 n d : Nat) := by
    have h1 := Nat.div_add_mod (n + d - 1) d
    have h2 := Nat.mod_lt (n + d - 1) hd
    unfold up1
    have h3 : (d : Int) * (((n + d - 1) / d : Nat) - 1) = d * ((n + d - 1) / d : Nat) - d := by rw [Int.mul_sub, Int.mul_one]
    have h4 : (d : Int) * (((n + d - 1) / d : Nat) : Int) = ((d * ((n + d - 1) / d) : Nat) : Int) := by simp
    rw [h3, h4]
    omega
  have hd' : (0 : Int) < d := by omega
  constructor
  · intro e
    rw [e]
    exact k
  · intro h
    have a1 : (d : Int) * (c - 1) < d * (up1 n d : Nat) := Int.lt_of_lt_of_le h.1 k.2
    have a2 : (d : Int) * ((up1 n d : Nat) - 1) < d * c := Int.lt_of_lt_of_le k.1 h.2
    have b1 := Int.lt_of_mul_lt_mul_left a1 (Int.le_of_lt hd')
    have b2 := Int.lt_of_mul_lt_mul_left a2 (Int.le_of_lt hd')
    omega
theorem neg_fdiv {n d : Nat} (hd : 0 < d) : -((-(n : Int)).fdiv (d : Int)) = (up1 n d : Nat) := by
  rw [up1_iff hd, Int.fdiv_eq_ediv_of_nonneg _ (by omega)]
  have h1 := Int.emod_add_mul_ediv (-(n : Int)) d
  have h2 := Int.emod_nonneg (-(n : Int)) (show (d : Int) ≠ 0 by omega)
  have h3 := Int.emod_lt_of_pos (-(n : Int)) (show (0 : Int) < d by omega)
  have e1 : (d : Int) * (-((-(n : Int)) / d) - 1) = -(d * ((-(n : Int)) / d)) - d := by rw [Int.mul_sub, Int.mul_neg, Int.mul_one]
  have e2 : (d : Int) * (-((-(n : Int)) / d)) = -(d * ((-(n : Int)) / d)) := by rw [Int.mul_neg]
  rw [e1, e2]
  omega
theorem up1_frN {n d : Nat} (hd : 0 < d) : up1 (frN n d).1 (frN n d).2 = up1 n d := by
  have hg : 0 < Nat.gcd n d := Nat.gcd_pos_of_pos_right _ hd
  have h := frN_eq n d
  generalize Nat.gcd n d = g at *
  have hv := frN_pos (a := n) hd
  generalize (frN n d).1 = u at *
  generalize (frN n d).2 = v at *
  have k := (up1_iff hv).mp (rfl : ((up1 u v : Nat) : Int) = _)
  have hd2 := (up1_iff (n := n) hd (c := ((up1 u v : Nat) : Int))).mpr
  have hg' : (0 : Int) < g := by omega
  have r := hd2 ⟨by
    rw [h.1, h.2]
    have := Int.mul_lt_mul_of_pos_left k.1 hg'
    simpa [Int.mul_assoc] using this, by
    rw [h.1, h.2]
    have := Int.mul_le_mul_of_nonneg_left k.2 (Int.le_of_lt hg')
    simpa [Int.mul_assoc] using this⟩
  omega
end DL

namespace DL
open PySem PySem.Spec PyProof.Rows L2
/-! ## draws as natural numbers -/
theorem wp_takeN {ρ : Env} {E : EQ} {i : Nat} {s : Sl} {ds : List Int} {m : Int} {Q : D → Env → Prop} (hs : ρ[i]? = some s) (ho : s.obj = some (deckD ds)) (hm : 0 < m)
    (h : ∀ (x : Nat) ds', (x : Int) < m → Q (.int x) (ρ.set i (s.upd (deckD ds')))) : wp (callOn 2 fTake [.late i, .now (.int m)]) ρ Q E :=
  wp_take hs ho hm fun x ds' h1 h2 => by
    obtain ⟨n, rfl⟩ : ∃ n : Nat, x = n := ⟨x.toNat, by omega⟩
    exact h n ds' h2
theorem wp_ifN {α : Type} {ρ ρ1 : Env} {E : EQ} {c : M Bool} {f g : M α} {Q : α → Env → Prop} {b : Bool} (hc : wp c ρ (fun x ρ' => x = b ∧ ρ' = ρ1) E) (h1 : b = true → wp f ρ1 Q E) (h2 : b = false → wp g ρ1 Q E) : wp (mIf c f g) ρ Q E := by
  rw [wp_mIf]
  refine wp_mono hc (fun x ρ' h => ?_) fun _ _ _ h => h
  obtain ⟨e1, e2⟩ := h
  subst e1
  subst e2
  cases x
  · exact h2 rfl
  · exact h1 rfl
/-- plain forms of one datum -/
theorem plain_ne {n : Nat} {d : D} {P : D × Bool → Prop} (h : Dat n d) (hn : n < 64) : opt (opNe (plainD d) (plainD d)) P = P (.bl false, false) := ne_self (plain_dat h) (by omega)
theorem pOk_ints {n : Nat} {l : List Int} (h : l.length ≤ 1000) : pOk (n + 2) (intsD l) := by
  refine ⟨by rw [List.length_map]; omega, fun x hx => ?_⟩
  obtain ⟨i, _, rfl⟩ := List.mem_map.mp hx
  trivial
theorem pOk_lst {n : Nat} {xs : List D} (h : xs.length ≤ 1000) (k : ∀ x ∈ xs, pOk n x) : pOk (n + 1) (.lst xs) := ⟨by omega, k⟩
theorem pOk_tup {n : Nat} {xs : List D} (h : xs.length ≤ 1000) (k : ∀ x ∈ xs, pOk n x) : pOk (n + 1) (.tup xs) := ⟨by omega, k⟩
theorem fr_pok {n a b : Nat} : pOk (n + 2) (frD a b) := pOk_tup (by simp) fun x hx => by
  simp only [List.mem_cons, List.not_mem_nil, or_false] at hx
  rcases hx with e | e <;> subst e <;> trivial
theorem fr_dat {n a b : Nat} : Dat (n + 1) (frD a b) := fun x hx => by
  simp only [List.mem_cons, List.not_mem_nil, or_false] at hx
  rcases hx with e | e <;> subst e <;> cases n <;> trivial
end DL

namespace DL
open PySem PySem.Spec PyProof.Rows L2
/-! ## sorted(xs) of pairs of ints -/
def prD (p : Int × Int) : D := .tup [.int p.1, .int p.2]
def D.pr? : D → Option (Int × Int)
  | .tup [.int a, .int b] => some (a, b)
  | _ => none
def D.prs? : List D → Option (List (Int × Int))
  | [] => some []
  | d :: r => match D.pr? d, D.prs? r with
    | some p, some ps => some (p :: ps)
    | _, _ => none
theorem prs_map : ∀ ps : List (Int × Int), D.prs? (ps.map prD) = some ps
  | [] => rfl
  | p :: ps => by
    rw [List.map_cons]
    simp only [D.prs?, prs_map ps]
    rfl
theorem pr_some {d : D} {p : Int × Int} (h : D.pr? d = some p) : d = prD p := by
  unfold D.pr? at h
  split at h
  · cases h; rfl
  · cases h
theorem prs_some : ∀ {xs : List D} {ps : List (Int × Int)}, D.prs? xs = some ps → xs = ps.map prD
  | [], ps, h => by
    cases h
    rfl
  | d :: r, ps, h => by
    simp only [D.prs?] at h
    cases e1 : D.pr? d with
    | none => rw [e1] at h; cases h
    | some p =>
      cases e2 : D.prs? r with
      | none => rw [e1, e2] at h; cases h
      | some qs =>
        rw [e1, e2] at h
        cases h
        rw [List.map_cons, ← pr_some e1, ← prs_some e2]
def insP (p : Int × Int) : List (Int × Int) → List (Int × Int)
  | [] => [p]
  | q :: r => if SrtO.lexB q p = true then q :: insP p r else p :: q :: r
def sortP (ps : List (Int × Int)) : List (Int × Int) := ps.foldr insP []
abbrev SrtP (l : List (Int × Int)) : Prop := l.Pairwise fun x y => SrtO.lexB y x = false
theorem insP_perm (p : Int × Int) : ∀ l : List (Int × Int), (insP p l).Perm (p :: l)
  | [] => List.Perm.refl _
  | q :: r => by
    unfold insP
    by_cases h : SrtO.lexB q p = true
    · rw [if_pos h]
      exact ((insP_perm p r).cons q).trans (List.Perm.swap ..)
    · rw [if_neg h]
theorem sortP_perm : ∀ ps : List (Int × Int), (sortP ps).Perm ps
  | [] => List.Perm.refl _
  | p :: ps => (insP_perm p _).trans ((sortP_perm ps).cons p)
theorem insP_srt {p : Int × Int} : ∀ {l : List (Int × Int)}, SrtP l → SrtP (insP p l)
  | [], _ => List.pairwise_singleton _ _
  | q :: r, h => by
    obtain ⟨h1, h2⟩ := List.pairwise_cons.mp h
    unfold insP
    by_cases c : SrtO.lexB q p = true
    · rw [if_pos c]
      refine List.pairwise_cons.mpr ⟨fun y hy => ?_, insP_srt h2⟩
      rcases List.mem_cons.mp ((insP_perm p r).mem_iff.mp hy) with e | e
      · subst e
        have := SrtO.lexB_iff.mp c
        exact SrtO.lexB_no.mpr (by omega)
      · exact h1 y e
    · rw [if_neg c]
      have c' : SrtO.lexB q p = false := by simpa using c
      refine List.pairwise_cons.mpr ⟨fun y hy => ?_, h⟩
      rcases List.mem_cons.mp hy with e | e
      · subst e; exact c'
      · have a := SrtO.lexB_no.mp (h1 y e)
        have b := SrtO.lexB_no.mp c'
        exact SrtO.lexB_no.mpr (by omega)
theorem sortP_srt : ∀ ps : List (Int × Int), SrtP (sortP ps)
  | [] => List.Pairwise.nil
  | p :: ps => insP_srt (sortP_srt ps)
theorem srtP_uniq {l m : List (Int × Int)} (p : l.Perm m) (hl : SrtP l) (hm : SrtP m) : l = m :=
  p.eq_of_pairwise (fun a b _ _ h1 h2 => by
    have q1 := SrtO.lexB_no.mp h1
    have q2 := SrtO.lexB_no.mp h2
    exact Prod.ext (by omega) (by omega)) hl hm
def opSortG : OpN := fun ds => match ds with
  | [.lst xs] => match D.ints? xs with
    | some ns => some (.lst ((sortI ns).map D.int), true)
    | none => match D.prs? xs with
      | some ps => some (.lst ((sortP ps).map prD), true)
      | none => none
  | _ => none
/-- a pair of ints at a place -/
def PrAt (K : PySem.W.Frag) (H : Hp) (v : V) (p : Int × Int) : Prop := ∃ t, v = .ref t ∧ SqT K H t [.int p.1, .int p.2]
section
variable {X : Cx}
def rSortPr (K : PySem.W.Frag) : List V → Hp → VK → Prop := fun vs H Q => ∃ (a : Addr) (xs : List V) (k : V → Int × Int), vs = [V.ref a] ∧ SqL K H a xs ∧ (∀ x ∈ xs, PrAt K H x (k x)) ∧
  ∀ ys p, ys.Perm xs → SrtP (ys.map k) → H p = none → Q (.ref p) (upd H p (.lst ys))
theorem cr_sortPr : CallR X (.builtin "sorted") (rSortPr X.K) := by
  intro pins s σ H vs us Q I r h
  obtain ⟨a, xs, k, rfl, hs, hx, q⟩ := h
  obtain ⟨its, rv, hl, hz⟩ := I.list hs
  obtain ⟨u, rfl, ru⟩ := vals1 r
  cases (show u = Value.ref a from ru)
  obtain ⟨e1, e2⟩ := refs_back rv fun x m => by
    obtain ⟨t, e, _⟩ := hx x m
    exact ⟨t, e⟩
  refine SrtO.sorted_pairsO (k := fun u => k (backV u)) hl.isList (by rw [← rv.length]; exact hz) ?_ ?_
  · intro v hv
    obtain ⟨t, e⟩ := e2 v hv
    subst e
    have hm : V.ref t ∈ xs := by
      rw [e1]
      exact List.mem_map.mpr ⟨_, hv, rfl⟩
    obtain ⟨t', e, ht⟩ := hx _ hm
    cases e
    obtain ⟨its2, r2, ⟨o, ho, hc, n, hd⟩, _⟩ := I.tuple ht
    obtain ⟨u1, u2, e, ri, rj⟩ := vals2 r2
    subst e
    obtain ⟨t1, e⟩ := ri
    subst e
    obtain ⟨t2, e⟩ := rj
    subst e
    exact ⟨t, o, t1, t2, n, rfl, ho, hc, hd⟩
  · intro h1 d out srt stb kp hd hn
    obtain ⟨n, hn⟩ := hn
    have h3 : ∀ u ∈ out, ∃ b, u = Value.ref b := fun u hu => e2 u (stb.perm.mem_iff.mp hu)
    have hp : (out.map backV).Perm xs := by
      rw [e1]
      exact stb.perm.map backV
    have hs : SrtP ((out.map backV).map k) := by
      rw [List.map_map]
      exact List.pairwise_map.mpr srt
    refine ⟨.ref d, upd H d (.lst (out.map backV)), I.laid (t' := s.toks) kp hd ⟨?_, out, n, vals_back h3, hn⟩, rfl, q _ d hp hs (I.hok.fresh hd)⟩
    rw [hp.length_eq]
    exact hz
theorem prs_rep {H F : Hp} (sub : Same F H) : ∀ {ps : List (Int × Int)} {ws : List V}, RepL X.K X.mg F (ps.map prD) ws → ws.length = ps.length ∧ ∀ (i : Nat) (w : V) (p : Int × Int), ws[i]? = some w → ps[i]? = some p → PrAt X.K H w p ∧ Rep X.K X.mg F (prD p) w
  | [], ws, h => by
    simp only [List.map_nil, RepL] at h
    subst h
    exact ⟨rfl, fun i w p e => by simp at e⟩
  | p :: ps, ws, h => by
    rw [List.map_cons] at h
    simp only [RepL] at h
    obtain ⟨v, r, rfl, h1, h2⟩ := h
    obtain ⟨l, k⟩ := prs_rep sub h2
    refine ⟨by simp [l], fun i w q e1 e2 => ?_⟩
    cases i with
    | zero =>
      cases e1
      cases e2
      refine ⟨?_, h1⟩
      have h1 : Rep X.K X.mg F (.tup [.int p.1, .int p.2]) v := h1
      simp only [Rep] at h1
      obtain ⟨t, vs, rfl, q1, q2⟩ := h1
      simp only [RepL, Rep] at q2
      obtain ⟨x, r1, rfl, rfl, y, r2, rfl, rfl, rfl⟩ := q2
      exact ⟨t, rfl, same_SqT sub q1⟩
    | succ j => exact k j w q (by simpa using e1) (by simpa using e2)
theorem repL_keys {F : Hp} {k : V → Int × Int} : ∀ {ys : List V}, (∀ y ∈ ys, Rep X.K X.mg F (prD (k y)) y) → RepL X.K X.mg F ((ys.map k).map prD) ys
  | [], _ => RepL.nil
  | y :: ys, h => RepL.cons (h y List.mem_cons_self) (repL_keys fun z hz => h z (List.mem_cons_of_mem _ hz))
theorem od_sortG : CallR X (.builtin "sorted") (rDN X opSortG) := by
  intro pins s σ H vs us Q I r hh
  obtain ⟨F, ds, d, nw, sub, hd, e, a⟩ := hh
  match ds, e, hd with
  | [.lst xs], e, hd =>
    unfold opSortG at e
    cases e1 : D.ints? xs with
    | some ns =>
      simp only [e1] at e
      exact od_sorted pins s σ H vs us Q I r ⟨F, [.lst xs], d, nw, sub, hd, by
        show (D.ints? xs).map _ = _
        rw [e1]
        exact e, a⟩
    | none =>
      simp only [e1] at e
      cases e2 : D.prs? xs with
      | none => simp only [e2] at e; cases e
      | some ps =>
        simp only [e2] at e
        cases e
        obtain ⟨v, rfl, h⟩ := reps1 hd
        obtain ⟨b, ws, rfl, h1, h2⟩ := h.lst sub
        rw [prs_some e2] at h2
        obtain ⟨hl, hat⟩ := prs_rep sub h2
        classical
        let k : V → Int × Int := fun w => if h : ∃ p, PrAt X.K H w p then h.choose else (0, 0)
        have hk : ∀ w p, PrAt X.K H w p → k w = p := fun w p hw => by
          have hx : ∃ p, PrAt X.K H w p := ⟨p, hw⟩
          have e : k w = hx.choose := dif_pos hx
          rw [e]
          obtain ⟨t, rfl, q1⟩ := hx.choose_spec
          obtain ⟨t', e3, q2⟩ := hw
          cases e3
          have q3 := I.tuple_inj q1 q2
          simp only [List.cons.injEq, V.int.injEq, and_true] at q3
          exact Prod.ext q3.1 q3.2
        have hm : ∀ w ∈ ws, PrAt X.K H w (k w) ∧ Rep X.K X.mg F (prD (k w)) w := fun w hw => by
          obtain ⟨i, hi, e3⟩ := List.getElem_of_mem hw
          have hi2 : i < ps.length := by rw [← hl]; exact hi
          obtain ⟨q1, q2⟩ := hat i w ps[i] (by rw [List.getElem?_eq_getElem hi, e3]) (List.getElem?_eq_getElem hi2)
          rw [hk w _ q1]
          exact ⟨q1, q2⟩
        have hks : ws.map k = ps := by
          apply List.ext_getElem
          · rw [List.length_map, hl]
          · intro i h3 h4
            rw [List.getElem_map]
            have hi : i < ws.length := by simpa using h3
            exact hk _ _ (hat i ws[i] ps[i] (List.getElem?_eq_getElem hi) (List.getElem?_eq_getElem h4)).1
        refine cr_sortPr pins s σ H _ us Q I r ⟨b, ws, k, rfl, SqL.of h1, fun x hx => (hm x hx).1, fun ys p hp hs hn => ?_⟩
        have e4 : ys.map k = sortP ps := srtP_uniq ((hp.map k).trans (by rw [hks]; exact (sortP_perm ps).symm)) hs (sortP_srt ps)
        refine a p _ hn ⟨_, rfl, ?_⟩
        rw [← e4]
        exact repL_keys fun y hy => (hm y (hp.mem_iff.mp hy)).2
end
theorem opSortG_ints {xs : List Int} {P : D × Bool → Prop} : opt (opSortG [intsD xs]) P = P (intsD (sortI xs), true) := by
  unfold opSortG intsD
  simp only [ints?_map]
  rfl
theorem opSortG_prs {ps : List (Int × Int)} {P : D × Bool → Prop} : opt (opSortG [.lst (ps.map prD)]) P = P (.lst ((sortP ps).map prD), true) := by
  unfold opSortG
  cases ps with
  | nil =>
    have h : sortI [] = [] := List.perm_nil.mp (sortI_perm [])
    show P (.lst ((sortI []).map D.int), true) = P (.lst [], true)
    rw [h]
    rfl
  | cons p ps =>
    have h : D.ints? ((p :: ps).map prD) = none := rfl
    simp only [h, prs_map]
    rfl
end DL

namespace DL
open PySem PySem.Spec PyProof.Rows L2
/-! ## xs[i] op= e, ints -/
def augGet (k : Nat) (i : Int) : M Int := fun ρ => match ρ[k]? with
  | some s => match s.obj with
    | some (.lst xs) => if 0 ≤ i ∧ i < 9223372036854775808 then match xs[i.toNat]? with
      | some (.int a) => .ok a ρ
      | _ => .bad
      else .bad
    | _ => .bad
  | none => .bad
def augPut (k : Nat) (i : Int) (d : D) : M Fl := fun ρ => match ρ[k]? with
  | some s => match s.obj with
    | some (.lst xs) => match ixN xs.length i with
      | some j => .ok .next (ρ.set k (s.upd (.lst (xs.set j d))))
      | none => .bad
    | _ => .bad
  | none => .bad
def augAt (k : Nat) (g : Int → Int → Int) (val : M D) (i : Int) : M Fl := (augGet k i).bind fun a => val.bind fun d => match d with
  | .int b => augPut k i (.int (g a b))
  | _ => fun _ => .bad
def mAugS (k : Nat) (g : Int → Int → Int) (idx : M OV) (val : M D) : M Fl := fun ρ => match ρ[k]?.bind Sl.obj with
  | none => .bad
  | some _ => (idx.bind fun o => fun ρ1 => match o.get ρ1 with
    | some (.int i) => augAt k g val i ρ1
    | _ => .bad) ρ
section
variable {X : Cx} {B : Bd} {W : WX}
def rGetL (K : PySem.W.Frag) : V → V → Hp → VK → Prop := fun o i H Q => ∃ (p : Addr) (xs : List V) (j : Int) (v : V), o = .ref p ∧ i = .int j ∧ (0 ≤ j ∧ j < 9223372036854775808) ∧ SqL K H p xs ∧ xs[j.toNat]? = some v ∧ Q v H
theorem get_listG : PGet X (rGetL X.K) := by
  intro pins s σ H o i ov iv Q I ro ri h
  obtain ⟨p, xs, j, v, rfl, rfl, h0, hq, he, q⟩ := h
  cases ro
  obtain ⟨t, rfl⟩ := ri
  obtain ⟨its, r, pl, hz⟩ := I.list hq
  obtain ⟨w, ew, rw'⟩ := r.get he
  exact wpAny_getItem_list pl.isList h0.1 (by have := h0.2; omega) (by simpa using ew) ⟨v, H, I, rw', q⟩
theorem ss_augS {k : Nat} {g : Int → Int → Int} {op : Operator} {o i e : Expr} {fi : M OV} {fe : M D} {tpos pos : Pos} (ho : PE X o (tVar k)) (hi : SO X B W i fi) (he : SE X B W e fe) (hp : PIp X op (ipI g))
    (ha : ∀ ov iv new, augStore i ov iv new = (do holding [new, ov, iv] (setItem ov iv new); release [new, ov, iv] []; pure .next)) : SS X B W (.AugAssign (.Subscript o i tpos) op e pos) (mAugS k g fi fe) :=
  ps_mono (ps_augS ho hi get_listG he hp set_list ha) fun D σ H hh => by
    obtain ⟨F, ρ, S, p⟩ := hh
    unfold mAugS at p
    cases e1 : ρ[k]?.bind Sl.obj with
    | none => simp only [e1] at p; exact p.elim
    | some d0 =>
      simp only [e1] at p
      obtain ⟨s, q1, q2⟩ := bind_obj e1
      obtain ⟨a, h1, h2, h3, h4, h5⟩ := S.mine_at q1 q2
      refine ⟨.ref a, h1, At.goS S p fun w H1 F1 ρ1 ow s1 S1 r1 p1 => ?_⟩
      cases e2 : ow.get ρ1 with
      | none => simp only [e2] at p1; exact p1.elim
      | some di =>
        simp only [e2] at p1
        cases di with
        | int i' =>
          have p1 : PostS X B W F1 D (augAt k g fe i' ρ1) := p1
          unfold augAt M.bind augGet at p1
          cases e3 : ρ1[k]? with
          | none => simp only [e3] at p1; exact p1.elim
          | some s3 =>
            simp only [e3] at p1
            cases e4 : s3.obj with
            | none => simp only [e4] at p1; exact p1.elim
            | some d3 =>
              simp only [e4] at p1
              cases d3 with
              | lst xs =>
                by_cases c : 0 ≤ i' ∧ i' < 9223372036854775808
                · simp only [if_pos c] at p1
                  cases e5 : xs[i'.toNat]? with
                  | none => simp only [e5] at p1; exact p1.elim
                  | some d5 =>
                    simp only [e5] at p1
                    cases d5 with
                    | int a0 =>
                      obtain ⟨a', k1, k2, ⟨vs, k3, k3'⟩, k4, k5⟩ := S1.mine_at e3 e4
                      rw [h1] at k1
                      cases k1
                      obtain ⟨v0, e6, r6⟩ := k3'.get e5
                      simp only [Rep] at r6
                      subst r6
                      refine ⟨a, vs, i', .int a0, rfl, (r1.read S1 e2).int, c, SqL.of k3, e6, ?_⟩
                      have p1 : PostS X B W F1 D ((fe.bind fun d => match d with
                        | .int b => augPut k i' (.int (g a0 b))
                        | _ => fun _ => .bad) ρ1) := p1
                      refine At.goS S1 p1 fun y H4 F4 ρ4 d s4 S4 r4 p4 => ?_
                      cases d with
                      | int b =>
                        have r4 : Rep X.K X.mg F4 (.int b) y := r4
                        simp only [Rep] at r4
                        subst r4
                        refine ⟨a0, b, rfl, rfl, ?_⟩
                        have p4 : PostS X B W F4 D (augPut k i' (.int (g a0 b)) ρ4) := p4
                        unfold augPut at p4
                        cases e7 : ρ4[k]? with
                        | none => simp only [e7] at p4; exact p4.elim
                        | some s7 =>
                          simp only [e7] at p4
                          cases e8 : s7.obj with
                          | none => simp only [e8] at p4; exact p4.elim
                          | some d8 =>
                            simp only [e8] at p4
                            cases d8 with
                            | lst ys =>
                              simp only at p4
                              cases e9 : ixN ys.length i' with
                              | none => simp only [e9] at p4; exact p4.elim
                              | some j =>
                                simp only [e9] at p4
                                obtain ⟨a2, m1, m2, ⟨us, m3, m3'⟩, m4, m5⟩ := S4.mine_at e7 e8
                                rw [h1] at m1
                                cases m1
                                refine ⟨a, us, i', j, rfl, (r1.read S1 e2).int, m3, by rw [← m3'.length]; exact e9, ?_⟩
                                exact p4 _ _ F4 (S4.change e7 e8 h1 ⟨_, rfl, RepL.set j m3' (by simp only [Rep])⟩) (Same.refl _)
                            | _ => exact p4.elim
                      | _ => exact p4.elim
                    | _ => exact p1.elim
                · simp only [if_neg c] at p1
                  exact p1.elim
              | _ => exact p1.elim
        | _ => exact p1.elim
end
section
variable {ρ : Env} {E : EQ}
@[simp, simp ↓] theorem wp_augGet {k : Nat} {i : Int} {Q : Int → Env → Prop} : wp (augGet k i) ρ Q E = atE ρ k fun s => opt (lstOf s) fun xs => (0 ≤ i ∧ i < 9223372036854775808) ∧ opt xs[i.toNat]? fun d => match d with
    | .int a => Q a ρ
    | _ => False := by
  unfold wp augGet atE
  cases ρ[k]? with
  | none => rfl
  | some s =>
    cases s with
    | un => rfl
    | val d => rfl
    | own d0 =>
      cases d0 with
      | lst xs =>
        by_cases c : 0 ≤ i ∧ i < 9223372036854775808
        · cases e : xs[i.toNat]? with
          | none =>
            refine propext ⟨fun h => ?_, fun h => ?_⟩
            · simp only [Sl.obj, if_pos c, e] at h
            · have h := h.2
              rw [e] at h
              exact h.elim
          | some d =>
            refine propext ⟨fun h => ⟨c, ?_⟩, fun h => ?_⟩
            · rw [e]
              simp only [Sl.obj, if_pos c, e] at h
              cases d <;> exact h
            · have h := h.2
              rw [e] at h
              simp only [Sl.obj, if_pos c, e]
              cases d <;> exact h
        · refine propext ⟨fun h => ?_, fun h => absurd h.1 c⟩
          simp only [Sl.obj, if_neg c] at h
      | _ => rfl
    | io d0 =>
      cases d0 with
      | lst xs =>
        by_cases c : 0 ≤ i ∧ i < 9223372036854775808
        · cases e : xs[i.toNat]? with
          | none =>
            refine propext ⟨fun h => ?_, fun h => ?_⟩
            · simp only [Sl.obj, if_pos c, e] at h
            · have h := h.2
              rw [e] at h
              exact h.elim
          | some d =>
            refine propext ⟨fun h => ⟨c, ?_⟩, fun h => ?_⟩
            · rw [e]
              simp only [Sl.obj, if_pos c, e] at h
              cases d <;> exact h
            · have h := h.2
              rw [e] at h
              simp only [Sl.obj, if_pos c, e]
              cases d <;> exact h
        · refine propext ⟨fun h => ?_, fun h => absurd h.1 c⟩
          simp only [Sl.obj, if_neg c] at h
      | _ => rfl
@[simp, simp ↓] theorem wp_augPut {k : Nat} {i : Int} {d : D} {Q : Fl → Env → Prop} : wp (augPut k i d) ρ Q E = atE ρ k fun s => opt (lstOf s) fun xs => opt (ixN xs.length i) fun j => Q .next (ρ.set k (s.upd (.lst (xs.set j d)))) := by
  unfold wp augPut atE
  cases ρ[k]? with
  | none => rfl
  | some s =>
    cases s with
    | un => rfl
    | val d => rfl
    | own d0 =>
      cases d0 with
      | lst xs =>
        cases e : ixN xs.length i with
        | none =>
          refine propext ⟨fun h => ?_, fun h => ?_⟩
          · simp only [Sl.obj, e] at h
          · have h : opt (ixN xs.length i) _ := h
            rw [e] at h
            exact h.elim
        | some j =>
          refine propext ⟨fun h => ?_, fun h => ?_⟩
          · show opt (ixN xs.length i) _
            rw [e]
            simp only [Sl.obj, e] at h
            exact h
          · have h : opt (ixN xs.length i) _ := h
            rw [e] at h
            simp only [Sl.obj, e]
            exact h
      | _ => rfl
    | io d0 =>
      cases d0 with
      | lst xs =>
        cases e : ixN xs.length i with
        | none =>
          refine propext ⟨fun h => ?_, fun h => ?_⟩
          · simp only [Sl.obj, e] at h
          · have h : opt (ixN xs.length i) _ := h
            rw [e] at h
            exact h.elim
        | some j =>
          refine propext ⟨fun h => ?_, fun h => ?_⟩
          · show opt (ixN xs.length i) _
            rw [e]
            simp only [Sl.obj, e] at h
            exact h
          · have h : opt (ixN xs.length i) _ := h
            rw [e] at h
            simp only [Sl.obj, e]
            exact h
      | _ => rfl
@[simp, simp ↓] theorem wp_augAt {k : Nat} {g : Int → Int → Int} {val : M D} {i : Int} {Q : Fl → Env → Prop} : wp (augAt k g val i) ρ Q E = wp (augGet k i) ρ (fun a ρ1 => wp val ρ1 (fun d ρ2 => match d with
    | .int b => wp (augPut k i (.int (g a b))) ρ2 Q E
    | _ => False) E) E := by
  unfold augAt
  rw [wp_bind]
  congr 1; funext a ρ1
  rw [wp_bind]
  congr 1; funext d ρ2
  cases d <;> first | rfl | (unfold wp; rfl)
@[simp, simp ↓] theorem wp_mAugS {k : Nat} {g : Int → Int → Int} {idx : M OV} {val : M D} {Q : Fl → Env → Prop} : wp (mAugS k g idx val) ρ Q E = atE ρ k fun s => opt s.obj fun _ => wp idx ρ (fun o ρ1 => opt (o.get ρ1) fun di => match di with
    | .int i => wp (augAt k g val i) ρ1 Q E
    | _ => False) E := by
  have h : ∀ m : M Fl, mAugS k g idx val ρ = m ρ → wp (mAugS k g idx val) ρ Q E = wp m ρ Q E := fun m e => wp_of e
  unfold atE
  cases e : ρ[k]? with
  | none =>
    rw [h (fun _ => .bad) (by unfold mAugS; rw [e]; rfl)]
    unfold wp
    rfl
  | some s =>
    cases e2 : s.obj with
    | none =>
      rw [h (fun _ => .bad) (by unfold mAugS; rw [e]; simp only [Option.bind_some, e2])]
      unfold wp
      simp only [e2]
      rfl
    | some d0 =>
      rw [h (idx.bind fun o => fun ρ1 => match o.get ρ1 with
        | some (.int i) => augAt k g val i ρ1
        | _ => .bad) (by unfold mAugS; rw [e]; simp only [Option.bind_some, e2])]
      rw [wp_bind]
      simp only [e2, opt_some]
      congr 1; funext o ρ1
      cases e3 : o.get ρ1 with
      | none =>
        refine Eq.trans (wp_of (m' := fun _ => .bad) (by simp only [e3])) ?_
        unfold wp
        rfl
      | some d =>
        cases d with
        | int i => exact wp_of (by simp only [e3])
        | _ =>
          refine Eq.trans (wp_of (m' := fun _ => .bad) (by simp only [e3])) ?_
          unfold wp
          rfl
end
end DL

namespace DL
open PySem PySem.Spec PyProof.Rows L2 PySem.SeqAt
/-! ## min of a list of tuples of ints -/
def tiD (l : List Int) : D := .tup (l.map D.int)
def D.it? : D → Option (List Int)
  | .tup xs => D.ints? xs
  | _ => none
def D.its? : List D → Option (List (List Int))
  | [] => some []
  | d :: r => match D.it? d, D.its? r with
    | some p, some ps => some (p :: ps)
    | _, _ => none
theorem ti_map (l : List Int) : D.it? (tiD l) = some l := ints?_map l
theorem tis_map : ∀ ps : List (List Int), D.its? (ps.map tiD) = some ps
  | [] => rfl
  | p :: ps => by
    rw [List.map_cons]
    simp only [D.its?, tis_map ps, ti_map]
theorem ints_back : ∀ {ds : List D} {ns : List Int}, D.ints? ds = some ns → ds = ns.map D.int
  | [], ns, h => by
    cases h
    rfl
  | d :: r, ns, h => by
    cases d with
    | int i =>
      simp only [D.ints?] at h
      cases e : D.ints? r with
      | none => rw [e] at h; cases h
      | some is =>
        rw [e] at h
        cases h
        rw [List.map_cons, ← ints_back e]
    | _ => cases h
theorem ti_some {d : D} {p : List Int} (h : D.it? d = some p) : d = tiD p := by
  cases d with
  | tup xs =>
    unfold tiD
    rw [ints_back (ds := xs) h]
  | _ => cases h
theorem tis_some : ∀ {xs : List D} {ps : List (List Int)}, D.its? xs = some ps → xs = ps.map tiD
  | [], ps, h => by
    cases h
    rfl
  | d :: r, ps, h => by
    simp only [D.its?] at h
    cases e1 : D.it? d with
    | none => rw [e1] at h; cases h
    | some p =>
      cases e2 : D.its? r with
      | none => rw [e1, e2] at h; cases h
      | some qs =>
        rw [e1, e2] at h
        cases h
        rw [List.map_cons, ← ti_some e1, ← tis_some e2]
def ltL : List Int → List Int → Bool
  | [], [] => false
  | [], _ :: _ => true
  | _ :: _, [] => false
  | a :: l, b :: m => if a = b then ltL l m else decide (a < b)
def pyT (l : List Int) : PyData := .tuple (l.map PyData.int)
theorem lt_nil_cons (y : PyData) (ys : List PyData) : PyProof.Rows.lexLt itemOrd (PySem.W.keyToksAll []) (PySem.W.keyToksAll (y :: ys)) = true := by
  rw [PySem.W.toks_all_cons, PySem.W.keyToksAll]
  rw [PySem.W.lex_atom (by simp)]
  decide
theorem ltT : ∀ l m : List Int, PyProof.Rows.lexLt itemOrd (PySem.W.keyToksAll (l.map PyData.int)) (PySem.W.keyToksAll (m.map PyData.int)) = ltL l m
  | [], [] => lex_irrefl _
  | [], b :: m => lt_nil_cons _ _
  | a :: l, [] => by
    rw [List.map_cons, List.map_nil, PySem.W.toks_all_cons, PySem.W.keyToksAll]
    rw [PySem.W.lex_atom (by simp)]
    rfl
  | a :: l, b :: m => by
    rw [List.map_cons, List.map_cons]
    unfold ltL
    by_cases h : a = b
    · subst h
      rw [if_pos rfl, PySem.W.dataLt_all_yes (by simp [PySem.W.alike]) (by simp [PyData.eqv]), ltT l m]
    · rw [if_neg h, PySem.W.dataLt_all_no (by simp [PySem.W.alike]) (by simpa [PyData.eqv] using h), PySem.W.dataLt_int]
theorem dataLt_T (l m : List Int) : PySem.W.dataLt (pyT l) (pyT m) = ltL l m := (PySem.W.dataLt_tuple _ _).trans (ltT l m)
def minL (l : List Int) (ls : List (List Int)) : List Int := ls.foldl (fun a y => if ltL y a = true then y else a) l
theorem minD_T (l : List Int) (ls : List (List Int)) : PySem.W.minD (pyT l) (ls.map pyT) = pyT (minL l ls) := by
  unfold PySem.W.minD minL
  induction ls generalizing l with
  | nil => rfl
  | cons k r ih =>
    rw [List.map_cons, List.foldl_cons, List.foldl_cons, dataLt_T]
    have e : (if ltL k l = true then pyT k else pyT l) = pyT (if ltL k l = true then k else l) := by split <;> rfl
    rw [e]
    exact ih _
theorem minL_mem (l : List Int) (ls : List (List Int)) : minL l ls ∈ l :: ls := by
  unfold minL
  induction ls generalizing l with
  | nil => exact List.mem_cons_self
  | cons k r ih =>
    rw [List.foldl_cons]
    have := ih (if ltL k l = true then k else l)
    rcases List.mem_cons.mp this with e | e
    · rw [e]
      split
      · exact List.mem_cons_of_mem _ List.mem_cons_self
      · exact List.mem_cons_self
    · exact List.mem_cons_of_mem _ (List.mem_cons_of_mem _ e)
theorem py_ti (l : List Int) : (tiD l).py = some (pyT l) := by
  unfold tiD pyT
  simp only [D.py]
  have h : ∀ l : List Int, D.pys (l.map D.int) = some (l.map PyData.int) := fun l => by
    induction l with
    | nil => rfl
    | cons a l ih => rw [List.map_cons]; simp only [D.pys, D.py, ih]; rfl
  rw [h]
theorem pys_tis : ∀ ls : List (List Int), D.pys (ls.map tiD) = some (ls.map pyT)
  | [] => rfl
  | l :: ls => by rw [List.map_cons]; simp only [D.pys, py_ti, pys_tis ls]; rfl
theorem pyT_inj {l m : List Int} (h : pyT l = pyT m) : l = m := by
  unfold pyT at h
  have h := PyData.tuple.inj h
  exact (List.map_inj_right fun a b e => PyData.int.inj e).mp h
def opMinG : OpN := fun ds => match ds with
  | [.lst xs] => match D.its? xs with
    | some (l :: ls) => some (tiD (minL l ls), false)
    | _ => opMin ds
  | _ => opMin ds
section
variable {X : Cx}
theorem alike_T (l m : List Int) : PySem.W.alike (pyT l) (pyT m) = true := by
  unfold pyT
  simp only [PySem.W.alike]
  induction l generalizing m with
  | nil => rfl
  | cons a l ih =>
    cases m with
    | nil => rfl
    | cons b m => rw [List.map_cons, List.map_cons]; simp only [PySem.W.alikeAll, PySem.W.alike, ih m, Bool.and_self]
theorem depth_T (ls : List (List Int)) : PyData.depthAll (ls.map pyT) ≤ 8 := by
  induction ls with
  | nil => simp [PyData.depthAll]
  | cons l ls ih =>
    have h : (pyT l).depth ≤ 8 := by
      unfold pyT
      simp only [PyData.depth]
      have : PyData.depthAll (l.map PyData.int) ≤ 2 := by
        induction l with
        | nil => simp [PyData.depthAll]
        | cons a l ih => rw [List.map_cons]; simp only [PyData.depthAll, PyData.depth]; omega
      omega
    rw [List.map_cons]
    simp only [PyData.depthAll]
    omega
theorem od_minG (hc : X.calm = true) (hu : X.A.units + 64 < cLine) : CallR X (.builtin "min") (rDN X opMinG) := by
  intro pins s σ H vs us Q I r hh
  obtain ⟨F, ds, d, nw, sub, hd, e, a⟩ := hh
  have old : opMin ds = some (d, nw) → wpAny (model X.prog X.w) X.A (call (.builtin "min") us) (EP X pins σ Q) X.xe s := fun e => od_min hc pins s σ H vs us Q I r ⟨F, ds, d, nw, sub, hd, e, a⟩
  unfold opMinG at e
  split at e
  · rename_i xs
    split at e
    · rename_i l ls e1
      cases e
      obtain ⟨v, rfl, h⟩ := reps1 hd
      obtain ⟨p, ws, rfl, h1, h2⟩ := h.lst sub
      rw [tis_some e1] at h2
      have all := dps_of sub _ ws _ h2 (pys_tis (l :: ls))
      obtain ⟨its, rv, il, small⟩ := I.list (SqL.of h1)
      obtain ⟨as, many⟩ := Dp.readsAll I _ _ its all rv
      rw [Vals.ref1 r]
      rw [List.map_cons] at many
      have hm := minL_mem l ls
      refine PySem.W.min_list_data (I.ok.hd hc) il.isList many ⟨fun x hx y hy => ?_, fun x hx => ?_⟩ ?_ fun i v h' tk bs hv hr hk => ?_
      · rw [← List.map_cons] at hx hy
        obtain ⟨x', _, rfl⟩ := List.mem_map.mp hx
        obtain ⟨y', _, rfl⟩ := List.mem_map.mp hy
        exact alike_T x' y'
      · rw [← List.map_cons] at hx
        obtain ⟨x', _, rfl⟩ := List.mem_map.mp hx
        intro z
        cases z
      · have := depth_T (l :: ls)
        rw [List.map_cons] at this
        omega
      · rw [minD_T] at hr
        obtain ⟨bs2, r2, hi, _, _⟩ := PySem.W.readsAll_atA (vs := its.toArray) many i v hv
        have r3 := PySem.W.reads_keeps hk r2
        have e3 := (reads_det (fun b o e _ => e) r3 hr).1
        rw [← List.map_cons] at e3 hi
        rw [List.length_map] at hi
        have e4 : minL l ls = (l :: ls)[i] := by
          apply pyT_inj
          rw [e3]
          show (List.map pyT (l :: ls))[i]?.getD PyData.none = _
          rw [List.getElem?_map, List.getElem?_eq_getElem hi]
          rfl
        have hw : ∃ w, ws[i]? = some w ∧ Rep X.K X.mg F (tiD (minL l ls)) w := by
          rw [e4]
          exact RepL.get h2 (by rw [List.getElem?_map, List.getElem?_eq_getElem hi]; rfl)
        obtain ⟨w, hw1, hw2⟩ := hw
        obtain ⟨u, hu1, hu2⟩ := Vals.get rv hw1
        have e5 : u = v := by
          have hv' : its[i]? = some v := by simpa using hv
          rw [hu1] at hv'
          exact Option.some.inj hv'
        subst e5
        exact ⟨w, H, I.kept hk, hu2, a w H F (Grow.refl sub) hw2⟩
    · exact old e
  · exact old e
end
theorem opMinG_def {xs : List D} : opMinG [.lst xs] = (match D.its? xs with
    | some (l :: ls) => some (tiD (minL l ls), false)
    | _ => opMin [.lst xs]) := rfl
theorem opMinG_ints {n : Int} {ns : List Int} {P : D × Bool → Prop} : opt (opMinG [intsD (n :: ns)]) P = P (.int (ns.foldl minI n), false) := by
  unfold intsD
  rw [opMinG_def]
  have e : D.its? ((n :: ns).map D.int) = none := rfl
  rw [e]
  exact opMin_ints
theorem opMinG_tis {l : List Int} {ls : List (List Int)} {P : D × Bool → Prop} : opt (opMinG [.lst ((l :: ls).map tiD)]) P = P (tiD (minL l ls), false) := by
  rw [opMinG_def, tis_map]
  rfl
@[simp, simp ↓] theorem opMinG2 {i j : Int} {P : D × Bool → Prop} : opt (opMinG [.int i, .int j]) P = P (.int (minI i j), false) := rfl
/-! ### pairs -/
theorem ltL_2 {a b c d : Int} : ltL [a, b] [c, d] = true ↔ a < c ∨ (a = c ∧ b < d) := by
  unfold ltL
  by_cases h : a = c
  · subst h
    rw [if_pos rfl]
    unfold ltL
    by_cases k : b = d
    · subst k
      rw [if_pos rfl]
      simp [ltL]
    · rw [if_neg k, decide_eq_true_iff]
      omega
  · rw [if_neg h, decide_eq_true_iff]
    omega
theorem ltL_irr : ∀ l : List Int, ltL l l = false
  | [] => rfl
  | a :: l => by
    unfold ltL
    rw [if_pos rfl]
    exact ltL_irr l
theorem ltL_trans : ∀ {l m n : List Int}, ltL l m = true → ltL m n = true → ltL l n = true
  | [], [], _, h, _ => by cases h
  | [], _ :: _, [], _, k => by cases k
  | [], _ :: _, _ :: _, _, _ => rfl
  | _ :: _, [], _, h, _ => by cases h
  | _ :: _, _ :: _, [], _, k => by cases k
  | a :: l, b :: m, c :: n, h, k => by
    unfold ltL at h k ⊢
    by_cases e1 : a = b
    · subst e1
      rw [if_pos rfl] at h
      by_cases e2 : a = c
      · subst e2
        rw [if_pos rfl] at k ⊢
        exact ltL_trans h k
      · rw [if_neg e2] at k ⊢
        exact k
    · rw [if_neg e1] at h
      have h := of_decide_eq_true h
      by_cases e2 : b = c
      · subst e2
        rw [if_neg e1]
        exact decide_eq_true h
      · rw [if_neg e2] at k
        have k := of_decide_eq_true k
        rw [if_neg (by omega)]
        exact decide_eq_true (by omega)
theorem ltL_tot : ∀ {l m : List Int}, ltL l m = false → ltL m l = false → l = m
  | [], [], _, _ => rfl
  | [], _ :: _, h, _ => by cases h
  | _ :: _, [], _, k => by cases k
  | a :: l, b :: m, h, k => by
    unfold ltL at h k
    by_cases e : a = b
    · subst e
      rw [if_pos rfl] at h k
      rw [ltL_tot h k]
    · rw [if_neg e] at h
      rw [if_neg (fun z => e z.symm)] at k
      have h := of_decide_eq_false h
      have k := of_decide_eq_false k
      omega
/-- the least: it is in the list, and nothing is less -/
theorem minL_le (l : List Int) (ls : List (List Int)) : ∀ x ∈ l :: ls, ltL x (minL l ls) = false := by
  unfold minL
  induction ls generalizing l with
  | nil =>
    intro x hx
    rw [List.mem_singleton] at hx
    subst hx
    exact ltL_irr _
  | cons k r ih =>
    intro x hx
    rw [List.foldl_cons]
    have h := ih (if ltL k l = true then k else l)
    have h0 := h _ List.mem_cons_self
    have key : ∀ y, ltL y (if ltL k l = true then k else l) = false → ltL y (r.foldl (fun a y => if ltL y a = true then y else a) (if ltL k l = true then k else l)) = false := fun y hy => by
      cases c : ltL y (r.foldl (fun a y => if ltL y a = true then y else a) (if ltL k l = true then k else l)) with
      | false => rfl
      | true =>
        exfalso
        generalize r.foldl (fun a y => if ltL y a = true then y else a) (if ltL k l = true then k else l) = w at *
        generalize (if ltL k l = true then k else l) = g at *
        cases d : ltL w g with
        | true => rw [ltL_trans c d] at hy; cases hy
        | false =>
          have := ltL_tot d h0
          subst this
          rw [hy] at c
          cases c
    rcases List.mem_cons.mp hx with e | hx
    · subst e
      refine key _ ?_
      split
      · rename_i c
        cases d : ltL x k with
        | false => rfl
        | true => have := ltL_trans c d; rw [ltL_irr] at this; cases this
      · exact ltL_irr _
    · rcases List.mem_cons.mp hx with e | hx
      · subst e
        refine key _ ?_
        split
        · exact ltL_irr _
        · rename_i c
          simpa using c
      · exact h x (List.mem_cons_of_mem _ hx)
theorem minL_uniq {l m : List Int} {ls : List (List Int)} (hm : m ∈ l :: ls) (h : ∀ x ∈ l :: ls, ltL x m = false) : minL l ls = m := ltL_tot (h _ (minL_mem l ls)) (minL_le l ls m hm)
end DL

/-! ## sorted(t) of a tuple of ints -/
namespace DLS
open PySem PySem.Spec PyProof.Rows SrtO
variable {prog : Program} {w : World} {A : Around} {E : Value → Shared → Prop} {s : Shared}
theorem collect_tup {l : Addr} {vs : List Value} {Q : List Value → Shared → Prop} (hl : IsTup s.heap l vs.toArray)
    (h : Q vs { s with heap := (s.heap.push (seqObj "list" #[] 0)).update s.heap.objs.size (Obj.mapSeq (· ++ vs.toArray)) }) (hsz : vs.length ≤ sizeLine) :
    wpAny (model prog w) A (collect (.ref l)) Q E s := by
  obtain ⟨o, ho, hc, n, hd⟩ := id hl
  unfold collect
  refine wpAny_bind (wpAny_runValue (codeAny_builtin entry_proto_collect' ?_))
  show wpAny _ _ (do again (.builtin "list.__iadd__" ⟨[← newList [], .ref l], []⟩)) _ _ s
  refine wpAny_bind (wpAny_newList (wpAny_pure ⟨Code.quiet_builtin _ (by decide +kernel), codeAny_builtin entry_list_iadd' ?_⟩) (Nat.zero_le _))
  show wpAny _ _ (Builtin.List.listExtendWith (.ref s.heap.objs.size) (.ref l) (.ref s.heap.objs.size)) _ _ { s with heap := s.heap.push (seqObj "list" #[] 0) }
  unfold Builtin.List.listExtendWith
  have ho' : (s.heap.push (seqObj "list" #[] 0)).get? l = some o := Heap.get?_push_of_some _ ho
  refine wpAny_bind (wpAny_typeOf (T := "tuple") ⟨o, ho', hc⟩ ?_)
  have ht : (Value.type "tuple" == Value.type "tuple") = true := by rfl
  rw [if_pos (by rw [ht]; simp)]
  refine wpAny_bind (listItems_at ho' hd ?_)
  refine wpAny_bind (listItems_at (xs := #[]) (n := 0) (Heap.get?_push_size _ rfl) rfl ?_)
  rw [if_neg (by simp)]
  refine wpAny_bind (listUpdate_at (xs := #[]) (n := 0) (Heap.get?_push_size _ rfl) rfl ?_ (Nat.zero_le _) (by show (#[] ++ vs.toArray).size ≤ sizeLine + 1; simp only [Array.size_append, List.size_toArray, List.length_nil]; omega))
  refine wpAny_pure ?_
  show wpAny (model prog w) A (do
      let o ← load s.heap.objs.size
      match o.data with
      | .seq xs _ => pure xs.toList
      | _ => unsupported "internal:collect") Q E { s with heap := (s.heap.push (seqObj "list" #[] 0)).update s.heap.objs.size (Obj.mapSeq (· ++ vs.toArray)) }
  refine wpAny_bind (wpAny_load (get?_update_seq (Heap.get?_push_size _ rfl) _) ?_)
  show wpAny _ _ (pure ((#[] : Array Value) ++ vs.toArray).toList) Q E _
  rw [show ((#[] : Array Value) ++ vs.toArray).toList = vs by simp]
  exact wpAny_pure h
theorem sorted_tup {l : Addr} {vs : List Value} {ltv : Value → Value → Bool} {Q : Value → Shared → Prop} (O : Swo ltv) (hl : IsTup s.heap l vs.toArray) (hz : vs.length ≤ sizeLine)
    (hS : 2 ≤ vs.length → ∀ (h₁ : Heap) (a : Addr), h₁.get? a = some (seqObj "list" vs.toArray 0) → (∀ b o, s.heap.get? b = some o → b ≠ a ∧ h₁.get? b = some o) → SortableO prog w A.in1.in1 { s with heap := h₁ } a vs ltv)
    (h : ∀ out : List Value, Srtd ltv out → Stb ltv out vs → Q (.ref (s.heap.objs.size + 1)) { s with heap := sortedAll s.heap vs out.toArray }) :
    wpAny (model prog w) A (call (.builtin "sorted") [.ref l]) Q E s := by
  refine Calls.call_function_entry kind_sorted plain_sorted entry_sorted (args_sorted1 _) ?_
  unfold Builtin.«sorted»
  refine wpAny_bind (m := checkCount "sorted" 1 1 _) (wpAny_pure ?_)
  refine wpAny_bind (collect_tup hl ?_ hz)
  refine wpAny_bind (wpAny_newList ?_ hz)
  have hsz : ((s.heap.push (seqObj "list" #[] 0)).update s.heap.objs.size (Obj.mapSeq (· ++ vs.toArray))).objs.size = s.heap.objs.size + 1 := by
    rw [Heap.size_update, size_push']
  have hoL : (((s.heap.push (seqObj "list" #[] 0)).update s.heap.objs.size (Obj.mapSeq (· ++ vs.toArray))).push (seqObj "list" vs.toArray 0)).get? (s.heap.objs.size + 1) = some (seqObj "list" vs.toArray 0) := by
    rw [← hsz]; exact Heap.get?_push_size _ rfl
  have keep : ∀ b o, s.heap.get? b = some o → b ≠ s.heap.objs.size + 1 ∧ (((s.heap.push (seqObj "list" #[] 0)).update s.heap.objs.size (Obj.mapSeq (· ++ vs.toArray))).push (seqObj "list" vs.toArray 0)).get? b = some o := fun b o q => by
    have hlt : b < s.heap.objs.size := Heap.lt_size q
    refine ⟨Nat.ne_of_lt (Nat.lt_succ_of_lt hlt), Heap.get?_push_of_some _ ?_⟩
    rw [Heap.get?_update_ne _ _ _ _ (Nat.ne_of_lt hlt)]
    exact Heap.get?_push_of_some _ q
  show wpAny _ _ _ _ _ { s with heap := ((s.heap.push (seqObj "list" #[] 0)).update s.heap.objs.size (Obj.mapSeq (· ++ vs.toArray))).push (seqObj "list" vs.toArray 0) }
  rw [hsz]
  refine wpAny_bind (wpAny_holding (wpAny_call_entry slot_list_sort ⟨_, hoL, rfl⟩ entry_list_sort (list_sort_ord O hoL hz (fun h2 => hS h2 _ _ hoL keep) fun out hs hb => ⟨_, rfl, ?_⟩) (args_list_sort _)))
  exact wpAny_pure ⟨_, rfl, h out hs hb⟩
end DLS
namespace DL
open PySem PySem.Spec PyProof.Rows L2
section
variable {X : Cx}
def rSortedTI (K : PySem.W.Frag) : List V → Hp → VK → Prop := fun vs H Q => ∃ (a : Addr) (ns : List Int), vs = [V.ref a] ∧ SqT K H a (ns.map V.int) ∧
  ∀ (ns' : List Int) (p : Addr), ns'.Perm ns → ns'.Pairwise (· ≤ ·) → H p = none → Q (.ref p) (upd H p (.lst (ns'.map V.int)))
theorem cr_sortedTI : CallR X (.builtin "sorted") (rSortedTI X.K) := by
  intro pins s σ H vs us Q I r h
  obtain ⟨a, ns, rfl, hs, q⟩ := h
  obtain ⟨its, rv, hl, hz⟩ := I.tuple hs
  rw [Vals.ref1 r]
  have hi := rv.ints
  refine DLS.sorted_tup SrtO.swo_int hl (by rw [← rv.length]; exact hz) (fun h2 h₁ a' _ _ => SrtO.ints_sortable hi h2) fun out h1 h2 => ?_
  obtain ⟨k1, k2, k3⟩ := SrtO.ints_out hi h1 h2
  obtain ⟨ep, he'⟩ := PyProof.Rows.sortedAll_at s.heap its out.toArray
  have hlen : ((out.map SrtO.iv).map V.int).length ≤ sizeLine := by
    rw [List.length_map, k2.length_eq]
    rw [List.length_map] at hz
    exact hz
  exact ⟨.ref _, upd H (s.heap.objs.size + 1) (.lst ((out.map SrtO.iv).map V.int)), I.laid (t' := s.toks) (fun _ _ => PyProof.Rows.sortedAll_old) (Nat.le_succ _) ⟨hlen, out, ep, vals_of_ints k1, he'⟩, rfl, q _ _ k2 k3 (I.hok.fresh (Nat.le_succ _))⟩
def opSortU : OpN := fun ds => match ds with
  | [.tup xs] => match D.ints? xs with
    | some ns => some (.lst ((sortI ns).map D.int), true)
    | none => none
  | _ => opSortG ds
theorem od_sortU : CallR X (.builtin "sorted") (rDN X opSortU) := by
  intro pins s σ H vs us Q I r hh
  obtain ⟨F, ds, d, nw, sub, hd, e, a⟩ := hh
  have old : opSortG ds = some (d, nw) → wpAny (model X.prog X.w) X.A (call (.builtin "sorted") us) (EP X pins σ Q) X.xe s := fun e => od_sortG pins s σ H vs us Q I r ⟨F, ds, d, nw, sub, hd, e, a⟩
  unfold opSortU at e
  split at e
  · rename_i xs
    cases q : D.ints? xs with
    | none => simp only [q] at e; cases e
    | some ns =>
      simp only [q] at e
      cases e
      obtain ⟨v, rfl, h⟩ := reps1 hd
      obtain ⟨p, ws, rfl, h1, h2⟩ := h.tup sub
      have ev := ints_rep h2 q
      subst ev
      refine cr_sortedTI pins s σ H _ us Q I r ⟨p, ns, rfl, h1, fun ns' l hp ho hl => ?_⟩
      have : ns' = sortI ns := sorted_unique (hp.trans (sortI_perm ns).symm) ho (sortI_sorted ns)
      subst this
      exact a l _ hl ⟨_, rfl, repL_intsV _⟩
  · exact old e
/-! ## max, min of a tuple of ints -/
theorem max_eqI : (max : Int → Int → Int) = maxI := by
  funext a b
  unfold maxI
  rw [Int.max_def]
  split <;> split <;> omega
theorem min_eqI : (min : Int → Int → Int) = minI := by
  funext a b
  unfold minI
  rw [Int.min_def]
  split <;> split <;> omega
def opMaxU : OpN := fun ds => match ds with
  | [.tup xs] => match D.ints? xs with
    | some (n :: ns) => some (.int (ns.foldl maxI n), false)
    | _ => none
  | _ => opMax ds
def opMinU : OpN := fun ds => match ds with
  | [.tup xs] => match D.ints? xs with
    | some (n :: ns) => some (.int (ns.foldl minI n), false)
    | _ => none
  | _ => opMin ds
theorem pys_ints : ∀ ns : List Int, D.pys (ns.map D.int) = some (ns.map PyData.int)
  | [] => rfl
  | n :: ns => by rw [List.map_cons]; simp only [D.pys, D.py, pys_ints ns]; rfl
theorem depth_I (ns : List Int) : PyData.depthAll (ns.map PyData.int) ≤ 8 := by
  have : PyData.depthAll (ns.map PyData.int) ≤ 2 := by
    induction ns with
    | nil => simp [PyData.depthAll]
    | cons a l ih => rw [List.map_cons]; simp only [PyData.depthAll, PyData.depth]; omega
  omega
theorem ints_someT : ∀ {xs : List D} {ns : List Int}, D.ints? xs = some ns → xs = ns.map D.int := fun {xs ns} h => by
  induction xs generalizing ns with
  | nil => cases h; rfl
  | cons d r ih =>
    cases d with
    | int i =>
      simp only [D.ints?] at h
      cases e : D.ints? r with
      | none => rw [e] at h; cases h
      | some ms => rw [e] at h; cases h; rw [List.map_cons, ← ih e]
    | _ => cases h
theorem od_maxU (hc : X.calm = true) (hu : X.A.units + 64 < cLine) : CallR X (.builtin "max") (rDN X opMaxU) := by
  intro pins s σ H vs us Q I r hh
  obtain ⟨F, ds, d, nw, sub, hd, e, a⟩ := hh
  have old : opMax ds = some (d, nw) → wpAny (model X.prog X.w) X.A (call (.builtin "max") us) (EP X pins σ Q) X.xe s := fun e => od_max hc pins s σ H vs us Q I r ⟨F, ds, d, nw, sub, hd, e, a⟩
  unfold opMaxU at e
  split at e
  · rename_i xs
    split at e
    · rename_i n ns e1
      cases e
      obtain ⟨v, rfl, h⟩ := reps1 hd
      obtain ⟨p, ws, rfl, h1, h2⟩ := h.tup sub
      rw [ints_someT e1] at h2
      have all := dps_of sub _ ws _ h2 (pys_ints (n :: ns))
      obtain ⟨its, rv, il, small⟩ := I.tuple h1
      obtain ⟨as, many⟩ := Dp.readsAll I _ _ its all rv
      rw [Vals.ref1 r]
      rw [List.map_cons] at many
      refine PySem.W.max_tuple_data (I.ok.hd hc) il many ⟨fun x hx y hy => ?_, fun x hx => ?_⟩ ?_ fun i v h' tk bs hv hr hk => ?_
      · rw [← List.map_cons] at hx hy
        obtain ⟨x', _, rfl⟩ := List.mem_map.mp hx
        obtain ⟨y', _, rfl⟩ := List.mem_map.mp hy
        rfl
      · rw [← List.map_cons] at hx
        obtain ⟨x', _, rfl⟩ := List.mem_map.mp hx
        intro z
        cases z
      · have := depth_I (n :: ns)
        rw [List.map_cons] at this
        omega
      · rw [PySem.W.maxD_ints, max_eqI] at hr
        cases hr
        exact ⟨.int _, H, I.kept hk, ⟨_, rfl⟩, ans_atom sub a fun F => by simp only [Rep]⟩
    · cases e
  · exact old e
theorem od_minU (hc : X.calm = true) (hu : X.A.units + 64 < cLine) : CallR X (.builtin "min") (rDN X opMinU) := by
  intro pins s σ H vs us Q I r hh
  obtain ⟨F, ds, d, nw, sub, hd, e, a⟩ := hh
  have old : opMin ds = some (d, nw) → wpAny (model X.prog X.w) X.A (call (.builtin "min") us) (EP X pins σ Q) X.xe s := fun e => od_min hc pins s σ H vs us Q I r ⟨F, ds, d, nw, sub, hd, e, a⟩
  unfold opMinU at e
  split at e
  · rename_i xs
    split at e
    · rename_i n ns e1
      cases e
      obtain ⟨v, rfl, h⟩ := reps1 hd
      obtain ⟨p, ws, rfl, h1, h2⟩ := h.tup sub
      rw [ints_someT e1] at h2
      have all := dps_of sub _ ws _ h2 (pys_ints (n :: ns))
      obtain ⟨its, rv, il, small⟩ := I.tuple h1
      obtain ⟨as, many⟩ := Dp.readsAll I _ _ its all rv
      rw [Vals.ref1 r]
      rw [List.map_cons] at many
      refine PySem.W.min_tuple_data (I.ok.hd hc) il many ⟨fun x hx y hy => ?_, fun x hx => ?_⟩ ?_ fun i v h' tk bs hv hr hk => ?_
      · rw [← List.map_cons] at hx hy
        obtain ⟨x', _, rfl⟩ := List.mem_map.mp hx
        obtain ⟨y', _, rfl⟩ := List.mem_map.mp hy
        rfl
      · rw [← List.map_cons] at hx
        obtain ⟨x', _, rfl⟩ := List.mem_map.mp hx
        intro z
        cases z
      · have := depth_I (n :: ns)
        rw [List.map_cons] at this
        omega
      · rw [PySem.W.minD_ints, min_eqI] at hr
        cases hr
        exact ⟨.int _, H, I.kept hk, ⟨_, rfl⟩, ans_atom sub a fun F => by simp only [Rep]⟩
    · cases e
  · exact old e
end
end DL

/-! ## t[::-1] of a tuple of two -/
namespace HT
open PySem PySem.Spec PyProof.Rows
section
variable {prog : Program} {w : World} {A : Around} {E : Value → Shared → Prop} {s : Shared}
theorem sliceApplied_rev2 {sl : Addr} {vs : Value} {Q : Int × Int × Nat → Shared → Prop} (hs : s.heap.IsSliceOf sl .none .none vs) (ps : IsPart vs (some (-1)))
    (h : Q ((1 : Int), -1, 2) s) : wpAny (model prog w) A (Builtin.Slice.sliceApplied (.ref sl) (pure (2 : Int))) Q E s := by
  obtain ⟨os, hos, hcs, hds⟩ := id hs
  unfold Builtin.Slice.sliceApplied Builtin.Slice.sliceFields
  refine wpAny_bind (wpAny_bind (wpAny_field hos hds (x := .none) rfl (wpAny_bind (wpAny_field hos hds (x := .none) rfl (wpAny_bind (wpAny_field hos hds (x := vs) rfl (wpAny_pure ?_)))))))
  refine wpAny_bind (slicePart_ ps ?_)
  show wpAny _ _ (if ((-1 : Int) == 0) = true then _ else _) _ _ s
  rw [if_neg (by decide)]
  refine wpAny_bind (slicePart_none (wpAny_bind (slicePart_none (wpAny_bind (wpAny_pure ?_)))))
  exact wpAny_pure h
theorem getItem_tuple_rev2 {t sl : Addr} {x y : Value} {vs : Value} {Q : Value → Shared → Prop} (ht : IsTup s.heap t #[x, y]) (hs : s.heap.IsSliceOf sl .none .none vs) (ps : IsPart vs (some (-1)))
    (h : Q (.ref s.heap.objs.size) { s with heap := s.heap.push { cls := .type "tuple", data := .seq #[y, x] } }) : wpAny (model prog w) A (getItem (.ref t) (.ref sl)) Q E s := by
  have htake : sizeOk (.seq #[y, x]) := by
    show (#[y, x] : Array Value).size ≤ sizeLine
    show 2 ≤ sizeLine
    decide
  obtain ⟨os, hos, hcs, hds⟩ := id hs
  have hTs : s.TypeIs (.ref sl) "slice" := ⟨os, hos, hcs⟩
  unfold getItem
  try with_reducible refine wpAny_holding ?_
  first | refine wpAny_bind (wpAny_pure ?_) | skip
  refine wpAny_bind (wpAny_sequenceKey ht.typeIs (by decide) ?_)
  refine wpAny_bind (wpAny_callSpecial?_slot (name := Str.ofString "__getitem__") ht.typeIs PyProof.Rows.slot_tuple_getitem
    (wpAny_call_entry PyProof.Rows.slot_tuple_getitem ht.typeIs entry_tuple_getitem ?_ (args_tuple_getitem _ _)))
  show wpAny _ _ (Builtin.Tuple.tupleItemsOf (.ref t) >>= _) _ _ s
  refine wpAny_bind (tupleItemsOf_ ht ?_)
  refine wpAny_bind (wpAny_typeOf hTs ?_)
  rw [if_pos (by decide)]
  refine wpAny_bind (sliceApplied_rev2 hs ps ?_)
  show wpAny _ _ (if ((1 : Int) == 0 && (-1 : Int) == 1 && (2 : Nat) == 2) = true then _ else _) _ _ s
  rw [if_neg (by decide)]
  have e : ((List.range 2).filterMap fun (m : Nat) => (#[x, y] : Array Value)[((1 : Int) + (m : Int) * -1).toNat]?).toArray = #[y, x] := rfl
  rw [e]
  first
    | exact wpAny_bind (m := Builtin.Tuple.tupleExact _) (wpAny_newObj_type (wpAny_pure ⟨_, rfl, wpAny_pure h⟩) htake)
    | exact wpAny_bind (m := Builtin.Tuple.tupleExact _) (wpAny_newObj_type (wpAny_bind (wpAny_pure (wpAny_pure ⟨_, rfl, wpAny_pure h⟩))) htake)
    | exact wpAny_bind (wpAny_bind (m := Builtin.Tuple.tupleExact _) (wpAny_newObj_type (wpAny_pure (wpAny_pure ⟨_, rfl, wpAny_pure h⟩)) htake))
    | exact wpAny_bind (wpAny_bind (m := Builtin.Tuple.tupleExact _) (wpAny_newObj_type (wpAny_pure ⟨_, rfl, wpAny_pure h⟩) htake))
end
end HT
namespace DL
open PySem PySem.Spec PyProof.Rows L2
section
variable {X : Cx} {B : Bd} {W : WX}
theorem vals2 {y z : V} {its : List Value} (r : Vals [y, z] its) : ∃ v1 v2, its = [v1, v2] ∧ RelV y v1 ∧ RelV z v2 := by
  cases r with
  | cons ra r => cases r with
    | cons rb r => cases r; exact ⟨_, _, rfl, ra, rb⟩
def tRevU (K : PySem.W.Frag) (te : TE) : TE := fun σ H Q => te σ H fun x H1 => (∃ a xs, x = .ref a ∧ SqL K H1 a xs ∧ ∀ p, H1 p = none → Q (.ref p) (upd H1 p (.lst xs.reverse))) ∨
  ∃ a u v, x = .ref a ∧ SqT K H1 a [u, v] ∧ ∀ p, H1 p = none → Q (.ref p) (upd H1 p (.tup [v, u]))
theorem pe_revU {e : Expr} {te : TE} {k : Nat} {p1 p2 p3 pos : Pos} (he : PE X e te) : PE X (.Subscript e (.Slice none none (some (.UnaryOp .USub (.Constant (.int 1) k p1) p2)) p3) pos) (tRevU X.K te) := by
  refine ⟨fun pins s σ H Q I h => ?_⟩
  refine Subscript_ (thn (he.run pins s σ H _ I h) fun v s1 ⟨x, H1, I1, r1, q1⟩ => ?_)
  have hst : PO X (some (.UnaryOp .USub (.Constant (.int 1) k p1) p2)) (tPart (tUn (rU fun i => .int (-i)) (tC (.int 1)))) := po_some (pe_un un_neg pe_int)
  refine wpAny_Slice (thn (po_none.run pins s1 σ H1 (fun o H2 => o = none ∧ H2 = H1) I1 ⟨rfl, rfl⟩) fun vl s2 ⟨l, H2, I2, pl, el, e2⟩ => ?_)
  subst el e2
  refine thn (po_none.run pins s2 σ H2 (fun o H3 => o = none ∧ H3 = H2) I2 ⟨rfl, rfl⟩) fun vu s3 ⟨u, H3, I3, pu, eu, e3⟩ => ?_
  subst eu e3
  refine thn (hst.run pins s3 σ H3 (fun o H4 => o = some (-1) ∧ H4 = H3) I3 ⟨1, rfl, -1, rfl, rfl, rfl⟩) fun vs s4 ⟨o, H4, I4, ps, eo, e4⟩ => ?_
  subst eo e4
  have I5 : Inv X pins σ H4 { s4 with heap := s4.heap.push { cls := .type "slice", data := .fields #[vl, vu, vs] } } := I4.kept (t' := s4.toks) fun b ob q => Heap.get?_push_of_some _ q
  rcases q1 with ⟨a, xs, ex, hx, q⟩ | ⟨a, y, z, ex, hx, q⟩
  · subst ex
    cases r1
    obtain ⟨its, r, ht, hz⟩ := I5.list hx
    have hlen := r.length
    show wpAny (model X.prog X.w) X.A (subscriptTail e (.Slice none none (some (.UnaryOp .USub (.Constant (.int 1) k p1) p2)) p3) (.ref a) (.ref s4.heap.objs.size)) (EP X pins σ Q) X.xe { s4 with heap := s4.heap.push { cls := .type "slice", data := .fields #[vl, vu, vs] } }
    refine tail_any (ops := [.ref a, .ref s4.heap.objs.size]) ht.isList.typeIs (PySem.slot_list_getitem.lookup) ?_ (by with_unfolding_all rfl)
    refine wpAny_getItem_list_slice ht.isList (Heap.IsSliceOf.new _ vl vu vs) pl pu ps (by decide) ?_ (by rw [List.size_toArray]; omega)
    rw [PySem.W.krv_pick]
    refine ⟨.ref _, _, I5.laid (t' := s4.toks) (o := .lst xs.reverse) (fun b ob q => Heap.get?_push_of_some _ q) (Nat.le_refl _) ?_, rfl, q _ (I5.hok.fresh (Nat.le_refl _))⟩
    exact ⟨by rw [List.length_reverse]; exact hz, _, 0, r.reverse, Heap.get?_push_size _ rfl⟩
  · subst ex
    cases r1
    obtain ⟨its, r, ht, hz⟩ := I5.tuple hx
    cases pl
    cases pu
    obtain ⟨v1, v2, rfl, ra, rb⟩ := vals2 r
    have ht : IsTup _ a #[v1, v2] := ht
    · skip
      show wpAny (model X.prog X.w) X.A (subscriptTail e (.Slice none none (some (.UnaryOp .USub (.Constant (.int 1) k p1) p2)) p3) (.ref a) (.ref s4.heap.objs.size)) (EP X pins σ Q) X.xe { s4 with heap := s4.heap.push { cls := .type "slice", data := .fields #[.none, .none, vs] } }
      refine tail_any (ops := [.ref a, .ref s4.heap.objs.size]) ht.typeIs (PyProof.Rows.slot_tuple_getitem.lookup) ?_ (by with_unfolding_all rfl)
      refine HT.getItem_tuple_rev2 ht (Heap.IsSliceOf.new _ .none .none vs) ps ?_
      refine ⟨.ref _, _, I5.laid (t' := s4.toks) (o := .tup [z, y]) (fun b ob q => Heap.get?_push_of_some _ q) (Nat.le_refl _) ?_, rfl, q _ (I5.hok.fresh (Nat.le_refl _))⟩
      exact ⟨show 2 ≤ sizeLine by decide, _, .cons rb (.cons ra .nil), _, Heap.get?_push_size _ rfl, rfl, 0, rfl⟩
def opRevU : Op1
  | .lst xs => some (.lst xs.reverse, true)
  | .tup [a, b] => some (.tup [b, a], false)
  | _ => none
theorem sv_revU {a : Expr} {fa : M OV} {k : Nat} {p1 p2 p3 pos : Pos} (ha : SO X B W a fa) : SV X B W (.Subscript a (.Slice none none (some (.UnaryOp .USub (.Constant (.int 1) k p1) p2)) p3) pos) (mUn opRevU fa) :=
  pe_mono (pe_revU ha) fun σ H Q ⟨F, ρ, h⟩ => h.go fun x H1 F1 ρ1 o s1 r1 h1 => by
    obtain ⟨F2, dx, d, nw, sub, hx, e, an⟩ := op1_ans h1 r1
    cases dx with
    | lst xs =>
      cases e
      obtain ⟨p, vs, rfl, h1, h2⟩ := hx.lst sub
      exact .inl ⟨p, vs, rfl, SqL.of h1, fun q hq => an q _ hq ⟨_, rfl, RepL.reverse h2⟩⟩
    | tup xs =>
      match xs, e, hx with
      | [c, d], e, hx =>
        cases e
        obtain ⟨p, vs, rfl, h1, h2⟩ := hx.tup sub
        simp only [RepL] at h2
        obtain ⟨u, q, rfl, ru, v, q2, rfl, rv, rfl⟩ := h2
        refine .inr ⟨p, u, v, rfl, h1, fun q hq => an _ _ _ (Grow.new sub hq) ?_⟩
        simp only [Rep]
        have hs := same_upd (o := HO.tup [v, u]) (sub.free hq)
        exact ⟨q, _, rfl, SqT.of upd_same, RepL.cons (Rep.mono hs _ _ rv) (RepL.cons (Rep.mono hs _ _ ru) .nil)⟩
    | _ => cases e
end
@[simp, simp ↓] theorem opRevU_tup {a b : D} {P : D × Bool → Prop} : opt (opRevU (.tup [a, b])) P = P (.tup [b, a], false) := rfl
@[simp, simp ↓] theorem opRevU_lst {xs : List D} {P : D × Bool → Prop} : opt (opRevU (.lst xs)) P = P (.lst xs.reverse, true) := rfl
theorem opMaxU_old {ds : List D} (h : ∀ xs, ds ≠ [.tup xs]) : opMaxU ds = opMax ds := by
  unfold opMaxU
  split
  · rename_i xs
    exact absurd rfl (h xs)
  · rfl
theorem opMinU_old {ds : List D} (h : ∀ xs, ds ≠ [.tup xs]) : opMinU ds = opMin ds := by
  unfold opMinU
  split
  · rename_i xs
    exact absurd rfl (h xs)
  · rfl
@[simp, simp ↓] theorem opMaxU_2 {i j : Int} {P : D × Bool → Prop} : opt (opMaxU [.int i, .int j]) P = P (.int (maxI i j), false) := rfl
@[simp, simp ↓] theorem opMinU_2 {i j : Int} {P : D × Bool → Prop} : opt (opMinU [.int i, .int j]) P = P (.int (minI i j), false) := rfl
@[simp, simp ↓] theorem opMaxU_t2 {i j : Int} {P : D × Bool → Prop} : opt (opMaxU [.tup [.int i, .int j]]) P = P (.int (maxI i j), false) := rfl
@[simp, simp ↓] theorem opMinU_t2 {i j : Int} {P : D × Bool → Prop} : opt (opMinU [.tup [.int i, .int j]]) P = P (.int (minI i j), false) := rfl
def sort2 (i j : Int) : D := .lst [.int (minI i j), .int (maxI i j)]
theorem sortI2 (i j : Int) : sortI [i, j] = [minI i j, maxI i j] := by
  refine sorted_unique ((sortI_perm _).trans ?_) (sortI_sorted _) ?_
  · unfold minI maxI
    by_cases c : i < j
    · rw [if_neg (show ¬ j < i by omega), if_pos c]
    · by_cases e : j < i
      · rw [if_pos e, if_neg c]
        exact List.Perm.swap ..
      · have : i = j := by omega
        subst this
        rw [if_neg c]
  · have : minI i j ≤ maxI i j := by unfold minI maxI; split <;> split <;> omega
    simpa using this
theorem opSortU_t2 {i j : Int} {P : D × Bool → Prop} : opt (opSortU [.tup [.int i, .int j]]) P = P (.lst [.int (minI i j), .int (maxI i j)], true) := by
  have e : opSortU [.tup [.int i, .int j]] = some (.lst ((sortI [i, j]).map D.int), true) := rfl
  rw [e, sortI2]
  rfl
theorem opSortU_l2 {i j : Int} {P : D × Bool → Prop} : opt (opSortU [.lst [.int i, .int j]]) P = P (.lst [.int (minI i j), .int (maxI i j)], true) := by
  have e : opSortU [.lst [.int i, .int j]] = some (.lst ((sortI [i, j]).map D.int), true) := rfl
  rw [e, sortI2]
  rfl
end DL

namespace DL
open PySem PySem.Spec PyProof.Rows L2
/-! ## for .. in the list that the caller handed over (what it holds now) -/
def liveL (i : Nat) (step : D → M Fl) : Nat → Nat → M Fl
  | 0, _ => fun _ => .bad
  | n + 1, k => fun ρ => match ρ[i]? with
    | some (.io (.lst xs)) => match xs[k]? with
      | some d => (step d ρ).turn (liveL i step n (k + 1))
      | none => .ok .next ρ
    | _ => .bad
def mForL (i : Nat) (g : D → M Unit) (is : List Nat) (b : M Fl) : M Fl := fun ρ => match ρ[i]? with
  | some (.io (.lst xs)) => liveL i (forStep g is b) (xs.length + 1) 0 ρ
  | _ => mFor (mItems (eVar i)) g is b ρ
section
variable {X : Cx} {B : Bd} {W : WX}
theorem for_key {f : M (List D)} {g : D → M Unit} {b : M Fl} {is : List Nat} {D : Ends} {σ : St} {H : Hp} {F : Hp} {ρ : Env} (S : Sim X.K X.mg B σ H F ρ) (p : PostS X B W F D (mFor f g is b ρ)) :
    tFor (tG X B W (RJ X) f) (tT X B W g) (tS X B W b) D σ H := by
  refine At.goS S p fun J H1 F1 ρ1 ds s1 S1 r1 p1 => ?_
  refine ⟨fun i m σ H => ∃ F ρ, m = ds.length - i ∧ i ≤ ds.length ∧ Same F1 F ∧ Sim X.K X.mg B σ H F ρ ∧ PostS X B W F D (loopL (forStep g is b) (ds.drop i) ρ), ⟨ds.length, F1, ρ1, by simp, Nat.zero_le _, Same.refl _, S1, p1⟩, ?_⟩
  rintro i m σ2 H2 ⟨F2, ρ2, rfl, hi, s2, S2, p2⟩
  obtain ⟨j1, j2⟩ := r1 i H2 F2 s2 S2.sub
  by_cases hlt : i < ds.length
  · have e1 : ds[i]? = some ds[i] := List.getElem?_eq_getElem hlt
    rw [List.drop_eq_getElem_cons hlt] at p2
    obtain ⟨go, y⟩ := j2 _ e1
    refine .inr ⟨go, fun σ' H' => ∃ F ρ, i + 1 ≤ ds.length ∧ Same F1 F ∧ Sim X.K X.mg B σ' H' F ρ ∧ PostS X B W F D (loopL (forStep g is b) (ds.drop (i + 1)) ρ), fun σ' H' ⟨F', ρ', q1, q2, q3, q4⟩ => ⟨ds.length - (i + 1), by omega, F', ρ', rfl, q1, q2, q3, q4⟩, fun x H' hy => ?_⟩
    obtain ⟨F3, g3, r3⟩ := y x H' hy
    refine ⟨F3, ρ2, _, S2.grow g3, r3, ?_⟩
    have p3 := PostS.kill (turn_post (N := fun σ' H' => ∃ F ρ, i + 1 ≤ ds.length ∧ Same F1 F ∧ Sim X.K X.mg B σ' H' F ρ ∧ PostS X B W F D (loopL (forStep g is b) (ds.drop (i + 1)) ρ)) p2 fun ρ' σ' H'' F' S' t q => ⟨F', ρ', hlt, s2.trans t, S', q⟩)
    unfold M.bind at p3
    cases q : g ds[i] ρ2 with
    | ok u ρ3 => rw [q] at p3; exact fun σ4 H4 F4 S4 s4 => ⟨F4, ρ3, S4, PostS.anti (g3.f.trans s4) p3⟩
    | err c fs ρ3 => rw [q] at p3; exact fun σ cls dd H F4 S t r => p3 σ cls dd H F4 S (g3.f.trans t) r
    | bad => rw [q] at p3; exact p3
  · have ei : i = ds.length := by omega
    refine .inl ⟨j1 (by omega), ?_⟩
    rw [ei, List.drop_length] at p2
    exact p2 σ2 H2 F2 S2 (Same.refl _)
theorem live_key {i : Nat} {xs : List D} {g : D → M Unit} {b : M Fl} {is : List Nat} {N0 : Ends} {σ : St} {H : Hp} {F : Hp} {ρ : Env} (S : Sim X.K X.mg B σ H F ρ) (e : ρ[i]? = some (.io (.lst xs))) (p : PostS X B W F N0 (liveL i (forStep g is b) (xs.length + 1) 0 ρ)) :
    tFor (iList X.K (tVar i)) (tT X B W g) (tS X B W b) N0 σ H := by
  obtain ⟨a, u1, u2, u3, us, u4, u5⟩ := S.slot i _ e
  have at' : ∀ {σ' : St} {H' F' : Hp} {ρ' : Env}, Sim X.K X.mg B σ' H' F' ρ' → ∀ {ys : List D}, ρ'[i]? = some (.io (.lst ys)) → ∃ vs, H' a = some (.lst vs) ∧ RepL X.K X.mg F' ys vs := fun {σ' H' F' ρ'} S' {ys} e' => by
    obtain ⟨d', k1, k2⟩ := S'.ios _ u3
    obtain ⟨a', w1, w2, w3, vs, w4, w5⟩ := S'.slot i _ e'
    have k2 : σ'[i]? = some (some (.ref a)) := k2
    rw [k2] at w1
    cases w1
    exact ⟨vs, w4, w5⟩
  refine ⟨.ref a, u1, a, rfl, ⟨us, SqL.of u4⟩, ?_⟩
  refine ⟨fun k m σ H => ∃ F ρ, Sim X.K X.mg B σ H F ρ ∧ PostS X B W F N0 (liveL i (forStep g is b) m k ρ), ⟨xs.length + 1, F, ρ, S, p⟩, ?_⟩
  rintro k m σ2 H2 ⟨F2, ρ2, S2, p2⟩
  cases m with
  | zero => exact p2.elim
  | succ m =>
    have p2 : PostS X B W F2 N0 (match ρ2[i]? with
      | some (.io (.lst xs)) => match xs[k]? with
        | some d => (forStep g is b d ρ2).turn (liveL i (forStep g is b) m (k + 1))
        | none => .ok .next ρ2
      | _ => .bad) := p2
    obtain ⟨d0, k1, k2⟩ := S2.ios _ u3
    have k1 : ρ2[i]? = some (.io d0) := k1
    rw [k1] at p2
    cases d0 with
    | lst ys =>
      obtain ⟨vs, w4, w5⟩ := at' S2 k1
      cases e1 : ys[k]? with
      | none =>
        simp only [e1] at p2
        have hl : vs.length ≤ k := by
          rw [← w5.length]
          exact List.getElem?_eq_none_iff.mp e1
        exact .inl ⟨⟨vs, SqL.of w4, hl⟩, p2 σ2 H2 F2 S2 (Same.refl _)⟩
      | some d =>
        simp only [e1] at p2
        obtain ⟨v, e2, r2⟩ := w5.get e1
        refine .inr ⟨⟨vs, v, SqL.of w4, e2⟩, fun σ' H' => ∃ F ρ, Sim X.K X.mg B σ' H' F ρ ∧ PostS X B W F N0 (liveL i (forStep g is b) m (k + 1) ρ), fun σ' H' q => ⟨m, Nat.lt_succ_self _, q⟩, fun x H' hy => ?_⟩
        obtain ⟨rfl, hy⟩ := hy
        have e3 := hy vs (SqL.of w4)
        rw [e2] at e3
        cases e3
        refine ⟨F2, ρ2, d, S2, r2, ?_⟩
        have p3 := PostS.kill (turn_post (N := fun σ' H' => ∃ F ρ, Sim X.K X.mg B σ' H' F ρ ∧ PostS X B W F N0 (liveL i (forStep g is b) m (k + 1) ρ)) p2 fun ρ' σ' H'' F' S' t q => ⟨F', ρ', S', q⟩)
        unfold M.bind at p3
        cases q : g d ρ2 with
        | ok u ρ3 => rw [q] at p3; exact fun σ4 H4 F4 S4 s4 => ⟨F4, ρ3, S4, PostS.anti s4 p3⟩
        | err c fs ρ3 => rw [q] at p3; exact p3
        | bad => rw [q] at p3; exact p3
    | _ => exact p2.elim
theorem ss_forL {tg e : Expr} {i : Nat} {body : List Stmt} {g : D → M Unit} {b : M Fl} {pos : Pos} (is : List Nat) (hp : PassesOwn (model X.prog X.w) X.A X.env X.xe) (hc : X.calm = true) (hv : PE X e (tVar i)) (hg : STg X B W tg g) (hb : SSs X B W body b)
    (hs : ∀ x, foldedSetIterable e X.env x = pure x) : SS X B W (.For tg e body [] pos) (mForL i g is b) := by
  refine ps_mono (ps_for hp hc (pi_or (pi_list hv) (si_items (B := B) (W := W) (se_pv hv))) hg hb hs) fun D σ H ⟨F, ρ, S, p⟩ => ?_
  have old : PostS X B W F D (mFor (mItems (eVar i)) g is b ρ) → tFor (fun σ H R => iList X.K (tVar i) σ H R ∨ tG X B W (RJ X) (mItems (eVar i)) σ H R) (tT X B W g) (tS X B W b) D σ H := fun q => .inr (for_key S q)
  unfold mForL at p
  cases e1 : ρ[i]? with
  | none => simp only [e1] at p; exact old p
  | some s =>
    cases s with
    | io d =>
      cases d with
      | lst xs => simp only [e1] at p; exact .inl (live_key S e1 p)
      | _ => simp only [e1] at p; exact old p
    | _ => simp only [e1] at p; exact old p
/-! ## f(e), e a new list that f may change: it is let go afterwards -/
def mTmp (fn : Fn) (f : M (D × Bool)) : M D := f.bind fun r => fun ρ => match fn [if r.2 = true then .io r.1 else .val r.1] with
  | .ok d _ => .ok d ρ
  | _ => .bad
theorem tmp_in {σ : St} {H F : Hp} {ρ : Env} {d : D} {a : Addr} (S : Sim X.K X.mg B σ H F ρ) (hF : F a = none) (ho : Own X.K X.mg F (H a) d) : Sim X.K X.mg ⟨H, F, [(0, a)]⟩ [some (.ref a)] H F [.io d] := by
  refine ⟨S.sub, rfl, fun k s q => ?_, fun i j s t b q1 q2 m1 m2 e1 e2 => ?_, fun p hp => ?_, fun b o e _ => e, fun b _ => rfl, fun b e => e⟩
  · cases k with
    | zero => cases q; exact ⟨a, rfl, hF, List.mem_singleton.mpr rfl, ho⟩
    | succ k => cases q
  · cases i with
    | zero => cases j with
      | zero => rfl
      | succ j => cases q2
    | succ i => cases q1
  · rw [List.mem_singleton.mp hp]
    exact ⟨d, rfl, rfl⟩
theorem val_in {σ : St} {H F : Hp} {ρ : Env} {d : D} {v : V} (S : Sim X.K X.mg B σ H F ρ) (r : Rep X.K X.mg F d v) : Sim X.K X.mg ⟨H, F, []⟩ [some v] H F [.val d] := by
  refine ⟨S.sub, rfl, fun k s q => ?_, fun i j s t b q1 q2 m1 m2 e1 e2 => ?_, fun p hp => ?_, fun b o e _ => e, fun b _ => rfl, fun b e => e⟩
  · cases k with
    | zero => cases q; exact ⟨v, rfl, r⟩
    | succ k => cases q
  · cases i with
    | zero => cases q1; cases m1
    | succ i => cases q1
  · cases hp
theorem tmp_out {σ σ' : St} {H F H' F' : Hp} {ρ ρ' : Env} {io : List (Nat × Addr)} (S : Sim X.K X.mg B σ H F ρ) (hio : ∀ k a, (k, a) ∈ io → B.H0 a = none ∧ ∀ (i : Nat) (s : Sl), ρ[i]? = some s → s.mine = true → σ[i]? ≠ some (some (.ref a)))
    (S' : Sim X.K X.mg ⟨H, F, io⟩ σ' H' F' ρ') (sm : Same F F') : Sim X.K X.mg B σ H' F' ρ := by
  have own : ∀ {b : Addr} {d : D} {i : Nat} {s : Sl}, ρ[i]? = some s → s.mine = true → σ[i]? = some (some (.ref b)) → F b = none → Own X.K X.mg F (H b) d → F' b = none ∧ Own X.K X.mg F' (H' b) d := fun {b d i s} q m u1 u2 u4 => by
    obtain ⟨u, hu⟩ := u4.there
    have hk : H' b = some u := S'.keepH b u hu fun k hk => (hio k b hk).2 i s q m u1
    refine ⟨(S'.keepF b (by show H b ≠ none; rw [hu]; exact fun z => nomatch z)).trans u2, ?_⟩
    rw [hk, ← hu]
    exact u4.mono sm
  refine ⟨S'.sub, S.len, fun j s q => ?_, S.sep, S.ios, fun b o e n => ?_, fun b e => ?_, fun b e => ?_⟩
  · have r := S.slot j s q
    cases s with
    | un => trivial
    | val d => obtain ⟨v, u1, u2⟩ := r; exact ⟨v, u1, Rep.mono sm d v u2⟩
    | own d =>
      obtain ⟨b, u1, u2, u3, u4⟩ := r
      obtain ⟨w1, w2⟩ := own q rfl u1 u2 u4
      exact ⟨b, u1, w1, u3, w2⟩
    | io d =>
      obtain ⟨b, u1, u2, u3, u4⟩ := r
      obtain ⟨w1, w2⟩ := own q rfl u1 u2 u4
      exact ⟨b, u1, w1, u3, w2⟩
  · refine S'.keepH b o (S.keepH b o e n) fun k hk => ?_
    rw [(hio k b hk).1] at e
    cases e
  · exact (S'.keepF b (S.there b e)).trans (S.keepF b e)
  · exact S'.there b (S.there b e)
theorem se_tmp {k : Nat} {f : Addr} {fd : FuncData} {ps : List Str} {fn : Fn} {x : Str} {p pos : Pos} {e : Expr} {fe : M (D × Bool)} (F : FnOk X.prog X.w X.K X.mg X.base (L2.CX X.prog X.w) k f fd ps (spD X.K X.mg 1 fn)) (hr : Room k X.A) (tk : Takes X W)
    (hg : Gl X x) (hm : X.mg x = some (.ref f)) (hk : PySem.W.keepIn X.K (.ref f) = true) (hb : Binds X.K fd ps []) (ha : SV X B W e fe)
    (hdb : (x == ("__debug__" : Str)) = false) (he : starEach [e] X.env = (false, eval e X.env) :: starEach [] X.env) (hpl : (backTo pos (starEach [] X.env)).any (·.1) = false) :
    SE X B W (.Call (.Name x p) [e] [] pos) (mTmp fn fe) := by
  refine pe_mono (pe_callS F hr hg hm hk hb (fun σ => passAt tk σ) (pa_cons ha pa_nil he) hdb he hpl) fun σ H Q ⟨F0, ρ, a⟩ => ?_
  refine a.go fun v H1 F1 ρ1 r s1 r1 hh => ?_
  show spD X.K X.mg 1 fn [v] H1 Q _
  have pp := hh.post
  have S1 := hh.sim
  obtain ⟨d, nw⟩ := r
  cases nw with
  | true =>
    have r1 : NewR X B H1 F1 σ ρ1 d v := r1
    obtain ⟨b, rfl, n1, n2, n3, n4⟩ := r1
    refine ⟨rfl, F1, [.io d], [(0, b)], tmp_in S1 n1 n3, ?_⟩
    cases e1 : fn [.io d] with
    | ok d2 ρ2 =>
      simp only [if_true, e1] at pp
      intro σ' v' H' F' S' t r'
      refine pp v' H' F' (tmp_out S1 (fun k c hk => ?_) S' t) t r'
      cases List.mem_singleton.mp hk
      exact ⟨n2, n4⟩
    | err c fs ρ2 => simp only [if_true, e1] at pp; exact pp.elim
    | bad => simp only [if_true, e1] at pp; exact pp.elim
  | false =>
    have r1 : Rep X.K X.mg F1 d v := r1
    refine ⟨rfl, F1, [.val d], [], val_in S1 r1, ?_⟩
    cases e1 : fn [.val d] with
    | ok d2 ρ2 =>
      simp only [Bool.false_eq_true, if_false, e1] at pp
      intro σ' v' H' F' S' t r'
      exact pp v' H' F' (tmp_out S1 (fun k c hk => by cases hk) S' t) t r'
    | err c fs ρ2 => simp only [Bool.false_eq_true, if_false, e1] at pp; exact pp.elim
    | bad => simp only [Bool.false_eq_true, if_false, e1] at pp; exact pp.elim
end
/-! ## how they run -/
theorem wp_forLv {i : Nat} {g : D → M Unit} {is : List Nat} {b : M Fl} {ρ : Env} {E : EQ} {d : D} {Q : Fl → Env → Prop} (e : ρ[i]? = some (.val d)) : wp (mForL i g is b) ρ Q E = wp (mFor (mItems (eVar i)) g is b) ρ Q E := by
  have h : mForL i g is b ρ = mFor (mItems (eVar i)) g is b ρ := by
    unfold mForL
    rw [e]
  unfold wp
  rw [h]
theorem live_ok {i : Nat} {step : D → M Fl} {ρ : Env} {xs : List D} (e : ρ[i]? = some (.io (.lst xs))) (hs : ∀ d ∈ xs, step d ρ = .ok .next ρ) : ∀ (n k : Nat), xs.length - k < n → liveL i step n k ρ = .ok .next ρ
  | 0, k, h => absurd h (Nat.not_lt_zero _)
  | n + 1, k, h => by
    show (match ρ[i]? with
      | some (.io (.lst xs)) => match xs[k]? with
        | some d => (step d ρ).turn (liveL i step n (k + 1))
        | none => .ok .next ρ
      | _ => .bad) = _
    rw [e]
    dsimp only
    cases e1 : xs[k]? with
    | none => rfl
    | some d =>
      dsimp only
      obtain ⟨hk, _⟩ := List.getElem?_eq_some_iff.mp e1
      rw [hs d (List.mem_of_getElem? e1)]
      exact live_ok e hs n (k + 1) (by omega)
theorem wp_forL {i : Nat} {g : D → M Unit} {is : List Nat} {b : M Fl} {ρ : Env} {E : EQ} {xs : List D} {Q : Fl → Env → Prop} (e : ρ[i]? = some (.io (.lst xs))) (hs : ∀ d ∈ xs, wp (forStep g is b d) ρ (fun r ρ' => r = .next ∧ ρ' = ρ) noE) (hq : Q .next ρ) : wp (mForL i g is b) ρ Q E := by
  have h : mForL i g is b ρ = .ok .next ρ := by
    unfold mForL
    rw [e]
    exact live_ok e (fun d hd => by
      have := hs d hd
      unfold wp at this
      cases k : forStep g is b d ρ with
      | ok r ρ' => rw [k] at this; obtain ⟨rfl, rfl⟩ := this; rfl
      | err c fs ρ' => rw [k] at this; exact this.elim
      | bad => rw [k] at this; exact this.elim) _ _ (by omega)
  unfold wp
  rw [h]
  exact hq
theorem wp_tmp {fn : Fn} {f : M (D × Bool)} {ρ : Env} {E : EQ} {Q : D → Env → Prop} (h : wp f ρ (fun r ρ' => r.2 = true ∧ ∃ d ρ2, fn [.io r.1] = .ok d ρ2 ∧ Q d ρ') E) : wp (mTmp fn f) ρ Q E := by
  unfold mTmp
  rw [wp_bind]
  refine wp_mono h (fun r ρ' hh => ?_) fun _ _ _ h => h
  obtain ⟨h1, d, ρ2, h2, h3⟩ := hh
  unfold wp
  dsimp only
  rw [if_pos h1, h2]
  exact h3
theorem io_of {n : Nat} {body : M Fl} {d0 : D} (h : wp body (.io d0 :: List.replicate (n - 1) .un) (fun r _ => r = .next) noE) : ∃ ρ2, runDef n body [.io d0] = .ok .non ρ2 := by
  unfold wp at h
  unfold runDef
  have e0 : [Sl.io d0] ++ List.replicate (n - [Sl.io d0].length) Sl.un = .io d0 :: List.replicate (n - 1) .un := rfl
  rw [e0]
  cases e : body (.io d0 :: List.replicate (n - 1) .un) with
  | ok r ρ' => rw [e] at h; cases h; exact ⟨ρ', rfl⟩
  | err c fs ρ' => rw [e] at h; exact h.elim
  | bad => rw [e] at h; exact h.elim
end DL

/-! objects of own classes: made by __init__, their fields, their methods -/
namespace L2
open PySem PySem.Spec PyProof.Rows
section
variable {X : Cx} {CX : CXT} {k : Nat} {f C : Addr} {fd : FuncData} {ps : List Str} {sp : Sp} {E : St → XK} {x m : Str} {p pos apos : Pos} {e o : Expr} {es : List Expr} {ta : TE} {t : TA}
theorem pe_methE {pl : Sem Bool} (he : PE X o ta) (c : Cls X.K C) (hm : Meth X.K C m f) (F : FnOk X.prog X.w X.K X.mg X.base CX k f fd ps sp) (hr : Room k X.A) (hb : Binds X.K fd ps []) (hx : ∀ σ, PassesAt CX X σ (E σ)) (ha : PA X (e :: es) t)
    (hst : starEach (e :: es) X.env = (false, eval e X.env) :: starEach es X.env) (hpl : (backTo pos (starEach es X.env)).any (·.1) = false)
    (ht : eval (.Call (.Attribute o m apos) (e :: es) [] pos) X.env = (do
      let ov ← eval o X.env
      standAt apos.atName
      let (f, first) ← holding [ov] (getMethod ov m pl)
      callWith pos f first (backTo pos (starEach (e :: es) X.env)) (backToKw pos (keywordEach [] X.env)))) :
    PE X (.Call (.Attribute o m apos) (e :: es) [] pos) (fun σ H Q => tMeth C m sp [] (E σ) ta t σ H Q) := by
  refine ⟨fun pins s σ H Q I h => ?_⟩
  refine PySem.W.methodCall_KW (pl := pl) (thn (he.run pins s σ H _ I h) fun u s1 ⟨x, H1, I1, rx, a, dx, fs, ex, ea, l, q⟩ => ?_) ht
  subst ex
  obtain rfl : u = Value.ref a := rx
  refine getmeth_ok I1 ea c hm l ?_
  refine PySem.W.callWith_K (first := [.ref a]) (h₀ := X.base) I.ok.mod.kin hm.kp (thn (ha.run pos pins s1 σ H1 _ I1 q) fun us s2 ⟨vs, H2, I2, r, q2⟩ => ⟨I2.kIn, ?_⟩) hst hpl
  have q3 : sp (V.ref a :: (vs ++ [])) H2 Q (E σ) := q2
  rw [List.append_nil] at q3
  have q2 := q3
  exact run_fnS (us := .ref a :: us) (vs := .ref a :: vs) F hr hb (hx σ) I2 (.cons rfl r) q2
theorem pe_methE0 {pl : Sem Bool} (he : PE X o ta) (c : Cls X.K C) (hm : Meth X.K C m f) (F : FnOk X.prog X.w X.K X.mg X.base CX k f fd ps sp) (hr : Room k X.A) (hb : Binds X.K fd ps []) (hx : ∀ σ, PassesAt CX X σ (E σ))
    (ht : eval (.Call (.Attribute o m apos) [] [] pos) X.env = (do
      let ov ← eval o X.env
      standAt apos.atName
      let (f, first) ← holding [ov] (getMethod ov m pl)
      callWith pos f first (backTo pos (starEach [] X.env)) (backToKw pos (keywordEach [] X.env)))) :
    PE X (.Call (.Attribute o m apos) [] [] pos) (fun σ H Q => tMeth C m sp [] (E σ) ta tNil σ H Q) := by
  refine ⟨fun pins s σ H Q I h => ?_⟩
  refine PySem.W.methodCall_KW (pl := pl) (thn (he.run pins s σ H _ I h) fun u s1 ⟨x, H1, I1, rx, a, dx, fs, ex, ea, l, q⟩ => ?_) ht
  subst ex
  obtain rfl : u = Value.ref a := rx
  refine getmeth_ok I1 ea c hm l ?_
  have q2 : sp [.ref a] H1 Q (E σ) := q
  exact PySem.W.callWith_K0 (first := [.ref a]) I1.kIn hm.kp (run_fnS (us := [.ref a]) (vs := [.ref a]) F hr hb (hx σ) I1 (.cons rfl .nil) q2)
theorem run_makeE {pins : List (Addr × Obj)} {σ : St} {H : Hp} {s : Shared} {Q : VK} {us : List Value} {vs : List V} (M : Mk X.K C f) (F : FnOk X.prog X.w X.K X.mg X.base CX k f fd ps sp) (hr : Room (k + 1) X.A) (hb : Binds X.K fd ps [])
    (hx : PassesAt CX X σ (E σ)) (I : Inv X pins σ H s) (r : Vals vs us)
    (h : ∀ x dx, H x = none → H dx = none → dx ≠ x → sp (.ref x :: vs) (upd (upd H dx (.own x)) x (.ins C dx [])) (fun v H2 => v = .non ∧ Q (.ref x) H2) (E σ)) :
    wpAny (model X.prog X.w) X.A (call (.ref C) us) (EP X pins σ Q) X.xe s := by
  have hq := h (s.heap.objs.size + 1) s.heap.objs.size (I.hok.fresh (Nat.le_succ _)) (I.hok.fresh (Nat.le_refl _)) (Nat.ne_of_lt (Nat.lt_succ_self _))
  have I2 := Inv.made (C := C) I
  have r2 : Vals (V.ref (s.heap.objs.size + 1) :: vs) (Value.ref (s.heap.objs.size + 1) :: us) := .cons rfl r
  have hl : (Value.ref (s.heap.objs.size + 1) :: us).length = ps.length := by
    have e := r2.length
    rw [F.len _ _ _ _ hq] at e
    exact e.symm
  have b := hb _ (Value.ref (s.heap.objs.size + 1) :: us) I2.kIn (by rw [List.append_nil]; exact hl)
  rw [List.append_nil] at b
  refine wpAny_call (make_map (f := f) I.kIn M.makes M.init (beq_iff_eq.mp M.fn) (codeAny_mono (F.run _ X.stack _ _ ⟨Value.ref (s.heap.objs.size + 1) :: us, []⟩ (Value.ref (s.heap.objs.size + 1) :: us) _ _ (E σ) (hr.make C us [])
    (I2.env0.make C us []) b r2 hq) fun r s' hq' => ?_))
  cases r with
  | error e => exact hx pins _ _ e s' I2 hq'
  | ok fl =>
    cases fl with
    | ret u =>
      obtain ⟨v, H', I3, rv, ev, q3⟩ := I2.after hq'
      subst ev
      exact ⟨rv, ⟨V.ref (s.heap.objs.size + 1), H', I3, rfl, q3⟩⟩
    | next => exact False.elim hq'
    | brk => exact False.elim hq'
    | cont => exact False.elim hq'
theorem pe_makeE (M : Mk X.K C f) (F : FnOk X.prog X.w X.K X.mg X.base CX k f fd ps sp) (hr : Room (k + 1) X.A) (hg : Gl X x) (hm : X.mg x = some (.ref C)) (hb : Binds X.K fd ps []) (hx : ∀ σ, PassesAt CX X σ (E σ))
    (ha : PA X (e :: es) t) (hdb : (x == ("__debug__" : Str)) = false) (he : starEach (e :: es) X.env = (false, eval e X.env) :: starEach es X.env) (hpl : (backTo pos (starEach es X.env)).any (·.1) = false) :
    PE X (.Call (.Name x p) (e :: es) [] pos) (fun σ H Q => tMake C sp [] (E σ) t σ H Q) := by
  refine ⟨fun pins s σ H Q I h => ?_⟩
  refine wpAny_Call_Name_kw (ld_glob I hg hm ?_ hdb)
  refine PySem.W.callWith_K (h₀ := X.base) I.ok.mod.kin M.kp (thn (ha.run pos pins s σ H _ I h) fun us s1 ⟨vs, H1, I1, r, q⟩ => ⟨I1.kIn, ?_⟩) he hpl
  refine run_makeE (E := E) M F hr hb (hx σ) I1 r fun x dx h1 h2 h3 => ?_
  have q2 : sp (.ref x :: (vs ++ [])) (upd (upd H1 dx (.own x)) x (.ins C dx [])) (fun v H2 => v = .non ∧ Q (.ref x) H2) (E σ) := q x dx h1 h2 h3
  rw [List.append_nil] at q2
  exact q2
end
end L2
namespace DL
open PySem PySem.Spec PyProof.Rows L2
/-! fields -/
def opFld (cs : List Str) (f : Str) : Op1
  | .obj c fs => if c ∈ cs then (fs.lookup f).map (·, false) else none
  | _ => none
section
variable {X : Cx} {B : Bd} {W : WX}
theorem RepB.obj {H F : Hp} {c : Str} {fs : List (Str × D)} {v : V} (s : Same F H) (h : RepB X H F (.obj c fs) v) : ∃ a C dx fv, v = .ref a ∧ X.mg c = some (.ref C) ∧ H a = some (.ins C dx fv) ∧ RepF X.K X.mg F fs fv := by
  rcases h with h | ⟨a, rfl, _, C, dx, fv, h1, h2, h3⟩
  · simp only [Rep] at h
    obtain ⟨a, C, dx, fv, rfl, h1, h2, h3⟩ := h
    exact ⟨a, C, dx, fv, rfl, h1, s _ _ h2, h3⟩
  · exact ⟨a, C, dx, fv, rfl, h1, h2, h3⟩
def FldOk (K : PySem.W.Frag) (mg : Str → Option Value) (cs : List Str) (f : Str) : Prop := ∀ c ∈ cs, ∀ C, mg c = some (.ref C) → Cls K C ∧ NoAttr K C f
theorem sv_fld {cs : List Str} {f : Str} {e : Expr} {fe : M OV} {pos : Pos} (hf : FldOk X.K X.mg cs f) (ha : SO X B W e fe) (hb : attributeBase e f X.env (eval e X.env) = eval e X.env) : SV X B W (.Attribute e f pos) (mUn (opFld cs f) fe) :=
  pe_mono (pe_fld ha hb) fun σ H Q ⟨F, ρ, h⟩ => h.go fun x H1 F1 ρ1 o s1 r1 h1 => by
    obtain ⟨F2, dx, d, nw, sub, hx, e, an⟩ := op1_ans h1 r1
    cases dx with
    | obj c fs =>
      have e' : (if c ∈ cs then (fs.lookup f).map (·, false) else none) = some (d, nw) := e
      by_cases hc : c ∈ cs
      · rw [if_pos hc] at e'
        cases el : fs.lookup f with
        | none => rw [el] at e'; cases e'
        | some d' =>
          rw [el] at e'
          cases e'
          obtain ⟨a, C, dx, fv, rfl, k1, k2, k3⟩ := hx.obj sub
          obtain ⟨v, l1, l2⟩ := RepF.look k3 el
          obtain ⟨q1, q2⟩ := hf c hc C k1
          exact ⟨a, C, dx, fv, v, rfl, k2, q1, q2, l1, an v _ F2 (Grow.refl sub) l2⟩
      · rw [if_neg hc] at e'; cases e'
    | _ => cases e
/-! a field is set -/
def putFD (f : Str) (d : D) : List (Str × D) → List (Str × D)
  | [] => [(f, d)]
  | (g, x) :: r => if g = f then (g, d) :: r else (g, x) :: putFD f d r
def mFldSet (i : Nat) (cs : List Str) (f : Str) (val : M D) : M Fl := val.bind fun d => fun ρ => match ρ[i]? with
  | some s => match s.obj with
    | some (.obj c fs) => if c ∈ cs ∧ fs.length < 1000 then .ok .next (ρ.set i (s.upd (.obj c (putFD f d fs)))) else .bad
    | _ => .bad
  | none => .bad
theorem RepF.put {K : PySem.W.Frag} {mg : Str → Option Value} {F : Hp} {f : Str} {d : D} {v : V} (r : Rep K mg F d v) : ∀ {fs : List (Str × D)} {fv : List (Str × V)}, RepF K mg F fs fv → RepF K mg F (putFD f d fs) (putF f v fv)
  | [], _, h => by
    simp only [RepF] at h
    subst h
    simp only [putFD, putF, RepF]
    exact ⟨v, [], rfl, r, rfl⟩
  | (g, x) :: fs, _, h => by
    simp only [RepF] at h
    obtain ⟨w, q, rfl, h1, h2⟩ := h
    unfold putFD putF
    by_cases e : g = f
    · rw [if_pos e, if_pos e]
      simp only [RepF]
      exact ⟨v, q, rfl, r, h2⟩
    · rw [if_neg e, if_neg e]
      simp only [RepF]
      exact ⟨w, _, rfl, h1, RepF.put r h2⟩
theorem RepF.length {K : PySem.W.Frag} {mg : Str → Option Value} {F : Hp} : ∀ {fs : List (Str × D)} {fv : List (Str × V)}, RepF K mg F fs fv → fs.length = fv.length
  | [], _, h => by simp only [RepF] at h; subst h; rfl
  | (g, x) :: fs, _, h => by
    simp only [RepF] at h
    obtain ⟨w, q, rfl, h1, h2⟩ := h
    simp [RepF.length h2]
theorem ss_fld {i : Nat} {cs : List Str} {f : Str} {o e : Expr} {fe : M D} {pos pos' : Pos} (hf : FldOk X.K X.mg cs f) (ho : PE X o (tVar i)) (he : SE X B W e fe) (hs : swapsWith e (some (.Attribute o f pos')) pos.line X.env = pure false) :
    SS X B W (.Assign [.Attribute o f pos'] e pos) (mFldSet i cs f fe) :=
  ps_mono (ps_fld ho he hs) fun D σ H ⟨F, ρ, S, p⟩ => At.goS S p fun v H1 F1 ρ1 d s1 S1 r1 p1 => by
    cases e1 : ρ1[i]? with
    | none => rw [e1] at p1; exact p1.elim
    | some s =>
      rw [e1] at p1
      cases e2 : s.obj with
      | none => simp only [e2] at p1; exact p1.elim
      | some d0 =>
        cases d0 with
        | obj c fs =>
          simp only [e2] at p1
          by_cases hc : c ∈ cs ∧ fs.length < 1000
          · rw [if_pos hc] at p1
            obtain ⟨a, h1, h2, ⟨C, dx, fv, k1, k2, k3⟩, h4, h5⟩ := S1.mine_at e1 e2
            obtain ⟨q1, q2⟩ := hf c hc.1 C k1
            refine ⟨.ref a, h1, a, C, dx, fv, rfl, k2, q1, q2, by rw [← k3.length]; exact hc.2, ?_⟩
            exact p1 _ _ F1 (S1.change e1 e2 h1 ⟨C, dx, _, k1, rfl, k3.put r1⟩) (Same.refl _)
          · rw [if_neg hc] at p1; exact p1.elim
        | _ => simp only [e2] at p1; exact p1.elim
/-! methods -/
def isObj (c m : Str) : D → Bool
  | .obj c' fs => (c' == c) && (fs.lookup m).isNone
  | _ => false
def mMet (c m : Str) (n : Nat) (fn : Fn) (fo : M D) (args : M (List OV)) : M D := fo.bind fun d => if isObj c m d = true then args.bind fun os => callOn n fn (.now d :: os) else fun _ => .bad
structure ClsF (K : PySem.W.Frag) (mg : Str → Option Value) (c : Str) (C : Addr) : Prop where
  g : mg c = some (.ref C)
  cls : Cls K C
theorem obj_of {c m : Str} {C : Addr} {F H : Hp} {d : D} {x : V} (hc : ClsF X.K X.mg c C) (s : Same F H) (r : Rep X.K X.mg F d x) (e : isObj c m d = true) : ∃ a dx fv, x = .ref a ∧ H a = some (.ins C dx fv) ∧ fv.lookup m = none := by
  cases d with
  | obj c' fs =>
    have e' : ((c' == c) && (fs.lookup m).isNone) = true := e
    rw [Bool.and_eq_true] at e'
    obtain rfl : c' = c := beq_iff_eq.mp e'.1
    simp only [Rep] at r
    obtain ⟨a, C', dx, fv, rfl, h1, h2, h3⟩ := r
    rw [hc.g] at h1
    cases h1
    refine ⟨a, dx, fv, rfl, s _ _ h2, ?_⟩
    have key : ∀ {fs : List (Str × D)} {fv : List (Str × V)}, RepF X.K X.mg F fs fv → (fs.lookup m).isNone = true → fv.lookup m = none := by
      intro fs
      induction fs with
      | nil => intro fv h _; simp only [RepF] at h; subst h; rfl
      | cons g fs ih =>
        obtain ⟨g, x⟩ := g
        intro fv h e
        simp only [RepF] at h
        obtain ⟨w, q, rfl, h1, h2⟩ := h
        cases hb : m == g with
        | true => simp only [List.lookup, hb] at e; cases e
        | false =>
          simp only [List.lookup, hb] at e ⊢
          exact ih h2 e
    exact key h3 e'.2
  | _ => cases e
theorem se_met {pl : Sem Bool} {k : Nat} {f C : Addr} {fd : FuncData} {ps : List Str} {fn : Fn} {n : Nat} {c m : Str} {apos pos : Pos} {o e : Expr} {es : List Expr} {fo : M D} {g : M (List OV)} (F : FnOk X.prog X.w X.K X.mg X.base (L2.CX X.prog X.w) k f fd ps (spD X.K X.mg n fn)) (hr : Room k X.A) (tk : Takes X W)
    (hc : ClsF X.K X.mg c C) (hm : Meth X.K C m f) (hb : Binds X.K fd ps []) (ho : SE X B W o fo) (ha : SOs X B W (e :: es) g)
    (hst : starEach (e :: es) X.env = (false, eval e X.env) :: starEach es X.env) (hpl : (backTo pos (starEach es X.env)).any (·.1) = false)
    (ht : eval (.Call (.Attribute o m apos) (e :: es) [] pos) X.env = (do
      let ov ← eval o X.env
      standAt apos.atName
      let (f, first) ← holding [ov] (getMethod ov m pl)
      callWith pos f first (backTo pos (starEach (e :: es) X.env)) (backToKw pos (keywordEach [] X.env)))) :
    SE X B W (.Call (.Attribute o m apos) (e :: es) [] pos) (mMet c m n fn fo g) := by
  refine pe_mono (pe_methE ho hc.cls hm F hr hb (fun σ => passAt tk σ) ha hst hpl ht) fun σ H Q ⟨F0, ρ, a⟩ => ?_
  refine a.go fun x H1 F1 ρ1 d s1 r1 hh => ?_
  by_cases hd : isObj c m d = true
  · rw [if_pos hd] at hh
    obtain ⟨b, dx, fv, rfl, k1, k2⟩ := obj_of hc hh.sim.sub r1 hd
    refine ⟨b, dx, fv, rfl, k1, k2, hh.go fun vs H2 F2 ρ2 os s2 r2 h2 => ?_⟩
    rw [List.append_nil]
    exact sp_of (os := .now d :: os) ⟨.ref b, vs, rfl, Rep.mono s2 _ _ r1, r2⟩ h2
  · rw [if_neg hd] at hh
    exact hh.post.elim
theorem se_met0 {pl : Sem Bool} {k : Nat} {f C : Addr} {fd : FuncData} {ps : List Str} {fn : Fn} {n : Nat} {c m : Str} {apos pos : Pos} {o : Expr} {fo : M D} (F : FnOk X.prog X.w X.K X.mg X.base (L2.CX X.prog X.w) k f fd ps (spD X.K X.mg n fn)) (hr : Room k X.A) (tk : Takes X W)
    (hc : ClsF X.K X.mg c C) (hm : Meth X.K C m f) (hb : Binds X.K fd ps []) (ho : SE X B W o fo)
    (ht : eval (.Call (.Attribute o m apos) [] [] pos) X.env = (do
      let ov ← eval o X.env
      standAt apos.atName
      let (f, first) ← holding [ov] (getMethod ov m pl)
      callWith pos f first (backTo pos (starEach [] X.env)) (backToKw pos (keywordEach [] X.env)))) :
    SE X B W (.Call (.Attribute o m apos) [] [] pos) (mMet c m n fn fo (M.ret [])) := by
  refine pe_mono (pe_methE0 ho hc.cls hm F hr hb (fun σ => passAt tk σ) ht) fun σ H Q ⟨F0, ρ, a⟩ => ?_
  refine a.go fun x H1 F1 ρ1 d s1 r1 hh => ?_
  by_cases hd : isObj c m d = true
  · rw [if_pos hd] at hh
    obtain ⟨b, dx, fv, rfl, k1, k2⟩ := obj_of hc hh.sim.sub r1 hd
    refine ⟨b, dx, fv, rfl, k1, k2, ?_⟩
    show spD X.K X.mg n fn [V.ref b] H1 Q (WE W σ)
    exact sp_of (os := [.now d]) ⟨.ref b, [], rfl, r1, rfl⟩ hh
  · rw [if_neg hd] at hh
    exact hh.post.elim
/-! making -/
def mMake (c : Str) (n : Nat) (fn : Fn) (args : M (List D)) : M (D × Bool) := args.bind fun ds => fun ρ => if ds.length = n then
    match fn (.io (.obj c []) :: ds.map .val) with
    | .ok .non (r0 :: _) => match r0.obj with
      | some d => .ok (d, true) ρ
      | none => .bad
    | .err c fs _ => .err c fs ρ
    | _ => .bad
  else .bad
theorem vals_at {F : Hp} : ∀ {ds : List D} {vs : List V} {k : Nat} {s : Sl}, RepL X.K X.mg F ds vs → (ds.map Sl.val)[k]? = some s → ∃ d v, s = .val d ∧ vs[k]? = some v ∧ Rep X.K X.mg F d v := fun {ds vs k s} h q => by
  rw [List.getElem?_map] at q
  cases e : ds[k]? with
  | none => rw [e] at q; cases q
  | some d =>
    rw [e] at q
    cases q
    obtain ⟨v, h1, h2⟩ := h.get e
    exact ⟨d, v, rfl, h1, h2⟩
theorem sv_make {k : Nat} {f C : Addr} {fd : FuncData} {ps : List Str} {fn : Fn} {n : Nat} {c : Str} {p pos : Pos} {e : Expr} {es : List Expr} {g : M (List D)} (F : FnOk X.prog X.w X.K X.mg X.base (L2.CX X.prog X.w) k f fd ps (spD X.K X.mg (n + 1) fn)) (M : Mk X.K C f) (hr : Room (k + 1) X.A) (tk : Takes X W)
    (hg : Gl X c) (hm : X.mg c = some (.ref C)) (hb : Binds X.K fd ps []) (ha : SDs X B W (e :: es) g)
    (hdb : (c == ("__debug__" : Str)) = false) (he : starEach (e :: es) X.env = (false, eval e X.env) :: starEach es X.env) (hpl : (backTo pos (starEach es X.env)).any (·.1) = false) :
    SV X B W (.Call (.Name c p) (e :: es) [] pos) (mMake c n fn g) := by
  refine pe_mono (pe_makeE M F hr hg hm hb (fun σ => passAt tk σ) ha hdb he hpl) fun σ H Q ⟨F0, ρ, a⟩ => ?_
  refine a.go fun vs H1 F1 ρ1 ds s1 r1 hh => ?_
  intro x dx nx ndx nex
  rw [List.append_nil]
  have pp := hh.post
  have S1 := hh.sim
  have r1 : RepL X.K X.mg F1 ds vs := r1
  by_cases hl : ds.length = n
  · simp only [if_pos hl] at pp
    generalize hH : upd (upd H1 dx (.own x)) x (.ins C dx []) = H2
    have g1 : Same H1 H2 := by rw [← hH]; exact (same_upd ndx).trans (same_upd (by rw [upd_ne (fun z => nex z.symm)]; exact nx))
    have nFx : ∀ {b : Addr}, H1 b = none → F1 b = none := fun {b} e => by
      cases q : F1 b with
      | none => rfl
      | some u => rw [S1.sub b u q] at e; cases e
    have gw : Grow H1 F1 H2 F1 := ⟨g1, Same.refl _, S1.sub.trans g1, fun _ _ => rfl⟩
    have S2 : Sim X.K X.mg B σ H2 F1 ρ1 := S1.grow gw
    have atx : H2 x = some (.ins C dx []) := by rw [← hH, upd_same]
    have hsep : B.H0 x = none ∧ ∀ (i : Nat) (s : Sl), ρ1[i]? = some s → s.mine = true → σ[i]? ≠ some (some (.ref x)) := by
      refine ⟨?_, fun i s q m e => mine_there S1 q m e nx⟩
      cases z : B.H0 x with
      | none => rfl
      | some o => exact absurd nx (S1.there x (by rw [z]; exact fun z => nomatch z))
    have hio : ∀ k a, (k, a) ∈ ([(0, x)] : List (Nat × Addr)) → B.H0 a = none ∧ ∀ (i : Nat) (s : Sl), ρ1[i]? = some s → s.mine = true → σ[i]? ≠ some (some (.ref a)) := fun k a hk => by
      cases List.mem_singleton.mp hk
      exact hsep
    refine ⟨by rw [List.length_cons, ← r1.length, hl], F1, .io (.obj c []) :: ds.map .val, [(0, x)], ?_, ?_⟩
    · refine ⟨gw.sub, by simp [r1.length], fun j s q => ?_, fun i j s t b q1 q2 m1 m2 e1 e2 => ?_, fun p hp => ?_, fun b o e _ => e, fun b _ => rfl, fun b e => e⟩
      · cases j with
        | zero => cases q; exact ⟨x, rfl, nFx nx, List.mem_singleton.mpr rfl, C, dx, [], hm, atx, by simp only [RepF]⟩
        | succ j =>
          obtain ⟨d, v, rfl, h1, h2⟩ := vals_at r1 (show (ds.map Sl.val)[j]? = some s from q)
          exact ⟨v, by show (vs.map some)[j]? = _; rw [List.getElem?_map, h1]; rfl, h2⟩
      · have key : ∀ {i : Nat} {s : Sl}, (Sl.io (.obj c []) :: ds.map Sl.val)[i]? = some s → s.mine = true → i = 0 := fun {i s} q m => by
          cases i with
          | zero => rfl
          | succ i =>
            obtain ⟨d, v, rfl, _, _⟩ := vals_at r1 (show (ds.map Sl.val)[i]? = some s from q)
            cases m
        rw [key q1 m1, key q2 m2]
      · rw [List.mem_singleton.mp hp]
        exact ⟨_, rfl, rfl⟩
    · cases e1 : fn (.io (.obj c []) :: ds.map .val) with
      | ok d0 ρ' =>
        rw [e1] at pp
        cases d0 with
        | non =>
          cases ρ' with
          | nil => exact pp.elim
          | cons r0 rest =>
            simp only at pp
            cases e2 : r0.obj with
            | none => simp only [e2] at pp; exact pp.elim
            | some d =>
              simp only [e2] at pp
              intro σ' v H3 F3 S' s' rv
              have hv : v = .non := by simpa only [Rep] using rv
              refine ⟨hv, pp (.ref x) H3 F3 (tmp_out S2 hio S' s') s' ?_⟩
              obtain ⟨a', q1, q2, q3, q4, q5⟩ := S'.mine_at (i := 0) rfl e2
              obtain ⟨d', z1, z2⟩ := S'.ios (0, x) (List.mem_singleton.mpr rfl)
              rw [z2] at q1
              cases q1
              unfold RV
              rw [if_pos rfl]
              exact ⟨x, rfl, q2, hsep.1, q3, hsep.2⟩
        | _ => exact pp.elim
      | err c' fs ρ' =>
        rw [e1] at pp
        exact fun σ' cls dd H3 F3 S' t r' => pp cls dd H3 F3 (tmp_out S2 hio S' t) t r'
      | bad => rw [e1] at pp; exact pp.elim
  · simp only [if_neg hl] at pp
    exact pp.elim
end
section
variable {ρ : Env} {E : EQ}
@[simp, simp ↓] theorem wp_mMet {c m : Str} {n : Nat} {fn : Fn} {fo : M D} {args : M (List OV)} {Q : D → Env → Prop} : wp (mMet c m n fn fo args) ρ Q E = wp fo ρ (fun d ρ1 => isObj c m d = true ∧ wp args ρ1 (fun os ρ2 => wp (callOn n fn (.now d :: os)) ρ2 Q E) E) E := by
  unfold mMet
  rw [wp_bind]
  congr 1; funext d ρ1
  by_cases h : isObj c m d = true
  · rw [if_pos h, wp_bind]; simp [h]
  · rw [if_neg h, wp_bad]; simp [h]
/-- a making with data alone -/
def Fn.make (fn : Fn) (c : Str) (ds : List D) : Res := match fn (.io (.obj c []) :: ds.map .val) with
  | .ok .non (r0 :: _) => match r0.obj with
    | some d => .ok d
    | none => .bad
  | .err c fs _ => .err c fs
  | _ => .bad
@[simp, simp ↓] theorem wp_mMake {c : Str} {n : Nat} {fn : Fn} {args : M (List D)} {Q : D × Bool → Env → Prop} : wp (mMake c n fn args) ρ Q E = wp args ρ (fun ds ρ1 => ds.length = n ∧ (fn.make c ds).go (fun d => Q (d, true) ρ1) (fun c fs => E c fs ρ1)) E := by
  unfold mMake
  rw [wp_bind]
  congr 1; funext ds ρ1
  unfold wp Fn.make
  by_cases h : ds.length = n
  · simp only [h, if_true, true_and]
    cases fn (.io (.obj c []) :: ds.map .val) with
    | ok d ρ' =>
      cases d with
      | non =>
        cases ρ' with
        | nil => rfl
        | cons r0 rest =>
          dsimp only
          cases r0.obj <;> rfl
      | _ => rfl
    | err _ _ _ => rfl
    | bad => rfl
  · simp only [h, if_false, false_and]
theorem make_of {n : Nat} {body : M Fl} {c : Str} {ds : List D} {d : D} (h : wp body ((.io (.obj c []) :: ds.map Sl.val) ++ List.replicate (n - (ds.length + 1)) .un) (fun r ρ' => r = .next ∧ ∃ s r, ρ' = s :: r ∧ s.obj = some d) noE) : Fn.make (runDef n body) c ds = .ok d := by
  unfold wp at h
  unfold Fn.make runDef
  rw [List.length_cons, List.length_map]
  cases e : body ((.io (.obj c []) :: ds.map Sl.val) ++ List.replicate (n - (ds.length + 1)) .un) with
  | ok r ρ' =>
    rw [e] at h
    obtain ⟨rfl, s, r, rfl, hs⟩ := h
    dsimp only
    rw [hs]
  | err c fs ρ' => rw [e] at h; exact h.elim
  | bad => rw [e] at h; exact h.elim
theorem make_ofE {n : Nat} {body : M Fl} {c : Str} {ds : List D} {c0 : Str} {fs0 : List (Str × D)} (h : wp body ((.io (.obj c []) :: ds.map Sl.val) ++ List.replicate (n - (ds.length + 1)) .un) (fun _ _ => False) (fun c fs _ => c = c0 ∧ fs = fs0)) : Fn.make (runDef n body) c ds = .err c0 fs0 := by
  unfold wp at h
  unfold Fn.make runDef
  rw [List.length_cons, List.length_map]
  cases e : body ((.io (.obj c []) :: ds.map Sl.val) ++ List.replicate (n - (ds.length + 1)) .un) with
  | ok r ρ' => rw [e] at h; exact h.elim
  | err c fs ρ' => rw [e] at h; obtain ⟨rfl, rfl⟩ := h; rfl
  | bad => rw [e] at h; exact h.elim
@[simp, simp ↓] theorem wp_mFldSet {i : Nat} {cs : List Str} {f : Str} {val : M D} {Q : Fl → Env → Prop} : wp (mFldSet i cs f val) ρ Q E = wp val ρ (fun d ρ1 => atE ρ1 i fun s => opt s.obj fun o => match o with
    | .obj c fs => (c ∈ cs ∧ fs.length < 1000) ∧ Q .next (ρ1.set i (s.upd (.obj c (putFD f d fs))))
    | _ => False) E := by
  unfold mFldSet
  rw [wp_bind]
  congr 1; funext d ρ1
  unfold wp atE
  cases e1 : ρ1[i]? with
  | none => simp only [e1]
  | some s =>
    simp only [e1]
    cases e2 : s.obj with
    | none => simp only [opt_none]
    | some o =>
      cases o with
      | obj c fs =>
        simp only [opt_some]
        by_cases h : c ∈ cs ∧ fs.length < 1000
        · rw [if_pos h]; simp [h]
        · rw [if_neg h]; simp [h]
      | _ => simp only [opt_some]
end
end DL

namespace K40
open PySem PySem.Spec PyProof.Rows L2 DL
/-! ### the text by places -/
def topS (i : Nat) : Stmt := PySem.Challenge.pw_presswork_k40_presses.main.body.getD i (.Pass ⟨0, 0, 0, 0⟩)
abbrev s_Press_m___init__ : Stmt := inClass (topS 11) 0
theorem sc_Press_m___init__ : FnScope ["self", "ready", "speed", "start", "price"] ["self", "ready", "speed", "start", "price"] (defScope s_Press_m___init__) := ⟨rfl, rfl, rfl, by decide +kernel, rfl, by decide +kernel, by decide +kernel⟩
abbrev s_check_sheets : Stmt := topS 12
theorem sc_check_sheets : FnScope ["sheets"] ["sheets"] (defScope s_check_sheets) := ⟨rfl, rfl, rfl, by decide +kernel, rfl, by decide +kernel, by decide +kernel⟩
abbrev s_fraction : Stmt := topS 9
theorem sc_fraction : FnScope ["above", "below", "common"] ["above", "below"] (defScope s_fraction) := ⟨rfl, rfl, rfl, by decide +kernel, rfl, by decide +kernel, by decide +kernel⟩
abbrev s_Press_m_cost : Stmt := inClass (topS 11) 2
theorem sc_Press_m_cost : FnScope ["self", "sheets"] ["self", "sheets"] (defScope s_Press_m_cost) := ⟨rfl, rfl, rfl, by decide +kernel, rfl, by decide +kernel, by decide +kernel⟩
abbrev s_Press_m_minutes : Stmt := inClass (topS 11) 1
theorem sc_Press_m_minutes : FnScope ["self", "sheets"] ["self", "sheets"] (defScope s_Press_m_minutes) := ⟨rfl, rfl, rfl, by decide +kernel, rfl, by decide +kernel, by decide +kernel⟩
abbrev s_Press_m_most_sheets : Stmt := inClass (topS 11) 3
theorem sc_Press_m_most_sheets : FnScope ["self", "minutes"] ["self", "minutes"] (defScope s_Press_m_most_sheets) := ⟨rfl, rfl, rfl, by decide +kernel, rfl, by decide +kernel, by decide +kernel⟩
abbrev s__law_cents : Stmt := topS 25
theorem sc__law_cents : FnScope ["press", "sheets"] ["press", "sheets"] (defScope s__law_cents) := ⟨rfl, rfl, rfl, by decide +kernel, rfl, by decide +kernel, by decide +kernel⟩
abbrev s__law_deck : Stmt := topS 16
theorem sc__law_deck : FnScope ["script", "cells", "each", "deck", "seed", "k", "cell", "rest", "at"] ["script", "cells", "each"] (defScope s__law_deck) := ⟨rfl, rfl, rfl, by decide +kernel, rfl, by decide +kernel, by decide +kernel⟩
abbrev s__law_gcd : Stmt := topS 20
theorem sc__law_gcd : FnScope ["one", "two"] ["one", "two"] (defScope s__law_gcd) := ⟨rfl, rfl, rfl, by decide +kernel, rfl, by decide +kernel, by decide +kernel⟩
abbrev s__law_fraction : Stmt := topS 21
theorem sc__law_fraction : FnScope ["above", "below", "common"] ["above", "below"] (defScope s__law_fraction) := ⟨rfl, rfl, rfl, by decide +kernel, rfl, by decide +kernel, by decide +kernel⟩
abbrev s__law_take : Stmt := topS 17
theorem sc__law_take : FnScope ["deck", "many"] ["deck", "many"] (defScope s__law_take) := ⟨rfl, rfl, rfl, by decide +kernel, rfl, by decide +kernel, by decide +kernel⟩
abbrev s__law_number : Stmt := topS 19
theorem sc__law_number : FnScope ["deck", "kind", "number", "turn"] ["deck"] (defScope s__law_number) := ⟨rfl, rfl, rfl, by decide +kernel, rfl, by decide +kernel, by decide +kernel⟩
abbrev s__law_plain : Stmt := topS 18
theorem sc__law_plain : FnScope ["value", "item"] ["value"] (defScope s__law_plain) := ⟨rfl, rfl, rfl, by decide +kernel, rfl, by decide +kernel, by decide +kernel⟩
abbrev s__law_press : Stmt := topS 24
theorem sc__law_press : FnScope ["deck"] ["deck"] (defScope s__law_press) := ⟨rfl, rfl, rfl, by decide +kernel, rfl, by decide +kernel, by decide +kernel⟩
abbrev s_cheapest : Stmt := topS 13
theorem sc_cheapest : FnScope ["presses", "sheets", "costs", "press"] ["presses", "sheets"] (defScope s_cheapest) := ⟨rfl, rfl, rfl, by decide +kernel, rfl, by decide +kernel, by decide +kernel⟩
abbrev s__law_why : Stmt := topS 23
theorem sc__law_why : FnScope ["ask", "one", "two", "error"] ["ask", "one", "two"] (defScope s__law_why) := ⟨rfl, rfl, rfl, by decide +kernel, rfl, by decide +kernel, by decide +kernel⟩
abbrev s_even_count : Stmt := topS 14
theorem sc_even_count : FnScope ["first", "second", "gap", "gain"] ["first", "second"] (defScope s_even_count) := ⟨rfl, rfl, rfl, by decide +kernel, rfl, by decide +kernel, by decide +kernel⟩
abbrev s_law : Stmt := topS 26
theorem sc_law : FnScope ["script", "deck", "rows", "turn", "presses", "row", "ready", "speed", "start", "price", "press", "sheets", "due", "minutes", "most", "above", "below", "more", "under", "costs", "one", "two", "even", "far", "answers"] ["script"] (defScope s_law) := ⟨rfl, rfl, rfl, by decide +kernel, rfl, by decide +kernel, by decide +kernel⟩
abbrev s_init_InvalidLength : Stmt := inClass (topS 3) 0
theorem sc_init_InvalidLength : FnScope ["self", "what"] ["self", "what"] (defScope s_init_InvalidLength) := ⟨rfl, rfl, rfl, by decide +kernel, rfl, by decide +kernel, by decide +kernel⟩
abbrev s_init_InvalidItems : Stmt := inClass (topS 4) 0
theorem sc_init_InvalidItems : FnScope ["self", "what"] ["self", "what"] (defScope s_init_InvalidItems) := ⟨rfl, rfl, rfl, by decide +kernel, rfl, by decide +kernel, by decide +kernel⟩
abbrev s_init_InvalidRun : Stmt := inClass (topS 5) 0
theorem sc_init_InvalidRun : FnScope ["self", "what"] ["self", "what"] (defScope s_init_InvalidRun) := ⟨rfl, rfl, rfl, by decide +kernel, rfl, by decide +kernel, by decide +kernel⟩
abbrev s_init_InvalidColour : Stmt := inClass (topS 6) 0
theorem sc_init_InvalidColour : FnScope ["self", "what"] ["self", "what"] (defScope s_init_InvalidColour) := ⟨rfl, rfl, rfl, by decide +kernel, rfl, by decide +kernel, by decide +kernel⟩
abbrev s_init_TooMany : Stmt := inClass (topS 7) 0
theorem sc_init_TooMany : FnScope ["self", "what"] ["self", "what"] (defScope s_init_TooMany) := ⟨rfl, rfl, rfl, by decide +kernel, rfl, by decide +kernel, by decide +kernel⟩
structure Txt (K : PySem.W.Frag) (mg : Str → Option Value) where
  a_Press_m___init__ : Addr
  fd_Press_m___init__ : FuncData
  F_Press_m___init__ : L2.Fun K "__init__" "Press.__init__" s_Press_m___init__ a_Press_m___init__ fd_Press_m___init__
  b_Press_m___init__ : Binds K fd_Press_m___init__ ["self", "ready", "speed", "start", "price"] []
  a_check_sheets : Addr
  fd_check_sheets : FuncData
  F_check_sheets : L2.Fun K "check_sheets" "check_sheets" s_check_sheets a_check_sheets fd_check_sheets
  g_check_sheets : mg "check_sheets" = some (.ref a_check_sheets)
  b_check_sheets : Binds K fd_check_sheets ["sheets"] []
  a_fraction : Addr
  fd_fraction : FuncData
  F_fraction : L2.Fun K "fraction" "fraction" s_fraction a_fraction fd_fraction
  g_fraction : mg "fraction" = some (.ref a_fraction)
  b_fraction : Binds K fd_fraction ["above", "below"] []
  a_Press_m_cost : Addr
  fd_Press_m_cost : FuncData
  F_Press_m_cost : L2.Fun K "cost" "Press.cost" s_Press_m_cost a_Press_m_cost fd_Press_m_cost
  b_Press_m_cost : Binds K fd_Press_m_cost ["self", "sheets"] []
  a_Press_m_minutes : Addr
  fd_Press_m_minutes : FuncData
  F_Press_m_minutes : L2.Fun K "minutes" "Press.minutes" s_Press_m_minutes a_Press_m_minutes fd_Press_m_minutes
  b_Press_m_minutes : Binds K fd_Press_m_minutes ["self", "sheets"] []
  a_Press_m_most_sheets : Addr
  fd_Press_m_most_sheets : FuncData
  F_Press_m_most_sheets : L2.Fun K "most_sheets" "Press.most_sheets" s_Press_m_most_sheets a_Press_m_most_sheets fd_Press_m_most_sheets
  b_Press_m_most_sheets : Binds K fd_Press_m_most_sheets ["self", "minutes"] []
  a__law_cents : Addr
  fd__law_cents : FuncData
  F__law_cents : L2.Fun K "_law_cents" "_law_cents" s__law_cents a__law_cents fd__law_cents
  g__law_cents : mg "_law_cents" = some (.ref a__law_cents)
  b__law_cents : Binds K fd__law_cents ["press", "sheets"] []
  a__law_deck : Addr
  fd__law_deck : FuncData
  F__law_deck : L2.Fun K "_law_deck" "_law_deck" s__law_deck a__law_deck fd__law_deck
  g__law_deck : mg "_law_deck" = some (.ref a__law_deck)
  b__law_deck : Binds K fd__law_deck ["script", "cells", "each"] []
  a__law_gcd : Addr
  fd__law_gcd : FuncData
  F__law_gcd : L2.Fun K "_law_gcd" "_law_gcd" s__law_gcd a__law_gcd fd__law_gcd
  g__law_gcd : mg "_law_gcd" = some (.ref a__law_gcd)
  b__law_gcd : Binds K fd__law_gcd ["one", "two"] []
  a__law_fraction : Addr
  fd__law_fraction : FuncData
  F__law_fraction : L2.Fun K "_law_fraction" "_law_fraction" s__law_fraction a__law_fraction fd__law_fraction
  g__law_fraction : mg "_law_fraction" = some (.ref a__law_fraction)
  b__law_fraction : Binds K fd__law_fraction ["above", "below"] []
  a__law_take : Addr
  fd__law_take : FuncData
  F__law_take : L2.Fun K "_law_take" "_law_take" s__law_take a__law_take fd__law_take
  g__law_take : mg "_law_take" = some (.ref a__law_take)
  b__law_take : Binds K fd__law_take ["deck", "many"] []
  a__law_number : Addr
  fd__law_number : FuncData
  F__law_number : L2.Fun K "_law_number" "_law_number" s__law_number a__law_number fd__law_number
  g__law_number : mg "_law_number" = some (.ref a__law_number)
  b__law_number : Binds K fd__law_number ["deck"] []
  a__law_plain : Addr
  fd__law_plain : FuncData
  F__law_plain : L2.Fun K "_law_plain" "_law_plain" s__law_plain a__law_plain fd__law_plain
  g__law_plain : mg "_law_plain" = some (.ref a__law_plain)
  b__law_plain : Binds K fd__law_plain ["value"] []
  a__law_press : Addr
  fd__law_press : FuncData
  F__law_press : L2.Fun K "_law_press" "_law_press" s__law_press a__law_press fd__law_press
  g__law_press : mg "_law_press" = some (.ref a__law_press)
  b__law_press : Binds K fd__law_press ["deck"] []
  a_cheapest : Addr
  fd_cheapest : FuncData
  F_cheapest : L2.Fun K "cheapest" "cheapest" s_cheapest a_cheapest fd_cheapest
  g_cheapest : mg "cheapest" = some (.ref a_cheapest)
  b_cheapest : Binds K fd_cheapest ["presses", "sheets"] []
  a__law_why : Addr
  fd__law_why : FuncData
  F__law_why : L2.Fun K "_law_why" "_law_why" s__law_why a__law_why fd__law_why
  g__law_why : mg "_law_why" = some (.ref a__law_why)
  b__law_why : Binds K fd__law_why ["ask", "one", "two"] []
  a_even_count : Addr
  fd_even_count : FuncData
  F_even_count : L2.Fun K "even_count" "even_count" s_even_count a_even_count fd_even_count
  g_even_count : mg "even_count" = some (.ref a_even_count)
  b_even_count : Binds K fd_even_count ["first", "second"] []
  a_law : Addr
  fd_law : FuncData
  F_law : L2.Fun K "law" "law" s_law a_law fd_law
  g_law : mg "law" = some (.ref a_law)
  b_law : Binds K fd_law ["script"] []
  m_abs : mg "abs" = none
  m_bool : mg "bool" = none
  m_int : mg "int" = none
  m_isinstance : mg "isinstance" = none
  m_len : mg "len" = none
  m_list : mg "list" = none
  m_min : mg "min" = none
  m_range : mg "range" = none
  m_str : mg "str" = none
  m_tuple : mg "tuple" = none
  oa_Press : Addr
  oc_Press : ClsF K mg "Press" oa_Press
  ok_Press : Mk K oa_Press a_Press_m___init__
  om_Press_m_cost : Meth K oa_Press "cost" a_Press_m_cost
  om_Press_m_minutes : Meth K oa_Press "minutes" a_Press_m_minutes
  om_Press_m_most_sheets : Meth K oa_Press "most_sheets" a_Press_m_most_sheets
  fo_price : FldOk K mg ["Press"] "price"
  fo_ready : FldOk K mg ["Press"] "ready"
  fo_speed : FldOk K mg ["Press"] "speed"
  fo_start : FldOk K mg ["Press"] "start"
  i_gcd : mg "gcd" = some (.builtin "math.gcd")
  xa_PressError : Addr
  xg_PressError : mg "PressError" = some (.ref xa_PressError)
  sp0 : PySem.W.specialIn K (.ref xa_PressError) "__getattribute__" = some (some (.builtin "type.__getattribute__"))
  rd0 : PySem.W.readsIn K xa_PressError (.type "type") = true
  fc0 : PySem.W.findCls K (.ref xa_PressError) (.type "type") "__init__" = some (.val (.builtin "ValueError.__init__"))
  xa_InvalidLength : Addr
  xg_InvalidLength : mg "InvalidLength" = some (.ref xa_InvalidLength)
  ia_InvalidLength : Addr
  ifd_InvalidLength : FuncData
  IF_InvalidLength : L2.Fun K "__init__" "InvalidLength.__init__" s_init_InvalidLength ia_InvalidLength ifd_InvalidLength
  x_InvalidLength : OexC K xa_InvalidLength
  xi_InvalidLength : PySem.W.findIn K (.ref xa_InvalidLength) "__init__" = some (some (.ref ia_InvalidLength))
  xt_InvalidLength : PySem.W.typeIn K (.ref ia_InvalidLength) = some (.type "function")
  xb_InvalidLength : Binds K ifd_InvalidLength ["self", "what"] []
  xn_InvalidLength : PySem.W.findIn K (.ref xa_InvalidLength) "what" = some none
  xa_InvalidItems : Addr
  xg_InvalidItems : mg "InvalidItems" = some (.ref xa_InvalidItems)
  ia_InvalidItems : Addr
  ifd_InvalidItems : FuncData
  IF_InvalidItems : L2.Fun K "__init__" "InvalidItems.__init__" s_init_InvalidItems ia_InvalidItems ifd_InvalidItems
  x_InvalidItems : OexC K xa_InvalidItems
  xi_InvalidItems : PySem.W.findIn K (.ref xa_InvalidItems) "__init__" = some (some (.ref ia_InvalidItems))
  xt_InvalidItems : PySem.W.typeIn K (.ref ia_InvalidItems) = some (.type "function")
  xb_InvalidItems : Binds K ifd_InvalidItems ["self", "what"] []
  xn_InvalidItems : PySem.W.findIn K (.ref xa_InvalidItems) "what" = some none
  xa_InvalidRun : Addr
  xg_InvalidRun : mg "InvalidRun" = some (.ref xa_InvalidRun)
  ia_InvalidRun : Addr
  ifd_InvalidRun : FuncData
  IF_InvalidRun : L2.Fun K "__init__" "InvalidRun.__init__" s_init_InvalidRun ia_InvalidRun ifd_InvalidRun
  x_InvalidRun : OexC K xa_InvalidRun
  xi_InvalidRun : PySem.W.findIn K (.ref xa_InvalidRun) "__init__" = some (some (.ref ia_InvalidRun))
  xt_InvalidRun : PySem.W.typeIn K (.ref ia_InvalidRun) = some (.type "function")
  xb_InvalidRun : Binds K ifd_InvalidRun ["self", "what"] []
  xn_InvalidRun : PySem.W.findIn K (.ref xa_InvalidRun) "what" = some none
  xa_InvalidColour : Addr
  xg_InvalidColour : mg "InvalidColour" = some (.ref xa_InvalidColour)
  ia_InvalidColour : Addr
  ifd_InvalidColour : FuncData
  IF_InvalidColour : L2.Fun K "__init__" "InvalidColour.__init__" s_init_InvalidColour ia_InvalidColour ifd_InvalidColour
  x_InvalidColour : OexC K xa_InvalidColour
  xi_InvalidColour : PySem.W.findIn K (.ref xa_InvalidColour) "__init__" = some (some (.ref ia_InvalidColour))
  xt_InvalidColour : PySem.W.typeIn K (.ref ia_InvalidColour) = some (.type "function")
  xb_InvalidColour : Binds K ifd_InvalidColour ["self", "what"] []
  xn_InvalidColour : PySem.W.findIn K (.ref xa_InvalidColour) "what" = some none
  xa_TooMany : Addr
  xg_TooMany : mg "TooMany" = some (.ref xa_TooMany)
  ia_TooMany : Addr
  ifd_TooMany : FuncData
  IF_TooMany : L2.Fun K "__init__" "TooMany.__init__" s_init_TooMany ia_TooMany ifd_TooMany
  x_TooMany : OexC K xa_TooMany
  xi_TooMany : PySem.W.findIn K (.ref xa_TooMany) "__init__" = some (some (.ref ia_TooMany))
  xt_TooMany : PySem.W.typeIn K (.ref ia_TooMany) = some (.type "function")
  xb_TooMany : Binds K ifd_TooMany ["self", "what"] []
  xn_TooMany : PySem.W.findIn K (.ref xa_TooMany) "what" = some none
  sub_PressError : ∀ c ∈ ([("InvalidLength", true), ("InvalidItems", true), ("InvalidRun", true), ("InvalidColour", true), ("TooMany", true)] : List (Str × Bool)), ∀ C, mg c.1 = some (.ref C) → PySem.W.exmOne K (.ref C) (.ref xa_PressError) = some c.2
  xf_PressError : ∀ c ∈ (["InvalidLength", "InvalidItems", "InvalidRun", "InvalidColour", "TooMany"] : List Str), ∀ C, mg c = some (.ref C) → XfC K C ∧ PySem.W.findIn K (.ref C) "what" = some none
  it_InvalidItems : ∀ c ∈ ([("InvalidLength", false), ("InvalidItems", true), ("InvalidRun", false), ("InvalidColour", false), ("TooMany", false)] : List (Str × Bool)), ∀ C, mg c.1 = some (.ref C) → ExK K C ∧ PySem.W.kitOne K (.ref C) (.ref xa_InvalidItems) = some c.2
  it_InvalidRun : ∀ c ∈ ([("InvalidLength", false), ("InvalidItems", false), ("InvalidRun", true), ("InvalidColour", false), ("TooMany", false)] : List (Str × Bool)), ∀ C, mg c.1 = some (.ref C) → ExK K C ∧ PySem.W.kitOne K (.ref C) (.ref xa_InvalidRun) = some c.2
section
variable {P : Program} {w : World} {K : PySem.W.Frag} {mg : Str → Option Value} {base : Heap}
theorem d_init_InvalidLength (T : Txt K mg) : FnOk P w K mg base (L2.CX P w) 1 T.ia_InvalidLength T.ifd_InvalidLength ["self", "what"] (spIni K "what" strV) :=
  init_ok T.IF_InvalidLength sc_init_InvalidLength rfl rfl rfl (fun _ _ _ => rfl) (by decide) T.xg_PressError T.sp0 T.rd0 T.fc0 fun _ _ _ => ⟨_, rfl⟩
theorem d_init_InvalidItems (T : Txt K mg) : FnOk P w K mg base (L2.CX P w) 1 T.ia_InvalidItems T.ifd_InvalidItems ["self", "what"] (spIni K "what" strV) :=
  init_ok T.IF_InvalidItems sc_init_InvalidItems rfl rfl rfl (fun _ _ _ => rfl) (by decide) T.xg_PressError T.sp0 T.rd0 T.fc0 fun _ _ _ => ⟨_, rfl⟩
theorem d_init_InvalidRun (T : Txt K mg) : FnOk P w K mg base (L2.CX P w) 1 T.ia_InvalidRun T.ifd_InvalidRun ["self", "what"] (spIni K "what" strV) :=
  init_ok T.IF_InvalidRun sc_init_InvalidRun rfl rfl rfl (fun _ _ _ => rfl) (by decide) T.xg_PressError T.sp0 T.rd0 T.fc0 fun _ _ _ => ⟨_, rfl⟩
theorem d_init_InvalidColour (T : Txt K mg) : FnOk P w K mg base (L2.CX P w) 1 T.ia_InvalidColour T.ifd_InvalidColour ["self", "what"] (spIni K "what" strV) :=
  init_ok T.IF_InvalidColour sc_init_InvalidColour rfl rfl rfl (fun _ _ _ => rfl) (by decide) T.xg_PressError T.sp0 T.rd0 T.fc0 fun _ _ _ => ⟨_, rfl⟩
theorem d_init_TooMany (T : Txt K mg) : FnOk P w K mg base (L2.CX P w) 1 T.ia_TooMany T.ifd_TooMany ["self", "what"] (spIni K "what" strV) :=
  init_ok T.IF_TooMany sc_init_TooMany rfl rfl rfl (fun _ _ _ => rfl) (by decide) T.xg_PressError T.sp0 T.rd0 T.fc0 fun _ _ _ => ⟨_, rfl⟩
def b_Press_m___init___6 : M Fl := (mFldSet 0 ["Press"] "price" (eVar 4))
def b_Press_m___init___5 : M Fl := (mFldSet 0 ["Press"] "start" (eVar 3))
def b_Press_m___init___4 : M Fl := (mFldSet 0 ["Press"] "speed" (eVar 2))
def b_Press_m___init___3 : M Fl := (mFldSet 0 ["Press"] "ready" (eVar 1))
def b_Press_m___init___2 : M Fl := (mIf (asB (mBin opLt (oVar 2) (M.map OV.now (mLit (.int 1))))) (mRaise "InvalidRun" "what" (mCons (mLit (.str "speed")) mNil)) mSkip)
def b_Press_m___init___1 : M Fl := (mIf (mOr (asB (mBin opLt (oVar 1) (M.map OV.now (mLit (.int 0))))) (mOr (asB (mBin opLt (oVar 3) (M.map OV.now (mLit (.int 0))))) (asB (mBin opLt (oVar 4) (M.map OV.now (mLit (.int 0))))))) (mRaise "InvalidRun" "what" (mCons (mLit (.str "costs")) mNil)) mSkip)
def b_Press_m___init__ : M Fl := (mSeq b_Press_m___init___1
  (mSeq b_Press_m___init___2
  (mSeq b_Press_m___init___3
  (mSeq b_Press_m___init___4
  (mSeq b_Press_m___init___5
  b_Press_m___init___6)))))
def f_Press_m___init__ : Fn := runDef 5 b_Press_m___init__
theorem d_Press_m___init__ (T : Txt K mg) : FnOk P w K mg base (L2.CX P w) 3 T.a_Press_m___init__ T.fd_Press_m___init__ ["self", "ready", "speed", "start", "price"] (spD K mg 5 f_Press_m___init__) :=
  def_ok (N := ["self", "ready", "speed", "start", "price"]) T.F_Press_m___init__ sc_Press_m___init__ fun cdv A outer s H E B hr => by
    have hu1 : (A.deeper (envOfC "Press.__init__" (defScope s_Press_m___init__) s.heap.objs.size T.a_Press_m___init__ cdv)).units + 64 < cLine := by have := hr.un; omega
    have hu2 : (A.deeper (envOfC "Press.__init__" (defScope s_Press_m___init__) s.heap.objs.size T.a_Press_m___init__ cdv)).units + 65 < cLine := by have := hr.un; omega
    exact (sss_cons (ss_if (SW.t (sw_or (st_cmp od_lt (so_pv (pv 1)) (SE.toO se_int) rfl) (sw_or (st_cmp od_lt (so_pv (pv 3)) (SE.toO se_int) rfl) (sw_or1 (st_cmp od_lt (so_pv (pv 4)) (SE.toO se_int) rfl))))) (sss_one (ss_raise rfl (takes_of rfl rfl rfl rfl) T.x_InvalidRun T.xi_InvalidRun T.xt_InvalidRun (d_init_InvalidRun T) (hr.mono (by first | decide | omega)) T.xb_InvalidRun rfl T.xg_InvalidRun T.xn_InvalidRun (sds_cons se_str sds_nil rfl) (by decide) rfl rfl)) sss_nil)
  (sss_cons (ss_if (st_cmp od_lt (so_pv (pv 2)) (SE.toO se_int) rfl) (sss_one (ss_raise rfl (takes_of rfl rfl rfl rfl) T.x_InvalidRun T.xi_InvalidRun T.xt_InvalidRun (d_init_InvalidRun T) (hr.mono (by first | decide | omega)) T.xb_InvalidRun rfl T.xg_InvalidRun T.xn_InvalidRun (sds_cons se_str sds_nil rfl) (by decide) rfl rfl)) sss_nil)
  (sss_cons (ss_fld T.fo_ready (pv 0) (se_pv (pv 1)) rfl)
  (sss_cons (ss_fld T.fo_speed (pv 0) (se_pv (pv 2)) rfl)
  (sss_cons (ss_fld T.fo_start (pv 0) (se_pv (pv 3)) rfl)
  (sss_one (ss_fld T.fo_price (pv 0) (se_pv (pv 4)) rfl)))))))
def b_check_sheets : M Fl := (mIf (asB (mBin opLt (oVar 0) (M.map OV.now (mLit (.int 0))))) (mRaise "InvalidRun" "what" (mCons (mLit (.str "sheets")) mNil)) mSkip)
def f_check_sheets : Fn := runDef 1 b_check_sheets
theorem d_check_sheets (T : Txt K mg) : FnOk P w K mg base (L2.CX P w) 3 T.a_check_sheets T.fd_check_sheets ["sheets"] (spD K mg 1 f_check_sheets) :=
  def_ok (N := ["sheets"]) T.F_check_sheets sc_check_sheets fun cdv A outer s H E B hr => by
    have hu1 : (A.deeper (envOfC "check_sheets" (defScope s_check_sheets) s.heap.objs.size T.a_check_sheets cdv)).units + 64 < cLine := by have := hr.un; omega
    have hu2 : (A.deeper (envOfC "check_sheets" (defScope s_check_sheets) s.heap.objs.size T.a_check_sheets cdv)).units + 65 < cLine := by have := hr.un; omega
    exact (sss_one (ss_if (st_cmp od_lt (so_pv (pv 0)) (SE.toO se_int) rfl) (sss_one (ss_raise rfl (takes_of rfl rfl rfl rfl) T.x_InvalidRun T.xi_InvalidRun T.xt_InvalidRun (d_init_InvalidRun T) (hr.mono (by first | decide | omega)) T.xb_InvalidRun rfl T.xg_InvalidRun T.xn_InvalidRun (sds_cons se_str sds_nil rfl) (by decide) rfl rfl)) sss_nil))
def b_fraction_3 : M Fl := (mRet (mTup (mCons (M.map Prod.fst (mBin opFdiv (oVar 0) (oVar 2))) (mCons (M.map Prod.fst (mBin opFdiv (oVar 1) (oVar 2))) mNil))))
def b_fraction_2 : M Fl := (mIf (asB (mBin opLt (oVar 1) (M.map OV.now (mLit (.int 0))))) (mSet 2 (mUn opNeg (oVar 2))) mSkip)
def b_fraction_1 : M Fl := (mSet 2 (mCallB opGcd (mCons (oVar 0) (mCons (oVar 1) mNil))))
def b_fraction : M Fl := (mSeq b_fraction_1
  (mSeq b_fraction_2
  b_fraction_3))
def f_fraction : Fn := runDef 3 b_fraction
theorem d_fraction (T : Txt K mg) : FnOk P w K mg base (L2.CX P w) 1 T.a_fraction T.fd_fraction ["above", "below"] (spD K mg 2 f_fraction) :=
  def_ok (N := ["above", "below", "common"]) T.F_fraction sc_fraction fun cdv A outer s H E B hr => by
    have hu1 : (A.deeper (envOfC "fraction" (defScope s_fraction) s.heap.objs.size T.a_fraction cdv)).units + 64 < cLine := by have := hr.un; omega
    have hu2 : (A.deeper (envOfC "fraction" (defScope s_fraction) s.heap.objs.size T.a_fraction cdv)).units + 65 < cLine := by have := hr.un; omega
    exact (sss_cons (ss_set sc_fraction.nd rfl (by first | exact Or.inl rfl | exact Or.inr rfl) (sv_callF od_gcd rfl T.i_gcd (sos_cons (so_pv (pv 0)) (sos_cons (so_pv (pv 1)) sos_nil rfl) rfl) (by decide) rfl rfl) rfl (Or.inl rfl))
  (sss_cons (ss_if (st_cmp od_lt (so_pv (pv 1)) (SE.toO se_int) rfl) (sss_one (ss_set sc_fraction.nd rfl (by first | exact Or.inl rfl | exact Or.inr rfl) (sv_un od_neg (so_pv (pv 2))) rfl (Or.inl rfl))) sss_nil)
  (sss_one (ss_ret (se_tup (sds_cons (SV.toE (sv_bin od_fdiv (so_pv (pv 0)) (so_pv (pv 2)))) (sds_cons (SV.toE (sv_bin od_fdiv (so_pv (pv 1)) (so_pv (pv 2)))) sds_nil rfl) rfl))))))
def b_Press_m_cost_2 : M Fl := (mRet (mCall 2 f_fraction (mCons (M.map OV.now (M.map Prod.fst (mBin opAdd (M.map OV.now (M.map Prod.fst (mBin opMul (M.map OV.now (mLit (.int 1000))) (M.map OV.now (M.map Prod.fst (mUn (opFld ["Press"] "start") (oVar 0))))))) (M.map OV.now (M.map Prod.fst (mBin opMul (M.map OV.now (M.map Prod.fst (mUn (opFld ["Press"] "price") (oVar 0)))) (oVar 1))))))) (mCons (M.map OV.now (mLit (.int 1000))) mNil))))
def b_Press_m_cost_1 : M Fl := (mExpr (M.map (fun d => (d, false)) (mCall 1 f_check_sheets (mCons (M.map OV.now (eVar 1)) mNil))))
def b_Press_m_cost : M Fl := (mSeq b_Press_m_cost_1
  b_Press_m_cost_2)
def f_Press_m_cost : Fn := runDef 2 b_Press_m_cost
theorem d_Press_m_cost (T : Txt K mg) : FnOk P w K mg base (L2.CX P w) 4 T.a_Press_m_cost T.fd_Press_m_cost ["self", "sheets"] (spD K mg 2 f_Press_m_cost) :=
  def_ok (N := ["self", "sheets"]) T.F_Press_m_cost sc_Press_m_cost fun cdv A outer s H E B hr => by
    have hu1 : (A.deeper (envOfC "Press.cost" (defScope s_Press_m_cost) s.heap.objs.size T.a_Press_m_cost cdv)).units + 64 < cLine := by have := hr.un; omega
    have hu2 : (A.deeper (envOfC "Press.cost" (defScope s_Press_m_cost) s.heap.objs.size T.a_Press_m_cost cdv)).units + 65 < cLine := by have := hr.un; omega
    exact (sss_cons (ss_expr (SE.toV (se_call (d_check_sheets T) (hr.mono (by first | decide | omega)) (takes_of rfl rfl rfl rfl) rfl T.g_check_sheets T.F_check_sheets.kp T.b_check_sheets (sos_cons (SE.toO (se_pv (pv 1))) sos_nil rfl) (by decide) rfl rfl)) rfl)
  (sss_one (ss_ret (se_call (d_fraction T) (hr.mono (by first | decide | omega)) (takes_of rfl rfl rfl rfl) rfl T.g_fraction T.F_fraction.kp T.b_fraction (sos_cons (SE.toO (SV.toE (sv_bin od_add (SE.toO (SV.toE (sv_bin od_mul (SE.toO se_int) (SE.toO (SV.toE (sv_fld T.fo_start (so_pv (pv 0)) rfl)))))) (SE.toO (SV.toE (sv_bin od_mul (SE.toO (SV.toE (sv_fld T.fo_price (so_pv (pv 0)) rfl))) (so_pv (pv 1)))))))) (sos_cons (SE.toO se_int) sos_nil rfl) rfl) (by decide) rfl rfl))))
def b_Press_m_minutes_2 : M Fl := (mRet (mCall 2 f_fraction (mCons (M.map OV.now (M.map Prod.fst (mBin opAdd (M.map OV.now (M.map Prod.fst (mBin opMul (M.map OV.now (M.map Prod.fst (mUn (opFld ["Press"] "ready") (oVar 0)))) (M.map OV.now (M.map Prod.fst (mUn (opFld ["Press"] "speed") (oVar 0))))))) (M.map OV.now (M.map Prod.fst (mBin opMul (M.map OV.now (mLit (.int 60))) (oVar 1))))))) (mCons (M.map OV.now (M.map Prod.fst (mUn (opFld ["Press"] "speed") (oVar 0)))) mNil))))
def b_Press_m_minutes_1 : M Fl := (mExpr (M.map (fun d => (d, false)) (mCall 1 f_check_sheets (mCons (M.map OV.now (eVar 1)) mNil))))
def b_Press_m_minutes : M Fl := (mSeq b_Press_m_minutes_1
  b_Press_m_minutes_2)
def f_Press_m_minutes : Fn := runDef 2 b_Press_m_minutes
theorem d_Press_m_minutes (T : Txt K mg) : FnOk P w K mg base (L2.CX P w) 4 T.a_Press_m_minutes T.fd_Press_m_minutes ["self", "sheets"] (spD K mg 2 f_Press_m_minutes) :=
  def_ok (N := ["self", "sheets"]) T.F_Press_m_minutes sc_Press_m_minutes fun cdv A outer s H E B hr => by
    have hu1 : (A.deeper (envOfC "Press.minutes" (defScope s_Press_m_minutes) s.heap.objs.size T.a_Press_m_minutes cdv)).units + 64 < cLine := by have := hr.un; omega
    have hu2 : (A.deeper (envOfC "Press.minutes" (defScope s_Press_m_minutes) s.heap.objs.size T.a_Press_m_minutes cdv)).units + 65 < cLine := by have := hr.un; omega
    exact (sss_cons (ss_expr (SE.toV (se_call (d_check_sheets T) (hr.mono (by first | decide | omega)) (takes_of rfl rfl rfl rfl) rfl T.g_check_sheets T.F_check_sheets.kp T.b_check_sheets (sos_cons (SE.toO (se_pv (pv 1))) sos_nil rfl) (by decide) rfl rfl)) rfl)
  (sss_one (ss_ret (se_call (d_fraction T) (hr.mono (by first | decide | omega)) (takes_of rfl rfl rfl rfl) rfl T.g_fraction T.F_fraction.kp T.b_fraction (sos_cons (SE.toO (SV.toE (sv_bin od_add (SE.toO (SV.toE (sv_bin od_mul (SE.toO (SV.toE (sv_fld T.fo_ready (so_pv (pv 0)) rfl))) (SE.toO (SV.toE (sv_fld T.fo_speed (so_pv (pv 0)) rfl)))))) (SE.toO (SV.toE (sv_bin od_mul (SE.toO se_int) (so_pv (pv 1)))))))) (sos_cons (SE.toO (SV.toE (sv_fld T.fo_speed (so_pv (pv 0)) rfl))) sos_nil rfl) rfl) (by decide) rfl rfl))))
def b_Press_m_most_sheets_3 : M Fl := (mRet (M.map Prod.fst (mBin opFdiv (M.map OV.now (M.map Prod.fst (mBin opMul (M.map OV.now (M.map Prod.fst (mBin opSub (oVar 1) (M.map OV.now (M.map Prod.fst (mUn (opFld ["Press"] "ready") (oVar 0))))))) (M.map OV.now (M.map Prod.fst (mUn (opFld ["Press"] "speed") (oVar 0))))))) (M.map OV.now (mLit (.int 60))))))
def b_Press_m_most_sheets_2 : M Fl := (mIf (asB (mBin opLt (oVar 1) (M.map OV.now (M.map Prod.fst (mUn (opFld ["Press"] "ready") (oVar 0)))))) (mRet (mLit .non)) mSkip)
def b_Press_m_most_sheets_1 : M Fl := (mIf (asB (mBin opLt (oVar 1) (M.map OV.now (mLit (.int 0))))) (mRaise "InvalidRun" "what" (mCons (mLit (.str "minutes")) mNil)) mSkip)
def b_Press_m_most_sheets : M Fl := (mSeq b_Press_m_most_sheets_1
  (mSeq b_Press_m_most_sheets_2
  b_Press_m_most_sheets_3))
def f_Press_m_most_sheets : Fn := runDef 2 b_Press_m_most_sheets
theorem d_Press_m_most_sheets (T : Txt K mg) : FnOk P w K mg base (L2.CX P w) 3 T.a_Press_m_most_sheets T.fd_Press_m_most_sheets ["self", "minutes"] (spD K mg 2 f_Press_m_most_sheets) :=
  def_ok (N := ["self", "minutes"]) T.F_Press_m_most_sheets sc_Press_m_most_sheets fun cdv A outer s H E B hr => by
    have hu1 : (A.deeper (envOfC "Press.most_sheets" (defScope s_Press_m_most_sheets) s.heap.objs.size T.a_Press_m_most_sheets cdv)).units + 64 < cLine := by have := hr.un; omega
    have hu2 : (A.deeper (envOfC "Press.most_sheets" (defScope s_Press_m_most_sheets) s.heap.objs.size T.a_Press_m_most_sheets cdv)).units + 65 < cLine := by have := hr.un; omega
    exact (sss_cons (ss_if (st_cmp od_lt (so_pv (pv 1)) (SE.toO se_int) rfl) (sss_one (ss_raise rfl (takes_of rfl rfl rfl rfl) T.x_InvalidRun T.xi_InvalidRun T.xt_InvalidRun (d_init_InvalidRun T) (hr.mono (by first | decide | omega)) T.xb_InvalidRun rfl T.xg_InvalidRun T.xn_InvalidRun (sds_cons se_str sds_nil rfl) (by decide) rfl rfl)) sss_nil)
  (sss_cons (ss_if (st_cmp od_lt (so_pv (pv 1)) (SE.toO (SV.toE (sv_fld T.fo_ready (so_pv (pv 0)) rfl))) rfl) (sss_one (ss_ret se_non)) sss_nil)
  (sss_one (ss_ret (SV.toE (sv_bin od_fdiv (SE.toO (SV.toE (sv_bin od_mul (SE.toO (SV.toE (sv_bin od_sub (so_pv (pv 1)) (SE.toO (SV.toE (sv_fld T.fo_ready (so_pv (pv 0)) rfl)))))) (SE.toO (SV.toE (sv_fld T.fo_speed (so_pv (pv 0)) rfl)))))) (SE.toO se_int)))))))
def b__law_cents : M Fl := (mRet (M.map Prod.fst (mBin opAdd (M.map OV.now (M.map Prod.fst (mBin opMul (M.map OV.now (mLit (.int 1000))) (M.map OV.now (M.map Prod.fst (mBin opIx (oVar 0) (M.map OV.now (mLit (.int 2))))))))) (M.map OV.now (M.map Prod.fst (mBin opMul (M.map OV.now (M.map Prod.fst (mBin opIx (oVar 0) (M.map OV.now (mLit (.int 3)))))) (oVar 1)))))))
def f__law_cents : Fn := runDef 2 b__law_cents
theorem d__law_cents (T : Txt K mg) : FnOk P w K mg base (L2.CX P w) 1 T.a__law_cents T.fd__law_cents ["press", "sheets"] (spD K mg 2 f__law_cents) :=
  def_ok (N := ["press", "sheets"]) T.F__law_cents sc__law_cents fun cdv A outer s H E B hr => by
    have hu1 : (A.deeper (envOfC "_law_cents" (defScope s__law_cents) s.heap.objs.size T.a__law_cents cdv)).units + 64 < cLine := by have := hr.un; omega
    have hu2 : (A.deeper (envOfC "_law_cents" (defScope s__law_cents) s.heap.objs.size T.a__law_cents cdv)).units + 65 < cLine := by have := hr.un; omega
    exact (sss_one (ss_ret (SV.toE (sv_bin od_add (SE.toO (SV.toE (sv_bin od_mul (SE.toO se_int) (SE.toO (SV.toE (sv_ix (so_pv (pv 0)) (SE.toO se_int) (fun _ _ => rfl))))))) (SE.toO (SV.toE (sv_bin od_mul (SE.toO (SV.toE (sv_ix (so_pv (pv 0)) (SE.toO se_int) (fun _ _ => rfl)))) (so_pv (pv 1)))))))))
abbrev b__law_deck := bDeck
abbrev f__law_deck := fDeck
theorem d__law_deck (T : Txt K mg) : FnOk P w K mg base (L2.CX P w) 1 T.a__law_deck T.fd__law_deck ["script", "cells", "each"] (spN K mg 3 f__law_deck) :=
  def_okN (N := ["script", "cells", "each", "deck", "seed", "k", "cell", "rest", "at"]) T.F__law_deck sc__law_deck fun cdv A outer s H E B hr => by
    have hu1 : (A.deeper (envOfC "_law_deck" (defScope s__law_deck) s.heap.objs.size T.a__law_deck cdv)).units + 64 < cLine := by have := hr.un; omega
    have hu2 : (A.deeper (envOfC "_law_deck" (defScope s__law_deck) s.heap.objs.size T.a__law_deck cdv)).units + 65 < cLine := by have := hr.un; omega
    exact (sss_cons (ss_set sc__law_deck.nd rfl (by first | exact Or.inl rfl | exact Or.inr rfl) (sv_lst sds_nil) rfl (Or.inl rfl))
  (sss_cons (ss_set sc__law_deck.nd rfl (by first | exact Or.inl rfl | exact Or.inr rfl) (sv_bin od_add (SE.toO se_int) (SE.toO (SV.toE (sv_callB od_len rfl T.m_len bt_len (sos_cons (so_pv (pv 0)) sos_nil rfl) (by decide) (by decide) rfl rfl)))) rfl (Or.inl rfl))
  (sss_cons (ss_kill [4, 5, 6, 7, 8] (ss_for [5, 6, 7, 8] (passes_of rfl) rfl (si_range1 rfl T.m_range (sos_cons (so_pv (pv 1)) sos_nil rfl) rfl) (st_name sc__law_deck.nd rfl (by first | exact Or.inl rfl | exact Or.inr rfl) (Or.inl rfl)) (sss_cons (ss_set sc__law_deck.nd rfl (by first | exact Or.inl rfl | exact Or.inr rfl) (SE.toV se_int) rfl (Or.inl rfl))
  (sss_cons (ss_if (st_cmp od_lt (so_pv (pv 5)) (SE.toO (SV.toE (sv_callB od_len rfl T.m_len bt_len (sos_cons (so_pv (pv 0)) sos_nil rfl) (by decide) (by decide) rfl rfl))) rfl) (sss_one (ss_set sc__law_deck.nd rfl (by first | exact Or.inl rfl | exact Or.inr rfl) (sv_ix (so_pv (pv 0)) (so_pv (pv 5)) (fun _ _ => rfl)) rfl (Or.inl rfl))) sss_nil)
  (sss_cons (ss_set sc__law_deck.nd rfl (by first | exact Or.inl rfl | exact Or.inr rfl) (sv_callB od_abs rfl T.m_abs bt_abs (sos_cons (so_pv (pv 6)) sos_nil rfl) (by decide) (by decide) rfl rfl) rfl (Or.inl rfl))
  (sss_one (ss_kill [7, 8] (ss_if (st_cmp od_ge (so_pv (pv 7)) (SE.toO (SV.toE (sv_bin od_pow (SE.toO se_int) (SE.toO se_int)))) rfl) (sss_one (ss_kill [7, 8] (ss_for [8] (passes_of rfl) rfl (si_range1 rfl T.m_range (sos_cons (so_pv (pv 2)) sos_nil rfl) rfl) (st_name sc__law_deck.nd rfl (by first | exact Or.inl rfl | exact Or.inr rfl) (Or.inl rfl)) (sss_cons (ss_expr (SE.toV (se_mutL PySem.F.slot_list_append PySem.F.type_list_append om_append (pv 3) (sds_cons (SV.toE (sv_bin od_mod (SE.toO (SV.toE (sv_callTy od_int rfl T.m_int bt_int (sos_cons (so_pv (pv 7)) sos_nil rfl) (by decide) (by decide) rfl rfl))) (SE.toO se_int))) sds_nil rfl) rfl rfl rfl rfl rfl)) rfl)
  (sss_one (ss_set sc__law_deck.nd rfl (by first | exact Or.inl rfl | exact Or.inr rfl) (sv_bin od_fdiv (so_pv (pv 7)) (SE.toO se_int)) rfl (Or.inl rfl)))) (fun _ => rfl)))) (sss_cons (ss_set sc__law_deck.nd rfl (by first | exact Or.inl rfl | exact Or.inr rfl) (sv_bin od_mod (SE.toO (SV.toE (sv_callTy od_int rfl T.m_int bt_int (sos_cons (SE.toO (SV.toE (sv_bin od_add (SE.toO (SV.toE (sv_bin od_add (SE.toO (SV.toE (sv_bin od_add (SE.toO (SV.toE (sv_bin od_mul (so_pv (pv 4)) (SE.toO se_int)))) (SE.toO (SV.toE (sv_bin od_mul (SE.toO se_int) (so_pv (pv 7)))))))) (SE.toO (SV.toE (sv_callTy od_int rfl T.m_int bt_int (sos_cons (SE.toO (SV.toE (sv_cmp od_lt (so_pv (pv 6)) (SE.toO se_int) rfl))) sos_nil rfl) (by decide) (by decide) rfl rfl)))))) (so_pv (pv 5))))) sos_nil rfl) (by decide) (by decide) rfl rfl))) (SE.toO se_int)) rfl (Or.inl rfl))
  (sss_one (ss_kill [8] (ss_for [8] (passes_of rfl) rfl (si_range1 rfl T.m_range (sos_cons (so_pv (pv 2)) sos_nil rfl) rfl) (st_name sc__law_deck.nd rfl (by first | exact Or.inl rfl | exact Or.inr rfl) (Or.inl rfl)) (sss_cons (ss_set sc__law_deck.nd rfl (by first | exact Or.inl rfl | exact Or.inr rfl) (sv_bin od_mod (SE.toO (SV.toE (sv_callTy od_int rfl T.m_int bt_int (sos_cons (SE.toO (SV.toE (sv_bin od_add (SE.toO (SV.toE (sv_bin od_add (SE.toO (SV.toE (sv_bin od_mul (so_pv (pv 4)) (SE.toO se_int)))) (so_pv (pv 8))))) (SE.toO se_int)))) sos_nil rfl) (by decide) (by decide) rfl rfl))) (SE.toO se_int)) rfl (Or.inl rfl))
  (sss_one (ss_expr (SE.toV (se_mutL PySem.F.slot_list_append PySem.F.type_list_append om_append (pv 3) (sds_cons (SV.toE (sv_bin od_mod (SE.toO (SV.toE (sv_callTy od_int rfl T.m_int bt_int (sos_cons (SE.toO (SV.toE (sv_bin od_fdiv (so_pv (pv 4)) (SE.toO se_int)))) sos_nil rfl) (by decide) (by decide) rfl rfl))) (SE.toO se_int))) sds_nil rfl) rfl rfl rfl rfl rfl)) rfl))) (fun _ => rfl))))))))))) (fun _ => rfl)))
  (sss_cons (ss_expr (SE.toV (se_mutL0 PySem.F.slot_list_reverse PySem.F.type_list_reverse om_reverse (pv 3) rfl rfl)) rfl)
  (sss_one (ss_retV (sv_own (pv 3))))))))
def b__law_gcd_4 : M Fl := (mRet (eVar 0))
def b__law_gcd_3 : M Fl := (mKill [1] (mWhile (asB (mBin opNe (oVar 1) (M.map OV.now (mLit (.int 0))))) [] (mPar 0 1 (mCons (eVar 1) (mCons (M.map Prod.fst (mBin opMod (M.map OV.now (M.map Prod.fst (mCallB opInt (mCons (oVar 0) mNil)))) (oVar 1))) mNil)))))
def b__law_gcd_2 : M Fl := (mSet 1 (mCallB opAbs (mCons (oVar 1) mNil)))
def b__law_gcd_1 : M Fl := (mSet 0 (mCallB opAbs (mCons (oVar 0) mNil)))
def b__law_gcd : M Fl := (mSeq b__law_gcd_1
  (mSeq b__law_gcd_2
  (mSeq b__law_gcd_3
  b__law_gcd_4)))
def f__law_gcd : Fn := runDef 2 b__law_gcd
theorem d__law_gcd (T : Txt K mg) : FnOk P w K mg base (L2.CX P w) 1 T.a__law_gcd T.fd__law_gcd ["one", "two"] (spD K mg 2 f__law_gcd) :=
  def_ok (N := ["one", "two"]) T.F__law_gcd sc__law_gcd fun cdv A outer s H E B hr => by
    have hu1 : (A.deeper (envOfC "_law_gcd" (defScope s__law_gcd) s.heap.objs.size T.a__law_gcd cdv)).units + 64 < cLine := by have := hr.un; omega
    have hu2 : (A.deeper (envOfC "_law_gcd" (defScope s__law_gcd) s.heap.objs.size T.a__law_gcd cdv)).units + 65 < cLine := by have := hr.un; omega
    exact (sss_cons (ss_set sc__law_gcd.nd rfl (by first | exact Or.inl rfl | exact Or.inr rfl) (sv_callB od_abs rfl T.m_abs bt_abs (sos_cons (so_pv (pv 0)) sos_nil rfl) (by decide) (by decide) rfl rfl) rfl (Or.inl rfl))
  (sss_cons (ss_set sc__law_gcd.nd rfl (by first | exact Or.inl rfl | exact Or.inr rfl) (sv_callB od_abs rfl T.m_abs bt_abs (sos_cons (so_pv (pv 1)) sos_nil rfl) (by decide) (by decide) rfl rfl) rfl (Or.inl rfl))
  (sss_cons (ss_kill [1] (ss_while [] (passes_of rfl) (st_cmp (od_ne hu1) (so_pv (pv 1)) (SE.toO se_int) rfl) (sss_one (ss_par rfl sc__law_gcd.nd rfl rfl (by decide) rfl rfl (sds_cons (se_pv (pv 1)) (sds_cons (SV.toE (sv_bin od_mod (SE.toO (SV.toE (sv_callTy od_int rfl T.m_int bt_int (sos_cons (so_pv (pv 0)) sos_nil rfl) (by decide) (by decide) rfl rfl))) (so_pv (pv 1)))) sds_nil rfl) rfl) rfl rfl))))
  (sss_one (ss_ret (se_pv (pv 0)))))))
def b__law_fraction_3 : M Fl := (mRet (mTup (mCons (M.map Prod.fst (mBin opFdiv (oVar 0) (oVar 2))) (mCons (M.map Prod.fst (mBin opFdiv (oVar 1) (oVar 2))) mNil))))
def b__law_fraction_2 : M Fl := (mIf (asB (mBin opLt (oVar 1) (M.map OV.now (mLit (.int 0))))) (mSet 2 (mUn opNeg (oVar 2))) mSkip)
def b__law_fraction_1 : M Fl := (mSet 2 (M.map (fun d => (d, false)) (mCall 2 f__law_gcd (mCons (M.map OV.now (eVar 0)) (mCons (M.map OV.now (eVar 1)) mNil)))))
def b__law_fraction : M Fl := (mSeq b__law_fraction_1
  (mSeq b__law_fraction_2
  b__law_fraction_3))
def f__law_fraction : Fn := runDef 3 b__law_fraction
theorem d__law_fraction (T : Txt K mg) : FnOk P w K mg base (L2.CX P w) 2 T.a__law_fraction T.fd__law_fraction ["above", "below"] (spD K mg 2 f__law_fraction) :=
  def_ok (N := ["above", "below", "common"]) T.F__law_fraction sc__law_fraction fun cdv A outer s H E B hr => by
    have hu1 : (A.deeper (envOfC "_law_fraction" (defScope s__law_fraction) s.heap.objs.size T.a__law_fraction cdv)).units + 64 < cLine := by have := hr.un; omega
    have hu2 : (A.deeper (envOfC "_law_fraction" (defScope s__law_fraction) s.heap.objs.size T.a__law_fraction cdv)).units + 65 < cLine := by have := hr.un; omega
    exact (sss_cons (ss_set sc__law_fraction.nd rfl (by first | exact Or.inl rfl | exact Or.inr rfl) (SE.toV (se_call (d__law_gcd T) (hr.mono (by first | decide | omega)) (takes_of rfl rfl rfl rfl) rfl T.g__law_gcd T.F__law_gcd.kp T.b__law_gcd (sos_cons (SE.toO (se_pv (pv 0))) (sos_cons (SE.toO (se_pv (pv 1))) sos_nil rfl) rfl) (by decide) rfl rfl)) rfl (Or.inl rfl))
  (sss_cons (ss_if (st_cmp od_lt (so_pv (pv 1)) (SE.toO se_int) rfl) (sss_one (ss_set sc__law_fraction.nd rfl (by first | exact Or.inl rfl | exact Or.inr rfl) (sv_un od_neg (so_pv (pv 2))) rfl (Or.inl rfl))) sss_nil)
  (sss_one (ss_ret (se_tup (sds_cons (SV.toE (sv_bin od_fdiv (so_pv (pv 0)) (so_pv (pv 2)))) (sds_cons (SV.toE (sv_bin od_fdiv (so_pv (pv 1)) (so_pv (pv 2)))) sds_nil rfl) rfl))))))
abbrev b__law_take := bTake
abbrev f__law_take := fTake
theorem d__law_take (T : Txt K mg) : FnOk P w K mg base (L2.CX P w) 1 T.a__law_take T.fd__law_take ["deck", "many"] (spD K mg 2 f__law_take) :=
  def_ok (N := ["deck", "many"]) T.F__law_take sc__law_take fun cdv A outer s H E B hr => by
    have hu1 : (A.deeper (envOfC "_law_take" (defScope s__law_take) s.heap.objs.size T.a__law_take cdv)).units + 64 < cLine := by have := hr.un; omega
    have hu2 : (A.deeper (envOfC "_law_take" (defScope s__law_take) s.heap.objs.size T.a__law_take cdv)).units + 65 < cLine := by have := hr.un; omega
    exact (sss_cons (ss_if (st_cmp (od_eq hu1) (SE.toO (SV.toE (sv_callB od_len rfl T.m_len bt_len (sos_cons (so_pv (pv 0)) sos_nil rfl) (by decide) (by decide) rfl rfl))) (SE.toO se_int) rfl) (sss_one (ss_ret se_int)) sss_nil)
  (sss_one (ss_ret (SV.toE (sv_bin od_mod (SE.toO (SV.toE (sv_callTy od_int rfl T.m_int bt_int (sos_cons (SE.toO (se_mutL0 PySem.F.slot_list_pop PySem.F.type_list_pop om_pop (pv 0) rfl rfl)) sos_nil rfl) (by decide) (by decide) rfl rfl))) (so_pv (pv 1)))))))
def b__law_number_5 : M Fl := (mRet (M.map Prod.fst (mBin opMul (oVar 2) (M.map OV.now (M.map Prod.fst (mBin opIx (M.map OV.now (M.map Prod.fst (mList (mCons (mLit (.int 1)) (mCons (M.map Prod.fst (mUn opNeg (M.map OV.now (mLit (.int 1))))) mNil))))) (M.map OV.now (mCall 2 f__law_take (mCons (oVar 0) (mCons (M.map OV.now (mLit (.int 2))) mNil))))))))))
def b__law_number_4 : M Fl := (mKill [3] (mFor (mRange1 (mCons (M.map OV.now (mCall 2 f__law_take (mCons (oVar 0) (mCons (M.map OV.now (mLit (.int 5))) mNil)))) mNil)) (gSet 3) [3] (mSet 2 (mBin opAdd (M.map OV.now (M.map Prod.fst (mBin opMul (oVar 2) (M.map OV.now (mLit (.int 1000003)))))) (M.map OV.now (mCall 2 f__law_take (mCons (oVar 0) (mCons (M.map OV.now (mLit (.int 1000003))) mNil))))))))
def b__law_number_3 : M Fl := (mSet 2 (M.map (fun d => (d, false)) (mCall 2 f__law_take (mCons (oVar 0) (mCons (M.map OV.now (mLit (.int 1000003))) mNil)))))
def b__law_number_2 : M Fl := (mIf (asB (mBin opLt (oVar 1) (M.map OV.now (mLit (.int 4))))) (mRet (M.map Prod.fst (mBin opSub (M.map OV.now (mCall 2 f__law_take (mCons (oVar 0) (mCons (M.map OV.now (mLit (.int 9))) mNil)))) (M.map OV.now (mLit (.int 4)))))) mSkip)
def b__law_number_1 : M Fl := (mSet 1 (M.map (fun d => (d, false)) (mCall 2 f__law_take (mCons (oVar 0) (mCons (M.map OV.now (mLit (.int 5))) mNil)))))
def b__law_number : M Fl := (mSeq b__law_number_1
  (mSeq b__law_number_2
  (mSeq b__law_number_3
  (mSeq b__law_number_4
  b__law_number_5))))
def f__law_number : Fn := runDef 4 b__law_number
theorem d__law_number (T : Txt K mg) : FnOk P w K mg base (L2.CX P w) 2 T.a__law_number T.fd__law_number ["deck"] (spD K mg 1 f__law_number) :=
  def_ok (N := ["deck", "kind", "number", "turn"]) T.F__law_number sc__law_number fun cdv A outer s H E B hr => by
    have hu1 : (A.deeper (envOfC "_law_number" (defScope s__law_number) s.heap.objs.size T.a__law_number cdv)).units + 64 < cLine := by have := hr.un; omega
    have hu2 : (A.deeper (envOfC "_law_number" (defScope s__law_number) s.heap.objs.size T.a__law_number cdv)).units + 65 < cLine := by have := hr.un; omega
    exact (sss_cons (ss_set sc__law_number.nd rfl (by first | exact Or.inl rfl | exact Or.inr rfl) (SE.toV (se_call (d__law_take T) (hr.mono (by first | decide | omega)) (takes_of rfl rfl rfl rfl) rfl T.g__law_take T.F__law_take.kp T.b__law_take (sos_cons (so_pv (pv 0)) (sos_cons (SE.toO se_int) sos_nil rfl) rfl) (by decide) rfl rfl)) rfl (Or.inl rfl))
  (sss_cons (ss_if (st_cmp od_lt (so_pv (pv 1)) (SE.toO se_int) rfl) (sss_one (ss_ret (SV.toE (sv_bin od_sub (SE.toO (se_call (d__law_take T) (hr.mono (by first | decide | omega)) (takes_of rfl rfl rfl rfl) rfl T.g__law_take T.F__law_take.kp T.b__law_take (sos_cons (so_pv (pv 0)) (sos_cons (SE.toO se_int) sos_nil rfl) rfl) (by decide) rfl rfl)) (SE.toO se_int))))) sss_nil)
  (sss_cons (ss_set sc__law_number.nd rfl (by first | exact Or.inl rfl | exact Or.inr rfl) (SE.toV (se_call (d__law_take T) (hr.mono (by first | decide | omega)) (takes_of rfl rfl rfl rfl) rfl T.g__law_take T.F__law_take.kp T.b__law_take (sos_cons (so_pv (pv 0)) (sos_cons (SE.toO se_int) sos_nil rfl) rfl) (by decide) rfl rfl)) rfl (Or.inl rfl))
  (sss_cons (ss_kill [3] (ss_for [3] (passes_of rfl) rfl (si_range1 rfl T.m_range (sos_cons (SE.toO (se_call (d__law_take T) (hr.mono (by first | decide | omega)) (takes_of rfl rfl rfl rfl) rfl T.g__law_take T.F__law_take.kp T.b__law_take (sos_cons (so_pv (pv 0)) (sos_cons (SE.toO se_int) sos_nil rfl) rfl) (by decide) rfl rfl)) sos_nil rfl) rfl) (st_name sc__law_number.nd rfl (by first | exact Or.inl rfl | exact Or.inr rfl) (Or.inl rfl)) (sss_one (ss_set sc__law_number.nd rfl (by first | exact Or.inl rfl | exact Or.inr rfl) (sv_bin od_add (SE.toO (SV.toE (sv_bin od_mul (so_pv (pv 2)) (SE.toO se_int)))) (SE.toO (se_call (d__law_take T) (hr.mono (by first | decide | omega)) (takes_of rfl rfl rfl rfl) rfl T.g__law_take T.F__law_take.kp T.b__law_take (sos_cons (so_pv (pv 0)) (sos_cons (SE.toO se_int) sos_nil rfl) rfl) (by decide) rfl rfl))) rfl (Or.inl rfl))) (fun _ => rfl)))
  (sss_one (ss_ret (SV.toE (sv_bin od_mul (so_pv (pv 2)) (SE.toO (SV.toE (sv_ix (SE.toO (SV.toE (sv_lst (sds_cons se_int (sds_cons (SV.toE (sv_un od_neg (SE.toO se_int))) sds_nil rfl) rfl)))) (SE.toO (se_call (d__law_take T) (hr.mono (by first | decide | omega)) (takes_of rfl rfl rfl rfl) rfl T.g__law_take T.F__law_take.kp T.b__law_take (sos_cons (so_pv (pv 0)) (sos_cons (SE.toO se_int) sos_nil rfl) rfl) (by decide) rfl rfl)) (fun _ _ => rfl))))))))))))
abbrev b__law_plain := bPlain
abbrev f__law_plain := fPlain
theorem d__law_plain (T : Txt K mg) : ∀ n : Nat, FnOk P w K mg base (L2.CX P w) (0 + n) T.a__law_plain T.fd__law_plain ["value"] (spD K mg 1 (f__law_plain n))
  | 0 => fn_bad (ps := ["value"])
  | n + 1 => def_ok (N := ["value", "item"]) T.F__law_plain sc__law_plain fun cdv A outer s H E B hr => by
    have hu1 : (A.deeper (envOfC "_law_plain" (defScope s__law_plain) s.heap.objs.size T.a__law_plain cdv)).units + 64 < cLine := by have := hr.un; omega
    have hu2 : (A.deeper (envOfC "_law_plain" (defScope s__law_plain) s.heap.objs.size T.a__law_plain cdv)).units + 65 < cLine := by have := hr.un; omega
    have R := d__law_plain T n
    exact (sss_cons (ss_if (st_truth (SE.toO (sv_isis (fun _ h => by simp only [List.mem_cons, List.not_mem_nil, or_false] at h; rcases h with rfl | rfl; all_goals first | exact isi_int | exact isi_bool | exact isi_str | exact isi_list | exact isi_tuple | exact isi_dict) (so_pv (pv 0)) (pa_cons (pe_bltn (v := .ty "tuple") rfl T.m_tuple bt_tuple rfl) (pa_cons (pe_bltn (v := .ty "list") rfl T.m_list bt_list rfl) pa_nil)) (fun _ _ _ q => q) (by decide) rfl T.m_isinstance bt_isinstance rfl rfl rfl)) (fun _ => rfl)) (sss_one (ss_ret (SV.toE (sv_bin od_add (SE.toO (SV.toE (sv_lst (sds_cons (sv_isi isi_list (so_pv (pv 0)) (pe_bltn (v := .ty "list") rfl T.m_list bt_list rfl) rfl T.m_isinstance bt_isinstance rfl rfl rfl) sds_nil rfl)))) (SE.toO (SV.toE (sv_lc rfl sc__law_plain.nd (si_items (se_pv (pv 0))) (own := [("item", 1)]) (show BlkOk ["value", "item"] (defScope s__law_plain) _ _ from ⟨rfl, by decide +kernel, by decide +kernel, by decide +kernel, by decide +kernel⟩) rfl (fun _ _ _ _ _ B => (stw_name sc__law_plain.nd rfl (by first | exact Or.inl rfl | exact Or.inr rfl) (by first | exact Or.inl rfl | exact Or.inr rfl) (by decide))) (fun _ _ _ _ _ B => sts_nil) (fun _ _ _ _ _ B => (se_call R hr takes0 rfl T.g__law_plain T.F__law_plain.kp T.b__law_plain (sos_cons (SE.toO (se_pv (pv 1))) sos_nil rfl) (by decide) rfl rfl)) (fun _ => rfl)))))))) sss_nil)
  (sss_cons (ss_if (SW.t (sw_or (st_cmp od_is (so_pv (pv 0)) (SE.toO se_non) rfl) (sw_or1 (st_truth (SE.toO (sv_isi isi_bool (so_pv (pv 0)) (pe_bltn (v := .ty "bool") rfl T.m_bool bt_bool rfl) rfl T.m_isinstance bt_isinstance rfl rfl rfl)) (fun _ => rfl))))) (sss_one (ss_ret (SV.toE (sv_ix (SE.toO (SV.toE (sv_lst (sds_cons se_str (sds_cons se_str (sds_cons se_str sds_nil rfl) rfl) rfl)))) (SE.toO (SV.toE (sv_bin od_add (SE.toO (SV.toE (sv_callTy od_int rfl T.m_int bt_int (sos_cons (SE.toO (SV.toE (sv_cmp od_isnot (so_pv (pv 0)) (SE.toO se_non) rfl))) sos_nil rfl) (by decide) (by decide) rfl rfl))) (SE.toO (SV.toE (sv_callTy od_int rfl T.m_int bt_int (sos_cons (SE.toO (SV.toE (sv_cmp od_is (so_pv (pv 0)) (SE.toO se_bl) rfl))) sos_nil rfl) (by decide) (by decide) rfl rfl)))))) (fun _ _ => rfl))))) sss_nil)
  (sss_cons (ss_if (st_truth (SE.toO (sv_isis (fun _ h => by simp only [List.mem_cons, List.not_mem_nil, or_false] at h; rcases h with rfl | rfl; all_goals first | exact isi_int | exact isi_bool | exact isi_str | exact isi_list | exact isi_tuple | exact isi_dict) (so_pv (pv 0)) (pa_cons (pe_bltn (v := .ty "int") rfl T.m_int bt_int rfl) (pa_cons (pe_bltn (v := .ty "str") rfl T.m_str bt_str rfl) pa_nil)) (fun _ _ _ q => q) (by decide) rfl T.m_isinstance bt_isinstance rfl rfl rfl)) (fun _ => rfl)) (sss_one (ss_ret (SV.toE (sv_lst (sds_cons (sv_isi isi_str (so_pv (pv 0)) (pe_bltn (v := .ty "str") rfl T.m_str bt_str rfl) rfl T.m_isinstance bt_isinstance rfl rfl rfl) (sds_cons (se_pv (pv 0)) sds_nil rfl) rfl))))) sss_nil)
  (sss_one (ss_ret se_str)))))
def b__law_press : M Fl := (mRet (mTup (mCons (mCall 2 f__law_take (mCons (oVar 0) (mCons (M.map OV.now (mLit (.int 60))) mNil))) (mCons (M.map Prod.fst (mBin opAdd (M.map OV.now (mLit (.int 1))) (M.map OV.now (mCall 2 f__law_take (mCons (oVar 0) (mCons (M.map OV.now (M.map Prod.fst (mBin opIx (M.map OV.now (M.map Prod.fst (mList (mCons (mLit (.int 9)) (mCons (mLit (.int 9000)) mNil))))) (M.map OV.now (mCall 2 f__law_take (mCons (oVar 0) (mCons (M.map OV.now (mLit (.int 2))) mNil))))))) mNil)))))) (mCons (mCall 2 f__law_take (mCons (oVar 0) (mCons (M.map OV.now (mLit (.int 900))) mNil))) (mCons (mCall 2 f__law_take (mCons (oVar 0) (mCons (M.map OV.now (M.map Prod.fst (mBin opIx (M.map OV.now (M.map Prod.fst (mList (mCons (mLit (.int 5)) (mCons (mLit (.int 900)) mNil))))) (M.map OV.now (mCall 2 f__law_take (mCons (oVar 0) (mCons (M.map OV.now (mLit (.int 2))) mNil))))))) mNil))) mNil))))))
def f__law_press : Fn := runDef 1 b__law_press
theorem d__law_press (T : Txt K mg) : FnOk P w K mg base (L2.CX P w) 2 T.a__law_press T.fd__law_press ["deck"] (spD K mg 1 f__law_press) :=
  def_ok (N := ["deck"]) T.F__law_press sc__law_press fun cdv A outer s H E B hr => by
    have hu1 : (A.deeper (envOfC "_law_press" (defScope s__law_press) s.heap.objs.size T.a__law_press cdv)).units + 64 < cLine := by have := hr.un; omega
    have hu2 : (A.deeper (envOfC "_law_press" (defScope s__law_press) s.heap.objs.size T.a__law_press cdv)).units + 65 < cLine := by have := hr.un; omega
    exact (sss_one (ss_ret (se_tup (sds_cons (se_call (d__law_take T) (hr.mono (by first | decide | omega)) (takes_of rfl rfl rfl rfl) rfl T.g__law_take T.F__law_take.kp T.b__law_take (sos_cons (so_pv (pv 0)) (sos_cons (SE.toO se_int) sos_nil rfl) rfl) (by decide) rfl rfl) (sds_cons (SV.toE (sv_bin od_add (SE.toO se_int) (SE.toO (se_call (d__law_take T) (hr.mono (by first | decide | omega)) (takes_of rfl rfl rfl rfl) rfl T.g__law_take T.F__law_take.kp T.b__law_take (sos_cons (so_pv (pv 0)) (sos_cons (SE.toO (SV.toE (sv_ix (SE.toO (SV.toE (sv_lst (sds_cons se_int (sds_cons se_int sds_nil rfl) rfl)))) (SE.toO (se_call (d__law_take T) (hr.mono (by first | decide | omega)) (takes_of rfl rfl rfl rfl) rfl T.g__law_take T.F__law_take.kp T.b__law_take (sos_cons (so_pv (pv 0)) (sos_cons (SE.toO se_int) sos_nil rfl) rfl) (by decide) rfl rfl)) (fun _ _ => rfl)))) sos_nil rfl) rfl) (by decide) rfl rfl)))) (sds_cons (se_call (d__law_take T) (hr.mono (by first | decide | omega)) (takes_of rfl rfl rfl rfl) rfl T.g__law_take T.F__law_take.kp T.b__law_take (sos_cons (so_pv (pv 0)) (sos_cons (SE.toO se_int) sos_nil rfl) rfl) (by decide) rfl rfl) (sds_cons (se_call (d__law_take T) (hr.mono (by first | decide | omega)) (takes_of rfl rfl rfl rfl) rfl T.g__law_take T.F__law_take.kp T.b__law_take (sos_cons (so_pv (pv 0)) (sos_cons (SE.toO (SV.toE (sv_ix (SE.toO (SV.toE (sv_lst (sds_cons se_int (sds_cons se_int sds_nil rfl) rfl)))) (SE.toO (se_call (d__law_take T) (hr.mono (by first | decide | omega)) (takes_of rfl rfl rfl rfl) rfl T.g__law_take T.F__law_take.kp T.b__law_take (sos_cons (so_pv (pv 0)) (sos_cons (SE.toO se_int) sos_nil rfl) rfl) (by decide) rfl rfl)) (fun _ _ => rfl)))) sos_nil rfl) rfl) (by decide) rfl rfl) sds_nil rfl) rfl) rfl) rfl))))
def b_cheapest_4 : M Fl := (mRet (M.map Prod.fst (mMeth "list" opIndex (oVar 2) (mCons (M.map OV.now (M.map Prod.fst (mCallB opMin (mCons (oVar 2) mNil)))) mNil))))
def b_cheapest_3 : M Fl := (mSet 2 (mLc [3] (mItems (eVar 0)) (gSet 3) mYes (M.map Prod.fst (mBin opAdd (M.map OV.now (M.map Prod.fst (mBin opMul (M.map OV.now (mLit (.int 1000))) (M.map OV.now (M.map Prod.fst (mUn (opFld ["Press"] "start") (oVar 3))))))) (M.map OV.now (M.map Prod.fst (mBin opMul (M.map OV.now (M.map Prod.fst (mUn (opFld ["Press"] "price") (oVar 3)))) (oVar 1))))))))
def b_cheapest_2 : M Fl := (mExpr (M.map (fun d => (d, false)) (mCall 1 f_check_sheets (mCons (M.map OV.now (eVar 1)) mNil))))
def b_cheapest_1 : M Fl := (mIf (mNot (mTruth (oVar 0))) (mRaise "InvalidRun" "what" (mCons (mLit (.str "presses")) mNil)) mSkip)
def b_cheapest : M Fl := (mSeq b_cheapest_1
  (mSeq b_cheapest_2
  (mSeq b_cheapest_3
  b_cheapest_4)))
def f_cheapest : Fn := runDef 4 b_cheapest
theorem d_cheapest (T : Txt K mg) : FnOk P w K mg base (L2.CX P w) 4 T.a_cheapest T.fd_cheapest ["presses", "sheets"] (spD K mg 2 f_cheapest) :=
  def_ok (N := ["presses", "sheets", "costs", "press"]) T.F_cheapest sc_cheapest fun cdv A outer s H E B hr => by
    have hu1 : (A.deeper (envOfC "cheapest" (defScope s_cheapest) s.heap.objs.size T.a_cheapest cdv)).units + 64 < cLine := by have := hr.un; omega
    have hu2 : (A.deeper (envOfC "cheapest" (defScope s_cheapest) s.heap.objs.size T.a_cheapest cdv)).units + 65 < cLine := by have := hr.un; omega
    exact (sss_cons (ss_if (st_not (st_truth (so_pv (pv 0)) (fun _ => rfl))) (sss_one (ss_raise rfl (takes_of rfl rfl rfl rfl) T.x_InvalidRun T.xi_InvalidRun T.xt_InvalidRun (d_init_InvalidRun T) (hr.mono (by first | decide | omega)) T.xb_InvalidRun rfl T.xg_InvalidRun T.xn_InvalidRun (sds_cons se_str sds_nil rfl) (by decide) rfl rfl)) sss_nil)
  (sss_cons (ss_expr (SE.toV (se_call (d_check_sheets T) (hr.mono (by first | decide | omega)) (takes_of rfl rfl rfl rfl) rfl T.g_check_sheets T.F_check_sheets.kp T.b_check_sheets (sos_cons (SE.toO (se_pv (pv 1))) sos_nil rfl) (by decide) rfl rfl)) rfl)
  (sss_cons (by first | exact ss_setLc rfl sc_cheapest.nd rfl rfl (sw_true rfl rfl rfl rfl) (si_items (se_pv (pv 0))) (own := [("press", 3)]) (show BlkOk ["presses", "sheets", "costs", "press"] (defScope s_cheapest) _ _ from ⟨rfl, by decide +kernel, by decide +kernel, by decide +kernel, by decide +kernel⟩) rfl (fun _ _ _ _ _ B => (stw_name sc_cheapest.nd rfl (by first | exact Or.inl rfl | exact Or.inr rfl) (by first | exact Or.inl rfl | exact Or.inr rfl) (by decide))) (fun _ _ _ _ _ B => sts_nil) (fun _ _ _ _ _ B => (SV.toE (sv_bin od_add (SE.toO (SV.toE (sv_bin od_mul (SE.toO se_int) (SE.toO (SV.toE (sv_fld T.fo_start (so_pv (pv 3)) rfl)))))) (SE.toO (SV.toE (sv_bin od_mul (SE.toO (SV.toE (sv_fld T.fo_price (so_pv (pv 3)) rfl))) (so_pv (pv 1)))))))) (fun _ => rfl) | exact ss_set sc_cheapest.nd rfl (by first | exact Or.inl rfl | exact Or.inr rfl) (sv_lc rfl sc_cheapest.nd (si_items (se_pv (pv 0))) (own := [("press", 3)]) (show BlkOk ["presses", "sheets", "costs", "press"] (defScope s_cheapest) _ _ from ⟨rfl, by decide +kernel, by decide +kernel, by decide +kernel, by decide +kernel⟩) rfl (fun _ _ _ _ _ B => (stw_name sc_cheapest.nd rfl (by first | exact Or.inl rfl | exact Or.inr rfl) (by first | exact Or.inl rfl | exact Or.inr rfl) (by decide))) (fun _ _ _ _ _ B => sts_nil) (fun _ _ _ _ _ B => (SV.toE (sv_bin od_add (SE.toO (SV.toE (sv_bin od_mul (SE.toO se_int) (SE.toO (SV.toE (sv_fld T.fo_start (so_pv (pv 3)) rfl)))))) (SE.toO (SV.toE (sv_bin od_mul (SE.toO (SV.toE (sv_fld T.fo_price (so_pv (pv 3)) rfl))) (so_pv (pv 1)))))))) (fun _ => rfl)) rfl (Or.inl rfl))
  (sss_one (ss_ret (SV.toE (sv_meth PySem.F.plainAttrs_list PySem.F.slot_list_index PySem.F.type_list_index (or_index hu2) (so_pv (pv 2)) (sos_cons (SE.toO (SV.toE (sv_callB (od_min rfl) rfl T.m_min bt_min (sos_cons (so_pv (pv 2)) sos_nil rfl) (by decide) (by decide) rfl rfl))) sos_nil rfl) rfl rfl rfl rfl rfl)))))))
def b__law_why_2 : M Fl := (mRet (mLit .non))
def b__law_why_1 : M Fl := (mTry 3 (mIf (asB (mBin opEq (oVar 0) (M.map OV.now (mLit (.int 0))))) (mExpr (mMake "Press" 4 f_Press_m___init__ (mCons (M.map Prod.fst (mBin opIx (oVar 1) (M.map OV.now (mLit (.int 0))))) (mCons (M.map Prod.fst (mBin opIx (oVar 1) (M.map OV.now (mLit (.int 1))))) (mCons (M.map Prod.fst (mBin opIx (oVar 1) (M.map OV.now (mLit (.int 2))))) (mCons (M.map Prod.fst (mBin opIx (oVar 1) (M.map OV.now (mLit (.int 3))))) mNil)))))) (mIf (asB (mBin opEq (oVar 0) (M.map OV.now (mLit (.int 1))))) (mExpr (M.map (fun d => (d, false)) (mMet "Press" "minutes" 2 f_Press_m_minutes (eVar 1) (mCons (M.map OV.now (eVar 2)) mNil)))) (mIf (asB (mBin opEq (oVar 0) (M.map OV.now (mLit (.int 2))))) (mExpr (M.map (fun d => (d, false)) (mMet "Press" "cost" 2 f_Press_m_cost (eVar 1) (mCons (M.map OV.now (eVar 2)) mNil)))) (mIf (asB (mBin opEq (oVar 0) (M.map OV.now (mLit (.int 3))))) (mExpr (M.map (fun d => (d, false)) (mMet "Press" "most_sheets" 2 f_Press_m_most_sheets (eVar 1) (mCons (M.map OV.now (eVar 2)) mNil)))) (mExpr (M.map (fun d => (d, false)) (mCall 2 f_cheapest (mCons (M.map OV.now (eVar 1)) (mCons (M.map OV.now (eVar 2)) mNil))))))))) [⟨[("InvalidLength", true), ("InvalidItems", true), ("InvalidRun", true), ("InvalidColour", true), ("TooMany", true)], (exIf (bAnd (bIs [("InvalidLength", false), ("InvalidItems", false), ("InvalidRun", true), ("InvalidColour", false), ("TooMany", false)]) (bNot (bIs [("InvalidLength", false), ("InvalidItems", true), ("InvalidRun", false), ("InvalidColour", false), ("TooMany", false)]))) (exFld ["InvalidLength", "InvalidItems", "InvalidRun", "InvalidColour", "TooMany"] "what") exBad)⟩])
def b__law_why : M Fl := (mSeq b__law_why_1
  b__law_why_2)
def f__law_why : Fn := runDef 4 b__law_why
theorem d__law_why (T : Txt K mg) : FnOk P w K mg base (L2.CX P w) 5 T.a__law_why T.fd__law_why ["ask", "one", "two"] (spD K mg 3 f__law_why) :=
  def_ok (N := ["ask", "one", "two", "error"]) T.F__law_why sc__law_why fun cdv A outer s H E B hr => by
    have hu1 : (A.deeper (envOfC "_law_why" (defScope s__law_why) s.heap.objs.size T.a__law_why cdv)).units + 64 < cLine := by have := hr.un; omega
    have hu2 : (A.deeper (envOfC "_law_why" (defScope s__law_why) s.heap.objs.size T.a__law_why cdv)).units + 65 < cLine := by have := hr.un; omega
    exact (sss_cons (ss_try rfl rfl sc__law_why.nd rfl rfl (takes_of rfl rfl rfl rfl) (fun _ _ _ tk po => (sss_one (ss_if (st_cmp (od_eq hu1) (so_pv (pv 0)) (SE.toO se_int) rfl) (sss_one (ss_expr (sv_make (d_Press_m___init__ T) T.ok_Press (hr.mono (by first | decide | omega)) tk rfl T.oc_Press.g T.b_Press_m___init__ (sds_cons (SV.toE (sv_ix (so_pv (pv 1)) (SE.toO se_int) (fun _ _ => rfl))) (sds_cons (SV.toE (sv_ix (so_pv (pv 1)) (SE.toO se_int) (fun _ _ => rfl))) (sds_cons (SV.toE (sv_ix (so_pv (pv 1)) (SE.toO se_int) (fun _ _ => rfl))) (sds_cons (SV.toE (sv_ix (so_pv (pv 1)) (SE.toO se_int) (fun _ _ => rfl))) sds_nil rfl) rfl) rfl) rfl) (by decide) rfl rfl) rfl)) (sss_one (ss_if (st_cmp (od_eq hu1) (so_pv (pv 0)) (SE.toO se_int) rfl) (sss_one (ss_expr (SE.toV (se_met (d_Press_m_minutes T) (hr.mono (by first | decide | omega)) tk T.oc_Press T.om_Press_m_minutes T.b_Press_m_minutes (se_pv (pv 1)) (sos_cons (SE.toO (se_pv (pv 2))) sos_nil rfl) rfl rfl rfl)) rfl)) (sss_one (ss_if (st_cmp (od_eq hu1) (so_pv (pv 0)) (SE.toO se_int) rfl) (sss_one (ss_expr (SE.toV (se_met (d_Press_m_cost T) (hr.mono (by first | decide | omega)) tk T.oc_Press T.om_Press_m_cost T.b_Press_m_cost (se_pv (pv 1)) (sos_cons (SE.toO (se_pv (pv 2))) sos_nil rfl) rfl rfl rfl)) rfl)) (sss_one (ss_if (st_cmp (od_eq hu1) (so_pv (pv 0)) (SE.toO se_int) rfl) (sss_one (ss_expr (SE.toV (se_met (d_Press_m_most_sheets T) (hr.mono (by first | decide | omega)) tk T.oc_Press T.om_Press_m_most_sheets T.b_Press_m_most_sheets (se_pv (pv 1)) (sos_cons (SE.toO (se_pv (pv 2))) sos_nil rfl) rfl rfl rfl)) rfl)) (sss_one (ss_expr (SE.toV (se_call (d_cheapest T) (hr.mono (by first | decide | omega)) tk rfl T.g_cheapest T.F_cheapest.kp T.b_cheapest (sos_cons (SE.toO (se_pv (pv 1))) (sos_cons (SE.toO (se_pv (pv 2))) sos_nil rfl) rfl) (by decide) rfl rfl)) rfl))))))))))) (HdlsOk.cons ⟨rfl, by decide, .inl T.xg_PressError⟩ T.sub_PressError (hs_if (hb_and (hb_is T.it_InvalidRun (fun _ _ => pv 3) (fun _ _ => rfl) T.xg_InvalidRun (by decide) (fun _ _ => rfl) T.m_isinstance (fun _ => rfl) (fun _ => rfl) (fun _ => rfl) (fun _ _ => rfl)) (hb_not (hb_is T.it_InvalidItems (fun _ _ => pv 3) (fun _ _ => rfl) T.xg_InvalidItems (by decide) (fun _ _ => rfl) T.m_isinstance (fun _ => rfl) (fun _ => rfl) (fun _ => rfl) (fun _ _ => rfl)))) (he_fld T.xf_PressError (fun _ _ => pv 3) (fun _ => rfl)) (hs_ret he_no)) HdlsOk.nil))
  (sss_one (ss_ret se_non)))
def b_even_count_5 : M Fl := (mRet (M.map Prod.fst (mUn opNeg (M.map OV.now (M.map Prod.fst (mBin opFdiv (M.map OV.now (M.map Prod.fst (mUn opNeg (oVar 2)))) (oVar 3)))))))
def b_even_count_4 : M Fl := (mIf (asB (mBin opLe (oVar 2) (M.map OV.now (mLit (.int 0))))) (mRet (mLit (.int 0))) mSkip)
def b_even_count_3 : M Fl := (mIf (mOr (asB (mBin opLt (oVar 3) (M.map OV.now (mLit (.int 0))))) (mAnd (asB (mBin opEq (oVar 3) (M.map OV.now (mLit (.int 0))))) (asB (mBin opGt (oVar 2) (M.map OV.now (mLit (.int 0))))))) (mRet (mLit .non)) mSkip)
def b_even_count_2 : M Fl := (mSet 3 (mBin opSub (M.map OV.now (M.map Prod.fst (mUn (opFld ["Press"] "price") (oVar 0)))) (M.map OV.now (M.map Prod.fst (mUn (opFld ["Press"] "price") (oVar 1))))))
def b_even_count_1 : M Fl := (mSet 2 (mBin opMul (M.map OV.now (mLit (.int 1000))) (M.map OV.now (M.map Prod.fst (mBin opSub (M.map OV.now (M.map Prod.fst (mUn (opFld ["Press"] "start") (oVar 1)))) (M.map OV.now (M.map Prod.fst (mUn (opFld ["Press"] "start") (oVar 0)))))))))
def b_even_count : M Fl := (mSeq b_even_count_1
  (mSeq b_even_count_2
  (mSeq b_even_count_3
  (mSeq b_even_count_4
  b_even_count_5))))
def f_even_count : Fn := runDef 4 b_even_count
theorem d_even_count (T : Txt K mg) : FnOk P w K mg base (L2.CX P w) 1 T.a_even_count T.fd_even_count ["first", "second"] (spD K mg 2 f_even_count) :=
  def_ok (N := ["first", "second", "gap", "gain"]) T.F_even_count sc_even_count fun cdv A outer s H E B hr => by
    have hu1 : (A.deeper (envOfC "even_count" (defScope s_even_count) s.heap.objs.size T.a_even_count cdv)).units + 64 < cLine := by have := hr.un; omega
    have hu2 : (A.deeper (envOfC "even_count" (defScope s_even_count) s.heap.objs.size T.a_even_count cdv)).units + 65 < cLine := by have := hr.un; omega
    exact (sss_cons (ss_set sc_even_count.nd rfl (by first | exact Or.inl rfl | exact Or.inr rfl) (sv_bin od_mul (SE.toO se_int) (SE.toO (SV.toE (sv_bin od_sub (SE.toO (SV.toE (sv_fld T.fo_start (so_pv (pv 1)) rfl))) (SE.toO (SV.toE (sv_fld T.fo_start (so_pv (pv 0)) rfl))))))) rfl (Or.inl rfl))
  (sss_cons (ss_set sc_even_count.nd rfl (by first | exact Or.inl rfl | exact Or.inr rfl) (sv_bin od_sub (SE.toO (SV.toE (sv_fld T.fo_price (so_pv (pv 0)) rfl))) (SE.toO (SV.toE (sv_fld T.fo_price (so_pv (pv 1)) rfl)))) rfl (Or.inl rfl))
  (sss_cons (ss_if (SW.t (sw_or (st_cmp od_lt (so_pv (pv 3)) (SE.toO se_int) rfl) (sw_or1 (SW.t (sw_and (st_cmp (od_eq hu1) (so_pv (pv 3)) (SE.toO se_int) rfl) (sw_and1 (st_cmp od_gt (so_pv (pv 2)) (SE.toO se_int) rfl))))))) (sss_one (ss_ret se_non)) sss_nil)
  (sss_cons (ss_if (st_cmp od_le (so_pv (pv 2)) (SE.toO se_int) rfl) (sss_one (ss_ret se_int)) sss_nil)
  (sss_one (ss_ret (SV.toE (sv_un od_neg (SE.toO (SV.toE (sv_bin od_fdiv (SE.toO (SV.toE (sv_un od_neg (so_pv (pv 2))))) (so_pv (pv 3)))))))))))))
def b_law_22 : M Fl := (mRet (M.map Prod.fst (mBin opEq (oVar 24) (M.map OV.now (M.map Prod.fst (mList (mCons (mLit (.str "costs")) (mCons (mLit (.str "costs")) (mCons (mLit (.str "costs")) (mCons (mLit (.str "speed")) (mCons (mLit (.str "sheets")) (mCons (mLit (.str "sheets")) (mCons (mLit (.str "minutes")) (mCons (mLit (.str "presses")) (mCons (mLit (.str "sheets")) mNil)))))))))))))))
def b_law_21 : M Fl := (mSet 24 (mBin opAdd (oVar 24) (M.map OV.now (M.map Prod.fst (mList (mCons (mCall 3 f__law_why (mCons (M.map OV.now (mLit (.int 1))) (mCons (M.map OV.now (eVar 10)) (mCons (M.map OV.now (M.map Prod.fst (mUn opNeg (M.map OV.now (mLit (.int 1)))))) mNil)))) (mCons (mCall 3 f__law_why (mCons (M.map OV.now (mLit (.int 2))) (mCons (M.map OV.now (eVar 10)) (mCons (M.map OV.now (M.map Prod.fst (mUn opNeg (M.map OV.now (mLit (.int 1)))))) mNil)))) (mCons (mCall 3 f__law_why (mCons (M.map OV.now (mLit (.int 3))) (mCons (M.map OV.now (eVar 10)) (mCons (M.map OV.now (M.map Prod.fst (mUn opNeg (M.map OV.now (mLit (.int 1)))))) mNil)))) (mCons (mCall 3 f__law_why (mCons (M.map OV.now (mLit (.int 4))) (mCons (M.map OV.now (M.map Prod.fst (mList mNil))) (mCons (M.map OV.now (M.map Prod.fst (mUn opNeg (M.map OV.now (mLit (.int 1)))))) mNil)))) (mCons (mCall 3 f__law_why (mCons (M.map OV.now (mLit (.int 4))) (mCons (M.map OV.now (eVar 4)) (mCons (M.map OV.now (M.map Prod.fst (mUn opNeg (M.map OV.now (mLit (.int 1)))))) mNil)))) mNil))))))))))
def b_law_20 : M Fl := (mSet 24 (mList (mCons (mCall 3 f__law_why (mCons (M.map OV.now (mLit (.int 0))) (mCons (M.map OV.now (mTup (mCons (M.map Prod.fst (mUn opNeg (M.map OV.now (mLit (.int 1))))) (mCons (mLit (.int 0)) (mCons (mLit (.int 0)) (mCons (mLit (.int 0)) mNil)))))) (mCons (M.map OV.now (mLit .non)) mNil)))) (mCons (mCall 3 f__law_why (mCons (M.map OV.now (mLit (.int 0))) (mCons (M.map OV.now (mTup (mCons (mLit (.int 0)) (mCons (mLit (.int 0)) (mCons (M.map Prod.fst (mUn opNeg (M.map OV.now (mLit (.int 1))))) (mCons (mLit (.int 0)) mNil)))))) (mCons (M.map OV.now (mLit .non)) mNil)))) (mCons (mCall 3 f__law_why (mCons (M.map OV.now (mLit (.int 0))) (mCons (M.map OV.now (mTup (mCons (mLit (.int 0)) (mCons (mLit (.int 0)) (mCons (mLit (.int 0)) (mCons (M.map Prod.fst (mUn opNeg (M.map OV.now (mLit (.int 1))))) mNil)))))) (mCons (M.map OV.now (mLit .non)) mNil)))) (mCons (mCall 3 f__law_why (mCons (M.map OV.now (mLit (.int 0))) (mCons (M.map OV.now (mTup (mCons (mLit (.int 0)) (mCons (mLit (.int 0)) (mCons (mLit (.int 0)) (mCons (mLit (.int 0)) mNil)))))) (mCons (M.map OV.now (mLit .non)) mNil)))) mNil))))))
def b_law_19 : M Fl := (mIf (asB (mBin opGt (M.map OV.now (mCall 2 f__law_cents (mCons (M.map OV.now (eVar 21)) (mCons (M.map OV.now (eVar 23)) mNil)))) (M.map OV.now (mCall 2 f__law_cents (mCons (M.map OV.now (eVar 20)) (mCons (M.map OV.now (eVar 23)) mNil)))))) (mIf (asB (mBin opIsNot (oVar 22) (M.map OV.now (mLit .non)))) (mRet (mLit (.bl false))) mSkip) (mSeq (mIf (mOr (asB (mBin opNe (M.map OV.now (mCall 1 (f__law_plain 8) (mCons (M.map OV.now (eVar 22)) mNil))) (M.map OV.now (mCall 1 (f__law_plain 8) (mCons (M.map OV.now (M.map Prod.fst (mCallB opInt (mCons (oVar 22) mNil)))) mNil))))) (mOr (asB (mBin opLt (oVar 22) (M.map OV.now (mLit (.int 0))))) (asB (mBin opGt (M.map OV.now (mCall 2 f__law_cents (mCons (M.map OV.now (eVar 21)) (mCons (M.map OV.now (eVar 22)) mNil)))) (M.map OV.now (mCall 2 f__law_cents (mCons (M.map OV.now (eVar 20)) (mCons (M.map OV.now (eVar 22)) mNil)))))))) (mRet (mLit (.bl false))) mSkip)
  (mSeq (mIf (mAnd (asB (mBin opGt (oVar 22) (M.map OV.now (mLit (.int 0))))) (asB (mBin opLe (M.map OV.now (mCall 2 f__law_cents (mCons (M.map OV.now (eVar 21)) (mCons (M.map OV.now (M.map Prod.fst (mBin opSub (oVar 22) (M.map OV.now (mLit (.int 1)))))) mNil)))) (M.map OV.now (mCall 2 f__law_cents (mCons (M.map OV.now (eVar 20)) (mCons (M.map OV.now (M.map Prod.fst (mBin opSub (oVar 22) (M.map OV.now (mLit (.int 1)))))) mNil))))))) (mRet (mLit (.bl false))) mSkip)
  (mIf (asB (mBin opGt (M.map OV.now (mCall 2 f__law_cents (mCons (M.map OV.now (eVar 21)) (mCons (M.map OV.now (M.map Prod.fst (mBin opAdd (oVar 22) (M.map OV.now (mCall 2 f__law_take (mCons (oVar 1) (mCons (M.map OV.now (mLit (.int 90))) mNil))))))) mNil)))) (M.map OV.now (M.map Prod.fst (mBin opAdd (M.map OV.now (mCall 2 f__law_cents (mCons (M.map OV.now (eVar 20)) (mCons (M.map OV.now (M.map Prod.fst (mBin opAdd (oVar 22) (M.map OV.now (mLit (.int 90)))))) mNil)))) (M.map OV.now (M.map Prod.fst (mBin opMul (M.map OV.now (mLit (.int 90))) (M.map OV.now (M.map Prod.fst (mBin opIx (oVar 20) (M.map OV.now (mLit (.int 3)))))))))))))) (mRet (mLit (.bl false))) mSkip))))
def b_law_18 : M Fl := (mSet 23 (mBin opPow (M.map OV.now (mLit (.int 10))) (M.map OV.now (mLit (.int 9)))))
def b_law_17 : M Fl := (mSet 22 (M.map (fun d => (d, false)) (mCall 2 f_even_count (mCons (M.map OV.now (M.map Prod.fst (mBin opIx (oVar 4) (M.map OV.now (mLit (.int 0)))))) (mCons (M.map OV.now (M.map Prod.fst (mBin opIx (oVar 4) (M.map OV.now (M.map Prod.fst (mUn opNeg (M.map OV.now (mLit (.int 1))))))))) mNil)))))
def b_law_16 : M Fl := (mSet 21 (mBin opIx (oVar 2) (M.map OV.now (M.map Prod.fst (mUn opNeg (M.map OV.now (mLit (.int 1))))))))
def b_law_15 : M Fl := (mSet 20 (mBin opIx (oVar 2) (M.map OV.now (mLit (.int 0)))))
def b_law_14 : M Fl := (mIf (asB (mBin opNe (M.map OV.now (mCall 1 (f__law_plain 8) (mCons (M.map OV.now (mCall 2 f_cheapest (mCons (M.map OV.now (eVar 4)) (mCons (M.map OV.now (eVar 11)) mNil)))) mNil))) (M.map OV.now (mCall 1 (f__law_plain 8) (mCons (M.map OV.now (M.map Prod.fst (mMeth "list" opIndex (oVar 19) (mCons (M.map OV.now (M.map Prod.fst (mCallB opMin (mCons (oVar 19) mNil)))) mNil)))) mNil))))) (mRet (mLit (.bl false))) mSkip)
def b_law_13 : M Fl := (mSet 19 (mLc [5] (mItems (eVar 2)) (gSet 5) mYes (mCall 2 f__law_cents (mCons (M.map OV.now (eVar 5)) (mCons (M.map OV.now (eVar 11)) mNil)))))
def b_law_12 : M Fl := (mKill [15, 16, 17, 18] (mIf (asB (mBin opLt (oVar 13) (oVar 6))) (mIf (asB (mBin opIsNot (oVar 14) (M.map OV.now (mLit .non)))) (mRet (mLit (.bl false))) mSkip) (mSeq (mAsg (mMet "Press" "minutes" 2 f_Press_m_minutes (eVar 10) (mCons (M.map OV.now (eVar 14)) mNil)) (gTupD 2 (gsCons (gSet 15) (gsCons (gSet 16) gsNil))))
  (mSeq (mAsg (mMet "Press" "minutes" 2 f_Press_m_minutes (eVar 10) (mCons (M.map OV.now (M.map Prod.fst (mBin opAdd (oVar 14) (M.map OV.now (mLit (.int 1)))))) mNil)) (gTupD 2 (gsCons (gSet 17) (gsCons (gSet 18) gsNil))))
  (mIf (mOr (asB (mBin opNe (M.map OV.now (mCall 1 (f__law_plain 8) (mCons (M.map OV.now (eVar 14)) mNil))) (M.map OV.now (mCall 1 (f__law_plain 8) (mCons (M.map OV.now (M.map Prod.fst (mCallB opInt (mCons (oVar 14) mNil)))) mNil))))) (mOr (asB (mBin opGt (oVar 15) (M.map OV.now (M.map Prod.fst (mBin opMul (oVar 13) (oVar 16)))))) (asB (mBin opLe (oVar 17) (M.map OV.now (M.map Prod.fst (mBin opMul (oVar 13) (oVar 18)))))))) (mRet (mLit (.bl false))) mSkip)))))
def b_law_11 : M Fl := (mSet 14 (M.map (fun d => (d, false)) (mMet "Press" "most_sheets" 2 f_Press_m_most_sheets (eVar 10) (mCons (M.map OV.now (eVar 13)) mNil))))
def b_law_10 : M Fl := (mSet 13 (M.map (fun d => (d, false)) (mCall 2 f__law_take (mCons (oVar 1) (mCons (M.map OV.now (mLit (.int 300))) mNil)))))
def b_law_9 : M Fl := (mIf (asB (mBin opNe (M.map OV.now (mCall 1 (f__law_plain 8) (mCons (M.map OV.now (M.map Prod.fst (mList (mCons (mMet "Press" "minutes" 2 f_Press_m_minutes (eVar 10) (mCons (M.map OV.now (eVar 11)) mNil)) (mCons (mMet "Press" "cost" 2 f_Press_m_cost (eVar 10) (mCons (M.map OV.now (eVar 11)) mNil)) mNil))))) mNil))) (M.map OV.now (mCall 1 (f__law_plain 8) (mCons (M.map OV.now (eVar 12)) mNil))))) (mRet (mLit (.bl false))) mSkip)
def b_law_8 : M Fl := (mSet 12 (mList (mCons (mCall 2 f__law_fraction (mCons (M.map OV.now (M.map Prod.fst (mBin opAdd (M.map OV.now (M.map Prod.fst (mBin opMul (oVar 6) (oVar 7)))) (M.map OV.now (M.map Prod.fst (mBin opMul (M.map OV.now (mLit (.int 60))) (oVar 11))))))) (mCons (M.map OV.now (eVar 7)) mNil))) (mCons (mCall 2 f__law_fraction (mCons (M.map OV.now (mCall 2 f__law_cents (mCons (M.map OV.now (M.map Prod.fst (mBin opIx (oVar 2) (M.map OV.now (mLit (.int 0)))))) (mCons (M.map OV.now (eVar 11)) mNil)))) (mCons (M.map OV.now (mLit (.int 1000))) mNil))) mNil))))
def b_law_7 : M Fl := (mSet 11 (mBin opIx (M.map OV.now (M.map Prod.fst (mList (mCons (mCall 2 f__law_take (mCons (oVar 1) (mCons (M.map OV.now (mLit (.int 50))) mNil))) (mCons (mCall 2 f__law_take (mCons (oVar 1) (mCons (M.map OV.now (mLit (.int 100000))) mNil))) (mCons (M.map Prod.fst (mCallB opAbs (mCons (M.map OV.now (mCall 1 f__law_number (mCons (oVar 1) mNil))) mNil))) mNil)))))) (M.map OV.now (mCall 2 f__law_take (mCons (oVar 1) (mCons (M.map OV.now (mLit (.int 3))) mNil))))))
def b_law_6 : M Fl := (mIf (asB (mBin opNe (M.map OV.now (mCall 1 (f__law_plain 8) (mCons (M.map OV.now (M.map Prod.fst (mList (mCons (M.map Prod.fst (mUn (opFld ["Press"] "ready") (oVar 10))) (mCons (M.map Prod.fst (mUn (opFld ["Press"] "speed") (oVar 10))) (mCons (M.map Prod.fst (mUn (opFld ["Press"] "start") (oVar 10))) (mCons (M.map Prod.fst (mUn (opFld ["Press"] "price") (oVar 10))) mNil))))))) mNil))) (M.map OV.now (mCall 1 (f__law_plain 8) (mCons (M.map OV.now (M.map Prod.fst (mList (mCons (eVar 6) (mCons (eVar 7) (mCons (eVar 8) (mCons (eVar 9) mNil))))))) mNil))))) (mRet (mLit (.bl false))) mSkip)
def b_law_5 : M Fl := (mSet 10 (mBin opIx (oVar 4) (M.map OV.now (mLit (.int 0)))))
def b_law_4 : M Fl := (mAsg (M.map Prod.fst (mBin opIx (oVar 2) (M.map OV.now (mLit (.int 0))))) (gTupD 4 (gsCons (gSet 6) (gsCons (gSet 7) (gsCons (gSet 8) (gsCons (gSet 9) gsNil))))))
def b_law_3 : M Fl := (mSet 4 (mLc [5] (mItems (eVar 2)) (gSet 5) mYes (M.map Prod.fst (mMake "Press" 4 f_Press_m___init__ (mCons (M.map Prod.fst (mBin opIx (oVar 5) (M.map OV.now (mLit (.int 0))))) (mCons (M.map Prod.fst (mBin opIx (oVar 5) (M.map OV.now (mLit (.int 1))))) (mCons (M.map Prod.fst (mBin opIx (oVar 5) (M.map OV.now (mLit (.int 2))))) (mCons (M.map Prod.fst (mBin opIx (oVar 5) (M.map OV.now (mLit (.int 3))))) mNil))))))))
def b_law_2 : M Fl := (mSet 2 (mLc [3] (mRange1 (mCons (M.map OV.now (M.map Prod.fst (mBin opAdd (M.map OV.now (mLit (.int 1))) (M.map OV.now (mCall 2 f__law_take (mCons (oVar 1) (mCons (M.map OV.now (mLit (.int 5))) mNil))))))) mNil)) (gSet 3) mYes (mCall 1 f__law_press (mCons (oVar 1) mNil))))
def b_law_1 : M Fl := (mSet 1 (mCallN 3 f__law_deck (mCons (M.map OV.now (eVar 0)) (mCons (M.map OV.now (mLit (.int 30))) (mCons (M.map OV.now (mLit (.int 14))) mNil)))))
def b_law : M Fl := (mSeq b_law_1
  (mSeq b_law_2
  (mSeq b_law_3
  (mSeq b_law_4
  (mSeq b_law_5
  (mSeq b_law_6
  (mSeq b_law_7
  (mSeq b_law_8
  (mSeq b_law_9
  (mSeq b_law_10
  (mSeq b_law_11
  (mSeq b_law_12
  (mSeq b_law_13
  (mSeq b_law_14
  (mSeq b_law_15
  (mSeq b_law_16
  (mSeq b_law_17
  (mSeq b_law_18
  (mSeq b_law_19
  (mSeq b_law_20
  (mSeq b_law_21
  b_law_22)))))))))))))))))))))
def f_law : Fn := runDef 25 b_law
theorem d_law (T : Txt K mg) : FnOk P w K mg base (L2.CX P w) 9 T.a_law T.fd_law ["script"] (spD K mg 1 f_law) :=
  def_ok (N := ["script", "deck", "rows", "turn", "presses", "row", "ready", "speed", "start", "price", "press", "sheets", "due", "minutes", "most", "above", "below", "more", "under", "costs", "one", "two", "even", "far", "answers"]) T.F_law sc_law fun cdv A outer s H E B hr => by
    have hu1 : (A.deeper (envOfC "law" (defScope s_law) s.heap.objs.size T.a_law cdv)).units + 64 < cLine := by have := hr.un; omega
    have hu2 : (A.deeper (envOfC "law" (defScope s_law) s.heap.objs.size T.a_law cdv)).units + 65 < cLine := by have := hr.un; omega
    exact (sss_cons (ss_set sc_law.nd rfl (by first | exact Or.inl rfl | exact Or.inr rfl) (se_callN (d__law_deck T) (hr.mono (by first | decide | omega)) (takes_of rfl rfl rfl rfl) rfl T.g__law_deck T.F__law_deck.kp T.b__law_deck (sos_cons (SE.toO (se_pv (pv 0))) (sos_cons (SE.toO se_int) (sos_cons (SE.toO se_int) sos_nil rfl) rfl) rfl) (by decide) rfl rfl) rfl (Or.inl rfl))
  (sss_cons (by first | exact ss_setLc rfl sc_law.nd rfl rfl (sw_true rfl rfl rfl rfl) (si_range1 rfl T.m_range (sos_cons (SE.toO (SV.toE (sv_bin od_add (SE.toO se_int) (SE.toO (se_call (d__law_take T) (hr.mono (by first | decide | omega)) (takes_of rfl rfl rfl rfl) rfl T.g__law_take T.F__law_take.kp T.b__law_take (sos_cons (so_pv (pv 1)) (sos_cons (SE.toO se_int) sos_nil rfl) rfl) (by decide) rfl rfl))))) sos_nil rfl) rfl) (own := [("turn", 3)]) (show BlkOk ["script", "deck", "rows", "turn", "presses", "row", "ready", "speed", "start", "price", "press", "sheets", "due", "minutes", "most", "above", "below", "more", "under", "costs", "one", "two", "even", "far", "answers"] (defScope s_law) _ _ from ⟨rfl, by decide +kernel, by decide +kernel, by decide +kernel, by decide +kernel⟩) rfl (fun _ _ _ _ _ B => (stw_name sc_law.nd rfl (by first | exact Or.inl rfl | exact Or.inr rfl) (by first | exact Or.inl rfl | exact Or.inr rfl) (by decide))) (fun _ _ _ _ _ B => sts_nil) (fun _ _ _ _ _ B => (se_call (d__law_press T) (hr.mono (by first | decide | omega)) takes0 rfl T.g__law_press T.F__law_press.kp T.b__law_press (sos_cons (so_pv (pv 1)) sos_nil rfl) (by decide) rfl rfl)) (fun _ => rfl) | exact ss_set sc_law.nd rfl (by first | exact Or.inl rfl | exact Or.inr rfl) (sv_lc rfl sc_law.nd (si_range1 rfl T.m_range (sos_cons (SE.toO (SV.toE (sv_bin od_add (SE.toO se_int) (SE.toO (se_call (d__law_take T) (hr.mono (by first | decide | omega)) (takes_of rfl rfl rfl rfl) rfl T.g__law_take T.F__law_take.kp T.b__law_take (sos_cons (so_pv (pv 1)) (sos_cons (SE.toO se_int) sos_nil rfl) rfl) (by decide) rfl rfl))))) sos_nil rfl) rfl) (own := [("turn", 3)]) (show BlkOk ["script", "deck", "rows", "turn", "presses", "row", "ready", "speed", "start", "price", "press", "sheets", "due", "minutes", "most", "above", "below", "more", "under", "costs", "one", "two", "even", "far", "answers"] (defScope s_law) _ _ from ⟨rfl, by decide +kernel, by decide +kernel, by decide +kernel, by decide +kernel⟩) rfl (fun _ _ _ _ _ B => (stw_name sc_law.nd rfl (by first | exact Or.inl rfl | exact Or.inr rfl) (by first | exact Or.inl rfl | exact Or.inr rfl) (by decide))) (fun _ _ _ _ _ B => sts_nil) (fun _ _ _ _ _ B => (se_call (d__law_press T) (hr.mono (by first | decide | omega)) takes0 rfl T.g__law_press T.F__law_press.kp T.b__law_press (sos_cons (so_pv (pv 1)) sos_nil rfl) (by decide) rfl rfl)) (fun _ => rfl)) rfl (Or.inl rfl))
  (sss_cons (by first | exact ss_setLc rfl sc_law.nd rfl rfl (sw_true rfl rfl rfl rfl) (si_items (se_pv (pv 2))) (own := [("row", 5)]) (show BlkOk ["script", "deck", "rows", "turn", "presses", "row", "ready", "speed", "start", "price", "press", "sheets", "due", "minutes", "most", "above", "below", "more", "under", "costs", "one", "two", "even", "far", "answers"] (defScope s_law) _ _ from ⟨rfl, by decide +kernel, by decide +kernel, by decide +kernel, by decide +kernel⟩) rfl (fun _ _ _ _ _ B => (stw_name sc_law.nd rfl (by first | exact Or.inl rfl | exact Or.inr rfl) (by first | exact Or.inl rfl | exact Or.inr rfl) (by decide))) (fun _ _ _ _ _ B => sts_nil) (fun _ _ _ _ _ B => (SV.toE (sv_make (d_Press_m___init__ T) T.ok_Press (hr.mono (by first | decide | omega)) takes0 rfl T.oc_Press.g T.b_Press_m___init__ (sds_cons (SV.toE (sv_ix (so_pv (pv 5)) (SE.toO se_int) (fun _ _ => rfl))) (sds_cons (SV.toE (sv_ix (so_pv (pv 5)) (SE.toO se_int) (fun _ _ => rfl))) (sds_cons (SV.toE (sv_ix (so_pv (pv 5)) (SE.toO se_int) (fun _ _ => rfl))) (sds_cons (SV.toE (sv_ix (so_pv (pv 5)) (SE.toO se_int) (fun _ _ => rfl))) sds_nil rfl) rfl) rfl) rfl) (by decide) rfl rfl))) (fun _ => rfl) | exact ss_set sc_law.nd rfl (by first | exact Or.inl rfl | exact Or.inr rfl) (sv_lc rfl sc_law.nd (si_items (se_pv (pv 2))) (own := [("row", 5)]) (show BlkOk ["script", "deck", "rows", "turn", "presses", "row", "ready", "speed", "start", "price", "press", "sheets", "due", "minutes", "most", "above", "below", "more", "under", "costs", "one", "two", "even", "far", "answers"] (defScope s_law) _ _ from ⟨rfl, by decide +kernel, by decide +kernel, by decide +kernel, by decide +kernel⟩) rfl (fun _ _ _ _ _ B => (stw_name sc_law.nd rfl (by first | exact Or.inl rfl | exact Or.inr rfl) (by first | exact Or.inl rfl | exact Or.inr rfl) (by decide))) (fun _ _ _ _ _ B => sts_nil) (fun _ _ _ _ _ B => (SV.toE (sv_make (d_Press_m___init__ T) T.ok_Press (hr.mono (by first | decide | omega)) takes0 rfl T.oc_Press.g T.b_Press_m___init__ (sds_cons (SV.toE (sv_ix (so_pv (pv 5)) (SE.toO se_int) (fun _ _ => rfl))) (sds_cons (SV.toE (sv_ix (so_pv (pv 5)) (SE.toO se_int) (fun _ _ => rfl))) (sds_cons (SV.toE (sv_ix (so_pv (pv 5)) (SE.toO se_int) (fun _ _ => rfl))) (sds_cons (SV.toE (sv_ix (so_pv (pv 5)) (SE.toO se_int) (fun _ _ => rfl))) sds_nil rfl) rfl) rfl) rfl) (by decide) rfl rfl))) (fun _ => rfl)) rfl (Or.inl rfl))
  (sss_cons (ss_asg (SV.toE (sv_ix (so_pv (pv 2)) (SE.toO se_int) (fun _ _ => rfl))) (st_tup rfl (stgs_cons (st_name sc_law.nd rfl (by first | exact Or.inl rfl | exact Or.inr rfl) (Or.inl rfl)) (stgs_cons (st_name sc_law.nd rfl (by first | exact Or.inl rfl | exact Or.inr rfl) (Or.inl rfl)) (stgs_cons (st_name sc_law.nd rfl (by first | exact Or.inl rfl | exact Or.inr rfl) (Or.inl rfl)) (stgs_cons (st_name sc_law.nd rfl (by first | exact Or.inl rfl | exact Or.inr rfl) (Or.inl rfl)) stgs_nil rfl) rfl) rfl) rfl) rfl rfl) rfl rfl rfl)
  (sss_cons (ss_set sc_law.nd rfl (by first | exact Or.inl rfl | exact Or.inr rfl) (sv_ix (so_pv (pv 4)) (SE.toO se_int) (fun _ _ => rfl)) rfl (Or.inl rfl))
  (sss_cons (ss_if (st_cmp (od_ne hu1) (SE.toO (se_call (d__law_plain T 8) (hr.mono (by first | decide | omega)) (takes_of rfl rfl rfl rfl) rfl T.g__law_plain T.F__law_plain.kp T.b__law_plain (sos_cons (SE.toO (SV.toE (sv_lst (sds_cons (SV.toE (sv_fld T.fo_ready (so_pv (pv 10)) rfl)) (sds_cons (SV.toE (sv_fld T.fo_speed (so_pv (pv 10)) rfl)) (sds_cons (SV.toE (sv_fld T.fo_start (so_pv (pv 10)) rfl)) (sds_cons (SV.toE (sv_fld T.fo_price (so_pv (pv 10)) rfl)) sds_nil rfl) rfl) rfl) rfl)))) sos_nil rfl) (by decide) rfl rfl)) (SE.toO (se_call (d__law_plain T 8) (hr.mono (by first | decide | omega)) (takes_of rfl rfl rfl rfl) rfl T.g__law_plain T.F__law_plain.kp T.b__law_plain (sos_cons (SE.toO (SV.toE (sv_lst (sds_cons (se_pv (pv 6)) (sds_cons (se_pv (pv 7)) (sds_cons (se_pv (pv 8)) (sds_cons (se_pv (pv 9)) sds_nil rfl) rfl) rfl) rfl)))) sos_nil rfl) (by decide) rfl rfl)) rfl) (sss_one (ss_ret se_bl)) sss_nil)
  (sss_cons (ss_set sc_law.nd rfl (by first | exact Or.inl rfl | exact Or.inr rfl) (sv_ix (SE.toO (SV.toE (sv_lst (sds_cons (se_call (d__law_take T) (hr.mono (by first | decide | omega)) (takes_of rfl rfl rfl rfl) rfl T.g__law_take T.F__law_take.kp T.b__law_take (sos_cons (so_pv (pv 1)) (sos_cons (SE.toO se_int) sos_nil rfl) rfl) (by decide) rfl rfl) (sds_cons (se_call (d__law_take T) (hr.mono (by first | decide | omega)) (takes_of rfl rfl rfl rfl) rfl T.g__law_take T.F__law_take.kp T.b__law_take (sos_cons (so_pv (pv 1)) (sos_cons (SE.toO se_int) sos_nil rfl) rfl) (by decide) rfl rfl) (sds_cons (SV.toE (sv_callB od_abs rfl T.m_abs bt_abs (sos_cons (SE.toO (se_call (d__law_number T) (hr.mono (by first | decide | omega)) (takes_of rfl rfl rfl rfl) rfl T.g__law_number T.F__law_number.kp T.b__law_number (sos_cons (so_pv (pv 1)) sos_nil rfl) (by decide) rfl rfl)) sos_nil rfl) (by decide) (by decide) rfl rfl)) sds_nil rfl) rfl) rfl)))) (SE.toO (se_call (d__law_take T) (hr.mono (by first | decide | omega)) (takes_of rfl rfl rfl rfl) rfl T.g__law_take T.F__law_take.kp T.b__law_take (sos_cons (so_pv (pv 1)) (sos_cons (SE.toO se_int) sos_nil rfl) rfl) (by decide) rfl rfl)) (fun _ _ => rfl)) rfl (Or.inl rfl))
  (sss_cons (ss_set sc_law.nd rfl (by first | exact Or.inl rfl | exact Or.inr rfl) (sv_lst (sds_cons (se_call (d__law_fraction T) (hr.mono (by first | decide | omega)) (takes_of rfl rfl rfl rfl) rfl T.g__law_fraction T.F__law_fraction.kp T.b__law_fraction (sos_cons (SE.toO (SV.toE (sv_bin od_add (SE.toO (SV.toE (sv_bin od_mul (so_pv (pv 6)) (so_pv (pv 7))))) (SE.toO (SV.toE (sv_bin od_mul (SE.toO se_int) (so_pv (pv 11)))))))) (sos_cons (SE.toO (se_pv (pv 7))) sos_nil rfl) rfl) (by decide) rfl rfl) (sds_cons (se_call (d__law_fraction T) (hr.mono (by first | decide | omega)) (takes_of rfl rfl rfl rfl) rfl T.g__law_fraction T.F__law_fraction.kp T.b__law_fraction (sos_cons (SE.toO (se_call (d__law_cents T) (hr.mono (by first | decide | omega)) (takes_of rfl rfl rfl rfl) rfl T.g__law_cents T.F__law_cents.kp T.b__law_cents (sos_cons (SE.toO (SV.toE (sv_ix (so_pv (pv 2)) (SE.toO se_int) (fun _ _ => rfl)))) (sos_cons (SE.toO (se_pv (pv 11))) sos_nil rfl) rfl) (by decide) rfl rfl)) (sos_cons (SE.toO se_int) sos_nil rfl) rfl) (by decide) rfl rfl) sds_nil rfl) rfl)) rfl (Or.inl rfl))
  (sss_cons (ss_if (st_cmp (od_ne hu1) (SE.toO (se_call (d__law_plain T 8) (hr.mono (by first | decide | omega)) (takes_of rfl rfl rfl rfl) rfl T.g__law_plain T.F__law_plain.kp T.b__law_plain (sos_cons (SE.toO (SV.toE (sv_lst (sds_cons (se_met (d_Press_m_minutes T) (hr.mono (by first | decide | omega)) (takes_of rfl rfl rfl rfl) T.oc_Press T.om_Press_m_minutes T.b_Press_m_minutes (se_pv (pv 10)) (sos_cons (SE.toO (se_pv (pv 11))) sos_nil rfl) rfl rfl rfl) (sds_cons (se_met (d_Press_m_cost T) (hr.mono (by first | decide | omega)) (takes_of rfl rfl rfl rfl) T.oc_Press T.om_Press_m_cost T.b_Press_m_cost (se_pv (pv 10)) (sos_cons (SE.toO (se_pv (pv 11))) sos_nil rfl) rfl rfl rfl) sds_nil rfl) rfl)))) sos_nil rfl) (by decide) rfl rfl)) (SE.toO (se_call (d__law_plain T 8) (hr.mono (by first | decide | omega)) (takes_of rfl rfl rfl rfl) rfl T.g__law_plain T.F__law_plain.kp T.b__law_plain (sos_cons (SE.toO (se_pv (pv 12))) sos_nil rfl) (by decide) rfl rfl)) rfl) (sss_one (ss_ret se_bl)) sss_nil)
  (sss_cons (ss_set sc_law.nd rfl (by first | exact Or.inl rfl | exact Or.inr rfl) (SE.toV (se_call (d__law_take T) (hr.mono (by first | decide | omega)) (takes_of rfl rfl rfl rfl) rfl T.g__law_take T.F__law_take.kp T.b__law_take (sos_cons (so_pv (pv 1)) (sos_cons (SE.toO se_int) sos_nil rfl) rfl) (by decide) rfl rfl)) rfl (Or.inl rfl))
  (sss_cons (ss_set sc_law.nd rfl (by first | exact Or.inl rfl | exact Or.inr rfl) (SE.toV (se_met (d_Press_m_most_sheets T) (hr.mono (by first | decide | omega)) (takes_of rfl rfl rfl rfl) T.oc_Press T.om_Press_m_most_sheets T.b_Press_m_most_sheets (se_pv (pv 10)) (sos_cons (SE.toO (se_pv (pv 13))) sos_nil rfl) rfl rfl rfl)) rfl (Or.inl rfl))
  (sss_cons (ss_kill [15, 16, 17, 18] (ss_if (st_cmp od_lt (so_pv (pv 13)) (so_pv (pv 6)) rfl) (sss_one (ss_if (st_cmp od_isnot (so_pv (pv 14)) (SE.toO se_non) rfl) (sss_one (ss_ret se_bl)) sss_nil)) (sss_cons (ss_asg (se_met (d_Press_m_minutes T) (hr.mono (by first | decide | omega)) (takes_of rfl rfl rfl rfl) T.oc_Press T.om_Press_m_minutes T.b_Press_m_minutes (se_pv (pv 10)) (sos_cons (SE.toO (se_pv (pv 14))) sos_nil rfl) rfl rfl rfl) (st_tup rfl (stgs_cons (st_name sc_law.nd rfl (by first | exact Or.inl rfl | exact Or.inr rfl) (Or.inl rfl)) (stgs_cons (st_name sc_law.nd rfl (by first | exact Or.inl rfl | exact Or.inr rfl) (Or.inl rfl)) stgs_nil rfl) rfl) rfl rfl) rfl rfl rfl)
  (sss_cons (ss_asg (se_met (d_Press_m_minutes T) (hr.mono (by first | decide | omega)) (takes_of rfl rfl rfl rfl) T.oc_Press T.om_Press_m_minutes T.b_Press_m_minutes (se_pv (pv 10)) (sos_cons (SE.toO (SV.toE (sv_bin od_add (so_pv (pv 14)) (SE.toO se_int)))) sos_nil rfl) rfl rfl rfl) (st_tup rfl (stgs_cons (st_name sc_law.nd rfl (by first | exact Or.inl rfl | exact Or.inr rfl) (Or.inl rfl)) (stgs_cons (st_name sc_law.nd rfl (by first | exact Or.inl rfl | exact Or.inr rfl) (Or.inl rfl)) stgs_nil rfl) rfl) rfl rfl) rfl rfl rfl)
  (sss_one (ss_if (SW.t (sw_or (st_cmp (od_ne hu1) (SE.toO (se_call (d__law_plain T 8) (hr.mono (by first | decide | omega)) (takes_of rfl rfl rfl rfl) rfl T.g__law_plain T.F__law_plain.kp T.b__law_plain (sos_cons (SE.toO (se_pv (pv 14))) sos_nil rfl) (by decide) rfl rfl)) (SE.toO (se_call (d__law_plain T 8) (hr.mono (by first | decide | omega)) (takes_of rfl rfl rfl rfl) rfl T.g__law_plain T.F__law_plain.kp T.b__law_plain (sos_cons (SE.toO (SV.toE (sv_callTy od_int rfl T.m_int bt_int (sos_cons (so_pv (pv 14)) sos_nil rfl) (by decide) (by decide) rfl rfl))) sos_nil rfl) (by decide) rfl rfl)) rfl) (sw_or (st_cmp od_gt (so_pv (pv 15)) (SE.toO (SV.toE (sv_bin od_mul (so_pv (pv 13)) (so_pv (pv 16))))) rfl) (sw_or1 (st_cmp od_le (so_pv (pv 17)) (SE.toO (SV.toE (sv_bin od_mul (so_pv (pv 13)) (so_pv (pv 18))))) rfl))))) (sss_one (ss_ret se_bl)) sss_nil))))))
  (sss_cons (by first | exact ss_setLc rfl sc_law.nd rfl rfl (sw_true rfl rfl rfl rfl) (si_items (se_pv (pv 2))) (own := [("row", 5)]) (show BlkOk ["script", "deck", "rows", "turn", "presses", "row", "ready", "speed", "start", "price", "press", "sheets", "due", "minutes", "most", "above", "below", "more", "under", "costs", "one", "two", "even", "far", "answers"] (defScope s_law) _ _ from ⟨rfl, by decide +kernel, by decide +kernel, by decide +kernel, by decide +kernel⟩) rfl (fun _ _ _ _ _ B => (stw_name sc_law.nd rfl (by first | exact Or.inl rfl | exact Or.inr rfl) (by first | exact Or.inl rfl | exact Or.inr rfl) (by decide))) (fun _ _ _ _ _ B => sts_nil) (fun _ _ _ _ _ B => (se_call (d__law_cents T) (hr.mono (by first | decide | omega)) takes0 rfl T.g__law_cents T.F__law_cents.kp T.b__law_cents (sos_cons (SE.toO (se_pv (pv 5))) (sos_cons (SE.toO (se_pv (pv 11))) sos_nil rfl) rfl) (by decide) rfl rfl)) (fun _ => rfl) | exact ss_set sc_law.nd rfl (by first | exact Or.inl rfl | exact Or.inr rfl) (sv_lc rfl sc_law.nd (si_items (se_pv (pv 2))) (own := [("row", 5)]) (show BlkOk ["script", "deck", "rows", "turn", "presses", "row", "ready", "speed", "start", "price", "press", "sheets", "due", "minutes", "most", "above", "below", "more", "under", "costs", "one", "two", "even", "far", "answers"] (defScope s_law) _ _ from ⟨rfl, by decide +kernel, by decide +kernel, by decide +kernel, by decide +kernel⟩) rfl (fun _ _ _ _ _ B => (stw_name sc_law.nd rfl (by first | exact Or.inl rfl | exact Or.inr rfl) (by first | exact Or.inl rfl | exact Or.inr rfl) (by decide))) (fun _ _ _ _ _ B => sts_nil) (fun _ _ _ _ _ B => (se_call (d__law_cents T) (hr.mono (by first | decide | omega)) takes0 rfl T.g__law_cents T.F__law_cents.kp T.b__law_cents (sos_cons (SE.toO (se_pv (pv 5))) (sos_cons (SE.toO (se_pv (pv 11))) sos_nil rfl) rfl) (by decide) rfl rfl)) (fun _ => rfl)) rfl (Or.inl rfl))
  (sss_cons (ss_if (st_cmp (od_ne hu1) (SE.toO (se_call (d__law_plain T 8) (hr.mono (by first | decide | omega)) (takes_of rfl rfl rfl rfl) rfl T.g__law_plain T.F__law_plain.kp T.b__law_plain (sos_cons (SE.toO (se_call (d_cheapest T) (hr.mono (by first | decide | omega)) (takes_of rfl rfl rfl rfl) rfl T.g_cheapest T.F_cheapest.kp T.b_cheapest (sos_cons (SE.toO (se_pv (pv 4))) (sos_cons (SE.toO (se_pv (pv 11))) sos_nil rfl) rfl) (by decide) rfl rfl)) sos_nil rfl) (by decide) rfl rfl)) (SE.toO (se_call (d__law_plain T 8) (hr.mono (by first | decide | omega)) (takes_of rfl rfl rfl rfl) rfl T.g__law_plain T.F__law_plain.kp T.b__law_plain (sos_cons (SE.toO (SV.toE (sv_meth PySem.F.plainAttrs_list PySem.F.slot_list_index PySem.F.type_list_index (or_index hu2) (so_pv (pv 19)) (sos_cons (SE.toO (SV.toE (sv_callB (od_min rfl) rfl T.m_min bt_min (sos_cons (so_pv (pv 19)) sos_nil rfl) (by decide) (by decide) rfl rfl))) sos_nil rfl) rfl rfl rfl rfl rfl))) sos_nil rfl) (by decide) rfl rfl)) rfl) (sss_one (ss_ret se_bl)) sss_nil)
  (sss_cons (ss_set sc_law.nd rfl (by first | exact Or.inl rfl | exact Or.inr rfl) (sv_ix (so_pv (pv 2)) (SE.toO se_int) (fun _ _ => rfl)) rfl (Or.inl rfl))
  (sss_cons (ss_set sc_law.nd rfl (by first | exact Or.inl rfl | exact Or.inr rfl) (sv_ix (so_pv (pv 2)) (SE.toO (SV.toE (sv_un od_neg (SE.toO se_int)))) (fun _ _ => rfl)) rfl (Or.inl rfl))
  (sss_cons (ss_set sc_law.nd rfl (by first | exact Or.inl rfl | exact Or.inr rfl) (SE.toV (se_call (d_even_count T) (hr.mono (by first | decide | omega)) (takes_of rfl rfl rfl rfl) rfl T.g_even_count T.F_even_count.kp T.b_even_count (sos_cons (SE.toO (SV.toE (sv_ix (so_pv (pv 4)) (SE.toO se_int) (fun _ _ => rfl)))) (sos_cons (SE.toO (SV.toE (sv_ix (so_pv (pv 4)) (SE.toO (SV.toE (sv_un od_neg (SE.toO se_int)))) (fun _ _ => rfl)))) sos_nil rfl) rfl) (by decide) rfl rfl)) rfl (Or.inl rfl))
  (sss_cons (ss_set sc_law.nd rfl (by first | exact Or.inl rfl | exact Or.inr rfl) (sv_bin od_pow (SE.toO se_int) (SE.toO se_int)) rfl (Or.inl rfl))
  (sss_cons (ss_if (st_cmp od_gt (SE.toO (se_call (d__law_cents T) (hr.mono (by first | decide | omega)) (takes_of rfl rfl rfl rfl) rfl T.g__law_cents T.F__law_cents.kp T.b__law_cents (sos_cons (SE.toO (se_pv (pv 21))) (sos_cons (SE.toO (se_pv (pv 23))) sos_nil rfl) rfl) (by decide) rfl rfl)) (SE.toO (se_call (d__law_cents T) (hr.mono (by first | decide | omega)) (takes_of rfl rfl rfl rfl) rfl T.g__law_cents T.F__law_cents.kp T.b__law_cents (sos_cons (SE.toO (se_pv (pv 20))) (sos_cons (SE.toO (se_pv (pv 23))) sos_nil rfl) rfl) (by decide) rfl rfl)) rfl) (sss_one (ss_if (st_cmp od_isnot (so_pv (pv 22)) (SE.toO se_non) rfl) (sss_one (ss_ret se_bl)) sss_nil)) (sss_cons (ss_if (SW.t (sw_or (st_cmp (od_ne hu1) (SE.toO (se_call (d__law_plain T 8) (hr.mono (by first | decide | omega)) (takes_of rfl rfl rfl rfl) rfl T.g__law_plain T.F__law_plain.kp T.b__law_plain (sos_cons (SE.toO (se_pv (pv 22))) sos_nil rfl) (by decide) rfl rfl)) (SE.toO (se_call (d__law_plain T 8) (hr.mono (by first | decide | omega)) (takes_of rfl rfl rfl rfl) rfl T.g__law_plain T.F__law_plain.kp T.b__law_plain (sos_cons (SE.toO (SV.toE (sv_callTy od_int rfl T.m_int bt_int (sos_cons (so_pv (pv 22)) sos_nil rfl) (by decide) (by decide) rfl rfl))) sos_nil rfl) (by decide) rfl rfl)) rfl) (sw_or (st_cmp od_lt (so_pv (pv 22)) (SE.toO se_int) rfl) (sw_or1 (st_cmp od_gt (SE.toO (se_call (d__law_cents T) (hr.mono (by first | decide | omega)) (takes_of rfl rfl rfl rfl) rfl T.g__law_cents T.F__law_cents.kp T.b__law_cents (sos_cons (SE.toO (se_pv (pv 21))) (sos_cons (SE.toO (se_pv (pv 22))) sos_nil rfl) rfl) (by decide) rfl rfl)) (SE.toO (se_call (d__law_cents T) (hr.mono (by first | decide | omega)) (takes_of rfl rfl rfl rfl) rfl T.g__law_cents T.F__law_cents.kp T.b__law_cents (sos_cons (SE.toO (se_pv (pv 20))) (sos_cons (SE.toO (se_pv (pv 22))) sos_nil rfl) rfl) (by decide) rfl rfl)) rfl))))) (sss_one (ss_ret se_bl)) sss_nil)
  (sss_cons (ss_if (SW.t (sw_and (st_cmp od_gt (so_pv (pv 22)) (SE.toO se_int) rfl) (sw_and1 (st_cmp od_le (SE.toO (se_call (d__law_cents T) (hr.mono (by first | decide | omega)) (takes_of rfl rfl rfl rfl) rfl T.g__law_cents T.F__law_cents.kp T.b__law_cents (sos_cons (SE.toO (se_pv (pv 21))) (sos_cons (SE.toO (SV.toE (sv_bin od_sub (so_pv (pv 22)) (SE.toO se_int)))) sos_nil rfl) rfl) (by decide) rfl rfl)) (SE.toO (se_call (d__law_cents T) (hr.mono (by first | decide | omega)) (takes_of rfl rfl rfl rfl) rfl T.g__law_cents T.F__law_cents.kp T.b__law_cents (sos_cons (SE.toO (se_pv (pv 20))) (sos_cons (SE.toO (SV.toE (sv_bin od_sub (so_pv (pv 22)) (SE.toO se_int)))) sos_nil rfl) rfl) (by decide) rfl rfl)) rfl)))) (sss_one (ss_ret se_bl)) sss_nil)
  (sss_one (ss_if (st_cmp od_gt (SE.toO (se_call (d__law_cents T) (hr.mono (by first | decide | omega)) (takes_of rfl rfl rfl rfl) rfl T.g__law_cents T.F__law_cents.kp T.b__law_cents (sos_cons (SE.toO (se_pv (pv 21))) (sos_cons (SE.toO (SV.toE (sv_bin od_add (so_pv (pv 22)) (SE.toO (se_call (d__law_take T) (hr.mono (by first | decide | omega)) (takes_of rfl rfl rfl rfl) rfl T.g__law_take T.F__law_take.kp T.b__law_take (sos_cons (so_pv (pv 1)) (sos_cons (SE.toO se_int) sos_nil rfl) rfl) (by decide) rfl rfl))))) sos_nil rfl) rfl) (by decide) rfl rfl)) (SE.toO (SV.toE (sv_bin od_add (SE.toO (se_call (d__law_cents T) (hr.mono (by first | decide | omega)) (takes_of rfl rfl rfl rfl) rfl T.g__law_cents T.F__law_cents.kp T.b__law_cents (sos_cons (SE.toO (se_pv (pv 20))) (sos_cons (SE.toO (SV.toE (sv_bin od_add (so_pv (pv 22)) (SE.toO se_int)))) sos_nil rfl) rfl) (by decide) rfl rfl)) (SE.toO (SV.toE (sv_bin od_mul (SE.toO se_int) (SE.toO (SV.toE (sv_ix (so_pv (pv 20)) (SE.toO se_int) (fun _ _ => rfl)))))))))) rfl) (sss_one (ss_ret se_bl)) sss_nil)))))
  (sss_cons (ss_set sc_law.nd rfl (by first | exact Or.inl rfl | exact Or.inr rfl) (sv_lst (sds_cons (se_call (d__law_why T) (hr.mono (by first | decide | omega)) (takes_of rfl rfl rfl rfl) rfl T.g__law_why T.F__law_why.kp T.b__law_why (sos_cons (SE.toO se_int) (sos_cons (SE.toO (se_tup (sds_cons (SV.toE (sv_un od_neg (SE.toO se_int))) (sds_cons se_int (sds_cons se_int (sds_cons se_int sds_nil rfl) rfl) rfl) rfl))) (sos_cons (SE.toO se_non) sos_nil rfl) rfl) rfl) (by decide) rfl rfl) (sds_cons (se_call (d__law_why T) (hr.mono (by first | decide | omega)) (takes_of rfl rfl rfl rfl) rfl T.g__law_why T.F__law_why.kp T.b__law_why (sos_cons (SE.toO se_int) (sos_cons (SE.toO (se_tup (sds_cons se_int (sds_cons se_int (sds_cons (SV.toE (sv_un od_neg (SE.toO se_int))) (sds_cons se_int sds_nil rfl) rfl) rfl) rfl))) (sos_cons (SE.toO se_non) sos_nil rfl) rfl) rfl) (by decide) rfl rfl) (sds_cons (se_call (d__law_why T) (hr.mono (by first | decide | omega)) (takes_of rfl rfl rfl rfl) rfl T.g__law_why T.F__law_why.kp T.b__law_why (sos_cons (SE.toO se_int) (sos_cons (SE.toO (se_tup (sds_cons se_int (sds_cons se_int (sds_cons se_int (sds_cons (SV.toE (sv_un od_neg (SE.toO se_int))) sds_nil rfl) rfl) rfl) rfl))) (sos_cons (SE.toO se_non) sos_nil rfl) rfl) rfl) (by decide) rfl rfl) (sds_cons (se_call (d__law_why T) (hr.mono (by first | decide | omega)) (takes_of rfl rfl rfl rfl) rfl T.g__law_why T.F__law_why.kp T.b__law_why (sos_cons (SE.toO se_int) (sos_cons (SE.toO (se_tup (sds_cons se_int (sds_cons se_int (sds_cons se_int (sds_cons se_int sds_nil rfl) rfl) rfl) rfl))) (sos_cons (SE.toO se_non) sos_nil rfl) rfl) rfl) (by decide) rfl rfl) sds_nil rfl) rfl) rfl) rfl)) rfl (Or.inl rfl))
  (sss_cons (ss_set sc_law.nd rfl (by first | exact Or.inl rfl | exact Or.inr rfl) (sv_bin od_add (so_pv (pv 24)) (SE.toO (SV.toE (sv_lst (sds_cons (se_call (d__law_why T) (hr.mono (by first | decide | omega)) (takes_of rfl rfl rfl rfl) rfl T.g__law_why T.F__law_why.kp T.b__law_why (sos_cons (SE.toO se_int) (sos_cons (SE.toO (se_pv (pv 10))) (sos_cons (SE.toO (SV.toE (sv_un od_neg (SE.toO se_int)))) sos_nil rfl) rfl) rfl) (by decide) rfl rfl) (sds_cons (se_call (d__law_why T) (hr.mono (by first | decide | omega)) (takes_of rfl rfl rfl rfl) rfl T.g__law_why T.F__law_why.kp T.b__law_why (sos_cons (SE.toO se_int) (sos_cons (SE.toO (se_pv (pv 10))) (sos_cons (SE.toO (SV.toE (sv_un od_neg (SE.toO se_int)))) sos_nil rfl) rfl) rfl) (by decide) rfl rfl) (sds_cons (se_call (d__law_why T) (hr.mono (by first | decide | omega)) (takes_of rfl rfl rfl rfl) rfl T.g__law_why T.F__law_why.kp T.b__law_why (sos_cons (SE.toO se_int) (sos_cons (SE.toO (se_pv (pv 10))) (sos_cons (SE.toO (SV.toE (sv_un od_neg (SE.toO se_int)))) sos_nil rfl) rfl) rfl) (by decide) rfl rfl) (sds_cons (se_call (d__law_why T) (hr.mono (by first | decide | omega)) (takes_of rfl rfl rfl rfl) rfl T.g__law_why T.F__law_why.kp T.b__law_why (sos_cons (SE.toO se_int) (sos_cons (SE.toO (SV.toE (sv_lst sds_nil))) (sos_cons (SE.toO (SV.toE (sv_un od_neg (SE.toO se_int)))) sos_nil rfl) rfl) rfl) (by decide) rfl rfl) (sds_cons (se_call (d__law_why T) (hr.mono (by first | decide | omega)) (takes_of rfl rfl rfl rfl) rfl T.g__law_why T.F__law_why.kp T.b__law_why (sos_cons (SE.toO se_int) (sos_cons (SE.toO (se_pv (pv 4))) (sos_cons (SE.toO (SV.toE (sv_un od_neg (SE.toO se_int)))) sos_nil rfl) rfl) rfl) (by decide) rfl rfl) sds_nil rfl) rfl) rfl) rfl) rfl))))) rfl (Or.inl rfl))
  (sss_one (ss_ret (SV.toE (sv_cmp (od_eq hu1) (so_pv (pv 24)) (SE.toO (SV.toE (sv_lst (sds_cons se_str (sds_cons se_str (sds_cons se_str (sds_cons se_str (sds_cons se_str (sds_cons se_str (sds_cons se_str (sds_cons se_str (sds_cons se_str sds_nil rfl) rfl) rfl) rfl) rfl) rfl) rfl) rfl) rfl)))) rfl)))))))))))))))))))))))))
end
theorem all_mk {P : Program} {w : World} {K : PySem.W.Frag} {h : Heap} {mg : Str → Option Value} {fa f0 f1 f2 f3 f4 f5 f6 f7 f8 f9 f10 f11 f12 f13 f14 f15 f16 f17 C0 C1 C2 C3 C4 C5 O0 g1 g2 g3 g4 g5 : Addr} (X : K.In h) (G : h.Ns mainGlobals mg) (hfa : mg "law" = some (.ref fa))
  {od0 od1 od2 od3 od4 od5 od6 od7 od8 od9 od10 od11 od12 od13 od14 od15 od16 od17 an0 an1 an2 an3 an4 an5 an6 an7 an8 an9 an10 an11 an12 an13 an14 an15 an16 an17 : Option Addr} {sl0 sl1 sl2 sl3 sl4 sl5 sl6 sl7 sl8 sl9 sl10 sl11 sl12 sl13 sl14 sl15 sl16 sl17 : Array (Option Value)} {oc0 oc1 oc2 oc3 oc4 oc5 oc6 oc7 oc8 oc9 oc10 oc11 oc12 oc13 oc14 oc15 oc16 oc17 kV0 kV1 kV2 kV3 kV4 kV5 kV6 kV7 kV8 kV9 kV10 kV11 kV12 kV13 kV14 kV15 kV16 kV17 dc0 dc1 dc2 dc3 dc4 dc5 dc6 dc7 dc8 dc9 dc10 dc11 dc12 dc13 dc14 dc15 dc16 dc17 pm0 pm1 pm2 pm3 pm4 pm5 pm6 pm7 pm8 pm9 pm10 pm11 pm12 pm13 pm14 pm15 pm16 pm17 cd0 cd1 cd2 cd3 cd4 cd5 cd6 cd7 cd8 cd9 cd10 cd11 cd12 cd13 cd14 cd15 cd16 cd17 ct0 ct1 ct2 ct3 ct4 ct5 ct6 ct7 ct8 ct9 ct10 ct11 ct12 ct13 ct14 ct15 ct16 ct17 : Value}
  {nm1 nm2 nm3 nm4 nm5 q1 q2 q3 q4 q5 : Str} {N1 N2 N3 N4 N5 : Addr} {bs1 bs2 bs3 bs4 bs5 sub1 sub2 sub3 sub4 sub5 : List Value} {sn1 sn2 sn3 sn4 sn5 : List Str} {ab1 ab2 ab3 ab4 ab5 : Bool} {col1 col2 col3 col4 col5 : Option Bool} {dd1 dd2 dd3 dd4 dd5 : Option Addr} {m01 m02 m03 m04 m05 m11 m12 m13 m14 m15 m21 m22 m23 m24 m25 m31 m32 m33 m34 m35 m51 m52 m53 m54 m55 : Option Value}
  {uod1 uod2 uod3 uod4 uod5 uan1 uan2 uan3 uan4 uan5 : Option Addr} {usl1 usl2 usl3 usl4 usl5 : Array (Option Value)} {uoc1 uoc2 uoc3 uoc4 uoc5 ukV1 ukV2 ukV3 ukV4 ukV5 udc1 udc2 udc3 udc4 udc5 upm1 upm2 upm3 upm4 upm5 ucd1 ucd2 ucd3 ucd4 ucd5 uct1 uct2 uct3 uct4 uct5 : Value}
  (hoa_Press : PySem.W.nsIn K mainGlobals "Press" = some (some (.ref O0)))
  (hopg_Press : PySem.W.plainGet K O0 Str.empty = true)
  (hohd_Press : PySem.W.hasDictIn K O0 = true)
  (hopo_Press : PySem.W.plainOver K O0 = true)
  (hosa_Press : PySem.W.findIn K (.ref O0) "__setattr__" = some (some (.builtin "object.__setattr__")))
  (homk_Press : PySem.W.makesIn K O0 = true)
  (hokp_Press : PySem.W.keepIn K (.ref O0) = true)
  (honf_Press_price : PySem.W.findIn K (.ref O0) "price" = some none)
  (honf_Press_ready : PySem.W.findIn K (.ref O0) "ready" = some none)
  (honf_Press_speed : PySem.W.findIn K (.ref O0) "speed" = some none)
  (honf_Press_start : PySem.W.findIn K (.ref O0) "start" = some none)
  (ha_Press_m___init__ : PySem.W.findIn K (.ref O0) "__init__" = some (some (.ref f0)))
  (hofn_Press_m___init__ : PySem.W.isFn K (.ref f0) = true)
  (hl_Press_m___init__ : K.lookup f0 = some ⟨oc0, od0, .func (PySem.W.fnOf "__init__" "Press.__init__" (defArgs s_Press_m___init__) (defBody s_Press_m___init__) (defScope s_Press_m___init__) .none kV0 dc0 pm0 an0 cd0 ct0), sl0⟩)
  (hc_Press_m___init__ : PySem.W.codeIn K cd0 "Press.__init__" = true)
  (hk_Press_m___init__ : PySem.W.keepIn K (.ref f0) = true)
  (ha_check_sheets : PySem.W.nsIn K mainGlobals "check_sheets" = some (some (.ref f1)))
  (hl_check_sheets : K.lookup f1 = some ⟨oc1, od1, .func (PySem.W.fnOf "check_sheets" "check_sheets" (defArgs s_check_sheets) (defBody s_check_sheets) (defScope s_check_sheets) .none kV1 dc1 pm1 an1 cd1 ct1), sl1⟩)
  (hc_check_sheets : PySem.W.codeIn K cd1 "check_sheets" = true)
  (hk_check_sheets : PySem.W.keepIn K (.ref f1) = true)
  (ha_fraction : PySem.W.nsIn K mainGlobals "fraction" = some (some (.ref f2)))
  (hl_fraction : K.lookup f2 = some ⟨oc2, od2, .func (PySem.W.fnOf "fraction" "fraction" (defArgs s_fraction) (defBody s_fraction) (defScope s_fraction) .none kV2 dc2 pm2 an2 cd2 ct2), sl2⟩)
  (hc_fraction : PySem.W.codeIn K cd2 "fraction" = true)
  (hk_fraction : PySem.W.keepIn K (.ref f2) = true)
  (ha_Press_m_cost : PySem.W.findIn K (.ref O0) "cost" = some (some (.ref f3)))
  (hofn_Press_m_cost : PySem.W.isFn K (.ref f3) = true)
  (hl_Press_m_cost : K.lookup f3 = some ⟨oc3, od3, .func (PySem.W.fnOf "cost" "Press.cost" (defArgs s_Press_m_cost) (defBody s_Press_m_cost) (defScope s_Press_m_cost) .none kV3 dc3 pm3 an3 cd3 ct3), sl3⟩)
  (hc_Press_m_cost : PySem.W.codeIn K cd3 "Press.cost" = true)
  (hk_Press_m_cost : PySem.W.keepIn K (.ref f3) = true)
  (ha_Press_m_minutes : PySem.W.findIn K (.ref O0) "minutes" = some (some (.ref f4)))
  (hofn_Press_m_minutes : PySem.W.isFn K (.ref f4) = true)
  (hl_Press_m_minutes : K.lookup f4 = some ⟨oc4, od4, .func (PySem.W.fnOf "minutes" "Press.minutes" (defArgs s_Press_m_minutes) (defBody s_Press_m_minutes) (defScope s_Press_m_minutes) .none kV4 dc4 pm4 an4 cd4 ct4), sl4⟩)
  (hc_Press_m_minutes : PySem.W.codeIn K cd4 "Press.minutes" = true)
  (hk_Press_m_minutes : PySem.W.keepIn K (.ref f4) = true)
  (ha_Press_m_most_sheets : PySem.W.findIn K (.ref O0) "most_sheets" = some (some (.ref f5)))
  (hofn_Press_m_most_sheets : PySem.W.isFn K (.ref f5) = true)
  (hl_Press_m_most_sheets : K.lookup f5 = some ⟨oc5, od5, .func (PySem.W.fnOf "most_sheets" "Press.most_sheets" (defArgs s_Press_m_most_sheets) (defBody s_Press_m_most_sheets) (defScope s_Press_m_most_sheets) .none kV5 dc5 pm5 an5 cd5 ct5), sl5⟩)
  (hc_Press_m_most_sheets : PySem.W.codeIn K cd5 "Press.most_sheets" = true)
  (hk_Press_m_most_sheets : PySem.W.keepIn K (.ref f5) = true)
  (ha__law_cents : PySem.W.nsIn K mainGlobals "_law_cents" = some (some (.ref f6)))
  (hl__law_cents : K.lookup f6 = some ⟨oc6, od6, .func (PySem.W.fnOf "_law_cents" "_law_cents" (defArgs s__law_cents) (defBody s__law_cents) (defScope s__law_cents) .none kV6 dc6 pm6 an6 cd6 ct6), sl6⟩)
  (hc__law_cents : PySem.W.codeIn K cd6 "_law_cents" = true)
  (hk__law_cents : PySem.W.keepIn K (.ref f6) = true)
  (ha__law_deck : PySem.W.nsIn K mainGlobals "_law_deck" = some (some (.ref f7)))
  (hl__law_deck : K.lookup f7 = some ⟨oc7, od7, .func (PySem.W.fnOf "_law_deck" "_law_deck" (defArgs s__law_deck) (defBody s__law_deck) (defScope s__law_deck) .none kV7 dc7 pm7 an7 cd7 ct7), sl7⟩)
  (hc__law_deck : PySem.W.codeIn K cd7 "_law_deck" = true)
  (hk__law_deck : PySem.W.keepIn K (.ref f7) = true)
  (ha__law_gcd : PySem.W.nsIn K mainGlobals "_law_gcd" = some (some (.ref f8)))
  (hl__law_gcd : K.lookup f8 = some ⟨oc8, od8, .func (PySem.W.fnOf "_law_gcd" "_law_gcd" (defArgs s__law_gcd) (defBody s__law_gcd) (defScope s__law_gcd) .none kV8 dc8 pm8 an8 cd8 ct8), sl8⟩)
  (hc__law_gcd : PySem.W.codeIn K cd8 "_law_gcd" = true)
  (hk__law_gcd : PySem.W.keepIn K (.ref f8) = true)
  (ha__law_fraction : PySem.W.nsIn K mainGlobals "_law_fraction" = some (some (.ref f9)))
  (hl__law_fraction : K.lookup f9 = some ⟨oc9, od9, .func (PySem.W.fnOf "_law_fraction" "_law_fraction" (defArgs s__law_fraction) (defBody s__law_fraction) (defScope s__law_fraction) .none kV9 dc9 pm9 an9 cd9 ct9), sl9⟩)
  (hc__law_fraction : PySem.W.codeIn K cd9 "_law_fraction" = true)
  (hk__law_fraction : PySem.W.keepIn K (.ref f9) = true)
  (ha__law_take : PySem.W.nsIn K mainGlobals "_law_take" = some (some (.ref f10)))
  (hl__law_take : K.lookup f10 = some ⟨oc10, od10, .func (PySem.W.fnOf "_law_take" "_law_take" (defArgs s__law_take) (defBody s__law_take) (defScope s__law_take) .none kV10 dc10 pm10 an10 cd10 ct10), sl10⟩)
  (hc__law_take : PySem.W.codeIn K cd10 "_law_take" = true)
  (hk__law_take : PySem.W.keepIn K (.ref f10) = true)
  (ha__law_number : PySem.W.nsIn K mainGlobals "_law_number" = some (some (.ref f11)))
  (hl__law_number : K.lookup f11 = some ⟨oc11, od11, .func (PySem.W.fnOf "_law_number" "_law_number" (defArgs s__law_number) (defBody s__law_number) (defScope s__law_number) .none kV11 dc11 pm11 an11 cd11 ct11), sl11⟩)
  (hc__law_number : PySem.W.codeIn K cd11 "_law_number" = true)
  (hk__law_number : PySem.W.keepIn K (.ref f11) = true)
  (ha__law_plain : PySem.W.nsIn K mainGlobals "_law_plain" = some (some (.ref f12)))
  (hl__law_plain : K.lookup f12 = some ⟨oc12, od12, .func (PySem.W.fnOf "_law_plain" "_law_plain" (defArgs s__law_plain) (defBody s__law_plain) (defScope s__law_plain) .none kV12 dc12 pm12 an12 cd12 ct12), sl12⟩)
  (hc__law_plain : PySem.W.codeIn K cd12 "_law_plain" = true)
  (hk__law_plain : PySem.W.keepIn K (.ref f12) = true)
  (ha__law_press : PySem.W.nsIn K mainGlobals "_law_press" = some (some (.ref f13)))
  (hl__law_press : K.lookup f13 = some ⟨oc13, od13, .func (PySem.W.fnOf "_law_press" "_law_press" (defArgs s__law_press) (defBody s__law_press) (defScope s__law_press) .none kV13 dc13 pm13 an13 cd13 ct13), sl13⟩)
  (hc__law_press : PySem.W.codeIn K cd13 "_law_press" = true)
  (hk__law_press : PySem.W.keepIn K (.ref f13) = true)
  (ha_cheapest : PySem.W.nsIn K mainGlobals "cheapest" = some (some (.ref f14)))
  (hl_cheapest : K.lookup f14 = some ⟨oc14, od14, .func (PySem.W.fnOf "cheapest" "cheapest" (defArgs s_cheapest) (defBody s_cheapest) (defScope s_cheapest) .none kV14 dc14 pm14 an14 cd14 ct14), sl14⟩)
  (hc_cheapest : PySem.W.codeIn K cd14 "cheapest" = true)
  (hk_cheapest : PySem.W.keepIn K (.ref f14) = true)
  (ha__law_why : PySem.W.nsIn K mainGlobals "_law_why" = some (some (.ref f15)))
  (hl__law_why : K.lookup f15 = some ⟨oc15, od15, .func (PySem.W.fnOf "_law_why" "_law_why" (defArgs s__law_why) (defBody s__law_why) (defScope s__law_why) .none kV15 dc15 pm15 an15 cd15 ct15), sl15⟩)
  (hc__law_why : PySem.W.codeIn K cd15 "_law_why" = true)
  (hk__law_why : PySem.W.keepIn K (.ref f15) = true)
  (ha_even_count : PySem.W.nsIn K mainGlobals "even_count" = some (some (.ref f16)))
  (hl_even_count : K.lookup f16 = some ⟨oc16, od16, .func (PySem.W.fnOf "even_count" "even_count" (defArgs s_even_count) (defBody s_even_count) (defScope s_even_count) .none kV16 dc16 pm16 an16 cd16 ct16), sl16⟩)
  (hc_even_count : PySem.W.codeIn K cd16 "even_count" = true)
  (hk_even_count : PySem.W.keepIn K (.ref f16) = true)
  (ha_law : PySem.W.nsIn K mainGlobals "law" = some (some (.ref f17)))
  (hl_law : K.lookup f17 = some ⟨oc17, od17, .func (PySem.W.fnOf "law" "law" (defArgs s_law) (defBody s_law) (defScope s_law) .none kV17 dc17 pm17 an17 cd17 ct17), sl17⟩)
  (hc_law : PySem.W.codeIn K cd17 "law" = true)
  (hk_law : PySem.W.keepIn K (.ref f17) = true)
  (hz_abs : PySem.W.nsIn K mainGlobals "abs" = some none)
  (hz_bool : PySem.W.nsIn K mainGlobals "bool" = some none)
  (hz_int : PySem.W.nsIn K mainGlobals "int" = some none)
  (hz_isinstance : PySem.W.nsIn K mainGlobals "isinstance" = some none)
  (hz_len : PySem.W.nsIn K mainGlobals "len" = some none)
  (hz_list : PySem.W.nsIn K mainGlobals "list" = some none)
  (hz_min : PySem.W.nsIn K mainGlobals "min" = some none)
  (hz_range : PySem.W.nsIn K mainGlobals "range" = some none)
  (hz_str : PySem.W.nsIn K mainGlobals "str" = some none)
  (hz_tuple : PySem.W.nsIn K mainGlobals "tuple" = some none)
  (him_gcd : PySem.W.nsIn K mainGlobals "gcd" = some (some (.builtin "math.gcd")))
  (hxa_PressError : PySem.W.nsIn K mainGlobals "PressError" = some (some (.ref C0)))
  (hsp0 : PySem.W.specialIn K (.ref C0) "__getattribute__" = some (some (.builtin "type.__getattribute__")))
  (hrd0 : PySem.W.readsIn K C0 (.type "type") = true)
  (hfc0 : PySem.W.findCls K (.ref C0) (.type "type") "__init__" = some (.val (.builtin "ValueError.__init__")))
  (hxa_InvalidLength : PySem.W.nsIn K mainGlobals "InvalidLength" = some (some (.ref C1)))
  (hxL_InvalidLength : K.lookup C1 = some (excClassObj nm1 q1 C1 N1 bs1 [.ref C0, .type "ValueError", .type "Exception", .type "BaseException", .type "object"] true sn1 sub1 ab1 col1 dd1 m01 m11 m21 m31 m51 "ValueError.__new__"))
  (hsa_InvalidLength : PySem.W.findIn K (.ref C1) "__setattr__" = some (some (.builtin "object.__setattr__")))
  (hga_InvalidLength : PySem.W.findIn K (.ref C1) "__getattribute__" = some (some (.builtin "BaseException.__getattribute__")))
  (hgg_InvalidLength : PySem.W.findIn K (.ref C1) "__getattr__" = some none)
  (hnf_InvalidLength : PySem.W.findIn K (.ref C1) "what" = some none)
  (hi_InvalidLength : PySem.W.findIn K (.ref C1) "__init__" = some (some (.ref g1)))
  (ht_InvalidLength : PySem.W.typeIn K (.ref g1) = some (.type "function"))
  (hil_InvalidLength : K.lookup g1 = some ⟨uoc1, uod1, .func (PySem.W.fnOf "__init__" "InvalidLength.__init__" (defArgs s_init_InvalidLength) (defBody s_init_InvalidLength) (defScope s_init_InvalidLength) .none ukV1 udc1 upm1 uan1 ucd1 uct1), usl1⟩)
  (hic_InvalidLength : PySem.W.codeIn K ucd1 "InvalidLength.__init__" = true)
  (hik_InvalidLength : PySem.W.keepIn K (.ref g1) = true)
  (hkC_InvalidLength : PySem.W.keepIn K (.ref C1) = true)
  (hhd_InvalidLength : PySem.W.hasDictIn K C1 = true)
  (hxa_InvalidItems : PySem.W.nsIn K mainGlobals "InvalidItems" = some (some (.ref C2)))
  (hxL_InvalidItems : K.lookup C2 = some (excClassObj nm2 q2 C2 N2 bs2 [.ref C0, .type "ValueError", .type "Exception", .type "BaseException", .type "object"] true sn2 sub2 ab2 col2 dd2 m02 m12 m22 m32 m52 "ValueError.__new__"))
  (hsa_InvalidItems : PySem.W.findIn K (.ref C2) "__setattr__" = some (some (.builtin "object.__setattr__")))
  (hga_InvalidItems : PySem.W.findIn K (.ref C2) "__getattribute__" = some (some (.builtin "BaseException.__getattribute__")))
  (hgg_InvalidItems : PySem.W.findIn K (.ref C2) "__getattr__" = some none)
  (hnf_InvalidItems : PySem.W.findIn K (.ref C2) "what" = some none)
  (hi_InvalidItems : PySem.W.findIn K (.ref C2) "__init__" = some (some (.ref g2)))
  (ht_InvalidItems : PySem.W.typeIn K (.ref g2) = some (.type "function"))
  (hil_InvalidItems : K.lookup g2 = some ⟨uoc2, uod2, .func (PySem.W.fnOf "__init__" "InvalidItems.__init__" (defArgs s_init_InvalidItems) (defBody s_init_InvalidItems) (defScope s_init_InvalidItems) .none ukV2 udc2 upm2 uan2 ucd2 uct2), usl2⟩)
  (hic_InvalidItems : PySem.W.codeIn K ucd2 "InvalidItems.__init__" = true)
  (hik_InvalidItems : PySem.W.keepIn K (.ref g2) = true)
  (hkC_InvalidItems : PySem.W.keepIn K (.ref C2) = true)
  (hhd_InvalidItems : PySem.W.hasDictIn K C2 = true)
  (hxa_InvalidRun : PySem.W.nsIn K mainGlobals "InvalidRun" = some (some (.ref C3)))
  (hxL_InvalidRun : K.lookup C3 = some (excClassObj nm3 q3 C3 N3 bs3 [.ref C0, .type "ValueError", .type "Exception", .type "BaseException", .type "object"] true sn3 sub3 ab3 col3 dd3 m03 m13 m23 m33 m53 "ValueError.__new__"))
  (hsa_InvalidRun : PySem.W.findIn K (.ref C3) "__setattr__" = some (some (.builtin "object.__setattr__")))
  (hga_InvalidRun : PySem.W.findIn K (.ref C3) "__getattribute__" = some (some (.builtin "BaseException.__getattribute__")))
  (hgg_InvalidRun : PySem.W.findIn K (.ref C3) "__getattr__" = some none)
  (hnf_InvalidRun : PySem.W.findIn K (.ref C3) "what" = some none)
  (hi_InvalidRun : PySem.W.findIn K (.ref C3) "__init__" = some (some (.ref g3)))
  (ht_InvalidRun : PySem.W.typeIn K (.ref g3) = some (.type "function"))
  (hil_InvalidRun : K.lookup g3 = some ⟨uoc3, uod3, .func (PySem.W.fnOf "__init__" "InvalidRun.__init__" (defArgs s_init_InvalidRun) (defBody s_init_InvalidRun) (defScope s_init_InvalidRun) .none ukV3 udc3 upm3 uan3 ucd3 uct3), usl3⟩)
  (hic_InvalidRun : PySem.W.codeIn K ucd3 "InvalidRun.__init__" = true)
  (hik_InvalidRun : PySem.W.keepIn K (.ref g3) = true)
  (hkC_InvalidRun : PySem.W.keepIn K (.ref C3) = true)
  (hhd_InvalidRun : PySem.W.hasDictIn K C3 = true)
  (hxa_InvalidColour : PySem.W.nsIn K mainGlobals "InvalidColour" = some (some (.ref C4)))
  (hxL_InvalidColour : K.lookup C4 = some (excClassObj nm4 q4 C4 N4 bs4 [.ref C0, .type "ValueError", .type "Exception", .type "BaseException", .type "object"] true sn4 sub4 ab4 col4 dd4 m04 m14 m24 m34 m54 "ValueError.__new__"))
  (hsa_InvalidColour : PySem.W.findIn K (.ref C4) "__setattr__" = some (some (.builtin "object.__setattr__")))
  (hga_InvalidColour : PySem.W.findIn K (.ref C4) "__getattribute__" = some (some (.builtin "BaseException.__getattribute__")))
  (hgg_InvalidColour : PySem.W.findIn K (.ref C4) "__getattr__" = some none)
  (hnf_InvalidColour : PySem.W.findIn K (.ref C4) "what" = some none)
  (hi_InvalidColour : PySem.W.findIn K (.ref C4) "__init__" = some (some (.ref g4)))
  (ht_InvalidColour : PySem.W.typeIn K (.ref g4) = some (.type "function"))
  (hil_InvalidColour : K.lookup g4 = some ⟨uoc4, uod4, .func (PySem.W.fnOf "__init__" "InvalidColour.__init__" (defArgs s_init_InvalidColour) (defBody s_init_InvalidColour) (defScope s_init_InvalidColour) .none ukV4 udc4 upm4 uan4 ucd4 uct4), usl4⟩)
  (hic_InvalidColour : PySem.W.codeIn K ucd4 "InvalidColour.__init__" = true)
  (hik_InvalidColour : PySem.W.keepIn K (.ref g4) = true)
  (hkC_InvalidColour : PySem.W.keepIn K (.ref C4) = true)
  (hhd_InvalidColour : PySem.W.hasDictIn K C4 = true)
  (hxa_TooMany : PySem.W.nsIn K mainGlobals "TooMany" = some (some (.ref C5)))
  (hxL_TooMany : K.lookup C5 = some (excClassObj nm5 q5 C5 N5 bs5 [.ref C0, .type "ValueError", .type "Exception", .type "BaseException", .type "object"] true sn5 sub5 ab5 col5 dd5 m05 m15 m25 m35 m55 "ValueError.__new__"))
  (hsa_TooMany : PySem.W.findIn K (.ref C5) "__setattr__" = some (some (.builtin "object.__setattr__")))
  (hga_TooMany : PySem.W.findIn K (.ref C5) "__getattribute__" = some (some (.builtin "BaseException.__getattribute__")))
  (hgg_TooMany : PySem.W.findIn K (.ref C5) "__getattr__" = some none)
  (hnf_TooMany : PySem.W.findIn K (.ref C5) "what" = some none)
  (hi_TooMany : PySem.W.findIn K (.ref C5) "__init__" = some (some (.ref g5)))
  (ht_TooMany : PySem.W.typeIn K (.ref g5) = some (.type "function"))
  (hil_TooMany : K.lookup g5 = some ⟨uoc5, uod5, .func (PySem.W.fnOf "__init__" "TooMany.__init__" (defArgs s_init_TooMany) (defBody s_init_TooMany) (defScope s_init_TooMany) .none ukV5 udc5 upm5 uan5 ucd5 uct5), usl5⟩)
  (hic_TooMany : PySem.W.codeIn K ucd5 "TooMany.__init__" = true)
  (hik_TooMany : PySem.W.keepIn K (.ref g5) = true)
  (hkC_TooMany : PySem.W.keepIn K (.ref C5) = true)
  (hhd_TooMany : PySem.W.hasDictIn K C5 = true)
  (heC_InvalidLength : PySem.W.subIn K (.ref C1) (.type "BaseException") = some true)
  (htC_InvalidLength : PySem.W.typeIn K (.ref C1) = some (.type "type"))
  (his_InvalidLength : PySem.W.isClsIn K C1 = true)
  (heC_InvalidItems : PySem.W.subIn K (.ref C2) (.type "BaseException") = some true)
  (htC_InvalidItems : PySem.W.typeIn K (.ref C2) = some (.type "type"))
  (his_InvalidItems : PySem.W.isClsIn K C2 = true)
  (heC_InvalidRun : PySem.W.subIn K (.ref C3) (.type "BaseException") = some true)
  (htC_InvalidRun : PySem.W.typeIn K (.ref C3) = some (.type "type"))
  (his_InvalidRun : PySem.W.isClsIn K C3 = true)
  (heC_InvalidColour : PySem.W.subIn K (.ref C4) (.type "BaseException") = some true)
  (htC_InvalidColour : PySem.W.typeIn K (.ref C4) = some (.type "type"))
  (his_InvalidColour : PySem.W.isClsIn K C4 = true)
  (heC_TooMany : PySem.W.subIn K (.ref C5) (.type "BaseException") = some true)
  (htC_TooMany : PySem.W.typeIn K (.ref C5) = some (.type "type"))
  (his_TooMany : PySem.W.isClsIn K C5 = true)
  (heC_PressError : PySem.W.subIn K (.ref C0) (.type "BaseException") = some true)
  (htC_PressError : PySem.W.typeIn K (.ref C0) = some (.type "type"))
  (his_PressError : PySem.W.isClsIn K C0 = true)
  (hcn : PySem.W.specialIn K (.builtin "object.__class__") "__get__" = some (some (.builtin "getset_descriptor.__get__")))
  (hct : PySem.W.takesIn K (.builtin "object.__class__") = some true)
  (hca_InvalidLength : PySem.W.findIn K (.ref C1) "__class__" = some (some (.builtin "object.__class__")))
  (hcm_InvalidLength : PySem.W.mroIn K C1 (.type "object") = some true)
  (hss_InvalidLength : PySem.W.subIn K (.ref C1) (.ref C1) = some true)
  (hca_InvalidItems : PySem.W.findIn K (.ref C2) "__class__" = some (some (.builtin "object.__class__")))
  (hcm_InvalidItems : PySem.W.mroIn K C2 (.type "object") = some true)
  (hca_InvalidRun : PySem.W.findIn K (.ref C3) "__class__" = some (some (.builtin "object.__class__")))
  (hcm_InvalidRun : PySem.W.mroIn K C3 (.type "object") = some true)
  (hca_InvalidColour : PySem.W.findIn K (.ref C4) "__class__" = some (some (.builtin "object.__class__")))
  (hcm_InvalidColour : PySem.W.mroIn K C4 (.type "object") = some true)
  (hss_InvalidColour : PySem.W.subIn K (.ref C4) (.ref C4) = some true)
  (hca_TooMany : PySem.W.findIn K (.ref C5) "__class__" = some (some (.builtin "object.__class__")))
  (hcm_TooMany : PySem.W.mroIn K C5 (.type "object") = some true)
  (hss_TooMany : PySem.W.subIn K (.ref C5) (.ref C5) = some true)
  (hsu_InvalidLength_InvalidItems : PySem.W.subIn K (.ref C1) (.ref C2) = some false)
  (hsu_InvalidItems_InvalidItems : PySem.W.subIn K (.ref C2) (.ref C2) = some true)
  (hsu_InvalidRun_InvalidItems : PySem.W.subIn K (.ref C3) (.ref C2) = some false)
  (hsu_InvalidColour_InvalidItems : PySem.W.subIn K (.ref C4) (.ref C2) = some false)
  (hsu_TooMany_InvalidItems : PySem.W.subIn K (.ref C5) (.ref C2) = some false)
  (hsu_InvalidLength_InvalidRun : PySem.W.subIn K (.ref C1) (.ref C3) = some false)
  (hsu_InvalidItems_InvalidRun : PySem.W.subIn K (.ref C2) (.ref C3) = some false)
  (hsu_InvalidRun_InvalidRun : PySem.W.subIn K (.ref C3) (.ref C3) = some true)
  (hsu_InvalidColour_InvalidRun : PySem.W.subIn K (.ref C4) (.ref C3) = some false)
  (hsu_TooMany_InvalidRun : PySem.W.subIn K (.ref C5) (.ref C3) = some false)
  (hsu_InvalidLength_PressError : PySem.W.subIn K (.ref C1) (.ref C0) = some true)
  (hsu_InvalidItems_PressError : PySem.W.subIn K (.ref C2) (.ref C0) = some true)
  (hsu_InvalidRun_PressError : PySem.W.subIn K (.ref C3) (.ref C0) = some true)
  (hsu_InvalidColour_PressError : PySem.W.subIn K (.ref C4) (.ref C0) = some true)
  (hsu_TooMany_PressError : PySem.W.subIn K (.ref C5) (.ref C0) = some true)
  (plain : ∀ ns : List Int, ns.length ≤ 63 → ∃ ρ, f_law [.val (.rol (ns.map D.int))] = .ok (.bl true) ρ) :
  ∃ fd : FuncData, (∀ (s : Shared) (v : Value), BindsTo s fd ⟨[v], []⟩ [("script", v)]) ∧ ∀ base : Heap, K.In base → base.Ns mainGlobals mg → FnOk P w K mg base (L2.CX P w) 9 fa fd ["script"] (spLaw K) := by
  have e := hfa.symm.trans (PySem.W.mg_of X G ha_law)
  cases e
  have F0 := fun_mk (st := s_Press_m___init__) hl_Press_m___init__ hc_Press_m___init__ hk_Press_m___init__
  have F1 := fun_mk (st := s_check_sheets) hl_check_sheets hc_check_sheets hk_check_sheets
  have F2 := fun_mk (st := s_fraction) hl_fraction hc_fraction hk_fraction
  have F3 := fun_mk (st := s_Press_m_cost) hl_Press_m_cost hc_Press_m_cost hk_Press_m_cost
  have F4 := fun_mk (st := s_Press_m_minutes) hl_Press_m_minutes hc_Press_m_minutes hk_Press_m_minutes
  have F5 := fun_mk (st := s_Press_m_most_sheets) hl_Press_m_most_sheets hc_Press_m_most_sheets hk_Press_m_most_sheets
  have F6 := fun_mk (st := s__law_cents) hl__law_cents hc__law_cents hk__law_cents
  have F7 := fun_mk (st := s__law_deck) hl__law_deck hc__law_deck hk__law_deck
  have F8 := fun_mk (st := s__law_gcd) hl__law_gcd hc__law_gcd hk__law_gcd
  have F9 := fun_mk (st := s__law_fraction) hl__law_fraction hc__law_fraction hk__law_fraction
  have F10 := fun_mk (st := s__law_take) hl__law_take hc__law_take hk__law_take
  have F11 := fun_mk (st := s__law_number) hl__law_number hc__law_number hk__law_number
  have F12 := fun_mk (st := s__law_plain) hl__law_plain hc__law_plain hk__law_plain
  have F13 := fun_mk (st := s__law_press) hl__law_press hc__law_press hk__law_press
  have F14 := fun_mk (st := s_cheapest) hl_cheapest hc_cheapest hk_cheapest
  have F15 := fun_mk (st := s__law_why) hl__law_why hc__law_why hk__law_why
  have F16 := fun_mk (st := s_even_count) hl_even_count hc_even_count hk_even_count
  have F17 := fun_mk (st := s_law) hl_law hc_law hk_law
  have I1 := fun_mk (st := s_init_InvalidLength) hil_InvalidLength hic_InvalidLength hik_InvalidLength
  have I2 := fun_mk (st := s_init_InvalidItems) hil_InvalidItems hic_InvalidItems hik_InvalidItems
  have I3 := fun_mk (st := s_init_InvalidRun) hil_InvalidRun hic_InvalidRun hik_InvalidRun
  have I4 := fun_mk (st := s_init_InvalidColour) hil_InvalidColour hic_InvalidColour hik_InvalidColour
  have I5 := fun_mk (st := s_init_TooMany) hil_TooMany hic_TooMany hik_TooMany
  let T : Txt K mg := {
    a_Press_m___init__ := f0, fd_Press_m___init__ := _, F_Press_m___init__ := F0, b_Press_m___init__ := F0.binds (ps := ["self", "ready", "speed", "start", "price"]) fun _ _ _ _ _ _ us hl => match us, hl with | [_, _, _, _, _], _ => rfl,
    a_check_sheets := f1, fd_check_sheets := _, F_check_sheets := F1, g_check_sheets := PySem.W.mg_of X G ha_check_sheets, b_check_sheets := F1.binds (ps := ["sheets"]) fun _ _ _ _ _ _ us hl => match us, hl with | [_], _ => rfl,
    a_fraction := f2, fd_fraction := _, F_fraction := F2, g_fraction := PySem.W.mg_of X G ha_fraction, b_fraction := F2.binds (ps := ["above", "below"]) fun _ _ _ _ _ _ us hl => match us, hl with | [_, _], _ => rfl,
    a_Press_m_cost := f3, fd_Press_m_cost := _, F_Press_m_cost := F3, b_Press_m_cost := F3.binds (ps := ["self", "sheets"]) fun _ _ _ _ _ _ us hl => match us, hl with | [_, _], _ => rfl,
    a_Press_m_minutes := f4, fd_Press_m_minutes := _, F_Press_m_minutes := F4, b_Press_m_minutes := F4.binds (ps := ["self", "sheets"]) fun _ _ _ _ _ _ us hl => match us, hl with | [_, _], _ => rfl,
    a_Press_m_most_sheets := f5, fd_Press_m_most_sheets := _, F_Press_m_most_sheets := F5, b_Press_m_most_sheets := F5.binds (ps := ["self", "minutes"]) fun _ _ _ _ _ _ us hl => match us, hl with | [_, _], _ => rfl,
    a__law_cents := f6, fd__law_cents := _, F__law_cents := F6, g__law_cents := PySem.W.mg_of X G ha__law_cents, b__law_cents := F6.binds (ps := ["press", "sheets"]) fun _ _ _ _ _ _ us hl => match us, hl with | [_, _], _ => rfl,
    a__law_deck := f7, fd__law_deck := _, F__law_deck := F7, g__law_deck := PySem.W.mg_of X G ha__law_deck, b__law_deck := F7.binds (ps := ["script", "cells", "each"]) fun _ _ _ _ _ _ us hl => match us, hl with | [_, _, _], _ => rfl,
    a__law_gcd := f8, fd__law_gcd := _, F__law_gcd := F8, g__law_gcd := PySem.W.mg_of X G ha__law_gcd, b__law_gcd := F8.binds (ps := ["one", "two"]) fun _ _ _ _ _ _ us hl => match us, hl with | [_, _], _ => rfl,
    a__law_fraction := f9, fd__law_fraction := _, F__law_fraction := F9, g__law_fraction := PySem.W.mg_of X G ha__law_fraction, b__law_fraction := F9.binds (ps := ["above", "below"]) fun _ _ _ _ _ _ us hl => match us, hl with | [_, _], _ => rfl,
    a__law_take := f10, fd__law_take := _, F__law_take := F10, g__law_take := PySem.W.mg_of X G ha__law_take, b__law_take := F10.binds (ps := ["deck", "many"]) fun _ _ _ _ _ _ us hl => match us, hl with | [_, _], _ => rfl,
    a__law_number := f11, fd__law_number := _, F__law_number := F11, g__law_number := PySem.W.mg_of X G ha__law_number, b__law_number := F11.binds (ps := ["deck"]) fun _ _ _ _ _ _ us hl => match us, hl with | [_], _ => rfl,
    a__law_plain := f12, fd__law_plain := _, F__law_plain := F12, g__law_plain := PySem.W.mg_of X G ha__law_plain, b__law_plain := F12.binds (ps := ["value"]) fun _ _ _ _ _ _ us hl => match us, hl with | [_], _ => rfl,
    a__law_press := f13, fd__law_press := _, F__law_press := F13, g__law_press := PySem.W.mg_of X G ha__law_press, b__law_press := F13.binds (ps := ["deck"]) fun _ _ _ _ _ _ us hl => match us, hl with | [_], _ => rfl,
    a_cheapest := f14, fd_cheapest := _, F_cheapest := F14, g_cheapest := PySem.W.mg_of X G ha_cheapest, b_cheapest := F14.binds (ps := ["presses", "sheets"]) fun _ _ _ _ _ _ us hl => match us, hl with | [_, _], _ => rfl,
    a__law_why := f15, fd__law_why := _, F__law_why := F15, g__law_why := PySem.W.mg_of X G ha__law_why, b__law_why := F15.binds (ps := ["ask", "one", "two"]) fun _ _ _ _ _ _ us hl => match us, hl with | [_, _, _], _ => rfl,
    a_even_count := f16, fd_even_count := _, F_even_count := F16, g_even_count := PySem.W.mg_of X G ha_even_count, b_even_count := F16.binds (ps := ["first", "second"]) fun _ _ _ _ _ _ us hl => match us, hl with | [_, _], _ => rfl,
    a_law := fa, fd_law := _, F_law := F17, g_law := PySem.W.mg_of X G ha_law, b_law := F17.binds (ps := ["script"]) fun _ _ _ _ _ _ us hl => match us, hl with | [_], _ => rfl,
    oa_Press := O0, oc_Press := ⟨PySem.W.mg_of X G hoa_Press, hopg_Press, hohd_Press, hopo_Press, hosa_Press⟩,
    ok_Press := ⟨homk_Press, ha_Press_m___init__, hofn_Press_m___init__, hokp_Press⟩,
    om_Press_m_cost := ⟨ha_Press_m_cost, hofn_Press_m_cost, hk_Press_m_cost⟩,
    om_Press_m_minutes := ⟨ha_Press_m_minutes, hofn_Press_m_minutes, hk_Press_m_minutes⟩,
    om_Press_m_most_sheets := ⟨ha_Press_m_most_sheets, hofn_Press_m_most_sheets, hk_Press_m_most_sheets⟩,
    fo_price := fun c hc C hm => by
      simp only [List.mem_cons, List.not_mem_nil, or_false] at hc
      subst hc
      · cases (PySem.W.mg_of X G hoa_Press).symm.trans hm; exact ⟨⟨hopg_Press, hohd_Press, hopo_Press, hosa_Press⟩, honf_Press_price⟩
    fo_ready := fun c hc C hm => by
      simp only [List.mem_cons, List.not_mem_nil, or_false] at hc
      subst hc
      · cases (PySem.W.mg_of X G hoa_Press).symm.trans hm; exact ⟨⟨hopg_Press, hohd_Press, hopo_Press, hosa_Press⟩, honf_Press_ready⟩
    fo_speed := fun c hc C hm => by
      simp only [List.mem_cons, List.not_mem_nil, or_false] at hc
      subst hc
      · cases (PySem.W.mg_of X G hoa_Press).symm.trans hm; exact ⟨⟨hopg_Press, hohd_Press, hopo_Press, hosa_Press⟩, honf_Press_speed⟩
    fo_start := fun c hc C hm => by
      simp only [List.mem_cons, List.not_mem_nil, or_false] at hc
      subst hc
      · cases (PySem.W.mg_of X G hoa_Press).symm.trans hm; exact ⟨⟨hopg_Press, hohd_Press, hopo_Press, hosa_Press⟩, honf_Press_start⟩
    m_abs := PySem.W.mg_none_of X G hz_abs,
    m_bool := PySem.W.mg_none_of X G hz_bool,
    m_int := PySem.W.mg_none_of X G hz_int,
    m_isinstance := PySem.W.mg_none_of X G hz_isinstance,
    m_len := PySem.W.mg_none_of X G hz_len,
    m_list := PySem.W.mg_none_of X G hz_list,
    m_min := PySem.W.mg_none_of X G hz_min,
    m_range := PySem.W.mg_none_of X G hz_range,
    m_str := PySem.W.mg_none_of X G hz_str,
    m_tuple := PySem.W.mg_none_of X G hz_tuple,
    i_gcd := PySem.W.mg_of X G him_gcd,
    xa_PressError := C0, xg_PressError := PySem.W.mg_of X G hxa_PressError, sp0 := hsp0, rd0 := hrd0, fc0 := hfc0,
    xa_InvalidLength := C1, xg_InvalidLength := PySem.W.mg_of X G hxa_InvalidLength, ia_InvalidLength := g1, ifd_InvalidLength := _, IF_InvalidLength := I1, x_InvalidLength := ⟨⟨_, _, _, _, _, _, _, _, _, _, _, _, _, _, _, hxL_InvalidLength, by rfl⟩, hsa_InvalidLength, heC_InvalidLength, htC_InvalidLength, hkC_InvalidLength⟩,
    xi_InvalidLength := hi_InvalidLength, xt_InvalidLength := ht_InvalidLength, xb_InvalidLength := I1.binds (ps := ["self", "what"]) fun _ _ _ _ _ _ us hl => (match us, hl with | [_, _], _ => rfl), xn_InvalidLength := hnf_InvalidLength,
    xa_InvalidItems := C2, xg_InvalidItems := PySem.W.mg_of X G hxa_InvalidItems, ia_InvalidItems := g2, ifd_InvalidItems := _, IF_InvalidItems := I2, x_InvalidItems := ⟨⟨_, _, _, _, _, _, _, _, _, _, _, _, _, _, _, hxL_InvalidItems, by rfl⟩, hsa_InvalidItems, heC_InvalidItems, htC_InvalidItems, hkC_InvalidItems⟩,
    xi_InvalidItems := hi_InvalidItems, xt_InvalidItems := ht_InvalidItems, xb_InvalidItems := I2.binds (ps := ["self", "what"]) fun _ _ _ _ _ _ us hl => (match us, hl with | [_, _], _ => rfl), xn_InvalidItems := hnf_InvalidItems,
    xa_InvalidRun := C3, xg_InvalidRun := PySem.W.mg_of X G hxa_InvalidRun, ia_InvalidRun := g3, ifd_InvalidRun := _, IF_InvalidRun := I3, x_InvalidRun := ⟨⟨_, _, _, _, _, _, _, _, _, _, _, _, _, _, _, hxL_InvalidRun, by rfl⟩, hsa_InvalidRun, heC_InvalidRun, htC_InvalidRun, hkC_InvalidRun⟩,
    xi_InvalidRun := hi_InvalidRun, xt_InvalidRun := ht_InvalidRun, xb_InvalidRun := I3.binds (ps := ["self", "what"]) fun _ _ _ _ _ _ us hl => (match us, hl with | [_, _], _ => rfl), xn_InvalidRun := hnf_InvalidRun,
    xa_InvalidColour := C4, xg_InvalidColour := PySem.W.mg_of X G hxa_InvalidColour, ia_InvalidColour := g4, ifd_InvalidColour := _, IF_InvalidColour := I4, x_InvalidColour := ⟨⟨_, _, _, _, _, _, _, _, _, _, _, _, _, _, _, hxL_InvalidColour, by rfl⟩, hsa_InvalidColour, heC_InvalidColour, htC_InvalidColour, hkC_InvalidColour⟩,
    xi_InvalidColour := hi_InvalidColour, xt_InvalidColour := ht_InvalidColour, xb_InvalidColour := I4.binds (ps := ["self", "what"]) fun _ _ _ _ _ _ us hl => (match us, hl with | [_, _], _ => rfl), xn_InvalidColour := hnf_InvalidColour,
    xa_TooMany := C5, xg_TooMany := PySem.W.mg_of X G hxa_TooMany, ia_TooMany := g5, ifd_TooMany := _, IF_TooMany := I5, x_TooMany := ⟨⟨_, _, _, _, _, _, _, _, _, _, _, _, _, _, _, hxL_TooMany, by rfl⟩, hsa_TooMany, heC_TooMany, htC_TooMany, hkC_TooMany⟩,
    xi_TooMany := hi_TooMany, xt_TooMany := ht_TooMany, xb_TooMany := I5.binds (ps := ["self", "what"]) fun _ _ _ _ _ _ us hl => (match us, hl with | [_, _], _ => rfl), xn_TooMany := hnf_TooMany,
    sub_PressError := fun c hc C hm => by
      simp only [List.mem_cons, List.not_mem_nil, or_false] at hc
      rcases hc with rfl | rfl | rfl | rfl | rfl
      · cases (PySem.W.mg_of X G hxa_InvalidLength).symm.trans hm; exact exm_of heC_PressError his_PressError htC_PressError hsu_InvalidLength_PressError
      · cases (PySem.W.mg_of X G hxa_InvalidItems).symm.trans hm; exact exm_of heC_PressError his_PressError htC_PressError hsu_InvalidItems_PressError
      · cases (PySem.W.mg_of X G hxa_InvalidRun).symm.trans hm; exact exm_of heC_PressError his_PressError htC_PressError hsu_InvalidRun_PressError
      · cases (PySem.W.mg_of X G hxa_InvalidColour).symm.trans hm; exact exm_of heC_PressError his_PressError htC_PressError hsu_InvalidColour_PressError
      · cases (PySem.W.mg_of X G hxa_TooMany).symm.trans hm; exact exm_of heC_PressError his_PressError htC_PressError hsu_TooMany_PressError
    xf_PressError := fun c hc C hm => by
      simp only [List.mem_cons, List.not_mem_nil, or_false] at hc
      rcases hc with rfl | rfl | rfl | rfl | rfl
      · cases (PySem.W.mg_of X G hxa_InvalidLength).symm.trans hm; exact ⟨⟨hga_InvalidLength, hgg_InvalidLength, heC_InvalidLength, hhd_InvalidLength⟩, hnf_InvalidLength⟩
      · cases (PySem.W.mg_of X G hxa_InvalidItems).symm.trans hm; exact ⟨⟨hga_InvalidItems, hgg_InvalidItems, heC_InvalidItems, hhd_InvalidItems⟩, hnf_InvalidItems⟩
      · cases (PySem.W.mg_of X G hxa_InvalidRun).symm.trans hm; exact ⟨⟨hga_InvalidRun, hgg_InvalidRun, heC_InvalidRun, hhd_InvalidRun⟩, hnf_InvalidRun⟩
      · cases (PySem.W.mg_of X G hxa_InvalidColour).symm.trans hm; exact ⟨⟨hga_InvalidColour, hgg_InvalidColour, heC_InvalidColour, hhd_InvalidColour⟩, hnf_InvalidColour⟩
      · cases (PySem.W.mg_of X G hxa_TooMany).symm.trans hm; exact ⟨⟨hga_TooMany, hgg_TooMany, heC_TooMany, hhd_TooMany⟩, hnf_TooMany⟩
    it_InvalidItems := fun c hc C hm => by
      simp only [List.mem_cons, List.not_mem_nil, or_false] at hc
      rcases hc with rfl | rfl | rfl | rfl | rfl
      · cases (PySem.W.mg_of X G hxa_InvalidLength).symm.trans hm; exact ⟨⟨⟨hga_InvalidLength, hgg_InvalidLength, heC_InvalidLength, hhd_InvalidLength, hca_InvalidLength, hcn, hct, hcm_InvalidLength⟩, his_InvalidLength⟩, kit_one hss_InvalidLength his_InvalidItems htC_InvalidItems hsu_InvalidLength_InvalidItems⟩
      · cases (PySem.W.mg_of X G hxa_InvalidItems).symm.trans hm; exact ⟨⟨⟨hga_InvalidItems, hgg_InvalidItems, heC_InvalidItems, hhd_InvalidItems, hca_InvalidItems, hcn, hct, hcm_InvalidItems⟩, his_InvalidItems⟩, kit_one hsu_InvalidItems_InvalidItems his_InvalidItems htC_InvalidItems hsu_InvalidItems_InvalidItems⟩
      · cases (PySem.W.mg_of X G hxa_InvalidRun).symm.trans hm; exact ⟨⟨⟨hga_InvalidRun, hgg_InvalidRun, heC_InvalidRun, hhd_InvalidRun, hca_InvalidRun, hcn, hct, hcm_InvalidRun⟩, his_InvalidRun⟩, kit_one hsu_InvalidRun_InvalidRun his_InvalidItems htC_InvalidItems hsu_InvalidRun_InvalidItems⟩
      · cases (PySem.W.mg_of X G hxa_InvalidColour).symm.trans hm; exact ⟨⟨⟨hga_InvalidColour, hgg_InvalidColour, heC_InvalidColour, hhd_InvalidColour, hca_InvalidColour, hcn, hct, hcm_InvalidColour⟩, his_InvalidColour⟩, kit_one hss_InvalidColour his_InvalidItems htC_InvalidItems hsu_InvalidColour_InvalidItems⟩
      · cases (PySem.W.mg_of X G hxa_TooMany).symm.trans hm; exact ⟨⟨⟨hga_TooMany, hgg_TooMany, heC_TooMany, hhd_TooMany, hca_TooMany, hcn, hct, hcm_TooMany⟩, his_TooMany⟩, kit_one hss_TooMany his_InvalidItems htC_InvalidItems hsu_TooMany_InvalidItems⟩
    it_InvalidRun := fun c hc C hm => by
      simp only [List.mem_cons, List.not_mem_nil, or_false] at hc
      rcases hc with rfl | rfl | rfl | rfl | rfl
      · cases (PySem.W.mg_of X G hxa_InvalidLength).symm.trans hm; exact ⟨⟨⟨hga_InvalidLength, hgg_InvalidLength, heC_InvalidLength, hhd_InvalidLength, hca_InvalidLength, hcn, hct, hcm_InvalidLength⟩, his_InvalidLength⟩, kit_one hss_InvalidLength his_InvalidRun htC_InvalidRun hsu_InvalidLength_InvalidRun⟩
      · cases (PySem.W.mg_of X G hxa_InvalidItems).symm.trans hm; exact ⟨⟨⟨hga_InvalidItems, hgg_InvalidItems, heC_InvalidItems, hhd_InvalidItems, hca_InvalidItems, hcn, hct, hcm_InvalidItems⟩, his_InvalidItems⟩, kit_one hsu_InvalidItems_InvalidItems his_InvalidRun htC_InvalidRun hsu_InvalidItems_InvalidRun⟩
      · cases (PySem.W.mg_of X G hxa_InvalidRun).symm.trans hm; exact ⟨⟨⟨hga_InvalidRun, hgg_InvalidRun, heC_InvalidRun, hhd_InvalidRun, hca_InvalidRun, hcn, hct, hcm_InvalidRun⟩, his_InvalidRun⟩, kit_one hsu_InvalidRun_InvalidRun his_InvalidRun htC_InvalidRun hsu_InvalidRun_InvalidRun⟩
      · cases (PySem.W.mg_of X G hxa_InvalidColour).symm.trans hm; exact ⟨⟨⟨hga_InvalidColour, hgg_InvalidColour, heC_InvalidColour, hhd_InvalidColour, hca_InvalidColour, hcn, hct, hcm_InvalidColour⟩, his_InvalidColour⟩, kit_one hss_InvalidColour his_InvalidRun htC_InvalidRun hsu_InvalidColour_InvalidRun⟩
      · cases (PySem.W.mg_of X G hxa_TooMany).symm.trans hm; exact ⟨⟨⟨hga_TooMany, hgg_TooMany, heC_TooMany, hhd_TooMany, hca_TooMany, hcn, hct, hcm_TooMany⟩, his_TooMany⟩, kit_one hss_TooMany his_InvalidRun htC_InvalidRun hsu_TooMany_InvalidRun⟩
  }
  exact ⟨_, fun s v => .of_eq rfl, fun base _ _ => law_end (d_law T) plain⟩
end K40

namespace K40
open PySem L2 DL

theorem mr {i j : Int} (h : -18446744073709551616 < j ∧ j < 18446744073709551616) : mulOk i j = true := by
  unfold mulOk
  rw [Bool.or_eq_true]
  left
  rw [decide_eq_true_iff]
  exact Or.inr ⟨by omega, by omega⟩
theorem ml {i j : Int} (h : -18446744073709551616 < i ∧ i < 18446744073709551616) : mulOk i j = true := by
  unfold mulOk
  rw [Bool.or_eq_true]
  left
  rw [decide_eq_true_iff]
  exact Or.inl ⟨by omega, by omega⟩
abbrev Fr := Int × Int
def gn (a b : Int) : Int := ((Nat.gcd a.natAbs b.natAbs : Nat) : Int)
def fz (a b : Int) : Fr := (a / gn a b, b / gn a b)
theorem gn_pos {a b : Int} (hb : 0 < b) : 0 < gn a b := by
  have : 0 < Nat.gcd a.natAbs b.natAbs := Nat.gcd_pos_of_pos_right _ (by omega)
  unfold gn
  omega
theorem gn_l (a b : Int) : gn a b ∣ a := by
  unfold gn
  exact Int.ofNat_dvd_left.mpr (Nat.gcd_dvd_left _ _)
theorem gn_r (a b : Int) : gn a b ∣ b := by
  unfold gn
  exact Int.ofNat_dvd_left.mpr (Nat.gcd_dvd_right _ _)
theorem fz_1 (a b : Int) : gn a b * (fz a b).1 = a := Int.mul_ediv_cancel' (gn_l a b)
theorem fz_2 (a b : Int) : gn a b * (fz a b).2 = b := Int.mul_ediv_cancel' (gn_r a b)
theorem fz_pos {a b : Int} (hb : 0 < b) : 0 < (fz a b).2 := by
  have h := fz_2 a b
  have g := gn_pos (a := a) hb
  rcases Int.lt_or_le 0 (fz a b).2 with z | z
  · exact z
  · have := Int.mul_nonpos_of_nonneg_of_nonpos (Int.le_of_lt g) z
    omega
theorem fz_cross {a b : Int} : (fz a b).1 * b = a * (fz a b).2 := by
  have h1 := fz_1 a b
  have h2 := fz_2 a b
  generalize gn a b = g at *
  generalize (fz a b).1 = x at *
  generalize (fz a b).2 = y at *
  subst h1
  subst h2
  grind
theorem fz_scale {k a b : Int} (hk : 0 < k) : fz (k * a) (k * b) = fz a b := by
  have e : gn (k * a) (k * b) = k * gn a b := by
    unfold gn
    rw [Int.natAbs_mul, Int.natAbs_mul, Nat.gcd_mul_left]
    push_cast
    have : (k.natAbs : Int) = k := by omega
    rw [this]
  unfold fz
  rw [e, Int.mul_ediv_mul_of_pos _ _ hk, Int.mul_ediv_mul_of_pos _ _ hk]
theorem fz_eq {a b c d : Int} (hb : 0 < b) (hd : 0 < d) (h : a * d = c * b) : fz a b = fz c d := by
  rw [← fz_scale (a := a) (b := b) hd, ← fz_scale (a := c) (b := d) hb, Int.mul_comm d a, h, Int.mul_comm c b, Int.mul_comm d b]
theorem fz_le {a b : Int} (hb : 0 < b) : (fz a b).2.natAbs ≤ b.natAbs ∧ (fz a b).1.natAbs ≤ a.natAbs := by
  have h1 := fz_1 a b
  have h2 := fz_2 a b
  have g := gn_pos (a := a) hb
  constructor
  · have e : (gn a b).natAbs * (fz a b).2.natAbs = b.natAbs := by rw [← Int.natAbs_mul, h2]
    rw [← e]
    exact Nat.le_mul_of_pos_left _ (by omega)
  · have e : (gn a b).natAbs * (fz a b).1.natAbs = a.natAbs := by rw [← Int.natAbs_mul, h1]
    rw [← e]
    exact Nat.le_mul_of_pos_left _ (by omega)
theorem fz_sgn {a b : Int} (hb : 0 < b) : (fz a b).1 ≤ 0 ↔ a ≤ 0 := by
  have h := fz_1 a b
  have g := gn_pos (a := a) hb
  generalize gn a b = k at *
  generalize (fz a b).1 = x at *
  subst h
  constructor
  · intro z
    exact Int.mul_nonpos_of_nonneg_of_nonpos (Int.le_of_lt g) z
  · intro z
    rcases Int.lt_or_le 0 x with y | y
    · have := Int.mul_pos g y
      omega
    · exact y
theorem fz_nn {a b : Int} (hb : 0 < b) (h : 0 ≤ a) : 0 ≤ (fz a b).1 := by
  have e := fz_1 a b
  have g := gn_pos (a := a) hb
  generalize gn a b = k at *
  generalize (fz a b).1 = x at *
  rcases Int.lt_or_le x 0 with y | y
  · have := Int.mul_neg_of_pos_of_neg g y
    omega
  · exact y
theorem fz_one (t : Int) : fz t 1 = (t, 1) := by
  have : gn t 1 = 1 := by unfold gn; simp
  unfold fz
  rw [this]
  simp
def sm (x : Int) (k : Nat) : Prop := x.natAbs < 2 ^ k
theorem sm_mono {x : Int} {j k : Nat} (h : sm x j) (hk : j ≤ k) : sm x k := Nat.lt_of_lt_of_le h (Nat.pow_le_pow_right (by decide) hk)
theorem sm_mul {x y : Int} {j k : Nat} (h1 : sm x j) (h2 : sm y k) : sm (x * y) (j + k) := by
  unfold sm at *
  rw [Int.natAbs_mul, Nat.pow_add]
  exact Nat.mul_lt_mul_of_lt_of_le h1 (Nat.le_of_lt h2) (Nat.two_pow_pos _)
theorem sm_add {x y : Int} {j k : Nat} (h1 : sm x j) (h2 : sm y k) : sm (x + y) (max j k + 1) := by
  have a := sm_mono h1 (Nat.le_max_left j k)
  have b := sm_mono h2 (Nat.le_max_right j k)
  unfold sm at *
  rw [Nat.pow_succ]
  omega
theorem sm_sub {x y : Int} {j k : Nat} (h1 : sm x j) (h2 : sm y k) : sm (x - y) (max j k + 1) := by
  have a := sm_mono h1 (Nat.le_max_left j k)
  have b := sm_mono h2 (Nat.le_max_right j k)
  unfold sm at *
  rw [Nat.pow_succ]
  omega
theorem sm_neg {x : Int} {k : Nat} (h : sm x k) : sm (-x) k := by
  unfold sm at *
  omega
theorem sm_fz1 {a b : Int} {k : Nat} (hb : 0 < b) (h : sm a k) : sm (fz a b).1 k := Nat.lt_of_le_of_lt (fz_le hb).2 h
theorem sm_fz2 {a b : Int} {k : Nat} (hb : 0 < b) (h : sm b k) : sm (fz a b).2 k := Nat.lt_of_le_of_lt (fz_le hb).1 h
theorem sm_lit {x : Int} {k : Nat} (h : x.natAbs < 2 ^ k) : sm x k := h
theorem mok {x y : Int} {j k : Nat} (h1 : sm x j) (h2 : sm y k) (hj : j ≤ 1000) (hk : k ≤ 1000) : mulOk x y = true := mulOk_big (sm_mono h1 hj) (sm_mono h2 hk)
theorem frac {a b : Int} (hb : 0 < b) (hs : sm b 1000) : f_fraction.app [.int a, .int b] = .ok (DL.prD (fz a b)) := by
  have g := gn_pos (a := a) hb
  have hle : gn a b ≤ b := Int.le_of_dvd hb (gn_r a b)
  have dv : divOk (gn a b) = true := divOk_pos (by unfold sm at hs; omega)
  have nb : ¬ b < 0 := by omega
  have e1 : ∀ x : Int, x.fdiv (gn a b) = x / gn a b := fun x => Int.fdiv_eq_ediv_of_nonneg _ (by omega)
  refine app_of ?_
  show wp b_fraction _ _ _
  unfold b_fraction b_fraction_1 b_fraction_2 b_fraction_3 DL.prD fz
  unfold gn at dv e1 ⊢
  simp (implicitDefEqProofs := false) (maxSteps := 3000000) [nb, dv, e1]
theorem lfrac {a b : Int} (hb : 0 < b) (hs : sm b 1000) : f__law_fraction.app [.int a, .int b] = .ok (DL.prD (fz a b)) := by
  have g := gn_pos (a := a) hb
  have hle : gn a b ≤ b := Int.le_of_dvd hb (gn_r a b)
  have dv : divOk (gn a b) = true := divOk_pos (by unfold sm at hs; omega)
  have nb : ¬ b < 0 := by omega
  have e1 : ∀ x : Int, x.fdiv (gn a b) = x / gn a b := fun x => Int.fdiv_eq_ediv_of_nonneg _ (by omega)
  have gc : f__law_gcd.app [.int a, .int b] = _ := gcd_app (a := a) (b := b) hs
  refine app_of ?_
  show wp b__law_fraction _ _ _
  unfold b__law_fraction b__law_fraction_1 b__law_fraction_2 b__law_fraction_3 DL.prD fz
  unfold gn at dv e1 ⊢
  simp (implicitDefEqProofs := false) (maxSteps := 3000000) [gc, nb, dv, e1]
theorem prD_eq (p : Fr) : DL.prD p = .tup [.int p.1, .int p.2] := rfl
theorem ix0 {p : Fr} {P : D × Bool → Prop} : opt (opIx (DL.prD p) (.int 0)) P = P (.int p.1, false) := by
  rw [prD_eq]
  simp (implicitDefEqProofs := false) (maxSteps := 3000000)
theorem ix1 {p : Fr} {P : D × Bool → Prop} : opt (opIx (DL.prD p) (.int 1)) P = P (.int p.2, false) := by
  rw [prD_eq]
  simp (implicitDefEqProofs := false) (maxSteps := 3000000)
abbrev Er (f : Fn) (ds : List D) (z : Str) : Prop := f.app ds = .err "InvalidRun" [("what", .str z)]
theorem prD_pok {n : Nat} {p : Fr} : pOk (n + 2) (DL.prD p) := pOk_tup (by simp) fun x hx => by
  simp only [List.mem_cons, List.not_mem_nil, or_false] at hx
  rcases hx with e | e <;> subst e <;> trivial
theorem prD_dat {n : Nat} {p : Fr} : Dat (n + 1) (DL.prD p) := fun x hx => by
  simp only [List.mem_cons, List.not_mem_nil, or_false] at hx
  rcases hx with e | e <;> subst e <;> cases n <;> trivial
theorem hout {z : Str} : exIf (bAnd (bIs [("InvalidLength", false), ("InvalidItems", false), ("InvalidRun", true), ("InvalidColour", false), ("TooMany", false)]) (bNot (bIs [("InvalidLength", false), ("InvalidItems", true), ("InvalidRun", false), ("InvalidColour", false), ("TooMany", false)]))) (exFld ["InvalidLength", "InvalidItems", "InvalidRun", "InvalidColour", "TooMany"] "what") exBad "InvalidRun" [("what", .str z)] = some (.str z) := by
  have h1 : (bAnd (bIs [("InvalidLength", false), ("InvalidItems", false), ("InvalidRun", true), ("InvalidColour", false), ("TooMany", false)]) (bNot (bIs [("InvalidLength", false), ("InvalidItems", true), ("InvalidRun", false), ("InvalidColour", false), ("TooMany", false)]))) "InvalidRun" = some true := by decide +kernel
  unfold exIf
  rw [h1]
  show (if ("InvalidRun" : Str) ∈ _ then _ else _) = _
  rw [if_pos (by decide +kernel)]
  rfl
theorem l1 : List.lookup ("InvalidRun" : Str) [(("InvalidLength" : Str), true), ("InvalidItems", true), ("InvalidRun", true), ("InvalidColour", true), ("TooMany", true)] = some true := by decide +kernel
abbrev R4 := Int × Int × Int × Int
def rowD (r : R4) : D := .tup [.int r.1, .int r.2.1, .int r.2.2.1, .int r.2.2.2]
def prsD (r : R4) : D := .obj "Press" [("ready", .int r.1), ("speed", .int r.2.1), ("start", .int r.2.2.1), ("price", .int r.2.2.2)]
structure Ok (r : R4) : Prop where
  a : 0 ≤ r.1 ∧ r.1 < 60
  b : 1 ≤ r.2.1 ∧ r.2.1 ≤ 9000
  c : 0 ≤ r.2.2.1 ∧ r.2.2.1 < 900
  d : 0 ≤ r.2.2.2 ∧ r.2.2.2 < 900
theorem fl_ready {r : R4} {P : D × Bool → Prop} : opt (opFld ["Press"] "ready" (prsD r)) P = P (.int r.1, false) := rfl
theorem pf_ready { d : D} : putFD "ready" d ([] : List (Str × D)) = ([("ready", d)] : List (Str × D)) := rfl
theorem fl_speed {r : R4} {P : D × Bool → Prop} : opt (opFld ["Press"] "speed" (prsD r)) P = P (.int r.2.1, false) := rfl
theorem pf_speed {d0 d : D} : putFD "speed" d ([("ready", d0)] : List (Str × D)) = ([("ready", d0), ("speed", d)] : List (Str × D)) := rfl
theorem fl_start {r : R4} {P : D × Bool → Prop} : opt (opFld ["Press"] "start" (prsD r)) P = P (.int r.2.2.1, false) := rfl
theorem pf_start {d0 d1 d : D} : putFD "start" d ([("ready", d0), ("speed", d1)] : List (Str × D)) = ([("ready", d0), ("speed", d1), ("start", d)] : List (Str × D)) := rfl
theorem fl_price {r : R4} {P : D × Bool → Prop} : opt (opFld ["Press"] "price" (prsD r)) P = P (.int r.2.2.2, false) := rfl
theorem pf_price {d0 d1 d2 d : D} : putFD "price" d ([("ready", d0), ("speed", d1), ("start", d2)] : List (Str × D)) = ([("ready", d0), ("speed", d1), ("start", d2), ("price", d)] : List (Str × D)) := rfl
theorem in_P : ("Press" : Str) ∈ (["Press"] : List Str) := List.mem_singleton.mpr rfl
theorem is_m {r : R4} : isObj "Press" "minutes" (prsD r) = true ∧ isObj "Press" "cost" (prsD r) = true ∧ isObj "Press" "most_sheets" (prsD r) = true := ⟨rfl, rfl, rfl⟩
theorem okr : okStr (D.str "costs") = true ∧ okStr (D.str "speed") = true ∧ okStr (D.str "sheets") = true ∧ okStr (D.str "minutes") = true ∧ okStr (D.str "presses") = true := by decide +kernel
theorem mk_ok {r : R4} (h : Ok r) : f_Press_m___init__.make "Press" [.int r.1, .int r.2.1, .int r.2.2.1, .int r.2.2.2] = .ok (prsD r) := by
  have c1 : ¬ r.1 < 0 := by have := h.a; omega
  have c2 : ¬ r.2.1 < 1 := by have := h.b; omega
  have c3 : ¬ r.2.2.1 < 0 := by have := h.c; omega
  have c4 : ¬ r.2.2.2 < 0 := by have := h.d; omega
  refine make_of ?_
  show wp b_Press_m___init__ _ _ _
  unfold b_Press_m___init__ b_Press_m___init___1 b_Press_m___init___2 b_Press_m___init___3 b_Press_m___init___4 b_Press_m___init___5 b_Press_m___init___6
  simp (implicitDefEqProofs := false) (maxSteps := 3000000) [c1, c2, c3, c4, pf_ready, pf_speed, pf_start, pf_price]
  rfl
theorem mk_b1 {a b c d : Int} (h : a < 0 ∨ c < 0 ∨ d < 0) : f_Press_m___init__.make "Press" [.int a, .int b, .int c, .int d] = .err "InvalidRun" [("what", .str "costs")] := by
  refine make_ofE ?_
  show wp b_Press_m___init__ _ _ _
  unfold b_Press_m___init__ b_Press_m___init___1
  simp (implicitDefEqProofs := false) (maxSteps := 3000000) [okr]
  omega
theorem mk_b2 {a b c d : Int} (h1 : 0 ≤ a) (h2 : 0 ≤ c) (h3 : 0 ≤ d) (h : b < 1) : f_Press_m___init__.make "Press" [.int a, .int b, .int c, .int d] = .err "InvalidRun" [("what", .str "speed")] := by
  have c1 : ¬ a < 0 := by omega
  have c3 : ¬ c < 0 := by omega
  have c4 : ¬ d < 0 := by omega
  refine make_ofE ?_
  show wp b_Press_m___init__ _ _ _
  unfold b_Press_m___init__ b_Press_m___init___1 b_Press_m___init___2
  simp (implicitDefEqProofs := false) (maxSteps := 3000000) [okr, c1, c3, c4, h]
theorem sh_ok {n : Int} (h : 0 ≤ n) : f_check_sheets.app [.int n] = .ok .non := by
  have c : ¬ n < 0 := by omega
  refine app_ofN ?_
  show wp b_check_sheets _ _ _
  unfold b_check_sheets
  simp (implicitDefEqProofs := false) (maxSteps := 3000000) [c]
theorem sh_b {n : Int} (h : n < 0) : Er f_check_sheets [.int n] "sheets" := by
  refine app_ofE ?_
  show wp b_check_sheets _ _ _
  unfold b_check_sheets
  simp (implicitDefEqProofs := false) (maxSteps := 3000000) [h, okr]
def mnV (r : R4) (n : Int) : Fr := fz (r.1 * r.2.1 + 60 * n) r.2.1
def csV (r : R4) (n : Int) : Int := 1000 * r.2.2.1 + r.2.2.2 * n
theorem mn_ok {r : R4} {n : Int} (h : Ok r) (hn : 0 ≤ n) : f_Press_m_minutes.app [prsD r, .int n] = .ok (DL.prD (mnV r n)) := by
  have hb := h.b
  have f := frac (a := r.1 * r.2.1 + 60 * n) (b := r.2.1) (by omega) (sm_mono (sm_lit (k := 14) (by omega)) (by decide))
  have m1 : mulOk r.1 r.2.1 = true := mr (by omega)
  have m2 : mulOk 60 n = true := ml (by decide)
  refine app_of ?_
  show wp b_Press_m_minutes _ _ _
  unfold b_Press_m_minutes b_Press_m_minutes_1 b_Press_m_minutes_2
  simp (implicitDefEqProofs := false) (maxSteps := 3000000) [sh_ok hn, fl_ready, fl_speed, m1, m2, f]
  rfl
theorem mn_b {r : R4} {n : Int} (hn : n < 0) : Er f_Press_m_minutes [prsD r, .int n] "sheets" := by
  refine app_ofE ?_
  show wp b_Press_m_minutes _ _ _
  unfold b_Press_m_minutes b_Press_m_minutes_1
  simp (implicitDefEqProofs := false) (maxSteps := 3000000) [sh_b hn]
theorem cs_ok {r : R4} {n : Int} (h : Ok r) (hn : 0 ≤ n) : f_Press_m_cost.app [prsD r, .int n] = .ok (DL.prD (fz (csV r n) 1000)) := by
  have hd := h.d
  have hc := h.c
  have f := frac (a := csV r n) (b := 1000) (by omega) (sm_mono (sm_lit (k := 14) (by omega)) (by decide))
  unfold csV at f
  have m1 : mulOk 1000 r.2.2.1 = true := ml (by decide)
  have m2 : mulOk r.2.2.2 n = true := ml (by omega)
  refine app_of ?_
  show wp b_Press_m_cost _ _ _
  unfold b_Press_m_cost b_Press_m_cost_1 b_Press_m_cost_2
  simp (implicitDefEqProofs := false) (maxSteps := 3000000) [sh_ok hn, fl_start, fl_price, m1, m2, f]
  rfl
theorem cs_b {r : R4} {n : Int} (hn : n < 0) : Er f_Press_m_cost [prsD r, .int n] "sheets" := by
  refine app_ofE ?_
  show wp b_Press_m_cost _ _ _
  unfold b_Press_m_cost b_Press_m_cost_1
  simp (implicitDefEqProofs := false) (maxSteps := 3000000) [sh_b hn]
theorem d60 : divOk 60 = true := divOk_pos ⟨by decide, by decide⟩
def moV (r : R4) (m : Int) : Int := (m - r.1) * r.2.1 / 60
theorem mo_ok {r : R4} {m : Int} (h : Ok r) (hm : 0 ≤ m) : f_Press_m_most_sheets.app [prsD r, .int m] = .ok (if m < r.1 then .non else .int (moV r m)) := by
  have hb := h.b
  have c1 : ¬ m < 0 := by omega
  have m1 : mulOk (m - r.1) r.2.1 = true := mr (by omega)
  have e : ∀ x : Int, x.fdiv 60 = x / 60 := fun x => Int.fdiv_eq_ediv_of_nonneg _ (by decide)
  refine app_of ?_
  show wp b_Press_m_most_sheets _ _ _
  unfold b_Press_m_most_sheets b_Press_m_most_sheets_1 b_Press_m_most_sheets_2 b_Press_m_most_sheets_3
  by_cases c : m < r.1
  · simp (implicitDefEqProofs := false) (maxSteps := 3000000) [c1, fl_ready, fl_speed, c]
  · simp (implicitDefEqProofs := false) (maxSteps := 3000000) [c1, fl_ready, fl_speed, c, m1, d60, e]
    rfl
theorem mo_b {r : R4} {m : Int} (hm : m < 0) : Er f_Press_m_most_sheets [prsD r, .int m] "minutes" := by
  refine app_ofE ?_
  show wp b_Press_m_most_sheets _ _ _
  unfold b_Press_m_most_sheets b_Press_m_most_sheets_1
  simp (implicitDefEqProofs := false) (maxSteps := 3000000) [hm, okr]
theorem cents_ok {r : R4} {n : Int} (h : Ok r) : f__law_cents.app [rowD r, .int n] = .ok (.int (csV r n)) := by
  have hd := h.d
  have m1 : mulOk 1000 r.2.2.1 = true := ml (by decide)
  have m2 : mulOk r.2.2.2 n = true := ml (by omega)
  have i2 : ∀ P : D × Bool → Prop, opt (opIx (rowD r) (.int 2)) P = P (.int r.2.2.1, false) := fun P => rfl
  have i3 : ∀ P : D × Bool → Prop, opt (opIx (rowD r) (.int 3)) P = P (.int r.2.2.2, false) := fun P => rfl
  refine app_of ?_
  show wp b__law_cents _ _ _
  unfold b__law_cents
  simp (implicitDefEqProofs := false) (maxSteps := 3000000) [i2, i3, m1, m2]
  rfl
end K40

namespace K40
open PySem L2 DL

def ixm (gs : List Int) (m : Int) : Nat := gs.findIdx fun z => decide (z = m)
theorem index_min {g : Int} {gs : List Int} {P : D × Bool → Prop} : opt (opIndex (intsD (g :: gs)) [.int (gs.foldl minI g)]) P = P (.int (ixm (g :: gs) (gs.foldl minI g)), false) := by
  have hm : gs.foldl minI g ∈ g :: gs := (fold_min gs g).1
  have hl : ixm (g :: gs) (gs.foldl minI g) < (g :: gs).length := List.findIdx_lt_length_of_exists ⟨_, hm, by simp⟩
  refine index_ints (j := ixm (g :: gs) (gs.foldl minI g)) ?_ fun k hk => ?_
  · rw [List.getElem?_eq_getElem hl]
    have := List.findIdx_getElem (xs := g :: gs) (p := fun z => decide (z = gs.foldl minI g)) (w := hl)
    rw [decide_eq_true_eq] at this
    exact congrArg some this
  · have hk2 : k < (g :: gs).length := by omega
    have := List.not_of_lt_findIdx (p := fun z => decide (z = gs.foldl minI g)) (xs := g :: gs) (i := k) hk
    rw [List.getElem?_eq_getElem hk2]
    intro e
    rw [Option.some.inj e] at this
    simp at this
def chV (n : Int) : List R4 → Nat
  | [] => 0
  | r :: l => ixm ((r :: l).map fun r => csV r n) ((l.map fun r => csV r n).foldl minI (csV r n))
theorem ch_ok {r : R4} {l : List R4} {n : Int} (h : ∀ q ∈ r :: l, Ok q) (hn : 0 ≤ n) (hl : l.length ≤ 1000) : f_cheapest.app [.lst ((r :: l).map prsD), .int n] = .ok (.int (chV n (r :: l))) := by
  refine app_of ?_
  show wp b_cheapest _ _ _
  unfold b_cheapest
  refine wp_step (I := fun ρ => ρ = [.val (.lst ((r :: l).map prsD)), .val (.int n), .un, .un]) (by unfold b_cheapest_1; simp (implicitDefEqProofs := false) (maxSteps := 3000000)) ?_
  rintro ρ rfl
  refine wp_step (I := fun ρ => ρ = [.val (.lst ((r :: l).map prsD)), .val (.int n), .un, .un]) (by unfold b_cheapest_2; simp (implicitDefEqProofs := false) (maxSteps := 3000000) [sh_ok hn]) ?_
  rintro ρ rfl
  refine wp_step (I := fun ρ => ρ = [.val (.lst ((r :: l).map prsD)), .val (.int n), .own (intsD ((r :: l).map fun r => csV r n)), .un]) ?_ ?_
  · unfold b_cheapest_3
    rw [wp_mSet]
    refine wp_lcF (own := [3]) (xs := r :: l) (e := prsD) (c := fun _ => true) (f := fun q => D.int (csV q n)) (ρ0 := [.val (.lst ((r :: l).map prsD)), .val (.int n), .un, .un]) (by simp (implicitDefEqProofs := false) (maxSteps := 3000000)) (by rw [sizeLine_eq, List.length_cons]; omega) rfl rfl (fun q hq => ?_) rfl ?_
    · have hd := (h q hq).d
      have m1 : mulOk 1000 q.2.2.1 = true := ml (by decide)
      have m2 : mulOk q.2.2.2 n = true := ml (by omega)
      simp (implicitDefEqProofs := false) (maxSteps := 3000000) [mYes, wipeE, fl_start, fl_price, m1, m2]
      rfl
    · rw [List.filter_eq_self.mpr fun _ _ => rfl]
      simp (implicitDefEqProofs := false) (maxSteps := 3000000) [intsD]
  rintro ρ rfl
  unfold b_cheapest_4
  rw [List.map_cons (f := fun r => csV r n)]
  simp (implicitDefEqProofs := false) (maxSteps := 3000000) [opMin_ints]
  rw [index_min]
  rfl
theorem ch_b1 {n : D} : Er f_cheapest [.lst [], n] "presses" := by
  refine app_ofE ?_
  show wp b_cheapest _ _ _
  unfold b_cheapest b_cheapest_1
  simp (implicitDefEqProofs := false) (maxSteps := 3000000) [okr]
theorem ch_b2 {r : R4} {l : List R4} {n : Int} (hn : n < 0) : Er f_cheapest [.lst ((r :: l).map prsD), .int n] "sheets" := by
  refine app_ofE ?_
  show wp b_cheapest _ _ _
  unfold b_cheapest b_cheapest_1 b_cheapest_2
  simp (implicitDefEqProofs := false) (maxSteps := 3000000) [sh_b hn]
def gap (r s : R4) : Int := 1000 * (s.2.2.1 - r.2.2.1)
def gain (r s : R4) : Int := r.2.2.2 - s.2.2.2
def evV (r s : R4) : Option Int := if gain r s < 0 ∨ gain r s = 0 ∧ 0 < gap r s then none else if gap r s ≤ 0 then some 0 else some (-((-gap r s) / gain r s))
def opD : Option Int → D
  | none => .non
  | some i => .int i
theorem ev_ok {r s : R4} (hr : Ok r) (hs : Ok s) : f_even_count.app [prsD r, prsD s] = .ok (opD (evV r s)) := by
  have h1 := hr.d
  have h2 := hs.d
  have m1 : ∀ x : Int, mulOk 1000 x = true := fun x => ml (by decide)
  refine app_of ?_
  show wp b_even_count _ _ _
  unfold b_even_count b_even_count_1 b_even_count_2 b_even_count_3 b_even_count_4 b_even_count_5 evV
  have e1 : 1000 * (s.2.2.1 - r.2.2.1) = gap r s := rfl
  have e2 : r.2.2.2 - s.2.2.2 = gain r s := rfl
  have hg : gain r s ≤ 900 := by unfold gain; omega
  generalize gap r s = a at *
  generalize gain r s = b at *
  by_cases c1 : b < 0
  · simp (implicitDefEqProofs := false) (maxSteps := 3000000) [fl_start, fl_price, m1, e1, e2, c1, opD]
  · by_cases c2 : b = 0
    · by_cases c3 : 0 < a
      · simp (implicitDefEqProofs := false) (maxSteps := 3000000) [fl_start, fl_price, m1, e1, e2, c1, c2, c3, opD]
      · have c4 : a ≤ 0 := by omega
        simp (implicitDefEqProofs := false) (maxSteps := 3000000) [fl_start, fl_price, m1, e1, e2, c1, c2, c3, c4, opD]
    · by_cases c4 : a ≤ 0
      · simp (implicitDefEqProofs := false) (maxSteps := 3000000) [fl_start, fl_price, m1, e1, e2, c1, c2, c4, opD]
      · have dv : divOk b = true := divOk_pos ⟨by omega, by
          have : (2000 : Int) < 2 ^ 1000 := by decide
          omega⟩
        have e : (-a).fdiv b = -a / b := Int.fdiv_eq_ediv_of_nonneg _ (by omega)
        simp (implicitDefEqProofs := false) (maxSteps := 3000000) [fl_start, fl_price, m1, e1, e2, c1, c2, c4, dv, e, opD]
/-- what the law asks of it -/
theorem ev_none {r s : R4} (hr : Ok r) (hs : Ok s) : csV r 1000000000 < csV s 1000000000 ↔ evV r s = none := by
  have h1 := hr.c
  have h2 := hs.c
  have h3 := hr.d
  have h4 := hs.d
  unfold csV evV gain gap
  constructor
  · intro h
    rw [if_pos]
    omega
  · intro h
    split at h
    · omega
    · split at h <;> cases h
theorem ev_some {r s : R4} {v : Int} (hr : Ok r) (hs : Ok s) (e : evV r s = some v) : 0 ≤ v ∧ ¬ csV r v < csV s v ∧ (0 < v → ¬ csV s (v - 1) ≤ csV r (v - 1)) ∧ ∀ t : Int, 0 ≤ t → t < 90 → ¬ csV r (v + 90) + 90 * r.2.2.2 < csV s (v + t) := by
  have h1 := hr.c
  have h2 := hs.c
  have h3 := hr.d
  have h4 := hs.d
  obtain ⟨v0, v1, v2, v3⟩ : 0 ≤ v ∧ gap r s ≤ gain r s * v ∧ (0 < v → gain r s * (v - 1) < gap r s) ∧ 0 ≤ gain r s := by
    unfold evV at e
    split at e
    · cases e
    · rename_i c
      split at e
      · cases e
        exact ⟨Int.le_refl _, by rw [Int.mul_zero]; assumption, fun z => absurd z (by decide), by omega⟩
      · cases e
        have hb : 0 < gain r s := by omega
        have q1 := Int.emod_add_mul_ediv (-gap r s) (gain r s)
        have q2 := Int.emod_nonneg (-gap r s) (show gain r s ≠ 0 by omega)
        have q3 := Int.emod_lt_of_pos (-gap r s) hb
        have q4 : -gap r s / gain r s ≤ 0 := by
          have := Int.ediv_le_ediv hb (show -gap r s ≤ 0 by omega)
          rwa [Int.zero_ediv] at this
        generalize -gap r s / gain r s = t at *
        refine ⟨by omega, ?_, fun _ => ?_, by omega⟩
        · rw [Int.mul_neg]; omega
        · rw [Int.mul_sub, Int.mul_neg, Int.mul_one]; omega
  have k : ∀ n : Int, csV s n = csV r n + gap r s - gain r s * n := fun n => by
    unfold csV gap gain
    grind
  refine ⟨v0, ?_, fun z => ?_, fun t t0 t1 => ?_⟩
  · rw [k]; omega
  · rw [k]
    have := v2 z
    omega
  · rw [k]
    have a1 : gain r s * (v + t) = gain r s * v + gain r s * t := Int.mul_add _ _ _
    have a2 : 0 ≤ gain r s * t := Int.mul_nonneg v3 t0
    have a3 : csV r (v + 90) = csV r (v + t) + r.2.2.2 * (90 - t) := by unfold csV; grind
    have a4 : 0 ≤ r.2.2.2 * (90 - t) := Int.mul_nonneg h3.1 (by omega)
    omega
/-- the most sheets -/
theorem mo_fit {r : R4} {m : Int} (h : Ok r) (hm : ¬ m < r.1) : 0 ≤ moV r m ∧ ¬ m * (mnV r (moV r m)).2 < (mnV r (moV r m)).1 ∧ ¬ (mnV r (moV r m + 1)).1 ≤ m * (mnV r (moV r m + 1)).2 := by
  have hb := h.b
  have ha := h.a
  have q1 := Int.emod_add_mul_ediv ((m - r.1) * r.2.1) 60
  have q2 := Int.emod_nonneg ((m - r.1) * r.2.1) (show (60 : Int) ≠ 0 by decide)
  have q3 := Int.emod_lt_of_pos ((m - r.1) * r.2.1) (show (0 : Int) < 60 by decide)
  have hx : 0 ≤ (m - r.1) * r.2.1 := Int.mul_nonneg (by omega) (by omega)
  have ex : (m - r.1) * r.2.1 = m * r.2.1 - r.1 * r.2.1 := Int.sub_mul _ _ _
  have key : ∀ a b : Int, 0 < b → ((fz a b).1 ≤ m * (fz a b).2 ↔ a ≤ m * b) := fun a b hb => by
    have g := gn_pos (a := a) hb
    have e1 := fz_1 a b
    have e2 := fz_2 a b
    have e3 : m * b = gn a b * (m * (fz a b).2) := by
      calc m * b = m * (gn a b * (fz a b).2) := by rw [e2]
        _ = gn a b * (m * (fz a b).2) := by rw [← Int.mul_assoc, Int.mul_comm m, Int.mul_assoc]
    have e4 : a = gn a b * (fz a b).1 := e1.symm
    constructor
    · intro w
      rw [e3]
      calc a = gn a b * (fz a b).1 := e4
        _ ≤ gn a b * (m * (fz a b).2) := Int.mul_le_mul_of_nonneg_left w (by omega)
    · intro w
      rw [e3] at w
      refine Int.le_of_mul_le_mul_left (a := gn a b) ?_ g
      calc gn a b * (fz a b).1 = a := e1
        _ ≤ _ := w
  unfold mnV
  have hv : moV r m = (m - r.1) * r.2.1 / 60 := rfl
  refine ⟨by rw [hv]; exact Int.ediv_nonneg hx (by decide), ?_, ?_⟩
  · rw [Int.not_lt, key _ _ (by omega), hv]
    omega
  · rw [key _ _ (by omega), hv]
    omega
end K40

namespace K40
open PySem L2 DL

def nbd (k : Nat) (n : Int) : Prop := 0 ≤ n ∧ n < 2 ^ (20 * (k + 1))
theorem nbd_step {k : Nat} {n : Int} {x : Nat} (h : nbd k n) (hx : (x : Int) < 1000003) : nbd (k + 1) (n * 1000003 + x) := by
  unfold nbd at *
  have e : (2 : Int) ^ (20 * (k + 1 + 1)) = 2 ^ (20 * (k + 1)) * 1048576 := by
    rw [show 20 * (k + 1 + 1) = 20 * (k + 1) + 20 by omega, Int.pow_add]
    rfl
  rw [e]
  generalize (2 : Int) ^ (20 * (k + 1)) = P at *
  omega
theorem nbd_sm {k : Nat} {n : Int} (h : nbd k n) (hk : k ≤ 4) : sm n 100 := by
  obtain ⟨h1, h2⟩ := h
  have e : ((2 ^ (20 * (k + 1)) : Nat) : Int) = 2 ^ (20 * (k + 1)) := by norm_cast
  exact sm_mono (sm_lit (k := 20 * (k + 1)) (by omega)) (by omega)
theorem number_draw {ds : List Int} {P : D × D → Prop} (h : ∀ (n : Int) (ds' : List Int), sm n 102 → P (.int n, deckD ds')) : opt (f__law_number.app1 (deckD ds) []) P := by
  unfold f__law_number
  refine app1_of ?_
  unfold b__law_number
  refine wp_step (I := fun ρ => ∃ (ds' : List Int) (k : Nat), ρ = [.io (deckD ds'), .val (.int k), .un, .un]) ?_ ?_
  · unfold b__law_number_1
    simp (implicitDefEqProofs := false) (maxSteps := 3000000)
    refine wp_takeN rfl rfl (by decide) fun x ds1 h1 => ?_
    simp (implicitDefEqProofs := false) (maxSteps := 3000000)
    first | exact ⟨ds1, x, rfl, rfl⟩ | exact ⟨⟨ds1, rfl⟩, x, rfl⟩
  rintro ρ ⟨ds1, k, rfl⟩
  by_cases c : (k : Int) < 4
  · unfold b__law_number_2
    simp (implicitDefEqProofs := false) (maxSteps := 3000000) [c]
    refine wp_takeN rfl rfl (by decide) fun x ds2 h1 => ?_
    simp (implicitDefEqProofs := false) (maxSteps := 3000000)
    exact h _ _ (sm_lit (by omega))
  · have c2 : 4 ≤ (k : Int) := by omega
    refine wp_step (I := fun ρ => ρ = [.io (deckD ds1), .val (.int k), .un, .un]) (by unfold b__law_number_2; simp (implicitDefEqProofs := false) (maxSteps := 3000000) [c, c2]) ?_
    rintro ρ rfl
    refine wp_step (I := fun ρ => ∃ (ds' : List Int) (n : Int), ρ = [.io (deckD ds'), .val (.int k), .val (.int n), .un] ∧ nbd 0 n) ?_ ?_
    · unfold b__law_number_3
      simp (implicitDefEqProofs := false) (maxSteps := 3000000)
      refine wp_takeN rfl rfl (by decide) fun x ds2 h1 => ?_
      simp (implicitDefEqProofs := false) (maxSteps := 3000000)
      exact ⟨ds2, x, ⟨rfl, rfl⟩, by unfold nbd; omega⟩
    rintro ρ ⟨ds2, n, rfl, hn⟩
    refine wp_step (I := fun ρ => ∃ (ds' : List Int) (n : Int), ρ = [.io (deckD ds'), .val (.int k), .val (.int n), .un] ∧ sm n 100) ?_ ?_
    · unfold b__law_number_4
      simp (implicitDefEqProofs := false) (maxSteps := 3000000)
      refine wp_takeN rfl rfl (by decide) fun x ds3 h1 => ?_
      simp (implicitDefEqProofs := false) (maxSteps := 3000000)
      refine ⟨rng1_of (by omega), ?_⟩
      refine wp_range (I := fun i ρ => ∃ (ds' : List Int) (n : Int), ρ = [.io (deckD ds'), .val (.int k), .val (.int n), .un] ∧ nbd i n) ⟨ds3, n, rfl, hn⟩ ?_ ?_
      · rintro i ρ hi ⟨ds4, m, rfl, hm⟩
        simp (implicitDefEqProofs := false) (maxSteps := 3000000)
        refine ⟨mr (by decide), ?_⟩
        refine wp_takeN rfl rfl (by decide) fun y ds5 h2 => ?_
        simp (implicitDefEqProofs := false) (maxSteps := 3000000)
        exact ⟨ds5, _, ⟨rfl, rfl⟩, nbd_step hm h2⟩
      · rintro ρ ⟨ds4, m, rfl, hm⟩
        simp (implicitDefEqProofs := false) (maxSteps := 3000000)
        exact ⟨ds4, m, ⟨rfl, rfl⟩, nbd_sm hm (by omega)⟩
    rintro ρ ⟨ds3, m, rfl, hm⟩
    unfold b__law_number_5
    simp (implicitDefEqProofs := false) (maxSteps := 3000000)
    refine wp_takeN rfl rfl (by decide) fun x ds4 h1 => ?_
    simp (implicitDefEqProofs := false) (maxSteps := 3000000)
    refine pick_at (by omega) (by simpa using h1) fun d hd => ?_
    simp only [List.mem_cons, List.not_mem_nil, or_false] at hd
    rcases hd with e | e <;> subst e <;> simp (implicitDefEqProofs := false) (maxSteps := 3000000) <;> first | exact ⟨mr (by decide), h _ _ (sm_mono hm (by decide))⟩ | exact ⟨mr (by decide), h _ _ (sm_mono (sm_neg hm) (by decide))⟩ | exact h _ _ (sm_mono hm (by decide)) | exact h _ _ (sm_mono (sm_neg hm) (by decide))
theorem press_draw {ds : List Int} {P : D × D → Prop} (h : ∀ (r : R4) (ds' : List Int), Ok r → P (rowD r, deckD ds')) : opt (f__law_press.app1 (deckD ds) []) P := by
  have ix : ∀ x : Nat, x < 2 → atI ([.int 9, .int 9000] : List D) (x : Int) = some (.int (if x = 0 then 9 else 9000)) := fun x hx => by
    have hc : x = 0 ∨ x = 1 := by omega
    rcases hc with e | e <;> subst e <;> rfl
  have bd : ∀ x : Nat, (0 : Int) < (if x = 0 then 9 else 9000) ∧ (if x = 0 then (9 : Int) else 9000) ≤ 9000 := fun x => by split <;> decide
  have ix2 : ∀ x : Nat, x < 2 → atI ([.int 5, .int 900] : List D) (x : Int) = some (.int (if x = 0 then 5 else 900)) := fun x hx => by
    have hc : x = 0 ∨ x = 1 := by omega
    rcases hc with e | e <;> subst e <;> rfl
  have bd2 : ∀ x : Nat, (0 : Int) < (if x = 0 then 5 else 900) ∧ (if x = 0 then (5 : Int) else 900) ≤ 900 := fun x => by split <;> decide
  unfold f__law_press
  refine app1_of ?_
  unfold b__law_press
  simp (implicitDefEqProofs := false) (maxSteps := 3000000)
  refine wp_takeN rfl rfl (by decide) fun a ds1 h1 => ?_
  simp (implicitDefEqProofs := false) (maxSteps := 3000000)
  refine wp_takeN rfl rfl (by decide) fun x ds2 h2 => ?_
  simp (implicitDefEqProofs := false) (maxSteps := 3000000) [ix x (by omega)]
  have b1 := bd x
  refine wp_takeN rfl rfl b1.1 fun b ds3 h3 => ?_
  simp (implicitDefEqProofs := false) (maxSteps := 3000000)
  refine wp_takeN rfl rfl (by decide) fun c ds4 h4 => ?_
  simp (implicitDefEqProofs := false) (maxSteps := 3000000)
  refine wp_takeN rfl rfl (by decide) fun x2 ds5 h5 => ?_
  simp (implicitDefEqProofs := false) (maxSteps := 3000000) [ix2 x2 (by omega)]
  have b2 := bd2 x2
  refine wp_takeN rfl rfl b2.1 fun d ds6 h6 => ?_
  simp (implicitDefEqProofs := false) (maxSteps := 3000000)
  exact h ((a : Int), 1 + (b : Int), (c : Int), (d : Int)) ds6 ⟨⟨by show (0 : Int) ≤ a; omega, by show (a : Int) < 60; omega⟩, ⟨by show 1 ≤ 1 + (b : Int); omega, by show 1 + (b : Int) ≤ 9000; omega⟩, ⟨by show (0 : Int) ≤ c; omega, by show (c : Int) < 900; omega⟩, by show (0 : Int) ≤ d; omega, by show (d : Int) < 900; omega⟩
theorem last_at (r : R4) (l : List R4) : ∃ s ∈ r :: l, ∀ f : R4 → D, atI ((r :: l).map f) (-1) = some (f s) := by
  have hl : l.length < (r :: l).length := by simp
  refine ⟨(r :: l)[l.length], List.getElem_mem hl, fun f => ?_⟩
  have e : ixN ((r :: l).map f).length (-1) = some l.length := by
    rw [List.length_map, List.length_cons]
    unfold ixN
    rw [if_neg (by decide)]
    rw [if_pos (by omega)]
    congr 1
    omega
  unfold atI
  rw [e]
  show ((r :: l).map f)[l.length]? = _
  rw [List.getElem?_map, List.getElem?_eq_getElem hl]
  rfl
end K40

namespace K40
open PySem L2 DL

structure Rs (r : R4) (l : List R4) : Prop where
  ok : ∀ q ∈ r :: l, Ok q
  len : l.length ≤ 4
theorem Rs.h {r : R4} {l : List R4} (y : Rs r l) : Ok r := y.ok r List.mem_cons_self
theorem law_2 {v : D} {ds : List Int}   : wp b_law_2 [.val v, .own (deckD ds), .un, .un, .un, .un, .un, .un, .un, .un, .un, .un, .un, .un, .un, .un, .un, .un, .un, .un, .un, .un, .un, .un, .un]
    (fun r_ ρ' => r_ = .next ∧ ∃ (ds' : List Int) (r : R4) (l : List R4), ρ' = [.val v, .own (deckD ds'), .own (.lst ((r :: l).map rowD)), .un, .un, .un, .un, .un, .un, .un, .un, .un, .un, .un, .un, .un, .un, .un, .un, .un, .un, .un, .un, .un, .un] ∧ Rs r l) noE := by
  unfold b_law_2
  simp (implicitDefEqProofs := false) (maxSteps := 3000000)
  refine wp_lcS ?_
  simp (implicitDefEqProofs := false) (maxSteps := 3000000)
  refine wp_takeN rfl rfl (by decide) fun x ds1 h1 => ?_
  simp (implicitDefEqProofs := false) (maxSteps := 3000000)
  refine ⟨rng1_of (by omega), ?_⟩
  rw [show rngD 0 (1 + (x : Int)).toNat = (List.range (1 + x)).map fun (i : Nat) => D.int i by rw [show (1 + (x : Int)).toNat = 1 + x by omega, rngD_map]; simp only [Int.zero_add]]
  refine wp_lcD (emb := rowD) (R := Ok) (ρ := fun ds => [.val v, .own (deckD ds), .un, .un, .un, .un, .un, .un, .un, .un, .un, .un, .un, .un, .un, .un, .un, .un, .un, .un, .un, .un, .un, .un, .un]) (fun _ => rfl) rfl (fun _ => rfl) (by rw [sizeLine_eq]; omega) ?_ ?_
  · intro ds i hi
    simp (implicitDefEqProofs := false) (maxSteps := 3000000)
    refine wp_callio (ds := []) rfl rfl (press_draw fun r ds2 hr => ?_)
    simp (implicitDefEqProofs := false) (maxSteps := 3000000)
    exact ⟨ds2, r.1, r.2.1, r.2.2.1, r.2.2.2, rfl, hr, rfl⟩
  · intro ds' xs hx hr
    cases xs with
    | nil => rw [List.length_nil] at hx; omega
    | cons r l =>
      simp (implicitDefEqProofs := false) (maxSteps := 3000000)
      rw [List.length_cons] at hx
      exact ⟨ds', r.1, r.2.1, r.2.2.1, r.2.2.2, l, ⟨rfl, rfl, rfl⟩, hr, by omega⟩
theorem law_3 {v : D} {ds : List Int} {r : R4} {l : List R4} (y : Rs r l) : wp b_law_3 [.val v, .own (deckD ds), .own (.lst ((r :: l).map rowD)), .un, .un, .un, .un, .un, .un, .un, .un, .un, .un, .un, .un, .un, .un, .un, .un, .un, .un, .un, .un, .un, .un]
    (fun r_ ρ' => r_ = .next ∧ ρ' = [.val v, .own (deckD ds), .val (.lst ((r :: l).map rowD)), .un, .own (.lst ((r :: l).map prsD)), .un, .un, .un, .un, .un, .un, .un, .un, .un, .un, .un, .un, .un, .un, .un, .un, .un, .un, .un, .un]) noE := by
  unfold b_law_3
  simp (implicitDefEqProofs := false) (maxSteps := 3000000)
  refine wp_lcF (own := [5]) (xs := r :: l) (e := rowD) (c := fun _ => true) (f := prsD) (ρ0 := [.val v, .own (deckD ds), .val (.lst ((r :: l).map rowD)), .un, .un, .un, .un, .un, .un, .un, .un, .un, .un, .un, .un, .un, .un, .un, .un, .un, .un, .un, .un, .un, .un]) ?_ (by rw [sizeLine_eq, List.length_cons]; have := y.len; omega) rfl rfl (fun q hq => ?_) rfl ?_
  · simp (implicitDefEqProofs := false) (maxSteps := 3000000)
  · have k := mk_ok (y.ok q hq)
    have i0 : ∀ P : D × Bool → Prop, opt (opIx (rowD q) (.int 0)) P = P (.int q.1, false) := fun P => rfl
    have i1 : ∀ P : D × Bool → Prop, opt (opIx (rowD q) (.int 1)) P = P (.int q.2.1, false) := fun P => rfl
    have i2 : ∀ P : D × Bool → Prop, opt (opIx (rowD q) (.int 2)) P = P (.int q.2.2.1, false) := fun P => rfl
    have i3 : ∀ P : D × Bool → Prop, opt (opIx (rowD q) (.int 3)) P = P (.int q.2.2.2, false) := fun P => rfl
    simp (implicitDefEqProofs := false) (maxSteps := 3000000) [mYes, wipeE, i0, i1, i2, i3, k]
  · rw [List.filter_eq_self.mpr fun _ _ => rfl]
    simp (implicitDefEqProofs := false) (maxSteps := 3000000)
theorem law_4 {v : D} {ds : List Int} {r : R4} {l : List R4}  : wp b_law_4 [.val v, .own (deckD ds), .val (.lst ((r :: l).map rowD)), .un, .own (.lst ((r :: l).map prsD)), .un, .un, .un, .un, .un, .un, .un, .un, .un, .un, .un, .un, .un, .un, .un, .un, .un, .un, .un, .un]
    (fun r_ ρ' => r_ = .next ∧ ρ' = [.val v, .own (deckD ds), .val (.lst ((r :: l).map rowD)), .un, .own (.lst ((r :: l).map prsD)), .un, .val (.int r.1), .val (.int r.2.1), .val (.int r.2.2.1), .val (.int r.2.2.2), .un, .un, .un, .un, .un, .un, .un, .un, .un, .un, .un, .un, .un, .un, .un]) noE := by
  unfold b_law_4
  simp (implicitDefEqProofs := false) (maxSteps := 3000000)
  unfold rowD
  simp (implicitDefEqProofs := false) (maxSteps := 3000000)
theorem law_5 {v : D} {ds : List Int} {r : R4} {l : List R4}  : wp b_law_5 [.val v, .own (deckD ds), .val (.lst ((r :: l).map rowD)), .un, .own (.lst ((r :: l).map prsD)), .un, .val (.int r.1), .val (.int r.2.1), .val (.int r.2.2.1), .val (.int r.2.2.2), .un, .un, .un, .un, .un, .un, .un, .un, .un, .un, .un, .un, .un, .un, .un]
    (fun r_ ρ' => r_ = .next ∧ ρ' = [.val v, .own (deckD ds), .val (.lst ((r :: l).map rowD)), .un, .own (.lst ((r :: l).map prsD)), .un, .val (.int r.1), .val (.int r.2.1), .val (.int r.2.2.1), .val (.int r.2.2.2), .val (prsD r), .un, .un, .un, .un, .un, .un, .un, .un, .un, .un, .un, .un, .un, .un]) noE := by
  unfold b_law_5
  simp (implicitDefEqProofs := false) (maxSteps := 3000000)
theorem l4_pok {r : R4} : pOk 8 (.lst [.int r.1, .int r.2.1, .int r.2.2.1, .int r.2.2.2]) := pOk_lst (by simp) fun x hx => by
  simp only [List.mem_cons, List.not_mem_nil, or_false] at hx
  rcases hx with e | e | e | e <;> subst e <;> trivial
theorem l4_dat {r : R4} : Dat 1 (.lst [.int r.1, .int r.2.1, .int r.2.2.1, .int r.2.2.2]) := fun x hx => by
  simp only [List.mem_cons, List.not_mem_nil, or_false] at hx
  rcases hx with e | e | e | e <;> subst e <;> trivial
theorem l2_pok {a b : Fr} : pOk 8 (.lst [DL.prD a, DL.prD b]) := pOk_lst (by simp) fun x hx => by
  simp only [List.mem_cons, List.not_mem_nil, or_false] at hx
  rcases hx with e | e <;> subst e <;> exact prD_pok
theorem l2_dat {a b : Fr} : Dat 2 (.lst [DL.prD a, DL.prD b]) := fun x hx => by
  simp only [List.mem_cons, List.not_mem_nil, or_false] at hx
  rcases hx with e | e <;> subst e <;> exact prD_dat
theorem law_6 {v : D} {ds : List Int} {r : R4} {l : List R4}  : wp b_law_6 [.val v, .own (deckD ds), .val (.lst ((r :: l).map rowD)), .un, .own (.lst ((r :: l).map prsD)), .un, .val (.int r.1), .val (.int r.2.1), .val (.int r.2.2.1), .val (.int r.2.2.2), .val (prsD r), .un, .un, .un, .un, .un, .un, .un, .un, .un, .un, .un, .un, .un, .un]
    (fun r_ ρ' => r_ = .next ∧ ρ' = [.val v, .own (deckD ds), .val (.lst ((r :: l).map rowD)), .un, .own (.lst ((r :: l).map prsD)), .un, .val (.int r.1), .val (.int r.2.1), .val (.int r.2.2.1), .val (.int r.2.2.2), .val (prsD r), .un, .un, .un, .un, .un, .un, .un, .un, .un, .un, .un, .un, .un, .un]) noE := by
  have p1 : (f__law_plain 8).app [.lst [.int r.1, .int r.2.1, .int r.2.2.1, .int r.2.2.2]] = .ok (plainD (.lst [.int r.1, .int r.2.1, .int r.2.2.1, .int r.2.2.2])) := plain_app 8 _ l4_pok
  have n1 : ∀ P : D × Bool → Prop, opt (opNe (plainD (.lst [.int r.1, .int r.2.1, .int r.2.2.1, .int r.2.2.2])) (plainD (.lst [.int r.1, .int r.2.1, .int r.2.2.1, .int r.2.2.2]))) P = P (.bl false, false) := fun P => plain_ne l4_dat (by decide)
  unfold b_law_6
  simp (implicitDefEqProofs := false) (maxSteps := 3000000) [fl_ready, fl_speed, fl_start, fl_price, p1, n1]
theorem law_7 {v : D} {ds : List Int} {r : R4} {l : List R4}  : wp b_law_7 [.val v, .own (deckD ds), .val (.lst ((r :: l).map rowD)), .un, .own (.lst ((r :: l).map prsD)), .un, .val (.int r.1), .val (.int r.2.1), .val (.int r.2.2.1), .val (.int r.2.2.2), .val (prsD r), .un, .un, .un, .un, .un, .un, .un, .un, .un, .un, .un, .un, .un, .un]
    (fun r_ ρ' => r_ = .next ∧ ∃ (ds' : List Int) (n : Int), ρ' = [.val v, .own (deckD ds'), .val (.lst ((r :: l).map rowD)), .un, .own (.lst ((r :: l).map prsD)), .un, .val (.int r.1), .val (.int r.2.1), .val (.int r.2.2.1), .val (.int r.2.2.2), .val (prsD r), .val (.int n), .un, .un, .un, .un, .un, .un, .un, .un, .un, .un, .un, .un, .un] ∧ 0 ≤ n) noE := by
  unfold b_law_7
  simp (implicitDefEqProofs := false) (maxSteps := 3000000)
  refine wp_takeN rfl rfl (by decide) fun a ds1 h1 => ?_
  simp (implicitDefEqProofs := false) (maxSteps := 3000000)
  refine wp_takeN rfl rfl (by decide) fun b ds2 h2 => ?_
  simp (implicitDefEqProofs := false) (maxSteps := 3000000)
  refine wp_callio (ds := []) rfl rfl (number_draw fun c ds3 hc => ?_)
  simp (implicitDefEqProofs := false) (maxSteps := 3000000)
  refine wp_takeN rfl rfl (by decide) fun x ds4 h4 => ?_
  simp (implicitDefEqProofs := false) (maxSteps := 3000000)
  refine pick_at (by omega) (by simpa using h4) fun d hd => ?_
  simp only [List.mem_cons, List.not_mem_nil, or_false] at hd
  rcases hd with e | e | e <;> subst e
  · exact ⟨ds4, (a : Int), ⟨rfl, rfl⟩, by omega⟩
  · exact ⟨ds4, (b : Int), ⟨rfl, rfl⟩, by omega⟩
  · exact ⟨ds4, _, ⟨rfl, rfl⟩, by omega⟩
theorem law_8 {v : D} {ds : List Int} {r : R4} {l : List R4} {n : Int} (y : Rs r l) (hn : 0 ≤ n) : wp b_law_8 [.val v, .own (deckD ds), .val (.lst ((r :: l).map rowD)), .un, .own (.lst ((r :: l).map prsD)), .un, .val (.int r.1), .val (.int r.2.1), .val (.int r.2.2.1), .val (.int r.2.2.2), .val (prsD r), .val (.int n), .un, .un, .un, .un, .un, .un, .un, .un, .un, .un, .un, .un, .un]
    (fun r_ ρ' => r_ = .next ∧ ρ' = [.val v, .own (deckD ds), .val (.lst ((r :: l).map rowD)), .un, .own (.lst ((r :: l).map prsD)), .un, .val (.int r.1), .val (.int r.2.1), .val (.int r.2.2.1), .val (.int r.2.2.2), .val (prsD r), .val (.int n), .own (.lst [DL.prD (mnV r n), DL.prD (fz (csV r n) 1000)]), .un, .un, .un, .un, .un, .un, .un, .un, .un, .un, .un, .un]) noE := by
  have hb := y.h.b
  have f1 := lfrac (a := r.1 * r.2.1 + 60 * n) (b := r.2.1) (by omega) (sm_mono (sm_lit (k := 14) (by omega)) (by decide))
  have f2 := lfrac (a := csV r n) (b := 1000) (by omega) (sm_mono (sm_lit (k := 14) (by omega)) (by decide))
  have m1 : mulOk r.1 r.2.1 = true := mr (by omega)
  have m2 : mulOk 60 n = true := ml (by decide)
  unfold b_law_8
  simp (implicitDefEqProofs := false) (maxSteps := 3000000) [cents_ok y.h, f1, f2, m1, m2]
  rfl
theorem law_9 {v : D} {ds : List Int} {r : R4} {l : List R4} {n : Int} (y : Rs r l) (hn : 0 ≤ n) : wp b_law_9 [.val v, .own (deckD ds), .val (.lst ((r :: l).map rowD)), .un, .own (.lst ((r :: l).map prsD)), .un, .val (.int r.1), .val (.int r.2.1), .val (.int r.2.2.1), .val (.int r.2.2.2), .val (prsD r), .val (.int n), .own (.lst [DL.prD (mnV r n), DL.prD (fz (csV r n) 1000)]), .un, .un, .un, .un, .un, .un, .un, .un, .un, .un, .un, .un]
    (fun r_ ρ' => r_ = .next ∧ ρ' = [.val v, .own (deckD ds), .val (.lst ((r :: l).map rowD)), .un, .own (.lst ((r :: l).map prsD)), .un, .val (.int r.1), .val (.int r.2.1), .val (.int r.2.2.1), .val (.int r.2.2.2), .val (prsD r), .val (.int n), .val (.lst [DL.prD (mnV r n), DL.prD (fz (csV r n) 1000)]), .un, .un, .un, .un, .un, .un, .un, .un, .un, .un, .un, .un]) noE := by
  have p1 : (f__law_plain 8).app [.lst [DL.prD (mnV r n), DL.prD (fz (csV r n) 1000)]] = .ok (plainD (.lst [DL.prD (mnV r n), DL.prD (fz (csV r n) 1000)])) := plain_app 8 _ l2_pok
  have n1 : ∀ P : D × Bool → Prop, opt (opNe (plainD (.lst [DL.prD (mnV r n), DL.prD (fz (csV r n) 1000)])) (plainD (.lst [DL.prD (mnV r n), DL.prD (fz (csV r n) 1000)]))) P = P (.bl false, false) := fun P => plain_ne l2_dat (by decide)
  unfold b_law_9
  simp (implicitDefEqProofs := false) (maxSteps := 3000000) [is_m, mn_ok y.h hn, cs_ok y.h hn, p1, n1]
theorem law_10 {v : D} {ds : List Int} {r : R4} {l : List R4} {n : Int}  : wp b_law_10 [.val v, .own (deckD ds), .val (.lst ((r :: l).map rowD)), .un, .own (.lst ((r :: l).map prsD)), .un, .val (.int r.1), .val (.int r.2.1), .val (.int r.2.2.1), .val (.int r.2.2.2), .val (prsD r), .val (.int n), .val (.lst [DL.prD (mnV r n), DL.prD (fz (csV r n) 1000)]), .un, .un, .un, .un, .un, .un, .un, .un, .un, .un, .un, .un]
    (fun r_ ρ' => r_ = .next ∧ ∃ (ds' : List Int) (m : Int), ρ' = [.val v, .own (deckD ds'), .val (.lst ((r :: l).map rowD)), .un, .own (.lst ((r :: l).map prsD)), .un, .val (.int r.1), .val (.int r.2.1), .val (.int r.2.2.1), .val (.int r.2.2.2), .val (prsD r), .val (.int n), .val (.lst [DL.prD (mnV r n), DL.prD (fz (csV r n) 1000)]), .val (.int m), .un, .un, .un, .un, .un, .un, .un, .un, .un, .un, .un] ∧ 0 ≤ m ∧ m < 300) noE := by
  unfold b_law_10
  simp (implicitDefEqProofs := false) (maxSteps := 3000000)
  refine wp_takeN rfl rfl (by decide) fun a ds1 h1 => ?_
  simp (implicitDefEqProofs := false) (maxSteps := 3000000)
  exact ⟨ds1, (a : Int), ⟨rfl, rfl⟩, by omega, by omega⟩
theorem law_11 {v : D} {ds : List Int} {r : R4} {l : List R4} {n : Int} {m : Int} (y : Rs r l) (hm : 0 ≤ m ∧ m < 300) : wp b_law_11 [.val v, .own (deckD ds), .val (.lst ((r :: l).map rowD)), .un, .own (.lst ((r :: l).map prsD)), .un, .val (.int r.1), .val (.int r.2.1), .val (.int r.2.2.1), .val (.int r.2.2.2), .val (prsD r), .val (.int n), .val (.lst [DL.prD (mnV r n), DL.prD (fz (csV r n) 1000)]), .val (.int m), .un, .un, .un, .un, .un, .un, .un, .un, .un, .un, .un]
    (fun r_ ρ' => r_ = .next ∧ ρ' = [.val v, .own (deckD ds), .val (.lst ((r :: l).map rowD)), .un, .own (.lst ((r :: l).map prsD)), .un, .val (.int r.1), .val (.int r.2.1), .val (.int r.2.2.1), .val (.int r.2.2.2), .val (prsD r), .val (.int n), .val (.lst [DL.prD (mnV r n), DL.prD (fz (csV r n) 1000)]), .val (.int m), .val ((if m < r.1 then D.non else D.int (moV r m))), .un, .un, .un, .un, .un, .un, .un, .un, .un, .un]) noE := by
  unfold b_law_11
  simp (implicitDefEqProofs := false) (maxSteps := 3000000) [is_m, mo_ok y.h hm.1]
theorem law_12 {v : D} {ds : List Int} {r : R4} {l : List R4} {n : Int} {m : Int} (y : Rs r l) (hm : 0 ≤ m ∧ m < 300) : wp b_law_12 [.val v, .own (deckD ds), .val (.lst ((r :: l).map rowD)), .un, .own (.lst ((r :: l).map prsD)), .un, .val (.int r.1), .val (.int r.2.1), .val (.int r.2.2.1), .val (.int r.2.2.2), .val (prsD r), .val (.int n), .val (.lst [DL.prD (mnV r n), DL.prD (fz (csV r n) 1000)]), .val (.int m), .val ((if m < r.1 then D.non else D.int (moV r m))), .un, .un, .un, .un, .un, .un, .un, .un, .un, .un]
    (fun r_ ρ' => r_ = .next ∧ ρ' = [.val v, .own (deckD ds), .val (.lst ((r :: l).map rowD)), .un, .own (.lst ((r :: l).map prsD)), .un, .val (.int r.1), .val (.int r.2.1), .val (.int r.2.2.1), .val (.int r.2.2.2), .val (prsD r), .val (.int n), .val (.lst [DL.prD (mnV r n), DL.prD (fz (csV r n) 1000)]), .val (.int m), .val ((if m < r.1 then D.non else D.int (moV r m))), .un, .un, .un, .un, .un, .un, .un, .un, .un, .un]) noE := by
  unfold b_law_12
  by_cases c : m < r.1
  · simp (implicitDefEqProofs := false) (maxSteps := 3000000) [c]
  · obtain ⟨f0, f1, f2⟩ := mo_fit y.h c
    have k1 := mn_ok y.h f0
    have k2 := mn_ok (n := moV r m + 1) y.h (by omega)
    rw [prD_eq (mnV r (moV r m))] at k1
    rw [prD_eq (mnV r (moV r m + 1))] at k2
    have ms : ∀ x : Int, mulOk m x = true := fun x => ml (by omega)
    have p1 : (f__law_plain 8).app [.int (moV r m)] = .ok (plainD (.int (moV r m))) := plain_app 8 _ trivial
    have n1 : ∀ P : D × Bool → Prop, opt (opNe (plainD (.int (moV r m))) (plainD (.int (moV r m)))) P = P (.bl false, false) := fun P => plain_ne (n := 1) trivial (by decide)
    rw [if_neg c]
    simp (implicitDefEqProofs := false) (maxSteps := 3000000) [c, is_m, k1, k2, ms, p1, n1, f1, f2]
theorem law_13 {v : D} {ds : List Int} {r : R4} {l : List R4} {n : Int} {m : Int} (y : Rs r l) : wp b_law_13 [.val v, .own (deckD ds), .val (.lst ((r :: l).map rowD)), .un, .own (.lst ((r :: l).map prsD)), .un, .val (.int r.1), .val (.int r.2.1), .val (.int r.2.2.1), .val (.int r.2.2.2), .val (prsD r), .val (.int n), .val (.lst [DL.prD (mnV r n), DL.prD (fz (csV r n) 1000)]), .val (.int m), .val ((if m < r.1 then D.non else D.int (moV r m))), .un, .un, .un, .un, .un, .un, .un, .un, .un, .un]
    (fun r_ ρ' => r_ = .next ∧ ρ' = [.val v, .own (deckD ds), .val (.lst ((r :: l).map rowD)), .un, .own (.lst ((r :: l).map prsD)), .un, .val (.int r.1), .val (.int r.2.1), .val (.int r.2.2.1), .val (.int r.2.2.2), .val (prsD r), .val (.int n), .val (.lst [DL.prD (mnV r n), DL.prD (fz (csV r n) 1000)]), .val (.int m), .val ((if m < r.1 then D.non else D.int (moV r m))), .un, .un, .un, .un, .own (intsD ((r :: l).map fun r => csV r n)), .un, .un, .un, .un, .un]) noE := by
  unfold b_law_13
  generalize hM : (if m < r.1 then D.non else D.int (moV r m)) = M
  simp (implicitDefEqProofs := false) (maxSteps := 3000000)
  refine wp_lcF (own := [5]) (xs := r :: l) (e := rowD) (c := fun _ => true) (f := fun q => D.int (csV q n)) (ρ0 := [.val v, .own (deckD ds), .val (.lst ((r :: l).map rowD)), .un, .own (.lst ((r :: l).map prsD)), .un, .val (.int r.1), .val (.int r.2.1), .val (.int r.2.2.1), .val (.int r.2.2.2), .val (prsD r), .val (.int n), .val (.lst [DL.prD (mnV r n), DL.prD (fz (csV r n) 1000)]), .val (.int m), .val (M), .un, .un, .un, .un, .un, .un, .un, .un, .un, .un]) ?_ (by rw [sizeLine_eq, List.length_cons]; have := y.len; omega) rfl rfl (fun q hq => ?_) rfl ?_
  · simp (implicitDefEqProofs := false) (maxSteps := 3000000)
  · have k := cents_ok (n := n) (y.ok q hq)
    simp (implicitDefEqProofs := false) (maxSteps := 3000000) [mYes, wipeE, k]
  · rw [List.filter_eq_self.mpr fun _ _ => rfl]
    simp (implicitDefEqProofs := false) (maxSteps := 3000000) [intsD]
theorem law_14 {v : D} {ds : List Int} {r : R4} {l : List R4} {n : Int} {m : Int} (y : Rs r l) (hn : 0 ≤ n) : wp b_law_14 [.val v, .own (deckD ds), .val (.lst ((r :: l).map rowD)), .un, .own (.lst ((r :: l).map prsD)), .un, .val (.int r.1), .val (.int r.2.1), .val (.int r.2.2.1), .val (.int r.2.2.2), .val (prsD r), .val (.int n), .val (.lst [DL.prD (mnV r n), DL.prD (fz (csV r n) 1000)]), .val (.int m), .val ((if m < r.1 then D.non else D.int (moV r m))), .un, .un, .un, .un, .own (intsD ((r :: l).map fun r => csV r n)), .un, .un, .un, .un, .un]
    (fun r_ ρ' => r_ = .next ∧ ρ' = [.val v, .own (deckD ds), .val (.lst ((r :: l).map rowD)), .un, .val (.lst ((r :: l).map prsD)), .un, .val (.int r.1), .val (.int r.2.1), .val (.int r.2.2.1), .val (.int r.2.2.2), .val (prsD r), .val (.int n), .val (.lst [DL.prD (mnV r n), DL.prD (fz (csV r n) 1000)]), .val (.int m), .val ((if m < r.1 then D.non else D.int (moV r m))), .un, .un, .un, .un, .own (intsD ((r :: l).map fun r => csV r n)), .un, .un, .un, .un, .un]) noE := by
  have k := ch_ok y.ok hn (by have := y.len; omega)
  rw [List.map_cons] at k
  have p1 : (f__law_plain 8).app [.int (chV n (r :: l))] = .ok (plainD (.int (chV n (r :: l)))) := plain_app 8 _ trivial
  have n1 : ∀ P : D × Bool → Prop, opt (opNe (plainD (.int (chV n (r :: l)))) (plainD (.int (chV n (r :: l))))) P = P (.bl false, false) := fun P => plain_ne (n := 1) trivial (by decide)
  generalize hM : (if m < r.1 then D.non else D.int (moV r m)) = M
  have ix : ∀ P : D × Bool → Prop, opt (opIndex (intsD (csV r n :: l.map fun r => csV r n)) [.int ((l.map fun r => csV r n).foldl minI (csV r n))]) P = P (.int (chV n (r :: l)), false) := fun P => index_min
  unfold b_law_14
  rw [List.map_cons (f := fun r => csV r n)]
  simp (implicitDefEqProofs := false) (maxSteps := 3000000) [k, p1, n1, opMin_ints, ix]
theorem law_15 {v : D} {ds : List Int} {r : R4} {l : List R4} {n : Int} {m : Int}  : wp b_law_15 [.val v, .own (deckD ds), .val (.lst ((r :: l).map rowD)), .un, .val (.lst ((r :: l).map prsD)), .un, .val (.int r.1), .val (.int r.2.1), .val (.int r.2.2.1), .val (.int r.2.2.2), .val (prsD r), .val (.int n), .val (.lst [DL.prD (mnV r n), DL.prD (fz (csV r n) 1000)]), .val (.int m), .val ((if m < r.1 then D.non else D.int (moV r m))), .un, .un, .un, .un, .own (intsD ((r :: l).map fun r => csV r n)), .un, .un, .un, .un, .un]
    (fun r_ ρ' => r_ = .next ∧ ρ' = [.val v, .own (deckD ds), .val (.lst ((r :: l).map rowD)), .un, .val (.lst ((r :: l).map prsD)), .un, .val (.int r.1), .val (.int r.2.1), .val (.int r.2.2.1), .val (.int r.2.2.2), .val (prsD r), .val (.int n), .val (.lst [DL.prD (mnV r n), DL.prD (fz (csV r n) 1000)]), .val (.int m), .val ((if m < r.1 then D.non else D.int (moV r m))), .un, .un, .un, .un, .own (intsD ((r :: l).map fun r => csV r n)), .val (rowD r), .un, .un, .un, .un]) noE := by
  generalize hM : (if m < r.1 then D.non else D.int (moV r m)) = M
  unfold b_law_15
  simp (implicitDefEqProofs := false) (maxSteps := 3000000)
theorem law_16 {v : D} {ds : List Int} {r : R4} {l : List R4} {n : Int} {m : Int} {s : R4} (hs : ∀ f : R4 → D, atI ((r :: l).map f) (-1) = some (f s)) : wp b_law_16 [.val v, .own (deckD ds), .val (.lst ((r :: l).map rowD)), .un, .val (.lst ((r :: l).map prsD)), .un, .val (.int r.1), .val (.int r.2.1), .val (.int r.2.2.1), .val (.int r.2.2.2), .val (prsD r), .val (.int n), .val (.lst [DL.prD (mnV r n), DL.prD (fz (csV r n) 1000)]), .val (.int m), .val ((if m < r.1 then D.non else D.int (moV r m))), .un, .un, .un, .un, .own (intsD ((r :: l).map fun r => csV r n)), .val (rowD r), .un, .un, .un, .un]
    (fun r_ ρ' => r_ = .next ∧ ρ' = [.val v, .own (deckD ds), .val (.lst ((r :: l).map rowD)), .un, .val (.lst ((r :: l).map prsD)), .un, .val (.int r.1), .val (.int r.2.1), .val (.int r.2.2.1), .val (.int r.2.2.2), .val (prsD r), .val (.int n), .val (.lst [DL.prD (mnV r n), DL.prD (fz (csV r n) 1000)]), .val (.int m), .val ((if m < r.1 then D.non else D.int (moV r m))), .un, .un, .un, .un, .own (intsD ((r :: l).map fun r => csV r n)), .val (rowD r), .val (rowD s), .un, .un, .un]) noE := by
  generalize hM : (if m < r.1 then D.non else D.int (moV r m)) = M
  have h1 := hs rowD
  generalize (r :: l).map rowD = A at *
  unfold b_law_16
  simp (implicitDefEqProofs := false) (maxSteps := 3000000) [h1]
theorem law_17 {v : D} {ds : List Int} {r : R4} {l : List R4} {n : Int} {m : Int} {s : R4} (hr : Ok r) (ho : Ok s) (hs : ∀ f : R4 → D, atI ((r :: l).map f) (-1) = some (f s)) : wp b_law_17 [.val v, .own (deckD ds), .val (.lst ((r :: l).map rowD)), .un, .val (.lst ((r :: l).map prsD)), .un, .val (.int r.1), .val (.int r.2.1), .val (.int r.2.2.1), .val (.int r.2.2.2), .val (prsD r), .val (.int n), .val (.lst [DL.prD (mnV r n), DL.prD (fz (csV r n) 1000)]), .val (.int m), .val ((if m < r.1 then D.non else D.int (moV r m))), .un, .un, .un, .un, .own (intsD ((r :: l).map fun r => csV r n)), .val (rowD r), .val (rowD s), .un, .un, .un]
    (fun r_ ρ' => r_ = .next ∧ ρ' = [.val v, .own (deckD ds), .val (.lst ((r :: l).map rowD)), .un, .val (.lst ((r :: l).map prsD)), .un, .val (.int r.1), .val (.int r.2.1), .val (.int r.2.2.1), .val (.int r.2.2.2), .val (prsD r), .val (.int n), .val (.lst [DL.prD (mnV r n), DL.prD (fz (csV r n) 1000)]), .val (.int m), .val ((if m < r.1 then D.non else D.int (moV r m))), .un, .un, .un, .un, .own (intsD ((r :: l).map fun r => csV r n)), .val (rowD r), .val (rowD s), .val (opD (evV r s)), .un, .un]) noE := by
  generalize hM : (if m < r.1 then D.non else D.int (moV r m)) = M
  have h1 := hs prsD
  have h0 : ((r :: l).map prsD)[0]? = some (prsD r) := rfl
  have k := ev_ok hr ho
  generalize (r :: l).map prsD = A at *
  unfold b_law_17
  simp (implicitDefEqProofs := false) (maxSteps := 3000000) [h0, h1, k]
theorem law_18 {v : D} {ds : List Int} {r : R4} {l : List R4} {n : Int} {m : Int} {s : R4}  : wp b_law_18 [.val v, .own (deckD ds), .val (.lst ((r :: l).map rowD)), .un, .val (.lst ((r :: l).map prsD)), .un, .val (.int r.1), .val (.int r.2.1), .val (.int r.2.2.1), .val (.int r.2.2.2), .val (prsD r), .val (.int n), .val (.lst [DL.prD (mnV r n), DL.prD (fz (csV r n) 1000)]), .val (.int m), .val ((if m < r.1 then D.non else D.int (moV r m))), .un, .un, .un, .un, .own (intsD ((r :: l).map fun r => csV r n)), .val (rowD r), .val (rowD s), .val (opD (evV r s)), .un, .un]
    (fun r_ ρ' => r_ = .next ∧ ρ' = [.val v, .own (deckD ds), .val (.lst ((r :: l).map rowD)), .un, .val (.lst ((r :: l).map prsD)), .un, .val (.int r.1), .val (.int r.2.1), .val (.int r.2.2.1), .val (.int r.2.2.2), .val (prsD r), .val (.int n), .val (.lst [DL.prD (mnV r n), DL.prD (fz (csV r n) 1000)]), .val (.int m), .val ((if m < r.1 then D.non else D.int (moV r m))), .un, .un, .un, .un, .own (intsD ((r :: l).map fun r => csV r n)), .val (rowD r), .val (rowD s), .val (opD (evV r s)), .val (.int 1000000000), .un]) noE := by
  generalize hM : (if m < r.1 then D.non else D.int (moV r m)) = M
  have p : powOk 10 9 = true := by decide +kernel
  unfold b_law_18
  simp (implicitDefEqProofs := false) (maxSteps := 3000000) [p]
theorem law_19 {v : D} {ds : List Int} {r : R4} {l : List R4} {n : Int} {m : Int} {s : R4} (hr : Ok r) (ho : Ok s) : wp b_law_19 [.val v, .own (deckD ds), .val (.lst ((r :: l).map rowD)), .un, .val (.lst ((r :: l).map prsD)), .un, .val (.int r.1), .val (.int r.2.1), .val (.int r.2.2.1), .val (.int r.2.2.2), .val (prsD r), .val (.int n), .val (.lst [DL.prD (mnV r n), DL.prD (fz (csV r n) 1000)]), .val (.int m), .val ((if m < r.1 then D.non else D.int (moV r m))), .un, .un, .un, .un, .own (intsD ((r :: l).map fun r => csV r n)), .val (rowD r), .val (rowD s), .val (opD (evV r s)), .val (.int 1000000000), .un] (fun r' ρ' => r' = .next ∧ ∃ ds' : List Int, ρ' = [.val v, .own (deckD ds'), .val (.lst ((r :: l).map rowD)), .un, .val (.lst ((r :: l).map prsD)), .un, .val (.int r.1), .val (.int r.2.1), .val (.int r.2.2.1), .val (.int r.2.2.2), .val (prsD r), .val (.int n), .val (.lst [DL.prD (mnV r n), DL.prD (fz (csV r n) 1000)]), .val (.int m), .val ((if m < r.1 then D.non else D.int (moV r m))), .un, .un, .un, .un, .own (intsD ((r :: l).map fun r => csV r n)), .val (rowD r), .val (rowD s), .val (opD (evV r s)), .val (.int 1000000000), .un]) noE := by
  generalize hM : (if m < r.1 then D.non else D.int (moV r m)) = M
  have c1 := fun n => cents_ok (n := n) hr
  have c2 := fun n => cents_ok (n := n) ho
  have nn := ev_none hr ho
  unfold b_law_19
  cases e : evV r s with
  | none =>
    have q := nn.mpr e
    simp (implicitDefEqProofs := false) (maxSteps := 3000000) [c1, c2, q, opD]
    exact ⟨_, rfl⟩
  | some w =>
    have q : ¬ csV r 1000000000 < csV s 1000000000 := fun z => by rw [nn.mp z] at e; cases e
    obtain ⟨w0, w1, w2, w3⟩ := ev_some hr ho e
    have w0' : ¬ w < 0 := by omega
    have i3 : ∀ P : D × Bool → Prop, opt (opIx (rowD r) (.int 3)) P = P (.int r.2.2.2, false) := fun P => rfl
    have ms : ∀ x : Int, mulOk 90 x = true := fun x => ml (by decide)
    have p1 : (f__law_plain 8).app [.int w] = .ok (plainD (.int w)) := plain_app 8 _ trivial
    have n1 : ∀ P : D × Bool → Prop, opt (opNe (plainD (.int w)) (plainD (.int w))) P = P (.bl false, false) := fun P => plain_ne (n := 1) trivial (by decide)
    by_cases z : 0 < w
    · simp (implicitDefEqProofs := false) (maxSteps := 3000000) [c1, c2, q, opD, p1, n1, w0', w1, z, w2 z]
      refine wp_takeN rfl rfl (by decide) fun t ds1 h1 => ?_
      simp (implicitDefEqProofs := false) (maxSteps := 3000000) [c1, c2, i3, ms, w3 (t : Int) (by omega) (by omega)]
      exact ⟨_, rfl⟩
    · simp (implicitDefEqProofs := false) (maxSteps := 3000000) [c1, c2, q, opD, p1, n1, w0', w1, z]
      refine wp_takeN rfl rfl (by decide) fun t ds1 h1 => ?_
      simp (implicitDefEqProofs := false) (maxSteps := 3000000) [c1, c2, i3, ms, w3 (t : Int) (by omega) (by omega)]
      exact ⟨_, rfl⟩
theorem why_0 {a b c d : Int} {x : D} {z : Str} (h : f_Press_m___init__.make "Press" [.int a, .int b, .int c, .int d] = .err "InvalidRun" [("what", .str z)]) : f__law_why.app [.int 0, .tup [.int a, .int b, .int c, .int d], x] = .ok (.str z) := by
  refine app_of ?_
  unfold b__law_why b__law_why_1
  simp (implicitDefEqProofs := false) (maxSteps := 3000000) [wp_mTry, wp_onErr, h, l1, hout]
theorem why_1 {r : R4} {n : Int} {z : Str} (h : Er f_Press_m_minutes [prsD r, .int n] z) : f__law_why.app [.int 1, prsD r, .int n] = .ok (.str z) := by
  refine app_of ?_
  unfold b__law_why b__law_why_1
  simp (implicitDefEqProofs := false) (maxSteps := 3000000) [wp_mTry, wp_onErr, is_m, h, l1, hout]
theorem why_2 {r : R4} {n : Int} {z : Str} (h : Er f_Press_m_cost [prsD r, .int n] z) : f__law_why.app [.int 2, prsD r, .int n] = .ok (.str z) := by
  refine app_of ?_
  unfold b__law_why b__law_why_1
  simp (implicitDefEqProofs := false) (maxSteps := 3000000) [wp_mTry, wp_onErr, is_m, h, l1, hout]
theorem why_3 {r : R4} {n : Int} {z : Str} (h : Er f_Press_m_most_sheets [prsD r, .int n] z) : f__law_why.app [.int 3, prsD r, .int n] = .ok (.str z) := by
  refine app_of ?_
  unfold b__law_why b__law_why_1
  simp (implicitDefEqProofs := false) (maxSteps := 3000000) [wp_mTry, wp_onErr, is_m, h, l1, hout]
theorem why_4 {a b : D} {z : Str} (h : Er f_cheapest [a, b] z) : f__law_why.app [.int 4, a, b] = .ok (.str z) := by
  refine app_of ?_
  unfold b__law_why b__law_why_1
  simp (implicitDefEqProofs := false) (maxSteps := 3000000) [wp_mTry, wp_onErr, h, l1, hout]
theorem law_20 {v : D} {ds : List Int} {r : R4} {l : List R4} {n : Int} {m : Int} {s : R4}  : wp b_law_20 [.val v, .own (deckD ds), .val (.lst ((r :: l).map rowD)), .un, .val (.lst ((r :: l).map prsD)), .un, .val (.int r.1), .val (.int r.2.1), .val (.int r.2.2.1), .val (.int r.2.2.2), .val (prsD r), .val (.int n), .val (.lst [DL.prD (mnV r n), DL.prD (fz (csV r n) 1000)]), .val (.int m), .val ((if m < r.1 then D.non else D.int (moV r m))), .un, .un, .un, .un, .own (intsD ((r :: l).map fun r => csV r n)), .val (rowD r), .val (rowD s), .val (opD (evV r s)), .val (.int 1000000000), .un]
    (fun r_ ρ' => r_ = .next ∧ ρ' = [.val v, .own (deckD ds), .val (.lst ((r :: l).map rowD)), .un, .val (.lst ((r :: l).map prsD)), .un, .val (.int r.1), .val (.int r.2.1), .val (.int r.2.2.1), .val (.int r.2.2.2), .val (prsD r), .val (.int n), .val (.lst [DL.prD (mnV r n), DL.prD (fz (csV r n) 1000)]), .val (.int m), .val ((if m < r.1 then D.non else D.int (moV r m))), .un, .un, .un, .un, .own (intsD ((r :: l).map fun r => csV r n)), .val (rowD r), .val (rowD s), .val (opD (evV r s)), .val (.int 1000000000), .own (.lst [.str "costs", .str "costs", .str "costs", .str "speed"])]) noE := by
  generalize hM : (if m < r.1 then D.non else D.int (moV r m)) = M
  have a1 := why_0 (x := .non) (mk_b1 (a := -1) (b := 0) (c := 0) (d := 0) (by decide))
  have a2 := why_0 (x := .non) (mk_b1 (a := 0) (b := 0) (c := -1) (d := 0) (by decide))
  have a3 := why_0 (x := .non) (mk_b1 (a := 0) (b := 0) (c := 0) (d := -1) (by decide))
  have a4 := why_0 (x := .non) (mk_b2 (a := 0) (b := 0) (c := 0) (d := 0) (by decide) (by decide) (by decide) (by decide))
  generalize evV r s = ev
  unfold b_law_20
  simp (implicitDefEqProofs := false) (maxSteps := 3000000) [a1, a2, a3, a4]
theorem law_21 {v : D} {ds : List Int} {r : R4} {l : List R4} {n : Int} {m : Int} {s : R4}  : wp b_law_21 [.val v, .own (deckD ds), .val (.lst ((r :: l).map rowD)), .un, .val (.lst ((r :: l).map prsD)), .un, .val (.int r.1), .val (.int r.2.1), .val (.int r.2.2.1), .val (.int r.2.2.2), .val (prsD r), .val (.int n), .val (.lst [DL.prD (mnV r n), DL.prD (fz (csV r n) 1000)]), .val (.int m), .val ((if m < r.1 then D.non else D.int (moV r m))), .un, .un, .un, .un, .own (intsD ((r :: l).map fun r => csV r n)), .val (rowD r), .val (rowD s), .val (opD (evV r s)), .val (.int 1000000000), .own (.lst [.str "costs", .str "costs", .str "costs", .str "speed"])]
    (fun r_ ρ' => r_ = .next ∧ ρ' = [.val v, .own (deckD ds), .val (.lst ((r :: l).map rowD)), .un, .val (.lst ((r :: l).map prsD)), .un, .val (.int r.1), .val (.int r.2.1), .val (.int r.2.2.1), .val (.int r.2.2.2), .val (prsD r), .val (.int n), .val (.lst [DL.prD (mnV r n), DL.prD (fz (csV r n) 1000)]), .val (.int m), .val ((if m < r.1 then D.non else D.int (moV r m))), .un, .un, .un, .un, .own (intsD ((r :: l).map fun r => csV r n)), .val (rowD r), .val (rowD s), .val (opD (evV r s)), .val (.int 1000000000), .own (.lst [.str "costs", .str "costs", .str "costs", .str "speed", .str "sheets", .str "sheets", .str "minutes", .str "presses", .str "sheets"])]) noE := by
  generalize hM : (if m < r.1 then D.non else D.int (moV r m)) = M
  have a1 := why_1 (r := r) (n := -1) (mn_b (by decide))
  have a2 := why_2 (r := r) (n := -1) (cs_b (by decide))
  have a3 := why_3 (r := r) (n := -1) (mo_b (by decide))
  have a4 := why_4 (ch_b1 (n := .int (-1)))
  have a5 := why_4 (ch_b2 (r := r) (l := l) (n := -1) (by decide))
  generalize evV r s = ev
  generalize prsD r = pr at a1 a2 a3 ⊢
  generalize (r :: l).map prsD = A at a5 ⊢
  unfold b_law_21
  simp (implicitDefEqProofs := false) (maxSteps := 3000000) [a1, a2, a3, a4, a5]
theorem ans_dat : Dat 1 (.lst [.str "costs", .str "costs", .str "costs", .str "speed", .str "sheets", .str "sheets", .str "minutes", .str "presses", .str "sheets"]) := by
  intro x hx
  have h : PyData.strOk "costs" = true ∧ PyData.strOk "speed" = true ∧ PyData.strOk "sheets" = true ∧ PyData.strOk "minutes" = true ∧ PyData.strOk "presses" = true := by decide +kernel
  simp only [List.mem_cons, List.not_mem_nil, or_false] at hx
  rcases hx with e | e | e | e | e | e | e | e | e <;> subst e
  all_goals first | exact h.1 | exact h.2.1 | exact h.2.2.1 | exact h.2.2.2.1 | exact h.2.2.2.2
theorem law_22 {v : D} {ds : List Int} {r : R4} {l : List R4} {n : Int} {m : Int} {s : R4} : wp b_law_22 [.val v, .own (deckD ds), .val (.lst ((r :: l).map rowD)), .un, .val (.lst ((r :: l).map prsD)), .un, .val (.int r.1), .val (.int r.2.1), .val (.int r.2.2.1), .val (.int r.2.2.2), .val (prsD r), .val (.int n), .val (.lst [DL.prD (mnV r n), DL.prD (fz (csV r n) 1000)]), .val (.int m), .val ((if m < r.1 then D.non else D.int (moV r m))), .un, .un, .un, .un, .own (intsD ((r :: l).map fun r => csV r n)), .val (rowD r), .val (rowD s), .val (opD (evV r s)), .val (.int 1000000000), .own (.lst [.str "costs", .str "costs", .str "costs", .str "speed", .str "sheets", .str "sheets", .str "minutes", .str "presses", .str "sheets"])] (fun r _ => r = .ret (.bl true)) noE := by
  have eqs : ∀ P : D × Bool → Prop, opt (opEq (.lst [.str "costs", .str "costs", .str "costs", .str "speed", .str "sheets", .str "sheets", .str "minutes", .str "presses", .str "sheets"]) (.lst [.str "costs", .str "costs", .str "costs", .str "speed", .str "sheets", .str "sheets", .str "minutes", .str "presses", .str "sheets"])) P = P (.bl true, false) := fun P => eq_self ans_dat (by decide)
  generalize hM : (if m < r.1 then D.non else D.int (moV r m)) = M
  generalize evV r s = ev
  unfold b_law_22
  simp (implicitDefEqProofs := false) (maxSteps := 3000000) [eqs]
theorem plain_law (ns : List Int) (hn : ns.length ≤ 63) : ∃ ρ, f_law [.val (.rol (ns.map D.int))] = .ok (.bl true) ρ := by
  obtain ⟨ds, hd⟩ := deck_app (ns := ns) (cells := 30) (each := 14) (by omega) (by omega)
  refine law_of (n := 25) (body := b_law) ?_
  unfold b_law
  refine wp_step (I := fun ρ => ρ = [.val (.rol (ns.map D.int)), .own (deckD ds), .un, .un, .un, .un, .un, .un, .un, .un, .un, .un, .un, .un, .un, .un, .un, .un, .un, .un, .un, .un, .un, .un, .un]) (by unfold b_law_1; simp (implicitDefEqProofs := false) (maxSteps := 3000000) [hd]) ?_
  intro ρ e
  subst e
  generalize D.rol (ns.map D.int) = v
  refine wp_step law_2 ?_
  rintro ρ ⟨ds1, r, l, rfl, y⟩
  refine wp_step (law_3 y) ?_
  rintro ρ rfl
  refine wp_step (law_4) ?_
  rintro ρ rfl
  refine wp_step (law_5) ?_
  rintro ρ rfl
  refine wp_step (law_6) ?_
  rintro ρ rfl
  refine wp_step (law_7) ?_
  rintro ρ ⟨ds2, n, rfl, hn⟩
  refine wp_step (law_8 y hn) ?_
  rintro ρ rfl
  refine wp_step (law_9 y hn) ?_
  rintro ρ rfl
  refine wp_step (law_10) ?_
  rintro ρ ⟨ds3, m, rfl, hm⟩
  refine wp_step (law_11 y hm) ?_
  rintro ρ rfl
  refine wp_step (law_12 y hm) ?_
  rintro ρ rfl
  refine wp_step (law_13 y) ?_
  rintro ρ rfl
  refine wp_step (law_14 y hn) ?_
  rintro ρ rfl
  refine wp_step (law_15) ?_
  rintro ρ rfl
  obtain ⟨s, hs1, hs⟩ := last_at r l
  have ho := y.ok s hs1
  refine wp_step (law_16 hs) ?_
  rintro ρ rfl
  refine wp_step (law_17 y.h ho hs) ?_
  rintro ρ rfl
  refine wp_step (law_18) ?_
  rintro ρ rfl
  refine wp_step (law_19 y.h ho) ?_
  rintro ρ ⟨ds4, rfl⟩
  refine wp_step (law_20) ?_
  rintro ρ rfl
  refine wp_step (law_21) ?_
  rintro ρ rfl
  exact law_22
end K40

open PySem PySem.W PyProof.Rows
set_option maxHeartbeats 0 in
theorem PySem.Challenge.cw_presswork_k40_presses_holds : PySem.Challenge.rw_presswork_k40_presses.Holds := by
  w_on; o_law; k_head; (case hw => w_witness2)
  k_fill
  refine L2.walk_of (l := PySem.Challenge.rw_presswork_k40_presses) (n := 63) (k := 9) (x := "script") (CX := fun w => L2.CX (PySem.Challenge.rw_presswork_k40_presses).prog w) (sp := fun w => DL.spLaw _) rfl (by decide) rfl ⟨rfl, by decide, by decide⟩ (fun w h Y => PySem.W.kIn_of Y) ?F (fun _ _ a ns hl _ hS => ⟨a, ns, rfl, hS, hl, fun _ _ e => e⟩) (fun _ _ _ _ _ h => DL.cx_no h)
  case F =>
    intro w mg fa h KX G hmg
    refine' K40.all_mk KX G hmg ?hoa_Press ?hopg_Press ?hohd_Press ?hopo_Press ?hosa_Press ?homk_Press ?hokp_Press ?honf_Press_price ?honf_Press_ready ?honf_Press_speed ?honf_Press_start ?ha_Press_m___init__ ?hofn_Press_m___init__ ?hl_Press_m___init__ ?hc_Press_m___init__ ?hk_Press_m___init__ ?ha_check_sheets ?hl_check_sheets ?hc_check_sheets ?hk_check_sheets ?ha_fraction ?hl_fraction ?hc_fraction ?hk_fraction ?ha_Press_m_cost ?hofn_Press_m_cost ?hl_Press_m_cost ?hc_Press_m_cost ?hk_Press_m_cost ?ha_Press_m_minutes ?hofn_Press_m_minutes ?hl_Press_m_minutes ?hc_Press_m_minutes ?hk_Press_m_minutes ?ha_Press_m_most_sheets ?hofn_Press_m_most_sheets ?hl_Press_m_most_sheets ?hc_Press_m_most_sheets ?hk_Press_m_most_sheets ?ha__law_cents ?hl__law_cents ?hc__law_cents ?hk__law_cents ?ha__law_deck ?hl__law_deck ?hc__law_deck ?hk__law_deck ?ha__law_gcd ?hl__law_gcd ?hc__law_gcd ?hk__law_gcd ?ha__law_fraction ?hl__law_fraction ?hc__law_fraction ?hk__law_fraction ?ha__law_take ?hl__law_take ?hc__law_take ?hk__law_take ?ha__law_number ?hl__law_number ?hc__law_number ?hk__law_number ?ha__law_plain ?hl__law_plain ?hc__law_plain ?hk__law_plain ?ha__law_press ?hl__law_press ?hc__law_press ?hk__law_press ?ha_cheapest ?hl_cheapest ?hc_cheapest ?hk_cheapest ?ha__law_why ?hl__law_why ?hc__law_why ?hk__law_why ?ha_even_count ?hl_even_count ?hc_even_count ?hk_even_count ?ha_law ?hl_law ?hc_law ?hk_law ?hz_abs ?hz_bool ?hz_int ?hz_isinstance ?hz_len ?hz_list ?hz_min ?hz_range ?hz_str ?hz_tuple ?him_gcd ?hxa_PressError ?hsp0 ?hrd0 ?hfc0 ?hxa_InvalidLength ?hxL_InvalidLength ?hsa_InvalidLength ?hga_InvalidLength ?hgg_InvalidLength ?hnf_InvalidLength ?hi_InvalidLength ?ht_InvalidLength ?hil_InvalidLength ?hic_InvalidLength ?hik_InvalidLength ?hkC_InvalidLength ?hhd_InvalidLength ?hxa_InvalidItems ?hxL_InvalidItems ?hsa_InvalidItems ?hga_InvalidItems ?hgg_InvalidItems ?hnf_InvalidItems ?hi_InvalidItems ?ht_InvalidItems ?hil_InvalidItems ?hic_InvalidItems ?hik_InvalidItems ?hkC_InvalidItems ?hhd_InvalidItems ?hxa_InvalidRun ?hxL_InvalidRun ?hsa_InvalidRun ?hga_InvalidRun ?hgg_InvalidRun ?hnf_InvalidRun ?hi_InvalidRun ?ht_InvalidRun ?hil_InvalidRun ?hic_InvalidRun ?hik_InvalidRun ?hkC_InvalidRun ?hhd_InvalidRun ?hxa_InvalidColour ?hxL_InvalidColour ?hsa_InvalidColour ?hga_InvalidColour ?hgg_InvalidColour ?hnf_InvalidColour ?hi_InvalidColour ?ht_InvalidColour ?hil_InvalidColour ?hic_InvalidColour ?hik_InvalidColour ?hkC_InvalidColour ?hhd_InvalidColour ?hxa_TooMany ?hxL_TooMany ?hsa_TooMany ?hga_TooMany ?hgg_TooMany ?hnf_TooMany ?hi_TooMany ?ht_TooMany ?hil_TooMany ?hic_TooMany ?hik_TooMany ?hkC_TooMany ?hhd_TooMany ?heC_InvalidLength ?htC_InvalidLength ?his_InvalidLength ?heC_InvalidItems ?htC_InvalidItems ?his_InvalidItems ?heC_InvalidRun ?htC_InvalidRun ?his_InvalidRun ?heC_InvalidColour ?htC_InvalidColour ?his_InvalidColour ?heC_TooMany ?htC_TooMany ?his_TooMany ?heC_PressError ?htC_PressError ?his_PressError ?hcn ?hct ?hca_InvalidLength ?hcm_InvalidLength ?hss_InvalidLength ?hca_InvalidItems ?hcm_InvalidItems ?hca_InvalidRun ?hcm_InvalidRun ?hca_InvalidColour ?hcm_InvalidColour ?hss_InvalidColour ?hca_TooMany ?hcm_TooMany ?hss_TooMany ?hsu_InvalidLength_InvalidItems ?hsu_InvalidItems_InvalidItems ?hsu_InvalidRun_InvalidItems ?hsu_InvalidColour_InvalidItems ?hsu_TooMany_InvalidItems ?hsu_InvalidLength_InvalidRun ?hsu_InvalidItems_InvalidRun ?hsu_InvalidRun_InvalidRun ?hsu_InvalidColour_InvalidRun ?hsu_TooMany_InvalidRun ?hsu_InvalidLength_PressError ?hsu_InvalidItems_PressError ?hsu_InvalidRun_PressError ?hsu_InvalidColour_PressError ?hsu_TooMany_PressError (plain := K40.plain_law)
    (case hoa_Press => first | k_is | rfl)
    (case hopg_Press => first | k_is | rfl)
    (case hohd_Press => first | k_is | rfl)
    (case hopo_Press => first | k_is | rfl)
    (case hosa_Press => first | k_is | rfl)
    (case homk_Press => first | k_is | rfl)
    (case hokp_Press => first | k_is | rfl)
    (case honf_Press_price => first | k_is | rfl)
    (case honf_Press_ready => first | k_is | rfl)
    (case honf_Press_speed => first | k_is | rfl)
    (case honf_Press_start => first | k_is | rfl)
    (case ha_Press_m___init__ => first | k_is | rfl)
    (case hofn_Press_m___init__ => first | k_is | rfl)
    (case hl_Press_m___init__ => first | k_is | rfl)
    (case hc_Press_m___init__ => first | k_is | rfl)
    (case hk_Press_m___init__ => first | k_is | rfl)
    (case ha_check_sheets => first | k_is | rfl)
    (case hl_check_sheets => first | k_is | rfl)
    (case hc_check_sheets => first | k_is | rfl)
    (case hk_check_sheets => first | k_is | rfl)
    (case ha_fraction => first | k_is | rfl)
    (case hl_fraction => first | k_is | rfl)
    (case hc_fraction => first | k_is | rfl)
    (case hk_fraction => first | k_is | rfl)
    (case ha_Press_m_cost => first | k_is | rfl)
    (case hofn_Press_m_cost => first | k_is | rfl)
    (case hl_Press_m_cost => first | k_is | rfl)
    (case hc_Press_m_cost => first | k_is | rfl)
    (case hk_Press_m_cost => first | k_is | rfl)
    (case ha_Press_m_minutes => first | k_is | rfl)
    (case hofn_Press_m_minutes => first | k_is | rfl)
    (case hl_Press_m_minutes => first | k_is | rfl)
    (case hc_Press_m_minutes => first | k_is | rfl)
    (case hk_Press_m_minutes => first | k_is | rfl)
    (case ha_Press_m_most_sheets => first | k_is | rfl)
    (case hofn_Press_m_most_sheets => first | k_is | rfl)
    (case hl_Press_m_most_sheets => first | k_is | rfl)
    (case hc_Press_m_most_sheets => first | k_is | rfl)
    (case hk_Press_m_most_sheets => first | k_is | rfl)
    (case ha__law_cents => first | k_is | rfl)
    (case hl__law_cents => first | k_is | rfl)
    (case hc__law_cents => first | k_is | rfl)
    (case hk__law_cents => first | k_is | rfl)
    (case ha__law_deck => first | k_is | rfl)
    (case hl__law_deck => first | k_is | rfl)
    (case hc__law_deck => first | k_is | rfl)
    (case hk__law_deck => first | k_is | rfl)
    (case ha__law_gcd => first | k_is | rfl)
    (case hl__law_gcd => first | k_is | rfl)
    (case hc__law_gcd => first | k_is | rfl)
    (case hk__law_gcd => first | k_is | rfl)
    (case ha__law_fraction => first | k_is | rfl)
    (case hl__law_fraction => first | k_is | rfl)
    (case hc__law_fraction => first | k_is | rfl)
    (case hk__law_fraction => first | k_is | rfl)
    (case ha__law_take => first | k_is | rfl)
    (case hl__law_take => first | k_is | rfl)
    (case hc__law_take => first | k_is | rfl)
    (case hk__law_take => first | k_is | rfl)
    (case ha__law_number => first | k_is | rfl)
    (case hl__law_number => first | k_is | rfl)
    (case hc__law_number => first | k_is | rfl)
    (case hk__law_number => first | k_is | rfl)
    (case ha__law_plain => first | k_is | rfl)
    (case hl__law_plain => first | k_is | rfl)
    (case hc__law_plain => first | k_is | rfl)
    (case hk__law_plain => first | k_is | rfl)
    (case ha__law_press => first | k_is | rfl)
    (case hl__law_press => first | k_is | rfl)
    (case hc__law_press => first | k_is | rfl)
    (case hk__law_press => first | k_is | rfl)
    (case ha_cheapest => first | k_is | rfl)
    (case hl_cheapest => first | k_is | rfl)
    (case hc_cheapest => first | k_is | rfl)
    (case hk_cheapest => first | k_is | rfl)
    (case ha__law_why => first | k_is | rfl)
    (case hl__law_why => first | k_is | rfl)
    (case hc__law_why => first | k_is | rfl)
    (case hk__law_why => first | k_is | rfl)
    (case ha_even_count => first | k_is | rfl)
    (case hl_even_count => first | k_is | rfl)
    (case hc_even_count => first | k_is | rfl)
    (case hk_even_count => first | k_is | rfl)
    (case ha_law => first | k_is | rfl)
    (case hl_law => first | k_is | rfl)
    (case hc_law => first | k_is | rfl)
    (case hk_law => first | k_is | rfl)
    (case hz_abs => first | k_is | rfl)
    (case hz_bool => first | k_is | rfl)
    (case hz_int => first | k_is | rfl)
    (case hz_isinstance => first | k_is | rfl)
    (case hz_len => first | k_is | rfl)
    (case hz_list => first | k_is | rfl)
    (case hz_min => first | k_is | rfl)
    (case hz_range => first | k_is | rfl)
    (case hz_str => first | k_is | rfl)
    (case hz_tuple => first | k_is | rfl)
    (case him_gcd => first | k_is | rfl)
    (case hxa_PressError => first | k_is | rfl)
    (case hsp0 => first | k_is | rfl)
    (case hrd0 => first | k_is | rfl)
    (case hfc0 => first | k_is | rfl)
    (case hxa_InvalidLength => first | k_is | rfl)
    (case hxL_InvalidLength => first | k_is | rfl)
    (case hsa_InvalidLength => first | k_is | rfl)
    (case hga_InvalidLength => first | k_is | rfl)
    (case hgg_InvalidLength => first | k_is | rfl)
    (case hnf_InvalidLength => first | k_is | rfl)
    (case hi_InvalidLength => first | k_is | rfl)
    (case ht_InvalidLength => first | k_is | rfl)
    (case hil_InvalidLength => first | k_is | rfl)
    (case hic_InvalidLength => first | k_is | rfl)
    (case hik_InvalidLength => first | k_is | rfl)
    (case hkC_InvalidLength => first | k_is | rfl)
    (case hhd_InvalidLength => first | k_is | rfl)
    (case hxa_InvalidItems => first | k_is | rfl)
    (case hxL_InvalidItems => first | k_is | rfl)
    (case hsa_InvalidItems => first | k_is | rfl)
    (case hga_InvalidItems => first | k_is | rfl)
    (case hgg_InvalidItems => first | k_is | rfl)
    (case hnf_InvalidItems => first | k_is | rfl)
    (case hi_InvalidItems => first | k_is | rfl)
    (case ht_InvalidItems => first | k_is | rfl)
    (case hil_InvalidItems => first | k_is | rfl)
    (case hic_InvalidItems => first | k_is | rfl)
    (case hik_InvalidItems => first | k_is | rfl)
    (case hkC_InvalidItems => first | k_is | rfl)
    (case hhd_InvalidItems => first | k_is | rfl)
    (case hxa_InvalidRun => first | k_is | rfl)
    (case hxL_InvalidRun => first | k_is | rfl)
    (case hsa_InvalidRun => first | k_is | rfl)
    (case hga_InvalidRun => first | k_is | rfl)
    (case hgg_InvalidRun => first | k_is | rfl)
    (case hnf_InvalidRun => first | k_is | rfl)
    (case hi_InvalidRun => first | k_is | rfl)
    (case ht_InvalidRun => first | k_is | rfl)
    (case hil_InvalidRun => first | k_is | rfl)
    (case hic_InvalidRun => first | k_is | rfl)
    (case hik_InvalidRun => first | k_is | rfl)
    (case hkC_InvalidRun => first | k_is | rfl)
    (case hhd_InvalidRun => first | k_is | rfl)
    (case hxa_InvalidColour => first | k_is | rfl)
    (case hxL_InvalidColour => first | k_is | rfl)
    (case hsa_InvalidColour => first | k_is | rfl)
    (case hga_InvalidColour => first | k_is | rfl)
    (case hgg_InvalidColour => first | k_is | rfl)
    (case hnf_InvalidColour => first | k_is | rfl)
    (case hi_InvalidColour => first | k_is | rfl)
    (case ht_InvalidColour => first | k_is | rfl)
    (case hil_InvalidColour => first | k_is | rfl)
    (case hic_InvalidColour => first | k_is | rfl)
    (case hik_InvalidColour => first | k_is | rfl)
    (case hkC_InvalidColour => first | k_is | rfl)
    (case hhd_InvalidColour => first | k_is | rfl)
    (case hxa_TooMany => first | k_is | rfl)
    (case hxL_TooMany => first | k_is | rfl)
    (case hsa_TooMany => first | k_is | rfl)
    (case hga_TooMany => first | k_is | rfl)
    (case hgg_TooMany => first | k_is | rfl)
    (case hnf_TooMany => first | k_is | rfl)
    (case hi_TooMany => first | k_is | rfl)
    (case ht_TooMany => first | k_is | rfl)
    (case hil_TooMany => first | k_is | rfl)
    (case hic_TooMany => first | k_is | rfl)
    (case hik_TooMany => first | k_is | rfl)
    (case hkC_TooMany => first | k_is | rfl)
    (case hhd_TooMany => first | k_is | rfl)
    (case heC_InvalidLength => first | k_is | rfl)
    (case htC_InvalidLength => first | k_is | rfl)
    (case his_InvalidLength => first | k_is | rfl)
    (case heC_InvalidItems => first | k_is | rfl)
    (case htC_InvalidItems => first | k_is | rfl)
    (case his_InvalidItems => first | k_is | rfl)
    (case heC_InvalidRun => first | k_is | rfl)
    (case htC_InvalidRun => first | k_is | rfl)
    (case his_InvalidRun => first | k_is | rfl)
    (case heC_InvalidColour => first | k_is | rfl)
    (case htC_InvalidColour => first | k_is | rfl)
    (case his_InvalidColour => first | k_is | rfl)
    (case heC_TooMany => first | k_is | rfl)
    (case htC_TooMany => first | k_is | rfl)
    (case his_TooMany => first | k_is | rfl)
    (case heC_PressError => first | k_is | rfl)
    (case htC_PressError => first | k_is | rfl)
    (case his_PressError => first | k_is | rfl)
    (case hcn => first | k_is | rfl)
    (case hct => first | k_is | rfl)
    (case hca_InvalidLength => first | k_is | rfl)
    (case hcm_InvalidLength => first | k_is | rfl)
    (case hss_InvalidLength => first | k_is | rfl)
    (case hca_InvalidItems => first | k_is | rfl)
    (case hcm_InvalidItems => first | k_is | rfl)
    (case hca_InvalidRun => first | k_is | rfl)
    (case hcm_InvalidRun => first | k_is | rfl)
    (case hca_InvalidColour => first | k_is | rfl)
    (case hcm_InvalidColour => first | k_is | rfl)
    (case hss_InvalidColour => first | k_is | rfl)
    (case hca_TooMany => first | k_is | rfl)
    (case hcm_TooMany => first | k_is | rfl)
    (case hss_TooMany => first | k_is | rfl)
    (case hsu_InvalidLength_InvalidItems => first | k_is | rfl)
    (case hsu_InvalidItems_InvalidItems => first | k_is | rfl)
    (case hsu_InvalidRun_InvalidItems => first | k_is | rfl)
    (case hsu_InvalidColour_InvalidItems => first | k_is | rfl)
    (case hsu_TooMany_InvalidItems => first | k_is | rfl)
    (case hsu_InvalidLength_InvalidRun => first | k_is | rfl)
    (case hsu_InvalidItems_InvalidRun => first | k_is | rfl)
    (case hsu_InvalidRun_InvalidRun => first | k_is | rfl)
    (case hsu_InvalidColour_InvalidRun => first | k_is | rfl)
    (case hsu_TooMany_InvalidRun => first | k_is | rfl)
    (case hsu_InvalidLength_PressError => first | k_is | rfl)
    (case hsu_InvalidItems_PressError => first | k_is | rfl)
    (case hsu_InvalidRun_PressError => first | k_is | rfl)
    (case hsu_InvalidColour_PressError => first | k_is | rfl)
    (case hsu_TooMany_PressError => first | k_is | rfl)
